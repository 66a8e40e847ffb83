import PyProof.Rows.All
import Wide.All
import OpenK.AllK
import Wide.FinOn
import HandS.ForMost
import HandS.AnyAll
import HandS.TupAny
import HandS.IsInst
import HandS.Style
import HandS.Deep
import HandS.FStr
import HandS.Exc
import HandS.TryOnly
import HandS.Flow
import HandS.Star
import HandS.RaiseMore
import HandS.Text
import HandS.ExcOwn
import HandS.Iter
import HandS.Rev
import HandS.Zip
import KE.GoesEnum
import HandS.NoneIn
import HandS.GenBody
import HandS.GenList
import HandS.GenOver
import HandS.ExcIs
import HandS.EndTab
import HandS.Words
import KE.KIntText
import PySem.Challenge.RW_orderneed_k30_journals
set_option Elab.async false
set_option linter.all false
set_option maxRecDepth 100000
/-! Pu1: pure data, who owns what, and when a heap bears it. -/
namespace Pu
open PySem PySem.Spec PyProof.Rows L2

/-- a node's flag: settled for ever; owned by one place; seen in passing -/
inductive Fl where | fz | ow | vw
  deriving DecidableEq

inductive D where
  | non | bl (b : Bool) | int (i : Int) | str (s : Str)
  | tup (xs : List D)
  | lst (f : Fl) (xs : List D)
  | obj (f : Fl) (c : Nat) (ns : List Str) (xs : List D)
  | dct (f : Fl) (ks : List Key) (xs : List D)
  /-- just this value (a part that was taken out) -/
  | is (v : V)

def Fl.fzd : Fl → Fl
  | .ow => .fz
  | f => f
def Fl.vwd : Fl → Fl
  | .ow => .vw
  | f => f
/-- all that was settled is seen in passing alone -/
def Fl.vwa : Fl → Fl
  | .fz => .vw
  | f => f
mutual
def fzD : D → D
  | .non => .non | .bl b => .bl b | .int i => .int i | .str s => .str s | .is v => .is v
  | .tup xs => .tup (fzDs xs) | .lst f xs => .lst f.fzd (fzDs xs) | .obj f c ns xs => .obj f.fzd c ns (fzDs xs) | .dct f ks xs => .dct f.fzd ks (fzDs xs)
def fzDs : List D → List D
  | [] => []
  | x :: xs => fzD x :: fzDs xs
end
mutual
def vwD : D → D
  | .non => .non | .bl b => .bl b | .int i => .int i | .str s => .str s | .is v => .is v
  | .tup xs => .tup (vwDs xs) | .lst f xs => .lst f.vwd (vwDs xs) | .obj f c ns xs => .obj f.vwd c ns (vwDs xs) | .dct f ks xs => .dct f.vwd ks (vwDs xs)
def vwDs : List D → List D
  | [] => []
  | x :: xs => vwD x :: vwDs xs
end
mutual
def vaD : D → D
  | .non => .non | .bl b => .bl b | .int i => .int i | .str s => .str s | .is v => .is v
  | .tup xs => .tup (vaDs xs) | .lst f xs => .lst f.vwa (vaDs xs) | .obj f c ns xs => .obj f.vwa c ns (vaDs xs) | .dct f ks xs => .dct f.vwa ks (vaDs xs)
def vaDs : List D → List D
  | [] => []
  | x :: xs => vaD x :: vaDs xs
end
mutual
def noVw : D → Bool
  | .tup xs => noVws xs | .lst f xs => decide (f ≠ .vw) && noVws xs | .obj f _ _ xs => decide (f ≠ .vw) && noVws xs | .dct f _ xs => decide (f ≠ .vw) && noVws xs
  | _ => true
def noVws : List D → Bool
  | [] => true
  | x :: xs => noVw x && noVws xs
end
mutual
def allFz : D → Bool
  | .tup xs => allFzs xs | .lst f xs => decide (f = .fz) && allFzs xs | .obj f _ _ xs => decide (f = .fz) && allFzs xs | .dct f _ xs => decide (f = .fz) && allFzs xs
  | _ => true
def allFzs : List D → Bool
  | [] => true
  | x :: xs => allFz x && allFzs xs
end
mutual
theorem allFz_noVw : ∀ d : D, allFz d = true → noVw d = true
  | .non, _ => rfl | .bl _, _ => rfl | .int _, _ => rfl | .str _, _ => rfl | .is _, _ => rfl
  | .tup xs, h => by simp only [allFz, noVw] at *; exact allFzs_noVws xs h
  | .lst f xs, h => by
    simp only [allFz, noVw, Bool.and_eq_true, decide_eq_true_eq] at *
    exact ⟨by rw [h.1]; exact (fun z => by cases z), allFzs_noVws xs h.2⟩
  | .obj f c ns xs, h => by
    simp only [allFz, noVw, Bool.and_eq_true, decide_eq_true_eq] at *
    exact ⟨by rw [h.1]; exact (fun z => by cases z), allFzs_noVws xs h.2⟩
  | .dct f ks xs, h => by
    simp only [allFz, noVw, Bool.and_eq_true, decide_eq_true_eq] at *
    exact ⟨by rw [h.1]; exact (fun z => by cases z), allFzs_noVws xs h.2⟩
theorem allFzs_noVws : ∀ ds : List D, allFzs ds = true → noVws ds = true
  | [], _ => rfl
  | d :: ds, h => by
    simp only [allFzs, noVws, Bool.and_eq_true] at *
    exact ⟨allFz_noVw d h.1, allFzs_noVws ds h.2⟩
end
mutual
theorem fzD_allFz : ∀ d : D, noVw d = true → allFz (fzD d) = true
  | .non, _ => rfl | .bl _, _ => rfl | .int _, _ => rfl | .str _, _ => rfl | .is _, _ => rfl
  | .tup xs, h => by simp only [allFz, noVw, fzD] at *; exact fzDs_allFzs xs h
  | .lst f xs, h => by
    simp only [allFz, noVw, fzD, Bool.and_eq_true, decide_eq_true_eq] at *
    exact ⟨by cases f <;> first | rfl | exact absurd rfl h.1, fzDs_allFzs xs h.2⟩
  | .obj f c ns xs, h => by
    simp only [allFz, noVw, fzD, Bool.and_eq_true, decide_eq_true_eq] at *
    exact ⟨by cases f <;> first | rfl | exact absurd rfl h.1, fzDs_allFzs xs h.2⟩
  | .dct f ks xs, h => by
    simp only [allFz, noVw, fzD, Bool.and_eq_true, decide_eq_true_eq] at *
    exact ⟨by cases f <;> first | rfl | exact absurd rfl h.1, fzDs_allFzs xs h.2⟩
theorem fzDs_allFzs : ∀ ds : List D, noVws ds = true → allFzs (fzDs ds) = true
  | [], _ => rfl
  | d :: ds, h => by
    simp only [allFzs, noVws, fzDs, Bool.and_eq_true] at *
    exact ⟨fzD_allFz d h.1, fzDs_allFzs ds h.2⟩
end
theorem vwDs_eq : ∀ xs : List D, vwDs xs = xs.map vwD
  | [] => rfl
  | x :: xs => by simp only [vwDs, List.map_cons, vwDs_eq xs]
theorem fzDs_eq : ∀ xs : List D, fzDs xs = xs.map fzD
  | [] => rfl
  | x :: xs => by simp only [fzDs, List.map_cons, fzDs_eq xs]
theorem vaDs_eq : ∀ xs : List D, vaDs xs = xs.map vaD
  | [] => rfl
  | x :: xs => by simp only [vaDs, List.map_cons, vaDs_eq xs]
theorem noVws_eq : ∀ xs : List D, noVws xs = xs.all noVw
  | [] => rfl
  | x :: xs => by simp only [noVws, List.all_cons, noVws_eq xs]
theorem allFzs_eq : ∀ xs : List D, allFzs xs = xs.all allFz
  | [] => rfl
  | x :: xs => by simp only [allFzs, List.all_cons, allFzs_eq xs]

/-! ### the heap -/
def isTbl : HO → Bool
  | .tbl _ => true
  | _ => false
/-- all stands as it stood, but for tables of code, which may grow -/
def Keep (H H' : Hp) : Prop := ∀ a u, H a = some u → H' a = some u ∨ (isTbl u = true ∧ ∃ ps, H' a = some (.tbl ps))
theorem Keep.refl (H : Hp) : Keep H H := fun _ _ h => .inl h
theorem Keep.at {H H' : Hp} (k : Keep H H') {a : Addr} {u : HO} (h : H a = some u) (t : isTbl u = false) : H' a = some u := by
  rcases k a u h with e | ⟨e, _⟩
  · exact e
  · rw [t] at e; cases e
theorem Keep.trans {H H1 H2 : Hp} (a : Keep H H1) (b : Keep H1 H2) : Keep H H2 := fun c u h => by
  rcases a c u h with e | ⟨e, ps, q⟩
  · exact b c u e
  · rcases b c _ q with e2 | ⟨_, ps2, q2⟩
    · exact .inr ⟨e, ps, e2⟩
    · exact .inr ⟨e, ps2, q2⟩
theorem Keep.new {H : Hp} {p : Addr} {o : HO} (h : H p = none) : Keep H (upd H p o) := fun a u e => .inl (by
  rw [upd_ne (ne_of_none e h)]; exact e)
theorem Keep.none {H H' : Hp} (k : Keep H H') {a : Addr} (h : H' a = none) : H a = none := by
  cases e : H a with
  | none => rfl
  | some u =>
    rcases k a u e with q | ⟨_, ps, q⟩
    · rw [h] at q; cases q
    · rw [h] at q; cases q
/-- written part alone -/
def WrL (K : PySem.W.Frag) (a : Addr) (vs : List V) : Prop := SqL K (fun _ => none) a vs
theorem WrL.seq {K : PySem.W.Frag} {H : Hp} {a : Addr} {vs : List V} (h : WrL K a vs) : SqL K H a vs := by
  rcases h with (h | ⟨o, h⟩) | h
  · cases h
  · cases h
  · exact .inr h
theorem keep_seq {K : PySem.W.Frag} {H H' : Hp} {a : Addr} {vs : List V} (k : Keep H H') (h : SqL K H a vs) : SqL K H' a vs := by
  rcases h with (h | ⟨o, h⟩) | h
  · exact .inl (.inl (k.at h rfl))
  · exact .inl (.inr ⟨o, k.at h rfl⟩)
  · exact .inr h
theorem keep_tup {K : PySem.W.Frag} {H H' : Hp} {a : Addr} {vs : List V} (k : Keep H H') (h : SqT K H a vs) : SqT K H' a vs := by
  rcases h with (h | ⟨o, h⟩) | h
  · exact .inl (.inl (k.at h rfl))
  · exact .inl (.inr ⟨o, k.at h rfl⟩)
  · exact .inr h

section
variable (K : PySem.W.Frag) (cl : Nat → Addr)
/-- a list's node -/
inductive NL (H : Hp) (Fz : Addr → Prop) : Fl → Addr → List V → List Addr → Prop
  | fz {a vs} : H a = some (.lst vs) → Fz a → NL H Fz .fz a vs []
  | lk {a vs o} : H a = some (.frz o (.lst vs)) → NL H Fz .fz a vs []
  | wr {a vs} : WrL K a vs → NL H Fz .fz a vs []
  | ow {a vs} : H a = some (.lst vs) → NL H Fz .ow a vs [a]
  | vw {a vs} : SqL K H a vs → NL H Fz .vw a vs []
/-- an object's -/
inductive NO (H : Hp) (Fz : Addr → Prop) : Fl → Nat → Addr → List Str → List V → List Addr → Prop
  | fz {a c dx fvs} : H a = some (.ins (cl c) dx fvs) → Fz a → NO H Fz .fz c a (fvs.map (·.1)) (fvs.map (·.2)) []
  | ow {a c dx fvs} : H a = some (.ins (cl c) dx fvs) → NO H Fz .ow c a (fvs.map (·.1)) (fvs.map (·.2)) [a]
  | vw {a c dx fvs} : H a = some (.ins (cl c) dx fvs) → NO H Fz .vw c a (fvs.map (·.1)) (fvs.map (·.2)) []
/-- a dict's -/
inductive ND (H : Hp) (Fz : Addr → Prop) : Fl → Addr → List Key → List V → List Addr → Prop
  | fz {a kvs} : H a = some (.dK kvs) → Fz a → ND H Fz .fz a (kvs.map (·.1)) (kvs.map (·.2)) []
  | ow {a kvs} : H a = some (.dK kvs) → ND H Fz .ow a (kvs.map (·.1)) (kvs.map (·.2)) [a]
  | vw {a kvs} : H a = some (.dK kvs) → ND H Fz .vw a (kvs.map (·.1)) (kvs.map (·.2)) []
mutual
inductive Own (H : Hp) (Fz : Addr → Prop) : V → D → List Addr → Prop
  | non : Own H Fz .non .non []
  | bl (b) : Own H Fz (.bl b) (.bl b) []
  | int (i) : Own H Fz (.int i) (.int i) []
  | str (s) : Own H Fz (.str s) (.str s) []
  | is (v) : Own H Fz v (.is v) []
  | tup {a vs ds fp} : SqT K H a vs → Owns H Fz vs ds fp → Own H Fz (.ref a) (.tup ds) fp
  | lst {f a vs ds f0 fp} : NL K H Fz f a vs f0 → Owns H Fz vs ds fp → Own H Fz (.ref a) (.lst f ds) (f0 ++ fp)
  | obj {f c a ns vs ds f0 fp} : NO cl H Fz f c a ns vs f0 → Owns H Fz vs ds fp → Own H Fz (.ref a) (.obj f c ns ds) (f0 ++ fp)
  | dct {f a ks vs ds f0 fp} : ND H Fz f a ks vs f0 → Owns H Fz vs ds fp → Own H Fz (.ref a) (.dct f ks ds) (f0 ++ fp)
inductive Owns (H : Hp) (Fz : Addr → Prop) : List V → List D → List Addr → Prop
  | nil : Owns H Fz [] [] []
  | cons {v vs d ds f1 f2} : Own H Fz v d f1 → Owns H Fz vs ds f2 → Owns H Fz (v :: vs) (d :: ds) (f1 ++ f2)
end
end

section
variable {K : PySem.W.Frag} {cl : Nat → Addr} {H H' : Hp} {Fz Fz' : Addr → Prop}
theorem NL.seq {f a vs f0} (h : NL K H Fz f a vs f0) : SqL K H a vs := by
  cases h with
  | fz h _ => exact SqL.of h
  | lk h => exact .inl (.inr ⟨_, h⟩)
  | wr h => exact h.seq
  | ow h => exact SqL.of h
  | vw h => exact h
theorem NO.ins {f c a ns vs f0} (h : NO cl H Fz f c a ns vs f0) : ∃ dx fvs, H a = some (.ins (cl c) dx fvs) ∧ ns = fvs.map (·.1) ∧ vs = fvs.map (·.2) := by
  cases h with
  | fz h _ => exact ⟨_, _, h, rfl, rfl⟩
  | ow h => exact ⟨_, _, h, rfl, rfl⟩
  | vw h => exact ⟨_, _, h, rfl, rfl⟩
theorem ND.dk {f a ks vs f0} (h : ND H Fz f a ks vs f0) : ∃ kvs, H a = some (.dK kvs) ∧ ks = kvs.map (·.1) ∧ vs = kvs.map (·.2) := by
  cases h with
  | fz h _ => exact ⟨_, h, rfl, rfl⟩
  | ow h => exact ⟨_, h, rfl, rfl⟩
  | vw h => exact ⟨_, h, rfl, rfl⟩
theorem NL.keep {f a vs f0} (k : Keep H H') (z : ∀ a, H a ≠ none → Fz a → Fz' a) (h : NL K H Fz f a vs f0) : NL K H' Fz' f a vs f0 := by
  cases h with
  | fz h1 h2 => exact .fz (k.at h1 rfl) (z _ (by rw [h1]; exact (fun q => by cases q)) h2)
  | lk h => exact .lk (k.at h rfl)
  | wr h => exact .wr h
  | ow h => exact .ow (k.at h rfl)
  | vw h => exact .vw (keep_seq k h)
theorem NO.keep {f c a ns vs f0} (k : Keep H H') (z : ∀ a, H a ≠ none → Fz a → Fz' a) (h : NO cl H Fz f c a ns vs f0) : NO cl H' Fz' f c a ns vs f0 := by
  cases h with
  | fz h1 h2 => exact .fz (k.at h1 rfl) (z _ (by rw [h1]; exact (fun q => by cases q)) h2)
  | ow h => exact .ow (k.at h rfl)
  | vw h => exact .vw (k.at h rfl)
theorem ND.keep {f a ks vs f0} (k : Keep H H') (z : ∀ a, H a ≠ none → Fz a → Fz' a) (h : ND H Fz f a ks vs f0) : ND H' Fz' f a ks vs f0 := by
  cases h with
  | fz h1 h2 => exact .fz (k.at h1 rfl) (z _ (by rw [h1]; exact (fun q => by cases q)) h2)
  | ow h => exact .ow (k.at h rfl)
  | vw h => exact .vw (k.at h rfl)
mutual
theorem Own.keep (k : Keep H H') (z : ∀ a, H a ≠ none → Fz a → Fz' a) : ∀ {d : D} {v : V} {fp : List Addr}, Own K cl H Fz v d fp → Own K cl H' Fz' v d fp
  | .non, _, _, h => by cases h; exact .non
  | .bl _, _, _, h => by cases h; exact .bl _
  | .int _, _, _, h => by cases h; exact .int _
  | .str _, _, _, h => by cases h; exact .str _
  | .is _, _, _, h => by cases h; exact .is _
  | .tup ds, _, _, h => by cases h with | tup a b => exact .tup (keep_tup k a) (Owns.keep k z b)
  | .lst f ds, _, _, h => by cases h with | lst a b => exact .lst (a.keep k z) (Owns.keep k z b)
  | .obj f c ns ds, _, _, h => by cases h with | obj a b => exact .obj (a.keep k z) (Owns.keep k z b)
  | .dct f ks ds, _, _, h => by cases h with | dct a b => exact .dct (a.keep k z) (Owns.keep k z b)
theorem Owns.keep (k : Keep H H') (z : ∀ a, H a ≠ none → Fz a → Fz' a) : ∀ {ds : List D} {vs : List V} {fp : List Addr}, Owns K cl H Fz vs ds fp → Owns K cl H' Fz' vs ds fp
  | [], _, _, h => by cases h; exact .nil
  | d :: ds, _, _, h => by cases h with | cons a b => exact .cons (Own.keep k z a) (Owns.keep k z b)
end
/-- an owned node stands and is one that may change -/
def MutAt (H : Hp) (p : Addr) : Prop := Mut (H p) ∧ H p ≠ none
mutual
theorem Own.mut : ∀ {d : D} {v : V} {fp : List Addr}, Own K cl H Fz v d fp → ∀ p ∈ fp, MutAt H p
  | .non, _, _, h, p, hp => by cases h; cases hp
  | .bl _, _, _, h, p, hp => by cases h; cases hp
  | .int _, _, _, h, p, hp => by cases h; cases hp
  | .str _, _, _, h, p, hp => by cases h; cases hp
  | .is _, _, _, h, p, hp => by cases h; cases hp
  | .tup ds, _, _, h, p, hp => by cases h with | tup a b => exact Owns.mut b p hp
  | .lst f ds, _, _, h, p, hp => by
    cases h with
    | lst a b =>
      rcases List.mem_append.mp hp with hp | hp
      · cases a with
        | ow e => rw [List.mem_singleton.mp hp]; exact ⟨by rw [e]; trivial, by rw [e]; exact (fun q => by cases q)⟩
        | fz _ _ => cases hp
        | lk _ => cases hp
        | wr _ => cases hp
        | vw _ => cases hp
      · exact Owns.mut b p hp
  | .obj f c ns ds, _, _, h, p, hp => by
    cases h with
    | obj a b =>
      rcases List.mem_append.mp hp with hp | hp
      · cases a with
        | ow e => rw [List.mem_singleton.mp hp]; exact ⟨by rw [e]; trivial, by rw [e]; exact (fun q => by cases q)⟩
        | fz _ _ => cases hp
        | vw _ => cases hp
      · exact Owns.mut b p hp
  | .dct f ks ds, _, _, h, p, hp => by
    cases h with
    | dct a b =>
      rcases List.mem_append.mp hp with hp | hp
      · cases a with
        | ow e => rw [List.mem_singleton.mp hp]; exact ⟨by rw [e]; trivial, by rw [e]; exact (fun q => by cases q)⟩
        | fz _ _ => cases hp
        | vw _ => cases hp
      · exact Owns.mut b p hp
theorem Owns.mut : ∀ {ds : List D} {vs : List V} {fp : List Addr}, Owns K cl H Fz vs ds fp → ∀ p ∈ fp, MutAt H p
  | [], _, _, h, p, hp => by cases h; cases hp
  | d :: ds, _, _, h, p, hp => by
    cases h with
    | cons a b =>
      rcases List.mem_append.mp hp with hp | hp
      · exact Own.mut a p hp
      · exact Owns.mut b p hp
end
mutual
/-- seen in passing -/
theorem Own.view : ∀ {d : D} {v : V} {fp : List Addr}, Own K cl H Fz v d fp → Own K cl H Fz v (vwD d) []
  | .non, _, _, h => by cases h; exact .non
  | .bl _, _, _, h => by cases h; exact .bl _
  | .int _, _, _, h => by cases h; exact .int _
  | .str _, _, _, h => by cases h; exact .str _
  | .is _, _, _, h => by cases h; exact .is _
  | .tup ds, _, _, h => by cases h with | tup a b => exact .tup a (Owns.view b)
  | .lst f ds, _, _, h => by
    cases h with
    | lst a b =>
      have b' := Owns.view b
      cases a with
      | fz h1 h2 => exact .lst (.fz h1 h2) b'
      | lk h => exact .lst (.lk h) b'
      | wr h => exact .lst (.wr h) b'
      | ow h => exact .lst (.vw (SqL.of h)) b'
      | vw h => exact .lst (.vw h) b'
  | .obj f c ns ds, _, _, h => by
    cases h with
    | obj a b =>
      have b' := Owns.view b
      cases a with
      | fz h1 h2 => exact .obj (.fz h1 h2) b'
      | ow h => exact .obj (.vw h) b'
      | vw h => exact .obj (.vw h) b'
  | .dct f ks ds, _, _, h => by
    cases h with
    | dct a b =>
      have b' := Owns.view b
      cases a with
      | fz h1 h2 => exact .dct (.fz h1 h2) b'
      | ow h => exact .dct (.vw h) b'
      | vw h => exact .dct (.vw h) b'
theorem Owns.view : ∀ {ds : List D} {vs : List V} {fp : List Addr}, Owns K cl H Fz vs ds fp → Owns K cl H Fz vs (vwDs ds) []
  | [], _, _, h => by cases h; exact .nil
  | d :: ds, _, _, h => by cases h with | cons a b => exact .cons (Own.view a) (Owns.view b)
end
mutual
/-- settled: its nodes may be so -/
theorem Own.freeze (z : ∀ a, Fz a → Fz' a) : ∀ {d : D} {v : V} {fp : List Addr}, Own K cl H Fz v d fp → (∀ p ∈ fp, Fz' p) → Own K cl H Fz' v (fzD d) []
  | .non, _, _, h, _ => by cases h; exact .non
  | .bl _, _, _, h, _ => by cases h; exact .bl _
  | .int _, _, _, h, _ => by cases h; exact .int _
  | .str _, _, _, h, _ => by cases h; exact .str _
  | .is _, _, _, h, _ => by cases h; exact .is _
  | .tup ds, _, _, h, q => by cases h with | tup a b => exact .tup a (Owns.freeze z b q)
  | .lst f ds, _, _, h, q => by
    cases h with
    | lst a b =>
      have b' := Owns.freeze z b fun p hp => q p (List.mem_append_right _ hp)
      cases a with
      | fz h1 h2 => exact .lst (.fz h1 (z _ h2)) b'
      | lk h => exact .lst (.lk h) b'
      | wr h => exact .lst (.wr h) b'
      | ow h => exact .lst (.fz h (q _ (List.mem_append_left _ (List.mem_singleton.mpr rfl)))) b'
      | vw h => exact .lst (.vw h) b'
  | .obj f c ns ds, _, _, h, q => by
    cases h with
    | obj a b =>
      have b' := Owns.freeze z b fun p hp => q p (List.mem_append_right _ hp)
      cases a with
      | fz h1 h2 => exact .obj (.fz h1 (z _ h2)) b'
      | ow h => exact .obj (.fz h (q _ (List.mem_append_left _ (List.mem_singleton.mpr rfl)))) b'
      | vw h => exact .obj (.vw h) b'
  | .dct f ks ds, _, _, h, q => by
    cases h with
    | dct a b =>
      have b' := Owns.freeze z b fun p hp => q p (List.mem_append_right _ hp)
      cases a with
      | fz h1 h2 => exact .dct (.fz h1 (z _ h2)) b'
      | ow h => exact .dct (.fz h (q _ (List.mem_append_left _ (List.mem_singleton.mpr rfl)))) b'
      | vw h => exact .dct (.vw h) b'
theorem Owns.freeze (z : ∀ a, Fz a → Fz' a) : ∀ {ds : List D} {vs : List V} {fp : List Addr}, Owns K cl H Fz vs ds fp → (∀ p ∈ fp, Fz' p) → Owns K cl H Fz' vs (fzDs ds) []
  | [], _, _, h, _ => by cases h; exact .nil
  | d :: ds, _, _, h, q => by
    cases h with
    | cons a b => exact .cons (Own.freeze z a fun p hp => q p (List.mem_append_left _ hp)) (Owns.freeze z b fun p hp => q p (List.mem_append_right _ hp))
end
mutual
/-- what was settled in another's eyes is seen in passing -/
theorem Own.va : ∀ {d : D} {v : V} {fp : List Addr}, Own K cl H Fz v d fp → Own K cl H Fz' v (vaD d) fp
  | .non, _, _, h => by cases h; exact .non
  | .bl _, _, _, h => by cases h; exact .bl _
  | .int _, _, _, h => by cases h; exact .int _
  | .str _, _, _, h => by cases h; exact .str _
  | .is _, _, _, h => by cases h; exact .is _
  | .tup ds, _, _, h => by cases h with | tup a b => exact .tup a (Owns.va b)
  | .lst f ds, _, _, h => by
    cases h with
    | lst a b =>
      have b' := Owns.va b
      cases a with
      | fz h1 h2 => exact .lst (.vw (SqL.of h1)) b'
      | lk h => exact .lst (.vw (.inl (.inr ⟨_, h⟩))) b'
      | wr h => exact .lst (.vw h.seq) b'
      | ow h => exact .lst (.ow h) b'
      | vw h => exact .lst (.vw h) b'
  | .obj f c ns ds, _, _, h => by
    cases h with
    | obj a b =>
      have b' := Owns.va b
      cases a with
      | fz h1 h2 => exact .obj (.vw h1) b'
      | ow h => exact .obj (.ow h) b'
      | vw h => exact .obj (.vw h) b'
  | .dct f ks ds, _, _, h => by
    cases h with
    | dct a b =>
      have b' := Owns.va b
      cases a with
      | fz h1 h2 => exact .dct (.vw h1) b'
      | ow h => exact .dct (.ow h) b'
      | vw h => exact .dct (.vw h) b'
theorem Owns.va : ∀ {ds : List D} {vs : List V} {fp : List Addr}, Owns K cl H Fz vs ds fp → Owns K cl H Fz' vs (vaDs ds) fp
  | [], _, _, h => by cases h; exact .nil
  | d :: ds, _, _, h => by cases h with | cons a b => exact .cons (Own.va a) (Owns.va b)
end
/-- p is changed: what neither owns p nor holds it as settled stays -/
theorem upd_at {p a : Addr} {o u : HO} (h : H a = some u) (n : a ≠ p) : upd H p o a = some u := by rw [upd_ne n]; exact h
mutual
theorem Own.upd {p : Addr} {o : HO} (mp : MutAt H p) (zp : ¬ Fz p) : ∀ {d : D} {v : V} {fp : List Addr}, Own K cl H Fz v d fp → noVw d = true → p ∉ fp → Own K cl (upd H p o) Fz v d fp
  | .non, _, _, h, _, _ => by cases h; exact .non
  | .bl _, _, _, h, _, _ => by cases h; exact .bl _
  | .int _, _, _, h, _, _ => by cases h; exact .int _
  | .str _, _, _, h, _, _ => by cases h; exact .str _
  | .is _, _, _, h, _, _ => by cases h; exact .is _
  | .tup ds, _, _, h, n, q => by
    cases h with
    | @tup a vs _ fp ha b =>
      refine .tup ?_ (Owns.upd mp zp b n q)
      have ne : ∀ u, H a = some u → Mut (some u) ∨ a ≠ p := fun u e => by
        by_cases z : a = p
        · left; rw [← e, z]; exact mp.1
        · exact .inr z
      rcases ha with (e | ⟨w, e⟩) | e
      · rcases ne _ e with z | z
        · exact z.elim
        · exact .inl (.inl (upd_at e z))
      · rcases ne _ e with z | z
        · exact z.elim
        · exact .inl (.inr ⟨w, upd_at e z⟩)
      · exact .inr e
  | .lst f ds, _, _, h, n, q => by
    simp only [noVw, Bool.and_eq_true, decide_eq_true_eq] at n
    cases h with
    | @lst _ a vs _ f0 fp ha b =>
      have b' := Owns.upd (o := o) mp zp b n.2 fun z => q (List.mem_append_right _ z)
      cases ha with
      | fz h1 h2 => exact .lst (.fz (upd_at h1 fun e => zp (e ▸ h2)) h2) b'
      | lk h =>
        refine .lst (.lk (upd_at h fun e => ?_)) b'
        have := mp.1
        rw [← e, h] at this
        exact this
      | wr h => exact .lst (.wr h) b'
      | ow h => exact .lst (.ow (upd_at h fun e => q (List.mem_append_left _ (by rw [e]; exact List.mem_singleton.mpr rfl)))) b'
      | vw h => exact absurd rfl n.1
  | .obj f c ns ds, _, _, h, n, q => by
    simp only [noVw, Bool.and_eq_true, decide_eq_true_eq] at n
    cases h with
    | @obj _ _ a _ vs _ f0 fp ha b =>
      have b' := Owns.upd (o := o) mp zp b n.2 fun z => q (List.mem_append_right _ z)
      cases ha with
      | fz h1 h2 => exact .obj (.fz (upd_at h1 fun e => zp (e ▸ h2)) h2) b'
      | ow h => exact .obj (.ow (upd_at h fun e => q (List.mem_append_left _ (by rw [e]; exact List.mem_singleton.mpr rfl)))) b'
      | vw h => exact absurd rfl n.1
  | .dct f ks ds, _, _, h, n, q => by
    simp only [noVw, Bool.and_eq_true, decide_eq_true_eq] at n
    cases h with
    | @dct _ a _ vs _ f0 fp ha b =>
      have b' := Owns.upd (o := o) mp zp b n.2 fun z => q (List.mem_append_right _ z)
      cases ha with
      | fz h1 h2 => exact .dct (.fz (upd_at h1 fun e => zp (e ▸ h2)) h2) b'
      | ow h => exact .dct (.ow (upd_at h fun e => q (List.mem_append_left _ (by rw [e]; exact List.mem_singleton.mpr rfl)))) b'
      | vw h => exact absurd rfl n.1
theorem Owns.upd {p : Addr} {o : HO} (mp : MutAt H p) (zp : ¬ Fz p) : ∀ {ds : List D} {vs : List V} {fp : List Addr}, Owns K cl H Fz vs ds fp → noVws ds = true → p ∉ fp → Owns K cl (upd H p o) Fz vs ds fp
  | [], _, _, h, _, _ => by cases h; exact .nil
  | d :: ds, _, _, h, n, q => by
    simp only [noVws, Bool.and_eq_true] at n
    cases h with
    | cons a b => exact .cons (Own.upd mp zp a n.1 fun z => q (List.mem_append_left _ z)) (Owns.upd mp zp b n.2 fun z => q (List.mem_append_right _ z))
end
mutual
theorem Own.fp_nil : ∀ {d : D} {v : V} {fp : List Addr}, Own K cl H Fz v d fp → allFz d = true → fp = []
  | .non, _, _, h, _ => by cases h; rfl
  | .bl _, _, _, h, _ => by cases h; rfl
  | .int _, _, _, h, _ => by cases h; rfl
  | .str _, _, _, h, _ => by cases h; rfl
  | .is _, _, _, h, _ => by cases h; rfl
  | .tup ds, _, _, h, n => by cases h with | tup a b => exact Owns.fp_nil b n
  | .lst f ds, _, _, h, n => by
    simp only [allFz, Bool.and_eq_true, decide_eq_true_eq] at n
    obtain ⟨rfl, n⟩ := n
    cases h with | lst a b => rw [Owns.fp_nil b n]; cases a <;> rfl
  | .obj f c ns ds, _, _, h, n => by
    simp only [allFz, Bool.and_eq_true, decide_eq_true_eq] at n
    obtain ⟨rfl, n⟩ := n
    cases h with | obj a b => rw [Owns.fp_nil b n]; cases a <;> rfl
  | .dct f ks ds, _, _, h, n => by
    simp only [allFz, Bool.and_eq_true, decide_eq_true_eq] at n
    obtain ⟨rfl, n⟩ := n
    cases h with | dct a b => rw [Owns.fp_nil b n]; cases a <;> rfl
theorem Owns.fp_nil : ∀ {ds : List D} {vs : List V} {fp : List Addr}, Owns K cl H Fz vs ds fp → allFzs ds = true → fp = []
  | [], _, _, h, _ => by cases h; rfl
  | d :: ds, _, _, h, n => by
    simp only [allFzs, Bool.and_eq_true] at n
    cases h with | cons a b => rw [Own.fp_nil a n.1, Owns.fp_nil b n.2]; rfl
end
theorem Owns.length : ∀ {ds : List D} {vs : List V} {fp : List Addr}, Owns K cl H Fz vs ds fp → vs.length = ds.length
  | [], _, _, h => by cases h; rfl
  | d :: ds, _, _, h => by cases h with | cons a b => rw [List.length_cons, List.length_cons, b.length]
/-- a part of a footprint -/
def Sb (a b : List Addr) : Prop := ∃ r, (a ++ r).Perm b
theorem Sb.refl (a : List Addr) : Sb a a := ⟨[], by rw [List.append_nil]⟩
theorem Sb.nil (a : List Addr) : Sb [] a := ⟨a, List.Perm.refl _⟩
theorem Sb.of_perm {a b : List Addr} (h : a.Perm b) : Sb a b := ⟨[], by rw [List.append_nil]; exact h⟩
theorem Sb.trans {a b c : List Addr} : Sb a b → Sb b c → Sb a c
  | ⟨r, h⟩, ⟨t, k⟩ => ⟨r ++ t, by rw [← List.append_assoc]; exact (h.append_right t).trans k⟩
theorem Sb.left (a b : List Addr) : Sb a (a ++ b) := ⟨b, List.Perm.refl _⟩
theorem Sb.right (a b : List Addr) : Sb b (a ++ b) := ⟨a, List.perm_append_comm⟩
theorem Sb.mem {a b : List Addr} : Sb a b → ∀ p ∈ a, p ∈ b
  | ⟨r, h⟩, p, hp => h.subset (List.mem_append_left _ hp)
theorem Sb.nodup {a b : List Addr} : Sb a b → b.Nodup → a.Nodup
  | ⟨r, h⟩, n => (List.nodup_append.mp ((h.nodup_iff).mpr n)).1
theorem Sb.app {a b c e : List Addr} : Sb a b → Sb c e → Sb (a ++ c) (b ++ e)
  | ⟨r, h⟩, ⟨t, k⟩ => ⟨r ++ t, by
    have e1 : ((a ++ c) ++ (r ++ t)).Perm ((a ++ r) ++ (c ++ t)) := by
      rw [List.append_assoc, List.append_assoc]
      refine List.Perm.append_left a ?_
      rw [← List.append_assoc, ← List.append_assoc]
      exact (List.perm_append_comm).append_right t
    exact e1.trans (h.append k)⟩
theorem Owns.get : ∀ {ds : List D} {vs : List V} {fp : List Addr} {i : Nat} {d : D}, Owns K cl H Fz vs ds fp → ds[i]? = some d → ∃ v f, vs[i]? = some v ∧ Own K cl H Fz v d f ∧ Sb f fp
  | [], _, _, i, d, h, e => by simp at e
  | x :: ds, _, _, 0, d, h, e => by
    cases h with
    | cons a b =>
      simp only [List.getElem?_cons_zero, Option.some.injEq] at e
      subst e
      exact ⟨_, _, rfl, a, Sb.left _ _⟩
  | x :: ds, _, _, i + 1, d, h, e => by
    cases h with
    | cons a b =>
      obtain ⟨v, f, e1, o, s⟩ := Owns.get (i := i) b (by simpa using e)
      exact ⟨v, f, by simpa using e1, o, s.trans (Sb.right _ _)⟩
theorem Owns.append : ∀ {ds es : List D} {vs ws : List V} {f g : List Addr}, Owns K cl H Fz vs ds f → Owns K cl H Fz ws es g → Owns K cl H Fz (vs ++ ws) (ds ++ es) (f ++ g)
  | [], _, _, _, _, _, h, k => by cases h; exact k
  | x :: ds, _, _, _, _, _, h, k => by
    cases h with
    | cons a b => rw [List.append_assoc]; exact .cons a (Owns.append b k)
theorem Owns.take : ∀ {ds : List D} {vs : List V} {f : List Addr} (n : Nat), Owns K cl H Fz vs ds f → ∃ g, Owns K cl H Fz (vs.take n) (ds.take n) g ∧ Sb g f
  | _, _, f, 0, h => ⟨[], by rw [List.take_zero, List.take_zero]; exact .nil, Sb.nil _⟩
  | [], _, _, n + 1, h => by cases h; exact ⟨[], .nil, Sb.nil _⟩
  | x :: ds, _, _, n + 1, h => by
    cases h with
    | cons a b =>
      obtain ⟨g, o, s⟩ := Owns.take n b
      exact ⟨_, .cons a o, (Sb.refl _).app s⟩
theorem Owns.drop : ∀ {ds : List D} {vs : List V} {f : List Addr} (n : Nat), Owns K cl H Fz vs ds f → ∃ g, Owns K cl H Fz (vs.drop n) (ds.drop n) g ∧ Sb g f
  | _, _, f, 0, h => ⟨f, h, Sb.refl _⟩
  | [], _, _, n + 1, h => by cases h; exact ⟨[], .nil, Sb.nil _⟩
  | x :: ds, _, _, n + 1, h => by
    cases h with
    | cons a b =>
      obtain ⟨g, o, s⟩ := Owns.drop n b
      exact ⟨g, o, s.trans (Sb.right _ _)⟩
theorem Owns.reverse : ∀ {ds : List D} {vs : List V} {f : List Addr}, Owns K cl H Fz vs ds f → ∃ g, Owns K cl H Fz vs.reverse ds.reverse g ∧ g.Perm f
  | [], _, _, h => by cases h; exact ⟨[], .nil, List.Perm.refl _⟩
  | x :: ds, _, _, h => by
    cases h with
    | @cons v vs _ _ f1 f2 a b =>
      obtain ⟨g, o, s⟩ := Owns.reverse b
      refine ⟨g ++ (f1 ++ []), ?_, ?_⟩
      · rw [List.reverse_cons, List.reverse_cons]
        exact o.append (.cons a .nil)
      · rw [List.append_nil]
        exact (List.perm_append_comm).trans (s.append_left f1)
end
end Pu

set_option Elab.async false
set_option linter.all false
set_option maxRecDepth 100000
/-! Pu2: the state that an interpreter's state stands for. -/
namespace Pu
open PySem PySem.Spec PyProof.Rows L2

/-- what is fixed: the written part, the classes by number, the tables of code -/
structure Gb where
  K : PySem.W.Frag
  cl : Nat → Addr
  tabs : List Addr
  ec : Nat → Addr
def Tabs (tabs : List Addr) (H : Hp) : Prop := ∀ P ∈ tabs, GxR.TabG H P

section
variable (K : PySem.W.Frag) (cl : Nat → Addr)
inductive OwnS (H : Hp) (Fz : Addr → Prop) : L2.St → List (Option D) → List Addr → Prop
  | nil : OwnS H Fz [] [] []
  | skip {x σ ρ f} : OwnS H Fz σ ρ f → OwnS H Fz (x :: σ) (none :: ρ) f
  | put {v d σ ρ f1 f2} : Own K cl H Fz v d f1 → OwnS H Fz σ ρ f2 → OwnS H Fz (some v :: σ) (some d :: ρ) (f1 ++ f2)
end
section
variable {K : PySem.W.Frag} {cl : Nat → Addr} {H H' : Hp} {Fz Fz' : Addr → Prop} {σ : L2.St} {ρ : List (Option D)} {f : List Addr}
theorem OwnS.length (h : OwnS K cl H Fz σ ρ f) : σ.length = ρ.length := by
  induction h with
  | nil => rfl
  | skip _ ih => rw [List.length_cons, List.length_cons, ih]
  | put _ _ ih => rw [List.length_cons, List.length_cons, ih]
theorem OwnS.keep (k : Keep H H') (z : ∀ a, H a ≠ none → Fz a → Fz' a) (h : OwnS K cl H Fz σ ρ f) : OwnS K cl H' Fz' σ ρ f := by
  induction h with
  | nil => exact .nil
  | skip _ ih => exact .skip ih
  | put a _ ih => exact .put (a.keep k z) ih
theorem OwnS.mut (h : OwnS K cl H Fz σ ρ f) : ∀ p ∈ f, MutAt H p := by
  induction h with
  | nil => intro p hp; cases hp
  | skip _ ih => exact ih
  | put a _ ih =>
    intro p hp
    rcases List.mem_append.mp hp with hp | hp
    · exact a.mut p hp
    · exact ih p hp
theorem OwnS.get {i : Nat} {d : D} (h : OwnS K cl H Fz σ ρ f) (e : ρ[i]? = some (some d)) : ∃ v g, σ[i]? = some (some v) ∧ Own K cl H Fz v d g ∧ Sb g f := by
  induction h generalizing i with
  | nil => simp at e
  | skip _ ih =>
    cases i with
    | zero => simp at e
    | succ i => exact ih (by simpa using e)
  | put a _ ih =>
    cases i with
    | zero =>
      simp only [List.getElem?_cons_zero, Option.some.injEq] at e
      subst e
      exact ⟨_, _, rfl, a, Sb.left _ _⟩
    | succ i =>
      obtain ⟨v, g, e1, o, s⟩ := ih (i := i) (by simpa using e)
      exact ⟨v, g, by simpa using e1, o, s.trans (Sb.right _ _)⟩
theorem OwnS.set {i : Nat} {v : V} {d : D} {g : List Addr} (h : OwnS K cl H Fz σ ρ f) (hi : i < ρ.length) (o : Own K cl H Fz v d g) : ∃ f', OwnS K cl H Fz (σ.set i (some v)) (ρ.set i (some d)) f' ∧ Sb f' (g ++ f) := by
  induction h generalizing i with
  | nil => simp at hi
  | @skip x σ ρ f h ih =>
    cases i with
    | zero => exact ⟨_, .put o h, Sb.refl _⟩
    | succ i =>
      obtain ⟨f', q, s⟩ := ih (i := i) (by simpa using hi)
      exact ⟨f', .skip q, s⟩
  | @put v' d' σ ρ f1 f2 a h ih =>
    cases i with
    | zero => exact ⟨_, .put o h, (Sb.refl _).app (Sb.right _ _)⟩
    | succ i =>
      obtain ⟨f', q, s⟩ := ih (i := i) (by simpa using hi)
      refine ⟨_, .put a q, ((Sb.refl f1).app s).trans (Sb.of_perm ?_)⟩
      rw [← List.append_assoc, ← List.append_assoc]
      exact (List.perm_append_comm).append_right f2
/-- a slot forgotten -/
theorem OwnS.clear {i : Nat} {x : Option V} (h : OwnS K cl H Fz σ ρ f) : ∃ f', OwnS K cl H Fz (σ.set i x) (ρ.set i none) f' ∧ Sb f' f := by
  induction h generalizing i with
  | nil => exact ⟨[], .nil, Sb.refl _⟩
  | @skip y σ ρ f h ih =>
    cases i with
    | zero => exact ⟨_, .skip h, Sb.refl _⟩
    | succ i =>
      obtain ⟨f', q, s⟩ := ih (i := i)
      exact ⟨f', .skip q, s⟩
  | @put v' d' σ ρ f1 f2 a h ih =>
    cases i with
    | zero => exact ⟨_, .skip h, Sb.right _ _⟩
    | succ i =>
      obtain ⟨f', q, s⟩ := ih (i := i)
      exact ⟨_, .put a q, (Sb.refl f1).app s⟩
/-- a slot taken out -/
theorem OwnS.take {i : Nat} {d : D} {x : Option V} (h : OwnS K cl H Fz σ ρ f) (e : ρ[i]? = some (some d)) : ∃ v g f', σ[i]? = some (some v) ∧ Own K cl H Fz v d g ∧ OwnS K cl H Fz (σ.set i x) (ρ.set i none) f' ∧ (f' ++ g).Perm f := by
  induction h generalizing i with
  | nil => simp at e
  | @skip y σ ρ f h ih =>
    cases i with
    | zero => simp at e
    | succ i =>
      obtain ⟨v, g, f', e1, o, q, s⟩ := ih (i := i) (by simpa using e)
      exact ⟨v, g, f', by simpa using e1, o, .skip q, s⟩
  | @put v' d' σ ρ f1 f2 a h ih =>
    cases i with
    | zero =>
      simp only [List.getElem?_cons_zero, Option.some.injEq] at e
      subst e
      exact ⟨_, _, _, rfl, a, .skip h, List.perm_append_comm⟩
    | succ i =>
      obtain ⟨v, g, f', e1, o, q, s⟩ := ih (i := i) (by simpa using e)
      refine ⟨v, g, _, by simpa using e1, o, .put a q, ?_⟩
      rw [List.append_assoc]
      exact s.append_left f1
theorem OwnS.wipe {vs : List Nat} (h : OwnS K cl H Fz σ ρ f) : ∃ f', OwnS K cl H Fz (L2.wipe σ vs) (vs.foldr (fun i r => r.set i none) ρ) f' ∧ Sb f' f := by
  induction vs with
  | nil => exact ⟨f, h, Sb.refl _⟩
  | cons i vs ih =>
    obtain ⟨f', q, s⟩ := ih
    obtain ⟨f2, q2, s2⟩ := OwnS.clear (i := i) (x := none) q
    exact ⟨f2, q2, s2.trans s⟩
theorem Owns.split : ∀ {ds es : List D} {vs ws : List V} {f : List Addr}, Owns K cl H Fz (vs ++ ws) (ds ++ es) f → vs.length = ds.length → ∃ f1 f2, Owns K cl H Fz vs ds f1 ∧ Owns K cl H Fz ws es f2 ∧ f = f1 ++ f2
  | [], _, vs, _, f, h, e => by
    have z : vs = [] := List.eq_nil_of_length_eq_zero e
    subst z
    exact ⟨[], f, .nil, h, rfl⟩
  | d :: ds, _, [], _, f, h, e => by simp at e
  | d :: ds, _, v :: vs, _, f, h, e => by
    cases h with
    | cons a b =>
      obtain ⟨f1, f2, q1, q2, e2⟩ := Owns.split b (by simpa using e)
      exact ⟨_, f2, .cons a q1, q2, by rw [e2, List.append_assoc]⟩
end

/-- what may be held as settled -/
def Fzp (B : Hp) (F0 : Addr → Prop) (fp : List Addr) (a : Addr) : Prop := (F0 a ∨ B a = none) ∧ a ∉ fp

/-- the heap H bears the slots ρ (by the names' values σ) and the values td (at tv); what stood in B stands, and what is in Lk -/
structure Holds (G : Gb) (B : Hp) (F0 : Addr → Prop) (Lk : Hp) (σ : L2.St) (ρ : List (Option D)) (tv : List V) (td : List D) (H : Hp) : Prop where
  own : ∃ f1 f2, OwnS G.K G.cl H (Fzp B F0 (f1 ++ f2)) σ ρ f1 ∧ Owns G.K G.cl H (Fzp B F0 (f1 ++ f2)) tv td f2 ∧ (f1 ++ f2).Nodup ∧ ∀ p ∈ f1 ++ f2, B p = none
  kb : Keep B H
  kl : Keep Lk H
  tb : Tabs G.tabs H
section
variable {G : Gb} {B Lk H H' : Hp} {F0 : Addr → Prop} {σ : L2.St} {ρ : List (Option D)} {tv tv' : List V} {td td' : List D} {p : Addr} {v : V} {d : D}
theorem Tabs.new {tabs : List Addr} {o : HO} (h : Tabs tabs H) (hp : H p = none) : Tabs tabs (upd H p o) := fun P hP => by
  obtain ⟨ps, e, t⟩ := h P hP
  exact ⟨ps, by rw [upd_ne (ne_of_none e hp)]; exact e, t⟩
theorem Tabs.mut {tabs : List Addr} {o : HO} (h : Tabs tabs H) (hp : MutAt H p) : Tabs tabs (upd H p o) := fun P hP => by
  obtain ⟨ps, e, t⟩ := h P hP
  refine ⟨ps, ?_, t⟩
  rw [upd_ne]
  · exact e
  · intro z
    have := hp.1
    rw [← z, e] at this
    exact this
/-- the values on top turn into others that own no more -/
theorem Holds.re (h : Holds G B F0 Lk σ ρ tv td H) (k : Keep H H') (t : Tabs G.tabs H')
    (f : ∀ Fz f2, Owns G.K G.cl H Fz tv td f2 → ∃ g, Sb g f2 ∧ ∀ Fz' : Addr → Prop, (∀ a, H a ≠ none → Fz a → Fz' a) → (∀ p ∈ f2, p ∉ g → Fz' p) → Owns G.K G.cl H' Fz' tv' td' g) : Holds G B F0 Lk σ ρ tv' td' H' := by
  obtain ⟨⟨f1, f2, a, b, n, q⟩, kb, kl, tb⟩ := h
  obtain ⟨g, s, o⟩ := f _ f2 b
  have sub : Sb (f1 ++ g) (f1 ++ f2) := (Sb.refl f1).app s
  have mono : ∀ a, H a ≠ none → Fzp B F0 (f1 ++ f2) a → Fzp B F0 (f1 ++ g) a := fun a _ z => ⟨z.1, fun m => z.2 (sub.mem a m)⟩
  refine ⟨⟨f1, g, a.keep k mono, o _ mono fun p hp hn => ⟨.inr (q p (List.mem_append_right _ hp)), fun m => ?_⟩, sub.nodup n, fun p hp => q p (sub.mem p hp)⟩, kb.trans k, kl.trans k, t⟩
  rcases List.mem_append.mp m with m | m
  · exact (List.nodup_append.mp n).2.2 p m p hp rfl
  · exact hn m
/-- .. and a new node of theirs -/
theorem Holds.al {o : HO} (h : Holds G B F0 Lk σ ρ tv td H) (hp : H p = none)
    (f : ∀ Fz f2, Owns G.K G.cl H Fz tv td f2 → ∃ g, Sb g f2 ∧ ∀ Fz' : Addr → Prop, (∀ a, H a ≠ none → Fz a → Fz' a) → (∀ p ∈ f2, p ∉ g → Fz' p) → Owns G.K G.cl (upd H p o) Fz' tv' td' (p :: g)) : Holds G B F0 Lk σ ρ tv' td' (upd H p o) := by
  obtain ⟨⟨f1, f2, a, b, n, q⟩, kb, kl, tb⟩ := h
  obtain ⟨g, s, ow⟩ := f _ f2 b
  have k : Keep H (upd H p o) := Keep.new hp
  have sub : Sb (f1 ++ g) (f1 ++ f2) := (Sb.refl f1).app s
  have np : p ∉ f1 ++ f2 := fun m => by
    rcases List.mem_append.mp m with m | m
    · exact (a.mut p m).2 hp
    · exact (b.mut p m).2 hp
  have pm : (f1 ++ p :: g).Perm (p :: (f1 ++ g)) := List.perm_middle
  have mono : ∀ a, H a ≠ none → Fzp B F0 (f1 ++ f2) a → Fzp B F0 (f1 ++ p :: g) a := fun a ha z => ⟨z.1, fun m => by
    rcases List.mem_cons.mp (pm.subset m) with m | m
    · exact ha (m ▸ hp)
    · exact z.2 (sub.mem a m)⟩
  refine ⟨⟨f1, p :: g, a.keep k mono, ow _ mono fun r hr hn => ⟨.inr (q r (List.mem_append_right _ hr)), fun m => ?_⟩, ?_, fun r hr => ?_⟩, kb.trans k, kl.trans k, tb.new hp⟩
  · rcases List.mem_append.mp m with m | m
    · exact (List.nodup_append.mp n).2.2 r m r hr rfl
    · rcases List.mem_cons.mp m with m | m
      · exact np (m ▸ List.mem_append_right _ hr)
      · exact hn m
  · rw [pm.nodup_iff]
    exact List.nodup_cons.mpr ⟨fun m => np (sub.mem p m), sub.nodup n⟩
  · rcases List.mem_cons.mp (pm.subset hr) with m | m
    · rw [m]; exact kb.none hp
    · exact q r (sub.mem r m)
theorem Holds.keep (h : Holds G B F0 Lk σ ρ tv td H) (k : Keep H H') (t : Tabs G.tabs H') : Holds G B F0 Lk σ ρ tv td H' :=
  h.re k t fun Fz f2 b => ⟨f2, Sb.refl _, fun Fz' m _ => b.keep k m⟩
theorem Holds.pop (h : Holds G B F0 Lk σ ρ (v :: tv) (d :: td) H) : Holds G B F0 Lk σ ρ tv td H :=
  h.re (Keep.refl _) h.tb fun Fz f2 b => by
    cases b with
    | cons a b => exact ⟨_, Sb.right _ _, fun Fz' m _ => b.keep (Keep.refl _) m⟩
theorem Holds.popn {vs : List V} {ds : List D} (h : Holds G B F0 Lk σ ρ (vs ++ tv) (ds ++ td) H) (e : vs.length = ds.length) : Holds G B F0 Lk σ ρ tv td H :=
  h.re (Keep.refl _) h.tb fun Fz f2 b => by
    obtain ⟨g1, g2, q1, q2, rfl⟩ := b.split e
    exact ⟨_, Sb.right _ _, fun Fz' m _ => q2.keep (Keep.refl _) m⟩
/-- a value that needs no heap -/
theorem Holds.push (h : Holds G B F0 Lk σ ρ tv td H) (o : ∀ Fz, Own G.K G.cl H Fz v d []) : Holds G B F0 Lk σ ρ (v :: tv) (d :: td) H :=
  h.re (Keep.refl _) h.tb fun Fz f2 b => ⟨f2, Sb.refl _, fun Fz' m _ => .cons (o _) (b.keep (Keep.refl _) m)⟩
/-- the top one settled -/
theorem Holds.frz (h : Holds G B F0 Lk σ ρ (v :: tv) (d :: td) H) : Holds G B F0 Lk σ ρ (v :: tv) (fzD d :: td) H := by
  obtain ⟨⟨f1, f2, a, b, n, q⟩, kb, kl, tb⟩ := h
  cases b with
  | @cons _ _ _ _ g1 g2 b1 b2 =>
    have s : Sb (f1 ++ g2) (f1 ++ (g1 ++ g2)) := (Sb.refl f1).app (Sb.right _ _)
    have mono : ∀ a, Fzp B F0 (f1 ++ (g1 ++ g2)) a → Fzp B F0 (f1 ++ g2) a := fun a z => ⟨z.1, fun m => z.2 (s.mem a m)⟩
    refine ⟨⟨f1, [] ++ g2, a.keep (Keep.refl _) fun a _ => mono a, .cons (b1.freeze mono fun p hp => ⟨.inr (q p (List.mem_append_right _ (List.mem_append_left _ hp))), fun m => ?_⟩) (b2.keep (Keep.refl _) fun a _ => mono a), s.nodup n, fun p hp => q p (s.mem p hp)⟩, kb, kl, tb⟩
    have n2 := List.nodup_append.mp n
    rcases List.mem_append.mp m with m | m
    · exact n2.2.2 p m p (List.mem_append_left _ hp) rfl
    · exact (List.nodup_append.mp n2.2.1).2.2 p hp p m rfl
/-- the top one replaced by what it holds -/
theorem Holds.part {v' : V} {d' : D} (h : Holds G B F0 Lk σ ρ (v :: tv) (d :: td) H) (f : ∀ Fz f, Own G.K G.cl H Fz v d f → ∃ g, Own G.K G.cl H Fz v' d' g ∧ Sb g f) : Holds G B F0 Lk σ ρ (v' :: tv) (d' :: td) H :=
  h.re (Keep.refl _) h.tb fun Fz f2 b => by
    cases b with
    | @cons _ _ _ _ g1 g2 b1 b2 =>
      obtain ⟨g, o, s⟩ := f _ _ b1
      exact ⟨g ++ g2, s.app (Sb.refl _), fun Fz' m _ => .cons (o.keep (Keep.refl _) m) (b2.keep (Keep.refl _) m)⟩
/-- what the top one is -/
theorem Holds.top (h : Holds G B F0 Lk σ ρ (v :: tv) (d :: td) H) : ∃ Fz f, Own G.K G.cl H Fz v d f := by
  obtain ⟨⟨f1, f2, a, b, n, q⟩, kb, kl, tb⟩ := h
  cases b with
  | cons b1 b2 => exact ⟨_, _, b1⟩
theorem Holds.topn {vs : List V} {ds : List D} (h : Holds G B F0 Lk σ ρ (vs ++ tv) (ds ++ td) H) (e : vs.length = ds.length) : ∃ Fz f, Owns G.K G.cl H Fz vs ds f := by
  obtain ⟨⟨f1, f2, a, b, n, q⟩, kb, kl, tb⟩ := h
  obtain ⟨g1, g2, q1, q2, rfl⟩ := b.split e
  exact ⟨_, _, q1⟩
theorem Holds.var {i : Nat} (h : Holds G B F0 Lk σ ρ tv td H) (e : ρ[i]? = some (some d)) : ∃ v, σ[i]? = some (some v) ∧ Holds G B F0 Lk σ ρ (v :: tv) (vwD d :: td) H := by
  obtain ⟨⟨f1, f2, a, b, n, q⟩, kb, kl, tb⟩ := h
  obtain ⟨v, g, e1, o, s⟩ := a.get e
  exact ⟨v, e1, ⟨f1, [] ++ f2, a, .cons o.view b, n, q⟩, kb, kl, tb⟩
theorem Holds.newTup {vs : List V} {ds : List D} (h : Holds G B F0 Lk σ ρ (vs ++ tv) (ds ++ td) H) (e : vs.length = ds.length) (hp : H p = none) : Holds G B F0 Lk σ ρ (.ref p :: tv) (.tup ds :: td) (upd H p (.tup vs)) :=
  h.re (Keep.new hp) (h.tb.new hp) fun Fz f2 b => by
    obtain ⟨g1, g2, q1, q2, rfl⟩ := b.split e
    exact ⟨g1 ++ g2, Sb.refl _, fun Fz' m _ => .cons (.tup (SqT.of upd_same) (q1.keep (Keep.new hp) m)) (q2.keep (Keep.new hp) m)⟩
theorem Holds.newLst {vs : List V} {ds : List D} (h : Holds G B F0 Lk σ ρ (vs ++ tv) (ds ++ td) H) (e : vs.length = ds.length) (hp : H p = none) : Holds G B F0 Lk σ ρ (.ref p :: tv) (.lst .ow ds :: td) (upd H p (.lst vs)) :=
  h.al hp fun Fz f2 b => by
    obtain ⟨g1, g2, q1, q2, rfl⟩ := b.split e
    refine ⟨g1 ++ g2, Sb.refl _, fun Fz' m _ => ?_⟩
    exact Owns.cons (f1 := [p] ++ g1) (.lst (.ow upd_same) (q1.keep (Keep.new hp) m)) (q2.keep (Keep.new hp) m)
/-- the top one goes below others -/
theorem Holds.down {vs : List V} {ds : List D} (h : Holds G B F0 Lk σ ρ (v :: (vs ++ tv)) (d :: (ds ++ td)) H) (e : vs.length = ds.length) : Holds G B F0 Lk σ ρ (vs ++ v :: tv) (ds ++ d :: td) H :=
  h.re (Keep.refl _) h.tb fun Fz f2 b => by
    cases b with
    | @cons _ _ _ _ g0 _ b1 b2 =>
      obtain ⟨g1, g2, q1, q2, rfl⟩ := b2.split e
      refine ⟨g1 ++ (g0 ++ g2), Sb.of_perm ?_, fun Fz' m _ => (q1.keep (Keep.refl _) m).append (.cons (b1.keep (Keep.refl _) m) (q2.keep (Keep.refl _) m))⟩
      rw [← List.append_assoc, ← List.append_assoc]
      exact (List.perm_append_comm).append_right g2
theorem Holds.up {vs : List V} {ds : List D} (h : Holds G B F0 Lk σ ρ (vs ++ v :: tv) (ds ++ d :: td) H) (e : vs.length = ds.length) : Holds G B F0 Lk σ ρ (v :: (vs ++ tv)) (d :: (ds ++ td)) H :=
  h.re (Keep.refl _) h.tb fun Fz f2 b => by
    obtain ⟨g1, g2, q1, q2, rfl⟩ := b.split e
    cases q2 with
    | @cons _ _ _ _ g0 g3 b1 b2 =>
      refine ⟨g0 ++ (g1 ++ g3), Sb.of_perm ?_, fun Fz' m _ => .cons (b1.keep (Keep.refl _) m) ((q1.keep (Keep.refl _) m).append (b2.keep (Keep.refl _) m))⟩
      rw [← List.append_assoc, ← List.append_assoc]
      exact (List.perm_append_comm).append_right g3
/-- name = value -/
theorem Holds.set {i : Nat} (h : Holds G B F0 Lk σ ρ (v :: tv) (d :: td) H) (hi : i < ρ.length) : Holds G B F0 Lk (σ.set i (some v)) (ρ.set i (some d)) tv td H := by
  obtain ⟨⟨f1, f2, a, b, n, q⟩, kb, kl, tb⟩ := h
  cases b with
  | @cons _ _ _ _ g1 g2 b1 b2 =>
    obtain ⟨f', o, s⟩ := a.set hi b1
    have s2 : Sb (f' ++ g2) (f1 ++ (g1 ++ g2)) := (s.app (Sb.refl g2)).trans (Sb.of_perm (by
      rw [← List.append_assoc]
      exact (List.perm_append_comm).append_right g2))
    have mono : ∀ a, H a ≠ none → Fzp B F0 (f1 ++ (g1 ++ g2)) a → Fzp B F0 (f' ++ g2) a := fun a _ z => ⟨z.1, fun m => z.2 (s2.mem a m)⟩
    exact ⟨⟨f', g2, o.keep (Keep.refl _) mono, b2.keep (Keep.refl _) mono, s2.nodup n, fun p hp => q p (s2.mem p hp)⟩, kb, kl, tb⟩
theorem Holds.slen (h : Holds G B F0 Lk σ ρ tv td H) : σ.length = ρ.length := by
  obtain ⟨⟨f1, f2, a, _⟩, _⟩ := h
  exact a.length
/-- a comprehension's names forgotten -/
def wipeD (ρ : List (Option D)) (vs : List Nat) : List (Option D) := vs.foldr (fun i r => r.set i none) ρ
theorem Holds.wipe {vs : List Nat} (h : Holds G B F0 Lk σ ρ tv td H) : Holds G B F0 Lk (L2.wipe σ vs) (wipeD ρ vs) tv td H := by
  obtain ⟨⟨f1, f2, a, b, n, q⟩, kb, kl, tb⟩ := h
  obtain ⟨f', o, s⟩ := a.wipe (vs := vs)
  have s2 : Sb (f' ++ f2) (f1 ++ f2) := s.app (Sb.refl _)
  have mono : ∀ a, H a ≠ none → Fzp B F0 (f1 ++ f2) a → Fzp B F0 (f' ++ f2) a := fun a _ z => ⟨z.1, fun m => z.2 (s2.mem a m)⟩
  exact ⟨⟨f', f2, o.keep (Keep.refl _) mono, b.keep (Keep.refl _) mono, s2.nodup n, fun p hp => q p (s2.mem p hp)⟩, kb, kl, tb⟩
end
end Pu

set_option Elab.async false
set_option linter.all false
set_option maxRecDepth 100000
/-! Pu3: the interpreter's language and its meaning over data. -/
namespace Pu
open PySem PySem.Spec PyProof.Rows L2

structure Exn where
  c : Nat
  ns : List Str
  xs : List D
  ms : List D
inductive Out (α : Type) where
  | ok (a : α) | exc (x : Exn) | bad
def Out.bind {α β : Type} : Out α → (α → Out β) → Out β
  | .ok a, f => f a
  | .exc x, _ => .exc x
  | .bad, _ => .bad
@[simp] theorem Out.bind_ok {α β : Type} (a : α) (f : α → Out β) : Out.bind (.ok a) f = f a := id rfl
@[simp] theorem Out.bind_exc {α β : Type} (x : Exn) (f : α → Out β) : Out.bind (.exc x) f = .exc x := id rfl
@[simp] theorem Out.bind_bad {α β : Type} (f : α → Out β) : Out.bind (.bad : Out α) f = .bad := id rfl
/-- an exception here is beyond us -/
def Out.calm {α : Type} : Out α → Out α
  | .ok a => .ok a
  | _ => .bad
@[simp] theorem Out.calm_ok {α : Type} (a : α) : Out.calm (.ok a) = .ok a := id rfl
/-- what may have no answer -/
def Out.ofo {α : Type} : Option α → Out α
  | some a => .ok a
  | none => .bad
@[simp] theorem Out.ofo_some {α : Type} (a : α) : Out.ofo (some a) = .ok a := id rfl
@[simp] theorem Out.ofo_none {α : Type} : Out.ofo (none : Option α) = .bad := id rfl
def Out.chk {α : Type} (b : Bool) (o : Out α) : Out α := if b = true then o else .bad
@[simp] theorem Out.chk_true {α : Type} (o : Out α) : Out.chk true o = o := id rfl

inductive Bop | add | sub | mul | fdiv | mod | pow
  deriving DecidableEq
inductive Cop | eq | ne | lt | le | gt | ge | isIn | notIn | isNon | notNon
  deriving DecidableEq
/-- built-in functions of values -/
inductive Bi | len | int | str | tuple | list | sorted | repr | max | min | ord | join | split | index
  deriving DecidableEq
/-- a class to be asked for -/
inductive Bt | int | str | list | tuple | bool | dict
  deriving DecidableEq
def Bt.nm : Bt → String
  | .int => "int" | .str => "str" | .list => "list" | .tuple => "tuple" | .bool => "bool" | .dict => "dict"
inductive Ty | b (n : Bt) | c (k : Nat) (ys ns : List Nat) | bs (ns : List Bt)
  deriving DecidableEq
inductive Tg | nm (i : Nat) | tp (is : List Nat)
  deriving DecidableEq

mutual
inductive Ex where
  | var (i : Nat)
  | non | bl (b : Bool) | int (i : Int) | str (s : Str)
  | gl (k : Nat)
  | bin (o : Bop) (a b : Ex)
  | neg (a : Ex)
  | not (a : Ex)
  | cmp (o : Cop) (a b : Ex)
  | chn (o1 o2 : Cop) (a b c : Ex)
  | and (a b : Ex)
  | or (a b : Ex)
  | ife (c a b : Ex)
  | tup (es : List Ex)
  | lst (es : List Ex)
  | idx (a i : Ex)
  | slc (a : Ex) (lo hi : List Ex)
  | rev (a : Ex)
  | bi (f : Bi) (es : List Ex)
  | isi (a : Ex) (t : Ty)
  | call (k : Nat) (es : List Ex)
  | mk (c : Nat) (k : Nat) (es : List Ex)
  | meth (c j : Nat) (m : Str) (a : Ex) (es : List Ex)
  | fld (a : Ex) (f : Str)
  | comp (own : List Nat) (elt : Ex) (tg : Tg) (it : It) (cond : List Ex)
  | gen (all : Bool) (own : List Nat) (elt : Ex) (tg : Tg) (it : It)
  | fst (es : List Ex)
  | stl (e : Ex) (es : List Ex)
  | m1 (f : Bi) (a e : Ex)
  | st2 (a b : Ex)
inductive It where
  | of (e : Ex)
  | rng (es : List Ex)
  | enum (a : Ex)
  | zip (es : List Ex)
  | rvd (a : Ex)
end

/-! ### data as the model's own plain data -/
mutual
def toP : D → Option PyData
  | .non => some .none
  | .bl b => some (.bool b)
  | .int i => some (.int i)
  | .str s => some (.str s)
  | .tup xs => match toPs xs with | some ps => some (.tuple ps) | none => none
  | .lst _ xs => match toPs xs with | some ps => some (.list ps) | none => none
  | .obj _ _ _ _ => none
  | .dct _ _ _ => none
  | .is _ => none
def toPs : List D → Option (List PyData)
  | [] => some []
  | x :: xs => match toP x, toPs xs with
    | some p, some ps => some (p :: ps)
    | _, _ => none
end
/-- plain and of a shape that may be compared -/
def plain (d : D) : Option PyData := match toP d with
  | some p => if SeqAt.shaped p = true then some p else none
  | none => none

def strsOf : List D → Option (List Str)
  | [] => some []
  | .str s :: xs => match strsOf xs with | some ss => some (s :: ss) | none => none
  | _ :: _ => none
def intsOf : List D → Option (List Int)
  | [] => some []
  | .int s :: xs => match intsOf xs with | some ss => some (s :: ss) | none => none
  | _ :: _ => none

def binD : Bop → D → D → Out D
  | .add, .int i, .int j => .ok (.int (i + j))
  | .add, .str x, .str y => .chk (decide (x.length + y.length ≤ sizeLine)) (.ok (.str (x ++ y)))
  | .add, .lst _ xs, .lst _ ys => .chk (decide (xs.length + ys.length ≤ sizeLine)) (.ok (.lst .ow (xs ++ ys)))
  | .add, .tup xs, .tup ys => .chk (decide (xs.length + ys.length ≤ sizeLine)) (.ok (.tup (xs ++ ys)))
  | .sub, .int i, .int j => .ok (.int (i - j))
  | .mul, .int i, .int j => .chk (decide (-(2 ^ 64) < i ∧ i < 2 ^ 64) || decide (-(2 ^ 64) < j ∧ j < 2 ^ 64)) (.ok (.int (i * j)))
  | .fdiv, .int i, .int j => .chk (decide (0 < j ∧ j < 1073741824)) (.ok (.int (i / j)))
  | .mod, .int i, .int j => .chk (decide (0 < j)) (.ok (.int (i % j)))
  | .pow, .int i, .int j => .chk (decide (0 ≤ j ∧ j ≤ 1000000 ∧ i.natAbs < 2 ^ 64)) (.ok (.int (i ^ j.toNat)))
  | _, _, _ => .bad
def negD : D → Out D
  | .int i => .ok (.int (-i))
  | _ => .bad
def seqOf : D → Option (List D)
  | .lst _ xs => some xs
  | .tup xs => some xs
  | _ => none
def isNonD : D → Option Bool
  | .non => some true
  | .is _ => none
  | _ => some false
def cmpB : Cop → D → D → Option Bool
  | .eq, x, y => match plain x, plain y with
    | some p, some q => some (PyData.eqv p q)
    | _, _ => none
  | .ne, x, y => match plain x, plain y with
    | some p, some q => some (!PyData.eqv p q)
    | _, _ => none
  | .lt, .int i, .int j => some (decide (i < j))
  | .le, .int i, .int j => some (decide (i ≤ j))
  | .gt, .int i, .int j => some (decide (j < i))
  | .ge, .int i, .int j => some (decide (j ≤ i))
  | .isIn, .str x, .str y => match x.cps.toList with
    | [c] => some (decide (c ∈ y.cps.toList))
    | _ => none
  | .notIn, .str x, .str y => match x.cps.toList with
    | [c] => some (!decide (c ∈ y.cps.toList))
    | _ => none
  | .isIn, x, .lst f ys => match plain x, plain (.lst f ys) with
    | some p, some (.list qs) => some (qs.any fun z => PyData.eqv z p)
    | _, _ => none
  | .notIn, x, .lst f ys => match plain x, plain (.lst f ys) with
    | some p, some (.list qs) => some (!(qs.any fun z => PyData.eqv z p))
    | _, _ => none
  | .isIn, x, .tup ys => match plain x, plain (.tup ys) with
    | some p, some (.tuple qs) => some (qs.any fun z => PyData.eqv z p)
    | _, _ => none
  | .notIn, x, .tup ys => match plain x, plain (.tup ys) with
    | some p, some (.tuple qs) => some (!(qs.any fun z => PyData.eqv z p))
    | _, _ => none
  | .isNon, x, .non => isNonD x
  | .notNon, x, .non => (isNonD x).map (!·)
  | _, _, _ => none
/-- a value's truth -/
def truD : D → Option Bool
  | .non => some false
  | .bl b => some b
  | .int i => some (i != 0)
  | .str x => if (decide (x.length ≤ sizeLine)) = true then some ((x.length : Int) != 0) else none
  | .lst _ xs => some (!xs.isEmpty)
  | .tup xs => some (!xs.isEmpty)
  | _ => none
def boolD : D → Out Bool
  | .bl b => .ok b
  | _ => .bad
def idxD : D → D → Out D
  | .lst _ xs, .int i => match atI xs i with | some d => .ok d | none => .bad
  | .tup xs, .int i => match atI xs i with | some d => .ok d | none => .bad
  | .str x, .int i => .chk (decide (x.length ≤ sizeLine)) (match atI x.cps.toList i with | some c => .ok (.str ⟨#[c]⟩) | none => .bad)
  | _, _ => .bad
def cutD {α : Type} (xs : List α) (lo hi : Option Int) : List α := (xs.drop (HT.sIx xs.length 0 lo)).take (HT.sIx xs.length xs.length hi - HT.sIx xs.length 0 lo)
def slcD (x : D) (lo hi : Option Int) : Out D := match x with
  | .lst _ xs => .ok (.lst .ow (cutD xs lo hi))
  | .tup xs => .ok (.tup (cutD xs lo hi))
  | .str x => .chk (decide (x.length ≤ sizeLine)) (.ok (.str (cutS x lo hi)))
  | _ => .bad
def revD : D → Out D
  | .lst _ xs => .ok (.lst .ow xs.reverse)
  | _ => .bad
def reprD (d : D) : Out D := match toP d with
  | some p => .chk (p.showable && !p.hasDict && decide (p.depth ≤ 64) && decide (p.shown.length ≤ sizeLine)) (.ok (.str p.shown))
  | none => .bad
def biD : Bi → List D → Out D
  | .len, [.lst _ xs] => .ok (.int xs.length)
  | .len, [.tup xs] => .ok (.int xs.length)
  | .len, [.str x] => .chk (decide (x.length ≤ sizeLine)) (.ok (.int x.length))
  | .int, [.int i] => .ok (.int i)
  | .int, [.bl b] => .ok (.int (if b then 1 else 0))
  | .int, [.str x] => match PySem.intText? x with | some n => .chk (decide (x.length ≤ 640)) (.ok (.int n)) | none => .bad
  | .str, [.str x] => .ok (.str x)
  | .ord, [.str x] => .chk (decide (x.length = 1)) (.ok (.int (x.cps.getD 0 0 : Nat)))
  | .str, [.int i] => .chk (decide (i.natAbs.log2 < 1920)) (.ok (.str (Str.ofString (toString i))))
  | .tuple, [.lst _ xs] => .ok (.tup xs)
  | .tuple, [.tup xs] => .ok (.tup xs)
  | .list, [.lst _ xs] => .ok (.lst .ow xs)
  | .list, [.tup xs] => .ok (.lst .ow xs)
  | .repr, [.lst f xs] => reprD (.lst f xs)
  | .repr, [.tup xs] => reprD (.tup xs)
  | .sorted, [.lst _ xs] => match intsOf xs with
    | some is => .chk (decide (is.length < 64)) (.ok (.lst .ow ((is.mergeSort (fun a b => decide (a ≤ b))).map D.int)))
    | none => .bad
  | .max, [.int i, .int j] => .ok (.int (if j > i then j else i))
  | .min, [.int i, .int j] => .ok (.int (if j < i then j else i))
  | .join, [.str x, d] => match seqOf d with
    | some ys => match strsOf ys with
      | some ss => .chk (decide ((ss.map (·.length)).sum + ss.length * x.length ≤ 16777216)) (.ok (.str (Txt.join x ss)))
      | none => .bad
    | none => .bad
  | .split, [.str x, .str y] => .chk ((y.length != 0) && decide (x.length + 2 ≤ sizeLine)) (.ok (.lst .ow ((Txt.split x y).map D.str)))
  | .index, [.lst f xs, y] => match plain (.lst f xs), plain y with
    | some (.list ps), some p => (match ps.findIdx? fun z => PyData.eqv z p with
      | some j => .ok (.int (j : Nat))
      | none => .bad)
    | _, _ => .bad
  | _, _ => .bad
/-- the receivers of a built-in's method -/
def m1D : Bi → D → Bool
  | .join, .str _ => true
  | .split, .str _ => true
  | .index, .lst _ _ => true
  | _, _ => false
/-- the built-in class of a value -/
def btD : D → Option (Option Bt)
  | .non => some none
  | .bl _ => some (some .bool)
  | .int _ => some (some .int)
  | .str _ => some (some .str)
  | .tup _ => some (some .tuple)
  | .lst _ _ => some (some .list)
  | _ => none
def btIn : Option Bt → Bt → Bool
  | some .bool, .int => true
  | some a, b => decide (a = b)
  | none, _ => false
def tyD (t : Ty) (d : D) : Out Bool := match btD d with
  | some o => match t with
    | .b n => .ok (btIn o n)
    | .bs ns => .ok (ns.any (btIn o))
    | .c _ _ _ => .ok false
  | none => match t, d with
    | .c _ ys ns, .obj _ c _ _ => if c ∈ ys then .ok true else if c ∈ ns then .ok false else .bad
    | _, _ => .bad
def fldD (f : Str) : D → Out D
  | .obj _ _ ns xs => match (ns.zip xs).lookup f with | some d => .ok d | none => .bad
  | _ => .bad

def putAll : List Nat → List D → List (Option D) → Out (List (Option D))
  | [], [], ρ => .ok ρ
  | i :: is, d :: ds, ρ => .chk (decide (i < ρ.length)) (putAll is ds (ρ.set i (some d)))
  | _, _, _ => .bad
def bindTg : Tg → D → List (Option D) → Out (List (Option D))
  | .nm i, d, ρ => .chk (decide (i < ρ.length)) (.ok (ρ.set i (some d)))
  | .tp is, .tup ds, ρ => putAll is ds ρ
  | .tp is, .lst _ ds, ρ => putAll is ds ρ
  | .tp _, _, _ => .bad
def compL : List D → (D → Out (Option D)) → Out (List D)
  | [], _ => .ok []
  | x :: xs, f => (f x).bind fun y => (compL xs f).bind fun ys => .ok (match y with | some y => y :: ys | none => ys)
/-- all (or any) of what f says -/
def genL (all : Bool) : List D → (D → Out Bool) → Out Bool
  | [], _ => .ok all
  | x :: xs, f => (f x).bind fun b => if b == all then genL all xs f else .ok (!all)
def intsFrom (lo : Int) : Nat → List D
  | 0 => []
  | n + 1 => .int lo :: intsFrom (lo + 1) n
def enumL : Nat → List D → List D
  | _, [] => []
  | i, x :: xs => .tup [.int (i : Nat), x] :: enumL (i + 1) xs
def zip2L : List D → List D → List D
  | x :: xs, y :: ys => .tup [x, y] :: zip2L xs ys
  | _, _ => []
def zip3L : List D → List D → List D → List D
  | x :: xs, y :: ys, z :: zs => .tup [x, y, z] :: zip3L xs ys zs
  | _, _, _ => []
def ofD : D → Out (List D)
  | .lst _ xs => .ok xs
  | .tup xs => .ok xs
  | .str x => .ok (x.cps.toList.map fun c => .str ⟨#[c]⟩)
  | _ => .bad
def listD : D → Out (List D)
  | .lst _ xs => .ok xs
  | .tup xs => .ok xs
  | _ => .bad
def zipD : List D → Out (List D)
  | [.lst _ xs, .lst _ ys] => .ok (zip2L xs ys)
  | [.tup xs, .tup ys] => .ok (zip2L xs ys)
  | _ => .bad
def rngD (i j : Int) : Out (List D) := .chk (decide (-(2 ^ 62) ≤ i ∧ i < 2 ^ 62 ∧ -(2 ^ 62) ≤ j ∧ j < 2 ^ 62)) (.ok (intsFrom i (j - i).toNat))
def rngA : List D → Out (List D)
  | [.int j] => rngD 0 j
  | [.int i, .int j] => rngD i j
  | _ => .bad
def optI : List D → Out (Option Int)
  | [] => .ok none
  | [.int i] => .ok (some i)
  | _ => .bad
def fmtD : D → Out Str
  | .int i => .chk (decide (i.natAbs.log2 < 1920)) (.ok (Str.ofString (toString i)))
  | .str x => .chk (decide (x.length ≤ sizeLine)) (.ok x)
  | _ => .bad
def fstD : List D → Str → Out D
  | [], acc => .ok (.str acc)
  | d :: ds, acc => (fmtD d).bind fun x => .chk (decide ((acc ++ x).length ≤ sizeLine)) (fstD ds (acc ++ x))
mutual
def anyFz : D → D
  | .non => .non | .bl b => .bl b | .int i => .int i | .str s => .str s | .is v => .is v
  | .tup xs => .tup (anyFzs xs) | .lst _ xs => .lst .fz (anyFzs xs) | .obj _ c ns xs => .obj .fz c ns (anyFzs xs) | .dct _ ks xs => .dct .fz ks (anyFzs xs)
def anyFzs : List D → List D
  | [] => []
  | x :: xs => anyFz x :: anyFzs xs
end
/-- what a call of a function that changes nothing gives -/
def callD (Φ : Nat → List D → Out (D × List D)) (k : Nat) (ds : List D) : Out D :=
  (Φ k (anyFzs ds)).bind fun r => if noVws ds = true then .ok r.1 else .ok (vaD r.1)
/-- an object of this class, without a field of this name -/
def methOk (c : Nat) (m : Str) : D → Out Unit
  | .obj _ c' ns _ => if c' = c ∧ m ∉ ns then .ok () else .bad
  | _ => .bad
def mkD (Φ : Nat → List D → Out (D × List D)) (c k : Nat) (ds : List D) : Out D :=
  (Φ k (.obj .ow c [] [] :: anyFzs ds)).bind fun r => match r with
    | (.non, [o]) => if noVws ds = true then .ok o else .ok (vaD o)
    | _ => .bad
mutual
def ev (Φ : Nat → List D → Out (D × List D)) (gv : Nat → D) : Ex → List (Option D) → Out D
  | .var i, ρ => match ρ[i]? with
    | some (some d) => .ok (vwD d)
    | _ => .bad
  | .non, _ => .ok .non
  | .bl b, _ => .ok (.bl b)
  | .int i, _ => .ok (.int i)
  | .str s, _ => .ok (.str s)
  | .gl k, _ => .ok (gv k)
  | .bin o a b, ρ => (ev Φ gv a ρ).bind fun x => (ev Φ gv b ρ).bind fun y => binD o x y
  | .neg a, ρ => (ev Φ gv a ρ).bind negD
  | .not a, ρ => (ev Φ gv a ρ).bind fun x => (Out.ofo (truD x)).bind fun b => .ok (.bl (!b))
  | .cmp o a b, ρ => (ev Φ gv a ρ).bind fun x => (ev Φ gv b ρ).bind fun y => (Out.ofo (cmpB o x y)).bind fun t => .ok (.bl t)
  | .chn o1 o2 a b c, ρ => (ev Φ gv a ρ).bind fun x => (ev Φ gv b ρ).bind fun y => (Out.ofo (cmpB o1 x y)).bind fun t =>
      if t = true then (ev Φ gv c ρ).bind fun z => (Out.ofo (cmpB o2 y z)).bind fun t => .ok (.bl t) else .ok (.bl false)
  | .and a b, ρ => (ev Φ gv a ρ).bind fun x => (Out.ofo (truD x)).bind fun t => if t = true then ev Φ gv b ρ else .ok x
  | .or a b, ρ => (ev Φ gv a ρ).bind fun x => (Out.ofo (truD x)).bind fun t => if t = true then .ok x else ev Φ gv b ρ
  | .ife c a b, ρ => (ev Φ gv c ρ).bind fun x => (Out.ofo (truD x)).bind fun t => if t = true then ev Φ gv a ρ else ev Φ gv b ρ
  | .tup es, ρ => (evs Φ gv es ρ).bind fun ds => .chk (decide (ds.length ≤ sizeLine)) (.ok (.tup ds))
  | .lst es, ρ => (evs Φ gv es ρ).bind fun ds => .chk (decide (ds.length ≤ sizeLine)) (.ok (.lst .ow ds))
  | .idx a i, ρ => (ev Φ gv a ρ).bind fun x => (ev Φ gv i ρ).bind fun y => idxD x y
  | .slc a lo hi, ρ => (ev Φ gv a ρ).bind fun x => ((evs Φ gv lo ρ).bind optI).bind fun l => ((evs Φ gv hi ρ).bind optI).bind fun h => slcD x l h
  | .rev a, ρ => (ev Φ gv a ρ).bind revD
  | .bi f es, ρ => (evs Φ gv es ρ).bind fun ds => biD f ds
  | .isi a t, ρ => (ev Φ gv a ρ).bind fun x => (tyD t x).bind fun b => .ok (.bl b)
  | .call k es, ρ => (evs Φ gv es ρ).bind fun ds => callD Φ k ds
  | .mk c k es, ρ => (evs Φ gv es ρ).bind fun ds => mkD Φ c k ds
  | .meth c j m a es, ρ => (ev Φ gv a ρ).bind fun d => (methOk c m d).bind fun _ => (evs Φ gv es ρ).bind fun ds => callD Φ j (d :: ds)
  | .fld a f, ρ => (ev Φ gv a ρ).bind fun x => fldD f x
  | .comp own elt tg it cond, ρ => (evIt Φ gv it ρ).bind fun xs => ((compL xs.1 fun x => (bindTg tg x (wipeD ρ own)).bind fun ρ' => (evc Φ gv cond ρ').bind fun b =>
      if b = true then (ev Φ gv elt ρ').bind fun y => .ok (some y) else .ok none).calm).bind fun ys => .chk (decide (ys.length ≤ sizeLine)) (.ok (.lst .ow ys))
  | .gen all own elt tg it, ρ => (evIt Φ gv it ρ).bind fun xs => ((genL all xs.1 fun x => (bindTg tg x (wipeD ρ own)).bind fun ρ' => (ev Φ gv elt ρ').bind boolD).calm).bind fun b => .ok (.bl b)
  | .fst es, ρ => (evs Φ gv es ρ).bind fun ds => fstD ds Str.empty
  | .stl e es, ρ => (ev Φ gv e ρ).bind fun x => (listD x).bind fun xs => (evs Φ gv es ρ).bind fun ys => .chk (decide ((xs ++ ys).length ≤ sizeLine)) (.ok (.lst .ow (xs ++ ys)))
  | .m1 f a e, ρ => (ev Φ gv a ρ).bind fun x => .chk (m1D f x) ((ev Φ gv e ρ).bind fun y => biD f [x, y])
  | .st2 a b, ρ => (ev Φ gv a ρ).bind fun x => (listD x).bind fun xs => (ev Φ gv b ρ).bind fun y => (listD y).bind fun ys => .chk (decide ((xs ++ ys).length ≤ sizeLine)) (.ok (.lst .ow (xs ++ ys)))
def evs (Φ : Nat → List D → Out (D × List D)) (gv : Nat → D) : List Ex → List (Option D) → Out (List D)
  | [], _ => .ok []
  | e :: es, ρ => (ev Φ gv e ρ).bind fun x => (evs Φ gv es ρ).bind fun xs => .ok (x :: xs)
def evc (Φ : Nat → List D → Out (D × List D)) (gv : Nat → D) : List Ex → List (Option D) → Out Bool
  | [], _ => .ok true
  | c :: cs, ρ => (ev Φ gv c ρ).bind fun x => (Out.ofo (truD x)).bind fun b => if b = true then evc Φ gv cs ρ else .ok false
def evIt (Φ : Nat → List D → Out (D × List D)) (gv : Nat → D) : It → List (Option D) → Out (List D × Bool)
  | .of e, ρ => (ev Φ gv e ρ).bind fun x => (ofD (fzD x)).bind fun xs => .ok (xs, noVw x)
  | .rng es, ρ => (evs Φ gv es ρ).bind fun ds => (rngA ds).bind fun xs => .ok (xs, true)
  | .enum a, ρ => (ev Φ gv a ρ).bind fun x => (listD (fzD x)).bind fun xs => .ok (enumL 0 xs, noVw x)
  | .zip es, ρ => (evs Φ gv es ρ).bind fun ds => (zipD (fzDs ds)).bind fun xs => .ok (xs, noVws ds)
  | .rvd a, ρ => (ev Φ gv a ρ).bind fun x => (listD (fzD x)).bind fun xs => .ok (xs.reverse, noVw x)
end
end Pu

set_option Elab.async false
set_option linter.all false
set_option maxRecDepth 100000
set_option maxHeartbeats 1000000
/-! Pu4: what an expression's meaning says of the machine: the parts. -/
namespace Pu
open PySem PySem.Spec PyProof.Rows L2

/-! ### opening the top value -/
section
variable {G : Gb} {B Lk H H' : Hp} {F0 : Addr → Prop} {σ : L2.St} {ρ : List (Option D)} {tv tv' : List V} {td td' : List D} {p : Addr} {v : V} {d : D}
/-- the values on top turn into others; all else as it is -/
theorem Holds.ex (h : Holds G B F0 Lk σ ρ tv td H) {R : List V → Prop}
    (f : ∀ Fz f2, Owns G.K G.cl H Fz tv td f2 → ∃ tv', R tv' ∧ ∃ g, Sb g f2 ∧ Owns G.K G.cl H Fz tv' td' g) : ∃ tv', R tv' ∧ Holds G B F0 Lk σ ρ tv' td' H := by
  obtain ⟨⟨f1, f2, a, b, n, q⟩, kb, kl, tb⟩ := h
  obtain ⟨tv', r, g, s, o⟩ := f _ f2 b
  have sub : Sb (f1 ++ g) (f1 ++ f2) := (Sb.refl f1).app s
  have mono : ∀ a, H a ≠ none → Fzp B F0 (f1 ++ f2) a → Fzp B F0 (f1 ++ g) a := fun a _ z => ⟨z.1, fun m => z.2 (sub.mem a m)⟩
  exact ⟨tv', r, ⟨f1, g, a.keep (Keep.refl _) mono, o.keep (Keep.refl _) mono, sub.nodup n, fun p hp => q p (sub.mem p hp)⟩, kb, kl, tb⟩
theorem Holds.openL {f : Fl} {xs : List D} (h : Holds G B F0 Lk σ ρ (v :: tv) (.lst f xs :: td) H) : ∃ a vs, v = .ref a ∧ SqL G.K H a vs ∧ vs.length = xs.length ∧ Holds G B F0 Lk σ ρ (vs ++ tv) (xs ++ td) H := by
  obtain ⟨tv', ⟨a, vs, e1, e2, e3, rfl⟩, h'⟩ := h.ex (td' := xs ++ td) (R := fun tv' => ∃ a vs, v = .ref a ∧ SqL G.K H a vs ∧ vs.length = xs.length ∧ tv' = vs ++ tv) fun Fz f2 b => by
    cases b with
    | cons b1 b2 =>
      cases b1 with
      | lst n o => exact ⟨_, ⟨_, _, rfl, n.seq, o.length, rfl⟩, _, (Sb.right _ _).app (Sb.refl _), o.append b2⟩
  exact ⟨a, vs, e1, e2, e3, h'⟩
theorem Holds.openT {xs : List D} (h : Holds G B F0 Lk σ ρ (v :: tv) (.tup xs :: td) H) : ∃ a vs, v = .ref a ∧ SqT G.K H a vs ∧ vs.length = xs.length ∧ Holds G B F0 Lk σ ρ (vs ++ tv) (xs ++ td) H := by
  obtain ⟨tv', ⟨a, vs, e1, e2, e3, rfl⟩, h'⟩ := h.ex (td' := xs ++ td) (R := fun tv' => ∃ a vs, v = .ref a ∧ SqT G.K H a vs ∧ vs.length = xs.length ∧ tv' = vs ++ tv) fun Fz f2 b => by
    cases b with
    | cons b1 b2 =>
      cases b1 with
      | tup n o => exact ⟨_, ⟨_, _, rfl, n, o.length, rfl⟩, _, Sb.refl _, o.append b2⟩
  exact ⟨a, vs, e1, e2, e3, h'⟩
theorem Holds.openO {f : Fl} {c : Nat} {ns : List Str} {xs : List D} (h : Holds G B F0 Lk σ ρ (v :: tv) (.obj f c ns xs :: td) H) :
    ∃ a dx fvs, v = .ref a ∧ H a = some (.ins (G.cl c) dx fvs) ∧ ns = fvs.map (·.1) ∧ fvs.length = xs.length ∧ Holds G B F0 Lk σ ρ (fvs.map (·.2) ++ tv) (xs ++ td) H := by
  obtain ⟨tv', ⟨a, dx, fvs, e1, e2, e3, e4, rfl⟩, h'⟩ := h.ex (td' := xs ++ td) (R := fun tv' => ∃ a dx fvs, v = .ref a ∧ H a = some (.ins (G.cl c) dx fvs) ∧ ns = fvs.map (·.1) ∧ fvs.length = xs.length ∧ tv' = fvs.map (·.2) ++ tv) fun Fz f2 b => by
    cases b with
    | cons b1 b2 =>
      cases b1 with
      | obj n o =>
        obtain ⟨dx, fvs, q1, q2, q3⟩ := n.ins
        subst q3
        exact ⟨_, ⟨_, dx, fvs, rfl, q1, q2, by simpa using o.length, rfl⟩, _, (Sb.right _ _).app (Sb.refl _), o.append b2⟩
  exact ⟨a, dx, fvs, e1, e2, e3, e4, h'⟩
theorem Holds.pick {vs : List V} {xs : List D} {i : Nat} (h : Holds G B F0 Lk σ ρ (vs ++ tv) (xs ++ td) H) (e : vs.length = xs.length) (hx : xs[i]? = some d) : ∃ v, vs[i]? = some v ∧ Holds G B F0 Lk σ ρ (v :: tv) (d :: td) H := by
  obtain ⟨tv', ⟨v, e1, rfl⟩, h'⟩ := h.ex (td' := d :: td) (R := fun tv' => ∃ v, vs[i]? = some v ∧ tv' = v :: tv) fun Fz f2 b => by
    obtain ⟨g1, g2, q1, q2, rfl⟩ := b.split e
    obtain ⟨v, f, e1, o, s⟩ := q1.get hx
    exact ⟨_, ⟨v, e1, rfl⟩, f ++ g2, s.app (Sb.refl _), .cons o q2⟩
  exact ⟨v, e1, h'⟩
theorem Holds.cut {vs : List V} {xs : List D} (i k : Nat) (h : Holds G B F0 Lk σ ρ (vs ++ tv) (xs ++ td) H) (e : vs.length = xs.length) : Holds G B F0 Lk σ ρ ((vs.drop i).take k ++ tv) ((xs.drop i).take k ++ td) H :=
  h.re (Keep.refl _) h.tb fun Fz f2 b => by
    obtain ⟨g1, g2, q1, q2, rfl⟩ := b.split e
    obtain ⟨g3, o3, s3⟩ := q1.drop i
    obtain ⟨g4, o4, s4⟩ := o3.take k
    exact ⟨g4 ++ g2, (s4.trans s3).app (Sb.refl _), fun Fz' m _ => (o4.append q2).keep (Keep.refl _) m⟩
theorem Holds.revd {vs : List V} {xs : List D} (h : Holds G B F0 Lk σ ρ (vs ++ tv) (xs ++ td) H) (e : vs.length = xs.length) : Holds G B F0 Lk σ ρ (vs.reverse ++ tv) (xs.reverse ++ td) H :=
  h.re (Keep.refl _) h.tb fun Fz f2 b => by
    obtain ⟨g1, g2, q1, q2, rfl⟩ := b.split e
    obtain ⟨g3, o3, s3⟩ := q1.reverse
    exact ⟨g3 ++ g2, (Sb.of_perm s3).app (Sb.refl _), fun Fz' m _ => (o3.append q2).keep (Keep.refl _) m⟩
theorem Holds.asc {v1 v2 v3 : List V} {d1 d2 d3 : List D} (h : Holds G B F0 Lk σ ρ (v1 ++ (v2 ++ v3)) (d1 ++ (d2 ++ d3)) H) : Holds G B F0 Lk σ ρ ((v1 ++ v2) ++ v3) ((d1 ++ d2) ++ d3) H := by
  rw [List.append_assoc, List.append_assoc]; exact h
end
section
variable {K : PySem.W.Frag} {cl : Nat → Addr} {H : Hp} {Fz : Addr → Prop}
theorem Own.inv_non {v f} (h : Own K cl H Fz v .non f) : v = .non := by cases h; rfl
theorem Own.inv_int {v i f} (h : Own K cl H Fz v (.int i) f) : v = .int i := by cases h; rfl
theorem Own.inv_bl {v i f} (h : Own K cl H Fz v (.bl i) f) : v = .bl i := by cases h; rfl
theorem Own.inv_str {v i f} (h : Own K cl H Fz v (.str i) f) : v = .str i := by cases h; rfl
mutual
theorem Own.dp : ∀ {d : D} {v : V} {f : List Addr} {p : PyData}, Own K cl H Fz v d f → toP d = some p → Dp K H v p
  | .non, _, _, _, h, e => by cases h; simp only [toP, Option.some.injEq] at e; subst e; exact .non
  | .bl _, _, _, _, h, e => by cases h; simp only [toP, Option.some.injEq] at e; subst e; exact .bl _
  | .int _, _, _, _, h, e => by cases h; simp only [toP, Option.some.injEq] at e; subst e; exact .int _
  | .str _, _, _, _, h, e => by cases h; simp only [toP, Option.some.injEq] at e; subst e; exact .str _
  | .is _, _, _, _, h, e => by simp [toP] at e
  | .tup ds, _, _, _, h, e => by
    cases h with
    | tup a b =>
      simp only [toP] at e
      split at e
      · rename_i ps hp
        simp only [Option.some.injEq] at e
        subst e
        exact .tup a (Owns.dp b hp)
      · cases e
  | .lst f ds, _, _, _, h, e => by
    cases h with
    | lst a b =>
      simp only [toP] at e
      split at e
      · rename_i ps hp
        simp only [Option.some.injEq] at e
        subst e
        exact .lst a.seq (Owns.dp b hp)
      · cases e
  | .obj _ _ _ _, _, _, _, h, e => by simp [toP] at e
  | .dct _ _ _, _, _, _, h, e => by simp [toP] at e
theorem Owns.dp : ∀ {ds : List D} {vs : List V} {f : List Addr} {ps : List PyData}, Owns K cl H Fz vs ds f → toPs ds = some ps → DpAll K H vs ps
  | [], _, _, _, h, e => by cases h; simp only [toPs, Option.some.injEq] at e; subst e; exact .nil
  | d :: ds, _, _, _, h, e => by
    cases h with
    | cons a b =>
      simp only [toPs] at e
      split at e
      · rename_i p ps h1 h2
        simp only [Option.some.injEq] at e
        subst e
        exact .cons (Own.dp a h1) (Owns.dp b h2)
      · cases e
end
theorem plain_some {d : D} {p : PyData} (h : plain d = some p) : toP d = some p ∧ SeqAt.shaped p = true := by
  unfold plain at h
  split at h
  · rename_i q hq
    split at h
    · simp only [Option.some.injEq] at h
      subst h
      exact ⟨hq, by assumption⟩
    · cases h
  · cases h
end

/-! ### what is wished of an outcome -/
def Wish {α : Type} (o : Out α) (S : Exn → Prop) (R : α → Prop) : Prop := match o with
  | .ok a => R a
  | .exc x => S x
  | .bad => False
theorem Wish.mono {α : Type} {o : Out α} {S S' : Exn → Prop} {R R' : α → Prop} (h : Wish o S R) (hS : ∀ x, S x → S' x) (hR : ∀ a, o = .ok a → R a → R' a) : Wish o S' R' := by
  cases o with
  | ok a => exact hR a rfl h
  | exc x => exact hS x h
  | bad => exact h
theorem Wish.bind {α β : Type} {o : Out α} {f : α → Out β} {S : Exn → Prop} {R : β → Prop} (h : Wish (o.bind f) S R) : Wish o S fun a => Wish (f a) S R := by
  cases o with
  | ok a => exact h
  | exc x => exact h
  | bad => exact h
theorem Wish.chk {α : Type} {b : Bool} {o : Out α} {S : Exn → Prop} {R : α → Prop} (h : Wish (Out.chk b o) S R) : b = true ∧ Wish o S R := by
  unfold Out.chk at h
  split at h
  · exact ⟨by assumption, h⟩
  · exact h.elim
theorem Wish.ofo {α : Type} {o : Option α} {S : Exn → Prop} {R : α → Prop} (h : Wish (Out.ofo o) S R) : ∃ a, o = some a ∧ R a := by
  cases o with
  | some a => exact ⟨a, rfl, h⟩
  | none => exact h.elim
theorem Wish.ofob {α β : Type} {o : Option α} {f : α → Out β} {S : Exn → Prop} {R : β → Prop} (h : Wish ((Out.ofo o).bind f) S R) : ∃ a, o = some a ∧ Wish (f a) S R := by
  cases o with
  | some a => exact ⟨a, rfl, h⟩
  | none => exact h.elim
theorem Wish.calm {α : Type} {o : Out α} {S : Exn → Prop} {R : α → Prop} (h : Wish o.calm S R) : ∃ a, o = .ok a ∧ R a := by
  cases o with
  | ok a => exact ⟨a, rfl, h⟩
  | exc x => exact h.elim
  | bad => exact h.elim

/-- an exception as it lies -/
def ExR (G : Gb) (H : Hp) (x : Exn) (cls : Value) (dx : Option Addr) : Prop :=
  cls = .ref (G.ec x.c) ∧ ∃ fvs : List (Str × V), (fvs = [] → dx = none) ∧ (fvs ≠ [] → ∃ a, dx = some a ∧ H a = some (.xd fvs)) ∧ x.ns = fvs.map (·.1) ∧ ∀ Fz, Owns G.K G.cl H Fz (fvs.map (·.2)) x.xs []

/-- all that is fixed for a text -/
structure Cf where
  G : Gb
  P : Program
  w : World
  mg : Str → Option Value
  base : Heap
  Φ : Nat → List D → Out (D × List D)
  gv : Nat → D
  code : Option (Addr × Addr)
/-- the context of a def's body, or of a comprehension's block -/
structure CtxOk (C : Cf) (k : Nat) (N : List Str) (sc : Scope) (st : List Str) (X : Cx) (W : WX) : Prop where
  eP : X.prog = C.P
  eW : X.w = C.w
  eK : X.K = C.G.K
  eM : X.mg = C.mg
  eB : X.base = C.base
  eN : X.N = N
  nd : N.Nodup
  eS : X.env.scope = sc
  calm : X.calm = true
  room : Room k X.A
  gd : X.A.guards = some []
  takes : Takes X W
  hst : ∀ x ∈ st, L2.Loc sc x ∧ (X.fn x = true ∨ sc.names.lookup x = some NameKind.local)
  cod : ∀ c P, C.code = some (c, P) → X.env.code = .ref c ∧ GxR.TabB X.base X.mg c P ∧ P ∈ C.G.tabs

section
variable (C : Cf)
/-- an exception's way out of σ -/
def Off (W : WX) (σ : L2.St) (B : Hp) (F0 : Addr → Prop) (Lk : Hp) (ρ : List (Option D)) (tv : List V) (td : List D) (x : Exn) : Prop :=
  ∀ H', Holds C.G B F0 Lk σ ρ tv td H' → ∀ cls dx, ExR C.G H' x cls dx → W cls dx σ H'
def tE (e : Ex) (W : WX) : TE := fun σ H Q => ∃ B F0 Lk ρ tv td, Holds C.G B F0 Lk σ ρ tv td H ∧
  Wish (ev C.Φ C.gv e ρ) (Off C W σ B F0 Lk ρ tv td) fun d => ∀ v H', Holds C.G B F0 Lk σ ρ (v :: tv) (d :: td) H' → Q v H'
def tEs (es : List Ex) (W : WX) : TA := fun σ H Q => ∃ B F0 Lk ρ tv td, Holds C.G B F0 Lk σ ρ tv td H ∧
  Wish (evs C.Φ C.gv es ρ) (Off C W σ B F0 Lk ρ tv td) fun ds => ∀ vs H', vs.length = ds.length → Holds C.G B F0 Lk σ ρ (vs ++ tv) (ds ++ td) H' → Q vs H'
def tT (e : Ex) (W : WX) : TT := fun σ H Q => ∃ B F0 Lk ρ tv td, Holds C.G B F0 Lk σ ρ tv td H ∧
  Wish (((ev C.Φ C.gv e ρ).bind fun d => Out.ofo (truD d))) (Off C W σ B F0 Lk ρ tv td) fun b => ∀ H', Holds C.G B F0 Lk σ ρ tv td H' → Q b H'
end
section
variable {C : Cf} {W : WX} {σ : L2.St} {B Lk H H' : Hp} {F0 : Addr → Prop} {ρ : List (Option D)} {tv : List V} {td : List D} {v : V} {d : D} {x : Exn}
theorem Off.push (h : Off C W σ B F0 Lk ρ tv td x) : Off C W σ B F0 Lk ρ (v :: tv) (d :: td) x := fun H' hH => h H' hH.pop
theorem Off.pushn {vs : List V} {ds : List D} (e : vs.length = ds.length) (h : Off C W σ B F0 Lk ρ tv td x) : Off C W σ B F0 Lk ρ (vs ++ tv) (ds ++ td) x := fun H' hH => h H' (hH.popn e)
/-- one more step: the value of e comes, then what follows -/
theorem go1 {e : Ex} {α : Type} {f : D → Out α} {S : Exn → Prop} {R : α → Prop} {Q : VK} (h : Holds C.G B F0 Lk σ ρ tv td H) (hS : ∀ x, S x → Off C W σ B F0 Lk ρ tv td x) (w : Wish ((ev C.Φ C.gv e ρ).bind f) S R)
    (q : ∀ d v H', ev C.Φ C.gv e ρ = .ok d → Holds C.G B F0 Lk σ ρ (v :: tv) (d :: td) H' → Wish (f d) S R → Q v H') : tE C e W σ H Q :=
  ⟨B, F0, Lk, ρ, tv, td, h, w.bind.mono hS fun d hd hw v H' h' => q d v H' hd h' hw⟩
theorem gos {es : List Ex} {α : Type} {f : List D → Out α} {S : Exn → Prop} {R : α → Prop} {Q : List V → Hp → Prop} (h : Holds C.G B F0 Lk σ ρ tv td H) (hS : ∀ x, S x → Off C W σ B F0 Lk ρ tv td x) (w : Wish ((evs C.Φ C.gv es ρ).bind f) S R)
    (q : ∀ ds vs H', evs C.Φ C.gv es ρ = .ok ds → vs.length = ds.length → Holds C.G B F0 Lk σ ρ (vs ++ tv) (ds ++ td) H' → Wish (f ds) S R → Q vs H') : tEs C es W σ H Q :=
  ⟨B, F0, Lk, ρ, tv, td, h, w.bind.mono hS fun d hd hw v H' hl h' => q d v H' hd hl h' hw⟩
theorem goT {e : Ex} {α : Type} {f : Bool → Out α} {S : Exn → Prop} {R : α → Prop} {Q : Bool → Hp → Prop} (h : Holds C.G B F0 Lk σ ρ tv td H) (hS : ∀ x, S x → Off C W σ B F0 Lk ρ tv td x) (w : Wish ((((ev C.Φ C.gv e ρ).bind fun d => Out.ofo (truD d))).bind f) S R)
    (q : ∀ b H', ((ev C.Φ C.gv e ρ).bind fun d => Out.ofo (truD d)) = .ok b → Holds C.G B F0 Lk σ ρ tv td H' → Wish (f b) S R → Q b H') : tT C e W σ H Q :=
  ⟨B, F0, Lk, ρ, tv, td, h, w.bind.mono hS fun d hd hw H' h' => q d H' hd h' hw⟩
end
theorem Out.bind_assoc {α β γ : Type} (o : Out α) (f : α → Out β) (g : β → Out γ) : (o.bind f).bind g = o.bind fun a => (f a).bind g := by
  cases o <;> rfl
theorem PE.imp {X : Cx} {e : Expr} {t t' : TE} (h : PE X e t) (k : ∀ σ H Q, t' σ H Q → t σ H Q) : PE X e t' := ⟨fun pins s σ H Q I q => h.run pins s σ H Q I (k _ _ _ q)⟩
theorem PT.imp {X : Cx} {e : Expr} {t t' : TT} (h : PT X e t) (k : ∀ σ H Q, t' σ H Q → t σ H Q) : PT X e t' := ⟨fun pins s σ H Q I q => h.run pins s σ H Q I (k _ _ _ q)⟩
theorem PA.imp {X : Cx} {e : List Expr} {t t' : TA} (h : PA X e t) (k : ∀ σ H Q, t' σ H Q → t σ H Q) : PA X e t' := ⟨fun pos pins s σ H Q I q => h.run pos pins s σ H Q I (k _ _ _ q)⟩

/-- an expression's meaning is ie, in every such context -/
def SE (C : Cf) (k : Nat) (N : List Str) (sc : Scope) (st : List Str) (e : Expr) (ie : Ex) : Prop := ∀ X W, CtxOk C k N sc st X W → PE X e (tE C ie W)
def STt (C : Cf) (k : Nat) (N : List Str) (sc : Scope) (st : List Str) (e : Expr) (ie : Ex) : Prop := ∀ X W, CtxOk C k N sc st X W → PT X e (tT C ie W)
def SEs (C : Cf) (k : Nat) (N : List Str) (sc : Scope) (st : List Str) (e : List Expr) (ie : List Ex) : Prop := ∀ X W, CtxOk C k N sc st X W → PA X e (tEs C ie W)

section
variable {C : Cf} {k : Nat} {N : List Str} {sc : Scope} {st : List Str} {a b c e : Expr} {ia ib ic ie : Ex} {pos : Pos}
theorem s_non {j} : SE C k N sc st (.Constant .none j pos) .non := fun X W hX => PE.imp pe_non fun σ H Q ⟨B, F0, Lk, ρ, tv, td, h, w⟩ => w _ _ (h.push fun _ => .non)
theorem s_bl {b j} : SE C k N sc st (.Constant (.bool b) j pos) (.bl b) := fun X W hX => PE.imp pe_bl fun σ H Q ⟨B, F0, Lk, ρ, tv, td, h, w⟩ => w _ _ (h.push fun _ => .bl _)
theorem s_int {i j} : SE C k N sc st (.Constant (.int i) j pos) (.int i) := fun X W hX => PE.imp pe_int fun σ H Q ⟨B, F0, Lk, ρ, tv, td, h, w⟩ => w _ _ (h.push fun _ => .int _)
theorem s_str {x j} : SE C k N sc st (.Constant (.str x) j pos) (.str x) := fun X W hX => PE.imp pe_str fun σ H Q ⟨B, F0, Lk, ρ, tv, td, h, w⟩ => w _ _ (h.push fun _ => .str _)
theorem s_var {x : Str} {i : Nat} (hi : N[i]? = some x) (hv : Vis sc x) (h1 : (x == ("__debug__" : Str)) = false) (h2 : (x == ("__classdict__" : Str)) = false) : SE C k N sc st (.Name x pos) (.var i) := fun X W hX =>
  PE.imp (pe_var (i := i) (by rw [hX.eN]; exact hi) (by rw [hX.eS]; exact hv) h1 h2) fun σ H Q ⟨B, F0, Lk, ρ, tv, td, h, w⟩ => by
    simp only [ev] at w
    split at w
    · rename_i d e
      obtain ⟨v, e1, h'⟩ := h.var e
      exact ⟨v, e1, w v H h'⟩
    · exact w.elim
theorem s_gl {x : Str} {v : V} {u : Value} {d : D} (hg : sc.names.lookup x = some .globalImplicit) (hm : C.mg x = some u) (r : RelV v u) (he : ∀ ρ, ev C.Φ C.gv ie ρ = .ok d) (ho : ∀ H Fz, Own C.G.K C.G.cl H Fz v d []) (h1 : (x == ("__debug__" : Str)) = false) : SE C k N sc st (.Name x pos) ie := fun X W hX =>
  PE.imp (pe_glob (v := v) (by unfold Gl Env.kindOf; rw [hX.eS]; exact hg) (by rw [hX.eM]; exact hm) r h1) fun σ H Q ⟨B, F0, Lk, ρ, tv, td, h, w⟩ => by
    rw [he] at w
    exact w _ _ (h.push fun Fz => ho _ _)

/-- two operands, then a rule -/
theorem bin2 {W : WX} {r : R2} {f : D → D → Out D} {o : Ex} {Q : VK} {σ : L2.St} {H : Hp} (he : ∀ ρ, ev C.Φ C.gv o ρ = (ev C.Φ C.gv ia ρ).bind fun x => (ev C.Φ C.gv ib ρ).bind fun y => f x y)
    (hr : ∀ B F0 Lk ρ tv td x y v u H' (S : Exn → Prop), Holds C.G B F0 Lk σ ρ (u :: v :: tv) (y :: x :: td) H' → Wish (f x y) S (fun d => ∀ v H', Holds C.G B F0 Lk σ ρ (v :: tv) (d :: td) H' → Q v H') → r v u H' Q)
    (h : tE C o W σ H Q) : tOp r (tE C ia W) (tE C ib W) σ H Q := by
  obtain ⟨B, F0, Lk, ρ, tv, td, h, w⟩ := h
  rw [he] at w
  exact go1 h (fun _ z => z) w fun x v H1 _ h1 w1 => go1 h1 (fun _ z => z.push) w1 fun y u H2 _ h2 w2 => hr B F0 Lk ρ tv td x y v u H2 _ h2 w2
end
end Pu

set_option Elab.async false
set_option linter.all false
set_option maxRecDepth 100000
set_option maxHeartbeats 1000000
/-! Pu5: simple expressions. -/
namespace Pu
open PySem PySem.Spec PyProof.Rows L2

/-! ### rules by values that the layer lacks -/
section
variable {X : Cx}
def rCatL (K : PySem.W.Frag) : R2 := fun x y H Q => ∃ a b xs ys, x = .ref a ∧ y = .ref b ∧ SqL K H a xs ∧ SqL K H b ys ∧ xs.length + ys.length ≤ sizeLine ∧ ∀ p, H p = none → Q (.ref p) (upd H p (.lst (xs ++ ys)))
theorem op_catL : OpR X (binaryOp .Add) (rCatL X.K) := by
  intro pins s σ H x y v u Q I rx ry h
  obtain ⟨a, b, xs, ys, rfl, rfl, hA, hB, hz, q⟩ := h
  cases rx
  cases ry
  obtain ⟨its, r, ⟨⟨c1, d1, t1, s1⟩, n, ho, hc, hdn, hd⟩, _⟩ := I.list hA
  obtain ⟨its2, r2, ⟨⟨c2, d2, t2, s2⟩, n2, ho2, hc2, hdn2, hd2⟩, _⟩ := I.list hB
  simp only at hc hd hc2 hd2
  subst hc hd hc2 hd2
  have l1 := r.length
  have l2 := r2.length
  refine concat_meets ⟨_, ho, rfl⟩ ⟨_, ho2, rfl⟩ noFill_list_add seq_list_add PySem.F.slot_list_add PySem.F.entry_list_add (PySem.F.args_list_add_2 _ _)
    (list_addW a b its.toArray its2.toArray n n2 d1 d2 s1 s2 (by simp only [List.size_toArray]; omega)) ⟨ho, ho2, ?_⟩
  have ea : its.toArray ++ its2.toArray = (its ++ its2).toArray := by simp
  rw [ea]
  exact ⟨.ref _, _, I.lnew (t' := s.toks) (r.append r2) (by rw [List.length_append]; omega), rfl, q _ I.fresh⟩
def rInT (K : PySem.W.Frag) : R2 := fun x y H Q => ∃ d ds, Dp K H x d ∧ Dp K H y (.tuple ds) ∧ SeqAt.shaped d = true ∧ SeqAt.shaped (.tuple ds) = true ∧ Q (.bl (ds.any fun z => PyData.eqv z d)) H
def rNiT (K : PySem.W.Frag) : R2 := fun x y H Q => ∃ d ds, Dp K H x d ∧ Dp K H y (.tuple ds) ∧ SeqAt.shaped d = true ∧ SeqAt.shaped (.tuple ds) = true ∧ Q (.bl (!ds.any fun z => PyData.eqv z d)) H
theorem op_inT (hu : X.A.units + 65 < cLine) : OpR X (compareOp .In) (rInT X.K) := by
  intro pins s σ H x y v u Q I rx ry ⟨d, ds, hd, he, sd, se, q⟩
  obtain ⟨as, r1⟩ := hd.reads I d x v rx
  obtain ⟨bs, r2⟩ := he.reads I (.tuple ds) y u ry
  exact SeqAt.in_tuple_reads r2 r1 (SeqAt.canLay_of_shaped se) (SeqAt.canLay_of_shaped sd) (room_in_shaped sd hu) ⟨.bl _, H, I, rfl, q⟩
theorem op_niT (hu : X.A.units + 65 < cLine) : OpR X (compareOp .NotIn) (rNiT X.K) := by
  intro pins s σ H x y v u Q I rx ry ⟨d, ds, hd, he, sd, se, q⟩
  obtain ⟨as, r1⟩ := hd.reads I d x v rx
  obtain ⟨bs, r2⟩ := he.reads I (.tuple ds) y u ry
  exact SeqAt.notIn_tuple_reads r2 r1 (SeqAt.canLay_of_shaped se) (SeqAt.canLay_of_shaped sd) (room_in_shaped sd hu) ⟨.bl _, H, I, rfl, q⟩
end
theorem Room.u65 {k : Nat} {A : Around} (r : Room k A) : A.units + 65 < cLine := by have := r.un; omega

/-! ### syntax -/
def nst : Expr → Bool
  | .Starred _ _ => false
  | _ => true
theorem star_cons {e : Expr} (h : nst e = true) (es : List Expr) (env : Env) : starEach (e :: es) env = (false, eval e env) :: starEach es env := by
  cases e <;> first | rfl | cases h
theorem star_any {pos : Pos} {env : Env} : ∀ {es : List Expr}, es.all nst = true → (backTo pos (starEach es env)).any (·.1) = false
  | [], _ => rfl
  | e :: es, h => by
    rw [List.all_cons, Bool.and_eq_true] at h
    rw [star_cons h.1]
    show (false || (backTo pos (starEach es env)).any (·.1)) = false
    rw [star_any h.2]; rfl
/-- the test of it is its value's truth -/
def tst : Expr → Bool
  | .UnaryOp .Not _ _ => false
  | .BoolOp _ _ _ => false
  | .IfExp _ _ _ _ => false
  | .Compare _ _ _ _ => false
  | _ => true
theorem tst_eq {e : Expr} (h : tst e = true) (env : Env) (whole : Sem Value) : isTrue e env whole = (do let v ← whole; standAt e.pos; holding [v] (truthy v)) := by
  cases e with
  | UnaryOp op a p => cases op <;> first | rfl | cases h
  | BoolOp _ _ _ => cases h
  | IfExp _ _ _ _ => cases h
  | Compare _ _ _ _ => cases h
  | _ => rfl
/-- a subscript's index, no slice -/
def nsl : Expr → Bool
  | .Slice _ _ _ _ => false
  | _ => true
theorem nsl_eq {e : Expr} (h : nsl e = true) : PlainIx e := by
  intro o i
  cases e <;> first | rfl | cases h

section
variable {C : Cf} {k : Nat} {N : List Str} {sc : Scope} {st : List Str} {a b c e : Expr} {ia ib ic ie : Ex} {pos : Pos}
theorem tru_of {B Lk H : Hp} {F0 : Addr → Prop} {σ : L2.St} {ρ : List (Option D)} {tv : List V} {td : List D} {v : V} {d : D} {t : Bool} (h : Holds C.G B F0 Lk σ ρ (v :: tv) (d :: td) H) (e : truD d = some t) : TruV C.G.K v H t := by
  obtain ⟨Fz, f, o⟩ := h.top
  cases d with
  | non => rw [o.inv_non]; simp only [truD, Option.some.injEq] at e; exact e.symm
  | bl i => rw [o.inv_bl]; simp only [truD, Option.some.injEq] at e; exact e.symm
  | int i => rw [o.inv_int]; simp only [truD, Option.some.injEq] at e; exact e.symm
  | str x =>
    rw [o.inv_str]
    simp only [truD] at e
    split at e
    · rename_i hz
      simp only [Option.some.injEq] at e
      exact ⟨of_decide_eq_true hz, e.symm⟩
    · cases e
  | lst f xs =>
    obtain ⟨a, vs, rfl, hs, hl, _⟩ := h.openL
    simp only [truD, Option.some.injEq] at e
    refine .inl ⟨vs, hs, ?_⟩
    rw [← e]
    cases xs <;> cases vs <;> first | rfl | cases hl
  | tup xs =>
    obtain ⟨a, vs, rfl, hs, hl, _⟩ := h.openT
    simp only [truD, Option.some.injEq] at e
    refine .inr (.inl ⟨vs, hs, ?_⟩)
    rw [← e]
    cases xs <;> cases vs <;> first | rfl | cases hl
  | obj _ _ _ _ => cases e
  | dct _ _ _ => cases e
  | is _ => cases e
theorem st_plain (h : SE C k N sc st e ie) (ht : tst e = true) : STt C k N sc st e ie := fun X W hX =>
  PT.imp (pt_truth (h X W hX) fun whole => tst_eq ht _ whole) fun σ H Q ⟨B, F0, Lk, ρ, tv, td, h, w⟩ =>
    go1 h (fun _ z => z) w fun d v H' _ h' w' => by
      obtain ⟨t, ht, w2⟩ := w'.ofo
      rw [hX.eK]
      exact ⟨t, tru_of h' ht, w2 H' h'.pop⟩
theorem st_not (h : STt C k N sc st a ia) : STt C k N sc st (.UnaryOp .Not a pos) (.not ia) := fun X W hX =>
  PT.imp (pt_not (h X W hX)) fun σ H Q ⟨B, F0, Lk, ρ, tv, td, h, w⟩ => by
    have w2 : Wish (((ev C.Φ C.gv ia ρ).bind fun d => Out.ofo (truD d)).bind fun b => Out.ok (!b)) (Off C W σ B F0 Lk ρ tv td) (fun b => ∀ H', Holds C.G B F0 Lk σ ρ tv td H' → Q b H') := by
      rw [Out.bind_assoc]
      simp only [ev, Out.bind_assoc] at w
      exact w
    exact goT h (fun _ z => z) w2 fun b H' _ h' w' => w' H' h'
theorem s_not (h : SE C k N sc st a ia) : SE C k N sc st (.UnaryOp .Not a pos) (.not ia) := fun X W hX =>
  PE.imp (pe_notT (h X W hX)) fun σ H Q ⟨B, F0, Lk, ρ, tv, td, h, w⟩ => by
    simp only [ev] at w
    refine go1 h (fun _ z => z) w fun d v H' _ h' w' => ?_
    obtain ⟨t, ht, w2⟩ := w'.ofob
    rw [hX.eK]
    exact ⟨t, tru_of h' ht, w2 _ _ (h'.pop.push fun _ => .bl _)⟩
theorem s_bool1 {op : BoolOp} (h : SE C k N sc st a ia) : SE C k N sc st (.BoolOp op [a] pos) ia := fun X W hX => pe_one (h X W hX)
theorem s_and {rest : List Expr} (ha : SE C k N sc st a ia) (hb : SE C k N sc st (.BoolOp .And (b :: rest) pos) ib) : SE C k N sc st (.BoolOp .And (a :: b :: rest) pos) (.and ia ib) := fun X W hX =>
  PE.imp (pe_andT (ha X W hX) (hb X W hX)) fun σ H Q ⟨B, F0, Lk, ρ, tv, td, h, w⟩ => by
    simp only [ev] at w
    refine go1 h (fun _ z => z) w fun d v H' _ h' w' => ?_
    obtain ⟨t, ht, w2⟩ := w'.ofob
    rw [hX.eK]
    refine ⟨t, tru_of h' ht, ?_⟩
    cases t with
    | true => exact ⟨B, F0, Lk, ρ, tv, td, h'.pop, w2⟩
    | false => exact w2 _ _ h'
theorem s_or {rest : List Expr} (ha : SE C k N sc st a ia) (hb : SE C k N sc st (.BoolOp .Or (b :: rest) pos) ib) : SE C k N sc st (.BoolOp .Or (a :: b :: rest) pos) (.or ia ib) := fun X W hX =>
  PE.imp (pe_orT (ha X W hX) (hb X W hX)) fun σ H Q ⟨B, F0, Lk, ρ, tv, td, h, w⟩ => by
    simp only [ev] at w
    refine go1 h (fun _ z => z) w fun d v H' _ h' w' => ?_
    obtain ⟨t, ht, w2⟩ := w'.ofob
    rw [hX.eK]
    refine ⟨t, tru_of h' ht, ?_⟩
    cases t with
    | false => exact ⟨B, F0, Lk, ρ, tv, td, h'.pop, w2⟩
    | true => exact w2 _ _ h'
/-- as tests: a whole that is no matter -/
def SW (C : Cf) (k : Nat) (N : List Str) (sc : Scope) (st : List Str) (e : Expr) (ie : Ex) : Prop := ∀ X W, CtxOk C k N sc st X W → PW X e (tT C ie W)
theorem PW.imp {X : Cx} {e : Expr} {t t' : TT} (h : PW X e t) (k : ∀ σ H Q, t' σ H Q → t σ H Q) : PW X e t' := ⟨fun wh pins s σ H Q I q => h.run wh pins s σ H Q I (k _ _ _ q)⟩
theorem sw_and1 (h : STt C k N sc st a ia) : SW C k N sc st (.BoolOp .And [a] pos) ia := fun X W hX => pw_and1 (h X W hX)
theorem sw_or1 (h : STt C k N sc st a ia) : SW C k N sc st (.BoolOp .Or [a] pos) ia := fun X W hX => pw_or1 (h X W hX)
theorem sw_and {rest : List Expr} (ha : STt C k N sc st a ia) (hb : SW C k N sc st (.BoolOp .And (b :: rest) pos) ib) : SW C k N sc st (.BoolOp .And (a :: b :: rest) pos) (.and ia ib) := fun X W hX =>
  PW.imp (pw_and (ha X W hX) (hb X W hX)) fun σ H Q ⟨B, F0, Lk, ρ, tv, td, h, w⟩ => by
    have w2 : Wish (((ev C.Φ C.gv ia ρ).bind fun d => Out.ofo (truD d)).bind fun t => if t = true then (ev C.Φ C.gv ib ρ).bind (fun d => Out.ofo (truD d)) else .ok false) (Off C W σ B F0 Lk ρ tv td) (fun b => ∀ H', Holds C.G B F0 Lk σ ρ tv td H' → Q b H') := by
      refine Eq.mp ?_ w
      simp only [ev, Out.bind_assoc]
      congr 2
      funext x
      cases hx : truD x with
      | some t => cases t with
        | true => rfl
        | false => simp only [Out.ofo_some, Out.bind_ok, Bool.false_eq_true, if_false, hx]
      | none => rfl
    refine goT h (fun _ z => z) w2 fun t H' _ h' w' => ?_
    cases t with
    | true => exact ⟨B, F0, Lk, ρ, tv, td, h', w'⟩
    | false => exact w' H' h'
theorem sw_or {rest : List Expr} (ha : STt C k N sc st a ia) (hb : SW C k N sc st (.BoolOp .Or (b :: rest) pos) ib) : SW C k N sc st (.BoolOp .Or (a :: b :: rest) pos) (.or ia ib) := fun X W hX =>
  PW.imp (pw_or (ha X W hX) (hb X W hX)) fun σ H Q ⟨B, F0, Lk, ρ, tv, td, h, w⟩ => by
    have w2 : Wish (((ev C.Φ C.gv ia ρ).bind fun d => Out.ofo (truD d)).bind fun t => if t = true then .ok true else (ev C.Φ C.gv ib ρ).bind (fun d => Out.ofo (truD d))) (Off C W σ B F0 Lk ρ tv td) (fun b => ∀ H', Holds C.G B F0 Lk σ ρ tv td H' → Q b H') := by
      refine Eq.mp ?_ w
      simp only [ev, Out.bind_assoc]
      congr 2
      funext x
      cases hx : truD x with
      | some t => cases t with
        | false => rfl
        | true => simp only [Out.ofo_some, Out.bind_ok, if_true, hx]
      | none => rfl
    refine goT h (fun _ z => z) w2 fun t H' _ h' w' => ?_
    cases t with
    | false => exact ⟨B, F0, Lk, ρ, tv, td, h', w'⟩
    | true => exact w' H' h'
theorem sw_pt (h : SW C k N sc st e ie) : STt C k N sc st e ie := fun X W hX => (h X W hX).pt
theorem s_ife (hc : STt C k N sc st c ic) (ha : SE C k N sc st a ia) (hb : SE C k N sc st b ib) : SE C k N sc st (.IfExp c a b pos) (.ife ic ia ib) := fun X W hX =>
  PE.imp (pe_ifExp (hc X W hX) (ha X W hX) (hb X W hX)) fun σ H Q ⟨B, F0, Lk, ρ, tv, td, h, w⟩ => by
    simp only [ev] at w
    rw [← Out.bind_assoc] at w
    refine goT h (fun _ z => z) w fun t H' _ h' w' => ?_
    cases t with
    | true => exact ⟨B, F0, Lk, ρ, tv, td, h', w'⟩
    | false => exact ⟨B, F0, Lk, ρ, tv, td, h', w'⟩

/-! ### operators -/
theorem s_bin {op : Operator} {o : Bop} {r : R2} (hr : ∀ X, X.K = C.G.K → OpR X (binaryOp op) r) (ha : SE C k N sc st a ia) (hb : SE C k N sc st b ib)
    (hf : ∀ B F0 Lk σ ρ tv td x y v u H' (S : Exn → Prop) (Q : VK), Holds C.G B F0 Lk σ ρ (u :: v :: tv) (y :: x :: td) H' → Wish (binD o x y) S (fun d => ∀ v H', Holds C.G B F0 Lk σ ρ (v :: tv) (d :: td) H' → Q v H') → r v u H' Q) : SE C k N sc st (.BinOp a op b pos) (.bin o ia ib) := fun X W hX =>
  PE.imp (pe_op (hr X hX.eK) (ha X W hX) (hb X W hX)) fun σ H Q h => bin2 (o := .bin o ia ib) (f := binD o) (fun ρ => by simp only [ev]) (fun B F0 Lk ρ tv td x y v u H' S h' w => hf B F0 Lk σ ρ tv td x y v u H' S Q h' w) h
/-- two ints on top -/
theorem two {B Lk H : Hp} {F0 : Addr → Prop} {σ : L2.St} {ρ : List (Option D)} {tv : List V} {td : List D} {v u : V} {x y : D} (h : Holds C.G B F0 Lk σ ρ (u :: v :: tv) (y :: x :: td) H) : (∃ Fz f, Own C.G.K C.G.cl H Fz v x f) ∧ ∃ Fz f, Own C.G.K C.G.cl H Fz u y f := ⟨h.pop.top, h.top⟩
theorem s_sub (ha : SE C k N sc st a ia) (hb : SE C k N sc st b ib) : SE C k N sc st (.BinOp a .Sub b pos) (.bin .sub ia ib) :=
  s_bin (fun X _ => op_sub) ha hb fun B F0 Lk σ ρ tv td x y v u H' S Q h w => by
    obtain ⟨⟨_, _, o1⟩, _, _, o2⟩ := two h
    cases x <;> cases y <;> first | exact w.elim | skip
    rw [o1.inv_int, o2.inv_int]
    exact ⟨_, _, rfl, rfl, w _ _ (h.pop.pop.push fun _ => .int _)⟩
theorem s_mul (ha : SE C k N sc st a ia) (hb : SE C k N sc st b ib) : SE C k N sc st (.BinOp a .Mult b pos) (.bin .mul ia ib) :=
  s_bin (fun X _ => op_mul) ha hb fun B F0 Lk σ ρ tv td x y v u H' S Q h w => by
    obtain ⟨⟨_, _, o1⟩, _, _, o2⟩ := two h
    cases x <;> cases y <;> first | exact w.elim | skip
    rw [o1.inv_int, o2.inv_int]
    obtain ⟨hc, w⟩ := Wish.chk w
    rw [Bool.or_eq_true, decide_eq_true_eq, decide_eq_true_eq] at hc
    exact ⟨_, _, rfl, rfl, hc, w _ _ (h.pop.pop.push fun _ => .int _)⟩
theorem s_fdiv (ha : SE C k N sc st a ia) (hb : SE C k N sc st b ib) : SE C k N sc st (.BinOp a .FloorDiv b pos) (.bin .fdiv ia ib) :=
  s_bin (fun X _ => op_fdiv) ha hb fun B F0 Lk σ ρ tv td x y v u H' S Q h w => by
    obtain ⟨⟨_, _, o1⟩, _, _, o2⟩ := two h
    cases x <;> cases y <;> first | exact w.elim | skip
    rw [o1.inv_int, o2.inv_int]
    obtain ⟨hc, w⟩ := Wish.chk w
    exact ⟨_, _, rfl, rfl, (by have z := of_decide_eq_true hc; exact z), w _ _ (h.pop.pop.push fun _ => .int _)⟩
theorem s_mod (ha : SE C k N sc st a ia) (hb : SE C k N sc st b ib) : SE C k N sc st (.BinOp a .Mod b pos) (.bin .mod ia ib) :=
  s_bin (fun X _ => op_mod) ha hb fun B F0 Lk σ ρ tv td x y v u H' S Q h w => by
    obtain ⟨⟨_, _, o1⟩, _, _, o2⟩ := two h
    cases x <;> cases y <;> first | exact w.elim | skip
    rw [o1.inv_int, o2.inv_int]
    obtain ⟨hc, w⟩ := Wish.chk w
    exact ⟨_, _, rfl, rfl, (by have z := of_decide_eq_true hc; exact z), w _ _ (h.pop.pop.push fun _ => .int _)⟩
theorem s_pow (ha : SE C k N sc st a ia) (hb : SE C k N sc st b ib) : SE C k N sc st (.BinOp a .Pow b pos) (.bin .pow ia ib) :=
  s_bin (fun X _ => op_pow) ha hb fun B F0 Lk σ ρ tv td x y v u H' S Q h w => by
    obtain ⟨⟨_, _, o1⟩, _, _, o2⟩ := two h
    cases x <;> cases y <;> first | exact w.elim | skip
    rw [o1.inv_int, o2.inv_int]
    obtain ⟨hc, w⟩ := Wish.chk w
    exact ⟨_, _, rfl, rfl, (by have z := of_decide_eq_true hc; exact z), w _ _ (h.pop.pop.push fun _ => .int _)⟩
theorem s_add (ha : SE C k N sc st a ia) (hb : SE C k N sc st b ib) : SE C k N sc st (.BinOp a .Add b pos) (.bin .add ia ib) :=
  s_bin (r := fun x y H Q => rI0 (fun i j => .int (i + j)) x y H Q ∨ (∃ i j, x = .str i ∧ y = .str j ∧ i.length + j.length ≤ sizeLine ∧ Q (.str (i ++ j)) H) ∨ rCatL C.G.K x y H Q ∨ rCatA C.G.K x y H Q)
    (fun X e => by rw [← e]; exact op_add.or (op_add_str.or (op_catL.or op_catA))) ha hb fun B F0 Lk σ ρ tv td x y v u H' S Q h w => by
    obtain ⟨⟨_, _, o1⟩, _, _, o2⟩ := two h
    cases x <;> cases y <;> first | exact w.elim | skip
    · rw [o1.inv_int, o2.inv_int]
      exact .inl ⟨_, _, rfl, rfl, w _ _ (h.pop.pop.push fun _ => .int _)⟩
    · rw [o1.inv_str, o2.inv_str]
      obtain ⟨hc, w⟩ := Wish.chk w
      exact .inr (.inl ⟨_, _, rfl, rfl, of_decide_eq_true hc, w _ _ (h.pop.pop.push fun _ => .str _)⟩)
    · rename_i xs ys
      obtain ⟨hc, w⟩ := Wish.chk w
      have hc := of_decide_eq_true hc
      obtain ⟨b, us, rfl, s2, l2, h2⟩ := h.openT
      obtain ⟨a, vs, rfl, s1, l1, h1⟩ := (h2.up l2).openT
      refine .inr (.inr (.inr ⟨a, b, vs, us, rfl, rfl, s1, s2, by omega, fun e => ?_, fun _ e => ?_, fun _ _ p hp => ?_⟩))
      · have e' : xs = [] := List.eq_nil_of_length_eq_zero (by rw [← l1, e]; rfl)
        subst e'
        rw [List.nil_append] at w
        refine w _ _ ?_
        have := h.up (vs := [V.ref b]) (ds := [D.tup ys]) rfl
        exact this.pop
      · have e' : ys = [] := List.eq_nil_of_length_eq_zero (by rw [← l2, e]; rfl)
        subst e'
        rw [List.append_nil] at w
        exact w _ _ h.pop
      · exact w _ _ (Holds.newTup (vs := vs ++ us) (ds := xs ++ ys) h1.asc (by rw [List.length_append, List.length_append, l1, l2]) hp)
    · rename_i f xs g ys
      obtain ⟨hc, w⟩ := Wish.chk w
      have hc := of_decide_eq_true hc
      obtain ⟨b, us, rfl, s2, l2, h2⟩ := h.openL
      obtain ⟨a, vs, rfl, s1, l1, h1⟩ := (h2.up l2).openL
      refine .inr (.inr (.inl ⟨a, b, vs, us, rfl, rfl, s1, s2, by omega, fun p hp => ?_⟩))
      exact w _ _ (Holds.newLst (vs := vs ++ us) (ds := xs ++ ys) h1.asc (by rw [List.length_append, List.length_append, l1, l2]) hp)
theorem s_neg (ha : SE C k N sc st a ia) : SE C k N sc st (.UnaryOp .USub a pos) (.neg ia) := fun X W hX =>
  PE.imp (pe_un un_neg (ha X W hX)) fun σ H Q ⟨B, F0, Lk, ρ, tv, td, h, w⟩ => by
    simp only [ev] at w
    refine go1 h (fun _ z => z) w fun d v H' _ h' w' => ?_
    obtain ⟨_, _, o1⟩ := h'.top
    cases d <;> first | exact w'.elim | skip
    rw [o1.inv_int]
    exact ⟨_, rfl, w' _ _ (h'.pop.push fun _ => .int _)⟩

/-! ### comparisons -/
theorem dp2 {B Lk H : Hp} {F0 : Addr → Prop} {σ : L2.St} {ρ : List (Option D)} {tv : List V} {td : List D} {v : V} {d : D} {p : PyData} (h : Holds C.G B F0 Lk σ ρ (v :: tv) (d :: td) H) (e : plain d = some p) : Dp C.G.K H v p ∧ SeqAt.shaped p = true := by
  obtain ⟨_, _, o⟩ := h.top
  obtain ⟨e1, e2⟩ := plain_some e
  exact ⟨o.dp e1, e2⟩
/-- a comparison's rule, as a value and as a test -/
structure CmpR (C : Cf) (k : Nat) (op : CmpOp) (o : Cop) where
  r : R2
  ok : ∀ (X : Cx), X.K = C.G.K → L2.Room k X.A → OpR X (compareOp op) r
  run : ∀ B F0 Lk σ ρ tv td x y v u H (t : Bool) (Q : VK), Holds C.G B F0 Lk σ ρ (u :: v :: tv) (y :: x :: td) H → cmpB o x y = some t → Q (.bl t) H → r v u H Q
theorem s_cmp {op : CmpOp} {o : Cop} (R : CmpR C k op o) (ha : SE C k N sc st a ia) (hb : SE C k N sc st b ib) (hm : behindInMarks op b = false) : SE C k N sc st (.Compare a [op] [b] pos) (.cmp o ia ib) := fun X W hX =>
  PE.imp (pe_cmpR (R.ok X hX.eK hX.room) (ha X W hX) (hb X W hX) hm) fun σ H Q h => bin2 (o := .cmp o ia ib) (f := fun x y => (Out.ofo (cmpB o x y)).bind fun t => .ok (.bl t)) (fun ρ => by simp only [ev]) (fun B F0 Lk ρ tv td x y v u H' S h' w => by
    obtain ⟨t, ht, w2⟩ := w.ofob
    exact R.run B F0 Lk σ ρ tv td x y v u H' t Q h' ht (w2 _ _ (h'.pop.pop.push fun _ => .bl _))) h
theorem st_cmp {op : CmpOp} {o : Cop} (R : CmpR C k op o) (ha : SE C k N sc st a ia) (hb : SE C k N sc st b ib) (hm : behindInMarks op b = false) : STt C k N sc st (.Compare a [op] [b] pos) (.cmp o ia ib) := fun X W hX =>
  PT.imp (pt_cmpR (R.ok X hX.eK hX.room) (ha X W hX) (hb X W hX) hm) fun σ H Q ⟨B, F0, Lk, ρ, tv, td, h, w⟩ => by
    simp only [ev, Out.bind_assoc, Out.bind_ok, truD, Out.ofo_some] at w
    refine go1 h (fun _ z => z) w fun x v H1 _ h1 w1 => go1 h1 (fun _ z => z.push) w1 fun y u H2 _ h2 w2 => ?_
    obtain ⟨t, ht, w3⟩ := w2.ofob
    exact R.run B F0 Lk σ ρ tv td x y v u H2 t _ h2 ht ⟨t, rfl, w3 _ h2.pop.pop⟩
theorem s_chn {op op' : CmpOp} {o o' : Cop} (R : CmpR C k op o) (R' : CmpR C k op' o') (ha : SE C k N sc st a ia) (hb : SE C k N sc st b ib) (hc : SE C k N sc st c ic) (hm : lastMarks [op, op'] [b, c] = false) :
    SE C k N sc st (.Compare a [op, op'] [b, c] pos) (.chn o o' ia ib ic) := fun X W hX =>
  PE.imp (pe_chain (R.ok X hX.eK hX.room) (R'.ok X hX.eK hX.room) (ha X W hX) (hb X W hX) (hc X W hX) hm) fun σ H Q ⟨B, F0, Lk, ρ, tv, td, h, w⟩ => by
    simp only [ev] at w
    refine go1 h (fun _ z => z) w fun x v H1 _ h1 w1 => go1 h1 (fun _ z => z.push) w1 fun y u H2 _ h2 w2 => ?_
    obtain ⟨t, ht, w3⟩ := w2.ofob
    refine R.run B F0 Lk σ ρ tv td x y v u H2 t _ h2 ht ⟨t, rfl, ?_⟩
    cases t with
    | false => exact iteF (w3 _ _ (h2.pop.pop.push fun _ => .bl _))
    | true =>
      refine iteT ?_
      exact go1 h2 (fun _ z => z.push.push) w3 fun z w' H3 _ h3 w4 => by
        obtain ⟨t, ht, w5⟩ := w4.ofob
        refine R'.run B F0 Lk σ ρ (v :: tv) (x :: td) y z u w' H3 t _ h3 ht (w5 _ _ (h3.pop.pop.pop.push fun _ => .bl _))
theorem st_chn {op op' : CmpOp} {o o' : Cop} (R : CmpR C k op o) (R' : CmpR C k op' o') (ha : SE C k N sc st a ia) (hb : SE C k N sc st b ib) (hc : SE C k N sc st c ic) (hm : lastMarks [op, op'] [b, c] = false) :
    STt C k N sc st (.Compare a [op, op'] [b, c] pos) (.chn o o' ia ib ic) := fun X W hX =>
  PT.imp (pt_chain (R.ok X hX.eK hX.room) (R'.ok X hX.eK hX.room) (ha X W hX) (hb X W hX) (hc X W hX) hm) fun σ H Q ⟨B, F0, Lk, ρ, tv, td, h, w⟩ => by
    simp only [ev, Out.bind_assoc] at w
    refine go1 h (fun _ z => z) w fun x v H1 _ h1 w1 => go1 h1 (fun _ z => z.push) w1 fun y u H2 _ h2 w2 => ?_
    obtain ⟨t, ht, w3⟩ := w2.ofob
    refine R.run B F0 Lk σ ρ tv td x y v u H2 t _ h2 ht ⟨t, rfl, ?_⟩
    cases t with
    | false => exact iteF ⟨false, rfl, w3 _ h2.pop.pop⟩
    | true =>
      refine iteT ?_
      simp only [if_true, Out.bind_assoc, Out.bind_ok, truD, Out.ofo_some] at w3
      exact go1 h2 (fun _ z => z.push.push) w3 fun z w' H3 _ h3 w4 => by
        obtain ⟨t, ht, w5⟩ := w4.ofob
        exact R'.run B F0 Lk σ ρ (v :: tv) (x :: td) y z u w' H3 t _ h3 ht ⟨t, rfl, w5 _ h3.pop.pop.pop⟩
def R_eq : CmpR C k .Eq .eq where
  r := rEqD C.G.K
  ok := fun X e hr => by rw [← e]; exact op_eqD hr.units
  run := fun B F0 Lk σ ρ tv td x y v u H t Q h w q => by
    simp only [cmpB] at w
    split at w
    · rename_i p p' hp hq
      obtain ⟨d2, s2⟩ := dp2 h hq
      obtain ⟨d1, s1⟩ := dp2 h.pop hp
      simp only [Option.some.injEq] at w
      exact ⟨p, p', d1, d2, s1, s2, by subst w; exact q⟩
    · cases w
def R_ne : CmpR C k .NotEq .ne where
  r := rNeD C.G.K
  ok := fun X e hr => by rw [← e]; exact op_neD hr.units
  run := fun B F0 Lk σ ρ tv td x y v u H t Q h w q => by
    simp only [cmpB] at w
    split at w
    · rename_i p p' hp hq
      obtain ⟨d2, s2⟩ := dp2 h hq
      obtain ⟨d1, s1⟩ := dp2 h.pop hp
      simp only [Option.some.injEq] at w
      exact ⟨p, p', d1, d2, s1, s2, by subst w; exact q⟩
    · cases w
def R_lt : CmpR C k .Lt .lt where
  r := rI0 fun i j => .bl (decide (i < j))
  ok := fun X e hr => op_lt
  run := fun B F0 Lk σ ρ tv td x y v u H t Q h w q => by
    obtain ⟨⟨_, _, o1⟩, _, _, o2⟩ := two h
    cases x <;> cases y <;> first | (cases w; done) | skip
    rw [o1.inv_int, o2.inv_int]
    simp only [cmpB, Option.some.injEq] at w
    exact ⟨_, _, rfl, rfl, by subst w; exact q⟩
def R_le : CmpR C k .LtE .le where
  r := rI0 fun i j => .bl (decide (i ≤ j))
  ok := fun X e hr => op_le
  run := fun B F0 Lk σ ρ tv td x y v u H t Q h w q => by
    obtain ⟨⟨_, _, o1⟩, _, _, o2⟩ := two h
    cases x <;> cases y <;> first | (cases w; done) | skip
    rw [o1.inv_int, o2.inv_int]
    simp only [cmpB, Option.some.injEq] at w
    exact ⟨_, _, rfl, rfl, by subst w; exact q⟩
def R_gt : CmpR C k .Gt .gt where
  r := rI0 fun i j => .bl (decide (j < i))
  ok := fun X e hr => op_gt
  run := fun B F0 Lk σ ρ tv td x y v u H t Q h w q => by
    obtain ⟨⟨_, _, o1⟩, _, _, o2⟩ := two h
    cases x <;> cases y <;> first | (cases w; done) | skip
    rw [o1.inv_int, o2.inv_int]
    simp only [cmpB, Option.some.injEq] at w
    exact ⟨_, _, rfl, rfl, by subst w; exact q⟩
def R_ge : CmpR C k .GtE .ge where
  r := rI0 fun i j => .bl (decide (j ≤ i))
  ok := fun X e hr => op_ge
  run := fun B F0 Lk σ ρ tv td x y v u H t Q h w q => by
    obtain ⟨⟨_, _, o1⟩, _, _, o2⟩ := two h
    cases x <;> cases y <;> first | (cases w; done) | skip
    rw [o1.inv_int, o2.inv_int]
    simp only [cmpB, Option.some.injEq] at w
    exact ⟨_, _, rfl, rfl, by subst w; exact q⟩
theorem str_one {x : Str} {c : Nat} (h : x.cps.toList = [c]) : x = ⟨#[c]⟩ := by
  obtain ⟨z⟩ := x
  have e : z = #[c] := by
    have := congrArg List.toArray h
    simpa using this
  rw [e]
def rInAll (K : PySem.W.Frag) : R2 := fun x y H Q => (∃ (c : Nat) (z : Str), x = .str ⟨#[c]⟩ ∧ y = .str z ∧ Q (.bl (decide (c ∈ z.cps.toList))) H) ∨ rInD K x y H Q ∨ rInT K x y H Q
def rNiAll (K : PySem.W.Frag) : R2 := fun x y H Q => (∃ (c : Nat) (z : Str), x = .str ⟨#[c]⟩ ∧ y = .str z ∧ Q (.bl (!decide (c ∈ z.cps.toList))) H) ∨ rNotInD K x y H Q ∨ rNiT K x y H Q
theorem toP_lst {f : Fl} {ys : List D} {p : PyData} (h : toP (.lst f ys) = some p) : ∃ qs, p = .list qs := by
  simp only [toP] at h
  split at h
  · simp only [Option.some.injEq] at h; exact ⟨_, h.symm⟩
  · cases h
def R_in : CmpR C k .In .isIn where
  r := rInAll C.G.K
  ok := fun X e hr => by rw [← e]; exact op_in_sign.or ((op_inD (Pu.Room.u65 hr)).or (op_inT (Pu.Room.u65 hr)))
  run := fun B F0 Lk σ ρ tv td x y v u H t Q h w q => by
    cases y with
    | str z =>
      cases x <;> first | (cases w; done) | skip
      rename_i x
      simp only [cmpB] at w
      split at w
      · rename_i c hc
        obtain ⟨⟨_, _, o1⟩, _, _, o2⟩ := two h
        rw [o1.inv_str, o2.inv_str, str_one hc]
        simp only [Option.some.injEq] at w
        exact .inl ⟨c, z, rfl, rfl, by subst w; exact q⟩
      · cases w
    | lst f ys =>
      have w : (match plain x, plain (.lst f ys) with
        | some p, some (.list qs) => some (qs.any fun z => PyData.eqv z p)
        | _, _ => none) = some t := by
        cases x <;> exact w
      split at w
      · rename_i p qs hp hq
        obtain ⟨d2, s2⟩ := dp2 h hq
        obtain ⟨d1, s1⟩ := dp2 h.pop hp
        simp only [Option.some.injEq] at w
        exact .inr (.inl ⟨p, qs, d1, d2, s1, s2, by subst w; exact q⟩)
      · cases w
    | tup ys =>
      have w : (match plain x, plain (.tup ys) with
        | some p, some (.tuple qs) => some (qs.any fun z => PyData.eqv z p)
        | _, _ => none) = some t := by
        cases x <;> exact w
      split at w
      · rename_i p qs hp hq
        obtain ⟨d2, s2⟩ := dp2 h hq
        obtain ⟨d1, s1⟩ := dp2 h.pop hp
        simp only [Option.some.injEq] at w
        exact .inr (.inr ⟨p, qs, d1, d2, s1, s2, by subst w; exact q⟩)
      · cases w
    | _ => cases x <;> cases w
def R_ni : CmpR C k .NotIn .notIn where
  r := rNiAll C.G.K
  ok := fun X e hr => by rw [← e]; exact op_notIn_sign.or ((op_notInD (Pu.Room.u65 hr)).or (op_niT (Pu.Room.u65 hr)))
  run := fun B F0 Lk σ ρ tv td x y v u H t Q h w q => by
    cases y with
    | str z =>
      cases x <;> first | (cases w; done) | skip
      rename_i x
      simp only [cmpB] at w
      split at w
      · rename_i c hc
        obtain ⟨⟨_, _, o1⟩, _, _, o2⟩ := two h
        rw [o1.inv_str, o2.inv_str, str_one hc]
        simp only [Option.some.injEq] at w
        exact .inl ⟨c, z, rfl, rfl, by subst w; exact q⟩
      · cases w
    | lst f ys =>
      have w : (match plain x, plain (.lst f ys) with
        | some p, some (.list qs) => some (!(qs.any fun z => PyData.eqv z p))
        | _, _ => none) = some t := by
        cases x <;> exact w
      split at w
      · rename_i p qs hp hq
        obtain ⟨d2, s2⟩ := dp2 h hq
        obtain ⟨d1, s1⟩ := dp2 h.pop hp
        simp only [Option.some.injEq] at w
        exact .inr (.inl ⟨p, qs, d1, d2, s1, s2, by subst w; exact q⟩)
      · cases w
    | tup ys =>
      have w : (match plain x, plain (.tup ys) with
        | some p, some (.tuple qs) => some (!(qs.any fun z => PyData.eqv z p))
        | _, _ => none) = some t := by
        cases x <;> exact w
      split at w
      · rename_i p qs hp hq
        obtain ⟨d2, s2⟩ := dp2 h hq
        obtain ⟨d1, s1⟩ := dp2 h.pop hp
        simp only [Option.some.injEq] at w
        exact .inr (.inr ⟨p, qs, d1, d2, s1, s2, by subst w; exact q⟩)
      · cases w
    | _ => cases x <;> cases w
theorem own_non {K : PySem.W.Frag} {cl : Nat → Addr} {H : Hp} {Fz : Addr → Prop} {v : V} {d : D} {f : List Addr} (o : Own K cl H Fz v d f) {b : Bool} (e : isNonD d = some b) : decide (v = .non) = b := by
  cases o <;> first | (cases e; done) | (cases e; rfl)
def R_isN : CmpR C k .Is .isNon where
  r := fun x y H Q => y = .non ∧ Q (.bl (decide (x = .non))) H
  ok := fun X e hr => op_isN
  run := fun B F0 Lk σ ρ tv td x y v u H t Q h w q => by
    obtain ⟨⟨_, _, o1⟩, _, _, o2⟩ := two h
    cases y <;> first | (cases x <;> cases w; done) | skip
    have w : isNonD x = some t := by cases x <;> exact w
    rw [o2.inv_non, own_non o1 w]
    exact ⟨rfl, q⟩
def R_noN : CmpR C k .IsNot .notNon where
  r := fun x y H Q => y = .non ∧ Q (.bl (!decide (x = .non))) H
  ok := fun X e hr => op_notN
  run := fun B F0 Lk σ ρ tv td x y v u H t Q h w q => by
    obtain ⟨⟨_, _, o1⟩, _, _, o2⟩ := two h
    cases y <;> first | (cases x <;> cases w; done) | skip
    have w : (isNonD x).map (!·) = some t := by cases x <;> exact w
    obtain ⟨b, hb, e⟩ := Option.map_eq_some_iff.mp w
    rw [o2.inv_non, own_non o1 hb]
    exact ⟨rfl, by rw [e]; exact q⟩
end
end Pu

set_option Elab.async false
set_option linter.all false
set_option maxRecDepth 100000
set_option maxHeartbeats 1000000
/-! Pu6: displays, places, slices, built-ins, fields. -/
namespace Pu
open PySem PySem.Spec PyProof.Rows L2
section
variable {C : Cf} {k : Nat} {N : List Str} {sc : Scope} {st : List Str} {a b c e : Expr} {es : List Expr} {ia ib ic ie : Ex} {ies : List Ex} {pos : Pos}

/-! ### argument lists -/
theorem ss_nil : SEs C k N sc st [] [] := fun X W hX => PA.imp pa_nil fun σ H Q ⟨B, F0, Lk, ρ, tv, td, h, w⟩ => w [] H rfl h
theorem ss_cons (hn : nst e = true) (h1 : SE C k N sc st e ie) (h2 : SEs C k N sc st es ies) : SEs C k N sc st (e :: es) (ie :: ies) := fun X W hX =>
  PA.imp (pa_cons (h1 X W hX) (h2 X W hX) (star_cons hn es X.env)) fun σ H Q ⟨B, F0, Lk, ρ, tv, td, h, w⟩ => by
    simp only [evs] at w
    refine go1 h (fun _ z => z) w fun x v H1 _ h1 w1 => gos h1 (fun _ z => z.push) w1 fun ds vs H2 _ hl h2 w2 => ?_
    refine w2 (v :: vs) H2 (by rw [List.length_cons, List.length_cons, hl]) ?_
    exact h2.up hl
theorem s_tup {x1} (h : SEs C k N sc st es ies) : SE C k N sc st (.Tuple es x1 pos) (.tup ies) := fun X W hX =>
  PE.imp (pe_tup (h X W hX)) fun σ H Q ⟨B, F0, Lk, ρ, tv, td, h, w⟩ => by
    simp only [ev] at w
    refine gos h (fun _ z => z) w fun ds vs H1 _ hl h1 w1 => ?_
    obtain ⟨hz, w2⟩ := w1.chk
    exact ⟨by rw [hl]; exact of_decide_eq_true hz, fun p hp => w2 _ _ (h1.newTup hl hp)⟩
theorem s_lst (h : SEs C k N sc st es ies) : SE C k N sc st (.List es pos) (.lst ies) := fun X W hX =>
  PE.imp (pe_lst (h X W hX)) fun σ H Q ⟨B, F0, Lk, ρ, tv, td, h, w⟩ => by
    simp only [ev] at w
    refine gos h (fun _ z => z) w fun ds vs H1 _ hl h1 w1 => ?_
    obtain ⟨hz, w2⟩ := w1.chk
    exact ⟨by rw [hl]; exact of_decide_eq_true hz, fun p hp => w2 _ _ (h1.newLst hl hp)⟩

/-! ### places and slices -/
theorem atI_at {α β : Type} {xs : List α} {ys : List β} {i : Int} {d : α} (e : ys.length = xs.length) (h : atI xs i = some d) : ∃ j : Nat, xs[j]? = some d ∧ ∀ v, ys[j]? = some v → atI ys i = some v := by
  unfold atI at h
  cases q : ixN xs.length i with
  | none => rw [q] at h; cases h
  | some j =>
    rw [q] at h
    refine ⟨j, h, fun v hv => ?_⟩
    unfold atI
    rw [e, q]
    exact hv
theorem idx_run {B Lk H' : Hp} {F0 : Addr → Prop} {σ : L2.St} {ρ : List (Option D)} {tv : List V} {td : List D} {x y : D} {v u : V} {S : Exn → Prop} {Q : VK} (h' : Holds C.G B F0 Lk σ ρ (u :: v :: tv) (y :: x :: td) H') (w : Wish (idxD x y) S fun d => ∀ v H', Holds C.G B F0 Lk σ ρ (v :: tv) (d :: td) H' → Q v H') : rIx C.G.K v u H' Q := by
  obtain ⟨⟨_, _, o1⟩, _, _, o2⟩ := two h'
  cases x <;> cases y <;> first | exact w.elim | skip
  · rename_i z i
    rw [o1.inv_str, o2.inv_int]
    obtain ⟨hz, w2⟩ := Wish.chk w
    cases q : atI z.cps.toList i with
    | none => rw [q] at w2; exact w2.elim
    | some c =>
      rw [q] at w2
      exact .inr (.inr ⟨z, i, c, rfl, rfl, of_decide_eq_true hz, q, w2 _ _ (h'.pop.pop.push fun _ => .str _)⟩)
  · rename_i xs i
    rw [o2.inv_int]
    obtain ⟨p, vs, rfl, hs, hl, h2⟩ := h'.pop.openT
    simp only [idxD] at w
    cases q : atI xs i with
    | none => rw [q] at w; exact w.elim
    | some d =>
      rw [q] at w
      obtain ⟨j, hj, hv⟩ := atI_at hl q
      obtain ⟨v1, e1, h3⟩ := h2.pick hl hj
      exact .inr (.inl ⟨p, vs, i, v1, rfl, rfl, hs, hv v1 e1, w _ _ h3⟩)
  · rename_i f xs i
    rw [o2.inv_int]
    obtain ⟨p, vs, rfl, hs, hl, h2⟩ := h'.pop.openL
    simp only [idxD] at w
    cases q : atI xs i with
    | none => rw [q] at w; exact w.elim
    | some d =>
      rw [q] at w
      obtain ⟨j, hj, hv⟩ := atI_at hl q
      obtain ⟨v1, e1, h3⟩ := h2.pick hl hj
      exact .inl ⟨p, vs, i, v1, rfl, rfl, hs, hv v1 e1, w _ _ h3⟩
theorem s_idx (hn : nsl b = true) (ha : SE C k N sc st a ia) (hb : SE C k N sc st b ib) : SE C k N sc st (.Subscript a b pos) (.idx ia ib) := fun X W hX =>
  PE.imp (pe_ix (r := rIx C.G.K) (by rw [← hX.eK]; exact ix_seq) (ha X W hX) (hb X W hX) (nsl_eq hn)) fun σ H Q h => bin2 (o := .idx ia ib) (f := idxD) (fun ρ => by simp only [ev]) (fun B F0 Lk ρ tv td x y v u H' S h' w => idx_run h' w) h
/-- an optional part -/
def tO (C : Cf) (os : List Ex) (W : WX) : TO := fun σ H Q => ∃ B F0 Lk ρ tv td, Holds C.G B F0 Lk σ ρ tv td H ∧
  Wish ((evs C.Φ C.gv os ρ).bind optI) (Off C W σ B F0 Lk ρ tv td) fun o => ∀ H', Holds C.G B F0 Lk σ ρ tv td H' → Q o H'
def SO (C : Cf) (k : Nat) (N : List Str) (sc : Scope) (st : List Str) (e : Option Expr) (os : List Ex) : Prop := ∀ X W, CtxOk C k N sc st X W → PO X e (tO C os W)
theorem PO.imp {X : Cx} {e : Option Expr} {t t' : TO} (h : PO X e t) (k : ∀ σ H Q, t' σ H Q → t σ H Q) : PO X e t' := ⟨fun pins s σ H Q I q => h.run pins s σ H Q I (k _ _ _ q)⟩
theorem so_none : SO C k N sc st none [] := fun X W hX => PO.imp po_none fun σ H Q ⟨B, F0, Lk, ρ, tv, td, h, w⟩ => w H h
theorem so_some (h : SE C k N sc st e ie) : SO C k N sc st (some e) [ie] := fun X W hX => PO.imp (po_some (h X W hX)) fun σ H Q ⟨B, F0, Lk, ρ, tv, td, h, w⟩ => by
  have w2 : Wish ((ev C.Φ C.gv ie ρ).bind fun x => optI [x]) (Off C W σ B F0 Lk ρ tv td) fun o => ∀ H', Holds C.G B F0 Lk σ ρ tv td H' → Q o H' := by
    simp only [evs, Out.bind_assoc, Out.bind_ok] at w
    exact w
  refine go1 h (fun _ z => z) w2 fun x v H1 _ h1 w1 => ?_
  obtain ⟨_, _, o1⟩ := h1.top
  cases x <;> first | exact w1.elim | skip
  rw [o1.inv_int]
  exact ⟨_, rfl, w1 _ h1.pop⟩
theorem goO {os : List Ex} {α : Type} {B Lk H : Hp} {F0 : Addr → Prop} {σ : L2.St} {ρ : List (Option D)} {tv : List V} {td : List D} {W : WX} {f : Option Int → Out α} {S : Exn → Prop} {R : α → Prop} {Q : Option Int → Hp → Prop} (h : Holds C.G B F0 Lk σ ρ tv td H) (hS : ∀ x, S x → Off C W σ B F0 Lk ρ tv td x)
    (w : Wish (((evs C.Φ C.gv os ρ).bind optI).bind f) S R) (q : ∀ o H', Holds C.G B F0 Lk σ ρ tv td H' → Wish (f o) S R → Q o H') : tO C os W σ H Q :=
  ⟨B, F0, Lk, ρ, tv, td, h, w.bind.mono hS fun d hd hw H' h' => q d H' h' hw⟩
theorem cutV_len {vs : List V} {xs : List D} (e : vs.length = xs.length) (lo hi : Option Int) : cutV vs lo hi = (vs.drop (HT.sIx xs.length 0 lo)).take (HT.sIx xs.length xs.length hi - HT.sIx xs.length 0 lo) := by
  unfold cutV; rw [e]
theorem sIx_all {α : Type} {xs : List α} {lo hi : Option Int} (h : HT.sIx xs.length 0 lo = 0 ∧ HT.sIx xs.length xs.length hi = xs.length) : cutD xs lo hi = xs := by
  unfold cutD
  rw [h.1, h.2, List.drop_zero, Nat.sub_zero, List.take_length]
theorem s_slc {lo hi : Option Expr} {ilo ihi : List Ex} {p2 : Pos} (ha : SE C k N sc st a ia) (hl : SO C k N sc st lo ilo) (hh : SO C k N sc st hi ihi) : SE C k N sc st (.Subscript a (.Slice lo hi none p2) pos) (.slc ia ilo ihi) := fun X W hX =>
  PE.imp (pe_slice (r := fun x lo hi H Q => rSlL C.G.K x lo hi H Q ∨ rSlA C.G.K x lo hi H Q ∨ rSlS x lo hi H Q) (by rw [← hX.eK]; exact sl_list.or (sl_tupA.or sl_str)) (ha X W hX) (hl X W hX) (hh X W hX)) fun σ H Q ⟨B, F0, Lk, ρ, tv, td, h, w⟩ => by
    simp only [ev] at w
    refine go1 h (fun _ z => z) w fun x v H1 hx h1 w1 => goO h1 (fun _ z => z.push) w1 fun l H2 h2 w2 => goO h2 (fun _ z => z.push) w2 fun u H3 h3 w3 => ?_
    clear hx
    obtain ⟨_, _, o1⟩ := h3.top
    cases x <;> first | exact w3.elim | skip
    · rename_i z
      rw [o1.inv_str]
      obtain ⟨hz, w4⟩ := Wish.chk w3
      exact .inr (.inr ⟨z, rfl, of_decide_eq_true hz, w4 _ _ (h3.pop.push fun _ => .str _)⟩)
    · rename_i xs
      have h3' := h3
      obtain ⟨p, vs, rfl, hs, hl, h4⟩ := h3.openT
      refine .inr (.inl ⟨p, vs, rfl, hs, fun q => ?_, fun q r hr => ?_⟩)
      · rw [hl] at q
        have w3 : ∀ v H', Holds C.G B F0 Lk σ ρ (v :: tv) (D.tup (cutD xs l u) :: td) H' → Q v H' := w3
        rw [sIx_all q] at w3
        exact w3 _ _ h3'
      · rw [cutV_len hl]
        exact w3 _ _ ((h4.cut _ _ hl).newTup (by rw [List.length_take, List.length_take, List.length_drop, List.length_drop, hl]) hr)
    · rename_i f xs
      obtain ⟨p, vs, rfl, hs, hl, h4⟩ := h3.openL
      refine .inl ⟨p, vs, rfl, hs, fun r hr => ?_⟩
      rw [cutV_len hl]
      exact w3 _ _ ((h4.cut _ _ hl).newLst (by rw [List.length_take, List.length_take, List.length_drop, List.length_drop, hl]) hr)
theorem s_rev {kk : Nat} {p1 p2 p3 : Pos} (ha : SE C k N sc st a ia) : SE C k N sc st (.Subscript a (.Slice none none (some (.UnaryOp .USub (.Constant (.int 1) kk p1) p2)) p3) pos) (.rev ia) := fun X W hX =>
  PE.imp (pe_revL (ha X W hX)) fun σ H Q ⟨B, F0, Lk, ρ, tv, td, h, w⟩ => by
    simp only [ev] at w
    refine go1 h (fun _ z => z) w fun x v H1 _ h1 w1 => ?_
    cases x <;> first | exact w1.elim | skip
    obtain ⟨p, vs, rfl, hs, hl, h4⟩ := h1.openL
    rw [hX.eK]
    exact ⟨p, vs, rfl, hs, fun r hr => w1 _ _ ((h4.revd hl).newLst (by rw [List.length_reverse, List.length_reverse, hl]) hr)⟩

/-! ### built-ins -/
/-- a built-in's rule -/
structure BiR (C : Cf) (f : Bi) (fv : Value) (u : Value) where
  r : List V → Hp → VK → Prop
  ok : ∀ X : Cx, X.K = C.G.K → X.calm = true → CallR X fv r
  run : ∀ B F0 Lk σ ρ tv td vs ds H (S : Exn → Prop) (Q : VK), vs.length = ds.length → Holds C.G B F0 Lk σ ρ (vs ++ tv) (ds ++ td) H → Wish (biD f ds) S (fun d => ∀ v H', Holds C.G B F0 Lk σ ρ (v :: tv) (d :: td) H' → Q v H') → r vs H Q
theorem bi_tail {W : WX} {f : Bi} {r : List V → Hp → VK → Prop} (R : ∀ B F0 Lk σ ρ tv td vs ds H (S : Exn → Prop) (Q : VK), vs.length = ds.length → Holds C.G B F0 Lk σ ρ (vs ++ tv) (ds ++ td) H → Wish (biD f ds) S (fun d => ∀ v H', Holds C.G B F0 Lk σ ρ (v :: tv) (d :: td) H' → Q v H') → r vs H Q)
    {σ : L2.St} {H : Hp} {Q : VK} (h : tE C (.bi f ies) W σ H Q) : tCB r (tEs C ies W) σ H Q := by
  obtain ⟨B, F0, Lk, ρ, tv, td, h, w⟩ := h
  simp only [ev] at w
  exact gos h (fun _ z => z) w fun ds vs H1 _ hl h1 w1 => R B F0 Lk σ ρ tv td vs ds H1 _ Q hl h1 w1
theorem s_biB {f : Bi} {x : Str} {id : String} {p : Pos} {u : Value} (R : BiR C f (.builtin id) u) (hg : sc.names.lookup x = some .globalImplicit) (hm : C.mg x = none) (hv : bootBuiltins x = some (.builtin id)) (hn : (e :: es).all nst = true) (h1 : x ≠ "__name__") (h2 : (x == ("__debug__" : Str)) = false)
    (h : SEs C k N sc st (e :: es) ies) : SE C k N sc st (.Call (.Name x p) (e :: es) [] pos) (.bi f ies) := fun X W hX => by
  rw [List.all_cons, Bool.and_eq_true] at hn
  exact PE.imp (pe_callB (R.ok X hX.eK hX.calm) (by unfold Gl Env.kindOf; rw [hX.eS]; exact hg) (by rw [hX.eM]; exact hm) hv (h X W hX) h1 h2 (star_cons hn.1 es X.env) (star_any hn.2)) fun σ H Q h => bi_tail R.run h
theorem s_biT {f : Bi} {x : Str} {T : String} {p : Pos} {u : Value} (R : BiR C f (.type T) u) (hg : sc.names.lookup x = some .globalImplicit) (hm : C.mg x = none) (hv : bootBuiltins x = some (.type T)) (hn : (e :: es).all nst = true) (h1 : x ≠ "__name__") (h2 : (x == ("__debug__" : Str)) = false)
    (h : SEs C k N sc st (e :: es) ies) : SE C k N sc st (.Call (.Name x p) (e :: es) [] pos) (.bi f ies) := fun X W hX => by
  rw [List.all_cons, Bool.and_eq_true] at hn
  exact PE.imp (pe_callTy (R.ok X hX.eK hX.calm) (by unfold Gl Env.kindOf; rw [hX.eS]; exact hg) (by rw [hX.eM]; exact hm) hv (h X W hX) h1 h2 (star_cons hn.1 es X.env) (star_any hn.2)) fun σ H Q h => bi_tail R.run h
theorem one_v {vs : List V} {ds : List D} {d : D} (e : vs.length = ds.length) (h : ds = [d]) : ∃ v, vs = [v] := by
  subst h
  match vs, e with
  | [v], _ => exact ⟨v, rfl⟩
def B_len : BiR C .len (.builtin "len") .none where
  r := fun xs H Q => (∃ p ys, xs = [.ref p] ∧ (SqL C.G.K H p ys ∨ SqT C.G.K H p ys) ∧ Q (.int ys.length) H) ∨ ∃ z, xs = [.str z] ∧ z.length ≤ sizeLine ∧ Q (.int z.length) H
  ok := fun X e hc => by rw [← e]; exact call_len_seq.or call_len_str
  run := fun B F0 Lk σ ρ tv td vs ds H S Q hl h w => by
    unfold biD at w
    split at w <;> first | (exact w.elim) | (rename_i z; cases z; done) | skip
    · obtain ⟨v, rfl⟩ := one_v hl rfl
      obtain ⟨p, ys, rfl, hs, hl2, h2⟩ := Holds.openL h
      exact .inl ⟨p, ys, rfl, .inl hs, by rw [hl2]; exact w _ _ ((h2.popn hl2).push fun _ => .int _)⟩
    · obtain ⟨v, rfl⟩ := one_v hl rfl
      obtain ⟨p, ys, rfl, hs, hl2, h2⟩ := Holds.openT h
      exact .inl ⟨p, ys, rfl, .inr hs, by rw [hl2]; exact w _ _ ((h2.popn hl2).push fun _ => .int _)⟩
    · obtain ⟨v, rfl⟩ := one_v hl rfl
      obtain ⟨_, _, o⟩ := Holds.top h
      obtain ⟨hz, w⟩ := Wish.chk w
      rw [o.inv_str]
      exact .inr ⟨_, rfl, of_decide_eq_true hz, w _ _ ((Holds.pop h).push fun _ => .int _)⟩
def B_int : BiR C .int (.type "int") .none where
  r := fun xs H Q => ((∃ i, xs = [.int i] ∧ Q (.int i) H) ∨ ∃ k, xs = [.bl k] ∧ Q (.int (if k then 1 else 0)) H) ∨ ∃ a n, xs = [.str a] ∧ PySem.intText? a = some n ∧ a.length ≤ 640 ∧ Q (.int n) H
  ok := fun X e hc => call_int1.or call_int_str
  run := fun B F0 Lk σ ρ tv td vs ds H S Q hl h w => by
    unfold biD at w
    split at w <;> first | (exact w.elim) | (rename_i z; cases z; done) | skip
    · obtain ⟨v, rfl⟩ := one_v hl rfl
      obtain ⟨_, _, o⟩ := Holds.top h
      rw [o.inv_int]
      exact .inl (.inl ⟨_, rfl, w _ _ ((Holds.pop h).push fun _ => .int _)⟩)
    · obtain ⟨v, rfl⟩ := one_v hl rfl
      obtain ⟨_, _, o⟩ := Holds.top h
      rw [o.inv_bl]
      exact .inl (.inr ⟨_, rfl, w _ _ ((Holds.pop h).push fun _ => .int _)⟩)
    · obtain ⟨v, rfl⟩ := one_v hl rfl
      obtain ⟨_, _, o⟩ := Holds.top h
      rw [o.inv_str]
      split at w
      · rename_i n hn
        obtain ⟨hz, w⟩ := Wish.chk w
        exact .inr ⟨_, n, rfl, hn, of_decide_eq_true hz, w _ _ ((Holds.pop h).push fun _ => .int _)⟩
      · exact w.elim
def B_str : BiR C .str (.type "str") .none where
  r := fun xs H Q => (∃ i, xs = [.int i] ∧ i.natAbs.log2 < 1920 ∧ Q (.str (toString i)) H) ∨ ∃ a, xs = [.str a] ∧ Q (.str a) H
  ok := fun X e hc => call_str_int.or SkE.call_str_str
  run := fun B F0 Lk σ ρ tv td vs ds H S Q hl h w => by
    unfold biD at w
    split at w <;> first | (exact w.elim) | (rename_i z; cases z; done) | skip
    · obtain ⟨v, rfl⟩ := one_v hl rfl
      obtain ⟨_, _, o⟩ := Holds.top h
      rw [o.inv_str]
      exact .inr ⟨_, rfl, w _ _ ((Holds.pop h).push fun _ => .str _)⟩
    · obtain ⟨v, rfl⟩ := one_v hl rfl
      obtain ⟨_, _, o⟩ := Holds.top h
      obtain ⟨hz, w⟩ := Wish.chk w
      rw [o.inv_int]
      exact .inl ⟨_, rfl, of_decide_eq_true hz, w _ _ ((Holds.pop h).push fun _ => .str _)⟩
def B_ord : BiR C .ord (.builtin "ord") .none where
  r := fun xs H Q => ∃ x, xs = [.str x] ∧ x.length = 1 ∧ Q (.int (x.cps.getD 0 0 : Nat)) H
  ok := fun X e hc => call_ord
  run := fun B F0 Lk σ ρ tv td vs ds H S Q hl h w => by
    unfold biD at w
    split at w <;> first | (exact w.elim) | (rename_i z; cases z; done) | skip
    obtain ⟨v, rfl⟩ := one_v hl rfl
    obtain ⟨_, _, o⟩ := Holds.top h
    obtain ⟨hz, w⟩ := Wish.chk w
    rw [o.inv_str]
    exact ⟨_, rfl, of_decide_eq_true hz, w _ _ ((Holds.pop h).push fun _ => .int _)⟩
def B_tuple : BiR C .tuple (.type "tuple") .none where
  r := fun xs H Q => ∃ p ys, xs = [.ref p] ∧ ((SqL C.G.K H p ys ∧ ∀ l, H l = none → Q (.ref l) (upd H l (.tup ys))) ∨ (SqT C.G.K H p ys ∧ Q (.ref p) H))
  ok := fun X e hc => by rw [← e]; exact call_tuple_of
  run := fun B F0 Lk σ ρ tv td vs ds H S Q hl h w => by
    unfold biD at w
    split at w <;> first | (exact w.elim) | (rename_i z; cases z; done) | skip
    · obtain ⟨v, rfl⟩ := one_v hl rfl
      obtain ⟨p, ys, rfl, hs, hl2, h2⟩ := Holds.openL h
      exact ⟨p, ys, rfl, .inl ⟨hs, fun l hp => w _ _ (h2.newTup hl2 hp)⟩⟩
    · obtain ⟨v, rfl⟩ := one_v hl rfl
      obtain ⟨p, ys, rfl, hs, hl2, h2⟩ := Holds.openT h
      exact ⟨p, ys, rfl, .inr ⟨hs, w _ _ h⟩⟩
def B_list : BiR C .list (.type "list") .none where
  r := fun xs H Q => ∃ p ys, xs = [.ref p] ∧ (SqL C.G.K H p ys ∨ SqT C.G.K H p ys) ∧ ∀ l, H l = none → Q (.ref l) (upd H l (.lst ys))
  ok := fun X e hc => by rw [← e]; exact call_list_of
  run := fun B F0 Lk σ ρ tv td vs ds H S Q hl h w => by
    unfold biD at w
    split at w <;> first | (exact w.elim) | (rename_i z; cases z; done) | skip
    · obtain ⟨v, rfl⟩ := one_v hl rfl
      obtain ⟨p, ys, rfl, hs, hl2, h2⟩ := Holds.openL h
      exact ⟨p, ys, rfl, .inl hs, fun l hp => w _ _ (h2.newLst hl2 hp)⟩
    · obtain ⟨v, rfl⟩ := one_v hl rfl
      obtain ⟨p, ys, rfl, hs, hl2, h2⟩ := Holds.openT h
      exact ⟨p, ys, rfl, .inr hs, fun l hp => w _ _ (h2.newLst hl2 hp)⟩

/-! ### isinstance -/
theorem sq_ty {K : PySem.W.Frag} {H : Hp} {a : Addr} {vs : List V} (h : SqL K H a vs) : TyX K H (.ref a) (.type "list") := by
  rcases h with (h | ⟨o, h⟩) | ⟨o, its, n, h, hc, _⟩
  · exact .base (.lst h)
  · exact .base (.frz h)
  · exact .kList h hc
theorem st_ty {K : PySem.W.Frag} {H : Hp} {a : Addr} {vs : List V} (h : SqT K H a vs) : TyX K H (.ref a) (.type "tuple") := by
  rcases h with (h | ⟨o, h⟩) | ⟨o, its, n, h, hc, _⟩
  · exact .base (.tup h)
  · exact .fTuple h
  · exact .kTuple h hc
def btNm : Option Bt → String
  | none => "NoneType"
  | some b => b.nm
theorem ty_of {B Lk H : Hp} {F0 : Addr → Prop} {σ : L2.St} {ρ : List (Option D)} {tv : List V} {td : List D} {v : V} {d : D} {o : Option Bt} (h : Holds C.G B F0 Lk σ ρ (v :: tv) (d :: td) H) (e : btD d = some o) : TyX C.G.K H v (.type (btNm o)) := by
  obtain ⟨_, _, ow⟩ := h.top
  cases d with
  | non => cases e; rw [ow.inv_non]; exact .base .non
  | bl _ => cases e; rw [ow.inv_bl]; exact .base (.bl _)
  | int _ => cases e; rw [ow.inv_int]; exact .base (.int _)
  | str _ => cases e; rw [ow.inv_str]; exact .base (.str _)
  | tup _ => cases e; obtain ⟨p, vs, rfl, hs, _⟩ := h.openT; exact st_ty hs
  | lst _ _ => cases e; obtain ⟨p, vs, rfl, hs, _⟩ := h.openL; exact sq_ty hs
  | _ => cases e
theorem kit_bt (K : PySem.W.Frag) (o : Option Bt) (b : Bt) : PySem.W.kitOne K (.type (btNm o)) (.type b.nm) = some (btIn o b) := by
  refine kit_ty ?_
  rcases o with _ | o
  · cases b <;> decide +kernel
  · cases o <;> cases b <;> decide +kernel
theorem kit_bts (K : PySem.W.Frag) (o : Option Bt) : ∀ bs : List Bt, PySem.W.kitAny K (.type (btNm o)) (bs.map fun b => Value.type b.nm) = some (bs.any (btIn o))
  | [] => kitAny_nil
  | b :: bs => by
    rw [List.map_cons, List.any_cons]
    refine kitAny_cons (kit_bt K o b) (fun e => ?_) fun e => ?_
    · rw [e, Bool.false_or]; exact kit_bts K o bs
    · rw [e]; rfl
theorem boot_bt (b : Bt) : bootBuiltins (Str.ofString b.nm) = some (.type b.nm) := by cases b <;> decide +kernel
/-- isinstance(e, T) -/
theorem s_isi {b : Bt} {p p2 : Pos} (hn : nst e = true) (hg : sc.names.lookup (Str.ofString "isinstance") = some .globalImplicit) (hm : C.mg (Str.ofString "isinstance") = none) (hg2 : sc.names.lookup (Str.ofString b.nm) = some .globalImplicit) (hm2 : C.mg (Str.ofString b.nm) = none)
    (h : SE C k N sc st e ie) : SE C k N sc st (.Call (.Name (Str.ofString "isinstance") p) [e, .Name (Str.ofString b.nm) p2] [] pos) (.isi ie (.b b)) := fun X W hX => by
  have hB : PE X (.Name (Str.ofString b.nm) p2) (tC (.ty b.nm)) := pe_bltn (u := .type b.nm) (by unfold Gl Env.kindOf; rw [hX.eS]; exact hg2) (by rw [hX.eM]; exact hm2) (boot_bt b) rfl (by cases b <;> decide) (by cases b <;> decide)
  refine PE.imp (pe_callB (r := rIsi C.G.K) (by rw [← hX.eK]; exact call_isi) (by unfold Gl Env.kindOf; rw [hX.eS]; exact hg) (by rw [hX.eM]; exact hm) (by decide +kernel) (pa_cons (h X W hX) (pa_cons hB pa_nil) (star_cons hn _ _)) (by decide) (by decide) (star_cons hn _ _) rfl) fun σ H Q ⟨B, F0, Lk, ρ, tv, td, h, w⟩ => ?_
  simp only [ev] at w
  refine go1 h (fun _ z => z) w fun x v H1 _ h1 w1 => ?_
  simp only [tyD] at w1
  cases hb : btD x with
  | none => rw [hb] at w1; exact w1.elim
  | some o =>
    rw [hb] at w1
    exact ⟨v, .ty b.nm, _, _, _, rfl, .ty _, ty_of h1 hb, kit_bt C.G.K o b, w1 _ _ (h1.pop.push fun _ => .bl _)⟩
/-- isinstance(e, (T1, ..)) -/
inductive BtNms (C : Cf) (sc : Scope) : List Expr → List Bt → Prop
  | nil : BtNms C sc [] []
  | cons {b : Bt} {p : Pos} {es bs} : sc.names.lookup (Str.ofString b.nm) = some .globalImplicit → C.mg (Str.ofString b.nm) = none → BtNms C sc es bs → BtNms C sc (.Name (Str.ofString b.nm) p :: es) (b :: bs)
def tBts : List Bt → TA
  | [] => tNil
  | b :: bs => tCons (tC (.ty b.nm)) (tBts bs)
theorem BtNms.pa {X : Cx} {W : WX} (hX : CtxOk C k N sc st X W) : ∀ {es bs}, BtNms C sc es bs → PA X es (tBts bs)
  | [], _, .nil => pa_nil
  | _ :: es, b :: bs, .cons (p := p) h1 h2 h3 => pa_cons (pe_bltn (u := .type b.nm) (by unfold Gl Env.kindOf; rw [hX.eS]; exact h1) (by rw [hX.eM]; exact h2) (boot_bt b) rfl (by cases b <;> decide) (by cases b <;> decide)) (h3.pa hX) (hs := star_cons rfl es _)
theorem tBts_run {σ : L2.St} {H : Hp} : ∀ {bs : List Bt} {Q : List V → Hp → Prop}, Q (bs.map fun b => V.ty b.nm) H → tBts bs σ H Q
  | [], _, h => h
  | b :: bs, Q, h => tBts_run (Q := fun vs H => Q (V.ty b.nm :: vs) H) h
theorem bt_paired : ∀ bs : List Bt, Paired ClsV (bs.map fun b => V.ty b.nm) (bs.map fun b => Value.type b.nm)
  | [] => .nil
  | b :: bs => .cons (.ty _) (bt_paired bs)
theorem s_isis {bs : List Bt} {ns : List Expr} {p p2 : Pos} {kk : Nat} (hn : nst e = true) (hg : sc.names.lookup (Str.ofString "isinstance") = some .globalImplicit) (hm : C.mg (Str.ofString "isinstance") = none) (hb : BtNms C sc ns bs) (hz : bs.length ≤ sizeLine)
    (h : SE C k N sc st e ie) : SE C k N sc st (.Call (.Name (Str.ofString "isinstance") p) [e, .Tuple ns kk p2] [] pos) (.isi ie (.bs bs)) := fun X W hX => by
  refine PE.imp (pe_callB (r := rIsiT C.G.K) (by rw [← hX.eK]; exact call_isiT) (by unfold Gl Env.kindOf; rw [hX.eS]; exact hg) (by rw [hX.eM]; exact hm) (by decide +kernel) (pa_cons (h X W hX) (pa_cons (pe_tup (hb.pa hX)) pa_nil) (star_cons hn _ _)) (by decide) (by decide) (star_cons hn _ _) rfl) fun σ H Q ⟨B, F0, Lk, ρ, tv, td, h, w⟩ => ?_
  simp only [ev] at w
  refine go1 h (fun _ z => z) w fun x v H1 _ h1 w1 => ?_
  simp only [tyD] at w1
  cases hb : btD x with
  | none => rw [hb] at w1; cases x <;> exact w1.elim
  | some o =>
    rw [hb] at w1
    refine tBts_run ⟨by rw [List.length_map]; exact hz, fun tp hp => ?_⟩
    have h2 := h1.keep (H' := upd H1 tp (.tup (bs.map fun b => V.ty b.nm))) (Keep.new hp) (h1.tb.new hp)
    exact ⟨v, tp, _, _, _, _, rfl, upd_same, bt_paired bs, ty_of h2 hb, kit_bts C.G.K o bs, w1 _ _ (h2.pop.push fun _ => .bl _)⟩
/-- what isinstance asks of an own class -/
structure IsiC (C : Cf) (j : Nat) (ys ns : List Nat) : Prop where
  ob : ∀ c ∈ ys ++ ns, L2.Cls C.G.K (C.G.cl c) ∧ PySem.W.findIn C.G.K (.ref (C.G.cl c)) "__class__" = some (some (.builtin "object.__class__")) ∧ PySem.W.mroIn C.G.K (C.G.cl c) (.type "object") = some true
  sp : PySem.W.specialIn C.G.K (.builtin "object.__class__") "__get__" = some (some (.builtin "getset_descriptor.__get__"))
  tk : PySem.W.takesIn C.G.K (.builtin "object.__class__") = some true
  yes : ∀ c ∈ ys, PySem.W.kitOne C.G.K (.ref (C.G.cl c)) (.ref (C.G.cl j)) = some true
  no : ∀ c ∈ ns, PySem.W.kitOne C.G.K (.ref (C.G.cl c)) (.ref (C.G.cl j)) = some false
  bt : ∀ o, PySem.W.kitOne C.G.K (.type (btNm o)) (.ref (C.G.cl j)) = some false
theorem s_isc {x : Str} {j : Nat} {ys ns : List Nat} {p p2 : Pos} (hn : nst e = true) (hg : sc.names.lookup (Str.ofString "isinstance") = some .globalImplicit) (hm : C.mg (Str.ofString "isinstance") = none) (hg2 : sc.names.lookup x = some .globalImplicit) (hm2 : C.mg x = some (.ref (C.G.cl j))) (hd : (x == ("__debug__" : Str)) = false)
    (I : IsiC C j ys ns) (h : SE C k N sc st e ie) : SE C k N sc st (.Call (.Name (Str.ofString "isinstance") p) [e, .Name x p2] [] pos) (.isi ie (.c j ys ns)) := fun X W hX => by
  have hB : PE X (.Name x p2) (tC (.ref (C.G.cl j))) := pe_glob (by unfold Gl Env.kindOf; rw [hX.eS]; exact hg2) (by rw [hX.eM]; exact hm2) rfl hd
  refine PE.imp (pe_callB (r := rIsi C.G.K) (by rw [← hX.eK]; exact call_isi) (by unfold Gl Env.kindOf; rw [hX.eS]; exact hg) (by rw [hX.eM]; exact hm) (by decide +kernel) (pa_cons (h X W hX) (pa_cons hB pa_nil) (star_cons hn _ _)) (by decide) (by decide) (star_cons hn _ _) rfl) fun σ H Q ⟨B, F0, Lk, ρ, tv, td, h, w⟩ => ?_
  simp only [ev] at w
  refine go1 h (fun _ z => z) w fun x v H1 hev h1 w1 => ?_
  clear hev
  simp only [tyD] at w1
  cases hb : btD x with
  | some o =>
    rw [hb] at w1
    exact ⟨v, .ref _, _, _, _, rfl, .own _, ty_of h1 hb, I.bt o, w1 _ _ (h1.pop.push fun _ => .bl _)⟩
  | none =>
    rw [hb] at w1
    cases x <;> first | (exact w1.elim) | skip
    rename_i _ c _ _
    obtain ⟨a, dx, fvs, rfl, e2, e3, e4, h5⟩ := h1.openO
    dsimp only at w1
    by_cases hy : c ∈ ys
    · rw [if_pos hy] at w1
      obtain ⟨z1, z2, z3⟩ := I.ob c (List.mem_append_left _ hy)
      exact ⟨.ref a, .ref _, _, _, _, rfl, .own _, .base (.ins e2 z1 z2 I.sp I.tk z3), I.yes c hy, w1 _ _ (h1.pop.push fun _ => .bl _)⟩
    · rw [if_neg hy] at w1
      by_cases hno : c ∈ ns
      · rw [if_pos hno] at w1
        obtain ⟨z1, z2, z3⟩ := I.ob c (List.mem_append_right _ hno)
        exact ⟨.ref a, .ref _, _, _, _, rfl, .own _, .base (.ins e2 z1 z2 I.sp I.tk z3), I.no c hno, w1 _ _ (h1.pop.push fun _ => .bl _)⟩
      · rw [if_neg hno] at w1; exact w1.elim
/-! ### methods of texts and lists with one argument -/
theorem strs_of {K : PySem.W.Frag} {cl : Nat → Addr} {H : Hp} {Fz : Addr → Prop} : ∀ {xs : List D} {vs : List V} {f : List Addr} {is : List Str}, Owns K cl H Fz vs xs f → strsOf xs = some is → vs = is.map V.str
  | [], _, _, _, h, e => by cases h; simp only [strsOf, Option.some.injEq] at e; subst e; rfl
  | d :: ds, _, _, is, h, e => by
    cases h with
    | cons a b =>
      cases d <;> first | (simp [strsOf] at e; done) | skip
      simp only [strsOf] at e
      split at e
      · rename_i ss hs
        cases e
        rw [List.map_cons, a.inv_str, strs_of b hs]
      · cases e
theorem Holds.strs {B Lk H : Hp} {F0 : Addr → Prop} {σ : L2.St} {ρ : List (Option D)} {tv vs : List V} {td xs : List D} {is : List Str} (h : Holds C.G B F0 Lk σ ρ (vs ++ tv) (xs ++ td) H) (hl : vs.length = xs.length) (e : strsOf xs = some is) : vs = is.map V.str := by
  obtain ⟨_, _, o⟩ := h.topn hl
  exact strs_of o e
theorem s_join {apos : Pos} (hn : nst e = true) (hb : ∀ env, attributeBase a "join" env (eval a env) = eval a env) (hl : (apos.endLine == pos.line) = true) (ha : SE C k N sc st a ia) (he : SE C k N sc st e ie) : SE C k N sc st (.Call (.Attribute a "join" apos) [e] [] pos) (.m1 .join ia ie) := fun X W hX =>
  PE.imp (pe_join (ha X W hX) (he X W hX) (star_cons hn [] _) (hb _) hl) fun σ H Q ⟨B, F0, Lk, ρ, tv, td, h, w⟩ => by
    simp only [ev] at w
    refine go1 h (fun _ z => z) w fun x v H1 hev h1 w0 => ?_
    obtain ⟨hx, w1⟩ := w0.chk
    clear w0 hev
    cases x <;> first | cases hx | skip
    rename_i x
    obtain ⟨_, _, o⟩ := h1.top
    rw [o.inv_str]
    refine ⟨⟨_, rfl⟩, go1 h1 (fun _ z => z.push) w1 fun y u H2 hev h2 w2 => ?_⟩
    rw [o.inv_str] at h2
    simp only [biD] at w2
    cases hs : seqOf y with
    | none => rw [hs] at w2; exact w2.elim
    | some ys =>
    rw [hs] at w2
    dsimp only at w2
    cases hq : strsOf ys with
    | none => rw [hq] at w2; exact w2.elim
    | some ss =>
    rw [hq] at w2
    obtain ⟨hz, w3⟩ := Wish.chk w2
    cases y <;> first | (simp [seqOf] at hs; done) | skip
    · cases hs
      obtain ⟨p, vs, rfl, hs, hl, h3⟩ := h2.openT
      have e := h3.strs hl hq
      rw [e] at hs
      exact ⟨x, p, ss, rfl, rfl, by rw [hX.eK]; exact .inr hs, of_decide_eq_true hz, w3 _ _ (h2.pop.pop.push fun _ => .str _)⟩
    · cases hs
      obtain ⟨p, vs, rfl, hs, hl, h3⟩ := h2.openL
      have e := h3.strs hl hq
      rw [e] at hs
      exact ⟨x, p, ss, rfl, rfl, by rw [hX.eK]; exact .inl hs, of_decide_eq_true hz, w3 _ _ (h2.pop.pop.push fun _ => .str _)⟩
theorem strs_own {K : PySem.W.Frag} {cl : Nat → Addr} {H : Hp} {Fz : Addr → Prop} : ∀ is : List Str, Owns K cl H Fz (is.map V.str) (is.map D.str) []
  | [] => .nil
  | i :: is => .cons (f1 := []) (.str i) (strs_own is)
theorem Holds.pushStrs {B Lk H : Hp} {F0 : Addr → Prop} {σ : L2.St} {ρ : List (Option D)} {tv : List V} {td : List D} (is : List Str) (h : Holds C.G B F0 Lk σ ρ tv td H) : Holds C.G B F0 Lk σ ρ (is.map V.str ++ tv) (is.map D.str ++ td) H :=
  h.re (Keep.refl _) h.tb fun Fz f2 b => ⟨f2, Sb.refl _, fun Fz' m _ => by
    have z := (strs_own (K := C.G.K) (cl := C.G.cl) (H := H) (Fz := Fz') is).append (b.keep (Keep.refl _) m)
    simpa using z⟩
theorem s_split {apos : Pos} (hn : nst e = true) (hb : ∀ env, attributeBase a "split" env (eval a env) = eval a env) (hl : (apos.endLine == pos.line) = true) (ha : SE C k N sc st a ia) (he : SE C k N sc st e ie) : SE C k N sc st (.Call (.Attribute a "split" apos) [e] [] pos) (.m1 .split ia ie) := fun X W hX =>
  PE.imp (pe_split (ha X W hX) (he X W hX) (star_cons hn [] _) (hb _) hl) fun σ H Q ⟨B, F0, Lk, ρ, tv, td, h, w⟩ => by
    simp only [ev] at w
    refine go1 h (fun _ z => z) w fun x v H1 hev h1 w0 => ?_
    obtain ⟨hx, w1⟩ := w0.chk
    clear w0 hev
    cases x <;> first | cases hx | skip
    rename_i x
    obtain ⟨_, _, o⟩ := h1.top
    rw [o.inv_str]
    refine ⟨⟨_, rfl⟩, go1 h1 (fun _ z => z.push) w1 fun y u H2 hev h2 w2 => ?_⟩
    rw [o.inv_str] at h2
    obtain ⟨_, _, o2⟩ := h2.top
    cases y <;> first | (exact w2.elim) | skip
    rename_i y
    simp only [biD] at w2
    obtain ⟨hz, w3⟩ := Wish.chk w2
    rw [Bool.and_eq_true] at hz
    rw [o2.inv_str]
    refine ⟨x, y, rfl, rfl, by simpa using hz.1, of_decide_eq_true hz.2, fun p hp => ?_⟩
    exact w3 _ _ ((h2.pop.pop.pushStrs (Txt.split x y)).newLst (by simp) hp)
theorem s_index {apos : Pos} (hn : nst e = true) (hb : ∀ env, attributeBase a "index" env (eval a env) = eval a env) (hl : (apos.endLine == pos.line) = true) (ha : SE C k N sc st a ia) (he : SE C k N sc st e ie) : SE C k N sc st (.Call (.Attribute a "index" apos) [e] [] pos) (.m1 .index ia ie) := fun X W hX =>
  PE.imp (pe_bm F.plainAttrs_list F.slot_list_index F.type_list_index (mt_indexD (by have := hX.room.un; omega)) (ha X W hX) (pa_cons (he X W hX) pa_nil (hs := star_cons hn [] _)) (hb _) (by
      have h1 := star_any (pos := pos) (es := [e]) (env := X.env) (by rw [List.all_cons, hn]; rfl)
      have h2 : (backTo pos (starEach [e] X.env)).all (fun x => !x.1) = true := by
        rw [List.all_eq_not_any_not]
        simpa using h1
      rw [h2]
      rfl) hl (star_cons hn [] _) rfl) fun σ H Q ⟨B, F0, Lk, ρ, tv, td, h, w⟩ => by
    simp only [ev] at w
    refine go1 h (fun _ z => z) w fun x v H1 hev h1 w0 => ?_
    obtain ⟨hx, w1⟩ := w0.chk
    clear w0 hev
    cases x <;> first | cases hx | skip
    rename_i f xs
    obtain ⟨p, vs, rfl, hs, hl, h3⟩ := h1.openL
    refine ⟨.inl ⟨rfl, vs, by rw [hX.eK]; exact hs⟩, go1 h1 (fun _ z => z.push) w1 fun y u H2 hev h2 w2 => ?_⟩
    simp only [biD] at w2
    cases hp1 : plain (.lst f xs) with
    | none => rw [hp1] at w2; exact w2.elim
    | some pl =>
    cases hp2 : plain y with
    | none => rw [hp1, hp2] at w2; cases pl <;> exact w2.elim
    | some py =>
    rw [hp1, hp2] at w2
    cases pl <;> first | (exact w2.elim) | skip
    rename_i ps
    dsimp only at w2
    cases hi : ps.findIdx? fun z => PyData.eqv z py with
    | none => rw [hi] at w2; exact w2.elim
    | some j =>
    rw [hi] at w2
    obtain ⟨_, _, o2⟩ := h2.top
    obtain ⟨_, _, o1⟩ := h2.pop.top
    obtain ⟨t1, t2⟩ := plain_some hp1
    obtain ⟨t3, t4⟩ := plain_some hp2
    obtain ⟨hj, e1, e2⟩ := List.findIdx?_eq_some_iff_getElem.mp hi
    exact ⟨p, u, py, ps, j, ps[j], rfl, rfl, by rw [hX.eK]; exact o1.dp t1, by rw [hX.eK]; exact o2.dp t3, t2, t4, List.getElem?_eq_getElem hj, e1, fun m z' hm hz => by
      obtain ⟨hm', e3⟩ := List.getElem?_eq_some_iff.mp hz
      have := e2 m hm
      rw [e3] at this
      simpa using this, w2 _ _ (h2.pop.pop.push fun _ => .int _)⟩
/-! ### sorted, repr, max, min, starred lists -/
theorem ints_of {K : PySem.W.Frag} {cl : Nat → Addr} {H : Hp} {Fz : Addr → Prop} : ∀ {xs : List D} {vs : List V} {f : List Addr} {is : List Int}, Owns K cl H Fz vs xs f → intsOf xs = some is → vs = is.map V.int
  | [], _, _, _, h, e => by cases h; simp only [intsOf, Option.some.injEq] at e; subst e; rfl
  | d :: ds, _, _, is, h, e => by
    cases h with
    | cons a b =>
      cases d <;> first | (simp [intsOf] at e; done) | skip
      simp only [intsOf] at e
      split at e
      · rename_i ss hs
        cases e
        rw [List.map_cons, a.inv_int, ints_of b hs]
      · cases e
theorem sort_eq {xs ys : List Int} (p : ys.Perm xs) (s : ys.Pairwise (· ≤ ·)) : ys = xs.mergeSort (fun a b => decide (a ≤ b)) := by
  have s2 : (xs.mergeSort (fun a b => decide (a ≤ b))).Pairwise (fun a b => decide (a ≤ b) = true) := List.pairwise_mergeSort (fun a b c h1 h2 => by simp only [decide_eq_true_eq] at *; omega) (fun a b => by simp only [Bool.or_eq_true, decide_eq_true_eq]; omega) xs
  exact List.Perm.eq_of_pairwise (le := (· ≤ ·)) (fun a b _ _ h1 h2 => Int.le_antisymm h1 h2) s (s2.imp fun h => of_decide_eq_true h) (p.trans (List.mergeSort_perm _ _).symm)
theorem Holds.ints {B Lk H : Hp} {F0 : Addr → Prop} {σ : L2.St} {ρ : List (Option D)} {tv : List V} {td : List D} (h : Holds C.G B F0 Lk σ ρ tv td H) : ∀ is : List Int, Holds C.G B F0 Lk σ ρ (is.map V.int ++ tv) (is.map D.int ++ td) H
  | [] => h
  | i :: is => Holds.push (h.ints is) fun _ => .int i
def B_sorted : BiR C .sorted (.builtin "sorted") .none where
  r := rSorted C.G.K
  ok := fun X e hc => by rw [← e]; exact cr_sorted
  run := fun B F0 Lk σ ρ tv td vs ds H S Q hl h w => by
    unfold biD at w
    split at w <;> first | (exact w.elim) | (rename_i z; cases z; done) | skip
    obtain ⟨v, rfl⟩ := one_v hl rfl
    obtain ⟨p, ys, rfl, hs, hl2, h2⟩ := Holds.openL h
    split at w
    · rename_i is hi
      obtain ⟨hz, w⟩ := Wish.chk w
      obtain ⟨_, _, ow⟩ := Holds.topn h2 hl2
      have e := ints_of ow hi
      subst e
      refine ⟨p, is, rfl, hs, of_decide_eq_true hz, fun ns q pm st hq => ?_⟩
      rw [sort_eq pm st]
      exact w _ _ (Holds.newLst ((Holds.popn h2 hl2).ints _) (by rw [List.length_map, List.length_map]) hq)
    · exact w.elim
def B_max : BiR C .max (.builtin "max") .none where
  r := fun xs H Q => ∃ i j, xs = [.int i, .int j] ∧ Q (.int (if j > i then j else i)) H
  ok := fun X e hc => call_max2 hc
  run := fun B F0 Lk σ ρ tv td vs ds H S Q hl h w => by
    unfold biD at w
    split at w <;> first | (exact w.elim) | (rename_i z; cases z; done) | skip
    match vs, hl with
    | [v, u], _ =>
      obtain ⟨_, _, o1⟩ := Holds.top h
      obtain ⟨_, _, o2⟩ := Holds.top (Holds.pop h)
      rw [o1.inv_int, o2.inv_int]
      exact ⟨_, _, rfl, w _ _ ((Holds.pop (Holds.pop h)).push fun _ => .int _)⟩
def B_min : BiR C .min (.builtin "min") .none where
  r := fun xs H Q => ∃ i j, xs = [.int i, .int j] ∧ Q (.int (if j < i then j else i)) H
  ok := fun X e hc => call_min2 hc
  run := fun B F0 Lk σ ρ tv td vs ds H S Q hl h w => by
    unfold biD at w
    split at w <;> first | (exact w.elim) | (rename_i z; cases z; done) | skip
    match vs, hl with
    | [v, u], _ =>
      obtain ⟨_, _, o1⟩ := Holds.top h
      obtain ⟨_, _, o2⟩ := Holds.top (Holds.pop h)
      rw [o1.inv_int, o2.inv_int]
      exact ⟨_, _, rfl, w _ _ ((Holds.pop (Holds.pop h)).push fun _ => .int _)⟩
def rRepr (K : PySem.W.Frag) : List V → Hp → VK → Prop := fun vs H Q => ∃ a p, vs = [.ref a] ∧ Dp K H (.ref a) p ∧ p.showable = true ∧ p.hasDict = false ∧ p.depth ≤ 64 ∧ p.shown.length ≤ sizeLine ∧ Q (.str p.shown) H
theorem call_repr {X : Cx} (hg : X.A.guards = some []) (hr : L2.Room k X.A) : CallR X (.builtin "repr") (rRepr X.K) := by
  intro pins s σ H vs us Q I r h
  obtain ⟨a, p, rfl, hd, h1, h2, h3, h4, q⟩ := h
  obtain ⟨u, rfl, ru⟩ := Vals.one r
  obtain rfl : u = Value.ref a := ru
  obtain ⟨as, rd⟩ := Dp.reads I p (.ref a) (.ref a) hd rfl
  have un := hr.un
  exact PySem.repr_of_reads' rd h1 (fun z => by rw [h2] at z; cases z) hg (by omega) (fun _ _ e => e) (fun h' t tk hk => ⟨.str _, H, I.kept hk, ⟨t, rfl⟩, q⟩) h4
theorem s_repr {p : Pos} (hn : nst e = true) (hg : sc.names.lookup (Str.ofString "repr") = some .globalImplicit) (hm : C.mg (Str.ofString "repr") = none) (h : SE C k N sc st e ie) : SE C k N sc st (.Call (.Name (Str.ofString "repr") p) [e] [] pos) (.bi .repr [ie]) := fun X W hX => by
  refine PE.imp (pe_callB (r := rRepr C.G.K) (by rw [← hX.eK]; exact call_repr hX.gd hX.room) (by unfold Gl Env.kindOf; rw [hX.eS]; exact hg) (by rw [hX.eM]; exact hm) (by decide +kernel) (ss_cons hn h ss_nil X W hX) (by decide) (by decide) (star_cons hn _ _) rfl) fun σ H Q hq => bi_tail (fun B F0 Lk σ ρ tv td vs ds H S Q hl h w => ?_) hq
  unfold biD at w
  split at w <;> first | (exact w.elim) | (rename_i z; cases z; done) | skip
  all_goals
    unfold reprD at w
    obtain ⟨v, rfl⟩ := one_v hl rfl
    obtain ⟨_, _, ow⟩ := Holds.top h
    split at w
    · rename_i q hq
      obtain ⟨hz, w⟩ := Wish.chk w
      simp only [Bool.and_eq_true, decide_eq_true_eq, Bool.not_eq_true'] at hz
      obtain ⟨a, rfl⟩ : ∃ a, v = .ref a := by first | exact (Holds.openL h).imp fun a z => z.choose_spec.1 | exact (Holds.openT h).imp fun a z => z.choose_spec.1
      exact ⟨_, _, rfl, ow.dp hq, hz.1.1.1, hz.1.1.2, hz.1.2, hz.2, w _ _ ((Holds.pop h).push fun _ => .str _)⟩
    · exact w.elim
/-- [*e, ..] -/
theorem s_stl {p2 : Pos} (ha : SE C k N sc st e ie) (hs : SEs C k N sc st es ies) : SE C k N sc st (.List (.Starred e p2 :: es) pos) (.stl ie ies) := fun X W hX =>
  PE.imp (pe_lst (StX.pa_star (ha X W hX) (hs X W hX))) fun σ H Q ⟨B, F0, Lk, ρ, tv, td, h, w⟩ => by
    simp only [ev] at w
    refine go1 h (fun _ z => z) w fun x v H1 hx h1 w1 => ?_
    clear hx
    have fin : ∀ {p : Addr} {us : List V} {xs : List D}, us.length = xs.length → Holds C.G B F0 Lk σ ρ (us ++ tv) (xs ++ td) H1 → Wish ((evs C.Φ C.gv ies ρ).bind fun ys => .chk (decide ((xs ++ ys).length ≤ sizeLine)) (.ok (.lst .ow (xs ++ ys)))) (Off C W σ B F0 Lk ρ tv td) (fun d => ∀ v H', Holds C.G B F0 Lk σ ρ (v :: tv) (d :: td) H' → Q v H') →
        tEs C ies W σ H1 fun ws H2 => (us ++ ws).length ≤ sizeLine ∧ ∀ q, H2 q = none → Q (.ref q) (L2.upd H2 q (.lst (us ++ ws))) := fun {p us xs} hl h2 w2 => by
      refine gos h2 (fun _ z => z.pushn hl) w2 fun ys ws H2 _ hl2 h3 w3 => ?_
      obtain ⟨hz, w4⟩ := w3.chk
      have el : (us ++ ws).length = (xs ++ ys).length := by rw [List.length_append, List.length_append, hl, hl2]
      refine ⟨by rw [el]; exact of_decide_eq_true hz, fun q hq => ?_⟩
      have h4 : Holds C.G B F0 Lk σ ρ ((us ++ ws) ++ tv) ((xs ++ ys) ++ td) H2 := h3.re (Keep.refl _) h3.tb fun Fz f2 b => by
        obtain ⟨g1, g2, q1, q2, rfl⟩ := b.split hl2
        obtain ⟨g3, g4, q3, q4, rfl⟩ := q2.split hl
        refine ⟨(g3 ++ g1) ++ g4, Sb.of_perm ?_, fun Fz' m _ => ((q3.keep (Keep.refl _) m).append (q1.keep (Keep.refl _) m)).append (q4.keep (Keep.refl _) m)⟩
        rw [← List.append_assoc]
        exact (List.perm_append_comm).append_right g4
      exact w4 _ _ (Holds.newLst h4 el hq)
    cases x <;> first | exact w1.elim | skip
    · obtain ⟨p, us, rfl, hs, hl, h2⟩ := h1.openT
      rw [hX.eK]
      exact ⟨p, us, rfl, .inl hs, fin (p := p) hl h2 w1⟩
    · obtain ⟨p, us, rfl, hs, hl, h2⟩ := h1.openL
      rw [hX.eK]
      exact ⟨p, us, rfl, .inr hs, fin (p := p) hl h2 w1⟩
/-- what a list or a tuple holds -/
theorem open_seq {B Lk H : Hp} {F0 : Addr → Prop} {σ : L2.St} {ρ : List (Option D)} {tv : List V} {td : List D} {v : V} {x : D} {S : Exn → Prop} {R : List D → Prop} (h : Holds C.G B F0 Lk σ ρ (v :: tv) (x :: td) H) (w : Wish (listD x) S R) : ∃ p us xs, v = .ref p ∧ (SqT C.G.K H p us ∨ SqL C.G.K H p us) ∧ us.length = xs.length ∧ Holds C.G B F0 Lk σ ρ (us ++ tv) (xs ++ td) H ∧ R xs := by
  cases x <;> first | exact w.elim | skip
  · obtain ⟨p, us, rfl, hs, hl, h2⟩ := h.openT
    exact ⟨p, us, _, rfl, .inl hs, hl, h2, w⟩
  · obtain ⟨p, us, rfl, hs, hl, h2⟩ := h.openL
    exact ⟨p, us, _, rfl, .inr hs, hl, h2, w⟩
/-- [*a, *b] -/
theorem s_st2 {p1 p2 : Pos} (ha : SE C k N sc st a ia) (hb : SE C k N sc st b ib) : SE C k N sc st (.List [.Starred a p1, .Starred b p2] pos) (.st2 ia ib) := fun X W hX =>
  PE.imp (pe_lst (StX.pa_star (ha X W hX) (StX.pa_star (hb X W hX) pa_nil))) fun σ H Q ⟨B, F0, Lk, ρ, tv, td, h, w⟩ => by
    simp only [ev] at w
    refine go1 h (fun _ z => z) w fun x v H1 _ h1 w1 => ?_
    obtain ⟨p, us, xs, rfl, hs, hl, h2, w2⟩ := open_seq h1 w1.bind
    rw [hX.eK]
    refine ⟨p, us, rfl, hs, go1 h2 (fun _ z => z.pushn hl) w2 fun y u H2 _ h3 w3 => ?_⟩
    obtain ⟨q, ws, ys, rfl, hs2, hl2, h4, w4⟩ := open_seq h3 w3.bind
    obtain ⟨hz, w5⟩ := w4.chk
    have el : (us ++ ws).length = (xs ++ ys).length := by rw [List.length_append, List.length_append, hl, hl2]
    refine ⟨q, ws, rfl, hs2, ?_⟩
    show (us ++ (ws ++ [])).length ≤ sizeLine ∧ _
    rw [List.append_nil]
    refine ⟨by rw [el]; exact of_decide_eq_true hz, fun q hq => ?_⟩
    have h5 : Holds C.G B F0 Lk σ ρ ((us ++ ws) ++ tv) ((xs ++ ys) ++ td) H2 := h4.re (Keep.refl _) h4.tb fun Fz f2 b => by
      obtain ⟨g1, g2, q1, q2, rfl⟩ := b.split hl2
      obtain ⟨g3, g4, q3, q4, rfl⟩ := q2.split hl
      refine ⟨(g3 ++ g1) ++ g4, Sb.of_perm ?_, fun Fz' m _ => ((q3.keep (Keep.refl _) m).append (q1.keep (Keep.refl _) m)).append (q4.keep (Keep.refl _) m)⟩
      rw [← List.append_assoc]
      exact (List.perm_append_comm).append_right g4
    exact w5 _ _ (Holds.newLst h5 el hq)
end
end Pu

set_option Elab.async false
set_option linter.all false
set_option maxRecDepth 100000
set_option maxHeartbeats 1000000
/-! Pu7: calls of the text's own functions, new objects, fields. -/
namespace Pu
open PySem PySem.Spec PyProof.Rows L2

def noH : Hp := fun _ => none
theorem Keep.noH (H : Hp) : Keep noH H := fun _ _ e => by cases e

/-- the def at f keeps the promise sp, by level kl, where no guard runs -/
structure FnG (C : Cf) (kl : Nat) (f : Addr) (fd : FuncData) (ps : List Str) (sp : Sp) : Prop where
  len : ∀ vs H Q E, sp vs H Q E → vs.length = ps.length
  run : ∀ (A : Around) (outer : List Env) (s : Shared) (H : Hp) (us : List Value) (vs : List V) (Q : VK) (E : XK), L2.Room kl A → A.guards = some [] → Env0 C.P C.w C.G.K C.mg C.base A outer s H →
    BindsTo s fd ⟨us, []⟩ (ps.zip us) → Vals vs us → sp vs H Q E → codeAny (model C.P C.w) A (.call (.ref f) ⟨us, []⟩) (CR (L2.CX C.P C.w) outer C.P C.w H s Q E) s

/-- the values at the places is -/
def sel {α : Type} (is : List Nat) (vs : List α) : List α := is.filterMap fun i => vs[i]?
/-- the settled arguments: all but the places is -/
def argsOk (is : List Nat) (ds : List D) : Bool := (List.range ds.length).all fun i => decide (i ∈ is) || (match ds[i]? with | some d => allFz d | none => true)
/-- THE PROMISE of function j: what the interpreter says of it -/
def spF (C : Cf) (j np : Nat) (is : List Nat) : Sp := fun vs H Q E => vs.length = np ∧ ∃ B F0 ds, vs.length = ds.length ∧ argsOk is ds = true ∧ noVws ds = true ∧ Holds C.G B F0 noH [] [] vs ds H ∧
  Wish (C.Φ j ds) (fun x => ∀ H', Holds C.G B F0 noH [] [] (sel is vs) x.ms H' → ∀ cls dx, ExR C.G H' x cls dx → E cls dx H')
    (fun r => ∀ v H', Holds C.G B F0 noH [] [] (v :: sel is vs) (r.1 :: r.2) H' → noVw r.1 = true → Q v H')

section
variable {C : Cf} {k kl : Nat} {N : List Str} {sc : Scope} {st : List Str} {X : Cx} {W : WX} {f : Addr} {fd : FuncData} {ps : List Str} {sp : Sp}
theorem run_G {pins : List (Addr × Obj)} {σ : L2.St} {H : Hp} {s : Shared} {Q : VK} {us : List Value} {vs : List V} (hX : CtxOk C k N sc st X W) (F : FnG C kl f fd ps sp) (hk : kl ≤ k) (hb : Binds C.G.K fd ps [])
    (I : Inv X pins σ H s) (r : Vals vs us) (h : sp vs H Q (WE W σ)) : wpAny (model X.prog X.w) X.A (call (.ref f) us) (EP X pins σ Q) X.xe s := by
  have hl : us.length = ps.length := r.length.symm.trans (F.len _ _ _ _ h)
  have KI : C.G.K.In s.heap := hX.eK ▸ I.kIn
  have b := hb s us KI (by simpa using hl)
  simp only [List.append_nil] at b
  have E0 := I.env0
  rw [hX.eP, hX.eW, hX.eK, hX.eM, hX.eB] at E0
  have c := F.run X.A X.stack s H us vs Q (WE W σ) (hX.room.mono hk) hX.gd E0 b r h
  rw [hX.eP, hX.eW]
  refine wpAny_call (codeAny_mono c fun r s' hq => ?_)
  rcases r with e | fl
  · have p := passAt hX.takes σ
    rw [hX.eP, hX.eW] at p
    exact p pins H s e s' I hq
  · cases fl with
    | ret u =>
      have q2 : CE X.stack X.prog X.w H s Q u s' := by rw [hX.eP, hX.eW]; exact hq
      exact I.after q2
    | next => exact hq.elim
    | brk => exact hq.elim
    | cont => exact hq.elim
/-- f(e, ..) by values -/
def tCallG (sp : Sp) (W : WX) (t : TA) : TE := fun σ H Q => t σ H fun vs H1 => sp vs H1 Q (WE W σ)
theorem pe_callG {x : Str} {p pos : Pos} {e : Expr} {es : List Expr} {t : TA} (hX : CtxOk C k N sc st X W) (F : FnG C kl f fd ps sp) (hk : kl ≤ k) (hb : Binds C.G.K fd ps []) (hg : sc.names.lookup x = some .globalImplicit) (hm : C.mg x = some (.ref f)) (hkp : PySem.W.keepIn C.G.K (.ref f) = true)
    (hd : (x == ("__debug__" : Str)) = false) (hn : (e :: es).all nst = true) (ha : PA X (e :: es) t) : PE X (.Call (.Name x p) (e :: es) [] pos) (tCallG sp W t) := by
  rw [List.all_cons, Bool.and_eq_true] at hn
  refine ⟨fun pins s σ H Q I h => wpAny_Call_Name_kw (ld_glob I (by unfold Gl Env.kindOf; rw [hX.eS]; exact hg) (by rw [hX.eM]; exact hm) ?_ hd)⟩
  exact PySem.W.callWith_K (h₀ := X.base) I.ok.mod.kin (by rw [hX.eK]; exact hkp) (thn (ha.run pos pins s σ H _ I h) fun us s1 ⟨vs, H1, I1, r, q⟩ => ⟨I1.kIn, run_G hX F hk hb I1 r q⟩) (star_cons hn.1 es X.env) (star_any hn.2)
theorem pe_callG0 {x : Str} {p pos : Pos} (hX : CtxOk C k N sc st X W) (F : FnG C kl f fd ps sp) (hk : kl ≤ k) (hb : Binds C.G.K fd ps []) (hg : sc.names.lookup x = some .globalImplicit) (hm : C.mg x = some (.ref f)) (hkp : PySem.W.keepIn C.G.K (.ref f) = true)
    (hd : (x == ("__debug__" : Str)) = false) : PE X (.Call (.Name x p) [] [] pos) (tCallG sp W tNil) := by
  refine ⟨fun pins s σ H Q I h => wpAny_Call_Name_kw (ld_glob I (by unfold Gl Env.kindOf; rw [hX.eS]; exact hg) (by rw [hX.eM]; exact hm) ?_ hd)⟩
  exact PySem.W.callWith_K0 I.kIn (by rw [hX.eK]; exact hkp) (run_G (us := []) hX F hk hb I .nil h)
end

/-! ### what a pure call asks and gives -/
mutual
theorem anyFz_all : ∀ d : D, allFz (anyFz d) = true
  | .non => rfl | .bl _ => rfl | .int _ => rfl | .str _ => rfl | .is _ => rfl
  | .tup xs => by simp only [anyFz, allFz]; exact anyFzs_all xs
  | .lst f xs => by simp only [anyFz, allFz, Bool.and_eq_true, decide_eq_true_eq]; exact ⟨trivial, anyFzs_all xs⟩
  | .obj f c ns xs => by simp only [anyFz, allFz, Bool.and_eq_true, decide_eq_true_eq]; exact ⟨trivial, anyFzs_all xs⟩
  | .dct f ks xs => by simp only [anyFz, allFz, Bool.and_eq_true, decide_eq_true_eq]; exact ⟨trivial, anyFzs_all xs⟩
theorem anyFzs_all : ∀ ds : List D, allFzs (anyFzs ds) = true
  | [] => rfl
  | d :: ds => by simp only [anyFzs, allFzs, Bool.and_eq_true]; exact ⟨anyFz_all d, anyFzs_all ds⟩
end
mutual
theorem anyFz_fzD : ∀ d : D, noVw d = true → anyFz d = fzD d
  | .non, _ => rfl | .bl _, _ => rfl | .int _, _ => rfl | .str _, _ => rfl | .is _, _ => rfl
  | .tup xs, h => by simp only [anyFz, fzD, noVw] at *; rw [anyFzs_fzDs xs h]
  | .lst f xs, h => by
    simp only [anyFz, fzD, noVw, Bool.and_eq_true, decide_eq_true_eq] at *
    rw [anyFzs_fzDs xs h.2]
    cases f <;> first | rfl | exact absurd rfl h.1
  | .obj f c ns xs, h => by
    simp only [anyFz, fzD, noVw, Bool.and_eq_true, decide_eq_true_eq] at *
    rw [anyFzs_fzDs xs h.2]
    cases f <;> first | rfl | exact absurd rfl h.1
  | .dct f ks xs, h => by
    simp only [anyFz, fzD, noVw, Bool.and_eq_true, decide_eq_true_eq] at *
    rw [anyFzs_fzDs xs h.2]
    cases f <;> first | rfl | exact absurd rfl h.1
theorem anyFzs_fzDs : ∀ ds : List D, noVws ds = true → anyFzs ds = fzDs ds
  | [], _ => rfl
  | d :: ds, h => by
    simp only [anyFzs, fzDs, noVws, Bool.and_eq_true] at *
    rw [anyFz_fzD d h.1, anyFzs_fzDs ds h.2]
end
theorem anyFzs_len : ∀ ds : List D, (anyFzs ds).length = ds.length
  | [] => rfl
  | d :: ds => by simp only [anyFzs, List.length_cons, anyFzs_len ds]
section
variable {K : PySem.W.Frag} {cl : Nat → Addr} {H : Hp} {Fz : Addr → Prop}
mutual
/-- another sees all of it as settled, who holds all that stands as settled -/
theorem Own.any : ∀ {d : D} {v : V} {f : List Addr}, Own K cl H Fz v d f → Own K cl H (fun a => H a ≠ none) v (anyFz d) []
  | .non, _, _, h => by cases h; exact .non
  | .bl _, _, _, h => by cases h; exact .bl _
  | .int _, _, _, h => by cases h; exact .int _
  | .str _, _, _, h => by cases h; exact .str _
  | .is _, _, _, h => by cases h; exact .is _
  | .tup ds, _, _, h => by cases h with | tup a b => exact .tup a (Owns.any b)
  | .lst f ds, _, _, h => by
    cases h with
    | lst a b =>
      have b' := Owns.any b
      rcases a.seq with (e | ⟨o, e⟩) | e
      · exact .lst (.fz e (by rw [e]; exact fun z => by cases z)) b'
      · exact .lst (.lk e) b'
      · exact .lst (.wr (.inr e)) b'
  | .obj f c ns ds, _, _, h => by
    cases h with
    | obj a b =>
      have b' := Owns.any b
      obtain ⟨dx, fvs, e, rfl, rfl⟩ := a.ins
      exact .obj (.fz e (by rw [e]; exact fun z => by cases z)) b'
  | .dct f ks ds, _, _, h => by
    cases h with
    | dct a b =>
      have b' := Owns.any b
      obtain ⟨kvs, e, rfl, rfl⟩ := a.dk
      exact .dct (.fz e (by rw [e]; exact fun z => by cases z)) b'
theorem Owns.any : ∀ {ds : List D} {vs : List V} {f : List Addr}, Owns K cl H Fz vs ds f → Owns K cl H (fun a => H a ≠ none) vs (anyFzs ds) []
  | [], _, _, h => by cases h; exact .nil
  | d :: ds, _, _, h => by cases h with | cons a b => exact .cons (Own.any a) (Owns.any b)
end
end
section
variable {G : Gb} {B Lk H H' : Hp} {F0 : Addr → Prop} {σ : L2.St} {ρ : List (Option D)} {tv : List V} {td : List D} {vs : List V} {ds : List D} {v : V} {d : D}
/-- many on top settled -/
theorem Holds.frzn (h : Holds G B F0 Lk σ ρ (vs ++ tv) (ds ++ td) H) (e : vs.length = ds.length) : Holds G B F0 Lk σ ρ (vs ++ tv) (fzDs ds ++ td) H := by
  obtain ⟨⟨f1, f2, a, b, n, q⟩, kb, kl, tb⟩ := h
  obtain ⟨g1, g2, b1, b2, rfl⟩ := b.split e
  have s : Sb (f1 ++ g2) (f1 ++ (g1 ++ g2)) := (Sb.refl f1).app (Sb.right _ _)
  have mono : ∀ a, Fzp B F0 (f1 ++ (g1 ++ g2)) a → Fzp B F0 (f1 ++ g2) a := fun a z => ⟨z.1, fun m => z.2 (s.mem a m)⟩
  refine ⟨⟨f1, [] ++ g2, a.keep (Keep.refl _) fun a _ => mono a, (b1.freeze mono fun p hp => ⟨.inr (q p (List.mem_append_right _ (List.mem_append_left _ hp))), fun m => ?_⟩).append (b2.keep (Keep.refl _) fun a _ => mono a), s.nodup n, fun p hp => q p (s.mem p hp)⟩, kb, kl, tb⟩
  have n2 := List.nodup_append.mp n
  rcases List.mem_append.mp m with m | m
  · exact n2.2.2 p m p (List.mem_append_left _ hp) rfl
  · exact (List.nodup_append.mp n2.2.1).2.2 p hp p m rfl
/-- into a callee: all that stands is the ground -/
theorem Holds.into (h : Holds G B F0 Lk σ ρ (vs ++ tv) (ds ++ td) H) (e : vs.length = ds.length) : Holds G H (fun a => H a ≠ none) noH [] [] vs (anyFzs ds) H := by
  obtain ⟨⟨f1, f2, a, b, n, q⟩, kb, kl, tb⟩ := h
  obtain ⟨g1, g2, b1, b2, rfl⟩ := b.split e
  refine ⟨⟨[], [], .nil, ?_, List.nodup_nil, fun p hp => absurd hp List.not_mem_nil⟩, Keep.refl _, Keep.noH _, tb⟩
  exact (Owns.any b1).keep (Keep.refl _) fun a ha z => ⟨.inl z, List.not_mem_nil⟩
/-- .. where all arguments are settled here too -/
theorem Holds.into2 (h : Holds G B F0 Lk σ ρ (vs ++ tv) (ds ++ td) H) (e : vs.length = ds.length) (hf : allFzs ds = true) :
    ∃ F1 : Addr → Prop, Holds G H F1 noH [] [] vs ds H ∧ ∀ H' v d, Holds G H F1 noH [] [] [v] [d] H' → Holds G B F0 Lk σ ρ (v :: tv) (d :: td) H' := by
  obtain ⟨⟨f1, f2, a, b, n, q⟩, kb, kl, tb⟩ := h
  obtain ⟨g1, g2, b1, b2, rfl⟩ := b.split e
  have z := b1.fp_nil hf
  subst z
  refine ⟨fun a => Fzp B F0 (f1 ++ ([] ++ g2)) a ∧ H a ≠ none, ⟨⟨[], [], .nil, b1.keep (Keep.refl _) fun a ha z => ⟨.inl ⟨z, ha⟩, List.not_mem_nil⟩, List.nodup_nil, fun p hp => absurd hp List.not_mem_nil⟩, Keep.refl _, Keep.noH _, tb⟩, ?_⟩
  intro H' v d h'
  obtain ⟨⟨e1, e2, a', b', n', q'⟩, kb', kl', tb'⟩ := h'
  have z1 : e1 = [] := by cases a'; rfl
  subst z1
  rw [List.nil_append] at *
  -- what is new is apart from what stood
  have new : ∀ p ∈ e2, p ∉ f1 ++ g2 := fun p hp hm => by
    have hn := q' p hp
    rcases List.mem_append.mp hm with m | m
    · exact (a.mut p m).2 hn
    · exact (b2.mut p m).2 hn
  have pm : (f1 ++ (e2 ++ g2)).Perm (e2 ++ (f1 ++ g2)) := by
    rw [← List.append_assoc, ← List.append_assoc]
    exact (List.perm_append_comm).append_right g2
  have mono : ∀ a, H a ≠ none → Fzp B F0 (f1 ++ g2) a → Fzp B F0 (f1 ++ (e2 ++ g2)) a := fun a ha z => ⟨z.1, fun m => by
    rcases List.mem_append.mp (pm.subset m) with m | m
    · exact ha (q' a m)
    · exact z.2 m⟩
  have mono2 : ∀ a, H' a ≠ none → Fzp H (fun a => Fzp B F0 (f1 ++ g2) a ∧ H a ≠ none) e2 a → Fzp B F0 (f1 ++ (e2 ++ g2)) a := fun a _ z => by
    rcases z with ⟨z | z, zn⟩
    · exact ⟨z.1.1, fun m => by
        rcases List.mem_append.mp (pm.subset m) with m | m
        · exact zn m
        · exact z.1.2 m⟩
    · refine ⟨.inr (kb.none z), fun m => ?_⟩
      rcases List.mem_append.mp (pm.subset m) with m | m
      · exact zn m
      · rcases List.mem_append.mp m with m | m
        · exact (OwnS.mut (by assumption) a m).2 z
        · exact (b2.mut a m).2 z
  have b'' : Own G.K G.cl H' (Fzp H (fun a => Fzp B F0 (f1 ++ g2) a ∧ H a ≠ none) e2) v d e2 := by
    cases b' with
    | cons x y => cases y; simpa only [List.append_nil, List.nil_append] using x
  refine ⟨⟨f1, e2 ++ g2, OwnS.keep kb' mono (by assumption), .cons (b''.keep (Keep.refl _) mono2) (b2.keep kb' mono), ?_, fun p hp => ?_⟩, kb.trans kb', kl.trans kb', tb'⟩
  · rw [pm.nodup_iff]
    exact List.nodup_append.mpr ⟨by simpa using n', n, fun p hp r hr e => new p hp (e ▸ hr)⟩
  · rcases List.mem_append.mp (pm.subset hp) with m | m
    · exact kb.none (q' p m)
    · exact q p m
/-- back from a callee that saw all as settled -/
theorem Holds.back (h : Holds G B F0 Lk σ ρ tv td H) (h' : Holds G H (fun a => H a ≠ none) noH [] [] [v] [d] H') : Holds G B F0 Lk σ ρ (v :: tv) (vaD d :: td) H' := by
  obtain ⟨⟨f1, g2, a, b2, n, q⟩, kb, kl, tb⟩ := h
  obtain ⟨⟨e1, e2, a', b', n', q'⟩, kb', kl', tb'⟩ := h'
  have z1 : e1 = [] := by cases a'; rfl
  subst z1
  rw [List.nil_append] at *
  have new : ∀ p ∈ e2, p ∉ f1 ++ g2 := fun p hp hm => by
    have hn := q' p hp
    rcases List.mem_append.mp hm with m | m
    · exact (a.mut p m).2 hn
    · exact (b2.mut p m).2 hn
  have pm : (f1 ++ (e2 ++ g2)).Perm (e2 ++ (f1 ++ g2)) := by
    rw [← List.append_assoc, ← List.append_assoc]
    exact (List.perm_append_comm).append_right g2
  have mono : ∀ a, H a ≠ none → Fzp B F0 (f1 ++ g2) a → Fzp B F0 (f1 ++ (e2 ++ g2)) a := fun a ha z => ⟨z.1, fun m => by
    rcases List.mem_append.mp (pm.subset m) with m | m
    · exact ha (q' a m)
    · exact z.2 m⟩
  have b'' : Own G.K G.cl H' (Fzp H (fun a => H a ≠ none) e2) v d e2 := by
    cases b' with
    | cons x y => cases y; simpa only [List.append_nil, List.nil_append] using x
  refine ⟨⟨f1, e2 ++ g2, a.keep kb' mono, .cons b''.va (b2.keep kb' mono), ?_, fun p hp => ?_⟩, kb.trans kb', kl.trans kb', tb'⟩
  · rw [pm.nodup_iff]
    exact List.nodup_append.mpr ⟨by simpa using n', n, fun p hp r hr e => new p hp (e ▸ hr)⟩
  · rcases List.mem_append.mp (pm.subset hp) with m | m
    · exact kb.none (q' p m)
    · exact q p m
end
theorem Holds.ex1 {G : Gb} {B Lk H : Hp} {F0 : Addr → Prop} {v : V} {vs : List V} {d : D} {ms : List D} (h : Holds G B F0 Lk [] [] (v :: sel [] vs) (d :: ms) H) : Holds G B F0 Lk [] [] [v] [d] H := by
  have e : ms = [] := by
    obtain ⟨⟨f1, f2, a, b, _⟩, _⟩ := h
    have := b.length
    cases ms with
    | nil => rfl
    | cons _ _ => simp [sel] at this
  subst e
  exact h
theorem argsOk_all {ds : List D} (h : allFzs ds = true) : argsOk [] ds = true := by
  unfold argsOk
  rw [List.all_eq_true]
  intro i _
  rw [Bool.or_eq_true]
  right
  split
  · rename_i d e
    rw [allFzs_eq, List.all_eq_true] at h
    exact h d (List.mem_of_getElem? e)
  · rfl
section
variable {C : Cf} {k kl : Nat} {N : List Str} {sc : Scope} {st : List Str} {f : Addr} {fd : FuncData} {ps : List Str} {ies : List Ex}
/-- the reading of a pure call -/
theorem call_tail {W : WX} {j np : Nat} {σ : L2.St} {H : Hp} {Q : VK} (hnp : ∀ ds, (∃ ρ, evs C.Φ C.gv ies ρ = .ok ds) → ds.length = np) (h : tE C (.call j ies) W σ H Q) : tCallG (spF C j np []) W (tEs C ies W) σ H Q := by
  obtain ⟨B, F0, Lk, ρ, tv, td, h, w⟩ := h
  simp only [ev] at w
  refine gos h (fun _ z => z) w fun ds vs H1 he hl h1 w1 => ?_
  have w1 := w1
  unfold callD at w1
  have w2 := w1.bind
  by_cases hv : noVws ds = true
  · have hfz := fzDs_allFzs ds hv
    rw [anyFzs_fzDs ds hv] at w2
    obtain ⟨F1, i1, i2⟩ := (h1.frzn hl).into2 (by rw [hl, fzDs_eq, List.length_map]) hfz
    refine ⟨by rw [hl]; exact hnp ds ⟨ρ, he⟩, H1, F1, fzDs ds, by rw [hl, fzDs_eq, List.length_map], argsOk_all hfz, allFzs_noVws _ hfz, i1, w2.mono (fun x hx H' h' cls dx er => ?_) fun r hr hw v H' h' _ => ?_⟩
    · exact hx H' ((h1.popn hl).keep h'.kb h'.tb) cls dx er
    · rw [if_pos hv] at hw
      refine hw v H' (i2 H' v r.1 ?_)
      exact Holds.ex1 h'
  · have hfz := anyFzs_all ds
    refine ⟨by rw [hl]; exact hnp ds ⟨ρ, he⟩, H1, _, anyFzs ds, by rw [hl, anyFzs_len], argsOk_all hfz, allFzs_noVws _ hfz, h1.into hl, w2.mono (fun x hx H' h' cls dx er => ?_) fun r hr hw v H' h' _ => ?_⟩
    · exact hx H' ((h1.popn hl).keep h'.kb h'.tb) cls dx er
    · rw [if_neg hv] at hw
      exact hw v H' ((h1.popn hl).back (Holds.ex1 h'))
end
end Pu

set_option Elab.async false
set_option linter.all false
set_option maxRecDepth 100000
set_option maxHeartbeats 1000000
/-! Pu8: calls, new objects, fields as expressions. -/
namespace Pu
open PySem PySem.Spec PyProof.Rows L2
section
variable {G : Gb} {B Lk H H' : Hp} {F0 : Addr → Prop} {σ : L2.St} {ρ : List (Option D)} {tv : List V} {td : List D} {vs : List V} {ds : List D} {v : V} {d : D}
/-- a callee over the ground Bc, which may hold more than what stood -/
theorem Holds.into3 (h : Holds G B F0 Lk σ ρ (vs ++ tv) (ds ++ td) H) (e : vs.length = ds.length) (hf : allFzs ds = true) :
    ∃ F1 : Addr → Prop, (∀ a, F1 a → H a ≠ none) ∧ Owns G.K G.cl H F1 vs ds [] ∧ ∀ Bc H' tv' td', Keep H Bc → Holds G Bc F1 noH [] [] tv' td' H' → Holds G B F0 Lk σ ρ (tv' ++ tv) (td' ++ td) H' := by
  obtain ⟨⟨f1, f2, a, b, n, q⟩, kb, kl, tb⟩ := h
  obtain ⟨g1, g2, b1, b2, rfl⟩ := b.split e
  have z := b1.fp_nil hf
  subst z
  refine ⟨fun a => Fzp B F0 (f1 ++ ([] ++ g2)) a ∧ H a ≠ none, fun a z => z.2, b1.keep (Keep.refl _) fun a ha z => ⟨z, ha⟩, ?_⟩
  intro Bc H' tv' td' kc h'
  obtain ⟨⟨e1, e2, a', b', n', q'⟩, kb', kl', tb'⟩ := h'
  have z1 : e1 = [] := by cases a'; rfl
  subst z1
  simp only [List.nil_append] at *
  have kH := kc.trans kb'
  have new : ∀ p ∈ e2, p ∉ f1 ++ g2 := fun p hp hm => by
    have hn := kc.none (q' p hp)
    rcases List.mem_append.mp hm with m | m
    · exact (a.mut p m).2 hn
    · exact (b2.mut p m).2 hn
  have pm : (f1 ++ (e2 ++ g2)).Perm (e2 ++ (f1 ++ g2)) := by
    rw [← List.append_assoc, ← List.append_assoc]
    exact (List.perm_append_comm).append_right g2
  have mono : ∀ a, H a ≠ none → Fzp B F0 (f1 ++ g2) a → Fzp B F0 (f1 ++ (e2 ++ g2)) a := fun a ha z => ⟨z.1, fun m => by
    rcases List.mem_append.mp (pm.subset m) with m | m
    · exact ha (kc.none (q' a m))
    · exact z.2 m⟩
  have mono2 : ∀ x, H' x ≠ none → Fzp Bc (fun a => Fzp B F0 (f1 ++ g2) a ∧ H a ≠ none) e2 x → Fzp B F0 (f1 ++ (e2 ++ g2)) x := fun x _ z => by
    rcases z with ⟨z | z, zn⟩
    · exact ⟨z.1.1, fun m => by
        rcases List.mem_append.mp (pm.subset m) with m | m
        · exact zn m
        · exact z.1.2 m⟩
    · refine ⟨.inr (kb.none (kc.none z)), fun m => ?_⟩
      rcases List.mem_append.mp (pm.subset m) with m | m
      · exact zn m
      · rcases List.mem_append.mp m with m | m
        · exact (a.mut x m).2 (kc.none z)
        · exact (b2.mut x m).2 (kc.none z)
  refine ⟨⟨f1, e2 ++ g2, a.keep kH mono, (b'.keep (Keep.refl _) mono2).append (b2.keep kH mono), ?_, fun p hp => ?_⟩, kb.trans kH, kl.trans kH, tb'⟩
  · rw [pm.nodup_iff]
    exact List.nodup_append.mpr ⟨n', n, fun p hp r hr e => new p hp (e ▸ hr)⟩
  · rcases List.mem_append.mp (pm.subset hp) with m | m
    · exact kb.none (kc.none (q' p m))
    · exact q p m
/-- .. where all that stands is settled for the callee -/
theorem Holds.into4 (h : Holds G B F0 Lk σ ρ (vs ++ tv) (ds ++ td) H) (e : vs.length = ds.length) :
    Owns G.K G.cl H (fun a => H a ≠ none) vs (anyFzs ds) [] ∧ ∀ Bc H' tv' td', Keep H Bc → Holds G Bc (fun a => H a ≠ none) noH [] [] tv' td' H' → Holds G B F0 Lk σ ρ (tv' ++ tv) (vaDs td' ++ td) H' := by
  refine ⟨?_, ?_⟩
  · obtain ⟨⟨f1, f2, a, b, n, q⟩, kb, kl, tb⟩ := h
    obtain ⟨g1, g2, b1, b2, rfl⟩ := b.split e
    exact Owns.any b1
  · have h0 := h.popn e
    obtain ⟨⟨f1, g2, a, b2, n, q⟩, kb, kl, tb⟩ := h0
    intro Bc H' tv' td' kc h'
    obtain ⟨⟨e1, e2, a', b', n', q'⟩, kb', kl', tb'⟩ := h'
    have z1 : e1 = [] := by cases a'; rfl
    subst z1
    simp only [List.nil_append] at *
    have kH := kc.trans kb'
    have new : ∀ p ∈ e2, p ∉ f1 ++ g2 := fun p hp hm => by
      have hn := kc.none (q' p hp)
      rcases List.mem_append.mp hm with m | m
      · exact (a.mut p m).2 hn
      · exact (b2.mut p m).2 hn
    have pm : (f1 ++ (e2 ++ g2)).Perm (e2 ++ (f1 ++ g2)) := by
      rw [← List.append_assoc, ← List.append_assoc]
      exact (List.perm_append_comm).append_right g2
    have mono : ∀ a, H a ≠ none → Fzp B F0 (f1 ++ g2) a → Fzp B F0 (f1 ++ (e2 ++ g2)) a := fun a ha z => ⟨z.1, fun m => by
      rcases List.mem_append.mp (pm.subset m) with m | m
      · exact ha (kc.none (q' a m))
      · exact z.2 m⟩
    refine ⟨⟨f1, e2 ++ g2, a.keep kH mono, (Owns.va (Fz' := Fzp B F0 (f1 ++ (e2 ++ g2))) b').append (b2.keep kH mono), ?_, fun p hp => ?_⟩, kb.trans kH, kl.trans kH, tb'⟩
    · rw [pm.nodup_iff]
      exact List.nodup_append.mpr ⟨n', n, fun p hp r hr e => new p hp (e ▸ hr)⟩
    · rcases List.mem_append.mp (pm.subset hp) with m | m
      · exact kb.none (kc.none (q' p m))
      · exact q p m
end
section
variable {C : Cf} {k kl : Nat} {N : List Str} {sc : Scope} {st : List Str} {f : Addr} {fd : FuncData} {ps : List Str} {a e : Expr} {es : List Expr} {ia ie : Ex} {ies : List Ex} {pos : Pos}
theorem evs_len {Φ : Nat → List D → Out (D × List D)} {gv : Nat → D} : ∀ {ies : List Ex} {ρ : List (Option D)} {ds : List D}, evs Φ gv ies ρ = .ok ds → ds.length = ies.length
  | [], _, _, h => by simp only [evs, Out.ok.injEq] at h; subst h; rfl
  | i :: ies, ρ, ds, h => by
    simp only [evs] at h
    cases h1 : ev Φ gv i ρ with
    | ok x =>
      rw [h1, Out.bind_ok] at h
      cases h2 : evs Φ gv ies ρ with
      | ok xs =>
        rw [h2, Out.bind_ok, Out.ok.injEq] at h
        subst h
        rw [List.length_cons, List.length_cons, evs_len h2]
      | exc _ => rw [h2] at h; cases h
      | bad => rw [h2] at h; cases h
    | exc _ => rw [h1] at h; cases h
    | bad => rw [h1] at h; cases h
theorem s_call {x : Str} {p : Pos} {j : Nat} (F : FnG C kl f fd ps (spF C j ies.length [])) (hk : kl ≤ k) (hb : Binds C.G.K fd ps []) (hg : sc.names.lookup x = some .globalImplicit) (hm : C.mg x = some (.ref f)) (hkp : PySem.W.keepIn C.G.K (.ref f) = true)
    (hd : (x == ("__debug__" : Str)) = false) (hn : (e :: es).all nst = true) (h : SEs C k N sc st (e :: es) ies) : SE C k N sc st (.Call (.Name x p) (e :: es) [] pos) (.call j ies) := fun X W hX =>
  PE.imp (pe_callG hX F hk hb hg hm hkp hd hn (h X W hX)) fun σ H Q h => call_tail (fun ds ⟨ρ, q⟩ => evs_len q) h
theorem s_call0 {x : Str} {p : Pos} {j : Nat} (F : FnG C kl f fd ps (spF C j 0 [])) (hk : kl ≤ k) (hb : Binds C.G.K fd ps []) (hg : sc.names.lookup x = some .globalImplicit) (hm : C.mg x = some (.ref f)) (hkp : PySem.W.keepIn C.G.K (.ref f) = true)
    (hd : (x == ("__debug__" : Str)) = false) : SE C k N sc st (.Call (.Name x p) [] [] pos) (.call j []) := fun X W hX =>
  PE.imp (pe_callG0 hX F hk hb hg hm hkp hd) fun σ H Q h => by
    have q := call_tail (np := 0) (fun ds ⟨ρ, q⟩ => by simpa using evs_len q) h
    obtain ⟨B, F0, Lk, ρ, tv, td, h0, w⟩ := q
    exact w [] H rfl h0
theorem lkp_zip {fl : Str} {d : D} : ∀ (fvs : List (Str × V)) (ns : List Str) (xs : List D), fvs.map (·.1) = ns → ns.length = xs.length → (ns.zip xs).lookup fl = some d → ∃ i : Nat, xs[i]? = some d ∧ ∀ v, (fvs.map (·.2))[i]? = some v → fvs.lookup fl = some v
  | [], ns, xs, e2, _, hd => by subst e2; simp at hd
  | q :: r, ns, [], e2, e3, hd => by subst e2; simp at e3
  | q :: r, ns, y :: ys, e2, e3, hd => by
    subst e2
    simp only [List.map_cons, List.zip_cons_cons, List.lookup_cons] at hd
    cases hq : fl == q.1 with
    | true =>
      rw [hq] at hd
      simp only [Option.some.injEq] at hd
      refine ⟨0, by rw [hd]; rfl, fun v hv => ?_⟩
      simp only [List.map_cons, List.getElem?_cons_zero, Option.some.injEq] at hv
      rw [List.lookup_cons, hq, hv]
    | false =>
      rw [hq] at hd
      obtain ⟨i, h1, h2⟩ := lkp_zip r _ ys rfl (by simpa using e3) hd
      exact ⟨i + 1, by simpa using h1, fun v hv => by rw [List.lookup_cons, hq]; exact h2 v (by simpa using hv)⟩
theorem s_fld {fl : Str} (hc : ∀ c, L2.Cls C.G.K (C.G.cl c)) (hf : ∀ c, L2.NoAttr C.G.K (C.G.cl c) fl) (hb : ∀ env, attributeBase a fl env (eval a env) = eval a env) (h : SE C k N sc st a ia) : SE C k N sc st (.Attribute a fl pos) (.fld ia fl) := fun X W hX =>
  PE.imp (pe_fld (h X W hX) (hb _)) fun σ H Q ⟨B, F0, Lk, ρ, tv, td, h, w⟩ => by
    simp only [ev] at w
    refine go1 h (fun _ z => z) w fun x v H1 hx h1 w1 => ?_
    clear hx
    cases x <;> first | exact w1.elim | skip
    rename_i fg c ns xs
    obtain ⟨p, dx, fvs, rfl, e1, e2, e3, h2⟩ := h1.openO
    simp only [fldD] at w1
    split at w1
    · rename_i d hd
      obtain ⟨i, hi, hv⟩ := lkp_zip fvs ns xs e2.symm (by rw [e2, List.length_map, e3]) hd
      obtain ⟨v, hv1, h3⟩ := h2.pick (by rw [List.length_map, e3]) hi
      rw [hX.eK]
      exact ⟨p, _, dx, fvs, v, rfl, e1, hc c, hf c, hv v hv1, w1 _ _ h3⟩
    · exact w1.elim
/-! ### new objects -/
/-- X(e, ..) by values -/
def tMakeG (cA : Addr) (sp : Sp) (W : WX) (t : TA) : TE := fun σ H Q => t σ H fun vs H1 => ∀ x dx, H1 x = none → H1 dx = none → dx ≠ x →
  sp (.ref x :: vs) (upd (upd H1 dx (.own x)) x (.ins cA dx [])) (fun v H2 => v = .non ∧ Q (.ref x) H2) (WE W σ)
theorem pe_makeG {X : Cx} {W : WX} {x : Str} {p : Pos} {cA : Addr} {sp : Sp} {t : TA} (hX : CtxOk C k N sc st X W) (M : L2.Mk C.G.K cA f) (F : FnG C kl f fd ps sp) (hk : kl + 1 ≤ k) (hb : Binds C.G.K fd ps []) (hg : sc.names.lookup x = some .globalImplicit) (hm : C.mg x = some (.ref cA))
    (hd : (x == ("__debug__" : Str)) = false) (hn : (e :: es).all nst = true) (ha : PA X (e :: es) t) : PE X (.Call (.Name x p) (e :: es) [] pos) (tMakeG cA sp W t) := by
  rw [List.all_cons, Bool.and_eq_true] at hn
  refine ⟨fun pins s σ H Q I h => wpAny_Call_Name_kw (ld_glob I (by unfold Gl Env.kindOf; rw [hX.eS]; exact hg) (by rw [hX.eM]; exact hm) ?_ hd)⟩
  refine PySem.W.callWith_K (h₀ := X.base) I.ok.mod.kin (by rw [hX.eK]; exact M.kp) (thn (ha.run pos pins s σ H _ I h) fun us s1 ⟨vs, H1, I1, r, q⟩ => ⟨I1.kIn, ?_⟩) (star_cons hn.1 es X.env) (star_any hn.2)
  have hq := q (s1.heap.objs.size + 1) s1.heap.objs.size (I1.hok.fresh (Nat.le_succ _)) (I1.hok.fresh (Nat.le_refl _)) (Nat.ne_of_lt (Nat.lt_succ_self _))
  have I2 := L2.Inv.made (C := cA) I1
  have r2 : Vals (V.ref (s1.heap.objs.size + 1) :: vs) (Value.ref (s1.heap.objs.size + 1) :: us) := .cons rfl r
  have hl : (Value.ref (s1.heap.objs.size + 1) :: us).length = ps.length := r2.length.symm.trans (F.len _ _ _ _ hq)
  have K2 : C.G.K.In s1.heap := hX.eK ▸ I1.kIn
  have bnd := hb _ (Value.ref (s1.heap.objs.size + 1) :: us) (hX.eK ▸ I2.kIn) (by simpa using hl)
  simp only [List.append_nil] at bnd
  have E0 := I2.env0.make cA us []
  rw [hX.eP, hX.eW, hX.eK, hX.eM, hX.eB] at E0
  have gd : (X.A.under (.builtin "type.__call__" ⟨.ref cA :: us, []⟩)).guards = some [] := by
    have := hX.gd
    simp [Around.under, Code.guards, Code.isGuard, pushGuards, this, guardIds]
  have c := F.run (X.A.under (.builtin "type.__call__" ⟨.ref cA :: us, []⟩)) X.stack _ _ _ _ _ _ ((hX.room.mono hk).make cA us []) gd E0 bnd r2 hq
  rw [hX.eP, hX.eW]
  refine wpAny_call (make_map (f := f) K2 M.makes M.init (beq_iff_eq.mp M.fn) (codeAny_mono c fun r s' hq' => ?_))
  rcases r with e | fl
  · have p := passAt hX.takes σ
    rw [hX.eP, hX.eW] at p
    exact p pins _ _ e s' I2 hq'
  · cases fl with
    | ret u =>
      have q2 := I2.after (show CE X.stack X.prog X.w _ _ _ u s' by rw [hX.eP, hX.eW]; exact hq')
      obtain ⟨v, H', I3, rv, ev, q3⟩ := q2
      subst ev
      exact ⟨rv, ⟨V.ref (s1.heap.objs.size + 1), H', I3, rfl, q3⟩⟩
    | next => exact hq'.elim
    | brk => exact hq'.elim
    | cont => exact hq'.elim
theorem s_mk {x : Str} {p : Pos} {c j : Nat} (M : L2.Mk C.G.K (C.G.cl c) f) (F : FnG C kl f fd ps (spF C j (ies.length + 1) [0])) (hk : kl + 1 ≤ k) (hb : Binds C.G.K fd ps []) (hg : sc.names.lookup x = some .globalImplicit) (hm : C.mg x = some (.ref (C.G.cl c)))
    (hd : (x == ("__debug__" : Str)) = false) (hn : (e :: es).all nst = true) (h : SEs C k N sc st (e :: es) ies) : SE C k N sc st (.Call (.Name x p) (e :: es) [] pos) (.mk c j ies) := fun X W hX =>
  PE.imp (pe_makeG hX M F hk hb hg hm hd hn (h X W hX)) fun σ H Q ⟨B, F0, Lk, ρ, tv, td, h, w⟩ => by
    simp only [ev] at w
    refine gos h (fun _ z => z) w fun ds vs H1 he hl h1 w1 => ?_
    have w2 := w1.bind
    intro o dx no ndx ne
    have kx : Keep H1 (upd H1 dx (.own o)) := Keep.new ndx
    have no' : (upd H1 dx (.own o)) o = none := by rw [upd_ne ne.symm]; exact no
    have ko := Keep.new (o := HO.ins (C.G.cl c) dx []) no'
    -- both ways: what the callee sees, and what comes back
    suffices key : ∀ (F1 : Addr → Prop) (es : List D), vs.length = es.length → allFzs es = true → Owns C.G.K C.G.cl H1 F1 vs es [] → es = anyFzs ds → (∀ Bc H' tv' td', Keep H1 Bc → Holds C.G Bc F1 noH [] [] tv' td' H' → ∀ d, td' = [.non, d] → Holds C.G B F0 Lk σ ρ (tv' ++ tv) ([.non, if noVws ds = true then d else vaD d] ++ td) H') →
        spF C j (ies.length + 1) [0] (.ref o :: vs) (upd (upd H1 dx (.own o)) o (.ins (C.G.cl c) dx [])) (fun v H2 => v = .non ∧ Q (.ref o) H2) (WE W σ) by
      by_cases hv : noVws ds = true
      · have hfz := fzDs_allFzs ds hv
        have hlf : vs.length = (fzDs ds).length := by rw [hl, fzDs_eq, List.length_map]
        obtain ⟨F1, i0, i1, i2⟩ := (h1.frzn hl).into3 hlf hfz
        exact key F1 (fzDs ds) hlf hfz i1 (anyFzs_fzDs ds hv).symm fun Bc H' tv' td' kc h' d ed => by
          subst ed
          rw [if_pos hv]
          exact i2 Bc H' tv' _ kc h'
      · obtain ⟨i1, i2⟩ := h1.into4 hl
        exact key _ (anyFzs ds) (by rw [hl, anyFzs_len]) (anyFzs_all ds) i1 rfl fun Bc H' tv' td' kc h' d ed => by
          subst ed
          rw [if_neg hv]
          exact i2 Bc H' tv' _ kc h'
    intro F1 es hlf hfz i1 ees i2
    rw [← ees] at w2
    refine ⟨by rw [List.length_cons, hl, evs_len he], upd H1 dx (.own o), F1, .obj .ow c [] [] :: es, by rw [List.length_cons, List.length_cons, hlf], ?_, ?_, ⟨⟨[], [o] ++ [], .nil, ?_, by simp, ?_⟩, ko, Keep.noH _, ?_⟩, ?_⟩
    · unfold argsOk
      rw [List.all_eq_true]
      intro i hi
      rw [Bool.or_eq_true]
      cases i with
      | zero => left; rfl
      | succ i =>
        right
        rw [List.getElem?_cons_succ]
        split
        · rename_i d hd2
          rw [allFzs_eq, List.all_eq_true] at hfz
          exact hfz d (List.mem_of_getElem? hd2)
        · rfl
    · simp only [noVws, noVw, Bool.and_eq_true, decide_eq_true_eq]
      exact ⟨⟨(fun z => by cases z), trivial⟩, allFzs_noVws _ hfz⟩
    · refine Owns.cons (f1 := [o] ++ []) (f2 := []) (.obj (NO.ow (fvs := []) upd_same) .nil) ?_
      refine (i1.keep (Fz' := Fzp (upd H1 dx (.own o)) F1 ([] ++ ([o] ++ []))) (kx.trans ko) fun a ha z => ⟨.inl z, fun m => ?_⟩)
      have : a = o := by simpa using m
      exact ha (this ▸ no)
    · intro p hp
      have : p = o := by simpa using hp
      rw [this]
      exact no'
    · exact (h1.tb.new ndx).new no'
    · refine w2.mono (fun z hz H' h' cls dx2 er => ?_) fun r hr hw v H' h' hnv => ?_
      · refine hz H' ?_ cls dx2 er
        exact ((h1.popn hl).keep (kx.trans h'.kb) h'.tb)
      · obtain ⟨d, ms⟩ := r
        cases d <;> first | exact hw.elim | skip
        cases ms with
        | nil => exact hw.elim
        | cons o1 rs =>
          cases rs with
          | cons _ _ => exact hw.elim
          | nil =>
            obtain ⟨_, _, ov⟩ := Holds.top h'
            refine ⟨ov.inv_non, ?_⟩
            have h2 := i2 _ H' _ _ kx h' o1 rfl
            dsimp only at hw
            by_cases hv : noVws ds = true
            · rw [if_pos hv] at hw h2
              exact hw _ H' (Holds.pop h2)
            · rw [if_neg hv] at hw h2
              exact hw _ H' (Holds.pop h2)
end
end Pu

set_option Elab.async false
set_option linter.all false
set_option maxRecDepth 100000
set_option maxHeartbeats 1000000
/-! Pu9: what is walked. -/
namespace Pu
open PySem PySem.Spec PyProof.Rows L2
mutual
def noOw : D → Bool
  | .tup xs => noOws xs | .lst f xs => decide (f ≠ .ow) && noOws xs | .obj f _ _ xs => decide (f ≠ .ow) && noOws xs | .dct f _ xs => decide (f ≠ .ow) && noOws xs
  | _ => true
def noOws : List D → Bool
  | [] => true
  | x :: xs => noOw x && noOws xs
end
theorem fzd_ow (f : Fl) : f.fzd ≠ .ow := by cases f <;> exact fun z => by cases z
mutual
theorem fzD_noOw : ∀ d : D, noOw (fzD d) = true
  | .non => rfl | .bl _ => rfl | .int _ => rfl | .str _ => rfl | .is _ => rfl
  | .tup xs => by simp only [noOw, fzD]; exact fzDs_noOws xs
  | .lst f xs => by simp only [noOw, fzD, Bool.and_eq_true, decide_eq_true_eq]; exact ⟨fzd_ow f, fzDs_noOws xs⟩
  | .obj f c ns xs => by simp only [noOw, fzD, Bool.and_eq_true, decide_eq_true_eq]; exact ⟨fzd_ow f, fzDs_noOws xs⟩
  | .dct f ks xs => by simp only [noOw, fzD, Bool.and_eq_true, decide_eq_true_eq]; exact ⟨fzd_ow f, fzDs_noOws xs⟩
theorem fzDs_noOws : ∀ ds : List D, noOws (fzDs ds) = true
  | [] => rfl
  | d :: ds => by simp only [noOws, fzDs, Bool.and_eq_true]; exact ⟨fzD_noOw d, fzDs_noOws ds⟩
end
mutual
theorem noVw_fzD : ∀ d : D, noVw d = true → noVw (fzD d) = true := fun d h => allFz_noVw _ (fzD_allFz d h)
end
theorem noVws_fzDs (ds : List D) (h : noVws ds = true) : noVws (fzDs ds) = true := allFzs_noVws _ (fzDs_allFzs ds h)
section
variable {K : PySem.W.Frag} {cl : Nat → Addr} {H : Hp} {Fz : Addr → Prop}
mutual
theorem Own.fp0 : ∀ {d : D} {v : V} {fp : List Addr}, Own K cl H Fz v d fp → noOw d = true → fp = []
  | .non, _, _, h, _ => by cases h; rfl
  | .bl _, _, _, h, _ => by cases h; rfl
  | .int _, _, _, h, _ => by cases h; rfl
  | .str _, _, _, h, _ => by cases h; rfl
  | .is _, _, _, h, _ => by cases h; rfl
  | .tup ds, _, _, h, e => by cases h with | tup a b => exact Owns.fp0 b e
  | .lst f ds, _, _, h, e => by
    cases h with
    | lst a b =>
      simp only [noOw, Bool.and_eq_true, decide_eq_true_eq] at e
      rw [Owns.fp0 b e.2]
      cases a <;> first | rfl | exact absurd rfl e.1
  | .obj f c ns ds, _, _, h, e => by
    cases h with
    | obj a b =>
      simp only [noOw, Bool.and_eq_true, decide_eq_true_eq] at e
      rw [Owns.fp0 b e.2]
      cases a <;> first | rfl | exact absurd rfl e.1
  | .dct f ks ds, _, _, h, e => by
    cases h with
    | dct a b =>
      simp only [noOw, Bool.and_eq_true, decide_eq_true_eq] at e
      rw [Owns.fp0 b e.2]
      cases a <;> first | rfl | exact absurd rfl e.1
theorem Owns.fp0 : ∀ {ds : List D} {vs : List V} {fp : List Addr}, Owns K cl H Fz vs ds fp → noOws ds = true → fp = []
  | [], _, _, h, _ => by cases h; rfl
  | d :: ds, _, _, h, e => by
    cases h with
    | cons a b =>
      simp only [noOws, Bool.and_eq_true] at e
      rw [Own.fp0 a e.1, Owns.fp0 b e.2]
      rfl
end
end
section
variable {G : Gb} {B Lk H H' : Hp} {F0 : Addr → Prop} {σ : L2.St} {ρ : List (Option D)} {tv : List V} {td : List D} {rv : List V} {rd : List D} {v : V} {d : D}
/-- what owns nothing may be held twice -/
theorem Holds.dups (h : Holds G B F0 Lk σ ρ (rv ++ tv) (rd ++ td) H) (e : rv.length = rd.length) (n : noOws rd = true) : Holds G B F0 Lk σ ρ (rv ++ (rv ++ tv)) (rd ++ (rd ++ td)) H :=
  h.re (Keep.refl _) h.tb fun Fz f2 b => by
    obtain ⟨g1, g2, q1, q2, rfl⟩ := b.split e
    have z := q1.fp0 n
    subst z
    exact ⟨[] ++ ([] ++ g2), Sb.refl _, fun Fz' m _ => (q1.keep (Keep.refl _) m).append ((q1.keep (Keep.refl _) m).append (q2.keep (Keep.refl _) m))⟩
/-- item i of the top ones, put on top of all -/
theorem Holds.pickOf {vs : List V} {xs : List D} {i : Nat} (h : Holds G B F0 Lk σ ρ (vs ++ tv) (xs ++ td) H) (e : vs.length = xs.length) (hx : xs[i]? = some d) (hv : vs[i]? = some v) : Holds G B F0 Lk σ ρ (v :: tv) (d :: td) H := by
  obtain ⟨v', e', h'⟩ := h.pick e hx
  rw [hv] at e'
  cases e'
  exact h'

/-- the walk J, with the roots rv (seen as rd), brings the items xs -/
structure Wk (G : Gb) (J : L2.It) (rv : List V) (rd : List D) (xs : List D) : Prop where
  len : rv.length = rd.length
  now : noOws rd = true
  go : ∀ {B Lk H F0 σ ρ tv td} (i : Nat), Holds G B F0 Lk σ ρ (rv ++ tv) (rd ++ td) H → i < xs.length → J.go i H
  stop : ∀ {B Lk H F0 σ ρ tv td}, Holds G B F0 Lk σ ρ (rv ++ tv) (rd ++ td) H → J.stop xs.length H
  yld : ∀ {B Lk H H' F0 σ ρ tv td} {i : Nat} {d : D} {v : V}, Holds G B F0 Lk σ ρ (rv ++ tv) (rd ++ td) H → xs[i]? = some d → J.yld i H v H' → Holds G B F0 Lk σ ρ (v :: (rv ++ tv)) (d :: (rd ++ td)) H'
theorem lt_get {α : Type} {xs : List α} {i : Nat} (h : i < xs.length) : ∃ x, xs[i]? = some x := ⟨xs[i], List.getElem?_eq_getElem h⟩
theorem Wk.lst {a : Addr} {f : Fl} {ys : List D} (n : noOws [.lst f ys] = true) : Wk G (Itl G.K a) [.ref a] [.lst f ys] ys where
  len := rfl
  now := n
  go := fun i h hi => by
    obtain ⟨a', vs, e, q, l, _⟩ := h.openL
    cases e
    obtain ⟨x, hx⟩ := lt_get (l ▸ hi)
    exact ⟨vs, x, q, hx⟩
  stop := fun h => by
    obtain ⟨a', vs, e, q, l, _⟩ := h.openL
    cases e
    exact ⟨vs, q, Nat.le_of_eq l⟩
  yld := fun {B Lk H H' F0 σ ρ tv td i d v} h hx hy => by
    obtain ⟨e, hy⟩ := hy
    subst e
    obtain ⟨a', vs, e, q, l, h2⟩ := (h.dups (rv := [.ref a]) (rd := [.lst f ys]) rfl n).openL
    cases e
    exact h2.pickOf l hx (hy _ q)
theorem Wk.tup {a : Addr} {ys : List D} (n : noOws [.tup ys] = true) : Wk G (Itt G.K a) [.ref a] [.tup ys] ys where
  len := rfl
  now := n
  go := fun i h hi => by
    obtain ⟨a', vs, e, q, l, _⟩ := h.openT
    cases e
    obtain ⟨x, hx⟩ := lt_get (l ▸ hi)
    exact ⟨vs, x, q, hx⟩
  stop := fun h => by
    obtain ⟨a', vs, e, q, l, _⟩ := h.openT
    cases e
    exact ⟨vs, q, Nat.le_of_eq l⟩
  yld := fun {B Lk H H' F0 σ ρ tv td i d v} h hx hy => by
    obtain ⟨e, hy⟩ := hy
    subst e
    obtain ⟨a', vs, e, q, l, h2⟩ := (h.dups (rv := [.ref a]) (rd := [.tup ys]) rfl n).openT
    cases e
    exact h2.pickOf l hx (hy _ q)
theorem Wk.str {x : Str} : Wk G (Its x) [] [] (x.cps.toList.map fun c => .str ⟨#[c]⟩) where
  len := rfl
  now := rfl
  go := fun i _ hi => by simpa [Its] using hi
  stop := fun _ => by simp [Its]
  yld := fun {B Lk H H' F0 σ ρ tv td i d v} h hx hy => by
    obtain ⟨e, c, hc, hv⟩ := hy
    subst e hv
    have hd : d = .str ⟨#[c]⟩ := by
      simp only [List.getElem?_map, Array.getElem?_toList, hc, Option.map_some, Option.some.injEq] at hx
      exact hx.symm
    subst hd
    exact h.push fun _ => .str _
theorem intsFrom_len : ∀ (n : Nat) (lo : Int), (intsFrom lo n).length = n
  | 0, _ => rfl
  | n + 1, lo => by rw [intsFrom, List.length_cons, intsFrom_len n]
theorem intsFrom_get : ∀ (n : Nat) (lo : Int) (i : Nat), i < n → (intsFrom lo n)[i]? = some (.int (lo + (i : Nat)))
  | 0, _, i, h => absurd h (Nat.not_lt_zero i)
  | n + 1, lo, 0, _ => by simp [intsFrom]
  | n + 1, lo, i + 1, h => by
    rw [intsFrom, List.getElem?_cons_succ, intsFrom_get n (lo + 1) i (Nat.lt_of_succ_lt_succ h)]
    congr 2
    omega
theorem Wk.rng {lo : Int} {n : Nat} : Wk G (Itr lo n) [] [] (intsFrom lo n) where
  len := rfl
  now := rfl
  go := fun i _ hi => by rw [intsFrom_len] at hi; exact hi
  stop := fun _ => by rw [intsFrom_len]; exact Nat.le_refl _
  yld := fun {B Lk H H' F0 σ ρ tv td i d v} h hx hy => by
    obtain ⟨e, hv⟩ := hy
    subst e hv
    have hl : i < n := by
      have := (List.getElem?_eq_some_iff.mp hx).1
      rwa [intsFrom_len] at this
    rw [intsFrom_get n lo i hl] at hx
    cases hx
    exact h.push fun _ => .int _
theorem Wk.rev {a : Addr} {f : Fl} {ys : List D} (n : noOws [.lst f ys] = true) : Wk G (Itv G.K a ys.length) [.ref a] [.lst f ys] ys.reverse where
  len := rfl
  now := n
  go := fun i h hi => by
    obtain ⟨a', vs, e, q, l, _⟩ := h.openL
    cases e
    rw [List.length_reverse] at hi
    obtain ⟨x, hx⟩ := lt_get (xs := vs) (i := ys.length - 1 - i) (by omega)
    exact ⟨hi, vs, x, q, hx⟩
  stop := fun h => by rw [List.length_reverse]; exact Nat.le_refl _
  yld := fun {B Lk H H' F0 σ ρ tv td i d v} h hx hy => by
    obtain ⟨e, hy⟩ := hy
    subst e
    obtain ⟨a', vs, e, q, l, h2⟩ := (h.dups (rv := [.ref a]) (rd := [.lst f ys]) rfl n).openL
    cases e
    have hl := (List.getElem?_eq_some_iff.mp hx).1
    rw [List.length_reverse] at hl
    rw [List.getElem?_reverse hl] at hx
    exact h2.pickOf l hx (hy _ q)
theorem Wk.revT {a : Addr} {ys : List D} (n : noOws [.tup ys] = true) : Wk G (RT.ItvT G.K a ys.length) [.ref a] [.tup ys] ys.reverse where
  len := rfl
  now := n
  go := fun i h hi => by
    obtain ⟨a', vs, e, q, l, _⟩ := h.openT
    cases e
    rw [List.length_reverse] at hi
    obtain ⟨x, hx⟩ := lt_get (xs := vs) (i := ys.length - 1 - i) (by omega)
    exact ⟨hi, vs, x, q, hx⟩
  stop := fun h => by rw [List.length_reverse]; exact Nat.le_refl _
  yld := fun {B Lk H H' F0 σ ρ tv td i d v} h hx hy => by
    obtain ⟨e, hy⟩ := hy
    subst e
    obtain ⟨a', vs, e, q, l, h2⟩ := (h.dups (rv := [.ref a]) (rd := [.tup ys]) rfl n).openT
    cases e
    have hl := (List.getElem?_eq_some_iff.mp hx).1
    rw [List.length_reverse] at hl
    rw [List.getElem?_reverse hl] at hx
    exact h2.pickOf l hx (hy _ q)
theorem enumL_len : ∀ (xs : List D) (k : Nat), (enumL k xs).length = xs.length
  | [], _ => rfl
  | x :: xs, k => by rw [enumL, List.length_cons, List.length_cons, enumL_len xs]
theorem enumL_get : ∀ (xs : List D) (k i : Nat) {x : D}, xs[i]? = some x → (enumL k xs)[i]? = some (.tup [.int ((k + i : Nat) : Int), x])
  | [], _, i, _, h => by simp at h
  | y :: ys, k, 0, x, h => by
    simp only [List.getElem?_cons_zero, Option.some.injEq] at h
    subst h
    simp [enumL]
  | y :: ys, k, i + 1, x, h => by
    rw [enumL, List.getElem?_cons_succ, enumL_get ys (k + 1) i (by simpa using h)]
    congr 5
    omega
theorem Wk.enum {a : Addr} {f : Fl} {ys : List D} (n : noOws [.lst f ys] = true) : Wk G (Ite G.K a) [.ref a] [.lst f ys] (enumL 0 ys) where
  len := rfl
  now := n
  go := fun i h hi => by
    obtain ⟨a', vs, e, q, l, _⟩ := h.openL
    cases e
    rw [enumL_len] at hi
    obtain ⟨x, hx⟩ := lt_get (l ▸ hi)
    exact ⟨vs, x, q, hx⟩
  stop := fun h => by
    obtain ⟨a', vs, e, q, l, _⟩ := h.openL
    cases e
    rw [enumL_len]
    exact ⟨vs, q, Nat.le_of_eq l⟩
  yld := fun {B Lk H H' F0 σ ρ tv td i d v} h hx hy => by
    obtain ⟨T, x, rfl, hT, rfl, hy⟩ := hy
    obtain ⟨a', vs, e, q, l, h2⟩ := (h.dups (rv := [.ref a]) (rd := [.lst f ys]) rfl n).openL
    cases e
    have hl := (List.getElem?_eq_some_iff.mp hx).1
    rw [enumL_len] at hl
    obtain ⟨y, hy'⟩ := lt_get hl
    rw [enumL_get ys 0 i hy'] at hx
    cases hx
    rw [Nat.zero_add]
    have h3 := (h2.pickOf l hy' (hy _ q)).push (v := .int (i : Nat)) (d := .int (i : Nat)) fun _ => .int _
    exact Holds.newTup (vs := [.int (i : Nat), x]) (ds := [.int (i : Nat), y]) h3 rfl hT
theorem zip2L_len : ∀ (xs ys : List D), (zip2L xs ys).length = min xs.length ys.length
  | [], ys => by simp [zip2L]
  | x :: xs, [] => by simp [zip2L]
  | x :: xs, y :: ys => by rw [zip2L, List.length_cons, List.length_cons, List.length_cons, zip2L_len xs ys]; omega
theorem zip2L_get : ∀ (xs ys : List D) (i : Nat) {x y : D}, xs[i]? = some x → ys[i]? = some y → (zip2L xs ys)[i]? = some (.tup [x, y])
  | [], _, i, _, _, h, _ => by simp at h
  | x :: xs, [], i, _, _, _, h => by simp at h
  | x :: xs, y :: ys, 0, _, _, h, h2 => by
    simp only [List.getElem?_cons_zero, Option.some.injEq] at h h2
    subst h h2
    simp [zip2L]
  | x :: xs, y :: ys, i + 1, _, _, h, h2 => by
    rw [zip2L, List.getElem?_cons_succ]
    exact zip2L_get xs ys i (by simpa using h) (by simpa using h2)
theorem Wk.zipL {a b : Addr} {f g : Fl} {xs ys : List D} (n : noOws [.lst f xs, .lst g ys] = true) : Wk G (Itz G.K a b) [.ref a, .ref b] [.lst f xs, .lst g ys] (zip2L xs ys) where
  len := rfl
  now := n
  go := fun i h hi => by
    obtain ⟨a', vs, e, q, l, _⟩ := Holds.openL h
    cases e
    obtain ⟨b', ws, e, q2, l2, _⟩ := Holds.openL (Holds.pop h)
    cases e
    rw [zip2L_len] at hi
    obtain ⟨x, hx⟩ := lt_get (xs := vs) (i := i) (by omega)
    obtain ⟨y, hy⟩ := lt_get (xs := ws) (i := i) (by omega)
    exact ⟨vs, ws, x, y, q, q2, hx, hy⟩
  stop := fun h => by
    obtain ⟨a', vs, e, q, l, _⟩ := Holds.openL h
    cases e
    obtain ⟨b', ws, e, q2, l2, _⟩ := Holds.openL (Holds.pop h)
    cases e
    rw [zip2L_len]
    exact ⟨vs, ws, q, q2, by omega⟩
  yld := fun {B Lk H H' F0 σ ρ tv td i d v} h hx hy => by
    obtain ⟨T, x, y, rfl, hT, rfl, hx', hy'⟩ := hy
    have hl := (List.getElem?_eq_some_iff.mp hx).1
    rw [zip2L_len] at hl
    obtain ⟨dx, ex⟩ := lt_get (xs := xs) (i := i) (by omega)
    obtain ⟨dy, ey⟩ := lt_get (xs := ys) (i := i) (by omega)
    rw [zip2L_get xs ys i ex ey] at hx
    cases hx
    have h0 : Holds G B F0 Lk σ ρ ([.ref a, .ref b] ++ ([.ref a, .ref b] ++ tv)) ([.lst f xs, .lst g ys] ++ ([.lst f xs, .lst g ys] ++ td)) H := h.dups rfl n
    have h1 : Holds G B F0 Lk σ ρ ([.ref a] ++ .ref b :: ([.ref a, .ref b] ++ tv)) ([.lst f xs] ++ .lst g ys :: ([.lst f xs, .lst g ys] ++ td)) H := h0
    have h1 := Holds.up h1 rfl
    obtain ⟨b', ws, e, q2, l2, h2⟩ := Holds.openL h1
    cases e
    have h2 := h2.pickOf l2 ey (hy' _ q2)
    have h2' : Holds G B F0 Lk σ ρ ([y] ++ .ref a :: ([.ref a, .ref b] ++ tv)) ([dy] ++ .lst f xs :: ([.lst f xs, .lst g ys] ++ td)) H := h2
    have h3 := Holds.up h2' rfl
    obtain ⟨a', vs, e, q, l, h4⟩ := Holds.openL h3
    cases e
    have h5 := h4.pickOf l ex (hx' _ q)
    exact Holds.newTup (vs := [x, y]) (ds := [dx, dy]) h5 rfl hT
theorem Wk.zipT {a b : Addr} {xs ys : List D} (n : noOws [.tup xs, .tup ys] = true) : Wk G (RZ.ItzT G.K a b) [.ref a, .ref b] [.tup xs, .tup ys] (zip2L xs ys) where
  len := rfl
  now := n
  go := fun i h hi => by
    obtain ⟨a', vs, e, q, l, _⟩ := Holds.openT h
    cases e
    obtain ⟨b', ws, e, q2, l2, _⟩ := Holds.openT (Holds.pop h)
    cases e
    rw [zip2L_len] at hi
    obtain ⟨x, hx⟩ := lt_get (xs := vs) (i := i) (by omega)
    obtain ⟨y, hy⟩ := lt_get (xs := ws) (i := i) (by omega)
    exact ⟨vs, ws, x, y, q, q2, hx, hy⟩
  stop := fun h => by
    obtain ⟨a', vs, e, q, l, _⟩ := Holds.openT h
    cases e
    obtain ⟨b', ws, e, q2, l2, _⟩ := Holds.openT (Holds.pop h)
    cases e
    rw [zip2L_len]
    exact ⟨vs, ws, q, q2, by omega⟩
  yld := fun {B Lk H H' F0 σ ρ tv td i d v} h hx hy => by
    obtain ⟨T, x, y, rfl, hT, rfl, hx', hy'⟩ := hy
    have hl := (List.getElem?_eq_some_iff.mp hx).1
    rw [zip2L_len] at hl
    obtain ⟨dx, ex⟩ := lt_get (xs := xs) (i := i) (by omega)
    obtain ⟨dy, ey⟩ := lt_get (xs := ys) (i := i) (by omega)
    rw [zip2L_get xs ys i ex ey] at hx
    cases hx
    have h0 : Holds G B F0 Lk σ ρ ([.ref a, .ref b] ++ ([.ref a, .ref b] ++ tv)) ([.tup xs, .tup ys] ++ ([.tup xs, .tup ys] ++ td)) H := h.dups rfl n
    have h1 : Holds G B F0 Lk σ ρ ([.ref a] ++ .ref b :: ([.ref a, .ref b] ++ tv)) ([.tup xs] ++ .tup ys :: ([.tup xs, .tup ys] ++ td)) H := h0
    have h1 := Holds.up h1 rfl
    obtain ⟨b', ws, e, q2, l2, h2⟩ := Holds.openT h1
    cases e
    have h2 := h2.pickOf l2 ey (hy' _ q2)
    have h2' : Holds G B F0 Lk σ ρ ([y] ++ .ref a :: ([.ref a, .ref b] ++ tv)) ([dy] ++ .tup xs :: ([.tup xs, .tup ys] ++ td)) H := h2
    have h3 := Holds.up h2' rfl
    obtain ⟨a', vs, e, q, l, h4⟩ := Holds.openT h3
    cases e
    have h5 := h4.pickOf l ex (hx' _ q)
    exact Holds.newTup (vs := [x, y]) (ds := [dx, dy]) h5 rfl hT
end
end Pu

set_option Elab.async false
set_option linter.all false
set_option maxRecDepth 100000
set_option maxHeartbeats 1000000
/-! Pu10: enumerate over tuples, by one argument. -/
namespace Pu
open PySem PySem.Spec PyProof.Rows L2

theorem enum_of_begins {v : Value} {o : Obj} {Z : Heap → Prop} (B : Begins v o Z) :
    Meets (Builtin.«enumerate.__new__» ⟨[.type "enumerate", v], []⟩) (fun _ R s => Z s.heap ∧
      R (.ok (.ret (.ref (s.heap.push o).objs.size))) { s with heap := (s.heap.push o).push { cls := .type "enumerate", data := .fields #[.none, .bool false, .ref s.heap.objs.size, rawInt 0, .none, .none] } }) :=
  .of_wp fun prog w A R s hz => by
    obtain ⟨hp, gg, dd, tt, oo⟩ := s
    obtain ⟨z1, z2⟩ := hz
    have sube := sub_enumerate
    have qq : ∀ {A' : Around} {E : Value → Shared → Prop} {Q : Value → Shared → Prop}, Q (.ref hp.objs.size) ⟨hp.push o, gg, dd, tt, oo⟩ → wpAny (model prog w) A' (pyIter v) Q E ⟨hp, gg, dd, tt, oo⟩ :=
      fun y => B.iter prog w _ _ ⟨hp, gg, dd, tt, oo⟩ _ z1 y
    wp_walk using qq
    refine wpAny_stack_any fun zz => wpAny_pure ?_
    split
    · rename_i c _ _ _ _ _
      cases (c == Value.type "enumerate") <;> (wp_walk using qq; exact ⟨_, rfl, z2⟩)
    · wp_walk using qq
      exact ⟨_, rfl, z2⟩
theorem call_enumB {prog : Program} {w : World} {A : Around} {E : Value → Shared → Prop} {s : Shared} {v : Value} {o : Obj} {Z : Heap → Prop} {Q : Value → Shared → Prop} (B : Begins v o Z) (z : Z s.heap)
    (h : ∀ h', IsEnum h' (s.heap.objs.size + 1) s.heap.objs.size 0 .none → h'.get? s.heap.objs.size = some o → (∀ b u, s.heap.get? b = some u → h'.get? b = some u) → Q (.ref (s.heap.objs.size + 1)) { s with heap := h' }) :
    wpAny (model prog w) A (call (.type "enumerate") [v]) Q E s := by
  refine callType_new F.called_enumerate (by decide) (F.typeCall_enumerate_1 _) (F.newCall_enumerate_1 _) (fun ob => F.args_object_init_2 ob _) F.entry_enumerate_new (enum_of_begins B) ⟨z, ?_⟩
  have sz : (s.heap.push o).objs.size = s.heap.objs.size + 1 := Heap.size_push ..
  show _ ∧ _
  rw [sz]
  have he : IsEnum ((s.heap.push o).push { cls := .type "enumerate", data := .fields #[.none, .bool false, .ref s.heap.objs.size, rawInt 0, .none, .none] }) (s.heap.objs.size + 1) s.heap.objs.size 0 .none := by
    have g := Heap.get?_push_size (s.heap.push o) (o := { cls := .type "enumerate", data := .fields #[.none, .bool false, .ref s.heap.objs.size, rawInt 0, .none, .none] }) rfl
    rwa [sz] at g
  exact ⟨⟨_, he, rfl⟩, h _ he (Heap.get?_push_of_some _ (Heap.get?_push_size _ B.free)) fun b u x => Heap.get?_push_of_some _ (Heap.get?_push_of_some _ x)⟩
/-- the tuple at a, each item in a new pair -/
def IteT (K : PySem.W.Frag) (a : Addr) : L2.It :=
  ⟨fun i H => ∃ (xs : List V) (x : V), SqT K H a xs ∧ xs[i]? = some x, fun i H v H' => ∃ T x, v = .ref T ∧ H T = none ∧ H' = upd H T (.tup [.int (i : Nat), x]) ∧ ∀ xs, SqT K H a xs → xs[i]? = some x, fun i H => ∃ xs : List V, SqT K H a xs ∧ xs.length ≤ i⟩
/-- the iterator over a tuple that stands -/
theorem turn_enumT {P : Program} {w : World} {K : PySem.W.Frag} {elts : List Expr} {kk : Nat} {tpos : Pos} (a e it : Addr) (its : Array Value) (na : a ≠ it) (ne : a ≠ e) :
    Turn P w K (.Tuple elts kk tpos) (IteT K a) [e, it] e (fun i h => (∃ old, IsEnum h e it ((i : Nat) : Int) old) ∧ h.IsTupleIter it a i ∧ e ≠ it) where
  mem := by simp
  obj := fun i h st b hb => by
    obtain ⟨⟨old, he⟩, ⟨o, ho, hc, hd⟩, _⟩ := st
    rcases (by simpa using hb : b = e ∨ b = it) with z | z
    · rw [z]; exact ⟨_, he, fun v q => nomatch q⟩
    · rw [z]; exact ⟨o, ho, fun v q => by rw [hd] at q; cases q⟩
  keep := fun i h h' st k => let ⟨⟨old, he⟩, hi, hne⟩ := st; ⟨⟨old, k e (by simp) _ he⟩, hi.at fun o q => k it (by simp) o q, hne⟩
  item := by
    intro X hP hw hK hc i pins s σ H E I hf st hg
    subst hP hw hK
    obtain ⟨⟨old, he⟩, hit, hne⟩ := st
    obtain ⟨xs, x, hq, hx⟩ := hg
    obtain ⟨ys, rv, p, hz⟩ := I.tuple hq
    obtain ⟨u, hu, ru⟩ := rv.get hx
    have hil : i < ys.toArray.size := by
      have := (List.getElem?_eq_some_iff.mp hu).1
      simpa using this
    have hel : e < s.heap.objs.size := Heap.lt_size he
    have hitl : it < s.heap.objs.size := by obtain ⟨_, q, _⟩ := hit; exact Heap.lt_size q
    have hae : e ∉ [it, a] := fun m => by
      rcases (by simpa using m : e = it ∨ e = a) with z | z
      · exact hne z
      · exact ne z.symm
    have D := Draws.tuple (prog := X.prog) (w := X.w) (A := X.A.in1) (show X.A.in1.handled = none from I.ok.hd hc) it a na ys.toArray
    refine wpAny_pyNext_enum_itemD D he ⟨hit, p⟩ hil hne hae fun x' h' tk hP' ho hs' hT hsz hk => ?_
    have ex : x' = u := by
      have hu' : ys.toArray[i]? = some u := by simpa using hu
      rw [hu'] at hP'
      exact (Option.some.inj hP').symm
    subst ex
    refine ⟨_, rfl, wpAny_letOwnedTupleGo_enum (s := { s with heap := h', toks := tk + 1 }) ho fun h'' he' sb => ?_⟩
    have hT2 := (sb.2 _ (Nat.ne_of_gt hel)).trans hT
    have nw : ObjOk X.prog X.w (upd H s.heap.objs.size (.tup [.int (i : Nat), x])) h'' s.heap.objs.size (.tup [.int (i : Nat), x]) :=
      ⟨by show 2 ≤ sizeLine; decide, [.int i tk, x'], .cons ⟨_, rfl⟩ (.cons ru .nil), ⟨_, hT2, rfl, _, rfl⟩⟩
    have I1 : Inv X pins σ (upd H s.heap.objs.size (.tup [.int (i : Nat), x])) { s with heap := h'', toks := tk + 1 } :=
      I.turnedNew (ch := [e, it]) (fun b ob hb q => (sb.2 b (fun z => hb (by simp [z]))).trans (hk b ob (fun z => hb (by simp [z])) (fun z => hb (by simp [z])) q)) hf (Nat.le_refl _) nw
    refine ⟨.ref s.heap.objs.size, _, I1, rfl, ⟨_, x, rfl, I.hok.fresh (Nat.le_refl _), rfl, fun zs hy => by rw [I.tuple_inj hy hq]; exact hx⟩, ⟨⟨x', ?_⟩, hs'.1.at fun o q => (sb.2 it (Ne.symm hne)).trans q, hne⟩, fun b hb => ?_⟩
    · have e1 : ((i + 1 : Nat) : Int) = (i : Int) + 1 := by omega
      rw [e1]; exact he'
    · have hb' : b < s.heap.objs.size := by
        rcases (by simpa using hb : b = e ∨ b = it) with z | z
        · rw [z]; exact hel
        · rw [z]; exact hitl
      rw [upd_ne (Nat.ne_of_lt hb')]
      exact (hf b hb).1
  done := by
    intro X hP hw hK hc i pins s σ H E I hf st hg
    subst hP hw hK
    obtain ⟨⟨old, he⟩, hit, hne⟩ := st
    obtain ⟨xs, hq, hx⟩ := hg
    obtain ⟨ys, rv, p, hz⟩ := I.tuple hq
    obtain ⟨f0, f1, f2, f3, f4, f5⟩ := hf it (by simp)
    have hl := rv.length
    have D : Draws X.prog X.w X.A.in1 it [it, a] i (fun _ _ => True) (fun j h => j = i ∧ h.IsTupleIter it a i ∧ h.IsTuple a ys.toArray) := ⟨fun _ _ st => let ⟨o, ho, _⟩ := st.2.1; ⟨o, ho⟩, fun _ _ _ st hk => ⟨st.1, st.2.1.at fun o e => hk it (by simp) o e, st.2.2.at fun o e => hk a (by simp) o e⟩, fun j s Q E hj st => absurd st.1 (Nat.ne_of_lt hj), fun s Q E st hE => wpAny_nextOf_tuple_end (show X.A.in1.handled = none from I.ok.hd hc) st.2.1 st.2.2 (by simp; omega) hE⟩
    exact wpAny_pyNext_enum_endD D he ⟨rfl, hit, p⟩ fun h' eb => ⟨rfl, I.turned (t' := s.toks) (fun b o hb q => eb b o hb q) f0 f1 f3 f4 f5⟩
  self := fun A i s Q E st h => let ⟨⟨_, he⟩, _⟩ := st; wpAny_pyIter_enum he h

section
variable {X : Cx}
def iEnA (K : PySem.W.Frag) (ta : TA) : TI := fun σ H R => ta σ H fun vs H1 => ∃ a xs, vs = [.ref a] ∧ ((SqL K H1 a xs ∧ R (Ite K a) H1) ∨ (SqT K H1 a xs ∧ R (IteT K a) H1))
theorem pi_enA {e : Expr} {ta : TA} {p pos tpos : Pos} {elts : List Expr} {kk : Nat} (hg : Gl X "enumerate") (hm : X.mg "enumerate" = none) (ha : PA X [e] ta) (hs : starEach [e] X.env = [(false, eval e X.env)]) :
    PI X (.Tuple elts kk tpos) (.Call (.Name "enumerate" p) [e] [] pos) (iEnA X.K ta) := by
  constructor
  intro pins s σ H R I h
  refine Call_ (ld_blt I hg hm boot_enumerate (PyProof.Rows.callWith_type1 (thn (ha.run pos pins s σ H _ I h) fun us s1 w1 => ?_) hs rfl))
  obtain ⟨vs, H1, I1, r1, a, xs, ev, q⟩ := w1
  subst ev
  cases r1 with
  | cons r rr =>
    cases rr
    cases r
    have fz : ∀ b ∈ [s1.heap.objs.size + 1, s1.heap.objs.size], FpOk X pins H1 b := fun b hb => by
      have le : s1.heap.objs.size ≤ b := by
        rcases (by simpa using hb : b = s1.heap.objs.size + 1 ∨ b = s1.heap.objs.size) with z | z <;> omega
      exact I1.fpOk le (I1.hok.fresh le)
    rcases q with ⟨hq, q⟩ | ⟨hq, q⟩
    · obtain ⟨its, rv, p', hz⟩ := I1.list hq
      refine call_enumerate_list p'.isList fun h' he hit hsz hk => wpAny_pyIter_enum he ?_
      exact ⟨s1.heap.objs.size + 1, [s1.heap.objs.size + 1, s1.heap.objs.size], _, _, H1, rfl, I1.kept (t' := s1.toks) hk, turn_enum a (s1.heap.objs.size + 1) s1.heap.objs.size, ⟨⟨.none, he⟩, hit, Nat.succ_ne_self _⟩, fz, q⟩
    · obtain ⟨its, rv, p', hz⟩ := I1.tuple hq
      obtain ⟨o1, ho1, _⟩ := id p'
      have hlt := Heap.lt_size ho1
      refine call_enumB (begins_tuple a its.toArray) (show s1.heap.IsTuple a its.toArray from p') fun h' he hit hk => wpAny_pyIter_enum he ?_
      exact ⟨s1.heap.objs.size + 1, [s1.heap.objs.size + 1, s1.heap.objs.size], _, _, H1, rfl, I1.kept (t' := s1.toks) hk, turn_enumT a (s1.heap.objs.size + 1) s1.heap.objs.size its.toArray (Nat.ne_of_lt hlt) (Nat.ne_of_lt (Nat.lt_succ_of_lt hlt)), ⟨⟨.none, he⟩, ⟨_, hit, rfl, rfl⟩, Nat.succ_ne_self _⟩, fz, q⟩
/-- a list, a tuple or a text -/
def iSeq (K : PySem.W.Frag) (te : TE) : TI := fun σ H R => te σ H fun v H1 => (∃ a xs, v = .ref a ∧ SqL K H1 a xs ∧ R (Itl K a) H1) ∨ (∃ a xs, v = .ref a ∧ SqT K H1 a xs ∧ R (Itt K a) H1) ∨ ∃ x, v = .str x ∧ R (Its x) H1
theorem pi_seq {tg e : Expr} {te : TE} (he : PE X e te) : PI X tg e (iSeq X.K te) := by
  constructor
  intro pins s σ H R I h
  refine thn (he.run pins s σ H _ I h) fun u s1 w1 => ?_
  obtain ⟨v, H1, I1, r1, q⟩ := w1
  rcases q with ⟨a, xs, rfl, hq, q⟩ | ⟨a, xs, rfl, hq, q⟩ | ⟨x, rfl, q⟩
  · cases r1
    obtain ⟨its, rv, p, hz⟩ := I1.list hq
    exact wpAny_pyIter_list p.isList (pi_one (tk := s1.toks) I1 _ (turn_list a _) ⟨_, Heap.get?_push_size _ rfl, rfl, rfl⟩ q)
  · cases r1
    obtain ⟨its, rv, p, hz⟩ := I1.tuple hq
    exact wpAny_pyIter_tuple (show s1.heap.IsTuple a its.toArray from p) (pi_one (tk := s1.toks) I1 _ (turn_tuple a _) ⟨_, Heap.get?_push_size _ rfl, rfl, rfl⟩ q)
  · obtain ⟨t, rfl⟩ := r1
    cases ha : x.cps.all (· < 128)
    · exact wpAny_pyIter_wide ha (pi_one (tk := s1.toks) I1 _ (turn_str _ x t "str_iterator" (.inr rfl)) ⟨_, Heap.get?_push_size _ rfl, rfl, rfl⟩ q)
    · exact wpAny_pyIter_ascii ha (pi_one (tk := s1.toks) I1 _ (turn_str _ x t "str_ascii_iterator" (.inl rfl)) ⟨_, Heap.get?_push_size _ rfl, rfl, rfl⟩ q)
end

/-! ### the walks of the language -/
theorem Wk.enumT {G : Gb} {a : Addr} {ys : List D} (n : noOws [.tup ys] = true) : Wk G (IteT G.K a) [.ref a] [.tup ys] (enumL 0 ys) where
  len := rfl
  now := n
  go := fun i h hi => by
    obtain ⟨a', vs, e, q, l, _⟩ := h.openT
    cases e
    rw [enumL_len] at hi
    obtain ⟨x, hx⟩ := lt_get (l ▸ hi)
    exact ⟨vs, x, q, hx⟩
  stop := fun h => by
    obtain ⟨a', vs, e, q, l, _⟩ := h.openT
    cases e
    rw [enumL_len]
    exact ⟨vs, q, Nat.le_of_eq l⟩
  yld := fun {B Lk H H' F0 σ ρ tv td i d v} h hx hy => by
    obtain ⟨T, x, rfl, hT, rfl, hy⟩ := hy
    obtain ⟨a', vs, e, q, l, h2⟩ := (h.dups (rv := [.ref a]) (rd := [.tup ys]) rfl n).openT
    cases e
    have hl := (List.getElem?_eq_some_iff.mp hx).1
    rw [enumL_len] at hl
    obtain ⟨y, hy'⟩ := lt_get hl
    rw [enumL_get ys 0 i hy'] at hx
    cases hx
    rw [Nat.zero_add]
    have h3 := (h2.pickOf l hy' (hy _ q)).push (v := .int (i : Nat)) (d := .int (i : Nat)) fun _ => .int _
    exact Holds.newTup (vs := [.int (i : Nat), x]) (ds := [.int (i : Nat), y]) h3 rfl hT
section
variable (C : Cf)
def tI (it : It) (W : WX) : TI := fun σ H R => ∃ B F0 Lk ρ tv td, Holds C.G B F0 Lk σ ρ tv td H ∧
  Wish (evIt C.Φ C.gv it ρ) (Off C W σ B F0 Lk ρ tv td) fun r => ∀ J rv rd H', Wk C.G J rv rd r.1 → (r.2 = true → noVws rd = true) → Holds C.G B F0 Lk σ ρ (rv ++ tv) (rd ++ td) H' → R J H'
end
theorem PI.imp {X : Cx} {tg e : Expr} {t t' : TI} (h : PI X tg e t) (k : ∀ σ H Q, t' σ H Q → t σ H Q) : PI X tg e t' := ⟨fun pins s σ H Q I q => h.run pins s σ H Q I (k _ _ _ q)⟩
def SI (C : Cf) (k : Nat) (N : List Str) (sc : Scope) (st : List Str) (tg e : Expr) (it : It) : Prop := ∀ X W, CtxOk C k N sc st X W → PI X tg e (tI C it W)
section
variable {C : Cf} {k : Nat} {N : List Str} {sc : Scope} {st : List Str} {tg a b e : Expr} {es : List Expr} {ia ib ie : Ex} {ies : List Ex} {pos p : Pos}
theorem noOws1 (d : D) : noOws [fzD d] = true := by simp only [noOws, fzD_noOw, Bool.and_self]
theorem noVws1 {d : D} (h : noVw d = true) : noVws [fzD d] = true := by simp only [noVws, noVw_fzD d h, Bool.and_self]
theorem i_of (h : SE C k N sc st e ie) : SI C k N sc st tg e (.of ie) := fun X W hX => PI.imp (pi_seq (h X W hX)) fun σ H R ⟨B, F0, Lk, ρ, tv, td, h, w⟩ => by
  simp only [evIt] at w
  refine go1 h (fun _ z => z) w fun x v H1 hx h1 w1 => ?_
  clear hx
  have h2 := h1.frz
  have n1 := noOws1 x
  have n2 := fun z : noVw x = true => noVws1 z
  obtain ⟨_, _, o1⟩ := h1.top
  cases x <;> first | exact w1.elim | skip
  · rename_i z
    rw [o1.inv_str]
    exact .inr (.inr ⟨z, rfl, w1 _ [] [] _ Wk.str (fun _ => rfl) h1.pop⟩)
  · rename_i xs
    obtain ⟨p, vs, rfl, hs, hl, _⟩ := h1.openT
    rw [hX.eK]
    exact .inr (.inl ⟨p, vs, rfl, hs, w1 _ [.ref p] [.tup (fzDs xs)] _ (Wk.tup n1) n2 h2⟩)
  · rename_i f xs
    obtain ⟨p, vs, rfl, hs, hl, _⟩ := h1.openL
    rw [hX.eK]
    exact .inl ⟨p, vs, rfl, hs, w1 _ [.ref p] [.lst f.fzd (fzDs xs)] _ (Wk.lst n1) n2 h2⟩
theorem i_rng1 (hg : sc.names.lookup ("range" : Str) = some .globalImplicit) (hm : C.mg "range" = none) (hn : nst a = true) (ha : SE C k N sc st a ia) : SI C k N sc st tg (.Call (.Name "range" p) [a] [] pos) (.rng [ia]) := fun X W hX =>
  PI.imp (pi_range1 (by unfold Gl Env.kindOf; rw [hX.eS]; exact hg) (by rw [hX.eM]; exact hm) (ss_cons hn ha ss_nil X W hX) (star_cons hn [] X.env)) fun σ H R ⟨B, F0, Lk, ρ, tv, td, h, w⟩ => by
    simp only [evIt] at w
    refine gos h (fun _ z => z) w fun ds vs H1 he hl h1 w1 => ?_
    have e1 := evs_len he
    match ds, vs, e1, hl with
    | [d], [v], z1, z2 =>
      clear z1 z2
      obtain ⟨_, _, o1⟩ := Holds.top h1
      cases d <;> first | exact w1.elim | skip
      rename_i j
      rw [o1.inv_int]
      obtain ⟨hz, w2⟩ := Wish.chk (Wish.bind (show Wish ((rngD 0 j).bind _) _ _ from w1))
      have hz := of_decide_eq_true hz
      refine ⟨j, rfl, hz.2.2.1, hz.2.2.2, ?_⟩
      have w2 := w2 (Itr 0 j.toNat) [] [] H1 (by
        have := Wk.rng (G := C.G) (lo := 0) (n := (j - 0).toNat)
        rwa [show j - 0 = j from Int.sub_zero j] at this ⊢) (fun _ => rfl) (Holds.pop h1)
      exact w2
theorem i_rng2 (hg : sc.names.lookup ("range" : Str) = some .globalImplicit) (hm : C.mg "range" = none) (hn : nst a = true) (hn2 : nst b = true) (ha : SE C k N sc st a ia) (hb : SE C k N sc st b ib) : SI C k N sc st tg (.Call (.Name "range" p) [a, b] [] pos) (.rng [ia, ib]) := fun X W hX =>
  PI.imp (pi_range2 (by unfold Gl Env.kindOf; rw [hX.eS]; exact hg) (by rw [hX.eM]; exact hm) (ss_cons hn ha (ss_cons hn2 hb ss_nil) X W hX) (by rw [star_cons hn, star_cons hn2]; rfl) (star_cons hn2 [] X.env)) fun σ H R ⟨B, F0, Lk, ρ, tv, td, h, w⟩ => by
    simp only [evIt] at w
    refine gos h (fun _ z => z) w fun ds vs H1 he hl h1 w1 => ?_
    have e1 := evs_len he
    match ds, vs, e1, hl with
    | [d, d'], [v, v'], z1, z2 =>
      clear z1 z2
      obtain ⟨_, _, o1⟩ := Holds.top h1
      obtain ⟨_, _, o2⟩ := Holds.top (Holds.pop h1)
      cases d <;> cases d' <;> first | exact w1.elim | skip
      rename_i i j
      rw [o1.inv_int, o2.inv_int]
      obtain ⟨hz, w2⟩ := Wish.chk (Wish.bind (show Wish ((rngD i j).bind _) _ _ from w1))
      have hz := of_decide_eq_true hz
      exact ⟨i, j, rfl, hz, w2 _ [] [] H1 Wk.rng (fun _ => rfl) (Holds.pop (Holds.pop h1))⟩
theorem i_enum {elts : List Expr} {kk : Nat} {tpos : Pos} (hg : sc.names.lookup ("enumerate" : Str) = some .globalImplicit) (hm : C.mg "enumerate" = none) (hn : nst a = true) (ha : SE C k N sc st a ia) : SI C k N sc st (.Tuple elts kk tpos) (.Call (.Name "enumerate" p) [a] [] pos) (.enum ia) := fun X W hX =>
  PI.imp (pi_enA (by unfold Gl Env.kindOf; rw [hX.eS]; exact hg) (by rw [hX.eM]; exact hm) (ss_cons hn ha ss_nil X W hX) (star_cons hn [] X.env)) fun σ H R ⟨B, F0, Lk, ρ, tv, td, h, w⟩ => by
    have w' : Wish ((evs C.Φ C.gv [ia] ρ).bind fun ds => match ds with | [x] => (listD (fzD x)).bind fun xs => .ok (enumL 0 xs, noVw x) | _ => .bad) (Off C W σ B F0 Lk ρ tv td) fun r => ∀ J rv rd H', Wk C.G J rv rd r.1 → (r.2 = true → noVws rd = true) → Holds C.G B F0 Lk σ ρ (rv ++ tv) (rd ++ td) H' → R J H' := by
      simp only [evIt] at w
      simp only [evs, Out.bind_assoc, Out.bind_ok]
      exact w
    refine gos h (fun _ z => z) w' fun ds vs H1 he hl h1 w1 => ?_
    have e1 := evs_len he
    match ds, vs, e1, hl with
    | [x], [v], z1, z2 =>
      clear z1 z2
      have h2 := Holds.frz h1
      have n1 := noOws1 x
      have n2 := fun z : noVw x = true => noVws1 z
      cases x <;> first | exact w1.elim | skip
      · rename_i xs
        obtain ⟨p, vs, rfl, hs, hl, _⟩ := Holds.openT h1
        rw [hX.eK]
        exact ⟨p, vs, rfl, .inr ⟨hs, w1 _ [.ref p] [.tup (fzDs xs)] _ (Wk.enumT n1) n2 h2⟩⟩
      · rename_i f xs
        obtain ⟨p, vs, rfl, hs, hl, _⟩ := Holds.openL h1
        rw [hX.eK]
        exact ⟨p, vs, rfl, .inl ⟨hs, w1 _ [.ref p] [.lst f.fzd (fzDs xs)] _ (Wk.enum n1) n2 h2⟩⟩
theorem i_rvd (hg : sc.names.lookup ("reversed" : Str) = some .globalImplicit) (hm : C.mg "reversed" = none) (hn : nst a = true) (ha : SE C k N sc st a ia) : SI C k N sc st tg (.Call (.Name "reversed" p) [a] [] pos) (.rvd ia) := fun X W hX =>
  PI.imp (RT.pi_revA (by unfold Gl Env.kindOf; rw [hX.eS]; exact hg) (by rw [hX.eM]; exact hm) (ha X W hX) (star_cons hn [] X.env)) fun σ H R ⟨B, F0, Lk, ρ, tv, td, h, w⟩ => by
    simp only [evIt] at w
    refine go1 h (fun _ z => z) w fun x v H1 hx h1 w1 => ?_
    clear hx
    have h2 := Holds.frz h1
    have n1 := noOws1 x
    have n2 := fun z : noVw x = true => noVws1 z
    cases x <;> first | exact w1.elim | skip
    · rename_i xs
      obtain ⟨p, vs, rfl, hs, hl, _⟩ := Holds.openT h1
      rw [hX.eK]
      refine ⟨p, vs, rfl, .inr ⟨hs, w1 _ [.ref p] [.tup (fzDs xs)] _ ?_ n2 h2⟩⟩
      have := Wk.revT (G := C.G) (a := p) n1
      rwa [fzDs_eq, List.length_map, ← hl, ← fzDs_eq] at this
    · rename_i f xs
      obtain ⟨p, vs, rfl, hs, hl, _⟩ := Holds.openL h1
      rw [hX.eK]
      refine ⟨p, vs, rfl, .inl ⟨hs, w1 _ [.ref p] [.lst f.fzd (fzDs xs)] _ ?_ n2 h2⟩⟩
      have := Wk.rev (G := C.G) (a := p) n1
      rwa [fzDs_eq, List.length_map, ← hl, ← fzDs_eq] at this
theorem i_zip {elts : List Expr} {kk : Nat} {tpos : Pos} (hg : sc.names.lookup ("zip" : Str) = some .globalImplicit) (hm : C.mg "zip" = none) (hn : nst a = true) (hn2 : nst b = true) (ha : SE C k N sc st a ia) (hb : SE C k N sc st b ib) : SI C k N sc st (.Tuple elts kk tpos) (.Call (.Name "zip" p) [a, b] [] pos) (.zip [ia, ib]) := fun X W hX =>
  PI.imp (RZ.pi_zipA (by unfold Gl Env.kindOf; rw [hX.eS]; exact hg) (by rw [hX.eM]; exact hm) (ss_cons hn ha (ss_cons hn2 hb ss_nil) X W hX) (star_cons hn [b] X.env) (by rw [star_cons hn2]; rfl)) fun σ H R ⟨B, F0, Lk, ρ, tv, td, h, w⟩ => by
    simp only [evIt] at w
    refine gos h (fun _ z => z) w fun ds vs H1 he hl h1 w1 => ?_
    have e1 := evs_len he
    have h2 := h1.frzn hl
    match ds, vs, e1, hl with
    | [x, y], [v, u], z1, z2 =>
      clear z1 z2
      have n1 : noOws [fzD x, fzD y] = true := by simp only [noOws, fzD_noOw, Bool.and_self]
      have n2 : noVws [x, y] = true → noVws [fzD x, fzD y] = true := noVws_fzDs [x, y]
      cases x <;> cases y <;> first | exact w1.elim | skip
      · rename_i xs ys
        obtain ⟨p, vs, rfl, hs, hl, _⟩ := Holds.openT h1
        obtain ⟨p', vs', rfl, hs', hl', _⟩ := Holds.openT (Holds.pop h1)
        rw [hX.eK]
        exact ⟨p, p', vs, vs', rfl, .inr ⟨hs, hs', w1 _ [.ref p, .ref p'] _ _ (Wk.zipT n1) n2 h2⟩⟩
      · rename_i f xs f' ys
        obtain ⟨p, vs, rfl, hs, hl, _⟩ := Holds.openL h1
        obtain ⟨p', vs', rfl, hs', hl', _⟩ := Holds.openL (Holds.pop h1)
        rw [hX.eK]
        exact ⟨p, p', vs, vs', rfl, .inl ⟨hs, hs', w1 _ [.ref p, .ref p'] _ _ (Wk.zipL n1) n2 h2⟩⟩
end
end Pu

set_option Elab.async false
set_option linter.all false
set_option maxRecDepth 100000
set_option maxHeartbeats 1000000
/-! Pu11: list comprehensions whose new list is seen at the end alone. -/
namespace Pu
open PySem PySem.Spec PyProof.Rows L2
section
variable {X : Cx} {pins : List (Addr × Obj)} {σ : L2.St} {H : Hp} {s : Shared}
/-- a thing of ours that was not told before is told -/
theorem tell {D : Addr} {ob : HO} (I : Inv X pins σ H s) (f : FpOk X pins H D) (new : ObjOk X.prog X.w (upd H D ob) s.heap D ob) : Inv X pins σ (upd H D ob) s := by
  obtain ⟨f0, f1, f2, f3, f4, f5⟩ := f
  have st := I.step (H' := upd H D ob) (h' := s.heap) (t' := s.toks) (g' := s.gens) (d' := s.drawn) (ch := [D])
    (fun b hb => by rw [List.mem_singleton.mp hb]; exact ⟨f3, f1, f4, f5⟩) (fun b o _ _ _ e _ => e) (fun b o _ _ _ e _ => ⟨o.slots, e⟩)
    (fun b o hc _ n => by rw [upd_ne (fun z => hc (by rw [z]; exact List.mem_singleton_self D))]; exact n) (fun b o _ e => ⟨o, e⟩) (fun b xs e => by rw [upd_ne (ne_of_none e f0)]; exact e) (fun b o u e => by rw [upd_ne (ne_of_none e f0)]; exact e)
    (fun b ps e => ⟨#[], by rw [upd_ne (ne_of_none e f0), e]; simp⟩) (fun m hm => hm) (fun b u e => ?_) I.bare
  · exact st
  · by_cases hb : b = D
    · subst hb
      rw [upd_same] at e
      cases e
      exact new
    · rw [upd_ne hb] at e
      exact (I.hok b u e).stay (fun c v hc q => q) (fun c q => by rw [upd_ne (ne_of_none q f0)]; exact q) fun c xs q => by rw [upd_ne (ne_of_none q f0)]; exact q
/-- [elt for target in iter if ..] : acc the new items; W by the turn and a measure, Nx what a turn is to reach -/
def tLu (wi : TI) (g : TG) (tt : TT) (te : TE) (vs : List Nat) : TE := fun σ H Q => wi σ H fun J H1 => ∃ W : Nat → Nat → List V → Hp → Prop, (∃ m, W 0 m [] H1) ∧ ∀ i m acc H, W i m acc H →
  (J.stop i H ∧ acc.length ≤ sizeLine ∧ ∀ D, H D = none → Q (.ref D) (upd H D (.lst acc))) ∨ (J.go i H ∧ ∃ Nx : List V → Hp → Prop, (∀ a' H', Nx a' H' → ∃ m', m' < m ∧ W (i + 1) m' a' H') ∧ ∀ x H', J.yld i H x H' → g x (wipe σ vs) H' fun σ2 H2 => wipe σ2 vs = wipe σ vs ∧ tt σ2 H2 fun b H3 =>
    if b = true then te σ2 H3 fun y H4 => acc.length < sizeLine ∧ Nx (acc ++ [y]) H4 else Nx acc H3)
/-- the list at D as it lies, outside of what is told -/
def AccAt (s : Shared) (D : Addr) (acc : List V) : Prop := ∃ (its : List Value) (n : Nat), Vals acc its ∧ s.heap.get? D = some { cls := .type "list", data := .seq its.toArray n }
theorem lu_core {Q : VK} {elt tg iter : Expr} {ifs : List Expr} {scope : Scope} {own : List (Str × Nat)} {pos pos' : Pos} {wi : TI} {g : TG} {tt : TT} {te : TE} {use : Option (Value → Sem Unit)} {Qf : Value → Shared → Prop}
    (hc : X.calm = true) (hN : X.N.Nodup) (I : Inv X pins σ H s) (hi : PI X tg iter wi) (ok : BlkOk X.N X.env.scope scope own)
    (hb : ∀ (s : Shared) (H : Hp) (C : Addr) (cl : List (Str × Addr)) (fp : List Addr), PG (X.blk s H scope (compEnvC scope cl C X.env) fp) tg g ∧ PTs (X.blk s H scope (compEnvC scope cl C X.env) fp) ifs tt ∧ PE (X.blk s H scope (compEnvC scope cl C X.env) fp) elt te)
    (hs : ∀ x, foldedSetIterable iter X.env x = pure x) (h : tLu wi g tt te (own.map (·.2)) σ H Q)
    (hR : ∀ D C s' m H', Inv X pins σ H' s' → Q (.ref D) H' → s'.heap.Ns C m → FpOk X pins H' C → compPost (model X.prog X.w) X.A X.xe use Qf (.ref D) C (.ok .next) s') :
    wpAny (model X.prog X.w) X.A (comprehension (.ListComp elt [⟨tg, iter, ifs, 0⟩] scope pos) scope X.env pos' (newList []) false (eval iter X.env) use) Qf X.xe s := by
  have captured : ∀ y ∈ scope.names, y.2 = .free → ∃ c, X.env.cells.lookup y.1 = some c := fun y hy e => (ok.free y hy e).elim (fun k => I.ok.has _ (.inl k)) fun k => I.ok.has _ (.inr k)
  refine wpAny_comprehension_free (use := use) rfl hs (closure_ok captured) ok.kind (fun y hy e => by rw [ok.uniq y hy, e]) (thn (hi.run pins s σ H _ I h) fun xv s1 hx => thn hx fun itv s2 h2 => ?_)
  obtain ⟨it, fp, tn, J, H2, rfl, I2, T, st2, f2, W, ⟨m0, w0⟩, turn⟩ := h2
  refine wpAny_newObj_type (newEnv_comp ?_) (by show 0 ≤ sizeLine; decide)
  generalize hD : s2.heap.objs.size = D
  have Dn : H2 D = none := I2.hok.fresh (Nat.le_of_eq hD)
  have fD : FpOk X pins H2 D := I2.fpOk (Nat.le_of_eq hD) Dn
  generalize hs3 : ({ s2 with heap := s2.heap.push { cls := .type "list", data := .seq ([] : List Value).toArray } } : Shared) = s3
  have I3 : Inv X pins σ H2 s3 := by
    rw [← hs3]
    exact I2.kept (t' := s2.toks) fun b o e => Heap.get?_push_of_some _ e
  have h3 : s3.heap = s2.heap.push { cls := .type "list", data := .seq ([] : List Value).toArray } := by rw [← hs3]
  have sz : ∀ b ∈ fp, b < s2.heap.objs.size := fun b hb => by
    obtain ⟨o, e, _⟩ := T.obj _ _ st2 b hb
    exact Heap.lt_size e
  have Dfp : D ∉ fp := fun z => absurd (sz D z) (by rw [hD]; exact Nat.lt_irrefl _)
  have f3 : ∀ b ∈ D :: fp, FpOk X pins H2 b ∧ b < s3.heap.objs.size := fun b hb => by
    rw [h3, Heap.size_push]
    rcases List.mem_cons.mp hb with z | z
    · rw [z]; exact ⟨fD, by rw [hD]; exact Nat.lt_succ_self _⟩
    · exact ⟨f2 b z, Nat.lt_succ_of_lt (sz b z)⟩
  have st3 : tn 0 s3.heap := T.keep _ _ _ st2 fun b _ o e => by rw [h3]; exact Heap.get?_push_of_some _ e
  have I4 := block_start I3 ok hN f3
  obtain ⟨pg, pt, pe⟩ := hb s3 H2 s3.heap.objs.size (cellsFrom (s3.heap.objs.size + 1) scope.names (cloFrom X.env.cells scope.names [])) (D :: fp)
  show codeAny _ _ (.compStart (.ListComp elt [⟨tg, iter, ifs, 0⟩] scope pos) 0 (.ref it) (.ref D) (compEnvC scope (cellsFrom (s3.heap.objs.size + 1) scope.names (cloFrom X.env.cells scope.names [])) s3.heap.objs.size X.env)) (compPost (model X.prog X.w) X.A X.xe use Qf (.ref D) s3.heap.objs.size) { s3 with heap := pushCells (s3.heap.push { cls := .type "dict", data := .dict #[] }) scope.names }
  generalize hce : compEnvC scope (cellsFrom (s3.heap.objs.size + 1) scope.names (cloFrom X.env.cells scope.names [])) s3.heap.objs.size X.env = ce at I4 pg pt pe ⊢
  have cL : ce.locals = s3.heap.objs.size := by subst hce; rfl
  generalize hs4 : ({ s3 with heap := pushCells (s3.heap.push { cls := .type "dict", data := .dict #[] }) scope.names } : Shared) = s4 at I4 ⊢
  have up34 : ∀ b o, s3.heap.get? b = some o → s4.heap.get? b = some o := fun b o e => by rw [← hs4]; exact pushCells_keeps _ _ _ _ (Heap.get?_push_of_some _ e)
  have st4 : tn 0 s4.heap := T.keep _ _ _ st3 fun b _ o e => up34 b o e
  have a4 : AccAt s4 D [] := ⟨[], 0, .nil, up34 D _ (by rw [h3, ← hD]; exact Heap.get?_push_size _ rfl)⟩
  generalize hZ : X.blk s3 H2 scope ce (D :: fp) = Z at I4 pg pt pe
  have zP : Z.prog = X.prog := by rw [← hZ]
  have zW : Z.w = X.w := by rw [← hZ]
  have zK : Z.K = X.K := by rw [← hZ]
  have zA : Z.A = X.A := by rw [← hZ]
  have zC : Z.calm = true := by rw [← hZ]; exact hc
  have zE : Z.env = ce := by rw [← hZ]
  have zX : Z.xe = fun _ _ => False := by rw [← hZ]
  have zx : Z.ex = D :: fp := by rw [← hZ]
  have zp : Z.pn = [] := by rw [← hZ]
  have stat : ∀ {σ' : L2.St} {H' : Hp} {s' : Shared} {pl : List (Addr × Obj)} (l : List Addr), Inv Z pl σ' H' s' → (∀ b ∈ l, b ∈ D :: fp ∧ H' b = none ∧ ∀ p ∈ pl, p.1 ≠ b) → ∀ b ∈ l, FpOk Z pl H' b := fun {σ' H' s' pl} l I' hn b hb =>
    ⟨(hn b hb).2.1, (I'.ok.exf b (by rw [zx]; exact (hn b hb).1)).1, I'.ok.exfs b (by rw [zx]; exact (hn b hb).1), .inl (by rw [zx]; exact (hn b hb).1), fun x c e => (I'.ok.exf b (by rw [zx]; exact (hn b hb).1)).2 x c e, fun p hp => (hn b hb).2.2 p (by rw [zp] at hp; exact hp)⟩
  have loop : codeAny (model X.prog X.w) X.A (.compLoop (.ListComp elt [⟨tg, iter, ifs, 0⟩] scope pos) 0 (.ref it) (.ref D) ce) (compPost (model X.prog X.w) X.A X.xe use Qf (.ref D) s3.heap.objs.size) s4 := by
    refine compLoop_any (fun n s' => ∃ i H' acc, Inv Z [] (wipe σ (own.map (·.2))) H' s' ∧ tn i s'.heap ∧ (∀ b ∈ D :: fp, H' b = none) ∧ AccAt s' D acc ∧ W i n acc H') ?_ m0 ⟨0, H2, [], I4, st4, fun b hb => (f3 b hb).1.1, a4, w0⟩
    rintro n s5 ⟨i, H5, acc, I5, st5, n5, a5, w5⟩
    obtain ⟨its, k, rA, eA⟩ := a5
    -- the list as it lies is pinned
    have I5p : Inv Z [(D, { cls := .type "list", data := .seq its.toArray k })] (wipe σ (own.map (·.2))) H5 s5 := I5.pins_of fun p hp => by
      rw [List.mem_singleton.mp hp]
      exact ⟨eA, n5 D List.mem_cons_self, (I5.ok.exf D (by rw [zx]; exact List.mem_cons_self)).1, I5.ok.exfs D (by rw [zx]; exact List.mem_cons_self), fun v z => by cases z⟩
    have fT : ∀ b ∈ fp, FpOk Z [(D, { cls := .type "list", data := .seq its.toArray k })] H5 b := stat fp I5p fun b hb => ⟨List.mem_cons_of_mem _ hb, n5 b (List.mem_cons_of_mem _ hb), fun p hp z => by
      rw [List.mem_singleton.mp hp] at z
      exact Dfp ((show D = b from z) ▸ hb)⟩
    rcases turn i n acc H5 w5 with ⟨stop, hz, qq⟩ | ⟨go, Nx, hNx, step⟩
    · have td := T.done Z zP zW zK zC i _ s5 _ H5 (fun _ _ => False) I5p fT st5 stop
      rw [zA] at td
      refine thnF td fun r s6 ⟨hr, I6⟩ => ?_
      subst hr
      have eA6 : s6.heap.get? D = some { cls := .type "list", data := .seq its.toArray k } := (I6.pin (D, _) (by rw [zp]; exact List.mem_singleton_self _)).1
      have I7 : Inv X pins σ H5 s6 := by
        rw [← hZ] at I6
        exact I3.call' (ch := D :: fp) I6.os I6.base I6.hok I6.bare fun b hb => ⟨(f3 b hb).1.2.2.2.1, (f3 b hb).1.2.1, (f3 b hb).1.2.2.2.2.1, (f3 b hb).1.2.2.2.2.2⟩
      have I8 := tell (D := D) (ob := .lst acc) I7 ⟨n5 D List.mem_cons_self, fD.2⟩ ⟨hz, its, k, rA, eA6⟩
      have nC : H5 s3.heap.objs.size = none := by
        have z : H5 Z.env.locals = none := I6.free
        rwa [zE, cL] at z
      have DC : s3.heap.objs.size ≠ D := Nat.ne_of_gt (f3 D List.mem_cons_self).2
      obtain ⟨m, hn, _⟩ := I6.loc
      have hn : s6.heap.Ns Z.env.locals m := hn
      rw [zE, cL] at hn
      exact hR D s3.heap.objs.size s6 m _ I8 (qq D (n5 D List.mem_cons_self)) hn (I3.fpOk (Nat.le_refl _) (by rw [upd_ne DC]; exact nC))
    · have ti := T.item Z zP zW zK zC i _ s5 _ H5 (fun _ _ => False) I5p fT st5 go
      rw [zA] at ti
      refine thnF ti fun r s6 ⟨u, hr, h6⟩ => ?_
      subst hr
      refine thnF h6 fun _ s7 ⟨x, H7, I7, r7, y7, st7, n7⟩ => ?_
      have eA7 := (I7.pin (D, _) (by rw [zp]; exact List.mem_singleton_self _)).1
      have nD7 := (I7.pin (D, _) (by rw [zp]; exact List.mem_singleton_self _)).2.1
      have fp7 : ∀ b ∈ fp, FpOk Z [(D, { cls := .type "list", data := .seq its.toArray k })] H7 b := fun b hb => ⟨n7 b hb, (fT b hb).2⟩
      have I7' := I7.pinned fp7 (T.obj _ _ st7)
      have pgr := pg.run _ s7 _ H7 x u _ I7' r7 (step x H7 y7)
      rw [zP, zW, zA, zE, zX] at pgr
      refine thnF pgr fun _ s8 ⟨σ8, H8, I8, hw8, q8⟩ => ?_
      have ptr := pt.run _ s8 σ8 H8 _ I8 q8
      rw [zP, zW, zA, zE, zX] at ptr
      refine thnF ptr fun b s9 ⟨H9, I9, q9⟩ => ?_
      -- a turn's end
      have fin : ∀ {s' : Shared} {H' : Hp} {acc' : List V}, Inv Z (pinsAt fp s7.heap) σ8 H' s' → H' D = none → AccAt s' D acc' → Nx acc' H' → ∃ m, m < n ∧ ∃ i H' acc, Inv Z [] (wipe σ (own.map (·.2))) H' s' ∧ tn i s'.heap ∧ (∀ b ∈ D :: fp, H' b = none) ∧ AccAt s' D acc ∧ W i m acc H' := fun {s' H' acc'} I' nD a' nx => by
        obtain ⟨m', hm, w'⟩ := hNx acc' H' nx
        have pin' : ∀ b ∈ fp, ∀ o, s7.heap.get? b = some o → s'.heap.get? b = some o ∧ H' b = none := fun b hb o e =>
          let z := I'.pin (b, o) (List.mem_append_right _ (mem_pinsAt hb e))
          ⟨z.1, z.2.1⟩
        have hl : (wipe σ (own.map (·.2))).length = σ8.length := by rw [← hw8, wipe_length]
        refine ⟨m', hm, i + 1, H', acc', (I'.pins_of (pins' := []) (fun p hp => by cases hp)).weak hl (fun j v e => ?_), T.keep _ _ _ st7 fun b hb o e => (pin' b hb o e).1, fun b hb => ?_, a', w'⟩
        · rw [← hw8] at e
          exact (wipe_some e).1
        · rcases List.mem_cons.mp hb with z | z
          · rw [z]; exact nD
          · obtain ⟨o, e, _⟩ := T.obj _ _ st7 b z
            exact (pin' b z o e).2
      have less : ∀ {H' : Hp} {s' : Shared}, Inv Z ([(D, { cls := .type "list", data := .seq its.toArray k })] ++ pinsAt fp s7.heap) σ8 H' s' → Inv Z (pinsAt fp s7.heap) σ8 H' s' ∧ H' D = none ∧ s'.heap.get? D = some { cls := .type "list", data := .seq its.toArray k } := fun {H' s'} I' =>
        ⟨I'.pins_of fun p hp => I'.pin p (List.mem_append_right _ (List.mem_append_right _ hp)), (I'.pin (D, _) (List.mem_append_right _ (List.mem_append_left _ (List.mem_singleton_self _)))).2.1, (I'.pin (D, _) (List.mem_append_right _ (List.mem_append_left _ (List.mem_singleton_self _)))).1⟩
      cases b with
      | false =>
        simp only [Bool.false_eq_true, if_false] at q9 ⊢
        obtain ⟨I9', nD, e9⟩ := less I9
        exact fin I9' nD ⟨its, k, rA, e9⟩ q9
      | true =>
        simp only [if_true] at q9 ⊢
        have per := pe.run _ s9 σ8 H9 _ I9 q9
        rw [zP, zW, zA, zE, zX] at per
        refine thnF per fun z s10 ⟨yv, H10, I10, r10, hlen, nx⟩ => ?_
        obtain ⟨I10', nD, e10⟩ := less I10
        have hl := rA.length
        refine append_at (hsz := by rw [List.size_toArray]; omega) e10 fun h' sb ho' => ?_
        obtain ⟨f0, f1, f2', f3', f4, f5⟩ := stat [D] I10' (fun b hb => by
          rw [List.mem_singleton.mp hb]
          refine ⟨List.mem_cons_self, nD, fun p hp z => ?_⟩
          exact Dfp (z ▸ (of_pinsAt hp).1)) D (List.mem_singleton_self _)
        have I11 : Inv Z (pinsAt fp s7.heap) σ8 H10 { s10 with heap := h' } := I10'.turned (t' := s10.toks) (fun b o hb e => (sb.2 b hb).trans e) f0 f1 f3' f4 f5
        refine fin I11 nD ⟨its ++ [z], k + 1, rA.append (.cons r10 .nil), ?_⟩ nx
        rw [ho']
        simp
  exact codeAny_compStart_list loop (T.self X.A 0 _ _ _ st4 loop)
end
end Pu

set_option Elab.async false
set_option linter.all false
set_option maxRecDepth 100000
set_option maxHeartbeats 1000000
/-! Pu12: targets; list comprehensions as expressions. -/
namespace Pu
open PySem PySem.Spec PyProof.Rows L2
section
variable {X : Cx}
theorem pe_lu {elt tg iter : Expr} {ifs : List Expr} {scope : Scope} {own : List (Str × Nat)} {pos : Pos} {wi : TI} {g : TG} {tt : TT} {te : TE} (hc : X.calm = true) (hN : X.N.Nodup) (hi : PI X tg iter wi) (ok : BlkOk X.N X.env.scope scope own)
    (hb : ∀ (s : Shared) (H : Hp) (C : Addr) (cl : List (Str × Addr)) (fp : List Addr), PG (X.blk s H scope (compEnvC scope cl C X.env) fp) tg g ∧ PTs (X.blk s H scope (compEnvC scope cl C X.env) fp) ifs tt ∧ PE (X.blk s H scope (compEnvC scope cl C X.env) fp) elt te)
    (hs : ∀ x, foldedSetIterable iter X.env x = pure x) : PE X (.ListComp elt [⟨tg, iter, ifs, 0⟩] scope pos) (tLu wi g tt te (own.map (·.2))) := by
  constructor
  intro pins s σ H Q I h
  rw [eval_ListComp]
  refine lu_core hc hN I hi ok hb hs h fun D C s' m H' I' q hn f => ⟨m, hn, fun h'' sb => ?_⟩
  exact ⟨.ref D, H', I'.turned (t' := s'.toks) (fun b o hb e => (sb.2 b hb).trans e) f.1 f.2.1 f.2.2.2.1 f.2.2.2.2.1 f.2.2.2.2.2, rfl, q⟩
theorem ps_setLu {i : Nat} {y : Str} {py : Pos} {elt tg iter : Expr} {ifs : List Expr} {scope : Scope} {own : List (Str × Nat)} {pos spos : Pos} {wi : TI} {g : TG} {tt : TT} {te : TE} (hc : X.calm = true) (hN : X.N.Nodup) (hy : X.N[i]? = some y) (hyl : X.env.scope.names.lookup y = some .local)
    (hsw : swapsWith (.ListComp elt [⟨tg, iter, ifs, 0⟩] scope pos) (some (.Name y py)) spos.line X.env = pure true) (hi : PI X tg iter wi) (ok : BlkOk X.N X.env.scope scope own)
    (hb : ∀ (s : Shared) (H : Hp) (C : Addr) (cl : List (Str × Addr)) (fp : List Addr), PG (X.blk s H scope (compEnvC scope cl C X.env) fp) tg g ∧ PTs (X.blk s H scope (compEnvC scope cl C X.env) fp) ifs tt ∧ PE (X.blk s H scope (compEnvC scope cl C X.env) fp) elt te)
    (hs : ∀ x, foldedSetIterable iter X.env x = pure x) : PS X (.Assign [.Name y py] (.ListComp elt [⟨tg, iter, ifs, 0⟩] scope pos) spos) (tAsg (tLu wi g tt te (own.map (·.2))) (gName i)) := by
  constructor
  intro pins s σ H D I h
  rw [exec_Assign_Name_used _ _ _ _ hsw]
  refine wpAny_bind (wpAny_standAt (wpAny_bind ?_))
  show wpAny _ X.A (do let _ ← comprehension (.ListComp elt [⟨tg, iter, ifs, 0⟩] scope pos) scope X.env (firstIterPos [⟨tg, iter, ifs, 0⟩] pos) (newList []) false (eval iter X.env) (some (assign (.Name y py) X.env))) _ _ s
  have h0 : tLu wi g tt te (own.map (·.2)) σ H (fun x H1 => gName i x σ H1 D.nx) := h
  refine wpAny_bind (thn (lu_core (Qf := fun _ s' => SP X pins D .next s') hc hN I hi ok hb hs h0 fun L C s' m H' I' q hn f => ?_) fun _ s' hq => wpAny_pure (wpAny_pure hq))
  show wpAny _ _ (assign (.Name y py) X.env (.ref L)) _ _ _
  refine wpAny_assign_Name (store_ok2 (v := V.ref L) I' hN hy (.inl hyl) rfl (fun s2 I2 ⟨a, sb, ha⟩ => ?_) (.inr hyl))
  have haC : C ≠ a := by
    rcases ha with z | z
    · rw [z]; exact f.2.1
    · exact fun e => f.2.2.2.2.1 y a z e.symm
  refine ⟨m, hn.sameBut sb haC, fun h3 sb3 => ?_⟩
  exact ⟨_, H', I2.turned (t' := s2.toks) (fun b o hb e => (sb3.2 b hb).trans e) f.1 f.2.1 f.2.2.2.1 f.2.2.2.2.1 f.2.2.2.2.2, q⟩
end

/-! ### targets -/
def tgIx : Tg → List Nat
  | .nm i => [i]
  | .tp is => is
section
variable (C : Cf)
/-- the target takes the top value -/
def tG (t : Tg) : TG := fun v σ H Q => ∃ B F0 Lk ρ tv td d, Holds C.G B F0 Lk σ ρ (v :: tv) (d :: td) H ∧
  Wish (bindTg t d ρ) (fun _ => False) fun ρ' => ∀ σ', (∀ vs, (∀ i ∈ tgIx t, i ∈ vs) → L2.wipe σ' vs = L2.wipe σ vs) → Holds C.G B F0 Lk σ' ρ' tv td H → Q σ' H
end
def SG (C : Cf) (k : Nat) (N : List Str) (sc : Scope) (st : List Str) (tg : Expr) (t : Tg) : Prop := ∀ X W, CtxOk C k N sc st X W → PG X tg (tG C t)
theorem PG.imp {X : Cx} {e : Expr} {t t' : TG} (h : PG X e t) (k : ∀ v σ H Q, t' v σ H Q → t v σ H Q) : PG X e t' := ⟨fun pins s σ H v u Q I r q => h.run pins s σ H v u Q I r (k _ _ _ _ q)⟩
theorem wipe_get : ∀ (vs : List Nat) (σ : L2.St) (j : Nat), (L2.wipe σ vs)[j]? = if j ∈ vs then (σ[j]?).map (fun _ => none) else σ[j]?
  | [], σ, j => by simp [L2.wipe]
  | v :: vs, σ, j => by
    unfold L2.wipe
    rw [List.getElem?_set, wipe_get vs σ j, L2.wipe_length]
    by_cases h : v = j
    · subst h
      rw [if_pos rfl, if_pos List.mem_cons_self]
      by_cases hl : v < σ.length
      · rw [if_pos hl, List.getElem?_eq_getElem hl]; rfl
      · rw [if_neg hl, List.getElem?_eq_none (by omega)]; rfl
    · rw [if_neg h]
      have : j ∈ v :: vs ↔ j ∈ vs := by simp [Ne.symm h]
      simp only [this]
theorem wipe_set (σ : L2.St) (i : Nat) (x : Option V) (vs : List Nat) (h : i ∈ vs) : L2.wipe (σ.set i x) vs = L2.wipe σ vs := by
  apply List.ext_getElem?
  intro j
  rw [wipe_get, wipe_get]
  by_cases hj : j ∈ vs
  · rw [if_pos hj, if_pos hj, List.getElem?_set]
    by_cases e : i = j
    · subst e
      rw [if_pos rfl]
      by_cases hl : i < σ.length
      · rw [if_pos hl, List.getElem?_eq_getElem hl]; rfl
      · rw [if_neg hl, List.getElem?_eq_none (by omega)]
    · rw [if_neg e]
  · rw [if_neg hj, if_neg hj, List.getElem?_set_ne (fun z => hj (by rw [← z]; exact h))]
/-- names of a target and their places -/
inductive Nms (N : List Str) (st : List Str) : List Expr → List Nat → Prop
  | nil : Nms N st [] []
  | cons {x : Str} {p : Pos} {i : Nat} {es is} : N[i]? = some x → x ∈ st → Nms N st es is → Nms N st (.Name x p :: es) (i :: is)
def gNs : List Nat → TGs
  | [] => gNil
  | i :: is => gCons (gName i) (gNs is)
section
variable {C : Cf} {k : Nat} {N : List Str} {sc : Scope} {st : List Str} {pos : Pos} {X : Cx} {W : WX}
theorem Nms.pgs (hX : CtxOk C k N sc st X W) : ∀ {es is}, Nms N st es is → PGs X es (gNs is)
  | [], _, h => by cases h; exact pgs_nil
  | _ :: _, _, h => by
    cases h with
    | cons a b c =>
      obtain ⟨h1, h2⟩ := hX.hst _ b
      exact pgs_cons (pg_name (by rw [hX.eN]; exact hX.nd) (by rw [hX.eN]; exact a) (by rw [hX.eS]; exact h1) (by rw [hX.eS]; exact h2)) (c.pgs hX)
theorem Nms.len : ∀ {es is}, Nms N st es is → (assignEach es X.env).length = is.length ∧ (assignEach es X.env).findIdx? (·.1) = none
  | [], _, h => by cases h; exact ⟨rfl, rfl⟩
  | _ :: es, _, h => by
    cases h with
    | @cons x p i _ is a b c =>
      obtain ⟨h1, h2⟩ := Nms.len c
      refine ⟨by rw [List.length_cons, ← h1]; rfl, ?_⟩
      show List.findIdx? _ ((false, _) :: assignEach es X.env) = none
      simp [List.findIdx?_cons, h2]
theorem putAll_gN {B Lk H : Hp} {F0 : Addr → Prop} : ∀ {is : List Nat} {ds : List D} {vs : List V} {σ : L2.St} {ρ : List (Option D)} {tv : List V} {td : List D} {Q : L2.St → Hp → Prop}, Holds C.G B F0 Lk σ ρ (vs ++ tv) (ds ++ td) H → vs.length = ds.length →
    Wish (putAll is ds ρ) (fun _ => False) (fun ρ' => ∀ σ', (∀ us, (∀ i ∈ is, i ∈ us) → L2.wipe σ' us = L2.wipe σ us) → Holds C.G B F0 Lk σ' ρ' tv td H → Q σ' H) → gNs is vs σ H Q
  | [], [], [], _, _, _, _, _, h, _, w => ⟨rfl, w _ (fun _ _ => rfl) h⟩
  | i :: is, d :: ds, v :: vs, σ, ρ, tv, td, Q, h, e, w => by
    simp only [putAll] at w
    obtain ⟨hi, w⟩ := w.chk
    refine ⟨v, vs, rfl, putAll_gN (Holds.set h (of_decide_eq_true hi)) (by simpa using e) (w.mono (fun _ z => z) fun ρ' _ w σ' hs h' => w σ' (fun us hu => ?_) h')⟩
    rw [hs us fun j hj => hu j (List.mem_cons_of_mem _ hj), wipe_set _ _ _ _ (hu i List.mem_cons_self)]
  | _ :: _, [], _, _, _, _, _, _, _, _, w => w.elim
  | [], _ :: _, _, _, _, _, _, _, _, _, w => w.elim
  | _, [], _ :: _, _, _, _, _, _, _, e, _ => by simp at e
  | _, _ :: _, [], _, _, _, _, _, _, e, _ => by simp at e
theorem putAll_len : ∀ {is : List Nat} {xs : List D} {ρ : List (Option D)}, Wish (putAll is xs ρ) (fun _ => False) (fun _ => True) → xs.length = is.length
  | [], [], _, _ => rfl
  | [], _ :: _, _, w => w.elim
  | _ :: _, [], _, w => w.elim
  | i :: is, x :: xs, ρ, w => by
    simp only [putAll] at w
    rw [List.length_cons, List.length_cons, putAll_len w.chk.2]
theorem g_nm {x : Str} {i : Nat} (hi : N[i]? = some x) (hx : x ∈ st) : SG C k N sc st (.Name x pos) (.nm i) := fun X W hX => by
  obtain ⟨h1, h2⟩ := hX.hst _ hx
  refine PG.imp (pg_name (by rw [hX.eN]; exact hX.nd) (by rw [hX.eN]; exact hi) (by rw [hX.eS]; exact h1) (by rw [hX.eS]; exact h2)) fun v σ H Q ⟨B, F0, Lk, ρ, tv, td, d, h, w⟩ => ?_
  obtain ⟨hl, w⟩ := w.chk
  exact w _ (fun us hu => wipe_set _ _ _ _ (hu i List.mem_cons_self)) (h.set (of_decide_eq_true hl))
theorem pg_or {X : Cx} {e : Expr} {t t' : TG} (h : PG X e t) (h' : PG X e t') : PG X e (fun v σ H Q => t v σ H Q ∨ t' v σ H Q) := ⟨fun pins s σ H v u Q I r q => by
  rcases q with q | q
  · exact h.run pins s σ H v u Q I r q
  · exact h'.run pins s σ H v u Q I r q⟩
theorem g_tp {es : List Expr} {is : List Nat} {x1 : Nat} (h : Nms N st es is) : SG C k N sc st (.Tuple es x1 pos) (.tp is) := fun X W hX => by
  obtain ⟨l1, l2⟩ := Nms.len (X := X) h
  refine PG.imp (pg_or (pg_tup hX.calm (h.pgs hX) l1 l2) (pg_unl hX.calm (h.pgs hX) l1 l2)) fun v σ H Q ⟨B, F0, Lk, ρ, tv, td, d, h, w⟩ => ?_
  cases d <;> first | exact w.elim | skip
  · rename_i xs
    obtain ⟨p, vs, rfl, hs, hl, h2⟩ := h.openT
    have e : vs.length = is.length := by rw [hl]; exact putAll_len (w.mono (fun _ z => z) fun _ _ _ => trivial)
    rw [hX.eK]
    exact .inl ⟨p, vs, rfl, hs, e, putAll_gN h2 hl w⟩
  · rename_i f xs
    obtain ⟨p, vs, rfl, hs, hl, h2⟩ := h.openL
    have e : vs.length = is.length := by rw [hl]; exact putAll_len (w.mono (fun _ z => z) fun _ _ _ => trivial)
    rw [hX.eK]
    exact .inr ⟨p, vs, rfl, hs, e, putAll_gN h2 hl w⟩
end
end Pu

set_option Elab.async false
set_option linter.all false
set_option maxRecDepth 100000
set_option maxHeartbeats 1000000
/-! Pu13: comprehensions as expressions. -/
namespace Pu
open PySem PySem.Spec PyProof.Rows L2
section
variable {K : PySem.W.Frag} {cl : Nat → Addr} {H : Hp} {Fz : Addr → Prop} {f : List Addr}
/-- a slot that holds nothing may hold anything -/
theorem OwnS.other {σ : L2.St} {ρ : List (Option D)} {f : List Addr} (h : OwnS K cl H Fz σ ρ f) : ∀ {σ' : L2.St}, σ'.length = σ.length → (∀ (i : Nat) d, ρ[i]? = some (some d) → σ'[i]? = σ[i]?) → OwnS K cl H Fz σ' ρ f := by
  induction h with
  | nil => intro σ' e _; rw [List.eq_nil_of_length_eq_zero e]; exact .nil
  | skip _ ih =>
    intro σ' e g
    cases σ' with
    | nil => simp at e
    | cons y ys => exact .skip (ih (by simpa using e) fun i d hd => by simpa using g (i + 1) d (by simpa using hd))
  | put a _ ih =>
    intro σ' e g
    cases σ' with
    | nil => simp at e
    | cons y ys =>
      have g0 := g 0 _ rfl
      simp only [List.getElem?_cons_zero, Option.some.injEq] at g0
      subst g0
      exact .put a (ih (by simpa using e) fun i d hd => by simpa using g (i + 1) d (by simpa using hd))
end
section
variable {G : Gb} {B Lk H H' : Hp} {F0 : Addr → Prop} {σ : L2.St} {ρ : List (Option D)} {tv : List V} {td : List D}
theorem Holds.other {σ' : L2.St} (h : Holds G B F0 Lk σ ρ tv td H) (e : σ'.length = σ.length) (g : ∀ (i : Nat) d, ρ[i]? = some (some d) → σ'[i]? = σ[i]?) : Holds G B F0 Lk σ' ρ tv td H := by
  obtain ⟨⟨f1, f2, a, b, n, q⟩, kb, kl, tb⟩ := h
  exact ⟨⟨f1, f2, a.other e g, b, n, q⟩, kb, kl, tb⟩
theorem set_none_same {ρ : List (Option D)} {i : Nat} (h : ∀ d, ρ[i]? ≠ some (some d)) : ρ.set i none = ρ := by
  apply List.ext_getElem?
  intro j
  rw [List.getElem?_set]
  by_cases e : i = j
  · subst e
    rw [if_pos rfl]
    by_cases hl : i < ρ.length
    · rw [if_pos hl]
      rw [List.getElem?_eq_getElem hl] at h ⊢
      cases q : ρ[i] with
      | none => rfl
      | some d => exact absurd (by rw [q]) (h d)
    · rw [if_neg hl, List.getElem?_eq_none (by omega)]
  · rw [if_neg e]
/-- some slots put by, for a while -/
theorem Holds.stash : ∀ (vs : List Nat), Holds G B F0 Lk σ ρ tv td H → ∃ (sv : List V) (sd : List D), sv.length = sd.length ∧ Holds G B F0 Lk (L2.wipe σ vs) (wipeD ρ vs) (sv ++ tv) (sd ++ td) H ∧
    ∀ H' tv' td', Holds G B F0 Lk (L2.wipe σ vs) (wipeD ρ vs) (sv ++ tv') (sd ++ td') H' → Holds G B F0 Lk σ ρ tv' td' H'
  | [], h => ⟨[], [], rfl, h, fun _ _ _ h' => h'⟩
  | i :: vs, h => by
    obtain ⟨sv, sd, e, h1, back⟩ := Holds.stash vs h
    have ew : L2.wipe σ (i :: vs) = (L2.wipe σ vs).set i none := rfl
    have eD : wipeD ρ (i :: vs) = (wipeD ρ vs).set i none := rfl
    rw [ew, eD]
    by_cases hh : ∃ d, (wipeD ρ vs)[i]? = some (some d)
    · obtain ⟨d, hd⟩ := hh
      obtain ⟨⟨f1, f2, a, b, n, q⟩, kb, kl, tb⟩ := h1
      obtain ⟨v, g, f', e1, o, a', p⟩ := a.take (x := none) hd
      have pm : (f' ++ (g ++ f2)).Perm (f1 ++ f2) := by rw [← List.append_assoc]; exact p.append_right f2
      have mono : ∀ a, H a ≠ none → Fzp B F0 (f1 ++ f2) a → Fzp B F0 (f' ++ (g ++ f2)) a := fun a _ z => ⟨z.1, fun m => z.2 (pm.subset m)⟩
      refine ⟨v :: sv, d :: sd, by simp [e], ⟨⟨f', g ++ f2, a'.keep (Keep.refl _) mono, .cons (o.keep (Keep.refl _) mono) (b.keep (Keep.refl _) mono), pm.nodup_iff.mpr n, fun p hp => q p (pm.subset hp)⟩, kb, kl, tb⟩, fun H' tv' td' h' => ?_⟩
      have hl : i < (wipeD ρ vs).length := (List.getElem?_eq_some_iff.mp hd).1
      have h2 := Holds.set (i := i) (show Holds G B F0 Lk _ _ (v :: (sv ++ tv')) (d :: (sd ++ td')) H' from h') (by rw [List.length_set]; exact hl)
      rw [List.set_set, List.set_set] at h2
      have e2 : (wipeD ρ vs).set i (some d) = wipeD ρ vs := by
        apply List.ext_getElem?
        intro j
        rw [List.getElem?_set]
        by_cases e : i = j
        · subst e; rw [if_pos rfl, if_pos hl, hd]
        · rw [if_neg e]
      have e3 : (L2.wipe σ vs).set i (some v) = L2.wipe σ vs := by
        apply List.ext_getElem?
        intro j
        rw [List.getElem?_set]
        by_cases e : i = j
        · subst e; rw [if_pos rfl, if_pos (List.getElem?_eq_some_iff.mp e1).1, e1]
        · rw [if_neg e]
      rw [e2, e3] at h2
      exact back H' tv' td' h2
    · have e2 : (wipeD ρ vs).set i none = wipeD ρ vs := set_none_same fun d hd => hh ⟨d, hd⟩
      rw [e2]
      refine ⟨sv, sd, e, h1.other (by rw [List.length_set]) fun j d hd => ?_, fun H' tv' td' h' => back H' tv' td' (h'.other (by rw [List.length_set]) fun j d hd => ?_)⟩
      · rw [List.getElem?_set_ne (fun z => hh ⟨d, by rw [z]; exact hd⟩)]
      · rw [List.getElem?_set_ne (fun z => hh ⟨d, by rw [z]; exact hd⟩)]
end
/-! ### a block's context -/
theorem ctx_blk {C : Cf} {k : Nat} {N : List Str} {sc scope : Scope} {st st' : List Str} {X : Cx} {W : WX} (hX : CtxOk C k N sc st X W)
    (h : ∀ x ∈ st', L2.Loc (relS scope sc) x ∧ ((scope.names.lookup x == some NameKind.cell) = true ∨ (relS scope sc).names.lookup x = some NameKind.local)) (s : Shared) (H : Hp) (c : Addr) (cl : List (Str × Addr)) (fp : List Addr) :
    CtxOk C k N (relS scope sc) st' (X.blk s H scope (compEnvC scope cl c X.env) fp) (fun _ _ _ _ => False) where
  eP := hX.eP
  eW := hX.eW
  eK := hX.eK
  eM := hX.eM
  eB := hX.eB
  eN := hX.eN
  nd := hX.nd
  eS := by rw [← hX.eS]; rfl
  calm := hX.calm
  room := hX.room
  gd := hX.gd
  takes := fun u s' ⟨_, _, _, _, _, _, _, _, _, _, _, _, _, _, _, _, z⟩ => z
  hst := h
  cod := fun c P e => hX.cod c P e
/-- a clause's tests -/
def tCs (C : Cf) (cs : List Ex) : TT := fun σ H Q => ∃ B F0 Lk ρ tv td, Holds C.G B F0 Lk σ ρ tv td H ∧ Wish (evc C.Φ C.gv cs ρ) (fun _ => False) fun b => ∀ H', Holds C.G B F0 Lk σ ρ tv td H' → Q b H'
def SCs (C : Cf) (k : Nat) (N : List Str) (sc : Scope) (st : List Str) (es : List Expr) (cs : List Ex) : Prop := ∀ X W, CtxOk C k N sc st X W → PTs X es (tCs C cs)
section
variable {C : Cf} {k : Nat} {N : List Str} {sc scope : Scope} {st st' : List Str} {c elt tg iter : Expr} {ic ie : Ex} {t : Tg} {it : It} {ifs : List Expr} {cs : List Ex} {pos : Pos}
theorem c_nil : SCs C k N sc st [] [] := fun X W hX => ⟨fun pins s σ H Q I ⟨B, F0, Lk, ρ, tv, td, h, w⟩ => pts_nil.run pins s σ H Q I (w H h)⟩
theorem c_one (h : STt C k N sc st c ic) : SCs C k N sc st [c] [ic] := fun X W hX => ⟨fun pins s σ H Q I ⟨B, F0, Lk, ρ, tv, td, h', w⟩ => (pts_one (h X W hX)).run pins s σ H Q I ⟨B, F0, Lk, ρ, tv, td, h', by
  simp only [evc] at w
  cases e : ev C.Φ C.gv ic ρ with
  | ok x =>
    rw [e] at w
    simp only [Out.bind_ok] at w ⊢
    obtain ⟨b, hb, w⟩ := w.ofob
    rw [hb]
    cases b <;> exact w
  | exc x => rw [e] at w; exact w.elim
  | bad => rw [e] at w; exact w.elim⟩⟩
theorem compL_nil {F : D → Out (Option D)} {ys : List D} (h : compL [] F = .ok ys) : ys = [] := by
  simp only [compL, Out.ok.injEq] at h; exact h.symm
theorem compL_cons {F : D → Out (Option D)} {x : D} {xs ys : List D} (h : compL (x :: xs) F = .ok ys) : ∃ o zs, F x = .ok o ∧ compL xs F = .ok zs ∧ ys = (match o with | some y => y :: zs | none => zs) := by
  simp only [compL] at h
  cases h1 : F x with
  | ok o =>
    rw [h1, Out.bind_ok] at h
    cases h2 : compL xs F with
    | ok zs =>
      rw [h2, Out.bind_ok, Out.ok.injEq] at h
      exact ⟨o, zs, rfl, rfl, h.symm⟩
    | exc _ => rw [h2] at h; cases h
    | bad => rw [h2] at h; cases h
  | exc _ => rw [h1] at h; cases h
  | bad => rw [h1] at h; cases h
theorem putAll_wipe : ∀ {is : List Nat} {xs : List D} {ρ ρ' : List (Option D)} {vs : List Nat}, putAll is xs ρ = .ok ρ' → (∀ i ∈ is, i ∈ vs) → wipeD ρ' vs = wipeD ρ vs
  | [], [], ρ, ρ', vs, h, _ => by simp only [putAll, Out.ok.injEq] at h; rw [h]
  | [], _ :: _, _, _, _, h, _ => by simp [putAll] at h
  | _ :: _, [], _, _, _, h, _ => by simp [putAll] at h
  | i :: is, x :: xs, ρ, ρ', vs, h, g => by
    simp only [putAll, Out.chk] at h
    split at h
    · rw [putAll_wipe h fun j hj => g j (List.mem_cons_of_mem _ hj)]
      exact wipeD_set _ _ _ _ (g i List.mem_cons_self)
    · cases h
where
  wipeD_set (ρ : List (Option D)) (i : Nat) (x : Option D) : ∀ (vs : List Nat), i ∈ vs → wipeD (ρ.set i x) vs = wipeD ρ vs := fun vs h => by
    apply List.ext_getElem?
    intro j
    rw [wipeD_get, wipeD_get]
    by_cases hj : j ∈ vs
    · rw [if_pos hj, if_pos hj, List.getElem?_set]
      by_cases e : i = j
      · subst e
        rw [if_pos rfl]
        by_cases hl : i < ρ.length
        · rw [if_pos hl, List.getElem?_eq_getElem hl]; rfl
        · rw [if_neg hl, List.getElem?_eq_none (by omega)]
      · rw [if_neg e]
    · rw [if_neg hj, if_neg hj, List.getElem?_set_ne (fun z => hj (by rw [← z]; exact h))]
  wipeD_len (ρ : List (Option D)) : ∀ (vs : List Nat), (wipeD ρ vs).length = ρ.length
    | [] => rfl
    | v :: vs => by
      show ((wipeD ρ vs).set v none).length = _
      rw [List.length_set, wipeD_len ρ vs]
  wipeD_get : ∀ (vs : List Nat) (ρ : List (Option D)) (j : Nat), (wipeD ρ vs)[j]? = if j ∈ vs then (ρ[j]?).map (fun _ => none) else ρ[j]?
    | [], ρ, j => by simp [wipeD]
    | v :: vs, ρ, j => by
      show ((wipeD ρ vs).set v none)[j]? = _
      rw [List.getElem?_set, wipeD_get vs ρ j, wipeD_len]
      by_cases h : v = j
      · subst h
        rw [if_pos rfl, if_pos List.mem_cons_self]
        by_cases hl : v < ρ.length
        · rw [if_pos hl, List.getElem?_eq_getElem hl]; rfl
        · rw [if_neg hl, List.getElem?_eq_none (by omega)]; rfl
      · rw [if_neg h]
        have : j ∈ v :: vs ↔ j ∈ vs := by simp [Ne.symm h]
        simp only [this]
theorem bindTg_wipe {d : D} {ρ ρ' : List (Option D)} {vs : List Nat} (h : bindTg t d ρ = .ok ρ') (g : ∀ i ∈ tgIx t, i ∈ vs) : wipeD ρ' vs = wipeD ρ vs := by
  cases t with
  | nm i =>
    simp only [bindTg, Out.chk] at h
    split at h
    · simp only [Out.ok.injEq] at h
      rw [← h]
      exact putAll_wipe.wipeD_set _ _ _ _ (g i (List.mem_singleton_self _))
    · cases h
  | tp is =>
    cases d <;> first | (simp [bindTg] at h; done) | exact putAll_wipe h g
theorem wipeD_wipeD (ρ : List (Option D)) (vs : List Nat) : wipeD (wipeD ρ vs) vs = wipeD ρ vs := by
  apply List.ext_getElem?
  intro j
  rw [putAll_wipe.wipeD_get, putAll_wipe.wipeD_get]
  by_cases hj : j ∈ vs
  · rw [if_pos hj, if_pos hj]
    cases ρ[j]? <;> rfl
  · rw [if_neg hj, if_neg hj]
theorem wipe_wipe (σ : L2.St) (vs : List Nat) : L2.wipe (L2.wipe σ vs) vs = L2.wipe σ vs := by
  apply List.ext_getElem?
  intro j
  rw [wipe_get, wipe_get]
  by_cases hj : j ∈ vs
  · rw [if_pos hj, if_pos hj]
    cases σ[j]? <;> rfl
  · rw [if_neg hj, if_neg hj]
theorem take_succ_of {xs : List D} {i : Nat} (h : i < xs.length) : xs.drop i = xs[i] :: xs.drop (i + 1) := List.drop_eq_getElem_cons h
/-- the body of a comprehension, by values -/
def compF (Φ : Nat → List D → Out (D × List D)) (gv : Nat → D) (t : Tg) (cs : List Ex) (ie : Ex) (ρ0 : List (Option D)) (x : D) : Out (Option D) :=
  (bindTg t x ρ0).bind fun ρ' => (evc Φ gv cs ρ').bind fun b => if b = true then (ev Φ gv ie ρ').bind fun y => .ok (some y) else .ok none
theorem comp_tail {W : WX} {own : List Nat} {σ : L2.St} {H : Hp} {Q : VK} (ht : ∀ i ∈ tgIx t, i ∈ own) (h : tE C (.comp own ie t it cs) W σ H Q) : tLu (tI C it W) (tG C t) (tCs C cs) (tE C ie (fun _ _ _ _ => False)) own σ H Q := by
  obtain ⟨B, F0, Lk, ρ, tv, td, h, w⟩ := h
  simp only [ev] at w
  refine ⟨B, F0, Lk, ρ, tv, td, h, w.bind.mono (fun _ z => z) fun r hr w1 J rv rd H1 wk hz h1 => ?_⟩
  obtain ⟨ys, hy, w2⟩ := w1.bind.calm
  obtain ⟨hlen, w3⟩ := Wish.chk w2
  have hlen := of_decide_eq_true hlen
  have w3 : ∀ v H', Holds C.G B F0 Lk σ ρ (v :: tv) (.lst .ow ys :: td) H' → Q v H' := w3
  have hy : compL r.1 (compF C.Φ C.gv t cs ie (wipeD ρ own)) = .ok ys := hy
  have h1a : Holds C.G B F0 Lk σ ρ (rv ++ tv) (rd ++ td) H1 := h1
  obtain ⟨sv, sd, es, h2, back⟩ := Holds.stash own h1a
  -- the roots on top
  have mv : ∀ {H' : Hp} {xv : List V} {xd : List D}, xv.length = xd.length → ∀ {rv' : List V} {rd' : List D}, rv'.length = rd'.length → Holds C.G B F0 Lk (L2.wipe σ own) (wipeD ρ own) (xv ++ (rv' ++ tv)) (xd ++ (rd' ++ td)) H' → Holds C.G B F0 Lk (L2.wipe σ own) (wipeD ρ own) (rv' ++ (xv ++ tv)) (rd' ++ (xd ++ td)) H' := fun {H' xv xd} e {rv' rd'} e' h' =>
    h'.re (Keep.refl _) h'.tb fun Fz f2 b => by
      obtain ⟨g1, g2, q1, q2, rfl⟩ := b.split e
      obtain ⟨g3, g4, q3, q4, rfl⟩ := q2.split e'
      refine ⟨g3 ++ (g1 ++ g4), Sb.of_perm ?_, fun Fz' m _ => (q3.keep (Keep.refl _) m).append ((q1.keep (Keep.refl _) m).append (q4.keep (Keep.refl _) m))⟩
      rw [← List.append_assoc, ← List.append_assoc]
      exact (List.perm_append_comm).append_right g4
  have h3 := mv es wk.len h2
  refine ⟨fun i m acc H' => m = r.1.length - i ∧ i ≤ r.1.length ∧ ∃ accd zs, acc.length = accd.length ∧ Holds C.G B F0 Lk (L2.wipe σ own) (wipeD ρ own) (rv ++ (acc.reverse ++ (sv ++ tv))) (rd ++ (accd.reverse ++ (sd ++ td))) H' ∧ compL (r.1.drop i) (compF C.Φ C.gv t cs ie (wipeD ρ own)) = .ok zs ∧ accd ++ zs = ys, ⟨_, rfl, Nat.zero_le _, [], ys, rfl, (show Holds C.G B F0 Lk (L2.wipe σ own) (wipeD ρ own) (rv ++ (([] : List V).reverse ++ (sv ++ tv))) (rd ++ (([] : List D).reverse ++ (sd ++ td))) H1 from h3), hy, rfl⟩, ?_⟩
  rintro i m acc H' ⟨rfl, hi, accd, zs, el, hh, hz, ey⟩
  by_cases hlt : i < r.1.length
  · refine .inr ⟨wk.go i hh hlt, fun a' H'' => ∃ accd zs, a'.length = accd.length ∧ Holds C.G B F0 Lk (L2.wipe σ own) (wipeD ρ own) (rv ++ (a'.reverse ++ (sv ++ tv))) (rd ++ (accd.reverse ++ (sd ++ td))) H'' ∧ compL (r.1.drop (i + 1)) (compF C.Φ C.gv t cs ie (wipeD ρ own)) = .ok zs ∧ accd ++ zs = ys, fun a' H'' z => ⟨r.1.length - (i + 1), by omega, rfl, hlt, z⟩, fun x H2 hyl => ?_⟩
    have hx : r.1[i]? = some r.1[i] := List.getElem?_eq_getElem hlt
    have h4 := wk.yld hh hx hyl
    rw [take_succ_of hlt] at hz
    obtain ⟨o, zs', hF, hz', ez⟩ := compL_cons hz
    refine ⟨B, F0, Lk, wipeD ρ own, _, _, _, h4, ?_⟩
    unfold compF at hF
    cases hb : bindTg t r.1[i] (wipeD ρ own) with
    | exc _ => rw [hb] at hF; cases hF
    | bad => rw [hb] at hF; cases hF
    | ok ρ' =>
      rw [hb, Out.bind_ok] at hF
      intro σ2 hs2 h5
      have ew : L2.wipe σ2 own = L2.wipe σ own := by rw [hs2 own ht, wipe_wipe]
      have eD : wipeD ρ' own = wipeD ρ own := by rw [bindTg_wipe hb ht, wipeD_wipeD]
      refine ⟨ew, B, F0, Lk, ρ', _, _, h5, ?_⟩
      cases hc : evc C.Φ C.gv cs ρ' with
      | exc _ => rw [hc] at hF; cases hF
      | bad => rw [hc] at hF; cases hF
      | ok b =>
        rw [hc, Out.bind_ok] at hF
        intro H3 h6
        cases b with
        | false =>
          rw [if_neg (by decide)] at hF ⊢
          cases hF
          have h7 := Holds.wipe (vs := own) h6
          rw [ew, eD] at h7
          exact ⟨accd, zs', el, h7, hz', by rw [← ey, ez]⟩
        | true =>
          rw [if_pos rfl] at hF ⊢
          refine ⟨B, F0, Lk, ρ', _, _, h6, ?_⟩
          cases he : ev C.Φ C.gv ie ρ' with
          | exc _ => rw [he] at hF; cases hF
          | bad => rw [he] at hF; cases hF
          | ok y =>
            rw [he, Out.bind_ok] at hF
            cases hF
            intro v H4 h7
            have h8 := Holds.wipe (vs := own) (Holds.down h7 wk.len)
            rw [ew, eD] at h8
            have ey' : accd ++ [y] ++ zs' = ys := by rw [← ey, ez, List.append_assoc]; rfl
            refine ⟨?_, accd ++ [y], zs', by simp [el], ?_, hz', ey'⟩
            · have e9 : ys.length = accd.length + 1 + zs'.length := by rw [← ey', List.length_append, List.length_append]; rfl
              omega
            · rw [List.reverse_append, List.reverse_append]
              exact h8
  · have e : i = r.1.length := by omega
    subst e
    rw [List.drop_length] at hz
    have z0 := compL_nil hz
    subst z0
    rw [List.append_nil] at ey
    subst ey
    refine .inl ⟨wk.stop hh, by rw [el]; exact hlen, fun D hD => w3 _ _ ?_⟩
    have h4 := Holds.popn hh wk.len
    have h5 := Holds.revd h4 (by rw [List.length_reverse, List.length_reverse, el])
    rw [List.reverse_reverse, List.reverse_reverse] at h5
    have h6 := Holds.newLst h5 el hD
    exact back _ _ _ (Holds.down h6 es)
/-- own's places are those of the block's names -/
theorem s_comp {own : List (Str × Nat)} (hw : ∀ i ∈ tgIx t, i ∈ own.map (·.2)) (hbk : blkC N sc scope own = true) (hf : ∀ env x, foldedSetIterable iter env x = pure x)
    (h : ∀ x ∈ st', L2.Loc (relS scope sc) x ∧ ((scope.names.lookup x == some NameKind.cell) = true ∨ (relS scope sc).names.lookup x = some NameKind.local))
    (hi : SI C k N sc st tg iter it) (hg : SG C k N (relS scope sc) st' tg t) (hc : SCs C k N (relS scope sc) st' ifs cs) (he : SE C k N (relS scope sc) st' elt ie) :
    SE C k N sc st (.ListComp elt [⟨tg, iter, ifs, 0⟩] scope pos) (.comp (own.map (·.2)) ie t it cs) := fun X W hX => by
  have ok : BlkOk X.N X.env.scope scope own := by rw [hX.eN, hX.eS]; exact blkOk_by hbk
  exact PE.imp (pe_lu hX.calm (by rw [hX.eN]; exact hX.nd) (hi X W hX) ok (fun s H c cl fp => have z := ctx_blk hX h s H c cl fp; ⟨hg _ _ z, hc _ _ z, he _ _ z⟩) (hf X.env)) fun σ H Q q => comp_tail hw q
end
end Pu

set_option Elab.async false
set_option linter.all false
set_option maxRecDepth 100000
set_option maxHeartbeats 1000000
/-! PuG1: any, all over a generator expression: the loop. -/
namespace Pu
open PySem PySem.Spec PyProof.Rows L2
theorem over_gen {A : Around} {elt : Expr} {gs : List Comprehension} {scope : Scope} {pos : Pos} {it acc : Value} {env : Env} : A.over (.compLoop (.GeneratorExp elt gs scope pos) 0 it acc env) [] = A.deeper env := by
  first
    | rfl
    | (obtain ⟨hd, d, fr, gs, u⟩ := A; simp [Around.over, Around.deeper, marksOver, frameCount, unitsOf, envsOf, guardsOf, pushEnvs, pushGuards, Code.envs, Code.env?, Code.isFrame, Code.guards, Code.isGuard, Code.weight, Code.frames, Code.isCreation, Code.isCaller, Code.cUnits])
theorem over_gen0 {A : Around} {elt : Expr} {gs : List Comprehension} {scope : Scope} {pos : Pos} {it acc : Value} {env : Env} : A.over (.compStart (.GeneratorExp elt gs scope pos) 0 it acc env) [] = A.deeper env := by
  first
    | rfl
    | (obtain ⟨hd, d, fr, gs, u⟩ := A; simp [Around.over, Around.deeper, marksOver, frameCount, unitsOf, envsOf, guardsOf, pushEnvs, pushGuards, Code.envs, Code.env?, Code.isFrame, Code.guards, Code.isGuard, Code.weight, Code.frames, Code.isCreation, Code.isCaller, Code.cUnits])
/-- while it sleeps, nothing is changed but the generators' states -/
structure Nap (s s' : Shared) : Prop where
  heap : s'.heap = s.heap
  os : s'.os = s.os
  bare : AllBare s'.gens
theorem nap_inv {Z : Cx} {pins : List (Addr × Obj)} {σ : L2.St} {H : Hp} {s s' : Shared} (I : Inv Z pins σ H s) (z : Nap s s') : Inv Z pins σ H s' := by
  obtain ⟨h', g', d', t', o'⟩ := s'
  obtain ⟨e1, e2, e3⟩ := z
  have e1 : h' = s.heap := e1
  have e2 : o' = s.os := e2
  subst e1 e2
  exact I.step (g' := g') (t' := t') (d' := d') (h' := s.heap) (H' := H) (ch := []) (fun b hb => by cases hb) (fun b o _ _ _ e _ => e) (fun b o _ _ _ e _ => ⟨o.slots, e⟩) (fun b o _ _ n => n) (fun b o _ e => ⟨o, e⟩) (fun b xs e => e) (fun b o u e => e)
    (fun b ps e => ⟨#[], by rw [e]; simp⟩) (fun m hm => hm) I.hok e3
/-- an item comes out: go on, or the answer is had -/
def YB (Z : Cx) (σ0 : L2.St) (all : Bool) (Qo : Hp → Prop) : Protocol := fun n s₀ v s kap => ∃ b H, v = .bool b ∧ Inv Z [] σ0 H s ∧ (if b = all then ∀ s', Nap s s' → kap (.send .none) s' else Qo H)
def RB (Z : Cx) (σ0 : L2.St) (Qe : Hp → Prop) : GenEnd := fun n s₀ r s1 => r = .ok .next ∧ ∃ H, Inv Z [] σ0 H s1 ∧ Qe H
/-- one turn's wish -/
def GStep (J : L2.It) (g : TG) (te : TE) (vs : List Nat) (σ0 : L2.St) (all : Bool) (Qe Qo : Hp → Prop) (W : Nat → Nat → Hp → Prop) : Prop := ∀ i m H, W i m H →
  (J.stop i H ∧ Qe H) ∨ (J.go i H ∧ ∃ Nx : Hp → Prop, (∀ H', Nx H' → ∃ m', m' < m ∧ W (i + 1) m' H') ∧ ∀ x H', J.yld i H x H' → g x σ0 H' fun σ2 H2 => wipe σ2 vs = σ0 ∧ te σ2 H2 fun y H3 => ∃ b, y = .bl b ∧ if b = all then Nx H3 else Qo H3)
theorem seg_gen {Z : Cx} {A : Around} {tg elt iter : Expr} {scope : Scope} {pos : Pos} {it : Addr} {fp : List Addr} {tn : Nat → Heap → Prop} {J : L2.It} {g : TG} {te : TE} {vs : List Nat} {σ0 : L2.St} {all : Bool} {Qe Qo : Hp → Prop} {W : Nat → Nat → Hp → Prop}
    (hA : A.deeper Z.env = Z.A) (hc : Z.calm = true) (hx : Z.xe = fun _ _ => False) (hco : Z.env.scope.isCoroutine = false) (T : Turn Z.prog Z.w Z.K tg J fp it tn) (pg : PG Z tg g) (pe : PE Z elt te) (hfe : ∀ b ∈ fp, b ∈ Z.ex) (hfp : ∀ b ∈ fp, ∀ p ∈ Z.pn, p.1 ≠ b) (h0 : wipe σ0 vs = σ0)
    (step : GStep J g te vs σ0 all Qe Qo W) : ∀ (n i m : Nat) (H : Hp) (s₀ s : Shared), m < n → Inv Z [] σ0 H s → tn i s.heap → (∀ b ∈ fp, H b = none) → W i m H →
      Seg (model Z.prog Z.w) A (RB Z σ0 Qe) (YB Z σ0 all Qo) n s₀ (.compLoop (.GeneratorExp elt [⟨tg, iter, [], 0⟩] scope pos) 0 (.ref it) .none Z.env)
        ((model Z.prog Z.w).den (.compLoop (.GeneratorExp elt [⟨tg, iter, [], 0⟩] scope pos) 0 (.ref it) .none Z.env)) [] s := by
  have stat : ∀ {σ' : L2.St} {H' : Hp} {s' : Shared}, Inv Z [] σ' H' s' → (∀ b ∈ fp, H' b = none) → ∀ b ∈ fp, FpOk Z [] H' b := fun {σ' H' s'} I' hn b hb =>
    ⟨hn b hb, (I'.ok.exf b (hfe b hb)).1, I'.ok.exfs b (hfe b hb), .inl (hfe b hb), fun x c e => (I'.ok.exf b (hfe b hb)).2 x c e, fun p hp => by
      rw [List.append_nil] at hp
      exact hfp b hb p hp⟩
  intro n
  induction n with
  | zero => intro i m H s₀ s hm; exact absurd hm (Nat.not_lt_zero _)
  | succ n ih =>
    intro i m H s₀ s hm I st nf w
    have hh : (A.over (.compLoop (.GeneratorExp elt [⟨tg, iter, [], 0⟩] scope pos) 0 (.ref it) .none Z.env) []) = Z.A := by rw [over_gen]; exact hA
    show Seg _ A _ _ _ s₀ _ ((compTurn (.GeneratorExp elt [⟨tg, iter, [], 0⟩] scope pos) 0 (.ref it) .none Z.env).onRaise (leaving Z.env)) [] s
    rw [compTurn_gen, Sem.onRaise_eq_wrap]
    refine seg_bind_wrap (wpAny_standAt ?_)
    rcases step i m H w with ⟨stop, qe⟩ | ⟨go, Nx, hNx, turn⟩
    · have td := T.done Z rfl rfl rfl hc i [] s _ H (fun _ _ => False) I (stat I nf) st stop
      rw [← hh] at td
      refine seg_bind_wrap (wpAny_mono td (fun r s1 z => ?_) fun _ _ e => e.elim)
      obtain ⟨hr, I1⟩ := z
      subst hr
      exact seg_end (.ok .next) ⟨rfl, H, I1, qe⟩
    · have ti := T.item Z rfl rfl rfl hc i [] s _ H (fun _ _ => False) I (stat I nf) st go
      rw [← hh] at ti
      refine seg_bind_wrap (wpAny_mono ti (fun r s1 z => ?_) fun _ _ e => e.elim)
      obtain ⟨u, hr, z⟩ := z
      subst hr
      refine seg_bind_wrap (wpAny_mono z (fun _ s2 z => ?_) fun _ _ e => e.elim)
      obtain ⟨x, H2, I2, r2, y2, st2, n2⟩ := z
      have I2' := I2.pinned (stat I2 n2) (T.obj _ _ st2)
      have pgr := pg.run _ s2 _ H2 x u _ I2' r2 (turn x H2 y2)
      rw [hx, ← hh] at pgr
      refine seg_bind_wrap (wpAny_mono pgr (fun _ s3 z => ?_) fun _ _ e => e.elim)
      obtain ⟨σ3, H3, I3, hw3, q3⟩ := z
      refine seg_bind_wrap (wpAny_pure ?_)
      simp only [if_true]
      have hy : ∀ v, yieldOut Z.env v = yieldValue v := fun v => by simp only [yieldOut, hco, Bool.false_eq_true, if_false]
      simp only [hy]
      rw [Sem.bind_eq_wrap', Sem.bind_eq_wrap', Sem.wrap_wrap, Sem.wrap_wrap]
      have per := pe.run _ s3 σ3 H3 _ I3 q3
      rw [hx, ← hh] at per
      refine seg_wrap (wpAny_mono per (fun v s4 z => ?_) fun _ _ e => e.elim)
      obtain ⟨y, H4, I4, r4, b, ey, q4⟩ := z
      subst ey
      have r4 : v = .bool b := r4
      have pin' : ∀ b ∈ fp, ∀ o, s2.heap.get? b = some o → s4.heap.get? b = some o ∧ H4 b = none := fun b hb o e =>
        let z := I4.pin (b, o) (List.mem_append_right _ (List.mem_append_right _ (mem_pinsAt hb e)))
        ⟨z.1, z.2.1⟩
      have I5 : Inv Z [] σ0 H4 s4 := (I4.unpinned (pins := [])).weak (by rw [← hw3, wipe_length]) fun j v e => by
        rw [← hw3] at e
        exact (wipe_some e).1
      refine seg_at (seg_yield rfl rfl rfl ⟨b, H4, r4, I5, ?_⟩)
      by_cases hb : b = all
      · rw [if_pos hb] at q4 ⊢
        intro s' nap
        obtain ⟨m', hm', w'⟩ := hNx H4 q4
        refine seg_again rfl (ih (i + 1) m' H4 s' s' (by omega) (nap_inv I5 nap) (T.keep _ _ _ st2 fun b hb o e => by rw [nap.heap]; exact (pin' b hb o e).1) (fun b hb => ?_) w')
        obtain ⟨o, e, _⟩ := T.obj _ _ st2 b hb
        exact (pin' b hb o e).2
      · rw [if_neg hb] at q4 ⊢
        exact q4
end Pu

set_option Elab.async false
set_option linter.all false
set_option maxRecDepth 100000
set_option maxHeartbeats 1000000
/-! PuG2: any, all over a generator expression: who asks it. -/
namespace Pu
open PySem PySem.Spec PyProof.Rows L2
theorem seg_gen0 {Z : Cx} {A : Around} {tg elt iter : Expr} {scope : Scope} {pos : Pos} {it : Addr} {fp : List Addr} {tn : Nat → Heap → Prop} {J : L2.It} {R : GenEnd} {Y : Protocol} {n : Nat} {s₀ s : Shared} (T : Turn Z.prog Z.w Z.K tg J fp it tn) (st : tn 0 s.heap)
    (loop : Seg (model Z.prog Z.w) A R Y n s₀ (.compLoop (.GeneratorExp elt [⟨tg, iter, [], 0⟩] scope pos) 0 (.ref it) .none Z.env) ((model Z.prog Z.w).den (.compLoop (.GeneratorExp elt [⟨tg, iter, [], 0⟩] scope pos) 0 (.ref it) .none Z.env)) [] s) :
    Seg (model Z.prog Z.w) A R Y n s₀ (.compStart (.GeneratorExp elt [⟨tg, iter, [], 0⟩] scope pos) 0 (.ref it) .none Z.env) ((model Z.prog Z.w).den (.compStart (.GeneratorExp elt [⟨tg, iter, [], 0⟩] scope pos) 0 (.ref it) .none Z.env)) [] s := by
  show Seg _ A _ _ _ s₀ _ ((compStart (.GeneratorExp elt [⟨tg, iter, [], 0⟩] scope pos) 0 (.ref it) .none Z.env).onRaise (leaving Z.env)) [] s
  unfold compStart
  rw [Sem.onRaise_eq_wrap]
  show Seg _ A _ _ _ s₀ _ ((ask >>= _).wrap _ _ _ _) [] s
  refine seg_bind_wrap (wpAny_askSetting ?_)
  split
  · exact seg_again rfl loop
  · first
      | exact seg_bind_wrap (wpAny_rule (seg_bind_wrap (wpAny_standAt (seg_bind_wrap (T.self _ 0 s _ _ st (seg_again rfl loop))))))
      | (refine seg_bind_wrap (wpAny_rule ?_); show Seg _ A _ _ _ s₀ _ ((standAt iter.pos >>= _).wrap _ _ _ _) [] s; exact seg_bind_wrap (wpAny_standAt (seg_bind_wrap (T.self _ 0 s _ _ st (seg_again rfl loop)))))
/-- a generator that sleeps -/
def Slp (M : Model) (A : Around) (R : GenEnd) (Y : Protocol) (a : Addr) (g : Nat) (n : Nat) (s : Shared) : Prop :=
  s.heap.NoLimit ∧ s.heap.IsGen a g ∧ AllBare s.gens ∧ ∃ gs, s.gens[g]? = some gs ∧ ∀ s', Nap s s' → gs.Goes M A R Y n (.send .none) s'
/-- behind the last one -/
structure Late (s s' : Shared) : Prop where
  heap : ∀ b o, s.heap.get? b = some o → s'.heap.get? b = some o
  os : s'.os = s.os
  bare : AllBare s'.gens
theorem nap_run {s : Shared} {g : Nat} (h : AllBare s.gens) : Nap s (s.setGen g .running) := ⟨rfl, rfl, allBare_setGen h rfl⟩
section
variable {Z : Cx} {A : Around} {σ0 : L2.St} {all : Bool} {Qe Qo : Hp → Prop} {a : Addr} {g : Nat} {go : Obj} {R : Result → Shared → Prop}
/-- one question -/
theorem gen_next {n : Nat} {s : Shared} {Qf : Option Value → Shared → Prop} (hh : A.handled = none) (hroom : A.depth < recursionLimit) (hgo : (a, go) ∈ Z.pn) (isg : ∀ h : Heap, h.get? a = some go → h.IsGen a g) (S : Slp (model Z.prog Z.w) A.in1 (RB Z σ0 Qe) (YB Z σ0 all Qo) a g n s)
    (hE : ∀ H s₁ s', Inv Z [] σ0 H s₁ → Qe H → Late s₁ s' → Qf none s') (hO : ∀ H s₁ s', Inv Z [] σ0 H s₁ → Qo H → Late s₁ s' → Qf (some (.bool (!all))) s')
    (hY : ∀ m s', m < n → Slp (model Z.prog Z.w) A.in1 (RB Z σ0 Qe) (YB Z σ0 all Qo) a g m s' → Qf (some (.bool all)) s') : wpAny (model Z.prog Z.w) A (pyNext (.ref a)) Qf (fun _ _ => False) s := by
  obtain ⟨hl, hg, hb, gs, hgs, goes⟩ := S
  have hgl : g < s.gens.size := (Array.getElem?_eq_some_iff.mp hgs).1
  refine GenW.wpAny_gsz (n := g + 1) hgl ?_
  refine wpAny_pyNext_genexpQ (P := fun n s₀ s₁ => ∃ H, Inv Z [] σ0 H s₁ ∧ Qe H) hh hl hroom hg hgs (goes _ (nap_run hb)) (fun v s₁ gs' hbare hv => ?_) (fun s₁ hp h' hk => ?_)
  · obtain ⟨b, H, rfl, I, q⟩ := hv
    intro hsz
    have bare' : AllBare (s₁.setGen g gs').gens := allBare_setGen I.bare hbare
    have late : Late s₁ (s₁.setGen g gs') := ⟨fun b o e => e, rfl, bare'⟩
    by_cases hb' : b = all
    · subst hb'
      rw [if_pos rfl] at q
      have hat : (s₁.setGen g gs').gens[g]? = some gs' := by
        rw [GenW.setGen_size] at hsz
        show (s₁.gens.setIfInBounds g gs')[g]? = some gs'
        rw [Array.getElem?_setIfInBounds_self_of_lt (by omega)]
      cases n with
      | zero => exact (q (s₁.setGen g gs') ⟨rfl, rfl, bare'⟩).elim
      | succ m =>
        refine hY m _ (Nat.lt_succ_self _) ⟨I.nolimit, isg _ (I.pin (a, go) (by rw [List.append_nil]; exact hgo)).1, bare', gs', hat, fun s' nap => ?_⟩
        exact q s' ⟨nap.heap, nap.os, nap.bare⟩
    · rw [if_neg hb'] at q
      have e : b = !all := by cases b <;> cases all <;> first | rfl | exact absurd rfl hb'
      rw [e]
      exact hO H s₁ _ I q late
  · obtain ⟨H, I, q⟩ := hp
    intro _
    exact hE H s₁ _ I q ⟨hk, rfl, allBare_setGen I.bare rfl⟩
theorem any_loop (hf : all = false) (hh : A.handled = none) (hroom : A.depth < recursionLimit) (hgo : (a, go) ∈ Z.pn) (isg : ∀ h : Heap, h.get? a = some go → h.IsGen a g)
    (hE : ∀ H s₁ s', Inv Z [] σ0 H s₁ → Qe H → Late s₁ s' → R (.ok (.ret (.bool all))) s') (hO : ∀ H s₁ s', Inv Z [] σ0 H s₁ → Qo H → Late s₁ s' → R (.ok (.ret (.bool (!all)))) s') :
    ∀ (n : Nat) (s : Shared), Slp (model Z.prog Z.w) A.in1.in1 (RB Z σ0 Qe) (YB Z σ0 all Qo) a g n s → codeAny (model Z.prog Z.w) A (.builtin "any.loop" ⟨[.ref a], []⟩) R s := by
  subst hf
  intro n
  induction n using Nat.strongRecOn with
  | _ n ih =>
    intro s S
    refine codeAny_builtin F.entry_any_loop ?_
    rw [Around.under_plainId F.plain_any_loop _]
    show wpAny _ A.in1 (pyNext (.ref a) >>= _) _ _ s
    refine wpAny_bind (wpAny_mono (gen_next (A := A.in1) hh hroom hgo isg S (Qf := fun r s' => match r with
      | none => R (.ok (.ret (.bool false))) s'
      | some v => (v = .bool true ∧ R (.ok (.ret (.bool true))) s') ∨ (v = .bool false ∧ ∃ m, m < n ∧ Slp (model Z.prog Z.w) A.in1.in1 (RB Z σ0 Qe) (YB Z σ0 false Qo) a g m s')) (fun H s₁ s' I q l => hE H s₁ s' I q l) (fun H s₁ s' I q l => .inl ⟨rfl, hO H s₁ s' I q l⟩) (fun m s' hm S' => .inr ⟨rfl, m, hm, S'⟩)) (fun r s' z => ?_) fun _ _ e => e.elim)
    cases r with
    | none => exact wpAny_bind (wpAny_rule (wpAny_pure z))
    | some v =>
      rcases z with ⟨rfl, z⟩ | ⟨rfl, m, hm, S'⟩
      · refine wpAny_bind (wpAny_holding (wpAny_truthy_bool ?_))
        refine wpAny_bind (wpAny_letGo ?_)
        simp only [if_true]
        exact wpAny_bind (wpAny_rule (wpAny_pure z))
      · refine wpAny_bind (wpAny_holding (wpAny_truthy_bool ?_))
        refine wpAny_bind (wpAny_letGo ?_)
        simp only [Bool.false_eq_true, if_false]
        exact wpAny_pure ⟨plainId_quiet F.plain_any_loop _, ih m hm _ S'⟩
theorem all_loop (hf : all = true) (hh : A.handled = none) (hroom : A.depth < recursionLimit) (hgo : (a, go) ∈ Z.pn) (isg : ∀ h : Heap, h.get? a = some go → h.IsGen a g)
    (hE : ∀ H s₁ s', Inv Z [] σ0 H s₁ → Qe H → Late s₁ s' → R (.ok (.ret (.bool all))) s') (hO : ∀ H s₁ s', Inv Z [] σ0 H s₁ → Qo H → Late s₁ s' → R (.ok (.ret (.bool (!all)))) s') :
    ∀ (n : Nat) (s : Shared), Slp (model Z.prog Z.w) A.in1.in1 (RB Z σ0 Qe) (YB Z σ0 all Qo) a g n s → codeAny (model Z.prog Z.w) A (.builtin "all.loop" ⟨[.ref a], []⟩) R s := by
  subst hf
  intro n
  induction n using Nat.strongRecOn with
  | _ n ih =>
    intro s S
    refine codeAny_builtin F.entry_all_loop ?_
    rw [Around.under_plainId F.plain_all_loop _]
    show wpAny _ A.in1 (pyNext (.ref a) >>= _) _ _ s
    refine wpAny_bind (wpAny_mono (gen_next (A := A.in1) hh hroom hgo isg S (Qf := fun r s' => match r with
      | none => R (.ok (.ret (.bool true))) s'
      | some v => (v = .bool false ∧ R (.ok (.ret (.bool false))) s') ∨ (v = .bool true ∧ ∃ m, m < n ∧ Slp (model Z.prog Z.w) A.in1.in1 (RB Z σ0 Qe) (YB Z σ0 true Qo) a g m s')) (fun H s₁ s' I q l => hE H s₁ s' I q l) (fun H s₁ s' I q l => .inl ⟨rfl, hO H s₁ s' I q l⟩) (fun m s' hm S' => .inr ⟨rfl, m, hm, S'⟩)) (fun r s' z => ?_) fun _ _ e => e.elim)
    cases r with
    | none => exact wpAny_bind (wpAny_rule (wpAny_pure z))
    | some v =>
      rcases z with ⟨rfl, z⟩ | ⟨rfl, m, hm, S'⟩
      · refine wpAny_bind (wpAny_holding (wpAny_truthy_bool ?_))
        refine wpAny_bind (wpAny_letGo ?_)
        simp only [Bool.false_eq_true, if_false]
        exact wpAny_bind (wpAny_rule (wpAny_pure z))
      · refine wpAny_bind (wpAny_holding (wpAny_truthy_bool ?_))
        refine wpAny_bind (wpAny_letGo ?_)
        simp only [if_true]
        exact wpAny_pure ⟨plainId_quiet F.plain_all_loop _, ih m hm _ S'⟩
end
end Pu

set_option Elab.async false
set_option linter.all false
set_option maxRecDepth 100000
set_option maxHeartbeats 1000000
/-! PuG3: any, all over a generator expression: its own frame. -/
namespace Pu
open PySem PySem.Spec PyProof.Rows L2
/-- the frame of a generator expression made at s -/
abbrev genX (X : Cx) (s : Shared) (H : Hp) (cenv : Env) (fp : List Addr) (pn : List (Addr × Obj)) : Cx :=
  { X with A := X.A.in1.in1.deeper cenv, s_0 := s, H_0 := H, env := cenv, outer := X.stack, stack := cenv :: X.stack, ex := fp, fn := fun _ => false, pn := pn, xe := fun _ _ => False }
section
variable {X : Cx} {pins : List (Addr × Obj)} {σ : L2.St} {H : Hp} {s : Shared}
theorem gen_start {scope : Scope} {own : List (Str × Nat)} {fp : List Addr} {a : Addr} {go : Obj} {h5 : Heap} {G5 : Array GenState} {t5 : Nat} {code : Value} {m0 : Str → Option Value} (I : Inv X pins σ H s) (ok : BlkOk X.N X.env.scope scope own) (hcell : ∀ y ∈ scope.names, y.2 ≠ .cell) (hN : X.N.Nodup) (hfp : ∀ b ∈ fp, FpOk X pins H b ∧ b < s.heap.objs.size)
    (kp : ∀ b o, s.heap.get? b = some o → h5.get? b = some o) (ns : h5.Ns s.heap.objs.size m0) (ha : h5.get? a = some go) (hsa : s.heap.objs.size < a) (hgo : ∀ v, go.data ≠ .cell v) (hb : AllBare G5) :
    Inv (genX X s H (genEnv scope (cloFrom X.env.cells scope.names []) s.heap.objs.size code builtinsNs X.env) fp [(a, go)]) [] (wipe σ (own.map (·.2))) H { s with heap := h5, gens := G5, toks := t5 } := by
  have captured : ∀ y ∈ scope.names, y.2 = .free → ∃ c, X.env.cells.lookup y.1 = some c := fun y hy e => (ok.free y hy e).elim (fun k => I.ok.has _ (.inl k)) fun k => I.ok.has _ (.inr k)
  have cm : ∀ {y c}, (y, c) ∈ cloFrom X.env.cells scope.names [] → X.env.cells.lookup y = some c ∧ c < s.heap.objs.size := fun {y c} hm => by
    rcases cloFrom_mem hm with hm | ⟨h1, rfl⟩
    · cases hm
    · obtain ⟨c, hc⟩ := captured _ h1 rfl
      rw [hc]
      obtain ⟨w, z⟩ := I.cell _ _ hc
      exact ⟨rfl, z.lt⟩
  have look : ∀ {y}, scope.names.lookup y = some .free → ∃ c, (cloFrom X.env.cells scope.names []).lookup y = some c ∧ X.env.cells.lookup y = some c := fun {y} hl => by
    have hy : (y, NameKind.free) ∈ scope.names := PySem.mem_of_lookup hl
    obtain ⟨c', e'⟩ := mem_lookup (cloFrom_has (cells := X.env.cells) (acc := []) hy)
    exact ⟨c', e', (cm (PySem.mem_of_lookup e')).1⟩
  generalize hce : genEnv scope (cloFrom X.env.cells scope.names []) s.heap.objs.size code builtinsNs X.env = ce
  have hL : ce.locals = s.heap.objs.size := by rw [← hce]; rfl
  have hcl : ce.cells = cloFrom X.env.cells scope.names [] := by rw [← hce]; rfl
  have hsc : ce.scope = scope := by rw [← hce]; rfl
  have okZ : (genX X s H ce fp [(a, go)]).Ok := by
    refine ⟨I.ok.mod, by show ce.scope.kind = _; rw [hsc]; exact ok.kind, by show ce.globals = _; rw [← hce]; exact I.ok.glob, by show ce.builtins = _; rw [← hce]; rfl, by show s.heap.objs.size ≤ ce.locals; rw [hL]; exact Nat.le_refl _,
      fun y z c e1 e2 => ?_, fun y hy => ?_, fun y c z e => (by cases z), I.ok.hd, Around.frames_deeper I.ok.frames, .inr ⟨rfl, by show ce.frame = some ce.locals; rw [← hce]; rfl⟩, fun b hb => ⟨?_, fun y c e z => ?_⟩, I.bs, Nat.le_trans I.ok.bsz I.sz, fun b o e hb => ?_, fun b hb z => ?_, I.stack, I.stkFree⟩
    · have e1 : ce.cells.lookup y = some c := e1
      have e2 : ce.cells.lookup z = some c := e2
      rw [hcl] at e1 e2
      exact I.ok.inj y z c (cm (PySem.mem_of_lookup e1)).1 (cm (PySem.mem_of_lookup e2)).1
    · show ∃ c, ce.cells.lookup y = some c
      have hy : ce.scope.names.lookup y = some .cell ∨ ce.scope.names.lookup y = some .free := hy
      rw [hsc] at hy
      rw [hcl]
      rcases hy with hy | hy
      · exact absurd rfl (hcell _ (PySem.mem_of_lookup hy))
      · obtain ⟨c, e, _⟩ := look hy
        exact ⟨c, e⟩
    · show b ≠ ce.locals
      rw [hL]; exact Nat.ne_of_lt (hfp b hb).2
    · have e : ce.cells.lookup y = some c := e
      rw [hcl] at e
      exact (hfp b hb).1.2.2.2.2.1 y c (cm (PySem.mem_of_lookup e)).1 z
    · rcases (hfp b hb).1.2.2.2.1 with z | z
      · exact I.ok.noex b o e z
      · exact absurd (Nat.lt_of_lt_of_le (Heap.lt_size e) (Nat.le_trans I.ok.bsz z)) (Nat.lt_irrefl _)
    · rcases List.mem_cons.mp (I.stkSub b z) with z | z
      · exact (hfp b hb).1.2.1 z
      · exact (hfp b hb).1.2.2.1 z
  refine ⟨okZ, rfl, hb, Un.kept kp, ⟨m0, ?_, fun i y av e1 e2 e3 => ?_⟩, fun y c e => ?_, ?_, fun y c e => ?_, fun p hp => ?_, I.hok.kept kp, by rw [wipe_length]; exact I.len⟩
  · show Heap.Ns _ ce.locals _
    rw [hL]; exact ns
  · obtain ⟨e2, hne⟩ := wipe_some e2
    have e3 : Vis ce.scope y := e3
    rw [hsc] at e3
    have hfr : scope.names.lookup y = some .free := by
      have no : ∀ k, scope.names.lookup y = some k → k = .local ∨ k = .cell → False := fun k hk hh => by
        rcases ok.own _ (PySem.mem_of_lookup hk) hh with e' | e'
        · obtain ⟨p, hp, hpy⟩ := List.mem_map.mp e'
          have e3 := ok.ix p hp
          have hpy : p.1 = y := hpy
          rw [hpy] at e3
          exact hne (List.mem_map.mpr ⟨p, hp, nodup_ix hN e3 e1⟩)
        · exact e' (List.mem_of_getElem? e1)
      rcases e3 with e3 | e3 | e3
      · exact (no _ e3 (.inl rfl)).elim
      · exact (no _ e3 (.inr rfl)).elim
      · exact e3
    obtain ⟨m, hn, hl⟩ := I.loc
    have hvis : Vis X.env.scope y := (ok.free _ (PySem.mem_of_lookup hfr) rfl).elim (fun k => .inr (.inl k)) (fun k => .inr (.inr k))
    obtain ⟨w, r, q⟩ := hl i y av e1 e2 hvis
    refine ⟨w, r, .inr ⟨.inr (by show ce.scope.names.lookup y = _; rw [hsc]; exact hfr), ?_⟩⟩
    obtain ⟨c, h1, h2⟩ := look hfr
    rcases q with ⟨k, _⟩ | ⟨_, c', e', z⟩
    · have k : X.env.scope.names.lookup y = some .local := k
      rcases ok.free _ (PySem.mem_of_lookup hfr) rfl with k' | k' <;> rw [show X.env.scope.names.lookup y = _ from k'] at k <;> cases k
    · rw [h2] at e'; cases e'
      exact ⟨c, by show ce.cells.lookup y = _; rw [hcl]; exact h1, z.keeps kp⟩
  · have e : ce.cells.lookup y = some c := e
    rw [hcl] at e
    obtain ⟨w, z⟩ := I.cell y c (cm (PySem.mem_of_lookup e)).1
    exact ⟨w, z.keeps kp⟩
  · show H ce.locals = none
    rw [hL]; exact I.hok.fresh (Nat.le_refl _)
  · have e : ce.cells.lookup y = some c := e
    rw [hcl] at e
    exact I.freeC y c (cm (PySem.mem_of_lookup e)).1
  · rw [List.append_nil] at hp
    have hp : p ∈ [(a, go)] := hp
    rw [List.mem_singleton.mp hp]
    refine ⟨ha, I.hok.fresh (Nat.le_of_lt hsa), ?_, fun z => ?_, hgo⟩
    · show a ≠ ce.locals
      rw [hL]; exact Nat.ne_of_gt hsa
    · have z : a ∈ frs X.stack := z
      rcases List.mem_cons.mp (I.stkSub a z) with z | z
      · exact absurd (Nat.lt_trans I.lt hsa) (by rw [← z]; exact Nat.lt_irrefl _)
      · exact I.nofs (Nat.le_of_lt hsa) z
end
end Pu

set_option Elab.async false
set_option linter.all false
set_option maxRecDepth 100000
set_option maxHeartbeats 1000000
/-! PuG4: any(elt for target in iter), all(..). -/
namespace Pu
open PySem PySem.Spec PyProof.Rows L2
/-- behind it the def's table of code objects may have grown -/
def tGen (P : Addr) (wi : TI) (g : TG) (te : TE) (vs : List Nat) (all : Bool) : TE := fun σ H Q => wi σ H fun J H1 => (∃ ps, H1 P = some (.tbl ps) ∧ TriplesOk ps.toList) ∧ ∀ ps' : Array Value, TriplesOk ps'.toList → ∃ W : Nat → Nat → Hp → Prop, (∃ m, W 0 m (L2.upd H1 P (.tbl ps'))) ∧
  GStep J g te vs (wipe σ vs) all (fun H' => Q (.bl all) H') (fun H' => Q (.bl (!all)) H') W
/-- made, and not yet asked -/
def Made (X : Cx) (pins : List (Addr × Obj)) (σ : L2.St) (all : Bool) (Q : VK) (a : Addr) (s5 : Shared) : Prop := ∃ (Z : Cx) (σ0 : L2.St) (g n : Nat) (go : Obj), Z.prog = X.prog ∧ Z.w = X.w ∧ (a, go) ∈ Z.pn ∧ (∀ h : Heap, h.get? a = some go → h.IsGen a g) ∧
  Slp (model Z.prog Z.w) X.A.in1.in1 (RB Z σ0 fun H => Q (.bl all) H) (YB Z σ0 all fun H => Q (.bl (!all)) H) a g n s5 ∧ s5.heap.IsGen a g ∧ ∀ H s₁ s', Inv Z [] σ0 H s₁ → Late s₁ s' → Inv X pins σ H s'
theorem late_inv {Z : Cx} {pins : List (Addr × Obj)} {σ : L2.St} {H : Hp} {s s' : Shared} (I : Inv Z pins σ H s) (l : Late s s') : Inv Z pins σ H s' := nap_inv (I.kept (h' := s'.heap) (t' := s.toks) l.heap) ⟨rfl, l.os, l.bare⟩
section
variable {X : Cx} {pins : List (Addr × Obj)} {σ : L2.St} {H : Hp} {s : Shared}
theorem gen_made {Q : VK} {all : Bool} {c P : Addr} {elt tg iter : Expr} {gpos : Pos} {scope : Scope} {own : List (Str × Nat)} {wi : TI} {g : TG} {te : TE} {Q' : Value → Shared → Prop}
    (hc : X.calm = true) (hN : X.N.Nodup) (hroom : X.A.depth + 3 < recursionLimit) (TB : GxR.TabB X.base X.mg c P) (hcode : X.env.code = .ref c) (hco : scope.isCoroutine = false) (hdot : scope.names.lookup (".0" : Str) = some NameKind.local) (hcell : ∀ y ∈ scope.names, y.2 ≠ .cell) (ok : BlkOk X.N X.env.scope scope own) (I : Inv X pins σ H s) (hi : PI X tg iter wi)
    (hb : ∀ (s : Shared) (H : Hp) (C : Addr) (code : Value) (cl : List (Str × Addr)) (fp : List Addr) (pn : List (Addr × Obj)), PG (genX X s H (genEnv scope cl C code builtinsNs X.env) fp pn) tg g ∧ PE (genX X s H (genEnv scope cl C code builtinsNs X.env) fp pn) elt te)
    (hs : ∀ v, genFold iter X.env v = pure v) (h : tGen P wi g te (own.map (·.2)) all σ H Q) (hQ : ∀ a s5, Made X pins σ all Q a s5 → Q' (.ref a) s5) :
    wpAny (model X.prog X.w) X.A (eval (.GeneratorExp elt [⟨tg, iter, [], 0⟩] scope gpos) X.env) Q' X.xe s := by
  have captured : ∀ y ∈ scope.names, y.2 = .free → ∃ c, X.env.cells.lookup y.1 = some c := fun y hy e => (ok.free y hy e).elim (fun k => I.ok.has _ (.inl k)) fun k => I.ok.has _ (.inr k)
  refine wpAny_GeneratorExp_make hco (closure_ok captured) hcell hdot ok.kind (by omega) (thn (hi.run pins s σ H _ I h) fun xv s1 hx => thn hx fun itv s2 h2 => ?_) hs
  obtain ⟨it, fp, tn, J, H1, rfl, I1, T, st1, f1, ⟨ps, hP, ht⟩, q⟩ := h2
  have hPs : s2.heap.get? P = some { cls := .none, data := .fields ps } := I1.hok P _ hP
  have cd : PySem.W.CodeHd s2.heap c P := TB.code.keeps fun b u e => I1.bk b u e
  have fpP : ∀ b ∈ fp, b ≠ P := fun b hb z => by
    have := (f1 b hb).1
    rw [z, hP] at this
    cases this
  have cont : ∀ (code : Value) (h3 : Heap) (tk : Nat) (ps' : Array Value), Heap.ExtBut P s2.heap h3 → s2.heap.objs.size ≤ h3.objs.size → h3.get? P = some { cls := .none, data := .fields ps' } → (∃ more, ps' = ps ++ more) → TriplesOk ps'.toList →
      wpAny (model X.prog X.w) X.A (builtinsFor X.env.globals X.env.builtins) (fun bi s₄ => ∀ h', h'.Ns s₄.heap.objs.size (fun y => if y = ".0" then some (Value.ref it) else none) → Heap.SameBut s₄.heap.objs.size (s₄.heap.push { cls := .type "frame", data := .dict #[] }) h' →
        Q' (.ref h'.objs.size) { s₄ with gens := s₄.gens.push (.fresh (.compStart (.GeneratorExp elt [⟨tg, iter, [], 0⟩] scope gpos) 0 (.ref it) .none (genEnv scope (cloFrom X.env.cells scope.names []) s₄.heap.objs.size code bi X.env))), toks := s₄.toks + 1 + 1 + 1, heap := h'.push { cls := .type "generator", data := .fields #[.int s₄.gens.size 0, .str "<genexpr>" (s₄.toks + 1), .str (X.env.qual ++ "<genexpr>") (s₄.toks + 1 + 1)] } }) X.xe { s2 with heap := h3, toks := tk } := by
    intro code h3 tk ps' hx hsz hP3 hmore ht3
    obtain ⟨bm, ob, e1, e2, e3, e4, e5, e6, e7, e8⟩ := TB.bm
    obtain ⟨more, em⟩ := hmore
    subst em
    have keep3 : ∀ b u, b ≠ P → s2.heap.get? b = some u → h3.get? b = some u := fun b u hb e => hx b u hb e
    refine wpAny_builtinsFor (m := X.mg) (by rw [I1.ok.glob]; exact (I1.mod.glob.keeps I1.bk).extBut hx TB.gP) e1 e2 (keep3 _ _ e4 (I1.bk _ _ e5)) e6 e7 e8 ?_
    have I4 : Inv X pins σ (L2.upd H1 P (.tbl (ps ++ more))) { s2 with heap := h3, toks := tk } := GxR.inv_tab (g' := s2.gens) (d' := s2.drawn) I1 hP keep3 hP3 I1.bare
    obtain ⟨W, ⟨m, w0⟩, step⟩ := q _ ht3
    generalize hs4 : ({ s2 with heap := h3, toks := tk } : Shared) = s4 at I4
    have e4h : s4.heap = h3 := by rw [← hs4]
    have sz : ∀ b ∈ fp, b < s2.heap.objs.size := fun b hb => by
      obtain ⟨o, e, _⟩ := T.obj _ _ st1 b hb
      exact Heap.lt_size e
    have f4 : ∀ b ∈ fp, FpOk X pins (L2.upd H1 P (.tbl (ps ++ more))) b ∧ b < s4.heap.objs.size := fun b hb => by
      refine ⟨⟨by rw [upd_ne (fpP b hb)]; exact (f1 b hb).1, (f1 b hb).2⟩, ?_⟩
      rw [e4h]
      exact Nat.lt_of_lt_of_le (sz b hb) hsz
    intro h' hn' hs'
    have szh : h'.objs.size = s4.heap.objs.size + 1 := by rw [hs'.1, Heap.size_push]
    generalize hgo : ({ cls := .type "generator", data := .fields #[.int s4.gens.size 0, .str "<genexpr>" (s4.toks + 1), .str (X.env.qual ++ "<genexpr>") (s4.toks + 1 + 1)] } : Obj) = go
    have gc : go.cls = .type "generator" := by rw [← hgo]
    have gd : go.data = .fields #[.int s4.gens.size 0, .str "<genexpr>" (s4.toks + 1), .str (X.env.qual ++ "<genexpr>") (s4.toks + 1 + 1)] := by rw [← hgo]
    have gs : go.slots = #[] := by rw [← hgo]
    have gp : (h'.push go).get? h'.objs.size = some go := by rw [← hgo]; exact Heap.get?_push_size _ rfl
    have isg : ∀ hh : Heap, hh.get? h'.objs.size = some go → hh.IsGen h'.objs.size s4.gens.size := fun hh e => ⟨go, _, _, e, gc, gd, gs⟩
    have keep5 : ∀ b o, s4.heap.get? b = some o → (h'.push go).get? b = some o := fun b o e => Heap.get?_push_of_some _ (hs'.extBut b o (Nat.ne_of_lt (Heap.lt_size e)) (Heap.get?_push_of_some _ e))
    have ns5 : (h'.push go).Ns s4.heap.objs.size (fun y => if y = ".0" then some (Value.ref it) else none) := hn'.push _
    have bare5 : AllBare (s4.gens.push (.fresh (.compStart (.GeneratorExp elt [⟨tg, iter, [], 0⟩] scope gpos) 0 (.ref it) .none (genEnv scope (cloFrom X.env.cells scope.names []) s4.heap.objs.size code builtinsNs X.env)))) := AllBare.push I4.bare rfl
    have I5 := gen_start (code := code) (t5 := s4.toks + 1 + 1 + 1) I4 ok hcell hN f4 keep5 ns5 gp (by omega) (fun v z => by rw [gd] at z; cases z) bare5
    generalize hZ : genX X s4 (L2.upd H1 P (.tbl (ps ++ more))) (genEnv scope (cloFrom X.env.cells scope.names []) s4.heap.objs.size code builtinsNs X.env) fp [(h'.objs.size, go)] = Z at I5
    obtain ⟨pg, pe⟩ := hb s4 (L2.upd H1 P (.tbl (ps ++ more))) s4.heap.objs.size code (cloFrom X.env.cells scope.names []) fp [(h'.objs.size, go)]
    rw [hZ] at pg pe
    have zP : Z.prog = X.prog := by rw [← hZ]
    have zW : Z.w = X.w := by rw [← hZ]
    have zK : Z.K = X.K := by rw [← hZ]
    have zE : Z.env = genEnv scope (cloFrom X.env.cells scope.names []) s4.heap.objs.size code builtinsNs X.env := by rw [← hZ]
    have zA : X.A.in1.in1.deeper Z.env = Z.A := by rw [← hZ]
    have st4 : tn 0 s4.heap := T.keep _ _ _ st1 fun b hb o e => by rw [e4h]; exact keep3 b o (fpP b hb) e
    have st5 : tn 0 (h'.push go) := T.keep _ _ _ st4 fun b hb o e => keep5 b o e
    have n5 : ∀ b ∈ fp, (L2.upd H1 P (.tbl (ps ++ more))) b = none := fun b hb => (f4 b hb).1.1
    refine hQ _ _ ⟨Z, wipe σ (own.map (·.2)), s4.gens.size, m + 1, go, zP, zW, by rw [← hZ]; exact List.mem_singleton_self _, isg, ⟨I4.nolimit.keeps keep5, isg _ gp, bare5, _, Array.getElem?_push_size .., fun s' nap => ⟨rfl, ?_⟩⟩, isg _ gp, fun H' s₁ s' I' l => ?_⟩
    · have T' : Turn Z.prog Z.w Z.K tg J fp it tn := by rw [zP, zW, zK]; exact T
      have I6 := nap_inv I5 nap
      have st6 : tn 0 s'.heap := by rw [nap.heap]; exact st5
      have zx : Z.xe = fun _ _ => False := by rw [← hZ]
      have zc : Z.calm = true := by rw [← hZ]; exact hc
      have lp := seg_gen (iter := iter) (scope := scope) (pos := gpos) zA zc zx (by rw [zE]; exact hco) T' pg pe (by rw [← hZ]; exact fun b hb => hb) (by
        rw [← hZ]
        intro b hb p hp
        have hp : p ∈ [(h'.objs.size, go)] := hp
        rw [List.mem_singleton.mp hp]
        have := (f4 b hb).2
        show h'.objs.size ≠ b
        rw [szh]
        exact Nat.ne_of_gt (Nat.lt_succ_of_lt this)) (wipe_wipe _ _) step (m + 1) 0 m _ s' s' (Nat.lt_succ_self _) I6 st6 n5 w0
      have sg := seg_gen0 T' st6 lp
      rw [zE] at sg
      exact sg
    · have I7 := late_inv I' l
      rw [← hZ] at I7
      exact I4.call' (ch := fp) I7.os I7.base I7.hok I7.bare fun b hb => ⟨(f4 b hb).1.2.2.2.1, (f4 b hb).1.2.1, (f4 b hb).1.2.2.2.2.1, (f4 b hb).1.2.2.2.2.2⟩
  refine ⟨I1.nolimit, ?_⟩
  cases hf : codeAmong gpos ps.toList with
  | none =>
    refine wpAny_genexprCodeX hcode (cd.code hPs ht) (cd.tab hPs) hf fun c' h' tk hx hge hlt hco' _ htab' _ => ?_
    obtain ⟨o1, vs1, f1', tf, fl, tg', inF, tx, tt, op, _, _, _, _, _, _, _, _, _, htr, _⟩ := hco'
    exact cont _ h' tk _ hx (Nat.le_trans hge (Nat.le_of_lt hlt)) htab'.2 ⟨_, rfl⟩ htr
  | some cv =>
    refine wpAny_genexprCode_hit hcode (cd.code hPs ht) hf ?_
    exact cont cv s2.heap s2.toks ps (Heap.ExtBut.refl _ _) (Nat.le_refl _) hPs ⟨#[], by simp⟩ ht
end
end Pu

set_option Elab.async false
set_option linter.all false
set_option maxRecDepth 100000
set_option maxHeartbeats 1000000
/-! PuG5: any, all over a generator expression, as expressions of the language. -/
namespace Pu
open PySem PySem.Spec PyProof.Rows L2
def qN : Bool → Str
  | true => "all"
  | false => "any"
theorem pe_gen {X : Cx} {all : Bool} {c P : Addr} {elt tg iter : Expr} {p pos gpos : Pos} {scope : Scope} {own : List (Str × Nat)} {wi : TI} {g : TG} {te : TE}
    (hg : Gl X (qN all)) (hm : X.mg (qN all) = none) (hc : X.calm = true) (hN : X.N.Nodup) (hh : X.A.handled = none) (hroom : X.A.depth + 3 < recursionLimit) (TB : GxR.TabB X.base X.mg c P) (hcode : X.env.code = .ref c) (hco : scope.isCoroutine = false) (hdot : scope.names.lookup (".0" : Str) = some NameKind.local) (hcell : ∀ y ∈ scope.names, y.2 ≠ .cell) (ok : BlkOk X.N X.env.scope scope own) (hi : PI X tg iter wi)
    (hb : ∀ (s : Shared) (H : Hp) (C : Addr) (code : Value) (cl : List (Str × Addr)) (fp : List Addr) (pn : List (Addr × Obj)), PG (genX X s H (genEnv scope cl C code builtinsNs X.env) fp pn) tg g ∧ PE (genX X s H (genEnv scope cl C code builtinsNs X.env) fp pn) elt te)
    (hs : ∀ v, genFold iter X.env v = pure v) : PE X (.Call (.Name (qN all) p) [.GeneratorExp elt [⟨tg, iter, [], 0⟩] scope gpos] [] pos) (tGen P wi g te (own.map (·.2)) all) := by
  have he : starEach [.GeneratorExp elt [⟨tg, iter, [], 0⟩] scope gpos] X.env = (false, eval (.GeneratorExp elt [⟨tg, iter, [], 0⟩] scope gpos) X.env) :: starEach [] X.env := rfl
  have hr2 : X.A.in1.depth < recursionLimit := by show X.A.depth < _; omega
  constructor
  intro pins s σ H Q I h
  cases all with
  | false =>
    refine wpAny_Call_Name_kw (ld_blt (x := "any") I hg hm boot_any ?_)
    refine PyProof.Rows.callWith_builtin1 ?_ he (by rfl)
    rw [he]
    show wpAny _ _ (spliced ((false, eval (.GeneratorExp elt [⟨tg, iter, [], 0⟩] scope gpos) X.env) :: backTo pos (starEach [] X.env))) _ _ s
    refine Calls.spliced_cons (gen_made hc hN hroom TB hcode hco hdot hcell ok I hi hb hs h fun a s5 M => Calls.spliced_nil ?_)
    obtain ⟨Z, σ0, g, n, go, zP, zW, hgo, isg, S, hG, back⟩ := M
    refine call_function_tree F.kind_any F.plain_any F.entry_any (F.args_any1 _) ?_
    unfold Builtin.«any»
    refine wpAny_bind (m := oneArg "any" _) (wpAny_pure ?_)
    refine wpAny_bind (wpAny_pyIter_gen hG ?_)
    refine wpAny_pure ⟨plainId_quiet F.plain_any_loop _, ?_⟩
    rw [← zP, ← zW]
    exact any_loop rfl hh hr2 hgo isg (fun H s₁ s' I' q l => ⟨.bl false, H, back H s₁ s' I' l, rfl, q⟩) (fun H s₁ s' I' q l => ⟨.bl true, H, back H s₁ s' I' l, rfl, q⟩) n _ S
  | true =>
    refine wpAny_Call_Name_kw (ld_blt (x := "all") I hg hm boot_all ?_)
    refine PyProof.Rows.callWith_builtin1 ?_ he (by rfl)
    rw [he]
    show wpAny _ _ (spliced ((false, eval (.GeneratorExp elt [⟨tg, iter, [], 0⟩] scope gpos) X.env) :: backTo pos (starEach [] X.env))) _ _ s
    refine Calls.spliced_cons (gen_made hc hN hroom TB hcode hco hdot hcell ok I hi hb hs h fun a s5 M => Calls.spliced_nil ?_)
    obtain ⟨Z, σ0, g, n, go, zP, zW, hgo, isg, S, hG, back⟩ := M
    refine call_function_tree F.kind_all F.plain_all F.entry_all (F.args_all1 _) ?_
    unfold Builtin.«all»
    refine wpAny_bind (m := oneArg "all" _) (wpAny_pure ?_)
    refine wpAny_bind (wpAny_pyIter_gen hG ?_)
    refine wpAny_pure ⟨plainId_quiet F.plain_all_loop _, ?_⟩
    rw [← zP, ← zW]
    exact all_loop rfl hh hr2 hgo isg (fun H s₁ s' I' q l => ⟨.bl true, H, back H s₁ s' I' l, rfl, q⟩) (fun H s₁ s' I' q l => ⟨.bl false, H, back H s₁ s' I' l, rfl, q⟩) n _ S

/-! ### in the language -/
def Cf.inner (C : Cf) : Cf := { C with code := none }
theorem ctx_gen {C : Cf} {k : Nat} {N : List Str} {sc scope : Scope} {st st' : List Str} {X : Cx} {W : WX} (hX : CtxOk C (k + 1) N sc st X W) (h : ∀ x ∈ st', scope.names.lookup x = some NameKind.local) (s : Shared) (H : Hp) (c : Addr) (code : Value) (cl : List (Str × Addr)) (fp : List Addr) (pn : List (Addr × Obj)) :
    CtxOk C.inner k N scope st' (genX X s H (genEnv scope cl c code builtinsNs X.env) fp pn) (fun _ _ _ _ => False) where
  eP := hX.eP
  eW := hX.eW
  eK := hX.eK
  eM := hX.eM
  eB := hX.eB
  eN := hX.eN
  nd := hX.nd
  eS := rfl
  calm := hX.calm
  room := by
    have r := hX.room
    exact ⟨r.hd, by have := r.dp; show X.A.depth + 1 + 3 * k + 5 < _; omega, by have := r.un; show X.A.units + 1 + 1 + 3 + 16 * k + 200 < _; omega⟩
  gd := by
    have := hX.gd
    exact this
  takes := fun u s' ⟨_, _, _, _, _, _, _, _, _, _, _, _, _, _, _, _, z⟩ => z
  hst := fun x hx => ⟨.inl (h x hx), .inr (h x hx)⟩
  cod := fun c P e => by cases e
def genF (Φ : Nat → List D → Out (D × List D)) (gv : Nat → D) (t : Tg) (ie : Ex) (ρ0 : List (Option D)) (x : D) : Out Bool := (bindTg t x ρ0).bind fun ρ' => (ev Φ gv ie ρ').bind boolD
theorem Tabs.grow {tabs : List Addr} {H : Hp} {P : Addr} {ps' : Array Value} (h : Tabs tabs H) (ht : TriplesOk ps'.toList) : Tabs tabs (L2.upd H P (.tbl ps')) := fun R hR => by
  obtain ⟨ps, e, t⟩ := h R hR
  by_cases z : R = P
  · rw [z]; exact ⟨ps', upd_same, ht⟩
  · exact ⟨ps, by rw [upd_ne z]; exact e, t⟩
theorem Keep.tab {H : Hp} {P : Addr} {ps ps' : Array Value} (h : H P = some (.tbl ps)) : Keep H (L2.upd H P (.tbl ps')) := fun a u e => by
  by_cases z : a = P
  · rw [z] at e ⊢
    rw [h] at e
    cases e
    exact .inr ⟨rfl, ps', upd_same⟩
  · exact .inl (by rw [upd_ne z]; exact e)
theorem genL_cons {all : Bool} {F : D → Out Bool} {x : D} {xs : List D} {b : Bool} (h : genL all (x :: xs) F = .ok b) : ∃ y, F x = .ok y ∧ (if y = all then genL all xs F = .ok b else b = !all) := by
  simp only [genL] at h
  cases h1 : F x with
  | ok y =>
    rw [h1, Out.bind_ok] at h
    refine ⟨y, rfl, ?_⟩
    by_cases hy : y = all
    · rw [if_pos hy]
      rw [if_pos (by rw [hy]; exact beq_self_eq_true all)] at h
      exact h
    · rw [if_neg hy]
      rw [if_neg (by simpa using hy)] at h
      cases h
      rfl
  | exc _ => rw [h1] at h; cases h
  | bad => rw [h1] at h; cases h
theorem gen_tail {C : Cf} {t : Tg} {ie : Ex} {it : It} {all : Bool} {W : WX} {own : List Nat} {P : Addr} {σ : L2.St} {H : Hp} {Q : VK} (hP : P ∈ C.G.tabs) (ht : ∀ i ∈ tgIx t, i ∈ own) (h : tE C (.gen all own ie t it) W σ H Q) :
    tGen P (tI C it W) (tG C.inner t) (tE C.inner ie (fun _ _ _ _ => False)) own all σ H Q := by
  obtain ⟨B, F0, Lk, ρ, tv, td, h, w⟩ := h
  simp only [ev] at w
  refine ⟨B, F0, Lk, ρ, tv, td, h, w.bind.mono (fun _ z => z) fun r hr w1 J rv rd H1 wk hz h1 => ?_⟩
  obtain ⟨b0, hy, w2⟩ := w1.bind.calm
  have w2 : ∀ v H', Holds C.G B F0 Lk σ ρ (v :: tv) (.bl b0 :: td) H' → Q v H' := w2
  have hy : genL all r.1 (genF C.Φ C.gv t ie (wipeD ρ own)) = .ok b0 := hy
  obtain ⟨ps, eP, tP⟩ := h1.tb P hP
  refine ⟨⟨ps, eP, tP⟩, fun ps' ht' => ?_⟩
  have h1a := h1.keep (Keep.tab (ps' := ps') eP) (h1.tb.grow ht')
  obtain ⟨sv, sd, es, h2, back⟩ := Holds.stash own h1a
  have mv : Holds C.G B F0 Lk (L2.wipe σ own) (wipeD ρ own) (rv ++ (sv ++ tv)) (rd ++ (sd ++ td)) (L2.upd H1 P (.tbl ps')) := h2.re (Keep.refl _) h2.tb fun Fz f2 b => by
    obtain ⟨g1, g2, q1, q2, rfl⟩ := b.split es
    obtain ⟨g3, g4, q3, q4, rfl⟩ := q2.split wk.len
    refine ⟨g3 ++ (g1 ++ g4), Sb.of_perm ?_, fun Fz' m _ => (q3.keep (Keep.refl _) m).append ((q1.keep (Keep.refl _) m).append (q4.keep (Keep.refl _) m))⟩
    rw [← List.append_assoc, ← List.append_assoc]
    exact (List.perm_append_comm).append_right g4
  have done : ∀ {b : Bool} {H' : Hp}, b = b0 → Holds C.G B F0 Lk (L2.wipe σ own) (wipeD ρ own) (rv ++ (sv ++ tv)) (rd ++ (sd ++ td)) H' → Q (.bl b) H' := fun {b H'} e h' => by
    subst e
    exact w2 _ _ ((back _ _ _ (h'.popn wk.len)).push fun _ => .bl _)
  refine ⟨fun i m H' => m = r.1.length - i ∧ i ≤ r.1.length ∧ Holds C.G B F0 Lk (L2.wipe σ own) (wipeD ρ own) (rv ++ (sv ++ tv)) (rd ++ (sd ++ td)) H' ∧ genL all (r.1.drop i) (genF C.Φ C.gv t ie (wipeD ρ own)) = .ok b0, ⟨_, rfl, Nat.zero_le _, mv, hy⟩, ?_⟩
  rintro i m H' ⟨rfl, hi, hh, hz'⟩
  by_cases hlt : i < r.1.length
  · refine .inr ⟨wk.go i hh hlt, fun H'' => Holds C.G B F0 Lk (L2.wipe σ own) (wipeD ρ own) (rv ++ (sv ++ tv)) (rd ++ (sd ++ td)) H'' ∧ genL all (r.1.drop (i + 1)) (genF C.Φ C.gv t ie (wipeD ρ own)) = .ok b0, fun H'' z => ⟨r.1.length - (i + 1), by omega, rfl, hlt, z⟩, fun x H2 hyl => ?_⟩
    have h4 := wk.yld hh (List.getElem?_eq_getElem hlt) hyl
    rw [take_succ_of hlt] at hz'
    obtain ⟨y, hF, rest⟩ := genL_cons hz'
    refine ⟨B, F0, Lk, wipeD ρ own, _, _, _, h4, ?_⟩
    unfold genF at hF
    cases hb : bindTg t r.1[i] (wipeD ρ own) with
    | exc _ => rw [hb] at hF; cases hF
    | bad => rw [hb] at hF; cases hF
    | ok ρ' =>
      rw [hb, Out.bind_ok] at hF
      intro σ2 hs2 h5
      have ew : L2.wipe σ2 own = L2.wipe σ own := by rw [hs2 own ht, wipe_wipe]
      have eD : wipeD ρ' own = wipeD ρ own := by rw [bindTg_wipe hb ht, wipeD_wipeD]
      refine ⟨ew, B, F0, Lk, ρ', _, _, h5, ?_⟩
      show Wish (ev C.Φ C.gv ie ρ') _ _
      cases he : ev C.Φ C.gv ie ρ' with
      | exc _ => rw [he] at hF; cases hF
      | bad => rw [he] at hF; cases hF
      | ok d =>
        rw [he, Out.bind_ok] at hF
        intro v H4 h7
        cases d <;> first | (cases hF; done) | skip
        rename_i b
        cases hF
        obtain ⟨_, _, ob⟩ := Holds.top h7
        have h8 := Holds.wipe (vs := own) (Holds.pop h7)
        rw [ew, eD] at h8
        refine ⟨y, ob.inv_bl, ?_⟩
        by_cases hy' : y = all
        · rw [if_pos hy'] at rest ⊢
          exact ⟨h8, rest⟩
        · rw [if_neg hy'] at rest ⊢
          exact done rest.symm h8
  · have e : i = r.1.length := by omega
    subst e
    rw [List.drop_length] at hz'
    simp only [genL, Out.ok.injEq] at hz'
    exact .inl ⟨wk.stop hh, done hz' hh⟩
section
variable {C : Cf} {k : Nat} {N : List Str} {sc scope : Scope} {st st' : List Str} {elt tg iter : Expr} {ie : Ex} {t : Tg} {it : It} {all : Bool} {p pos gpos : Pos} {c P : Addr}
theorem s_gen {own : List (Str × Nat)} (hcd : C.code = some (c, P)) (hg : sc.names.lookup (qN all) = some .globalImplicit) (hm : C.mg (qN all) = none) (hw : ∀ i ∈ tgIx t, i ∈ own.map (·.2)) (hbk : blkC N sc scope own = true) (hco : scope.isCoroutine = false) (hdot : scope.names.lookup (".0" : Str) = some NameKind.local) (hcell : ∀ y ∈ scope.names, y.2 ≠ .cell)
    (hf : ∀ env x, genFold iter env x = pure x) (h : ∀ x ∈ st', scope.names.lookup x = some NameKind.local) (hi : SI C (k + 1) N sc st tg iter it) (ht : SG C.inner k N scope st' tg t) (he : SE C.inner k N scope st' elt ie) :
    SE C (k + 1) N sc st (.Call (.Name (qN all) p) [.GeneratorExp elt [⟨tg, iter, [], 0⟩] scope gpos] [] pos) (.gen all (own.map (·.2)) ie t it) := fun X W hX => by
  obtain ⟨e1, e2, e3⟩ := hX.cod c P hcd
  have ok : BlkOk X.N X.env.scope scope own := by rw [hX.eN, hX.eS]; exact blkOk_by hbk
  exact PE.imp (pe_gen (by unfold Gl Env.kindOf; rw [hX.eS]; exact hg) (by rw [hX.eM]; exact hm) hX.calm (by rw [hX.eN]; exact hX.nd) hX.room.hd (by have := hX.room.dp; omega) e2 e1 hco hdot hcell ok (hi X W hX) (fun s H cc code cl fp pn => have z := ctx_gen hX h s H cc code cl fp pn; ⟨ht _ _ z, he _ _ z⟩) (hf X.env)) fun σ H Q q => gen_tail e3 hw q
end
end Pu

set_option Elab.async false
set_option linter.all false
set_option maxRecDepth 100000
set_option maxHeartbeats 1000000
/-! Pu14: writing at a place within what a slot owns. -/
namespace Pu
open PySem PySem.Spec PyProof.Rows L2
inductive PEl | ix (j : Nat) | fl (x : Str)
def fIx (x : Str) : List Str → Option Nat
  | [] => none
  | y :: ys => if (x == y) = true then some 0 else (fIx x ys).map (· + 1)
/-- the part at a path of owned nodes -/
def subD : List PEl → D → Option D
  | [], d => some d
  | .ix j :: p, .lst .ow xs => match xs[j]? with | some d => subD p d | none => none
  | .fl x :: p, .obj .ow _ ns xs => match fIx x ns with
    | some j => match xs[j]? with | some d => subD p d | none => none
    | none => none
  | _ :: _, _ => none
/-- .. replaced -/
def updD : List PEl → D → D → Option D
  | [], _, d' => some d'
  | .ix j :: p, .lst .ow xs, d' => match xs[j]? with | some d => (updD p d d').map fun e => .lst .ow (xs.set j e) | none => none
  | .fl x :: p, .obj .ow c ns xs, d' => match fIx x ns with
    | some j => match xs[j]? with | some d => (updD p d d').map fun e => .obj .ow c ns (xs.set j e) | none => none
    | none => none
  | _ :: _, _, _ => none
/-- w lies at the path p behind v -/
def reach (H : Hp) : List PEl → V → V → Prop
  | [], v, w => v = w
  | .ix j :: p, v, w => ∃ a vs v1, v = .ref a ∧ H a = some (.lst vs) ∧ vs[j]? = some v1 ∧ reach H p v1 w
  | .fl x :: p, v, w => ∃ a c dx fvs v1, v = .ref a ∧ H a = some (.ins c dx fvs) ∧ fvs.lookup x = some v1 ∧ reach H p v1 w
theorem fIx_lookup {x : Str} : ∀ {fvs : List (Str × V)} {j : Nat} {v : V}, fIx x (fvs.map (·.1)) = some j → (fvs.map (·.2))[j]? = some v → fvs.lookup x = some v
  | [], _, _, h, _ => by simp [fIx] at h
  | (y, u) :: r, j, v, h, e => by
    simp only [List.map_cons, fIx] at h
    rw [List.lookup_cons]
    cases hq : x == y with
    | true =>
      rw [hq, if_pos rfl] at h
      cases h
      simp only [List.map_cons, List.getElem?_cons_zero, Option.some.injEq] at e
      rw [e]
    | false =>
      rw [hq, if_neg (by decide)] at h
      cases q : fIx x (r.map (·.1)) with
      | none => rw [q] at h; cases h
      | some k =>
        rw [q] at h
        cases h
        exact fIx_lookup q (by simpa using e)
section
variable {K : PySem.W.Frag} {cl : Nat → Addr} {H : Hp} {Fz : Addr → Prop} {a : Addr} {o : HO}
/-- one item of many, and the others about it -/
theorem Owns.at : ∀ {ds : List D} {vs : List V} {f : List Addr} {j : Nat} {d : D}, Owns K cl H Fz vs ds f → ds[j]? = some d → noVws ds = true → ∃ w g fr, vs[j]? = some w ∧ Own K cl H Fz w d g ∧ (g ++ fr).Perm f ∧ noVw d = true ∧
    ∀ (a : Addr) (o : HO) (Fz' : Addr → Prop) (d' : D) (g' : List Addr), MutAt H a → ¬ Fz a → a ∉ fr → (∀ x, L2.upd H a o x ≠ none → Fz x → Fz' x) → Own K cl (L2.upd H a o) Fz' w d' g' → ∃ f', Owns K cl (L2.upd H a o) Fz' vs (ds.set j d') f' ∧ f'.Perm (g' ++ fr)
  | [], _, _, _, _, h, e, _ => by simp at e
  | d0 :: ds, _, _, 0, d, h, e, n => by
    cases h with
    | @cons v vs _ _ f1 f2 h1 h2 =>
      simp only [List.getElem?_cons_zero, Option.some.injEq] at e
      subst e
      simp only [noVws, Bool.and_eq_true] at n
      exact ⟨v, f1, f2, rfl, h1, List.Perm.refl _, n.1, fun a o Fz' d' g' m z na mono o' => ⟨_, .cons o' ((h2.upd m z n.2 na).keep (Keep.refl _) mono), List.Perm.refl _⟩⟩
  | d0 :: ds, _, _, j + 1, d, h, e, n => by
    cases h with
    | @cons v vs _ _ f1 f2 h1 h2 =>
      simp only [noVws, Bool.and_eq_true] at n
      obtain ⟨w, g, fr, e1, ow, p, nw, k⟩ := Owns.at h2 (by simpa using e) n.2
      refine ⟨w, g, f1 ++ fr, by simpa using e1, ow, ?_, nw, fun a o Fz' d' g' m z na mono o' => ?_⟩
      · refine List.Perm.trans ?_ (p.append_left f1)
        rw [← List.append_assoc, ← List.append_assoc]
        exact (List.perm_append_comm).append_right fr
      · obtain ⟨f', q, p'⟩ := k a o Fz' d' g' m z (fun hm => na (List.mem_append_right _ hm)) mono o'
        refine ⟨_, .cons ((h1.upd m z n.1 fun hm => na (List.mem_append_left _ hm)).keep (Keep.refl _) mono) q, ?_⟩
        refine (p'.append_left f1).trans ?_
        rw [← List.append_assoc, ← List.append_assoc]
        exact (List.perm_append_comm).append_right fr
theorem perm_a {α : Type} {a : α} {g1 g fr1 fr2 fp : List α} (p1 : (g1 ++ fr1).Perm fp) (p2 : (g ++ fr2).Perm g1) : (g ++ (a :: (fr2 ++ fr1))).Perm ([a] ++ fp) := by
  refine List.perm_middle.trans (List.Perm.cons a ?_)
  rw [← List.append_assoc]
  exact (p2.append_right fr1).trans p1
theorem perm_b {α : Type} {a : α} {f'' f' g' fr1 fr2 : List α} (p1 : f''.Perm (f' ++ fr1)) (p2 : f'.Perm (g' ++ fr2)) : ([a] ++ f'').Perm (g' ++ (a :: (fr2 ++ fr1))) := by
  refine List.Perm.trans (List.Perm.cons a ?_) List.perm_middle.symm
  refine p1.trans ?_
  rw [← List.append_assoc]
  exact p2.append_right fr1
theorem Own.focus : ∀ (p : List PEl) {d : D} {v : V} {f : List Addr} {d1 : D}, Own K cl H Fz v d f → subD p d = some d1 → noVw d = true → ∃ w g fr, reach H p v w ∧ Own K cl H Fz w d1 g ∧ (g ++ fr).Perm f ∧ noVw d1 = true ∧
    ∀ (a : Addr) (o : HO) (Fz' : Addr → Prop) (d' : D) (g' : List Addr), MutAt H a → ¬ Fz a → a ∉ fr → (∀ x, L2.upd H a o x ≠ none → Fz x → Fz' x) → Own K cl (L2.upd H a o) Fz' w d' g' → ∃ e f', updD p d d' = some e ∧ Own K cl (L2.upd H a o) Fz' v e f' ∧ f'.Perm (g' ++ fr)
  | [], d, v, f, d1, h, e, n => by
    simp only [subD, Option.some.injEq] at e
    subst e
    exact ⟨v, f, [], rfl, h, by rw [List.append_nil], n, fun a o Fz' d' g' _ _ _ _ o' => ⟨d', g', rfl, o', by rw [List.append_nil]⟩⟩
  | .ix j :: p, d, v, f, d1, h, e, n => by
    cases d <;> first | (simp [subD] at e; done) | skip
    rename_i fl xs
    cases fl <;> first | (simp [subD] at e; done) | skip
    simp only [subD] at e
    split at e
    · rename_i d0 hd
      cases h with
      | @lst _ a0 vs _ f0 fp ha b =>
        cases ha with
        | ow ha =>
          simp only [noVw, Bool.and_eq_true] at n
          obtain ⟨w1, g1, fr1, e1, ow1, p1, nw, k1⟩ := b.at hd n.2
          obtain ⟨w, g, fr2, r, ow2, p2, n2, k2⟩ := Own.focus p ow1 e nw
          refine ⟨w, g, a0 :: (fr2 ++ fr1), ⟨a0, vs, w1, rfl, ha, e1, r⟩, ow2, perm_a p1 p2, n2, fun a o Fz' d' g' m z na mono o' => ?_⟩
          have na1 : a ≠ a0 := fun q => na (by rw [q]; exact List.mem_cons_self)
          obtain ⟨e', f', u1, o1, q1⟩ := k2 a o Fz' d' g' m z (fun hm => na (List.mem_cons_of_mem _ (List.mem_append_left _ hm))) mono o'
          obtain ⟨f'', o2, q2⟩ := k1 a o Fz' e' f' m z (fun hm => na (List.mem_cons_of_mem _ (List.mem_append_right _ hm))) mono o1
          exact ⟨_, _, by simp only [updD, hd, u1, Option.map_some], .lst (.ow (upd_at ha na1.symm)) o2, perm_b q2 q1⟩
    · cases e
  | .fl x :: p, d, v, f, d1, h, e, n => by
    cases d <;> first | (simp [subD] at e; done) | skip
    rename_i fl c ns xs
    cases fl <;> first | (simp [subD] at e; done) | skip
    simp only [subD] at e
    split at e
    · rename_i j hj
      split at e
      · rename_i d0 hd
        cases h with
        | @obj _ _ a0 _ vs _ f0 fp ha b =>
          cases ha with
          | @ow _ _ dx fvs ha =>
            simp only [noVw, Bool.and_eq_true] at n
            obtain ⟨w1, g1, fr1, e1, ow1, p1, nw, k1⟩ := b.at hd n.2
            obtain ⟨w, g, fr2, r, ow2, p2, n2, k2⟩ := Own.focus p ow1 e nw
            refine ⟨w, g, a0 :: (fr2 ++ fr1), ⟨a0, _, dx, fvs, w1, rfl, ha, fIx_lookup hj e1, r⟩, ow2, perm_a p1 p2, n2, fun a o Fz' d' g' m z na mono o' => ?_⟩
            have na1 : a ≠ a0 := fun q => na (by rw [q]; exact List.mem_cons_self)
            obtain ⟨e', f', u1, o1, q1⟩ := k2 a o Fz' d' g' m z (fun hm => na (List.mem_cons_of_mem _ (List.mem_append_left _ hm))) mono o'
            obtain ⟨f'', o2, q2⟩ := k1 a o Fz' e' f' m z (fun hm => na (List.mem_cons_of_mem _ (List.mem_append_right _ hm))) mono o1
            exact ⟨_, _, by simp only [updD, hj, hd, u1, Option.map_some], .obj (.ow (upd_at ha na1.symm)) o2, perm_b q2 q1⟩
      · cases e
    · cases e
/-- all that the slots hold is clean -/
def cleanS (ρ : List (Option D)) : Bool := ρ.all fun o => match o with | some d => noVw d | none => true
theorem OwnS.at {σ : L2.St} {ρ : List (Option D)} {f : List Addr} (h : OwnS K cl H Fz σ ρ f) : ∀ {i : Nat} {d : D}, ρ[i]? = some (some d) → cleanS ρ = true → ∃ w g fr, σ[i]? = some (some w) ∧ Own K cl H Fz w d g ∧ (g ++ fr).Perm f ∧ noVw d = true ∧
    ∀ (a : Addr) (o : HO) (Fz' : Addr → Prop) (d' : D) (g' : List Addr), MutAt H a → ¬ Fz a → a ∉ fr → (∀ x, L2.upd H a o x ≠ none → Fz x → Fz' x) → Own K cl (L2.upd H a o) Fz' w d' g' → ∃ f', OwnS K cl (L2.upd H a o) Fz' σ (ρ.set i (some d')) f' ∧ f'.Perm (g' ++ fr) := by
  have all : ∀ {σ : L2.St} {ρ : List (Option D)} {f : List Addr}, OwnS K cl H Fz σ ρ f → cleanS ρ = true → ∀ (a : Addr) (o : HO) (Fz' : Addr → Prop), MutAt H a → ¬ Fz a → a ∉ f → (∀ x, L2.upd H a o x ≠ none → Fz x → Fz' x) → OwnS K cl (L2.upd H a o) Fz' σ ρ f := fun {σ ρ f} h => by
    induction h with
    | nil => intros; exact .nil
    | skip _ ih => intro n a o Fz' m z na mono; exact .skip (ih n a o Fz' m z na mono)
    | put q _ ih =>
      intro n a o Fz' m z na mono
      simp only [cleanS, List.all_cons, Bool.and_eq_true] at n
      exact .put ((q.upd m z n.1 fun hm => na (List.mem_append_left _ hm)).keep (Keep.refl _) mono) (ih n.2 a o Fz' m z (fun hm => na (List.mem_append_right _ hm)) mono)
  induction h with
  | nil => intro i d e; simp at e
  | skip _ ih =>
    intro i d e n
    cases i with
    | zero => simp at e
    | succ i =>
      obtain ⟨w, g, fr, e1, ow, p, nw, k⟩ := ih (i := i) (by simpa using e) n
      exact ⟨w, g, fr, by simpa using e1, ow, p, nw, fun a o Fz' d' g' m z na mono o' => let ⟨f', q, p'⟩ := k a o Fz' d' g' m z na mono o'; ⟨f', .skip q, p'⟩⟩
  | @put v d0 σ ρ f1 f2 q h ih =>
    intro i d e n
    simp only [cleanS, List.all_cons, Bool.and_eq_true] at n
    cases i with
    | zero =>
      simp only [List.getElem?_cons_zero, Option.some.injEq] at e
      subst e
      exact ⟨v, f1, f2, rfl, q, List.Perm.refl _, n.1, fun a o Fz' d' g' m z na mono o' => ⟨_, .put o' (all h n.2 a o Fz' m z na mono), List.Perm.refl _⟩⟩
    | succ i =>
      obtain ⟨w, g, fr, e1, ow, p, nw, k⟩ := ih (i := i) (by simpa using e) n.2
      refine ⟨w, g, f1 ++ fr, by simpa using e1, ow, ?_, nw, fun a o Fz' d' g' m z na mono o' => ?_⟩
      · refine List.Perm.trans ?_ (p.append_left f1)
        rw [← List.append_assoc, ← List.append_assoc]
        exact (List.perm_append_comm).append_right fr
      · obtain ⟨f', q', p'⟩ := k a o Fz' d' g' m z (fun hm => na (List.mem_append_right _ hm)) mono o'
        refine ⟨_, .put ((q.upd m z n.1 fun hm => na (List.mem_append_left _ hm)).keep (Keep.refl _) mono) q', ?_⟩
        refine (p'.append_left f1).trans ?_
        rw [← List.append_assoc, ← List.append_assoc]
        exact (List.perm_append_comm).append_right fr
end
section
variable {G : Gb} {B H : Hp} {F0 : Addr → Prop} {σ : L2.St} {ρ : List (Option D)} {tv tx : List V} {td dx : List D}
theorem Keep.mut {H H' : Hp} {a : Addr} {o : HO} (k : Keep H H') (h : H a = Option.none) : Keep H (L2.upd H' a o) := fun c u e => by
  rw [upd_ne (ne_of_none e h)]
  exact k c u e
/-- the list at path p of slot i gets new items, of its own and of the top ones; what is left goes to the top -/
theorem Holds.mutl {p : List PEl} {i : Nat} {d : D} {xs : List D} (h : Holds G B F0 noH σ ρ (tx ++ tv) (dx ++ td) H) (ex : tx.length = dx.length) (hi : ρ[i]? = some (some d)) (hc : cleanS ρ = true) (ht : noVws td = true) (hx : noVws dx = true) (hp : subD p d = some (.lst .ow xs)) :
    ∃ v0 a vs, σ[i]? = some (some v0) ∧ reach H p v0 (.ref a) ∧ H a = some (.lst vs) ∧ vs.length = xs.length ∧ noVws xs = true ∧
      ∀ (vs' ty : List V) (xs' dy : List D), (∀ {H' : Hp} {Fz : Addr → Prop} {g g2 : List Addr}, Owns G.K G.cl H' Fz vs xs g → Owns G.K G.cl H' Fz tx dx g2 → ∃ g3 g4, Owns G.K G.cl H' Fz vs' xs' g3 ∧ Owns G.K G.cl H' Fz ty dy g4 ∧ Sb (g3 ++ g4) (g ++ g2)) →
        ∃ d', updD p d (.lst .ow xs') = some d' ∧ Holds G B F0 noH σ (ρ.set i (some d')) (ty ++ tv) (dy ++ td) (L2.upd H a (.lst vs')) := by
  obtain ⟨⟨f1, f2, oS, oT, nd, qB⟩, kb, kl, tb⟩ := h
  obtain ⟨t1, t2, o1, o2, rfl⟩ := oT.split ex
  obtain ⟨v0, g0, fr0, e0, w0, p0, n0, k0⟩ := oS.at hi hc
  obtain ⟨w, g, fr, r, w1, p1, n1, k1⟩ := w0.focus p hp n0
  cases w1 with
  | @lst _ a vs _ f0 fp ha b =>
    cases ha with
    | ow ha =>
      simp only [noVw, Bool.and_eq_true] at n1
      refine ⟨v0, a, vs, e0, r, ha, b.length, n1.2, fun vs' ty xs' dy gv => ?_⟩
      -- all the feet, in order
      have pf : (a :: (fp ++ (fr ++ (fr0 ++ (t1 ++ t2))))).Perm (f1 ++ (t1 ++ t2)) := by
        refine List.Perm.trans ?_ (p0.append_right (t1 ++ t2))
        refine List.Perm.trans ?_ ((p1.append_right fr0).append_right (t1 ++ t2))
        simp only [List.append_assoc, List.singleton_append, List.cons_append, List.nil_append]
        exact List.Perm.refl _
      have nd2 := pf.nodup_iff.mpr nd
      have na := (List.nodup_cons.mp nd2).1
      simp only [List.mem_append, not_or] at na
      have aF : a ∈ f1 ++ (t1 ++ t2) := pf.subset List.mem_cons_self
      have mA : MutAt H a := ⟨by rw [ha]; trivial, by rw [ha]; exact fun z => by cases z⟩
      have zA : ¬ Fzp B F0 (f1 ++ (t1 ++ t2)) a := fun z => z.2 aF
      have bU := b.upd (o := .lst vs') mA zA n1.2 na.1
      have o1U := o1.upd (o := .lst vs') mA zA hx na.2.2.2.1
      have o2U := o2.upd (o := .lst vs') mA zA ht na.2.2.2.2
      obtain ⟨g3, g4, n3, n4, sb⟩ := gv bU o1U
      -- the new feet
      have sub : Sb (a :: (g3 ++ (fr ++ (fr0 ++ (g4 ++ t2))))) (a :: (fp ++ (fr ++ (fr0 ++ (t1 ++ t2))))) := by
        have s1 : Sb ((g3 ++ g4) ++ (fr ++ (fr0 ++ t2))) ((fp ++ t1) ++ (fr ++ (fr0 ++ t2))) := sb.app (Sb.refl _)
        have q1 : (a :: (g3 ++ (fr ++ (fr0 ++ (g4 ++ t2))))).Perm ([a] ++ ((g3 ++ g4) ++ (fr ++ (fr0 ++ t2)))) := by
          refine List.Perm.cons a ?_
          simp only [List.append_assoc]
          refine List.Perm.append_left g3 ?_
          rw [← List.append_assoc, ← List.append_assoc, ← List.append_assoc, ← List.append_assoc]
          refine List.Perm.append_right t2 ?_
          refine List.Perm.trans List.perm_append_comm ?_
          rw [List.append_assoc]
        have q2 : ([a] ++ ((fp ++ t1) ++ (fr ++ (fr0 ++ t2)))).Perm (a :: (fp ++ (fr ++ (fr0 ++ (t1 ++ t2))))) := by
          refine List.Perm.cons a ?_
          simp only [List.append_assoc]
          refine List.Perm.append_left fp ?_
          rw [← List.append_assoc, ← List.append_assoc, ← List.append_assoc, ← List.append_assoc]
          refine List.Perm.append_right t2 ?_
          refine List.Perm.trans ?_ List.perm_append_comm
          rw [List.append_assoc]
        exact (Sb.of_perm q1).trans (((Sb.refl [a]).app s1).trans (Sb.of_perm q2))
      have sub2 : Sb (a :: (g3 ++ (fr ++ (fr0 ++ (g4 ++ t2))))) (f1 ++ (t1 ++ t2)) := sub.trans (Sb.of_perm pf)
      generalize hfs : a :: (g3 ++ (fr ++ (fr0 ++ (g4 ++ t2)))) = fs at sub2
      have mono : ∀ x, L2.upd H a (.lst vs') x ≠ none → Fzp B F0 (f1 ++ (t1 ++ t2)) x → Fzp B F0 fs x := fun x _ z => ⟨z.1, fun m => z.2 (sub2.mem x m)⟩
      have node : Own G.K G.cl (L2.upd H a (.lst vs')) (Fzp B F0 fs) (.ref a) (.lst .ow xs') ([a] ++ g3) := .lst (.ow upd_same) (n3.keep (Keep.refl _) mono)
      obtain ⟨e1, f1', u1, oN, q1⟩ := k1 a (.lst vs') (Fzp B F0 fs) _ _ mA zA na.2.1 mono node
      obtain ⟨f2', oN2, q2⟩ := k0 a (.lst vs') (Fzp B F0 fs) _ _ mA zA na.2.2.1 mono oN
      have pe : (f2' ++ (g4 ++ t2)).Perm fs := by
        rw [← hfs]
        refine (q2.append_right _).trans ?_
        refine ((q1.append_right fr0).append_right _).trans ?_
        simp only [List.append_assoc, List.singleton_append, List.cons_append, List.nil_append]
        exact List.Perm.refl _
      have mono2 : ∀ x, L2.upd H a (.lst vs') x ≠ none → Fzp B F0 fs x → Fzp B F0 (f2' ++ (g4 ++ t2)) x := fun x _ z => ⟨z.1, fun m => z.2 (pe.subset m)⟩
      refine ⟨e1, u1, ⟨⟨f2', g4 ++ t2, oN2.keep (Keep.refl _) mono2, ((n4.keep (Keep.refl _) mono).append (o2U.keep (Keep.refl _) mono)).keep (Keep.refl _) mono2, pe.nodup_iff.mpr (sub2.nodup nd), fun x hx => qB x (sub2.mem x (pe.subset hx))⟩, kb.mut (qB a aF), Keep.noH _, tb.mut mA⟩⟩
/-- the object at path p of slot i gets new fields -/
theorem Holds.mutf {p : List PEl} {i : Nat} {d : D} {xs : List D} {c : Nat} {ns : List Str} (h : Holds G B F0 noH σ ρ (tx ++ tv) (dx ++ td) H) (ex : tx.length = dx.length) (hi : ρ[i]? = some (some d)) (hc : cleanS ρ = true) (ht : noVws td = true) (hx : noVws dx = true) (hp : subD p d = some (.obj .ow c ns xs)) :
    ∃ v0 a dx' fvs, σ[i]? = some (some v0) ∧ reach H p v0 (.ref a) ∧ H a = some (.ins (G.cl c) dx' fvs) ∧ ns = fvs.map (·.1) ∧ fvs.length = xs.length ∧ noVws xs = true ∧
      ∀ (fvs' : List (Str × V)) (ty : List V) (xs' dy : List D), (∀ {H' : Hp} {Fz : Addr → Prop} {g g2 : List Addr}, Owns G.K G.cl H' Fz (fvs.map (·.2)) xs g → Owns G.K G.cl H' Fz tx dx g2 → ∃ g3 g4, Owns G.K G.cl H' Fz (fvs'.map (·.2)) xs' g3 ∧ Owns G.K G.cl H' Fz ty dy g4 ∧ Sb (g3 ++ g4) (g ++ g2)) →
        ∃ d', updD p d (.obj .ow c (fvs'.map (·.1)) xs') = some d' ∧ Holds G B F0 noH σ (ρ.set i (some d')) (ty ++ tv) (dy ++ td) (L2.upd H a (.ins (G.cl c) dx' fvs')) := by
  obtain ⟨⟨f1, f2, oS, oT, nd, qB⟩, kb, kl, tb⟩ := h
  obtain ⟨t1, t2, o1, o2, rfl⟩ := oT.split ex
  obtain ⟨v0, g0, fr0, e0, w0, p0, n0, k0⟩ := oS.at hi hc
  obtain ⟨w, g, fr, r, w1, p1, n1, k1⟩ := w0.focus p hp n0
  cases w1 with
  | @obj _ _ a _ vs _ f0 fp ha b =>
    cases ha with
    | @ow _ _ dx' fvs ha =>
      simp only [noVw, Bool.and_eq_true] at n1
      refine ⟨v0, a, dx', fvs, e0, r, ha, rfl, by simpa using b.length, n1.2, fun fvs' ty xs' dy gv => ?_⟩
      -- all the feet, in order
      have pf : (a :: (fp ++ (fr ++ (fr0 ++ (t1 ++ t2))))).Perm (f1 ++ (t1 ++ t2)) := by
        refine List.Perm.trans ?_ (p0.append_right (t1 ++ t2))
        refine List.Perm.trans ?_ ((p1.append_right fr0).append_right (t1 ++ t2))
        simp only [List.append_assoc, List.singleton_append, List.cons_append, List.nil_append]
        exact List.Perm.refl _
      have nd2 := pf.nodup_iff.mpr nd
      have na := (List.nodup_cons.mp nd2).1
      simp only [List.mem_append, not_or] at na
      have aF : a ∈ f1 ++ (t1 ++ t2) := pf.subset List.mem_cons_self
      have mA : MutAt H a := ⟨by rw [ha]; trivial, by rw [ha]; exact fun z => by cases z⟩
      have zA : ¬ Fzp B F0 (f1 ++ (t1 ++ t2)) a := fun z => z.2 aF
      have bU := b.upd (o := .ins (G.cl c) dx' fvs') mA zA n1.2 na.1
      have o1U := o1.upd (o := .ins (G.cl c) dx' fvs') mA zA hx na.2.2.2.1
      have o2U := o2.upd (o := .ins (G.cl c) dx' fvs') mA zA ht na.2.2.2.2
      obtain ⟨g3, g4, n3, n4, sb⟩ := gv bU o1U
      -- the new feet
      have sub : Sb (a :: (g3 ++ (fr ++ (fr0 ++ (g4 ++ t2))))) (a :: (fp ++ (fr ++ (fr0 ++ (t1 ++ t2))))) := by
        have s1 : Sb ((g3 ++ g4) ++ (fr ++ (fr0 ++ t2))) ((fp ++ t1) ++ (fr ++ (fr0 ++ t2))) := sb.app (Sb.refl _)
        have q1 : (a :: (g3 ++ (fr ++ (fr0 ++ (g4 ++ t2))))).Perm ([a] ++ ((g3 ++ g4) ++ (fr ++ (fr0 ++ t2)))) := by
          refine List.Perm.cons a ?_
          simp only [List.append_assoc]
          refine List.Perm.append_left g3 ?_
          rw [← List.append_assoc, ← List.append_assoc, ← List.append_assoc, ← List.append_assoc]
          refine List.Perm.append_right t2 ?_
          refine List.Perm.trans List.perm_append_comm ?_
          rw [List.append_assoc]
        have q2 : ([a] ++ ((fp ++ t1) ++ (fr ++ (fr0 ++ t2)))).Perm (a :: (fp ++ (fr ++ (fr0 ++ (t1 ++ t2))))) := by
          refine List.Perm.cons a ?_
          simp only [List.append_assoc]
          refine List.Perm.append_left fp ?_
          rw [← List.append_assoc, ← List.append_assoc, ← List.append_assoc, ← List.append_assoc]
          refine List.Perm.append_right t2 ?_
          refine List.Perm.trans ?_ List.perm_append_comm
          rw [List.append_assoc]
        exact (Sb.of_perm q1).trans (((Sb.refl [a]).app s1).trans (Sb.of_perm q2))
      have sub2 : Sb (a :: (g3 ++ (fr ++ (fr0 ++ (g4 ++ t2))))) (f1 ++ (t1 ++ t2)) := sub.trans (Sb.of_perm pf)
      generalize hfs : a :: (g3 ++ (fr ++ (fr0 ++ (g4 ++ t2)))) = fs at sub2
      have mono : ∀ x, L2.upd H a (.ins (G.cl c) dx' fvs') x ≠ none → Fzp B F0 (f1 ++ (t1 ++ t2)) x → Fzp B F0 fs x := fun x _ z => ⟨z.1, fun m => z.2 (sub2.mem x m)⟩
      have node : Own G.K G.cl (L2.upd H a (.ins (G.cl c) dx' fvs')) (Fzp B F0 fs) (.ref a) (.obj .ow c (fvs'.map (·.1)) xs') ([a] ++ g3) := .obj (.ow upd_same) (n3.keep (Keep.refl _) mono)
      obtain ⟨e1, f1', u1, oN, q1⟩ := k1 a (.ins (G.cl c) dx' fvs') (Fzp B F0 fs) _ _ mA zA na.2.1 mono node
      obtain ⟨f2', oN2, q2⟩ := k0 a (.ins (G.cl c) dx' fvs') (Fzp B F0 fs) _ _ mA zA na.2.2.1 mono oN
      have pe : (f2' ++ (g4 ++ t2)).Perm fs := by
        rw [← hfs]
        refine (q2.append_right _).trans ?_
        refine ((q1.append_right fr0).append_right _).trans ?_
        simp only [List.append_assoc, List.singleton_append, List.cons_append, List.nil_append]
        exact List.Perm.refl _
      have mono2 : ∀ x, L2.upd H a (.ins (G.cl c) dx' fvs') x ≠ none → Fzp B F0 fs x → Fzp B F0 (f2' ++ (g4 ++ t2)) x := fun x _ z => ⟨z.1, fun m => z.2 (pe.subset m)⟩
      refine ⟨e1, u1, ⟨⟨f2', g4 ++ t2, oN2.keep (Keep.refl _) mono2, ((n4.keep (Keep.refl _) mono).append (o2U.keep (Keep.refl _) mono)).keep (Keep.refl _) mono2, pe.nodup_iff.mpr (sub2.nodup nd), fun x hx => qB x (sub2.mem x (pe.subset hx))⟩, kb.mut (qB a aF), Keep.noH _, tb.mut mA⟩⟩
end
end Pu

set_option Elab.async false
set_option linter.all false
set_option maxRecDepth 100000
set_option maxHeartbeats 1000000
/-! Pu15: statements and their meaning over data. -/
namespace Pu
open PySem PySem.Spec PyProof.Rows L2
inductive Pt | ix (e : Ex) | fl (x : Str)
/-- an expression of an except suite -/
inductive Xb where
  | var (i : Nat)
  | bl (b : Bool)
  | isE (ys ns : List Nat)
  | not (a : Xb)
  | and (a b : Xb)
def evX (x : Exn) : Xb → List (Option D) → Out D
  | .var i, ρ => match ρ[i]? with
    | some (some d) => .ok (vwD d)
    | _ => .bad
  | .bl b, _ => .ok (.bl b)
  | .isE ys ns, _ => if x.c ∈ ys then .ok (.bl true) else if x.c ∈ ns then .ok (.bl false) else .bad
  | .not a, ρ => (evX x a ρ).bind fun d => (Out.ofo (truD d)).bind fun b => .ok (.bl (!b))
  | .and a b, ρ => (evX x a ρ).bind fun d => (Out.ofo (truD d)).bind fun t => if t = true then evX x b ρ else .ok d
/-! ### what such an expression comes to -/
inductive OutX (α : Type) | ok (a : α) (ρ : List (Option D)) | ex (x : Exn) (ρ : List (Option D)) | bad
abbrev OutE := OutX D
def OutX.bind {α β : Type} (o : OutX α) (f : α → List (Option D) → OutX β) : OutX β := match o with
  | .ok a ρ => f a ρ
  | .ex x ρ => .ex x ρ
  | .bad => .bad
/-- an outcome that leaves the slots as they are -/
def Out.toX {α : Type} (o : Out α) (ρ : List (Option D)) : OutX α := match o with
  | .ok a => .ok a ρ
  | .exc x => .ex x ρ
  | .bad => .bad
def OutX.chk {α : Type} (b : Bool) (o : OutX α) : OutX α := if b = true then o else .bad
/-- an argument: a value, or a part of a slot that the callee may change -/
inductive Ar | pu (e : Ex) | mu (i : Nat) (p : List Pt)
mutual
inductive Xe where
  | pu (e : Ex)
  | pop (i : Nat) (p : List Pt) (es : List Ex)
  | call (j : Nat) (as : List Ar)
  | meth (c j : Nat) (m : Str) (i : Nat) (p : List Pt) (as : List Ar)
  | cmp (o : Cop) (a : Xe) (b : Ex)
  | cmpX (o : Cop) (a b : Xe)
  | bi (f : Bi) (a : Xe)
  | idx (a : Xe) (e : Ex)
  | comp (own : List Nat) (a : Xe) (t : Tg) (it : It) (c : Xt)
  | tup1 (e : Ex) (a : Xe)
inductive Xt where
  | pu (e : Ex)
  | val (a : Xe)
  | not (a : Xt)
  | and (a b : Xt)
  | or (a b : Xt)
end
inductive Sm where
  | set (t : Tg) (e : Ex)
  | par (i j : Nat) (a b : Ex)
  | exp (e : Ex)
  | ret (e : Ex)
  | rtv (i : Nat)
  | rtn
  | ite (c : Ex) (a b : List Sm)
  | fr (t : Tg) (it : It) (b : List Sm)
  | app (i : Nat) (p : List Pt) (e : Ex)
  | popd (i : Nat) (p : List Pt) (e : List Ex)
  | setI (i : Nat) (p : List Pt) (k : Ex) (e : Ex)
  | setF (i : Nat) (p : List Pt) (f : Str) (e : Ex)
  | skip | brk | cnt
  | nev
  | rais (c : Nat)
  | tr (b : List Sm) (i : Nat) (cs : List Nat) (x : Xb)
  | appX (i : Nat) (e : Xe)
  | setX (i : Nat) (e : Xe)
  | expX (e : Xe)
  | retX (e : Xe)
  | iteX (c : Xt) (a b : List Sm)
  | wh (c : Xt) (b : List Sm)
  | setFX (i : Nat) (p : List Pt) (f : Str) (e : Xe)
  | aug (i : Nat) (e : Ex)
/-- what a block comes to -/
inductive Re | nx (ρ : List (Option D)) | rt (d : D) (ρ : List (Option D)) | bk (ρ : List (Option D)) | ct (ρ : List (Option D)) | ex (x : Exn) (ρ : List (Option D)) | bad
def Out.re {α : Type} (o : Out α) (ρ : List (Option D)) (f : α → Re) : Re := match o with
  | .ok a => f a
  | .exc x => .ex x ρ
  | .bad => .bad
def Re.seq (r : Re) (f : List (Option D) → Re) : Re := match r with
  | .nx ρ => f ρ
  | r => r
/-! ### the names an expression speaks of -/
mutual
def fvs : Ex → List Nat
  | .var i => [i]
  | .non => [] | .bl _ => [] | .int _ => [] | .str _ => [] | .gl _ => []
  | .bin _ a b => fvs a ++ fvs b
  | .neg a => fvs a
  | .not a => fvs a
  | .cmp _ a b => fvs a ++ fvs b
  | .chn _ _ a b c => fvs a ++ (fvs b ++ fvs c)
  | .and a b => fvs a ++ fvs b
  | .or a b => fvs a ++ fvs b
  | .ife c a b => fvs c ++ (fvs a ++ fvs b)
  | .tup es => fvss es
  | .lst es => fvss es
  | .idx a i => fvs a ++ fvs i
  | .slc a l h => fvs a ++ (fvss l ++ fvss h)
  | .rev a => fvs a
  | .bi _ es => fvss es
  | .isi a _ => fvs a
  | .call _ es => fvss es
  | .mk _ _ es => fvss es
  | .meth _ _ _ a es => fvs a ++ fvss es
  | .fld a _ => fvs a
  | .comp _ e _ it cs => fvs e ++ (fvI it ++ fvss cs)
  | .gen _ _ e _ it => fvs e ++ fvI it
  | .fst es => fvss es
  | .stl e es => fvs e ++ fvss es
  | .m1 _ a e => fvs a ++ fvs e
  | .st2 a b => fvs a ++ fvs b
def fvss : List Ex → List Nat
  | [] => []
  | e :: es => fvs e ++ fvss es
def fvI : It → List Nat
  | .of e => fvs e
  | .rng es => fvss es
  | .enum e => fvs e
  | .zip es => fvss es
  | .rvd e => fvs e
end
/-- slots settled -/
def frz1 (i : Nat) (ρ : List (Option D)) : List (Option D) := match ρ[i]? with
  | some (some d) => ρ.set i (some (fzD d))
  | _ => ρ
def frzs (pi : List Nat) (is : List Nat) (ρ : List (Option D)) : List (Option D) := is.foldr (fun i r => if i ∈ pi then r else frz1 i r) ρ
section
variable (Φ : Nat → List D → Out (D × List D)) (gv : Nat → D) (pi : List Nat)
/-- what is to be settled ahead of e, that its value be clean -/
def prep (e : Ex) (ρ : List (Option D)) : List (Option D) := match ev Φ gv e ρ with
  | .ok d => if noVw d = true then ρ else frzs pi (fvs e) ρ
  | .bad => frzs pi (fvs e) ρ
  | .exc _ => ρ
def prepI (it : It) (ρ : List (Option D)) : List (Option D) := match evIt Φ gv it ρ with
  | .ok r => if r.2 = true ∧ noVws r.1 = true then ρ else frzs pi (fvI it) ρ
  | .bad => frzs pi (fvI it) ρ
  | .exc _ => ρ
/-- a clean value to a target -/
def bindC (t : Tg) (d : D) (ρ : List (Option D)) : Re := if noVw d = true then (match bindTg t d ρ with | .ok ρ' => .nx ρ' | _ => .bad) else .bad
def loopF (f : D → List (Option D) → Re) : List D → List (Option D) → Re
  | [], ρ => .nx ρ
  | x :: xs, ρ => match f x ρ with
    | .nx ρ' => loopF f xs ρ'
    | .ct ρ' => loopF f xs ρ'
    | .bk ρ' => .nx ρ'
    | r => r
/-- a path's own parts -/
def evp : List Pt → List (Option D) → D → Out (List PEl)
  | [], _, _ => .ok []
  | .ix e :: p, ρ, .lst .ow xs => (ev Φ gv e ρ).bind fun k => match k with
    | .int k => (match ixN xs.length k with
      | some j => (match xs[j]? with
        | some d => (evp p ρ d).bind fun q => .ok (.ix j :: q)
        | none => .bad)
      | none => .bad)
    | _ => .bad
  | .fl x :: p, ρ, .obj .ow _ ns xs => (match fIx x ns with
    | some j => (match xs[j]? with
      | some d => (evp p ρ d).bind fun q => .ok (.fl x :: q)
      | none => .bad)
    | none => .bad)
  | _ :: _, _, _ => .bad
def slotD (ρ : List (Option D)) (i : Nat) : Out D := match ρ[i]? with | some (some d) => .ok d | _ => .bad
/-- slot i's part at q, changed -/
def putAt (ρ : List (Option D)) (i : Nat) (q : List PEl) (d' : D) : Re := match ρ[i]? with
  | some (some d) => (match updD q d d' with | some e => .nx (ρ.set i (some e)) | none => .bad)
  | _ => .bad
def subAt (ρ : List (Option D)) (i : Nat) (q : List PEl) : Option D := match ρ[i]? with
  | some (some d) => subD q d
  | _ => none
def popK (xs : List D) : List D → Option Nat
  | [] => if xs.isEmpty then none else some (xs.length - 1)
  | [.int k] => if k.natAbs < 4611686018427387904 then seqIndex? k xs.length else none
  | _ => none
def putN (f : Str) (y : D) : List Str → List D → List Str × List D
  | n :: ns, x :: xs => if n = f then (n :: ns, y :: xs) else let r := putN f y ns xs; (n :: r.1, x :: r.2)
  | ns, xs => (ns ++ [f], xs ++ [y])
end
/-! ### what changes slots -/
section
variable (Φ : Nat → List D → Out (D × List D)) (gv : Nat → D)
def arFvs : Ar → List Nat
  | .pu _ => []
  | .mu i _ => [i]
/-- the slots that a call may change -/
def muS : List Ar → List Nat
  | [] => []
  | .pu _ :: as => muS as
  | .mu i _ :: as => i :: muS as
def prepAs (pi : List Nat) : List Ar → List (Option D) → List (Option D)
  | [], ρ => ρ
  | .pu e :: as, ρ => prepAs pi as (prep Φ gv pi e ρ)
  | .mu _ _ :: as, ρ => prepAs pi as ρ
/-- the arguments as the callee sees them, and where those lie that it may change -/
def evA : List Ar → List (Option D) → Out (List D × List (Nat × List PEl))
  | [], _ => .ok ([], [])
  | .pu e :: as, ρ => (ev Φ gv e ρ).bind fun d => .chk (noVw d) ((evA as ρ).bind fun r => .ok (fzD d :: r.1, r.2))
  | .mu i p :: as, ρ => (slotD ρ i).bind fun d => (evp Φ gv p ρ d).bind fun q => match subD q d with
    | some d1 => (evA as ρ).bind fun r => .ok (d1 :: r.1, (i, q) :: r.2)
    | none => .bad
def putM : List (Nat × List PEl) → List D → List (Option D) → Option (List (Option D))
  | [], [], ρ => some ρ
  | m :: ms, d :: ds, ρ => match ρ[m.1]? with
    | some (some e) => (match updD m.2 e d with | some e' => putM ms ds (ρ.set m.1 (some e')) | none => none)
    | _ => none
  | _, _, _ => none
/-- the call of j, by arguments and places -/
def callM (j : Nat) (r : List D × List (Nat × List PEl)) (ρ : List (Option D)) : OutE := if (r.2.map (·.1)).Nodup then (match Φ j r.1 with
  | .ok (v, ds) => if noVw v = true ∧ noVws ds = true then (match putM r.2 ds ρ with | some ρ' => .ok v ρ' | none => .bad) else .bad
  | .exc x => if noVws x.ms = true then (match putM r.2 x.ms ρ with | some ρ' => .ex { x with ms := [] } ρ' | none => .bad) else .bad
  | .bad => .bad) else .bad
/-- an object of class c without a field m -/
def selfOk (c : Nat) (m : Str) : D → Bool
  | .obj _ c' ns _ => decide (c' = c) && decide (m ∉ ns)
  | _ => false
def evS (c : Nat) (m : Str) (i : Nat) (p : List Pt) (ρ : List (Option D)) : Out (D × List PEl) := (slotD ρ i).bind fun d => (evp Φ gv p ρ d).bind fun q => match subD q d with
  | some d1 => .chk (selfOk c m d1) (.ok (d1, q))
  | none => .bad
/-- a list made by a loop that changes slots -/
def loopC (f : D → List (Option D) → OutX (Option D)) : List D → List (Option D) → OutX (List D)
  | [], ρ => .ok [] ρ
  | x :: xs, ρ => match f x ρ with
    | .ok o ρ' => (match loopC f xs ρ' with
      | .ok ys ρ2 => .ok (match o with | some y => y :: ys | none => ys) ρ2
      | _ => .bad)
    | _ => .bad
mutual
def evE (pi : List Nat) : Xe → List (Option D) → OutE
  | .pu e, ρ => ((ev Φ gv e (prep Φ gv pi e ρ)).bind fun d => .chk (noVw d) (.ok d)).toX (prep Φ gv pi e ρ)
  | .pop i p es, ρ => match (slotD ρ i).bind fun d => evp Φ gv p ρ d with
    | .ok q => (match subAt ρ i q with
      | some (.lst .ow xs) => (match evs Φ gv es ρ with
        | .ok ks => (match popK xs ks with
          | some k => (match xs[k]?, putAt ρ i q (.lst .ow (xs.eraseIdx k)) with
            | some y, .nx ρ' => .ok y ρ'
            | _, _ => .bad)
          | none => .bad)
        | _ => .bad)
      | _ => .bad)
    | _ => .bad
  | .call j as, ρ => ((evA Φ gv as (prepAs Φ gv (muS as ++ pi) as ρ)).toX (prepAs Φ gv (muS as ++ pi) as ρ)).bind fun r ρ' => callM Φ j r ρ'
  | .meth c j m i p as, ρ => (((evS Φ gv c m i p (prepAs Φ gv (i :: muS as ++ pi) as ρ)).bind fun s => (evA Φ gv as (prepAs Φ gv (i :: muS as ++ pi) as ρ)).bind fun r => .ok (s.1 :: r.1, (i, s.2) :: r.2)).toX (prepAs Φ gv (i :: muS as ++ pi) as ρ)).bind fun r ρ' => callM Φ j r ρ'
  | .cmp o a b, ρ => (evE pi a ρ).bind fun x ρ' => ((ev Φ gv b ρ').bind fun y => (Out.ofo (cmpB o x y)).bind fun t => .ok (.bl t)).toX ρ'
  | .cmpX o a b, ρ => (evE pi a ρ).bind fun x ρ' => (evE pi b ρ').bind fun y ρ2 => ((Out.ofo (cmpB o x y)).bind fun t => .ok (.bl t)).toX ρ2
  | .bi f a, ρ => (evE pi a ρ).bind fun x ρ' => ((biD f [x]).bind fun d => .chk (noVw d) (.ok d)).toX ρ'
  | .idx a e, ρ => (evE pi a ρ).bind fun x ρ' => ((ev Φ gv e ρ').bind fun y => (idxD x y).bind fun d => .chk (noVw d) (.ok d)).toX ρ'
  | .tup1 e a, ρ => ((ev Φ gv e (prep Φ gv pi e ρ)).bind fun d => .chk (noVw d) (.ok d)).toX (prep Φ gv pi e ρ) |>.bind fun x ρ' => (evE pi a ρ').bind fun y ρ2 => .ok (.tup [x, y]) ρ2
  | .comp own a t it c, ρ => match evIt Φ gv it (prepI Φ gv pi it ρ) with
    | .ok r => if r.2 = true ∧ noVws r.1 = true then (loopC (fun x ρ => match bindTg t x (wipeD ρ own) with
        | .ok ρ1 => (match evT pi c ρ1 with
          | .ok b ρ2 => if b = true then (match evE pi a ρ2 with | .ok y ρ3 => .ok (some y) ρ3 | _ => .bad) else .ok none ρ2
          | _ => .bad)
        | _ => .bad) r.1 (prepI Φ gv pi it ρ)).bind fun ys ρ' => if ys.length ≤ sizeLine then .ok (.lst .ow ys) (wipeD ρ' own) else .bad
      else .bad
    | _ => .bad
def evT (pi : List Nat) : Xt → List (Option D) → OutX Bool
  | .pu e, ρ => ((ev Φ gv e ρ).bind fun d => Out.ofo (truD d)).toX ρ
  | .val a, ρ => (evE pi a ρ).bind fun d ρ' => (Out.ofo (truD d)).toX ρ'
  | .not a, ρ => (evT pi a ρ).bind fun b ρ' => .ok (!b) ρ'
  | .and a b, ρ => (evT pi a ρ).bind fun t ρ' => if t = true then evT pi b ρ' else .ok false ρ'
  | .or a b, ρ => (evT pi a ρ).bind fun t ρ' => if t = true then .ok true ρ' else evT pi b ρ'
end
end
def whFuel : Nat := 1000000
/-- a loop by its test -/
def loopW (f : List (Option D) → OutX Bool) (g : List (Option D) → Re) : Nat → List (Option D) → Re
  | 0, _ => .bad
  | n + 1, ρ => match f ρ with
    | .ok true ρ' => (match g ρ' with
      | .nx ρ2 => loopW f g n ρ2
      | .ct ρ2 => loopW f g n ρ2
      | .bk ρ2 => .nx ρ2
      | r => r)
    | .ok false ρ' => .nx ρ'
    | .ex x ρ' => .ex x ρ'
    | .bad => .bad
section
variable (Φ : Nat → List D → Out (D × List D)) (gv : Nat → D) (pi : List Nat)
mutual
def run1 : Sm → List (Option D) → Re
  | .set t e, ρ => (ev Φ gv e (prep Φ gv pi e ρ)).re (prep Φ gv pi e ρ) fun d => bindC t d (prep Φ gv pi e ρ)
  | .par i j a b, ρ => (evs Φ gv [a, b] (prep Φ gv pi (.tup [a, b]) ρ)).re (prep Φ gv pi (.tup [a, b]) ρ) fun ds => match ds with
    | [x, y] => if noVw x = true ∧ noVw y = true ∧ i < (prep Φ gv pi (.tup [a, b]) ρ).length ∧ j < (prep Φ gv pi (.tup [a, b]) ρ).length then .nx (((prep Φ gv pi (.tup [a, b]) ρ).set i (some x)).set j (some y)) else .bad
    | _ => .bad
  | .exp e, ρ => (ev Φ gv e ρ).re ρ fun _ => .nx ρ
  | .ret e, ρ => (ev Φ gv e (prep Φ gv pi e ρ)).re (prep Φ gv pi e ρ) fun d => if noVw d = true then .rt d (prep Φ gv pi e ρ) else .bad
  | .rtv i, ρ => match ρ[i]? with
    | some (some d) => .rt d (ρ.set i none)
    | _ => .bad
  | .rtn, ρ => .rt .non ρ
  | .ite c a b, ρ => (((ev Φ gv c ρ).bind fun d => Out.ofo (truD d))).re ρ fun k => if k = true then runs a ρ else runs b ρ
  | .fr t it b, ρ => (evIt Φ gv it (prepI Φ gv pi it ρ)).re (prepI Φ gv pi it ρ) fun r => if r.2 = true then loopF (fun x ρ => (bindC t x ρ).seq fun ρ' => runs b ρ') r.1 (prepI Φ gv pi it ρ) else .bad
  | .app i p e, ρ => ((slotD (prep Φ gv pi e ρ) i).bind fun d => evp Φ gv p (prep Φ gv pi e ρ) d).re (prep Φ gv pi e ρ) fun q => match subAt (prep Φ gv pi e ρ) i q with
    | some (.lst .ow xs) => (ev Φ gv e (prep Φ gv pi e ρ)).re (prep Φ gv pi e ρ) fun y => if noVw y = true ∧ xs.length < sizeLine then putAt (prep Φ gv pi e ρ) i q (.lst .ow (xs ++ [y])) else .bad
    | _ => .bad
  | .popd i p es, ρ => ((slotD ρ i).bind fun d => evp Φ gv p ρ d).re ρ fun q => match subAt ρ i q with
    | some (.lst .ow xs) => (evs Φ gv es ρ).re ρ fun ks => (match popK xs ks with
      | some k => putAt ρ i q (.lst .ow (xs.eraseIdx k))
      | none => .bad)
    | _ => .bad
  | .setI i p k e, ρ => (ev Φ gv e (prep Φ gv pi e ρ)).re (prep Φ gv pi e ρ) fun y => ((slotD (prep Φ gv pi e ρ) i).bind fun d => evp Φ gv p (prep Φ gv pi e ρ) d).re (prep Φ gv pi e ρ) fun q => (ev Φ gv k (prep Φ gv pi e ρ)).re (prep Φ gv pi e ρ) fun z => match subAt (prep Φ gv pi e ρ) i q, z with
    | some (.lst .ow xs), .int k => (match ixN xs.length k with
      | some j => if noVw y = true then putAt (prep Φ gv pi e ρ) i q (.lst .ow (xs.set j y)) else .bad
      | none => .bad)
    | _, _ => .bad
  | .setF i p f e, ρ => (ev Φ gv e (prep Φ gv pi e ρ)).re (prep Φ gv pi e ρ) fun y => ((slotD (prep Φ gv pi e ρ) i).bind fun d => evp Φ gv p (prep Φ gv pi e ρ) d).re (prep Φ gv pi e ρ) fun q => match subAt (prep Φ gv pi e ρ) i q with
    | some (.obj .ow c ns xs) => if noVw y = true ∧ xs.length < 1000 then putAt (prep Φ gv pi e ρ) i q (.obj .ow c (putN f y ns xs).1 (putN f y ns xs).2) else .bad
    | _ => .bad
  | .skip, ρ => .nx ρ
  | .brk, ρ => .bk ρ
  | .cnt, ρ => .ct ρ
  | .nev, _ => .bad
  | .rais c, ρ => .ex ⟨c, [], [], []⟩ ρ
  | .tr b i cs x, ρ => match runs b ρ with
    | .ex y ρ' => if y.c ∈ cs ∧ y.ns = [] ∧ i < ρ'.length then (match evX y x (ρ'.set i none) with
      | .ok v => if noVw v = true then .rt v (ρ'.set i none) else .bad
      | _ => .bad) else .bad
    | r => r
  | .appX i e, ρ => match ρ[i]? with
    | some (some (.lst .ow _)) => (match evE Φ gv pi e ρ with
      | .ok d ρ' => (match ρ'[i]? with
        | some (some (.lst .ow xs)) => if xs.length < sizeLine then .nx (ρ'.set i (some (.lst .ow (xs ++ [d])))) else .bad
        | _ => .bad)
      | .ex x ρ' => .ex x ρ'
      | .bad => .bad)
    | _ => .bad
  | .setX i e, ρ => match evE Φ gv pi e ρ with
    | .ok d ρ' => if i < ρ'.length then .nx (ρ'.set i (some d)) else .bad
    | .ex x ρ' => .ex x ρ'
    | .bad => .bad
  | .expX e, ρ => match evE Φ gv pi e ρ with
    | .ok _ ρ' => .nx ρ'
    | .ex x ρ' => .ex x ρ'
    | .bad => .bad
  | .retX e, ρ => match evE Φ gv pi e ρ with
    | .ok d ρ' => .rt d ρ'
    | .ex x ρ' => .ex x ρ'
    | .bad => .bad
  | .iteX c a b, ρ => match evT Φ gv pi c ρ with
    | .ok t ρ' => if t = true then runs a ρ' else runs b ρ'
    | .ex x ρ' => .ex x ρ'
    | .bad => .bad
  | .wh c b, ρ => loopW (evT Φ gv pi c) (runs b) whFuel ρ
  | .setFX i p f e, ρ => match evE Φ gv pi e ρ with
    | .ok y ρ' => ((slotD ρ' i).bind fun d => evp Φ gv p ρ' d).re ρ' fun q => (match subAt ρ' i q with
      | some (.obj .ow c ns xs) => if xs.length < 1000 then putAt ρ' i q (.obj .ow c (putN f y ns xs).1 (putN f y ns xs).2) else .bad
      | _ => .bad)
    | .ex x ρ' => .ex x ρ'
    | .bad => .bad
  | .aug i e, ρ => match ρ[i]? with
    | some (some (.int a)) => (ev Φ gv e ρ).re ρ fun d => (match d with
      | .int b => .nx (ρ.set i (some (.int (a + b))))
      | _ => .bad)
    | _ => .bad
def runs : List Sm → List (Option D) → Re
  | [], ρ => .nx ρ
  | s :: ss, ρ => (run1 s ρ).seq fun ρ' => runs ss ρ'
end
end

/-! ### what the machine is asked -/
structure CtxS (C : Cf) (k : Nat) (N : List Str) (sc : Scope) (st : List Str) (X : Cx) (W : WX) : Prop where
  ok : CtxOk C k N sc st X W
  own : PassesOwn (model X.prog X.w) X.A X.env X.xe
  stk : X.stack = X.env :: X.outer
  frm : X.env.frame = some X.env.locals
section
variable (C : Cf) (B : Hp) (F0 : Addr → Prop) (tv : List V) (td : List D) (pi : List Nat) (pv : List (Option (Option V)))
def S8 (ρ : List (Option D)) (P : L2.St → Hp → Prop) : Prop := ∀ σ' H', Holds C.G B F0 noH σ' ρ tv td H' → cleanS ρ = true → pi.map (fun i => σ'[i]?) = pv → P σ' H'
def WR (W : WX) (E : Ends) : Re → Prop
  | .nx ρ => S8 C B F0 tv td pi pv ρ E.nx
  | .bk ρ => S8 C B F0 tv td pi pv ρ E.bk
  | .ct ρ => S8 C B F0 tv td pi pv ρ E.ct
  | .rt d ρ => ∀ v σ' H', Holds C.G B F0 noH σ' ρ (v :: tv) (d :: td) H' → cleanS (ρ) = true → noVw d = true → pi.map (fun i => σ'[i]?) = pv → E.rt v H'
  | .ex x ρ => ∀ σ' H', Holds C.G B F0 noH σ' ρ tv td H' → cleanS ρ = true → pi.map (fun i => σ'[i]?) = pv → ∀ cls dx, ExR C.G H' x cls dx → W cls dx σ' H'
  | .bad => False
end
def tR (C : Cf) (pi : List Nat) (f : List (Option D) → Re) (W : WX) : TS := fun E σ H => ∃ B F0 ρ tv td pv, Holds C.G B F0 noH σ ρ tv td H ∧ cleanS ρ = true ∧ noVws td = true ∧ pi.map (fun i => σ[i]?) = pv ∧ WR C B F0 tv td pi pv W E (f ρ)
def S1 (C : Cf) (k : Nat) (N : List Str) (sc : Scope) (st : List Str) (pi : List Nat) (s : Stmt) (m : Sm) : Prop := ∀ X W, CtxS C k N sc st X W → PS X s (tR C pi (run1 C.Φ C.gv pi m) W)
def SS (C : Cf) (k : Nat) (N : List Str) (sc : Scope) (st : List Str) (pi : List Nat) (ss : List Stmt) (ms : List Sm) : Prop := ∀ X W, CtxS C k N sc st X W → PSs X ss (tR C pi (runs C.Φ C.gv pi ms) W)
theorem PS.imp {X : Cx} {e : Stmt} {t t' : TS} (h : PS X e t) (k : ∀ E σ H, t' E σ H → t E σ H) : PS X e t' := ⟨fun pins s σ H E I q => h.run pins s σ H E I (k _ _ _ q)⟩
theorem PSs.imp {X : Cx} {e : List Stmt} {t t' : TS} (h : PSs X e t) (k : ∀ E σ H, t' E σ H → t E σ H) : PSs X e t' := ⟨fun pins s σ H E I q => h.run pins s σ H E I (k _ _ _ q)⟩
section
variable {C : Cf} {k : Nat} {N : List Str} {sc : Scope} {st : List Str} {pi : List Nat} {B : Hp} {F0 : Addr → Prop} {tv : List V} {td : List D} {pv : List (Option (Option V))} {W : WX} {E E' : Ends} {r : Re}
theorem WR.seq {f : List (Option D) → Re} (h : WR C B F0 tv td pi pv W E (r.seq f)) (n : noVws td = true) : WR C B F0 tv td pi pv W { E with nx := tR C pi f W E } r := by
  cases r with
  | nx ρ => exact fun σ' H' h1 h2 h3 => ⟨B, F0, ρ, tv, td, pv, h1, h2, n, h3, h⟩
  | bk ρ => exact h
  | ct ρ => exact h
  | rt d ρ => exact h
  | ex x ρ => exact h
  | bad => exact h
theorem ss_z : SS C k N sc st pi [] [] := fun X W hX => PSs.imp pss_nil fun E σ H ⟨B, F0, ρ, tv, td, pv, h, c, n, p, w⟩ => by
  simp only [runs] at w
  exact w σ H h c p
theorem ss_c {s : Stmt} {m : Sm} {ss : List Stmt} {ms : List Sm} (h1 : S1 C k N sc st pi s m) (h2 : SS C k N sc st pi ss ms) : SS C k N sc st pi (s :: ss) (m :: ms) := fun X W hX =>
  PSs.imp (pss_cons (h1 X W hX) (h2 X W hX)) fun E σ H ⟨B, F0, ρ, tv, td, pv, h, c, n, p, w⟩ => by
    simp only [runs] at w
    exact ⟨B, F0, ρ, tv, td, pv, h, c, n, p, w.seq n⟩
/-- an outcome and what follows -/
theorem re_ok {α : Type} {o : Out α} {ρ : List (Option D)} {f : α → Re} {σ : L2.St} (h : WR C B F0 tv td pi pv W E (o.re ρ f)) (c : cleanS ρ = true) (p : pi.map (fun i => σ[i]?) = pv) :
    Wish o (Off C W σ B F0 noH ρ tv td) fun a => WR C B F0 tv td pi pv W E (f a) := by
  cases o with
  | ok a => exact h
  | exc x => exact fun H' h' cls dx er => h σ H' h' c p cls dx er
  | bad => exact h
/-! ### settling ahead -/
theorem Holds.takeS {G : Gb} {Lk H : Hp} {σ : L2.St} {ρ : List (Option D)} {i : Nat} {d : D} (h : Holds G B F0 Lk σ ρ tv td H) (hd : ρ[i]? = some (some d)) : ∃ v, σ[i]? = some (some v) ∧ Holds G B F0 Lk (σ.set i none) (ρ.set i none) (v :: tv) (d :: td) H := by
  obtain ⟨⟨f1, f2, a, b, n, q⟩, kb, kl, tb⟩ := h
  obtain ⟨v, g, f', e1, o, a', p⟩ := a.take (x := none) hd
  have pm : (f' ++ (g ++ f2)).Perm (f1 ++ f2) := by rw [← List.append_assoc]; exact p.append_right f2
  have mono : ∀ a, H a ≠ none → Fzp B F0 (f1 ++ f2) a → Fzp B F0 (f' ++ (g ++ f2)) a := fun a _ z => ⟨z.1, fun m => z.2 (pm.subset m)⟩
  exact ⟨v, e1, ⟨f', g ++ f2, a'.keep (Keep.refl _) mono, .cons (o.keep (Keep.refl _) mono) (b.keep (Keep.refl _) mono), pm.nodup_iff.mpr n, fun p hp => q p (pm.subset hp)⟩, kb, kl, tb⟩
theorem set_same {α : Type} {xs : List α} {i : Nat} {x : α} (h : xs[i]? = some x) : xs.set i x = xs := by
  apply List.ext_getElem?
  intro j
  rw [List.getElem?_set]
  by_cases e : i = j
  · subst e; rw [if_pos rfl, if_pos (List.getElem?_eq_some_iff.mp h).1, h]
  · rw [if_neg e]
theorem Holds.frz1 {G : Gb} {Lk H : Hp} {σ : L2.St} {ρ : List (Option D)} (i : Nat) (h : Holds G B F0 Lk σ ρ tv td H) : Holds G B F0 Lk σ (Pu.frz1 i ρ) tv td H := by
  unfold Pu.frz1
  split
  · rename_i d hd
    obtain ⟨v, e1, h1⟩ := h.takeS hd
    have h2 := h1.frz.set (i := i) (by rw [List.length_set]; exact (List.getElem?_eq_some_iff.mp hd).1)
    rw [List.set_set, List.set_set, set_same e1] at h2
    exact h2
  · exact h
theorem cleanS_set {ρ : List (Option D)} {i : Nat} {o : Option D} (h : cleanS ρ = true) (n : ∀ d, o = some d → noVw d = true) : cleanS (ρ.set i o) = true := by
  unfold cleanS at *
  rw [List.all_eq_true] at *
  intro x hx
  rcases List.mem_or_eq_of_mem_set hx with m | rfl
  · exact h x m
  · cases x with
    | none => rfl
    | some d => exact n d rfl
theorem cleanS_get {ρ : List (Option D)} {i : Nat} {d : D} (h : cleanS ρ = true) (e : ρ[i]? = some (some d)) : noVw d = true := by
  unfold cleanS at h
  rw [List.all_eq_true] at h
  exact h _ (List.mem_of_getElem? e)
theorem clean_frz1 (i : Nat) {ρ : List (Option D)} (c : cleanS ρ = true) : cleanS (Pu.frz1 i ρ) = true := by
  unfold Pu.frz1
  split
  · rename_i d hd
    exact cleanS_set c fun d' e => by cases e; exact noVw_fzD d (cleanS_get c hd)
  · exact c
theorem Holds.frzs {G : Gb} {Lk H : Hp} {σ : L2.St} {ρ : List (Option D)} (pi is : List Nat) (h : Holds G B F0 Lk σ ρ tv td H) : Holds G B F0 Lk σ (Pu.frzs pi is ρ) tv td H := by
  induction is with
  | nil => exact h
  | cons i is ih =>
    show Holds G B F0 Lk σ (if i ∈ pi then Pu.frzs pi is ρ else Pu.frz1 i (Pu.frzs pi is ρ)) tv td H
    split
    · exact ih
    · exact ih.frz1 i
theorem clean_frzs (pi is : List Nat) {ρ : List (Option D)} (c : cleanS ρ = true) : cleanS (Pu.frzs pi is ρ) = true := by
  induction is with
  | nil => exact c
  | cons i is ih =>
    show cleanS (if i ∈ pi then Pu.frzs pi is ρ else Pu.frz1 i (Pu.frzs pi is ρ)) = true
    split
    · exact ih
    · exact clean_frz1 i ih
theorem Holds.prep {Φ gv} {G : Gb} {Lk H : Hp} {σ : L2.St} {ρ : List (Option D)} (e : Ex) (h : Holds G B F0 Lk σ ρ tv td H) (c : cleanS ρ = true) : Holds G B F0 Lk σ (Pu.prep Φ gv pi e ρ) tv td H ∧ cleanS (Pu.prep Φ gv pi e ρ) = true := by
  unfold Pu.prep
  split
  · split
    · exact ⟨h, c⟩
    · exact ⟨h.frzs _ _, clean_frzs _ _ c⟩
  · exact ⟨h.frzs _ _, clean_frzs _ _ c⟩
  · exact ⟨h, c⟩
theorem Holds.prepI {Φ gv} {G : Gb} {Lk H : Hp} {σ : L2.St} {ρ : List (Option D)} (e : It) (h : Holds G B F0 Lk σ ρ tv td H) (c : cleanS ρ = true) : Holds G B F0 Lk σ (Pu.prepI Φ gv pi e ρ) tv td H ∧ cleanS (Pu.prepI Φ gv pi e ρ) = true := by
  unfold Pu.prepI
  split
  · split
    · exact ⟨h, c⟩
    · exact ⟨h.frzs _ _, clean_frzs _ _ c⟩
  · exact ⟨h.frzs _ _, clean_frzs _ _ c⟩
  · exact ⟨h, c⟩
end
end Pu

set_option Elab.async false
set_option linter.all false
set_option maxRecDepth 100000
set_option maxHeartbeats 1000000
/-! Pu16: the statements' rules. -/
namespace Pu
open PySem PySem.Spec PyProof.Rows L2
def nlc : Expr → Bool
  | .ListComp _ _ _ _ => false
  | .SetComp _ _ _ _ => false
  | .DictComp _ _ _ _ _ => false
  | _ => true
theorem nlc_swaps {e : Expr} (h : nlc e = true) (t : Option Expr) (l : Nat) (env : Env) : swapsWith e t l env = pure false := by
  cases e <;> first | rfl | cases h
def ntp : Expr → Bool
  | .Tuple _ _ _ => false
  | _ => true
theorem ntp_swapped {t e : Expr} (h : ntp e = true) (env : Env) : swappedStores [t] e env = pure none := by
  cases e <;> first | (cases t <;> rfl) | cases h
def npl : Expr → Bool
  | .Name _ _ => true
  | .Attribute _ _ _ => true
  | .Subscript _ _ _ => true
  | .Constant _ _ _ => true
  | .Call (.Attribute _ _ _) _ _ _ => true
  | .Call _ (_ :: _) _ _ => true
  | .BinOp _ _ _ _ => true
  | _ => false
theorem npl_base {o : Expr} (h : npl o = true) (a : Str) (env : Env) (w : Sem Value) : attributeBase o a env w = w := by
  cases o <;> first | rfl | (cases h; done) | skip
  rename_i f as ks p
  cases as with
  | cons _ _ => cases f <;> rfl
  | nil => cases f <;> first | rfl | cases h
theorem noVws_app {a b : List D} (h : noVws a = true) (g : noVws b = true) : noVws (a ++ b) = true := by
  rw [noVws_eq] at *
  rw [List.all_append, h, g]; rfl
theorem wipe_out {σ σ' : L2.St} {is pi : List Nat} (h : ∀ vs, (∀ i ∈ is, i ∈ vs) → L2.wipe σ' vs = L2.wipe σ vs) (g : ∀ i ∈ is, i ∉ pi) : pi.map (fun i => σ'[i]?) = pi.map (fun i => σ[i]?) := by
  apply List.map_congr_left
  intro i hi
  have e := congrArg (fun s : L2.St => s[i]?) (h is fun _ z => z)
  simp only [wipe_get] at e
  rwa [if_neg (fun z => g i z hi), if_neg (fun z => g i z hi)] at e
theorem clean_putAll : ∀ {is : List Nat} {xs : List D} {ρ ρ' : List (Option D)}, putAll is xs ρ = .ok ρ' → cleanS ρ = true → noVws xs = true → cleanS ρ' = true
  | [], [], ρ, ρ', h, c, _ => by simp only [putAll, Out.ok.injEq] at h; rw [← h]; exact c
  | [], _ :: _, _, _, h, _, _ => by simp [putAll] at h
  | _ :: _, [], _, _, h, _, _ => by simp [putAll] at h
  | i :: is, x :: xs, ρ, ρ', h, c, n => by
    simp only [putAll, Out.chk] at h
    simp only [noVws, Bool.and_eq_true] at n
    split at h
    · exact clean_putAll h (cleanS_set c fun d e => by cases e; exact n.1) n.2
    · cases h
theorem clean_bind {t : Tg} {d : D} {ρ ρ' : List (Option D)} (h : bindTg t d ρ = .ok ρ') (c : cleanS ρ = true) (n : noVw d = true) : cleanS ρ' = true := by
  cases t with
  | nm i =>
    simp only [bindTg, Out.chk] at h
    split at h
    · simp only [Out.ok.injEq] at h
      rw [← h]
      exact cleanS_set c fun d e => by cases e; exact n
    · cases h
  | tp is =>
    cases d <;> first | (simp [bindTg] at h; done) | exact clean_putAll h c n | (simp only [noVw, Bool.and_eq_true] at n; exact clean_putAll h c n.2)
section
variable {C : Cf} {k : Nat} {N : List Str} {sc : Scope} {st : List Str} {pi : List Nat} {B Lk H : Hp} {F0 : Addr → Prop} {tv : List V} {td : List D} {pv : List (Option (Option V))} {W : WX} {E : Ends} {r : Re} {a b c e o tg iter : Expr} {ia ib ic ie : Ex} {es : List Expr} {ies : List Ex} {t : Tg} {it : It} {pos pos' : Pos} {σ : L2.St} {ρ : List (Option D)} {d : D} {v : V}
/-- the target, in a statement -/
theorem bind_tail {f : List (Option D) → Re} (hp : ∀ i ∈ tgIx t, i ∉ pi) (h : Holds C.G B F0 noH σ ρ (v :: tv) (d :: td) H) (c : cleanS ρ = true) (p : pi.map (fun i => σ[i]?) = pv) (n : noVws td = true)
    (w : WR C B F0 tv td pi pv W E ((bindC t d ρ).seq f)) : tG C t v σ H fun σ2 H2 => tR C pi f W E σ2 H2 := by
  unfold bindC at w
  split at w
  · rename_i nd
    cases hb : bindTg t d ρ with
    | ok ρ' =>
      rw [hb] at w
      refine ⟨B, F0, noH, ρ, tv, td, d, h, ?_⟩
      rw [hb]
      exact fun σ' hs h' => ⟨B, F0, ρ', tv, td, pv, h', clean_bind hb c nd, n, by rw [wipe_out hs hp]; exact p, w⟩
    | exc _ => rw [hb] at w; exact w.elim
    | bad => rw [hb] at w; exact w.elim
  · exact w.elim
theorem set_tail (hp : ∀ i ∈ tgIx t, i ∉ pi) (h : tR C pi (run1 C.Φ C.gv pi (.set t ie)) W E σ H) : tAsg (tE C ie W) (tG C t) E σ H := by
  obtain ⟨B, F0, ρ, tv, td, pv, h, c, n, p, w⟩ := h
  obtain ⟨h', c'⟩ := h.prep (Φ := C.Φ) (gv := C.gv) (pi := pi) ie c
  simp only [run1] at w
  generalize Pu.prep C.Φ C.gv pi ie ρ = ρ1 at h' c' w
  refine ⟨B, F0, noH, ρ1, tv, td, h', (re_ok w c' p).mono (fun _ z => z) fun d hd w1 v H1 h1 => ?_⟩
  have w2 : WR C B F0 tv td pi pv W E ((bindC t d ρ1).seq .nx) := by cases q : bindC t d ρ1 <;> rw [q] at w1 <;> exact w1
  obtain ⟨B', F', L', ρ', tv', td', d', q1, q2⟩ := bind_tail hp h1 c' p n w2
  exact ⟨B', F', L', ρ', tv', td', d', q1, q2.mono (fun _ z => z) fun ρ2 _ q3 σ' hs h' => let ⟨_, _, _, _, _, _, z1, z2, _, z4, z5⟩ := q3 σ' hs h'; z5 σ' H1 z1 z2 z4⟩
theorem t_set (hn : nlc e = true) (hm : ntp e = true) (hp : ∀ i ∈ tgIx t, i ∉ pi) (ha : ∀ env, (assignEach [tg] env).map (·.2) = [assign tg env]) (he : SE C k N sc st e ie) (hg : SG C k N sc st tg t) : S1 C k N sc st pi (.Assign [tg] e pos) (.set t ie) := fun X W hX =>
  PS.imp (ps_asg (he X W hX.ok) (hg X W hX.ok) (nlc_swaps hn _ _ _) (ntp_swapped hm _) (ha _)) fun E σ H h => set_tail hp h
/-- name = value -/
theorem t_setN {x : Str} {i : Nat} (hn : nlc e = true) (hi : N[i]? = some x) (hx : x ∈ st) (hp : i ∉ pi) (he : SE C k N sc st e ie) : S1 C k N sc st pi (.Assign [.Name x pos'] e pos) (.set (.nm i) ie) := fun X W hX => by
  obtain ⟨h1, h2⟩ := hX.ok.hst _ hx
  refine PS.imp (ps_set (by rw [hX.ok.eN]; exact hX.ok.nd) (by rw [hX.ok.eN]; exact hi) (by rw [hX.ok.eS]; exact h1) (he X W hX.ok) (nlc_swaps hn _ _ _) (by rw [hX.ok.eS]; exact h2)) fun E σ H h => ?_
  obtain ⟨B, F0, Lk, ρ, tv, td, h', w⟩ := set_tail (t := .nm i) (fun j hj => by rw [List.mem_singleton.mp hj]; exact hp) h
  refine ⟨B, F0, Lk, ρ, tv, td, h', w.mono (fun _ z => z) fun d _ q v H1 h1 => ?_⟩
  obtain ⟨B', F', L', ρ', tv', td', d', q1, q2⟩ := q v H1 h1
  obtain ⟨hl, q3⟩ := Wish.chk q2
  exact q3 _ (fun us hu => wipe_set _ _ _ _ (hu i (List.mem_singleton_self _))) (q1.set (of_decide_eq_true hl))
theorem swaps_off {x : Str} {py p2 : Pos} {elt : Expr} {gs : List Comprehension} {scope : Scope} {l : Nat} {env : Env} (h : env.kindOf x = some .cell ∨ (py.line == p2.line) = false) : swapsWith (.ListComp elt gs scope p2) (some (.Name x py)) l env = pure false := by
  unfold swapsWith
  rcases h with h | h
  · simp only [h, show (some NameKind.cell == some NameKind.local) = false from rfl, Bool.and_false, Bool.false_and]
  · simp only [Expr.pos, h, Bool.and_false, Bool.false_and]
/-- name = [..], else -/
theorem t_setL {x : Str} {i : Nat} {elt : Expr} {gs : List Comprehension} {scope : Scope} {p2 : Pos} (hsw : sc.names.lookup x = some .cell ∨ (pos'.line == p2.line) = false) (hi : N[i]? = some x) (hx : x ∈ st) (hp : i ∉ pi) (he : SE C k N sc st (.ListComp elt gs scope p2) ie) : S1 C k N sc st pi (.Assign [.Name x pos'] (.ListComp elt gs scope p2) pos) (.set (.nm i) ie) := fun X W hX => by
  obtain ⟨h1, h2⟩ := hX.ok.hst _ hx
  refine PS.imp (ps_set (by rw [hX.ok.eN]; exact hX.ok.nd) (by rw [hX.ok.eN]; exact hi) (by rw [hX.ok.eS]; exact h1) (he X W hX.ok) (swaps_off (hsw.imp (fun h => by unfold Env.kindOf; rw [hX.ok.eS]; exact h) id)) (by rw [hX.ok.eS]; exact h2)) fun E σ H h => ?_
  obtain ⟨B, F0, Lk, ρ, tv, td, h', w⟩ := set_tail (t := .nm i) (fun j hj => by rw [List.mem_singleton.mp hj]; exact hp) h
  refine ⟨B, F0, Lk, ρ, tv, td, h', w.mono (fun _ z => z) fun d _ q v H1 h1 => ?_⟩
  obtain ⟨B', F', L', ρ', tv', td', d', q1, q2⟩ := q v H1 h1
  obtain ⟨hl, q3⟩ := Wish.chk q2
  exact q3 _ (fun us hu => wipe_set _ _ _ _ (hu i (List.mem_singleton_self _))) (q1.set (of_decide_eq_true hl))
/-- name = [..] on one line -/
theorem t_setC {x : Str} {i : Nat} {elt : Expr} {ifs : List Expr} {scope : Scope} {st' : List Str} {own : List (Str × Nat)} {cs : List Ex} {p2 : Pos} (hi : N[i]? = some x) (hp : i ∉ pi) (hxl : sc.names.lookup x = some .local) (hk : sc.kind = .function) (hl : (pos'.line == p2.line) = true)
    (hna : (scope.names.any fun (n, k) => n == x && (k == .local || k == .cell)) = false) (hw : ∀ i ∈ tgIx t, i ∈ own.map (·.2)) (hbk : blkC N sc scope own = true) (hf : ∀ env x, foldedSetIterable iter env x = pure x)
    (h : ∀ x ∈ st', L2.Loc (relS scope sc) x ∧ ((scope.names.lookup x == some NameKind.cell) = true ∨ (relS scope sc).names.lookup x = some NameKind.local))
    (hit : SI C k N sc st tg iter it) (hg : SG C k N (relS scope sc) st' tg t) (hc : SCs C k N (relS scope sc) st' ifs cs) (he : SE C k N (relS scope sc) st' elt ie) :
    S1 C k N sc st pi (.Assign [.Name x pos'] (.ListComp elt [⟨tg, iter, ifs, 0⟩] scope p2) pos) (.set (.nm i) (.comp (own.map (·.2)) ie t it cs)) := fun X W hX => by
  have ok : BlkOk X.N X.env.scope scope own := by rw [hX.ok.eN, hX.ok.eS]; exact blkOk_by hbk
  refine PS.imp (ps_setLu hX.ok.calm (by rw [hX.ok.eN]; exact hX.ok.nd) (by rw [hX.ok.eN]; exact hi) (by rw [hX.ok.eS]; exact hxl) (sw_true (by rw [hX.ok.eS]; exact hk) (by rw [hX.ok.eS]; exact hxl) hl hna) (hit X W hX.ok) ok (fun s H c cl fp => have z := ctx_blk hX.ok h s H c cl fp; ⟨hg _ _ z, hc _ _ z, he _ _ z⟩) (hf X.env)) fun E σ H h => ?_
  obtain ⟨B, F0, Lk, ρ, tv, td, h', w⟩ := set_tail (t := .nm i) (fun j hj => by rw [List.mem_singleton.mp hj]; exact hp) h
  refine comp_tail hw ⟨B, F0, Lk, ρ, tv, td, h', w.mono (fun _ z => z) fun d _ q v H1 h1 => ?_⟩
  obtain ⟨B', F', L', ρ', tv', td', d', q1, q2⟩ := q v H1 h1
  obtain ⟨hl, q3⟩ := Wish.chk q2
  exact q3 _ (fun us hu => wipe_set _ _ _ _ (hu i (List.mem_singleton_self _))) (q1.set (of_decide_eq_true hl))
theorem t_exp (hn : nlc e = true) (he : SE C k N sc st e ie) : S1 C k N sc st pi (.Expr e pos) (.exp ie) := fun X W hX =>
  PS.imp (ps_expr (he X W hX.ok) (nlc_swaps hn _ _ _)) fun E σ H ⟨B, F0, ρ, tv, td, pv, h, c, n, p, w⟩ => by
    simp only [run1] at w
    exact ⟨B, F0, noH, ρ, tv, td, h, (re_ok w c p).mono (fun _ z => z) fun d _ w1 v H1 h1 => w1 σ H1 h1.pop c p⟩
theorem t_doc {x j p2} : S1 C k N sc st pi (.Expr (.Constant (.str x) j p2) pos) .skip := fun X W hX => PS.imp ps_doc fun E σ H ⟨B, F0, ρ, tv, td, pv, h, c, n, p, w⟩ => w σ H h c p
theorem t_pass : S1 C k N sc st pi (.Pass pos) .skip := fun X W hX => PS.imp ps_pass fun E σ H ⟨B, F0, ρ, tv, td, pv, h, c, n, p, w⟩ => w σ H h c p
theorem t_brk : S1 C k N sc st pi (.Break pos) .brk := fun X W hX => PS.imp ps_break fun E σ H ⟨B, F0, ρ, tv, td, pv, h, c, n, p, w⟩ => w σ H h c p
theorem t_cnt : S1 C k N sc st pi (.Continue pos) .cnt := fun X W hX => PS.imp ps_continue fun E σ H ⟨B, F0, ρ, tv, td, pv, h, c, n, p, w⟩ => w σ H h c p
theorem t_nev {s : Stmt} : S1 C k N sc st pi s .nev := fun X W hX => PS.imp ps_never fun E σ H ⟨B, F0, ρ, tv, td, pv, h, c, n, p, w⟩ => w
theorem t_ret (he : SE C k N sc st e ie) : S1 C k N sc st pi (.Return (some e) pos) (.ret ie) := fun X W hX =>
  PS.imp (ps_ret (he X W hX.ok)) fun E σ H ⟨B, F0, ρ, tv, td, pv, h, c, n, p, w⟩ => by
    obtain ⟨h', c'⟩ := h.prep (Φ := C.Φ) (gv := C.gv) (pi := pi) ie c
    simp only [run1] at w
    generalize Pu.prep C.Φ C.gv pi ie ρ = ρ1 at h' c' w
    refine ⟨B, F0, noH, ρ1, tv, td, h', (re_ok w c' p).mono (fun _ z => z) fun d _ w1 v H1 h1 => ?_⟩
    split at w1
    · rename_i nd
      exact w1 v σ H1 h1 c' nd p
    · exact w1.elim
theorem t_rtn : S1 C k N sc st pi (.Return none pos) .rtn := fun X W hX => PS.imp ps_retN fun E σ H ⟨B, F0, ρ, tv, td, pv, h, c, n, p, w⟩ => w .non σ H (h.push fun _ => .non) c rfl p
theorem t_rtv {x : Str} {i : Nat} (hi : N[i]? = some x) (hv : Vis sc x) (hp : i ∉ pi) (h1 : (x == ("__debug__" : Str)) = false) (h2 : (x == ("__classdict__" : Str)) = false) : S1 C k N sc st pi (.Return (some (.Name x pos')) pos) (.rtv i) := fun X W hX =>
  PS.imp (ps_ret (pe_var (i := i) (by rw [hX.ok.eN]; exact hi) (by rw [hX.ok.eS]; exact hv) h1 h2)) fun E σ H ⟨B, F0, ρ, tv, td, pv, h, c, n, p, w⟩ => by
    simp only [run1] at w
    split at w
    · rename_i d hd
      obtain ⟨v, e1, h'⟩ := h.takeS hd
      refine ⟨v, e1, w v _ H h' (cleanS_set c fun d e => by cases e) (cleanS_get c hd) ?_⟩
      rw [← p]
      apply List.map_congr_left
      intro j hj
      rw [List.getElem?_set_ne (fun z => hp (by rw [z]; exact hj))]
    · exact w.elim
theorem t_ite {x y : List Stmt} {mx my : List Sm} (hc : STt C k N sc st c ic) (h1 : SS C k N sc st pi x mx) (h2 : SS C k N sc st pi y my) : S1 C k N sc st pi (.If c x y pos) (.ite ic mx my) := fun X W hX =>
  PS.imp (ps_if (hc X W hX.ok) (h1 X W hX) (h2 X W hX)) fun E σ H ⟨B, F0, ρ, tv, td, pv, h, c, n, p, w⟩ => by
    simp only [run1] at w
    refine ⟨B, F0, noH, ρ, tv, td, h, (re_ok w c p).mono (fun _ z => z) fun q _ w1 H1 h1 => ?_⟩
    cases q
    · exact ⟨B, F0, ρ, tv, td, pv, h1, c, n, p, w1⟩
    · exact ⟨B, F0, ρ, tv, td, pv, h1, c, n, p, w1⟩
/-- below the loop's roots -/
theorem loop_step {rv : List V} {rd : List D} {f : D → List (Option D) → Re} {x : D} {xs : List D} {ρ : List (Option D)} (el : rv.length = rd.length) (w : WR C B F0 tv td pi pv W E (loopF f (x :: xs) ρ)) :
    WR C B F0 (rv ++ tv) (rd ++ td) pi pv W { E with nx := fun σ' H' => ∃ ρ', Holds C.G B F0 noH σ' ρ' (rv ++ tv) (rd ++ td) H' ∧ cleanS ρ' = true ∧ pi.map (fun i => σ'[i]?) = pv ∧ WR C B F0 tv td pi pv W E (loopF f xs ρ'), ct := fun σ' H' => ∃ ρ', Holds C.G B F0 noH σ' ρ' (rv ++ tv) (rd ++ td) H' ∧ cleanS ρ' = true ∧ pi.map (fun i => σ'[i]?) = pv ∧ WR C B F0 tv td pi pv W E (loopF f xs ρ'), bk := E.nx } (f x ρ) := by
  simp only [loopF] at w
  cases q : f x ρ with
  | nx ρ' => rw [q] at w; exact fun σ' H' h c p => ⟨ρ', h, c, p, w⟩
  | ct ρ' => rw [q] at w; exact fun σ' H' h c p => ⟨ρ', h, c, p, w⟩
  | bk ρ' => rw [q] at w; exact fun σ' H' h c p => w σ' H' (h.popn el) c p
  | rt d ρ' =>
    rw [q] at w
    exact fun v σ' H' h c n p => w v σ' H' (h.re (Keep.refl _) h.tb fun Fz f2 b => by
      cases b with
      | @cons _ _ _ _ g0 _ b1 b2 =>
        obtain ⟨g1, g2, q1, q2, rfl⟩ := b2.split el
        exact ⟨g0 ++ g2, (Sb.refl _).app (Sb.right _ _), fun Fz' m _ => .cons (b1.keep (Keep.refl _) m) (q2.keep (Keep.refl _) m)⟩) c n p
  | ex x ρ' => rw [q] at w; exact fun σ' H' h c p => w σ' H' (h.popn el) c p
  | bad => rw [q] at w; exact w.elim
theorem t_for {x : List Stmt} {mx : List Sm} (hp : ∀ i ∈ tgIx t, i ∉ pi) (hf : ∀ env x, foldedSetIterable iter env x = pure x) (hi : SI C k N sc st tg iter it) (hg : SG C k N sc st tg t) (hb : SS C k N sc st pi x mx) : S1 C k N sc st pi (.For tg iter x [] pos) (.fr t it mx) := fun X W hX =>
  PS.imp (ps_for hX.own hX.ok.calm (hi X W hX.ok) (hg X W hX.ok) (hb X W hX) (hf X.env)) fun E σ H ⟨B, F0, ρ, tv, td, pv, h, c, n, p, w⟩ => by
    obtain ⟨h', c'⟩ := h.prepI (Φ := C.Φ) (gv := C.gv) (pi := pi) it c
    simp only [run1] at w
    generalize Pu.prepI C.Φ C.gv pi it ρ = ρ1 at h' c' w
    refine ⟨B, F0, noH, ρ1, tv, td, h', (re_ok w c' p).mono (fun _ z => z) fun r hr w1 J rv rd H1 wk hz h1 => ?_⟩
    split at w1
    · rename_i r2
      have nr := noVws_app (hz r2) n
      refine ⟨fun i m σ' H' => m = r.1.length - i ∧ i ≤ r.1.length ∧ ∃ ρ', Holds C.G B F0 noH σ' ρ' (rv ++ tv) (rd ++ td) H' ∧ cleanS ρ' = true ∧ pi.map (fun i => σ'[i]?) = pv ∧ WR C B F0 tv td pi pv W E (loopF (fun x ρ => (bindC t x ρ).seq fun ρ' => runs C.Φ C.gv pi mx ρ') (r.1.drop i) ρ'), ⟨_, rfl, Nat.zero_le _, ρ1, h1, c', p, w1⟩, ?_⟩
      rintro i m σ' H' ⟨rfl, hi, ρ', hh, cc, pp, ww⟩
      by_cases hlt : i < r.1.length
      · rw [take_succ_of hlt] at ww
        refine .inr ⟨wk.go i hh hlt, _, fun σ2 H2 z => ⟨r.1.length - (i + 1), by omega, rfl, hlt, z⟩, fun v H2 hy => ?_⟩
        have h4 := wk.yld hh (List.getElem?_eq_getElem hlt) hy
        exact bind_tail hp h4 cc pp nr (loop_step wk.len ww)
      · have e : i = r.1.length := by omega
        subst e
        rw [List.drop_length] at ww
        exact .inl ⟨wk.stop hh, ww σ' H' (hh.popn wk.len) cc pp⟩
    · exact w1.elim
/-- a, b = e, e' with plain local names -/
theorem par_swapped {x y : Str} {px py pt pt2 : Pos} {kt k2 : Nat} {env : Env} (hb : env.blockKind = .function) (hx : env.kindOf x = some .local) (hy : env.kindOf y = some .local) (hl : (px.line == py.line) = true) (hxy : (x == y) = false) (na : nst a = true) (nb : nst b = true)
    (hf : [a, b].all (foldedForSure 8) = false) (hc : [a, b].all (constantsAlone 8) = false) : swappedStores [.Tuple [.Name x px, .Name y py] kt pt] (.Tuple [a, b] k2 pt2) env = pure (some [x, y]) := by
  have hst : ([a, b].any fun e => match e with | .Starred .. => true | _ => false) = false := by
    cases a <;> first | cases na | skip
    all_goals (cases b <;> first | rfl | cases nb)
  have e1 : px.line = py.line := by simpa using hl
  unfold swappedStores
  simp only [List.length_cons, List.length_nil, hb, hst, hf, hc]
  have hyx : (y == x) = false := beq_eq_false_iff_ne.mpr fun z => beq_eq_false_iff_ne.mp hxy z.symm
  simp [hx, hy, e1, Expr.pos, List.eraseDups_cons, hxy, hyx]
  intro z
  rcases z with z | z
  · cases a <;> first | (cases na; done) | (simp at z; done)
  · cases b <;> first | (cases nb; done) | (simp at z; done)
theorem t_par {x y : Str} {i j : Nat} {px py pt pt2 : Pos} {kt k2 : Nat} (hi : N[i]? = some x) (hj : N[j]? = some y) (hij : i ≠ j) (hpi : i ∉ pi) (hpj : j ∉ pi) (hk : sc.kind = .function) (hx : sc.names.lookup x = some .local) (hy : sc.names.lookup y = some .local) (hl : (px.line == py.line) = true) (hxy : (x == y) = false) (na : nst a = true) (nb : nst b = true)
    (hf : [a, b].all (foldedForSure 8) = false) (hc : [a, b].all (constantsAlone 8) = false) (ha : SE C k N sc st a ia) (hb : SE C k N sc st b ib) :
    S1 C k N sc st pi (.Assign [.Tuple [.Name x px, .Name y py] kt pt] (.Tuple [a, b] k2 pt2) pos) (.par i j ia ib) := fun X W hX => by
  have kx : X.env.kindOf x = some .local := by unfold Env.kindOf; rw [hX.ok.eS]; exact hx
  have ky : X.env.kindOf y = some .local := by unfold Env.kindOf; rw [hX.ok.eS]; exact hy
  have kb : X.env.blockKind = .function := by unfold Env.blockKind; rw [hX.ok.eS, hk]; rfl
  refine PS.imp (ps_par hX.ok.calm (by rw [hX.ok.eN]; exact hX.ok.nd) (by rw [hX.ok.eN]; exact hi) (by rw [hX.ok.eN]; exact hj) hij kx ky (ss_cons na ha (ss_cons nb hb ss_nil) X W hX.ok) (par_swapped kb kx ky hl hxy na nb hf hc) (by unfold swapsWithSole; rfl)) fun E σ H ⟨B, F0, ρ, tv, td, pv, h, c, n, p, w⟩ => ?_
  obtain ⟨h', c'⟩ := h.prep (Φ := C.Φ) (gv := C.gv) (pi := pi) (.tup [ia, ib]) c
  simp only [run1] at w
  generalize Pu.prep C.Φ C.gv pi (.tup [ia, ib]) ρ = ρ1 at h' c' w
  refine ⟨B, F0, noH, ρ1, tv, td, h', (re_ok w c' p).mono (fun _ z => z) fun ds hds w1 vs H1 hl h1 => ?_⟩
  have e1 := evs_len hds
  match ds, vs, e1, hl with
  | [d, d'], [v, v'], z1, z2 =>
    clear z1 z2 hds
    dsimp only at w1
    split at w1
    · rename_i cnd
      obtain ⟨n1, n2, l1, l2⟩ := cnd
      have h2 := Holds.set (i := i) (show Holds C.G B F0 noH σ ρ1 (v :: (v' :: tv)) (d :: (d' :: td)) H1 from h1) l1
      have h3 := Holds.set (i := j) h2 (by rw [List.length_set]; exact l2)
      refine ⟨v, v', rfl, w1 _ _ h3 (cleanS_set (cleanS_set c' fun d e => by cases e; exact n1) fun d e => by cases e; exact n2) ?_⟩
      rw [← p]
      apply List.map_congr_left
      intro m hm
      rw [List.getElem?_set_ne (fun z => hpj (by rw [z]; exact hm)), List.getElem?_set_ne (fun z => hpi (by rw [z]; exact hm))]
    · exact w1.elim
end
end Pu

set_option Elab.async false
set_option linter.all false
set_option maxRecDepth 100000
set_option maxHeartbeats 1000000
/-! Pu17: writing statements. -/
namespace Pu
open PySem PySem.Spec PyProof.Rows L2
theorem reach_inj {H : Hp} : ∀ {q : List PEl} {v x y : V}, reach H q v x → reach H q v y → x = y
  | [], _, _, _, h, g => h.symm.trans g
  | .ix j :: q, _, _, _, ⟨a, vs, v1, e1, e2, e3, h⟩, ⟨a', vs', v1', f1, f2, f3, g⟩ => by
    subst e1
    cases f1
    rw [e2] at f2
    cases f2
    rw [e3] at f3
    cases f3
    exact reach_inj h g
  | .fl x :: q, _, _, _, ⟨a, c, dx, fvs, v1, e1, e2, e3, h⟩, ⟨a', c', dx', fvs', v1', f1, f2, f3, g⟩ => by
    subst e1
    cases f1
    rw [e2] at f2
    cases f2
    rw [e3] at f3
    cases f3
    exact reach_inj h g
theorem reach_keep {H H' : Hp} (k : Keep H H') : ∀ {q : List PEl} {v x : V}, reach H q v x → reach H' q v x
  | [], _, _, h => h
  | .ix j :: q, _, _, ⟨a, vs, v1, e1, e2, e3, h⟩ => ⟨a, vs, v1, e1, k.at e2 rfl, e3, reach_keep k h⟩
  | .fl x :: q, _, _, ⟨a, c, dx, fvs, v1, e1, e2, e3, h⟩ => ⟨a, c, dx, fvs, v1, e1, k.at e2 rfl, e3, reach_keep k h⟩
theorem reach_snoc {H : Hp} {p : PEl} : ∀ {q : List PEl} {v x y : V}, reach H q v x → reach H [p] x y → reach H (q ++ [p]) v y
  | [], _, _, _, h, g => by rw [show _ = _ from h]; exact g
  | .ix j :: q, _, _, _, ⟨a, vs, v1, e1, e2, e3, h⟩, g => ⟨a, vs, v1, e1, e2, e3, reach_snoc h g⟩
  | .fl x :: q, _, _, _, ⟨a, c, dx, fvs, v1, e1, e2, e3, h⟩, g => ⟨a, c, dx, fvs, v1, e1, e2, e3, reach_snoc h g⟩
section
variable {G : Gb} {B Lk H : Hp} {F0 : Addr → Prop} {σ : L2.St} {ρ : List (Option D)} {tv : List V} {td : List D}
theorem Holds.lkH (h : Holds G B F0 Lk σ ρ tv td H) : Holds G B F0 H σ ρ tv td H := ⟨h.own, h.kb, Keep.refl H, h.tb⟩
theorem Holds.lk0 (h : Holds G B F0 Lk σ ρ tv td H) : Holds G B F0 noH σ ρ tv td H := ⟨h.own, h.kb, Keep.noH _, h.tb⟩
theorem Holds.lkS (h : Holds G B F0 Lk σ ρ tv td H) {L2' : Hp} (k : Keep L2' H) : Holds G B F0 L2' σ ρ tv td H := ⟨h.own, h.kb, k, h.tb⟩
/-- what lies at a path -/
theorem Holds.sub {i : Nat} {d d1 : D} {v0 v : V} {q : List PEl} (h : Holds G B F0 Lk σ ρ tv td H) (hc : cleanS ρ = true) (hd : ρ[i]? = some (some d)) (hv : σ[i]? = some (some v0)) (hs : subD q d = some d1) (r : reach H q v0 v) : ∃ Fz g, Own G.K G.cl H Fz v d1 g ∧ noVw d1 = true := by
  obtain ⟨⟨f1, f2, a, b, n, qq⟩, kb, kl, tb⟩ := h
  obtain ⟨w, g, fr, e1, o, p, nw, _⟩ := a.at hd hc
  rw [hv] at e1
  cases e1
  obtain ⟨w', g', fr', r', o', _, nw', _⟩ := o.focus q hs nw
  rw [reach_inj r r']
  exact ⟨_, _, o', nw'⟩
end
theorem subD_snoc {pe : PEl} : ∀ {q : List PEl} {d d1 d2 : D}, subD q d = some d1 → subD [pe] d1 = some d2 → subD (q ++ [pe]) d = some d2
  | [], d, d1, d2, h, g => by simp only [subD, Option.some.injEq] at h; rw [h]; exact g
  | .ix j :: q, d, d1, d2, h, g => by
    cases d <;> first | (simp [subD] at h; done) | skip
    rename_i f xs
    cases f <;> first | (simp [subD] at h; done) | skip
    simp only [subD, List.cons_append] at h ⊢
    split at h
    · exact subD_snoc h g
    · cases h
  | .fl x :: q, d, d1, d2, h, g => by
    cases d <;> first | (simp [subD] at h; done) | skip
    rename_i f c ns xs
    cases f <;> first | (simp [subD] at h; done) | skip
    simp only [subD, List.cons_append] at h ⊢
    split at h
    · split at h
      · exact subD_snoc h g
      · cases h
    · cases h
section
variable (Φ : Nat → List D → Out (D × List D)) (gv : Nat → D)
theorem evp_sub : ∀ {p : List Pt} {ρ : List (Option D)} {d : D} {q : List PEl}, evp Φ gv p ρ d = .ok q → ∃ d1, subD q d = some d1
  | [], _, d, q, h => by simp only [evp, Out.ok.injEq] at h; subst h; exact ⟨d, rfl⟩
  | .ix e :: p, ρ, d, q, h => by
    cases d <;> first | (simp [evp] at h; done) | skip
    rename_i f xs
    cases f <;> first | (simp [evp] at h; done) | skip
    simp only [evp] at h
    cases he : ev Φ gv e ρ with
    | exc _ => rw [he] at h; cases h
    | bad => rw [he] at h; cases h
    | ok z =>
      rw [he, Out.bind_ok] at h
      cases z <;> first | (simp at h; done) | skip
      simp only at h
      split at h
      · rename_i j hj
        split at h
        · rename_i d0 hd
          cases hp : evp Φ gv p ρ d0 with
          | exc _ => rw [hp] at h; cases h
          | bad => rw [hp] at h; cases h
          | ok q' =>
            rw [hp, Out.bind_ok] at h
            cases h
            obtain ⟨d1, h1⟩ := evp_sub hp
            exact ⟨d1, by simp only [subD, hd]; exact h1⟩
        · cases h
      · cases h
  | .fl x :: p, ρ, d, q, h => by
    cases d <;> first | (simp [evp] at h; done) | skip
    rename_i f c ns xs
    cases f <;> first | (simp [evp] at h; done) | skip
    simp only [evp] at h
    split at h
    · rename_i j hj
      split at h
      · rename_i d0 hd
        cases hp : evp Φ gv p ρ d0 with
        | exc _ => rw [hp] at h; cases h
        | bad => rw [hp] at h; cases h
        | ok q' =>
          rw [hp, Out.bind_ok] at h
          cases h
          obtain ⟨d1, h1⟩ := evp_sub hp
          exact ⟨d1, by simp only [subD, hj, hd]; exact h1⟩
      · cases h
    · cases h
/-- one part more, at the end -/
def evp1 (pt : Pt) (ρ : List (Option D)) (d : D) (q : List PEl) : Out (List PEl) := match subD q d with
  | some d1 => (evp Φ gv [pt] ρ d1).bind fun r => .ok (q ++ r)
  | none => .bad
theorem evp_snoc {pt : Pt} : ∀ {p : List Pt} {ρ : List (Option D)} {d : D}, evp Φ gv (p ++ [pt]) ρ d = (evp Φ gv p ρ d).bind fun q => evp1 Φ gv pt ρ d q
  | [], ρ, d => by
    show evp Φ gv [pt] ρ d = evp1 Φ gv pt ρ d []
    simp only [evp1, subD, List.nil_append]
    cases evp Φ gv [pt] ρ d <;> rfl
  | .ix e :: p, ρ, d => by
    have ih := fun d => @evp_snoc pt p ρ d
    cases d <;> first | rfl | skip
    rename_i f xs
    cases f <;> first | rfl | skip
    simp only [List.cons_append, evp, Out.bind_assoc]
    congr 1
    funext z
    cases z <;> first | rfl | skip
    rename_i k
    dsimp only
    cases hj : ixN xs.length k with
    | none => rfl
    | some j =>
      dsimp only
      cases hd : xs[j]? with
      | none => rfl
      | some d0 =>
        dsimp only
        rw [ih, Out.bind_assoc, Out.bind_assoc]
        congr 1
        funext q
        simp only [evp1, Out.bind_ok, subD, hd]
        cases subD q d0 with
        | none => rfl
        | some d1 =>
          dsimp only
          rw [Out.bind_assoc]
          congr 1
  | .fl x :: p, ρ, d => by
    have ih := fun d => @evp_snoc pt p ρ d
    cases d <;> first | rfl | skip
    rename_i f c ns xs
    cases f <;> first | rfl | skip
    simp only [List.cons_append, evp]
    cases hj : fIx x ns with
    | none => rfl
    | some j =>
      dsimp only
      cases hd : xs[j]? with
      | none => rfl
      | some d0 =>
        dsimp only
        rw [ih, Out.bind_assoc, Out.bind_assoc]
        congr 1
        funext q
        simp only [evp1, Out.bind_ok, subD, hj, hd]
        cases subD q d0 with
        | none => rfl
        | some d1 =>
          dsimp only
          rw [Out.bind_assoc]
          congr 1
end
/-- a path's expression: what lies there -/
def tP (C : Cf) (i : Nat) (p : List Pt) (W : WX) : TE := fun σ H Q => ∃ B F0 Lk ρ tv td, Holds C.G B F0 Lk σ ρ tv td H ∧ cleanS ρ = true ∧
  Wish ((slotD ρ i).bind fun d => evp C.Φ C.gv p ρ d) (Off C W σ B F0 Lk ρ tv td) fun q => ∀ v v0 H', Holds C.G B F0 Lk σ ρ tv td H' → σ[i]? = some (some v0) → reach H' q v0 v → Q v H'
def SP (C : Cf) (k : Nat) (N : List Str) (sc : Scope) (st : List Str) (o : Expr) (i : Nat) (p : List Pt) : Prop := ∀ X W, CtxOk C k N sc st X W → PE X o (tP C i p W)
section
variable {C : Cf} {k : Nat} {N : List Str} {sc : Scope} {st : List Str} {pi : List Nat} {B Lk H : Hp} {F0 : Addr → Prop} {tv : List V} {td : List D} {pv : List (Option (Option V))} {W : WX} {E : Ends} {a b e o : Expr} {ia ib ie : Ex} {es : List Expr} {ies : List Ex} {pos pos' apos : Pos} {σ : L2.St} {ρ : List (Option D)} {d : D} {v : V} {i : Nat} {p : List Pt}
theorem slotD_ok (h : slotD ρ i = .ok d) : ρ[i]? = some (some d) := by
  unfold slotD at h
  split at h
  · cases h; assumption
  · cases h
theorem slotD_ne {x : Exn} : slotD ρ i ≠ .exc x := by
  unfold slotD
  split <;> exact fun z => by cases z
theorem p_nm {x : Str} (hi : N[i]? = some x) (hv : Vis sc x) (h1 : (x == ("__debug__" : Str)) = false) (h2 : (x == ("__classdict__" : Str)) = false) : SP C k N sc st (.Name x pos) i [] := fun X W hX =>
  PE.imp (pe_var (i := i) (by rw [hX.eN]; exact hi) (by rw [hX.eS]; exact hv) h1 h2) fun σ H Q ⟨B, F0, Lk, ρ, tv, td, h, c, w⟩ => by
    cases hs : slotD ρ i with
    | exc x => exact absurd hs slotD_ne
    | bad => rw [hs] at w; exact w.elim
    | ok d =>
      rw [hs] at w
      obtain ⟨v, e1, _⟩ := h.var (slotD_ok hs)
      exact ⟨v, e1, w v v H h e1 rfl⟩
theorem p_ix (hn : nsl b = true) (ha : SP C k N sc st a i p) (hb : SE C k N sc st b ib) : SP C k N sc st (.Subscript a b pos) i (p ++ [.ix ib]) := fun X W hX =>
  PE.imp (pe_ix (r := rIx C.G.K) (by rw [← hX.eK]; exact ix_seq) (ha X W hX) (hb X W hX) (nsl_eq hn)) fun σ H Q ⟨B, F0, Lk, ρ, tv, td, h, c, w⟩ => by
    cases hs : slotD ρ i with
    | exc x => exact absurd hs slotD_ne
    | bad => rw [hs] at w; exact w.elim
    | ok d =>
      rw [hs, Out.bind_ok, evp_snoc] at w
      have hd := slotD_ok hs
      refine ⟨B, F0, Lk, ρ, tv, td, h, c, ?_⟩
      rw [hs, Out.bind_ok]
      refine w.bind.mono (fun _ z => z) fun q hq w1 v v0 H1 h1 e0 r => ?_
      unfold evp1 at w1
      cases hsub : subD q d with
      | none => rw [hsub] at w1; exact w1.elim
      | some d1 =>
        rw [hsub] at w1
        cases d1 <;> first | exact w1.elim | skip
        rename_i f xs
        cases f <;> first | exact w1.elim | skip
        simp only [evp, Out.bind_assoc] at w1
        refine ⟨B, F0, H1, ρ, tv, td, h1.lkH, w1.bind.mono (fun x z H' h' => z H' (h'.lkS (h1.kl.trans h'.kl))) fun z hz w2 u H2 h2 => ?_⟩
        obtain ⟨_, _, o2⟩ := h2.top
        cases z <;> first | exact w2.elim | skip
        rename_i n
        rw [o2.inv_int]
        dsimp only at w2
        cases hj : ixN xs.length n with
        | none => rw [hj] at w2; exact w2.elim
        | some j =>
          rw [hj] at w2
          dsimp only at w2
          cases hx : xs[j]? with
          | none => rw [hx] at w2; exact w2.elim
          | some d2 =>
            rw [hx] at w2
            have h2' := h2.pop.lkS (h1.kl.trans h2.kl)
            have r2 := reach_keep h2.kl r
            obtain ⟨Fz, g, ow, nw⟩ := h2'.sub c hd e0 hsub r2
            cases ow with
            | @lst _ a0 vs _ f0 fp hl bb =>
              cases hl with
              | ow hl =>
                obtain ⟨v1, _, e1, _⟩ := bb.get hx
                refine .inl ⟨a0, vs, n, v1, rfl, rfl, SqL.of hl, ?_, ?_⟩
                · unfold atI; rw [bb.length, hj]; exact e1
                · have w3 : ∀ v v0 H', Holds C.G B F0 Lk σ ρ tv td H' → σ[i]? = some (some v0) → reach H' (q ++ [.ix j]) v0 v → Q v H' := w2
                  exact w3 v1 v0 H2 h2' e0 (reach_snoc r2 ⟨a0, vs, v1, rfl, hl, e1, rfl⟩)
theorem p_fl {x : Str} (hc : ∀ c, L2.Cls C.G.K (C.G.cl c)) (hf : ∀ c, L2.NoAttr C.G.K (C.G.cl c) x) (hn : npl a = true) (ha : SP C k N sc st a i p) : SP C k N sc st (.Attribute a x pos) i (p ++ [.fl x]) := fun X W hX =>
  PE.imp (pe_fld (ha X W hX) (npl_base hn _ _ _)) fun σ H Q ⟨B, F0, Lk, ρ, tv, td, h, c, w⟩ => by
    cases hs : slotD ρ i with
    | exc x => exact absurd hs slotD_ne
    | bad => rw [hs] at w; exact w.elim
    | ok d =>
      rw [hs, Out.bind_ok, evp_snoc] at w
      have hd := slotD_ok hs
      refine ⟨B, F0, Lk, ρ, tv, td, h, c, ?_⟩
      rw [hs, Out.bind_ok]
      refine w.bind.mono (fun _ z => z) fun q hq w1 v v0 H1 h1 e0 r => ?_
      unfold evp1 at w1
      cases hsub : subD q d with
      | none => rw [hsub] at w1; exact w1.elim
      | some d1 =>
        rw [hsub] at w1
        cases d1 <;> first | exact w1.elim | skip
        rename_i f cc ns xs
        cases f <;> first | exact w1.elim | skip
        simp only [evp] at w1
        cases hj : fIx x ns with
        | none => rw [hj] at w1; exact w1.elim
        | some j =>
          rw [hj] at w1
          dsimp only at w1
          cases hx : xs[j]? with
          | none => rw [hx] at w1; exact w1.elim
          | some d2 =>
            rw [hx] at w1
            obtain ⟨Fz, g, ow, nw⟩ := h1.sub c hd e0 hsub r
            cases ow with
            | @obj _ _ a0 _ vs _ f0 fp hl bb =>
              cases hl with
              | @ow _ _ dx fvs hl =>
                obtain ⟨v1, _, e1, _⟩ := bb.get hx
                have lk := fIx_lookup hj e1
                rw [hX.eK]
                have w3 : ∀ v v0 H', Holds C.G B F0 Lk σ ρ tv td H' → σ[i]? = some (some v0) → reach H' (q ++ [.fl x]) v0 v → Q v H' := w1
                exact ⟨a0, _, dx, fvs, v1, rfl, hl, hc cc, hf cc, lk, w3 v1 v0 H1 h1 e0 (reach_snoc r ⟨a0, _, dx, fvs, v1, rfl, hl, lk, rfl⟩)⟩
theorem subAt_get {q : List PEl} {d1 : D} (h : subAt ρ i q = some d1) : ∃ d, ρ[i]? = some (some d) ∧ subD q d = some d1 := by
  unfold subAt at h
  split at h
  · rename_i d hd
    exact ⟨d, hd, h⟩
  · cases h
theorem Owns.setv {K : PySem.W.Frag} {cl : Nat → Addr} {H : Hp} {Fz : Addr → Prop} : ∀ {vs : List V} {xs : List D} {g g2 : List Addr} {j : Nat} {y : V} {dy : D}, Owns K cl H Fz vs xs g → Owns K cl H Fz [y] [dy] g2 → ∃ g3, Owns K cl H Fz (vs.set j y) (xs.set j dy) g3 ∧ Sb g3 (g ++ g2)
  | [], [], _, _, _, _, _, .nil, _ => ⟨[], .nil, Sb.nil _⟩
  | _ :: _, _ :: _, _, _, 0, _, _, .cons (f1 := f1) (f2 := f2) a b, .cons (f1 := k1) (f2 := k2) c z => by
    cases z
    refine ⟨k1 ++ f2, .cons c b, ?_⟩
    exact (Sb.of_perm List.perm_append_comm).trans ((Sb.right f1 f2).app (Sb.left k1 []))
  | _ :: _, _ :: _, _, _, j + 1, _, _, .cons (f1 := f1) a b, c => by
    obtain ⟨g3, o, s⟩ := Owns.setv (j := j) b c
    exact ⟨f1 ++ g3, .cons a o, by rw [List.append_assoc]; exact (Sb.refl f1).app s⟩
theorem Owns.erase {K : PySem.W.Frag} {cl : Nat → Addr} {H : Hp} {Fz : Addr → Prop} : ∀ {vs : List V} {xs : List D} {g : List Addr} {j : Nat}, Owns K cl H Fz vs xs g → ∃ g3, Owns K cl H Fz (vs.eraseIdx j) (xs.eraseIdx j) g3 ∧ Sb g3 g
  | [], [], _, _, .nil => ⟨[], .nil, Sb.nil _⟩
  | _ :: _, _ :: _, _, 0, .cons (f1 := f1) (f2 := f2) a b => ⟨f2, b, Sb.right _ _⟩
  | _ :: _, _ :: _, _, j + 1, .cons (f1 := f1) a b => by
    obtain ⟨g3, o, s⟩ := Owns.erase (j := j) b
    exact ⟨f1 ++ g3, .cons a o, (Sb.refl f1).app s⟩
theorem noVw_upd {q : List PEl} : ∀ {d d' e : D}, updD q d d' = some e → noVw d = true → noVw d' = true → noVw e = true := by
  induction q with
  | nil => intro d d' e h _ n; simp only [updD, Option.some.injEq] at h; rw [← h]; exact n
  | cons pe q ih =>
    intro d d' e h n n'
    have key : ∀ (xs : List D) (j : Nat) (x e1 : D), noVws xs = true → xs[j]? = some x → updD q x d' = some e1 → noVws (xs.set j e1) = true := fun xs j x e1 nx hx hu => by
      rw [noVws_eq, List.all_eq_true] at nx ⊢
      intro y hy
      rcases List.mem_or_eq_of_mem_set hy with m | rfl
      · exact nx y m
      · exact ih hu (nx x (List.mem_of_getElem? hx)) n'
    cases pe with
    | ix j =>
      cases d <;> first | (simp [updD] at h; done) | skip
      rename_i f xs
      cases f <;> first | (simp [updD] at h; done) | skip
      simp only [updD] at h
      simp only [noVw, Bool.and_eq_true] at n
      split at h
      · rename_i x hx
        cases hu : updD q x d' with
        | none => rw [hu] at h; cases h
        | some e1 =>
          rw [hu] at h
          cases h
          simp only [noVw, Bool.and_eq_true]
          exact ⟨n.1, key xs j x e1 n.2 hx hu⟩
      · cases h
    | fl y =>
      cases d <;> first | (simp [updD] at h; done) | skip
      rename_i f c ns xs
      cases f <;> first | (simp [updD] at h; done) | skip
      simp only [updD] at h
      simp only [noVw, Bool.and_eq_true] at n
      split at h
      · split at h
        · rename_i x hx
          cases hu : updD q x d' with
          | none => rw [hu] at h; cases h
          | some e1 =>
            rw [hu] at h
            cases h
            simp only [noVw, Bool.and_eq_true]
            exact ⟨n.1, key xs _ x e1 n.2 hx hu⟩
        · cases h
      · cases h
theorem pin_keep (p : pi.map (fun i => σ[i]?) = pv) : pi.map (fun i => σ[i]?) = pv := p
/-- the list at the path of a slot, and its new state -/
theorem lst_at {q : List PEl} {xs : List D} {tx : List V} {dx : List D} {v0 v : V} (h : Holds C.G B F0 noH σ ρ (tx ++ tv) (dx ++ td) H) (ex : tx.length = dx.length) (c : cleanS ρ = true) (n : noVws td = true) (nx : noVws dx = true) (hs : subAt ρ i q = some (.lst .ow xs)) (e0 : σ[i]? = some (some v0)) (r : reach H q v0 v) :
    ∃ a vs, v = .ref a ∧ H a = some (.lst vs) ∧ vs.length = xs.length ∧ noVws xs = true ∧ ∀ (vs' : List V) (xs' : List D) (W : WX) (E : Ends), noVws xs' = true → (∀ {H' : Hp} {Fz : Addr → Prop} {g g2 : List Addr}, Owns C.G.K C.G.cl H' Fz vs xs g → Owns C.G.K C.G.cl H' Fz tx dx g2 → ∃ g3, Owns C.G.K C.G.cl H' Fz vs' xs' g3 ∧ Sb g3 (g ++ g2)) → pi.map (fun i => σ[i]?) = pv →
      WR C B F0 tv td pi pv W E (putAt ρ i q (.lst .ow xs')) → E.nx σ (L2.upd H a (.lst vs')) := by
  obtain ⟨d, hd, hs⟩ := subAt_get hs
  obtain ⟨w0, a, vs, e1, r', ha, hl, nxs, k⟩ := h.mutl ex hd c n nx hs
  rw [e0] at e1
  cases e1
  rw [reach_inj r r']
  refine ⟨a, vs, rfl, ha, hl, nxs, fun vs' xs' W E nx' gv p w => ?_⟩
  obtain ⟨d', u, h'⟩ := k vs' [] xs' [] fun o1 o2 => let ⟨g3, o3, s⟩ := gv o1 o2; ⟨g3, [], o3, .nil, by rw [List.append_nil]; exact s⟩
  unfold putAt at w
  rw [hd] at w
  dsimp only at w
  rw [u] at w
  exact w σ _ h' (cleanS_set c fun d e => by cases e; exact noVw_upd u (cleanS_get c hd) (by simp only [noVw, Bool.and_eq_true, decide_eq_true_eq]; exact ⟨(fun z => by cases z), nx'⟩)) p
end
end Pu

set_option Elab.async false
set_option linter.all false
set_option maxRecDepth 100000
set_option maxHeartbeats 1000000
/-! Pu18: append, pop, stores. -/
namespace Pu
open PySem PySem.Spec PyProof.Rows L2
section
variable {C : Cf} {k : Nat} {N : List Str} {sc : Scope} {st : List Str} {pi : List Nat} {B Lk H : Hp} {F0 : Addr → Prop} {tv : List V} {td : List D} {pv : List (Option (Option V))} {W : WX} {E : Ends} {a b e o : Expr} {ia ib ie : Ex} {es : List Expr} {ies : List Ex} {pos pos' apos cpos tpos : Pos} {σ : L2.St} {ρ : List (Option D)} {d : D} {v : V} {i : Nat} {p : List Pt}
theorem few1 (hn : nst e = true) (env : Env) : ((backTo cpos (starEach [e] env)).all (fun x => !x.1) && (backToKw cpos (keywordEach [] env)).all (fun x => x.1.isSome) && decide ([e].length + ([] : List Keyword).length + (if ([] : List Keyword).isEmpty then 0 else 1) < 30)) = true := by
  rw [star_cons hn]; rfl
theorem off_lk {x : Exn} (k : Keep Lk H) (h : Off C W σ B F0 noH ρ tv td x) : Off C W σ B F0 Lk ρ tv td x := fun H' h' => h H' h'.lk0
theorem t_app (hb : npl o = true) (hn : nst e = true) (hm : nlc (.Call (.Attribute o "append" apos) [e] [] cpos) = true) (hl : (apos.endLine == cpos.line) = true) (ho : SP C k N sc st o i p) (he : SE C k N sc st e ie) :
    S1 C k N sc st pi (.Expr (.Call (.Attribute o "append" apos) [e] [] cpos) pos) (.app i p ie) := fun X W hX =>
  PS.imp (ps_expr (pe_bm F.plainAttrs_list F.slot_list_append F.type_list_append mt_append (ho X W hX.ok) (ss_cons hn he ss_nil X W hX.ok) (npl_base hb _ _ _) (few1 hn _) hl (star_cons hn [] _) rfl) (nlc_swaps hm _ _ _)) fun E σ H ⟨B, F0, ρ, tv, td, pv, h, c, n, p', w⟩ => by
    obtain ⟨h', c'⟩ := h.prep (Φ := C.Φ) (gv := C.gv) (pi := pi) ie c
    simp only [run1] at w
    generalize Pu.prep C.Φ C.gv pi ie ρ = ρ1 at h' c' w
    refine ⟨B, F0, noH, ρ1, tv, td, h', c', (re_ok w c' p').mono (fun _ z => z) fun q hq w1 v v0 H1 h1 e0 r => ?_⟩
    split at w1
    · rename_i xs hs
      obtain ⟨a, vs, rfl, ha, hl, nx, _⟩ := lst_at (pv := pv) (pi := pi) (tx := []) (dx := []) h1 rfl c' n rfl hs e0 r
      refine ⟨.inl ⟨rfl, vs, by rw [hX.ok.eK]; exact SqL.of ha⟩, ?_⟩
      have w2 : Wish ((evs C.Φ C.gv [ie] ρ1).bind fun ys => .ok ys) (Off C W σ B F0 H1 ρ1 tv td) fun ys => ∃ y, ys = [y] ∧ WR C B F0 tv td pi pv W E (if noVw y = true ∧ xs.length < sizeLine then putAt ρ1 i q (.lst .ow (xs ++ [y])) else .bad) := by
        have z := re_ok w1 c' p'
        simp only [evs, Out.bind_assoc, Out.bind_ok]
        cases he : ev C.Φ C.gv ie ρ1 with
        | ok y => rw [he] at z; exact ⟨y, rfl, z⟩
        | exc x => rw [he] at z; exact off_lk (H := H1) (Keep.refl _) z
        | bad => rw [he] at z; exact z
      refine gos h1.lkH (fun _ z => z) w2 fun ys us H2 hys hl2 h2 w3 => ?_
      obtain ⟨y, ey, w4⟩ := w3
      have ey : ys = [y] := ey
      subst ey
      match us, hl2 with
      | [u], hl2 =>
      split at w4
      · rename_i cond
        have r2 := reach_keep h2.kl r
        obtain ⟨a', vs', ea, ha', hl', nx', fin⟩ := lst_at (pv := pv) (pi := pi) (tx := [u]) (dx := [y]) h2.lk0 rfl c' n (by simp only [noVws, cond.1, Bool.and_self]) hs e0 r2
        cases ea
        refine ⟨a, vs', u, rfl, rfl, ha', by rw [hl']; exact cond.2, ?_⟩
        exact fin _ _ W E (noVws_app nx' (by simp only [noVws, cond.1, Bool.and_self])) (fun o1 o2 => ⟨_, o1.append o2, Sb.refl _⟩) p' w4
      · exact w4.elim
    · exact w1.elim
theorem popK_len {xs : List D} {ks : List D} {j : Nat} (h : popK xs ks = some j) : j < xs.length := by
  unfold popK at h
  split at h
  · split at h
    · cases h
    · rename_i hx
      cases h
      cases xs with
      | nil => exact absurd rfl hx
      | cons _ _ => simp
  · split at h
    · unfold seqIndex? at h
      dsimp only at h
      rename_i kk _
      generalize (if kk < 0 then kk + (xs.length : Int) else kk) = z at h
      by_cases cnd : (decide (0 ≤ z) && decide (z < (xs.length : Int))) = true
      · rw [if_pos cnd] at h
        simp only [Bool.and_eq_true, decide_eq_true_eq] at cnd
        cases h
        omega
      · rw [if_neg cnd] at h
        cases h
    · cases h
  · cases h
/-- x.pop(k), the value dropped -/
theorem t_pop1 (hb : npl o = true) (hn : nst e = true) (hm : nlc (.Call (.Attribute o "pop" apos) [e] [] cpos) = true) (hl : (apos.endLine == cpos.line) = true) (ho : SP C k N sc st o i p) (he : SE C k N sc st e ie) :
    S1 C k N sc st pi (.Expr (.Call (.Attribute o "pop" apos) [e] [] cpos) pos) (.popd i p [ie]) := fun X W hX =>
  PS.imp (ps_expr (pe_bm F.plainAttrs_list F.slot_list_pop F.type_list_pop mt_popAt (ho X W hX.ok) (ss_cons hn he ss_nil X W hX.ok) (npl_base hb _ _ _) (few1 hn _) hl (star_cons hn [] _) rfl) (nlc_swaps hm _ _ _)) fun E σ H ⟨B, F0, ρ, tv, td, pv, h, c, n, p', w⟩ => by
    simp only [run1] at w
    refine ⟨B, F0, noH, ρ, tv, td, h, c, (re_ok w c p').mono (fun _ z => z) fun q hq w1 v v0 H1 h1 e0 r => ?_⟩
    split at w1
    · rename_i xs hs
      obtain ⟨a, vs, rfl, ha, hl, nx, _⟩ := lst_at (pv := pv) (pi := pi) (tx := []) (dx := []) h1 rfl c n rfl hs e0 r
      refine ⟨.inl ⟨rfl, vs, by rw [hX.ok.eK]; exact SqL.of ha⟩, ?_⟩
      have w2 : Wish ((evs C.Φ C.gv [ie] ρ).bind fun ys => .ok ys) (Off C W σ B F0 H1 ρ tv td) fun ys => WR C B F0 tv td pi pv W E (match popK xs ys with | some k => putAt ρ i q (.lst .ow (xs.eraseIdx k)) | none => .bad) := by
        have z := re_ok w1 c p'
        cases he : evs C.Φ C.gv [ie] ρ with
        | ok y => rw [he] at z; exact z
        | exc x => rw [he] at z; exact off_lk (H := H1) (Keep.refl _) z
        | bad => rw [he] at z; exact z
      refine gos h1.lkH (fun _ z => z) w2 fun ys us H2 hys hl2 h2 w3 => ?_
      have e1 := evs_len hys
      match ys, us, e1, hl2 with
      | [y], [u], z1, hl2 =>
        clear z1 hys
        have w4 : WR C B F0 tv td pi pv W E (match popK xs [y] with | some k => putAt ρ i q (.lst .ow (xs.eraseIdx k)) | none => .bad) := w3
        split at w4
        · rename_i j hj
          have r2 := reach_keep h2.kl r
          obtain ⟨_, _, ou⟩ := Holds.top h2
          obtain ⟨a', vs', ea, ha', hl', nx', fin⟩ := lst_at (pv := pv) (pi := pi) (tx := []) (dx := []) (Holds.pop h2).lk0 rfl c n rfl hs e0 r2
          cases ea
          have hjl := popK_len hj
          unfold popK at hj
          cases y <;> first | (simp at hj; done) | skip
          rename_i kk
          dsimp only at hj
          split at hj
          · rename_i bnd
            rw [ou.inv_int]
            obtain ⟨v1, hv1⟩ := lt_get (xs := vs') (i := j) (by rw [hl']; exact hjl)
            refine ⟨a, vs', kk, j, v1, rfl, rfl, ha', (by omega), (by omega), by rw [hl']; exact hj, hv1, ?_⟩
            exact fin _ _ W E (by rw [noVws_eq, List.all_eq_true] at nx' ⊢; exact fun z hz => nx' z (List.mem_of_mem_eraseIdx hz)) (fun o1 o2 => let ⟨g3, o3, s⟩ := o1.erase (j := j); ⟨g3, o3, s.trans (Sb.left _ _)⟩) p' w4
          · cases hj
        · exact w4.elim
    · exact w1.elim
theorem noVws_set {xs : List D} {j : Nat} {y : D} (h : noVws xs = true) (n : noVw y = true) : noVws (xs.set j y) = true := by
  rw [noVws_eq, List.all_eq_true] at h ⊢
  intro x hx
  rcases List.mem_or_eq_of_mem_set hx with m | rfl
  · exact h x m
  · exact n
theorem sub_assign {o b : Expr} (hn : nsl b = true) (env : Env) (v : Value) : assign (.Subscript o b tpos) env v = (do
      let ov ← holding [v] (eval o env)
      let iv ← holding [v, ov] (eval b env)
      standAt tpos
      holding [v, ov, iv] (setItem ov iv v)
      release [v, ov, iv] []) := by
  cases b <;> first | rfl | cases hn
/-- x[k] = e -/
theorem t_setI (hn : nlc e = true) (hm : ntp e = true) (hs : nsl b = true) (ho : SP C k N sc st o i p) (hb : SE C k N sc st b ib) (he : SE C k N sc st e ie) : S1 C k N sc st pi (.Assign [.Subscript o b tpos] e pos) (.setI i p ib ie) := fun X W hX =>
  PS.imp (ps_asg (he X W hX.ok) (pg_sub (ho X W hX.ok) (hb X W hX.ok) set_list (fun v => sub_assign hs _ v)) (by unfold swapsWithSole; exact nlc_swaps hn _ _ _) (ntp_swapped hm _) rfl) fun E σ H ⟨B, F0, ρ, tv, td, pv, h, c, n, p', w⟩ => by
    obtain ⟨h', c'⟩ := h.prep (Φ := C.Φ) (gv := C.gv) (pi := pi) ie c
    simp only [run1] at w
    generalize Pu.prep C.Φ C.gv pi ie ρ = ρ1 at h' c' w
    refine ⟨B, F0, noH, ρ1, tv, td, h', (re_ok w c' p').mono (fun _ z => z) fun y hy w1 u H0 h0 => ?_⟩
    refine ⟨B, F0, noH, ρ1, u :: tv, y :: td, h0, c', (re_ok w1 c' p').mono (fun _ z => z.push) fun q hq w2 v v0 H1 h1 e0 r => ?_⟩
    have w3 := re_ok w2 c' p'
    refine ⟨B, F0, H1, ρ1, u :: tv, y :: td, h1.lkH, w3.mono (fun _ z => (off_lk (H := H1) (Keep.refl _) z).push) fun z hz w4 kv H2 h2 => ?_⟩
    split at w4
    · rename_i xs kk hs
      split at w4
      · rename_i j hj
        split at w4
        · rename_i ny
          have r2 := reach_keep h2.kl r
          obtain ⟨_, _, ok⟩ := Holds.top h2
          obtain ⟨a', vs', ea, ha', hl', nx', fin⟩ := lst_at (pv := pv) (pi := pi) (tx := [u]) (dx := [y]) (Holds.pop h2).lk0 rfl c' n (by simp only [noVws, ny, Bool.and_self]) hs e0 r2
          rw [ok.inv_int]
          refine ⟨a', vs', kk, j, ea, rfl, ha', by rw [hl']; exact hj, ?_⟩
          exact fin _ _ W E (noVws_set nx' ny) (fun o1 o2 => o1.setv o2) p' w4
        · exact w4.elim
      · exact w4.elim
    · exact w4.elim
theorem putN_eq {f : Str} {y : D} {u : V} : ∀ {fvs : List (Str × V)} {xs : List D}, fvs.length = xs.length → (putF f u fvs).map (·.1) = (putN f y (fvs.map (·.1)) xs).1
  | [], [], _ => rfl
  | (g, x) :: r, z :: zs, e => by
    simp only [putF, List.map_cons, putN]
    split
    · simp
    · simp only [List.map_cons]
      rw [putN_eq (by simpa using e)]
theorem Owns.putF {K : PySem.W.Frag} {cl : Nat → Addr} {H : Hp} {Fz : Addr → Prop} {f : Str} {u : V} {y : D} : ∀ {fvs : List (Str × V)} {xs : List D} {g g2 : List Addr}, Owns K cl H Fz (fvs.map (·.2)) xs g → Owns K cl H Fz [u] [y] g2 → ∃ g3, Owns K cl H Fz ((L2.putF f u fvs).map (·.2)) (putN f y (fvs.map (·.1)) xs).2 g3 ∧ Sb g3 (g ++ g2)
  | [], [], _, _, .nil, c => ⟨_, c, Sb.refl _⟩
  | (g0, x) :: r, z :: zs, _, _, .cons (f1 := f1) (f2 := f2) a b, c => by
    simp only [L2.putF, List.map_cons, putN]
    split
    · cases c with
      | cons c cz =>
        rename_i k1 k2
        cases cz
        exact ⟨_, .cons c b, (Sb.of_perm List.perm_append_comm).trans ((Sb.right f1 f2).app (Sb.left _ _))⟩
    · obtain ⟨g3, o, s⟩ := Owns.putF (f := f) b c
      exact ⟨f1 ++ g3, .cons a o, by rw [List.append_assoc]; exact (Sb.refl f1).app s⟩
theorem putN_noVw {f : Str} {y : D} (n : noVw y = true) : ∀ {ns : List Str} {xs : List D}, noVws xs = true → noVws (putN f y ns xs).2 = true
  | [], xs, h => noVws_app h (by simp only [noVws, n, Bool.and_self])
  | _ :: _, [], h => by simp only [putN, List.nil_append, noVws, n, Bool.and_self]
  | m :: ns, x :: xs, h => by
    simp only [noVws, Bool.and_eq_true] at h
    simp only [putN]
    split
    · simp only [noVws, n, h.2, Bool.and_self]
    · simp only [noVws, h.1, putN_noVw n h.2, Bool.and_self]
/-- o.f = e -/
theorem at_swaps {o e : Expr} {x : Str} {q : Pos} (l : Nat) (env : Env) : swapsWith e (some (.Attribute o x q)) l env = pure false := by
  cases e <;> rfl
theorem t_setF {x : Str} (hc : ∀ c, L2.Cls C.G.K (C.G.cl c)) (hf : ∀ c, L2.NoAttr C.G.K (C.G.cl c) x) (ho : SP C k N sc st o i p) (he : SE C k N sc st e ie) : S1 C k N sc st pi (.Assign [.Attribute o x tpos] e pos) (.setF i p x ie) := fun X W hX =>
  PS.imp (ps_fld (ho X W hX.ok) (he X W hX.ok) (at_swaps _ _)) fun E σ H ⟨B, F0, ρ, tv, td, pv, h, c, n, p', w⟩ => by
    obtain ⟨h', c'⟩ := h.prep (Φ := C.Φ) (gv := C.gv) (pi := pi) ie c
    simp only [run1] at w
    generalize Pu.prep C.Φ C.gv pi ie ρ = ρ1 at h' c' w
    refine ⟨B, F0, noH, ρ1, tv, td, h', (re_ok w c' p').mono (fun _ z => z) fun y hy w1 u H0 h0 => ?_⟩
    refine ⟨B, F0, noH, ρ1, u :: tv, y :: td, h0, c', (re_ok w1 c' p').mono (fun _ z => z.push) fun q hq w2 v v0 H1 h1 e0 r => ?_⟩
    split at w2
    · rename_i cc ns xs hs
      split at w2
      · rename_i cond
        obtain ⟨d, hd, hsd⟩ := subAt_get hs
        obtain ⟨w0, a, dx, fvs, e1, r', ha, en, hl, nxs, kk⟩ := Holds.mutf (tx := [u]) (dx := [y]) h1 rfl hd c' n (by simp only [noVws, cond.1, Bool.and_self]) hsd
        rw [e0] at e1
        cases e1
        rw [reach_inj r r', hX.ok.eK]
        subst en
        refine ⟨a, _, dx, fvs, rfl, ha, hc cc, hf cc, by rw [hl]; exact cond.2, ?_⟩
        obtain ⟨d', u1, h2⟩ := kk (putF x u fvs) [] (putN x y (fvs.map (·.1)) xs).2 [] fun o1 o2 => let ⟨g3, o3, s⟩ := o1.putF (f := x) o2; ⟨g3, [], o3, .nil, by rw [List.append_nil]; exact s⟩
        rw [putN_eq (y := y) hl] at u1
        unfold putAt at w2
        rw [hd] at w2
        dsimp only at w2
        rw [u1] at w2
        exact w2 σ _ h2 (cleanS_set c' fun d e => by cases e; exact noVw_upd u1 (cleanS_get c' hd) (by simp only [noVw, Bool.and_eq_true, decide_eq_true_eq]; exact ⟨(fun z => by cases z), putN_noVw cond.1 nxs⟩)) p'
      · exact w2.elim
    · exact w2.elim
end
end Pu

set_option Elab.async false
set_option linter.all false
set_option maxRecDepth 100000
set_option maxHeartbeats 1000000
/-! PuM: a call that changes what a name holds: what the callee sees, and what comes back. -/
namespace Pu
open PySem PySem.Spec PyProof.Rows L2
/-- the heap without these nodes -/
def off (g : List Addr) (H : Hp) : Hp := fun a => if a ∈ g then none else H a
theorem off_at {g : List Addr} {H : Hp} {a : Addr} {u : HO} (h : H a = some u) (n : a ∉ g) : off g H a = some u := by
  unfold off; rw [if_neg n, h]
theorem off_keep {g : List Addr} {H : Hp} : Keep (off g H) H := fun a u h => by
  unfold off at h
  split at h
  · cases h
  · exact .inl h
theorem off_of {g : List Addr} {B H : Hp} (k : Keep B H) (q : ∀ p ∈ g, B p = none) : Keep B (off g H) := fun a u h => by
  have n : a ∉ g := fun m => by rw [q a m] at h; cases h
  rcases k a u h with e | ⟨e, ps, r⟩
  · exact .inl (off_at e n)
  · exact .inr ⟨e, ps, off_at r n⟩
theorem off_none {g : List Addr} {H : Hp} {a : Addr} (h : off g H a = none) : a ∈ g ∨ H a = none := by
  unfold off at h
  split at h
  · exact .inl ‹_›
  · exact .inr h
section
variable {K : PySem.W.Frag} {cl : Nat → Addr} {H : Hp} {Fz : Addr → Prop} {g : List Addr}
mutual
theorem Own.off (mp : ∀ p ∈ g, MutAt H p) (zp : ∀ p ∈ g, ¬ Fz p) : ∀ {d : D} {v : V} {fp : List Addr}, Own K cl H Fz v d fp → noVw d = true → (∀ p ∈ g, p ∉ fp) → Own K cl (Pu.off g H) Fz v d fp
  | .non, _, _, h, _, _ => by cases h; exact .non
  | .bl _, _, _, h, _, _ => by cases h; exact .bl _
  | .int _, _, _, h, _, _ => by cases h; exact .int _
  | .str _, _, _, h, _, _ => by cases h; exact .str _
  | .is _, _, _, h, _, _ => by cases h; exact .is _
  | .tup ds, _, _, h, n, q => by
    cases h with
    | @tup a vs _ fp ha b =>
      refine .tup ?_ (Owns.off mp zp b n q)
      have ne : ∀ u, H a = some u → Mut (some u) ∨ a ∉ g := fun u e => by
        by_cases z : a ∈ g
        · left; rw [← e]; exact (mp a z).1
        · exact .inr z
      rcases ha with (e | ⟨w, e⟩) | e
      · rcases ne _ e with z | z
        · exact z.elim
        · exact .inl (.inl (off_at e z))
      · rcases ne _ e with z | z
        · exact z.elim
        · exact .inl (.inr ⟨w, off_at e z⟩)
      · exact .inr e
  | .lst f ds, _, _, h, n, q => by
    simp only [noVw, Bool.and_eq_true, decide_eq_true_eq] at n
    cases h with
    | @lst _ a vs _ f0 fp ha b =>
      have b' := Owns.off mp zp b n.2 fun p hp z => q p hp (List.mem_append_right _ z)
      cases ha with
      | fz h1 h2 => exact .lst (.fz (off_at h1 fun e => zp a e h2) h2) b'
      | lk h =>
        refine .lst (.lk (off_at h fun e => ?_)) b'
        have := (mp a e).1
        rw [h] at this
        exact this
      | wr h => exact .lst (.wr h) b'
      | ow h => exact .lst (.ow (off_at h fun e => q a e (List.mem_append_left _ (List.mem_singleton.mpr rfl)))) b'
      | vw h => exact absurd rfl n.1
  | .obj f c ns ds, _, _, h, n, q => by
    simp only [noVw, Bool.and_eq_true, decide_eq_true_eq] at n
    cases h with
    | @obj _ _ a _ vs _ f0 fp ha b =>
      have b' := Owns.off mp zp b n.2 fun p hp z => q p hp (List.mem_append_right _ z)
      cases ha with
      | fz h1 h2 => exact .obj (.fz (off_at h1 fun e => zp a e h2) h2) b'
      | ow h => exact .obj (.ow (off_at h fun e => q a e (List.mem_append_left _ (List.mem_singleton.mpr rfl)))) b'
      | vw h => exact absurd rfl n.1
  | .dct f ks ds, _, _, h, n, q => by
    simp only [noVw, Bool.and_eq_true, decide_eq_true_eq] at n
    cases h with
    | @dct _ a _ vs _ f0 fp ha b =>
      have b' := Owns.off mp zp b n.2 fun p hp z => q p hp (List.mem_append_right _ z)
      cases ha with
      | fz h1 h2 => exact .dct (.fz (off_at h1 fun e => zp a e h2) h2) b'
      | ow h => exact .dct (.ow (off_at h fun e => q a e (List.mem_append_left _ (List.mem_singleton.mpr rfl)))) b'
      | vw h => exact absurd rfl n.1
theorem Owns.off (mp : ∀ p ∈ g, MutAt H p) (zp : ∀ p ∈ g, ¬ Fz p) : ∀ {ds : List D} {vs : List V} {fp : List Addr}, Owns K cl H Fz vs ds fp → noVws ds = true → (∀ p ∈ g, p ∉ fp) → Owns K cl (Pu.off g H) Fz vs ds fp
  | [], _, _, h, _, _ => by cases h; exact .nil
  | d :: ds, _, _, h, n, q => by
    simp only [noVws, Bool.and_eq_true] at n
    cases h with
    | cons a b => exact .cons (Own.off mp zp a n.1 fun p hp z => q p hp (List.mem_append_left _ z)) (Owns.off mp zp b n.2 fun p hp z => q p hp (List.mem_append_right _ z))
end
theorem OwnS.off (mp : ∀ p ∈ g, MutAt H p) (zp : ∀ p ∈ g, ¬ Fz p) {σ : L2.St} {ρ : List (Option D)} {f : List Addr} (h : OwnS K cl H Fz σ ρ f) (n : cleanS ρ = true) (q : ∀ p ∈ g, p ∉ f) : OwnS K cl (Pu.off g H) Fz σ ρ f := by
  induction h with
  | nil => exact .nil
  | skip _ ih => exact .skip (ih (by unfold cleanS at *; simpa using n) q)
  | @put v d σ ρ f1 f2 a _ ih =>
    have hd : noVw d = true := cleanS_get (i := 0) n rfl
    exact .put (a.off mp zp hd fun p hp z => q p hp (List.mem_append_left _ z)) (ih (by unfold cleanS at *; simp only [List.all_cons, Bool.and_eq_true] at n; exact n.2) fun p hp z => q p hp (List.mem_append_right _ z))
end
theorem set_slot {α : Type} {xs : List α} {i : Nat} {x : α} (h : xs[i]? = some x) : xs.set i x = xs := by
  apply List.ext_getElem?
  intro j
  by_cases e : i = j
  · subst e
    rw [h, List.getElem?_set_self (List.getElem?_eq_some_iff.mp h).1]
  · rw [List.getElem?_set_ne e]
section
variable {G : Gb} {B H : Hp} {F0 : Addr → Prop} {σ : L2.St} {ρ : List (Option D)} {tv us : List V} {td ds : List D} {d : D} {i : Nat}
/-- THE CALL of a method of what stands in a slot -/
theorem Holds.meth (h : Holds G B F0 noH σ ρ (us ++ tv) (ds ++ td) H) (e : us.length = ds.length) (hf : allFzs ds = true) (hd : ρ[i]? = some (some d)) (hc : cleanS ρ = true) (nt : noVws td = true) :
    ∃ v Bc Fc, σ[i]? = some (some v) ∧ Holds G Bc Fc noH [] [] (v :: us) (d :: ds) H ∧ ∀ d' tr dr H', tr.length = dr.length → Holds G Bc Fc noH [] [] (tr ++ [v]) (dr ++ [d']) H' → Holds G B F0 noH σ (ρ.set i (some d')) (tr ++ tv) (dr ++ td) H' := by
  obtain ⟨⟨f1, f2, a, b, n, q⟩, kb, kl, tb⟩ := h
  obtain ⟨g1, g2, b1, b2, rfl⟩ := b.split e
  have z := b1.fp_nil hf
  subst z
  rw [List.nil_append] at *
  obtain ⟨v, g, f', e1, o, a', pm⟩ := OwnS.take (x := none) a hd
  have gf : ∀ p ∈ g, p ∈ f1 := fun p hp => pm.subset (List.mem_append_right _ hp)
  have ff : ∀ p ∈ f', p ∈ f1 := fun p hp => pm.subset (List.mem_append_left _ hp)
  have n1 := (List.nodup_append.mp n).1
  have nfg : (f' ++ g).Nodup := pm.nodup_iff.mpr n1
  have gm : ∀ p ∈ g, MutAt H p := fun p hp => a.mut p (gf p hp)
  have gz : ∀ p ∈ g, ¬ Fzp B F0 (f1 ++ g2) p := fun p hp z => z.2 (List.mem_append_left _ (gf p hp))
  have gB : ∀ p ∈ g, B p = none := fun p hp => q p (List.mem_append_left _ (gf p hp))
  have gnf : ∀ p ∈ g, p ∉ f' := fun p hp m => (List.nodup_append.mp nfg).2.2 p m p hp rfl
  have gng : ∀ p ∈ g, p ∉ g2 := fun p hp m => (List.nodup_append.mp n).2.2 p (gf p hp) p m rfl
  have cl' : cleanS (ρ.set i none) = true := cleanS_set hc fun d e => by cases e
  refine ⟨v, Pu.off g H, fun x => Fzp B F0 (f1 ++ g2) x ∧ H x ≠ none, e1, ⟨⟨[], g ++ [], .nil, .cons (o.keep (Keep.refl _) ?_) (b1.keep (Keep.refl _) ?_), ?_, ?_⟩, off_keep, Keep.noH _, tb⟩, ?_⟩
  · exact fun x hx z => ⟨.inl ⟨z, hx⟩, fun m => gz x (by simpa using m) z⟩
  · exact fun x hx z => ⟨.inl ⟨z, hx⟩, fun m => gz x (by simpa using m) z⟩
  · simpa using (List.nodup_append.mp nfg).2.1
  · intro p hp
    have hp : p ∈ g := by simpa using hp
    unfold Pu.off
    rw [if_pos hp]
  · intro d' tr dr H' er h'
    obtain ⟨⟨x1, x2, a2, c2, n2, q2⟩, kb', kl', tb'⟩ := h'
    have z1 : x1 = [] := by cases a2; rfl
    subst z1
    rw [List.nil_append] at *
    obtain ⟨k1, k2, c3, c4, rfl⟩ := c2.split er
    cases c4 with
    | @cons _ _ _ _ k k0 o' c5 =>
    cases c5
    rw [List.append_nil] at *
    have hi : i < (ρ.set i none).length := by rw [List.length_set]; exact (List.getElem?_eq_some_iff.mp hd).1
    have ao := OwnS.off gm gz a' cl' gnf
    have bo := Owns.off gm gz b2 nt gng
    have off2 : ∀ p ∈ k1 ++ k, p ∈ g ∨ H p = none := fun p hp => off_none (q2 p hp)
    have fH : ∀ p ∈ f' ++ g2, H p ≠ none := fun p hp => by
      rcases List.mem_append.mp hp with m | m
      · exact (a.mut p (ff p m)).2
      · exact (b2.mut p m).2
    have fg : ∀ p ∈ f' ++ g2, p ∉ g := fun p hp m => by
      rcases List.mem_append.mp hp with z | z
      · exact gnf p m z
      · exact gng p m z
    have dis : ∀ p ∈ k1 ++ k, p ∉ f' ++ g2 := fun p hp m => by
      rcases off2 p hp with z | z
      · exact fg p m z
      · exact fH p m z
    have fsub : ∀ p ∈ f' ++ g2, p ∈ f1 ++ g2 := fun p hp => by
      rcases List.mem_append.mp hp with z | z
      · exact List.mem_append_left _ (ff p z)
      · exact List.mem_append_right _ z
    -- all that is held now
    have mem : ∀ {F : List Addr}, Sb F (k ++ f') → ∀ p ∈ F ++ (k1 ++ g2), p ∈ k1 ++ k ∨ p ∈ f' ++ g2 := fun s p hp => by
      rcases List.mem_append.mp hp with m | m
      · rcases List.mem_append.mp (s.mem p m) with m | m
        · exact .inl (List.mem_append_right _ m)
        · exact .inr (List.mem_append_left _ m)
      · rcases List.mem_append.mp m with m | m
        · exact .inl (List.mem_append_left _ m)
        · exact .inr (List.mem_append_right _ m)
    have mono2 : ∀ {F : List Addr}, (∀ p ∈ F, p ∈ k1 ++ k ∨ p ∈ f' ++ g2) → ∀ x, Pu.off g H x ≠ none → Fzp B F0 (f1 ++ g2) x → Fzp B F0 F x := fun s x hx z => ⟨z.1, fun m => by
      rcases s x m with m | m
      · exact hx (q2 x m)
      · exact z.2 (fsub x m)⟩
    have mono3 : ∀ {F : List Addr}, (∀ p ∈ F, p ∈ k1 ++ k ∨ p ∈ f' ++ g2) → ∀ x, H' x ≠ none → Fzp (Pu.off g H) (fun x => Fzp B F0 (f1 ++ g2) x ∧ H x ≠ none) (k1 ++ k) x → Fzp B F0 F x := fun s x _ z => by
      rcases z with ⟨z | z, zn⟩
      · exact ⟨z.1.1, fun m => by
          rcases s x m with m | m
          · exact zn m
          · exact z.1.2 (fsub x m)⟩
      · rcases off_none z with y | y
        · exact ⟨.inr (gB x y), fun m => by
            rcases s x m with m | m
            · exact zn m
            · exact fg x m y⟩
        · exact ⟨.inr (kb.none y), fun m => by
            rcases s x m with m | m
            · exact zn m
            · exact fH x m y⟩
    have M : ∀ p ∈ (k1 ++ k) ++ (f' ++ g2), p ∈ k1 ++ k ∨ p ∈ f' ++ g2 := fun p hp => List.mem_append.mp hp
    obtain ⟨f3, s3, sb⟩ := (ao.keep kb' (mono2 M)).set hi (o'.keep (Keep.refl _) (mono3 M))
    rw [List.set_set, List.set_set, set_slot e1] at s3
    have m4 : ∀ x, H' x ≠ none → Fzp B F0 ((k1 ++ k) ++ (f' ++ g2)) x → Fzp B F0 (f3 ++ (k1 ++ g2)) x := fun x _ z => ⟨z.1, fun m => z.2 (List.mem_append.mpr (mem sb x m))⟩
    have big : ((k ++ f') ++ (k1 ++ g2)).Nodup := by
      have pm2 : ((k ++ f') ++ (k1 ++ g2)).Perm ((k1 ++ k) ++ (f' ++ g2)) := List.perm_iff_count.mpr fun a => by simp only [List.count_append]; omega
      rw [pm2.nodup_iff]
      exact List.nodup_append.mpr ⟨n2, List.nodup_append.mpr ⟨(List.nodup_append.mp nfg).1, (List.nodup_append.mp n).2.1, fun p hp r hr e => (List.nodup_append.mp n).2.2 p (ff p hp) r hr e⟩, fun p hp r hr e => dis p hp (e ▸ hr)⟩
    refine ⟨⟨f3, k1 ++ g2, s3.keep (Keep.refl _) m4, ((c3.keep (Keep.refl _) (mono3 M)).append (bo.keep kb' (mono2 M))).keep (Keep.refl _) m4, (sb.app (Sb.refl _)).nodup big, fun p hp => ?_⟩, (off_of kb gB).trans kb', Keep.noH _, tb'⟩
    rcases mem sb p hp with m | m
    · rcases off2 p m with z | z
      · exact gB p z
      · exact kb.none z
    · exact q p (fsub p m)
end
end Pu
namespace Pu
open PySem PySem.Spec PyProof.Rows L2
theorem meth_late {prog : Program} {w : World} {A : Around} {env : Env} {o : Expr} {name : Str} {apos pos : Pos} {args : List Expr} {Q : Value → Shared → Prop} {E : Value → Shared → Prop} {s : Shared}
    (hbase : attributeBase o name env (eval o env) = eval o env)
    (hfew : ((backTo pos (starEach args env)).all (fun x => !x.1) && (backToKw pos (keywordEach [] env)).all (fun x => x.1.isSome)
      && decide (args.length + ([] : List Keyword).length + (if ([] : List Keyword).isEmpty then 0 else 1) < 30)) = true)
    (hline : (apos.endLine == pos.line) = true)
    (h : wpAny (model prog w) A (eval o env) (fun ov s₁ => ∀ pl, wpAny (model prog w) A (getMethod ov name pl) (fun fx s₂ => wpAny (model prog w) A (callWith pos fx.1 fx.2 (backTo pos (starEach args env)) (backToKw pos (keywordEach [] env))) Q E s₂) E s₁) E s) :
    wpAny (model prog w) A (eval (.Call (.Attribute o name apos) args [] pos) env) Q E s := by
  rw [arm_eval_Call, hbase]
  refine wpAny_bind (wpAny_mono h (fun ov s₁ h₁ => ?_) fun _ _ e => e)
  refine wpAny_bind (wpAny_standAt ?_)
  have hform : methodCallForm (args.length + ([] : List Keyword).length) (backTo pos (starEach args env)) (backToKw pos (keywordEach [] env)) = true := hfew
  have hpos : methodCallPos true o env apos pos = pure pos := by unfold methodCallPos; simp [hline]
  unfold methodCall
  rw [hform]
  refine wpAny_bind (wpAny_holding (wpAny_mono (h₁ _) (fun fx s₂ h₂ => ?_) fun _ _ x => x))
  exact wpAny_bind (wpAny_of_eq hpos h₂)
section
variable {C : Cf} {k kl : Nat} {N : List Str} {sc : Scope} {st : List Str} {X : Cx} {W : WX} {f cA : Addr} {fd : FuncData} {ps : List Str} {sp : Sp} {m : Str} {o e : Expr} {es : List Expr} {apos pos : Pos} {ta : TE} {t : TA}
def tMethG (cA : Addr) (m : Str) (sp : Sp) (W : WX) (ta : TE) (t : TA) : TE := fun σ H Q => ta σ H fun x H1 => ∃ a dx fs, x = .ref a ∧ H1 a = some (.ins cA dx fs) ∧ fs.lookup m = none ∧ t σ H1 fun vs H2 => sp (x :: vs) H2 Q (WE W σ)
theorem pe_methG (hX : CtxOk C k N sc st X W) (he : PE X o ta) (c : L2.Cls C.G.K cA) (hm : L2.Meth C.G.K cA m f) (F : FnG C kl f fd ps sp) (hk : kl ≤ k) (hb : Binds C.G.K fd ps [])
    (hbase : attributeBase o m X.env (eval o X.env) = eval o X.env)
    (hfew : ((backTo pos (starEach (e :: es) X.env)).all (fun x => !x.1) && (backToKw pos (keywordEach [] X.env)).all (fun x => x.1.isSome)
      && decide ((e :: es).length + ([] : List Keyword).length + (if ([] : List Keyword).isEmpty then 0 else 1) < 30)) = true)
    (hline : (apos.endLine == pos.line) = true) (hn : (e :: es).all nst = true) (ha : PA X (e :: es) t) :
    PE X (.Call (.Attribute o m apos) (e :: es) [] pos) (tMethG cA m sp W ta t) := by
  rw [List.all_cons, Bool.and_eq_true] at hn
  refine ⟨fun pins s σ H Q I h => meth_late hbase hfew hline (thn (he.run pins s σ H _ I h) fun u s1 ⟨x, H1, I1, rx, a, dx, fs, ex, ea, l, q⟩ pl => ?_)⟩
  subst ex
  obtain rfl : u = Value.ref a := rx
  refine getmeth_ok I1 ea (hX.eK ▸ c) (hX.eK ▸ hm) l ?_
  refine PySem.W.callWith_K (first := [.ref a]) (h₀ := X.base) I.ok.mod.kin (by rw [hX.eK]; exact hm.kp) (thn (ha.run pos pins s1 σ H1 _ I1 q) fun us s2 ⟨vs, H2, I2, r, q2⟩ => ⟨I2.kIn, ?_⟩) (star_cons hn.1 es X.env) (star_any hn.2)
  exact run_G (us := .ref a :: us) (vs := .ref a :: vs) hX F hk hb I2 (.cons rfl r) q2
theorem pe_methG0 (hX : CtxOk C k N sc st X W) (he : PE X o ta) (c : L2.Cls C.G.K cA) (hm : L2.Meth C.G.K cA m f) (F : FnG C kl f fd ps sp) (hk : kl ≤ k) (hb : Binds C.G.K fd ps [])
    (hbase : attributeBase o m X.env (eval o X.env) = eval o X.env) (hline : (apos.endLine == pos.line) = true) :
    PE X (.Call (.Attribute o m apos) [] [] pos) (tMethG cA m sp W ta tNil) := by
  refine ⟨fun pins s σ H Q I h => meth_late hbase rfl hline (thn (he.run pins s σ H _ I h) fun u s1 ⟨x, H1, I1, rx, a, dx, fs, ex, ea, l, q⟩ pl => ?_)⟩
  subst ex
  obtain rfl : u = Value.ref a := rx
  refine getmeth_ok I1 ea (hX.eK ▸ c) (hX.eK ▸ hm) l ?_
  exact PySem.W.callWith_K0 (first := [.ref a]) I1.kIn (by rw [hX.eK]; exact hm.kp) (run_G (us := [.ref a]) (vs := [.ref a]) hX F hk hb I1 (.cons rfl .nil) q)
end
end Pu

set_option Elab.async false
set_option linter.all false
set_option maxRecDepth 100000
set_option maxHeartbeats 1000000
/-! PuS: parts of what slots hold taken out and put back; a call that owns its arguments. -/
namespace Pu
open PySem PySem.Spec PyProof.Rows L2
section
variable {K : PySem.W.Frag} {cl : Nat → Addr} {H : Hp} {Fz : Addr → Prop}
theorem Owns.swap1 : ∀ {ds : List D} {vs : List V} {f : List Addr} {j : Nat} {d : D}, Owns K cl H Fz vs ds f → ds[j]? = some d → ∃ w g fr, vs[j]? = some w ∧ Own K cl H Fz w d g ∧ (g ++ fr).Perm f ∧
    ∀ (d' : D) (g' : List Addr), Own K cl H Fz w d' g' → ∃ f', Owns K cl H Fz vs (ds.set j d') f' ∧ f'.Perm (g' ++ fr)
  | [], _, _, _, _, h, e => by simp at e
  | d0 :: ds, _, _, 0, d, h, e => by
    cases h with
    | @cons v vs _ _ f1 f2 h1 h2 =>
      simp only [List.getElem?_cons_zero, Option.some.injEq] at e
      subst e
      exact ⟨v, f1, f2, rfl, h1, List.Perm.refl _, fun d' g' o' => ⟨_, .cons o' h2, List.Perm.refl _⟩⟩
  | d0 :: ds, _, _, j + 1, d, h, e => by
    cases h with
    | @cons v vs _ _ f1 f2 h1 h2 =>
      obtain ⟨w, g, fr, e1, ow, p, k⟩ := Owns.swap1 h2 (by simpa using e)
      refine ⟨w, g, f1 ++ fr, by simpa using e1, ow, ?_, fun d' g' o' => ?_⟩
      · refine List.Perm.trans ?_ (p.append_left f1)
        rw [← List.append_assoc, ← List.append_assoc]
        exact (List.perm_append_comm).append_right fr
      · obtain ⟨f', q, p'⟩ := k d' g' o'
        refine ⟨_, .cons h1 q, ?_⟩
        refine (p'.append_left f1).trans ?_
        rw [← List.append_assoc, ← List.append_assoc]
        exact (List.perm_append_comm).append_right fr
theorem perm_c {a g fr1 fr2 fp g1 : List Addr} (p1 : (g1 ++ fr1).Perm fp) (p2 : (g ++ fr2).Perm g1) : (g ++ (a ++ (fr2 ++ fr1))).Perm (a ++ fp) := by
  refine List.Perm.trans ?_ (p1.append_left a)
  refine List.Perm.trans ?_ ((p2.append_right fr1).append_left a)
  exact List.perm_iff_count.mpr fun x => by
    simp only [List.count_append]; omega
theorem perm_d {a f'' f' g' fr1 fr2 : List Addr} (p1 : f''.Perm (f' ++ fr1)) (p2 : f'.Perm (g' ++ fr2)) : (a ++ f'').Perm (g' ++ (a ++ (fr2 ++ fr1))) := by
  refine (p1.append_left a).trans (((p2.append_right fr1).append_left a).trans ?_)
  exact List.perm_iff_count.mpr fun x => by
    simp only [List.count_append]; omega
theorem Own.swap : ∀ (p : List PEl) {d : D} {v : V} {f : List Addr} {d1 : D}, Own K cl H Fz v d f → subD p d = some d1 → ∃ w g fr, reach H p v w ∧ Own K cl H Fz w d1 g ∧ (g ++ fr).Perm f ∧
    ∀ (d' : D) (g' : List Addr), Own K cl H Fz w d' g' → ∃ e f', updD p d d' = some e ∧ Own K cl H Fz v e f' ∧ f'.Perm (g' ++ fr)
  | [], d, v, f, d1, h, e => by
    simp only [subD, Option.some.injEq] at e
    subst e
    exact ⟨v, f, [], rfl, h, by rw [List.append_nil], fun d' g' o' => ⟨d', g', rfl, o', by rw [List.append_nil]⟩⟩
  | .ix j :: p, d, v, f, d1, h, e => by
    cases d <;> first | (simp [subD] at e; done) | skip
    rename_i fl xs
    cases fl <;> first | (simp [subD] at e; done) | skip
    simp only [subD] at e
    split at e
    · rename_i d0 hd
      cases h with
      | @lst _ a0 vs _ f0 fp ha b =>
        obtain ⟨w1, g1, fr1, e1, ow1, p1, k1⟩ := b.swap1 hd
        obtain ⟨w, g, fr2, r, ow2, p2, k2⟩ := Own.swap p ow1 e
        cases ha with
        | ow ha =>
          refine ⟨w, g, [a0] ++ (fr2 ++ fr1), ⟨a0, vs, w1, rfl, ha, e1, r⟩, ow2, perm_c p1 p2, fun d' g' o' => ?_⟩
          obtain ⟨e', f', u1, o1, q1⟩ := k2 d' g' o'
          obtain ⟨f'', o2, q2⟩ := k1 e' f' o1
          exact ⟨_, _, by simp only [updD, hd, u1, Option.map_some], .lst (.ow ha) o2, perm_d q2 q1⟩
    · cases e
  | .fl x :: p, d, v, f, d1, h, e => by
    cases d <;> first | (simp [subD] at e; done) | skip
    rename_i fl c ns xs
    cases fl <;> first | (simp [subD] at e; done) | skip
    simp only [subD] at e
    split at e
    · rename_i j hj
      split at e
      · rename_i d0 hd
        cases h with
        | @obj _ _ a0 _ vs _ f0 fp ha b =>
          obtain ⟨w1, g1, fr1, e1, ow1, p1, k1⟩ := b.swap1 hd
          obtain ⟨w, g, fr2, r, ow2, p2, k2⟩ := Own.swap p ow1 e
          cases ha with
          | @ow _ _ dx fvs ha =>
            refine ⟨w, g, [a0] ++ (fr2 ++ fr1), ⟨a0, _, dx, fvs, w1, rfl, ha, fIx_lookup hj e1, r⟩, ow2, perm_c p1 p2, fun d' g' o' => ?_⟩
            obtain ⟨e', f', u1, o1, q1⟩ := k2 d' g' o'
            obtain ⟨f'', o2, q2⟩ := k1 e' f' o1
            exact ⟨_, _, by simp only [updD, hj, hd, u1, Option.map_some], .obj (.ow ha) o2, perm_d q2 q1⟩
      · cases e
    · cases e
end
theorem subD_upd : ∀ (q : List PEl) {d x e : D}, updD q d x = some e → subD q e = some x
  | [], d, x, e, h => by simp only [updD, Option.some.injEq] at h; rw [← h]; rfl
  | .ix j :: q, d, x, e, h => by
    cases d <;> first | (simp [updD] at h; done) | skip
    rename_i fl xs
    cases fl <;> first | (simp [updD] at h; done) | skip
    simp only [updD] at h
    split at h
    · rename_i d0 hd
      obtain ⟨e0, h0, rfl⟩ := Option.map_eq_some_iff.mp h
      have hl := (List.getElem?_eq_some_iff.mp hd).1
      simp only [subD, List.getElem?_set_self hl]
      exact subD_upd q h0
    · cases h
  | .fl f :: q, d, x, e, h => by
    cases d <;> first | (simp [updD] at h; done) | skip
    rename_i fl c ns xs
    cases fl <;> first | (simp [updD] at h; done) | skip
    simp only [updD] at h
    split at h
    · rename_i j hj
      split at h
      · rename_i d0 hd
        obtain ⟨e0, h0, rfl⟩ := Option.map_eq_some_iff.mp h
        have hl := (List.getElem?_eq_some_iff.mp hd).1
        simp only [subD, hj, List.getElem?_set_self hl]
        exact subD_upd q h0
      · cases h
    · cases h
/-- changed twice at a path: as once -/
theorem updD_twice : ∀ (q : List PEl) {d x e y : D}, updD q d x = some e → updD q e y = updD q d y
  | [], d, x, e, y, h => by simp only [updD, Option.some.injEq] at h; rw [← h]; rfl
  | .ix j :: q, d, x, e, y, h => by
    cases d <;> first | (simp [updD] at h; done) | skip
    rename_i fl xs
    cases fl <;> first | (simp [updD] at h; done) | skip
    simp only [updD] at h ⊢
    split at h
    · rename_i d0 hd
      obtain ⟨e0, h0, rfl⟩ := Option.map_eq_some_iff.mp h
      have hl := (List.getElem?_eq_some_iff.mp hd).1
      simp only [updD, List.getElem?_set_self hl, hd, updD_twice q h0, List.set_set]
    · cases h
  | .fl f :: q, d, x, e, y, h => by
    cases d <;> first | (simp [updD] at h; done) | skip
    rename_i fl c ns xs
    cases fl <;> first | (simp [updD] at h; done) | skip
    simp only [updD] at h ⊢
    split at h
    · rename_i j hj
      split at h
      · rename_i d0 hd
        obtain ⟨e0, h0, rfl⟩ := Option.map_eq_some_iff.mp h
        have hl := (List.getElem?_eq_some_iff.mp hd).1
        simp only [updD, hj, List.getElem?_set_self hl, hd, updD_twice q h0, List.set_set]
      · cases h
    · cases h
section
variable {G : Gb} {B Lk H : Hp} {F0 : Addr → Prop} {σ : L2.St} {ρ : List (Option D)} {tv us : List V} {td ds : List D} {d d1 d' : D} {i : Nat} {v : V} {q : List PEl}
/-- the part at a path goes to the top; just its value is left -/
theorem Holds.takeP (h : Holds G B F0 Lk σ ρ tv td H) (hd : ρ[i]? = some (some d)) (hs : subD q d = some d1) : ∃ v0 v e, σ[i]? = some (some v0) ∧ reach H q v0 v ∧ updD q d (.is v) = some e ∧ Holds G B F0 Lk σ (ρ.set i (some e)) (v :: tv) (d1 :: td) H := by
  obtain ⟨⟨f1, f2, a, b, n, qB⟩, kb, kl, tb⟩ := h
  obtain ⟨v0, g0, f', e1, o, a', pm⟩ := a.take (x := none) hd
  obtain ⟨w, g, fr, r, ow, p1, k⟩ := o.swap q hs
  obtain ⟨e, f3, u, oe, p2⟩ := k (.is w) [] (.is w)
  obtain ⟨f4, s4, sb⟩ := a'.set (i := i) (by rw [List.length_set]; exact (List.getElem?_eq_some_iff.mp hd).1) oe
  rw [List.set_set, List.set_set, set_same e1] at s4
  have sub : Sb (f4 ++ (g ++ f2)) (f1 ++ f2) := by
    refine (sb.app (Sb.refl _)).trans (Sb.of_perm ?_)
    refine List.Perm.trans ?_ (pm.append_right f2)
    refine List.perm_iff_count.mpr fun x => ?_
    have c1 := p1.count_eq x
    have c2 := p2.count_eq x
    simp only [List.count_append, List.count_nil] at *
    omega
  have mono : ∀ a, H a ≠ none → Fzp B F0 (f1 ++ f2) a → Fzp B F0 (f4 ++ (g ++ f2)) a := fun a _ z => ⟨z.1, fun m => z.2 (sub.mem a m)⟩
  exact ⟨v0, w, e, e1, r, u, ⟨f4, g ++ f2, s4.keep (Keep.refl _) mono, .cons (ow.keep (Keep.refl _) mono) (b.keep (Keep.refl _) mono), sub.nodup n, fun p hp => qB p (sub.mem p hp)⟩, kb, kl, tb⟩
/-- .. and back -/
theorem Holds.putP (h : Holds G B F0 Lk σ ρ (v :: tv) (d' :: td) H) (hd : ρ[i]? = some (some d)) (hs : subD q d = some (.is v)) : ∃ e, updD q d d' = some e ∧ Holds G B F0 Lk σ (ρ.set i (some e)) tv td H := by
  obtain ⟨⟨f1, f2, a, b, n, qB⟩, kb, kl, tb⟩ := h
  obtain ⟨v0, g0, f', e1, o, a', pm⟩ := a.take (x := none) hd
  obtain ⟨w, g, fr, r, ow, p1, k⟩ := o.swap q hs
  cases ow
  cases b with
  | @cons _ _ _ _ g1 g2 b1 b2 =>
    obtain ⟨e, f3, u, oe, p2⟩ := k d' g1 b1
    obtain ⟨f4, s4, sb⟩ := a'.set (i := i) (by rw [List.length_set]; exact (List.getElem?_eq_some_iff.mp hd).1) oe
    rw [List.set_set, List.set_set, set_same e1] at s4
    have sub : Sb (f4 ++ g2) (f1 ++ (g1 ++ g2)) := by
      refine (sb.app (Sb.refl _)).trans (Sb.of_perm ?_)
      refine List.Perm.trans ?_ (pm.append_right (g1 ++ g2))
      refine List.perm_iff_count.mpr fun x => ?_
      have c1 := p1.count_eq x
      have c2 := p2.count_eq x
      simp only [List.count_append, List.count_nil] at *
      omega
    have mono : ∀ a, H a ≠ none → Fzp B F0 (f1 ++ (g1 ++ g2)) a → Fzp B F0 (f4 ++ g2) a := fun a _ z => ⟨z.1, fun m => z.2 (sub.mem a m)⟩
    exact ⟨e, u, ⟨f4, g2, s4.keep (Keep.refl _) mono, b2.keep (Keep.refl _) mono, sub.nodup n, fun p hp => qB p (sub.mem p hp)⟩, kb, kl, tb⟩
/-- THE CALL of what owns its arguments -/
theorem Holds.callX (h : Holds G B F0 noH σ ρ (us ++ tv) (ds ++ td) H) (e : us.length = ds.length) (hc : cleanS ρ = true) (nt : noVws td = true) :
    ∃ Bc Fc, Holds G Bc Fc noH [] [] us ds H ∧ ∀ tr dr H', tr.length = dr.length → Holds G Bc Fc noH [] [] tr dr H' → Holds G B F0 noH σ ρ (tr ++ tv) (dr ++ td) H' := by
  obtain ⟨⟨f1, f2, a, b, n, q⟩, kb, kl, tb⟩ := h
  obtain ⟨g, g2, b1, b2, rfl⟩ := b.split e
  have n1 := List.nodup_append.mp n
  have n2 := List.nodup_append.mp n1.2.1
  have gm : ∀ p ∈ g, MutAt H p := fun p hp => b1.mut p hp
  have gz : ∀ p ∈ g, ¬ Fzp B F0 (f1 ++ (g ++ g2)) p := fun p hp z => z.2 (List.mem_append_right _ (List.mem_append_left _ hp))
  have gB : ∀ p ∈ g, B p = none := fun p hp => q p (List.mem_append_right _ (List.mem_append_left _ hp))
  have gnf : ∀ p ∈ g, p ∉ f1 := fun p hp m => n1.2.2 p m p (List.mem_append_left _ hp) rfl
  have gng : ∀ p ∈ g, p ∉ g2 := fun p hp m => n2.2.2 p hp p m rfl
  refine ⟨Pu.off g H, fun x => Fzp B F0 (f1 ++ (g ++ g2)) x ∧ H x ≠ none, ⟨⟨[], g, .nil, b1.keep (Keep.refl _) ?_, n2.1, ?_⟩, off_keep, Keep.noH _, tb⟩, ?_⟩
  · exact fun x hx z => ⟨.inl ⟨z, hx⟩, fun m => gz x (by simpa using m) z⟩
  · intro p hp
    have hp : p ∈ g := by simpa using hp
    unfold Pu.off
    rw [if_pos hp]
  · intro tr dr H' er h'
    obtain ⟨⟨x1, k1, a2, c3, n2', q2⟩, kb', kl', tb'⟩ := h'
    have z1 : x1 = [] := by cases a2; rfl
    subst z1
    rw [List.nil_append] at *
    have ao := OwnS.off gm gz a hc gnf
    have bo := Owns.off gm gz b2 nt gng
    have off2 : ∀ p ∈ k1, p ∈ g ∨ H p = none := fun p hp => off_none (q2 p hp)
    have fH : ∀ p ∈ f1 ++ g2, H p ≠ none := fun p hp => by
      rcases List.mem_append.mp hp with m | m
      · exact (a.mut p m).2
      · exact (b2.mut p m).2
    have fg : ∀ p ∈ f1 ++ g2, p ∉ g := fun p hp m => by
      rcases List.mem_append.mp hp with z | z
      · exact gnf p m z
      · exact gng p m z
    have dis : ∀ p ∈ k1, p ∉ f1 ++ g2 := fun p hp m => by
      rcases off2 p hp with z | z
      · exact fg p m z
      · exact fH p m z
    have mono2 : ∀ x, Pu.off g H x ≠ none → Fzp B F0 (f1 ++ (g ++ g2)) x → Fzp B F0 (f1 ++ (k1 ++ g2)) x := fun x hx z => ⟨z.1, fun m => by
      rcases List.mem_append.mp m with m | m
      · exact z.2 (List.mem_append_left _ m)
      · rcases List.mem_append.mp m with m | m
        · exact hx (q2 x m)
        · exact z.2 (List.mem_append_right _ (List.mem_append_right _ m))⟩
    have mono3 : ∀ x, H' x ≠ none → Fzp (Pu.off g H) (fun x => Fzp B F0 (f1 ++ (g ++ g2)) x ∧ H x ≠ none) k1 x → Fzp B F0 (f1 ++ (k1 ++ g2)) x := fun x _ z => by
      have key : x ∉ f1 ++ g2 ∧ (F0 x ∨ B x = none) := by
        rcases z with ⟨z | z, zn⟩
        · refine ⟨fun m => ?_, z.1.1⟩
          rcases List.mem_append.mp m with m | m
          · exact z.1.2 (List.mem_append_left _ m)
          · exact z.1.2 (List.mem_append_right _ (List.mem_append_right _ m))
        · rcases off_none z with y | y
          · exact ⟨fun m => fg x m y, .inr (gB x y)⟩
          · exact ⟨fun m => fH x m y, .inr (kb.none y)⟩
      refine ⟨key.2, fun m => ?_⟩
      rcases List.mem_append.mp m with m | m
      · exact key.1 (List.mem_append_left _ m)
      · rcases List.mem_append.mp m with m | m
        · exact z.2 m
        · exact key.1 (List.mem_append_right _ m)
    refine ⟨⟨f1, k1 ++ g2, ao.keep kb' mono2, (c3.keep (Keep.refl _) mono3).append (bo.keep kb' mono2), ?_, fun p hp => ?_⟩, (off_of kb gB).trans kb', Keep.noH _, tb'⟩
    · refine List.nodup_append.mpr ⟨n1.1, List.nodup_append.mpr ⟨n2', n2.2.1, fun p hp r hr e => dis p hp (List.mem_append_right _ (e ▸ hr))⟩, fun p hp r hr e => ?_⟩
      subst e
      rcases List.mem_append.mp hr with m | m
      · exact dis p m (List.mem_append_left _ hp)
      · exact n1.2.2 p hp p (List.mem_append_right _ m) rfl
    · rcases List.mem_append.mp hp with m | m
      · exact q p (List.mem_append_left _ m)
      · rcases List.mem_append.mp m with m | m
        · rcases off2 p m with z | z
          · exact gB p z
          · exact kb.none z
        · exact q p (List.mem_append_right _ (List.mem_append_right _ m))
end
end Pu

set_option Elab.async false
set_option linter.all false
set_option maxRecDepth 100000
set_option maxHeartbeats 1000000
/-! PuE: expressions that change what a name holds. -/
namespace Pu
open PySem PySem.Spec PyProof.Rows L2
section
variable {C : Cf} {k : Nat} {N : List Str} {sc : Scope} {st : List Str} {pi : List Nat} {B Lk H : Hp} {F0 : Addr → Prop} {tv : List V} {td : List D} {pv : List (Option (Option V))} {W : WX} {E : Ends} {a b e o : Expr} {ia ib ie : Ex} {pos pos' apos cpos tpos : Pos} {σ : L2.St} {ρ : List (Option D)} {d : D} {v : V} {i : Nat} {p : List Pt}
/-- the list at the path of a slot, its new state, and what is then on top -/
theorem lst_atX {q : List PEl} {xs : List D} {tx : List V} {dx : List D} {v0 v : V} (h : Holds C.G B F0 noH σ ρ (tx ++ tv) (dx ++ td) H) (ex : tx.length = dx.length) (c : cleanS ρ = true) (n : noVws td = true) (nx : noVws dx = true) (hs : subAt ρ i q = some (.lst .ow xs)) (e0 : σ[i]? = some (some v0)) (r : reach H q v0 v) :
    ∃ a vs, v = .ref a ∧ H a = some (.lst vs) ∧ vs.length = xs.length ∧ noVws xs = true ∧ ∀ (vs' ty : List V) (xs' dy : List D), noVws xs' = true → (∀ {H' : Hp} {Fz : Addr → Prop} {g g2 : List Addr}, Owns C.G.K C.G.cl H' Fz vs xs g → Owns C.G.K C.G.cl H' Fz tx dx g2 → ∃ g3 g4, Owns C.G.K C.G.cl H' Fz vs' xs' g3 ∧ Owns C.G.K C.G.cl H' Fz ty dy g4 ∧ Sb (g3 ++ g4) (g ++ g2)) →
      ∃ ρ', putAt ρ i q (.lst .ow xs') = .nx ρ' ∧ cleanS ρ' = true ∧ Holds C.G B F0 noH σ ρ' (ty ++ tv) (dy ++ td) (L2.upd H a (.lst vs')) := by
  obtain ⟨d, hd, hs⟩ := subAt_get hs
  obtain ⟨w0, a, vs, e1, r', ha, hl, nxs, k⟩ := h.mutl ex hd c n nx hs
  rw [e0] at e1
  cases e1
  rw [reach_inj r r']
  refine ⟨a, vs, rfl, ha, hl, nxs, fun vs' ty xs' dy nx' gv => ?_⟩
  obtain ⟨d', u, h'⟩ := k vs' ty xs' dy gv
  refine ⟨ρ.set i (some d'), ?_, cleanS_set c fun d e => by cases e; exact noVw_upd u (cleanS_get c hd) (by simp only [noVw, Bool.and_eq_true, decide_eq_true_eq]; exact ⟨(fun z => by cases z), nx'⟩), h'⟩
  unfold putAt
  rw [hd]
  dsimp only
  rw [u]
/-- one out of many: its feet and the others' -/
theorem Owns.out {K : PySem.W.Frag} {cl : Nat → Addr} {H : Hp} {Fz : Addr → Prop} : ∀ {vs : List V} {xs : List D} {g : List Addr} {j : Nat} {v : V} {x : D}, Owns K cl H Fz vs xs g → vs[j]? = some v → xs[j]? = some x → ∃ g3 g4, Owns K cl H Fz (vs.eraseIdx j) (xs.eraseIdx j) g3 ∧ Own K cl H Fz v x g4 ∧ (g3 ++ g4).Perm g
  | [], [], _, j, v, x, .nil, e, _ => by simp at e
  | w :: vs, y :: xs, _, 0, v, x, .cons (f1 := f1) (f2 := f2) a b, e1, e2 => by
    simp only [List.getElem?_cons_zero, Option.some.injEq] at e1 e2
    subst e1 e2
    exact ⟨f2, f1, b, a, List.perm_append_comm⟩
  | w :: vs, y :: xs, _, j + 1, v, x, .cons (f1 := f1) (f2 := f2) a b, e1, e2 => by
    obtain ⟨g3, g4, o1, o2, pm⟩ := Owns.out (j := j) b (by simpa using e1) (by simpa using e2)
    refine ⟨f1 ++ g3, g4, .cons a o1, o2, ?_⟩
    rw [List.append_assoc]
    exact pm.append_left f1
/-- .. asked of the machine -/
def tXE (C : Cf) (f : List (Option D) → OutE) (W : WX) : TE := fun σ H Q => ∃ B F0 ρ tv td, Holds C.G B F0 noH σ ρ tv td H ∧ cleanS ρ = true ∧ noVws td = true ∧ match f ρ with
  | .ok d ρ' => ∀ v H', Holds C.G B F0 noH σ ρ' (v :: tv) (d :: td) H' → cleanS ρ' = true → noVw d = true → Q v H'
  | .ex x ρ' => ∀ H', Holds C.G B F0 noH σ ρ' tv td H' → cleanS ρ' = true → ∀ cls dx, ExR C.G H' x cls dx → W cls dx σ H'
  | .bad => False
def SXe (C : Cf) (k : Nat) (N : List Str) (sc : Scope) (st : List Str) (pi : List Nat) (e : Expr) (xe : Xe) : Prop := ∀ X W, CtxOk C k N sc st X W → PE X e (tXE C (evE C.Φ C.gv pi xe) W)
/-- x.pop(k) -/
theorem e_pop (hb : npl o = true) (hn : nst e = true) (hl : (apos.endLine == cpos.line) = true) (ho : SP C k N sc st o i p) (he : SE C k N sc st e ie) :
    SXe C k N sc st pi (.Call (.Attribute o "pop" apos) [e] [] cpos) (.pop i p [ie]) := fun X W hX =>
  PE.imp (pe_bm F.plainAttrs_list F.slot_list_pop F.type_list_pop mt_popAt (ho X W hX) (ss_cons hn he ss_nil X W hX) (npl_base hb _ _ _) (few1 hn _) hl (star_cons hn [] _) rfl) fun σ H Q ⟨B, F0, ρ, tv, td, h, c, n, w⟩ => by
    simp only [evE] at w
    cases hq : (slotD ρ i).bind fun d => evp C.Φ C.gv p ρ d with
    | exc x => rw [hq] at w; exact w.elim
    | bad => rw [hq] at w; exact w.elim
    | ok q =>
    rw [hq] at w
    dsimp only at w
    refine ⟨B, F0, noH, ρ, tv, td, h, c, ?_⟩
    rw [hq]
    intro v v0 H1 h1 e0 r
    cases hs : subAt ρ i q with
    | none => rw [hs] at w; exact w.elim
    | some d0 =>
    rw [hs] at w
    cases d0 <;> first | exact w.elim | skip
    rename_i fl xs
    cases fl <;> first | exact w.elim | skip
    dsimp only at w
    obtain ⟨a, vs, rfl, ha, hl, nx, _⟩ := lst_at (pv := []) (pi := []) (tx := []) (dx := []) h1 rfl c n rfl hs e0 r
    refine ⟨.inl ⟨rfl, vs, by rw [hX.eK]; exact SqL.of ha⟩, ?_⟩
    cases hks : evs C.Φ C.gv [ie] ρ with
    | exc x => rw [hks] at w; exact w.elim
    | bad => rw [hks] at w; exact w.elim
    | ok ks =>
    rw [hks] at w
    dsimp only at w
    have w2 : Wish ((evs C.Φ C.gv [ie] ρ).bind fun ys => .ok ys) (Off C W σ B F0 H1 ρ tv td) fun ys => ys = ks := by
      rw [hks]; exact rfl
    refine gos h1.lkH (fun _ z => z) w2 fun ys us H2 hys hl2 h2 w3 => ?_
    have w3 : ys = ks := w3
    subst w3
    have e1 := evs_len hys
    match ys, us, e1, hl2 with
    | [y], [u], z1, hl2 =>
      clear z1 hys
      cases hj : popK xs [y] with
      | none => rw [hj] at w; exact w.elim
      | some j =>
      rw [hj] at w
      dsimp only at w
      have r2 := reach_keep h2.kl r
      obtain ⟨_, _, ou⟩ := Holds.top h2
      obtain ⟨a', vs', ea, ha', hl', nx', fin⟩ := lst_atX (tx := []) (dx := []) (Holds.pop h2).lk0 rfl c n rfl hs e0 r2
      cases ea
      have hjl := popK_len hj
      obtain ⟨x1, hx1⟩ := lt_get (xs := xs) (i := j) hjl
      rw [hx1] at w
      unfold popK at hj
      cases y <;> first | (simp at hj; done) | skip
      rename_i kk
      dsimp only at hj
      split at hj
      · rename_i bnd
        rw [ou.inv_int]
        obtain ⟨v1, hv1⟩ := lt_get (xs := vs') (i := j) (by rw [hl']; exact hjl)
        refine ⟨a, vs', kk, j, v1, rfl, rfl, ha', (by omega), (by omega), by rw [hl']; exact hj, hv1, ?_⟩
        obtain ⟨ρ', e3, c3, h3⟩ := fin (vs'.eraseIdx j) [v1] (xs.eraseIdx j) [x1] (by rw [noVws_eq, List.all_eq_true] at nx' ⊢; exact fun z hz => nx' z (List.mem_of_mem_eraseIdx hz)) (fun {H' Fz g g2} o1 o2 => by
          obtain ⟨g3, g4, q1, q2, pm⟩ := o1.out hv1 hx1
          refine ⟨g3, g4 ++ [], q1, .cons q2 .nil, ?_⟩
          rw [List.append_nil]
          exact (Sb.of_perm pm).trans (Sb.left _ _))
        rw [e3] at w
        exact w v1 _ h3 c3 (by rw [noVws_eq, List.all_eq_true] at nx'; exact nx' x1 (List.mem_of_getElem? hx1))
      · cases hj
/-- name.append(e), e of this kind -/
theorem t_appX {x : Str} {p1 : Pos} {xe : Xe} (hi : N[i]? = some x) (hv : Vis sc x) (h1 : (x == ("__debug__" : Str)) = false) (h2 : (x == ("__classdict__" : Str)) = false) (hn : nst e = true) (hm : nlc (.Call (.Attribute (.Name x p1) "append" apos) [e] [] cpos) = true) (hl : (apos.endLine == cpos.line) = true) (he : SXe C k N sc st pi e xe) :
    S1 C k N sc st pi (.Expr (.Call (.Attribute (.Name x p1) "append" apos) [e] [] cpos) pos) (.appX i xe) := fun X W hX =>
  PS.imp (ps_expr (pe_bm F.plainAttrs_list F.slot_list_append F.type_list_append mt_append (pe_var (i := i) (by rw [hX.ok.eN]; exact hi) (by rw [hX.ok.eS]; exact hv) h1 h2) (pa_cons (he X W hX.ok) pa_nil (hs := star_cons hn [] _)) (npl_base rfl _ _ _) (few1 hn _) hl (star_cons hn [] _) rfl) (nlc_swaps hm _ _ _)) fun E σ H ⟨B, F0, ρ, tv, td, pv, h, c, n, p', w⟩ => by
    simp only [run1] at w
    split at w
    · rename_i xs0 hs0
      obtain ⟨v, e1, hv1⟩ := h.var hs0
      obtain ⟨a, vs, rfl, ha, _⟩ := Holds.openL hv1
      refine ⟨_, e1, .inl ⟨rfl, vs, by rw [hX.ok.eK]; exact ha⟩, B, F0, ρ, tv, td, h, c, n, ?_⟩
      cases q : evE C.Φ C.gv pi xe ρ with
      | bad => rw [q] at w; exact w.elim
      | ex y ρ' =>
        rw [q] at w
        exact fun H' h' c' cls dx er => w σ H' h' c' p' cls dx er
      | ok d ρ' =>
        rw [q] at w
        intro u H' h' c' nd
        dsimp only at w
        split at w
        · rename_i xs hs
          split at w
          · rename_i hl2
            have hs' : subAt ρ' i [] = some (.lst .ow xs) := by unfold subAt; rw [hs]; rfl
            obtain ⟨a', vs', ea, ha', hl', nx', fin⟩ := lst_at (q := []) (pv := pv) (pi := pi) (tx := [u]) (dx := [d]) h' rfl c' n (by simp only [noVws, nd, Bool.and_self]) hs' e1 rfl
            cases ea
            refine ⟨a, vs', u, rfl, rfl, ha', by rw [hl']; exact hl2, ?_⟩
            refine fin _ (xs ++ [d]) W E (noVws_app nx' (by simp only [noVws, nd, Bool.and_self])) (fun o1 o2 => ⟨_, o1.append o2, Sb.refl _⟩) p' ?_
            have e9 : putAt ρ' i [] (.lst .ow (xs ++ [d])) = .nx (ρ'.set i (some (.lst .ow (xs ++ [d])))) := by unfold putAt; rw [hs]; rfl
            rw [e9]
            exact w
          · exact w.elim
        · exact w.elim
    · exact w.elim
end
end Pu

set_option Elab.async false
set_option linter.all false
set_option maxRecDepth 100000
set_option maxHeartbeats 1000000
/-! PuR: o.m(e, ..), o only read. -/
namespace Pu
open PySem PySem.Spec PyProof.Rows L2
section
variable {C : Cf} {k kl : Nat} {N : List Str} {sc : Scope} {st : List Str} {f : Addr} {fd : FuncData} {ps : List Str} {m : Str} {o e : Expr} {es : List Expr} {io : Ex} {ies : List Ex} {apos cpos : Pos} {c j : Nat}
/-- a call of what changes nothing, its arguments at hand -/
theorem call_core {W : WX} {np : Nat} {σ : L2.St} {H : Hp} {Q : VK} {B Lk : Hp} {F0 : Addr → Prop} {ρ : List (Option D)} {tv vs : List V} {td ds : List D} (h1 : Holds C.G B F0 Lk σ ρ (vs ++ tv) (ds ++ td) H) (hl : vs.length = ds.length) (hnp : ds.length = np)
    (w1 : Wish (callD C.Φ j ds) (Off C W σ B F0 Lk ρ tv td) fun d => ∀ v H', Holds C.G B F0 Lk σ ρ (v :: tv) (d :: td) H' → Q v H') : spF C j np [] vs H Q (WE W σ) := by
  unfold callD at w1
  have w2 := w1.bind
  by_cases hv : noVws ds = true
  · have hfz := fzDs_allFzs ds hv
    rw [anyFzs_fzDs ds hv] at w2
    obtain ⟨F1, i1, i2⟩ := (h1.frzn hl).into2 (by rw [hl, fzDs_eq, List.length_map]) hfz
    refine ⟨by rw [hl]; exact hnp, H, F1, fzDs ds, by rw [hl, fzDs_eq, List.length_map], argsOk_all hfz, allFzs_noVws _ hfz, i1, w2.mono (fun x hx H' h' cls dx er => ?_) fun r hr hw v H' h' _ => ?_⟩
    · exact hx H' ((h1.popn hl).keep h'.kb h'.tb) cls dx er
    · rw [if_pos hv] at hw
      refine hw v H' (i2 H' v r.1 ?_)
      exact Holds.ex1 h'
  · have hfz := anyFzs_all ds
    refine ⟨by rw [hl]; exact hnp, H, _, anyFzs ds, by rw [hl, anyFzs_len], argsOk_all hfz, allFzs_noVws _ hfz, h1.into hl, w2.mono (fun x hx H' h' cls dx er => ?_) fun r hr hw v H' h' _ => ?_⟩
    · exact hx H' ((h1.popn hl).keep h'.kb h'.tb) cls dx er
    · rw [if_neg hv] at hw
      exact hw v H' ((h1.popn hl).back (Holds.ex1 h'))
theorem lookup_none {m : Str} {fvs : List (Str × V)} (h : m ∉ fvs.map (·.1)) : fvs.lookup m = none := by
  induction fvs with
  | nil => rfl
  | cons p r ih =>
    simp only [List.map_cons, List.mem_cons, not_or] at h
    rw [List.lookup_cons]
    have : (m == p.1) = false := by rw [beq_eq_false_iff_ne]; exact h.1
    rw [this]
    exact ih h.2
theorem meth_R {W : WX} {σ : L2.St} {H : Hp} {Q : VK} (h : tE C (.meth c j m io ies) W σ H Q) : tMethG (C.G.cl c) m (spF C j (ies.length + 1) []) W (tE C io W) (tEs C ies W) σ H Q := by
  obtain ⟨B, F0, Lk, ρ, tv, td, h, w⟩ := h
  simp only [ev] at w
  refine go1 h (fun _ z => z) w fun d v H1 hd h1 w1 => ?_
  cases q : methOk c m d with
  | exc x => rw [q] at w1; cases d <;> first | (simp [methOk] at q; done) | (simp only [methOk] at q; split at q <;> cases q)
  | bad => rw [q] at w1; exact w1.elim
  | ok u =>
  rw [q, Out.bind_ok] at w1
  cases d <;> first | (simp [methOk] at q; done) | skip
  rename_i fl c' ns xs
  simp only [methOk] at q
  split at q
  · rename_i cm
    obtain ⟨rfl, mn⟩ := cm
    obtain ⟨a, dx, fvs, rfl, e2, e3, e4, _⟩ := h1.openO
    refine ⟨a, dx, fvs, rfl, e2, lookup_none (e3 ▸ mn), ?_⟩
    refine gos h1 (fun _ z => fun H' h' => z H' h'.pop) w1 fun ds us H2 hds hl h2 w3 => ?_
    have h3 : Holds C.G B F0 Lk σ ρ ((V.ref a :: us) ++ tv) ((D.obj fl c' ns xs :: ds) ++ td) H2 := h2.up hl
    exact call_core h3 (by rw [List.length_cons, List.length_cons, hl]) (by rw [List.length_cons, evs_len hds]) w3
  · cases q
theorem meth_R0 {W : WX} {σ : L2.St} {H : Hp} {Q : VK} (h : tE C (.meth c j m io []) W σ H Q) : tMethG (C.G.cl c) m (spF C j 1 []) W (tE C io W) tNil σ H Q := by
  obtain ⟨B, F0, Lk, ρ, tv, td, h, w⟩ := h
  simp only [ev] at w
  refine go1 h (fun _ z => z) w fun d v H1 hd h1 w1 => ?_
  cases q : methOk c m d with
  | exc x => rw [q] at w1; cases d <;> first | (simp [methOk] at q; done) | (simp only [methOk] at q; split at q <;> cases q)
  | bad => rw [q] at w1; exact w1.elim
  | ok u =>
  rw [q, Out.bind_ok] at w1
  cases d <;> first | (simp [methOk] at q; done) | skip
  rename_i fl c' ns xs
  simp only [methOk] at q
  split at q
  · rename_i cm
    obtain ⟨rfl, mn⟩ := cm
    obtain ⟨a, dx, fvs, rfl, e2, e3, e4, _⟩ := h1.openO
    refine ⟨a, dx, fvs, rfl, e2, lookup_none (e3 ▸ mn), ?_⟩
    simp only [evs, Out.bind_ok] at w1
    exact call_core (vs := [V.ref a]) (ds := [D.obj fl c' ns xs]) h1 rfl rfl w1
  · cases q
theorem s_methR (cA : L2.Cls C.G.K (C.G.cl c)) (hm : L2.Meth C.G.K (C.G.cl c) m f) (F : FnG C kl f fd ps (spF C j (ies.length + 1) [])) (hk : kl ≤ k) (hb : Binds C.G.K fd ps [])
    (hbase : ∀ env, attributeBase o m env (eval o env) = eval o env)
    (hfew : ∀ env, ((backTo cpos (starEach (e :: es) env)).all (fun x => !x.1) && (backToKw cpos (keywordEach [] env)).all (fun x => x.1.isSome)
      && decide ((e :: es).length + ([] : List Keyword).length + (if ([] : List Keyword).isEmpty then 0 else 1) < 30)) = true)
    (hline : (apos.endLine == cpos.line) = true) (hn : (e :: es).all nst = true) (ho : SE C k N sc st o io) (he : SEs C k N sc st (e :: es) ies) :
    SE C k N sc st (.Call (.Attribute o m apos) (e :: es) [] cpos) (.meth c j m io ies) := fun X W hX =>
  PE.imp (pe_methG hX (ho X W hX) cA hm F hk hb (hbase _) (hfew _) hline hn (he X W hX)) fun σ H Q h => meth_R h
theorem s_methR0 (cA : L2.Cls C.G.K (C.G.cl c)) (hm : L2.Meth C.G.K (C.G.cl c) m f) (F : FnG C kl f fd ps (spF C j 1 [])) (hk : kl ≤ k) (hb : Binds C.G.K fd ps [])
    (hbase : ∀ env, attributeBase o m env (eval o env) = eval o env) (hline : (apos.endLine == cpos.line) = true) (ho : SE C k N sc st o io) :
    SE C k N sc st (.Call (.Attribute o m apos) [] [] cpos) (.meth c j m io []) := fun X W hX =>
  PE.imp (pe_methG0 hX (ho X W hX) cA hm F hk hb (hbase _) hline) fun σ H Q h => meth_R0 h
end
end Pu

set_option Elab.async false
set_option linter.all false
set_option maxRecDepth 100000
set_option maxHeartbeats 1000000
/-! PuN: calls that change parts of slots. -/
namespace Pu
open PySem PySem.Spec PyProof.Rows L2
def posOf : Nat → List Bool → List Nat
  | _, [] => []
  | k, true :: r => k :: posOf (k + 1) r
  | k, false :: r => posOf (k + 1) r
def flagsOf : List Ar → List Bool
  | [] => []
  | .pu _ :: as => false :: flagsOf as
  | .mu _ _ :: as => true :: flagsOf as
theorem flagsOf_len : ∀ as : List Ar, (flagsOf as).length = as.length
  | [] => rfl
  | .pu _ :: as => by simp only [flagsOf, List.length_cons, flagsOf_len as]
  | .mu _ _ :: as => by simp only [flagsOf, List.length_cons, flagsOf_len as]
theorem noVw_sub : ∀ (q : List PEl) {d d1 : D}, subD q d = some d1 → noVw d = true → noVw d1 = true
  | [], d, d1, h, n => by simp only [subD, Option.some.injEq] at h; rw [← h]; exact n
  | .ix j :: q, d, d1, h, n => by
    cases d <;> first | (simp [subD] at h; done) | skip
    rename_i fl xs
    cases fl <;> first | (simp [subD] at h; done) | skip
    simp only [subD] at h
    split at h
    · rename_i d0 hd
      simp only [noVw, Bool.and_eq_true] at n
      exact noVw_sub q h (by rw [noVws_eq, List.all_eq_true] at n; exact n.2 _ (List.mem_of_getElem? hd))
    · cases h
  | .fl f :: q, d, d1, h, n => by
    cases d <;> first | (simp [subD] at h; done) | skip
    rename_i fl c ns xs
    cases fl <;> first | (simp [subD] at h; done) | skip
    simp only [subD] at h
    split at h
    · split at h
      · rename_i d0 hd
        simp only [noVw, Bool.and_eq_true] at n
        exact noVw_sub q h (by rw [noVws_eq, List.all_eq_true] at n; exact n.2 _ (List.mem_of_getElem? hd))
      · cases h
    · cases h
/-- what the arguments are, as they lie on the stack -/
inductive ArR (σ : L2.St) (ρ : List (Option D)) (H : Hp) : List Bool → List D → List (Nat × List PEl) → List V → List D → List V → Prop
  | nil : ArR σ ρ H [] [] [] [] [] []
  | pu {fl es ms vs ds us d v} : allFz d = true → ArR σ ρ H fl es ms vs ds us → ArR σ ρ H (false :: fl) (d :: es) ms (v :: vs) (d :: ds) us
  | mu {fl es ms vs ds us i q v v0 d d1} : σ[i]? = some (some v0) → reach H q v0 v → ρ[i]? = some (some d) → subD q d = some d1 → ArR σ ρ H fl es ms vs ds us → ArR σ ρ H (true :: fl) (d1 :: es) ((i, q) :: ms) (v :: vs) (.is v :: ds) (v :: us)
section
variable {σ : L2.St} {ρ ρ' : List (Option D)} {H H' : Hp} {fl : List Bool} {es ds ws : List D} {ms : List (Nat × List PEl)} {vs us : List V}
theorem ArR.keep (k : Keep H H') (h : ArR σ ρ H fl es ms vs ds us) : ArR σ ρ H' fl es ms vs ds us := by
  induction h with
  | nil => exact .nil
  | pu a _ ih => exact .pu a ih
  | mu a b c d _ ih => exact .mu a (reach_keep k b) c d ih
theorem ArR.put {i : Nat} {x : Option D} (h : ArR σ ρ H fl es ms vs ds us) (n : i ∉ ms.map (·.1)) : ArR σ (ρ.set i x) H fl es ms vs ds us := by
  induction h with
  | nil => exact .nil
  | pu a _ ih => exact .pu a (ih n)
  | mu a b c d _ ih =>
    simp only [List.map_cons, List.mem_cons, not_or] at n
    exact .mu a b (by rw [List.getElem?_set_ne n.1]; exact c) d (ih n.2)
theorem ArR.len (h : ArR σ ρ H fl es ms vs ds us) : vs.length = ds.length ∧ es.length = ds.length ∧ fl.length = ds.length ∧ us.length = ms.length := by
  induction h with
  | nil => exact ⟨rfl, rfl, rfl, rfl⟩
  | pu _ _ ih => simp only [List.length_cons]; omega
  | mu _ _ _ _ _ ih => simp only [List.length_cons]; omega
theorem ArR.nvs (h : ArR σ ρ H fl es ms vs ds us) (c : cleanS ρ = true) : noVws es = true := by
  induction h with
  | nil => rfl
  | pu a _ ih => simp only [noVws, allFz_noVw _ a, ih, Bool.and_self]
  | mu a b e d _ ih => simp only [noVws, noVw_sub _ d (cleanS_get c e), ih, Bool.and_self]
theorem ArR.sel (h : ArR σ ρ H fl es ms vs ds us) : ∀ (k : Nat) (pre : List V), pre.length = k → Pu.sel (posOf k fl) (pre ++ vs) = us := by
  induction h with
  | nil => intro k pre _; rfl
  | @pu fl es ms vs ds us d v a _ ih =>
    intro k pre e
    have z := ih (k + 1) (pre ++ [v]) (by simp [e])
    rw [List.append_assoc] at z
    exact z
  | @mu fl es ms vs ds us i q v v0 d d1 a b c e' _ ih =>
    intro k pre e
    have z := ih (k + 1) (pre ++ [v]) (by simp [e])
    rw [List.append_assoc] at z
    unfold Pu.sel at z ⊢
    simp only [posOf, List.filterMap_cons]
    have g : (pre ++ v :: vs)[k]? = some v := by rw [List.getElem?_append_right (by omega), e, Nat.sub_self]; rfl
    rw [g]
    simp only
    exact congrArg (List.cons v) z
theorem mem_posOf : ∀ {fl : List Bool} {k i : Nat}, fl[i]? = some true → k + i ∈ posOf k fl
  | [], _, _, h => by simp at h
  | b :: fl, k, 0, h => by
    simp only [List.getElem?_cons_zero, Option.some.injEq] at h
    subst h
    exact List.mem_cons_self
  | b :: fl, k, i + 1, h => by
    have z := mem_posOf (fl := fl) (k := k + 1) (i := i) (by simpa using h)
    rw [show k + (i + 1) = k + 1 + i by omega]
    cases b
    · exact z
    · exact List.mem_cons_of_mem _ z
theorem ArR.at (h : ArR σ ρ H fl es ms vs ds us) : ∀ {i : Nat} {d : D}, es[i]? = some d → fl[i]? = some true ∨ allFz d = true := by
  induction h with
  | nil => intro i d e; simp at e
  | pu a _ ih =>
    intro i d e
    cases i with
    | zero => simp only [List.getElem?_cons_zero, Option.some.injEq] at e; subst e; exact .inr a
    | succ i => exact ih (i := i) (by simpa using e)
  | mu a b c e' _ ih =>
    intro i d e
    cases i with
    | zero => exact .inl rfl
    | succ i => exact ih (i := i) (by simpa using e)
theorem ArR.args (h : ArR σ ρ H fl es ms vs ds us) : argsOk (posOf 0 fl) es = true := by
  unfold argsOk
  rw [List.all_eq_true]
  intro i hi
  have hl : i < es.length := List.mem_range.mp hi
  have e : es[i]? = some es[i] := List.getElem?_eq_getElem hl
  rw [e, Bool.or_eq_true, decide_eq_true_eq]
  rcases h.at e with z | z
  · exact .inl (by have := mem_posOf (k := 0) z; rwa [Nat.zero_add] at this)
  · exact .inr z
theorem putM_len : ∀ {ms : List (Nat × List PEl)} {ws : List D} {ρ ρ' : List (Option D)}, putM ms ws ρ = some ρ' → ρ'.length = ρ.length
  | [], [], ρ, ρ', h => by simp only [putM, Option.some.injEq] at h; rw [h]
  | [], _ :: _, _, _, h => by simp [putM] at h
  | _ :: _, [], _, _, h => by simp [putM] at h
  | m :: ms, w :: ws, ρ, ρ', h => by
    simp only [putM] at h
    split at h
    · split at h
      · rw [putM_len h, List.length_set]
      · cases h
    · cases h
theorem putM_clean : ∀ {ms : List (Nat × List PEl)} {ws : List D} {ρ ρ' : List (Option D)}, putM ms ws ρ = some ρ' → cleanS ρ = true → noVws ws = true → cleanS ρ' = true
  | [], [], ρ, ρ', h, c, _ => by simp only [putM, Option.some.injEq] at h; rw [← h]; exact c
  | [], _ :: _, _, _, h, _, _ => by simp [putM] at h
  | _ :: _, [], _, _, h, _, _ => by simp [putM] at h
  | m :: ms, w :: ws, ρ, ρ', h, c, n => by
    simp only [putM] at h
    simp only [noVws, Bool.and_eq_true] at n
    split at h
    · rename_i e he
      split at h
      · rename_i e' hu
        exact putM_clean h (cleanS_set c fun d z => by cases z; exact noVw_upd hu (cleanS_get c he) n.1) n.2
      · cases h
    · cases h
theorem putM_set : ∀ {ms : List (Nat × List PEl)} {ws : List D} {ρ : List (Option D)} {i : Nat} {x : Option D}, i ∉ ms.map (·.1) → putM ms ws (ρ.set i x) = (putM ms ws ρ).map (·.set i x)
  | [], [], ρ, i, x, _ => rfl
  | [], _ :: _, _, _, _, _ => rfl
  | _ :: _, [], _, _, _, _ => rfl
  | m :: ms, w :: ws, ρ, i, x, n => by
    simp only [List.map_cons, List.mem_cons, not_or] at n
    simp only [putM, List.getElem?_set_ne n.1]
    split
    · rename_i e he
      split
      · rename_i e' hu
        rw [List.set_comm _ _ n.1, putM_set n.2]
      · rfl
    · rfl
end
section
variable {G : Gb} {B H : Hp} {F0 : Addr → Prop} {σ : L2.St}
theorem ArR.take {fl : List Bool} {es ds : List D} {ms : List (Nat × List PEl)} {vs us : List V} {ρ : List (Option D)} (A : ArR σ ρ H fl es ms vs ds us) : ∀ {tv : List V} {td : List D}, (ms.map (·.1)).Nodup → Holds G B F0 noH σ ρ (vs ++ tv) (ds ++ td) H → cleanS ρ = true →
    ∃ ρ', cleanS ρ' = true ∧ Holds G B F0 noH σ ρ' (vs ++ tv) (es ++ td) H ∧ ρ'.length = ρ.length ∧ (∀ i, i ∉ ms.map (·.1) → ρ'[i]? = ρ[i]?) ∧
      ∀ (ws : List D) (ρ2 : List (Option D)) (tv2 : List V) (td2 : List D) (H2 : Hp), us.length = ws.length → Holds G B F0 noH σ ρ' (us ++ tv2) (ws ++ td2) H2 → putM ms ws ρ = some ρ2 → Holds G B F0 noH σ ρ2 tv2 td2 H2 := by
  -- over all slots
  suffices hh : ∀ {fl : List Bool} {es ds : List D} {ms : List (Nat × List PEl)} {vs us : List V} {ρ0 : List (Option D)}, ArR σ ρ0 H fl es ms vs ds us → ∀ {ρ : List (Option D)} {tv : List V} {td : List D}, ArR σ ρ H fl es ms vs ds us → (ms.map (·.1)).Nodup → Holds G B F0 noH σ ρ (vs ++ tv) (ds ++ td) H → cleanS ρ = true →
    ∃ ρ', cleanS ρ' = true ∧ Holds G B F0 noH σ ρ' (vs ++ tv) (es ++ td) H ∧ ρ'.length = ρ.length ∧ (∀ i, i ∉ ms.map (·.1) → ρ'[i]? = ρ[i]?) ∧
      ∀ (ws : List D) (ρ2 : List (Option D)) (tv2 : List V) (td2 : List D) (H2 : Hp), us.length = ws.length → Holds G B F0 noH σ ρ' (us ++ tv2) (ws ++ td2) H2 → putM ms ws ρ = some ρ2 → Holds G B F0 noH σ ρ2 tv2 td2 H2 from fun {tv td} n h c => hh A A n h c
  intro fl es ds ms vs us ρ0 A
  induction A with
  | nil =>
    intro ρ tv td _ _ h c
    refine ⟨ρ, c, h, rfl, fun _ _ => rfl, fun ws ρ2 tv2 td2 H2 hl h2 hp => ?_⟩
    cases ws with
    | nil => simp only [putM, Option.some.injEq] at hp; rw [← hp]; exact h2
    | cons _ _ => simp at hl
  | @pu fl es ms vs ds us d v a _ ih =>
    intro ρ tv td A n h c
    cases A with
    | pu _ A =>
      obtain ⟨l1, l2, _, _⟩ := A.len
      obtain ⟨ρ', c', h', hl, hk, hp⟩ := ih (tv := v :: tv) (td := d :: td) A n (Holds.down h l1) c
      exact ⟨ρ', c', Holds.up h' (by omega), hl, hk, hp⟩
  | @mu fl es ms vs ds us i q v v0 d0 d1 _ _ _ _ _ ih =>
    intro ρ tv td A n h c
    cases A with
    | @mu _ _ _ _ _ _ _ _ _ v0 d _ a1 a2 a3 a4 A =>
      obtain ⟨l1, l2, _, _⟩ := A.len
      obtain ⟨ni, n⟩ := List.nodup_cons.mp n
      obtain ⟨v0', v', e, b1, b2, b3, h1⟩ := Holds.takeP (Holds.pop h) a3 a4
      rw [a1] at b1
      cases b1
      have ev := reach_inj a2 b2
      subst ev
      have hil : i < ρ.length := (List.getElem?_eq_some_iff.mp a3).1
      have ce : noVw e = true := noVw_upd b3 (cleanS_get c a3) rfl
      obtain ⟨ρ', c', h', hl, hk, hp⟩ := ih (ρ := ρ.set i (some e)) (tv := v :: tv) (td := d1 :: td) (A.put ni) n (Holds.down h1 l1) (cleanS_set c fun d z => by cases z; exact ce)
      rw [List.length_set] at hl
      refine ⟨ρ', c', Holds.up h' (by omega), hl, fun k hk' => ?_, fun ws ρ2 tv2 td2 H2 hwl h2 hpm => ?_⟩
      · simp only [List.map_cons, List.mem_cons, not_or] at hk'
        rw [hk k hk'.2, List.getElem?_set_ne (Ne.symm hk'.1)]
      · cases ws with
        | nil => simp at hwl
        | cons w ws =>
          have hwl : us.length = ws.length := by simpa using hwl
          simp only [putM, a3] at hpm
          split at hpm
          · rename_i e' hu
            rw [putM_set ni] at hpm
            obtain ⟨ρ3, q3, rfl⟩ := Option.map_eq_some_iff.mp hpm
            have h4 := hp ws (ρ3.set i (some e)) (v :: tv2) (w :: td2) H2 hwl (Holds.down h2 hwl) (by rw [putM_set ni, q3]; rfl)
            have hi3 : i < ρ3.length := by rw [putM_len q3]; exact hil
            obtain ⟨e2, u2, h5⟩ := Holds.putP h4 (List.getElem?_set_self hi3) (subD_upd q b3)
            rw [updD_twice q b3, hu] at u2
            cases u2
            rw [List.set_set] at h5
            exact h5
          · cases hpm
end
section
variable {C : Cf} {k kl : Nat} {N : List Str} {sc : Scope} {st : List Str} {pi : List Nat} {f : Addr} {fd : FuncData} {ps : List Str} {m : Str} {e o : Expr} {es : List Expr} {ies : List Ex} {ie : Ex} {as : List Ar} {apos cpos pos : Pos} {i c j : Nat} {p : List Pt}
/-- what an expression's outcome must bring -/
def XQ (C : Cf) (W : WX) (σ : L2.St) (Q : VK) (B : Hp) (F0 : Addr → Prop) (tv : List V) (td : List D) : OutE → Prop
  | .ok d ρ' => ∀ v H', Holds C.G B F0 noH σ ρ' (v :: tv) (d :: td) H' → cleanS ρ' = true → noVw d = true → Q v H'
  | .ex x ρ' => ∀ H', Holds C.G B F0 noH σ ρ' tv td H' → cleanS ρ' = true → ∀ cls dx, ExR C.G H' x cls dx → W cls dx σ H'
  | .bad => False
theorem tXE_iff {f : List (Option D) → OutE} {W : WX} {σ : L2.St} {H : Hp} {Q : VK} : tXE C f W σ H Q ↔ ∃ B F0 ρ tv td, Holds C.G B F0 noH σ ρ tv td H ∧ cleanS ρ = true ∧ noVws td = true ∧ XQ C W σ Q B F0 tv td (f ρ) := by
  constructor
  · rintro ⟨B, F0, ρ, tv, td, h, c, n, w⟩
    refine ⟨B, F0, ρ, tv, td, h, c, n, ?_⟩
    cases q : f ρ <;> rw [q] at w <;> exact w
  · rintro ⟨B, F0, ρ, tv, td, h, c, n, w⟩
    refine ⟨B, F0, ρ, tv, td, h, c, n, ?_⟩
    cases q : f ρ <;> rw [q] at w <;> exact w
theorem Holds.lens {G : Gb} {B Lk H : Hp} {F0 : Addr → Prop} {σ : L2.St} {ρ : List (Option D)} {tv : List V} {td : List D} (h : Holds G B F0 Lk σ ρ tv td H) : tv.length = td.length := by
  obtain ⟨⟨_, _, _, b, _⟩, _⟩ := h
  exact b.length
/-- THE CALL, its arguments at hand -/
theorem callM_tail {W : WX} {σ : L2.St} {H : Hp} {Q : VK} {B : Hp} {F0 : Addr → Prop} {ρ : List (Option D)} {tv vs us : List V} {td ds es : List D} {fl : List Bool} {ms : List (Nat × List PEl)} {np : Nat} (h : Holds C.G B F0 noH σ ρ (vs ++ tv) (ds ++ td) H) (cl : cleanS ρ = true) (n : noVws td = true)
    (A : ArR σ ρ H fl es ms vs ds us) (hnp : fl.length = np) (w : XQ C W σ Q B F0 tv td (callM C.Φ j (es, ms) ρ)) : spF C j np (posOf 0 fl) vs H Q (WE W σ) := by
  unfold callM at w
  dsimp only at w
  split at w
  · rename_i nd
    obtain ⟨l1, l2, l3, l4⟩ := A.len
    obtain ⟨ρ', c', h', hl, _, hput⟩ := A.take nd h cl
    obtain ⟨Bc, Fc, hin, back⟩ := Holds.callX h' (by omega) c' n
    have hsel : Pu.sel (posOf 0 fl) vs = us := by simpa using A.sel 0 [] rfl
    refine ⟨by omega, Bc, Fc, es, by omega, A.args, A.nvs cl, hin, ?_⟩
    rw [hsel]
    cases q : C.Φ j es with
    | bad => rw [q] at w; exact w.elim
    | ok r =>
      obtain ⟨r, ws⟩ := r
      rw [q] at w
      dsimp only at w
      intro v H' h2 _
      have hwl : us.length = ws.length := by have := h2.lens; simpa using this
      split at w
      · rename_i nn
        split at w
        · rename_i ρ2 hp
          have h3 := back (v :: us) (r :: ws) H' (by simp [hwl]) h2
          exact w v H' (hput ws ρ2 (v :: tv) (r :: td) H' hwl (Holds.down h3 hwl) hp) (putM_clean hp cl nn.2) nn.1
        · exact w.elim
      · exact w.elim
    | exc x =>
      rw [q] at w
      dsimp only at w
      intro H' h2 cls dx er
      have hwl : us.length = x.ms.length := h2.lens
      split at w
      · rename_i nn
        split at w
        · rename_i ρ2 hp
          have h3 := back us x.ms H' hwl h2
          exact w H' (hput x.ms ρ2 tv td H' hwl h3 hp) (putM_clean hp cl nn) cls dx er
        · exact w.elim
      · exact w.elim
  · exact w.elim
/-! ### arguments -/
def tAr (C : Cf) (as : List Ar) (W : WX) : TA := fun σ H Q => ∃ B F0 Lk ρ tv td, Holds C.G B F0 Lk σ ρ tv td H ∧ cleanS ρ = true ∧
  Wish (evA C.Φ C.gv as ρ) (Off C W σ B F0 Lk ρ tv td) fun r => ∀ vs ds us H', Holds C.G B F0 Lk σ ρ (vs ++ tv) (ds ++ td) H' → ArR σ ρ H' (flagsOf as) r.1 r.2 vs ds us → Q vs H'
def SAr (C : Cf) (k : Nat) (N : List Str) (sc : Scope) (st : List Str) (es : List Expr) (as : List Ar) : Prop := ∀ X W, CtxOk C k N sc st X W → PA X es (tAr C as W)
theorem ar_nil : SAr C k N sc st [] [] := fun X W hX => PA.imp pa_nil fun σ H Q ⟨B, F0, Lk, ρ, tv, td, h, c, w⟩ => w [] [] [] H h .nil
theorem ar_pu (hn : nst e = true) (h1 : SE C k N sc st e ie) (h2 : SAr C k N sc st es as) : SAr C k N sc st (e :: es) (.pu ie :: as) := fun X W hX =>
  PA.imp (pa_cons (h1 X W hX) (h2 X W hX) (star_cons hn es X.env)) fun σ H Q ⟨B, F0, Lk, ρ, tv, td, h, c, w⟩ => by
    simp only [evA] at w
    refine go1 h (fun _ z => z) w fun d v H1 _ h1 w1 => ?_
    obtain ⟨nd, w2⟩ := w1.chk
    have h2 := h1.frz
    refine ⟨B, F0, Lk, ρ, v :: tv, fzD d :: td, h2, c, w2.bind.mono (fun _ z => z.push) fun r hr w3 vs ds us H' h3 A => ?_⟩
    obtain ⟨l1, _, _, _⟩ := A.len
    exact w3 (v :: vs) (fzD d :: ds) us H' (Holds.up h3 l1) (.pu (fzD_allFz d nd) A)
theorem ar_mu (hn : nst e = true) (h1 : SP C k N sc st e i p) (h2 : SAr C k N sc st es as) : SAr C k N sc st (e :: es) (.mu i p :: as) := fun X W hX =>
  PA.imp (pa_cons (h1 X W hX) (h2 X W hX) (star_cons hn es X.env)) fun σ H Q ⟨B, F0, Lk, ρ, tv, td, h, c, w⟩ => by
    simp only [evA] at w
    refine ⟨B, F0, Lk, ρ, tv, td, h, c, ?_⟩
    cases hs : slotD ρ i with
    | exc x => exact absurd hs slotD_ne
    | bad => rw [hs] at w; exact w.elim
    | ok d =>
      rw [hs, Out.bind_ok] at w
      rw [Out.bind_ok]
      refine w.bind.mono (fun _ z => z) fun q hq w1 v v0 H1 h1 e0 r => ?_
      cases hd1 : subD q d with
      | none => rw [hd1] at w1; exact w1.elim
      | some d1 =>
        rw [hd1] at w1
        dsimp only at w1
        have h2 : Holds C.G B F0 H1 σ ρ (v :: tv) (.is v :: td) H1 := h1.lkH.push fun _ => .is v
        refine ⟨B, F0, H1, ρ, v :: tv, .is v :: td, h2, c, w1.bind.mono (fun x z H' h' => z H' (h'.pop.lkS (h1.kl.trans h'.kl))) fun r2 hr w3 vs ds us H' h3 A => ?_⟩
        obtain ⟨l1, _, _, _⟩ := A.len
        exact w3 (v :: vs) (.is v :: ds) (v :: us) H' ((Holds.up h3 l1).lkS (h1.kl.trans h3.kl)) (.mu e0 (reach_keep h3.kl r) (slotD_ok hs) hd1 A)
theorem Holds.prepAs {Φ gv} {G : Gb} {B Lk H : Hp} {F0 : Addr → Prop} {σ : L2.St} {tv : List V} {td : List D} (pi : List Nat) : ∀ (as : List Ar) {ρ : List (Option D)}, Holds G B F0 Lk σ ρ tv td H → cleanS ρ = true → Holds G B F0 Lk σ (Pu.prepAs Φ gv pi as ρ) tv td H ∧ cleanS (Pu.prepAs Φ gv pi as ρ) = true
  | [], ρ, h, c => ⟨h, c⟩
  | .pu e :: as, ρ, h, c => by
    obtain ⟨h', c'⟩ := h.prep (Φ := Φ) (gv := gv) (pi := pi) e c
    exact Holds.prepAs pi as h' c'
  | .mu _ _ :: as, ρ, h, c => Holds.prepAs pi as h c
/-- g(a, ..), some of which it changes -/
theorem e_call {g : Str} {p1 : Pos} (F : FnG C kl f fd ps (spF C j as.length (posOf 0 (flagsOf as)))) (hk : kl ≤ k) (hb : Binds C.G.K fd ps []) (hg : sc.names.lookup g = some .globalImplicit) (hm : C.mg g = some (.ref f)) (hkp : PySem.W.keepIn C.G.K (.ref f) = true) (hd : (g == ("__debug__" : Str)) = false)
    (hn : (e :: es).all nst = true) (ha : SAr C k N sc st (e :: es) as) : SXe C k N sc st pi (.Call (.Name g p1) (e :: es) [] pos) (.call j as) := fun X W hX =>
  PE.imp (pe_callG hX F hk hb hg hm hkp hd hn (ha X W hX)) fun σ H Q hq => by
    obtain ⟨B, F0, ρ, tv, td, h, cl, n, w⟩ := tXE_iff.mp hq
    simp only [evE] at w
    obtain ⟨h', c'⟩ := h.prepAs (Φ := C.Φ) (gv := C.gv) (muS as ++ pi) as cl
    generalize Pu.prepAs C.Φ C.gv (muS as ++ pi) as ρ = ρ1 at h' c' w
    refine ⟨B, F0, noH, ρ1, tv, td, h', c', ?_⟩
    cases q : evA C.Φ C.gv as ρ1 with
    | bad => rw [q] at w; exact w.elim
    | exc x => rw [q] at w; exact fun H' h2 cls dx er => w H' h2 c' cls dx er
    | ok r =>
      rw [q] at w
      intro vs ds us H' h2 A
      exact callM_tail h2 c' n A (flagsOf_len as) w
/-- o.m(a, ..), o a part of a slot that it changes -/
theorem e_meth {W : WX} {σ : L2.St} {H : Hp} {Q : VK} {t : TA} (hq : tXE C (evE C.Φ C.gv pi (.meth c j m i p as)) W σ H Q) (ht : ∀ σ H Q, tAr C as W σ H Q → t σ H Q) :
    tMethG (C.G.cl c) m (spF C j (as.length + 1) (posOf 0 (true :: flagsOf as))) W (tP C i p W) t σ H Q := by
  obtain ⟨B, F0, ρ, tv, td, h, cl, n, w⟩ := tXE_iff.mp hq
  simp only [evE] at w
  obtain ⟨h', c'⟩ := h.prepAs (Φ := C.Φ) (gv := C.gv) (i :: muS as ++ pi) as cl
  generalize Pu.prepAs C.Φ C.gv (i :: muS as ++ pi) as ρ = ρ1 at h' c' w
  refine ⟨B, F0, noH, ρ1, tv, td, h', c', ?_⟩
  unfold evS at w
  cases hs : slotD ρ1 i with
  | exc x => exact absurd hs slotD_ne
  | bad => rw [hs] at w; exact w.elim
  | ok d =>
    rw [hs, Out.bind_ok] at w
    rw [Out.bind_ok]
    cases hq : evp C.Φ C.gv p ρ1 d with
    | bad => rw [hq] at w; exact w.elim
    | exc x => rw [hq] at w; exact fun H' h2 cls dx er => w H' h2 c' cls dx er
    | ok q =>
      rw [hq, Out.bind_ok] at w
      intro v v0 H1 h1 e0 r
      cases hd1 : subD q d with
      | none => rw [hd1] at w; exact w.elim
      | some d1 =>
        rw [hd1] at w
        dsimp only at w
        by_cases so : selfOk c m d1 = true
        · rw [so, Out.chk_true, Out.bind_ok] at w
          cases d1 <;> first | (simp [selfOk] at so; done) | skip
          rename_i fl cx ns xs
          simp only [selfOk, Bool.and_eq_true, decide_eq_true_eq] at so
          obtain ⟨rfl, mn⟩ := so
          obtain ⟨Fz, g, ow, _⟩ := h1.sub c' (slotD_ok hs) e0 hd1 r
          cases ow with
          | @obj _ _ a _ vs _ f0 fp no b =>
            obtain ⟨dx, fvs, q1, q2, q3⟩ := no.ins
            refine ⟨a, dx, fvs, rfl, q1, lookup_none (q2 ▸ mn), ht _ _ _ ?_⟩
            have h2 : Holds C.G B F0 H1 σ ρ1 (V.ref a :: tv) (.is (V.ref a) :: td) H1 := h1.lkH.push fun _ => .is _
            refine ⟨B, F0, H1, ρ1, V.ref a :: tv, .is (V.ref a) :: td, h2, ‹cleanS ρ1 = true›, ?_⟩
            cases hA : evA C.Φ C.gv as ρ1 with
            | bad => rw [hA] at w; exact w.elim
            | exc x => rw [hA] at w; exact fun H' h3 cls dx er => w H' h3.pop.lk0 ‹cleanS ρ1 = true› cls dx er
            | ok r2 =>
              rw [hA] at w
              intro vs2 ds us H' h3 A
              obtain ⟨l1, _, _, _⟩ := A.len
              have A2 : ArR σ ρ1 H' (true :: flagsOf as) (.obj fl cx ns xs :: r2.1) ((i, q) :: r2.2) (V.ref a :: vs2) (.is (V.ref a) :: ds) (V.ref a :: us) := .mu e0 (reach_keep h3.kl r) (slotD_ok hs) hd1 A
              exact callM_tail (fl := true :: flagsOf as) (Holds.up h3 l1).lk0 ‹cleanS ρ1 = true› n A2 (by simp [flagsOf_len]) w
        · have so : selfOk c m d1 = false := by simpa using so
          rw [so] at w
          exact w.elim
theorem e_methN (hb0 : npl o = true) (ho : SP C k N sc st o i p) (cA : L2.Cls C.G.K (C.G.cl c)) (hm : L2.Meth C.G.K (C.G.cl c) m f) (F : FnG C kl f fd ps (spF C j (as.length + 1) (posOf 0 (true :: flagsOf as)))) (hk : kl ≤ k) (hb : Binds C.G.K fd ps [])
    (hfew : ∀ env, ((backTo cpos (starEach (e :: es) env)).all (fun x => !x.1) && (backToKw cpos (keywordEach [] env)).all (fun x => x.1.isSome)
      && decide ((e :: es).length + ([] : List Keyword).length + (if ([] : List Keyword).isEmpty then 0 else 1) < 30)) = true)
    (hline : (apos.endLine == cpos.line) = true) (hn : (e :: es).all nst = true) (ha : SAr C k N sc st (e :: es) as) :
    SXe C k N sc st pi (.Call (.Attribute o m apos) (e :: es) [] cpos) (.meth c j m i p as) := fun X W hX =>
  PE.imp (pe_methG hX (ho X W hX) cA hm F hk hb (npl_base hb0 _ _ _) (hfew _) hline hn (ha X W hX)) fun σ H Q h => e_meth h fun _ _ _ z => z
theorem e_methN0 (hb0 : npl o = true) (ho : SP C k N sc st o i p) (cA : L2.Cls C.G.K (C.G.cl c)) (hm : L2.Meth C.G.K (C.G.cl c) m f) (F : FnG C kl f fd ps (spF C j 1 [0])) (hk : kl ≤ k) (hb : Binds C.G.K fd ps [])
    (hline : (apos.endLine == cpos.line) = true) : SXe C k N sc st pi (.Call (.Attribute o m apos) [] [] cpos) (.meth c j m i p []) := fun X W hX =>
  PE.imp (pe_methG0 hX (ho X W hX) cA hm F hk hb (npl_base hb0 _ _ _) hline) fun σ H Q h => e_meth (as := []) h fun σ H Q ⟨B, F0, Lk, ρ, tv, td, h, c, w⟩ => w [] [] [] H h .nil
end
end Pu

set_option Elab.async false
set_option linter.all false
set_option maxRecDepth 100000
set_option maxHeartbeats 1000000
/-! PuO: what stands about calls that change slots: comparisons, tests, lists made so; statements. -/
namespace Pu
open PySem PySem.Spec PyProof.Rows L2
section
variable {C : Cf} {W : WX} {σ : L2.St} {H : Hp} {Q Q' : VK} {B : Hp} {F0 : Addr → Prop} {ρ : List (Option D)} {tv : List V} {td : List D} {v : V} {d : D}
theorem xq_toX {o : Out D} (w : XQ C W σ Q B F0 tv td (o.toX ρ)) (c : cleanS ρ = true) : Wish o (Off C W σ B F0 noH ρ tv td) fun d => ∀ v H', Holds C.G B F0 noH σ ρ (v :: tv) (d :: td) H' → noVw d = true → Q v H' := by
  cases o with
  | ok d => exact fun v H' h n => w v H' h c n
  | exc x => exact fun H' h cls dx er => w H' h c cls dx er
  | bad => exact w
theorem XQ.push {o : OutE} (w : XQ C W σ Q B F0 tv td o) (k : ∀ d' ρ' v' H', o = .ok d' ρ' → Holds C.G B F0 noH σ ρ' (v' :: v :: tv) (d' :: d :: td) H' → cleanS ρ' = true → noVw d' = true → Q' v' H') : XQ C W σ Q' B F0 (v :: tv) (d :: td) o := by
  cases o with
  | ok d' ρ' => exact fun v' H' h c n => k d' ρ' v' H' rfl h c n
  | ex x ρ' => exact fun H' h c => w H' h.pop c
  | bad => exact w
/-- one more such expression, then what follows -/
theorem xq_go {α : Type} {f : List (Option D) → OutE} {g : D → List (Option D) → OutX α} {P : OutX α → Prop} (h : Holds C.G B F0 noH σ ρ tv td H) (c : cleanS ρ = true) (n : noVws td = true) (w : P ((f ρ).bind g))
    (hx : ∀ x ρ', P (.ex x ρ') → ∀ H', Holds C.G B F0 noH σ ρ' tv td H' → cleanS ρ' = true → ∀ cls dx, ExR C.G H' x cls dx → W cls dx σ H') (hb : ¬ P .bad)
    (k : ∀ d ρ' v H', f ρ = .ok d ρ' → Holds C.G B F0 noH σ ρ' (v :: tv) (d :: td) H' → cleanS ρ' = true → noVw d = true → P (g d ρ') → Q v H') : tXE C f W σ H Q :=
  tXE_iff.mpr ⟨B, F0, ρ, tv, td, h, c, n, by
    cases q : f ρ with
    | ok d ρ' => rw [q] at w; exact fun v H' h' c' n' => k d ρ' v H' q h' c' n' w
    | ex x ρ' => rw [q] at w; exact hx x ρ' w
    | bad => rw [q] at w; exact hb w⟩
/-- what a test's outcome must bring -/
def XT (C : Cf) (W : WX) (σ : L2.St) (Q : Bool → Hp → Prop) (B : Hp) (F0 : Addr → Prop) (tv : List V) (td : List D) : OutX Bool → Prop
  | .ok b ρ' => ∀ H', Holds C.G B F0 noH σ ρ' tv td H' → cleanS ρ' = true → Q b H'
  | .ex x ρ' => ∀ H', Holds C.G B F0 noH σ ρ' tv td H' → cleanS ρ' = true → ∀ cls dx, ExR C.G H' x cls dx → W cls dx σ H'
  | .bad => False
def tXT (C : Cf) (f : List (Option D) → OutX Bool) (W : WX) : TT := fun σ H Q => ∃ B F0 ρ tv td, Holds C.G B F0 noH σ ρ tv td H ∧ cleanS ρ = true ∧ noVws td = true ∧ XT C W σ Q B F0 tv td (f ρ)
end
def SXt (C : Cf) (k : Nat) (N : List Str) (sc : Scope) (st : List Str) (pi : List Nat) (e : Expr) (xt : Xt) : Prop := ∀ X W, CtxOk C k N sc st X W → PT X e (tXT C (evT C.Φ C.gv pi xt) W)
def SXw (C : Cf) (k : Nat) (N : List Str) (sc : Scope) (st : List Str) (pi : List Nat) (e : Expr) (xt : Xt) : Prop := ∀ X W, CtxOk C k N sc st X W → PW X e (tXT C (evT C.Φ C.gv pi xt) W)
section
variable {C : Cf} {k kl : Nat} {N : List Str} {sc : Scope} {st : List Str} {pi : List Nat} {e o a b c : Expr} {es : List Expr} {ie ib : Ex} {xa xb xe : Xe} {ta tb tc xt : Xt} {pos pos' : Pos} {i : Nat}
theorem x_pu (he : SE C k N sc st e ie) : SXe C k N sc st pi e (.pu ie) := fun X W hX => PE.imp (he X W hX) fun σ H Q hq => by
  obtain ⟨B, F0, ρ, tv, td, h, cl, n, w⟩ := tXE_iff.mp hq
  simp only [evE] at w
  obtain ⟨h', c'⟩ := h.prep (Φ := C.Φ) (gv := C.gv) (pi := pi) ie cl
  generalize Pu.prep C.Φ C.gv pi ie ρ = ρ1 at h' c' w
  refine ⟨B, F0, noH, ρ1, tv, td, h', (xq_toX w c').bind.mono (fun _ z => z) fun d _ w1 v H1 h1 => ?_⟩
  obtain ⟨nd, w2⟩ := w1.chk
  exact w2 v H1 h1 nd
theorem cmp_core {op : CmpOp} {o : Cop} (R : CmpR C k op o) {W : WX} {σ : L2.St} {H : Hp} {Q : VK} (hq : tXE C (evE C.Φ C.gv pi (.cmp o xa ib)) W σ H Q) : tOp R.r (tXE C (evE C.Φ C.gv pi xa) W) (tE C ib W) σ H Q := by
  obtain ⟨B, F0, ρ, tv, td, h, cl, n, w⟩ := tXE_iff.mp hq
  simp only [evE] at w
  refine xq_go (P := XQ C W σ Q B F0 tv td) h cl n w (fun _ _ z => z) (fun z => z) fun x ρ' v H1 _ h1 c1 nx w1 => ?_
  refine ⟨B, F0, noH, ρ', v :: tv, x :: td, h1, (xq_toX w1 c1).bind.mono (fun _ z => z.push) fun y _ w2 u H2 h2 => ?_⟩
  obtain ⟨t, ht, w3⟩ := w2.ofob
  exact R.run B F0 noH σ ρ' tv td x y v u H2 t _ h2 ht (w3 _ _ (h2.pop.pop.push fun _ => .bl _) rfl)
theorem x_cmp {op : CmpOp} {o : Cop} (R : CmpR C k op o) (ha : SXe C k N sc st pi a xa) (hb : SE C k N sc st b ib) (hm : behindInMarks op b = false) : SXe C k N sc st pi (.Compare a [op] [b] pos) (.cmp o xa ib) := fun X W hX =>
  PE.imp (pe_cmpR (R.ok X hX.eK hX.room) (ha X W hX) (hb X W hX) hm) fun σ H Q hq => cmp_core R hq
theorem cmpX_core {op : CmpOp} {o : Cop} (R : CmpR C k op o) {W : WX} {σ : L2.St} {H : Hp} {Q : VK} (hq : tXE C (evE C.Φ C.gv pi (.cmpX o xa xb)) W σ H Q) : tOp R.r (tXE C (evE C.Φ C.gv pi xa) W) (tXE C (evE C.Φ C.gv pi xb) W) σ H Q := by
  obtain ⟨B, F0, ρ, tv, td, h, cl, n, w⟩ := tXE_iff.mp hq
  simp only [evE] at w
  refine xq_go (P := XQ C W σ Q B F0 tv td) h cl n w (fun _ _ z => z) (fun z => z) fun x ρ' v H1 _ h1 c1 nx w1 => ?_
  refine xq_go (P := XQ C W σ Q B F0 tv td) h1 c1 (by simp only [noVws, nx, n, Bool.and_self]) w1 (fun _ _ z H' h' => z H' h'.pop) (fun z => z) fun y ρ2 u H2 _ h2 c2 ny w2 => ?_
  obtain ⟨t, ht, w3⟩ := (xq_toX w2 c2).ofob
  exact R.run B F0 noH σ ρ2 tv td x y v u H2 t _ h2 ht (w3 _ _ (h2.pop.pop.push fun _ => .bl _) rfl)
theorem x_cmpX {op : CmpOp} {o : Cop} (R : CmpR C k op o) (ha : SXe C k N sc st pi a xa) (hb : SXe C k N sc st pi b xb) (hm : behindInMarks op b = false) : SXe C k N sc st pi (.Compare a [op] [b] pos) (.cmpX o xa xb) := fun X W hX =>
  PE.imp (pe_cmpR (R.ok X hX.eK hX.room) (ha X W hX) (hb X W hX) hm) fun σ H Q hq => cmpX_core R hq
/-- built-ins of one such argument -/
theorem x_biB {f : Bi} {x : Str} {id : String} {p : Pos} {u : Value} (R : BiR C f (.builtin id) u) (hg : sc.names.lookup x = some .globalImplicit) (hm : C.mg x = none) (hv : bootBuiltins x = some (.builtin id)) (hn : nst e = true) (h1 : x ≠ "__name__") (h2 : (x == ("__debug__" : Str)) = false)
    (h : SXe C k N sc st pi e xe) : SXe C k N sc st pi (.Call (.Name x p) [e] [] pos) (.bi f xe) := fun X W hX =>
  PE.imp (pe_callB (R.ok X hX.eK hX.calm) (by unfold Gl Env.kindOf; rw [hX.eS]; exact hg) (by rw [hX.eM]; exact hm) hv (pa_cons (h X W hX) pa_nil (hs := star_cons hn [] _)) h1 h2 (star_cons hn [] X.env) rfl) fun σ H Q hq => by
    obtain ⟨B, F0, ρ, tv, td, h, cl, n, w⟩ := tXE_iff.mp hq
    simp only [evE] at w
    refine xq_go (P := XQ C W σ Q B F0 tv td) h cl n w (fun _ _ z => z) (fun z => z) fun x ρ' v H1 _ h1 c1 nx w1 => ?_
    exact R.run B F0 noH σ ρ' tv td [v] [x] H1 _ Q rfl h1 ((xq_toX w1 c1).bind.mono (fun _ z => z) fun d _ w2 v' H' h' => let ⟨nd, w3⟩ := w2.chk; w3 v' H' h' nd)
theorem x_idx (hs : nsl b = true) (ha : SXe C k N sc st pi a xa) (hb : SE C k N sc st b ib) : SXe C k N sc st pi (.Subscript a b pos) (.idx xa ib) := fun X W hX =>
  PE.imp (pe_ix (r := rIx C.G.K) (by rw [← hX.eK]; exact ix_seq) (ha X W hX) (hb X W hX) (nsl_eq hs)) fun σ H Q hq => by
    obtain ⟨B, F0, ρ, tv, td, h, cl, n, w⟩ := tXE_iff.mp hq
    simp only [evE] at w
    refine xq_go (P := XQ C W σ Q B F0 tv td) h cl n w (fun _ _ z => z) (fun z => z) fun x ρ' v H1 _ h1 c1 nx w1 => ?_
    refine ⟨B, F0, noH, ρ', v :: tv, x :: td, h1, (xq_toX w1 c1).bind.mono (fun _ z => z.push) fun y _ w2 u H2 h2 => ?_⟩
    exact idx_run h2 (w2.bind.mono (fun _ z => z) fun d _ w3 v' H' h' => let ⟨nd, w4⟩ := w3.chk; w4 v' H' h' nd)
/-- (e, x) -/
theorem x_tup1 {kk : Nat} (hn : nst a = true) (hn2 : nst b = true) (ha : SE C k N sc st a ie) (hb : SXe C k N sc st pi b xb) : SXe C k N sc st pi (.Tuple [a, b] kk pos) (.tup1 ie xb) := fun X W hX =>
  PE.imp (pe_tup (pa_cons (ha X W hX) (pa_cons (hb X W hX) pa_nil (hs := star_cons hn2 [] _)) (star_cons hn [b] _))) fun σ H Q hq => by
    obtain ⟨B, F0, ρ, tv, td, h, cl, n, w⟩ := tXE_iff.mp hq
    simp only [evE] at w
    obtain ⟨h', c'⟩ := h.prep (Φ := C.Φ) (gv := C.gv) (pi := pi) ie cl
    generalize Pu.prep C.Φ C.gv pi ie ρ = ρ1 at h' c' w
    refine ⟨B, F0, noH, ρ1, tv, td, h', ?_⟩
    cases he : ev C.Φ C.gv ie ρ1 with
    | bad => rw [he] at w; exact w.elim
    | exc x => rw [he] at w; exact fun H' h2 cls dx er => w H' h2 c' cls dx er
    | ok d =>
      rw [he, Out.bind_ok] at w
      intro v H1 h1
      by_cases nd : noVw d = true
      · rw [nd] at w
        have w1 : XQ C W σ Q B F0 tv td ((evE C.Φ C.gv pi xb ρ1).bind fun y ρ2 => .ok (.tup [d, y]) ρ2) := w
        refine xq_go (P := XQ C W σ Q B F0 tv td) h1 c' (by simp only [noVws, nd, n, Bool.and_self]) w1 (fun _ _ z H' h' => z H' h'.pop) (fun z => z) fun y ρ2 u H2 _ h2 c2 ny w2 => ?_
        refine ⟨by show 2 ≤ sizeLine; decide +kernel, fun p hp => w2 _ _ ?_ c2 (by simp only [noVw, noVws, nd, ny, Bool.and_self])⟩
        exact Holds.newTup (vs := [v, u]) (ds := [d, y]) (Holds.up (vs := [u]) (ds := [y]) h2 rfl) rfl hp
      · have nd : noVw d = false := by simpa using nd
        rw [nd] at w
        exact w.elim
/-! ### tests -/
theorem xt_pu (he : STt C k N sc st e ie) : SXt C k N sc st pi e (.pu ie) := fun X W hX => PT.imp (he X W hX) fun σ H Q ⟨B, F0, ρ, tv, td, h, cl, n, w⟩ => by
  simp only [evT] at w
  refine ⟨B, F0, noH, ρ, tv, td, h, ?_⟩
  cases q : (ev C.Φ C.gv ie ρ).bind fun d => Out.ofo (truD d) with
  | ok b => rw [q] at w; exact fun H' h' => w H' h' cl
  | exc x => rw [q] at w; exact fun H' h' cls dx er => w H' h' cl cls dx er
  | bad => rw [q] at w; exact w
theorem xt_val (he : SXe C k N sc st pi e xe) (ht : tst e = true) : SXt C k N sc st pi e (.val xe) := fun X W hX =>
  PT.imp (pt_truth (he X W hX) fun whole => tst_eq ht _ whole) fun σ H Q ⟨B, F0, ρ, tv, td, h, cl, n, w⟩ => by
    simp only [evT] at w
    refine xq_go (P := XT C W σ Q B F0 tv td) h cl n w (fun _ _ z => z) (fun z => z) fun d ρ' v H1 _ h1 c1 nd w1 => ?_
    cases q : truD d with
    | none => rw [q] at w1; exact w1.elim
    | some t =>
      rw [q] at w1
      rw [hX.eK]
      exact ⟨t, tru_of h1 q, w1 H1 h1.pop c1⟩
theorem xt_bl {W : WX} {σ : L2.St} {H : Hp} {Q : Bool → Hp → Prop} (hbl : ∀ ρ d ρ', evE C.Φ C.gv pi xe ρ = .ok d ρ' → ∃ t, d = .bl t) (hq : tXT C (evT C.Φ C.gv pi (.val xe)) W σ H Q) : tXE C (evE C.Φ C.gv pi xe) W σ H fun z H' => ∃ k, z = .bl k ∧ Q k H' := by
  obtain ⟨B, F0, ρ, tv, td, h, cl, n, w⟩ := hq
  simp only [evT] at w
  refine xq_go (P := XT C W σ Q B F0 tv td) h cl n w (fun _ _ z => z) (fun z => z) fun d ρ' v H1 he h1 c1 nd w1 => ?_
  obtain ⟨t, rfl⟩ := hbl _ _ _ he
  obtain ⟨_, _, o⟩ := h1.top
  rw [o.inv_bl]
  exact ⟨t, rfl, w1 H1 h1.pop c1⟩
theorem cmp_isbl {o : Cop} : ∀ ρ d ρ', evE C.Φ C.gv pi (.cmp o xa ib) ρ = .ok d ρ' → ∃ t, d = .bl t := fun ρ d ρ' h => by
  simp only [evE] at h
  cases q : evE C.Φ C.gv pi xa ρ with
  | bad => rw [q] at h; cases h
  | ex x ρ1 => rw [q] at h; cases h
  | ok x ρ1 =>
    rw [q] at h
    simp only [OutX.bind] at h
    cases q2 : ev C.Φ C.gv ib ρ1 with
    | bad => rw [q2] at h; cases h
    | exc _ => rw [q2] at h; cases h
    | ok y =>
      rw [q2, Out.bind_ok] at h
      cases q3 : cmpB o x y with
      | none => rw [q3] at h; cases h
      | some t => rw [q3] at h; cases h; exact ⟨t, rfl⟩
theorem cmpX_isbl {o : Cop} : ∀ ρ d ρ', evE C.Φ C.gv pi (.cmpX o xa xb) ρ = .ok d ρ' → ∃ t, d = .bl t := fun ρ d ρ' h => by
  simp only [evE] at h
  cases q : evE C.Φ C.gv pi xa ρ with
  | bad => rw [q] at h; cases h
  | ex x ρ1 => rw [q] at h; cases h
  | ok x ρ1 =>
    rw [q] at h
    simp only [OutX.bind] at h
    cases q2 : evE C.Φ C.gv pi xb ρ1 with
    | bad => rw [q2] at h; cases h
    | ex _ _ => rw [q2] at h; cases h
    | ok y ρ2 =>
      rw [q2] at h
      dsimp only at h
      cases q3 : cmpB o x y with
      | none => rw [q3] at h; cases h
      | some t => rw [q3] at h; cases h; exact ⟨t, rfl⟩
theorem xt_cmp {op : CmpOp} {o : Cop} (R : CmpR C k op o) (ha : SXe C k N sc st pi a xa) (hb : SE C k N sc st b ib) (hm : behindInMarks op b = false) : SXt C k N sc st pi (.Compare a [op] [b] pos) (.val (.cmp o xa ib)) := fun X W hX =>
  PT.imp (pt_cmpR (R.ok X hX.eK hX.room) (ha X W hX) (hb X W hX) hm) fun σ H Q hq => cmp_core R (xt_bl cmp_isbl hq)
theorem xt_cmpX {op : CmpOp} {o : Cop} (R : CmpR C k op o) (ha : SXe C k N sc st pi a xa) (hb : SXe C k N sc st pi b xb) (hm : behindInMarks op b = false) : SXt C k N sc st pi (.Compare a [op] [b] pos) (.val (.cmpX o xa xb)) := fun X W hX =>
  PT.imp (pt_cmpR (R.ok X hX.eK hX.room) (ha X W hX) (hb X W hX) hm) fun σ H Q hq => cmpX_core R (xt_bl cmpX_isbl hq)
/-- one more test, then what follows -/
theorem xt_go {W : WX} {σ : L2.St} {H : Hp} {Q : Bool → Hp → Prop} {f : List (Option D) → OutX Bool} {g : Bool → List (Option D) → OutX Bool} {Q' : Bool → Hp → Prop} {B : Hp} {F0 : Addr → Prop} {ρ : List (Option D)} {tv : List V} {td : List D} (h : Holds C.G B F0 noH σ ρ tv td H) (cl : cleanS ρ = true) (n : noVws td = true)
    (w : XT C W σ Q B F0 tv td ((f ρ).bind g)) (k : ∀ b ρ' H', Holds C.G B F0 noH σ ρ' tv td H' → cleanS ρ' = true → XT C W σ Q B F0 tv td (g b ρ') → Q' b H') : tXT C f W σ H Q' :=
  ⟨B, F0, ρ, tv, td, h, cl, n, by
    cases q : f ρ with
    | ok b ρ' => rw [q] at w; exact fun H' h' c' => k b ρ' H' h' c' w
    | ex x ρ' => rw [q] at w; exact w
    | bad => rw [q] at w; exact w⟩
theorem xt_not (h : SXt C k N sc st pi a ta) : SXt C k N sc st pi (.UnaryOp .Not a pos) (.not ta) := fun X W hX =>
  PT.imp (pt_not (h X W hX)) fun σ H Q ⟨B, F0, ρ, tv, td, h, cl, n, w⟩ => by
    simp only [evT] at w
    exact xt_go h cl n w fun b ρ' H' h' c' w' => w' H' h' c'
theorem xw_and1 (h : SXt C k N sc st pi a ta) : SXw C k N sc st pi (.BoolOp .And [a] pos) ta := fun X W hX => pw_and1 (h X W hX)
theorem xw_or1 (h : SXt C k N sc st pi a ta) : SXw C k N sc st pi (.BoolOp .Or [a] pos) ta := fun X W hX => pw_or1 (h X W hX)
theorem xw_and {rest : List Expr} (ha : SXt C k N sc st pi a ta) (hb : SXw C k N sc st pi (.BoolOp .And (b :: rest) pos) tb) : SXw C k N sc st pi (.BoolOp .And (a :: b :: rest) pos) (.and ta tb) := fun X W hX =>
  PW.imp (pw_and (ha X W hX) (hb X W hX)) fun σ H Q ⟨B, F0, ρ, tv, td, h, cl, n, w⟩ => by
    simp only [evT] at w
    refine xt_go h cl n w fun t ρ' H' h' c' w' => ?_
    cases t with
    | true => exact ⟨B, F0, ρ', tv, td, h', c', n, w'⟩
    | false => exact w' H' h' c'
theorem xw_or {rest : List Expr} (ha : SXt C k N sc st pi a ta) (hb : SXw C k N sc st pi (.BoolOp .Or (b :: rest) pos) tb) : SXw C k N sc st pi (.BoolOp .Or (a :: b :: rest) pos) (.or ta tb) := fun X W hX =>
  PW.imp (pw_or (ha X W hX) (hb X W hX)) fun σ H Q ⟨B, F0, ρ, tv, td, h, cl, n, w⟩ => by
    simp only [evT] at w
    refine xt_go h cl n w fun t ρ' H' h' c' w' => ?_
    cases t with
    | false => exact ⟨B, F0, ρ', tv, td, h', c', n, w'⟩
    | true => exact w' H' h' c'
theorem xw_pt (h : SXw C k N sc st pi e xt) : SXt C k N sc st pi e xt := fun X W hX => (h X W hX).pt
/-! ### statements -/
theorem t_expX (hn : nlc e = true) (he : SXe C k N sc st pi e xe) : S1 C k N sc st pi (.Expr e pos) (.expX xe) := fun X W hX =>
  PS.imp (ps_expr (he X W hX.ok) (nlc_swaps hn _ _ _)) fun E σ H ⟨B, F0, ρ, tv, td, pv, h, c, n, p, w⟩ => by
    simp only [run1] at w
    refine ⟨B, F0, ρ, tv, td, h, c, n, ?_⟩
    cases q : evE C.Φ C.gv pi xe ρ with
    | bad => rw [q] at w; exact w.elim
    | ex y ρ' => rw [q] at w; exact fun H' h' c' cls dx er => w σ H' h' c' p cls dx er
    | ok d ρ' => rw [q] at w; exact fun v H' h' c' nd => w σ H' h'.pop c' p
theorem t_retX (he : SXe C k N sc st pi e xe) : S1 C k N sc st pi (.Return (some e) pos) (.retX xe) := fun X W hX =>
  PS.imp (ps_ret (he X W hX.ok)) fun E σ H ⟨B, F0, ρ, tv, td, pv, h, c, n, p, w⟩ => by
    simp only [run1] at w
    refine ⟨B, F0, ρ, tv, td, h, c, n, ?_⟩
    cases q : evE C.Φ C.gv pi xe ρ with
    | bad => rw [q] at w; exact w.elim
    | ex y ρ' => rw [q] at w; exact fun H' h' c' cls dx er => w σ H' h' c' p cls dx er
    | ok d ρ' => rw [q] at w; exact fun v H' h' c' nd => w v σ H' h' c' nd p
theorem pi_set {σ : L2.St} {v : Option V} {i : Nat} (hp : i ∉ pi) : pi.map (fun j => (σ.set i v)[j]?) = pi.map (fun j => σ[j]?) := List.map_congr_left fun j hj => List.getElem?_set_ne fun (z : i = j) => hp (by rw [z]; exact hj)
theorem t_setX {x : Str} {i : Nat} (hn : nlc e = true) (hi : N[i]? = some x) (hx : x ∈ st) (hp : i ∉ pi) (he : SXe C k N sc st pi e xe) : S1 C k N sc st pi (.Assign [.Name x pos'] e pos) (.setX i xe) := fun X W hX => by
  obtain ⟨h1, h2⟩ := hX.ok.hst _ hx
  refine PS.imp (ps_set (by rw [hX.ok.eN]; exact hX.ok.nd) (by rw [hX.ok.eN]; exact hi) (by rw [hX.ok.eS]; exact h1) (he X W hX.ok) (nlc_swaps hn _ _ _) (by rw [hX.ok.eS]; exact h2)) fun E σ H ⟨B, F0, ρ, tv, td, pv, h, c, n, p, w⟩ => ?_
  simp only [run1] at w
  refine ⟨B, F0, ρ, tv, td, h, c, n, ?_⟩
  cases q : evE C.Φ C.gv pi xe ρ with
  | bad => rw [q] at w; exact w.elim
  | ex y ρ' => rw [q] at w; exact fun H' h' c' cls dx er => w σ H' h' c' p cls dx er
  | ok d ρ' =>
    rw [q] at w
    intro v H' h' c' nd
    dsimp only at w
    by_cases hl : i < ρ'.length
    · rw [if_pos hl] at w
      exact w _ H' (h'.set hl) (cleanS_set c' fun d e => by cases e; exact nd) ((pi_set hp).trans p)
    · rw [if_neg hl] at w; exact w.elim
theorem t_iteX {x y : List Stmt} {mx my : List Sm} (hc : SXt C k N sc st pi c tc) (h1 : SS C k N sc st pi x mx) (h2 : SS C k N sc st pi y my) : S1 C k N sc st pi (.If c x y pos) (.iteX tc mx my) := fun X W hX =>
  PS.imp (ps_if (hc X W hX.ok) (h1 X W hX) (h2 X W hX)) fun E σ H ⟨B, F0, ρ, tv, td, pv, h, cl, n, p, w⟩ => by
    simp only [run1] at w
    refine ⟨B, F0, ρ, tv, td, h, cl, n, ?_⟩
    cases q : evT C.Φ C.gv pi tc ρ with
    | bad => rw [q] at w; exact w.elim
    | ex y ρ' => rw [q] at w; exact fun H' h' c' cls dx er => w σ H' h' c' p cls dx er
    | ok t ρ' =>
      rw [q] at w
      intro H' h' c'
      cases t
      · exact ⟨B, F0, ρ', tv, td, pv, h', c', n, p, w⟩
      · exact ⟨B, F0, ρ', tv, td, pv, h', c', n, p, w⟩
/-- a test that changes nothing, by either way -/
theorem t_iteP {x y : List Stmt} {mx my : List Sm} (h : S1 C k N sc st pi (.If c x y pos) (.iteX (.pu ie) mx my)) : S1 C k N sc st pi (.If c x y pos) (.ite ie mx my) := fun X W hX =>
  PS.imp (h X W hX) fun E σ H ⟨B, F0, ρ, tv, td, pv, h, cl, n, p, w⟩ => by
    refine ⟨B, F0, ρ, tv, td, pv, h, cl, n, p, ?_⟩
    simp only [run1, evT] at w ⊢
    cases q : (ev C.Φ C.gv ie ρ).bind fun d => Out.ofo (truD d) with
    | ok b => rw [q] at w; exact w
    | exc x => rw [q] at w; exact w
    | bad => rw [q] at w; exact w
theorem t_wh {x : List Stmt} {mx : List Sm} (hc : SXt C k N sc st pi c tc) (h1 : SS C k N sc st pi x mx) : S1 C k N sc st pi (.While c x [] pos) (.wh tc mx) := fun X W hX =>
  PS.imp (ps_while hX.own (hc X W hX.ok) (h1 X W hX)) fun E σ H ⟨B, F0, ρ, tv, td, pv, h, cl, n, p, w⟩ => by
    simp only [run1] at w
    refine ⟨fun m σ' H' => ∃ ρ', Holds C.G B F0 noH σ' ρ' tv td H' ∧ cleanS ρ' = true ∧ pi.map (fun i => σ'[i]?) = pv ∧ WR C B F0 tv td pi pv W E (loopW (evT C.Φ C.gv pi tc) (runs C.Φ C.gv pi mx) m ρ'), ⟨_, ρ, h, cl, p, w⟩, ?_⟩
    rintro m σ' H' ⟨ρ', h', c', p', w'⟩
    cases m with
    | zero => exact w'.elim
    | succ m =>
      simp only [loopW] at w'
      refine ⟨B, F0, ρ', tv, td, h', c', n, ?_⟩
      cases q : evT C.Φ C.gv pi tc ρ' with
      | bad => rw [q] at w'; exact w'.elim
      | ex y ρ2 => rw [q] at w'; exact fun H2 h2 c2 cls dx er => w' σ' H2 h2 c2 p' cls dx er
      | ok t ρ2 =>
        rw [q] at w'
        intro H2 h2 c2
        cases t with
        | false => exact w' σ' H2 h2 c2 p'
        | true =>
          refine ⟨fun σ3 H3 => ∃ ρ', Holds C.G B F0 noH σ3 ρ' tv td H3 ∧ cleanS ρ' = true ∧ pi.map (fun i => σ3[i]?) = pv ∧ WR C B F0 tv td pi pv W E (loopW (evT C.Φ C.gv pi tc) (runs C.Φ C.gv pi mx) m ρ'), fun σ3 H3 z => ⟨m, Nat.lt_succ_self m, z⟩, B, F0, ρ2, tv, td, pv, h2, c2, n, p', ?_⟩
          dsimp only at w'
          cases r : runs C.Φ C.gv pi mx ρ2 with
          | nx ρ3 => rw [r] at w'; exact fun σ3 H3 h3 c3 p3 => ⟨ρ3, h3, c3, p3, w'⟩
          | ct ρ3 => rw [r] at w'; exact fun σ3 H3 h3 c3 p3 => ⟨ρ3, h3, c3, p3, w'⟩
          | bk ρ3 => rw [r] at w'; exact fun σ3 H3 h3 c3 p3 => w' σ3 H3 h3 c3 p3
          | rt d ρ3 => rw [r] at w'; exact w'
          | ex y ρ3 => rw [r] at w'; exact w'
          | bad => rw [r] at w'; exact w'
theorem t_setFX {x : Str} {i : Nat} {p : List Pt} {tpos : Pos} (hc : ∀ c, L2.Cls C.G.K (C.G.cl c)) (hf : ∀ c, L2.NoAttr C.G.K (C.G.cl c) x) (ho : SP C k N sc st o i p) (he : SXe C k N sc st pi e xe) : S1 C k N sc st pi (.Assign [.Attribute o x tpos] e pos) (.setFX i p x xe) := fun X W hX =>
  PS.imp (ps_fld (ho X W hX.ok) (he X W hX.ok) (at_swaps _ _)) fun E σ H ⟨B, F0, ρ, tv, td, pv, h, c, n, p', w⟩ => by
    simp only [run1] at w
    refine ⟨B, F0, ρ, tv, td, h, c, n, ?_⟩
    cases q : evE C.Φ C.gv pi xe ρ with
    | bad => rw [q] at w; exact w.elim
    | ex y ρ' => rw [q] at w; exact fun H' h' c' cls dx er => w σ H' h' c' p' cls dx er
    | ok y ρ1 =>
      rw [q] at w
      dsimp only at w
      intro u H0 h0 c' ny
      refine ⟨B, F0, noH, ρ1, u :: tv, y :: td, h0, c', (re_ok w c' p').mono (fun _ z => z.push) fun q hq w2 v v0 H1 h1 e0 r => ?_⟩
      split at w2
      · rename_i cc ns xs hs
        split at w2
        · rename_i cond
          obtain ⟨d, hd, hsd⟩ := subAt_get hs
          obtain ⟨w0, a, dx, fvs, e1, r', ha, en, hl, nxs, kk⟩ := Holds.mutf (tx := [u]) (dx := [y]) h1 rfl hd c' n (by simp only [noVws, ny, Bool.and_self]) hsd
          rw [e0] at e1
          cases e1
          rw [reach_inj r r', hX.ok.eK]
          subst en
          refine ⟨a, _, dx, fvs, rfl, ha, hc cc, hf cc, by rw [hl]; exact cond, ?_⟩
          obtain ⟨d', u1, h2⟩ := kk (putF x u fvs) [] (putN x y (fvs.map (·.1)) xs).2 [] fun o1 o2 => let ⟨g3, o3, s⟩ := o1.putF (f := x) o2; ⟨g3, [], o3, .nil, by rw [List.append_nil]; exact s⟩
          rw [putN_eq (y := y) hl] at u1
          unfold putAt at w2
          rw [hd] at w2
          dsimp only at w2
          rw [u1] at w2
          exact w2 σ _ h2 (cleanS_set c' fun d e => by cases e; exact noVw_upd u1 (cleanS_get c' hd) (by simp only [noVw, Bool.and_eq_true, decide_eq_true_eq]; exact ⟨(fun z => by cases z), putN_noVw ny nxs⟩)) p'
        · exact w2.elim
      · exact w2.elim
/-- x += e, of numbers -/
theorem t_aug {x : Str} {i : Nat} (hi : N[i]? = some x) (hx : x ∈ st) (hp : i ∉ pi) (he : SE C k N sc st e ie) : S1 C k N sc st pi (.AugAssign (.Name x pos') .Add e pos) (.aug i ie) := fun X W hX => by
  obtain ⟨h1, h2⟩ := hX.ok.hst _ hx
  refine PS.imp (ps_aug (by rw [hX.ok.eN]; exact hX.ok.nd) (by rw [hX.ok.eN]; exact hi) (by rw [hX.ok.eS]; exact h1) (he X W hX.ok) ip_add (by rw [hX.ok.eS]; exact h2)) fun E σ H ⟨B, F0, ρ, tv, td, pv, h, c, n, p, w⟩ => ?_
  simp only [run1] at w
  split at w
  · rename_i a ha
    obtain ⟨v, e1, hv⟩ := h.var ha
    obtain ⟨_, _, o⟩ := hv.top
    rw [show vwD (.int a) = .int a from rfl] at o
    rw [o.inv_int] at e1
    refine ⟨_, e1, B, F0, noH, ρ, tv, td, h, (re_ok w c p).mono (fun _ z => z) fun d hev w1 u H1 h1 => ?_⟩
    clear hev
    cases d <;> first | (exact w1.elim) | skip
    rename_i b
    obtain ⟨_, _, o2⟩ := h1.top
    rw [o2.inv_int]
    have hl := (List.getElem?_eq_some_iff.mp ha).1
    exact ⟨a, b, rfl, rfl, w1 _ _ ((h1.pop.push (d := .int (a + b)) fun _ => .int _).set hl) (cleanS_set c fun d e => by cases e; rfl) ((pi_set hp).trans p)⟩
  · exact w.elim
end
end Pu

set_option Elab.async false
set_option linter.all false
set_option maxRecDepth 100000
set_option maxHeartbeats 1000000
/-! PuC: lists made by a loop that changes slots. -/
namespace Pu
open PySem PySem.Spec PyProof.Rows L2
/-- a clause's tests -/
def SCx (C : Cf) (k : Nat) (N : List Str) (sc : Scope) (st : List Str) (pi : List Nat) (es : List Expr) (c : Xt) : Prop := ∀ X W, CtxOk C k N sc st X W → PTs X es (tXT C (evT C.Φ C.gv pi c) W)
/-- the body of such a list -/
def bodyC (Φ : Nat → List D → Out (D × List D)) (gv : Nat → D) (pi : List Nat) (t : Tg) (c : Xt) (a : Xe) (own : List Nat) (x : D) (ρ : List (Option D)) : OutX (Option D) := match bindTg t x (wipeD ρ own) with
  | .ok ρ1 => (match evT Φ gv pi c ρ1 with
    | .ok b ρ2 => if b = true then (match evE Φ gv pi a ρ2 with | .ok y ρ3 => .ok (some y) ρ3 | _ => .bad) else .ok none ρ2
    | _ => .bad)
  | _ => .bad
theorem wipeD_none {ρ : List (Option D)} {vs : List Nat} {i : Nat} {d : D} (h : (wipeD ρ vs)[i]? = some (some d)) : i ∉ vs ∧ ρ[i]? = some (some d) := by
  rw [putAll_wipe.wipeD_get] at h
  by_cases z : i ∈ vs
  · rw [if_pos z] at h
    cases q : ρ[i]? <;> rw [q] at h <;> cases h
  · rw [if_neg z] at h
    exact ⟨z, h⟩
theorem clean_wipeD {ρ : List (Option D)} {vs : List Nat} (c : cleanS ρ = true) : cleanS (wipeD ρ vs) = true := by
  induction vs with
  | nil => exact c
  | cons v vs ih => exact cleanS_set ih fun d e => by cases e
section
variable {C : Cf} {k : Nat} {N : List Str} {sc scope : Scope} {st st' : List Str} {pi : List Nat} {c elt tg iter : Expr} {xa : Xe} {xc : Xt} {t : Tg} {it : It} {ifs : List Expr} {pos : Pos}
theorem cx_nil : SCx C k N sc st pi [] (.pu (.bl true)) := fun X W hX => ⟨fun pins s σ H Q I ⟨B, F0, ρ, tv, td, h, cl, n, w⟩ => pts_nil.run pins s σ H Q I (by
  simp only [evT, ev, Out.bind_ok, truD, Out.ofo_some] at w
  exact w H h cl)⟩
theorem cx_one (h : SXt C k N sc st pi c xc) : SCx C k N sc st pi [c] xc := fun X W hX => pts_one (h X W hX)
theorem loopC_cons {f : D → List (Option D) → OutX (Option D)} {x : D} {xs ys : List D} {ρ ρ' : List (Option D)} (h : loopC f (x :: xs) ρ = .ok ys ρ') : ∃ o ρ1 zs, f x ρ = .ok o ρ1 ∧ loopC f xs ρ1 = .ok zs ρ' ∧ ys = (match o with | some y => y :: zs | none => zs) := by
  simp only [loopC] at h
  cases h1 : f x ρ with
  | ok o ρ1 =>
    rw [h1] at h
    dsimp only at h
    cases h2 : loopC f xs ρ1 with
    | ok zs ρ2 =>
      rw [h2] at h
      cases h
      exact ⟨o, ρ1, zs, rfl, h2, rfl⟩
    | ex _ _ => rw [h2] at h; cases h
    | bad => rw [h2] at h; cases h
  | ex _ _ => rw [h1] at h; cases h
  | bad => rw [h1] at h; cases h
theorem compX_tail {W : WX} {own : List Nat} {σ : L2.St} {H : Hp} {Q : VK} (ht : ∀ i ∈ tgIx t, i ∈ own) (hq : tXE C (evE C.Φ C.gv pi (.comp own xa t it xc)) W σ H Q) :
    tLu (tI C it W) (tG C t) (tXT C (evT C.Φ C.gv pi xc) (fun _ _ _ _ => False)) (tXE C (evE C.Φ C.gv pi xa) (fun _ _ _ _ => False)) own σ H Q := by
  obtain ⟨B, F0, ρ, tv, td, h, cl, n, w⟩ := tXE_iff.mp hq
  simp only [evE] at w
  obtain ⟨h', c'⟩ := h.prepI (Φ := C.Φ) (gv := C.gv) (pi := pi) it cl
  generalize Pu.prepI C.Φ C.gv pi it ρ = ρ0 at h' c' w
  refine ⟨B, F0, noH, ρ0, tv, td, h', ?_⟩
  cases hr : evIt C.Φ C.gv it ρ0 with
  | bad => rw [hr] at w; exact w.elim
  | exc x => rw [hr] at w; exact w.elim
  | ok r =>
  rw [hr] at w
  dsimp only at w
  by_cases cond : r.2 = true ∧ noVws r.1 = true
  · rw [if_pos cond] at w
    obtain ⟨r2, r1⟩ := cond
    intro J rv rd H1 wk hz h1
    have nr : noVws rd = true := hz r2
    have w : XQ C W σ Q B F0 tv td ((loopC (bodyC C.Φ C.gv pi t xc xa own) r.1 ρ0).bind fun ys ρ' => if ys.length ≤ sizeLine then .ok (.lst .ow ys) (wipeD ρ' own) else .bad) := w
    cases hy : loopC (bodyC C.Φ C.gv pi t xc xa own) r.1 ρ0 with
    | bad => rw [hy] at w; exact w.elim
    | ex x ρ' =>
      -- such a loop never ends so
      exfalso
      have key : ∀ (xs : List D) (ρ : List (Option D)) x ρ', loopC (bodyC C.Φ C.gv pi t xc xa own) xs ρ ≠ .ex x ρ' := by
        intro xs
        induction xs with
        | nil => intro ρ x ρ' e; cases e
        | cons z zs ih =>
          intro ρ x ρ' e
          simp only [loopC] at e
          split at e
          · split at e <;> cases e
          · cases e
      exact key _ _ _ _ hy
    | ok ys ρf =>
    rw [hy] at w
    simp only [OutX.bind] at w
    by_cases hlen : ys.length ≤ sizeLine
    · rw [if_pos hlen] at w
      have w3 : ∀ v H', Holds C.G B F0 noH σ (wipeD ρf own) (v :: tv) (.lst .ow ys :: td) H' → cleanS (wipeD ρf own) = true → noVw (.lst .ow ys) = true → Q v H' := w
      have h3 : Holds C.G B F0 noH (L2.wipe σ own) (wipeD ρ0 own) (rv ++ tv) (rd ++ td) H1 := Holds.wipe (vs := own) h1
      refine ⟨fun i m acc H' => m = r.1.length - i ∧ i ≤ r.1.length ∧ ∃ accd zs ρi, acc.length = accd.length ∧ cleanS ρi = true ∧ noVws accd = true ∧ Holds C.G B F0 noH (L2.wipe σ own) (wipeD ρi own) (rv ++ (acc.reverse ++ tv)) (rd ++ (accd.reverse ++ td)) H' ∧ loopC (bodyC C.Φ C.gv pi t xc xa own) (r.1.drop i) ρi = .ok zs ρf ∧ accd ++ zs = ys, ⟨_, rfl, Nat.zero_le _, [], ys, ρ0, rfl, c', rfl, (show Holds C.G B F0 noH (L2.wipe σ own) (wipeD ρ0 own) (rv ++ (([] : List V).reverse ++ tv)) (rd ++ (([] : List D).reverse ++ td)) H1 from h3), hy, rfl⟩, ?_⟩
      rintro i m acc H' ⟨rfl, hi, accd, zs, ρi, el, ci, na, hh, hz, ey⟩
      have nst : noVws (rd ++ (accd.reverse ++ td)) = true := noVws_app nr (noVws_app (by rw [noVws_eq, List.all_reverse, ← noVws_eq]; exact na) n)
      by_cases hlt : i < r.1.length
      · refine .inr ⟨wk.go i hh hlt, fun a' H'' => ∃ accd zs ρi, a'.length = accd.length ∧ cleanS ρi = true ∧ noVws accd = true ∧ Holds C.G B F0 noH (L2.wipe σ own) (wipeD ρi own) (rv ++ (a'.reverse ++ tv)) (rd ++ (accd.reverse ++ td)) H'' ∧ loopC (bodyC C.Φ C.gv pi t xc xa own) (r.1.drop (i + 1)) ρi = .ok zs ρf ∧ accd ++ zs = ys, fun a' H'' z => ⟨r.1.length - (i + 1), by omega, rfl, hlt, z⟩, fun x H2 hyl => ?_⟩
        have hx : r.1[i]? = some r.1[i] := List.getElem?_eq_getElem hlt
        have h4 := wk.yld hh hx hyl
        rw [take_succ_of hlt] at hz
        obtain ⟨o, ρ1, zs', hF, hz', ez⟩ := loopC_cons hz
        refine ⟨B, F0, noH, wipeD ρi own, _, _, _, h4, ?_⟩
        unfold bodyC at hF
        cases hb : bindTg t r.1[i] (wipeD ρi own) with
        | exc _ => rw [hb] at hF; cases hF
        | bad => rw [hb] at hF; cases hF
        | ok ρ' =>
          rw [hb] at hF
          dsimp only at hF
          intro σ2 hs2 h5
          have ew : L2.wipe σ2 own = L2.wipe σ own := by rw [hs2 own ht, wipe_wipe]
          have nx : noVw r.1[i] = true := by rw [noVws_eq, List.all_eq_true] at r1; exact r1 _ (List.getElem_mem hlt)
          have c5 : cleanS ρ' = true := clean_bind hb (clean_wipeD ci) nx
          refine ⟨ew, B, F0, ρ', _, _, h5, c5, nst, ?_⟩
          cases hc : evT C.Φ C.gv pi xc ρ' with
          | ex _ _ => rw [hc] at hF; cases hF
          | bad => rw [hc] at hF; cases hF
          | ok b ρ2 =>
            rw [hc] at hF
            dsimp only at hF
            intro H3 h6 c6
            cases b with
            | false =>
              rw [if_neg (by decide)] at hF ⊢
              cases hF
              have h7 := Holds.wipe (vs := own) h6
              rw [ew] at h7
              exact ⟨accd, zs', _, el, c6, na, h7, hz', by rw [← ey, ez]⟩
            | true =>
              rw [if_pos rfl] at hF ⊢
              refine tXE_iff.mpr ⟨B, F0, ρ2, _, _, h6, c6, nst, ?_⟩
              cases he : evE C.Φ C.gv pi xa ρ2 with
              | ex _ _ => rw [he] at hF; cases hF
              | bad => rw [he] at hF; cases hF
              | ok y ρ3 =>
                rw [he] at hF
                cases hF
                intro v H4 h7 c7 ny
                have h8 := Holds.wipe (vs := own) (Holds.down h7 wk.len)
                rw [ew] at h8
                have ey' : accd ++ [y] ++ zs' = ys := by rw [← ey, ez, List.append_assoc]; rfl
                refine ⟨?_, accd ++ [y], zs', _, by simp [el], c7, noVws_app na (by simp only [noVws, ny, Bool.and_self]), ?_, hz', ey'⟩
                · have e9 : ys.length = accd.length + 1 + zs'.length := by rw [← ey', List.length_append, List.length_append]; rfl
                  omega
                · rw [List.reverse_append, List.reverse_append]
                  exact h8
      · have e : i = r.1.length := by omega
        subst e
        rw [List.drop_length] at hz
        simp only [loopC, OutX.ok.injEq] at hz
        obtain ⟨rfl, rfl⟩ := hz
        rw [List.append_nil] at ey
        subst ey
        refine .inl ⟨wk.stop hh, by rw [el]; exact hlen, fun D hD => w3 _ _ ?_ (clean_wipeD ci) (by simp only [noVw, na, Bool.and_true, decide_eq_true_eq]; exact fun z => by cases z)⟩
        have h4 := Holds.popn hh wk.len
        have h5 := Holds.revd h4 (by rw [List.length_reverse, List.length_reverse, el])
        rw [List.reverse_reverse, List.reverse_reverse] at h5
        have h6 := Holds.newLst h5 el hD
        refine h6.other (by rw [wipe_length]) fun j d hd => ?_
        rw [wipe_get, if_neg (wipeD_none hd).1]
    · rw [if_neg hlen] at w
      exact w.elim
  · rw [if_neg cond] at w
    exact w.elim
theorem x_comp {own : List (Str × Nat)} (hw : ∀ i ∈ tgIx t, i ∈ own.map (·.2)) (hbk : blkC N sc scope own = true) (hf : ∀ env x, foldedSetIterable iter env x = pure x)
    (h : ∀ x ∈ st', L2.Loc (relS scope sc) x ∧ ((scope.names.lookup x == some NameKind.cell) = true ∨ (relS scope sc).names.lookup x = some NameKind.local))
    (hi : SI C k N sc st tg iter it) (hg : SG C k N (relS scope sc) st' tg t) (hc : SCx C k N (relS scope sc) st' pi ifs xc) (he : SXe C k N (relS scope sc) st' pi elt xa) :
    SXe C k N sc st pi (.ListComp elt [⟨tg, iter, ifs, 0⟩] scope pos) (.comp (own.map (·.2)) xa t it xc) := fun X W hX => by
  have ok : BlkOk X.N X.env.scope scope own := by rw [hX.eN, hX.eS]; exact blkOk_by hbk
  exact PE.imp (pe_lu hX.calm (by rw [hX.eN]; exact hX.nd) (hi X W hX) ok (fun s H c cl fp => have z := ctx_blk hX h s H c cl fp; ⟨hg _ _ z, hc _ _ z, he _ _ z⟩) (hf X.env)) fun σ H Q q => compX_tail hw q
/-- name = [..], else -/
theorem t_setXL {x : Str} {i : Nat} {elt : Expr} {gs : List Comprehension} {scope : Scope} {p2 pos' : Pos} {xe : Xe} (hsw : sc.names.lookup x = some .cell ∨ (pos'.line == p2.line) = false) (hi : N[i]? = some x) (hx : x ∈ st) (hp : i ∉ pi) (he : SXe C k N sc st pi (.ListComp elt gs scope p2) xe) : S1 C k N sc st pi (.Assign [.Name x pos'] (.ListComp elt gs scope p2) pos) (.setX i xe) := fun X W hX => by
  obtain ⟨h1, h2⟩ := hX.ok.hst _ hx
  refine PS.imp (ps_set (by rw [hX.ok.eN]; exact hX.ok.nd) (by rw [hX.ok.eN]; exact hi) (by rw [hX.ok.eS]; exact h1) (he X W hX.ok) (swaps_off (hsw.imp (fun h => by unfold Env.kindOf; rw [hX.ok.eS]; exact h) id)) (by rw [hX.ok.eS]; exact h2)) fun E σ H ⟨B, F0, ρ, tv, td, pv, h, c, n, p, w⟩ => ?_
  simp only [run1] at w
  refine ⟨B, F0, ρ, tv, td, h, c, n, ?_⟩
  cases q : evE C.Φ C.gv pi xe ρ with
  | bad => rw [q] at w; exact w.elim
  | ex y ρ' => rw [q] at w; exact fun H' h' c' cls dx er => w σ H' h' c' p cls dx er
  | ok d ρ' =>
    rw [q] at w
    intro v H' h' c' nd
    dsimp only at w
    by_cases hl : i < ρ'.length
    · rw [if_pos hl] at w
      exact w _ H' (h'.set hl) (cleanS_set c' fun d e => by cases e; exact nd) ((pi_set hp).trans p)
    · rw [if_neg hl] at w; exact w.elim
/-- name = [..] on one line -/
theorem t_setXC {x : Str} {i : Nat} {elt : Expr} {ifs : List Expr} {scope : Scope} {st' : List Str} {own : List (Str × Nat)} {p2 pos' : Pos} (hi : N[i]? = some x) (hp : i ∉ pi) (hxl : sc.names.lookup x = some .local) (hk : sc.kind = .function) (hl : (pos'.line == p2.line) = true)
    (hna : (scope.names.any fun (n, k) => n == x && (k == .local || k == .cell)) = false) (hw : ∀ i ∈ tgIx t, i ∈ own.map (·.2)) (hbk : blkC N sc scope own = true) (hf : ∀ env x, foldedSetIterable iter env x = pure x)
    (h : ∀ x ∈ st', L2.Loc (relS scope sc) x ∧ ((scope.names.lookup x == some NameKind.cell) = true ∨ (relS scope sc).names.lookup x = some NameKind.local))
    (hit : SI C k N sc st tg iter it) (hg : SG C k N (relS scope sc) st' tg t) (hc : SCx C k N (relS scope sc) st' pi ifs xc) (he : SXe C k N (relS scope sc) st' pi elt xa) :
    S1 C k N sc st pi (.Assign [.Name x pos'] (.ListComp elt [⟨tg, iter, ifs, 0⟩] scope p2) pos) (.setX i (.comp (own.map (·.2)) xa t it xc)) := fun X W hX => by
  have ok : BlkOk X.N X.env.scope scope own := by rw [hX.ok.eN, hX.ok.eS]; exact blkOk_by hbk
  refine PS.imp (ps_setLu hX.ok.calm (by rw [hX.ok.eN]; exact hX.ok.nd) (by rw [hX.ok.eN]; exact hi) (by rw [hX.ok.eS]; exact hxl) (sw_true (by rw [hX.ok.eS]; exact hk) (by rw [hX.ok.eS]; exact hxl) hl hna) (hit X W hX.ok) ok (fun s H c cl fp => have z := ctx_blk hX.ok h s H c cl fp; ⟨hg _ _ z, hc _ _ z, he _ _ z⟩) (hf X.env)) fun E σ H ⟨B, F0, ρ, tv, td, pv, h, c, n, p, w⟩ => ?_
  simp only [run1] at w
  refine compX_tail hw (Q := fun v H1 => gName i v σ H1 E.nx) ⟨B, F0, ρ, tv, td, h, c, n, ?_⟩
  cases q : evE C.Φ C.gv pi (.comp (own.map (·.2)) xa t it xc) ρ with
  | bad => rw [q] at w; exact w.elim
  | ex y ρ' => rw [q] at w; exact fun H' h' c' cls dx er => w σ H' h' c' p cls dx er
  | ok d ρ' =>
    rw [q] at w
    intro v H' h' c' nd
    dsimp only at w
    by_cases hl : i < ρ'.length
    · rw [if_pos hl] at w
      exact w _ H' (h'.set hl) (cleanS_set c' fun d e => by cases e; exact nd) ((pi_set hp).trans p)
    · rw [if_neg hl] at w; exact w.elim
end
end Pu

set_option Elab.async false
set_option linter.all false
set_option maxRecDepth 100000
set_option maxHeartbeats 1000000
/-! PuX: raise and try. -/
namespace Pu
open PySem PySem.Spec PyProof.Rows L2
theorem Holds.clear1 {G : Gb} {B Lk H : Hp} {F0 : Addr → Prop} {σ : L2.St} {ρ : List (Option D)} {tv : List V} {td : List D} {i : Nat} {x : Option V} (h : Holds G B F0 Lk σ ρ tv td H) : Holds G B F0 Lk (σ.set i x) (ρ.set i none) tv td H := by
  obtain ⟨⟨f1, f2, a, b, n, q⟩, kb, kl, tb⟩ := h
  obtain ⟨f', o, s⟩ := OwnS.clear (i := i) (x := x) a
  have s2 : Sb (f' ++ f2) (f1 ++ f2) := s.app (Sb.refl _)
  have mono : ∀ a, H a ≠ none → Fzp B F0 (f1 ++ f2) a → Fzp B F0 (f' ++ f2) a := fun a _ z => ⟨z.1, fun m => z.2 (s2.mem a m)⟩
  exact ⟨⟨f', f2, o.keep (Keep.refl _) mono, b.keep (Keep.refl _) mono, s2.nodup n, fun p hp => q p (s2.mem p hp)⟩, kb, kl, tb⟩
section
variable {C : Cf} {k : Nat} {N : List Str} {sc : Scope} {st : List Str} {pi : List Nat}
/-- what a class of exceptions of the text's own is, that is raised with a text -/
structure Rai (C : Cf) (c : Nat) : Prop where
  ex : ∃ (B newId initId : String) (bmB : List Value), ExcBaseFacts B newId initId bmB ∧ PySem.W.excIn C.G.K (C.G.ec c) bmB newId = true
  kp : PySem.W.keepIn C.G.K (.ref (C.G.ec c)) = true
  sb : PySem.W.subIn C.G.K (.ref (C.G.ec c)) (.type "BaseException") = some true
  ty : PySem.W.typeIn C.G.K (.ref (C.G.ec c)) = some (.type "type")
theorem t_rais {x m : Str} {c j : Nat} {p p2 pos pos' : Pos} (hg : sc.names.lookup x = some .globalImplicit) (hm : C.mg x = some (.ref (C.G.ec c))) (hd : (x == ("__debug__" : Str)) = false) (R : Rai C c) :
    S1 C k N sc st pi (.Raise (some (.Call (.Name x p) [.Constant (.str m) j p2] [] pos)) none pos') (.rais c) := fun X W hX => by
  obtain ⟨B, newId, initId, bmB, F, q⟩ := R.ex
  refine PS.imp (ps_raise hX.ok.calm hX.ok.takes (pmk_own F (by rw [hX.ok.eK]; exact q) (by rw [hX.ok.eM]; exact hm) (by rw [hX.ok.eK]; exact R.kp) (raises_own (by rw [hX.ok.eK]; exact R.sb) (by rw [hX.ok.eK]; exact R.ty)) (by unfold Gl Env.kindOf; rw [hX.ok.eS]; exact hg) hd)) fun E σ H ⟨B, F0, ρ, tv, td, pv, h, cl, n, p, w⟩ => ?_
  simp only [run1] at w
  exact w σ H h cl p _ none ⟨rfl, [], fun _ => rfl, fun z => absurd rfl z, rfl, fun Fz => .nil⟩
/-! ### the suite -/
def tX (C : Cf) (i : Nat) (a : Addr) (f : List (Option D) → Out D) : TE := fun σ H Q => ∃ B F0 ρ tv td, σ[i]? = some (some (.ref a)) ∧ Holds C.G B F0 noH σ ρ tv td H ∧
  Wish (f ρ) (fun _ => False) fun d => ∀ v H', Holds C.G B F0 noH σ ρ (v :: tv) (d :: td) H' → Q v H'
/-- an expression of the suite, whose exception stands in slot i -/
def SX (C : Cf) (N : List Str) (sc : Scope) (i : Nat) (e : Expr) (xb : Xb) : Prop := ∀ (X : Cx) (a : Addr) (oe : Obj) (pn : List (Addr × Obj)) (x : Exn), X.K = C.G.K → X.mg = C.mg → X.N = N → X.env.scope = sc → Zc (.ref (C.G.ec x.c)) none oe → (∃ vs, oe.data = .fields vs) → PE (X.suite a ((a, oe) :: pn)) e (tX C i a (evX x xb))
variable {i : Nat} {a b e : Expr} {xa xb : Xb} {pos : Pos}
theorem x_var {y : Str} {j : Nat} (hj : N[j]? = some y) (hv : Vis sc y) (h1 : (y == ("__debug__" : Str)) = false) (h2 : (y == ("__classdict__" : Str)) = false) : SX C N sc i (.Name y pos) (.var j) := fun X ad oe pn x eK eM eN eS hz hf =>
  PE.imp (pe_var (i := j) (by show X.N[j]? = _; rw [eN]; exact hj) (by show Vis X.env.scope y; rw [eS]; exact hv) h1 h2) fun σ H Q ⟨B, F0, ρ, tv, td, hs, h, w⟩ => by
    simp only [evX] at w
    split at w
    · rename_i d e
      obtain ⟨v, e1, h'⟩ := h.var e
      exact ⟨v, e1, w v H h'⟩
    · exact w.elim
theorem x_bl {c : Bool} {kk} : SX C N sc i (.Constant (.bool c) kk pos) (.bl c) := fun X ad oe pn x eK eM eN eS hz hf =>
  PE.imp pe_bl fun σ H Q ⟨B, F0, ρ, tv, td, hs, h, w⟩ => w _ _ (h.push fun _ => .bl _)
/-- what isinstance asks of a class of exceptions -/
theorem x_isE {n y : Str} {p p1 p2 : Pos} {ys ns : List Nat} {j : Nat} (hb : sc.names.lookup ("isinstance" : Str) = some .globalImplicit) (hbm : C.mg "isinstance" = none) (hi : N[i]? = some n) (hv : Vis sc n) (h1 : (n == ("__debug__" : Str)) = false) (h2 : (n == ("__classdict__" : Str)) = false)
    (hg : sc.names.lookup y = some .globalImplicit) (hm : C.mg y = some (.ref (C.G.ec j))) (hd : (y == ("__debug__" : Str)) = false) (EC : ∀ c ∈ ys ++ ns, ExcC C.G.K (C.G.ec c)) (hy : ∀ c ∈ ys, PySem.W.kitOne C.G.K (.ref (C.G.ec c)) (.ref (C.G.ec j)) = some true) (hn : ∀ c ∈ ns, PySem.W.kitOne C.G.K (.ref (C.G.ec c)) (.ref (C.G.ec j)) = some false) :
    SX C N sc i (.Call (.Name "isinstance" p) [.Name n p1, .Name y p2] [] pos) (.isE ys ns) := fun X ad oe pn x eK eM eN eS hz hf => by
  refine ⟨fun pins s σ H Q I q => ?_⟩
  obtain ⟨B, F0, ρ, tv, td, hs, h, w⟩ := q
  simp only [evX] at w
  obtain ⟨b, hc, hk, w2⟩ : ∃ b : Bool, x.c ∈ ys ++ ns ∧ PySem.W.kitOne C.G.K (.ref (C.G.ec x.c)) (.ref (C.G.ec j)) = some b ∧ ∀ v H', Holds C.G B F0 noH σ ρ (v :: tv) (D.bl b :: td) H' → Q v H' := by
    split at w
    · rename_i z; exact ⟨true, List.mem_append_left _ z, hy _ z, w⟩
    · split at w
      · rename_i z; exact ⟨false, List.mem_append_right _ z, hn _ z, w⟩
      · exact w.elim
  have ec := EC _ hc
  have hG : Gl (X.suite ad ((ad, oe) :: pn)) "isinstance" := by show X.env.kindOf _ = _; unfold Env.kindOf; rw [eS]; exact hb
  have hY : Gl (X.suite ad ((ad, oe) :: pn)) y := by show X.env.kindOf _ = _; unfold Env.kindOf; rw [eS]; exact hg
  exact (pe_callB (call_isE (by rw [eK]; exact ec) hz hf) hG (by show X.mg _ = _; rw [eM]; exact hbm) rfl
    (pa_cons (pe_var (i := i) (by show X.N[i]? = _; rw [eN]; exact hi) (by show Vis X.env.scope n; rw [eS]; exact hv) h1 h2) (pa_cons (pe_glob (v := .ref (C.G.ec j)) hY (by show X.mg _ = _; rw [eM]; exact hm) rfl hd) pa_nil))).run pins s σ H Q I
    ⟨_, hs, .ref (C.G.ec j), .ref (C.G.ec j), b, rfl, fun u r => by cases r; rfl, by rw [eK]; exact hk, w2 _ _ (h.push fun _ => .bl _)⟩
theorem x_not (h : SX C N sc i a xa) : SX C N sc i (.UnaryOp .Not a pos) (.not xa) := fun X ad oe pn x eK eM eN eS hz hf =>
  PE.imp (pe_notT (h X ad oe pn x eK eM eN eS hz hf)) fun σ H Q ⟨B, F0, ρ, tv, td, hs, h, w⟩ => by
    simp only [evX] at w
    refine ⟨B, F0, ρ, tv, td, hs, h, w.bind.mono (fun _ z => z) fun d hd w' v H' h' => ?_⟩
    obtain ⟨t, ht, w2⟩ := Wish.ofob w'
    exact ⟨t, by have z := tru_of h' ht; rw [← eK] at z; exact z, w2 _ _ (h'.pop.push fun _ => .bl _)⟩
theorem x_one {op : BoolOp} (h : SX C N sc i a xa) : SX C N sc i (.BoolOp op [a] pos) xa := fun X ad oe pn x eK eM eN eS hz hf => pe_one (h X ad oe pn x eK eM eN eS hz hf)
theorem x_and {rest : List Expr} (ha : SX C N sc i a xa) (hb : SX C N sc i (.BoolOp .And (b :: rest) pos) xb) : SX C N sc i (.BoolOp .And (a :: b :: rest) pos) (.and xa xb) := fun X ad oe pn x eK eM eN eS hz hf =>
  PE.imp (pe_andT (ha X ad oe pn x eK eM eN eS hz hf) (hb X ad oe pn x eK eM eN eS hz hf)) fun σ H Q ⟨B, F0, ρ, tv, td, hs, h, w⟩ => by
    simp only [evX] at w
    refine ⟨B, F0, ρ, tv, td, hs, h, w.bind.mono (fun _ z => z) fun d hd w' v H' h' => ?_⟩
    obtain ⟨t, ht, w2⟩ := Wish.ofob w'
    refine ⟨t, by have z := tru_of h' ht; rw [← eK] at z; exact z, ?_⟩
    cases t with
    | true => exact ⟨B, F0, ρ, tv, td, hs, h'.pop, w2⟩
    | false => exact w2 _ _ h'
/-! ### try .. except C as n: return e -/
theorem t_try {body : List Stmt} {mb : List Sm} {x n : Str} {j : Nat} {cs : List Nat} {np rp pos' : Pos} (hb : SS C k N sc st pi body mb) (hi : N[i]? = some n) (hln : sc.names.lookup n = some .local) (hpi : i ∉ pi)
    (hg : sc.names.lookup x = some .globalImplicit) (hm : C.mg x = some (.ref (C.G.ec j))) (hd : (x == ("__debug__" : Str)) = false) (hcs : ∀ c ∈ cs, PySem.W.exmOne C.G.K (.ref (C.G.ec c)) (.ref (C.G.ec j)) = some true) (hx : SX C N sc i e xb) :
    S1 C k N sc st pi (.Try body [.ExceptHandler (some (.Name x np)) (some n) [.Return (some e) rp] pos'] [] [] pos) (.tr mb i cs xb) := fun X W hX => by
  have kx : X.env.kindOf n = some .local := by unfold Env.kindOf; rw [hX.ok.eS]; exact hln
  refine PS.imp (ps_try_as (i := i) (c := .ref (C.G.ec j)) (tb := fun W => tR C pi (runs C.Φ C.gv pi mb) W)
    (ts := fun a cls d E σ H => ∃ (x : Exn) (B : Hp) (F0 : Addr → Prop) (ρ : List (Option D)) (tv : List V) (td : List D) (v : D), cls = .ref (C.G.ec x.c) ∧ d = none ∧ σ[i]? = some (some (.ref a)) ∧ Holds C.G B F0 noH σ ρ tv td H ∧ evX x xb ρ = .ok v ∧ ∀ u H', Holds C.G B F0 noH σ ρ (u :: tv) (v :: td) H' → E.rt u H')
    (Wout := W) hX.stk hX.frm (by rw [hX.ok.eN]; exact hX.ok.nd) (by rw [hX.ok.eN]; exact hi) kx ⟨by unfold Gl Env.kindOf; rw [hX.ok.eS]; exact hg, hd, .inl (by rw [hX.ok.eM]; exact hm)⟩ hX.ok.takes
    (fun W' pn xe tk po => hb (X.tr pn xe) W' ⟨⟨hX.ok.eP, hX.ok.eW, hX.ok.eK, hX.ok.eM, hX.ok.eB, hX.ok.eN, hX.ok.nd, hX.ok.eS, hX.ok.calm, hX.ok.room, hX.ok.gd, tk, hX.ok.hst, hX.ok.cod⟩, po, hX.stk, hX.frm⟩)
    (fun a oe cls d pn hz hf => ⟨fun pins s σ H E I q => ?_⟩)) fun E σ H ⟨B, F0, ρ, tv, td, pv, h, c, n, p, w⟩ => ?_
  · obtain ⟨x, B, F0, ρ, tv, td, v, rfl, rfl, hs, h, hv, q⟩ := q
    exact (pss_one (ps_ret (hx X a oe pn x hX.ok.eK hX.ok.eM hX.ok.eN hX.ok.eS hz hf))).run pins s σ H E I ⟨B, F0, ρ, tv, td, hs, h, by rw [hv]; exact fun u H' h' => q u H' h'⟩
  · simp only [run1] at w
    refine ⟨B, F0, ρ, tv, td, pv, h, c, n, p, ?_⟩
    cases q : runs C.Φ C.gv pi mb ρ with
    | nx ρ' => rw [q] at w; exact w
    | bk ρ' => rw [q] at w; exact w
    | ct ρ' => rw [q] at w; exact w
    | rt d ρ' => rw [q] at w; exact w
    | bad => rw [q] at w; exact w.elim
    | ex y ρ' =>
      rw [q] at w
      dsimp only at w
      split at w
      · rename_i hc
        obtain ⟨hc, hns, hl0⟩ := hc
        intro σ' H' h' c' p' cls dx er
        obtain ⟨rfl, fvs, f0, _, fn, _⟩ := er
        have f1 : fvs = [] := by rw [hns] at fn; simpa using fn.symm
        have dn := f0 f1
        subst dn
        refine ⟨true, by rw [hX.ok.eK]; exact hcs _ hc, fun _ a na => ?_, fun z => by cases z⟩
        split at w
        · rename_i v hv
          split at w
          · rename_i nv
            have hl : i < σ'.length := by
              obtain ⟨⟨_, _, o, _⟩, _⟩ := h'
              rw [o.length]; exact hl0
            refine ⟨y, B, F0, ρ'.set i none, tv, td, v, rfl, rfl, List.getElem?_set_self hl, h'.clear1, hv, fun u H2 h2 => ?_⟩
            refine w u _ H2 h2 (cleanS_set c' fun d e => by cases e) nv ?_
            rw [← p']
            apply List.map_congr_left
            intro m hm
            rw [List.getElem?_set_ne (fun z => hpi (by rw [z]; exact hm))]
          · exact w.elim
        · exact w.elim
      · exact w.elim
end
end Pu

set_option Elab.async false
set_option linter.all false
set_option maxRecDepth 100000
set_option maxHeartbeats 1000000
/-! Pu19: functions. -/
namespace Pu
open PySem PySem.Spec PyProof.Rows L2
/-- the slots is, all held -/
def selD (ρ : List (Option D)) : List Nat → Option (List D)
  | [] => some []
  | i :: is => match ρ[i]?, selD ρ is with
    | some (some d), some ds => some (d :: ds)
    | _, _ => none
/-- a function's meaning: n slots, the places of what it may change, its body -/
structure Fun where
  np : Nat
  n : Nat
  is : List Nat
  b : List Sm
def fnD (Φ : Nat → List D → Out (D × List D)) (gv : Nat → D) (F : Fun) (ds : List D) : Out (D × List D) :=
  if ds.length = F.np then (match runs Φ gv F.is F.b (ds.map some ++ List.replicate (F.n - F.np) none) with
    | .nx ρ => (match selD ρ F.is with | some ms => .ok (.non, ms) | none => .bad)
    | .rt d ρ => (match selD ρ F.is with | some ms => .ok (d, ms) | none => .bad)
    | .ex x ρ => (match selD ρ F.is with | some ms => .exc ⟨x.c, x.ns, x.xs, ms⟩ | none => .bad)
    | _ => .bad) else .bad
def PhiN (T : Nat → Option Fun) (gv : Nat → D) : Nat → Nat → List D → Out (D × List D)
  | 0, _, _ => .bad
  | n + 1, j, ds => match T j with
    | some F => fnD (PhiN T gv n) gv F ds
    | none => .bad
section
variable {G : Gb} {B Lk H H' : Hp} {F0 : Addr → Prop} {σ : L2.St} {ρ : List (Option D)} {tv : List V} {td : List D}
theorem Holds.noS (h : Holds G B F0 Lk σ ρ tv td H) : Holds G B F0 Lk [] [] tv td H := by
  obtain ⟨⟨f1, f2, a, b, n, q⟩, kb, kl, tb⟩ := h
  have s : Sb ([] ++ f2) (f1 ++ f2) := Sb.right _ _
  have mono : ∀ a, H a ≠ none → Fzp B F0 (f1 ++ f2) a → Fzp B F0 ([] ++ f2) a := fun a _ z => ⟨z.1, fun m => z.2 (s.mem a m)⟩
  exact ⟨⟨[], f2, .nil, b.keep (Keep.refl _) mono, s.nodup n, fun p hp => q p (s.mem p hp)⟩, kb, kl, tb⟩
theorem OwnS.of {K : PySem.W.Frag} {cl : Nat → Addr} {Fz : Addr → Prop} (m : Nat) : ∀ {vs : List V} {ds : List D} {f : List Addr}, Owns K cl H Fz vs ds f → OwnS K cl H Fz (vs.map some ++ List.replicate m none) (ds.map some ++ List.replicate m none) f
  | [], [], _, .nil => by
    show OwnS K cl H Fz (List.replicate m none) (List.replicate m none) []
    induction m with
    | zero => exact .nil
    | succ m ih => exact .skip ih
  | _ :: _, _ :: _, _, .cons a b => .put a (OwnS.of m b)
theorem Holds.toS {vs : List V} {ds : List D} (m : Nat) (h : Holds G B F0 Lk [] [] vs ds H) : Holds G B F0 Lk (vs.map some ++ List.replicate m none) (ds.map some ++ List.replicate m none) [] [] H := by
  obtain ⟨⟨f1, f2, a, b, n, q⟩, kb, kl, tb⟩ := h
  have e1 : f1 = [] := by cases a; rfl
  subst e1
  rw [List.nil_append] at *
  exact ⟨⟨f2, [], by rw [List.append_nil]; exact OwnS.of m b, .nil, by rw [List.append_nil]; exact n, by rw [List.append_nil]; exact q⟩, kb, kl, tb⟩
/-- the slots is, taken out -/
theorem Holds.takeAll : ∀ {is : List Nat} {ms : List D}, Holds G B F0 Lk σ ρ tv td H → is.Nodup → selD ρ is = some ms → ∃ us, is.map (fun i => σ[i]?) = us.map (fun v => some (some v)) ∧ us.length = ms.length ∧ ∃ σ' ρ', Holds G B F0 Lk σ' ρ' (us ++ tv) (ms ++ td) H ∧ ∀ i, i ∉ is → σ'[i]? = σ[i]? ∧ ρ'[i]? = ρ[i]?
  | [], ms, h, _, e => by
    simp only [selD, Option.some.injEq] at e
    subst e
    exact ⟨[], rfl, rfl, σ, ρ, h, fun _ _ => ⟨rfl, rfl⟩⟩
  | i :: is, ms, h, n, e => by
    simp only [selD] at e
    split at e
    · rename_i d ds hd hs
      cases e
      obtain ⟨n1, n2⟩ := List.nodup_cons.mp n
      obtain ⟨us, e1, e2, σ', ρ', h', k⟩ := h.takeAll n2 hs
      obtain ⟨v, e3, h2⟩ := h'.takeS (by rw [(k i n1).2]; exact hd)
      refine ⟨v :: us, by rw [List.map_cons, List.map_cons, e1, ← (k i n1).1, e3], by simp [e2], _, _, h2, fun j hj => ?_⟩
      have hj := not_or.mp (fun z => hj (List.mem_cons.mpr z))
      rw [List.getElem?_set_ne (Ne.symm hj.1), List.getElem?_set_ne (Ne.symm hj.1)]
      exact k j hj.2
    · cases e
end
theorem start_get {N : List Str} {vs : List V} {i : Nat} {v : V} (h : vs[i]? = some v) : (L2.start N vs)[i]? = some (some v) := by
  unfold L2.start
  have hl := (List.getElem?_eq_some_iff.mp h).1
  rw [List.getElem?_append_left (by simpa using hl), List.getElem?_map, h]
  rfl
theorem sel_map {vs : List V} : ∀ {is : List Nat}, (∀ i ∈ is, i < vs.length) → (sel is vs).map (fun v => some (some v)) = is.map (fun i => (vs.map some)[i]?)
  | [], _ => rfl
  | i :: is, h => by
    have hl := h i List.mem_cons_self
    have e : vs[i]? = some vs[i] := List.getElem?_eq_getElem hl
    have ih := sel_map (vs := vs) (is := is) fun j hj => h j (List.mem_cons_of_mem _ hj)
    unfold sel at ih ⊢
    rw [List.filterMap_cons, e, List.map_cons, List.map_cons, ih, List.getElem?_map, e]
    rfl
theorem cleanS_args {ds : List D} (h : noVws ds = true) (m : Nat) : cleanS (ds.map some ++ List.replicate m none) = true := by
  unfold cleanS
  rw [List.all_eq_true]
  intro x hx
  rcases List.mem_append.mp hx with hx | hx
  · obtain ⟨d, hd, rfl⟩ := List.mem_map.mp hx
    rw [noVws_eq, List.all_eq_true] at h
    exact h d hd
  · rw [(List.mem_replicate.mp hx).2]
/-- what is fixed, but for the meaning of calls -/
structure C0 where
  G : Gb
  P : Program
  w : World
  mg : Str → Option Value
  base : Heap
  gv : Nat → D
def C0.at (c : C0) (T : Nat → Option Fun) (n : Nat) : Cf := ⟨c.G, c.P, c.w, c.mg, c.base, PhiN T c.gv n, c.gv, none⟩
/-- .. in a def whose code object has a table -/
def C0.of (c : C0) (T : Nat → Option Fun) (n : Nat) (cp : Option (Addr × Addr)) : Cf := ⟨c.G, c.P, c.w, c.mg, c.base, PhiN T c.gv n, c.gv, cp⟩
/-- THE RULE of a def: by its body's meaning -/
theorem fn_G {c : C0} {T : Nat → Option Fun} {n j k : Nat} {F : Fun} {f : Addr} {name qual : Str} {params : Arguments} {body : List Stmt} {scope : Scope} {dV kV doc pm cdv ct oc : Value} {an od : Option Addr} {osl : Array (Option Value)} {N ps : List Str}
    (hT : T j = some F) (lk : c.G.K.lookup f = some ⟨oc, od, .func (PySem.W.fnOf name qual params body scope dV kV doc pm an cdv ct), osl⟩) (hcd : PySem.W.codeIn c.G.K cdv qual = true) (S : FnScope N ps scope) (hn : F.n = N.length) (hp : F.np = ps.length) (hpn : ps.length ≤ N.length)
    (hi : F.is.Nodup) (hil : ∀ i ∈ F.is, i < ps.length) {st : List Str} (hst : ∀ x ∈ st, L2.Loc scope x) {cp : Option (Addr × Addr)} (hcp : ∀ cc P, cp = some (cc, P) → cdv = .ref cc ∧ GxR.TabB c.base c.mg cc P ∧ P ∈ c.G.tabs)
    (hb : SS (c.of T n cp) k N scope st F.is body F.b) : FnG (c.at T (n + 1)) (k + 1) f (PySem.W.fnOf name qual params body scope dV kV doc pm an cdv ct) ps (spF (c.at T (n + 1)) j F.np F.is) where
  len := fun vs H Q E h => by rw [h.1, hp]
  run := fun A outer s H us vs Q E hr hg e0 hbd r hsp => by
    have hl : vs.length = ps.length := by rw [hsp.1, hp]
    have KX : c.G.K.In s.heap := e0.mod.kin.keeps fun b o e => (e0.bs b o e).1
    have lim : s.heap.NoLimit := e0.mod.nolimit.keeps fun b o e => (e0.bs b o e).1
    have hkind : ∀ y ∈ ps.zip us, scope.names.lookup y.1 = some .local ∨ (scope.names.lookup y.1 = some .cell ∧ ((cellsFrom (s.heap.objs.size + 1) scope.names []).lookup y.1).isSome = true) := fun ⟨m, v⟩ hy => by
      rcases S.par m (List.of_mem_zip hy).1 with q | q
      · exact .inl q
      · exact .inr ⟨q, PySem.W.cellsFrom_some _ _ _ (.inl q)⟩
    refine codeAny_call_function hr.depth (KX _ _ lk) rfl S.co S.gen rfl (PySem.W.codeRec_of KX hcd) (hbd _ _ _ _ ?_)
    refine wpAny_newFunctionEnv_cells S.kind hkind fun env he s1 x => ?_
    subst he
    refine ⟨lim.keeps x.toInCall.keep, codeAny_func ?_⟩
    generalize hX : cxOf (L2.CX c.P c.w) c.P c.w c.G.K c.mg c.base N qual scope f cdv A outer s H E = X
    have I : Inv X [] (start N vs) H s1 := by rw [← hX]; exact inv_start S hr.hd e0 hl r x
    have ctx : CtxS (c.of T n cp) k N scope st X (fun cls d _ H => E cls d H) := by
      subst hX
      refine ⟨⟨rfl, rfl, rfl, rfl, rfl, rfl, S.nd, rfl, rfl, hr.deeper _, ?_, takes_of rfl rfl rfl rfl, fun x hx => ⟨hst x hx, .inl rfl⟩, fun cc P e => hcp cc P e⟩, passes_of rfl, rfl, rfl⟩
      exact hg
    have hP := hb X _ ctx
    obtain ⟨hv, B, F0, ds, e1, ok, nv, h0, w⟩ := hsp
    have w : Wish (PhiN T c.gv (n + 1) j ds) _ _ := w
    simp only [PhiN, hT] at w
    unfold fnD at w
    split at w
    · rename_i hds
      have ew : F.n - F.np = N.length - vs.length := by rw [hn, hv]
      have h1 : Holds c.G B F0 noH (start N vs) (ds.map some ++ List.replicate (F.n - F.np) none) [] [] H := by
        rw [ew]; exact h0.toS _
      -- the end
      have fin : ∀ {ρ : List (Option D)} {ms : List D} {v : V} {d : D} {σ' : L2.St} {H' : Hp}, Holds c.G B F0 noH σ' ρ [v] [d] H' → F.is.map (fun i => σ'[i]?) = F.is.map (fun i => (start N vs)[i]?) → selD ρ F.is = some ms → Holds c.G B F0 noH [] [] (v :: sel F.is vs) (d :: ms) H' := fun {ρ ms v d σ' H'} h p e => by
        obtain ⟨us, q1, q2, σ2, ρ2, h2, _⟩ := h.takeAll hi e
        have eu : us = sel F.is vs := by
          rw [p] at q1
          have q3 := sel_map (vs := vs) (is := F.is) fun i hi' => by rw [hl]; exact hil i hi'
          have q4 : F.is.map (fun i => (start N vs)[i]?) = F.is.map (fun i => (vs.map some)[i]?) := by
            apply List.map_congr_left
            intro i hi'
            have hlt : i < vs.length := by rw [hl]; exact hil i hi'
            have e : vs[i]? = some vs[i] := List.getElem?_eq_getElem hlt
            rw [start_get e, List.getElem?_map, e]
            rfl
          rw [q4, ← q3] at q1
          have inj : ∀ {a b : List V}, a.map (fun v => some (some v)) = b.map (fun v => some (some v)) → a = b := fun {a} => by
            induction a with
            | nil => intro b h; cases b with | nil => rfl | cons _ _ => simp at h
            | cons x xs ih =>
              intro b h
              cases b with
              | nil => simp at h
              | cons y ys =>
                simp only [List.map_cons, List.cons.injEq, Option.some.injEq] at h
                rw [h.1, ih h.2]
          exact (inj q1).symm
        subst eu
        exact (Holds.up h2 q2).noS.re (Keep.refl _) h.tb fun Fz f2 b => ⟨f2, Sb.refl _, fun Fz' m _ => by
          have b' := b.keep (Keep.refl _) m
          rwa [List.append_nil, List.append_nil] at b'⟩
      have finE : ∀ {ρ : List (Option D)} {ms : List D} {σ' : L2.St} {H' : Hp}, Holds c.G B F0 noH σ' ρ [] [] H' → F.is.map (fun i => σ'[i]?) = F.is.map (fun i => (start N vs)[i]?) → selD ρ F.is = some ms → Holds c.G B F0 noH [] [] (sel F.is vs) ms H' := fun {ρ ms σ' H'} h p e => (fin (v := .non) (d := .non) (h.push fun _ => .non) p e).pop
      have hw : tR (c.of T n cp) F.is (runs (PhiN T c.gv n) c.gv F.is F.b) (fun cls d _ H => E cls d H) { nx := fun _ H' => Q .non H', rt := Q } (start N vs) H := by
        refine ⟨B, F0, _, [], [], _, h1, cleanS_args nv _, rfl, rfl, ?_⟩
        cases q : runs (PhiN T c.gv n) c.gv F.is F.b (ds.map some ++ List.replicate (F.n - F.np) none) with
        | nx ρ =>
          rw [q] at w
          dsimp only at w
          intro σ' H' h' c' p'
          cases e : selD ρ F.is with
          | none => rw [e] at w; exact w.elim
          | some ms => rw [e] at w; exact w .non H' (fin (h'.push fun _ => .non) p' e) rfl
        | rt d ρ =>
          rw [q] at w
          dsimp only at w
          intro v σ' H' h' c' n' p'
          cases e : selD ρ F.is with
          | none => rw [e] at w; exact w.elim
          | some ms => rw [e] at w; exact w v H' (fin h' p' e) n'
        | ex x ρ =>
          rw [q] at w
          dsimp only at w
          intro σ' H' h' c' p' cls dx er
          cases e : selD ρ F.is with
          | none => rw [e] at w; exact w.elim
          | some ms => rw [e] at w; exact w H' (finE h' p' e) cls dx er
        | bk ρ => rw [q] at w; exact w.elim
        | ct ρ => rw [q] at w; exact w.elim
        | bad => rw [q] at w; exact w.elim
      have run := hP.run [] s1 (start N vs) H _ I hw
      subst hX
      refine wpAny_mono run (fun fl s' hs => ?_) fun e s' hs => hs
      have done : ∀ {σ' : L2.St} {H' : Hp} {v : V} {u : Value}, Inv (cxOf (L2.CX c.P c.w) c.P c.w c.G.K c.mg c.base N qual scope f cdv A outer s H E) [] σ' H' s' → RelV v u → Q v H' → CE outer c.P c.w H s Q u s' :=
        fun {σ' H' v u} J rv q => ⟨v, H', J.os, J.bare, J.base, J.hok, rv, q⟩
      cases fl with
      | ret u => obtain ⟨v, σ', H', J, rv, q⟩ := hs; exact done J rv q
      | next => obtain ⟨σ', H', J, q⟩ := hs; exact done (v := V.non) (u := Value.none) J rfl q
      | brk => obtain ⟨_, _, _, q⟩ := hs; exact False.elim q
      | cont => obtain ⟨_, _, _, q⟩ := hs; exact False.elim q
    · exact w.elim
/-- nothing is promised without fuel -/
theorem fn_0 {c : C0} {T : Nat → Option Fun} {j np : Nat} {is : List Nat} {f : Addr} {fd : FuncData} {ps : List Str} (hp : np = ps.length) : FnG (c.at T 0) 0 f fd ps (spF (c.at T 0) j np is) where
  len := fun vs H Q E h => by rw [h.1, hp]
  run := fun A outer s H us vs Q E hr hg e0 hbd r hsp => by
    obtain ⟨hv, B, F0, ds, e1, ok, nv, h0, w⟩ := hsp
    exact w.elim
end Pu

set_option Elab.async false
set_option linter.all false
set_option maxRecDepth 100000
set_option maxHeartbeats 1000000
/-! Pu20: from a text to the language: expressions. -/
namespace Pu
open PySem PySem.Spec PyProof.Rows L2
/-- what a text's names mean -/
structure CE where
  N : List Str
  fs : List (Str × Nat × Nat)
  cs : List (Str × Nat × Nat × Nat)
  gs : List (Str × Ex)
  fl : List Str
  gen : Bool
  es : List (Str × Nat × List Nat × List Nat) := []
  rs : List Nat := []
  ms : List (Str × Nat × Nat × Nat × List Nat) := []
  fm : List (Str × Nat × Nat × List Nat) := []
  ci : List (Str × Nat × List Nat × List Nat) := []
def bltNames : List Str := ["len", "int", "str", "tuple", "list", "bool", "dict", "isinstance", "range", "enumerate", "zip", "reversed", "any", "all", "sorted", "repr", "max", "min", "ord"]
/-- what is known of them -/
structure Kn (C : Cf) (k : Nat) (ce : CE) : Prop where
  bl : ∀ x ∈ bltNames, C.mg x = none
  fn : ∀ x j np, ce.fs.lookup x = some (j, np) → ∃ f fd ps kl, FnG C kl f fd ps (spF C j np []) ∧ kl + 1 + (if ce.gen = true then 1 else 0) ≤ k ∧ Binds C.G.K fd ps [] ∧ C.mg x = some (.ref f) ∧ PySem.W.keepIn C.G.K (.ref f) = true
  cl : ∀ x c j np, ce.cs.lookup x = some (c, j, np) → ∃ f fd ps kl, L2.Mk C.G.K (C.G.cl c) f ∧ FnG C kl f fd ps (spF C j np [0]) ∧ kl + 1 + (if ce.gen = true then 1 else 0) ≤ k ∧ Binds C.G.K fd ps [] ∧ C.mg x = some (.ref (C.G.cl c))
  gl : ∀ x ie, ce.gs.lookup x = some ie → ∃ v u d, C.mg x = some u ∧ RelV v u ∧ (∀ Φ ρ, ev Φ C.gv ie ρ = .ok d) ∧ ∀ H Fz, Own C.G.K C.G.cl H Fz v d []
  gk : ce.gen = true → 1 ≤ k ∧ ∃ c P, C.code = some (c, P)
  fa : ∀ c, L2.Cls C.G.K (C.G.cl c)
  fb : ∀ x ∈ ce.fl, ∀ c, L2.NoAttr C.G.K (C.G.cl c) x
  ex : ∀ x j ys ns, ce.es.lookup x = some (j, ys, ns) → C.mg x = some (.ref (C.G.ec j)) ∧ (∀ c ∈ ys ++ ns, ExcC C.G.K (C.G.ec c)) ∧ (∀ c ∈ ys, PySem.W.kitOne C.G.K (.ref (C.G.ec c)) (.ref (C.G.ec j)) = some true) ∧ (∀ c ∈ ys, PySem.W.exmOne C.G.K (.ref (C.G.ec c)) (.ref (C.G.ec j)) = some true) ∧ ∀ c ∈ ns, PySem.W.kitOne C.G.K (.ref (C.G.ec c)) (.ref (C.G.ec j)) = some false
  rs : ∀ c ∈ ce.rs, Rai C c
  ci : ∀ x j ys ns, ce.ci.lookup x = some (j, ys, ns) → C.mg x = some (.ref (C.G.cl j)) ∧ IsiC C j ys ns
  fm : ∀ x j np is, ce.fm.lookup x = some (j, np, is) → ∃ f fd ps kl, FnG C kl f fd ps (spF C j np is) ∧ kl + 1 + (if ce.gen = true then 1 else 0) ≤ k ∧ Binds C.G.K fd ps [] ∧ C.mg x = some (.ref f) ∧ PySem.W.keepIn C.G.K (.ref f) = true
  mt : ∀ m c j np is, ce.ms.lookup m = some (c, j, np, is) → ∃ f fd ps kl, L2.Meth C.G.K (C.G.cl c) m f ∧ FnG C kl f fd ps (spF C j np is) ∧ kl + 1 + (if ce.gen = true then 1 else 0) ≤ k ∧ Binds C.G.K fd ps []
def visB (sc : Scope) (x : Str) : Bool := match sc.names.lookup x with
  | some .local => true
  | some .cell => true
  | some .free => true
  | _ => false
theorem visB_eq {sc : Scope} {x : Str} (h : visB sc x = true) : Vis sc x := by
  unfold visB at h
  split at h <;> first | (rename_i e; first | exact .inl e | exact .inr (.inl e) | exact .inr (.inr e)) | cases h
def glB (sc : Scope) (x : Str) : Bool := decide (sc.names.lookup x = some .globalImplicit) && !(x == ("__debug__" : Str)) && !(x == ("__name__" : Str))
def idx (N : List Str) (x : Str) : Option Nat := (N.findIdx? (· == x)).bind fun i => if N[i]? = some x then some i else none
theorem idx_eq {N : List Str} {x : Str} {i : Nat} (h : idx N x = some i) : N[i]? = some x := by
  unfold idx at h
  cases q : N.findIdx? (· == x) with
  | none => rw [q] at h; cases h
  | some j =>
    rw [q] at h
    simp only [Option.bind_some] at h
    split at h
    · cases h; assumption
    · cases h
def ndB (x : Str) : Bool := !(x == ("__debug__" : Str)) && !(x == ("__classdict__" : Str))
def bop : Operator → Option Bop
  | .Add => some .add | .Sub => some .sub | .Mult => some .mul | .FloorDiv => some .fdiv | .Mod => some .mod | .Pow => some .pow
  | _ => none
def cop : CmpOp → Option Cop
  | .Eq => some .eq | .NotEq => some .ne | .Lt => some .lt | .LtE => some .le | .Gt => some .gt | .GtE => some .ge | .In => some .isIn | .NotIn => some .notIn | .Is => some .isNon | .IsNot => some .notNon
def biN (x : Str) : Option Bi := if x = "len" then some .len else if x = "int" then some .int else if x = "str" then some .str else if x = "tuple" then some .tuple else if x = "list" then some .list else if x = "sorted" then some .sorted else if x = "max" then some .max else if x = "min" then some .min else if x = "ord" then some .ord else none
def btN (x : Str) : Option Bt := if x = "int" then some .int else if x = "str" then some .str else if x = "list" then some .list else if x = "tuple" then some .tuple else if x = "bool" then some .bool else if x = "dict" then some .dict else none
def opt2 {α β γ : Type} (a : Option α) (b : Option β) (f : α → β → γ) : Option γ := match a, b with
  | some x, some y => some (f x y)
  | _, _ => none
theorem opt2_eq {α β γ : Type} {a : Option α} {b : Option β} {f : α → β → γ} {z : γ} (h : opt2 a b f = some z) : ∃ x y, a = some x ∧ b = some y ∧ z = f x y := by
  cases a <;> cases b <;> first | (simp [opt2] at h; done) | skip
  simp only [opt2, Option.some.injEq] at h
  exact ⟨_, _, rfl, rfl, h.symm⟩
def chkO {α : Type} (b : Bool) (o : Option α) : Option α := if b = true then o else none
theorem chkO_eq {α : Type} {b : Bool} {o : Option α} {z : α} (h : chkO b o = some z) : b = true ∧ o = some z := by
  unfold chkO at h
  split at h
  · exact ⟨by assumption, h⟩
  · cases h
def one {α : Type} : List α → Option α
  | [x] => some x
  | _ => none
theorem one_eq {α : Type} {l : List α} {x : α} (h : one l = some x) : l = [x] := by
  unfold one at h
  split at h
  · cases h; rfl
  · cases h
def isSt2 : List Expr → Option (Expr × Expr)
  | [.Starred a _, .Starred b _] => some (a, b)
  | _ => none
theorem isSt2_ok {es : List Expr} {a b : Expr} (h : isSt2 es = some (a, b)) : ∃ p q, es = [.Starred a p, .Starred b q] := by
  unfold isSt2 at h
  split at h
  · cases h; exact ⟨_, _, rfl⟩
  · cases h
def isStl : List Expr → Option (Expr × List Expr)
  | .Starred e _ :: es => some (e, es)
  | _ => none
/-- a list of them -/
def cList (f : Expr → Option Ex) : List Expr → Option (List Ex)
  | [] => some []
  | e :: es => opt2 (f e) (cList f es) List.cons
/-- and, or -/
def cBool (f : Expr → Option Ex) (op : BoolOp) : List Expr → Option Ex
  | [] => none
  | [a] => f a
  | a :: b :: r => opt2 (f a) (cBool f op (b :: r)) fun x y => match op with | .And => .and x y | .Or => .or x y
def cOpt (f : Expr → Option Ex) : Option Expr → Option (List Ex)
  | none => some []
  | some e => (f e).map fun x => [x]
def cCmp (f : Expr → Option Ex) (a : Expr) : List CmpOp → List Expr → Option Ex
  | [o], [b] => chkO (!behindInMarks o b) (opt2 (cop o) (opt2 (f a) (f b) fun x y => (x, y)) fun o p => .cmp o p.1 p.2)
  | [o, o'], [b, c] => chkO (!lastMarks [o, o'] [b, c]) (opt2 (opt2 (cop o) (cop o') fun x y => (x, y)) (opt2 (f a) (opt2 (f b) (f c) fun x y => (x, y)) fun x y => (x, y)) fun o p => .chn o.1 o.2 p.1 p.2.1 p.2.2)
  | _, _ => none
def isIsi : List Expr → Option (Expr × Str)
  | [e, .Name x _] => some (e, x)
  | _ => none
def isIsiT : List Expr → Option (Expr × List Expr)
  | [e, .Tuple ns _ _] => some (e, ns)
  | _ => none
/-- names of built-in classes -/
def cBts (sc : Scope) : List Expr → Option (List Bt)
  | [] => some []
  | .Name x _ :: es => chkO (glB sc x) (opt2 (btN x) (cBts sc es) List.cons)
  | _ :: _ => none
def cCall (f : Expr → Option Ex) (ce : CE) (sc : Scope) (x : Str) (es : List Expr) : Option Ex := chkO (glB sc x && es.all nst) (match ce.fs.lookup x with
  | some (j, np) => chkO (decide (es.length = np)) ((cList f es).map fun ies => .call j ies)
  | none => match ce.cs.lookup x with
    | some (c, j, np) => chkO (decide (es.length + 1 = np) && !es.isEmpty) ((cList f es).map fun ies => .mk c j ies)
    | none => if x = "isinstance" then (match isIsi es with
        | some (e, t) => chkO (glB sc t) (match ce.ci.lookup t with
          | some (j, ys, ns) => (f e).map fun ie => .isi ie (.c j ys ns)
          | none => opt2 (f e) (btN t) fun ie b => .isi ie (.b b))
        | none => match isIsiT es with
          | some (e, ns) => (opt2 (f e) (cBts sc ns) fun ie bs => (ie, bs)).bind fun q => chkO (decide (q.2.length < 30)) (some (.isi q.1 (.bs q.2)))
          | none => none)
      else if x = "repr" then (match one es with
        | some e => (f e).map fun ie => .bi .repr [ie]
        | none => none)
      else chkO (!es.isEmpty) (opt2 (biN x) (cList f es) fun b ies => .bi b ies))
/-- o.m(e, ..) of an own class, o only read -/
def cMR (f : Expr → Option Ex) (ce : CE) (o : Expr) (m : Str) (es : List Expr) (l l2 : Nat) : Option Ex := match ce.ms.lookup m with
  | some (c, j, np, []) => chkO (npl o && es.all nst && (l == l2) && decide (es.length + 1 = np) && decide (es.length < 30)) (opt2 (f o) (cList f es) fun io ies => .meth c j m io ies)
  | _ => none
/-- the names of such methods -/
def m1N (x : Str) : Option Bi := if x = "join" then some .join else if x = "split" then some .split else if x = "index" then some .index else none
def cM1 (f : Expr → Option Ex) (o : Expr) (m : Str) (es : List Expr) (l l2 : Nat) : Option Ex := match one es with
  | some e => chkO (npl o && nst e && (l == l2)) (opt2 (m1N m) (opt2 (f o) (f e) fun x y => (x, y)) fun b p => .m1 b p.1 p.2)
  | none => none
def isMinusOne : Option Expr → Bool
  | some (.UnaryOp .USub (.Constant (.int i) _ _) _) => decide (i = 1)
  | _ => false
def cSub (f : Expr → Option Ex) (a : Expr) : Expr → Option Ex
  | .Slice lo hi st _ => match st with
    | none => opt2 (f a) (opt2 (cOpt f lo) (cOpt f hi) fun x y => (x, y)) fun x y => .slc x y.1 y.2
    | some m => chkO (isMinusOne (some m) && lo.isNone && hi.isNone) ((f a).map .rev)
  | b => opt2 (f a) (f b) .idx
def isTup : Expr → Bool
  | .Tuple _ _ _ => true
  | _ => false
/-- the names of a target -/
def cNms (N st : List Str) : List Expr → Option (List Nat)
  | [] => some []
  | .Name x _ :: es => chkO (decide (x ∈ st)) (opt2 (idx N x) (cNms N st es) List.cons)
  | _ :: _ => none
def cTg (N st : List Str) : Expr → Option Tg
  | .Name x _ => chkO (decide (x ∈ st)) ((idx N x).map .nm)
  | .Tuple es _ _ => (cNms N st es).map .tp
  | _ => none
def cIt1 (f : Expr → Option Ex) (ce : CE) (sc : Scope) (tg : Expr) (x : Str) : List Expr → Option It
  | [a] => if x = "range" then (f a).map fun z => .rng [z] else if x = "enumerate" then chkO (isTup tg) ((f a).map .enum) else if x = "reversed" then (f a).map .rvd else none
  | [a, b] => if x = "range" then opt2 (f a) (f b) fun y z => .rng [y, z] else if x = "zip" then chkO (isTup tg) (opt2 (f a) (f b) fun y z => .zip [y, z]) else none
  | _ => none
def itN (x : Str) : Bool := decide (x = "range") || decide (x = "enumerate") || decide (x = "reversed") || decide (x = "zip")
def isIt : Expr → Option (Str × List Expr)
  | .Call (.Name x _) es [] _ => if itN x = true then some (x, es) else none
  | _ => none
def cIt (f : Expr → Option Ex) (ce : CE) (sc : Scope) (tg iter : Expr) : Option It := match isIt iter with
  | some (x, es) => chkO (glB sc x && es.all nst) (cIt1 f ce sc tg x es)
  | none => (f iter).map .of
def nfs : Expr → Bool
  | .Set _ _ _ => false
  | _ => true
/-- a comprehension's own names -/
def ownOf (N : List Str) (scope : Scope) : List (Str × Nat) := scope.names.filterMap fun y => match y.2 with
  | .local => (idx N y.1).map fun i => (y.1, i)
  | .cell => (idx N y.1).map fun i => (y.1, i)
  | _ => none
def locB (sc : Scope) (x : Str) : Bool := match sc.names.lookup x with
  | some .local => true
  | some .cell => true
  | _ => false
def ownC (sc scope : Scope) (st : List Str) : Bool := st.all fun x => locB (relS scope sc) x && ((scope.names.lookup x == some NameKind.cell) || decide ((relS scope sc).names.lookup x = some NameKind.local))
def isGen : List Expr → Option (Expr × List Comprehension × Scope)
  | [.GeneratorExp elt gs scope _] => some (elt, gs, scope)
  | _ => none
def nfg : Expr → Bool
  | .Set _ _ _ => false
  | .List _ _ => false
  | _ => true
def genC (N : List Str) (sc scope : Scope) (own : List (Str × Nat)) : Bool := blkC N sc scope own && decide (scope.isCoroutine = false) && decide (scope.names.lookup (".0" : Str) = some NameKind.local) && (scope.names.all fun y => decide (y.2 ≠ .cell)) && (own.all fun p => decide (scope.names.lookup p.1 = some NameKind.local))
def qB (x : Str) : Option Bool := if x = "all" then some true else if x = "any" then some false else none
def CE.dry (ce : CE) : CE := { ce with gen := false }
mutual
def cE : Nat → CE → Scope → Expr → Option Ex
  | 0, _, _, _ => none
  | n + 1, ce, sc, .Constant c _ _ => match c with
    | .none => some .non
    | .bool b => some (.bl b)
    | .int i => some (.int i)
    | .str s => some (.str s)
    | _ => none
  | n + 1, ce, sc, .Name x _ => if visB sc x = true then chkO (ndB x) ((idx ce.N x).map .var) else chkO (glB sc x) (ce.gs.lookup x)
  | n + 1, ce, sc, .BinOp a op b _ => opt2 (bop op) (opt2 (cE n ce sc a) (cE n ce sc b) fun x y => (x, y)) fun o p => .bin o p.1 p.2
  | n + 1, ce, sc, .UnaryOp op a _ => match op with
    | .Not => (cE n ce sc a).map .not
    | .USub => (cE n ce sc a).map .neg
    | _ => none
  | n + 1, ce, sc, .BoolOp op es _ => cBool (cE n ce sc) op es
  | n + 1, ce, sc, .IfExp c a b _ => opt2 (cT n ce sc c) (opt2 (cE n ce sc a) (cE n ce sc b) fun x y => (x, y)) fun c p => .ife c p.1 p.2
  | n + 1, ce, sc, .Compare a ops es _ => cCmp (cE n ce sc) a ops es
  | n + 1, ce, sc, .Tuple es _ _ => chkO (es.all nst) ((cList (cE n ce sc) es).map .tup)
  | n + 1, ce, sc, .List es _ => match isSt2 es with
   | some (a, b) => opt2 (cE n ce sc a) (cE n ce sc b) .st2
   | none => match isStl es with
    | some (e, es) => chkO (es.all nst) (opt2 (cE n ce sc e) (cList (cE n ce sc) es) .stl)
    | none => chkO (es.all nst) ((cList (cE n ce sc) es).map .lst)
  | n + 1, ce, sc, .Subscript a b _ => cSub (cE n ce sc) a b
  | n + 1, ce, sc, .Attribute a x _ => chkO (npl a && decide (x ∈ ce.fl)) ((cE n ce sc a).map fun z => .fld z x)
  | n + 1, ce, sc, .Call (.Name x _) es [] _ => match isGen es with
    | some (elt, gs, scope) => (match one gs, qB x with
      | some g, some a => cG n ce sc a elt g scope
      | _, _ => none)
    | none => cCall (cE n ce sc) ce sc x es
  | n + 1, ce, sc, .Call (.Attribute o m apos) es [] cpos => match ce.ms.lookup m with
    | some _ => cMR (cE n ce sc) ce o m es apos.endLine cpos.line
    | none => cM1 (cE n ce sc) o m es apos.endLine cpos.line
  | n + 1, ce, sc, .ListComp elt gs scope _ => match one gs with
    | some g => cC n ce sc elt g scope
    | none => none
  | _ + 1, _, _, _ => none
def cT : Nat → CE → Scope → Expr → Option Ex
  | 0, _, _, _ => none
  | n + 1, ce, sc, .BoolOp op es _ => cBool (cT n ce sc) op es
  | n + 1, ce, sc, .UnaryOp .Not a _ => (cT n ce sc a).map .not
  | n + 1, ce, sc, .Compare a ops es _ => cCmp (cE n ce sc) a ops es
  | n + 1, ce, sc, e => chkO (tst e) (cE n ce sc e)
def cC : Nat → CE → Scope → Expr → Comprehension → Scope → Option Ex
  | 0, _, _, _, _, _ => none
  | n + 1, ce, sc, elt, g, scope => chkO (decide (g.is_async = 0) && nfs g.iter && blkC ce.N sc scope (ownOf ce.N scope) && ownC sc scope ((ownOf ce.N scope).map (·.1)))
    ((opt2 (cIt (cE n ce sc) ce sc g.target g.iter) (opt2 (cTg ce.N ((ownOf ce.N scope).map (·.1)) g.target) (opt2 (cCs n ce (relS scope sc) g.ifs) (cE n ce (relS scope sc) elt) fun x y => (x, y)) fun x y => (x, y)) fun it p => (it, p)).bind fun q =>
      chkO ((tgIx q.2.1).all fun i => decide (i ∈ (ownOf ce.N scope).map (·.2))) (some (.comp ((ownOf ce.N scope).map (·.2)) q.2.2.2 q.2.1 q.1 q.2.2.1)))
def cG : Nat → CE → Scope → Bool → Expr → Comprehension → Scope → Option Ex
  | 0, _, _, _, _, _, _ => none
  | n + 1, ce, sc, a, elt, g, scope => chkO (ce.gen && glB sc (qN a) && decide (g.is_async = 0) && nfg g.iter && g.ifs.isEmpty && genC ce.N sc scope (ownOf ce.N scope))
    ((opt2 (cIt (cE n ce sc) ce sc g.target g.iter) (opt2 (cTg ce.N ((ownOf ce.N scope).map (·.1)) g.target) (cE n ce.dry scope elt) fun x y => (x, y)) fun it p => (it, p)).bind fun q =>
      chkO ((tgIx q.2.1).all fun i => decide (i ∈ (ownOf ce.N scope).map (·.2))) (some (.gen a ((ownOf ce.N scope).map (·.2)) q.2.2 q.2.1 q.1)))
def cCs : Nat → CE → Scope → List Expr → Option (List Ex)
  | 0, _, _, _ => none
  | n + 1, ce, sc, [] => some []
  | n + 1, ce, sc, [c] => (cT n ce sc c).map fun x => [x]
  | n + 1, _, _, _ => none
end
/-! ### it is sound -/
theorem map_some {α β : Type} {o : Option α} {f : α → β} {z : β} (h : o.map f = some z) : ∃ x, o = some x ∧ z = f x := by
  cases o with
  | none => cases h
  | some x => simp only [Option.map_some, Option.some.injEq] at h; exact ⟨x, rfl, h.symm⟩
theorem glB_eq {sc : Scope} {x : Str} (h : glB sc x = true) : sc.names.lookup x = some .globalImplicit ∧ (x == ("__debug__" : Str)) = false ∧ x ≠ ("__name__" : Str) := by
  unfold glB at h
  simp only [Bool.and_eq_true, decide_eq_true_eq, Bool.not_eq_true'] at h
  exact ⟨h.1.1, h.1.2, fun e => by rw [e] at h; simp at h⟩
section
variable {C : Cf} {k : Nat} {ce : CE} {N : List Str} {sc : Scope} {st : List Str} {f : Expr → Option Ex} {pos p : Pos}
theorem cList_ok (hf : ∀ e ie, f e = some ie → SE C k N sc st e ie) : ∀ {es : List Expr} {ies : List Ex}, cList f es = some ies → es.all nst = true → SEs C k N sc st es ies
  | [], ies, h, _ => by simp only [cList, Option.some.injEq] at h; subst h; exact ss_nil
  | e :: es, ies, h, n => by
    obtain ⟨x, xs, h1, h2, rfl⟩ := opt2_eq h
    rw [List.all_cons, Bool.and_eq_true] at n
    exact ss_cons n.1 (hf _ _ h1) (cList_ok hf h2 n.2)
theorem cBool_ok (hf : ∀ e ie, f e = some ie → SE C k N sc st e ie) {op : BoolOp} : ∀ {es : List Expr} {ie : Ex}, cBool f op es = some ie → SE C k N sc st (.BoolOp op es pos) ie
  | [], _, h => by cases h
  | [a], _, h => s_bool1 (hf _ _ h)
  | a :: b :: r, ie, h => by
    obtain ⟨x, y, h1, h2, rfl⟩ := opt2_eq h
    cases op
    · exact s_and (hf _ _ h1) (cBool_ok hf h2)
    · exact s_or (hf _ _ h1) (cBool_ok hf h2)
theorem cBoolT_ok (hf : ∀ e ie, f e = some ie → STt C k N sc st e ie) {op : BoolOp} : ∀ {es : List Expr} {ie : Ex}, cBool f op es = some ie → SW C k N sc st (.BoolOp op es pos) ie
  | [], _, h => by cases h
  | [a], _, h => by
    cases op
    · exact sw_and1 (hf _ _ h)
    · exact sw_or1 (hf _ _ h)
  | a :: b :: r, ie, h => by
    obtain ⟨x, y, h1, h2, rfl⟩ := opt2_eq h
    cases op
    · exact sw_and (hf _ _ h1) (cBoolT_ok hf h2)
    · exact sw_or (hf _ _ h1) (cBoolT_ok hf h2)
theorem cop_ok {op : CmpOp} {o : Cop} (h : cop op = some o) : Nonempty (CmpR C k op o) := by
  cases op <;> cases h
  · exact ⟨R_eq⟩
  · exact ⟨R_ne⟩
  · exact ⟨R_lt⟩
  · exact ⟨R_le⟩
  · exact ⟨R_gt⟩
  · exact ⟨R_ge⟩
  · exact ⟨R_isN⟩
  · exact ⟨R_noN⟩
  · exact ⟨R_in⟩
  · exact ⟨R_ni⟩
theorem cOpt_ok (hf : ∀ e ie, f e = some ie → SE C k N sc st e ie) : ∀ {o : Option Expr} {os : List Ex}, cOpt f o = some os → SO C k N sc st o os
  | none, _, h => by simp only [cOpt, Option.some.injEq] at h; subst h; exact so_none
  | some e, _, h => by obtain ⟨x, h1, rfl⟩ := map_some h; exact so_some (hf _ _ h1)
theorem cCmp_ok (hf : ∀ e ie, f e = some ie → SE C k N sc st e ie) {a : Expr} {ie : Ex} : ∀ {ops : List CmpOp} {es : List Expr}, cCmp f a ops es = some ie → SE C k N sc st (.Compare a ops es pos) ie ∧ STt C k N sc st (.Compare a ops es pos) ie
  | [o], [b], h => by
    obtain ⟨hm, h⟩ := chkO_eq h
    obtain ⟨x, p, h1, h2, rfl⟩ := opt2_eq h
    obtain ⟨y, z, h3, h4, rfl⟩ := opt2_eq h2
    obtain ⟨R⟩ := cop_ok (C := C) (k := k) h1
    have hm : behindInMarks o b = false := by simpa using hm
    exact ⟨s_cmp R (hf _ _ h3) (hf _ _ h4) hm, st_cmp R (hf _ _ h3) (hf _ _ h4) hm⟩
  | [o, o'], [b, c], h => by
    obtain ⟨hm, h⟩ := chkO_eq h
    obtain ⟨x, p, h1, h2, rfl⟩ := opt2_eq h
    obtain ⟨x1, x2, g1, g2, rfl⟩ := opt2_eq h1
    obtain ⟨y, z, h3, h4, rfl⟩ := opt2_eq h2
    obtain ⟨z1, z2, h5, h6, rfl⟩ := opt2_eq h4
    obtain ⟨R⟩ := cop_ok (C := C) (k := k) g1
    obtain ⟨R'⟩ := cop_ok (C := C) (k := k) g2
    have hm : lastMarks [o, o'] [b, c] = false := by simpa using hm
    exact ⟨s_chn R R' (hf _ _ h3) (hf _ _ h5) (hf _ _ h6) hm, st_chn R R' (hf _ _ h3) (hf _ _ h5) (hf _ _ h6) hm⟩
  | [], _, h => by simp [cCmp] at h
  | [_], [], h => by simp [cCmp] at h
  | [_], _ :: _ :: _, h => by simp [cCmp] at h
  | [_, _], [], h => by simp [cCmp] at h
  | [_, _], [_], h => by simp [cCmp] at h
  | [_, _], _ :: _ :: _ :: _, h => by simp [cCmp] at h
  | _ :: _ :: _ :: _, _, h => by simp [cCmp] at h
theorem biN_ok {x : Str} {b : Bi} {es : List Expr} {e : Expr} {ies : List Ex} (K : Kn C k ce) (hg : glB sc x = true) (hb : biN x = some b) (hn : (e :: es).all nst = true) (h : SEs C k N sc st (e :: es) ies) : SE C k N sc st (.Call (.Name x p) (e :: es) [] pos) (.bi b ies) := by
  obtain ⟨g1, g2, g3⟩ := glB_eq hg
  have hm : ∀ y ∈ bltNames, C.mg y = none := K.bl
  unfold biN at hb
  split at hb
  · rename_i e1; subst e1; cases hb
    exact s_biB B_len g1 (hm _ (by decide)) (by decide +kernel) hn g3 g2 h
  · split at hb
    · rename_i e1; subst e1; cases hb
      exact s_biT B_int g1 (hm _ (by decide)) (by decide +kernel) hn g3 g2 h
    · split at hb
      · rename_i e1; subst e1; cases hb
        exact s_biT B_str g1 (hm _ (by decide)) (by decide +kernel) hn g3 g2 h
      · split at hb
        · rename_i e1; subst e1; cases hb
          exact s_biT B_tuple g1 (hm _ (by decide)) (by decide +kernel) hn g3 g2 h
        · split at hb
          · rename_i e1; subst e1; cases hb
            exact s_biT B_list g1 (hm _ (by decide)) (by decide +kernel) hn g3 g2 h
          · split at hb
            · rename_i e1; subst e1; cases hb
              exact s_biB B_sorted g1 (hm _ (by decide)) (by decide +kernel) hn g3 g2 h
            · split at hb
              · rename_i e1; subst e1; cases hb
                exact s_biB B_max g1 (hm _ (by decide)) (by decide +kernel) hn g3 g2 h
              · split at hb
                · rename_i e1; subst e1; cases hb
                  exact s_biB B_min g1 (hm _ (by decide)) (by decide +kernel) hn g3 g2 h
                · split at hb
                  · rename_i e1; subst e1; cases hb
                    exact s_biB B_ord g1 (hm _ (by decide)) (by decide +kernel) hn g3 g2 h
                  · cases hb
theorem btN_ok {x : Str} {b : Bt} (h : btN x = some b) : x = Str.ofString b.nm ∧ x ∈ bltNames := by
  unfold btN at h
  repeat' (split at h)
  all_goals first | (rename_i e1; subst e1; cases h; exact ⟨rfl, by decide⟩) | cases h
theorem isIsi_ok {es : List Expr} {e : Expr} {t : Str} (h : isIsi es = some (e, t)) : ∃ p, es = [e, .Name t p] := by
  unfold isIsi at h
  split at h
  · cases h; exact ⟨_, rfl⟩
  · cases h
theorem isIsiT_ok {es ns : List Expr} {e : Expr} (h : isIsiT es = some (e, ns)) : ∃ kk p, es = [e, .Tuple ns kk p] := by
  unfold isIsiT at h
  split at h
  · cases h; exact ⟨_, _, rfl⟩
  · cases h
theorem cBts_ok (K : Kn C k ce) : ∀ {ns : List Expr} {bs : List Bt}, cBts sc ns = some bs → BtNms C sc ns bs ∧ ns.length = bs.length
  | [], bs, h => by simp only [cBts, Option.some.injEq] at h; subst h; exact ⟨.nil, rfl⟩
  | e :: es, bs, h => by
    cases e <;> first | (simp [cBts] at h; done) | skip
    obtain ⟨hg, h⟩ := chkO_eq h
    obtain ⟨b, bs', h1, h2, rfl⟩ := opt2_eq h
    obtain ⟨rfl, hbn⟩ := btN_ok h1
    obtain ⟨i1, i2⟩ := cBts_ok K h2
    exact ⟨.cons (glB_eq hg).1 (K.bl _ hbn) i1, by simp [i2]⟩
theorem cList_len {f : Expr → Option Ex} : ∀ {es : List Expr} {ies : List Ex}, cList f es = some ies → ies.length = es.length
  | [], ies, h => by simp only [cList, Option.some.injEq] at h; subst h; rfl
  | e :: es, ies, h => by
    obtain ⟨x, xs, _, h2, rfl⟩ := opt2_eq h
    rw [List.length_cons, List.length_cons, cList_len h2]
theorem few_all {pos : Pos} {es : List Expr} (hn : es.all nst = true) (hl : es.length < 30) (env : Env) : ((backTo pos (starEach es env)).all (fun x => !x.1) && (backToKw pos (keywordEach [] env)).all (fun x => x.1.isSome)
      && decide (es.length + ([] : List Keyword).length + (if ([] : List Keyword).isEmpty then 0 else 1) < 30)) = true := by
  have h := star_any (pos := pos) (env := env) hn
  have h1 : (backTo pos (starEach es env)).all (fun x => !x.1) = true := by
    rw [List.all_eq_not_any_not]
    simpa using h
  rw [h1, Bool.true_and, Bool.and_eq_true]
  exact ⟨rfl, decide_eq_true hl⟩
theorem cMR_ok (K : Kn C k ce) (hf : ∀ e ie, f e = some ie → SE C k N sc st e ie) {o : Expr} {m : Str} {es : List Expr} {apos cpos : Pos} {ie : Ex} (h : cMR f ce o m es apos.endLine cpos.line = some ie) : SE C k N sc st (.Call (.Attribute o m apos) es [] cpos) ie := by
  unfold cMR at h
  split at h
  · rename_i c j np hm
    obtain ⟨hc, h2⟩ := chkO_eq h
    clear h
    simp only [Bool.and_eq_true, decide_eq_true_eq] at hc
    obtain ⟨⟨⟨⟨c1, c2⟩, c3⟩, c4⟩, c5⟩ := hc
    obtain ⟨io, ies, h3, h4, rfl⟩ := opt2_eq h2
    obtain ⟨fa, fd, ps, kl, M, F, hk, hb⟩ := K.mt m c j np [] hm
    subst c4
    have hl := cList_len h4
    have hS := cList_ok hf h4 c2
    cases es with
    | nil =>
      cases ies with
      | nil => exact s_methR0 (K.fa c) M F (by omega) hb (fun env => npl_base c1 _ _ _) c3 (hf _ _ h3)
      | cons _ _ => simp at hl
    | cons e es =>
      rw [← hl] at F
      exact s_methR (K.fa c) M F (by omega) hb (fun env => npl_base c1 _ _ _) (few_all c2 c5) c3 c2 (hf _ _ h3) hS
  · cases h
theorem m1N_ok {x : Str} {b : Bi} (h : m1N x = some b) : (x = "join" ∧ b = .join) ∨ (x = "split" ∧ b = .split) ∨ (x = "index" ∧ b = .index) := by
  unfold m1N at h
  split at h
  · rename_i e; cases h; exact .inl ⟨e, rfl⟩
  · split at h
    · rename_i e; cases h; exact .inr (.inl ⟨e, rfl⟩)
    · split at h
      · rename_i e; cases h; exact .inr (.inr ⟨e, rfl⟩)
      · cases h
theorem cM1_ok (hf : ∀ e ie, f e = some ie → SE C k N sc st e ie) {o : Expr} {m : Str} {es : List Expr} {apos cpos : Pos} {ie : Ex} (h : cM1 f o m es apos.endLine cpos.line = some ie) : SE C k N sc st (.Call (.Attribute o m apos) es [] cpos) ie := by
  unfold cM1 at h
  split at h
  · rename_i e he
    have e1 := one_eq he
    subst e1
    obtain ⟨hc, h2⟩ := chkO_eq h
    simp only [Bool.and_eq_true] at hc
    obtain ⟨b, p, h3, h4, rfl⟩ := opt2_eq h2
    obtain ⟨x, y, h5, h6, rfl⟩ := opt2_eq h4
    rcases m1N_ok h3 with ⟨rfl, rfl⟩ | ⟨rfl, rfl⟩ | ⟨rfl, rfl⟩
    · exact s_join hc.1.2 (fun env => npl_base hc.1.1 _ _ _) hc.2 (hf _ _ h5) (hf _ _ h6)
    · exact s_split hc.1.2 (fun env => npl_base hc.1.1 _ _ _) hc.2 (hf _ _ h5) (hf _ _ h6)
    · exact s_index hc.1.2 (fun env => npl_base hc.1.1 _ _ _) hc.2 (hf _ _ h5) (hf _ _ h6)
  · cases h
theorem cCall_ok (K : Kn C k ce) (hf : ∀ e ie, f e = some ie → SE C k N sc st e ie) {x : Str} {es : List Expr} {ie : Ex} (h : cCall f ce sc x es = some ie) : SE C k N sc st (.Call (.Name x p) es [] pos) ie := by
  obtain ⟨h1, h0⟩ := chkO_eq h
  clear h
  have h := h0
  clear h0
  rw [Bool.and_eq_true] at h1
  obtain ⟨hg, hn⟩ := h1
  obtain ⟨g1, g2, g3⟩ := glB_eq hg
  split at h
  · rename_i j np hx
    obtain ⟨hl, h⟩ := chkO_eq h
    obtain ⟨ies, h2, rfl⟩ := map_some h
    obtain ⟨fa, fd, ps, kl, F, hk, hb, hm, kp⟩ := K.fn x j np hx
    have hl := of_decide_eq_true hl
    subst hl
    have hS := cList_ok hf h2 hn
    cases es with
    | nil =>
      have e0 : ies = [] := by simp only [cList, Option.some.injEq] at h2; exact h2.symm
      subst e0
      exact s_call0 F (by omega) hb g1 hm kp g2
    | cons e es =>
      have el : ies.length = (e :: es).length := cList_len h2
      rw [← el] at F
      exact s_call F (by omega) hb g1 hm kp g2 hn hS
  · split at h
    · rename_i c j np hx
      obtain ⟨hl, h⟩ := chkO_eq h
      obtain ⟨ies, h2, rfl⟩ := map_some h
      obtain ⟨fa, fd, ps, kl, M, F, hk, hb, hm⟩ := K.cl x c j np hx
      rw [Bool.and_eq_true] at hl
      obtain ⟨hl, hne⟩ := hl
      have hl := of_decide_eq_true hl
      subst hl
      cases es with
      | nil => cases hne
      | cons e es =>
        have el : ies.length = (e :: es).length := cList_len h2
        rw [← el] at F
        exact s_mk M F (by omega) hb g1 hm g2 hn (cList_ok hf h2 hn)
    · split at h
      · rename_i ex
        subst ex
        split at h
        · rename_i e t ht
          obtain ⟨q, rfl⟩ := isIsi_ok ht
          obtain ⟨hg2, h2⟩ := chkO_eq h
          clear h
          rw [List.all_cons, Bool.and_eq_true] at hn
          split at h2
          · rename_i j ys ns hl
            obtain ⟨ie', h3, rfl⟩ := map_some h2
            obtain ⟨z1, z2⟩ := K.ci _ _ _ _ hl
            obtain ⟨y1, y2, _⟩ := glB_eq hg2
            exact s_isc hn.1 g1 (K.bl _ (by decide)) y1 z1 y2 z2 (hf _ _ h3)
          · obtain ⟨ie', b, h3, h4, rfl⟩ := opt2_eq h2
            obtain ⟨rfl, hbn⟩ := btN_ok h4
            exact s_isi hn.1 g1 (K.bl _ (by decide)) (glB_eq hg2).1 (K.bl _ hbn) (hf _ _ h3)
        · split at h
          · rename_i e ns ht
            obtain ⟨kk, q, rfl⟩ := isIsiT_ok ht
            rw [List.all_cons, Bool.and_eq_true] at hn
            cases hq : opt2 (f e) (cBts sc ns) fun ie bs => (ie, bs) with
            | none => rw [hq] at h; cases h
            | some q =>
              rw [hq, Option.bind_some] at h
              obtain ⟨hl, h3⟩ := chkO_eq h
              cases h3
              obtain ⟨ie', bs, h4, h5, rfl⟩ := opt2_eq hq
              obtain ⟨i1, i2⟩ := cBts_ok K h5
              refine s_isis hn.1 g1 (K.bl _ (by decide)) i1 ?_ (hf _ _ h4)
              have : (30 : Nat) ≤ sizeLine := by decide +kernel
              have := of_decide_eq_true hl
              omega
          · cases h
      · split at h
        · rename_i ex
          subst ex
          split at h
          · rename_i a ha
            have e1 := one_eq ha
            subst e1
            obtain ⟨ie', h3, rfl⟩ := map_some h
            rw [List.all_cons, Bool.and_eq_true] at hn
            exact s_repr hn.1 g1 (K.bl _ (by decide)) (hf _ _ h3)
          · cases h
        obtain ⟨hne, h⟩ := chkO_eq h
        obtain ⟨b, ies, h3, h4, rfl⟩ := opt2_eq h
        cases es with
        | nil => cases hne
        | cons e es => exact biN_ok K hg h3 hn (cList_ok hf h4 hn)
where
  cList_len {f : Expr → Option Ex} : ∀ {es : List Expr} {ies : List Ex}, cList f es = some ies → ies.length = es.length
    | [], ies, h => by simp only [cList, Option.some.injEq] at h; subst h; rfl
    | e :: es, ies, h => by
      obtain ⟨x, xs, h1, h2, rfl⟩ := opt2_eq h
      rw [List.length_cons, List.length_cons, cList_len h2]
theorem isMinusOne_ok {e : Expr} (h : isMinusOne (some e) = true) : ∃ kk p1 p2, e = .UnaryOp .USub (.Constant (.int 1) kk p1) p2 := by
  unfold isMinusOne at h
  split at h
  · rename_i i kk p1 p2 e1
    cases e1
    rw [of_decide_eq_true h]
    exact ⟨_, _, _, rfl⟩
  · cases h
theorem cSub_ok (hf : ∀ e ie, f e = some ie → SE C k N sc st e ie) {a b : Expr} {ie : Ex} (h : cSub f a b = some ie) : SE C k N sc st (.Subscript a b pos) ie := by
  by_cases hb : nsl b = true
  · have h' : opt2 (f a) (f b) .idx = some ie := by
      cases b <;> first | exact h | cases hb
    obtain ⟨x, y, h1, h2, rfl⟩ := opt2_eq h'
    exact s_idx hb (hf _ _ h1) (hf _ _ h2)
  · cases b <;> first | exact absurd rfl hb | skip
    rename_i lo hi stp p2
    cases stp with
    | none =>
      obtain ⟨x, y, h1, h2, rfl⟩ := opt2_eq h
      obtain ⟨y1, y2, h3, h4, rfl⟩ := opt2_eq h2
      exact s_slc (hf _ _ h1) (cOpt_ok hf h3) (cOpt_ok hf h4)
    | some m =>
      obtain ⟨c, h⟩ := chkO_eq h
      simp only [Bool.and_eq_true] at c
      obtain ⟨⟨c1, c2⟩, c3⟩ := c
      obtain ⟨kk, q1, q2, rfl⟩ := isMinusOne_ok c1
      cases lo <;> first | cases c2 | skip
      cases hi <;> first | cases c3 | skip
      obtain ⟨x, h1, rfl⟩ := map_some h
      exact s_rev (hf _ _ h1)
theorem cNms_ok : ∀ {es : List Expr} {is : List Nat}, cNms N st es = some is → Nms N st es is
  | [], _, h => by simp only [cNms, Option.some.injEq] at h; subst h; exact .nil
  | e :: es, is, h => by
    cases e <;> first | (simp [cNms] at h; done) | skip
    obtain ⟨hx, h⟩ := chkO_eq h
    obtain ⟨i, is', h1, h2, rfl⟩ := opt2_eq h
    exact .cons (idx_eq h1) (of_decide_eq_true hx) (cNms_ok h2)
theorem cTg_ok {tg : Expr} {t : Tg} (h : cTg N st tg = some t) : SG C k N sc st tg t := by
  cases tg <;> first | (simp [cTg] at h; done) | skip
  · obtain ⟨hx, h⟩ := chkO_eq h
    obtain ⟨i, h1, rfl⟩ := map_some h
    exact g_nm (idx_eq h1) (of_decide_eq_true hx)
  · obtain ⟨is, h1, rfl⟩ := map_some h
    exact g_tp (cNms_ok h1)
theorem isTup_ok {tg : Expr} (h : isTup tg = true) : ∃ es kk q, tg = .Tuple es kk q := by
  cases tg <;> first | exact ⟨_, _, _, rfl⟩ | cases h
theorem cIt_ok (K : Kn C k ce) (hf : ∀ e ie, f e = some ie → SE C k N sc st e ie) {tg iter : Expr} {it : It} (h : cIt f ce sc tg iter = some it) : SI C k N sc st tg iter it := by
  unfold cIt at h
  split at h
  · rename_i x es hx
    obtain ⟨h1, h0⟩ := chkO_eq h
    clear h
    have h := h0
    clear h0
    rw [Bool.and_eq_true] at h1
    obtain ⟨g1, g2, g3⟩ := glB_eq h1.1
    have hn := h1.2
    obtain ⟨q, q2, rfl⟩ : ∃ q q2, iter = .Call (.Name x q) es [] q2 := by
      unfold isIt at hx
      split at hx
      · split at hx
        · cases hx; exact ⟨_, _, rfl⟩
        · cases hx
      · cases hx
    have hm : ∀ y ∈ bltNames, C.mg y = none := K.bl
    clear hx h1
    rcases es with _ | ⟨a, _ | ⟨b, _ | ⟨_, _⟩⟩⟩
    · simp [cIt1] at h
    · rw [List.all_cons, Bool.and_eq_true] at hn
      simp only [cIt1] at h
      split at h
      · rename_i e1; subst e1
        obtain ⟨z, h1, rfl⟩ := map_some h
        exact i_rng1 g1 (hm _ (by decide)) hn.1 (hf _ _ h1)
      · split at h
        · rename_i e1; subst e1
          obtain ⟨ht, h⟩ := chkO_eq h
          obtain ⟨z, h1, rfl⟩ := map_some h
          obtain ⟨_, _, _, rfl⟩ := isTup_ok ht
          exact i_enum g1 (hm _ (by decide)) hn.1 (hf _ _ h1)
        · split at h
          · rename_i e1; subst e1
            obtain ⟨z, h1, rfl⟩ := map_some h
            exact i_rvd g1 (hm _ (by decide)) hn.1 (hf _ _ h1)
          · cases h
    · simp only [List.all_cons, Bool.and_eq_true] at hn
      simp only [cIt1] at h
      split at h
      · rename_i e1; subst e1
        obtain ⟨z, y, h1, h2, rfl⟩ := opt2_eq h
        exact i_rng2 g1 (hm _ (by decide)) hn.1 hn.2.1 (hf _ _ h1) (hf _ _ h2)
      · split at h
        · rename_i e1; subst e1
          obtain ⟨ht, h⟩ := chkO_eq h
          obtain ⟨z, y, h1, h2, rfl⟩ := opt2_eq h
          obtain ⟨_, _, _, rfl⟩ := isTup_ok ht
          exact i_zip g1 (hm _ (by decide)) hn.1 hn.2.1 (hf _ _ h1) (hf _ _ h2)
        · cases h
    · simp [cIt1] at h
  · obtain ⟨z, h1, rfl⟩ := map_some h
    exact i_of (hf _ _ h1)
theorem nfs_ok {iter : Expr} (h : nfs iter = true) (env : Env) (x : Value) : foldedSetIterable iter env x = pure x := by
  cases iter <;> first | rfl | cases h
theorem locB_eq {x : Str} (h : locB sc x = true) : L2.Loc sc x := by
  unfold locB at h
  split at h <;> first | (rename_i e; first | exact .inl e | exact .inr e) | cases h
end
theorem nfg_ok {iter : Expr} (h : nfg iter = true) (env : Env) (x : Value) : genFold iter env x = pure x := by
  cases iter <;> first | rfl | cases h
theorem qN_blt (a : Bool) : qN a ∈ bltNames := by cases a <;> decide
theorem Kn.inner {C : Cf} {k : Nat} {ce : CE} (K : Kn C (k + 1) ce) (hg : ce.gen = true) : Kn C.inner k ce.dry where
  bl := K.bl
  fn := fun x j np h => by
    obtain ⟨f, fd, ps, kl, F, hk, r⟩ := K.fn x j np h
    rw [if_pos hg] at hk
    exact ⟨f, fd, ps, kl, ⟨F.len, F.run⟩, by show kl + 1 + (if false = true then 1 else 0) ≤ k; rw [if_neg (by decide)]; omega, r⟩
  cl := fun x c j np h => by
    obtain ⟨f, fd, ps, kl, M, F, hk, r⟩ := K.cl x c j np h
    rw [if_pos hg] at hk
    exact ⟨f, fd, ps, kl, M, ⟨F.len, F.run⟩, by show kl + 1 + (if false = true then 1 else 0) ≤ k; rw [if_neg (by decide)]; omega, r⟩
  gl := K.gl
  gk := fun h => by cases h
  ci := fun x j ys ns h => let ⟨z1, z2⟩ := K.ci x j ys ns h; ⟨z1, ⟨z2.ob, z2.sp, z2.tk, z2.yes, z2.no, z2.bt⟩⟩
  fm := fun x j np is h => by
    obtain ⟨f, fd, ps, kl, F, hk, r⟩ := K.fm x j np is h
    rw [if_pos hg] at hk
    exact ⟨f, fd, ps, kl, ⟨F.len, F.run⟩, by show kl + 1 + (if false = true then 1 else 0) ≤ k; rw [if_neg (by decide)]; omega, r⟩
  fa := K.fa
  fb := K.fb
  ex := K.ex
  rs := fun c h => let r := K.rs c h; ⟨r.ex, r.kp, r.sb, r.ty⟩
  mt := fun m c j np is h => by
    obtain ⟨f, fd, ps, kl, M, F, hk, r⟩ := K.mt m c j np is h
    rw [if_pos hg] at hk
    exact ⟨f, fd, ps, kl, M, ⟨F.len, F.run⟩, by show kl + 1 + (if false = true then 1 else 0) ≤ k; rw [if_neg (by decide)]; omega, r⟩
theorem c_ok : ∀ (n : Nat) {C : Cf} {k : Nat} {ce : CE} (K : Kn C k ce), (∀ sc st e ie, cE n ce sc e = some ie → SE C k ce.N sc st e ie) ∧ (∀ sc st e ie, cT n ce sc e = some ie → STt C k ce.N sc st e ie) ∧
    (∀ sc st elt g scope pos ie, cC n ce sc elt g scope = some ie → SE C k ce.N sc st (.ListComp elt [g] scope pos) ie) ∧ (∀ sc st a elt g scope p pos gpos ie, cG n ce sc a elt g scope = some ie → SE C k ce.N sc st (.Call (.Name (qN a) p) [.GeneratorExp elt [g] scope gpos] [] pos) ie) ∧ (∀ sc st es ies, cCs n ce sc es = some ies → SCs C k ce.N sc st es ies)
  | 0, _, _, _, _ => ⟨fun _ _ _ _ h => by simp [cE] at h, fun _ _ _ _ h => by simp [cT] at h, fun _ _ _ _ _ _ _ h => by simp [cC] at h, fun _ _ _ _ _ _ _ _ _ _ h => by simp [cG] at h, fun _ _ _ _ h => by simp [cCs] at h⟩
  | n + 1, C, k, ce, K => by
    obtain ⟨iE, iT, iC, iG, iS⟩ := c_ok n K
    refine ⟨fun sc st e ie h => ?_, fun sc st e ie h => ?_, fun sc st elt g scope pos ie h => ?_, fun sc st a elt g scope p pos gpos ie h => ?_, fun sc st es ies h => ?_⟩
    · cases e with
      | Constant c _ _ =>
        simp only [cE] at h
        split at h <;> first | (cases h; done) | skip
        all_goals (cases h)
        · exact s_non
        · exact s_bl
        · exact s_int
        · exact s_str
      | Name x _ =>
        simp only [cE] at h
        split at h
        · rename_i hv
          obtain ⟨hd, h⟩ := chkO_eq h
          obtain ⟨i, h1, rfl⟩ := map_some h
          unfold ndB at hd
          simp only [Bool.and_eq_true, Bool.not_eq_true'] at hd
          exact s_var (idx_eq h1) (visB_eq hv) hd.1 hd.2
        · obtain ⟨hg, h⟩ := chkO_eq h
          obtain ⟨v, u, d, m, r, q, o⟩ := K.gl x _ h
          obtain ⟨g1, g2, _⟩ := glB_eq hg
          exact s_gl g1 m r (fun ρ => q _ ρ) (fun H Fz => o H Fz) g2
      | BinOp a op b _ =>
        simp only [cE] at h
        obtain ⟨o, p, h1, h2, rfl⟩ := opt2_eq h
        obtain ⟨x, y, h3, h4, rfl⟩ := opt2_eq h2
        have ha := iE sc st _ _ h3
        have hb := iE sc st _ _ h4
        cases op <;> first | (cases h1; done) | skip
        all_goals (cases h1)
        · exact s_add ha hb
        · exact s_sub ha hb
        · exact s_mul ha hb
        · exact s_mod ha hb
        · exact s_pow ha hb
        · exact s_fdiv ha hb
      | UnaryOp op a _ =>
        simp only [cE] at h
        split at h
        · obtain ⟨x, h1, rfl⟩ := map_some h
          exact s_not (iE sc st _ _ h1)
        · obtain ⟨x, h1, rfl⟩ := map_some h
          exact s_neg (iE sc st _ _ h1)
        · cases h
      | BoolOp op es _ => simp only [cE] at h; exact cBool_ok (iE sc st) h
      | IfExp c a b _ =>
        simp only [cE] at h
        obtain ⟨x, p, h1, h2, rfl⟩ := opt2_eq h
        obtain ⟨y, z, h3, h4, rfl⟩ := opt2_eq h2
        exact s_ife (iT sc st _ _ h1) (iE sc st _ _ h3) (iE sc st _ _ h4)
      | Compare a ops es _ => simp only [cE] at h; exact (cCmp_ok (iE sc st) h).1
      | Tuple es _ _ =>
        simp only [cE] at h
        obtain ⟨hn, h⟩ := chkO_eq h
        obtain ⟨x, h1, rfl⟩ := map_some h
        exact s_tup (cList_ok (iE sc st) h1 hn)
      | List es _ =>
        simp only [cE] at h
        split at h
        · rename_i a b hab
          obtain ⟨p, q, rfl⟩ := isSt2_ok hab
          obtain ⟨x, y, h1, h2, rfl⟩ := opt2_eq h
          exact s_st2 (iE sc st _ _ h1) (iE sc st _ _ h2)
        split at h
        · rename_i a es' ha
          unfold isStl at ha
          split at ha
          · cases ha
            obtain ⟨hn, h⟩ := chkO_eq h
            obtain ⟨x, y, h1, h2, rfl⟩ := opt2_eq h
            exact s_stl (iE sc st _ _ h1) (cList_ok (iE sc st) h2 hn)
          · cases ha
        obtain ⟨hn, h⟩ := chkO_eq h
        obtain ⟨x, h1, rfl⟩ := map_some h
        exact s_lst (cList_ok (iE sc st) h1 hn)
      | Subscript a b _ => simp only [cE] at h; exact cSub_ok (iE sc st) h
      | Attribute a x _ =>
        simp only [cE] at h
        obtain ⟨hn, h⟩ := chkO_eq h
        obtain ⟨z, h1, rfl⟩ := map_some h
        rw [Bool.and_eq_true] at hn
        exact s_fld K.fa (K.fb x (of_decide_eq_true hn.2)) (fun env => npl_base hn.1 _ _ _) (iE sc st _ _ h1)
      | Call f es kws _ =>
        cases f <;> first | (simp [cE] at h; done) | skip
        all_goals (cases kws <;> first | (simp [cE] at h; done) | skip)
        case Attribute.nil o m apos =>
          simp only [cE] at h
          split at h
          · exact cMR_ok K (iE sc st) h
          · exact cM1_ok (iE sc st) h
        simp only [cE] at h
        split at h
        · rename_i elt gs scope hes
          unfold isGen at hes
          split at hes
          · cases hes
            split at h
            · rename_i g a hg ha
              have e1 := one_eq hg
              subst e1
              unfold qB at ha
              split at ha
              · rename_i e1; subst e1; cases ha
                exact iG sc st true _ _ _ _ _ _ _ h
              · split at ha
                · rename_i e1; subst e1; cases ha
                  exact iG sc st false _ _ _ _ _ _ _ h
                · cases ha
            · cases h
          · cases hes
        · exact cCall_ok K (iE sc st) h
      | ListComp elt gs scope _ =>
        simp only [cE] at h
        split at h
        · rename_i g hg
          have e1 : gs = [g] := by
            unfold one at hg
            split at hg
            · cases hg; rfl
            · cases hg
          subst e1
          exact iC sc st _ _ _ _ _ h
        · cases h
      | _ => simp [cE] at h
    · have gen : ∀ e ie, chkO (tst e) (cE n ce sc e) = some ie → STt C k ce.N sc st e ie := fun e ie h => by
        obtain ⟨ht, h⟩ := chkO_eq h
        exact st_plain (iE sc st _ _ h) ht
      cases e <;> first | (simp only [cT] at h; exact gen _ _ h) | skip
      · simp only [cT] at h
        exact sw_pt (cBoolT_ok (iT sc st) h)
      · rename_i op a _
        cases op <;> first | (simp only [cT] at h; exact gen _ _ h) | skip
        simp only [cT] at h
        obtain ⟨x, h1, rfl⟩ := map_some h
        exact st_not (iT sc st _ _ h1)
      · simp only [cT] at h
        exact (cCmp_ok (iE sc st) h).2
    · simp only [cC] at h
      obtain ⟨h1, h2⟩ := chkO_eq h
      simp only [Bool.and_eq_true] at h1
      obtain ⟨⟨⟨a1, a2⟩, a3⟩, a4⟩ := h1
      cases hq : (opt2 (cIt (cE n ce sc) ce sc g.target g.iter) (opt2 (cTg ce.N ((ownOf ce.N scope).map (·.1)) g.target) (opt2 (cCs n ce (relS scope sc) g.ifs) (cE n ce (relS scope sc) elt) fun x y => (x, y)) fun x y => (x, y)) fun it p => (it, p)) with
      | none => rw [hq] at h2; cases h2
      | some q =>
        rw [hq, Option.bind_some] at h2
        obtain ⟨hw, h3⟩ := chkO_eq h2
        obtain ⟨it, p, q1, q2, rfl⟩ := opt2_eq hq
        obtain ⟨t, p, q3, q4, rfl⟩ := opt2_eq q2
        obtain ⟨cs, ie', q5, q6, rfl⟩ := opt2_eq q4
        cases h3
        obtain ⟨tg, iter, ifs, asy⟩ := g
        have e0 : asy = 0 := of_decide_eq_true a1
        subst e0
        rw [List.all_eq_true] at hw
        refine s_comp (st' := (ownOf ce.N scope).map (·.1)) (fun i hi => of_decide_eq_true (hw i hi)) a3 (nfs_ok a2) (fun x hx => ?_) (cIt_ok K (iE sc st) q1) (cTg_ok q3) (iS _ _ _ _ q5) (iE _ _ _ _ q6)
        unfold ownC at a4
        rw [List.all_eq_true] at a4
        have z := a4 x hx
        rw [Bool.and_eq_true, Bool.or_eq_true] at z
        exact ⟨locB_eq z.1, z.2.imp id fun w => of_decide_eq_true w⟩
    · simp only [cG] at h
      obtain ⟨h1, h2⟩ := chkO_eq h
      simp only [Bool.and_eq_true] at h1
      obtain ⟨⟨⟨⟨⟨a1, a2⟩, a3⟩, a4⟩, a5⟩, a6⟩ := h1
      obtain ⟨hk, cc, P, hcode⟩ := K.gk a1
      obtain ⟨j, rfl⟩ : ∃ j, k = j + 1 := ⟨k - 1, by omega⟩
      obtain ⟨iE', _⟩ := c_ok n (K.inner a1)
      cases hq : (opt2 (cIt (cE n ce sc) ce sc g.target g.iter) (opt2 (cTg ce.N ((ownOf ce.N scope).map (·.1)) g.target) (cE n ce.dry scope elt) fun x y => (x, y)) fun it p => (it, p)) with
      | none => rw [hq] at h2; cases h2
      | some q =>
        rw [hq, Option.bind_some] at h2
        obtain ⟨hw, h3⟩ := chkO_eq h2
        obtain ⟨it, p, q1, q2, rfl⟩ := opt2_eq hq
        obtain ⟨t, ie', q3, q4, rfl⟩ := opt2_eq q2
        cases h3
        obtain ⟨tg, iter, ifs, asy⟩ := g
        have e0 : asy = 0 := of_decide_eq_true a3
        subst e0
        have e1 : ifs = [] := by cases ifs with | nil => rfl | cons _ _ => cases a5
        subst e1
        rw [List.all_eq_true] at hw
        unfold genC at a6
        simp only [Bool.and_eq_true, decide_eq_true_eq] at a6
        obtain ⟨⟨⟨⟨b1, b2⟩, b3⟩, b4⟩, b5⟩ := a6
        rw [List.all_eq_true] at b4 b5
        refine s_gen (st' := (ownOf ce.N scope).map (·.1)) hcode (glB_eq a2).1 (K.bl _ (qN_blt a)) (fun i hi => of_decide_eq_true (hw i hi)) b1 b2 b3 (fun y hy => of_decide_eq_true (b4 y hy)) (nfg_ok a4) (fun x hx => ?_) (cIt_ok K (iE sc st) q1) (cTg_ok q3) (iE' _ _ _ _ q4)
        obtain ⟨p, hp, rfl⟩ := List.mem_map.mp hx
        exact of_decide_eq_true (b5 p hp)
    · match es, h with
      | [], h => simp only [cCs, Option.some.injEq] at h; subst h; exact c_nil
      | [c], h =>
        simp only [cCs] at h
        obtain ⟨x, h1, rfl⟩ := map_some h
        exact c_one (iT sc st _ _ h1)
      | _ :: _ :: _, h => simp [cCs] at h
end Pu

set_option Elab.async false
set_option linter.all false
set_option maxRecDepth 100000
set_option maxHeartbeats 1000000
/-! Pu21: from a text to the language: statements. -/
namespace Pu
open PySem PySem.Spec PyProof.Rows L2
def cP (f : Expr → Option Ex) (ce : CE) (sc : Scope) : Expr → Option (Nat × List Pt)
  | .Name x _ => chkO (visB sc x && ndB x) ((idx ce.N x).map fun i => (i, []))
  | .Subscript o b _ => chkO (nsl b) (opt2 (cP f ce sc o) (f b) fun q z => (q.1, q.2 ++ [.ix z]))
  | .Attribute o x _ => chkO (npl o && decide (x ∈ ce.fl)) ((cP f ce sc o).map fun q => (q.1, q.2 ++ [.fl x]))
  | _ => none
def out (pi is : List Nat) : Bool := is.all fun i => decide (i ∉ pi)
/-- target = e -/
def cAsg (f : Expr → Option Ex) (ce : CE) (sc : Scope) (st : List Str) (pi : List Nat) (t e : Expr) : Option Sm := match t with
  | .Name x _ => chkO (nlc e && decide (x ∈ st)) (opt2 (idx ce.N x) (f e) fun i z => (i, z)) |>.bind fun q => chkO (decide (q.1 ∉ pi)) (some (.set (.nm q.1) q.2))
  | .Tuple es _ _ => chkO (nlc e && ntp e) (opt2 (cNms ce.N st es) (f e) fun is z => (is, z)) |>.bind fun q => chkO (out pi q.1) (some (.set (.tp q.1) q.2))
  | .Subscript o b _ => chkO (nlc e && ntp e && nsl b) (opt2 (cP f ce sc o) (opt2 (f b) (f e) fun x y => (x, y)) fun q p => .setI q.1 q.2 p.1 p.2)
  | .Attribute o x _ => chkO (decide (x ∈ ce.fl)) (opt2 (cP f ce sc o) (f e) fun q z => .setF q.1 q.2 x z)
  | _ => none
/-- a, b = e, e' -/
def isPar : Expr → Expr → Option (Str × Nat × Str × Nat × Expr × Expr)
  | .Tuple [.Name x px, .Name y py] _ _, .Tuple [a, b] _ _ => some (x, px.line, y, py.line, a, b)
  | _, _ => none
def cPar (f : Expr → Option Ex) (ce : CE) (sc : Scope) (pi : List Nat) (x : Str) (l : Nat) (y : Str) (l2 : Nat) (a b : Expr) : Option Sm :=
  chkO (decide (sc.kind = .function) && decide (sc.names.lookup x = some .local) && decide (sc.names.lookup y = some .local) && (l == l2) && !(x == y) && nst a && nst b && !([a, b].all (foldedForSure 8)) && !([a, b].all (constantsAlone 8)))
    ((opt2 (opt2 (idx ce.N x) (idx ce.N y) fun i j => (i, j)) (opt2 (f a) (f b) fun u v => (u, v)) fun p q => (p, q)).bind fun q => chkO (decide (q.1.1 ≠ q.1.2) && decide (q.1.1 ∉ pi) && decide (q.1.2 ∉ pi)) (some (.par q.1.1 q.1.2 q.2.1 q.2.2)))
/-- name = [..] on one line -/
def cAsgC (n : Nat) (ce : CE) (sc : Scope) (st : List Str) (pi : List Nat) (x : Str) (l : Nat) (elt : Expr) (gs : List Comprehension) (scope : Scope) (l2 : Nat) : Option Sm := match one gs with
  | some g => if (decide (sc.names.lookup x = some .cell) || !(l == l2)) = true then chkO (decide (x ∈ st)) ((opt2 (idx ce.N x) (cC n ce sc elt g scope) fun i z => (i, z)).bind fun q => chkO (decide (q.1 ∉ pi)) (some (.set (.nm q.1) q.2)))
    else chkO (decide (sc.names.lookup x = some .local) && decide (sc.kind = .function) && (l == l2) && !(scope.names.any fun (n, k) => n == x && (k == .local || k == .cell))) ((opt2 (idx ce.N x) (cC n ce sc elt g scope) fun i z => (i, z)).bind fun q => chkO (decide (q.1 ∉ pi)) (some (.set (.nm q.1) q.2)))
  | none => none
def cMeth (f : Expr → Option Ex) (ce : CE) (sc : Scope) (o : Expr) (m : Str) (es : List Expr) (l l2 : Nat) : Option Sm := match one es with
  | some e => chkO (npl o && nst e && (l == l2)) (if m = "append" then opt2 (cP f ce sc o) (f e) fun q z => .app q.1 q.2 z else if m = "pop" then opt2 (cP f ce sc o) (f e) fun q z => .popd q.1 q.2 [z] else none)
  | none => none
def isMeth : Expr → Option (Expr × Str × List Expr × Nat × Nat)
  | .Call (.Attribute o m apos) es [] cpos => some (o, m, es, apos.endLine, cpos.line)
  | _ => none
def isDoc : Expr → Bool
  | .Constant (.str _) _ _ => true
  | _ => false
/-! ### what changes slots -/
/-- the arguments of a call; those at is may be changed -/
def cArs (f : Expr → Option Ex) (ce : CE) (sc : Scope) (is : List Nat) : Nat → List Expr → Option (List Ar)
  | _, [] => some []
  | k, e :: es => if k ∈ is then opt2 (cP f ce sc e) (cArs f ce sc is (k + 1) es) fun q as => .mu q.1 q.2 :: as else opt2 (f e) (cArs f ce sc is (k + 1) es) fun z as => .pu z :: as
def cBoolX (f : Expr → Option Xt) (op : BoolOp) : List Expr → Option Xt
  | [] => none
  | [a] => f a
  | a :: b :: r => opt2 (f a) (cBoolX f op (b :: r)) fun x y => match op with | .And => .and x y | .Or => .or x y
def cXcmp (f : Expr → Option Ex) (g : Expr → Option Xe) (a : Expr) (ops : List CmpOp) (es : List Expr) : Option Xe := match one ops, one es with
  | some o, some b => chkO (!behindInMarks o b) ((opt2 (cop o) (g a) fun x y => (x, y)).bind fun p => match f b with
    | some ib => some (.cmp p.1 p.2 ib)
    | none => (g b).map (.cmpX p.1 p.2))
  | _, _ => none
def cXfn (f : Expr → Option Ex) (g : Expr → Option Xe) (ce : CE) (sc : Scope) (x : Str) (e : Expr) (es : List Expr) : Option Xe := match ce.fm.lookup x with
  | some (j, np, is) => chkO (glB sc x && (e :: es).all nst) ((cArs f ce sc is 0 (e :: es)).bind fun as => chkO (decide (posOf 0 (flagsOf as) = is) && decide (as.length = np)) (some (.call j as)))
  | none => match one (e :: es) with
    | some a => chkO (decide (x = "len") && glB sc x && nst a) ((g a).map (.bi .len))
    | none => none
def cXme (f : Expr → Option Ex) (ce : CE) (sc : Scope) (o : Expr) (m : Str) (es : List Expr) (l l2 : Nat) : Option Xe := match ce.ms.lookup m with
  | some (c, j, np, is) => chkO (npl o && es.all nst && (l == l2) && decide (es.length < 30)) ((opt2 (cP f ce sc o) (cArs f ce sc is 1 es) fun x y => (x, y)).bind fun q => chkO (decide (posOf 0 (true :: flagsOf q.2) = is) && decide (q.2.length + 1 = np)) (some (.meth c j m q.1.1 q.1.2 q.2)))
  | none => match one es with
    | some k => chkO (decide (m = "pop") && npl o && nst k && (l == l2)) (opt2 (cP f ce sc o) (f k) fun q z => .pop q.1 q.2 [z])
    | none => none
def two? : List Expr → Option (Expr × Expr)
  | [a, b] => some (a, b)
  | _ => none
mutual
def cXe : Nat → CE → Scope → Expr → Option Xe
  | 0, _, _, _ => none
  | n + 1, ce, sc, .Call (.Name g _) (e :: es) [] _ => cXfn (cE n ce sc) (cXe n ce sc) ce sc g e es
  | n + 1, ce, sc, .Call (.Attribute o m apos) es [] cpos => cXme (cE n ce sc) ce sc o m es apos.endLine cpos.line
  | n + 1, ce, sc, .Compare a ops es _ => cXcmp (cE n ce sc) (cXe n ce sc) a ops es
  | n + 1, ce, sc, .Subscript a b _ => chkO (nsl b) (opt2 (cXe n ce sc a) (cE n ce sc b) .idx)
  | n + 1, ce, sc, .Tuple es _ _ => match two? es with
    | some (a, b) => chkO (nst a && nst b) (opt2 (cE n ce sc a) (cXe n ce sc b) .tup1)
    | none => none
  | n + 1, ce, sc, .ListComp elt gs scope _ => match one gs with
    | some g => cXC n ce sc elt g scope
    | none => none
  | _ + 1, _, _, _ => none
def cXv : Nat → CE → Scope → Expr → Option Xe
  | 0, _, _, _ => none
  | n + 1, ce, sc, e => match cE n ce sc e with
    | some ie => some (.pu ie)
    | none => cXe n ce sc e
def cXt : Nat → CE → Scope → Expr → Option Xt
  | 0, _, _, _ => none
  | n + 1, ce, sc, e => match cT n ce sc e with
    | some ie => some (.pu ie)
    | none => cXt1 n ce sc e
def cXt1 : Nat → CE → Scope → Expr → Option Xt
  | 0, _, _, _ => none
  | n + 1, ce, sc, .BoolOp op es _ => cBoolX (cXt n ce sc) op es
  | n + 1, ce, sc, .UnaryOp .Not a _ => (cXt n ce sc a).map .not
  | n + 1, ce, sc, .Compare a ops es _ => (cXcmp (cE n ce sc) (cXe n ce sc) a ops es).map .val
  | n + 1, ce, sc, e => chkO (tst e) ((cXe n ce sc e).map .val)
def cXC : Nat → CE → Scope → Expr → Comprehension → Scope → Option Xe
  | 0, _, _, _, _, _ => none
  | n + 1, ce, sc, elt, g, scope => chkO (decide (g.is_async = 0) && nfs g.iter && blkC ce.N sc scope (ownOf ce.N scope) && ownC sc scope ((ownOf ce.N scope).map (·.1)))
    ((opt2 (cIt (cE n ce sc) ce sc g.target g.iter) (opt2 (cTg ce.N ((ownOf ce.N scope).map (·.1)) g.target) (opt2 (cXcs n ce (relS scope sc) g.ifs) (cXv n ce (relS scope sc) elt) fun x y => (x, y)) fun x y => (x, y)) fun it p => (it, p)).bind fun q =>
      chkO ((tgIx q.2.1).all fun i => decide (i ∈ (ownOf ce.N scope).map (·.2))) (some (.comp ((ownOf ce.N scope).map (·.2)) q.2.2.2 q.2.1 q.1 q.2.2.1)))
def cXcs : Nat → CE → Scope → List Expr → Option Xt
  | 0, _, _, _ => none
  | n + 1, ce, sc, [] => some (.pu (.bl true))
  | n + 1, ce, sc, [c] => cXt n ce sc c
  | n + 1, _, _, _ => none
end
/-- name.append(x), x of this kind -/
def cAppX (f : Expr → Option Ex) (g : Expr → Option Xe) (ce : CE) (sc : Scope) : Expr → Option Sm
  | .Call (.Attribute (.Name x _) m apos) [e] [] cpos => chkO (decide (m = "append") && visB sc x && ndB x && nst e && (apos.endLine == cpos.line) && (f e).isNone) (opt2 (idx ce.N x) (g e) fun i xe => .appX i xe)
  | _ => none
def cExp0 (f : Expr → Option Ex) (ce : CE) (sc : Scope) (e : Expr) : Option Sm := match isMeth e with
  | some (o, m, es, l, l2) => cMeth f ce sc o m es l l2
  | none => if isDoc e = true then some .skip else chkO (nlc e) ((f e).map .exp)
def cExp (f : Expr → Option Ex) (g : Expr → Option Xe) (ce : CE) (sc : Scope) (e : Expr) : Option Sm := match cAppX f g ce sc e with
  | some m => some m
  | none => match cExp0 f ce sc e with
    | some m => some m
    | none => chkO (nlc e) ((g e).map .expX)
def cRet (f : Expr → Option Ex) (ce : CE) (sc : Scope) (pi : List Nat) : Option Expr → Option Sm
  | none => some .rtn
  | some (.Name x p) => if visB sc x = true then (chkO (ndB x) (idx ce.N x)).bind fun i => chkO (decide (i ∉ pi)) (some (.rtv i)) else (f (.Name x p)).map .ret
  | some e => (f e).map .ret
def cRetX (f : Expr → Option Ex) (g : Expr → Option Xe) (ce : CE) (sc : Scope) (pi : List Nat) : Option Expr → Option Sm
  | none => cRet f ce sc pi none
  | some e => match cRet f ce sc pi (some e) with
    | some m => some m
    | none => (g e).map .retX
def nmOf : Expr → Option Str
  | .Name x _ => some x
  | _ => none
def atOf? : Expr → Option (Expr × Str)
  | .Attribute o x _ => some (o, x)
  | _ => none
def cAsgX (f : Expr → Option Ex) (g : Expr → Option Xe) (ce : CE) (sc : Scope) (st : List Str) (pi : List Nat) (t e : Expr) : Option Sm := match cAsg f ce sc st pi t e with
  | some m => some m
  | none => match nmOf t with
    | some x => (g e).bind fun xe => chkO (nlc e && decide (x ∈ st)) ((idx ce.N x).bind fun i => chkO (decide (i ∉ pi)) (some (.setX i xe)))
    | none => match atOf? t with
      | some (o, x) => (g e).bind fun xe => chkO (decide (x ∈ ce.fl)) ((cP f ce sc o).map fun q => .setFX q.1 q.2 x xe)
      | none => none
/-- name = [..] by such a loop -/
def cAsgCX (n : Nat) (ce : CE) (sc : Scope) (st : List Str) (pi : List Nat) (x : Str) (l : Nat) (elt : Expr) (gs : List Comprehension) (scope : Scope) (l2 : Nat) : Option Sm := match one gs with
  | some g => if (decide (sc.names.lookup x = some .cell) || !(l == l2)) = true then chkO (decide (x ∈ st)) ((opt2 (idx ce.N x) (cXC n ce sc elt g scope) fun i z => (i, z)).bind fun q => chkO (decide (q.1 ∉ pi)) (some (.setX q.1 q.2)))
    else chkO (decide (sc.names.lookup x = some .local) && decide (sc.kind = .function) && (l == l2) && !(scope.names.any fun (n, k) => n == x && (k == .local || k == .cell))) ((opt2 (idx ce.N x) (cXC n ce sc elt g scope) fun i z => (i, z)).bind fun q => chkO (decide (q.1 ∉ pi)) (some (.setX q.1 q.2)))
  | none => none
def isLC : Expr → Option (Expr × List Comprehension × Scope × Nat)
  | .ListComp elt gs scope p => some (elt, gs, scope, p.line)
  | _ => none
def isNm : Expr → Option (Str × Nat)
  | .Name x p => some (x, p.line)
  | _ => none
def isRais : Option Expr → Option Expr → Option Str
  | some (.Call (.Name x _) [.Constant (.str _) _ _] [] _), none => some x
  | _, _ => none
def cRais (ce : CE) (sc : Scope) (e c : Option Expr) : Sm := match isRais e c with
  | some x => (match ce.es.lookup x with
    | some (j, _, _) => if (glB sc x && decide (j ∈ ce.rs)) = true then .rais j else .nev
    | none => .nev)
  | none => .nev
def isTry : List ExceptHandler → List Stmt → List Stmt → Option (Str × Str × Expr)
  | [.ExceptHandler (some (.Name x _)) (some n) [.Return (some e) _] _], [], [] => some (x, n, e)
  | _, _, _ => none
/-- an expression of the suite; the exception's name is m, in slot i -/
def cX : Nat → CE → Scope → Nat → Str → Expr → Option Xb
  | 0, _, _, _, _, _ => none
  | _ + 1, ce, sc, _, _, .Name y _ => chkO (visB sc y && ndB y) ((idx ce.N y).map .var)
  | _ + 1, _, _, _, _, .Constant (.bool b) _ _ => some (.bl b)
  | n + 1, ce, sc, i, m, .UnaryOp .Not a _ => (cX n ce sc i m a).map .not
  | n + 1, ce, sc, i, m, .BoolOp .And [a] _ => cX n ce sc i m a
  | n + 1, ce, sc, i, m, .BoolOp .And (a :: b :: r) p => opt2 (cX n ce sc i m a) (cX n ce sc i m (.BoolOp .And (b :: r) p)) .and
  | _ + 1, ce, sc, i, m, .Call (.Name f _) [.Name u _, .Name y _] [] _ => chkO (decide (f = "isinstance") && glB sc f && decide (u = m) && visB sc m && ndB m && decide (idx ce.N m = some i) && glB sc y) (match ce.es.lookup y with
    | some (_, ys, ns) => some (.isE ys ns)
    | none => none)
  | _ + 1, _, _, _, _, _ => none
mutual
def cS : Nat → CE → Scope → List Str → List Nat → Stmt → Option Sm
  | 0, _, _, _, _, _ => none
  | n + 1, ce, sc, st, pi, .Assign ts e _ => match one ts with
    | some t => (match isLC e, isNm t with
      | some (elt, gs, scope, l2), some (x, l) => (match cAsgC n ce sc st pi x l elt gs scope l2 with
        | some m => some m
        | none => cAsgCX n ce sc st pi x l elt gs scope l2)
      | _, _ => match isPar t e with
        | some (x, l, y, l2, a, b) => cPar (cE n ce sc) ce sc pi x l y l2 a b
        | none => cAsgX (cE n ce sc) (cXe n ce sc) ce sc st pi t e)
    | none => none
  | n + 1, ce, sc, st, pi, .Expr e _ => cExp (cE n ce sc) (cXe n ce sc) ce sc e
  | n + 1, ce, sc, st, pi, .Return e _ => cRetX (cE n ce sc) (cXe n ce sc) ce sc pi e
  | n + 1, ce, sc, st, pi, .If c a b _ => opt2 (cXt (n + 1) ce sc c) (opt2 (cB n ce sc st pi a) (cB n ce sc st pi b) fun x y => (x, y)) fun c p => match c with
    | .pu ic => .ite ic p.1 p.2
    | c => .iteX c p.1 p.2
  | n + 1, ce, sc, st, pi, .While c b els _ => chkO els.isEmpty (opt2 (cXt (n + 1) ce sc c) (cB n ce sc st pi b) .wh)
  | n + 1, ce, sc, st, pi, .AugAssign (.Name x _) .Add e _ => chkO (decide (x ∈ st)) ((opt2 (idx ce.N x) (cE n ce sc e) fun i z => (i, z)).bind fun q => chkO (decide (q.1 ∉ pi)) (some (.aug q.1 q.2)))
  | n + 1, ce, sc, st, pi, .For t it b els _ => (chkO (els.isEmpty && nfs it) (opt2 (cTg ce.N st t) (opt2 (cIt (cE n ce sc) ce sc t it) (cB n ce sc st pi b) fun x y => (x, y)) fun t p => (t, p))).bind fun q => chkO (out pi (tgIx q.1)) (some (.fr q.1 q.2.1 q.2.2))
  | n + 1, ce, sc, st, pi, .Pass _ => some .skip
  | n + 1, ce, sc, st, pi, .Break _ => some .brk
  | n + 1, ce, sc, st, pi, .Continue _ => some .cnt
  | n + 1, ce, sc, st, pi, .Raise e c _ => some (cRais ce sc e c)
  | n + 1, ce, sc, st, pi, .Try b hs els fin _ => match isTry hs els fin with
    | some (x, m, e) => (match ce.es.lookup x, idx ce.N m with
      | some (_, ys, _), some i => chkO (glB sc x && decide (sc.names.lookup m = some .local) && decide (i ∉ pi)) (opt2 (cB n ce sc st pi b) (cX n ce sc i m e) fun mb xb => .tr mb i ys xb)
      | _, _ => none)
    | none => none
  | _ + 1, _, _, _, _, _ => none
def cB : Nat → CE → Scope → List Str → List Nat → List Stmt → Option (List Sm)
  | 0, _, _, _, _, _ => none
  | n + 1, ce, sc, st, pi, [] => some []
  | n + 1, ce, sc, st, pi, s :: ss => opt2 (cS n ce sc st pi s) (cB n ce sc st pi ss) List.cons
end
section
variable {C : Cf} {k : Nat} {ce : CE} {sc : Scope} {st : List Str} {pi : List Nat} {f : Expr → Option Ex} {pos p : Pos}
theorem cP_ok (K : Kn C k ce) (hf : ∀ e ie, f e = some ie → SE C k ce.N sc st e ie) : ∀ {o : Expr} {q : Nat × List Pt}, cP f ce sc o = some q → SP C k ce.N sc st o q.1 q.2 := by
  intro o
  induction o using cP.induct with
  | case1 x _ =>
    intro q h
    simp only [cP] at h
    obtain ⟨h1, h⟩ := chkO_eq h
    obtain ⟨i, h2, rfl⟩ := map_some h
    unfold ndB at h1
    simp only [Bool.and_eq_true, Bool.not_eq_true'] at h1
    exact p_nm (idx_eq h2) (visB_eq h1.1) h1.2.1 h1.2.2
  | case2 o b _ ih =>
    intro q h
    simp only [cP] at h
    obtain ⟨h1, h⟩ := chkO_eq h
    obtain ⟨q', z, h2, h3, rfl⟩ := opt2_eq h
    exact p_ix h1 (ih h2) (hf _ _ h3)
  | case3 o x _ ih =>
    intro q h
    simp only [cP] at h
    obtain ⟨h1, h⟩ := chkO_eq h
    obtain ⟨q', h2, rfl⟩ := map_some h
    rw [Bool.and_eq_true] at h1
    exact p_fl K.fa (K.fb x (of_decide_eq_true h1.2)) h1.1 (ih h2)
  | case4 o h1 h2 h3 =>
    intro q h
    rw [cP] at h
    · cases h
    all_goals assumption
theorem bindO {α β : Type} {o : Option α} {g : α → Option β} {z : β} (h : o.bind g = some z) : ∃ x, o = some x ∧ g x = some z := by
  cases o with
  | none => cases h
  | some x => exact ⟨x, rfl, h⟩
theorem out_ok {is : List Nat} (h : out pi is = true) : ∀ i ∈ is, i ∉ pi := fun i hi => by
  unfold out at h
  rw [List.all_eq_true] at h
  exact of_decide_eq_true (h i hi)
theorem cAsg_ok (K : Kn C k ce) (hf : ∀ e ie, f e = some ie → SE C k ce.N sc st e ie) {t e : Expr} {m : Sm} (h : cAsg f ce sc st pi t e = some m) : S1 C k ce.N sc st pi (.Assign [t] e pos) m := by
  cases t <;> first | (simp [cAsg] at h; done) | skip
  all_goals simp only [cAsg] at h
  all_goals first
    | (obtain ⟨q, h1, h2⟩ := bindO h
       obtain ⟨hp, h2⟩ := chkO_eq h2
       cases h2
       obtain ⟨c, h1⟩ := chkO_eq h1
       rw [Bool.and_eq_true] at c
       obtain ⟨i, z, a1, a2, rfl⟩ := opt2_eq h1
       first
         | exact t_setN c.1 (idx_eq a1) (of_decide_eq_true c.2) (of_decide_eq_true hp) (hf _ _ a2)
         | exact t_set c.1 c.2 (out_ok hp) (fun _ => rfl) (hf _ _ a2) (g_tp (cNms_ok a1)))
    | (obtain ⟨c, h1⟩ := chkO_eq h
       obtain ⟨q, p, a1, a2, rfl⟩ := opt2_eq h1
       obtain ⟨x, y, a3, a4, rfl⟩ := opt2_eq a2
       simp only [Bool.and_eq_true] at c
       exact t_setI c.1.1 c.1.2 c.2 (cP_ok K hf a1) (hf _ _ a3) (hf _ _ a4))
    | (obtain ⟨c, h1⟩ := chkO_eq h
       obtain ⟨q, p, a1, a2, rfl⟩ := opt2_eq h1
       exact t_setF K.fa (K.fb _ (of_decide_eq_true c)) (cP_ok K hf a1) (hf _ _ a2))
theorem cPar_ok (hf : ∀ e ie, f e = some ie → SE C k ce.N sc st e ie) {x y : Str} {px py pt pt2 : Pos} {kt k2 : Nat} {a b : Expr} {m : Sm} (h : cPar f ce sc pi x px.line y py.line a b = some m) : S1 C k ce.N sc st pi (.Assign [.Tuple [.Name x px, .Name y py] kt pt] (.Tuple [a, b] k2 pt2) pos) m := by
  obtain ⟨c, h1⟩ := chkO_eq h
  simp only [Bool.and_eq_true, decide_eq_true_eq, Bool.not_eq_true'] at c
  obtain ⟨⟨⟨⟨⟨⟨⟨⟨c1, c2⟩, c3⟩, c4⟩, c5⟩, c6⟩, c7⟩, c8⟩, c9⟩ := c
  obtain ⟨q, h2, h3⟩ := bindO h1
  obtain ⟨d, h3⟩ := chkO_eq h3
  simp only [Bool.and_eq_true, decide_eq_true_eq] at d
  cases h3
  obtain ⟨p, r, g1, g2, rfl⟩ := opt2_eq h2
  obtain ⟨i, j, g3, g4, rfl⟩ := opt2_eq g1
  obtain ⟨u, v, g5, g6, rfl⟩ := opt2_eq g2
  exact t_par (idx_eq g3) (idx_eq g4) d.1.1 d.1.2 d.2 c1 c2 c3 c4 c5 c6 c7 c8 c9 (hf _ _ g5) (hf _ _ g6)
theorem cAsgC_ok (K : Kn C k ce) {n : Nat} {x : Str} {elt : Expr} {gs : List Comprehension} {scope : Scope} {p2 : Pos} {m : Sm} (h : cAsgC n ce sc st pi x p.line elt gs scope p2.line = some m) : S1 C k ce.N sc st pi (.Assign [.Name x p] (.ListComp elt gs scope p2) pos) m := by
  unfold cAsgC at h
  split at h
  · rename_i g hg
    have e1 := one_eq hg
    subst e1
    split at h
    · rename_i cnd
      obtain ⟨c, h⟩ := chkO_eq h
      obtain ⟨q, h1, h2⟩ := bindO h
      obtain ⟨hp, h2⟩ := chkO_eq h2
      cases h2
      obtain ⟨i, z, a1, a2, rfl⟩ := opt2_eq h1
      obtain ⟨iE, iT, iC, iG, iS⟩ := c_ok n K
      refine t_setL ?_ (idx_eq a1) (of_decide_eq_true c) (of_decide_eq_true hp) (iC _ _ _ _ _ _ _ a2)
      rw [Bool.or_eq_true, decide_eq_true_eq, Bool.not_eq_true'] at cnd
      exact cnd
    obtain ⟨c, h⟩ := chkO_eq h
    simp only [Bool.and_eq_true, decide_eq_true_eq, Bool.not_eq_true'] at c
    obtain ⟨⟨⟨c1, c2⟩, c3⟩, c4⟩ := c
    obtain ⟨q, h1, h2⟩ := bindO h
    obtain ⟨hp, h2⟩ := chkO_eq h2
    cases h2
    obtain ⟨i, z, a1, a2, rfl⟩ := opt2_eq h1
    cases n with
    | zero => simp [cC] at a2
    | succ n =>
      obtain ⟨iE, iT, iC, iG, iS⟩ := c_ok n K
      simp only [cC] at a2
      obtain ⟨b1, b2⟩ := chkO_eq a2
      simp only [Bool.and_eq_true] at b1
      obtain ⟨⟨⟨d1, d2⟩, d3⟩, d4⟩ := b1
      obtain ⟨q, hq, b3⟩ := bindO b2
      obtain ⟨hw, b4⟩ := chkO_eq b3
      obtain ⟨it, p', q1, q2, rfl⟩ := opt2_eq hq
      obtain ⟨t, p', q3, q4, rfl⟩ := opt2_eq q2
      obtain ⟨cs, ie', q5, q6, rfl⟩ := opt2_eq q4
      cases b4
      obtain ⟨tg, iter, ifs, asy⟩ := g
      have e0 : asy = 0 := of_decide_eq_true d1
      subst e0
      rw [List.all_eq_true] at hw
      refine t_setC (st' := (ownOf ce.N scope).map (·.1)) (idx_eq a1) (of_decide_eq_true hp) c1 c2 c3 c4 (fun i hi => of_decide_eq_true (hw i hi)) d3 (nfs_ok d2) (fun x hx => ?_) (cIt_ok K (iE sc st) q1) (cTg_ok q3) (iS _ _ _ _ q5) (iE _ _ _ _ q6)
      unfold ownC at d4
      rw [List.all_eq_true] at d4
      have z := d4 x hx
      rw [Bool.and_eq_true, Bool.or_eq_true] at z
      exact ⟨locB_eq z.1, z.2.imp id fun w => of_decide_eq_true w⟩
  · cases h
theorem cExp0_ok (K : Kn C k ce) (hf : ∀ e ie, f e = some ie → SE C k ce.N sc st e ie) {e : Expr} {m : Sm} (h : cExp0 f ce sc e = some m) : S1 C k ce.N sc st pi (.Expr e pos) m := by
  unfold cExp0 at h
  split at h
  · rename_i o mm es l l2 hm
    unfold isMeth at hm
    split at hm
    · cases hm
      unfold cMeth at h
      split at h
      · rename_i a hes
        have e1 := one_eq hes
        subst e1
        obtain ⟨c, h1⟩ := chkO_eq h
        simp only [Bool.and_eq_true] at c
        clear h
        split at h1
        · rename_i em; subst em
          obtain ⟨q, z, a1, a2, rfl⟩ := opt2_eq h1
          exact t_app c.1.1 c.1.2 rfl c.2 (cP_ok K hf a1) (hf _ _ a2)
        · split at h1
          · rename_i em; subst em
            obtain ⟨q, z, a1, a2, rfl⟩ := opt2_eq h1
            exact t_pop1 c.1.1 c.1.2 rfl c.2 (cP_ok K hf a1) (hf _ _ a2)
          · cases h1
      · cases h
    · cases hm
  · split at h
    · rename_i hd
      unfold isDoc at hd
      split at hd
      · cases h; exact t_doc
      · cases hd
    · obtain ⟨hn, h⟩ := chkO_eq h
      obtain ⟨z, h1, rfl⟩ := map_some h
      exact t_exp hn (hf _ _ h1)
theorem cRet_ok (hf : ∀ e ie, f e = some ie → SE C k ce.N sc st e ie) {e : Option Expr} {m : Sm} (h : cRet f ce sc pi e = some m) : S1 C k ce.N sc st pi (.Return e pos) m := by
  unfold cRet at h
  split at h
  · cases h; exact t_rtn
  · split at h
    · rename_i hv
      obtain ⟨i, h1, h2⟩ := bindO h
      obtain ⟨hp, h2⟩ := chkO_eq h2
      cases h2
      obtain ⟨hd, h1⟩ := chkO_eq h1
      unfold ndB at hd
      simp only [Bool.and_eq_true, Bool.not_eq_true'] at hd
      exact t_rtv (idx_eq h1) (visB_eq hv) (of_decide_eq_true hp) hd.1 hd.2
    · obtain ⟨z, h1, rfl⟩ := map_some h
      exact t_ret (hf _ _ h1)
  · obtain ⟨z, h1, rfl⟩ := map_some h
    exact t_ret (hf _ _ h1)
end
theorem cRais_ok {C : Cf} {k : Nat} {ce : CE} {sc : Scope} {st : List Str} {pi : List Nat} {pos : Pos} (K : Kn C k ce) {e c : Option Expr} : S1 C k ce.N sc st pi (.Raise e c pos) (cRais ce sc e c) := by
  unfold cRais
  split
  · rename_i x hr
    unfold isRais at hr
    split at hr
    · cases hr
      split
      · rename_i j ys ns hl
        split
        · rename_i hc
          rw [Bool.and_eq_true, decide_eq_true_eq] at hc
          obtain ⟨g1, g2, _⟩ := glB_eq hc.1
          exact t_rais g1 (K.ex _ _ _ _ hl).1 g2 (K.rs _ hc.2)
        · exact t_nev
      · exact t_nev
    · cases hr
  · exact t_nev
theorem cX_ok {C : Cf} {k : Nat} {ce : CE} {sc : Scope} {i : Nat} {m : Str} (K : Kn C k ce) : ∀ (n : Nat) {e : Expr} {xb : Xb}, cX n ce sc i m e = some xb → SX C ce.N sc i e xb := by
  intro n e
  induction n, ce, sc, i, m, e using cX.induct with
  | case1 => intro xb h; rw [cX] at h; cases h
  | case2 _ ce sc _ _ y _ =>
    intro xb h
    rw [cX] at h
    obtain ⟨c, h⟩ := chkO_eq h
    obtain ⟨j, h1, rfl⟩ := map_some h
    unfold ndB at c
    simp only [Bool.and_eq_true, Bool.not_eq_true'] at c
    exact x_var (idx_eq h1) (visB_eq c.1) c.2.1 c.2.2
  | case3 => intro xb h; rw [cX] at h; cases h; exact x_bl
  | case4 n ce sc i m a _ ih =>
    intro xb h
    rw [cX] at h
    obtain ⟨x, h1, rfl⟩ := map_some h
    exact x_not (ih K h1)
  | case5 n ce sc i m a _ ih =>
    intro xb h
    rw [cX] at h
    exact x_one (ih K h)
  | case6 n ce sc i m a b r p ih1 ih2 =>
    intro xb h
    rw [cX] at h
    obtain ⟨x, y, h1, h2, rfl⟩ := opt2_eq h
    exact x_and (ih1 K h1) (ih2 K h2)
  | case7 _ ce sc i m f _ u _ y _ _ =>
    intro xb h
    rw [cX] at h
    obtain ⟨c, h2⟩ := chkO_eq h
    clear h
    simp only [Bool.and_eq_true, decide_eq_true_eq] at c
    obtain ⟨⟨⟨⟨⟨⟨rfl, c2⟩, rfl⟩, c4⟩, c5⟩, c6⟩, c7⟩ := c
    unfold ndB at c5
    simp only [Bool.and_eq_true, Bool.not_eq_true'] at c5
    split at h2
    · rename_i j ys ns hl
      cases h2
      obtain ⟨z1, z2, z3, z4, z5⟩ := K.ex _ _ _ _ hl
      obtain ⟨g1, g2, _⟩ := glB_eq c7
      exact x_isE (glB_eq c2).1 (K.bl _ (by decide)) (idx_eq c6) (visB_eq c4) c5.1 c5.2 g1 z1 g2 z2 z3 z5
    · cases h2
  | case8 => intro xb h; rw [cX] at h <;> first | (cases h; done) | assumption
/-! ### they are sound -/
section
variable {C : Cf} {k : Nat} {ce : CE} {sc : Scope} {st : List Str} {pi : List Nat} {f : Expr → Option Ex} {g : Expr → Option Xe} {pos p : Pos}
theorem cArs_ok (K : Kn C k ce) (hf : ∀ e ie, f e = some ie → SE C k ce.N sc st e ie) {is : List Nat} : ∀ {es : List Expr} {j : Nat} {as : List Ar}, cArs f ce sc is j es = some as → es.all nst = true → SAr C k ce.N sc st es as
  | [], j, as, h, _ => by simp only [cArs, Option.some.injEq] at h; subst h; exact ar_nil
  | e :: es, j, as, h, n => by
    rw [List.all_cons, Bool.and_eq_true] at n
    simp only [cArs] at h
    split at h
    · obtain ⟨q, as', h1, h2, rfl⟩ := opt2_eq h
      exact ar_mu n.1 (cP_ok K hf h1) (cArs_ok K hf h2 n.2)
    · obtain ⟨z, as', h1, h2, rfl⟩ := opt2_eq h
      exact ar_pu n.1 (hf _ _ h1) (cArs_ok K hf h2 n.2)
theorem cArs_len (K : Kn C k ce) {is : List Nat} : ∀ {es : List Expr} {j : Nat} {as : List Ar}, cArs f ce sc is j es = some as → as.length = es.length
  | [], j, as, h => by simp only [cArs, Option.some.injEq] at h; subst h; rfl
  | e :: es, j, as, h => by
    simp only [cArs] at h
    split at h
    · obtain ⟨q, as', h1, h2, rfl⟩ := opt2_eq h
      simp [cArs_len K h2]
    · obtain ⟨z, as', h1, h2, rfl⟩ := opt2_eq h
      simp [cArs_len K h2]
theorem cBoolX_ok {f : Expr → Option Xt} (hf : ∀ e ie, f e = some ie → SXt C k ce.N sc st pi e ie) {op : BoolOp} : ∀ {es : List Expr} {xt : Xt}, cBoolX f op es = some xt → SXw C k ce.N sc st pi (.BoolOp op es pos) xt
  | [], _, h => by cases h
  | [a], _, h => by
    cases op
    · exact xw_and1 (hf _ _ h)
    · exact xw_or1 (hf _ _ h)
  | a :: b :: r, ie, h => by
    obtain ⟨x, y, h1, h2, rfl⟩ := opt2_eq h
    cases op
    · exact xw_and (hf _ _ h1) (cBoolX_ok hf h2)
    · exact xw_or (hf _ _ h1) (cBoolX_ok hf h2)
theorem cXcmp_ok (hf : ∀ e ie, f e = some ie → SE C k ce.N sc st e ie) (hg : ∀ e xe, g e = some xe → SXe C k ce.N sc st pi e xe) {a : Expr} {ops : List CmpOp} {es : List Expr} {xe : Xe} (h : cXcmp f g a ops es = some xe) :
    SXe C k ce.N sc st pi (.Compare a ops es pos) xe ∧ SXt C k ce.N sc st pi (.Compare a ops es pos) (.val xe) := by
  unfold cXcmp at h
  split at h
  · rename_i o b ho hb
    have e1 := one_eq ho
    have e2 := one_eq hb
    subst e1 e2
    obtain ⟨hm, h2⟩ := chkO_eq h
    clear h
    have hm : behindInMarks o b = false := by simpa using hm
    obtain ⟨p, h3, h4⟩ := bindO h2
    obtain ⟨x, xa, h5, h6, rfl⟩ := opt2_eq h3
    obtain ⟨R⟩ := cop_ok (C := C) (k := k) h5
    dsimp only at h4
    split at h4
    · rename_i ib hib
      cases h4
      exact ⟨x_cmp R (hg _ _ h6) (hf _ _ hib) hm, xt_cmp R (hg _ _ h6) (hf _ _ hib) hm⟩
    · obtain ⟨xb, h7, rfl⟩ := map_some h4
      exact ⟨x_cmpX R (hg _ _ h6) (hg _ _ h7) hm, xt_cmpX R (hg _ _ h6) (hg _ _ h7) hm⟩
  · cases h
theorem cXfn_ok (K : Kn C k ce) (hf : ∀ e ie, f e = some ie → SE C k ce.N sc st e ie) (hg : ∀ e xe, g e = some xe → SXe C k ce.N sc st pi e xe) {x : Str} {e : Expr} {es : List Expr} {xe : Xe} (h : cXfn f g ce sc x e es = some xe) :
    SXe C k ce.N sc st pi (.Call (.Name x p) (e :: es) [] pos) xe := by
  unfold cXfn at h
  split at h
  · rename_i j np is hx
    obtain ⟨hc, h2⟩ := chkO_eq h
    clear h
    rw [Bool.and_eq_true] at hc
    obtain ⟨as, h3, h4⟩ := bindO h2
    obtain ⟨hq, h5⟩ := chkO_eq h4
    cases h5
    simp only [Bool.and_eq_true, decide_eq_true_eq] at hq
    obtain ⟨rfl, rfl⟩ := hq
    obtain ⟨fa, fd, ps, kl, F, hk, hb, hm, kp⟩ := K.fm _ _ _ _ hx
    obtain ⟨g1, g2, _⟩ := glB_eq hc.1
    exact e_call F (by omega) hb g1 hm kp g2 hc.2 (cArs_ok K hf h3 hc.2)
  · split at h
    · rename_i a ha
      have e1 := one_eq ha
      simp only [List.cons.injEq] at e1
      obtain ⟨rfl, rfl⟩ := e1
      obtain ⟨hc, h2⟩ := chkO_eq h
      clear h
      simp only [Bool.and_eq_true, decide_eq_true_eq] at hc
      obtain ⟨⟨rfl, c2⟩, c3⟩ := hc
      obtain ⟨xa, h3, rfl⟩ := map_some h2
      obtain ⟨g1, g2, g3⟩ := glB_eq c2
      exact x_biB B_len g1 (K.bl _ (by decide)) (by decide +kernel) c3 g3 g2 (hg _ _ h3)
    · cases h
theorem cXme_ok (K : Kn C k ce) (hf : ∀ e ie, f e = some ie → SE C k ce.N sc st e ie) {o : Expr} {m : Str} {es : List Expr} {apos cpos : Pos} {xe : Xe} (h : cXme f ce sc o m es apos.endLine cpos.line = some xe) :
    SXe C k ce.N sc st pi (.Call (.Attribute o m apos) es [] cpos) xe := by
  unfold cXme at h
  split at h
  · rename_i c j np is hx
    obtain ⟨hc, h2⟩ := chkO_eq h
    clear h
    simp only [Bool.and_eq_true, decide_eq_true_eq] at hc
    obtain ⟨⟨⟨c1, c2⟩, c3⟩, c4⟩ := hc
    obtain ⟨q, h3, h4⟩ := bindO h2
    obtain ⟨hq, h5⟩ := chkO_eq h4
    cases h5
    obtain ⟨y, as, h6, h7, rfl⟩ := opt2_eq h3
    simp only [Bool.and_eq_true, decide_eq_true_eq] at hq
    obtain ⟨rfl, rfl⟩ := hq
    obtain ⟨fa, fd, ps, kl, M, F, hk, hb⟩ := K.mt _ _ _ _ _ hx
    have hl := cArs_len K h7
    cases es with
    | nil =>
      cases as with
      | nil => exact e_methN0 c1 (cP_ok K hf h6) (K.fa c) M F (by omega) hb c3
      | cons _ _ => simp at hl
    | cons e es => exact e_methN c1 (cP_ok K hf h6) (K.fa c) M F (by omega) hb (few_all c2 c4) c3 c2 (cArs_ok K hf h7 c2)
  · split at h
    · rename_i k' ha
      have e1 := one_eq ha
      subst e1
      obtain ⟨hc, h2⟩ := chkO_eq h
      clear h
      simp only [Bool.and_eq_true, decide_eq_true_eq] at hc
      obtain ⟨⟨⟨rfl, c2⟩, c3⟩, c4⟩ := hc
      obtain ⟨q, z, h3, h4, rfl⟩ := opt2_eq h2
      exact e_pop c2 c3 c4 (cP_ok K hf h3) (hf _ _ h4)
    · cases h
end
theorem two_eq {es : List Expr} {a b : Expr} (h : two? es = some (a, b)) : es = [a, b] := by
  unfold two? at h
  split at h
  · cases h; rfl
  · cases h
/-- what a comprehension's clause tells -/
theorem clause_ok {C : Cf} {k : Nat} {ce : CE} {sc scope : Scope} (h : ownC sc scope ((ownOf ce.N scope).map (·.1)) = true) : ∀ x ∈ (ownOf ce.N scope).map (·.1), L2.Loc (relS scope sc) x ∧ ((scope.names.lookup x == some NameKind.cell) = true ∨ (relS scope sc).names.lookup x = some NameKind.local) := fun x hx => by
  unfold ownC at h
  rw [List.all_eq_true] at h
  have z := h x hx
  rw [Bool.and_eq_true, Bool.or_eq_true] at z
  exact ⟨locB_eq z.1, z.2.imp id fun w => of_decide_eq_true w⟩
theorem cx_ok : ∀ (n : Nat) {C : Cf} {k : Nat} {ce : CE} (K : Kn C k ce), (∀ sc st pi e xe, cXe n ce sc e = some xe → SXe C k ce.N sc st pi e xe) ∧ (∀ sc st pi e xe, cXv n ce sc e = some xe → SXe C k ce.N sc st pi e xe) ∧ (∀ sc st pi e xt, cXt n ce sc e = some xt → SXt C k ce.N sc st pi e xt) ∧ (∀ sc st pi e xt, cXt1 n ce sc e = some xt → SXt C k ce.N sc st pi e xt) ∧
    (∀ sc st pi elt g scope pos xe, cXC n ce sc elt g scope = some xe → SXe C k ce.N sc st pi (.ListComp elt [g] scope pos) xe) ∧ (∀ sc st pi es xt, cXcs n ce sc es = some xt → SCx C k ce.N sc st pi es xt)
  | 0, _, _, _, _ => ⟨fun _ _ _ _ _ h => by simp [cXe] at h, fun _ _ _ _ _ h => by simp [cXv] at h, fun _ _ _ _ _ h => by simp [cXt] at h, fun _ _ _ _ _ h => by simp [cXt1] at h, fun _ _ _ _ _ _ _ _ h => by simp [cXC] at h, fun _ _ _ _ _ h => by simp [cXcs] at h⟩
  | n + 1, C, k, ce, K => by
    obtain ⟨jE, jV, jT, jT1, jC, jS⟩ := cx_ok n K
    obtain ⟨iE, iT, iC, iG, iS⟩ := c_ok n K
    refine ⟨fun sc st pi e xe h => ?_, fun sc st pi e xe h => ?_, fun sc st pi e xt h => ?_, fun sc st pi e xt h => ?_, fun sc st pi elt g scope pos xe h => ?_, fun sc st pi es xt h => ?_⟩
    · cases e <;> first | (simp [cXe] at h; done) | skip
      case Call fn es kws pos =>
        cases kws with
        | cons _ _ => cases fn <;> cases es <;> simp [cXe] at h
        | nil =>
        cases fn with
        | Name g p =>
          cases es with
          | nil => simp [cXe] at h
          | cons e es =>
            simp only [cXe] at h
            exact cXfn_ok K (iE sc st) (jE sc st pi) h
        | Attribute o m apos =>
          simp only [cXe] at h
          exact cXme_ok K (iE sc st) h
        | _ => cases es <;> simp [cXe] at h
      case Compare a ops es pos =>
        simp only [cXe] at h
        exact (cXcmp_ok (iE sc st) (jE sc st pi) h).1
      case Subscript a b pos =>
        simp only [cXe] at h
        obtain ⟨hn, h⟩ := chkO_eq h
        obtain ⟨xa, ib, h1, h2, rfl⟩ := opt2_eq h
        exact x_idx hn (jE _ _ _ _ _ h1) (iE _ _ _ _ h2)
      case Tuple es kk pos =>
        simp only [cXe] at h
        split at h
        · rename_i a b hes
          have e1 := two_eq hes
          subst e1
          obtain ⟨hn, h⟩ := chkO_eq h
          rw [Bool.and_eq_true] at hn
          obtain ⟨ia, xb, h1, h2, rfl⟩ := opt2_eq h
          exact x_tup1 hn.1 hn.2 (iE _ _ _ _ h1) (jE _ _ _ _ _ h2)
        · cases h
      case ListComp elt gs scope pos =>
        simp only [cXe] at h
        split at h
        · rename_i g hg
          have e1 := one_eq hg
          subst e1
          exact jC _ _ _ _ _ _ _ _ h
        · cases h
    · simp only [cXv] at h
      split at h
      · rename_i ie hie
        cases h
        exact x_pu (iE _ _ _ _ hie)
      · exact jE _ _ _ _ _ h
    · simp only [cXt] at h
      split at h
      · rename_i ie hie
        cases h
        exact xt_pu (iT _ _ _ _ hie)
      · exact jT1 _ _ _ _ _ h
    · have gen : chkO (tst e) ((cXe n ce sc e).map .val) = some xt → SXt C k ce.N sc st pi e xt := fun h => by
        obtain ⟨ht, h⟩ := chkO_eq h
        obtain ⟨xe, h1, rfl⟩ := map_some h
        exact xt_val (jE _ _ _ _ _ h1) ht
      cases e <;> first | (simp only [cXt1] at h; exact gen h) | skip
      · simp only [cXt1] at h
        exact xw_pt (cBoolX_ok (jT sc st pi) h)
      · rename_i op a _
        cases op <;> first | (simp only [cXt1] at h; exact gen h) | skip
        simp only [cXt1] at h
        obtain ⟨x, h1, rfl⟩ := map_some h
        exact xt_not (jT _ _ _ _ _ h1)
      · simp only [cXt1] at h
        obtain ⟨xe, h1, rfl⟩ := map_some h
        exact (cXcmp_ok (iE sc st) (jE sc st pi) h1).2
    · simp only [cXC] at h
      obtain ⟨h1, h2⟩ := chkO_eq h
      simp only [Bool.and_eq_true] at h1
      obtain ⟨⟨⟨a1, a2⟩, a3⟩, a4⟩ := h1
      obtain ⟨q, hq, h3⟩ := bindO h2
      obtain ⟨hw, h4⟩ := chkO_eq h3
      obtain ⟨it, p, q1, q2, rfl⟩ := opt2_eq hq
      obtain ⟨t, p, q3, q4, rfl⟩ := opt2_eq q2
      obtain ⟨xc, xa, q5, q6, rfl⟩ := opt2_eq q4
      cases h4
      obtain ⟨tg, iter, ifs, asy⟩ := g
      have e0 : asy = 0 := of_decide_eq_true a1
      subst e0
      rw [List.all_eq_true] at hw
      exact x_comp (st' := (ownOf ce.N scope).map (·.1)) (fun i hi => of_decide_eq_true (hw i hi)) a3 (nfs_ok a2) (clause_ok (C := C) (k := k) a4) (cIt_ok K (iE sc st) q1) (cTg_ok q3) (jS _ _ _ _ _ q5) (jV _ _ _ _ _ q6)
    · match es, h with
      | [], h => simp only [cXcs, Option.some.injEq] at h; subst h; exact cx_nil
      | [c], h =>
        simp only [cXcs] at h
        exact cx_one (jT _ _ _ _ _ h)
      | _ :: _ :: _, h => simp [cXcs] at h
section
variable {C : Cf} {k : Nat} {ce : CE} {sc : Scope} {st : List Str} {pi : List Nat} {f : Expr → Option Ex} {g : Expr → Option Xe} {pos p : Pos}
theorem cAppX_ok (hg : ∀ e xe, g e = some xe → SXe C k ce.N sc st pi e xe) {e : Expr} {m : Sm} (h : cAppX f g ce sc e = some m) : S1 C k ce.N sc st pi (.Expr e pos) m := by
  unfold cAppX at h
  split at h
  · obtain ⟨c, h2⟩ := chkO_eq h
    clear h
    simp only [Bool.and_eq_true, decide_eq_true_eq] at c
    obtain ⟨⟨⟨⟨⟨rfl, c3⟩, c4⟩, c6⟩, c7⟩, _⟩ := c
    obtain ⟨i, xe, a1, a2, rfl⟩ := opt2_eq h2
    unfold ndB at c4
    simp only [Bool.and_eq_true, Bool.not_eq_true'] at c4
    exact t_appX (idx_eq a1) (visB_eq c3) c4.1 c4.2 c6 rfl c7 (hg _ _ a2)
  · cases h
theorem cExp_ok (K : Kn C k ce) (hf : ∀ e ie, f e = some ie → SE C k ce.N sc st e ie) (hg : ∀ e xe, g e = some xe → SXe C k ce.N sc st pi e xe) {e : Expr} {m : Sm} (h : cExp f g ce sc e = some m) : S1 C k ce.N sc st pi (.Expr e pos) m := by
  unfold cExp at h
  split at h
  · rename_i m' hm
    cases h
    exact cAppX_ok hg hm
  · split at h
    · rename_i m' hm
      cases h
      exact cExp0_ok K hf hm
    · obtain ⟨hn, h2⟩ := chkO_eq h
      obtain ⟨xe, h3, rfl⟩ := map_some h2
      exact t_expX hn (hg _ _ h3)
theorem cRetX_ok (hf : ∀ e ie, f e = some ie → SE C k ce.N sc st e ie) (hg : ∀ e xe, g e = some xe → SXe C k ce.N sc st pi e xe) {e : Option Expr} {m : Sm} (h : cRetX f g ce sc pi e = some m) : S1 C k ce.N sc st pi (.Return e pos) m := by
  unfold cRetX at h
  split at h
  · exact cRet_ok hf h
  · split at h
    · rename_i m' hm
      cases h
      exact cRet_ok hf hm
    · obtain ⟨xe, h3, rfl⟩ := map_some h
      exact t_retX (hg _ _ h3)
theorem nmOf_ok {t : Expr} {x : Str} (h : nmOf t = some x) : ∃ q, t = .Name x q := by
  unfold nmOf at h
  split at h
  · cases h; exact ⟨_, rfl⟩
  · cases h
theorem atOf_ok {t o : Expr} {x : Str} (h : atOf? t = some (o, x)) : ∃ q, t = .Attribute o x q := by
  unfold atOf? at h
  split at h
  · cases h; exact ⟨_, rfl⟩
  · cases h
theorem cAsgX_ok (K : Kn C k ce) (hf : ∀ e ie, f e = some ie → SE C k ce.N sc st e ie) (hg : ∀ e xe, g e = some xe → SXe C k ce.N sc st pi e xe) {t e : Expr} {m : Sm} (h : cAsgX f g ce sc st pi t e = some m) : S1 C k ce.N sc st pi (.Assign [t] e pos) m := by
  unfold cAsgX at h
  split at h
  · rename_i m' hm
    cases h
    exact cAsg_ok K hf hm
  · split at h
    · rename_i x hx
      obtain ⟨q, rfl⟩ := nmOf_ok hx
      obtain ⟨xe, h1, h2⟩ := bindO h
      obtain ⟨c, h3⟩ := chkO_eq h2
      rw [Bool.and_eq_true] at c
      obtain ⟨i, h4, h5⟩ := bindO h3
      obtain ⟨hp, h6⟩ := chkO_eq h5
      cases h6
      exact t_setX c.1 (idx_eq h4) (of_decide_eq_true c.2) (of_decide_eq_true hp) (hg _ _ h1)
    · split at h
      · rename_i o x hx
        obtain ⟨q, rfl⟩ := atOf_ok hx
        obtain ⟨xe, h1, h2⟩ := bindO h
        obtain ⟨c, h3⟩ := chkO_eq h2
        obtain ⟨q, h4, rfl⟩ := map_some h3
        exact t_setFX K.fa (K.fb _ (of_decide_eq_true c)) (cP_ok K hf h4) (hg _ _ h1)
      · cases h
theorem cAsgCX_ok (K : Kn C k ce) {n : Nat} {x : Str} {elt : Expr} {gs : List Comprehension} {scope : Scope} {p2 : Pos} {m : Sm} (h : cAsgCX n ce sc st pi x p.line elt gs scope p2.line = some m) : S1 C k ce.N sc st pi (.Assign [.Name x p] (.ListComp elt gs scope p2) pos) m := by
  unfold cAsgCX at h
  split at h
  · rename_i g hg
    have e1 := one_eq hg
    subst e1
    split at h
    · rename_i cnd
      obtain ⟨c, h⟩ := chkO_eq h
      obtain ⟨q, h1, h2⟩ := bindO h
      obtain ⟨hp, h2⟩ := chkO_eq h2
      cases h2
      obtain ⟨i, z, a1, a2, rfl⟩ := opt2_eq h1
      obtain ⟨jE, jV, jT, jT1, jC, jS⟩ := cx_ok n K
      refine t_setXL ?_ (idx_eq a1) (of_decide_eq_true c) (of_decide_eq_true hp) (jC _ _ _ _ _ _ _ _ a2)
      rw [Bool.or_eq_true, decide_eq_true_eq, Bool.not_eq_true'] at cnd
      exact cnd
    obtain ⟨c, h⟩ := chkO_eq h
    simp only [Bool.and_eq_true, decide_eq_true_eq, Bool.not_eq_true'] at c
    obtain ⟨⟨⟨c1, c2⟩, c3⟩, c4⟩ := c
    obtain ⟨q, h1, h2⟩ := bindO h
    obtain ⟨hp, h2⟩ := chkO_eq h2
    cases h2
    obtain ⟨i, z, a1, a2, rfl⟩ := opt2_eq h1
    cases n with
    | zero => simp [cXC] at a2
    | succ n =>
      obtain ⟨jE, jV, jT, jT1, jC, jS⟩ := cx_ok n K
      obtain ⟨iE, iT, iC, iG, iS⟩ := c_ok n K
      simp only [cXC] at a2
      obtain ⟨b1, b2⟩ := chkO_eq a2
      simp only [Bool.and_eq_true] at b1
      obtain ⟨⟨⟨d1, d2⟩, d3⟩, d4⟩ := b1
      obtain ⟨q, hq, b3⟩ := bindO b2
      obtain ⟨hw, b4⟩ := chkO_eq b3
      obtain ⟨it, p', q1, q2, rfl⟩ := opt2_eq hq
      obtain ⟨t, p', q3, q4, rfl⟩ := opt2_eq q2
      obtain ⟨xc, xa, q5, q6, rfl⟩ := opt2_eq q4
      cases b4
      obtain ⟨tg, iter, ifs, asy⟩ := g
      have e0 : asy = 0 := of_decide_eq_true d1
      subst e0
      rw [List.all_eq_true] at hw
      exact t_setXC (st' := (ownOf ce.N scope).map (·.1)) (idx_eq a1) (of_decide_eq_true hp) c1 c2 c3 c4 (fun i hi => of_decide_eq_true (hw i hi)) d3 (nfs_ok d2) (clause_ok (C := C) (k := k) d4) (cIt_ok K (iE sc st) q1) (cTg_ok q3) (jS _ _ _ _ _ q5) (jV _ _ _ _ _ q6)
  · cases h
end
theorem b_ok {C : Cf} {k : Nat} {ce : CE} (K : Kn C k ce) : ∀ n, (∀ sc st pi s m, cS n ce sc st pi s = some m → S1 C k ce.N sc st pi s m) ∧ (∀ sc st pi ss ms, cB n ce sc st pi ss = some ms → SS C k ce.N sc st pi ss ms)
  | 0 => ⟨fun _ _ _ _ _ h => by simp [cS] at h, fun _ _ _ _ _ h => by simp [cB] at h⟩
  | n + 1 => by
    obtain ⟨jS, jB⟩ := b_ok K n
    obtain ⟨iE, iT, iC, iG, iS⟩ := c_ok n K
    obtain ⟨xE, xV, xT, xT1, xC, xS⟩ := cx_ok n K
    refine ⟨fun sc st pi s m h => ?_, fun sc st pi ss ms h => ?_⟩
    · cases s with
      | Assign ts e _ =>
        simp only [cS] at h
        split at h
        · rename_i t ht
          have e1 := one_eq ht
          subst e1
          split at h
          · rename_i elt gs scope l2 x l h1 h2
            unfold isLC at h1
            split at h1
            · cases h1
              unfold isNm at h2
              split at h2
              · cases h2
                split at h
                · rename_i m' hm
                  cases h
                  exact cAsgC_ok K hm
                · exact cAsgCX_ok K h
              · cases h2
            · cases h1
          · split at h
            · rename_i x l y l2 a b hp
              unfold isPar at hp
              split at hp
              · cases hp
                exact cPar_ok (iE sc st) h
              · cases hp
            · exact cAsgX_ok K (iE sc st) (xE sc st pi) h
        · cases h
      | Expr e _ => simp only [cS] at h; exact cExp_ok K (iE sc st) (xE sc st pi) h
      | Return e _ => simp only [cS] at h; exact cRetX_ok (iE sc st) (xE sc st pi) h
      | If c a b _ =>
        simp only [cS] at h
        obtain ⟨x, q, h1, h2, rfl⟩ := opt2_eq h
        obtain ⟨y, z, h3, h4, rfl⟩ := opt2_eq h2
        have hx : SXt C k ce.N sc st pi c x := (cx_ok (n + 1) K).2.2.1 _ _ _ _ _ h1
        have hX := t_iteX (pos := ‹Pos›) hx (jB _ _ _ _ _ h3) (jB _ _ _ _ _ h4)
        cases x with
        | pu ic =>
          have h1 : cXt (n + 1) ce sc c = some (.pu ic) := h1
          simp only [cXt] at h1
          split at h1
          · rename_i ie hie
            cases h1
            exact t_ite (iT sc st _ _ hie) (jB _ _ _ _ _ h3) (jB _ _ _ _ _ h4)
          · exact t_iteP hX
        | _ => exact hX
      | While c b els _ =>
        simp only [cS] at h
        obtain ⟨he, h⟩ := chkO_eq h
        obtain ⟨x, y, h1, h2, rfl⟩ := opt2_eq h
        cases els with
        | nil => exact t_wh ((cx_ok (n + 1) K).2.2.1 _ _ _ _ _ h1) (jB _ _ _ _ _ h2)
        | cons _ _ => cases he
      | AugAssign t op e _ =>
        cases t <;> first | (cases op <;> simp [cS] at h; done) | skip
        cases op <;> first | (simp [cS] at h; done) | skip
        simp only [cS] at h
        obtain ⟨hx, h⟩ := chkO_eq h
        obtain ⟨q, h1, h2⟩ := bindO h
        obtain ⟨hp, h2⟩ := chkO_eq h2
        cases h2
        obtain ⟨i, z, a1, a2, rfl⟩ := opt2_eq h1
        exact t_aug (idx_eq a1) (of_decide_eq_true hx) (of_decide_eq_true hp) (iE _ _ _ _ a2)
      | For t it b els _ =>
        simp only [cS] at h
        obtain ⟨q, h1, h2⟩ := bindO h
        obtain ⟨hp, h2⟩ := chkO_eq h2
        cases h2
        obtain ⟨c, h1⟩ := chkO_eq h1
        rw [Bool.and_eq_true] at c
        obtain ⟨x, q, h3, h4, rfl⟩ := opt2_eq h1
        obtain ⟨y, z, h5, h6, rfl⟩ := opt2_eq h4
        cases els with
        | nil => exact t_for (out_ok hp) (nfs_ok c.2) (cIt_ok K (iE sc st) h5) (cTg_ok h3) (jB _ _ _ _ _ h6)
        | cons _ _ => cases c.1
      | Pass _ => simp only [cS, Option.some.injEq] at h; subst h; exact t_pass
      | Break _ => simp only [cS, Option.some.injEq] at h; subst h; exact t_brk
      | Continue _ => simp only [cS, Option.some.injEq] at h; subst h; exact t_cnt
      | Raise e c _ => simp only [cS, Option.some.injEq] at h; subst h; exact cRais_ok K
      | Try b hs els fin _ =>
        simp only [cS] at h
        split at h
        · rename_i x m e ht
          unfold isTry at ht
          split at ht
          · cases ht
            split at h
            · rename_i j ys ns i hl hi
              obtain ⟨c, h1⟩ := chkO_eq h
              simp only [Bool.and_eq_true, decide_eq_true_eq] at c
              obtain ⟨mb, xb, h2, h3, rfl⟩ := opt2_eq h1
              obtain ⟨z1, z2, z3, z4, z5⟩ := K.ex _ _ _ _ hl
              obtain ⟨g1, g2, _⟩ := glB_eq c.1.1
              exact t_try (jB _ _ _ _ _ h2) (idx_eq hi) c.1.2 c.2 g1 z1 g2 z4 (cX_ok K _ h3)
            · cases h
          · cases ht
        · cases h
      | _ => simp [cS] at h
    · cases ss with
      | nil => simp only [cB, Option.some.injEq] at h; subst h; exact ss_z
      | cons s ss =>
        simp only [cB] at h
        obtain ⟨x, y, h1, h2, rfl⟩ := opt2_eq h
        exact ss_c (jS _ _ _ _ _ h1) (jB _ _ _ _ _ h2)
end Pu

set_option Elab.async false
set_option linter.all false
set_option maxRecDepth 100000
set_option maxHeartbeats 2000000
/-! Pu22: the end of a law. -/
namespace Pu
open PySem PySem.Spec PyProof.Rows L2
theorem law_G {P : Program} {w : World} {K : PySem.W.Frag} {mg mb : Str → Option Value} {CX : CXT} {fa a : Addr} {cs : List (Addr × Addr)} {s₁ : Shared} {vs : List Value} {ns : List Int}
    (yK : K.In s₁.heap) (yns : s₁.heap.Ns mainGlobals mg) (yb : s₁.heap.Ns builtinsNs mb) (ybb : ∀ x : Str, x ≠ "__name__" → mb x = bootBuiltins x) (yl : s₁.heap.NoLimit) (yg : s₁.gens = #[])
    (yT : ∀ p ∈ cs, s₁.heap.get? p.2 = some { cls := .none, data := .fields #[] }) (yN : ∀ p ∈ cs, K.lookup p.2 = none) (yC : ∀ p ∈ cs, PySem.W.CodeHd s₁.heap p.1 p.2)
    (ym : ∃ (bm : Addr) (ob : Obj), mg "__builtins__" = some (.ref bm) ∧ bm ≠ builtinsNs ∧ s₁.heap.get? bm = some ob ∧ ob.cls = .type "module" ∧ ob.dict = some builtinsNs ∧ ob.data = .plain)
    (ya : s₁.heap.get? a = some { cls := .type "list", data := .seq vs.toArray }) (yi : IntsAre vs ns) (yh : ns.length ≤ sizeLine) 
    (F : ∀ base : Heap, K.In base → base.Ns mainGlobals mg → (∀ p ∈ cs, GxR.TabB base mg p.1 p.2) → ∀ H : Hp, Env0 P w K mg base callerA [] s₁ H → (∀ p ∈ cs, H p.2 = some (.tbl #[])) → SqL K H a (ns.map V.int) → Vals [V.ref a] [Value.ref a] → codeAny (model P w) callerA (.call (.ref fa) ⟨[.ref a], []⟩) (CR CX [] P w H s₁ (fun v _ => v = .bl true) fun _ _ _ => False) s₁)
    (yX : ∀ H ee s', CX [] H s₁ (fun _ _ _ => False) ee s' → False) :
    codeAny (model P w) callerA (.call (.ref fa) ⟨[.ref a], []⟩) (fun r s' => r = .ok (.ret (.bool true)) ∧ OldK s₁.heap s'.heap ∧ s'.os = s₁.os ∧ AllBare s'.gens) s₁ := by
  have yrv := vals_ints yi
  have ylen := yi.length
  have isY : ∀ b : Addr, b ∈ cs.map (·.2) → s₁.heap.get? b = some { cls := .none, data := .fields #[] } := fun b yb => by
    obtain ⟨p, hp, ee⟩ := List.mem_map.mp yb
    rw [← ee]
    exact yT p hp
  have aY : a ∉ cs.map (·.2) := fun zz => by
    have qq := isY a zz
    rw [ya] at qq
    have zz' : Data.seq vs.toArray _ = Data.fields #[] := congrArg Obj.data (Option.some.inj qq)
    cases zz'
  have memY : ∀ p ∈ cs, p.2 ∈ cs.map (·.2) := fun p hp => List.mem_map.mpr ⟨p, hp, rfl⟩
  -- from an abstract heap in which nothing but the script and the tables may be tracked
  have kern : ∀ H : Hp, (∀ p ∈ cs, H p.2 = some (.tbl #[])) → (∀ b, H b = none ∨ b ∈ cs.map (·.2) ∨ ∃ o xs, H b = some (.frz o (.lst xs))) → SqL K H a (ns.map V.int) → HOk P w H s₁.heap → (∀ b, H b ≠ none → b = a ∨ b ∈ cs.map (·.2)) → (H a ≠ none → K.lookup a = none) →
      codeAny (model P w) callerA (.call (.ref fa) ⟨[.ref a], []⟩) (fun r s' => r = .ok (.ret (.bool true)) ∧ OldK s₁.heap s'.heap ∧ s'.os = s₁.os ∧ AllBare s'.gens) s₁ := by
    intro H yH yO yS yok yA yK2
    have bsof : ∀ {b : Addr} {o : Obj}, s₁.heap.get? b = some o → H b = none → (hidT s₁.heap H).get? b = some o := fun ee n => hidT_get ee n
    have nod : ∀ {b : Addr} {o : Obj}, s₁.heap.get? b = some o → (∀ vs n, o.data ≠ .seq vs n) → o.data ≠ .fields #[] → H b = none := fun {b o} ee h1 h2 => by
      cases qq : H b with
      | none => rfl
      | some u =>
        rcases yA b (by rw [qq]; simp) with e' | e'
        · rw [e', ya] at ee
          cases ee
          exact (h1 _ _ rfl).elim
        · rw [isY b e'] at ee
          cases ee
          exact (h2 rfl).elim
    have noa : ∀ {b : Addr} {o : Obj} {es : Array DictEntry} {ep : Nat}, s₁.heap.get? b = some o → o.data = .dict es ep → H b = none := fun {b o es ep} ee d => by
      refine nod ee (fun vs n zz => ?_) fun zz => ?_
      · rw [d] at zz
        cases zz
      · rw [d] at zz
        cases zz
    have nsy : ∀ {b : Addr} {m : Str → Option Value}, s₁.heap.Ns b m → (hidT s₁.heap H).Ns b m := fun {b m} ⟨o, es, ep, ee, d, r⟩ => ⟨o, es, ep, bsof ee (noa ee d), d, r⟩
    have ykb : K.In (hidT s₁.heap H) := fun b o ee => bsof (yK b o ee) (by
      cases qq : H b with
      | none => rfl
      | some u =>
        rcases yA b (by rw [qq]; simp) with e' | e'
        · rw [e'] at ee qq
          rw [yK2 (by rw [qq]; simp)] at ee
          cases ee
        · obtain ⟨p, hp, ep⟩ := List.mem_map.mp e'
          rw [← ep, yN p hp] at ee
          cases ee)
    have yM : L2.Mod K mg (hidT s₁.heap H) := ⟨ykb, nsy yns, ⟨mb, nsy yb, ybb⟩, let ⟨mc, h1, h2⟩ := yl; ⟨mc, nsy h1, h2⟩⟩
    have yTB : ∀ p ∈ cs, GxR.TabB (hidT s₁.heap H) mg p.1 p.2 := fun p hp => by
      have hTp := yT p hp
      refine ⟨?_, ?_, fun zz => ?_⟩
      · obtain ⟨o, us, file, tf, flags, tg, inF, text, tt, e1, r1, r2, r3, r4, r5, r6, r7, r8, hne⟩ := yC p hp
        refine ⟨o, us, file, tf, flags, tg, inF, text, tt, bsof e1 (nod e1 (fun vs n zz => ?_) fun zz => ?_), r1, r2, r3, r4, r5, r6, r7, r8, hne⟩
        · rw [r2] at zz
          cases zz
        · rw [r2] at zz
          cases zz
          simp at r3
      · obtain ⟨bm, ob, b1, b2, b3, b4, b5, b6⟩ := ym
        have nG : bm ≠ mainGlobals := fun qq => by
          obtain ⟨o, es, ep, ee, yd, _⟩ := yns
          rw [qq, ee] at b3
          cases b3
          rw [yd] at b6
          cases b6
        have nP : bm ≠ p.2 := fun qq => by
          rw [qq, hTp] at b3
          cases b3
          cases b6
        refine ⟨bm, ob, b1, b2, nG, nP, bsof b3 (nod b3 (fun vs n zz => ?_) fun zz => ?_), b4, b5, b6⟩
        · rw [b6] at zz
          cases zz
        · rw [b6] at zz
          cases zz
      · obtain ⟨o, es, ep, ee, yd, _⟩ := yns
        rw [zz, hTp] at ee
        cases ee
        cases yd
    have y0 : Env0 P w K mg (hidT s₁.heap H) callerA [] s₁ H := ⟨rfl, yM, fun b o ee => of_hidT ee, Nat.le_of_eq (hidT_size _ _), trivial, fun b yb => absurd (show b ∈ ([] : List Addr) from yb) (by simp), yok, .of_eq yg⟩
    refine codeAny_mono (F _ ykb (nsy yns) yTB H y0 yH yS (.cons rfl .nil)) fun r s' h => ?_
    cases r with
    | error ee => exact (yX H ee s' h).elim
    | ok fl =>
      cases fl with
      | next => exact False.elim h
      | brk => exact False.elim h
      | cont => exact False.elim h
      | ret u =>
        obtain ⟨v, H', os, bare, un, hok', r', qq⟩ := h
        have q' : v = .bl true := qq
        subst q'
        obtain rfl : u = Value.bool true := r'
        have kst : ∀ b o, b ∉ cs.map (·.2) → s₁.heap.get? b = some o → s'.heap.get? b = some o := fun b o nb ee => by
          cases qq : H b with
          | none => exact un.keep b o ee qq (by intro zz; exact absurd (show b ∈ ([] : List Addr) from zz) (by simp)) (by simp)
          | some u =>
            rcases yO b with zz | zz | ⟨ob, xs, zz⟩
            · rw [qq] at zz; cases zz
            · exact absurd zz nb
            · have z2 := un.frzs b ob _ zz
              obtain ⟨e1, _⟩ := yok b _ zz
              obtain ⟨e2, _⟩ := hok' b _ z2
              rw [ee] at e1; cases e1
              exact e2
        have grw : ∀ p ∈ cs, ∃ more : Array Value, s'.heap.get? p.2 = some { cls := .none, data := .fields more } := fun p hp => by
          obtain ⟨more, zz⟩ := un.tbls p.2 #[] (yH p hp)
          exact ⟨_, hok' p.2 _ zz⟩
        refine ⟨rfl, ⟨fun b o ee => ?_, fun b o ee => ?_⟩, os, bare⟩
        · by_cases yb : b ∈ cs.map (·.2)
          · obtain ⟨p, hp, ep⟩ := List.mem_map.mp yb
            obtain ⟨more, yhm⟩ := grw p hp
            rw [← ep] at ee ⊢
            rw [yT p hp] at ee
            cases ee
            exact .inr (.inl ⟨((yC p hp).tab (yT p hp)).isCodeTable, rfl, #[], more, rfl, by rw [Array.empty_append]; exact yhm⟩)
          · exact .inl (kst b o yb ee)
        · by_cases yb : b ∈ cs.map (·.2)
          · obtain ⟨p, hp, ep⟩ := List.mem_map.mp yb
            obtain ⟨more, yhm⟩ := grw p hp
            rw [← ep]
            exact ⟨_, yhm⟩
          · exact ⟨o, kst b o yb ee⟩
  cases yk : K.lookup a with
  | some o =>
    have ee := yK a o yk
    rw [ya] at ee
    cases ee
    refine kern (fun b => if b ∈ cs.map (·.2) then some (.tbl #[]) else none) (fun p hp => if_pos (memY p hp)) (fun b => ?_) (.inr ⟨_, vs.toArray, _, yk, rfl, rfl, rfl, by rw [List.size_toArray, ylen]; exact yh, by simpa using yrv⟩) (fun b u zz => ?_) (fun b zz => ?_) fun zz => absurd (show (if a ∈ cs.map (·.2) then some (HO.tbl #[]) else none) = none from if_neg aY) zz
    · by_cases yb : b ∈ cs.map (·.2)
      · exact .inr (.inl yb)
      · exact .inl (if_neg yb)
    · by_cases yb : b ∈ cs.map (·.2)
      · have zz' := (if_pos yb).symm.trans zz
        cases zz'
        exact isY b yb
      · have zz' := (if_neg yb).symm.trans zz
        cases zz'
    · by_cases yb : b ∈ cs.map (·.2)
      · exact .inr yb
      · exact absurd (if_neg yb) zz
  | none =>
    refine kern (fun b => if b = a then some (.frz { cls := .type "list", data := .seq vs.toArray } (.lst (ns.map V.int))) else if b ∈ cs.map (·.2) then some (.tbl #[]) else none) (fun p hp => (if_neg (show ¬ p.2 = a from fun zz => aY (by rw [← zz]; exact memY p hp))).trans (if_pos (memY p hp))) (fun b => ?_)
      (.inl (.inr ⟨{ cls := .type "list", data := .seq vs.toArray }, if_pos rfl⟩)) (fun b u zz => ?_) (fun b zz => ?_) fun _ => yk
    · by_cases yb : b = a
      · exact .inr (.inr ⟨_, _, if_pos yb⟩)
      · by_cases hb2 : b ∈ cs.map (·.2)
        · exact .inr (.inl hb2)
        · exact .inl ((if_neg yb).trans (if_neg hb2))
    · by_cases yb : b = a
      · have zz' := (if_pos yb).symm.trans zz
        cases zz'
        rw [yb]
        exact ⟨ya, by rw [List.length_map]; exact yh, vs, _, yrv, ya⟩
      · have z1 := (if_neg yb).symm.trans zz
        by_cases hb2 : b ∈ cs.map (·.2)
        · have zz' := (if_pos hb2).symm.trans z1
          cases zz'
          exact isY b hb2
        · have zz' := (if_neg hb2).symm.trans z1
          cases zz'
    · by_cases yb : b = a
      · exact .inl yb
      · by_cases hb2 : b ∈ cs.map (·.2)
        · exact .inr hb2
        · exact absurd ((if_neg yb).trans (if_neg hb2)) zz
theorem tabs0 {cs : List (Addr × Addr)} {H : Hp} (h : ∀ p ∈ cs, H p.2 = some (.tbl #[])) : Tabs (cs.map (·.2)) H := fun P hP => by
  obtain ⟨p, hp, rfl⟩ := List.mem_map.mp hP
  exact ⟨#[], h p hp, by first | exact TriplesOk.nil | trivial | simp [TriplesOk]⟩
theorem script_at {K : PySem.W.Frag} {cl : Nat → Addr} {H : Hp} {a : Addr} {ns : List Int} (h : SqL K H a (ns.map V.int)) : Own K cl H (Fzp H (fun _ => True) []) (.ref a) (.lst .fz (ns.map D.int)) [] := by
  have o : Owns K cl H (Fzp H (fun _ => True) []) (ns.map V.int) (ns.map D.int) [] := by
    clear h
    induction ns with
    | nil => exact .nil
    | cons n ns ih => exact .cons (f1 := []) (.int n) ih
  rcases h with (h | ⟨ob, h⟩) | h
  · exact .lst (f0 := []) (.fz h ⟨.inl trivial, List.not_mem_nil⟩) o
  · exact .lst (f0 := []) (.lk h) o
  · exact .lst (f0 := []) (.wr (.inr h)) o
/-- what a law's text gives, and its meaning -/
structure LawG (P : Program) (w : World) (K : PySem.W.Frag) (mg : Str → Option Value) (fa : Addr) (cs : List (Addr × Addr)) (n : Nat) (base : Heap) : Prop where
  ex : ∃ (C : Cf) (k j : Nat) (fd : FuncData) (x : Str), C.P = P ∧ C.w = w ∧ C.G.K = K ∧ C.mg = mg ∧ C.base = base ∧ C.G.tabs = cs.map (·.2) ∧ FnG C k fa fd [x] (spF C j 1 []) ∧ L2.Room k callerA ∧ Binds K fd [x] [] ∧
    ∀ ns : List Int, ns.length ≤ n → (∀ i ∈ ns, Builtin.Int.intBits i ≤ 1048576) → C.Φ j [.lst .fz (ns.map D.int)] = .ok (.bl true, [])
theorem walk_G {l : PySem.W.OpenLaw} {n : Nat} {q : Program} {loose : List Str} {XP : (Str → Option Value) → Heap → Prop} {YP : World → Heap → Prop} {d : DefRec} (hn : l.most = some n) (hn2 : n ≤ sizeLine) (hdf : d.params.defaults = [])
    (F : ∀ (w : World) (mg : Str → Option Value) (fa : Addr) (h : Heap), YP w h → h.Ns mainGlobals mg → mg d.name = some (.ref fa) → ∃ (K : PySem.W.Frag) (cs : List (Addr × Addr)), K.In h ∧ (∀ p ∈ cs, h.get? p.2 = some { cls := .none, data := .fields #[] }) ∧ (∀ p ∈ cs, K.lookup p.2 = none) ∧ (∀ p ∈ cs, PySem.W.CodeHd h p.1 p.2) ∧
      ∀ base : Heap, K.In base → base.Ns mainGlobals mg → (∀ p ∈ cs, GxR.TabB base mg p.1 p.2) → LawG l.prog w K mg fa cs n base) :
    PySem.W.WalkO q loose XP YP l.row.toRowW d [] (fun f vs => PySem.call f vs) := by
  refine Att.attach_callB hn hdf fun w s₀ s₁ mg mb fa o pm cd doc a vs ns G Y ho hd hcd hmg hobj hints hlen hbits hg => ?_
  obtain ⟨K, cs, KX, hT, nT, hC, hF⟩ := F w mg fa _ Y G.T.g hmg
  refine law_G (CX := L2.CX l.prog w) KX G.T.g G.T.b G.T.builtins G.T.nolimit hg hT nT hC G.T.bmain hobj hints (Nat.le_trans hlen hn2) (fun base b1 b2 b3 H e0 hH hS hv => ?_) fun H e s' z => ?_
  · obtain ⟨⟨⟨⟨K', cl, tabs, ec⟩, P', w', mg', base', Φ, gv, cod⟩, k, j, fd, x, e1, e2, e3, e4, e5, ht, fg, hr, hb, law⟩⟩ := hF base b1 b2 b3
    dsimp only at e1 e2 e3 e4 e5 ht law
    subst e1 e2 e3 e4 e5
    have KI := KX
    have b := hb s₁ [.ref a] KI rfl
    simp only [List.append_nil] at b
    refine fg.run callerA [] s₁ H [.ref a] [.ref a] _ _ hr rfl e0 b hv ⟨rfl, H, fun _ => True, [.lst .fz (ns.map D.int)], rfl, argsOk_all ?_, ?_, ?_, ?_⟩
    · have z : allFzs (ns.map D.int) = true := by
        rw [allFzs_eq, List.all_eq_true]
        intro y hy
        obtain ⟨i, _, rfl⟩ := List.mem_map.mp hy
        rfl
      simp only [allFzs, allFz, z, Bool.and_true, Bool.and_self, decide_eq_true_eq]
    · have z : noVws (ns.map D.int) = true := by
        rw [noVws_eq, List.all_eq_true]
        intro y hy
        obtain ⟨i, _, rfl⟩ := List.mem_map.mp hy
        rfl
      simp only [noVws, noVw, z, Bool.and_true, Bool.and_self, decide_eq_true_eq]
      exact fun z => by cases z
    · refine ⟨⟨[], [], .nil, ?_, List.nodup_nil, fun p hp => absurd hp List.not_mem_nil⟩, Keep.refl _, Keep.noH _, ?_⟩
      · exact .cons (f1 := []) (f2 := []) (script_at hS) .nil
      · dsimp only; rw [ht]; exact tabs0 hH
    · dsimp only
      rw [law ns hlen hbits]
      intro v H' h' _
      obtain ⟨_, _, ov⟩ := Holds.top h'
      exact ov.inv_bl
  · obtain ⟨_, _, _, _, _, _, _, _, _, _, _, _, z⟩ := z
    exact z
end Pu

set_option Elab.async false
set_option linter.all false
set_option maxRecDepth 100000
set_option maxHeartbeats 1000000
/-! Pu23: all defs of a text keep their promises. -/
namespace Pu
open PySem PySem.Spec PyProof.Rows L2
/-- a def of a text: its name, its statement, its slots, its meaning; where it stands -/
structure Rw where
  x : Str
  qual : Str
  st : Stmt
  N : List Str
  np : Nat
  is : List Nat
  b : List Sm
  f : Addr
  fd : FuncData
  cp : Option (Addr × Addr)
def Rw.F (r : Rw) : Fun := ⟨r.np, r.N.length, r.is, r.b⟩
def Rw.ps (r : Rw) : List Str := r.N.take r.np
def tblOf (R : List Rw) (j : Nat) : Option Fun := (R[j]?).map Rw.F
def slotsOf (r : Rw) : List Str := r.N.filter fun x => locB (defScope r.st) x
/-- what the machine must have of it -/
structure RwOk (c : C0) (r : Rw) : Prop where
  fn : ∃ (oc : Value) (od : Option Addr) (kV doc pm : Value) (an : Option Addr) (cdv ct : Value) (osl : Array (Option Value)),
    r.fd = PySem.W.fnOf r.x r.qual (defArgs r.st) (defBody r.st) (defScope r.st) .none kV doc pm an cdv ct ∧ c.G.K.lookup r.f = some ⟨oc, od, .func r.fd, osl⟩ ∧ PySem.W.codeIn c.G.K cdv r.qual = true ∧ ∀ cc P, r.cp = some (cc, P) → cdv = .ref cc
  bd : Binds c.G.K r.fd r.ps []
  kp : PySem.W.keepIn c.G.K (.ref r.f) = true
  tb : ∀ cc P, r.cp = some (cc, P) → GxR.TabB c.base c.mg cc P ∧ P ∈ c.G.tabs
/-- what its text must be -/
structure RwTx (ce : CE) (r : Rw) : Prop where
  sc : FnScope r.N r.ps (defScope r.st)
  np : r.np ≤ r.N.length
  is : r.is.Nodup
  il : ∀ i ∈ r.is, i < r.np
  b : r.b = [.nev] ∨ cB 100 { ce with N := r.N, gen := r.cp.isSome } (defScope r.st) (slotsOf r) r.is (defBody r.st) = some r.b
/-- what is known of the text's names -/
structure Env1 (c : C0) (R : List Rw) (ce : CE) : Prop where
  bl : ∀ x ∈ bltNames, c.mg x = none
  fn : ∀ x j np, ce.fs.lookup x = some (j, np) → ∃ r, R[j]? = some r ∧ r.np = np ∧ r.is = [] ∧ c.mg x = some (.ref r.f)
  cl : ∀ x k j np, ce.cs.lookup x = some (k, j, np) → ∃ r, R[j]? = some r ∧ r.np = np ∧ r.is = [0] ∧ L2.Mk c.G.K (c.G.cl k) r.f ∧ c.mg x = some (.ref (c.G.cl k))
  gl : ∀ x ie, ce.gs.lookup x = some ie → ∃ v u d, c.mg x = some u ∧ RelV v u ∧ (∀ Φ ρ, ev Φ c.gv ie ρ = .ok d) ∧ ∀ H Fz, Own c.G.K c.G.cl H Fz v d []
  fa : ∀ k, L2.Cls c.G.K (c.G.cl k)
  fb : ∀ x ∈ ce.fl, ∀ k, L2.NoAttr c.G.K (c.G.cl k) x
  ex : ∀ x j ys ns, ce.es.lookup x = some (j, ys, ns) → c.mg x = some (.ref (c.G.ec j)) ∧ (∀ a ∈ ys ++ ns, L2.ExcC c.G.K (c.G.ec a)) ∧ (∀ a ∈ ys, PySem.W.kitOne c.G.K (.ref (c.G.ec a)) (.ref (c.G.ec j)) = some true) ∧ (∀ a ∈ ys, PySem.W.exmOne c.G.K (.ref (c.G.ec a)) (.ref (c.G.ec j)) = some true) ∧ ∀ a ∈ ns, PySem.W.kitOne c.G.K (.ref (c.G.ec a)) (.ref (c.G.ec j)) = some false
  rs : ∀ a ∈ ce.rs, (∃ (B newId initId : String) (bmB : List Value), ExcBaseFacts B newId initId bmB ∧ PySem.W.excIn c.G.K (c.G.ec a) bmB newId = true) ∧ PySem.W.keepIn c.G.K (.ref (c.G.ec a)) = true ∧ PySem.W.subIn c.G.K (.ref (c.G.ec a)) (.type "BaseException") = some true ∧ PySem.W.typeIn c.G.K (.ref (c.G.ec a)) = some (.type "type")
  ci : ∀ x j ys ns, ce.ci.lookup x = some (j, ys, ns) → c.mg x = some (.ref (c.G.cl j)) ∧ ∀ C : Cf, C.G = c.G → IsiC C j ys ns
  fm : ∀ x j np is, ce.fm.lookup x = some (j, np, is) → ∃ r, R[j]? = some r ∧ r.np = np ∧ r.is = is ∧ c.mg x = some (.ref r.f)
  mt : ∀ m k j np is, ce.ms.lookup m = some (k, j, np, is) → ∃ r, R[j]? = some r ∧ r.np = np ∧ r.is = is ∧ L2.Meth c.G.K (c.G.cl k) m r.f
theorem ps_length {r : Rw} (h : r.np ≤ r.N.length) : r.ps.length = r.np := by
  unfold Rw.ps
  rw [List.length_take]
  exact Nat.min_eq_left h
/-- nothing is promised of a def that the compiler does not know -/
theorem fn_nev {c : C0} {T : Nat → Option Fun} {n j kl np : Nat} {is : List Nat} {f : Addr} {fd : FuncData} {ps : List Str} {F : Fun} (hT : T j = some F) (hb : F.b = [.nev]) (hp : np = ps.length) : FnG (c.at T (n + 1)) kl f fd ps (spF (c.at T (n + 1)) j np is) where
  len := fun vs H Q E h => by rw [h.1, hp]
  run := fun A outer s H us vs Q E hr hg e0 hbd r hsp => by
    obtain ⟨hv, B, F0, ds, e1, ok, nv, h0, w⟩ := hsp
    have w : Wish (PhiN T c.gv (n + 1) j ds) _ _ := w
    simp only [PhiN, hT, fnD, hb, runs, run1, Re.seq] at w
    split at w
    · exact w.elim
    · exact w.elim
/-- THE PROMISES of all defs, by level -/
theorem all_G {c : C0} {R : List Rw} {ce : CE} (V : Env1 c R ce) (hM : ∀ r ∈ R, RwOk c r) (hT : ∀ r ∈ R, RwTx ce r) : ∀ n j r, R[j]? = some r → FnG (c.at (tblOf R) n) (3 * n) r.f r.fd r.ps (spF (c.at (tblOf R) n) j r.np r.is)
  | 0, j, r, hr => fn_0 (ps_length (hT r (List.mem_of_getElem? hr)).np).symm
  | n + 1, j, r, hr => by
    have ih := all_G V hM hT n
    have hm := List.mem_of_getElem? hr
    have M := hM r hm
    have X := hT r hm
    obtain ⟨oc, od, kV, doc, pm, an, cdv, ct, osl, efd, lk, hcd, hcc⟩ := M.fn
    have hF : tblOf R j = some r.F := by unfold tblOf; rw [hr]; rfl
    rcases X.b with Xb | Xb
    · exact fn_nev hF Xb (ps_length X.np).symm
    have kn : Kn (c.of (tblOf R) n r.cp) (3 * n + 2) { ce with N := r.N, gen := r.cp.isSome } := {
      bl := V.bl
      fn := fun x i np h => by
        obtain ⟨q, h1, h2, h3, h4⟩ := V.fn x i np h
        have g := ih i q h1
        rw [h2, h3] at g
        have m := hM q (List.mem_of_getElem? h1)
        exact ⟨q.f, q.fd, q.ps, 3 * n, ⟨g.len, g.run⟩, by split <;> omega, m.bd, h4, m.kp⟩
      cl := fun x k i np h => by
        obtain ⟨q, h1, h2, h3, h4, h5⟩ := V.cl x k i np h
        have g := ih i q h1
        rw [h2, h3] at g
        have m := hM q (List.mem_of_getElem? h1)
        exact ⟨q.f, q.fd, q.ps, 3 * n, h4, ⟨g.len, g.run⟩, by split <;> omega, m.bd, h5⟩
      gl := V.gl
      gk := fun h => by
        refine ⟨by omega, ?_⟩
        have h : r.cp.isSome = true := h
        obtain ⟨p, hp⟩ := Option.isSome_iff_exists.mp h
        exact ⟨p.1, p.2, hp⟩
      fa := V.fa
      fb := V.fb
      ex := V.ex
      rs := fun a h => let r := V.rs a h; ⟨r.1, r.2.1, r.2.2.1, r.2.2.2⟩
      ci := fun x j ys ns h => let ⟨z1, z2⟩ := V.ci x j ys ns h; ⟨z1, z2 _ rfl⟩
      fm := fun x i np is h => by
        obtain ⟨q, h1, h2, h3, h4⟩ := V.fm x i np is h
        have g := ih i q h1
        rw [h2, h3] at g
        have m := hM q (List.mem_of_getElem? h1)
        exact ⟨q.f, q.fd, q.ps, 3 * n, ⟨g.len, g.run⟩, by split <;> omega, m.bd, h4, m.kp⟩
      mt := fun x k i np is h => by
        obtain ⟨q, h1, h2, h3, h4⟩ := V.mt x k i np is h
        have g := ih i q h1
        rw [h2, h3] at g
        have m := hM q (List.mem_of_getElem? h1)
        exact ⟨q.f, q.fd, q.ps, 3 * n, h4, ⟨g.len, g.run⟩, by split <;> omega, m.bd⟩ }
    have hb := (b_ok kn 100).2 _ _ _ _ _ Xb
    have hl := ps_length X.np
    rw [efd] at lk ⊢
    exact fn_G (F := r.F) (N := r.N) (k := 3 * n + 2) (st := slotsOf r) (cp := r.cp) hF lk hcd X.sc rfl hl.symm (by rw [hl]; exact X.np) X.is (fun i hi => by rw [hl]; exact X.il i hi) (fun x hx => locB_eq (List.mem_filter.mp hx).2)
      (fun cc P e => ⟨hcc cc P e, M.tb cc P e⟩) hb
end Pu

set_option Elab.async false
set_option linter.all false
set_option maxRecDepth 100000
/-! Pv1: plain data without flags: the interpreter's operations on it. -/
namespace Pu
open PySem PySem.Spec PyProof.Rows L2
mutual
/-- numbers, texts, None and tuples of such, no deeper than n -/
def flat : Nat → D → Bool
  | _, .non => true | _, .int _ => true | _, .str x => PyData.strOk x
  | n + 1, .tup xs => flats n xs
  | _, _ => false
def flats : Nat → List D → Bool
  | _, [] => true
  | n, x :: xs => flat n x && flats n xs
end
section
variable {n : Nat}
mutual
theorem vwD_flat : ∀ {n : Nat} {d : D}, flat n d = true → vwD d = d
  | _, .non, _ => rfl | _, .int _, _ => rfl | _, .str _, _ => rfl
  | n + 1, .tup xs, h => by
    simp only [flat] at h
    simp only [vwD, vwDs_flat h]
  | 0, .tup _, h => by simp [flat] at h
  | _, .bl _, h => by simp [flat] at h
  | _, .lst _ _, h => by simp [flat] at h
  | _, .obj _ _ _ _, h => by simp [flat] at h
  | _, .dct _ _ _, h => by simp [flat] at h
  | _, .is _, h => by simp [flat] at h
theorem vwDs_flat : ∀ {n : Nat} {ds : List D}, flats n ds = true → vwDs ds = ds
  | _, [], _ => rfl
  | n, d :: ds, h => by
    simp only [flats, Bool.and_eq_true] at h
    simp only [vwDs, vwD_flat h.1, vwDs_flat h.2]
end
mutual
theorem fzD_flat : ∀ {n : Nat} {d : D}, flat n d = true → fzD d = d
  | _, .non, _ => rfl | _, .int _, _ => rfl | _, .str _, _ => rfl
  | n + 1, .tup xs, h => by
    simp only [flat] at h
    simp only [fzD, fzDs_flat h]
  | 0, .tup _, h => by simp [flat] at h
  | _, .bl _, h => by simp [flat] at h
  | _, .lst _ _, h => by simp [flat] at h
  | _, .obj _ _ _ _, h => by simp [flat] at h
  | _, .dct _ _ _, h => by simp [flat] at h
  | _, .is _, h => by simp [flat] at h
theorem fzDs_flat : ∀ {n : Nat} {ds : List D}, flats n ds = true → fzDs ds = ds
  | _, [], _ => rfl
  | n, d :: ds, h => by
    simp only [flats, Bool.and_eq_true] at h
    simp only [fzDs, fzD_flat h.1, fzDs_flat h.2]
end
mutual
theorem vaD_flat : ∀ {n : Nat} {d : D}, flat n d = true → vaD d = d
  | _, .non, _ => rfl | _, .int _, _ => rfl | _, .str _, _ => rfl
  | n + 1, .tup xs, h => by
    simp only [flat] at h
    simp only [vaD, vaDs_flat h]
  | 0, .tup _, h => by simp [flat] at h
  | _, .bl _, h => by simp [flat] at h
  | _, .lst _ _, h => by simp [flat] at h
  | _, .obj _ _ _ _, h => by simp [flat] at h
  | _, .dct _ _ _, h => by simp [flat] at h
  | _, .is _, h => by simp [flat] at h
theorem vaDs_flat : ∀ {n : Nat} {ds : List D}, flats n ds = true → vaDs ds = ds
  | _, [], _ => rfl
  | n, d :: ds, h => by
    simp only [flats, Bool.and_eq_true] at h
    simp only [vaDs, vaD_flat h.1, vaDs_flat h.2]
end
mutual
theorem anyFz_flat : ∀ {n : Nat} {d : D}, flat n d = true → anyFz d = d
  | _, .non, _ => rfl | _, .int _, _ => rfl | _, .str _, _ => rfl
  | n + 1, .tup xs, h => by
    simp only [flat] at h
    simp only [anyFz, anyFzs_flat h]
  | 0, .tup _, h => by simp [flat] at h
  | _, .bl _, h => by simp [flat] at h
  | _, .lst _ _, h => by simp [flat] at h
  | _, .obj _ _ _ _, h => by simp [flat] at h
  | _, .dct _ _ _, h => by simp [flat] at h
  | _, .is _, h => by simp [flat] at h
theorem anyFzs_flat : ∀ {n : Nat} {ds : List D}, flats n ds = true → anyFzs ds = ds
  | _, [], _ => rfl
  | n, d :: ds, h => by
    simp only [flats, Bool.and_eq_true] at h
    simp only [anyFzs, anyFz_flat h.1, anyFzs_flat h.2]
end
mutual
theorem noVw_flat : ∀ {n : Nat} {d : D}, flat n d = true → noVw d = true
  | _, .non, _ => rfl | _, .int _, _ => rfl | _, .str _, _ => rfl
  | n + 1, .tup xs, h => by
    simp only [flat] at h
    simp only [noVw, noVws_flat h]
  | 0, .tup _, h => by simp [flat] at h
  | _, .bl _, h => by simp [flat] at h
  | _, .lst _ _, h => by simp [flat] at h
  | _, .obj _ _ _ _, h => by simp [flat] at h
  | _, .dct _ _ _, h => by simp [flat] at h
  | _, .is _, h => by simp [flat] at h
theorem noVws_flat : ∀ {n : Nat} {ds : List D}, flats n ds = true → noVws ds = true
  | _, [], _ => rfl
  | n, d :: ds, h => by
    simp only [flats, Bool.and_eq_true] at h
    simp only [noVws, noVw_flat h.1, noVws_flat h.2, Bool.and_self]
end

mutual
def pOf : D → PyData
  | .non => .none | .bl b => .bool b | .int i => .int i | .str s => .str s
  | .tup xs => .tuple (pOfs xs) | .lst _ xs => .list (pOfs xs)
  | _ => .none
def pOfs : List D → List PyData
  | [] => []
  | x :: xs => pOf x :: pOfs xs
end
theorem pOfs_map (xs : List D) : pOfs xs = xs.map pOf := by
  induction xs with
  | nil => rfl
  | cons x xs ih => simp only [pOfs, List.map_cons, ih]
mutual
theorem toP_flat : ∀ {n : Nat} {d : D}, flat n d = true → toP d = some (pOf d) ∧ (pOf d).canLay0 = true ∧ (pOf d).depth ≤ n
  | _, .non, _ => ⟨rfl, rfl, Nat.zero_le _⟩ | _, .int _, _ => ⟨rfl, rfl, Nat.zero_le _⟩
  | _, .str x, h => ⟨rfl, by simpa only [flat, pOf, PyData.canLay0] using h, Nat.zero_le _⟩
  | n + 1, .tup xs, h => by
    simp only [flat] at h
    obtain ⟨h1, h2, h3⟩ := toPs_flat h
    refine ⟨by simp only [toP, h1, pOf], by simp only [pOf, PyData.canLay0, h2], ?_⟩
    simp only [pOf, PyData.depth]
    omega
  | 0, .tup _, h => by simp [flat] at h
  | _, .bl _, h => by simp [flat] at h
  | _, .lst _ _, h => by simp [flat] at h
  | _, .obj _ _ _ _, h => by simp [flat] at h
  | _, .dct _ _ _, h => by simp [flat] at h
  | _, .is _, h => by simp [flat] at h
theorem toPs_flat : ∀ {n : Nat} {ds : List D}, flats n ds = true → toPs ds = some (pOfs ds) ∧ PyData.canLayAll0 (pOfs ds) = true ∧ PyData.depthAll (pOfs ds) ≤ n
  | _, [], _ => ⟨rfl, rfl, Nat.zero_le _⟩
  | n, d :: ds, h => by
    simp only [flats, Bool.and_eq_true] at h
    obtain ⟨h1, h2, h3⟩ := toP_flat h.1
    obtain ⟨g1, g2, g3⟩ := toPs_flat h.2
    refine ⟨by simp only [toPs, h1, g1, pOfs], by simp only [pOfs, PyData.canLayAll0, h2, g2, Bool.and_self], ?_⟩
    simp only [pOfs, PyData.depthAll]
    omega
end
theorem plain_flat {d : D} (h : flat n d = true) (hn : n ≤ 64) : plain d = some (pOf d) := by
  obtain ⟨h1, h2, h3⟩ := toP_flat h
  unfold plain
  rw [h1]
  have z : SeqAt.shaped (pOf d) = true := by
    unfold SeqAt.shaped
    rw [h2, decide_eq_true (Nat.le_trans h3 hn)]
    rfl
  simp only [z, if_true]
theorem plain_flats {f : Fl} {xs : List D} (h : flats n xs = true) (hn : n < 64) : plain (.lst f xs) = some (.list (pOfs xs)) ∧ plain (.tup xs) = some (.tuple (pOfs xs)) := by
  obtain ⟨h1, h2, h3⟩ := toPs_flat h
  have z1 : SeqAt.shaped (.list (pOfs xs)) = true := by
    unfold SeqAt.shaped
    have z : PyData.depthAll (pOfs xs) + 1 ≤ 64 := by omega
    simp only [PyData.canLay0, h2, PyData.depth, z, Bool.true_and, decide_true]
  have z2 : SeqAt.shaped (.tuple (pOfs xs)) = true := by
    unfold SeqAt.shaped
    have z : PyData.depthAll (pOfs xs) + 1 ≤ 64 := by omega
    simp only [PyData.canLay0, h2, PyData.depth, z, Bool.true_and, decide_true]
  constructor
  · unfold plain
    simp only [toP, h1, z1, if_true]
  · unfold plain
    simp only [toP, h1, z2, if_true]
mutual
theorem eqv_flat : ∀ {n m : Nat} {d e : D}, flat n d = true → flat m e = true → (PyData.eqv (pOf d) (pOf e) = true ↔ d = e)
  | _, m, .non, e, _, h => by cases e <;> simp [pOf, PyData.eqv, flat] at h ⊢
  | _, m, .int i, e, _, h => by cases e <;> simp [pOf, PyData.eqv, flat] at h ⊢
  | _, m, .str s, e, _, h => by cases e <;> simp [pOf, PyData.eqv, flat] at h ⊢
  | n + 1, m, .tup xs, e, h, g => by
    cases e with
    | tup ys =>
      cases m with
      | zero => simp [flat] at g
      | succ m =>
        simp only [flat] at h g
        simp only [pOf, PyData.eqv, D.tup.injEq]
        exact eqvs_flat h g
    | _ => simp [pOf, PyData.eqv, flat] at g ⊢
  | 0, _, .tup _, _, h, _ => by simp [flat] at h
  | _, _, .bl _, _, h, _ => by simp [flat] at h
  | _, _, .lst _ _, _, h, _ => by simp [flat] at h
  | _, _, .obj _ _ _ _, _, h, _ => by simp [flat] at h
  | _, _, .dct _ _ _, _, h, _ => by simp [flat] at h
  | _, _, .is _, _, h, _ => by simp [flat] at h
theorem eqvs_flat : ∀ {n m : Nat} {ds es : List D}, flats n ds = true → flats m es = true → (PyData.eqvAll (pOfs ds) (pOfs es) = true ↔ ds = es)
  | _, _, [], [], _, _ => by simp [pOfs, PyData.eqvAll]
  | _, _, [], _ :: _, _, _ => by simp [pOfs, PyData.eqvAll]
  | _, _, _ :: _, [], _, _ => by simp [pOfs, PyData.eqvAll]
  | n, m, d :: ds, e :: es, h, g => by
    simp only [flats, Bool.and_eq_true] at h g
    simp only [pOfs, PyData.eqvAll, Bool.and_eq_true, List.cons.injEq, eqv_flat h.1 g.1, eqvs_flat h.2 g.2]
end
end
end Pu

set_option Elab.async false
set_option linter.all false
set_option maxRecDepth 100000
/-! Pv2: comparisons, loops and lists made by a loop, of plain data. -/
namespace Pu
open PySem PySem.Spec PyProof.Rows L2
open Classical in
/-- the same data -/
noncomputable def eqb (x y : D) : Bool := decide (x = y)
open Classical in
noncomputable def eqbs (x y : List D) : Bool := decide (x = y)
open Classical in
noncomputable def memb (x : D) (ys : List D) : Bool := decide (x ∈ ys)
theorem eqb_iff {x y : D} : eqb x y = true ↔ x = y := by unfold eqb; exact @decide_eq_true_iff _ (_)
theorem eqbs_iff {x y : List D} : eqbs x y = true ↔ x = y := by unfold eqbs; exact @decide_eq_true_iff _ (_)
theorem memb_iff {x : D} {y : List D} : memb x y = true ↔ x ∈ y := by unfold memb; exact @decide_eq_true_iff _ (_)
theorem bool_of {a b : Bool} (h : a = true ↔ b = true) : a = b := by
  cases a <;> cases b <;> simp at h ⊢
theorem eqb_str {a b : Str} : eqb (.str a) (.str b) = decide (a = b) := bool_of (by rw [eqb_iff, decide_eq_true_iff, D.str.injEq])
theorem eqb_int {a b : Int} : eqb (.int a) (.int b) = decide (a = b) := bool_of (by rw [eqb_iff, decide_eq_true_iff, D.int.injEq])
theorem eqb_tup {a b : List D} : eqb (.tup a) (.tup b) = eqbs a b := bool_of (by rw [eqb_iff, eqbs_iff, D.tup.injEq])
theorem eqbs_nil : eqbs [] [] = true := eqbs_iff.mpr rfl
theorem eqbs_cons {a b : D} {as bs : List D} : eqbs (a :: as) (b :: bs) = (eqb a b && eqbs as bs) := bool_of (by rw [eqbs_iff, Bool.and_eq_true, eqb_iff, eqbs_iff, List.cons.injEq])
theorem eqb_refl {a : D} : eqb a a = true := eqb_iff.mpr rfl
theorem eqbs_refl {a : List D} : eqbs a a = true := eqbs_iff.mpr rfl
section
variable {n m : Nat} {x y : D} {xs ys : List D} {f g : Fl}
theorem cmp_eq (hx : flat n x = true) (hy : flat m y = true) (hn : n ≤ 64 := by decide) (hm : m ≤ 64 := by decide) : cmpB .eq x y = some (eqb x y) := by
  simp only [cmpB, plain_flat hx hn, plain_flat hy hm]
  exact congrArg some (bool_of ((eqv_flat hx hy).trans eqb_iff.symm))
theorem cmp_ne (hx : flat n x = true) (hy : flat m y = true) (hn : n ≤ 64 := by decide) (hm : m ≤ 64 := by decide) : cmpB .ne x y = some (!eqb x y) := by
  simp only [cmpB, plain_flat hx hn, plain_flat hy hm]
  exact congrArg (fun b => some (!b)) (bool_of ((eqv_flat hx hy).trans eqb_iff.symm))
theorem cmp_eqL (hx : flats n xs = true) (hy : flats m ys = true) (hn : n < 64 := by decide) (hm : m < 64 := by decide) : cmpB .eq (.lst f xs) (.lst g ys) = some (eqbs xs ys) := by
  simp only [cmpB, (plain_flats hx hn).1, (plain_flats hy hm).1]
  exact congrArg some (bool_of ((by rw [PyData.eqv]; exact eqvs_flat hx hy : PyData.eqv (.list (pOfs xs)) (.list (pOfs ys)) = true ↔ xs = ys).trans eqbs_iff.symm))
theorem cmp_neL (hx : flats n xs = true) (hy : flats m ys = true) (hn : n < 64 := by decide) (hm : m < 64 := by decide) : cmpB .ne (.lst f xs) (.lst g ys) = some (!eqbs xs ys) := by
  simp only [cmpB, (plain_flats hx hn).1, (plain_flats hy hm).1]
  exact congrArg (fun b => some (!b)) (bool_of ((by rw [PyData.eqv]; exact eqvs_flat hx hy : PyData.eqv (.list (pOfs xs)) (.list (pOfs ys)) = true ↔ xs = ys).trans eqbs_iff.symm))
theorem any_flat (hx : flat n x = true) (hy : flats m ys = true) : ((pOfs ys).any fun z => PyData.eqv z (pOf x)) = memb x ys := by
  refine bool_of (Iff.trans ?_ memb_iff.symm)
  induction ys with
  | nil => simp [pOfs]
  | cons y ys ih =>
    simp only [flats, Bool.and_eq_true] at hy
    simp only [pOfs, List.any_cons, Bool.or_eq_true, List.mem_cons, ih hy.2, eqv_flat hy.1 hx]
    exact ⟨fun h => h.imp Eq.symm id, fun h => h.imp Eq.symm id⟩
theorem cmp_inL (hx : flat n x = true) (hy : flats m ys = true) (hn : n ≤ 64 := by decide) (hm : m < 64 := by decide) : cmpB .isIn x (.lst f ys) = some (memb x ys) := by
  rw [← any_flat hx hy]
  cases x <;> simp only [cmpB, plain_flat hx hn, (plain_flats hy hm).1]
theorem cmp_inT (hx : flat n x = true) (hy : flats m ys = true) (hn : n ≤ 64 := by decide) (hm : m < 64 := by decide) : cmpB .isIn x (.tup ys) = some (memb x ys) := by
  rw [← any_flat hx hy]
  cases x <;> simp only [cmpB, plain_flat hx hn, (plain_flats (f := .fz) hy hm).2]
end
theorem flats_iff {n : Nat} {xs : List D} : flats n xs = true ↔ ∀ x ∈ xs, flat n x = true := by
  induction xs with
  | nil => simp [flats]
  | cons x xs ih => simp only [flats, Bool.and_eq_true, ih, List.forall_mem_cons]
/-! ### loops -/
theorem compL_map {g : D → Out (Option D)} {p : D → Bool} {h : D → D} : ∀ {xs : List D}, (∀ x ∈ xs, g x = .ok (if p x = true then some (h x) else none)) → compL xs g = .ok ((xs.filter p).map h)
  | [], _ => rfl
  | x :: xs, e => by
    simp only [compL, e x List.mem_cons_self, Out.bind_ok, compL_map fun y hy => e y (List.mem_cons_of_mem _ hy)]
    cases q : p x <;> simp [q]
theorem compL_all {g : D → Out (Option D)} {h : D → D} {xs : List D} (e : ∀ x ∈ xs, g x = .ok (some (h x))) : compL xs g = .ok (xs.map h) := by
  have z := compL_map (g := g) (p := fun _ => true) (h := h) (xs := xs) fun x hx => by rw [e x hx]; rfl
  rw [z, List.filter_eq_self.mpr fun _ _ => rfl]
/-- over what is encoded by en -/
theorem compL_enc {α : Type} {en : α → D} {g : D → Out (Option D)} {p : α → Bool} {h : α → D} : ∀ {xs : List α}, (∀ x ∈ xs, g (en x) = .ok (if p x = true then some (h x) else none)) → compL (xs.map en) g = .ok ((xs.filter p).map h)
  | [], _ => rfl
  | x :: xs, e => by
    simp only [List.map_cons, compL, e x List.mem_cons_self, Out.bind_ok, compL_enc fun y hy => e y (List.mem_cons_of_mem _ hy)]
    cases q : p x <;> simp [q]
theorem compL_encA {α : Type} {en : α → D} {g : D → Out (Option D)} {h : α → D} {xs : List α} (e : ∀ x ∈ xs, g (en x) = .ok (some (h x))) : compL (xs.map en) g = .ok (xs.map h) := by
  have z := compL_enc (en := en) (g := g) (p := fun _ => true) (h := h) (xs := xs) fun x hx => by rw [e x hx]; rfl
  rw [z, List.filter_eq_self.mpr fun _ _ => rfl]
theorem genL_any {α : Type} {en : α → D} {g : D → Out Bool} {p : α → Bool} : ∀ {xs : List α}, (∀ x ∈ xs, g (en x) = .ok (p x)) → genL false (xs.map en) g = .ok (xs.any p)
  | [], _ => rfl
  | x :: xs, e => by
    simp only [List.map_cons, genL, e x List.mem_cons_self, Out.bind_ok, genL_any fun y hy => e y (List.mem_cons_of_mem _ hy), List.any_cons]
    cases p x <;> rfl
theorem genL_all {α : Type} {en : α → D} {g : D → Out Bool} {p : α → Bool} : ∀ {xs : List α}, (∀ x ∈ xs, g (en x) = .ok (p x)) → genL true (xs.map en) g = .ok (xs.all p)
  | [], _ => rfl
  | x :: xs, e => by
    simp only [List.map_cons, genL, e x List.mem_cons_self, Out.bind_ok, genL_all fun y hy => e y (List.mem_cons_of_mem _ hy), List.all_cons]
    cases p x <;> rfl
/-- a loop that never ends early: J i holds ahead of the i-th turn -/
theorem loopF_for {α : Type} {en : α → D} {f : D → List (Option D) → Re} (J : Nat → List (Option D) → Prop) {xs : List α} (step : ∀ i x ρ, xs[i]? = some x → J i ρ → ∃ ρ', (f (en x) ρ = .nx ρ' ∨ f (en x) ρ = .ct ρ') ∧ J (i + 1) ρ') :
    ∀ {ρ}, J 0 ρ → ∃ ρ', loopF f (xs.map en) ρ = .nx ρ' ∧ J xs.length ρ' := by
  suffices h : ∀ (ys : List α) (i : Nat) (ρ : List (Option D)), (∀ j y, ys[j]? = some y → xs[i + j]? = some y) → i + ys.length = xs.length → J i ρ → ∃ ρ', loopF f (ys.map en) ρ = .nx ρ' ∧ J xs.length ρ' from
    fun {ρ} j => h xs 0 ρ (fun j y e => by rw [Nat.zero_add]; exact e) (Nat.zero_add _) j
  intro ys
  induction ys with
  | nil => intro i ρ _ hl j; exact ⟨ρ, rfl, by rw [← hl]; exact j⟩
  | cons y ys ih =>
    intro i ρ hs hl j
    obtain ⟨ρ', e, j'⟩ := step i y ρ (by have z := hs 0 y rfl; rwa [Nat.add_zero] at z) j
    obtain ⟨ρ2, e2, j2⟩ := ih (i + 1) ρ' (fun k z hk => by have q := hs (k + 1) z (by simpa using hk); rwa [show i + (k + 1) = i + 1 + k by omega] at q) (by simp only [List.length_cons] at hl; omega) j'
    refine ⟨ρ2, ?_, j2⟩
    rw [List.map_cons]
    simp only [loopF]
    rcases e with e | e <;> simp only [e, e2]
/-- a search loop: it ends with a return at the first x that p picks; the slots stand otherwise under J -/
theorem loopF_find {α : Type} {en : α → D} {f : D → List (Option D) → Re} (J : List (Option D) → Prop) (r : α → D) (p : α → Bool) : ∀ {xs : List α}, (∀ x ∈ xs, ∀ ρ, J ρ → (p x = true → ∃ ρ', f (en x) ρ = .rt (r x) ρ') ∧ (p x = false → ∃ ρ', f (en x) ρ = .nx ρ' ∧ J ρ')) →
    ∀ {ρ}, J ρ → (∃ ρ', loopF f (xs.map en) ρ = match xs.find? p with | some x => .rt (r x) ρ' | none => .nx ρ') ∧ (xs.find? p = none → ∃ ρ', loopF f (xs.map en) ρ = .nx ρ' ∧ J ρ')
  | [], _, ρ, j => ⟨⟨ρ, rfl⟩, fun _ => ⟨ρ, rfl, j⟩⟩
  | x :: xs, h, ρ, j => by
    obtain ⟨h1, h2⟩ := h x List.mem_cons_self ρ j
    cases q : p x with
    | true =>
      obtain ⟨ρ', e⟩ := h1 q
      refine ⟨⟨ρ', ?_⟩, fun z => ?_⟩
      · simp only [List.map_cons, loopF, e, List.find?_cons, q]
      · simp [List.find?_cons, q] at z
    | false =>
      obtain ⟨ρ', e, j'⟩ := h2 q
      obtain ⟨⟨ρ2, i1⟩, i2⟩ := loopF_find J r p (fun y hy => h y (List.mem_cons_of_mem _ hy)) j'
      refine ⟨⟨ρ2, ?_⟩, fun z => ?_⟩
      · simp only [List.map_cons, loopF, e, List.find?_cons, q]; exact i1
      · simp only [List.find?_cons, q] at z
        obtain ⟨ρ3, e3, j3⟩ := i2 z
        exact ⟨ρ3, by simp only [List.map_cons, loopF, e]; exact e3, j3⟩
end Pu

set_option Elab.async false
set_option linter.all false
set_option maxRecDepth 100000
/-! Pv3: the interpreter's small steps, for simp. -/
namespace Pu
open PySem PySem.Spec PyProof.Rows L2
section
variable {Φ : Nat → List D → Out (D × List D)} {gv : Nat → D} {pi : List Nat} {ρ : List (Option D)}
@[simp] theorem cmp_lt {i j : Int} : cmpB .lt (.int i) (.int j) = some (decide (i < j)) := id rfl
@[simp] theorem cmp_le {i j : Int} : cmpB .le (.int i) (.int j) = some (decide (i ≤ j)) := id rfl
@[simp] theorem cmp_gt {i j : Int} : cmpB .gt (.int i) (.int j) = some (decide (j < i)) := id rfl
@[simp] theorem cmp_ge {i j : Int} : cmpB .ge (.int i) (.int j) = some (decide (j ≤ i)) := id rfl
@[simp] theorem cmp_eqI {i j : Int} : cmpB .eq (.int i) (.int j) = some (decide (i = j)) := by rw [cmp_eq (n := 0) (m := 0) rfl rfl, eqb_int]
@[simp] theorem cmp_neI {i j : Int} : cmpB .ne (.int i) (.int j) = some (!decide (i = j)) := by rw [cmp_ne (n := 0) (m := 0) rfl rfl, eqb_int]
@[simp] theorem cmp_eqB {i j : Bool} : cmpB .eq (.bl i) (.bl j) = some (i == j) := by cases i <;> cases j <;> rfl
@[simp] theorem cmp_neB {i j : Bool} : cmpB .ne (.bl i) (.bl j) = some (!(i == j)) := by cases i <;> cases j <;> rfl
theorem cmp_eqS {i j : Str} (h : PyData.strOk i = true) (g : PyData.strOk j = true) : cmpB .eq (.str i) (.str j) = some (decide (i = j)) := by rw [cmp_eq (n := 0) (m := 0) (x := .str i) (y := .str j) h g, eqb_str]
theorem cmp_neS {i j : Str} (h : PyData.strOk i = true) (g : PyData.strOk j = true) : cmpB .ne (.str i) (.str j) = some (!decide (i = j)) := by rw [cmp_ne (n := 0) (m := 0) (x := .str i) (y := .str j) h g, eqb_str]
@[simp] theorem tru_bl {b : Bool} : truD (.bl b) = some b := id rfl
@[simp] theorem tru_int {i : Int} : truD (.int i) = some (i != 0) := id rfl
@[simp] theorem bool_bl {b : Bool} : boolD (.bl b) = .ok b := id rfl
@[simp] theorem vw_non : vwD .non = .non := id rfl
@[simp] theorem vw_bl {b : Bool} : vwD (.bl b) = .bl b := id rfl
@[simp] theorem vw_int {b : Int} : vwD (.int b) = .int b := id rfl
@[simp] theorem vw_str {b : Str} : vwD (.str b) = .str b := id rfl
@[simp] theorem vw_tup {b : List D} : vwD (.tup b) = .tup (vwDs b) := id rfl
@[simp] theorem vw_lst {f : Fl} {b : List D} : vwD (.lst f b) = .lst f.vwd (vwDs b) := id rfl
@[simp] theorem fz_non : fzD .non = .non := id rfl
@[simp] theorem fz_bl {b : Bool} : fzD (.bl b) = .bl b := id rfl
@[simp] theorem fz_int {b : Int} : fzD (.int b) = .int b := id rfl
@[simp] theorem fz_str {b : Str} : fzD (.str b) = .str b := id rfl
@[simp] theorem fz_tup {b : List D} : fzD (.tup b) = .tup (fzDs b) := id rfl
@[simp] theorem fz_lst {f : Fl} {b : List D} : fzD (.lst f b) = .lst f.fzd (fzDs b) := id rfl
@[simp] theorem va_non : vaD .non = .non := id rfl
@[simp] theorem va_bl {b : Bool} : vaD (.bl b) = .bl b := id rfl
@[simp] theorem va_int {b : Int} : vaD (.int b) = .int b := id rfl
@[simp] theorem va_str {b : Str} : vaD (.str b) = .str b := id rfl
@[simp] theorem va_tup {b : List D} : vaD (.tup b) = .tup (vaDs b) := id rfl
@[simp] theorem va_lst {f : Fl} {b : List D} : vaD (.lst f b) = .lst f.vwa (vaDs b) := id rfl
@[simp] theorem an_non : anyFz .non = .non := id rfl
@[simp] theorem an_bl {b : Bool} : anyFz (.bl b) = .bl b := id rfl
@[simp] theorem an_int {b : Int} : anyFz (.int b) = .int b := id rfl
@[simp] theorem an_str {b : Str} : anyFz (.str b) = .str b := id rfl
@[simp] theorem an_tup {b : List D} : anyFz (.tup b) = .tup (anyFzs b) := id rfl
@[simp] theorem an_lst {f : Fl} {b : List D} : anyFz (.lst f b) = .lst .fz (anyFzs b) := id rfl
@[simp] theorem nv_non : noVw .non = true := id rfl
@[simp] theorem nv_bl {b : Bool} : noVw (.bl b) = true := id rfl
@[simp] theorem nv_int {b : Int} : noVw (.int b) = true := id rfl
@[simp] theorem nv_str {b : Str} : noVw (.str b) = true := id rfl
@[simp] theorem nv_tup {b : List D} : noVw (.tup b) = noVws b := id rfl
@[simp] theorem nv_lst {f : Fl} {b : List D} : noVw (.lst f b) = (decide (f ≠ .vw) && noVws b) := id rfl
@[simp] theorem vws_nil : vwDs [] = [] := id rfl
@[simp] theorem vws_cons {x : D} {xs : List D} : vwDs (x :: xs) = vwD x :: vwDs xs := id rfl
@[simp] theorem fzs_nil : fzDs [] = [] := id rfl
@[simp] theorem fzs_cons {x : D} {xs : List D} : fzDs (x :: xs) = fzD x :: fzDs xs := id rfl
@[simp] theorem vas_nil : vaDs [] = [] := id rfl
@[simp] theorem vas_cons {x : D} {xs : List D} : vaDs (x :: xs) = vaD x :: vaDs xs := id rfl
@[simp] theorem ans_nil : anyFzs [] = [] := id rfl
@[simp] theorem ans_cons {x : D} {xs : List D} : anyFzs (x :: xs) = anyFz x :: anyFzs xs := id rfl
@[simp] theorem nvs_nil : noVws [] = true := id rfl
@[simp] theorem nvs_cons {x : D} {xs : List D} : noVws (x :: xs) = (noVw x && noVws xs) := id rfl
@[simp] theorem re_ok' {α : Type} {a : α} {f : α → Re} : (Out.ok a).re ρ f = f a := id rfl
@[simp] theorem seq_nx {f : List (Option D) → Re} : (Re.nx ρ).seq f = f ρ := id rfl
@[simp] theorem seq_rt {d : D} {f : List (Option D) → Re} : (Re.rt d ρ).seq f = .rt d ρ := id rfl
@[simp] theorem seq_ct {f : List (Option D) → Re} : (Re.ct ρ).seq f = .ct ρ := id rfl
@[simp] theorem seq_bk {f : List (Option D) → Re} : (Re.bk ρ).seq f = .bk ρ := id rfl
@[simp] theorem chk_eq {α : Type} {b : Bool} {o : Out α} : Out.chk b o = if b = true then o else .bad := id rfl
@[simp] theorem sel_nil : selD ρ [] = some [] := id rfl
@[simp] theorem idx_lst {f : Fl} {xs : List D} {i : Int} : idxD (.lst f xs) (.int i) = match atI xs i with | some d => .ok d | none => .bad := id rfl
@[simp] theorem idx_tup {xs : List D} {i : Int} : idxD (.tup xs) (.int i) = match atI xs i with | some d => .ok d | none => .bad := id rfl
@[simp] theorem fvw_fz : Fl.fz.vwd = .fz := id rfl
@[simp] theorem fvw_ow : Fl.ow.vwd = .vw := id rfl
@[simp] theorem fvw_vw : Fl.vw.vwd = .vw := id rfl
@[simp] theorem ffz_fz : Fl.fz.fzd = .fz := id rfl
@[simp] theorem ffz_ow : Fl.ow.fzd = .fz := id rfl
theorem atI_n {α : Type} {xs : List α} {k : Nat} : atI xs (k : Int) = xs[k]? := by
  unfold atI ixN
  rw [if_pos (Int.natCast_nonneg k)]
  by_cases h : k < xs.length
  · rw [if_pos (by omega)]
    rfl
  · rw [if_neg (by omega), List.getElem?_eq_none (by omega)]
    rfl
@[simp] theorem atI_0 {α : Type} {x : α} {xs : List α} : atI (x :: xs) 0 = some x := atI_n (k := 0)
@[simp] theorem atI_1 {α : Type} {x y : α} {xs : List α} : atI (x :: y :: xs) 1 = some y := atI_n (k := 1)
@[simp] theorem atI_2 {α : Type} {x y z : α} {xs : List α} : atI (x :: y :: z :: xs) 2 = some z := atI_n (k := 2)
@[simp] theorem atI_3 {α : Type} {x y z u : α} {xs : List α} : atI (x :: y :: z :: u :: xs) 3 = some u := atI_n (k := 3)
end
/-! ### statements whose value is clean at once -/
/-- what a value comes to: clean, or by the slow way s -/
def cleanK (o : Out D) (ρ : List (Option D)) (s : Re) (k : D → Re) : Re := match o with
  | .ok d => if noVw d = true then k d else s
  | .exc x => .ex x ρ
  | .bad => s
@[simp] theorem cleanK_ok {d : D} {ρ : List (Option D)} {s : Re} {k : D → Re} : cleanK (.ok d) ρ s k = if noVw d = true then k d else s := id rfl
@[simp] theorem cleanK_ite {c : Prop} [Decidable c] {a b : Out D} {ρ : List (Option D)} {s : Re} {k : D → Re} : cleanK (if c then a else b) ρ s k = if c then cleanK a ρ s k else cleanK b ρ s k := by split <;> rfl
section
variable (Φ : Nat → List D → Out (D × List D)) (gv : Nat → D) (pi : List Nat)
def setSlow (t : Tg) (e : Ex) (ρ : List (Option D)) : Re := (ev Φ gv e (frzs pi (fvs e) ρ)).re (frzs pi (fvs e) ρ) fun d => bindC t d (frzs pi (fvs e) ρ)
def retSlow (e : Ex) (ρ : List (Option D)) : Re := (ev Φ gv e (frzs pi (fvs e) ρ)).re (frzs pi (fvs e) ρ) fun d => if noVw d = true then .rt d (frzs pi (fvs e) ρ) else .bad
def appR (i : Nat) (p : List Pt) (e : Ex) (ρ : List (Option D)) (y : D) : Re := ((slotD ρ i).bind fun d => evp Φ gv p ρ d).re ρ fun q => match subAt ρ i q with
  | some (.lst .ow xs) => if noVw y = true ∧ xs.length < sizeLine then putAt ρ i q (.lst .ow (xs ++ [y])) else .bad
  | _ => .bad
end
section
variable {Φ : Nat → List D → Out (D × List D)} {gv : Nat → D} {pi : List Nat} {ρ : List (Option D)}
theorem run_ret {e : Ex} : run1 Φ gv pi (.ret e) ρ = cleanK (ev Φ gv e ρ) ρ (retSlow Φ gv pi e ρ) fun d => .rt d ρ := by
  simp only [run1, prep, cleanK, retSlow]
  cases h : ev Φ gv e ρ with
  | ok d =>
    by_cases n : noVw d = true
    · simp [n, h]
    · simp [n]
  | exc x => simp [h, Out.re]
  | bad => simp
theorem run_set {t : Tg} {e : Ex} : run1 Φ gv pi (.set t e) ρ = cleanK (ev Φ gv e ρ) ρ (setSlow Φ gv pi t e ρ) fun d => bindC t d ρ := by
  simp only [run1, prep, cleanK, setSlow]
  cases h : ev Φ gv e ρ with
  | ok d =>
    by_cases n : noVw d = true
    · simp [n, h]
    · simp [n]
  | exc x => simp [h, Out.re]
  | bad => simp
theorem run_ite {c : Ex} {a b : List Sm} : run1 Φ gv pi (.ite c a b) ρ = (((ev Φ gv c ρ).bind fun d => Out.ofo (truD d))).re ρ fun k => if k = true then runs Φ gv pi a ρ else runs Φ gv pi b ρ := by simp only [run1]
theorem runs_nil : runs Φ gv pi [] ρ = .nx ρ := by simp only [runs]
theorem runs_cons {s : Sm} {ss : List Sm} : runs Φ gv pi (s :: ss) ρ = (run1 Φ gv pi s ρ).seq fun ρ' => runs Φ gv pi ss ρ' := by simp only [runs]
@[simp] theorem seq_ite {c : Prop} [Decidable c] {a b : Re} {f : List (Option D) → Re} : (if c then a else b).seq f = if c then a.seq f else b.seq f := by split <;> rfl
@[simp] theorem bind_ite {α β : Type} {c : Prop} [Decidable c] {a b : Out α} {f : α → Out β} : (if c then a else b).bind f = if c then a.bind f else b.bind f := by split <;> rfl
@[simp] theorem re_ite {α : Type} {c : Prop} [Decidable c] {a b : Out α} {f : α → Re} : (if c then a else b).re ρ f = if c then a.re ρ f else b.re ρ f := by split <;> rfl
end
/-- what a def's block comes to for its caller -/
def fnEnd (is : List Nat) : Re → Out (D × List D)
  | .nx ρ => match selD ρ is with | some ms => .ok (.non, ms) | none => .bad
  | .rt d ρ => match selD ρ is with | some ms => .ok (d, ms) | none => .bad
  | .ex x ρ => match selD ρ is with | some ms => .exc ⟨x.c, x.ns, x.xs, ms⟩ | none => .bad
  | _ => .bad
theorem fnD_eq {Φ : Nat → List D → Out (D × List D)} {gv : Nat → D} {F : Fun} {ds : List D} : fnD Φ gv F ds = if ds.length = F.np then fnEnd F.is (runs Φ gv F.is F.b (ds.map some ++ List.replicate (F.n - F.np) none)) else .bad := by
  unfold fnD fnEnd
  rfl
@[simp] theorem fnEnd_rt {d : D} {ρ : List (Option D)} : fnEnd [] (.rt d ρ) = .ok (d, []) := id rfl
@[simp] theorem fnEnd_nx {ρ : List (Option D)} : fnEnd [] (.nx ρ) = .ok (.non, []) := id rfl
@[simp] theorem fnEnd_ite {is : List Nat} {c : Prop} [Decidable c] {a b : Re} : fnEnd is (if c then a else b) = if c then fnEnd is a else fnEnd is b := by split <;> rfl
section
variable {Φ : Nat → List D → Out (D × List D)} {gv : Nat → D} {ρ : List (Option D)} {α : Type} {en : α → D} {xs : List α} {b : Bool} {own : List Nat} {e : Ex} {tg : Tg} {it : It} {cs : List Ex}
theorem ev_any {p : α → Bool} (hi : evIt Φ gv it ρ = .ok (xs.map en, b)) (h : ∀ x ∈ xs, ((bindTg tg (en x) (wipeD ρ own)).bind fun ρ' => (ev Φ gv e ρ').bind boolD) = .ok (p x)) : ev Φ gv (.gen false own e tg it) ρ = .ok (.bl (xs.any p)) := by
  simp only [ev, hi, Out.bind_ok]
  rw [genL_any (en := en) (p := p) h]
  rfl
theorem ev_all {p : α → Bool} (hi : evIt Φ gv it ρ = .ok (xs.map en, b)) (h : ∀ x ∈ xs, ((bindTg tg (en x) (wipeD ρ own)).bind fun ρ' => (ev Φ gv e ρ').bind boolD) = .ok (p x)) : ev Φ gv (.gen true own e tg it) ρ = .ok (.bl (xs.all p)) := by
  simp only [ev, hi, Out.bind_ok]
  rw [genL_all (en := en) (p := p) h]
  rfl
theorem ev_compF {p : α → Bool} {f : α → D} (hi : evIt Φ gv it ρ = .ok (xs.map en, b)) (hs : xs.length ≤ sizeLine)
    (h : ∀ x ∈ xs, ((bindTg tg (en x) (wipeD ρ own)).bind fun ρ' => (evc Φ gv cs ρ').bind fun b => if b = true then (ev Φ gv e ρ').bind fun y => .ok (some y) else .ok none) = .ok (if p x = true then some (f x) else none)) :
    ev Φ gv (.comp own e tg it cs) ρ = .ok (.lst .ow ((xs.filter p).map f)) := by
  simp only [ev, hi, Out.bind_ok]
  rw [compL_enc (en := en) (p := p) (h := f) h]
  have z : (xs.filter p).length ≤ sizeLine := Nat.le_trans (List.length_filter_le _ _) hs
  simp [z]
theorem ev_comp {f : α → D} (hi : evIt Φ gv it ρ = .ok (xs.map en, b)) (hs : xs.length ≤ sizeLine)
    (h : ∀ x ∈ xs, ((bindTg tg (en x) (wipeD ρ own)).bind fun ρ' => (ev Φ gv e ρ').bind fun y => .ok (some y)) = .ok (some (f x))) :
    ev Φ gv (.comp own e tg it []) ρ = .ok (.lst .ow (xs.map f)) := by
  have z := ev_compF (Φ := Φ) (gv := gv) (e := e) (tg := tg) (own := own) (cs := []) (p := fun _ => true) (f := f) hi hs fun x hx => by simpa [evc] using h x hx
  rwa [List.filter_eq_self.mpr fun _ _ => rfl] at z
end
end Pu

set_option Elab.async false
set_option linter.all false
set_option maxRecDepth 100000
/-! Pv4: what expressions come to, one form each (for simp). -/
namespace Pu
open PySem PySem.Spec PyProof.Rows L2
section
variable {Φ : Nat → List D → Out (D × List D)} {gv : Nat → D} {ρ : List (Option D)} {a b c : Ex} {es : List Ex}
@[simp] theorem ev_var {i : Nat} : ev Φ gv (.var i) ρ = match ρ[i]? with | some (some d) => .ok (vwD d) | _ => .bad := by unfold ev; rfl
@[simp] theorem ev_non : ev Φ gv .non ρ = .ok .non := by simp only [ev]
@[simp] theorem ev_bl {i : Bool} : ev Φ gv (.bl i) ρ = .ok (.bl i) := by simp only [ev]
@[simp] theorem ev_int {i : Int} : ev Φ gv (.int i) ρ = .ok (.int i) := by simp only [ev]
@[simp] theorem ev_str {i : Str} : ev Φ gv (.str i) ρ = .ok (.str i) := by simp only [ev]
@[simp] theorem ev_bin {o : Bop} : ev Φ gv (.bin o a b) ρ = (ev Φ gv a ρ).bind fun x => (ev Φ gv b ρ).bind fun y => binD o x y := by simp only [ev]
@[simp] theorem ev_neg : ev Φ gv (.neg a) ρ = (ev Φ gv a ρ).bind negD := by simp only [ev]
@[simp] theorem ev_not : ev Φ gv (.not a) ρ = (ev Φ gv a ρ).bind fun x => (Out.ofo (truD x)).bind fun b => .ok (.bl (!b)) := by simp only [ev]
@[simp] theorem ev_cmp {o : Cop} : ev Φ gv (.cmp o a b) ρ = (ev Φ gv a ρ).bind fun x => (ev Φ gv b ρ).bind fun y => (Out.ofo (cmpB o x y)).bind fun t => .ok (.bl t) := by simp only [ev]
@[simp] theorem ev_and : ev Φ gv (.and a b) ρ = (ev Φ gv a ρ).bind fun x => (Out.ofo (truD x)).bind fun t => if t = true then ev Φ gv b ρ else .ok x := by simp only [ev]
@[simp] theorem ev_or : ev Φ gv (.or a b) ρ = (ev Φ gv a ρ).bind fun x => (Out.ofo (truD x)).bind fun t => if t = true then .ok x else ev Φ gv b ρ := by simp only [ev]
@[simp] theorem ev_ife : ev Φ gv (.ife c a b) ρ = (ev Φ gv c ρ).bind fun x => (Out.ofo (truD x)).bind fun t => if t = true then ev Φ gv a ρ else ev Φ gv b ρ := by simp only [ev]
@[simp] theorem ev_tup : ev Φ gv (.tup es) ρ = (evs Φ gv es ρ).bind fun ds => .chk (decide (ds.length ≤ sizeLine)) (.ok (.tup ds)) := by simp only [ev]
@[simp] theorem ev_lst : ev Φ gv (.lst es) ρ = (evs Φ gv es ρ).bind fun ds => .chk (decide (ds.length ≤ sizeLine)) (.ok (.lst .ow ds)) := by simp only [ev]
@[simp] theorem ev_idx : ev Φ gv (.idx a b) ρ = (ev Φ gv a ρ).bind fun x => (ev Φ gv b ρ).bind fun y => idxD x y := by simp only [ev]
@[simp] theorem ev_slc {lo hi : List Ex} : ev Φ gv (.slc a lo hi) ρ = (ev Φ gv a ρ).bind fun x => ((evs Φ gv lo ρ).bind optI).bind fun l => ((evs Φ gv hi ρ).bind optI).bind fun h => slcD x l h := by simp only [ev]
@[simp] theorem ev_rev : ev Φ gv (.rev a) ρ = (ev Φ gv a ρ).bind revD := by simp only [ev]
@[simp] theorem ev_bi {f : Bi} : ev Φ gv (.bi f es) ρ = (evs Φ gv es ρ).bind fun ds => biD f ds := by simp only [ev]
@[simp] theorem ev_isi {t : Ty} : ev Φ gv (.isi a t) ρ = (ev Φ gv a ρ).bind fun x => (tyD t x).bind fun b => .ok (.bl b) := by simp only [ev]
@[simp] theorem ev_call {k : Nat} : ev Φ gv (.call k es) ρ = (evs Φ gv es ρ).bind fun ds => callD Φ k ds := by simp only [ev]
@[simp] theorem ev_mk {c k : Nat} : ev Φ gv (.mk c k es) ρ = (evs Φ gv es ρ).bind fun ds => mkD Φ c k ds := by simp only [ev]
@[simp] theorem ev_fld {f : Str} : ev Φ gv (.fld a f) ρ = (ev Φ gv a ρ).bind fun x => fldD f x := by simp only [ev]
@[simp] theorem evs_nil : evs Φ gv [] ρ = .ok [] := by simp only [evs]
@[simp] theorem evs_cons : evs Φ gv (a :: es) ρ = (ev Φ gv a ρ).bind fun x => (evs Φ gv es ρ).bind fun xs => .ok (x :: xs) := by simp only [evs]
@[simp] theorem evc_nil : evc Φ gv [] ρ = .ok true := by simp only [evc]
@[simp] theorem evc_cons : evc Φ gv (a :: es) ρ = (ev Φ gv a ρ).bind fun x => (Out.ofo (truD x)).bind fun b => if b = true then evc Φ gv es ρ else .ok false := by simp only [evc]
@[simp] theorem evIt_of : evIt Φ gv (.of a) ρ = (ev Φ gv a ρ).bind fun x => (ofD (fzD x)).bind fun xs => .ok (xs, noVw x) := by simp only [evIt]
@[simp] theorem evIt_rng : evIt Φ gv (.rng es) ρ = (evs Φ gv es ρ).bind fun ds => (rngA ds).bind fun xs => .ok (xs, true) := by simp only [evIt]
@[simp] theorem evIt_enum : evIt Φ gv (.enum a) ρ = (ev Φ gv a ρ).bind fun x => (listD (fzD x)).bind fun xs => .ok (enumL 0 xs, noVw x) := by simp only [evIt]
@[simp] theorem bi_lenL {f : Fl} {xs : List D} : biD .len [.lst f xs] = .ok (.int xs.length) := id rfl
@[simp] theorem bi_lenT {xs : List D} : biD .len [.tup xs] = .ok (.int xs.length) := id rfl
@[simp] theorem bi_int {i : Int} : biD .int [.int i] = .ok (.int i) := id rfl
@[simp] theorem bi_intB {i : Bool} : biD .int [.bl i] = .ok (.int (if i then 1 else 0)) := id rfl
@[simp] theorem bi_tupL {f : Fl} {xs : List D} : biD .tuple [.lst f xs] = .ok (.tup xs) := id rfl
@[simp] theorem bi_tupT {xs : List D} : biD .tuple [.tup xs] = .ok (.tup xs) := id rfl
@[simp] theorem bi_lstL {f : Fl} {xs : List D} : biD .list [.lst f xs] = .ok (.lst .ow xs) := id rfl
@[simp] theorem bi_lstT {xs : List D} : biD .list [.tup xs] = .ok (.lst .ow xs) := id rfl
@[simp] theorem bin_addI {i j : Int} : binD .add (.int i) (.int j) = .ok (.int (i + j)) := id rfl
@[simp] theorem bin_subI {i j : Int} : binD .sub (.int i) (.int j) = .ok (.int (i - j)) := id rfl
@[simp] theorem bin_addL {f g : Fl} {xs ys : List D} : binD .add (.lst f xs) (.lst g ys) = .chk (decide (xs.length + ys.length ≤ sizeLine)) (.ok (.lst .ow (xs ++ ys))) := id rfl
@[simp] theorem ofD_lst {f : Fl} {xs : List D} : ofD (.lst f xs) = .ok xs := id rfl
@[simp] theorem ofD_tup {xs : List D} : ofD (.tup xs) = .ok xs := id rfl
@[simp] theorem optI_n : optI [] = .ok none := id rfl
@[simp] theorem optI_i {i : Int} : optI [.int i] = .ok (some i) := id rfl
@[simp] theorem slc_lst {f : Fl} {xs : List D} {lo hi : Option Int} : slcD (.lst f xs) lo hi = .ok (.lst .ow (cutD xs lo hi)) := id rfl
end
end Pu

set_option Elab.async false
set_option linter.all false
set_option maxRecDepth 100000
/-! Pv5: append, loops. -/
namespace Pu
open PySem PySem.Spec PyProof.Rows L2
/-- a clean value, or the slow way -/
def cleanO (o : Out D) (s : Re) (k : D → Re) : Re := match o with
  | .ok d => if noVw d = true then k d else s
  | _ => s
@[simp] theorem cleanO_ok {d : D} {s : Re} {k : D → Re} : cleanO (.ok d) s k = if noVw d = true then k d else s := id rfl
@[simp] theorem cleanO_ite {c : Prop} [Decidable c] {a b : Out D} {s : Re} {k : D → Re} : cleanO (if c then a else b) s k = if c then cleanO a s k else cleanO b s k := by split <;> rfl
def appK (ρ : List (Option D)) (i : Nat) (y : D) : Re := match ρ[i]? with
  | some (some (.lst .ow xs)) => if xs.length < sizeLine then .nx (ρ.set i (some (.lst .ow (xs ++ [y])))) else .bad
  | _ => .bad
def appSlow (Φ : Nat → List D → Out (D × List D)) (gv : Nat → D) (pi : List Nat) (i : Nat) (e : Ex) (ρ : List (Option D)) : Re := run1 Φ gv pi (.app i [] e) ρ
section
variable {Φ : Nat → List D → Out (D × List D)} {gv : Nat → D} {pi : List Nat} {ρ : List (Option D)}
theorem run_app {i : Nat} {e : Ex} : run1 Φ gv pi (.app i [] e) ρ = cleanO (ev Φ gv e ρ) (appSlow Φ gv pi i e ρ) (appK ρ i) := by
  unfold appSlow
  cases h : ev Φ gv e ρ with
  | ok d =>
    by_cases n : noVw d = true
    · have hp : prep Φ gv pi e ρ = ρ := by unfold prep; simp only [h, n, if_true]
      simp only [run1, hp, h, cleanO, n, if_true, appK, slotD, subAt, putAt]
      cases q : ρ[i]? with
      | none => rfl
      | some o => cases o with
        | none => rfl
        | some x => cases x with
          | lst f xs => cases f <;> simp [evp, subD, updD, Out.bind, Out.re, n]
          | _ => rfl
    · simp only [cleanO, n]
      rfl
  | exc x => rfl
  | bad => rfl
theorem run_fr {t : Tg} {it : It} {b : List Sm} {xs : List D} (h : evIt Φ gv it ρ = .ok (xs, true)) (n : noVws xs = true) : run1 Φ gv pi (.fr t it b) ρ = loopF (fun x ρ => (bindC t x ρ).seq fun ρ' => runs Φ gv pi b ρ') xs ρ := by
  have hp : prepI Φ gv pi it ρ = ρ := by unfold prepI; simp only [h, n, and_self, if_true]
  simp only [run1, hp, h, re_ok', if_true]
theorem run_rtv {i : Nat} : run1 Φ gv pi (.rtv i) ρ = match ρ[i]? with | some (some d) => .rt d (ρ.set i none) | _ => .bad := by unfold run1; rfl
end
theorem intsFrom_eq (n : Nat) : ∀ (k : Nat), intsFrom (k : Int) n = (List.range' k n).map fun (j : Nat) => D.int (j : Int) := by
  induction n with
  | zero => intro k; rfl
  | succ n ih =>
    intro k
    rw [intsFrom, List.range'_succ, List.map_cons, show (k : Int) + 1 = ((k + 1 : Nat) : Int) by omega, ih]
theorem rng_eq {n : Nat} (h : n ≤ 1000000) : rngA [.int (n : Int)] = .ok ((List.range n).map fun (j : Nat) => D.int (j : Int)) := by
  have z : rngA [.int (n : Int)] = rngD 0 n := rfl
  rw [z]
  unfold rngD
  have e : ((n : Int) - 0).toNat = n := by omega
  rw [e, show (0 : Int) = ((0 : Nat) : Int) from rfl, intsFrom_eq, List.range_eq_range']
  have g : (-(2 ^ 62) ≤ ((0 : Nat) : Int) ∧ ((0 : Nat) : Int) < 2 ^ 62 ∧ -(2 ^ 62) ≤ (n : Int) ∧ (n : Int) < 2 ^ 62) := by omega
  simp only [chk_eq, decide_eq_true_eq, if_pos g]
theorem ints_flat {n : Nat} {α : Type} {g : α → Int} {xs : List α} : flats n (xs.map fun x => D.int (g x)) = true := by
  rw [flats_iff]
  intro x hx
  obtain ⟨j, _, rfl⟩ := List.mem_map.mp hx
  simp [flat]
@[simp] theorem bin_modI {i j : Int} : binD .mod (.int i) (.int j) = if 0 < j then .ok (.int (i % j)) else .bad := by
  show Out.chk _ _ = _
  simp
@[simp] theorem bin_fdivI {i j : Int} : binD .fdiv (.int i) (.int j) = if 0 < j ∧ j < 1073741824 then .ok (.int (i / j)) else .bad := by
  show Out.chk _ _ = _
  simp
theorem bin_mulI {i j : Int} (h : -(2 ^ 64) < j ∧ j < 2 ^ 64) : binD .mul (.int i) (.int j) = .ok (.int (i * j)) := by
  show Out.chk _ _ = _
  simp only [h, and_self, decide_true, Bool.or_true, Out.chk_true]
theorem bin_powI : binD .pow (.int 10) (.int 18) = .ok (.int 1000000000000000000) := by
  show Out.chk _ _ = _
  simp
@[simp] theorem bindC_nm {i : Nat} {d : D} {ρ : List (Option D)} : Pu.bindC (.nm i) d ρ = if noVw d = true then (if i < ρ.length then .nx (ρ.set i (some d)) else .bad) else .bad := by
  unfold Pu.bindC bindTg
  split
  · by_cases h : i < ρ.length <;> simp [h]
  · rfl
theorem evIt_rng1 {Φ : Nat → List D → Out (D × List D)} {gv : Nat → D} {ρ : List (Option D)} {i : Nat} {d : D} {zs : List D} (h : ρ[i]? = some (some d)) (hv : vwD d = d) (e : rngA [d] = .ok zs) : evIt Φ gv (.rng [.var i]) ρ = .ok (zs, true) := by
  rw [evIt_rng, evs_cons, evs_nil, ev_var, h]
  show (rngA [vwD d]).bind _ = _
  rw [hv, e]
  rfl
theorem evIt_range {Φ : Nat → List D → Out (D × List D)} {gv : Nat → D} {ρ : List (Option D)} {i c : Nat} (h : ρ[i]? = some (some (.int (c : Int)))) (hc : c ≤ 1000000) : evIt Φ gv (.rng [.var i]) ρ = .ok ((List.range c).map fun (j : Nat) => D.int (j : Int), true) := evIt_rng1 h rfl (rng_eq hc)
end Pu

set_option Elab.async false
set_option linter.all false
set_option maxRecDepth 100000
/-! Pv6: encoded lists, good texts. -/
namespace Pu
open PySem PySem.Spec PyProof.Rows L2
section
variable {α : Type} {f : α → D} {xs : List α} {a b : List D} {n k : Nat}
@[simp] theorem vwDs_map : vwDs (xs.map f) = xs.map fun x => vwD (f x) := by rw [vwDs_eq, List.map_map]; rfl
@[simp] theorem fzDs_map : fzDs (xs.map f) = xs.map fun x => fzD (f x) := by rw [fzDs_eq, List.map_map]; rfl
@[simp] theorem vaDs_map : vaDs (xs.map f) = xs.map fun x => vaD (f x) := by rw [vaDs_eq, List.map_map]; rfl
theorem anyFzs_eq : ∀ xs : List D, anyFzs xs = xs.map anyFz
  | [] => rfl
  | x :: xs => by simp only [anyFzs, List.map_cons, anyFzs_eq xs]
@[simp] theorem anyFzs_map : anyFzs (xs.map f) = xs.map fun x => anyFz (f x) := by rw [anyFzs_eq, List.map_map]; rfl
@[simp] theorem noVws_map : noVws (xs.map f) = xs.all fun x => noVw (f x) := by rw [noVws_eq, List.all_map]; rfl
theorem flats_eq : ∀ xs : List D, flats n xs = xs.all (flat n)
  | [] => rfl
  | x :: xs => by simp only [flats, List.all_cons, flats_eq xs]
@[simp] theorem flats_map : flats n (xs.map f) = xs.all fun x => flat n (f x) := by rw [flats_eq, List.all_map]; rfl
@[simp] theorem all_tt : (xs.all fun _ => true) = true := by simp
@[simp] theorem vwDs_app : vwDs (a ++ b) = vwDs a ++ vwDs b := by simp [vwDs_eq]
@[simp] theorem fzDs_app : fzDs (a ++ b) = fzDs a ++ fzDs b := by simp [fzDs_eq]
@[simp] theorem vaDs_app : vaDs (a ++ b) = vaDs a ++ vaDs b := by simp [vaDs_eq]
@[simp] theorem anyFzs_app : anyFzs (a ++ b) = anyFzs a ++ anyFzs b := by simp [anyFzs_eq]
@[simp] theorem noVws_app' : noVws (a ++ b) = (noVws a && noVws b) := by simp [noVws_eq]
@[simp] theorem flats_app : flats n (a ++ b) = (flats n a && flats n b) := by simp [flats_eq]
@[simp] theorem flats_nil : flats n [] = true := id rfl
@[simp] theorem flats_cons {x : D} {xs : List D} : flats n (x :: xs) = (flat n x && flats n xs) := id rfl
@[simp] theorem flat_tup {xs : List D} : flat (n + 1) (.tup xs) = flats n xs := by rw [flat]
@[simp] theorem flat_int {i : Int} : flat n (.int i) = true := by cases n <;> rfl
@[simp] theorem flat_non : flat n .non = true := by cases n <;> rfl
@[simp] theorem flat_str {x : Str} : flat n (.str x) = PyData.strOk x := by cases n <;> rfl
end
/-! ### good texts -/
structure OkS where
  val : Str
  prop : PyData.strOk val = true
  deriving DecidableEq
@[simp] theorem OkS.ok (w : OkS) : PyData.strOk w.1 = true := w.2
theorem OkS.ext {a b : OkS} (h : a.1 = b.1) : a = b := by cases a; cases b; cases h; rfl
@[simp] theorem OkS.eq1 {a b : OkS} : (a.1 = b.1) = (a = b) := propext ⟨OkS.ext, fun h => by rw [h]⟩
theorem strOk_app {a b : Str} (h : PyData.strOk a = true) (g : PyData.strOk b = true) : PyData.strOk (a ++ b) = true := by
  unfold PyData.strOk at *
  show Array.all (a.cps ++ b.cps) _ = true
  rw [Array.all_append, h, g]; rfl
/-! ### comparisons -/
section
variable {x y : D} {xs ys : List D} {f g : Fl}
theorem cmp_eq8 (hx : flat 8 x = true) (hy : flat 8 y = true) : cmpB .eq x y = some (eqb x y) := cmp_eq hx hy
theorem cmp_ne8 (hx : flat 8 x = true) (hy : flat 8 y = true) : cmpB .ne x y = some (!eqb x y) := cmp_ne hx hy
theorem cmp_eqL8 (hx : flats 8 xs = true) (hy : flats 8 ys = true) : cmpB .eq (.lst f xs) (.lst g ys) = some (eqbs xs ys) := cmp_eqL hx hy
theorem cmp_neL8 (hx : flats 8 xs = true) (hy : flats 8 ys = true) : cmpB .ne (.lst f xs) (.lst g ys) = some (!eqbs xs ys) := cmp_neL hx hy
theorem cmp_inL8 (hx : flat 8 x = true) (hy : flats 8 ys = true) : cmpB .isIn x (.lst f ys) = some (memb x ys) := cmp_inL hx hy
theorem cmp_inT8 (hx : flat 8 x = true) (hy : flats 8 ys = true) : cmpB .isIn x (.tup ys) = some (memb x ys) := cmp_inT hx hy
end
theorem eqbs_inj {α : Type} [DecidableEq α] {en : α → D} (h : ∀ a b, en a = en b → a = b) {xs ys : List α} : eqbs (xs.map en) (ys.map en) = decide (xs = ys) := bool_of (by
  rw [eqbs_iff, decide_eq_true_iff]
  constructor
  · intro e
    induction xs generalizing ys with
    | nil => cases ys with | nil => rfl | cons _ _ => simp at e
    | cons x xs ih => cases ys with
      | nil => simp at e
      | cons y ys => simp only [List.map_cons, List.cons.injEq] at e; rw [h _ _ e.1, ih e.2]
  · intro e; rw [e])
theorem memb_inj {α : Type} [DecidableEq α] {en : α → D} (h : ∀ a b, en a = en b → a = b) {x : α} {ys : List α} : memb (en x) (ys.map en) = decide (x ∈ ys) := bool_of (by
  rw [memb_iff, decide_eq_true_iff, List.mem_map]
  exact ⟨fun ⟨y, hy, e⟩ => by rw [← h _ _ e]; exact hy, fun hx => ⟨x, hx, rfl⟩⟩)
/-! ### parts of lists -/
section
variable {α β : Type} {xs : List α} {k j : Nat}
theorem cut_nn : cutD xs none none = xs := by
  simp [cutD, HT.sIx]
theorem sIx_nat {n d : Nat} : HT.sIx n d (some (k : Int)) = min k n := by
  unfold HT.sIx
  simp only [Int.ofNat_nonneg, if_true]
  first | rfl | simp | omega
@[simp] theorem cut_to : cutD xs none (some (k : Int)) = xs.take k := by
  unfold cutD
  rw [sIx_nat]
  have e : HT.sIx xs.length 0 none = 0 := by simp [HT.sIx]
  rw [e, List.drop_zero, Nat.sub_zero]
  by_cases h : k ≤ xs.length
  · rw [Nat.min_eq_left h]
  · rw [Nat.min_eq_right (by omega), List.take_of_length_le (by omega), List.take_of_length_le (by omega)]
@[simp] theorem cut_from : cutD xs (some (k : Int)) none = xs.drop k := by
  unfold cutD
  rw [sIx_nat]
  have e : HT.sIx xs.length xs.length none = xs.length := by simp [HT.sIx]
  rw [e]
  by_cases h : k ≤ xs.length
  · rw [Nat.min_eq_left h, List.take_of_length_le (by simp)]
  · rw [Nat.min_eq_right (by omega), Nat.sub_self, List.take_zero, List.drop_of_length_le (by omega)]
@[simp] theorem cut_mid : cutD xs (some (j : Int)) (some (k : Int)) = (xs.drop j).take (k - j) := by
  unfold cutD
  rw [sIx_nat, sIx_nat]
  by_cases h : j ≤ xs.length
  · rw [Nat.min_eq_left h]
    by_cases g : k ≤ xs.length
    · rw [Nat.min_eq_left g]
    · rw [Nat.min_eq_right (by omega), List.take_of_length_le (by simp), List.take_of_length_le (by simp; omega)]
  · rw [Nat.min_eq_right (a := j) (by omega), List.drop_of_length_le (by omega), List.drop_of_length_le (by omega)]
    simp
@[simp] theorem cut_from1 : cutD xs (some ((k : Int) + 1)) none = xs.drop (k + 1) := cut_from (k := k + 1)
@[simp] theorem cut_from2 : cutD xs (some ((k : Int) + 2)) none = xs.drop (k + 2) := cut_from (k := k + 2)
theorem cut_to' {i : Int} (h : 0 ≤ i) : cutD xs none (some i) = xs.take i.toNat := by
  have e := cut_to (xs := xs) (k := i.toNat)
  rwa [Int.toNat_of_nonneg h] at e
theorem cut_from' {i : Int} (h : 0 ≤ i) : cutD xs (some i) none = xs.drop i.toNat := by
  have e := cut_from (xs := xs) (k := i.toNat)
  rwa [Int.toNat_of_nonneg h] at e
end
theorem atI_i {α : Type} {xs : List α} {i : Int} (h : 0 ≤ i) : atI xs i = xs[i.toNat]? := by
  have e := atI_n (xs := xs) (k := i.toNat)
  rwa [Int.toNat_of_nonneg h] at e
/-! ### a loop -/
section
variable {Φ : Nat → List D → Out (D × List D)} {gv : Nat → D} {pi : List Nat} {ρ : List (Option D)}
/-- a loop by an invariant on the slots, place by place -/
theorem fr_inv {α : Type} {en : α → D} {xs : List α} {t : Tg} {it : It} {b : List Sm} (J : Nat → List (Option D) → Prop) (hi : evIt Φ gv it ρ = .ok (xs.map en, true)) (hn : noVws (xs.map en) = true) (h0 : J 0 ρ)
    (step : ∀ i x ρ, xs[i]? = some x → J i ρ → ∃ ρ', (((bindC t (en x) ρ).seq fun ρ' => runs Φ gv pi b ρ') = .nx ρ' ∨ ((bindC t (en x) ρ).seq fun ρ' => runs Φ gv pi b ρ') = .ct ρ') ∧ J (i + 1) ρ') :
    ∃ ρ', run1 Φ gv pi (.fr t it b) ρ = .nx ρ' ∧ J xs.length ρ' := by
  rw [run_fr hi hn]
  exact loopF_for J step h0
/-- a loop that looks for something: returned at the first that p picks -/
theorem fr_find {α : Type} {en : α → D} {xs : List α} {t : Tg} {it : It} {b : List Sm} (J : List (Option D) → Prop) (r : α → D) (p : α → Bool) (hi : evIt Φ gv it ρ = .ok (xs.map en, true)) (hn : noVws (xs.map en) = true) (h0 : J ρ)
    (step : ∀ x ∈ xs, ∀ ρ, J ρ → (p x = true → ∃ ρ', ((bindC t (en x) ρ).seq fun ρ' => runs Φ gv pi b ρ') = .rt (r x) ρ') ∧ (p x = false → ∃ ρ', ((bindC t (en x) ρ).seq fun ρ' => runs Φ gv pi b ρ') = .nx ρ' ∧ J ρ')) :
    (∃ x ρ', xs.find? p = some x ∧ run1 Φ gv pi (.fr t it b) ρ = .rt (r x) ρ') ∨ (∃ ρ', xs.find? p = none ∧ run1 Φ gv pi (.fr t it b) ρ = .nx ρ' ∧ J ρ') := by
  rw [run_fr hi hn]
  obtain ⟨⟨ρ', h1⟩, h2⟩ := loopF_find (en := en) (f := fun x ρ => (bindC t x ρ).seq fun ρ' => runs Φ gv pi b ρ') (xs := xs) J r p step h0
  cases h : xs.find? p with
  | some x => rw [h] at h1; exact .inl ⟨x, ρ', rfl, h1⟩
  | none => obtain ⟨ρ2, e, j⟩ := h2 h; exact .inr ⟨ρ2, rfl, e, j⟩
end
end Pu

set_option Elab.async false
set_option linter.all false
set_option maxRecDepth 100000
/-! Pv7: lists made by a loop, for simp; literals; calls. -/
namespace Pu
open PySem PySem.Spec PyProof.Rows L2
/-- the j-th, where there is one -/
def nth {α : Type} [Inhabited α] (xs : List α) (j : Nat) : α := (xs[j]?).getD default
theorem get_nth {α : Type} [Inhabited α] {xs : List α} {j : Nat} (h : j < xs.length) : xs[j]? = some (nth xs j) := by
  unfold nth
  rw [List.getElem?_eq_getElem h]; rfl
theorem nth_mem {α : Type} [Inhabited α] {xs : List α} {j : Nat} (h : j < xs.length) : nth xs j ∈ xs := List.mem_of_getElem? (get_nth h)
/-- a list made by a loop over natural data -/
def compE {α : Type} (g : α → Out (Option D)) : List α → Out (List D)
  | [] => .ok []
  | x :: xs => (g x).bind fun y => (compE g xs).bind fun ys => .ok (match y with | some y => y :: ys | none => ys)
/-- .. over the first n numbers -/
def compR (n : Nat) (g : Nat → Out (Option D)) : Out (List D) := compE g (List.range n)
section
variable {α : Type} {g : α → Out (Option D)} {en : α → D} {ys : List α}
theorem compL_E {g : D → Out (Option D)} : compL (ys.map en) g = compE (fun y => g (en y)) ys := by
  induction ys with
  | nil => rfl
  | cons y ys ih => simp only [List.map_cons, compL, compE, ih]; try rfl
theorem compL_D {xs : List D} {g : D → Out (Option D)} : compL xs g = compE g xs := by
  induction xs with
  | nil => rfl
  | cons y ys ih => simp only [compL, compE, ih]; try rfl
theorem compL_R {n : Nat} {g : D → Out (Option D)} : compL ((List.range n).map fun (j : Nat) => D.int (j : Int)) g = compR n fun j => g (.int (j : Int)) := compL_E
theorem compE_ok {h : α → D} (e : ∀ y ∈ ys, g y = .ok (some (h y))) : compE g ys = .ok (ys.map h) := by
  induction ys with
  | nil => rfl
  | cons y ys ih => simp only [compE, e y List.mem_cons_self, Out.bind_ok, ih fun z hz => e z (List.mem_cons_of_mem _ hz), List.map_cons]
theorem compE_fil {h : α → D} {p : α → Bool} (e : ∀ y ∈ ys, g y = .ok (if p y = true then some (h y) else none)) : compE g ys = .ok ((ys.filter p).map h) := by
  induction ys with
  | nil => rfl
  | cons y ys ih =>
    simp only [compE, e y List.mem_cons_self, Out.bind_ok, ih fun z hz => e z (List.mem_cons_of_mem _ hz)]
    cases q : p y <;> simp [q]
@[simp] theorem compE_some {h : α → D} : compE (fun y => .ok (some (h y))) ys = .ok (ys.map h) := compE_ok fun _ _ => rfl
@[simp] theorem compE_if {h : α → D} {p : α → Prop} [DecidablePred p] : compE (fun y => if p y then .ok (some (h y)) else .ok none) ys = .ok ((ys.filter fun y => decide (p y)).map h) := compE_fil fun y _ => by
  by_cases q : p y <;> simp [q]
theorem compE_congr {g' : α → Out (Option D)} (e : ∀ y ∈ ys, g y = g' y) : compE g ys = compE g' ys := by
  induction ys with
  | nil => rfl
  | cons y ys ih => simp only [compE, e y List.mem_cons_self, ih fun z hz => e z (List.mem_cons_of_mem _ hz)]
theorem compR_congr {n m : Nat} {g g' : Nat → Out (Option D)} (hn : n = m) (e : ∀ j, j < m → g j = g' j) : compR n g = compR m g' := by
  subst hn
  exact compE_congr fun j hj => e j (List.mem_range.mp hj)
@[simp] theorem compR_some {n : Nat} {h : Nat → D} : compR n (fun y => .ok (some (h y))) = .ok ((List.range n).map h) := compE_some
@[simp] theorem compR_if {n : Nat} {h : Nat → D} {p : Nat → Prop} [DecidablePred p] : compR n (fun y => if p y then .ok (some (h y)) else .ok none) = .ok (((List.range n).filter fun y => decide (p y)).map h) := compE_if
theorem genL_E {a : Bool} {g : D → Out Bool} {p : α → Bool} (e : ∀ y ∈ ys, g (en y) = .ok (p y)) : genL a (ys.map en) g = .ok (if a then ys.all p else ys.any p) := by
  cases a
  · exact genL_any e
  · exact genL_all e
end
@[simp] theorem calm_if {α : Type} {c : Prop} [Decidable c] {a b : Out α} : (if c then a else b).calm = if c then a.calm else b.calm := by split <;> rfl
section
variable {Φ : Nat → List D → Out (D × List D)} {gv : Nat → D} {ρ : List (Option D)} {own : List Nat} {elt : Ex} {tg : Tg} {it : It} {cond : List Ex}
theorem ev_cmp' : ev Φ gv (.comp own elt tg it cond) ρ = (evIt Φ gv it ρ).bind fun xs => ((compL xs.1 fun x => (bindTg tg x (wipeD ρ own)).bind fun ρ' => (evc Φ gv cond ρ').bind fun b =>
      if b = true then (ev Φ gv elt ρ').bind fun y => .ok (some y) else .ok none).calm).bind fun ys => .chk (decide (ys.length ≤ sizeLine)) (.ok (.lst .ow ys)) := by rw [ev]
theorem ev_gen' {a : Bool} : ev Φ gv (.gen a own elt tg it) ρ = (evIt Φ gv it ρ).bind fun xs => ((genL a xs.1 fun x => (bindTg tg x (wipeD ρ own)).bind fun ρ' => (ev Φ gv elt ρ').bind boolD).calm).bind fun b => .ok (.bl b) := by rw [ev]
end
@[simp] theorem bindTg_nm {i : Nat} {d : D} {ρ : List (Option D)} : bindTg (.nm i) d ρ = if i < ρ.length then .ok (ρ.set i (some d)) else .bad := by
  unfold bindTg; simp
@[simp] theorem bindTg_tp {is : List Nat} {ds : List D} {ρ : List (Option D)} : bindTg (.tp is) (.tup ds) ρ = putAll is ds ρ := by
  unfold bindTg; rfl
@[simp] theorem bindTg_tpL {is : List Nat} {f : Fl} {ds : List D} {ρ : List (Option D)} : bindTg (.tp is) (.lst f ds) ρ = putAll is ds ρ := by
  unfold bindTg; rfl
@[simp] theorem putAll_nil {ρ : List (Option D)} : putAll [] [] ρ = .ok ρ := id rfl
@[simp] theorem putAll_cons {i : Nat} {is : List Nat} {d : D} {ds : List D} {ρ : List (Option D)} : putAll (i :: is) (d :: ds) ρ = if i < ρ.length then putAll is ds (ρ.set i (some d)) else .bad := by
  rw [putAll]; simp
@[simp] theorem lits : PyData.strOk "order" = true ∧ PyData.strOk "once" = true ∧ PyData.strOk "less" = true ∧ PyData.strOk "equal" = true ∧ PyData.strOk "greater" = true ∧ PyData.strOk "abcdefghijklmnopqrstuvwxyz" = true := by decide +kernel
end Pu

set_option Elab.async false
set_option linter.all false
set_option maxRecDepth 100000
/-! Pv8: texts as lists of signs. -/
namespace Pu
open PySem PySem.Spec PyProof.Rows L2
def mkS (l : List Nat) : Str := ⟨l.toArray⟩
theorem mkS_app {a b : List Nat} : mkS a ++ mkS b = mkS (a ++ b) := by
  show Str.append _ _ = _
  simp [mkS, Str.append]
theorem mkS_len {a : List Nat} : (mkS a).length = a.length := by simp [mkS, Str.length]
theorem mkS_inj {a b : List Nat} (h : mkS a = mkS b) : a = b := by
  have z := congrArg (fun s : Str => s.cps.toList) h
  simpa [mkS] using z
@[simp] theorem mkS_eq {a b : List Nat} : (mkS a = mkS b) = (a = b) := propext ⟨mkS_inj, fun h => by rw [h]⟩
theorem mkS_ok {a : List Nat} (h : ∀ c ∈ a, c < 128) : PyData.strOk (mkS a) = true := by
  unfold PyData.strOk mkS
  rw [← Array.all_toList, List.all_eq_true]
  intro c hc
  have := h c hc
  simp only [decide_eq_true_eq]
  omega
theorem bin_addS {a b : List Nat} : binD .add (.str (mkS a)) (.str (mkS b)) = if a.length + b.length ≤ sizeLine then .ok (.str (mkS (a ++ b))) else .bad := by
  show Out.chk _ _ = _
  simp [mkS_len, mkS_app]
theorem idx_S {l : List Nat} {i : Int} : idxD (.str (mkS l)) (.int i) = if l.length ≤ sizeLine then (match atI l i with | some c => .ok (.str (mkS [c])) | none => .bad) else .bad := by
  show Out.chk _ _ = _
  simp [mkS, Str.length]
  try rfl
theorem len_S {l : List Nat} : biD .len [.str (mkS l)] = if l.length ≤ sizeLine then .ok (.int (l.length : Int)) else .bad := by
  show Out.chk _ _ = _
  simp [mkS_len]
theorem slc_S {l : List Nat} {lo hi : Option Int} : slcD (.str (mkS l)) lo hi = if l.length ≤ sizeLine then .ok (.str (mkS (cutD l lo hi))) else .bad := by
  show Out.chk _ _ = _
  simp [cutS, cutD, mkS, Str.length]
def alL : List Nat := (List.range 26).map (· + 97)
theorem al_eq : (Str.ofString "abcdefghijklmnopqrstuvwxyz") = mkS alL := by decide +kernel
theorem idx_al {i : Int} : idxD (.str (mkS alL)) (.int (i % 26)) = .ok (.str (mkS [97 + (i % 26).toNat])) := by
  have hs : (26 : Nat) ≤ sizeLine := by decide +kernel
  have h0 : 0 ≤ i % 26 := by omega
  have h1 : (i % 26).toNat < 26 := by omega
  unfold alL
  rw [idx_S, if_pos (by simpa using hs), atI_i h0, List.getElem?_map, List.getElem?_range h1]
  simp [Nat.add_comm]
theorem big5 : ∀ n : Nat, n ≤ 1000 → n ≤ sizeLine := fun n h => Nat.le_trans h (by decide +kernel)
/-! ### what a block must come to -/
/-- goes on under N, breaks under B, returns under R -/
def St (N B : List (Option D) → Prop) (R : D → List (Option D) → Prop) : Re → Prop
  | .nx ρ => N ρ
  | .ct ρ => N ρ
  | .bk ρ => B ρ
  | .rt d ρ => R d ρ
  | _ => False
section
variable {Φ : Nat → List D → Out (D × List D)} {gv : Nat → D} {pi : List Nat} {ρ : List (Option D)} {N B : List (Option D) → Prop} {R : D → List (Option D) → Prop}
@[simp] theorem St_nx : St N B R (.nx ρ) = N ρ := id rfl
@[simp] theorem St_ct : St N B R (.ct ρ) = N ρ := id rfl
@[simp] theorem St_bk : St N B R (.bk ρ) = B ρ := id rfl
@[simp] theorem St_rt {d : D} : St N B R (.rt d ρ) = R d ρ := id rfl
@[simp] theorem St_ite {c : Prop} [Decidable c] {a b : Re} : St N B R (if c then a else b) = if c then St N B R a else St N B R b := by split <;> rfl
theorem loop_Q {α : Type} {en : α → D} {f : D → List (Option D) → Re} {Q : Re → Prop} {k : List (Option D) → Re} (J : Nat → List (Option D) → Prop) {xs : List α}
    (step : ∀ i x ρ, xs[i]? = some x → J i ρ → St (J (i + 1)) (fun ρ' => Q (k ρ')) (fun d ρ' => Q (.rt d ρ')) (f (en x) ρ)) (done : ∀ ρ', J xs.length ρ' → Q (k ρ')) : ∀ {ρ}, J 0 ρ → Q ((loopF f (xs.map en) ρ).seq k) := by
  suffices h : ∀ (ys : List α) (i : Nat) (ρ : List (Option D)), (∀ j y, ys[j]? = some y → xs[i + j]? = some y) → i + ys.length = xs.length → J i ρ → Q ((loopF f (ys.map en) ρ).seq k) from
    fun {ρ} j => h xs 0 ρ (fun j y e => by rw [Nat.zero_add]; exact e) (Nat.zero_add _) j
  intro ys
  induction ys with
  | nil => intro i ρ _ hl j; exact done ρ (by rw [← hl]; exact j)
  | cons y ys ih =>
    intro i ρ hs hl j
    have z := step i y ρ (by have z := hs 0 y rfl; rwa [Nat.add_zero] at z) j
    have go := fun ρ' (j' : J (i + 1) ρ') => ih (i + 1) ρ' (fun k z hk => by have q := hs (k + 1) z (by simpa using hk); rwa [show i + (k + 1) = i + 1 + k by omega] at q) (by simp only [List.length_cons] at hl; omega) j'
    rw [List.map_cons]
    simp only [loopF]
    cases e : f (en y) ρ with
    | nx ρ' => rw [e] at z; exact go ρ' z
    | ct ρ' => rw [e] at z; exact go ρ' z
    | bk ρ' => rw [e] at z; exact z
    | rt d ρ' => rw [e] at z; exact z
    | ex x ρ' => rw [e] at z; exact z.elim
    | bad => rw [e] at z; exact z.elim
/-- THE RULE of a loop: by an invariant, place by place -/
theorem fr_Q {α : Type} {en : α → D} {xs : List α} {t : Tg} {it : It} {b : List Sm} {Q : Re → Prop} {k : List (Option D) → Re} (J : Nat → List (Option D) → Prop) (hi : evIt Φ gv it ρ = .ok (xs.map en, true)) (hn : noVws (xs.map en) = true) (h0 : J 0 ρ)
    (step : ∀ i x ρ, xs[i]? = some x → J i ρ → St (J (i + 1)) (fun ρ' => Q (k ρ')) (fun d ρ' => Q (.rt d ρ')) ((bindC t (en x) ρ).seq fun ρ' => runs Φ gv pi b ρ')) (done : ∀ ρ', J xs.length ρ' → Q (k ρ')) : Q ((run1 Φ gv pi (.fr t it b) ρ).seq k) := by
  rw [run_fr hi hn]
  exact loop_Q J step done h0
/-- .. over the first n numbers -/
theorem fr_QR {n : Nat} {t : Tg} {it : It} {b : List Sm} {Q : Re → Prop} {k : List (Option D) → Re} (J : Nat → List (Option D) → Prop) (hi : evIt Φ gv it ρ = .ok ((List.range n).map fun (j : Nat) => D.int (j : Int), true)) (h0 : J 0 ρ)
    (step : ∀ i ρ, i < n → J i ρ → St (J (i + 1)) (fun ρ' => Q (k ρ')) (fun d ρ' => Q (.rt d ρ')) ((bindC t (.int (i : Int)) ρ).seq fun ρ' => runs Φ gv pi b ρ')) (done : ∀ ρ', J n ρ' → Q (k ρ')) : Q ((run1 Φ gv pi (.fr t it b) ρ).seq k) :=
  fr_Q (en := fun (j : Nat) => D.int (j : Int)) J hi (by simp) h0 (fun i x ρ hx j => by
    have hil : i < n := by
      have := (List.getElem?_eq_some_iff.mp hx).1
      simpa using this
    rw [List.getElem?_range hil] at hx
    cases hx
    exact step i ρ hil j) fun ρ' j => done ρ' (by rwa [List.length_range] at j)
/-- .. the rest of a def -/
theorem fn_fr {α : Type} {en : α → D} {xs : List α} {t : Tg} {it : It} {b : List Sm} {is : List Nat} {v : Out (D × List D)} {k : List (Option D) → Re} (J : Nat → List (Option D) → Prop) (hi : evIt Φ gv it ρ = .ok (xs.map en, true)) (hn : noVws (xs.map en) = true) (h0 : J 0 ρ)
    (step : ∀ i x ρ, xs[i]? = some x → J i ρ → ∀ N B R, (∀ ρ', J (i + 1) ρ' → N ρ') → (∀ ρ', fnEnd is (k ρ') = v → B ρ') → (∀ d ρ', fnEnd is (.rt d ρ') = v → R d ρ') → St N B R ((bindC t (en x) ρ).seq fun ρ' => runs Φ gv pi b ρ')) (done : ∀ ρ', J xs.length ρ' → fnEnd is (k ρ') = v) : fnEnd is ((run1 Φ gv pi (.fr t it b) ρ).seq k) = v :=
  fr_Q (Q := fun r => fnEnd is r = v) J hi hn h0 (fun i x ρ h1 h2 => step i x ρ h1 h2 _ _ _ (fun _ z => z) (fun _ z => z) fun _ _ z => z) done
theorem fn_frR {n : Nat} {t : Tg} {it : It} {b : List Sm} {is : List Nat} {v : Out (D × List D)} {k : List (Option D) → Re} (J : Nat → List (Option D) → Prop) (hi : evIt Φ gv it ρ = .ok ((List.range n).map fun (j : Nat) => D.int (j : Int), true)) (h0 : J 0 ρ)
    (step : ∀ i ρ, i < n → J i ρ → ∀ N B R, (∀ ρ', J (i + 1) ρ' → N ρ') → (∀ ρ', fnEnd is (k ρ') = v → B ρ') → (∀ d ρ', fnEnd is (.rt d ρ') = v → R d ρ') → St N B R ((bindC t (.int (i : Int)) ρ).seq fun ρ' => runs Φ gv pi b ρ')) (done : ∀ ρ', J n ρ' → fnEnd is (k ρ') = v) : fnEnd is ((run1 Φ gv pi (.fr t it b) ρ).seq k) = v :=
  fr_QR (Q := fun r => fnEnd is r = v) J hi h0 (fun i ρ h1 h2 => step i ρ h1 h2 _ _ _ (fun _ z => z) (fun _ z => z) fun _ _ z => z) done
/-- .. within a block -/
theorem st_fr {α : Type} {en : α → D} {xs : List α} {t : Tg} {it : It} {b : List Sm} {k : List (Option D) → Re} (J : Nat → List (Option D) → Prop) (hi : evIt Φ gv it ρ = .ok (xs.map en, true)) (hn : noVws (xs.map en) = true) (h0 : J 0 ρ)
    (step : ∀ i x ρ, xs[i]? = some x → J i ρ → ∀ N' B' R', (∀ ρ', J (i + 1) ρ' → N' ρ') → (∀ ρ', St N B R (k ρ') → B' ρ') → (∀ d ρ', R d ρ' → R' d ρ') → St N' B' R' ((bindC t (en x) ρ).seq fun ρ' => runs Φ gv pi b ρ')) (done : ∀ ρ', J xs.length ρ' → St N B R (k ρ')) : St N B R ((run1 Φ gv pi (.fr t it b) ρ).seq k) :=
  fr_Q (Q := St N B R) J hi hn h0 (fun i x ρ h1 h2 => step i x ρ h1 h2 _ _ _ (fun _ z => z) (fun _ z => z) fun _ _ z => z) done
theorem st_frR {n : Nat} {t : Tg} {it : It} {b : List Sm} {k : List (Option D) → Re} (J : Nat → List (Option D) → Prop) (hi : evIt Φ gv it ρ = .ok ((List.range n).map fun (j : Nat) => D.int (j : Int), true)) (h0 : J 0 ρ)
    (step : ∀ i ρ, i < n → J i ρ → ∀ N' B' R', (∀ ρ', J (i + 1) ρ' → N' ρ') → (∀ ρ', St N B R (k ρ') → B' ρ') → (∀ d ρ', R d ρ' → R' d ρ') → St N' B' R' ((bindC t (.int (i : Int)) ρ).seq fun ρ' => runs Φ gv pi b ρ')) (done : ∀ ρ', J n ρ' → St N B R (k ρ')) : St N B R ((run1 Φ gv pi (.fr t it b) ρ).seq k) :=
  fr_QR (Q := St N B R) J hi h0 (fun i ρ h1 h2 => step i ρ h1 h2 _ _ _ (fun _ z => z) (fun _ z => z) fun _ _ z => z) done
/-- .. the rest of a def, under any question -/
theorem q_fr {α : Type} {en : α → D} {xs : List α} {t : Tg} {it : It} {b : List Sm} {is : List Nat} {k : List (Option D) → Re} (Q : Out (D × List D) → Prop) (J : Nat → List (Option D) → Prop) (hi : evIt Φ gv it ρ = .ok (xs.map en, true)) (hn : noVws (xs.map en) = true) (h0 : J 0 ρ)
    (step : ∀ i x ρ, xs[i]? = some x → J i ρ → ∀ N B R, (∀ ρ', J (i + 1) ρ' → N ρ') → (∀ ρ', Q (fnEnd is (k ρ')) → B ρ') → (∀ d ρ', Q (fnEnd is (.rt d ρ')) → R d ρ') → St N B R ((bindC t (en x) ρ).seq fun ρ' => runs Φ gv pi b ρ')) (done : ∀ ρ', J xs.length ρ' → Q (fnEnd is (k ρ'))) : Q (fnEnd is ((run1 Φ gv pi (.fr t it b) ρ).seq k)) :=
  fr_Q (Q := fun r => Q (fnEnd is r)) J hi hn h0 (fun i x ρ h1 h2 => step i x ρ h1 h2 _ _ _ (fun _ z => z) (fun _ z => z) fun _ _ z => z) done
theorem q_frR {n : Nat} {t : Tg} {it : It} {b : List Sm} {is : List Nat} {k : List (Option D) → Re} (Q : Out (D × List D) → Prop) (J : Nat → List (Option D) → Prop) (hi : evIt Φ gv it ρ = .ok ((List.range n).map fun (j : Nat) => D.int (j : Int), true)) (h0 : J 0 ρ)
    (step : ∀ i ρ, i < n → J i ρ → ∀ N B R, (∀ ρ', J (i + 1) ρ' → N ρ') → (∀ ρ', Q (fnEnd is (k ρ')) → B ρ') → (∀ d ρ', Q (fnEnd is (.rt d ρ')) → R d ρ') → St N B R ((bindC t (.int (i : Int)) ρ).seq fun ρ' => runs Φ gv pi b ρ')) (done : ∀ ρ', J n ρ' → Q (fnEnd is (k ρ'))) : Q (fnEnd is ((run1 Φ gv pi (.fr t it b) ρ).seq k)) :=
  fr_QR (Q := fun r => Q (fnEnd is r)) J hi h0 (fun i ρ h1 h2 => step i ρ h1 h2 _ _ _ (fun _ z => z) (fun _ z => z) fun _ _ z => z) done
end
end Pu

set_option Elab.async false
set_option linter.all false
set_option maxRecDepth 100000
/-! Pv9: more of the small steps. -/
namespace Pu
open PySem PySem.Spec PyProof.Rows L2
@[simp] theorem slc_tup {xs : List D} {lo hi : Option Int} : slcD (.tup xs) lo hi = .ok (.tup (cutD xs lo hi)) := id rfl
@[simp] theorem listD_lst {f : Fl} {xs : List D} : listD (.lst f xs) = .ok xs := id rfl
@[simp] theorem listD_tup {xs : List D} : listD (.tup xs) = .ok xs := id rfl
theorem enumL_map {α : Type} {f : α → D} : ∀ {xs : List α} {k : Nat}, enumL k (xs.map f) = (xs.zipIdx k).map fun p => .tup [.int (p.2 : Int), f p.1]
  | [], _ => rfl
  | x :: xs, k => by simp only [List.map_cons, enumL, List.zipIdx_cons, enumL_map]
theorem zipI_get {α : Type} {xs : List α} {i : Nat} {p : α × Nat} (h : xs.zipIdx[i]? = some p) : xs[i]? = some p.1 ∧ p.2 = i := by
  rw [List.getElem?_zipIdx] at h
  cases e : xs[i]? with
  | none => rw [e] at h; cases h
  | some x => rw [e] at h; simp at h; subst h; simp
theorem drop_get {α : Type} {xs : List α} {i : Nat} {x : α} (h : xs[i]? = some x) : xs.drop i = x :: xs.drop (i + 1) := by
  obtain ⟨hl, e⟩ := List.getElem?_eq_some_iff.mp h
  rw [List.drop_eq_getElem_cons hl, e]
theorem take_get {α : Type} {xs : List α} {i : Nat} {x : α} (h : xs[i]? = some x) : xs.take (i + 1) = xs.take i ++ [x] := by
  obtain ⟨hl, e⟩ := List.getElem?_eq_some_iff.mp h
  rw [List.take_add_one, h]; rfl
theorem map_drop' {α β : Type} {f : α → β} {xs : List α} {n : Nat} : (xs.map f).drop n = (xs.drop n).map f := List.map_drop.symm
theorem map_take' {α β : Type} {f : α → β} {xs : List α} {n : Nat} : (xs.map f).take n = (xs.take n).map f := List.map_take.symm
@[simp] theorem calm_ok' {α : Type} {a : α} : (Out.ok a).calm = .ok a := id rfl
theorem bindC_tp {is : List Nat} {ds : List D} {ρ : List (Option D)} : Pu.bindC (.tp is) (.tup ds) ρ = if noVws ds = true then (match putAll is ds ρ with | .ok ρ' => .nx ρ' | _ => .bad) else .bad := by
  unfold Pu.bindC bindTg; rfl
theorem bindC_tpL {is : List Nat} {f : Fl} {ds : List D} {ρ : List (Option D)} : Pu.bindC (.tp is) (.lst f ds) ρ = if noVw (.lst f ds) = true then (match putAll is ds ρ with | .ok ρ' => .nx ρ' | _ => .bad) else .bad := by
  unfold Pu.bindC bindTg; rfl
/-- a list or a tuple, settled -/
def Sq (d : D) (xs : List D) : Prop := d = .lst .fz xs ∨ d = .tup xs
theorem evIt_of1 {Φ : Nat → List D → Out (D × List D)} {gv : Nat → D} {ρ : List (Option D)} {e : Ex} {d : D} {xs : List D} (h : ev Φ gv e ρ = .ok d) (g : ofD (fzD d) = .ok xs) (n : noVw d = true) : evIt Φ gv (.of e) ρ = .ok (xs, true) := by
  rw [evIt_of, h, Out.bind_ok, g, Out.bind_ok, n]
theorem rng_eqI {i : Int} (h : -1000000 ≤ i ∧ i ≤ 1000000) : rngA [.int i] = .ok ((List.range i.toNat).map fun (j : Nat) => D.int (j : Int)) := by
  have z : rngA [.int i] = rngD 0 i := rfl
  rw [z]
  unfold rngD
  rw [show i - 0 = i by omega, show (0 : Int) = ((0 : Nat) : Int) from rfl, intsFrom_eq, List.range_eq_range']
  have g : (-(2 ^ 62) ≤ ((0 : Nat) : Int) ∧ ((0 : Nat) : Int) < 2 ^ 62 ∧ -(2 ^ 62) ≤ i ∧ i < 2 ^ 62) := by omega
  simp only [chk_eq, decide_eq_true_eq, if_pos g]
theorem evIt_rngI {Φ : Nat → List D → Out (D × List D)} {gv : Nat → D} {ρ : List (Option D)} {e : Ex} {i : Int} (h : ev Φ gv e ρ = .ok (.int i)) (hn : -1000000 ≤ i ∧ i ≤ 1000000) : evIt Φ gv (.rng [e]) ρ = .ok ((List.range i.toNat).map fun (j : Nat) => D.int (j : Int), true) := by
  rw [evIt_rng, evs_cons, evs_nil, h]
  show (rngA [D.int i]).bind _ = _
  rw [rng_eqI hn]
  rfl
theorem evIt_rngE {Φ : Nat → List D → Out (D × List D)} {gv : Nat → D} {ρ : List (Option D)} {e : Ex} {n : Nat} (h : ev Φ gv e ρ = .ok (.int (n : Int))) (hn : n ≤ 1000000) : evIt Φ gv (.rng [e]) ρ = .ok ((List.range n).map fun (j : Nat) => D.int (j : Int), true) := evIt_rngI h (by omega)
/-! a range over a list's places -/
theorem range_zip {α : Type} {xs : List α} : (List.range xs.length).map (fun (j : Nat) => D.int (j : Int)) = xs.zipIdx.map fun p => D.int (p.2 : Int) := by
  apply List.ext_getElem?
  intro i
  rw [List.getElem?_map, List.getElem?_map, List.getElem?_zipIdx]
  by_cases h : i < xs.length
  · rw [List.getElem?_range h, List.getElem?_eq_getElem h]; simp
  · rw [List.getElem?_eq_none (by simpa using h), List.getElem?_eq_none (by simpa using h)]; rfl
theorem zip_mem {α : Type} {xs : List α} {p : α × Nat} (h : p ∈ xs.zipIdx) : xs[p.2]? = some p.1 := by
  obtain ⟨i, hi⟩ := List.mem_iff_getElem?.mp h
  obtain ⟨a, b⟩ := zipI_get hi
  rw [b]; exact a
theorem zip_fst {α : Type} {xs : List α} : ∀ k, (xs.zipIdx k).map (·.1) = xs := by
  induction xs with
  | nil => intro k; rfl
  | cons x xs ih => intro k; rw [List.zipIdx_cons, List.map_cons, ih]
theorem evIt_zip {Φ : Nat → List D → Out (D × List D)} {gv : Nat → D} {ρ : List (Option D)} {e : Ex} {α : Type} {xs : List α} (h : ev Φ gv e ρ = .ok (.int (xs.length : Int))) (hn : xs.length ≤ 1000000) : evIt Φ gv (.rng [e]) ρ = .ok (xs.zipIdx.map fun p => D.int (p.2 : Int), true) := by
  rw [evIt_rngE h hn, range_zip]
theorem atI_n1 {α : Type} {xs : List α} {k : Nat} : atI xs ((k : Int) + 1) = xs[k + 1]? := atI_n (k := k + 1)
theorem atI_n2 {α : Type} {xs : List α} {k : Nat} : atI xs ((k : Int) + 2) = xs[k + 2]? := atI_n (k := k + 2)
theorem run_par {Φ : Nat → List D → Out (D × List D)} {gv : Nat → D} {pi : List Nat} {ρ : List (Option D)} {i j : Nat} {a b : Ex} {x y : D} (ha : ev Φ gv a ρ = .ok x) (hb : ev Φ gv b ρ = .ok y) (hx : noVw x = true) (hy : noVw y = true) (hz : 2 ≤ sizeLine) (hi : i < ρ.length) (hj : j < ρ.length) :
    run1 Φ gv pi (.par i j a b) ρ = .nx ((ρ.set i (some x)).set j (some y)) := by
  have hp : prep Φ gv pi (.tup [a, b]) ρ = ρ := by
    unfold prep
    simp [ha, hb, hx, hy, hz]
  simp [run1, hp, ha, hb, hx, hy, hi, hj]
@[simp] theorem rev_lst {f : Fl} {xs : List D} : revD (.lst f xs) = .ok (.lst .ow xs.reverse) := id rfl
@[simp] theorem cut_mid2 {α : Type} {xs : List α} {k : Nat} : cutD xs (some (k : Int)) (some ((k : Int) + 2)) = (xs.drop k).take 2 := by
  have z := cut_mid (xs := xs) (j := k) (k := k + 2)
  rw [show k + 2 - k = 2 by omega] at z
  exact z
theorem noVws_mem {xs : List D} : noVws xs = true ↔ ∀ x ∈ xs, noVw x = true := by rw [noVws_eq, List.all_eq_true]
@[simp] theorem noVws_take {xs : List D} {n : Nat} (h : noVws xs = true) : noVws (xs.take n) = true := noVws_mem.mpr fun x hx => noVws_mem.mp h x (List.mem_of_mem_take hx)
@[simp] theorem noVws_drop {xs : List D} {n : Nat} (h : noVws xs = true) : noVws (xs.drop n) = true := noVws_mem.mpr fun x hx => noVws_mem.mp h x (List.mem_of_mem_drop hx)
@[simp] theorem noVws_rev {xs : List D} : noVws xs.reverse = noVws xs := by rw [noVws_eq, noVws_eq, List.all_reverse]
/-- an object's field is set -/
theorem run_setF {Φ : Nat → List D → Out (D × List D)} {gv : Nat → D} {pi : List Nat} {ρ : List (Option D)} {i c : Nat} {f : Str} {e : Ex} {y : D} {ns : List Str} {xs : List D} (he : ev Φ gv e ρ = .ok y) (hv : noVw y = true) (hr : ρ[i]? = some (some (.obj .ow c ns xs))) (hl : xs.length < 1000) :
    run1 Φ gv pi (.setF i [] f e) ρ = .nx (ρ.set i (some (.obj .ow c (putN f y ns xs).1 (putN f y ns xs).2))) := by
  have hp : prep Φ gv pi e ρ = ρ := by unfold prep; simp only [he, hv, if_true]
  simp [run1, hp, he, slotD, subAt, putAt, hr, evp, subD, updD, hv, hl]
/-- .. a new one -/
theorem putN_new {f : Str} {y : D} : ∀ {ns : List Str} {xs : List D}, f ∉ ns → ns.length = xs.length → putN f y ns xs = (ns ++ [f], xs ++ [y])
  | [], [], _, _ => by simp [putN]
  | n :: ns, x :: xs, h, l => by
    simp only [List.mem_cons, not_or] at h
    rw [putN, if_neg (fun e => h.1 e.symm), putN_new h.2 (by simpa using l)]
    rfl
  | [], _ :: _, _, l => by simp at l
  | _ :: _, [], _, l => by simp at l
/-- a loop over a name's list, which is settled first -/
theorem fr_Qv {Φ : Nat → List D → Out (D × List D)} {gv : Nat → D} {pi : List Nat} {ρ : List (Option D)} {α : Type} {en : α → D} {xs : List α} {t : Tg} {b : List Sm} {Q : Re → Prop} {k : List (Option D) → Re} {i : Nat} {f : Fl} (hf : f ≠ .vw) (hr : ρ[i]? = some (some (.lst f (xs.map en)))) (hp : i ∉ pi) (hz : ∀ x, fzD (en x) = en x) (hv : ∀ x, vwD (en x) = en x) (hn : ∀ x, noVw (en x) = true)
    (J : Nat → List (Option D) → Prop) (h0 : J 0 (ρ.set i (some (.lst .fz (xs.map en)))))
    (step : ∀ i x ρ, xs[i]? = some x → J i ρ → St (J (i + 1)) (fun ρ' => Q (k ρ')) (fun d ρ' => Q (.rt d ρ')) ((bindC t (en x) ρ).seq fun ρ' => runs Φ gv pi b ρ')) (done : ∀ ρ', J xs.length ρ' → Q (k ρ')) : Q ((run1 Φ gv pi (.fr t (.of (.var i)) b) ρ).seq k) := by
  have hl := (List.getElem?_eq_some_iff.mp hr).1
  have z1 : fzDs (xs.map en) = xs.map en := by rw [fzDs_map]; exact List.map_congr_left fun x _ => hz x
  have z2 : vwDs (xs.map en) = xs.map en := by rw [vwDs_map]; exact List.map_congr_left fun x _ => hv x
  have z3 : noVws (xs.map en) = true := by rw [noVws_map, List.all_eq_true]; exact fun x _ => hn x
  have hs : (ρ.set i (some (.lst .fz (xs.map en))))[i]? = some (some (.lst .fz (xs.map en))) := by rw [List.getElem?_set_self hl]
  have e2 : evIt Φ gv (.of (.var i)) (ρ.set i (some (.lst .fz (xs.map en)))) = .ok (xs.map en, true) := by
    rw [evIt_of, ev_var, hs]
    simp [z1, z2, z3]
  have key : run1 Φ gv pi (.fr t (.of (.var i)) b) ρ = loopF (fun x ρ => (bindC t x ρ).seq fun ρ' => runs Φ gv pi b ρ') (xs.map en) (ρ.set i (some (.lst .fz (xs.map en)))) := by
    cases f with
    | vw => exact absurd rfl hf
    | fz =>
      have e3 : ρ.set i (some (.lst .fz (xs.map en))) = ρ := set_same hr
      rw [e3] at e2 ⊢
      exact run_fr e2 z3
    | ow =>
      have e1 : evIt Φ gv (.of (.var i)) ρ = .ok (xs.map en, false) := by
        rw [evIt_of, ev_var, hr]
        simp [z1, z2]
      have hp' : prepI Φ gv pi (.of (.var i)) ρ = ρ.set i (some (.lst .fz (xs.map en))) := by
        unfold prepI
        simp only [e1, fvI, fvs, frzs, List.foldr, hp, if_false, frz1, hr]
        simp [z1]
      simp only [run1, hp', e2, re_ok', if_true]
  rw [key]
  exact loop_Q J step done h0
theorem fn_frv {Φ : Nat → List D → Out (D × List D)} {gv : Nat → D} {pi : List Nat} {ρ : List (Option D)} {α : Type} {en : α → D} {xs : List α} {t : Tg} {b : List Sm} {is : List Nat} {v : Out (D × List D)} {k : List (Option D) → Re} {i : Nat} {f : Fl} (hf : f ≠ .vw) (hr : ρ[i]? = some (some (.lst f (xs.map en)))) (hp : i ∉ pi) (hz : ∀ x, fzD (en x) = en x) (hv : ∀ x, vwD (en x) = en x) (hn : ∀ x, noVw (en x) = true)
    (J : Nat → List (Option D) → Prop) (h0 : J 0 (ρ.set i (some (.lst .fz (xs.map en)))))
    (step : ∀ i x ρ, xs[i]? = some x → J i ρ → ∀ N B R, (∀ ρ', J (i + 1) ρ' → N ρ') → (∀ ρ', fnEnd is (k ρ') = v → B ρ') → (∀ d ρ', fnEnd is (.rt d ρ') = v → R d ρ') → St N B R ((bindC t (en x) ρ).seq fun ρ' => runs Φ gv pi b ρ')) (done : ∀ ρ', J xs.length ρ' → fnEnd is (k ρ') = v) : fnEnd is ((run1 Φ gv pi (.fr t (.of (.var i)) b) ρ).seq k) = v :=
  fr_Qv (Q := fun r => fnEnd is r = v) hf hr hp hz hv hn J h0 (fun i x ρ h1 h2 => step i x ρ h1 h2 _ _ _ (fun _ z => z) (fun _ z => z) fun _ _ z => z) done
theorem st_frv {Φ : Nat → List D → Out (D × List D)} {gv : Nat → D} {pi : List Nat} {ρ : List (Option D)} {N B : List (Option D) → Prop} {R : D → List (Option D) → Prop} {α : Type} {en : α → D} {xs : List α} {t : Tg} {b : List Sm} {k : List (Option D) → Re} {i : Nat} {f : Fl} (hf : f ≠ .vw) (hr : ρ[i]? = some (some (.lst f (xs.map en)))) (hp : i ∉ pi) (hz : ∀ x, fzD (en x) = en x) (hv : ∀ x, vwD (en x) = en x) (hn : ∀ x, noVw (en x) = true)
    (J : Nat → List (Option D) → Prop) (h0 : J 0 (ρ.set i (some (.lst .fz (xs.map en)))))
    (step : ∀ i x ρ, xs[i]? = some x → J i ρ → ∀ N' B' R', (∀ ρ', J (i + 1) ρ' → N' ρ') → (∀ ρ', St N B R (k ρ') → B' ρ') → (∀ d ρ', R d ρ' → R' d ρ') → St N' B' R' ((bindC t (en x) ρ).seq fun ρ' => runs Φ gv pi b ρ')) (done : ∀ ρ', J xs.length ρ' → St N B R (k ρ')) : St N B R ((run1 Φ gv pi (.fr t (.of (.var i)) b) ρ).seq k) :=
  fr_Qv (Q := St N B R) hf hr hp hz hv hn J h0 (fun i x ρ h1 h2 => step i x ρ h1 h2 _ _ _ (fun _ z => z) (fun _ z => z) fun _ _ z => z) done
@[simp] theorem ty_bl {b : Bool} : tyD (.b .bool) (.bl b) = .ok true := id rfl
@[simp] theorem bi_max {i j : Int} : biD .max [.int i, .int j] = .ok (.int (if j > i then j else i)) := id rfl
@[simp] theorem bi_min {i j : Int} : biD .min [.int i, .int j] = .ok (.int (if j < i then j else i)) := id rfl
@[simp] theorem neg_int {i : Int} : negD (.int i) = .ok (.int (-i)) := id rfl
theorem callD_id {Φ : Nat → List D → Out (D × List D)} {j : Nat} {ds : List D} {d : D} (h : Φ j (anyFzs ds) = .ok (d, [])) (n : noVws ds = true) : callD Φ j ds = .ok d := by
  simp [callD, h, n]
end Pu
namespace Pu
@[simp] theorem cleanK_bad {ρ : List (Option D)} {s : Re} {k : D → Re} : cleanK .bad ρ s k = s := id rfl
theorem slow_set {Φ : Nat → List D → Out (D × List D)} {gv : Nat → D} {pi : List Nat} {t : Tg} {e : Ex} {ρ ρ' : List (Option D)} {d : D} (hf : frzs pi (fvs e) ρ = ρ') (he : ev Φ gv e ρ' = .ok d) : setSlow Φ gv pi t e ρ = bindC t d ρ' := by
  unfold setSlow
  rw [hf, he]
  rfl
theorem cut_midL {α : Type} {xs : List α} {i j : Int} (hi : 0 ≤ i) (hj : 0 ≤ j) : cutD xs (some i) (some j) = (xs.drop i.toNat).take (j.toNat - i.toNat) := by
  have z := cut_mid (xs := xs) (j := i.toNat) (k := j.toNat)
  rwa [Int.toNat_of_nonneg hi, Int.toNat_of_nonneg hj] at z
end Pu
namespace Pu
@[simp] theorem va_fz : Fl.fz.vwa = .vw := id rfl
@[simp] theorem va_ow : Fl.ow.vwa = .ow := id rfl
@[simp] theorem va_vw : Fl.vw.vwa = .vw := id rfl
end Pu
namespace Pu
theorem evIt_lst {Φ : Nat → List D → Out (D × List D)} {gv : Nat → D} {ρ : List (Option D)} {e : Ex} {α : Type} {en : α → D} {xs : List α} {f : Fl} (hf : f ≠ .vw) (hz : ∀ x, fzD (en x) = en x) (hn : ∀ x, noVw (en x) = true) (h : ev Φ gv e ρ = .ok (.lst f (xs.map en))) : evIt Φ gv (.of e) ρ = .ok (xs.map en, true) := by
  have z1 : fzDs (xs.map en) = xs.map en := by rw [fzDs_map]; exact List.map_congr_left fun x _ => hz x
  have z3 : noVws (xs.map en) = true := by rw [noVws_map, List.all_eq_true]; exact fun x _ => hn x
  exact evIt_of1 h (by rw [fz_lst, z1]; rfl) (by rw [nv_lst, z3]; simp [hf])
end Pu

set_option Elab.async false
set_option linter.all false
set_option maxRecDepth 100000
/-! Pva: raise, try, append(pop). -/
namespace Pu
open PySem PySem.Spec PyProof.Rows L2
section
variable {Φ : Nat → List D → Out (D × List D)} {gv : Nat → D} {pi : List Nat} {ρ : List (Option D)}
theorem run_rais {c : Nat} : run1 Φ gv pi (.rais c) ρ = .ex ⟨c, [], [], []⟩ ρ := by simp only [run1]
@[simp] theorem seq_ex {x : Exn} {f : List (Option D) → Re} : (Re.ex x ρ).seq f = .ex x ρ := id rfl
@[simp] theorem cleanK_exc {x : Exn} {s : Re} {k : D → Re} : cleanK (.exc x) ρ s k = .ex x ρ := id rfl
/-- a block that goes through -/
theorem run_tr_nx {b : List Sm} {i : Nat} {cs : List Nat} {x : Xb} {ρ' : List (Option D)} (h : runs Φ gv pi b ρ = .nx ρ') : run1 Φ gv pi (.tr b i cs x) ρ = .nx ρ' := by
  simp only [run1, h]
/-- .. that raises -/
theorem run_tr_ex {b : List Sm} {i : Nat} {cs : List Nat} {x : Xb} {ρ' : List (Option D)} {y : Exn} {d : D} (h : runs Φ gv pi b ρ = .ex y ρ') (hc : y.c ∈ cs) (hn : y.ns = []) (hl : i < ρ'.length) (hx : evX y x (ρ'.set i none) = .ok d) (hv : noVw d = true) : run1 Φ gv pi (.tr b i cs x) ρ = .rt d (ρ'.set i none) := by
  simp only [run1, h, hc, hn, hl, and_self, if_true, hx, hv]
theorem popK_nat {ys : List D} {k : Nat} (hk : k < ys.length) (hb : k < 1000) : popK ys [.int (k : Int)] = some k := by
  have b : (k : Int).natAbs < 4611686018427387904 := by omega
  have e : seqIndex? (k : Int) ys.length = some k := by
    unfold seqIndex?
    have q0 : ¬ ((k : Int) < 0) := by omega
    have q2 : (k : Int) < (ys.length : Int) := by omega
    simp [q0, q2]
  unfold popK
  exact (if_pos b).trans e
theorem evE_pop {j k : Nat} {e : Ex} {ys : List D} {y : D} (hj : ρ[j]? = some (some (.lst .ow ys))) (he : ev Φ gv e ρ = .ok (.int (k : Int))) (hk : ys[k]? = some y) (hb : k < 1000) : evE Φ gv pi (.pop j [] [e]) ρ = .ok y (ρ.set j (some (.lst .ow (ys.eraseIdx k)))) := by
  have hlt := (List.getElem?_eq_some_iff.mp hk).1
  have e1 := popK_nat hlt hb
  have s1 : ((slotD ρ j).bind fun d => evp Φ gv [] ρ d) = .ok [] := by unfold slotD; rw [hj]; rfl
  have s2 : subAt ρ j [] = some (.lst .ow ys) := by unfold subAt; rw [hj]; rfl
  have s3 : evs Φ gv [e] ρ = .ok [.int (k : Int)] := by rw [evs_cons, he, evs_nil]; rfl
  have s4 : putAt ρ j [] (.lst .ow (ys.eraseIdx k)) = .nx (ρ.set j (some (.lst .ow (ys.eraseIdx k)))) := by unfold putAt; rw [hj]; rfl
  unfold evE
  rw [s1]
  dsimp only
  rw [s2]
  dsimp only
  rw [s3]
  dsimp only
  rw [e1]
  dsimp only
  rw [hk, s4]
/-- x.append(y.pop(k)) -/
theorem run_appPop {i j k : Nat} {e : Ex} {xs ys : List D} {y : D} (hi : ρ[i]? = some (some (.lst .ow xs))) (hj : ρ[j]? = some (some (.lst .ow ys))) (hij : i ≠ j) (he : ev Φ gv e ρ = .ok (.int (k : Int))) (hk : ys[k]? = some y) (hl : xs.length < sizeLine) (hb : k < 1000) :
    run1 Φ gv pi (.appX i (.pop j [] [e])) ρ = .nx ((ρ.set j (some (.lst .ow (ys.eraseIdx k)))).set i (some (.lst .ow (xs ++ [y])))) := by
  have e2 : (ρ.set j (some (.lst .ow (ys.eraseIdx k))))[i]? = some (some (.lst .ow xs)) := by rw [List.getElem?_set_ne (fun z => hij z.symm), hi]
  simp only [run1, hi, evE_pop hj he hk hb, e2, hl, if_true]
theorem seq_assoc {r : Re} {f g : List (Option D) → Re} : (r.seq f).seq g = r.seq fun ρ' => (f ρ').seq g := by cases r <;> rfl
theorem runs_app {a b : List Sm} : ∀ {ρ : List (Option D)}, runs Φ gv pi (a ++ b) ρ = (runs Φ gv pi a ρ).seq fun ρ' => runs Φ gv pi b ρ' := by
  induction a with
  | nil => intro ρ; rw [runs_nil]; rfl
  | cons s a ih =>
    intro ρ
    rw [List.cons_append, runs_cons, runs_cons, seq_assoc]
    congr 1
    funext ρ'
    exact ih
/-- a block in two parts -/
theorem runs_at (n : Nat) {b : List Sm} {ρ ρ' : List (Option D)} (h : runs Φ gv pi (b.take n) ρ = .nx ρ') : runs Φ gv pi b ρ = runs Φ gv pi (b.drop n) ρ' := by
  conv => lhs; rw [← List.take_append_drop n b, runs_app, h, seq_nx]
end
end Pu

set_option Elab.async false
set_option linter.all false
set_option maxRecDepth 100000
/-! Pw1: texts: numbers written, texts joined; paths into objects; loops by a test. -/
namespace Pu
open PySem PySem.Spec PyProof.Rows L2
def decN (n : Nat) : List Nat := (Nat.toDigits 10 n).map Char.toNat
def decI (i : Int) : List Nat := if i < 0 then 45 :: decN i.natAbs else decN i.natAbs
theorem mkS_of (x : Str) : x = mkS x.cps.toList := by cases x; simp [mkS]
@[simp] theorem mkS_cps {l : List Nat} : (mkS l).cps.toList = l := by simp [mkS]
theorem cps_ext {x y : Str} (h : x.cps.toList = y.cps.toList) : x = y := by rw [mkS_of x, mkS_of y, h]
theorem str_int (i : Int) : Str.ofString (toString i) = mkS (decI i) := by
  apply cps_ext
  rw [mkS_cps, signs_ofString]
  unfold decI
  cases i with
  | ofNat n =>
    rw [if_neg (by simp)]
    show (Nat.repr n).toList.map Char.toNat = _
    rw [Nat.toList_repr]
    rfl
  | negSucc n =>
    rw [if_pos (by omega)]
    show ("-" ++ (Nat.succ n).repr).toList.map Char.toNat = _
    rw [String.toList_append, List.map_append, Nat.toList_repr]
    rfl
theorem decN_dig {n c : Nat} (h : c ∈ decN n) : 48 ≤ c ∧ c ≤ 57 := by
  obtain ⟨ch, hch, e⟩ := List.mem_map.mp h
  have r := digit_range (Nat.isDigit_of_mem_toDigits (by decide) (by decide) hch)
  rw [← e]
  exact r
theorem decN_len {n k : Nat} (hk : 0 < k) (h : n < 10 ^ k) : (decN n).length ≤ k := by
  unfold decN
  rw [List.length_map]
  exact (Nat.length_toDigits_le_iff (by decide) hk).mpr h
theorem decN_pos {n : Nat} : 0 < (decN n).length := by
  unfold decN
  rw [List.length_map]
  exact Nat.length_toDigits_pos
theorem decI_sign {i : Int} {c : Nat} (h : c ∈ decI i) : c = 45 ∨ (48 ≤ c ∧ c ≤ 57) := by
  unfold decI at h
  split at h
  · rcases List.mem_cons.mp h with h | h
    · exact .inl h
    · exact .inr (decN_dig h)
  · exact .inr (decN_dig h)
theorem decI_len {i : Int} (h : i.natAbs < 10 ^ 7) : (decI i).length ≤ 8 := by
  have := decN_len (k := 7) (by decide) h
  unfold decI
  split
  · simp only [List.length_cons]; omega
  · omega
theorem log2_ok {n : Nat} (h : n < 2 ^ 64) : n.log2 < 1920 := by
  by_cases z : n = 0
  · subst z; decide
  · exact (Nat.log2_lt z).mpr (Nat.lt_of_lt_of_le h (Nat.pow_le_pow_right (by decide) (by decide)))
theorem bi_strI {i : Int} (h : i.natAbs < 2 ^ 64) : biD .str [.int i] = .ok (.str (mkS (decI i))) := by
  show Out.chk _ _ = _
  rw [← str_int]
  simp [log2_ok h]
@[simp] theorem bi_strS {x : Str} : biD .str [.str x] = .ok (.str x) := id rfl
theorem bi_ord {c : Nat} : biD .ord [.str (mkS [c])] = .ok (.int (c : Int)) := by
  show Out.chk _ _ = _
  simp [mkS, Str.length]
/-! ### joined texts -/
def joinL (s : List Nat) : List (List Nat) → List Nat
  | [] => []
  | x :: xs => x ++ xs.flatMap fun y => s ++ y
theorem join_mk {s : List Nat} {ls : List (List Nat)} : Txt.join (mkS s) (ls.map mkS) = mkS (joinL s ls) := by
  apply cps_ext
  show (Builtin.Str.glued (mkS s) (ls.map mkS)).cps.toList = _
  rw [mkS_cps]
  unfold Builtin.Str.glued
  cases ls with
  | nil => rfl
  | cons x xs =>
    simp only [List.map_cons, List.drop_succ_cons, List.drop_zero, List.headD_cons, joinL]
    have key : ∀ (xs : List (List Nat)) (acc : Array Nat), ((xs.map mkS).foldl (fun acc p => acc ++ (mkS s).cps ++ p.cps) acc).toList = acc.toList ++ xs.flatMap fun y => s ++ y := by
      intro xs
      induction xs with
      | nil => intro acc; simp
      | cons y ys ih =>
        intro acc
        rw [List.map_cons, List.foldl_cons, ih]
        simp
    rw [key]
    try simp
theorem strsOf_mk {ls : List (List Nat)} : strsOf (ls.map fun l => D.str (mkS l)) = some (ls.map mkS) := by
  induction ls with
  | nil => rfl
  | cons l ls ih => simp only [List.map_cons, strsOf, ih]
theorem join_lens {ls : List (List Nat)} : ((ls.map mkS).map (·.length)).sum = (ls.map (·.length)).sum := by
  rw [List.map_map]
  congr 1
theorem bi_join {f : Fl} {s : List Nat} {ls : List (List Nat)} (h : (ls.map (·.length)).sum + ls.length * s.length ≤ 16777216) : biD .join [.str (mkS s), .lst f (ls.map fun l => .str (mkS l))] = .ok (.str (mkS (joinL s ls))) := by
  simp only [biD, seqOf, strsOf_mk, join_mk, join_lens, List.length_map, mkS_len, h, decide_true, Out.chk_true]
section
variable {Φ : Nat → List D → Out (D × List D)} {gv : Nat → D} {pi : List Nat} {ρ : List (Option D)}
@[simp] theorem ev_m1 {f : Bi} {a e : Ex} : ev Φ gv (.m1 f a e) ρ = (ev Φ gv a ρ).bind fun x => .chk (m1D f x) ((ev Φ gv e ρ).bind fun y => biD f [x, y]) := by simp only [ev]
@[simp] theorem m1_join {x : Str} : m1D .join (.str x) = true := id rfl
@[simp] theorem m1_split {x : Str} : m1D .split (.str x) = true := id rfl
@[simp] theorem m1_index {f : Fl} {xs : List D} : m1D .index (.lst f xs) = true := id rfl
@[simp] theorem ev_st2 {a b : Ex} : ev Φ gv (.st2 a b) ρ = (ev Φ gv a ρ).bind fun x => (listD x).bind fun xs => (ev Φ gv b ρ).bind fun y => (listD y).bind fun ys => .chk (decide ((xs ++ ys).length ≤ sizeLine)) (.ok (.lst .ow (xs ++ ys))) := by simp only [ev]
@[simp] theorem ev_meth {c j : Nat} {m : Str} {a : Ex} {es : List Ex} : ev Φ gv (.meth c j m a es) ρ = (ev Φ gv a ρ).bind fun d => (methOk c m d).bind fun _ => (evs Φ gv es ρ).bind fun ds => callD Φ j (d :: ds) := by simp only [ev]
/-- a text's signs -/
theorem ofD_str {l : List Nat} : ofD (.str (mkS l)) = .ok (l.map fun c => .str (mkS [c])) := by
  show Out.ok _ = _
  simp [mkS]
theorem evIt_str {e : Ex} {l : List Nat} (h : ev Φ gv e ρ = .ok (.str (mkS l))) : evIt Φ gv (.of e) ρ = .ok (l.map fun c => .str (mkS [c]), true) := evIt_of1 h (by rw [fz_str, ofD_str]) rfl
/-! ### objects in slots -/
theorem putN_old {f : Str} {y : D} : ∀ {ns : List Str} {xs : List D} {j : Nat}, fIx f ns = some j → ns.length = xs.length → putN f y ns xs = (ns, xs.set j y)
  | [], _, _, h, _ => by simp [fIx] at h
  | n :: ns, [], _, _, l => by simp at l
  | n :: ns, x :: xs, j, h, l => by
    simp only [fIx] at h
    by_cases e : n = f
    · subst e
      rw [if_pos (by simp)] at h
      cases h
      rw [putN, if_pos rfl]; rfl
    · have e' : (f == n) = false := by rw [beq_eq_false_iff_ne]; exact fun z => e z.symm
      rw [e', if_neg (by decide)] at h
      obtain ⟨k, hk, rfl⟩ := Option.map_eq_some_iff.mp h
      rw [putN, if_neg e, putN_old hk (by simpa using l)]
      rfl
/-- x.f.append(e) -/
theorem run_appF {i c j : Nat} {f : Str} {e : Ex} {y : D} {ns : List Str} {xs ys : List D} (he : ev Φ gv e ρ = .ok y) (hv : noVw y = true) (hr : ρ[i]? = some (some (.obj .ow c ns xs))) (hf : fIx f ns = some j) (hj : xs[j]? = some (.lst .ow ys)) (hl : ys.length < sizeLine) :
    run1 Φ gv pi (.app i [.fl f] e) ρ = .nx (ρ.set i (some (.obj .ow c ns (xs.set j (.lst .ow (ys ++ [y])))))) := by
  have hp : prep Φ gv pi e ρ = ρ := by unfold prep; simp only [he, hv, if_true]
  simp [run1, hp, he, slotD, subAt, putAt, hr, evp, subD, updD, hv, hf, hj, hl]
/-- .. an old field set -/
theorem run_setF' {i c j : Nat} {f : Str} {e : Ex} {y : D} {ns : List Str} {xs : List D} (he : ev Φ gv e ρ = .ok y) (hv : noVw y = true) (hr : ρ[i]? = some (some (.obj .ow c ns xs))) (hf : fIx f ns = some j) (hn : ns.length = xs.length) (hl : xs.length < 1000) :
    run1 Φ gv pi (.setF i [] f e) ρ = .nx (ρ.set i (some (.obj .ow c ns (xs.set j y)))) := by
  rw [run_setF he hv hr hl, putN_old hf hn]
/-! ### calls that change slots -/
theorem run_expX {e : Xe} {d : D} {ρ' : List (Option D)} (h : evE Φ gv pi e ρ = .ok d ρ') : run1 Φ gv pi (.expX e) ρ = .nx ρ' := by simp only [run1, h]
theorem run_retX {e : Xe} {d : D} {ρ' : List (Option D)} (h : evE Φ gv pi e ρ = .ok d ρ') : run1 Φ gv pi (.retX e) ρ = .rt d ρ' := by simp only [run1, h]
theorem run_setX {i : Nat} {e : Xe} {d : D} {ρ' : List (Option D)} (h : evE Φ gv pi e ρ = .ok d ρ') (hi : i < ρ'.length) : run1 Φ gv pi (.setX i e) ρ = .nx (ρ'.set i (some d)) := by simp only [run1, h, hi, if_true]
theorem run_iteX {c : Xt} {a b : List Sm} {t : Bool} {ρ' : List (Option D)} (h : evT Φ gv pi c ρ = .ok t ρ') : run1 Φ gv pi (.iteX c a b) ρ = if t = true then runs Φ gv pi a ρ' else runs Φ gv pi b ρ' := by simp only [run1, h]
theorem run_wh {c : Xt} {b : List Sm} : run1 Φ gv pi (.wh c b) ρ = loopW (evT Φ gv pi c) (runs Φ gv pi b) whFuel ρ := by simp only [run1]
/-- o.m(e), o in a slot, e clean at once -/
theorem evE_meth1 {c j i : Nat} {m : Str} {e : Ex} {f : Fl} {ns : List Str} {xs : List D} {y r d' : D} (hr : ρ[i]? = some (some (.obj f c ns xs))) (hm : m ∉ ns) (he : ev Φ gv e ρ = .ok y) (hy : noVw y = true) (hΦ : Φ j [.obj f c ns xs, fzD y] = .ok (r, [d'])) (h1 : noVw r = true) (h2 : noVw d' = true) :
    evE Φ gv pi (.meth c j m i [] [.pu e]) ρ = .ok r (ρ.set i (some d')) := by
  have hp : ∀ q, prep Φ gv q e ρ = ρ := fun q => by unfold prep; simp only [he, hy, if_true]
  simp [evE, prepAs, hp, evS, slotD, hr, evp, subD, selfOk, hm, evA, he, hy, Out.toX, OutX.bind, callM, hΦ, h1, h2, putM, updD]
theorem evE_meth0 {c j i : Nat} {m : Str} {f : Fl} {ns : List Str} {xs : List D} {r d' : D} (hr : ρ[i]? = some (some (.obj f c ns xs))) (hm : m ∉ ns) (hΦ : Φ j [.obj f c ns xs] = .ok (r, [d'])) (h1 : noVw r = true) (h2 : noVw d' = true) :
    evE Φ gv pi (.meth c j m i [] []) ρ = .ok r (ρ.set i (some d')) := by
  simp [evE, prepAs, evS, slotD, hr, evp, subD, selfOk, hm, evA, Out.toX, OutX.bind, callM, hΦ, h1, h2, putM, updD]
end
end Pu

set_option Elab.async false
set_option linter.all false
set_option maxRecDepth 100000
/-! the law orderneed_k30_journals in the language. -/
namespace K
open PySem PySem.Spec PyProof.Rows L2 Pu
@[reducible] def c_Promise : Nat := 0
@[reducible] def c_Receiver : Nat := 1
@[reducible] def e_OrderError : Nat := 0
@[reducible] def e_InvalidPromise : Nat := 1
@[reducible] def e_InvalidParcel : Nat := 2
@[reducible] def e_Full : Nat := 3
@[reducible] def j_all_items : Nat := 0
@[reducible] def j_Promise_init : Nat := 1
@[reducible] def j_relation_of : Nat := 2
@[reducible] def j_item_keeps : Nat := 3
@[reducible] def j_keeps : Nat := 4
@[reducible] def j_is_integer : Nat := 5
@[reducible] def j_is_parcel : Nat := 6
@[reducible] def j_count_kept : Nat := 7
@[reducible] def j_codes_of : Nat := 8
@[reducible] def j_checksum : Nat := 9
@[reducible] def j_words_of : Nat := 10
@[reducible] def j_Receiver_init : Nat := 11
@[reducible] def j_Receiver_can_pass : Nat := 12
@[reducible] def j_Receiver_first_that_can : Nat := 13
@[reducible] def j_Receiver_come : Nat := 14
@[reducible] def j_Receiver_journal : Nat := 15
@[reducible] def j_law_cell : Nat := 16
@[reducible] def j_law_row : Nat := 17
@[reducible] def j_law_word : Nat := 18
@[reducible] def j_law_words : Nat := 19
@[reducible] def j_law_names : Nat := 20
@[reducible] def j_law_items : Nat := 21
@[reducible] def j_law_some_items : Nat := 22
@[reducible] def j_law_promise_items : Nat := 23
@[reducible] def j_law_relation : Nat := 24
@[reducible] def j_law_item_keeps : Nat := 25
@[reducible] def j_law_keeps : Nat := 26
@[reducible] def j_law_letters : Nat := 27
@[reducible] def j_law_parcels : Nat := 28
@[reducible] def j_law_mixed : Nat := 29
@[reducible] def j_law_some_parcels : Nat := 30
@[reducible] def j_law_code : Nat := 31
@[reducible] def j_law_sum : Nat := 32
@[reducible] def j_law_journal : Nat := 33
@[reducible] def j_law : Nat := 34
def b_all_items : List Sm := [(.set (.nm 1) (.lst [])), (.fr (.tp [2, 3]) (.enum (.var 0)) [(.app 1 [] (.tup [(.str "order"), (.var 3), (.var 3), (.str "less")])), (.fr (.nm 4) (.of (.slc (.var 0) [(.bin .add (.var 2) (.int 1))] [])) [(.set (.nm 1) (.bin .add (.var 1) (.comp [6] (.tup [(.str "order"), (.var 3), (.var 4), (.var 6)]) (.nm 6) (.of (.tup [(.str "less"), (.str "equal"), (.str "greater")])) [])))])]), (.ret (.bin .add (.var 1) (.comp [5] (.tup [(.str "once"), (.var 5)]) (.nm 5) (.of (.var 0)) [])))]
def b_Promise_init : List Sm := [(.set (.nm 2) (.comp [4] (.bi .tuple [(.var 4)]) (.nm 4) (.of (.var 2)) [])), (.set (.nm 3) (.call j_all_items [(.bi .tuple [(.var 1)])])), (.ite (.not (.gen true [4] (.cmp .isIn (.var 4) (.var 3)) (.nm 4) (.of (.var 2)))) [(.rais e_InvalidPromise)] []), (.ite (.gen false [5] (.cmp .isIn (.idx (.var 2) (.var 5)) (.slc (.var 2) [] [(.var 5)])) (.nm 5) (.rng [(.bi .len [(.var 2)])])) [(.rais e_InvalidPromise)] []), (.setF 0 [] "names" (.bi .tuple [(.var 1)])), (.setF 0 [] "entries" (.bi .tuple [(.comp [4] (.var 4) (.nm 4) (.of (.var 3)) [(.cmp .isIn (.var 4) (.var 2))])]))]
def b_relation_of : List Sm := [(.ite (.cmp .lt (.var 0) (.var 1)) [(.ret (.str "less"))] []), (.ite (.cmp .gt (.var 0) (.var 1)) [(.ret (.str "greater"))] []), (.ret (.str "equal"))]
def b_item_keeps : List Sm := [(.ite (.cmp .ne (.idx (.var 0) (.int 0)) (.str "order")) [(.ret (.bl false))] []), (.ite (.cmp .eq (.idx (.var 0) (.int 1)) (.idx (.var 0) (.int 2))) [(.ret (.and (.cmp .eq (.idx (.var 1) (.int 0)) (.idx (.var 0) (.int 1))) (.and (.cmp .eq (.idx (.var 2) (.int 0)) (.idx (.var 0) (.int 1))) (.cmp .ne (.idx (.var 1) (.int 1)) (.idx (.var 2) (.int 1))))))] []), (.ite (.and (.cmp .eq (.idx (.var 1) (.int 0)) (.idx (.var 0) (.int 1))) (.cmp .eq (.idx (.var 2) (.int 0)) (.idx (.var 0) (.int 2)))) [(.ret (.cmp .eq (.call j_relation_of [(.idx (.var 1) (.int 1)), (.idx (.var 2) (.int 1))]) (.idx (.var 0) (.int 3))))] []), (.ite (.and (.cmp .eq (.idx (.var 2) (.int 0)) (.idx (.var 0) (.int 1))) (.cmp .eq (.idx (.var 1) (.int 0)) (.idx (.var 0) (.int 2)))) [(.ret (.cmp .eq (.call j_relation_of [(.idx (.var 2) (.int 1)), (.idx (.var 1) (.int 1))]) (.idx (.var 0) (.int 3))))] []), (.ret (.bl false))]
def b_keeps : List Sm := [(.ret (.gen false [3] (.call j_item_keeps [(.var 3), (.var 1), (.var 2)]) (.nm 3) (.of (.fld (.var 0) "entries"))))]
def b_is_integer : List Sm := [(.ret (.and (.isi (.var 0) (.b .int)) (.and (.not (.isi (.var 0) (.b .bool))) (.chn .le .le (.var 1) (.var 0) (.var 2)))))]
def b_is_parcel : List Sm := [(.ite (.or (.not (.isi (.var 1) (.bs [.list, .tuple]))) (.cmp .ne (.bi .len [(.var 1)]) (.int 4))) [(.ret (.bl false))] []), (.ite (.or (.not (.isi (.idx (.var 1) (.int 0)) (.b .str))) (.cmp .notIn (.idx (.var 1) (.int 0)) (.fld (.var 0) "names"))) [(.ret (.bl false))] []), (.ite (.not (.call j_is_integer [(.idx (.var 1) (.int 1)), (.neg (.int 1000000)), (.int 1000000)])) [(.ret (.bl false))] []), (.ret (.and (.call j_is_integer [(.idx (.var 1) (.int 2)), (.int 0), (.int 1000)]) (.call j_is_integer [(.idx (.var 1) (.int 3)), (.int 0), (.int 1000)])))]
def b_count_kept : List Sm := [(.ret (.bi .len [(.comp [3] (.var 3) (.nm 3) (.of (.var 1)) [(.call j_keeps [(.var 0), (.slc (.var 3) [] [(.int 2)]), (.var 2)])])]))]
def b_codes_of : List Sm := [(.ret (.comp [1] (.bi .ord [(.var 1)]) (.nm 1) (.of (.var 0)) []))]
def b_checksum : List Sm := [(.fr (.nm 2) (.of (.call j_codes_of [(.var 1)])) [(.set (.nm 0) (.bin .mod (.bin .add (.bin .mul (.int 256) (.var 0)) (.var 2)) (.int 65521)))]), (.rtv 0)]
def b_words_of : List Sm := [(.ret (.m1 .join (.str " ") (.comp [1] (.bi .str [(.var 1)]) (.nm 1) (.of (.var 0)) [])))]
def b_Receiver_init : List Sm := [(.setF 0 [] "promise" (.var 1)), (.setF 0 [] "_passed" (.lst [])), (.setF 0 [] "_waiting" (.lst [])), (.setF 0 [] "_lines" (.lst [])), (.setF 0 [] "_total" (.int 1))]
def b_Receiver_can_pass : List Sm := [(.ret (.cmp .eq (.call j_count_kept [(.fld (.var 0) "promise"), (.fld (.var 0) "_passed"), (.slc (.var 1) [] [(.int 2)])]) (.idx (.var 1) (.int 2))))]
def b_Receiver_first_that_can : List Sm := [(.fr (.nm 1) (.of (.fld (.var 0) "_waiting")) [(.ite (.meth c_Receiver j_Receiver_can_pass "_can_pass" (.var 0) [(.var 1)]) [(.rtv 1)] [])]), (.ret .non)]
def b_Receiver_come : List Sm := [(.ite (.not (.call j_is_parcel [(.fld (.var 0) "promise"), (.var 1)])) [(.rais e_InvalidParcel)] []), (.ite (.cmp .eq (.bi .len [(.fld (.var 0) "_lines")]) (.int 300)) [(.rais e_Full)] []), (.set (.nm 1) (.bi .tuple [(.var 1)])), (.setF 0 [] "_total" (.call j_checksum [(.fld (.var 0) "_total"), (.call j_words_of [(.var 1)])])), (.app 0 [.fl "_lines"] (.bin .add (.bin .add (.call j_words_of [(.var 1)]) (.str " ")) (.bi .str [(.fld (.var 0) "_total")]))), (.ite (.or (.cmp .isIn (.var 1) (.fld (.var 0) "_passed")) (.cmp .isIn (.var 1) (.fld (.var 0) "_waiting"))) [(.ret (.tup [(.str "dropped"), (.lst [])]))] []), (.set (.nm 2) (.ife (.meth c_Receiver j_Receiver_can_pass "_can_pass" (.var 0) [(.var 1)]) (.str "passes") (.str "waits"))), (.app 0 [.fl "_waiting"] (.var 1)), (.set (.nm 3) (.lst [])), (.set (.nm 4) (.meth c_Receiver j_Receiver_first_that_can "_first_that_can" (.var 0) [])), (.wh (.pu (.cmp .notNon (.var 4) .non)) [(.setF 0 [] "_waiting" (.comp [5] (.var 5) (.nm 5) (.of (.fld (.var 0) "_waiting")) [(.cmp .ne (.var 5) (.var 4))])), (.app 0 [.fl "_passed"] (.var 4)), (.app 3 [] (.slc (.var 4) [] [(.int 2)])), (.set (.nm 4) (.meth c_Receiver j_Receiver_first_that_can "_first_that_can" (.var 0) []))]), (.ret (.tup [(.var 2), (.var 3)]))]
def b_Receiver_journal : List Sm := [(.ret (.m1 .join (.str "") (.comp [1] (.bin .add (.var 1) (.str "\n")) (.nm 1) (.of (.fld (.var 0) "_lines")) [])))]
def b_law_cell : List Sm := [(.ite (.cmp .lt (.var 1) (.bi .len [(.var 0)])) [(.ret (.idx (.var 0) (.var 1)))] []), (.ret (.int 0))]
def b_law_row : List Sm := [(.set (.nm 2) (.lst [])), (.set (.nm 3) (.var 0)), (.set (.nm 4) (.bin .add (.bin .mod (.bi .int [(.var 0)]) (.int 2147483629)) (.int 1))), (.fr (.nm 5) (.rng [(.var 1)]) [(.ite (.cmp .ge (.var 0) (.bin .pow (.int 10) (.int 18))) [(.app 2 [] (.bin .mod (.bi .int [(.var 3)]) (.int 840))), (.set (.nm 3) (.bin .fdiv (.var 3) (.int 840)))] [(.set (.nm 4) (.bin .mod (.bi .int [(.bin .add (.bin .mul (.var 4) (.int 48271)) (.var 5))]) (.int 2147483647))), (.app 2 [] (.bin .mod (.bin .fdiv (.bin .mod (.bi .int [(.bin .mul (.var 4) (.int 69621))]) (.int 2147483629)) (.int 7)) (.int 840)))])]), (.rtv 2)]
def b_law_word : List Sm := [(.set (.nm 1) (.str "abcdefghijklmnopqrstuvwxyz")), (.set (.nm 2) (.idx (.var 1) (.bin .mod (.var 0) (.int 26)))), (.ite (.cmp .gt (.bin .mod (.bin .fdiv (.var 0) (.int 26)) (.int 3)) (.int 0)) [(.set (.nm 2) (.bin .add (.var 2) (.idx (.var 1) (.bin .mod (.bin .fdiv (.var 0) (.int 3)) (.int 26)))))] []), (.ite (.cmp .eq (.bin .mod (.bin .fdiv (.var 0) (.int 26)) (.int 3)) (.int 2)) [(.set (.nm 2) (.bin .add (.bin .add (.bin .add (.var 2) (.idx (.var 1) (.bin .mod (.bin .fdiv (.var 0) (.int 5)) (.int 26)))) (.idx (.var 1) (.bin .mod (.bin .fdiv (.var 0) (.int 11)) (.int 26)))) (.idx (.var 1) (.bin .mod (.bin .fdiv (.var 0) (.int 2)) (.int 26)))))] []), (.rtv 2)]
def b_law_words : List Sm := [(.set (.nm 2) (.str "abcdefghijklmnopqrstuvwxyz")), (.set (.nm 3) (.lst [])), (.fr (.nm 4) (.rng [(.var 1)]) [(.set (.nm 5) (.idx (.var 2) (.bin .mod (.bin .add (.idx (.var 0) (.int 1)) (.var 4)) (.int 26)))), (.set (.nm 6) (.call j_law_word [(.idx (.var 0) (.int 0))])), (.set (.nm 7) (.idx (.lst [(.bi .len [(.var 6)]), (.int 0), (.bin .mod (.bin .fdiv (.idx (.var 0) (.int 2)) (.int 3)) (.bin .add (.bi .len [(.var 6)]) (.int 1)))]) (.bin .mod (.idx (.var 0) (.int 2)) (.int 3)))), (.app 3 [] (.bin .add (.bin .add (.slc (.var 6) [] [(.var 7)]) (.var 5)) (.slc (.var 6) [(.var 7)] [])))]), (.rtv 3)]
def b_law_names : List Sm := [(.ret (.call j_law_words [(.slc (.var 0) [] [(.int 3)]), (.bin .add (.int 1) (.bin .mod (.idx (.var 0) (.int 3)) (.int 4)))]))]
def b_law_items : List Sm := [(.set (.nm 1) (.lst [])), (.fr (.nm 2) (.rng [(.bi .len [(.var 0)])]) [(.app 1 [] (.tup [(.str "order"), (.idx (.var 0) (.var 2)), (.idx (.var 0) (.var 2)), (.str "less")])), (.fr (.nm 3) (.of (.slc (.var 0) [(.bin .add (.var 2) (.int 1))] [])) [(.fr (.nm 4) (.of (.lst [(.str "less"), (.str "equal"), (.str "greater")])) [(.app 1 [] (.tup [(.str "order"), (.idx (.var 0) (.var 2)), (.var 3), (.var 4)]))])])]), (.ret (.bin .add (.var 1) (.comp [5] (.tup [(.str "once"), (.var 5)]) (.nm 5) (.of (.var 0)) [])))]
def b_law_some_items : List Sm := [(.set (.nm 2) (.call j_law_items [(.var 0)])), (.ret (.comp [3] (.idx (.var 2) (.var 3)) (.nm 3) (.rng [(.bi .len [(.var 2)])]) [(.cmp .eq (.bin .mod (.idx (.var 1) (.bin .mod (.var 3) (.bi .len [(.var 1)]))) (.int 2)) (.int 0))]))]
def b_law_promise_items : List Sm := [(.set (.nm 1) (.call j_law_names [(.call j_law_row [(.call j_law_cell [(.var 0), (.int 0)]), (.int 4)])])), (.ret (.lst [(.var 1), (.call j_law_some_items [(.var 1), (.call j_law_row [(.call j_law_cell [(.var 0), (.int 1)]), (.int 22)])])]))]
def b_law_relation : List Sm := [(.ite (.cmp .lt (.var 0) (.var 1)) [(.ret (.str "less"))] []), (.ite (.cmp .lt (.var 1) (.var 0)) [(.ret (.str "greater"))] []), (.ret (.str "equal"))]
def b_law_item_keeps : List Sm := [(.ite (.cmp .eq (.idx (.var 0) (.int 0)) (.str "once")) [(.ret (.bl false))] []), (.ite (.cmp .eq (.idx (.var 0) (.int 1)) (.idx (.var 0) (.int 2))) [(.ret (.and (.cmp .eq (.idx (.var 1) (.int 0)) (.idx (.var 0) (.int 1))) (.and (.cmp .eq (.idx (.var 2) (.int 0)) (.idx (.var 0) (.int 1))) (.cmp .ne (.idx (.var 1) (.int 1)) (.idx (.var 2) (.int 1))))))] []), (.ite (.cmp .eq (.tup [(.idx (.var 1) (.int 0)), (.idx (.var 2) (.int 0))]) (.tup [(.idx (.var 0) (.int 1)), (.idx (.var 0) (.int 2))])) [(.ret (.cmp .eq (.call j_law_relation [(.idx (.var 1) (.int 1)), (.idx (.var 2) (.int 1))]) (.idx (.var 0) (.int 3))))] []), (.ite (.cmp .eq (.tup [(.idx (.var 2) (.int 0)), (.idx (.var 1) (.int 0))]) (.tup [(.idx (.var 0) (.int 1)), (.idx (.var 0) (.int 2))])) [(.ret (.cmp .eq (.call j_law_relation [(.idx (.var 2) (.int 1)), (.idx (.var 1) (.int 1))]) (.idx (.var 0) (.int 3))))] []), (.ret (.bl false))]
def b_law_keeps : List Sm := [(.ret (.cmp .gt (.bi .len [(.comp [3] (.var 3) (.nm 3) (.of (.var 0)) [(.call j_law_item_keeps [(.var 3), (.var 1), (.var 2)])])]) (.int 0)))]
def b_law_letters : List Sm := [(.set (.nm 2) (.lst [(.bin .sub (.int 0) (.int 1)), (.int 0), (.int 1), (.int 2)])), (.ite (.and (.cmp .gt (.bi .len [(.var 0)]) (.int 0)) (.cmp .eq (.bin .mod (.bin .fdiv (.idx (.var 0) (.int 0)) (.int 7)) (.int 3)) (.int 1))) [(.set (.nm 3) (.bin .sub (.bin .mod (.bi .int [(.bin .add (.bin .mul (.idx (.var 0) (.int 0)) (.int 2381)) (.bin .mul (.idx (.var 0) (.neg (.int 1))) (.int 17)))]) (.int 2000000)) (.int 1000000))), (.set (.nm 2) (.lst [(.var 3), (.bin .add (.var 3) (.int 1)), (.bi .min [(.int 1000000), (.bin .add (.var 3) (.int 1000))]), (.bin .sub (.int 0) (.var 3))]))] []), (.ret (.comp [4] (.tup [(.idx (.var 1) (.bin .mod (.var 4) (.bi .len [(.var 1)]))), (.idx (.var 2) (.bin .mod (.bin .fdiv (.var 4) (.int 4)) (.int 4)))]) (.nm 4) (.of (.var 0)) []))]
def b_law_parcels : List Sm := [(.set (.nm 2) (.lst [])), (.fr (.nm 3) (.of (.var 1)) [(.set (.nm 4) (.bi .len [(.comp [6] (.var 6) (.nm 6) (.of (.var 2)) [(.call j_law_keeps [(.var 0), (.slc (.var 6) [] [(.int 2)]), (.var 3)])])])), (.set (.nm 5) (.bi .len [(.comp [6] (.var 6) (.nm 6) (.of (.var 2)) [(.and (.cmp .eq (.slc (.var 6) [] [(.int 2)]) (.var 3)) (.cmp .eq (.idx (.var 6) (.int 2)) (.var 4)))])])), (.app 2 [] (.tup [(.idx (.var 3) (.int 0)), (.idx (.var 3) (.int 1)), (.var 4), (.var 5)]))]), (.rtv 2)]
def b_law_mixed : List Sm := [(.set (.nm 2) (.bi .list [(.var 0)])), (.set (.nm 3) (.lst [])), (.fr (.nm 4) (.rng [(.bi .len [(.var 0)])]) [(.appX 3 (.pop 2 [] [(.bin .mod (.idx (.var 1) (.bin .mod (.var 4) (.bi .len [(.var 1)]))) (.bi .len [(.var 2)]))])), (.ite (.cmp .eq (.bin .mod (.idx (.var 1) (.bin .mod (.bin .add (.var 4) (.int 7)) (.bi .len [(.var 1)]))) (.int 4)) (.int 0)) [(.app 3 [] (.idx (.var 3) (.bin .mod (.idx (.var 1) (.bin .mod (.bin .add (.var 4) (.int 3)) (.bi .len [(.var 1)]))) (.bi .len [(.var 3)]))))] [])]), (.rtv 3)]
def b_law_some_parcels : List Sm := [(.set (.nm 3) (.call j_law_row [(.var 0), (.int 50)])), (.set (.nm 4) (.call j_law_mixed [(.call j_law_parcels [(.var 2), (.call j_law_letters [(.slc (.var 3) [] [(.bin .mod (.idx (.var 3) (.int 49)) (.int 15))]), (.var 1)])]), (.slc (.var 3) [(.int 15)] [(.int 30)])])), (.fr (.nm 5) (.rng [(.bin .mod (.idx (.var 3) (.int 48)) (.int 4))]) [(.set (.nm 6) (.bin .mod (.idx (.var 3) (.bin .add (.int 30) (.var 5))) (.bin .add (.bi .len [(.var 4)]) (.int 1)))), (.set (.nm 7) (.idx (.var 1) (.bin .mod (.idx (.var 3) (.bin .add (.int 34) (.var 5))) (.bi .len [(.var 1)])))), (.set (.nm 8) (.tup [(.var 7), (.bin .sub (.bin .mod (.idx (.var 3) (.bin .add (.int 38) (.var 5))) (.int 4)) (.int 1)), (.bin .mod (.idx (.var 3) (.bin .add (.int 42) (.var 5))) (.int 4)), (.bin .mod (.bin .fdiv (.idx (.var 3) (.bin .add (.int 38) (.var 5))) (.int 4)) (.int 2))])), (.ite (.cmp .eq (.bin .mod (.idx (.var 3) (.int 46)) (.int 3)) (.int 1)) [(.set (.nm 9) (.bin .sub (.bin .mod (.bi .int [(.bin .add (.bin .mul (.idx (.var 3) (.bin .add (.int 38) (.var 5))) (.int 2389)) (.idx (.var 3) (.bin .add (.int 42) (.var 5))))]) (.int 2000001)) (.int 1000000))), (.set (.nm 8) (.tup [(.var 7), (.var 9), (.bin .mod (.bi .int [(.bin .add (.bin .mul (.idx (.var 3) (.bin .add (.int 42) (.var 5))) (.int 7)) (.var 5))]) (.int 1001)), (.bin .mod (.bi .int [(.bin .mul (.idx (.var 3) (.bin .add (.int 38) (.var 5))) (.int 3))]) (.int 1001))]))] []), (.set (.nm 4) (.bin .add (.bin .add (.slc (.var 4) [] [(.var 6)]) (.lst [(.var 8)])) (.slc (.var 4) [(.var 6)] [])))]), (.ite (.cmp .eq (.bin .mod (.idx (.var 3) (.int 47)) (.int 3)) (.int 0)) [(.set (.nm 4) (.comp [5] (.idx (.var 4) (.var 5)) (.nm 5) (.rng [(.bi .len [(.var 4)])]) [(.cmp .gt (.bin .mod (.idx (.var 3) (.bin .mod (.var 5) (.int 47))) (.int 4)) (.int 0))]))] []), (.rtv 4)]
def b_law_code : List Sm := [(.set (.nm 1) (.str "0123456789")), (.fr (.nm 2) (.rng [(.int 10)]) [(.ite (.cmp .eq (.idx (.var 1) (.var 2)) (.var 0)) [(.ret (.bin .add (.int 48) (.var 2)))] [])]), (.set (.nm 3) (.str "abcdefghijklmnopqrstuvwxyz")), (.fr (.nm 2) (.rng [(.int 26)]) [(.ite (.cmp .eq (.idx (.var 3) (.var 2)) (.var 0)) [(.ret (.bin .add (.int 97) (.var 2)))] [])]), (.ret (.idx (.lst [(.int 32), (.int 45)]) (.bi .int [(.cmp .eq (.var 0) (.str "-"))])))]
def b_law_sum : List Sm := [(.fr (.nm 2) (.of (.var 1)) [(.set (.nm 0) (.bin .mod (.bi .int [(.bin .add (.bin .mul (.int 256) (.var 0)) (.call j_law_code [(.var 2)]))]) (.int 65521)))]), (.rtv 0)]
def b_law_journal : List Sm := [(.set (.nm 1) (.int 1)), (.set (.nm 2) (.str "")), (.fr (.nm 3) (.of (.var 0)) [(.set (.nm 4) (.m1 .join (.str " ") (.lst [(.idx (.var 3) (.int 0)), (.bi .str [(.idx (.var 3) (.int 1))]), (.bi .str [(.idx (.var 3) (.int 2))]), (.bi .str [(.idx (.var 3) (.int 3))])]))), (.set (.nm 1) (.call j_law_sum [(.var 1), (.var 4)])), (.set (.nm 2) (.bin .add (.bin .add (.bin .add (.bin .add (.var 2) (.var 4)) (.str " ")) (.bi .str [(.var 1)])) (.str "\n")))]), (.rtv 2)]
def b_law : List Sm := [(.set (.tp [5, 6]) (.call j_law_promise_items [(.var 0)])), (.set (.nm 1) (.mk c_Receiver j_Receiver_init [(.mk c_Promise j_Promise_init [(.var 5), (.var 6)])])), (.set (.nm 2) (.slc (.bin .add (.call j_law_some_parcels [(.call j_law_cell [(.var 0), (.int 2)]), (.var 5), (.var 6)]) (.call j_law_some_parcels [(.call j_law_cell [(.var 0), (.int 3)]), (.var 5), (.var 6)])) [] [(.int 30)])), (.ite (.cmp .ne (.meth c_Receiver j_Receiver_journal "journal" (.var 1) []) (.str "")) [(.ret (.bl false))] []), (.fr (.nm 3) (.rng [(.bi .len [(.var 2)])]) [(.expX (.meth c_Receiver j_Receiver_come "come" 1 [] [.pu (.idx (.var 2) (.var 3))])), (.ite (.and (.cmp .eq (.bin .mod (.var 3) (.int 5)) (.int 0)) (.cmp .ne (.meth c_Receiver j_Receiver_journal "journal" (.var 1) []) (.call j_law_journal [(.slc (.var 2) [] [(.bin .add (.var 3) (.int 1))])]))) [(.ret (.bl false))] [])]), (.set (.nm 4) (.meth c_Receiver j_Receiver_journal "journal" (.var 1) [])), (.ret (.and (.isi (.var 4) (.b .str)) (.and (.cmp .eq (.var 4) (.call j_law_journal [(.var 2)])) (.cmp .eq (.meth c_Receiver j_Receiver_journal "journal" (.var 1) []) (.var 4)))))]
def Fs : List Fun := [⟨1, 7, [], b_all_items⟩, ⟨3, 6, [0], b_Promise_init⟩, ⟨2, 2, [], b_relation_of⟩, ⟨3, 3, [], b_item_keeps⟩, ⟨3, 4, [], b_keeps⟩, ⟨3, 3, [], b_is_integer⟩, ⟨2, 2, [], b_is_parcel⟩, ⟨3, 4, [], b_count_kept⟩, ⟨1, 2, [], b_codes_of⟩, ⟨2, 3, [], b_checksum⟩, ⟨1, 2, [], b_words_of⟩, ⟨2, 2, [0], b_Receiver_init⟩, ⟨2, 2, [], b_Receiver_can_pass⟩, ⟨1, 2, [], b_Receiver_first_that_can⟩, ⟨2, 6, [0], b_Receiver_come⟩, ⟨1, 2, [], b_Receiver_journal⟩, ⟨2, 2, [], b_law_cell⟩, ⟨2, 6, [], b_law_row⟩, ⟨1, 3, [], b_law_word⟩, ⟨2, 8, [], b_law_words⟩, ⟨1, 1, [], b_law_names⟩, ⟨1, 6, [], b_law_items⟩, ⟨2, 4, [], b_law_some_items⟩, ⟨1, 2, [], b_law_promise_items⟩, ⟨2, 2, [], b_law_relation⟩, ⟨3, 3, [], b_law_item_keeps⟩, ⟨3, 4, [], b_law_keeps⟩, ⟨2, 5, [], b_law_letters⟩, ⟨2, 7, [], b_law_parcels⟩, ⟨2, 5, [], b_law_mixed⟩, ⟨3, 10, [], b_law_some_parcels⟩, ⟨1, 4, [], b_law_code⟩, ⟨2, 3, [], b_law_sum⟩, ⟨1, 5, [], b_law_journal⟩, ⟨1, 7, [], b_law⟩]
def T (j : Nat) : Option Fun := Fs[j]?
def gv (_ : Nat) : D := .non
theorem up {m j : Nat} {F : Fun} {ds : List D} (hm : 1 ≤ m) (h : T j = some F) : PhiN T gv m j ds = fnD (PhiN T gv (m - 1)) gv F ds := by
  cases m with
  | zero => omega
  | succ n => simp only [PhiN, h, Nat.add_sub_cancel]
theorem un {n j : Nat} {F : Fun} {ds : List D} (h : T j = some F) : PhiN T gv (n + 1) j ds = fnD (PhiN T gv n) gv F ds := by simp only [PhiN, h]
theorem upE {m j : Nat} {F : Fun} {ds : List D} (hm : 1 ≤ m) (h : T j = some F) (hl : ds.length = F.np) : PhiN T gv m j ds = fnEnd F.is (runs (PhiN T gv (m - 1)) gv F.is F.b (ds.map some ++ List.replicate (F.n - F.np) none)) := by
  rw [up hm h, fnD_eq, if_pos hl]
end K

set_option Elab.async false
set_option linter.all false
set_option maxRecDepth 100000
set_option maxHeartbeats 1000000
/-! La: what a law draws: cells, rows, words, names. -/
namespace K
open PySem PySem.Spec PyProof.Rows L2 Pu
def cellOf (ns : List Int) (k : Nat) : Int := (ns[k]?).getD 0
theorem phi_cell {m : Nat} (hm : 1 ≤ m) (ns : List Int) (k : Nat) : PhiN T gv m j_law_cell [.lst .fz (ns.map D.int), .int (k : Int)] = .ok (.int (cellOf ns k), []) := by
  rw [up hm rfl]
  by_cases h : k < ns.length
  · have e : ns[k]? = some ns[k] := List.getElem?_eq_getElem h
    simp [fnD_eq, b_law_cell, runs_cons, runs_nil, run_ret, run_ite, h, atI_n, cellOf, e]
  · have e : ns[k]? = none := List.getElem?_eq_none (by omega)
    simp [fnD_eq, b_law_cell, runs_cons, runs_nil, run_ret, run_ite, h, atI_n, cellOf, e]
/-- a row: so many numbers of 0 to 839 -/
def IsRow (xs : List Nat) (c : Nat) : Prop := xs.length = c ∧ ∀ x ∈ xs, x < 840
theorem IsRow.snoc {xs : List Nat} {c : Nat} (h : IsRow xs c) {x : Nat} (h2 : x < 840) : IsRow (xs ++ [x]) (c + 1) := by
  refine ⟨by rw [List.length_append, h.1]; rfl, fun y hy => ?_⟩
  rcases List.mem_append.mp hy with hy | hy
  · exact h.2 y hy
  · rw [List.mem_singleton.mp hy]
    exact h2
def dI (n : Nat) : Pu.D := .int (n : Int)
def J9 (c cnt : Int) (i : Nat) (ρ : List (Option Pu.D)) : Prop := ∃ (xs : List Nat) (rest seed : Int) (o : Option Pu.D), ρ = [some (.int c), some (.int cnt), some (.lst .ow (xs.map dI)), some (.int rest), some (.int seed), o] ∧ IsRow xs i ∧ 0 ≤ seed ∧ seed < 2147483647
theorem phi_row {m : Nat} (hm : 1 ≤ m) (c : Int) (cnt : Nat) (hc : cnt ≤ 1000) : ∃ xs, IsRow xs cnt ∧ PhiN T gv m j_law_row [.int c, .int (cnt : Int)] = .ok (.lst .ow (xs.map dI), []) := by
  have hs : (1000 : Nat) < sizeLine := by decide +kernel
  have hq : cnt ≤ 1000000 := Nat.le_trans hc (by decide)
  have st := fun (ρ : List (Option Pu.D)) (h : ρ[1]? = some (some (.int (cnt : Int)))) (h0 : J9 c cnt 0 ρ) => fr_inv (Φ := PhiN T gv (m - 1)) (gv := gv) (pi := []) (t := .nm 5) (en := fun (j : Nat) => D.int (j : Int)) (b := _) (J9 c cnt) (evIt_range h hq) (by simp) h0
    (fun i x ρ hx ⟨xs, rest, seed, o, e, r, h1, h2⟩ => by
      subst e
      have hil : i < cnt := by
        have := (List.getElem?_eq_some_iff.mp hx).1
        simpa using this
      have hx : x = i := by
        rw [List.getElem?_range hil] at hx
        exact (Option.some.inj hx).symm
      subst hx
      have hl : xs.length < sizeLine := by rw [r.1]; omega
      show ∃ ρ', (_ ∨ (((bindC (.nm 5) _ _).seq fun ρ' => runs (PhiN T gv (m - 1)) gv [] [(.ite (.cmp .ge (.var 0) (.bin .pow (.int 10) (.int 18))) [(.app 2 [] (.bin .mod (.bi .int [(.var 3)]) (.int 840))), (.set (.nm 3) (.bin .fdiv (.var 3) (.int 840)))] [(.set (.nm 4) (.bin .mod (.bi .int [(.bin .add (.bin .mul (.var 4) (.int 48271)) (.var 5))]) (.int 2147483647))), (.app 2 [] (.bin .mod (.bin .fdiv (.bin .mod (.bi .int [(.bin .mul (.var 4) (.int 69621))]) (.int 2147483629)) (.int 7)) (.int 840)))])] ρ') = .ct ρ')) ∧ _
      by_cases q : (1000000000000000000 : Int) ≤ c
      · refine ⟨_, .inl ?_, xs ++ [(rest % 840).toNat], rest / 840, seed, some (.int (x : Int)), rfl, r.snoc (by omega), h1, h2⟩
        have e : ((rest % 840).toNat : Int) = rest % 840 := by omega
        simp [runs_cons, runs_nil, run_ite, run_app, run_set, bin_mulI, bin_powI, appK, q, hl, dI, e]
      · refine ⟨_, .inl ?_, xs ++ [((seed * 48271 + (x : Int)) % 2147483647 * 69621 % 2147483629 / 7 % 840).toNat], rest, (seed * 48271 + (x : Int)) % 2147483647, some (.int (x : Int)), rfl, r.snoc (by omega), by omega, by omega⟩
        have e : (((seed * 48271 + (x : Int)) % 2147483647 * 69621 % 2147483629 / 7 % 840).toNat : Int) = (seed * 48271 + (x : Int)) % 2147483647 * 69621 % 2147483629 / 7 % 840 := by omega
        simp [runs_cons, runs_nil, run_ite, run_app, run_set, bin_mulI, bin_powI, appK, q, hl, dI, e])
  obtain ⟨ρ', e, xs, rest, seed, o, rfl, r, _, _⟩ := st [some (.int c), some (.int (cnt : Int)), some (.lst .ow []), some (.int c), some (.int (c % 2147483629 + 1)), none] rfl ⟨[], _, _, _, rfl, ⟨rfl, fun x hx => by cases hx⟩, by omega, by omega⟩
  refine ⟨xs, ⟨by simpa using r.1, r.2⟩, ?_⟩
  rw [up hm rfl]
  simp [fnD_eq, b_law_row, runs_cons, runs_nil, run_set, run_rtv, e, dI]
theorem rowAt {row : List Nat} {k : Nat} (h : k < row.length) {i : Int} (e : i = (k : Int)) : atI (row.map dI) i = some (.int ((nth row k : Nat) : Int)) := by
  rw [e, atI_n, List.getElem?_map, get_nth h]; rfl
@[simp] theorem dI_vw {n} : vwD (dI n) = dI n := id rfl
@[simp] theorem dI_fz {n} : fzD (dI n) = dI n := id rfl
@[simp] theorem dI_an {n} : anyFz (dI n) = dI n := id rfl
@[simp] theorem dI_nv {n} : noVw (dI n) = true := id rfl
end K

set_option Elab.async false
set_option linter.all false
set_option maxRecDepth 100000
set_option maxHeartbeats 1000000
/-! Lb: words and names that a law draws. -/
namespace K
open PySem PySem.Spec PyProof.Rows L2 Pu
def ch (i : Int) : Nat := 97 + (i % 26).toNat
def wordL (k : Int) : List Nat := if k / 26 % 3 = 0 then [ch k] else if k / 26 % 3 = 1 then [ch k, ch (k / 3)] else [ch k, ch (k / 3), ch (k / 5), ch (k / 11), ch (k / 2)]
theorem wordL_len (k : Int) : 1 ≤ (wordL k).length ∧ (wordL k).length ≤ 5 := by unfold wordL; split <;> (try split) <;> simp
theorem ch_ok (k : Int) : 97 ≤ ch k ∧ ch k ≤ 122 := by unfold ch; omega
theorem wordL_ok (k : Int) : ∀ c ∈ wordL k, 97 ≤ c ∧ c ≤ 122 := by
  intro c hc
  unfold wordL at hc
  split at hc <;> (try split at hc) <;> simp only [List.mem_cons, List.not_mem_nil, or_false] at hc
  · subst hc; exact ch_ok _
  · rcases hc with rfl | rfl <;> exact ch_ok _
  · rcases hc with rfl | rfl | rfl | rfl | rfl <;> exact ch_ok _
theorem phi_word {m : Nat} (hm : 1 ≤ m) (k : Int) : PhiN T gv m j_law_word [.int k] = .ok (.str (mkS (wordL k)), []) := by
  have h5 := big5
  rw [up (by omega) rfl]
  have c : k / 26 % 3 = 0 ∨ k / 26 % 3 = 1 ∨ k / 26 % 3 = 2 := by omega
  rcases c with c | c | c <;>
    simp [fnD_eq, b_law_word, runs_cons, runs_nil, run_set, run_ite, run_rtv, al_eq, idx_al, c, bin_addS, wordL, h5, ch]
def atOf (l : Nat) (r : Nat) : Nat := if r % 3 = 0 then l else if r % 3 = 1 then 0 else r / 3 % (l + 1)
def wordsL (r0 r1 r2 : Nat) (k : Nat) : List Nat := (wordL r0).take (atOf (wordL r0).length r2) ++ ([ch ((r1 : Int) + k)] ++ (wordL r0).drop (atOf (wordL r0).length r2))
theorem idx_at (l r : Nat) : atI [D.int (l : Int), D.int 0, D.int ((r : Int) / 3 % ((l : Int) + 1))] ((r : Int) % 3) = some (.int (atOf l r : Int)) := by
  unfold atOf
  by_cases h0 : r % 3 = 0
  · have : (r : Int) % 3 = 0 := by omega
    simp [this, h0]
  · by_cases h1 : r % 3 = 1
    · have : (r : Int) % 3 = 1 := by omega
      simp [this, h1]
    · have : (r : Int) % 3 = 2 := by omega
      simp [this, h0, h1]
theorem bin_addS5 {a b : List Nat} (h : a.length ≤ 300) (g : b.length ≤ 300) : binD .add (.str (mkS a)) (.str (mkS b)) = .ok (.str (mkS (a ++ b))) := by
  rw [bin_addS, if_pos (big5 _ (by omega))]
theorem slc_S5 {l : List Nat} {lo hi : Option Int} (h : l.length ≤ 300) : slcD (.str (mkS l)) lo hi = .ok (.str (mkS (cutD l lo hi))) := by
  rw [slc_S, if_pos (big5 _ (by omega))]
theorem len_S5 {l : List Nat} (h : l.length ≤ 300) : biD .len [.str (mkS l)] = .ok (.int (l.length : Int)) := by
  rw [len_S, if_pos (big5 _ (by omega))]
theorem phi_words {m : Nat} (hm : 2 ≤ m) (r0 r1 r2 cnt : Nat) (hc : cnt ≤ 1000) : PhiN T gv m j_law_words [.lst .fz [dI r0, dI r1, dI r2], .int (cnt : Int)] = .ok (.lst .ow ((List.range cnt).map fun k => .str (mkS (wordsL r0 r1 r2 k))), []) := by
  have hs : (1000 : Nat) < sizeLine := by decide +kernel
  have h5 := big5
  have hq : cnt ≤ 1000000 := Nat.le_trans hc (by decide)
  have hw := phi_word (m := m - 1) (by omega) r0
  obtain ⟨l1, l2⟩ := wordL_len r0
  have l3 : (wordL r0).length ≤ 300 := by omega
  have l4 : ((wordL r0).take (atOf (wordL r0).length r2)).length ≤ 5 := by rw [List.length_take]; omega
  have l5 : ((wordL r0).drop (atOf (wordL r0).length r2)).length ≤ 300 := by rw [List.length_drop]; omega
  have l6 : ∀ c, (((wordL r0).take (atOf (wordL r0).length r2)) ++ [c]).length ≤ 300 := fun c => by rw [List.length_append, List.length_singleton]; omega
  rw [up (by omega) rfl]
  simp [fnD_eq, b_law_words, runs_cons, run_set, al_eq]
  refine fn_frR (fun i ρ => ∃ o4 o5 o6 o7, ρ = [some (.lst .fz [dI r0, dI r1, dI r2]), some (.int (cnt : Int)), some (.str (mkS alL)), some (.lst .ow ((List.range i).map fun k => .str (mkS (wordsL r0 r1 r2 k)))), o4, o5, o6, o7])
    (evIt_range (c := cnt) (by rfl) hq) ⟨none, none, none, none, by simp⟩ ?_ ?_
  · rintro i ρ hil ⟨o4, o5, o6, o7, rfl⟩ N B R hN - -
    have hl : i < sizeLine := by omega
    simp [runs_cons, runs_nil, run_set, run_app, dI, idx_al,  callD, hw, len_S5 l3, h5, idx_at, slc_S5 l3, bin_addS5 (Nat.le_trans l4 (by decide)), bin_addS5 (l6 _) l5, appK, hl, List.range_succ, wordsL, ch]
    exact hN _ ⟨_, _, _, _, by simp [dI, List.range_succ, wordsL, ch]; exact ⟨rfl, rfl, rfl, rfl⟩⟩
  · rintro ρ ⟨o4, o5, o6, o7, rfl⟩
    simp [runs_cons, runs_nil, run_rtv]
def namesL (row : List Nat) : List (List Nat) := (List.range (1 + nth row 3 % 4)).map (wordsL (nth row 0) (nth row 1) (nth row 2))
theorem phi_names {m : Nat} (hm : 3 ≤ m) (row : List Nat) (h : IsRow row 4) : PhiN T gv m j_law_names [.lst .fz (row.map dI)] = .ok (.lst .ow ((namesL row).map fun w => .str (mkS w)), []) := by
  obtain ⟨hl, _⟩ := h
  match row, hl with
  | [a, b, c, d], _ =>
    have hw := phi_words (m := m - 1) (by omega) a b c (1 + d % 4) (by omega)
    rw [up (by omega) rfl]
    have e : (((1 + d % 4 : Nat)) : Int) = 1 + (d : Int) % 4 := by omega
    rw [e] at hw
    have e2 : cutD [D.int (a : Int), D.int (b : Int), D.int (c : Int), D.int (d : Int)] none (some 3) = [D.int (a : Int), D.int (b : Int), D.int (c : Int)] := rfl
    simp [dI] at hw
    simp [fnD_eq, b_law_names, runs_cons, runs_nil, run_ret, callD, dI, e2, hw, namesL, nth]
end K

set_option Elab.async false
set_option linter.all false
set_option maxRecDepth 100000
set_option maxHeartbeats 1000000
/-! Lc: items of promises. -/
namespace K
open PySem PySem.Spec PyProof.Rows L2 Pu
theorem litOk : PyData.strOk "order" = true ∧ PyData.strOk "once" = true ∧ PyData.strOk "less" = true ∧ PyData.strOk "equal" = true ∧ PyData.strOk "greater" = true := by decide +kernel
@[simp] theorem ok_order : PyData.strOk "order" = true := litOk.1
@[simp] theorem ok_once : PyData.strOk "once" = true := litOk.2.1
@[simp] theorem ok_less : PyData.strOk "less" = true := litOk.2.2.1
@[simp] theorem ok_equal : PyData.strOk "equal" = true := litOk.2.2.2.1
@[simp] theorem ok_greater : PyData.strOk "greater" = true := litOk.2.2.2.2
@[simp] theorem ne_oo : (Str.ofString "order" = Str.ofString "once") = False := eq_false (by decide +kernel)
@[simp] theorem ne_oo' : (Str.ofString "once" = Str.ofString "order") = False := eq_false (by decide +kernel)
inductive Rel | less | equal | greater
  deriving DecidableEq
def Rel.s : Rel → Str
  | .less => "less" | .equal => "equal" | .greater => "greater"
@[simp] theorem Rel.ok (r : Rel) : PyData.strOk r.s = true := by cases r <;> simp [Rel.s]
theorem Rel.inj {a b : Rel} (h : a.s = b.s) : a = b := by
  revert h; cases a <;> cases b <;> decide +kernel
@[simp] theorem Rel.seq {a b : Rel} : (a.s = b.s) = (a = b) := propext ⟨Rel.inj, fun h => by rw [h]⟩
def relOf (i j : Int) : Rel := if i < j then .less else if j < i then .greater else .equal
inductive It8 where
  | ord (a b : OkS) (r : Rel)
  | once (a : OkS)
  deriving DecidableEq
def dW (w : OkS) : Pu.D := .str w.1
def It8.D : It8 → Pu.D
  | .ord a b r => .tup [.str "order", .str a.1, .str b.1, .str r.s]
  | .once a => .tup [.str "once", .str a.1]
/-- .. as a list -/
def It8.L (f : Fl) : It8 → Pu.D
  | .ord a b r => .lst f [.str "order", .str a.1, .str b.1, .str r.s]
  | .once a => .lst f [.str "once", .str a.1]
theorem D_ord {a b r} : (It8.ord a b r).D = .tup [.str "order", .str a.1, .str b.1, .str r.s] := id rfl
theorem D_once {a} : (It8.once a).D = .tup [.str "once", .str a.1] := id rfl
@[simp] theorem dW_vw {w} : vwD (dW w) = dW w := id rfl
@[simp] theorem dW_fz {w} : fzD (dW w) = dW w := id rfl
@[simp] theorem dW_va {w} : vaD (dW w) = dW w := id rfl
@[simp] theorem dW_an {w} : anyFz (dW w) = dW w := id rfl
@[simp] theorem dW_nv {w} : noVw (dW w) = true := id rfl
@[simp] theorem dW_fl {n w} : flat n (dW w) = true := by simp [dW]
theorem dW_inj {a b : OkS} (h : dW a = dW b) : a = b := by
  simp only [dW, D.str.injEq] at h
  exact OkS.ext h
@[simp] theorem It8.vw {i : It8} : vwD i.D = i.D := by cases i <;> rfl
@[simp] theorem It8.fz {i : It8} : fzD i.D = i.D := by cases i <;> rfl
@[simp] theorem It8.va {i : It8} : vaD i.D = i.D := by cases i <;> rfl
@[simp] theorem It8.an {i : It8} : anyFz i.D = i.D := by cases i <;> rfl
@[simp] theorem It8.nv {i : It8} : noVw i.D = true := by cases i <;> rfl
@[simp] theorem It8.fl {i : It8} : flat 8 i.D = true := by cases i <;> simp [It8.D]
theorem It8.inj {a b : It8} (h : a.D = b.D) : a = b := by
  cases a <;> cases b <;> simp [It8.D] at h ⊢
  · exact h
  · exact h
@[simp] theorem memb_it {a : It8} {xs : List It8} : memb a.D (xs.map It8.D) = decide (a ∈ xs) := memb_inj (fun _ _ => It8.inj)
@[simp] theorem memb_it' {a : It8} {xs : List It8} : memb a.D (xs.map fun x => x.D) = decide (a ∈ xs) := memb_inj (fun _ _ => It8.inj)
theorem cmp_str {a b : Str} (h : PyData.strOk a = true) (g : PyData.strOk b = true) : cmpB .eq (.str a) (.str b) = some (decide (a = b)) := cmp_eqS h g
theorem cmp_strN {a b : Str} (h : PyData.strOk a = true) (g : PyData.strOk b = true) : cmpB .ne (.str a) (.str b) = some (!decide (a = b)) := cmp_neS h g
theorem phi_relation_of {m : Nat} (hm : 1 ≤ m) (i j : Int) : PhiN T gv m j_relation_of [.int i, .int j] = .ok (.str (relOf i j).s, []) := by
  rw [up hm rfl]
  by_cases h : i < j <;> by_cases h2 : j < i <;> simp [fnD_eq, b_relation_of, runs_cons, runs_nil, run_ret, run_ite, relOf, Rel.s, h, h2]
theorem phi_law_relation {m : Nat} (hm : 1 ≤ m) (i j : Int) : PhiN T gv m j_law_relation [.int i, .int j] = .ok (.str (relOf i j).s, []) := by
  rw [up hm rfl]
  by_cases h : i < j <;> by_cases h2 : j < i <;> simp [fnD_eq, b_law_relation, runs_cons, runs_nil, run_ret, run_ite, relOf, Rel.s, h, h2]
/-- a message -/
abbrev Ms := OkS × Int
def It8.keeps : It8 → Ms → Ms → Bool
  | .once _, _, _ => false
  | .ord a b r, m, k => if a = b then decide (m.1 = a) && (decide (k.1 = a) && !decide (m.2 = k.2))
    else if m.1 = a ∧ k.1 = b then decide (relOf m.2 k.2 = r)
    else if k.1 = a ∧ m.1 = b then decide (relOf k.2 m.2 = r) else false
def dM (m : Ms) : Pu.D := .tup [.str m.1.1, .int m.2]
def dML (f : Fl) (m : Ms) : Pu.D := .lst f [.str m.1.1, .int m.2]
@[simp] theorem dM_vw {w} : vwD (dM w) = dM w := id rfl
@[simp] theorem dM_fz {w} : fzD (dM w) = dM w := id rfl
@[simp] theorem dM_va {w} : vaD (dM w) = dM w := id rfl
@[simp] theorem dM_an {w} : anyFz (dM w) = dM w := id rfl
@[simp] theorem dM_nv {w} : noVw (dM w) = true := id rfl
@[simp] theorem dM_fl {w} : flat 8 (dM w) = true := by simp [dM]
@[simp] theorem dML_vw {f w} : vwD (dML f w) = dML f.vwd w := id rfl
@[simp] theorem dML_fz {f w} : fzD (dML f w) = dML f.fzd w := id rfl
@[simp] theorem dML_va {f w} : vaD (dML f w) = dML f.vwa w := id rfl
@[simp] theorem dML_an {f w} : anyFz (dML f w) = dML .fz w := id rfl
theorem dM_inj {a b : Ms} (h : dM a = dM b) : a = b := by
  simp only [dM, D.tup.injEq, List.cons.injEq, D.str.injEq, D.int.injEq, and_true] at h
  exact Prod.ext (OkS.ext h.1) h.2
/-- a message, as a tuple or a settled list -/
def IsM (d : Pu.D) (m : Ms) : Prop := d = dM m ∨ d = dML .fz m
theorem IsM.at {d : Pu.D} {m : Ms} (h : IsM d m) : idxD (vwD d) (.int 0) = .ok (.str m.1.1) ∧ idxD (vwD d) (.int 1) = .ok (.int m.2) := by
  rcases h with rfl | rfl <;> simp [dM, dML]
/-- an item, as a tuple or a settled list -/
def IsI (d : Pu.D) (i : It8) : Prop := d = i.D ∨ d = i.L .fz
theorem call_rel {m : Nat} (hm : 1 ≤ m) (i j : Int) : callD (PhiN T gv m) j_relation_of [.int i, .int j] = .ok (.str (relOf i j).s) := by
  simp [callD, phi_relation_of hm]
theorem call_lrel {m : Nat} (hm : 1 ≤ m) (i j : Int) : callD (PhiN T gv m) j_law_relation [.int i, .int j] = .ok (.str (relOf i j).s) := by
  simp [callD, phi_law_relation hm]
theorem phi_item_keeps {n : Nat} (hn : 2 ≤ n) {it : It8} {m k : Ms} {di dm dk : Pu.D} (hi : IsI di it) (hm : IsM dm m) (hk : IsM dk k) : PhiN T gv n j_item_keeps [di, dm, dk] = .ok (.bl (it.keeps m k), []) := by
  rw [up (by omega) rfl]
  obtain ⟨m1, m2⟩ := hm.at
  obtain ⟨k1, k2⟩ := hk.at
  obtain ⟨ma, mb⟩ := m
  obtain ⟨ka, kb⟩ := k
  have cr := call_rel (m := n - 1) (by omega)
  cases it with
  | once a =>
    rcases hi with rfl | rfl <;> simp [fnD_eq, b_item_keeps, runs_cons, runs_nil, run_ret, run_ite, run_set, It8.D, It8.L, It8.keeps, cmp_str, cmp_strN]
  | ord a b r =>
    by_cases e : a = b
    · subst e
      by_cases q1 : ma = a <;> by_cases q2 : ka = a <;> rcases hi with rfl | rfl <;>
        simp [fnD_eq, b_item_keeps, runs_cons, runs_nil, run_ret, run_ite, run_set, It8.D, It8.L, It8.keeps, cmp_str, cmp_strN, m1, m2, k1, k2, q1, q2]
    · have e' : ¬ b = a := fun z => e z.symm
      by_cases q1 : ma = a <;> by_cases q2 : ka = b <;> by_cases q3 : ka = a <;> by_cases q4 : ma = b <;> rcases hi with rfl | rfl <;>
        simp [fnD_eq, b_item_keeps, runs_cons, runs_nil, run_ret, run_ite, run_set, It8.D, It8.L, It8.keeps, cmp_str, cmp_strN, m1, m2, k1, k2, q1, q2, q3, q4, e, e', cr]
theorem cmp2 {a b c d : OkS} : cmpB .eq (.tup [.str a.1, .str b.1]) (.tup [.str c.1, .str d.1]) = some (decide (a = c) && decide (b = d)) := by
  rw [cmp_eq8 (by simp) (by simp)]
  simp [eqb_tup, eqbs_cons, eqbs_nil, eqb_str]
theorem phi_law_item_keeps {n : Nat} (hn : 2 ≤ n) {it : It8} {m k : Ms} {dm dk : Pu.D} (hm : IsM dm m) (hk : IsM dk k) : PhiN T gv n j_law_item_keeps [it.D, dm, dk] = .ok (.bl (it.keeps m k), []) := by
  rw [up (by omega) rfl]
  obtain ⟨m1, m2⟩ := hm.at
  obtain ⟨k1, k2⟩ := hk.at
  obtain ⟨ma, mb⟩ := m
  obtain ⟨ka, kb⟩ := k
  have cr := call_lrel (m := n - 1) (by omega)
  have sz : 2 ≤ sizeLine := by decide +kernel
  cases it with
  | once a =>
    simp [fnD_eq, b_law_item_keeps, runs_cons, runs_nil, run_ret, run_ite, run_set, It8.D, It8.keeps, cmp_str, cmp_strN]
  | ord a b r =>
    by_cases e : a = b
    · subst e
      by_cases q1 : ma = a <;> by_cases q2 : ka = a <;>
        simp [fnD_eq, b_law_item_keeps, runs_cons, runs_nil, run_ret, run_ite, run_set, It8.D, It8.keeps, cmp_str, cmp_strN, m1, m2, k1, k2, q1, q2]
    · have e' : ¬ b = a := fun z => e z.symm
      by_cases q1 : ma = a <;> by_cases q2 : ka = b <;> by_cases q3 : ka = a <;> by_cases q4 : ma = b <;>
        simp [fnD_eq, b_law_item_keeps, runs_cons, runs_nil, run_ret, run_ite, run_set, It8.D, It8.keeps, cmp_str, cmp_strN, cmp2, sz, m1, m2, k1, k2, q1, q2, q3, q4, e, e', cr]
end K

set_option Elab.async false
set_option linter.all false
set_option maxRecDepth 100000
set_option maxHeartbeats 1000000
/-! Ld: promises. -/
namespace K
open PySem PySem.Spec PyProof.Rows L2 Pu
theorem callD_bl {Φ : Nat → List Pu.D → Out (Pu.D × List Pu.D)} {j : Nat} {ds : List Pu.D} {b : Bool} (h : Φ j (anyFzs ds) = .ok (.bl b, [])) : callD Φ j ds = .ok (.bl b) := by
  simp [callD, h]
theorem IsM.vw {d : Pu.D} {m : Ms} (h : IsM d m) : IsM (vwD d) m := by rcases h with rfl | rfl <;> simp [IsM]
theorem IsM.an {d : Pu.D} {m : Ms} (h : IsM d m) : IsM (anyFz d) m := by rcases h with rfl | rfl <;> simp [IsM]
@[simp] theorem IsM.t {m : Ms} : IsM (dM m) m := .inl rfl
@[simp] theorem IsM.l {m : Ms} : IsM (dML .fz m) m := .inr rfl
@[simp] theorem IsI.t {i : It8} : IsI i.D i := .inl rfl
@[simp] theorem IsI.l {i : It8} : IsI (i.L .fz) i := .inr rfl
theorem call_ik {n : Nat} (hn : 2 ≤ n) {it : It8} {m k : Ms} {di dm dk : Pu.D} (hi : IsI (anyFz di) it) (hm : IsM (anyFz dm) m) (hk : IsM (anyFz dk) k) : callD (PhiN T gv n) j_item_keeps [di, dm, dk] = .ok (.bl (it.keeps m k)) := callD_bl (phi_item_keeps hn hi hm hk)
theorem call_lik {n : Nat} (hn : 2 ≤ n) {it : It8} {m k : Ms} {dm dk : Pu.D} (hm : IsM (anyFz dm) m) (hk : IsM (anyFz dk) k) : callD (PhiN T gv n) j_law_item_keeps [it.D, dm, dk] = .ok (.bl (it.keeps m k)) := callD_bl (by
  rw [anyFzs, It8.an]; exact phi_law_item_keeps hn hm hk)
/-- a promise -/
def prom (f : Fl) (ns : List OkS) (its : List It8) : Pu.D := .obj f c_Promise ["names", "entries"] [.tup (ns.map dW), .tup (its.map It8.D)]
theorem fld_prom_e {f ns its} : fldD "entries" (prom f ns its) = .ok (.tup (its.map It8.D)) := by
  have h : (("entries" : Str) == ("names" : Str)) = false := by decide +kernel
  simp [prom, fldD, List.lookup, h]
theorem fld_prom_n {f ns its} : fldD "names" (prom f ns its) = .ok (.tup (ns.map dW)) := by
  simp [prom, fldD, List.lookup]
@[simp] theorem prom_vw {f ns its} : vwD (prom f ns its) = prom f.vwd ns its := by simp [prom, vwD]
@[simp] theorem prom_an {f ns its} : anyFz (prom f ns its) = prom .fz ns its := by simp [prom, anyFz]
def keepsL (its : List It8) (m k : Ms) : Bool := its.any fun it => it.keeps m k
theorem phi_keeps {n : Nat} (hn : 3 ≤ n) {ns : List OkS} {its : List It8} {m k : Ms} {dm dk : Pu.D} (hm : IsM dm m) (hk : IsM dk k) : PhiN T gv n j_keeps [prom .fz ns its, dm, dk] = .ok (.bl (keepsL its m k), []) := by
  rw [up (by omega) rfl]
  have z := ev_any (Φ := PhiN T gv (n - 1)) (gv := gv) (own := [3]) (e := .call j_item_keeps [(.var 3), (.var 1), (.var 2)]) (tg := .nm 3) (it := .of (.fld (.var 0) "entries")) (ρ := [some (prom .fz ns its), some dm, some dk, none]) (xs := its) (en := It8.D) (b := true) (p := fun it => it.keeps m k)
    (evIt_of1 (d := .tup (its.map It8.D)) (by simp [fld_prom_e]) (by simp) (by simp)) (fun it hx => by simp [wipeD, call_ik (n := n - 1) (by omega) (it := it) (di := it.D) (by simp) hm.vw.an hk.vw.an])
  simp [fnD_eq, b_keeps, runs_cons, runs_nil, run_ret, z, keepsL]
theorem any_filter {α : Type} {p : α → Bool} {xs : List α} : decide (0 < ((xs.filter p).length : Int)) = xs.any p := by
  induction xs with
  | nil => rfl
  | cons x xs ih =>
    cases q : p x with
    | true =>
      simp [q]
    | false => simpa [q] using ih
theorem phi_law_keeps {n : Nat} (hn : 3 ≤ n) {its : List It8} {m k : Ms} {dm dk : Pu.D} (hm : IsM dm m) (hk : IsM dk k) (hl : its.length ≤ sizeLine) : PhiN T gv n j_law_keeps [.lst .fz (its.map It8.D), dm, dk] = .ok (.bl (keepsL its m k), []) := by
  rw [up (by omega) rfl]
  have z := ev_compF (Φ := PhiN T gv (n - 1)) (gv := gv) (own := [3]) (e := .var 3) (tg := .nm 3) (it := .of (.var 0)) (ρ := [some (.lst .fz (its.map It8.D)), some dm, some dk, none]) (cs := [(.call j_law_item_keeps [(.var 3), (.var 1), (.var 2)])]) (f := It8.D) (p := fun it => it.keeps m k) (xs := its) (en := It8.D) (b := true)
    (evIt_of1 (d := .lst .fz (its.map It8.D)) (by simp) (by simp) (by simp)) hl (fun it hx => by
      have c := call_lik (n := n - 1) (by omega) (it := it) hm.vw.an hk.vw.an
      simp [wipeD, c]
      cases it.keeps m k <;> rfl)
  simp [fnD_eq, b_law_keeps, runs_cons, runs_nil, run_ret, z, any_filter, keepsL]
  exact bool_of (by simp)
/-! ### all items -/
def ords : List OkS → List It8
  | [] => []
  | a :: bs => .ord a a .less :: (bs.flatMap fun b => [.ord a b .less, .ord a b .equal, .ord a b .greater]) ++ ords bs
def itemsL (ns : List OkS) : List It8 := ords ns ++ ns.map .once
theorem len3 {a : OkS} {bs : List OkS} : (bs.flatMap fun b => [It8.ord a b .less, .ord a b .equal, .ord a b .greater]).length = 3 * bs.length := by
  induction bs with
  | nil => rfl
  | cons b bs ih => simp only [List.flatMap_cons, List.length_append, ih, List.length_cons, List.length_nil]; omega
theorem ords_len {ns : List OkS} (h : ns.length ≤ 10) : (ords ns).length ≤ 40 * ns.length := by
  induction ns with
  | nil => exact Nat.le_refl _
  | cons a bs ih =>
    simp only [List.length_cons] at h
    have := ih (by omega)
    simp only [ords, List.length_append, List.length_cons, len3]
    omega
theorem itemsL_len {ns : List OkS} (h : ns.length ≤ 10) : (itemsL ns).length ≤ 410 := by
  have := ords_len h
  simp only [itemsL, List.length_append, List.length_map]
  omega
theorem phi_all_items {n : Nat} (hn : 1 ≤ n) {ns : List OkS} {d : Pu.D} (hd : Sq d (ns.map dW)) (h : ns.length ≤ 10) : PhiN T gv n j_all_items [d] = .ok (.lst .ow ((itemsL ns).map It8.D), []) := by
  rw [up hn rfl]
  have h5 := big5
  have ol := ords_len h
  have e1 : ∀ (o : List (Option Pu.D)), evIt (PhiN T gv (n - 1)) gv (.enum (.var 0)) (some d :: o) = .ok (ns.zipIdx.map fun p => .tup [.int (p.2 : Int), dW p.1], true) := fun o => by
    rcases hd with rfl | rfl <;> simp [enumL_map]
  have ce : ∀ a b : OkS, ∀ d o1 o2 o5, ev (PhiN T gv (n - 1)) gv (.comp [6] (.tup [(.str "order"), (.var 3), (.var 4), (.var 6)]) (.nm 6) (.of (.tup [(.str "less"), (.str "equal"), (.str "greater")])) []) [some d, o1, o2, some (dW a), some (dW b), o5, none] = .ok (.lst .ow ([It8.ord a b .less, .ord a b .equal, .ord a b .greater].map It8.D)) := fun a b d o1 o2 o5 => by
    simp [ev_cmp', compL, wipeD, D_ord, Rel.s, dW, h5]
  simp [fnD_eq, b_all_items, runs_cons, run_set]
  refine fn_fr (fun i ρ => ∃ done o2 o3 o4, ρ = [some d, some (.lst .ow (done.map It8.D)), o2, o3, o4, none, none] ∧ done ++ ords (ns.drop i) = ords ns) (e1 _) (by simp) ⟨[], none, none, none, by simp, by simp⟩ ?_ ?_
  · rintro i ⟨x, j⟩ ρ hx ⟨done, o2, o3, o4, rfl, hq⟩ N B R hN - -
    obtain ⟨hx, rfl⟩ := zipI_get hx
    dsimp only at hx
    have hl := congrArg List.length hq
    have hdl : (ns.drop (j + 1)).length ≤ 10 := by rw [List.length_drop]; omega
    have hi : ∀ o1 o4, evIt (PhiN T gv (n - 1)) gv (.of (.slc (.var 0) [(.bin .add (.var 2) (.int 1))] [])) [some d, o1, some (.int (j : Int)), some (dW x), o4, none, none] = .ok ((ns.drop (j + 1)).map dW, true) := fun _ _ => by
      rcases hd with rfl | rfl
      · refine evIt_of1 (d := .lst .ow ((ns.drop (j + 1)).map dW)) (by simp) ?_ ?_
        · rw [fz_lst, fzDs_map]; simp
        · rw [nv_lst, noVws_map]; simp
      · refine evIt_of1 (d := .tup ((ns.drop (j + 1)).map dW)) (by simp) ?_ ?_
        · rw [fz_tup, fzDs_map]; simp
        · rw [nv_tup, noVws_map]; simp
    rw [drop_get hx] at hq hl
    generalize ns.drop (j + 1) = bs at *
    simp only [ords, List.length_append, List.length_cons, len3] at hl
    have hd2 : done.length < sizeLine := Nat.lt_of_lt_of_le (by omega : done.length < 1000) (h5 1000 (Nat.le_refl _))
    simp [runs_cons, runs_nil, bindC_tp, run_app, appK, hd2, h5]
    refine st_fr (xs := bs) (en := dW) (fun i ρ => ∃ ts o4, ρ = [some d, some (.lst .ow ((done ++ .ord x x .less :: ts).map It8.D)), some (.int (j : Int)), some (dW x), o4, none, none] ∧ ts = (bs.take i).flatMap fun b => [It8.ord x b .less, .ord x b .equal, .ord x b .greater])
      (hi _ _) (by simp) ⟨[], o4, by simp [D_ord, dW, Rel.s], rfl⟩ ?_ ?_
    · rintro i y ρ hy ⟨ts, o4, rfl, ht⟩ N' B' R' hN' - -
      have hb : ts.length ≤ 30 := by rw [ht, len3, List.length_take]; omega
      have hb2 := h5 (done.length + (ts.length + 1) + 3) (by omega)
      simp [runs_cons, runs_nil, run_set, ce, hb2]
      refine hN' _ ⟨ts ++ [.ord x y .less, .ord x y .equal, .ord x y .greater], _, by simp; rfl, ?_⟩
      rw [take_get hy, ht, List.flatMap_append]; rfl
    · rintro ρ ⟨ts, o4, rfl, ht⟩
      rw [List.take_of_length_le (Nat.le_refl _)] at ht
      simp only [St_nx]
      refine hN _ ⟨done ++ .ord x x .less :: ts, _, _, _, rfl, ?_⟩
      rw [← hq, ht]
      simp only [ords, List.append_assoc, List.cons_append]
  · rintro ρ ⟨done, o2, o3, o4, rfl, hq⟩
    have e0 : ns.drop ns.zipIdx.length = [] := by simp
    rw [e0] at hq
    simp only [ords, List.append_nil] at hq
    subst hq
    have hb := h5 ((ords ns).length + ns.length) (by omega)
    have hb2 := h5 ns.length (by omega)
    rcases hd with rfl | rfl <;> simp [runs_cons, runs_nil, run_ret, ev_cmp', compL_E, wipeD, hb, hb2, h5, itemsL, D_once, dW, Function.comp_def]
end K

set_option Elab.async false
set_option linter.all false
set_option maxRecDepth 100000
set_option maxHeartbeats 1000000
/-! Le: the law's items; promises are made. -/
namespace K
open PySem PySem.Spec PyProof.Rows L2 Pu
theorem phi_law_items {n : Nat} (hn : 1 ≤ n) {ns : List OkS} (h : ns.length ≤ 10) : PhiN T gv n j_law_items [.lst .fz (ns.map dW)] = .ok (.lst .ow ((itemsL ns).map It8.D), []) := by
  rw [up hn rfl]
  have h5 := big5
  have ol := ords_len h
  have hr : ∀ (o : List (Option Pu.D)), evIt (PhiN T gv (n - 1)) gv (.rng [(.bi .len [(.var 0)])]) (some (.lst .fz (ns.map dW)) :: o) = .ok ((List.range ns.length).map fun (j : Nat) => D.int (j : Int), true) := fun o => by
    exact evIt_rngE (by simp) (by omega)
  have inner : ∀ (acc : List It8) (j : Nat) (a b : OkS) (o4 : Option Pu.D), ns[j]? = some a → acc.length ≤ 900 → run1 (PhiN T gv (n - 1)) gv [] (.fr (.nm 4) (.of (.lst [(.str "less"), (.str "equal"), (.str "greater")])) [(.app 1 [] (.tup [(.str "order"), (.idx (.var 0) (.var 2)), (.var 3), (.var 4)]))]) [some (.lst .fz (ns.map dW)), some (.lst .ow (acc.map It8.D)), some (.int (j : Int)), some (dW b), o4, none]
      = .nx [some (.lst .fz (ns.map dW)), some (.lst .ow ((acc ++ [It8.ord a b .less, It8.ord a b .equal, It8.ord a b .greater]).map It8.D)), some (.int (j : Int)), some (dW b), some (.str "greater"), none] := fun acc j a b o4 hj hl => by
    rw [run_fr (xs := [.str "less", .str "equal", .str "greater"]) (by simp [h5]) (by simp)]
    have q1 : acc.length < sizeLine := Nat.lt_of_lt_of_le (by omega : acc.length < 1000) (h5 1000 (Nat.le_refl _))
    have q2 : acc.length + 1 < sizeLine := Nat.lt_of_lt_of_le (by omega : acc.length + 1 < 1000) (h5 1000 (Nat.le_refl _))
    have q3 : acc.length + 1 + 1 < sizeLine := Nat.lt_of_lt_of_le (by omega : acc.length + 1 + 1 < 1000) (h5 1000 (Nat.le_refl _))
    simp [loopF, runs_cons, runs_nil, run_app, appK, atI_n, hj, h5, q1, q2, q3, D_ord, Rel.s, dW]
  simp [fnD_eq, b_law_items, runs_cons, run_set]
  refine fn_frR (fun i ρ => ∃ done o2 o3 o4, ρ = [some (.lst .fz (ns.map dW)), some (.lst .ow (done.map It8.D)), o2, o3, o4, none] ∧ done ++ ords (ns.drop i) = ords ns) (hr _) ⟨[], none, none, none, by simp, by simp⟩ ?_ ?_
  · rintro j ρ hj ⟨done, o2, o3, o4, rfl, hq⟩ N B R hN - -
    have hx : ns[j]? = some ns[j] := List.getElem?_eq_getElem hj
    generalize ns[j] = x at hx
    have hl := congrArg List.length hq
    have hdl : (ns.drop (j + 1)).length ≤ 10 := by rw [List.length_drop]; omega
    have hi : ∀ o1 o3 o4, evIt (PhiN T gv (n - 1)) gv (.of (.slc (.var 0) [(.bin .add (.var 2) (.int 1))] [])) [some (.lst .fz (ns.map dW)), o1, some (.int (j : Int)), o3, o4, none] = .ok ((ns.drop (j + 1)).map dW, true) := fun _ _ _ => by
      refine evIt_of1 (d := .lst .ow ((ns.drop (j + 1)).map dW)) (by simp) ?_ ?_
      · rw [fz_lst, fzDs_map]; simp
      · rw [nv_lst, noVws_map]; simp
    rw [drop_get hx] at hq hl
    generalize ns.drop (j + 1) = bs at *
    simp only [ords, List.length_append, List.length_cons, len3] at hl
    have hd2 : done.length < sizeLine := Nat.lt_of_lt_of_le (by omega : done.length < 1000) (h5 1000 (Nat.le_refl _))
    simp [runs_cons, runs_nil, run_app, appK, hd2, h5, atI_n, hx]
    refine st_fr (xs := bs) (en := dW) (fun i ρ => ∃ ts o3 o4, ρ = [some (.lst .fz (ns.map dW)), some (.lst .ow ((done ++ .ord x x .less :: ts).map It8.D)), some (.int (j : Int)), o3, o4, none] ∧ ts = (bs.take i).flatMap fun b => [It8.ord x b .less, .ord x b .equal, .ord x b .greater])
      (hi _ _ _) (by simp) ⟨[], o3, o4, by simp [D_ord, dW, Rel.s], rfl⟩ ?_ ?_
    · rintro i y ρ hy ⟨ts, o3, o4, rfl, ht⟩ N' B' R' hN' - -
      have hb : ts.length ≤ 30 := by rw [ht, len3, List.length_take]; omega
      simp only [bindC_nm, dW_nv, List.length_cons, List.length_nil, if_true]
      simp [runs_cons, runs_nil, inner (done ++ It8.ord x x .less :: ts) j x y _ hx (by simp; omega), -List.map_append, -List.map_cons]
      refine hN' _ ⟨ts ++ [.ord x y .less, .ord x y .equal, .ord x y .greater], _, _, by simp; exact ⟨rfl, rfl⟩, ?_⟩
      rw [take_get hy, ht, List.flatMap_append]; rfl
    · rintro ρ ⟨ts, o3, o4, rfl, ht⟩
      rw [List.take_of_length_le (Nat.le_refl _)] at ht
      simp only [St_nx]
      refine hN _ ⟨done ++ .ord x x .less :: ts, _, _, _, rfl, ?_⟩
      rw [← hq, ht]
      simp only [ords, List.append_assoc, List.cons_append]
  · rintro ρ ⟨done, o2, o3, o4, rfl, hq⟩
    have e0 : ns.drop ns.length = [] := by simp
    rw [e0] at hq
    simp only [ords, List.append_nil] at hq
    subst hq
    have hb := h5 ((ords ns).length + ns.length) (by omega)
    have hb2 := h5 ns.length (by omega)
    simp [runs_cons, runs_nil, run_ret, ev_cmp', compL_E, wipeD, hb, hb2, h5, itemsL, D_once, dW, Function.comp_def]
/-- the items that a row picks -/
def pickL {α : Type} (its : List α) (row : List Nat) : List α := (its.zipIdx.filter fun p => decide (nth row (p.2 % row.length) % 2 = 0)).map (·.1)
theorem pick_sub {α : Type} (its : List α) (row : List Nat) : (pickL its row).Sublist its := by
  have z := (List.filter_sublist (l := its.zipIdx) (p := fun p => decide (nth row (p.2 % row.length) % 2 = 0))).map (fun p : α × Nat => p.1)
  rwa [zip_fst] at z
theorem phi_some_items {n : Nat} (hn : 2 ≤ n) {ns : List OkS} {row : List Nat} (h : ns.length ≤ 10) (hr : 0 < row.length) : PhiN T gv n j_law_some_items [.lst .fz (ns.map dW), .lst .fz (row.map dI)] = .ok (.lst .ow ((pickL (itemsL ns) row).map It8.D), []) := by
  rw [up (by omega) rfl]
  have h5 := big5
  have il := itemsL_len h
  have c := phi_law_items (n := n - 1) (by omega) h
  generalize itemsL ns = its at *
  have cc : callD (PhiN T gv (n - 1)) j_law_items [.lst .fz (ns.map dW)] = .ok (.lst .ow (its.map It8.D)) := by
    simp [callD, c]
  have z := ev_compF (Φ := PhiN T gv (n - 1)) (gv := gv) (own := [3]) (e := .idx (.var 2) (.var 3)) (tg := .nm 3) (it := .rng [(.bi .len [(.var 2)])]) (ρ := [some (.lst .fz (ns.map dW)), some (.lst .fz (row.map dI)), some (.lst .ow (its.map It8.D)), none]) (cs := [(.cmp .eq (.bin .mod (.idx (.var 1) (.bin .mod (.var 3) (.bi .len [(.var 1)]))) (.int 2)) (.int 0))]) (f := fun p => p.1.D) (p := fun p => decide (nth row (p.2 % row.length) % 2 = 0)) (xs := its.zipIdx) (en := fun p => .int (p.2 : Int)) (b := true)
    (evIt_zip (by simp) (by omega)) (by simp; exact h5 _ (by omega)) (fun p hp => by
      have hk := zip_mem hp
      have hm : p.2 % row.length < row.length := Nat.mod_lt _ hr
      have hg := get_nth hm
      have e : ((p.2 : Int) % (row.length : Int)) = ((p.2 % row.length : Nat) : Int) := by omega
      have hr' : (0 : Int) < (row.length : Int) := by omega
      simp only [wipeD, List.foldr, List.set, bindTg_nm, List.length_cons, List.length_nil]
      simp [hr, e, atI_n, hg, hk, dI, -Int.natCast_emod]
      by_cases q : nth row (p.2 % row.length) % 2 = 0
      · have q' : ((nth row (p.2 % row.length) : Nat) : Int) % 2 = 0 := by omega
        simp [q, q']
      · have q' : ¬ ((nth row (p.2 % row.length) : Nat) : Int) % 2 = 0 := by omega
        have q2 : nth row (p.2 % row.length) % 2 = 1 := by omega
        simp [q2, q'])
  simp [fnD_eq, b_law_some_items, runs_cons, runs_nil, run_set, run_ret, cc, z, pickL, Function.comp_def]
end K

set_option Elab.async false
set_option linter.all false
set_option maxRecDepth 100000
set_option maxHeartbeats 1000000
/-! Lf: a promise is made. -/
namespace K
open PySem PySem.Spec PyProof.Rows L2 Pu
theorem nodup_take {α : Type} {xs : List α} (h : xs.Nodup) {k : Nat} {x : α} (e : xs[k]? = some x) : x ∉ xs.take k := fun hm => by
  rw [← List.take_append_drop k xs, drop_get e, List.nodup_append] at h
  exact h.2.2 x hm x List.mem_cons_self rfl
/-- what a promise keeps of the items that were passed -/
def entriesL (ns : List OkS) (its : List It8) : List It8 := (itemsL ns).filter fun i => decide (i ∈ its)
theorem phi_Promise_init {n : Nat} (hn : 2 ≤ n) {ns : List OkS} {its : List It8} (h : ns.length ≤ 10) (hs : ∀ i ∈ its, i ∈ itemsL ns) (hd : its.Nodup) (hl : its.length ≤ 900) : PhiN T gv n j_Promise_init [.obj .ow c_Promise [] [], .lst .fz (ns.map dW), .lst .fz (its.map It8.D)] = .ok (.non, [prom .ow ns (entriesL ns its)]) := by
  rw [up (by omega) rfl]
  have h5 := big5
  have il := itemsL_len h
  have c := phi_all_items (n := n - 1) (by omega) (d := .tup (ns.map dW)) (.inr rfl) h
  have cc : callD (PhiN T gv (n - 1)) j_all_items [.tup (ns.map dW)] = .ok (.lst .ow ((itemsL ns).map It8.D)) := by
    simp [callD, c]
  unfold entriesL
  generalize itemsL ns = evr at *
  have tup_it : ∀ i : It8, biD .tuple [i.D] = .ok i.D := fun i => by cases i <;> simp [D_ord, D_once]
  have z1 := ev_comp (Φ := PhiN T gv (n - 1)) (gv := gv) (own := [4]) (e := .bi .tuple [(.var 4)]) (tg := .nm 4) (it := .of (.var 2)) (ρ := [some (.obj .ow c_Promise [] []), some (.lst .fz (ns.map dW)), some (.lst .fz (its.map It8.D)), none, none, none]) (f := It8.D) (xs := its) (en := It8.D) (b := true)
    (evIt_of1 (d := .lst .fz (its.map It8.D)) (by simp) (by simp) (by simp)) (h5 _ (by omega)) (fun it hx => by simp [wipeD, tup_it])
  have z2 := ev_all (Φ := PhiN T gv (n - 1)) (gv := gv) (own := [4]) (e := .cmp .isIn (.var 4) (.var 3)) (tg := .nm 4) (it := .of (.var 2)) (ρ := [some (.obj .ow c_Promise [] []), some (.lst .fz (ns.map dW)), some (.lst .ow (its.map It8.D)), some (.lst .ow (evr.map It8.D)), none, none]) (p := fun i => decide (i ∈ evr)) (xs := its) (en := It8.D) (b := false)
    (by simp [evIt_of]) (fun it hx => by simp [wipeD, cmp_inL8])
  have z3 := ev_any (Φ := PhiN T gv (n - 1)) (gv := gv) (own := [5]) (e := .cmp .isIn (.idx (.var 2) (.var 5)) (.slc (.var 2) [] [(.var 5)])) (tg := .nm 5) (it := .rng [(.bi .len [(.var 2)])]) (ρ := [some (.obj .ow c_Promise [] []), some (.lst .fz (ns.map dW)), some (.lst .ow (its.map It8.D)), some (.lst .ow (evr.map It8.D)), none, none]) (p := fun q => decide (q.1 ∈ its.take q.2)) (xs := its.zipIdx) (en := fun q => .int (q.2 : Int)) (b := true)
    (evIt_zip (by simp) (by omega)) (fun q hx => by
      have e1 := zip_mem hx
      have e2 : ((its.map It8.D).take q.2) = (its.take q.2).map It8.D := List.map_take.symm
      simp [wipeD, atI_n, e1]
      rw [e2, cmp_inL8 (by simp) (by rw [flats_map]; simp), memb_it]
      rfl)
  have z4 := ev_compF (Φ := PhiN T gv (n - 1)) (gv := gv) (own := [4]) (e := .var 4) (tg := .nm 4) (it := .of (.var 3)) (ρ := [some (.obj .ow c_Promise ["names"] [.tup (ns.map dW)]), some (.lst .fz (ns.map dW)), some (.lst .ow (its.map It8.D)), some (.lst .ow (evr.map It8.D)), none, none]) (cs := [(.cmp .isIn (.var 4) (.var 2))]) (f := It8.D) (p := fun i => decide (i ∈ its)) (xs := evr) (en := It8.D) (b := false)
    (by simp [evIt_of]) (h5 _ (by omega)) (fun it hx => by
      simp [wipeD, cmp_inL8]
      by_cases q : it ∈ its <;> simp [q])
  have a1 : (its.all fun i => decide (i ∈ evr)) = true := by simpa using hs
  have a2 : (its.zipIdx.any fun q => decide (q.1 ∈ its.take q.2)) = false := by
    rw [List.any_eq_false]
    intro q hq
    have := nodup_take hd (zip_mem hq)
    simpa using this
  rw [a1] at z2
  rw [a2] at z3
  have s1 : putN "names" (D.tup (ns.map dW)) [] [] = (([("names" : Str)] : List Str), [D.tup (ns.map dW)]) := putN_new (by exact List.not_mem_nil) rfl
  have s2 : ∀ y, putN "entries" y ([("names" : Str)] : List Str) [D.tup (ns.map dW)] = (([("names" : Str), ("entries" : Str)] : List Str), [D.tup (ns.map dW), y]) := fun y => putN_new (by decide +kernel) rfl
  have r1 := run_setF (Φ := PhiN T gv (n - 1)) (gv := gv) (pi := [0]) (i := 0) (c := c_Promise) (f := "names") (e := .bi .tuple [(.var 1)]) (y := .tup (ns.map dW)) (ns := []) (xs := []) (ρ := [some (.obj .ow c_Promise [] []), some (.lst .fz (ns.map dW)), some (.lst .ow (its.map It8.D)), some (.lst .ow (evr.map It8.D)), none, none]) (by simp) (by simp) rfl (by simp)
  have r2 := run_setF (Φ := PhiN T gv (n - 1)) (gv := gv) (pi := [0]) (i := 0) (c := c_Promise) (f := "entries") (e := .bi .tuple [(.comp [4] (.var 4) (.nm 4) (.of (.var 3)) [(.cmp .isIn (.var 4) (.var 2))])]) (y := .tup ((evr.filter fun i => decide (i ∈ its)).map It8.D)) (ns := ["names"]) (xs := [.tup (ns.map dW)]) (ρ := [some (.obj .ow c_Promise ["names"] [.tup (ns.map dW)]), some (.lst .fz (ns.map dW)), some (.lst .ow (its.map It8.D)), some (.lst .ow (evr.map It8.D)), none, none]) (by simp [z4]) (by simp) rfl (by simp)
  rw [s1] at r1
  rw [s2] at r2
  simp only [List.set] at r1 r2
  simp [fnD_eq, b_Promise_init, runs_cons, runs_nil, run_set, run_ite, z1, cc, z2, z3, r1, r2, fnEnd, selD, prom]
theorem call_Promise {n : Nat} (hn : 2 ≤ n) {ns : List OkS} {its : List It8} {f g : Fl} (hf : f ≠ .vw) (hg : g ≠ .vw) (h : ns.length ≤ 10) (hs : ∀ i ∈ its, i ∈ itemsL ns) (hd : its.Nodup) (hl : its.length ≤ 900) : mkD (PhiN T gv n) c_Promise j_Promise_init [.lst f (ns.map dW), .lst g (its.map It8.D)] = .ok (prom .ow ns (entriesL ns its)) := by
  simp [mkD, hf, hg, phi_Promise_init hn h hs hd hl]
end K

set_option Elab.async false
set_option linter.all false
set_option maxRecDepth 100000
set_option maxHeartbeats 1000000
/-! Lk: names and items differ. -/
namespace K
open PySem PySem.Spec PyProof.Rows L2 Pu
instance : Inhabited OkS := ⟨⟨"order", ok_order⟩⟩
theorem oks_of : ∀ {ws : List (List Nat)}, (∀ w ∈ ws, ∀ c ∈ w, c < 128) → ∃ ns : List OkS, ns.map (·.1) = ws.map mkS
  | [], _ => ⟨[], rfl⟩
  | w :: ws, h => by
    obtain ⟨ns, e⟩ := oks_of fun v hv => h v (List.mem_cons_of_mem _ hv)
    exact ⟨⟨mkS w, mkS_ok (h w List.mem_cons_self)⟩ :: ns, by rw [List.map_cons, List.map_cons, e]⟩
theorem nodup_of_map {α β : Type} {f : α → β} {xs : List α} (h : (xs.map f).Nodup) : xs.Nodup := by
  induction xs with
  | nil => exact List.nodup_nil
  | cons x xs ih =>
    rw [List.map_cons, List.nodup_cons] at h
    exact List.nodup_cons.mpr ⟨fun m => h.1 (List.mem_map_of_mem m), ih h.2⟩
theorem nodup_map_on {α β : Type} {f : α → β} {xs : List α} (h : xs.Nodup) (inj : ∀ a ∈ xs, ∀ b ∈ xs, f a = f b → a = b) : (xs.map f).Nodup := by
  induction xs with
  | nil => exact List.nodup_nil
  | cons x xs ih =>
    rw [List.nodup_cons] at h
    rw [List.map_cons, List.nodup_cons]
    refine ⟨fun m => ?_, ih h.2 fun a ha b hb => inj a (List.mem_cons_of_mem _ ha) b (List.mem_cons_of_mem _ hb)⟩
    obtain ⟨y, hy, e⟩ := List.mem_map.mp m
    exact h.1 (by rw [← inj y (List.mem_cons_of_mem _ hy) x List.mem_cons_self e]; exact hy)
theorem wordsL_ok (a b c k : Nat) : ∀ x ∈ wordsL a b c k, x < 128 := by
  intro x hx
  unfold wordsL at hx
  simp only [List.mem_append, List.mem_singleton] at hx
  rcases hx with hx | rfl | hx
  · have := wordL_ok a x (List.mem_of_mem_take hx); omega
  · have := ch_ok ((b : Int) + k); omega
  · have := wordL_ok a x (List.mem_of_mem_drop hx); omega
theorem wordsL_inj {a b c k l : Nat} (hk : k < 26) (hl : l < 26) (h : wordsL a b c k = wordsL a b c l) : k = l := by
  unfold wordsL at h
  have h := List.append_cancel_left h
  simp only [List.cons_append, List.cons.injEq] at h
  have h := h.1
  unfold ch at h
  omega
/-- what names a law draws -/
theorem names_ok (row : List Nat) : ∃ ns : List OkS, ns.map dW = (namesL row).map (fun w => D.str (mkS w)) ∧ ns.length = 1 + nth row 3 % 4 ∧ ns.Nodup ∧ ∃ L, L ≤ 10 ∧ ∀ w ∈ ns, w.1.length = L := by
  obtain ⟨ns, e⟩ := oks_of (ws := namesL row) fun w hw => by
    obtain ⟨k, _, rfl⟩ := List.mem_map.mp hw
    exact wordsL_ok _ _ _ _
  refine ⟨ns, ?_, ?_, ?_, (wordL ((nth row 0 : Nat) : Int)).length + 1, ?_, ?_⟩
  · have := congrArg (List.map D.str) e
    rw [List.map_map, List.map_map] at this
    exact this
  · have := congrArg List.length e
    simpa [namesL] using this
  · refine nodup_of_map (f := fun w => w.1) ?_
    rw [e]
    unfold namesL
    rw [List.map_map]
    refine nodup_map_on List.nodup_range fun k hk l hl h => ?_
    have hk := List.mem_range.mp hk
    have hl := List.mem_range.mp hl
    exact wordsL_inj (by omega) (by omega) (mkS_inj h)
  · have := wordL_len ((nth row 0 : Nat) : Int); omega
  · intro w hw
    have hm : w.1 ∈ (namesL row).map mkS := by rw [← e]; exact List.mem_map_of_mem hw
    obtain ⟨l, hl, el⟩ := List.mem_map.mp hm
    obtain ⟨k, _, rfl⟩ := List.mem_map.mp hl
    rw [← el, mkS_len]
    unfold wordsL
    simp only [List.length_append, List.length_take, List.length_drop, List.length_singleton]
    omega
theorem mem_ords {ns : List OkS} {i : It8} (h : i ∈ ords ns) : ∃ a b r, i = .ord a b r ∧ a ∈ ns ∧ b ∈ ns := by
  induction ns with
  | nil => simp [ords] at h
  | cons a bs ih =>
    simp only [ords, List.mem_append, List.mem_cons, List.mem_flatMap, List.not_mem_nil, or_false] at h
    rcases h with (rfl | ⟨b, hb, rfl | rfl | rfl⟩) | h
    · exact ⟨a, a, _, rfl, by simp, by simp⟩
    · exact ⟨a, b, _, rfl, by simp, by simp [hb]⟩
    · exact ⟨a, b, _, rfl, by simp, by simp [hb]⟩
    · exact ⟨a, b, _, rfl, by simp, by simp [hb]⟩
    · obtain ⟨x, y, r, e, h1, h2⟩ := ih h
      exact ⟨x, y, r, e, List.mem_cons_of_mem _ h1, List.mem_cons_of_mem _ h2⟩
theorem tri_nodup {a : OkS} {bs : List OkS} (h : bs.Nodup) : (bs.flatMap fun b => [It8.ord a b .less, .ord a b .equal, .ord a b .greater]).Nodup := by
  induction bs with
  | nil => exact List.nodup_nil
  | cons b bs ih =>
    rw [List.nodup_cons] at h
    rw [List.flatMap_cons, List.nodup_append]
    refine ⟨by simp, ih h.2, fun x hx y hy e => ?_⟩
    subst e
    obtain ⟨c, hc, hx2⟩ := List.mem_flatMap.mp hy
    simp only [List.mem_cons, List.not_mem_nil, or_false] at hx hx2
    have : b = c := by
      rcases hx with rfl | rfl | rfl <;> rcases hx2 with z | z | z <;> simp at z <;> exact z
    exact h.1 (by rw [this]; exact hc)
theorem ords_nodup {ns : List OkS} (h : ns.Nodup) : (ords ns).Nodup := by
  induction ns with
  | nil => exact List.nodup_nil
  | cons a bs ih =>
    rw [List.nodup_cons] at h
    simp only [ords, List.cons_append]
    rw [List.nodup_cons, List.nodup_append]
    refine ⟨fun m => ?_, tri_nodup h.2, ih h.2, fun x hx y hy e => ?_⟩
    · rw [List.mem_append] at m
      rcases m with m | m
      · obtain ⟨c, hc, hx⟩ := List.mem_flatMap.mp m
        simp only [List.mem_cons, List.not_mem_nil, or_false] at hx
        have : a = c := by rcases hx with z | z | z <;> simp at z <;> exact z
        exact h.1 (by rw [this]; exact hc)
      · obtain ⟨x, y, r, e, h1, _⟩ := mem_ords m
        simp only [It8.ord.injEq] at e
        exact h.1 (by rw [e.1]; exact h1)
    · subst e
      obtain ⟨c, hc, hx⟩ := List.mem_flatMap.mp hx
      obtain ⟨x', y', r, e, h1, _⟩ := mem_ords hy
      simp only [List.mem_cons, List.not_mem_nil, or_false] at hx
      have : a = x' := by rcases hx with z | z | z <;> rw [z] at e <;> simp at e <;> exact e.1
      exact h.1 (by rw [this]; exact h1)
theorem itemsL_nodup {ns : List OkS} (h : ns.Nodup) : (itemsL ns).Nodup := by
  unfold itemsL
  rw [List.nodup_append]
  refine ⟨ords_nodup h, nodup_map_on h fun a _ b _ e => by simpa using e, fun x hx y hy e => ?_⟩
  subst e
  obtain ⟨a, b, r, e, _⟩ := mem_ords hx
  obtain ⟨c, _, e2⟩ := List.mem_map.mp hy
  rw [e] at e2
  cases e2
theorem keeps_sym (it : It8) (m k : Ms) : it.keeps m k = it.keeps k m := by
  cases it with
  | once a => rfl
  | ord a b r =>
    unfold It8.keeps
    dsimp only
    by_cases e : a = b
    · subst e
      rw [if_pos rfl, if_pos rfl]
      by_cases h1 : m.1 = a <;> by_cases h2 : k.1 = a <;> simp [h1, h2, eq_comm]
    · rw [if_neg e, if_neg e]
      by_cases h1 : m.1 = a ∧ k.1 = b
      · have h2 : ¬ (k.1 = a ∧ m.1 = b) := fun z => e (by rw [← h1.1, z.2])
        rw [if_pos h1, if_neg h2, if_pos h1]
      · by_cases h2 : k.1 = a ∧ m.1 = b
        · rw [if_neg h1, if_pos h2, if_pos h2]
        · rw [if_neg h1, if_neg h2, if_neg h2, if_neg h1]
theorem keepsL_sym (its : List It8) (m k : Ms) : keepsL its m k = keepsL its k m := by
  unfold keepsL
  congr 1
  funext it
  exact keeps_sym it m k
theorem keepsL_entries {ns : List OkS} {its : List It8} (h : ∀ i ∈ its, i ∈ itemsL ns) (m k : Ms) : keepsL (entriesL ns its) m k = keepsL its m k := by
  unfold keepsL entriesL
  refine bool_of ?_
  rw [List.any_eq_true, List.any_eq_true]
  constructor
  · rintro ⟨i, hi, q⟩
    obtain ⟨_, h2⟩ := List.mem_filter.mp hi
    exact ⟨i, by simpa using h2, q⟩
  · rintro ⟨i, hi, q⟩
    exact ⟨i, List.mem_filter.mpr ⟨h i hi, by simpa using hi⟩, q⟩
end K

set_option Elab.async false
set_option linter.all false
set_option maxRecDepth 100000
set_option maxHeartbeats 1000000
/-! Ma: parcels: their texts, sums, and whether they are parcels. -/
namespace K
open PySem PySem.Spec PyProof.Rows L2 Pu
structure Pc where
  m : Ms
  ah : Int
  eq : Int
  deriving DecidableEq
def dP (p : Pc) : Pu.D := .tup [.str p.m.1.1, .int p.m.2, .int p.ah, .int p.eq]
@[simp] theorem dP_vw {w} : vwD (dP w) = dP w := id rfl
@[simp] theorem dP_fz {w} : fzD (dP w) = dP w := id rfl
@[simp] theorem dP_va {w} : vaD (dP w) = dP w := id rfl
@[simp] theorem dP_an {w} : anyFz (dP w) = dP w := id rfl
@[simp] theorem dP_nv {w} : noVw (dP w) = true := id rfl
@[simp] theorem dP_fl {w} : flat 8 (dP w) = true := by simp [dP]
theorem dP_inj {a b : Pc} (h : dP a = dP b) : a = b := by
  simp only [dP, D.tup.injEq, List.cons.injEq, D.str.injEq, D.int.injEq, and_true] at h
  cases a; cases b
  simp only [Pc.mk.injEq]
  exact ⟨Prod.ext (OkS.ext h.1) h.2.1, h.2.2.1, h.2.2.2⟩
@[simp] theorem memb_P {a : Pc} {xs : List Pc} : memb (dP a) (xs.map dP) = decide (a ∈ xs) := memb_inj (fun _ _ => dP_inj)
theorem in_P {f : Fl} {a : Pc} {xs : List Pc} : cmpB .isIn (dP a) (.lst f (xs.map dP)) = some (decide (a ∈ xs)) := by
  rw [cmp_inL8 dP_fl (by rw [flats_map]; simp), memb_P]
theorem ne_P {a b : Pc} : cmpB .ne (dP a) (dP b) = some (!decide (a = b)) := by
  rw [cmp_ne8 dP_fl dP_fl]
  congr 2
  exact bool_of (by rw [eqb_iff, decide_eq_true_iff]; exact ⟨dP_inj, fun h => by rw [h]⟩)
/-- a name's signs -/
def chs (w : OkS) : List Nat := w.1.cps.toList
theorem chs_S (w : OkS) : w.1 = mkS (chs w) := mkS_of _
def wordsOf (p : Pc) : List Nat := chs p.m.1 ++ 32 :: (decI p.m.2 ++ 32 :: (decI p.ah ++ 32 :: decI p.eq))
def cks (t : Int) (l : List Nat) : Int := l.foldl (fun (t : Int) (c : Nat) => (256 * t + (c : Int)) % 65521) t
theorem cks_bd {t : Int} {l : List Nat} (h : 0 ≤ t ∧ t < 65521) : 0 ≤ cks t l ∧ cks t l < 65521 := by
  induction l generalizing t with
  | nil => exact h
  | cons c l ih =>
    refine ih ?_
    show 0 ≤ (256 * t + (c : Int)) % 65521 ∧ (256 * t + (c : Int)) % 65521 < 65521
    omega
/-- what a promise lets be a parcel -/
def Good (ns : List OkS) (p : Pc) : Prop := p.m.1 ∈ ns ∧ (chs p.m.1).length ≤ 20 ∧ -1000000 ≤ p.m.2 ∧ p.m.2 ≤ 1000000 ∧ 0 ≤ p.ah ∧ p.ah ≤ 1000 ∧ 0 ≤ p.eq ∧ p.eq ≤ 1000
theorem Good.len {ns : List OkS} {p : Pc} (h : Good ns p) : (wordsOf p).length ≤ 47 := by
  obtain ⟨_, h1, h2, h3, h4, h5, h6, h7⟩ := h
  have a := decI_len (i := p.m.2) (by omega)
  have b := decI_len (i := p.ah) (by omega)
  have c := decI_len (i := p.eq) (by omega)
  simp only [wordsOf, List.length_append, List.length_cons]
  omega
theorem phi_words_of {n : Nat} (hn : 1 ≤ n) {ns : List OkS} {p : Pc} (h : Good ns p) : PhiN T gv n j_words_of [dP p] = .ok (.str (mkS (wordsOf p)), []) := by
  obtain ⟨_, h1, h2, h3, h4, h5, h6, h7⟩ := h
  have a := decI_len (i := p.m.2) (by omega)
  have b := decI_len (i := p.ah) (by omega)
  have c := decI_len (i := p.eq) (by omega)
  have h4 := big5 4 (by omega)
  rw [upE hn rfl rfl]
  have e1 : ev (PhiN T gv (n - 1)) gv (.comp [1] (.bi .str [(.var 1)]) (.nm 1) (.of (.var 0)) []) [some (dP p), none] = .ok (.lst .ow ([chs p.m.1, decI p.m.2, decI p.ah, decI p.eq].map fun l => .str (mkS l))) := by
    simp [ev_cmp', dP, compL, wipeD, bi_strI (show p.m.2.natAbs < 2 ^ 64 by omega), bi_strI (show p.ah.natAbs < 2 ^ 64 by omega), bi_strI (show p.eq.natAbs < 2 ^ 64 by omega), h4, ← chs_S]
  have e2 : (" " : Str) = mkS [32] := by decide +kernel
  have e3 : biD .join [.str (mkS [32]), .lst .ow ([chs p.m.1, decI p.m.2, decI p.ah, decI p.eq].map fun l => .str (mkS l))] = .ok (.str (mkS (joinL [32] [chs p.m.1, decI p.m.2, decI p.ah, decI p.eq]))) := bi_join (by simp; omega)
  have e4 : joinL [32] [chs p.m.1, decI p.m.2, decI p.ah, decI p.eq] = wordsOf p := by simp [joinL, wordsOf]
  rw [e4] at e3
  show fnEnd [] (runs _ _ _ b_words_of [some (dP p), none]) = _
  simp only [b_words_of, runs_cons, runs_nil, run_ret, ev_m1, ev_str, e1, e2, Out.bind_ok, m1_join, Out.chk_true, e3]
  simp
theorem phi_codes_of {n : Nat} (hn : 1 ≤ n) {l : List Nat} (h : l.length ≤ 100) : PhiN T gv n j_codes_of [.str (mkS l)] = .ok (.lst .ow (l.map fun (c : Nat) => D.int (c : Int)), []) := by
  rw [upE hn rfl rfl]
  have hl := big5 l.length (by omega)
  have e1 := ev_comp (Φ := PhiN T gv (n - 1)) (gv := gv) (own := [1]) (e := .bi .ord [(.var 1)]) (tg := .nm 1) (it := .of (.var 0)) (ρ := [some (.str (mkS l)), none]) (xs := l) (en := fun c => .str (mkS [c])) (b := true) (f := fun (c : Nat) => D.int (c : Int))
    (evIt_str (by simp)) hl (fun c hc => by simp [wipeD, bi_ord])
  show fnEnd [] (runs _ _ _ b_codes_of [some (.str (mkS l)), none]) = _
  simp [b_codes_of, runs_cons, runs_nil, run_ret, e1]
theorem phi_checksum {n : Nat} (hn : 2 ≤ n) {l : List Nat} {t : Int} (h : l.length ≤ 100) (ht : 0 ≤ t ∧ t < 65521) (hc : ∀ c ∈ l, c < 1000) : PhiN T gv n j_checksum [.int t, .str (mkS l)] = .ok (.int (cks t l), []) := by
  rw [upE (by omega) rfl rfl]
  have hc2 := phi_codes_of (n := n - 1) (by omega) h
  have e1 : ∀ o : List (Option Pu.D), evIt (PhiN T gv (n - 1)) gv (.of (.call j_codes_of [(.var 1)])) (some (.int t) :: some (.str (mkS l)) :: o) = .ok (l.map fun (c : Nat) => D.int (c : Int), true) := fun o => evIt_of1 (d := .lst .ow (l.map fun (c : Nat) => D.int (c : Int))) (by simp [callD, hc2]) (by simp) (by simp)
  show fnEnd [] (runs _ _ _ b_checksum [some (.int t), some (.str (mkS l)), none]) = _
  simp only [b_checksum, runs_cons]
  refine fn_fr (fun i ρ => ∃ o t', ρ = [some (.int t'), some (.str (mkS l)), o] ∧ t' = cks t (l.take i) ∧ 0 ≤ t' ∧ t' < 65521) (e1 _) (by simp) ⟨none, t, rfl, rfl, ht⟩ ?_ ?_
  · rintro i x ρ hx ⟨o, t', rfl, e, b1, b2⟩ N B R hN - -
    have xm := hc x (List.mem_of_getElem? hx)
    have e2 : binD .mul (.int 256) (.int t') = .ok (.int (256 * t')) := bin_mulI (by omega)
    simp [runs_cons, runs_nil, run_set, e2]
    refine hN _ ⟨_, _, rfl, ?_, ?_, ?_⟩
    · rw [take_get hx, e]
      simp [cks, List.foldl_append]
    · omega
    · omega
  · rintro ρ ⟨o, t', rfl, e, b1, b2⟩
    rw [List.take_of_length_le (Nat.le_refl _)] at e
    simp [runs_nil, run_rtv, e]
theorem phi_is_integer {n : Nat} (hn : 1 ≤ n) {i a b : Int} : PhiN T gv n j_is_integer [.int i, .int a, .int b] = .ok (.bl (decide (a ≤ i ∧ i ≤ b)), []) := by
  rw [upE hn rfl rfl]
  show fnEnd [] (runs _ _ _ b_is_integer [some (.int i), some (.int a), some (.int b)]) = _
  have t1 : tyD (.b .int) (.int i) = .ok true := rfl
  have t2 : tyD (.b .bool) (.int i) = .ok false := rfl
  by_cases h1 : a ≤ i <;> by_cases h2 : i ≤ b <;> simp [b_is_integer, runs_cons, runs_nil, run_ret, t1, t2, ev, h1, h2]
theorem call_int {n : Nat} (hn : 1 ≤ n) {i a b : Int} : callD (PhiN T gv n) j_is_integer [.int i, .int a, .int b] = .ok (.bl (decide (a ≤ i ∧ i ≤ b))) := callD_id (by simpa using phi_is_integer hn) (by simp)
theorem notin_W {w : OkS} {ns : List OkS} : cmpB .notIn (.str w.1) (.tup (ns.map dW)) = some (!decide (w ∈ ns)) := by
  have e : memb (dW w) (ns.map dW) = decide (w ∈ ns) := memb_inj (fun _ _ => dW_inj)
  have z := cmp_inT8 (x := dW w) (ys := ns.map dW) (by simp) (by rw [flats_map]; simp)
  rw [e] at z
  have p1 := plain_flat (n := 8) (d := dW w) (by simp) (by decide)
  have p2 := (plain_flats (n := 8) (f := .fz) (xs := ns.map dW) (by rw [flats_map]; simp) (by decide)).2
  have z1 : cmpB .isIn (dW w) (.tup (ns.map dW)) = some ((pOfs (ns.map dW)).any fun z => PyData.eqv z (pOf (dW w))) := by
    simp only [dW, cmpB] at p1 p2 ⊢
    simp only [dW, p1, p2]
  have z2 : cmpB .notIn (dW w) (.tup (ns.map dW)) = some (!((pOfs (ns.map dW)).any fun z => PyData.eqv z (pOf (dW w)))) := by
    simp only [dW, cmpB] at p1 p2 ⊢
    simp only [dW, p1, p2]
  rw [z1, Option.some.injEq] at z
  rw [show (D.str w.1) = dW w from rfl, z2, z]
theorem phi_is_parcel {n : Nat} (hn : 2 ≤ n) {ns : List OkS} {its : List It8} {p : Pc} (h : Good ns p) : PhiN T gv n j_is_parcel [prom .fz ns its, dP p] = .ok (.bl true, []) := by
  obtain ⟨h0, h1, h2, h3, h4, h5, h6, h7⟩ := h
  rw [upE (by omega) rfl rfl]
  show fnEnd [] (runs _ _ _ b_is_parcel [some (prom .fz ns its), some (dP p)]) = _
  have t1 : tyD (.bs [.list, .tuple]) (dP p) = .ok true := rfl
  have t2 : ∀ x, tyD (.b .str) (.str x) = .ok true := fun _ => rfl
  have i1 := call_int (n := n - 1) (by omega) (i := p.m.2) (a := -1000000) (b := 1000000)
  have i2 := call_int (n := n - 1) (by omega) (i := p.ah) (a := 0) (b := 1000)
  have i3 := call_int (n := n - 1) (by omega) (i := p.eq) (a := 0) (b := 1000)
  rw [decide_eq_true ⟨h2, h3⟩] at i1
  rw [decide_eq_true ⟨h4, h5⟩] at i2
  rw [decide_eq_true ⟨h6, h7⟩] at i3
  have e : cmpB .notIn (.str p.m.1.1) (.tup (ns.map dW)) = some false := by rw [notin_W, decide_eq_true h0]; rfl
  simp only [b_is_parcel, runs_cons, runs_nil, run_ret, run_ite]
  simp [t1]
  simp [dP, t2, fld_prom_n, e, i1, i2, i3]
end K

set_option Elab.async false
set_option linter.all false
set_option maxRecDepth 100000
set_option maxHeartbeats 1000000
/-! Mb: receivers: what can pass. -/
namespace K
open PySem PySem.Spec PyProof.Rows L2 Pu
/-- how many a promise keeps in order with a message -/
def cnt (its : List It8) (ps : List Pc) (m : Ms) : Nat := (ps.filter fun q => keepsL its q.m m).length
def can (its : List It8) (ps : List Pc) (p : Pc) : Bool := decide ((cnt its ps p.m : Int) = p.ah)
/-- a receiver -/
structure RS where
  ns : List OkS
  its : List It8
  ps : List Pc
  ws : List Pc
  ls : List (List Nat)
  t : Int
def rns : List Str := ["promise", "_passed", "_waiting", "_lines", "_total"]
def rD (f : Fl) (s : RS) : Pu.D := .obj f c_Receiver rns [prom .fz s.ns s.its, .lst f (s.ps.map dP), .lst f (s.ws.map dP), .lst f (s.ls.map fun l => .str (mkS l)), .int s.t]
@[simp] theorem rD_vw {f s} : vwD (rD f s) = rD f.vwd s := by simp [rD, vwD]
@[simp] theorem rD_an {f s} : anyFz (rD f s) = rD .fz s := by simp [rD, anyFz]
@[simp] theorem rD_fz {f s} : fzD (rD f s) = rD f.fzd s := by simp [rD, fzD, prom]
theorem rD_nv {f s} (h : f ≠ .vw) : noVw (rD f s) = true := by simp [rD, noVw, noVws, h, prom]
theorem rD_vv {s} : noVw (rD .vw s) = false := by simp [rD, noVw]
theorem rix : fIx "promise" rns = some 0 ∧ fIx "_passed" rns = some 1 ∧ fIx "_waiting" rns = some 2 ∧ fIx "_lines" rns = some 3 ∧ fIx "_total" rns = some 4 := by decide +kernel
theorem fldD_ix {f : Str} {fl : Fl} {c : Nat} : ∀ {ns : List Str} {xs : List Pu.D} {j : Nat} {d : Pu.D}, fIx f ns = some j → xs[j]? = some d → fldD f (.obj fl c ns xs) = .ok d
  | [], _, _, _, h, _ => by simp [fIx] at h
  | n :: ns, [], _, _, _, e => by simp at e
  | n :: ns, x :: xs, j, d, h, e => by
    simp only [fIx] at h
    simp only [fldD, List.zip_cons_cons, List.lookup_cons]
    cases q : f == n with
    | true =>
      rw [q, if_pos rfl] at h
      cases h
      simp only [List.getElem?_cons_zero, Option.some.injEq] at e
      rw [e]
    | false =>
      rw [q, if_neg (by decide)] at h
      obtain ⟨k, hk, rfl⟩ := Option.map_eq_some_iff.mp h
      have z := fldD_ix (fl := fl) (c := c) hk (d := d) (xs := xs) (by simpa using e)
      simpa only [fldD] using z
section
variable {f : Fl} {s : RS}
@[simp] theorem fld_pr : fldD "promise" (rD f s) = .ok (prom .fz s.ns s.its) := fldD_ix rix.1 rfl
@[simp] theorem fld_ps : fldD "_passed" (rD f s) = .ok (.lst f (s.ps.map dP)) := fldD_ix rix.2.1 rfl
@[simp] theorem fld_ws : fldD "_waiting" (rD f s) = .ok (.lst f (s.ws.map dP)) := fldD_ix rix.2.2.1 rfl
@[simp] theorem fld_ls : fldD "_lines" (rD f s) = .ok (.lst f (s.ls.map fun l => .str (mkS l))) := fldD_ix rix.2.2.2.1 rfl
@[simp] theorem fld_tt : fldD "_total" (rD f s) = .ok (.int s.t) := fldD_ix rix.2.2.2.2 rfl
theorem methR {m : Str} (h : m ∉ rns) : methOk c_Receiver m (rD f s) = .ok () := by
  show (if c_Receiver = c_Receiver ∧ m ∉ rns then Out.ok () else .bad) = _
  exact if_pos ⟨rfl, h⟩
end
theorem rnot : ("_can_pass" : Str) ∉ rns ∧ ("_first_that_can" : Str) ∉ rns ∧ ("come" : Str) ∉ rns ∧ ("journal" : Str) ∉ rns ∧ ("kept" : Str) ∉ rns ∧ ("passed" : Str) ∉ rns ∧ ("missing" : Str) ∉ rns ∧ ("take_over" : Str) ∉ rns := by decide +kernel
@[simp] theorem dM_of (p : Pc) : cutD [D.str p.m.1.1, D.int p.m.2, D.int p.ah, D.int p.eq] none (some 2) = [.str p.m.1.1, .int p.m.2] := rfl
theorem slc_P {p : Pc} : slcD (dP p) none (some 2) = .ok (dM p.m) := by simp [dP, dM]
@[simp] theorem idx_P0 {p : Pc} : idxD (dP p) (.int 0) = .ok (.str p.m.1.1) := by simp [dP]
@[simp] theorem idx_P1 {p : Pc} : idxD (dP p) (.int 1) = .ok (.int p.m.2) := by simp [dP]
@[simp] theorem idx_P2 {p : Pc} : idxD (dP p) (.int 2) = .ok (.int p.ah) := by simp [dP]
@[simp] theorem idx_P3 {p : Pc} : idxD (dP p) (.int 3) = .ok (.int p.eq) := by simp [dP]
theorem call_keeps {n : Nat} (hn : 3 ≤ n) {ns : List OkS} {its : List It8} {m k : Ms} : callD (PhiN T gv n) j_keeps [prom .fz ns its, dM m, dM k] = .ok (.bl (keepsL its m k)) := callD_bl (by simpa using phi_keeps hn (ns := ns) (its := its) IsM.t IsM.t)
theorem phi_count_kept {n : Nat} (hn : 4 ≤ n) {ns : List OkS} {its : List It8} {ps : List Pc} {m : Ms} (hl : ps.length ≤ 1000) : PhiN T gv n j_count_kept [prom .fz ns its, .lst .fz (ps.map dP), dM m] = .ok (.int (cnt its ps m : Int), []) := by
  rw [upE (by omega) rfl rfl]
  show fnEnd [] (runs _ _ _ b_count_kept [some (prom .fz ns its), some (.lst .fz (ps.map dP)), some (dM m), none]) = _
  have z := ev_compF (Φ := PhiN T gv (n - 1)) (gv := gv) (own := [3]) (e := .var 3) (tg := .nm 3) (it := .of (.var 1)) (ρ := [some (prom .fz ns its), some (.lst .fz (ps.map dP)), some (dM m), none]) (cs := [(.call j_keeps [(.var 0), (.slc (.var 3) [] [(.int 2)]), (.var 2)])]) (f := dP) (p := fun q => keepsL its q.m m) (xs := ps) (en := dP) (b := true)
    (evIt_of1 (d := .lst .fz (ps.map dP)) (by simp) (by simp) (by simp)) (big5 _ hl) (fun q hq => by
      have c := call_keeps (n := n - 1) (by omega) (ns := ns) (its := its) (m := q.m) (k := m)
      simp [wipeD, slc_P, c]
      cases keepsL its q.m m <;> rfl)
  simp [b_count_kept, runs_cons, runs_nil, run_ret, z, cnt]
theorem call_count {n : Nat} (hn : 4 ≤ n) {f : Fl} {ns : List OkS} {its : List It8} {ps : List Pc} {m : Ms} (hl : ps.length ≤ 1000) : callD (PhiN T gv n) j_count_kept [prom .fz ns its, .lst f (ps.map dP), dM m] = .ok (.int (cnt its ps m : Int)) := by
  have z := phi_count_kept hn (ns := ns) (its := its) (m := m) hl
  simp [callD, z]
theorem phi_can {n : Nat} (hn : 5 ≤ n) {s : RS} {p : Pc} (hl : s.ps.length ≤ 1000) : PhiN T gv n j_Receiver_can_pass [rD .fz s, dP p] = .ok (.bl (can s.its s.ps p), []) := by
  rw [upE (by omega) rfl rfl]
  show fnEnd [] (runs _ _ _ b_Receiver_can_pass [some (rD .fz s), some (dP p)]) = _
  have c := call_count (n := n - 1) (by omega) (f := .fz) (ns := s.ns) (its := s.its) (m := p.m) hl
  simp [b_Receiver_can_pass, runs_cons, runs_nil, run_ret, slc_P, c, can]
theorem call_can {n : Nat} (hn : 5 ≤ n) {f : Fl} {s : RS} {p : Pc} (hl : s.ps.length ≤ 1000) : callD (PhiN T gv n) j_Receiver_can_pass [rD f s, dP p] = .ok (.bl (can s.its s.ps p)) := by
  have z := phi_can hn (s := s) (p := p) hl
  simp [callD, z]
/-- a parcel or None -/
def oP : Option Pc → Pu.D
  | some p => dP p
  | none => .non
@[simp] theorem oP_vw {o} : vwD (oP o) = oP o := by cases o <;> simp [oP]
@[simp] theorem oP_va {o} : vaD (oP o) = oP o := by cases o <;> simp [oP]
@[simp] theorem oP_nv {o} : noVw (oP o) = true := by cases o <;> simp [oP]
theorem phi_first {n : Nat} (hn : 6 ≤ n) {s : RS} (hl : s.ps.length ≤ 1000) : PhiN T gv n j_Receiver_first_that_can [rD .fz s] = .ok (oP (s.ws.find? (can s.its s.ps)), []) := by
  rw [upE (by omega) rfl rfl]
  show fnEnd [] (runs _ _ _ b_Receiver_first_that_can [some (rD .fz s), none]) = _
  have c := fun p => call_can (n := n - 1) (by omega) (f := .fz) (s := s) (p := p) hl
  have mo : methOk c_Receiver "_can_pass" (rD .fz s) = .ok () := methR rnot.1
  have hi : evIt (PhiN T gv (n - 1)) gv (.of (.fld (.var 0) "_waiting")) [some (rD .fz s), none] = .ok (s.ws.map dP, true) := evIt_of1 (d := .lst .fz (s.ws.map dP)) (by simp) (by simp) (by simp)
  simp only [b_Receiver_first_that_can, runs_cons]
  rcases fr_find (Φ := PhiN T gv (n - 1)) (gv := gv) (pi := []) (t := .nm 1) (b := [(.ite (.meth c_Receiver j_Receiver_can_pass "_can_pass" (.var 0) [(.var 1)]) [(.rtv 1)] [])]) (fun ρ => ∃ o, ρ = [some (rD .fz s), o]) dP (can s.its s.ps) hi (by simp) ⟨none, rfl⟩
    (fun x hx ρ ⟨o, e⟩ => by
      subst e
      cases q : can s.its s.ps x <;> simp [runs_cons, runs_nil, run_ite, mo, c, q, run_rtv]) with ⟨x, ρ', h1, h2⟩ | ⟨ρ', h1, h2, ⟨o, rfl⟩⟩
  · rw [h2, h1]
    simp [oP]
  · rw [h2, h1]
    simp [runs_cons, runs_nil, run_ret, oP]
theorem call_first {n : Nat} (hn : 6 ≤ n) {f : Fl} {s : RS} (hl : s.ps.length ≤ 1000) : callD (PhiN T gv n) j_Receiver_first_that_can [rD f s] = .ok (oP (s.ws.find? (can s.its s.ps))) := by
  have z := phi_first hn (s := s) hl
  simp [callD, z]
theorem phi_journal {n : Nat} (hn : 1 ≤ n) {s : RS} (hl : s.ls.length ≤ 1000) (hb : ∀ l ∈ s.ls, l.length ≤ 100) : PhiN T gv n j_Receiver_journal [rD .fz s] = .ok (.str (mkS (s.ls.flatMap fun l => l ++ [10])), []) := by
  rw [upE (by omega) rfl rfl]
  show fnEnd [] (runs _ _ _ b_Receiver_journal [some (rD .fz s), none]) = _
  have nl : ("\n" : Str) = mkS [10] := by decide +kernel
  have em : ("" : Str) = mkS [] := by decide +kernel
  have e1 := ev_comp (Φ := PhiN T gv (n - 1)) (gv := gv) (own := [1]) (e := .bin .add (.var 1) (.str "\n")) (tg := .nm 1) (it := .of (.fld (.var 0) "_lines")) (ρ := [some (rD .fz s), none]) (xs := s.ls) (en := fun l => .str (mkS l)) (b := true) (f := fun l => .str (mkS (l ++ [10])))
    (evIt_of1 (d := .lst .fz (s.ls.map fun l => .str (mkS l))) (by simp) (by simp) (by simp)) (big5 _ hl) (fun l hm => by
      have := hb l hm
      have g := big5 (l.length + 1) (by omega)
      simp [wipeD, nl, bin_addS, g])
  have e2 : (s.ls.map fun l => D.str (mkS (l ++ [10]))) = (s.ls.map fun l => l ++ [10]).map fun l => D.str (mkS l) := by rw [List.map_map]; rfl
  rw [e2] at e1
  have bd : ∀ ls : List (List Nat), (∀ l ∈ ls, l.length ≤ 100) → ((ls.map fun l => l ++ [10]).map (·.length)).sum ≤ 101 * ls.length := by
    intro ls
    induction ls with
    | nil => intro _; simp
    | cons l ls ih =>
      intro h
      have a := h l List.mem_cons_self
      have b := ih fun x hx => h x (List.mem_cons_of_mem _ hx)
      simp only [List.map_cons, List.sum_cons, List.length_append, List.length_cons, List.length_nil]
      omega
  have e3 := bi_join (f := .ow) (s := []) (ls := s.ls.map fun l => l ++ [10]) (by
    have := bd s.ls hb
    simp only [List.length_nil, Nat.mul_zero, Nat.add_zero]
    omega)
  have e4 : joinL [] (s.ls.map fun l => l ++ [10]) = s.ls.flatMap fun l => l ++ [10] := by
    cases s.ls with
    | nil => rfl
    | cons l ls => simp [joinL, List.flatMap_map]
  rw [e4] at e3
  simp only [b_Receiver_journal, runs_cons, runs_nil, run_ret, ev_m1, ev_str, em, e1, Out.bind_ok, m1_join, Out.chk_true, e3]
  simp
theorem call_journal {n : Nat} (hn : 1 ≤ n) {f : Fl} {s : RS} (hl : s.ls.length ≤ 1000) (hb : ∀ l ∈ s.ls, l.length ≤ 100) : callD (PhiN T gv n) j_Receiver_journal [rD f s] = .ok (.str (mkS (s.ls.flatMap fun l => l ++ [10]))) := by
  have z := phi_journal hn (s := s) hl hb
  simp [callD, z]
theorem phi_Receiver_init {n : Nat} (hn : 1 ≤ n) {ns : List OkS} {its : List It8} : PhiN T gv n j_Receiver_init [.obj .ow c_Receiver [] [], prom .fz ns its] = .ok (.non, [rD .ow ⟨ns, its, [], [], [], 1⟩]) := by
  rw [upE (by omega) rfl rfl]
  show fnEnd [0] (runs _ _ _ b_Receiver_init [some (.obj .ow c_Receiver [] []), some (prom .fz ns its)]) = _
  have pv : noVw (prom .fz ns its) = true := by simp [prom, noVw]
  have pw : vwD (prom .fz ns its) = prom .fz ns its := by simp
  have s1 : ∀ y, putN "promise" y [] [] = (([("promise" : Str)] : List Str), [y]) := fun y => putN_new (by exact List.not_mem_nil) rfl
  have s2 : ∀ y a, putN "_passed" y ([("promise" : Str)] : List Str) [a] = (([("promise" : Str), ("_passed" : Str)] : List Str), [a, y]) := fun y a => putN_new (by decide +kernel) rfl
  have s3 : ∀ y a b, putN "_waiting" y ([("promise" : Str), ("_passed" : Str)] : List Str) [a, b] = (([("promise" : Str), ("_passed" : Str), ("_waiting" : Str)] : List Str), [a, b, y]) := fun y a b => putN_new (by decide +kernel) rfl
  have s4 : ∀ y a b c, putN "_lines" y ([("promise" : Str), ("_passed" : Str), ("_waiting" : Str)] : List Str) [a, b, c] = (([("promise" : Str), ("_passed" : Str), ("_waiting" : Str), ("_lines" : Str)] : List Str), [a, b, c, y]) := fun y a b c => putN_new (by decide +kernel) rfl
  have s5 : ∀ y a b c d, putN "_total" y ([("promise" : Str), ("_passed" : Str), ("_waiting" : Str), ("_lines" : Str)] : List Str) [a, b, c, d] = (rns, [a, b, c, d, y]) := fun y a b c d => putN_new (by decide +kernel) rfl
  have z := fun {ρ e y ns xs f} (he : ev (PhiN T gv (n - 1)) gv e ρ = .ok y) (hv : noVw y = true) (hr : ρ[0]? = some (some (.obj .ow c_Receiver ns xs))) (hl : xs.length < 1000) => run_setF (pi := [0]) (f := f) he hv hr hl
  simp only [b_Receiver_init, runs_cons]
  rw [z (y := prom .fz ns its) (by simp) pv rfl (by simp), s1, seq_nx]
  have zz := big5 0 (by omega)
  rw [z (y := .lst .ow []) (by simp) (by simp) rfl (by simp), s2, seq_nx]
  rw [z (y := .lst .ow []) (by simp) (by simp) rfl (by simp), s3, seq_nx]
  rw [z (y := .lst .ow []) (by simp) (by simp) rfl (by simp), s4, seq_nx]
  rw [z (y := .int 1) (by simp) (by simp) rfl (by simp), s5, seq_nx]
  simp [runs_nil, fnEnd, selD, rD]
theorem mk_Receiver {n : Nat} (hn : 1 ≤ n) {f : Fl} (hf : f ≠ .vw) {ns : List OkS} {its : List It8} : mkD (PhiN T gv n) c_Receiver j_Receiver_init [prom f ns its] = .ok (rD .ow ⟨ns, its, [], [], [], 1⟩) := by
  have z := phi_Receiver_init hn (ns := ns) (its := its)
  have pv : noVw (prom f ns its) = true := by simp [prom, noVw, hf]
  simp [mkD, z, pv]
end K

set_option Elab.async false
set_option linter.all false
set_option maxRecDepth 100000
set_option maxHeartbeats 1000000
/-! Mc: a parcel comes. -/
namespace K
open PySem PySem.Spec PyProof.Rows L2 Pu
def rX (f : Fl) (s : RS) : List Pu.D := [prom .fz s.ns s.its, .lst f (s.ps.map dP), .lst f (s.ws.map dP), .lst f (s.ls.map fun l => .str (mkS l)), .int s.t]
theorem rD_rX {f : Fl} {s : RS} : rD f s = .obj f c_Receiver rns (rX f s) := rfl
section
variable {Φ : Nat → List Pu.D → Out (Pu.D × List Pu.D)} {gv : Nat → Pu.D} {pi : List Nat} {ρ : List (Option Pu.D)} {s : RS} {i : Nat} {e : Ex}
theorem r_total {t : Int} (hr : ρ[i]? = some (some (rD .ow s))) (he : ev Φ gv e ρ = .ok (.int t)) : run1 Φ gv pi (.setF i [] "_total" e) ρ = .nx (ρ.set i (some (rD .ow { s with t := t }))) := by
  rw [run_setF' (j := 4) (ns := rns) (xs := rX .ow s) he rfl hr rix.2.2.2.2 rfl (by simp [rX])]
  rfl
theorem r_wset {ws : List Pc} (hr : ρ[i]? = some (some (rD .ow s))) (he : ev Φ gv e ρ = .ok (.lst .ow (ws.map dP))) : run1 Φ gv pi (.setF i [] "_waiting" e) ρ = .nx (ρ.set i (some (rD .ow { s with ws := ws }))) := by
  rw [run_setF' (j := 2) (ns := rns) (xs := rX .ow s) he (by simp) hr rix.2.2.1 rfl (by simp [rX])]
  rfl
theorem r_line {l : List Nat} (hr : ρ[i]? = some (some (rD .ow s))) (he : ev Φ gv e ρ = .ok (.str (mkS l))) (hl : s.ls.length < 1000) : run1 Φ gv pi (.app i [.fl "_lines"] e) ρ = .nx (ρ.set i (some (rD .ow { s with ls := s.ls ++ [l] }))) := by
  rw [run_appF (j := 3) (ns := rns) (xs := rX .ow s) (ys := s.ls.map fun l => .str (mkS l)) he rfl hr rix.2.2.2.1 rfl (by have := big5 (s.ls.length + 1) (by omega); rw [List.length_map]; omega)]
  simp [rD, rX]
theorem r_pass {p : Pc} (hr : ρ[i]? = some (some (rD .ow s))) (he : ev Φ gv e ρ = .ok (dP p)) (hl : s.ps.length < 1000) : run1 Φ gv pi (.app i [.fl "_passed"] e) ρ = .nx (ρ.set i (some (rD .ow { s with ps := s.ps ++ [p] }))) := by
  rw [run_appF (j := 1) (ns := rns) (xs := rX .ow s) (ys := s.ps.map dP) he (by simp) hr rix.2.1 rfl (by have := big5 (s.ps.length + 1) (by omega); rw [List.length_map]; omega)]
  simp [rD, rX]
theorem r_wait {p : Pc} (hr : ρ[i]? = some (some (rD .ow s))) (he : ev Φ gv e ρ = .ok (dP p)) (hl : s.ws.length < 1000) : run1 Φ gv pi (.app i [.fl "_waiting"] e) ρ = .nx (ρ.set i (some (rD .ow { s with ws := s.ws ++ [p] }))) := by
  rw [run_appF (j := 2) (ns := rns) (xs := rX .ow s) (ys := s.ws.map dP) he (by simp) hr rix.2.2.1 rfl (by have := big5 (s.ws.length + 1) (by omega); rw [List.length_map]; omega)]
  simp [rD, rX]
end
/-- what passes, one after another -/
def drain (its : List It8) : Nat → List Pc → List Pc → List Ms → List Pc × List Pc × List Ms
  | 0, ps, ws, ms => (ps, ws, ms)
  | k + 1, ps, ws, ms => match ws.find? (can its ps) with
    | none => (ps, ws, ms)
    | some f => drain its k (ps ++ [f]) (ws.filter fun q => !decide (q = f)) (ms ++ [f.m])
theorem filt_lt {ws : List Pc} {f : Pc} (h : f ∈ ws) : (ws.filter fun q => !decide (q = f)).length < ws.length := by
  rw [← List.countP_eq_length_filter]
  rw [List.countP_eq_length_filter]
  exact List.length_filter_lt_length_iff_exists.mpr ⟨f, h, by simp⟩
theorem drain_len {its : List It8} : ∀ {k : Nat} {ps ws : List Pc} {ms : List Ms}, (drain its k ps ws ms).1.length + (drain its k ps ws ms).2.1.length ≤ ps.length + ws.length
  | 0, _, _, _ => Nat.le_refl _
  | k + 1, ps, ws, ms => by
    unfold drain
    split
    · exact Nat.le_refl _
    · next f h =>
      have a := drain_len (its := its) (k := k) (ps := ps ++ [f]) (ws := ws.filter fun q => !decide (q = f)) (ms := ms ++ [f.m])
      have b := filt_lt (List.mem_of_find?_eq_some h)
      simp only [List.length_append, List.length_cons, List.length_nil] at a
      omega
theorem drain_stop {its : List It8} : ∀ {k : Nat} {ps ws : List Pc} {ms : List Ms}, ws.length ≤ k → (drain its k ps ws ms).2.1.find? (can its (drain its k ps ws ms).1) = none
  | 0, _, ws, _, h => by
    have : ws = [] := List.length_eq_zero_iff.mp (by omega)
    subst this
    rfl
  | k + 1, ps, ws, ms, h => by
    unfold drain
    split
    · next e => exact e
    · next f e =>
      exact drain_stop (by have := filt_lt (List.mem_of_find?_eq_some e); omega)
theorem words_lt {p : Pc} (h : ∀ c ∈ chs p.m.1, c < 1000) : ∀ c ∈ wordsOf p, c < 1000 := by
  intro c hc
  simp only [wordsOf, List.mem_append, List.mem_cons] at hc
  have z := fun {i : Int} (h : c ∈ decI i) => decI_sign h
  rcases hc with hc | rfl | hc | rfl | hc | rfl | hc
  · exact h c hc
  · omega
  · have := z hc; omega
  · omega
  · have := z hc; omega
  · omega
  · have := z hc; omega
def totT (s : RS) (p : Pc) : Int := cks s.t (wordsOf p)
def lineL (s : RS) (p : Pc) : List Nat := wordsOf p ++ 32 :: decI (totT s p)
def dup (s : RS) (p : Pc) : Bool := decide (p ∈ s.ps) || decide (p ∈ s.ws)
def drn (s : RS) (p : Pc) : List Pc × List Pc × List Ms := drain s.its (s.ws.length + 1) s.ps (s.ws ++ [p]) []
def nxt (s : RS) (p : Pc) : RS := if dup s p = true then { s with ls := s.ls ++ [lineL s p], t := totT s p } else { s with ls := s.ls ++ [lineL s p], t := totT s p, ps := (drn s p).1, ws := (drn s p).2.1 }
def fate (s : RS) (p : Pc) : Str := if dup s p = true then "dropped" else if can s.its s.ps p = true then "passes" else "waits"
def goes (s : RS) (p : Pc) : List Ms := if dup s p = true then [] else (drn s p).2.2
def lpB : List Sm := [(.setF 0 [] "_waiting" (.comp [5] (.var 5) (.nm 5) (.of (.fld (.var 0) "_waiting")) [(.cmp .ne (.var 5) (.var 4))])), (.app 0 [.fl "_passed"] (.var 4)), (.app 3 [] (.slc (.var 4) [] [(.int 2)])), (.set (.nm 4) (.meth c_Receiver j_Receiver_first_that_can "_first_that_can" (.var 0) []))]
def cS (s : RS) (p : Pc) (x : Str) (ms : List Ms) : List (Option Pu.D) := [some (rD .ow s), some (dP p), some (.str x), some (.lst .ow (ms.map dM)), some (oP (s.ws.find? (can s.its s.ps))), none]
@[simp] theorem oP_some {p : Pc} : oP (some p) = dP p := rfl
@[simp] theorem oP_none : oP none = .non := rfl
theorem pass_body {n : Nat} (hn : 6 ≤ n) {s : RS} {p f : Pc} {x : Str} {ms : List Ms} (h : s.ws.find? (can s.its s.ps) = some f) (hl : s.ps.length + s.ws.length ≤ 900) (hm : ms.length ≤ 900) :
    runs (PhiN T gv n) gv [0] lpB (cS s p x ms) = .nx (cS { s with ps := s.ps ++ [f], ws := s.ws.filter fun q => !decide (q = f) } p x (ms ++ [f.m])) := by
  have hw := List.mem_of_find?_eq_some h
  have hpos := List.length_pos_of_mem hw
  have hfl := filt_lt hw
  have b1 := big5 (ms.length + 1) (by omega)
  have e1 := ev_compF (Φ := PhiN T gv n) (gv := gv) (own := [5]) (e := .var 5) (tg := .nm 5) (it := .of (.fld (.var 0) "_waiting")) (ρ := cS s p x ms) (cs := [(.cmp .ne (.var 5) (.var 4))]) (f := dP) (p := fun q => !decide (q = f)) (xs := s.ws) (en := dP) (b := false)
    (by simp [cS]) (big5 _ (by omega)) (fun q hq => by
      simp [cS, wipeD, h, ne_P]
      split <;> rfl)
  have s1 : run1 (PhiN T gv n) gv [0] (.setF 0 [] "_waiting" (.comp [5] (.var 5) (.nm 5) (.of (.fld (.var 0) "_waiting")) [(.cmp .ne (.var 5) (.var 4))])) (cS s p x ms) = _ := r_wset (s := s) rfl e1
  rw [lpB, runs_cons, s1, seq_nx, runs_cons]
  rw [r_pass (s := { s with ws := s.ws.filter fun q => !decide (q = f) }) (p := f) rfl (by simp [cS, h]) (by simp; omega), seq_nx]
  have c := call_first (n := n) hn (f := .vw) (s := { s with ps := s.ps ++ [f], ws := s.ws.filter fun q => !decide (q = f) }) (by simp; omega)
  have mo : methOk c_Receiver "_first_that_can" (rD .vw { s with ps := s.ps ++ [f], ws := s.ws.filter fun q => !decide (q = f) }) = .ok () := methR rnot.2.1
  have b2 : ms.length < sizeLine := by omega
  simp [runs_cons, runs_nil, cS, h, run_app, appK, slc_P, run_set, mo, c, b2]
theorem drain_loop {n : Nat} (hn : 6 ≤ n) {p : Pc} {x : Str} : ∀ {k j : Nat} {s : RS} {ms : List Ms}, s.ws.length ≤ k → s.ps.length + s.ws.length ≤ 900 → ms.length + s.ws.length ≤ 900 →
    loopW (evT (PhiN T gv n) gv [0] (.pu (.cmp .notNon (.var 4) .non))) (runs (PhiN T gv n) gv [0] lpB) (k + j + 1) (cS s p x ms) = .nx (cS { s with ps := (drain s.its k s.ps s.ws ms).1, ws := (drain s.its k s.ps s.ws ms).2.1 } p x (drain s.its k s.ps s.ws ms).2.2)
  | k, j, s, ms, hk, hl, hm => by
    have t : evT (PhiN T gv n) gv [0] (.pu (.cmp .notNon (.var 4) .non)) (cS s p x ms) = .ok (s.ws.find? (can s.its s.ps)).isSome (cS s p x ms) := by
      cases q : s.ws.find? (can s.its s.ps) <;> simp [evT, cS, q, cmpB, isNonD, dP, Out.toX]
    cases k with
    | zero =>
      have : s.ws = [] := List.length_eq_zero_iff.mp (by omega)
      have e : s.ws.find? (can s.its s.ps) = none := by rw [this]; rfl
      rw [e] at t
      simp only [loopW, t, Option.isSome_none, drain]
    | succ k =>
      rw [show k + 1 + j + 1 = (k + j + 1) + 1 by omega]
      rw [loopW, t]
      cases q : s.ws.find? (can s.its s.ps) with
      | none => simp only [Option.isSome_none, drain, q]
      | some f =>
        have hw := filt_lt (List.mem_of_find?_eq_some q)
        rw [Option.isSome_some]
        have b := pass_body hn (p := p) (x := x) (ms := ms) q (by omega) (by omega)
        simp only [b]
        rw [drain_loop hn (by simp only; omega) (by simp only [List.length_append, List.length_cons, List.length_nil]; omega) (by simp only [List.length_append, List.length_cons, List.length_nil]; omega)]
        simp only [drain, q]
theorem phi_come {n : Nat} (hn : 7 ≤ n) {s : RS} {p : Pc} (hg : Good s.ns p) (hc : ∀ c ∈ chs p.m.1, c < 1000) (hl : s.ls.length < 300) (hp : s.ps.length + s.ws.length ≤ 500) (ht : 0 ≤ s.t ∧ s.t < 65521) :
    ∃ f, f ≠ Fl.vw ∧ PhiN T gv n j_Receiver_come [rD .ow s, dP p] = .ok (.tup [.str (fate s p), .lst f ((goes s p).map dM)], [rD .ow (nxt s p)]) := by
  rw [upE (by omega) rfl rfl]
  show ∃ f, _ ∧ fnEnd [0] (runs _ _ [0] b_Receiver_come [some (rD .ow s), some (dP p), none, none, none, none]) = _
  have c1 : callD (PhiN T gv (n - 1)) j_is_parcel [prom .fz s.ns s.its, dP p] = .ok (.bl true) := callD_bl (by simpa using phi_is_parcel (by omega) (its := s.its) hg)
  have c2 : callD (PhiN T gv (n - 1)) j_words_of [dP p] = .ok (.str (mkS (wordsOf p))) := callD_id (by simpa using phi_words_of (by omega) hg) (by simp)
  have wl := hg.len
  have ht' := cks_bd (l := wordsOf p) ht
  have c3 : callD (PhiN T gv (n - 1)) j_checksum [.int s.t, .str (mkS (wordsOf p))] = .ok (.int (totT s p)) := callD_id (by simpa [totT] using phi_checksum (n := n - 1) (by omega) (l := wordsOf p) (by omega) ht (words_lt hc)) (by simp)
  have dl := decI_len (i := totT s p) (by unfold totT; omega)
  have bs : biD .str [.int (totT s p)] = .ok (.str (mkS (decI (totT s p)))) := bi_strI (by unfold totT; omega)
  have sp : (" " : Str) = mkS [32] := by decide +kernel
  have b1 : (wordsOf p).length + 1 ≤ sizeLine := big5 _ (by omega)
  have b2 : (wordsOf p).length + 1 + (decI (totT s p)).length ≤ sizeLine := big5 _ (by omega)
  have n3 : ¬ (s.ls.length : Int) = 300 := by omega
  have z0 := big5 0 (by omega)
  have z2 := big5 2 (by omega)
  have s3 : ∀ ρ, run1 (PhiN T gv (n - 1)) gv [0] (.setF 0 [] "_total" (.call j_checksum [(.fld (.var 0) "_total"), (.call j_words_of [(.var 1)])])) (some (rD .ow s) :: some (dP p) :: ρ) = .nx (some (rD .ow { s with t := totT s p }) :: some (dP p) :: ρ) := fun ρ => by
    rw [r_total (s := s) (t := totT s p) rfl (by simp [c2, c3])]
    rfl
  have s4 : ∀ ρ, run1 (PhiN T gv (n - 1)) gv [0] (.app 0 [.fl "_lines"] (.bin .add (.bin .add (.call j_words_of [(.var 1)]) (.str " ")) (.bi .str [(.fld (.var 0) "_total")]))) (some (rD .ow { s with t := totT s p }) :: some (dP p) :: ρ) = .nx (some (rD .ow { s with ls := s.ls ++ [lineL s p], t := totT s p }) :: some (dP p) :: ρ) := fun ρ => by
    rw [r_line (s := { s with t := totT s p }) (l := lineL s p) rfl (by simp [c2, sp, bin_addS, b1, bs, b2, lineL]) (by simp only; omega)]
    rfl
  rw [b_Receiver_come, runs_cons, run_ite]
  simp only [ev_not, ev_call, evs_cons, evs_nil, ev_fld, ev_var, List.getElem?_cons_zero, List.getElem?_cons_succ, rD_vw, dP_vw, Out.bind_ok, fld_pr, c1, tru_bl, Out.ofo]
  rw [re_ok', if_neg (by decide), runs_nil, seq_nx, runs_cons, run_ite]
  simp only [ev_cmp, ev_bi, evs_cons, evs_nil, ev_fld, ev_var, ev_int, List.getElem?_cons_zero, List.getElem?_cons_succ, rD_vw, Out.bind_ok, fld_ls, bi_lenL, List.length_map, cmp_eqI, Out.ofo, tru_bl, n3, decide_false]
  rw [re_ok', if_neg (by decide), runs_nil, seq_nx, runs_cons, run_set]
  have tp : ev (PhiN T gv (n - 1)) gv (.bi .tuple [(.var 1)]) [some (rD .ow s), some (dP p), none, none, none, none] = .ok (dP p) := by simp [dP]
  rw [tp, cleanK_ok, if_pos (by simp), bindC_nm, if_pos (by simp), if_pos (by simp)]
  simp only [List.set_cons_succ, List.set_cons_zero, seq_nx]
  rw [runs_cons, s3, seq_nx, runs_cons, s4, seq_nx, runs_cons, run_ite]
  have or1 : ((ev (PhiN T gv (n - 1)) gv (.or (.cmp .isIn (.var 1) (.fld (.var 0) "_passed")) (.cmp .isIn (.var 1) (.fld (.var 0) "_waiting"))) [some (rD .ow { s with ls := s.ls ++ [lineL s p], t := totT s p }), some (dP p), none, none, none, none]).bind fun d => Out.ofo (truD d)) = .ok (dup s p) := by
    simp [in_P, Out.ofo, dup]
    by_cases h : p ∈ s.ps <;> simp [h]
  rw [or1, re_ok']
  by_cases hd : dup s p = true
  · refine ⟨.ow, by simp, ?_⟩
    simp [hd, runs_cons, run_ret, fnEnd, selD, z0, z2, fate, goes, nxt, rD_nv]
  · rw [if_neg hd, runs_nil, seq_nx]
    refine ⟨.fz, by simp, ?_⟩
    have cc := call_can (n := n - 1) (by omega) (f := .vw) (s := { s with ls := s.ls ++ [lineL s p], t := totT s p }) (p := p) (by simp only; omega)
    have mo : methOk c_Receiver "_can_pass" (rD .vw { s with ls := s.ls ++ [lineL s p], t := totT s p }) = .ok () := methR rnot.1
    have e5 : ev (PhiN T gv (n - 1)) gv (.ife (.meth c_Receiver j_Receiver_can_pass "_can_pass" (.var 0) [(.var 1)]) (.str "passes") (.str "waits")) [some (rD .ow { s with ls := s.ls ++ [lineL s p], t := totT s p }), some (dP p), none, none, none, none] = .ok (.str (fate s p)) := by
      simp [mo, cc, fate, hd]
      cases can s.its s.ps p <;> simp
    rw [runs_cons, run_set, e5, cleanK_ok, if_pos (by simp), bindC_nm, if_pos (by simp), if_pos (by simp), seq_nx, runs_cons]
    simp only [List.set_cons_succ, List.set_cons_zero]
    rw [r_wait (s := { s with ls := s.ls ++ [lineL s p], t := totT s p }) (p := p) rfl (by simp) (by simp only; omega), seq_nx]
    simp only [List.set_cons_succ, List.set_cons_zero]
    have c6 := call_first (n := n - 1) (by omega) (f := .vw) (s := { s with ls := s.ls ++ [lineL s p], t := totT s p, ws := s.ws ++ [p] }) (by simp only; omega)
    have mo6 : methOk c_Receiver "_first_that_can" (rD .vw { s with ls := s.ls ++ [lineL s p], t := totT s p, ws := s.ws ++ [p] }) = .ok () := methR rnot.2.1
    rw [runs_cons, run_set, ev_lst, evs_nil, Out.bind_ok, chk_eq, if_pos (by simp), cleanK_ok, if_pos (by simp), bindC_nm, if_pos (by simp), if_pos (by simp), seq_nx, runs_cons, run_set]
    simp only [List.set_cons_succ, List.set_cons_zero, ev_meth, ev_var, List.getElem?_cons_zero, rD_vw, show Fl.ow.vwd = .vw from rfl, Out.bind_ok, mo6, evs_nil, c6]
    rw [cleanK_ok, if_pos (by simp), bindC_nm, if_pos (by simp), if_pos (by simp), seq_nx, runs_cons, run_wh]
    simp only [List.set_cons_succ, List.set_cons_zero]
    have L := drain_loop (n := n - 1) (by omega) (p := p) (x := fate s p) (k := s.ws.length + 1) (j := 999998 - s.ws.length) (s := { s with ls := s.ls ++ [lineL s p], t := totT s p, ws := s.ws ++ [p] }) (ms := []) (by simp) (by simp only [List.length_append, List.length_cons, List.length_nil]; omega) (by simp only [List.length_append, List.length_cons, List.length_nil]; omega)
    rw [show s.ws.length + 1 + (999998 - s.ws.length) + 1 = whFuel by unfold whFuel; omega] at L
    simp only [lpB, cS, List.map_nil] at L
    rw [L, seq_nx]
    have st := drain_stop (its := s.its) (k := s.ws.length + 1) (ps := s.ps) (ws := s.ws ++ [p]) (ms := []) (by simp)
    simp [runs_cons, run_ret, cS, retSlow, frzs, frz1, fvs, fvss, z2, fnEnd, selD, rD_nv, goes, hd, nxt, drn]
end K

set_option Elab.async false
set_option linter.all false
set_option maxRecDepth 100000
set_option maxHeartbeats 1000000
/-! Md: the parcels that a law draws. -/
namespace K
open PySem PySem.Spec PyProof.Rows L2 Pu
/-- letters only -/
def Nm (w : OkS) : Prop := (chs w).length ≤ 6 ∧ ∀ c ∈ chs w, 97 ≤ c ∧ c ≤ 122
theorem names_nm {row : List Nat} {ns : List OkS} (e : ns.map dW = (namesL row).map fun w => D.str (mkS w)) : ∀ w ∈ ns, Nm w := by
  intro w hw
  have hm : dW w ∈ (namesL row).map fun w => D.str (mkS w) := by rw [← e]; exact List.mem_map_of_mem hw
  obtain ⟨l, hl, el⟩ := List.mem_map.mp hm
  have : chs w = l := by
    unfold chs
    rw [show w.1 = mkS l from (D.str.inj el).symm, mkS_cps]
  unfold Nm
  rw [this]
  obtain ⟨k, _, rfl⟩ := List.mem_map.mp hl
  refine ⟨?_, ?_⟩
  · have := wordL_len ((nth row 0 : Nat) : Int)
    unfold wordsL
    simp only [List.length_append, List.length_take, List.length_drop, List.length_singleton]
    omega
  · intro x hx
    unfold wordsL at hx
    simp only [List.mem_append, List.mem_singleton] at hx
    rcases hx with hx | rfl | hx
    · exact wordL_ok _ x (List.mem_of_mem_take hx)
    · exact ch_ok _
    · exact wordL_ok _ x (List.mem_of_mem_drop hx)
theorem callD_va {Φ : Nat → List Pu.D → Out (Pu.D × List Pu.D)} {j : Nat} {ds : List Pu.D} {d : Pu.D} (h : Φ j (anyFzs ds) = .ok (d, [])) (v : vaD d = d) : callD Φ j ds = .ok d := by
  unfold callD
  rw [h]
  simp [v]
theorem call_cell {n : Nat} (hn : 1 ≤ n) (sc : List Int) (k : Nat) : callD (PhiN T gv n) j_law_cell [.lst .fz (sc.map D.int), .int (k : Int)] = .ok (.int (cellOf sc k)) := callD_id (by simpa using phi_cell hn sc k) (by simp)
theorem call_row {n : Nat} (hn : 1 ≤ n) (c : Int) (cnt : Nat) (hc : cnt ≤ 1000) : ∃ xs, IsRow xs cnt ∧ callD (PhiN T gv n) j_law_row [.int c, .int (cnt : Int)] = .ok (.lst .ow (xs.map dI)) := by
  obtain ⟨xs, h, e⟩ := phi_row hn c cnt hc
  exact ⟨xs, h, callD_id (by simpa using e) (by simp)⟩
def Drawn (ns : List OkS) (its : List It8) : Prop := 1 ≤ ns.length ∧ ns.length ≤ 4 ∧ ns.Nodup ∧ (∀ w ∈ ns, Nm w) ∧ (∀ i ∈ its, i ∈ itemsL ns) ∧ its.Nodup ∧ its.length ≤ 410
theorem phi_promise_items {n : Nat} (hn : 4 ≤ n) (sc : List Int) : ∃ ns its, Drawn ns its ∧ PhiN T gv n j_law_promise_items [.lst .fz (sc.map D.int)] = .ok (.lst .ow [.lst .fz (ns.map dW), .lst .ow (its.map It8.D)], []) := by
  have c0 : callD (PhiN T gv (n - 1)) j_law_cell [.lst .fz (sc.map D.int), .int 0] = .ok (.int (cellOf sc 0)) := call_cell (n := n - 1) (by omega) sc 0
  have c1 : callD (PhiN T gv (n - 1)) j_law_cell [.lst .fz (sc.map D.int), .int 1] = .ok (.int (cellOf sc 1)) := call_cell (n := n - 1) (by omega) sc 1
  obtain ⟨row1, hr1, e1⟩ : ∃ xs, IsRow xs 4 ∧ callD (PhiN T gv (n - 1)) j_law_row [.int (cellOf sc 0), .int 4] = .ok (.lst .ow (xs.map dI)) := call_row (n := n - 1) (by omega) (cellOf sc 0) 4 (by omega)
  obtain ⟨row, hr2, e2⟩ : ∃ xs, IsRow xs 22 ∧ callD (PhiN T gv (n - 1)) j_law_row [.int (cellOf sc 1), .int 22] = .ok (.lst .ow (xs.map dI)) := call_row (n := n - 1) (by omega) (cellOf sc 1) 22 (by omega)
  have e3 := phi_names (m := n - 1) (by omega) row1 hr1
  obtain ⟨ns, hns, hnl, hnd, L, hL, hw⟩ := names_ok row1
  have nm := names_nm hns
  rw [← hns] at e3
  have nl : ns.length ≤ 10 := by omega
  have e3' : callD (PhiN T gv (n - 1)) j_law_names [.lst .ow (row1.map dI)] = .ok (.lst .ow (ns.map dW)) := callD_va (by simpa using e3) (by simp)
  have hr0 : 0 < row.length := by rw [hr2.1]; omega
  have il := itemsL_len nl
  have sub := pick_sub (itemsL ns) row
  have e4 : ∀ f, callD (PhiN T gv (n - 1)) j_law_some_items [.lst f (ns.map dW), .lst .ow (row.map dI)] = .ok (.lst .ow ((pickL (itemsL ns) row).map It8.D)) := fun f => callD_va (by simpa using phi_some_items (n := n - 1) (by omega) nl hr0) (by simp)
  refine ⟨ns, pickL (itemsL ns) row, ⟨by omega, by omega, hnd, nm, fun i hi => sub.subset hi, sub.nodup (itemsL_nodup hnd), by have := sub.length_le; omega⟩, ?_⟩
  have z2 := big5 2 (by omega)
  rw [upE (by omega) rfl rfl]
  show fnEnd [] (runs _ _ [] b_law_promise_items [some (.lst .fz (sc.map D.int)), none]) = _
  simp [b_law_promise_items, runs_cons, runs_nil, run_set, run_ret, c0, c1, e1, e2, e3', e4, z2, retSlow, frzs, frz1, fvs, fvss]
theorem atI_last {xs : List Nat} (h : xs ≠ []) : ∃ y, y ∈ xs ∧ atI (xs.map dI) (-1) = some (dI y) := by
  have hp : 0 < xs.length := List.length_pos_iff.mpr h
  have hk : xs.length - 1 < xs.length := by omega
  refine ⟨xs[xs.length - 1], List.getElem_mem hk, ?_⟩
  have e : atI (xs.map dI) (-1) = (xs.map dI)[xs.length - 1]? := by
    unfold atI
    have q1 : ixN (xs.map dI).length (-1) = some (xs.length - 1) := by
      unfold ixN
      have b : ((-1 : Int)).natAbs < 4611686018427387904 := by decide
      have e : seqIndex? (-1) (xs.map dI).length = some (xs.length - 1) := by
        unfold seqIndex?
        simp only [List.length_map]
        have a1 : ¬ ((-1 : Int) + (xs.length : Int) < 0) := by omega
        have a2 : (-1 : Int) + (xs.length : Int) < (xs.length : Int) := by omega
        have a3 : ((-1 : Int) + (xs.length : Int)).toNat = xs.length - 1 := by omega
        simp [a1, a2, a3, hp]
      simp [e]
      exact ⟨by omega, by omega⟩
    rw [q1]; rfl
  rw [e, List.getElem?_map, List.getElem?_eq_getElem hk]; rfl
def at4 (a b c d : Int) (k : Nat) : Int := if k = 0 then a else if k = 1 then b else if k = 2 then c else d
theorem at4_ok {a b c d : Int} {x : Nat} : atI [D.int a, D.int b, D.int c, D.int d] ((x : Int) / 4 % 4) = some (.int (at4 a b c d (x / 4 % 4))) := by
  have e : (x : Int) / 4 % 4 = ((x / 4 % 4 : Nat) : Int) := by omega
  rw [e, atI_n]
  have : x / 4 % 4 < 4 := Nat.mod_lt _ (by omega)
  generalize x / 4 % 4 = k at *
  match k with
  | 0 => rfl
  | 1 => rfl
  | 2 => rfl
  | 3 => rfl
  | k + 4 => omega
def InR (i : Int) : Prop := -1000000 ≤ i ∧ i ≤ 1000000
def ltC : Ex := .comp [4] (.tup [(.idx (.var 1) (.bin .mod (.var 4) (.bi .len [(.var 1)]))), (.idx (.var 2) (.bin .mod (.bin .fdiv (.var 4) (.int 4)) (.int 4)))]) (.nm 4) (.of (.var 0)) []
theorem letters_comp {Φ : Nat → List Pu.D → Out (Pu.D × List Pu.D)} {gv : Nat → Pu.D} {xs : List Nat} {ns : List OkS} {a b c d : Int} {o3 : Option Pu.D} (hx : xs.length ≤ 100) (hN : 1 ≤ ns.length) (ha : InR a) (hb : InR b) (hc : InR c) (hd : InR d) : ∃ ms : List Ms, ms.length = xs.length ∧ (∀ m ∈ ms, m.1 ∈ ns ∧ InR m.2) ∧ ev Φ gv ltC [some (.lst .fz (xs.map dI)), some (.lst .fz (ns.map dW)), some (.lst .ow [.int a, .int b, .int c, .int d]), o3, none] = .ok (.lst .ow (ms.map dM)) := by
  refine ⟨xs.map fun x => (nth ns (x % ns.length), at4 a b c d (x / 4 % 4)), by simp, ?_, ?_⟩
  · intro m hm
    obtain ⟨x, hx, rfl⟩ := List.mem_map.mp hm
    have hk : x % ns.length < ns.length := Nat.mod_lt _ (by omega)
    refine ⟨List.mem_of_getElem? (get_nth hk), ?_⟩
    unfold at4
    split
    · exact ha
    · split
      · exact hb
      · split
        · exact hc
        · exact hd
  · have z2 := big5 2 (by omega)
    have z := ev_comp (Φ := Φ) (gv := gv) (own := [4]) (e := .tup [(.idx (.var 1) (.bin .mod (.var 4) (.bi .len [(.var 1)]))), (.idx (.var 2) (.bin .mod (.bin .fdiv (.var 4) (.int 4)) (.int 4)))]) (tg := .nm 4) (it := .of (.var 0)) (ρ := [some (.lst .fz (xs.map dI)), some (.lst .fz (ns.map dW)), some (.lst .ow [.int a, .int b, .int c, .int d]), o3, none]) (xs := xs) (en := dI) (b := true) (f := fun x => dM (nth ns (x % ns.length), at4 a b c d (x / 4 % 4)))
      (evIt_of1 (d := .lst .fz (xs.map dI)) (by simp) (by simp) (by simp)) (big5 _ (by omega)) (fun x hx => by
        have hk : x % ns.length < ns.length := Nat.mod_lt _ (by omega)
        have e : (x : Int) % (ns.length : Int) = ((x % ns.length : Nat) : Int) := by omega
        have hp : (0 : Int) < (ns.length : Int) := by omega
        have hne : ns ≠ [] := fun z => by rw [z] at hN; simp at hN
        have g := at4_ok (a := a) (b := b) (c := c) (d := d) (x := x)
        simp only [wipeD, List.foldr, List.set, bindTg_nm, List.length_cons, List.length_nil]
        simp [dI, e, hp, hne, atI_n, get_nth hk, g, z2, dM, dW, -Int.natCast_emod])
    rw [ltC, z, List.map_map]; rfl
theorem phi_letters {n : Nat} (hn : 1 ≤ n) {xs : List Nat} {ns : List OkS} (hx : xs.length ≤ 100) (hx2 : ∀ x ∈ xs, x < 840) (hN : 1 ≤ ns.length) : ∃ ms : List Ms, ms.length = xs.length ∧ (∀ m ∈ ms, m.1 ∈ ns ∧ InR m.2) ∧ PhiN T gv n j_law_letters [.lst .fz (xs.map dI), .lst .fz (ns.map dW)] = .ok (.lst .ow (ms.map dM), []) := by
  rw [upE (by omega) rfl rfl]
  show ∃ ms : List Ms, _ ∧ _ ∧ fnEnd [] (runs _ _ [] b_law_letters [some (.lst .fz (xs.map dI)), some (.lst .fz (ns.map dW)), none, none, none]) = _
  have z4 := big5 4 (by omega)
  have key : ∀ a b c d o3, InR a → InR b → InR c → InR d → ∃ ms : List Ms, ms.length = xs.length ∧ (∀ m ∈ ms, m.1 ∈ ns ∧ InR m.2) ∧ fnEnd [] (runs (PhiN T gv (n - 1)) gv [] [.ret ltC] [some (.lst .fz (xs.map dI)), some (.lst .fz (ns.map dW)), some (.lst .ow [.int a, .int b, .int c, .int d]), o3, none]) = .ok (.lst .ow (ms.map dM), []) := by
    intro a b c d o3 ha hb hc hd
    obtain ⟨ms, h1, h2, h3⟩ := letters_comp (Φ := PhiN T gv (n - 1)) (gv := gv) (o3 := o3) hx hN ha hb hc hd
    refine ⟨ms, h1, h2, ?_⟩
    simp only [runs_cons, runs_nil, run_ret, h3]
    simp
  have s1 : run1 (PhiN T gv (n - 1)) gv [] (.set (.nm 2) (.lst [(.bin .sub (.int 0) (.int 1)), (.int 0), (.int 1), (.int 2)])) [some (.lst .fz (xs.map dI)), some (.lst .fz (ns.map dW)), none, none, none] = .nx [some (.lst .fz (xs.map dI)), some (.lst .fz (ns.map dW)), some (.lst .ow [.int (-1), .int 0, .int 1, .int 2]), none, none] := by
    simp [run_set, z4]
  rw [b_law_letters, runs_cons, s1, seq_nx, runs_cons]
  cases xs with
  | nil =>
    rw [run_ite]
    simp only [ev_and, ev_cmp, ev_bi, evs_cons, evs_nil, ev_var, ev_int, List.getElem?_cons_zero, List.map_nil, vw_lst, vws_nil, Out.bind_ok, bi_lenL, List.length_nil]
    exact key _ _ _ _ _ (by unfold InR; omega) (by unfold InR; omega) (by unfold InR; omega) (by unfold InR; omega)
  | cons x xs =>
    obtain ⟨y, hy, ey⟩ := atI_last (xs := x :: xs) (by simp)
    have hx0 := hx2 x List.mem_cons_self
    have hy0 := hx2 y hy
    have t : ((ev (PhiN T gv (n - 1)) gv (.and (.cmp .gt (.bi .len [(.var 0)]) (.int 0)) (.cmp .eq (.bin .mod (.bin .fdiv (.idx (.var 0) (.int 0)) (.int 7)) (.int 3)) (.int 1))) [some (.lst .fz ((x :: xs).map dI)), some (.lst .fz (ns.map dW)), some (.lst .ow [.int (-1), .int 0, .int 1, .int 2]), none, none]).bind fun d => Out.ofo (truD d)) = .ok (decide ((x : Int) / 7 % 3 = 1)) := by
      have : (0 : Int) < (xs.length : Int) + 1 := by omega
      simp [dI, this, Out.ofo]
    rw [run_ite, t, re_ok']
    by_cases q : (x : Int) / 7 % 3 = 1
    · rw [if_pos (by simp [q])]
      have e0 : atI ((x :: xs).map dI) 0 = some (dI x) := by simp
      have r : runs (PhiN T gv (n - 1)) gv [] [(.set (.nm 3) (.bin .sub (.bin .mod (.bi .int [(.bin .add (.bin .mul (.idx (.var 0) (.int 0)) (.int 2381)) (.bin .mul (.idx (.var 0) (.neg (.int 1))) (.int 17)))]) (.int 2000000)) (.int 1000000))), (.set (.nm 2) (.lst [(.var 3), (.bin .add (.var 3) (.int 1)), (.bi .min [(.int 1000000), (.bin .add (.var 3) (.int 1000))]), (.bin .sub (.int 0) (.var 3))]))] [some (.lst .fz ((x :: xs).map dI)), some (.lst .fz (ns.map dW)), some (.lst .ow [.int (-1), .int 0, .int 1, .int 2]), none, none] = .nx [some (.lst .fz ((x :: xs).map dI)), some (.lst .fz (ns.map dW)), some (.lst .ow [.int (((x : Int) * 2381 + (y : Int) * 17) % 2000000 - 1000000), .int (((x : Int) * 2381 + (y : Int) * 17) % 2000000 - 1000000 + 1), .int (if ((x : Int) * 2381 + (y : Int) * 17) % 2000000 - 1000000 + 1000 < 1000000 then ((x : Int) * 2381 + (y : Int) * 17) % 2000000 - 1000000 + 1000 else 1000000), .int (0 - (((x : Int) * 2381 + (y : Int) * 17) % 2000000 - 1000000))]), some (.int (((x : Int) * 2381 + (y : Int) * 17) % 2000000 - 1000000)), none] := by
        generalize hl : (x :: xs).map dI = L at *
        have hv : vwDs L = L := by rw [← hl]; simp
        simp [runs_cons, runs_nil, run_set, e0, ey, dI, bin_mulI, z4, hv]
      rw [r, seq_nx]
      exact key _ _ _ _ _ (by unfold InR; omega) (by unfold InR; omega) (by unfold InR; split <;> omega) (by unfold InR; omega)
    · rw [if_neg (by simp [q]), runs_nil, seq_nx]
      exact key _ _ _ _ _ (by unfold InR; omega) (by unfold InR; omega) (by unfold InR; omega) (by unfold InR; omega)
theorem phi_parcels {n : Nat} (hn : 4 ≤ n) {its : List It8} {ms : List Ms} (hi : its.length ≤ 900) (hm : ms.length ≤ 900) : ∃ ps : List Pc, ps.length = ms.length ∧ (∀ p ∈ ps, p.m ∈ ms ∧ 0 ≤ p.ah ∧ p.ah ≤ 900 ∧ 0 ≤ p.eq ∧ p.eq ≤ 900) ∧ PhiN T gv n j_law_parcels [.lst .fz (its.map It8.D), .lst .fz (ms.map dM)] = .ok (.lst .ow (ps.map dP), []) := by
  rw [upE (by omega) rfl rfl]
  show ∃ ps : List Pc, _ ∧ _ ∧ fnEnd [] (runs _ _ [] b_law_parcels [some (.lst .fz (its.map It8.D)), some (.lst .fz (ms.map dM)), none, none, none, none, none]) = _
  have z0 := big5 0 (by omega)
  have z4 := big5 4 (by omega)
  have ck : ∀ m k : Ms, callD (PhiN T gv (n - 1)) j_law_keeps [.lst .fz (its.map It8.D), dM m, dM k] = .ok (.bl (keepsL its m k)) := fun m k => callD_bl (by simpa using phi_law_keeps (n := n - 1) (by omega) (its := its) (IsM.t (m := m)) (IsM.t (m := k)) (big5 _ (by omega)))
  have s1 : run1 (PhiN T gv (n - 1)) gv [] (.set (.nm 2) (.lst [])) [some (.lst .fz (its.map It8.D)), some (.lst .fz (ms.map dM)), none, none, none, none, none] = .nx [some (.lst .fz (its.map It8.D)), some (.lst .fz (ms.map dM)), some (.lst .ow []), none, none, none, none] := by
    simp [run_set]
  rw [b_law_parcels, runs_cons, s1, seq_nx, runs_cons]
  refine q_fr (fun o => ∃ ps : List Pc, ps.length = ms.length ∧ (∀ p ∈ ps, p.m ∈ ms ∧ 0 ≤ p.ah ∧ p.ah ≤ 900 ∧ 0 ≤ p.eq ∧ p.eq ≤ 900) ∧ o = .ok (.lst .ow (ps.map dP), [])) (xs := ms) (en := dM) (fun i ρ => ∃ (ps : List Pc) (o3 o4 o5 : Option Pu.D), ρ = [some (.lst .fz (its.map It8.D)), some (.lst .fz (ms.map dM)), some (.lst .ow (ps.map dP)), o3, o4, o5, none] ∧ ps.length = i ∧ (∀ p ∈ ps, p.m ∈ ms ∧ 0 ≤ p.ah ∧ p.ah ≤ 900 ∧ 0 ≤ p.eq ∧ p.eq ≤ 900))
    (evIt_of1 (d := .lst .fz (ms.map dM)) (by simp) (by simp) (by simp)) (by simp) ⟨[], none, none, none, rfl, rfl, fun p hp => by cases hp⟩ ?_ ?_
  · rintro i m ρ hx ⟨ps, o3, o4, o5, rfl, hl, hp⟩ N B R hN - -
    have hil := (List.getElem?_eq_some_iff.mp hx).1
    have hm' := List.mem_of_getElem? hx
    have s6 := big5 (ps.length + 1) (by omega)
    have s7 : ps.length < sizeLine := by omega
    have c4 : ∀ o4 o5, ev (PhiN T gv (n - 1)) gv (.comp [6] (.var 6) (.nm 6) (.of (.var 2)) [(.call j_law_keeps [(.var 0), (.slc (.var 6) [] [(.int 2)]), (.var 3)])]) [some (.lst .fz (its.map It8.D)), some (.lst .fz (ms.map dM)), some (.lst .ow (ps.map dP)), some (dM m), o4, o5, none] = .ok (.lst .ow ((ps.filter fun q => keepsL its q.m m).map dP)) := fun o4 o5 =>
      ev_compF (xs := ps) (en := dP) (b := false) (f := dP) (p := fun q => keepsL its q.m m) (by simp) (big5 _ (by omega)) fun q hq => by
        simp [wipeD, slc_P, ck]
        cases keepsL its q.m m <;> rfl
    have c5 : ∀ (k : Nat) o5, ev (PhiN T gv (n - 1)) gv (.comp [6] (.var 6) (.nm 6) (.of (.var 2)) [(.and (.cmp .eq (.slc (.var 6) [] [(.int 2)]) (.var 3)) (.cmp .eq (.idx (.var 6) (.int 2)) (.var 4)))]) [some (.lst .fz (its.map It8.D)), some (.lst .fz (ms.map dM)), some (.lst .ow (ps.map dP)), some (dM m), some (.int (k : Int)), o5, none] = .ok (.lst .ow ((ps.filter fun q => decide (q.m = m) && decide (q.ah = (k : Int))).map dP)) := fun k o5 =>
      ev_compF (xs := ps) (en := dP) (b := false) (f := dP) (p := fun q => decide (q.m = m) && decide (q.ah = (k : Int))) (by simp) (big5 _ (by omega)) fun q hq => by
        have e : cmpB .eq (dM q.m) (dM m) = some (decide (q.m = m)) := by
          rw [cmp_eq8 dM_fl dM_fl]
          congr 1
          exact bool_of (by rw [eqb_iff, decide_eq_true_iff]; exact ⟨dM_inj, fun h => by rw [h]⟩)
        simp [wipeD, slc_P, e]
        by_cases h1 : q.m = m <;> simp [h1]
        by_cases h2 : q.ah = (k : Int) <;> simp [h2]
    have l4 := List.length_filter_le (fun q => keepsL its q.m m) ps
    have l5 := List.length_filter_le (fun q : Pc => decide (q.m = m) && decide (q.ah = (((ps.filter fun q => keepsL its q.m m).length : Nat) : Int))) ps
    have d0 : idxD (dM m) (.int 0) = .ok (.str m.1.1) := by simp [dM]
    have d1 : idxD (dM m) (.int 1) = .ok (.int m.2) := by simp [dM]
    have fin : (bindC (.nm 3) (dM m) [some (.lst .fz (its.map It8.D)), some (.lst .fz (ms.map dM)), some (.lst .ow (ps.map dP)), o3, o4, o5, none]).seq (fun ρ' => runs (PhiN T gv (n - 1)) gv [] [(.set (.nm 4) (.bi .len [(.comp [6] (.var 6) (.nm 6) (.of (.var 2)) [(.call j_law_keeps [(.var 0), (.slc (.var 6) [] [(.int 2)]), (.var 3)])])])), (.set (.nm 5) (.bi .len [(.comp [6] (.var 6) (.nm 6) (.of (.var 2)) [(.and (.cmp .eq (.slc (.var 6) [] [(.int 2)]) (.var 3)) (.cmp .eq (.idx (.var 6) (.int 2)) (.var 4)))])])), (.app 2 [] (.tup [(.idx (.var 3) (.int 0)), (.idx (.var 3) (.int 1)), (.var 4), (.var 5)]))] ρ')
      = .nx [some (.lst .fz (its.map It8.D)), some (.lst .fz (ms.map dM)), some (.lst .ow ((ps ++ [(⟨m, ((ps.filter fun q => keepsL its q.m m).length : Nat), ((ps.filter fun q => decide (q.m = m) && decide (q.ah = (((ps.filter fun q => keepsL its q.m m).length : Nat) : Int))).length : Nat)⟩ : Pc)]).map dP)), some (dM m), some (.int ((ps.filter fun q => keepsL its q.m m).length : Nat)), some (.int ((ps.filter fun q => decide (q.m = m) && decide (q.ah = (((ps.filter fun q => keepsL its q.m m).length : Nat) : Int))).length : Nat)), none] := by
      simp only [bindC_nm, dM_nv, if_true, List.length_cons, List.length_nil, List.set_cons_succ, List.set_cons_zero]
      rw [if_pos (by omega), seq_nx, runs_cons, run_set, ev_bi, evs_cons, c4]
      simp only [evs_nil, Out.bind_ok, bi_lenL, List.length_map, cleanK_ok, nv_int, if_true, bindC_nm, List.length_cons, List.length_nil, List.set_cons_succ, List.set_cons_zero]
      rw [if_pos (by omega), seq_nx, runs_cons, run_set, ev_bi, evs_cons, c5]
      simp only [evs_nil, Out.bind_ok, bi_lenL, List.length_map, cleanK_ok, nv_int, if_true, bindC_nm, List.length_cons, List.length_nil, List.set_cons_succ, List.set_cons_zero]
      rw [if_pos (by omega), seq_nx, runs_cons, run_app]
      simp [runs_nil, d0, d1, z4, appK, s7, dP]
    rw [fin]
    refine hN _ ⟨_, _, _, _, rfl, by simp [hl], ?_⟩
    intro p hpm
    rw [List.mem_append, List.mem_singleton] at hpm
    rcases hpm with hpm | rfl
    · exact hp p hpm
    · exact ⟨hm', by simp only; omega, by simp only; omega, by simp only; omega, by simp only; omega⟩
  · rintro ρ ⟨ps, o3, o4, o5, rfl, hl, hp⟩
    refine ⟨ps, hl, hp, ?_⟩
    simp [runs_cons, runs_nil, run_rtv]
end K

set_option Elab.async false
set_option linter.all false
set_option maxRecDepth 100000
set_option maxHeartbeats 1000000
/-! Me: mixed parcels, and wild ones. -/
namespace K
open PySem PySem.Spec PyProof.Rows L2 Pu
theorem eraseIdx_map' {α β : Type} {f : α → β} : ∀ {xs : List α} {k : Nat}, (xs.map f).eraseIdx k = (xs.eraseIdx k).map f
  | [], _ => rfl
  | x :: xs, 0 => rfl
  | x :: xs, k + 1 => by simp only [List.map_cons, List.eraseIdx_cons_succ, eraseIdx_map']
theorem phi_mixed {n : Nat} (hn : 1 ≤ n) {ps : List Pc} {xs : List Nat} (hx : 0 < xs.length) (hp : ps.length ≤ 100) : ∃ qs : List Pc, qs.length ≤ 2 * ps.length ∧ (∀ q ∈ qs, q ∈ ps) ∧ PhiN T gv n j_law_mixed [.lst .fz (ps.map dP), .lst .fz (xs.map dI)] = .ok (.lst .ow (qs.map dP), []) := by
  rw [upE (by omega) rfl rfl]
  show ∃ qs : List Pc, _ ∧ _ ∧ fnEnd [] (runs _ _ [] b_law_mixed [some (.lst .fz (ps.map dP)), some (.lst .fz (xs.map dI)), none, none, none]) = _
  have z0 := big5 0 (by omega)
  have s1 : run1 (PhiN T gv (n - 1)) gv [] (.set (.nm 2) (.bi .list [(.var 0)])) [some (.lst .fz (ps.map dP)), some (.lst .fz (xs.map dI)), none, none, none] = .nx [some (.lst .fz (ps.map dP)), some (.lst .fz (xs.map dI)), some (.lst .ow (ps.map dP)), none, none] := by
    simp [run_set]
  have s2 : run1 (PhiN T gv (n - 1)) gv [] (.set (.nm 3) (.lst [])) [some (.lst .fz (ps.map dP)), some (.lst .fz (xs.map dI)), some (.lst .ow (ps.map dP)), none, none] = .nx [some (.lst .fz (ps.map dP)), some (.lst .fz (xs.map dI)), some (.lst .ow (ps.map dP)), some (.lst .ow []), none] := by
    simp [run_set]
  rw [b_law_mixed, runs_cons, s1, seq_nx, runs_cons, s2, seq_nx, runs_cons]
  refine q_frR (fun o => ∃ qs : List Pc, qs.length ≤ 2 * ps.length ∧ (∀ q ∈ qs, q ∈ ps) ∧ o = .ok (.lst .ow (qs.map dP), [])) (n := ps.length) (fun i ρ => ∃ (ls qs : List Pc) (o4 : Option Pu.D), ρ = [some (.lst .fz (ps.map dP)), some (.lst .fz (xs.map dI)), some (.lst .ow (ls.map dP)), some (.lst .ow (qs.map dP)), o4] ∧ ls.length + i = ps.length ∧ qs.length ≤ 2 * i ∧ (∀ q ∈ qs, q ∈ ps) ∧ ∀ q ∈ ls, q ∈ ps)
    (evIt_rngE (n := ps.length) (by simp) (by omega)) ⟨ps, [], none, rfl, rfl, by simp, (fun _ h => by cases h), fun _ h => h⟩ ?_ ?_
  · rintro i ρ hil ⟨ls, qs, o4, rfl, hl, hq, hqm, hlm⟩ N B R hN - -
    have hlp : 0 < ls.length := by omega
    have hm1 : (i % xs.length) < xs.length := Nat.mod_lt _ hx
    have hk : nth xs (i % xs.length) % ls.length < ls.length := Nat.mod_lt _ hlp
    have e1 : (i : Int) % (xs.length : Int) = ((i % xs.length : Nat) : Int) := by omega
    have e2 : ((nth xs (i % xs.length) : Nat) : Int) % (ls.length : Int) = ((nth xs (i % xs.length) % ls.length : Nat) : Int) := by omega
    have hxi : (0 : Int) < (xs.length : Int) := by omega
    have hli : (0 : Int) < (ls.length : Int) := by omega
    have hne : xs ≠ [] := List.length_pos_iff.mp hx
    have hnl : ls ≠ [] := List.length_pos_iff.mp hlp
    have a1 : ∀ (j : Nat), atI (xs.map dI) ((j % xs.length : Nat) : Int) = some (.int ((nth xs (j % xs.length) : Nat) : Int)) := fun j => rowAt (Nat.mod_lt _ hx) rfl
    obtain ⟨x, hxk⟩ : ∃ x, ls[nth xs (i % xs.length) % ls.length]? = some x := ⟨_, List.getElem?_eq_getElem hk⟩
    have hxm : x ∈ ps := hlm x (List.mem_of_getElem? hxk)
    have b1 := big5 (qs.length + 2) (by omega)
    simp only [bindC_nm, nv_int, if_true, List.length_cons, List.length_nil, List.set_cons_succ, List.set_cons_zero]
    rw [if_pos (by omega), seq_nx, runs_cons]
    rw [run_appPop (i := 3) (j := 2) (k := nth xs (i % xs.length) % ls.length) (xs := qs.map dP) (ys := ls.map dP) (y := dP x) rfl rfl (by decide)
      (by simp [e1, e2, hne, hnl, hlp, hx, a1, -Int.natCast_emod]) (by rw [List.getElem?_map, hxk]; rfl) (by rw [List.length_map]; omega) (by omega), seq_nx, runs_cons, run_ite]
    simp only [List.set_cons_succ, List.set_cons_zero, eraseIdx_map']
    have q1 : qs.map dP ++ [dP x] = (qs ++ [x]).map dP := by simp
    rw [q1]
    have hel : (ls.eraseIdx (nth xs (i % xs.length) % ls.length)).length + (i + 1) = ps.length := by
      rw [List.length_eraseIdx_of_lt hk]; omega
    have hem : ∀ q ∈ ls.eraseIdx (nth xs (i % xs.length) % ls.length), q ∈ ps := fun q h => hlm q ((List.eraseIdx_sublist _ _).subset h)
    have hqm' : ∀ q ∈ qs ++ [x], q ∈ ps := fun q h => by
      rw [List.mem_append, List.mem_singleton] at h
      rcases h with h | rfl
      · exact hqm q h
      · exact hxm
    generalize ls.eraseIdx (nth xs (i % xs.length) % ls.length) = L at *
    have hQ : (qs ++ [x]).length = qs.length + 1 := by simp
    have hQn : qs ++ [x] ≠ [] := by simp
    generalize qs ++ [x] = Q at *
    have e7 : ((i : Int) + 7) % (xs.length : Int) = (((i + 7) % xs.length : Nat) : Int) := by rw [Int.natCast_emod, Int.natCast_add]; rfl
    have e3 : ((i : Int) + 3) % (xs.length : Int) = (((i + 3) % xs.length : Nat) : Int) := by rw [Int.natCast_emod, Int.natCast_add]; rfl
    have t : ((ev (PhiN T gv (n - 1)) gv (.cmp .eq (.bin .mod (.idx (.var 1) (.bin .mod (.bin .add (.var 4) (.int 7)) (.bi .len [(.var 1)]))) (.int 4)) (.int 0)) [some (.lst .fz (ps.map dP)), some (.lst .fz (xs.map dI)), some (.lst .ow (L.map dP)), some (.lst .ow (Q.map dP)), some (.int (i : Int))]).bind fun d => Out.ofo (truD d)) = .ok (decide (((nth xs ((i + 7) % xs.length) : Nat) : Int) % 4 = 0)) := by
      simp [e7, hne, hx, a1, Out.ofo, -Int.natCast_emod]
    rw [t, re_ok']
    by_cases c : ((nth xs ((i + 7) % xs.length) : Nat) : Int) % 4 = 0
    · rw [if_pos (by simp [c])]
      have hQp : 0 < Q.length := by omega
      have hk2 : nth xs ((i + 3) % xs.length) % Q.length < Q.length := Nat.mod_lt _ hQp
      have e4 : ((nth xs ((i + 3) % xs.length) : Nat) : Int) % (Q.length : Int) = ((nth xs ((i + 3) % xs.length) % Q.length : Nat) : Int) := by omega
      obtain ⟨y, hy⟩ : ∃ y, Q[nth xs ((i + 3) % xs.length) % Q.length]? = some y := ⟨_, List.getElem?_eq_getElem hk2⟩
      have hs : Q.length < sizeLine := by omega
      have hv : ev (PhiN T gv (n - 1)) gv (.idx (.var 3) (.bin .mod (.idx (.var 1) (.bin .mod (.bin .add (.var 4) (.int 3)) (.bi .len [(.var 1)]))) (.bi .len [(.var 3)]))) [some (.lst .fz (ps.map dP)), some (.lst .fz (xs.map dI)), some (.lst .ow (L.map dP)), some (.lst .ow (Q.map dP)), some (.int (i : Int))] = .ok (dP y) := by
        simp [e3, e4, hne, hx, hQp, hQn, a1, atI_n, hy, -Int.natCast_emod]
      rw [runs_cons, run_app, hv, cleanO_ok, if_pos (by simp)]
      simp only [appK, List.getElem?_cons_succ, List.getElem?_cons_zero, List.length_map, hs, if_true, seq_nx, runs_nil, List.set_cons_succ, List.set_cons_zero, St_nx]
      refine hN _ ⟨L, Q ++ [y], _, by simp; rfl, hel, by rw [List.length_append, List.length_singleton]; omega, ?_, hem⟩
      intro q h
      rw [List.mem_append, List.mem_singleton] at h
      rcases h with h | rfl
      · exact hqm' q h
      · exact hqm' _ (List.mem_of_getElem? hy)
    · rw [if_neg (by simp [c]), runs_nil, seq_nx, runs_nil, St_nx]
      exact hN _ ⟨L, Q, _, rfl, hel, by omega, hqm', hem⟩
  · rintro ρ ⟨ls, qs, o4, rfl, hl, hq, hqm, hlm⟩
    refine ⟨qs, by omega, hqm, ?_⟩
    simp [runs_cons, runs_nil, run_rtv]
end K

set_option Elab.async false
set_option linter.all false
set_option maxRecDepth 100000
set_option maxHeartbeats 1000000
/-! Mf: some parcels. -/
namespace K
open PySem PySem.Spec PyProof.Rows L2 Pu
abbrev wlT : Ex := .tup [(.var 7), (.bin .sub (.bin .mod (.idx (.var 3) (.bin .add (.int 38) (.var 5))) (.int 4)) (.int 1)), (.bin .mod (.idx (.var 3) (.bin .add (.int 42) (.var 5))) (.int 4)), (.bin .mod (.bin .fdiv (.idx (.var 3) (.bin .add (.int 38) (.var 5))) (.int 4)) (.int 2))]
abbrev wlN : Ex := .bin .sub (.bin .mod (.bi .int [(.bin .add (.bin .mul (.idx (.var 3) (.bin .add (.int 38) (.var 5))) (.int 2389)) (.idx (.var 3) (.bin .add (.int 42) (.var 5))))]) (.int 2000001)) (.int 1000000)
abbrev wlU : Ex := .tup [(.var 7), (.var 9), (.bin .mod (.bi .int [(.bin .add (.bin .mul (.idx (.var 3) (.bin .add (.int 42) (.var 5))) (.int 7)) (.var 5))]) (.int 1001)), (.bin .mod (.bi .int [(.bin .mul (.idx (.var 3) (.bin .add (.int 38) (.var 5))) (.int 3))]) (.int 1001))]
theorem phi_some_parcels {n : Nat} (hn : 5 ≤ n) {c : Int} {ns : List OkS} {its : List It8} (h : Drawn ns its) : ∃ ps : List Pc, ps.length ≤ 40 ∧ (∀ p ∈ ps, Good ns p) ∧ PhiN T gv n j_law_some_parcels [.int c, .lst .fz (ns.map dW), .lst .fz (its.map It8.D)] = .ok (.lst .ow (ps.map dP), []) := by
  obtain ⟨d1, d2, d3, d4, d5, d6, d7⟩ := h
  have nm : ∀ w ∈ ns, (chs w).length ≤ 20 := fun w hw => by have := (d4 w hw).1; omega
  rw [upE (by omega) rfl rfl]
  show ∃ ps : List Pc, _ ∧ _ ∧ fnEnd [] (runs _ _ [] b_law_some_parcels [some (.int c), some (.lst .fz (ns.map dW)), some (.lst .fz (its.map It8.D)), none, none, none, none, none, none, none]) = _
  obtain ⟨row, hr, e1⟩ : ∃ xs, IsRow xs 50 ∧ callD (PhiN T gv (n - 1)) j_law_row [.int c, .int 50] = .ok (.lst .ow (xs.map dI)) := call_row (n := n - 1) (by omega) c 50 (by omega)
  obtain ⟨hrl, hrx⟩ := hr
  have X : ∀ k : Nat, k < 50 → atI (row.map dI) (k : Int) = some (.int ((nth row k : Nat) : Int)) := fun k hk => rowAt (by omega) rfl
  have x46 : atI (row.map dI) 46 = some (.int ((nth row 46 : Nat) : Int)) := X 46 (by omega)
  have x47 : atI (row.map dI) 47 = some (.int ((nth row 47 : Nat) : Int)) := X 47 (by omega)
  have x48 : atI (row.map dI) 48 = some (.int ((nth row 48 : Nat) : Int)) := X 48 (by omega)
  have x49 : atI (row.map dI) 49 = some (.int ((nth row 49 : Nat) : Int)) := X 49 (by omega)
  have hb : ∀ k, k < 50 → nth row k < 840 := fun k hk => hrx _ (List.mem_of_getElem? (get_nth (by omega)))
  -- the first ones
  have hk15 : nth row 49 % 15 < 15 := Nat.mod_lt _ (by omega)
  have tl : (row.take (nth row 49 % 15)).length ≤ 14 := by rw [List.length_take]; omega
  obtain ⟨ms, m1, m2, m3⟩ := phi_letters (n := n - 1) (by omega) (xs := row.take (nth row 49 % 15)) (ns := ns) (by omega) (fun x hx => hrx x (List.mem_of_mem_take hx)) d1
  have m3' : callD (PhiN T gv (n - 1)) j_law_letters [.lst .ow ((row.take (nth row 49 % 15)).map dI), .lst .fz (ns.map dW)] = .ok (.lst .ow (ms.map dM)) := callD_va (by simpa [-List.map_take, -List.map_drop] using m3) (by simp)
  obtain ⟨ps0, p1, p2, p3⟩ := phi_parcels (n := n - 1) (by omega) (its := its) (ms := ms) (by omega) (by omega)
  have p3' : callD (PhiN T gv (n - 1)) j_law_parcels [.lst .fz (its.map It8.D), .lst .ow (ms.map dM)] = .ok (.lst .ow (ps0.map dP)) := callD_va (by simpa using p3) (by simp)
  have dl : ((row.drop 15).take 15).length = 15 := by rw [List.length_take, List.length_drop]; omega
  obtain ⟨qs0, q1, q2, q3⟩ := phi_mixed (n := n - 1) (by omega) (ps := ps0) (xs := (row.drop 15).take 15) (by omega) (by omega)
  have q3' : callD (PhiN T gv (n - 1)) j_law_mixed [.lst .ow (ps0.map dP), .lst .ow (((row.drop 15).take 15).map dI)] = .ok (.lst .ow (qs0.map dP)) := callD_va (by simpa [-List.map_take, -List.map_drop] using q3) (by simp)
  have g0 : ∀ q ∈ qs0, Good ns q := fun q hq => by
    obtain ⟨a1, a2, a3, a4, a5⟩ := p2 q (q2 q hq)
    obtain ⟨b1, b2, b3⟩ := m2 _ a1
    exact ⟨b1, nm _ b1, b2, b3, a2, by omega, a4, by omega⟩
  have l0 : qs0.length ≤ 28 := by omega
  have c15 : cutD (row.map dI) none (some (((nth row 49 : Nat) : Int) % 15)) = (row.take (nth row 49 % 15)).map dI := by
    rw [show ((nth row 49 : Nat) : Int) % 15 = ((nth row 49 % 15 : Nat) : Int) by omega, cut_to, List.map_take]
  have c30 : cutD (row.map dI) (some 15) (some 30) = ((row.drop 15).take 15).map dI := by
    rw [show (15 : Int) = ((15 : Nat) : Int) from rfl, show (30 : Int) = ((30 : Nat) : Int) from rfl, cut_mid, List.map_take, List.map_drop]
  have s1 : run1 (PhiN T gv (n - 1)) gv [] (.set (.nm 3) (.call j_law_row [(.var 0), (.int 50)])) [some (.int c), some (.lst .fz (ns.map dW)), some (.lst .fz (its.map It8.D)), none, none, none, none, none, none, none] = .nx [some (.int c), some (.lst .fz (ns.map dW)), some (.lst .fz (its.map It8.D)), some (.lst .ow (row.map dI)), none, none, none, none, none, none] := by
    simp [run_set, e1]
  have s2 : run1 (PhiN T gv (n - 1)) gv [] (.set (.nm 4) (.call j_law_mixed [(.call j_law_parcels [(.var 2), (.call j_law_letters [(.slc (.var 3) [] [(.bin .mod (.idx (.var 3) (.int 49)) (.int 15))]), (.var 1)])]), (.slc (.var 3) [(.int 15)] [(.int 30)])])) [some (.int c), some (.lst .fz (ns.map dW)), some (.lst .fz (its.map It8.D)), some (.lst .ow (row.map dI)), none, none, none, none, none, none] = .nx [some (.int c), some (.lst .fz (ns.map dW)), some (.lst .fz (its.map It8.D)), some (.lst .ow (row.map dI)), some (.lst .ow (qs0.map dP)), none, none, none, none, none] := by
    simp [run_set, x49, c15, m3', p3', c30, q3', -List.map_take, -List.map_drop]
  rw [b_law_some_parcels, runs_cons, s1, seq_nx, runs_cons, s2, seq_nx, runs_cons]
  have k48 : nth row 48 % 4 < 4 := Nat.mod_lt _ (by omega)
  refine q_frR (fun o => ∃ ps : List Pc, ps.length ≤ 40 ∧ (∀ p ∈ ps, Good ns p) ∧ o = .ok (.lst .ow (ps.map dP), [])) (n := nth row 48 % 4) (fun i ρ => ∃ (qs : List Pc) (o5 o6 o7 o8 o9 : Option Pu.D), ρ = [some (.int c), some (.lst .fz (ns.map dW)), some (.lst .fz (its.map It8.D)), some (.lst .ow (row.map dI)), some (.lst .ow (qs.map dP)), o5, o6, o7, o8, o9] ∧ qs.length ≤ 28 + i ∧ ∀ q ∈ qs, Good ns q)
    (evIt_rngE (n := nth row 48 % 4) (by simp [x48]) (by omega)) ⟨qs0, _, _, _, _, _, rfl, by omega, g0⟩ ?_ ?_
  · rintro i ρ hil ⟨qs, o5, o6, o7, o8, o9, rfl, hl, hg⟩ N B R hN - -
    have y30 : atI (row.map dI) (30 + (i : Int)) = some (.int ((nth row (30 + i) : Nat) : Int)) := X (30 + i) (by omega)
    have y34 : atI (row.map dI) (34 + (i : Int)) = some (.int ((nth row (34 + i) : Nat) : Int)) := X (34 + i) (by omega)
    have y38 : atI (row.map dI) (38 + (i : Int)) = some (.int ((nth row (38 + i) : Nat) : Int)) := X (38 + i) (by omega)
    have y42 : atI (row.map dI) (42 + (i : Int)) = some (.int ((nth row (42 + i) : Nat) : Int)) := X (42 + i) (by omega)
    have b38 := hb (38 + i) (by omega)
    have b42 := hb (42 + i) (by omega)
    generalize nth row (30 + i) = r30 at *
    generalize nth row (34 + i) = r34 at *
    generalize nth row (38 + i) = r38 at *
    generalize nth row (42 + i) = r42 at *
    have hw : r34 % ns.length < ns.length := Nat.mod_lt _ (by omega)
    have hwm : nth ns (r34 % ns.length) ∈ ns := List.mem_of_getElem? (get_nth hw)
    have ew : atI (ns.map dW) ((r34 : Int) % (ns.length : Int)) = some (dW (nth ns (r34 % ns.length))) := by
      rw [show (r34 : Int) % (ns.length : Int) = ((r34 % ns.length : Nat) : Int) by omega, atI_n, List.getElem?_map, get_nth hw]; rfl
    generalize nth ns (r34 % ns.length) = w at *
    have hne : ns ≠ [] := fun z => by rw [z] at d1; simp at d1
    have ek : (r30 : Int) % ((qs.length : Int) + 1) = ((r30 % (qs.length + 1) : Nat) : Int) := by rw [Int.natCast_emod, Int.natCast_add]; rfl
    have hql : (0 : Int) < (qs.length : Int) + 1 := by omega
    generalize r30 % (qs.length + 1) = k at *
    have z4 := big5 4 (by omega)
    have z1 := big5 1 (by omega)
    have zz : ∀ j, j ≤ 1000 → j ≤ sizeLine := fun j h => big5 j h
    simp only [bindC_nm, nv_int, if_true, List.length_cons, List.length_nil, List.set_cons_succ, List.set_cons_zero]
    rw [if_pos (by omega), seq_nx, runs_cons]
    have t1 : ∀ o6 o7 o8 o9, run1 (PhiN T gv (n - 1)) gv [] (.set (.nm 6) (.bin .mod (.idx (.var 3) (.bin .add (.int 30) (.var 5))) (.bin .add (.bi .len [(.var 4)]) (.int 1)))) [some (.int c), some (.lst .fz (ns.map dW)), some (.lst .fz (its.map It8.D)), some (.lst .ow (row.map dI)), some (.lst .ow (qs.map dP)), some (.int (i : Int)), o6, o7, o8, o9] = .nx [some (.int c), some (.lst .fz (ns.map dW)), some (.lst .fz (its.map It8.D)), some (.lst .ow (row.map dI)), some (.lst .ow (qs.map dP)), some (.int (i : Int)), some (.int (k : Int)), o7, o8, o9] := fun o6 o7 o8 o9 => by
      simp [run_set, y30, hql, ek]
    have t2 : ∀ o7 o8 o9, run1 (PhiN T gv (n - 1)) gv [] (.set (.nm 7) (.idx (.var 1) (.bin .mod (.idx (.var 3) (.bin .add (.int 34) (.var 5))) (.bi .len [(.var 1)])))) [some (.int c), some (.lst .fz (ns.map dW)), some (.lst .fz (its.map It8.D)), some (.lst .ow (row.map dI)), some (.lst .ow (qs.map dP)), some (.int (i : Int)), some (.int (k : Int)), o7, o8, o9] = .nx [some (.int c), some (.lst .fz (ns.map dW)), some (.lst .fz (its.map It8.D)), some (.lst .ow (row.map dI)), some (.lst .ow (qs.map dP)), some (.int (i : Int)), some (.int (k : Int)), some (dW w), o8, o9] := fun o7 o8 o9 => by
      simp [run_set, y34, hne, ew]
    have t3 : ∀ o8 o9, run1 (PhiN T gv (n - 1)) gv [] (.set (.nm 8) wlT) [some (.int c), some (.lst .fz (ns.map dW)), some (.lst .fz (its.map It8.D)), some (.lst .ow (row.map dI)), some (.lst .ow (qs.map dP)), some (.int (i : Int)), some (.int (k : Int)), some (dW w), o8, o9] = .nx [some (.int c), some (.lst .fz (ns.map dW)), some (.lst .fz (its.map It8.D)), some (.lst .ow (row.map dI)), some (.lst .ow (qs.map dP)), some (.int (i : Int)), some (.int (k : Int)), some (dW w), some (dP ⟨(w, (r38 : Int) % 4 - 1), (r42 : Int) % 4, (r38 : Int) / 4 % 2⟩), o9] := fun o8 o9 => by
      simp [wlT, run_set, y38, y42, z4, dP, dW]
    have t4 : ∀ o8 o9, run1 (PhiN T gv (n - 1)) gv [] (.set (.nm 9) wlN) [some (.int c), some (.lst .fz (ns.map dW)), some (.lst .fz (its.map It8.D)), some (.lst .ow (row.map dI)), some (.lst .ow (qs.map dP)), some (.int (i : Int)), some (.int (k : Int)), some (dW w), o8, o9] = .nx [some (.int c), some (.lst .fz (ns.map dW)), some (.lst .fz (its.map It8.D)), some (.lst .ow (row.map dI)), some (.lst .ow (qs.map dP)), some (.int (i : Int)), some (.int (k : Int)), some (dW w), o8, some (.int (((r38 : Int) * 2389 + (r42 : Int)) % 2000001 - 1000000))] := fun o8 o9 => by
      simp [wlN, run_set, y38, y42, bin_mulI]
    have t5 : ∀ o8 (v : Int), run1 (PhiN T gv (n - 1)) gv [] (.set (.nm 8) wlU) [some (.int c), some (.lst .fz (ns.map dW)), some (.lst .fz (its.map It8.D)), some (.lst .ow (row.map dI)), some (.lst .ow (qs.map dP)), some (.int (i : Int)), some (.int (k : Int)), some (dW w), o8, some (.int v)] = .nx [some (.int c), some (.lst .fz (ns.map dW)), some (.lst .fz (its.map It8.D)), some (.lst .ow (row.map dI)), some (.lst .ow (qs.map dP)), some (.int (i : Int)), some (.int (k : Int)), some (dW w), some (dP ⟨(w, v), ((r42 : Int) * 7 + (i : Int)) % 1001, (r38 : Int) * 3 % 1001⟩), some (.int v)] := fun o8 v => by
      simp [wlU, run_set, y38, y42, z4, dP, dW, bin_mulI]
    have t6 : ∀ (p : Pc) o9, run1 (PhiN T gv (n - 1)) gv [] (.set (.nm 4) (.bin .add (.bin .add (.slc (.var 4) [] [(.var 6)]) (.lst [(.var 8)])) (.slc (.var 4) [(.var 6)] []))) [some (.int c), some (.lst .fz (ns.map dW)), some (.lst .fz (its.map It8.D)), some (.lst .ow (row.map dI)), some (.lst .ow (qs.map dP)), some (.int (i : Int)), some (.int (k : Int)), some (dW w), some (dP p), o9] = .nx [some (.int c), some (.lst .fz (ns.map dW)), some (.lst .fz (its.map It8.D)), some (.lst .ow (row.map dI)), some (.lst .ow ((qs.take k ++ p :: qs.drop k).map dP)), some (.int (i : Int)), some (.int (k : Int)), some (dW w), some (dP p), o9] := fun p o9 => by
      have a1 : (qs.take k).length + 1 ≤ sizeLine := zz _ (by rw [List.length_take]; omega)
      have a2 : (qs.take k).length + (1 + (qs.drop k).length) ≤ sizeLine := zz _ (by rw [List.length_take, List.length_drop]; omega)
      have a3 : (qs.take k).length + 1 + (qs.drop k).length ≤ sizeLine := zz _ (by rw [List.length_take, List.length_drop]; omega)
      simp only [List.length_take, List.length_drop] at a1 a2 a3
      simp [run_set, z1, a1, a2, a3, ← List.map_take, ← List.map_drop]
    have done : ∀ (p : Pc) o9, Good ns p → N [some (.int c), some (.lst .fz (ns.map dW)), some (.lst .fz (its.map It8.D)), some (.lst .ow (row.map dI)), some (.lst .ow ((qs.take k ++ p :: qs.drop k).map dP)), some (.int (i : Int)), some (.int (k : Int)), some (dW w), some (dP p), o9] := fun p o9 hp => by
      refine hN _ ⟨_, _, _, _, _, _, rfl, ?_, ?_⟩
      · rw [List.length_append, List.length_cons, List.length_take, List.length_drop]; omega
      · intro q hq
        rw [List.mem_append, List.mem_cons] at hq
        rcases hq with hq | rfl | hq
        · exact hg q (List.mem_of_mem_take hq)
        · exact hp
        · exact hg q (List.mem_of_mem_drop hq)
    rw [t1, seq_nx, runs_cons, t2, seq_nx, runs_cons]
    rw [t3 o8 o9, seq_nx, runs_cons, run_ite]
    have t : ∀ o8, ((ev (PhiN T gv (n - 1)) gv (.cmp .eq (.bin .mod (.idx (.var 3) (.int 46)) (.int 3)) (.int 1)) [some (.int c), some (.lst .fz (ns.map dW)), some (.lst .fz (its.map It8.D)), some (.lst .ow (row.map dI)), some (.lst .ow (qs.map dP)), some (.int (i : Int)), some (.int (k : Int)), some (dW w), o8, o9]).bind fun d => Out.ofo (truD d)) = .ok (decide (((nth row 46 : Nat) : Int) % 3 = 1)) := fun o8 => by
      simp [x46, Out.ofo]
    rw [t, re_ok']
    by_cases q : ((nth row 46 : Nat) : Int) % 3 = 1
    · rw [if_pos (by simp [q]), runs_cons]
      rw [t4 _ o9, seq_nx, runs_cons]
      rw [t5 _ _, seq_nx, runs_nil, seq_nx, runs_cons, t6, seq_nx, runs_nil, St_nx]
      exact done _ _ ⟨hwm, nm _ hwm, by simp only; omega, by simp only; omega, by simp only; omega, by simp only; omega, by simp only; omega, by simp only; omega⟩
    · rw [if_neg (by simp [q]), runs_nil, seq_nx, runs_cons, t6, seq_nx, runs_nil, St_nx]
      exact done _ _ ⟨hwm, nm _ hwm, by simp only; omega, by simp only; omega, by simp only; omega, by simp only; omega, by simp only; omega, by simp only; omega⟩
  · rintro ρ ⟨qs, o5, o6, o7, o8, o9, rfl, hl, hg⟩
    have t : ((ev (PhiN T gv (n - 1)) gv (.cmp .eq (.bin .mod (.idx (.var 3) (.int 47)) (.int 3)) (.int 0)) [some (.int c), some (.lst .fz (ns.map dW)), some (.lst .fz (its.map It8.D)), some (.lst .ow (row.map dI)), some (.lst .ow (qs.map dP)), o5, o6, o7, o8, o9]).bind fun d => Out.ofo (truD d)) = .ok (decide (((nth row 47 : Nat) : Int) % 3 = 0)) := by
      simp [x47, Out.ofo]
    rw [runs_cons, run_ite, t, re_ok']
    by_cases q : ((nth row 47 : Nat) : Int) % 3 = 0
    · rw [if_pos (by simp [q]), runs_cons]
      have z := ev_compF (Φ := PhiN T gv (n - 1)) (gv := gv) (own := [5]) (e := .idx (.var 4) (.var 5)) (tg := .nm 5) (it := .rng [(.bi .len [(.var 4)])]) (ρ := [some (.int c), some (.lst .fz (ns.map dW)), some (.lst .fz (its.map It8.D)), some (.lst .ow (row.map dI)), some (.lst .ow (qs.map dP)), o5, o6, o7, o8, o9]) (cs := [(.cmp .gt (.bin .mod (.idx (.var 3) (.bin .mod (.var 5) (.int 47))) (.int 4)) (.int 0))]) (f := fun p => dP p.1) (p := fun p => decide (0 < ((nth row (p.2 % 47) : Nat) : Int) % 4)) (xs := qs.zipIdx) (en := fun p => .int (p.2 : Int)) (b := true)
        (evIt_zip (by simp) (by omega)) (by simp; exact big5 _ (by omega)) (fun p hp => by
          have hk := zip_mem hp
          have y : atI (row.map dI) ((p.2 : Int) % 47) = some (.int ((nth row (p.2 % 47) : Nat) : Int)) := X (p.2 % 47) (by omega)
          simp only [wipeD, List.foldr, List.set, bindTg_nm, List.length_cons, List.length_nil]
          simp [y, atI_n, hk]
          split <;> rfl)
      refine ⟨(qs.zipIdx.filter fun p => decide (0 < ((nth row (p.2 % 47) : Nat) : Int) % 4)).map (·.1), ?_, ?_, ?_⟩
      · have := List.length_filter_le (fun p : Pc × Nat => decide (0 < ((nth row (p.2 % 47) : Nat) : Int) % 4)) qs.zipIdx
        rw [List.length_map]
        rw [List.length_zipIdx] at this
        omega
      · intro p hp
        obtain ⟨x, hx, rfl⟩ := List.mem_map.mp hp
        exact hg _ (List.mem_of_getElem? (zip_mem (List.mem_filter.mp hx).1))
      · rw [run_set, z]
        have e : ((qs.zipIdx.filter fun p => decide (0 < ((nth row (p.2 % 47) : Nat) : Int) % 4)).map fun p => dP p.1) = ((qs.zipIdx.filter fun p => decide (0 < ((nth row (p.2 % 47) : Nat) : Int) % 4)).map (·.1)).map dP := by rw [List.map_map]; rfl
        rw [e]
        generalize (qs.zipIdx.filter fun p => decide (0 < ((nth row (p.2 % 47) : Nat) : Int) % 4)).map (·.1) = L
        simp [runs_cons, runs_nil, run_rtv]
    · rw [if_neg (by simp [q]), runs_nil, seq_nx]
      refine ⟨qs, by omega, hg, ?_⟩
      simp [runs_cons, runs_nil, run_rtv]
end K

set_option Elab.async false
set_option linter.all false
set_option maxRecDepth 100000
set_option maxHeartbeats 1000000
/-! Mg: the law's own journal. -/
namespace K
open PySem PySem.Spec PyProof.Rows L2 Pu
def digL : List Nat := [48, 49, 50, 51, 52, 53, 54, 55, 56, 57]
theorem dig_eq : ("0123456789" : Str) = mkS digL := by decide +kernel
/-- what signs a line has -/
def Sgn (c : Nat) : Prop := (48 ≤ c ∧ c ≤ 57) ∨ (97 ≤ c ∧ c ≤ 122) ∨ c = 32 ∨ c = 45
theorem Sgn.lt {c : Nat} (h : Sgn c) : c < 128 := by unfold Sgn at h; omega
theorem eq_sg {a b : Nat} (ha : a < 128) (hb : b < 128) : cmpB .eq (.str (mkS [a])) (.str (mkS [b])) = some (decide (a = b)) := by
  rw [cmp_eqS (mkS_ok (by simpa using ha)) (mkS_ok (by simpa using hb))]
  congr 1
  refine bool_of ?_
  rw [decide_eq_true_iff, decide_eq_true_iff]
  exact ⟨fun h => by have := mkS_inj h; simpa using this, fun h => by rw [h]⟩
theorem idx_dig {j : Nat} (h : j < 10) : idxD (.str (mkS digL)) (.int (j : Int)) = .ok (.str (mkS [48 + j])) := by
  rw [idx_S, if_pos (big5 _ (by decide)), atI_n]
  match j, h with
  | 0, _ => rfl
  | 1, _ => rfl
  | 2, _ => rfl
  | 3, _ => rfl
  | 4, _ => rfl
  | 5, _ => rfl
  | 6, _ => rfl
  | 7, _ => rfl
  | 8, _ => rfl
  | 9, _ => rfl
  | n + 10, h => omega
theorem idx_let {j : Nat} (h : j < 26) : idxD (.str (mkS alL)) (.int (j : Int)) = .ok (.str (mkS [97 + j])) := by
  have z := idx_al (i := (j : Int))
  have e : (j : Int) % 26 = (j : Int) := by omega
  rw [e] at z
  rw [z, Int.toNat_natCast]
theorem phi_code {n : Nat} (hn : 1 ≤ n) {c : Nat} (h : Sgn c) : PhiN T gv n j_law_code [.str (mkS [c])] = .ok (.int (c : Int), []) := by
  rw [upE (by omega) rfl rfl]
  show fnEnd [] (runs _ _ [] b_law_code [some (.str (mkS [c])), none, none, none]) = _
  have hc := h.lt
  have z2 := big5 2 (by omega)
  rw [b_law_code, dig_eq, al_eq, runs_cons, run_set, ev_str, cleanK_ok, if_pos (by simp), bindC_nm, if_pos (by simp), if_pos (by simp), seq_nx, runs_cons]
  simp only [List.set_cons_succ, List.set_cons_zero]
  rcases fr_find (Φ := PhiN T gv (n - 1)) (gv := gv) (pi := []) (t := .nm 2) (it := .rng [(.int 10)]) (b := [(.ite (.cmp .eq (.idx (.var 1) (.var 2)) (.var 0)) [(.ret (.bin .add (.int 48) (.var 2)))] [])]) (en := fun (j : Nat) => D.int (j : Int)) (xs := List.range 10) (fun ρ => ∃ o, ρ = [some (.str (mkS [c])), some (.str (mkS digL)), o, none]) (fun (j : Nat) => .int (48 + (j : Int))) (fun j => decide (48 + j = c)) (evIt_rngE (n := 10) (by simp) (by omega)) (by simp) ⟨none, rfl⟩
    (fun x hx ρ ⟨o, e⟩ => by
      subst e
      have hx := List.mem_range.mp hx
      have e := idx_dig hx
      have e2 := eq_sg (a := 48 + x) (b := c) (by omega) hc
      by_cases q : 48 + x = c
      · refine ⟨fun _ => ?_, fun z => by simp [q] at z⟩
        refine ⟨[some (.str (mkS [c])), some (.str (mkS digL)), some (.int (x : Int)), none], ?_⟩
        rw [decide_eq_true q] at e2
        simp [runs_cons, runs_nil, run_ite, e, e2, run_ret]
      · refine ⟨fun z => by simp [q] at z, fun _ => ?_⟩
        refine ⟨[some (.str (mkS [c])), some (.str (mkS digL)), some (.int (x : Int)), none], ?_, _, rfl⟩
        simp [runs_cons, runs_nil, run_ite, e, e2, q, run_ret]) with ⟨x, ρ', h1, h2⟩ | ⟨ρ', h1, h2, ⟨o, rfl⟩⟩
  · rw [h2]
    have := List.find?_some h1
    have hx : 48 + x = c := by simpa using this
    simp [← hx]
  · rw [h2, seq_nx, runs_cons, run_set, ev_str, cleanK_ok, if_pos (by simp), bindC_nm, if_pos (by simp), if_pos (by simp), seq_nx, runs_cons]
    simp only [List.set_cons_succ, List.set_cons_zero]
    have nd : ¬ (48 ≤ c ∧ c ≤ 57) := fun z => by
      have := List.find?_eq_none.mp h1 (c - 48) (List.mem_range.mpr (by omega))
      simp at this
      omega
    rcases fr_find (Φ := PhiN T gv (n - 1)) (gv := gv) (pi := []) (t := .nm 2) (it := .rng [(.int 26)]) (b := [(.ite (.cmp .eq (.idx (.var 3) (.var 2)) (.var 0)) [(.ret (.bin .add (.int 97) (.var 2)))] [])]) (en := fun (j : Nat) => D.int (j : Int)) (xs := List.range 26) (fun ρ => ∃ o, ρ = [some (.str (mkS [c])), some (.str (mkS digL)), o, some (.str (mkS alL))]) (fun (j : Nat) => .int (97 + (j : Int))) (fun j => decide (97 + j = c)) (evIt_rngE (n := 26) (by simp) (by omega)) (by simp) ⟨o, rfl⟩
      (fun x hx ρ ⟨o, e⟩ => by
        subst e
        have hx := List.mem_range.mp hx
        have e := idx_let hx
        have e2 := eq_sg (a := 97 + x) (b := c) (by omega) hc
        by_cases q : 97 + x = c
        · refine ⟨fun _ => ?_, fun z => by simp [q] at z⟩
          refine ⟨[some (.str (mkS [c])), some (.str (mkS digL)), some (.int (x : Int)), some (.str (mkS alL))], ?_⟩
          rw [decide_eq_true q] at e2
          simp [runs_cons, runs_nil, run_ite, e, e2, run_ret]
        · refine ⟨fun z => by simp [q] at z, fun _ => ?_⟩
          refine ⟨[some (.str (mkS [c])), some (.str (mkS digL)), some (.int (x : Int)), some (.str (mkS alL))], ?_, _, rfl⟩
          simp [runs_cons, runs_nil, run_ite, e, e2, q, run_ret]) with ⟨x, ρ', h3, h4⟩ | ⟨ρ', h3, h4, ⟨o, rfl⟩⟩
    · rw [h4]
      have := List.find?_some h3
      have hx : 97 + x = c := by simpa using this
      simp [← hx]
    · rw [h4, seq_nx]
      have nl : ¬ (97 ≤ c ∧ c ≤ 122) := fun z => by
        have := List.find?_eq_none.mp h3 (c - 97) (List.mem_range.mpr (by omega))
        simp at this
        omega
      have mi : ("-" : Str) = mkS [45] := by decide +kernel
      have e2 := eq_sg (a := c) (b := 45) hc (by omega)
      have cc : c = 32 ∨ c = 45 := by unfold Sgn at h; omega
      rw [runs_cons, run_ret, mi]
      rcases cc with rfl | rfl <;> simp [e2, z2]
theorem Sgn.words {p : Pc} (h : ∀ c ∈ chs p.m.1, 97 ≤ c ∧ c ≤ 122) : ∀ c ∈ wordsOf p, Sgn c := by
  intro c hc
  unfold Sgn
  simp only [wordsOf, List.mem_append, List.mem_cons] at hc
  have z := fun {i : Int} (h : c ∈ decI i) => decI_sign h
  rcases hc with hc | rfl | hc | rfl | hc | rfl | hc
  · have := h c hc; omega
  · omega
  · have := z hc; omega
  · omega
  · have := z hc; omega
  · omega
  · have := z hc; omega
theorem phi_sum {n : Nat} (hn : 2 ≤ n) {l : List Nat} {t : Int} (h : l.length ≤ 1000) (ht : 0 ≤ t ∧ t < 65521) (hc : ∀ c ∈ l, Sgn c) : PhiN T gv n j_law_sum [.int t, .str (mkS l)] = .ok (.int (cks t l), []) := by
  rw [upE (by omega) rfl rfl]
  show fnEnd [] (runs _ _ [] b_law_sum [some (.int t), some (.str (mkS l)), none]) = _
  simp only [b_law_sum, runs_cons]
  refine fn_fr (fun i ρ => ∃ o t', ρ = [some (.int t'), some (.str (mkS l)), o] ∧ t' = cks t (l.take i) ∧ 0 ≤ t' ∧ t' < 65521) (xs := l) (en := fun c => .str (mkS [c])) (evIt_str (by simp)) (by simp) ⟨none, t, rfl, rfl, ht⟩ ?_ ?_
  · rintro i x ρ hx ⟨o, t', rfl, e, b1, b2⟩ N B R hN - -
    have e3 : callD (PhiN T gv (n - 1)) j_law_code [.str (mkS [x])] = .ok (.int (x : Int)) := callD_va (by simpa using phi_code (n := n - 1) (by omega) (hc x (List.mem_of_getElem? hx))) (by simp)
    have e2 : binD .mul (.int 256) (.int t') = .ok (.int (256 * t')) := bin_mulI (by omega)
    simp [runs_cons, runs_nil, run_set, e2, e3]
    refine hN _ ⟨_, _, rfl, ?_, ?_, ?_⟩
    · rw [take_get hx, e]
      simp [cks, List.foldl_append]
    · omega
    · omega
  · rintro ρ ⟨o, t', rfl, e, b1, b2⟩
    rw [List.take_of_length_le (Nat.le_refl _)] at e
    simp [runs_nil, run_rtv, e]
/-- the lines that parcels leave -/
def linesOf (t : Int) : List Pc → List (List Nat)
  | [] => []
  | p :: ps => (wordsOf p ++ 32 :: decI (cks t (wordsOf p))) :: linesOf (cks t (wordsOf p)) ps
def totOf (t : Int) : List Pc → Int
  | [] => t
  | p :: ps => totOf (cks t (wordsOf p)) ps
theorem linesOf_snoc {p : Pc} : ∀ {ps : List Pc} {t : Int}, linesOf t (ps ++ [p]) = linesOf t ps ++ [wordsOf p ++ 32 :: decI (cks (totOf t ps) (wordsOf p))]
  | [], t => rfl
  | q :: ps, t => by simp only [List.cons_append, linesOf, totOf, linesOf_snoc]
theorem totOf_snoc {p : Pc} : ∀ {ps : List Pc} {t : Int}, totOf t (ps ++ [p]) = cks (totOf t ps) (wordsOf p)
  | [], t => rfl
  | q :: ps, t => by simp only [List.cons_append, totOf, totOf_snoc]
theorem totOf_bd : ∀ {ps : List Pc} {t : Int}, 0 ≤ t ∧ t < 65521 → 0 ≤ totOf t ps ∧ totOf t ps < 65521
  | [], t, h => h
  | q :: ps, t, h => totOf_bd (ps := ps) (cks_bd h)
theorem linesOf_len : ∀ {ps : List Pc} {t : Int}, (linesOf t ps).length = ps.length
  | [], _ => rfl
  | q :: ps, t => by simp only [linesOf, List.length_cons, linesOf_len]
/-- all of them good, letters only -/
def GoodW (ns : List OkS) (p : Pc) : Prop := Good ns p ∧ ∀ c ∈ chs p.m.1, 97 ≤ c ∧ c ≤ 122
theorem line_of {ns : List OkS} : ∀ {ps : List Pc} {t : Int}, (0 ≤ t ∧ t < 65521) → (∀ p ∈ ps, GoodW ns p) → ∀ l ∈ linesOf t ps, l.length ≤ 60 ∧ ∀ c ∈ l, Sgn c
  | [], t, _, _, l, hl => by cases hl
  | p :: ps, t, ht, hg, l, hl => by
    simp only [linesOf, List.mem_cons] at hl
    have hp := hg p List.mem_cons_self
    have b := cks_bd (l := wordsOf p) ht
    rcases hl with rfl | hl
    · have d := decI_len (i := cks t (wordsOf p)) (by omega)
      have w := hp.1.len
      refine ⟨by rw [List.length_append, List.length_cons]; omega, ?_⟩
      intro c hc
      rw [List.mem_append, List.mem_cons] at hc
      rcases hc with hc | rfl | hc
      · exact Sgn.words hp.2 c hc
      · unfold Sgn; omega
      · have := decI_sign hc
        unfold Sgn; omega
    · exact line_of b (fun q hq => hg q (List.mem_cons_of_mem _ hq)) l hl
def textOf (ls : List (List Nat)) : List Nat := ls.flatMap fun l => l ++ [10]
theorem textOf_snoc {ls : List (List Nat)} {l : List Nat} : textOf (ls ++ [l]) = textOf ls ++ (l ++ [10]) := by simp [textOf]
theorem textOf_len : ∀ {ls : List (List Nat)}, (∀ l ∈ ls, l.length ≤ 60) → (textOf ls).length ≤ 61 * ls.length
  | [], _ => by simp [textOf]
  | l :: ls, h => by
    have a := h l List.mem_cons_self
    have b := textOf_len (ls := ls) fun x hx => h x (List.mem_cons_of_mem _ hx)
    simp only [textOf, List.flatMap_cons, List.length_append, List.length_cons, List.length_nil] at *
    omega
theorem textOf_ok {ls : List (List Nat)} (h : ∀ l ∈ ls, ∀ c ∈ l, Sgn c) : ∀ c ∈ textOf ls, c < 128 := by
  intro c hc
  unfold textOf at hc
  obtain ⟨l, hl, hc⟩ := List.mem_flatMap.mp hc
  rw [List.mem_append, List.mem_singleton] at hc
  rcases hc with hc | rfl
  · exact (h l hl c hc).lt
  · omega
theorem big6 : ∀ n : Nat, n ≤ 100000 → n ≤ sizeLine := fun n h => Nat.le_trans h (by decide +kernel)
abbrev jrT : Ex := .m1 .join (.str " ") (.lst [(.idx (.var 3) (.int 0)), (.bi .str [(.idx (.var 3) (.int 1))]), (.bi .str [(.idx (.var 3) (.int 2))]), (.bi .str [(.idx (.var 3) (.int 3))])])
abbrev jrA : Ex := .bin .add (.bin .add (.bin .add (.bin .add (.var 2) (.var 4)) (.str " ")) (.bi .str [(.var 1)])) (.str "\n")
theorem phi_law_journal {n : Nat} (hn : 3 ≤ n) {ns : List OkS} {ps : List Pc} (hl : ps.length ≤ 300) (hg : ∀ p ∈ ps, GoodW ns p) : PhiN T gv n j_law_journal [.lst .fz (ps.map dP)] = .ok (.str (mkS (textOf (linesOf 1 ps))), []) := by
  rw [upE (by omega) rfl rfl]
  show fnEnd [] (runs _ _ [] b_law_journal [some (.lst .fz (ps.map dP)), none, none, none, none]) = _
  have em : ("" : Str) = mkS [] := by decide +kernel
  have sp : (" " : Str) = mkS [32] := by decide +kernel
  have nl : ("\n" : Str) = mkS [10] := by decide +kernel
  rw [b_law_journal, runs_cons, run_set, ev_int, cleanK_ok, if_pos (by simp), bindC_nm, if_pos (by simp), if_pos (by simp), seq_nx, runs_cons, run_set, ev_str, cleanK_ok, if_pos (by simp), bindC_nm, if_pos (by simp), if_pos (by simp), seq_nx, runs_cons]
  simp only [List.set_cons_succ, List.set_cons_zero]
  refine fn_fr (fun i ρ => ∃ o3 o4, ρ = [some (.lst .fz (ps.map dP)), some (.int (totOf 1 (ps.take i))), some (.str (mkS (textOf (linesOf 1 (ps.take i))))), o3, o4]) (xs := ps) (en := dP) (evIt_of1 (d := .lst .fz (ps.map dP)) (by simp) (by simp) (by simp)) (by simp) ⟨none, none, by rw [em]; rfl⟩ ?_ ?_
  · rintro i p ρ hx ⟨o3, o4, rfl⟩ N B R hN - -
    have hil := (List.getElem?_eq_some_iff.mp hx).1
    have hp := hg p (List.mem_of_getElem? hx)
    have hpt : ∀ q ∈ ps.take i, GoodW ns q := fun q hq => hg q (List.mem_of_mem_take hq)
    obtain ⟨_, h1, h2, h3, h4, h5, h6, h7⟩ := hp.1
    have a := decI_len (i := p.m.2) (by omega)
    have b := decI_len (i := p.ah) (by omega)
    have c := decI_len (i := p.eq) (by omega)
    have z4 := big5 4 (by omega)
    have bt := totOf_bd (ps := ps.take i) (t := 1) ⟨by omega, by omega⟩
    have bt2 := cks_bd (l := wordsOf p) bt
    have wl := hp.1.len
    have e1 : ∀ o1 o2 o4, ev (PhiN T gv (n - 1)) gv jrT [some (.lst .fz (ps.map dP)), o1, o2, some (dP p), o4] = .ok (.str (mkS (wordsOf p))) := fun o1 o2 o4 => by
      have e3 : biD .join [.str (mkS [32]), .lst .ow ([chs p.m.1, decI p.m.2, decI p.ah, decI p.eq].map fun l => .str (mkS l))] = .ok (.str (mkS (joinL [32] [chs p.m.1, decI p.m.2, decI p.ah, decI p.eq]))) := bi_join (by simp; omega)
      have e4 : joinL [32] [chs p.m.1, decI p.m.2, decI p.ah, decI p.eq] = wordsOf p := by simp [joinL, wordsOf]
      rw [e4] at e3
      simp only [List.map_cons, List.map_nil, ← chs_S] at e3
      simp [jrT, sp, bi_strI (show p.m.2.natAbs < 2 ^ 64 by omega), bi_strI (show p.ah.natAbs < 2 ^ 64 by omega), bi_strI (show p.eq.natAbs < 2 ^ 64 by omega), z4, e3]
    have e2 : callD (PhiN T gv (n - 1)) j_law_sum [.int (totOf 1 (ps.take i)), .str (mkS (wordsOf p))] = .ok (.int (cks (totOf 1 (ps.take i)) (wordsOf p))) := callD_va (by simpa using phi_sum (n := n - 1) (by omega) (l := wordsOf p) (by omega) bt (Sgn.words hp.2)) (by simp)
    have ll := textOf_len (ls := linesOf 1 (ps.take i)) fun l hl => (line_of ⟨by omega, by omega⟩ hpt l hl).1
    rw [linesOf_len, List.length_take] at ll
    have tk : ps.take (i + 1) = ps.take i ++ [p] := take_get hx
    have dl := decI_len (i := cks (totOf 1 (ps.take i)) (wordsOf p)) (by omega)
    have e5 : ∀ o3, ev (PhiN T gv (n - 1)) gv jrA [some (.lst .fz (ps.map dP)), some (.int (cks (totOf 1 (ps.take i)) (wordsOf p))), some (.str (mkS (textOf (linesOf 1 (ps.take i))))), o3, some (.str (mkS (wordsOf p)))] = .ok (.str (mkS (textOf (linesOf 1 (ps.take (i + 1)))))) := fun o3 => by
      rw [tk, linesOf_snoc, textOf_snoc]
      generalize textOf (linesOf 1 (ps.take i)) = A at *
      generalize cks (totOf 1 (ps.take i)) (wordsOf p) = t at *
      generalize wordsOf p = W at *
      have b1 : A.length + W.length ≤ sizeLine := big6 _ (by omega)
      have b2 : A.length + W.length + 1 ≤ sizeLine := big6 _ (by omega)
      have b3 : A.length + W.length + 1 + (decI t).length ≤ sizeLine := big6 _ (by omega)
      have b4 : A.length + W.length + 1 + (decI t).length + 1 ≤ sizeLine := big6 _ (by omega)
      simp only [jrA, ev_bin, ev_var, ev_bi, ev_str, evs_cons, evs_nil, List.getElem?_cons_zero, List.getElem?_cons_succ, vw_str, vw_int, Out.bind_ok, sp, nl, bi_strI (show t.natAbs < 2 ^ 64 by omega)]
      simp only [bin_addS, List.length_append, List.length_cons, List.length_nil, Nat.zero_add, b1, b2, b3, b4, if_true, Out.bind_ok]
      simp
    simp only [bindC_nm, dP_nv, if_true, List.length_cons, List.length_nil, List.set_cons_succ, List.set_cons_zero]
    rw [if_pos (by omega), seq_nx, runs_cons, run_set, e1]
    simp only [cleanK_ok, nv_str, nv_int, if_true, bindC_nm, List.length_cons, List.length_nil, List.set_cons_succ, List.set_cons_zero]
    rw [if_pos (by omega), seq_nx, runs_cons, run_set]
    simp only [ev_call, evs_cons, evs_nil, ev_var, List.getElem?_cons_zero, List.getElem?_cons_succ, vw_str, vw_int, Out.bind_ok, e2, cleanK_ok, nv_str, nv_int, if_true, bindC_nm, List.length_cons, List.length_nil, List.set_cons_succ, List.set_cons_zero]
    rw [if_pos (by omega), seq_nx, runs_cons, run_set, e5]
    simp only [cleanK_ok, nv_str, nv_int, if_true, bindC_nm, List.length_cons, List.length_nil, List.set_cons_succ, List.set_cons_zero]
    rw [if_pos (by omega), seq_nx, runs_nil, St_nx]
    exact hN _ ⟨_, _, by rw [tk, totOf_snoc]⟩
  · rintro ρ ⟨o3, o4, rfl⟩
    rw [List.take_of_length_le (Nat.le_refl _)]
    simp [runs_cons, runs_nil, run_rtv]
end K

set_option Elab.async false
set_option linter.all false
set_option maxRecDepth 100000
set_option maxHeartbeats 1000000
/-! N30: the law k30. -/
namespace K
open PySem PySem.Spec PyProof.Rows L2 Pu
theorem mk_PromiseV {n : Nat} (hn : 2 ≤ n) {ns : List OkS} {its : List It8} {f g : Fl} (h : ns.length ≤ 10) (hs : ∀ i ∈ its, i ∈ itemsL ns) (hd : its.Nodup) (hl : its.length ≤ 900) : mkD (PhiN T gv n) c_Promise j_Promise_init [.lst f (ns.map dW), .lst g (its.map It8.D)] = .ok (prom .ow ns (entriesL ns its)) := by
  have v : vaD (prom .ow ns (entriesL ns its)) = prom .ow ns (entriesL ns its) := by simp [prom, vaD]
  have z := phi_Promise_init hn h hs hd hl
  unfold mkD
  simp only [ans_cons, ans_nil, an_lst, anyFzs_map, dW_an, It8.an]
  rw [z]
  simp [v]
theorem nxt_inv {s : RS} {p : Pc} : (nxt s p).ns = s.ns ∧ (nxt s p).its = s.its ∧ (nxt s p).ls = s.ls ++ [lineL s p] ∧ (nxt s p).t = totT s p ∧ (nxt s p).ps.length + (nxt s p).ws.length ≤ s.ps.length + s.ws.length + 1 := by
  unfold nxt
  split
  · exact ⟨rfl, rfl, rfl, rfl, by simp only; omega⟩
  · refine ⟨rfl, rfl, rfl, rfl, ?_⟩
    have := drain_len (its := s.its) (k := s.ws.length + 1) (ps := s.ps) (ws := s.ws ++ [p]) (ms := [])
    simp only [List.length_append, List.length_cons, List.length_nil] at this
    simp only [drn]
    omega
theorem neq_text {l : List Nat} (h : ∀ c ∈ l, c < 128) : cmpB .ne (.str (mkS l)) (.str (mkS l)) = some false ∧ cmpB .eq (.str (mkS l)) (.str (mkS l)) = some true := by
  rw [cmp_neS (mkS_ok h) (mkS_ok h), cmp_eqS (mkS_ok h) (mkS_ok h)]
  simp
/-- what a receiver has seen -/
def Seen (ns : List OkS) (qs : List Pc) (s : RS) : Prop := s.ns = ns ∧ s.ls = linesOf 1 qs ∧ s.t = totOf 1 qs ∧ s.ps.length + s.ws.length ≤ qs.length
theorem Seen.next {ns : List OkS} {qs : List Pc} {s : RS} {p : Pc} (h : Seen ns qs s) : Seen ns (qs ++ [p]) (nxt s p) := by
  obtain ⟨h1, h2, h3, h4⟩ := h
  obtain ⟨a1, _, a2, a3, a4⟩ := nxt_inv (s := s) (p := p)
  refine ⟨by rw [a1, h1], ?_, ?_, ?_⟩
  · rw [a2, linesOf_snoc, h2, ← h3]; rfl
  · rw [a3, totOf_snoc, ← h3]; rfl
  · rw [List.length_append, List.length_singleton]; omega
theorem call_jr {n : Nat} (hn : 1 ≤ n) {f : Fl} {ns : List OkS} {qs : List Pc} {s : RS} (h : Seen ns qs s) (hl : qs.length ≤ 300) (hg : ∀ p ∈ qs, GoodW ns p) : callD (PhiN T gv n) j_Receiver_journal [rD f s] = .ok (.str (mkS (textOf (linesOf 1 qs)))) := by
  obtain ⟨h1, h2, h3, h4⟩ := h
  have z := call_journal (n := n) hn (f := f) (s := s) (by rw [h2, linesOf_len]; omega) (fun l hm => by
    rw [h2] at hm
    have := (line_of ⟨by omega, by omega⟩ hg l hm).1
    omega)
  rw [h2] at z
  exact z
theorem text_ok {ns : List OkS} {qs : List Pc} (hg : ∀ p ∈ qs, GoodW ns p) : ∀ c ∈ textOf (linesOf 1 qs), c < 128 := textOf_ok fun l hl => (line_of ⟨by omega, by omega⟩ hg l hl).2
/-- a parcel comes to the slot's receiver -/
theorem evE_come {n i : Nat} (hn : 7 ≤ n) {pi : List Nat} {ρ : List (Option Pu.D)} {e : Ex} {ns : List OkS} {qs : List Pc} {s : RS} {p : Pc} (h : Seen ns qs s) (hl : qs.length < 300) (hg : GoodW ns p) (hr : ρ[i]? = some (some (rD .ow s))) (he : ev (PhiN T gv n) gv e ρ = .ok (dP p)) : ∃ f, f ≠ Fl.vw ∧ evE (PhiN T gv n) gv pi (.meth c_Receiver j_Receiver_come "come" i [] [.pu e]) ρ = .ok (.tup [.str (fate s p), .lst f ((goes s p).map dM)]) (ρ.set i (some (rD .ow (nxt s p)))) := by
  obtain ⟨h1, h2, h3, h4⟩ := h
  obtain ⟨f, hf, c⟩ := phi_come (n := n) hn (s := s) (p := p) (by rw [h1]; exact hg.1) (fun c hc => by have := hg.2 c hc; omega) (by rw [h2, linesOf_len]; omega) (by omega) (by rw [h3]; exact totOf_bd ⟨by omega, by omega⟩)
  exact ⟨f, hf, evE_meth1 (ns := rns) (xs := rX .ow s) hr rnot.2.2.1 he (by simp) c (by simp [hf]) (rD_nv (by simp))⟩
def rowS (sc : List Int) (s : RS) (ps : List Pc) (o3 o4 : Option Pu.D) (ns : List OkS) (its : List It8) : List (Option Pu.D) := [some (.lst .fz (sc.map D.int)), some (rD .ow s), some (.lst .ow (ps.map dP)), o3, o4, some (.lst .fz (ns.map dW)), some (.lst .ow (its.map It8.D))]
theorem phi_law {n : Nat} (hn : 8 ≤ n) (sc : List Int) (hsc : sc.length ≤ 63) : PhiN T gv n j_law [.lst .fz (sc.map D.int)] = .ok (.bl true, []) := by
  rw [upE (by omega) rfl rfl]
  show fnEnd [] (runs _ _ [] b_law [some (.lst .fz (sc.map D.int)), none, none, none, none, none, none]) = _
  obtain ⟨ns, its, hD, e1⟩ := phi_promise_items (n := n - 1) (by omega) sc
  have e1' : callD (PhiN T gv (n - 1)) j_law_promise_items [.lst .fz (sc.map D.int)] = .ok (.lst .ow [.lst .fz (ns.map dW), .lst .ow (its.map It8.D)]) := callD_id (by simpa using e1) (by simp)
  have hD' := hD
  obtain ⟨d1, d2, d3, d4, d5, d6, d7⟩ := hD'
  have c2 : callD (PhiN T gv (n - 1)) j_law_cell [.lst .fz (sc.map D.int), .int 2] = .ok (.int (cellOf sc 2)) := call_cell (n := n - 1) (by omega) sc 2
  have c3 : callD (PhiN T gv (n - 1)) j_law_cell [.lst .fz (sc.map D.int), .int 3] = .ok (.int (cellOf sc 3)) := call_cell (n := n - 1) (by omega) sc 3
  have em : ("" : Str) = mkS [] := by decide +kernel
  -- the start
  have s1 : run1 (PhiN T gv (n - 1)) gv [] (.set (.tp [5, 6]) (.call j_law_promise_items [(.var 0)])) [some (.lst .fz (sc.map D.int)), none, none, none, none, none, none] = .nx [some (.lst .fz (sc.map D.int)), none, none, none, none, some (.lst .fz (ns.map dW)), some (.lst .ow (its.map It8.D))] := by
    simp [run_set, e1', bindC_tpL]
  have s2 : run1 (PhiN T gv (n - 1)) gv [] (.set (.nm 1) (.mk c_Receiver j_Receiver_init [(.mk c_Promise j_Promise_init [(.var 5), (.var 6)])])) [some (.lst .fz (sc.map D.int)), none, none, none, none, some (.lst .fz (ns.map dW)), some (.lst .ow (its.map It8.D))] = .nx [some (.lst .fz (sc.map D.int)), some (rD .ow ⟨ns, entriesL ns its, [], [], [], 1⟩), none, none, none, some (.lst .fz (ns.map dW)), some (.lst .ow (its.map It8.D))] := by
    have z := fun f g => mk_PromiseV (n := n - 1) (by omega) (ns := ns) (its := its) (f := f) (g := g) (by omega) d5 d6 (by omega)
    have z2 := mk_Receiver (n := n - 1) (by omega) (f := .ow) (by simp) (ns := ns) (its := entriesL ns its)
    simp [run_set, z, z2, rD_nv]
  obtain ⟨pa, pa1, pa2, pa3⟩ := phi_some_parcels (n := n - 1) (by omega) (c := cellOf sc 2) hD
  obtain ⟨pb, pb1, pb2, pb3⟩ := phi_some_parcels (n := n - 1) (by omega) (c := cellOf sc 3) hD
  have pa4 : ∀ f g, callD (PhiN T gv (n - 1)) j_law_some_parcels [.int (cellOf sc 2), .lst f (ns.map dW), .lst g (its.map It8.D)] = .ok (.lst .ow (pa.map dP)) := fun f g => callD_va (by simpa using pa3) (by simp)
  have pb4 : ∀ f g, callD (PhiN T gv (n - 1)) j_law_some_parcels [.int (cellOf sc 3), .lst f (ns.map dW), .lst g (its.map It8.D)] = .ok (.lst .ow (pb.map dP)) := fun f g => callD_va (by simpa using pb3) (by simp)
  have s3 : run1 (PhiN T gv (n - 1)) gv [] (.set (.nm 2) (.slc (.bin .add (.call j_law_some_parcels [(.call j_law_cell [(.var 0), (.int 2)]), (.var 5), (.var 6)]) (.call j_law_some_parcels [(.call j_law_cell [(.var 0), (.int 3)]), (.var 5), (.var 6)])) [] [(.int 30)])) [some (.lst .fz (sc.map D.int)), some (rD .ow ⟨ns, entriesL ns its, [], [], [], 1⟩), none, none, none, some (.lst .fz (ns.map dW)), some (.lst .ow (its.map It8.D))] = .nx (rowS sc ⟨ns, entriesL ns its, [], [], [], 1⟩ ((pa ++ pb).take 30) none none ns its) := by
    have b1 : pa.length + pb.length ≤ sizeLine := big5 _ (by omega)
    have c30 : cutD (pa.map dP ++ pb.map dP) none (some 30) = ((pa ++ pb).take 30).map dP := by
      rw [show (30 : Int) = ((30 : Nat) : Int) from rfl, cut_to, ← List.map_append, List.map_take]
    simp [run_set, c2, c3, pa4, pb4, b1, c30, rowS, -List.map_take]
  rw [b_law, runs_cons, s1, seq_nx, runs_cons, s2, seq_nx, runs_cons, s3, seq_nx, runs_cons]
  have hg : ∀ p ∈ (pa ++ pb).take 30, GoodW ns p := fun p hp => by
    have h := List.mem_of_mem_take hp
    rw [List.mem_append] at h
    have g : Good ns p := by
      rcases h with h | h
      · exact pa2 p h
      · exact pb2 p h
    exact ⟨g, (d4 _ g.1).2⟩
  have hl : ((pa ++ pb).take 30).length ≤ 30 := by rw [List.length_take]; omega
  generalize (pa ++ pb).take 30 = ps at hg hl
  have h0 : Seen ns [] ⟨ns, entriesL ns its, [], [], [], 1⟩ := ⟨rfl, rfl, rfl, by simp⟩
  generalize (⟨ns, entriesL ns its, [], [], [], 1⟩ : RS) = st0 at h0
  have mo : ∀ s, methOk c_Receiver "journal" (rD .vw s) = .ok () := fun s => methR rnot.2.2.2.1
  have t0 : ((ev (PhiN T gv (n - 1)) gv (.cmp .ne (.meth c_Receiver j_Receiver_journal "journal" (.var 1) []) (.str "")) (rowS sc st0 ps none none ns its)).bind fun d => Out.ofo (truD d)) = .ok false := by
    have z := call_jr (n := n - 1) (by omega) (f := .vw) h0 (by simp) (fun p hp => by cases hp)
    have z2 := (neq_text (l := []) (by simp)).1
    rw [em]
    simp [rowS, mo, z, textOf, linesOf, z2, Out.ofo]
  rw [run_ite, t0, re_ok', if_neg (by decide), runs_nil, seq_nx, runs_cons]
  have hv : ∀ s o3 o4, evs (PhiN T gv (n - 1)) gv [(.var 2)] (rowS sc s ps o3 o4 ns its) = .ok [.lst .vw (ps.map dP)] := fun s o3 o4 => by simp [rowS]
  refine fn_frR (n := ps.length) (fun i ρ => ∃ s o3, ρ = rowS sc s ps o3 none ns its ∧ Seen ns (ps.take i) s) (evIt_rngE (n := ps.length) (by simp [rowS]) (by omega)) ⟨st0, none, rfl, by simpa using h0⟩ ?_ ?_
  · rintro i ρ hil ⟨s, o3, rfl, hs⟩ N B R hN - -
    obtain ⟨p, hp⟩ : ∃ p, ps[i]? = some p := ⟨_, List.getElem?_eq_getElem hil⟩
    have hpm := List.mem_of_getElem? hp
    have tk : ps.take (i + 1) = ps.take i ++ [p] := take_get hp
    have hi : bindC (.nm 3) (.int (i : Int)) (rowS sc s ps o3 none ns its) = .nx (rowS sc s ps (some (.int (i : Int))) none ns its) := by simp [rowS]
    rw [hi, seq_nx, runs_cons]
    obtain ⟨f, hf, ce⟩ := evE_come (n := n - 1) (i := 1) (pi := []) (by omega) (ρ := rowS sc s ps (some (.int (i : Int))) none ns its) (e := .idx (.var 2) (.var 3)) (p := p) hs (by rw [List.length_take]; omega) (hg p hpm) rfl (by simp [rowS, atI_n, hp])
    rw [run_expX ce, seq_nx]
    have hs' : Seen ns (ps.take (i + 1)) (nxt s p) := by rw [tk]; exact hs.next
    have e2 : (rowS sc s ps (some (.int (i : Int))) none ns its).set 1 (some (rD .ow (nxt s p))) = rowS sc (nxt s p) ps (some (.int (i : Int))) none ns its := rfl
    rw [e2]
    generalize nxt s p = s' at *
    have hgt : ∀ q ∈ ps.take (i + 1), GoodW ns q := fun q hq => hg q (List.mem_of_mem_take hq)
    have z := call_jr (n := n - 1) (by omega) (f := .vw) hs' (by rw [List.length_take]; omega) hgt
    have z2 := (neq_text (text_ok hgt)).1
    have z3 : callD (PhiN T gv (n - 1)) j_law_journal [.lst .ow ((ps.take (i + 1)).map dP)] = .ok (.str (mkS (textOf (linesOf 1 (ps.take (i + 1)))))) := callD_va (by simpa [-List.map_take] using phi_law_journal (n := n - 1) (by omega) (ps := ps.take (i + 1)) (by rw [List.length_take]; omega) hgt) (by simp)
    have t : ((ev (PhiN T gv (n - 1)) gv (.and (.cmp .eq (.bin .mod (.var 3) (.int 5)) (.int 0)) (.cmp .ne (.meth c_Receiver j_Receiver_journal "journal" (.var 1) []) (.call j_law_journal [(.slc (.var 2) [] [(.bin .add (.var 3) (.int 1))])]))) (rowS sc s' ps (some (.int (i : Int))) none ns its)).bind fun d => Out.ofo (truD d)) = .ok false := by
      have ct : cutD (ps.map dP) none (some ((i : Int) + 1)) = (ps.take (i + 1)).map dP := by
        rw [show (i : Int) + 1 = ((i + 1 : Nat) : Int) from rfl, cut_to, List.map_take]
      by_cases q : (i : Int) % 5 = 0
      · simp [rowS, q, mo, z, ct, z3, z2, Out.ofo, -List.map_take]
      · simp [rowS, q, Out.ofo]
    rw [runs_cons, run_ite, t, re_ok', if_neg (by decide), runs_nil, seq_nx, runs_nil, St_nx]
    exact hN _ ⟨s', _, rfl, hs'⟩
  · rintro ρ ⟨s, o3, rfl, hs⟩
    rw [List.take_of_length_le (Nat.le_refl _)] at hs
    have z := call_jr (n := n - 1) (by omega) (f := .vw) hs (by omega) hg
    have z2 := (neq_text (text_ok hg)).2
    have z3 : ∀ f, callD (PhiN T gv (n - 1)) j_law_journal [.lst f (ps.map dP)] = .ok (.str (mkS (textOf (linesOf 1 ps)))) := fun f => callD_va (by simpa using phi_law_journal (n := n - 1) (by omega) (ps := ps) (by omega) hg) (by simp)
    have ty : ∀ x, tyD (.b .str) (.str x) = .ok true := fun _ => rfl
    simp [runs_cons, runs_nil, run_set, run_ret, rowS, mo, z, z2, z3, ty, Out.ofo]
end K

set_option Elab.async false
set_option linter.all false
set_option maxRecDepth 100000
set_option maxHeartbeats 0
/-! Fin: what the top of the text has written, and the law's own head. -/
namespace F
open PySem PySem.Spec PyProof.Rows L2 Pu
def top (i : Nat) : Stmt := PySem.Challenge.pw_orderneed_k30_journals.main.body.getD i (.Pass ⟨0, 0, 0, 0⟩)
def fs : List (Str × Nat × Nat) := [(("all_items" : Str), 0, 1), (("relation_of" : Str), 2, 2), (("item_keeps" : Str), 3, 3), (("keeps" : Str), 4, 3), (("is_integer" : Str), 5, 3), (("is_parcel" : Str), 6, 2), (("count_kept" : Str), 7, 3), (("codes_of" : Str), 8, 1), (("checksum" : Str), 9, 2), (("words_of" : Str), 10, 1), (("_law_cell" : Str), 16, 2), (("_law_row" : Str), 17, 2), (("_law_word" : Str), 18, 1), (("_law_words" : Str), 19, 2), (("_law_names" : Str), 20, 1), (("_law_items" : Str), 21, 1), (("_law_some_items" : Str), 22, 2), (("_law_promise_items" : Str), 23, 1), (("_law_relation" : Str), 24, 2), (("_law_item_keeps" : Str), 25, 3), (("_law_keeps" : Str), 26, 3), (("_law_letters" : Str), 27, 2), (("_law_parcels" : Str), 28, 2), (("_law_mixed" : Str), 29, 2), (("_law_some_parcels" : Str), 30, 3), (("_law_code" : Str), 31, 1), (("_law_sum" : Str), 32, 2), (("_law_journal" : Str), 33, 1), (("law" : Str), 34, 1)]
def cs : List (Str × Nat × Nat × Nat) := [(("Promise" : Str), 0, 1, 3), (("Receiver" : Str), 1, 11, 2)]
def fl : List Str := ["names", "entries", "promise", "_passed", "_waiting", "_lines", "_total"]
def gs : List (Str × Ex) := [(("MOST_CAME" : Str), .int 300), (("MOST_NUMBER" : Str), .int 1000000), (("MOST_AHEAD" : Str), .int 1000), (("MODULUS" : Str), .int 65521)]
def es : List (Str × Nat × List Nat × List Nat) := [(("OrderError" : Str), 0, [0, 1, 2, 3], []), (("InvalidPromise" : Str), 1, [1], [0, 2, 3]), (("InvalidParcel" : Str), 2, [2], [0, 1, 3]), (("Full" : Str), 3, [3], [0, 1, 2])]
def rs : List Nat := [0, 1, 2, 3]
def ms : List (Str × Nat × Nat × Nat × List Nat) := [(("_can_pass" : Str), 1, 12, 2, []), (("_first_that_can" : Str), 1, 13, 1, []), (("come" : Str), 1, 14, 2, [0]), (("journal" : Str), 1, 15, 1, [])]
def fm : List (Str × Nat × Nat × List Nat) := []
def ci : List (Str × Nat × List Nat × List Nat) := []
def ce : CE := ⟨[], fs, cs, gs, fl, false, es, rs, ms, fm, ci⟩
def s0 : Stmt := top 7
def n0 : List Str := ["names", "items", "k", "first", "second", "name", "relation"]
def s1 : Stmt := inClass (top 8) 0
def n1 : List Str := ["self", "names", "items", "every", "item", "k"]
def s2 : Stmt := top 9
def n2 : List Str := ["first", "second"]
def s3 : Stmt := top 10
def n3 : List Str := ["item", "first", "second"]
def s4 : Stmt := top 11
def n4 : List Str := ["promise", "first", "second", "item"]
def s5 : Stmt := top 17
def n5 : List Str := ["value", "least", "most"]
def s6 : Stmt := top 18
def n6 : List Str := ["promise", "value"]
def s7 : Stmt := top 19
def n7 : List Str := ["promise", "parcels", "message", "parcel"]
def s8 : Stmt := top 20
def n8 : List Str := ["text", "sign"]
def s9 : Stmt := top 21
def n9 : List Str := ["total", "text", "code"]
def s10 : Stmt := top 22
def n10 : List Str := ["parcel", "part"]
def s11 : Stmt := inClass (top 23) 0
def n11 : List Str := ["self", "promise"]
def s12 : Stmt := inClass (top 23) 1
def n12 : List Str := ["self", "parcel"]
def s13 : Stmt := inClass (top 23) 2
def n13 : List Str := ["self", "parcel"]
def s14 : Stmt := inClass (top 23) 3
def n14 : List Str := ["self", "parcel", "fate", "messages", "found", "one"]
def s15 : Stmt := inClass (top 23) 7
def n15 : List Str := ["self", "line"]
def s16 : Stmt := top 25
def n16 : List Str := ["_law_script", "_law_k"]
def s17 : Stmt := top 26
def n17 : List Str := ["_law_cell_here", "_law_count", "_law_row_here", "_law_rest", "_law_seed", "_law_k"]
def s18 : Stmt := top 27
def n18 : List Str := ["_law_number", "_law_letters_here", "_law_word_here"]
def s19 : Stmt := top 28
def n19 : List Str := ["_law_row_here", "_law_count", "_law_letters_here", "_law_words_here", "_law_k", "_law_sign", "_law_word_here", "_law_at"]
def s20 : Stmt := top 29
def n20 : List Str := ["_law_row_here"]
def s21 : Stmt := top 30
def n21 : List Str := ["_law_names_here", "_law_items_here", "_law_k", "_law_other", "_law_relation_here", "_law_name"]
def s22 : Stmt := top 31
def n22 : List Str := ["_law_names_here", "_law_row_here", "_law_items_here", "_law_k"]
def s23 : Stmt := top 32
def n23 : List Str := ["_law_script", "_law_names_here"]
def s24 : Stmt := top 33
def n24 : List Str := ["_law_first", "_law_second"]
def s25 : Stmt := top 34
def n25 : List Str := ["_law_item", "_law_first", "_law_second"]
def s26 : Stmt := top 35
def n26 : List Str := ["_law_items_here", "_law_first", "_law_second", "_law_item"]
def s27 : Stmt := top 36
def n27 : List Str := ["_law_row_here", "_law_names_here", "_law_few", "_law_start", "_law_number"]
def s28 : Stmt := top 37
def n28 : List Str := ["_law_items_here", "_law_messages", "_law_parcels_here", "_law_message", "_law_ahead", "_law_equal", "_law_one"]
def s29 : Stmt := top 40
def n29 : List Str := ["_law_parcels_here", "_law_row_here", "_law_left", "_law_came", "_law_k"]
def s30 : Stmt := top 41
def n30 : List Str := ["_law_cell_here", "_law_names_here", "_law_items_here", "_law_row_here", "_law_parcels_here", "_law_k", "_law_at", "_law_name", "_law_parcel", "_law_number"]
def s31 : Stmt := top 42
def n31 : List Str := ["_law_sign", "_law_signs", "_law_k", "_law_letters_here"]
def s32 : Stmt := top 43
def n32 : List Str := ["_law_total", "_law_text", "_law_sign"]
def s33 : Stmt := top 44
def n33 : List Str := ["_law_parcels_here", "_law_total", "_law_text", "_law_parcel", "_law_line"]
def s34 : Stmt := top 45
def n34 : List Str := ["_law_script", "_law_receiver", "_law_parcels_here", "_law_k", "_law_told", "_law_names_here", "_law_items_here"]
def r0 (fd : FuncData) : Rw := ⟨"all_items", "all_items", s0, n0, 1, [], K.b_all_items, 75, fd, none⟩
theorem sc0 : FnScope n0 (n0.take 1) (defScope s0) := ⟨rfl, rfl, rfl, by decide +kernel, rfl, by decide +kernel, by decide +kernel⟩
theorem tx0 (fd : FuncData) : RwTx ce (r0 fd) := ⟨sc0, (by decide : 1 ≤ n0.length), (by decide : ([] : List Nat).Nodup), (by decide : ∀ i ∈ ([] : List Nat), i < 1), .inr (by kernel_rfl)⟩
def r1 (fd : FuncData) : Rw := ⟨"__init__", "Promise.__init__", s1, n1, 3, [0], K.b_Promise_init, 87, fd, (some (86, 84))⟩
theorem sc1 : FnScope n1 (n1.take 3) (defScope s1) := ⟨rfl, rfl, rfl, by decide +kernel, rfl, by decide +kernel, by decide +kernel⟩
theorem tx1 (fd : FuncData) : RwTx ce (r1 fd) := ⟨sc1, (by decide : 3 ≤ n1.length), (by decide : ([0] : List Nat).Nodup), (by decide : ∀ i ∈ ([0] : List Nat), i < 3), .inr (by kernel_rfl)⟩
def r2 (fd : FuncData) : Rw := ⟨"relation_of", "relation_of", s2, n2, 2, [], K.b_relation_of, 101, fd, none⟩
theorem sc2 : FnScope n2 (n2.take 2) (defScope s2) := ⟨rfl, rfl, rfl, by decide +kernel, rfl, by decide +kernel, by decide +kernel⟩
theorem tx2 (fd : FuncData) : RwTx ce (r2 fd) := ⟨sc2, (by decide : 2 ≤ n2.length), (by decide : ([] : List Nat).Nodup), (by decide : ∀ i ∈ ([] : List Nat), i < 2), .inr (by kernel_rfl)⟩
def r3 (fd : FuncData) : Rw := ⟨"item_keeps", "item_keeps", s3, n3, 3, [], K.b_item_keeps, 108, fd, none⟩
theorem sc3 : FnScope n3 (n3.take 3) (defScope s3) := ⟨rfl, rfl, rfl, by decide +kernel, rfl, by decide +kernel, by decide +kernel⟩
theorem tx3 (fd : FuncData) : RwTx ce (r3 fd) := ⟨sc3, (by decide : 3 ≤ n3.length), (by decide : ([] : List Nat).Nodup), (by decide : ∀ i ∈ ([] : List Nat), i < 3), .inr (by kernel_rfl)⟩
def r4 (fd : FuncData) : Rw := ⟨"keeps", "keeps", s4, n4, 3, [], K.b_keeps, 115, fd, (some (114, 110))⟩
theorem sc4 : FnScope n4 (n4.take 3) (defScope s4) := ⟨rfl, rfl, rfl, by decide +kernel, rfl, by decide +kernel, by decide +kernel⟩
theorem tx4 (fd : FuncData) : RwTx ce (r4 fd) := ⟨sc4, (by decide : 3 ≤ n4.length), (by decide : ([] : List Nat).Nodup), (by decide : ∀ i ∈ ([] : List Nat), i < 3), .inr (by kernel_rfl)⟩
def r5 (fd : FuncData) : Rw := ⟨"is_integer", "is_integer", s5, n5, 3, [], K.b_is_integer, 122, fd, none⟩
theorem sc5 : FnScope n5 (n5.take 3) (defScope s5) := ⟨rfl, rfl, rfl, by decide +kernel, rfl, by decide +kernel, by decide +kernel⟩
theorem tx5 (fd : FuncData) : RwTx ce (r5 fd) := ⟨sc5, (by decide : 3 ≤ n5.length), (by decide : ([] : List Nat).Nodup), (by decide : ∀ i ∈ ([] : List Nat), i < 3), .inr (by kernel_rfl)⟩
def r6 (fd : FuncData) : Rw := ⟨"is_parcel", "is_parcel", s6, n6, 2, [], K.b_is_parcel, 129, fd, none⟩
theorem sc6 : FnScope n6 (n6.take 2) (defScope s6) := ⟨rfl, rfl, rfl, by decide +kernel, rfl, by decide +kernel, by decide +kernel⟩
theorem tx6 (fd : FuncData) : RwTx ce (r6 fd) := ⟨sc6, (by decide : 2 ≤ n6.length), (by decide : ([] : List Nat).Nodup), (by decide : ∀ i ∈ ([] : List Nat), i < 2), .inr (by kernel_rfl)⟩
def r7 (fd : FuncData) : Rw := ⟨"count_kept", "count_kept", s7, n7, 3, [], K.b_count_kept, 134, fd, none⟩
theorem sc7 : FnScope n7 (n7.take 3) (defScope s7) := ⟨rfl, rfl, rfl, by decide +kernel, rfl, by decide +kernel, by decide +kernel⟩
theorem tx7 (fd : FuncData) : RwTx ce (r7 fd) := ⟨sc7, (by decide : 3 ≤ n7.length), (by decide : ([] : List Nat).Nodup), (by decide : ∀ i ∈ ([] : List Nat), i < 3), .inr (by kernel_rfl)⟩
def r8 (fd : FuncData) : Rw := ⟨"codes_of", "codes_of", s8, n8, 1, [], K.b_codes_of, 139, fd, none⟩
theorem sc8 : FnScope n8 (n8.take 1) (defScope s8) := ⟨rfl, rfl, rfl, by decide +kernel, rfl, by decide +kernel, by decide +kernel⟩
theorem tx8 (fd : FuncData) : RwTx ce (r8 fd) := ⟨sc8, (by decide : 1 ≤ n8.length), (by decide : ([] : List Nat).Nodup), (by decide : ∀ i ∈ ([] : List Nat), i < 1), .inr (by kernel_rfl)⟩
def r9 (fd : FuncData) : Rw := ⟨"checksum", "checksum", s9, n9, 2, [], K.b_checksum, 146, fd, none⟩
theorem sc9 : FnScope n9 (n9.take 2) (defScope s9) := ⟨rfl, rfl, rfl, by decide +kernel, rfl, by decide +kernel, by decide +kernel⟩
theorem tx9 (fd : FuncData) : RwTx ce (r9 fd) := ⟨sc9, (by decide : 2 ≤ n9.length), (by decide : ([] : List Nat).Nodup), (by decide : ∀ i ∈ ([] : List Nat), i < 2), .inr (by kernel_rfl)⟩
def r10 (fd : FuncData) : Rw := ⟨"words_of", "words_of", s10, n10, 1, [], K.b_words_of, 151, fd, none⟩
theorem sc10 : FnScope n10 (n10.take 1) (defScope s10) := ⟨rfl, rfl, rfl, by decide +kernel, rfl, by decide +kernel, by decide +kernel⟩
theorem tx10 (fd : FuncData) : RwTx ce (r10 fd) := ⟨sc10, (by decide : 1 ≤ n10.length), (by decide : ([] : List Nat).Nodup), (by decide : ∀ i ∈ ([] : List Nat), i < 1), .inr (by kernel_rfl)⟩
def r11 (fd : FuncData) : Rw := ⟨"__init__", "Receiver.__init__", s11, n11, 2, [0], K.b_Receiver_init, 165, fd, none⟩
theorem sc11 : FnScope n11 (n11.take 2) (defScope s11) := ⟨rfl, rfl, rfl, by decide +kernel, rfl, by decide +kernel, by decide +kernel⟩
theorem tx11 (fd : FuncData) : RwTx ce (r11 fd) := ⟨sc11, (by decide : 2 ≤ n11.length), (by decide : ([0] : List Nat).Nodup), (by decide : ∀ i ∈ ([0] : List Nat), i < 2), .inr (by kernel_rfl)⟩
def r12 (fd : FuncData) : Rw := ⟨"_can_pass", "Receiver._can_pass", s12, n12, 2, [], K.b_Receiver_can_pass, 172, fd, none⟩
theorem sc12 : FnScope n12 (n12.take 2) (defScope s12) := ⟨rfl, rfl, rfl, by decide +kernel, rfl, by decide +kernel, by decide +kernel⟩
theorem tx12 (fd : FuncData) : RwTx ce (r12 fd) := ⟨sc12, (by decide : 2 ≤ n12.length), (by decide : ([] : List Nat).Nodup), (by decide : ∀ i ∈ ([] : List Nat), i < 2), .inr (by kernel_rfl)⟩
def r13 (fd : FuncData) : Rw := ⟨"_first_that_can", "Receiver._first_that_can", s13, n13, 1, [], K.b_Receiver_first_that_can, 179, fd, none⟩
theorem sc13 : FnScope n13 (n13.take 1) (defScope s13) := ⟨rfl, rfl, rfl, by decide +kernel, rfl, by decide +kernel, by decide +kernel⟩
theorem tx13 (fd : FuncData) : RwTx ce (r13 fd) := ⟨sc13, (by decide : 1 ≤ n13.length), (by decide : ([] : List Nat).Nodup), (by decide : ∀ i ∈ ([] : List Nat), i < 1), .inr (by kernel_rfl)⟩
def r14 (fd : FuncData) : Rw := ⟨"come", "Receiver.come", s14, n14, 2, [0], K.b_Receiver_come, 184, fd, none⟩
theorem sc14 : FnScope n14 (n14.take 2) (defScope s14) := ⟨rfl, rfl, rfl, by decide +kernel, rfl, by decide +kernel, by decide +kernel⟩
theorem tx14 (fd : FuncData) : RwTx ce (r14 fd) := ⟨sc14, (by decide : 2 ≤ n14.length), (by decide : ([0] : List Nat).Nodup), (by decide : ∀ i ∈ ([0] : List Nat), i < 2), .inr (by kernel_rfl)⟩
def r15 (fd : FuncData) : Rw := ⟨"journal", "Receiver.journal", s15, n15, 1, [], K.b_Receiver_journal, 210, fd, none⟩
theorem sc15 : FnScope n15 (n15.take 1) (defScope s15) := ⟨rfl, rfl, rfl, by decide +kernel, rfl, by decide +kernel, by decide +kernel⟩
theorem tx15 (fd : FuncData) : RwTx ce (r15 fd) := ⟨sc15, (by decide : 1 ≤ n15.length), (by decide : ([] : List Nat).Nodup), (by decide : ∀ i ∈ ([] : List Nat), i < 1), .inr (by kernel_rfl)⟩
def r16 (fd : FuncData) : Rw := ⟨"_law_cell", "_law_cell", s16, n16, 2, [], K.b_law_cell, 231, fd, none⟩
theorem sc16 : FnScope n16 (n16.take 2) (defScope s16) := ⟨rfl, rfl, rfl, by decide +kernel, rfl, by decide +kernel, by decide +kernel⟩
theorem tx16 (fd : FuncData) : RwTx ce (r16 fd) := ⟨sc16, (by decide : 2 ≤ n16.length), (by decide : ([] : List Nat).Nodup), (by decide : ∀ i ∈ ([] : List Nat), i < 2), .inr (by kernel_rfl)⟩
def r17 (fd : FuncData) : Rw := ⟨"_law_row", "_law_row", s17, n17, 2, [], K.b_law_row, 238, fd, none⟩
theorem sc17 : FnScope n17 (n17.take 2) (defScope s17) := ⟨rfl, rfl, rfl, by decide +kernel, rfl, by decide +kernel, by decide +kernel⟩
theorem tx17 (fd : FuncData) : RwTx ce (r17 fd) := ⟨sc17, (by decide : 2 ≤ n17.length), (by decide : ([] : List Nat).Nodup), (by decide : ∀ i ∈ ([] : List Nat), i < 2), .inr (by kernel_rfl)⟩
def r18 (fd : FuncData) : Rw := ⟨"_law_word", "_law_word", s18, n18, 1, [], K.b_law_word, 245, fd, none⟩
theorem sc18 : FnScope n18 (n18.take 1) (defScope s18) := ⟨rfl, rfl, rfl, by decide +kernel, rfl, by decide +kernel, by decide +kernel⟩
theorem tx18 (fd : FuncData) : RwTx ce (r18 fd) := ⟨sc18, (by decide : 1 ≤ n18.length), (by decide : ([] : List Nat).Nodup), (by decide : ∀ i ∈ ([] : List Nat), i < 1), .inr (by kernel_rfl)⟩
def r19 (fd : FuncData) : Rw := ⟨"_law_words", "_law_words", s19, n19, 2, [], K.b_law_words, 252, fd, none⟩
theorem sc19 : FnScope n19 (n19.take 2) (defScope s19) := ⟨rfl, rfl, rfl, by decide +kernel, rfl, by decide +kernel, by decide +kernel⟩
theorem tx19 (fd : FuncData) : RwTx ce (r19 fd) := ⟨sc19, (by decide : 2 ≤ n19.length), (by decide : ([] : List Nat).Nodup), (by decide : ∀ i ∈ ([] : List Nat), i < 2), .inr (by kernel_rfl)⟩
def r20 (fd : FuncData) : Rw := ⟨"_law_names", "_law_names", s20, n20, 1, [], K.b_law_names, 259, fd, none⟩
theorem sc20 : FnScope n20 (n20.take 1) (defScope s20) := ⟨rfl, rfl, rfl, by decide +kernel, rfl, by decide +kernel, by decide +kernel⟩
theorem tx20 (fd : FuncData) : RwTx ce (r20 fd) := ⟨sc20, (by decide : 1 ≤ n20.length), (by decide : ([] : List Nat).Nodup), (by decide : ∀ i ∈ ([] : List Nat), i < 1), .inr (by kernel_rfl)⟩
def r21 (fd : FuncData) : Rw := ⟨"_law_items", "_law_items", s21, n21, 1, [], K.b_law_items, 264, fd, none⟩
theorem sc21 : FnScope n21 (n21.take 1) (defScope s21) := ⟨rfl, rfl, rfl, by decide +kernel, rfl, by decide +kernel, by decide +kernel⟩
theorem tx21 (fd : FuncData) : RwTx ce (r21 fd) := ⟨sc21, (by decide : 1 ≤ n21.length), (by decide : ([] : List Nat).Nodup), (by decide : ∀ i ∈ ([] : List Nat), i < 1), .inr (by kernel_rfl)⟩
def r22 (fd : FuncData) : Rw := ⟨"_law_some_items", "_law_some_items", s22, n22, 2, [], K.b_law_some_items, 269, fd, none⟩
theorem sc22 : FnScope n22 (n22.take 2) (defScope s22) := ⟨rfl, rfl, rfl, by decide +kernel, rfl, by decide +kernel, by decide +kernel⟩
theorem tx22 (fd : FuncData) : RwTx ce (r22 fd) := ⟨sc22, (by decide : 2 ≤ n22.length), (by decide : ([] : List Nat).Nodup), (by decide : ∀ i ∈ ([] : List Nat), i < 2), .inr (by kernel_rfl)⟩
def r23 (fd : FuncData) : Rw := ⟨"_law_promise_items", "_law_promise_items", s23, n23, 1, [], K.b_law_promise_items, 276, fd, none⟩
theorem sc23 : FnScope n23 (n23.take 1) (defScope s23) := ⟨rfl, rfl, rfl, by decide +kernel, rfl, by decide +kernel, by decide +kernel⟩
theorem tx23 (fd : FuncData) : RwTx ce (r23 fd) := ⟨sc23, (by decide : 1 ≤ n23.length), (by decide : ([] : List Nat).Nodup), (by decide : ∀ i ∈ ([] : List Nat), i < 1), .inr (by kernel_rfl)⟩
def r24 (fd : FuncData) : Rw := ⟨"_law_relation", "_law_relation", s24, n24, 2, [], K.b_law_relation, 283, fd, none⟩
theorem sc24 : FnScope n24 (n24.take 2) (defScope s24) := ⟨rfl, rfl, rfl, by decide +kernel, rfl, by decide +kernel, by decide +kernel⟩
theorem tx24 (fd : FuncData) : RwTx ce (r24 fd) := ⟨sc24, (by decide : 2 ≤ n24.length), (by decide : ([] : List Nat).Nodup), (by decide : ∀ i ∈ ([] : List Nat), i < 2), .inr (by kernel_rfl)⟩
def r25 (fd : FuncData) : Rw := ⟨"_law_item_keeps", "_law_item_keeps", s25, n25, 3, [], K.b_law_item_keeps, 290, fd, none⟩
theorem sc25 : FnScope n25 (n25.take 3) (defScope s25) := ⟨rfl, rfl, rfl, by decide +kernel, rfl, by decide +kernel, by decide +kernel⟩
theorem tx25 (fd : FuncData) : RwTx ce (r25 fd) := ⟨sc25, (by decide : 3 ≤ n25.length), (by decide : ([] : List Nat).Nodup), (by decide : ∀ i ∈ ([] : List Nat), i < 3), .inr (by kernel_rfl)⟩
def r26 (fd : FuncData) : Rw := ⟨"_law_keeps", "_law_keeps", s26, n26, 3, [], K.b_law_keeps, 295, fd, none⟩
theorem sc26 : FnScope n26 (n26.take 3) (defScope s26) := ⟨rfl, rfl, rfl, by decide +kernel, rfl, by decide +kernel, by decide +kernel⟩
theorem tx26 (fd : FuncData) : RwTx ce (r26 fd) := ⟨sc26, (by decide : 3 ≤ n26.length), (by decide : ([] : List Nat).Nodup), (by decide : ∀ i ∈ ([] : List Nat), i < 3), .inr (by kernel_rfl)⟩
def r27 (fd : FuncData) : Rw := ⟨"_law_letters", "_law_letters", s27, n27, 2, [], K.b_law_letters, 300, fd, none⟩
theorem sc27 : FnScope n27 (n27.take 2) (defScope s27) := ⟨rfl, rfl, rfl, by decide +kernel, rfl, by decide +kernel, by decide +kernel⟩
theorem tx27 (fd : FuncData) : RwTx ce (r27 fd) := ⟨sc27, (by decide : 2 ≤ n27.length), (by decide : ([] : List Nat).Nodup), (by decide : ∀ i ∈ ([] : List Nat), i < 2), .inr (by kernel_rfl)⟩
def r28 (fd : FuncData) : Rw := ⟨"_law_parcels", "_law_parcels", s28, n28, 2, [], K.b_law_parcels, 305, fd, none⟩
theorem sc28 : FnScope n28 (n28.take 2) (defScope s28) := ⟨rfl, rfl, rfl, by decide +kernel, rfl, by decide +kernel, by decide +kernel⟩
theorem tx28 (fd : FuncData) : RwTx ce (r28 fd) := ⟨sc28, (by decide : 2 ≤ n28.length), (by decide : ([] : List Nat).Nodup), (by decide : ∀ i ∈ ([] : List Nat), i < 2), .inr (by kernel_rfl)⟩
def r29 (fd : FuncData) : Rw := ⟨"_law_mixed", "_law_mixed", s29, n29, 2, [], K.b_law_mixed, 322, fd, none⟩
theorem sc29 : FnScope n29 (n29.take 2) (defScope s29) := ⟨rfl, rfl, rfl, by decide +kernel, rfl, by decide +kernel, by decide +kernel⟩
theorem tx29 (fd : FuncData) : RwTx ce (r29 fd) := ⟨sc29, (by decide : 2 ≤ n29.length), (by decide : ([] : List Nat).Nodup), (by decide : ∀ i ∈ ([] : List Nat), i < 2), .inr (by kernel_rfl)⟩
def r30 (fd : FuncData) : Rw := ⟨"_law_some_parcels", "_law_some_parcels", s30, n30, 3, [], K.b_law_some_parcels, 327, fd, none⟩
theorem sc30 : FnScope n30 (n30.take 3) (defScope s30) := ⟨rfl, rfl, rfl, by decide +kernel, rfl, by decide +kernel, by decide +kernel⟩
theorem tx30 (fd : FuncData) : RwTx ce (r30 fd) := ⟨sc30, (by decide : 3 ≤ n30.length), (by decide : ([] : List Nat).Nodup), (by decide : ∀ i ∈ ([] : List Nat), i < 3), .inr (by kernel_rfl)⟩
def r31 (fd : FuncData) : Rw := ⟨"_law_code", "_law_code", s31, n31, 1, [], K.b_law_code, 334, fd, none⟩
theorem sc31 : FnScope n31 (n31.take 1) (defScope s31) := ⟨rfl, rfl, rfl, by decide +kernel, rfl, by decide +kernel, by decide +kernel⟩
theorem tx31 (fd : FuncData) : RwTx ce (r31 fd) := ⟨sc31, (by decide : 1 ≤ n31.length), (by decide : ([] : List Nat).Nodup), (by decide : ∀ i ∈ ([] : List Nat), i < 1), .inr (by kernel_rfl)⟩
def r32 (fd : FuncData) : Rw := ⟨"_law_sum", "_law_sum", s32, n32, 2, [], K.b_law_sum, 341, fd, none⟩
theorem sc32 : FnScope n32 (n32.take 2) (defScope s32) := ⟨rfl, rfl, rfl, by decide +kernel, rfl, by decide +kernel, by decide +kernel⟩
theorem tx32 (fd : FuncData) : RwTx ce (r32 fd) := ⟨sc32, (by decide : 2 ≤ n32.length), (by decide : ([] : List Nat).Nodup), (by decide : ∀ i ∈ ([] : List Nat), i < 2), .inr (by kernel_rfl)⟩
def r33 (fd : FuncData) : Rw := ⟨"_law_journal", "_law_journal", s33, n33, 1, [], K.b_law_journal, 348, fd, none⟩
theorem sc33 : FnScope n33 (n33.take 1) (defScope s33) := ⟨rfl, rfl, rfl, by decide +kernel, rfl, by decide +kernel, by decide +kernel⟩
theorem tx33 (fd : FuncData) : RwTx ce (r33 fd) := ⟨sc33, (by decide : 1 ≤ n33.length), (by decide : ([] : List Nat).Nodup), (by decide : ∀ i ∈ ([] : List Nat), i < 1), .inr (by kernel_rfl)⟩
def r34 (fd : FuncData) : Rw := ⟨"law", "law", s34, n34, 1, [], K.b_law, 355, fd, none⟩
theorem sc34 : FnScope n34 (n34.take 1) (defScope s34) := ⟨rfl, rfl, rfl, by decide +kernel, rfl, by decide +kernel, by decide +kernel⟩
theorem tx34 (fd : FuncData) : RwTx ce (r34 fd) := ⟨sc34, (by decide : 1 ≤ n34.length), (by decide : ([] : List Nat).Nodup), (by decide : ∀ i ∈ ([] : List Nat), i < 1), .inr (by kernel_rfl)⟩
def R (fd0 fd1 fd2 fd3 fd4 fd5 fd6 fd7 fd8 fd9 fd10 fd11 fd12 fd13 fd14 fd15 fd16 fd17 fd18 fd19 fd20 fd21 fd22 fd23 fd24 fd25 fd26 fd27 fd28 fd29 fd30 fd31 fd32 fd33 fd34 : FuncData) : List Rw := [r0 fd0, r1 fd1, r2 fd2, r3 fd3, r4 fd4, r5 fd5, r6 fd6, r7 fd7, r8 fd8, r9 fd9, r10 fd10, r11 fd11, r12 fd12, r13 fd13, r14 fd14, r15 fd15, r16 fd16, r17 fd17, r18 fd18, r19 fd19, r20 fd20, r21 fd21, r22 fd22, r23 fd23, r24 fd24, r25 fd25, r26 fd26, r27 fd27, r28 fd28, r29 fd29, r30 fd30, r31 fd31, r32 fd32, r33 fd33, r34 fd34]
theorem tblR (fd0 fd1 fd2 fd3 fd4 fd5 fd6 fd7 fd8 fd9 fd10 fd11 fd12 fd13 fd14 fd15 fd16 fd17 fd18 fd19 fd20 fd21 fd22 fd23 fd24 fd25 fd26 fd27 fd28 fd29 fd30 fd31 fd32 fd33 fd34 : FuncData) : tblOf (R fd0 fd1 fd2 fd3 fd4 fd5 fd6 fd7 fd8 fd9 fd10 fd11 fd12 fd13 fd14 fd15 fd16 fd17 fd18 fd19 fd20 fd21 fd22 fd23 fd24 fd25 fd26 fd27 fd28 fd29 fd30 fd31 fd32 fd33 fd34) = K.T := by
  funext j
  have h : (R fd0 fd1 fd2 fd3 fd4 fd5 fd6 fd7 fd8 fd9 fd10 fd11 fd12 fd13 fd14 fd15 fd16 fd17 fd18 fd19 fd20 fd21 fd22 fd23 fd24 fd25 fd26 fd27 fd28 fd29 fd30 fd31 fd32 fd33 fd34).map Rw.F = K.Fs := rfl
  unfold tblOf K.T
  rw [← h, List.getElem?_map]
theorem forall_c {α : Type} {p : α → Prop} {x : α} {xs : List α} (h : p x) (g : ∀ y ∈ xs, p y) : ∀ y ∈ x :: xs, p y := List.forall_mem_cons.mpr ⟨h, g⟩
theorem forall_n {α : Type} {p : α → Prop} : ∀ y ∈ ([] : List α), p y := fun _ h => nomatch h
theorem lk_mem {α β : Type} [BEq α] [LawfulBEq α] {xs : List (α × β)} {x : α} {y : β} (h : xs.lookup x = some y) : (x, y) ∈ xs := by
  induction xs with
  | nil => cases h
  | cons p xs ih =>
    obtain ⟨a, b⟩ := p
    rw [List.lookup_cons] at h
    split at h
    · rename_i e
      have e := eq_of_beq e
      cases h
      rw [e]
      exact List.mem_cons_self
    · exact List.mem_cons_of_mem _ (ih h)
theorem all_mk {P : Program} {w : World} {K : PySem.W.Frag} {h : Heap} {mg : Str → Option Value} {fa Ca0 Ca1 Ea0 Ea1 Ea2 Ea3 : Addr} (X : K.In h) (KT : ∀ p ∈ ([84, 110] : List Addr), h.get? p = some (PySem.W.tabObj #[])) (G : h.Ns mainGlobals mg) (hfa : mg "law" = some (.ref fa))
    {gt0 gt1 gt2 gt3 : Tok}
    {od0 an0 od1 an1 od2 an2 od3 an3 od4 an4 od5 an5 od6 an6 od7 an7 od8 an8 od9 an9 od10 an10 od11 an11 od12 an12 od13 an13 od14 an14 od15 an15 od16 an16 od17 an17 od18 an18 od19 an19 od20 an20 od21 an21 od22 an22 od23 an23 od24 an24 od25 an25 od26 an26 od27 an27 od28 an28 od29 an29 od30 an30 od31 an31 od32 an32 od33 an33 od34 an34 : Option Addr} {sl0 sl1 sl2 sl3 sl4 sl5 sl6 sl7 sl8 sl9 sl10 sl11 sl12 sl13 sl14 sl15 sl16 sl17 sl18 sl19 sl20 sl21 sl22 sl23 sl24 sl25 sl26 sl27 sl28 sl29 sl30 sl31 sl32 sl33 sl34 : Array (Option Value)} {oc0 kV0 dc0 pm0 ct0 oc1 kV1 dc1 pm1 ct1 oc2 kV2 dc2 pm2 ct2 oc3 kV3 dc3 pm3 ct3 oc4 kV4 dc4 pm4 ct4 oc5 kV5 dc5 pm5 ct5 oc6 kV6 dc6 pm6 ct6 oc7 kV7 dc7 pm7 ct7 oc8 kV8 dc8 pm8 ct8 oc9 kV9 dc9 pm9 ct9 oc10 kV10 dc10 pm10 ct10 oc11 kV11 dc11 pm11 ct11 oc12 kV12 dc12 pm12 ct12 oc13 kV13 dc13 pm13 ct13 oc14 kV14 dc14 pm14 ct14 oc15 kV15 dc15 pm15 ct15 oc16 kV16 dc16 pm16 ct16 oc17 kV17 dc17 pm17 ct17 oc18 kV18 dc18 pm18 ct18 oc19 kV19 dc19 pm19 ct19 oc20 kV20 dc20 pm20 ct20 oc21 kV21 dc21 pm21 ct21 oc22 kV22 dc22 pm22 ct22 oc23 kV23 dc23 pm23 ct23 oc24 kV24 dc24 pm24 ct24 oc25 kV25 dc25 pm25 ct25 oc26 kV26 dc26 pm26 ct26 oc27 kV27 dc27 pm27 ct27 oc28 kV28 dc28 pm28 ct28 oc29 kV29 dc29 pm29 ct29 oc30 kV30 dc30 pm30 ct30 oc31 kV31 dc31 pm31 ct31 oc32 kV32 dc32 pm32 ct32 oc33 kV33 dc33 pm33 ct33 oc34 kV34 dc34 pm34 ct34 : Value}
    (aC0 : PySem.W.nsIn K mainGlobals "Promise" = some (some (.ref Ca0)))
    (aC1 : PySem.W.nsIn K mainGlobals "Receiver" = some (some (.ref Ca1)))
    (a0 : PySem.W.nsIn K mainGlobals "all_items" = some (some (.ref 75)))
    (l0 : K.lookup 75 = some ⟨oc0, od0, .func (PySem.W.fnOf "all_items" "all_items" (defArgs s0) (defBody s0) (defScope s0) .none kV0 dc0 pm0 an0 (.ref 74) ct0), sl0⟩)
    (c0 : PySem.W.codeIn K (.ref 74) "all_items" = true)
    (k0 : PySem.W.keepIn K (.ref 75) = true)
    (a1 : PySem.W.findIn K (.ref Ca0) "__init__" = some (some (.ref 87)))
    (i1 : PySem.W.isFn K (.ref 87) = true)
    (l1 : K.lookup 87 = some ⟨oc1, od1, .func (PySem.W.fnOf "__init__" "Promise.__init__" (defArgs s1) (defBody s1) (defScope s1) .none kV1 dc1 pm1 an1 (.ref 86) ct1), sl1⟩)
    (c1 : PySem.W.codeIn K (.ref 86) "Promise.__init__" = true)
    (k1 : PySem.W.keepIn K (.ref 87) = true)
    (a2 : PySem.W.nsIn K mainGlobals "relation_of" = some (some (.ref 101)))
    (l2 : K.lookup 101 = some ⟨oc2, od2, .func (PySem.W.fnOf "relation_of" "relation_of" (defArgs s2) (defBody s2) (defScope s2) .none kV2 dc2 pm2 an2 (.ref 100) ct2), sl2⟩)
    (c2 : PySem.W.codeIn K (.ref 100) "relation_of" = true)
    (k2 : PySem.W.keepIn K (.ref 101) = true)
    (a3 : PySem.W.nsIn K mainGlobals "item_keeps" = some (some (.ref 108)))
    (l3 : K.lookup 108 = some ⟨oc3, od3, .func (PySem.W.fnOf "item_keeps" "item_keeps" (defArgs s3) (defBody s3) (defScope s3) .none kV3 dc3 pm3 an3 (.ref 107) ct3), sl3⟩)
    (c3 : PySem.W.codeIn K (.ref 107) "item_keeps" = true)
    (k3 : PySem.W.keepIn K (.ref 108) = true)
    (a4 : PySem.W.nsIn K mainGlobals "keeps" = some (some (.ref 115)))
    (l4 : K.lookup 115 = some ⟨oc4, od4, .func (PySem.W.fnOf "keeps" "keeps" (defArgs s4) (defBody s4) (defScope s4) .none kV4 dc4 pm4 an4 (.ref 114) ct4), sl4⟩)
    (c4 : PySem.W.codeIn K (.ref 114) "keeps" = true)
    (k4 : PySem.W.keepIn K (.ref 115) = true)
    (a5 : PySem.W.nsIn K mainGlobals "is_integer" = some (some (.ref 122)))
    (l5 : K.lookup 122 = some ⟨oc5, od5, .func (PySem.W.fnOf "is_integer" "is_integer" (defArgs s5) (defBody s5) (defScope s5) .none kV5 dc5 pm5 an5 (.ref 121) ct5), sl5⟩)
    (c5 : PySem.W.codeIn K (.ref 121) "is_integer" = true)
    (k5 : PySem.W.keepIn K (.ref 122) = true)
    (a6 : PySem.W.nsIn K mainGlobals "is_parcel" = some (some (.ref 129)))
    (l6 : K.lookup 129 = some ⟨oc6, od6, .func (PySem.W.fnOf "is_parcel" "is_parcel" (defArgs s6) (defBody s6) (defScope s6) .none kV6 dc6 pm6 an6 (.ref 128) ct6), sl6⟩)
    (c6 : PySem.W.codeIn K (.ref 128) "is_parcel" = true)
    (k6 : PySem.W.keepIn K (.ref 129) = true)
    (a7 : PySem.W.nsIn K mainGlobals "count_kept" = some (some (.ref 134)))
    (l7 : K.lookup 134 = some ⟨oc7, od7, .func (PySem.W.fnOf "count_kept" "count_kept" (defArgs s7) (defBody s7) (defScope s7) .none kV7 dc7 pm7 an7 (.ref 133) ct7), sl7⟩)
    (c7 : PySem.W.codeIn K (.ref 133) "count_kept" = true)
    (k7 : PySem.W.keepIn K (.ref 134) = true)
    (a8 : PySem.W.nsIn K mainGlobals "codes_of" = some (some (.ref 139)))
    (l8 : K.lookup 139 = some ⟨oc8, od8, .func (PySem.W.fnOf "codes_of" "codes_of" (defArgs s8) (defBody s8) (defScope s8) .none kV8 dc8 pm8 an8 (.ref 138) ct8), sl8⟩)
    (c8 : PySem.W.codeIn K (.ref 138) "codes_of" = true)
    (k8 : PySem.W.keepIn K (.ref 139) = true)
    (a9 : PySem.W.nsIn K mainGlobals "checksum" = some (some (.ref 146)))
    (l9 : K.lookup 146 = some ⟨oc9, od9, .func (PySem.W.fnOf "checksum" "checksum" (defArgs s9) (defBody s9) (defScope s9) .none kV9 dc9 pm9 an9 (.ref 145) ct9), sl9⟩)
    (c9 : PySem.W.codeIn K (.ref 145) "checksum" = true)
    (k9 : PySem.W.keepIn K (.ref 146) = true)
    (a10 : PySem.W.nsIn K mainGlobals "words_of" = some (some (.ref 151)))
    (l10 : K.lookup 151 = some ⟨oc10, od10, .func (PySem.W.fnOf "words_of" "words_of" (defArgs s10) (defBody s10) (defScope s10) .none kV10 dc10 pm10 an10 (.ref 150) ct10), sl10⟩)
    (c10 : PySem.W.codeIn K (.ref 150) "words_of" = true)
    (k10 : PySem.W.keepIn K (.ref 151) = true)
    (a11 : PySem.W.findIn K (.ref Ca1) "__init__" = some (some (.ref 165)))
    (i11 : PySem.W.isFn K (.ref 165) = true)
    (l11 : K.lookup 165 = some ⟨oc11, od11, .func (PySem.W.fnOf "__init__" "Receiver.__init__" (defArgs s11) (defBody s11) (defScope s11) .none kV11 dc11 pm11 an11 (.ref 164) ct11), sl11⟩)
    (c11 : PySem.W.codeIn K (.ref 164) "Receiver.__init__" = true)
    (k11 : PySem.W.keepIn K (.ref 165) = true)
    (a12 : PySem.W.findIn K (.ref Ca1) "_can_pass" = some (some (.ref 172)))
    (i12 : PySem.W.isFn K (.ref 172) = true)
    (l12 : K.lookup 172 = some ⟨oc12, od12, .func (PySem.W.fnOf "_can_pass" "Receiver._can_pass" (defArgs s12) (defBody s12) (defScope s12) .none kV12 dc12 pm12 an12 (.ref 171) ct12), sl12⟩)
    (c12 : PySem.W.codeIn K (.ref 171) "Receiver._can_pass" = true)
    (k12 : PySem.W.keepIn K (.ref 172) = true)
    (a13 : PySem.W.findIn K (.ref Ca1) "_first_that_can" = some (some (.ref 179)))
    (i13 : PySem.W.isFn K (.ref 179) = true)
    (l13 : K.lookup 179 = some ⟨oc13, od13, .func (PySem.W.fnOf "_first_that_can" "Receiver._first_that_can" (defArgs s13) (defBody s13) (defScope s13) .none kV13 dc13 pm13 an13 (.ref 178) ct13), sl13⟩)
    (c13 : PySem.W.codeIn K (.ref 178) "Receiver._first_that_can" = true)
    (k13 : PySem.W.keepIn K (.ref 179) = true)
    (a14 : PySem.W.findIn K (.ref Ca1) "come" = some (some (.ref 184)))
    (i14 : PySem.W.isFn K (.ref 184) = true)
    (l14 : K.lookup 184 = some ⟨oc14, od14, .func (PySem.W.fnOf "come" "Receiver.come" (defArgs s14) (defBody s14) (defScope s14) .none kV14 dc14 pm14 an14 (.ref 183) ct14), sl14⟩)
    (c14 : PySem.W.codeIn K (.ref 183) "Receiver.come" = true)
    (k14 : PySem.W.keepIn K (.ref 184) = true)
    (a15 : PySem.W.findIn K (.ref Ca1) "journal" = some (some (.ref 210)))
    (i15 : PySem.W.isFn K (.ref 210) = true)
    (l15 : K.lookup 210 = some ⟨oc15, od15, .func (PySem.W.fnOf "journal" "Receiver.journal" (defArgs s15) (defBody s15) (defScope s15) .none kV15 dc15 pm15 an15 (.ref 209) ct15), sl15⟩)
    (c15 : PySem.W.codeIn K (.ref 209) "Receiver.journal" = true)
    (k15 : PySem.W.keepIn K (.ref 210) = true)
    (a16 : PySem.W.nsIn K mainGlobals "_law_cell" = some (some (.ref 231)))
    (l16 : K.lookup 231 = some ⟨oc16, od16, .func (PySem.W.fnOf "_law_cell" "_law_cell" (defArgs s16) (defBody s16) (defScope s16) .none kV16 dc16 pm16 an16 (.ref 230) ct16), sl16⟩)
    (c16 : PySem.W.codeIn K (.ref 230) "_law_cell" = true)
    (k16 : PySem.W.keepIn K (.ref 231) = true)
    (a17 : PySem.W.nsIn K mainGlobals "_law_row" = some (some (.ref 238)))
    (l17 : K.lookup 238 = some ⟨oc17, od17, .func (PySem.W.fnOf "_law_row" "_law_row" (defArgs s17) (defBody s17) (defScope s17) .none kV17 dc17 pm17 an17 (.ref 237) ct17), sl17⟩)
    (c17 : PySem.W.codeIn K (.ref 237) "_law_row" = true)
    (k17 : PySem.W.keepIn K (.ref 238) = true)
    (a18 : PySem.W.nsIn K mainGlobals "_law_word" = some (some (.ref 245)))
    (l18 : K.lookup 245 = some ⟨oc18, od18, .func (PySem.W.fnOf "_law_word" "_law_word" (defArgs s18) (defBody s18) (defScope s18) .none kV18 dc18 pm18 an18 (.ref 244) ct18), sl18⟩)
    (c18 : PySem.W.codeIn K (.ref 244) "_law_word" = true)
    (k18 : PySem.W.keepIn K (.ref 245) = true)
    (a19 : PySem.W.nsIn K mainGlobals "_law_words" = some (some (.ref 252)))
    (l19 : K.lookup 252 = some ⟨oc19, od19, .func (PySem.W.fnOf "_law_words" "_law_words" (defArgs s19) (defBody s19) (defScope s19) .none kV19 dc19 pm19 an19 (.ref 251) ct19), sl19⟩)
    (c19 : PySem.W.codeIn K (.ref 251) "_law_words" = true)
    (k19 : PySem.W.keepIn K (.ref 252) = true)
    (a20 : PySem.W.nsIn K mainGlobals "_law_names" = some (some (.ref 259)))
    (l20 : K.lookup 259 = some ⟨oc20, od20, .func (PySem.W.fnOf "_law_names" "_law_names" (defArgs s20) (defBody s20) (defScope s20) .none kV20 dc20 pm20 an20 (.ref 258) ct20), sl20⟩)
    (c20 : PySem.W.codeIn K (.ref 258) "_law_names" = true)
    (k20 : PySem.W.keepIn K (.ref 259) = true)
    (a21 : PySem.W.nsIn K mainGlobals "_law_items" = some (some (.ref 264)))
    (l21 : K.lookup 264 = some ⟨oc21, od21, .func (PySem.W.fnOf "_law_items" "_law_items" (defArgs s21) (defBody s21) (defScope s21) .none kV21 dc21 pm21 an21 (.ref 263) ct21), sl21⟩)
    (c21 : PySem.W.codeIn K (.ref 263) "_law_items" = true)
    (k21 : PySem.W.keepIn K (.ref 264) = true)
    (a22 : PySem.W.nsIn K mainGlobals "_law_some_items" = some (some (.ref 269)))
    (l22 : K.lookup 269 = some ⟨oc22, od22, .func (PySem.W.fnOf "_law_some_items" "_law_some_items" (defArgs s22) (defBody s22) (defScope s22) .none kV22 dc22 pm22 an22 (.ref 268) ct22), sl22⟩)
    (c22 : PySem.W.codeIn K (.ref 268) "_law_some_items" = true)
    (k22 : PySem.W.keepIn K (.ref 269) = true)
    (a23 : PySem.W.nsIn K mainGlobals "_law_promise_items" = some (some (.ref 276)))
    (l23 : K.lookup 276 = some ⟨oc23, od23, .func (PySem.W.fnOf "_law_promise_items" "_law_promise_items" (defArgs s23) (defBody s23) (defScope s23) .none kV23 dc23 pm23 an23 (.ref 275) ct23), sl23⟩)
    (c23 : PySem.W.codeIn K (.ref 275) "_law_promise_items" = true)
    (k23 : PySem.W.keepIn K (.ref 276) = true)
    (a24 : PySem.W.nsIn K mainGlobals "_law_relation" = some (some (.ref 283)))
    (l24 : K.lookup 283 = some ⟨oc24, od24, .func (PySem.W.fnOf "_law_relation" "_law_relation" (defArgs s24) (defBody s24) (defScope s24) .none kV24 dc24 pm24 an24 (.ref 282) ct24), sl24⟩)
    (c24 : PySem.W.codeIn K (.ref 282) "_law_relation" = true)
    (k24 : PySem.W.keepIn K (.ref 283) = true)
    (a25 : PySem.W.nsIn K mainGlobals "_law_item_keeps" = some (some (.ref 290)))
    (l25 : K.lookup 290 = some ⟨oc25, od25, .func (PySem.W.fnOf "_law_item_keeps" "_law_item_keeps" (defArgs s25) (defBody s25) (defScope s25) .none kV25 dc25 pm25 an25 (.ref 289) ct25), sl25⟩)
    (c25 : PySem.W.codeIn K (.ref 289) "_law_item_keeps" = true)
    (k25 : PySem.W.keepIn K (.ref 290) = true)
    (a26 : PySem.W.nsIn K mainGlobals "_law_keeps" = some (some (.ref 295)))
    (l26 : K.lookup 295 = some ⟨oc26, od26, .func (PySem.W.fnOf "_law_keeps" "_law_keeps" (defArgs s26) (defBody s26) (defScope s26) .none kV26 dc26 pm26 an26 (.ref 294) ct26), sl26⟩)
    (c26 : PySem.W.codeIn K (.ref 294) "_law_keeps" = true)
    (k26 : PySem.W.keepIn K (.ref 295) = true)
    (a27 : PySem.W.nsIn K mainGlobals "_law_letters" = some (some (.ref 300)))
    (l27 : K.lookup 300 = some ⟨oc27, od27, .func (PySem.W.fnOf "_law_letters" "_law_letters" (defArgs s27) (defBody s27) (defScope s27) .none kV27 dc27 pm27 an27 (.ref 299) ct27), sl27⟩)
    (c27 : PySem.W.codeIn K (.ref 299) "_law_letters" = true)
    (k27 : PySem.W.keepIn K (.ref 300) = true)
    (a28 : PySem.W.nsIn K mainGlobals "_law_parcels" = some (some (.ref 305)))
    (l28 : K.lookup 305 = some ⟨oc28, od28, .func (PySem.W.fnOf "_law_parcels" "_law_parcels" (defArgs s28) (defBody s28) (defScope s28) .none kV28 dc28 pm28 an28 (.ref 304) ct28), sl28⟩)
    (c28 : PySem.W.codeIn K (.ref 304) "_law_parcels" = true)
    (k28 : PySem.W.keepIn K (.ref 305) = true)
    (a29 : PySem.W.nsIn K mainGlobals "_law_mixed" = some (some (.ref 322)))
    (l29 : K.lookup 322 = some ⟨oc29, od29, .func (PySem.W.fnOf "_law_mixed" "_law_mixed" (defArgs s29) (defBody s29) (defScope s29) .none kV29 dc29 pm29 an29 (.ref 321) ct29), sl29⟩)
    (c29 : PySem.W.codeIn K (.ref 321) "_law_mixed" = true)
    (k29 : PySem.W.keepIn K (.ref 322) = true)
    (a30 : PySem.W.nsIn K mainGlobals "_law_some_parcels" = some (some (.ref 327)))
    (l30 : K.lookup 327 = some ⟨oc30, od30, .func (PySem.W.fnOf "_law_some_parcels" "_law_some_parcels" (defArgs s30) (defBody s30) (defScope s30) .none kV30 dc30 pm30 an30 (.ref 326) ct30), sl30⟩)
    (c30 : PySem.W.codeIn K (.ref 326) "_law_some_parcels" = true)
    (k30 : PySem.W.keepIn K (.ref 327) = true)
    (a31 : PySem.W.nsIn K mainGlobals "_law_code" = some (some (.ref 334)))
    (l31 : K.lookup 334 = some ⟨oc31, od31, .func (PySem.W.fnOf "_law_code" "_law_code" (defArgs s31) (defBody s31) (defScope s31) .none kV31 dc31 pm31 an31 (.ref 333) ct31), sl31⟩)
    (c31 : PySem.W.codeIn K (.ref 333) "_law_code" = true)
    (k31 : PySem.W.keepIn K (.ref 334) = true)
    (a32 : PySem.W.nsIn K mainGlobals "_law_sum" = some (some (.ref 341)))
    (l32 : K.lookup 341 = some ⟨oc32, od32, .func (PySem.W.fnOf "_law_sum" "_law_sum" (defArgs s32) (defBody s32) (defScope s32) .none kV32 dc32 pm32 an32 (.ref 340) ct32), sl32⟩)
    (c32 : PySem.W.codeIn K (.ref 340) "_law_sum" = true)
    (k32 : PySem.W.keepIn K (.ref 341) = true)
    (a33 : PySem.W.nsIn K mainGlobals "_law_journal" = some (some (.ref 348)))
    (l33 : K.lookup 348 = some ⟨oc33, od33, .func (PySem.W.fnOf "_law_journal" "_law_journal" (defArgs s33) (defBody s33) (defScope s33) .none kV33 dc33 pm33 an33 (.ref 347) ct33), sl33⟩)
    (c33 : PySem.W.codeIn K (.ref 347) "_law_journal" = true)
    (k33 : PySem.W.keepIn K (.ref 348) = true)
    (a34 : PySem.W.nsIn K mainGlobals "law" = some (some (.ref 355)))
    (l34 : K.lookup 355 = some ⟨oc34, od34, .func (PySem.W.fnOf "law" "law" (defArgs s34) (defBody s34) (defScope s34) .none kV34 dc34 pm34 an34 (.ref 354) ct34), sl34⟩)
    (c34 : PySem.W.codeIn K (.ref 354) "law" = true)
    (k34 : PySem.W.keepIn K (.ref 355) = true)
    (pg0 : PySem.W.plainGet K Ca0 Str.empty = true)
    (hd0 : PySem.W.hasDictIn K Ca0 = true)
    (po0 : PySem.W.plainOver K Ca0 = true)
    (sa0 : PySem.W.findIn K (.ref Ca0) "__setattr__" = some (some (.builtin "object.__setattr__")))
    (mk0 : PySem.W.makesIn K Ca0 = true)
    (kc0 : PySem.W.keepIn K (.ref Ca0) = true)
    (nf0_0 : PySem.W.findIn K (.ref Ca0) "names" = some none)
    (nf0_1 : PySem.W.findIn K (.ref Ca0) "entries" = some none)
    (nf0_2 : PySem.W.findIn K (.ref Ca0) "promise" = some none)
    (nf0_3 : PySem.W.findIn K (.ref Ca0) "_passed" = some none)
    (nf0_4 : PySem.W.findIn K (.ref Ca0) "_waiting" = some none)
    (nf0_5 : PySem.W.findIn K (.ref Ca0) "_lines" = some none)
    (nf0_6 : PySem.W.findIn K (.ref Ca0) "_total" = some none)
    (pg1 : PySem.W.plainGet K Ca1 Str.empty = true)
    (hd1 : PySem.W.hasDictIn K Ca1 = true)
    (po1 : PySem.W.plainOver K Ca1 = true)
    (sa1 : PySem.W.findIn K (.ref Ca1) "__setattr__" = some (some (.builtin "object.__setattr__")))
    (mk1 : PySem.W.makesIn K Ca1 = true)
    (kc1 : PySem.W.keepIn K (.ref Ca1) = true)
    (nf1_0 : PySem.W.findIn K (.ref Ca1) "names" = some none)
    (nf1_1 : PySem.W.findIn K (.ref Ca1) "entries" = some none)
    (nf1_2 : PySem.W.findIn K (.ref Ca1) "promise" = some none)
    (nf1_3 : PySem.W.findIn K (.ref Ca1) "_passed" = some none)
    (nf1_4 : PySem.W.findIn K (.ref Ca1) "_waiting" = some none)
    (nf1_5 : PySem.W.findIn K (.ref Ca1) "_lines" = some none)
    (nf1_6 : PySem.W.findIn K (.ref Ca1) "_total" = some none)
    (aE0 : PySem.W.nsIn K mainGlobals "OrderError" = some (some (.ref Ea0)))
    (aE1 : PySem.W.nsIn K mainGlobals "InvalidPromise" = some (some (.ref Ea1)))
    (aE2 : PySem.W.nsIn K mainGlobals "InvalidParcel" = some (some (.ref Ea2)))
    (aE3 : PySem.W.nsIn K mainGlobals "Full" = some (some (.ref Ea3)))
    (xg0 : PySem.W.findIn K (.ref Ea0) "__getattribute__" = some (some (.builtin "BaseException.__getattribute__")))
    (xk0 : PySem.W.findIn K (.ref Ea0) "__getattr__" = some none)
    (xs0 : PySem.W.subIn K (.ref Ea0) (.type "BaseException") = some true)
    (xd0 : PySem.W.hasDictIn K Ea0 = true)
    (xa0 : PySem.W.findIn K (.ref Ea0) "__class__" = some (some (.builtin "object.__class__")))
    (xm0 : PySem.W.mroIn K Ea0 (.type "object") = some true)
    (xp0 : PySem.W.keepIn K (.ref Ea0) = true)
    (xt0 : PySem.W.typeIn K (.ref Ea0) = some (.type "type"))
    (xx0 : PySem.W.excIn K Ea0 [.type "ValueError", .type "Exception", .type "BaseException", .type "object"] "ValueError.__new__" = true)
    (xg1 : PySem.W.findIn K (.ref Ea1) "__getattribute__" = some (some (.builtin "BaseException.__getattribute__")))
    (xk1 : PySem.W.findIn K (.ref Ea1) "__getattr__" = some none)
    (xs1 : PySem.W.subIn K (.ref Ea1) (.type "BaseException") = some true)
    (xd1 : PySem.W.hasDictIn K Ea1 = true)
    (xa1 : PySem.W.findIn K (.ref Ea1) "__class__" = some (some (.builtin "object.__class__")))
    (xm1 : PySem.W.mroIn K Ea1 (.type "object") = some true)
    (xp1 : PySem.W.keepIn K (.ref Ea1) = true)
    (xt1 : PySem.W.typeIn K (.ref Ea1) = some (.type "type"))
    (xx1 : PySem.W.excIn K Ea1 [.type "ValueError", .type "Exception", .type "BaseException", .type "object"] "ValueError.__new__" = true)
    (xg2 : PySem.W.findIn K (.ref Ea2) "__getattribute__" = some (some (.builtin "BaseException.__getattribute__")))
    (xk2 : PySem.W.findIn K (.ref Ea2) "__getattr__" = some none)
    (xs2 : PySem.W.subIn K (.ref Ea2) (.type "BaseException") = some true)
    (xd2 : PySem.W.hasDictIn K Ea2 = true)
    (xa2 : PySem.W.findIn K (.ref Ea2) "__class__" = some (some (.builtin "object.__class__")))
    (xm2 : PySem.W.mroIn K Ea2 (.type "object") = some true)
    (xp2 : PySem.W.keepIn K (.ref Ea2) = true)
    (xt2 : PySem.W.typeIn K (.ref Ea2) = some (.type "type"))
    (xx2 : PySem.W.excIn K Ea2 [.type "ValueError", .type "Exception", .type "BaseException", .type "object"] "ValueError.__new__" = true)
    (xg3 : PySem.W.findIn K (.ref Ea3) "__getattribute__" = some (some (.builtin "BaseException.__getattribute__")))
    (xk3 : PySem.W.findIn K (.ref Ea3) "__getattr__" = some none)
    (xs3 : PySem.W.subIn K (.ref Ea3) (.type "BaseException") = some true)
    (xd3 : PySem.W.hasDictIn K Ea3 = true)
    (xa3 : PySem.W.findIn K (.ref Ea3) "__class__" = some (some (.builtin "object.__class__")))
    (xm3 : PySem.W.mroIn K Ea3 (.type "object") = some true)
    (xp3 : PySem.W.keepIn K (.ref Ea3) = true)
    (xt3 : PySem.W.typeIn K (.ref Ea3) = some (.type "type"))
    (xx3 : PySem.W.excIn K Ea3 [.type "ValueError", .type "Exception", .type "BaseException", .type "object"] "ValueError.__new__" = true)
    (xn : PySem.W.specialIn K (.builtin "object.__class__") "__get__" = some (some (.builtin "getset_descriptor.__get__")))
    (xT : PySem.W.takesIn K (.builtin "object.__class__") = some true)
    (ky0_0 : PySem.W.kitOne K (.ref Ea0) (.ref Ea0) = some true)
    (kx0_0 : PySem.W.exmOne K (.ref Ea0) (.ref Ea0) = some true)
    (ky1_0 : PySem.W.kitOne K (.ref Ea1) (.ref Ea0) = some true)
    (kx1_0 : PySem.W.exmOne K (.ref Ea1) (.ref Ea0) = some true)
    (ky2_0 : PySem.W.kitOne K (.ref Ea2) (.ref Ea0) = some true)
    (kx2_0 : PySem.W.exmOne K (.ref Ea2) (.ref Ea0) = some true)
    (ky3_0 : PySem.W.kitOne K (.ref Ea3) (.ref Ea0) = some true)
    (kx3_0 : PySem.W.exmOne K (.ref Ea3) (.ref Ea0) = some true)
    (ky1_1 : PySem.W.kitOne K (.ref Ea1) (.ref Ea1) = some true)
    (kx1_1 : PySem.W.exmOne K (.ref Ea1) (.ref Ea1) = some true)
    (kn0_1 : PySem.W.kitOne K (.ref Ea0) (.ref Ea1) = some false)
    (kn2_1 : PySem.W.kitOne K (.ref Ea2) (.ref Ea1) = some false)
    (kn3_1 : PySem.W.kitOne K (.ref Ea3) (.ref Ea1) = some false)
    (ky2_2 : PySem.W.kitOne K (.ref Ea2) (.ref Ea2) = some true)
    (kx2_2 : PySem.W.exmOne K (.ref Ea2) (.ref Ea2) = some true)
    (kn0_2 : PySem.W.kitOne K (.ref Ea0) (.ref Ea2) = some false)
    (kn1_2 : PySem.W.kitOne K (.ref Ea1) (.ref Ea2) = some false)
    (kn3_2 : PySem.W.kitOne K (.ref Ea3) (.ref Ea2) = some false)
    (ky3_3 : PySem.W.kitOne K (.ref Ea3) (.ref Ea3) = some true)
    (kx3_3 : PySem.W.exmOne K (.ref Ea3) (.ref Ea3) = some true)
    (kn0_3 : PySem.W.kitOne K (.ref Ea0) (.ref Ea3) = some false)
    (kn1_3 : PySem.W.kitOne K (.ref Ea1) (.ref Ea3) = some false)
    (kn2_3 : PySem.W.kitOne K (.ref Ea2) (.ref Ea3) = some false)
    (bl0 : PySem.W.nsIn K mainGlobals "len" = some none)
    (bl1 : PySem.W.nsIn K mainGlobals "int" = some none)
    (bl2 : PySem.W.nsIn K mainGlobals "str" = some none)
    (bl3 : PySem.W.nsIn K mainGlobals "tuple" = some none)
    (bl4 : PySem.W.nsIn K mainGlobals "list" = some none)
    (bl5 : PySem.W.nsIn K mainGlobals "bool" = some none)
    (bl6 : PySem.W.nsIn K mainGlobals "dict" = some none)
    (bl7 : PySem.W.nsIn K mainGlobals "isinstance" = some none)
    (bl8 : PySem.W.nsIn K mainGlobals "range" = some none)
    (bl9 : PySem.W.nsIn K mainGlobals "enumerate" = some none)
    (bl10 : PySem.W.nsIn K mainGlobals "zip" = some none)
    (bl11 : PySem.W.nsIn K mainGlobals "reversed" = some none)
    (bl12 : PySem.W.nsIn K mainGlobals "any" = some none)
    (bl13 : PySem.W.nsIn K mainGlobals "all" = some none)
    (bl14 : PySem.W.nsIn K mainGlobals "sorted" = some none)
    (bl15 : PySem.W.nsIn K mainGlobals "repr" = some none)
    (bl16 : PySem.W.nsIn K mainGlobals "max" = some none)
    (bl17 : PySem.W.nsIn K mainGlobals "min" = some none)
    (bl18 : PySem.W.nsIn K mainGlobals "ord" = some none)
    (gl0 : PySem.W.nsIn K mainGlobals "MOST_CAME" = some (some (.int 300 gt0)))
    (gl1 : PySem.W.nsIn K mainGlobals "MOST_NUMBER" = some (some (.int 1000000 gt1)))
    (gl2 : PySem.W.nsIn K mainGlobals "MOST_AHEAD" = some (some (.int 1000 gt2)))
    (gl3 : PySem.W.nsIn K mainGlobals "MODULUS" = some (some (.int 65521 gt3)))
    (t1 : PySem.W.codeHdIn K 86 84 = true)
    (u1 : K.lookup 84 = none)
    (t4 : PySem.W.codeHdIn K 114 110 = true)
    (u4 : K.lookup 110 = none)
    : ∃ (K : PySem.W.Frag) (cs : List (Addr × Addr)), K.In h ∧ (∀ p ∈ cs, h.get? p.2 = some { cls := .none, data := .fields #[] }) ∧ (∀ p ∈ cs, K.lookup p.2 = none) ∧ (∀ p ∈ cs, PySem.W.CodeHd h p.1 p.2) ∧
      ∀ base : Heap, K.In base → base.Ns mainGlobals mg → (∀ p ∈ cs, GxR.TabB base mg p.1 p.2) → LawG P w K mg fa cs 63 base := by
  have e := hfa.symm.trans (PySem.W.mg_of X G a34)
  cases e
  refine ⟨K, [(86, 84), (114, 110)], X, (forall_c (KT 84 (by decide)) (forall_c (KT 110 (by decide)) forall_n)), (forall_c u1 (forall_c u4 forall_n)), (forall_c (PySem.W.codeHd_of_K X t1) (forall_c (PySem.W.codeHd_of_K X t4) forall_n)), fun base B1 B2 B3 => ?_⟩
  let cl : Nat → Addr := fun j => match j with | 0 => Ca0 | 1 => Ca1 | _ => Ca0
  let ec : Nat → Addr := fun j => [Ea0, Ea1, Ea2, Ea3].getD j Ea0
  let c : C0 := ⟨⟨K, cl, [84, 110], ec⟩, P, w, mg, base, _root_.K.gv⟩
  let RR : List Rw := R (PySem.W.fnOf "all_items" "all_items" (defArgs s0) (defBody s0) (defScope s0) .none kV0 dc0 pm0 an0 (.ref 74) ct0) (PySem.W.fnOf "__init__" "Promise.__init__" (defArgs s1) (defBody s1) (defScope s1) .none kV1 dc1 pm1 an1 (.ref 86) ct1) (PySem.W.fnOf "relation_of" "relation_of" (defArgs s2) (defBody s2) (defScope s2) .none kV2 dc2 pm2 an2 (.ref 100) ct2) (PySem.W.fnOf "item_keeps" "item_keeps" (defArgs s3) (defBody s3) (defScope s3) .none kV3 dc3 pm3 an3 (.ref 107) ct3) (PySem.W.fnOf "keeps" "keeps" (defArgs s4) (defBody s4) (defScope s4) .none kV4 dc4 pm4 an4 (.ref 114) ct4) (PySem.W.fnOf "is_integer" "is_integer" (defArgs s5) (defBody s5) (defScope s5) .none kV5 dc5 pm5 an5 (.ref 121) ct5) (PySem.W.fnOf "is_parcel" "is_parcel" (defArgs s6) (defBody s6) (defScope s6) .none kV6 dc6 pm6 an6 (.ref 128) ct6) (PySem.W.fnOf "count_kept" "count_kept" (defArgs s7) (defBody s7) (defScope s7) .none kV7 dc7 pm7 an7 (.ref 133) ct7) (PySem.W.fnOf "codes_of" "codes_of" (defArgs s8) (defBody s8) (defScope s8) .none kV8 dc8 pm8 an8 (.ref 138) ct8) (PySem.W.fnOf "checksum" "checksum" (defArgs s9) (defBody s9) (defScope s9) .none kV9 dc9 pm9 an9 (.ref 145) ct9) (PySem.W.fnOf "words_of" "words_of" (defArgs s10) (defBody s10) (defScope s10) .none kV10 dc10 pm10 an10 (.ref 150) ct10) (PySem.W.fnOf "__init__" "Receiver.__init__" (defArgs s11) (defBody s11) (defScope s11) .none kV11 dc11 pm11 an11 (.ref 164) ct11) (PySem.W.fnOf "_can_pass" "Receiver._can_pass" (defArgs s12) (defBody s12) (defScope s12) .none kV12 dc12 pm12 an12 (.ref 171) ct12) (PySem.W.fnOf "_first_that_can" "Receiver._first_that_can" (defArgs s13) (defBody s13) (defScope s13) .none kV13 dc13 pm13 an13 (.ref 178) ct13) (PySem.W.fnOf "come" "Receiver.come" (defArgs s14) (defBody s14) (defScope s14) .none kV14 dc14 pm14 an14 (.ref 183) ct14) (PySem.W.fnOf "journal" "Receiver.journal" (defArgs s15) (defBody s15) (defScope s15) .none kV15 dc15 pm15 an15 (.ref 209) ct15) (PySem.W.fnOf "_law_cell" "_law_cell" (defArgs s16) (defBody s16) (defScope s16) .none kV16 dc16 pm16 an16 (.ref 230) ct16) (PySem.W.fnOf "_law_row" "_law_row" (defArgs s17) (defBody s17) (defScope s17) .none kV17 dc17 pm17 an17 (.ref 237) ct17) (PySem.W.fnOf "_law_word" "_law_word" (defArgs s18) (defBody s18) (defScope s18) .none kV18 dc18 pm18 an18 (.ref 244) ct18) (PySem.W.fnOf "_law_words" "_law_words" (defArgs s19) (defBody s19) (defScope s19) .none kV19 dc19 pm19 an19 (.ref 251) ct19) (PySem.W.fnOf "_law_names" "_law_names" (defArgs s20) (defBody s20) (defScope s20) .none kV20 dc20 pm20 an20 (.ref 258) ct20) (PySem.W.fnOf "_law_items" "_law_items" (defArgs s21) (defBody s21) (defScope s21) .none kV21 dc21 pm21 an21 (.ref 263) ct21) (PySem.W.fnOf "_law_some_items" "_law_some_items" (defArgs s22) (defBody s22) (defScope s22) .none kV22 dc22 pm22 an22 (.ref 268) ct22) (PySem.W.fnOf "_law_promise_items" "_law_promise_items" (defArgs s23) (defBody s23) (defScope s23) .none kV23 dc23 pm23 an23 (.ref 275) ct23) (PySem.W.fnOf "_law_relation" "_law_relation" (defArgs s24) (defBody s24) (defScope s24) .none kV24 dc24 pm24 an24 (.ref 282) ct24) (PySem.W.fnOf "_law_item_keeps" "_law_item_keeps" (defArgs s25) (defBody s25) (defScope s25) .none kV25 dc25 pm25 an25 (.ref 289) ct25) (PySem.W.fnOf "_law_keeps" "_law_keeps" (defArgs s26) (defBody s26) (defScope s26) .none kV26 dc26 pm26 an26 (.ref 294) ct26) (PySem.W.fnOf "_law_letters" "_law_letters" (defArgs s27) (defBody s27) (defScope s27) .none kV27 dc27 pm27 an27 (.ref 299) ct27) (PySem.W.fnOf "_law_parcels" "_law_parcels" (defArgs s28) (defBody s28) (defScope s28) .none kV28 dc28 pm28 an28 (.ref 304) ct28) (PySem.W.fnOf "_law_mixed" "_law_mixed" (defArgs s29) (defBody s29) (defScope s29) .none kV29 dc29 pm29 an29 (.ref 321) ct29) (PySem.W.fnOf "_law_some_parcels" "_law_some_parcels" (defArgs s30) (defBody s30) (defScope s30) .none kV30 dc30 pm30 an30 (.ref 326) ct30) (PySem.W.fnOf "_law_code" "_law_code" (defArgs s31) (defBody s31) (defScope s31) .none kV31 dc31 pm31 an31 (.ref 333) ct31) (PySem.W.fnOf "_law_sum" "_law_sum" (defArgs s32) (defBody s32) (defScope s32) .none kV32 dc32 pm32 an32 (.ref 340) ct32) (PySem.W.fnOf "_law_journal" "_law_journal" (defArgs s33) (defBody s33) (defScope s33) .none kV33 dc33 pm33 an33 (.ref 347) ct33) (PySem.W.fnOf "law" "law" (defArgs s34) (defBody s34) (defScope s34) .none kV34 dc34 pm34 an34 (.ref 354) ct34)
  have V : Env1 c RR ce := {
    bl := (forall_c (PySem.W.mg_none_of X G bl0) (forall_c (PySem.W.mg_none_of X G bl1) (forall_c (PySem.W.mg_none_of X G bl2) (forall_c (PySem.W.mg_none_of X G bl3) (forall_c (PySem.W.mg_none_of X G bl4) (forall_c (PySem.W.mg_none_of X G bl5) (forall_c (PySem.W.mg_none_of X G bl6) (forall_c (PySem.W.mg_none_of X G bl7) (forall_c (PySem.W.mg_none_of X G bl8) (forall_c (PySem.W.mg_none_of X G bl9) (forall_c (PySem.W.mg_none_of X G bl10) (forall_c (PySem.W.mg_none_of X G bl11) (forall_c (PySem.W.mg_none_of X G bl12) (forall_c (PySem.W.mg_none_of X G bl13) (forall_c (PySem.W.mg_none_of X G bl14) (forall_c (PySem.W.mg_none_of X G bl15) (forall_c (PySem.W.mg_none_of X G bl16) (forall_c (PySem.W.mg_none_of X G bl17) (forall_c (PySem.W.mg_none_of X G bl18) forall_n)))))))))))))))))))
    fn := fun x j np hl => by
      have z : ∀ p ∈ fs, ∃ r, RR[p.2.1]? = some r ∧ r.np = p.2.2 ∧ r.is = [] ∧ mg p.1 = some (.ref r.f) := (forall_c ⟨_, rfl, rfl, rfl, PySem.W.mg_of X G a0⟩ (forall_c ⟨_, rfl, rfl, rfl, PySem.W.mg_of X G a2⟩ (forall_c ⟨_, rfl, rfl, rfl, PySem.W.mg_of X G a3⟩ (forall_c ⟨_, rfl, rfl, rfl, PySem.W.mg_of X G a4⟩ (forall_c ⟨_, rfl, rfl, rfl, PySem.W.mg_of X G a5⟩ (forall_c ⟨_, rfl, rfl, rfl, PySem.W.mg_of X G a6⟩ (forall_c ⟨_, rfl, rfl, rfl, PySem.W.mg_of X G a7⟩ (forall_c ⟨_, rfl, rfl, rfl, PySem.W.mg_of X G a8⟩ (forall_c ⟨_, rfl, rfl, rfl, PySem.W.mg_of X G a9⟩ (forall_c ⟨_, rfl, rfl, rfl, PySem.W.mg_of X G a10⟩ (forall_c ⟨_, rfl, rfl, rfl, PySem.W.mg_of X G a16⟩ (forall_c ⟨_, rfl, rfl, rfl, PySem.W.mg_of X G a17⟩ (forall_c ⟨_, rfl, rfl, rfl, PySem.W.mg_of X G a18⟩ (forall_c ⟨_, rfl, rfl, rfl, PySem.W.mg_of X G a19⟩ (forall_c ⟨_, rfl, rfl, rfl, PySem.W.mg_of X G a20⟩ (forall_c ⟨_, rfl, rfl, rfl, PySem.W.mg_of X G a21⟩ (forall_c ⟨_, rfl, rfl, rfl, PySem.W.mg_of X G a22⟩ (forall_c ⟨_, rfl, rfl, rfl, PySem.W.mg_of X G a23⟩ (forall_c ⟨_, rfl, rfl, rfl, PySem.W.mg_of X G a24⟩ (forall_c ⟨_, rfl, rfl, rfl, PySem.W.mg_of X G a25⟩ (forall_c ⟨_, rfl, rfl, rfl, PySem.W.mg_of X G a26⟩ (forall_c ⟨_, rfl, rfl, rfl, PySem.W.mg_of X G a27⟩ (forall_c ⟨_, rfl, rfl, rfl, PySem.W.mg_of X G a28⟩ (forall_c ⟨_, rfl, rfl, rfl, PySem.W.mg_of X G a29⟩ (forall_c ⟨_, rfl, rfl, rfl, PySem.W.mg_of X G a30⟩ (forall_c ⟨_, rfl, rfl, rfl, PySem.W.mg_of X G a31⟩ (forall_c ⟨_, rfl, rfl, rfl, PySem.W.mg_of X G a32⟩ (forall_c ⟨_, rfl, rfl, rfl, PySem.W.mg_of X G a33⟩ (forall_c ⟨_, rfl, rfl, rfl, PySem.W.mg_of X G a34⟩ forall_n)))))))))))))))))))))))))))))
      exact z _ (lk_mem hl)
    fm := fun x j np is hl => by
      have z : ∀ p ∈ fm, ∃ r, RR[p.2.1]? = some r ∧ r.np = p.2.2.1 ∧ r.is = p.2.2.2 ∧ mg p.1 = some (.ref r.f) := forall_n
      exact z _ (lk_mem hl)
    mt := fun x k j np is hl => by
      have z : ∀ p ∈ ms, ∃ r, RR[p.2.2.1]? = some r ∧ r.np = p.2.2.2.1 ∧ r.is = p.2.2.2.2 ∧ L2.Meth K (cl p.2.1) p.1 r.f := (forall_c ⟨_, rfl, rfl, rfl, ⟨a12, i12, k12⟩⟩ (forall_c ⟨_, rfl, rfl, rfl, ⟨a13, i13, k13⟩⟩ (forall_c ⟨_, rfl, rfl, rfl, ⟨a14, i14, k14⟩⟩ (forall_c ⟨_, rfl, rfl, rfl, ⟨a15, i15, k15⟩⟩ forall_n))))
      exact z _ (lk_mem hl)
    cl := fun x k j np hl => by
      have z : ∀ p ∈ cs, ∃ r, RR[p.2.2.1]? = some r ∧ r.np = p.2.2.2 ∧ r.is = [0] ∧ L2.Mk K (cl p.2.1) r.f ∧ mg p.1 = some (.ref (cl p.2.1)) := (forall_c ⟨_, rfl, rfl, rfl, ⟨mk0, a1, i1, kc0⟩, PySem.W.mg_of X G aC0⟩ (forall_c ⟨_, rfl, rfl, rfl, ⟨mk1, a11, i11, kc1⟩, PySem.W.mg_of X G aC1⟩ forall_n))
      exact z _ (lk_mem hl)
    gl := fun x ie hl => by
      have z : ∀ p ∈ gs, ∃ v u d, mg p.1 = some u ∧ RelV v u ∧ (∀ Φ ρ, ev Φ c.gv p.2 ρ = .ok d) ∧ ∀ H Fz, Own K cl H Fz v d [] := (forall_c ⟨V.int 300, _, D.int 300, PySem.W.mg_of X G gl0, ⟨_, rfl⟩, fun Φ ρ => by simp only [ev], fun H Fz => .int _⟩ (forall_c ⟨V.int 1000000, _, D.int 1000000, PySem.W.mg_of X G gl1, ⟨_, rfl⟩, fun Φ ρ => by simp only [ev], fun H Fz => .int _⟩ (forall_c ⟨V.int 1000, _, D.int 1000, PySem.W.mg_of X G gl2, ⟨_, rfl⟩, fun Φ ρ => by simp only [ev], fun H Fz => .int _⟩ (forall_c ⟨V.int 65521, _, D.int 65521, PySem.W.mg_of X G gl3, ⟨_, rfl⟩, fun Φ ρ => by simp only [ev], fun H Fz => .int _⟩ forall_n))))
      exact z _ (lk_mem hl)
    ci := fun x j ys ns hl => nomatch hl
    ex := fun x j ys ns hl => by
      have z : ∀ p ∈ es, mg p.1 = some (.ref (ec p.2.1)) ∧ (∀ a ∈ p.2.2.1 ++ p.2.2.2, L2.ExcC K (ec a)) ∧ (∀ a ∈ p.2.2.1, PySem.W.kitOne K (.ref (ec a)) (.ref (ec p.2.1)) = some true) ∧ (∀ a ∈ p.2.2.1, PySem.W.exmOne K (.ref (ec a)) (.ref (ec p.2.1)) = some true) ∧ ∀ a ∈ p.2.2.2, PySem.W.kitOne K (.ref (ec a)) (.ref (ec p.2.1)) = some false := (forall_c ⟨PySem.W.mg_of X G aE0, (forall_c (⟨xg0, xk0, xs0, xd0, xa0, xn, xT, xm0⟩ : L2.ExcC K Ea0) (forall_c (⟨xg1, xk1, xs1, xd1, xa1, xn, xT, xm1⟩ : L2.ExcC K Ea1) (forall_c (⟨xg2, xk2, xs2, xd2, xa2, xn, xT, xm2⟩ : L2.ExcC K Ea2) (forall_c (⟨xg3, xk3, xs3, xd3, xa3, xn, xT, xm3⟩ : L2.ExcC K Ea3) forall_n)))), (forall_c ky0_0 (forall_c ky1_0 (forall_c ky2_0 (forall_c ky3_0 forall_n)))), (forall_c kx0_0 (forall_c kx1_0 (forall_c kx2_0 (forall_c kx3_0 forall_n)))), forall_n⟩ (forall_c ⟨PySem.W.mg_of X G aE1, (forall_c (⟨xg1, xk1, xs1, xd1, xa1, xn, xT, xm1⟩ : L2.ExcC K Ea1) (forall_c (⟨xg0, xk0, xs0, xd0, xa0, xn, xT, xm0⟩ : L2.ExcC K Ea0) (forall_c (⟨xg2, xk2, xs2, xd2, xa2, xn, xT, xm2⟩ : L2.ExcC K Ea2) (forall_c (⟨xg3, xk3, xs3, xd3, xa3, xn, xT, xm3⟩ : L2.ExcC K Ea3) forall_n)))), (forall_c ky1_1 forall_n), (forall_c kx1_1 forall_n), (forall_c kn0_1 (forall_c kn2_1 (forall_c kn3_1 forall_n)))⟩ (forall_c ⟨PySem.W.mg_of X G aE2, (forall_c (⟨xg2, xk2, xs2, xd2, xa2, xn, xT, xm2⟩ : L2.ExcC K Ea2) (forall_c (⟨xg0, xk0, xs0, xd0, xa0, xn, xT, xm0⟩ : L2.ExcC K Ea0) (forall_c (⟨xg1, xk1, xs1, xd1, xa1, xn, xT, xm1⟩ : L2.ExcC K Ea1) (forall_c (⟨xg3, xk3, xs3, xd3, xa3, xn, xT, xm3⟩ : L2.ExcC K Ea3) forall_n)))), (forall_c ky2_2 forall_n), (forall_c kx2_2 forall_n), (forall_c kn0_2 (forall_c kn1_2 (forall_c kn3_2 forall_n)))⟩ (forall_c ⟨PySem.W.mg_of X G aE3, (forall_c (⟨xg3, xk3, xs3, xd3, xa3, xn, xT, xm3⟩ : L2.ExcC K Ea3) (forall_c (⟨xg0, xk0, xs0, xd0, xa0, xn, xT, xm0⟩ : L2.ExcC K Ea0) (forall_c (⟨xg1, xk1, xs1, xd1, xa1, xn, xT, xm1⟩ : L2.ExcC K Ea1) (forall_c (⟨xg2, xk2, xs2, xd2, xa2, xn, xT, xm2⟩ : L2.ExcC K Ea2) forall_n)))), (forall_c ky3_3 forall_n), (forall_c kx3_3 forall_n), (forall_c kn0_3 (forall_c kn1_3 (forall_c kn2_3 forall_n)))⟩ forall_n))))
      exact z _ (lk_mem hl)
    rs := fun a ha => by
      have z : ∀ a ∈ ([0, 1, 2, 3] : List Nat), (∃ (B newId initId : String) (bmB : List Value), ExcBaseFacts B newId initId bmB ∧ PySem.W.excIn K (ec a) bmB newId = true) ∧ PySem.W.keepIn K (.ref (ec a)) = true ∧ PySem.W.subIn K (.ref (ec a)) (.type "BaseException") = some true ∧ PySem.W.typeIn K (.ref (ec a)) = some (.type "type") := (forall_c ⟨⟨_, _, _, _, PySem.F.excBase_ValueError, xx0⟩, xp0, xs0, xt0⟩ (forall_c ⟨⟨_, _, _, _, PySem.F.excBase_ValueError, xx1⟩, xp1, xs1, xt1⟩ (forall_c ⟨⟨_, _, _, _, PySem.F.excBase_ValueError, xx2⟩, xp2, xs2, xt2⟩ (forall_c ⟨⟨_, _, _, _, PySem.F.excBase_ValueError, xx3⟩, xp3, xs3, xt3⟩ forall_n))))
      exact z a ha
    fa := fun k => match k with
      | 0 => ⟨pg0, hd0, po0, sa0⟩
      | 1 => ⟨pg1, hd1, po1, sa1⟩
      | _ + 2 => ⟨pg0, hd0, po0, sa0⟩
    fb := fun x hx k => by
      have z : ∀ x ∈ fl, ∀ k, L2.NoAttr K (cl k) x := (forall_c (fun k => match k with
      | 0 => nf0_0
      | 1 => nf1_0
      | _ + 2 => nf0_0) (forall_c (fun k => match k with
      | 0 => nf0_1
      | 1 => nf1_1
      | _ + 2 => nf0_1) (forall_c (fun k => match k with
      | 0 => nf0_2
      | 1 => nf1_2
      | _ + 2 => nf0_2) (forall_c (fun k => match k with
      | 0 => nf0_3
      | 1 => nf1_3
      | _ + 2 => nf0_3) (forall_c (fun k => match k with
      | 0 => nf0_4
      | 1 => nf1_4
      | _ + 2 => nf0_4) (forall_c (fun k => match k with
      | 0 => nf0_5
      | 1 => nf1_5
      | _ + 2 => nf0_5) (forall_c (fun k => match k with
      | 0 => nf0_6
      | 1 => nf1_6
      | _ + 2 => nf0_6) forall_n)))))))
      exact z x hx k }
  have hM : ∀ r ∈ RR, RwOk c r := (forall_c ⟨⟨_, _, _, _, _, _, _, _, _, rfl, l0, c0, fun cc P e => by first | (cases e; rfl) | cases e⟩, L2.Binds.all (fun us hl => match us, hl with | [_], _ => rfl), k0, fun cc P e => by cases e⟩ (forall_c ⟨⟨_, _, _, _, _, _, _, _, _, rfl, l1, c1, fun cc P e => by first | (cases e; rfl) | cases e⟩, L2.Binds.all (fun us hl => match us, hl with | [_, _, _], _ => rfl), k1, fun cc P e => by cases e; exact ⟨B3 (86, 84) (by decide), (by decide : 84 ∈ ([84, 110] : List Nat))⟩⟩ (forall_c ⟨⟨_, _, _, _, _, _, _, _, _, rfl, l2, c2, fun cc P e => by first | (cases e; rfl) | cases e⟩, L2.Binds.all (fun us hl => match us, hl with | [_, _], _ => rfl), k2, fun cc P e => by cases e⟩ (forall_c ⟨⟨_, _, _, _, _, _, _, _, _, rfl, l3, c3, fun cc P e => by first | (cases e; rfl) | cases e⟩, L2.Binds.all (fun us hl => match us, hl with | [_, _, _], _ => rfl), k3, fun cc P e => by cases e⟩ (forall_c ⟨⟨_, _, _, _, _, _, _, _, _, rfl, l4, c4, fun cc P e => by first | (cases e; rfl) | cases e⟩, L2.Binds.all (fun us hl => match us, hl with | [_, _, _], _ => rfl), k4, fun cc P e => by cases e; exact ⟨B3 (114, 110) (by decide), (by decide : 110 ∈ ([84, 110] : List Nat))⟩⟩ (forall_c ⟨⟨_, _, _, _, _, _, _, _, _, rfl, l5, c5, fun cc P e => by first | (cases e; rfl) | cases e⟩, L2.Binds.all (fun us hl => match us, hl with | [_, _, _], _ => rfl), k5, fun cc P e => by cases e⟩ (forall_c ⟨⟨_, _, _, _, _, _, _, _, _, rfl, l6, c6, fun cc P e => by first | (cases e; rfl) | cases e⟩, L2.Binds.all (fun us hl => match us, hl with | [_, _], _ => rfl), k6, fun cc P e => by cases e⟩ (forall_c ⟨⟨_, _, _, _, _, _, _, _, _, rfl, l7, c7, fun cc P e => by first | (cases e; rfl) | cases e⟩, L2.Binds.all (fun us hl => match us, hl with | [_, _, _], _ => rfl), k7, fun cc P e => by cases e⟩ (forall_c ⟨⟨_, _, _, _, _, _, _, _, _, rfl, l8, c8, fun cc P e => by first | (cases e; rfl) | cases e⟩, L2.Binds.all (fun us hl => match us, hl with | [_], _ => rfl), k8, fun cc P e => by cases e⟩ (forall_c ⟨⟨_, _, _, _, _, _, _, _, _, rfl, l9, c9, fun cc P e => by first | (cases e; rfl) | cases e⟩, L2.Binds.all (fun us hl => match us, hl with | [_, _], _ => rfl), k9, fun cc P e => by cases e⟩ (forall_c ⟨⟨_, _, _, _, _, _, _, _, _, rfl, l10, c10, fun cc P e => by first | (cases e; rfl) | cases e⟩, L2.Binds.all (fun us hl => match us, hl with | [_], _ => rfl), k10, fun cc P e => by cases e⟩ (forall_c ⟨⟨_, _, _, _, _, _, _, _, _, rfl, l11, c11, fun cc P e => by first | (cases e; rfl) | cases e⟩, L2.Binds.all (fun us hl => match us, hl with | [_, _], _ => rfl), k11, fun cc P e => by cases e⟩ (forall_c ⟨⟨_, _, _, _, _, _, _, _, _, rfl, l12, c12, fun cc P e => by first | (cases e; rfl) | cases e⟩, L2.Binds.all (fun us hl => match us, hl with | [_, _], _ => rfl), k12, fun cc P e => by cases e⟩ (forall_c ⟨⟨_, _, _, _, _, _, _, _, _, rfl, l13, c13, fun cc P e => by first | (cases e; rfl) | cases e⟩, L2.Binds.all (fun us hl => match us, hl with | [_], _ => rfl), k13, fun cc P e => by cases e⟩ (forall_c ⟨⟨_, _, _, _, _, _, _, _, _, rfl, l14, c14, fun cc P e => by first | (cases e; rfl) | cases e⟩, L2.Binds.all (fun us hl => match us, hl with | [_, _], _ => rfl), k14, fun cc P e => by cases e⟩ (forall_c ⟨⟨_, _, _, _, _, _, _, _, _, rfl, l15, c15, fun cc P e => by first | (cases e; rfl) | cases e⟩, L2.Binds.all (fun us hl => match us, hl with | [_], _ => rfl), k15, fun cc P e => by cases e⟩ (forall_c ⟨⟨_, _, _, _, _, _, _, _, _, rfl, l16, c16, fun cc P e => by first | (cases e; rfl) | cases e⟩, L2.Binds.all (fun us hl => match us, hl with | [_, _], _ => rfl), k16, fun cc P e => by cases e⟩ (forall_c ⟨⟨_, _, _, _, _, _, _, _, _, rfl, l17, c17, fun cc P e => by first | (cases e; rfl) | cases e⟩, L2.Binds.all (fun us hl => match us, hl with | [_, _], _ => rfl), k17, fun cc P e => by cases e⟩ (forall_c ⟨⟨_, _, _, _, _, _, _, _, _, rfl, l18, c18, fun cc P e => by first | (cases e; rfl) | cases e⟩, L2.Binds.all (fun us hl => match us, hl with | [_], _ => rfl), k18, fun cc P e => by cases e⟩ (forall_c ⟨⟨_, _, _, _, _, _, _, _, _, rfl, l19, c19, fun cc P e => by first | (cases e; rfl) | cases e⟩, L2.Binds.all (fun us hl => match us, hl with | [_, _], _ => rfl), k19, fun cc P e => by cases e⟩ (forall_c ⟨⟨_, _, _, _, _, _, _, _, _, rfl, l20, c20, fun cc P e => by first | (cases e; rfl) | cases e⟩, L2.Binds.all (fun us hl => match us, hl with | [_], _ => rfl), k20, fun cc P e => by cases e⟩ (forall_c ⟨⟨_, _, _, _, _, _, _, _, _, rfl, l21, c21, fun cc P e => by first | (cases e; rfl) | cases e⟩, L2.Binds.all (fun us hl => match us, hl with | [_], _ => rfl), k21, fun cc P e => by cases e⟩ (forall_c ⟨⟨_, _, _, _, _, _, _, _, _, rfl, l22, c22, fun cc P e => by first | (cases e; rfl) | cases e⟩, L2.Binds.all (fun us hl => match us, hl with | [_, _], _ => rfl), k22, fun cc P e => by cases e⟩ (forall_c ⟨⟨_, _, _, _, _, _, _, _, _, rfl, l23, c23, fun cc P e => by first | (cases e; rfl) | cases e⟩, L2.Binds.all (fun us hl => match us, hl with | [_], _ => rfl), k23, fun cc P e => by cases e⟩ (forall_c ⟨⟨_, _, _, _, _, _, _, _, _, rfl, l24, c24, fun cc P e => by first | (cases e; rfl) | cases e⟩, L2.Binds.all (fun us hl => match us, hl with | [_, _], _ => rfl), k24, fun cc P e => by cases e⟩ (forall_c ⟨⟨_, _, _, _, _, _, _, _, _, rfl, l25, c25, fun cc P e => by first | (cases e; rfl) | cases e⟩, L2.Binds.all (fun us hl => match us, hl with | [_, _, _], _ => rfl), k25, fun cc P e => by cases e⟩ (forall_c ⟨⟨_, _, _, _, _, _, _, _, _, rfl, l26, c26, fun cc P e => by first | (cases e; rfl) | cases e⟩, L2.Binds.all (fun us hl => match us, hl with | [_, _, _], _ => rfl), k26, fun cc P e => by cases e⟩ (forall_c ⟨⟨_, _, _, _, _, _, _, _, _, rfl, l27, c27, fun cc P e => by first | (cases e; rfl) | cases e⟩, L2.Binds.all (fun us hl => match us, hl with | [_, _], _ => rfl), k27, fun cc P e => by cases e⟩ (forall_c ⟨⟨_, _, _, _, _, _, _, _, _, rfl, l28, c28, fun cc P e => by first | (cases e; rfl) | cases e⟩, L2.Binds.all (fun us hl => match us, hl with | [_, _], _ => rfl), k28, fun cc P e => by cases e⟩ (forall_c ⟨⟨_, _, _, _, _, _, _, _, _, rfl, l29, c29, fun cc P e => by first | (cases e; rfl) | cases e⟩, L2.Binds.all (fun us hl => match us, hl with | [_, _], _ => rfl), k29, fun cc P e => by cases e⟩ (forall_c ⟨⟨_, _, _, _, _, _, _, _, _, rfl, l30, c30, fun cc P e => by first | (cases e; rfl) | cases e⟩, L2.Binds.all (fun us hl => match us, hl with | [_, _, _], _ => rfl), k30, fun cc P e => by cases e⟩ (forall_c ⟨⟨_, _, _, _, _, _, _, _, _, rfl, l31, c31, fun cc P e => by first | (cases e; rfl) | cases e⟩, L2.Binds.all (fun us hl => match us, hl with | [_], _ => rfl), k31, fun cc P e => by cases e⟩ (forall_c ⟨⟨_, _, _, _, _, _, _, _, _, rfl, l32, c32, fun cc P e => by first | (cases e; rfl) | cases e⟩, L2.Binds.all (fun us hl => match us, hl with | [_, _], _ => rfl), k32, fun cc P e => by cases e⟩ (forall_c ⟨⟨_, _, _, _, _, _, _, _, _, rfl, l33, c33, fun cc P e => by first | (cases e; rfl) | cases e⟩, L2.Binds.all (fun us hl => match us, hl with | [_], _ => rfl), k33, fun cc P e => by cases e⟩ (forall_c ⟨⟨_, _, _, _, _, _, _, _, _, rfl, l34, c34, fun cc P e => by first | (cases e; rfl) | cases e⟩, L2.Binds.all (fun us hl => match us, hl with | [_], _ => rfl), k34, fun cc P e => by cases e⟩ forall_n)))))))))))))))))))))))))))))))))))
  have hT : ∀ r ∈ RR, RwTx ce r := (forall_c (tx0 _) (forall_c (tx1 _) (forall_c (tx2 _) (forall_c (tx3 _) (forall_c (tx4 _) (forall_c (tx5 _) (forall_c (tx6 _) (forall_c (tx7 _) (forall_c (tx8 _) (forall_c (tx9 _) (forall_c (tx10 _) (forall_c (tx11 _) (forall_c (tx12 _) (forall_c (tx13 _) (forall_c (tx14 _) (forall_c (tx15 _) (forall_c (tx16 _) (forall_c (tx17 _) (forall_c (tx18 _) (forall_c (tx19 _) (forall_c (tx20 _) (forall_c (tx21 _) (forall_c (tx22 _) (forall_c (tx23 _) (forall_c (tx24 _) (forall_c (tx25 _) (forall_c (tx26 _) (forall_c (tx27 _) (forall_c (tx28 _) (forall_c (tx29 _) (forall_c (tx30 _) (forall_c (tx31 _) (forall_c (tx32 _) (forall_c (tx33 _) (forall_c (tx34 _) forall_n)))))))))))))))))))))))))))))))))))
  have g := all_G V hM hT 8 34 (r34 _) rfl
  refine ⟨⟨c.at (tblOf RR) 8, 24, 34, _, "_law_script", rfl, rfl, rfl, rfl, rfl, rfl, ⟨g.len, g.run⟩, ⟨rfl, by decide, by decide⟩, L2.Binds.all (fun us hl => match us, hl with | [_], _ => rfl), fun ns hn _ => ?_⟩⟩
  have e6 : (c.at (tblOf RR) 8).Φ = PhiN (tblOf RR) _root_.K.gv 8 := rfl
  have e7 : tblOf RR = _root_.K.T := tblR _ _ _ _ _ _ _ _ _ _ _ _ _ _ _ _ _ _ _ _ _ _ _ _ _ _ _ _ _ _ _ _ _ _ _
  rw [e6, e7]
  exact _root_.K.phi_law (by decide) ns hn
end F
open PySem PySem.W PyProof.Rows
open_top hd8 for PySem.Challenge.rw_orderneed_k30_journals
set_option maxRecDepth 100000 in
set_option maxHeartbeats 0 in
theorem PySem.Challenge.cw_orderneed_k30_journals_holds : PySem.Challenge.rw_orderneed_k30_journals.Holds := by
  w_on; o_law
  o_head (PySem.W.kmHook hd8.heap_39 [2, 3, 15, 17, 18, 20, 21, 22, 29, 30, 31, 32, 35, 42, 43, 44, 47, 54, 55, 56, 59, 66, 67, 68, 71, 74, 75, 83, 86, 87, 88, 89, 90, 91, 92, 95, 97, 98, 100, 101, 102, 104, 105, 107, 108, 109, 111, 112, 114, 115, 116, 118, 119, 121, 122, 123, 125, 126, 128, 129, 130, 133, 134, 135, 138, 139, 140, 142, 143, 145, 146, 147, 150, 151, 159, 161, 162, 164, 165, 166, 168, 169, 171, 172, 173, 175, 176, 178, 179, 180, 183, 184, 185, 187, 188, 190, 191, 192, 194, 195, 197, 198, 199, 201, 202, 204, 205, 206, 209, 210, 211, 213, 214, 216, 217, 218, 219, 220, 221, 222, 225, 227, 228, 230, 231, 232, 234, 235, 237, 238, 239, 241, 242, 244, 245, 246, 248, 249, 251, 252, 253, 255, 256, 258, 259, 260, 263, 264, 265, 268, 269, 270, 272, 273, 275, 276, 277, 279, 280, 282, 283, 284, 286, 287, 289, 290, 291, 294, 295, 296, 299, 300, 301, 304, 305, 316, 318, 319, 321, 322, 323, 326, 327, 328, 330, 331, 333, 334, 335, 337, 338, 340, 341, 342, 344, 345, 347, 348, 349, 351, 352, 354, 355] (fun _ => by kernel_rfl) [84, 110])
  (case hw => w_witness2)
  k_fill
  refine Pu.walk_G (l := PySem.Challenge.rw_orderneed_k30_journals) rfl (by decide) rfl ?F
  case F =>
    intro w mg fa h Y G hmg
    have KX := PySem.W.km_in_of Y
    have KT := PySem.W.km_tabs_of Y
    refine' F.all_mk KX KT G hmg ?aC0 ?aC1 ?a0 ?l0 ?c0 ?k0 ?a1 ?i1 ?l1 ?c1 ?k1 ?a2 ?l2 ?c2 ?k2 ?a3 ?l3 ?c3 ?k3 ?a4 ?l4 ?c4 ?k4 ?a5 ?l5 ?c5 ?k5 ?a6 ?l6 ?c6 ?k6 ?a7 ?l7 ?c7 ?k7 ?a8 ?l8 ?c8 ?k8 ?a9 ?l9 ?c9 ?k9 ?a10 ?l10 ?c10 ?k10 ?a11 ?i11 ?l11 ?c11 ?k11 ?a12 ?i12 ?l12 ?c12 ?k12 ?a13 ?i13 ?l13 ?c13 ?k13 ?a14 ?i14 ?l14 ?c14 ?k14 ?a15 ?i15 ?l15 ?c15 ?k15 ?a16 ?l16 ?c16 ?k16 ?a17 ?l17 ?c17 ?k17 ?a18 ?l18 ?c18 ?k18 ?a19 ?l19 ?c19 ?k19 ?a20 ?l20 ?c20 ?k20 ?a21 ?l21 ?c21 ?k21 ?a22 ?l22 ?c22 ?k22 ?a23 ?l23 ?c23 ?k23 ?a24 ?l24 ?c24 ?k24 ?a25 ?l25 ?c25 ?k25 ?a26 ?l26 ?c26 ?k26 ?a27 ?l27 ?c27 ?k27 ?a28 ?l28 ?c28 ?k28 ?a29 ?l29 ?c29 ?k29 ?a30 ?l30 ?c30 ?k30 ?a31 ?l31 ?c31 ?k31 ?a32 ?l32 ?c32 ?k32 ?a33 ?l33 ?c33 ?k33 ?a34 ?l34 ?c34 ?k34 ?pg0 ?hd0 ?po0 ?sa0 ?mk0 ?kc0 ?nf0_0 ?nf0_1 ?nf0_2 ?nf0_3 ?nf0_4 ?nf0_5 ?nf0_6 ?pg1 ?hd1 ?po1 ?sa1 ?mk1 ?kc1 ?nf1_0 ?nf1_1 ?nf1_2 ?nf1_3 ?nf1_4 ?nf1_5 ?nf1_6 ?aE0 ?aE1 ?aE2 ?aE3 ?xg0 ?xk0 ?xs0 ?xd0 ?xa0 ?xm0 ?xp0 ?xt0 ?xx0 ?xg1 ?xk1 ?xs1 ?xd1 ?xa1 ?xm1 ?xp1 ?xt1 ?xx1 ?xg2 ?xk2 ?xs2 ?xd2 ?xa2 ?xm2 ?xp2 ?xt2 ?xx2 ?xg3 ?xk3 ?xs3 ?xd3 ?xa3 ?xm3 ?xp3 ?xt3 ?xx3 ?xn ?xT ?ky0_0 ?kx0_0 ?ky1_0 ?kx1_0 ?ky2_0 ?kx2_0 ?ky3_0 ?kx3_0 ?ky1_1 ?kx1_1 ?kn0_1 ?kn2_1 ?kn3_1 ?ky2_2 ?kx2_2 ?kn0_2 ?kn1_2 ?kn3_2 ?ky3_3 ?kx3_3 ?kn0_3 ?kn1_3 ?kn2_3 ?bl0 ?bl1 ?bl2 ?bl3 ?bl4 ?bl5 ?bl6 ?bl7 ?bl8 ?bl9 ?bl10 ?bl11 ?bl12 ?bl13 ?bl14 ?bl15 ?bl16 ?bl17 ?bl18 ?gl0 ?gl1 ?gl2 ?gl3 ?t1 ?u1 ?t4 ?u4
    (case aC0 => k_is)
    (case aC1 => k_is)
    (case a0 => k_is)
    (case l0 => k_is)
    (case c0 => k_is)
    (case k0 => k_is)
    (case a1 => k_is)
    (case i1 => k_is)
    (case l1 => k_is)
    (case c1 => k_is)
    (case k1 => k_is)
    (case a2 => k_is)
    (case l2 => k_is)
    (case c2 => k_is)
    (case k2 => k_is)
    (case a3 => k_is)
    (case l3 => k_is)
    (case c3 => k_is)
    (case k3 => k_is)
    (case a4 => k_is)
    (case l4 => k_is)
    (case c4 => k_is)
    (case k4 => k_is)
    (case a5 => k_is)
    (case l5 => k_is)
    (case c5 => k_is)
    (case k5 => k_is)
    (case a6 => k_is)
    (case l6 => k_is)
    (case c6 => k_is)
    (case k6 => k_is)
    (case a7 => k_is)
    (case l7 => k_is)
    (case c7 => k_is)
    (case k7 => k_is)
    (case a8 => k_is)
    (case l8 => k_is)
    (case c8 => k_is)
    (case k8 => k_is)
    (case a9 => k_is)
    (case l9 => k_is)
    (case c9 => k_is)
    (case k9 => k_is)
    (case a10 => k_is)
    (case l10 => k_is)
    (case c10 => k_is)
    (case k10 => k_is)
    (case a11 => k_is)
    (case i11 => k_is)
    (case l11 => k_is)
    (case c11 => k_is)
    (case k11 => k_is)
    (case a12 => k_is)
    (case i12 => k_is)
    (case l12 => k_is)
    (case c12 => k_is)
    (case k12 => k_is)
    (case a13 => k_is)
    (case i13 => k_is)
    (case l13 => k_is)
    (case c13 => k_is)
    (case k13 => k_is)
    (case a14 => k_is)
    (case i14 => k_is)
    (case l14 => k_is)
    (case c14 => k_is)
    (case k14 => k_is)
    (case a15 => k_is)
    (case i15 => k_is)
    (case l15 => k_is)
    (case c15 => k_is)
    (case k15 => k_is)
    (case a16 => k_is)
    (case l16 => k_is)
    (case c16 => k_is)
    (case k16 => k_is)
    (case a17 => k_is)
    (case l17 => k_is)
    (case c17 => k_is)
    (case k17 => k_is)
    (case a18 => k_is)
    (case l18 => k_is)
    (case c18 => k_is)
    (case k18 => k_is)
    (case a19 => k_is)
    (case l19 => k_is)
    (case c19 => k_is)
    (case k19 => k_is)
    (case a20 => k_is)
    (case l20 => k_is)
    (case c20 => k_is)
    (case k20 => k_is)
    (case a21 => k_is)
    (case l21 => k_is)
    (case c21 => k_is)
    (case k21 => k_is)
    (case a22 => k_is)
    (case l22 => k_is)
    (case c22 => k_is)
    (case k22 => k_is)
    (case a23 => k_is)
    (case l23 => k_is)
    (case c23 => k_is)
    (case k23 => k_is)
    (case a24 => k_is)
    (case l24 => k_is)
    (case c24 => k_is)
    (case k24 => k_is)
    (case a25 => k_is)
    (case l25 => k_is)
    (case c25 => k_is)
    (case k25 => k_is)
    (case a26 => k_is)
    (case l26 => k_is)
    (case c26 => k_is)
    (case k26 => k_is)
    (case a27 => k_is)
    (case l27 => k_is)
    (case c27 => k_is)
    (case k27 => k_is)
    (case a28 => k_is)
    (case l28 => k_is)
    (case c28 => k_is)
    (case k28 => k_is)
    (case a29 => k_is)
    (case l29 => k_is)
    (case c29 => k_is)
    (case k29 => k_is)
    (case a30 => k_is)
    (case l30 => k_is)
    (case c30 => k_is)
    (case k30 => k_is)
    (case a31 => k_is)
    (case l31 => k_is)
    (case c31 => k_is)
    (case k31 => k_is)
    (case a32 => k_is)
    (case l32 => k_is)
    (case c32 => k_is)
    (case k32 => k_is)
    (case a33 => k_is)
    (case l33 => k_is)
    (case c33 => k_is)
    (case k33 => k_is)
    (case a34 => k_is)
    (case l34 => k_is)
    (case c34 => k_is)
    (case k34 => k_is)
    (case pg0 => k_is)
    (case hd0 => k_is)
    (case po0 => k_is)
    (case sa0 => k_is)
    (case mk0 => k_is)
    (case kc0 => k_is)
    (case nf0_0 => k_is)
    (case nf0_1 => k_is)
    (case nf0_2 => k_is)
    (case nf0_3 => k_is)
    (case nf0_4 => k_is)
    (case nf0_5 => k_is)
    (case nf0_6 => k_is)
    (case pg1 => k_is)
    (case hd1 => k_is)
    (case po1 => k_is)
    (case sa1 => k_is)
    (case mk1 => k_is)
    (case kc1 => k_is)
    (case nf1_0 => k_is)
    (case nf1_1 => k_is)
    (case nf1_2 => k_is)
    (case nf1_3 => k_is)
    (case nf1_4 => k_is)
    (case nf1_5 => k_is)
    (case nf1_6 => k_is)
    (case aE0 => k_is)
    (case aE1 => k_is)
    (case aE2 => k_is)
    (case aE3 => k_is)
    (case xg0 => k_is)
    (case xk0 => k_is)
    (case xs0 => k_is)
    (case xd0 => k_is)
    (case xa0 => k_is)
    (case xm0 => k_is)
    (case xp0 => k_is)
    (case xt0 => k_is)
    (case xx0 => k_exc)
    (case xg1 => k_is)
    (case xk1 => k_is)
    (case xs1 => k_is)
    (case xd1 => k_is)
    (case xa1 => k_is)
    (case xm1 => k_is)
    (case xp1 => k_is)
    (case xt1 => k_is)
    (case xx1 => k_exc)
    (case xg2 => k_is)
    (case xk2 => k_is)
    (case xs2 => k_is)
    (case xd2 => k_is)
    (case xa2 => k_is)
    (case xm2 => k_is)
    (case xp2 => k_is)
    (case xt2 => k_is)
    (case xx2 => k_exc)
    (case xg3 => k_is)
    (case xk3 => k_is)
    (case xs3 => k_is)
    (case xd3 => k_is)
    (case xa3 => k_is)
    (case xm3 => k_is)
    (case xp3 => k_is)
    (case xt3 => k_is)
    (case xx3 => k_exc)
    (case xn => k_is)
    (case xT => k_is)
    (case ky0_0 => first | k_is | rfl)
    (case kx0_0 => first | k_is | rfl)
    (case ky1_0 => first | k_is | rfl)
    (case kx1_0 => first | k_is | rfl)
    (case ky2_0 => first | k_is | rfl)
    (case kx2_0 => first | k_is | rfl)
    (case ky3_0 => first | k_is | rfl)
    (case kx3_0 => first | k_is | rfl)
    (case ky1_1 => first | k_is | rfl)
    (case kx1_1 => first | k_is | rfl)
    (case kn0_1 => first | k_is | rfl)
    (case kn2_1 => first | k_is | rfl)
    (case kn3_1 => first | k_is | rfl)
    (case ky2_2 => first | k_is | rfl)
    (case kx2_2 => first | k_is | rfl)
    (case kn0_2 => first | k_is | rfl)
    (case kn1_2 => first | k_is | rfl)
    (case kn3_2 => first | k_is | rfl)
    (case ky3_3 => first | k_is | rfl)
    (case kx3_3 => first | k_is | rfl)
    (case kn0_3 => first | k_is | rfl)
    (case kn1_3 => first | k_is | rfl)
    (case kn2_3 => first | k_is | rfl)
    (case bl0 => k_is)
    (case bl1 => k_is)
    (case bl2 => k_is)
    (case bl3 => k_is)
    (case bl4 => k_is)
    (case bl5 => k_is)
    (case bl6 => k_is)
    (case bl7 => k_is)
    (case bl8 => k_is)
    (case bl9 => k_is)
    (case bl10 => k_is)
    (case bl11 => k_is)
    (case bl12 => k_is)
    (case bl13 => k_is)
    (case bl14 => k_is)
    (case bl15 => k_is)
    (case bl16 => k_is)
    (case bl17 => k_is)
    (case bl18 => k_is)
    (case gl0 => k_is)
    (case gl1 => k_is)
    (case gl2 => k_is)
    (case gl3 => k_is)
    (case t1 => kernel_rfl)
    (case u1 => kernel_rfl)
    (case t4 => kernel_rfl)
    (case u4 => kernel_rfl)

