import PyProof.Rows.All
import Wide.All
import OpenK.AllK
import Wide.FinOn
import HandS.ForMost
import HandS.ForExc
import HandS.Wide
import HandS.ExcInit
import HandS.ExcField
import HandS.TryMany
import HandS.CallSlots
import HandS.Deep
import HandS.IsInst
import HandS.Conv
import HandS.TryOnly
import KE.SortData
import HandS.Flt
import HandS.Comp
import HandS.ExcIs
import HandS.Words
import PySem.Challenge.RW_whereheld_k16_whole_numbers_against_all
set_option Elab.async false
set_option linter.all false
set_option maxRecDepth 100000
set_option maxHeartbeats 4000000
/-! Wh, part 1: plain data D, owned trees T, how they lie in the abstract heap. -/
namespace Wh
open PySem L2

/-! ### data -/
inductive D where
  | non | bl (b : Bool) | int (i : Int) | str (s : Str)
  | lst (xs : List D) | tup (xs : List D)
  | dk (ks : List Key) (xs : List D)
  | obj (c : Nat) (ns : List Str) (xs : List D)
deriving Inhabited

structure Exc where
  c : Nat
  ns : List Str
  xs : List D

inductive T where
  | d (x : D)
  | lst (o : Bool) (ts : List T) | tup (o : Bool) (ts : List T)
  | dk (o : Bool) (ks : List Key) (ts : List T)
  | obj (o : Bool) (c : Nat) (ns : List Str) (ts : List T)
  | scr (ns : List Int)
  | xo (e : Exc)
  | un
deriving Inhabited

/-- what the representation leans on: the written part and the classes' addresses -/
structure Ctx where
  K : PySem.W.Frag
  ca : Nat → Addr
  /-- the error that a suite holds, its dict -/
  xa : Option (Addr × Addr) := none
def posOf {α : Type} [DecidableEq α] : List α → α → Option Nat
  | [], _ => none
  | k :: ks, x => if k = x then some 0 else (posOf ks x).map (· + 1)

mutual
inductive Is (Z : Ctx) (F : Hp) : V → D → Prop
  | non : Is Z F .non .non
  | bl (b : Bool) : Is Z F (.bl b) (.bl b)
  | int (i : Int) : Is Z F (.int i) (.int i)
  | str (s : Str) : Is Z F (.str s) (.str s)
  | lst {p : Addr} {vs : List V} {xs : List D} : F p = some (.lst vs) → IsAll Z F vs xs → Is Z F (.ref p) (.lst xs)
  | tup {p : Addr} {vs : List V} {xs : List D} : SqT Z.K F p vs → IsAll Z F vs xs → Is Z F (.ref p) (.tup xs)
  | dk {p : Addr} {ks : List Key} {vs : List V} {xs : List D} : F p = some (.dK (ks.zip vs)) → ks.length = vs.length → IsAll Z F vs xs → Is Z F (.ref p) (.dk ks xs)
  | obj {p dx : Addr} {c : Nat} {ns : List Str} {vs : List V} {xs : List D} : F p = some (.ins (Z.ca c) dx (ns.zip vs)) → ns.length = vs.length → IsAll Z F vs xs → Is Z F (.ref p) (.obj c ns xs)
inductive IsAll (Z : Ctx) (F : Hp) : List V → List D → Prop
  | nil : IsAll Z F [] []
  | cons {v : V} {vs : List V} {x : D} {xs : List D} : Is Z F v x → IsAll Z F vs xs → IsAll Z F (v :: vs) (x :: xs)
end

mutual
inductive Own (Z : Ctx) (B F H : Hp) : V → T → List Addr → Prop
  | d {v : V} {x : D} : Is Z F v x → Own Z B F H v (.d x) []
  | lst {p : Addr} {vs : List V} {ts : List T} {fp : List Addr} : H p = some (.lst vs) → OwnAll Z B F H vs ts fp → Own Z B F H (.ref p) (.lst true ts) (p :: fp)
  | lstb {p : Addr} {vs : List V} {ts : List T} : B p = some (.lst vs) → OwnAll Z B F H vs ts [] → Own Z B F H (.ref p) (.lst false ts) []
  | tup {p : Addr} {vs : List V} {ts : List T} {fp : List Addr} : H p = some (.tup vs) → OwnAll Z B F H vs ts fp → Own Z B F H (.ref p) (.tup true ts) (p :: fp)
  | tupb {p : Addr} {vs : List V} {ts : List T} : B p = some (.tup vs) → OwnAll Z B F H vs ts [] → Own Z B F H (.ref p) (.tup false ts) []
  | dk {p : Addr} {ks : List Key} {vs : List V} {ts : List T} {fp : List Addr} : H p = some (.dK (ks.zip vs)) → ks.length = vs.length → OwnAll Z B F H vs ts fp → Own Z B F H (.ref p) (.dk true ks ts) (p :: fp)
  | dkb {p : Addr} {ks : List Key} {vs : List V} {ts : List T} : B p = some (.dK (ks.zip vs)) → ks.length = vs.length → OwnAll Z B F H vs ts [] → Own Z B F H (.ref p) (.dk false ks ts) []
  | obj {p dx : Addr} {c : Nat} {ns : List Str} {vs : List V} {ts : List T} {fp : List Addr} : H p = some (.ins (Z.ca c) dx (ns.zip vs)) → ns.length = vs.length → OwnAll Z B F H vs ts fp → Own Z B F H (.ref p) (.obj true c ns ts) (p :: fp)
  | objb {p dx : Addr} {c : Nat} {ns : List Str} {vs : List V} {ts : List T} : B p = some (.ins (Z.ca c) dx (ns.zip vs)) → ns.length = vs.length → OwnAll Z B F H vs ts [] → Own Z B F H (.ref p) (.obj false c ns ts) []
  | scr {p : Addr} {ns : List Int} : SqL Z.K B p (ns.map V.int) → Own Z B F H (.ref p) (.scr ns) []
  | xo {a d : Addr} {fvs : List (Str × V)} {e : Exc} : Z.xa = some (a, d) → B d = some (.xd fvs) → (∀ (n : Nat) (f : Str) (x : D), posOf e.ns f = some n → e.xs[n]? = some x → ∃ v, fvs.lookup f = some v ∧ Is Z F v x) → Own Z B F H (.ref a) (.xo e) []
  | un {v : V} : Own Z B F H v .un []
inductive OwnAll (Z : Ctx) (B F H : Hp) : List V → List T → List Addr → Prop
  | nil : OwnAll Z B F H [] [] []
  | cons {v : V} {vs : List V} {t : T} {ts : List T} {fp fq : List Addr} : Own Z B F H v t fp → OwnAll Z B F H vs ts fq → OwnAll Z B F H (v :: vs) (t :: ts) (fp ++ fq)
end

def Sub (F H : Hp) : Prop := ∀ a o, F a = some o → H a = some o
theorem Sub.refl (F : Hp) : Sub F F := fun _ _ h => h
theorem Sub.trans {F G H : Hp} (a : Sub F G) (b : Sub G H) : Sub F H := fun x o h => b x o (a x o h)
theorem Sub.rd {F H : Hp} {a : Addr} {u : HO} (s : Sub F H) (h : Rd F a u) : Rd H a u := by
  rcases h with h | ⟨o, h⟩
  · exact .inl (s _ _ h)
  · exact .inr ⟨o, s _ _ h⟩
theorem Sub.sql {K : PySem.W.Frag} {F H : Hp} {a : Addr} {xs : List V} (s : Sub F H) (h : SqL K F a xs) : SqL K H a xs := by
  rcases h with h | h
  · exact .inl (s.rd h)
  · exact .inr h
theorem Sub.sqt {K : PySem.W.Frag} {F H : Hp} {a : Addr} {xs : List V} (s : Sub F H) (h : SqT K F a xs) : SqT K H a xs := by
  rcases h with h | h
  · exact .inl (s.rd h)
  · exact .inr h

section
variable {Z : Ctx} {B B' F F' H H' : Hp}
mutual
theorem Is.mono (s : Sub F F') : ∀ {v : V} {x : D}, Is Z F v x → Is Z F' v x
  | _, _, .non => .non
  | _, _, .bl b => .bl b
  | _, _, .int i => .int i
  | _, _, .str i => .str i
  | _, _, .lst h a => .lst (s _ _ h) (IsAll.mono s a)
  | _, _, .tup h a => .tup (s.sqt h) (IsAll.mono s a)
  | _, _, .dk h l a => .dk (s _ _ h) l (IsAll.mono s a)
  | _, _, .obj h l a => .obj (s _ _ h) l (IsAll.mono s a)
theorem IsAll.mono (s : Sub F F') : ∀ {vs : List V} {xs : List D}, IsAll Z F vs xs → IsAll Z F' vs xs
  | _, _, .nil => .nil
  | _, _, .cons a b => .cons (Is.mono s a) (IsAll.mono s b)
end
theorem IsAll.length {vs : List V} {xs : List D} (h : IsAll Z F vs xs) : vs.length = xs.length := by
  induction xs generalizing vs with
  | nil => cases h; rfl
  | cons x xs ih =>
    cases h with
    | cons a b => simp [ih b]
theorem IsAll.get {vs : List V} {xs : List D} {i : Nat} {x : D} (h : IsAll Z F vs xs) (e : xs[i]? = some x) : ∃ v, vs[i]? = some v ∧ Is Z F v x := by
  induction xs generalizing vs i with
  | nil => simp at e
  | cons y ys ih =>
    cases h with
    | cons a b =>
      cases i with
      | zero => simp at e; subst e; exact ⟨_, rfl, a⟩
      | succ i => simpa using ih b (by simpa using e)
theorem IsAll.append {vs ws : List V} {xs ys : List D} (h : IsAll Z F vs xs) (g : IsAll Z F ws ys) : IsAll Z F (vs ++ ws) (xs ++ ys) := by
  induction xs generalizing vs with
  | nil => cases h; exact g
  | cons y ys ih =>
    cases h with
    | cons a b => exact .cons a (ih b)
mutual
/-- the tree stays where its own objects stay -/
theorem Own.frame (s : Sub F F') (sb : Sub B B') : ∀ {v : V} {t : T} {fp : List Addr}, Own Z B F H v t fp → (∀ q ∈ fp, H' q = H q) → Own Z B' F' H' v t fp
  | _, _, _, .d h, _ => .d (h.mono s)
  | _, _, _, .lst h a, k => .lst ((k _ (by simp)).trans h) (OwnAll.frame s sb a fun q hq => k q (by simp [hq]))
  | _, _, _, .lstb h a, k => .lstb (sb _ _ h) (OwnAll.frame s sb a fun q hq => k q (by simp at hq))
  | _, _, _, .tup h a, k => .tup ((k _ (by simp)).trans h) (OwnAll.frame s sb a fun q hq => k q (by simp [hq]))
  | _, _, _, .tupb h a, k => .tupb (sb _ _ h) (OwnAll.frame s sb a fun q hq => k q (by simp at hq))
  | _, _, _, .dk h l a, k => .dk ((k _ (by simp)).trans h) l (OwnAll.frame s sb a fun q hq => k q (by simp [hq]))
  | _, _, _, .dkb h l a, k => .dkb (sb _ _ h) l (OwnAll.frame s sb a fun q hq => k q (by simp at hq))
  | _, _, _, .obj h l a, k => .obj ((k _ (by simp)).trans h) l (OwnAll.frame s sb a fun q hq => k q (by simp [hq]))
  | _, _, _, .objb h l a, k => .objb (sb _ _ h) l (OwnAll.frame s sb a fun q hq => k q (by simp at hq))
  | _, _, _, .scr h, _ => .scr (sb.sql h)
  | _, _, _, .xo h1 h2 h3, _ => .xo h1 (sb _ _ h2) fun n f x e1 e2 => let ⟨v, h4, h5⟩ := h3 n f x e1 e2; ⟨v, h4, h5.mono s⟩
  | _, _, _, .un, _ => .un
theorem OwnAll.frame (s : Sub F F') (sb : Sub B B') : ∀ {vs : List V} {ts : List T} {fp : List Addr}, OwnAll Z B F H vs ts fp → (∀ q ∈ fp, H' q = H q) → OwnAll Z B' F' H' vs ts fp
  | _, _, _, .nil, _ => .nil
  | _, _, _, .cons a b, k => .cons (Own.frame s sb a fun q hq => k q (by simp [hq])) (OwnAll.frame s sb b fun q hq => k q (by simp [hq]))
end
mutual
theorem Own.has : ∀ {v : V} {t : T} {fp : List Addr}, Own Z B F H v t fp → ∀ q ∈ fp, ∃ o, H q = some o
  | _, _, _, .d h, q, hq => by simp at hq
  | _, _, _, .lst h a, q, hq => by
    rcases List.mem_cons.mp hq with e | hq
    · subst e; exact ⟨_, h⟩
    · exact OwnAll.has a q hq
  | _, _, _, .lstb h a, q, hq => by simp at hq
  | _, _, _, .tup h a, q, hq => by
    rcases List.mem_cons.mp hq with e | hq
    · subst e; exact ⟨_, h⟩
    · exact OwnAll.has a q hq
  | _, _, _, .tupb h a, q, hq => by simp at hq
  | _, _, _, .dk h l a, q, hq => by
    rcases List.mem_cons.mp hq with e | hq
    · subst e; exact ⟨_, h⟩
    · exact OwnAll.has a q hq
  | _, _, _, .dkb h l a, q, hq => by simp at hq
  | _, _, _, .obj h l a, q, hq => by
    rcases List.mem_cons.mp hq with e | hq
    · subst e; exact ⟨_, h⟩
    · exact OwnAll.has a q hq
  | _, _, _, .objb h l a, q, hq => by simp at hq
  | _, _, _, .scr h, q, hq => by simp at hq
  | _, _, _, .xo _ _ _, q, hq => by simp at hq
  | _, _, _, .un, q, hq => by simp at hq
theorem OwnAll.has : ∀ {vs : List V} {ts : List T} {fp : List Addr}, OwnAll Z B F H vs ts fp → ∀ q ∈ fp, ∃ o, H q = some o
  | _, _, _, .nil, q, hq => by simp at hq
  | _, _, _, .cons a b, q, hq => by
    rcases List.mem_append.mp hq with hq | hq
    · exact Own.has a q hq
    · exact OwnAll.has b q hq
end
theorem OwnAll.length {vs : List V} {ts : List T} {fp : List Addr} (h : OwnAll Z B F H vs ts fp) : vs.length = ts.length := by
  induction ts generalizing vs fp with
  | nil => cases h; rfl
  | cons x xs ih =>
    cases h with
    | cons a b => simp [ih b]
theorem OwnAll.get {vs : List V} {ts : List T} {fp : List Addr} {i : Nat} {t : T} (h : OwnAll Z B F H vs ts fp) (e : ts[i]? = some t) : ∃ v fq, vs[i]? = some v ∧ Own Z B F H v t fq ∧ ∀ q ∈ fq, q ∈ fp := by
  induction ts generalizing vs fp i with
  | nil => simp at e
  | cons y ys ih =>
    cases h with
    | cons a b =>
      cases i with
      | zero => simp at e; subst e; exact ⟨_, _, rfl, a, fun q hq => by simp [hq]⟩
      | succ i =>
        obtain ⟨v, fq, h1, h2, h3⟩ := ih b (i := i) (by simpa using e)
        exact ⟨v, fq, by simpa using h1, h2, fun q hq => by simp [h3 q hq]⟩
theorem OwnAll.append {vs ws : List V} {ts us : List T} {fp fq : List Addr} (h : OwnAll Z B F H vs ts fp) (g : OwnAll Z B F H ws us fq) : OwnAll Z B F H (vs ++ ws) (ts ++ us) (fp ++ fq) := by
  induction ts generalizing vs fp with
  | nil => cases h; exact g
  | cons y ys ih =>
    cases h with
    | cons a b => rw [List.append_assoc]; exact .cons a (ih b)
theorem OwnAll.data {vs : List V} {xs : List D} (h : IsAll Z F vs xs) : OwnAll Z B F H vs (xs.map T.d) [] := by
  induction xs generalizing vs with
  | nil => cases h; exact .nil
  | cons y ys ih =>
    cases h with
    | cons a b => exact .cons (fp := []) (fq := []) (.d a) (ih b)
theorem OwnAll.dataFp {vs : List V} {xs : List D} {fp : List Addr} (h : OwnAll Z B F H vs (xs.map T.d) fp) : IsAll Z F vs xs ∧ fp = [] := by
  induction xs generalizing vs fp with
  | nil => cases h; exact ⟨.nil, rfl⟩
  | cons y ys ih =>
    cases h with
    | cons a b =>
      cases a with
      | d a =>
        obtain ⟨h1, h2⟩ := ih b
        exact ⟨.cons a h1, by rw [h2]; rfl⟩
end

/-! ### a tree as data -/
mutual
/-- owned all through (or data): it may become data for good -/
def T.toD : T → Option D
  | .d x => some x
  | .lst o ts => if o then (T.toDs ts).map D.lst else none
  | .tup o ts => if o then (T.toDs ts).map D.tup else none
  | .dk o ks ts => if o then (T.toDs ts).map (D.dk ks) else none
  | .obj o c ns ts => if o then (T.toDs ts).map (D.obj c ns) else none
  | .scr _ => none
  | .xo _ => none
  | .un => none
def T.toDs : List T → Option (List D)
  | [] => some []
  | t :: ts => match T.toD t, T.toDs ts with
    | some x, some xs => some (x :: xs)
    | _, _ => none
end
mutual
/-- as data to be looked at -/
def T.vw : T → Option D
  | .d x => some x
  | .lst _ ts => (T.vws ts).map D.lst
  | .tup _ ts => (T.vws ts).map D.tup
  | .dk _ ks ts => (T.vws ts).map (D.dk ks)
  | .obj _ c ns ts => (T.vws ts).map (D.obj c ns)
  | .scr _ => none
  | .xo _ => none
  | .un => none
def T.vws : List T → Option (List D)
  | [] => some []
  | t :: ts => match T.vw t, T.vws ts with
    | some x, some xs => some (x :: xs)
    | _, _ => none
end
mutual
/-- lent out: read, never written -/
def T.bor : T → T
  | .d x => .d x
  | .lst _ ts => .lst false (T.bors ts)
  | .tup _ ts => .tup false (T.bors ts)
  | .dk _ ks ts => .dk false ks (T.bors ts)
  | .obj _ c ns ts => .obj false c ns (T.bors ts)
  | .scr ns => .scr ns
  | .xo _ => .un
  | .un => .un
def T.bors : List T → List T
  | [] => []
  | t :: ts => T.bor t :: T.bors ts
end
mutual
/-- nothing lent in it, nothing missing -/
def T.nb : T → Bool
  | .d _ => true
  | .lst o ts => o && T.nbs ts
  | .tup o ts => o && T.nbs ts
  | .dk o _ ts => o && T.nbs ts
  | .obj o _ _ ts => o && T.nbs ts
  | .scr _ => false
  | .xo _ => false
  | .un => false
def T.nbs : List T → Bool
  | [] => true
  | t :: ts => T.nb t && T.nbs ts
end

section
variable {Z : Ctx} {B F H : Hp}
theorem toDs_cons {t : T} {ts : List T} {ys : List D} (e : T.toDs (t :: ts) = some ys) : ∃ x xs, T.toD t = some x ∧ T.toDs ts = some xs ∧ ys = x :: xs := by
  unfold T.toDs at e
  cases h1 : T.toD t with
  | none => rw [h1] at e; simp at e
  | some x =>
    cases h2 : T.toDs ts with
    | none => rw [h1, h2] at e; simp at e
    | some xs => rw [h1, h2] at e; exact ⟨x, xs, rfl, rfl, by simpa using e.symm⟩
theorem vws_cons {t : T} {ts : List T} {ys : List D} (e : T.vws (t :: ts) = some ys) : ∃ x xs, T.vw t = some x ∧ T.vws ts = some xs ∧ ys = x :: xs := by
  unfold T.vws at e
  cases h1 : T.vw t with
  | none => rw [h1] at e; simp at e
  | some x =>
    cases h2 : T.vws ts with
    | none => rw [h1, h2] at e; simp at e
    | some xs => rw [h1, h2] at e; exact ⟨x, xs, rfl, rfl, by simpa using e.symm⟩
theorem map_some {α β : Type} {o : Option α} {f : α → β} {y : β} (e : o.map f = some y) : ∃ x, o = some x ∧ f x = y := by
  cases o with
  | none => simp at e
  | some x => exact ⟨x, rfl, by simpa using e⟩
mutual
/-- seen as data, over the whole heap -/
theorem Own.view (sF : Sub F H) (sB : Sub B H) : ∀ {v : V} {t : T} {fp : List Addr} {x : D}, Own Z B F H v t fp → T.vw t = some x → Is Z H v x
  | _, _, _, _, .d h, e => by simp [T.vw] at e; subst e; exact h.mono sF
  | _, _, _, _, .lst h a, e => by
    obtain ⟨xs, h1, h2⟩ := map_some (show (T.vws _).map D.lst = some _ from by simpa [T.vw] using e)
    subst h2; exact .lst h (OwnAll.view sF sB a h1)
  | _, _, _, _, .lstb h a, e => by
    obtain ⟨xs, h1, h2⟩ := map_some (show (T.vws _).map D.lst = some _ from by simpa [T.vw] using e)
    subst h2; exact .lst (sB _ _ h) (OwnAll.view sF sB a h1)
  | _, _, _, _, .tup h a, e => by
    obtain ⟨xs, h1, h2⟩ := map_some (show (T.vws _).map D.tup = some _ from by simpa [T.vw] using e)
    subst h2; exact .tup (.of h) (OwnAll.view sF sB a h1)
  | _, _, _, _, .tupb h a, e => by
    obtain ⟨xs, h1, h2⟩ := map_some (show (T.vws _).map D.tup = some _ from by simpa [T.vw] using e)
    subst h2; exact .tup (.of (sB _ _ h)) (OwnAll.view sF sB a h1)
  | _, _, _, _, .dk h l a, e => by
    obtain ⟨xs, h1, h2⟩ := map_some (show (T.vws _).map (D.dk _) = some _ from by simpa [T.vw] using e)
    subst h2; exact .dk h l (OwnAll.view sF sB a h1)
  | _, _, _, _, .dkb h l a, e => by
    obtain ⟨xs, h1, h2⟩ := map_some (show (T.vws _).map (D.dk _) = some _ from by simpa [T.vw] using e)
    subst h2; exact .dk (sB _ _ h) l (OwnAll.view sF sB a h1)
  | _, _, _, _, .obj h l a, e => by
    obtain ⟨xs, h1, h2⟩ := map_some (show (T.vws _).map (D.obj _ _) = some _ from by simpa [T.vw] using e)
    subst h2; exact .obj h l (OwnAll.view sF sB a h1)
  | _, _, _, _, .objb h l a, e => by
    obtain ⟨xs, h1, h2⟩ := map_some (show (T.vws _).map (D.obj _ _) = some _ from by simpa [T.vw] using e)
    subst h2; exact .obj (sB _ _ h) l (OwnAll.view sF sB a h1)
  | _, _, _, _, .scr h, e => by simp [T.vw] at e
  | _, _, _, _, .xo _ _ _, e => by simp [T.vw] at e
  | _, _, _, _, .un, e => by simp [T.vw] at e
theorem OwnAll.view (sF : Sub F H) (sB : Sub B H) : ∀ {vs : List V} {ts : List T} {fp : List Addr} {xs : List D}, OwnAll Z B F H vs ts fp → T.vws ts = some xs → IsAll Z H vs xs
  | _, _, _, _, .nil, e => by simp [T.vws] at e; subst e; exact .nil
  | _, _, _, _, .cons a b, e => by
    obtain ⟨x, xs, h1, h2, h3⟩ := vws_cons e
    subst h3; exact .cons (Own.view sF sB a h1) (OwnAll.view sF sB b h2)
end
/-- F with the objects at fp as they stand in H -/
def fz (F H : Hp) (fp : List Addr) : Hp := fun a => if a ∈ fp then H a else F a
theorem fz_sub {fp : List Addr} (h : Sub F H) : Sub F (fz F H fp) := fun a o e => by
  unfold fz
  split
  · exact h a o e
  · exact e
theorem fz_le {fp : List Addr} (h : Sub F H) : Sub (fz F H fp) H := fun a o e => by
  unfold fz at e
  split at e
  · exact e
  · exact h a o e
theorem fz_mem {fp : List Addr} {p : Addr} {o : HO} (hp : p ∈ fp) (h : H p = some o) : fz F H fp p = some o := by
  unfold fz; rw [if_pos hp]; exact h
theorem fz_out {fp : List Addr} {p : Addr} (hp : p ∉ fp) : fz F H fp p = F p := by
  unfold fz; rw [if_neg hp]
theorem fz_mono {fp fq : List Addr} (h : Sub F H) (s : ∀ q ∈ fp, q ∈ fq) : Sub (fz F H fp) (fz F H fq) := fun a o e => by
  unfold fz at e ⊢
  split at e
  · rename_i hm; rw [if_pos (s a hm)]; exact e
  · split
    · exact h a o e
    · exact e
mutual
/-- made data for good -/
theorem Own.freeze (sF : Sub F H) : ∀ {v : V} {t : T} {fp : List Addr} {x : D}, Own Z B F H v t fp → T.toD t = some x → Is Z (fz F H fp) v x
  | _, _, _, _, .d h, e => by simp [T.toD] at e; subst e; exact h.mono (fz_sub sF)
  | _, _, _, _, .lst h a, e => by
    obtain ⟨xs, h1, h2⟩ := map_some (show (T.toDs _).map D.lst = some _ from by simpa [T.toD] using e)
    subst h2; exact .lst (fz_mem (by simp) h) ((OwnAll.freeze sF a h1).mono (fz_mono sF fun q hq => by simp [hq]))
  | _, _, _, _, .lstb h a, e => by simp [T.toD] at e
  | _, _, _, _, .tup h a, e => by
    obtain ⟨xs, h1, h2⟩ := map_some (show (T.toDs _).map D.tup = some _ from by simpa [T.toD] using e)
    subst h2; exact .tup (.of (fz_mem (by simp) h)) ((OwnAll.freeze sF a h1).mono (fz_mono sF fun q hq => by simp [hq]))
  | _, _, _, _, .tupb h a, e => by simp [T.toD] at e
  | _, _, _, _, .dk h l a, e => by
    obtain ⟨xs, h1, h2⟩ := map_some (show (T.toDs _).map (D.dk _) = some _ from by simpa [T.toD] using e)
    subst h2; exact .dk (fz_mem (by simp) h) l ((OwnAll.freeze sF a h1).mono (fz_mono sF fun q hq => by simp [hq]))
  | _, _, _, _, .dkb h l a, e => by simp [T.toD] at e
  | _, _, _, _, .obj h l a, e => by
    obtain ⟨xs, h1, h2⟩ := map_some (show (T.toDs _).map (D.obj _ _) = some _ from by simpa [T.toD] using e)
    subst h2; exact .obj (fz_mem (by simp) h) l ((OwnAll.freeze sF a h1).mono (fz_mono sF fun q hq => by simp [hq]))
  | _, _, _, _, .objb h l a, e => by simp [T.toD] at e
  | _, _, _, _, .scr h, e => by simp [T.toD] at e
  | _, _, _, _, .xo _ _ _, e => by simp [T.toD] at e
  | _, _, _, _, .un, e => by simp [T.toD] at e
theorem OwnAll.freeze (sF : Sub F H) : ∀ {vs : List V} {ts : List T} {fp : List Addr} {xs : List D}, OwnAll Z B F H vs ts fp → T.toDs ts = some xs → IsAll Z (fz F H fp) vs xs
  | _, _, _, _, .nil, e => by simp [T.toDs] at e; subst e; exact .nil
  | _, _, _, _, .cons a b, e => by
    obtain ⟨x, xs, h1, h2, h3⟩ := toDs_cons e
    subst h3
    exact .cons ((Own.freeze sF a h1).mono (fz_mono sF fun q hq => by simp [hq])) ((OwnAll.freeze sF b h2).mono (fz_mono sF fun q hq => by simp [hq]))
end
mutual
/-- lent: where B holds all of it -/
theorem Own.lend {B' H' : Hp} (sb : Sub B B') : ∀ {v : V} {t : T} {fp : List Addr}, Own Z B F H v t fp → (∀ q ∈ fp, B' q = H q) → Own Z B' F H' v t.bor []
  | _, _, _, .d h, _ => by unfold T.bor; exact .d h
  | _, _, _, .lst h a, k => by unfold T.bor; exact .lstb ((k _ (by simp)).trans h) (OwnAll.lend sb a fun q hq => k q (by simp [hq]))
  | _, _, _, .lstb h a, k => by unfold T.bor; exact .lstb (sb _ _ h) (OwnAll.lend sb a fun q hq => k q (by simp at hq))
  | _, _, _, .tup h a, k => by unfold T.bor; exact .tupb ((k _ (by simp)).trans h) (OwnAll.lend sb a fun q hq => k q (by simp [hq]))
  | _, _, _, .tupb h a, k => by unfold T.bor; exact .tupb (sb _ _ h) (OwnAll.lend sb a fun q hq => k q (by simp at hq))
  | _, _, _, .dk h l a, k => by unfold T.bor; exact .dkb ((k _ (by simp)).trans h) l (OwnAll.lend sb a fun q hq => k q (by simp [hq]))
  | _, _, _, .dkb h l a, k => by unfold T.bor; exact .dkb (sb _ _ h) l (OwnAll.lend sb a fun q hq => k q (by simp at hq))
  | _, _, _, .obj h l a, k => by unfold T.bor; exact .objb ((k _ (by simp)).trans h) l (OwnAll.lend sb a fun q hq => k q (by simp [hq]))
  | _, _, _, .objb h l a, k => by unfold T.bor; exact .objb (sb _ _ h) l (OwnAll.lend sb a fun q hq => k q (by simp at hq))
  | _, _, _, .scr h, _ => by unfold T.bor; exact .scr (sb.sql h)
  | _, _, _, .xo _ _ _, _ => by unfold T.bor; exact .un
  | _, _, _, .un, _ => by unfold T.bor; exact .un
theorem OwnAll.lend {B' H' : Hp} (sb : Sub B B') : ∀ {vs : List V} {ts : List T} {fp : List Addr}, OwnAll Z B F H vs ts fp → (∀ q ∈ fp, B' q = H q) → OwnAll Z B' F H' vs (T.bors ts) []
  | _, _, _, .nil, _ => by unfold T.bors; exact .nil
  | _, _, _, .cons a b, k => by unfold T.bors; exact .cons (fp := []) (fq := []) (Own.lend sb a fun q hq => k q (by simp [hq])) (OwnAll.lend sb b fun q hq => k q (by simp [hq]))
end
mutual
/-- with nothing lent in it the base does not matter -/
theorem Own.rebase {B' : Hp} : ∀ {v : V} {t : T} {fp : List Addr}, Own Z B F H v t fp → T.nb t = true → Own Z B' F H v t fp
  | _, _, _, .d h, _ => .d h
  | _, _, _, .lst h a, e => .lst h (OwnAll.rebase a (by simpa [T.nb] using e))
  | _, _, _, .lstb h a, e => by simp [T.nb] at e
  | _, _, _, .tup h a, e => .tup h (OwnAll.rebase a (by simpa [T.nb] using e))
  | _, _, _, .tupb h a, e => by simp [T.nb] at e
  | _, _, _, .dk h l a, e => .dk h l (OwnAll.rebase a (by simpa [T.nb] using e))
  | _, _, _, .dkb h l a, e => by simp [T.nb] at e
  | _, _, _, .obj h l a, e => .obj h l (OwnAll.rebase a (by simpa [T.nb] using e))
  | _, _, _, .objb h l a, e => by simp [T.nb] at e
  | _, _, _, .scr h, e => by simp [T.nb] at e
  | _, _, _, .xo _ _ _, e => by simp [T.nb] at e
  | _, _, _, .un, e => by simp [T.nb] at e
theorem OwnAll.rebase {B' : Hp} : ∀ {vs : List V} {ts : List T} {fp : List Addr}, OwnAll Z B F H vs ts fp → T.nbs ts = true → OwnAll Z B' F H vs ts fp
  | _, _, _, .nil, _ => .nil
  | _, _, _, .cons a b, e => by
    simp only [T.nbs, Bool.and_eq_true] at e
    exact .cons (Own.rebase a e.1) (OwnAll.rebase b e.2)
end
end
end Wh

/-! Wh, part 2: the small language and what it reckons. -/
namespace Wh
open PySem L2

inductive BOp where | add | sub | mul | div | mod | pow
inductive COp where | eq | ne | lt | le | gt | ge | isin | notin
inductive TyK where | int | bool | str | tuple | list | cls (c : Nat)
inductive BI where | len | int | abs | max | max3 | min | maxl | minl | sum | sorted | list | all | any | sortedR

mutual
inductive ME where
  | var (i : Nat) | ref (i : Nat) | mv (i : Nat) | fz (i : Nat)
  | cst (x : D) | glb (x : D)
  | bin (op : BOp) (o : Bool) (a b : ME) | neg (a : ME)
  | cmp (op : COp) (a b : ME) | chain (op op2 : COp) (a b c : ME)
  | isN (a : ME) | notN (a : ME)
  | and (a b : ME) | or (a b : ME) | not (a : ME) | ite (c a b : ME)
  | tup (o : Bool) (es : MEs) | lst (o : Bool) (es : MEs) | dis (o : Bool) (ks : List Key) (es : MEs)
  | idx (a i : ME) | sl (o : Bool) (a lo hi : ME) | no
  | att (c : Nat) (a : ME) (f : Str)
  | dix (a k : ME) | dget (a k e : ME) | din (n : Bool) (k a : ME)
  | isi (a : ME) (k : TyK)
  | call (f : Nat) (es : MEs) | meth (f : Nat) (a : ME) (es : MEs) | mk (c f : Nat) (es : MEs)
  | bi (b : BI) (o : Bool) (es : MEs)
  | app (a e : ME) | pop (a : ME) | popi (a e : ME)
  | lc (o : Bool) (elt : ME) (tg : List Nat) (un : Bool) (it : ME) (c : ME)
  | rng1 (a : ME) | rng2 (a b : ME)
  | frz (e : ME)
  | xfld (i : Nat) (f : Str) | xis (i c c0 : Nat)
  | tupl (a : ME) | xvb (i : Nat)
  | lrg1 (o : Bool) (a : ME) | lrg2 (o : Bool) (a b : ME)
inductive MEs where
  | nil | cons (e : ME) (es : MEs)
end

mutual
inductive MS where
  | asg (i : Nat) (o : Bool) (e : ME)
  | asgT (is : List Nat) (e : ME)
  | asgL (is : List Nat) (e : ME)
  | setI (a i e : ME) | augI (a i : ME) (op : BOp) (e : ME)
  | setA (a : ME) (f : Str) (e : ME)
  | aug (i : Nat) (op : BOp) (e : ME)
  | expr (e : ME)
  | cond (c : ME) (a b : MSs)
  | for_ (tg : List Nat) (un : Bool) (it : ME) (b : MSs)
  | while_ (c : ME) (b : MSs)
  | ret (o : Bool) (e : ME) | retN | brk | cnt | pass
  | raise (c : Nat) (ns : List Str) (es : MEs)
  | try_ (n : Nat) (b : MSs) (hs : MHs)
inductive MSs where
  | nil | cons (s : MS) (ss : MSs)
inductive MHs where
  | nil | cons (c : Nat) (as : Option Nat) (b : MSs) (hs : MHs)
end

abbrev G := List T
inductive Out (α : Type) where
  | ok (a : α) (g : G) | ex (e : Exc) (g : G) | bad
def Out.bind {α β : Type} : Out α → (α → G → Out β) → Out β
  | .ok a g, f => f a g
  | .ex e g, _ => .ex e g
  | .bad, _ => .bad
inductive R where
  | t (t : T) | p (i : Nat) (q : List Nat) | m (i : Nat)
inductive SO where
  | nx (g : G) | rt (t : T) (g : G) | bk (g : G) | ct (g : G) | ex (e : Exc) (g : G) | bad
/-- a call's end: the result and the arguments behind it -/
inductive CO where
  | ok (r : T) (as : List T) | ex (e : Exc) (as : List T) | bad
abbrev Cal := Nat → List T → CO

/-! ### trees -/
def T.kids : T → Option (List T)
  | .lst _ ts => some ts
  | .tup _ ts => some ts
  | .dk _ _ ts => some ts
  | .obj _ _ _ ts => some ts
  | _ => none
def T.setKids : T → List T → T
  | .lst o _, ts => .lst o ts
  | .tup o _, ts => .tup o ts
  | .dk o ks _, ts => .dk o ks ts
  | .obj o c ns _, ts => .obj o c ns ts
  | t, _ => t
def T.look : T → List Nat → Option T
  | t, [] => some t
  | t, k :: q => match t.kids with
    | some ts => match ts[k]? with
      | some u => u.look q
      | none => none
    | none => none
def T.put : T → List Nat → T → T
  | _, [], u => u
  | t, k :: q, u => match t.kids with
    | some ts => match ts[k]? with
      | some w => t.setKids (ts.set k (w.put q u))
      | none => t
    | none => t
/-- data, or lent -/
def T.bnd : T → Bool
  | .d _ => true
  | .lst o _ => !o
  | .tup o _ => !o
  | .dk o _ _ => !o
  | .obj o _ _ _ => !o
  | .scr _ => true
  | .xo _ => false
  | .un => false
def R.tree (g : G) : R → Option T
  | .t u => some u
  | .p i q => match g[i]? with
    | some u => u.look q
    | none => none
  | .m _ => none
def allD : List T → Option (List D)
  | [] => some []
  | .d x :: ts => (allD ts).map (x :: ·)
  | _ :: _ => none
/-- data whose items are data for good -/
def T.sh : T → Option D
  | .d x => some x
  | .lst _ ts => (allD ts).map D.lst
  | .tup _ ts => (allD ts).map D.tup
  | _ => none
def R.sh (g : G) (r : R) : Option D := (r.tree g).bind T.sh
def R.vw (g : G) (r : R) : Option D := (r.tree g).bind T.vw
def mkl (o : Bool) (xs : List D) : T := match o with
  | true => .lst true (xs.map .d)
  | false => .d (.lst xs)

/-! ### operators -/
mutual
def D.py : D → Option PyData
  | .non => some .none
  | .bl b => some (.bool b)
  | .int i => some (.int i)
  | .str s => some (.str s)
  | .lst xs => (D.pys xs).map .list
  | .tup xs => (D.pys xs).map .tuple
  | .dk _ _ => none
  | .obj _ _ _ => none
def D.pys : List D → Option (List PyData)
  | [] => some []
  | x :: xs => match x.py, D.pys xs with
    | some y, some ys => some (y :: ys)
    | _, _ => none
end
def eqP (a b : PyData) : Option Bool := if SeqAt.shaped a && SeqAt.shaped b then some (PyData.eqv a b) else none
def eqD (x y : D) : Option Bool := match x.py, y.py with
  | some a, some b => eqP a b
  | _, _ => none
def inP (a : PyData) : PyData → Option Bool
  | .list bs => if SeqAt.shaped a && SeqAt.shaped (.list bs) then some (bs.any fun z => PyData.eqv z a) else none
  | _ => none
def D.flat : D → Bool
  | .non => true | .bl _ => true | .int _ => true | .str _ => true | _ => false
def flatPy : D → PyData
  | .bl b => .bool b | .int i => .int i | .str s => .str s | _ => .none
def inD (x : D) : D → Option Bool
  | .lst ys => match x.py, (D.lst ys).py with
    | some a, some b => inP a b
    | _, _ => none
  | .tup ys => if x.flat && ys.all D.flat then some (ys.any fun y => PyData.eqv (flatPy y) (flatPy x)) else none
  | _ => none
def smallI (i : Int) : Bool := decide (-(2 ^ 64) < i) && decide (i < 2 ^ 64)
def binop : BOp → D → D → Option D
  | .add, .int a, .int b => some (.int (a + b))
  | .add, .str a, .str b => if a.length + b.length ≤ sizeLine then some (.str (a ++ b)) else none
  | .add, .lst a, .lst b => if a.length + b.length ≤ sizeLine then some (.lst (a ++ b)) else none
  | .add, .tup a, .tup b => if a.length + b.length ≤ sizeLine && !a.isEmpty && !b.isEmpty then some (.tup (a ++ b)) else none
  | .sub, .int a, .int b => some (.int (a - b))
  | .mul, .int a, .int b => if smallI a || smallI b then some (.int (a * b)) else none
  | .div, .int a, .int b => if decide (0 < b) && decide (b.natAbs.log2 < 9000) then some (.int (a / b)) else none
  | .mod, .int a, .int b => if 0 < b then some (.int (a % b)) else none
  | .pow, .int a, .int b => if decide (0 ≤ b) && decide (b ≤ 1000000) && decide (a.natAbs < 2 ^ 64) then some (.int (a ^ b.toNat)) else none
  | _, _, _ => none
/-- the result as a tree: a list is new, so it may be owned -/
def fresh (o : Bool) : D → Option T
  | .lst xs => some (mkl o xs)
  | x => match o with
    | true => none
    | false => some (.d x)
def cmpop : COp → D → D → Option Bool
  | .eq, x, y => eqD x y
  | .ne, x, y => (eqD x y).map (!·)
  | .lt, .int a, .int b => some (decide (a < b))
  | .le, .int a, .int b => some (decide (a ≤ b))
  | .gt, .int a, .int b => some (decide (b < a))
  | .ge, .int a, .int b => some (decide (b ≤ a))
  | .isin, x, y => inD x y
  | .notin, x, y => (inD x y).map (!·)
  | _, _, _ => none
def T.truth : T → Option Bool
  | .d .non => some false
  | .d (.bl b) => some b
  | .d (.int i) => some (i != 0)
  | .d (.str s) => if s.length ≤ sizeLine then some (s.length != 0) else none
  | .d (.lst xs) => some (!xs.isEmpty)
  | .d (.tup xs) => some (!xs.isEmpty)
  | .lst _ ts => some (!ts.isEmpty)
  | _ => none
def keyOf : D → Option Key
  | .int i => some (.inl i)
  | .str s => some (.inr s)
  | _ => none
/-- an item of a tree at a place -/
def stepR (r : R) (k : Nat) : Option R := match r with
  | .p i q => some (.p i (q ++ [k]))
  | _ => none
def kidR (r : R) (ts : List T) (k : Nat) : Option R := match ts[k]? with
  | some (.d x) => some (.t (.d x))
  | some .un => none
  | some _ => stepR r k
  | none => none
def idxR (r : R) (t : T) (i : D) : Option R := match t, i with
  | .d (.lst xs), .int j => (atI xs j).map fun x => .t (.d x)
  | .d (.tup xs), .int j => (atI xs j).map fun x => .t (.d x)
  | .d (.str s), .int j => if s.length ≤ sizeLine then (atI s.cps.toList j).map fun c => .t (.d (.str ⟨#[c]⟩)) else none
  | .scr ns, .int j => (atI ns j).map fun n => .t (.d (.int n))
  | .lst _ ts, .int j => match ixN ts.length j with
    | some k => kidR r ts k
    | none => none
  | .tup _ ts, .int j => match ixN ts.length j with
    | some k => kidR r ts k
    | none => none
  | _, _ => none
/-- a dict's item: none where the key is not there -/
def dixR (r : R) (t : T) (i : D) : Option (Option R) := match t with
  | .d (.dk ks xs) => match keyOf i with
    | some k => match posOf ks k with
      | some n => (xs[n]?).map fun x => some (.t (.d x))
      | none => some none
    | none => none
  | .dk _ ks ts => match keyOf i with
    | some k => match posOf ks k with
      | some n => (kidR r ts n).map some
      | none => some none
    | none => none
  | _ => none
def attR (c : Nat) (r : R) (t : T) (f : Str) : Option R := match t with
  | .d (.obj c' ns xs) => if c = c' then match posOf ns f with
    | some n => (xs[n]?).map fun x => .t (.d x)
    | none => none
    else none
  | .obj _ c' ns ts => if c = c' then match posOf ns f with
    | some n => kidR r ts n
    | none => none
    else none
  | _ => none
def cutD {α : Type} (xs : List α) (lo hi : Option Int) : List α := (xs.drop (HT.sIx xs.length 0 lo)).take (HT.sIx xs.length xs.length hi - HT.sIx xs.length 0 lo)
def slT (o : Bool) (t : T) (lo hi : Option Int) : Option T := match t with
  | .scr ns => some (mkl o ((cutD ns lo hi).map .int))
  | t => match t.sh with
    | some (.lst xs) => some (mkl o (cutD xs lo hi))
    | _ => none
def allInt : List D → Option (List Int)
  | [] => some []
  | .int i :: xs => (allInt xs).map (i :: ·)
  | _ :: _ => none
def allBl : List D → Option (List Bool)
  | [] => some []
  | .bl i :: xs => (allBl xs).map (i :: ·)
  | _ :: _ => none
def insI (x : Int) : List Int → List Int
  | [] => [x]
  | y :: ys => if x ≤ y then x :: y :: ys else y :: insI x ys
def sortI : List Int → List Int
  | [] => []
  | x :: xs => insI x (sortI xs)
def maxI : List Int → Option Int
  | [] => none
  | [x] => some x
  | x :: xs => (maxI xs).map fun m => if m < x then x else m
def minI : List Int → Option Int
  | [] => none
  | [x] => some x
  | x :: xs => (minI xs).map fun m => if x < m then x else m
def T.size : T → Option Nat
  | .d (.lst xs) => some xs.length
  | .d (.tup xs) => some xs.length
  | .d (.str s) => if s.length ≤ sizeLine then some s.length else none
  | .lst _ ts => some ts.length
  | .tup _ ts => some ts.length
  | .scr ns => some ns.length
  | _ => none
def isTy : TyK → T → Option Bool
  | .int, .d (.int _) => some true
  | .int, .d (.bl _) => some true
  | .bool, .d (.bl _) => some true
  | .str, .d (.str _) => some true
  | .tuple, .d (.tup _) => some true
  | .tuple, .tup _ _ => some true
  | .list, .d (.lst _) => some true
  | .list, .lst _ _ => some true
  | .cls c, .d (.obj c' _ _) => if c = c' then some true else none
  | .cls c, .obj _ c' _ _ => if c = c' then some true else none
  | .cls _, .d (.dk _ _) => none
  | .cls _, .d _ => some false
  | .cls _, _ => none
  | _, .d (.obj _ _ _) => none
  | _, .d (.dk _ _) => none
  | _, .d _ => some false
  | _, .lst _ _ => some false
  | _, .tup _ _ => some false
  | _, _ => none
def lenT : List T → Option T
  | [t] => t.size.map fun n : Nat => .d (.int n)
  | _ => none
def intT : List T → Option T
  | [.d (.int i)] => some (.d (.int i))
  | [.d (.bl b)] => some (.d (.int (if b then 1 else 0)))
  | _ => none
def absT : List T → Option T
  | [.d (.int i)] => some (.d (.int (if i < 0 then -i else i)))
  | _ => none
def maxT : List T → Option T
  | [.d (.int i), .d (.int j)] => some (.d (.int (if j > i then j else i)))
  | _ => none
def max3T : List T → Option T
  | [.d (.int i), .d (.int j), .d (.int k)] => some (.d (.int (if k > (if j > i then j else i) then k else (if j > i then j else i))))
  | _ => none
def minT : List T → Option T
  | [.d (.int i), .d (.int j)] => some (.d (.int (if j < i then j else i)))
  | _ => none
/-- a list of ints -/
def T.ints (t : T) : Option (List Int) := match t.sh with
  | some (.lst xs) => allInt xs
  | _ => none
def T.bls (t : T) : Option (List Bool) := match t.sh with
  | some (.lst xs) => allBl xs
  | _ => none
def maxlT : List T → Option T
  | [t] => match t.ints with
    | some is => (maxI is).map fun m => .d (.int m)
    | none => none
  | _ => none
def minlT : List T → Option T
  | [t] => match t.ints with
    | some is => (minI is).map fun m => .d (.int m)
    | none => none
  | _ => none
def sumT : List T → Option T
  | [t] => t.ints.map fun is => .d (.int is.sum)
  | _ => none
def sortedT (o : Bool) : List T → Option T
  | [t] => match t.ints with
    | some is => if is.length < 64 then some (mkl o ((sortI is).map .int)) else none
    | none => none
  | _ => none
/-- rows of ints -/
def allRows : List D → Option (List (List Int))
  | [] => some []
  | .lst xs :: ys => match allInt xs, allRows ys with
    | some r, some rs => some (r :: rs)
    | _, _ => none
  | _ :: _ => none
def T.rows (t : T) : Option (List (List Int)) := match t.sh with
  | some (.lst xs) => allRows xs
  | _ => none
def sortedRT (o : Bool) : List T → Option T
  | [t] => match t.rows with
    | some rs => some (mkl o ((rs.mergeSort fun a b => decide (a ≤ b)).map fun r => .lst (r.map .int)))
    | none => none
  | _ => none
def listT (o : Bool) : List T → Option T
  | [t] => match t.sh with
    | some (.lst xs) => some (mkl o xs)
    | some (.tup xs) => some (mkl o xs)
    | _ => none
  | _ => none
def allT : List T → Option T
  | [t] => t.bls.map fun bs => .d (.bl (bs.all id))
  | _ => none
def anyT : List T → Option T
  | [t] => t.bls.map fun bs => .d (.bl (bs.any id))
  | _ => none
def biT : BI → Bool → List T → Option T
  | .len, _ => lenT
  | .int, _ => intT
  | .abs, _ => absT
  | .max, _ => maxT
  | .max3, _ => max3T
  | .min, _ => minT
  | .maxl, _ => maxlT
  | .minl, _ => minlT
  | .sum, _ => sumT
  | .sorted, o => sortedT o
  | .list, o => listT o
  | .all, _ => allT
  | .any, _ => anyT
  | .sortedR, o => sortedRT o

/-! ### what is walked -/
def itemsT : T → Option (List T)
  | .d (.lst xs) => some (xs.map .d)
  | .d (.tup xs) => some (xs.map .d)
  | .scr ns => some (ns.map fun n => .d (.int n))
  | .lst _ ts => if ts.all T.bnd then some ts else none
  | .tup _ ts => if ts.all T.bnd then some ts else none
  | _ => none
def rngOk (i : Int) : Bool := decide (-(2 ^ 62) ≤ i) && decide (i < 2 ^ 62)
def rngT (lo hi : Int) : List T := (List.range (hi - lo).toNat).map fun k => .d (.int (lo + (k : Nat)))
/-- the target takes an item -/
def setAll : G → List Nat → List T → Option G
  | g, [], [] => some g
  | g, i :: is, t :: ts => setAll (g.set i t) is ts
  | _, _, _ => none
def setTg (g : G) (tg : List Nat) (un : Bool) (t : T) : Option G := match un with
  | false => match tg with
    | [i] => some (g.set i t)
    | _ => none
  | true => match t with
    | .d (.tup xs) => setAll g tg (xs.map .d)
    | .tup false ts => setAll g tg ts
    | _ => none
def forT (body : G → SO) (tg : List Nat) (un : Bool) : List T → G → SO
  | [], g => .nx g
  | t :: ts, g => match setTg g tg un t with
    | none => .bad
    | some g1 => match body g1 with
      | .nx g2 => forT body tg un ts g2
      | .ct g2 => forT body tg un ts g2
      | .bk g2 => .nx g2
      | r => r
def whN : Nat := 1000000000000
def whT (c : G → Out Bool) (body : G → SO) : Nat → G → SO
  | 0, _ => .bad
  | n + 1, g => match c g with
    | .bad => .bad
    | .ex e g1 => .ex e g1
    | .ok false g1 => .nx g1
    | .ok true g1 => match body g1 with
      | .nx g2 => whT c body n g2
      | .ct g2 => whT c body n g2
      | .bk g2 => .nx g2
      | r => r
def wipeG (g : G) : List Nat → G
  | [] => g
  | i :: is => wipeG (g.set i .un) is
/-- a comprehension's turns: what is kept, the state -/
def lcT (tst : G → Out Bool) (elt : G → Out T) (tg : List Nat) (un : Bool) : List T → List T → G → Out (List T)
  | [], acc, g => .ok acc g
  | t :: ts, acc, g => match setTg g tg un t with
    | none => .bad
    | some g1 => match tst g1 with
      | .ok false g2 => lcT tst elt tg un ts acc (wipeG g2 tg)
      | .ok true g2 => match elt g2 with
        | .ok u g3 => if acc.length < 10000000 then lcT tst elt tg un ts (acc ++ [u]) (wipeG g3 tg) else .bad
        | _ => .bad
      | _ => .bad
/-- slots as they were -/
def backG (g0 : G) (g : G) : List Nat → G
  | [] => g
  | i :: is => match g0[i]? with
    | some t => (backG (g0.set i .un) g is).set i t
    | none => backG (g0.set i .un) g is

/-! ### arguments -/
def toArgs : List R → G → Option (List T × G)
  | [], g => some ([], g)
  | .t t :: rs, g => (toArgs rs g).map fun (ts, g1) => (t :: ts, g1)
  | .p i q :: rs, g => match R.tree g (.p i q) with
    | some t => match toArgs rs g with
      | some (ts, g1) => match g1[i]? with
        | some .un => none
        | _ => some (t.bor :: ts, g1)
      | none => none
    | none => none
  | .m i :: rs, g => match g[i]? with
    | some .un => none
    | some (.xo _) => none
    | some t => (toArgs rs (g.set i .un)).map fun (ts, g1) => (t :: ts, g1)
    | none => none
/-- the moved ones come back -/
def back : List R → List T → G → G
  | .m i :: rs, t :: ts, g => back rs ts (g.set i t)
  | _ :: rs, _ :: ts, g => back rs ts g
  | _, _, g => g
def callE (rs : List R) (g1 : G) : CO → Out R
  | .ok r as' => .ok (.t r) (back rs as' g1)
  | .ex e as' => .ex e (back rs as' g1)
  | .bad => .bad
def callR (cal : Cal) (f : Nat) (rs : List R) (g : G) : Out R := match toArgs rs g with
  | none => .bad
  | some (as, g1) => callE rs g1 (cal f as)
def mkR (cal : Cal) (c f : Nat) (rs : List R) (g : G) : Out R := match toArgs rs g with
  | none => .bad
  | some (as, g1) => match cal f (.obj true c [] [] :: as) with
    | .ok (.d .non) (o :: as') => .ok (.t o) (back rs as' g1)
    | .ex e (_ :: as') => .ex e (back rs as' g1)
    | _ => .bad
/-- evaluated while slot i is put aside -/
def aside {α : Type} (i : Nat) (g : G) (f : G → Out α) : Out α := match g[i]? with
  | none => .bad
  | some t => match f (g.set i .un) with
    | .ok a g1 => .ok a (g1.set i t)
    | .ex e g1 => .ex e (g1.set i t)
    | .bad => .bad
/-- .. where the place is not the slot itself -/
def under {α : Type} (r : R) (g : G) (f : G → Out α) : Out α := match r with
  | .p i (k :: q) => match R.tree g (.p i (k :: q)) with
    | some _ => aside i g f
    | none => .bad
  | _ => f g
def lockO {α : Type} (lk : Option Nat) (st : List Nat) (g : G) (f : G → Out α) : Out α := match lk with
  | none => f g
  | some i => if st.contains i then .bad else aside i g f
def SO.on (i : Nat) (t : T) : SO → SO
  | .nx g => .nx (g.set i t)
  | .rt u g => .rt u (g.set i t)
  | .bk g => .bk (g.set i t)
  | .ct g => .ct (g.set i t)
  | .ex e g => .ex e (g.set i t)
  | .bad => .bad
def lockS (lk : Option Nat) (st : List Nat) (g : G) (f : G → SO) : SO := match lk with
  | none => f g
  | some i => if st.contains i then .bad else match g[i]? with
    | none => .bad
    | some t => (f (g.set i .un)).on i t
def putR (g : G) (r : R) (u : T) : Option G := match r with
  | .p i q => match g[i]? with
    | some t => some (g.set i (t.put q u))
    | none => none
  | _ => none
def R.val : R → Option T
  | .t u => some u
  | _ => none
/-- stored as data: an owned tree is frozen, what is lent stays lent -/
def R.keep (g : G) : Bool → R → Option T
  | true, .t u => some u
  | false, .t u => match u.toD with
    | some x => some (.d x)
    | none => if u.bnd then some u else none
  | false, .p i q => match R.tree g (.p i q) with
    | some u => if u.bnd then some u else none
    | none => none
  | _, _ => none
/-- the items of a display -/
def disD : List R → Option (List D)
  | [] => some []
  | .t t :: rs => match t.toD, disD rs with
    | some x, some xs => some (x :: xs)
    | _, _ => none
  | _ :: _ => none
def disT : List R → Option (List T)
  | [] => some []
  | .t t :: rs => (disT rs).map (t :: ·)
  | _ :: _ => none
def lift {α : Type} (o : Option α) (g : G) : Out α := match o with
  | some a => .ok a g
  | none => .bad


/-- what an expression means: its value, its truth, what a loop walks, a slice's bound -/
structure Sm where
  v : G → Out R
  t : G → Out Bool
  i : G → Out (List T × Option Nat)
  o : G → Out (Option Int)
def truR (r : R) (g : G) : Out Bool := match r.tree g with
  | some t => lift t.truth g
  | none => .bad
/-- a slot's own list is put aside while it is walked -/
def R.lock (t : T) : R → Option Nat
  | .p i _ => if t.bnd then none else some i
  | _ => none
def itmR (r : R) (g : G) : Out (List T × Option Nat) := match r.tree g with
  | some t => match itemsT t with
    | some ts => .ok (ts, r.lock t) g
    | none => .bad
  | none => .bad
def bndR (r : R) (g : G) : Out (Option Int) := match r with
  | .t (.d (.int i)) => .ok (some i) g
  | _ => .bad
def mkS (v : G → Out R) : Sm := ⟨v, fun g => (v g).bind truR, fun g => (v g).bind itmR, fun g => (v g).bind bndR⟩
def badI : G → Out (List T × Option Nat) := fun _ => .bad
def badO : G → Out (Option Int) := fun _ => .bad
def badV : G → Out R := fun _ => .bad
def badT : G → Out Bool := fun _ => .bad
def rdVar (i : Nat) (g : G) : Out R := match g[i]? with
  | some (.d x) => .ok (.t (.d x)) g
  | some .un => .bad
  | some _ => .ok (.p i []) g
  | none => .bad
def rdRef (i : Nat) (g : G) : Out R := match g[i]? with
  | some .un => .bad
  | some (.xo _) => .bad
  | some _ => .ok (.m i) g
  | none => .bad
def rdMv (i : Nat) (g : G) : Out R := match g[i]? with
  | some .un => .bad
  | some (.xo _) => .bad
  | some t => .ok (.t t) (g.set i .un)
  | none => .bad
def rdFz (i : Nat) (g : G) : Out R := match g[i]? with
  | some t => match t.toD with
    | some x => .ok (.t (.d x)) (g.set i (.d x))
    | none => .bad
  | none => .bad
def binR (op : BOp) (o : Bool) (ra rb : R) (g : G) : Out R := match ra.sh g, rb.sh g with
  | some x, some y => match binop op x y with
    | some z => lift ((fresh o z).map .t) g
    | none => .bad
  | _, _ => .bad
def negR (ra : R) (g : G) : Out R := match ra with
  | .t (.d (.int i)) => .ok (.t (.d (.int (-i)))) g
  | _ => .bad
def cmpR (op : COp) (ra rb : R) (g : G) : Out R := match ra.vw g, rb.vw g with
  | some x, some y => lift ((cmpop op x y).map fun c => .t (.d (.bl c))) g
  | _, _ => .bad
def chainR (op op2 : COp) (ra rb : R) (c : G → Out R) (g : G) : Out R := match ra, rb with
  | .t (.d (.int x)), .t (.d (.int y)) => match cmpop op (.int x) (.int y) with
    | some true => (c g).bind fun rc g3 => match rc with
      | .t (.d (.int z)) => lift ((cmpop op2 (.int y) (.int z)).map fun k => .t (.d (.bl k))) g3
      | _ => .bad
    | some false => .ok (.t (.d (.bl false))) g
    | none => .bad
  | _, _ => .bad
def isNR (neg : Bool) (ra : R) (g : G) : Out R := match ra.tree g with
  | some (.d .non) => .ok (.t (.d (.bl (!neg)))) g
  | some .un => .bad
  | some _ => .ok (.t (.d (.bl neg))) g
  | none => .bad
def andR (ra : R) (b : G → Out R) (g : G) : Out R := match ra with
  | .t (.d (.bl true)) => b g
  | .t (.d (.bl false)) => .ok (.t (.d (.bl false))) g
  | _ => .bad
def orR (ra : R) (b : G → Out R) (g : G) : Out R := match ra with
  | .t (.d (.bl false)) => b g
  | .t (.d (.bl true)) => .ok (.t (.d (.bl true))) g
  | _ => .bad
def notR (ra : R) (g : G) : Out R := match ra with
  | .t (.d (.bl c)) => .ok (.t (.d (.bl (!c)))) g
  | _ => .bad
def tupR (o : Bool) (rs : List R) (g : G) : Out R := if 10000 < rs.length then .bad else match o with
  | true => lift ((disT rs).map fun ts => .t (.tup true ts)) g
  | false => lift ((disD rs).map fun xs => .t (.d (.tup xs))) g
def lstR (o : Bool) (rs : List R) (g : G) : Out R := if 10000 < rs.length then .bad else match o with
  | true => lift ((disT rs).map fun ts => .t (.lst true ts)) g
  | false => lift ((disD rs).map fun xs => .t (.d (.lst xs))) g
def disR (o : Bool) (ks : List Key) (rs : List R) (g : G) : Out R := if ks.length = rs.length then (match o with
  | true => lift ((disT rs).map fun ts => .t (.dk true ks ts)) g
  | false => lift ((disD rs).map fun xs => .t (.d (.dk ks xs))) g) else .bad
def idxO (ra ri : R) (g : G) : Out R := match ra.tree g, ri with
  | some t, .t (.d j) => lift (idxR ra t j) g
  | _, _ => .bad
def slO (o : Bool) (ra : R) (l u : Option Int) (g : G) : Out R := match ra.tree g with
  | some t => lift ((slT o t l u).map .t) g
  | none => .bad
def dixO (ra ri : R) (g : G) : Out R := match ra.tree g, ri with
  | some t, .t (.d j) => match dixR ra t j with
    | some (some r) => .ok r g
    | _ => .bad
  | _, _ => .bad
def dgetO (ra ri re : R) (g : G) : Out R := match ra.tree g, ri, re with
  | some t, .t (.d j), .t (.d y) => match dixR ra t j with
    | some (some r) => .ok r g
    | some none => .ok (.t (.d y)) g
    | none => .bad
  | _, _, _ => .bad
def dinO (n : Bool) (ri ra : R) (g : G) : Out R := match ra.tree g, ri with
  | some t, .t (.d j) => match dixR ra t j with
    | some (some _) => .ok (.t (.d (.bl (!n)))) g
    | some none => .ok (.t (.d (.bl n))) g
    | none => .bad
  | _, _ => .bad
def isiR (k : TyK) (ra : R) (g : G) : Out R := match ra.tree g with
  | some t => lift ((isTy k t).map fun b => .t (.d (.bl b))) g
  | none => .bad
def attO (c : Nat) (f : Str) (ra : R) (g : G) : Out R := match ra.tree g with
  | some t => lift (attR c ra t f) g
  | none => .bad
def rootR : R → Bool
  | .p _ (_ :: _) => false
  | _ => true
def trees (g : G) : List R → Option (List T)
  | [] => some []
  | r :: rs => match r.tree g, trees g rs with
    | some t, some ts => some (t :: ts)
    | _, _ => none
def biO (b : BI) (o : Bool) (rs : List R) (g : G) : Out R := match trees g rs with
  | some ts => lift ((biT b o ts).map .t) g
  | none => .bad
def appO (ra re : R) (g : G) : Out R := match ra.tree g, re with
  | some (.lst true ts), .t u => if ts.length < 10000000 then match putR g ra (.lst true (ts ++ [u])) with
      | some g3 => .ok (.t (.d .non)) g3
      | none => .bad
    else .bad
  | _, _ => .bad
def popO (ra : R) (g : G) : Out R := match ra.tree g with
  | some (.lst true ts) => match ts.getLast?, putR g ra (.lst true ts.dropLast) with
    | some (.d x), some g2 => .ok (.t (.d x)) g2
    | _, _ => .bad
  | _ => .bad
def popiO (ra re : R) (g : G) : Out R := match ra.tree g, re with
  | some (.lst true ts), .t (.d (.int j)) => if decide (-(2 ^ 63) ≤ j) && decide (j < 2 ^ 63) then match ixN ts.length j with
    | some k => match ts[k]?, putR g ra (.lst true (ts.eraseIdx k)) with
      | some (.d x), some g3 => .ok (.t (.d x)) g3
      | _, _ => .bad
    | none => .bad
    else .bad
  | _, _ => .bad
def keepR (o : Bool) (r : R) (g : G) : Out T := lift (R.keep g o r) g
def lcEnd (o : Bool) (g1 : G) (tg : List Nat) (ts : List T) (g2 : G) : Out R := match o with
  | true => .ok (.t (.lst true ts)) (backG g1 g2 tg)
  | false => match allD ts with
    | some xs => .ok (.t (.d (.lst xs))) (backG g1 g2 tg)
    | none => .bad
def rng1I (r : R) (g : G) : Out (List T × Option Nat) := match r with
  | .t (.d (.int n)) => if rngOk n then .ok (rngT 0 n, none) g else .bad
  | _ => .bad
def rng2I (r s : R) (g : G) : Out (List T × Option Nat) := match r, s with
  | .t (.d (.int m)), .t (.d (.int n)) => if rngOk m && rngOk n then .ok (rngT m n, none) g else .bad
  | _, _ => .bad
def frzR (r : R) (g : G) : Out R := match r with
  | .t t => match t.toD with
    | some x => .ok (.t (.d x)) g
    | none => .bad
  | _ => .bad
def xfldR (i : Nat) (f : Str) (g : G) : Out R := match g[i]? with
  | some (.xo e) => match posOf e.ns f with
    | some n => lift ((e.xs[n]?).map fun x => .t (.d x)) g
    | none => .bad
  | _ => .bad
def xisR (i c c0 : Nat) (g : G) : Out R := match g[i]? with
  | some (.xo e) => if e.c = c0 then .ok (.t (.d (.bl (decide (c0 = c))))) g else .bad
  | _ => .bad
/-- list(range(m, n)) -/
def rngL (m n : Int) : List Int := (List.range (n - m).toNat).map fun k => m + (k : Nat)
def lrgR (o : Bool) (m n : Int) (g : G) : Out R := if rngOk m && rngOk n && decide ((n - m).toNat ≤ 2 ^ 24) then .ok (.t (mkl o ((rngL m n).map .int))) g else .bad
def lrg1R (o : Bool) (r : R) (g : G) : Out R := match r with
  | .t (.d (.int n)) => lrgR o 0 n g
  | _ => .bad
def lrg2R (o : Bool) (r s : R) (g : G) : Out R := match r, s with
  | .t (.d (.int m)), .t (.d (.int n)) => lrgR o m n g
  | _, _ => .bad
/-- tuple(..) of a list -/
def tuplR (ra : R) (g : G) : Out R := match ra.sh g with
  | some (.lst xs) => .ok (.t (.d (.tup xs))) g
  | _ => .bad
def xvbR (i : Nat) (g : G) : Out R := match g[i]? with
  | some (.xo _) => .ok (.t (.d (.bl true))) g
  | _ => .bad
def consR (r : R) (es : G → Out (List R)) (g : G) : Out (List R) := (under r g es).bind fun rs g2 => .ok (r :: rs) g2
/-- two operands, the first one's place put aside meanwhile -/
def bin2 (fa fb : G → Out R) (f : R → R → G → Out R) (g : G) : Out R := (fa g).bind fun ra g1 => (under ra g1 fb).bind fun rb g2 => f ra rb g2
/-- a method that changes its list: the list is there ahead of the argument -/
def isL (r : R) (g : G) : Bool := match r.tree g with
  | some (.lst true _) => true
  | _ => false
def mut2 (fa fb : G → Out R) (f : R → R → G → Out R) (g : G) : Out R := (fa g).bind fun ra g1 => if isL ra g1 then (under ra g1 fb).bind fun rb g2 => f ra rb g2 else .bad
def yesT (g : G) : Out Bool := .ok true g
def isNo : ME → Bool
  | .no => true
  | _ => false

mutual
def sm (cal : Cal) : ME → Sm
  | .var i => mkS (rdVar i)
  | .ref i => mkS (rdRef i)
  | .mv i => mkS (rdMv i)
  | .fz i => mkS (rdFz i)
  | .cst x => mkS fun g => .ok (.t (.d x)) g
  | .glb x => mkS fun g => .ok (.t (.d x)) g
  | .bin op o a b => mkS (bin2 (sm cal a).v (sm cal b).v (binR op o))
  | .neg a => mkS fun g => ((sm cal a).v g).bind negR
  | .cmp op a b => mkS (bin2 (sm cal a).v (sm cal b).v (cmpR op))
  | .chain op op2 a b c => mkS (bin2 (sm cal a).v (sm cal b).v fun ra rb => chainR op op2 ra rb (sm cal c).v)
  | .isN a => mkS fun g => ((sm cal a).v g).bind (isNR false)
  | .notN a => mkS fun g => ((sm cal a).v g).bind (isNR true)
  | .and a b => ⟨fun g => ((sm cal a).v g).bind fun ra g1 => andR ra (sm cal b).v g1,
      fun g => ((sm cal a).t g).bind fun k g1 => match k with
        | true => (sm cal b).t g1
        | false => .ok false g1, badI, badO⟩
  | .or a b => ⟨fun g => ((sm cal a).v g).bind fun ra g1 => orR ra (sm cal b).v g1,
      fun g => ((sm cal a).t g).bind fun k g1 => match k with
        | true => .ok true g1
        | false => (sm cal b).t g1, badI, badO⟩
  | .not a => ⟨fun g => ((sm cal a).v g).bind notR, fun g => ((sm cal a).t g).bind fun k g1 => .ok (!k) g1, badI, badO⟩
  | .ite c a b =>
      let v := fun g => ((sm cal c).t g).bind fun k g1 => match k with
        | true => (sm cal a).v g1
        | false => (sm cal b).v g1
      ⟨v, badT, fun g => (v g).bind itmR, badO⟩
  | .tup o es => mkS fun g => (sms cal es g).bind (tupR o)
  | .lst o es => mkS fun g => (sms cal es g).bind (lstR o)
  | .dis o ks es => mkS fun g => (sms cal es g).bind (disR o ks)
  | .idx a i => mkS (bin2 (sm cal a).v (sm cal i).v idxO)
  | .sl o a lo hi => mkS fun g => ((sm cal a).v g).bind fun ra g1 => (under ra g1 (sm cal lo).o).bind fun l g2 => (under ra g2 (sm cal hi).o).bind fun u g3 => slO o ra l u g3
  | .no => ⟨badV, badT, badI, fun g => .ok none g⟩
  | .att c a f => mkS fun g => ((sm cal a).v g).bind (attO c f)
  | .dix a k => mkS (bin2 (sm cal a).v (sm cal k).v dixO)
  | .dget a k e => mkS (bin2 (sm cal a).v (sm cal k).v fun ra ri g => (under ra g (sm cal e).v).bind fun re g1 => dgetO ra ri re g1)
  | .din n k a => mkS (bin2 (sm cal k).v (sm cal a).v (dinO n))
  | .isi a k => mkS fun g => ((sm cal a).v g).bind (isiR k)
  | .call f es => mkS fun g => (sms cal es g).bind (callR cal f)
  | .meth f a es => mkS fun g => ((sm cal a).v g).bind fun ra g1 => if rootR ra then (sms cal es g1).bind fun rs g2 => callR cal f (ra :: rs) g2 else .bad
  | .mk c f es => mkS fun g => (sms cal es g).bind (mkR cal c f)
  | .bi b o es => mkS fun g => (sms cal es g).bind (biO b o)
  | .app a e => mkS (mut2 (sm cal a).v (sm cal e).v appO)
  | .pop a => mkS fun g => ((sm cal a).v g).bind popO
  | .popi a e => mkS (mut2 (sm cal a).v (sm cal e).v popiO)
  | .lc o elt tg un it c => mkS fun g => ((sm cal it).i g).bind fun its g1 => lockO its.2 tg g1 fun g1 =>
      (lcT (if isNo c then yesT else (sm cal c).t) (fun h => ((sm cal elt).v h).bind (keepR o)) tg un its.1 [] (wipeG g1 tg)).bind fun ts g2 => lcEnd o g1 tg ts g2
  | .rng1 a => ⟨badV, badT, fun g => ((sm cal a).v g).bind rng1I, badO⟩
  | .rng2 a b => ⟨badV, badT, fun g => ((sm cal a).v g).bind fun r g1 => ((sm cal b).v g1).bind fun s g2 => rng2I r s g2, badO⟩
  | .frz e => mkS fun g => ((sm cal e).v g).bind frzR
  | .xfld i f => mkS (xfldR i f)
  | .xis i c c0 => mkS (xisR i c c0)
  | .tupl a => mkS fun g => ((sm cal a).v g).bind tuplR
  | .xvb i => mkS (xvbR i)
  | .lrg1 o a => mkS fun g => ((sm cal a).v g).bind (lrg1R o)
  | .lrg2 o a b => mkS fun g => ((sm cal a).v g).bind fun r g1 => ((sm cal b).v g1).bind (lrg2R o r)
def sms (cal : Cal) : MEs → G → Out (List R)
  | .nil, g => .ok [] g
  | .cons e es, g => ((sm cal e).v g).bind fun r g1 => consR r (sms cal es) g1
end

/-! ### statements -/
def Out.so {α : Type} : Out α → (α → G → SO) → SO
  | .ok a g, f => f a g
  | .ex e g, _ => .ex e g
  | .bad, _ => .bad
def SO.seq : SO → (G → SO) → SO
  | .nx g, f => f g
  | r, _ => r
def asgS (i : Nat) (o : Bool) (r : R) (g : G) : SO := match R.keep g o r with
  | some t => if i < g.length then .nx (g.set i t) else .bad
  | none => .bad
def asgTS (is : List Nat) (r : R) (g : G) : SO := match r with
  | .t (.d (.tup xs)) => match setAll g is (xs.map .d) with
    | some g1 => .nx g1
    | none => .bad
  | .t (.tup true ts) => match setAll g is ts with
    | some g1 => .nx g1
    | none => .bad
  | .p i q => match R.tree g (.p i q) with
    | some (.tup false ts) => match setAll g is ts with
      | some g1 => .nx g1
      | none => .bad
    | _ => .bad
  | _ => .bad
def asgLS (is : List Nat) (r : R) (g : G) : SO := match r with
  | .t (.d (.lst xs)) => match setAll g is (xs.map .d) with
    | some g1 => .nx g1
    | none => .bad
  | _ => .bad
def setKid (t : T) (j : D) (u : T) : Option T := match t, j with
  | .lst true ts, .int k => match ixN ts.length k with
    | some n => some (.lst true (ts.set n u))
    | none => none
  | _, _ => none
def setIS (re ra ri : R) (g : G) : SO := match re, ra.tree g, ri with
  | .t u, some t, .t (.d j) => match setKid t j u with
    | some t' => match putR g ra t' with
      | some g1 => .nx g1
      | none => .bad
    | none => .bad
  | _, _, _ => .bad
def onlyT (r : R) (g : G) (f : G → SO) : SO := match r with
  | .t _ => f g
  | _ => .bad
/-- the int that stood there -/
def augO (ra ri : R) (g : G) (k : Int → Int → SO) : SO := match ra.tree g, ri with
  | some (.lst true ts), .t (.d (.int j)) => match idxR ra (.lst true ts) (.int j) with
    | some (.t (.d (.int x))) => k x j
    | _ => .bad
  | _, _ => .bad
def augIS (op : BOp) (x j : Int) (re ra : R) (g : G) : SO := match ra.tree g, re with
  | some t, .t (.d (.int y)) => match binop op (.int x) (.int y) with
    | some (.int z) => match setKid t (.int j) (.d (.int z)) with
      | some t' => match putR g ra t' with
        | some g1 => .nx g1
        | none => .bad
      | none => .bad
    | _ => .bad
  | _, _ => .bad
def setAttT (t : T) (f : Str) (u : T) : Option T := match t with
  | .obj true c ns ts => match posOf ns f with
    | some n => some (.obj true c ns (ts.set n u))
    | none => if ts.length < 900 then some (.obj true c (ns ++ [f]) (ts ++ [u])) else none
  | _ => none
def setAS (f : Str) (re ra : R) (g : G) : SO := match re, ra.tree g with
  | .t u, some t => match setAttT t f u with
    | some t' => match putR g ra t' with
      | some g1 => .nx g1
      | none => .bad
    | none => .bad
  | _, _ => .bad
def augP (i : Nat) (g : G) (k : Int → SO) : SO := match g[i]? with
  | some (.d (.int x)) => k x
  | _ => .bad
def augS (i : Nat) (op : BOp) (x : Int) (r : R) (g : G) : SO := match r with
  | .t (.d (.int y)) => match binop op (.int x) (.int y) with
    | some (.int z) => .nx (g.set i (.d (.int z)))
    | _ => .bad
  | _ => .bad
/-- a result: owned, or data -/
def retS (o : Bool) (r : R) (g : G) : SO := match o, r with
  | true, .t t => if t.nb then .rt t g else .bad
  | false, .t t => match t.toD with
    | some x => .rt (.d x) g
    | none => .bad
  | _, _ => .bad
def exOf (c : Nat) (ns : List Str) (rs : List R) (g : G) : SO := match disD rs with
  | some xs => if ns.length = xs.length then .ex ⟨c, ns, xs⟩ g else .bad
  | none => .bad
def catchS (o : SO) (k : Exc → G → SO) : SO := match o with
  | .ex e g => k e g
  | r => r
mutual
/-- no error in it -/
def T.nxo : T → Bool
  | .d _ => true
  | .lst _ ts => nxos ts
  | .tup _ ts => nxos ts
  | .dk _ _ ts => nxos ts
  | .obj _ _ _ ts => nxos ts
  | .scr _ => true
  | .xo _ => false
  | .un => true
def nxos : List T → Bool
  | [] => true
  | t :: ts => T.nxo t && nxos ts
end
def goneG (as : Option Nat) (g : G) : G := match as with
  | none => g
  | some i => g.set i .un
/-- nothing is raised where an exception is handled; its name goes -/
def SO.calm (as : Option Nat) : SO → SO
  | .nx g => if nxos (goneG as g) then .nx (goneG as g) else .bad
  | .rt t g => if t.nxo && nxos (goneG as g) then .rt t (goneG as g) else .bad
  | .bk g => if nxos (goneG as g) then .bk (goneG as g) else .bad
  | .ct g => if nxos (goneG as g) then .ct (goneG as g) else .bad
  | .ex _ _ => .bad
  | .bad => .bad
mutual
/-- the slots that a statement stores to -/
def stS : MS → List Nat
  | .asg i _ _ => [i]
  | .asgT is _ => is
  | .asgL is _ => is
  | .aug i _ _ => [i]
  | .cond _ a b => stSs a ++ stSs b
  | .for_ tg _ _ b => tg ++ stSs b
  | .while_ _ b => stSs b
  | .try_ _ b hs => stSs b ++ stHs hs
  | _ => []
def stSs : MSs → List Nat
  | .nil => []
  | .cons s ss => stS s ++ stSs ss
def stHs : MHs → List Nat
  | .nil => []
  | .cons _ none b hs => stSs b ++ stHs hs
  | .cons _ (some i) b hs => i :: (stSs b ++ stHs hs)
end
mutual
def ex (cal : Cal) : MS → G → SO
  | .asg i o e, g => ((sm cal e).v g).so (asgS i o)
  | .asgT is e, g => ((sm cal e).v g).so (asgTS is)
  | .asgL is e, g => ((sm cal e).v g).so (asgLS is)
  | .setI a i e, g => ((sm cal e).v g).so fun re g1 => onlyT re g1 fun g1 => ((sm cal a).v g1).so fun ra g2 => (under ra g2 (sm cal i).v).so fun ri g3 => setIS re ra ri g3
  | .augI a i op e, g => ((sm cal a).v g).so fun ra g1 => (under ra g1 (sm cal i).v).so fun ri g2 => augO ra ri g2 fun x j => (under ra g2 (sm cal e).v).so fun re g3 => augIS op x j re ra g3
  | .setA a f e, g => ((sm cal e).v g).so fun re g1 => onlyT re g1 fun g1 => ((sm cal a).v g1).so fun ra g2 => setAS f re ra g2
  | .aug i op e, g => augP i g fun x => ((sm cal e).v g).so (augS i op x)
  | .expr e, g => ((sm cal e).v g).so fun _ g1 => .nx g1
  | .cond c a b, g => ((sm cal c).t g).so fun k g1 => match k with
      | true => exs cal a g1
      | false => exs cal b g1
  | .for_ tg un it b, g => ((sm cal it).i g).so fun its g1 => lockS its.2 (tg ++ stSs b) g1 (forT (exs cal b) tg un its.1)
  | .while_ c b, g => whT (sm cal c).t (exs cal b) whN g
  | .ret o e, g => ((sm cal e).v g).so (retS o)
  | .retN, g => .rt (.d .non) g
  | .brk, g => .bk g
  | .cnt, g => .ct g
  | .pass, g => .nx g
  | .raise c ns es, g => (sms cal es g).so (exOf c ns)
  | .try_ n b hs, g => catchS (exs cal b g) fun e g1 => if e.c < n then exh cal hs e g1 else .bad
def exs (cal : Cal) : MSs → G → SO
  | .nil, g => .nx g
  | .cons s ss, g => (ex cal s g).seq (exs cal ss)
def exh (cal : Cal) : MHs → Exc → G → SO
  | .nil, e, g => .ex e g
  | .cons c as b hs, e, g => if e.c = c then match as with
      | none => (exs cal b g).calm none
      | some i => if (stSs b).contains i then .bad else if i < g.length then (exs cal b (g.set i (.xo e))).calm (some i) else .bad
    else exh cal hs e g
end

/-! ### defs -/
structure FD where
  np : Nat
  nl : Nat
  body : MSs
  reb : List Nat
/-- moved arguments come back, others are as they were -/
def outs (reb : List Nat) (i : Nat) : List T → G → Option (List T)
  | [], _ => some []
  | a :: as, g => match a.bnd with
    | true => match g with
      | _ :: g' => (outs reb (i + 1) as g').map (a :: ·)
      | [] => none
    | false => match g with
      | t :: g' => if reb.contains i || !t.nb then none else (outs reb (i + 1) as g').map (t :: ·)
      | [] => none
def endCO (fd : FD) (as : List T) : SO → CO
  | .rt t g => if t.nb then match outs fd.reb 0 as g with
      | some os => .ok t os
      | none => .bad
    else .bad
  | .nx g => match outs fd.reb 0 as g with
    | some os => .ok (.d .non) os
    | none => .bad
  | .ex e g => match outs fd.reb 0 as g with
    | some os => .ex e os
    | none => .bad
  | _ => .bad
def run1 (cal : Cal) (fd : FD) (as : List T) : CO :=
  if as.length = fd.np then endCO fd as (exs cal fd.body (as ++ List.replicate fd.nl .un)) else .bad
def callD (fs : List FD) : Nat → Cal
  | 0 => fun _ _ => .bad
  | d + 1 => fun f as => match fs[f]? with
    | some fd => run1 (callD fs d) fd as
    | none => .bad
end Wh

/-! Wh, part 3: what holds of slots and heap; places; what a mutation keeps. -/
namespace Wh
open PySem L2

/-- L: where lent things lie; B: what must stay; F: what is data for good; fp i: the objects that slot i owns -/
structure Rel (Z : Ctx) (L B F : Hp) (fp : Nat → List Addr) (g : G) (σ : L2.St) (H : Hp) : Prop where
  ls : σ.length = g.length
  sl : ∀ (i : Nat) (t : T), g[i]? = some t → (t = .un ∧ fp i = []) ∨ ∃ v, σ[i]? = some (some v) ∧ Own Z L F H v t (fp i)
  out : ∀ i, g.length ≤ i → fp i = []
  sF : Sub F H
  sB : Sub B H
  sL : Sub L B
  nd : ∀ i, (fp i).Nodup
  ds : ∀ i j, i ≠ j → ∀ p ∈ fp i, p ∉ fp j
  dj : ∀ i, ∀ p ∈ fp i, F p = none ∧ B p = none

/-- more is data for good, nothing of what stays -/
structure Le (B F F' : Hp) : Prop where
  sub : Sub F F'
  new : ∀ p, F' p ≠ none → F p ≠ none ∨ B p = none
theorem Le.refl (B F : Hp) : Le B F F := ⟨.refl F, fun _ h => .inl h⟩
theorem Le.trans {B F G H : Hp} (a : Le B F G) (b : Le B G H) : Le B F H := ⟨a.sub.trans b.sub, fun p h => (b.new p h).elim (a.new p) .inr⟩
theorem Sub.none {F H : Hp} (s : Sub F H) {p : Addr} (h : H p = none) : F p = none := by
  cases e : F p with
  | none => rfl
  | some o => rw [s p o e] at h; cases h
theorem Le.weak {B B' F F' : Hp} (s : Sub B B') (h : Le B' F F') : Le B F F' := ⟨h.sub, fun p hp => (h.new p hp).imp id s.none⟩

/-- a kid's value -/
def kidsV : HO → Option (List V)
  | .lst vs => some vs
  | .tup vs => some vs
  | .dK kvs => some (kvs.map (·.2))
  | .ins _ _ fs => some (fs.map (·.2))
  | _ => none
inductive PathV (H : Hp) : V → List Nat → V → Prop
  | nil {v : V} : PathV H v [] v
  | cons {p : Addr} {o : HO} {vs : List V} {k : Nat} {q : List Nat} {w v : V} : H p = some o → kidsV o = some vs → vs[k]? = some w → PathV H w q v → PathV H (.ref p) (k :: q) v
theorem PathV.snoc {H : Hp} {v : V} {q : List Nat} {p : Addr} {o : HO} {vs : List V} {k : Nat} {w : V} (a : PathV H v q (.ref p)) (h : H p = some o) (hk : kidsV o = some vs) (e : vs[k]? = some w) : PathV H v (q ++ [k]) w := by
  generalize ex : V.ref p = x at a
  induction a with
  | nil => subst ex; exact .cons h hk e .nil
  | cons h1 h2 h3 _ ih => exact .cons h1 h2 h3 (ih ex)

section
variable {Z : Ctx} {L B F F' H H' : Hp}
theorem OwnAll.split {vs : List V} {ts : List T} {fp : List Addr} {k : Nat} {t : T} {v : V} (h : OwnAll Z L F H vs ts fp) (e : ts[k]? = some t) (ev : vs[k]? = some v) :
    ∃ fa fk fb, fp = fa ++ (fk ++ fb) ∧ Own Z L F H v t fk ∧
      ∀ {F' H' : Hp} {t' : T} {fk' : List Addr} {w : V}, Sub F F' → (∀ q ∈ fa ++ fb, H' q = H q) → Own Z L F' H' w t' fk' → OwnAll Z L F' H' (vs.set k w) (ts.set k t') (fa ++ (fk' ++ fb)) := by
  induction ts generalizing vs fp k with
  | nil => simp at e
  | cons y ys ih =>
    cases h with
    | @cons v0 vs0 _ _ f1 f2 a b =>
      cases k with
      | zero =>
        simp at e ev; subst e ev
        refine ⟨[], f1, f2, rfl, a, fun {F' H' t' fk' w} sF hs ho => ?_⟩
        have b' := OwnAll.frame (H' := H') sF (.refl L) b fun q hq => hs q (by simp [hq])
        have c := OwnAll.cons ho b'
        simpa using c
      | succ k =>
        obtain ⟨fa, fk, fb, h1, h2, h3⟩ := ih b (by simpa using e) (by simpa using ev)
        subst h1
        refine ⟨f1 ++ fa, fk, fb, by simp, h2, fun sF hs ho => ?_⟩
        have a' := Own.frame sF (.refl L) a fun q hq => hs q (by simp [hq])
        have b' := h3 sF (fun q hq => hs q (by
          rcases List.mem_append.mp hq with hq | hq
          · simp [hq]
          · simp [hq])) ho
        have := OwnAll.cons a' b'
        simpa [List.append_assoc] using this
theorem set_self {α : Type} {xs : List α} {k : Nat} {x : α} (e : xs[k]? = some x) : xs.set k x = xs := by
  induction xs generalizing k with
  | nil => simp at e
  | cons y ys ih =>
    cases k with
    | zero => simp at e; subst e; rfl
    | succ k => simpa using ih (by simpa using e)
/-- the tree at a place, and its exchange -/
theorem Own.place (sL : Sub L H) : ∀ (q : List Nat) {v0 v : V} {t u : T} {fp : List Addr}, Own Z L F H v0 t fp → t.look q = some u → PathV H v0 q v →
    ∃ fu rest, fp.Perm (fu ++ rest) ∧ Own Z L F H v u fu ∧
      (fu ≠ [] → ∀ {F' H' : Hp} {u' : T} {fu' : List Addr}, Sub F F' → (∀ p ∈ rest, H' p = H p) → Own Z L F' H' v u' fu' → ∃ fp', fp'.Perm (fu' ++ rest) ∧ Own Z L F' H' v0 (t.put q u') fp')
  | [], v0, v, t, u, fp, h, e, pv => by
    cases pv
    simp [T.look] at e
    subst e
    exact ⟨fp, [], by simp, h, fun _ F' H' u' fu' _ _ ho => ⟨fu', by simp, by simpa [T.put] using ho⟩⟩
  | k :: q, v0, v, t, u, fp, h, e, pv => by
    cases pv with
    | @cons p o vs _ _ w _ hp hk hw pv =>
    -- the part common to owned nodes
    have own : ∀ {ts : List T} {fk : List Addr}, t.kids = some ts → OwnAll Z L F H vs ts fk → fp = p :: fk → (∀ {F' H' : Hp} {ts' : List T} {fk' : List Addr}, H' p = H p → OwnAll Z L F' H' vs ts' fk' → Own Z L F' H' (.ref p) (t.setKids ts') (p :: fk')) →
        ∃ fu rest, fp.Perm (fu ++ rest) ∧ Own Z L F H v u fu ∧
          (fu ≠ [] → ∀ {F' H' : Hp} {u' : T} {fu' : List Addr}, Sub F F' → (∀ p ∈ rest, H' p = H p) → Own Z L F' H' v u' fu' → ∃ fp', fp'.Perm (fu' ++ rest) ∧ Own Z L F' H' (.ref p) (t.put (k :: q) u') fp') := by
      intro ts fk ek ha ef mk
      have e2 : (match ts[k]? with | some u => u.look q | none => none) = some u := by
        unfold T.look at e; rw [ek] at e; exact e
      cases etk : ts[k]? with
      | none => rw [etk] at e2; simp at e2
      | some tk =>
        rw [etk] at e2
        obtain ⟨fa, f1, fb, h1, h2, h3⟩ := ha.split etk hw
        obtain ⟨fu, rest, h4, h5, h6⟩ := Own.place sL q h2 e2 pv
        refine ⟨fu, p :: (fa ++ fb ++ rest), ?_, h5, fun hne F' H' u' fu' sF hs ho => ?_⟩
        · subst ef h1
          have x1 : (fa ++ (f1 ++ fb)).Perm (fu ++ (fa ++ fb ++ rest)) := by
            have y1 : (fa ++ (f1 ++ fb)).Perm (f1 ++ (fa ++ fb)) := by
              have := List.perm_append_comm_assoc fa f1 fb
              exact this
            refine y1.trans ?_
            have y2 : (f1 ++ (fa ++ fb)).Perm ((fu ++ rest) ++ (fa ++ fb)) := h4.append_right _
            refine y2.trans ?_
            rw [List.append_assoc]
            exact List.perm_append_comm.append_left fu
          have x2 : (p :: (fa ++ (f1 ++ fb))).Perm (p :: (fu ++ (fa ++ fb ++ rest))) := x1.cons p
          exact x2.trans List.perm_middle.symm
        · obtain ⟨fk', h7, h8⟩ := h6 hne sF (fun x hx => hs x (by simp [hx])) ho
          have h9 := h3 sF (fun x hx => hs x (by
            rcases List.mem_append.mp hx with hx | hx
            · simp [hx]
            · simp [hx])) h8
          rw [set_self hw] at h9
          refine ⟨p :: (fa ++ (fk' ++ fb)), ?_, ?_⟩
          · have y1 : (fa ++ (fk' ++ fb)).Perm (fk' ++ (fa ++ fb)) := List.perm_append_comm_assoc fa fk' fb
            have y2 : (fk' ++ (fa ++ fb)).Perm ((fu' ++ rest) ++ (fa ++ fb)) := h7.append_right _
            have y3 : ((fu' ++ rest) ++ (fa ++ fb)).Perm (fu' ++ (fa ++ fb ++ rest)) := by
              rw [List.append_assoc]
              exact List.perm_append_comm.append_left fu'
            exact (((y1.trans y2).trans y3).cons p).trans List.perm_middle.symm
          · have e3 : t.put (k :: q) u' = t.setKids (ts.set k (tk.put q u')) := by
              show (match t.kids with | some ts => (match ts[k]? with | some w => t.setKids (ts.set k (w.put q u')) | none => t) | none => t) = _
              rw [ek]; simp only; rw [etk]
            rw [e3]
            exact mk (hs p (by simp)) h9
    have lent : ∀ {ts : List T}, t.kids = some ts → OwnAll Z L F H vs ts [] → fp = [] →
        ∃ fu rest, fp.Perm (fu ++ rest) ∧ Own Z L F H v u fu ∧
          (fu ≠ [] → ∀ {F' H' : Hp} {u' : T} {fu' : List Addr}, Sub F F' → (∀ p ∈ rest, H' p = H p) → Own Z L F' H' v u' fu' → ∃ fp', fp'.Perm (fu' ++ rest) ∧ Own Z L F' H' (.ref p) (t.put (k :: q) u') fp') := by
      intro ts ek ha ef
      have e2 : (match ts[k]? with | some u => u.look q | none => none) = some u := by
        unfold T.look at e; rw [ek] at e; exact e
      cases etk : ts[k]? with
      | none => rw [etk] at e2; simp at e2
      | some tk =>
        rw [etk] at e2
        obtain ⟨fa, f1, fb, h1, h2, h3⟩ := ha.split etk hw
        have hf : f1 = [] := by
          have := congrArg List.length h1
          simp only [List.length_append, List.length_nil] at this
          exact List.eq_nil_of_length_eq_zero (by omega)
        subst hf
        obtain ⟨fu, rest, h4, h5, h6⟩ := Own.place sL q h2 e2 pv
        have h7 : fu ++ rest = [] := by
          have := h4.length_eq
          exact List.eq_nil_of_length_eq_zero (by simpa using this.symm)
        obtain ⟨h8, h9⟩ := List.append_eq_nil_iff.mp h7
        subst h8 h9
        exact ⟨[], [], by rw [ef]; simp, h5, fun hne => absurd rfl hne⟩
    cases h with
    | d h => simp [T.look, T.kids] at e
    | lst h a =>
      rw [hp] at h; cases h
      simp only [kidsV, Option.some.injEq] at hk; subst hk
      exact own rfl a rfl fun hh ha => .lst (hh.trans hp) ha
    | lstb h a =>
      have h' := sL _ _ h
      rw [hp] at h'; cases h'
      simp only [kidsV, Option.some.injEq] at hk; subst hk
      exact lent rfl a rfl
    | tup h a =>
      rw [hp] at h; cases h
      simp only [kidsV, Option.some.injEq] at hk; subst hk
      exact own rfl a rfl fun hh ha => .tup (hh.trans hp) ha
    | tupb h a =>
      have h' := sL _ _ h
      rw [hp] at h'; cases h'
      simp only [kidsV, Option.some.injEq] at hk; subst hk
      exact lent rfl a rfl
    | dk h l a =>
      rw [hp] at h; cases h
      simp only [kidsV, Option.some.injEq] at hk
      rw [List.map_snd_zip (by omega)] at hk; subst hk
      exact own rfl a rfl fun hh ha => .dk (hh.trans hp) l ha
    | dkb h l a =>
      have h' := sL _ _ h
      rw [hp] at h'; cases h'
      simp only [kidsV, Option.some.injEq] at hk
      rw [List.map_snd_zip (by omega)] at hk; subst hk
      exact lent rfl a rfl
    | obj h l a =>
      rw [hp] at h; cases h
      simp only [kidsV, Option.some.injEq] at hk
      rw [List.map_snd_zip (by omega)] at hk; subst hk
      exact own rfl a rfl fun hh ha => .obj (hh.trans hp) l ha
    | objb h l a =>
      have h' := sL _ _ h
      rw [hp] at h'; cases h'
      simp only [kidsV, Option.some.injEq] at hk
      rw [List.map_snd_zip (by omega)] at hk; subst hk
      exact lent rfl a rfl
    | scr h => simp [T.look, T.kids] at e
    | xo _ _ _ => simp [T.look, T.kids] at e
    | un => simp [T.look, T.kids] at e
end
end Wh

/-! Wh, part 4: what a result claims; a part evaluated while others wait. -/
namespace Wh
open PySem L2

def upf (fp : Nat → List Addr) (i : Nat) (l : List Addr) : Nat → List Addr := fun j => if j = i then l else fp j
theorem upf_same {fp : Nat → List Addr} {i : Nat} {l : List Addr} : upf fp i l i = l := if_pos rfl
theorem upf_ne {fp : Nat → List Addr} {i j : Nat} {l : List Addr} (h : j ≠ i) : upf fp i l j = fp j := if_neg h

/-- objects of none of the others -/
structure Apart (B F : Hp) (fp : Nat → List Addr) (fq : List Addr) : Prop where
  nd : fq.Nodup
  dj : ∀ p ∈ fq, F p = none ∧ B p = none
  no : ∀ p ∈ fq, ∀ i, p ∉ fp i
theorem Apart.nil {B F : Hp} {fp : Nat → List Addr} : Apart B F fp [] := ⟨.nil, fun _ h => by simp at h, fun _ h => by simp at h⟩

inductive Pls (σ : L2.St) (H : Hp) : List V → List R → Prop
  | nil : Pls σ H [] []
  | t {v : V} {vs : List V} {t : T} {rs : List R} : Pls σ H vs rs → Pls σ H (v :: vs) (.t t :: rs)
  | p {v v0 : V} {vs : List V} {i : Nat} {q : List Nat} {rs : List R} : σ[i]? = some (some v0) → PathV H v0 q v → Pls σ H vs rs → Pls σ H (v :: vs) (.p i q :: rs)
  | m {v : V} {vs : List V} {i : Nat} {rs : List R} : σ[i]? = some (some v) → Pls σ H vs rs → Pls σ H (v :: vs) (.m i :: rs)
def exV : List V → List R → List V
  | v :: vs, .t _ :: rs => v :: exV vs rs
  | _ :: vs, _ :: rs => exV vs rs
  | _, _ => []
def exT : List R → List T
  | .t t :: rs => t :: exT rs
  | _ :: rs => exT rs
  | [] => []
/-- what the values vs of the results rs claim -/
def Cls (Z : Ctx) (L B F : Hp) (fp : Nat → List Addr) (σ : L2.St) (H : Hp) (vs : List V) (rs : List R) : Prop :=
  Pls σ H vs rs ∧ ∃ fq, OwnAll Z L F H (exV vs rs) (exT rs) fq ∧ Apart B F fp fq
abbrev Cl (Z : Ctx) (L B F : Hp) (fp : Nat → List Addr) (σ : L2.St) (H : Hp) (v : V) (r : R) : Prop := Cls Z L B F fp σ H [v] [r]

structure Kd (α β : Type) where
  rv : β → List V
  rr : α → List R
  pr : β → α → Prop
def kR : Kd R V := ⟨fun v => [v], fun r => [r], fun _ _ => True⟩
def kRs : Kd (List R) (List V) := ⟨id, id, fun _ _ => True⟩
def kB : Kd Bool Bool := ⟨fun _ => [], fun _ => [], fun a b => a = b⟩
def kO : Kd (Option Int) (Option Int) := ⟨fun _ => [], fun _ => [], fun a b => a = b⟩
/-- an exception's own dict -/
def XIs (Z : Ctx) (F H : Hp) (d : Addr) (e : Exc) : Prop :=
  ∃ fvs, H d = some (.xd fvs) ∧ ∀ (n : Nat) (f : Str) (x : D), posOf e.ns f = some n → e.xs[n]? = some x → ∃ v, fvs.lookup f = some v ∧ Is Z F v x

section
variable {α β : Type} {Z : Ctx} {L B B' F F' H H' : Hp} {fp fp' : Nat → List Addr} {g g' : G} {σ : L2.St} {W : WX}
/-- an outcome meets what is wanted -/
def Sat (Z : Ctx) (L : Hp) (W : WX) (k : Kd α β) (B F : Hp) (σ : L2.St) (o : Out α) (Q : β → Hp → Prop) : Prop := match o with
  | .ok a g' => ∀ b F' fp' H', Le B F F' → Rel Z L B F' fp' g' σ H' → k.pr b a → Cls Z L B F' fp' σ H' (k.rv b) (k.rr a) → Q b H'
  | .ex x g' => ∀ d F' fp' H', Le B F F' → Rel Z L B F' fp' g' σ H' → XIs Z F' H' d x → W (.ref (Z.ca x.c)) (some d) σ H'
  | .bad => False
/-- a reading that does what f reckons -/
def Snd (Z : Ctx) (L : Hp) (W : WX) (k : Kd α β) (t : L2.St → Hp → (β → Hp → Prop) → Prop) (f : G → Out α) : Prop :=
  ∀ B F fp g σ H Q, Rel Z L B F fp g σ H → Sat Z L W k B F σ (f g) Q → t σ H Q
theorem Rel.sLH (R : Rel Z L B F fp g σ H) : Sub L H := R.sL.trans R.sB
theorem Rel.own (R : Rel Z L B F fp g σ H) : ∀ i, ∀ p ∈ fp i, ∃ o, H p = some o := fun i p hp => by
  by_cases hi : i < g.length
  · rcases R.sl i g[i] (by simp [hi]) with ⟨_, e⟩ | ⟨v, _, ho⟩
    · rw [e] at hp; simp at hp
    · exact ho.has p hp
  · rw [R.out i (by omega)] at hp; simp at hp
theorem fz_base (sB : Sub B H) (h : Sub H H') : Sub (fz B H fq) H → True := fun _ => trivial

theorem Rel.guard {fq : List Addr} (R : Rel Z L B F fp g σ H) (ap : Apart B F fp fq) : Rel Z L (fz B H fq) F fp g σ H where
  ls := R.ls
  sl := R.sl
  out := R.out
  sF := R.sF
  sB := fz_le R.sB
  sL := R.sL.trans (fz_sub R.sB)
  nd := R.nd
  ds := R.ds
  dj := fun i p hp => ⟨(R.dj i p hp).1, by
    rw [fz_out (fun h => ap.no p h i hp)]
    exact (R.dj i p hp).2⟩
theorem Rel.weak (R : Rel Z L B' F fp g σ H) (s : Sub B B') (sL : Sub L B) : Rel Z L B F fp g σ H where
  ls := R.ls
  sl := R.sl
  out := R.out
  sF := R.sF
  sB := s.trans R.sB
  sL := sL
  nd := R.nd
  ds := R.ds
  dj := fun i p hp => ⟨(R.dj i p hp).1, s.none (R.dj i p hp).2⟩
/-- the waiting ones behind an evaluation over the larger base -/
theorem Apart.after {fq : List Addr} {vs : List V} {ts : List T} (ap : Apart B F fp fq) (ho : OwnAll Z L F H vs ts fq) (R' : Rel Z L (fz B H fq) F' fp' g' σ H') (le : Le (fz B H fq) F F') :
    Apart B F' fp' fq ∧ OwnAll Z L F' H' vs ts fq ∧ ∀ p ∈ fq, fz B H fq p ≠ none := by
  have hb : ∀ p ∈ fq, fz B H fq p ≠ none := fun p hp => by
    obtain ⟨o, h⟩ := ho.has p hp
    rw [fz_mem hp h]; simp
  refine ⟨⟨ap.nd, fun p hp => ⟨?_, (ap.dj p hp).2⟩, fun p hp i hi => hb p hp (R'.dj i p hi).2⟩, ho.frame le.sub (.refl L) (fun q hq => ?_), hb⟩
  · cases e : F' p with
    | none => rfl
    | some o =>
      rcases le.new p (by rw [e]; simp) with h | h
      · exact absurd (ap.dj p hp).1 h
      · exact absurd h (hb p hp)
  · obtain ⟨o, h⟩ := ho.has q hq
    rw [h]
    exact R'.sB q o (fz_mem hq h)
theorem Own.pathKeep (sL : Sub L H) (sL' : Sub L H') : ∀ (q : List Nat) {v0 v : V} {t u : T} {fq : List Addr}, Own Z L F H v0 t fq → t.look q = some u → PathV H v0 q v → (∀ p ∈ fq, H' p = H p) → PathV H' v0 q v
  | [], _, _, _, _, _, _, _, pv, _ => by cases pv; exact .nil
  | k :: q, v0, v, t, u, fq, h, e, pv, hk => by
    cases pv with
    | @cons p o vs _ _ w _ hp hkk hw pv =>
    have go : ∀ {ts : List T} {vs' : List V} {fk : List Addr}, t.kids = some ts → OwnAll Z L F H vs' ts fk → kidsV o = some vs' → (∀ x ∈ fk, H' x = H x) → PathV H' w q v := by
      intro ts vs' fk ek ha ekv hs
      rw [hkk] at ekv
      simp only [Option.some.injEq] at ekv
      subst ekv
      have e2 : (match ts[k]? with | some u => u.look q | none => none) = some u := by
        unfold T.look at e; rw [ek] at e; exact e
      cases etk : ts[k]? with
      | none => rw [etk] at e2; simp at e2
      | some tk =>
        rw [etk] at e2
        obtain ⟨v', f1, h1, h2, h3⟩ := ha.get etk
        rw [hw] at h1
        simp only [Option.some.injEq] at h1
        subst h1
        exact Own.pathKeep sL sL' q h2 e2 pv fun x hx => hs x (h3 x hx)
    cases h with
    | d h => simp [T.look, T.kids] at e
    | lst h a =>
      have := hp.symm.trans h; cases this
      exact .cons ((hk _ (by simp)).trans hp) hkk hw (go rfl a rfl fun x hx => hk x (by simp [hx]))
    | lstb h a =>
      have := hp.symm.trans (sL _ _ h); cases this
      exact .cons (sL' _ _ h) hkk hw (go rfl a rfl fun x hx => by simp at hx)
    | tup h a =>
      have := hp.symm.trans h; cases this
      exact .cons ((hk _ (by simp)).trans hp) hkk hw (go rfl a rfl fun x hx => hk x (by simp [hx]))
    | tupb h a =>
      have := hp.symm.trans (sL _ _ h); cases this
      exact .cons (sL' _ _ h) hkk hw (go rfl a rfl fun x hx => by simp at hx)
    | dk h l a =>
      have := hp.symm.trans h; cases this
      exact .cons ((hk _ (by simp)).trans hp) hkk hw (go rfl a (by simp only [kidsV]; rw [List.map_snd_zip (by omega)]) fun x hx => hk x (by simp [hx]))
    | dkb h l a =>
      have := hp.symm.trans (sL _ _ h); cases this
      exact .cons (sL' _ _ h) hkk hw (go rfl a (by simp only [kidsV]; rw [List.map_snd_zip (by omega)]) fun x hx => by simp at hx)
    | obj h l a =>
      have := hp.symm.trans h; cases this
      exact .cons ((hk _ (by simp)).trans hp) hkk hw (go rfl a (by simp only [kidsV]; rw [List.map_snd_zip (by omega)]) fun x hx => hk x (by simp [hx]))
    | objb h l a =>
      have := hp.symm.trans (sL _ _ h); cases this
      exact .cons (sL' _ _ h) hkk hw (go rfl a (by simp only [kidsV]; rw [List.map_snd_zip (by omega)]) fun x hx => by simp at hx)
    | scr h => simp [T.look, T.kids] at e
    | xo _ _ _ => simp [T.look, T.kids] at e
    | un => simp [T.look, T.kids] at e

/-- slot i is put aside -/
theorem Rel.off (R : Rel Z L B F fp g σ H) (i : Nat) : Rel Z L (fz B H (fp i)) F (upf fp i []) (g.set i .un) σ H where
  ls := by simpa using R.ls
  sl := fun j t e => by
    by_cases h : j = i
    · subst h
      left
      rw [List.getElem?_set_self'] at e
      cases hg : g[j]? with
      | none => rw [hg] at e; simp at e
      | some u => rw [hg] at e; simp at e; exact ⟨e.symm, upf_same⟩
    · rw [List.getElem?_set_ne (Ne.symm h)] at e
      rw [upf_ne h]
      exact R.sl j t e
  out := fun j hj => by
    by_cases h : j = i
    · subst h; exact upf_same
    · rw [upf_ne h]; exact R.out j (by simpa using hj)
  sF := R.sF
  sB := fz_le R.sB
  sL := R.sL.trans (fz_sub R.sB)
  nd := fun j => by
    by_cases h : j = i
    · subst h; rw [upf_same]; exact .nil
    · rw [upf_ne h]; exact R.nd j
  ds := fun j k hjk p hp => by
    by_cases h : j = i
    · subst h; rw [upf_same] at hp; simp at hp
    · rw [upf_ne h] at hp
      by_cases h' : k = i
      · subst h'; rw [upf_same]; simp
      · rw [upf_ne h']; exact R.ds j k hjk p hp
  dj := fun j p hp => by
    by_cases h : j = i
    · subst h; rw [upf_same] at hp; simp at hp
    · rw [upf_ne h] at hp
      refine ⟨(R.dj j p hp).1, ?_⟩
      rw [fz_out (R.ds j i h p hp)]
      exact (R.dj j p hp).2
/-- and comes back -/
theorem Rel.on {i : Nat} {t : T} (R : Rel Z L B F fp g σ H) (e : g[i]? = some t) (R' : Rel Z L (fz B H (fp i)) F' fp' g' σ H') (le : Le (fz B H (fp i)) F F') :
    Rel Z L B F' (upf fp' i (fp i)) (g'.set i t) σ H' ∧ ∀ p ∈ fp i, H' p = H p := by
  have hb : ∀ p ∈ fp i, ∃ o, H p = some o ∧ fz B H (fp i) p = some o := fun p hp => by
    obtain ⟨o, h⟩ := R.own i p hp
    exact ⟨o, h, fz_mem hp h⟩
  have hk : ∀ p ∈ fp i, H' p = H p := fun p hp => by
    obtain ⟨o, h, h'⟩ := hb p hp
    rw [h]; exact R'.sB p o h'
  have nf : ∀ p ∈ fp i, ∀ j, p ∉ fp' j := fun p hp j hj => by
    obtain ⟨o, _, h'⟩ := hb p hp
    rw [(R'.dj j p hj).2] at h'; cases h'
  refine ⟨⟨by simpa using R'.ls, fun j u eu => ?_, fun j hj => ?_, R'.sF, (fz_sub R.sB).trans R'.sB, R.sL, fun j => ?_, fun j k hjk p hp => ?_, fun j p hp => ?_⟩, hk⟩
  · by_cases h : j = i
    · subst h
      rw [upf_same]
      have eu' : u = t := by
        rw [List.getElem?_set_self'] at eu
        cases hg : g'[j]? with
        | none => rw [hg] at eu; simp at eu
        | some w => rw [hg] at eu; simp at eu; exact eu.symm
      subst eu'
      rcases R.sl j u e with h | ⟨v, h1, h2⟩
      · exact .inl h
      · exact .inr ⟨v, h1, h2.frame le.sub (.refl L) hk⟩
    · rw [List.getElem?_set_ne (Ne.symm h)] at eu
      rw [upf_ne h]
      exact R'.sl j u eu
  · by_cases h : j = i
    · subst h
      rw [upf_same]
      exact R.out j (by rw [← R.ls, R'.ls]; simpa using hj)
    · rw [upf_ne h]; exact R'.out j (by simpa using hj)
  · by_cases h : j = i
    · subst h; rw [upf_same]; exact R.nd j
    · rw [upf_ne h]; exact R'.nd j
  · by_cases h : j = i
    · subst h
      rw [upf_same] at hp
      rw [upf_ne (Ne.symm hjk)]
      exact nf p hp k
    · rw [upf_ne h] at hp
      by_cases h' : k = i
      · subst h'; rw [upf_same]
        exact fun hh => nf p hh j hp
      · rw [upf_ne h']; exact R'.ds j k hjk p hp
  · by_cases h : j = i
    · subst h
      rw [upf_same] at hp
      refine ⟨?_, (R.dj j p hp).2⟩
      cases ef : F' p with
      | none => rfl
      | some o =>
        rcases le.new p (by rw [ef]; simp) with h | h
        · exact absurd (R.dj j p hp).1 h
        · obtain ⟨o', _, h'⟩ := hb p hp
          rw [h] at h'; cases h'
    · rw [upf_ne h] at hp
      exact ⟨(R'.dj j p hp).1, (fz_sub R.sB).none (R'.dj j p hp).2⟩

theorem Apart.weak {B' : Hp} {fq : List Addr} (s : Sub B B') (ap : Apart B' F fp fq) : Apart B F fp fq := ⟨ap.nd, fun p hp => ⟨(ap.dj p hp).1, s.none (ap.dj p hp).2⟩, ap.no⟩
theorem Apart.join {fq f2 : List Addr} (a : Apart B F fp fq) (b : Apart B' F fp' f2) (sB : Sub B B') (h1 : ∀ p ∈ fq, B' p ≠ none) (h2 : ∀ p ∈ f2, ∀ i, p ∉ fp i) : Apart B F fp (fq ++ f2) := by
  refine ⟨List.nodup_append.mpr ⟨a.nd, b.nd, fun x hx y hy e => ?_⟩, fun p hp => ?_, fun p hp => ?_⟩
  · subst e
    exact h1 x hx (b.dj x hy).2
  · rcases List.mem_append.mp hp with hp | hp
    · exact a.dj p hp
    · exact ⟨(b.dj p hp).1, sB.none (b.dj p hp).2⟩
  · rcases List.mem_append.mp hp with hp | hp
    · exact a.no p hp
    · exact h2 p hp
theorem Pls.root {H' : Hp} {v : V} {r : R} (h : Pls σ H [v] [r]) (hr : rootR r = true) : Pls σ H' [v] [r] := by
  cases h with
  | t h => cases h; exact .t .nil
  | m e h => cases h; exact .m e .nil
  | @p _ v0 _ i q _ e pv h =>
    cases h
    cases q with
    | nil => cases pv; exact .p e .nil .nil
    | cons k q => simp [rootR] at hr
/-- a part is evaluated; r (perhaps put aside) and the waiting trees stay -/
theorem Snd.keep {k : Kd α β} {t : L2.St → Hp → (β → Hp → Prop) → Prop} {f : G → Out α} (h : Snd Z L W k t f) (R : Rel Z L B F fp g σ H) {v : V} {r : Wh.R} (pl : Pls σ H [v] [r]) {vs : List V} {ts : List T} {fq : List Addr}
    (ho : OwnAll Z L F H vs ts fq) (ap : Apart B F fp fq) {Q : β → Hp → Prop}
    (hs : match under r g f with
      | .ok a g' => ∀ b F' fp' H', Le B F F' → Rel Z L B F' fp' g' σ H' → k.pr b a → Pls σ H' (k.rv b) (k.rr a) → Pls σ H' [v] [r] → (∃ f2, OwnAll Z L F' H' (vs ++ exV (k.rv b) (k.rr a)) (ts ++ exT (k.rr a)) (fq ++ f2) ∧ Apart B F' fp' (fq ++ f2)) → Q b H'
      | .ex x g' => ∀ d F' fp' H', Le B F F' → Rel Z L B F' fp' g' σ H' → XIs Z F' H' d x → W (.ref (Z.ca x.c)) (some d) σ H'
      | .bad => False) : t σ H Q := by
  have R1 := R.guard ap
  have s1 : Sub B (fz B H fq) := fz_sub R.sB
  by_cases hr : rootR r = true
  · have eu : under r g f = f g := by
      unfold under
      cases r with
      | t _ => rfl
      | m _ => rfl
      | p i q =>
        cases q with
        | nil => rfl
        | cons k q => simp [rootR] at hr
    rw [eu] at hs
    refine h _ _ _ _ _ _ _ R1 ?_
    unfold Sat
    cases ef : f g with
    | bad => rw [ef] at hs; exact hs
    | ex x g' =>
      rw [ef] at hs
      exact fun d F' fp' H' le R' xi => hs d F' fp' H' (le.weak s1) (R'.weak s1 R.sL) xi
    | ok a g' =>
      rw [ef] at hs
      intro b F' fp' H' le R' pr ⟨pls, f2, ho2, ap2⟩
      obtain ⟨ap', ho', hb⟩ := ap.after ho R' le
      exact hs b F' fp' H' (le.weak s1) (R'.weak s1 R.sL) pr pls (pl.root hr) ⟨f2, ho'.append ho2, ap'.join ap2 s1 hb ap2.no⟩
  · cases r with
    | t _ => exact absurd rfl hr
    | m _ => exact absurd rfl hr
    | p i q =>
      cases q with
      | nil => exact absurd rfl hr
      | cons k0 q =>
        have eu : under (.p i (k0 :: q)) g f = match Wh.R.tree g (.p i (k0 :: q)) with
          | some _ => aside i g f
          | none => .bad := rfl
        rw [eu] at hs
        cases et : Wh.R.tree g (.p i (k0 :: q)) with
        | none => rw [et] at hs; exact hs.elim
        | some u =>
          rw [et] at hs
          simp only at hs
          unfold aside at hs
          cases eg : g[i]? with
          | none => rw [eg] at hs; exact hs.elim
          | some t0 =>
            rw [eg] at hs
            simp only at hs
            have el : t0.look (k0 :: q) = some u := by
              have et2 : (match g[i]? with | some u => u.look (k0 :: q) | none => none) = some u := et
              rw [eg] at et2
              exact et2
            have R2 := R1.off i
            have s2 : Sub (fz B H fq) (fz (fz B H fq) H (fp i)) := fz_sub R1.sB
            cases pl with
            | @p _ v0 _ _ _ _ e pv h0 =>
            cases h0
            have hplc : ∀ {H' : Hp}, Sub L H' → (∀ p ∈ fp i, H' p = H p) → Pls σ H' [v] [.p i (k0 :: q)] := fun {H'} sL' hk => by
              rcases R.sl i t0 eg with ⟨eun, _⟩ | ⟨w, ew, how⟩
              · subst eun; simp [T.look, T.kids] at el
              · rw [e] at ew
                simp only [Option.some.injEq] at ew
                subst ew
                exact .p e (how.pathKeep R.sLH sL' _ el pv hk) .nil
            refine h _ _ _ _ _ _ _ R2 ?_
            unfold Sat
            cases ef : f (g.set i .un) with
            | bad => rw [ef] at hs; exact hs
            | ex x g' =>
              rw [ef] at hs
              intro d F' fp' H' le R' xi
              obtain ⟨R3, hk⟩ := R1.on eg R' le
              exact hs d F' _ H' ((le.weak s2).weak s1) (R3.weak s1 R.sL) xi
            | ok a g' =>
              rw [ef] at hs
              intro b F' fp' H' le R' pr ⟨pls, f2, ho2, ap2⟩
              obtain ⟨R3, hk⟩ := R1.on eg R' le
              obtain ⟨ap', ho', hb⟩ := ap.after ho R3 (le.weak s2)
              refine hs b F' _ H' ((le.weak s2).weak s1) (R3.weak s1 R.sL) pr pls (hplc R3.sLH hk) ⟨f2, ho'.append ho2, ap'.join (ap2.weak s2) s1 hb fun p hp j hj => ?_⟩
              by_cases hji : j = i
              · subst hji
                rw [upf_same] at hj
                obtain ⟨o, ho1⟩ := R.own j p hj
                have hB : fz (fz B H fq) H (fp j) p = none := (ap2.dj p hp).2
                rw [fz_mem hj ho1] at hB; cases hB
              · rw [upf_ne hji] at hj
                exact ap2.no p hp j hj
end
end Wh

/-! Wh, part 5: each operator does what is reckoned. -/
namespace Wh
open PySem L2
section
variable {Z : Ctx} {L B F H : Hp} {fp : Nat → List Addr} {g : G} {σ : L2.St} {W : WX}

/-- a value alone that owns nothing -/
theorem Cls.data {v : V} {x : D} (h : Is Z F v x) : Cls Z L B F fp σ H [v] [.t (.d x)] := ⟨.t .nil, [], .cons (fp := []) (fq := []) (.d h) .nil, .nil⟩
theorem sat_data {v : V} {x : D} {Q : V → Hp → Prop} (R : Rel Z L B F fp g σ H) (h : Is Z F v x) (s : Sat Z L W kR B F σ (.ok (.t (.d x)) g) Q) : Q v H :=
  s v F fp H (.refl B F) R trivial (.data h)
theorem Cls.one {v : V} {r : R} (c : Cls Z L B F fp σ H [v] [r]) : Pls σ H [v] [r] ∧ ∃ fq, OwnAll Z L F H (exV [v] [r]) (exT [r]) fq ∧ Apart B F fp fq := c
/-- the tree that a result stands for -/
theorem Pls.own {v : V} {r : R} {t : T} (R : Rel Z L B F fp g σ H) (pl : Pls σ H [v] [r]) {fq : List Addr} (ho : OwnAll Z L F H (exV [v] [r]) (exT [r]) fq) (e : r.tree g = some t) : ∃ fu, Own Z L F H v t fu := by
  cases pl with
  | t h =>
    cases h
    simp only [Wh.R.tree, Option.some.injEq] at e
    subst e
    cases ho with
    | cons a b => exact ⟨_, a⟩
  | m _ h => simp [Wh.R.tree] at e
  | @p _ v0 _ i q _ e0 pv h =>
    cases h
    simp only [Wh.R.tree] at e
    cases eg : g[i]? with
    | none => rw [eg] at e; simp at e
    | some t0 =>
      rw [eg] at e
      rcases R.sl i t0 eg with ⟨eun, _⟩ | ⟨w, ew, how⟩
      · subst eun
        cases q with
        | nil =>
          simp only [T.look, Option.some.injEq] at e
          subst e; exact ⟨[], .un⟩
        | cons k q => simp [T.look, T.kids] at e
      · rw [e0] at ew
        simp only [Option.some.injEq] at ew
        subst ew
        obtain ⟨fu, rest, _, h1, _⟩ := how.place R.sLH q e pv
        exact ⟨fu, h1⟩
theorem Cl.own {v : V} {r : R} {t : T} (R : Rel Z L B F fp g σ H) (c : Cls Z L B F fp σ H [v] [r]) (e : r.tree g = some t) : ∃ fu, Own Z L F H v t fu := by
  obtain ⟨pl, fq, ho, _⟩ := c
  exact pl.own R ho e
/-- two waiting results, split -/
theorem two {va vb : V} {ra rb : R} {fq f2 : List Addr} (pa : Pls σ H [va] [ra]) (pb : Pls σ H [vb] [rb]) (ho : OwnAll Z L F H (exV [va] [ra] ++ exV [vb] [rb]) (exT [ra] ++ exT [rb]) fq) :
    ∃ f1 f2, fq = f1 ++ f2 ∧ OwnAll Z L F H (exV [va] [ra]) (exT [ra]) f1 ∧ OwnAll Z L F H (exV [vb] [rb]) (exT [rb]) f2 := by
  cases pa with
  | t h =>
    cases h
    cases ho with
    | @cons _ _ _ _ f1 f2 a b => exact ⟨f1, f2, rfl, by have := OwnAll.cons a .nil; simpa [exV, exT] using this, by simpa [exV, exT] using b⟩
  | m _ h => cases h; exact ⟨[], fq, rfl, .nil, ho⟩
  | p _ _ h => cases h; exact ⟨[], fq, rfl, .nil, ho⟩
theorem Apart.left {f1 f2 : List Addr} (a : Apart B F fp (f1 ++ f2)) : Apart B F fp f1 := ⟨(List.nodup_append.mp a.nd).1, fun p hp => a.dj p (by simp [hp]), fun p hp => a.no p (by simp [hp])⟩
theorem Apart.right {f1 f2 : List Addr} (a : Apart B F fp (f1 ++ f2)) : Apart B F fp f2 := ⟨(List.nodup_append.mp a.nd).2.1, fun p hp => a.dj p (by simp [hp]), fun p hp => a.no p (by simp [hp])⟩

/-! ### operators by values -/
/-- a two-place reading meets what f reckons of two results -/
def Two (Z : Ctx) (L : Hp) (W : WX) (r : R2) (f : R → R → G → Out R) : Prop :=
  ∀ {B F : Hp} {fp : Nat → List Addr} {g : G} {σ : L2.St} {H : Hp} {va vb : V} {ra rb : R} {f1 f2 : List Addr} {Q : V → Hp → Prop}, Rel Z L B F fp g σ H → Pls σ H [va] [ra] → Pls σ H [vb] [rb] →
    OwnAll Z L F H (exV [va] [ra]) (exT [ra]) f1 → OwnAll Z L F H (exV [vb] [rb]) (exT [rb]) f2 → Apart B F fp (f1 ++ f2) → Sat Z L W kR B F σ (f ra rb g) Q → r va vb H Q
theorem Sat.imp {α β : Type} {k : Kd α β} {F1 : Hp} {o : Out α} {Q Q' : β → Hp → Prop} (le : Le B F F1) (s : Sat Z L W k B F σ o Q) (h : ∀ b H, Q b H → Q' b H) : Sat Z L W k B F1 σ o Q' := by
  unfold Sat at *
  cases o with
  | ok a g => exact fun b F' fp' H' l R p c => h _ _ (s b F' fp' H' (le.trans l) R p c)
  | ex x g => exact fun d F' fp' H' l R xi => s d F' fp' H' (le.trans l) R xi
  | bad => exact s
theorem Sat.step {α β : Type} {k : Kd α β} {F1 : Hp} {o : Out α} {Q : β → Hp → Prop} (le : Le B F F1) (s : Sat Z L W k B F σ o Q) : Sat Z L W k B F1 σ o Q := s.imp le fun _ _ h => h
theorem Out.bind_ok {α β : Type} {a : α} {g : G} {f : α → G → Out β} : (Out.ok a g).bind f = f a g := rfl
theorem Out.bind_ex {α β : Type} {x : Exc} {g : G} {f : α → G → Out β} : (Out.ex x g).bind f = .ex x g := rfl
theorem Out.bind_bad {α β : Type} {f : α → G → Out β} : (Out.bad : Out α).bind f = .bad := rfl
/-- one part, then what follows -/
theorem Snd.bind {α β γ δ : Type} {k : Kd α β} {k2 : Kd γ δ} {t : L2.St → Hp → (β → Hp → Prop) → Prop} {f : G → Out α} (h : Snd Z L W k t f) {f2 : α → G → Out γ} {t2 : β → L2.St → Hp → (δ → Hp → Prop) → Prop}
    (h2 : ∀ {B F : Hp} {fp : Nat → List Addr} {g : G} {σ : L2.St} {H : Hp} {b : β} {a : α} {Q : δ → Hp → Prop}, Rel Z L B F fp g σ H → k.pr b a → Cls Z L B F fp σ H (k.rv b) (k.rr a) → Sat Z L W k2 B F σ (f2 a g) Q → t2 b σ H Q) :
    Snd Z L W k2 (fun σ H Q => t σ H fun b H1 => t2 b σ H1 Q) (fun g => (f g).bind f2) := by
  intro B F fp g σ H Q R s
  replace s : Sat Z L W k2 B F σ ((f g).bind f2) Q := s
  refine h _ _ _ _ _ _ _ R ?_
  unfold Sat
  cases e : f g with
  | bad => rw [e] at s; exact s
  | ex x g' => rw [e] at s; exact s
  | ok a g' =>
    rw [e] at s
    exact fun b F' fp' H' le R' pr cl => h2 R' pr cl (Sat.step le s)
theorem Snd.two {ta tb : TE} {fa fb : G → Out R} {r : R2} {f : R → R → G → Out R} (ha : Snd Z L W kR ta fa) (hb : Snd Z L W kR tb fb) (hr : Two Z L W r f) : Snd Z L W kR (tOp r ta tb) (bin2 fa fb f) := by
  intro B F fp g σ H Q R s
  refine Snd.bind (k2 := kR) (t2 := fun x σ H1 Q => tb σ H1 fun y H2 => r x y H2 Q) ha (fun {B F fp g σ H b a Q} R _ cl s => ?_) B F fp g σ H Q R s
  obtain ⟨pl, fq, ho, ap⟩ := cl
  refine hb.keep R pl ho ap ?_
  cases e : under a g fb with
  | bad => rw [e] at s; exact s
  | ex x g' => rw [e] at s; exact s
  | ok rb g' =>
    rw [e] at s
    intro vb F' fp' H' le R' _ pb pa ⟨f2, ho2, ap2⟩
    obtain ⟨x1, x2, ex, hx1, hx2⟩ := Wh.two (f2 := f2) pa pb ho2
    rw [ex] at ap2
    exact hr R' pa pb hx1 hx2 ap2 (Sat.step le s)

/-! ### a new object -/
theorem upd_sub {p : Addr} {o : HO} (h : H p = none) : Sub H (upd H p o) := fun a u e => by
  rw [upd_ne (ne_of_none e h)]; exact e
theorem Rel.alloc (R : Rel Z L B F fp g σ H) {p : Addr} {o : HO} (h : H p = none) : Rel Z L B F fp g σ (upd H p o) where
  ls := R.ls
  sl := fun i t e => by
    rcases R.sl i t e with h1 | ⟨v, h1, h2⟩
    · exact .inl h1
    · exact .inr ⟨v, h1, h2.frame (.refl F) (.refl L) fun q hq => by
        obtain ⟨u, hu⟩ := h2.has q hq
        exact upd_ne (ne_of_none hu h)⟩
  out := R.out
  sF := R.sF.trans (upd_sub h)
  sB := R.sB.trans (upd_sub h)
  sL := R.sL
  nd := R.nd
  ds := R.ds
  dj := R.dj
/-- what is new becomes data for good -/
theorem Rel.grow (R : Rel Z L B F fp g σ H) {F' : Hp} (s : Sub F F') (s2 : Sub F' H) (n : ∀ p, F' p ≠ none → F p ≠ none ∨ (∀ i, p ∉ fp i)) : Rel Z L B F' fp g σ H where
  ls := R.ls
  sl := fun i t e => by
    rcases R.sl i t e with h1 | ⟨v, h1, h2⟩
    · exact .inl h1
    · exact .inr ⟨v, h1, h2.frame s (.refl L) fun q hq => rfl⟩
  out := R.out
  sF := s2
  sB := R.sB
  sL := R.sL
  nd := R.nd
  ds := R.ds
  dj := fun i p hp => ⟨by
    cases e : F' p with
    | none => rfl
    | some o =>
      rcases n p (by rw [e]; simp) with h | h
      · exact absurd (R.dj i p hp).1 h
      · exact absurd hp (h i), (R.dj i p hp).2⟩
theorem Rel.fresh (R : Rel Z L B F fp g σ H) {p : Addr} (h : H p = none) : ∀ i, p ∉ fp i := fun i hi => by
  obtain ⟨o, e⟩ := R.own i p hi
  rw [h] at e; cases e
theorem OwnAll.one {v : V} {t : T} {fq : List Addr} (h : Own Z L F H v t fq) : OwnAll Z L F H [v] [t] fq := by
  have := OwnAll.cons h .nil
  simpa using this
theorem Cls.tree {v : V} {t : T} {fq : List Addr} (h : Own Z L F H v t fq) (ap : Apart B F fp fq) : Cls Z L B F fp σ H [v] [.t t] := ⟨.t .nil, fq, OwnAll.one h, ap⟩
/-- a new object that is data for good -/
theorem sat_new {p : Addr} {o : HO} {x : D} {Q : V → Hp → Prop} (R : Rel Z L B F fp g σ H) (h : H p = none) (hx : Is Z (upd F p o) (.ref p) x) (s : Sat Z L W kR B F σ (.ok (.t (.d x)) g) Q) : Q (.ref p) (upd H p o) := by
  have fn : F p = none := R.sF.none h
  have R1 := R.alloc (o := o) h
  have sF : Sub F (upd F p o) := upd_sub fn
  have sH : Sub (upd F p o) (upd H p o) := fun a u e => by
    by_cases ha : a = p
    · subst ha; rw [upd_same] at e; rw [upd_same]; exact e
    · rw [upd_ne ha] at e; rw [upd_ne ha]; exact R.sF a u e
  have nw : ∀ a, upd F p o a ≠ none → F a ≠ none ∨ a = p := fun a ha => by
    by_cases e : a = p
    · exact .inr e
    · rw [upd_ne e] at ha; exact .inl ha
  have R2 := R1.grow sF sH fun a ha => (nw a ha).imp id fun e => by subst e; exact R.fresh h
  refine s (.ref p) (upd F p o) fp (upd H p o) ⟨sF, fun a ha => (nw a ha).imp id fun e => ?_⟩ R2 trivial (.data hx)
  subst e; exact R.sB.none h
/-- .. that is owned -/
theorem sat_own {p : Addr} {o : HO} {t : T} {fq : List Addr} {Q : V → Hp → Prop} (R : Rel Z L B F fp g σ H) (h : H p = none) (ap : Apart B F fp fq) (hq : p ∉ fq) (hx : Own Z L F (upd H p o) (.ref p) t (p :: fq)) (s : Sat Z L W kR B F σ (.ok (.t t) g) Q) : Q (.ref p) (upd H p o) := by
  refine s (.ref p) F fp (upd H p o) (.refl B F) (R.alloc h) trivial (.tree hx ⟨List.nodup_cons.mpr ⟨hq, ap.nd⟩, fun a ha => ?_, fun a ha => ?_⟩)
  · rcases List.mem_cons.mp ha with e | ha
    · subst e; exact ⟨R.sF.none h, R.sB.none h⟩
    · exact ap.dj a ha
  · rcases List.mem_cons.mp ha with e | ha
    · subst e; exact R.fresh h
    · exact ap.no a ha
theorem sat_list {p : Addr} {vs : List V} {zs : List D} {o : Bool} {Q : V → Hp → Prop} (R : Rel Z L B F fp g σ H) (h : H p = none) (hz : IsAll Z F vs zs) (s : Sat Z L W kR B F σ (.ok (.t (mkl o zs)) g) Q) : Q (.ref p) (upd H p (.lst vs)) := by
  cases o with
  | false => exact sat_new R h (.lst upd_same (hz.mono (upd_sub (R.sF.none h)))) s
  | true => exact sat_own (fq := []) R h .nil (by simp) (.lst upd_same (.data hz)) s
theorem sat_tup {p : Addr} {vs : List V} {zs : List D} {Q : V → Hp → Prop} (R : Rel Z L B F fp g σ H) (h : H p = none) (hz : IsAll Z F vs zs) (s : Sat Z L W kR B F σ (.ok (.t (.d (.tup zs))) g) Q) : Q (.ref p) (upd H p (.tup vs)) :=
  sat_new R h (.tup (.of upd_same) (hz.mono (upd_sub (R.sF.none h)))) s

/-! ### operands -/
/-- an operand whose items are data for good -/
def ShV (Z : Ctx) (F H : Hp) (v : V) : D → Prop
  | .lst xs => ∃ p vs, v = .ref p ∧ H p = some (.lst vs) ∧ IsAll Z F vs xs
  | .tup xs => ∃ p vs, v = .ref p ∧ SqT Z.K H p vs ∧ IsAll Z F vs xs
  | x => Is Z F v x
theorem allD_map {ts : List T} {xs : List D} (h : allD ts = some xs) : ts = xs.map T.d := by
  induction ts generalizing xs with
  | nil => simp [allD] at h; subst h; rfl
  | cons t ts ih =>
    cases t with
    | d x =>
      simp only [allD] at h
      obtain ⟨ys, h1, h2⟩ := map_some h
      subst h2
      rw [ih h1]; rfl
    | _ => simp [allD] at h
theorem Own.sh (sF : Sub F H) (sL : Sub L H) {v : V} {t : T} {fq : List Addr} {x : D} (h : Own Z L F H v t fq) (e : t.sh = some x) : ShV Z F H v x := by
  cases h with
  | d h =>
    simp only [T.sh, Option.some.injEq] at e
    subst e
    cases h with
    | lst h a => exact ⟨_, _, rfl, sF _ _ h, a⟩
    | tup h a => exact ⟨_, _, rfl, sF.sqt h, a⟩
    | non => exact .non
    | bl b => exact .bl b
    | int i => exact .int i
    | str z => exact .str z
    | dk h l a => exact .dk h l a
    | obj h l a => exact .obj h l a
  | lst h a =>
    obtain ⟨xs, h1, h2⟩ := map_some (show (allD _).map D.lst = some x from e)
    subst h2
    rw [allD_map h1] at a
    exact ⟨_, _, rfl, h, a.dataFp.1⟩
  | lstb h a =>
    obtain ⟨xs, h1, h2⟩ := map_some (show (allD _).map D.lst = some x from e)
    subst h2
    rw [allD_map h1] at a
    exact ⟨_, _, rfl, sL _ _ h, a.dataFp.1⟩
  | tup h a =>
    obtain ⟨xs, h1, h2⟩ := map_some (show (allD _).map D.tup = some x from e)
    subst h2
    rw [allD_map h1] at a
    exact ⟨_, _, rfl, .of h, a.dataFp.1⟩
  | tupb h a =>
    obtain ⟨xs, h1, h2⟩ := map_some (show (allD _).map D.tup = some x from e)
    subst h2
    rw [allD_map h1] at a
    exact ⟨_, _, rfl, .of (sL _ _ h), a.dataFp.1⟩
  | dk h l a => simp [T.sh] at e
  | dkb h l a => simp [T.sh] at e
  | obj h l a => simp [T.sh] at e
  | objb h l a => simp [T.sh] at e
  | scr h => simp [T.sh] at e
  | xo _ _ _ => simp [T.sh] at e
  | un => simp [T.sh] at e
theorem Pls.sh {v : V} {r : R} {x : D} (R : Rel Z L B F fp g σ H) (pl : Pls σ H [v] [r]) {fq : List Addr} (ho : OwnAll Z L F H (exV [v] [r]) (exT [r]) fq) (e : r.sh g = some x) : ShV Z F H v x := by
  unfold Wh.R.sh at e
  cases et : r.tree g with
  | none => rw [et] at e; simp at e
  | some t =>
    rw [et] at e
    obtain ⟨fu, h⟩ := pl.own R ho et
    exact h.sh R.sF R.sLH e
theorem Pls.vw {v : V} {r : R} {x : D} (R : Rel Z L B F fp g σ H) (pl : Pls σ H [v] [r]) {fq : List Addr} (ho : OwnAll Z L F H (exV [v] [r]) (exT [r]) fq) (e : r.vw g = some x) : Is Z H v x := by
  unfold Wh.R.vw at e
  cases et : r.tree g with
  | none => rw [et] at e; simp at e
  | some t =>
    rw [et] at e
    obtain ⟨fu, h⟩ := pl.own R ho et
    exact h.view R.sF R.sLH e
theorem lift_ok {α : Type} {o : Option α} {a : α} {g : G} (h : o = some a) : lift o g = .ok a g := by rw [h]; rfl

/-! ### + - * // % ** -/
def rAdd4 (K : PySem.W.Frag) : R2 := fun x y H Q => rI0 (fun i j => .int (i + j)) x y H Q ∨ ((∃ i j, x = .str i ∧ y = .str j ∧ i.length + j.length ≤ sizeLine ∧ Q (.str (i ++ j)) H) ∨ (rCat x y H Q ∨ rCatT K x y H Q))
theorem op_add4 {X : Cx} : OpR X (binaryOp .Add) (rAdd4 X.K) := op_add.or (op_add_str.or (op_cat.or op_catT))
theorem bin_inv {op : BOp} {o : Bool} {ra rb : R} {Q : V → Hp → Prop} (s : Sat Z L W kR B F σ (binR op o ra rb g) Q) :
    ∃ x y z t, ra.sh g = some x ∧ rb.sh g = some y ∧ binop op x y = some z ∧ fresh o z = some t ∧ Sat Z L W kR B F σ (.ok (.t t) g) Q := by
  unfold binR at s
  cases e1 : ra.sh g with
  | none => rw [e1] at s; exact s.elim
  | some x =>
    cases e2 : rb.sh g with
    | none => rw [e1, e2] at s; exact s.elim
    | some y =>
      rw [e1, e2] at s
      cases e3 : binop op x y with
      | none => simp only [e3] at s; exact s.elim
      | some z =>
        simp only [e3] at s
        cases e4 : fresh o z with
        | none => simp only [e4] at s; exact s.elim
        | some t => simp only [e4] at s; exact ⟨x, y, z, t, rfl, rfl, e3, e4, s⟩
theorem fresh_sc {o : Bool} {z : D} {t : T} (h : fresh o z = some t) (n : ∀ xs, z ≠ .lst xs) : t = .d z := by
  cases z with
  | lst xs => exact absurd rfl (n xs)
  | _ => cases o <;> simp [fresh] at h <;> exact h.symm
theorem two_add {K : PySem.W.Frag} (hK : K = Z.K) {o : Bool} : Two Z L W (rAdd4 K) (binR .add o) := by
  subst hK
  intro B F fp g σ H va vb ra rb f1 f2 Q R pa pb ha hb ap s
  obtain ⟨x, y, z, t, e1, e2, e3, e4, s⟩ := bin_inv s
  have hx := pa.sh R ha e1
  have hy := pb.sh R hb e2
  cases x with
  | int i =>
    cases y with
    | int j =>
      simp only [binop, Option.some.injEq] at e3
      subst e3
      obtain rfl := fresh_sc e4 (fun _ h => by cases h)
      cases hx; cases hy
      exact .inl ⟨i, j, rfl, rfl, sat_data R (.int _) s⟩
    | _ => simp [binop] at e3
  | str i =>
    cases y with
    | str j =>
      simp only [binop] at e3
      split at e3
      · rename_i hl
        simp only [Option.some.injEq] at e3
        subst e3
        obtain rfl := fresh_sc e4 (fun _ h => by cases h)
        cases hx; cases hy
        exact .inr (.inl ⟨i, j, rfl, rfl, hl, sat_data R (.str _) s⟩)
      · cases e3
    | _ => simp [binop] at e3
  | lst xs =>
    cases y with
    | lst ys =>
      simp only [binop] at e3
      split at e3
      · rename_i hl
        simp only [Option.some.injEq] at e3
        subst e3
        simp only [fresh, Option.some.injEq] at e4
        subst e4
        obtain ⟨p, vs, rfl, hp, hv⟩ := hx
        obtain ⟨q, ws, rfl, hq, hw⟩ := hy
        refine .inr (.inr (.inl ⟨p, q, vs, ws, rfl, rfl, hp, hq, by rw [hv.length, hw.length]; exact hl, fun a ha => sat_list R ha (hv.append hw) s⟩))
      · cases e3
    | _ => simp [binop] at e3
  | tup xs =>
    cases y with
    | tup ys =>
      simp only [binop] at e3
      split at e3
      · rename_i hl
        simp only [Option.some.injEq] at e3
        subst e3
        obtain rfl := fresh_sc e4 (fun _ h => by cases h)
        obtain ⟨p, vs, rfl, hp, hv⟩ := hx
        obtain ⟨q, ws, rfl, hq, hw⟩ := hy
        simp only [Bool.and_eq_true, decide_eq_true_eq, Bool.not_eq_true', List.isEmpty_eq_false_iff] at hl
        refine .inr (.inr (.inr ⟨p, q, vs, ws, rfl, rfl, hp, hq, fun h => hl.1.2 (by subst h; cases hv; rfl), by rw [hv.length, hw.length]; exact hl.1.1, fun h => absurd (by subst h; cases hw; rfl) hl.2, fun _ a ha => sat_tup R ha (hv.append hw) s⟩))
      · cases e3
    | _ => simp [binop] at e3
  | _ => cases y <;> simp [binop] at e3
end
end Wh

/-! Wh, part 6: more operators; comparisons; truth; items. -/
namespace Wh
open PySem L2
section
variable {Z : Ctx} {L B F H : Hp} {fp : Nat → List Addr} {g : G} {σ : L2.St} {W : WX}

/-- an operator on two ints -/
theorem two_int {op : BOp} {o : Bool} {C : Int → Int → Prop} {f : Int → Int → Int} (hop : ∀ x y z, binop op x y = some z → ∃ i j, x = .int i ∧ y = .int j ∧ z = .int (f i j) ∧ C i j) : Two Z L W (rI C fun i j => .int (f i j)) (binR op o) := by
  intro B F fp g σ H va vb ra rb f1 f2 Q R pa pb ha hb ap s
  obtain ⟨x, y, z, t, e1, e2, e3, e4, s⟩ := bin_inv s
  have hx := pa.sh R ha e1
  have hy := pb.sh R hb e2
  obtain ⟨i, j, rfl, rfl, rfl, hc⟩ := hop x y z e3
  obtain rfl := fresh_sc e4 (fun _ h => by cases h)
  cases hx; cases hy
  exact ⟨i, j, rfl, rfl, hc, sat_data R (.int _) s⟩
theorem binop_int {op : BOp} {x y z : D} (h : binop op x y = some z) (n : op ≠ .add) : ∃ i j, x = .int i ∧ y = .int j := by
  cases x <;> cases y <;> first | exact ⟨_, _, rfl, rfl⟩ | (cases op <;> simp_all [binop])
theorem two_sub {o : Bool} : Two Z L W (rI (fun _ _ => True) fun i j => .int (i - j)) (binR .sub o) := two_int (f := fun i j => i - j) fun x y z h => by
  obtain ⟨i, j, rfl, rfl⟩ := binop_int h (by intro h; cases h)
  simp only [binop, Option.some.injEq] at h
  exact ⟨i, j, rfl, rfl, h.symm, trivial⟩
theorem op_subC {X : Cx} : OpR X (binaryOp .Sub) (rI (fun _ _ => True) fun i j => .int (i - j)) := fun pins s σ H x y v u Q I rx ry h => by
  obtain ⟨i, j, e1, e2, _, q⟩ := h
  exact op_sub pins s σ H x y v u Q I rx ry ⟨i, j, e1, e2, q⟩
theorem two_mul {o : Bool} : Two Z L W (rI CMul fun i j => .int (i * j)) (binR .mul o) := two_int (f := fun i j => i * j) fun x y z h => by
  obtain ⟨i, j, rfl, rfl⟩ := binop_int h (by intro h; cases h)
  simp only [binop] at h
  split at h
  · rename_i hc
    simp only [Option.some.injEq] at h
    refine ⟨i, j, rfl, rfl, h.symm, ?_⟩
    simpa [smallI, CMul] using hc
  · cases h
theorem two_div {o : Bool} : Two Z L W (rI CDivW fun i j => .int (i / j)) (binR .div o) := two_int (f := fun i j => i / j) fun x y z h => by
  obtain ⟨i, j, rfl, rfl⟩ := binop_int h (by intro h; cases h)
  simp only [binop] at h
  split at h
  · rename_i hc
    simp only [Option.some.injEq] at h
    refine ⟨i, j, rfl, rfl, h.symm, ?_⟩
    simpa [CDivW] using hc
  · cases h
theorem two_mod {o : Bool} : Two Z L W (rI (fun _ j => 0 < j) fun i j => .int (i % j)) (binR .mod o) := two_int (f := fun i j => i % j) fun x y z h => by
  obtain ⟨i, j, rfl, rfl⟩ := binop_int h (by intro h; cases h)
  simp only [binop] at h
  split at h
  · rename_i hc
    simp only [Option.some.injEq] at h
    exact ⟨i, j, rfl, rfl, h.symm, hc⟩
  · cases h
theorem two_pow {o : Bool} : Two Z L W (rI CPow fun i j => .int (i ^ j.toNat)) (binR .pow o) := two_int (f := fun i j => i ^ j.toNat) fun x y z h => by
  obtain ⟨i, j, rfl, rfl⟩ := binop_int h (by intro h; cases h)
  simp only [binop] at h
  split at h
  · rename_i hc
    simp only [Option.some.injEq] at h
    refine ⟨i, j, rfl, rfl, h.symm, ?_⟩
    simp only [Bool.and_eq_true, decide_eq_true_eq] at hc
    exact ⟨hc.1.1, hc.1.2, hc.2⟩
  · cases h

/-! ### comparisons -/
mutual
theorem Is.dp {K : PySem.W.Frag} (hK : K = Z.K) : ∀ {v : V} {x : D} {y : PyData}, Is Z H v x → x.py = some y → Dp K H v y
  | _, _, _, .non, e => by simp [D.py] at e; subst e; exact .non
  | _, _, _, .bl b, e => by simp [D.py] at e; subst e; exact .bl b
  | _, _, _, .int b, e => by simp [D.py] at e; subst e; exact .int b
  | _, _, _, .str b, e => by simp [D.py] at e; subst e; exact .str b
  | _, _, _, .lst h a, e => by
    unfold D.py at e
    obtain ⟨ys, h1, h2⟩ := map_some e
    subst h2
    exact .lst (.of h) (IsAll.dp hK a h1)
  | _, _, _, .tup h a, e => by
    unfold D.py at e
    obtain ⟨ys, h1, h2⟩ := map_some e
    subst h2
    exact .tup (by rw [hK]; exact h) (IsAll.dp hK a h1)
  | _, _, _, .dk h l a, e => by simp [D.py] at e
  | _, _, _, .obj h l a, e => by simp [D.py] at e
theorem IsAll.dp {K : PySem.W.Frag} (hK : K = Z.K) : ∀ {vs : List V} {xs : List D} {ys : List PyData}, IsAll Z H vs xs → D.pys xs = some ys → DpAll K H vs ys
  | _, _, _, .nil, e => by simp [D.pys] at e; subst e; exact .nil
  | _, _, _, .cons (x := x) (xs := xs) a b, e => by
    unfold D.pys at e
    cases h1 : x.py with
    | none => rw [h1] at e; simp at e
    | some y =>
      cases h2 : D.pys xs with
      | none => rw [h1, h2] at e; simp at e
      | some ys =>
        rw [h1, h2] at e
        simp only [Option.some.injEq] at e
        subst e
        exact .cons (Is.dp hK a h1) (IsAll.dp hK b h2)
end
theorem cmp_inv {op : COp} {ra rb : R} {Q : V → Hp → Prop} (s : Sat Z L W kR B F σ (cmpR op ra rb g) Q) :
    ∃ x y c, ra.vw g = some x ∧ rb.vw g = some y ∧ cmpop op x y = some c ∧ Sat Z L W kR B F σ (.ok (.t (.d (.bl c))) g) Q := by
  unfold cmpR at s
  cases e1 : ra.vw g with
  | none => rw [e1] at s; exact s.elim
  | some x =>
    cases e2 : rb.vw g with
    | none => rw [e1, e2] at s; exact s.elim
    | some y =>
      simp only [e1, e2] at s
      cases e3 : cmpop op x y with
      | none => simp only [e3] at s; exact s.elim
      | some c => simp only [e3] at s; exact ⟨x, y, c, rfl, rfl, e3, s⟩
theorem eqD_inv {x y : D} {c : Bool} (h : eqD x y = some c) : ∃ a b, x.py = some a ∧ y.py = some b ∧ SeqAt.shaped a = true ∧ SeqAt.shaped b = true ∧ c = PyData.eqv a b := by
  unfold eqD at h
  cases e1 : x.py with
  | none => rw [e1] at h; cases h
  | some a =>
    cases e2 : y.py with
    | none => rw [e1, e2] at h; cases h
    | some b =>
      rw [e1, e2] at h
      simp only [eqP] at h
      split at h
      · rename_i hs
        simp only [Option.some.injEq] at h
        simp only [Bool.and_eq_true] at hs
        exact ⟨a, b, rfl, rfl, hs.1, hs.2, h.symm⟩
      · cases h
theorem two_eq {K : PySem.W.Frag} (hK : K = Z.K) : Two Z L W (rEqD K) (cmpR .eq) := by
  intro B F fp g σ H va vb ra rb f1 f2 Q R pa pb ha hb ap s
  obtain ⟨x, y, c, e1, e2, e3, s⟩ := cmp_inv s
  obtain ⟨a, b, p1, p2, s1, s2, rfl⟩ := eqD_inv e3
  exact ⟨a, b, (pa.vw R ha e1).dp hK p1, (pb.vw R hb e2).dp hK p2, s1, s2, sat_data R (.bl _) s⟩
theorem two_ne {K : PySem.W.Frag} (hK : K = Z.K) : Two Z L W (rNeD K) (cmpR .ne) := by
  intro B F fp g σ H va vb ra rb f1 f2 Q R pa pb ha hb ap s
  obtain ⟨x, y, c, e1, e2, e3, s⟩ := cmp_inv s
  obtain ⟨c', e4, rfl⟩ := map_some (show (eqD x y).map (!·) = some c from e3)
  obtain ⟨a, b, p1, p2, s1, s2, rfl⟩ := eqD_inv e4
  exact ⟨a, b, (pa.vw R ha e1).dp hK p1, (pb.vw R hb e2).dp hK p2, s1, s2, sat_data R (.bl _) s⟩
theorem two_cmpI {op : COp} {f : Int → Int → Bool} (hop : ∀ x y c, cmpop op x y = some c → ∃ i j, x = .int i ∧ y = .int j ∧ c = f i j) : Two Z L W (rI0 fun i j => .bl (f i j)) (cmpR op) := by
  intro B F fp g σ H va vb ra rb f1 f2 Q R pa pb ha hb ap s
  obtain ⟨x, y, c, e1, e2, e3, s⟩ := cmp_inv s
  obtain ⟨i, j, rfl, rfl, rfl⟩ := hop x y c e3
  have hx := pa.vw R ha e1
  have hy := pb.vw R hb e2
  cases hx; cases hy
  exact ⟨i, j, rfl, rfl, sat_data R (.bl _) s⟩
theorem two_lt : Two Z L W (rI0 fun i j => .bl (decide (i < j))) (cmpR .lt) := two_cmpI (f := fun i j => decide (i < j)) fun x y c h => by
  cases x <;> cases y <;> simp [cmpop] at h
  exact ⟨_, _, rfl, rfl, h.symm⟩
theorem two_le : Two Z L W (rI0 fun i j => .bl (decide (i ≤ j))) (cmpR .le) := two_cmpI (f := fun i j => decide (i ≤ j)) fun x y c h => by
  cases x <;> cases y <;> simp [cmpop] at h
  exact ⟨_, _, rfl, rfl, h.symm⟩
theorem two_gt : Two Z L W (rI0 fun i j => .bl (decide (j < i))) (cmpR .gt) := two_cmpI (f := fun i j => decide (j < i)) fun x y c h => by
  cases x <;> cases y <;> simp [cmpop] at h
  exact ⟨_, _, rfl, rfl, h.symm⟩
theorem two_ge : Two Z L W (rI0 fun i j => .bl (decide (j ≤ i))) (cmpR .ge) := two_cmpI (f := fun i j => decide (j ≤ i)) fun x y c h => by
  cases x <;> cases y <;> simp [cmpop] at h
  exact ⟨_, _, rfl, rfl, h.symm⟩
/-! in, not in: a list at any depth, a tuple of plain values -/
def rIn2 (K : PySem.W.Frag) : R2 := fun x y H Q => rInD K x y H Q ∨ rIn K false x y H Q
def rNin2 (K : PySem.W.Frag) : R2 := fun x y H Q => rNotInD K x y H Q ∨ rIn K true x y H Q
theorem op_in2 {X : Cx} (hu : X.A.units + 65 < cLine) : OpR X (compareOp .In) (rIn2 X.K) := (op_inD hu).or op_in_seq
theorem op_nin2 {X : Cx} (hu : X.A.units + 65 < cLine) : OpR X (compareOp .NotIn) (rNin2 X.K) := (op_notInD hu).or op_notIn_seq
theorem flat_v {v : V} {x : D} (h : Is Z H v x) (f : x.flat = true) : flatV v = true := by
  cases h <;> first | rfl | simp [D.flat] at f
theorem flat_all {vs : List V} {xs : List D} (h : IsAll Z H vs xs) (f : xs.all D.flat = true) : vs.all flatV = true := by
  induction xs generalizing vs with
  | nil => cases h; rfl
  | cons x xs ih =>
    cases h with
    | cons a b =>
      simp only [List.all_cons, Bool.and_eq_true] at f ⊢
      exact ⟨flat_v a f.1, ih b f.2⟩
theorem eqV_py {v w : V} {x y : D} (hx : Is Z H v x) (hy : Is Z H w y) (fx : x.flat = true) (fy : y.flat = true) : eqV w v = PyData.eqv (flatPy y) (flatPy x) := by
  cases hx <;> cases hy <;> first | (simp [D.flat] at fx; done) | (simp [D.flat] at fy; done) | skip
  all_goals first | rfl | (simp [eqV, flatPy, PyData.eqv]; done)
theorem inV_py {v : V} {x : D} {vs : List V} {xs : List D} (hx : Is Z H v x) (fx : x.flat = true) (h : IsAll Z H vs xs) (f : xs.all D.flat = true) : inV v vs = xs.any fun y => PyData.eqv (flatPy y) (flatPy x) := by
  induction xs generalizing vs with
  | nil => cases h; rfl
  | cons y ys ih =>
    cases h with
    | cons a b =>
      simp only [List.all_cons, Bool.and_eq_true] at f
      show (eqV _ v || inV v _) = (PyData.eqv (flatPy y) (flatPy x) || _)
      rw [ih b f.2, eqV_py hx a fx f.1]
theorem in_inv {x y : D} {c : Bool} (h : inD x y = some c) : (∃ a bs, x.py = some a ∧ y.py = some (.list bs) ∧ SeqAt.shaped a = true ∧ SeqAt.shaped (.list bs) = true ∧ c = bs.any fun z => PyData.eqv z a) ∨
    ∃ ys, y = .tup ys ∧ x.flat = true ∧ ys.all D.flat = true ∧ c = ys.any fun y => PyData.eqv (flatPy y) (flatPy x) := by
  cases y with
  | lst ys =>
    left
    simp only [inD] at h
    cases e1 : x.py with
    | none => rw [e1] at h; cases h
    | some a =>
      cases e2 : D.pys ys with
      | none => rw [e1] at h; simp [D.py, e2] at h
      | some bs =>
        rw [e1] at h
        simp only [D.py, e2, Option.map_some, inP] at h
        split at h
        · rename_i hs
          simp only [Option.some.injEq] at h
          simp only [Bool.and_eq_true] at hs
          exact ⟨a, bs, rfl, by simp [D.py, e2], hs.1, hs.2, h.symm⟩
        · cases h
  | tup ys =>
    right
    simp only [inD] at h
    split at h
    · rename_i hs
      simp only [Option.some.injEq] at h
      simp only [Bool.and_eq_true] at hs
      exact ⟨ys, rfl, hs.1, hs.2, h.symm⟩
    · cases h
  | _ => simp [inD] at h
theorem two_in {K : PySem.W.Frag} (hK : K = Z.K) : Two Z L W (rIn2 K) (cmpR .isin) := by
  intro B F fp g σ H va vb ra rb f1 f2 Q R pa pb ha hb ap s
  obtain ⟨x, y, c, e1, e2, e3, s⟩ := cmp_inv s
  have hx := pa.vw R ha e1
  have hy := pb.vw R hb e2
  rcases in_inv (show inD x y = some c from e3) with ⟨a, bs, p1, p2, s1, s2, rfl⟩ | ⟨ys, rfl, h1, h2, rfl⟩
  · exact .inl ⟨a, bs, hx.dp hK p1, hy.dp hK p2, s1, s2, sat_data R (.bl _) s⟩
  · cases hy with
    | tup h a =>
      refine .inr ⟨_, _, rfl, .inr (by rw [hK]; exact h), flat_v hx h1, flat_all a h2, ?_⟩
      rw [if_neg (by decide), inV_py hx h1 a h2]
      exact sat_data R (.bl _) s
theorem two_nin {K : PySem.W.Frag} (hK : K = Z.K) : Two Z L W (rNin2 K) (cmpR .notin) := by
  intro B F fp g σ H va vb ra rb f1 f2 Q R pa pb ha hb ap s
  obtain ⟨x, y, c, e1, e2, e3, s⟩ := cmp_inv s
  have hx := pa.vw R ha e1
  have hy := pb.vw R hb e2
  obtain ⟨c', e4, rfl⟩ := map_some (show (inD x y).map (!·) = some c from e3)
  rcases in_inv e4 with ⟨a, bs, p1, p2, s1, s2, rfl⟩ | ⟨ys, rfl, h1, h2, rfl⟩
  · exact .inl ⟨a, bs, hx.dp hK p1, hy.dp hK p2, s1, s2, sat_data R (.bl _) s⟩
  · cases hy with
    | tup h a =>
      refine .inr ⟨_, _, rfl, .inr (by rw [hK]; exact h), flat_v hx h1, flat_all a h2, ?_⟩
      rw [if_pos rfl, inV_py hx h1 a h2]
      exact sat_data R (.bl _) s

/-! ### one operand -/
/-- a one-place reading meets what f reckons -/
def One (Z : Ctx) (L : Hp) (W : WX) (r : V → Hp → VK → Prop) (f : R → G → Out R) : Prop :=
  ∀ {B F : Hp} {fp : Nat → List Addr} {g : G} {σ : L2.St} {H : Hp} {v : V} {r1 : R} {Q : V → Hp → Prop}, Rel Z L B F fp g σ H → Cls Z L B F fp σ H [v] [r1] → Sat Z L W kR B F σ (f r1 g) Q → r v H Q
theorem Snd.one {ta : TE} {fa : G → Out R} {r : V → Hp → VK → Prop} {f : R → G → Out R} (ha : Snd Z L W kR ta fa) (hr : One Z L W r f) : Snd Z L W kR (fun σ H Q => ta σ H fun x H1 => r x H1 Q) (fun g => (fa g).bind f) :=
  Snd.bind (k2 := kR) (t2 := fun x _ H1 Q => r x H1 Q) ha fun R _ cl s => hr R cl s
theorem one_neg : One Z L W (rU fun i => .int (-i)) negR := by
  intro B F fp g σ H v r1 Q R cl s
  cases r1 with
  | t t =>
    cases t with
    | d x =>
      cases x with
      | int i =>
        obtain ⟨fu, h⟩ := Cl.own R cl (t := .d (.int i)) rfl
        cases h with
        | d h => cases h; exact ⟨i, rfl, sat_data R (.int _) s⟩
      | _ => exact s.elim
    | _ => exact s.elim
  | _ => exact s.elim
def T.isNon : T → Bool
  | .d .non => true
  | _ => false
theorem isN_val {v : V} {t : T} {fq : List Addr} (h : Own Z L F H v t fq) (hu : t ≠ .un) : decide (v = V.non) = t.isNon := by
  cases h with
  | d h => cases h <;> rfl
  | un => exact absurd rfl hu
  | _ => rfl
theorem isN_inv {neg : Bool} {r1 : R} {Q : V → Hp → Prop} (s : Sat Z L W kR B F σ (isNR neg r1 g) Q) : ∃ t, r1.tree g = some t ∧ t ≠ .un ∧ Sat Z L W kR B F σ (.ok (.t (.d (.bl (neg != t.isNon)))) g) Q := by
  unfold isNR at s
  cases e : r1.tree g with
  | none => rw [e] at s; exact s.elim
  | some t =>
    rw [e] at s
    refine ⟨t, rfl, ?_⟩
    cases t with
    | un => exact s.elim
    | d x => cases x <;> (refine ⟨(by intro h; cases h), ?_⟩; cases neg <;> exact s)
    | _ => refine ⟨(by intro h; cases h), ?_⟩; cases neg <;> exact s
theorem one_isN : One Z L W (fun x H Q => Q (.bl (decide (x = .non))) H) (isNR false) := by
  intro B F fp g σ H v r1 Q R cl s
  obtain ⟨t, e, hu, s⟩ := isN_inv s
  obtain ⟨fu, h⟩ := Cl.own R cl e
  rw [isN_val h hu]
  refine sat_data (W := W) R (.bl _) ?_
  simpa using s
theorem one_notN : One Z L W (fun x H Q => Q (.bl (!decide (x = .non))) H) (isNR true) := by
  intro B F fp g σ H v r1 Q R cl s
  obtain ⟨t, e, hu, s⟩ := isN_inv s
  obtain ⟨fu, h⟩ := Cl.own R cl e
  rw [isN_val h hu]
  refine sat_data (W := W) R (.bl _) ?_
  simpa using s

/-! ### variables, constants -/
theorem snd_c {v : V} {x : D} (h : ∀ F, Is Z F v x) : Snd Z L W kR (tC v) (fun g => .ok (.t (.d x)) g) := fun B F fp g σ H Q R s => sat_data R (h F) s
theorem snd_var {i : Nat} : Snd Z L W kR (tVar i) (rdVar i) := by
  intro B F fp g σ H Q R s
  unfold rdVar at s
  cases e : g[i]? with
  | none => rw [e] at s; exact s.elim
  | some t =>
    rw [e] at s
    rcases R.sl i t e with ⟨rfl, _⟩ | ⟨v, ev, ho⟩
    · exact s.elim
    · have place : (∃ u, t = u ∧ Sat Z L W kR B F σ (.ok (.p i []) g) Q) → tVar i σ H Q := fun ⟨_, _, s⟩ =>
        ⟨v, ev, s v F fp H (.refl B F) R trivial ⟨.p ev .nil .nil, [], .nil, .nil⟩⟩
      cases t with
      | d x =>
        generalize fp i = fi at ho
        cases ho with
        | d h => exact ⟨v, ev, sat_data R h s⟩
      | un => exact s.elim
      | _ => exact place ⟨_, rfl, s⟩
theorem snd_ref {i : Nat} : Snd Z L W kR (tVar i) (rdRef i) := by
  intro B F fp g σ H Q R s
  unfold rdRef at s
  cases e : g[i]? with
  | none => rw [e] at s; exact s.elim
  | some t =>
    rw [e] at s
    rcases R.sl i t e with ⟨rfl, _⟩ | ⟨v, ev, ho⟩
    · exact s.elim
    · have go : Sat Z L W kR B F σ (.ok (.m i) g) Q → tVar i σ H Q := fun s =>
        ⟨v, ev, s v F fp H (.refl B F) R trivial ⟨.m ev .nil, [], .nil, .nil⟩⟩
      cases t with
      | un => exact s.elim
      | xo _ => exact s.elim
      | _ => exact go s
/-- slot i gives its tree away -/
theorem Rel.take (R : Rel Z L B F fp g σ H) (i : Nat) : Rel Z L B F (upf fp i []) (g.set i .un) σ H ∧ Apart B F (upf fp i []) (fp i) := by
  refine ⟨(R.off i).weak (fz_sub R.sB) R.sL, R.nd i, R.dj i, fun p hp j hj => ?_⟩
  by_cases h : j = i
  · subst h; rw [upf_same] at hj; simp at hj
  · rw [upf_ne h] at hj; exact R.ds j i h p hj hp
theorem snd_mv {i : Nat} : Snd Z L W kR (tVar i) (rdMv i) := by
  intro B F fp g σ H Q R s
  unfold rdMv at s
  cases e : g[i]? with
  | none => rw [e] at s; exact s.elim
  | some t =>
    rw [e] at s
    rcases R.sl i t e with ⟨rfl, _⟩ | ⟨v, ev, ho⟩
    · exact s.elim
    · obtain ⟨R', ap⟩ := R.take i
      have go : Sat Z L W kR B F σ (.ok (.t t) (g.set i .un)) Q → tVar i σ H Q := fun s => ⟨v, ev, s v F _ H (.refl B F) R' trivial (.tree ho ap)⟩
      cases t with
      | un => exact s.elim
      | xo _ => exact s.elim
      | _ => exact go s
/-- a slot takes a tree (its value stays) -/
theorem Rel.give (R : Rel Z L B F fp g σ H) {i : Nat} {v : V} {t : T} {fq : List Addr} (ev : σ[i]? = some (some v)) (e0 : fp i = []) (ho : Own Z L F H v t fq) (ap : Apart B F fp fq) : Rel Z L B F (upf fp i fq) (g.set i t) σ H where
  ls := by simpa using R.ls
  sl := fun j u e => by
    by_cases h : j = i
    · subst h
      rw [List.getElem?_set_self'] at e
      cases hg : g[j]? with
      | none => rw [hg] at e; simp at e
      | some w => rw [hg] at e; simp at e; subst e; exact .inr ⟨v, ev, by rw [upf_same]; exact ho⟩
    · rw [List.getElem?_set_ne (Ne.symm h)] at e
      rw [upf_ne h]
      exact R.sl j u e
  out := fun j hj => by
    by_cases h : j = i
    · subst h
      have : j < σ.length := (List.getElem?_eq_some_iff.mp ev).1
      rw [R.ls] at this
      simp at hj; omega
    · rw [upf_ne h]; exact R.out j (by simpa using hj)
  sF := R.sF
  sB := R.sB
  sL := R.sL
  nd := fun j => by
    by_cases h : j = i
    · subst h; rw [upf_same]; exact ap.nd
    · rw [upf_ne h]; exact R.nd j
  ds := fun j k hjk p hp => by
    by_cases h : j = i
    · subst h
      rw [upf_same] at hp
      rw [upf_ne (Ne.symm hjk)]
      exact ap.no p hp k
    · rw [upf_ne h] at hp
      by_cases h' : k = i
      · subst h'; rw [upf_same]
        exact fun hh => ap.no p hh j hp
      · rw [upf_ne h']; exact R.ds j k hjk p hp
  dj := fun j p hp => by
    by_cases h : j = i
    · subst h; rw [upf_same] at hp; exact ap.dj p hp
    · rw [upf_ne h] at hp; exact R.dj j p hp
/-- an owned tree, its slot empty, becomes data for good -/
theorem Rel.freeze (R : Rel Z L B F fp g σ H) {v : V} {t : T} {fq : List Addr} {x : D} (ho : Own Z L F H v t fq) (ap : Apart B F fp fq) (e : t.toD = some x) : Le B F (fz F H fq) ∧ Rel Z L B (fz F H fq) fp g σ H ∧ Is Z (fz F H fq) v x := by
  have nw : ∀ p, fz F H fq p ≠ none → F p ≠ none ∨ p ∈ fq := fun p hp => by
    by_cases h : p ∈ fq
    · exact .inr h
    · rw [fz_out h] at hp; exact .inl hp
  refine ⟨⟨fz_sub R.sF, fun p hp => (nw p hp).imp id fun h => (ap.dj p h).2⟩, R.grow (fz_sub R.sF) (fz_le R.sF) fun p hp => (nw p hp).imp id fun h => ap.no p h, ho.freeze R.sF e⟩
theorem snd_fz {i : Nat} : Snd Z L W kR (tVar i) (rdFz i) := by
  intro B F fp g σ H Q R s
  unfold rdFz at s
  cases e : g[i]? with
  | none => rw [e] at s; exact s.elim
  | some t =>
    rw [e] at s
    simp only at s
    cases ex : t.toD with
    | none => rw [ex] at s; exact s.elim
    | some x =>
      rw [ex] at s
      rcases R.sl i t e with ⟨rfl, _⟩ | ⟨v, ev, ho⟩
      · simp [T.toD] at ex
      · obtain ⟨R', ap⟩ := R.take i
        obtain ⟨le, R2, hx⟩ := R'.freeze ho ap ex
        have R3 := R2.give (i := i) ev upf_same (.d hx) .nil
        have eg : (g.set i .un).set i (.d x) = g.set i (.d x) := by simp
        rw [eg] at R3
        exact ⟨v, ev, s v _ _ H le R3 trivial (.data hx)⟩
end
end Wh

/-! Wh, part 7: tests, displays, subscripts, built-ins. -/
namespace Wh
open PySem L2
section
variable {Z : Ctx} {L B F H : Hp} {fp : Nat → List Addr} {g : G} {σ : L2.St} {W : WX}

/-! ### tests -/
theorem sat_b {b : Bool} {Q : Bool → Hp → Prop} (R : Rel Z L B F fp g σ H) (s : Sat Z L W kB B F σ (.ok b g) Q) : Q b H := s b F fp H (.refl B F) R rfl ⟨.nil, [], .nil, .nil⟩
theorem emp_of {α β : Type} {xs : List α} {ys : List β} (h : xs.length = ys.length) : (!ys.isEmpty) = !xs.isEmpty := by
  cases xs <;> cases ys <;> simp_all
theorem Own.tru {v : V} {t : T} {fq : List Addr} {b : Bool} (sF : Sub F H) (sL : Sub L H) (h : Own Z L F H v t fq) (e : t.truth = some b) {K : PySem.W.Frag} (hK : K = Z.K) : TruV K v H b := by
  subst hK
  cases h with
  | d h =>
    cases h with
    | non => simp [T.truth] at e; exact e
    | bl c => simp [T.truth] at e; exact e.symm
    | int i => simp [T.truth] at e; rw [← e]; rfl
    | str x =>
      have e : (if x.length ≤ sizeLine then some (x.length != 0) else none) = some b := e
      split at e
      · rename_i hl
        simp only [Option.some.injEq] at e
        refine ⟨hl, e.symm.trans ?_⟩
        generalize x.length = n
        rw [Bool.eq_iff_iff]
        simp only [bne_iff_ne, ne_eq]
        omega
      · cases e
    | lst h a =>
      simp only [T.truth, Option.some.injEq] at e
      exact .inl ⟨_, .of (sF _ _ h), e.symm.trans (emp_of a.length)⟩
    | tup h a =>
      simp only [T.truth, Option.some.injEq] at e
      exact .inr (.inl ⟨_, sF.sqt h, e.symm.trans (emp_of a.length)⟩)
    | dk h l a => cases e
    | obj h l a => cases e
  | lst h a =>
    simp only [T.truth, Option.some.injEq] at e
    exact .inl ⟨_, .of h, e.symm.trans (emp_of a.length)⟩
  | lstb h a =>
    simp only [T.truth, Option.some.injEq] at e
    exact .inl ⟨_, .of (sL _ _ h), e.symm.trans (emp_of a.length)⟩
  | _ => cases e
/-- a value's truth -/
theorem Snd.truth {K : PySem.W.Frag} (hK : K = Z.K) {ta : TE} {fa : G → Out R} (ha : Snd Z L W kR ta fa) : Snd Z L W kB (fun σ H Q => ta σ H fun x H' => ∃ k, TruV K x H' k ∧ Q k H') (fun g => (fa g).bind truR) := by
  refine Snd.bind (k2 := kB) (t2 := fun x _ H' Q => ∃ k, TruV K x H' k ∧ Q k H') ha fun {B F fp g σ H v r Q} R _ cl s => ?_
  unfold truR at s
  cases e : Wh.R.tree g r with
  | none => rw [e] at s; exact s.elim
  | some t =>
    rw [e] at s
    simp only at s
    cases e2 : t.truth with
    | none => rw [e2] at s; exact s.elim
    | some b =>
      rw [e2] at s
      obtain ⟨fu, h⟩ := Cl.own R cl e
      exact ⟨b, h.tru R.sF R.sLH e2 hK, sat_b R s⟩
/-- what gives a bool alone -/
def IsBl (f : G → Out R) : Prop := ∀ g r g', f g = .ok r g' → ∃ b, r = .t (.d (.bl b))
theorem Snd.test {ta : TE} {fa : G → Out R} (ha : Snd Z L W kR ta fa) (hb : IsBl fa) : Snd Z L W kB (tTest ta) (fun g => (fa g).bind truR) := by
  intro B F fp g σ H Q R s
  replace s : Sat Z L W kB B F σ ((fa g).bind truR) Q := s
  refine ha _ _ _ _ _ _ _ R ?_
  unfold Sat
  cases e : fa g with
  | bad => rw [e] at s; exact s
  | ex x g' => rw [e] at s; exact s
  | ok r g' =>
    obtain ⟨b, rfl⟩ := hb _ _ _ e
    rw [e] at s
    intro v F' fp' H' le R' _ cl
    obtain ⟨fu, h⟩ := Cl.own R' cl (t := .d (.bl b)) rfl
    cases h with
    | d h =>
      cases h
      exact ⟨b, rfl, sat_b R' (Sat.step le s)⟩
theorem Snd.and {tA tB : TT} {fa fb : G → Out Bool} (ha : Snd Z L W kB tA fa) (hb : Snd Z L W kB tB fb) : Snd Z L W kB (tAnd tA tB) (fun g => (fa g).bind fun k g1 => match k with | true => fb g1 | false => .ok false g1) := by
  refine Snd.bind (k2 := kB) (t2 := fun c σ H1 Q => if c = true then tB σ H1 Q else Q false H1) ha fun {B F fp g σ H b a Q} R pr cl s => ?_
  have pr : b = a := pr
  subst pr
  cases b with
  | true => exact (if_pos rfl).mpr (hb _ _ _ _ _ _ _ R s)
  | false => rw [if_neg (by decide)]; exact sat_b R s
theorem Snd.or {tA tB : TT} {fa fb : G → Out Bool} (ha : Snd Z L W kB tA fa) (hb : Snd Z L W kB tB fb) : Snd Z L W kB (tOr tA tB) (fun g => (fa g).bind fun k g1 => match k with | true => .ok true g1 | false => fb g1) := by
  refine Snd.bind (k2 := kB) (t2 := fun c σ H1 Q => if c = true then Q true H1 else tB σ H1 Q) ha fun {B F fp g σ H b a Q} R pr cl s => ?_
  have pr : b = a := pr
  subst pr
  cases b with
  | true => rw [if_pos rfl]; exact sat_b R s
  | false => rw [if_neg (by decide)]; exact hb _ _ _ _ _ _ _ R s
theorem Snd.not {tA : TT} {fa : G → Out Bool} (ha : Snd Z L W kB tA fa) : Snd Z L W kB (tNot tA) (fun g => (fa g).bind fun k g1 => .ok (!k) g1) := by
  refine Snd.bind (k2 := kB) (t2 := fun c σ H1 Q => Q (!c) H1) ha fun {B F fp g σ H b a Q} R pr cl s => ?_
  have pr : b = a := pr
  subst pr
  exact sat_b R s
/-- .. as values -/
theorem bl_inv {v : V} {b : Bool} (R : Rel Z L B F fp g σ H) (cl : Cls Z L B F fp σ H [v] [.t (.d (.bl b))]) : v = .bl b := by
  obtain ⟨fu, h⟩ := Cl.own R cl (t := .d (.bl b)) rfl
  cases h with
  | d h => cases h; rfl
theorem int_inv {v : V} {b : Int} (R : Rel Z L B F fp g σ H) (cl : Cls Z L B F fp σ H [v] [.t (.d (.int b))]) : v = .int b := by
  obtain ⟨fu, h⟩ := Cl.own R cl (t := .d (.int b)) rfl
  cases h with
  | d h => cases h; rfl
theorem data_inv {v : V} {x : D} (R : Rel Z L B F fp g σ H) (cl : Cls Z L B F fp σ H [v] [.t (.d x)]) : Is Z F v x := by
  obtain ⟨fu, h⟩ := Cl.own R cl (t := .d x) rfl
  cases h with
  | d h => exact h
theorem Snd.andV {ta tb : TE} {fa fb : G → Out R} (ha : Snd Z L W kR ta fa) (hb : Snd Z L W kR tb fb) : Snd Z L W kR (tAndV ta tb) (fun g => (fa g).bind fun ra g1 => andR ra fb g1) := by
  refine Snd.bind (k2 := kR) (t2 := fun x σ H1 Q => ∃ c, x = .bl c ∧ if c = true then tb σ H1 Q else Q (.bl false) H1) ha fun {B F fp g σ H v r Q} R _ cl s => ?_
  cases r with
  | t t =>
    cases t with
    | d x =>
      cases x with
      | bl b =>
        have e := bl_inv R cl
        subst e
        refine ⟨b, rfl, ?_⟩
        cases b with
        | true => exact (if_pos rfl).mpr (hb _ _ _ _ _ _ _ R s)
        | false => rw [if_neg (by decide)]; exact sat_data R (.bl _) s
      | _ => exact s.elim
    | _ => exact s.elim
  | _ => exact s.elim
theorem Snd.orV {ta tb : TE} {fa fb : G → Out R} (ha : Snd Z L W kR ta fa) (hb : Snd Z L W kR tb fb) : Snd Z L W kR (tOrV ta tb) (fun g => (fa g).bind fun ra g1 => orR ra fb g1) := by
  refine Snd.bind (k2 := kR) (t2 := fun x σ H1 Q => ∃ c, x = .bl c ∧ if c = true then Q (.bl true) H1 else tb σ H1 Q) ha fun {B F fp g σ H v r Q} R _ cl s => ?_
  cases r with
  | t t =>
    cases t with
    | d x =>
      cases x with
      | bl b =>
        have e := bl_inv R cl
        subst e
        refine ⟨b, rfl, ?_⟩
        cases b with
        | true => rw [if_pos rfl]; exact sat_data R (.bl _) s
        | false => rw [if_neg (by decide)]; exact hb _ _ _ _ _ _ _ R s
      | _ => exact s.elim
    | _ => exact s.elim
  | _ => exact s.elim
theorem Snd.notV {ta : TE} {fa : G → Out R} (ha : Snd Z L W kR ta fa) : Snd Z L W kR (tNotV ta) (fun g => (fa g).bind notR) := by
  refine Snd.bind (k2 := kR) (t2 := fun x σ H1 Q => ∃ c, x = .bl c ∧ Q (.bl (!c)) H1) ha fun {B F fp g σ H v r Q} R _ cl s => ?_
  cases r with
  | t t =>
    cases t with
    | d x =>
      cases x with
      | bl b =>
        have e := bl_inv R cl
        subst e
        exact ⟨b, rfl, sat_data R (.bl _) s⟩
      | _ => exact s.elim
    | _ => exact s.elim
  | _ => exact s.elim
theorem Snd.ite {tc : TT} {ta tb : TE} {fc : G → Out Bool} {fa fb : G → Out R} (hc : Snd Z L W kB tc fc) (ha : Snd Z L W kR ta fa) (hb : Snd Z L W kR tb fb) : Snd Z L W kR (tIf tc ta tb) (fun g => (fc g).bind fun k g1 => match k with | true => fa g1 | false => fb g1) := by
  refine Snd.bind (k2 := kR) (t2 := fun c σ H1 Q => if c = true then ta σ H1 Q else tb σ H1 Q) hc fun {B F fp g σ H b a Q} R pr cl s => ?_
  have pr : b = a := pr
  subst pr
  cases b with
  | true => exact (if_pos rfl).mpr (ha _ _ _ _ _ _ _ R s)
  | false => rw [if_neg (by decide)]; exact hb _ _ _ _ _ _ _ R s
/-- a op b op2 c -/
theorem two_chain {op op2 : COp} {r r' : R2} {tc : TE} {fc : G → Out R}
    (h1 : ∀ (x y : Int) (k : Bool) (H : Hp) (Q : VK), cmpop op (.int x) (.int y) = some k → Q (.bl k) H → r (.int x) (.int y) H Q) (h2 : ∀ (x y : Int) (k : Bool) (H : Hp) (Q : VK), cmpop op2 (.int x) (.int y) = some k → Q (.bl k) H → r' (.int x) (.int y) H Q)
    (hc : Snd Z L W kR tc fc) {ta tb : TE} {fa fb : G → Out R} (ha : Snd Z L W kR ta fa) (hb : Snd Z L W kR tb fb) :
    Snd Z L W kR (tChain r r' ta tb tc) (bin2 fa fb fun ra rb => chainR op op2 ra rb fc) := by
  intro B F fp g σ H Q R s
  refine Snd.bind (k2 := kR) (t2 := fun x σ H1 Q => tb σ H1 fun y H2 => r x y H2 fun z H3 => ∃ k, z = .bl k ∧ (if k = true then tc σ H3 fun w' H4 => r' y w' H4 Q else Q (.bl false) H3)) ha
    (fun {B F fp g σ H va ra Q} R _ cl s => ?_) B F fp g σ H Q R s
  have cl0 := cl
  obtain ⟨pl, fq, ho, ap⟩ := cl
  refine hb.keep R pl ho ap ?_
  cases e : under ra g fb with
  | bad => rw [e] at s; exact s
  | ex x g' => rw [e] at s; exact s
  | ok rb g' =>
    rw [e] at s
    intro vb F' fp' H' le R' _ pb pa ⟨f2, ho2, ap2⟩
    replace s : Sat Z L W kR B F σ (chainR op op2 ra rb fc g') Q := s
    obtain ⟨x1, x2, ex, hx1, hx2⟩ := Wh.two (f2 := f2) pa pb ho2
    rw [ex] at ap2
    cases ra with
    | t ta' =>
      cases ta' with
      | d xa =>
        cases xa with
        | int x =>
          cases rb with
          | t tb' =>
            cases tb' with
            | d xb =>
              cases xb with
              | int y =>
                have e1 := int_inv R' ⟨pa, x1, hx1, ap2.left⟩
                have e2 := int_inv R' ⟨pb, x2, hx2, ap2.right⟩
                have e1 : va = .int x := e1
                have e2 : vb = .int y := e2
                subst e1 e2
                simp only [chainR] at s
                cases ek : cmpop op (.int x) (.int y) with
                | none => rw [ek] at s; exact s.elim
                | some k =>
                  rw [ek] at s
                  refine h1 x y k H' _ ek ⟨k, rfl, ?_⟩
                  cases k with
                  | false =>
                    rw [if_neg (by decide)]
                    exact sat_data R' (.bl _) (Sat.step le s)
                  | true =>
                    rw [if_pos rfl]
                    refine hc _ _ _ _ _ _ _ R' ?_
                    unfold Sat
                    simp only at s
                    cases ef : fc g' with
                    | bad => rw [ef] at s; exact s
                    | ex x3 g3 => rw [ef] at s; exact (Sat.step le s)
                    | ok rc g3 =>
                      rw [ef] at s
                      intro vc F3 fp3 H3 le3 R3 _ cl3
                      simp only [Out.bind_ok] at s
                      cases rc with
                      | t tc' =>
                        cases tc' with
                        | d xc =>
                          cases xc with
                          | int z =>
                            have e3 : vc = .int z := int_inv R3 cl3
                            subst e3
                            simp only at s
                            cases ek2 : cmpop op2 (.int y) (.int z) with
                            | none => rw [ek2] at s; exact s.elim
                            | some k2 =>
                              rw [ek2] at s
                              exact h2 y z k2 H3 _ ek2 (sat_data R3 (.bl _) (Sat.step (le.trans le3) s))
                          | _ => exact s.elim
                        | _ => exact s.elim
                      | _ => exact s.elim
              | _ => exact s.elim
            | _ => exact s.elim
          | _ => exact s.elim
        | _ => exact s.elim
      | _ => exact s.elim
    | _ => exact s.elim

/-! ### argument lists, displays -/
theorem Pls.cons {v : V} {r : R} {vs : List V} {rs : List R} (h : Pls σ H [v] [r]) (k : Pls σ H vs rs) : Pls σ H (v :: vs) (r :: rs) := by
  cases h with
  | t h => exact .t k
  | p a b h => exact .p a b k
  | m a h => exact .m a k
theorem ex_cons {v : V} {r : R} {vs : List V} {rs : List R} : exV (v :: vs) (r :: rs) = exV [v] [r] ++ exV vs rs ∧ exT (r :: rs) = exT [r] ++ exT rs := by
  cases r <;> exact ⟨rfl, rfl⟩
theorem snd_nil : Snd Z L W kRs tNil (fun g => .ok [] g) := fun B F fp g σ H Q R s => s [] F fp H (.refl B F) R trivial ⟨.nil, [], .nil, .nil⟩
theorem Snd.cons {ta : TE} {tr : TA} {fa : G → Out R} {fr : G → Out (List R)} (ha : Snd Z L W kR ta fa) (hr : Snd Z L W kRs tr fr) : Snd Z L W kRs (tCons ta tr) (fun g => (fa g).bind fun r g1 => consR r fr g1) := by
  refine Snd.bind (k2 := kRs) (t2 := fun x σ H1 Q => tr σ H1 fun xs H2 => Q (x :: xs) H2) ha fun {B F fp g σ H v r Q} R _ cl s => ?_
  obtain ⟨pl, fq, ho, ap⟩ := cl
  refine hr.keep R pl ho ap ?_
  unfold consR at s
  cases e : under r g fr with
  | bad => rw [e] at s; exact s
  | ex x g' => rw [e] at s; exact s
  | ok rs g' =>
    rw [e] at s
    intro vs F' fp' H' le R' _ ps pl' ⟨f2, ho2, ap2⟩
    refine Sat.step le s (v :: vs) F' fp' H' (.refl B F') R' trivial ⟨pl'.cons ps, fq ++ f2, ?_, ap2⟩
    have e1 := (ex_cons (v := v) (r := r) (vs := vs) (rs := rs)).1
    have e2 := (ex_cons (v := v) (r := r) (vs := vs) (rs := rs)).2
    show OwnAll Z L F' H' (exV (v :: vs) (r :: rs)) (exT (r :: rs)) (fq ++ f2)
    rw [e1, e2]
    exact ho2
theorem disT_inv {rs : List R} {ts : List T} (h : disT rs = some ts) : rs = ts.map Wh.R.t := by
  induction rs generalizing ts with
  | nil => simp [disT] at h; subst h; rfl
  | cons r rs ih =>
    cases r with
    | t t =>
      simp only [disT] at h
      obtain ⟨us, h1, h2⟩ := map_some h
      subst h2
      rw [ih h1]; rfl
    | _ => simp [disT] at h
theorem disD_inv {rs : List R} {xs : List D} (h : disD rs = some xs) : ∃ ts, rs = ts.map Wh.R.t ∧ T.toDs ts = some xs := by
  induction rs generalizing xs with
  | nil => simp [disD] at h; subst h; exact ⟨[], rfl, by simp [T.toDs]⟩
  | cons r rs ih =>
    cases r with
    | t t =>
      simp only [disD] at h
      cases h1 : t.toD with
      | none => rw [h1] at h; simp at h
      | some x =>
        cases h2 : disD rs with
        | none => rw [h1, h2] at h; simp at h
        | some ys =>
          rw [h1, h2] at h
          simp only [Option.some.injEq] at h
          subst h
          obtain ⟨ts, h3, h4⟩ := ih h2
          exact ⟨t :: ts, by rw [h3]; rfl, by unfold T.toDs; rw [h1, h4]⟩
    | _ => simp [disD] at h
theorem ex_t {vs : List V} {ts : List T} (pl : Pls σ H vs (ts.map Wh.R.t)) : exV vs (ts.map Wh.R.t) = vs ∧ exT (ts.map Wh.R.t) = ts := by
  induction ts generalizing vs with
  | nil => cases pl; exact ⟨rfl, rfl⟩
  | cons t ts ih =>
    cases pl with
    | t pl =>
      obtain ⟨h1, h2⟩ := ih pl
      exact ⟨by show _ :: exV _ _ = _; rw [h1], by show _ :: exT _ = _; rw [h2]⟩
theorem ts_own {vs : List V} {rs : List R} {ts : List T} (cl : Cls Z L B F fp σ H vs rs) (h : rs = ts.map Wh.R.t) : ∃ fq, OwnAll Z L F H vs ts fq ∧ Apart B F fp fq := by
  subst h
  obtain ⟨pl, fq, ho, ap⟩ := cl
  obtain ⟨e1, e2⟩ := ex_t pl
  rw [e1, e2] at ho
  exact ⟨fq, ho, ap⟩
theorem Rel.freezeAll (R : Rel Z L B F fp g σ H) {vs : List V} {ts : List T} {fq : List Addr} {xs : List D} (ho : OwnAll Z L F H vs ts fq) (ap : Apart B F fp fq) (e : T.toDs ts = some xs) : Le B F (fz F H fq) ∧ Rel Z L B (fz F H fq) fp g σ H ∧ IsAll Z (fz F H fq) vs xs := by
  have nw : ∀ p, fz F H fq p ≠ none → F p ≠ none ∨ p ∈ fq := fun p hp => by
    by_cases h : p ∈ fq
    · exact .inr h
    · rw [fz_out h] at hp; exact .inl hp
  exact ⟨⟨fz_sub R.sF, fun p hp => (nw p hp).imp id fun h => (ap.dj p h).2⟩, R.grow (fz_sub R.sF) (fz_le R.sF) fun p hp => (nw p hp).imp id fun h => ap.no p h, ho.freeze R.sF e⟩
theorem sz10 {n : Nat} (h : ¬ 10000 < n) : n ≤ sizeLine := by rw [sizeLine_eq]; omega
theorem Cls.len {vs : List V} {rs : List R} (cl : Cls Z L B F fp σ H vs rs) : vs.length = rs.length := by
  have pl := cl.1
  clear cl
  induction pl with
  | nil => rfl
  | t _ ih => simp [ih]
  | p _ _ _ ih => simp [ih]
  | m _ _ ih => simp [ih]
theorem Snd.tup {ta : TA} {fa : G → Out (List R)} {o : Bool} (ha : Snd Z L W kRs ta fa) : Snd Z L W kR (tTup ta) (fun g => (fa g).bind (tupR o)) := by
  refine Snd.bind (k2 := kR) (t2 := fun xs σ H1 Q => xs.length ≤ sizeLine ∧ ∀ p, H1 p = none → Q (.ref p) (upd H1 p (.tup xs))) ha fun {B F fp g σ H vs rs Q} R _ cl s => ?_
  have cl : Cls Z L B F fp σ H vs rs := cl
  unfold tupR at s
  split at s
  · exact s.elim
  · rename_i hn
    refine ⟨by rw [cl.len]; exact sz10 hn, fun p hp => ?_⟩
    cases o with
    | true =>
      simp only at s
      cases e : disT rs with
      | none => rw [e] at s; exact s.elim
      | some ts =>
        rw [e] at s
        obtain ⟨fq, ho, ap⟩ := ts_own cl (disT_inv e)
        have hq : p ∉ fq := fun h => by obtain ⟨o, h'⟩ := ho.has p h; rw [hp] at h'; cases h'
        exact sat_own R hp ap hq (.tup upd_same (ho.frame (.refl F) (.refl L) fun q hq' => upd_ne (fun h => hq (h ▸ hq')))) s
    | false =>
      simp only at s
      cases e : disD rs with
      | none => rw [e] at s; exact s.elim
      | some xs =>
        rw [e] at s
        obtain ⟨ts, e1, e2⟩ := disD_inv e
        obtain ⟨fq, ho, ap⟩ := ts_own cl e1
        obtain ⟨le, R2, hx⟩ := R.freezeAll ho ap e2
        exact sat_tup R2 hp hx (Sat.step le s)
theorem Snd.lst {ta : TA} {fa : G → Out (List R)} {o : Bool} (ha : Snd Z L W kRs ta fa) : Snd Z L W kR (tLst ta) (fun g => (fa g).bind (lstR o)) := by
  refine Snd.bind (k2 := kR) (t2 := fun xs σ H1 Q => xs.length ≤ sizeLine ∧ ∀ p, H1 p = none → Q (.ref p) (upd H1 p (.lst xs))) ha fun {B F fp g σ H vs rs Q} R _ cl s => ?_
  have cl : Cls Z L B F fp σ H vs rs := cl
  unfold lstR at s
  split at s
  · exact s.elim
  · rename_i hn
    refine ⟨by rw [cl.len]; exact sz10 hn, fun p hp => ?_⟩
    cases o with
    | true =>
      simp only at s
      cases e : disT rs with
      | none => rw [e] at s; exact s.elim
      | some ts =>
        rw [e] at s
        obtain ⟨fq, ho, ap⟩ := ts_own cl (disT_inv e)
        have hq : p ∉ fq := fun h => by obtain ⟨o, h'⟩ := ho.has p h; rw [hp] at h'; cases h'
        exact sat_own R hp ap hq (.lst upd_same (ho.frame (.refl F) (.refl L) fun q hq' => upd_ne (fun h => hq (h ▸ hq')))) s
    | false =>
      simp only at s
      cases e : disD rs with
      | none => rw [e] at s; exact s.elim
      | some xs =>
        rw [e] at s
        obtain ⟨ts, e1, e2⟩ := disD_inv e
        obtain ⟨fq, ho, ap⟩ := ts_own cl e1
        obtain ⟨le, R2, hx⟩ := R.freezeAll ho ap e2
        exact sat_list (o := false) R2 hp hx (Sat.step le s)
end
end Wh

/-! Wh, part 8: subscripts, slices, fields, built-ins, mutations. -/
namespace Wh
open PySem L2
section
variable {Z : Ctx} {L B F H : Hp} {fp : Nat → List Addr} {g : G} {σ : L2.St} {W : WX}

theorem atI_ix {α : Type} {xs : List α} {j : Int} {k : Nat} {x : α} (h : ixN xs.length j = some k) (e : xs[k]? = some x) : atI xs j = some x := by
  unfold atI; rw [h]; exact e
theorem ix_of {α : Type} {xs : List α} {j : Int} {x : α} (h : atI xs j = some x) : ∃ k, ixN xs.length j = some k ∧ xs[k]? = some x := by
  unfold atI at h
  cases e : ixN xs.length j with
  | none => rw [e] at h; cases h
  | some k => rw [e] at h; exact ⟨k, rfl, h⟩
theorem IsAll.at {vs : List V} {xs : List D} {j : Int} {x : D} (h : IsAll Z F vs xs) (e : atI xs j = some x) : ∃ w, atI vs j = some w ∧ Is Z F w x := by
  obtain ⟨k, h1, h2⟩ := ix_of e
  obtain ⟨w, h3, h4⟩ := h.get h2
  exact ⟨w, atI_ix (by rw [h.length]; exact h1) h3, h4⟩
theorem Own.kids (sL : Sub L H) {v : V} {t : T} {fq : List Addr} {ts : List T} (h : Own Z L F H v t fq) (e : t.kids = some ts) : ∃ p o vs fk, v = .ref p ∧ H p = some o ∧ kidsV o = some vs ∧ OwnAll Z L F H vs ts fk ∧ (∀ q ∈ fk, q ∈ fq) ∧
    ((∃ b, t = .lst b ts ∧ o = .lst vs) ∨ (∃ b, t = .tup b ts ∧ o = .tup vs) ∨ (∃ b ks, t = .dk b ks ts ∧ o = .dK (ks.zip vs) ∧ ks.length = vs.length) ∨ ∃ b c dx ns, t = .obj b c ns ts ∧ o = .ins (Z.ca c) dx (ns.zip vs) ∧ ns.length = vs.length) := by
  cases h with
  | lst h a => cases e; exact ⟨_, _, _, _, rfl, h, rfl, a, fun q hq => by simp [hq], .inl ⟨_, rfl, rfl⟩⟩
  | lstb h a => cases e; exact ⟨_, _, _, _, rfl, sL _ _ h, rfl, a, fun q hq => by simp at hq, .inl ⟨_, rfl, rfl⟩⟩
  | tup h a => cases e; exact ⟨_, _, _, _, rfl, h, rfl, a, fun q hq => by simp [hq], .inr (.inl ⟨_, rfl, rfl⟩)⟩
  | tupb h a => cases e; exact ⟨_, _, _, _, rfl, sL _ _ h, rfl, a, fun q hq => by simp at hq, .inr (.inl ⟨_, rfl, rfl⟩)⟩
  | dk h l a => cases e; exact ⟨_, _, _, _, rfl, h, by simp only [kidsV]; rw [List.map_snd_zip (by omega)], a, fun q hq => by simp [hq], .inr (.inr (.inl ⟨_, _, rfl, rfl, l⟩))⟩
  | dkb h l a => cases e; exact ⟨_, _, _, _, rfl, sL _ _ h, by simp only [kidsV]; rw [List.map_snd_zip (by omega)], a, fun q hq => by simp at hq, .inr (.inr (.inl ⟨_, _, rfl, rfl, l⟩))⟩
  | obj h l a => cases e; exact ⟨_, _, _, _, rfl, h, by simp only [kidsV]; rw [List.map_snd_zip (by omega)], a, fun q hq => by simp [hq], .inr (.inr (.inr ⟨_, _, _, _, rfl, rfl, l⟩))⟩
  | objb h l a => cases e; exact ⟨_, _, _, _, rfl, sL _ _ h, by simp only [kidsV]; rw [List.map_snd_zip (by omega)], a, fun q hq => by simp at hq, .inr (.inr (.inr ⟨_, _, _, _, rfl, rfl, l⟩))⟩
  | d h => simp [T.kids] at e
  | scr h => simp [T.kids] at e
  | xo _ _ _ => simp [T.kids] at e
  | un => simp [T.kids] at e
/-- a kid of a result -/
theorem kid_sat {va : V} {ra r : R} {ts : List T} {k : Nat} {p : Addr} {o : HO} {vs : List V} {fk : List Addr} {w : V} {Q : V → Hp → Prop} (R : Rel Z L B F fp g σ H) (pa : Pls σ H [va] [ra]) (ev : va = .ref p) (hp : H p = some o) (hk : kidsV o = some vs) (ho : OwnAll Z L F H vs ts fk)
    (e : kidR ra ts k = some r) (hw : vs[k]? = some w) (s : Sat Z L W kR B F σ (.ok r g) Q) : Q w H := by
  unfold kidR at e
  cases et : ts[k]? with
  | none => rw [et] at e; cases e
  | some u =>
    rw [et] at e
    obtain ⟨w', fu, h1, h2, _⟩ := ho.get et
    rw [hw] at h1
    simp only [Option.some.injEq] at h1
    subst h1
    have place : stepR ra k = some r → Q w H := fun e => by
      cases ra with
      | p i q =>
        simp only [stepR, Option.some.injEq] at e
        subst e
        cases pa with
        | p e0 pv h =>
          subst ev
          exact s w F fp H (.refl B F) R trivial ⟨.p e0 (pv.snoc hp hk hw) .nil, [], .nil, .nil⟩
      | _ => cases e
    cases u with
    | d x =>
      simp only [Option.some.injEq] at e
      subst e
      cases h2 with
      | d h => exact sat_data R h s
    | un => cases e
    | _ => exact place e
theorem lift_sat {α β : Type} {k : Kd α β} {o : Option α} {Q : β → Hp → Prop} (s : Sat Z L W k B F σ (lift o g) Q) : ∃ a, o = some a ∧ Sat Z L W k B F σ (.ok a g) Q := by
  cases o with
  | none => exact s.elim
  | some a => exact ⟨a, rfl, s⟩
theorem idx_inv {f : R → T → D → Option R} {ra ri : R} {Q : V → Hp → Prop} (s : Sat Z L W kR B F σ (match ra.tree g, ri with | some t, .t (.d j) => lift (f ra t j) g | _, _ => .bad) Q) :
    ∃ t j r, ra.tree g = some t ∧ ri = .t (.d j) ∧ f ra t j = some r ∧ Sat Z L W kR B F σ (.ok r g) Q := by
  cases e : ra.tree g with
  | none => rw [e] at s; exact s.elim
  | some t =>
    rw [e] at s
    cases ri with
    | t u =>
      cases u with
      | d j =>
        obtain ⟨r, h1, h2⟩ := lift_sat s
        exact ⟨t, j, r, rfl, rfl, h1, h2⟩
      | _ => exact s.elim
    | _ => exact s.elim
theorem two_idx {K : PySem.W.Frag} (hK : K = Z.K) : Two Z L W (rIx K) idxO := by
  subst hK
  intro B F fp g σ H va vb ra rb f1 f2 Q R pa pb ha hb ap s
  obtain ⟨t, j, r, et, rfl, ei, s2⟩ := idx_inv (f := idxR) s
  clear s
  obtain ⟨fu, ho⟩ := pa.own R ha et
  have hj := data_inv R (⟨pb, f2, hb, ap.right⟩ : Cls Z L B F fp σ H [vb] [.t (.d j)])
  cases ho with
  | d h =>
    cases h with
    | lst h a =>
      cases hj with
      | int i =>
        obtain ⟨x, h1, h2⟩ := map_some (show (atI _ i).map (fun x => Wh.R.t (.d x)) = some r from ei)
        subst h2
        obtain ⟨w, h3, h4⟩ := a.at h1
        exact .inl ⟨_, _, i, w, rfl, rfl, .of (R.sF _ _ h), h3, sat_data R h4 s2⟩
      | _ => cases ei
    | tup h a =>
      cases hj with
      | int i =>
        obtain ⟨x, h1, h2⟩ := map_some (show (atI _ i).map (fun x => Wh.R.t (.d x)) = some r from ei)
        subst h2
        obtain ⟨w, h3, h4⟩ := a.at h1
        exact .inr (.inl ⟨_, _, i, w, rfl, rfl, R.sF.sqt h, h3, sat_data R h4 s2⟩)
      | _ => cases ei
    | str z =>
      cases hj with
      | int i =>
        have ei' : (if z.length ≤ sizeLine then (atI z.cps.toList i).map (fun c => Wh.R.t (.d (.str ⟨#[c]⟩))) else none) = some r := ei
        split at ei'
        · rename_i hl
          obtain ⟨c, h1, h2⟩ := map_some ei'
          subst h2
          exact .inr (.inr ⟨z, i, c, rfl, rfl, hl, h1, sat_data R (.str _) s2⟩)
        · cases ei'
      | _ => cases ei
    | _ => cases hj <;> cases ei
  | scr h =>
    cases hj with
    | int i =>
      obtain ⟨n, h1, h2⟩ := map_some (show (atI _ i).map (fun n => Wh.R.t (.d (.int n))) = some r from ei)
      subst h2
      obtain ⟨k, h3, h4⟩ := ix_of h1
      refine .inl ⟨_, _, i, .int n, rfl, rfl, R.sLH.sql h, atI_ix (k := k) (by simpa using h3) (by simp [h4]), sat_data R (.int _) s2⟩
    | _ => cases ei
  | un => cases hj <;> cases ei
  | xo _ _ _ => cases hj <;> cases ei
  | dk h l a => cases hj <;> cases ei
  | dkb h l a => cases hj <;> cases ei
  | obj h l a => cases hj <;> cases ei
  | objb h l a => cases hj <;> cases ei
  | lst h a =>
    cases hj with
    | int i =>
      have ei' : (match ixN _ i with | some k => kidR ra _ k | none => none) = some r := ei
      split at ei'
      · rename_i k hk
        rw [← a.length] at hk
        obtain ⟨w, hw⟩ : ∃ w, _ = some w := ⟨_, List.getElem?_eq_getElem (ixN_seq hk).2.1⟩
        exact .inl ⟨_, _, i, w, rfl, rfl, .of h, atI_ix hk hw, kid_sat R pa rfl h rfl a ei' hw s2⟩
      · cases ei'
    | _ => cases ei
  | lstb h a =>
    cases hj with
    | int i =>
      have ei' : (match ixN _ i with | some k => kidR ra _ k | none => none) = some r := ei
      split at ei'
      · rename_i k hk
        rw [← a.length] at hk
        obtain ⟨w, hw⟩ : ∃ w, _ = some w := ⟨_, List.getElem?_eq_getElem (ixN_seq hk).2.1⟩
        exact .inl ⟨_, _, i, w, rfl, rfl, .of (R.sLH _ _ h), atI_ix hk hw, kid_sat R pa rfl (R.sLH _ _ h) rfl a ei' hw s2⟩
      · cases ei'
    | _ => cases ei
  | tup h a =>
    cases hj with
    | int i =>
      have ei' : (match ixN _ i with | some k => kidR ra _ k | none => none) = some r := ei
      split at ei'
      · rename_i k hk
        rw [← a.length] at hk
        obtain ⟨w, hw⟩ : ∃ w, _ = some w := ⟨_, List.getElem?_eq_getElem (ixN_seq hk).2.1⟩
        exact .inr (.inl ⟨_, _, i, w, rfl, rfl, .of h, atI_ix hk hw, kid_sat R pa rfl h rfl a ei' hw s2⟩)
      · cases ei'
    | _ => cases ei
  | tupb h a =>
    cases hj with
    | int i =>
      have ei' : (match ixN _ i with | some k => kidR ra _ k | none => none) = some r := ei
      split at ei'
      · rename_i k hk
        rw [← a.length] at hk
        obtain ⟨w, hw⟩ : ∃ w, _ = some w := ⟨_, List.getElem?_eq_getElem (ixN_seq hk).2.1⟩
        exact .inr (.inl ⟨_, _, i, w, rfl, rfl, .of (R.sLH _ _ h), atI_ix hk hw, kid_sat R pa rfl (R.sLH _ _ h) rfl a ei' hw s2⟩)
      · cases ei'
    | _ => cases ei
/-- a place in two lists -/
theorem pos_zip {α β : Type} [DecidableEq α] [BEq α] [LawfulBEq α] {ks : List α} {vs : List β} {k : α} {n : Nat} {v : β} (h : posOf ks k = some n) (e : vs[n]? = some v) (hl : ks.length = vs.length) : (ks.zip vs).lookup k = some v := by
  induction ks generalizing vs n with
  | nil => cases h
  | cons x ks ih =>
    cases vs with
    | nil => simp at hl
    | cons w vs =>
      unfold posOf at h
      rw [List.zip_cons_cons, List.lookup_cons]
      by_cases hx : x = k
      · rw [if_pos hx] at h
        simp only [Option.some.injEq] at h
        subst h hx
        simp at e
        simp [e]
      · rw [if_neg hx] at h
        obtain ⟨m, h1, h2⟩ := map_some h
        subst h2
        have hb : (k == x) = false := by
          rw [beq_eq_false_iff_ne]
          exact fun h => hx h.symm
        rw [hb]
        exact ih h1 (by simpa using e) (by simpa using hl)
theorem pos_lt {α : Type} [DecidableEq α] {ks : List α} {k : α} {n : Nat} (h : posOf ks k = some n) : n < ks.length := by
  induction ks generalizing n with
  | nil => cases h
  | cons x ks ih =>
    unfold posOf at h
    by_cases hx : x = k
    · rw [if_pos hx] at h
      simp only [Option.some.injEq] at h
      subst h; simp
    · rw [if_neg hx] at h
      obtain ⟨m, h1, h2⟩ := map_some h
      subst h2
      have := ih h1
      simp; omega
/-- a field -/
theorem one_att {K : PySem.W.Frag} (hK : K = Z.K) {c : Nat} {f : Str} (hc : L2.Cls K (Z.ca c)) (hn : NoAttr K (Z.ca c) f) : One Z L W (fun x H1 Q => ∃ a C dx fs v, x = .ref a ∧ H1 a = some (.ins C dx fs) ∧ L2.Cls K C ∧ NoAttr K C f ∧ fs.lookup f = some v ∧ Q v H1) (attO c f) := by
  subst hK
  intro B F fp g σ H v r1 Q R cl s
  unfold attO at s
  cases et : r1.tree g with
  | none => rw [et] at s; exact s.elim
  | some t =>
    rw [et] at s
    obtain ⟨r, e, s2⟩ := lift_sat s
    clear s
    obtain ⟨fu, ho⟩ := Cl.own R cl et
    have own : ∀ {ts : List T} {ns : List Str} {b : Bool} {c' : Nat}, t = .obj b c' ns ts → ∃ a C dx fs w, v = .ref a ∧ H a = some (.ins C dx fs) ∧ L2.Cls Z.K C ∧ NoAttr Z.K C f ∧ fs.lookup f = some w ∧ Q w H := by
      intro ts ns b c' et
      subst et
      have e' : (if c = c' then (match posOf ns f with | some n => kidR r1 ts n | none => none) else none) = some r := e
      split at e'
      · rename_i hcc
        subst hcc
        cases ep : posOf ns f with
        | none => rw [ep] at e'; cases e'
        | some n =>
          rw [ep] at e'
          obtain ⟨p, o, vs, fk, rfl, hp, hk, ha, _, hx⟩ := ho.kids R.sLH (ts := ts) rfl
          rcases hx with ⟨b, h, _⟩ | ⟨b, h, _⟩ | ⟨b, ks, h, _⟩ | ⟨b, c2, dx, ns2, h, ho2, hl⟩
          · cases h
          · cases h
          · cases h
          · cases h
            have hlt : n < vs.length := by rw [← hl]; exact pos_lt ep
            have hw : vs[n]? = some vs[n] := List.getElem?_eq_getElem hlt
            exact ⟨p, Z.ca c, dx, _, vs[n], rfl, by rw [hp, ho2], hc, hn, pos_zip ep hw hl, kid_sat R cl.1 rfl hp hk ha e' hw s2⟩
      · cases e'
    cases t with
    | obj b c' ns ts => exact own rfl
    | d x =>
      cases ho with
      | d h =>
        cases h with
        | @obj p dx c' ns vs xs h hl a =>
          have e' : (if c = c' then (match posOf ns f with | some n => (xs[n]?).map (fun x => Wh.R.t (.d x)) | none => none) else none) = some r := e
          split at e'
          · rename_i hcc
            subst hcc
            cases ep : posOf ns f with
            | none => rw [ep] at e'; cases e'
            | some n =>
              rw [ep] at e'
              obtain ⟨x, h1, h2⟩ := map_some e'
              subst h2
              obtain ⟨w, h3, h4⟩ := a.get h1
              exact ⟨p, Z.ca c, dx, _, w, rfl, R.sF _ _ h, hc, hn, pos_zip ep h3 hl, sat_data R h4 s2⟩
          · cases e'
        | _ => cases e
    | _ => cases e

/-! ### slices -/
theorem cutD_all {vs : List V} {xs : List D} {lo hi : Option Int} (h : IsAll Z F vs xs) : IsAll Z F (cutV vs lo hi) (cutD xs lo hi) := by
  unfold cutV cutD
  rw [h.length]
  have take : ∀ {n : Nat} {vs : List V} {xs : List D}, IsAll Z F vs xs → IsAll Z F (vs.take n) (xs.take n) := by
    intro n
    induction n with
    | zero => intro vs xs h; simp; exact .nil
    | succ n ih =>
      intro vs xs h
      cases h with
      | nil => exact .nil
      | cons a b => exact .cons a (ih b)
  have drop : ∀ {n : Nat} {vs : List V} {xs : List D}, IsAll Z F vs xs → IsAll Z F (vs.drop n) (xs.drop n) := by
    intro n
    induction n with
    | zero => intro vs xs h; exact h
    | succ n ih =>
      intro vs xs h
      cases h with
      | nil => exact .nil
      | cons a b => exact ih b
  exact take (drop h)
theorem ints_all {ns : List Int} : IsAll Z F (ns.map V.int) (ns.map D.int) := by
  induction ns with
  | nil => exact .nil
  | cons n ns ih => exact .cons (.int n) ih
theorem cut_map {α β : Type} (f : α → β) (xs : List α) (lo hi : Option Int) : cutD (xs.map f) lo hi = (cutD xs lo hi).map f := by
  unfold cutD; simp [List.map_drop, List.map_take]
theorem cutV_D (xs : List V) (lo hi : Option Int) : cutV xs lo hi = cutD xs lo hi := rfl
theorem slT_sat {K : PySem.W.Frag} (hK : K = Z.K) {va : V} {t u : T} {lo hi : Option Int} {o : Bool} {fu : List Addr} {Q : V → Hp → Prop} (R : Rel Z L B F fp g σ H) (ho : Own Z L F H va t fu) (e : slT o t lo hi = some u) (s : Sat Z L W kR B F σ (.ok (.t u) g) Q) : rSlL K va lo hi H Q := by
  subst hK
  have gen : ∀ {x : D}, t.sh = some x → (match (some x : Option D) with | some (.lst xs) => some (mkl o (cutD xs lo hi)) | _ => none) = some u → rSlL Z.K va lo hi H Q := by
    intro x e1 e2
    cases x with
    | lst xs =>
      simp only [Option.some.injEq] at e2
      subst e2
      obtain ⟨p, vs, rfl, hp, ha⟩ := ho.sh R.sF R.sLH e1
      exact ⟨p, vs, rfl, .of hp, fun q hq => sat_list R hq (cutD_all ha) s⟩
    | _ => cases e2
  cases t with
  | scr ns =>
    have e' : some (mkl o ((cutD ns lo hi).map .int)) = some u := e
    simp only [Option.some.injEq] at e'
    subst e'
    cases ho with
    | scr h =>
      refine ⟨_, _, rfl, R.sLH.sql h, fun q hq => sat_list R hq ?_ s⟩
      rw [cutV_D, cut_map]
      exact ints_all
  | d x => exact gen (x := x) rfl e
  | lst b ts =>
    have e' : (match T.sh (.lst b ts) with | some (.lst xs) => some (mkl o (cutD xs lo hi)) | _ => none) = some u := e
    cases es : T.sh (.lst b ts) with
    | none => rw [es] at e'; cases e'
    | some x => rw [es] at e'; exact gen es e'
  | tup b ts =>
    have e' : (match T.sh (.tup b ts) with | some (.lst xs) => some (mkl o (cutD xs lo hi)) | _ => none) = some u := e
    cases es : T.sh (.tup b ts) with
    | none => rw [es] at e'; cases e'
    | some x => rw [es] at e'; exact gen es e'
  | _ => cases e
theorem Snd.bnd {ta : TE} {fa : G → Out R} (ha : Snd Z L W kR ta fa) : Snd Z L W kO (tPart ta) (fun g => (fa g).bind bndR) := by
  refine Snd.bind (k2 := kO) (t2 := fun x σ H1 Q => ∃ i, x = .int i ∧ Q (some i) H1) ha fun {B F fp g σ H v r Q} R _ cl s => ?_
  cases r with
  | t t =>
    cases t with
    | d x =>
      cases x with
      | int i =>
        have e := int_inv R cl
        subst e
        exact ⟨i, rfl, s (some i) F fp H (.refl B F) R rfl ⟨.nil, [], .nil, .nil⟩⟩
      | _ => exact s.elim
    | _ => exact s.elim
  | _ => exact s.elim
theorem snd_noPart : Snd Z L W kO tNoPart (fun g => .ok none g) := fun B F fp g σ H Q R s => s none F fp H (.refl B F) R rfl ⟨.nil, [], .nil, .nil⟩
theorem Snd.slice {K : PySem.W.Frag} (hK : K = Z.K) {ta : TE} {tl th : TO} {fa : G → Out R} {fl fh : G → Out (Option Int)} {o : Bool} (ha : Snd Z L W kR ta fa) (hl : Snd Z L W kO tl fl) (hh : Snd Z L W kO th fh) :
    Snd Z L W kR (tSl (rSlL K) ta tl th) (fun g => (fa g).bind fun ra g1 => (under ra g1 fl).bind fun l g2 => (under ra g2 fh).bind fun u g3 => slO o ra l u g3) := by
  refine Snd.bind (k2 := kR) (t2 := fun x σ H1 Q => tl σ H1 fun l H2 => th σ H2 fun u H3 => rSlL K x l u H3 Q) ha fun {B F fp g σ H v r Q} R _ cl s => ?_
  obtain ⟨pl, fq, ho, ap⟩ := cl
  refine hl.keep R pl ho ap ?_
  cases e : under r g fl with
  | bad => rw [e] at s; exact s
  | ex x g' => rw [e] at s; exact s
  | ok l g' =>
    rw [e] at s
    intro l' F' fp' H' le R' pr _ pl' ⟨f2, ho2, ap2⟩
    have pr : l' = l := pr
    subst pr
    simp only [Out.bind_ok] at s
    have ho2' : OwnAll Z L F' H' (exV [v] [r]) (exT [r]) (fq ++ f2) := by
      have h0 : OwnAll Z L F' H' (exV [v] [r] ++ []) (exT [r] ++ []) (fq ++ f2) := ho2
      rw [List.append_nil, List.append_nil] at h0
      exact h0
    refine hh.keep R' pl' ho2' ap2 ?_
    cases e3 : under r g' fh with
    | bad => rw [e3] at s; exact s
    | ex x g3 => rw [e3] at s; exact Sat.step le s
    | ok u g3 =>
      rw [e3] at s
      intro u' F3 fp3 H3 le3 R3 pr3 _ pl3 ⟨f3, ho3, ap3⟩
      have pr3 : u' = u := pr3
      subst pr3
      simp only [Out.bind_ok, slO] at s
      have ho3' : OwnAll Z L F3 H3 (exV [v] [r]) (exT [r]) (fq ++ f2 ++ f3) := by
        have h0 : OwnAll Z L F3 H3 (exV [v] [r] ++ []) (exT [r] ++ []) (fq ++ f2 ++ f3) := ho3
        rw [List.append_nil, List.append_nil] at h0
        exact h0
      cases et : Wh.R.tree g3 r with
      | none => rw [et] at s; exact s.elim
      | some t =>
        rw [et] at s
        obtain ⟨a, e4, s⟩ := lift_sat s
        obtain ⟨w, e5, e6⟩ := map_some e4
        subst e6
        obtain ⟨fu, how⟩ := pl3.own R3 ho3' et
        exact slT_sat hK R3 how e5 (Sat.step (le.trans le3) s)
end
end Wh

/-! Wh, part 9: mutations. -/
namespace Wh
open PySem L2
section
variable {Z : Ctx} {L B F H : Hp} {fp : Nat → List Addr} {g : G} {σ : L2.St} {W : WX}

theorem sub_upd {F H : Hp} (s : Sub F H) {p : Addr} {o : HO} (h : F p = none) : Sub F (upd H p o) := fun a u e => by
  rw [upd_ne (ne_of_none e h)]; exact s a u e
/-- an owned object at a place is written -/
theorem Rel.mut (R : Rel Z L B F fp g σ H) {i : Nat} {q : List Nat} {v0 : V} {p : Addr} {t u u' : T} {o' : HO} {fq : List Addr} (e0 : σ[i]? = some (some v0)) (pv : PathV H v0 q (.ref p)) (eg : g[i]? = some t) (el : t.look q = some u) (ap : Apart B F fp fq)
    (own : ∀ fu, Own Z L F H (.ref p) u fu → fu.Nodup → (∀ x ∈ fu, x ∉ fq) → ∃ fk fk', fu = p :: fk ∧ Own Z L F (L2.upd H p o') (.ref p) u' (p :: fk') ∧ (p :: fk').Nodup ∧ ∀ x ∈ fk', x ∈ fk ∨ x ∈ fq) :
    ∃ fp', Rel Z L B F fp' (g.set i (t.put q u')) σ (L2.upd H p o') := by
  rcases R.sl i t eg with ⟨eun, _⟩ | ⟨w, ew, how⟩
  · subst eun
    cases q with
    | nil =>
      simp only [T.look, Option.some.injEq] at el
      subst el
      obtain ⟨_, _, h, _⟩ := own [] .un .nil (by simp)
      cases h
    | cons k q => simp [T.look, T.kids] at el
  · rw [e0] at ew
    simp only [Option.some.injEq] at ew
    subst ew
    obtain ⟨fu, rest, hperm, hu, hput⟩ := how.place R.sLH q el pv
    have nd := (hperm.nodup_iff).mp (R.nd i)
    obtain ⟨nd1, nd2, nd3⟩ := List.nodup_append.mp nd
    have sub : ∀ x ∈ fu, x ∈ fp i := fun x hx => hperm.mem_iff.mpr (by simp [hx])
    have subr : ∀ x ∈ rest, x ∈ fp i := fun x hx => hperm.mem_iff.mpr (by simp [hx])
    obtain ⟨fk, fk', e1, hn, hnd, hsub⟩ := own fu hu nd1 fun x hx h => ap.no x h i (sub x hx)
    subst e1
    have hp : p ∈ fp i := sub p (by simp)
    obtain ⟨hpF, hpB⟩ := R.dj i p hp
    have pr : p ∉ rest := fun h => nd3 p (by simp) p h rfl
    obtain ⟨fi, hfi, hoi⟩ := hput (by simp) (.refl F) (fun x hx => upd_ne (by intro e; subst e; exact pr hx)) hn
    have fiIn : ∀ x ∈ fi, x ∈ fp i ∨ x ∈ fq := fun x hx => by
      rcases List.mem_append.mp (hfi.mem_iff.mp hx) with h | h
      · rcases List.mem_cons.mp h with h | h
        · subst h; exact .inl hp
        · rcases hsub x h with h | h
          · exact .inl (sub x (by simp [h]))
          · exact .inr h
      · exact .inl (subr x h)
    refine ⟨upf fp i fi, ⟨by simpa using R.ls, fun j w ew => ?_, fun j hj => ?_, sub_upd R.sF hpF, sub_upd R.sB hpB, R.sL, fun j => ?_, fun j k hjk x hx => ?_, fun j x hx => ?_⟩⟩
    · by_cases h : j = i
      · subst h
        rw [List.getElem?_set_self'] at ew
        rw [eg] at ew
        simp at ew
        subst ew
        exact .inr ⟨v0, e0, by rw [upf_same]; exact hoi⟩
      · rw [List.getElem?_set_ne (Ne.symm h)] at ew
        rw [upf_ne h]
        rcases R.sl j w ew with h1 | ⟨v, h1, h2⟩
        · exact .inl h1
        · exact .inr ⟨v, h1, h2.frame (.refl F) (.refl L) fun x hx => upd_ne fun e => R.ds j i h x hx (e ▸ hp)⟩
    · by_cases h : j = i
      · subst h
        have : j < g.length := (List.getElem?_eq_some_iff.mp eg).1
        simp at hj; omega
      · rw [upf_ne h]; exact R.out j (by simpa using hj)
    · by_cases h : j = i
      · subst h
        rw [upf_same]
        refine hfi.nodup_iff.mpr (List.nodup_append.mpr ⟨hnd, nd2, fun x hx y hy e => ?_⟩)
        subst e
        rcases List.mem_cons.mp hx with h | h
        · subst h; exact pr hy
        · rcases hsub x h with h | h
          · exact nd3 x (by simp [h]) x hy rfl
          · exact ap.no x h j (subr x hy)
      · rw [upf_ne h]; exact R.nd j
    · by_cases h : j = i
      · subst h
        rw [upf_same] at hx
        rw [upf_ne (Ne.symm hjk)]
        rcases fiIn x hx with h | h
        · exact R.ds j k hjk x h
        · exact ap.no x h k
      · rw [upf_ne h] at hx
        by_cases h' : k = i
        · subst h'
          rw [upf_same]
          intro hh
          rcases fiIn x hh with h2 | h2
          · exact R.ds j k hjk x hx h2
          · exact ap.no x h2 j hx
        · rw [upf_ne h']; exact R.ds j k hjk x hx
    · by_cases h : j = i
      · subst h
        rw [upf_same] at hx
        rcases fiIn x hx with h | h
        · exact R.dj j x h
        · exact ap.dj x h
      · rw [upf_ne h] at hx; exact R.dj j x hx
/-- the same by a result that is a place -/
theorem Rel.mutR (R : Rel Z L B F fp g σ H) {va : V} {ra : Wh.R} {u u' : T} {g2 : G} {fq : List Addr} (pa : Pls σ H [va] [ra]) (et : ra.tree g = some u) (ep : putR g ra u' = some g2) (ap : Apart B F fp fq) {o' : HO} {p : Addr} (ev : va = .ref p)
    (own : ∀ fu, Own Z L F H (.ref p) u fu → fu.Nodup → (∀ x ∈ fu, x ∉ fq) → ∃ fk fk', fu = p :: fk ∧ Own Z L F (L2.upd H p o') (.ref p) u' (p :: fk') ∧ (p :: fk').Nodup ∧ ∀ x ∈ fk', x ∈ fk ∨ x ∈ fq) :
    ∃ fp', Rel Z L B F fp' g2 σ (L2.upd H p o') := by
  subst ev
  cases pa with
  | t h => simp [putR] at ep
  | m _ h => simp [putR] at ep
  | @p _ v0 _ i q _ e0 pv h =>
    replace ep : (match g[i]? with | some t => some (g.set i (t.put q u')) | none => none) = some g2 := ep
    cases eg : g[i]? with
    | none => rw [eg] at ep; cases ep
    | some t =>
      rw [eg] at ep
      simp only [Option.some.injEq] at ep
      subst ep
      have el : t.look q = some u := by
        have et2 : (match g[i]? with | some u => u.look q | none => none) = some u := et
        rw [eg] at et2; exact et2
      exact R.mut e0 pv eg el ap own
theorem OwnAll.erase {vs : List V} {ts : List T} {fk : List Addr} {k : Nat} {x : D} (h : OwnAll Z L F H vs ts fk) (e : ts[k]? = some (.d x)) : OwnAll Z L F H (vs.eraseIdx k) (ts.eraseIdx k) fk := by
  induction ts generalizing vs fk k with
  | nil => simp at e
  | cons t ts ih =>
    cases h with
    | cons a b =>
      cases k with
      | zero =>
        simp at e
        subst e
        cases a with
        | d a => simpa using b
      | succ k =>
        have := OwnAll.cons a (ih b (by simpa using e))
        simpa using this
theorem sz7 {n : Nat} (h : n < 10000000) : n < sizeLine := by rw [sizeLine_eq]; omega

/-! ### append, pop -/
theorem two_app {K : PySem.W.Frag} (hK : K = Z.K) : Two Z L W (fun x y H Q => tyV K "list" x H ∧ rAppend x [y] H Q) appO := by
  subst hK
  intro B F fp g σ H va vb ra rb f1 f2 Q R pa pb ha hb ap s
  unfold appO at s
  cases et : ra.tree g with
  | none => rw [et] at s; exact s.elim
  | some t =>
    rw [et] at s
    cases t with
    | lst b ts =>
      cases b with
      | true =>
        cases rb with
        | t u =>
          simp only at s
          split at s
          · rename_i hl
            cases ep : putR g ra (.lst true (ts ++ [u])) with
            | none => rw [ep] at s; exact s.elim
            | some g3 =>
              rw [ep] at s
              obtain ⟨fu, ho⟩ := pa.own R ha et
              cases ho with
              | @lst p vs _ fk h a =>
                cases hb with
                | @cons _ _ _ _ fb _ hb0 hb1 =>
                  cases hb1
                  have apq : Apart B F fp fb := by
                    have := ap.right
                    simpa using this
                  obtain ⟨fp', R'⟩ := R.mutR pa et ep apq (o' := .lst (vs ++ [vb])) (p := p) rfl fun fu how hnd hno => by
                    cases how with
                    | @lst _ vs' _ fk' h' a' =>
                      rw [h] at h'
                      cases h'
                      have hpk : p ∉ fk' := (List.nodup_cons.mp hnd).1
                      have hpq : p ∉ fb := hno p (by simp)
                      have a2 : OwnAll Z L F (L2.upd H p (.lst (vs ++ [vb]))) vs ts fk' := a'.frame (.refl F) (.refl L) fun x hx => upd_ne fun e => hpk (e ▸ hx)
                      have b2 : Own Z L F (L2.upd H p (.lst (vs ++ [vb]))) vb u fb := hb0.frame (.refl F) (.refl L) fun x hx => upd_ne fun e => hpq (e ▸ hx)
                      refine ⟨fk', fk' ++ fb, rfl, .lst upd_same (a2.append (OwnAll.one b2)), ?_, fun x hx => by simpa using hx⟩
                      refine List.nodup_cons.mpr ⟨by simp [hpk, hpq], List.nodup_append.mpr ⟨(List.nodup_cons.mp hnd).2, apq.nd, fun x hx y hy e => ?_⟩⟩
                      subst e
                      exact hno x (by simp [hx]) hy
                  refine ⟨.inl ⟨rfl, vs, .of h⟩, p, vs, vb, rfl, rfl, h, by rw [a.length]; exact sz7 hl, ?_⟩
                  exact s .non F fp' _ (.refl B F) R' trivial (.data .non)
          · exact s.elim
        | _ => exact s.elim
      | false => cases rb <;> exact s.elim
    | _ => cases rb <;> exact s.elim
theorem one_pop {K : PySem.W.Frag} (hK : K = Z.K) : One Z L W (fun x H Q => tyV K "list" x H ∧ rPop x [] H Q) popO := by
  subst hK
  intro B F fp g σ H va ra Q R cl s
  obtain ⟨pa, fq0, ha, ap⟩ := cl
  unfold popO at s
  cases et : ra.tree g with
  | none => rw [et] at s; exact s.elim
  | some t =>
    rw [et] at s
    cases t with
    | lst b ts =>
      cases b with
      | false => exact s.elim
      | true =>
        simp only at s
        cases el : ts.getLast? with
        | none => rw [el] at s; exact s.elim
        | some w =>
          rw [el] at s
          cases w with
          | d x =>
            cases ep : putR g ra (.lst true ts.dropLast) with
            | none => rw [ep] at s; exact s.elim
            | some g2 =>
              rw [ep] at s
              obtain ⟨fu, ho⟩ := pa.own R ha et
              cases ho with
              | @lst p vs _ fk h a =>
                have hk : ts[ts.length - 1]? = some (.d x) := by rw [← List.getLast?_eq_getElem?]; exact el
                have ed : ts.dropLast = ts.eraseIdx (ts.length - 1) := by rw [List.eraseIdx_eq_dropLast]; have := (List.getElem?_eq_some_iff.mp hk).1; omega
                have edv : vs.dropLast = vs.eraseIdx (ts.length - 1) := by rw [← a.length, List.eraseIdx_eq_dropLast]; have := (List.getElem?_eq_some_iff.mp hk).1; rw [a.length]; omega
                obtain ⟨fp', R'⟩ := R.mutR (fq := []) pa et ep .nil (o' := .lst vs.dropLast) (p := p) rfl fun fu how hnd hno => by
                  cases how with
                  | @lst _ vs' _ fk' h' a' =>
                    rw [h] at h'
                    cases h'
                    have hpk : p ∉ fk' := (List.nodup_cons.mp hnd).1
                    have a2 : OwnAll Z L F (L2.upd H p (.lst vs.dropLast)) vs ts fk' := a'.frame (.refl F) (.refl L) fun x hx => upd_ne fun e => hpk (e ▸ hx)
                    have a3 := a2.erase hk
                    rw [← ed, ← edv] at a3
                    exact ⟨fk', fk', rfl, .lst upd_same a3, hnd, fun x hx => .inl hx⟩
                obtain ⟨w, fw, h1, h2, _⟩ := a.get hk
                cases h2 with
                | d h2 =>
                  exact ⟨.inl ⟨rfl, vs, .of h⟩, p, vs, w, rfl, rfl, h, by rw [a.length]; exact h1, s w F fp' _ (.refl B F) R' trivial (.data h2)⟩
          | _ => exact s.elim
    | _ => exact s.elim
theorem two_popi {K : PySem.W.Frag} (hK : K = Z.K) : Two Z L W (fun x y H Q => tyV K "list" x H ∧ rPopAt x [y] H Q) popiO := by
  subst hK
  intro B F fp g σ H va vb ra rb f1 f2 Q R pa pb ha hb ap s
  unfold popiO at s
  cases et : ra.tree g with
  | none => rw [et] at s; exact s.elim
  | some t =>
    rw [et] at s
    cases t with
    | lst b ts =>
      cases b with
      | false => cases rb <;> exact s.elim
      | true =>
        cases rb with
        | t u =>
          cases u with
          | d y =>
            cases y with
            | int j =>
              simp only at s
              split at s
              · rename_i hb2
                simp only [Bool.and_eq_true, decide_eq_true_eq] at hb2
                cases ek : ixN ts.length j with
                | none => rw [ek] at s; exact s.elim
                | some k =>
                  rw [ek] at s
                  simp only at s
                  cases el : ts[k]? with
                  | none => rw [el] at s; exact s.elim
                  | some w =>
                    rw [el] at s
                    cases w with
                    | d x =>
                      cases ep : putR g ra (.lst true (ts.eraseIdx k)) with
                      | none => rw [ep] at s; exact s.elim
                      | some g2 =>
                        rw [ep] at s
                        have ej := int_inv R (⟨pb, f2, hb, ap.right⟩ : Cls Z L B F fp σ H [vb] [.t (.d (.int j))])
                        subst ej
                        obtain ⟨fu, ho⟩ := pa.own R ha et
                        cases ho with
                        | @lst p vs _ fk h a =>
                          obtain ⟨fp', R'⟩ := R.mutR (fq := []) pa et ep .nil (o' := .lst (vs.eraseIdx k)) (p := p) rfl fun fu how hnd hno => by
                            cases how with
                            | @lst _ vs' _ fk' h' a' =>
                              rw [h] at h'
                              cases h'
                              have hpk : p ∉ fk' := (List.nodup_cons.mp hnd).1
                              have a2 : OwnAll Z L F (L2.upd H p (.lst (vs.eraseIdx k))) vs ts fk' := a'.frame (.refl F) (.refl L) fun x hx => upd_ne fun e => hpk (e ▸ hx)
                              exact ⟨fk', fk', rfl, .lst upd_same (a2.erase el), hnd, fun x hx => .inl hx⟩
                          obtain ⟨w, fw, h1, h2, _⟩ := a.get el
                          cases h2 with
                          | d h2 =>
                            refine ⟨.inl ⟨rfl, vs, .of h⟩, p, vs, j, k, w, rfl, rfl, h, hb2.1, hb2.2, ?_, h1, s w F fp' _ (.refl B F) R' trivial (.data h2)⟩
                            rw [a.length]
                            exact (ixN_seq ek).1
                    | _ => exact s.elim
              · exact s.elim
            | _ => exact s.elim
          | _ => exact s.elim
        | _ => exact s.elim
    | _ => cases rb <;> exact s.elim
end
end Wh

/-! Wh, part 10: built-in functions. -/
namespace Wh
open PySem L2
section
variable {Z : Ctx} {L B F H : Hp} {fp : Nat → List Addr} {g : G} {σ : L2.St} {W : WX}

/-- a reading of an argument list meets what f reckons -/
def Many (Z : Ctx) (L : Hp) (W : WX) (r : List V → Hp → VK → Prop) (f : List R → G → Out R) : Prop :=
  ∀ {B F : Hp} {fp : Nat → List Addr} {g : G} {σ : L2.St} {H : Hp} {vs : List V} {rs : List R} {Q : V → Hp → Prop}, Rel Z L B F fp g σ H → Cls Z L B F fp σ H vs rs → Sat Z L W kR B F σ (f rs g) Q → r vs H Q
theorem Snd.many {ta : TA} {fa : G → Out (List R)} {r : List V → Hp → VK → Prop} {f : List R → G → Out R} (ha : Snd Z L W kRs ta fa) (hr : Many Z L W r f) : Snd Z L W kR (fun σ H Q => ta σ H fun xs H1 => r xs H1 Q) (fun g => (fa g).bind f) :=
  Snd.bind (k2 := kR) (t2 := fun xs _ H1 Q => r xs H1 Q) ha fun R _ cl s => hr R cl s
theorem bi_inv {b : BI} {o : Bool} {rs : List R} {Q : V → Hp → Prop} (s : Sat Z L W kR B F σ (biO b o rs g) Q) : ∃ ts t, trees g rs = some ts ∧ biT b o ts = some t ∧ Sat Z L W kR B F σ (.ok (.t t) g) Q := by
  unfold biO at s
  cases e : trees g rs with
  | none => rw [e] at s; exact s.elim
  | some ts =>
    rw [e] at s
    obtain ⟨r, h1, h2⟩ := lift_sat s
    obtain ⟨t, h3, h4⟩ := map_some h1
    subst h4
    exact ⟨ts, t, rfl, h3, h2⟩
theorem Pls.uncons {v : V} {r : R} {vs : List V} {rs : List R} (h : Pls σ H (v :: vs) (r :: rs)) : Pls σ H [v] [r] ∧ Pls σ H vs rs := by
  cases h with
  | t h => exact ⟨.t .nil, h⟩
  | p a b h => exact ⟨.p a b .nil, h⟩
  | m a h => exact ⟨.m a .nil, h⟩
theorem Cls.uncons {v : V} {r : R} {vs : List V} {rs : List R} (h : Cls Z L B F fp σ H (v :: vs) (r :: rs)) : Cls Z L B F fp σ H [v] [r] ∧ Cls Z L B F fp σ H vs rs := by
  obtain ⟨pl, fq, ho, ap⟩ := h
  obtain ⟨p1, p2⟩ := pl.uncons
  have e1 := (ex_cons (v := v) (r := r) (vs := vs) (rs := rs)).1
  have e2 := (ex_cons (v := v) (r := r) (vs := vs) (rs := rs)).2
  rw [e1, e2] at ho
  cases p1 with
  | t h =>
    cases h
    cases ho with
    | @cons _ _ _ _ f1 f2 a b => exact ⟨⟨.t .nil, f1, OwnAll.one a, ap.left⟩, ⟨p2, f2, by simpa [exV, exT] using b, ap.right⟩⟩
  | m a h => cases h; exact ⟨⟨.m a .nil, [], .nil, .nil⟩, ⟨p2, fq, ho, ap⟩⟩
  | p a b h => cases h; exact ⟨⟨.p a b .nil, [], .nil, .nil⟩, ⟨p2, fq, ho, ap⟩⟩
theorem Cls.lenEq {vs : List V} {rs : List R} (cl : Cls Z L B F fp σ H vs rs) : vs.length = rs.length := cl.len
theorem trees_cons {r : R} {rs : List R} {ts : List T} (h : trees g (r :: rs) = some ts) : ∃ t us, r.tree g = some t ∧ trees g rs = some us ∧ ts = t :: us := by
  unfold trees at h
  cases e1 : r.tree g with
  | none => rw [e1] at h; cases h
  | some t =>
    cases e2 : trees g rs with
    | none => rw [e1, e2] at h; cases h
    | some us =>
      rw [e1, e2] at h
      simp only [Option.some.injEq] at h
      exact ⟨t, us, rfl, rfl, h.symm⟩
theorem one_tree {vs : List V} {rs : List R} {t : T} (R : Rel Z L B F fp g σ H) (cl : Cls Z L B F fp σ H vs rs) (e : trees g rs = some [t]) : ∃ v fu, vs = [v] ∧ Own Z L F H v t fu := by
  cases rs with
  | nil => simp [trees] at e
  | cons r rs =>
    obtain ⟨t', us, h1, h2, h3⟩ := trees_cons e
    cases rs with
    | nil =>
      simp [trees] at h2
      subst h2
      simp only [List.cons.injEq, and_true] at h3
      subst h3
      cases vs with
      | nil => have := cl.len; simp at this
      | cons v vs =>
        cases vs with
        | nil =>
          obtain ⟨fu, ho⟩ := Cl.own R cl h1
          exact ⟨v, fu, rfl, ho⟩
        | cons _ _ => have := cl.len; simp at this
    | cons r2 rs =>
      obtain ⟨t2, us2, _, _, h6⟩ := trees_cons h2
      subst h6
      simp at h3
theorem two_tree {vs : List V} {rs : List R} {t u : T} (R : Rel Z L B F fp g σ H) (cl : Cls Z L B F fp σ H vs rs) (e : trees g rs = some [t, u]) : ∃ v w f1 f2, vs = [v, w] ∧ Own Z L F H v t f1 ∧ Own Z L F H w u f2 := by
  cases rs with
  | nil => simp [trees] at e
  | cons r rs =>
    obtain ⟨t', us, h1, h2, h3⟩ := trees_cons e
    simp only [List.cons.injEq] at h3
    obtain ⟨rfl, rfl⟩ := h3
    cases vs with
    | nil => have := cl.len; simp at this
    | cons v vs =>
      obtain ⟨c1, c2⟩ := cl.uncons
      obtain ⟨f1, o1⟩ := Cl.own R c1 h1
      obtain ⟨w, f2, rfl, o2⟩ := one_tree R c2 h2
      exact ⟨v, w, f1, f2, rfl, o1, o2⟩
theorem own_one {b : BI} {o : Bool} {vs : List V} {rs : List R} {Q : V → Hp → Prop} (R : Rel Z L B F fp g σ H) (cl : Cls Z L B F fp σ H vs rs) (hb : ∀ ts t, biT b o ts = some t → ∃ t1, ts = [t1]) (s : Sat Z L W kR B F σ (biO b o rs g) Q) :
    ∃ v t1 t fu, vs = [v] ∧ Own Z L F H v t1 fu ∧ biT b o [t1] = some t ∧ Sat Z L W kR B F σ (.ok (.t t) g) Q := by
  obtain ⟨ts, t, e1, e2, s⟩ := bi_inv s
  obtain ⟨t1, rfl⟩ := hb ts t e2
  obtain ⟨v, fu, rfl, ho⟩ := one_tree R cl e1
  exact ⟨v, t1, t, fu, rfl, ho, e2, s⟩
theorem single {f : List T → Option T} (h0 : f [] = none) (h2 : ∀ a b ts, f (a :: b :: ts) = none) : ∀ ts t, f ts = some t → ∃ t1, ts = [t1] := fun ts t h => by
  cases ts with
  | nil => rw [h0] at h; cases h
  | cons a ts =>
    cases ts with
    | nil => exact ⟨a, rfl⟩
    | cons b ts => rw [h2] at h; cases h
theorem many_len {K : PySem.W.Frag} (hK : K = Z.K) {o : Bool} : Many Z L W (fun xs H Q => ∃ x n, xs = [x] ∧ LenV K x H n ∧ Q (.int (n : Nat)) H) (biO .len o) := by
  subst hK
  intro B F fp g σ H vs rs Q R cl s
  obtain ⟨v, t1, t, fu, rfl, ho, e2, s⟩ := own_one R cl (single rfl fun _ _ _ => rfl) s
  simp only [biT, lenT] at e2
  obtain ⟨n, h1, h2⟩ := map_some e2
  subst h2
  have q := sat_data R (.int (n : Nat)) s
  cases ho with
  | d h =>
    cases h with
    | lst h a =>
      simp only [T.size, Option.some.injEq] at h1
      exact ⟨_, n, rfl, .inl ⟨_, .of (R.sF _ _ h), by rw [← h1, a.length]⟩, q⟩
    | tup h a =>
      simp only [T.size, Option.some.injEq] at h1
      exact ⟨_, n, rfl, .inr ⟨_, R.sF.sqt h, by rw [← h1, a.length]⟩, q⟩
    | str z =>
      have h1' : (if z.length ≤ sizeLine then some z.length else none) = some n := h1
      split at h1'
      · rename_i hl
        simp only [Option.some.injEq] at h1'
        exact ⟨_, n, rfl, ⟨hl, h1'.symm⟩, q⟩
      · cases h1'
    | _ => cases h1
  | lst h a =>
    simp only [T.size, Option.some.injEq] at h1
    exact ⟨_, n, rfl, .inl ⟨_, .of h, by rw [← h1, a.length]⟩, q⟩
  | lstb h a =>
    simp only [T.size, Option.some.injEq] at h1
    exact ⟨_, n, rfl, .inl ⟨_, .of (R.sLH _ _ h), by rw [← h1, a.length]⟩, q⟩
  | tup h a =>
    simp only [T.size, Option.some.injEq] at h1
    exact ⟨_, n, rfl, .inr ⟨_, .of h, by rw [← h1, a.length]⟩, q⟩
  | tupb h a =>
    simp only [T.size, Option.some.injEq] at h1
    exact ⟨_, n, rfl, .inr ⟨_, .of (R.sLH _ _ h), by rw [← h1, a.length]⟩, q⟩
  | scr h =>
    simp only [T.size, Option.some.injEq] at h1
    exact ⟨_, n, rfl, .inl ⟨_, R.sLH.sql h, by rw [← h1, List.length_map]⟩, q⟩
  | _ => cases h1
theorem many_int {o : Bool} : Many Z L W (fun xs H Q => (∃ i, xs = [.int i] ∧ Q (.int i) H) ∨ ∃ k, xs = [.bl k] ∧ Q (.int (if k then 1 else 0)) H) (biO .int o) := by
  intro B F fp g σ H vs rs Q R cl s
  obtain ⟨v, t1, t, fu, rfl, ho, e2, s⟩ := own_one R cl (single rfl fun a b ts => by cases a with
    | d x => cases x <;> rfl
    | _ => rfl) s
  cases t1 with
  | d x =>
    cases ho with
    | d h =>
      cases h with
      | int i =>
        have e : some (T.d (.int i)) = some t := e2
        cases e
        exact .inl ⟨_, rfl, sat_data R (.int _) s⟩
      | bl k =>
        have e : some (T.d (.int (if k then 1 else 0))) = some t := e2
        cases e
        exact .inr ⟨_, rfl, sat_data R (.int _) s⟩
      | _ => cases e2
  | _ => cases e2
theorem many_abs {o : Bool} : Many Z L W (fun xs H Q => ∃ i, xs = [.int i] ∧ Q (.int (if i < 0 then -i else i)) H) (biO .abs o) := by
  intro B F fp g σ H vs rs Q R cl s
  obtain ⟨v, t1, t, fu, rfl, ho, e2, s⟩ := own_one R cl (single rfl fun a b ts => by cases a with
    | d x => cases x <;> rfl
    | _ => rfl) s
  cases t1 with
  | d x =>
    cases ho with
    | d h =>
      cases h with
      | int i =>
        have e : some (T.d (.int (if i < 0 then -i else i))) = some t := e2
        cases e
        exact ⟨_, rfl, sat_data R (.int _) s⟩
      | _ => cases e2
  | _ => cases e2
theorem own_two {b : BI} {o : Bool} {vs : List V} {rs : List R} {Q : V → Hp → Prop} (R : Rel Z L B F fp g σ H) (cl : Cls Z L B F fp σ H vs rs) (hb : ∀ ts t, biT b o ts = some t → ∃ i j, ts = [.d (.int i), .d (.int j)]) (s : Sat Z L W kR B F σ (biO b o rs g) Q) :
    ∃ i j t, vs = [.int i, .int j] ∧ biT b o [.d (.int i), .d (.int j)] = some t ∧ Sat Z L W kR B F σ (.ok (.t t) g) Q := by
  obtain ⟨ts, t, e1, e2, s⟩ := bi_inv s
  obtain ⟨i, j, rfl⟩ := hb ts t e2
  obtain ⟨v, w, f1, f2, rfl, o1, o2⟩ := two_tree R cl e1
  cases o1 with
  | d h =>
    cases h
    cases o2 with
    | d h => cases h; exact ⟨i, j, t, rfl, e2, s⟩
theorem many_max {o : Bool} : Many Z L W (fun xs H Q => ∃ i j, xs = [.int i, .int j] ∧ Q (.int (if j > i then j else i)) H) (biO .max o) := by
  intro B F fp g σ H vs rs Q R cl s
  obtain ⟨i, j, t, rfl, e, s⟩ := own_two R cl (fun ts t h => by
    have h' : maxT ts = some t := h
    unfold maxT at h'
    split at h'
    · exact ⟨_, _, rfl⟩
    · cases h') s
  have e' : some (T.d (.int (if j > i then j else i))) = some t := e
  cases e'
  exact ⟨i, j, rfl, sat_data R (.int _) s⟩
theorem many_min {o : Bool} : Many Z L W (fun xs H Q => ∃ i j, xs = [.int i, .int j] ∧ Q (.int (if j < i then j else i)) H) (biO .min o) := by
  intro B F fp g σ H vs rs Q R cl s
  obtain ⟨i, j, t, rfl, e, s⟩ := own_two R cl (fun ts t h => by
    have h' : minT ts = some t := h
    unfold minT at h'
    split at h'
    · exact ⟨_, _, rfl⟩
    · cases h') s
  have e' : some (T.d (.int (if j < i then j else i))) = some t := e
  cases e'
  exact ⟨i, j, rfl, sat_data R (.int _) s⟩
theorem many_max3 {o : Bool} : Many Z L W (rNuC3 nuMax3) (biO .max3 o) := by
  intro B F fp g σ H vs rs Q R cl s
  obtain ⟨ts, t, e1, e2, s⟩ := bi_inv s
  have h' : max3T ts = some t := e2
  unfold max3T at h'
  split at h'
  · next i j k =>
    cases rs with
    | nil => simp [trees] at e1
    | cons r rs =>
      obtain ⟨t', us, h1, h2, h3⟩ := trees_cons e1
      simp only [List.cons.injEq] at h3
      obtain ⟨rfl, rfl⟩ := h3
      cases vs with
      | nil => have := cl.len; simp at this
      | cons v vs =>
        obtain ⟨c1, c2⟩ := cl.uncons
        obtain ⟨f1, o1⟩ := Cl.own R c1 h1
        obtain ⟨w, x, f2, f3, rfl, o2, o3⟩ := two_tree R c2 h2
        cases o1 with
        | d z1 => cases z1; cases o2 with
          | d z2 => cases z2; cases o3 with
            | d z3 =>
              cases z3
              simp only [Option.some.injEq] at h'
              subst h'
              refine ⟨.int i, .int j, .int k, .int (if k > (if j > i then j else i) then k else (if j > i then j else i)), rfl, ?_, sat_data R (.int _) s⟩
              have m2 : ∀ a b : Int, nuMax2 (.int a) (.int b) = some (.int (if b > a then b else a)) := by
                intro a b
                show some (if decide (a < b) = true then V.int b else .int a) = _
                by_cases h : a < b
                · rw [if_pos (by simpa using h), if_pos h]
                · rw [if_neg (by simpa using h), if_neg h]
              show (nuMax2 (.int i) (.int j)).bind (fun m => nuMax2 m (.int k)) = _
              rw [m2, Option.bind_some, m2]
  · cases h'
theorem allInt_inv {xs : List D} {is : List Int} (h : allInt xs = some is) : xs = is.map D.int := by
  induction xs generalizing is with
  | nil => simp [allInt] at h; subst h; rfl
  | cons x xs ih =>
    cases x with
    | int i =>
      simp only [allInt] at h
      obtain ⟨js, h1, h2⟩ := map_some h
      subst h2
      rw [ih h1]; rfl
    | _ => simp [allInt] at h
theorem allBl_inv {xs : List D} {is : List Bool} (h : allBl xs = some is) : xs = is.map D.bl := by
  induction xs generalizing is with
  | nil => simp [allBl] at h; subst h; rfl
  | cons x xs ih =>
    cases x with
    | bl i =>
      simp only [allBl] at h
      obtain ⟨js, h1, h2⟩ := map_some h
      subst h2
      rw [ih h1]; rfl
    | _ => simp [allBl] at h
theorem ints_v {vs : List V} {is : List Int} (h : IsAll Z F vs (is.map D.int)) : vs = is.map V.int := by
  induction is generalizing vs with
  | nil => cases h; rfl
  | cons i is ih =>
    cases h with
    | cons a b => cases a; rw [ih b]; rfl
theorem bls_v {vs : List V} {is : List Bool} (h : IsAll Z F vs (is.map D.bl)) : vs = is.map V.bl := by
  induction is generalizing vs with
  | nil => cases h; rfl
  | cons i is ih =>
    cases h with
    | cons a b => cases a; rw [ih b]; rfl
theorem Own.ints {v : V} {t : T} {fu : List Addr} {is : List Int} (R : Rel Z L B F fp g σ H) (ho : Own Z L F H v t fu) (e : t.ints = some is) : ∃ p, v = .ref p ∧ SqL Z.K H p (is.map V.int) := by
  unfold T.ints at e
  cases es : t.sh with
  | none => rw [es] at e; cases e
  | some x =>
    rw [es] at e
    cases x with
    | lst xs =>
      obtain ⟨p, vs, rfl, hp, ha⟩ := ho.sh R.sF R.sLH es
      rw [allInt_inv e] at ha
      rw [ints_v ha] at hp
      exact ⟨p, rfl, .of hp⟩
    | _ => cases e
theorem Own.bls {v : V} {t : T} {fu : List Addr} {is : List Bool} (R : Rel Z L B F fp g σ H) (ho : Own Z L F H v t fu) (e : t.bls = some is) : ∃ p, v = .ref p ∧ SqL Z.K H p (is.map V.bl) := by
  unfold T.bls at e
  cases es : t.sh with
  | none => rw [es] at e; cases e
  | some x =>
    rw [es] at e
    cases x with
    | lst xs =>
      obtain ⟨p, vs, rfl, hp, ha⟩ := ho.sh R.sF R.sLH es
      rw [allBl_inv e] at ha
      rw [bls_v ha] at hp
      exact ⟨p, rfl, .of hp⟩
    | _ => cases e
theorem many_sum {K : PySem.W.Frag} (hK : K = Z.K) {o : Bool} : Many Z L W (rSum K) (biO .sum o) := by
  subst hK
  intro B F fp g σ H vs rs Q R cl s
  obtain ⟨v, t1, t, fu, rfl, ho, e2, s⟩ := own_one R cl (single rfl fun _ _ _ => by rfl) s
  obtain ⟨is, h1, h2⟩ := map_some (show t1.ints.map (fun is => T.d (.int is.sum)) = some t from e2)
  subst h2
  obtain ⟨p, rfl, hp⟩ := ho.ints R h1
  exact ⟨p, is, rfl, hp, sat_data R (.int _) s⟩
theorem maxI_spec {is : List Int} {m : Int} (h : maxI is = some m) : m ∈ is ∧ ∀ x ∈ is, x ≤ m := by
  induction is generalizing m with
  | nil => cases h
  | cons i is ih =>
    cases is with
    | nil => simp [maxI] at h; subst h; simp
    | cons j js =>
      simp only [maxI] at h
      obtain ⟨k, h1, h2⟩ := map_some h
      obtain ⟨h3, h4⟩ := ih h1
      subst h2
      by_cases hk : k < i
      · rw [if_pos hk]
        exact ⟨by simp, fun x hx => by
          rcases List.mem_cons.mp hx with rfl | hx
          · exact Int.le_refl _
          · have := h4 x hx; omega⟩
      · rw [if_neg hk]
        exact ⟨by simp [h3], fun x hx => by
          rcases List.mem_cons.mp hx with rfl | hx
          · omega
          · exact h4 x hx⟩
theorem minI_spec {is : List Int} {m : Int} (h : minI is = some m) : m ∈ is ∧ ∀ x ∈ is, m ≤ x := by
  induction is generalizing m with
  | nil => cases h
  | cons i is ih =>
    cases is with
    | nil => simp [minI] at h; subst h; simp
    | cons j js =>
      simp only [minI] at h
      obtain ⟨k, h1, h2⟩ := map_some h
      obtain ⟨h3, h4⟩ := ih h1
      subst h2
      by_cases hk : i < k
      · rw [if_pos hk]
        exact ⟨by simp, fun x hx => by
          rcases List.mem_cons.mp hx with rfl | hx
          · exact Int.le_refl _
          · have := h4 x hx; omega⟩
      · rw [if_neg hk]
        exact ⟨by simp [h3], fun x hx => by
          rcases List.mem_cons.mp hx with rfl | hx
          · omega
          · exact h4 x hx⟩
theorem many_maxl {K : PySem.W.Frag} (hK : K = Z.K) {o : Bool} : Many Z L W (rMax K) (biO .maxl o) := by
  subst hK
  intro B F fp g σ H vs rs Q R cl s
  obtain ⟨v, t1, t, fu, rfl, ho, e2, s⟩ := own_one R cl (single rfl fun _ _ _ => by rfl) s
  have e3 : (match t1.ints with | some is => (maxI is).map (fun m => T.d (.int m)) | none => none) = some t := e2
  cases e4 : t1.ints with
  | none => rw [e4] at e3; cases e3
  | some is =>
    rw [e4] at e3
    obtain ⟨m, h1, h2⟩ := map_some e3
    subst h2
    obtain ⟨h3, h4⟩ := maxI_spec h1
    obtain ⟨p, rfl, hp⟩ := ho.ints R e4
    refine ⟨p, is, rfl, hp, List.length_pos_of_mem h3, fun m' hm hall => ?_⟩
    have : m' = m := by have := hall m h3; have := h4 m' hm; omega
    subst this
    exact sat_data R (.int _) s
theorem many_minl {K : PySem.W.Frag} (hK : K = Z.K) {o : Bool} : Many Z L W (rMin K) (biO .minl o) := by
  subst hK
  intro B F fp g σ H vs rs Q R cl s
  obtain ⟨v, t1, t, fu, rfl, ho, e2, s⟩ := own_one R cl (single rfl fun _ _ _ => by rfl) s
  have e3 : (match t1.ints with | some is => (minI is).map (fun m => T.d (.int m)) | none => none) = some t := e2
  cases e4 : t1.ints with
  | none => rw [e4] at e3; cases e3
  | some is =>
    rw [e4] at e3
    obtain ⟨m, h1, h2⟩ := map_some e3
    subst h2
    obtain ⟨h3, h4⟩ := minI_spec h1
    obtain ⟨p, rfl, hp⟩ := ho.ints R e4
    refine ⟨p, is, rfl, hp, List.length_pos_of_mem h3, fun m' hm hall => ?_⟩
    have : m' = m := by have := hall m h3; have := h4 m' hm; omega
    subst this
    exact sat_data R (.int _) s
theorem insI_perm (x : Int) (ys : List Int) : (insI x ys).Perm (x :: ys) := by
  induction ys with
  | nil => exact .refl _
  | cons y ys ih =>
    simp only [insI]
    split
    · exact .refl _
    · exact (ih.cons y).trans (.swap x y ys)
theorem sortI_perm (xs : List Int) : (sortI xs).Perm xs := by
  induction xs with
  | nil => exact .refl _
  | cons x xs ih => exact (insI_perm x _).trans (ih.cons x)
theorem insI_sorted {x : Int} {ys : List Int} (h : ys.Pairwise (· ≤ ·)) : (insI x ys).Pairwise (· ≤ ·) := by
  induction ys with
  | nil => simp [insI]
  | cons y ys ih =>
    simp only [insI]
    obtain ⟨h1, h2⟩ := List.pairwise_cons.mp h
    split
    · rename_i hx
      refine List.pairwise_cons.mpr ⟨fun z hz => ?_, h⟩
      rcases List.mem_cons.mp hz with rfl | hz
      · exact hx
      · have := h1 z hz; omega
    · rename_i hx
      refine List.pairwise_cons.mpr ⟨fun z hz => ?_, ih h2⟩
      rcases List.mem_cons.mp ((insI_perm x ys).mem_iff.mp hz) with rfl | hz
      · omega
      · exact h1 z hz
theorem sortI_sorted (xs : List Int) : (sortI xs).Pairwise (· ≤ ·) := by
  induction xs with
  | nil => exact .nil
  | cons x xs ih => exact insI_sorted ih
theorem sorted_uniq : ∀ {xs ys : List Int}, xs.Perm ys → xs.Pairwise (· ≤ ·) → ys.Pairwise (· ≤ ·) → xs = ys
  | [], ys, p, _, _ => by
    have := p.length_eq
    exact (List.eq_nil_of_length_eq_zero (by simpa using this.symm)).symm
  | x :: xs, [], p, _, _ => by
    have := p.length_eq
    simp at this
  | x :: xs, y :: ys, p, h1, h2 => by
    obtain ⟨a1, a2⟩ := List.pairwise_cons.mp h1
    obtain ⟨b1, b2⟩ := List.pairwise_cons.mp h2
    have hxy : x = y := by
      have hx : x ∈ y :: ys := p.mem_iff.mp (by simp)
      have hy : y ∈ x :: xs := p.mem_iff.mpr (by simp)
      rcases List.mem_cons.mp hx with e | hx
      · exact e
      · rcases List.mem_cons.mp hy with e | hy
        · exact e.symm
        · have := b1 x hx; have := a1 y hy; omega
    subst hxy
    rw [sorted_uniq (List.perm_cons x |>.mp p) a2 b2]
theorem many_sorted {K : PySem.W.Frag} (hK : K = Z.K) {o : Bool} : Many Z L W (rSorted K) (biO .sorted o) := by
  subst hK
  intro B F fp g σ H vs rs Q R cl s
  obtain ⟨v, t1, t, fu, rfl, ho, e2, s⟩ := own_one R cl (single rfl fun _ _ _ => by rfl) s
  have e3 : (match t1.ints with | some is => if is.length < 64 then some (mkl o ((sortI is).map .int)) else none | none => none) = some t := e2
  cases e4 : t1.ints with
  | none => rw [e4] at e3; cases e3
  | some is =>
    rw [e4] at e3
    simp only at e3
    split at e3
    · rename_i hl
      simp only [Option.some.injEq] at e3
      subst e3
      obtain ⟨p, rfl, hp⟩ := ho.ints R e4
      refine ⟨p, is, rfl, hp, hl, fun ns' q hp' hs hq => ?_⟩
      have : ns' = sortI is := sorted_uniq (hp'.trans (sortI_perm is).symm) hs (sortI_sorted is)
      subst this
      exact sat_list R hq ints_all s
    · cases e3
theorem many_list {K : PySem.W.Frag} (hK : K = Z.K) {o : Bool} : Many Z L W (fun xs H Q => ∃ p ys, xs = [.ref p] ∧ (SqL K H p ys ∨ SqT K H p ys) ∧ ∀ l, H l = none → Q (.ref l) (upd H l (.lst ys))) (biO .list o) := by
  subst hK
  intro B F fp g σ H vs rs Q R cl s
  obtain ⟨v, t1, t, fu, rfl, ho, e2, s⟩ := own_one R cl (single rfl fun _ _ _ => by rfl) s
  have e3 : (match t1.sh with | some (.lst xs) => some (mkl o xs) | some (.tup xs) => some (mkl o xs) | _ => none) = some t := e2
  cases e4 : t1.sh with
  | none => rw [e4] at e3; cases e3
  | some x =>
    rw [e4] at e3
    have hx := ho.sh R.sF R.sLH e4
    cases x with
    | lst xs =>
      simp only [Option.some.injEq] at e3
      subst e3
      obtain ⟨p, vs, rfl, hp, ha⟩ := hx
      exact ⟨p, vs, rfl, .inl (.of hp), fun l hl => sat_list R hl ha s⟩
    | tup xs =>
      simp only [Option.some.injEq] at e3
      subst e3
      obtain ⟨p, vs, rfl, hp, ha⟩ := hx
      exact ⟨p, vs, rfl, .inr hp, fun l hl => sat_list R hl ha s⟩
    | _ => cases e3
theorem many_all {K : PySem.W.Frag} (hK : K = Z.K) {o : Bool} : Many Z L W (rAll K) (biO .all o) := by
  subst hK
  intro B F fp g σ H vs rs Q R cl s
  obtain ⟨v, t1, t, fu, rfl, ho, e2, s⟩ := own_one R cl (single rfl fun _ _ _ => by rfl) s
  obtain ⟨is, h1, h2⟩ := map_some (show t1.bls.map (fun is => T.d (.bl (is.all id))) = some t from e2)
  subst h2
  obtain ⟨p, rfl, hp⟩ := ho.bls R h1
  exact ⟨p, is, rfl, hp, sat_data R (.bl _) s⟩
theorem many_any {K : PySem.W.Frag} (hK : K = Z.K) {o : Bool} : Many Z L W (rAny K) (biO .any o) := by
  subst hK
  intro B F fp g σ H vs rs Q R cl s
  obtain ⟨v, t1, t, fu, rfl, ho, e2, s⟩ := own_one R cl (single rfl fun _ _ _ => by rfl) s
  obtain ⟨is, h1, h2⟩ := map_some (show t1.bls.map (fun is => T.d (.bl (is.any id))) = some t from e2)
  subst h2
  obtain ⟨p, rfl, hp⟩ := ho.bls R h1
  exact ⟨p, is, rfl, hp, sat_data R (.bl _) s⟩
theorem rgV_ints (m n : Int) : rgV m n = (rngL m n).map V.int := by
  unfold rgV rngL; rw [List.map_map]; rfl
theorem lrg_sat {m n : Int} {o : Bool} {Q : V → Hp → Prop} {σ : L2.St} {B F H : Hp} {fp : Nat → List Addr} {g : G} (R : Rel Z L B F fp g σ H) (s : Sat Z L W kR B F σ (lrgR o m n g) Q) : RgOk m n ∧ ∀ q, H q = none → Q (.ref q) (upd H q (.lst (rgV m n))) := by
  unfold lrgR at s
  split at s
  · rename_i hc
    simp only [Bool.and_eq_true, decide_eq_true_eq] at hc
    obtain ⟨⟨h1, h2⟩, h3⟩ := hc
    unfold rngOk at h1 h2
    simp only [Bool.and_eq_true, decide_eq_true_eq] at h1 h2
    refine ⟨⟨h1.1, h1.2, h2.1, h2.2, h3⟩, fun q hq => ?_⟩
    rw [rgV_ints]
    exact sat_list R hq ints_all s
  · exact s.elim
theorem snd_lrg1 {ta : TE} {fa : G → Out R} {o : Bool} (ha : Snd Z L W kR ta fa) : Snd Z L W kR (tLstRg (tRg1 ta)) (fun g => (fa g).bind (lrg1R o)) := by
  refine Snd.bind (k2 := kR) (t2 := fun x _ H1 Q => ∃ n, x = .int n ∧ (RgOk 0 n ∧ ∀ q, H1 q = none → Q (.ref q) (upd H1 q (.lst (rgV 0 n))))) ha fun {B F fp g σ H v r Q} R _ cl s => ?_
  have cl : Cls Z L B F fp σ H [v] [r] := cl
  cases r with
  | t u => cases u with
    | d x => cases x with
      | int n => have e := int_inv R cl; subst e; exact ⟨n, rfl, lrg_sat R s⟩
      | _ => exact s.elim
    | _ => exact s.elim
  | _ => exact s.elim
theorem snd_lrg2 {ta tb : TE} {fa fb : G → Out R} {o : Bool} (ha : Snd Z L W kR ta fa) (hb : Snd Z L W kR tb fb) : Snd Z L W kR (tLstRg (tRg2 ta tb)) (fun g => (fa g).bind fun r g1 => (fb g1).bind (lrg2R o r)) := by
  refine Snd.bind (k2 := kR) (t2 := fun x σ H1 Q => tb σ H1 fun y H2 => ∃ i j : Int, x = .int i ∧ y = .int j ∧ (RgOk i j ∧ ∀ q, H2 q = none → Q (.ref q) (upd H2 q (.lst (rgV i j))))) ha fun {B F fp g σ H v r Q} R _ cl s => ?_
  have cl : Cls Z L B F fp σ H [v] [r] := cl
  have hv : ∀ n, r = .t (.d (.int n)) → v = .int n := fun n e => by subst e; exact int_inv R cl
  refine Snd.bind (k2 := kR) (t2 := fun y σ H2 Q => ∃ i j : Int, v = .int i ∧ y = .int j ∧ (RgOk i j ∧ ∀ q, H2 q = none → Q (.ref q) (upd H2 q (.lst (rgV i j))))) hb (fun {B F fp g σ H w r2 Q} R _ cl s => ?_) B F fp g σ H Q R s
  have cl : Cls Z L B F fp σ H [w] [r2] := cl
  cases r with
  | t u => cases u with
    | d x => cases x with
      | int m => cases r2 with
        | t u => cases u with
          | d x => cases x with
            | int n =>
              have e1 := int_inv R cl
              subst e1
              exact ⟨m, n, hv m rfl, rfl, lrg_sat R s⟩
            | _ => exact s.elim
          | _ => exact s.elim
        | _ => exact s.elim
      | _ => exact s.elim
    | _ => exact s.elim
  | _ => exact s.elim
/-! ### sorted, rows of ints -/
def rowP (r : List Int) : PyData := .list (r.map .int)
def rleq (a b : V × List Int) : Bool := decide (a.2 ≤ b.2)
/-- sorted(xs), xs a list of lists of ints -/
def rSortedR (K : PySem.W.Frag) : List V → Hp → VK → Prop := fun vs H Q => ∃ (a : Addr) (xs : List V) (rows : List (List Int)), vs = [V.ref a] ∧ SqL K H a xs ∧ DpAll K H xs (rows.map rowP) ∧
  ∀ p, H p = none → Q (.ref p) (upd H p (.lst (((xs.zip rows).mergeSort rleq).map Prod.fst)))
theorem dpAll_len {K : PySem.W.Frag} {vs : List V} {ds : List PyData} (h : DpAll K H vs ds) : vs.length = ds.length := by
  induction ds generalizing vs with
  | nil => cases h; rfl
  | cons d ds ih => cases h with | cons a b => simp [ih b]
theorem each_zip {rows : List (List Int)} : ∀ {us : List Value} {xs : List V}, Vals xs us → xs.length = rows.length → PySem.W.EachIs (fun u (b : V × List Int) => RelV b.1 u) us (xs.zip rows) := by
  induction rows with
  | nil => intro us xs r e; cases r with
    | nil => exact .nil
    | cons _ _ => simp at e
  | cons x rows ih => intro us xs r e; cases r with
    | nil => simp at e
    | cons a b => exact .cons a (ih b (by simpa using e))
theorem each_zipR {h : Heap} {rows : List (List Int)} : ∀ {us : List Value} {xs : List V} {as : List Addr}, ReadsAll h us (rows.map rowP) as → xs.length = rows.length → PySem.W.EachIs (fun u (b : V × List Int) => ∃ as, Reads h u (rowP b.2) as) us (xs.zip rows) := by
  induction rows with
  | nil => intro us xs as r e; cases r; exact (by cases xs <;> exact .nil)
  | cons x rows ih => intro us xs as r e; cases xs with
    | nil => simp at e
    | cons y ys => cases r with
      | cons a b => exact .cons ⟨_, a⟩ (ih b (by simpa using e))
theorem each_fst {us : List Value} : ∀ {bs : List (V × List Int)}, PySem.W.EachIs (fun u (b : V × List Int) => RelV b.1 u) us bs → Vals (bs.map Prod.fst) us
  | _, .nil => .nil
  | _, .cons a b => .cons a (each_fst b)
theorem cr_sortedR {X : Cx} (hu : X.A.units + 65 < cLine) : CallR X (.builtin "sorted") (rSortedR X.K) := by
  intro pins s σ H vs us Q I r h
  obtain ⟨a, xs, rows, rfl, hs, hd, q⟩ := h
  have hlen : xs.length = rows.length := by rw [dpAll_len hd, List.length_map]
  obtain ⟨its, rv, hl, hz⟩ := I.list hs
  rw [Vals.ref1 r]
  obtain ⟨as, hr⟩ := Dp.readsAll I _ _ _ hd rv
  have hz' : (xs.zip rows).length = xs.length := by rw [List.length_zip, hlen, Nat.min_self]
  refine PySem.W.sorted_data (bs := xs.zip rows) (enc := fun b => rowP b.2) (R := fun u b => RelV b.1 u) hl.isList (each_zip rv hlen) (each_zipR hr hlen) (PySem.W.AllAlike.of fun b b' => ?_) (PySem.W.Sortable.others fun b => ⟨(fun e => nomatch e), (fun ys e => nomatch e)⟩) (by rw [hz']; exact hz) (fun b _ => ?_) fun out hout he => ?_
  · exact PySem.W.alike_ints b.2 b'.2
  · show X.A.units + 2 + (PyData.depthAll (b.2.map .int) + 1) < cLine
    rw [PySem.W.depth_ints]; omega
  · obtain ⟨ep, he'⟩ := PyProof.Rows.sortedAll_at s.heap its out.toArray
    have hle : PySem.W.dataLe false (fun b : V × List Int => rowP b.2) = rleq := PySem.W.dataLe_rows fun b : V × List Int => b.2
    rw [hle] at he
    have hv := each_fst he
    refine ⟨.ref _, upd H (s.heap.objs.size + 1) (.lst (((xs.zip rows).mergeSort rleq).map Prod.fst)), I.laid (t' := s.toks) (fun _ _ => PyProof.Rows.sortedAll_old) (Nat.le_succ _) ⟨?_, out, ep, hv, he'⟩, rfl, q _ (I.hok.fresh (Nat.le_succ _))⟩
    rw [List.length_map, List.length_mergeSort, hz']; exact hz
theorem allRows_py {xs : List D} {rows : List (List Int)} (h : allRows xs = some rows) : xs = rows.map (fun r => D.lst (r.map .int)) := by
  induction xs generalizing rows with
  | nil => simp [allRows] at h; subst h; rfl
  | cons x xs ih =>
    cases x with
    | lst ys =>
      unfold allRows at h
      cases e1 : allInt ys with
      | none => rw [e1] at h; simp at h
      | some r =>
        cases e2 : allRows xs with
        | none => rw [e1, e2] at h; simp at h
        | some rs =>
          rw [e1, e2] at h
          simp only [Option.some.injEq] at h
          subst h
          have : ∀ {ys : List D} {r : List Int}, allInt ys = some r → ys = r.map .int := by
            intro ys
            induction ys with
            | nil => intro r h; simp [allInt] at h; subst h; rfl
            | cons y ys ih => intro r h; cases y with
              | int i =>
                obtain ⟨r', h1, h2⟩ := map_some (show (allInt ys).map (i :: ·) = some r from h)
                subst h2
                rw [ih h1]; rfl
              | _ => simp [allInt] at h
          rw [this e1, ih e2]; rfl
    | _ => simp [allRows] at h
theorem row_dp {K : PySem.W.Frag} (hK : K = Z.K) (sF : Sub F H) {vs : List V} {rows : List (List Int)} (h : IsAll Z F vs (rows.map fun r => D.lst (r.map .int))) : DpAll K H vs (rows.map rowP) := by
  refine IsAll.dp hK (IsAll.mono sF h) ?_
  have pi : ∀ r : List Int, D.pys (r.map D.int) = some (r.map PyData.int) := by
    intro r
    induction r with
    | nil => rfl
    | cons i r ih => simp only [List.map_cons, D.pys, D.py, ih]
  clear h
  induction rows with
  | nil => rfl
  | cons r rows ih => simp only [List.map_cons, D.pys, D.py, pi, Option.map_some, ih]; rfl
theorem isAll_zip {vs : List V} {rows : List (List Int)} (h : IsAll Z F vs (rows.map fun r => D.lst (r.map .int))) : ∀ b ∈ vs.zip rows, Is Z F b.1 (.lst (b.2.map .int)) := by
  induction rows generalizing vs with
  | nil => intro b hb; simp at hb
  | cons r rows ih =>
    cases h with
    | cons a b =>
      intro c hc
      rcases List.mem_cons.mp hc with rfl | hc
      · exact a
      · exact ih b c hc
theorem isAll_of {bs : List (V × List Int)} (h : ∀ b ∈ bs, Is Z F b.1 (.lst (b.2.map .int))) : IsAll Z F (bs.map Prod.fst) ((bs.map Prod.snd).map fun r => D.lst (r.map .int)) := by
  induction bs with
  | nil => exact .nil
  | cons b bs ih => exact .cons (h b (.head _)) (ih fun c hc => h c (.tail _ hc))
theorem many_sortedR {K : PySem.W.Frag} (hK : K = Z.K) {o : Bool} : Many Z L W (rSortedR K) (biO .sortedR o) := by
  subst hK
  intro B F fp g σ H vs rs Q R cl s
  obtain ⟨v, t1, t, fu, rfl, ho, e2, s⟩ := own_one R cl (single rfl fun _ _ _ => by rfl) s
  have e3 : (match t1.rows with | some rs => some (mkl o ((rs.mergeSort fun a b => decide (a ≤ b)).map fun r => .lst (r.map .int))) | none => none) = some t := e2
  cases e4 : t1.rows with
  | none => rw [e4] at e3; cases e3
  | some rows =>
    rw [e4] at e3
    simp only [Option.some.injEq] at e3
    subst e3
    unfold T.rows at e4
    cases e5 : t1.sh with
    | none => rw [e5] at e4; cases e4
    | some x =>
      rw [e5] at e4
      have hx := ho.sh R.sF R.sLH e5
      cases x with
      | lst xs =>
        obtain ⟨p, vs, rfl, hp, ha⟩ := hx
        have := allRows_py e4
        subst this
        refine ⟨p, vs, rows, rfl, .of hp, row_dp rfl R.sF ha, fun l hl => ?_⟩
        refine sat_list R hl ?_ s
        have hz := isAll_zip ha
        have hlen : vs.length = rows.length := by rw [ha.length, List.length_map]
        have h1 : ((vs.zip rows).mergeSort rleq).map Prod.snd = rows.mergeSort fun a b => decide (a ≤ b) := by
          rw [List.map_mergeSort (r := rleq) (s := fun a b => decide (a ≤ b)) (f := Prod.snd) (hl := fun a _ b _ => rfl), List.map_snd_zip (by omega)]
        rw [← h1]
        exact isAll_of fun b hb => hz b ((List.mergeSort_perm _ _).mem_iff.mp hb)
      | _ => cases e4
theorem one_tupl {K : PySem.W.Frag} (hK : K = Z.K) : One Z L W (fun x H Q => kTup K x H Q) tuplR := by
  subst hK
  intro B F fp g σ H va ra Q R cl s
  unfold tuplR at s
  cases e : ra.sh g with
  | none => rw [e] at s; exact s.elim
  | some x =>
    rw [e] at s
    obtain ⟨pl, fq, ho, ap⟩ := cl
    have hx := pl.sh R ho e
    cases x with
    | lst xs =>
      obtain ⟨p, vs, rfl, hp, ha⟩ := hx
      exact .inl ⟨p, vs, rfl, .of hp, fun l hl => sat_tup R hl ha s⟩
    | _ => exact s.elim

/-! ### dicts -/
theorem Rel.over (R : Rel Z L B F fp g σ H) {p : Addr} {o : HO} (hF : F p = none) (hB : B p = none) (hn : ∀ i, p ∉ fp i) : Rel Z L B F fp g σ (upd H p o) where
  ls := R.ls
  sl := fun i t e => by
    rcases R.sl i t e with h1 | ⟨v, h1, h2⟩
    · exact .inl h1
    · exact .inr ⟨v, h1, h2.frame (.refl F) (.refl L) fun q hq => upd_ne (fun h => hn i (h ▸ hq))⟩
  out := R.out
  sF := fun a u e => by
    by_cases h : a = p
    · subst h; rw [hF] at e; cases e
    · rw [upd_ne h]; exact R.sF a u e
  sB := fun a u e => by
    by_cases h : a = p
    · subst h; rw [hB] at e; cases e
    · rw [upd_ne h]; exact R.sB a u e
  sL := R.sL
  nd := R.nd
  ds := R.ds
  dj := R.dj
/-- an object of nobody becomes data for good -/
theorem sat_put {p : Addr} {o : HO} {x : D} {Q : V → Hp → Prop} (R : Rel Z L B F fp g σ H) (hF : F p = none) (hB : B p = none) (hn : ∀ i, p ∉ fp i) (hx : Is Z (upd F p o) (.ref p) x) (s : Sat Z L W kR B F σ (.ok (.t (.d x)) g) Q) : Q (.ref p) (upd H p o) := by
  have R1 := R.over (o := o) hF hB hn
  have sF : Sub F (upd F p o) := upd_sub hF
  have sH : Sub (upd F p o) (upd H p o) := fun a u e => by
    by_cases ha : a = p
    · subst ha; rw [upd_same] at e; rw [upd_same]; exact e
    · rw [upd_ne ha] at e; rw [upd_ne ha]; exact R.sF a u e
  have nw : ∀ a, upd F p o a ≠ none → F a ≠ none ∨ a = p := fun a ha => by
    by_cases e : a = p
    · exact .inr e
    · rw [upd_ne e] at ha; exact .inl ha
  have R2 := R1.grow sF sH fun a ha => (nw a ha).imp id fun e => by subst e; exact hn
  refine s (.ref p) (upd F p o) fp (upd H p o) ⟨sF, fun a ha => (nw a ha).imp id fun e => ?_⟩ R2 trivial (.data hx)
  subst e; exact hB
def tAll : List TE → TA
  | [] => tNil
  | t :: ts => tCons t (tAll ts)
def mkP (ks : List Key) (tvs : List TE) : List (TE × TE) := (ks.zip tvs).map fun kt => (tC (kV kt.1), kt.2)
theorem tPairs_eq : ∀ (ks : List Key) (tvs : List TE), ks.length = tvs.length → ∀ (σ : L2.St) (H : Hp) (Q : List (V × V) → Hp → Prop), tPairs (mkP ks tvs) σ H Q = tAll tvs σ H fun vs H2 => Q ((ks.map kV).zip vs) H2
  | [], [], _, _, _, _ => rfl
  | k :: ks, t :: ts, h, σ, H, Q => by
    show t σ H (fun y H2 => tPairs (mkP ks ts) σ H2 fun ps H3 => Q ((kV k, y) :: ps) H3) = t σ H fun x H1 => tAll ts σ H1 fun xs H2 => Q ((kV k :: ks.map kV).zip (x :: xs)) H2
    congr 1
    funext y H2
    exact tPairs_eq ks ts (by simpa using h) σ H2 _
theorem putK_new {ks : List (Key × V)} {k : Key} {v : V} (h : ∀ kv ∈ ks, kv.1 ≠ k) : putK ks k v = ks ++ [(k, v)] := by
  unfold putK
  rw [if_neg]
  rw [List.any_eq_true]
  rintro ⟨kv, h1, h2⟩
  exact h kv h1 (of_decide_eq_true h2)
theorem mergeK_new : ∀ (more kvs : List (Key × V)), ((kvs ++ more).map Prod.fst).Nodup → mergeK kvs more = kvs ++ more
  | [], kvs, _ => by rw [List.append_nil]; rfl
  | kv :: more, kvs, h => by
    have e : putK kvs kv.1 kv.2 = kvs ++ [kv] := putK_new fun x hx he => by
      rw [List.map_append, List.nodup_append] at h
      exact h.2.2 _ (List.mem_map.mpr ⟨x, hx, rfl⟩) _ (List.mem_map.mpr ⟨kv, .head _, rfl⟩) he
    show mergeK (putK kvs kv.1 kv.2) more = _
    rw [e, mergeK_new more (kvs ++ [kv]) (by simpa using h)]
    simp
theorem Snd.dis {tvs : List TE} {fa : G → Out (List R)} {o : Bool} {ks : List Key} (hk : ks.Nodup) (hl : ks.length = tvs.length) (h15 : ks.length ≤ 15) (ha : Snd Z L W kRs (tAll tvs) fa) : Snd Z L W kR (tDisp (mkP ks tvs)) (fun g => (fa g).bind (disR o ks)) := by
  intro B F fp g σ H Q R s p hp
  rw [tPairs_eq ks tvs hl]
  have R1 := R.alloc (o := .dK []) hp
  have ap : Apart B F fp [p] := ⟨by simp, fun q hq => by simp at hq; subst hq; exact ⟨R.sF.none hp, R.sB.none hp⟩, fun q hq => by simp at hq; subst hq; exact R.fresh hp⟩
  have Rg := R1.guard ap
  refine ha _ _ _ _ _ _ _ Rg ?_
  unfold Sat
  replace s : Sat Z L W kR B F σ ((fa g).bind (disR o ks)) Q := s
  have sub : Sub B (fz B (upd H p (.dK [])) [p]) := fz_sub R1.sB
  have hbp : fz B (upd H p (.dK [])) [p] p = some (.dK []) := fz_mem (by simp) upd_same
  cases e : fa g with
  | bad => rw [e] at s; exact s
  | ex x g' => rw [e] at s; exact fun d F' fp' H' le R' xi => s d F' fp' H' (le.weak sub) (R'.weak sub R.sL) xi
  | ok rs g' =>
    rw [e] at s
    intro vs F' fp' H' le R' pr cl
    have cl : Cls Z L (fz B (upd H p (.dK [])) [p]) F' fp' σ H' vs rs := cl
    have hp' : H' p = some (.dK []) := R'.sB p _ hbp
    have hF' : F' p = none := by
      cases e2 : F' p with
      | none => rfl
      | some u =>
        rcases le.new p (by rw [e2]; simp) with h | h
        · exact absurd (R.sF.none hp) h
        · rw [hbp] at h; cases h
    have hn' : ∀ i, p ∉ fp' i := fun i hi => by
      have := (R'.dj i p hi).2
      rw [hbp] at this; cases this
    have Rw := R'.weak sub R.sL
    have hB := R.sB.none hp
    replace s : Sat Z L W kR B F σ (disR o ks rs g') Q := s
    unfold disR at s
    split at s
    · rename_i hlen
      have hlv : ks.length = vs.length := by rw [cl.len]; exact hlen
      refine ⟨hp', ks.zip vs, ?_, ?_, ?_⟩
      · rw [List.zip_map_left]; rfl
      · rw [List.length_zip]; omega
      · rw [mergeK_new _ _ (by rw [List.nil_append, List.map_fst_zip (by omega)]; exact hk), List.nil_append]
        cases o with
        | true =>
          simp only at s
          cases e3 : disT rs with
          | none => rw [e3] at s; exact s.elim
          | some ts =>
            rw [e3] at s
            obtain ⟨fq, ho, ap'⟩ := ts_own cl (disT_inv e3)
            have hq : p ∉ fq := fun h => by
              have := (ap'.dj p h).2
              rw [hbp] at this; cases this
            refine s (.ref p) F' fp' _ (le.weak sub) (Rw.over hF' hB hn') trivial (Cls.tree (.dk upd_same hlv (ho.frame (.refl F') (.refl L) fun q hq' => upd_ne (fun h => hq (h ▸ hq')))) ⟨List.nodup_cons.mpr ⟨hq, ap'.nd⟩, fun a ha => ?_, fun a ha => ?_⟩)
            · rcases List.mem_cons.mp ha with e | ha
              · subst e; exact ⟨hF', hB⟩
              · exact ⟨(ap'.dj a ha).1, sub.none (ap'.dj a ha).2⟩
            · rcases List.mem_cons.mp ha with e | ha
              · subst e; exact hn'
              · exact ap'.no a ha
        | false =>
          simp only at s
          cases e3 : disD rs with
          | none => rw [e3] at s; exact s.elim
          | some xs =>
            rw [e3] at s
            obtain ⟨ts, e1, e2⟩ := disD_inv e3
            obtain ⟨fq, ho, ap'⟩ := ts_own cl e1
            have hq : p ∉ fq := fun h => by
              have := (ap'.dj p h).2
              rw [hbp] at this; cases this
            have apw : Apart B F' fp' fq := ⟨ap'.nd, fun a ha => ⟨(ap'.dj a ha).1, sub.none (ap'.dj a ha).2⟩, ap'.no⟩
            obtain ⟨le2, R2, hx⟩ := Rw.freezeAll ho apw e2
            refine sat_put R2 (by rw [fz_out hq]; exact hF') hB hn' (.dk upd_same hlv (hx.mono (upd_sub (by rw [fz_out hq]; exact hF')))) (Sat.step ((le.weak sub).trans le2) s)
    · exact s.elim
theorem valV_zip {ks : List Key} {vs : List V} {k : Key} {n : Nat} {v : V} (h : posOf ks k = some n) (e : vs[n]? = some v) (hl : ks.length = vs.length) : valV (ks.zip vs) k = some v := by
  induction ks generalizing vs n with
  | nil => cases h
  | cons x ks ih =>
    cases vs with
    | nil => simp at hl
    | cons w vs =>
      unfold posOf at h
      by_cases hx : x = k
      · rw [if_pos hx] at h
        simp only [Option.some.injEq] at h
        subst h
        simp at e
        subst e
        exact valV_pos hx
      · rw [if_neg hx] at h
        obtain ⟨m, h1, h2⟩ := map_some h
        subst h2
        rw [List.zip_cons_cons, valV_neg hx]
        exact ih h1 (by simpa using e) (by simpa using hl)
theorem keyOf_is {v : V} {j : D} {k : Key} (h : Is Z F v j) (e : keyOf j = some k) : v = kV k := by
  cases h <;> first | (cases e; rfl) | (exact absurd e (by simp [keyOf]))
theorem two_dix {K : PySem.W.Frag} : Two Z L W (fun x y H Q => ∃ a v, x = .ref a ∧ DGet H a y (some v) ∧ Q v H) dixO := by
  intro B F fp g σ H va vb ra rb f1 f2 Q R pa pb ha hb ap s
  unfold dixO at s
  cases et : ra.tree g with
  | none => rw [et] at s; exact s.elim
  | some t =>
    rw [et] at s
    cases rb with
    | t u => cases u with
      | d j =>
        replace s : Sat Z L W kR B F σ (match dixR ra t j with | some (some r) => .ok r g | _ => .bad) Q := s
        cases ed : dixR ra t j with
        | none => rw [ed] at s; exact s.elim
        | some o => cases o with
          | none => rw [ed] at s; exact s.elim
          | some r =>
            rw [ed] at s
            obtain ⟨fu, ho⟩ := pa.own R ha et
            have hj := data_inv R (⟨pb, f2, hb, ap.right⟩ : Cls Z L B F fp σ H [vb] [.t (.d j)])
            have tree : ∀ {b : Bool} {ks : List Key} {ts : List T}, t = .dk b ks ts → ∃ a v, va = .ref a ∧ DGet H a vb (some v) ∧ Q v H := by
              intro b ks ts et
              subst et
              have ed' : (match keyOf j with | some k => (match posOf ks k with | some n => (kidR ra ts n).map some | none => some none) | none => none) = some (some r) := ed
              cases ek : keyOf j with
              | none => rw [ek] at ed'; cases ed'
              | some k =>
                rw [ek] at ed'
                simp only at ed'
                cases ep : posOf ks k with
                | none => rw [ep] at ed'; cases ed'
                | some n =>
                  rw [ep] at ed'
                  simp only at ed'
                  obtain ⟨r', e1, e2⟩ := map_some ed'
                  simp only [Option.some.injEq] at e2
                  subst e2
                  obtain ⟨p, o, vs, fk, rfl, hp, hk, ha', _, hx⟩ := ho.kids R.sLH (ts := ts) rfl
                  rcases hx with ⟨b, h, _⟩ | ⟨b, h, _⟩ | ⟨b, ks2, h, ho2, hl⟩ | ⟨b, c2, dx, ns2, h, ho2, hl⟩
                  · cases h
                  · cases h
                  · cases h
                    have hlt : n < vs.length := by rw [← hl]; exact pos_lt ep
                    have hw : vs[n]? = some vs[n] := List.getElem?_eq_getElem hlt
                    refine ⟨p, vs[n], rfl, ?_, kid_sat R pa rfl hp hk ha' e1 hw s⟩
                    rw [keyOf_is hj ek, ← valV_zip ep hw hl]
                    exact DGet.k (by rw [hp, ho2])
                  · cases h
            cases t with
            | dk b ks ts => exact tree rfl
            | d x => cases ho with
              | d h => cases h with
                | @dk p ks vs xs h hl a =>
                  have ed' : (match keyOf j with | some k => (match posOf ks k with | some n => (xs[n]?).map fun x => some (Wh.R.t (.d x)) | none => some none) | none => none) = some (some r) := ed
                  cases ek : keyOf j with
                  | none => rw [ek] at ed'; cases ed'
                  | some k =>
                    rw [ek] at ed'
                    simp only at ed'
                    cases ep : posOf ks k with
                    | none => rw [ep] at ed'; cases ed'
                    | some n =>
                      rw [ep] at ed'
                      simp only at ed'
                      obtain ⟨y, e1, e2⟩ := map_some ed'
                      simp only [Option.some.injEq] at e2
                      subst e2
                      obtain ⟨w, hw, hy⟩ := a.get e1
                      refine ⟨p, w, rfl, ?_, sat_data R hy s⟩
                      rw [keyOf_is hj ek, ← valV_zip ep hw hl]
                      exact DGet.k (R.sF _ _ h)
                | _ => cases ed
            | _ => cases ed
      | _ => exact s.elim
    | _ => exact s.elim
end
end Wh

/-! Wh, part 11: statements: names, blocks, branches, results. -/
namespace Wh
open PySem L2

/-- slots that are not stored to are as they were -/
def Kp (as : List Nat) (σ σ' : L2.St) : Prop := ∀ i, i ∉ as → σ'[i]? = σ[i]?
theorem Kp.refl (as : List Nat) (σ : L2.St) : Kp as σ σ := fun _ _ => rfl
theorem Kp.trans {as : List Nat} {σ σ1 σ2 : L2.St} (a : Kp as σ σ1) (b : Kp as σ1 σ2) : Kp as σ σ2 := fun i h => (b i h).trans (a i h)
theorem Kp.mono {as bs : List Nat} {σ σ1 : L2.St} (s : ∀ i ∈ as, i ∈ bs) (a : Kp as σ σ1) : Kp bs σ σ1 := fun i h => a i fun h' => h (s i h')
theorem Kp.set {i : Nat} {σ : L2.St} {v : Option V} : Kp [i] σ (σ.set i v) := fun j h => by
  rw [List.getElem?_set_ne]
  intro e; subst e; exact h (by simp)

def SatS (Z : Ctx) (L : Hp) (W : WX) (as : List Nat) (B F : Hp) (σ : L2.St) (o : SO) (D : Ends) : Prop := match o with
  | .nx g' => ∀ F' fp' σ' H', Le B F F' → Rel Z L B F' fp' g' σ' H' → Kp as σ σ' → D.nx σ' H'
  | .bk g' => ∀ F' fp' σ' H', Le B F F' → Rel Z L B F' fp' g' σ' H' → Kp as σ σ' → D.bk σ' H'
  | .ct g' => ∀ F' fp' σ' H', Le B F F' → Rel Z L B F' fp' g' σ' H' → Kp as σ σ' → D.ct σ' H'
  | .rt t g' => ∀ v F' fp' σ' H' fq, Le B F F' → Rel Z L B F' fp' g' σ' H' → Kp as σ σ' → Own Z L F' H' v t fq → Apart B F' fp' fq → D.rt v H'
  | .ex e g' => ∀ d F' fp' σ' H', Le B F F' → Rel Z L B F' fp' g' σ' H' → Kp as σ σ' → XIs Z F' H' d e → W (.ref (Z.ca e.c)) (some d) σ' H'
  | .bad => False
def SndS (Z : Ctx) (L : Hp) (W : WX) (as : List Nat) (t : TS) (f : G → SO) : Prop :=
  ∀ B F fp g σ H D, Rel Z L B F fp g σ H → SatS Z L W as B F σ (f g) D → t D σ H

section
variable {Z : Ctx} {L B B' F F' F1 H H' : Hp} {fp fp' : Nat → List Addr} {g g' : G} {σ σ1 : L2.St} {W : WX} {as : List Nat} {D : Ends}
theorem SatS.step {o : SO} (le : Le B F F1) (k : Kp as σ σ1) (s : SatS Z L W as B F σ o D) : SatS Z L W as B F1 σ1 o D := by
  unfold SatS at *
  cases o with
  | nx g => exact fun F' fp' σ' H' l R kk => s F' fp' σ' H' (le.trans l) R (k.trans kk)
  | bk g => exact fun F' fp' σ' H' l R kk => s F' fp' σ' H' (le.trans l) R (k.trans kk)
  | ct g => exact fun F' fp' σ' H' l R kk => s F' fp' σ' H' (le.trans l) R (k.trans kk)
  | rt t g => exact fun v F' fp' σ' H' fq l R kk => s v F' fp' σ' H' fq (le.trans l) R (k.trans kk)
  | ex e g => exact fun d F' fp' σ' H' l R kk => s d F' fp' σ' H' (le.trans l) R (k.trans kk)
  | bad => exact s
theorem SatS.sub {o : SO} {bs : List Nat} (h : ∀ i ∈ bs, i ∈ as) (s : SatS Z L W as B F σ o D) : SatS Z L W bs B F σ o D := by
  unfold SatS at *
  cases o with
  | nx g => exact fun F' fp' σ' H' l R kk => s F' fp' σ' H' l R (kk.mono h)
  | bk g => exact fun F' fp' σ' H' l R kk => s F' fp' σ' H' l R (kk.mono h)
  | ct g => exact fun F' fp' σ' H' l R kk => s F' fp' σ' H' l R (kk.mono h)
  | rt t g => exact fun v F' fp' σ' H' fq l R kk => s v F' fp' σ' H' fq l R (kk.mono h)
  | ex e g => exact fun d F' fp' σ' H' l R kk => s d F' fp' σ' H' l R (kk.mono h)
  | bad => exact s
/-- more is kept than the base asks -/
theorem SatS.base {o : SO} (h : Sub B B') (sL : Sub L B) (s : SatS Z L W as B F σ o D) : SatS Z L W as B' F σ o D := by
  unfold SatS at *
  cases o with
  | nx g => exact fun F' fp' σ' H' l R kk => s F' fp' σ' H' (l.weak h) (R.weak h sL) kk
  | bk g => exact fun F' fp' σ' H' l R kk => s F' fp' σ' H' (l.weak h) (R.weak h sL) kk
  | ct g => exact fun F' fp' σ' H' l R kk => s F' fp' σ' H' (l.weak h) (R.weak h sL) kk
  | rt t g => exact fun v F' fp' σ' H' fq l R kk ho ap => s v F' fp' σ' H' fq (l.weak h) (R.weak h sL) kk ho (ap.weak h)
  | ex e g => exact fun d F' fp' σ' H' l R kk => s d F' fp' σ' H' (l.weak h) (R.weak h sL) kk
  | bad => exact s
theorem SndS.sub {t : TS} {f : G → SO} {bs : List Nat} (h : ∀ i ∈ bs, i ∈ as) (s : SndS Z L W bs t f) : SndS Z L W as t f := fun B F fp g σ H D R q => s B F fp g σ H D R (q.sub h)
theorem app_l {α : Type} {as bs : List α} : ∀ i ∈ as, i ∈ as ++ bs := fun i h => List.mem_append_left _ h
theorem app_r {α : Type} {as bs : List α} : ∀ i ∈ bs, i ∈ as ++ bs := fun i h => List.mem_append_right _ h

/-- an expression, then what follows -/
theorem Snd.so {α β : Type} {k : Kd α β} {t : L2.St → Hp → (β → Hp → Prop) → Prop} {f : G → Out α} (h : Snd Z L W k t f) {f2 : α → G → SO} {t2 : β → TS}
    (h2 : ∀ {B F : Hp} {fp : Nat → List Addr} {g : G} {σ : L2.St} {H : Hp} {b : β} {a : α} {D : Ends}, Rel Z L B F fp g σ H → k.pr b a → Cls Z L B F fp σ H (k.rv b) (k.rr a) → SatS Z L W as B F σ (f2 a g) D → t2 b D σ H) :
    SndS Z L W as (fun D σ H => t σ H fun b H1 => t2 b D σ H1) (fun g => (f g).so f2) := by
  intro B F fp g σ H D R s
  replace s : SatS Z L W as B F σ ((f g).so f2) D := s
  refine h _ _ _ _ _ _ _ R ?_
  unfold Sat
  cases e : f g with
  | bad => rw [e] at s; exact s
  | ex x g' => rw [e] at s; exact fun d F' fp' H' le R' xi => s d F' fp' σ H' le R' (.refl _ _) xi
  | ok a g' =>
    rw [e] at s
    exact fun b F' fp' H' le R' pr cl => h2 R' pr cl (SatS.step le (.refl _ _) s)

/-! ### a slot takes a value -/
theorem Rel.store (R : Rel Z L B F fp g σ H) (i : Nat) {v : V} {t : T} {fq f2 : List Addr} (ho : Own Z L F H v t fq) (ap : Apart B F fp (fq ++ f2)) : ∃ fp', Rel Z L B F fp' (g.set i t) (σ.set i (some v)) H ∧ Apart B F fp' f2 := by
  by_cases hi : i < g.length
  · have R1 := (R.take i).1
    have hs : i < σ.length := by rw [R.ls]; exact hi
    have R2 : Rel Z L B F (upf fp i []) (g.set i .un) (σ.set i (some v)) H := ⟨by simpa using R.ls, fun j u e => by
      by_cases h : j = i
      · subst h
        rw [List.getElem?_set_self hi] at e
        simp only [Option.some.injEq] at e
        exact .inl ⟨e.symm, upf_same⟩
      · rcases R1.sl j u e with h1 | ⟨w, h1, h2⟩
        · exact .inl h1
        · exact .inr ⟨w, by rw [List.getElem?_set_ne (Ne.symm h)]; exact h1, h2⟩, R1.out, R1.sF, R1.sB, R1.sL, R1.nd, R1.ds, R1.dj⟩
    have apo : ∀ {fx : List Addr}, Apart B F fp fx → Apart B F (upf fp i []) fx := fun {fx} a => ⟨a.nd, a.dj, fun p hp j hj => by
      by_cases h : j = i
      · subst h; rw [upf_same] at hj; simp at hj
      · rw [upf_ne h] at hj; exact a.no p hp j hj⟩
    have R3 := R2.give (i := i) (v := v) (by rw [List.getElem?_set_self hs]) upf_same ho (apo ap.left)
    have eg : (g.set i .un).set i t = g.set i t := by simp
    rw [eg] at R3
    refine ⟨_, R3, ap.right.nd, ap.right.dj, fun p hp j hj => ?_⟩
    by_cases h : j = i
    · subst h
      rw [upf_same] at hj
      exact (List.nodup_append.mp ap.nd).2.2 p hj p hp rfl
    · rw [upf_ne h] at hj
      exact (apo ap.right).no p hp j hj
  · have e1 : g.set i t = g := List.set_eq_of_length_le (by omega)
    have e2 : σ.set i (some v) = σ := List.set_eq_of_length_le (by rw [R.ls]; omega)
    rw [e1, e2]
    exact ⟨fp, R, ap.right⟩
theorem Own.bnd {v : V} {u : T} {fu : List Addr} (h : Own Z L F H v u fu) (hb : u.bnd = true) : Own Z L F H v u [] := by
  cases h with
  | d h => exact .d h
  | lst _ _ => simp [T.bnd] at hb
  | tup _ _ => simp [T.bnd] at hb
  | dk _ _ _ => simp [T.bnd] at hb
  | obj _ _ _ => simp [T.bnd] at hb
  | lstb h a => exact .lstb h a
  | tupb h a => exact .tupb h a
  | dkb h l a => exact .dkb h l a
  | objb h l a => exact .objb h l a
  | scr h => exact .scr h
  | xo _ _ _ => simp [T.bnd] at hb
  | un => simp [T.bnd] at hb
/-- what is kept of a result, stored as i says -/
theorem keep_inv {v : V} {r : R} {o : Bool} {t : T} (R : Rel Z L B F fp g σ H) (cl : Cls Z L B F fp σ H [v] [r]) (e : Wh.R.keep g o r = some t) : ∃ F' fq, Le B F F' ∧ Rel Z L B F' fp g σ H ∧ Own Z L F' H v t fq ∧ Apart B F' fp fq := by
  obtain ⟨pl, fq, ho, ap⟩ := cl
  cases r with
  | t u =>
    have ho' : OwnAll Z L F H [v] [u] fq := ho
    obtain ⟨f1, h1⟩ : ∃ f1, Own Z L F H v u f1 ∧ f1 = fq := by
      cases ho' with
      | @cons _ _ _ _ f1 f2 a b => cases b; exact ⟨f1, a, by simp⟩
    obtain ⟨h1, rfl⟩ := h1
    cases o with
    | true =>
      simp only [Wh.R.keep, Option.some.injEq] at e
      subst e
      exact ⟨F, f1, .refl B F, R, h1, ap⟩
    | false =>
      simp only [Wh.R.keep] at e
      cases ed : u.toD with
      | some x =>
        rw [ed] at e
        simp only [Option.some.injEq] at e
        subst e
        obtain ⟨le, R2, hx⟩ := R.freeze h1 ap ed
        exact ⟨_, [], le, R2, .d hx, .nil⟩
      | none =>
        rw [ed] at e
        simp only at e
        split at e
        · rename_i hb
          simp only [Option.some.injEq] at e
          subst e
          exact ⟨F, [], .refl B F, R, h1.bnd hb, .nil⟩
        · cases e
  | p i q =>
    cases o with
    | true => simp [Wh.R.keep] at e
    | false =>
      simp only [Wh.R.keep] at e
      cases et : Wh.R.tree g (.p i q) with
      | none => rw [et] at e; cases e
      | some u =>
        rw [et] at e
        simp only at e
        split at e
        · rename_i hb
          simp only [Option.some.injEq] at e
          subst e
          obtain ⟨fu, hu⟩ := pl.own R ho et
          exact ⟨F, [], .refl B F, R, hu.bnd hb, .nil⟩
        · cases e
  | m i => cases o <;> simp [Wh.R.keep] at e
theorem SndS.asg {te : TE} {f : G → Out R} {i : Nat} {o : Bool} (he : Snd Z L W kR te f) (hi : i ∈ as) : SndS Z L W as (tAsg te (gName i)) (fun g => (f g).so (asgS i o)) := by
  refine Snd.so (t2 := fun x D σ H1 => gName i x σ H1 D.nx) he fun {B F fp g σ H v r D} R _ cl s => ?_
  have cl : Cls Z L B F fp σ H [v] [r] := cl
  unfold asgS at s
  cases e : Wh.R.keep g o r with
  | none => rw [e] at s; exact s.elim
  | some t =>
    rw [e] at s
    simp only at s
    split at s
    · obtain ⟨F', fq, le, R', ho, ap⟩ := keep_inv R cl e
      obtain ⟨fp', R2, _⟩ := R'.store i ho (f2 := []) (by simpa using ap)
      exact s F' fp' _ H le R2 (Kp.set.mono fun j hj => by simp at hj; subst hj; exact hi)
    · exact s.elim
/-! ### several slots -/
def gNames : List Nat → TGs
  | [] => gNil
  | i :: is => gCons (gName i) (gNames is)
theorem setAll_ok {is : List Nat} : ∀ {B F : Hp} {fp : Nat → List Addr} {g g1 : G} {σ : L2.St} {vs : List V} {ts : List T} {fq : List Addr} {Q : L2.St → Hp → Prop}, Rel Z L B F fp g σ H → OwnAll Z L F H vs ts fq → Apart B F fp fq → setAll g is ts = some g1 →
    (∀ fp' σ', Rel Z L B F fp' g1 σ' H → Kp is σ σ' → Q σ' H) → gNames is vs σ H Q := by
  induction is with
  | nil =>
    intro B F fp g g1 σ vs ts fq Q R ho ap e h
    cases ts with
    | nil =>
      cases ho
      simp only [setAll, Option.some.injEq] at e
      subst e
      exact ⟨rfl, h fp σ R (.refl _ _)⟩
    | cons _ _ => simp [setAll] at e
  | cons i is ih =>
    intro B F fp g g1 σ vs ts fq Q R ho ap e h
    cases ho with
    | nil => simp [setAll] at e
    | @cons v vs t ts f1 f2 a b =>
      simp only [setAll] at e
      obtain ⟨fp1, R1, ap1⟩ := R.store i a ap
      refine ⟨v, vs, rfl, ?_⟩
      exact ih R1 b ap1 e fun fp' σ' R' k => h fp' σ' R' ((Kp.set.mono (by simp)).trans (k.mono fun j hj => by simp [hj]))
/-- a, b, .. = e -/
theorem SndS.asgT {K : PySem.W.Frag} (hK : K = Z.K) {te : TE} {f : G → Out R} {is : List Nat} (he : Snd Z L W kR te f) (hi : ∀ i ∈ is, i ∈ as) : SndS Z L W as (tAsg te (gTup K is.length (gNames is))) (fun g => (f g).so (asgTS is)) := by
  subst hK
  refine Snd.so (t2 := fun x D σ H1 => gTup Z.K is.length (gNames is) x σ H1 D.nx) he fun {B F fp g σ H v r D} R _ cl s => ?_
  have cl : Cls Z L B F fp σ H [v] [r] := cl
  have lenA : ∀ {is : List Nat} {ts : List T} {g g1 : G}, setAll g is ts = some g1 → ts.length = is.length := by
    intro is
    induction is with
    | nil => intro ts g g1 e; cases ts with
      | nil => rfl
      | cons _ _ => simp [setAll] at e
    | cons i is ih => intro ts g g1 e; cases ts with
      | nil => simp [setAll] at e
      | cons t ts => simp only [setAll] at e; simp [ih e]
  have go : ∀ {p : Addr} {vs : List V} {ts : List T} {fq : List Addr} {g1 : G}, v = .ref p → SqT Z.K H p vs → OwnAll Z L F H vs ts fq → Apart B F fp fq → setAll g is ts = some g1 → SatS Z L W as B F σ (.nx g1) D → gTup Z.K is.length (gNames is) v σ H D.nx :=
    fun {p vs ts fq g1} ev hs ho ap e s => ⟨p, vs, ev, hs, by rw [ho.length, lenA e], setAll_ok R ho ap e fun fp' σ' R' k => s F fp' σ' H (.refl B F) R' (k.mono hi)⟩
  obtain ⟨pl, fq, ho, ap⟩ := cl
  unfold asgTS at s
  cases r with
  | t u =>
    have ho' : OwnAll Z L F H [v] [u] fq := ho
    cases ho' with
    | @cons _ _ _ _ f1 f2 a b =>
      cases b
      have ap1 : Apart B F fp f1 := ap.left
      cases a with
      | d h =>
        cases h with
        | @tup p vs xs h a =>
          simp only at s
          cases e : setAll g is (xs.map .d) with
          | none => rw [e] at s; exact s.elim
          | some g1 => rw [e] at s; exact go rfl (R.sF.sqt h) (.data a) .nil e s
        | _ => exact s.elim
      | @tup p vs ts fk h a =>
        simp only at s
        cases e : setAll g is ts with
        | none => rw [e] at s; exact s.elim
        | some g1 =>
          rw [e] at s
          refine go rfl (.of h) a ⟨(List.nodup_cons.mp ap1.nd).2, fun q hq => ap1.dj q (by simp [hq]), fun q hq => ap1.no q (by simp [hq])⟩ e s
      | _ => exact s.elim
  | p i q =>
    simp only at s
    cases et : Wh.R.tree g (.p i q) with
    | none => rw [et] at s; exact s.elim
    | some u =>
      rw [et] at s
      obtain ⟨fu, hu⟩ := pl.own R ho et
      cases hu with
      | @tupb p vs ts h a =>
        simp only at s
        cases e : setAll g is ts with
        | none => rw [e] at s; exact s.elim
        | some g1 => rw [e] at s; exact go rfl (.of (R.sLH _ _ h)) a .nil e s
      | _ => exact s.elim
  | m i => exact s.elim

/-- a, b, .. = a list -/
theorem SndS.asgL {K : PySem.W.Frag} (hK : K = Z.K) {te : TE} {f : G → Out R} {is : List Nat} (he : Snd Z L W kR te f) (hi : ∀ i ∈ is, i ∈ as) : SndS Z L W as (tAsg te (gLst K is.length (gNames is))) (fun g => (f g).so (asgLS is)) := by
  subst hK
  refine Snd.so (t2 := fun x D σ H1 => gLst Z.K is.length (gNames is) x σ H1 D.nx) he fun {B F fp g σ H v r D} R _ cl s => ?_
  have cl : Cls Z L B F fp σ H [v] [r] := cl
  have lenA : ∀ {is : List Nat} {ts : List T} {g g1 : G}, setAll g is ts = some g1 → ts.length = is.length := by
    intro is
    induction is with
    | nil => intro ts g g1 e; cases ts with
      | nil => rfl
      | cons _ _ => simp [setAll] at e
    | cons i is ih => intro ts g g1 e; cases ts with
      | nil => simp [setAll] at e
      | cons t ts => simp only [setAll] at e; simp [ih e]
  obtain ⟨pl, fq, ho, ap⟩ := cl
  unfold asgLS at s
  cases r with
  | t u =>
    have ho' : OwnAll Z L F H [v] [u] fq := ho
    cases ho' with
    | @cons _ _ _ _ f1 f2 a b =>
      cases b
      cases a with
      | d h =>
        cases h with
        | @lst p vs xs h a =>
          simp only at s
          cases e : setAll g is (xs.map .d) with
          | none => rw [e] at s; exact s.elim
          | some g1 =>
            rw [e] at s
            exact ⟨p, vs, rfl, .of (R.sF _ _ h), by rw [a.length, ← lenA e, List.length_map], setAll_ok R (.data a) .nil e fun fp' σ' R' k => s F fp' σ' H (.refl B F) R' (k.mono hi)⟩
        | _ => exact s.elim
      | _ => exact s.elim
  | p i q => exact s.elim
  | m i => exact s.elim

/-! ### blocks -/
theorem snds_nx : SndS Z L W as tNext (fun g => .nx g) := fun B F fp g σ H D R s => s F fp σ H (.refl B F) R (.refl _ _)
theorem snds_bk : SndS Z L W as tBreak (fun g => .bk g) := fun B F fp g σ H D R s => s F fp σ H (.refl B F) R (.refl _ _)
theorem snds_ct : SndS Z L W as tCont (fun g => .ct g) := fun B F fp g σ H D R s => s F fp σ H (.refl B F) R (.refl _ _)
theorem snds_retN : SndS Z L W as tRetN (fun g => .rt (.d .non) g) := fun B F fp g σ H D R s => s .non F fp σ H [] (.refl B F) R (.refl _ _) (.d .non) .nil
theorem SndS.seq {t u : TS} {f h : G → SO} (a : SndS Z L W as t f) (b : SndS Z L W as u h) : SndS Z L W as (tSeq t u) (fun g => (f g).seq h) := by
  intro B F fp g σ H D R s
  replace s : SatS Z L W as B F σ ((f g).seq h) D := s
  refine a B F fp g σ H _ R ?_
  unfold SatS
  cases e : f g with
  | nx g' => rw [e] at s; exact fun F' fp' σ' H' le R' k => b B F' fp' g' σ' H' D R' (SatS.step le k s)
  | bk g' => rw [e] at s; exact s
  | ct g' => rw [e] at s; exact s
  | rt t g' => rw [e] at s; exact s
  | ex x g' => rw [e] at s; exact s
  | bad => rw [e] at s; exact s
theorem SndS.drop {te : TE} {f : G → Out R} (he : Snd Z L W kR te f) : SndS Z L W as (tDrop te) (fun g => (f g).so fun _ g1 => .nx g1) :=
  Snd.so (t2 := fun _ D σ H1 => D.nx σ H1) he fun {B F fp g σ H v r D} R _ cl s => s F fp σ H (.refl B F) R (.refl _ _)
theorem SndS.cond {tc : TT} {t u : TS} {fc : G → Out Bool} {f h : G → SO} (c : Snd Z L W kB tc fc) (a : SndS Z L W as t f) (b : SndS Z L W as u h) : SndS Z L W as (tIfS tc t u) (fun g => (fc g).so fun k g1 => match k with
      | true => f g1
      | false => h g1) :=
  Snd.so (t2 := fun k D σ H1 => if k = true then t D σ H1 else u D σ H1) c fun {B F fp g σ H v r D} R pr cl s => by
    have pr : v = r := pr
    subst pr
    cases v with
    | true => exact a B F fp g σ H D R s
    | false => exact b B F fp g σ H D R s
theorem SndS.ret {te : TE} {f : G → Out R} {o : Bool} (he : Snd Z L W kR te f) : SndS Z L W as (tRet te) (fun g => (f g).so (retS o)) :=
  Snd.so (t2 := fun x D σ H1 => D.rt x H1) he fun {B F fp g σ H v r D} R _ cl s => by
    have cl : Cls Z L B F fp σ H [v] [r] := cl
    unfold retS at s
    cases r with
    | t u =>
      obtain ⟨pl, fq, ho, ap⟩ := cl
      have ho' : OwnAll Z L F H [v] [u] fq := ho
      cases ho' with
      | @cons _ _ _ _ f1 f2 a b =>
        cases b
        have ap1 : Apart B F fp f1 := ap.left
        cases o with
        | true =>
          simp only at s
          split at s
          · exact s v F fp σ H f1 (.refl B F) R (.refl _ _) a ap1
          · exact s.elim
        | false =>
          simp only at s
          cases ed : u.toD with
          | none => rw [ed] at s; exact s.elim
          | some x =>
            rw [ed] at s
            obtain ⟨le, R2, hx⟩ := R.freeze a ap1 ed
            exact s v _ fp σ H [] le R2 (.refl _ _) (.d hx) .nil
    | p i q => cases o <;> exact s.elim
    | m i => cases o <;> exact s.elim
end
end Wh

/-! Wh, part 12: what is walked; for, while. -/
namespace Wh
open PySem L2

/-- the iterator J yields the trees ts as long as what it leans on stays -/
def Walk (Z : Ctx) (L F H : Hp) (J : It) (ts : List T) (fq : List Addr) : Prop :=
  ∀ F' H', Sub F F' → Sub F' H' → Sub L H' → (∀ q ∈ fq, H' q = H q) → ∀ i,
    (ts.length ≤ i → J.stop i H') ∧ ∀ t, ts[i]? = some t → J.go i H' ∧ ∀ x H'', J.yld i H' x H'' → H'' = H' ∧ Own Z L F' H' x t []
def LkOk (B F H : Hp) (fp : Nat → List Addr) (fq : List Addr) : Option Nat → Prop
  | none => Apart B F fp fq ∧ ∀ q ∈ fq, ∃ o, H q = some o
  | some i => fq = fp i
def SatI (Z : Ctx) (L : Hp) (W : WX) (B F : Hp) (σ : L2.St) (o : Out (List T × Option Nat)) (Q : It → Hp → Prop) : Prop := match o with
  | .ok a g' => ∀ J F' fp' H' fq, Le B F F' → Rel Z L B F' fp' g' σ H' → Walk Z L F' H' J a.1 fq → LkOk B F' H' fp' fq a.2 → Q J H'
  | .ex x g' => ∀ d F' fp' H', Le B F F' → Rel Z L B F' fp' g' σ H' → XIs Z F' H' d x → W (.ref (Z.ca x.c)) (some d) σ H'
  | .bad => False
def SndI (Z : Ctx) (L : Hp) (W : WX) (t : TI) (f : G → Out (List T × Option Nat)) : Prop :=
  ∀ B F fp g σ H Q, Rel Z L B F fp g σ H → SatI Z L W B F σ (f g) Q → t σ H Q

section
variable {Z : Ctx} {L B B' F F' F1 H H' : Hp} {fp fp' : Nat → List Addr} {g g' : G} {σ σ1 : L2.St} {W : WX} {as : List Nat} {D : Ends}
theorem SatI.step {o : Out (List T × Option Nat)} {Q : It → Hp → Prop} (le : Le B F F1) (s : SatI Z L W B F σ o Q) : SatI Z L W B F1 σ o Q := by
  unfold SatI at *
  cases o with
  | ok a g => exact fun J F' fp' H' fq l R => s J F' fp' H' fq (le.trans l) R
  | ex x g => exact fun d F' fp' H' l R => s d F' fp' H' (le.trans l) R
  | bad => exact s
theorem Snd.bindI {α β : Type} {k : Kd α β} {t : L2.St → Hp → (β → Hp → Prop) → Prop} {f : G → Out α} (h : Snd Z L W k t f) {f2 : α → G → Out (List T × Option Nat)} {t2 : β → TI}
    (h2 : ∀ {B F : Hp} {fp : Nat → List Addr} {g : G} {σ : L2.St} {H : Hp} {b : β} {a : α} {Q : It → Hp → Prop}, Rel Z L B F fp g σ H → k.pr b a → Cls Z L B F fp σ H (k.rv b) (k.rr a) → SatI Z L W B F σ (f2 a g) Q → t2 b σ H Q) :
    SndI Z L W (fun σ H Q => t σ H fun b H1 => t2 b σ H1 Q) (fun g => (f g).bind f2) := by
  intro B F fp g σ H Q R s
  replace s : SatI Z L W B F σ ((f g).bind f2) Q := s
  refine h _ _ _ _ _ _ _ R ?_
  unfold Sat
  cases e : f g with
  | bad => rw [e] at s; exact s
  | ex x g' => rw [e] at s; exact s
  | ok a g' =>
    rw [e] at s
    exact fun b F' fp' H' le R' pr cl => h2 R' pr cl (SatI.step le s)

/-- a list or a tuple is walked -/
def iSeq (K : PySem.W.Frag) (tl : TE) : TI := fun σ H R => tl σ H fun x H1 => ∃ a, x = .ref a ∧ (((∃ xs, SqL K H1 a xs) ∧ R (Itl K a) H1) ∨ ((∃ xs, SqT K H1 a xs) ∧ R (Itt K a) H1))
theorem walk_l {K : PySem.W.Frag} {p : Addr} {vs : List V} {ts : List T} {fq fk : List Addr} (hs : ∀ F' H', Sub F F' → Sub F' H' → Sub L H' → (∀ q ∈ fq, H' q = H q) → SqL K H' p vs) (ho : OwnAll Z L F H vs ts fk) (hb : ts.all T.bnd = true) : Walk Z L F H (Itl K p) ts fq := by
  intro F' H' s1 s2 s3 k i
  have q := hs F' H' s1 s2 s3 k
  refine ⟨fun hl => ⟨vs, q, by rw [ho.length]; exact hl⟩, fun t e => ?_⟩
  obtain ⟨x, f1, e1, ow, _⟩ := ho.get e
  have ow' : Own Z L F' H' x t [] := (ow.bnd (List.all_eq_true.mp hb t (List.mem_of_getElem? e))).frame s1 (.refl L) (by simp)
  refine ⟨⟨vs, x, q, e1⟩, fun y H'' ⟨e2, h⟩ => ⟨e2, ?_⟩⟩
  have := h vs q
  rw [e1] at this
  cases this
  exact ow'
theorem walk_t {K : PySem.W.Frag} {p : Addr} {vs : List V} {ts : List T} {fq fk : List Addr} (hs : ∀ F' H', Sub F F' → Sub F' H' → Sub L H' → (∀ q ∈ fq, H' q = H q) → SqT K H' p vs) (ho : OwnAll Z L F H vs ts fk) (hb : ts.all T.bnd = true) : Walk Z L F H (Itt K p) ts fq := by
  intro F' H' s1 s2 s3 k i
  have q := hs F' H' s1 s2 s3 k
  refine ⟨fun hl => ⟨vs, q, by rw [ho.length]; exact hl⟩, fun t e => ?_⟩
  obtain ⟨x, f1, e1, ow, _⟩ := ho.get e
  have ow' : Own Z L F' H' x t [] := (ow.bnd (List.all_eq_true.mp hb t (List.mem_of_getElem? e))).frame s1 (.refl L) (by simp)
  refine ⟨⟨vs, x, q, e1⟩, fun y H'' ⟨e2, h⟩ => ⟨e2, ?_⟩⟩
  have := h vs q
  rw [e1] at this
  cases this
  exact ow'
theorem bnd_data {xs : List Wh.D} : (xs.map T.d).all T.bnd = true := by
  rw [List.all_eq_true]
  intro t ht
  obtain ⟨x, _, rfl⟩ := List.mem_map.mp ht
  rfl
theorem snd_seq {K : PySem.W.Frag} (hK : K = Z.K) {ta : TE} {fa : G → Out R} (ha : Snd Z L W kR ta fa) : SndI Z L W (iSeq K ta) (fun g => (fa g).bind itmR) := by
  subst hK
  refine Snd.bindI (t2 := fun x σ H1 R => ∃ a, x = .ref a ∧ (((∃ xs, SqL Z.K H1 a xs) ∧ R (Itl Z.K a) H1) ∨ ((∃ xs, SqT Z.K H1 a xs) ∧ R (Itt Z.K a) H1))) ha fun {B F fp g σ H v r Q} R _ cl s => ?_
  have cl : Cls Z L B F fp σ H [v] [r] := cl
  unfold itmR at s
  cases et : r.tree g with
  | none => rw [et] at s; exact s.elim
  | some t =>
    rw [et] at s
    simp only at s
    cases ei : itemsT t with
    | none => rw [ei] at s; exact s.elim
    | some ts =>
      rw [ei] at s
      -- where the footprint lies
      obtain ⟨fu, fq, hu, lk, hsub⟩ : ∃ fu fq, Own Z L F H v t fu ∧ LkOk B F H fp fq (r.lock t) ∧ ∀ p ∈ fu, p ∈ fq := by
        obtain ⟨pl, fq, ho, ap⟩ := cl
        cases r with
        | t u =>
          simp only [Wh.R.tree, Option.some.injEq] at et
          subst et
          have ho' : OwnAll Z L F H [v] [u] fq := ho
          cases ho' with
          | @cons _ _ _ _ f1 f2 a b => cases b; exact ⟨f1, f1, a, ⟨ap.left, a.has⟩, fun _ h => h⟩
        | p i q =>
          cases pl with
          | @p _ v0 _ _ _ _ e pv h =>
          cases h
          have et2 : (match g[i]? with | some u => u.look q | none => none) = some t := et
          cases eg : g[i]? with
          | none => rw [eg] at et2; cases et2
          | some t0 =>
            rw [eg] at et2
            rcases R.sl i t0 eg with ⟨eun, _⟩ | ⟨w, ew, how⟩
            · subst eun
              cases q with
              | nil =>
                simp only [T.look, Option.some.injEq] at et2
                subst et2
                simp [itemsT] at ei
              | cons k q => simp [T.look, T.kids] at et2
            · rw [e] at ew
              simp only [Option.some.injEq] at ew
              subst ew
              obtain ⟨fu, rest, hperm, hu, _⟩ := how.place R.sLH q et2 pv
              by_cases hb : t.bnd = true
              · exact ⟨[], [], hu.bnd hb, by simp [Wh.R.lock, hb]; exact ⟨.nil, by simp⟩, by simp⟩
              · exact ⟨fu, fp i, hu, by simp [Wh.R.lock, hb, LkOk], fun p hp => hperm.mem_iff.mpr (by simp [hp])⟩
        | m i => simp [Wh.R.tree] at et
      have fin : ∀ {J : It}, Walk Z L F H J ts fq → Q J H := fun {J} w => s J F fp H fq (.refl B F) R w lk
      cases hu with
      | d h =>
        cases h with
        | @lst p vs xs h a =>
          simp only [itemsT, Option.some.injEq] at ei; subst ei
          exact ⟨p, rfl, .inl ⟨⟨vs, .of (R.sF _ _ h)⟩, fin (walk_l (fun F' H' s1 s2 _ _ => .of (s2 _ _ (s1 _ _ h))) (.data a) bnd_data)⟩⟩
        | @tup p vs xs h a =>
          simp only [itemsT, Option.some.injEq] at ei; subst ei
          exact ⟨p, rfl, .inr ⟨⟨vs, R.sF.sqt h⟩, fin (walk_t (fun F' H' s1 s2 _ _ => (s1.trans s2).sqt h) (.data a) bnd_data)⟩⟩
        | _ => simp [itemsT] at ei
      | @lst p vs _ fk h a =>
        simp only [itemsT] at ei
        split at ei
        · rename_i hb
          simp only [Option.some.injEq] at ei; subst ei
          exact ⟨p, rfl, .inl ⟨⟨vs, .of h⟩, fin (walk_l (fun F' H' _ _ _ k => .of ((k p (hsub p (by simp))).trans h)) a hb)⟩⟩
        · cases ei
      | @lstb p vs _ h a =>
        simp only [itemsT] at ei
        split at ei
        · rename_i hb
          simp only [Option.some.injEq] at ei; subst ei
          exact ⟨p, rfl, .inl ⟨⟨vs, .of (R.sLH _ _ h)⟩, fin (walk_l (fun F' H' _ _ s3 _ => .of (s3 _ _ h)) a hb)⟩⟩
        · cases ei
      | @tup p vs _ fk h a =>
        simp only [itemsT] at ei
        split at ei
        · rename_i hb
          simp only [Option.some.injEq] at ei; subst ei
          exact ⟨p, rfl, .inr ⟨⟨vs, .of h⟩, fin (walk_t (fun F' H' _ _ _ k => .of ((k p (hsub p (by simp))).trans h)) a hb)⟩⟩
        · cases ei
      | @tupb p vs _ h a =>
        simp only [itemsT] at ei
        split at ei
        · rename_i hb
          simp only [Option.some.injEq] at ei; subst ei
          exact ⟨p, rfl, .inr ⟨⟨vs, .of (R.sLH _ _ h)⟩, fin (walk_t (fun F' H' _ _ s3 _ => .of (s3 _ _ h)) a hb)⟩⟩
        · cases ei
      | @scr p ns h =>
        simp only [itemsT, Option.some.injEq] at ei; subst ei
        have e1 : (ns.map fun n => T.d (.int n)) = (ns.map D.int).map T.d := by simp
        rw [e1] at fin
        exact ⟨p, rfl, .inl ⟨⟨_, R.sLH.sql h⟩, fin (walk_l (fun F' H' _ _ s3 _ => s3.sql h) (.data (ints_all (F := F))) bnd_data)⟩⟩
      | _ => simp [itemsT] at ei
theorem walk_r {lo hi : Int} : Walk Z L F H (Itr lo (hi - lo).toNat) (rngT lo hi) [] := by
  intro F' H' s1 s2 s3 k i
  have el : (rngT lo hi).length = (hi - lo).toNat := by simp [rngT]
  refine ⟨fun hl => by rw [el] at hl; exact hl, fun t e => ?_⟩
  have hi' : i < (hi - lo).toNat := by rw [← el]; exact (List.getElem?_eq_some_iff.mp e).1
  have et : t = .d (.int (lo + (i : Nat))) := by
    simp only [rngT, List.getElem?_map, List.getElem?_range hi', Option.map_some, Option.some.injEq] at e
    exact e.symm
  subst et
  exact ⟨hi', fun x H'' ⟨e1, e2⟩ => ⟨e1, by subst e2; exact .d (.int _)⟩⟩
theorem rngOk_iff {i : Int} (h : rngOk i = true) : -(2 ^ 62) ≤ i ∧ i < 2 ^ 62 := by
  simp only [rngOk, Bool.and_eq_true, decide_eq_true_eq] at h
  exact h
theorem snd_rng1 {ta : TE} {fa : G → Out R} (ha : Snd Z L W kR ta fa) : SndI Z L W (iRng1 (tCons ta tNil)) (fun g => (fa g).bind rng1I) := by
  refine Snd.bindI (t2 := fun x σ H1 R => ∃ j : Int, [x] = [V.int j] ∧ -(2 ^ 62) ≤ j ∧ j < 2 ^ 62 ∧ R (Itr 0 j.toNat) H1) ha fun {B F fp g σ H v r Q} R _ cl s => ?_
  have cl : Cls Z L B F fp σ H [v] [r] := cl
  cases r with
  | t u => cases u with
    | d x => cases x with
      | int n =>
        simp only [rng1I] at s
        split at s
        · rename_i hn
          obtain ⟨h1, h2⟩ := rngOk_iff hn
          have := int_inv R cl
          subst this
          refine ⟨n, rfl, h1, h2, ?_⟩
          have w : Walk Z L F H (Itr 0 (n - 0).toNat) (rngT 0 n) [] := walk_r
          rw [Int.sub_zero] at w
          exact s _ F fp H [] (.refl B F) R w ⟨.nil, by simp⟩
        · exact s.elim
      | _ => exact s.elim
    | _ => exact s.elim
  | _ => exact s.elim
theorem snd_rng2 {ta tb : TE} {fa fb : G → Out R} (ha : Snd Z L W kR ta fa) (hb : Snd Z L W kR tb fb) : SndI Z L W (iRng2 (tCons ta (tCons tb tNil))) (fun g => (fa g).bind fun r g1 => (fb g1).bind fun s g2 => rng2I r s g2) := by
  refine Snd.bindI (t2 := fun x σ H1 R => tb σ H1 fun y H2 => ∃ i j : Int, [x, y] = [V.int i, .int j] ∧ (-(2 ^ 62) ≤ i ∧ i < 2 ^ 62 ∧ -(2 ^ 62) ≤ j ∧ j < 2 ^ 62) ∧ R (Itr i (j - i).toNat) H2) ha fun {B F fp g σ H v r Q} R _ cl s => ?_
  have cl : Cls Z L B F fp σ H [v] [r] := cl
  have hv : ∀ n, r = .t (.d (.int n)) → v = .int n := fun n e => by subst e; exact int_inv R cl
  refine Snd.bindI (t2 := fun y σ H2 R => ∃ i j : Int, [v, y] = [V.int i, .int j] ∧ (-(2 ^ 62) ≤ i ∧ i < 2 ^ 62 ∧ -(2 ^ 62) ≤ j ∧ j < 2 ^ 62) ∧ R (Itr i (j - i).toNat) H2) hb (fun {B F fp g σ H w r2 Q} R _ cl s => ?_) B F fp g σ H Q R s
  have cl : Cls Z L B F fp σ H [w] [r2] := cl
  cases r with
  | t u => cases u with
    | d x => cases x with
      | int m => cases r2 with
        | t u => cases u with
          | d x => cases x with
            | int n =>
              simp only [rng2I] at s
              split at s
              · rename_i hn
                rw [Bool.and_eq_true] at hn
                obtain ⟨h1, h2⟩ := rngOk_iff hn.1
                obtain ⟨h3, h4⟩ := rngOk_iff hn.2
                have e1 := int_inv R cl
                subst e1
                have e2 := hv m rfl
                subst e2
                exact ⟨m, n, rfl, ⟨h1, h2, h3, h4⟩, s _ F fp H [] (.refl B F) R walk_r ⟨.nil, by simp⟩⟩
              · exact s.elim
            | _ => exact s.elim
          | _ => exact s.elim
        | _ => exact s.elim
      | _ => exact s.elim
    | _ => exact s.elim
  | _ => exact s.elim
/-! ### targets -/
def SndG (Z : Ctx) (L : Hp) (tg : List Nat) (un : Bool) (gt : TG) : Prop :=
  ∀ {B F : Hp} {fp : Nat → List Addr} {g g1 : G} {σ : L2.St} {H : Hp} {v : V} {t : T} {Q : L2.St → Hp → Prop}, Rel Z L B F fp g σ H → Own Z L F H v t [] → setTg g tg un t = some g1 → (∀ fp' σ', Rel Z L B F fp' g1 σ' H → Kp tg σ σ' → Q σ' H) → gt v σ H Q
theorem sndg_one {i : Nat} : SndG Z L [i] false (gName i) := fun {B F fp g g1 σ H v t Q} R ho e h => by
  have e' : some (g.set i t) = some g1 := e
  cases e'
  obtain ⟨fp', R', _⟩ := R.store i ho (f2 := []) .nil
  exact h fp' _ R' .set
theorem sndg_tup {K : PySem.W.Frag} (hK : K = Z.K) {is : List Nat} : SndG Z L is true (gTup K is.length (gNames is)) := fun {B F fp g g1 σ H v t Q} R ho e h => by
  subst hK
  have lenA : ∀ {is : List Nat} {ts : List T} {g g1 : G}, setAll g is ts = some g1 → ts.length = is.length := by
    intro is
    induction is with
    | nil => intro ts g g1 e; cases ts with
      | nil => rfl
      | cons _ _ => simp [setAll] at e
    | cons i is ih => intro ts g g1 e; cases ts with
      | nil => simp [setAll] at e
      | cons t ts => simp only [setAll] at e; simp [ih e]
  cases ho with
  | d hx =>
    cases hx with
    | @tup p vs xs hp a =>
      have e2 : setAll g is (xs.map .d) = some g1 := e
      exact ⟨p, vs, rfl, R.sF.sqt hp, by have := lenA e2; rw [a.length]; simpa using this, setAll_ok R (.data a) .nil e2 h⟩
    | _ => cases e
  | @tupb p vs ts hp a =>
    have e2 : setAll g is ts = some g1 := e
    exact ⟨p, vs, rfl, .of (R.sLH _ _ hp), by rw [a.length, lenA e2], setAll_ok R a .nil e2 h⟩
  | _ => cases e

/-! ### a slot put aside through statements -/
theorem Rel.on2 {i : Nat} {t : T} (R : Rel Z L B F fp g σ H) (e : g[i]? = some t) (R' : Rel Z L (fz B H (fp i)) F' fp' g' σ1 H') (le : Le (fz B H (fp i)) F F') (ek : σ1[i]? = σ[i]?) :
    Rel Z L B F' (upf fp' i (fp i)) (g'.set i t) σ1 H' ∧ ∀ fq, Apart (fz B H (fp i)) F' fp' fq → Apart B F' (upf fp' i (fp i)) fq := by
  have hb : ∀ p ∈ fp i, ∃ o, H p = some o ∧ fz B H (fp i) p = some o := fun p hp => by
    obtain ⟨o, h⟩ := R.own i p hp
    exact ⟨o, h, fz_mem hp h⟩
  have hk : ∀ p ∈ fp i, H' p = H p := fun p hp => by
    obtain ⟨o, h, h'⟩ := hb p hp
    rw [h]; exact R'.sB p o h'
  have nf : ∀ p ∈ fp i, ∀ j, p ∉ fp' j := fun p hp j hj => by
    obtain ⟨o, _, h'⟩ := hb p hp
    rw [(R'.dj j p hj).2] at h'; cases h'
  refine ⟨⟨by simpa using R'.ls, fun j u eu => ?_, fun j hj => ?_, R'.sF, (fz_sub R.sB).trans R'.sB, R.sL, fun j => ?_, fun j k hjk p hp => ?_, fun j p hp => ?_⟩, fun fq ap => ⟨ap.nd, fun p hp => ⟨(ap.dj p hp).1, (fz_sub R.sB).none (ap.dj p hp).2⟩, fun p hp j hj => ?_⟩⟩
  · by_cases h : j = i
    · subst h
      rw [upf_same]
      have eu' : u = t := by
        rw [List.getElem?_set_self'] at eu
        cases hg : g'[j]? with
        | none => rw [hg] at eu; simp at eu
        | some w => rw [hg] at eu; simp at eu; exact eu.symm
      subst eu'
      rcases R.sl j u e with h | ⟨v, h1, h2⟩
      · exact .inl h
      · exact .inr ⟨v, ek.trans h1, h2.frame le.sub (.refl L) hk⟩
    · rw [List.getElem?_set_ne (Ne.symm h)] at eu
      rw [upf_ne h]
      exact R'.sl j u eu
  · by_cases h : j = i
    · subst h
      rw [upf_same]
      by_cases hj' : g.length ≤ j
      · exact R.out j hj'
      · exfalso
        have h1 : j < σ.length := by rw [R.ls]; omega
        have h2 : g'.length ≤ j := by simpa using hj
        have h3 : σ1[j]? = none := List.getElem?_eq_none (by rw [R'.ls]; omega)
        rw [ek, List.getElem?_eq_getElem h1] at h3
        cases h3
    · rw [upf_ne h]; exact R'.out j (by simpa using hj)
  · by_cases h : j = i
    · subst h; rw [upf_same]; exact R.nd j
    · rw [upf_ne h]; exact R'.nd j
  · by_cases h : j = i
    · subst h
      rw [upf_same] at hp
      rw [upf_ne (Ne.symm hjk)]
      exact nf p hp k
    · rw [upf_ne h] at hp
      by_cases h' : k = i
      · subst h'; rw [upf_same]
        exact fun hh => nf p hh j hp
      · rw [upf_ne h']; exact R'.ds j k hjk p hp
  · by_cases h : j = i
    · subst h
      rw [upf_same] at hp
      refine ⟨?_, (R.dj j p hp).2⟩
      cases ef : F' p with
      | none => rfl
      | some o =>
        rcases le.new p (by rw [ef]; simp) with h | h
        · exact absurd (R.dj j p hp).1 h
        · obtain ⟨o', _, h'⟩ := hb p hp
          rw [h] at h'; cases h'
    · rw [upf_ne h] at hp
      exact ⟨(R'.dj j p hp).1, (fz_sub R.sB).none (R'.dj j p hp).2⟩
  · by_cases h : j = i
    · subst h
      rw [upf_same] at hj
      obtain ⟨o, _, h'⟩ := hb p hj
      rw [(ap.dj p hp).2] at h'; cases h'
    · rw [upf_ne h] at hj
      exact ap.no p hp j hj
theorem SatS.on {i : Nat} {t : T} {o : SO} (R : Rel Z L B F fp g σ H) (e : g[i]? = some t) (hi : i ∉ as) (s : SatS Z L W as B F σ (o.on i t) D) : SatS Z L W as (fz B H (fp i)) F σ o D := by
  have wk : ∀ {F'}, Le (fz B H (fp i)) F F' → Le B F F' := fun le => le.weak (fz_sub R.sB)
  unfold SatS at *
  cases o with
  | nx g' => exact fun F' fp' σ' H' l R' kk => s F' _ σ' H' (wk l) (R.on2 e R' l (kk i hi)).1 kk
  | bk g' => exact fun F' fp' σ' H' l R' kk => s F' _ σ' H' (wk l) (R.on2 e R' l (kk i hi)).1 kk
  | ct g' => exact fun F' fp' σ' H' l R' kk => s F' _ σ' H' (wk l) (R.on2 e R' l (kk i hi)).1 kk
  | rt u g' => exact fun v F' fp' σ' H' fq l R' kk ho ap => s v F' _ σ' H' fq (wk l) (R.on2 e R' l (kk i hi)).1 kk ho ((R.on2 e R' l (kk i hi)).2 fq ap)
  | ex x g' => exact fun d F' fp' σ' H' l R' kk => s d F' _ σ' H' (wk l) (R.on2 e R' l (kk i hi)).1 kk
  | bad => exact s

/-! ### for -/
theorem for_ok {J : It} {ts : List T} {fq : List Addr} {tg : List Nat} {un : Bool} {gt : TG} {tb : TS} {body : G → SO} (hg : SndG Z L tg un gt) (hb : SndS Z L W as tb body) (ht : ∀ i ∈ tg, i ∈ as)
    (R : Rel Z L B F fp g σ H) (w : Walk Z L F H J ts fq) (hq : ∀ H', Sub B H' → ∀ q ∈ fq, H' q = H q) (s : SatS Z L W as B F σ (forT body tg un ts g) D) :
    ∃ W : Nat → Nat → L2.St → Hp → Prop, (∃ m, W 0 m σ H) ∧ ∀ i m σ H, W i m σ H →
      (J.stop i H ∧ D.nx σ H) ∨ (J.go i H ∧ ∃ N : L2.St → Hp → Prop, (∀ σ' H', N σ' H' → ∃ m', m' < m ∧ W (i + 1) m' σ' H') ∧ ∀ x H', J.yld i H x H' → gt x σ H' fun σ2 H2 => tb { D with nx := N, ct := N, bk := D.nx } σ2 H2) := by
  refine ⟨fun i m σ1 H1 => m = ts.length - i ∧ i ≤ ts.length ∧ ∃ F1 fp1 g1, Le B F F1 ∧ Rel Z L B F1 fp1 g1 σ1 H1 ∧ Kp as σ σ1 ∧ SatS Z L W as B F1 σ1 (forT body tg un (ts.drop i) g1) D,
    ⟨ts.length, by simp, Nat.zero_le _, F, fp, g, .refl B F, R, .refl _ _, by simpa using s⟩, ?_⟩
  rintro i m σ1 H1 ⟨rfl, hi, F1, fp1, g1, le1, R1, k1, s1⟩
  obtain ⟨w1, w2⟩ := w F1 H1 le1.sub R1.sF R1.sLH (hq H1 R1.sB) i
  by_cases hlt : i < ts.length
  · have ed : ts.drop i = ts[i] :: ts.drop (i + 1) := by rw [List.drop_eq_getElem_cons hlt]
    rw [ed] at s1
    obtain ⟨h1, h2⟩ := w2 ts[i] (by simp [hlt])
    refine .inr ⟨h1, fun σ' H' => (fun i m σ1 H1 => m = ts.length - i ∧ i ≤ ts.length ∧ ∃ F1 fp1 g1, Le B F F1 ∧ Rel Z L B F1 fp1 g1 σ1 H1 ∧ Kp as σ σ1 ∧ SatS Z L W as B F1 σ1 (forT body tg un (ts.drop i) g1) D) (i + 1) (ts.length - (i + 1)) σ' H',
      fun σ' H' h => ⟨ts.length - (i + 1), by omega, h⟩, fun x H' hy => ?_⟩
    obtain ⟨rfl, ho⟩ := h2 x H' hy
    simp only [forT] at s1
    cases eg : setTg g1 tg un ts[i] with
    | none => rw [eg] at s1; exact s1.elim
    | some g2 =>
      rw [eg] at s1
      simp only at s1
      refine hg R1 ho eg fun fp' σ' R' k => ?_
      have k' : Kp as σ1 σ' := k.mono ht
      refine hb B F1 fp' g2 σ' H' _ R' ?_
      have next : ∀ g3, (SatS Z L W as B F1 σ1 (forT body tg un (ts.drop (i + 1)) g3) D) → ∀ F' fp' σ'' H', Le B F1 F' → Rel Z L B F' fp' g3 σ'' H' → Kp as σ' σ'' →
          (ts.length - (i + 1) = ts.length - (i + 1) ∧ i + 1 ≤ ts.length ∧ ∃ F1 fp1 g1, Le B F F1 ∧ Rel Z L B F1 fp1 g1 σ'' H' ∧ Kp as σ σ'' ∧ SatS Z L W as B F1 σ'' (forT body tg un (ts.drop (i + 1)) g1) D) :=
        fun g3 s3 F' fp' σ'' H' le R' k2 => ⟨rfl, hlt, F', fp', g3, le1.trans le, R', k1.trans (k'.trans k2), s3.step le (k'.trans k2)⟩
      unfold SatS
      cases eb : body g2 with
      | nx g3 => rw [eb] at s1; exact next g3 s1
      | ct g3 => rw [eb] at s1; exact next g3 s1
      | bk g3 => rw [eb] at s1; exact fun F' fp' σ'' H' le R' k2 => s1 F' fp' σ'' H' le R' (k'.trans k2)
      | rt t g3 => rw [eb] at s1; exact fun v F' fp' σ'' H' fq le R' k2 => s1 v F' fp' σ'' H' fq le R' (k'.trans k2)
      | ex x g3 => rw [eb] at s1; exact fun d F' fp' σ'' H' le R' k2 => s1 d F' fp' σ'' H' le R' (k'.trans k2)
      | bad => rw [eb] at s1; exact s1
  · have e : i = ts.length := by omega
    subst e
    refine .inl ⟨w1 (Nat.le_refl _), ?_⟩
    rw [List.drop_length] at s1
    exact s1 F1 fp1 σ1 H1 (.refl B F1) R1 (.refl _ _)
theorem SndS.for_ {wi : TI} {fi : G → Out (List T × Option Nat)} {tg : List Nat} {un : Bool} {gt : TG} {tb : TS} {body : G → SO} (hi : SndI Z L W wi fi) (hg : SndG Z L tg un gt) (hb : SndS Z L W as tb body) (ht : ∀ i ∈ tg, i ∈ as) :
    SndS Z L W as (tFor wi gt tb) (fun g => (fi g).so fun its g1 => lockS its.2 as g1 (forT body tg un its.1)) := by
  intro B F fp g σ H D R s
  replace s : SatS Z L W as B F σ ((fi g).so fun its g1 => lockS its.2 as g1 (forT body tg un its.1)) D := s
  refine hi B F fp g σ H _ R ?_
  unfold SatI
  cases e : fi g with
  | bad => rw [e] at s; exact s
  | ex x g' => rw [e] at s; exact fun d F' fp' H' le R' xi => s d F' fp' σ H' le R' (.refl _ _) xi
  | ok a g' =>
    rw [e] at s
    intro J F' fp' H' fq le R' w lk
    obtain ⟨ts, lk0⟩ := a
    replace s : SatS Z L W as B F' σ (lockS lk0 as g' (forT body tg un ts)) D := SatS.step le (.refl _ _) s
    cases lk0 with
    | none =>
      obtain ⟨ap, hh⟩ : Apart B F' fp' fq ∧ ∀ q ∈ fq, ∃ o, H' q = some o := lk
      have s2 : SatS Z L W as (fz B H' fq) F' σ (forT body tg un ts g') D := SatS.base (fz_sub R'.sB) R'.sL s
      refine for_ok hg hb ht (R'.guard ap) w (fun H2 sb q hq => ?_) s2
      obtain ⟨o, ho⟩ := hh q hq
      rw [ho]; exact sb q o (fz_mem hq ho)
    | some i =>
      have lk : fq = fp' i := lk
      subst lk
      simp only [lockS] at s
      split at s
      · exact s.elim
      · rename_i hc
        cases eg : g'[i]? with
        | none => rw [eg] at s; exact s.elim
        | some t =>
          rw [eg] at s
          have hi : i ∉ as := fun h => hc (by simpa using h)
          have s2 := SatS.on R' eg hi s
          refine for_ok hg hb ht (R'.off i) w (fun H2 sb q hq => ?_) s2
          obtain ⟨o, ho⟩ := R'.own i q hq
          rw [ho]; exact sb q o (fz_mem hq ho)
/-! ### while -/
theorem SndS.while_ {tc : TT} {tb : TS} {fc : G → Out Bool} {body : G → SO} {n : Nat} (hc : Snd Z L W kB tc fc) (hb : SndS Z L W as tb body) : SndS Z L W as (tWhile tc tb) (whT fc body n) := by
  intro B F fp g σ H D R s
  refine ⟨fun m σ1 H1 => ∃ F1 fp1 g1, Le B F F1 ∧ Rel Z L B F1 fp1 g1 σ1 H1 ∧ Kp as σ σ1 ∧ SatS Z L W as B F1 σ1 (whT fc body m g1) D, ⟨n, F, fp, g, .refl B F, R, .refl _ _, s⟩, ?_⟩
  rintro m σ1 H1 ⟨F1, fp1, g1, le1, R1, k1, s1⟩
  cases m with
  | zero => exact s1.elim
  | succ m =>
    refine hc B F1 fp1 g1 σ1 H1 _ R1 ?_
    simp only [whT] at s1
    unfold Sat
    cases ec : fc g1 with
    | bad => rw [ec] at s1; exact s1
    | ex x g2 => rw [ec] at s1; exact fun d F' fp' H' le R' xi => s1 d F' fp' σ1 H' le R' (.refl _ _) xi
    | ok b g2 =>
      rw [ec] at s1
      intro b' F2 fp2 H2 le2 R2 pr _
      have pr : b' = b := pr
      subst pr
      cases b' with
      | false => exact s1 F2 fp2 σ1 H2 le2 R2 (.refl _ _)
      | true =>
        refine ⟨fun σ' H' => ∃ F1 fp1 g1, Le B F F1 ∧ Rel Z L B F1 fp1 g1 σ' H' ∧ Kp as σ σ' ∧ SatS Z L W as B F1 σ' (whT fc body m g1) D, fun σ' H' h => ⟨m, by omega, h⟩, ?_⟩
        refine hb B F2 fp2 g2 σ1 H2 _ R2 ?_
        have next : ∀ g3, (SatS Z L W as B F1 σ1 (whT fc body m g3) D) → ∀ F' fp' σ'' H', Le B F2 F' → Rel Z L B F' fp' g3 σ'' H' → Kp as σ1 σ'' →
            ∃ F1 fp1 g1, Le B F F1 ∧ Rel Z L B F1 fp1 g1 σ'' H' ∧ Kp as σ σ'' ∧ SatS Z L W as B F1 σ'' (whT fc body m g1) D :=
          fun g3 s3 F' fp' σ'' H' le R' k2 => ⟨F', fp', g3, le1.trans (le2.trans le), R', k1.trans k2, s3.step (le2.trans le) k2⟩
        simp only at s1
        unfold SatS
        cases eb : body g2 with
        | nx g3 => rw [eb] at s1; exact next g3 s1
        | ct g3 => rw [eb] at s1; exact next g3 s1
        | bk g3 => rw [eb] at s1; exact fun F' fp' σ'' H' le R' k2 => s1 F' fp' σ'' H' (le2.trans le) R' k2
        | rt t g3 => rw [eb] at s1; exact fun v F' fp' σ'' H' fq le R' k2 => s1 v F' fp' σ'' H' fq (le2.trans le) R' k2
        | ex x g3 => rw [eb] at s1; exact fun d F' fp' σ'' H' le R' k2 => s1 d F' fp' σ'' H' (le2.trans le) R' k2
        | bad => rw [eb] at s1; exact s1
end
end Wh

/-! Wh, part 13: list comprehensions of one generator. -/
namespace Wh
open PySem L2
def noX : WX := fun _ _ _ _ => False

section
variable {Z : Ctx} {L B B' F F' F1 H H' : Hp} {fp fp' : Nat → List Addr} {g g' : G} {σ σ1 : L2.St} {W : WX} {as : List Nat}
theorem wipe_in {σ : L2.St} {i : Nat} : ∀ {vs : List Nat}, i ∈ vs → i < σ.length → (wipe σ vs)[i]? = some none
  | v :: vs, h, hl => by
    unfold wipe
    by_cases e : v = i
    · subst e; rw [List.getElem?_set_self (by rw [wipe_length]; exact hl)]
    · rw [List.getElem?_set_ne e]
      exact wipe_in (by rcases List.mem_cons.mp h with h | h; exact absurd h.symm e; exact h) hl
theorem wipe_eq {σ σ1 : L2.St} {vs : List Nat} (hl : σ1.length = σ.length) (k : Kp vs σ σ1) : wipe σ1 vs = wipe σ vs := by
  apply List.ext_getElem?
  intro i
  by_cases h : i ∈ vs
  · by_cases hi : i < σ.length
    · rw [wipe_in h hi, wipe_in h (by rw [hl]; exact hi)]
    · rw [List.getElem?_eq_none (by rw [wipe_length, hl]; omega), List.getElem?_eq_none (by rw [wipe_length]; omega)]
  · rw [wipe_out h, wipe_out h]; exact k i h
theorem wipe_wipe {σ : L2.St} {vs : List Nat} : wipe (wipe σ vs) vs = wipe σ vs := wipe_eq (wipe_length _ _) fun i h => wipe_out h
theorem Rel.unwipe {vs : List Nat} (R : Rel Z L B F fp g (wipe σ vs) H) : Rel Z L B F fp g σ H :=
  ⟨by rw [← R.ls, wipe_length], fun i t e => (R.sl i t e).imp id fun ⟨v, h1, h2⟩ => ⟨v, (wipe_some h1).1, h2⟩, R.out, R.sF, R.sB, R.sL, R.nd, R.ds, R.dj⟩
theorem Rel.wipe {vs : List Nat} (R : Rel Z L B F fp g σ H) (h : ∀ i ∈ vs, ∀ t, g[i]? = some t → t = .un ∧ fp i = []) : Rel Z L B F fp g (L2.wipe σ vs) H :=
  ⟨by rw [← R.ls, wipe_length], fun i t e => by
    by_cases hi : i ∈ vs
    · exact .inl (h i hi t e)
    · exact (R.sl i t e).imp id fun ⟨v, h1, h2⟩ => ⟨v, by rw [wipe_out hi]; exact h1, h2⟩, R.out, R.sF, R.sB, R.sL, R.nd, R.ds, R.dj⟩
/-- slots are emptied, their objects let go -/
theorem Rel.empty : ∀ {is : List Nat} {fp : Nat → List Addr} {g : G}, Rel Z L B F fp g σ H → ∃ fp', Rel Z L B F fp' (wipeG g is) σ H ∧ (∀ i ∈ is, fp' i = []) ∧ (∀ i, fp i = [] → fp' i = []) ∧ (∀ fq, Apart B F fp fq → Apart B F fp' fq)
  | [], fp, g, R => ⟨fp, R, by simp, fun _ h => h, fun _ h => h⟩
  | i :: is, fp, g, R => by
    obtain ⟨fp', h1, h2, h3, h4⟩ := Rel.empty (is := is) (R.take i).1
    refine ⟨fp', h1, fun j hj => ?_, fun j hj => h3 j ?_, fun fq ap => h4 fq ⟨ap.nd, ap.dj, fun p hp j hj => ?_⟩⟩
    · rcases List.mem_cons.mp hj with e | hj
      · subst e; exact h3 _ upf_same
      · exact h2 j hj
    · by_cases e : j = i
      · subst e; exact upf_same
      · rw [upf_ne e]; exact hj
    · by_cases e : j = i
      · subst e; rw [upf_same] at hj; simp at hj
      · rw [upf_ne e] at hj; exact ap.no p hp j hj
theorem wipeG_un {i : Nat} : ∀ {is : List Nat} {g : G} {t : T}, i ∈ is → (wipeG g is)[i]? = some t → t = .un := by
  have keep : ∀ (is : List Nat) (g : G) (t : T), g[i]? = some .un → (wipeG g is)[i]? = some t → t = .un := by
    intro is
    induction is with
    | nil => intro g t h e; rw [show wipeG g [] = g from rfl, h] at e; cases e; rfl
    | cons j is ih =>
      intro g t h e
      refine ih (g.set j .un) t ?_ e
      by_cases hj : j = i
      · subst hj
        rw [List.getElem?_set_self (List.getElem?_eq_some_iff.mp h).1]
      · rw [List.getElem?_set_ne hj]; exact h
  intro is
  induction is with
  | nil => intro g t h; simp at h
  | cons j is ih =>
    intro g t h e
    by_cases hi : i ∈ is
    · exact ih hi e
    · have hj : i = j := by rcases List.mem_cons.mp h with h | h; exact h; exact absurd h hi
      subst hj
      by_cases hl : i < g.length
      · exact keep is (g.set i .un) t (List.getElem?_set_self hl) e
      · have len : ∀ (is : List Nat) (g : G), (wipeG g is).length = g.length := by
          intro is
          induction is with
          | nil => intro g; rfl
          | cons k is ih => intro g; rw [show wipeG g (k :: is) = wipeG (g.set k .un) is from rfl, ih, List.length_set]
        have : (wipeG g (i :: is)).length ≤ i := by rw [len]; omega
        rw [List.getElem?_eq_none this] at e; cases e
/-- slots are put aside .. -/
theorem Rel.offs : ∀ {is : List Nat} {B : Hp} {fp : Nat → List Addr} {g : G}, Rel Z L B F fp g σ H → ∃ B' fp', Sub B B' ∧ Rel Z L B' F fp' (wipeG g is) σ H ∧ (∀ i ∈ is, fp' i = []) ∧ (∀ i, fp i = [] → fp' i = []) ∧
    ∀ F' fp2 g2 H2, Rel Z L B' F' fp2 g2 σ H2 → Le B' F F' → ∃ fp3, Rel Z L B F' fp3 (backG g g2 is) σ H2 ∧ ∀ fq, Apart B' F' fp2 fq → Apart B F' fp3 fq
  | [], B, fp, g, R => ⟨B, fp, .refl B, R, by simp, fun _ h => h, fun F' fp2 g2 H2 R2 _ => ⟨fp2, R2, fun _ h => h⟩⟩
  | i :: is, B, fp, g, R => by
    obtain ⟨B', fp', sB, h1, h2, h3, h4⟩ := Rel.offs (is := is) (R.off i)
    refine ⟨B', fp', (fz_sub R.sB).trans sB, h1, fun j hj => ?_, fun j hj => h3 j ?_, fun F' fp2 g2 H2 R2 le => ?_⟩
    · rcases List.mem_cons.mp hj with e | hj
      · subst e; exact h3 _ upf_same
      · exact h2 j hj
    · by_cases e : j = i
      · subst e; exact upf_same
      · rw [upf_ne e]; exact hj
    · obtain ⟨fp3, R3, ap3⟩ := h4 F' fp2 g2 H2 R2 le
      have le3 : Le (fz B H (fp i)) F F' := le.weak sB
      cases eg : g[i]? with
      | none =>
        have e1 : backG g g2 (i :: is) = backG (g.set i .un) g2 is := by simp only [backG]; rw [eg]
        rw [e1]
        exact ⟨fp3, R3.weak (fz_sub R.sB) R.sL, fun fq ap => (ap3 fq ap).weak (fz_sub R.sB)⟩
      | some t =>
        have e1 : backG g g2 (i :: is) = (backG (g.set i .un) g2 is).set i t := by simp only [backG]; rw [eg]
        rw [e1]
        obtain ⟨h5, h6⟩ := R.on2 eg R3 le3 rfl
        exact ⟨_, h5, fun fq ap => h6 fq (ap3 fq ap)⟩
/-- an object of none is changed -/
theorem Rel.free {p : Addr} {o : HO} (R : Rel Z L B F fp g σ H) (h1 : F p = none) (h2 : B p = none) (h3 : ∀ i, p ∉ fp i) : Rel Z L B F fp g σ (L2.upd H p o) :=
  ⟨R.ls, fun i t e => (R.sl i t e).imp id fun ⟨v, e1, ho⟩ => ⟨v, e1, ho.frame (.refl F) (.refl L) fun q hq => upd_ne fun e => h3 i (e ▸ hq)⟩, R.out, sub_upd R.sF h1, sub_upd R.sB h2, R.sL, R.nd, R.ds, R.dj⟩
theorem lc_some {β : Type} {x : Out (List T)} {f : List T → G → Out β} {k : Kd β V} {Q : V → Hp → Prop} (hx : ∀ e g, x ≠ .ex e g) (s : Sat Z L W k B F σ (x.bind f) Q) : ∃ ts g2, x = .ok ts g2 ∧ Sat Z L W k B F σ (f ts g2) Q := by
  cases x with
  | ok ts g2 => exact ⟨ts, g2, rfl, s⟩
  | ex e g2 => exact absurd rfl (hx e g2)
  | bad => exact s.elim
theorem lcT_ex {tst : G → Out Bool} {elt : G → Out T} {tg : List Nat} {un : Bool} : ∀ {ts acc : List T} {g : G} (e : Exc) (g2 : G), lcT tst elt tg un ts acc g ≠ .ex e g2
  | [], acc, g, e, g2 => by simp [lcT]
  | t :: ts, acc, g, e, g2 => by
    simp only [lcT]
    split
    · simp
    · split
      · exact lcT_ex e g2
      · split
        · split
          · exact lcT_ex e g2
          · simp
        · simp
      · simp
theorem keepO_inv {o : Bool} {r : R} {u : T} {g3 : G} (h : keepR o r g = .ok u g3) : Wh.R.keep g o r = some u ∧ g3 = g := by
  unfold keepR lift at h
  cases e : Wh.R.keep g o r with
  | none => rw [e] at h; cases h
  | some x => rw [e] at h; cases h; exact ⟨rfl, rfl⟩
theorem szA {n : Nat} (h : n < 10000000) : n < sizeLine := by rw [sizeLine_eq]; omega

theorem setAll_len {is : List Nat} : ∀ {g g1 : G} {ts : List T}, setAll g is ts = some g1 → g1.length = g.length := by
  induction is with
  | nil => intro g g1 ts e; cases ts with
    | nil => simp only [setAll, Option.some.injEq] at e; rw [e]
    | cons _ _ => simp [setAll] at e
  | cons i is ih => intro g g1 ts e; cases ts with
    | nil => simp [setAll] at e
    | cons t ts => simp only [setAll] at e; rw [ih e, List.length_set]
theorem setTg_len {g g1 : G} {tg : List Nat} {un : Bool} {t : T} (e : setTg g tg un t = some g1) : g1.length = g.length := by
  unfold setTg at e
  split at e
  · split at e
    · simp only [Option.some.injEq] at e; rw [← e, List.length_set]
    · cases e
  · split at e
    · exact setAll_len e
    · exact setAll_len e
    · cases e
/-- the loop of a comprehension -/
theorem lc_ok {J : It} {ts tsF : List T} {gF : G} {fq : List Addr} {tg : List Nat} {un o : Bool} {gt : TG} {tt : TT} {te : TE} {tst : G → Out Bool} {fe : G → Out R} {D : Addr} {Q : V → Hp → Prop} (hg : SndG Z L tg un gt) (ht : Snd Z L noX kB tt tst) (he : Snd Z L noX kR te fe)
    (R : Rel Z L B F fp (wipeG g tg) σ H) (hD : H D = none) (hz : ∀ i ∈ tg, fp i = []) (w : Walk Z L F H J ts fq) (hq : ∀ H', Sub B H' → ∀ q ∈ fq, H' q = H q)
    (e : lcT tst (fun h => (fe h).bind (keepR o)) tg un ts [] (wipeG g tg) = .ok tsF gF)
    (fin : ∀ F' fp' H' fa, Le B F F' → Rel Z L B F' fp' gF (wipe σ tg) H' → Own Z L F' H' (.ref D) (.lst true tsF) fa → Apart B F' fp' fa → Q (.ref D) H') :
    ∃ W : Nat → Nat → Hp → Prop, (∃ m, W 0 m (L2.upd H D (.lst []))) ∧ ∀ i m H, W i m H →
  (J.stop i H ∧ Q (.ref D) H) ∨ (J.go i H ∧ ∃ Nx : Hp → Prop, (∀ H', Nx H' → ∃ m', m' < m ∧ W (i + 1) m' H') ∧ ∀ x H', J.yld i H x H' → gt x (wipe σ tg) H' fun σ2 H2 => wipe σ2 tg = wipe σ tg ∧ tt σ2 H2 fun b H3 =>
    if b = true then te σ2 H3 fun y H4 => ∃ acc, H4 D = some (.lst acc) ∧ acc.length < sizeLine ∧ Nx (L2.upd H4 D (.lst (acc ++ [y]))) else Nx H3) := by
  let I : Nat → Nat → Hp → Prop := fun i m H1 => m = ts.length - i ∧ i ≤ ts.length ∧ ∃ F1 fp1 g1 acc fa, Le B F F1 ∧ Rel Z L B F1 fp1 (wipeG g1 tg) (wipe σ tg) H1 ∧ Own Z L F1 H1 (.ref D) (.lst true acc) fa ∧ Apart B F1 fp1 fa ∧
    lcT tst (fun h => (fe h).bind (keepR o)) tg un (ts.drop i) acc (wipeG g1 tg) = .ok tsF gF
  have hFD : F D = none := R.sF.none hD
  have hBD : B D = none := R.sB.none hD
  have noD : ∀ i, D ∉ fp i := R.fresh hD
  have R0 : Rel Z L B F fp (wipeG g tg) (wipe σ tg) (L2.upd H D (.lst [])) := (R.free hFD hBD noD).wipe fun i hi t et => ⟨wipeG_un hi et, hz i hi⟩
  refine ⟨I, ⟨ts.length, by simp, Nat.zero_le _, F, fp, g, [], [D], .refl B F, R0, .lst upd_same .nil, ⟨by simp, fun p hp => by simp at hp; subst hp; exact ⟨hFD, hBD⟩, fun p hp i => by simp at hp; subst hp; exact noD i⟩, by simpa using e⟩, ?_⟩
  rintro i m H1 ⟨rfl, hi, F1, fp1, g1, acc, fa, le1, R1, o1, ap1, e1⟩
  have agree : ∀ q ∈ fq, H1 q = H q := hq H1 R1.sB
  obtain ⟨w1, w2⟩ := w F1 H1 le1.sub R1.sF R1.sLH agree i
  by_cases hlt : i < ts.length
  · have ed : ts.drop i = ts[i] :: ts.drop (i + 1) := by rw [List.drop_eq_getElem_cons hlt]
    rw [ed] at e1
    obtain ⟨h1, h2⟩ := w2 ts[i] (by simp [hlt])
    refine .inr ⟨h1, fun H' => I (i + 1) (ts.length - (i + 1)) H', fun H' h => ⟨_, by omega, h⟩, fun x H' hy => ?_⟩
    obtain ⟨rfl, hx⟩ := h2 x H' hy
    simp only [lcT] at e1
    cases eg : setTg (wipeG g1 tg) tg un ts[i] with
    | none => rw [eg] at e1; cases e1
    | some g2 =>
      rw [eg] at e1
      simp only at e1
      have R1g := R1.guard ap1
      refine hg R1g hx eg fun fp2 σ2 R2 k2 => ?_
      have hw : wipe σ2 tg = wipe σ tg := by
        rw [wipe_eq (by rw [R2.ls, R1.ls]; exact setTg_len eg) k2, wipe_wipe]
      refine ⟨hw, ?_⟩
      have done : ∀ {F' : Hp} {fp' : Nat → List Addr} {g3 : G} {H' : Hp}, Rel Z L B F' fp' g3 σ2 H' → ∃ fp4, Rel Z L B F' fp4 (wipeG g3 tg) (wipe σ tg) H' ∧ ∀ fq, Apart B F' fp' fq → Apart B F' fp4 fq := fun {F' fp' g3 H'} R' => by
        obtain ⟨fp4, h1, h2, _, h4⟩ := R'.empty (is := tg)
        refine ⟨fp4, ?_, h4⟩
        have := h1.wipe (vs := tg) fun i hi t et => ⟨wipeG_un hi et, h2 i hi⟩
        rw [hw] at this
        exact this
      refine ht _ F1 fp2 g2 σ2 H' _ R2 ?_
      unfold Sat
      cases et : tst g2 with
      | bad => rw [et] at e1; cases e1
      | ex x g3 => rw [et] at e1; cases e1
      | ok b g3 =>
        rw [et] at e1
        intro b' F2 fp3 H2 le2 R3 pr _
        have pr : b' = b := pr
        subst pr
        obtain ⟨ap3, oa3, _⟩ := ap1.after (OwnAll.one o1) R3 le2
        have le2' : Le B F1 F2 := le2.weak (fz_sub R1.sB)
        have R3w := R3.weak (fz_sub R1.sB) R1.sL
        have o3 : Own Z L F2 H2 (.ref D) (.lst true acc) fa := by
          cases oa3 with
          | @cons _ _ _ _ f1 f2 a b => cases b; simpa using a
        cases b' with
        | false =>
          rw [if_neg Bool.false_ne_true]
          obtain ⟨fp4, R4, h4⟩ := done R3w
          exact ⟨rfl, hlt, F2, fp4, g3, acc, fa, le1.trans le2', R4, o3, h4 _ ap3, e1⟩
        | true =>
          rw [if_pos rfl]
          refine he _ F2 fp3 g3 σ2 H2 _ (R3w.guard ap3) ?_
          simp only at e1
          unfold Sat
          cases ef : fe g3 with
          | bad => rw [ef] at e1; cases e1
          | ex x g4 => rw [ef] at e1; cases e1
          | ok r g4 =>
            rw [ef] at e1
            intro y F4 fp4 H4 le4 R4 _ cl
            have cl : Cls Z L (fz B H2 fa) F4 fp4 σ2 H4 [y] [r] := cl
            cases ek : (Out.ok r g4).bind (keepR o) with
            | bad => rw [ek] at e1; cases e1
            | ex x g5 => rw [ek] at e1; cases e1
            | ok u g5 =>
              rw [ek] at e1
              have ek' : keepR o r g4 = .ok u g5 := ek
              obtain ⟨ek2, rfl⟩ := keepO_inv ek'
              obtain ⟨F5, fq2, le5, R5, hy, ap5⟩ := keep_inv R4 cl ek2
              obtain ⟨ap6, oa6, hb6⟩ := ap3.after (OwnAll.one o3) R5 (le4.trans le5)
              have o6 : Own Z L F5 H4 (.ref D) (.lst true acc) fa := by
                cases oa6 with
                | @cons _ _ _ _ f1 f2 a b => cases b; simpa using a
              have ap7 : Apart B F5 fp4 (fa ++ fq2) := ap6.join ap5 (fz_sub R3w.sB) hb6 ap5.no
              cases o6 with
              | @lst _ accV _ fk h6 a6 =>
                simp only at e1
                split at e1
                · rename_i hl
                  refine ⟨accV, h6, by rw [a6.length]; exact szA hl, ?_⟩
                  have R5w := R5.weak (fz_sub R3w.sB) R3w.sL
                  have hD7 := ap7.dj D (by simp)
                  have R8 := R5w.free (p := D) (o := .lst (accV ++ [y])) hD7.1 hD7.2 fun i => ap7.no D (by simp) i
                  obtain ⟨fp8, R9, h9⟩ := done R8
                  have nd7 := ap7.nd
                  rw [List.cons_append] at nd7
                  have nD := (List.nodup_cons.mp nd7).1
                  refine ⟨rfl, hlt, F5, fp8, g5, acc ++ [u], D :: (fk ++ fq2), le1.trans (le2'.trans ((le4.trans le5).weak (fz_sub R3w.sB))), R9, ?_, ?_, e1⟩
                  · refine .lst upd_same ((a6.frame (.refl F5) (.refl L) fun q hq => upd_ne (a := D) fun e => nD (by rw [← e]; exact List.mem_append_left _ hq)).append (OwnAll.one (hy.frame (.refl F5) (.refl L) fun q hq => upd_ne (a := D) fun e => nD (by rw [← e]; exact List.mem_append_right _ hq))))
                  · exact h9 _ (by simpa using ap7)
                · cases e1
  · have ei : i = ts.length := by omega
    subst ei
    refine .inl ⟨w1 (Nat.le_refl _), ?_⟩
    rw [List.drop_length] at e1
    simp only [lcT, Out.ok.injEq] at e1
    obtain ⟨rfl, rfl⟩ := e1
    exact fin F1 fp1 H1 fa le1 R1 o1 ap1
/-- [elt for tg in it if c] -/
theorem Snd.lc {wi : TI} {fi : G → Out (List T × Option Nat)} {tg : List Nat} {un o : Bool} {gt : TG} {tt : TT} {te : TE} {tst : G → Out Bool} {fe : G → Out R} (hi : SndI Z L W wi fi) (hg : SndG Z L tg un gt) (ht : Snd Z L noX kB tt tst) (he : Snd Z L noX kR te fe) :
    Snd Z L W kR (tLc wi gt tt te tg) (fun g => (fi g).bind fun its g1 => lockO its.2 tg g1 fun g1 => (lcT tst (fun h => (fe h).bind (keepR o)) tg un its.1 [] (wipeG g1 tg)).bind fun ts g2 => lcEnd o g1 tg ts g2) := by
  intro B F fp g σ H Q R s
  replace s : Sat Z L W kR B F σ ((fi g).bind fun its g1 => lockO its.2 tg g1 fun g1 => (lcT tst (fun h => (fe h).bind (keepR o)) tg un its.1 [] (wipeG g1 tg)).bind fun ts g2 => lcEnd o g1 tg ts g2) Q := s
  refine hi B F fp g σ H _ R ?_
  unfold SatI
  cases e : fi g with
  | bad => rw [e] at s; exact s
  | ex x g' => rw [e] at s; exact s
  | ok a g' =>
    rw [e] at s
    intro J F' fp' H' fq le R' w lk D hD
    obtain ⟨ts, lk0⟩ := a
    replace s : Sat Z L W kR B F' σ (lockO lk0 tg g' fun g1 => (lcT tst (fun h => (fe h).bind (keepR o)) tg un ts [] (wipeG g1 tg)).bind fun ts g2 => lcEnd o g1 tg ts g2) Q := Sat.step le s
    -- over any base
    have core : ∀ {B1 : Hp} {fp1 : Nat → List Addr} {g1 : G} {tsF : List T} {gF : G}, Rel Z L B1 F' fp1 g1 σ H' → (∀ H2, Sub B1 H2 → ∀ q ∈ fq, H2 q = H' q) → lcT tst (fun h => (fe h).bind (keepR o)) tg un ts [] (wipeG g1 tg) = .ok tsF gF →
        (∀ F2 fp2 H2 fa, Le B1 F' F2 → Rel Z L B1 F2 fp2 (backG g1 gF tg) σ H2 → Own Z L F2 H2 (.ref D) (.lst true tsF) fa → Apart B1 F2 fp2 fa → Q (.ref D) H2) →
        ∃ W : Nat → Nat → Hp → Prop, (∃ m, W 0 m (L2.upd H' D (.lst []))) ∧ ∀ i m H, W i m H →
          (J.stop i H ∧ Q (.ref D) H) ∨ (J.go i H ∧ ∃ Nx : Hp → Prop, (∀ H', Nx H' → ∃ m', m' < m ∧ W (i + 1) m' H') ∧ ∀ x H', J.yld i H x H' → gt x (wipe σ tg) H' fun σ2 H2 => wipe σ2 tg = wipe σ tg ∧ tt σ2 H2 fun b H3 =>
            if b = true then te σ2 H3 fun y H4 => ∃ acc, H4 D = some (.lst acc) ∧ acc.length < sizeLine ∧ Nx (L2.upd H4 D (.lst (acc ++ [y]))) else Nx H3) := by
      intro B1 fp1 g1 tsF gF R1 hq e1 fin
      obtain ⟨B2, fp2, sB, R2, hz, _, back⟩ := R1.offs (is := tg)
      refine lc_ok hg ht he R2 hD hz w (fun H2 s2 => hq H2 (sB.trans s2)) e1 fun F2 fp3 H2 fa le2 R3 ho ap => ?_
      obtain ⟨fp4, R4, h4⟩ := back F2 fp3 gF H2 R3.unwipe le2
      exact fin F2 fp4 H2 fa (le2.weak sB) R4 ho (h4 fa ap)
    -- the end
    have last : ∀ {F2 : Hp} {fp2 : Nat → List Addr} {H2 : Hp} {fa : List Addr} {g1 gF gE : G} {tsF : List T} {r : Wh.R}, Le B F' F2 → Rel Z L B F2 fp2 gE σ H2 → Own Z L F2 H2 (.ref D) (.lst true tsF) fa → Apart B F2 fp2 fa → lcEnd o g1 tg tsF gF = .ok r (backG g1 gF tg) →
        Sat Z L W kR B F' σ (.ok r gE) Q → Q (.ref D) H2 := by
      intro F2 fp2 H2 fa g1 gF gE tsF r le2 R2 ho ap el s2
      cases o with
      | true =>
        simp only [lcEnd, Out.ok.injEq] at el
        obtain ⟨rfl, _⟩ := el
        exact s2 (.ref D) F2 fp2 H2 le2 R2 trivial (.tree ho ap)
      | false =>
        simp only [lcEnd] at el
        cases ea : allD tsF with
        | none => rw [ea] at el; cases el
        | some xs =>
          rw [ea] at el
          simp only [Out.ok.injEq] at el
          obtain ⟨rfl, _⟩ := el
          have et : (T.lst true tsF).toD = some (.lst xs) := by
            have := allD_map ea
            subst this
            have tds : ∀ ys : List Wh.D, T.toDs (ys.map T.d) = some ys := by
              intro ys
              induction ys with
              | nil => rfl
              | cons y ys ih => simp [T.toDs, T.toD, ih]
            simp [T.toD, tds]
          obtain ⟨le3, R3, hx⟩ := R2.freeze ho ap et
          exact s2 (.ref D) _ fp2 H2 (le2.trans le3) R3 trivial (.data hx)
    have endOk : ∀ {g1 gF : G} {tsF : List T} {o' : Out Wh.R}, lcEnd o g1 tg tsF gF = o' → (∃ r, o' = .ok r (backG g1 gF tg)) ∨ o' = .bad := by
      intro g1 gF tsF o' h
      subst h
      cases o with
      | true => exact .inl ⟨_, rfl⟩
      | false =>
        simp only [lcEnd]
        cases allD tsF with
        | none => exact .inr rfl
        | some xs => exact .inl ⟨_, rfl⟩
    cases lk0 with
    | none =>
      obtain ⟨ap, hh⟩ : Apart B F' fp' fq ∧ ∀ q ∈ fq, ∃ o, H' q = some o := lk
      obtain ⟨tsF, gF, e1, s1⟩ := lc_some (fun e g => lcT_ex e g) (show Sat Z L W kR B F' σ ((lcT tst (fun h => (fe h).bind (keepR o)) tg un ts [] (wipeG g' tg)).bind fun ts g2 => lcEnd o g' tg ts g2) Q from s)
      rcases endOk (g1 := g') (gF := gF) (tsF := tsF) rfl with ⟨r, er⟩ | er
      · rw [er] at s1
        refine core (R'.guard ap) (fun H2 sb q hq => ?_) e1 fun F2 fp2 H2 fa le2 R2 ho ap2 => last (le2.weak (fz_sub R'.sB)) (R2.weak (fz_sub R'.sB) R'.sL) ho (ap2.weak (fz_sub R'.sB)) er s1
        obtain ⟨o, ho⟩ := hh q hq
        rw [ho]; exact sb q o (fz_mem hq ho)
      · rw [er] at s1; exact s1.elim
    | some i =>
      have lk : fq = fp' i := lk
      subst lk
      simp only [lockO] at s
      split at s
      · exact s.elim
      · unfold aside at s
        cases eg : g'[i]? with
        | none => rw [eg] at s; exact s.elim
        | some t =>
          rw [eg] at s
          simp only at s
          cases e1 : lcT tst (fun h => (fe h).bind (keepR o)) tg un ts [] (wipeG (g'.set i .un) tg) with
          | bad => rw [e1] at s; exact s.elim
          | ex x g2 => exact absurd e1 (lcT_ex x g2)
          | ok tsF gF =>
            rw [e1] at s
            simp only [Out.bind] at s
            rcases endOk (g1 := g'.set i .un) (gF := gF) (tsF := tsF) rfl with ⟨r, er⟩ | er
            · rw [er] at s
              refine core (R'.off i) (fun H2 sb q hq => ?_) e1 fun F2 fp2 H2 fa le2 R2 ho ap2 => ?_
              · obtain ⟨o, ho⟩ := R'.own i q hq
                rw [ho]; exact sb q o (fz_mem hq ho)
              · obtain ⟨h5, h6⟩ := R'.on2 eg R2 le2 rfl
                exact last (le2.weak (fz_sub R'.sB)) h5 ho (h6 fa ap2) er s
            · rw [er] at s; exact s.elim
end
end Wh

/-! Wh, part 14: stores into objects; isinstance. -/
namespace Wh
open PySem L2

/-! ### rules that the modules lack -/
theorem get_listP {X : Cx} : PGet X (rIxL X.K) := by
  intro pins s σ H o i ov iv Q I ro ri h
  obtain ⟨p, xs, k, z, rfl, rfl, hq, he, q⟩ := h
  cases ro
  obtain ⟨t, rfl⟩ := ri
  obtain ⟨its, r, pl, hz⟩ := I.list hq
  obtain ⟨j, h1, h2, h3, h4, h5⟩ := atI_get he
  obtain ⟨w, ew, rw'⟩ := r.get h2
  have hl := r.length
  have hn := line63
  have fin : EP X pins σ Q w s := ⟨z, H, I, rw', q⟩
  by_cases h0 : 0 ≤ k
  · have hj : k.toNat = j := by
      rw [seqIndex_of h0 h5] at h1
      exact Option.some.inj h1
    exact wpAny_getItem_list pl.isList h0 (by omega) (by rw [hj]; simpa using ew) fin
  · have hj : (k + (its.toArray.size : Int)).toNat = j := by
      rw [seqIndex_neg (by omega) h4] at h1
      rw [List.size_toArray, ← hl]
      exact Option.some.inj h1
    exact wpAny_getItem_list_neg pl.isList (by omega) (by rw [List.size_toArray] <;> omega) (by omega) (by rw [hj]; simpa using ew) fin

section
variable {Z : Ctx} {L B B' F F' F1 H H' : Hp} {fp fp' : Nat → List Addr} {g g' : G} {σ σ1 : L2.St} {W : WX} {as : List Nat} {De : Ends}
theorem OwnAll.kid {vs : List V} {ts : List T} {fk fq : List Addr} {n : Nat} {v : V} {u : T} (h : OwnAll Z L F H vs ts fk) (hn : n < ts.length) (ho : Own Z L F H v u fq) :
    ∃ fk', OwnAll Z L F H (vs.set n v) (ts.set n u) fk' ∧ (∀ x ∈ fk', x ∈ fk ∨ x ∈ fq) ∧ (fk.Nodup → fq.Nodup → (∀ x ∈ fq, x ∉ fk) → fk'.Nodup) := by
  have hv : n < vs.length := by rw [h.length]; exact hn
  obtain ⟨fa, f1, fb, e1, _, h3⟩ := h.split (k := n) (t := ts[n]) (v := vs[n]) (by simp [hn]) (by simp [hv])
  subst e1
  refine ⟨fa ++ (fq ++ fb), h3 (.refl F) (fun _ _ => rfl) ho, fun x hx => ?_, fun nd nq dj => ?_⟩
  · simp only [List.mem_append] at hx ⊢
    rcases hx with h | h | h
    · exact .inl (.inl h)
    · exact .inr h
    · exact .inl (.inr (.inr h))
  · obtain ⟨n1, n2, n3⟩ := List.nodup_append.mp nd
    obtain ⟨n4, n5, n6⟩ := List.nodup_append.mp n2
    refine List.nodup_append.mpr ⟨n1, List.nodup_append.mpr ⟨nq, n5, fun x hx y hy e => ?_⟩, fun x hx y hy e => ?_⟩
    · subst e; exact dj x hx (by simp [hy])
    · subst e
      rcases List.mem_append.mp hy with h | h
      · exact dj x h (by simp [hx])
      · exact n3 x hx x (by simp [h]) rfl
theorem setKid_inv {t t' u : T} {j : D} (h : setKid t j u = some t') : ∃ ts k n, t = .lst true ts ∧ j = .int k ∧ ixN ts.length k = some n ∧ t' = .lst true (ts.set n u) := by
  unfold setKid at h
  split at h
  · rename_i ts k
    split at h
    · rename_i n e
      simp only [Option.some.injEq] at h
      exact ⟨ts, k, n, rfl, rfl, e, h.symm⟩
    · cases h
  · cases h
theorem ixN_lt {n : Nat} {k : Int} {j : Nat} (h : ixN n k = some j) : j < n := by
  unfold ixN at h
  split at h
  · split at h
    · cases h; omega
    · cases h
  · split at h
    · cases h; omega
    · cases h
/-- an item of an owned list is exchanged -/
theorem Rel.setKid (R : Rel Z L B F fp g σ H) {va v : V} {ra : Wh.R} {t t' u : T} {g2 : G} {j : D} {fq fa : List Addr} (pa : Pls σ H [va] [ra]) (ha : OwnAll Z L F H (exV [va] [ra]) (exT [ra]) fa) (et : ra.tree g = some t) (ek : Wh.setKid t j u = some t') (ep : putR g ra t' = some g2)
    (ho : Own Z L F H v u fq) (ap : Apart B F fp fq) : ∃ p xs k n fp', va = .ref p ∧ j = .int k ∧ H p = some (.lst xs) ∧ ixN xs.length k = some n ∧ Rel Z L B F fp' g2 σ (L2.upd H p (.lst (xs.set n v))) := by
  obtain ⟨ts, k, n, rfl, rfl, en, rfl⟩ := setKid_inv ek
  obtain ⟨fu, hu⟩ := pa.own R ha et
  cases hu with
  | @lst p vs _ fk h a =>
    have hn : n < ts.length := ixN_lt en
    obtain ⟨fp', R'⟩ := R.mutR pa et ep ap (o' := .lst (vs.set n v)) (p := p) rfl fun fu how hnd hno => by
      cases how with
      | @lst _ vs' _ fk' h' a' =>
        rw [h] at h'
        cases h'
        have hpk : p ∉ fk' := (List.nodup_cons.mp hnd).1
        have hpq : p ∉ fq := hno p (by simp)
        have a2 : OwnAll Z L F (L2.upd H p (.lst (vs.set n v))) vs ts fk' := a'.frame (.refl F) (.refl L) fun x hx => upd_ne fun e => hpk (e ▸ hx)
        have b2 : Own Z L F (L2.upd H p (.lst (vs.set n v))) v u fq := ho.frame (.refl F) (.refl L) fun x hx => upd_ne fun e => hpq (e ▸ hx)
        obtain ⟨f3, h3, h4, h5⟩ := a2.kid hn b2
        refine ⟨fk', f3, rfl, .lst upd_same h3, List.nodup_cons.mpr ⟨fun hp => (h4 p hp).elim hpk hpq, h5 (List.nodup_cons.mp hnd).2 ap.nd fun x hx hk => hno x (by simp [hk]) hx⟩, h4⟩
    exact ⟨p, vs, k, n, fp', rfl, rfl, h, by rw [a.length]; exact en, R'⟩
theorem putR_place {r : R} {u : T} {g2 : G} (h : putR g r u = some g2) : ∃ i q, r = .p i q := by
  cases r with
  | p i q => exact ⟨i, q, rfl⟩
  | _ => simp [putR] at h
/-- a[i] = e -/
theorem SndS.setI {to ti te : TE} {fa fi fe : G → Out R} (he : Snd Z L W kR te fe) (ha : Snd Z L W kR to fa) (hi : Snd Z L W kR ti fi) :
    SndS Z L W as (tAsg te (gSub to ti rSetL)) (fun g => (fe g).so fun re g1 => onlyT re g1 fun g1 => (fa g1).so fun ra g2 => (under ra g2 fi).so fun ri g3 => setIS re ra ri g3) := by
  refine Snd.so (t2 := fun x D σ H1 => gSub to ti rSetL x σ H1 D.nx) he fun {B F fp g σ H v re D} R _ cl s => ?_
  have cl : Cls Z L B F fp σ H [v] [re] := cl
  unfold onlyT at s
  cases re with
  | p _ _ => exact s.elim
  | m _ => exact s.elim
  | t u =>
    simp only at s
    obtain ⟨pl, fq, ho, ap⟩ := cl
    have ho : OwnAll Z L F H [v] [u] fq := ho
    refine ha.keep R (r := .t u) (v := v) (.t .nil) ho ap ?_
    have eu : under (.t u) g fa = fa g := rfl
    rw [eu]
    cases e1 : fa g with
    | bad => rw [e1] at s; exact s
    | ex x g2 => rw [e1] at s; exact fun d F' fp' H' le R' xi => s d F' fp' σ H' le R' (.refl _ _) xi
    | ok ra g2 =>
      rw [e1] at s
      replace s : SatS Z L W as B F σ ((under ra g2 fi).so fun ri g3 => setIS (.t u) ra ri g3) D := s
      intro o F2 fp2 H2 le2 R2 _ pa _ ⟨f2, ho2, ap2⟩
      refine hi.keep R2 pa ho2 ap2 ?_
      cases e2 : under ra g2 fi with
      | bad => rw [e2] at s; exact s
      | ex x g3 => rw [e2] at s; exact fun d F' fp' H' le R' xi => s d F' fp' σ H' (le2.trans le) R' (.refl _ _) xi
      | ok ri g3 =>
        rw [e2] at s
        replace s : SatS Z L W as B F σ (setIS (.t u) ra ri g3) D := s
        intro i F3 fp3 H3 le3 R3 _ pi pa3 ⟨f3, ho3, ap3⟩
        unfold setIS at s
        cases et : ra.tree g3 with
        | none => rw [et] at s; exact s.elim
        | some t =>
          rw [et] at s
          cases ri with
          | p _ _ => exact s.elim
          | m _ => exact s.elim
          | t w => cases w with
            | d j =>
              simp only at s
              cases ek : Wh.setKid t j u with
              | none => rw [ek] at s; exact s.elim
              | some t' =>
                rw [ek] at s
                simp only at s
                cases ep : putR g3 ra t' with
                | none => rw [ep] at s; exact s.elim
                | some g4 =>
                  rw [ep] at s
                  obtain ⟨i0, q0, er⟩ := putR_place ep
                  subst er
                  -- the parts of what waits
                  have ho4 : OwnAll Z L F3 H3 [v, i] [u, .d j] (fq ++ f2 ++ f3) := ho3
                  have ap4 : Apart B F3 fp3 (fq ++ f2 ++ f3) := ap3
                  generalize fq ++ f2 ++ f3 = fw at ho4 ap4
                  cases ho4 with
                  | @cons _ _ _ _ g1 g2' a b =>
                    cases b with
                    | @cons _ _ _ _ g3' g4' a2 b2 =>
                      cases b2
                      cases a2 with
                      | d hj =>
                        have ap4 : Apart B F3 fp3 g1 := ap4.left
                        obtain ⟨p, xs, k, n, fp', rfl, rfl, hp, hn, R4⟩ := R3.setKid pa3 (fa := []) .nil et ek ep a ap4
                        cases hj
                        exact ⟨p, xs, k, n, rfl, rfl, hp, hn, s F3 fp' σ _ (le2.trans le3) R4 (.refl _ _)⟩
            | _ => exact s.elim
/-- a[i] op= e -/
theorem SndS.augI {K : PySem.W.Frag} (hK : K = Z.K) {to ti te : TE} {fa fi fe : G → Out R} {op : BOp} {tip : TIp} (ha : Snd Z L W kR to fa) (hi : Snd Z L W kR ti fi) (he : Snd Z L W kR te fe)
    (hop : ∀ {x y z : Int} {H : Hp} {Q : V → Hp → Prop}, binop op (.int x) (.int y) = some (.int z) → Q (.int z) H → tip (.int x) (.int y) H Q) :
    SndS Z L W as (tAugS to ti te (rIxL K) tip rSetL) (fun g => (fa g).so fun ra g1 => (under ra g1 fi).so fun ri g2 => augO ra ri g2 fun x j => (under ra g2 fe).so fun re g3 => augIS op x j re ra g3) := by
  subst hK
  refine Snd.so (t2 := fun o D σ H1 => ti σ H1 fun i H2 => rIxL Z.K o i H2 fun x H3 => te σ H3 fun y H4 => tip x y H4 fun z H5 => rSetL o i z H5 fun H6 => D.nx σ H6) ha fun {B F fp g σ H o ra D} R _ cl s => ?_
  have cl : Cls Z L B F fp σ H [o] [ra] := cl
  obtain ⟨pl, fq, ho, ap⟩ := cl
  refine hi.keep R pl ho ap ?_
  cases e2 : under ra g fi with
  | bad => rw [e2] at s; exact s
  | ex x g3 => rw [e2] at s; exact fun d F' fp' H' le R' xi => s d F' fp' σ H' le R' (.refl _ _) xi
  | ok ri g2 =>
    rw [e2] at s
    replace s : SatS Z L W as B F σ (augO ra ri g2 fun x j => (under ra g2 fe).so fun re g3 => augIS op x j re ra g3) D := s
    intro i F2 fp2 H2 le2 R2 _ pi pa ⟨f2, ho2, ap2⟩
    unfold augO at s
    cases et : ra.tree g2 with
    | none => rw [et] at s; exact s.elim
    | some t =>
      rw [et] at s
      cases t with
      | lst ob ts =>
        cases ob with
        | false => cases ri <;> exact s.elim
        | true =>
          cases ri with
          | p _ _ => exact s.elim
          | m _ => exact s.elim
          | t w => cases w with
            | d w => cases w with
              | int j =>
                simp only at s
                split at s
                · rename_i x eix
                  obtain ⟨x1, x2, ex, hx1, hx2⟩ := Wh.two (f2 := fq ++ f2) pa pi ho2
                  -- the item as it stood
                  have hix : ∃ p xs, o = .ref p ∧ SqL Z.K H2 p xs ∧ atI xs j = some (.int x) := by
                    obtain ⟨fu, hu⟩ := pa.own R2 hx1 et
                    simp only [idxR] at eix
                    cases en : ixN ts.length j with
                    | none => rw [en] at eix; cases eix
                    | some k =>
                      rw [en] at eix
                      simp only [kidR] at eix
                      cases ek : ts[k]? with
                      | none => rw [ek] at eix; cases eix
                      | some u =>
                        rw [ek] at eix
                        cases hu with
                        | @lst p vs _ fk h a =>
                          cases u with
                          | d y =>
                            simp only [Option.some.injEq, Wh.R.t.injEq, T.d.injEq] at eix
                            subst eix
                            obtain ⟨v, fv, ev, hv, _⟩ := a.get ek
                            cases hv with
                            | d hv =>
                              cases hv
                              exact ⟨p, vs, rfl, .of h, atI_ix (k := k) (by rw [a.length]; exact en) ev⟩
                          | un => simp at eix
                          | _ =>
                            simp only at eix
                            cases ra <;> simp [stepR] at eix
                  obtain ⟨p, xs, rfl, hs1, hs2⟩ := hix
                  have ei : i = .int j := by
                    cases hx2 with
                    | @cons _ _ _ _ f3 f4 a b => cases b; cases a with
                      | d h => cases h; rfl
                  subst ei
                  refine ⟨p, xs, j, .int x, rfl, rfl, hs1, hs2, ?_⟩
                  refine he.keep R2 pa ho2 ap2 ?_
                  cases e3 : under ra g2 fe with
                  | bad => rw [e3] at s; exact s
                  | ex x g3 => rw [e3] at s; exact fun d F' fp' H' le R' xi => s d F' fp' σ H' (le2.trans le) R' (.refl _ _) xi
                  | ok re g3 =>
                    rw [e3] at s
                    replace s : SatS Z L W as B F σ (augIS op x j re ra g3) D := s
                    intro y F3 fp3 H3 le3 R3 _ pe pa3 ⟨f3, ho3, ap3⟩
                    unfold augIS at s
                    cases et3 : ra.tree g3 with
                    | none => rw [et3] at s; exact s.elim
                    | some t3 =>
                      rw [et3] at s
                      cases re with
                      | p _ _ => exact s.elim
                      | m _ => exact s.elim
                      | t w => cases w with
                        | d w => cases w with
                          | int y' =>
                            simp only at s
                            split at s
                            · rename_i z ez
                              cases ek : Wh.setKid t3 (.int j) (.d (.int z)) with
                              | none => rw [ek] at s; exact s.elim
                              | some t' =>
                                rw [ek] at s
                                simp only at s
                                cases ep : putR g3 ra t' with
                                | none => rw [ep] at s; exact s.elim
                                | some g4 =>
                                  rw [ep] at s
                                  obtain ⟨i0, q0, er⟩ := putR_place ep
                                  subst er
                                  have ho4 : OwnAll Z L F3 H3 [.int j, y] [.d (.int j), .d (.int y')] (fq ++ f2 ++ f3) := ho3
                                  have ey : y = .int y' := by
                                    generalize fq ++ f2 ++ f3 = fw at ho4
                                    cases ho4 with
                                    | @cons _ _ _ _ g1 g2' a b =>
                                      cases b with
                                      | @cons _ _ _ _ g3' g4' a2 b2 => cases a2 with
                                        | d h => cases h; rfl
                                  subst ey
                                  refine hop ez ?_
                                  obtain ⟨p', xs', k, n, fp', ep', ek', hp, hn, R4⟩ := R3.setKid pa3 (fa := []) .nil et3 ek ep (v := .int z) (u := .d (.int z)) (fq := []) (.d (.int z)) .nil
                                  cases ep'
                                  cases ek'
                                  exact ⟨p, xs', j, n, rfl, rfl, hp, hn, s F3 fp' σ _ (le2.trans le3) R4 (.refl _ _)⟩
                            · exact s.elim
                          | _ => exact s.elim
                        | _ => exact s.elim
                · exact s.elim
              | _ => exact s.elim
            | _ => exact s.elim
      | _ => cases ri <;> exact s.elim
/-- name op= e, ints -/
theorem SndS.aug {te : TE} {fe : G → Out R} {i : Nat} {op : BOp} {tip : TIp} (he : Snd Z L W kR te fe) (hi : i ∈ as)
    (hop : ∀ {x y z : Int} {H : Hp} {Q : V → Hp → Prop}, binop op (.int x) (.int y) = some (.int z) → Q (.int z) H → tip (.int x) (.int y) H Q) : SndS Z L W as (tAug i te tip) (fun g => augP i g fun x => (fe g).so (augS i op x)) := by
  intro B F fp g σ H D R s
  replace s : SatS Z L W as B F σ (augP i g fun x => (fe g).so (augS i op x)) D := s
  unfold augP at s
  split at s
  · rename_i x eg
    rcases R.sl i _ eg with ⟨h, _⟩ | ⟨v, ev, ho⟩
    · cases h
    · have hv : v = .int x := by
        generalize fp i = fi at ho
        cases ho with
        | d h => cases h; rfl
      subst hv
      refine ⟨.int x, ev, ?_⟩
      refine Snd.so (as := as) (t2 := fun y D σ H1 => tip (.int x) y H1 fun z H2 => D.nx (σ.set i (some z)) H2) he (fun {B F fp g σ H y r D} R _ cl s => ?_) B F fp g σ H D R s
      have cl : Cls Z L B F fp σ H [y] [r] := cl
      cases r with
      | p _ _ => exact s.elim
      | m _ => exact s.elim
      | t w => cases w with
        | d w => cases w with
          | int y' =>
            have := int_inv R cl
            subst this
            simp only [augS] at s
            split at s
            · rename_i z ez
              refine hop ez ?_
              obtain ⟨fp', R2, _⟩ := R.store i (v := .int z) (t := .d (.int z)) (fq := []) (f2 := []) (.d (.int z)) .nil
              exact s F fp' _ H (.refl B F) R2 (Kp.set.mono fun j hj => by simp at hj; subst hj; exact hi)
            · exact s.elim
          | _ => exact s.elim
        | _ => exact s.elim
  · exact s.elim
end
end Wh

/-! Wh, part 15: own exceptions: their __init__, raise. -/
namespace Wh
open PySem L2 PySem.Spec PyProof.Rows

/-! ### the tree of a method call on one line -/
theorem meth_eq {o : Expr} {m : Str} {apos pos : Pos} {args : List Expr} {env : Env} (ho : attributeBase o m env (eval o env) = eval o env) (hf : methodCallForm args.length (backTo pos (starEach args env)) [] = true) (hl : (apos.endLine == pos.line) = true) :
    eval (.Call (.Attribute o m apos) args [] pos) env = (do
      let ov ← eval o env
      standAt apos.atName
      let (f, first) ← holding [ov] (getMethod ov m (do return (← importBound o env).getD true))
      callWith pos f first (backTo pos (starEach args env)) (backToKw pos (keywordEach [] env))) := by
  have h1 : eval (.Call (.Attribute o m apos) args [] pos) env = (do
    let ov ← attributeBase o m env (eval o env)
    standAt apos.atName
    methodCall o m apos pos env ov args.length (backTo pos (starEach args env)) []) := by rfl
  rw [h1, ho]
  unfold methodCall
  rw [hf]
  unfold methodCallPos calleeOf
  simp only [hl, Bool.not_true, Bool.false_or, if_true]
  rfl
theorem abase {o : Expr} {m : Str} {env : Env} {w : Sem Value} (h : ∀ (i : Str) (p p2 : Pos), o ≠ .Call (.Name i p) [] [] p2) : attributeBase o m env w = w := by
  unfold attributeBase
  split
  · exact absurd rfl (h _ _ _)
  · rfl

/-! ### B.__init__(self, ..), B an own class above -/
structure BaseX (K : PySem.W.Frag) (mg : Str → Option Value) (x : Str) : Prop where
  wit : ∃ C0 mc, mg x = some (.ref C0) ∧ PySem.W.readsIn K C0 mc = true ∧ PySem.W.specialIn K (.ref C0) "__getattribute__" = some (some (.builtin "type.__getattribute__")) ∧
    PySem.W.findCls K (.ref C0) mc "__init__" = some (.val (.builtin "ValueError.__init__"))
theorem pe_binit {X : Cx} {x : Str} {e : Expr} {es : List Expr} {ta : TA} {p1 p2 pos : Pos} {pl : Sem Bool} (hB : BaseX X.K X.mg x) (hg : Gl X x) (hd : (x == ("__debug__" : Str)) = false) (ha : PA X (e :: es) ta)
    (hc : eval (.Call (.Attribute (.Name x p1) "__init__" p2) (e :: es) [] pos) X.env = (do
      let ov ← eval (.Name x p1) X.env
      standAt p2.atName
      let (f, first) ← holding [ov] (getMethod ov "__init__" pl)
      callWith pos f first (backTo pos (starEach (e :: es) X.env)) (backToKw pos (keywordEach [] X.env))))
    (he : starEach (e :: es) X.env = (false, eval e X.env) :: starEach es X.env) (hpl : (backTo pos (starEach es X.env)).any (·.1) = false) :
    PE X (.Call (.Attribute (.Name x p1) "__init__" p2) (e :: es) [] pos) (tVeI X.K ta) := by
  obtain ⟨C0, mc, hm, hr, hga, hf⟩ := hB.wit
  refine ⟨fun pins s σ H Q I h => ?_⟩
  refine PySem.W.methodCall_KW (ld_glob I hg hm ?_ hd) hc
  refine PySem.W.method_cls I.kIn hga (PySem.W.cls_value I.kIn hr hf rfl ?_)
  refine PyProof.Rows.callWith_method1 (thn (ha.run pos pins _ σ H _ (I.tok _) h) fun us s1 st => ?_) he hpl
  obtain ⟨vs, H1, I1, r1, a, C, ws, rfl, hl, T, ea, q⟩ := st
  cases r1 with
  | @cons _ u0 _ ur ra rw' =>
    cases (show u0 = Value.ref a from ra)
    refine oinit_ok T I1 ea ?_ fun s' J => ⟨.non, H1, J, rfl, q⟩
    have e1 := Paired.length rw'
    have e2 := sizeLine_eq
    omega

/-! ### what a class of errors must have -/
/-- its def's address, its fields -/
structure ErrC (K : PySem.W.Frag) (C fI : Addr) (ns : List Str) : Prop where
  ox : OexC K C
  iC : PySem.W.findIn K (.ref C) "__init__" = some (some (.ref fI))
  tI : PySem.W.typeIn K (.ref fI) = some (.type "function")
  no : ∀ f ∈ ns, PySem.W.findIn K (.ref C) f = some none
/-- the dict behind the making -/
def FvOk (ns : List Str) (ws : List V) (fvs : List (Str × V)) : Prop := ∀ (n : Nat) (f : Str) (v : V), posOf ns f = some n → ws[n]? = some v → fvs.lookup f = some v
/-- what such an __init__ promises -/
def spInit (C : Addr) (ns : List Str) : Sp := fun vs H Q _ => ∃ (a : Addr) (ws : List V), vs = .ref a :: ws ∧ ws.length = ns.length ∧ H a = some (exo a C none) ∧
  ∀ H' d fvs, H d = none → d ≠ a → FvOk ns ws fvs → H' a = some (exo a C (some d)) → H' d = some (exd d fvs) → (∀ b, b ≠ a → b ≠ d → H' b = H b) → Q .non H'
theorem passF {X : Cx} : Passes (L2.CX X.prog X.w) X (fun _ _ _ => False) := fun pins σ H s e s' I c => by
  obtain ⟨_, _, _, _, _, _, _, _, _, _, _, _, h⟩ := c
  exact h.elim
section
variable {Z : Ctx} {L B B' F F' F1 H H' : Hp} {fp fp' : Nat → List Addr} {g g' : G} {σ σ1 : L2.St} {W : WX} {as : List Nat}
/-- raise C(e, ..) -/
theorem SndS.raise {c : Nat} {ns : List Str} {ta : TA} {fa : G → Out (List R)} (ha : Snd Z L W kRs ta fa) (hn : ns.length ≤ 900) :
    SndS Z L W as (fun _ σ H => tMkO (Z.ca c) (spInit (Z.ca c) ns) [] ta σ H fun cls d H' => W cls d σ H') (fun g => (fa g).so (exOf c ns)) := by
  refine Snd.so (t2 := fun vs D σ H1 => vs.length ≤ 1000 ∧ ∀ a, H1 a = none → spInit (Z.ca c) ns (.ref a :: (vs ++ [])) (upd H1 a (exo a (Z.ca c) none))
    (fun v H2 => v = .non ∧ ∃ (d : Addr) (fs : List (Str × V)), H2 a = some (exo a (Z.ca c) (some d)) ∧ H2 d = some (exd d fs) ∧ H1 d = none ∧ W (.ref (Z.ca c)) (some d) σ (upd (del H2 a) d (.xd fs))) (fun _ _ _ => False)) ha fun {B F fp g σ H vs rs D} R _ cl s => ?_
  have cl : Cls Z L B F fp σ H vs rs := cl
  unfold exOf at s
  cases ed : disD rs with
  | none => rw [ed] at s; exact s.elim
  | some xs =>
    rw [ed] at s
    simp only at s
    split at s
    · rename_i hl
      obtain ⟨ts, e1, e2⟩ := disD_inv ed
      obtain ⟨fq, ho, ap⟩ := ts_own cl e1
      obtain ⟨le, R2, hx⟩ := R.freezeAll ho ap e2
      have hvl : vs.length = ns.length := by rw [hx.length, hl]
      refine ⟨by omega, fun a hna => ⟨a, vs, by simp, hvl, upd_same, fun H' d fvs hd hda hfv ea ed2 hk => ⟨rfl, d, fvs, ea, ed2, ?_, ?_⟩⟩⟩
      · rw [upd_ne hda] at hd; exact hd
      · rw [upd_ne hda] at hd
        have eH : upd (del H' a) d (.xd fvs) = upd H d (.xd fvs) := by
          funext b
          by_cases hb : b = d
          · subst hb; rw [upd_same, upd_same]
          · rw [upd_ne hb, upd_ne hb]
            by_cases hba : b = a
            · subst hba; rw [del_same, hna]
            · rw [del_ne hba, hk b hba hb, upd_ne hba]
        rw [eH]
        refine s d _ fp σ _ le (R2.alloc hd) (.refl _ _) ⟨fvs, upd_same, fun n f x e1 e2 => ?_⟩
        obtain ⟨v, ev, hv⟩ := hx.get e2
        exact ⟨v, hfv n f v e1 ev, hv⟩
    · exact s.elim
end
/-- a class of errors with one field -/
theorem err_init1 {P : Program} {w : World} {K : PySem.W.Frag} {mg : Str → Option Value} {base : Heap} {CX : CXT} {k : Nat} {f C : Addr} {name qual : Str} {params : Arguments} {scope : Scope} {dV kV doc pm cdv ct oc : Value} {an od : Option Addr} {osl : Array (Option Value)}
    {b fld m prm : Str} {p1 p2 p3 p4 p5 p6 p7 p8 p9 p10 : Pos} {j : Nat}
    (lk : K.lookup f = some ⟨oc, od, .func (PySem.W.fnOf name qual params [.Expr (.Call (.Attribute (.Name b p1) "__init__" p2) [.Name "self" p3, .Constant (.str m) j p4] [] p5) p6, .Assign [.Attribute (.Name "self" p7) fld p8] (.Name prm p9) p10] scope dV kV doc pm an cdv ct), osl⟩)
    (hcd : PySem.W.codeIn K cdv qual = true) (S : FnScope ["self", prm] ["self", prm] scope) (hB : BaseX K mg b) (hb : scope.names.lookup b = some .globalImplicit) (hd : (b == ("__debug__" : Str)) = false) (T : ErrC K C f [fld])
    (hp1 : (prm == ("__debug__" : Str)) = false) (hp2 : (prm == ("__classdict__" : Str)) = false) (hln : (p2.endLine == p5.line) = true) :
    FnOk P w K mg base CX (k + 1) f (PySem.W.fnOf name qual params [.Expr (.Call (.Attribute (.Name b p1) "__init__" p2) [.Name "self" p3, .Constant (.str m) j p4] [] p5) p6, .Assign [.Attribute (.Name "self" p7) fld p8] (.Name prm p9) p10] scope dV kV doc pm an cdv ct) ["self", prm] (spInit C [fld]) := by
  refine fn_of lk hcd S (fun vs H Q E ⟨a, ws, e, h, _⟩ => by rw [e]; simp at h ⊢; omega) fun A outer s H vs Q E hr hsp => ?_
  have v0 : ∀ {x : Str}, x ∈ (["self", prm] : List Str) → Vis scope x := fun {x} hx => by
    rcases S.par x hx with h | h
    · exact .inl h
    · exact .inr (.inl h)
  refine ⟨_, pss_cons (ps_expr (pe_binit (x := b) hB hb hd (pa_cons (pe_var (i := 0) rfl (v0 (by simp))) (pa_cons pe_str pa_nil)) (meth_eq (abase fun _ _ _ z => by cases z) rfl hln) rfl rfl) rfl)
    (pss_one (ps_ost (pe_var (i := 0) rfl (v0 (by simp))) (pe_var (i := 1) rfl (v0 (by simp)) hp1 hp2))), ?_⟩
  obtain ⟨a, ws, rfl, hl, ha, hq⟩ := hsp
  match ws, hl with
  | [y], _ =>
    refine ⟨.ref a, rfl, a, C, [.str m], rfl, by simp, T.ox, ha, ?_⟩
    refine ⟨y, rfl, .ref a, rfl, a, C, rfl, T.ox, T.no fld (by simp), .inl ⟨ha, fun dx hd hne => ?_⟩⟩
    refine hq _ dx [(fld, y)] hd hne (fun n f v e1 e2 => ?_) upd_same (by rw [upd_ne hne, upd_same]) fun b h1 h2 => by rw [upd_ne h1, upd_ne h2]
    have hn := pos_lt e1
    match n, hn with
    | 0, _ =>
      simp only [posOf] at e1
      split at e1
      · rename_i hf
        subst hf
        simp at e2
        subst e2
        simp [List.lookup]
      · simp at e1
/-- a class of errors with two fields -/
theorem err_init2 {P : Program} {w : World} {K : PySem.W.Frag} {mg : Str → Option Value} {base : Heap} {CX : CXT} {k : Nat} {f C : Addr} {name qual : Str} {params : Arguments} {scope : Scope} {dV kV doc pm cdv ct oc : Value} {an od : Option Addr} {osl : Array (Option Value)}
    {b fld m prm fld2 prm2 : Str} {p1 p2 p3 p4 p5 p6 p7 p8 p9 p10 q7 q8 q9 q10 : Pos} {j : Nat}
    (lk : K.lookup f = some ⟨oc, od, .func (PySem.W.fnOf name qual params [.Expr (.Call (.Attribute (.Name b p1) "__init__" p2) [.Name "self" p3, .Constant (.str m) j p4] [] p5) p6, .Assign [.Attribute (.Name "self" p7) fld p8] (.Name prm p9) p10, .Assign [.Attribute (.Name "self" q7) fld2 q8] (.Name prm2 q9) q10] scope dV kV doc pm an cdv ct), osl⟩)
    (hcd : PySem.W.codeIn K cdv qual = true) (S : FnScope ["self", prm, prm2] ["self", prm, prm2] scope) (hB : BaseX K mg b) (hb : scope.names.lookup b = some .globalImplicit) (hd : (b == ("__debug__" : Str)) = false) (T : ErrC K C f [fld, fld2])
    (hp1 : (prm == ("__debug__" : Str)) = false) (hp2 : (prm == ("__classdict__" : Str)) = false) (hp3 : (prm2 == ("__debug__" : Str)) = false) (hp4 : (prm2 == ("__classdict__" : Str)) = false) (hln : (p2.endLine == p5.line) = true) (hff : fld ≠ fld2) :
    FnOk P w K mg base CX (k + 1) f (PySem.W.fnOf name qual params [.Expr (.Call (.Attribute (.Name b p1) "__init__" p2) [.Name "self" p3, .Constant (.str m) j p4] [] p5) p6, .Assign [.Attribute (.Name "self" p7) fld p8] (.Name prm p9) p10, .Assign [.Attribute (.Name "self" q7) fld2 q8] (.Name prm2 q9) q10] scope dV kV doc pm an cdv ct) ["self", prm, prm2] (spInit C [fld, fld2]) := by
  refine fn_of lk hcd S (fun vs H Q E ⟨a, ws, e, h, _⟩ => by rw [e]; simp at h ⊢; omega) fun A outer s H vs Q E hr hsp => ?_
  have v0 : ∀ {x : Str}, x ∈ (["self", prm, prm2] : List Str) → Vis scope x := fun {x} hx => by
    rcases S.par x hx with h | h
    · exact .inl h
    · exact .inr (.inl h)
  refine ⟨_, pss_cons (ps_expr (pe_binit (x := b) hB hb hd (pa_cons (pe_var (i := 0) rfl (v0 (by simp))) (pa_cons pe_str pa_nil)) (meth_eq (abase fun _ _ _ z => by cases z) rfl hln) rfl rfl) rfl)
    (pss_cons (ps_ost (pe_var (i := 0) rfl (v0 (by simp))) (pe_var (i := 1) rfl (v0 (by simp)) hp1 hp2)) (pss_one (ps_ost (pe_var (i := 0) rfl (v0 (by simp))) (pe_var (i := 2) rfl (v0 (by simp)) hp3 hp4)))), ?_⟩
  obtain ⟨a, ws, rfl, hl, ha, hq⟩ := hsp
  match ws, hl with
  | [y, z], _ =>
    refine ⟨.ref a, rfl, a, C, [.str m], rfl, by simp, T.ox, ha, ?_⟩
    refine ⟨y, rfl, .ref a, rfl, a, C, rfl, T.ox, T.no fld (by simp), .inl ⟨ha, fun dx hd hne => ?_⟩⟩
    refine ⟨z, rfl, .ref a, rfl, a, C, rfl, T.ox, T.no fld2 (by simp), .inr ⟨dx, [(fld, y)], upd_same, by rw [upd_ne hne, upd_same], by simp, ?_⟩⟩
    refine hq _ dx [(fld2, z), (fld, y)] hd hne (fun n f v e1 e2 => ?_) (by rw [upd_ne (Ne.symm hne), upd_same]) upd_same fun b h1 h2 => by rw [upd_ne h2, upd_ne h1, upd_ne h2]
    have hn := pos_lt e1
    match n, hn with
    | 0, _ =>
      simp only [posOf] at e1
      split at e1
      · rename_i hf
        subst hf
        simp at e2
        subst e2
        rw [lookup_put, if_neg hff, lookup_put, if_pos rfl]
      · split at e1 <;> simp at e1
    | 1, _ =>
      simp only [posOf] at e1
      split at e1
      · simp at e1
      · rename_i h0
        split at e1
        · rename_i hf
          subst hf
          simp at e2
          subst e2
          rw [lookup_put, if_pos rfl]
        · simp at e1
end Wh

/-! Wh, part 16: several except clauses, named or not. -/
namespace Wh
open PySem L2 PySem.Spec PyProof.Rows

/-- a clause: its class, the slot of its name, its suite -/
structure Clz where
  c : Value
  as : Option Nat
  ts : Addr → Value → Option Addr → TS
/-- behind a suite its name is gone -/
def outD (as : Option Nat) (De : Ends) : Ends := match as with
  | none => De
  | some i => { nx := fun τ J => De.nx (τ.set i none) J, rt := De.rt, bk := fun τ J => De.bk (τ.set i none) J, ct := fun τ J => De.ct (τ.set i none) J }
def inS (as : Option Nat) (a : Addr) (τ : L2.St) : L2.St := match as with
  | none => τ
  | some i => τ.set i (some (.ref a))
def wClz (K : PySem.W.Frag) (Wo : WX) (De : Ends) : List Clz → WX
  | [] => Wo
  | z :: zs => fun cls d τ J => ∃ b, PySem.W.exmOne K cls z.c = some b ∧ (b = true → ∀ a, J a = none → z.ts a cls d (outD z.as De) (inS z.as a τ) J) ∧ (b = false → wClz K Wo De zs cls d τ J)
/-- the name of a clause -/
def AsOk (X : Cx) : Option Str → Option Nat → Prop
  | none, none => True
  | some n, some i => X.N[i]? = some n ∧ X.env.kindOf n = some .local
  | _, _ => False
inductive Clzs (X : Cx) : List ExceptHandler → List Clz → Prop
  | nil : Clzs X [] []
  | cons {x : Str} {n : Option Str} {z : Clz} {st : Stmt} {sts : List Stmt} {np hp : Pos} {hs : List ExceptHandler} {zs : List Clz} (nm : Names X x z.c) (na : AsOk X n z.as)
      (su : ∀ (a : Addr) (oe : Obj) (cls : Value) (d : Option Addr) (pn : List (Addr × Obj)), Zc cls d oe → (∃ vs, oe.data = .fields vs) → PSs (X.suite a ((a, oe) :: pn)) (st :: sts) (z.ts a cls d)) (r : Clzs X hs zs) :
      Clzs X (.ExceptHandler (some (.Name x np)) n (st :: sts) hp :: hs) (z :: zs)

section
variable {X : Cx} {body : List Stmt} {h₀ : ExceptHandler} {hds : List ExceptHandler} {zs : List Clz} {pos : Pos} {tb : WX → TS} {Wo : WX}
theorem ps_tryN (hst : X.stack = X.env :: X.outer) (hfr : X.env.frame = some X.env.locals) (nd : X.N.Nodup) (tk : Takes X Wo)
    (hb : ∀ (W : WX) (pn : List (Addr × Obj)) (xe : Value → Shared → Prop), Takes (X.tr pn xe) W → PassesOwn (model X.prog X.w) X.A X.env xe → PSs (X.tr pn xe) body (tb W))
    (hz : Clzs X (h₀ :: hds) zs) : PS X (.Try body (h₀ :: hds) [] [] pos) (fun De τ J => tb (wClz X.K Wo De zs) De τ J) := by
  constructor
  intro pins s τ J De I start
  have good := I.ok
  have frs1 : X.A.frames = some (X.env :: X.outer) := good.frames.trans (congrArg some hst)
  refine wpAny_Try_except ?_
  let xe1 : Value → Shared → Prop := fun e sa => wpAny (model X.prog X.w) X.A (noteFrame e X.env)
    (fun _ sb => wpAny (model X.prog X.w) X.A (setFlight e none) (fun _ sc => wpAny (model X.prog X.w) X.A (handleBy e X.env (h₀ :: hds)) (SP X pins De) X.xe sc) X.xe sb) X.xe sa
  have caught : Takes (X.tr (X.pn ++ pins) xe1) (wClz X.K Wo De zs) := by
    rintro u sT ⟨ea, Bh, sI, pins1, τ1, J1, cls, d, eu, Inv1, keepB, upS, inSky, free1, osE, bareE, wish⟩
    subst eu
    have Iw : Inv X pins τ1 J1 sI := Inv1.ofTry good
    have sky2 : Sky Bh (X.env :: X.outer) ea (Zc cls d) X.env.locals sT.heap := hst ▸ inSky
    show wpAny (model X.prog X.w) X.A (noteFrame (.ref ea) X.env) _ _ _
    refine Sky.land Zc.steady frs1 hfr sky2 fun hA flA upA => ?_
    have IA : Inv X pins τ1 J1 { sT with heap := hA } := Iw.landed keepB flA.1 (upS.trans upA) osE bareE
    obtain ⟨oA, vA, getA, zA, dataA⟩ := flA.there
    have noFrame : ea ∉ frs (X.env :: X.outer) := by
      intro hm
      obtain ⟨_, o2, get2, nf⟩ := flA.2.2.1.mem hm
      rw [getA] at get2
      injection get2 with e2
      subst e2
      exact nf _ dataA
    have neL : ea ≠ X.env.locals := by
      intro e
      exact noFrame (List.mem_filterMap.mpr ⟨X.env, .head _, by rw [hfr, e]⟩)
    have noF : ea ∉ X.fs := by
      intro hm
      obtain ⟨env1, in1, fr1⟩ := List.mem_filterMap.mp hm
      exact noFrame (List.mem_filterMap.mpr ⟨env1, .tail _ in1, fr1⟩)
    have SA := IA.suite getA dataA free1 neL noF
    have typ : PySem.W.Looks (model X.prog X.w) hA (typeOf (.ref ea)) cls := fun A Q E s k q => wpAny_typeOf_ref (k _ _ getA) (by rw [zA.1]; exact q)
    suffices go : ∀ {hs : List ExceptHandler} {zs : List Clz}, Clzs X hs zs → wClz X.K Wo De zs cls d τ1 J1 → wpAny (model X.prog X.w) X.A (handleBy (.ref ea) X.env hs) (SP X pins De) X.xe { sT with heap := hA } from go hz wish
    intro hs zs hk
    induction hk with
    | nil =>
      intro wish
      refine wpAny_handleBy_nil ?_
      obtain ⟨_, _, _, o3, v3, T3, _, _, get3, _, data3, idx3, _⟩ := id flA
      unfold PySem.passOn
      refine wpAny_bind (wpAny_field get3 data3 idx3 ?_)
      rw [if_neg (by simp)]
      have out : wpAny (model X.prog X.w) X.A (setFlight (.ref ea) X.env.frame) (fun _ s4 => wpAny (model X.prog X.w) X.A (throw (.ref ea) : Sem Flow) (SP X pins De) X.xe s4) X.xe { sT with heap := hA } := by
        rw [hfr]
        refine HandSPX.setFlight_upZ flA fun hB heldB upB => wpAny_throw (tk _ _ ⟨ea, Bh, sI, pins, τ1, J1, cls, d, rfl, Iw, keepB, (upS.trans upA).trans upB, ?_, free1, osE, bareE, wish⟩)
        rw [hst]
        exact .inr (.inr heldB)
      first
        | exact wpAny_bind (wpAny_pure (wpAny_bind out))
        | exact wpAny_bind out
    | @cons x n z st sts np hp hs zs nm na su _ ih =>
      intro wish
      obtain ⟨b, isB, yes, no⟩ := wish
      refine wpAny_handleBy_cons (codeAny_handlers_test ?_) (fun e => nomatch e)
      have matched := PySem.W.exm_one (M := model X.prog X.w) IA.kIn typ isB
      have named : ∀ {Q : Value → Shared → Prop} {E : Value → Shared → Prop}, Q z.c { sT with heap := hA } → wpAny (model X.prog X.w) (X.A.mark (some (.ref ea))) (eval (.Name x np) X.env) Q E { sT with heap := hA } := by
        intro Q E q
        obtain ⟨g1, g2, g3⟩ := nm
        rcases g3 with g3 | ⟨g3, g4, g5⟩
        · exact ld_glob (X := X.suite ea ((ea, oA) :: (X.pn ++ pins))) SA g1 g3 q g2
        · exact ld_blt (X := X.suite ea ((ea, oA) :: (X.pn ++ pins))) SA g1 g3 g4 q g5 g2
      refine named (matched.here ?_)
      cases b with
      | false => exact ih (no rfl)
      | true =>
        have yes1 := yes rfl ea free1
        cases n with
        | none =>
          have ez : z.as = none := by
            cases h : z.as with
            | none => rfl
            | some i => rw [h] at na; exact na.elim
          rw [ez] at yes1
          refine codeAny_handlers_suite ?_
          refine HandSPX.lands_againZ flA fun hB flB upB => ?_
          have IB : Inv X pins τ1 J1 { sT with heap := hB } := Iw.landed keepB flB.1 ((upS.trans upA).trans upB) osE bareE
          obtain ⟨oB, vB, getB, zB, dataB⟩ := flB.there
          refine wpAny_mono ((su ea oB cls d (X.pn ++ pins) zB ⟨_, dataB⟩).run [] _ τ1 J1 _ (IB.suite getB dataB free1 neL noF) yes1) (fun f sE res => ?_) fun _ _ e => False.elim e
          cases f with
          | ret u => obtain ⟨v2, τ2, J2, I2, r2, q2⟩ := res; exact ⟨v2, τ2, J2, I2.unsuite good, r2, q2⟩
          | next => obtain ⟨τ2, J2, I2, q2⟩ := res; exact ⟨τ2, J2, I2.unsuite good, q2⟩
          | brk => obtain ⟨τ2, J2, I2, q2⟩ := res; exact ⟨τ2, J2, I2.unsuite good, q2⟩
          | cont => obtain ⟨τ2, J2, I2, q2⟩ := res; exact ⟨τ2, J2, I2.unsuite good, q2⟩
        | some nn =>
          obtain ⟨i, ez⟩ : ∃ i, z.as = some i := by
            cases h : z.as with
            | none => rw [h] at na; exact na.elim
            | some i => exact ⟨i, rfl⟩
          rw [ez] at yes1 na
          obtain ⟨nI, nK⟩ := na
          refine codeAny_handlers_suite_as ?_
          refine HandSPX.lands_againZ flA fun hB flB upB => ?_
          have IB : Inv X pins τ1 J1 { sT with heap := hB } := Iw.landed keepB flB.1 ((upS.trans upA).trans upB) osE bareE
          obtain ⟨oB, vB, getB, zB, dataB⟩ := flB.there
          refine store_ok (X := X.suite ea ((ea, oB) :: (X.pn ++ pins))) (v := .ref ea) (IB.suite getB dataB free1 neL noF) nd nI (.inl nK) rfl (fun sN IN => ?_) (.inr nK)
          refine wpAny_mono ((su ea oB cls d (X.pn ++ pins) zB ⟨_, dataB⟩).run [] sN _ J1 _ IN yes1) (fun f sE res => ?_) fun _ _ e => False.elim e
          have gone : ∀ {τ2 : L2.St} {J2 : Hp} {Q : Shared → Prop}, Inv (X.suite ea ((ea, oB) :: (X.pn ++ pins))) [] τ2 J2 sE → (∀ sZ, Inv X pins (τ2.set i none) J2 sZ → Q sZ) → wpAny (model X.prog X.w) X.A (do bindName X.env nn .none; unbindBehindTheSuite X.env nn hp) (fun _ sZ => Q sZ) X.xe sE :=
            fun {τ2 J2 Q} IE q => gone_ok (IE.unsuite good) nd nI nK q
          cases f with
          | ret u => obtain ⟨v2, τ2, J2, I2, r2, q2⟩ := res; exact gone I2 fun sZ IZ => ⟨v2, _, J2, IZ, r2, q2⟩
          | next => obtain ⟨τ2, J2, I2, q2⟩ := res; exact gone I2 fun sZ IZ => ⟨_, J2, IZ, q2⟩
          | brk => obtain ⟨τ2, J2, I2, q2⟩ := res; exact gone I2 fun sZ IZ => ⟨_, J2, IZ, q2⟩
          | cont => obtain ⟨τ2, J2, I2, q2⟩ := res; exact gone I2 fun sZ IZ => ⟨_, J2, IZ, q2⟩
  refine wpAny_mono ((hb (wClz X.K Wo De zs) (X.pn ++ pins) xe1 caught PassesOwn.looking).run [] s τ J De (I.toTry _) start) (fun f sE res => ?_) (fun e sE h => h)
  cases f with
  | next => obtain ⟨τ2, J2, I2, q2⟩ := res; exact wpAny_execs_nil ⟨τ2, J2, I2.ofTry good, q2⟩
  | brk => obtain ⟨τ2, J2, I2, q2⟩ := res; exact ⟨τ2, J2, I2.ofTry good, q2⟩
  | cont => obtain ⟨τ2, J2, I2, q2⟩ := res; exact ⟨τ2, J2, I2.ofTry good, q2⟩
  | ret u => obtain ⟨v2, τ2, J2, I2, r2, q2⟩ := res; exact ⟨v2, τ2, J2, I2.ofTry good, r2, q2⟩
end
end Wh

/-! Wh, part 17: try; what a suite reads of its error. -/
namespace Wh
open PySem L2 PySem.Spec PyProof.Rows

/-- the same with an error held -/
abbrev Ctx.hold (Z : Ctx) (a d : Addr) : Ctx := { Z with xa := some (a, d) }
section
variable {Z : Ctx} {F : Hp}
mutual
theorem Is.hold {x : Option (Addr × Addr)} : ∀ {v : V} {y : D}, Is Z F v y → Is { Z with xa := x } F v y
  | _, _, .non => .non
  | _, _, .bl b => .bl b
  | _, _, .int i => .int i
  | _, _, .str s => .str s
  | _, _, .lst h a => .lst h (IsAll.hold a)
  | _, _, .tup h a => .tup h (IsAll.hold a)
  | _, _, .dk h l a => .dk h l (IsAll.hold a)
  | _, _, .obj h l a => .obj h l (IsAll.hold a)
theorem IsAll.hold {x : Option (Addr × Addr)} : ∀ {vs : List V} {ys : List D}, IsAll Z F vs ys → IsAll { Z with xa := x } F vs ys
  | _, _, .nil => .nil
  | _, _, .cons a b => .cons (Is.hold a) (IsAll.hold b)
end
theorem Is.back {x : Option (Addr × Addr)} {v : V} {y : D} (h : Is { Z with xa := x } F v y) : Is Z F v y := Is.hold (Z := { Z with xa := x }) (x := Z.xa) h
variable {L H : Hp} {a d : Addr} {fvs : List (Str × V)}
mutual
theorem Own.hold (hx : Z.xa = none) (sL : Sub L (upd L d (.xd fvs))) : ∀ {v : V} {t : T} {fp : List Addr}, Own Z L F H v t fp → Own (Z.hold a d) (upd L d (.xd fvs)) F H v t fp
  | _, _, _, .d h => .d h.hold
  | _, _, _, .lst h a => .lst h (OwnAll.hold hx sL a)
  | _, _, _, .lstb h a => .lstb (sL _ _ h) (OwnAll.hold hx sL a)
  | _, _, _, .tup h a => .tup h (OwnAll.hold hx sL a)
  | _, _, _, .tupb h a => .tupb (sL _ _ h) (OwnAll.hold hx sL a)
  | _, _, _, .dk h l a => .dk h l (OwnAll.hold hx sL a)
  | _, _, _, .dkb h l a => .dkb (sL _ _ h) l (OwnAll.hold hx sL a)
  | _, _, _, .obj h l a => .obj h l (OwnAll.hold hx sL a)
  | _, _, _, .objb h l a => .objb (sL _ _ h) l (OwnAll.hold hx sL a)
  | _, _, _, .scr h => .scr (sL.sql h)
  | _, _, _, .xo h _ _ => by rw [hx] at h; cases h
  | _, _, _, .un => .un
theorem OwnAll.hold (hx : Z.xa = none) (sL : Sub L (upd L d (.xd fvs))) : ∀ {vs : List V} {ts : List T} {fp : List Addr}, OwnAll Z L F H vs ts fp → OwnAll (Z.hold a d) (upd L d (.xd fvs)) F H vs ts fp
  | _, _, _, .nil => .nil
  | _, _, _, .cons a b => .cons (Own.hold hx sL a) (OwnAll.hold hx sL b)
end
theorem upd_old {p : Addr} {o : HO} (h : upd L d (.xd fvs) p = some o) (n : ∀ fs, o ≠ .xd fs) : L p = some o := by
  by_cases e : p = d
  · subst e; rw [upd_same] at h; cases h; exact absurd rfl (n _)
  · rw [upd_ne e] at h; exact h
mutual
theorem Own.back : ∀ {v : V} {t : T} {fp : List Addr}, Own (Z.hold a d) (upd L d (.xd fvs)) F H v t fp → t.nxo = true → Own Z L F H v t fp
  | _, _, _, .d h, _ => .d h.back
  | _, _, _, .lst h a, e => .lst h (OwnAll.back a (by simpa [T.nxo] using e))
  | _, _, _, .lstb h a, e => .lstb (upd_old h fun _ z => nomatch z) (OwnAll.back a (by simpa [T.nxo] using e))
  | _, _, _, .tup h a, e => .tup h (OwnAll.back a (by simpa [T.nxo] using e))
  | _, _, _, .tupb h a, e => .tupb (upd_old h fun _ z => nomatch z) (OwnAll.back a (by simpa [T.nxo] using e))
  | _, _, _, .dk h l a, e => .dk h l (OwnAll.back a (by simpa [T.nxo] using e))
  | _, _, _, .dkb h l a, e => .dkb (upd_old h fun _ z => nomatch z) l (OwnAll.back a (by simpa [T.nxo] using e))
  | _, _, _, .obj h l a, e => .obj h l (OwnAll.back a (by simpa [T.nxo] using e))
  | _, _, _, .objb h l a, e => .objb (upd_old h fun _ z => nomatch z) l (OwnAll.back a (by simpa [T.nxo] using e))
  | _, _, _, .scr h, _ => .scr (by
    rcases h with (h | ⟨o, h⟩) | h
    · exact .inl (.inl (upd_old h fun _ z => nomatch z))
    · exact .inl (.inr ⟨o, upd_old h fun _ z => nomatch z⟩)
    · exact .inr h)
  | _, _, _, .xo _ _ _, e => by simp [T.nxo] at e
  | _, _, _, .un, _ => .un
theorem OwnAll.back : ∀ {vs : List V} {ts : List T} {fp : List Addr}, OwnAll (Z.hold a d) (upd L d (.xd fvs)) F H vs ts fp → nxos ts = true → OwnAll Z L F H vs ts fp
  | _, _, _, .nil, _ => .nil
  | _, _, _, .cons a b, e => by
    simp only [nxos, Bool.and_eq_true] at e
    exact .cons (Own.back a e.1) (OwnAll.back b e.2)
end
theorem nxos_get {ts : List T} {i : Nat} {t : T} (h : nxos ts = true) (e : ts[i]? = some t) : t.nxo = true := by
  induction ts generalizing i with
  | nil => simp at e
  | cons u us ih =>
    simp only [nxos, Bool.and_eq_true] at h
    cases i with
    | zero => simp at e; subst e; exact h.1
    | succ i => exact ih h.2 (by simpa using e)
end

section
variable {Z : Ctx} {L F H : Hp} {d : Addr} {fvs : List (Str × V)}
mutual
theorem Own.noXd : ∀ {v : V} {t : T} {fp : List Addr}, Own Z L F H v t fp → H d = some (.xd fvs) → d ∉ fp
  | _, _, _, .d _, _, h => by simp at h
  | _, _, _, .lst h a, e, hm => (List.mem_cons.mp hm).elim (fun z => by subst z; rw [e] at h; cases h) (OwnAll.noXd a e)
  | _, _, _, .lstb _ _, _, h => by simp at h
  | _, _, _, .tup h a, e, hm => (List.mem_cons.mp hm).elim (fun z => by subst z; rw [e] at h; cases h) (OwnAll.noXd a e)
  | _, _, _, .tupb _ _, _, h => by simp at h
  | _, _, _, .dk h l a, e, hm => (List.mem_cons.mp hm).elim (fun z => by subst z; rw [e] at h; cases h) (OwnAll.noXd a e)
  | _, _, _, .dkb _ _ _, _, h => by simp at h
  | _, _, _, .obj h l a, e, hm => (List.mem_cons.mp hm).elim (fun z => by subst z; rw [e] at h; cases h) (OwnAll.noXd a e)
  | _, _, _, .objb _ _ _, _, h => by simp at h
  | _, _, _, .scr _, _, h => by simp at h
  | _, _, _, .xo _ _ _, _, h => by simp at h
  | _, _, _, .un, _, h => by simp at h
theorem OwnAll.noXd : ∀ {vs : List V} {ts : List T} {fp : List Addr}, OwnAll Z L F H vs ts fp → H d = some (.xd fvs) → d ∉ fp
  | _, _, _, .nil, _, h => by simp at h
  | _, _, _, .cons a b, e, hm => (List.mem_append.mp hm).elim (Own.noXd a e) (OwnAll.noXd b e)
end
end

section
variable {Z : Ctx} {L B B' F F' F1 H H' : Hp} {fp fp' : Nat → List Addr} {g g' : G} {σ σ1 : L2.St} {W : WX} {as : List Nat}
/-- a suite's reading does what f reckons, whatever error it holds -/
def SndH (Z : Ctx) (L : Hp) (W : WX) (as : List Nat) (ts : Addr → Value → Option Addr → TS) (c : Nat) (f : G → SO) : Prop :=
  ∀ (a d : Addr) (fvs : List (Str × V)), Sub L (upd L d (.xd fvs)) → SndS (Z.hold a d) (upd L d (.xd fvs)) noX as (ts a (.ref (Z.ca c)) (some d)) f
/-- the clauses, their classes' answers -/
inductive Hdl (Z : Ctx) (L : Hp) (W : WX) (cal : Cal) (nE : Nat) : MHs → List Clz → Prop
  | nil : Hdl Z L W cal nE .nil []
  | cons {c : Nat} {as : Option Nat} {b : MSs} {hs : MHs} {ts : Addr → Value → Option Addr → TS} {zs : List Clz}
      (yes : ∀ c', c' < nE → PySem.W.exmOne Z.K (.ref (Z.ca c')) (.ref (Z.ca c)) = some (decide (c' = c))) (su : SndH Z L W (stSs b) ts c (exs cal b)) (r : Hdl Z L W cal nE hs zs) : Hdl Z L W cal nE (.cons c as b hs) (⟨.ref (Z.ca c), as, ts⟩ :: zs)
theorem stHs_cons {c : Nat} {as : Option Nat} {b : MSs} {hs : MHs} : (∀ i ∈ stSs b, i ∈ stHs (.cons c as b hs)) ∧ (∀ i ∈ stHs hs, i ∈ stHs (.cons c as b hs)) ∧ ∀ i, as = some i → i ∈ stHs (.cons c as b hs) := by
  cases as with
  | none => exact ⟨fun i h => by simp [stHs, h], fun i h => by simp [stHs, h], fun i h => nomatch h⟩
  | some j => exact ⟨fun i h => by simp [stHs, h], fun i h => by simp [stHs, h], fun i h => by cases h; simp [stHs]⟩

/-- the end of a suite -/
theorem calm_ok {a d : Addr} {fvs : List (Str × V)} {as : Option Nat} {ss bs : List Nat} {o : SO} {De : Ends} {σ0 : L2.St} (hL : ∀ i ∈ ss, i ∈ bs) (hi : ∀ i, as = some i → i ∈ bs) (k0 : Kp bs σ σ0) (sB : Sub B B') (sL : Sub L B) (s : SatS Z L W bs B F σ (o.calm as) De) :
    SatS (Z.hold a d) (upd L d (.xd fvs)) noX ss B' F σ0 o (outD as De) := by
  have base : ∀ {F' : Hp} {fp' : Nat → List Addr} {g' : G} {σ' : L2.St} {H' : Hp}, Rel (Z.hold a d) (upd L d (.xd fvs)) B' F' fp' g' σ' H' → Kp ss σ0 σ' → nxos (goneG as g') = true →
      ∃ fp2 σ2, Rel Z L B F' fp2 (goneG as g') σ2 H' ∧ Kp bs σ σ2 ∧ (∀ fq, Apart B' F' fp' fq → Apart B F' fp2 fq) ∧ (as = none → σ2 = σ') ∧ (∀ i, as = some i → σ2 = σ'.set i none) := by
    intro F' fp' g' σ' H' R k hn
    cases as with
    | none =>
      refine ⟨fp', σ', ⟨R.ls, fun i t e => ?_, R.out, R.sF, sB.trans R.sB, sL, R.nd, R.ds, fun i p hp => ⟨(R.dj i p hp).1, sB.none (R.dj i p hp).2⟩⟩, k0.trans (k.mono hL), fun fq ap => ap.weak sB, fun _ => rfl, fun i h => nomatch h⟩
      rcases R.sl i t e with h | ⟨v, h1, h2⟩
      · exact .inl h
      · exact .inr ⟨v, h1, h2.back (nxos_get hn e)⟩
    | some i =>
      obtain ⟨R1, _⟩ := R.take i
      refine ⟨upf fp' i [], σ'.set i none, ⟨by rw [List.length_set]; exact R1.ls, fun j t e => ?_, R1.out, R1.sF, sB.trans R1.sB, sL, R1.nd, R1.ds, fun j p hp => ⟨(R1.dj j p hp).1, sB.none (R1.dj j p hp).2⟩⟩, ?_, fun fq ap => ?_, (fun h => nomatch h), fun j h => by cases h; rfl⟩
      · by_cases hj : j = i
        · subst hj
          left
          refine ⟨?_, upf_same⟩
          have e' : (g'.set j .un)[j]? = some t := e
          rw [List.getElem?_set_self'] at e'
          cases hg : g'[j]? with
          | none => rw [hg] at e'; simp at e'
          | some w => rw [hg] at e'; simp at e'; exact e'.symm
        · rcases R1.sl j t e with h | ⟨v, h1, h2⟩
          · exact .inl h
          · exact .inr ⟨v, by rw [List.getElem?_set_ne (Ne.symm hj)]; exact h1, h2.back (nxos_get hn e)⟩
      · refine (k0.trans (k.mono hL)).trans (Kp.set.mono fun j hj => ?_)
        simp at hj; subst hj; exact hi _ rfl
      · refine ⟨ap.nd, fun p hp => ⟨(ap.dj p hp).1, sB.none (ap.dj p hp).2⟩, fun p hp j hj => ?_⟩
        by_cases h : j = i
        · subst h; rw [upf_same] at hj; simp at hj
        · rw [upf_ne h] at hj; exact ap.no p hp j hj
  have leB : ∀ {F'}, Le B' F F' → Le B F F' := fun l => l.weak sB
  cases o with
  | bad => exact s
  | ex x g' => exact s.elim
  | nx g' =>
    intro F' fp' σ' H' l R k
    simp only [SO.calm] at s
    split at s
    · rename_i hn
      obtain ⟨fp2, σ2, R2, k2, _, e1, e2⟩ := base R k hn
      have q := s F' fp2 σ2 H' (leB l) R2 k2
      cases as with
      | none => rw [e1 rfl] at q; exact q
      | some i => rw [e2 i rfl] at q; exact q
    · exact s.elim
  | bk g' =>
    intro F' fp' σ' H' l R k
    simp only [SO.calm] at s
    split at s
    · rename_i hn
      obtain ⟨fp2, σ2, R2, k2, _, e1, e2⟩ := base R k hn
      have q := s F' fp2 σ2 H' (leB l) R2 k2
      cases as with
      | none => rw [e1 rfl] at q; exact q
      | some i => rw [e2 i rfl] at q; exact q
    · exact s.elim
  | ct g' =>
    intro F' fp' σ' H' l R k
    simp only [SO.calm] at s
    split at s
    · rename_i hn
      obtain ⟨fp2, σ2, R2, k2, _, e1, e2⟩ := base R k hn
      have q := s F' fp2 σ2 H' (leB l) R2 k2
      cases as with
      | none => rw [e1 rfl] at q; exact q
      | some i => rw [e2 i rfl] at q; exact q
    · exact s.elim
  | rt t g' =>
    intro v F' fp' σ' H' fq l R k ho ap
    simp only [SO.calm] at s
    split at s
    · rename_i hn
      rw [Bool.and_eq_true] at hn
      obtain ⟨fp2, σ2, R2, k2, ap2, e1, e2⟩ := base R k hn.2
      have q := s v F' fp2 σ2 H' fq (leB l) R2 k2 (ho.back hn.1) (ap2 fq ap)
      cases as with
      | none => exact q
      | some i => exact q
    · exact s.elim
/-- the clauses take what the body lets out -/
theorem hdl_ok {cal : Cal} {nE : Nat} {hs : MHs} {zs : List Clz} (hk : Hdl Z L W cal nE hs zs) (hx : Z.xa = none) : ∀ {B F : Hp} {fp : Nat → List Addr} {g : G} {σ0 σ : L2.St} {H : Hp} {d : Addr} {e : Exc} {De : Ends} {as : List Nat}, (∀ i ∈ stHs hs, i ∈ as) → e.c < nE →
    Rel Z L B F fp g σ H → Kp as σ0 σ → XIs Z F H d e → SatS Z L W as B F σ0 (exh cal hs e g) De → wClz Z.K W De zs (.ref (Z.ca e.c)) (some d) σ H := by
  induction hk with
  | nil =>
    intro B F fp g σ0 σ H d e De as _ _ R k xi s
    exact s d F fp σ H (.refl B F) R k xi
  | @cons c an b hs ts zs yes su r ih =>
    intro B F fp g σ0 σ H d e De as ha hc R k xi s
    obtain ⟨h1, h2, h3⟩ := stHs_cons (c := c) (as := an) (b := b) (hs := hs)
    refine ⟨decide (e.c = c), yes e.c hc, fun et a hna => ?_, fun ef => ?_⟩
    · have et : e.c = c := of_decide_eq_true et
      obtain ⟨fvs, hd, hf⟩ := xi
      have sL2 : Sub L (upd L d (.xd fvs)) := fun p o hp => by
        by_cases e : p = d
        · subst e
          have := R.sLH p o hp
          rw [hd] at this
          cases this
          exact upd_same
        · rw [upd_ne e]; exact hp
      -- the base with the error's dict
      have sLB : Sub (upd L d (.xd fvs)) (fz B H [d]) := fun p o hp => by
        by_cases e : p = d
        · subst e
          rw [upd_same] at hp
          cases hp
          exact fz_mem (by simp) hd
        · rw [upd_ne e] at hp
          exact fz_sub R.sB _ _ (R.sL _ _ hp)
      have noXd : ∀ i, d ∉ fp i := fun i hi => by
        rcases (show i < g.length ∨ g.length ≤ i by omega) with hl | hl
        · rcases R.sl i g[i] (by simp [hl]) with ⟨_, e⟩ | ⟨v, _, ho⟩
          · rw [e] at hi; simp at hi
          · exact Own.noXd ho hd hi
        · rw [R.out i hl] at hi; simp at hi
      have R1 : Rel (Z.hold a d) (upd L d (.xd fvs)) (fz B H [d]) F fp g σ H := ⟨R.ls, fun i t e => (R.sl i t e).imp id fun ⟨v, h1, h2⟩ => ⟨v, h1, h2.hold hx sL2⟩, R.out, R.sF, fz_le R.sB, sLB, R.nd, R.ds, fun i p hp => ⟨(R.dj i p hp).1, by
        rw [fz_out (by intro h; simp at h; subst h; exact noXd i hp)]; exact (R.dj i p hp).2⟩⟩
      simp only [exh, if_pos et] at s
      rw [et]
      cases an with
      | none =>
        exact su a d fvs sL2 (fz B H [d]) F fp g σ H _ R1 (calm_ok (fun i hi => ha i (h1 i hi)) (fun i h => nomatch h) k (fz_sub R.sB) R.sL s)
      | some i =>
        simp only at s
        split at s
        · exact s.elim
        · split at s
          · rename_i hil
            obtain ⟨fp', R2, _⟩ := R1.store i (v := .ref a) (t := .xo e) (fq := []) (f2 := []) (.xo rfl upd_same fun n f x e1 e2 => let ⟨v, h4, h5⟩ := hf n f x e1 e2; ⟨v, h4, h5.hold⟩) .nil
            refine su a d fvs sL2 (fz B H [d]) F fp' _ _ H _ R2 (calm_ok (fun j hj => ha j (h1 j hj)) (fun j h => ha j (h3 j h)) (k.trans (Kp.set.mono fun j hj => ?_)) (fz_sub R.sB) R.sL s)
            simp at hj; subst hj; exact ha _ (h3 _ rfl)
          · exact s.elim
    · have ef : ¬ e.c = c := of_decide_eq_false ef
      simp only [exh, if_neg ef] at s
      exact ih (fun i hi => ha i (h2 i hi)) hc R k xi s
/-- try: .. except .. -/
theorem SndS.try_ {cal : Cal} {nE : Nat} {hs : MHs} {zs : List Clz} {tb : WX → TS} {fb : G → SO} (hk : Hdl Z L W cal nE hs zs) (hx : Z.xa = none) (ha : ∀ i ∈ stHs hs, i ∈ as) (hb : ∀ W', SndS Z L W' as (tb W') fb) :
    SndS Z L W as (fun De τ J => tb (wClz Z.K W De zs) De τ J) (fun g => catchS (fb g) fun e g1 => if e.c < nE then exh cal hs e g1 else .bad) := by
  intro B F fp g σ H De R s
  replace s : SatS Z L W as B F σ (catchS (fb g) fun e g1 => if e.c < nE then exh cal hs e g1 else .bad) De := s
  refine hb _ B F fp g σ H De R ?_
  unfold SatS
  cases e : fb g with
  | nx g' => rw [e] at s; exact s
  | bk g' => rw [e] at s; exact s
  | ct g' => rw [e] at s; exact s
  | rt t g' => rw [e] at s; exact s
  | bad => rw [e] at s; exact s
  | ex x g1 =>
    rw [e] at s
    simp only [catchS] at s
    split at s
    · rename_i hc
      intro d F' fp' σ' H' le R' k xi
      exact hdl_ok hk hx ha hc R' k xi (s.step le (.refl _ _))
    · exact s.elim
end
/-! ### what a suite reads of its error -/
section
variable {Z : Ctx} {L : Hp} {W : WX} {a d : Addr} {fvs : List (Str × V)}
/-- err.f -/
theorem snd_xfld {i c : Nat} {f : Str} (hc : ∀ e : Exc, True) : Snd (Z.hold a d) (upd L d (.xd fvs)) W kR (fun σ H Q => tXf a (.ref (Z.ca c)) (some d) (Z.ca c) f (tVar i) σ H Q) (xfldR i f) := by
  intro B F fp g σ H Q R s
  replace s : Sat (Z.hold a d) (upd L d (.xd fvs)) W kR B F σ (xfldR i f g) Q := s
  unfold xfldR at s
  split at s
  · rename_i e eg
    rcases R.sl i _ eg with ⟨h, _⟩ | ⟨v, ev, ho⟩
    · cases h
    · generalize fp i = fi at ho
      cases ho with
      | @xo a' d' fvs' _ h1 h2 h3 =>
        have h1 : some (a, d) = some (a', d') := h1
        cases h1
        rw [upd_same] at h2
        cases h2
        cases ep : posOf e.ns f with
        | none => rw [ep] at s; exact s.elim
        | some n =>
          rw [ep] at s
          obtain ⟨r, h4, h5⟩ := lift_sat s
          obtain ⟨x, h6, h7⟩ := map_some h4
          subst h7
          obtain ⟨v, h8, h9⟩ := h3 n f x ep h6
          exact ⟨.ref a, ev, rfl, rfl, d, fvs, v, rfl, R.sLH _ _ upd_same, h8, sat_data R h9 h5⟩
  · exact s.elim
end
end Wh

/-! Wh, part 18: isinstance. -/
namespace Wh
open PySem L2 PySem.Spec PyProof.Rows

section
variable {Z : Ctx} {L B F H : Hp} {fp : Nat → List Addr} {g : G} {σ : L2.St} {W : WX}
/-- the built-in type of a tree -/
def tyN : T → Option String
  | .d .non => some "NoneType"
  | .d (.bl _) => some "bool"
  | .d (.int _) => some "int"
  | .d (.str _) => some "str"
  | .d (.lst _) => some "list"
  | .d (.tup _) => some "tuple"
  | .lst _ _ => some "list"
  | .tup _ _ => some "tuple"
  | _ => none
def kN : TyK → Option String
  | .int => some "int"
  | .bool => some "bool"
  | .str => some "str"
  | .tuple => some "tuple"
  | .list => some "list"
  | .cls _ => none
theorem Own.tyx {K : PySem.W.Frag} (hK : K = Z.K) (sF : Sub F H) (sL : Sub L H) {v : V} {t : T} {fq : List Addr} {n : String} (h : Own Z L F H v t fq) (e : tyN t = some n) : TyX K H v (.type n) := by
  subst hK
  cases h with
  | d h =>
    cases h with
    | non => cases e; exact .base .non
    | bl b => cases e; exact .base (.bl b)
    | int i => cases e; exact .base (.int i)
    | str s => cases e; exact .base (.str s)
    | lst h a => cases e; exact .base (.lst (sF _ _ h))
    | tup h a =>
      cases e
      rcases sF.sqt h with (h | ⟨o, h⟩) | ⟨o, its, m, h1, h2, _⟩
      · exact .base (.tup h)
      · exact .fTuple h
      · exact .kTuple h1 h2
    | _ => cases e
  | lst h a => cases e; exact .base (.lst h)
  | lstb h a => cases e; exact .base (.lst (sL _ _ h))
  | tup h a => cases e; exact .base (.tup h)
  | tupb h a => cases e; exact .base (.tup (sL _ _ h))
  | _ => cases e
theorem isTy_kit {k : TyK} {t : T} {b : Bool} {n : String} (hk : kN k = some n) (h : isTy k t = some b) : ∃ m, tyN t = some m ∧ kitB m n = some b := by
  cases k with
  | cls c => cases hk
  | int =>
    cases hk
    cases t with
    | d x => cases x <;> cases h <;> exact ⟨_, rfl, by decide +kernel⟩
    | _ => cases h <;> exact ⟨_, rfl, by decide +kernel⟩
  | bool =>
    cases hk
    cases t with
    | d x => cases x <;> cases h <;> exact ⟨_, rfl, by decide +kernel⟩
    | _ => cases h <;> exact ⟨_, rfl, by decide +kernel⟩
  | str =>
    cases hk
    cases t with
    | d x => cases x <;> cases h <;> exact ⟨_, rfl, by decide +kernel⟩
    | _ => cases h <;> exact ⟨_, rfl, by decide +kernel⟩
  | tuple =>
    cases hk
    cases t with
    | d x => cases x <;> cases h <;> exact ⟨_, rfl, by decide +kernel⟩
    | _ => cases h <;> exact ⟨_, rfl, by decide +kernel⟩
  | list =>
    cases hk
    cases t with
    | d x => cases x <;> cases h <;> exact ⟨_, rfl, by decide +kernel⟩
    | _ => cases h <;> exact ⟨_, rfl, by decide +kernel⟩
theorem one_isi {K : PySem.W.Frag} (hK : K = Z.K) {k : TyK} {n : String} (hk : kN k = some n) : One Z L W (fun x H Q => rIsi K [x, .ty n] H Q) (isiR k) := by
  intro B F fp g σ H va ra Q R cl s
  unfold isiR at s
  cases et : ra.tree g with
  | none => rw [et] at s; exact s.elim
  | some t =>
    rw [et] at s
    obtain ⟨r, h4, h5⟩ := lift_sat s
    obtain ⟨b, h6, h7⟩ := map_some h4
    subst h7
    obtain ⟨m, h1, h2⟩ := isTy_kit hk h6
    obtain ⟨fu, ho⟩ := Cl.own R cl et
    exact ⟨va, .ty n, .type m, .type n, b, rfl, .ty n, ho.tyx hK R.sF R.sLH h1, kit_ty h2, sat_data R (.bl b) h5⟩
end

/-! ### isinstance(err, C) -/
section
open PySem.W PySem.Calls
variable {prog : Program} {w : World} {A : Around} {E : Value → Shared → Prop} {K : Frag} {x D : Addr} {ox : Obj} {od : Option Obj}
theorem cls_found (c : ExcC K D) : findObj K D od "__class__" = some (.bind (.builtin "getset_descriptor.__get__") (.builtin "object.__class__")) := by
  obtain ⟨cd, hcd⟩ := Option.isSome_iff_exists.mp (show (clsIn K D).isSome = true by
    have := c.hd
    unfold hasDictIn at this
    cases h : clsIn K D with
    | some _ => rfl
    | none => rw [h] at this; simp at this)
  have e1 := c.ha
  have e2 := c.hn
  have e3 := c.ht
  unfold findObj
  rw [hcd, Option.bind_some, e1]
  simp only [Option.bind_some, e2, e3]
/-- the class of an error, asked through its own dict -/
theorem ask_cls {hp : Heap} {gs : Array GenState} {dr : Drawn} {tk : Nat} {os : OsState} {Q : Option Value → Shared → Prop} (c : ExcC K D) (kin : K.In hp) (at_ : InstAt hp x ox D od)
    (h : Q (some (.ref D)) ⟨hp, gs, dr, tk + 1, os⟩) : wpAny (model prog w) A (getAttr? (.ref x) "__class__") Q E ⟨hp, gs, dr, tk, os⟩ := by
  have ty := at_.type (M := model prog w)
  have isE : Looks (model prog w) hp (isInstance (.ref x) (.type "BaseException")) true := ty.andThen (looks_subIn kin c.hs)
  have gaFact := PySem.F.excAttr_ValueError.ga
  unfold getAttr? getAttrBy? getAttrBy
  refine wpAny_bind (wpAny_mkText (wpAny_bind (wpAny_attempt (wpAny_holding (wpAny_bind (ty.at (wpAny_bind ((looks_findIn kin c.hg).at ?_))))))))
  have no1 : (onTheHeap (Value.ref D) && Value.builtin "BaseException.__getattribute__" == Value.builtin "object.__getattribute__") = false := by
    have z : (Value.builtin "BaseException.__getattribute__" == Value.builtin "object.__getattribute__") = false := by decide +kernel
    rw [z, Bool.and_false]
  show wpAny _ _ (ite ((onTheHeap (Value.ref D) && Value.builtin "BaseException.__getattribute__" == Value.builtin "object.__getattribute__") = true) _ _) _ _ _
  rw [no1, if_neg (by simp)]
  unfold getAttrByItsOwn hookBefore
  refine wpAny_bind ?_
  rw [if_pos (by rfl)]
  refine (looks_findIn kin c.hk).at (wpAny_bind (wpAny_attempt (wpAny_holding ?_)))
  unfold callGetattribute
  rw [if_neg (by decide)]
  unfold boundAndCalled
  rw [gaFact.bind (.ref x)]
  refine wpAny_bind (wpAny_pure ?_)
  refine wpAny_call (codeAny_call_builtin gaFact.plain PySem.F.entry_bexc_ga ?_)
  refine @check_slot (model prog w) _ _ ⟨hp, gs, dr, tk + 1, os⟩ "BaseException.__getattribute__" "BaseException" "__getattribute__" (.ref x) [.str "__class__" tk] [] _ (by decide +kernel) (by decide +kernel) isE (PySem.F.args_bexc_ga (.ref x) (.str "__class__" tk)) ?_
  unfold Builtin.«object.__getattribute__»
  refine wpAny_bind (wpAny_of_eq (a := ((Value.ref x : Value), [Value.str "__class__" tk])) (by first | rfl | (simp only [slotArgs]; rfl)) (wpAny_bind (wpAny_pure (wpAny_bind (ty.at (wpAny_bind ((looks_find kin at_ (cls_found c)).at ?_)))))))
  refine wpAny_bind (m := holding [Value.builtin "object.__class__"] (call (.builtin "getset_descriptor.__get__") [.builtin "object.__class__", .ref x, .ref D])) ?_
  refine wpAny_holding (wpAny_call (class_get (s := ⟨hp, gs, dr, tk + 1, os⟩) (od := od) kin at_ c.hm (wpAny_pure ?_)))
  show wpAny _ _ (handedOut (.ref D)) _ _ _
  rw [handedOut_of (v := .ref D) rfl]
  first
    | exact wpAny_pure (wpAny_pure h)
    | exact wpAny_pure h
    | exact wpAny_pure (wpAny_bind (wpAny_pure (wpAny_pure h)))
theorem cls_obj (c : ExcC K D) : ∃ oc oo cd sl, K.lookup D = some ⟨oc, oo, .cls cd, sl⟩ := by
  have := c.hd
  unfold hasDictIn clsIn at this
  split at this
  · rename_i ho; exact ⟨_, _, _, _, ho⟩
  · simp at this
theorem kit_err (c : ExcC K D) : KitX K (.ref x) (.ref D) (fun h => ∃ ox od, InstAt h x ox D od) where
  ty := fun _ _ _ ⟨_, _, I⟩ => I.type
  it := fun _ _ kin _ => by
    obtain ⟨oc, oo, cd, sl, ho⟩ := cls_obj c
    intro A' Q' E' s' k q
    unfold isType loadHead
    exact wpAny_bind (wpAny_loadPart (k _ _ (kin _ _ ho)) (wpAny_pure q))
  ne := fun h tp dd its n sl kin htp => by
    obtain ⟨oc, oo, cd, sl', ho⟩ := cls_obj c
    rw [beq_eq_false_iff_ne]
    intro e
    injection e with e
    subst e
    have := kin _ _ ho
    rw [htp] at this
    cases this
  ca := fun {prog w A E Q s} kin ⟨ox, od, I⟩ k => by
    obtain ⟨hp, gs, dr, tk, os⟩ := s
    exact ask_cls c kin I k
end
/-- isinstance(err, C), err the error that the suite holds -/
theorem call_isX {X : Cx} {a D d : Addr} {oe : Obj} {pn : List (Addr × Obj)} (C : ExcC X.K D) (hz : Zc (.ref D) (some d) oe) (hf : ∃ vs, oe.data = .fields vs) :
    CallR (X.suite a ((a, oe) :: pn)) (.builtin "isinstance") (fun xs H Q => ∃ (c : Addr) (b : Bool) (fs : List (Str × V)), xs = [.ref a, .ref c] ∧ H d = some (.xd fs) ∧ PySem.W.kitOne X.K (.ref D) (.ref c) = some b ∧ Q (.bl b) H) := by
  intro pins s σ H xs us Q I r h
  obtain ⟨c, b, fs, rfl, hd, e, q⟩ := h
  obtain ⟨u1, u2, rfl, r1, r2⟩ := vals2 r
  cases r1
  cases r2
  have ha := (I.pin (a, oe) (List.mem_append_left _ (.head _))).1
  obtain ⟨vs, hv⟩ := hf
  obtain ⟨mA, hns, _⟩ := (show ObjOk X.prog X.w H s.heap d (.xd fs) from I.hok d _ hd)
  obtain ⟨od, ho, _⟩ := lookIn_ns hns
  have J : PySem.W.InstAt s.heap a oe D (some od) := ⟨ha, hz.1, by unfold PySem.W.notCls; rw [hv] <;> rfl, by rw [hz.2]; exact ho⟩
  exact PySem.W.kia_one (kit_err C) I.kIn ⟨oe, some od, J⟩ e (fun z => nomatch z) fun tk => ⟨.bl b, H, I.tok tk, rfl, q⟩
/-- isinstance(err, T), T built in -/
theorem call_isV {X : Cx} {a D d : Addr} {oe : Obj} {pn : List (Addr × Obj)} {T : String} (C : ExcC X.K D) (hz : Zc (.ref D) (some d) oe) (hf : ∃ vs, oe.data = .fields vs) :
    CallR (X.suite a ((a, oe) :: pn)) (.builtin "isinstance") (fun xs H Q => ∃ (b : Bool) (fs : List (Str × V)), xs = [.ref a, .ty T] ∧ H d = some (.xd fs) ∧ PySem.W.kitOne X.K (.ref D) (.type T) = some b ∧ Q (.bl b) H) := by
  intro pins s σ H xs us Q I r h
  obtain ⟨b, fs, rfl, hd, e, q⟩ := h
  obtain ⟨u1, u2, rfl, r1, r2⟩ := vals2 r
  cases r1
  cases r2
  have ha := (I.pin (a, oe) (List.mem_append_left _ (.head _))).1
  obtain ⟨vs, hv⟩ := hf
  obtain ⟨mA, hns, _⟩ := (show ObjOk X.prog X.w H s.heap d (.xd fs) from I.hok d _ hd)
  obtain ⟨od, ho, _⟩ := lookIn_ns hns
  have J : PySem.W.InstAt s.heap a oe D (some od) := ⟨ha, hz.1, by unfold PySem.W.notCls; rw [hv] <;> rfl, by rw [hz.2]; exact ho⟩
  exact PySem.W.kia_one (kit_err C) I.kIn ⟨oe, some od, J⟩ e (fun z => nomatch z) fun tk => ⟨.bl b, H, I.tok tk, rfl, q⟩
section
variable {Z : Ctx} {L : Hp} {W : WX} {a d : Addr} {fvs : List (Str × V)}
/-- isinstance(err, C): c0 the error's class, as the suite knows it -/
theorem snd_xis {i c c0 : Nat} {K : PySem.W.Frag} (hK : K = Z.K) (hk : PySem.W.kitOne K (.ref (Z.ca c0)) (.ref (Z.ca c)) = some (decide (c0 = c))) :
    Snd (Z.hold a d) (upd L d (.xd fvs)) W kR (fun σ H Q => tCons (tVar i) (tCons (tC (.ref (Z.ca c))) tNil) σ H fun xs H => ∃ (cc : Addr) (b : Bool) (fs : List (Str × V)), xs = [.ref a, .ref cc] ∧ H d = some (.xd fs) ∧ PySem.W.kitOne K (.ref (Z.ca c0)) (.ref cc) = some b ∧ Q (.bl b) H) (xisR i c c0) := by
  intro B F fp g σ H Q R s
  replace s : Sat (Z.hold a d) (upd L d (.xd fvs)) W kR B F σ (xisR i c c0 g) Q := s
  unfold xisR at s
  split at s
  · rename_i e eg
    rcases R.sl i _ eg with ⟨h, _⟩ | ⟨v, ev, ho⟩
    · cases h
    · generalize fp i = fi at ho
      cases ho with
      | @xo a' d' fvs' _ h1 h2 h3 =>
        have h1 : some (a, d) = some (a', d') := h1
        cases h1
        split at s
        · exact ⟨.ref a, ev, Z.ca c, _, fvs, rfl, R.sLH _ _ upd_same, hk, sat_data R (.bl _) s⟩
        · exact s.elim
  · exact s.elim
/-- isinstance(err, ValueError) -/
theorem snd_xvb {i c0 : Nat} {K : PySem.W.Frag} (hk : PySem.W.kitOne K (.ref (Z.ca c0)) (.type "ValueError") = some true) :
    Snd (Z.hold a d) (upd L d (.xd fvs)) W kR (fun σ H Q => tCons (tVar i) (tCons (tC (.ty "ValueError")) tNil) σ H fun xs H => ∃ (b : Bool) (fs : List (Str × V)), xs = [.ref a, .ty "ValueError"] ∧ H d = some (.xd fs) ∧ PySem.W.kitOne K (.ref (Z.ca c0)) (.type "ValueError") = some b ∧ Q (.bl b) H) (xvbR i) := by
  intro B F fp g σ H Q R s
  replace s : Sat (Z.hold a d) (upd L d (.xd fvs)) W kR B F σ (xvbR i g) Q := s
  unfold xvbR at s
  split at s
  · rename_i e eg
    rcases R.sl i _ eg with ⟨h, _⟩ | ⟨v, ev, ho⟩
    · cases h
    · generalize fp i = fi at ho
      cases ho with
      | @xo a' d' fvs' _ h1 h2 h3 =>
        have h1 : some (a, d) = some (a', d') := h1
        cases h1
        exact ⟨.ref a, ev, _, fvs, rfl, R.sLH _ _ upd_same, hk, sat_data R (.bl _) s⟩
  · exact s.elim
end
end Wh

/-! Wh, part 19: calls: what a def promises, by what f reckons. -/
namespace Wh
open PySem L2

def OutNb (as as' : List T) : Prop := ∀ (j : Nat) (a t : T), as[j]? = some a → as'[j]? = some t → (a.bnd = true ∧ t = a) ∨ t.nb = true
def EndC (Z : Ctx) (as : List T) (vs : List V) (B F : Hp) (Q : VK) (E : XK) : CO → Prop
  | .ok t as' => ∀ v F' fp' H' fq, Le B F F' → Rel Z B B F' fp' as' (vs.map some) H' → OutNb as as' → t.nb = true → Own Z B F' H' v t fq → Apart B F' fp' fq → Q v H'
  | .ex e as' => ∀ d F' fp' H', Le B F F' → Rel Z B B F' fp' as' (vs.map some) H' → OutNb as as' → XIs Z F' H' d e → E (.ref (Z.ca e.c)) (some d) H'
  | .bad => False
/-- the promise of def f -/
def sp (Z : Ctx) (cal : Cal) (f : Nat) : Sp := fun vs H Q E => ∃ as B F fp, Rel Z B B F fp as (vs.map some) H ∧ EndC Z as vs B F Q E (cal f as)

section
variable {Z : Ctx} {L B B' F F' F1 H H' : Hp} {fp fp' : Nat → List Addr} {g g' : G} {σ σ1 : L2.St} {W : WX} {as : List Nat}
theorem Rel.give2 (R : Rel Z L B F fp g σ H) {i : Nat} {v : V} {t : T} {fq : List Addr} (ev : σ[i]? = some (some v)) (ho : Own Z L F H v t fq) (ap : Apart B F fp fq) :
    Rel Z L B F (upf fp i fq) (g.set i t) σ H := by
  have R1 := (R.take i).1
  have R2 := R1.give (i := i) ev upf_same ho ⟨ap.nd, ap.dj, fun p hp j hj => by
    by_cases h : j = i
    · subst h; rw [upf_same] at hj; simp at hj
    · rw [upf_ne h] at hj; exact ap.no p hp j hj⟩
  have e1 : (g.set i .un).set i t = g.set i t := by simp
  have e2 : upf (upf fp i []) i fq = upf fp i fq := by
    funext j
    by_cases h : j = i
    · subst h; rw [upf_same, upf_same]
    · rw [upf_ne h, upf_ne h, upf_ne h]
  rw [e1, e2] at R2
  exact R2
/-- footprints apart from each other and from all slots -/
structure Sep (B F : Hp) (fp : Nat → List Addr) (f : Nat → List Addr) : Prop where
  nd : ∀ j, (f j).Nodup
  ds : ∀ j k, j ≠ k → ∀ p ∈ f j, p ∉ f k
  dj : ∀ j, ∀ p ∈ f j, F p = none ∧ B p = none
  no : ∀ j, ∀ p ∈ f j, ∀ i, p ∉ fp i
theorem Sep.at {f : Nat → List Addr} (s : Sep B F fp f) (j : Nat) : Apart B F fp (f j) := ⟨s.nd j, s.dj j, s.no j⟩
theorem back_ok : ∀ {rs : List R} {vs : List V} {ts : List T} {fp : Nat → List Addr} {g : G} {f : Nat → List Addr}, Rel Z L B F fp g σ H → Sep B F fp f →
    (∀ (j i : Nat) (t : T), rs[j]? = some (.m i) → ts[j]? = some t → ∃ v, σ[i]? = some (some v) ∧ Own Z L F H v t (f j)) →
    ∃ fp2, Rel Z L B F fp2 (back rs ts g) σ H ∧ ∀ p i, p ∈ fp2 i → (∃ k, p ∈ fp k) ∨ ∃ j, p ∈ f j := by
  intro rs
  induction rs with
  | nil => intro vs ts fp g f R _ _; exact ⟨fp, by cases ts <;> exact R, fun p i h => .inl ⟨i, h⟩⟩
  | cons r rs ih =>
    intro vs ts fp g f R s h
    cases ts with
    | nil => exact ⟨fp, by cases r <;> exact R, fun p i h => .inl ⟨i, h⟩⟩
    | cons t ts =>
      have s2 : Sep B F fp fun j => f (j + 1) := ⟨fun j => s.nd _, fun j k e => s.ds _ _ (by omega), fun j => s.dj _, fun j => s.no _⟩
      have h2 : ∀ (j i : Nat) (u : T), rs[j]? = some (.m i) → ts[j]? = some u → ∃ v, σ[i]? = some (some v) ∧ Own Z L F H v u (f (j + 1)) := fun j i u e1 e2 => h (j + 1) i u (by simpa using e1) (by simpa using e2)
      cases r with
      | t u =>
        obtain ⟨fp2, h3, h4⟩ := ih (vs := vs) R s2 h2
        exact ⟨fp2, h3, fun p i hp => (h4 p i hp).imp id fun ⟨j, hj⟩ => ⟨_, hj⟩⟩
      | p i q =>
        obtain ⟨fp2, h3, h4⟩ := ih (vs := vs) R s2 h2
        exact ⟨fp2, h3, fun p i hp => (h4 p i hp).imp id fun ⟨j, hj⟩ => ⟨_, hj⟩⟩
      | m i =>
        obtain ⟨v, ev, ho⟩ := h 0 i t rfl rfl
        have R2 := R.give2 ev ho (s.at 0)
        obtain ⟨fp2, h3, h4⟩ := ih (vs := vs) R2 ⟨s2.nd, s2.ds, s2.dj, fun j p hp k hk => by
          by_cases e : k = i
          · subst e; rw [upf_same] at hk; exact s.ds 0 (j + 1) (by omega) p hk hp
          · rw [upf_ne e] at hk; exact s.no _ p hp k hk⟩ h2
        refine ⟨fp2, h3, fun p k hp => ?_⟩
        rcases h4 p k hp with ⟨k', hk⟩ | ⟨j, hj⟩
        · by_cases e : k' = i
          · subst e; rw [upf_same] at hk; exact .inr ⟨0, hk⟩
          · rw [upf_ne e] at hk; exact .inl ⟨k', hk⟩
        · exact .inr ⟨_, hj⟩
/-- the heap without what is given away -/
def rem (H : Hp) (fm : List Addr) : Hp := fun p => if p ∈ fm then none else H p
theorem rem_in {fm : List Addr} {p : Addr} (h : p ∈ fm) : rem H fm p = none := if_pos h
theorem rem_out {fm : List Addr} {p : Addr} (h : p ∉ fm) : rem H fm p = H p := if_neg h
theorem rem_sub {fm : List Addr} : Sub (rem H fm) H := fun p o e => by
  by_cases h : p ∈ fm
  · rw [rem_in h] at e; cases e
  · rw [rem_out h] at e; exact e
/-- the arguments, as the callee has them -/
structure ArgsOk (Z : Ctx) (L B F H : Hp) (σ : L2.St) (fp : Nat → List Addr) (fq : List Addr) (rs : List R) (vs : List V) (g1 : G) (ts : List T) (fp1 : Nat → List Addr) (f : Nat → List Addr) : Prop where
  rel : Rel Z L B F fp1 g1 σ H
  len : vs.length = ts.length
  sep : Sep B F fp1 f
  out : ∀ j, ts.length ≤ j → f j = []
  same : ∀ i, g1[i]? ≠ some .un → fp1 i = fp i
  from_ : ∀ j p, p ∈ f j → p ∈ fq ∨ ∃ k, p ∈ fp k
  sub : ∀ i p, p ∈ fp1 i → p ∈ fp i
  arg : ∀ j t, ts[j]? = some t → ∃ v, vs[j]? = some v ∧ ∀ B', Sub L B' → (∀ i, ∀ p ∈ fp1 i, B' p = H p) → Own Z B' F H v t (f j)
  mov : ∀ j i, rs[j]? = some (.m i) → ∃ v t, vs[j]? = some v ∧ σ[i]? = some (some v) ∧ ts[j]? = some t ∧ Own Z L F H v t (f j)
def shf (l : List Addr) (f : Nat → List Addr) : Nat → List Addr
  | 0 => l
  | j + 1 => f j
theorem shf_sep {l : List Addr} {f : Nat → List Addr} (a : Apart B F fp l) (s : Sep B F fp f) (d : ∀ p ∈ l, ∀ j, p ∉ f j) : Sep B F fp (shf l f) := by
  refine ⟨fun j => ?_, fun j k hjk p hp => ?_, fun j p hp => ?_, fun j p hp => ?_⟩
  · cases j with
    | zero => exact a.nd
    | succ j => exact s.nd j
  · cases j with
    | zero => cases k with
      | zero => exact absurd rfl hjk
      | succ k => exact d p hp k
    | succ j => cases k with
      | zero => exact fun h => d p h j hp
      | succ k => exact s.ds j k (by omega) p hp
  · cases j with
    | zero => exact a.dj p hp
    | succ j => exact s.dj j p hp
  · cases j with
    | zero => exact a.no p hp
    | succ j => exact s.no j p hp
theorem toArgs_un {i : Nat} : ∀ {rs : List R} {g g1 : G} {ts : List T}, toArgs rs g = some (ts, g1) → g[i]? = some .un → g1[i]? = some .un := by
  intro rs
  induction rs with
  | nil => intro g g1 ts e h; simp only [toArgs, Option.some.injEq, Prod.mk.injEq] at e; rw [← e.2]; exact h
  | cons r rs ih =>
    intro g g1 ts e h
    cases r with
    | t u =>
      simp only [toArgs] at e
      obtain ⟨⟨ts', g1'⟩, e1, e2⟩ := map_some e
      simp only [Prod.mk.injEq] at e2
      rw [← e2.2]
      exact ih e1 h
    | p k q =>
      simp only [toArgs] at e
      cases et : Wh.R.tree g (.p k q) with
      | none => rw [et] at e; cases e
      | some t =>
        rw [et] at e
        simp only at e
        cases er : toArgs rs g with
        | none => rw [er] at e; cases e
        | some x =>
          obtain ⟨ts', g1'⟩ := x
          rw [er] at e
          simp only at e
          split at e
          · cases e
          · simp only [Option.some.injEq, Prod.mk.injEq] at e
            rw [← e.2]
            exact ih er h
    | m k =>
      simp only [toArgs] at e
      cases eg : g[k]? with
      | none => rw [eg] at e; cases e
      | some t =>
        rw [eg] at e
        have hs : (g.set k .un)[i]? = some .un := by
          by_cases hk : k = i
          · subst hk; exact List.getElem?_set_self (List.getElem?_eq_some_iff.mp eg).1
          · rw [List.getElem?_set_ne hk]; exact h
        have go : (toArgs rs (g.set k .un)).map (fun (x : List T × G) => (t :: x.1, x.2)) = some (ts, g1) → g1[i]? = some .un := fun e => by
          obtain ⟨⟨ts', g1'⟩, e1, e2⟩ := map_some e
          simp only [Prod.mk.injEq] at e2
          rw [← e2.2]
          exact ih e1 hs
        cases t with
        | un => cases e
        | xo _ => cases e
        | _ => exact go e
theorem args_ok : ∀ {rs : List R} {vs : List V} {g g1 : G} {ts : List T} {fp : Nat → List Addr} {fq : List Addr}, toArgs rs g = some (ts, g1) → Rel Z L B F fp g σ H → Pls σ H vs rs → OwnAll Z L F H (exV vs rs) (exT rs) fq → Apart B F fp fq →
    ∃ fp1 f, ArgsOk Z L B F H σ fp fq rs vs g1 ts fp1 f := by
  intro rs
  induction rs with
  | nil =>
    intro vs g g1 ts fp fq e R pl ho ap
    cases pl
    simp only [toArgs, Option.some.injEq, Prod.mk.injEq] at e
    obtain ⟨rfl, rfl⟩ := e
    exact ⟨fp, fun _ => [], R, rfl, ⟨fun _ => .nil, fun _ _ _ _ h => by simp at h, fun _ _ h => by simp at h, fun _ _ h => by simp at h⟩, fun _ _ => rfl, fun _ _ => rfl, fun _ _ h => by simp at h, fun _ _ h => h, fun j t e => by simp at e, fun j i e => by simp at e⟩
  | cons r rs ih =>
    intro vs g g1 ts fp fq e R pl ho ap
    cases pl with
    | @t v vs u _ pl =>
      simp only [toArgs] at e
      obtain ⟨⟨ts', g1'⟩, e1, e2⟩ := map_some e
      simp only [Prod.mk.injEq] at e2
      obtain ⟨rfl, rfl⟩ := e2
      have ho' : OwnAll Z L F H (v :: exV vs rs) (u :: exT rs) fq := ho
      cases ho' with
      | @cons _ _ _ _ f1 f2 a b =>
        obtain ⟨fp1, f, k⟩ := ih e1 R pl b ap.right
        have d12 : ∀ p ∈ f1, p ∉ f2 := fun p hp hq => (List.nodup_append.mp ap.nd).2.2 p hp p hq rfl
        have dis : ∀ p ∈ f1, ∀ j, p ∉ f j := fun p hp j hj => (k.from_ j p hj).elim (d12 p hp) fun ⟨k, hk⟩ => ap.no p (by simp [hp]) k hk
        refine ⟨fp1, shf f1 f, k.rel, by simp [k.len], shf_sep ⟨ap.left.nd, ap.left.dj, fun p hp i hi => ap.left.no p hp i (k.sub i p hi)⟩ k.sep dis, fun j hj => ?_, k.same, fun j p hp => ?_, k.sub, fun j t ej => ?_, fun j i ej => ?_⟩
        · cases j with
          | zero => simp at hj
          | succ j => exact k.out j (by simpa using hj)
        · cases j with
          | zero => exact .inl (List.mem_append_left _ hp)
          | succ j => exact (k.from_ j p hp).imp (fun h => List.mem_append_right _ h) id
        · cases j with
          | zero =>
            simp at ej
            subst ej
            exact ⟨v, rfl, fun B' s _ => a.frame (.refl F) s fun _ _ => rfl⟩
          | succ j => exact k.arg j t (by simpa using ej)
        · cases j with
          | zero => simp at ej
          | succ j => exact k.mov j i (by simpa using ej)
    | @p v v0 vs i q _ e0 pv pl =>
      simp only [toArgs] at e
      cases et : Wh.R.tree g (.p i q) with
      | none => rw [et] at e; cases e
      | some t =>
        rw [et] at e
        simp only at e
        cases er : toArgs rs g with
        | none => rw [er] at e; cases e
        | some x =>
          obtain ⟨ts', g1'⟩ := x
          rw [er] at e
          simp only at e
          have fin : g1'[i]? ≠ some .un → ts = t.bor :: ts' → g1' = g1 → ∃ fp1 f, ArgsOk Z L B F H σ fp fq (.p i q :: rs) (v :: vs) g1 ts fp1 f := fun hun ets eg => by
            subst ets eg
            have ho' : OwnAll Z L F H (exV vs rs) (exT rs) fq := ho
            obtain ⟨fp1, f, k⟩ := ih er R pl ho' ap
            -- the tree and its footprint
            obtain ⟨t0, eg0, el⟩ : ∃ t0, g[i]? = some t0 ∧ t0.look q = some t := by
              have et2 : (match g[i]? with | some u => u.look q | none => none) = some t := et
              cases h : g[i]? with
              | none => rw [h] at et2; cases et2
              | some u => rw [h] at et2; exact ⟨u, rfl, et2⟩
            have hin : ∃ fu, Own Z L F H v t fu ∧ ∀ p ∈ fu, p ∈ fp1 i := by
              rw [k.same i hun]
              rcases R.sl i t0 eg0 with ⟨eun, _⟩ | ⟨w, ew, how⟩
              · subst eun
                cases q with
                | nil => simp only [T.look, Option.some.injEq] at el; subst el; exact ⟨[], .un, by simp⟩
                | cons k q => simp [T.look, T.kids] at el
              · rw [e0] at ew
                simp only [Option.some.injEq] at ew
                subst ew
                obtain ⟨fu, rest, hperm, hu, _⟩ := how.place R.sLH q el pv
                exact ⟨fu, hu, fun p hp => hperm.mem_iff.mpr (by simp [hp])⟩
            obtain ⟨fu, hu, hsub⟩ := hin
            refine ⟨fp1, shf [] f, k.rel, by simp [k.len], shf_sep .nil k.sep (by simp), fun j hj => ?_, k.same, fun j p hp => ?_, k.sub, fun j u ej => ?_, fun j k' ej => ?_⟩
            · cases j with
              | zero => simp at hj
              | succ j => exact k.out j (by simpa using hj)
            · cases j with
              | zero => simp [shf] at hp
              | succ j => exact k.from_ j p hp
            · cases j with
              | zero =>
                simp at ej
                subst ej
                exact ⟨v, rfl, fun B' s hB => hu.lend s fun p hp => hB i p (hsub p hp)⟩
              | succ j => exact k.arg j u (by simpa using ej)
            · cases j with
              | zero => simp at ej
              | succ j => exact k.mov j k' (by simpa using ej)
          split at e
          · cases e
          · rename_i hun
            simp only [Option.some.injEq, Prod.mk.injEq] at e
            exact fin (fun h => hun h) e.1.symm e.2
    | @m v vs i _ ev pl =>
      simp only [toArgs] at e
      cases eg : g[i]? with
      | none => rw [eg] at e; cases e
      | some t =>
        rw [eg] at e
        have go : (toArgs rs (g.set i .un)).map (fun (x : List T × G) => (t :: x.1, x.2)) = some (ts, g1) → t ≠ .un → ∃ fp1 f, ArgsOk Z L B F H σ fp fq (.m i :: rs) (v :: vs) g1 ts fp1 f := fun e hun => by
          obtain ⟨⟨ts', g1'⟩, e1, e2⟩ := map_some e
          simp only [Prod.mk.injEq] at e2
          obtain ⟨rfl, rfl⟩ := e2
          obtain ⟨R0, ap0⟩ := R.take i
          have apq : Apart B F (upf fp i []) fq := ⟨ap.nd, ap.dj, fun p hp j hj => by
            by_cases h : j = i
            · subst h; rw [upf_same] at hj; simp at hj
            · rw [upf_ne h] at hj; exact ap.no p hp j hj⟩
          have ho' : OwnAll Z L F H (exV vs rs) (exT rs) fq := ho
          obtain ⟨fp1, f, k⟩ := ih e1 R0 pl ho' apq
          have hown : Own Z L F H v t (fp i) := by
            rcases R.sl i t eg with ⟨h, _⟩ | ⟨w, ew, how⟩
            · exact absurd h hun
            · rw [ev] at ew; simp only [Option.some.injEq] at ew; subst ew; exact how
          have dis : ∀ p ∈ fp i, ∀ j, p ∉ f j := fun p hp j hj => (k.from_ j p hj).elim (fun h => ap.no p h i hp) fun ⟨k, hk⟩ => by
            by_cases h : k = i
            · subst h; rw [upf_same] at hk; simp at hk
            · rw [upf_ne h] at hk; exact R.ds i k (Ne.symm h) p hp hk
          have up : ∀ k p, p ∈ upf fp i [] k → p ∈ fp k := fun k p hk => by
            by_cases h : k = i
            · subst h; rw [upf_same] at hk; simp at hk
            · rw [upf_ne h] at hk; exact hk
          refine ⟨fp1, shf (fp i) f, k.rel, by simp [k.len], shf_sep ⟨R.nd i, R.dj i, fun p hp j hj => ap0.no p hp j (k.sub j p hj)⟩ k.sep dis, fun j hj => ?_, fun m hm => ?_, fun j p hp => ?_, fun m p hp => up m p (k.sub m p hp), fun j u ej => ?_, fun j m ej => ?_⟩
          · cases j with
            | zero => simp at hj
            | succ j => exact k.out j (by simpa using hj)
          · rw [k.same m hm]
            refine upf_ne fun h => ?_
            subst h
            exact hm (toArgs_un e1 (List.getElem?_set_self (List.getElem?_eq_some_iff.mp eg).1))
          · cases j with
            | zero => exact .inr ⟨i, hp⟩
            | succ j => exact (k.from_ j p hp).imp id fun ⟨k, hk⟩ => ⟨k, up k p hk⟩
          · cases j with
            | zero =>
              simp at ej
              subst ej
              exact ⟨v, rfl, fun B' s _ => hown.frame (.refl F) s fun _ _ => rfl⟩
            | succ j => exact k.arg j u (by simpa using ej)
          · cases j with
            | zero =>
              simp at ej
              subst ej
              exact ⟨v, t, rfl, ev, rfl, hown⟩
            | succ j => exact k.mov j m (by simpa using ej)
        cases t with
        | un => cases e
        | xo _ => cases e
        | _ => exact go e (by simp)
end
end Wh

/-! Wh, part 20: the call from both sides. -/
namespace Wh
open PySem L2

section
variable {Z : Ctx} {L B B' F F' F1 H H' : Hp} {fp fp' : Nat → List Addr} {g g' : G} {σ σ1 : L2.St} {W : WX} {as : List Nat}
theorem Own.bndNil {v : V} {t : T} {fq : List Addr} (h : Own Z L F H v t fq) (hb : t.bnd = true) : fq = [] := by
  cases h with
  | lst _ _ => simp [T.bnd] at hb
  | tup _ _ => simp [T.bnd] at hb
  | dk _ _ _ => simp [T.bnd] at hb
  | obj _ _ _ => simp [T.bnd] at hb
  | _ => rfl
def allF (f : Nat → List Addr) (n : Nat) : List Addr := (List.range n).flatMap f
theorem mem_allF {f : Nat → List Addr} {n : Nat} {p : Addr} : p ∈ allF f n ↔ ∃ j, j < n ∧ p ∈ f j := by
  unfold allF
  rw [List.mem_flatMap]
  constructor
  · rintro ⟨j, h1, h2⟩; exact ⟨j, List.mem_range.mp h1, h2⟩
  · rintro ⟨j, h1, h2⟩; exact ⟨j, List.mem_range.mpr h1, h2⟩

/-- the call, from the caller's side -/
theorem call_ok {cal : Cal} {f : Nat} {rs : List R} {vs : List V} {Q : V → Hp → Prop} (R : Rel Z L B F fp g σ H) (cl : Cls Z L B F fp σ H vs rs) (s : Sat Z L W kR B F σ (callR cal f rs g) Q) : sp Z cal f vs H Q (WE W σ) := by
  unfold callR at s
  cases ea : toArgs rs g with
  | none => rw [ea] at s; exact s.elim
  | some x =>
    obtain ⟨ts, g1⟩ := x
    rw [ea] at s
    simp only at s
    obtain ⟨pl, fq, ho, ap⟩ := cl
    obtain ⟨fp1, fa, k⟩ := args_ok ea R pl ho ap
    have R1 := k.rel
    have hfm : ∀ p, p ∈ allF fa ts.length ↔ ∃ j, p ∈ fa j := fun p => by
      rw [mem_allF]
      exact ⟨fun ⟨j, _, h⟩ => ⟨j, h⟩, fun ⟨j, h⟩ => ⟨j, by
        by_cases hj : j < ts.length
        · exact hj
        · rw [k.out j (by omega)] at h; simp at h, h⟩⟩
    have nB : ∀ p, p ∈ allF fa ts.length → B p = none := fun p hp => by
      obtain ⟨j, hj⟩ := (hfm p).mp hp
      exact (k.sep.dj j p hj).2
    -- the callee's base
    have sBB : Sub B (rem H (allF fa ts.length)) := fun p o e => by
      rw [rem_out (fun h => by rw [nB p h] at e; cases e)]; exact R.sB p o e
    have keep1 : ∀ i, ∀ p ∈ fp1 i, rem H (allF fa ts.length) p = H p := fun i p hp => rem_out fun h => by
      obtain ⟨j, hj⟩ := (hfm p).mp h
      exact k.sep.no j p hj i hp
    refine ⟨ts, rem H (allF fa ts.length), F, fa, ⟨?_, fun j t e => ?_, k.out, R.sF, rem_sub, .refl _, k.sep.nd, k.sep.ds, fun j p hp => ⟨(k.sep.dj j p hp).1, rem_in ((hfm p).mpr ⟨j, hp⟩)⟩⟩, ?_⟩
    · rw [List.length_map]; exact k.len
    · obtain ⟨v, e1, e2⟩ := k.arg j t e
      exact .inr ⟨v, by rw [List.getElem?_map, e1]; rfl, e2 _ (R.sL.trans sBB) keep1⟩
    · generalize hB2 : rem H (allF fa ts.length) = B2 at sBB keep1
      -- behind the call
      have after : ∀ {F' : Hp} {fp' : Nat → List Addr} {H' : Hp} {as' : List T}, Le B2 F F' → Rel Z B2 B2 F' fp' as' (vs.map some) H' → OutNb ts as' →
          ∃ fp2, Rel Z L B F' fp2 (back rs as' g1) σ H' ∧ ∀ fx, Apart B2 F' fp' fx → Apart B F' fp2 fx := by
        intro F' fp' H' as' le R' nb
        have live : ∀ i, ∀ p ∈ fp1 i, ∃ o, B2 p = some o ∧ H p = some o := fun i p hp => by
          obtain ⟨o, ho⟩ := R1.own i p hp
          exact ⟨o, by rw [keep1 i p hp, ho], ho⟩
        have R2 : Rel Z L B F' fp1 g1 σ H' := ⟨R1.ls, fun i t e => (R1.sl i t e).imp id fun ⟨v, h1, h2⟩ => ⟨v, h1, h2.frame le.sub (.refl L) fun q hq => by
            obtain ⟨o, h3, h4⟩ := live i q hq
            rw [h4]; exact R'.sB q o h3⟩, R1.out, R'.sF, sBB.trans R'.sB, R1.sL, R1.nd, R1.ds, fun i p hp => ⟨(by
            obtain ⟨o, h3, _⟩ := live i p hp
            cases ef : F' p with
            | none => rfl
            | some u =>
              rcases le.new p (by rw [ef]; simp) with h | h
              · exact absurd (R1.dj i p hp).1 h
              · rw [h] at h3; cases h3), (R1.dj i p hp).2⟩⟩
        have apart : ∀ p, B2 p = none → ∀ i, p ∉ fp1 i := fun p h i hi => by
          obtain ⟨o, h3, _⟩ := live i p hi
          rw [h] at h3; cases h3
        obtain ⟨fp2, h1, h2⟩ := back_ok (rs := rs) (vs := vs) (ts := as') R2 (f := fp') ⟨R'.nd, R'.ds, fun j p hp => ⟨(R'.dj j p hp).1, sBB.none (R'.dj j p hp).2⟩, fun j p hp i => apart p (R'.dj j p hp).2 i⟩ fun j i t e1 e2 => by
          obtain ⟨v, t0, h3, h4, h5, h6⟩ := k.mov j i e1
          refine ⟨v, h4, ?_⟩
          rcases R'.sl j t e2 with ⟨h7, h8⟩ | ⟨w, h7, h8⟩
          · subst h7; rw [h8]; exact .un
          · rw [List.getElem?_map, h3] at h7
            simp only [Option.map_some, Option.some.injEq] at h7
            subst h7
            rcases nb j t0 t h5 e2 with ⟨h9, rfl⟩ | h9
            · rw [h8.bndNil h9]
              exact (h6.bnd h9).frame le.sub (.refl L) (by simp)
            · exact h8.rebase h9
        refine ⟨fp2, h1, fun fx a => ⟨a.nd, fun p hp => ⟨(a.dj p hp).1, sBB.none (a.dj p hp).2⟩, fun p hp i hi => ?_⟩⟩
        rcases h2 p i hi with ⟨m, hm⟩ | ⟨j, hj⟩
        · exact apart p (a.dj p hp).2 m hm
        · exact a.no p hp j hj
      cases ec : cal f ts with
      | bad => rw [ec] at s; exact s.elim
      | ok t as' =>
        rw [ec] at s
        intro v F' fp' H' fx le R' nb hnb hv ax
        obtain ⟨fp2, R3, h3⟩ := after le R' nb
        exact s v F' fp2 H' (le.weak sBB) R3 trivial (.tree (hv.rebase hnb) (h3 fx ax))
      | ex e as' =>
        rw [ec] at s
        intro d F' fp' H' le R' nb xi
        obtain ⟨fp2, R3, _⟩ := after le R' nb
        exact s d F' fp2 H' (le.weak sBB) R3 xi
theorem Snd.call {cal : Cal} {f : Nat} {ta : TA} {fa : G → Out (List Wh.R)} (ha : Snd Z L W kRs ta fa) : Snd Z L W kR (tCallSD (sp Z cal f) [] (WE W) ta) (fun g => (fa g).bind (callR cal f)) :=
  Snd.bind (k2 := kR) (t2 := fun vs σ H1 Q => sp Z cal f (vs ++ []) H1 Q (WE W σ)) ha fun {B F fp g σ H vs rs Q} R _ cl s => by
    rw [List.append_nil]
    exact call_ok R cl s

/-! ### from the callee's side -/
theorem outs_inv {reb : List Nat} : ∀ {as : List T} {i : Nat} {g os : List T}, outs reb i as g = some os → os.length = as.length ∧ ∀ j a, as[j]? = some a → ∃ t, g[j]? = some t ∧ ((a.bnd = true ∧ os[j]? = some a) ∨ (os[j]? = some t ∧ t.nb = true ∧ reb.contains (i + j) = false)) := by
  intro as
  induction as with
  | nil => intro i g os e; simp only [outs, Option.some.injEq] at e; subst e; exact ⟨rfl, fun j a h => by simp at h⟩
  | cons a as ih =>
    intro i g os e
    simp only [outs] at e
    cases hb : a.bnd with
    | true =>
      rw [hb] at e
      cases g with
      | nil => cases e
      | cons t g' =>
        obtain ⟨os', h1, h2⟩ := map_some e
        subst h2
        obtain ⟨h3, h4⟩ := ih h1
        refine ⟨by simp [h3], fun j b ej => ?_⟩
        cases j with
        | zero => simp at ej; subst ej; exact ⟨t, rfl, .inl ⟨hb, rfl⟩⟩
        | succ j => have := h4 j b (by simpa using ej); rw [show i + 1 + j = i + (j + 1) by omega] at this; simpa using this
    | false =>
      rw [hb] at e
      cases g with
      | nil => cases e
      | cons t g' =>
        simp only at e
        split at e
        · cases e
        · rename_i hc
          simp only [Bool.or_eq_true, Bool.not_eq_true', not_or] at hc
          obtain ⟨os', h1, h2⟩ := map_some e
          subst h2
          obtain ⟨h3, h4⟩ := ih h1
          refine ⟨by simp [h3], fun j b ej => ?_⟩
          cases j with
          | zero => exact ⟨t, rfl, .inr ⟨rfl, by simpa using hc.2, by simpa using hc.1⟩⟩
          | succ j => have := h4 j b (by simpa using ej); rw [show i + 1 + j = i + (j + 1) by omega] at this; simpa using this
/-- the entry: the parameters, the other names -/
theorem Rel.entry {ts : List T} {vs : List V} {n : Nat} (R : Rel Z B B F fp ts (vs.map some) H) : Rel Z B B F fp (ts ++ List.replicate n .un) (vs.map some ++ List.replicate n none) H := by
  have hl := R.ls
  refine ⟨by simp at hl ⊢; exact hl, fun i t e => ?_, fun i hi => R.out i (by simp at hi; omega), R.sF, R.sB, R.sL, R.nd, R.ds, R.dj⟩
  by_cases hi : i < ts.length
  · rw [List.getElem?_append_left hi] at e
    refine (R.sl i t e).imp id fun ⟨v, h1, h2⟩ => ⟨v, ?_, h2⟩
    rw [List.getElem?_append_left (by rw [R.ls]; exact hi)]
    exact h1
  · rw [List.getElem?_append_right (by omega)] at e
    have := List.mem_of_getElem? e
    rw [List.mem_replicate] at this
    exact .inl ⟨this.2, R.out i (by omega)⟩
theorem outs_ok {reb st : List Nat} {ts os : List T} {vs : List V} {fp0 : Nat → List Addr} {F0 H0 : Hp} {n : Nat} (R0 : Rel Z B B F0 fp0 ts (vs.map some) H0) (le : Le B F0 F) (R : Rel Z B B F fp g σ H) (kp : Kp st (vs.map some ++ List.replicate n none) σ)
    (hr : ∀ i ∈ st, i < ts.length → reb.contains i = true) (e : outs reb 0 ts g = some os) : ∃ fp2, Rel Z B B F fp2 os (vs.map some) H ∧ OutNb ts os ∧ ∀ fx, Apart B F fp fx → Apart B F fp2 fx := by
  obtain ⟨hl, hk⟩ := outs_inv e
  have hv : ts.length = vs.length := by have := R0.ls; simpa using this.symm
  let fp2 : Nat → List Addr := fun j => match os[j]? with
    | some t => if t.bnd = true then [] else fp j
    | none => []
  have sub : ∀ j p, p ∈ fp2 j → p ∈ fp j := fun j p hp => by
    simp only [fp2] at hp
    split at hp
    · split at hp
      · simp at hp
      · exact hp
    · simp at hp
  refine ⟨fp2, ⟨by simp [hl, hv], fun j t ej => ?_, fun j hj => ?_, R.sF, R.sB, .refl B, fun j => ?_, fun j k hjk p hp hq => R.ds j k hjk p (sub j p hp) (sub k p hq), fun j p hp => R.dj j p (sub j p hp)⟩, fun j a t ea et => ?_, fun fx a => ⟨a.nd, a.dj, fun p hp i hi => a.no p hp i (sub i p hi)⟩⟩
  · have hj : j < ts.length := by rw [← hl]; exact (List.getElem?_eq_some_iff.mp ej).1
    have hjv : j < vs.length := by rw [← hv]; exact hj
    obtain ⟨t1, e1, h⟩ := hk j ts[j] (by simp [hj])
    have e2 : fp2 j = if t.bnd = true then [] else fp j := by simp only [fp2]; rw [ej]
    have ev : (vs.map some)[j]? = some (some vs[j]) := by simp [hjv]
    rcases h with ⟨hb, h⟩ | ⟨h, hnb, hc⟩
    · rw [ej] at h
      simp only [Option.some.injEq] at h
      subst h
      rw [e2, if_pos hb]
      rcases R0.sl j ts[j] (by simp [hj]) with ⟨h1, _⟩ | ⟨w, h1, h2⟩
      · rw [h1] at hb; simp [T.bnd] at hb
      · exact .inr ⟨w, h1, (h2.bnd hb).frame le.sub (.refl B) (by simp)⟩
    · rw [ej] at h
      simp only [Option.some.injEq] at h
      subst h
      have hns : j ∉ st := fun hm => by
        have := hr j hm hj
        rw [Nat.zero_add] at hc
        rw [hc] at this; cases this
      have eσ : σ[j]? = some (some vs[j]) := by
        rw [kp j hns, List.getElem?_append_left (by simpa using hjv)]; exact ev
      rcases R.sl j t e1 with ⟨h1, _⟩ | ⟨w, h1, h2⟩
      · subst h1; simp [T.nb] at hnb
      · rw [eσ] at h1
        simp only [Option.some.injEq] at h1
        subst h1
        refine .inr ⟨vs[j], ev, ?_⟩
        rw [e2]
        split
        · rename_i hb; exact h2.bnd hb
        · exact h2
  · simp only [fp2]
    rw [List.getElem?_eq_none hj]
  · simp only [fp2]
    split
    · split
      · exact .nil
      · exact R.nd j
    · exact .nil
  · obtain ⟨t1, e1, h⟩ := hk j a ea
    rcases h with ⟨hb, h⟩ | ⟨h, hnb, _⟩
    · rw [et] at h; cases h; exact .inl ⟨hb, rfl⟩
    · rw [et] at h; cases h; exact .inr hnb
/-- the body's wish, of what the call's end asks -/
theorem end_ok {cal : Cal} {fd : FD} {ts : List T} {vs : List V} {Q : VK} {E : XK} {n : Nat} (R0 : Rel Z B B F fp ts (vs.map some) H) (hn : n = fd.nl) (hr : ∀ i ∈ stSs fd.body, i < ts.length → fd.reb.contains i = true) (s : EndC Z ts vs B F Q E (run1 cal fd ts)) :
    SatS Z B (fun cls d _ H => E cls d H) (stSs fd.body) B F (vs.map some ++ List.replicate n none) (exs cal fd.body (ts ++ List.replicate n .un)) { nx := fun _ H' => Q .non H', rt := Q } := by
  subst hn
  unfold run1 at s
  split at s
  · generalize exs cal fd.body (ts ++ List.replicate fd.nl .un) = o at s
    cases o with
    | bad => exact s
    | bk g' => exact s.elim
    | ct g' => exact s.elim
    | nx g' =>
      intro F' fp' σ' H' le R' kp
      simp only [endCO] at s
      cases eo : outs fd.reb 0 ts g' with
      | none => rw [eo] at s; exact s.elim
      | some os =>
        rw [eo] at s
        obtain ⟨fp2, R2, nb, ax⟩ := outs_ok R0 le R' kp hr eo
        exact s .non F' fp2 H' [] le R2 nb rfl (.d .non) .nil
    | rt t g' =>
      intro v F' fp' σ' H' fq le R' kp ho ap
      simp only [endCO] at s
      split at s
      · rename_i hnb
        cases eo : outs fd.reb 0 ts g' with
        | none => rw [eo] at s; exact s.elim
        | some os =>
          rw [eo] at s
          obtain ⟨fp2, R2, nb, ax⟩ := outs_ok R0 le R' kp hr eo
          exact s v F' fp2 H' fq le R2 nb hnb ho (ax fq ap)
      · exact s.elim
    | ex x g' =>
      intro d F' fp' σ' H' le R' kp xi
      simp only [endCO] at s
      cases eo : outs fd.reb 0 ts g' with
      | none => rw [eo] at s; exact s.elim
      | some os =>
        rw [eo] at s
        obtain ⟨fp2, R2, nb, ax⟩ := outs_ok R0 le R' kp hr eo
        exact s d F' fp2 H' le R2 nb xi
  · exact s.elim
end
end Wh

/-! Wh, part 21: rules still lacking; names, small checks. -/
namespace Wh
open PySem L2 PySem.Spec PyProof.Rows

section
variable {Z : Ctx} {L B F H : Hp} {fp : Nat → List Addr} {g : G} {σ : L2.St} {W : WX}
/-- xs.append(e), xs.pop(i) -/
theorem Snd.mut2 {K : PySem.W.Frag} (hK : K = Z.K) {ta tb : TE} {fa fb : G → Out R} {r : V → List V → Hp → VK → Prop} {f : R → R → G → Out R} (ha : Snd Z L W kR ta fa) (hb : Snd Z L W kR tb fb) (hr : Two Z L W (fun x y H Q => tyV K "list" x H ∧ r x [y] H Q) f) :
    Snd Z L W kR (tBM K "list" r ta (tCons tb tNil)) (mut2 fa fb f) := by
  subst hK
  intro B F fp g σ H Q R s
  refine Snd.bind (k2 := kR) (t2 := fun x σ H1 Q => tyV Z.K "list" x H1 ∧ tb σ H1 fun y H2 => r x [y] H2 Q) ha (fun {B F fp g σ H b a Q} R _ cl s => ?_) B F fp g σ H Q R s
  obtain ⟨pl, fq, ho, ap⟩ := cl
  split at s
  · rename_i hl
    constructor
    · unfold isL at hl
      split at hl
      · rename_i ts et
        obtain ⟨fu, hu⟩ := pl.own R ho et
        cases hu with
        | lst h a => exact .inl ⟨rfl, _, .of h⟩
      · cases hl
    · refine hb.keep R pl ho ap ?_
      cases e : under a g fb with
      | bad => rw [e] at s; exact s
      | ex x g' => rw [e] at s; exact s
      | ok rb g' =>
        rw [e] at s
        intro vb F' fp' H' le R' _ pb pa ⟨f2, ho2, ap2⟩
        obtain ⟨x1, x2, ex, hx1, hx2⟩ := Wh.two (f2 := f2) pa pb ho2
        rw [ex] at ap2
        exact (hr R' pa pb hx1 hx2 ap2 (Sat.step le s)).2
  · exact s.elim
theorem tyV_list {K : PySem.W.Frag} {p : Addr} {xs : List V} {H : Hp} (h : H p = some (.lst xs)) : tyV K "list" (.ref p) H := .inl ⟨rfl, _, .of h⟩
theorem Snd.pop0 {K : PySem.W.Frag} (hK : K = Z.K) {ta : TE} {fa : G → Out R} (ha : Snd Z L W kR ta fa) : Snd Z L W kR (tBM0 K "list" rPop ta) (fun g => (fa g).bind popO) := Snd.one (r := fun x H Q => tyV K "list" x H ∧ rPop x [] H Q) ha (one_pop hK)
end

/-! ### small rules -/
section
variable {X : Cx}
/-- a list or a tuple, walked -/
theorem pi_seq {tg l : Expr} {tl : TE} (hl : PE X l tl) : PI X tg l (iSeq X.K tl) := by
  refine ⟨fun pins s σ H R I h => thn (hl.run pins s σ H _ I h) fun v s1 st => ?_⟩
  obtain ⟨x, H1, I1, r1, a, rfl, h2⟩ := st
  cases r1
  rcases h2 with ⟨⟨xs, hq⟩, q⟩ | ⟨⟨xs, hq⟩, q⟩
  · obtain ⟨its, rv, p, hz⟩ := I1.list hq
    refine wpAny_pyIter_list p.isList ⟨s1.heap.objs.size, [s1.heap.objs.size], _, _, H1, rfl, I1.kept (t' := s1.toks) fun b o e => Heap.get?_push_of_some _ e, turn_list a _, ⟨_, Heap.get?_push_size _ rfl, rfl, rfl⟩, fun b hb => ?_, q⟩
    rw [List.mem_singleton.mp hb]
    exact I1.fpOk (Nat.le_refl _) (I1.hok.fresh (Nat.le_refl _))
  · obtain ⟨its, rv, p, hz⟩ := I1.tuple hq
    refine wpAny_pyIter_tuple (show s1.heap.IsTuple a its.toArray from p) ⟨s1.heap.objs.size, [s1.heap.objs.size], _, _, H1, rfl, I1.kept (t' := s1.toks) fun b o e => Heap.get?_push_of_some _ e, turn_tuple a _, ⟨_, Heap.get?_push_size _ rfl, rfl, rfl⟩, fun b hb => ?_, q⟩
    rw [List.mem_singleton.mp hb]
    exact I1.fpOk (Nat.le_refl _) (I1.hok.fresh (Nat.le_refl _))
/-- f() -/
theorem pe_call0SD {CX : CXT} {k : Nat} {f : Addr} {fd : FuncData} {ps : List Str} {sp : Sp} {E : L2.St → XK} {x : Str} {p pos : Pos} (F : FnOk X.prog X.w X.K X.mg X.base CX k f fd ps sp) (hr : Room k X.A) (hg : Gl X x) (hm : X.mg x = some (.ref f)) (hk : PySem.W.keepIn X.K (.ref f) = true) (hb : Binds X.K fd ps [])
    (hx : ∀ σ, PassesAt CX X σ (E σ)) (hdb : (x == ("__debug__" : Str)) = false) : PE X (.Call (.Name x p) [] [] pos) (tCallSD sp [] E tNil) := by
  refine ⟨fun pins s σ H Q I h => wpAny_Call_Name_kw (ld_glob I hg hm ?_ hdb)⟩
  exact PySem.W.callWith_K0 I.kIn hk (run_fnSD (us := []) F hr hb .nil (hx σ) I .nil h)
theorem star_cons {e : Expr} {es : List Expr} {env : Env} (h : (match e with | .Starred _ _ => false | _ => true) = true) : starEach (e :: es) env = (false, eval e env) :: starEach es env := by
  cases e <;> first | rfl | cases h
def noStar : Expr → Bool
  | .Starred _ _ => false
  | _ => true
theorem noStar_cons {e : Expr} {es : List Expr} {env : Env} (h : noStar e = true) : starEach (e :: es) env = (false, eval e env) :: starEach es env := by
  cases e <;> first | rfl | cases h
theorem noStar_any {pos : Pos} {env : Env} : ∀ {es : List Expr}, es.all noStar = true → (backTo pos (starEach es env)).any (·.1) = false
  | [], _ => rfl
  | e :: es, h => by
    simp only [List.all_cons, Bool.and_eq_true] at h
    rw [noStar_cons h.1]
    show (false || (backTo pos (starEach es env)).any (·.1)) = false
    rw [noStar_any h.2]; rfl
def plainT : Expr → Bool
  | .UnaryOp .Not _ _ => false
  | .BoolOp _ _ _ => false
  | .IfExp _ _ _ _ => false
  | .Compare _ _ _ _ => false
  | _ => true
theorem plainT_ok {e : Expr} {env : Env} (h : plainT e = true) : ∀ whole, isTrue e env whole = (do let v ← whole; standAt e.pos; holding [v] (truthy v)) := by
  intro whole
  cases e with
  | UnaryOp op a p => cases op <;> first | rfl | cases h
  | BoolOp _ _ _ => cases h
  | IfExp _ _ _ _ => cases h
  | Compare _ _ _ _ => cases h
  | _ => rfl
def noSlice : Expr → Bool
  | .Slice _ _ _ _ => false
  | _ => true
theorem noSlice_ok {e : Expr} (h : noSlice e = true) : PlainIx e := by
  intro o i
  cases e <;> first | rfl | cases h
def noSet : Expr → Bool
  | .Set _ _ _ => false
  | _ => true
theorem noSet_fold {e : Expr} {env : Env} (h : noSet e = true) (x : Value) : foldedSetIterable e env x = pure x := by
  cases e <;> first | rfl | cases h
theorem noSet_mark {e : Expr} {op : CmpOp} (h : noSet e = true) : behindInMarks op e = false := by
  cases e <;> first | rfl | cases h
def noCmp : Expr → Bool
  | .ListComp _ _ _ _ => false
  | .SetComp _ _ _ _ => false
  | .DictComp _ _ _ _ _ => false
  | _ => true
theorem noCmp_sw {e : Expr} {t : Option Expr} {l : Nat} {env : Env} (h : noCmp e = true) : swapsWith e t l env = pure false := by
  cases e <;> first | rfl | cases h
/-- o in o.f is not super() -/
def noSup : Expr → Bool
  | .Call _ _ _ _ => false
  | _ => true
theorem noSup_ok {o : Expr} {m : Str} {env : Env} {w : Sem Value} (h : noSup o = true) : attributeBase o m env w = w := abase fun i p p2 e => by rw [e] at h; cases h
end

/-! ### what is known of a place in the text -/
structure Cn where
  N : List Str
  sc : Scope
  hold : Option (Nat × Nat)
  /-- the names whose cells are the place's own -/
  fn : Str → Bool
def okN (x : Str) : Bool := !(x == ("__debug__" : Str)) && !(x == ("__classdict__" : Str)) && !(x == ("__name__" : Str))
theorem okN_1 {x : Str} (h : okN x = true) : (x == ("__debug__" : Str)) = false := by
  simp only [okN, Bool.and_eq_true, Bool.not_eq_true'] at h; exact h.1.1
theorem okN_2 {x : Str} (h : okN x = true) : (x == ("__classdict__" : Str)) = false := by
  simp only [okN, Bool.and_eq_true, Bool.not_eq_true'] at h; exact h.1.2
theorem okN_3 {x : Str} (h : okN x = true) : x ≠ "__name__" := by
  simp only [okN, Bool.and_eq_true, Bool.not_eq_true'] at h
  intro e
  rw [e] at h
  exact absurd h.2 (by decide +kernel)
def visB (sc : Scope) (x : Str) : Bool := match sc.names.lookup x with
  | some .local => true
  | some .cell => true
  | some .free => true
  | _ => false
theorem visB_ok {sc : Scope} {x : Str} (h : visB sc x = true) : Vis sc x := by
  unfold visB at h
  split at h
  · rename_i e; exact .inl e
  · rename_i e; exact .inr (.inl e)
  · rename_i e; exact .inr (.inr e)
  · cases h
def glB (c : Cn) (x : Str) : Bool := decide (c.sc.names.lookup x = some .globalImplicit) && okN x
def nameB (c : Cn) (i : Nat) : Expr → Bool
  | .Name x _ => decide (c.N[i]? = some x) && visB c.sc x && okN x
  | _ => false
end Wh

/-! Wh, part 22: what a text must be, that sm reckons it: expressions. -/
namespace Wh
open PySem L2 PySem.Spec PyProof.Rows

structure Gs where
  fns : List (Str × Nat)
  cls : List (Str × Nat)
  cst : List (Str × D)
  flds : List Str
  errs : List (Str × Nat × List Str)
  nE : Nat
structure Ev where
  P : Program
  w : World
  K : PySem.W.Frag
  mg : Str → Option Value
  base : Heap
  k : Nat
  cal : Cal
  Z : Ctx
  G : Gs
def bltN : List Str := ["len", "int", "abs", "max", "min", "sum", "sorted", "list", "all", "any", "isinstance", "range", "bool", "str", "tuple", "ValueError"]
structure EvOk (E : Ev) : Prop where
  zK : E.Z.K = E.K
  zx : E.Z.xa = none
  fn : ∀ x i, E.G.fns.lookup x = some i → ∃ f fd ps, E.mg x = some (.ref f) ∧ PySem.W.keepIn E.K (.ref f) = true ∧ FnOk E.P E.w E.K E.mg E.base (L2.CX E.P E.w) E.k f fd ps (sp E.Z E.cal i) ∧ Binds E.K fd ps []
  cst : ∀ x d, E.G.cst.lookup x = some d → ∃ v u, E.mg x = some u ∧ RelV v u ∧ ∀ F, Is E.Z F v d
  bl : ∀ x ∈ bltN, E.mg x = none
  cl : ∀ x c, E.G.cls.lookup x = some c → E.mg x = some (.ref (E.Z.ca c))
  xf : ∀ (c : Nat) (x : Str), E.G.cls.lookup x = some c → XfC E.K (E.Z.ca c) ∧ ExcC E.K (E.Z.ca c) ∧ ∀ c0 x0, E.G.cls.lookup x0 = some c0 → PySem.W.kitOne E.K (.ref (E.Z.ca c0)) (.ref (E.Z.ca c)) = some (decide (c0 = c))
  fl : ∀ (x : Str) (c : Nat), E.G.cls.lookup x = some c → ∀ f ∈ E.G.flds, PySem.W.findIn E.K (.ref (E.Z.ca c)) f = some none
  er : ∀ x c ns, E.G.errs.lookup x = some (c, ns) → E.mg x = some (.ref (E.Z.ca c)) ∧ ns.length ≤ 900 ∧ ∃ fI kk fd ps, ErrC E.K (E.Z.ca c) fI ns ∧ FnOk E.P E.w E.K E.mg E.base (L2.CX E.P E.w) kk fI fd ps (spInit (E.Z.ca c) ns) ∧ Binds E.K fd ps [] ∧ kk + 1 ≤ E.k
  ex : ∀ c' c, c' < E.G.nE → c < E.G.nE → PySem.W.exmOne E.K (.ref (E.Z.ca c')) (.ref (E.Z.ca c)) = some (decide (c' = c))
  xv : ∀ (c : Nat) (x : Str), E.G.cls.lookup x = some c → PySem.W.kitOne E.K (.ref (E.Z.ca c)) (.type "ValueError") = some true
/-- the context at a place -/
structure GoodX (E : Ev) (c : Cn) (ad : Addr × Addr) (X : Cx) (Z1 : Ctx) : Prop where
  prog : X.prog = E.P
  w : X.w = E.w
  K : X.K = E.K
  mg : X.mg = E.mg
  base : X.base = E.base
  eK : X.K = Z1.K
  zca : Z1.ca = E.Z.ca
  N : X.N = c.N
  nd : c.N.Nodup
  sc : X.env.scope = c.sc
  un : X.A.units + 65 < cLine
  fn : X.fn = c.fn
  pl : c.hold = none → Z1 = E.Z ∧ X.calm = true ∧ Room E.k X.A
  hd : ∀ i c0, c.hold = some (i, c0) → ∃ (X0 : Cx) (oe : Obj) (pn : List (Addr × Obj)), X = X0.suite ad.1 ((ad.1, oe) :: pn) ∧ Zc (.ref (E.Z.ca c0)) (some ad.2) oe ∧ (∃ vs, oe.data = .fields vs) ∧ Z1 = E.Z.hold ad.1 ad.2
def LkOf (c : Cn) (ad : Addr × Addr) (L : Hp) : Prop := ∀ i c0, c.hold = some (i, c0) → ∃ fvs L0, L = upd L0 ad.2 (.xd fvs)

section
variable {E : Ev}
def OkE (E : Ev) (c : Cn) (m : ME) (e : Expr) : Prop := ∀ W ad, ∃ t, ∀ X Z1, GoodX E c ad X Z1 → Takes X W → PE X e t ∧ ∀ L, LkOf c ad L → Snd Z1 L W kR t (sm E.cal m).v
def OkT (E : Ev) (c : Cn) (m : ME) (e : Expr) : Prop := ∀ W ad, ∃ t, ∀ X Z1, GoodX E c ad X Z1 → Takes X W → PT X e t ∧ (∀ op es p, e = .BoolOp op es p → PW X e t) ∧ ∀ L, LkOf c ad L → Snd Z1 L W kB t (sm E.cal m).t
def OkI (E : Ev) (c : Cn) (m : ME) (e : Expr) : Prop := (∀ env x, foldedSetIterable e env x = pure x) ∧ ∀ W ad, ∃ t, ∀ X Z1, GoodX E c ad X Z1 → Takes X W → (∀ tg, PI X tg e t) ∧ ∀ L, LkOf c ad L → SndI Z1 L W t (sm E.cal m).i
def OkO (E : Ev) (c : Cn) (m : ME) (e : Option Expr) : Prop := ∀ W ad, ∃ t, ∀ X Z1, GoodX E c ad X Z1 → Takes X W → PO X e t ∧ ∀ L, LkOf c ad L → Snd Z1 L W kO t (sm E.cal m).o
def OkA (E : Ev) (c : Cn) (ms : MEs) (es : List Expr) : Prop := es.all noStar = true ∧ ∀ W ad, ∃ t, ∀ X Z1, GoodX E c ad X Z1 → Takes X W → PA X es t ∧ ∀ L, LkOf c ad L → Snd Z1 L W kRs t (sms E.cal ms)

theorem GoodX.k {c : Cn} {ad : Addr × Addr} {X : Cx} {Z1 : Ctx} (g : GoodX E c ad X Z1) : E.K = Z1.K := g.K.symm.trans g.eK
theorem GoodX.gl {c : Cn} {ad : Addr × Addr} {X : Cx} {Z1 : Ctx} (g : GoodX E c ad X Z1) {x : Str} (h : glB c x = true) : Gl X x := by
  simp only [glB, Bool.and_eq_true, decide_eq_true_eq] at h
  show X.env.scope.names.lookup x = some .globalImplicit
  rw [g.sc]; exact h.1
theorem glB_ok {c : Cn} {x : Str} (h : glB c x = true) : okN x = true := by
  simp only [glB, Bool.and_eq_true] at h; exact h.2
theorem name_ok {c : Cn} {ad : Addr × Addr} {i : Nat} {e : Expr} (h : nameB c i e = true) {X : Cx} {Z1 : Ctx} (g : GoodX E c ad X Z1) : PE X e (tVar i) := by
  cases e with
  | Name x p =>
    simp only [nameB, Bool.and_eq_true, decide_eq_true_eq] at h
    exact pe_var (by rw [g.N]; exact h.1.1) (by rw [g.sc]; exact visB_ok h.1.2) (okN_1 h.2) (okN_2 h.2)
  | _ => cases h
theorem ok_var {c : Cn} {i : Nat} {e : Expr} (h : nameB c i e = true) : OkE E c (.var i) e := fun W ad => ⟨_, fun X Z1 g _ => ⟨name_ok h g, fun L _ => snd_var⟩⟩
theorem ok_ref {c : Cn} {i : Nat} {e : Expr} (h : nameB c i e = true) : OkE E c (.ref i) e := fun W ad => ⟨_, fun X Z1 g _ => ⟨name_ok h g, fun L _ => snd_ref⟩⟩
theorem ok_mv {c : Cn} {i : Nat} {e : Expr} (h : nameB c i e = true) : OkE E c (.mv i) e := fun W ad => ⟨_, fun X Z1 g _ => ⟨name_ok h g, fun L _ => snd_mv⟩⟩
theorem ok_fz {c : Cn} {i : Nat} {e : Expr} (h : nameB c i e = true) : OkE E c (.fz i) e := fun W ad => ⟨_, fun X Z1 g _ => ⟨name_ok h g, fun L _ => snd_fz⟩⟩
def cstB : D → Expr → Bool
  | .non, .Constant .none _ _ => true
  | .bl b, .Constant (.bool a) _ _ => a == b
  | .int i, .Constant (.int j) _ _ => i == j
  | .str s, .Constant (.str z) _ _ => decide (s = z)
  | _, _ => false
theorem ok_cst {c : Cn} {x : D} {e : Expr} (h : cstB x e = true) : OkE E c (.cst x) e := by
  intro W ad
  unfold cstB at h
  split at h
  · exact ⟨_, fun X Z1 g _ => ⟨pe_non, fun L _ => snd_c fun F => .non⟩⟩
  · have := eq_of_beq h; subst this; exact ⟨_, fun X Z1 g _ => ⟨pe_bl, fun L _ => snd_c fun F => .bl _⟩⟩
  · have := eq_of_beq h; subst this; exact ⟨_, fun X Z1 g _ => ⟨pe_int, fun L _ => snd_c fun F => .int _⟩⟩
  · have := of_decide_eq_true h; subst this; exact ⟨_, fun X Z1 g _ => ⟨pe_str, fun L _ => snd_c fun F => .str _⟩⟩
  · cases h
theorem ok_add {c : Cn} {o : Bool} {a b : ME} {l r : Expr} {p : Pos} (ha : OkE E c a l) (hb : OkE E c b r) : OkE E c (.bin .add o a b) (.BinOp l .Add r p) := by
  intro W ad
  obtain ⟨ta, ha'⟩ := ha W ad
  obtain ⟨tb, hb'⟩ := hb W ad
  refine ⟨tOp (rAdd4 E.K) ta tb, fun X Z1 g tk => ?_⟩
  obtain ⟨pa, sa⟩ := ha' X Z1 g tk
  obtain ⟨pb, sb⟩ := hb' X Z1 g tk
  exact ⟨(by rw [← g.K]; exact pe_op op_add4 pa pb), fun L hl => (sa L hl).two (sb L hl) (two_add g.k)⟩
theorem ok_sub {c : Cn} {o : Bool} {a b : ME} {l r : Expr} {p : Pos} (ha : OkE E c a l) (hb : OkE E c b r) : OkE E c (.bin .sub o a b) (.BinOp l .Sub r p) := by
  intro W ad
  obtain ⟨ta, ha'⟩ := ha W ad
  obtain ⟨tb, hb'⟩ := hb W ad
  apply Exists.intro
  intro X Z1 g tk
  obtain ⟨pa, sa⟩ := ha' X Z1 g tk
  obtain ⟨pb, sb⟩ := hb' X Z1 g tk
  exact ⟨pe_op op_subC pa pb, fun L hl => (sa L hl).two (sb L hl) two_sub⟩
theorem ok_mul {c : Cn} {o : Bool} {a b : ME} {l r : Expr} {p : Pos} (ha : OkE E c a l) (hb : OkE E c b r) : OkE E c (.bin .mul o a b) (.BinOp l .Mult r p) := by
  intro W ad
  obtain ⟨ta, ha'⟩ := ha W ad
  obtain ⟨tb, hb'⟩ := hb W ad
  apply Exists.intro
  intro X Z1 g tk
  obtain ⟨pa, sa⟩ := ha' X Z1 g tk
  obtain ⟨pb, sb⟩ := hb' X Z1 g tk
  exact ⟨pe_op op_mul pa pb, fun L hl => (sa L hl).two (sb L hl) two_mul⟩
theorem ok_div {c : Cn} {o : Bool} {a b : ME} {l r : Expr} {p : Pos} (ha : OkE E c a l) (hb : OkE E c b r) : OkE E c (.bin .div o a b) (.BinOp l .FloorDiv r p) := by
  intro W ad
  obtain ⟨ta, ha'⟩ := ha W ad
  obtain ⟨tb, hb'⟩ := hb W ad
  apply Exists.intro
  intro X Z1 g tk
  obtain ⟨pa, sa⟩ := ha' X Z1 g tk
  obtain ⟨pb, sb⟩ := hb' X Z1 g tk
  exact ⟨pe_op op_fdivW pa pb, fun L hl => (sa L hl).two (sb L hl) two_div⟩
theorem ok_mod {c : Cn} {o : Bool} {a b : ME} {l r : Expr} {p : Pos} (ha : OkE E c a l) (hb : OkE E c b r) : OkE E c (.bin .mod o a b) (.BinOp l .Mod r p) := by
  intro W ad
  obtain ⟨ta, ha'⟩ := ha W ad
  obtain ⟨tb, hb'⟩ := hb W ad
  apply Exists.intro
  intro X Z1 g tk
  obtain ⟨pa, sa⟩ := ha' X Z1 g tk
  obtain ⟨pb, sb⟩ := hb' X Z1 g tk
  exact ⟨pe_op op_mod pa pb, fun L hl => (sa L hl).two (sb L hl) two_mod⟩
theorem ok_pow {c : Cn} {o : Bool} {a b : ME} {l r : Expr} {p : Pos} (ha : OkE E c a l) (hb : OkE E c b r) : OkE E c (.bin .pow o a b) (.BinOp l .Pow r p) := by
  intro W ad
  obtain ⟨ta, ha'⟩ := ha W ad
  obtain ⟨tb, hb'⟩ := hb W ad
  apply Exists.intro
  intro X Z1 g tk
  obtain ⟨pa, sa⟩ := ha' X Z1 g tk
  obtain ⟨pb, sb⟩ := hb' X Z1 g tk
  exact ⟨pe_op op_pow pa pb, fun L hl => (sa L hl).two (sb L hl) two_pow⟩
theorem isBl_bin2 {fa fb : G → Out R} {f : R → R → G → Out R} (h : ∀ ra rb, IsBl (f ra rb)) : IsBl (bin2 fa fb f) := by
  intro g r g' e
  unfold bin2 at e
  cases ea : fa g with
  | bad => rw [ea] at e; cases e
  | ex x g1 => rw [ea] at e; cases e
  | ok ra g1 =>
    rw [ea] at e
    simp only [Out.bind] at e
    cases eb : under ra g1 fb with
    | bad => rw [eb] at e; cases e
    | ex x g1 => rw [eb] at e; cases e
    | ok rb g2 => rw [eb] at e; exact h ra rb g2 r g' e
theorem isBl_bind {fa : G → Out R} {f : R → G → Out R} (h : ∀ ra, IsBl (f ra)) : IsBl (fun g => (fa g).bind f) := by
  intro g r g' e
  replace e : (fa g).bind f = .ok r g' := e
  cases ea : fa g with
  | bad => rw [ea] at e; cases e
  | ex x g1 => rw [ea] at e; cases e
  | ok ra g1 => rw [ea] at e; exact h ra g1 r g' e
theorem isBl_lift {o : Option Bool} {g g' : G} {r : R} (h : lift (o.map fun k => R.t (.d (.bl k))) g = .ok r g') : ∃ b, r = .t (.d (.bl b)) := by
  cases o with
  | none => cases h
  | some b => cases h; exact ⟨b, rfl⟩
theorem isBl_cmp {op : COp} (ra rb : R) : IsBl (cmpR op ra rb) := by
  intro g r g' e
  unfold cmpR at e
  split at e
  · exact isBl_lift e
  · cases e
theorem isBl_isN {n : Bool} (ra : R) : IsBl (isNR n ra) := by
  intro g r g' e
  unfold isNR at e
  split at e
  · cases e; exact ⟨_, rfl⟩
  · cases e
  · cases e; exact ⟨_, rfl⟩
  · cases e
theorem isBl_chain {op op2 : COp} {fc : G → Out R} (ra rb : R) : IsBl (chainR op op2 ra rb fc) := by
  intro g r g' e
  unfold chainR at e
  split at e
  · split at e
    · cases ef : fc g with
      | bad => rw [ef] at e; cases e
      | ex x g1 => rw [ef] at e; cases e
      | ok rc g3 =>
        rw [ef] at e
        simp only [Out.bind] at e
        split at e
        · exact isBl_lift e
        · cases e
    · cases e; exact ⟨_, rfl⟩
    · cases e
  · cases e
theorem ok_eq {c : Cn} {a b : ME} {l r : Expr} {p : Pos} (hs : noSet r = true) (ha : OkE E c a l) (hb : OkE E c b r) : OkE E c (.cmp .eq a b) (.Compare l [.Eq] [r] p) := by
  intro W ad
  obtain ⟨ta, ha'⟩ := ha W ad
  obtain ⟨tb, hb'⟩ := hb W ad
  refine ⟨tOp (rEqD E.K) ta tb, fun X Z1 g tk => ?_⟩
  obtain ⟨pa, sa⟩ := ha' X Z1 g tk
  obtain ⟨pb, sb⟩ := hb' X Z1 g tk
  exact ⟨(by rw [← g.K]; exact pe_cmpR (op_eqD (by have := g.un; omega)) pa pb (noSet_mark hs)), fun L hl => (sa L hl).two (sb L hl) (two_eq g.k)⟩
theorem ok_eqT {c : Cn} {a b : ME} {l r : Expr} {p : Pos} (hs : noSet r = true) (ha : OkE E c a l) (hb : OkE E c b r) : OkT E c (.cmp .eq a b) (.Compare l [.Eq] [r] p) := by
  intro W ad
  obtain ⟨ta, ha'⟩ := ha W ad
  obtain ⟨tb, hb'⟩ := hb W ad
  refine ⟨tTest (tOp (rEqD E.K) ta tb), fun X Z1 g tk => ?_⟩
  obtain ⟨pa, sa⟩ := ha' X Z1 g tk
  obtain ⟨pb, sb⟩ := hb' X Z1 g tk
  exact ⟨(by rw [← g.K]; exact pt_cmpR (op_eqD (by have := g.un; omega)) pa pb (noSet_mark hs)), (fun op es p e => nomatch e), fun L hl => Snd.test ((sa L hl).two (sb L hl) (two_eq g.k)) (isBl_bin2 isBl_cmp)⟩
theorem ok_ne {c : Cn} {a b : ME} {l r : Expr} {p : Pos} (hs : noSet r = true) (ha : OkE E c a l) (hb : OkE E c b r) : OkE E c (.cmp .ne a b) (.Compare l [.NotEq] [r] p) := by
  intro W ad
  obtain ⟨ta, ha'⟩ := ha W ad
  obtain ⟨tb, hb'⟩ := hb W ad
  refine ⟨tOp (rNeD E.K) ta tb, fun X Z1 g tk => ?_⟩
  obtain ⟨pa, sa⟩ := ha' X Z1 g tk
  obtain ⟨pb, sb⟩ := hb' X Z1 g tk
  exact ⟨(by rw [← g.K]; exact pe_cmpR (op_neD (by have := g.un; omega)) pa pb (noSet_mark hs)), fun L hl => (sa L hl).two (sb L hl) (two_ne g.k)⟩
theorem ok_neT {c : Cn} {a b : ME} {l r : Expr} {p : Pos} (hs : noSet r = true) (ha : OkE E c a l) (hb : OkE E c b r) : OkT E c (.cmp .ne a b) (.Compare l [.NotEq] [r] p) := by
  intro W ad
  obtain ⟨ta, ha'⟩ := ha W ad
  obtain ⟨tb, hb'⟩ := hb W ad
  refine ⟨tTest (tOp (rNeD E.K) ta tb), fun X Z1 g tk => ?_⟩
  obtain ⟨pa, sa⟩ := ha' X Z1 g tk
  obtain ⟨pb, sb⟩ := hb' X Z1 g tk
  exact ⟨(by rw [← g.K]; exact pt_cmpR (op_neD (by have := g.un; omega)) pa pb (noSet_mark hs)), (fun op es p e => nomatch e), fun L hl => Snd.test ((sa L hl).two (sb L hl) (two_ne g.k)) (isBl_bin2 isBl_cmp)⟩
theorem ok_lt {c : Cn} {a b : ME} {l r : Expr} {p : Pos} (hs : noSet r = true) (ha : OkE E c a l) (hb : OkE E c b r) : OkE E c (.cmp .lt a b) (.Compare l [.Lt] [r] p) := by
  intro W ad
  obtain ⟨ta, ha'⟩ := ha W ad
  obtain ⟨tb, hb'⟩ := hb W ad
  apply Exists.intro
  intro X Z1 g tk
  obtain ⟨pa, sa⟩ := ha' X Z1 g tk
  obtain ⟨pb, sb⟩ := hb' X Z1 g tk
  exact ⟨pe_cmpR (op_lt) pa pb (noSet_mark hs), fun L hl => (sa L hl).two (sb L hl) two_lt⟩
theorem ok_ltT {c : Cn} {a b : ME} {l r : Expr} {p : Pos} (hs : noSet r = true) (ha : OkE E c a l) (hb : OkE E c b r) : OkT E c (.cmp .lt a b) (.Compare l [.Lt] [r] p) := by
  intro W ad
  obtain ⟨ta, ha'⟩ := ha W ad
  obtain ⟨tb, hb'⟩ := hb W ad
  apply Exists.intro
  intro X Z1 g tk
  obtain ⟨pa, sa⟩ := ha' X Z1 g tk
  obtain ⟨pb, sb⟩ := hb' X Z1 g tk
  exact ⟨pt_cmpR (op_lt) pa pb (noSet_mark hs), (fun op es p e => nomatch e), fun L hl => Snd.test ((sa L hl).two (sb L hl) two_lt) (isBl_bin2 isBl_cmp)⟩
theorem ok_le {c : Cn} {a b : ME} {l r : Expr} {p : Pos} (hs : noSet r = true) (ha : OkE E c a l) (hb : OkE E c b r) : OkE E c (.cmp .le a b) (.Compare l [.LtE] [r] p) := by
  intro W ad
  obtain ⟨ta, ha'⟩ := ha W ad
  obtain ⟨tb, hb'⟩ := hb W ad
  apply Exists.intro
  intro X Z1 g tk
  obtain ⟨pa, sa⟩ := ha' X Z1 g tk
  obtain ⟨pb, sb⟩ := hb' X Z1 g tk
  exact ⟨pe_cmpR (op_le) pa pb (noSet_mark hs), fun L hl => (sa L hl).two (sb L hl) two_le⟩
theorem ok_leT {c : Cn} {a b : ME} {l r : Expr} {p : Pos} (hs : noSet r = true) (ha : OkE E c a l) (hb : OkE E c b r) : OkT E c (.cmp .le a b) (.Compare l [.LtE] [r] p) := by
  intro W ad
  obtain ⟨ta, ha'⟩ := ha W ad
  obtain ⟨tb, hb'⟩ := hb W ad
  apply Exists.intro
  intro X Z1 g tk
  obtain ⟨pa, sa⟩ := ha' X Z1 g tk
  obtain ⟨pb, sb⟩ := hb' X Z1 g tk
  exact ⟨pt_cmpR (op_le) pa pb (noSet_mark hs), (fun op es p e => nomatch e), fun L hl => Snd.test ((sa L hl).two (sb L hl) two_le) (isBl_bin2 isBl_cmp)⟩
theorem ok_gt {c : Cn} {a b : ME} {l r : Expr} {p : Pos} (hs : noSet r = true) (ha : OkE E c a l) (hb : OkE E c b r) : OkE E c (.cmp .gt a b) (.Compare l [.Gt] [r] p) := by
  intro W ad
  obtain ⟨ta, ha'⟩ := ha W ad
  obtain ⟨tb, hb'⟩ := hb W ad
  apply Exists.intro
  intro X Z1 g tk
  obtain ⟨pa, sa⟩ := ha' X Z1 g tk
  obtain ⟨pb, sb⟩ := hb' X Z1 g tk
  exact ⟨pe_cmpR (op_gt) pa pb (noSet_mark hs), fun L hl => (sa L hl).two (sb L hl) two_gt⟩
theorem ok_gtT {c : Cn} {a b : ME} {l r : Expr} {p : Pos} (hs : noSet r = true) (ha : OkE E c a l) (hb : OkE E c b r) : OkT E c (.cmp .gt a b) (.Compare l [.Gt] [r] p) := by
  intro W ad
  obtain ⟨ta, ha'⟩ := ha W ad
  obtain ⟨tb, hb'⟩ := hb W ad
  apply Exists.intro
  intro X Z1 g tk
  obtain ⟨pa, sa⟩ := ha' X Z1 g tk
  obtain ⟨pb, sb⟩ := hb' X Z1 g tk
  exact ⟨pt_cmpR (op_gt) pa pb (noSet_mark hs), (fun op es p e => nomatch e), fun L hl => Snd.test ((sa L hl).two (sb L hl) two_gt) (isBl_bin2 isBl_cmp)⟩
theorem ok_ge {c : Cn} {a b : ME} {l r : Expr} {p : Pos} (hs : noSet r = true) (ha : OkE E c a l) (hb : OkE E c b r) : OkE E c (.cmp .ge a b) (.Compare l [.GtE] [r] p) := by
  intro W ad
  obtain ⟨ta, ha'⟩ := ha W ad
  obtain ⟨tb, hb'⟩ := hb W ad
  apply Exists.intro
  intro X Z1 g tk
  obtain ⟨pa, sa⟩ := ha' X Z1 g tk
  obtain ⟨pb, sb⟩ := hb' X Z1 g tk
  exact ⟨pe_cmpR (op_ge) pa pb (noSet_mark hs), fun L hl => (sa L hl).two (sb L hl) two_ge⟩
theorem ok_geT {c : Cn} {a b : ME} {l r : Expr} {p : Pos} (hs : noSet r = true) (ha : OkE E c a l) (hb : OkE E c b r) : OkT E c (.cmp .ge a b) (.Compare l [.GtE] [r] p) := by
  intro W ad
  obtain ⟨ta, ha'⟩ := ha W ad
  obtain ⟨tb, hb'⟩ := hb W ad
  apply Exists.intro
  intro X Z1 g tk
  obtain ⟨pa, sa⟩ := ha' X Z1 g tk
  obtain ⟨pb, sb⟩ := hb' X Z1 g tk
  exact ⟨pt_cmpR (op_ge) pa pb (noSet_mark hs), (fun op es p e => nomatch e), fun L hl => Snd.test ((sa L hl).two (sb L hl) two_ge) (isBl_bin2 isBl_cmp)⟩
theorem ok_isin {c : Cn} {a b : ME} {l r : Expr} {p : Pos} (hs : noSet r = true) (ha : OkE E c a l) (hb : OkE E c b r) : OkE E c (.cmp .isin a b) (.Compare l [.In] [r] p) := by
  intro W ad
  obtain ⟨ta, ha'⟩ := ha W ad
  obtain ⟨tb, hb'⟩ := hb W ad
  refine ⟨tOp (rIn2 E.K) ta tb, fun X Z1 g tk => ?_⟩
  obtain ⟨pa, sa⟩ := ha' X Z1 g tk
  obtain ⟨pb, sb⟩ := hb' X Z1 g tk
  exact ⟨(by rw [← g.K]; exact pe_cmpR (op_in2 g.un) pa pb (noSet_mark hs)), fun L hl => (sa L hl).two (sb L hl) (two_in g.k)⟩
theorem ok_isinT {c : Cn} {a b : ME} {l r : Expr} {p : Pos} (hs : noSet r = true) (ha : OkE E c a l) (hb : OkE E c b r) : OkT E c (.cmp .isin a b) (.Compare l [.In] [r] p) := by
  intro W ad
  obtain ⟨ta, ha'⟩ := ha W ad
  obtain ⟨tb, hb'⟩ := hb W ad
  refine ⟨tTest (tOp (rIn2 E.K) ta tb), fun X Z1 g tk => ?_⟩
  obtain ⟨pa, sa⟩ := ha' X Z1 g tk
  obtain ⟨pb, sb⟩ := hb' X Z1 g tk
  exact ⟨(by rw [← g.K]; exact pt_cmpR (op_in2 g.un) pa pb (noSet_mark hs)), (fun op es p e => nomatch e), fun L hl => Snd.test ((sa L hl).two (sb L hl) (two_in g.k)) (isBl_bin2 isBl_cmp)⟩
theorem ok_notin {c : Cn} {a b : ME} {l r : Expr} {p : Pos} (hs : noSet r = true) (ha : OkE E c a l) (hb : OkE E c b r) : OkE E c (.cmp .notin a b) (.Compare l [.NotIn] [r] p) := by
  intro W ad
  obtain ⟨ta, ha'⟩ := ha W ad
  obtain ⟨tb, hb'⟩ := hb W ad
  refine ⟨tOp (rNin2 E.K) ta tb, fun X Z1 g tk => ?_⟩
  obtain ⟨pa, sa⟩ := ha' X Z1 g tk
  obtain ⟨pb, sb⟩ := hb' X Z1 g tk
  exact ⟨(by rw [← g.K]; exact pe_cmpR (op_nin2 g.un) pa pb (noSet_mark hs)), fun L hl => (sa L hl).two (sb L hl) (two_nin g.k)⟩
theorem ok_notinT {c : Cn} {a b : ME} {l r : Expr} {p : Pos} (hs : noSet r = true) (ha : OkE E c a l) (hb : OkE E c b r) : OkT E c (.cmp .notin a b) (.Compare l [.NotIn] [r] p) := by
  intro W ad
  obtain ⟨ta, ha'⟩ := ha W ad
  obtain ⟨tb, hb'⟩ := hb W ad
  refine ⟨tTest (tOp (rNin2 E.K) ta tb), fun X Z1 g tk => ?_⟩
  obtain ⟨pa, sa⟩ := ha' X Z1 g tk
  obtain ⟨pb, sb⟩ := hb' X Z1 g tk
  exact ⟨(by rw [← g.K]; exact pt_cmpR (op_nin2 g.un) pa pb (noSet_mark hs)), (fun op es p e => nomatch e), fun L hl => Snd.test ((sa L hl).two (sb L hl) (two_nin g.k)) (isBl_bin2 isBl_cmp)⟩
theorem ok_isN {c : Cn} {a : ME} {l : Expr} {p p' : Pos} {j : Nat} (ha : OkE E c a l) : OkE E c (.isN a) (.Compare l [.Is] [.Constant .none j p'] p) := by
  intro W ad
  obtain ⟨ta, ha'⟩ := ha W ad
  apply Exists.intro
  intro X Z1 g tk
  obtain ⟨pa, sa⟩ := ha' X Z1 g tk
  exact ⟨pe_cmp (pc_isN pa) rfl, fun L hl => Snd.one (r := fun x H Q => Q (V.bl (decide (x = V.non))) H) (sa L hl) one_isN⟩
theorem ok_isNT {c : Cn} {a : ME} {l : Expr} {p p' : Pos} {j : Nat} (ha : OkE E c a l) : OkT E c (.isN a) (.Compare l [.Is] [.Constant .none j p'] p) := by
  intro W ad
  obtain ⟨ta, ha'⟩ := ha W ad
  apply Exists.intro
  intro X Z1 g tk
  obtain ⟨pa, sa⟩ := ha' X Z1 g tk
  exact ⟨pt_cmp (pc_isN pa) rfl, (fun op es p e => nomatch e), fun L hl => Snd.test (Snd.one (r := fun x H Q => Q (V.bl (decide (x = V.non))) H) (sa L hl) one_isN) (isBl_bind isBl_isN)⟩
theorem ok_notN {c : Cn} {a : ME} {l : Expr} {p p' : Pos} {j : Nat} (ha : OkE E c a l) : OkE E c (.notN a) (.Compare l [.IsNot] [.Constant .none j p'] p) := by
  intro W ad
  obtain ⟨ta, ha'⟩ := ha W ad
  apply Exists.intro
  intro X Z1 g tk
  obtain ⟨pa, sa⟩ := ha' X Z1 g tk
  exact ⟨pe_cmp (pc_notN pa) rfl, fun L hl => Snd.one (r := fun x H Q => Q (V.bl (!decide (x = V.non))) H) (sa L hl) one_notN⟩
theorem ok_notNT {c : Cn} {a : ME} {l : Expr} {p p' : Pos} {j : Nat} (ha : OkE E c a l) : OkT E c (.notN a) (.Compare l [.IsNot] [.Constant .none j p'] p) := by
  intro W ad
  obtain ⟨ta, ha'⟩ := ha W ad
  apply Exists.intro
  intro X Z1 g tk
  obtain ⟨pa, sa⟩ := ha' X Z1 g tk
  exact ⟨pt_cmp (pc_notN pa) rfl, (fun op es p e => nomatch e), fun L hl => Snd.test (Snd.one (r := fun x H Q => Q (V.bl (!decide (x = V.non))) H) (sa L hl) one_notN) (isBl_bind isBl_isN)⟩
theorem ok_ch_lt_lt {c : Cn} {a b d : ME} {l r x : Expr} {p : Pos} (hs : noSet x = true) (ha : OkE E c a l) (hb : OkE E c b r) (hd : OkE E c d x) : OkE E c (.chain .lt .lt a b d) (.Compare l [.Lt, .Lt] [r, x] p) := by
  intro W ad
  obtain ⟨ta, ha'⟩ := ha W ad
  obtain ⟨tb, hb'⟩ := hb W ad
  obtain ⟨td, hd'⟩ := hd W ad
  apply Exists.intro
  intro X Z1 g tk
  obtain ⟨pa, sa⟩ := ha' X Z1 g tk
  obtain ⟨pb, sb⟩ := hb' X Z1 g tk
  obtain ⟨pd, sd⟩ := hd' X Z1 g tk
  exact ⟨pe_chain op_lt op_lt pa pb pd (by show behindInMarks _ x = false; exact noSet_mark hs), fun L hl => two_chain (fun x y k H Q e q => ⟨x, y, rfl, rfl, by cases e; exact q⟩) (fun x y k H Q e q => ⟨x, y, rfl, rfl, by cases e; exact q⟩) (sd L hl) (sa L hl) (sb L hl)⟩
theorem ok_ch_lt_ltT {c : Cn} {a b d : ME} {l r x : Expr} {p : Pos} (hs : noSet x = true) (ha : OkE E c a l) (hb : OkE E c b r) (hd : OkE E c d x) : OkT E c (.chain .lt .lt a b d) (.Compare l [.Lt, .Lt] [r, x] p) := by
  intro W ad
  obtain ⟨ta, ha'⟩ := ha W ad
  obtain ⟨tb, hb'⟩ := hb W ad
  obtain ⟨td, hd'⟩ := hd W ad
  apply Exists.intro
  intro X Z1 g tk
  obtain ⟨pa, sa⟩ := ha' X Z1 g tk
  obtain ⟨pb, sb⟩ := hb' X Z1 g tk
  obtain ⟨pd, sd⟩ := hd' X Z1 g tk
  exact ⟨pt_chain op_lt op_lt pa pb pd (by show behindInMarks _ x = false; exact noSet_mark hs), (fun op es p e => nomatch e), fun L hl => Snd.test (two_chain (fun x y k H Q e q => ⟨x, y, rfl, rfl, by cases e; exact q⟩) (fun x y k H Q e q => ⟨x, y, rfl, rfl, by cases e; exact q⟩) (sd L hl) (sa L hl) (sb L hl)) (isBl_bin2 isBl_chain)⟩
theorem ok_ch_lt_le {c : Cn} {a b d : ME} {l r x : Expr} {p : Pos} (hs : noSet x = true) (ha : OkE E c a l) (hb : OkE E c b r) (hd : OkE E c d x) : OkE E c (.chain .lt .le a b d) (.Compare l [.Lt, .LtE] [r, x] p) := by
  intro W ad
  obtain ⟨ta, ha'⟩ := ha W ad
  obtain ⟨tb, hb'⟩ := hb W ad
  obtain ⟨td, hd'⟩ := hd W ad
  apply Exists.intro
  intro X Z1 g tk
  obtain ⟨pa, sa⟩ := ha' X Z1 g tk
  obtain ⟨pb, sb⟩ := hb' X Z1 g tk
  obtain ⟨pd, sd⟩ := hd' X Z1 g tk
  exact ⟨pe_chain op_lt op_le pa pb pd (by show behindInMarks _ x = false; exact noSet_mark hs), fun L hl => two_chain (fun x y k H Q e q => ⟨x, y, rfl, rfl, by cases e; exact q⟩) (fun x y k H Q e q => ⟨x, y, rfl, rfl, by cases e; exact q⟩) (sd L hl) (sa L hl) (sb L hl)⟩
theorem ok_ch_lt_leT {c : Cn} {a b d : ME} {l r x : Expr} {p : Pos} (hs : noSet x = true) (ha : OkE E c a l) (hb : OkE E c b r) (hd : OkE E c d x) : OkT E c (.chain .lt .le a b d) (.Compare l [.Lt, .LtE] [r, x] p) := by
  intro W ad
  obtain ⟨ta, ha'⟩ := ha W ad
  obtain ⟨tb, hb'⟩ := hb W ad
  obtain ⟨td, hd'⟩ := hd W ad
  apply Exists.intro
  intro X Z1 g tk
  obtain ⟨pa, sa⟩ := ha' X Z1 g tk
  obtain ⟨pb, sb⟩ := hb' X Z1 g tk
  obtain ⟨pd, sd⟩ := hd' X Z1 g tk
  exact ⟨pt_chain op_lt op_le pa pb pd (by show behindInMarks _ x = false; exact noSet_mark hs), (fun op es p e => nomatch e), fun L hl => Snd.test (two_chain (fun x y k H Q e q => ⟨x, y, rfl, rfl, by cases e; exact q⟩) (fun x y k H Q e q => ⟨x, y, rfl, rfl, by cases e; exact q⟩) (sd L hl) (sa L hl) (sb L hl)) (isBl_bin2 isBl_chain)⟩
theorem ok_ch_le_lt {c : Cn} {a b d : ME} {l r x : Expr} {p : Pos} (hs : noSet x = true) (ha : OkE E c a l) (hb : OkE E c b r) (hd : OkE E c d x) : OkE E c (.chain .le .lt a b d) (.Compare l [.LtE, .Lt] [r, x] p) := by
  intro W ad
  obtain ⟨ta, ha'⟩ := ha W ad
  obtain ⟨tb, hb'⟩ := hb W ad
  obtain ⟨td, hd'⟩ := hd W ad
  apply Exists.intro
  intro X Z1 g tk
  obtain ⟨pa, sa⟩ := ha' X Z1 g tk
  obtain ⟨pb, sb⟩ := hb' X Z1 g tk
  obtain ⟨pd, sd⟩ := hd' X Z1 g tk
  exact ⟨pe_chain op_le op_lt pa pb pd (by show behindInMarks _ x = false; exact noSet_mark hs), fun L hl => two_chain (fun x y k H Q e q => ⟨x, y, rfl, rfl, by cases e; exact q⟩) (fun x y k H Q e q => ⟨x, y, rfl, rfl, by cases e; exact q⟩) (sd L hl) (sa L hl) (sb L hl)⟩
theorem ok_ch_le_ltT {c : Cn} {a b d : ME} {l r x : Expr} {p : Pos} (hs : noSet x = true) (ha : OkE E c a l) (hb : OkE E c b r) (hd : OkE E c d x) : OkT E c (.chain .le .lt a b d) (.Compare l [.LtE, .Lt] [r, x] p) := by
  intro W ad
  obtain ⟨ta, ha'⟩ := ha W ad
  obtain ⟨tb, hb'⟩ := hb W ad
  obtain ⟨td, hd'⟩ := hd W ad
  apply Exists.intro
  intro X Z1 g tk
  obtain ⟨pa, sa⟩ := ha' X Z1 g tk
  obtain ⟨pb, sb⟩ := hb' X Z1 g tk
  obtain ⟨pd, sd⟩ := hd' X Z1 g tk
  exact ⟨pt_chain op_le op_lt pa pb pd (by show behindInMarks _ x = false; exact noSet_mark hs), (fun op es p e => nomatch e), fun L hl => Snd.test (two_chain (fun x y k H Q e q => ⟨x, y, rfl, rfl, by cases e; exact q⟩) (fun x y k H Q e q => ⟨x, y, rfl, rfl, by cases e; exact q⟩) (sd L hl) (sa L hl) (sb L hl)) (isBl_bin2 isBl_chain)⟩
theorem ok_ch_le_le {c : Cn} {a b d : ME} {l r x : Expr} {p : Pos} (hs : noSet x = true) (ha : OkE E c a l) (hb : OkE E c b r) (hd : OkE E c d x) : OkE E c (.chain .le .le a b d) (.Compare l [.LtE, .LtE] [r, x] p) := by
  intro W ad
  obtain ⟨ta, ha'⟩ := ha W ad
  obtain ⟨tb, hb'⟩ := hb W ad
  obtain ⟨td, hd'⟩ := hd W ad
  apply Exists.intro
  intro X Z1 g tk
  obtain ⟨pa, sa⟩ := ha' X Z1 g tk
  obtain ⟨pb, sb⟩ := hb' X Z1 g tk
  obtain ⟨pd, sd⟩ := hd' X Z1 g tk
  exact ⟨pe_chain op_le op_le pa pb pd (by show behindInMarks _ x = false; exact noSet_mark hs), fun L hl => two_chain (fun x y k H Q e q => ⟨x, y, rfl, rfl, by cases e; exact q⟩) (fun x y k H Q e q => ⟨x, y, rfl, rfl, by cases e; exact q⟩) (sd L hl) (sa L hl) (sb L hl)⟩
theorem ok_ch_le_leT {c : Cn} {a b d : ME} {l r x : Expr} {p : Pos} (hs : noSet x = true) (ha : OkE E c a l) (hb : OkE E c b r) (hd : OkE E c d x) : OkT E c (.chain .le .le a b d) (.Compare l [.LtE, .LtE] [r, x] p) := by
  intro W ad
  obtain ⟨ta, ha'⟩ := ha W ad
  obtain ⟨tb, hb'⟩ := hb W ad
  obtain ⟨td, hd'⟩ := hd W ad
  apply Exists.intro
  intro X Z1 g tk
  obtain ⟨pa, sa⟩ := ha' X Z1 g tk
  obtain ⟨pb, sb⟩ := hb' X Z1 g tk
  obtain ⟨pd, sd⟩ := hd' X Z1 g tk
  exact ⟨pt_chain op_le op_le pa pb pd (by show behindInMarks _ x = false; exact noSet_mark hs), (fun op es p e => nomatch e), fun L hl => Snd.test (two_chain (fun x y k H Q e q => ⟨x, y, rfl, rfl, by cases e; exact q⟩) (fun x y k H Q e q => ⟨x, y, rfl, rfl, by cases e; exact q⟩) (sd L hl) (sa L hl) (sb L hl)) (isBl_bin2 isBl_chain)⟩
theorem ok_truth {c : Cn} {m : ME} {e : Expr} (hp : plainT e = true) (hm : (sm E.cal m).t = fun g => ((sm E.cal m).v g).bind truR) (ha : OkE E c m e) : OkT E c m e := by
  intro W ad
  obtain ⟨ta, ha'⟩ := ha W ad
  refine ⟨fun σ H Q => ta σ H fun x H' => ∃ k, TruV E.K x H' k ∧ Q k H', fun X Z1 g tk => ?_⟩
  obtain ⟨pa, sa⟩ := ha' X Z1 g tk
  exact ⟨(by rw [← g.K]; exact pt_truth pa (plainT_ok hp)), (fun op es p h => by subst h; cases hp), fun L hl => (by rw [hm]; exact Snd.truth g.k (sa L hl))⟩
theorem ok_neg {c : Cn} {a : ME} {l : Expr} {p : Pos} (ha : OkE E c a l) : OkE E c (.neg a) (.UnaryOp .USub l p) := by
  intro W ad
  obtain ⟨ta, ha'⟩ := ha W ad
  apply Exists.intro
  intro X Z1 g tk
  obtain ⟨pa, sa⟩ := ha' X Z1 g tk
  exact ⟨pe_un un_neg pa, fun L hl => Snd.one (r := rU fun i => V.int (-i)) (sa L hl) one_neg⟩
theorem ok_not {c : Cn} {a : ME} {l : Expr} {p : Pos} (ha : OkE E c a l) : OkE E c (.not a) (.UnaryOp .Not l p) := by
  intro W ad
  obtain ⟨ta, ha'⟩ := ha W ad
  apply Exists.intro
  intro X Z1 g tk
  obtain ⟨pa, sa⟩ := ha' X Z1 g tk
  exact ⟨pe_not pa, fun L hl => Snd.notV (sa L hl)⟩
theorem ok_notT {c : Cn} {a : ME} {l : Expr} {p : Pos} (ha : OkT E c a l) : OkT E c (.not a) (.UnaryOp .Not l p) := by
  intro W ad
  obtain ⟨ta, ha'⟩ := ha W ad
  apply Exists.intro
  intro X Z1 g tk
  obtain ⟨pa, wa, sa⟩ := ha' X Z1 g tk
  exact ⟨pt_not pa, (fun op es p e => nomatch e), fun L hl => Snd.not (sa L hl)⟩
theorem ok_and2 {c : Cn} {a b : ME} {l r : Expr} {p : Pos} (ha : OkE E c a l) (hb : OkE E c b r) : OkE E c (.and a b) (.BoolOp .And [l, r] p) := by
  intro W ad
  obtain ⟨ta, ha'⟩ := ha W ad
  obtain ⟨tb, hb'⟩ := hb W ad
  apply Exists.intro
  intro X Z1 g tk
  obtain ⟨pa, sa⟩ := ha' X Z1 g tk
  obtain ⟨pb, sb⟩ := hb' X Z1 g tk
  exact ⟨pe_and pa (pe_one pb), fun L hl => Snd.andV (sa L hl) (sb L hl)⟩
theorem ok_and3 {c : Cn} {a b : ME} {l r : Expr} {es : List Expr} {p : Pos} (ha : OkE E c a l) (hb : OkE E c b (.BoolOp .And (r :: es) p)) : OkE E c (.and a b) (.BoolOp .And (l :: r :: es) p) := by
  intro W ad
  obtain ⟨ta, ha'⟩ := ha W ad
  obtain ⟨tb, hb'⟩ := hb W ad
  apply Exists.intro
  intro X Z1 g tk
  obtain ⟨pa, sa⟩ := ha' X Z1 g tk
  obtain ⟨pb, sb⟩ := hb' X Z1 g tk
  exact ⟨pe_and pa pb, fun L hl => Snd.andV (sa L hl) (sb L hl)⟩
theorem ok_and2T {c : Cn} {a b : ME} {l r : Expr} {p : Pos} (ha : OkT E c a l) (hb : OkT E c b r) : OkT E c (.and a b) (.BoolOp .And [l, r] p) := by
  intro W ad
  obtain ⟨ta, ha'⟩ := ha W ad
  obtain ⟨tb, hb'⟩ := hb W ad
  apply Exists.intro
  intro X Z1 g tk
  obtain ⟨pa, wa, sa⟩ := ha' X Z1 g tk
  obtain ⟨pb, wb, sb⟩ := hb' X Z1 g tk
  have q := pw_and (pos := p) pa (pw_and1 pb)
  exact ⟨q.pt, (fun op es p e => by cases e; exact q), fun L hl => Snd.and (sa L hl) (sb L hl)⟩
theorem ok_and3T {c : Cn} {a b : ME} {l r : Expr} {es : List Expr} {p : Pos} (ha : OkT E c a l) (hb : OkT E c b (.BoolOp .And (r :: es) p)) : OkT E c (.and a b) (.BoolOp .And (l :: r :: es) p) := by
  intro W ad
  obtain ⟨ta, ha'⟩ := ha W ad
  obtain ⟨tb, hb'⟩ := hb W ad
  apply Exists.intro
  intro X Z1 g tk
  obtain ⟨pa, wa, sa⟩ := ha' X Z1 g tk
  obtain ⟨pb, wb, sb⟩ := hb' X Z1 g tk
  have q := pw_and pa (wb _ _ _ rfl)
  exact ⟨q.pt, (fun op es p e => by cases e; exact q), fun L hl => Snd.and (sa L hl) (sb L hl)⟩
theorem ok_or2 {c : Cn} {a b : ME} {l r : Expr} {p : Pos} (ha : OkE E c a l) (hb : OkE E c b r) : OkE E c (.or a b) (.BoolOp .Or [l, r] p) := by
  intro W ad
  obtain ⟨ta, ha'⟩ := ha W ad
  obtain ⟨tb, hb'⟩ := hb W ad
  apply Exists.intro
  intro X Z1 g tk
  obtain ⟨pa, sa⟩ := ha' X Z1 g tk
  obtain ⟨pb, sb⟩ := hb' X Z1 g tk
  exact ⟨pe_or pa (pe_one pb), fun L hl => Snd.orV (sa L hl) (sb L hl)⟩
theorem ok_or3 {c : Cn} {a b : ME} {l r : Expr} {es : List Expr} {p : Pos} (ha : OkE E c a l) (hb : OkE E c b (.BoolOp .Or (r :: es) p)) : OkE E c (.or a b) (.BoolOp .Or (l :: r :: es) p) := by
  intro W ad
  obtain ⟨ta, ha'⟩ := ha W ad
  obtain ⟨tb, hb'⟩ := hb W ad
  apply Exists.intro
  intro X Z1 g tk
  obtain ⟨pa, sa⟩ := ha' X Z1 g tk
  obtain ⟨pb, sb⟩ := hb' X Z1 g tk
  exact ⟨pe_or pa pb, fun L hl => Snd.orV (sa L hl) (sb L hl)⟩
theorem ok_or2T {c : Cn} {a b : ME} {l r : Expr} {p : Pos} (ha : OkT E c a l) (hb : OkT E c b r) : OkT E c (.or a b) (.BoolOp .Or [l, r] p) := by
  intro W ad
  obtain ⟨ta, ha'⟩ := ha W ad
  obtain ⟨tb, hb'⟩ := hb W ad
  apply Exists.intro
  intro X Z1 g tk
  obtain ⟨pa, wa, sa⟩ := ha' X Z1 g tk
  obtain ⟨pb, wb, sb⟩ := hb' X Z1 g tk
  have q := pw_or (pos := p) pa (pw_or1 pb)
  exact ⟨q.pt, (fun op es p e => by cases e; exact q), fun L hl => Snd.or (sa L hl) (sb L hl)⟩
theorem ok_or3T {c : Cn} {a b : ME} {l r : Expr} {es : List Expr} {p : Pos} (ha : OkT E c a l) (hb : OkT E c b (.BoolOp .Or (r :: es) p)) : OkT E c (.or a b) (.BoolOp .Or (l :: r :: es) p) := by
  intro W ad
  obtain ⟨ta, ha'⟩ := ha W ad
  obtain ⟨tb, hb'⟩ := hb W ad
  apply Exists.intro
  intro X Z1 g tk
  obtain ⟨pa, wa, sa⟩ := ha' X Z1 g tk
  obtain ⟨pb, wb, sb⟩ := hb' X Z1 g tk
  have q := pw_or pa (wb _ _ _ rfl)
  exact ⟨q.pt, (fun op es p e => by cases e; exact q), fun L hl => Snd.or (sa L hl) (sb L hl)⟩
theorem ok_ite {c : Cn} {k a b : ME} {x l r : Expr} {p : Pos} (hk : OkT E c k x) (ha : OkE E c a l) (hb : OkE E c b r) : OkE E c (.ite k a b) (.IfExp x l r p) := by
  intro W ad
  obtain ⟨tk, hk'⟩ := hk W ad
  obtain ⟨ta, ha'⟩ := ha W ad
  obtain ⟨tb, hb'⟩ := hb W ad
  apply Exists.intro
  intro X Z1 g tk
  obtain ⟨pk, wk, sk⟩ := hk' X Z1 g tk
  obtain ⟨pa, sa⟩ := ha' X Z1 g tk
  obtain ⟨pb, sb⟩ := hb' X Z1 g tk
  exact ⟨pe_ifExp pk pa pb, fun L hl => Snd.ite (sk L hl) (sa L hl) (sb L hl)⟩
theorem ok_nil {c : Cn} : OkA E c .nil [] := ⟨rfl, fun W ad => ⟨_, fun X Z1 g tk => ⟨pa_nil, fun L _ => snd_nil⟩⟩⟩
theorem ok_cons {c : Cn} {m : ME} {ms : MEs} {e : Expr} {es : List Expr} (hs : noStar e = true) (ha : OkE E c m e) (hr : OkA E c ms es) : OkA E c (.cons m ms) (e :: es) := by
  refine ⟨by simp [hs, hr.1], fun W ad => ?_⟩
  obtain ⟨ta, ha'⟩ := ha W ad
  obtain ⟨tr, hr'⟩ := hr.2 W ad
  apply Exists.intro
  intro X Z1 g tk
  obtain ⟨pa, sa⟩ := ha' X Z1 g tk
  obtain ⟨pr, sr⟩ := hr' X Z1 g tk
  exact ⟨pa_cons pa pr (noStar_cons hs), fun L hl => Snd.cons (sa L hl) (sr L hl)⟩
theorem ok_tup {c : Cn} {o : Bool} {ms : MEs} {es : List Expr} {k : Nat} {p : Pos} (ha : OkA E c ms es) : OkE E c (.tup o ms) (.Tuple es k p) := by
  intro W ad
  obtain ⟨ta, ha'⟩ := ha.2 W ad
  apply Exists.intro
  intro X Z1 g tk
  obtain ⟨pa, sa⟩ := ha' X Z1 g tk
  exact ⟨pe_tup pa, fun L hl => Snd.tup (sa L hl)⟩
theorem ok_lst {c : Cn} {o : Bool} {ms : MEs} {es : List Expr} {p : Pos} (ha : OkA E c ms es) : OkE E c (.lst o ms) (.List es p) := by
  intro W ad
  obtain ⟨ta, ha'⟩ := ha.2 W ad
  apply Exists.intro
  intro X Z1 g tk
  obtain ⟨pa, sa⟩ := ha' X Z1 g tk
  exact ⟨pe_lst pa, fun L hl => Snd.lst (sa L hl)⟩
theorem ok_idx {c : Cn} {a b : ME} {l r : Expr} {p : Pos} (hs : noSlice r = true) (ha : OkE E c a l) (hb : OkE E c b r) : OkE E c (.idx a b) (.Subscript l r p) := by
  intro W ad
  obtain ⟨ta, ha'⟩ := ha W ad
  obtain ⟨tb, hb'⟩ := hb W ad
  refine ⟨tOp (rIx E.K) ta tb, fun X Z1 g tk => ?_⟩
  obtain ⟨pa, sa⟩ := ha' X Z1 g tk
  obtain ⟨pb, sb⟩ := hb' X Z1 g tk
  exact ⟨(by rw [← g.K]; exact pe_ix ix_seq pa pb (noSlice_ok hs)), fun L hl => (sa L hl).two (sb L hl) (two_idx g.k)⟩
theorem ok_noO {c : Cn} : OkO E c .no none := fun W ad => ⟨_, fun X Z1 g tk => ⟨po_none, fun L _ => snd_noPart⟩⟩
theorem ok_someO {c : Cn} {m : ME} {e : Expr} (hm : (sm E.cal m).o = fun g => ((sm E.cal m).v g).bind bndR) (ha : OkE E c m e) : OkO E c m (some e) := by
  intro W ad
  obtain ⟨ta, ha'⟩ := ha W ad
  apply Exists.intro
  intro X Z1 g tk
  obtain ⟨pa, sa⟩ := ha' X Z1 g tk
  exact ⟨po_some pa, fun L hl => (by rw [hm]; exact Snd.bnd (sa L hl))⟩
theorem ok_sl {c : Cn} {o : Bool} {a lo hi : ME} {l : Expr} {e1 e2 : Option Expr} {p p2 : Pos} (ha : OkE E c a l) (hu : OkO E c lo e1) (hv : OkO E c hi e2) : OkE E c (.sl o a lo hi) (.Subscript l (.Slice e1 e2 none p2) p) := by
  intro W ad
  obtain ⟨ta, ha'⟩ := ha W ad
  obtain ⟨tu, hu'⟩ := hu W ad
  obtain ⟨tv, hv'⟩ := hv W ad
  refine ⟨tSl (rSlL E.K) ta tu tv, fun X Z1 g tk => ?_⟩
  obtain ⟨pa, sa⟩ := ha' X Z1 g tk
  obtain ⟨pu, su⟩ := hu' X Z1 g tk
  obtain ⟨pv, sv⟩ := hv' X Z1 g tk
  exact ⟨(by rw [← g.K]; exact pe_slice sl_list pa pu pv), fun L hl => Snd.slice g.k (sa L hl) (su L hl) (sv L hl)⟩
end
end Wh

/-! Wh, part 23: calls, loops' sources, comprehensions, as texts. -/
namespace Wh
open PySem L2 PySem.Spec PyProof.Rows
section
variable {E : Ev}
/-! ### a module's constants -/
mutual
def sameD : D → D → Bool
  | .non, .non => true
  | .bl a, .bl b => a == b
  | .int a, .int b => a == b
  | .str a, .str b => decide (a = b)
  | .lst a, .lst b => sameDs a b
  | .tup a, .tup b => sameDs a b
  | _, _ => false
def sameDs : List D → List D → Bool
  | [], [] => true
  | a :: as, b :: bs => sameD a b && sameDs as bs
  | _, _ => false
end
mutual
theorem sameD_eq : ∀ {a b : D}, sameD a b = true → a = b
  | .non, b, h => by cases b <;> first | rfl | cases h
  | .bl a, b, h => by
    cases b with
    | bl b => rw [eq_of_beq (show (a == b) = true from h)]
    | _ => cases h
  | .int a, b, h => by
    cases b with
    | int b => rw [eq_of_beq (show (a == b) = true from h)]
    | _ => cases h
  | .str a, b, h => by
    cases b with
    | str b => rw [of_decide_eq_true (show decide (a = b) = true from h)]
    | _ => cases h
  | .lst a, b, h => by
    cases b with
    | lst b => rw [sameDs_eq (show sameDs a b = true from h)]
    | _ => cases h
  | .tup a, b, h => by
    cases b with
    | tup b => rw [sameDs_eq (show sameDs a b = true from h)]
    | _ => cases h
  | .dk _ _, b, h => by cases b <;> cases h
  | .obj _ _ _, b, h => by cases b <;> cases h
theorem sameDs_eq : ∀ {a b : List D}, sameDs a b = true → a = b
  | [], b, h => by cases b with
    | nil => rfl
    | cons _ _ => cases h
  | a :: as, b, h => by
    cases b with
    | nil => cases h
    | cons b bs =>
      have h : (sameD a b && sameDs as bs) = true := h
      rw [Bool.and_eq_true] at h
      rw [sameD_eq h.1, sameDs_eq h.2]
end
theorem ok_glb (ok : EvOk E) {c : Cn} {x : Str} {p : Pos} {d d' : D} (hg : glB c x = true) (h : E.G.cst.lookup x = some d) (hd : sameD d d' = true) (hn : c.hold = none) : OkE E c (.glb d') (.Name x p) := by
  have := sameD_eq hd
  subst this
  intro W ad
  obtain ⟨v, u, h1, h2, h3⟩ := ok.cst x d h
  refine ⟨tC v, fun X Z1 g tk => ⟨pe_glob (g.gl hg) (by rw [g.mg]; exact h1) h2 (okN_1 (glB_ok hg)), fun L _ => snd_c fun F => ?_⟩⟩
  rw [(g.pl hn).1]
  exact h3 F
/-! ### built-in functions -/
theorem blt_no (ok : EvOk E) {c : Cn} {ad : Addr × Addr} {X : Cx} {Z1 : Ctx} (g : GoodX E c ad X Z1) {x : Str} (h : x ∈ bltN) : X.mg x = none := by rw [g.mg]; exact ok.bl x h
theorem ok_biF (ok : EvOk E) {c : Cn} {b : BI} {o : Bool} {ms : MEs} {x : Str} {e : Expr} {es : List Expr} {p pos : Pos} {id : String} {r : List V → Hp → VK → Prop} (hx : x ∈ bltN) (hv : bootBuiltins x = some (.builtin id)) (hg : glB c x = true)
    (hr : ∀ X Z1 ad, GoodX E c ad X Z1 → CallR X (.builtin id) r ∧ ∀ L W, Many Z1 L W r (biO b o)) (ha : OkA E c ms (e :: es)) : OkE E c (.bi b o ms) (.Call (.Name x p) (e :: es) [] pos) := by
  intro W ad
  obtain ⟨ta, ha'⟩ := ha.2 W ad
  refine ⟨tCB r ta, fun X Z1 g tk => ?_⟩
  obtain ⟨pa, sa⟩ := ha' X Z1 g tk
  obtain ⟨h1, h2⟩ := hr X Z1 ad g
  have hs := ha.1
  simp only [List.all_cons, Bool.and_eq_true] at hs
  exact ⟨pe_callB h1 (g.gl hg) (blt_no ok g hx) hv pa (okN_3 (glB_ok hg)) (okN_1 (glB_ok hg)) (noStar_cons hs.1) (noStar_any hs.2), fun L hl => Snd.many (sa L hl) (h2 L W)⟩
theorem ok_biT (ok : EvOk E) {c : Cn} {b : BI} {o : Bool} {ms : MEs} {x : Str} {e : Expr} {es : List Expr} {p pos : Pos} {id : String} {r : List V → Hp → VK → Prop} (hx : x ∈ bltN) (hv : bootBuiltins x = some (.type id)) (hg : glB c x = true)
    (hr : ∀ X Z1 ad, GoodX E c ad X Z1 → CallR X (.type id) r ∧ ∀ L W, Many Z1 L W r (biO b o)) (ha : OkA E c ms (e :: es)) : OkE E c (.bi b o ms) (.Call (.Name x p) (e :: es) [] pos) := by
  intro W ad
  obtain ⟨ta, ha'⟩ := ha.2 W ad
  refine ⟨tCB r ta, fun X Z1 g tk => ?_⟩
  obtain ⟨pa, sa⟩ := ha' X Z1 g tk
  obtain ⟨h1, h2⟩ := hr X Z1 ad g
  have hs := ha.1
  simp only [List.all_cons, Bool.and_eq_true] at hs
  exact ⟨pe_callTy h1 (g.gl hg) (blt_no ok g hx) hv pa (okN_3 (glB_ok hg)) (okN_1 (glB_ok hg)) (noStar_cons hs.1) (noStar_any hs.2), fun L hl => Snd.many (sa L hl) (h2 L W)⟩
def biN : BI → Option Str
  | .len => some "len" | .int => some "int" | .abs => some "abs" | .max => some "max" | .max3 => some "max" | .min => some "min" | .maxl => some "max" | .minl => some "min"
  | .sum => some "sum" | .sorted => some "sorted" | .list => some "list" | .all => some "all" | .any => some "any" | .sortedR => some "sorted"
theorem ok_bi (ok : EvOk E) {c : Cn} {b : BI} {o : Bool} {ms : MEs} {x : Str} {e : Expr} {es : List Expr} {p pos : Pos} (hx : biN b = some x) (hg : glB c x = true) (hn : c.hold = none) (ha : OkA E c ms (e :: es)) : OkE E c (.bi b o ms) (.Call (.Name x p) (e :: es) [] pos) := by
  have mem : ∀ {y : Str}, decide (y ∈ bltN) = true → y ∈ bltN := fun h => of_decide_eq_true h
  cases b with
  | max3 => cases hx; exact ok_biF ok (mem (by decide +kernel)) boot_max hg (fun X Z1 ad g => ⟨call_max3Nu (g.pl hn).2.1, fun L W => many_max3⟩) ha
  | sortedR => cases hx; exact ok_biF ok (mem (by decide +kernel)) boot_sorted hg (fun X Z1 ad g => ⟨by have h := cr_sortedR (X := X) g.un; rw [g.K] at h; exact h, fun L W => many_sortedR g.k⟩) ha
  | len => cases hx; exact ok_biF ok (mem (by decide +kernel)) boot_len hg (fun X Z1 ad g => ⟨by have h := call_len (X := X); rw [g.K] at h; exact h, fun L W => many_len g.k⟩) ha
  | int => cases hx; exact ok_biT ok (mem (by decide +kernel)) boot_int hg (fun X Z1 ad g => ⟨call_int1, fun L W => many_int⟩) ha
  | abs => cases hx; exact ok_biF ok (mem (by decide +kernel)) boot_abs hg (fun X Z1 ad g => ⟨call_abs, fun L W => many_abs⟩) ha
  | max => cases hx; exact ok_biF ok (mem (by decide +kernel)) boot_max hg (fun X Z1 ad g => ⟨call_max2 (g.pl hn).2.1, fun L W => many_max⟩) ha
  | min => cases hx; exact ok_biF ok (mem (by decide +kernel)) boot_min hg (fun X Z1 ad g => ⟨call_min2 (g.pl hn).2.1, fun L W => many_min⟩) ha
  | maxl => cases hx; exact ok_biF ok (mem (by decide +kernel)) boot_max hg (fun X Z1 ad g => ⟨by have h := cr_max (g.pl hn).2.1; rw [g.K] at h; exact h, fun L W => many_maxl g.k⟩) ha
  | minl => cases hx; exact ok_biF ok (mem (by decide +kernel)) boot_min hg (fun X Z1 ad g => ⟨by have h := cr_min (g.pl hn).2.1; rw [g.K] at h; exact h, fun L W => many_minl g.k⟩) ha
  | sum => cases hx; exact ok_biF ok (mem (by decide +kernel)) boot_sum hg (fun X Z1 ad g => ⟨by have h := cr_sum (g.pl hn).2.1; rw [g.K] at h; exact h, fun L W => many_sum g.k⟩) ha
  | sorted => cases hx; exact ok_biF ok (mem (by decide +kernel)) boot_sorted hg (fun X Z1 ad g => ⟨by have h := cr_sorted (X := X); rw [g.K] at h; exact h, fun L W => many_sorted g.k⟩) ha
  | list => cases hx; exact ok_biT ok (mem (by decide +kernel)) boot_list hg (fun X Z1 ad g => ⟨by have h := call_list_of (X := X); rw [g.K] at h; exact h, fun L W => many_list g.k⟩) ha
  | all => cases hx; exact ok_biF ok (mem (by decide +kernel)) boot_all hg (fun X Z1 ad g => ⟨by have h := cr_all (g.pl hn).2.1; rw [g.K] at h; exact h, fun L W => many_all g.k⟩) ha
  | any => cases hx; exact ok_biF ok (mem (by decide +kernel)) boot_any hg (fun X Z1 ad g => ⟨by have h := cr_any (g.pl hn).2.1; rw [g.K] at h; exact h, fun L W => many_any g.k⟩) ha
/-! ### own defs -/
theorem ok_call (ok : EvOk E) {c : Cn} {f : Nat} {ms : MEs} {x : Str} {e : Expr} {es : List Expr} {p pos : Pos} (hg : glB c x = true) (hn : c.hold = none) (hf : E.G.fns.lookup x = some f) (ha : OkA E c ms (e :: es)) : OkE E c (.call f ms) (.Call (.Name x p) (e :: es) [] pos) := by
  intro W ad
  obtain ⟨ta, ha'⟩ := ha.2 W ad
  obtain ⟨fa, fd, ps, h1, h2, h3, h4⟩ := ok.fn x f hf
  refine ⟨tCallSD (sp E.Z E.cal f) [] (WE W) ta, fun X Z1 g tk => ?_⟩
  obtain ⟨pa, sa⟩ := ha' X Z1 g tk
  obtain ⟨hz, _, hr⟩ := g.pl hn
  have hs := ha.1
  simp only [List.all_cons, Bool.and_eq_true] at hs
  have F : FnOk X.prog X.w X.K X.mg X.base (L2.CX X.prog X.w) E.k fa fd ps (sp E.Z E.cal f) := by
    rw [g.prog, g.w, g.K, g.mg, g.base]; exact h3
  refine ⟨pe_callSD F hr (g.gl hg) (by rw [g.mg]; exact h1) (by rw [g.K]; exact h2) (by rw [g.K]; exact h4) .nil (fun σ => passAt tk σ) pa (okN_1 (glB_ok hg)) (noStar_cons hs.1) (noStar_any hs.2), fun L hl => ?_⟩
  subst hz
  exact Snd.call (sa L hl)
theorem ok_call0 (ok : EvOk E) {c : Cn} {f : Nat} {x : Str} {p pos : Pos} (hg : glB c x = true) (hn : c.hold = none) (hf : E.G.fns.lookup x = some f) : OkE E c (.call f .nil) (.Call (.Name x p) [] [] pos) := by
  intro W ad
  obtain ⟨fa, fd, ps, h1, h2, h3, h4⟩ := ok.fn x f hf
  refine ⟨tCallSD (sp E.Z E.cal f) [] (WE W) tNil, fun X Z1 g tk => ?_⟩
  obtain ⟨hz, _, hr⟩ := g.pl hn
  have F : FnOk X.prog X.w X.K X.mg X.base (L2.CX X.prog X.w) E.k fa fd ps (sp E.Z E.cal f) := by
    rw [g.prog, g.w, g.K, g.mg, g.base]; exact h3
  refine ⟨pe_call0SD F hr (g.gl hg) (by rw [g.mg]; exact h1) (by rw [g.K]; exact h2) (by rw [g.K]; exact h4) (fun σ => passAt tk σ) (okN_1 (glB_ok hg)), fun L hl => ?_⟩
  subst hz
  exact Snd.call snd_nil
/-! ### methods of lists -/
theorem few1 {cpos : Pos} {env : Env} {e : Expr} (hs : noStar e = true) : ((backTo cpos (starEach [e] env)).all (fun x => !x.1) && (backToKw cpos (keywordEach [] env)).all (fun x => x.1.isSome)
      && decide ([e].length + ([] : List Keyword).length + (if ([] : List Keyword).isEmpty then 0 else 1) < 30)) = true := by
  rw [noStar_cons hs]; rfl
theorem ok_app {c : Cn} {a b : ME} {l r : Expr} {p p2 : Pos} (hn : noSup l = true) (hs : noStar r = true) (hl : (p.endLine == p2.line) = true) (ha : OkE E c a l) (hb : OkE E c b r) : OkE E c (.app a b) (.Call (.Attribute l "append" p) [r] [] p2) := by
  intro W ad
  obtain ⟨ta, ha'⟩ := ha W ad
  obtain ⟨tb, hb'⟩ := hb W ad
  refine ⟨tBM E.K "list" rAppend ta (tCons tb tNil), fun X Z1 g tk => ?_⟩
  obtain ⟨pa, sa⟩ := ha' X Z1 g tk
  obtain ⟨pb, sb⟩ := hb' X Z1 g tk
  exact ⟨by rw [← g.K]; exact pe_bm PySem.F.plainAttrs_list PySem.F.slot_list_append PySem.F.type_list_append mt_append pa (pa_cons pb pa_nil (noStar_cons hs)) (noSup_ok hn) (few1 hs) hl (noStar_cons hs) rfl, fun L hl => Snd.mut2 g.k (sa L hl) (sb L hl) (two_app g.k)⟩
theorem ok_popi {c : Cn} {a b : ME} {l r : Expr} {p p2 : Pos} (hn : noSup l = true) (hs : noStar r = true) (hl : (p.endLine == p2.line) = true) (ha : OkE E c a l) (hb : OkE E c b r) : OkE E c (.popi a b) (.Call (.Attribute l "pop" p) [r] [] p2) := by
  intro W ad
  obtain ⟨ta, ha'⟩ := ha W ad
  obtain ⟨tb, hb'⟩ := hb W ad
  refine ⟨tBM E.K "list" rPopAt ta (tCons tb tNil), fun X Z1 g tk => ?_⟩
  obtain ⟨pa, sa⟩ := ha' X Z1 g tk
  obtain ⟨pb, sb⟩ := hb' X Z1 g tk
  exact ⟨by rw [← g.K]; exact pe_bm PySem.F.plainAttrs_list PySem.F.slot_list_pop PySem.F.type_list_pop mt_popAt pa (pa_cons pb pa_nil (noStar_cons hs)) (noSup_ok hn) (few1 hs) hl (noStar_cons hs) rfl, fun L hl => Snd.mut2 g.k (sa L hl) (sb L hl) (two_popi g.k)⟩
theorem ok_pop {c : Cn} {a : ME} {l : Expr} {p p2 : Pos} (hn : noSup l = true) (hl : (p.endLine == p2.line) = true) (ha : OkE E c a l) : OkE E c (.pop a) (.Call (.Attribute l "pop" p) [] [] p2) := by
  intro W ad
  obtain ⟨ta, ha'⟩ := ha W ad
  refine ⟨tBM0 E.K "list" rPop ta, fun X Z1 g tk => ?_⟩
  obtain ⟨pa, sa⟩ := ha' X Z1 g tk
  exact ⟨by rw [← g.K]; exact pe_bm0 PySem.F.plainAttrs_list PySem.F.slot_list_pop PySem.F.type_list_pop mt_pop pa (noSup_ok hn) hl, fun L hl => Snd.pop0 g.k (sa L hl)⟩
/-! ### isinstance -/
theorem ok_isi (ok : EvOk E) {c : Cn} {k : TyK} {n : String} {a : ME} {l : Expr} {x : Str} {p p2 pos : Pos} (hk : kN k = some n) (hm : x ∈ bltN) (hv : bootBuiltins x = some (.type n)) (g1 : glB c "isinstance" = true) (g2 : glB c x = true) (hs : noStar l = true) (ha : OkE E c a l) :
    OkE E c (.isi a k) (.Call (.Name "isinstance" p) [l, .Name x p2] [] pos) := by
  intro W ad
  obtain ⟨ta, ha'⟩ := ha W ad
  refine ⟨tCB (rIsi E.K) (tCons ta (tCons (tC (.ty n)) tNil)), fun X Z1 g tk => ?_⟩
  obtain ⟨pa, sa⟩ := ha' X Z1 g tk
  refine ⟨?_, fun L hl => Snd.one (r := fun x H Q => rIsi E.K [x, .ty n] H Q) (sa L hl) (one_isi g.k hk)⟩
  have h := call_isi (X := X)
  rw [g.K] at h
  exact pe_callB h (g.gl g1) (blt_no ok g (of_decide_eq_true (by decide +kernel))) boot_isinstance (pa_cons pa (pa_cons (pe_bltn (g.gl g2) (blt_no ok g hm) hv rfl (okN_3 (glB_ok g2)) (okN_1 (glB_ok g2))) pa_nil rfl) (noStar_cons hs)) (okN_3 (glB_ok g1)) (okN_1 (glB_ok g1)) (noStar_cons hs) rfl
/-! ### errors that a suite holds -/
theorem ok_xfld (ok : EvOk E) {c : Cn} {i c0 : Nat} {f x xc : Str} {p p2 : Pos} (hh : c.hold = some (i, c0)) (hx : nameB c i (.Name x p) = true) (hc : E.G.cls.lookup xc = some c0) (hno : PySem.W.findIn E.K (.ref (E.Z.ca c0)) f = some none) : OkE E c (.xfld i f) (.Attribute (.Name x p) f p2) := by
  intro W ad
  refine ⟨fun σ H Q => tXf ad.1 (.ref (E.Z.ca c0)) (some ad.2) (E.Z.ca c0) f (tVar i) σ H Q, fun X Z1 g tk => ?_⟩
  obtain ⟨X0, oe, pn, h1, h2, h3, h4⟩ := g.hd i c0 hh
  have hn := name_ok hx g
  refine ⟨?_, fun L hl => ?_⟩
  · have hK := g.K
    subst h1
    exact pe_xf (X := X0) (by have := (ok.xf c0 xc hc).1; rw [← hK] at this; exact this) (by rw [← hK] at hno; exact hno) h2 h3 hn rfl
  · obtain ⟨fvs, L0, h5⟩ := hl i c0 hh
    subst h4 h5
    exact snd_xfld (Z := E.Z) (L := L0) (c := c0) (fun _ => trivial)
theorem ok_xis (ok : EvOk E) {c : Cn} {i c0 c1 : Nat} {x y xc : Str} {p p2 p3 pos : Pos} (hh : c.hold = some (i, c0)) (hx : nameB c i (.Name x p) = true) (hc : E.G.cls.lookup xc = some c0) (hy : E.G.cls.lookup y = some c1) (g1 : glB c "isinstance" = true) (g2 : glB c y = true) :
    OkE E c (.xis i c1 c0) (.Call (.Name "isinstance" p3) [.Name x p, .Name y p2] [] pos) := by
  intro W ad
  refine ⟨fun σ H Q => tCons (tVar i) (tCons (tC (.ref (E.Z.ca c1))) tNil) σ H fun xs H => ∃ (cc : Addr) (b : Bool) (fs : List (Str × V)), xs = [.ref ad.1, .ref cc] ∧ H ad.2 = some (.xd fs) ∧ PySem.W.kitOne E.K (.ref (E.Z.ca c0)) (.ref cc) = some b ∧ Q (.bl b) H, fun X Z1 g tk => ?_⟩
  obtain ⟨X0, oe, pn, h1, h2, h3, h4⟩ := g.hd i c0 hh
  have hn := name_ok hx g
  refine ⟨?_, fun L hl => ?_⟩
  · have hK := g.K
    have hgl1 := g.gl g1
    have hgl2 := g.gl g2
    have hb := blt_no ok g (x := "isinstance") (of_decide_eq_true (by decide +kernel))
    have hmg : X.mg y = some (.ref (E.Z.ca c1)) := by rw [g.mg]; exact ok.cl y c1 hy
    have hE := (ok.xf c0 xc hc).2.1
    rw [← hK] at hE ⊢
    subst h1
    exact pe_callB (call_isX (X := X0) hE h2 h3) hgl1 hb boot_isinstance (pa_cons hn (pa_cons (pe_glob hgl2 hmg (show L2.RelV (.ref (E.Z.ca c1)) (.ref (E.Z.ca c1)) from rfl) (okN_1 (glB_ok g2))) pa_nil rfl) rfl) (okN_3 (glB_ok g1)) (okN_1 (glB_ok g1)) rfl rfl
  · obtain ⟨fvs, L0, h5⟩ := hl i c0 hh
    subst h4 h5
    exact snd_xis (Z := E.Z) (L := L0) (K := E.K) (ok.zK.symm) (by have := (ok.xf c1 y hy).2.2 c0 xc hc; exact this)
theorem bootVE : bootBuiltins "ValueError" = some (.type "ValueError") := by decide +kernel
theorem ok_tupl (ok : EvOk E) {c : Cn} {a : ME} {l : Expr} {p pos : Pos} (g1 : glB c "tuple" = true) (hs : noStar l = true) (ha : OkE E c a l) : OkE E c (.tupl a) (.Call (.Name "tuple" p) [l] [] pos) := by
  intro W ad
  obtain ⟨ta, ha'⟩ := ha W ad
  refine ⟨tThen ta (kTup E.K), fun X Z1 g tk => ?_⟩
  obtain ⟨pa, sa⟩ := ha' X Z1 g tk
  exact ⟨by rw [← g.K]; exact pe_tupleOf (g.gl g1) (blt_no ok g (of_decide_eq_true (by decide +kernel))) pa (noStar_cons hs), fun L hl => Snd.one (r := fun x H Q => kTup E.K x H Q) (sa L hl) (one_tupl g.k)⟩
theorem ok_xvb (ok : EvOk E) {c : Cn} {i c0 : Nat} {x xc : Str} {p p2 p3 pos : Pos} (hh : c.hold = some (i, c0)) (hx : nameB c i (.Name x p) = true) (hc : E.G.cls.lookup xc = some c0) (g1 : glB c "isinstance" = true) (g2 : glB c "ValueError" = true) :
    OkE E c (.xvb i) (.Call (.Name "isinstance" p3) [.Name x p, .Name "ValueError" p2] [] pos) := by
  intro W ad
  refine ⟨fun σ H Q => tCons (tVar i) (tCons (tC (.ty "ValueError")) tNil) σ H fun xs H => ∃ (b : Bool) (fs : List (Str × V)), xs = [.ref ad.1, .ty "ValueError"] ∧ H ad.2 = some (.xd fs) ∧ PySem.W.kitOne E.K (.ref (E.Z.ca c0)) (.type "ValueError") = some b ∧ Q (.bl b) H, fun X Z1 g tk => ?_⟩
  obtain ⟨X0, oe, pn, h1, h2, h3, h4⟩ := g.hd i c0 hh
  have hn := name_ok hx g
  refine ⟨?_, fun L hl => ?_⟩
  · have hK := g.K
    have hgl1 := g.gl g1
    have hgl2 := g.gl g2
    have hb := blt_no ok g (x := "isinstance") (of_decide_eq_true (by decide +kernel))
    have hb2 := blt_no ok g (x := "ValueError") (of_decide_eq_true (by decide +kernel))
    have hE := (ok.xf c0 xc hc).2.1
    rw [← hK] at hE ⊢
    subst h1
    exact pe_callB (call_isV (X := X0) hE h2 h3) hgl1 hb boot_isinstance (pa_cons hn (pa_cons (pe_bltn hgl2 hb2 bootVE (show L2.RelV (.ty "ValueError") (.type "ValueError") from rfl) (okN_3 (glB_ok g2)) (okN_1 (glB_ok g2))) pa_nil rfl) rfl) (okN_3 (glB_ok g1)) (okN_1 (glB_ok g1)) rfl rfl
  · obtain ⟨fvs, L0, h5⟩ := hl i c0 hh
    subst h4 h5
    exact snd_xvb (Z := E.Z) (L := L0) (c0 := c0) (K := E.K) (ok.xv c0 xc hc)
theorem ok_lrg1 (ok : EvOk E) {c : Cn} {o : Bool} {a : ME} {l : Expr} {p p2 pos pos2 : Pos} (hn : c.hold = none) (g1 : glB c "list" = true) (g2 : glB c "range" = true) (hs : noStar l = true) (ha : OkE E c a l) : OkE E c (.lrg1 o a) (.Call (.Name "list" p) [.Call (.Name "range" p2) [l] [] pos2] [] pos) := by
  intro W ad
  obtain ⟨ta, ha'⟩ := ha W ad
  refine ⟨tLstRg (tRg1 ta), fun X Z1 g tk => ?_⟩
  obtain ⟨pa, sa⟩ := ha' X Z1 g tk
  exact ⟨pe_listRg (g.pl hn).2.1 (g.gl g1) (blt_no ok g (of_decide_eq_true (by decide +kernel))) (prg_1 (g.gl g2) (blt_no ok g (of_decide_eq_true (by decide +kernel))) pa (noStar_cons hs)), fun L hl => snd_lrg1 (sa L hl)⟩
theorem ok_lrg2 (ok : EvOk E) {c : Cn} {o : Bool} {a b : ME} {l r : Expr} {p p2 pos pos2 : Pos} (hn : c.hold = none) (g1 : glB c "list" = true) (g2 : glB c "range" = true) (hs : noStar l = true) (hs2 : noStar r = true) (ha : OkE E c a l) (hb : OkE E c b r) : OkE E c (.lrg2 o a b) (.Call (.Name "list" p) [.Call (.Name "range" p2) [l, r] [] pos2] [] pos) := by
  intro W ad
  obtain ⟨ta, ha'⟩ := ha W ad
  obtain ⟨tb, hb'⟩ := hb W ad
  refine ⟨tLstRg (tRg2 ta tb), fun X Z1 g tk => ?_⟩
  obtain ⟨pa, sa⟩ := ha' X Z1 g tk
  obtain ⟨pb, sb⟩ := hb' X Z1 g tk
  exact ⟨pe_listRg (g.pl hn).2.1 (g.gl g1) (blt_no ok g (of_decide_eq_true (by decide +kernel))) (prg_2 (g.gl g2) (blt_no ok g (of_decide_eq_true (by decide +kernel))) pa pb (noStar_cons hs) (noStar_cons hs2) (by rw [noStar_cons hs2]; rfl)), fun L hl => snd_lrg2 (sa L hl) (sb L hl)⟩
/-! ### dicts -/
def keyB : Key → Option Expr → Bool
  | .inl i, some (.Constant (.int j) _ _) => i == j
  | .inr s, some (.Constant (.str z) _ _) => decide (s = z)
  | _, _ => false
def keysB : List Key → List (Option Expr) → Bool
  | [], [] => true
  | k :: ks, e :: es => keyB k e && keysB ks es
  | _, _ => false
theorem keyB_ok {k : Key} {e : Option Expr} (h : keyB k e = true) : ∃ x, e = some x ∧ ∀ X : Cx, PE X x (tC (kV k)) := by
  unfold keyB at h
  split at h
  · have := eq_of_beq h; subst this; exact ⟨_, rfl, fun X => pe_int⟩
  · have := of_decide_eq_true h; subst this; exact ⟨_, rfl, fun X => pe_str⟩
  · cases h
theorem keysB_len : ∀ {ks : List Key} {es : List (Option Expr)}, keysB ks es = true → es.length = ks.length ∧ es.all (·.isSome) = true
  | [], [], _ => ⟨rfl, rfl⟩
  | [], _ :: _, h => by cases h
  | _ :: _, [], h => by cases h
  | k :: ks, e :: es, h => by
    obtain ⟨h1, h2⟩ := (Bool.and_eq_true _ _).mp (show (keyB k e && keysB ks es) = true from h)
    obtain ⟨x, rfl, _⟩ := keyB_ok h1
    obtain ⟨a, b⟩ := keysB_len h2
    exact ⟨by simp [a], by simpa using b⟩
def OkD (E : Ev) (c : Cn) (ms : MEs) (es : List Expr) : Prop := ∀ W ad, ∃ tvs : List TE, tvs.length = es.length ∧ ∀ X Z1, GoodX E c ad X Z1 → Takes X W → (∀ ks keys pos, keysB ks keys = true → ks.length = es.length → PPs X pos keys es (mkP ks tvs)) ∧ ∀ L, LkOf c ad L → Snd Z1 L W kRs (tAll tvs) (sms E.cal ms)
theorem ok_nilD {c : Cn} : OkD E c .nil [] := fun W ad => ⟨[], rfl, fun X Z1 g tk => ⟨fun ks keys pos h hl => by
  cases ks with
  | nil => cases keys with
    | nil => exact pps_nil
    | cons _ _ => cases h
  | cons _ _ => simp at hl, fun L _ => snd_nil⟩⟩
theorem ok_consD {c : Cn} {m : ME} {ms : MEs} {e : Expr} {es : List Expr} (ha : OkE E c m e) (hr : OkD E c ms es) : OkD E c (.cons m ms) (e :: es) := by
  intro W ad
  obtain ⟨ta, ha'⟩ := ha W ad
  obtain ⟨tr, hl, hr'⟩ := hr W ad
  refine ⟨ta :: tr, by simp [hl], fun X Z1 g tk => ?_⟩
  obtain ⟨pa, sa⟩ := ha' X Z1 g tk
  obtain ⟨pr, sr⟩ := hr' X Z1 g tk
  refine ⟨fun ks keys pos h hk => ?_, fun L hl => Snd.cons (sa L hl) (sr L hl)⟩
  cases ks with
  | nil => simp at hk
  | cons k ks =>
    cases keys with
    | nil => cases h
    | cons y ys =>
      obtain ⟨h1, h2⟩ := (Bool.and_eq_true _ _).mp (show (keyB k y && keysB ks ys) = true from h)
      obtain ⟨x, rfl, hx⟩ := keyB_ok h1
      exact pps_cons (hx X) pa (pr ks ys pos h2 (by simpa using hk))
theorem ok_dis {c : Cn} {o : Bool} {ks : List Key} {ms : MEs} {keys : List (Option Expr)} {es : List Expr} {pos : Pos} (hk : keysB ks keys = true) (hn : ks.Nodup) (h0 : ks ≠ []) (h15 : ks.length ≤ 15) (hl : ks.length = es.length) (ha : OkD E c ms es) : OkE E c (.dis o ks ms) (.Dict keys es pos) := by
  intro W ad
  obtain ⟨tvs, hlt, ha'⟩ := ha W ad
  refine ⟨tDisp (mkP ks tvs), fun X Z1 g tk => ?_⟩
  obtain ⟨pp, sa⟩ := ha' X Z1 g tk
  obtain ⟨e1, e2⟩ := keysB_len hk
  refine ⟨pe_disp (pp ks keys pos hk hl) e2 (by omega) (fun h => by
    subst h
    cases ks with
    | nil => exact h0 rfl
    | cons _ _ => cases hk) (by omega), fun L hL => Snd.dis hn (by omega) h15 (sa L hL)⟩
theorem noSlice_sl {e : Expr} (h : noSlice e = true) : NoSl e := by
  intro o i
  cases e <;> first | rfl | cases h
theorem ok_dix {c : Cn} {a b : ME} {l r : Expr} {p : Pos} (hs : noSlice r = true) (ha : OkE E c a l) (hb : OkE E c b r) : OkE E c (.dix a b) (.Subscript l r p) := by
  intro W ad
  obtain ⟨ta, ha'⟩ := ha W ad
  obtain ⟨tb, hb'⟩ := hb W ad
  refine ⟨tDGet ta tb, fun X Z1 g tk => ?_⟩
  obtain ⟨pa, sa⟩ := ha' X Z1 g tk
  obtain ⟨pb, sb⟩ := hb' X Z1 g tk
  exact ⟨pe_dget (by have := g.un; omega) pa pb (noSlice_sl hs), fun L hl => (sa L hl).two (sb L hl) (two_dix (K := E.K))⟩
/-! ### what is walked -/
theorem ok_rng1 (ok : EvOk E) {c : Cn} {a : ME} {l : Expr} {p pos : Pos} (g1 : glB c "range" = true) (hs : noStar l = true) (ha : OkE E c a l) : OkI E c (.rng1 a) (.Call (.Name "range" p) [l] [] pos) := by
  refine ⟨fun _ _ => rfl, fun W ad => ?_⟩
  obtain ⟨ta, ha'⟩ := ha W ad
  refine ⟨iRng1 (tCons ta tNil), fun X Z1 g tk => ?_⟩
  obtain ⟨pa, sa⟩ := ha' X Z1 g tk
  exact ⟨fun tg => pi_range1 (g.gl g1) (blt_no ok g (of_decide_eq_true (by decide +kernel))) (pa_cons pa pa_nil (noStar_cons hs)) (noStar_cons hs), fun L hl => snd_rng1 (sa L hl)⟩
theorem ok_rng2 (ok : EvOk E) {c : Cn} {a b : ME} {l r : Expr} {p pos : Pos} (g1 : glB c "range" = true) (hs : noStar l = true) (hs2 : noStar r = true) (ha : OkE E c a l) (hb : OkE E c b r) : OkI E c (.rng2 a b) (.Call (.Name "range" p) [l, r] [] pos) := by
  refine ⟨fun _ _ => rfl, fun W ad => ?_⟩
  obtain ⟨ta, ha'⟩ := ha W ad
  obtain ⟨tb, hb'⟩ := hb W ad
  refine ⟨iRng2 (tCons ta (tCons tb tNil)), fun X Z1 g tk => ?_⟩
  obtain ⟨pa, sa⟩ := ha' X Z1 g tk
  obtain ⟨pb, sb⟩ := hb' X Z1 g tk
  exact ⟨fun tg => pi_range2 (g.gl g1) (blt_no ok g (of_decide_eq_true (by decide +kernel))) (pa_cons pa (pa_cons pb pa_nil (noStar_cons hs2)) (noStar_cons hs)) (by rw [noStar_cons hs, noStar_cons hs2]; rfl) (noStar_cons hs2), fun L hl => snd_rng2 (sa L hl) (sb L hl)⟩
theorem ok_seq {c : Cn} {m : ME} {e : Expr} (hs : noSet e = true) (hm : (sm E.cal m).i = fun g => ((sm E.cal m).v g).bind itmR) (ha : OkE E c m e) : OkI E c m e := by
  refine ⟨fun env x => noSet_fold hs x, fun W ad => ?_⟩
  obtain ⟨ta, ha'⟩ := ha W ad
  refine ⟨iSeq E.K ta, fun X Z1 g tk => ?_⟩
  obtain ⟨pa, sa⟩ := ha' X Z1 g tk
  exact ⟨fun tg => by rw [← g.K]; exact pi_seq pa, fun L hl => by rw [hm]; exact snd_seq g.k (sa L hl)⟩
end
end Wh

/-! Wh, part 24: comprehensions and targets, as texts. -/
namespace Wh
open PySem L2 PySem.Spec PyProof.Rows
section
variable {E : Ev}
/-! ### targets -/
def tgNames (c : Cn) : List Nat → List Expr → Bool
  | [], [] => true
  | i :: is, .Name x _ :: es => decide (c.N[i]? = some x) && (decide (c.sc.names.lookup x = some .local) || (decide (c.sc.names.lookup x = some .cell) && c.fn x)) && tgNames c is es
  | _, _ => false
def tgB (c : Cn) : List Nat → Bool → Expr → Bool
  | [i], false, .Name x p => tgNames c [i] [.Name x p]
  | is, true, .Tuple es _ _ => tgNames c is es
  | _, _, _ => false
/-- what a store asks of the context -/
structure Tg (E : Ev) (c : Cn) (X : Cx) : Prop where
  N : X.N = c.N
  nd : c.N.Nodup
  sc : X.env.scope = c.sc
  fn : X.fn = c.fn
  K : X.K = E.K
theorem GoodX.tg {c : Cn} {ad : Addr × Addr} {X : Cx} {Z1 : Ctx} (g : GoodX E c ad X Z1) : Tg E c X := ⟨g.N, g.nd, g.sc, g.fn, g.K⟩
theorem loc_of {c : Cn} {X : Cx} (g : Tg E c X) {x : Str} (h : (decide (c.sc.names.lookup x = some .local) || (decide (c.sc.names.lookup x = some .cell) && c.fn x)) = true) : Loc X.env.scope x ∧ (X.fn x = true ∨ X.env.scope.names.lookup x = some .local) := by
  simp only [Bool.or_eq_true, Bool.and_eq_true, decide_eq_true_eq] at h
  rcases h with h | ⟨h, h'⟩
  · exact ⟨.inl (by rw [g.sc]; exact h), .inr (by rw [g.sc]; exact h)⟩
  · exact ⟨.inr (by rw [g.sc]; exact h), .inl (by rw [g.fn]; exact h')⟩
theorem pg_of {c : Cn} {X : Cx} {i : Nat} {x : Str} {p : Pos} (g : Tg E c X) (h1 : c.N[i]? = some x) (h2 : (decide (c.sc.names.lookup x = some .local) || (decide (c.sc.names.lookup x = some .cell) && c.fn x)) = true) : PG X (.Name x p) (gName i) :=
  pg_name (by rw [g.N]; exact g.nd) (by rw [g.N]; exact h1) (loc_of g h2).1 (loc_of g h2).2
theorem pgs_of {c : Cn} {X : Cx} (g : Tg E c X) : ∀ {is : List Nat} {es : List Expr}, tgNames c is es = true → PGs X es (gNames is) ∧ (assignEach es X.env).length = is.length ∧ (assignEach es X.env).findIdx? (·.1) = none
  | [], [], _ => ⟨pgs_nil, rfl, rfl⟩
  | i :: is, e :: es, h => by
    cases e with
    | Name x p =>
      simp only [tgNames, Bool.and_eq_true] at h
      obtain ⟨h1, h2, h3⟩ := pgs_of g h.2
      refine ⟨pgs_cons (pg_of g (of_decide_eq_true h.1.1) h.1.2) h1 rfl, ?_, ?_⟩
      · show (assignEach es X.env).length + 1 = _
        rw [h2]; rfl
      · show List.findIdx? (·.1) ((false, _) :: assignEach es X.env) = none
        rw [List.findIdx?_cons]
        simp [h3]
    | _ => cases h
  | [], _ :: _, h => by cases h
  | _ :: _, [], h => by cases h
theorem tg_ok {c : Cn} {tg : List Nat} {un : Bool} {e : Expr} (h : tgB c tg un e = true) : ∃ gt, (∀ X, Tg E c X → X.calm = true → PG X e gt) ∧ ∀ Z1 L, E.K = Z1.K → SndG Z1 L tg un gt := by
  cases un with
  | false =>
    match tg, e, h with
    | [i], .Name x p, h =>
      have h : tgNames c [i] [.Name x p] = true := h
      simp only [tgNames, Bool.and_eq_true] at h
      exact ⟨_, fun X g _ => pg_of g (of_decide_eq_true h.1.1) h.1.2, fun Z1 L _ => sndg_one⟩
  | true =>
    cases e with
    | Tuple es k p =>
      have h : tgNames c tg es = true := by
        cases tg with
        | nil => exact h
        | cons i is => cases is <;> exact h
      refine ⟨gTup E.K tg.length (gNames tg), fun X g hc => ?_, fun Z1 L hK => sndg_tup hK⟩
      obtain ⟨h1, h2, h3⟩ := pgs_of g h
      rw [← g.K]
      exact pg_tup hc h1 h2 h3
    | _ => cases tg with
      | nil => cases h
      | cons i is => cases is <;> cases h
/-! ### comprehensions -/
def ownOf (c : Cn) (tg : List Nat) : List (Str × Nat) := tg.map fun i => ((c.N[i]?).getD Str.empty, i)
theorem own_snd {c : Cn} {tg : List Nat} : (ownOf c tg).map (·.2) = tg := by
  unfold ownOf
  rw [List.map_map]
  induction tg with
  | nil => rfl
  | cons i is ih => simp only [List.map_cons, ih]; rfl
def blkCn (c : Cn) (scope : Scope) : Cn := { N := c.N, sc := relS scope c.sc, hold := none, fn := fun x => scope.names.lookup x == some .cell }
theorem blk_good {c : Cn} {ad : Addr × Addr} {X : Cx} {Z1 : Ctx} (g : GoodX E c ad X Z1) (hn : c.hold = none) (scope : Scope) (s : Shared) (H : Hp) (C : Addr) (cl : List (Str × Addr)) (fp : List Addr) : GoodX E (blkCn c scope) ad (X.blk s H scope (compEnvC scope cl C X.env) fp) Z1 :=
  ⟨g.prog, g.w, g.K, g.mg, g.base, g.eK, g.zca, g.N, g.nd, by show relS scope X.env.scope = relS scope c.sc; rw [g.sc], g.un, rfl, fun _ => g.pl hn, fun i c0 h => nomatch h⟩
theorem blk_takes {X : Cx} : Takes X noX := fun u s' ⟨_, _, _, _, _, _, _, _, _, _, _, _, _, _, _, _, w⟩ => w.elim
theorem ok_lc {c : Cn} {o un : Bool} {elt it k : ME} {tg : List Nat} {e t i : Expr} {ifs : List Expr} {scope : Scope} {p : Pos} (hn : c.hold = none) (hb : blkC c.N c.sc scope (ownOf c tg) = true) (ht : tgB (blkCn c scope) tg un t = true)
    (hi : OkI E c it i) (he : OkE E (blkCn c scope) elt e) (hk : (ifs = [] ∧ isNo k = true) ∨ (∃ q, ifs = [q] ∧ isNo k = false ∧ OkT E (blkCn c scope) k q)) : OkE E c (.lc o elt tg un it k) (.ListComp e [⟨t, i, ifs, 0⟩] scope p) := by
  intro W ad
  obtain ⟨ti, hi'⟩ := hi.2 W ad
  obtain ⟨te, he'⟩ := he noX ad
  obtain ⟨gt, hg, hg2⟩ := tg_ok (E := E) ht
  obtain ⟨tt, hq⟩ : ∃ tt, ∀ X Z1, GoodX E (blkCn c scope) ad X Z1 → PTs X ifs tt ∧ ∀ L, Snd Z1 L noX kB tt (if isNo k then yesT else (sm E.cal k).t) := by
    rcases hk with ⟨h1, h2⟩ | ⟨q, h1, h2, h3⟩
    · subst h1
      refine ⟨tYes, fun X Z1 g => ⟨pts_nil, fun L => ?_⟩⟩
      rw [if_pos h2]
      exact fun B F fp g σ H Q R s => sat_b R s
    · subst h1
      obtain ⟨tt, h4⟩ := h3 noX ad
      refine ⟨tt, fun X Z1 g => ?_⟩
      obtain ⟨h5, _, h6⟩ := h4 X Z1 g blk_takes
      refine ⟨pts_one h5, fun L => ?_⟩
      rw [if_neg (by rw [h2]; exact Bool.false_ne_true)]
      exact h6 L fun _ _ h => nomatch h
  refine ⟨tLc ti gt tt te tg, fun X Z1 g tk => ?_⟩
  obtain ⟨pi, si⟩ := hi' X Z1 g tk
  obtain ⟨_, hcalm, _⟩ := g.pl hn
  refine ⟨?_, fun L hl => ?_⟩
  · have pe := pe_lc (pos := p) (own := ownOf c tg) hcalm (by rw [g.N]; exact g.nd) (pi t) (blkOk_by (by rw [g.N, g.sc]; exact hb))
      (fun s H C cl fp => hg _ (blk_good g hn scope s H C cl fp).tg hcalm)
      (fun s H C cl fp => (hq _ Z1 (blk_good g hn scope s H C cl fp)).1) (fun s H C cl fp => (he' _ Z1 (blk_good g hn scope s H C cl fp) blk_takes).1) (fun x => hi.1 X.env x)
    rw [own_snd] at pe
    exact pe
  · have := Snd.lc (o := o) (si L hl) (hg2 Z1 L g.k) ((hq _ Z1 (blk_good g hn scope X.s_0 X.H_0 0 [] [])).2 L) ((he' _ Z1 (blk_good g hn scope X.s_0 X.H_0 0 [] []) blk_takes).2 L fun _ _ h => nomatch h)
    exact this
end
end Wh

/-! Wh, part 25: the check of an expression's text. -/
namespace Wh
open PySem L2 PySem.Spec PyProof.Rows
section
variable {E : Ev}
theorem one_frz {Z : Ctx} {L : Hp} {W : WX} : One Z L W (fun x H Q => Q x H) frzR := by
  intro B F fp g σ H v r Q R cl s
  unfold frzR at s
  cases r with
  | t t =>
    simp only at s
    cases e : t.toD with
    | none => rw [e] at s; exact s.elim
    | some x =>
      rw [e] at s
      obtain ⟨pl, fq, ho, ap⟩ := cl
      have ho' : OwnAll Z L F H [v] [t] fq := ho
      cases ho' with
      | @cons _ _ _ _ f1 f2 a b =>
        cases b
        obtain ⟨le, R2, hx⟩ := R.freeze a ap.left e
        exact s v _ fp H le R2 trivial (.data hx)
  | _ => exact s.elim
theorem ok_frz {c : Cn} {a : ME} {l : Expr} (ha : OkE E c a l) : OkE E c (.frz a) l := by
  intro W ad
  obtain ⟨ta, ha'⟩ := ha W ad
  refine ⟨ta, fun X Z1 g tk => ?_⟩
  obtain ⟨pa, sa⟩ := ha' X Z1 g tk
  exact ⟨pa, fun L hl => Snd.one (r := fun x H Q => Q x H) (sa L hl) one_frz⟩
/-! ### shapes -/
def binS (k : Expr → Operator → Expr → Bool) : Expr → Bool
  | .BinOp l o r _ => k l o r
  | _ => false
theorem binS_ok {k : Expr → Operator → Expr → Bool} {e : Expr} (h : binS k e = true) : ∃ l o r p, e = .BinOp l o r p ∧ k l o r = true := by
  cases e with
  | BinOp l o r p => exact ⟨l, o, r, p, rfl, h⟩
  | _ => cases h
def unS (k : UnaryOp → Expr → Bool) : Expr → Bool
  | .UnaryOp o l _ => k o l
  | _ => false
theorem unS_ok {k : UnaryOp → Expr → Bool} {e : Expr} (h : unS k e = true) : ∃ o l p, e = .UnaryOp o l p ∧ k o l = true := by
  cases e with
  | UnaryOp o l p => exact ⟨o, l, p, rfl, h⟩
  | _ => cases h
def cmpS (k : Expr → CmpOp → Expr → Bool) : Expr → Bool
  | .Compare l [o] [r] _ => k l o r
  | _ => false
theorem cmpS_ok {k : Expr → CmpOp → Expr → Bool} {e : Expr} (h : cmpS k e = true) : ∃ l o r p, e = .Compare l [o] [r] p ∧ k l o r = true := by
  unfold cmpS at h
  split at h
  · exact ⟨_, _, _, _, rfl, h⟩
  · cases h
def chS (k : Expr → CmpOp → Expr → CmpOp → Expr → Bool) : Expr → Bool
  | .Compare l [o, o2] [r, x] _ => k l o r o2 x
  | _ => false
theorem chS_ok {k : Expr → CmpOp → Expr → CmpOp → Expr → Bool} {e : Expr} (h : chS k e = true) : ∃ l o r o2 x p, e = .Compare l [o, o2] [r, x] p ∧ k l o r o2 x = true := by
  unfold chS at h
  split at h
  · exact ⟨_, _, _, _, _, _, rfl, h⟩
  · cases h
def isNone : Expr → Bool
  | .Constant .none _ _ => true
  | _ => false
theorem isNone_ok {e : Expr} (h : isNone e = true) : ∃ j p, e = .Constant .none j p := by
  unfold isNone at h
  split at h
  · exact ⟨_, _, rfl⟩
  · cases h
/-- l op (the rest) -/
def boS (k2 : BoolOp → Expr → Expr → Bool) (k3 : BoolOp → Expr → Expr → Bool) : Expr → Bool
  | .BoolOp o [l, r] _ => k2 o l r
  | .BoolOp o (l :: r :: x :: es) p => k3 o l (.BoolOp o (r :: x :: es) p)
  | _ => false
theorem boS_ok {k2 k3 : BoolOp → Expr → Expr → Bool} {e : Expr} (h : boS k2 k3 e = true) : (∃ o l r p, e = .BoolOp o [l, r] p ∧ k2 o l r = true) ∨ ∃ o l r es p, e = .BoolOp o (l :: r :: es) p ∧ k3 o l (.BoolOp o (r :: es) p) = true := by
  unfold boS at h
  split at h
  · exact .inl ⟨_, _, _, _, rfl, h⟩
  · exact .inr ⟨_, _, _, _, _, rfl, h⟩
  · cases h
def ifS (k : Expr → Expr → Expr → Bool) : Expr → Bool
  | .IfExp x l r _ => k x l r
  | _ => false
theorem ifS_ok {k : Expr → Expr → Expr → Bool} {e : Expr} (h : ifS k e = true) : ∃ x l r p, e = .IfExp x l r p ∧ k x l r = true := by
  cases e with
  | IfExp x l r p => exact ⟨x, l, r, p, rfl, h⟩
  | _ => cases h
def tupS (k : List Expr → Bool) : Expr → Bool
  | .Tuple es _ _ => k es
  | _ => false
theorem tupS_ok {k : List Expr → Bool} {e : Expr} (h : tupS k e = true) : ∃ es j p, e = .Tuple es j p ∧ k es = true := by
  cases e with
  | Tuple es j p => exact ⟨es, j, p, rfl, h⟩
  | _ => cases h
def lstS (k : List Expr → Bool) : Expr → Bool
  | .List es _ => k es
  | _ => false
theorem lstS_ok {k : List Expr → Bool} {e : Expr} (h : lstS k e = true) : ∃ es p, e = .List es p ∧ k es = true := by
  cases e with
  | List es p => exact ⟨es, p, rfl, h⟩
  | _ => cases h
def subS (k : Expr → Expr → Bool) : Expr → Bool
  | .Subscript l r _ => k l r
  | _ => false
theorem subS_ok {k : Expr → Expr → Bool} {e : Expr} (h : subS k e = true) : ∃ l r p, e = .Subscript l r p ∧ k l r = true := by
  cases e with
  | Subscript l r p => exact ⟨l, r, p, rfl, h⟩
  | _ => cases h
def dicS (k : List (Option Expr) → List Expr → Bool) : Expr → Bool
  | .Dict ks vs _ => k ks vs
  | _ => false
theorem dicS_ok {k : List (Option Expr) → List Expr → Bool} {e : Expr} (h : dicS k e = true) : ∃ ks vs p, e = .Dict ks vs p ∧ k ks vs = true := by
  cases e with
  | Dict l r p => exact ⟨l, r, p, rfl, h⟩
  | _ => cases h
def slS (k : Option Expr → Option Expr → Bool) : Expr → Bool
  | .Slice a b none _ => k a b
  | _ => false
theorem slS_ok {k : Option Expr → Option Expr → Bool} {e : Expr} (h : slS k e = true) : ∃ a b p, e = .Slice a b none p ∧ k a b = true := by
  unfold slS at h
  split at h
  · exact ⟨_, _, _, rfl, h⟩
  · cases h
def callS (k : Str → List Expr → Bool) : Expr → Bool
  | .Call (.Name x _) es [] _ => k x es
  | _ => false
theorem callS_ok {k : Str → List Expr → Bool} {e : Expr} (h : callS k e = true) : ∃ x p es pos, e = .Call (.Name x p) es [] pos ∧ k x es = true := by
  unfold callS at h
  split at h
  · exact ⟨_, _, _, _, rfl, h⟩
  · cases h
def metS (k : Expr → Str → List Expr → Bool) : Expr → Bool
  | .Call (.Attribute l m p) es [] pos => (p.endLine == pos.line) && k l m es
  | _ => false
theorem metS_ok {k : Expr → Str → List Expr → Bool} {e : Expr} (h : metS k e = true) : ∃ l m p es pos, e = .Call (.Attribute l m p) es [] pos ∧ (p.endLine == pos.line) = true ∧ k l m es = true := by
  unfold metS at h
  split at h
  · rw [Bool.and_eq_true] at h
    exact ⟨_, _, _, _, _, rfl, h.1, h.2⟩
  · cases h
def one1 (k : Expr → Bool) : List Expr → Bool
  | [e] => k e
  | _ => false
theorem one1_ok {k : Expr → Bool} {es : List Expr} (h : one1 k es = true) : ∃ e, es = [e] ∧ k e = true := by
  unfold one1 at h
  split at h
  · exact ⟨_, rfl, h⟩
  · cases h
def two2 (k : Expr → Expr → Bool) : List Expr → Bool
  | [e, f] => k e f
  | _ => false
theorem two2_ok {k : Expr → Expr → Bool} {es : List Expr} (h : two2 k es = true) : ∃ e f, es = [e, f] ∧ k e f = true := by
  unfold two2 at h
  split at h
  · exact ⟨_, _, rfl, h⟩
  · cases h
def nmS (k : Str → Bool) : Expr → Bool
  | .Name x _ => k x
  | _ => false
theorem nmS_ok {k : Str → Bool} {e : Expr} (h : nmS k e = true) : ∃ x p, e = .Name x p ∧ k x = true := by
  cases e with
  | Name x p => exact ⟨x, p, rfl, h⟩
  | _ => cases h
def attS (k : Expr → Str → Bool) : Expr → Bool
  | .Attribute l f _ => k l f
  | _ => false
theorem attS_ok {k : Expr → Str → Bool} {e : Expr} (h : attS k e = true) : ∃ l f p, e = .Attribute l f p ∧ k l f = true := by
  cases e with
  | Attribute l f p => exact ⟨l, f, p, rfl, h⟩
  | _ => cases h
def lcS (k : Expr → Expr → Expr → List Expr → Scope → Bool) : Expr → Bool
  | .ListComp e [⟨t, i, ifs, a⟩] sc _ => (a == 0) && k e t i ifs sc
  | _ => false
theorem lcS_ok {k : Expr → Expr → Expr → List Expr → Scope → Bool} {e : Expr} (h : lcS k e = true) : ∃ x t i ifs sc p, e = .ListComp x [⟨t, i, ifs, 0⟩] sc p ∧ k x t i ifs sc = true := by
  unfold lcS at h
  split at h
  · rw [Bool.and_eq_true] at h
    have := eq_of_beq h.1
    subst this
    exact ⟨_, _, _, _, _, _, rfl, h.2⟩
  · cases h
def ifsS (z : Bool) (k : Expr → Bool) : List Expr → Bool
  | [] => z
  | [q] => !z && k q
  | _ => false
theorem ifsS_ok {z : Bool} {k : Expr → Bool} {es : List Expr} (h : ifsS z k es = true) : (es = [] ∧ z = true) ∨ ∃ q, es = [q] ∧ z = false ∧ k q = true := by
  unfold ifsS at h
  split at h
  · exact .inl ⟨rfl, h⟩
  · simp only [Bool.and_eq_true, Bool.not_eq_true'] at h
    exact .inr ⟨_, rfl, h.1, h.2⟩
  · cases h
def noH (c : Cn) : Bool := match c.hold with
  | none => true
  | some _ => false
theorem noH_ok {c : Cn} (h : noH c = true) : c.hold = none := by
  unfold noH at h
  split at h
  · assumption
  · cases h
def tyB : TyK → Str → Bool
  | .int, x => decide (x = "int") | .bool, x => decide (x = "bool") | .str, x => decide (x = "str") | .tuple, x => decide (x = "tuple") | .list, x => decide (x = "list")
  | _, _ => false
theorem tyB_ok {k : TyK} {x : Str} (h : tyB k x = true) : ∃ n, kN k = some n ∧ x ∈ bltN ∧ bootBuiltins x = some (.type n) := by
  cases k with
  | int => have := of_decide_eq_true (show decide (x = "int") = true from h); subst this; exact ⟨_, rfl, of_decide_eq_true (by decide +kernel), boot_int⟩
  | bool => have := of_decide_eq_true (show decide (x = "bool") = true from h); subst this; exact ⟨_, rfl, of_decide_eq_true (by decide +kernel), boot_bool⟩
  | str => have := of_decide_eq_true (show decide (x = "str") = true from h); subst this; exact ⟨_, rfl, of_decide_eq_true (by decide +kernel), boot_str⟩
  | tuple => have := of_decide_eq_true (show decide (x = "tuple") = true from h); subst this; exact ⟨_, rfl, of_decide_eq_true (by decide +kernel), boot_tuple⟩
  | list => have := of_decide_eq_true (show decide (x = "list") = true from h); subst this; exact ⟨_, rfl, of_decide_eq_true (by decide +kernel), boot_list⟩
  | cls _ => cases h
end
end Wh

/-! Wh, part 26: the check of an expression's text, and that it is right. -/
namespace Wh
open PySem L2 PySem.Spec PyProof.Rows
def bopO : BOp → Operator → Bool
  | .add, .Add => true | .sub, .Sub => true | .mul, .Mult => true | .div, .FloorDiv => true | .mod, .Mod => true | .pow, .Pow => true
  | _, _ => false
def copO : COp → CmpOp → Bool
  | .eq, .Eq => true | .ne, .NotEq => true | .lt, .Lt => true | .le, .LtE => true | .gt, .Gt => true | .ge, .GtE => true | .isin, .In => true | .notin, .NotIn => true
  | _, _ => false
def chO : COp → CmpOp → Bool
  | .lt, .Lt => true | .le, .LtE => true
  | _, _ => false
def isO : CmpOp → Bool
  | .Is => true
  | _ => false
def isnO : CmpOp → Bool
  | .IsNot => true
  | _ => false
def andO : BoolOp → Bool
  | .And => true
  | _ => false
def orO : BoolOp → Bool
  | .Or => true
  | _ => false
def notO : UnaryOp → Bool
  | .Not => true
  | _ => false
def negO : UnaryOp → Bool
  | .USub => true
  | _ => false
structure Ck where
  v : Cn → Expr → Bool
  t : Cn → Expr → Bool
  i : Cn → Expr → Bool
  o : Cn → Option Expr → Bool
def noC : Cn → Expr → Bool := fun _ _ => false
def noCO : Cn → Option Expr → Bool := fun _ _ => false
def mkC2 (v t : Cn → Expr → Bool) : Ck := ⟨v, t, fun c e => noSet e && v c e, fun c o => match o with
  | some e => v c e
  | none => false⟩
def mkC (v : Cn → Expr → Bool) : Ck := mkC2 v fun c e => plainT e && v c e
def hasC (G : Gs) (c0 : Nat) : Bool := G.cls.any fun y => decide (G.cls.lookup y.1 = some c0)
mutual
def chk (G : Gs) : ME → Ck
  | .var i => mkC fun c e => nameB c i e
  | .ref i => mkC fun c e => nameB c i e
  | .mv i => mkC fun c e => nameB c i e
  | .fz i => mkC fun c e => nameB c i e
  | .cst x => mkC fun c e => cstB x e
  | .glb x => mkC fun c e => nmS (fun n => glB c n && noH c && (match G.cst.lookup n with
      | some d => sameD d x
      | none => false)) e
  | .bin op o a b => mkC fun c e => binS (fun l op' r => bopO op op' && (chk G a).v c l && (chk G b).v c r) e
  | .neg a => mkC fun c e => unS (fun o l => negO o && (chk G a).v c l) e
  | .cmp op a b =>
      let v := fun c e => cmpS (fun l op' r => copO op op' && noSet r && (chk G a).v c l && (chk G b).v c r) e
      mkC2 v v
  | .chain o1 o2 a b d =>
      let v := fun c e => chS (fun l p r p2 x => chO o1 p && chO o2 p2 && noSet x && (chk G a).v c l && (chk G b).v c r && (chk G d).v c x) e
      mkC2 v v
  | .isN a =>
      let v := fun c e => cmpS (fun l o r => isO o && isNone r && (chk G a).v c l) e
      mkC2 v v
  | .notN a =>
      let v := fun c e => cmpS (fun l o r => isnO o && isNone r && (chk G a).v c l) e
      mkC2 v v
  | .and a b => ⟨fun c e => boS (fun o l r => andO o && (chk G a).v c l && (chk G b).v c r) (fun o l r => andO o && (chk G a).v c l && (chk G b).v c r) e,
      fun c e => boS (fun o l r => andO o && (chk G a).t c l && (chk G b).t c r) (fun o l r => andO o && (chk G a).t c l && (chk G b).t c r) e, noC, noCO⟩
  | .or a b => ⟨fun c e => boS (fun o l r => orO o && (chk G a).v c l && (chk G b).v c r) (fun o l r => orO o && (chk G a).v c l && (chk G b).v c r) e,
      fun c e => boS (fun o l r => orO o && (chk G a).t c l && (chk G b).t c r) (fun o l r => orO o && (chk G a).t c l && (chk G b).t c r) e, noC, noCO⟩
  | .not a => ⟨fun c e => unS (fun o l => notO o && (chk G a).v c l) e, fun c e => unS (fun o l => notO o && (chk G a).t c l) e, noC, noCO⟩
  | .ite k a b =>
      let v := fun c e => ifS (fun x l r => (chk G k).t c x && (chk G a).v c l && (chk G b).v c r) e
      ⟨v, noC, fun c e => noSet e && v c e, noCO⟩
  | .tup o es => mkC fun c e => tupS (fun l => chks G es c l) e
  | .lst o es => mkC fun c e => lstS (fun l => chks G es c l) e
  | .dis o ks es => mkC fun c e => dicS (fun keys vs => keysB ks keys && decide ks.Nodup && !ks.isEmpty && decide (ks.length ≤ 15) && decide (ks.length = vs.length) && chks G es c vs) e
  | .idx a b => mkC fun c e => subS (fun l r => noSlice r && (chk G a).v c l && (chk G b).v c r) e
  | .sl o a lo hi => mkC fun c e => subS (fun l r => (chk G a).v c l && slS (fun x y => (chk G lo).o c x && (chk G hi).o c y) r) e
  | .no => ⟨noC, noC, noC, fun c o => match o with
      | none => true
      | some _ => false⟩
  | .att _ _ _ => ⟨noC, noC, noC, noCO⟩
  | .dix a b => mkC fun c e => subS (fun l r => noSlice r && (chk G a).v c l && (chk G b).v c r) e
  | .dget _ _ _ => ⟨noC, noC, noC, noCO⟩
  | .din _ _ _ => ⟨noC, noC, noC, noCO⟩
  | .isi a k => mkC fun c e => callS (fun x es => decide (x = "isinstance") && glB c x && two2 (fun l y => nmS (fun y => tyB k y && glB c y) y && noStar l && (chk G a).v c l) es) e
  | .call f es => mkC fun c e => callS (fun x l => glB c x && noH c && decide (G.fns.lookup x = some f) && chks G es c l) e
  | .meth _ _ _ => ⟨noC, noC, noC, noCO⟩
  | .mk _ _ _ => ⟨noC, noC, noC, noCO⟩
  | .bi b o es => mkC fun c e => callS (fun x l => decide (biN b = some x) && glB c x && noH c && !l.isEmpty && chks G es c l) e
  | .app a b => mkC fun c e => metS (fun l m es => decide (m = "append") && noSup l && (chk G a).v c l && one1 (fun r => noStar r && (chk G b).v c r) es) e
  | .pop a => mkC fun c e => metS (fun l m es => decide (m = "pop") && noSup l && (chk G a).v c l && es.isEmpty) e
  | .popi a b => mkC fun c e => metS (fun l m es => decide (m = "pop") && noSup l && (chk G a).v c l && one1 (fun r => noStar r && (chk G b).v c r) es) e
  | .lc o elt tg un it k => mkC fun c e => lcS (fun x t i ifs sc => noH c && blkC c.N c.sc sc (ownOf c tg) && tgB (blkCn c sc) tg un t && (chk G it).i c i && (chk G elt).v (blkCn c sc) x && ifsS (isNo k) (fun q => (chk G k).t (blkCn c sc) q) ifs) e
  | .rng1 a => ⟨noC, noC, fun c e => callS (fun x es => decide (x = "range") && glB c x && one1 (fun l => noStar l && (chk G a).v c l) es) e, noCO⟩
  | .rng2 a b => ⟨noC, noC, fun c e => callS (fun x es => decide (x = "range") && glB c x && two2 (fun l r => noStar l && noStar r && (chk G a).v c l && (chk G b).v c r) es) e, noCO⟩
  | .frz a => mkC fun c e => (chk G a).v c e
  | .xfld i f => mkC fun c e => attS (fun l f' => decide (f = f') && nameB c i l && decide (f ∈ G.flds) && (match c.hold with
      | some (j, c0) => decide (i = j) && hasC G c0
      | none => false)) e
  | .xis i c1 c0 => mkC fun c e => callS (fun x es => decide (x = "isinstance") && glB c x && two2 (fun l y => nameB c i l && nmS (fun y => glB c y && decide (G.cls.lookup y = some c1)) y) es && decide (c.hold = some (i, c0)) && hasC G c0) e
  | .tupl a => mkC fun c e => callS (fun x es => decide (x = "tuple") && glB c x && one1 (fun l => noStar l && (chk G a).v c l) es) e
  | .lrg1 o a => mkC fun c e => callS (fun x es => decide (x = "list") && glB c x && noH c && one1 (fun e => callS (fun y es => decide (y = "range") && glB c y && one1 (fun l => noStar l && (chk G a).v c l) es) e) es) e
  | .lrg2 o a b => mkC fun c e => callS (fun x es => decide (x = "list") && glB c x && noH c && one1 (fun e => callS (fun y es => decide (y = "range") && glB c y && two2 (fun l r => noStar l && noStar r && (chk G a).v c l && (chk G b).v c r) es) e) es) e
  | .xvb i => mkC fun c e => callS (fun x es => decide (x = "isinstance") && glB c x && two2 (fun l y => nameB c i l && nmS (fun y => decide (y = "ValueError") && glB c y) y) es && (match c.hold with
      | some (j, c0) => decide (i = j) && hasC G c0
      | none => false)) e
def chks (G : Gs) : MEs → Cn → List Expr → Bool
  | .nil, _, l => l.isEmpty
  | .cons m ms, c, l => match l with
    | e :: es => noStar e && (chk G m).v c e && chks G ms c es
    | [] => false
end
section
variable {E : Ev}
structure CkOk (E : Ev) (m : ME) (k : Ck) : Prop where
  v : ∀ c e, k.v c e = true → OkE E c m e
  t : ∀ c e, k.t c e = true → OkT E c m e
  i : ∀ c e, k.i c e = true → OkI E c m e
  o : ∀ c e, k.o c e = true → OkO E c m e
theorem mk2_ok {m : ME} {v t : Cn → Expr → Bool} {f : G → Out R} (hm : sm E.cal m = mkS f) (hv : ∀ c e, v c e = true → OkE E c m e) (ht : ∀ c e, t c e = true → OkT E c m e) : CkOk E m (mkC2 v t) where
  v := hv
  t := ht
  i := fun c e h => by
    have h : (noSet e && v c e) = true := h
    rw [Bool.and_eq_true] at h
    exact ok_seq h.1 (by rw [hm]; rfl) (hv c e h.2)
  o := fun c e h => by
    cases e with
    | none => cases h
    | some e => exact ok_someO (by rw [hm]; rfl) (hv c e h)
theorem mk_ok {m : ME} {v : Cn → Expr → Bool} {f : G → Out R} (hm : sm E.cal m = mkS f) (hv : ∀ c e, v c e = true → OkE E c m e) : CkOk E m (mkC v) :=
  mk2_ok hm hv fun c e h => by
    rw [Bool.and_eq_true] at h
    exact ok_truth h.1 (by rw [hm]; rfl) (hv c e h.2)
theorem no_ok {m : ME} : CkOk E m ⟨noC, noC, noC, noCO⟩ := ⟨(fun _ _ h => nomatch h), (fun _ _ h => nomatch h), (fun _ _ h => nomatch h), (fun _ _ h => nomatch h)⟩
theorem hasC_ok {G : Gs} {c0 : Nat} (h : hasC G c0 = true) : ∃ x, G.cls.lookup x = some c0 := by
  obtain ⟨y, _, hy⟩ := List.any_eq_true.mp h
  exact ⟨y.1, of_decide_eq_true hy⟩
theorem and2 {a b : Bool} (h : (a && b) = true) : a = true ∧ b = true := (Bool.and_eq_true _ _).mp h
mutual
theorem chk_ok (ok : EvOk E) : ∀ m : ME, CkOk E m (chk E.G m)
  | .var i => mk_ok rfl fun c e h => ok_var h
  | .ref i => mk_ok rfl fun c e h => ok_ref h
  | .mv i => mk_ok rfl fun c e h => ok_mv h
  | .fz i => mk_ok rfl fun c e h => ok_fz h
  | .cst x => mk_ok rfl fun c e h => ok_cst h
  | .glb x => mk_ok rfl fun c e h => by
    obtain ⟨n, p, rfl, h⟩ := nmS_ok h
    obtain ⟨h, h3⟩ := and2 h
    obtain ⟨h1, h2⟩ := and2 h
    cases e : E.G.cst.lookup n with
    | none => rw [e] at h3; cases h3
    | some d => rw [e] at h3; exact ok_glb ok h1 e h3 (noH_ok h2)
  | .bin op o a b => mk_ok rfl fun c e h => by
    obtain ⟨l, op', r, p, rfl, h⟩ := binS_ok h
    obtain ⟨h, hb⟩ := and2 h
    obtain ⟨h, ha⟩ := and2 h
    have A := (chk_ok ok a).v c l ha
    have B := (chk_ok ok b).v c r hb
    cases op with
    | add => cases op' with
      | Add => exact ok_add A B
      | _ => cases h
    | sub => cases op' with
      | Sub => exact ok_sub A B
      | _ => cases h
    | mul => cases op' with
      | Mult => exact ok_mul A B
      | _ => cases h
    | div => cases op' with
      | FloorDiv => exact ok_div A B
      | _ => cases h
    | mod => cases op' with
      | Mod => exact ok_mod A B
      | _ => cases h
    | pow => cases op' with
      | Pow => exact ok_pow A B
      | _ => cases h
  | .neg a => mk_ok rfl fun c e h => by
    obtain ⟨o, l, p, rfl, h⟩ := unS_ok h
    obtain ⟨h, ha⟩ := and2 h
    cases o with
    | USub => exact ok_neg ((chk_ok ok a).v c l ha)
    | _ => cases h
  | .cmp op a b => mk2_ok rfl (fun c e h => by
    obtain ⟨l, op', r, p, rfl, h⟩ := cmpS_ok h
    obtain ⟨h, hb⟩ := and2 h
    obtain ⟨h, ha⟩ := and2 h
    obtain ⟨h, hs⟩ := and2 h
    have A := (chk_ok ok a).v c l ha
    have B := (chk_ok ok b).v c r hb
    cases op with
    | eq => cases op' with
      | Eq => exact ok_eq hs A B
      | _ => cases h
    | ne => cases op' with
      | NotEq => exact ok_ne hs A B
      | _ => cases h
    | lt => cases op' with
      | Lt => exact ok_lt hs A B
      | _ => cases h
    | le => cases op' with
      | LtE => exact ok_le hs A B
      | _ => cases h
    | gt => cases op' with
      | Gt => exact ok_gt hs A B
      | _ => cases h
    | ge => cases op' with
      | GtE => exact ok_ge hs A B
      | _ => cases h
    | isin => cases op' with
      | In => exact ok_isin hs A B
      | _ => cases h
    | notin => cases op' with
      | NotIn => exact ok_notin hs A B
      | _ => cases h
    ) fun c e h => by
    obtain ⟨l, op', r, p, rfl, h⟩ := cmpS_ok h
    obtain ⟨h, hb⟩ := and2 h
    obtain ⟨h, ha⟩ := and2 h
    obtain ⟨h, hs⟩ := and2 h
    have A := (chk_ok ok a).v c l ha
    have B := (chk_ok ok b).v c r hb
    cases op with
    | eq => cases op' with
      | Eq => exact ok_eqT hs A B
      | _ => cases h
    | ne => cases op' with
      | NotEq => exact ok_neT hs A B
      | _ => cases h
    | lt => cases op' with
      | Lt => exact ok_ltT hs A B
      | _ => cases h
    | le => cases op' with
      | LtE => exact ok_leT hs A B
      | _ => cases h
    | gt => cases op' with
      | Gt => exact ok_gtT hs A B
      | _ => cases h
    | ge => cases op' with
      | GtE => exact ok_geT hs A B
      | _ => cases h
    | isin => cases op' with
      | In => exact ok_isinT hs A B
      | _ => cases h
    | notin => cases op' with
      | NotIn => exact ok_notinT hs A B
      | _ => cases h
  | .chain o1 o2 a b d => mk2_ok rfl (fun c e h => by
    obtain ⟨l, p1, r, p2, x, p, rfl, h⟩ := chS_ok h
    obtain ⟨h, hd⟩ := and2 h
    obtain ⟨h, hb⟩ := and2 h
    obtain ⟨h, ha⟩ := and2 h
    obtain ⟨h, hs⟩ := and2 h
    obtain ⟨h1, h2⟩ := and2 h
    have A := (chk_ok ok a).v c l ha
    have B := (chk_ok ok b).v c r hb
    have D := (chk_ok ok d).v c x hd
    cases o1 with
    | lt => cases p1 with
      | Lt => cases o2 with
        | lt => cases p2 with
          | Lt => exact ok_ch_lt_lt hs A B D
          | _ => cases h2
        | le => cases p2 with
          | LtE => exact ok_ch_lt_le hs A B D
          | _ => cases h2
        | _ => cases h2
      | _ => cases h1
    | le => cases p1 with
      | LtE => cases o2 with
        | lt => cases p2 with
          | Lt => exact ok_ch_le_lt hs A B D
          | _ => cases h2
        | le => cases p2 with
          | LtE => exact ok_ch_le_le hs A B D
          | _ => cases h2
        | _ => cases h2
      | _ => cases h1
    | _ => cases h1
    ) fun c e h => by
    obtain ⟨l, p1, r, p2, x, p, rfl, h⟩ := chS_ok h
    obtain ⟨h, hd⟩ := and2 h
    obtain ⟨h, hb⟩ := and2 h
    obtain ⟨h, ha⟩ := and2 h
    obtain ⟨h, hs⟩ := and2 h
    obtain ⟨h1, h2⟩ := and2 h
    have A := (chk_ok ok a).v c l ha
    have B := (chk_ok ok b).v c r hb
    have D := (chk_ok ok d).v c x hd
    cases o1 with
    | lt => cases p1 with
      | Lt => cases o2 with
        | lt => cases p2 with
          | Lt => exact ok_ch_lt_ltT hs A B D
          | _ => cases h2
        | le => cases p2 with
          | LtE => exact ok_ch_lt_leT hs A B D
          | _ => cases h2
        | _ => cases h2
      | _ => cases h1
    | le => cases p1 with
      | LtE => cases o2 with
        | lt => cases p2 with
          | Lt => exact ok_ch_le_ltT hs A B D
          | _ => cases h2
        | le => cases p2 with
          | LtE => exact ok_ch_le_leT hs A B D
          | _ => cases h2
        | _ => cases h2
      | _ => cases h1
    | _ => cases h1
  | .isN a => mk2_ok rfl (fun c e h => by
    obtain ⟨l, o, r, p, rfl, h⟩ := cmpS_ok h
    obtain ⟨h, ha⟩ := and2 h
    obtain ⟨h, hr⟩ := and2 h
    obtain ⟨j, q, rfl⟩ := isNone_ok hr
    cases o with
    | Is => exact ok_isN ((chk_ok ok a).v c l ha)
    | _ => cases h
    ) fun c e h => by
    obtain ⟨l, o, r, p, rfl, h⟩ := cmpS_ok h
    obtain ⟨h, ha⟩ := and2 h
    obtain ⟨h, hr⟩ := and2 h
    obtain ⟨j, q, rfl⟩ := isNone_ok hr
    cases o with
    | Is => exact ok_isNT ((chk_ok ok a).v c l ha)
    | _ => cases h
  | .notN a => mk2_ok rfl (fun c e h => by
    obtain ⟨l, o, r, p, rfl, h⟩ := cmpS_ok h
    obtain ⟨h, ha⟩ := and2 h
    obtain ⟨h, hr⟩ := and2 h
    obtain ⟨j, q, rfl⟩ := isNone_ok hr
    cases o with
    | IsNot => exact ok_notN ((chk_ok ok a).v c l ha)
    | _ => cases h
    ) fun c e h => by
    obtain ⟨l, o, r, p, rfl, h⟩ := cmpS_ok h
    obtain ⟨h, ha⟩ := and2 h
    obtain ⟨h, hr⟩ := and2 h
    obtain ⟨j, q, rfl⟩ := isNone_ok hr
    cases o with
    | IsNot => exact ok_notNT ((chk_ok ok a).v c l ha)
    | _ => cases h
  | .and a b => ⟨(fun c e h => by
    rw [chk] at h
    dsimp only at h
    rcases boS_ok h with ⟨o, l, r, p, rfl, k0⟩ | ⟨o, l, r, es, p, rfl, k0⟩
    · obtain ⟨k0, hb⟩ := and2 k0
      obtain ⟨k0, ha⟩ := and2 k0
      clear h
      cases o with
      | And => exact ok_and2 ((chk_ok ok a).v c _ ha) ((chk_ok ok b).v c _ hb)
      | _ => cases k0
    · obtain ⟨k0, hb⟩ := and2 k0
      obtain ⟨k0, ha⟩ := and2 k0
      clear h
      cases o with
      | And => exact ok_and3 ((chk_ok ok a).v c _ ha) ((chk_ok ok b).v c _ hb)
      | _ => cases k0
    ), (fun c e h => by
    rw [chk] at h
    dsimp only at h
    rcases boS_ok h with ⟨o, l, r, p, rfl, k0⟩ | ⟨o, l, r, es, p, rfl, k0⟩
    · obtain ⟨k0, hb⟩ := and2 k0
      obtain ⟨k0, ha⟩ := and2 k0
      clear h
      cases o with
      | And => exact ok_and2T ((chk_ok ok a).t c _ ha) ((chk_ok ok b).t c _ hb)
      | _ => cases k0
    · obtain ⟨k0, hb⟩ := and2 k0
      obtain ⟨k0, ha⟩ := and2 k0
      clear h
      cases o with
      | And => exact ok_and3T ((chk_ok ok a).t c _ ha) ((chk_ok ok b).t c _ hb)
      | _ => cases k0
    ), (fun _ _ h => nomatch h), (fun _ _ h => nomatch h)⟩
  | .or a b => ⟨(fun c e h => by
    rw [chk] at h
    dsimp only at h
    rcases boS_ok h with ⟨o, l, r, p, rfl, k0⟩ | ⟨o, l, r, es, p, rfl, k0⟩
    · obtain ⟨k0, hb⟩ := and2 k0
      obtain ⟨k0, ha⟩ := and2 k0
      clear h
      cases o with
      | Or => exact ok_or2 ((chk_ok ok a).v c _ ha) ((chk_ok ok b).v c _ hb)
      | _ => cases k0
    · obtain ⟨k0, hb⟩ := and2 k0
      obtain ⟨k0, ha⟩ := and2 k0
      clear h
      cases o with
      | Or => exact ok_or3 ((chk_ok ok a).v c _ ha) ((chk_ok ok b).v c _ hb)
      | _ => cases k0
    ), (fun c e h => by
    rw [chk] at h
    dsimp only at h
    rcases boS_ok h with ⟨o, l, r, p, rfl, k0⟩ | ⟨o, l, r, es, p, rfl, k0⟩
    · obtain ⟨k0, hb⟩ := and2 k0
      obtain ⟨k0, ha⟩ := and2 k0
      clear h
      cases o with
      | Or => exact ok_or2T ((chk_ok ok a).t c _ ha) ((chk_ok ok b).t c _ hb)
      | _ => cases k0
    · obtain ⟨k0, hb⟩ := and2 k0
      obtain ⟨k0, ha⟩ := and2 k0
      clear h
      cases o with
      | Or => exact ok_or3T ((chk_ok ok a).t c _ ha) ((chk_ok ok b).t c _ hb)
      | _ => cases k0
    ), (fun _ _ h => nomatch h), (fun _ _ h => nomatch h)⟩
  | .not a => ⟨(fun c e h => by
    rw [chk] at h
    dsimp only at h
    obtain ⟨o, l, p, rfl, h⟩ := unS_ok h
    obtain ⟨h, ha⟩ := and2 h
    cases o with
    | Not => exact ok_not ((chk_ok ok a).v c l ha)
    | _ => cases h
    ), (fun c e h => by
    rw [chk] at h
    dsimp only at h
    obtain ⟨o, l, p, rfl, h⟩ := unS_ok h
    obtain ⟨h, ha⟩ := and2 h
    cases o with
    | Not => exact ok_notT ((chk_ok ok a).t c l ha)
    | _ => cases h
    ), (fun _ _ h => nomatch h), (fun _ _ h => nomatch h)⟩
  | .ite k a b => by
    have key : ∀ c e, ifS (fun x l r => (chk E.G k).t c x && (chk E.G a).v c l && (chk E.G b).v c r) e = true → OkE E c (.ite k a b) e := fun c e h => by
      obtain ⟨x, l, r, p, rfl, h⟩ := ifS_ok h
      obtain ⟨h, hb⟩ := and2 h
      obtain ⟨hk, ha⟩ := and2 h
      exact ok_ite ((chk_ok ok k).t c x hk) ((chk_ok ok a).v c l ha) ((chk_ok ok b).v c r hb)
    exact ⟨key, (fun _ _ h => nomatch h), (fun c e h => ok_seq (and2 h).1 rfl (key c e (and2 h).2)), (fun _ _ h => nomatch h)⟩
  | .tup o es => mk_ok rfl fun c e h => by
    obtain ⟨l, j, p, rfl, h⟩ := tupS_ok h
    exact ok_tup (chks_ok ok es c l h)
  | .lst o es => mk_ok rfl fun c e h => by
    obtain ⟨l, p, rfl, h⟩ := lstS_ok h
    exact ok_lst (chks_ok ok es c l h)
  | .dis o ks es => mk_ok rfl fun c e h => by
    obtain ⟨keys, vs, p, rfl, h⟩ := dicS_ok h
    obtain ⟨h, h6⟩ := and2 h
    obtain ⟨h, h5⟩ := and2 h
    obtain ⟨h, h4⟩ := and2 h
    obtain ⟨h, h3⟩ := and2 h
    obtain ⟨h1, h2⟩ := and2 h
    refine ok_dis h1 (of_decide_eq_true h2) (fun e => ?_) (of_decide_eq_true h4) (of_decide_eq_true h5) (chkd_ok ok es c vs h6)
    subst e; cases h3
  | .idx a b => mk_ok rfl fun c e h => by
    obtain ⟨l, r, p, rfl, h⟩ := subS_ok h
    obtain ⟨h, hb⟩ := and2 h
    obtain ⟨hs, ha⟩ := and2 h
    exact ok_idx hs ((chk_ok ok a).v c l ha) ((chk_ok ok b).v c r hb)
  | .dix a b => mk_ok rfl fun c e h => by
    obtain ⟨l, r, p, rfl, h⟩ := subS_ok h
    obtain ⟨h, hb⟩ := and2 h
    obtain ⟨hs, ha⟩ := and2 h
    exact ok_dix hs ((chk_ok ok a).v c l ha) ((chk_ok ok b).v c r hb)
  | .sl o a lo hi => mk_ok rfl fun c e h => by
    obtain ⟨l, r, p, rfl, h⟩ := subS_ok h
    obtain ⟨ha, h⟩ := and2 h
    obtain ⟨x, y, p2, rfl, k0⟩ := slS_ok h
    obtain ⟨h1, h2⟩ := and2 k0
    exact ok_sl ((chk_ok ok a).v c l ha) ((chk_ok ok lo).o c x h1) ((chk_ok ok hi).o c y h2)
  | .no => ⟨(fun _ _ h => nomatch h), (fun _ _ h => nomatch h), (fun _ _ h => nomatch h), (fun c e h => by
    cases e with
    | none => exact ok_noO
    | some e => cases h)⟩
  | .att _ _ _ => no_ok
  | .dget _ _ _ => no_ok
  | .din _ _ _ => no_ok
  | .meth _ _ _ => no_ok
  | .mk _ _ _ => no_ok
  | .isi a k => mk_ok rfl fun c e h => by
    obtain ⟨x, p, es, pos, rfl, h⟩ := callS_ok h
    obtain ⟨h, h3⟩ := and2 h
    obtain ⟨h1, h2⟩ := and2 h
    have hx := of_decide_eq_true h1
    subst hx
    obtain ⟨l, y, rfl, k0⟩ := two2_ok h3
    obtain ⟨k0, ha⟩ := and2 k0
    obtain ⟨k0, hs⟩ := and2 k0
    obtain ⟨y, q, rfl, k1⟩ := nmS_ok k0
    obtain ⟨h4, h5⟩ := and2 k1
    obtain ⟨n, h6, h7, h8⟩ := tyB_ok h4
    exact ok_isi ok h6 h7 h8 h2 h5 hs ((chk_ok ok a).v c l ha)
  | .call f es => mk_ok rfl fun c e h => by
    obtain ⟨x, p, l, pos, rfl, h⟩ := callS_ok h
    obtain ⟨h, hl⟩ := and2 h
    obtain ⟨h, h3⟩ := and2 h
    obtain ⟨h1, h2⟩ := and2 h
    cases l with
    | nil =>
      cases es with
      | nil => exact ok_call0 ok h1 (noH_ok h2) (of_decide_eq_true h3)
      | cons _ _ => cases hl
    | cons y ys => exact ok_call ok h1 (noH_ok h2) (of_decide_eq_true h3) (chks_ok ok es c _ hl)
  | .bi b o es => mk_ok rfl fun c e h => by
    obtain ⟨x, p, l, pos, rfl, h⟩ := callS_ok h
    obtain ⟨h, hl⟩ := and2 h
    obtain ⟨h, h4⟩ := and2 h
    obtain ⟨h, h3⟩ := and2 h
    obtain ⟨h1, h2⟩ := and2 h
    cases l with
    | nil => cases h4
    | cons y ys => exact ok_bi ok (of_decide_eq_true h1) h2 (noH_ok h3) (chks_ok ok es c _ hl)
  | .app a b => mk_ok rfl fun c e h => by
    obtain ⟨l, m, p, es, pos, rfl, hp, h⟩ := metS_ok h
    obtain ⟨h, h3⟩ := and2 h
    obtain ⟨h, ha⟩ := and2 h
    obtain ⟨h1, h2⟩ := and2 h
    have hm := of_decide_eq_true h1
    subst hm
    obtain ⟨r, rfl, k0⟩ := one1_ok h3
    obtain ⟨h4, hb⟩ := and2 k0
    exact ok_app h2 h4 hp ((chk_ok ok a).v c l ha) ((chk_ok ok b).v c r hb)
  | .popi a b => mk_ok rfl fun c e h => by
    obtain ⟨l, m, p, es, pos, rfl, hp, h⟩ := metS_ok h
    obtain ⟨h, h3⟩ := and2 h
    obtain ⟨h, ha⟩ := and2 h
    obtain ⟨h1, h2⟩ := and2 h
    have hm := of_decide_eq_true h1
    subst hm
    obtain ⟨r, rfl, k0⟩ := one1_ok h3
    obtain ⟨h4, hb⟩ := and2 k0
    exact ok_popi h2 h4 hp ((chk_ok ok a).v c l ha) ((chk_ok ok b).v c r hb)
  | .pop a => mk_ok rfl fun c e h => by
    obtain ⟨l, m, p, es, pos, rfl, hp, h⟩ := metS_ok h
    obtain ⟨h, h3⟩ := and2 h
    obtain ⟨h, ha⟩ := and2 h
    obtain ⟨h1, h2⟩ := and2 h
    have hm := of_decide_eq_true h1
    subst hm
    have he := List.isEmpty_iff.mp h3
    subst he
    exact ok_pop h2 hp ((chk_ok ok a).v c l ha)
  | .lc o elt tg un it k => mk_ok rfl fun c e h => by
    obtain ⟨x, t, i, ifs, sc, p, rfl, h⟩ := lcS_ok h
    obtain ⟨h, h6⟩ := and2 h
    obtain ⟨h, h5⟩ := and2 h
    obtain ⟨h, h4⟩ := and2 h
    obtain ⟨h, h3⟩ := and2 h
    obtain ⟨h1, h2⟩ := and2 h
    refine ok_lc (noH_ok h1) h2 h3 ((chk_ok ok it).i c i h4) ((chk_ok ok elt).v _ x h5) ?_
    rcases ifsS_ok h6 with ⟨h7, h8⟩ | ⟨q, h7, h8, h9⟩
    · exact .inl ⟨h7, h8⟩
    · exact .inr ⟨q, h7, h8, (chk_ok ok k).t _ q h9⟩
  | .rng1 a => ⟨(fun _ _ h => nomatch h), (fun _ _ h => nomatch h), (fun c e h => by
    rw [chk] at h
    dsimp only at h
    obtain ⟨x, p, es, pos, rfl, h⟩ := callS_ok h
    obtain ⟨h, h3⟩ := and2 h
    obtain ⟨h1, h2⟩ := and2 h
    have hx := of_decide_eq_true h1
    subst hx
    obtain ⟨l, rfl, k0⟩ := one1_ok h3
    obtain ⟨hs, ha⟩ := and2 k0
    exact ok_rng1 ok h2 hs ((chk_ok ok a).v c l ha)), (fun _ _ h => nomatch h)⟩
  | .rng2 a b => ⟨(fun _ _ h => nomatch h), (fun _ _ h => nomatch h), (fun c e h => by
    rw [chk] at h
    dsimp only at h
    obtain ⟨x, p, es, pos, rfl, h⟩ := callS_ok h
    obtain ⟨h, h3⟩ := and2 h
    obtain ⟨h1, h2⟩ := and2 h
    have hx := of_decide_eq_true h1
    subst hx
    obtain ⟨l, r, rfl, k0⟩ := two2_ok h3
    obtain ⟨k0, hb⟩ := and2 k0
    obtain ⟨k0, ha⟩ := and2 k0
    obtain ⟨hs, hs2⟩ := and2 k0
    exact ok_rng2 ok h2 hs hs2 ((chk_ok ok a).v c l ha) ((chk_ok ok b).v c r hb)), (fun _ _ h => nomatch h)⟩
  | .frz a => mk_ok rfl fun c e h => ok_frz ((chk_ok ok a).v c e h)
  | .xfld i f => mk_ok rfl fun c e h => by
    obtain ⟨l, f', p, rfl, h⟩ := attS_ok h
    obtain ⟨h, h4⟩ := and2 h
    obtain ⟨h, h3⟩ := and2 h
    obtain ⟨h1, h2⟩ := and2 h
    have hf := of_decide_eq_true h1
    subst hf
    cases hh : c.hold with
    | none => rw [hh] at h4; cases h4
    | some y =>
      obtain ⟨j, c0⟩ := y
      rw [hh] at h4
      obtain ⟨h5, h6⟩ := and2 h4
      have hi := of_decide_eq_true h5
      subst hi
      obtain ⟨xc, h7⟩ := hasC_ok h6
      cases l with
      | Name x q => exact ok_xfld ok hh h2 h7 (ok.fl xc c0 h7 f (of_decide_eq_true h3))
      | _ => cases h2
  | .xis i c1 c0 => mk_ok rfl fun c e h => by
    obtain ⟨x, p, es, pos, rfl, h⟩ := callS_ok h
    obtain ⟨h, h5⟩ := and2 h
    obtain ⟨h, h4⟩ := and2 h
    obtain ⟨h, h3⟩ := and2 h
    obtain ⟨h1, h2⟩ := and2 h
    have hx := of_decide_eq_true h1
    subst hx
    obtain ⟨l, y, rfl, k0⟩ := two2_ok h3
    obtain ⟨h6, k0⟩ := and2 k0
    obtain ⟨y, q, rfl, k1⟩ := nmS_ok k0
    obtain ⟨h7, h8⟩ := and2 k1
    obtain ⟨xc, h9⟩ := hasC_ok h5
    cases l with
    | Name x q => exact ok_xis ok (of_decide_eq_true h4) h6 h9 (of_decide_eq_true h8) h2 h7
    | _ => cases h6
  | .tupl a => mk_ok rfl fun c e h => by
    obtain ⟨x, p, es, pos, rfl, h⟩ := callS_ok h
    obtain ⟨h, h3⟩ := and2 h
    obtain ⟨h1, h2⟩ := and2 h
    have hx := of_decide_eq_true h1
    subst hx
    obtain ⟨l, rfl, k0⟩ := one1_ok h3
    obtain ⟨k0, k1⟩ := and2 k0
    exact ok_tupl ok h2 k0 ((chk_ok ok a).v c l k1)
  | .lrg1 o a => mk_ok rfl fun c e h => by
    obtain ⟨x, p, es, pos, rfl, h⟩ := callS_ok h
    obtain ⟨h, h4⟩ := and2 h
    obtain ⟨h, h3⟩ := and2 h
    obtain ⟨h1, h2⟩ := and2 h
    have hx := of_decide_eq_true h1
    subst hx
    obtain ⟨e, rfl, k0⟩ := one1_ok h4
    obtain ⟨y, p2, es, pos2, rfl, k⟩ := callS_ok k0
    obtain ⟨k, k3⟩ := and2 k
    obtain ⟨k1, k2⟩ := and2 k
    have hy := of_decide_eq_true k1
    subst hy
    obtain ⟨l, rfl, j0⟩ := one1_ok k3
    obtain ⟨j1, j2⟩ := and2 j0
    exact ok_lrg1 ok (noH_ok h3) h2 k2 j1 ((chk_ok ok a).v c l j2)
  | .lrg2 o a b => mk_ok rfl fun c e h => by
    obtain ⟨x, p, es, pos, rfl, h⟩ := callS_ok h
    obtain ⟨h, h4⟩ := and2 h
    obtain ⟨h, h3⟩ := and2 h
    obtain ⟨h1, h2⟩ := and2 h
    have hx := of_decide_eq_true h1
    subst hx
    obtain ⟨e, rfl, k0⟩ := one1_ok h4
    obtain ⟨y, p2, es, pos2, rfl, k⟩ := callS_ok k0
    obtain ⟨k, k3⟩ := and2 k
    obtain ⟨k1, k2⟩ := and2 k
    have hy := of_decide_eq_true k1
    subst hy
    obtain ⟨l, r, rfl, j0⟩ := two2_ok k3
    obtain ⟨j0, j4⟩ := and2 j0
    obtain ⟨j0, j3⟩ := and2 j0
    obtain ⟨j1, j2⟩ := and2 j0
    exact ok_lrg2 ok (noH_ok h3) h2 k2 j1 j2 ((chk_ok ok a).v c l j3) ((chk_ok ok b).v c r j4)
  | .xvb i => mk_ok rfl fun c e h => by
    obtain ⟨x, p, es, pos, rfl, h⟩ := callS_ok h
    obtain ⟨h, h4⟩ := and2 h
    obtain ⟨h, h3⟩ := and2 h
    obtain ⟨h1, h2⟩ := and2 h
    have hx := of_decide_eq_true h1
    subst hx
    obtain ⟨l, y, rfl, k0⟩ := two2_ok h3
    obtain ⟨h6, k0⟩ := and2 k0
    obtain ⟨y, q, rfl, k1⟩ := nmS_ok k0
    obtain ⟨h7, h8⟩ := and2 k1
    have hy := of_decide_eq_true h7
    subst hy
    cases hh : c.hold with
    | none => rw [hh] at h4; cases h4
    | some y =>
      obtain ⟨j, c0⟩ := y
      rw [hh] at h4
      obtain ⟨h5, h9⟩ := and2 h4
      have hi := of_decide_eq_true h5
      subst hi
      obtain ⟨xc, h10⟩ := hasC_ok h9
      cases l with
      | Name x q => exact ok_xvb ok hh h6 h10 h2 h8
      | _ => cases h6
theorem chkd_ok (ok : EvOk E) : ∀ (ms : MEs) (c : Cn) (l : List Expr), chks E.G ms c l = true → OkD E c ms l
  | .nil, c, l, h => by
    have he := List.isEmpty_iff.mp (show l.isEmpty = true from h)
    subst he
    exact ok_nilD
  | .cons m ms, c, l, h => by
    cases l with
    | nil => cases h
    | cons e es =>
      obtain ⟨h, h3⟩ := and2 (show (noStar e && (chk E.G m).v c e && chks E.G ms c es) = true from h)
      obtain ⟨h1, h2⟩ := and2 h
      exact ok_consD ((chk_ok ok m).v c e h2) (chkd_ok ok ms c es h3)
theorem chks_ok (ok : EvOk E) : ∀ (ms : MEs) (c : Cn) (l : List Expr), chks E.G ms c l = true → OkA E c ms l
  | .nil, c, l, h => by
    have he := List.isEmpty_iff.mp (show l.isEmpty = true from h)
    subst he
    exact ok_nil
  | .cons m ms, c, l, h => by
    cases l with
    | nil => cases h
    | cons e es =>
      obtain ⟨h, h3⟩ := and2 (show (noStar e && (chk E.G m).v c e && chks E.G ms c es) = true from h)
      obtain ⟨h1, h2⟩ := and2 h
      exact ok_cons h1 ((chk_ok ok m).v c e h2) (chks_ok ok ms c es h3)
end
end
end Wh

/-! Wh, part 27: statements, as texts. -/
namespace Wh
open PySem L2 PySem.Spec PyProof.Rows
section
variable {E : Ev}
structure GoodS (E : Ev) (c : Cn) (ad : Addr × Addr) (X : Cx) (Z1 : Ctx) (W : WX) : Prop where
  g : GoodX E c ad X Z1
  tk : Takes X W
  st : c.hold = none → X.stack = X.env :: X.outer ∧ X.env.frame = some X.env.locals ∧ PassesOwn (model X.prog X.w) X.A X.env X.xe
def OkS (E : Ev) (c : Cn) (s : MS) (st : Stmt) : Prop := ∀ W ad, ∃ t, ∀ X Z1, GoodS E c ad X Z1 W → PS X st t ∧ ∀ L, LkOf c ad L → SndS Z1 L W (stS s) t (ex E.cal s)
def OkSs (E : Ev) (c : Cn) (s : MSs) (st : List Stmt) : Prop := ∀ W ad, ∃ t, ∀ X Z1, GoodS E c ad X Z1 W → PSs X st t ∧ ∀ L, LkOf c ad L → SndS Z1 L W (stSs s) t (exs E.cal s)
theorem oks_nil {c : Cn} : OkSs E c .nil [] := fun W ad => ⟨_, fun X Z1 g => ⟨pss_nil, fun L _ => snds_nx⟩⟩
theorem oks_cons {c : Cn} {s : MS} {ss : MSs} {st : Stmt} {sts : List Stmt} (h1 : OkS E c s st) (h2 : OkSs E c ss sts) : OkSs E c (.cons s ss) (st :: sts) := by
  intro W ad
  obtain ⟨t1, k1⟩ := h1 W ad
  obtain ⟨t2, k2⟩ := h2 W ad
  refine ⟨tSeq t1 t2, fun X Z1 g => ?_⟩
  obtain ⟨p1, s1⟩ := k1 X Z1 g
  obtain ⟨p2, s2⟩ := k2 X Z1 g
  exact ⟨pss_cons p1 p2, fun L hl => SndS.seq ((s1 L hl).sub app_l) ((s2 L hl).sub app_r)⟩
def locB (c : Cn) (x : Str) : Bool := decide (c.sc.names.lookup x = some .local) || (decide (c.sc.names.lookup x = some .cell) && c.fn x)
theorem oks_asg {c : Cn} {i : Nat} {o : Bool} {m : ME} {y : Str} {py pos : Pos} {v : Expr} (hi : c.N[i]? = some y) (hl : locB c y = true) (hn : noCmp v = true) (he : OkE E c m v) : OkS E c (.asg i o m) (.Assign [.Name y py] v pos) := by
  intro W ad
  obtain ⟨te, k⟩ := he W ad
  refine ⟨tAsg te (gName i), fun X Z1 g => ?_⟩
  obtain ⟨pe, se⟩ := k X Z1 g.g g.tk
  obtain ⟨l1, l2⟩ := loc_of g.g.tg hl
  exact ⟨ps_set (by rw [g.g.N]; exact g.g.nd) (by rw [g.g.N]; exact hi) l1 pe (noCmp_sw hn) l2, fun L hl => SndS.asg (se L hl) (by simp [stS])⟩
def noTup : Expr → Bool
  | .Tuple _ _ _ => false
  | _ => true
theorem noTup_sw {e : Expr} {ts : List Expr} {k : Nat} {p : Pos} {env : Env} (h : noTup e = true) : swappedStores [.Tuple ts k p] e env = pure none := by
  cases e <;> first | rfl | cases h
theorem oks_asgT {c : Cn} {is : List Nat} {m : ME} {es : List Expr} {k : Nat} {p pos : Pos} {v : Expr} (hh : c.hold = none) (ht : tgB c is true (.Tuple es k p) = true) (hn : noCmp v = true) (hv : noTup v = true) (he : OkE E c m v) : OkS E c (.asgT is m) (.Assign [.Tuple es k p] v pos) := by
  intro W ad
  obtain ⟨te, ke⟩ := he W ad
  refine ⟨tAsg te (gTup E.K is.length (gNames is)), fun X Z1 g => ?_⟩
  obtain ⟨pe, se⟩ := ke X Z1 g.g g.tk
  have h : tgNames c is es = true := by
    cases is with
    | nil => exact ht
    | cons i is => cases is <;> exact ht
  obtain ⟨h1, h2, h3⟩ := pgs_of g.g.tg h
  refine ⟨?_, fun L hl => SndS.asgT g.g.k (se L hl) (by simp [stS])⟩
  have q := pg_tup (k := k) (pos := p) (g.g.pl hh).2.1 h1 h2 h3
  rw [g.g.K] at q
  exact ps_asg pe q (show swapsWith v (some (.Tuple es k p)) pos.line X.env = pure false from noCmp_sw hn) (noTup_sw hv) rfl
theorem oks_asgL {c : Cn} {is : List Nat} {m : ME} {es : List Expr} {k : Nat} {p pos : Pos} {v : Expr} (hh : c.hold = none) (ht : tgB c is true (.Tuple es k p) = true) (hn : noCmp v = true) (hv : noTup v = true) (he : OkE E c m v) : OkS E c (.asgL is m) (.Assign [.Tuple es k p] v pos) := by
  intro W ad
  obtain ⟨te, ke⟩ := he W ad
  refine ⟨tAsg te (gLst E.K is.length (gNames is)), fun X Z1 g => ?_⟩
  obtain ⟨pe, se⟩ := ke X Z1 g.g g.tk
  have h : tgNames c is es = true := by
    cases is with
    | nil => exact ht
    | cons i is => cases is <;> exact ht
  obtain ⟨h1, h2, h3⟩ := pgs_of g.g.tg h
  refine ⟨?_, fun L hl => SndS.asgL g.g.k (se L hl) (by simp [stS])⟩
  have q := pg_lst (k := k) (pos := p) (g.g.pl hh).2.1 h1 h2 h3
  rw [g.g.K] at q
  exact ps_asg pe q (show swapsWith v (some (.Tuple es k p)) pos.line X.env = pure false from noCmp_sw hn) (noTup_sw hv) rfl
theorem sub_sw {v o i : Expr} {p : Pos} {l : Nat} {env : Env} : swapsWith v (some (.Subscript o i p)) l env = pure false := by
  cases v <;> rfl
theorem sub_sw2 {v o i : Expr} {p : Pos} {env : Env} : swappedStores [.Subscript o i p] v env = pure none := by
  cases v <;> rfl
theorem noSlice_asg {o i : Expr} {p : Pos} {env : Env} (h : noSlice i = true) : ∀ v, assign (.Subscript o i p) env v = (do
      let ov ← holding [v] (eval o env)
      let iv ← holding [v, ov] (eval i env)
      standAt p
      holding [v, ov, iv] (setItem ov iv v)
      release [v, ov, iv] []) := by
  intro v
  cases i <;> first | rfl | cases h
theorem oks_setI {c : Cn} {a i m : ME} {o ix v : Expr} {p pos : Pos} (hs : noSlice ix = true) (he : OkE E c m v) (ha : OkE E c a o) (hi : OkE E c i ix) : OkS E c (.setI a i m) (.Assign [.Subscript o ix p] v pos) := by
  intro W ad
  obtain ⟨te, ke⟩ := he W ad
  obtain ⟨ta, ka⟩ := ha W ad
  obtain ⟨ti, ki⟩ := hi W ad
  refine ⟨tAsg te (gSub ta ti rSetL), fun X Z1 g => ?_⟩
  obtain ⟨pe, se⟩ := ke X Z1 g.g g.tk
  obtain ⟨pa, sa⟩ := ka X Z1 g.g g.tk
  obtain ⟨pi, si⟩ := ki X Z1 g.g g.tk
  exact ⟨ps_asg pe (pg_sub pa pi set_list (noSlice_asg hs)) (sub_sw (o := o) (i := ix) (p := p) (l := pos.line) (env := X.env)) (sub_sw2 (o := o) (i := ix) (p := p) (env := X.env)) rfl, fun L hl => SndS.setI (se L hl) (sa L hl) (si L hl)⟩
def aopO : BOp → Operator → Bool
  | .add, .Add => true | .sub, .Sub => true
  | _, _ => false
theorem aop_ok {op : BOp} {op' : Operator} (h : aopO op op' = true) : ∃ tip, (∀ X, PIp X op' tip) ∧ ∀ {x y z : Int} {H : Hp} {Q : V → Hp → Prop}, binop op (.int x) (.int y) = some (.int z) → Q (.int z) H → tip (.int x) (.int y) H Q := by
  cases op with
  | add => cases op' with
    | Add => exact ⟨_, fun X => ip_add, fun {x y z H Q} e q => ⟨x, y, rfl, rfl, by cases e; exact q⟩⟩
    | _ => cases h
  | sub => cases op' with
    | Sub => exact ⟨_, fun X => ip_sub, fun {x y z H Q} e q => ⟨x, y, rfl, rfl, by cases e; exact q⟩⟩
    | _ => cases h
  | _ => cases h
theorem noSlice_aug {i : Expr} (h : noSlice i = true) : ∀ ov iv new, augStore i ov iv new = (do holding [new, ov, iv] (setItem ov iv new); release [new, ov, iv] []; pure .next) := by
  intro ov iv new
  cases i <;> first | rfl | cases h
theorem oks_augI {c : Cn} {a i m : ME} {op : BOp} {op' : Operator} {o ix v : Expr} {p pos : Pos} (hop : aopO op op' = true) (hs : noSlice ix = true) (ha : OkE E c a o) (hi : OkE E c i ix) (he : OkE E c m v) : OkS E c (.augI a i op m) (.AugAssign (.Subscript o ix p) op' v pos) := by
  intro W ad
  obtain ⟨te, ke⟩ := he W ad
  obtain ⟨ta, ka⟩ := ha W ad
  obtain ⟨ti, ki⟩ := hi W ad
  obtain ⟨tip, h1, h2⟩ := aop_ok hop
  refine ⟨tAugS ta ti te (rIxL E.K) tip rSetL, fun X Z1 g => ?_⟩
  obtain ⟨pe, se⟩ := ke X Z1 g.g g.tk
  obtain ⟨pa, sa⟩ := ka X Z1 g.g g.tk
  obtain ⟨pi, si⟩ := ki X Z1 g.g g.tk
  exact ⟨by rw [← g.g.K]; exact ps_augS pa pi get_listP pe (h1 X) set_list (noSlice_aug hs), fun L hl => SndS.augI g.g.k (sa L hl) (si L hl) (se L hl) h2⟩
theorem oks_aug {c : Cn} {i : Nat} {m : ME} {op : BOp} {op' : Operator} {y : Str} {v : Expr} {py pos : Pos} (hop : aopO op op' = true) (hi : c.N[i]? = some y) (hl : locB c y = true) (he : OkE E c m v) : OkS E c (.aug i op m) (.AugAssign (.Name y py) op' v pos) := by
  intro W ad
  obtain ⟨te, ke⟩ := he W ad
  obtain ⟨tip, h1, h2⟩ := aop_ok hop
  refine ⟨tAug i te tip, fun X Z1 g => ?_⟩
  obtain ⟨pe, se⟩ := ke X Z1 g.g g.tk
  obtain ⟨l1, l2⟩ := loc_of g.g.tg hl
  exact ⟨ps_aug (by rw [g.g.N]; exact g.g.nd) (by rw [g.g.N]; exact hi) l1 pe (h1 X) l2, fun L hl => SndS.aug (se L hl) (by simp [stS]) h2⟩
theorem oks_expr {c : Cn} {m : ME} {v : Expr} {pos : Pos} (hn : noCmp v = true) (he : OkE E c m v) : OkS E c (.expr m) (.Expr v pos) := by
  intro W ad
  obtain ⟨te, ke⟩ := he W ad
  refine ⟨tDrop te, fun X Z1 g => ?_⟩
  obtain ⟨pe, se⟩ := ke X Z1 g.g g.tk
  exact ⟨ps_expr pe (noCmp_sw hn), fun L hl => SndS.drop (se L hl)⟩
theorem oks_cond {c : Cn} {m : ME} {a b : MSs} {v : Expr} {sa sb : List Stmt} {pos : Pos} (hm : OkT E c m v) (ha : OkSs E c a sa) (hb : OkSs E c b sb) : OkS E c (.cond m a b) (.If v sa sb pos) := by
  intro W ad
  obtain ⟨tm, km⟩ := hm W ad
  obtain ⟨ta, ka⟩ := ha W ad
  obtain ⟨tb, kb⟩ := hb W ad
  refine ⟨tIfS tm ta tb, fun X Z1 g => ?_⟩
  obtain ⟨pm, _, sm⟩ := km X Z1 g.g g.tk
  obtain ⟨pa, sa'⟩ := ka X Z1 g
  obtain ⟨pb, sb'⟩ := kb X Z1 g
  exact ⟨ps_if pm pa pb, fun L hl => SndS.cond (sm L hl) ((sa' L hl).sub app_l) ((sb' L hl).sub app_r)⟩
theorem oks_for {c : Cn} {m : ME} {b : MSs} {tg : List Nat} {un : Bool} {t v : Expr} {sb : List Stmt} {pos : Pos} (hh : c.hold = none) (ht : tgB c tg un t = true) (hm : OkI E c m v) (hb : OkSs E c b sb) : OkS E c (.for_ tg un m b) (.For t v sb [] pos) := by
  intro W ad
  obtain ⟨tm, km⟩ := hm.2 W ad
  obtain ⟨tb, kb⟩ := hb W ad
  obtain ⟨gt, h1, h2⟩ := tg_ok (E := E) ht
  refine ⟨tFor tm gt tb, fun X Z1 g => ?_⟩
  obtain ⟨pm, sm⟩ := km X Z1 g.g g.tk
  obtain ⟨pb, sb'⟩ := kb X Z1 g
  have hc := (g.g.pl hh).2.1
  exact ⟨ps_for (g.st hh).2.2 hc (pm t) (h1 X g.g.tg hc) pb (hm.1 X.env), fun L hl => SndS.for_ (sm L hl) (h2 Z1 L g.g.k) ((sb' L hl).sub app_r) app_l⟩
theorem oks_while {c : Cn} {m : ME} {b : MSs} {v : Expr} {sb : List Stmt} {pos : Pos} (hh : c.hold = none) (hm : OkT E c m v) (hb : OkSs E c b sb) : OkS E c (.while_ m b) (.While v sb [] pos) := by
  intro W ad
  obtain ⟨tm, km⟩ := hm W ad
  obtain ⟨tb, kb⟩ := hb W ad
  refine ⟨tWhile tm tb, fun X Z1 g => ?_⟩
  obtain ⟨pm, _, sm⟩ := km X Z1 g.g g.tk
  obtain ⟨pb, sb'⟩ := kb X Z1 g
  exact ⟨ps_while (g.st hh).2.2 pm pb, fun L hl => by
    have e : ex E.cal (.while_ m b) = whT (Wh.sm E.cal m).t (exs E.cal b) whN := by funext x; rw [ex]
    rw [e]
    exact SndS.while_ (n := whN) (sm L hl) (sb' L hl)⟩
theorem oks_ret {c : Cn} {o : Bool} {m : ME} {v : Expr} {pos : Pos} (he : OkE E c m v) : OkS E c (.ret o m) (.Return (some v) pos) := by
  intro W ad
  obtain ⟨te, ke⟩ := he W ad
  refine ⟨tRet te, fun X Z1 g => ?_⟩
  obtain ⟨pe, se⟩ := ke X Z1 g.g g.tk
  exact ⟨ps_ret pe, fun L hl => SndS.ret (se L hl)⟩
theorem oks_retN {c : Cn} {pos : Pos} : OkS E c .retN (.Return none pos) := fun W ad => ⟨_, fun X Z1 g => ⟨ps_retN, fun L _ => snds_retN⟩⟩
theorem oks_brk {c : Cn} {pos : Pos} : OkS E c .brk (.Break pos) := fun W ad => ⟨_, fun X Z1 g => ⟨ps_break, fun L _ => snds_bk⟩⟩
theorem oks_cnt {c : Cn} {pos : Pos} : OkS E c .cnt (.Continue pos) := fun W ad => ⟨_, fun X Z1 g => ⟨ps_continue, fun L _ => snds_ct⟩⟩
theorem oks_pass {c : Cn} {pos : Pos} : OkS E c .pass (.Pass pos) := fun W ad => ⟨_, fun X Z1 g => ⟨ps_pass, fun L _ => snds_nx⟩⟩
theorem oks_raise (ok : EvOk E) {c : Cn} {n : Nat} {ns : List Str} {ms : MEs} {x : Str} {e : Expr} {es : List Expr} {p p2 pos : Pos} (hh : c.hold = none) (hg : glB c x = true) (hx : E.G.errs.lookup x = some (n, ns)) (ha : OkA E c ms (e :: es)) : OkS E c (.raise n ns ms) (.Raise (some (.Call (.Name x p) (e :: es) [] p2)) none pos) := by
  intro W ad
  obtain ⟨ta, ka⟩ := ha.2 W ad
  obtain ⟨h1, h2, fI, kk, fd, ps, h3, h4, h5, h6⟩ := ok.er x n ns hx
  refine ⟨fun _ σ H => tMkO (E.Z.ca n) (spInit (E.Z.ca n) ns) [] ta σ H fun cls d H' => W cls d σ H', fun X Z1 g => ?_⟩
  obtain ⟨pa, sa⟩ := ka X Z1 g.g g.tk
  obtain ⟨hz, hc, hr⟩ := g.g.pl hh
  have hs := ha.1
  simp only [List.all_cons, Bool.and_eq_true] at hs
  refine ⟨ps_raise hc g.tk ?_, fun L hl => by subst hz; exact SndS.raise (sa L hl) h2⟩
  have F : FnOk X.prog X.w X.K X.mg X.base (L2.CX X.prog X.w) kk fI fd ps (spInit (E.Z.ca n) ns) := by
    rw [g.g.prog, g.g.w, g.g.K, g.g.mg, g.g.base]; exact h4
  have T : ErrC X.K (E.Z.ca n) fI ns := by rw [g.g.K]; exact h3
  exact pmk_oex (dvs := []) (ds := []) T.ox T.iC T.tI F (hr.mono h6) (by rw [g.g.K]; exact h5) .nil passF (g.g.gl hg) (by rw [g.g.mg]; exact h1) pa (okN_1 (glB_ok hg)) (noStar_cons hs.1) (noStar_any hs.2)
end
end Wh

/-! Wh, part 28: name = [..], try; the check of statements. -/
namespace Wh
open PySem L2 PySem.Spec PyProof.Rows
section
variable {E : Ev}
/-- name = [..], name a local, on one line -/
def swB (c : Cn) (y : Str) (py p : Pos) (scope : Scope) : Bool := decide (c.sc.kind = .function) && decide (c.sc.names.lookup y = some .local) && (py.line == p.line) && !(scope.names.any fun (n, k) => n == y && (k == .local || k == .cell))
theorem oks_setLc {c : Cn} {j : Nat} {o o2 un : Bool} {elt it k : ME} {tg : List Nat} {e t i : Expr} {ifs : List Expr} {scope : Scope} {p py pos : Pos} {y : Str} (hj : c.N[j]? = some y) (hw : swB c y py p scope = true) (hn : c.hold = none) (hb : blkC c.N c.sc scope (ownOf c tg) = true) (ht : tgB (blkCn c scope) tg un t = true)
    (hi : OkI E c it i) (he : OkE E (blkCn c scope) elt e) (hk : (ifs = [] ∧ isNo k = true) ∨ (∃ q, ifs = [q] ∧ isNo k = false ∧ OkT E (blkCn c scope) k q)) : OkS E c (.asg j o2 (.lc o elt tg un it k)) (.Assign [.Name y py] (.ListComp e [⟨t, i, ifs, 0⟩] scope p) pos) := by
  intro W ad
  obtain ⟨ti, hi'⟩ := hi.2 W ad
  obtain ⟨te, he'⟩ := he noX ad
  obtain ⟨gt, hg, hg2⟩ := tg_ok (E := E) ht
  obtain ⟨tt, hq⟩ : ∃ tt, ∀ X Z1, GoodX E (blkCn c scope) ad X Z1 → PTs X ifs tt ∧ ∀ L, Snd Z1 L noX kB tt (if isNo k then yesT else (sm E.cal k).t) := by
    rcases hk with ⟨h1, h2⟩ | ⟨q, h1, h2, h3⟩
    · subst h1
      refine ⟨tYes, fun X Z1 g => ⟨pts_nil, fun L => ?_⟩⟩
      rw [if_pos h2]
      exact fun B F fp g σ H Q R s => sat_b R s
    · subst h1
      obtain ⟨tt, h4⟩ := h3 noX ad
      refine ⟨tt, fun X Z1 g => ?_⟩
      obtain ⟨h5, _, h6⟩ := h4 X Z1 g blk_takes
      refine ⟨pts_one h5, fun L => ?_⟩
      rw [if_neg (by rw [h2]; exact Bool.false_ne_true)]
      exact h6 L fun _ _ h => nomatch h
  refine ⟨tAsg (tLc ti gt tt te tg) (gName j), fun X Z1 g => ?_⟩
  obtain ⟨pi, si⟩ := hi' X Z1 g.g g.tk
  obtain ⟨_, hcalm, _⟩ := g.g.pl hn
  simp only [swB, Bool.and_eq_true, Bool.not_eq_true', decide_eq_true_eq] at hw
  obtain ⟨⟨⟨w1, w2⟩, w3⟩, w4⟩ := hw
  have w2' : X.env.scope.names.lookup y = some .local := by rw [g.g.sc]; exact w2
  refine ⟨?_, fun L hl => ?_⟩
  · have pe := ps_setLc (i := j) (py := py) (pos := p) (spos := pos) (own := ownOf c tg) hcalm (by rw [g.g.N]; exact g.g.nd) (by rw [g.g.N]; exact hj) w2' (sw_true (by rw [g.g.sc]; exact w1) w2' w3 w4) (pi t) (blkOk_by (by rw [g.g.N, g.g.sc]; exact hb))
      (fun s H C cl fp => hg _ (blk_good g.g hn scope s H C cl fp).tg hcalm)
      (fun s H C cl fp => (hq _ Z1 (blk_good g.g hn scope s H C cl fp)).1) (fun s H C cl fp => (he' _ Z1 (blk_good g.g hn scope s H C cl fp) blk_takes).1) (fun x => hi.1 X.env x)
    rw [own_snd] at pe
    exact pe
  · have := Snd.lc (o := o) (si L hl) (hg2 Z1 L g.g.k) ((hq _ Z1 (blk_good g.g hn scope X.s_0 X.H_0 0 [] [])).2 L) ((he' _ Z1 (blk_good g.g hn scope X.s_0 X.H_0 0 [] []) blk_takes).2 L fun _ _ h => nomatch h)
    exact SndS.asg this (by simp [stS])
/-- .. where nothing is swapped -/
theorem oks_asgC {c : Cn} {i : Nat} {o : Bool} {m : ME} {y : Str} {py pos p : Pos} {e : Expr} {gs : List Comprehension} {scope : Scope} (hi : c.N[i]? = some y) (hl : decide (c.sc.names.lookup y = some .cell) = true) (hf : c.fn y = true) (he : OkE E c m (.ListComp e gs scope p)) : OkS E c (.asg i o m) (.Assign [.Name y py] (.ListComp e gs scope p) pos) := by
  intro W ad
  obtain ⟨te, k⟩ := he W ad
  refine ⟨tAsg te (gName i), fun X Z1 g => ?_⟩
  obtain ⟨pe, se⟩ := k X Z1 g.g g.tk
  have hl := of_decide_eq_true hl
  obtain ⟨l1, l2⟩ := loc_of (x := y) g.g.tg (by simp [hl, hf])
  refine ⟨ps_set (by rw [g.g.N]; exact g.g.nd) (by rw [g.g.N]; exact hi) l1 pe ?_ l2, fun L hl => SndS.asg (se L hl) (by simp [stS])⟩
  have ky : X.env.kindOf y = some .cell := by show X.env.scope.names.lookup y = _; rw [g.g.sc]; exact hl
  unfold swapsWith
  simp only [ky]
  have z1 : (some NameKind.cell == some NameKind.local) = false := rfl
  simp only [z1, Bool.and_false, Bool.false_and]
/-! ### try -/
def suiteCn (c : Cn) (i c0 : Nat) : Cn := { c with hold := some (i, c0) }
def OkH (E : Ev) (c : Cn) (n : Nat) : MHs → List ExceptHandler → Prop
  | .nil, [] => True
  | .cons c0 none b hs, .ExceptHandler (some (.Name x _)) none (st :: sts) _ :: hds => c0 < n ∧ glB c x = true ∧ E.G.cls.lookup x = some c0 ∧ OkSs E (suiteCn c c.N.length c0) b (st :: sts) ∧ OkH E c n hs hds
  | .cons c0 (some i) b hs, .ExceptHandler (some (.Name x _)) (some y) (st :: sts) _ :: hds => c0 < n ∧ glB c x = true ∧ E.G.cls.lookup x = some c0 ∧ c.N[i]? = some y ∧ c.sc.names.lookup y = some .local ∧ OkSs E (suiteCn c i c0) b (st :: sts) ∧ OkH E c n hs hds
  | _, _ => False
theorem suite_good {c : Cn} {ad : Addr × Addr} {X : Cx} {i c0 : Nat} {a d : Addr} {oe : Obj} {pn : List (Addr × Obj)} (ok : EvOk E) {Z1 : Ctx} (g : GoodX E c ad X Z1) (hz : Zc (.ref (E.Z.ca c0)) (some d) oe) (hf : ∃ vs, oe.data = .fields vs) :
    GoodS E (suiteCn c i c0) (a, d) (X.suite a ((a, oe) :: pn)) (E.Z.hold a d) noX :=
  ⟨⟨g.prog, g.w, g.K, g.mg, g.base, by show X.K = E.Z.K; rw [g.K, ok.zK], rfl, g.N, g.nd, g.sc, g.un, g.fn, (fun h => nomatch h), fun j c1 h => by
    cases h
    exact ⟨X, oe, pn, rfl, hz, hf, rfl⟩⟩, blk_takes, fun h => nomatch h⟩
open Classical in
noncomputable def pickT (E : Ev) (c : Cn) (c0 : Nat) (b : MSs) (sts : List Stmt) (h : OkSs E c b sts) (a : Addr) (cls : Value) : Option Addr → TS
  | some d => if cls = .ref (E.Z.ca c0) then choose (h noX (a, d)) else tNever
  | none => tNever
theorem pick_psd {c : Cn} {i c0 : Nat} {b : MSs} {sts : List Stmt} (ok : EvOk E) (h : OkSs E (suiteCn c i c0) b sts) {ad : Addr × Addr} {X : Cx} {Z1 : Ctx} (g : GoodX E c ad X Z1) (a : Addr) (oe : Obj) (cls : Value) (d : Option Addr) (pn : List (Addr × Obj)) (hz : Zc cls d oe) (hf : ∃ vs, oe.data = .fields vs) :
    PSs (X.suite a ((a, oe) :: pn)) sts (pickT E (suiteCn c i c0) c0 b sts h a cls d) := by
  cases d with
  | none => exact pss_never
  | some d =>
    unfold pickT
    dsimp only
    by_cases e : cls = .ref (E.Z.ca c0)
    · rw [if_pos e]
      subst e
      exact (Classical.choose_spec (h noX (a, d)) _ _ (suite_good ok g hz hf)).1
    · rw [if_neg e]; exact pss_never
theorem pick_snd {c : Cn} {i c0 : Nat} {b : MSs} {sts : List Stmt} (ok : EvOk E) (h : OkSs E (suiteCn c i c0) b sts) {ad : Addr × Addr} {X : Cx} {Z1 : Ctx} (g : GoodX E c ad X Z1) {L : Hp} {W : WX} : SndH E.Z L W (stSs b) (pickT E (suiteCn c i c0) c0 b sts h) c0 (exs E.cal b) := by
  intro a d fvs sL
  have hz : Zc (.ref (E.Z.ca c0)) (some d) ({ cls := .ref (E.Z.ca c0), dict := some d, data := .fields #[] } : Obj) := ⟨rfl, rfl⟩
  have := (Classical.choose_spec (h noX (a, d)) _ _ (suite_good (pn := []) ok g hz ⟨_, rfl⟩)).2 (upd L d (.xd fvs)) fun j c1 e => ⟨fvs, L, rfl⟩
  unfold pickT
  dsimp only
  rw [if_pos rfl]
  exact this
theorem hdl_of (ok : EvOk E) {c : Cn} {n : Nat} (hn : n ≤ E.G.nE) : ∀ {hs : MHs} {hds : List ExceptHandler}, OkH E c n hs hds → ∃ zs, (∀ X Z1 ad, GoodX E c ad X Z1 → Clzs X hds zs) ∧ ∀ X Z1 ad, GoodX E c ad X Z1 → ∀ L W, Hdl E.Z L W E.cal n hs zs
  | .nil, [], _ => ⟨[], fun _ _ _ _ => .nil, fun _ _ _ _ _ _ => .nil⟩
  | .cons c0 none b hs, .ExceptHandler (some (.Name x _)) none (st :: sts) _ :: hds, h => by
    obtain ⟨h0, h1, h2, h3, h4⟩ := h
    obtain ⟨zs, k1, k2⟩ := hdl_of ok hn h4
    refine ⟨⟨.ref (E.Z.ca c0), none, pickT E _ c0 b _ h3⟩ :: zs, fun X Z1 ad g => .cons ⟨g.gl h1, okN_1 (glB_ok h1), .inl (by rw [g.mg]; exact ok.cl x c0 h2)⟩ trivial (fun a oe cls d pn hz hf => pick_psd ok h3 g a oe cls d pn hz hf) (k1 X Z1 ad g), fun X Z1 ad g L W => .cons (fun c' hc' => ?_) (pick_snd ok h3 g) (k2 X Z1 ad g L W)⟩
    have := ok.ex c' c0 (by omega) (by omega)
    rw [← ok.zK] at this
    exact this
  | .cons c0 (some i) b hs, .ExceptHandler (some (.Name x _)) (some y) (st :: sts) _ :: hds, h => by
    obtain ⟨h0, h1, h2, h5, h6, h3, h4⟩ := h
    obtain ⟨zs, k1, k2⟩ := hdl_of ok hn h4
    refine ⟨⟨.ref (E.Z.ca c0), some i, pickT E _ c0 b _ h3⟩ :: zs, fun X Z1 ad g => .cons ⟨g.gl h1, okN_1 (glB_ok h1), .inl (by rw [g.mg]; exact ok.cl x c0 h2)⟩ ⟨by rw [g.N]; exact h5, by show X.env.scope.names.lookup y = _; rw [g.sc]; exact h6⟩ (fun a oe cls d pn hz hf => pick_psd ok h3 g a oe cls d pn hz hf) (k1 X Z1 ad g), fun X Z1 ad g L W => .cons (fun c' hc' => ?_) (pick_snd ok h3 g) (k2 X Z1 ad g L W)⟩
    have := ok.ex c' c0 (by omega) (by omega)
    rw [← ok.zK] at this
    exact this
theorem tr_good {c : Cn} {ad : Addr × Addr} {X : Cx} {Z1 : Ctx} {W W' : WX} {pn : List (Addr × Obj)} {xe : Value → Shared → Prop} (hh : c.hold = none) (g : GoodS E c ad X Z1 W) (tk : Takes (X.tr pn xe) W') (po : PassesOwn (model X.prog X.w) X.A X.env xe) : GoodS E c ad (X.tr pn xe) Z1 W' :=
  ⟨⟨g.g.prog, g.g.w, g.g.K, g.g.mg, g.g.base, g.g.eK, g.g.zca, g.g.N, g.g.nd, g.g.sc, g.g.un, g.g.fn, g.g.pl, fun i c0 h => by rw [hh] at h; cases h⟩, tk, fun _ => ⟨(g.st hh).1, (g.st hh).2.1, po⟩⟩
theorem oks_try (ok : EvOk E) {c : Cn} {n : Nat} {b : MSs} {hs : MHs} {sb : List Stmt} {hd : ExceptHandler} {hds : List ExceptHandler} {pos : Pos} (hh : c.hold = none) (hn : n ≤ E.G.nE) (hb : OkSs E c b sb) (hk : OkH E c n hs (hd :: hds)) : OkS E c (.try_ n b hs) (.Try sb (hd :: hds) [] [] pos) := by
  intro W ad
  obtain ⟨zs, k1, k2⟩ := hdl_of ok hn hk
  refine ⟨fun De τ J => Classical.choose (hb (wClz E.K W De zs) ad) De τ J, fun X Z1 g => ?_⟩
  obtain ⟨hz, hc, hr⟩ := g.g.pl hh
  obtain ⟨s1, s2, s3⟩ := g.st hh
  refine ⟨?_, fun L hl => ?_⟩
  · have := ps_tryN (pos := pos) (tb := fun W' => Classical.choose (hb W' ad)) s1 s2 (by rw [g.g.N]; exact g.g.nd) g.tk (fun W' pn xe tk po => (Classical.choose_spec (hb W' ad) _ Z1 (tr_good hh g tk po)).1) (k1 X Z1 ad g.g)
    rw [g.g.K] at this
    exact this
  · subst hz
    have snd : ∀ W', SndS E.Z L W' (stSs b) (Classical.choose (hb W' ad)) (exs E.cal b) := fun W' => (Classical.choose_spec (hb W' ad) (X.tr X.pn (fun e sa => wpAny (model X.prog X.w) X.A (noteFrame e X.env) (fun _ sb => wpAny (model X.prog X.w) X.A (setFlight e none) (fun _ _ => True) (fun _ _ => True) sb) (fun _ _ => True) sa)) E.Z
      (tr_good hh g (fun u s' xx => by
        obtain ⟨a, B, sI, pins, σ, H, cls, d, rfl, I, nb, up, sky, na, os, ag, w⟩ := xx
        have fr : X.A.frames = some (X.env :: X.outer) := I.ok.frames.trans (congrArg some s1)
        have sky2 : Sky B (X.env :: X.outer) a (Zc cls d) X.env.locals s'.heap := s1 ▸ sky
        exact Sky.land Zc.steady fr s2 sky2 fun _ _ _ => trivial) PassesOwn.looking)).2 L hl
    have := SndS.try_ (as := stSs b ++ stHs hs) (tb := fun W' => Classical.choose (hb W' ad)) (fb := exs E.cal b) (k2 X _ ad g.g L W) ok.zx app_r fun W' => (snd W').sub app_l
    rw [ok.zK] at this
    exact this
end
end Wh

/-! Wh, part 29: the check of statements, and that it is right. -/
namespace Wh
open PySem L2 PySem.Spec PyProof.Rows
def lcP (k : Expr → Expr → Expr → List Expr → Scope → Pos → Bool) : Expr → Bool
  | .ListComp e [⟨t, i, ifs, a⟩] sc p => (a == 0) && k e t i ifs sc p
  | _ => false
theorem lcP_ok {k : Expr → Expr → Expr → List Expr → Scope → Pos → Bool} {e : Expr} (h : lcP k e = true) : ∃ x t i ifs sc p, e = .ListComp x [⟨t, i, ifs, 0⟩] sc p ∧ k x t i ifs sc p = true := by
  unfold lcP at h
  split at h
  · rw [Bool.and_eq_true] at h
    have := eq_of_beq h.1
    subst this
    exact ⟨_, _, _, _, _, _, rfl, h.2⟩
  · cases h
def isLC : Expr → Bool
  | .ListComp _ _ _ _ => true
  | _ => false
def chkLs (G : Gs) (c : Cn) (y : Str) (py : Pos) : ME → Expr → Bool
  | .lc o elt tg un it k, e => lcP (fun x t i ifs sc p => swB c y py p sc && noH c && blkC c.N c.sc sc (ownOf c tg) && tgB (blkCn c sc) tg un t && (chk G it).i c i && (chk G elt).v (blkCn c sc) x && ifsS (isNo k) (fun q => (chk G k).t (blkCn c sc) q) ifs) e
  | _, _ => false
def asgF (k : Expr → Expr → Bool) : Stmt → Bool
  | .Assign [t] v _ => k t v
  | _ => false
theorem asgF_ok {k : Expr → Expr → Bool} {st : Stmt} (h : asgF k st = true) : ∃ t v p, st = .Assign [t] v p ∧ k t v = true := by
  unfold asgF at h
  split at h
  · exact ⟨_, _, _, rfl, h⟩
  · cases h
def nmP (k : Str → Pos → Bool) : Expr → Bool
  | .Name x p => k x p
  | _ => false
theorem nmP_ok {k : Str → Pos → Bool} {e : Expr} (h : nmP k e = true) : ∃ x p, e = .Name x p ∧ k x p = true := by
  cases e with
  | Name x p => exact ⟨x, p, rfl, h⟩
  | _ => cases h
def isTup : Expr → Bool
  | .Tuple _ _ _ => true
  | _ => false
def augF (k : Expr → Operator → Expr → Bool) : Stmt → Bool
  | .AugAssign t o v _ => k t o v
  | _ => false
theorem augF_ok {k : Expr → Operator → Expr → Bool} {st : Stmt} (h : augF k st = true) : ∃ t o v p, st = .AugAssign t o v p ∧ k t o v = true := by
  cases st with
  | AugAssign t o v p => exact ⟨t, o, v, p, rfl, h⟩
  | _ => cases h
def raiseF (k : Str → List Expr → Bool) : Stmt → Bool
  | .Raise (some (.Call (.Name x _) es [] _)) none _ => k x es
  | _ => false
theorem raiseF_ok {k : Str → List Expr → Bool} {st : Stmt} (h : raiseF k st = true) : ∃ x p es p2 pos, st = .Raise (some (.Call (.Name x p) es [] p2)) none pos ∧ k x es = true := by
  unfold raiseF at h
  split at h
  · exact ⟨_, _, _, _, _, rfl, h⟩
  · cases h
def tryF (k : List Stmt → List ExceptHandler → Bool) : Stmt → Bool
  | .Try b (h :: hs) [] [] _ => k b (h :: hs)
  | _ => false
theorem tryF_ok {k : List Stmt → List ExceptHandler → Bool} {st : Stmt} (h : tryF k st = true) : ∃ b x hs pos, st = .Try b (x :: hs) [] [] pos ∧ k b (x :: hs) = true := by
  unfold tryF at h
  split at h
  · exact ⟨_, _, _, _, rfl, h⟩
  · cases h
def ifF (k : Expr → List Stmt → List Stmt → Bool) : Stmt → Bool
  | .If v a b _ => k v a b
  | _ => false
def forF (k : Expr → Expr → List Stmt → Bool) : Stmt → Bool
  | .For t v b [] _ => k t v b
  | _ => false
theorem forF_ok {k : Expr → Expr → List Stmt → Bool} {st : Stmt} (h : forF k st = true) : ∃ t v b p, st = .For t v b [] p ∧ k t v b = true := by
  unfold forF at h
  split at h
  · exact ⟨_, _, _, _, rfl, h⟩
  · cases h
def whF (k : Expr → List Stmt → Bool) : Stmt → Bool
  | .While v b [] _ => k v b
  | _ => false
theorem whF_ok {k : Expr → List Stmt → Bool} {st : Stmt} (h : whF k st = true) : ∃ v b p, st = .While v b [] p ∧ k v b = true := by
  unfold whF at h
  split at h
  · exact ⟨_, _, _, rfl, h⟩
  · cases h
theorem ifF_ok {k : Expr → List Stmt → List Stmt → Bool} {st : Stmt} (h : ifF k st = true) : ∃ v a b p, st = .If v a b p ∧ k v a b = true := by
  cases st with
  | If v a b p => exact ⟨v, a, b, p, rfl, h⟩
  | _ => cases h
def exF (k : Expr → Bool) : Stmt → Bool
  | .Expr v _ => k v
  | _ => false
theorem exF_ok {k : Expr → Bool} {st : Stmt} (h : exF k st = true) : ∃ v p, st = .Expr v p ∧ k v = true := by
  cases st with
  | Expr v p => exact ⟨v, p, rfl, h⟩
  | _ => cases h
def retF (k : Expr → Bool) : Stmt → Bool
  | .Return (some v) _ => k v
  | _ => false
theorem retF_ok {k : Expr → Bool} {st : Stmt} (h : retF k st = true) : ∃ v p, st = .Return (some v) p ∧ k v = true := by
  unfold retF at h
  split at h
  · exact ⟨_, _, rfl, h⟩
  · cases h
def isRN : Stmt → Bool
  | .Return none _ => true
  | _ => false
theorem isRN_ok {st : Stmt} (h : isRN st = true) : ∃ p, st = .Return none p := by
  unfold isRN at h
  split at h
  · exact ⟨_, rfl⟩
  · cases h
def isBk : Stmt → Bool
  | .Break _ => true
  | _ => false
theorem isBk_ok {st : Stmt} (h : isBk st = true) : ∃ p, st = .Break p := by
  cases st with
  | Break p => exact ⟨p, rfl⟩
  | _ => cases h
def isCt : Stmt → Bool
  | .Continue _ => true
  | _ => false
theorem isCt_ok {st : Stmt} (h : isCt st = true) : ∃ p, st = .Continue p := by
  cases st with
  | Continue p => exact ⟨p, rfl⟩
  | _ => cases h
def isPs : Stmt → Bool
  | .Pass _ => true
  | _ => false
theorem isPs_ok {st : Stmt} (h : isPs st = true) : ∃ p, st = .Pass p := by
  cases st with
  | Pass p => exact ⟨p, rfl⟩
  | _ => cases h
def hdF (k : Str → Option Str → List Stmt → List ExceptHandler → Bool) : List ExceptHandler → Bool
  | .ExceptHandler (some (.Name x _)) nm (st :: sts) _ :: hds => k x nm (st :: sts) hds
  | _ => false
theorem hdF_ok {k : Str → Option Str → List Stmt → List ExceptHandler → Bool} {l : List ExceptHandler} (h : hdF k l = true) : ∃ x p nm st sts q hds, l = .ExceptHandler (some (.Name x p)) nm (st :: sts) q :: hds ∧ k x nm (st :: sts) hds = true := by
  unfold hdF at h
  split at h
  · exact ⟨_, _, _, _, _, _, _, rfl, h⟩
  · cases h
def asF (as : Option Nat) (nm : Option Str) (k0 : Bool) (k1 : Nat → Str → Bool) : Bool := match as, nm with
  | none, none => k0
  | some i, some y => k1 i y
  | _, _ => false
mutual
def chkS (G : Gs) : MS → Cn → Stmt → Bool
  | .asg i o m, c, st => asgF (fun t v => nmP (fun y py => decide (c.N[i]? = some y) && ((noCmp v && locB c y && (chk G m).v c v) || (isLC v && decide (c.sc.names.lookup y = some .cell) && c.fn y && (chk G m).v c v) || chkLs G c y py m v)) t) st
  | .asgT is m, c, st => asgF (fun t v => isTup t && noH c && tgB c is true t && noCmp v && noTup v && (chk G m).v c v) st
  | .asgL is m, c, st => asgF (fun t v => isTup t && noH c && tgB c is true t && noCmp v && noTup v && (chk G m).v c v) st
  | .setI a i m, c, st => asgF (fun t v => subS (fun l r => noSlice r && (chk G m).v c v && (chk G a).v c l && (chk G i).v c r) t) st
  | .augI a i op m, c, st => augF (fun t o v => aopO op o && subS (fun l r => noSlice r && (chk G a).v c l && (chk G i).v c r && (chk G m).v c v) t) st
  | .setA _ _ _, _, _ => false
  | .aug i op m, c, st => augF (fun t o v => aopO op o && nmP (fun y _ => decide (c.N[i]? = some y) && locB c y) t && (chk G m).v c v) st
  | .expr m, c, st => exF (fun v => noCmp v && (chk G m).v c v) st
  | .cond m a b, c, st => ifF (fun v x y => (chk G m).t c v && chkSs G a c x && chkSs G b c y) st
  | .for_ tg un m b, c, st => forF (fun t v x => noH c && tgB c tg un t && (chk G m).i c v && chkSs G b c x) st
  | .while_ m b, c, st => whF (fun v x => noH c && (chk G m).t c v && chkSs G b c x) st
  | .ret o m, c, st => retF (fun v => (chk G m).v c v) st
  | .retN, _, st => isRN st
  | .brk, _, st => isBk st
  | .cnt, _, st => isCt st
  | .pass, _, st => isPs st
  | .raise n ns ms, c, st => raiseF (fun x es => noH c && glB c x && decide (G.errs.lookup x = some (n, ns)) && !es.isEmpty && chks G ms c es) st
  | .try_ n b hs, c, st => tryF (fun x hds => noH c && decide (n ≤ G.nE) && chkSs G b c x && chkHs G n hs c hds) st
def chkSs (G : Gs) : MSs → Cn → List Stmt → Bool
  | .nil, _, l => l.isEmpty
  | .cons s ss, c, l => (match l with
      | st :: sts => chkS G s c st && chkSs G ss c sts
      | [] => false)
def chkHs (G : Gs) (n : Nat) : MHs → Cn → List ExceptHandler → Bool
  | .nil, _, l => l.isEmpty
  | .cons c0 as b hs, c, l => hdF (fun x nm sts hds => decide (c0 < n) && glB c x && decide (G.cls.lookup x = some c0) && asF as nm (chkSs G b (suiteCn c c.N.length c0) sts) (fun i y => decide (c.N[i]? = some y) && decide (c.sc.names.lookup y = some .local) && chkSs G b (suiteCn c i c0) sts) && chkHs G n hs c hds) l
end
section
variable {E : Ev}
theorem or2 {a b : Bool} (h : (a || b) = true) : a = true ∨ b = true := (Bool.or_eq_true _ _).mp h
theorem chkLs_ok (ok : EvOk E) {c : Cn} {j : Nat} {o2 : Bool} {y : Str} {py pos : Pos} {m : ME} {e : Expr} (hj : c.N[j]? = some y) (h : chkLs E.G c y py m e = true) : OkS E c (.asg j o2 m) (.Assign [.Name y py] e pos) := by
  cases m with
  | lc o elt tg un it k =>
    obtain ⟨x, t, i, ifs, sc, p, rfl, h⟩ := lcP_ok (show lcP _ e = true from h)
    obtain ⟨h, h6⟩ := and2 h
    obtain ⟨h, h5⟩ := and2 h
    obtain ⟨h, h4⟩ := and2 h
    obtain ⟨h, h3⟩ := and2 h
    obtain ⟨h, h2⟩ := and2 h
    obtain ⟨h0, h1⟩ := and2 h
    refine oks_setLc hj h0 (noH_ok h1) h2 h3 ((chk_ok ok it).i c i h4) ((chk_ok ok elt).v _ x h5) ?_
    rcases ifsS_ok h6 with ⟨h7, h8⟩ | ⟨q, h7, h8, h9⟩
    · exact .inl ⟨h7, h8⟩
    · exact .inr ⟨q, h7, h8, (chk_ok ok k).t _ q h9⟩
  | _ => cases h
mutual
theorem chkS_ok (ok : EvOk E) : ∀ (s : MS) (c : Cn) (st : Stmt), chkS E.G s c st = true → OkS E c s st
  | .asg i o m, c, st, h => by
    rw [chkS] at h
    obtain ⟨t, v, p, rfl, k0⟩ := asgF_ok h
    obtain ⟨y, py, rfl, k1⟩ := nmP_ok k0
    obtain ⟨h1, h2⟩ := and2 k1
    have hi := of_decide_eq_true h1
    rcases or2 h2 with h2 | h2
    · rcases or2 h2 with h2 | h2
      · obtain ⟨h2, h5⟩ := and2 h2
        obtain ⟨h3, h4⟩ := and2 h2
        exact oks_asg hi h4 h3 ((chk_ok ok m).v c v h5)
      · obtain ⟨h2, h6⟩ := and2 h2
        obtain ⟨h2, h5⟩ := and2 h2
        obtain ⟨h3, h4⟩ := and2 h2
        cases v with
        | ListComp e gs sc p => exact oks_asgC hi h4 h5 ((chk_ok ok m).v c _ h6)
        | _ => cases h3
    · exact chkLs_ok ok hi h2
  | .asgT is m, c, st, h => by
    rw [chkS] at h
    obtain ⟨t, v, p, rfl, k0⟩ := asgF_ok h
    obtain ⟨k0, h6⟩ := and2 k0
    obtain ⟨k0, h5⟩ := and2 k0
    obtain ⟨k0, h4⟩ := and2 k0
    obtain ⟨k0, h3⟩ := and2 k0
    obtain ⟨h1, h2⟩ := and2 k0
    cases t with
    | Tuple es k q => exact oks_asgT (noH_ok h2) h3 h4 h5 ((chk_ok ok m).v c v h6)
    | _ => cases h1
  | .asgL is m, c, st, h => by
    rw [chkS] at h
    obtain ⟨t, v, p, rfl, k0⟩ := asgF_ok h
    obtain ⟨k0, h6⟩ := and2 k0
    obtain ⟨k0, h5⟩ := and2 k0
    obtain ⟨k0, h4⟩ := and2 k0
    obtain ⟨k0, h3⟩ := and2 k0
    obtain ⟨h1, h2⟩ := and2 k0
    cases t with
    | Tuple es k q => exact oks_asgL (noH_ok h2) h3 h4 h5 ((chk_ok ok m).v c v h6)
    | _ => cases h1
  | .setI a i m, c, st, h => by
    rw [chkS] at h
    obtain ⟨t, v, p, rfl, k0⟩ := asgF_ok h
    obtain ⟨l, r, q, rfl, k1⟩ := subS_ok k0
    obtain ⟨k1, h4⟩ := and2 k1
    obtain ⟨k1, h3⟩ := and2 k1
    obtain ⟨h1, h2⟩ := and2 k1
    exact oks_setI h1 ((chk_ok ok m).v c v h2) ((chk_ok ok a).v c l h3) ((chk_ok ok i).v c r h4)
  | .augI a i op m, c, st, h => by
    rw [chkS] at h
    obtain ⟨t, o, v, p, rfl, k0⟩ := augF_ok h
    obtain ⟨h0, k0⟩ := and2 k0
    obtain ⟨l, r, q, rfl, k1⟩ := subS_ok k0
    obtain ⟨k1, h4⟩ := and2 k1
    obtain ⟨k1, h3⟩ := and2 k1
    obtain ⟨h1, h2⟩ := and2 k1
    exact oks_augI h0 h1 ((chk_ok ok a).v c l h2) ((chk_ok ok i).v c r h3) ((chk_ok ok m).v c v h4)
  | .setA _ _ _, c, st, h => by rw [chkS] at h; cases h
  | .aug i op m, c, st, h => by
    rw [chkS] at h
    obtain ⟨t, o, v, p, rfl, k0⟩ := augF_ok h
    obtain ⟨k0, h3⟩ := and2 k0
    obtain ⟨h1, h2⟩ := and2 k0
    obtain ⟨y, q, rfl, k1⟩ := nmP_ok h2
    obtain ⟨h4, h5⟩ := and2 k1
    exact oks_aug h1 (of_decide_eq_true h4) h5 ((chk_ok ok m).v c v h3)
  | .expr m, c, st, h => by
    rw [chkS] at h
    obtain ⟨v, p, rfl, k0⟩ := exF_ok h
    obtain ⟨h1, h2⟩ := and2 k0
    exact oks_expr h1 ((chk_ok ok m).v c v h2)
  | .cond m a b, c, st, h => by
    rw [chkS] at h
    obtain ⟨v, x, y, p, rfl, k0⟩ := ifF_ok h
    obtain ⟨k0, h3⟩ := and2 k0
    obtain ⟨h1, h2⟩ := and2 k0
    exact oks_cond ((chk_ok ok m).t c v h1) (chkSs_ok ok a c x h2) (chkSs_ok ok b c y h3)
  | .for_ tg un m b, c, st, h => by
    rw [chkS] at h
    obtain ⟨t, v, x, p, rfl, k0⟩ := forF_ok h
    obtain ⟨k0, h4⟩ := and2 k0
    obtain ⟨k0, h3⟩ := and2 k0
    obtain ⟨h1, h2⟩ := and2 k0
    exact oks_for (noH_ok h1) h2 ((chk_ok ok m).i c v h3) (chkSs_ok ok b c x h4)
  | .while_ m b, c, st, h => by
    rw [chkS] at h
    obtain ⟨v, x, p, rfl, k0⟩ := whF_ok h
    obtain ⟨k0, h3⟩ := and2 k0
    obtain ⟨h1, h2⟩ := and2 k0
    exact oks_while (noH_ok h1) ((chk_ok ok m).t c v h2) (chkSs_ok ok b c x h3)
  | .ret o m, c, st, h => by
    rw [chkS] at h
    obtain ⟨v, p, rfl, k0⟩ := retF_ok h
    exact oks_ret ((chk_ok ok m).v c _ k0)
  | .retN, c, st, h => by
    rw [chkS] at h
    obtain ⟨p, rfl⟩ := isRN_ok h
    exact oks_retN
  | .brk, c, st, h => by
    rw [chkS] at h
    obtain ⟨p, rfl⟩ := isBk_ok h
    exact oks_brk
  | .cnt, c, st, h => by
    rw [chkS] at h
    obtain ⟨p, rfl⟩ := isCt_ok h
    exact oks_cnt
  | .pass, c, st, h => by
    rw [chkS] at h
    obtain ⟨p, rfl⟩ := isPs_ok h
    exact oks_pass
  | .raise n ns ms, c, st, h => by
    rw [chkS] at h
    obtain ⟨x, p, es, p2, pos, rfl, k0⟩ := raiseF_ok h
    obtain ⟨k0, h5⟩ := and2 k0
    obtain ⟨k0, h4⟩ := and2 k0
    obtain ⟨k0, h3⟩ := and2 k0
    obtain ⟨h1, h2⟩ := and2 k0
    cases es with
    | nil => cases h4
    | cons e es => exact oks_raise ok (noH_ok h1) h2 (of_decide_eq_true h3) (chks_ok ok ms c _ h5)
  | .try_ n b hs, c, st, h => by
    rw [chkS] at h
    obtain ⟨x, y, hds, pos, rfl, k0⟩ := tryF_ok h
    obtain ⟨k0, h4⟩ := and2 k0
    obtain ⟨k0, h3⟩ := and2 k0
    obtain ⟨h1, h2⟩ := and2 k0
    exact oks_try ok (noH_ok h1) (of_decide_eq_true h2) (chkSs_ok ok b c x h3) (chkHs_ok ok n hs c _ h4)
theorem chkSs_ok (ok : EvOk E) : ∀ (s : MSs) (c : Cn) (st : List Stmt), chkSs E.G s c st = true → OkSs E c s st
  | .nil, c, st, h => by
    rw [chkSs] at h
    have he := List.isEmpty_iff.mp h
    subst he
    exact oks_nil
  | .cons s ss, c, st, h => by
    cases st with
    | nil => rw [chkSs] at h; cases h
    | cons st sts =>
      rw [chkSs] at h
      obtain ⟨h1, h2⟩ := and2 h
      exact oks_cons (chkS_ok ok s c st h1) (chkSs_ok ok ss c sts h2)
theorem chkHs_ok (ok : EvOk E) (n : Nat) : ∀ (hs : MHs) (c : Cn) (l : List ExceptHandler), chkHs E.G n hs c l = true → OkH E c n hs l
  | .nil, c, l, h => by
    rw [chkHs] at h
    have he := List.isEmpty_iff.mp h
    subst he
    trivial
  | .cons c0 as b hs, c, l, h => by
    rw [chkHs] at h
    obtain ⟨x, p, nm, st, sts, q, hds, rfl, k0⟩ := hdF_ok h
    obtain ⟨k0, h5⟩ := and2 k0
    obtain ⟨k0, h4⟩ := and2 k0
    obtain ⟨k0, h3⟩ := and2 k0
    obtain ⟨h1, h2⟩ := and2 k0
    have hr := chkHs_ok ok n hs c hds h5
    cases as with
    | none => cases nm with
      | none => exact ⟨of_decide_eq_true h1, h2, of_decide_eq_true h3, chkSs_ok ok b _ _ h4, hr⟩
      | some y => cases h4
    | some i => cases nm with
      | none => cases h4
      | some y =>
        obtain ⟨h4, h6⟩ := and2 (show (decide (c.N[i]? = some y) && decide (c.sc.names.lookup y = some .local) && chkSs E.G b (suiteCn c i c0) (st :: sts)) = true from h4)
        obtain ⟨h7, h8⟩ := and2 h4
        exact ⟨of_decide_eq_true h1, h2, of_decide_eq_true h3, of_decide_eq_true h7, of_decide_eq_true h8, chkSs_ok ok b _ _ h6, hr⟩
end
end
end Wh

/-! Wh, part 30: a def of the text keeps its promise; all of them, to any depth. -/
namespace Wh
open PySem L2 PySem.Spec PyProof.Rows
/-- the promise of a def by its small text -/
def spR (Z : Ctx) (cal : Cal) (fd : FD) : Sp := fun vs H Q X => ∃ as B F fp, Rel Z B B F fp as (vs.map some) H ∧ EndC Z as vs B F Q X (run1 cal fd as)
theorem spR_len {Z : Ctx} {cal : Cal} {fd : FD} {vs : List V} {H : Hp} {Q : VK} {X : XK} (h : spR Z cal fd vs H Q X) : vs.length = fd.np := by
  obtain ⟨as, B, F, fp, R, h⟩ := h
  have := R.ls
  rw [List.length_map] at this
  rw [this]
  unfold run1 at h
  split at h
  · assumption
  · exact h.elim
/-- what is known of a def: its text fits -/
structure DefOk (K : PySem.W.Frag) (G : Gs) (fd : FD) (f : Addr) (fdata : FuncData) (ps : List Str) : Prop where
  wit : ∃ (name qual : Str) (params : Arguments) (body : List Stmt) (scope : Scope) (dV kV doc pm cdv ct oc : Value) (an od : Option Addr) (osl : Array (Option Value)) (N : List Str),
    fdata = PySem.W.fnOf name qual params body scope dV kV doc pm an cdv ct ∧ K.lookup f = some ⟨oc, od, .func (PySem.W.fnOf name qual params body scope dV kV doc pm an cdv ct), osl⟩ ∧ PySem.W.codeIn K cdv qual = true ∧ FnScope N ps scope ∧ ps.length = fd.np ∧ N.length = fd.np + fd.nl ∧
    (stSs fd.body).all (fun i => decide (fd.np ≤ i) || fd.reb.contains i) = true ∧ chkSs G fd.body ⟨N, scope, none, fun _ => true⟩ body = true
theorem fn_ok {E : Ev} (ok : EvOk E) {fd : FD} {f : Addr} {fdata : FuncData} {ps : List Str} (D : DefOk E.K E.G fd f fdata ps) : FnOk E.P E.w E.K E.mg E.base (L2.CX E.P E.w) (E.k + 1) f fdata ps (spR E.Z E.cal fd) := by
  obtain ⟨name, qual, params, body, scope, dV, kV, doc, pm, cdv, ct, oc, an, od, osl, N, rfl, lk, hcd, S, hnp, hN, hreb, hk⟩ := D.wit
  refine fn_of lk hcd S (fun vs H Q X h => (spR_len h).trans hnp.symm) fun A outer s H vs Q X hr h => ?_
  have hl := spR_len h
  obtain ⟨as, B, F, fp, R, he⟩ := h
  obtain ⟨t, ht⟩ := chkSs_ok ok fd.body _ body hk (fun cls d _ H => X cls d H) (0, 0)
  have gs : GoodS E ⟨N, scope, none, fun _ => true⟩ (0, 0) (cxOf (L2.CX E.P E.w) E.P E.w E.K E.mg E.base N qual scope f cdv A outer s H X) E.Z (fun cls d _ H => X cls d H) :=
    ⟨⟨rfl, rfl, rfl, rfl, rfl, ok.zK.symm, rfl, rfl, S.nd, rfl, by have := hr.un; show (A.deeper _).units + 65 < cLine; omega, rfl, fun _ => ⟨rfl, rfl, hr⟩, fun _ _ h => nomatch h⟩, takes_of rfl rfl rfl rfl, fun _ => ⟨rfl, rfl, passes_of (K := fun e s'' => L2.CX E.P E.w outer H s X e s'') rfl⟩⟩
  obtain ⟨p, sn⟩ := ht _ _ gs
  refine ⟨t, p, ?_⟩
  have hal : as.length = vs.length := by have := R.ls; rw [List.length_map] at this; exact this.symm
  have e1 : start N vs = vs.map some ++ List.replicate (N.length - vs.length) none := rfl
  rw [e1]
  refine sn B (fun _ _ h => nomatch h) B F fp (as ++ List.replicate (N.length - vs.length) .un) _ H _ R.entry ?_
  refine end_ok R (by omega) (fun i hi hlt => ?_) he
  have := List.all_eq_true.mp hreb i hi
  simp only [Bool.or_eq_true, decide_eq_true_eq] at this
  rcases this with h | h
  · omega
  · exact h
/-- what does not depend on the depth -/
structure TopOk (P : Program) (w : World) (K : PySem.W.Frag) (mg : Str → Option Value) (base : Heap) (Z : Ctx) (G : Gs) (fs : List FD) : Prop where
  zK : Z.K = K
  zx : Z.xa = none
  fn : ∀ x i, G.fns.lookup x = some i → ∃ fd f fdata ps, fs[i]? = some fd ∧ mg x = some (.ref f) ∧ PySem.W.keepIn K (.ref f) = true ∧ DefOk K G fd f fdata ps ∧ Binds K fdata ps []
  cst : ∀ x d, G.cst.lookup x = some d → ∃ v u, mg x = some u ∧ RelV v u ∧ ∀ F, Is Z F v d
  bl : ∀ x ∈ bltN, mg x = none
  cl : ∀ x c, G.cls.lookup x = some c → mg x = some (.ref (Z.ca c))
  xf : ∀ (c : Nat) (x : Str), G.cls.lookup x = some c → XfC K (Z.ca c) ∧ ExcC K (Z.ca c) ∧ ∀ c0 x0, G.cls.lookup x0 = some c0 → PySem.W.kitOne K (.ref (Z.ca c0)) (.ref (Z.ca c)) = some (decide (c0 = c))
  fl : ∀ (x : Str) (c : Nat), G.cls.lookup x = some c → ∀ f ∈ G.flds, PySem.W.findIn K (.ref (Z.ca c)) f = some none
  er : ∀ x c ns, G.errs.lookup x = some (c, ns) → mg x = some (.ref (Z.ca c)) ∧ ns.length ≤ 900 ∧ ∃ fI fd ps, ErrC K (Z.ca c) fI ns ∧ FnOk P w K mg base (L2.CX P w) 1 fI fd ps (spInit (Z.ca c) ns) ∧ Binds K fd ps []
  ex : ∀ c' c, c' < G.nE → c < G.nE → PySem.W.exmOne K (.ref (Z.ca c')) (.ref (Z.ca c)) = some (decide (c' = c))
  xv : ∀ (c : Nat) (x : Str), G.cls.lookup x = some c → PySem.W.kitOne K (.ref (Z.ca c)) (.type "ValueError") = some true
theorem all_ok {P : Program} {w : World} {K : PySem.W.Frag} {mg : Str → Option Value} {base : Heap} {Z : Ctx} {G : Gs} {fs : List FD} (T : TopOk P w K mg base Z G fs) : ∀ d, EvOk ⟨P, w, K, mg, base, d + 2, callD fs d, Z, G⟩
  | 0 => ⟨T.zK, T.zx, fun x i h => by
      obtain ⟨fd, f, fdata, ps, _, h2, h3, h4, h5⟩ := T.fn x i h
      exact ⟨f, fdata, ps, h2, h3, ⟨fun vs H Q X q => by obtain ⟨_, _, _, _, _, h⟩ := q; exact h.elim, fun A outer s H args us vs Q X _ _ _ _ q => by obtain ⟨_, _, _, _, _, h⟩ := q; exact h.elim⟩, h5⟩,
    T.cst, T.bl, T.cl, T.xf, T.fl, fun x c ns h => by
      obtain ⟨h1, h2, fI, fd, ps, h3, h4, h5⟩ := T.er x c ns h
      exact ⟨h1, h2, fI, 1, fd, ps, h3, h4, h5, by show 1 + 1 ≤ 0 + 2; omega⟩, T.ex, T.xv⟩
  | d + 1 => ⟨T.zK, T.zx, fun x i h => by
      obtain ⟨fd, f, fdata, ps, h1, h2, h3, h4, h5⟩ := T.fn x i h
      refine ⟨f, fdata, ps, h2, h3, (fn_ok (all_ok T d) h4).imp fun vs H Q X q => ?_, h5⟩
      obtain ⟨as, B, F, fp, R, he⟩ := q
      refine ⟨as, B, F, fp, R, ?_⟩
      have e : callD fs (d + 1) i as = run1 (callD fs d) fd as := by simp only [callD, h1]
      have he : EndC Z as vs B F Q X (callD fs (d + 1) i as) := he
      rw [e] at he
      exact he,
    T.cst, T.bl, T.cl, T.xf, T.fl, fun x c ns h => by
      obtain ⟨h1, h2, fI, fd, ps, h3, h4, h5⟩ := T.er x c ns h
      exact ⟨h1, h2, fI, 1, fd, ps, h3, h4, h5, by show 1 + 1 ≤ d + 1 + 2; omega⟩, T.ex, T.xv⟩
end Wh

/-! Wh, part 31: the end: what the law's call asks. -/
namespace Wh
open PySem L2 PySem.Spec PyProof.Rows
/-- the law's call, at the entry -/
theorem law_sp {Z : Ctx} {cal : Cal} {i : Nat} {H : Hp} {a : Addr} {ns : List Int} {as' : List T} (hS : SqL Z.K H a (ns.map V.int)) (h : cal i [.scr ns] = .ok (.d (.bl true)) as') : sp Z cal i [.ref a] H (fun v _ => v = .bl true) fun _ _ _ => False := by
  refine ⟨[.scr ns], H, fun _ => none, fun _ => [], ⟨rfl, fun j t e => ?_, fun _ _ => rfl, fun _ _ h => (nomatch h), .refl H, .refl H, fun _ => .nil, fun _ _ _ _ h => (nomatch h), fun _ _ h => (nomatch h)⟩, ?_⟩
  · cases j with
    | zero =>
      simp at e
      subst e
      exact .inr ⟨.ref a, rfl, .scr hS⟩
    | succ j => simp at e
  · rw [h]
    intro v F' fp' H' fq le R' nb hn ho ap
    cases ho with
    | d h => cases h; rfl
theorem no_cx {P : Program} {w : World} {outer : List Env} {H : Hp} {s : Shared} {e : Value} {s' : Shared} : L2.CX P w outer H s (fun _ _ _ => False) e s' → False := fun c => by
  obtain ⟨_, _, _, _, _, _, _, _, _, _, _, _, h⟩ := c
  exact h
/-- the classes' addresses, by their names -/
def caOf (K : PySem.W.Frag) (ns : List Str) (c : Nat) : Addr := match ns[c]? with
  | some x => match PySem.W.nsIn K mainGlobals x with
    | some (some (.ref C)) => C
    | _ => 0
  | none => 0
def zOf (K : PySem.W.Frag) (ns : List Str) : Ctx := { K := K, ca := caOf K ns }
/-- the def that the law calls -/
structure LawOk (K : PySem.W.Frag) (mg : Str → Option Value) (G : Gs) (fd : FD) (x : Str) : Prop where
  wit : ∃ (f : Addr) (fdata : FuncData), mg x = some (.ref f) ∧ DefOk K G fd f fdata [("script" : Str)] ∧ ∀ (s : Shared) (u : Value), BindsTo s fdata ⟨[u], []⟩ [(("script" : Str), u)]
/-- the goal that the head leaves -/
theorem walk {l : PySem.W.OpenLaw} {q : Program} {loose : List Str} {XP : (Str → Option Value) → Heap → Prop} {YP : World → Heap → Prop} {dr : DefRec} {K : Params → PySem.W.Frag} {names : List Str} {G : Gs} {fs : List FD} {fd : FD} {d i : Nat} (hn : l.most = some 63) (hdf : dr.params.defaults = []) (hr : Room (d + 3) callerA)
    (hY : ∀ (w : World) (h : Heap), YP w h → (K w.params).In h) (hi : fs[i]? = some fd)
    (T : ∀ (w : World) (mg : Str → Option Value) (h : Heap), (K w.params).In h → h.Ns mainGlobals mg → (∀ base : Heap, TopOk l.prog w (K w.params) mg base (zOf (K w.params) names) G fs) ∧ LawOk (K w.params) mg G fd dr.name)
    (law : ∀ ns : List Int, ns.length ≤ 63 → ∃ as', callD fs (d + 1) i [.scr ns] = .ok (.d (.bl true)) as') : PySem.W.WalkO q loose XP YP l.row.toRowW dr [] (fun f vs => PySem.call f vs) := by
  refine L2.walk_of (n := 63) (k := d + 3) (x := "script") (CX := fun w => L2.CX l.prog w) (sp := fun w => sp (zOf (K w.params) names) (callD fs (d + 1)) i) hn (by decide) hdf hr hY (fun w mg fa h KX Gm hmg => ?_) (fun w H a ns hl _ hS => ?_) fun w H s e s' => no_cx
  · obtain ⟨f, fdata, h2, h4, hbb⟩ := (T w mg h KX Gm).2.wit
    have e := hmg.symm.trans h2
    cases e
    refine ⟨fdata, hbb, fun base _ _ => ?_⟩
    have F := fn_ok (all_ok ((T w mg h KX Gm).1 base) d) h4
    refine F.imp fun vs H Q X q => ?_
    obtain ⟨as, B, F', fp, R, he⟩ := q
    refine ⟨as, B, F', fp, R, ?_⟩
    have e : callD fs (d + 1) i as = run1 (callD fs d) fd as := by simp only [callD, hi]
    have he : EndC _ as vs B F' Q X (callD fs (d + 1) i as) := he
    rw [e] at he
    exact he
  · obtain ⟨as', e⟩ := law ns hl
    exact law_sp hS e
end Wh

/-! Wh, part 32: words for a law's head. -/
namespace Wh
open PySem L2 PySem.Spec PyProof.Rows
theorem lk_cons {α : Type} {x y : Str} {a b : α} {l : List (Str × α)} (h : List.lookup x ((y, a) :: l) = some b) : (x = y ∧ b = a) ∨ List.lookup x l = some b := by
  rw [List.lookup_cons] at h
  cases e : x == y with
  | true => rw [e] at h; exact .inl ⟨eq_of_beq e, (Option.some.inj h).symm⟩
  | false => rw [e] at h; exact .inr h
theorem lk_nil {α : Type} {x : Str} {b : α} {p : Prop} (h : List.lookup x ([] : List (Str × α)) = some b) : p := by
  cases h
theorem mem_c {α : Type} {x y : α} {l : List α} (h : x ∈ y :: l) : x = y ∨ x ∈ l := List.mem_cons.mp h
theorem mem_n {α : Type} {x : α} {p : Prop} (h : x ∈ ([] : List α)) : p := nomatch h
/-- what the text says of an own error -/
structure EFact (P : Program) (w : World) (K : PySem.W.Frag) (mg : Str → Option Value) (base : Heap) (x : Str) (C : Addr) (ns : List Str) (flds : List Str) : Prop where
  gm : mg x = some (.ref C)
  xf : XfC K C
  ec : ExcC K C
  fl : ∀ f ∈ flds, PySem.W.findIn K (.ref C) f = some none
  er : ∃ fI fd ps, ErrC K C fI ns ∧ FnOk P w K mg base (L2.CX P w) 1 fI fd ps (spInit C ns) ∧ Binds K fd ps []
theorem ca_is {K : PySem.W.Frag} {ns : List Str} {c : Nat} {x : Str} {C : Addr} (h1 : ns[c]? = some x) (h2 : PySem.W.nsIn K mainGlobals x = some (some (.ref C))) : (zOf K ns).ca c = C := by
  show caOf K ns c = C
  simp only [caOf, h1, h2]
theorem cst_int {K : PySem.W.Frag} {h : Heap} {mg : Str → Option Value} {Z : Ctx} {x : Str} {i : Int} (X : K.In h) (Gm : h.Ns mainGlobals mg) (g : ∃ tk, PySem.W.nsIn K mainGlobals x = some (some (.int i tk))) : ∃ v u, mg x = some u ∧ RelV v u ∧ ∀ F, Is Z F v (.int i) := by
  obtain ⟨tk, g⟩ := g
  exact ⟨.int i, _, PySem.W.mg_of X Gm g, ⟨tk, rfl⟩, fun _ => .int i⟩
theorem kitVE {K : PySem.W.Frag} {C : Addr} (h : PySem.W.subIn K (.ref C) (.type "ValueError") = some true) : PySem.W.kitOne K (.ref C) (.type "ValueError") = some true := by
  unfold PySem.W.kitOne
  split
  · rfl
  · unfold PySem.W.kitCls
    show (if PySem.W.kitMeta "ValueError" = true then _ else _) = _
    rw [if_pos (by decide +kernel)]
    exact h
/-- a constant: a tuple of texts -/
theorem cst_strs {K : PySem.W.Frag} {h : Heap} {mg : Str → Option Value} {names : List Str} {x : Str} {A : Addr} {o : Obj} {its : Array Value} {n : Nat} {xs : List Str} (X : K.In h) (Gm : h.Ns mainGlobals mg) (g : PySem.W.nsIn K mainGlobals x = some (some (.ref A)))
    (l : K.lookup A = some o) (hc : o.cls = .type "tuple") (hd : o.data = .seq its n) (hs : its.size ≤ sizeLine) (hv : Vals (xs.map V.str) its.toList) : ∃ v u, mg x = some u ∧ RelV v u ∧ ∀ F, Is (zOf K names) F v (.tup (xs.map D.str)) := by
  refine ⟨.ref A, _, PySem.W.mg_of X Gm g, rfl, fun F => .tup (vs := xs.map V.str) (.inr ⟨o, its, n, l, hc, hd, hs, hv⟩) ?_⟩
  clear hv
  induction xs with
  | nil => exact .nil
  | cons y ys ih => exact .cons (.str y) ih
theorem kitc_of {K : PySem.W.Frag} {A B : Addr} {o : Obj} {b : Bool} (l : K.lookup B = some o) (h : ∃ cd, o.data = .cls cd) (t : PySem.W.typeIn K (.ref B) = some (.type "type")) (s : PySem.W.subIn K (.ref A) (.ref B) = some b) : PySem.W.kitCls K (.ref A) (.ref B) = some b := by
  obtain ⟨cd, h⟩ := h
  obtain ⟨oc, od, da, sl⟩ := o
  cases h
  have e : ((PySem.W.clsIn K B).isSome && PySem.W.typeIn K (.ref B) == some (.type "type")) = true := by
    simp only [PySem.W.clsIn, l, t]
    rfl
  show (if _ then _ else _) = _
  rw [if_pos e, s]
theorem exm_of {K : PySem.W.Frag} {A B : Addr} {o : Obj} {b : Bool} (l : K.lookup B = some o) (h : ∃ cd, o.data = .cls cd) (t : PySem.W.typeIn K (.ref B) = some (.type "type")) (x : PySem.W.subIn K (.ref B) (.type "BaseException") = some true) (s : PySem.W.subIn K (.ref A) (.ref B) = some b) : PySem.W.exmOne K (.ref A) (.ref B) = some b := by
  have e : (PySem.W.subIn K (.ref B) (.type "BaseException") == some true) = true := by rw [x]; rfl
  show (if _ then _ else _) = _
  rw [if_pos e, kitc_of l h t s]
theorem kit_of {K : PySem.W.Frag} {A B : Addr} {o : Obj} {b : Bool} (l : K.lookup B = some o) (h : ∃ cd, o.data = .cls cd) (t : PySem.W.typeIn K (.ref B) = some (.type "type")) (s0 : PySem.W.subIn K (.ref B) (.ref B) = some true) (s : PySem.W.subIn K (.ref A) (.ref B) = some b) : PySem.W.kitOne K (.ref A) (.ref B) = some b := by
  show (if _ then _ else _) = _
  split
  · rename_i e
    have e := eq_of_beq e
    cases e
    rw [s0] at s
    exact s
  · exact kitc_of l h t s
end Wh

/-! Wm, part 1: conditions reckoned ahead. -/
namespace Wh
open PySem L2

abbrev QE := Exc → G → Prop
def Out.sat {α : Type} (o : Out α) (E : QE) (Q : α → G → Prop) : Prop := match o with
  | .ok a g => Q a g
  | .ex e g => E e g
  | .bad => False
theorem Out.sat.mono {α : Type} {o : Out α} {E : QE} {Q R : α → G → Prop} (h : o.sat E Q) (k : ∀ a g, Q a g → R a g) : o.sat E R := by
  cases o <;> first | exact k _ _ h | exact h
theorem Out.sat.bind {α β : Type} {o : Out α} {f : α → G → Out β} {E : QE} {Q : β → G → Prop} (h : o.sat E fun a g => (f a g).sat E Q) : (o.bind f).sat E Q := by
  cases o <;> exact h
def SO.sat (o : SO) (N : G → Prop) (Q : SO → Prop) : Prop := match o with
  | .nx g => N g
  | .bad => False
  | .rt t g => Q (.rt t g)
  | .bk g => Q (.bk g)
  | .ct g => Q (.ct g)
  | .ex e g => Q (.ex e g)
theorem SO.sat.mono {o : SO} {N M : G → Prop} {Q : SO → Prop} (h : o.sat N Q) (k : ∀ g, N g → M g) : o.sat M Q := by
  cases o <;> first | exact k _ h | exact h
theorem Out.sat.so {α : Type} {o : Out α} {f : α → G → SO} {N : G → Prop} {Q : SO → Prop} (h : o.sat (fun e g => Q (.ex e g)) fun a g => (f a g).sat N Q) : (o.so f).sat N Q := by
  cases o <;> exact h
theorem SO.sat.seq {o : SO} {f : G → SO} {N : G → Prop} {Q : SO → Prop} (h : o.sat (fun g => (f g).sat N Q) Q) : (o.seq f).sat N Q := by
  cases o <;> exact h

/-- the state's spine is reckoned ahead -/
def normG : G → (G → Prop) → Prop
  | [], k => k []
  | a :: g, k => normG g fun g1 => k (a :: g1)
theorem normG_eq : ∀ (g : G) (k : G → Prop), normG g k = k g
  | [], k => rfl
  | a :: g, k => normG_eq g _
/-! ### what an operator asks -/
abbrev mulOk (a b : Int) : Prop := (-18446744073709551616 < a ∧ a < 18446744073709551616) ∨ (-18446744073709551616 < b ∧ b < 18446744073709551616)
abbrev divOk (b : Int) : Prop := 0 < b ∧ b < 1000000000000000000000000000000000000000000000000000000000000
theorem log_small {b : Int} (h : divOk b) : b.natAbs.log2 < 9000 := by
  obtain ⟨h1, h2⟩ := h
  have : b.natAbs < 2 ^ 200 := by omega
  have := (Nat.log2_lt (by omega)).2 this
  omega
def binD (op : BOp) (o : Bool) (x y : D) (g : G) (Q : R → G → Prop) : Prop := match o, op, x, y with
  | false, .add, .int a, .int b => Q (.t (.d (.int (a + b)))) g
  | false, .sub, .int a, .int b => Q (.t (.d (.int (a - b)))) g
  | false, .mul, .int a, .int b => mulOk a b ∧ Q (.t (.d (.int (a * b)))) g
  | false, .div, .int a, .int b => divOk b ∧ Q (.t (.d (.int (a / b)))) g
  | false, .mod, .int a, .int b => 0 < b ∧ Q (.t (.d (.int (a % b)))) g
  | false, .pow, .int a, .int b => (0 ≤ b ∧ b ≤ 1000000 ∧ a.natAbs < 18446744073709551616) ∧ Q (.t (.d (.int (a ^ b.toNat)))) g
  | o, .add, .lst a, .lst b => a.length + b.length ≤ sizeLine ∧ Q (.t (mkl o (a ++ b))) g
  | o, op, x, y => match binop op x y with
    | some z => match fresh o z with
      | some t => Q (.t t) g
      | none => False
    | none => False
def binW (op : BOp) (o : Bool) (ra rb : R) (g : G) (Q : R → G → Prop) : Prop := match ra.sh g, rb.sh g with
  | some x, some y => binD op o x y g Q
  | _, _ => False
theorem binW_ok {op : BOp} {o : Bool} {ra rb : R} {g : G} {E : QE} {Q : R → G → Prop} (h : binW op o ra rb g Q) : (binR op o ra rb g).sat E Q := by
  unfold binW at h
  unfold binR
  split at h
  · next x y e1 e2 =>
    try rw [e1, e2]
    show Out.sat (match binop op x y with
      | some z => lift ((fresh o z).map .t) g
      | none => .bad) E Q
    unfold binD at h
    split at h
    · exact h
    · exact h
    · next a b =>
      obtain ⟨k, h⟩ := h
      have : (smallI a || smallI b) = true := by
        unfold mulOk at k
        simp only [smallI, Bool.or_eq_true, Bool.and_eq_true, decide_eq_true_eq]
        omega
      simp only [binop, this, if_true]
      exact h
    · next a b =>
      obtain ⟨k, h⟩ := h
      have l := log_small k
      simp only [binop, decide_eq_true k.1, decide_eq_true l, Bool.and_true, if_true]
      exact h
    · obtain ⟨k, h⟩ := h
      simp only [binop, k, if_true]
      exact h
    · next a b =>
      obtain ⟨⟨k1, k2, k3⟩, h⟩ := h
      have k3 : a.natAbs < 2 ^ 64 := by omega
      simp only [binop, decide_eq_true k1, decide_eq_true k2, decide_eq_true k3, Bool.and_true, if_true]
      exact h
    · obtain ⟨k, h⟩ := h
      simp only [binop, if_pos k]
      exact h
    · split at h
      · next z e =>
        split at h
        · next e =>
          simp only [e]
          exact h
        · exact h.elim
      · exact h.elim
  · exact h.elim

theorem eqv_int (a b : Int) : PyData.eqv (.int a) (.int b) = decide (a = b) := by
  rw [show PyData.eqv (.int a) (.int b) = (a == b) from rfl]
  by_cases h : a = b
  · simp [h]
  · simp [h]
theorem eqD_int (a b : Int) : eqD (.int a) (.int b) = some (decide (a = b)) := by
  rw [show eqD (.int a) (.int b) = eqP (.int a) (.int b) from rfl]
  unfold eqP
  rw [show (SeqAt.shaped (.int a) && SeqAt.shaped (.int b)) = true from rfl, eqv_int]
  rfl
def cmpV (op : COp) (x y : D) (g : G) (Q : R → G → Prop) : Prop := match op, x, y with
  | .eq, .int a, .int b => Q (.t (.d (.bl (decide (a = b))))) g
  | .ne, .int a, .int b => Q (.t (.d (.bl (!decide (a = b))))) g
  | op, x, y => ∃ c, cmpop op x y = some c ∧ Q (.t (.d (.bl c))) g
def cmpT (op : COp) (x y : D) (g : G) (Q : Bool → G → Prop) : Prop := match op, x, y with
  | .eq, .int a, .int b => (a = b → Q true g) ∧ (¬ a = b → Q false g)
  | .ne, .int a, .int b => (¬ a = b → Q true g) ∧ (a = b → Q false g)
  | .lt, .int a, .int b => (a < b → Q true g) ∧ (b ≤ a → Q false g)
  | .le, .int a, .int b => (a ≤ b → Q true g) ∧ (b < a → Q false g)
  | .gt, .int a, .int b => (b < a → Q true g) ∧ (a ≤ b → Q false g)
  | .ge, .int a, .int b => (b ≤ a → Q true g) ∧ (a < b → Q false g)
  | op, x, y => ∃ c, cmpop op x y = some c ∧ match c with
    | true => Q true g
    | false => Q false g
end Wh

/-! Wm, part 2: expressions. -/
namespace Wh
open PySem L2

def cmpVW (op : COp) (ra rb : R) (g : G) (Q : R → G → Prop) : Prop := match ra.vw g, rb.vw g with
  | some x, some y => cmpV op x y g Q
  | _, _ => False
def cmpTW (op : COp) (ra rb : R) (g : G) (Q : Bool → G → Prop) : Prop := match ra.vw g, rb.vw g with
  | some x, some y => cmpT op x y g Q
  | _, _ => False
theorem cmpVW_ok {op : COp} {ra rb : R} {g : G} {E : QE} {Q : R → G → Prop} (h : cmpVW op ra rb g Q) : (cmpR op ra rb g).sat E Q := by
  unfold cmpVW at h
  unfold cmpR
  split at h
  · next x y e1 e2 =>
    try rw [e1, e2]
    show Out.sat (lift ((cmpop op x y).map fun c => .t (.d (.bl c))) g) E Q
    unfold cmpV at h
    split at h
    · simp only [cmpop, eqD_int]; exact h
    · simp only [cmpop, eqD_int]; exact h
    · obtain ⟨c, e, h⟩ := h
      rw [e]; exact h
  · exact h.elim
theorem tru_bl {c : Bool} {g : G} {E : QE} {Q : Bool → G → Prop} (h : Q c g) : (truR (.t (.d (.bl c))) g).sat E Q := h
theorem cmpTW_ok {op : COp} {ra rb : R} {g : G} {E : QE} {Q : Bool → G → Prop} (h : cmpTW op ra rb g Q) : ((cmpR op ra rb g).bind truR).sat E Q := by
  apply Out.sat.bind
  unfold cmpTW at h
  unfold cmpR
  split at h
  · next x y e1 e2 =>
    try rw [e1, e2]
    show Out.sat (lift ((cmpop op x y).map fun c => R.t (T.d (.bl c))) g) E fun a g => (truR a g).sat E Q
    unfold cmpT at h
    split at h
    · next a b => simp only [cmpop, eqD_int]; obtain ⟨h1, h2⟩ := h; by_cases k : a = b
                  · exact (by rw [decide_eq_true k]; exact h1 k : Q (decide (a = b)) g)
                  · exact (by rw [decide_eq_false k]; exact h2 k : Q (decide (a = b)) g)
    · next a b => simp only [cmpop, eqD_int]; obtain ⟨h1, h2⟩ := h; by_cases k : a = b
                  · exact (by rw [decide_eq_true k]; exact h2 k : Q (!decide (a = b)) g)
                  · exact (by rw [decide_eq_false k]; exact h1 k : Q (!decide (a = b)) g)
    · next a b => obtain ⟨h1, h2⟩ := h; by_cases k : a < b
                  · exact (by rw [decide_eq_true k]; exact h1 k : Q (decide (a < b)) g)
                  · exact (by rw [decide_eq_false k]; exact h2 (by omega) : Q (decide (a < b)) g)
    · next a b => obtain ⟨h1, h2⟩ := h; by_cases k : a ≤ b
                  · exact (by rw [decide_eq_true k]; exact h1 k : Q (decide (a ≤ b)) g)
                  · exact (by rw [decide_eq_false k]; exact h2 (by omega) : Q (decide (a ≤ b)) g)
    · next a b => obtain ⟨h1, h2⟩ := h; by_cases k : b < a
                  · exact (by rw [decide_eq_true k]; exact h1 k : Q (decide (b < a)) g)
                  · exact (by rw [decide_eq_false k]; exact h2 (by omega) : Q (decide (b < a)) g)
    · next a b => obtain ⟨h1, h2⟩ := h; by_cases k : b ≤ a
                  · exact (by rw [decide_eq_true k]; exact h1 k : Q (decide (b ≤ a)) g)
                  · exact (by rw [decide_eq_false k]; exact h2 (by omega) : Q (decide (b ≤ a)) g)
    · obtain ⟨c, e, h⟩ := h
      rw [e]; cases c
      · exact (h : Q false g)
      · exact (h : Q true g)
  · exact h.elim

def blT (b : Bool) (g : G) (Q : Bool → G → Prop) : Prop := (b = true → Q true g) ∧ (b = false → Q false g)
def truW (r : R) (g : G) (Q : Bool → G → Prop) : Prop := match r.tree g with
  | some t => match t.truth with
    | some b => match b with
      | true => Q true g
      | false => Q false g
    | none => False
  | none => False
/-- a value that is asked for its truth -/
def truV (r : R) (g : G) (Q : Bool → G → Prop) : Prop := match r with
  | .t (.d (.int i)) => (i ≠ 0 → Q true g) ∧ (i = 0 → Q false g)
  | r => truW r g Q
theorem blT_ok {b : Bool} {g : G} {Q : Bool → G → Prop} (h : blT b g Q) : Q b g := by
  cases b
  · exact h.2 rfl
  · exact h.1 rfl
theorem truW_ok {r : R} {g : G} {E : QE} {Q : Bool → G → Prop} (h : truW r g Q) : (truR r g).sat E Q := by
  unfold truW at h
  unfold truR
  split at h
  · next t e =>
    try rw [e]
    split at h
    · next b e => 
      show Out.sat (lift t.truth g) E Q
      try rw [e]
      split at h <;> exact h
    · exact h.elim
  · exact h.elim
theorem truV_ok {r : R} {g : G} {E : QE} {Q : Bool → G → Prop} (h : truV r g Q) : (truR r g).sat E Q := by
  unfold truV at h
  split at h
  · next i =>
    by_cases k : i = 0
    · subst k; exact (h.2 rfl : Q false g)
    · have : (i != 0) = true := by simp [k]
      show Q (i != 0) g
      rw [this]; exact h.1 k
  · exact truW_ok h

abbrev OkV {α : Type} (w : G → QE → (α → G → Prop) → Prop) (s : G → Out α) : Prop := ∀ g E Q, w g E Q → (s g).sat E Q
/-- the meanings as conditions -/
structure Wm where
  v : G → QE → (R → G → Prop) → Prop
  t : G → QE → (Bool → G → Prop) → Prop
  i : G → QE → (List T × Option Nat → G → Prop) → Prop
  o : G → QE → (Option Int → G → Prop) → Prop
structure WOk (w : Wm) (s : Sm) : Prop where
  v : OkV w.v s.v
  t : OkV w.t s.t
  i : OkV w.i s.i
  o : OkV w.o s.o
def mkW (v : G → QE → (R → G → Prop) → Prop) : Wm := ⟨v, fun g E Q => v g E fun r g1 => truV r g1 Q, fun g E Q => v g E fun r g1 => (itmR r g1).sat E Q, fun g E Q => v g E fun r g1 => (bndR r g1).sat E Q⟩
theorem mkW_ok {v : G → QE → (R → G → Prop) → Prop} {s : G → Out R} (h : OkV v s) : WOk (mkW v) (mkS s) :=
  ⟨h, fun g E Q k => .bind ((h _ _ _ k).mono fun _ _ j => truV_ok j), fun g E Q k => .bind (h _ _ _ k), fun g E Q k => .bind (h _ _ _ k)⟩
def noI : G → QE → (List T × Option Nat → G → Prop) → Prop := fun _ _ _ => False
def noO : G → QE → (Option Int → G → Prop) → Prop := fun _ _ _ => False
def noV : G → QE → (R → G → Prop) → Prop := fun _ _ _ => False
def noT : G → QE → (Bool → G → Prop) → Prop := fun _ _ _ => False

def asideW {α : Type} (i : Nat) (g : G) (W : G → QE → (α → G → Prop) → Prop) (E : QE) (Q : α → G → Prop) : Prop := match g[i]? with
  | none => False
  | some t => W (g.set i .un) (fun e g1 => E e (g1.set i t)) fun a g1 => Q a (g1.set i t)
def underW {α : Type} (r : R) (g : G) (W : G → QE → (α → G → Prop) → Prop) (E : QE) (Q : α → G → Prop) : Prop := match r with
  | .p i (k :: q) => match R.tree g (.p i (k :: q)) with
    | some _ => asideW i g W E Q
    | none => False
  | _ => W g E Q
theorem asideW_ok {α : Type} {i : Nat} {g : G} {W : G → QE → (α → G → Prop) → Prop} {f : G → Out α} (hf : OkV W f) {E : QE} {Q : α → G → Prop} (h : asideW i g W E Q) : (aside i g f).sat E Q := by
  unfold asideW at h
  unfold aside
  split at h
  · exact h.elim
  · next t e =>
    try rw [e]
    have := hf _ _ _ h
    cases hh : f (g.set i .un) with
    | ok a g1 => rw [hh] at this; exact this
    | ex a g1 => rw [hh] at this; exact this
    | bad => rw [hh] at this; exact this
theorem underW_ok {α : Type} {r : R} {g : G} {W : G → QE → (α → G → Prop) → Prop} {f : G → Out α} (hf : OkV W f) {E : QE} {Q : α → G → Prop} (h : underW r g W E Q) : (under r g f).sat E Q := by
  unfold underW at h
  split at h
  · next i k q =>
    show Out.sat (match R.tree g (.p i (k :: q)) with
      | some _ => aside i g f
      | none => .bad) E Q
    split at h
    · exact asideW_ok hf h
    · exact h.elim
  · next hn =>
    have : under r g f = f g := by
      unfold under
      split
      · exact (hn _ _ _ rfl).elim
      · rfl
    rw [this]; exact hf _ _ _ h
def bin2W (wa wb : G → QE → (R → G → Prop) → Prop) (f : R → R → G → QE → (R → G → Prop) → Prop) (g : G) (E : QE) (Q : R → G → Prop) : Prop :=
  wa g E fun ra g1 => underW ra g1 wb E fun rb g2 => f ra rb g2 E Q
theorem bin2W_ok {β : Type} {wa wb : G → QE → (R → G → Prop) → Prop} {sa sb : G → Out R} (ha : OkV wa sa) (hb : OkV wb sb)
    {F : R → R → G → Prop} {f : R → R → G → Out β} {g : G} {E : QE} {Q : β → G → Prop} (hf : ∀ ra rb g, F ra rb g → (f ra rb g).sat E Q) (h : wa g E fun ra g1 => underW ra g1 wb E fun rb g2 => F ra rb g2) : ((sa g).bind fun ra g1 => (under ra g1 sb).bind fun rb g2 => f ra rb g2).sat E Q :=
  .bind ((ha _ _ _ h).mono fun ra g1 k => .bind ((underW_ok hb k).mono fun rb g2 k => hf _ _ _ k))
def raw2 (f : R → R → G → Out R) : R → R → G → QE → (R → G → Prop) → Prop := fun ra rb g E Q => (f ra rb g).sat E Q
def idxW (ra ri : R) (g : G) (Q : R → G → Prop) : Prop := match ra.tree g, ri with
  | some t, .t (.d j) => ∃ r, idxR ra t j = some r ∧ Q r g
  | _, _ => False
theorem idxW_ok {ra ri : R} {g : G} {E : QE} {Q : R → G → Prop} (h : idxW ra ri g Q) : (idxO ra ri g).sat E Q := by
  unfold idxW at h
  unfold idxO
  split at h
  · next t j e =>
    try rw [e]
    show Out.sat (lift (idxR ra t j) g) E Q
    obtain ⟨r, e, h⟩ := h
    rw [e]; exact h
  · exact h.elim
def dixW (ra ri : R) (g : G) (Q : R → G → Prop) : Prop := match ra.tree g, ri with
  | some t, .t (.d j) => ∃ r, dixR ra t j = some (some r) ∧ Q r g
  | _, _ => False
theorem dixW_ok {ra ri : R} {g : G} {E : QE} {Q : R → G → Prop} (h : dixW ra ri g Q) : (dixO ra ri g).sat E Q := by
  unfold dixW at h
  unfold dixO
  split at h
  · next t j e =>
    try rw [e]
    show Out.sat (match dixR ra t j with
      | some (some r) => .ok r g
      | _ => .bad) E Q
    obtain ⟨r, e, h⟩ := h
    rw [e]; exact h
  · exact h.elim
def callW (cal : Cal) (f : Nat) (rs : List R) (g : G) (E : QE) (Q : R → G → Prop) : Prop := match toArgs rs g with
  | none => False
  | some (as, g1) => ∃ co, cal f as = co ∧ (callE rs g1 co).sat E fun r g2 => normG g2 (Q r)
theorem callW_ok {cal : Cal} {f : Nat} {rs : List R} {g : G} {E : QE} {Q : R → G → Prop} (h : callW cal f rs g E Q) : (callR cal f rs g).sat E Q := by
  unfold callW at h
  unfold callR
  split at h
  · exact h.elim
  · next e => try rw [e]
              obtain ⟨co, e2, h⟩ := h; rw [← e2] at h; exact h.mono fun r g2 j => by rw [normG_eq] at j; exact j
def andV (ra : R) (wb : G → QE → (R → G → Prop) → Prop) (g : G) (E : QE) (Q : R → G → Prop) : Prop := match ra with
  | .t (.d (.bl c)) => match c with
    | true => wb g E Q
    | false => Q (.t (.d (.bl false))) g
  | _ => False
def orV (ra : R) (wb : G → QE → (R → G → Prop) → Prop) (g : G) (E : QE) (Q : R → G → Prop) : Prop := match ra with
  | .t (.d (.bl c)) => match c with
    | false => wb g E Q
    | true => Q (.t (.d (.bl true))) g
  | _ => False
theorem andV_ok {ra : R} {wb : G → QE → (R → G → Prop) → Prop} {sb : G → Out R} (hb : OkV wb sb) {g : G} {E : QE} {Q : R → G → Prop} (h : andV ra wb g E Q) : (andR ra sb g).sat E Q := by
  unfold andV at h
  split at h
  · next c =>
    cases c
    · exact h
    · exact hb _ _ _ h
  · exact h.elim
theorem orV_ok {ra : R} {wb : G → QE → (R → G → Prop) → Prop} {sb : G → Out R} (hb : OkV wb sb) {g : G} {E : QE} {Q : R → G → Prop} (h : orV ra wb g E Q) : (orR ra sb g).sat E Q := by
  unfold orV at h
  split at h
  · next c =>
    cases c
    · exact hb _ _ _ h
    · exact h
  · exact h.elim
def chainW (op op2 : COp) (ra rb : R) (wc : G → QE → (R → G → Prop) → Prop) (g : G) (E : QE) (Q : R → G → Prop) : Prop := match ra, rb with
  | .t (.d (.int x)), .t (.d (.int y)) => cmpT op (.int x) (.int y) g fun k g => match k with
    | true => wc g E fun rc g3 => match rc with
      | .t (.d (.int z)) => cmpT op2 (.int y) (.int z) g3 fun k g => Q (.t (.d (.bl k))) g
      | _ => False
    | false => Q (.t (.d (.bl false))) g
  | _, _ => False
theorem cmpT_ok {op : COp} {x y : D} {g : G} {Q : Bool → G → Prop} (h : cmpT op x y g Q) : ∃ c, cmpop op x y = some c ∧ Q c g := by
  unfold cmpT at h
  split at h
  · next a b => refine ⟨_, eqD_int a b, ?_⟩; obtain ⟨h1, h2⟩ := h; by_cases k : a = b
                · rw [decide_eq_true k]; exact h1 k
                · rw [decide_eq_false k]; exact h2 k
  · next a b => refine ⟨!decide (a = b), by simp only [cmpop, eqD_int]; rfl, ?_⟩; obtain ⟨h1, h2⟩ := h; by_cases k : a = b
                · rw [decide_eq_true k]; exact h2 k
                · rw [decide_eq_false k]; exact h1 k
  · next a b => refine ⟨_, rfl, ?_⟩; obtain ⟨h1, h2⟩ := h; by_cases k : a < b
                · rw [decide_eq_true k]; exact h1 k
                · rw [decide_eq_false k]; exact h2 (by omega)
  · next a b => refine ⟨_, rfl, ?_⟩; obtain ⟨h1, h2⟩ := h; by_cases k : a ≤ b
                · rw [decide_eq_true k]; exact h1 k
                · rw [decide_eq_false k]; exact h2 (by omega)
  · next a b => refine ⟨_, rfl, ?_⟩; obtain ⟨h1, h2⟩ := h; by_cases k : b < a
                · rw [decide_eq_true k]; exact h1 k
                · rw [decide_eq_false k]; exact h2 (by omega)
  · next a b => refine ⟨_, rfl, ?_⟩; obtain ⟨h1, h2⟩ := h; by_cases k : b ≤ a
                · rw [decide_eq_true k]; exact h1 k
                · rw [decide_eq_false k]; exact h2 (by omega)
  · obtain ⟨c, e, h⟩ := h
    refine ⟨c, e, ?_⟩; cases c <;> exact h
theorem chainW_ok {op op2 : COp} {ra rb : R} {wc : G → QE → (R → G → Prop) → Prop} {sc : G → Out R} (hc : OkV wc sc) {g : G} {E : QE} {Q : R → G → Prop} (h : chainW op op2 ra rb wc g E Q) : (chainR op op2 ra rb sc g).sat E Q := by
  unfold chainW at h
  split at h
  · next x y =>
    obtain ⟨c, e, h⟩ := cmpT_ok h
    show Out.sat (match cmpop op (.int x) (.int y) with
      | some true => (sc g).bind fun rc g3 => match rc with
        | .t (.d (.int z)) => lift ((cmpop op2 (.int y) (.int z)).map fun k => .t (.d (.bl k))) g3
        | _ => .bad
      | some false => .ok (.t (.d (.bl false))) g
      | none => .bad) E Q
    try rw [e]
    cases c
    · exact h
    · refine .bind ((hc _ _ _ h).mono fun rc g3 k => ?_)
      split at k
      · next z => obtain ⟨c, e, k⟩ := cmpT_ok k
                  show Out.sat (lift ((cmpop op2 (.int y) (.int z)).map fun k => .t (.d (.bl k))) g3) E Q
                  rw [e]; exact k
      · exact k.elim
  · exact h.elim
def isLW (r : R) (g : G) (P : Prop) : Prop := match r.tree g with
  | some (.lst true _) => P
  | _ => False
theorem isLW_ok {r : R} {g : G} {P : Prop} (h : isLW r g P) : isL r g = true ∧ P := by
  unfold isLW at h
  unfold isL
  split at h
  · next e => try rw [e]
              exact ⟨rfl, h⟩
  · exact h.elim
def appW (ra re : R) (g : G) (Q : R → G → Prop) : Prop := match ra.tree g, re with
  | some (.lst true ts), .t u => ts.length < 10000000 ∧ match putR g ra (.lst true (ts ++ [u])) with
    | some g3 => Q (.t (.d .non)) g3
    | none => False
  | _, _ => False
theorem appW_ok {ra re : R} {g : G} {E : QE} {Q : R → G → Prop} (h : appW ra re g Q) : (appO ra re g).sat E Q := by
  unfold appW at h
  unfold appO
  split at h
  · next ts u e =>
    try rw [e]
    show Out.sat (if ts.length < 10000000 then match putR g ra (.lst true (ts ++ [u])) with
      | some g3 => .ok (.t (.d .non)) g3
      | none => .bad
    else .bad) E Q
    rw [if_pos h.1]
    have h := h.2
    split at h
    · exact h
    · exact h.elim
  · exact h.elim
def biW (b : BI) (o : Bool) (rs : List R) (g : G) (E : QE) (Q : R → G → Prop) : Prop := match b with
  | .len => (biO .len o rs g).sat E Q
  | .int => (biO .int o rs g).sat E Q
  | .abs => (biO .abs o rs g).sat E Q
  | .max => (biO .max o rs g).sat E Q
  | .min => (biO .min o rs g).sat E Q
  | .max3 => (biO .max3 o rs g).sat E Q
  | b => match trees g rs with
    | some ts => ∃ t, biT b o ts = some t ∧ Q (.t t) g
    | none => False
theorem biW_ok {b : BI} {o : Bool} {rs : List R} {g : G} {E : QE} {Q : R → G → Prop} (h : biW b o rs g E Q) : (biO b o rs g).sat E Q := by
  unfold biW at h
  split at h <;> first | exact h | skip
  unfold biO
  split at h
  · next e =>
    try rw [e]
    obtain ⟨t, e2, h⟩ := h
    show Out.sat (lift ((biT b o _).map .t) g) E Q
    rw [e2]; exact h
  · exact h.elim
abbrev rngP (n : Int) : Prop := -4611686018427387904 ≤ n ∧ n < 4611686018427387904
theorem rngP_ok {n : Int} (h : rngP n) : rngOk n = true := by
  unfold rngOk
  simp only [Bool.and_eq_true, decide_eq_true_eq]
  omega
def lrgW (o : Bool) (m n : Int) (g : G) (Q : R → G → Prop) : Prop := (rngP m ∧ rngP n ∧ n - m ≤ 16777216) ∧ Q (.t (mkl o ((rngL m n).map .int))) g
theorem lrgW_ok {o : Bool} {m n : Int} {g : G} {E : QE} {Q : R → G → Prop} (h : lrgW o m n g Q) : (lrgR o m n g).sat E Q := by
  obtain ⟨⟨h1, h2, h3⟩, h⟩ := h
  unfold lrgR
  have : decide ((n - m).toNat ≤ 2 ^ 24) = true := decide_eq_true (by omega)
  rw [if_pos (by rw [rngP_ok h1, rngP_ok h2, this]; rfl)]
  exact h
def lrg1W (o : Bool) (r : R) (g : G) (Q : R → G → Prop) : Prop := match r with
  | .t (.d (.int n)) => lrgW o 0 n g Q
  | _ => False
theorem lrg1W_ok {o : Bool} {r : R} {g : G} {E : QE} {Q : R → G → Prop} (h : lrg1W o r g Q) : (lrg1R o r g).sat E Q := by
  unfold lrg1W at h
  split at h
  · exact lrgW_ok h
  · exact h.elim
def lrg2W (o : Bool) (r s : R) (g : G) (Q : R → G → Prop) : Prop := match r, s with
  | .t (.d (.int m)), .t (.d (.int n)) => lrgW o m n g Q
  | _, _ => False
theorem lrg2W_ok {o : Bool} {r s : R} {g : G} {E : QE} {Q : R → G → Prop} (h : lrg2W o r s g Q) : (lrg2R o r s g).sat E Q := by
  unfold lrg2W at h
  split at h
  · exact lrgW_ok h
  · exact h.elim
def rng1W (r : R) (g : G) (Q : List T × Option Nat → G → Prop) : Prop := match r with
  | .t (.d (.int n)) => rngP n ∧ Q (rngT 0 n, none) g
  | _ => False
theorem rng1W_ok {r : R} {g : G} {E : QE} {Q : List T × Option Nat → G → Prop} (h : rng1W r g Q) : (rng1I r g).sat E Q := by
  unfold rng1W at h
  split at h
  · next n =>
    obtain ⟨k, h⟩ := h
    show Out.sat (if rngOk n then .ok (rngT 0 n, none) g else .bad) E Q
    rw [if_pos (rngP_ok k)]; exact h
  · exact h.elim
def rng2W (r s : R) (g : G) (Q : List T × Option Nat → G → Prop) : Prop := match r, s with
  | .t (.d (.int m)), .t (.d (.int n)) => rngP m ∧ rngP n ∧ Q (rngT m n, none) g
  | _, _ => False
theorem rng2W_ok {r s : R} {g : G} {E : QE} {Q : List T × Option Nat → G → Prop} (h : rng2W r s g Q) : (rng2I r s g).sat E Q := by
  unfold rng2W at h
  split at h
  · next m n =>
    obtain ⟨k, k2, h⟩ := h
    show Out.sat (if rngOk m && rngOk n then .ok (rngT m n, none) g else .bad) E Q
    rw [if_pos (by rw [rngP_ok k, rngP_ok k2]; rfl)]; exact h
  · exact h.elim
/-- what is walked, and whether a slot is put aside -/
@[irreducible] def lcW (cal : Cal) (o : Bool) (elt : ME) (tg : List Nat) (un : Bool) (c : ME) (its : List T × Option Nat) (g : G) (E : QE) (Q : R → G → Prop) : Prop :=
  (lockO its.2 tg g fun g1 => (lcT (if isNo c then yesT else (sm cal c).t) (fun h => ((sm cal elt).v h).bind (keepR o)) tg un its.1 [] (wipeG g1 tg)).bind fun ts g2 => lcEnd o g1 tg ts g2).sat E Q
mutual
def wm (cal : Cal) : ME → Wm
  | .var i => mkW fun g E Q => (rdVar i g).sat E Q
  | .ref i => mkW fun g E Q => (rdRef i g).sat E Q
  | .mv i => mkW fun g E Q => (rdMv i g).sat E Q
  | .fz i => mkW fun g E Q => (rdFz i g).sat E Q
  | .cst x => mkW fun g E Q => Q (.t (.d x)) g
  | .glb x => mkW fun g E Q => Q (.t (.d x)) g
  | .bin op o a b => mkW (bin2W (wm cal a).v (wm cal b).v fun ra rb g _ Q => binW op o ra rb g Q)
  | .neg a => mkW fun g E Q => (wm cal a).v g E fun r g1 => (negR r g1).sat E Q
  | .cmp op a b => ⟨bin2W (wm cal a).v (wm cal b).v fun ra rb g _ Q => cmpVW op ra rb g Q,
      fun g E Q => (wm cal a).v g E fun ra g1 => underW ra g1 (wm cal b).v E fun rb g2 => cmpTW op ra rb g2 Q, noI, noO⟩
  | .chain op op2 a b c => mkW (bin2W (wm cal a).v (wm cal b).v fun ra rb g E Q => chainW op op2 ra rb (wm cal c).v g E Q)
  | .isN a => mkW fun g E Q => (wm cal a).v g E fun r g1 => (isNR false r g1).sat E Q
  | .notN a => mkW fun g E Q => (wm cal a).v g E fun r g1 => (isNR true r g1).sat E Q
  | .and a b => ⟨fun g E Q => (wm cal a).v g E fun ra g1 => andV ra (wm cal b).v g1 E Q,
      fun g E Q => (wm cal a).t g E fun k g1 => match k with
        | true => (wm cal b).t g1 E Q
        | false => Q false g1, noI, noO⟩
  | .or a b => ⟨fun g E Q => (wm cal a).v g E fun ra g1 => orV ra (wm cal b).v g1 E Q,
      fun g E Q => (wm cal a).t g E fun k g1 => match k with
        | true => Q true g1
        | false => (wm cal b).t g1 E Q, noI, noO⟩
  | .not a => ⟨fun g E Q => (wm cal a).v g E fun r g1 => (notR r g1).sat E Q, fun g E Q => (wm cal a).t g E fun k g1 => match k with
        | true => Q false g1
        | false => Q true g1, noI, noO⟩
  | .ite c a b => 
      ⟨fun g E Q => (wm cal c).t g E fun k g1 => match k with
        | true => (wm cal a).v g1 E Q
        | false => (wm cal b).v g1 E Q, noT, fun g E Q => (wm cal c).t g E fun k g1 => match k with
        | true => (wm cal a).v g1 E fun r g1 => (itmR r g1).sat E Q
        | false => (wm cal b).v g1 E fun r g1 => (itmR r g1).sat E Q, noO⟩
  | .tup o es => mkW fun g E Q => wms cal es g E fun rs g1 => (tupR o rs g1).sat E Q
  | .lst o es => mkW fun g E Q => wms cal es g E fun rs g1 => (lstR o rs g1).sat E Q
  | .dis o ks es => mkW fun g E Q => wms cal es g E fun rs g1 => (disR o ks rs g1).sat E Q
  | .idx a i => mkW (bin2W (wm cal a).v (wm cal i).v fun ra rb g _ Q => idxW ra rb g Q)
  | .sl o a lo hi => mkW fun g E Q => (wm cal a).v g E fun ra g1 => underW ra g1 (wm cal lo).o E fun l g2 => underW ra g2 (wm cal hi).o E fun u g3 => (slO o ra l u g3).sat E Q
  | .no => ⟨noV, noT, noI, fun g E Q => Q none g⟩
  | .att c a f => mkW fun g E Q => (wm cal a).v g E fun r g1 => (attO c f r g1).sat E Q
  | .dix a k => mkW (bin2W (wm cal a).v (wm cal k).v fun ra rb g _ Q => dixW ra rb g Q)
  | .dget a k e => mkW (bin2W (wm cal a).v (wm cal k).v fun ra ri g E Q => underW ra g (wm cal e).v E fun re g1 => (dgetO ra ri re g1).sat E Q)
  | .din n k a => mkW (bin2W (wm cal k).v (wm cal a).v (raw2 (dinO n)))
  | .isi a k => mkW fun g E Q => (wm cal a).v g E fun r g1 => (isiR k r g1).sat E Q
  | .call f es => mkW fun g E Q => wms cal es g E fun rs g1 => callW cal f rs g1 E Q
  | .meth f a es => mkW fun g E Q => (wm cal a).v g E fun ra g1 => rootR ra = true ∧ wms cal es g1 E fun rs g2 => callW cal f (ra :: rs) g2 E Q
  | .mk c f es => mkW fun g E Q => wms cal es g E fun rs g1 => (mkR cal c f rs g1).sat E Q
  | .bi b o es => mkW fun g E Q => wms cal es g E fun rs g1 => biW b o rs g1 E Q
  | .app a e => mkW fun g E Q => (wm cal a).v g E fun ra g1 => isLW ra g1 (underW ra g1 (wm cal e).v E fun re g2 => appW ra re g2 Q)
  | .pop a => mkW fun g E Q => (wm cal a).v g E fun r g1 => (popO r g1).sat E Q
  | .popi a e => mkW fun g E Q => (wm cal a).v g E fun ra g1 => isLW ra g1 (underW ra g1 (wm cal e).v E fun re g2 => (popiO ra re g2).sat E Q)
  | .lc o elt tg un it c => mkW fun g E Q => (wm cal it).i g E fun its g1 => lcW cal o elt tg un c its g1 E Q
  | .rng1 a => ⟨noV, noT, fun g E Q => (wm cal a).v g E fun r g1 => rng1W r g1 Q, noO⟩
  | .rng2 a b => ⟨noV, noT, fun g E Q => (wm cal a).v g E fun r g1 => (wm cal b).v g1 E fun s g2 => rng2W r s g2 Q, noO⟩
  | .frz e => mkW fun g E Q => (wm cal e).v g E fun r g1 => (frzR r g1).sat E Q
  | .xfld i f => mkW fun g E Q => (xfldR i f g).sat E Q
  | .xis i c c0 => mkW fun g E Q => (xisR i c c0 g).sat E Q
  | .tupl a => mkW fun g E Q => (wm cal a).v g E fun r g1 => (tuplR r g1).sat E Q
  | .xvb i => mkW fun g E Q => (xvbR i g).sat E Q
  | .lrg1 o a => mkW fun g E Q => (wm cal a).v g E fun r g1 => lrg1W o r g1 Q
  | .lrg2 o a b => mkW fun g E Q => (wm cal a).v g E fun r g1 => (wm cal b).v g1 E fun s g2 => lrg2W o r s g2 Q
def wms (cal : Cal) : MEs → G → QE → (List R → G → Prop) → Prop
  | .nil, g, E, Q => Q [] g
  | .cons e es, g, E, Q => (wm cal e).v g E fun r g1 => underW r g1 (wms cal es) E fun rs g2 => Q (r :: rs) g2
end
mutual
theorem wm_ok (cal : Cal) : ∀ e : ME, WOk (wm cal e) (sm cal e)
  | .var i => by unfold wm sm; exact mkW_ok fun g E Q k => k
  | .ref i => by unfold wm sm; exact mkW_ok fun g E Q k => k
  | .mv i => by unfold wm sm; exact mkW_ok fun g E Q k => k
  | .fz i => by unfold wm sm; exact mkW_ok fun g E Q k => k
  | .cst x => by unfold wm sm; exact mkW_ok fun g E Q k => k
  | .glb x => by unfold wm sm; exact mkW_ok fun g E Q k => k
  | .bin op o a b => by unfold wm sm; exact mkW_ok fun g E Q k => bin2W_ok (wm_ok cal a).v (wm_ok cal b).v (fun _ _ _ j => binW_ok j) k
  | .neg a => by unfold wm sm; exact mkW_ok fun g E Q k => .bind ((wm_ok cal a).v _ _ _ k)
  | .cmp op a b => by
      unfold wm sm
      refine ⟨fun g E Q k => bin2W_ok (wm_ok cal a).v (wm_ok cal b).v (fun _ _ _ j => cmpVW_ok j) k, fun g E Q k => ?_, fun g E Q k => k.elim, fun g E Q k => k.elim⟩
      have h : ((bin2 (sm cal a).v (sm cal b).v (cmpR op) g).sat E fun r g => (truR r g).sat E Q) := bin2W_ok (Q := fun r g => (truR r g).sat E Q) (F := fun ra rb g => cmpTW op ra rb g Q) (wm_ok cal a).v (wm_ok cal b).v (fun ra rb g j => by
        have := cmpTW_ok (E := E) j
        cases hh : cmpR op ra rb g with
        | ok r g1 => rw [hh] at this; exact this
        | ex r g1 => rw [hh] at this; exact this
        | bad => rw [hh] at this; exact this) k
      exact .bind h
  | .chain op op2 a b c => by unfold wm sm; exact mkW_ok fun g E Q k => bin2W_ok (wm_ok cal a).v (wm_ok cal b).v (fun _ _ _ j => chainW_ok (wm_ok cal c).v j) k
  | .isN a => by unfold wm sm; exact mkW_ok fun g E Q k => .bind ((wm_ok cal a).v _ _ _ k)
  | .notN a => by unfold wm sm; exact mkW_ok fun g E Q k => .bind ((wm_ok cal a).v _ _ _ k)
  | .and a b => by
      unfold wm sm
      refine ⟨fun g E Q k => .bind (((wm_ok cal a).v _ _ _ k).mono fun _ _ j => andV_ok (wm_ok cal b).v j), fun g E Q k => .bind (((wm_ok cal a).t _ _ _ k).mono fun c _ j => ?_), fun g E Q k => k.elim, fun g E Q k => k.elim⟩
      cases c
      · exact j
      · exact (wm_ok cal b).t _ _ _ j
  | .or a b => by
      unfold wm sm
      refine ⟨fun g E Q k => .bind (((wm_ok cal a).v _ _ _ k).mono fun _ _ j => orV_ok (wm_ok cal b).v j), fun g E Q k => .bind (((wm_ok cal a).t _ _ _ k).mono fun c _ j => ?_), fun g E Q k => k.elim, fun g E Q k => k.elim⟩
      cases c
      · exact (wm_ok cal b).t _ _ _ j
      · exact j
  | .not a => by
      unfold wm sm
      refine ⟨fun g E Q k => .bind ((wm_ok cal a).v _ _ _ k), fun g E Q k => .bind (((wm_ok cal a).t _ _ _ k).mono fun c _ j => ?_), fun g E Q k => k.elim, fun g E Q k => k.elim⟩
      cases c <;> exact j
  | .ite c a b => by
      unfold wm sm
      refine ⟨fun g E Q k => .bind (((wm_ok cal c).t _ _ _ k).mono fun c _ j => ?_), fun g E Q k => k.elim, fun g E Q k => .bind (.bind (((wm_ok cal c).t _ _ _ k).mono fun c _ j => ?_)), fun g E Q k => k.elim⟩
      · cases c
        · exact (wm_ok cal b).v _ _ _ j
        · exact (wm_ok cal a).v _ _ _ j
      · cases c
        · exact (wm_ok cal b).v _ _ _ j
        · exact (wm_ok cal a).v _ _ _ j
  | .tup o es => by unfold wm sm; exact mkW_ok fun g E Q k => .bind (wms_ok cal es k)
  | .lst o es => by unfold wm sm; exact mkW_ok fun g E Q k => .bind (wms_ok cal es k)
  | .dis o ks es => by unfold wm sm; exact mkW_ok fun g E Q k => .bind (wms_ok cal es k)
  | .idx a i => by unfold wm sm; exact mkW_ok fun g E Q k => bin2W_ok (wm_ok cal a).v (wm_ok cal i).v (fun _ _ _ j => idxW_ok j) k
  | .sl o a lo hi => by unfold wm sm; exact mkW_ok fun g E Q k => .bind (((wm_ok cal a).v _ _ _ k).mono fun _ _ k => .bind ((underW_ok (wm_ok cal lo).o k).mono fun _ _ k => .bind (underW_ok (wm_ok cal hi).o k)))
  | .no => by unfold wm sm; exact ⟨fun g E Q k => k.elim, fun g E Q k => k.elim, fun g E Q k => k.elim, fun g E Q k => k⟩
  | .att c a f => by unfold wm sm; exact mkW_ok fun g E Q k => .bind ((wm_ok cal a).v _ _ _ k)
  | .dix a i => by unfold wm sm; exact mkW_ok fun g E Q k => bin2W_ok (wm_ok cal a).v (wm_ok cal i).v (fun _ _ _ j => dixW_ok j) k
  | .dget a i e => by unfold wm sm; exact mkW_ok fun g E Q k => bin2W_ok (wm_ok cal a).v (wm_ok cal i).v (fun _ _ _ j => .bind (underW_ok (wm_ok cal e).v j)) k
  | .din n i a => by unfold wm sm; exact mkW_ok fun g E Q k => bin2W_ok (wm_ok cal i).v (wm_ok cal a).v (fun _ _ _ j => j) k
  | .isi a t => by unfold wm sm; exact mkW_ok fun g E Q k => .bind ((wm_ok cal a).v _ _ _ k)
  | .call f es => by unfold wm sm; exact mkW_ok fun g E Q k => .bind ((wms_ok cal es k).mono fun _ _ j => callW_ok j)
  | .meth f a es => by
      unfold wm sm
      refine mkW_ok fun g E Q k => .bind (((wm_ok cal a).v _ _ _ k).mono fun ra g1 j => ?_)
      rw [if_pos j.1]
      exact .bind ((wms_ok cal es j.2).mono fun _ _ j => callW_ok j)
  | .mk c f es => by unfold wm sm; exact mkW_ok fun g E Q k => .bind (wms_ok cal es k)
  | .bi b o es => by unfold wm sm; exact mkW_ok fun g E Q k => .bind ((wms_ok cal es k).mono fun _ _ j => biW_ok j)
  | .app a e => by
      unfold wm sm
      refine mkW_ok fun g E Q k => .bind (((wm_ok cal a).v _ _ _ k).mono fun ra g1 j => ?_)
      obtain ⟨j1, j2⟩ := isLW_ok j
      rw [if_pos j1]
      exact .bind ((underW_ok (wm_ok cal e).v j2).mono fun _ _ j => appW_ok j)
  | .pop a => by unfold wm sm; exact mkW_ok fun g E Q k => .bind ((wm_ok cal a).v _ _ _ k)
  | .popi a e => by
      unfold wm sm
      refine mkW_ok fun g E Q k => .bind (((wm_ok cal a).v _ _ _ k).mono fun ra g1 j => ?_)
      obtain ⟨j1, j2⟩ := isLW_ok j
      rw [if_pos j1]
      exact .bind (underW_ok (wm_ok cal e).v j2)
  | .lc o elt tg un it c => by unfold wm sm; exact mkW_ok fun g E Q k => .bind (((wm_ok cal it).i _ _ _ k).mono fun _ _ j => by unfold lcW at j; exact j)
  | .rng1 a => by unfold wm sm; exact ⟨fun g E Q k => k.elim, fun g E Q k => k.elim, fun g E Q k => .bind (((wm_ok cal a).v _ _ _ k).mono fun _ _ j => rng1W_ok j), fun g E Q k => k.elim⟩
  | .rng2 a b => by unfold wm sm; exact ⟨fun g E Q k => k.elim, fun g E Q k => k.elim, fun g E Q k => .bind (((wm_ok cal a).v _ _ _ k).mono fun _ _ k => .bind (((wm_ok cal b).v _ _ _ k).mono fun _ _ j => rng2W_ok j)), fun g E Q k => k.elim⟩
  | .frz e => by unfold wm sm; exact mkW_ok fun g E Q k => .bind ((wm_ok cal e).v _ _ _ k)
  | .xfld i f => by unfold wm sm; exact mkW_ok fun g E Q k => k
  | .xis i c c0 => by unfold wm sm; exact mkW_ok fun g E Q k => k
  | .tupl a => by unfold wm sm; exact mkW_ok fun g E Q k => .bind ((wm_ok cal a).v _ _ _ k)
  | .xvb i => by unfold wm sm; exact mkW_ok fun g E Q k => k
  | .lrg1 o a => by unfold wm sm; exact mkW_ok fun g E Q k => .bind (((wm_ok cal a).v _ _ _ k).mono fun _ _ j => lrg1W_ok j)
  | .lrg2 o a b => by unfold wm sm; exact mkW_ok fun g E Q k => .bind (((wm_ok cal a).v _ _ _ k).mono fun _ _ k => .bind (((wm_ok cal b).v _ _ _ k).mono fun _ _ j => lrg2W_ok j))
theorem wms_ok (cal : Cal) : ∀ (es : MEs) {g : G} {E : QE} {Q : List R → G → Prop}, wms cal es g E Q → (sms cal es g).sat E Q
  | .nil, g, E, Q, k => by unfold wms at k; unfold sms; exact k
  | .cons e es, g, E, Q, k => by
      unfold wms at k; unfold sms
      refine .bind (((wm_ok cal e).v _ _ _ k).mono fun r g1 j => ?_)
      exact .bind (underW_ok (fun g E Q k => wms_ok cal es k) j)
end
end Wh

/-! Wm, part 3: statements, defs, loops. -/
namespace Wh
open PySem L2

@[irreducible] def forW (cal : Cal) (tg : List Nat) (un : Bool) (b : MSs) (its : List T × Option Nat) (g : G) (N : G → Prop) (Q : SO → Prop) : Prop :=
  (lockS its.2 (tg ++ stSs b) g (forT (exs cal b) tg un its.1)).sat N Q
@[irreducible] def whW (cal : Cal) (c : ME) (b : MSs) (g : G) (N : G → Prop) (Q : SO → Prop) : Prop :=
  (whT (sm cal c).t (exs cal b) whN g).sat N Q
abbrev Qx (Q : SO → Prop) : QE := fun e g => Q (.ex e g)
mutual
def wx (cal : Cal) : MS → G → (G → Prop) → (SO → Prop) → Prop
  | .asg i o e, g, N, Q => (wm cal e).v g (Qx Q) fun r g1 => (asgS i o r g1).sat (fun g2 => normG g2 N) Q
  | .asgT is e, g, N, Q => (wm cal e).v g (Qx Q) fun r g1 => (asgTS is r g1).sat N Q
  | .asgL is e, g, N, Q => (wm cal e).v g (Qx Q) fun r g1 => (asgLS is r g1).sat N Q
  | .setI a i e, g, N, Q => (wm cal e).v g (Qx Q) fun re g1 => match re with
    | .t _ => (wm cal a).v g1 (Qx Q) fun ra g2 => underW ra g2 (wm cal i).v (Qx Q) fun ri g3 => (setIS re ra ri g3).sat N Q
    | _ => False
  | .augI a i op e, g, N, Q => (wm cal a).v g (Qx Q) fun ra g1 => underW ra g1 (wm cal i).v (Qx Q) fun ri g2 =>
      match ra.tree g2, ri with
      | some (.lst true ts), .t (.d (.int j)) => match idxR ra (.lst true ts) (.int j) with
        | some (.t (.d (.int x))) => underW ra g2 (wm cal e).v (Qx Q) fun re g3 => (augIS op x j re ra g3).sat N Q
        | _ => False
      | _, _ => False
  | .setA a f e, g, N, Q => (wm cal e).v g (Qx Q) fun re g1 => match re with
    | .t _ => (wm cal a).v g1 (Qx Q) fun ra g2 => (setAS f re ra g2).sat N Q
    | _ => False
  | .aug i op e, g, N, Q => match g[i]? with
    | some (.d (.int x)) => (wm cal e).v g (Qx Q) fun r g1 => (augS i op x r g1).sat N Q
    | _ => False
  | .expr e, g, N, Q => (wm cal e).v g (Qx Q) fun _ g1 => N g1
  | .cond c a b, g, N, Q => (wm cal c).t g (Qx Q) fun k g1 => match k with
      | true => wxs cal a g1 N Q
      | false => wxs cal b g1 N Q
  | .for_ tg un it b, g, N, Q => (wm cal it).i g (Qx Q) fun its g1 => forW cal tg un b its g1 N Q
  | .while_ c b, g, N, Q => whW cal c b g N Q
  | .ret o e, g, N, Q => (wm cal e).v g (Qx Q) fun r g1 => (retS o r g1).sat N Q
  | .retN, g, N, Q => Q (.rt (.d .non) g)
  | .brk, g, N, Q => Q (.bk g)
  | .cnt, g, N, Q => Q (.ct g)
  | .pass, g, N, Q => N g
  | .raise c ns es, g, N, Q => wms cal es g (Qx Q) fun rs g1 => (exOf c ns rs g1).sat N Q
  | .try_ n b hs, g, N, Q => wxs cal b g N fun o => match o with
    | .ex e g1 => if e.c < n then wxh cal hs e g1 N Q else False
    | o => Q o
def wxs (cal : Cal) : MSs → G → (G → Prop) → (SO → Prop) → Prop
  | .nil, g, N, Q => N g
  | .cons s ss, g, N, Q => wx cal s g (fun g1 => wxs cal ss g1 N Q) Q
def wxh (cal : Cal) : MHs → Exc → G → (G → Prop) → (SO → Prop) → Prop
  | .nil, e, g, N, Q => Q (.ex e g)
  | .cons c as b hs, e, g, N, Q => if e.c = c then match as with
      | none => wxs cal b g (fun g1 => (SO.calm none (.nx g1)).sat N Q) fun o => (SO.calm none o).sat N Q
      | some i => if (stSs b).contains i then False else if i < g.length then wxs cal b (g.set i (.xo e)) (fun g1 => (SO.calm (some i) (.nx g1)).sat N Q) fun o => (SO.calm (some i) o).sat N Q else False
    else wxh cal hs e g N Q
end
theorem so_sat {α : Type} {o : Out α} {f : α → G → SO} {N : G → Prop} {Q : SO → Prop} (h : o.sat (Qx Q) fun a g => (f a g).sat N Q) : (o.so f).sat N Q := Out.sat.so h
theorem SO.sat.cas {o : SO} {N M : G → Prop} {Q P : SO → Prop} {F : SO → SO} (h : o.sat N Q) (k1 : ∀ g, N g → (F (.nx g)).sat M P) (k2 : ∀ o, (match o with | .nx _ => False | .bad => False | _ => True) → Q o → (F o).sat M P) : (F o).sat M P := by
  cases o <;> first | exact k1 _ h | exact h.elim | exact k2 _ trivial h
mutual
theorem wx_ok (cal : Cal) : ∀ (s : MS) {g : G} {N : G → Prop} {Q : SO → Prop}, wx cal s g N Q → (ex cal s g).sat N Q
  | .asg i o e, g, N, Q, k => by unfold wx at k; unfold ex; exact so_sat (((wm_ok cal e).v _ _ _ k).mono fun r g1 k => k.mono fun g2 k => by rw [normG_eq] at k; exact k)
  | .asgT is e, g, N, Q, k => by unfold wx at k; unfold ex; exact so_sat ((wm_ok cal e).v _ _ _ k)
  | .asgL is e, g, N, Q, k => by unfold wx at k; unfold ex; exact so_sat ((wm_ok cal e).v _ _ _ k)
  | .setI a i e, g, N, Q, k => by
      unfold wx at k; unfold ex
      refine so_sat (((wm_ok cal e).v _ _ _ k).mono fun re g1 k => ?_)
      split at k
      · exact so_sat (((wm_ok cal a).v _ _ _ k).mono fun ra g2 k => so_sat (underW_ok (wm_ok cal i).v k))
      · exact k.elim
  | .augI a i op e, g, N, Q, k => by
      unfold wx at k; unfold ex
      refine so_sat (((wm_ok cal a).v _ _ _ k).mono fun ra g2 k => so_sat ((underW_ok (wm_ok cal i).v k).mono fun ri g3 k => ?_))
      unfold augO
      split at k
      · next ts j e1 =>
        try rw [e1]
        show SO.sat (match idxR ra (.lst true ts) (.int j) with
          | some (.t (.d (.int x))) => _
          | _ => .bad) N Q
        split at k
        · next e2 => exact so_sat (underW_ok (wm_ok cal e).v k)
        · exact k.elim
      · exact k.elim
  | .setA a f e, g, N, Q, k => by
      unfold wx at k; unfold ex
      refine so_sat (((wm_ok cal e).v _ _ _ k).mono fun re g1 k => ?_)
      split at k
      · exact so_sat ((wm_ok cal a).v _ _ _ k)
      · exact k.elim
  | .aug i op e, g, N, Q, k => by
      unfold wx at k; unfold ex
      unfold augP
      split at k
      · next x e1 => try rw [e1]
                     exact so_sat ((wm_ok cal e).v _ _ _ k)
      · exact k.elim
  | .expr e, g, N, Q, k => by unfold wx at k; unfold ex; exact so_sat ((wm_ok cal e).v _ _ _ k)
  | .cond c a b, g, N, Q, k => by
      unfold wx at k; unfold ex
      refine so_sat (((wm_ok cal c).t _ _ _ k).mono fun c g1 k => ?_)
      cases c
      · exact wxs_sat cal b k
      · exact wxs_sat cal a k
  | .for_ tg un it b, g, N, Q, k => by
      unfold wx at k; unfold ex
      refine so_sat (((wm_ok cal it).i _ _ _ k).mono fun c g1 k => ?_)
      unfold forW at k; exact k
  | .while_ c b, g, N, Q, k => by unfold wx at k; unfold ex; unfold whW at k; exact k
  | .ret o e, g, N, Q, k => by unfold wx at k; unfold ex; exact so_sat ((wm_ok cal e).v _ _ _ k)
  | .retN, g, N, Q, k => by unfold wx at k; unfold ex; exact k
  | .brk, g, N, Q, k => by unfold wx at k; unfold ex; exact k
  | .cnt, g, N, Q, k => by unfold wx at k; unfold ex; exact k
  | .pass, g, N, Q, k => by unfold wx at k; unfold ex; exact k
  | .raise c ns es, g, N, Q, k => by unfold wx at k; unfold ex; exact so_sat (wms_ok cal es k)
  | .try_ n b hs, g, N, Q, k => by
      unfold wx at k; unfold ex
      refine SO.sat.cas (F := fun o => catchS o fun e g1 => if e.c < n then exh cal hs e g1 else .bad) (wxs_sat cal b k) (fun g1 k => k) fun o z k => ?_
      cases o with
      | ex e g1 =>
        show (if e.c < n then exh cal hs e g1 else .bad).sat N Q
        by_cases h : e.c < n
        · have k : (if e.c < n then wxh cal hs e g1 N Q else False) := k
          rw [if_pos h] at k ⊢; exact wxh_ok cal hs k
        · have k : (if e.c < n then wxh cal hs e g1 N Q else False) := k
          rw [if_neg h] at k; exact k.elim
      | rt t g1 => exact k
      | bk g1 => exact k
      | ct g1 => exact k
      | nx g1 => exact z.elim
      | bad => exact z.elim
theorem wxs_sat (cal : Cal) : ∀ (s : MSs) {g : G} {N : G → Prop} {Q : SO → Prop}, wxs cal s g N Q → (exs cal s g).sat N Q
  | .nil, g, N, Q, k => by unfold wxs at k; unfold exs; exact k
  | .cons s ss, g, N, Q, k => by
      unfold wxs at k; unfold exs
      exact .seq ((wx_ok cal s k).mono fun g1 k => wxs_sat cal ss k)
theorem wxh_ok (cal : Cal) : ∀ (s : MHs) {e : Exc} {g : G} {N : G → Prop} {Q : SO → Prop}, wxh cal s e g N Q → (exh cal s e g).sat N Q
  | .nil, e, g, N, Q, k => by unfold wxh at k; unfold exh; exact k
  | .cons c as b hs, e, g, N, Q, k => by
      unfold wxh at k; unfold exh
      by_cases h : e.c = c
      · rw [if_pos h] at k ⊢
        cases as with
        | none => exact SO.sat.cas (F := SO.calm none) (wxs_sat cal b k) (fun g1 k => k) fun o _ k => k
        | some i =>
          by_cases h2 : (stSs b).contains i = true
          · simp only [h2, if_true] at k
          · simp only [h2] at k ⊢
            by_cases h3 : i < g.length
            · simp only [h3, if_true] at k ⊢
              exact SO.sat.cas (F := SO.calm (some i)) (wxs_sat cal b k) (fun g1 k => k) fun o _ k => k
            · simp only [h3, if_false] at k
              exact k.elim
      · rw [if_neg h] at k ⊢; exact wxh_ok cal hs k
end
end Wh

/-! Wm, part 4: defs, loops, comprehensions. -/
namespace Wh
open PySem L2

/-- statements run from a state: what is wanted of their end (never unfolded by itself) -/
@[irreducible] def Runs (cal : Cal) (ss : MSs) (g : G) (N : G → Prop) (Q : SO → Prop) : Prop := (exs cal ss g).sat N Q
theorem Runs.sat {cal : Cal} {ss : MSs} {g : G} {N : G → Prop} {Q : SO → Prop} (h : Runs cal ss g N Q) : (exs cal ss g).sat N Q := by unfold Runs at h; exact h
theorem Runs.of {cal : Cal} {ss : MSs} {g : G} {N : G → Prop} {Q : SO → Prop} (h : (exs cal ss g).sat N Q) : Runs cal ss g N Q := by unfold Runs; exact h
theorem wxs_ok (cal : Cal) (ss : MSs) {g : G} {N : G → Prop} {Q : SO → Prop} (h : wxs cal ss g N Q) : Runs cal ss g N Q := .of (wxs_sat cal ss h)
/-- a def's end from its conditions -/
theorem run_ofP {cal : Cal} {fd : FD} {as : List T} {P : CO → Prop} (hl : as.length = fd.np)
    (h : Runs cal fd.body (as ++ List.replicate fd.nl .un) (fun g => P (endCO fd as (.nx g))) (fun o => P (endCO fd as o))) : P (run1 cal fd as) := by
  have h := h.sat
  unfold run1
  rw [if_pos hl]
  cases hh : exs cal fd.body (as ++ List.replicate fd.nl .un) <;> rw [hh] at h <;> first | exact h | exact h.elim
theorem run_of {cal : Cal} {fd : FD} {as : List T} {co : CO} (hl : as.length = fd.np)
    (h : Runs cal fd.body (as ++ List.replicate fd.nl .un) (fun g => endCO fd as (.nx g) = co) (fun o => endCO fd as o = co)) : run1 cal fd as = co :=
  run_ofP (P := fun c => c = co) hl h
/-- the first n statements, the others -/
def MSs.take : Nat → MSs → MSs
  | 0, _ => .nil
  | _ + 1, .nil => .nil
  | n + 1, .cons s ss => .cons s (MSs.take n ss)
def MSs.drop : Nat → MSs → MSs
  | 0, ss => ss
  | _ + 1, .nil => .nil
  | n + 1, .cons _ ss => MSs.drop n ss
theorem SO.seq_assoc (o : SO) (f k : G → SO) : (o.seq f).seq k = o.seq fun g => (f g).seq k := by cases o <;> rfl
theorem exs_take (cal : Cal) : ∀ (n : Nat) (ss : MSs) (g : G), exs cal ss g = (exs cal (ss.take n) g).seq (exs cal (ss.drop n))
  | 0, ss, g => by simp only [MSs.take, MSs.drop, exs]; rfl
  | n + 1, .nil, g => by simp only [MSs.take, MSs.drop, exs]; rfl
  | n + 1, .cons s ss, g => by
    simp only [MSs.take, MSs.drop, exs]
    rw [SO.seq_assoc]
    congr 1
    exact funext fun g1 => exs_take cal n ss g1
/-- n statements, then the others -/
theorem cut {cal : Cal} (n : Nat) {ss : MSs} {g : G} (M : G → Prop) {N : G → Prop} {Q : SO → Prop} (h : Runs cal (ss.take n) g M Q) (k : ∀ g1, M g1 → Runs cal (ss.drop n) g1 N Q) : Runs cal ss g N Q := by
  refine .of ?_
  rw [exs_take cal n]
  exact .seq (h.sat.mono fun g1 h => (k g1 h).sat)

/-- a loop by an invariant over what is left -/
theorem forT_inv {body : G → SO} {tg : List Nat} {un : Bool} {N : G → Prop} {Q : SO → Prop} (I : List T → G → Prop)
    (hstep : ∀ t ts g, I (t :: ts) g → ∃ g1, setTg g tg un t = some g1 ∧ (body g1).sat (I ts) fun o => match o with
      | .ct g2 => I ts g2
      | .bk g2 => N g2
      | o => Q o)
    (hend : ∀ g, I [] g → N g) : ∀ (ts : List T) (g : G), I ts g → (forT body tg un ts g).sat N Q
  | [], g, h => hend g h
  | t :: ts, g, h => by
    obtain ⟨g1, e1, k⟩ := hstep t ts g h
    unfold forT
    rw [e1]
    show SO.sat (match body g1 with
      | .nx g2 => forT body tg un ts g2
      | .ct g2 => forT body tg un ts g2
      | .bk g2 => .nx g2
      | r => r) N Q
    cases hh : body g1 with
    | nx g2 => rw [hh] at k; exact forT_inv I hstep hend ts g2 k
    | ct g2 => rw [hh] at k; exact forT_inv I hstep hend ts g2 k
    | bk g2 => rw [hh] at k; exact k
    | rt u g2 => rw [hh] at k; exact k
    | ex u g2 => rw [hh] at k; exact k
    | bad => rw [hh] at k; exact k
theorem forW_inv {cal : Cal} {tg : List Nat} {un : Bool} {b : MSs} {ts : List T} {g : G} {N : G → Prop} {Q : SO → Prop} (I : List T → G → Prop)
    (h0 : I ts g)
    (hstep : ∀ t ts g, I (t :: ts) g → ∃ g1, setTg g tg un t = some g1 ∧ Runs cal b g1 (I ts) fun o => match o with
      | .ct g2 => I ts g2
      | .bk g2 => N g2
      | o => Q o)
    (hend : ∀ g, I [] g → N g) : forW cal tg un b (ts, none) g N Q := by
  unfold forW
  exact forT_inv I (fun t ts g h => by obtain ⟨g1, e, k⟩ := hstep t ts g h; exact ⟨g1, e, k.sat⟩) hend ts g h0

theorem rngT_nil {lo hi : Int} (h : hi ≤ lo) : rngT lo hi = [] := by
  unfold rngT
  rw [show (hi - lo).toNat = 0 by omega]; rfl
theorem rngT_cons {lo hi : Int} (h : lo < hi) : rngT lo hi = .d (.int lo) :: rngT (lo + 1) hi := by
  unfold rngT
  rw [show (hi - lo).toNat = (hi - (lo + 1)).toNat + 1 by omega, List.range_succ_eq_map]
  simp only [List.map_cons, List.map_map]
  congr 1
  · simp
  · apply List.map_congr_left
    intro a _
    simp only [Function.comp_def]
    congr 2
    omega
theorem SO.sat.mono2 {o : SO} {N M : G → Prop} {Q P : SO → Prop} (h : o.sat N Q) (k : ∀ g, N g → M g) (k2 : ∀ o, Q o → P o) : o.sat M P := by
  cases o <;> first | exact k _ h | exact h.elim | exact k2 _ h
/-- range(lo, hi) by an invariant over the number -/
theorem forW_rng {cal : Cal} {i : Nat} {b : MSs} {lo hi : Int} {g : G} {N : G → Prop} {Q : SO → Prop} (I : Int → G → Prop)
    (hlt : lo ≤ hi) (h0 : I lo g)
    (hstep : ∀ k g, lo ≤ k → k < hi → I k g → Runs cal b (g.set i (.d (.int k))) (I (k + 1)) fun o => match o with
      | .ct g2 => I (k + 1) g2
      | .bk g2 => N g2
      | o => Q o)
    (hend : ∀ g, I hi g → N g) : forW cal [i] false b (rngT lo hi, none) g N Q := by
  unfold forW
  refine forT_inv (fun ts g => ∃ k, lo ≤ k ∧ k ≤ hi ∧ ts = rngT k hi ∧ I k g) ?_ ?_ _ _ ⟨lo, by omega, hlt, rfl, h0⟩
  · rintro t ts g ⟨k, h1, h2, e, hI⟩
    by_cases h : k < hi
    · rw [rngT_cons h] at e
      injection e with e1 e2
      subst e1 e2
      refine ⟨_, rfl, ?_⟩
      refine (hstep k g h1 h hI).sat.mono2 (fun g1 j => ⟨k + 1, by omega, by omega, rfl, j⟩) fun o j => ?_
      cases o with
      | ct g2 => exact ⟨k + 1, by omega, by omega, rfl, j⟩
      | _ => exact j
    · rw [rngT_nil (by omega)] at e; cases e
  · rintro g ⟨k, h1, h2, e, hI⟩
    by_cases h : k < hi
    · rw [rngT_cons h] at e; cases e
    · rw [show k = hi by omega] at hI; exact hend g hI

/-! ### comprehensions -/
theorem lcT_fm {tst : G → Out Bool} {elt : G → Out T} {tg : List Nat} {un : Bool} {g0 : G} (p : T → Bool) (F : T → T) : ∀ (ts acc : List T), acc.length + ts.length ≤ 10000000 →
    (∀ t ∈ ts, ∃ h, setTg g0 tg un t = some h ∧ wipeG h tg = g0 ∧ tst h = .ok (p t) h ∧ (p t = true → elt h = .ok (F t) h)) → lcT tst elt tg un ts acc g0 = .ok (acc ++ (ts.filter p).map F) g0
  | [], acc, _, _ => by simp [lcT]
  | t :: ts, acc, hl, hs => by
    obtain ⟨h, e1, e2, e3, e4⟩ := hs t (.head _)
    have hs' := fun t' m => hs t' (.tail _ m)
    simp only [List.length_cons] at hl
    unfold lcT
    simp only [e1, e3]
    cases hp : p t with
    | false =>
      simp only [e2]
      rw [lcT_fm p F ts acc (by omega) hs', List.filter_cons_of_neg (by simp [hp])]
    | true =>
      simp only [e4 hp, e2]
      rw [if_pos (by omega), lcT_fm p F ts (acc ++ [F t]) (by simp; omega) hs', List.filter_cons_of_pos hp]
      simp
def noE : QE := fun _ _ => False
theorem sat_eq {α : Type} {o : Out α} {a : α} {g : G} (h : o.sat noE fun b h => h = g ∧ b = a) : o = .ok a g := by
  cases o with
  | ok b h1 => obtain ⟨rfl, rfl⟩ := h; rfl
  | ex e g => exact h.elim
  | bad => exact h.elim
/-- a comprehension whose test is p and whose item is F -/
theorem lcW_fm {cal : Cal} {o : Bool} {elt : ME} {tg : List Nat} {un : Bool} {c : ME} {ts : List T} {g : G} {E : QE} {Q : R → G → Prop} (p : T → Bool) (F : T → T) (hl : ts.length ≤ 10000000)
    (hb : backG g (wipeG g tg) tg = g)
    (hs : ∀ t ∈ ts, ∃ h, setTg (wipeG g tg) tg un t = some h ∧ wipeG h tg = wipeG g tg ∧ (if isNo c then p t = true else (wm cal c).t h noE fun b h' => h' = h ∧ b = p t)
      ∧ (p t = true → (wm cal elt).v h noE fun r h' => h' = h ∧ R.keep h' o r = some (F t)))
    (hQ : (lcEnd o g tg ((ts.filter p).map F) (wipeG g tg)).sat E Q) : lcW cal o elt tg un c (ts, none) g E Q := by
  unfold lcW
  have := lcT_fm (tst := if isNo c then yesT else (sm cal c).t) (elt := fun h => ((sm cal elt).v h).bind (keepR o)) (un := un) p F ts [] (by simp; omega) (fun t m => by
    obtain ⟨h, e1, e2, e3, e4⟩ := hs t m
    refine ⟨h, e1, e2, ?_, fun hp => ?_⟩
    · cases hc : isNo c with
      | true => rw [hc] at e3; simp only [if_true] at e3 ⊢; rw [e3]; rfl
      | false => rw [hc] at e3; simp only [Bool.false_eq_true, if_false] at e3 ⊢; exact sat_eq ((wm_ok cal c).t _ _ _ e3)
    · refine sat_eq (.bind (((wm_ok cal elt).v _ _ _ (e4 hp)).mono fun r h' k => ?_))
      obtain ⟨rfl, k⟩ := k
      unfold keepR
      rw [k]; exact ⟨rfl, rfl⟩)
  show Out.sat ((lcT (if isNo c then yesT else (sm cal c).t) (fun h => ((sm cal elt).v h).bind (keepR o)) tg un ts [] (wipeG g tg)).bind fun ts g2 => lcEnd o g tg ts g2) E Q
  rw [this]
  exact hQ
theorem allD_mapF {α : Type} (f : α → D) : ∀ xs : List α, allD (xs.map fun x => .d (f x)) = some (xs.map f)
  | [] => rfl
  | x :: xs => by simp only [List.map_cons, allD, allD_mapF f xs]; rfl
/-- .. where the items are data -/
theorem lcW_data {cal : Cal} {elt : ME} {tg : List Nat} {un : Bool} {c : ME} {ts : List T} {g : G} {E : QE} {Q : R → G → Prop} (p : T → Bool) (F : T → D) (hl : ts.length ≤ 10000000)
    (hb : backG g (wipeG g tg) tg = g)
    (hs : ∀ t ∈ ts, ∃ h, setTg (wipeG g tg) tg un t = some h ∧ wipeG h tg = wipeG g tg ∧ (if isNo c then p t = true else (wm cal c).t h noE fun b h' => h' = h ∧ b = p t)
      ∧ (p t = true → (wm cal elt).v h noE fun r h' => h' = h ∧ R.keep h' false r = some (.d (F t))))
    (hQ : ∀ xs, xs = (ts.filter p).map F → Q (.t (.d (.lst xs))) g) : lcW cal false elt tg un c (ts, none) g E Q := by
  refine lcW_fm p (fun t => .d (F t)) hl hb hs ?_
  unfold lcEnd
  simp only [allD_mapF, hb]
  exact hQ _ rfl
/-- .. without a test -/
theorem lcW_map {cal : Cal} {elt : ME} {tg : List Nat} {un : Bool} {ts : List T} {g : G} {E : QE} {Q : R → G → Prop} (F : T → D) (hl : ts.length ≤ 10000000)
    (hb : backG g (wipeG g tg) tg = g)
    (hs : ∀ t ∈ ts, ∃ h, setTg (wipeG g tg) tg un t = some h ∧ wipeG h tg = wipeG g tg ∧ ((wm cal elt).v h noE fun r h' => h' = h ∧ R.keep h' false r = some (.d (F t))))
    (hQ : Q (.t (.d (.lst (ts.map F)))) g) : lcW cal false elt tg un .no (ts, none) g E Q := by
  refine lcW_data (fun _ => true) F hl hb (fun t m => ?_) fun xs e => ?_
  · obtain ⟨h, a, b, c⟩ := hs t m
    exact ⟨h, a, b, rfl, fun _ => c⟩
  · rw [show ts.filter (fun _ => true) = ts from List.filter_eq_self.2 fun _ _ => rfl] at e
    subst e; exact hQ
theorem idx_l {r : R} {xs : List D} {j : Int} {x : D} (h : atI xs j = some x) : idxR r (.d (.lst xs)) (.int j) = some (.t (.d x)) := by
  show (atI xs j).map _ = _
  rw [h]; rfl
theorem idx_t {r : R} {xs : List D} {j : Int} {x : D} (h : atI xs j = some x) : idxR r (.d (.tup xs)) (.int j) = some (.t (.d x)) := by
  show (atI xs j).map _ = _
  rw [h]; rfl
theorem idx_scr {r : R} {ns : List Int} {j x : Int} (h : atI ns j = some x) : idxR r (.scr ns) (.int j) = some (.t (.d (.int x))) := by
  show (atI ns j).map _ = _
  rw [h]; rfl
theorem atI_some {α : Type} {xs : List α} {i : Int} (h0 : 0 ≤ i) (h1 : i < xs.length) : ∃ x, atI xs i = some x := by
  have : i.toNat < xs.length := by omega
  refine ⟨xs[i.toNat], ?_⟩
  unfold atI ixN
  rw [if_pos h0, if_pos h1]
  simp [this]
theorem allInt_int : ∀ is : List Int, allInt (is.map D.int) = some is
  | [] => rfl
  | i :: is => by simp only [List.map_cons, allInt, allInt_int is]; rfl
theorem sum_int {o : Bool} {is : List Int} : biT .sum o [.d (.lst (is.map .int))] = some (.d (.int is.sum)) := by
  show Option.map _ (allInt _) = _
  rw [allInt_int]; rfl
end Wh

/-! Wm, part 5: what the laws share: the purse, draws; lists of ints. -/
namespace Wh
open PySem L2
def fdPurse : FD := ⟨2, 3, (.cons (.asg 2 false (.ite (.cmp .lt (.var 1) (.bi .len false (.cons (.var 0) .nil))) (.bi .int false (.cons (.idx (.var 0) (.var 1)) .nil)) (.bin .mul false (.cst (.int 31)) (.bi .sum false (.cons (.lc false (.bi .int false (.cons (.var 4) .nil)) [4] false (.sl false (.var 0) .no (.cst (.int 4))) .no) .nil)))))
    (.cons (.asg 3 false (.bin .add false (.bin .mul false (.cst (.int 2)) (.bi .abs false (.cons (.var 2) .nil))) (.ite (.cmp .lt (.var 2) (.cst (.int 0))) (.cst (.int 1)) (.cst (.int 0)))))
    (.cons (.ret true (.lst true (.cons (.ite (.cmp .ge (.var 3) (.bin .pow false (.cst (.int 10)) (.cst (.int 18)))) (.var 3) (.cst (.int 0))) (.cons (.bin .mod false (.bi .int false (.cons (.bin .add false (.bin .add false (.var 3) (.bin .mul false (.var 1) (.cst (.int 104729)))) (.cst (.int 12345))) .nil)) (.cst (.int 2147483629))) (.cons (.var 1) .nil)))))
    .nil))), []⟩
def fdDraw : FD := ⟨2, 1, (.cons (.cond (.cmp .gt (.idx (.var 0) (.cst (.int 0))) (.cst (.int 0))) (.cons (.asg 2 false (.bin .mod false (.bi .int false (.cons (.idx (.var 0) (.cst (.int 0))) .nil)) (.var 1)))
      (.cons (.setI (.var 0) (.cst (.int 0)) (.bin .div false (.idx (.var 0) (.cst (.int 0))) (.var 1)))
      (.cons (.ret false (.var 2))
      .nil))) .nil)
    (.cons (.augI (.var 0) (.cst (.int 2)) .add (.cst (.int 1)))
    (.cons (.setI (.var 0) (.cst (.int 1)) (.bin .mod false (.bi .int false (.cons (.bin .add false (.bin .mul false (.idx (.var 0) (.cst (.int 1))) (.cst (.int 48271))) (.bin .mul false (.idx (.var 0) (.cst (.int 2))) (.cst (.int 69621)))) .nil)) (.cst (.int 2147483647))))
    (.cons (.ret false (.bin .mod false (.bin .div false (.bin .mod false (.bi .int false (.cons (.bin .add false (.bin .mul false (.idx (.var 0) (.cst (.int 1))) (.cst (.int 16807))) (.bin .mul false (.idx (.var 0) (.cst (.int 2))) (.cst (.int 7919)))) .nil)) (.cst (.int 2147483629))) (.cst (.int 8))) (.var 1)))
    .nil)))), []⟩
abbrev I' (x : Int) : T := .d (.int x)
abbrev purT (a b c : Int) : T := .lst true [.d (.int a), .d (.int b), .d (.int c)]
abbrev S' (s : String) : D := .str (Str.ofString s)
abbrev Ls (l : List Int) : D := .lst (l.map D.int)
theorem mok {a b : Int} (h : -18446744073709551616 < b ∧ b < 18446744073709551616) : mulOk a b := .inr h
theorem mok1 {a b : Int} (h : -18446744073709551616 < a ∧ a < 18446744073709551616) : mulOk a b := .inl h

def DrawP (m : Int) (co : CO) : Prop := ∃ x a' b' c', 0 ≤ x ∧ x < m ∧ co = .ok (.d (.int x)) [purT a' b' c', .d (.int m)]
theorem draw (cal : Cal) (a b c m : Int) (hm : divOk m) : DrawP m (run1 cal fdDraw [purT a b c, .d (.int m)]) := by
  refine run_ofP rfl (wxs_ok _ _ ?_)
  refine ⟨_, rfl, fun _ => ?_, fun h => ?_⟩
  · refine ⟨_, rfl, hm.1, _, rfl, hm, _, _, _, _, ?_, ?_, rfl⟩
    exact Int.emod_nonneg _ (by have := hm.1; omega)
    exact Int.emod_lt_of_pos _ hm.1
  · refine ⟨_, rfl, mok (by omega), _, rfl, mok (by omega), by omega, ?_⟩
    refine ⟨_, rfl, mok (by omega), _, rfl, mok (by omega), by omega, ⟨by omega, by omega⟩, hm.1, _, _, _, _, ?_, ?_, rfl⟩
    exact Int.emod_nonneg _ (by have := hm.1; omega)
    exact Int.emod_lt_of_pos _ hm.1
def PurP (ns : List Int) (k : Int) (co : CO) : Prop := ∃ a b c, co = .ok (purT a b c) [.scr ns, .d (.int k)]
theorem purse (cal : Cal) (ns : List Int) (hl : ns.length ≤ 63) (k : Int) (hk : 0 ≤ k ∧ k < 100) : PurP ns k (run1 cal fdPurse [.scr ns, .d (.int k)]) := by
  refine run_ofP rfl ?_
  refine cut 1 (fun g => ∃ x, g = [.scr ns, I' k, I' x, .un, .un]) (wxs_ok _ _ ?_) ?_
  · refine ⟨fun h => ?_, fun h => ?_⟩
    · obtain ⟨x, hx⟩ := atI_some (xs := ns) hk.1 h
      exact ⟨_, idx_scr hx, x, rfl⟩
    · refine lcW_map (fun t => match t with | .d (.int i) => .int i | _ => .non) ?_ rfl ?_ ?_
      · simp only [List.length_map, cutD, List.length_take, List.length_drop]; omega
      · intro t ht
        simp only [List.mem_map] at ht
        obtain ⟨x, ⟨i, _, rfl⟩, rfl⟩ := ht
        exact ⟨_, rfl, rfl, ⟨rfl, rfl⟩⟩
      · simp only [List.map_map, Function.comp_def]
        exact ⟨_, sum_int, mok1 (by omega), _, rfl⟩
  · rintro g ⟨x, rfl⟩
    refine wxs_ok _ _ ?_
    refine ⟨mok1 (by omega), ?_⟩
    refine ⟨fun _ => ?_, fun _ => ?_⟩
    · refine ⟨by decide, fun _ => ?_, fun _ => ?_⟩
      · exact ⟨mok (by omega), by omega, _, _, _, rfl⟩
      · exact ⟨mok (by omega), by omega, _, _, _, rfl⟩
    · refine ⟨by decide, fun _ => ?_, fun _ => ?_⟩
      · exact ⟨mok (by omega), by omega, _, _, _, rfl⟩
      · exact ⟨mok (by omega), by omega, _, _, _, rfl⟩


/-! ### lists of ints, compared -/
theorem pys_int : ∀ l : List Int, D.pys (l.map D.int) = some (l.map PyData.int)
  | [] => rfl
  | i :: l => by simp only [List.map_cons, D.pys, D.py, pys_int l]
theorem lay_int : ∀ l : List Int, PyData.canLayAll0 (l.map PyData.int) = true
  | [] => rfl
  | i :: l => by simp only [List.map_cons, PyData.canLayAll0, PyData.canLay0, lay_int l, Bool.and_self]
theorem dep_int : ∀ l : List Int, PyData.depthAll (l.map PyData.int) = 0
  | [] => rfl
  | i :: l => by simp only [List.map_cons, PyData.depthAll, PyData.depth, dep_int l, Nat.max_self]
theorem shaped_int (l : List Int) : SeqAt.shaped (.list (l.map PyData.int)) = true := by
  unfold SeqAt.shaped
  simp only [PyData.canLay0, lay_int, PyData.depth, dep_int, Bool.true_and]
  decide
theorem ne_nil (l : List Int) : cmpop .ne (.lst (l.map D.int)) (.lst []) = some (!l.isEmpty) := by
  show (eqD _ _).map _ = _
  have : eqD (.lst (l.map D.int)) (.lst []) = some l.isEmpty := by
    simp only [eqD, D.py, pys_int, Option.map_some]
    show eqP (.list (l.map .int)) (.list []) = _
    unfold eqP
    rw [shaped_int, show SeqAt.shaped (.list []) = true from by decide]
    cases l <;> rfl
  rw [this]; rfl
theorem eq_nil (l : List Int) : cmpop .eq (.lst (l.map D.int)) (.lst []) = some l.isEmpty := by
  show eqD (.lst (l.map .int)) (.lst []) = some l.isEmpty
  simp only [eqD, D.py, pys_int, Option.map_some]
  show eqP (.list (l.map .int)) (.list []) = _
  unfold eqP
  rw [shaped_int, show SeqAt.shaped (.list []) = true from by decide]
  cases l <;> rfl
abbrev Rs (rs : List (List Int)) : D := .lst (rs.map fun r => Ls r)
theorem pys_rows : ∀ rs : List (List Int), D.pys (rs.map fun r => Ls r) = some (rs.map fun r => PyData.list (r.map .int))
  | [] => rfl
  | r :: rs => by simp only [List.map_cons, D.pys, D.py, pys_int, Option.map_some, pys_rows rs]
theorem shaped_rows (rs : List (List Int)) : SeqAt.shaped (.list (rs.map fun r => PyData.list (r.map .int))) = true := by
  have h1 : ∀ rs : List (List Int), PyData.canLayAll0 (rs.map fun r => PyData.list (r.map .int)) = true := by
    intro rs
    induction rs with
    | nil => rfl
    | cons r rs ih => simp only [List.map_cons, PyData.canLayAll0, PyData.canLay0, lay_int, ih, Bool.and_self]
  have h2 : ∀ rs : List (List Int), PyData.depthAll (rs.map fun r => PyData.list (r.map .int)) ≤ 1 := by
    intro rs
    induction rs with
    | nil => simp [PyData.depthAll]
    | cons r rs ih => simp only [List.map_cons, PyData.depthAll, PyData.depth, dep_int]; omega
  unfold SeqAt.shaped
  simp only [PyData.canLay0, h1, PyData.depth, Bool.true_and]
  have := h2 rs
  exact decide_eq_true (by show PyData.depthAll _ + 1 ≤ 64; omega)
theorem ne_nilR (rs : List (List Int)) : cmpop .ne (Rs rs) (.lst []) = some (!rs.isEmpty) := by
  show (eqD _ _).map _ = _
  have : eqD (Rs rs) (.lst []) = some rs.isEmpty := by
    simp only [eqD, D.py, pys_rows, Option.map_some]
    show eqP (.list (rs.map fun r => PyData.list (r.map .int))) (.list []) = _
    unfold eqP
    rw [shaped_rows, show SeqAt.shaped (.list []) = true from by decide]
    cases rs <;> rfl
  rw [this]; rfl
theorem in_int (i : Int) (l : List Int) : cmpop .isin (.int i) (Ls l) = some (decide (i ∈ l)) := by
  show inD (.int i) (Ls l) = _
  simp only [inD, D.py, pys_int, Option.map_some]
  show inP (.int i) (.list (l.map .int)) = _
  show (if (SeqAt.shaped (.int i) && SeqAt.shaped (.list (l.map .int))) = true then some ((l.map PyData.int).any fun z => PyData.eqv z (.int i)) else none) = _
  rw [shaped_int, show SeqAt.shaped (.int i) = true from rfl]
  simp only [Bool.and_self, if_true, List.any_map]
  congr 1
  rw [Bool.eq_iff_iff, List.any_eq_true]
  simp only [Function.comp, eqv_int, decide_eq_true_eq]
  exact ⟨fun ⟨x, h, e⟩ => e ▸ h, fun h => ⟨i, h, rfl⟩⟩
theorem notin_int (i : Int) (l : List Int) : cmpop .notin (.int i) (Ls l) = some (!decide (i ∈ l)) := by
  show (inD (.int i) (Ls l)).map _ = _
  have := in_int i l
  rw [show inD (.int i) (Ls l) = some (decide (i ∈ l)) from this]; rfl
/-- the greatest -/
def IsMx (m : Int) (l : List Int) : Prop := m ∈ l ∧ ∀ x ∈ l, x ≤ m
theorem maxI_is : ∀ {l : List Int} {m : Int}, maxI l = some m → IsMx m l
  | [], m, h => by cases h
  | [x], m, h => by
    simp only [maxI, Option.some.injEq] at h
    subst h
    exact ⟨by simp, by simp⟩
  | x :: y :: l, m, h => by
    obtain ⟨k, h1, h2⟩ := map_some (show (maxI (y :: l)).map (fun m => if m < x then x else m) = some m from h)
    obtain ⟨h3, h4⟩ := maxI_is h1
    subst h2
    split
    · refine ⟨.head _, fun z hz => ?_⟩
      rcases List.mem_cons.1 hz with rfl | hz
      · omega
      · have := h4 z hz; omega
    · refine ⟨.tail _ h3, fun z hz => ?_⟩
      rcases List.mem_cons.1 hz with rfl | hz
      · omega
      · exact h4 z hz
theorem maxI_some : ∀ (x : Int) (l : List Int), ∃ m, maxI (x :: l) = some m
  | x, [] => ⟨x, rfl⟩
  | x, y :: l => by
    obtain ⟨m, e⟩ := maxI_some y l
    exact ⟨if m < x then x else m, by show (maxI (y :: l)).map _ = _; rw [e]; rfl⟩
theorem IsMx.uniq {m k : Int} {l : List Int} (h : IsMx m l) (j : IsMx k l) : m = k := by
  have := h.2 k j.1
  have := j.2 m h.1
  omega
theorem maxl_int {o : Bool} {l : List Int} {m : Int} (h : maxI l = some m) : biT .maxl o [.d (Ls l)] = some (.d (.int m)) := by
  show (match (allInt (l.map D.int)) with
    | some is => (maxI is).map fun m => T.d (.int m)
    | none => none) = _
  rw [allInt_int]
  show (maxI l).map _ = _
  rw [h]; rfl
/-! ### more loops -/
theorem forW_mem {cal : Cal} {tg : List Nat} {un : Bool} {b : MSs} {ts : List T} {g : G} {N : G → Prop} {Q : SO → Prop} (I : G → Prop)
    (h0 : I g)
    (hstep : ∀ t ∈ ts, ∀ g, I g → ∃ g1, setTg g tg un t = some g1 ∧ Runs cal b g1 I fun o => match o with
      | .ct g2 => I g2
      | .bk g2 => N g2
      | o => Q o)
    (hend : ∀ g, I g → N g) : forW cal tg un b (ts, none) g N Q := by
  refine forW_inv (fun us g => (∀ t ∈ us, t ∈ ts) ∧ I g) ⟨fun _ h => h, h0⟩ ?_ fun g h => hend g h.2
  rintro t us g ⟨hm, hI⟩
  obtain ⟨g1, e, k⟩ := hstep t (hm t (.head _)) g hI
  refine ⟨g1, e, .of (k.sat.mono2 (fun g2 h => ⟨fun t' h' => hm t' (.tail _ h'), h⟩) fun o h => ?_)⟩
  cases o with
  | ct g2 => exact ⟨fun t' h' => hm t' (.tail _ h'), h⟩
  | _ => exact h
theorem lcT_inv {tst : G → Out Bool} {elt : G → Out T} {tg : List Nat} {un : Bool} {E : QE} {Q : List T → G → Prop} (I : List T → List T → G → Prop)
    (hs : ∀ t ts acc g, I (t :: ts) acc g → ∃ h, setTg g tg un t = some h ∧ (tst h).sat noE fun b h2 => match b with
      | true => (elt h2).sat noE fun u h3 => acc.length < 10000000 ∧ I ts (acc ++ [u]) (wipeG h3 tg)
      | false => I ts acc (wipeG h2 tg))
    (he : ∀ acc g, I [] acc g → Q acc g) : ∀ ts acc g, I ts acc g → (lcT tst elt tg un ts acc g).sat E Q
  | [], acc, g, h => he acc g h
  | t :: ts, acc, g, h => by
    obtain ⟨h1, e1, k⟩ := hs t ts acc g h
    unfold lcT
    simp only [e1]
    cases hh : tst h1 with
    | ok b h2 =>
      rw [hh] at k
      cases b with
      | false => exact lcT_inv I hs he ts acc _ k
      | true =>
        have k : (elt h2).sat noE _ := k
        cases h4 : elt h2 with
        | ok u h3 =>
          rw [h4] at k
          simp only [h4]
          rw [if_pos k.1]
          exact lcT_inv I hs he ts _ _ k.2
        | ex _ _ => rw [h4] at k; exact k.elim
        | bad => rw [h4] at k; exact k.elim
    | ex _ _ => rw [hh] at k; exact k.elim
    | bad => rw [hh] at k; exact k.elim
/-- a comprehension whose items change the state -/
theorem lcW_inv {cal : Cal} {o : Bool} {elt : ME} {tg : List Nat} {un : Bool} {ts : List T} {g : G} {E : QE} {Q : R → G → Prop} (I : List T → List T → G → Prop)
    (h0 : I ts [] (wipeG g tg))
    (hs : ∀ t ts acc g, I (t :: ts) acc g → acc.length < 10000000 ∧ ∃ h, setTg g tg un t = some h ∧ (wm cal elt).v h noE fun r h3 => ∃ u, R.keep h3 o r = some u ∧ I ts (acc ++ [u]) (wipeG h3 tg))
    (he : ∀ acc g2, I [] acc g2 → (lcEnd o g tg acc g2).sat E Q) : lcW cal o elt tg un .no (ts, none) g E Q := by
  unfold lcW
  refine Out.sat.bind (lcT_inv (Q := fun acc g2 => (lcEnd o g tg acc g2).sat E Q) I ?_ he ts [] _ h0)
  intro t ts acc g1 hI
  obtain ⟨hl, h, e, k⟩ := hs t ts acc g1 hI
  refine ⟨h, e, ?_⟩
  refine (?_ : (Out.sat (.bind ((sm cal elt).v h) (keepR o)) noE fun u h3 => acc.length < 10000000 ∧ I ts (acc ++ [u]) (wipeG h3 tg)))
  refine .bind (((wm_ok cal elt).v _ _ _ k).mono fun r h3 k => ?_)
  obtain ⟨u, e2, k⟩ := k
  unfold keepR
  rw [e2]
  exact ⟨hl, k⟩
end Wh

namespace Wh
open PySem L2 PySem.Spec PyProof.Rows
def fd_couples_of_kinds : FD := ⟨2, 1, (.cons (.asg 2 true (.lst true .nil))
    (.cons (.cond (.var 1) (.cons (.expr (.app (.var 2) (.tup false (.cons (.cst (.str (Str.ofString "asking"))) (.cons (.cst (.str (Str.ofString "leaving"))) .nil)))))
      .nil) .nil)
    (.cons (.cond (.var 0) (.cons (.expr (.app (.var 2) (.tup false (.cons (.cst (.str (Str.ofString "laying"))) (.cons (.cst (.str (Str.ofString "asking"))) .nil)))))
      .nil) .nil)
    (.cons (.cond (.and (.var 0) (.var 1)) (.cons (.expr (.app (.var 2) (.tup false (.cons (.cst (.str (Str.ofString "laying"))) (.cons (.cst (.str (Str.ofString "leaving"))) .nil)))))
      .nil) .nil)
    (.cons (.ret false (.mv 2))
    .nil))))), []⟩
def nm_couples_of_kinds : List Str := [Str.ofString "made", Str.ofString "left", Str.ofString "found"]
def fd_sums_that_matter : FD := ⟨5, 3, (.cons (.asg 5 false (.dis false [(.inr (Str.ofString "asking")), (.inr (Str.ofString "laying")), (.inr (Str.ofString "leaving"))] (.cons (.var 0) (.cons (.var 1) (.cons (.var 2) .nil)))))
    (.cons (.ret false (.lc false (.bin .add false (.dix (.var 5) (.var 6)) (.dix (.var 5) (.var 7))) [6, 7] true (.call 0 (.cons (.var 3) (.cons (.var 4) .nil))) .no))
    .nil)), []⟩
def nm_sums_that_matter : List Str := [Str.ofString "a", Str.ofString "l", Str.ofString "e", Str.ofString "made", Str.ofString "left", Str.ofString "numbers", Str.ofString "kind", Str.ofString "other"]
def fd_copies_due : FD := ⟨5, 2, (.cons (.asg 5 true (.lst true (.cons (.bin .add false (.cst (.int 1)) (.var 0)) (.cons (.var 1) (.cons (.var 2) .nil)))))
    (.cons (.for_ [6] false (.call 1 (.cons (.var 0) (.cons (.var 1) (.cons (.var 2) (.cons (.var 3) (.cons (.var 4) .nil)))))) (.cons (.expr (.app (.var 5) (.bin .add false (.cst (.int 1)) (.var 6))))
      .nil))
    (.cons (.ret false (.bi .maxl false (.cons (.var 5) .nil)))
    .nil))), []⟩
def nm_copies_due : List Str := [Str.ofString "a", Str.ofString "l", Str.ofString "e", Str.ofString "made", Str.ofString "left", Str.ofString "found", Str.ofString "number"]
def fd_numbers_right : FD := ⟨6, 1, (.cons (.for_ [6] false (.call 1 (.cons (.var 1) (.cons (.var 2) (.cons (.var 3) (.cons (.var 4) (.cons (.var 5) .nil)))))) (.cons (.cond (.cmp .ge (.var 6) (.var 0)) (.cons (.ret false (.cst (.bl false)))
        .nil) .nil)
      .nil))
    (.cons (.ret false (.cst (.bl true)))
    .nil)), []⟩
def nm_numbers_right : List Str := [Str.ofString "many", Str.ofString "a", Str.ofString "l", Str.ofString "e", Str.ofString "made", Str.ofString "left", Str.ofString "number"]
def fd_tight_numbers : FD := ⟨3, 0, (.cons (.ret false (.cmp .ge (.bin .add false (.var 1) (.var 2)) (.bin .sub false (.var 0) (.cst (.int 1)))))
    .nil), []⟩
def nm_tight_numbers : List Str := [Str.ofString "many", Str.ofString "a", Str.ofString "e"]
def fd__law_purse : FD := ⟨2, 3, (.cons (.asg 2 false (.ite (.cmp .lt (.var 1) (.bi .len false (.cons (.var 0) .nil))) (.bi .int false (.cons (.idx (.var 0) (.var 1)) .nil)) (.bin .mul false (.cst (.int 31)) (.bi .sum false (.cons (.lc false (.bi .int false (.cons (.var 4) .nil)) [4] false (.sl false (.var 0) .no (.cst (.int 4))) .no) .nil)))))
    (.cons (.asg 3 false (.bin .add false (.bin .mul false (.cst (.int 2)) (.bi .abs false (.cons (.var 2) .nil))) (.ite (.cmp .lt (.var 2) (.cst (.int 0))) (.cst (.int 1)) (.cst (.int 0)))))
    (.cons (.ret true (.lst true (.cons (.ite (.cmp .ge (.var 3) (.bin .pow false (.cst (.int 10)) (.cst (.int 18)))) (.var 3) (.cst (.int 0))) (.cons (.bin .mod false (.bi .int false (.cons (.bin .add false (.bin .add false (.var 3) (.bin .mul false (.var 1) (.cst (.int 104729)))) (.cst (.int 12345))) .nil)) (.cst (.int 2147483629))) (.cons (.var 1) .nil)))))
    .nil))), []⟩
def nm__law_purse : List Str := [Str.ofString "script", Str.ofString "at", Str.ofString "cell", Str.ofString "size", Str.ofString "one"]
def fd__law_draw : FD := ⟨2, 1, (.cons (.cond (.cmp .gt (.idx (.var 0) (.cst (.int 0))) (.cst (.int 0))) (.cons (.asg 2 false (.bin .mod false (.bi .int false (.cons (.idx (.var 0) (.cst (.int 0))) .nil)) (.var 1)))
      (.cons (.setI (.var 0) (.cst (.int 0)) (.bin .div false (.idx (.var 0) (.cst (.int 0))) (.var 1)))
      (.cons (.ret false (.var 2))
      .nil))) .nil)
    (.cons (.augI (.var 0) (.cst (.int 2)) .add (.cst (.int 1)))
    (.cons (.setI (.var 0) (.cst (.int 1)) (.bin .mod false (.bi .int false (.cons (.bin .add false (.bin .mul false (.idx (.var 0) (.cst (.int 1))) (.cst (.int 48271))) (.bin .mul false (.idx (.var 0) (.cst (.int 2))) (.cst (.int 69621)))) .nil)) (.cst (.int 2147483647))))
    (.cons (.ret false (.bin .mod false (.bin .div false (.bin .mod false (.bi .int false (.cons (.bin .add false (.bin .mul false (.idx (.var 0) (.cst (.int 1))) (.cst (.int 16807))) (.bin .mul false (.idx (.var 0) (.cst (.int 2))) (.cst (.int 7919)))) .nil)) (.cst (.int 2147483629))) (.cst (.int 8))) (.var 1)))
    .nil)))), []⟩
def nm__law_draw : List Str := [Str.ofString "purse", Str.ofString "many", Str.ofString "found"]
def fd__law_parts : FD := ⟨1, 3, (.cons (.asg 1 false (.lst false (.cons (.lst false .nil) .nil)))
    (.cons (.for_ [2] false (.var 0) (.cons (.asg 1 false (.bin .add false (.var 1) (.lc false (.bin .add false (.var 3) (.lst false (.cons (.var 2) .nil))) [3] false (.var 1) .no)))
      .nil))
    (.cons (.ret false (.var 1))
    .nil))), []⟩
def nm__law_parts : List Str := [Str.ofString "things", Str.ofString "parts", Str.ofString "thing", Str.ofString "part"]
def fd__law_family : FD := ⟨2, 0, (.cons (.cond (.cmp .eq (.var 1) (.cst (.str (Str.ofString "asking")))) (.cons (.ret false (.idx (.var 0) (.cst (.int 2))))
      .nil) .nil)
    (.cons (.ret false (.ite (.cmp .eq (.var 1) (.cst (.str (Str.ofString "laying")))) (.idx (.var 0) (.cst (.int 3))) (.idx (.var 0) (.cst (.int 4)))))
    .nil)), []⟩
def nm__law_family : List Str := [Str.ofString "seat", Str.ofString "kind"]
def fd__law_silent : FD := ⟨3, 2, (.cons (.cond (.cmp .eq (.var 2) (.lst false .nil)) (.cons (.ret false (.cst (.bl true)))
      .nil) .nil)
    (.cons (.for_ [3] false (.call 8 (.cons (.var 0) (.cons (.var 1) .nil))) (.cons (.cond (.cmp .eq (.lc false (.var 4) [4] false (.var 2) (.cmp .notin (.var 4) (.var 3))) (.lst false .nil)) (.cons (.ret false (.cst (.bl true)))
        .nil) .nil)
      .nil))
    (.cons (.ret false (.cst (.bl false)))
    .nil))), []⟩
def nm__law_silent : List Str := [Str.ofString "seat", Str.ofString "kind", Str.ofString "servers", Str.ofString "told", Str.ofString "one"]
def fd__law_kinds : FD := ⟨2, 1, (.cons (.asg 2 true (.lst true .nil))
    (.cons (.cond (.var 1) (.cons (.expr (.app (.var 2) (.tup false (.cons (.cst (.str (Str.ofString "asking"))) (.cons (.cst (.str (Str.ofString "leaving"))) .nil)))))
      .nil) .nil)
    (.cons (.cond (.var 0) (.cons (.expr (.app (.var 2) (.tup false (.cons (.cst (.str (Str.ofString "laying"))) (.cons (.cst (.str (Str.ofString "asking"))) .nil)))))
      .nil) .nil)
    (.cons (.cond (.and (.var 0) (.var 1)) (.cons (.expr (.app (.var 2) (.tup false (.cons (.cst (.str (Str.ofString "laying"))) (.cons (.cst (.str (Str.ofString "leaving"))) .nil)))))
      .nil) .nil)
    (.cons (.ret false (.mv 2))
    .nil))))), []⟩
def nm__law_kinds : List Str := [Str.ofString "made", Str.ofString "left", Str.ofString "kinds"]
def fd__law_couple : FD := ⟨3, 7, (.cons (.for_ [3, 4] true (.call 10 (.cons (.var 1) (.cons (.var 2) .nil))) (.cons (.asg 5 false (.call 8 (.cons (.var 0) (.cons (.var 3) .nil))))
      (.cons (.asg 6 false (.call 8 (.cons (.var 0) (.cons (.var 4) .nil))))
      (.cons (.for_ [7] false (.ite (.cmp .ne (.var 5) (.lst false .nil)) (.var 5) (.lst false (.cons (.lst false .nil) .nil))) (.cons (.for_ [8] false (.ite (.cmp .ne (.var 6) (.lst false .nil)) (.var 6) (.lst false (.cons (.lst false .nil) .nil))) (.cons (.cond (.cmp .eq (.lc false (.var 9) [9] false (.idx (.var 0) (.cst (.int 1))) (.and (.cmp .notin (.var 9) (.var 7)) (.cmp .notin (.var 9) (.var 8)))) (.lst false .nil)) (.cons (.ret false (.tup false (.cons (.var 3) (.cons (.var 4) (.cons (.bi .list false (.cons (.var 7) .nil)) (.cons (.bi .list false (.cons (.var 8) .nil)) .nil))))))
            .nil) .nil)
          .nil))
        .nil))
      .nil))))
    (.cons (.ret false (.cst .non))
    .nil)), []⟩
def nm__law_couple : List Str := [Str.ofString "seat", Str.ofString "made", Str.ofString "left", Str.ofString "one", Str.ofString "other", Str.ofString "firsts", Str.ofString "others", Str.ofString "low", Str.ofString "high", Str.ofString "server"]
def fd__law_by_sizes : FD := ⟨4, 6, (.cons (.asg 4 false (.lc false (.var 8) [8] false (.idx (.var 0) (.cst (.int 1))) (.cmp .ne (.var 8) (.idx (.var 0) (.cst (.int 0))))))
    (.cons (.asg 5 false (.bi .sortedR false (.cons (.lc false (.var 9) [9] false (.call 7 (.cons (.var 4) .nil)) (.cmp .eq (.bi .len false (.cons (.var 9) .nil)) (.var 1))) .nil)))
    (.cons (.asg 6 false (.bi .sortedR false (.cons (.lc false (.var 9) [9] false (.call 7 (.cons (.idx (.var 0) (.cst (.int 1))) .nil)) (.cmp .eq (.bi .len false (.cons (.var 9) .nil)) (.var 2))) .nil)))
    (.cons (.asg 7 false (.bi .sortedR false (.cons (.lc false (.var 9) [9] false (.call 7 (.cons (.idx (.var 0) (.cst (.int 1))) .nil)) (.cmp .eq (.bi .len false (.cons (.var 9) .nil)) (.var 3))) .nil)))
    (.cons (.ret false (.lst false (.cons (.idx (.var 0) (.cst (.int 0))) (.cons (.idx (.var 0) (.cst (.int 1))) (.cons (.var 5) (.cons (.var 6) (.cons (.var 7) .nil)))))))
    .nil))))), []⟩
def nm__law_by_sizes : List Str := [Str.ofString "seat", Str.ofString "a", Str.ofString "l", Str.ofString "e", Str.ofString "rest", Str.ofString "asking", Str.ofString "laying", Str.ofString "leaving", Str.ofString "server", Str.ofString "one"]
def fd__law_is_loose : FD := ⟨1, 3, (.cons (.for_ [1] false (.call 7 (.cons (.idx (.var 0) (.cst (.int 1))) .nil)) (.cons (.asg 2 false (.lc false (.var 3) [3] false (.idx (.var 0) (.cst (.int 1))) (.cmp .notin (.var 3) (.var 1))))
      (.cons (.cond (.and (.cmp .isin (.idx (.var 0) (.cst (.int 0))) (.var 1)) (.and (.not (.call 9 (.cons (.var 0) (.cons (.cst (.str (Str.ofString "leaving"))) (.cons (.var 1) .nil))))) (.not (.call 9 (.cons (.var 0) (.cons (.cst (.str (Str.ofString "asking"))) (.cons (.var 2) .nil))))))) (.cons (.ret false (.cst (.bl true)))
        .nil) .nil)
      .nil)))
    (.cons (.ret false (.cst (.bl false)))
    .nil)), []⟩
def nm__law_is_loose : List Str := [Str.ofString "seat", Str.ofString "held", Str.ofString "rest", Str.ofString "server"]
def fd__law_truth : FD := ⟨2, 0, (.cons (.ret false (.and (.isi (.var 0) .bool) (.cmp .eq (.var 0) (.var 1))))
    .nil), []⟩
def nm__law_truth : List Str := [Str.ofString "told", Str.ofString "due"]
def fd__law_whole : FD := ⟨2, 0, (.cons (.ret false (.and (.isi (.var 0) .int) (.and (.not (.isi (.var 0) .bool)) (.cmp .eq (.var 0) (.var 1)))))
    .nil), []⟩
def nm__law_whole : List Str := [Str.ofString "told", Str.ofString "due"]
def fd__law_sets_right : FD := ⟨5, 8, (.cons (.asg 5 true (.lc true (.cst (.int 0)) [9] false (.var 3) .no))
    (.cons (.for_ [6] false (.rng2 (.bi .max3 false (.cons (.bin .add false (.cst (.int 1)) (.var 0)) (.cons (.var 1) (.cons (.var 2) .nil)))) (.cst (.int 8))) (.cons (.asg 8 false (.call 12 (.cons (.lst false (.cons (.bin .add false (.cst (.int 1)) (.bin .mod false (.bi .int false (.cons (.var 4) .nil)) (.var 6))) (.cons (.lrg2 false (.cst (.int 1)) (.bin .add false (.var 6) (.cst (.int 1)))) (.cons (.lst false .nil) (.cons (.lst false .nil) (.cons (.lst false .nil) .nil)))))) (.cons (.var 0) (.cons (.var 1) (.cons (.var 2) .nil))))))
      (.cons (.for_ [7] false (.rng1 (.bi .len false (.cons (.var 3) .nil))) (.cons (.asgT [11, 12] (.idx (.var 3) (.var 7)))
        (.cons (.asg 10 false (.isN (.call 11 (.cons (.var 8) (.cons (.var 11) (.cons (.var 12) .nil))))))
        (.cons (.cond (.and (.var 10) (.cmp .eq (.idx (.var 5) (.var 7)) (.cst (.int 0)))) (.cons (.setI (.var 5) (.var 7) (.var 6))
          .nil) .nil)
        (.cons (.cond (.not (.call 14 (.cons (.call 3 (.cons (.var 6) (.cons (.var 0) (.cons (.var 1) (.cons (.var 2) (.cons (.var 11) (.cons (.var 12) .nil))))))) (.cons (.var 10) .nil)))) (.cons (.ret false (.cst (.bl false)))
          .nil) .nil)
        .nil)))))
      (.cons (.cond (.not (.call 14 (.cons (.call 4 (.cons (.var 6) (.cons (.var 0) (.cons (.var 2) .nil)))) (.cons (.not (.call 13 (.cons (.var 8) .nil))) .nil)))) (.cons (.ret false (.cst (.bl false)))
        .nil) .nil)
      .nil))))
    (.cons (.for_ [7] false (.rng1 (.bi .len false (.cons (.var 3) .nil))) (.cons (.cond (.not (.call 15 (.cons (.call 2 (.cons (.var 0) (.cons (.var 1) (.cons (.var 2) (.cons (.idx (.idx (.var 3) (.var 7)) (.cst (.int 0))) (.cons (.idx (.idx (.var 3) (.var 7)) (.cst (.int 1))) .nil)))))) (.cons (.idx (.var 5) (.var 7)) .nil)))) (.cons (.ret false (.cst (.bl false)))
        .nil) .nil)
      .nil))
    (.cons (.ret false (.cst (.bl true)))
    .nil)))), []⟩
def nm__law_sets_right : List Str := [Str.ofString "a", Str.ofString "l", Str.ofString "e", Str.ofString "kinds", Str.ofString "low", Str.ofString "least", Str.ofString "many", Str.ofString "at", Str.ofString "seat", Str.ofString "kind", Str.ofString "right", Str.ofString "made", Str.ofString "left"]
def fd__law_sums : FD := ⟨5, 1, (.cons (.asg 5 true (.lst true .nil))
    (.cons (.cond (.var 4) (.cons (.expr (.app (.var 5) (.bin .add false (.var 0) (.var 2))))
      .nil) .nil)
    (.cons (.cond (.var 3) (.cons (.expr (.app (.var 5) (.bin .add false (.var 1) (.var 0))))
      .nil) .nil)
    (.cons (.cond (.and (.var 3) (.var 4)) (.cons (.expr (.app (.var 5) (.bin .add false (.var 1) (.var 2))))
      .nil) .nil)
    (.cons (.ret false (.mv 5))
    .nil))))), []⟩
def nm__law_sums : List Str := [Str.ofString "a", Str.ofString "l", Str.ofString "e", Str.ofString "made", Str.ofString "left", Str.ofString "found"]
def fd__law_great_right : FD := ⟨1, 10, (.cons (.asg 1 false (.idx (.lst false (.cons (.cst (.int 20)) (.cons (.bin .pow false (.cst (.int 10)) (.cst (.int 9))) (.cons (.bin .pow false (.cst (.int 10)) (.cst (.int 30))) .nil)))) (.call 6 (.cons (.ref 0) (.cons (.cst (.int 3)) .nil)))))
    (.cons (.asg 2 false (.call 6 (.cons (.ref 0) (.cons (.bin .add false (.var 1) (.cst (.int 1))) .nil))))
    (.cons (.asg 3 false (.call 6 (.cons (.ref 0) (.cons (.bin .add false (.var 1) (.cst (.int 1))) .nil))))
    (.cons (.asg 4 false (.call 6 (.cons (.ref 0) (.cons (.bin .add false (.var 1) (.cst (.int 1))) .nil))))
    (.cons (.for_ [5] false (.lst false (.cons (.cst (.bl false)) (.cons (.cst (.bl true)) .nil))) (.cons (.for_ [7] false (.lst false (.cons (.cst (.bl false)) (.cons (.cst (.bl true)) .nil))) (.cons (.asg 8 false (.call 17 (.cons (.var 2) (.cons (.var 3) (.cons (.var 4) (.cons (.var 5) (.cons (.var 7) .nil)))))))
        (.cons (.cond (.not (.call 15 (.cons (.call 2 (.cons (.var 2) (.cons (.var 3) (.cons (.var 4) (.cons (.var 5) (.cons (.var 7) .nil)))))) (.cons (.bi .maxl false (.cons (.bin .add false (.lst false (.cons (.bin .add false (.cst (.int 1)) (.var 2)) (.cons (.var 3) (.cons (.var 4) .nil)))) (.lc false (.bin .add false (.var 10) (.cst (.int 1))) [10] false (.var 8) .no)) .nil)) .nil)))) (.cons (.ret false (.cst (.bl false)))
          .nil) .nil)
        (.cons (.for_ [6] false (.bin .add false (.bin .add false (.lst false (.cons (.cst (.int 0)) (.cons (.cst (.int 1)) .nil))) (.var 8)) (.lc false (.bin .add false (.var 10) (.cst (.int 1))) [10] false (.var 8) .no)) (.cons (.asg 9 false (.cmp .eq (.lc false (.var 10) [10] false (.var 8) (.cmp .ge (.var 10) (.var 6))) (.lst false .nil)))
          (.cons (.cond (.not (.call 14 (.cons (.call 3 (.cons (.var 6) (.cons (.var 2) (.cons (.var 3) (.cons (.var 4) (.cons (.var 5) (.cons (.var 7) .nil))))))) (.cons (.var 9) .nil)))) (.cons (.ret false (.cst (.bl false)))
            .nil) .nil)
          .nil)))
        .nil))))
      .nil))
    (.cons (.for_ [6] false (.lst false (.cons (.bin .add false (.var 2) (.var 4)) (.cons (.bin .add false (.bin .add false (.var 2) (.var 4)) (.cst (.int 1))) (.cons (.bin .add false (.bin .add false (.var 2) (.var 4)) (.cst (.int 2))) .nil)))) (.cons (.cond (.not (.call 14 (.cons (.call 4 (.cons (.var 6) (.cons (.var 2) (.cons (.var 4) .nil)))) (.cons (.cmp .le (.var 6) (.bin .add false (.bin .add false (.var 2) (.var 4)) (.cst (.int 1)))) .nil)))) (.cons (.ret false (.cst (.bl false)))
        .nil) .nil)
      .nil))
    (.cons (.ret false (.cst (.bl true)))
    .nil))))))), []⟩
def nm__law_great_right : List Str := [Str.ofString "purse", Str.ofString "most", Str.ofString "a", Str.ofString "l", Str.ofString "e", Str.ofString "made", Str.ofString "many", Str.ofString "left", Str.ofString "found", Str.ofString "due", Str.ofString "one"]
def fd__law_world_right : FD := ⟨1, 5, (.cons (.asg 1 false (.call 6 (.cons (.ref 0) (.cons (.cst (.int 4)) .nil))))
    (.cons (.asg 2 false (.call 6 (.cons (.ref 0) (.cons (.cst (.int 4)) .nil))))
    (.cons (.asg 3 false (.call 6 (.cons (.ref 0) (.cons (.cst (.int 4)) .nil))))
    (.cons (.asg 4 false (.call 6 (.cons (.ref 0) (.cons (.cst (.int 420)) .nil))))
    (.cons (.asg 5 false (.lst false (.cons (.tup false (.cons (.cst (.bl false)) (.cons (.cmp .gt (.call 6 (.cons (.ref 0) (.cons (.cst (.int 3)) .nil))) (.cst (.int 0))) .nil))) (.cons (.tup false (.cons (.cst (.bl true)) (.cons (.cmp .gt (.call 6 (.cons (.ref 0) (.cons (.cst (.int 3)) .nil))) (.cst (.int 0))) .nil))) .nil))))
    (.cons (.ret false (.and (.call 16 (.cons (.var 1) (.cons (.var 2) (.cons (.var 3) (.cons (.var 5) (.cons (.var 4) .nil)))))) (.call 18 (.cons (.ref 0) .nil))))
    .nil)))))), []⟩
def nm__law_world_right : List Str := [Str.ofString "purse", Str.ofString "a", Str.ofString "l", Str.ofString "e", Str.ofString "low", Str.ofString "kinds"]
def fd_law : FD := ⟨1, 1, (.cons (.for_ [1] false (.rng1 (.bi .max false (.cons (.cst (.int 1)) (.cons (.bi .min false (.cons (.cst (.int 2)) (.cons (.bi .len false (.cons (.var 0) .nil)) .nil))) .nil)))) (.cons (.cond (.not (.call 19 (.cons (.call 5 (.cons (.var 0) (.cons (.var 1) .nil))) .nil))) (.cons (.ret false (.cst (.bl false)))
        .nil) .nil)
      .nil))
    (.cons (.ret false (.cst (.bl true)))
    .nil)), []⟩
def nm_law : List Str := [Str.ofString "script", Str.ofString "at"]
def fs : List FD := [fd_couples_of_kinds, fd_sums_that_matter, fd_copies_due, fd_numbers_right, fd_tight_numbers, fd__law_purse, fd__law_draw, fd__law_parts, fd__law_family, fd__law_silent, fd__law_kinds, fd__law_couple, fd__law_by_sizes, fd__law_is_loose, fd__law_truth, fd__law_whole, fd__law_sets_right, fd__law_sums, fd__law_great_right, fd__law_world_right, fd_law]
def gs : Gs := { fns := [(Str.ofString "couples_of_kinds", 0), (Str.ofString "sums_that_matter", 1), (Str.ofString "copies_due", 2), (Str.ofString "numbers_right", 3), (Str.ofString "tight_numbers", 4), (Str.ofString "_law_purse", 5), (Str.ofString "_law_draw", 6), (Str.ofString "_law_parts", 7), (Str.ofString "_law_family", 8), (Str.ofString "_law_silent", 9), (Str.ofString "_law_kinds", 10), (Str.ofString "_law_couple", 11), (Str.ofString "_law_by_sizes", 12), (Str.ofString "_law_is_loose", 13), (Str.ofString "_law_truth", 14), (Str.ofString "_law_whole", 15), (Str.ofString "_law_sets_right", 16), (Str.ofString "_law_sums", 17), (Str.ofString "_law_great_right", 18), (Str.ofString "_law_world_right", 19), (Str.ofString "law", 20)], cls := [], cst := [], flds := [], errs := [], nE := 0 }
abbrev topD (i : Nat) : Stmt := (PySem.Challenge.pw_whereheld_k16_whole_numbers_against_all.main.body[i]?).getD (.Pass ⟨0,0,0,0⟩)
theorem sc_couples_of_kinds : FnScope nm_couples_of_kinds [(Str.ofString "made"), (Str.ofString "left")] (defScope (topD 1)) := ⟨rfl, rfl, rfl, by decide +kernel, rfl, by decide +kernel, by decide +kernel⟩
theorem ck_couples_of_kinds : chkSs gs fd_couples_of_kinds.body ⟨nm_couples_of_kinds, defScope (topD 1), none, fun _ => true⟩ (defBody (topD 1)) = true := by decide +kernel
theorem df_couples_of_kinds {K : PySem.W.Frag} {f : Addr} {oc kV dc pm cd ct : Value} {od an : Option Addr} {sl : Array (Option Value)} (l : K.lookup f = some ⟨oc, od, .func (PySem.W.fnOf (Str.ofString "couples_of_kinds") (Str.ofString "couples_of_kinds") (defArgs (topD 1)) (defBody (topD 1)) (defScope (topD 1)) .none kV dc pm an cd ct), sl⟩)
    (c : PySem.W.codeIn K cd (Str.ofString "couples_of_kinds") = true) (k : PySem.W.keepIn K (.ref f) = true) : ∃ fdata ps, DefOk K gs fd_couples_of_kinds f fdata ps ∧ Binds K fdata ps [] :=
  ⟨_, [(Str.ofString "made"), (Str.ofString "left")], ⟨_, _, _, _, _, _, _, _, _, _, _, _, _, _, _, nm_couples_of_kinds, rfl, l, c, sc_couples_of_kinds, rfl, rfl, by decide +kernel, ck_couples_of_kinds⟩, (fun_mk (st := topD 1) l c k).binds (ps := [(Str.ofString "made"), (Str.ofString "left")]) fun _ _ _ _ _ _ us hl => match us, hl with | [_, _], _ => rfl⟩
theorem sc_sums_that_matter : FnScope nm_sums_that_matter [(Str.ofString "a"), (Str.ofString "l"), (Str.ofString "e"), (Str.ofString "made"), (Str.ofString "left")] (defScope (topD 3)) := ⟨rfl, rfl, rfl, by decide +kernel, rfl, by decide +kernel, by decide +kernel⟩
theorem ck_sums_that_matter : chkSs gs fd_sums_that_matter.body ⟨nm_sums_that_matter, defScope (topD 3), none, fun _ => true⟩ (defBody (topD 3)) = true := by decide +kernel
theorem df_sums_that_matter {K : PySem.W.Frag} {f : Addr} {oc kV dc pm cd ct : Value} {od an : Option Addr} {sl : Array (Option Value)} (l : K.lookup f = some ⟨oc, od, .func (PySem.W.fnOf (Str.ofString "sums_that_matter") (Str.ofString "sums_that_matter") (defArgs (topD 3)) (defBody (topD 3)) (defScope (topD 3)) .none kV dc pm an cd ct), sl⟩)
    (c : PySem.W.codeIn K cd (Str.ofString "sums_that_matter") = true) (k : PySem.W.keepIn K (.ref f) = true) : ∃ fdata ps, DefOk K gs fd_sums_that_matter f fdata ps ∧ Binds K fdata ps [] :=
  ⟨_, [(Str.ofString "a"), (Str.ofString "l"), (Str.ofString "e"), (Str.ofString "made"), (Str.ofString "left")], ⟨_, _, _, _, _, _, _, _, _, _, _, _, _, _, _, nm_sums_that_matter, rfl, l, c, sc_sums_that_matter, rfl, rfl, by decide +kernel, ck_sums_that_matter⟩, (fun_mk (st := topD 3) l c k).binds (ps := [(Str.ofString "a"), (Str.ofString "l"), (Str.ofString "e"), (Str.ofString "made"), (Str.ofString "left")]) fun _ _ _ _ _ _ us hl => match us, hl with | [_, _, _, _, _], _ => rfl⟩
theorem sc_copies_due : FnScope nm_copies_due [(Str.ofString "a"), (Str.ofString "l"), (Str.ofString "e"), (Str.ofString "made"), (Str.ofString "left")] (defScope (topD 4)) := ⟨rfl, rfl, rfl, by decide +kernel, rfl, by decide +kernel, by decide +kernel⟩
theorem ck_copies_due : chkSs gs fd_copies_due.body ⟨nm_copies_due, defScope (topD 4), none, fun _ => true⟩ (defBody (topD 4)) = true := by decide +kernel
theorem df_copies_due {K : PySem.W.Frag} {f : Addr} {oc kV dc pm cd ct : Value} {od an : Option Addr} {sl : Array (Option Value)} (l : K.lookup f = some ⟨oc, od, .func (PySem.W.fnOf (Str.ofString "copies_due") (Str.ofString "copies_due") (defArgs (topD 4)) (defBody (topD 4)) (defScope (topD 4)) .none kV dc pm an cd ct), sl⟩)
    (c : PySem.W.codeIn K cd (Str.ofString "copies_due") = true) (k : PySem.W.keepIn K (.ref f) = true) : ∃ fdata ps, DefOk K gs fd_copies_due f fdata ps ∧ Binds K fdata ps [] :=
  ⟨_, [(Str.ofString "a"), (Str.ofString "l"), (Str.ofString "e"), (Str.ofString "made"), (Str.ofString "left")], ⟨_, _, _, _, _, _, _, _, _, _, _, _, _, _, _, nm_copies_due, rfl, l, c, sc_copies_due, rfl, rfl, by decide +kernel, ck_copies_due⟩, (fun_mk (st := topD 4) l c k).binds (ps := [(Str.ofString "a"), (Str.ofString "l"), (Str.ofString "e"), (Str.ofString "made"), (Str.ofString "left")]) fun _ _ _ _ _ _ us hl => match us, hl with | [_, _, _, _, _], _ => rfl⟩
theorem sc_numbers_right : FnScope nm_numbers_right [(Str.ofString "many"), (Str.ofString "a"), (Str.ofString "l"), (Str.ofString "e"), (Str.ofString "made"), (Str.ofString "left")] (defScope (topD 5)) := ⟨rfl, rfl, rfl, by decide +kernel, rfl, by decide +kernel, by decide +kernel⟩
theorem ck_numbers_right : chkSs gs fd_numbers_right.body ⟨nm_numbers_right, defScope (topD 5), none, fun _ => true⟩ (defBody (topD 5)) = true := by decide +kernel
theorem df_numbers_right {K : PySem.W.Frag} {f : Addr} {oc kV dc pm cd ct : Value} {od an : Option Addr} {sl : Array (Option Value)} (l : K.lookup f = some ⟨oc, od, .func (PySem.W.fnOf (Str.ofString "numbers_right") (Str.ofString "numbers_right") (defArgs (topD 5)) (defBody (topD 5)) (defScope (topD 5)) .none kV dc pm an cd ct), sl⟩)
    (c : PySem.W.codeIn K cd (Str.ofString "numbers_right") = true) (k : PySem.W.keepIn K (.ref f) = true) : ∃ fdata ps, DefOk K gs fd_numbers_right f fdata ps ∧ Binds K fdata ps [] :=
  ⟨_, [(Str.ofString "many"), (Str.ofString "a"), (Str.ofString "l"), (Str.ofString "e"), (Str.ofString "made"), (Str.ofString "left")], ⟨_, _, _, _, _, _, _, _, _, _, _, _, _, _, _, nm_numbers_right, rfl, l, c, sc_numbers_right, rfl, rfl, by decide +kernel, ck_numbers_right⟩, (fun_mk (st := topD 5) l c k).binds (ps := [(Str.ofString "many"), (Str.ofString "a"), (Str.ofString "l"), (Str.ofString "e"), (Str.ofString "made"), (Str.ofString "left")]) fun _ _ _ _ _ _ us hl => match us, hl with | [_, _, _, _, _, _], _ => rfl⟩
theorem sc_tight_numbers : FnScope nm_tight_numbers [(Str.ofString "many"), (Str.ofString "a"), (Str.ofString "e")] (defScope (topD 6)) := ⟨rfl, rfl, rfl, by decide +kernel, rfl, by decide +kernel, by decide +kernel⟩
theorem ck_tight_numbers : chkSs gs fd_tight_numbers.body ⟨nm_tight_numbers, defScope (topD 6), none, fun _ => true⟩ (defBody (topD 6)) = true := by decide +kernel
theorem df_tight_numbers {K : PySem.W.Frag} {f : Addr} {oc kV dc pm cd ct : Value} {od an : Option Addr} {sl : Array (Option Value)} (l : K.lookup f = some ⟨oc, od, .func (PySem.W.fnOf (Str.ofString "tight_numbers") (Str.ofString "tight_numbers") (defArgs (topD 6)) (defBody (topD 6)) (defScope (topD 6)) .none kV dc pm an cd ct), sl⟩)
    (c : PySem.W.codeIn K cd (Str.ofString "tight_numbers") = true) (k : PySem.W.keepIn K (.ref f) = true) : ∃ fdata ps, DefOk K gs fd_tight_numbers f fdata ps ∧ Binds K fdata ps [] :=
  ⟨_, [(Str.ofString "many"), (Str.ofString "a"), (Str.ofString "e")], ⟨_, _, _, _, _, _, _, _, _, _, _, _, _, _, _, nm_tight_numbers, rfl, l, c, sc_tight_numbers, rfl, rfl, by decide +kernel, ck_tight_numbers⟩, (fun_mk (st := topD 6) l c k).binds (ps := [(Str.ofString "many"), (Str.ofString "a"), (Str.ofString "e")]) fun _ _ _ _ _ _ us hl => match us, hl with | [_, _, _], _ => rfl⟩
theorem sc__law_purse : FnScope nm__law_purse [(Str.ofString "script"), (Str.ofString "at")] (defScope (topD 8)) := ⟨rfl, rfl, rfl, by decide +kernel, rfl, by decide +kernel, by decide +kernel⟩
theorem ck__law_purse : chkSs gs fd__law_purse.body ⟨nm__law_purse, defScope (topD 8), none, fun _ => true⟩ (defBody (topD 8)) = true := by decide +kernel
theorem df__law_purse {K : PySem.W.Frag} {f : Addr} {oc kV dc pm cd ct : Value} {od an : Option Addr} {sl : Array (Option Value)} (l : K.lookup f = some ⟨oc, od, .func (PySem.W.fnOf (Str.ofString "_law_purse") (Str.ofString "_law_purse") (defArgs (topD 8)) (defBody (topD 8)) (defScope (topD 8)) .none kV dc pm an cd ct), sl⟩)
    (c : PySem.W.codeIn K cd (Str.ofString "_law_purse") = true) (k : PySem.W.keepIn K (.ref f) = true) : ∃ fdata ps, DefOk K gs fd__law_purse f fdata ps ∧ Binds K fdata ps [] :=
  ⟨_, [(Str.ofString "script"), (Str.ofString "at")], ⟨_, _, _, _, _, _, _, _, _, _, _, _, _, _, _, nm__law_purse, rfl, l, c, sc__law_purse, rfl, rfl, by decide +kernel, ck__law_purse⟩, (fun_mk (st := topD 8) l c k).binds (ps := [(Str.ofString "script"), (Str.ofString "at")]) fun _ _ _ _ _ _ us hl => match us, hl with | [_, _], _ => rfl⟩
theorem sc__law_draw : FnScope nm__law_draw [(Str.ofString "purse"), (Str.ofString "many")] (defScope (topD 9)) := ⟨rfl, rfl, rfl, by decide +kernel, rfl, by decide +kernel, by decide +kernel⟩
theorem ck__law_draw : chkSs gs fd__law_draw.body ⟨nm__law_draw, defScope (topD 9), none, fun _ => true⟩ (defBody (topD 9)) = true := by decide +kernel
theorem df__law_draw {K : PySem.W.Frag} {f : Addr} {oc kV dc pm cd ct : Value} {od an : Option Addr} {sl : Array (Option Value)} (l : K.lookup f = some ⟨oc, od, .func (PySem.W.fnOf (Str.ofString "_law_draw") (Str.ofString "_law_draw") (defArgs (topD 9)) (defBody (topD 9)) (defScope (topD 9)) .none kV dc pm an cd ct), sl⟩)
    (c : PySem.W.codeIn K cd (Str.ofString "_law_draw") = true) (k : PySem.W.keepIn K (.ref f) = true) : ∃ fdata ps, DefOk K gs fd__law_draw f fdata ps ∧ Binds K fdata ps [] :=
  ⟨_, [(Str.ofString "purse"), (Str.ofString "many")], ⟨_, _, _, _, _, _, _, _, _, _, _, _, _, _, _, nm__law_draw, rfl, l, c, sc__law_draw, rfl, rfl, by decide +kernel, ck__law_draw⟩, (fun_mk (st := topD 9) l c k).binds (ps := [(Str.ofString "purse"), (Str.ofString "many")]) fun _ _ _ _ _ _ us hl => match us, hl with | [_, _], _ => rfl⟩
theorem sc__law_parts : FnScope nm__law_parts [(Str.ofString "things")] (defScope (topD 10)) := ⟨rfl, rfl, rfl, by decide +kernel, rfl, by decide +kernel, by decide +kernel⟩
theorem ck__law_parts : chkSs gs fd__law_parts.body ⟨nm__law_parts, defScope (topD 10), none, fun _ => true⟩ (defBody (topD 10)) = true := by decide +kernel
theorem df__law_parts {K : PySem.W.Frag} {f : Addr} {oc kV dc pm cd ct : Value} {od an : Option Addr} {sl : Array (Option Value)} (l : K.lookup f = some ⟨oc, od, .func (PySem.W.fnOf (Str.ofString "_law_parts") (Str.ofString "_law_parts") (defArgs (topD 10)) (defBody (topD 10)) (defScope (topD 10)) .none kV dc pm an cd ct), sl⟩)
    (c : PySem.W.codeIn K cd (Str.ofString "_law_parts") = true) (k : PySem.W.keepIn K (.ref f) = true) : ∃ fdata ps, DefOk K gs fd__law_parts f fdata ps ∧ Binds K fdata ps [] :=
  ⟨_, [(Str.ofString "things")], ⟨_, _, _, _, _, _, _, _, _, _, _, _, _, _, _, nm__law_parts, rfl, l, c, sc__law_parts, rfl, rfl, by decide +kernel, ck__law_parts⟩, (fun_mk (st := topD 10) l c k).binds (ps := [(Str.ofString "things")]) fun _ _ _ _ _ _ us hl => match us, hl with | [_], _ => rfl⟩
theorem sc__law_family : FnScope nm__law_family [(Str.ofString "seat"), (Str.ofString "kind")] (defScope (topD 11)) := ⟨rfl, rfl, rfl, by decide +kernel, rfl, by decide +kernel, by decide +kernel⟩
theorem ck__law_family : chkSs gs fd__law_family.body ⟨nm__law_family, defScope (topD 11), none, fun _ => true⟩ (defBody (topD 11)) = true := by decide +kernel
theorem df__law_family {K : PySem.W.Frag} {f : Addr} {oc kV dc pm cd ct : Value} {od an : Option Addr} {sl : Array (Option Value)} (l : K.lookup f = some ⟨oc, od, .func (PySem.W.fnOf (Str.ofString "_law_family") (Str.ofString "_law_family") (defArgs (topD 11)) (defBody (topD 11)) (defScope (topD 11)) .none kV dc pm an cd ct), sl⟩)
    (c : PySem.W.codeIn K cd (Str.ofString "_law_family") = true) (k : PySem.W.keepIn K (.ref f) = true) : ∃ fdata ps, DefOk K gs fd__law_family f fdata ps ∧ Binds K fdata ps [] :=
  ⟨_, [(Str.ofString "seat"), (Str.ofString "kind")], ⟨_, _, _, _, _, _, _, _, _, _, _, _, _, _, _, nm__law_family, rfl, l, c, sc__law_family, rfl, rfl, by decide +kernel, ck__law_family⟩, (fun_mk (st := topD 11) l c k).binds (ps := [(Str.ofString "seat"), (Str.ofString "kind")]) fun _ _ _ _ _ _ us hl => match us, hl with | [_, _], _ => rfl⟩
theorem sc__law_silent : FnScope nm__law_silent [(Str.ofString "seat"), (Str.ofString "kind"), (Str.ofString "servers")] (defScope (topD 12)) := ⟨rfl, rfl, rfl, by decide +kernel, rfl, by decide +kernel, by decide +kernel⟩
theorem ck__law_silent : chkSs gs fd__law_silent.body ⟨nm__law_silent, defScope (topD 12), none, fun _ => true⟩ (defBody (topD 12)) = true := by decide +kernel
theorem df__law_silent {K : PySem.W.Frag} {f : Addr} {oc kV dc pm cd ct : Value} {od an : Option Addr} {sl : Array (Option Value)} (l : K.lookup f = some ⟨oc, od, .func (PySem.W.fnOf (Str.ofString "_law_silent") (Str.ofString "_law_silent") (defArgs (topD 12)) (defBody (topD 12)) (defScope (topD 12)) .none kV dc pm an cd ct), sl⟩)
    (c : PySem.W.codeIn K cd (Str.ofString "_law_silent") = true) (k : PySem.W.keepIn K (.ref f) = true) : ∃ fdata ps, DefOk K gs fd__law_silent f fdata ps ∧ Binds K fdata ps [] :=
  ⟨_, [(Str.ofString "seat"), (Str.ofString "kind"), (Str.ofString "servers")], ⟨_, _, _, _, _, _, _, _, _, _, _, _, _, _, _, nm__law_silent, rfl, l, c, sc__law_silent, rfl, rfl, by decide +kernel, ck__law_silent⟩, (fun_mk (st := topD 12) l c k).binds (ps := [(Str.ofString "seat"), (Str.ofString "kind"), (Str.ofString "servers")]) fun _ _ _ _ _ _ us hl => match us, hl with | [_, _, _], _ => rfl⟩
theorem sc__law_kinds : FnScope nm__law_kinds [(Str.ofString "made"), (Str.ofString "left")] (defScope (topD 13)) := ⟨rfl, rfl, rfl, by decide +kernel, rfl, by decide +kernel, by decide +kernel⟩
theorem ck__law_kinds : chkSs gs fd__law_kinds.body ⟨nm__law_kinds, defScope (topD 13), none, fun _ => true⟩ (defBody (topD 13)) = true := by decide +kernel
theorem df__law_kinds {K : PySem.W.Frag} {f : Addr} {oc kV dc pm cd ct : Value} {od an : Option Addr} {sl : Array (Option Value)} (l : K.lookup f = some ⟨oc, od, .func (PySem.W.fnOf (Str.ofString "_law_kinds") (Str.ofString "_law_kinds") (defArgs (topD 13)) (defBody (topD 13)) (defScope (topD 13)) .none kV dc pm an cd ct), sl⟩)
    (c : PySem.W.codeIn K cd (Str.ofString "_law_kinds") = true) (k : PySem.W.keepIn K (.ref f) = true) : ∃ fdata ps, DefOk K gs fd__law_kinds f fdata ps ∧ Binds K fdata ps [] :=
  ⟨_, [(Str.ofString "made"), (Str.ofString "left")], ⟨_, _, _, _, _, _, _, _, _, _, _, _, _, _, _, nm__law_kinds, rfl, l, c, sc__law_kinds, rfl, rfl, by decide +kernel, ck__law_kinds⟩, (fun_mk (st := topD 13) l c k).binds (ps := [(Str.ofString "made"), (Str.ofString "left")]) fun _ _ _ _ _ _ us hl => match us, hl with | [_, _], _ => rfl⟩
theorem sc__law_couple : FnScope nm__law_couple [(Str.ofString "seat"), (Str.ofString "made"), (Str.ofString "left")] (defScope (topD 14)) := ⟨rfl, rfl, rfl, by decide +kernel, rfl, by decide +kernel, by decide +kernel⟩
theorem ck__law_couple : chkSs gs fd__law_couple.body ⟨nm__law_couple, defScope (topD 14), none, fun _ => true⟩ (defBody (topD 14)) = true := by decide +kernel
theorem df__law_couple {K : PySem.W.Frag} {f : Addr} {oc kV dc pm cd ct : Value} {od an : Option Addr} {sl : Array (Option Value)} (l : K.lookup f = some ⟨oc, od, .func (PySem.W.fnOf (Str.ofString "_law_couple") (Str.ofString "_law_couple") (defArgs (topD 14)) (defBody (topD 14)) (defScope (topD 14)) .none kV dc pm an cd ct), sl⟩)
    (c : PySem.W.codeIn K cd (Str.ofString "_law_couple") = true) (k : PySem.W.keepIn K (.ref f) = true) : ∃ fdata ps, DefOk K gs fd__law_couple f fdata ps ∧ Binds K fdata ps [] :=
  ⟨_, [(Str.ofString "seat"), (Str.ofString "made"), (Str.ofString "left")], ⟨_, _, _, _, _, _, _, _, _, _, _, _, _, _, _, nm__law_couple, rfl, l, c, sc__law_couple, rfl, rfl, by decide +kernel, ck__law_couple⟩, (fun_mk (st := topD 14) l c k).binds (ps := [(Str.ofString "seat"), (Str.ofString "made"), (Str.ofString "left")]) fun _ _ _ _ _ _ us hl => match us, hl with | [_, _, _], _ => rfl⟩
theorem sc__law_by_sizes : FnScope nm__law_by_sizes [(Str.ofString "seat"), (Str.ofString "a"), (Str.ofString "l"), (Str.ofString "e")] (defScope (topD 15)) := ⟨rfl, rfl, rfl, by decide +kernel, rfl, by decide +kernel, by decide +kernel⟩
theorem ck__law_by_sizes : chkSs gs fd__law_by_sizes.body ⟨nm__law_by_sizes, defScope (topD 15), none, fun _ => true⟩ (defBody (topD 15)) = true := by decide +kernel
theorem df__law_by_sizes {K : PySem.W.Frag} {f : Addr} {oc kV dc pm cd ct : Value} {od an : Option Addr} {sl : Array (Option Value)} (l : K.lookup f = some ⟨oc, od, .func (PySem.W.fnOf (Str.ofString "_law_by_sizes") (Str.ofString "_law_by_sizes") (defArgs (topD 15)) (defBody (topD 15)) (defScope (topD 15)) .none kV dc pm an cd ct), sl⟩)
    (c : PySem.W.codeIn K cd (Str.ofString "_law_by_sizes") = true) (k : PySem.W.keepIn K (.ref f) = true) : ∃ fdata ps, DefOk K gs fd__law_by_sizes f fdata ps ∧ Binds K fdata ps [] :=
  ⟨_, [(Str.ofString "seat"), (Str.ofString "a"), (Str.ofString "l"), (Str.ofString "e")], ⟨_, _, _, _, _, _, _, _, _, _, _, _, _, _, _, nm__law_by_sizes, rfl, l, c, sc__law_by_sizes, rfl, rfl, by decide +kernel, ck__law_by_sizes⟩, (fun_mk (st := topD 15) l c k).binds (ps := [(Str.ofString "seat"), (Str.ofString "a"), (Str.ofString "l"), (Str.ofString "e")]) fun _ _ _ _ _ _ us hl => match us, hl with | [_, _, _, _], _ => rfl⟩
theorem sc__law_is_loose : FnScope nm__law_is_loose [(Str.ofString "seat")] (defScope (topD 16)) := ⟨rfl, rfl, rfl, by decide +kernel, rfl, by decide +kernel, by decide +kernel⟩
theorem ck__law_is_loose : chkSs gs fd__law_is_loose.body ⟨nm__law_is_loose, defScope (topD 16), none, fun _ => true⟩ (defBody (topD 16)) = true := by decide +kernel
theorem df__law_is_loose {K : PySem.W.Frag} {f : Addr} {oc kV dc pm cd ct : Value} {od an : Option Addr} {sl : Array (Option Value)} (l : K.lookup f = some ⟨oc, od, .func (PySem.W.fnOf (Str.ofString "_law_is_loose") (Str.ofString "_law_is_loose") (defArgs (topD 16)) (defBody (topD 16)) (defScope (topD 16)) .none kV dc pm an cd ct), sl⟩)
    (c : PySem.W.codeIn K cd (Str.ofString "_law_is_loose") = true) (k : PySem.W.keepIn K (.ref f) = true) : ∃ fdata ps, DefOk K gs fd__law_is_loose f fdata ps ∧ Binds K fdata ps [] :=
  ⟨_, [(Str.ofString "seat")], ⟨_, _, _, _, _, _, _, _, _, _, _, _, _, _, _, nm__law_is_loose, rfl, l, c, sc__law_is_loose, rfl, rfl, by decide +kernel, ck__law_is_loose⟩, (fun_mk (st := topD 16) l c k).binds (ps := [(Str.ofString "seat")]) fun _ _ _ _ _ _ us hl => match us, hl with | [_], _ => rfl⟩
theorem sc__law_truth : FnScope nm__law_truth [(Str.ofString "told"), (Str.ofString "due")] (defScope (topD 17)) := ⟨rfl, rfl, rfl, by decide +kernel, rfl, by decide +kernel, by decide +kernel⟩
theorem ck__law_truth : chkSs gs fd__law_truth.body ⟨nm__law_truth, defScope (topD 17), none, fun _ => true⟩ (defBody (topD 17)) = true := by decide +kernel
theorem df__law_truth {K : PySem.W.Frag} {f : Addr} {oc kV dc pm cd ct : Value} {od an : Option Addr} {sl : Array (Option Value)} (l : K.lookup f = some ⟨oc, od, .func (PySem.W.fnOf (Str.ofString "_law_truth") (Str.ofString "_law_truth") (defArgs (topD 17)) (defBody (topD 17)) (defScope (topD 17)) .none kV dc pm an cd ct), sl⟩)
    (c : PySem.W.codeIn K cd (Str.ofString "_law_truth") = true) (k : PySem.W.keepIn K (.ref f) = true) : ∃ fdata ps, DefOk K gs fd__law_truth f fdata ps ∧ Binds K fdata ps [] :=
  ⟨_, [(Str.ofString "told"), (Str.ofString "due")], ⟨_, _, _, _, _, _, _, _, _, _, _, _, _, _, _, nm__law_truth, rfl, l, c, sc__law_truth, rfl, rfl, by decide +kernel, ck__law_truth⟩, (fun_mk (st := topD 17) l c k).binds (ps := [(Str.ofString "told"), (Str.ofString "due")]) fun _ _ _ _ _ _ us hl => match us, hl with | [_, _], _ => rfl⟩
theorem sc__law_whole : FnScope nm__law_whole [(Str.ofString "told"), (Str.ofString "due")] (defScope (topD 18)) := ⟨rfl, rfl, rfl, by decide +kernel, rfl, by decide +kernel, by decide +kernel⟩
theorem ck__law_whole : chkSs gs fd__law_whole.body ⟨nm__law_whole, defScope (topD 18), none, fun _ => true⟩ (defBody (topD 18)) = true := by decide +kernel
theorem df__law_whole {K : PySem.W.Frag} {f : Addr} {oc kV dc pm cd ct : Value} {od an : Option Addr} {sl : Array (Option Value)} (l : K.lookup f = some ⟨oc, od, .func (PySem.W.fnOf (Str.ofString "_law_whole") (Str.ofString "_law_whole") (defArgs (topD 18)) (defBody (topD 18)) (defScope (topD 18)) .none kV dc pm an cd ct), sl⟩)
    (c : PySem.W.codeIn K cd (Str.ofString "_law_whole") = true) (k : PySem.W.keepIn K (.ref f) = true) : ∃ fdata ps, DefOk K gs fd__law_whole f fdata ps ∧ Binds K fdata ps [] :=
  ⟨_, [(Str.ofString "told"), (Str.ofString "due")], ⟨_, _, _, _, _, _, _, _, _, _, _, _, _, _, _, nm__law_whole, rfl, l, c, sc__law_whole, rfl, rfl, by decide +kernel, ck__law_whole⟩, (fun_mk (st := topD 18) l c k).binds (ps := [(Str.ofString "told"), (Str.ofString "due")]) fun _ _ _ _ _ _ us hl => match us, hl with | [_, _], _ => rfl⟩
theorem sc__law_sets_right : FnScope nm__law_sets_right [(Str.ofString "a"), (Str.ofString "l"), (Str.ofString "e"), (Str.ofString "kinds"), (Str.ofString "low")] (defScope (topD 19)) := ⟨rfl, rfl, rfl, by decide +kernel, rfl, by decide +kernel, by decide +kernel⟩
theorem ck__law_sets_right : chkSs gs fd__law_sets_right.body ⟨nm__law_sets_right, defScope (topD 19), none, fun _ => true⟩ (defBody (topD 19)) = true := by decide +kernel
theorem df__law_sets_right {K : PySem.W.Frag} {f : Addr} {oc kV dc pm cd ct : Value} {od an : Option Addr} {sl : Array (Option Value)} (l : K.lookup f = some ⟨oc, od, .func (PySem.W.fnOf (Str.ofString "_law_sets_right") (Str.ofString "_law_sets_right") (defArgs (topD 19)) (defBody (topD 19)) (defScope (topD 19)) .none kV dc pm an cd ct), sl⟩)
    (c : PySem.W.codeIn K cd (Str.ofString "_law_sets_right") = true) (k : PySem.W.keepIn K (.ref f) = true) : ∃ fdata ps, DefOk K gs fd__law_sets_right f fdata ps ∧ Binds K fdata ps [] :=
  ⟨_, [(Str.ofString "a"), (Str.ofString "l"), (Str.ofString "e"), (Str.ofString "kinds"), (Str.ofString "low")], ⟨_, _, _, _, _, _, _, _, _, _, _, _, _, _, _, nm__law_sets_right, rfl, l, c, sc__law_sets_right, rfl, rfl, by decide +kernel, ck__law_sets_right⟩, (fun_mk (st := topD 19) l c k).binds (ps := [(Str.ofString "a"), (Str.ofString "l"), (Str.ofString "e"), (Str.ofString "kinds"), (Str.ofString "low")]) fun _ _ _ _ _ _ us hl => match us, hl with | [_, _, _, _, _], _ => rfl⟩
theorem sc__law_sums : FnScope nm__law_sums [(Str.ofString "a"), (Str.ofString "l"), (Str.ofString "e"), (Str.ofString "made"), (Str.ofString "left")] (defScope (topD 20)) := ⟨rfl, rfl, rfl, by decide +kernel, rfl, by decide +kernel, by decide +kernel⟩
theorem ck__law_sums : chkSs gs fd__law_sums.body ⟨nm__law_sums, defScope (topD 20), none, fun _ => true⟩ (defBody (topD 20)) = true := by decide +kernel
theorem df__law_sums {K : PySem.W.Frag} {f : Addr} {oc kV dc pm cd ct : Value} {od an : Option Addr} {sl : Array (Option Value)} (l : K.lookup f = some ⟨oc, od, .func (PySem.W.fnOf (Str.ofString "_law_sums") (Str.ofString "_law_sums") (defArgs (topD 20)) (defBody (topD 20)) (defScope (topD 20)) .none kV dc pm an cd ct), sl⟩)
    (c : PySem.W.codeIn K cd (Str.ofString "_law_sums") = true) (k : PySem.W.keepIn K (.ref f) = true) : ∃ fdata ps, DefOk K gs fd__law_sums f fdata ps ∧ Binds K fdata ps [] :=
  ⟨_, [(Str.ofString "a"), (Str.ofString "l"), (Str.ofString "e"), (Str.ofString "made"), (Str.ofString "left")], ⟨_, _, _, _, _, _, _, _, _, _, _, _, _, _, _, nm__law_sums, rfl, l, c, sc__law_sums, rfl, rfl, by decide +kernel, ck__law_sums⟩, (fun_mk (st := topD 20) l c k).binds (ps := [(Str.ofString "a"), (Str.ofString "l"), (Str.ofString "e"), (Str.ofString "made"), (Str.ofString "left")]) fun _ _ _ _ _ _ us hl => match us, hl with | [_, _, _, _, _], _ => rfl⟩
theorem sc__law_great_right : FnScope nm__law_great_right [(Str.ofString "purse")] (defScope (topD 21)) := ⟨rfl, rfl, rfl, by decide +kernel, rfl, by decide +kernel, by decide +kernel⟩
theorem ck__law_great_right : chkSs gs fd__law_great_right.body ⟨nm__law_great_right, defScope (topD 21), none, fun _ => true⟩ (defBody (topD 21)) = true := by decide +kernel
theorem df__law_great_right {K : PySem.W.Frag} {f : Addr} {oc kV dc pm cd ct : Value} {od an : Option Addr} {sl : Array (Option Value)} (l : K.lookup f = some ⟨oc, od, .func (PySem.W.fnOf (Str.ofString "_law_great_right") (Str.ofString "_law_great_right") (defArgs (topD 21)) (defBody (topD 21)) (defScope (topD 21)) .none kV dc pm an cd ct), sl⟩)
    (c : PySem.W.codeIn K cd (Str.ofString "_law_great_right") = true) (k : PySem.W.keepIn K (.ref f) = true) : ∃ fdata ps, DefOk K gs fd__law_great_right f fdata ps ∧ Binds K fdata ps [] :=
  ⟨_, [(Str.ofString "purse")], ⟨_, _, _, _, _, _, _, _, _, _, _, _, _, _, _, nm__law_great_right, rfl, l, c, sc__law_great_right, rfl, rfl, by decide +kernel, ck__law_great_right⟩, (fun_mk (st := topD 21) l c k).binds (ps := [(Str.ofString "purse")]) fun _ _ _ _ _ _ us hl => match us, hl with | [_], _ => rfl⟩
theorem sc__law_world_right : FnScope nm__law_world_right [(Str.ofString "purse")] (defScope (topD 22)) := ⟨rfl, rfl, rfl, by decide +kernel, rfl, by decide +kernel, by decide +kernel⟩
theorem ck__law_world_right : chkSs gs fd__law_world_right.body ⟨nm__law_world_right, defScope (topD 22), none, fun _ => true⟩ (defBody (topD 22)) = true := by decide +kernel
theorem df__law_world_right {K : PySem.W.Frag} {f : Addr} {oc kV dc pm cd ct : Value} {od an : Option Addr} {sl : Array (Option Value)} (l : K.lookup f = some ⟨oc, od, .func (PySem.W.fnOf (Str.ofString "_law_world_right") (Str.ofString "_law_world_right") (defArgs (topD 22)) (defBody (topD 22)) (defScope (topD 22)) .none kV dc pm an cd ct), sl⟩)
    (c : PySem.W.codeIn K cd (Str.ofString "_law_world_right") = true) (k : PySem.W.keepIn K (.ref f) = true) : ∃ fdata ps, DefOk K gs fd__law_world_right f fdata ps ∧ Binds K fdata ps [] :=
  ⟨_, [(Str.ofString "purse")], ⟨_, _, _, _, _, _, _, _, _, _, _, _, _, _, _, nm__law_world_right, rfl, l, c, sc__law_world_right, rfl, rfl, by decide +kernel, ck__law_world_right⟩, (fun_mk (st := topD 22) l c k).binds (ps := [(Str.ofString "purse")]) fun _ _ _ _ _ _ us hl => match us, hl with | [_], _ => rfl⟩
theorem sc_law : FnScope nm_law [(Str.ofString "script")] (defScope (topD 23)) := ⟨rfl, rfl, rfl, by decide +kernel, rfl, by decide +kernel, by decide +kernel⟩
theorem ck_law : chkSs gs fd_law.body ⟨nm_law, defScope (topD 23), none, fun _ => true⟩ (defBody (topD 23)) = true := by decide +kernel
theorem df_law {K : PySem.W.Frag} {f : Addr} {oc kV dc pm cd ct : Value} {od an : Option Addr} {sl : Array (Option Value)} (l : K.lookup f = some ⟨oc, od, .func (PySem.W.fnOf (Str.ofString "law") (Str.ofString "law") (defArgs (topD 23)) (defBody (topD 23)) (defScope (topD 23)) .none kV dc pm an cd ct), sl⟩)
    (c : PySem.W.codeIn K cd (Str.ofString "law") = true) (k : PySem.W.keepIn K (.ref f) = true) : ∃ fdata ps, DefOk K gs fd_law f fdata ps ∧ Binds K fdata ps [] :=
  ⟨_, [(Str.ofString "script")], ⟨_, _, _, _, _, _, _, _, _, _, _, _, _, _, _, nm_law, rfl, l, c, sc_law, rfl, rfl, by decide +kernel, ck_law⟩, (fun_mk (st := topD 23) l c k).binds (ps := [(Str.ofString "script")]) fun _ _ _ _ _ _ us hl => match us, hl with | [_], _ => rfl⟩
end Wh

/-! k16: sublists and lengths -/
namespace Wh
def pstep (ps : List (List Int)) (x : Int) : List (List Int) := ps ++ ps.map (· ++ [x])
def partsV (l : List Int) : List (List Int) := l.foldl pstep [[]]
theorem mem_pfold : ∀ (l : List Int) (ps : List (List Int)) (s : List Int), s ∈ l.foldl pstep ps ↔ ∃ p ∈ ps, ∃ t, t.Sublist l ∧ s = p ++ t
  | [], ps, s => by
    constructor
    · intro h; exact ⟨s, h, [], .slnil, by simp⟩
    · rintro ⟨p, hp, t, ht, rfl⟩
      cases ht
      simpa using hp
  | x :: l, ps, s => by
    show s ∈ l.foldl pstep (pstep ps x) ↔ _
    rw [mem_pfold l]
    constructor
    · rintro ⟨p, hp, t, ht, rfl⟩
      rcases List.mem_append.1 hp with hp | hp
      · exact ⟨p, hp, t, .cons _ ht, rfl⟩
      · obtain ⟨q, hq, rfl⟩ := List.mem_map.1 hp
        exact ⟨q, hq, x :: t, .cons_cons _ ht, by simp⟩
    · rintro ⟨p, hp, t, ht, rfl⟩
      cases ht with
      | cons _ h => exact ⟨p, List.mem_append.2 (.inl hp), t, h, rfl⟩
      | cons_cons _ h => exact ⟨p ++ [x], List.mem_append.2 (.inr (List.mem_map.2 ⟨p, hp, rfl⟩)), _, h, by simp⟩
theorem mem_parts {l s : List Int} : s ∈ partsV l ↔ s.Sublist l := by
  unfold partsV
  rw [mem_pfold]
  constructor
  · rintro ⟨p, hp, t, ht, rfl⟩
    have : p = [] := by simpa using hp
    subst this
    exact ht
  · intro h; exact ⟨[], by simp, s, h, rfl⟩
theorem grow : ∀ {s c : List Int}, s.Sublist c → ∀ y, s.length ≤ y → y ≤ c.length → ∃ E : List Int, s.Sublist E ∧ E.Sublist c ∧ E.length = y
  | _, _, .slnil, y, _, h2 => ⟨[], .slnil, .slnil, by simp at h2; simp [h2]⟩
  | s, _, .cons (l₂ := c) a h, y, h1, h2 => by
    by_cases hy : y ≤ c.length
    · obtain ⟨E, e1, e2, e3⟩ := grow h y h1 hy
      exact ⟨E, e1, .cons _ e2, e3⟩
    · exact ⟨a :: c, .cons _ h, List.Sublist.refl _, by simp at h2 ⊢; omega⟩
  | _, _, .cons_cons (l₁ := s) (l₂ := c) a h, y, h1, h2 => by
    simp only [List.length_cons] at h1 h2
    obtain ⟨E, e1, e2, e3⟩ := grow h (y - 1) (by omega) (by omega)
    exact ⟨a :: E, .cons_cons _ e1, .cons_cons _ e2, by simp; omega⟩
theorem len_le : ∀ {s t : List Int}, s.Nodup → (∀ x ∈ s, x ∈ t) → s.length ≤ t.length
  | [], t, _, _ => Nat.zero_le _
  | x :: s, t, hn, h => by
    rw [List.nodup_cons] at hn
    have hx := h x (.head _)
    have := len_le (s := s) (t := t.erase x) hn.2 fun y hy => (List.mem_erase_of_ne (fun e => hn.1 (by rw [← e]; exact hy))).2 (h y (.tail _ hy))
    rw [List.length_erase_of_mem hx] at this
    have : 0 < t.length := List.length_pos_of_mem hx
    simp only [List.length_cons]
    omega
theorem filt_sum (p : Int → Bool) : ∀ c : List Int, (c.filter p).length + (c.filter fun x => !p x).length = c.length
  | [] => rfl
  | x :: c => by
    have := filt_sum p c
    cases h : p x <;> simp [List.filter_cons, h] <;> omega
theorem filt_not {c held : List Int} (hn : c.Nodup) (h : held.Sublist c) : (c.filter fun x => !decide (x ∈ held)).length = c.length - held.length := by
  have h1 := filt_sum (fun x => decide (x ∈ held)) c
  have h2 : held.length ≤ (c.filter fun x => decide (x ∈ held)).length := len_le (h.nodup hn) fun x hx => List.mem_filter.2 ⟨h.subset hx, by simpa using hx⟩
  have h3 : (c.filter fun x => decide (x ∈ held)).length ≤ held.length := len_le (hn.sublist List.filter_sublist) fun x hx => by simpa using (List.mem_filter.1 hx).2
  omega
theorem cover_iff {c b : List Int} {x y : Nat} (hn : c.Nodup) (hb : b.Sublist c) (hx : x ≤ b.length) (hy : y ≤ c.length) :
    (∃ A E : List Int, (A.Sublist b ∧ A.length = x) ∧ (E.Sublist c ∧ E.length = y) ∧ ∀ s ∈ c, s ∈ A ∨ s ∈ E) ↔ c.length ≤ x + y := by
  constructor
  · rintro ⟨A, E, ⟨a1, a2⟩, ⟨e1, e2⟩, h⟩
    have := len_le (t := A ++ E) hn fun s hs => List.mem_append.2 (h s hs)
    rw [List.length_append] at this
    omega
  · intro h
    have hA : (b.take x).Sublist c := (List.take_sublist x b).trans hb
    have hl : (b.take x).length = x := by rw [List.length_take]; omega
    obtain ⟨E, e1, e2, e3⟩ := grow (s := c.filter fun s => !decide (s ∈ b.take x)) (c := c) List.filter_sublist y (by rw [filt_not hn hA, hl]; omega) hy
    refine ⟨b.take x, E, ⟨List.take_sublist x b, hl⟩, ⟨e2, e3⟩, fun s hs => ?_⟩
    by_cases hm : s ∈ b.take x
    · exact .inl hm
    · exact .inr (e1.subset (List.mem_filter.2 ⟨hs, by simp [hm]⟩))
theorem cover_comm {c b : List Int} {x y : Nat} : (∃ A E : List Int, (A.Sublist c ∧ A.length = x) ∧ (E.Sublist b ∧ E.length = y) ∧ ∀ s ∈ c, s ∈ A ∨ s ∈ E) ↔ (∃ A E : List Int, (A.Sublist b ∧ A.length = y) ∧ (E.Sublist c ∧ E.length = x) ∧ ∀ s ∈ c, s ∈ A ∨ s ∈ E) :=
  ⟨fun ⟨A, E, h1, h2, h3⟩ => ⟨E, A, h2, h1, fun s hs => (h3 s hs).symm⟩, fun ⟨A, E, h1, h2, h3⟩ => ⟨E, A, h2, h1, fun s hs => (h3 s hs).symm⟩⟩
def SilP (b : List Int) (e : Nat) (held : List Int) : Prop := held = [] ∨ ∃ E : List Int, (E.Sublist b ∧ E.length = e) ∧ ∀ x ∈ held, x ∈ E
theorem sil_iff {b held : List Int} {e : Nat} (hn : b.Nodup) (h : held.Sublist b) (he : e ≤ b.length) : SilP b e held ↔ held.length ≤ e := by
  constructor
  · rintro (rfl | ⟨E, ⟨_, h2⟩, h3⟩)
    · simp
    · have := len_le (h.nodup hn) h3; omega
  · intro hl
    obtain ⟨E, e1, e2, e3⟩ := grow h e hl he
    exact .inr ⟨E, ⟨e2, e3⟩, fun x hx => e1.subset hx⟩
theorem rest_len {c : List Int} {ld : Int} (hn : c.Nodup) (hld : ld ∈ c) : (c.filter fun x => !decide (x = ld)).length = c.length - 1 := by
  have := filt_not (held := [ld]) hn (List.singleton_sublist.2 hld)
  simpa using this
theorem loose_iff {c : List Int} {ld : Int} {a e : Nat} (hn : c.Nodup) (hld : ld ∈ c) (he : e ≤ c.length) (ha : a ≤ c.length - 1) :
    (∃ held : List Int, held.Sublist c ∧ ld ∈ held ∧ ¬ SilP c e held ∧ ¬ SilP (c.filter fun x => !decide (x = ld)) a (c.filter fun x => !decide (x ∈ held))) ↔ a + e + 2 ≤ c.length := by
  have sub : ∀ held : List Int, ld ∈ held → (c.filter fun x => !decide (x ∈ held)).Sublist (c.filter fun x => !decide (x = ld)) := by
    intro held hl
    have : (c.filter fun x => !decide (x ∈ held)) = (c.filter fun x => !decide (x = ld)).filter fun x => !decide (x ∈ held) := by
      rw [List.filter_filter]
      apply List.filter_congr
      intro x _
      by_cases h : x = ld
      · subst h; simp [hl]
      · simp [h]
    rw [this]
    exact List.filter_sublist
  have nr : (c.filter fun x => !decide (x = ld)).Nodup := hn.sublist List.filter_sublist
  have hr := rest_len hn hld
  constructor
  · rintro ⟨held, h1, h2, h3, h4⟩
    rw [sil_iff hn h1 he] at h3
    rw [sil_iff nr (sub held h2) (by omega), filt_not hn h1] at h4
    omega
  · intro h
    obtain ⟨held, e1, e2, e3⟩ := grow (List.singleton_sublist.2 hld) (e + 1) (by simp) (by omega)
    have h2 : ld ∈ held := e1.subset (by simp)
    refine ⟨held, e2, h2, ?_, ?_⟩
    · rw [sil_iff hn e2 he]; omega
    · rw [sil_iff nr (sub held h2) (by omega), filt_not hn e2]; omega
end Wh

namespace Wh
open PySem L2
inductive Kd3 where | asking | laying | leaving
deriving DecidableEq
def Kd3.x : Kd3 → Str
  | .asking => Str.ofString "asking" | .laying => Str.ofString "laying" | .leaving => Str.ofString "leaving"
abbrev K' (k : Kd3) : D := .str k.x
def allK : List Kd3 := [.asking, .laying, .leaving]
theorem memK (a : Kd3) : a ∈ allK := by cases a <;> simp [allK]
theorem eqK_all : (allK.all fun a => allK.all fun b => eqD (K' a) (K' b) == some (decide (a = b))) = true := by decide +kernel
theorem eqK (a b : Kd3) : eqD (K' a) (K' b) = some (decide (a = b)) := eq_of_beq (List.all_eq_true.1 (List.all_eq_true.1 eqK_all a (memK a)) b (memK b))
theorem eqK_t {a b : Kd3} (h : a = b) : cmpop .eq (K' a) (K' b) = some true := by rw [← decide_eq_true h]; exact eqK a b
theorem eqK_f {a b : Kd3} (h : ¬ a = b) : cmpop .eq (K' a) (K' b) = some false := by rw [← decide_eq_false h]; exact eqK a b
abbrev B' (b : Bool) : T := .d (.bl b)
def kindsV : Bool → Bool → List (Kd3 × Kd3)
  | false, false => []
  | false, true => [(.asking, .leaving)]
  | true, false => [(.laying, .asking)]
  | true, true => [(.asking, .leaving), (.laying, .asking), (.laying, .leaving)]
abbrev kindsD (m l : Bool) : D := .lst ((kindsV m l).map fun p => .tup [K' p.1, K' p.2])
theorem couples (cal : Cal) (m l : Bool) : run1 cal fd_couples_of_kinds [B' m, B' l] = .ok (.d (kindsD m l)) [B' m, B' l] := by
  refine run_of rfl (wxs_ok _ _ ?_)
  cases m <;> cases l
  · exact rfl
  · exact ⟨by decide, rfl⟩
  · exact ⟨by decide, rfl⟩
  · exact ⟨by decide, by decide, by decide, rfl⟩
theorem lkinds (cal : Cal) (m l : Bool) : run1 cal fd__law_kinds [B' m, B' l] = .ok (.d (kindsD m l)) [B' m, B' l] := by
  refine run_of rfl (wxs_ok _ _ ?_)
  cases m <;> cases l
  · exact rfl
  · exact ⟨by decide, rfl⟩
  · exact ⟨by decide, rfl⟩
  · exact ⟨by decide, by decide, by decide, rfl⟩
def numV (a l e : Int) : Kd3 → Int
  | .asking => a | .laying => l | .leaving => e
def sumsV (a l e : Int) (m f : Bool) : List Int := (kindsV m f).map fun p => numV a l e p.1 + numV a l e p.2
abbrev ks3 : List Key := [.inr (Str.ofString "asking"), .inr (Str.ofString "laying"), .inr (Str.ofString "leaving")]
def posK : Kd3 → Nat
  | .asking => 0 | .laying => 1 | .leaving => 2
theorem pos3_all : (allK.all fun k => posOf ks3 (.inr k.x) == some (posK k)) = true := by decide +kernel
theorem pos3 (k : Kd3) : posOf ks3 (.inr k.x) = some (posK k) := eq_of_beq (List.all_eq_true.1 pos3_all k (memK k))
theorem dix3 (r : R) (a l e : Int) (k : Kd3) : dixR r (.d (.dk ks3 [.int a, .int l, .int e])) (K' k) = some (some (.t (I' (numV a l e k)))) := by
  show (match posOf ks3 (.inr k.x) with
    | some n => ([D.int a, .int l, .int e][n]?).map fun x => some (Wh.R.t (.d x))
    | none => some none) = _
  rw [pos3]
  cases k <;> rfl
theorem sums (cal : Cal) (H : ∀ m f, cal 0 [B' m, B' f] = .ok (.d (kindsD m f)) [B' m, B' f]) (a l e : Int) (m f : Bool) :
    run1 cal fd_sums_that_matter [I' a, I' l, I' e, B' m, B' f] = .ok (.d (Ls (sumsV a l e m f))) [I' a, I' l, I' e, B' m, B' f] := by
  refine run_of rfl (wxs_ok _ _ ?_)
  refine ⟨_, H m f, ?_⟩
  have val : Kd3 × Kd3 → Int := fun p => numV a l e p.1 + numV a l e p.2
  have hl : (kindsV m f).length ≤ 3 := by cases m <;> cases f <;> simp [kindsV]
  refine lcW_data (fun _ => true) (fun t => match t with
    | .d (.tup [.str x, .str y]) => .int ((if x = Kd3.asking.x then a else if x = Kd3.laying.x then l else e) + (if y = Kd3.asking.x then a else if y = Kd3.laying.x then l else e))
    | _ => .non) (by simp; omega) rfl ?_ ?_
  · intro t ht
    simp only [List.map_map, List.mem_map, Function.comp_def] at ht
    obtain ⟨p, hp, rfl⟩ := ht
    refine ⟨_, rfl, rfl, rfl, fun _ => ⟨_, dix3 _ a l e p.1, _, dix3 _ a l e p.2, rfl, ?_⟩⟩
    have nn : ∀ k : Kd3, (if k.x = Kd3.asking.x then a else if k.x = Kd3.laying.x then l else e) = numV a l e k := by
      intro k
      have h1 : ¬ Kd3.laying.x = Kd3.asking.x := by decide +kernel
      have h2 : ¬ Kd3.leaving.x = Kd3.asking.x := by decide +kernel
      have h3 : ¬ Kd3.leaving.x = Kd3.laying.x := by decide +kernel
      cases k
      · rw [if_pos rfl]; rfl
      · rw [if_neg h1, if_pos rfl]; rfl
      · rw [if_neg h2, if_neg h3]; rfl
    simp only [nn]
    rfl
  · intro xs e1
    have : xs = (sumsV a l e m f).map D.int := by
      have nn : ∀ k : Kd3, (if k.x = Kd3.asking.x then a else if k.x = Kd3.laying.x then l else e) = numV a l e k := by
        intro k
        have h1 : ¬ Kd3.laying.x = Kd3.asking.x := by decide +kernel
        have h2 : ¬ Kd3.leaving.x = Kd3.asking.x := by decide +kernel
        have h3 : ¬ Kd3.leaving.x = Kd3.laying.x := by decide +kernel
        cases k
        · rw [if_pos rfl]; rfl
        · rw [if_neg h1, if_pos rfl]; rfl
        · rw [if_neg h2, if_neg h3]; rfl
      rw [e1, List.filter_eq_self.2 fun _ _ => rfl]
      unfold sumsV
      simp only [List.map_map, Function.comp_def, nn]
    subst this
    exact rfl
/-- the least number of copies -/
def dueL (a l e : Int) (m f : Bool) : List Int := [1 + a, l, e] ++ (sumsV a l e m f).map (1 + ·)
theorem sumsV_len (a l e : Int) (m f : Bool) : (sumsV a l e m f).length ≤ 3 := by cases m <;> cases f <;> simp [sumsV, kindsV]
def dueV (a l e : Int) (m f : Bool) : Int := (maxI (dueL a l e m f)).getD 0
theorem dueV_is (a l e : Int) (m f : Bool) : maxI (dueL a l e m f) = some (dueV a l e m f) := by
  obtain ⟨x, hx⟩ := maxI_some (1 + a) ([l, e] ++ (sumsV a l e m f).map (1 + ·))
  have hx : maxI (dueL a l e m f) = some x := hx
  unfold dueV
  rw [hx]; rfl
theorem maxl_own {o : Bool} {l : List Int} {m : Int} (h : maxI l = some m) : biT .maxl o [.lst true (l.map I')] = some (.d (.int m)) := by
  have : T.ints (.lst true (l.map I')) = some l := by
    unfold T.ints
    show (match (allD (l.map I')).map D.lst with
      | some (.lst xs) => allInt xs
      | _ => none) = _
    rw [show allD (l.map I') = some (l.map D.int) from allD_mapF D.int l]
    show allInt (l.map D.int) = _
    exact allInt_int l
  show (match T.ints (.lst true (l.map I')) with
    | some is => (maxI is).map fun m => T.d (.int m)
    | none => none) = _
  rw [this]
  show (maxI l).map _ = _
  rw [h]; rfl
theorem cdue (cal : Cal) (H : ∀ a l e m f, cal 1 [I' a, I' l, I' e, B' m, B' f] = .ok (.d (Ls (sumsV a l e m f))) [I' a, I' l, I' e, B' m, B' f]) (a l e : Int) (m f : Bool) :
    run1 cal fd_copies_due [I' a, I' l, I' e, B' m, B' f] = .ok (I' (dueV a l e m f)) [I' a, I' l, I' e, B' m, B' f] := by
  refine run_of rfl ?_
  refine cut 2 (fun g => ∃ t, g = [I' a, I' l, I' e, B' m, B' f, .lst true ((dueL a l e m f).map I'), t]) (wxs_ok _ _ ?_) ?_
  · refine ⟨_, H a l e m f, ?_⟩
    refine forW_inv (fun ts g => ∃ (pre rest : List Int) (t : T), sumsV a l e m f = pre ++ rest ∧ ts = rest.map I' ∧ g = [I' a, I' l, I' e, B' m, B' f, .lst true (([1 + a, l, e] ++ pre.map (1 + ·)).map I'), t]) ⟨[], _, .un, rfl, by rw [List.map_map]; rfl, rfl⟩ ?_ ?_
    · rintro t ts g ⟨pre, rest, t0, h1, h2, rfl⟩
      cases rest with
      | nil => cases h2
      | cons x rest =>
        simp only [List.map_cons, List.cons.injEq] at h2
        obtain ⟨rfl, rfl⟩ := h2
        have hl := sumsV_len a l e m f
        rw [h1] at hl
        simp only [List.length_append, List.length_cons] at hl
        refine ⟨_, rfl, wxs_ok _ _ ⟨?_, pre ++ [x], rest, I' x, by rw [h1]; simp, rfl, ?_⟩⟩
        · refine (?_ : (([1 + a, l, e] ++ pre.map (1 + ·)).map I').length < _)
          simp; omega
        · simp [T.put]
    · rintro g ⟨pre, rest, t0, h1, h2, rfl⟩
      cases rest with
      | nil =>
        rw [List.append_nil] at h1
        refine ⟨t0, ?_⟩
        unfold dueL
        rw [h1]
      | cons _ _ => cases h2
  · rintro _ ⟨t, rfl⟩
    exact wxs_ok _ _ ⟨_, maxl_own (dueV_is a l e m f), rfl⟩
def nrV (n a l e : Int) (m f : Bool) : Bool := decide (∀ x ∈ sumsV a l e m f, x < n)
theorem nright (cal : Cal) (H : ∀ a l e m f, cal 1 [I' a, I' l, I' e, B' m, B' f] = .ok (.d (Ls (sumsV a l e m f))) [I' a, I' l, I' e, B' m, B' f]) (n a l e : Int) (m f : Bool) :
    run1 cal fd_numbers_right [I' n, I' a, I' l, I' e, B' m, B' f] = .ok (B' (nrV n a l e m f)) [I' n, I' a, I' l, I' e, B' m, B' f] := by
  refine run_of rfl (wxs_ok _ _ ?_)
  refine ⟨_, H a l e m f, ?_⟩
  refine forW_inv (fun ts g => ∃ (pre rest : List Int) (t : T), sumsV a l e m f = pre ++ rest ∧ ts = rest.map I' ∧ (∀ x ∈ pre, x < n) ∧ g = [I' n, I' a, I' l, I' e, B' m, B' f, t]) ⟨[], _, .un, rfl, by rw [List.map_map]; rfl, by simp, rfl⟩ ?_ ?_
  · rintro t ts g ⟨pre, rest, t0, h1, h2, h3, rfl⟩
    cases rest with
    | nil => cases h2
    | cons x rest =>
      simp only [List.map_cons, List.cons.injEq] at h2
      obtain ⟨rfl, rfl⟩ := h2
      refine ⟨_, rfl, wxs_ok _ _ ⟨fun h => ?_, fun h => ⟨pre ++ [x], rest, I' x, by rw [h1]; simp, rfl, ?_, rfl⟩⟩⟩
      · have : nrV n a l e m f = false := decide_eq_false fun z => by
          have := z x (by rw [h1]; simp)
          omega
        rw [this]; rfl
      · intro y hy
        rcases List.mem_append.1 hy with hy | hy
        · exact h3 y hy
        · have : y = x := by simpa using hy
          omega
  · rintro g ⟨pre, rest, t0, h1, h2, h3, rfl⟩
    cases rest with
    | nil =>
      rw [List.append_nil] at h1
      have : nrV n a l e m f = true := decide_eq_true (by rw [h1]; exact h3)
      rw [this]; exact rfl
    | cons _ _ => cases h2
theorem tightD (cal : Cal) (n a e : Int) : run1 cal fd_tight_numbers [I' n, I' a, I' e] = .ok (B' (decide (n - 1 ≤ a + e))) [I' n, I' a, I' e] := by
  refine run_of rfl (wxs_ok _ _ ?_)
  exact ⟨_, rfl, rfl⟩
theorem truth (cal : Cal) (b : Bool) : run1 cal fd__law_truth [B' b, B' b] = .ok (B' true) [B' b, B' b] := by
  refine run_of rfl (wxs_ok _ _ ?_)
  cases b
  · exact ⟨_, rfl, rfl⟩
  · exact ⟨_, rfl, rfl⟩
theorem whole (cal : Cal) (i : Int) : run1 cal fd__law_whole [I' i, I' i] = .ok (B' true) [I' i, I' i] := by
  refine run_of rfl (wxs_ok _ _ ?_)
  refine (?_ : CO.ok (.d (.bl (decide (i = i)))) _ = _)
  simp
def lsumsV (a l e : Int) : Bool → Bool → List Int
  | false, false => []
  | false, true => [a + e]
  | true, false => [l + a]
  | true, true => [a + e, l + a, l + e]
theorem lsumsV_eq (a l e : Int) (m f : Bool) : lsumsV a l e m f = sumsV a l e m f := by cases m <;> cases f <;> rfl
theorem lsums (cal : Cal) (a l e : Int) (m f : Bool) : run1 cal fd__law_sums [I' a, I' l, I' e, B' m, B' f] = .ok (.d (Ls (sumsV a l e m f))) [I' a, I' l, I' e, B' m, B' f] := by
  rw [← lsumsV_eq]
  refine run_of rfl (wxs_ok _ _ ?_)
  cases m <;> cases f
  · exact rfl
  · exact ⟨(show 0 < 10000000 by decide), rfl⟩
  · exact ⟨(show 0 < 10000000 by decide), rfl⟩
  · exact ⟨(show 0 < 10000000 by decide), (show 1 < 10000000 by decide), (show 2 < 10000000 by decide), rfl⟩
end Wh

namespace Wh
open PySem L2
abbrev seatD (ld : Int) (c : List Int) (fa fl fe : List (List Int)) : D := .lst [.int ld, Ls c, Rs fa, Rs fl, Rs fe]
def famV (fa fl fe : List (List Int)) : Kd3 → List (List Int)
  | .asking => fa | .laying => fl | .leaving => fe
theorem family (cal : Cal) (ld : Int) (c : List Int) (fa fl fe : List (List Int)) (k : Kd3) : run1 cal fd__law_family [.d (seatD ld c fa fl fe), .d (K' k)] = .ok (.d (Rs (famV fa fl fe k))) [.d (seatD ld c fa fl fe), .d (K' k)] := by
  refine run_of rfl (wxs_ok _ _ ?_)
  by_cases h : k = .asking
  · refine ⟨_, eqK_t h, _, rfl, ?_⟩
    subst h; exact rfl
  refine ⟨_, eqK_f (b := .asking) h, ?_⟩
  by_cases h2 : k = .laying
  · refine ⟨_, eqK_t h2, _, rfl, ?_⟩
    subst h2; exact rfl
  · refine ⟨_, eqK_f (b := .laying) h2, _, rfl, ?_⟩
    have : k = .leaving := by cases k <;> simp_all
    subst this; exact rfl
theorem pfold_len : ∀ (l : List Int) (ps : List (List Int)), (l.foldl pstep ps).length = ps.length * 2 ^ l.length
  | [], ps => by simp
  | x :: l, ps => by
    show (l.foldl pstep (pstep ps x)).length = _
    rw [pfold_len l]
    unfold pstep
    rw [List.length_append, List.length_map, List.length_cons, Nat.pow_succ]
    rw [← Nat.two_mul, Nat.mul_comm 2 ps.length, Nat.mul_assoc, Nat.mul_comm 2 (2 ^ l.length)]
theorem parts_small {l : List Int} (h : l.length ≤ 10) : (partsV l).length ≤ 1024 := by
  unfold partsV
  rw [pfold_len]
  have : 2 ^ l.length ≤ 2 ^ 10 := Nat.pow_le_pow_right (by omega) h
  simp; omega
theorem parts (cal : Cal) (l : List Int) (hl : l.length ≤ 10) : run1 cal fd__law_parts [.d (Ls l)] = .ok (.d (Rs (partsV l))) [.d (Ls l)] := by
  refine run_of rfl (wxs_ok _ _ ?_)
  refine forW_inv (fun ts g => ∃ (pre rest : List Int) (t2 t3 : T), l = pre ++ rest ∧ ts = rest.map I' ∧ g = [.d (Ls l), .d (Rs (partsV pre)), t2, t3]) ⟨[], l, .un, .un, rfl, by rw [List.map_map]; rfl, rfl⟩ ?_ ?_
  · rintro t ts g ⟨pre, rest, t2, t3, h1, h2, rfl⟩
    cases rest with
    | nil => cases h2
    | cons x rest =>
      simp only [List.map_cons, List.cons.injEq] at h2
      obtain ⟨rfl, rfl⟩ := h2
      have hpl : pre.length ≤ 10 := by rw [h1] at hl; simp at hl; omega
      have hps := parts_small hpl
      have hs : sizeLine = 16777216 := rfl
      refine ⟨_, rfl, wxs_ok _ _ ?_⟩
      refine lcW_map (fun t => match t with | .d (.lst xs) => .lst (xs ++ [.int x]) | _ => .non) (by simp; omega) rfl ?_ ?_
      · intro t ht
        simp only [List.map_map, List.mem_map, Function.comp_def] at ht
        obtain ⟨r, hr, rfl⟩ := ht
        have hrl := (mem_parts.1 hr).length_le
        refine ⟨_, rfl, rfl, ?_, rfl, rfl⟩
        refine (?_ : (r.map D.int).length + 1 ≤ _)
        rw [List.length_map]; omega
      · refine ⟨?_, pre ++ [x], rest, I' x, t3, by rw [h1]; simp, rfl, ?_⟩
        · simp only [List.length_map]; omega
        · have : partsV (pre ++ [x]) = partsV pre ++ (partsV pre).map (· ++ [x]) := by
            unfold partsV; rw [List.foldl_append]; rfl
          rw [this]
          refine (?_ : [T.d (Ls l), .d (.lst ((partsV pre).map (fun r => Ls r) ++ _)), I' x, t3] = _)
          congr 3
          simp
  · rintro g ⟨pre, rest, t2, t3, h1, h2, rfl⟩
    cases rest with
    | nil => rw [List.append_nil] at h1; rw [h1]; exact rfl
    | cons _ _ => cases h2
def subB (sv told : List Int) : Bool := sv.all fun x => decide (x ∈ told)
def silV (fam : List (List Int)) (sv : List Int) : Bool := sv.isEmpty || fam.any fun told => subB sv told
theorem comp_notin (cal : Cal) {i j : Nat} : True := trivial
theorem silent (cal : Cal) (ld : Int) (c : List Int) (fa fl fe : List (List Int)) (H : ∀ k, cal 8 [.d (seatD ld c fa fl fe), .d (K' k)] = .ok (.d (Rs (famV fa fl fe k))) [.d (seatD ld c fa fl fe), .d (K' k)])
    (k : Kd3) (sv : List Int) (hsv : sv.length ≤ 100) : run1 cal fd__law_silent [.d (seatD ld c fa fl fe), .d (K' k), .d (Ls sv)] = .ok (B' (silV (famV fa fl fe k) sv)) [.d (seatD ld c fa fl fe), .d (K' k), .d (Ls sv)] := by
  refine run_of rfl (wxs_ok _ _ ?_)
  refine ⟨_, eq_nil sv, ?_⟩
  unfold silV
  cases he : sv.isEmpty with
  | true => exact rfl
  | false =>
    refine ⟨_, H k, ?_⟩
    refine forW_inv (fun ts g => ∃ (pre rest : List (List Int)) (t3 t4 : T), famV fa fl fe k = pre ++ rest ∧ ts = rest.map (fun r => .d (Ls r)) ∧ (∀ r ∈ pre, subB sv r = false) ∧ g = [.d (seatD ld c fa fl fe), .d (K' k), .d (Ls sv), t3, t4]) ⟨[], _, .un, .un, rfl, by rw [List.map_map]; rfl, by simp, rfl⟩ ?_ ?_
    · rintro t ts g ⟨pre, rest, t3, t4, h1, h2, h3, rfl⟩
      cases rest with
      | nil => cases h2
      | cons r rest =>
        simp only [List.map_cons, List.cons.injEq] at h2
        obtain ⟨rfl, rfl⟩ := h2
        refine ⟨_, rfl, wxs_ok _ _ ?_⟩
        refine lcW_data (fun t => match t with | .d (.int i) => !decide (i ∈ r) | _ => false) (fun t => match t with | .d x => x | _ => .non) (by simp; omega) rfl ?_ ?_
        · intro t ht
          simp only [List.map_map, List.mem_map, Function.comp_def] at ht
          obtain ⟨i, hi, rfl⟩ := ht
          refine ⟨_, rfl, rfl, ⟨_, notin_int i r, ?_⟩, fun _ => ⟨rfl, rfl⟩⟩
          by_cases hm : i ∈ r
          · simp [hm]
          · simp [hm]
        · intro xs e
          have : xs = (sv.filter fun i => !decide (i ∈ r)).map D.int := by
            rw [e, List.map_map, List.filter_map, List.map_map]; rfl
          subst this
          refine ⟨_, eq_nil _, ?_⟩
          have hb : (sv.filter fun i => !decide (i ∈ r)).isEmpty = subB sv r := by
            unfold subB
            rw [Bool.eq_iff_iff, List.isEmpty_iff, List.filter_eq_nil_iff, List.all_eq_true]
            simp
          rw [hb]
          cases hq : subB sv r with
          | true =>
            have : (famV fa fl fe k).any (fun told => subB sv told) = true := List.any_eq_true.2 ⟨r, by rw [h1]; simp, hq⟩
            rw [this]; exact rfl
          | false =>
            refine ⟨pre ++ [r], rest, _, t4, by rw [h1]; simp, rfl, ?_, rfl⟩
            intro y hy
            rcases List.mem_append.1 hy with hy | hy
            · exact h3 y hy
            · have : y = r := by simpa using hy
              rw [this]; exact hq
    · rintro g ⟨pre, rest, t3, t4, h1, h2, h3, rfl⟩
      cases rest with
      | nil =>
        rw [List.append_nil] at h1
        have : (famV fa fl fe k).any (fun told => subB sv told) = false := by
          rw [List.any_eq_false]
          intro r hr
          rw [h1] at hr
          rw [h3 r hr]; simp
        rw [this]; exact rfl
      | cons _ _ => cases h2
end Wh

namespace Wh
open PySem L2
def covB (c low high : List Int) : Bool := c.all fun s => decide (s ∈ low) || decide (s ∈ high)
def pairB (c : List Int) (A E : List (List Int)) : Bool := A.any fun low => E.any fun high => covB c low high
def coupB (c : List Int) (fa fl fe : List (List Int)) (m f : Bool) : Bool := (kindsV m f).any fun p => pairB c (famV fa fl fe p.1) (famV fa fl fe p.2)
def CoupP (b : Bool) (args : List T) (co : CO) : Prop := ∃ x, co = .ok (.d x) args ∧ ((b = true ∧ ∃ ys, x = .tup ys) ∨ (b = false ∧ x = .non))
theorem couple (cal : Cal) (ld : Int) (c : List Int) (fa fl fe : List (List Int)) (hc : c.length ≤ 100) (hne : ∀ k, famV fa fl fe k ≠ [])
    (H : ∀ k, cal 8 [.d (seatD ld c fa fl fe), .d (K' k)] = .ok (.d (Rs (famV fa fl fe k))) [.d (seatD ld c fa fl fe), .d (K' k)])
    (HK : ∀ m f, cal 10 [B' m, B' f] = .ok (.d (kindsD m f)) [B' m, B' f]) (m f : Bool) :
    CoupP (coupB c fa fl fe m f) [.d (seatD ld c fa fl fe), B' m, B' f] (run1 cal fd__law_couple [.d (seatD ld c fa fl fe), B' m, B' f]) := by
  refine run_ofP rfl (wxs_ok _ _ ?_)
  refine ⟨_, HK m f, ?_⟩
  have hne' : ∀ k, (famV fa fl fe k).isEmpty = false := fun k => by
    rw [Bool.eq_false_iff]; intro h; exact hne k (List.isEmpty_iff.1 h)
  let S : T := .d (seatD ld c fa fl fe)
  refine forW_inv (fun ts g => ∃ (pre rest : List (Kd3 × Kd3)) (t3 t4 t5 t6 t7 t8 t9 : T), kindsV m f = pre ++ rest ∧ ts = rest.map (fun p => .d (.tup [K' p.1, K' p.2])) ∧ (∀ p ∈ pre, pairB c (famV fa fl fe p.1) (famV fa fl fe p.2) = false) ∧ g = [S, B' m, B' f, t3, t4, t5, t6, t7, t8, t9]) ⟨[], _, .un, .un, .un, .un, .un, .un, .un, rfl, by rw [List.map_map]; rfl, by simp, rfl⟩ ?_ ?_
  · rintro t ts g ⟨pre, rest, t3, t4, t5, t6, t7, t8, t9, h1, h2, h3, rfl⟩
    cases rest with
    | nil => cases h2
    | cons p rest =>
      obtain ⟨k1, k2⟩ := p
      simp only [List.map_cons, List.cons.injEq] at h2
      obtain ⟨rfl, rfl⟩ := h2
      refine ⟨_, rfl, ?_⟩
      refine cut 2 (fun g => g = [S, B' m, B' f, .d (K' k1), .d (K' k2), .d (Rs (famV fa fl fe k1)), .d (Rs (famV fa fl fe k2)), t7, t8, t9]) (wxs_ok _ _ ⟨_, H k1, _, H k2, rfl⟩) ?_
      rintro _ rfl
      refine wxs_ok _ _ ⟨_, ne_nilR _, ?_⟩
      rw [hne' k1]
      refine forW_inv (fun ts g => ∃ (pl rl : List (List Int)) (t7 t8 t9 : T), famV fa fl fe k1 = pl ++ rl ∧ ts = rl.map (fun r => .d (Ls r)) ∧ (∀ low ∈ pl, (famV fa fl fe k2).any (fun high => covB c low high) = false) ∧ g = [S, B' m, B' f, .d (K' k1), .d (K' k2), .d (Rs (famV fa fl fe k1)), .d (Rs (famV fa fl fe k2)), t7, t8, t9]) ⟨[], _, t7, t8, t9, rfl, by rw [List.map_map]; rfl, by simp, rfl⟩ ?_ ?_
      · rintro t ts g ⟨pl, rl, t7, t8, t9, l1, l2, l3, rfl⟩
        cases rl with
        | nil => cases l2
        | cons low rl =>
          simp only [List.map_cons, List.cons.injEq] at l2
          obtain ⟨rfl, rfl⟩ := l2
          refine ⟨_, rfl, wxs_ok _ _ ⟨_, ne_nilR _, ?_⟩⟩
          rw [hne' k2]
          refine forW_inv (fun ts g => ∃ (ph rh : List (List Int)) (t8 t9 : T), famV fa fl fe k2 = ph ++ rh ∧ ts = rh.map (fun r => .d (Ls r)) ∧ (∀ high ∈ ph, covB c low high = false) ∧ g = [S, B' m, B' f, .d (K' k1), .d (K' k2), .d (Rs (famV fa fl fe k1)), .d (Rs (famV fa fl fe k2)), .d (Ls low), t8, t9]) ⟨[], _, t8, t9, rfl, by rw [List.map_map]; rfl, by simp, rfl⟩ ?_ ?_
          · rintro t ts g ⟨ph, rh, t8, t9, m1, m2, m3, rfl⟩
            cases rh with
            | nil => cases m2
            | cons high rh =>
              simp only [List.map_cons, List.cons.injEq] at m2
              obtain ⟨rfl, rfl⟩ := m2
              refine ⟨_, rfl, wxs_ok _ _ ⟨_, rfl, ?_⟩⟩
              refine lcW_data (fun t => match t with | .d (.int i) => !decide (i ∈ low) && !decide (i ∈ high) | _ => false) (fun t => match t with | .d x => x | _ => .non) (by simp; omega) rfl ?_ ?_
              · intro t ht
                simp only [List.map_map, List.mem_map, Function.comp_def] at ht
                obtain ⟨i, hi, rfl⟩ := ht
                refine ⟨_, rfl, rfl, ⟨_, notin_int i low, ?_⟩, fun _ => ⟨rfl, rfl⟩⟩
                by_cases hm : i ∈ low
                · simp [hm]
                · simp only [hm, decide_false, Bool.not_false, Bool.true_and]
                  refine ⟨_, notin_int i high, ?_⟩
                  by_cases hm2 : i ∈ high
                  · simp [hm2]
                  · simp [hm2]
              · intro xs e
                have : xs = (c.filter fun i => !decide (i ∈ low) && !decide (i ∈ high)).map D.int := by
                  rw [e, List.map_map, List.filter_map, List.map_map]; rfl
                subst this
                refine ⟨_, eq_nil _, ?_⟩
                have hb : (c.filter fun i => !decide (i ∈ low) && !decide (i ∈ high)).isEmpty = covB c low high := by
                  unfold covB
                  rw [Bool.eq_iff_iff, List.isEmpty_iff, List.filter_eq_nil_iff, List.all_eq_true]
                  constructor
                  · intro h x hx
                    have := h x hx
                    by_cases a1 : x ∈ low <;> by_cases a2 : x ∈ high <;> simp [a1, a2] at this ⊢
                  · intro h x hx
                    have := h x hx
                    by_cases a1 : x ∈ low <;> by_cases a2 : x ∈ high <;> simp [a1, a2] at this ⊢
                rw [hb]
                cases hq : covB c low high with
                | true =>
                  have : coupB c fa fl fe m f = true := List.any_eq_true.2 ⟨(k1, k2), by rw [h1]; simp, List.any_eq_true.2 ⟨low, by rw [l1]; simp, List.any_eq_true.2 ⟨high, by rw [m1]; simp, hq⟩⟩⟩
                  exact ⟨_, rfl, _, rfl, _, rfl, .inl ⟨this, _, rfl⟩⟩
                | false =>
                  refine ⟨ph ++ [high], rh, _, t9, by rw [m1]; simp, rfl, ?_, rfl⟩
                  intro y hy
                  rcases List.mem_append.1 hy with hy | hy
                  · exact m3 y hy
                  · have : y = high := by simpa using hy
                    rw [this]; exact hq
          · rintro g ⟨ph, rh, t8, t9, m1, m2, m3, rfl⟩
            cases rh with
            | cons _ _ => cases m2
            | nil =>
              rw [List.append_nil] at m1
              refine ⟨pl ++ [low], rl, _, t8, t9, by rw [l1]; simp, rfl, ?_, rfl⟩
              intro y hy
              rcases List.mem_append.1 hy with hy | hy
              · exact l3 y hy
              · have : y = low := by simpa using hy
                rw [this, List.any_eq_false]
                intro z hz
                rw [m1] at hz
                rw [m3 z hz]; simp
      · rintro g ⟨pl, rl, t7, t8, t9, l1, l2, l3, rfl⟩
        cases rl with
        | cons _ _ => cases l2
        | nil =>
          rw [List.append_nil] at l1
          refine ⟨pre ++ [(k1, k2)], rest, _, _, _, _, t7, t8, t9, by rw [h1]; simp, rfl, ?_, rfl⟩
          intro y hy
          rcases List.mem_append.1 hy with hy | hy
          · exact h3 y hy
          · have : y = (k1, k2) := by simpa using hy
            rw [this]
            unfold pairB
            rw [List.any_eq_false]
            intro z hz
            rw [l1] at hz
            rw [l3 z hz]; simp
  · rintro g ⟨pre, rest, t3, t4, t5, t6, t7, t8, t9, h1, h2, h3, rfl⟩
    cases rest with
    | cons _ _ => cases h2
    | nil =>
      rw [List.append_nil] at h1
      have : coupB c fa fl fe m f = false := by
        unfold coupB
        rw [List.any_eq_false]
        intro z hz
        rw [h1] at hz
        rw [h3 z hz]; simp
      exact ⟨_, rfl, .inr ⟨this, rfl⟩⟩
end Wh

namespace Wh
open PySem L2
def srt (rs : List (List Int)) : List (List Int) := rs.mergeSort fun a b => decide (a ≤ b)
theorem mem_srt {rs : List (List Int)} {r : List Int} : r ∈ srt rs ↔ r ∈ rs := (List.mergeSort_perm _ _).mem_iff
theorem allRows_rows : ∀ rs : List (List Int), allRows (rs.map fun r => Ls r) = some rs
  | [] => rfl
  | r :: rs => by simp only [List.map_cons, allRows, allInt_int, allRows_rows rs]
theorem sortedR_rows {o : Bool} {rs : List (List Int)} : biT .sortedR o [.d (Rs rs)] = some (mkl o ((srt rs).map fun r => Ls r)) := by
  show (match allRows (rs.map fun r => Ls r) with
    | some rs => some (mkl o ((rs.mergeSort fun a b => decide (a ≤ b)).map fun r : List Int => D.lst (r.map .int)))
    | none => none) = _
  rw [allRows_rows]; rfl
def ofLen (n : Int) (rs : List (List Int)) : List (List Int) := rs.filter fun r => decide ((r.length : Int) = n)
def restV (ld : Int) (c : List Int) : List Int := c.filter fun x => !decide (x = ld)
abbrev seat0 (ld : Int) (c : List Int) : D := .lst [.int ld, Ls c, .lst [], .lst [], .lst []]
abbrev fam1 (ld : Int) (c : List Int) (a : Int) : List (List Int) := srt (ofLen a (partsV (restV ld c)))
abbrev fam2 (c : List Int) (l : Int) : List (List Int) := srt (ofLen l (partsV c))
theorem bySizes (cal : Cal) (H : ∀ l : List Int, l.length ≤ 10 → cal 7 [.d (Ls l)] = .ok (.d (Rs (partsV l))) [.d (Ls l)]) (ld : Int) (c : List Int) (hc : c.length ≤ 10) (a l e : Int) :
    run1 cal fd__law_by_sizes [.d (seat0 ld c), I' a, I' l, I' e] = .ok (.d (seatD ld c (fam1 ld c a) (fam2 c l) (fam2 c e))) [.d (seat0 ld c), I' a, I' l, I' e] := by
  refine run_of rfl ?_
  have hr : (restV ld c).length ≤ 10 := Nat.le_trans (List.length_filter_le _ _) hc
  refine cut 1 (fun g => g = [.d (seat0 ld c), I' a, I' l, I' e, .d (Ls (restV ld c)), .un, .un, .un, .un, .un]) (wxs_ok _ _ ?_) ?_
  · refine ⟨_, rfl, ?_⟩
    refine lcW_data (fun t => match t with | .d (.int i) => !decide (i = ld) | _ => false) (fun t => match t with | .d x => x | _ => .non) (by simp; omega) rfl ?_ ?_
    · intro t ht
      simp only [List.map_map, List.mem_map, Function.comp_def] at ht
      obtain ⟨i, hi, rfl⟩ := ht
      refine ⟨_, rfl, rfl, ⟨_, rfl, fun h => ⟨rfl, by simpa using h⟩, fun h => ⟨rfl, by simpa using h⟩⟩, fun _ => ⟨rfl, rfl⟩⟩
    · intro xs ex
      have : xs = (restV ld c).map D.int := by
        rw [ex, List.map_map, List.filter_map, List.map_map]; rfl
      subst this
      exact rfl
  rintro _ rfl
  have step : ∀ (rows : List (List Int)) (n : Int), (rows.map fun r => T.d (Ls r)).filter (fun t => match t with | .d (.lst xs) => decide ((xs.length : Int) = n) | _ => false) = (ofLen n rows).map fun r => T.d (Ls r) := by
    intro rows n
    rw [List.filter_map]
    congr 1
    apply List.filter_congr
    intro r _
    simp
  refine cut 1 (fun g => g = [.d (seat0 ld c), I' a, I' l, I' e, .d (Ls (restV ld c)), .d (Rs (fam1 ld c a)), .un, .un, .un, .un]) (wxs_ok _ _ ?_) ?_
  · refine ⟨_, H _ hr, ?_⟩
    have hp := parts_small hr
    refine lcW_data (fun t => match t with | .d (.lst xs) => decide ((xs.length : Int) = a) | _ => false) (fun t => match t with | .d x => x | _ => .non) (by simp; omega) rfl ?_ ?_
    · intro t ht
      simp only [List.map_map, List.mem_map, Function.comp_def] at ht
      obtain ⟨r, hr, rfl⟩ := ht
      exact ⟨_, rfl, rfl, ⟨fun h => ⟨rfl, by simpa using h⟩, fun h => ⟨rfl, by simpa using h⟩⟩, fun _ => ⟨rfl, rfl⟩⟩
    · intro xs ex
      have : xs = (ofLen a (partsV (restV ld c))).map fun r => Ls r := by
        rw [ex, List.map_map]
        have := step (partsV (restV ld c)) a
        simp only [Function.comp_def]
        rw [this, List.map_map]; rfl
      subst this
      exact ⟨_, sortedR_rows, rfl⟩
  rintro _ rfl
  have hp := parts_small hc
  refine cut 1 (fun g => g = [.d (seat0 ld c), I' a, I' l, I' e, .d (Ls (restV ld c)), .d (Rs (fam1 ld c a)), .d (Rs (fam2 c l)), .un, .un, .un]) (wxs_ok _ _ ?_) ?_
  · refine ⟨_, rfl, _, H _ hc, ?_⟩
    refine lcW_data (fun t => match t with | .d (.lst xs) => decide ((xs.length : Int) = l) | _ => false) (fun t => match t with | .d x => x | _ => .non) (by simp; omega) rfl ?_ ?_
    · intro t ht
      simp only [List.map_map, List.mem_map, Function.comp_def] at ht
      obtain ⟨r, hr, rfl⟩ := ht
      exact ⟨_, rfl, rfl, ⟨fun h => ⟨rfl, by simpa using h⟩, fun h => ⟨rfl, by simpa using h⟩⟩, fun _ => ⟨rfl, rfl⟩⟩
    · intro xs ex
      have : xs = (ofLen l (partsV c)).map fun r => Ls r := by
        rw [ex, List.map_map]
        have := step (partsV c) l
        simp only [Function.comp_def]
        rw [this, List.map_map]; rfl
      subst this
      exact ⟨_, sortedR_rows, rfl⟩
  rintro _ rfl
  refine wxs_ok _ _ ?_
  refine ⟨_, rfl, _, H _ hc, ?_⟩
  refine lcW_data (fun t => match t with | .d (.lst xs) => decide ((xs.length : Int) = e) | _ => false) (fun t => match t with | .d x => x | _ => .non) (by simp; omega) rfl ?_ ?_
  · intro t ht
    simp only [List.map_map, List.mem_map, Function.comp_def] at ht
    obtain ⟨r, hr, rfl⟩ := ht
    exact ⟨_, rfl, rfl, ⟨fun h => ⟨rfl, by simpa using h⟩, fun h => ⟨rfl, by simpa using h⟩⟩, fun _ => ⟨rfl, rfl⟩⟩
  · intro xs ex
    have : xs = (ofLen e (partsV c)).map fun r => Ls r := by
      rw [ex, List.map_map]
      have := step (partsV c) e
      simp only [Function.comp_def]
      rw [this, List.map_map]; rfl
    subst this
    exact ⟨_, sortedR_rows, _, rfl, _, rfl, rfl⟩
def outB (c held : List Int) : List Int := c.filter fun x => !decide (x ∈ held)
def looseB (ld : Int) (c : List Int) (fa fe : List (List Int)) : Bool := (partsV c).any fun held => decide (ld ∈ held) && !silV fe held && !silV fa (outB c held)
theorem loose (cal : Cal) (ld : Int) (c : List Int) (fa fl fe : List (List Int)) (hc : c.length ≤ 10) (H : ∀ l : List Int, l.length ≤ 10 → cal 7 [.d (Ls l)] = .ok (.d (Rs (partsV l))) [.d (Ls l)])
    (HS : ∀ k sv, sv.length ≤ 100 → cal 9 [.d (seatD ld c fa fl fe), .d (K' k), .d (Ls sv)] = .ok (B' (silV (famV fa fl fe k) sv)) [.d (seatD ld c fa fl fe), .d (K' k), .d (Ls sv)]) :
    run1 cal fd__law_is_loose [.d (seatD ld c fa fl fe)] = .ok (B' (looseB ld c fa fe)) [.d (seatD ld c fa fl fe)] := by
  refine run_of rfl (wxs_ok _ _ ?_)
  refine ⟨_, rfl, _, H _ hc, ?_⟩
  let S : T := .d (seatD ld c fa fl fe)
  refine forW_inv (fun ts g => ∃ (pre rest : List (List Int)) (t1 t2 t3 : T), partsV c = pre ++ rest ∧ ts = rest.map (fun r => .d (Ls r)) ∧ (∀ held ∈ pre, (decide (ld ∈ held) && !silV fe held && !silV fa (outB c held)) = false) ∧ g = [S, t1, t2, t3]) ⟨[], _, .un, .un, .un, rfl, by rw [List.map_map]; rfl, by simp, rfl⟩ ?_ ?_
  · rintro t ts g ⟨pre, rest, t1, t2, t3, h1, h2, h3, rfl⟩
    cases rest with
    | nil => cases h2
    | cons held rest =>
      simp only [List.map_cons, List.cons.injEq] at h2
      obtain ⟨rfl, rfl⟩ := h2
      have hh : held.length ≤ 10 := Nat.le_trans (mem_parts.1 (by rw [h1]; simp : held ∈ partsV c)).length_le hc
      have ho : (outB c held).length ≤ 10 := Nat.le_trans (List.length_filter_le _ _) hc
      refine ⟨_, rfl, ?_⟩
      refine cut 1 (fun g => g = [S, .d (Ls held), .d (Ls (outB c held)), t3]) (wxs_ok _ _ ?_) ?_
      · refine ⟨_, rfl, ?_⟩
        refine lcW_data (fun t => match t with | .d (.int i) => !decide (i ∈ held) | _ => false) (fun t => match t with | .d x => x | _ => .non) (by simp; omega) rfl ?_ ?_
        · intro t ht
          simp only [List.map_map, List.mem_map, Function.comp_def] at ht
          obtain ⟨i, hi, rfl⟩ := ht
          refine ⟨_, rfl, rfl, ⟨_, notin_int i held, ?_⟩, fun _ => ⟨rfl, rfl⟩⟩
          by_cases hm : i ∈ held
          · simp [hm]
          · simp [hm]
        · intro xs e
          have : xs = (outB c held).map D.int := by
            rw [e, List.map_map, List.filter_map, List.map_map]; rfl
          subst this
          exact rfl
      rintro _ rfl
      have fin : (decide (ld ∈ held) && !silV fe held && !silV fa (outB c held)) = false → ∃ (pre' rest' : List (List Int)) (t1 t2 t3' : T), partsV c = pre' ++ rest' ∧ rest.map (fun r => T.d (Ls r)) = rest'.map (fun r => .d (Ls r)) ∧ (∀ held ∈ pre', (decide (ld ∈ held) && !silV fe held && !silV fa (outB c held)) = false) ∧ [S, .d (Ls held), .d (Ls (outB c held)), t3] = [S, t1, t2, t3'] := fun hq => by
        refine ⟨pre ++ [held], rest, _, _, t3, by rw [h1]; simp, rfl, ?_, rfl⟩
        intro y hy
        rcases List.mem_append.1 hy with hy | hy
        · exact h3 y hy
        · have : y = held := by simpa using hy
          rw [this]; exact hq
      refine wxs_ok _ _ ⟨_, rfl, _, in_int ld held, ?_⟩
      by_cases hm : ld ∈ held
      · rw [decide_eq_true hm]
        refine ⟨_, HS .leaving held (by omega), ?_⟩
        cases h5 : silV (famV fa fl fe .leaving) held with
        | true =>
          have h5 : silV fe held = true := h5
          exact fin (by rw [h5]; simp)
        | false =>
          have h5 : silV fe held = false := h5
          refine ⟨_, HS .asking (outB c held) (by omega), ?_⟩
          cases h6 : silV (famV fa fl fe .asking) (outB c held) with
          | true =>
            have h6 : silV fa (outB c held) = true := h6
            exact fin (by rw [h6]; simp)
          | false =>
            have h6 : silV fa (outB c held) = false := h6
            have : looseB ld c fa fe = true := List.any_eq_true.2 ⟨held, by rw [h1]; simp, by rw [h5, h6, decide_eq_true hm]; rfl⟩
            rw [this]; exact rfl
      · rw [decide_eq_false hm]
        exact fin (by rw [decide_eq_false hm]; rfl)
  · rintro g ⟨pre, rest, t1, t2, t3, h1, h2, h3, rfl⟩
    cases rest with
    | cons _ _ => cases h2
    | nil =>
      rw [List.append_nil] at h1
      have : looseB ld c fa fe = false := by
        unfold looseB
        rw [List.any_eq_false]
        intro z hz
        rw [h1] at hz
        rw [h3 z hz]; simp
      rw [this]; exact rfl
end Wh

namespace Wh
open PySem L2
theorem rngL_len (m n : Int) : (rngL m n).length = (n - m).toNat := by unfold rngL; simp
theorem rngL_mem {m n x : Int} : x ∈ rngL m n ↔ m ≤ x ∧ x < n := by
  unfold rngL
  rw [List.mem_map]
  constructor
  · rintro ⟨k, hk, rfl⟩
    rw [List.mem_range] at hk
    omega
  · rintro ⟨h1, h2⟩
    exact ⟨(x - m).toNat, by rw [List.mem_range]; omega, by omega⟩
theorem rngL_nodup (m n : Int) : (rngL m n).Nodup := by
  unfold rngL
  exact List.pairwise_map.2 (List.Pairwise.imp (fun h e => h (by omega)) List.nodup_range)
theorem mem_fam1 {ld : Int} {c r : List Int} {a : Nat} : r ∈ fam1 ld c a ↔ r.Sublist (restV ld c) ∧ r.length = a := by
  rw [mem_srt]
  unfold ofLen
  rw [List.mem_filter, mem_parts, decide_eq_true_eq]
  exact and_congr_right fun _ => by omega
theorem mem_fam2 {c r : List Int} {a : Nat} : r ∈ fam2 c a ↔ r.Sublist c ∧ r.length = a := by
  rw [mem_srt]
  unfold ofLen
  rw [List.mem_filter, mem_parts, decide_eq_true_eq]
  exact and_congr_right fun _ => by omega
theorem covB_iff {c low high : List Int} : covB c low high = true ↔ ∀ s ∈ c, s ∈ low ∨ s ∈ high := by
  unfold covB
  rw [List.all_eq_true]
  simp only [Bool.or_eq_true, decide_eq_true_eq]
theorem subB_iff {sv told : List Int} : subB sv told = true ↔ ∀ x ∈ sv, x ∈ told := by
  unfold subB
  rw [List.all_eq_true]
  simp only [decide_eq_true_eq]
theorem pairB_iff {c : List Int} {A E : List (List Int)} : pairB c A E = true ↔ ∃ low ∈ A, ∃ high ∈ E, ∀ s ∈ c, s ∈ low ∨ s ∈ high := by
  unfold pairB
  simp only [List.any_eq_true, covB_iff]
/-- a drawn seat's copies -/
structure Cop (n : Nat) (ld : Int) (c : List Int) : Prop where
  nd : c.Nodup
  len : c.length = n
  ld : ld ∈ c
section
variable {n : Nat} {ld : Int} {c : List Int} {a l e : Nat}
theorem Cop.rest (C : Cop n ld c) : (restV ld c).Sublist c ∧ (restV ld c).length = n - 1 ∧ (restV ld c).Nodup := by
  refine ⟨List.filter_sublist, ?_, C.nd.sublist List.filter_sublist⟩
  have := rest_len C.nd C.ld
  rw [C.len] at this
  exact this
theorem Cop.pair1 (C : Cop n ld c) (ha : a ≤ n - 1) (he : e ≤ n) : pairB c (fam1 ld c a) (fam2 c e) = decide (n ≤ a + e) := by
  obtain ⟨r1, r2, r3⟩ := C.rest
  rw [Bool.eq_iff_iff, pairB_iff, decide_eq_true_eq]
  have := cover_iff (x := a) (y := e) C.nd r1 (by omega) (by rw [C.len]; exact he)
  rw [C.len] at this
  rw [← this]
  constructor
  · rintro ⟨A, hA, E, hE, h⟩; exact ⟨A, E, mem_fam1.1 hA, mem_fam2.1 hE, h⟩
  · rintro ⟨A, E, hA, hE, h⟩; exact ⟨A, mem_fam1.2 hA, E, mem_fam2.2 hE, h⟩
theorem Cop.pair2 (C : Cop n ld c) (ha : a ≤ n - 1) (hl : l ≤ n) : pairB c (fam2 c l) (fam1 ld c a) = decide (n ≤ l + a) := by
  rw [Bool.eq_iff_iff, pairB_iff, decide_eq_true_eq]
  have := C.pair1 ha hl
  rw [Bool.eq_iff_iff, pairB_iff, decide_eq_true_eq] at this
  rw [show l + a = a + l by omega, ← this]
  exact ⟨fun ⟨A, hA, E, hE, h⟩ => ⟨E, hE, A, hA, fun s hs => (h s hs).symm⟩, fun ⟨A, hA, E, hE, h⟩ => ⟨E, hE, A, hA, fun s hs => (h s hs).symm⟩⟩
theorem Cop.pair3 (C : Cop n ld c) (hl : l ≤ n) (he : e ≤ n) : pairB c (fam2 c l) (fam2 c e) = decide (n ≤ l + e) := by
  rw [Bool.eq_iff_iff, pairB_iff, decide_eq_true_eq]
  have := cover_iff (x := l) (y := e) C.nd (List.Sublist.refl c) (by rw [C.len]; exact hl) (by rw [C.len]; exact he)
  rw [C.len] at this
  rw [← this]
  constructor
  · rintro ⟨A, hA, E, hE, h⟩; exact ⟨A, E, mem_fam2.1 hA, mem_fam2.1 hE, h⟩
  · rintro ⟨A, E, hA, hE, h⟩; exact ⟨A, mem_fam2.2 hA, E, mem_fam2.2 hE, h⟩
theorem Cop.ne (C : Cop n ld c) (ha : a ≤ n - 1) (hl : l ≤ n) (he : e ≤ n) (k : Kd3) : famV (fam1 ld c a) (fam2 c l) (fam2 c e) k ≠ [] := by
  obtain ⟨r1, r2, r3⟩ := C.rest
  cases k
  · exact List.ne_nil_of_mem (mem_fam1.2 ⟨List.take_sublist a (restV ld c), by rw [List.length_take]; omega⟩)
  · exact List.ne_nil_of_mem (mem_fam2.2 ⟨List.take_sublist l c, by rw [List.length_take, C.len]; omega⟩)
  · exact List.ne_nil_of_mem (mem_fam2.2 ⟨List.take_sublist e c, by rw [List.length_take, C.len]; omega⟩)
theorem Cop.coup (C : Cop n ld c) (ha : a ≤ n - 1) (hl : l ≤ n) (he : e ≤ n) (m f : Bool) : coupB c (fam1 ld c a) (fam2 c l) (fam2 c e) m f = !nrV n a l e m f := by
  have p1 := C.pair1 ha he
  have p2 := C.pair2 ha hl
  have p3 := C.pair3 hl he
  have e1 : ∀ x y : Nat, decide (n ≤ x + y) = !decide ((x : Int) + y < n) := by
    intro x y
    by_cases h : n ≤ x + y
    · rw [decide_eq_true h, decide_eq_false (by omega)]; rfl
    · rw [decide_eq_false h, decide_eq_true (by omega)]; rfl
  cases m <;> cases f
  · simp [coupB, kindsV, nrV, sumsV]
  · simp [coupB, kindsV, nrV, sumsV, famV, numV, p1, e1]
  · simp [coupB, kindsV, nrV, sumsV, famV, numV, p2, e1]
  · by_cases h1 : (a : Int) + e < n <;> by_cases h2 : (l : Int) + a < n <;> by_cases h3 : (l : Int) + e < n <;> simp [coupB, kindsV, nrV, sumsV, famV, numV, p1, p2, p3, e1, h1, h2, h3]
theorem silV1 {held : List Int} : silV (fam1 ld c a) held = true ↔ SilP (restV ld c) a held := by
  unfold silV SilP
  rw [Bool.or_eq_true, List.isEmpty_iff, List.any_eq_true]
  refine or_congr_right ⟨?_, ?_⟩
  · rintro ⟨E, hE, h⟩; exact ⟨E, mem_fam1.1 hE, subB_iff.1 h⟩
  · rintro ⟨E, hE, h⟩; exact ⟨E, mem_fam1.2 hE, subB_iff.2 h⟩
theorem silV2 {held : List Int} : silV (fam2 c e) held = true ↔ SilP c e held := by
  unfold silV SilP
  rw [Bool.or_eq_true, List.isEmpty_iff, List.any_eq_true]
  refine or_congr_right ⟨?_, ?_⟩
  · rintro ⟨E, hE, h⟩; exact ⟨E, mem_fam2.1 hE, subB_iff.1 h⟩
  · rintro ⟨E, hE, h⟩; exact ⟨E, mem_fam2.2 hE, subB_iff.2 h⟩
theorem Cop.loose (C : Cop n ld c) (ha : a ≤ n - 1) (he : e ≤ n) : looseB ld c (fam1 ld c a) (fam2 c e) = !decide ((n : Int) - 1 ≤ (a : Int) + e) := by
  have h := loose_iff (a := a) (e := e) C.nd C.ld (by rw [C.len]; exact he) (by rw [C.len]; exact ha)
  rw [C.len] at h
  have h2 : looseB ld c (fam1 ld c a) (fam2 c e) = true ↔ a + e + 2 ≤ n := by
    rw [← h]
    unfold looseB
    rw [List.any_eq_true]
    refine exists_congr fun held => ?_
    rw [mem_parts]
    refine and_congr_right fun _ => ?_
    rw [Bool.and_eq_true, Bool.and_eq_true, decide_eq_true_eq, Bool.not_eq_true', Bool.not_eq_true', Bool.eq_false_iff, Bool.eq_false_iff, Ne, Ne, silV2, silV1, and_assoc]
    exact Iff.rfl
  rw [Bool.eq_iff_iff, h2, Bool.not_eq_true', decide_eq_false_iff_not]
  omega
end
end Wh

namespace Wh
open PySem L2
structure C16 (cal : Cal) : Prop where
  cdue : ∀ a l e m f, cal 2 [I' a, I' l, I' e, B' m, B' f] = .ok (I' (dueV a l e m f)) [I' a, I' l, I' e, B' m, B' f]
  nright : ∀ n a l e m f, cal 3 [I' n, I' a, I' l, I' e, B' m, B' f] = .ok (B' (nrV n a l e m f)) [I' n, I' a, I' l, I' e, B' m, B' f]
  tight : ∀ n a e, cal 4 [I' n, I' a, I' e] = .ok (B' (decide (n - 1 ≤ a + e))) [I' n, I' a, I' e]
  truth : ∀ b, cal 14 [B' b, B' b] = .ok (B' true) [B' b, B' b]
  whole : ∀ i, cal 15 [I' i, I' i] = .ok (B' true) [I' i, I' i]
  couple : ∀ ld c fa fl fe, c.length ≤ 100 → (∀ k, famV fa fl fe k ≠ []) → ∀ m f, CoupP (coupB c fa fl fe m f) [.d (seatD ld c fa fl fe), B' m, B' f] (cal 11 [.d (seatD ld c fa fl fe), B' m, B' f])
  bySizes : ∀ ld c a l e, c.length ≤ 10 → cal 12 [.d (seat0 ld c), I' a, I' l, I' e] = .ok (.d (seatD ld c (fam1 ld c a) (fam2 c l) (fam2 c e))) [.d (seat0 ld c), I' a, I' l, I' e]
  loose : ∀ ld c fa fl fe, c.length ≤ 10 → cal 13 [.d (seatD ld c fa fl fe)] = .ok (B' (looseB ld c fa fe)) [.d (seatD ld c fa fl fe)]
theorem nr_due {k a l e : Int} {m f : Bool} (h1 : 1 + a ≤ k) (h2 : l ≤ k) (h3 : e ≤ k) : nrV k a l e m f = decide (dueV a l e m f ≤ k) := by
  have hm := maxI_is (dueV_is a l e m f)
  unfold nrV
  rw [Bool.eq_iff_iff, decide_eq_true_eq, decide_eq_true_eq]
  constructor
  · intro h
    have := hm.1
    unfold dueL at this
    rcases List.mem_append.1 this with h4 | h4
    · simp only [List.mem_cons, List.not_mem_nil, or_false] at h4
      omega
    · obtain ⟨x, hx, e⟩ := List.mem_map.1 h4
      have := h x hx
      omega
  · intro h x hx
    have := hm.2 (1 + x) (List.mem_append.2 (.inr (List.mem_map.2 ⟨x, hx, rfl⟩)))
    omega
theorem due_b {a l e : Int} {m f : Bool} (ha : 0 ≤ a ∧ a ≤ 3) (hl : 0 ≤ l ∧ l ≤ 3) (he : 0 ≤ e ∧ e ≤ 3) : 1 + a ≤ dueV a l e m f ∧ l ≤ dueV a l e m f ∧ e ≤ dueV a l e m f ∧ dueV a l e m f ≤ 7 := by
  have hm := maxI_is (dueV_is a l e m f)
  refine ⟨hm.2 _ (by simp [dueL]), hm.2 _ (by simp [dueL]), hm.2 _ (by simp [dueL]), ?_⟩
  have := hm.1
  unfold dueL at this
  rcases List.mem_append.1 this with h4 | h4
  · simp only [List.mem_cons, List.not_mem_nil, or_false] at h4
    omega
  · obtain ⟨x, hx, e1⟩ := List.mem_map.1 h4
    have : x ≤ 6 := by
      obtain ⟨p, _, rfl⟩ := List.mem_map.1 hx
      have hn : ∀ k : Kd3, numV a l e k ≤ 3 := by intro k; cases k <;> simp [numV] <;> omega
      have := hn p.1; have := hn p.2
      omega
    omega
def lstV (k d : Int) : Int := if d < k then d else 0
abbrev kindsT' (b1 b2 : Bool) : T := .d (.lst [.tup [.bl false, .bl b1], .tup [.bl true, .bl b2]])
theorem setsR (cal : Cal) (H : C16 cal) (a l e : Nat) (ha : a ≤ 3) (hl : l ≤ 3) (he : e ≤ 3) (b1 b2 : Bool) (low : Int) (hlow : 0 ≤ low) :
    run1 cal fd__law_sets_right [I' a, I' l, I' e, kindsT' b1 b2, I' low] = .ok (B' true) [I' a, I' l, I' e, kindsT' b1 b2, I' low] := by
  refine run_of rfl ?_
  have ha' : (0 : Int) ≤ a ∧ (a : Int) ≤ 3 := by omega
  have hl' : (0 : Int) ≤ l ∧ (l : Int) ≤ 3 := by omega
  have he' : (0 : Int) ≤ e ∧ (e : Int) ≤ 3 := by omega
  have D1 := due_b (m := false) (f := b1) ha' hl' he'
  have D2 := due_b (m := true) (f := b2) ha' hl' he'
  let d1 := dueV a l e false b1
  let d2 := dueV a l e true b2
  have D1 : 1 + (a : Int) ≤ d1 ∧ (l : Int) ≤ d1 ∧ (e : Int) ≤ d1 ∧ d1 ≤ 7 := D1
  have D2 : 1 + (a : Int) ≤ d2 ∧ (l : Int) ≤ d2 ∧ (e : Int) ≤ d2 ∧ d2 ≤ 7 := D2
  let pre : List T := [I' a, I' l, I' e, kindsT' b1 b2, I' low]
  refine cut 1 (fun g => g = pre ++ [.lst true [I' 0, I' 0], .un, .un, .un, .un, .un, .un, .un]) (wxs_ok _ _ ?_) ?_
  · refine lcW_fm (fun _ => true) (fun _ => I' 0) (by simp) rfl ?_ ?_
    · intro t ht
      exact ⟨_, rfl, rfl, rfl, fun _ => ⟨rfl, rfl⟩⟩
    · exact rfl
  rintro _ rfl
  refine cut 1 (fun g => ∃ t6 t7 t8 t9 t10 t11 t12, g = pre ++ [.lst true [I' d1, I' d2], t6, t7, t8, t9, t10, t11, t12]) (wxs_ok _ _ ?_) ?_
  · let M0 : Int := if (e : Int) > (if (l : Int) > 1 + a then (l : Int) else 1 + a) then (e : Int) else (if (l : Int) > 1 + a then (l : Int) else 1 + a)
    have hM : 1 + (a : Int) ≤ M0 ∧ (l : Int) ≤ M0 ∧ (e : Int) ≤ M0 ∧ M0 ≤ 4 ∧ (M0 = 1 + (a : Int) ∨ M0 = l ∨ M0 = e) := by
      have eM : M0 = if (e : Int) > (if (l : Int) > 1 + a then (l : Int) else 1 + a) then (e : Int) else (if (l : Int) > 1 + a then (l : Int) else 1 + a) := rfl
      generalize M0 = z at eM ⊢
      by_cases h1 : (l : Int) > 1 + a
      · rw [if_pos h1] at eM
        by_cases h2 : (e : Int) > l
        · rw [if_pos h2] at eM; omega
        · rw [if_neg h2] at eM; omega
      · rw [if_neg h1] at eM
        by_cases h2 : (e : Int) > 1 + a
        · rw [if_pos h2] at eM; omega
        · rw [if_neg h2] at eM; omega
    refine ⟨?_, by omega, ?_⟩
    · refine (?_ : rngP M0); omega
    refine forW_rng (lo := M0) (fun k g => ∃ t6 t7 t8 t9 t10 t11 t12, g = pre ++ [.lst true [I' (lstV k d1), I' (lstV k d2)], t6, t7, t8, t9, t10, t11, t12]) (by omega) ⟨.un, .un, .un, .un, .un, .un, .un, ?_⟩ ?_ ?_
    · have z1 : lstV M0 d1 = 0 := if_neg (by omega)
      have z2 : lstV M0 d2 = 0 := if_neg (by omega)
      rw [z1, z2]
    · rintro k g hk0 hk1 ⟨t6, t7, t8, t9, t10, t11, t12, rfl⟩
      let ld : Int := 1 + low % k
      let c := rngL 1 (k + 1)
      have hmod : 0 ≤ low % k ∧ low % k < k := ⟨Int.emod_nonneg _ (by omega), Int.emod_lt_of_pos _ (by omega)⟩
      have C : Cop k.toNat ld c := ⟨rngL_nodup _ _, by rw [rngL_len]; omega, rngL_mem.2 (by omega)⟩
      have hcl : c.length ≤ 10 := by rw [C.len]; omega
      let S : D := seatD ld c (fam1 ld c a) (fam2 c l) (fam2 c e)
      have q1 := H.bySizes ld c a l e hcl
      refine cut 1 (fun g => g = pre ++ [.lst true [I' (lstV k d1), I' (lstV k d2)], I' k, t7, .d S, t9, t10, t11, t12]) (wxs_ok _ _ ⟨by omega, ⟨by omega, by omega, by omega⟩, _, q1, rfl⟩) ?_
      rintro _ rfl
      have hck : ∀ m f, coupB c (fam1 ld c a) (fam2 c l) (fam2 c e) m f = !nrV k a l e m f := by
        intro m f
        have := C.coup (a := a) (l := l) (e := e) (by omega) (by omega) (by omega) m f
        rw [show ((k.toNat : Nat) : Int) = k by omega] at this
        exact this
      have hcp := fun m f => H.couple ld c (fam1 ld c a) (fam2 c l) (fam2 c e) (by omega) (C.ne (by omega) (by omega) (by omega)) m f
      have nr : ∀ m f, nrV k a l e m f = decide (dueV a l e m f ≤ k) := fun m f => nr_due (by omega) (by omega) (by omega)
      have up : ∀ d : Int, 1 ≤ d → lstV (k + 1) d = if (d ≤ k ∧ lstV k d = 0) then k else lstV k d := by
        intro d hd
        unfold lstV
        by_cases h1 : d < k
        · rw [if_pos (by omega), if_pos h1, if_neg (by omega)]
        · rw [if_neg h1]
          by_cases h2 : d = k
          · rw [if_pos (by omega), if_pos ⟨by omega, rfl⟩]; exact h2
          · rw [if_neg (by omega), if_neg (by omega)]
      refine cut 1 (fun g => ∃ t7 t9 t10 t11 t12, g = pre ++ [.lst true [I' (lstV (k + 1) d1), I' (lstV (k + 1) d2)], I' k, t7, .d S, t9, t10, t11, t12]) (wxs_ok _ _ ⟨(show rngP ((2 : Nat) : Int) from by omega), ?_⟩) ?_
      · refine forW_rng (lo := 0) (hi := ((2 : Nat) : Int)) (fun j g => ∃ t7 t9 t10 t11 t12, g = pre ++ [.lst true [I' (if 0 < j then lstV (k + 1) d1 else lstV k d1), I' (if 1 < j then lstV (k + 1) d2 else lstV k d2)], I' k, t7, .d S, t9, t10, t11, t12]) (by omega) ⟨t7, t9, t10, t11, t12, rfl⟩ ?_ ?_
        · rintro j g hj0 hj1 ⟨t7, t9, t10, t11, t12, rfl⟩
          have : j = 0 ∨ j = 1 := by omega
          rcases this with rfl | rfl
          · refine cut 2 (fun g => g = pre ++ [.lst true [I' (lstV k d1), I' (lstV k d2)], I' k, I' 0, .d S, t9, B' (decide (d1 ≤ k)), B' false, B' b1]) (wxs_ok _ _ ?_) ?_
            · obtain ⟨x, ex, hx⟩ := hcp false b1
              refine ⟨_, rfl, _, ex, ?_⟩
              rw [hck, nr] at hx
              rcases hx with ⟨hb, ys, rfl⟩ | ⟨hb, rfl⟩
              · have : decide (d1 ≤ k) = false := by simpa using hb
                rw [this]; exact rfl
              · have : decide (d1 ≤ k) = true := by simpa using hb
                rw [this]; exact rfl
            rintro _ rfl
            have n1 := H.nright k a l e false b1
            rw [nr] at n1
            have t1 := H.truth (decide (d1 ≤ k))
            refine cut 1 (fun g => g = pre ++ [.lst true [I' (lstV (k + 1) d1), I' (lstV k d2)], I' k, I' 0, .d S, t9, B' (decide (d1 ≤ k)), B' false, B' b1]) (wxs_ok _ _ ?_) ?_
            · rw [up d1 (by omega)]
              by_cases hd : d1 ≤ k
              · rw [decide_eq_true hd]
                refine ⟨_, rfl, fun hz => ?_, fun hz => ?_⟩
                · rw [if_pos ⟨hd, hz⟩]; exact rfl
                · rw [if_neg (fun z => hz z.2)]; exact rfl
              · rw [decide_eq_false hd, if_neg (fun z => hd z.1)]; exact rfl
            rintro _ rfl
            exact wxs_ok _ _ ⟨_, n1, _, t1, _, _, _, _, _, rfl⟩
          · refine cut 2 (fun g => g = pre ++ [.lst true [I' (lstV (k + 1) d1), I' (lstV k d2)], I' k, I' 1, .d S, t9, B' (decide (d2 ≤ k)), B' true, B' b2]) (wxs_ok _ _ ?_) ?_
            · obtain ⟨x, ex, hx⟩ := hcp true b2
              refine ⟨_, rfl, _, ex, ?_⟩
              rw [hck, nr] at hx
              rcases hx with ⟨hb, ys, rfl⟩ | ⟨hb, rfl⟩
              · have : decide (d2 ≤ k) = false := by simpa using hb
                rw [this]; exact rfl
              · have : decide (d2 ≤ k) = true := by simpa using hb
                rw [this]; exact rfl
            rintro _ rfl
            have n1 := H.nright k a l e true b2
            rw [nr] at n1
            have t1 := H.truth (decide (d2 ≤ k))
            refine cut 1 (fun g => g = pre ++ [.lst true [I' (lstV (k + 1) d1), I' (lstV (k + 1) d2)], I' k, I' 1, .d S, t9, B' (decide (d2 ≤ k)), B' true, B' b2]) (wxs_ok _ _ ?_) ?_
            · rw [up d2 (by omega)]
              by_cases hd : d2 ≤ k
              · rw [decide_eq_true hd]
                refine ⟨_, rfl, fun hz => ?_, fun hz => ?_⟩
                · rw [if_pos ⟨hd, hz⟩]; exact rfl
                · rw [if_neg (fun z => hz z.2)]; exact rfl
              · rw [decide_eq_false hd, if_neg (fun z => hd z.1)]; exact rfl
            rintro _ rfl
            exact wxs_ok _ _ ⟨_, n1, _, t1, _, _, _, _, _, rfl⟩
        · rintro g ⟨t7, t9, t10, t11, t12, rfl⟩
          exact ⟨t7, t9, t10, t11, t12, rfl⟩
      rintro _ ⟨t7, t9, t10, t11, t12, rfl⟩
      have g1 := H.tight k a e
      have g2 := H.loose ld c (fam1 ld c a) (fam2 c l) (fam2 c e) hcl
      have g3 := C.loose (a := a) (e := e) (by omega) (by omega)
      rw [show ((k.toNat : Nat) : Int) = k by omega] at g3
      rw [g3] at g2
      have g4 := H.truth (decide (k - 1 ≤ (a : Int) + e))
      refine wxs_ok _ _ ⟨_, g1, _, g2, ?_⟩
      cases hq : decide (k - 1 ≤ (a : Int) + e) with
      | true => rw [hq] at g4; exact ⟨_, g4, _, _, _, _, _, _, _, rfl⟩
      | false => rw [hq] at g4; exact ⟨_, g4, _, _, _, _, _, _, _, rfl⟩
    · rintro g ⟨t6, t7, t8, t9, t10, t11, t12, rfl⟩
      have z1 : lstV 8 d1 = d1 := if_pos (by omega)
      have z2 : lstV 8 d2 = d2 := if_pos (by omega)
      rw [z1, z2]
      exact ⟨_, _, _, _, _, _, _, rfl⟩
  rintro _ ⟨t6, t7, t8, t9, t10, t11, t12, rfl⟩
  refine wxs_ok _ _ ⟨(show rngP ((2 : Nat) : Int) from by omega), ?_⟩
  refine forW_rng (lo := 0) (hi := ((2 : Nat) : Int)) (fun j g => ∃ t7, g = pre ++ [.lst true [I' d1, I' d2], t6, t7, t8, t9, t10, t11, t12]) (by omega) ⟨t7, rfl⟩ ?_ ?_
  · rintro j g hj0 hj1 ⟨t7, rfl⟩
    have : j = 0 ∨ j = 1 := by omega
    rcases this with rfl | rfl
    · exact wxs_ok _ _ ⟨_, rfl, _, rfl, _, rfl, _, rfl, _, H.cdue a l e false b1, _, rfl, _, H.whole d1, _, rfl⟩
    · exact wxs_ok _ _ ⟨_, rfl, _, rfl, _, rfl, _, rfl, _, H.cdue a l e true b2, _, rfl, _, H.whole d2, _, rfl⟩
  · rintro g ⟨t7, rfl⟩
    exact rfl
end Wh

namespace Wh
open PySem L2
theorem I'_idx {l : List Int} {P : Int → Prop} (hP : ∀ x ∈ l, P x) {i : Int} (h0 : 0 ≤ i) (h1 : i < l.length) : ∃ x, atI (l.map D.int) i = some (.int x) ∧ P x := by
  obtain ⟨x, e⟩ := atI_some (xs := l) h0 h1
  refine ⟨x, ?_, ?_⟩
  · unfold atI ixN at e ⊢
    rw [if_pos h0, if_pos h1] at e
    rw [if_pos h0, if_pos (by simpa using h1)]
    have e : l[i.toNat]? = some x := e
    show (l.map D.int)[i.toNat]? = _
    rw [List.getElem?_map, e]; rfl
  · unfold atI ixN at e
    rw [if_pos h0, if_pos h1] at e
    exact hP x (List.mem_of_getElem? e)
theorem nr_empty (k a l e : Int) (m f : Bool) : ((sumsV a l e m f).filter fun x => decide (k ≤ x)).isEmpty = nrV k a l e m f := by
  unfold nrV
  rw [Bool.eq_iff_iff, List.isEmpty_iff, List.filter_eq_nil_iff, decide_eq_true_eq]
  refine forall_congr' fun x => forall_congr' fun _ => ?_
  rw [decide_eq_true_eq]; omega
theorem greatR (cal : Cal) (H : C16 cal) (HD : ∀ a b c m, divOk m → DrawP m (cal 6 [purT a b c, I' m])) (HL : ∀ a l e m f, cal 17 [I' a, I' l, I' e, B' m, B' f] = .ok (.d (Ls (sumsV a l e m f))) [I' a, I' l, I' e, B' m, B' f])
    (pa pb pc : Int) : ∃ a b c, run1 cal fd__law_great_right [purT pa pb pc] = .ok (B' true) [purT a b c] := by
  refine run_ofP (P := fun co => ∃ a b c, co = .ok (B' true) [purT a b c]) rfl ?_
  obtain ⟨x, a1, b1, c1, hx0, hx1, e1⟩ := HD pa pb pc 3 (by decide)
  obtain ⟨mo, e2, hmo⟩ := I'_idx (l := [20, 10 ^ (9 : Int).toNat, 10 ^ (30 : Int).toNat]) (P := fun v => 0 < v ∧ v < 10000000000000000000000000000000000000000) (by
    intro v hv
    simp only [List.mem_cons, List.not_mem_nil, or_false] at hv
    rcases hv with rfl | rfl | rfl
    · decide
    · decide
    · decide) hx0 hx1
  obtain ⟨a, a2, b2, c2, ha0, ha1, e3⟩ := HD a1 b1 c1 (mo + 1) ⟨by omega, by omega⟩
  obtain ⟨l, a3, b3, c3, hl0, hl1, e4⟩ := HD a2 b2 c2 (mo + 1) ⟨by omega, by omega⟩
  obtain ⟨e, a4, b4, c4, he0, he1, e5⟩ := HD a3 b3 c3 (mo + 1) ⟨by omega, by omega⟩
  refine cut 2 (fun g => g = [purT a2 b2 c2, I' mo, I' a, .un, .un, .un, .un, .un, .un, .un, .un]) (wxs_ok _ _ ⟨by decide, by decide, _, e1, _, idx_l e2, _, e3, rfl⟩) ?_
  rintro _ rfl
  refine cut 2 (fun g => g = [purT a4 b4 c4, I' mo, I' a, I' l, I' e, .un, .un, .un, .un, .un, .un]) (wxs_ok _ _ ⟨_, e4, _, e5, rfl⟩) ?_
  rintro _ rfl
  let pre : List T := [purT a4 b4 c4, I' mo, I' a, I' l, I' e]
  let I : G → Prop := fun g => ∃ t5 t6 t7 t8 t9 t10, g = pre ++ [t5, t6, t7, t8, t9, t10]
  have bools : ∀ t ∈ [T.d (.bl false), .d (.bl true)], ∃ b, t = B' b := by
    intro t ht
    simp only [List.mem_cons, List.not_mem_nil, or_false] at ht
    rcases ht with rfl | rfl <;> exact ⟨_, rfl⟩
  refine cut 1 I (wxs_ok _ _ ?_) ?_
  · refine forW_mem (ts := [.d (.bl false), .d (.bl true)]) I ⟨_, _, _, _, _, _, rfl⟩ ?_ fun g h => h
    rintro t ht _ ⟨t5, t6, t7, t8, t9, t10, rfl⟩
    obtain ⟨m, rfl⟩ := bools t ht
    refine ⟨_, rfl, wxs_ok _ _ ?_⟩
    refine forW_mem (ts := [.d (.bl false), .d (.bl true)]) (fun g => ∃ t6 t7 t8 t9 t10, g = pre ++ [B' m, t6, t7, t8, t9, t10]) ⟨_, _, _, _, _, rfl⟩ ?_ (fun g ⟨t6, t7, t8, t9, t10, h⟩ => ⟨_, _, _, _, _, _, h⟩)
    rintro t ht _ ⟨t6, t7, t8, t9, t10, rfl⟩
    obtain ⟨f, rfl⟩ := bools t ht
    have hsl := sumsV_len a l e m f
    refine ⟨_, rfl, ?_⟩
    refine cut 1 (fun g => g = pre ++ [B' m, t6, B' f, .d (Ls (sumsV a l e m f)), t9, t10]) (wxs_ok _ _ ⟨_, HL a l e m f, rfl⟩) ?_
    rintro _ rfl
    refine cut 1 (fun g => g = pre ++ [B' m, t6, B' f, .d (Ls (sumsV a l e m f)), t9, t10]) (wxs_ok _ _ ?_) ?_
    · refine ⟨_, H.cdue a l e m f, ?_⟩
      refine lcW_map (fun t => match t with | .d (.int i) => .int (i + 1) | _ => .non) (by simp; omega) rfl ?_ ?_
      · intro t ht
        simp only [List.map_map, List.mem_map, Function.comp_def] at ht
        obtain ⟨i, hi, rfl⟩ := ht
        exact ⟨_, rfl, rfl, rfl, rfl⟩
      · have hs : sizeLine = 16777216 := rfl
        have z := maxl_int (o := false) (dueV_is a l e m f)
        refine ⟨?_, .d (.int (dueV a l e m f)), ?_, _, H.whole _, rfl⟩
        · refine (?_ : 3 + _ ≤ _)
          simp only [List.length_map]; omega
        · have : ((((sumsV a l e m f).map D.int).map T.d).map fun t => match t with | .d (.int i) => D.int (i + 1) | _ => .non) = ((sumsV a l e m f).map (1 + ·)).map D.int := by
            simp only [List.map_map, Function.comp_def]
            apply List.map_congr_left
            intro i _
            show D.int (i + 1) = D.int (1 + i)
            rw [Int.add_comm]
          rw [this]
          refine (?_ : biT .maxl false [.d (.lst ([.int (1 + a), .int l, .int e] ++ ((sumsV a l e m f).map (1 + ·)).map D.int))] = _)
          have e9 : ([.int (1 + a), .int l, .int e] ++ ((sumsV a l e m f).map (1 + ·)).map D.int) = (dueL a l e m f).map D.int := by
            unfold dueL; simp
          rw [e9]
          exact z
    rintro _ rfl
    refine wxs_ok _ _ ?_
    refine (?_ : (_ : Nat) ≤ sizeLine ∧ _)
    have hs : sizeLine = 16777216 := rfl
    refine ⟨?_, ?_⟩
    · refine (?_ : 2 + _ ≤ _)
      simp only [List.length_map]; omega
    refine lcW_map (fun t => match t with | .d (.int i) => .int (i + 1) | _ => .non) (by simp; omega) rfl ?_ ?_
    · intro t ht
      simp only [List.map_map, List.mem_map, Function.comp_def] at ht
      obtain ⟨i, hi, rfl⟩ := ht
      exact ⟨_, rfl, rfl, rfl, rfl⟩
    · refine ⟨?_, ?_⟩
      · simp only [List.length_append, List.length_map, List.length_cons, List.length_nil]; omega
      refine forW_mem (fun g => ∃ t6 t9 t10, g = pre ++ [B' m, t6, B' f, .d (Ls (sumsV a l e m f)), t9, t10]) ⟨_, _, _, rfl⟩ ?_ (fun g ⟨t6, t9, t10, h⟩ => ⟨_, _, _, _, _, h⟩)
      rintro t ht _ ⟨t6, t9, t10, rfl⟩
      have : ∃ k, t = I' k := by
        simp only [List.map_append, List.map_map, List.mem_append, List.mem_map, Function.comp_def, List.map_cons, List.map_nil, List.mem_cons, List.not_mem_nil, or_false] at ht
        rcases ht with ((rfl | rfl) | ⟨i, _, rfl⟩) | ⟨i, _, rfl⟩
        · exact ⟨_, rfl⟩
        · exact ⟨_, rfl⟩
        · exact ⟨_, rfl⟩
        · exact ⟨_, rfl⟩
      obtain ⟨k, rfl⟩ := this
      refine ⟨_, rfl, ?_⟩
      refine cut 1 (fun g => g = pre ++ [B' m, I' k, B' f, .d (Ls (sumsV a l e m f)), B' (nrV k a l e m f), t10]) (wxs_ok _ _ ?_) ?_
      · refine lcW_data (fun t => match t with | .d (.int i) => decide (k ≤ i) | _ => false) (fun t => match t with | .d x => x | _ => .non) (by simp; omega) rfl ?_ ?_
        · intro t ht
          simp only [List.map_map, List.mem_map, Function.comp_def] at ht
          obtain ⟨i, hi, rfl⟩ := ht
          exact ⟨_, rfl, rfl, ⟨fun h => ⟨rfl, by simpa using h⟩, fun h => ⟨rfl, by simpa using h⟩⟩, fun _ => ⟨rfl, rfl⟩⟩
        · intro xs ex
          have : xs = ((sumsV a l e m f).filter fun x => decide (k ≤ x)).map D.int := by
            rw [ex, List.map_map, List.filter_map, List.map_map]; rfl
          subst this
          refine ⟨_, eq_nil _, ?_⟩
          rw [nr_empty]; exact rfl
      rintro _ rfl
      exact wxs_ok _ _ ⟨_, H.nright k a l e m f, _, H.truth _, _, _, _, rfl⟩
  rintro _ ⟨t5, t6, t7, t8, t9, t10, rfl⟩
  refine wxs_ok _ _ ?_
  refine forW_mem (fun g => ∃ t6, g = pre ++ [t5, t6, t7, t8, t9, t10]) ⟨_, rfl⟩ ?_ ?_
  · rintro t ht _ ⟨t6, rfl⟩
    have : ∃ k, t = I' k := by
      simp only [List.map_cons, List.map_nil, List.mem_cons, List.not_mem_nil, or_false] at ht
      rcases ht with rfl | rfl | rfl <;> exact ⟨_, rfl⟩
    obtain ⟨k, rfl⟩ := this
    have g4 := H.truth (decide (k - 1 ≤ a + e))
    have ed : decide (k ≤ a + e + 1) = decide (k - 1 ≤ a + e) := by
      by_cases h : k ≤ a + e + 1
      · rw [decide_eq_true h, decide_eq_true (by omega)]
      · rw [decide_eq_false h, decide_eq_false (by omega)]
    refine ⟨_, rfl, wxs_ok _ _ ⟨_, H.tight k a e, _, (show cmpop .le (.int k) (.int (a + e + 1)) = some (decide (k - 1 ≤ a + e)) by rw [← ed]; rfl), _, g4, _, rfl⟩⟩
  · rintro g ⟨t6, rfl⟩
    exact ⟨_, _, _, rfl⟩
theorem worldR (cal : Cal) (HD : ∀ a b c m, divOk m → DrawP m (cal 6 [purT a b c, I' m]))
    (HS : ∀ (a l e : Nat), a ≤ 3 → l ≤ 3 → e ≤ 3 → ∀ b1 b2 (low : Int), 0 ≤ low → cal 16 [I' a, I' l, I' e, kindsT' b1 b2, I' low] = .ok (B' true) [I' a, I' l, I' e, kindsT' b1 b2, I' low])
    (HG : ∀ a b c, ∃ a' b' c', cal 18 [purT a b c] = .ok (B' true) [purT a' b' c']) (pa pb pc : Int) : ∃ u, run1 cal fd__law_world_right [purT pa pb pc] = .ok (B' true) [u] := by
  refine run_ofP (P := fun co => ∃ u, co = .ok (B' true) [u]) rfl ?_
  obtain ⟨a, a1, b1, c1, ha0, ha1, e1⟩ := HD pa pb pc 4 (by decide)
  obtain ⟨l, a2, b2, c2, hl0, hl1, e2⟩ := HD a1 b1 c1 4 (by decide)
  obtain ⟨e, a3, b3, c3, he0, he1, e3⟩ := HD a2 b2 c2 4 (by decide)
  obtain ⟨low, a4, b4, c4, hw0, hw1, e4⟩ := HD a3 b3 c3 420 (by decide)
  obtain ⟨x, a5, b5, c5, hx0, hx1, e5⟩ := HD a4 b4 c4 3 (by decide)
  obtain ⟨y, a6, b6, c6, hy0, hy1, e6⟩ := HD a5 b5 c5 3 (by decide)
  refine cut 4 (fun g => g = [purT a4 b4 c4, I' a, I' l, I' e, I' low, .un]) (wxs_ok _ _ ⟨_, e1, _, e2, _, e3, _, e4, rfl⟩) ?_
  rintro _ rfl
  refine cut 1 (fun g => g = [purT a6 b6 c6, I' a, I' l, I' e, I' low, kindsT' (decide (0 < x)) (decide (0 < y))]) (wxs_ok _ _ ⟨_, e5, _, rfl, _, e6, _, rfl, rfl⟩) ?_
  rintro _ rfl
  have hs := HS a.toNat l.toNat e.toNat (by omega) (by omega) (by omega) (decide (0 < x)) (decide (0 < y)) low hw0
  rw [show ((a.toNat : Nat) : Int) = a by omega, show ((l.toNat : Nat) : Int) = l by omega, show ((e.toNat : Nat) : Int) = e by omega] at hs
  obtain ⟨a', b', c', hg⟩ := HG a6 b6 c6
  exact wxs_ok _ _ ⟨_, hs, _, hg, _, rfl⟩
theorem lawR (cal : Cal) (ns : List Int) (hl : ns.length ≤ 63) (HP : ∀ k, 0 ≤ k → k < 100 → PurP ns k (cal 5 [.scr ns, I' k])) (HW : ∀ a b c, ∃ u, cal 19 [purT a b c] = .ok (B' true) [u]) : ∃ as', run1 cal fd_law [.scr ns] = .ok (.d (.bl true)) as' := by
  refine run_ofP (P := fun co => ∃ as', co = .ok (.d (.bl true)) as') rfl (wxs_ok _ _ ?_)
  let z : Int := if (ns.length : Int) < 2 then (ns.length : Int) else 2
  let M : Int := if z > 1 then z else 1
  have hM : 1 ≤ M ∧ M ≤ 2 := by
    have e1 : z = if (ns.length : Int) < 2 then (ns.length : Int) else 2 := rfl
    have e2 : M = if z > 1 then z else 1 := rfl
    generalize z = z at e1 e2
    generalize M = M at e2 ⊢
    split at e1 <;> split at e2 <;> omega
  refine (?_ : rngP M ∧ _)
  refine ⟨by omega, ?_⟩
  refine forW_rng (lo := 0) (hi := M) (fun k g => ∃ t, g = [.scr ns, t]) (by omega) ⟨_, rfl⟩ ?_ ?_
  · rintro k g hk0 hk1 ⟨t, rfl⟩
    obtain ⟨a, b, c, e1⟩ := HP k hk0 (by omega)
    obtain ⟨u, e2⟩ := HW a b c
    exact wxs_ok _ _ ⟨_, e1, _, e2, _, rfl⟩
  · rintro g ⟨t, rfl⟩
    exact ⟨_, rfl⟩
theorem callD_ok {d f : Nat} {fd : FD} {as : List T} (h : fs[f]? = some fd) : callD fs (d + 1) f as = run1 (callD fs d) fd as := by
  show (match fs[f]? with
    | some fd => run1 (callD fs d) fd as
    | none => .bad) = _
  rw [h]
theorem k0 (d : Nat) (m f : Bool) : callD fs (d + 1) 0 [B' m, B' f] = .ok (.d (kindsD m f)) [B' m, B' f] := by
  rw [callD_ok (fd := fd_couples_of_kinds) rfl]; exact couples _ m f
theorem k1 (d : Nat) (a l e : Int) (m f : Bool) : callD fs (d + 2) 1 [I' a, I' l, I' e, B' m, B' f] = .ok (.d (Ls (sumsV a l e m f))) [I' a, I' l, I' e, B' m, B' f] := by
  rw [callD_ok (fd := fd_sums_that_matter) rfl]; exact sums _ (k0 d) a l e m f
theorem k6 (d : Nat) (a b c m : Int) (hm : divOk m) : DrawP m (callD fs (d + 1) 6 [purT a b c, I' m]) := by
  rw [callD_ok (fd := fd__law_draw) rfl]; exact draw _ a b c m hm
theorem k7 (d : Nat) (l : List Int) (hl : l.length ≤ 10) : callD fs (d + 1) 7 [.d (Ls l)] = .ok (.d (Rs (partsV l))) [.d (Ls l)] := by
  rw [callD_ok (fd := fd__law_parts) rfl]; exact parts _ l hl
theorem k8 (d : Nat) (ld : Int) (c : List Int) (fa fl fe : List (List Int)) (k : Kd3) : callD fs (d + 1) 8 [.d (seatD ld c fa fl fe), .d (K' k)] = .ok (.d (Rs (famV fa fl fe k))) [.d (seatD ld c fa fl fe), .d (K' k)] := by
  rw [callD_ok (fd := fd__law_family) rfl]; exact family _ ld c fa fl fe k
theorem k9 (d : Nat) (ld : Int) (c : List Int) (fa fl fe : List (List Int)) (k : Kd3) (sv : List Int) (hs : sv.length ≤ 100) : callD fs (d + 2) 9 [.d (seatD ld c fa fl fe), .d (K' k), .d (Ls sv)] = .ok (B' (silV (famV fa fl fe k) sv)) [.d (seatD ld c fa fl fe), .d (K' k), .d (Ls sv)] := by
  rw [callD_ok (fd := fd__law_silent) rfl]; exact silent _ ld c fa fl fe (k8 d ld c fa fl fe) k sv hs
theorem k10 (d : Nat) (m f : Bool) : callD fs (d + 1) 10 [B' m, B' f] = .ok (.d (kindsD m f)) [B' m, B' f] := by
  rw [callD_ok (fd := fd__law_kinds) rfl]; exact lkinds _ m f
theorem c16 (d : Nat) : C16 (callD fs (d + 3)) := by
  refine ⟨fun a l e m f => ?_, fun n a l e m f => ?_, fun n a e => ?_, fun b => ?_, fun i => ?_, fun ld c fa fl fe h1 h2 m f => ?_, fun ld c a l e h => ?_, fun ld c fa fl fe h => ?_⟩
  · rw [callD_ok (fd := fd_copies_due) rfl]; exact cdue _ (k1 d) a l e m f
  · rw [callD_ok (fd := fd_numbers_right) rfl]; exact nright _ (k1 d) n a l e m f
  · rw [callD_ok (fd := fd_tight_numbers) rfl]; exact tightD _ n a e
  · rw [callD_ok (fd := fd__law_truth) rfl]; exact truth _ b
  · rw [callD_ok (fd := fd__law_whole) rfl]; exact whole _ i
  · rw [callD_ok (fd := fd__law_couple) rfl]; exact couple _ ld c fa fl fe h1 h2 (k8 (d + 1) ld c fa fl fe) (k10 (d + 1)) m f
  · rw [callD_ok (fd := fd__law_by_sizes) rfl]; exact bySizes _ (k7 (d + 1)) ld c h a l e
  · rw [callD_ok (fd := fd__law_is_loose) rfl]; exact loose _ ld c fa fl fe h (k7 (d + 1)) (k9 d ld c fa fl fe)
theorem law_main (ns : List Int) (hl : ns.length ≤ 63) : ∃ as', callD fs 9 20 [.scr ns] = .ok (.d (.bl true)) as' := by
  rw [callD_ok (fd := fd_law) rfl]
  refine lawR _ ns hl (fun k h0 h1 => ?_) fun a b c => ?_
  · rw [callD_ok (fd := fd__law_purse) rfl]; exact purse _ ns hl k ⟨h0, h1⟩
  · rw [callD_ok (fd := fd__law_world_right) rfl]
    refine worldR _ (k6 _) (fun a l e ha hl he b1 b2 low hw => ?_) (fun a b c => ?_) a b c
    · rw [callD_ok (fd := fd__law_sets_right) rfl]; exact setsR _ (c16 3) a l e ha hl he b1 b2 low hw
    · rw [callD_ok (fd := fd__law_great_right) rfl]
      exact greatR _ (c16 3) (k6 _) (fun a l e m f => by rw [callD_ok (fd := fd__law_sums) rfl]; exact lsums _ a l e m f) a b c
end Wh


namespace Wh
open PySem L2 PySem.Spec PyProof.Rows
theorem top_mk {P : Program} {w : World} {K : PySem.W.Frag} {h : Heap} {mg : Str → Option Value} (X : K.In h) (Gm : h.Ns mainGlobals mg) {f0 f1 f2 f3 f4 f5 f6 f7 f8 f9 f10 f11 f12 f13 f14 f15 f16 f17 f18 f19 f20 : Addr} {oc0 kV0 dc0 pm0 cd0 ct0 oc1 kV1 dc1 pm1 cd1 ct1 oc2 kV2 dc2 pm2 cd2 ct2 oc3 kV3 dc3 pm3 cd3 ct3 oc4 kV4 dc4 pm4 cd4 ct4 oc5 kV5 dc5 pm5 cd5 ct5 oc6 kV6 dc6 pm6 cd6 ct6 oc7 kV7 dc7 pm7 cd7 ct7 oc8 kV8 dc8 pm8 cd8 ct8 oc9 kV9 dc9 pm9 cd9 ct9 oc10 kV10 dc10 pm10 cd10 ct10 oc11 kV11 dc11 pm11 cd11 ct11 oc12 kV12 dc12 pm12 cd12 ct12 oc13 kV13 dc13 pm13 cd13 ct13 oc14 kV14 dc14 pm14 cd14 ct14 oc15 kV15 dc15 pm15 cd15 ct15 oc16 kV16 dc16 pm16 cd16 ct16 oc17 kV17 dc17 pm17 cd17 ct17 oc18 kV18 dc18 pm18 cd18 ct18 oc19 kV19 dc19 pm19 cd19 ct19 oc20 kV20 dc20 pm20 cd20 ct20 : Value} {od0 an0 od1 an1 od2 an2 od3 an3 od4 an4 od5 an5 od6 an6 od7 an7 od8 an8 od9 an9 od10 an10 od11 an11 od12 an12 od13 an13 od14 an14 od15 an15 od16 an16 od17 an17 od18 an18 od19 an19 od20 an20 : Option Addr} {sl0 sl1 sl2 sl3 sl4 sl5 sl6 sl7 sl8 sl9 sl10 sl11 sl12 sl13 sl14 sl15 sl16 sl17 sl18 sl19 sl20 : Array (Option Value)}
    (n0 : PySem.W.nsIn K mainGlobals (Str.ofString "couples_of_kinds") = some (some (.ref f0)))
    (l0 : K.lookup f0 = some ⟨oc0, od0, .func (PySem.W.fnOf (Str.ofString "couples_of_kinds") (Str.ofString "couples_of_kinds") (defArgs (topD 1)) (defBody (topD 1)) (defScope (topD 1)) .none kV0 dc0 pm0 an0 cd0 ct0), sl0⟩)
    (c0 : PySem.W.codeIn K cd0 (Str.ofString "couples_of_kinds") = true)
    (k0 : PySem.W.keepIn K (.ref f0) = true)
    (n1 : PySem.W.nsIn K mainGlobals (Str.ofString "sums_that_matter") = some (some (.ref f1)))
    (l1 : K.lookup f1 = some ⟨oc1, od1, .func (PySem.W.fnOf (Str.ofString "sums_that_matter") (Str.ofString "sums_that_matter") (defArgs (topD 3)) (defBody (topD 3)) (defScope (topD 3)) .none kV1 dc1 pm1 an1 cd1 ct1), sl1⟩)
    (c1 : PySem.W.codeIn K cd1 (Str.ofString "sums_that_matter") = true)
    (k1 : PySem.W.keepIn K (.ref f1) = true)
    (n2 : PySem.W.nsIn K mainGlobals (Str.ofString "copies_due") = some (some (.ref f2)))
    (l2 : K.lookup f2 = some ⟨oc2, od2, .func (PySem.W.fnOf (Str.ofString "copies_due") (Str.ofString "copies_due") (defArgs (topD 4)) (defBody (topD 4)) (defScope (topD 4)) .none kV2 dc2 pm2 an2 cd2 ct2), sl2⟩)
    (c2 : PySem.W.codeIn K cd2 (Str.ofString "copies_due") = true)
    (k2 : PySem.W.keepIn K (.ref f2) = true)
    (n3 : PySem.W.nsIn K mainGlobals (Str.ofString "numbers_right") = some (some (.ref f3)))
    (l3 : K.lookup f3 = some ⟨oc3, od3, .func (PySem.W.fnOf (Str.ofString "numbers_right") (Str.ofString "numbers_right") (defArgs (topD 5)) (defBody (topD 5)) (defScope (topD 5)) .none kV3 dc3 pm3 an3 cd3 ct3), sl3⟩)
    (c3 : PySem.W.codeIn K cd3 (Str.ofString "numbers_right") = true)
    (k3 : PySem.W.keepIn K (.ref f3) = true)
    (n4 : PySem.W.nsIn K mainGlobals (Str.ofString "tight_numbers") = some (some (.ref f4)))
    (l4 : K.lookup f4 = some ⟨oc4, od4, .func (PySem.W.fnOf (Str.ofString "tight_numbers") (Str.ofString "tight_numbers") (defArgs (topD 6)) (defBody (topD 6)) (defScope (topD 6)) .none kV4 dc4 pm4 an4 cd4 ct4), sl4⟩)
    (c4 : PySem.W.codeIn K cd4 (Str.ofString "tight_numbers") = true)
    (k4 : PySem.W.keepIn K (.ref f4) = true)
    (n5 : PySem.W.nsIn K mainGlobals (Str.ofString "_law_purse") = some (some (.ref f5)))
    (l5 : K.lookup f5 = some ⟨oc5, od5, .func (PySem.W.fnOf (Str.ofString "_law_purse") (Str.ofString "_law_purse") (defArgs (topD 8)) (defBody (topD 8)) (defScope (topD 8)) .none kV5 dc5 pm5 an5 cd5 ct5), sl5⟩)
    (c5 : PySem.W.codeIn K cd5 (Str.ofString "_law_purse") = true)
    (k5 : PySem.W.keepIn K (.ref f5) = true)
    (n6 : PySem.W.nsIn K mainGlobals (Str.ofString "_law_draw") = some (some (.ref f6)))
    (l6 : K.lookup f6 = some ⟨oc6, od6, .func (PySem.W.fnOf (Str.ofString "_law_draw") (Str.ofString "_law_draw") (defArgs (topD 9)) (defBody (topD 9)) (defScope (topD 9)) .none kV6 dc6 pm6 an6 cd6 ct6), sl6⟩)
    (c6 : PySem.W.codeIn K cd6 (Str.ofString "_law_draw") = true)
    (k6 : PySem.W.keepIn K (.ref f6) = true)
    (n7 : PySem.W.nsIn K mainGlobals (Str.ofString "_law_parts") = some (some (.ref f7)))
    (l7 : K.lookup f7 = some ⟨oc7, od7, .func (PySem.W.fnOf (Str.ofString "_law_parts") (Str.ofString "_law_parts") (defArgs (topD 10)) (defBody (topD 10)) (defScope (topD 10)) .none kV7 dc7 pm7 an7 cd7 ct7), sl7⟩)
    (c7 : PySem.W.codeIn K cd7 (Str.ofString "_law_parts") = true)
    (k7 : PySem.W.keepIn K (.ref f7) = true)
    (n8 : PySem.W.nsIn K mainGlobals (Str.ofString "_law_family") = some (some (.ref f8)))
    (l8 : K.lookup f8 = some ⟨oc8, od8, .func (PySem.W.fnOf (Str.ofString "_law_family") (Str.ofString "_law_family") (defArgs (topD 11)) (defBody (topD 11)) (defScope (topD 11)) .none kV8 dc8 pm8 an8 cd8 ct8), sl8⟩)
    (c8 : PySem.W.codeIn K cd8 (Str.ofString "_law_family") = true)
    (k8 : PySem.W.keepIn K (.ref f8) = true)
    (n9 : PySem.W.nsIn K mainGlobals (Str.ofString "_law_silent") = some (some (.ref f9)))
    (l9 : K.lookup f9 = some ⟨oc9, od9, .func (PySem.W.fnOf (Str.ofString "_law_silent") (Str.ofString "_law_silent") (defArgs (topD 12)) (defBody (topD 12)) (defScope (topD 12)) .none kV9 dc9 pm9 an9 cd9 ct9), sl9⟩)
    (c9 : PySem.W.codeIn K cd9 (Str.ofString "_law_silent") = true)
    (k9 : PySem.W.keepIn K (.ref f9) = true)
    (n10 : PySem.W.nsIn K mainGlobals (Str.ofString "_law_kinds") = some (some (.ref f10)))
    (l10 : K.lookup f10 = some ⟨oc10, od10, .func (PySem.W.fnOf (Str.ofString "_law_kinds") (Str.ofString "_law_kinds") (defArgs (topD 13)) (defBody (topD 13)) (defScope (topD 13)) .none kV10 dc10 pm10 an10 cd10 ct10), sl10⟩)
    (c10 : PySem.W.codeIn K cd10 (Str.ofString "_law_kinds") = true)
    (k10 : PySem.W.keepIn K (.ref f10) = true)
    (n11 : PySem.W.nsIn K mainGlobals (Str.ofString "_law_couple") = some (some (.ref f11)))
    (l11 : K.lookup f11 = some ⟨oc11, od11, .func (PySem.W.fnOf (Str.ofString "_law_couple") (Str.ofString "_law_couple") (defArgs (topD 14)) (defBody (topD 14)) (defScope (topD 14)) .none kV11 dc11 pm11 an11 cd11 ct11), sl11⟩)
    (c11 : PySem.W.codeIn K cd11 (Str.ofString "_law_couple") = true)
    (k11 : PySem.W.keepIn K (.ref f11) = true)
    (n12 : PySem.W.nsIn K mainGlobals (Str.ofString "_law_by_sizes") = some (some (.ref f12)))
    (l12 : K.lookup f12 = some ⟨oc12, od12, .func (PySem.W.fnOf (Str.ofString "_law_by_sizes") (Str.ofString "_law_by_sizes") (defArgs (topD 15)) (defBody (topD 15)) (defScope (topD 15)) .none kV12 dc12 pm12 an12 cd12 ct12), sl12⟩)
    (c12 : PySem.W.codeIn K cd12 (Str.ofString "_law_by_sizes") = true)
    (k12 : PySem.W.keepIn K (.ref f12) = true)
    (n13 : PySem.W.nsIn K mainGlobals (Str.ofString "_law_is_loose") = some (some (.ref f13)))
    (l13 : K.lookup f13 = some ⟨oc13, od13, .func (PySem.W.fnOf (Str.ofString "_law_is_loose") (Str.ofString "_law_is_loose") (defArgs (topD 16)) (defBody (topD 16)) (defScope (topD 16)) .none kV13 dc13 pm13 an13 cd13 ct13), sl13⟩)
    (c13 : PySem.W.codeIn K cd13 (Str.ofString "_law_is_loose") = true)
    (k13 : PySem.W.keepIn K (.ref f13) = true)
    (n14 : PySem.W.nsIn K mainGlobals (Str.ofString "_law_truth") = some (some (.ref f14)))
    (l14 : K.lookup f14 = some ⟨oc14, od14, .func (PySem.W.fnOf (Str.ofString "_law_truth") (Str.ofString "_law_truth") (defArgs (topD 17)) (defBody (topD 17)) (defScope (topD 17)) .none kV14 dc14 pm14 an14 cd14 ct14), sl14⟩)
    (c14 : PySem.W.codeIn K cd14 (Str.ofString "_law_truth") = true)
    (k14 : PySem.W.keepIn K (.ref f14) = true)
    (n15 : PySem.W.nsIn K mainGlobals (Str.ofString "_law_whole") = some (some (.ref f15)))
    (l15 : K.lookup f15 = some ⟨oc15, od15, .func (PySem.W.fnOf (Str.ofString "_law_whole") (Str.ofString "_law_whole") (defArgs (topD 18)) (defBody (topD 18)) (defScope (topD 18)) .none kV15 dc15 pm15 an15 cd15 ct15), sl15⟩)
    (c15 : PySem.W.codeIn K cd15 (Str.ofString "_law_whole") = true)
    (k15 : PySem.W.keepIn K (.ref f15) = true)
    (n16 : PySem.W.nsIn K mainGlobals (Str.ofString "_law_sets_right") = some (some (.ref f16)))
    (l16 : K.lookup f16 = some ⟨oc16, od16, .func (PySem.W.fnOf (Str.ofString "_law_sets_right") (Str.ofString "_law_sets_right") (defArgs (topD 19)) (defBody (topD 19)) (defScope (topD 19)) .none kV16 dc16 pm16 an16 cd16 ct16), sl16⟩)
    (c16 : PySem.W.codeIn K cd16 (Str.ofString "_law_sets_right") = true)
    (k16 : PySem.W.keepIn K (.ref f16) = true)
    (n17 : PySem.W.nsIn K mainGlobals (Str.ofString "_law_sums") = some (some (.ref f17)))
    (l17 : K.lookup f17 = some ⟨oc17, od17, .func (PySem.W.fnOf (Str.ofString "_law_sums") (Str.ofString "_law_sums") (defArgs (topD 20)) (defBody (topD 20)) (defScope (topD 20)) .none kV17 dc17 pm17 an17 cd17 ct17), sl17⟩)
    (c17 : PySem.W.codeIn K cd17 (Str.ofString "_law_sums") = true)
    (k17 : PySem.W.keepIn K (.ref f17) = true)
    (n18 : PySem.W.nsIn K mainGlobals (Str.ofString "_law_great_right") = some (some (.ref f18)))
    (l18 : K.lookup f18 = some ⟨oc18, od18, .func (PySem.W.fnOf (Str.ofString "_law_great_right") (Str.ofString "_law_great_right") (defArgs (topD 21)) (defBody (topD 21)) (defScope (topD 21)) .none kV18 dc18 pm18 an18 cd18 ct18), sl18⟩)
    (c18 : PySem.W.codeIn K cd18 (Str.ofString "_law_great_right") = true)
    (k18 : PySem.W.keepIn K (.ref f18) = true)
    (n19 : PySem.W.nsIn K mainGlobals (Str.ofString "_law_world_right") = some (some (.ref f19)))
    (l19 : K.lookup f19 = some ⟨oc19, od19, .func (PySem.W.fnOf (Str.ofString "_law_world_right") (Str.ofString "_law_world_right") (defArgs (topD 22)) (defBody (topD 22)) (defScope (topD 22)) .none kV19 dc19 pm19 an19 cd19 ct19), sl19⟩)
    (c19 : PySem.W.codeIn K cd19 (Str.ofString "_law_world_right") = true)
    (k19 : PySem.W.keepIn K (.ref f19) = true)
    (n20 : PySem.W.nsIn K mainGlobals (Str.ofString "law") = some (some (.ref f20)))
    (l20 : K.lookup f20 = some ⟨oc20, od20, .func (PySem.W.fnOf (Str.ofString "law") (Str.ofString "law") (defArgs (topD 23)) (defBody (topD 23)) (defScope (topD 23)) .none kV20 dc20 pm20 an20 cd20 ct20), sl20⟩)
    (c20 : PySem.W.codeIn K cd20 (Str.ofString "law") = true)
    (k20 : PySem.W.keepIn K (.ref f20) = true)
    (cn : PySem.W.specialIn K (.builtin "object.__class__") "__get__" = some (some (.builtin "getset_descriptor.__get__")))
    (ct : PySem.W.takesIn K (.builtin "object.__class__") = some true)
    (z0 : PySem.W.nsIn K mainGlobals (Str.ofString "len") = some none)
    (z1 : PySem.W.nsIn K mainGlobals (Str.ofString "int") = some none)
    (z2 : PySem.W.nsIn K mainGlobals (Str.ofString "abs") = some none)
    (z3 : PySem.W.nsIn K mainGlobals (Str.ofString "max") = some none)
    (z4 : PySem.W.nsIn K mainGlobals (Str.ofString "min") = some none)
    (z5 : PySem.W.nsIn K mainGlobals (Str.ofString "sum") = some none)
    (z6 : PySem.W.nsIn K mainGlobals (Str.ofString "sorted") = some none)
    (z7 : PySem.W.nsIn K mainGlobals (Str.ofString "list") = some none)
    (z8 : PySem.W.nsIn K mainGlobals (Str.ofString "all") = some none)
    (z9 : PySem.W.nsIn K mainGlobals (Str.ofString "any") = some none)
    (z10 : PySem.W.nsIn K mainGlobals (Str.ofString "isinstance") = some none)
    (z11 : PySem.W.nsIn K mainGlobals (Str.ofString "range") = some none)
    (z12 : PySem.W.nsIn K mainGlobals (Str.ofString "bool") = some none)
    (z13 : PySem.W.nsIn K mainGlobals (Str.ofString "str") = some none)
    (z14 : PySem.W.nsIn K mainGlobals (Str.ofString "tuple") = some none)
    (z15 : PySem.W.nsIn K mainGlobals (Str.ofString "ValueError") = some none)
    : (∀ base : Heap, TopOk P w K mg base (zOf K []) gs fs) ∧ LawOk K mg gs fd_law (Str.ofString "law") := by
  refine ⟨fun base => ?_, ⟨f20, _, PySem.W.mg_of X Gm n20, ⟨_, _, _, _, _, _, _, _, _, _, _, _, _, _, _, nm_law, rfl, l20, c20, sc_law, rfl, rfl, by decide +kernel, ck_law⟩, fun s u => .of_eq rfl⟩⟩
  refine ⟨rfl, rfl, fun x i q => ?_, fun x d q => ?_, fun x hx => ?_, fun x c q => ?_, fun c x q => ?_, fun x c q f hf => ?_, fun x c ns q => ?_, fun c1 c2 h1 h2 => ?_, fun c x q => ?_⟩
  · skip
    rcases lk_cons q with ⟨hx, hy⟩ | q
    · cases hx; cases hy; obtain ⟨fdata, ps, z1, z2⟩ := df_couples_of_kinds l0 c0 k0; exact ⟨_, f0, fdata, ps, rfl, PySem.W.mg_of X Gm n0, k0, z1, z2⟩
    rcases lk_cons q with ⟨hx, hy⟩ | q
    · cases hx; cases hy; obtain ⟨fdata, ps, z1, z2⟩ := df_sums_that_matter l1 c1 k1; exact ⟨_, f1, fdata, ps, rfl, PySem.W.mg_of X Gm n1, k1, z1, z2⟩
    rcases lk_cons q with ⟨hx, hy⟩ | q
    · cases hx; cases hy; obtain ⟨fdata, ps, z1, z2⟩ := df_copies_due l2 c2 k2; exact ⟨_, f2, fdata, ps, rfl, PySem.W.mg_of X Gm n2, k2, z1, z2⟩
    rcases lk_cons q with ⟨hx, hy⟩ | q
    · cases hx; cases hy; obtain ⟨fdata, ps, z1, z2⟩ := df_numbers_right l3 c3 k3; exact ⟨_, f3, fdata, ps, rfl, PySem.W.mg_of X Gm n3, k3, z1, z2⟩
    rcases lk_cons q with ⟨hx, hy⟩ | q
    · cases hx; cases hy; obtain ⟨fdata, ps, z1, z2⟩ := df_tight_numbers l4 c4 k4; exact ⟨_, f4, fdata, ps, rfl, PySem.W.mg_of X Gm n4, k4, z1, z2⟩
    rcases lk_cons q with ⟨hx, hy⟩ | q
    · cases hx; cases hy; obtain ⟨fdata, ps, z1, z2⟩ := df__law_purse l5 c5 k5; exact ⟨_, f5, fdata, ps, rfl, PySem.W.mg_of X Gm n5, k5, z1, z2⟩
    rcases lk_cons q with ⟨hx, hy⟩ | q
    · cases hx; cases hy; obtain ⟨fdata, ps, z1, z2⟩ := df__law_draw l6 c6 k6; exact ⟨_, f6, fdata, ps, rfl, PySem.W.mg_of X Gm n6, k6, z1, z2⟩
    rcases lk_cons q with ⟨hx, hy⟩ | q
    · cases hx; cases hy; obtain ⟨fdata, ps, z1, z2⟩ := df__law_parts l7 c7 k7; exact ⟨_, f7, fdata, ps, rfl, PySem.W.mg_of X Gm n7, k7, z1, z2⟩
    rcases lk_cons q with ⟨hx, hy⟩ | q
    · cases hx; cases hy; obtain ⟨fdata, ps, z1, z2⟩ := df__law_family l8 c8 k8; exact ⟨_, f8, fdata, ps, rfl, PySem.W.mg_of X Gm n8, k8, z1, z2⟩
    rcases lk_cons q with ⟨hx, hy⟩ | q
    · cases hx; cases hy; obtain ⟨fdata, ps, z1, z2⟩ := df__law_silent l9 c9 k9; exact ⟨_, f9, fdata, ps, rfl, PySem.W.mg_of X Gm n9, k9, z1, z2⟩
    rcases lk_cons q with ⟨hx, hy⟩ | q
    · cases hx; cases hy; obtain ⟨fdata, ps, z1, z2⟩ := df__law_kinds l10 c10 k10; exact ⟨_, f10, fdata, ps, rfl, PySem.W.mg_of X Gm n10, k10, z1, z2⟩
    rcases lk_cons q with ⟨hx, hy⟩ | q
    · cases hx; cases hy; obtain ⟨fdata, ps, z1, z2⟩ := df__law_couple l11 c11 k11; exact ⟨_, f11, fdata, ps, rfl, PySem.W.mg_of X Gm n11, k11, z1, z2⟩
    rcases lk_cons q with ⟨hx, hy⟩ | q
    · cases hx; cases hy; obtain ⟨fdata, ps, z1, z2⟩ := df__law_by_sizes l12 c12 k12; exact ⟨_, f12, fdata, ps, rfl, PySem.W.mg_of X Gm n12, k12, z1, z2⟩
    rcases lk_cons q with ⟨hx, hy⟩ | q
    · cases hx; cases hy; obtain ⟨fdata, ps, z1, z2⟩ := df__law_is_loose l13 c13 k13; exact ⟨_, f13, fdata, ps, rfl, PySem.W.mg_of X Gm n13, k13, z1, z2⟩
    rcases lk_cons q with ⟨hx, hy⟩ | q
    · cases hx; cases hy; obtain ⟨fdata, ps, z1, z2⟩ := df__law_truth l14 c14 k14; exact ⟨_, f14, fdata, ps, rfl, PySem.W.mg_of X Gm n14, k14, z1, z2⟩
    rcases lk_cons q with ⟨hx, hy⟩ | q
    · cases hx; cases hy; obtain ⟨fdata, ps, z1, z2⟩ := df__law_whole l15 c15 k15; exact ⟨_, f15, fdata, ps, rfl, PySem.W.mg_of X Gm n15, k15, z1, z2⟩
    rcases lk_cons q with ⟨hx, hy⟩ | q
    · cases hx; cases hy; obtain ⟨fdata, ps, z1, z2⟩ := df__law_sets_right l16 c16 k16; exact ⟨_, f16, fdata, ps, rfl, PySem.W.mg_of X Gm n16, k16, z1, z2⟩
    rcases lk_cons q with ⟨hx, hy⟩ | q
    · cases hx; cases hy; obtain ⟨fdata, ps, z1, z2⟩ := df__law_sums l17 c17 k17; exact ⟨_, f17, fdata, ps, rfl, PySem.W.mg_of X Gm n17, k17, z1, z2⟩
    rcases lk_cons q with ⟨hx, hy⟩ | q
    · cases hx; cases hy; obtain ⟨fdata, ps, z1, z2⟩ := df__law_great_right l18 c18 k18; exact ⟨_, f18, fdata, ps, rfl, PySem.W.mg_of X Gm n18, k18, z1, z2⟩
    rcases lk_cons q with ⟨hx, hy⟩ | q
    · cases hx; cases hy; obtain ⟨fdata, ps, z1, z2⟩ := df__law_world_right l19 c19 k19; exact ⟨_, f19, fdata, ps, rfl, PySem.W.mg_of X Gm n19, k19, z1, z2⟩
    rcases lk_cons q with ⟨hx, hy⟩ | q
    · cases hx; cases hy; obtain ⟨fdata, ps, z1, z2⟩ := df_law l20 c20 k20; exact ⟨_, f20, fdata, ps, rfl, PySem.W.mg_of X Gm n20, k20, z1, z2⟩
    exact lk_nil q
  · skip
    exact lk_nil q
  · skip
    rcases mem_c hx with rfl | hx
    · exact PySem.W.mg_none_of X Gm z0
    rcases mem_c hx with rfl | hx
    · exact PySem.W.mg_none_of X Gm z1
    rcases mem_c hx with rfl | hx
    · exact PySem.W.mg_none_of X Gm z2
    rcases mem_c hx with rfl | hx
    · exact PySem.W.mg_none_of X Gm z3
    rcases mem_c hx with rfl | hx
    · exact PySem.W.mg_none_of X Gm z4
    rcases mem_c hx with rfl | hx
    · exact PySem.W.mg_none_of X Gm z5
    rcases mem_c hx with rfl | hx
    · exact PySem.W.mg_none_of X Gm z6
    rcases mem_c hx with rfl | hx
    · exact PySem.W.mg_none_of X Gm z7
    rcases mem_c hx with rfl | hx
    · exact PySem.W.mg_none_of X Gm z8
    rcases mem_c hx with rfl | hx
    · exact PySem.W.mg_none_of X Gm z9
    rcases mem_c hx with rfl | hx
    · exact PySem.W.mg_none_of X Gm z10
    rcases mem_c hx with rfl | hx
    · exact PySem.W.mg_none_of X Gm z11
    rcases mem_c hx with rfl | hx
    · exact PySem.W.mg_none_of X Gm z12
    rcases mem_c hx with rfl | hx
    · exact PySem.W.mg_none_of X Gm z13
    rcases mem_c hx with rfl | hx
    · exact PySem.W.mg_none_of X Gm z14
    rcases mem_c hx with rfl | hx
    · exact PySem.W.mg_none_of X Gm z15
    exact mem_n hx
  · skip
    exact lk_nil q
  · skip
    exact lk_nil q
  · skip
    exact lk_nil q
  · skip
    exact lk_nil q
  · skip
    exact absurd h1 (Nat.not_lt_zero _)
  · skip
    exact lk_nil q
end Wh

open PySem L2 PySem.Spec PyProof.Rows
theorem PySem.Challenge.cw_whereheld_k16_whole_numbers_against_all_holds : PySem.Challenge.rw_whereheld_k16_whole_numbers_against_all.Holds := by
  w_on; o_law; k_head; (case hw => w_witness2)
  k_fill
  refine Wh.walk (l := PySem.Challenge.rw_whereheld_k16_whole_numbers_against_all) (names := []) (G := Wh.gs) (fs := Wh.fs) (fd := Wh.fd_law) (d := 8) (i := 20) rfl rfl ⟨rfl, by decide, by decide⟩ (fun w h Y => PySem.W.kIn_of Y) rfl ?T Wh.law_main
  case T =>
    intro w mg h KX G
    refine' Wh.top_mk KX G ?n0 ?l0 ?c0 ?k0 ?n1 ?l1 ?c1 ?k1 ?n2 ?l2 ?c2 ?k2 ?n3 ?l3 ?c3 ?k3 ?n4 ?l4 ?c4 ?k4 ?n5 ?l5 ?c5 ?k5 ?n6 ?l6 ?c6 ?k6 ?n7 ?l7 ?c7 ?k7 ?n8 ?l8 ?c8 ?k8 ?n9 ?l9 ?c9 ?k9 ?n10 ?l10 ?c10 ?k10 ?n11 ?l11 ?c11 ?k11 ?n12 ?l12 ?c12 ?k12 ?n13 ?l13 ?c13 ?k13 ?n14 ?l14 ?c14 ?k14 ?n15 ?l15 ?c15 ?k15 ?n16 ?l16 ?c16 ?k16 ?n17 ?l17 ?c17 ?k17 ?n18 ?l18 ?c18 ?k18 ?n19 ?l19 ?c19 ?k19 ?n20 ?l20 ?c20 ?k20 ?cn ?ct ?z0 ?z1 ?z2 ?z3 ?z4 ?z5 ?z6 ?z7 ?z8 ?z9 ?z10 ?z11 ?z12 ?z13 ?z14 ?z15
    (case n0 => k_is)
    (case l0 => k_is)
    (case c0 => k_is)
    (case k0 => k_is)
    (case n1 => k_is)
    (case l1 => k_is)
    (case c1 => k_is)
    (case k1 => k_is)
    (case n2 => k_is)
    (case l2 => k_is)
    (case c2 => k_is)
    (case k2 => k_is)
    (case n3 => k_is)
    (case l3 => k_is)
    (case c3 => k_is)
    (case k3 => k_is)
    (case n4 => k_is)
    (case l4 => k_is)
    (case c4 => k_is)
    (case k4 => k_is)
    (case n5 => k_is)
    (case l5 => k_is)
    (case c5 => k_is)
    (case k5 => k_is)
    (case n6 => k_is)
    (case l6 => k_is)
    (case c6 => k_is)
    (case k6 => k_is)
    (case n7 => k_is)
    (case l7 => k_is)
    (case c7 => k_is)
    (case k7 => k_is)
    (case n8 => k_is)
    (case l8 => k_is)
    (case c8 => k_is)
    (case k8 => k_is)
    (case n9 => k_is)
    (case l9 => k_is)
    (case c9 => k_is)
    (case k9 => k_is)
    (case n10 => k_is)
    (case l10 => k_is)
    (case c10 => k_is)
    (case k10 => k_is)
    (case n11 => k_is)
    (case l11 => k_is)
    (case c11 => k_is)
    (case k11 => k_is)
    (case n12 => k_is)
    (case l12 => k_is)
    (case c12 => k_is)
    (case k12 => k_is)
    (case n13 => k_is)
    (case l13 => k_is)
    (case c13 => k_is)
    (case k13 => k_is)
    (case n14 => k_is)
    (case l14 => k_is)
    (case c14 => k_is)
    (case k14 => k_is)
    (case n15 => k_is)
    (case l15 => k_is)
    (case c15 => k_is)
    (case k15 => k_is)
    (case n16 => k_is)
    (case l16 => k_is)
    (case c16 => k_is)
    (case k16 => k_is)
    (case n17 => k_is)
    (case l17 => k_is)
    (case c17 => k_is)
    (case k17 => k_is)
    (case n18 => k_is)
    (case l18 => k_is)
    (case c18 => k_is)
    (case k18 => k_is)
    (case n19 => k_is)
    (case l19 => k_is)
    (case c19 => k_is)
    (case k19 => k_is)
    (case n20 => k_is)
    (case l20 => k_is)
    (case c20 => k_is)
    (case k20 => k_is)
    (case cn => k_is)
    (case ct => k_is)
    (case z0 => k_is)
    (case z1 => k_is)
    (case z2 => k_is)
    (case z3 => k_is)
    (case z4 => k_is)
    (case z5 => k_is)
    (case z6 => k_is)
    (case z7 => k_is)
    (case z8 => k_is)
    (case z9 => k_is)
    (case z10 => k_is)
    (case z11 => k_is)
    (case z12 => k_is)
    (case z13 => k_is)
    (case z14 => k_is)
    (case z15 => k_is)

