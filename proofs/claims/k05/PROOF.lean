import PyProof.Rows.All
import Wide.All
import OpenK.AllK
import Wide.FinOn
import HandS.ForMost
import HandS.Lambda
import HandS.Wide
import HandS.Flow
import HandS.Style
import HandS.Conv
import HandS.TupAny
import HandS.TupMul
import HandS.Exc
import HandS.ExcOwn
import HandS.Zip
import HandS.ExcField
import HandS.TryMany
import KE.OsGo
import KE.KExcInit
import KE.GoesEnum
import HandS.IsInst
import HandS.SortInts
import HandS.RaiseMore
import PyProof.ReprRoads
import HandS.Dict
import HandS.More
import HandS.Ends
import HandS.EndTab
import PySem.Challenge.RW_mirrorbook_k05_words_and_their_products
set_option Elab.async false
set_option maxRecDepth 100000
set_option maxHeartbeats 4000000
/-! Pv: Python values as plain data. D: frozen data; O: what a slot holds (frozen data, or an object of which this slot is the one owner). -/
namespace Pv
open PySem L2

inductive D where
  | non | bl (b : Bool) | int (i : Int) | str (s : Str)
  | tup (xs : List D) | lst (xs : List D) | dic (kvs : List (Key × D)) | ins (c : Str) (fs : List (Str × D)) | scr (ns : List Int) | fn (a : Addr) (F0 : Hp)

inductive O where
  | d (x : D) | lst (xs : List D) | dic (kvs : List (Key × D)) | ins (c : Str) (fs : List (Str × D)) | deck (m : Nat × Addr)

/-- frozen -/
def fz : O → D
  | .d x => x
  | .lst xs => .lst xs
  | .dic kvs => .dic kvs
  | .ins c fs => .ins c fs
  | .deck _ => .non

/-- what the text says: the written part, the classes' addresses -/
structure Gs where
  K : PySem.W.Frag
  cl : Str → Option Addr
  dl : Bool
  dc : Bool
  tb : List (Addr × Str)

theorem ne_mem {a p : Addr} {l : List Addr} (np : p ∉ l) (ha : a ∈ l) : a ≠ p := fun z => np (z ▸ ha)
/-- the heap grows -/
def Ex (H H' : Hp) : Prop := ∀ a o, H a = some o → H' a = some o
theorem Ex.refl (H : Hp) : Ex H H := fun _ _ h => h
theorem Ex.trans {H H1 H2 : Hp} (a : Ex H H1) (b : Ex H1 H2) : Ex H H2 := fun x o h => b x o (a x o h)
theorem Ex.new {H : Hp} {p : Addr} {o : HO} (h : H p = none) : Ex H (upd H p o) := fun a u e => by
  have : a ≠ p := by rintro rfl; rw [h] at e; cases e
  rw [upd_ne this]; exact e
theorem Ex.free {H H' : Hp} (e : Ex H H') {p : Addr} (h : H' p = none) : H p = none := by
  cases q : H p with
  | none => rfl
  | some o => rw [e p o q] at h; cases h
theorem Ex.rd {H H' : Hp} {a : Addr} {u : HO} (e : Ex H H') (h : Rd H a u) : Rd H' a u := by
  rcases h with h | ⟨o, h⟩
  · exact .inl (e _ _ h)
  · exact .inr ⟨o, e _ _ h⟩
theorem Ex.sl {K : PySem.W.Frag} {H H' : Hp} {a : Addr} {xs : List V} (e : Ex H H') (h : SqL K H a xs) : SqL K H' a xs := by
  rcases h with h | h
  · exact .inl (e.rd h)
  · exact .inr h
theorem Ex.st {K : PySem.W.Frag} {H H' : Hp} {a : Addr} {xs : List V} (e : Ex H H') (h : SqT K H a xs) : SqT K H' a xs := by
  rcases h with h | h
  · exact .inl (e.rd h)
  · exact .inr h

mutual
inductive RepD (G : Gs) (F : Hp) : V → D → Prop
  | non : RepD G F .non .non
  | bl (b : Bool) : RepD G F (.bl b) (.bl b)
  | int (i : Int) : RepD G F (.int i) (.int i)
  | str (s : Str) : RepD G F (.str s) (.str s)
  | tup {a : Addr} {vs : List V} {xs : List D} (h : SqT G.K F a vs) (r : RepDs G F vs xs) : RepD G F (.ref a) (.tup xs)
  | lst {a : Addr} {vs : List V} {xs : List D} (h : F a = some (.lst vs)) (r : RepDs G F vs xs) : RepD G F (.ref a) (.lst xs)
  | dic {a : Addr} {ks : List (Key × V)} {xs : List (Key × D)} (h : F a = some (.dK ks)) (r : RepPs G F ks xs) : RepD G F (.ref a) (.dic xs)
  | scr {a : Addr} {ns : List Int} (h : SqL G.K F a (ns.map V.int)) : RepD G F (.ref a) (.scr ns)
  | ins {a C dx : Addr} {c : Str} {fs : List (Str × V)} {xs : List (Str × D)} (hc : G.cl c = some C) (h : F a = some (.ins C dx fs)) (r : RepPs G F fs xs) : RepD G F (.ref a) (.ins c xs)
  | fn {a : Addr} {F0 : Hp} (h : Ex F0 F) : RepD G F (.ref a) (.fn a F0)
inductive RepDs (G : Gs) (F : Hp) : List V → List D → Prop
  | nil : RepDs G F [] []
  | cons {v : V} {x : D} {vs : List V} {xs : List D} (h : RepD G F v x) (r : RepDs G F vs xs) : RepDs G F (v :: vs) (x :: xs)
inductive RepPs (G : Gs) (F : Hp) : {α : Type} → List (α × V) → List (α × D) → Prop
  | nil {α : Type} : RepPs G F ([] : List (α × V)) []
  | cons {α : Type} {k : α} {v : V} {x : D} {vs : List (α × V)} {xs : List (α × D)} (h : RepD G F v x) (r : RepPs G F vs xs) : RepPs G F ((k, v) :: vs) ((k, x) :: xs)
end

mutual
theorem RepD.mono {G : Gs} {F F' : Hp} (e : Ex F F') : ∀ {v x}, RepD G F v x → RepD G F' v x
  | _, _, .non => .non
  | _, _, .bl b => .bl b
  | _, _, .int i => .int i
  | _, _, .str s => .str s
  | _, _, .tup h r => .tup (e.st h) (RepDs.mono e r)
  | _, _, .lst h r => .lst (e _ _ h) (RepDs.mono e r)
  | _, _, .scr h => .scr (e.sl h)
  | _, _, .dic h r => .dic (e _ _ h) (RepPs.mono e r)
  | _, _, .ins hc h r => .ins hc (e _ _ h) (RepPs.mono e r)
  | _, _, .fn h => .fn (h.trans e)
theorem RepDs.mono {G : Gs} {F F' : Hp} (e : Ex F F') : ∀ {vs xs}, RepDs G F vs xs → RepDs G F' vs xs
  | _, _, .nil => .nil
  | _, _, .cons h r => .cons (RepD.mono e h) (RepDs.mono e r)
theorem RepPs.mono {G : Gs} {F F' : Hp} (e : Ex F F') : ∀ {α : Type} {vs : List (α × V)} {xs : List (α × D)}, RepPs G F vs xs → RepPs G F' vs xs
  | _, _, _, .nil => .nil
  | _, _, _, .cons h r => .cons (RepD.mono e h) (RepPs.mono e r)
end

section
variable {G : Gs} {F : Hp}
theorem RepDs.length {vs : List V} {xs : List D} (r : RepDs G F vs xs) : vs.length = xs.length := by
  induction xs generalizing vs with
  | nil => cases r; rfl
  | cons x xs ih => cases r with | cons h r => rw [List.length_cons, List.length_cons, ih r]
theorem RepDs.get {vs : List V} {xs : List D} (r : RepDs G F vs xs) {i : Nat} {x : D} (h : xs[i]? = some x) : ∃ v, vs[i]? = some v ∧ RepD G F v x := by
  induction xs generalizing vs i with
  | nil => simp at h
  | cons y ys ih =>
    cases r with
    | cons hd tl =>
      cases i with
      | zero => simp at h; subst h; exact ⟨_, rfl, hd⟩
      | succ i => simpa using ih tl (by simpa using h)
theorem RepDs.getV {vs : List V} {xs : List D} (r : RepDs G F vs xs) {i : Nat} {v : V} (h : vs[i]? = some v) : ∃ x, xs[i]? = some x ∧ RepD G F v x := by
  induction xs generalizing vs i with
  | nil => cases r; simp at h
  | cons y ys ih =>
    cases r with
    | cons hd tl =>
      cases i with
      | zero => simp at h; subst h; exact ⟨_, rfl, hd⟩
      | succ i => simpa using ih tl (by simpa using h)
theorem RepDs.append {vs ws : List V} {xs ys : List D} (r : RepDs G F vs xs) (q : RepDs G F ws ys) : RepDs G F (vs ++ ws) (xs ++ ys) := by
  induction xs generalizing vs with
  | nil => cases r; exact q
  | cons x xs ih => cases r with | cons h r => exact .cons h (ih r)
theorem RepDs.take {vs : List V} {xs : List D} (n : Nat) (r : RepDs G F vs xs) : RepDs G F (vs.take n) (xs.take n) := by
  induction xs generalizing vs n with
  | nil => cases r; simp; exact .nil
  | cons x xs ih => cases r with | cons h r => cases n with
    | zero => exact .nil
    | succ n => exact .cons h (ih n r)
theorem RepDs.drop {vs : List V} {xs : List D} (n : Nat) (r : RepDs G F vs xs) : RepDs G F (vs.drop n) (xs.drop n) := by
  induction xs generalizing vs n with
  | nil => cases r; simp; exact .nil
  | cons x xs ih => cases r with | cons h r => cases n with
    | zero => exact .cons h r
    | succ n => exact ih n r
theorem RepDs.set {vs : List V} {xs : List D} {v : V} {x : D} (i : Nat) (r : RepDs G F vs xs) (h : RepD G F v x) : RepDs G F (vs.set i v) (xs.set i x) := by
  induction xs generalizing vs i with
  | nil => cases r; exact .nil
  | cons y ys ih => cases r with | cons hd tl => cases i with
    | zero => exact .cons h tl
    | succ i => exact .cons hd (ih i tl)
theorem RepDs.reverse {vs : List V} {xs : List D} (r : RepDs G F vs xs) : RepDs G F vs.reverse xs.reverse := by
  induction xs generalizing vs with
  | nil => cases r; exact .nil
  | cons x xs ih => cases r with | cons h r => rw [List.reverse_cons, List.reverse_cons]; exact (ih r).append (.cons h .nil)
theorem RepDs.repl {v : V} {x : D} (n : Nat) (h : RepD G F v x) : RepDs G F (List.replicate n v) (List.replicate n x) := by
  induction n with
  | zero => exact .nil
  | succ n ih => exact .cons h ih
theorem RepDs.flat {vs : List V} {xs : List D} (n : Nat) (h : RepDs G F vs xs) : RepDs G F (List.replicate n vs).flatten (List.replicate n xs).flatten := by
  induction n with
  | zero => exact .nil
  | succ n ih => rw [List.replicate_succ, List.replicate_succ, List.flatten_cons, List.flatten_cons]; exact h.append ih
theorem RepPs.look {α : Type} [DecidableEq α] {vs : List (α × V)} {xs : List (α × D)} (r : RepPs G F vs xs) (k : α) {x : D} (h : (xs.find? fun p => decide (p.1 = k)).map (·.2) = some x) :
    ∃ v, (vs.find? fun p => decide (p.1 = k)).map (·.2) = some v ∧ RepD G F v x := by
  induction xs generalizing vs with
  | nil => simp at h
  | cons y ys ih =>
    cases r with
    | @cons _ k' v' x' vs' _ hd tl =>
      by_cases e : k' = k
      · rw [List.find?_cons_of_pos (by simpa using e)] at h ⊢
        simp at h; subst h
        exact ⟨v', rfl, hd⟩
      · rw [List.find?_cons_of_neg (by simpa using e)] at h ⊢
        exact ih tl h
theorem RepPs.lookup {vs : List (Str × V)} {xs : List (Str × D)} (r : RepPs G F vs xs) (k : Str) {x : D} (h : xs.lookup k = some x) : ∃ v, vs.lookup k = some v ∧ RepD G F v x := by
  induction xs generalizing vs with
  | nil => simp at h
  | cons y ys ih =>
    cases r with
    | @cons _ k' v' x' vs' _ hd tl =>
      by_cases e : k = k'
      · subst e
        simp [List.lookup] at h ⊢; subst h; exact hd
      · have e' : (k == k') = false := beq_eq_false_iff_ne.mpr e
        simp only [List.lookup, e'] at h ⊢
        exact ih tl h
theorem RepPs.lookupN {vs : List (Str × V)} {xs : List (Str × D)} (r : RepPs G F vs xs) (k : Str) (h : xs.lookup k = none) : vs.lookup k = none := by
  induction xs generalizing vs with
  | nil => cases r; rfl
  | cons y ys ih =>
    cases r with
    | @cons _ k' v' x' vs' _ hd tl =>
      by_cases e : k = k'
      · subst e; simp [List.lookup] at h
      · have e' : (k == k') = false := beq_eq_false_iff_ne.mpr e
        simp only [List.lookup, e'] at h ⊢
        exact ih tl h
theorem RepPs.keys {α : Type} {vs : List (α × V)} {xs : List (α × D)} (r : RepPs G F vs xs) : vs.map (·.1) = xs.map (·.1) := by
  induction xs generalizing vs with
  | nil => cases r; rfl
  | cons y ys ih => cases r with | cons h r => rw [List.map_cons, List.map_cons, ih r]
theorem RepPs.length {α : Type} {vs : List (α × V)} {xs : List (α × D)} (r : RepPs G F vs xs) : vs.length = xs.length := by
  have := congrArg List.length r.keys
  simpa using this
theorem RepPs.append {α : Type} {vs ws : List (α × V)} {xs ys : List (α × D)} (r : RepPs G F vs xs) (q : RepPs G F ws ys) : RepPs G F (vs ++ ws) (xs ++ ys) := by
  induction xs generalizing vs with
  | nil => cases r; exact q
  | cons x xs ih => cases r with | cons h r => exact .cons h (ih r)
end

/-! ### owners -/
/-- the names of a deck's keys -/
def keyL (b : Bool) : Str := if b then "left" else "cells"
def keyC (b : Bool) : Str := if b then "draws" else "turn"
def deckK (G : Gs) (c : Addr) (mx dr : Int) : List (Key × V) := [(Sum.inr (keyL G.dl), .ref c), (Sum.inr "mixed", .int mx), (Sum.inr (keyC G.dc), .int dr)]
/-- what a deck's object must be: m cells left -/
def DeckAt (G : Gs) (m : Nat × Addr) (H : Hp) (a c : Addr) : Prop := ∃ (mx dr : Int) (ns : List Int), H a = some (.dK (deckK G c mx dr)) ∧ H c = some (.lst (ns.map V.int)) ∧ ns.length = m.1 ∧ c = m.2

def RepO (G : Gs) (F H : Hp) (v : V) (o : O) (fp : List Addr) : Prop := match o with
  | .d x => RepD G F v x ∧ fp = []
  | .lst xs => ∃ a vs, v = .ref a ∧ fp = [a] ∧ H a = some (.lst vs) ∧ RepDs G F vs xs
  | .dic kvs => ∃ a ks, v = .ref a ∧ fp = [a] ∧ H a = some (.dK ks) ∧ RepPs G F ks kvs
  | .ins c gs => ∃ a C dx fs, v = .ref a ∧ fp = [a, dx] ∧ G.cl c = some C ∧ H a = some (.ins C dx fs) ∧ H dx = some (.own a) ∧ RepPs G F fs gs
  | .deck m => ∃ a c, v = .ref a ∧ fp = [a, c] ∧ DeckAt G m H a c

/-- no table among the frozen -/
def NoT (F : Hp) : Prop := ∀ (b : Addr) (ps : Array Value), F b ≠ some (.tbl ps)
theorem noT_upd {F : Hp} {p : Addr} {o : HO} (ho : ∀ ps, o ≠ .tbl ps) (h : NoT F) : NoT (upd F p o) := fun b ps z => by
  by_cases e : b = p
  · subst e; rw [upd_same] at z; exact ho ps (Option.some.inj z)
  · rw [upd_ne e] at z; exact h b ps z
/-- the tables of code objects: each stands apart, what it tells is known -/
def TabI (G : Gs) (F H : Hp) (fp : List Addr) : Prop := fp = G.tb.map (·.1) ∧ NoT F ∧ ∀ p ∈ G.tb, ∃ arr : Array Value, H p.1 = some (.tbl arr) ∧ TriplesOk arr.toList ∧ ∀ (pos : Pos) (cv : Value), codeAmong pos arr.toList = some cv → ∃ c, cv = .ref c ∧ F c = some (LamX.CodeO c p.2)
inductive RepI (G : Gs) (F H : Hp) : List (V × O) → List Addr → Prop
  | nil {fp : List Addr} (h : TabI G F H fp) : RepI G F H [] fp
  | cons {v : V} {o : O} {is : List (V × O)} {f1 f2 : List Addr} (h : RepO G F H v o f1) (r : RepI G F H is f2) : RepI G F H ((v, o) :: is) (f1 ++ f2)

def Own (G : Gs) (F H : Hp) (is : List (V × O)) : Prop := Ex F H ∧ ∃ fp, RepI G F H is fp ∧ fp.Nodup ∧ ∀ a ∈ fp, F a = none

section
variable {G : Gs} {F F' H H' : Hp}
theorem RepO.trk {v : V} {o : O} {fp : List Addr} (r : RepO G F H v o fp) : ∀ a ∈ fp, ∃ u, H a = some u := by
  cases o with
  | d x => intro a ha; rw [r.2] at ha; cases ha
  | lst xs => obtain ⟨b, vs, _, rfl, h, _⟩ := r; intro a ha; simp at ha; subst ha; exact ⟨_, h⟩
  | dic xs => obtain ⟨b, vs, _, rfl, h, _⟩ := r; intro a ha; simp at ha; subst ha; exact ⟨_, h⟩
  | ins c gs =>
    obtain ⟨b, C, dx, fs, _, rfl, _, h, h2, _⟩ := r
    intro a ha; simp at ha
    rcases ha with rfl | rfl
    · exact ⟨_, h⟩
    · exact ⟨_, h2⟩
  | deck m =>
    obtain ⟨b, c, _, rfl, mx, dr, ns, h1, h2, _⟩ := r
    intro a ha; simp at ha
    rcases ha with rfl | rfl
    · exact ⟨_, h1⟩
    · exact ⟨_, h2⟩
theorem RepO.frame {v : V} {o : O} {fp : List Addr} (r : RepO G F H v o fp) (e : Ex F F') (k : ∀ a ∈ fp, ∀ u, H a = some u → H' a = some u) : RepO G F' H' v o fp := by
  cases o with
  | d x => exact ⟨r.1.mono e, r.2⟩
  | lst xs => obtain ⟨b, vs, e1, rfl, h, q⟩ := r; exact ⟨b, vs, e1, rfl, k b (by simp) _ h, q.mono e⟩
  | dic xs => obtain ⟨b, vs, e1, rfl, h, q⟩ := r; exact ⟨b, vs, e1, rfl, k b (by simp) _ h, q.mono e⟩
  | ins c gs => obtain ⟨b, C, dx, fs, e1, rfl, hc, h, h2, q⟩ := r; exact ⟨b, C, dx, fs, e1, rfl, hc, k b (by simp) _ h, k dx (by simp) _ h2, q.mono e⟩
  | deck m => obtain ⟨b, c, e1, rfl, mx, dr, ns, h1, h2, q⟩ := r; exact ⟨b, c, e1, rfl, mx, dr, ns, k b (by simp) _ h1, k c (by simp) _ h2, q⟩
theorem TabI.trk {fp : List Addr} (t : TabI G F H fp) : ∀ a ∈ fp, ∃ u, H a = some u := by
  obtain ⟨rfl, _, t⟩ := t
  intro a ha
  obtain ⟨p, hp, rfl⟩ := List.mem_map.mp ha
  obtain ⟨arr, h, _⟩ := t p hp
  exact ⟨_, h⟩
theorem TabI.frame {fp : List Addr} (t : TabI G F H fp) (e : Ex F F') (k : ∀ a ∈ fp, ∀ u, H a = some u → H' a = some u) (nt : NoT F → NoT F') : TabI G F' H' fp := by
  obtain ⟨rfl, n, t⟩ := t
  refine ⟨rfl, nt n, fun p hp => ?_⟩
  obtain ⟨arr, h1, h2, h3⟩ := t p hp
  refine ⟨arr, k _ (List.mem_map.mpr ⟨p, hp, rfl⟩) _ h1, h2, fun pos cv hc => ?_⟩
  obtain ⟨c, h4, h5⟩ := h3 pos cv hc
  exact ⟨c, h4, e _ _ h5⟩
theorem RepI.trk {is : List (V × O)} {fp : List Addr} (r : RepI G F H is fp) : ∀ a ∈ fp, ∃ u, H a = some u := by
  induction r with
  | nil h => exact h.trk
  | cons h r ih => intro a ha; rcases List.mem_append.mp ha with ha | ha
                   · exact RepO.trk h a ha
                   · exact ih a ha
theorem RepI.frame {is : List (V × O)} {fp : List Addr} (r : RepI G F H is fp) (e : Ex F F') (k : ∀ a ∈ fp, ∀ u, H a = some u → H' a = some u)
    (nt : NoT F → NoT F' := by first | exact id | exact noT_upd (by intro ps z; cases z) | exact fun h => noT_upd (by intro ps z; cases z) (noT_upd (by intro ps z; cases z) h)) : RepI G F' H' is fp := by
  induction r with
  | nil h => exact .nil (h.frame e k nt)
  | cons h r ih => exact .cons (RepO.frame h e fun a ha => k a (List.mem_append_left _ ha)) (ih fun a ha => k a (List.mem_append_right _ ha))
theorem RepI.perm {is js : List (V × O)} (p : is.Perm js) : ∀ {fp : List Addr}, RepI G F H is fp → ∃ fq, RepI G F H js fq ∧ fp.Perm fq := by
  induction p with
  | nil => intro fp r; exact ⟨fp, r, .refl _⟩
  | cons x p ih =>
    intro fp r
    cases r with
    | cons h r =>
      obtain ⟨fq, r', p'⟩ := ih r
      exact ⟨_, .cons h r', List.Perm.append_left _ p'⟩
  | swap x y l =>
    intro fp r
    cases r with
    | cons h r => cases r with
      | cons h2 r =>
        refine ⟨_, .cons h2 (.cons h r), ?_⟩
        rw [← List.append_assoc, ← List.append_assoc]
        exact List.Perm.append_right _ List.perm_append_comm
  | trans _ _ i1 i2 =>
    intro fp r
    obtain ⟨f1, r1, p1⟩ := i1 r
    obtain ⟨f2, r2, p2⟩ := i2 r1
    exact ⟨f2, r2, p1.trans p2⟩
theorem Own.perm {is js : List (V × O)} (p : is.Perm js) (h : Own G F H is) : Own G F H js := by
  obtain ⟨e, fp, r, nd, fr⟩ := h
  obtain ⟨fq, r', p'⟩ := RepI.perm p r
  exact ⟨e, fq, r', (p'.nodup_iff).mp nd, fun a ha => fr a (p'.mem_iff.mpr ha)⟩
theorem Own.drop {i : V × O} {is : List (V × O)} (h : Own G F H (i :: is)) : Own G F H is := by
  obtain ⟨e, fp, r, nd, fr⟩ := h
  cases r with
  | cons h r => exact ⟨e, _, r, (List.nodup_append.mp nd).2.1, fun a ha => fr a (List.mem_append_right _ ha)⟩
theorem Own.dropL {js is : List (V × O)} (h : Own G F H (js ++ is)) : Own G F H is := by
  induction js with
  | nil => exact h
  | cons j js ih => exact ih (Own.drop h)
theorem Own.ex {is : List (V × O)} (h : Own G F H is) : Ex F H := h.1
/-- a frozen item comes in for nothing -/
theorem Own.addD {v : V} {x : D} {is : List (V × O)} (h : Own G F H is) (r : RepD G F v x) : Own G F H ((v, .d x) :: is) := by
  obtain ⟨e, fp, ri, nd, fr⟩ := h
  exact ⟨e, fp, by simpa using RepI.cons (f1 := []) (o := .d x) ⟨r, rfl⟩ ri, nd, fr⟩
theorem Own.headD {v : V} {x : D} {is : List (V × O)} (h : Own G F H ((v, .d x) :: is)) : RepD G F v x := by
  obtain ⟨e, fp, ri, nd, fr⟩ := h
  cases ri with
  | cons h r => exact h.1
/-- the heap changes where nothing of ours lies -/
theorem Own.step {is : List (V × O)} (h : Own G F H is) (k : Ex H H') : Own G F H' is := by
  obtain ⟨e, fp, ri, nd, fr⟩ := h
  exact ⟨e.trans k, fp, ri.frame (Ex.refl F) fun a _ u q => k a u q, nd, fr⟩
/-- a new owned list -/
theorem Own.newL {p : Addr} {vs : List V} {xs : List D} {is : List (V × O)} (h : Own G F H is) (hp : H p = none) (r : RepDs G F vs xs) : Own G F (upd H p (.lst vs)) ((.ref p, .lst xs) :: is) := by
  obtain ⟨e, fp, ri, nd, fr⟩ := h
  have np : p ∉ fp := fun m => by obtain ⟨u, q⟩ := ri.trk p m; rw [hp] at q; cases q
  refine ⟨e.trans (Ex.new hp), p :: fp, RepI.cons (f1 := [p]) ⟨p, vs, rfl, rfl, upd_same, r⟩ (ri.frame (Ex.refl F) fun a ha u q => (Ex.new hp) a u q), List.nodup_cons.mpr ⟨np, nd⟩, fun a ha => ?_⟩
  rcases List.mem_cons.mp ha with rfl | ha
  · exact e.free hp
  · exact fr a ha
/-- a new owned dict -/
theorem Own.newK {p : Addr} {ks : List (Key × V)} {kvs : List (Key × D)} {is : List (V × O)} (h : Own G F H is) (hp : H p = none) (r : RepPs G F ks kvs) : Own G F (upd H p (.dK ks)) ((.ref p, .dic kvs) :: is) := by
  obtain ⟨e, fp, ri, nd, fr⟩ := h
  have np : p ∉ fp := fun m => by obtain ⟨u, q⟩ := ri.trk p m; rw [hp] at q; cases q
  refine ⟨e.trans (Ex.new hp), p :: fp, RepI.cons (f1 := [p]) ⟨p, ks, rfl, rfl, upd_same, r⟩ (ri.frame (Ex.refl F) fun a ha u q => (Ex.new hp) a u q), List.nodup_cons.mpr ⟨np, nd⟩, fun a ha => ?_⟩
  rcases List.mem_cons.mp ha with rfl | ha
  · exact e.free hp
  · exact fr a ha
/-- a new frozen tuple -/
theorem Own.newT {p : Addr} {vs : List V} {xs : List D} {is : List (V × O)} (h : Own G F H is) (hp : H p = none) (r : RepDs G F vs xs) :
    Ex F (upd F p (.tup vs)) ∧ Own G (upd F p (.tup vs)) (upd H p (.tup vs)) ((.ref p, .d (.tup xs)) :: is) := by
  obtain ⟨e, fp, ri, nd, fr⟩ := h
  have fp0 : F p = none := e.free hp
  have np : p ∉ fp := fun m => by obtain ⟨u, q⟩ := ri.trk p m; rw [hp] at q; cases q
  have eF : Ex F (upd F p (.tup vs)) := Ex.new fp0
  refine ⟨eF, fun a u q => ?_, fp, by
    refine RepI.cons (f1 := []) (o := .d (.tup xs)) ⟨.tup (SqT.of upd_same) (r.mono eF), rfl⟩ (ri.frame eF fun a ha u q => (Ex.new hp) a u q), nd, fun a ha => ?_⟩
  · by_cases z : a = p
    · subst z; rw [upd_same] at q ⊢; exact q
    · rw [upd_ne z] at q ⊢; exact e a u q
  · rw [upd_ne (ne_mem np ha)]; exact fr a ha
/-- the owned list at the head, and what may be written there -/
theorem Own.headL {v : V} {xs : List D} {is : List (V × O)} (h : Own G F H ((v, .lst xs) :: is)) : ∃ p vs, v = .ref p ∧ H p = some (.lst vs) ∧ RepDs G F vs xs ∧
    (∀ vs' xs', RepDs G F vs' xs' → Own G F (upd H p (.lst vs')) ((v, .lst xs') :: is)) := by
  obtain ⟨e, fp, ri, nd, fr⟩ := h
  cases ri with
  | @cons _ _ _ f1 f2 h r =>
    obtain ⟨p, vs, rfl, rfl, hp, q⟩ := h
    have np : p ∉ f2 := (List.nodup_cons.mp nd).1
    refine ⟨p, vs, rfl, hp, q, fun vs' xs' q' => ⟨fun a u z => ?_, _, RepI.cons ⟨p, vs', rfl, rfl, upd_same, q'⟩ (r.frame (Ex.refl F) fun a ha u z => ?_), nd, fr⟩⟩
    · have : a ≠ p := by rintro rfl; rw [fr a (by simp)] at z; cases z
      rw [upd_ne this]; exact e a u z
    · rw [upd_ne (ne_mem np ha)]; exact z
theorem Own.headK {v : V} {kvs : List (Key × D)} {is : List (V × O)} (h : Own G F H ((v, .dic kvs) :: is)) : ∃ p ks, v = .ref p ∧ H p = some (.dK ks) ∧ RepPs G F ks kvs ∧
    (∀ ks' kvs', RepPs G F ks' kvs' → Own G F (upd H p (.dK ks')) ((v, .dic kvs') :: is)) := by
  obtain ⟨e, fp, ri, nd, fr⟩ := h
  cases ri with
  | @cons _ _ _ f1 f2 h r =>
    obtain ⟨p, vs, rfl, rfl, hp, q⟩ := h
    have np : p ∉ f2 := (List.nodup_cons.mp nd).1
    refine ⟨p, vs, rfl, hp, q, fun vs' xs' q' => ⟨fun a u z => ?_, _, RepI.cons ⟨p, vs', rfl, rfl, upd_same, q'⟩ (r.frame (Ex.refl F) fun a ha u z => ?_), nd, fr⟩⟩
    · have : a ≠ p := by rintro rfl; rw [fr a (by simp)] at z; cases z
      rw [upd_ne this]; exact e a u z
    · rw [upd_ne (ne_mem np ha)]; exact z
theorem Own.headDk {v : V} {m : Nat × Addr} {is : List (V × O)} (h : Own G F H ((v, .deck m) :: is)) : ∃ (p : Addr) (mx dr : Int) (ns : List Int), v = .ref p ∧ H p = some (.dK (deckK G m.2 mx dr)) ∧ H m.2 = some (.lst (ns.map V.int)) ∧ ns.length = m.1 ∧ p ≠ m.2 ∧
    (∀ mx' dr', Own G F (upd H p (.dK (deckK G m.2 mx' dr'))) ((v, .deck m) :: is)) ∧ (∀ ns' : List Int, Own G F (upd H m.2 (.lst (ns'.map V.int))) ((v, .deck (ns'.length, m.2)) :: is)) := by
  obtain ⟨e, fp, ri, nd, fr⟩ := h
  cases ri with
  | @cons _ _ _ f1 f2 h r =>
    obtain ⟨p, c, rfl, rfl, mx, dr, ns, hp, hc, hl, rfl⟩ := h
    have n1 := List.nodup_cons.mp nd
    have n2 := List.nodup_cons.mp n1.2
    have nc : m.2 ∉ f2 := n2.1
    have np : p ∉ f2 := fun z => n1.1 (by simp [z])
    have pc : p ≠ m.2 := fun z => n1.1 (by simp [z])
    have g : ∀ (x : Addr) (u : HO), x ∉ f2 → F x = none → Ex F (upd H x u) ∧ (∀ a ∈ f2, ∀ z, H a = some z → (upd H x u) a = some z) := fun x u hx hF => by
      refine ⟨fun a z hz => ?_, fun a ha z hz => ?_⟩
      · have : a ≠ x := by rintro rfl; rw [hF] at hz; cases hz
        rw [upd_ne this]; exact e a z hz
      · rw [upd_ne (ne_mem hx ha)]; exact hz
    refine ⟨p, mx, dr, ns, rfl, hp, hc, hl, pc, fun mx' dr' => ?_, fun ns' => ?_⟩
    · obtain ⟨g1, g2⟩ := g p (.dK (deckK G m.2 mx' dr')) np (fr p (by simp))
      exact ⟨g1, _, RepI.cons (f1 := [p, m.2]) ⟨p, m.2, rfl, rfl, mx', dr', ns, upd_same, by rw [upd_ne pc.symm]; exact hc, hl, rfl⟩ (r.frame (Ex.refl F) g2), nd, fr⟩
    · obtain ⟨g1, g2⟩ := g m.2 (.lst (ns'.map V.int)) nc (fr m.2 (by simp))
      exact ⟨g1, _, RepI.cons (f1 := [p, m.2]) ⟨p, m.2, rfl, rfl, mx, dr, ns', by rw [upd_ne pc]; exact hp, upd_same, rfl, rfl⟩ (r.frame (Ex.refl F) g2), nd, fr⟩
theorem RepDs.asInts {vs : List V} {ns : List Int} (r : RepDs G F vs (ns.map D.int)) : vs = ns.map V.int := by
  induction ns generalizing vs with
  | nil => cases r; rfl
  | cons b bs ih => cases r with | cons h r => cases h; rw [List.map_cons, ih r]
/-- an owned list of ints and an owned empty dict become a deck -/
theorem Own.mkDk {v v1 : V} {ns : List Int} {is : List (V × O)} (h : Own G F H ((v1, .lst (ns.map D.int)) :: (v, .dic []) :: is)) : ∃ p c, v = .ref p ∧ v1 = .ref c ∧ H p = some (.dK []) ∧ ∀ mx dr, Own G F (upd H p (.dK (deckK G c mx dr))) ((v, .deck (ns.length, c)) :: is) := by
  obtain ⟨e, fp, ri, nd, fr⟩ := h
  cases ri with
  | @cons _ _ _ f1 f2 h r =>
    obtain ⟨c, vs, rfl, rfl, hc, q⟩ := h
    cases r with
    | @cons _ _ _ f3 f4 h r =>
      obtain ⟨p, ks, rfl, rfl, hp, q2⟩ := h
      cases q2
      have e1 := q.asInts
      subst e1
      have n1 := List.nodup_cons.mp nd
      have n2 := List.nodup_cons.mp n1.2
      have np : p ∉ f4 := n2.1
      have pc : p ≠ c := fun z => n1.1 (by simp [z])
      have nc : c ∉ f4 := fun z => n1.1 (by simp [z])
      refine ⟨p, c, rfl, rfl, hp, fun mx dr => ⟨fun a z hz => ?_, [p, c] ++ f4, RepI.cons (f1 := [p, c]) ⟨p, c, rfl, rfl, mx, dr, ns, upd_same, by rw [upd_ne pc.symm]; exact hc, rfl, rfl⟩ (r.frame (Ex.refl F) fun a ha z hz => ?_), ?_, fun a ha => fr a ?_⟩⟩
      · have : a ≠ p := by rintro rfl; rw [fr a (by simp)] at hz; cases hz
        rw [upd_ne this]; exact e a z hz
      · rw [upd_ne (ne_mem np ha)]; exact hz
      · refine List.nodup_cons.mpr ⟨?_, List.nodup_cons.mpr ⟨nc, n2.2⟩⟩
        intro z
        rcases List.mem_cons.mp z with z | z
        · exact pc z
        · exact np z
      · simp at ha ⊢
        rcases ha with rfl | rfl | ha
        · exact .inr (.inl rfl)
        · exact .inl rfl
        · exact .inr (.inr ha)
/-- the head is frozen -/
theorem Own.freeze {v : V} {o : O} {is : List (V × O)} (nd' : ∀ m, o ≠ .deck m) (h : Own G F H ((v, o) :: is)) : ∃ F', Ex F F' ∧ Own G F' H ((v, .d (fz o)) :: is) := by
  cases o with
  | d x => exact ⟨F, Ex.refl F, h⟩
  | deck m => exact absurd rfl (nd' m)
  | lst xs =>
    obtain ⟨e, fp, ri, nd, fr⟩ := h
    cases ri with
    | @cons _ _ _ f1 f2 h r =>
      obtain ⟨p, vs, rfl, rfl, hp, q⟩ := h
      have np : p ∉ f2 := (List.nodup_cons.mp nd).1
      have eF : Ex F (upd F p (.lst vs)) := Ex.new (fr p (by simp))
      refine ⟨_, eF, fun a u z => ?_, f2, RepI.cons (f1 := []) (o := .d (.lst xs)) ⟨.lst upd_same (q.mono eF), rfl⟩ (r.frame eF fun _ _ _ z => z), (List.nodup_cons.mp nd).2, fun a ha => ?_⟩
      · by_cases w : a = p
        · subst w; rw [upd_same] at z; cases z; exact hp
        · rw [upd_ne w] at z; exact e a u z
      · rw [upd_ne (ne_mem np ha)]; exact fr a (by simp [ha])
  | dic xs =>
    obtain ⟨e, fp, ri, nd, fr⟩ := h
    cases ri with
    | @cons _ _ _ f1 f2 h r =>
      obtain ⟨p, vs, rfl, rfl, hp, q⟩ := h
      have np : p ∉ f2 := (List.nodup_cons.mp nd).1
      have eF : Ex F (upd F p (.dK vs)) := Ex.new (fr p (by simp))
      refine ⟨_, eF, fun a u z => ?_, f2, RepI.cons (f1 := []) (o := .d (.dic xs)) ⟨.dic upd_same (q.mono eF), rfl⟩ (r.frame eF fun _ _ _ z => z), (List.nodup_cons.mp nd).2, fun a ha => ?_⟩
      · by_cases w : a = p
        · subst w; rw [upd_same] at z; cases z; exact hp
        · rw [upd_ne w] at z; exact e a u z
      · rw [upd_ne (ne_mem np ha)]; exact fr a (by simp [ha])
  | ins c gs =>
    obtain ⟨e, fp, ri, nd, fr⟩ := h
    cases ri with
    | @cons _ _ _ f1 f2 h r =>
      obtain ⟨p, C, dx, fs, rfl, rfl, hc, hp, hdx, q⟩ := h
      have n1 := List.nodup_cons.mp nd
      have n2 := List.nodup_cons.mp n1.2
      have ndx : dx ∉ f2 := n2.1
      have np : p ∉ f2 := fun z => n1.1 (by simp [z])
      have pdx : p ≠ dx := fun z => n1.1 (by simp [z])
      have eF : Ex F (upd (upd F dx (.own p)) p (.ins C dx fs)) := (Ex.new (fr dx (by simp))).trans (Ex.new (by rw [upd_ne pdx]; exact fr p (by simp)))
      refine ⟨_, eF, fun a u z => ?_, f2, RepI.cons (f1 := []) (o := .d (.ins c gs)) ⟨.ins hc upd_same (q.mono eF), rfl⟩ (r.frame eF fun _ _ _ z => z), n2.2, fun a ha => ?_⟩
      · by_cases w : a = p
        · subst w; rw [upd_same] at z; cases z; exact hp
        · rw [upd_ne w] at z
          by_cases w2 : a = dx
          · subst w2; rw [upd_same] at z; cases z; exact hdx
          · rw [upd_ne w2] at z; exact e a u z
      · rw [upd_ne (ne_mem np ha), upd_ne (ne_mem ndx ha)]; exact fr a (by simp [ha])
end

/-! ### slots -/
abbrev Sl := List (Option O)
def its : St → Sl → List (V × O)
  | some v :: σ, some o :: ρ => (v, o) :: its σ ρ
  | _ :: σ, _ :: ρ => its σ ρ
  | _, _ => []
structure SOk (σ : St) (ρ : Sl) : Prop where
  len : σ.length = ρ.length
  at_ : ∀ (i : Nat) (o : O), ρ[i]? = some (some o) → ∃ v : V, σ[i]? = some (some v)
theorem its_out : ∀ {σ : St} {ρ : Sl} {i : Nat} {v : V} {o : O}, σ[i]? = some (some v) → ρ[i]? = some (some o) → (its σ ρ).Perm ((v, o) :: its σ (ρ.set i none))
  | [], _, _, _, _, h, _ => by simp at h
  | _ :: _, [], _, _, _, _, h => by simp at h
  | s :: σ, r :: ρ, 0, v, o, h1, h2 => by
    simp at h1 h2; subst h1; subst h2
    simp only [List.set_cons_zero, its]; exact .refl _
  | s :: σ, r :: ρ, i + 1, v, o, h1, h2 => by
    have ih := its_out (σ := σ) (ρ := ρ) (i := i) (v := v) (o := o) (by simpa using h1) (by simpa using h2)
    rw [List.set_cons_succ]
    cases s with
    | none => simpa only [its] using ih
    | some s => cases r with
      | none => simpa only [its] using ih
      | some r => simp only [its]; exact (List.Perm.cons _ ih).trans (List.Perm.swap _ _ _)
theorem its_in : ∀ {σ : St} {ρ : Sl} {i : Nat} {v : V} {o : O}, σ.length = ρ.length → i < σ.length → (its (σ.set i (some v)) (ρ.set i (some o))).Perm ((v, o) :: its σ (ρ.set i none))
  | [], _, _, _, _, _, h => by simp at h
  | _ :: _, [], _, _, _, h, _ => by simp at h
  | s :: σ, r :: ρ, 0, v, o, h1, h2 => by
    simp only [List.set_cons_zero, its]
    cases s <;> exact .refl _
  | s :: σ, r :: ρ, i + 1, v, o, h1, h2 => by
    have ih := its_in (σ := σ) (ρ := ρ) (i := i) (v := v) (o := o) (by simpa using h1) (by simpa using h2)
    rw [List.set_cons_succ, List.set_cons_succ, List.set_cons_succ]
    cases s with
    | none => simpa only [its] using ih
    | some s => cases r with
      | none => simpa only [its] using ih
      | some r => simp only [its]; exact (List.Perm.cons _ ih).trans (List.Perm.swap _ _ _)
/-- dropping a slot's content -/
theorem its_drop : ∀ {σ : St} {ρ : Sl} (i : Nat), its σ (ρ.set i none) = its σ ρ ∨ ∃ x, (its σ ρ).Perm (x :: its σ (ρ.set i none))
  | σ, [], i => .inl (by simp)
  | [], r :: ρ, i => .inl (by cases i <;> rfl)
  | s :: σ, r :: ρ, 0 => by
    simp only [List.set_cons_zero]
    cases s with
    | none => exact .inl rfl
    | some s => cases r with
      | none => exact .inl rfl
      | some r => exact .inr ⟨_, .refl _⟩
  | s :: σ, r :: ρ, i + 1 => by
    rw [List.set_cons_succ]
    rcases its_drop (σ := σ) (ρ := ρ) i with h | ⟨x, h⟩
    · left
      cases s with
      | none => exact h
      | some s => cases r with
        | none => exact h
        | some r => show _ :: _ = _ :: _; rw [h]
    · right
      refine ⟨x, ?_⟩
      cases s with
      | none => exact h
      | some s => cases r with
        | none => exact h
        | some r => exact (List.Perm.cons _ h).trans (List.Perm.swap _ _ _)
theorem SOk.setN {σ : St} {ρ : Sl} (h : SOk σ ρ) (i : Nat) : SOk σ (ρ.set i none) := by
  refine ⟨by rw [List.length_set]; exact h.len, fun j o q => h.at_ j o ?_⟩
  by_cases e : i = j
  · subst e
    by_cases l : i < ρ.length
    · rw [List.getElem?_set_self l] at q; cases q
    · rw [List.getElem?_eq_none (by simpa using l)] at q; cases q
  · rw [List.getElem?_set_ne e] at q; exact q
theorem SOk.set {σ : St} {ρ : Sl} (h : SOk σ ρ) (i : Nat) (v : V) (o : O) : SOk (σ.set i (some v)) (ρ.set i (some o)) := by
  refine ⟨by rw [List.length_set, List.length_set]; exact h.len, fun j p q => ?_⟩
  by_cases e : i = j
  · subst e
    by_cases l : i < σ.length
    · exact ⟨v, by rw [List.getElem?_set_self l]⟩
    · rw [List.getElem?_eq_none (by rw [List.length_set, ← h.len]; simpa using l)] at q; cases q
  · rw [List.getElem?_set_ne e] at q ⊢; exact h.at_ j p q
/-- same place, other content -/
theorem SOk.upd {σ : St} {ρ : Sl} (h : SOk σ ρ) {i : Nat} {o : O} (o' : O) (q : ρ[i]? = some (some o)) : SOk σ (ρ.set i (some o')) := by
  refine ⟨by rw [List.length_set]; exact h.len, fun j p z => ?_⟩
  by_cases e : i = j
  · subst e; exact h.at_ i o q
  · rw [List.getElem?_set_ne e] at z; exact h.at_ j p z

/-- the state of a def's frame: its slots, and what is held beside them -/
def Stt (G : Gs) (F H : Hp) (σ : St) (ρ : Sl) (T : List (V × O)) : Prop := SOk σ ρ ∧ Own G F H (its σ ρ ++ T)
section
variable {G : Gs} {F F' H H' : Hp} {σ : St} {ρ : Sl} {T : List (V × O)} {i : Nat} {v : V} {o : O}
/-- take a slot's content out -/
theorem Stt.out (h : Stt G F H σ ρ T) (q : ρ[i]? = some (some o)) : ∃ v, σ[i]? = some (some v) ∧ Stt G F H σ (ρ.set i none) ((v, o) :: T) := by
  obtain ⟨v, hv⟩ := h.1.at_ i o q
  refine ⟨v, hv, h.1.setN i, ?_⟩
  refine h.2.perm ?_
  exact ((its_out hv q).append_right T).trans (List.perm_middle.symm)
/-- .. and back -/
theorem Stt.back (h : Stt G F H σ (ρ.set i none) ((v, o) :: T)) (hv : σ[i]? = some (some v)) (o' : O) (e : o' = o) : Stt G F H σ (ρ.set i (some o')) T := by
  subst e
  have hlt := (List.getElem?_eq_some_iff.mp hv).1
  have hl : σ.length = ρ.length := by have := h.1.len; rwa [List.length_set] at this
  have p := its_in (σ := σ) (ρ := ρ) (i := i) (v := v) (o := o') hl hlt
  have es : σ.set i (some v) = σ := by
    apply List.ext_getElem?
    intro j
    by_cases e : i = j
    · subst e; rw [List.getElem?_set_self hlt]; exact hv.symm
    · rw [List.getElem?_set_ne e]
  rw [es] at p
  refine ⟨?_, h.2.perm (List.perm_middle.trans (p.symm.append_right T))⟩
  have := h.1.set i v o'
  rw [es] at this
  simpa using this
/-- an item goes into a slot -/
theorem Stt.store (h : Stt G F H σ ρ ((v, o) :: T)) (hi : i < ρ.length) : Stt G F H (σ.set i (some v)) (ρ.set i (some o)) T := by
  refine ⟨h.1.set i v o, ?_⟩
  have p := its_in (σ := σ) (ρ := ρ) (i := i) (v := v) (o := o) h.1.len (by rw [h.1.len]; exact hi)
  have h2 : Own G F H ((v, o) :: (its σ ρ ++ T)) := h.2.perm List.perm_middle
  rcases its_drop (σ := σ) (ρ := ρ) i with e | ⟨x, e⟩
  · refine h2.perm ?_
    rw [← e]
    exact p.symm.append_right T
  · have h3 : Own G F H (x :: ((v, o) :: (its σ (ρ.set i none) ++ T))) := h2.perm ((List.Perm.cons _ (e.append_right T)).trans (List.Perm.swap _ _ _))
    exact h3.drop.perm (p.symm.append_right T)
/-- a slot's content is given up -/
theorem Stt.lose (h : Stt G F H σ ρ T) (i : Nat) : Stt G F H σ (ρ.set i none) T := by
  refine ⟨h.1.setN i, ?_⟩
  rcases its_drop (σ := σ) (ρ := ρ) i with e | ⟨x, e⟩
  · rw [e]; exact h.2
  · exact (h.2.perm (e.append_right T)).drop
theorem Stt.step (h : Stt G F H σ ρ T) (k : Ex H H') : Stt G F H' σ ρ T := ⟨h.1, h.2.step k⟩
theorem Stt.ex (h : Stt G F H σ ρ T) : Ex F H := h.2.ex
theorem Stt.drop (h : Stt G F H σ ρ ((v, o) :: T)) : Stt G F H σ ρ T := ⟨h.1, (h.2.perm List.perm_middle).drop⟩
theorem Stt.addD {x : D} (h : Stt G F H σ ρ T) (r : RepD G F v x) : Stt G F H σ ρ ((v, .d x) :: T) := ⟨h.1, (h.2.addD r).perm List.perm_middle.symm⟩
theorem Stt.headD {x : D} (h : Stt G F H σ ρ ((v, .d x) :: T)) : RepD G F v x := (h.2.perm List.perm_middle).headD
theorem Stt.freeze (nd : ∀ m, o ≠ .deck m) (h : Stt G F H σ ρ ((v, o) :: T)) : ∃ F', Ex F F' ∧ Stt G F' H σ ρ ((v, .d (fz o)) :: T) := by
  obtain ⟨F', e, h'⟩ := (h.2.perm List.perm_middle).freeze nd
  exact ⟨F', e, h.1, h'.perm List.perm_middle.symm⟩
theorem Stt.newL {p : Addr} {vs : List V} {xs : List D} (h : Stt G F H σ ρ T) (hp : H p = none) (r : RepDs G F vs xs) : Stt G F (upd H p (.lst vs)) σ ρ ((.ref p, .lst xs) :: T) := ⟨h.1, (h.2.newL hp r).perm List.perm_middle.symm⟩
theorem Stt.newK {p : Addr} {ks : List (Key × V)} {kvs : List (Key × D)} (h : Stt G F H σ ρ T) (hp : H p = none) (r : RepPs G F ks kvs) : Stt G F (upd H p (.dK ks)) σ ρ ((.ref p, .dic kvs) :: T) := ⟨h.1, (h.2.newK hp r).perm List.perm_middle.symm⟩
theorem Stt.newT {p : Addr} {vs : List V} {xs : List D} (h : Stt G F H σ ρ T) (hp : H p = none) (r : RepDs G F vs xs) :
    Ex F (upd F p (.tup vs)) ∧ Stt G (upd F p (.tup vs)) (upd H p (.tup vs)) σ ρ ((.ref p, .d (.tup xs)) :: T) := let ⟨a, b⟩ := h.2.newT hp r; ⟨a, h.1, b.perm List.perm_middle.symm⟩
theorem Stt.headL {xs : List D} (h : Stt G F H σ ρ ((v, .lst xs) :: T)) : ∃ p vs, v = .ref p ∧ H p = some (.lst vs) ∧ RepDs G F vs xs ∧
    (∀ vs' xs', RepDs G F vs' xs' → Stt G F (upd H p (.lst vs')) σ ρ ((v, .lst xs') :: T)) := by
  obtain ⟨p, vs, e1, e2, e3, k⟩ := (h.2.perm List.perm_middle).headL
  exact ⟨p, vs, e1, e2, e3, fun vs' xs' r => ⟨h.1, (k vs' xs' r).perm List.perm_middle.symm⟩⟩
theorem Stt.headK {xs : List (Key × D)} (h : Stt G F H σ ρ ((v, .dic xs) :: T)) : ∃ p ks, v = .ref p ∧ H p = some (.dK ks) ∧ RepPs G F ks xs ∧
    (∀ ks' xs', RepPs G F ks' xs' → Stt G F (upd H p (.dK ks')) σ ρ ((v, .dic xs') :: T)) := by
  obtain ⟨p, vs, e1, e2, e3, k⟩ := (h.2.perm List.perm_middle).headK
  exact ⟨p, vs, e1, e2, e3, fun vs' xs' r => ⟨h.1, (k vs' xs' r).perm List.perm_middle.symm⟩⟩
theorem Stt.headDk {m : Nat × Addr} (h : Stt G F H σ ρ ((v, .deck m) :: T)) : ∃ (p : Addr) (mx dr : Int) (ns : List Int), v = .ref p ∧ H p = some (.dK (deckK G m.2 mx dr)) ∧ H m.2 = some (.lst (ns.map V.int)) ∧ ns.length = m.1 ∧ p ≠ m.2 ∧
    (∀ mx' dr', Stt G F (upd H p (.dK (deckK G m.2 mx' dr'))) σ ρ ((v, .deck m) :: T)) ∧ (∀ ns' : List Int, Stt G F (upd H m.2 (.lst (ns'.map V.int))) σ ρ ((v, .deck (ns'.length, m.2)) :: T)) := by
  obtain ⟨p, mx, dr, ns, a1, a2, a3, a4, a5, k1, k2⟩ := (h.2.perm List.perm_middle).headDk
  exact ⟨p, mx, dr, ns, a1, a2, a3, a4, a5, fun mx' dr' => ⟨h.1, (k1 mx' dr').perm List.perm_middle.symm⟩, fun ns' => ⟨h.1, (k2 ns').perm List.perm_middle.symm⟩⟩
theorem Stt.mkDk {v1 : V} {ns : List Int} (h : Stt G F H σ ρ ((v1, .lst (ns.map D.int)) :: (v, .dic []) :: T)) : ∃ p c, v = .ref p ∧ v1 = .ref c ∧ H p = some (.dK []) ∧ ∀ mx dr, Stt G F (upd H p (.dK (deckK G c mx dr))) σ ρ ((v, .deck (ns.length, c)) :: T) := by
  have p : (its σ ρ ++ (v1, O.lst (ns.map D.int)) :: (v, O.dic []) :: T).Perm ((v1, O.lst (ns.map D.int)) :: (v, O.dic []) :: (its σ ρ ++ T)) := List.perm_middle.trans (List.Perm.cons _ List.perm_middle)
  obtain ⟨p, c, e1, e2, hp, k⟩ := (h.2.perm p).mkDk
  exact ⟨p, c, e1, e2, hp, fun mx dr => ⟨h.1, (k mx dr).perm List.perm_middle.symm⟩⟩
/-- two items' places exchanged -/
theorem Stt.swap {x y : V × O} (h : Stt G F H σ ρ (x :: y :: T)) : Stt G F H σ ρ (y :: x :: T) := ⟨h.1, h.2.perm (List.Perm.append_left _ (List.Perm.swap _ _ _))⟩
theorem Stt.permT {T' : List (V × O)} (h : Stt G F H σ ρ T) (p : T.Perm T') : Stt G F H σ ρ T' := ⟨h.1, h.2.perm (List.Perm.append_left _ p)⟩
end
end Pv

set_option Elab.async false
set_option maxRecDepth 100000
set_option maxHeartbeats 4000000
set_option autoImplicit false
set_option linter.unusedVariables false
namespace Pv
open PySem PySem.Spec PyProof.Rows L2
theorem tm_same (l : Addr) (items : Array Value) (n : Nat) (dd : Option Addr) (sl : Array (Option Value)) (x : Int) (u : Tok) (c0 : (decide (x < -(2 ^ 63)) || decide (x ≥ 2 ^ 63)) = false) (c1 : (items.isEmpty || x == 1) = true) :
    Meets (Builtin.«tuple.__mul__» ⟨[.ref l, .int x u], []⟩) (fun _ R s => s.heap.get? l = some { cls := .type "tuple", dict := dd, data := .seq items n, slots := sl } ∧ R (.ok (.ret (.ref l))) s) :=
  .of_wp fun prog w A R s h => by
    obtain ⟨hp, g, d, tk, os⟩ := s
    obtain ⟨hl, h⟩ := h
    have f1 := AutoSeq1.idx_int
    wp_walk using wpAny_loadPart' hl
    repeat (first
      | (refine wpAny_ite_false (decide_eq_false (by rw [c0]; exact Bool.false_ne_true)) ?_; wp_walk using wpAny_loadPart' hl)
      | (refine wpAny_ite_true (decide_eq_true c1) ?_; wp_walk using wpAny_loadPart' hl))
    exact ⟨_, rfl, h⟩
theorem tm_none (l : Addr) (items : Array Value) (n : Nat) (dd : Option Addr) (sl : Array (Option Value)) (x : Int) (u : Tok) (c0 : (decide (x < -(2 ^ 63)) || decide (x ≥ 2 ^ 63)) = false) (c1 : (items.isEmpty || x == 1) = false) (c2 : (decide (x ≤ 0) || items.isEmpty) = true) :
    Meets (Builtin.«tuple.__mul__» ⟨[.ref l, .int x u], []⟩) (fun _ R s => s.heap.get? l = some { cls := .type "tuple", dict := dd, data := .seq items n, slots := sl } ∧
      R (.ok (.ret (Value.ref s.heap.objs.size))) { s with heap := s.heap.push { cls := Value.type "tuple", data := Data.seq #[] }, toks := s.toks }) :=
  .of_wp fun prog w A R s h => by
    obtain ⟨hp, g, d, tk, os⟩ := s
    obtain ⟨hl, h⟩ := h
    have f1 := AutoSeq1.idx_int
    wp_walk using wpAny_loadPart' hl
    repeat (first
      | (refine wpAny_ite_false (decide_eq_false (by rw [c0]; exact Bool.false_ne_true)) ?_; wp_walk using wpAny_loadPart' hl)
      | (refine wpAny_ite_false (decide_eq_false (by rw [c1]; exact Bool.false_ne_true)) ?_; wp_walk using wpAny_loadPart' hl)
      | (refine wpAny_ite_true (decide_eq_true c2) ?_; wp_walk using wpAny_loadPart' hl))
    exact ⟨_, rfl, h⟩
/-- a tuple times an int -/
def rRepA (K : PySem.W.Frag) : R2 := fun x y H Q => ∃ l k xs, x = .ref l ∧ y = .int k ∧ SqT K H l xs ∧ -(2 ^ 63) ≤ k ∧ k < 2 ^ 63 ∧ xs.length * k.toNat ≤ sizeLine ∧
  (xs = [] ∨ k = 1 → Q (.ref l) H) ∧ (xs ≠ [] → k ≠ 1 → ∀ p, H p = none → Q (.ref p) (upd H p (.tup (List.replicate k.toNat xs).flatten)))
theorem op_repA {X : Cx} : OpR X (binaryOp .Mult) (rRepA X.K) := by
  intro pins s σ H x y v u Q I rx ry h
  obtain ⟨l, k, xs, rfl, rfl, hT, h1, h2, hz, q1, q2⟩ := h
  cases rx
  obtain ⟨t, rfl⟩ := ry
  obtain ⟨its, r, ⟨⟨cls, dd, data, sl⟩, ho, hc, n, hd⟩, hs⟩ := I.tuple hT
  simp only at hc hd
  subst hc hd
  have hle : its.length = xs.length := r.length.symm
  have c0 : (decide (k < -(2 ^ 63)) || decide (k ≥ 2 ^ 63)) = false := by
    rw [decide_eq_false (by omega), decide_eq_false (by omega)] <;> rfl
  refine wpAny_binaryOp_repeat_ref (T := "tuple") (U := "int") (by decide) ⟨_, ho, rfl⟩ (fun s' => typeIs_int s' k t) noFill_tuple_mul F.fills_int_mul F.slot_int_rmul repeat_tuple F.slot_int_index.lookup
    (call_meets F.slot_int_rmul (typeIs_int s k t) F.entry_int_rmul (F.args_int_rmul_2 _ _) (int_rmul_tuple k t l its.toArray n dd sl) ⟨ho, rfl, ⟨_, ho, rfl⟩, ?_⟩)
  by_cases e : xs = [] ∨ k = 1
  · have c1 : (its.toArray.isEmpty || k == 1) = true := by
      rcases e with e | e
      · rw [e] at hle
        rw [List.eq_nil_of_length_eq_zero hle]; rfl
      · rw [e]; simp
    exact call_meets F.slot_tuple_mul ⟨_, ho, rfl⟩ F.entry_tuple_mul (F.args_tuple_mul_2 _ _) (tm_same l its.toArray n dd sl k t c0 c1) ⟨ho, .ref l, H, I, rfl, q1 e⟩
  · obtain ⟨hne, hk⟩ := not_or.mp e
    have hn : its ≠ [] := fun e => hne (by
      rw [e] at hle
      exact List.eq_nil_of_length_eq_zero hle.symm)
    have hi : its.toArray.isEmpty = false := by
      cases its with
      | nil => exact absurd rfl hn
      | cons a b => rfl
    have c1 : (its.toArray.isEmpty || k == 1) = false := by
      rw [hi, Bool.false_or]
      exact beq_eq_false_iff_ne.mpr hk
    have flen : (List.replicate k.toNat its).flatten.length ≤ sizeLine := by
      rw [PyProof.Rows.lm_len_rep_flat, hle, Nat.mul_comm]
      exact hz
    have fin : ∀ {s' : Shared}, s' = { s with heap := s.heap.push { cls := Value.type "tuple", data := Data.seq (List.replicate k.toNat its).flatten.toArray }, toks := s.toks } → EP X pins σ Q (Value.ref s.heap.objs.size) s' := fun e => by
      subst e
      refine ⟨.ref s.heap.objs.size, _, I.laid (t' := s.toks) (o := .tup (List.replicate k.toNat xs).flatten) (fun b ob q => Heap.get?_push_of_some _ q) (Nat.le_refl _) ?_, rfl, q2 hne hk _ (I.hok.fresh (Nat.le_refl _))⟩
      exact ⟨by rw [PyProof.Rows.lm_len_rep_flat, Nat.mul_comm]; exact hz, _, r.rep k.toNat, IsTup.new _ _⟩
    by_cases h0 : k ≤ 0
    · have c2 : (decide (k ≤ 0) || its.toArray.isEmpty) = true := by rw [decide_eq_true h0]; rfl
      refine call_meets F.slot_tuple_mul ⟨_, ho, rfl⟩ F.entry_tuple_mul (F.args_tuple_mul_2 _ _) (tm_none l its.toArray n dd sl k t c0 c1 c2) ⟨ho, fin ?_⟩
      have : k.toNat = 0 := by omega
      rw [this]
      rfl
    · have c2 : (decide (k ≤ 0) || its.toArray.isEmpty) = false := by
        rw [hi, Bool.or_false]
        exact decide_eq_false h0
      have hm : ((its.toArray.size : Nat) : Int) * k ≤ sizeLine := by
        rw [List.size_toArray, hle]
        have : ((xs.length * k.toNat : Nat) : Int) ≤ sizeLine := by exact_mod_cast hz
        rw [Int.natCast_mul, Int.toNat_of_nonneg (by omega)] at this
        exact this
      have c4 : Builtin.Tuple.tupleTooMany (((its.toArray.size : Nat) : Int) * k) = false := by
        unfold Builtin.Tuple.tupleTooMany
        exact decide_eq_false (by omega)
      have c3 : ¬ ((its.toArray.size : Nat) : Int) * k > (2 ^ 63 - 1) / 8 := by
        rw [sizeLine_eq] at hm
        omega
      refine call_meets F.slot_tuple_mul ⟨_, ho, rfl⟩ F.entry_tuple_mul (F.args_tuple_mul_2 _ _) (tuple_mulW l its.toArray n dd sl k t c0 c1 c2 c3 c4 (by rw [size_rep, List.size_toArray]; exact flen)) ⟨ho, fin ?_⟩
      rw [size_rep]
end Pv

set_option Elab.async false
set_option maxRecDepth 100000
set_option maxHeartbeats 4000000
set_option autoImplicit false
namespace Pv
open PySem L2

structure Exc where
  cls : Str
  fs : List (Str × D)

abbrev WE := Sl → (O → Sl → Prop) → (Exc → Sl → Prop) → Prop
abbrev WT := Sl → (Bool → Sl → Prop) → (Exc → Sl → Prop) → Prop
abbrev WA := Sl → (List D → Sl → Prop) → (Exc → Sl → Prop) → Prop

/-- an exception's value -/
def ExcR (G : Gs) (F : Hp) (e : Exc) (cls : Value) (d : Option Addr) : Prop :=
  ∃ C, G.cl e.cls = some C ∧ cls = .ref C ∧ ((e.fs = [] ∧ d = none) ∨ ∃ dd fs, d = some dd ∧ F dd = some (.xd fs) ∧ RepPs G F fs e.fs)
theorem ExcR.mono {G : Gs} {F F' : Hp} {e : Exc} {cls : Value} {d : Option Addr} (h : ExcR G F e cls d) (x : Ex F F') : ExcR G F' e cls d := by
  obtain ⟨C, h1, h2, h3⟩ := h
  refine ⟨C, h1, h2, ?_⟩
  rcases h3 with h3 | ⟨dd, fs, a, b, c⟩
  · exact .inl h3
  · exact .inr ⟨dd, fs, a, x _ _ b, c.mono x⟩

/-- what a judgement hands on -/
def KQ (G : Gs) (F : Hp) (σ : St) (T : List (V × O)) (Qd : O → Sl → Prop) (Q : VK) : Prop :=
  ∀ o ρ' v F' H', Qd o ρ' → Ex F F' → Stt G F' H' σ ρ' ((v, o) :: T) → Q v H'
def KE (G : Gs) (W : WX) (F : Hp) (σ : St) (T : List (V × O)) (Ed : Exc → Sl → Prop) : Prop :=
  ∀ e ρ' F' H' cls d, Ed e ρ' → Ex F F' → Stt G F' H' σ ρ' T → ExcR G F' e cls d → W cls d σ H'
def KT (G : Gs) (F : Hp) (σ : St) (T : List (V × O)) (Qd : Bool → Sl → Prop) (Q : Bool → Hp → Prop) : Prop :=
  ∀ b ρ' F' H', Qd b ρ' → Ex F F' → Stt G F' H' σ ρ' T → Q b H'
def KA (G : Gs) (F : Hp) (σ : St) (T : List (V × O)) (Qd : List D → Sl → Prop) (Q : List V → Hp → Prop) : Prop :=
  ∀ xs ρ' vs F' H', Qd xs ρ' → Ex F F' → Stt G F' H' σ ρ' T → RepDs G F' vs xs → Q vs H'
theorem KE.up {G : Gs} {W : WX} {F F1 : Hp} {σ : St} {T : List (V × O)} {Ed : Exc → Sl → Prop} (k : KE G W F σ T Ed) (e : Ex F F1) : KE G W F1 σ T Ed :=
  fun x ρ' F' H' cls d h e' s r => k x ρ' F' H' cls d h (e.trans e') s r
theorem KE.more {G : Gs} {W : WX} {F : Hp} {σ : St} {T : List (V × O)} {Ed : Exc → Sl → Prop} {i : V × O} (k : KE G W F σ T Ed) : KE G W F σ (i :: T) Ed :=
  fun x ρ' F' H' cls d h e' s r => k x ρ' F' H' cls d h e' s.drop r

def SE (G : Gs) (W : WX) (te : TE) (m : WE) : Prop :=
  ∀ (σ : St) (ρ : Sl) (F H : Hp) (T : List (V × O)) (Q : VK) (Qd : O → Sl → Prop) (Ed : Exc → Sl → Prop),
    Stt G F H σ ρ T → m ρ Qd Ed → KQ G F σ T Qd Q → KE G W F σ T Ed → te σ H Q
def ST (G : Gs) (W : WX) (tt : TT) (m : WT) : Prop :=
  ∀ (σ : St) (ρ : Sl) (F H : Hp) (T : List (V × O)) (Q : Bool → Hp → Prop) (Qd : Bool → Sl → Prop) (Ed : Exc → Sl → Prop),
    Stt G F H σ ρ T → m ρ Qd Ed → KT G F σ T Qd Q → KE G W F σ T Ed → tt σ H Q
def SA (G : Gs) (W : WX) (ta : TA) (m : WA) : Prop :=
  ∀ (σ : St) (ρ : Sl) (F H : Hp) (T : List (V × O)) (Q : List V → Hp → Prop) (Qd : List D → Sl → Prop) (Ed : Exc → Sl → Prop),
    Stt G F H σ ρ T → m ρ Qd Ed → KA G F σ T Qd Q → KE G W F σ T Ed → ta σ H Q

structure JE (X : Cx) (G : Gs) (W : WX) (e : Expr) (m : WE) : Prop where
  ex : ∃ te, PE X e te ∧ SE G W te m
structure JT (X : Cx) (G : Gs) (W : WX) (e : Expr) (m : WT) : Prop where
  ex : ∃ tt, PT X e tt ∧ ST G W tt m
structure JW (X : Cx) (G : Gs) (W : WX) (e : Expr) (m : WT) : Prop where
  ex : ∃ tt, PW X e tt ∧ ST G W tt m
structure JA (X : Cx) (G : Gs) (W : WX) (es : List Expr) (m : WA) : Prop where
  ex : ∃ ta, PA X es ta ∧ SA G W ta m

def notDeck : O → Prop
  | .deck _ => False
  | _ => True
theorem notDeck.ne {o : O} (h : notDeck o) : ∀ m, o ≠ .deck m := fun m e => by subst e; exact h
/-- frozen on the way -/
def cold (o : O) (k : D → Prop) : Prop := notDeck o ∧ k (fz o)

/-- the way by a test's answer -/
def ifB (k : Bool) (A B : Prop) : Prop := (k = true → A) ∧ (k = false → B)
theorem ifB_t {A B : Prop} (h : A) : ifB true A B := ⟨fun _ => h, fun e => Bool.noConfusion e⟩
theorem ifB_f {A B : Prop} (h : B) : ifB false A B := ⟨fun e => Bool.noConfusion e, fun _ => h⟩
/-! ### names, constants -/
def wVar (i : Nat) : WE := fun ρ Q _ => ∃ o, ρ[i]? = some (some o) ∧ match o with
  | .d x => Q (.d x) ρ
  | .deck _ => False
  | o => Q (.d (fz o)) (ρ.set i (some (.d (fz o))))
theorem se_var {G : Gs} {W : WX} (i : Nat) : SE G W (tVar i) (wVar i) := by
  intro σ ρ F H T Q Qd Ed S h kq ke
  obtain ⟨o, ho, h⟩ := h
  obtain ⟨v, hv, S1⟩ := S.out ho
  refine ⟨v, hv, ?_⟩
  have gen : ∀ o', notDeck o' → Stt G F H σ (ρ.set i none) ((v, o') :: T) → Qd (.d (fz o')) (ρ.set i (some (.d (fz o')))) → Q v H := fun o' nd S1 q => by
    obtain ⟨F', e, S2⟩ := S1.freeze nd.ne
    have r := S2.headD
    exact kq _ _ v F' H q e ((S2.back hv _ rfl).addD r)
  cases o with
  | d x =>
    have r := S1.headD
    exact kq _ _ v F H h (Ex.refl F) (S.addD r)
  | deck m => exact h.elim
  | lst xs => exact gen _ (by trivial) S1 h
  | dic xs => exact gen _ (by trivial) S1 h
  | ins c xs => exact gen _ (by trivial) S1 h
/-- the slot's content itself is handed on: the slot has it no more -/
def wMove (i : Nat) : WE := fun ρ Q _ => ∃ o, ρ[i]? = some (some o) ∧ match o with
  | .d x => Q (.d x) ρ
  | o => Q o (ρ.set i none)
theorem se_move {G : Gs} {W : WX} (i : Nat) : SE G W (tVar i) (wMove i) := by
  intro σ ρ F H T Q Qd Ed S h kq ke
  obtain ⟨o, ho, h⟩ := h
  obtain ⟨v, hv, S1⟩ := S.out ho
  refine ⟨v, hv, ?_⟩
  cases o with
  | d x =>
    have r := S1.headD
    exact kq _ _ v F H h (Ex.refl F) (S.addD r)
  | deck m => exact kq _ _ v F H h (Ex.refl F) S1
  | lst xs => exact kq _ _ v F H h (Ex.refl F) S1
  | dic xs => exact kq _ _ v F H h (Ex.refl F) S1
  | ins c xs => exact kq _ _ v F H h (Ex.refl F) S1
def wK (x : D) : WE := fun ρ Q _ => Q (.d x) ρ
theorem se_k {G : Gs} {W : WX} {v : V} {x : D} (h : ∀ F, RepD G F v x) : SE G W (tC v) (wK x) := by
  intro σ ρ F H T Q Qd Ed S q kq ke
  exact kq _ _ v F H q (Ex.refl F) (S.addD (h F))

/-! ### operators by values -/
def RB (G : Gs) (r : R2) (m : D → D → (O → Prop) → Prop) : Prop :=
  ∀ (σ : St) (ρ : Sl) (F H : Hp) (T : List (V × O)) (x y : V) (a b : D) (Q : VK) (Qd : O → Prop), Stt G F H σ ρ T → RepD G F x a → RepD G F y b → m a b Qd →
    (∀ o v F' H', Qd o → Ex F F' → Stt G F' H' σ ρ ((v, o) :: T) → Q v H') → r x y H Q
def wBin (m : D → D → (O → Prop) → Prop) (ma mb : WE) : WE := fun ρ Q E => ma ρ (fun a ρ1 => mb ρ1 (fun b ρ2 => cold a fun x => cold b fun y => m x y fun o => Q o ρ2) E) E
theorem se_bin {G : Gs} {W : WX} {r : R2} {m : D → D → (O → Prop) → Prop} {ta tb : TE} {ma mb : WE} (hr : RB G r m) (ha : SE G W ta ma) (hb : SE G W tb mb) : SE G W (tOp r ta tb) (wBin m ma mb) := by
  intro σ ρ F H T Q Qd Ed S h kq ke
  refine ha σ ρ F H T _ _ Ed S h (fun a ρ1 x F1 H1 hq1 e1 S1 => ?_) ke
  refine hb σ ρ1 F1 H1 ((x, a) :: T) _ _ Ed S1 hq1 (fun b ρ2 y F2 H2 hq2 e2 S2 => ?_) (ke.up e1).more
  obtain ⟨na, nb, hq2⟩ := hq2
  obtain ⟨F3, e3, S3⟩ := S2.freeze nb.ne
  obtain ⟨F4, e4, S4⟩ := S3.swap.freeze na.ne
  exact hr σ ρ2 F4 H2 T x y _ _ Q _ S4.drop.drop S4.headD S4.swap.headD hq2 fun o v F' H' q e' S' => kq o ρ2 v F' H' q (e1.trans (e2.trans (e3.trans (e4.trans e')))) S'
theorem RB.or {G : Gs} {r r' : R2} {m m' : D → D → (O → Prop) → Prop} (h : RB G r m) (h' : RB G r' m') : RB G (fun x y H Q => r x y H Q ∨ r' x y H Q) (fun a b k => m a b k ∨ m' a b k) := by
  intro σ ρ F H T x y a b Q Qd S ra rb q k
  rcases q with q | q
  · exact .inl (h σ ρ F H T x y a b Q Qd S ra rb q k)
  · exact .inr (h' σ ρ F H T x y a b Q Qd S ra rb q k)
theorem RB.imp {G : Gs} {r : R2} {m m' : D → D → (O → Prop) → Prop} (h : RB G r m) (i : ∀ a b k, m' a b k → m a b k) : RB G r m' :=
  fun σ ρ F H T x y a b Q Qd S ra rb q k => h σ ρ F H T x y a b Q Qd S ra rb (i a b Qd q) k
/-- ints -/
def mI (C : Int → Int → Prop) (g : Int → Int → D) : D → D → (O → Prop) → Prop
  | .int i, .int j, Q => C i j ∧ Q (.d (g i j))
  | _, _, _ => False
theorem rb_int {G : Gs} {C : Int → Int → Prop} {g : Int → Int → Int} : RB G (rI C fun i j => .int (g i j)) (mI C fun i j => .int (g i j)) := by
  intro σ ρ F H T x y a b Q Qd S ra rb q k
  cases ra with
  | int i => cases rb with
    | int j => exact ⟨i, j, rfl, rfl, q.1, k _ _ F H q.2 (Ex.refl F) (S.addD (.int _))⟩
    | _ => exact q.elim
  | _ => exact q.elim
theorem rb_intB {G : Gs} {C : Int → Int → Prop} {g : Int → Int → Bool} : RB G (rI C fun i j => .bl (g i j)) (mI C fun i j => .bl (g i j)) := by
  intro σ ρ F H T x y a b Q Qd S ra rb q k
  cases ra with
  | int i => cases rb with
    | int j => exact ⟨i, j, rfl, rfl, q.1, k _ _ F H q.2 (Ex.refl F) (S.addD (.bl _))⟩
    | _ => exact q.elim
  | _ => exact q.elim
def mI0 (g : Int → Int → D) : D → D → (O → Prop) → Prop
  | .int i, .int j, Q => Q (.d (g i j))
  | _, _, _ => False
theorem rb_int0 {G : Gs} {g : Int → Int → Int} : RB G (rI0 fun i j => .int (g i j)) (mI0 fun i j => .int (g i j)) := by
  intro σ ρ F H T x y a b Q Qd S ra rb q k
  cases ra with
  | int i => cases rb with
    | int j => exact ⟨i, j, rfl, rfl, k _ _ F H q (Ex.refl F) (S.addD (.int _))⟩
    | _ => exact q.elim
  | _ => exact q.elim
theorem rb_int0B {G : Gs} {g : Int → Int → Bool} : RB G (rI0 fun i j => .bl (g i j)) (mI0 fun i j => .bl (g i j)) := by
  intro σ ρ F H T x y a b Q Qd S ra rb q k
  cases ra with
  | int i => cases rb with
    | int j => exact ⟨i, j, rfl, rfl, k _ _ F H q (Ex.refl F) (S.addD (.bl _))⟩
    | _ => exact q.elim
  | _ => exact q.elim
/-- x + y -/
def mAdd : D → D → (O → Prop) → Prop
  | .int i, .int j, Q => Q (.d (.int (i + j)))
  | .str s, .str t, Q => s.length + t.length ≤ sizeLine ∧ Q (.d (.str (s ++ t)))
  | .lst xs, .lst ys, Q => xs.length + ys.length ≤ sizeLine ∧ Q (.lst (xs ++ ys))
  | .tup xs, .tup ys, Q => xs.length + ys.length ≤ sizeLine ∧ Q (.d (.tup (xs ++ ys)))
  | _, _, _ => False
def rAddU (K : PySem.W.Frag) : R2 := fun x y H Q => (((rI0 fun i j => .int (i + j)) x y H Q ∨ ∃ i j, x = .str i ∧ y = .str j ∧ i.length + j.length ≤ sizeLine ∧ Q (.str (i ++ j)) H) ∨ rCat x y H Q) ∨ rCatA K x y H Q
theorem op_addU {X : Cx} : OpR X (binaryOp .Add) (rAddU X.K) := ((op_add.or op_add_str).or op_cat).or op_catA
theorem Stt.tupK {G : Gs} {F H : Hp} {σ : St} {ρ : Sl} {T : List (V × O)} (S : Stt G F H σ ρ T) {a : Addr} {vs : List V} (h : SqT G.K F a vs) : SqT G.K H a vs := S.ex.st h
theorem rb_add {G : Gs} : RB G (rAddU G.K) mAdd := by
  intro σ ρ F H T x y a b Q Qd S ra rb q k
  cases ra with
  | int i => cases rb with
    | int j => exact .inl (.inl (.inl ⟨i, j, rfl, rfl, k _ _ F H q (Ex.refl F) (S.addD (.int _))⟩))
    | _ => exact q.elim
  | str s => cases rb with
    | str t => exact .inl (.inl (.inr ⟨s, t, rfl, rfl, q.1, k _ _ F H q.2 (Ex.refl F) (S.addD (.str _))⟩))
    | _ => exact q.elim
  | lst h1 r1 => cases rb with
    | lst h2 r2 => exact .inl (.inr ⟨_, _, _, _, rfl, rfl, S.ex _ _ h1, S.ex _ _ h2, by rw [r1.length, r2.length]; exact q.1, fun p hp => k _ _ F _ q.2 (Ex.refl F) (S.newL hp (r1.append r2))⟩)
    | _ => exact q.elim
  | tup h1 r1 => cases rb with
    | tup h2 r2 =>
      refine .inr ⟨_, _, _, _, rfl, rfl, S.tupK h1, S.tupK h2, by rw [r1.length, r2.length]; exact q.1, fun e => ?_, fun _ e => ?_, fun _ _ p hp => ?_⟩
      · subst e
        cases r1
        exact k _ _ F H q.2 (Ex.refl F) (S.addD (.tup h2 r2))
      · subst e
        cases r2
        exact k _ _ F H q.2 (Ex.refl F) (S.addD (.tup h1 (by rw [List.append_nil]; exact r1)))
      · have z := S.newT hp (r1.append r2)
        exact k _ _ _ _ q.2 z.1 z.2
    | _ => exact q.elim
  | _ => exact q.elim
/-- x * y: ints; a list or a tuple by an int -/
def mMul : D → D → (O → Prop) → Prop
  | .int i, .int j, Q => (CMul i j ∨ CMulW i j) ∧ Q (.d (.int (i * j)))
  | .lst xs, .int k, Q => (-(2 ^ 63) ≤ k ∧ k < 2 ^ 63) ∧ xs.length * k.toNat ≤ sizeLine ∧ Q (.lst (List.replicate k.toNat xs).flatten)
  | .tup xs, .int k, Q => (-(2 ^ 63) ≤ k ∧ k < 2 ^ 63) ∧ xs.length * k.toNat ≤ sizeLine ∧ Q (.d (.tup (List.replicate k.toNat xs).flatten))
  | _, _, _ => False
def rMulU (K : PySem.W.Frag) : R2 := fun x y H Q => ((rI CMul (fun i j => .int (i * j)) x y H Q ∨ rI CMulW (fun i j => .int (i * j)) x y H Q) ∨ rRep x y H Q) ∨ rRepA K x y H Q
theorem op_mulU {X : Cx} : OpR X (binaryOp .Mult) (rMulU X.K) := ((op_mul.or op_mulW).or op_rep).or op_repA
theorem rb_mul {G : Gs} : RB G (rMulU G.K) mMul := by
  intro σ ρ F H T x y a b Q Qd S ra rb q k
  cases ra with
  | int i => cases rb with
    | int j => exact .inl (.inl (q.1.elim (fun z => .inl ⟨i, j, rfl, rfl, z, k _ _ F H q.2 (Ex.refl F) (S.addD (.int _))⟩) fun z => .inr ⟨i, j, rfl, rfl, z, k _ _ F H q.2 (Ex.refl F) (S.addD (.int _))⟩))
    | _ => exact q.elim
  | lst h1 r1 => cases rb with
    | int j => exact .inl (.inr ⟨_, j, _, rfl, rfl, S.ex _ _ h1, q.1.1, q.1.2, by rw [r1.length]; exact q.2.1, fun p hp => k _ _ F _ q.2.2 (Ex.refl F) (S.newL hp (r1.flat _))⟩)
    | _ => exact q.elim
  | tup h1 r1 => cases rb with
    | int j =>
      refine .inr ⟨_, j, _, rfl, rfl, S.tupK h1, q.1.1, q.1.2, by rw [r1.length]; exact q.2.1, fun e => ?_, fun _ _ p hp => ?_⟩
      · refine k _ _ F H q.2.2 (Ex.refl F) (S.addD (.tup h1 ?_))
        rename_i vs xs
        have z := r1.flat (n := j.toNat)
        have e2 : (List.replicate j.toNat vs).flatten = vs := by
          rcases e with e | e
          · rw [e]
            have : ∀ m, (List.replicate m ([] : List V)).flatten = [] := fun m => by induction m with
              | zero => rfl
              | succ m ih => rw [List.replicate_succ, List.flatten_cons, ih]; rfl
            exact this _
          · rw [e]; show (List.replicate 1 vs).flatten = vs; simp
        rw [e2] at z
        exact z
      · have z := S.newT hp (r1.flat j.toNat)
        exact k _ _ _ _ q.2.2 z.1 z.2
    | _ => exact q.elim
  | _ => exact q.elim

/-! ### displays, argument lists -/
def wNil : WA := fun ρ Q _ => Q [] ρ
def wCons (m : WE) (r : WA) : WA := fun ρ Q E => m ρ (fun o ρ1 => cold o fun x => r ρ1 (fun xs ρ2 => Q (x :: xs) ρ2) E) E
theorem sa_nil {G : Gs} {W : WX} : SA G W tNil wNil := by
  intro σ ρ F H T Q Qd Ed S h kq ke
  exact kq [] ρ [] F H h (Ex.refl F) S .nil
theorem sa_cons {G : Gs} {W : WX} {te : TE} {tr : TA} {m : WE} {r : WA} (h1 : SE G W te m) (h2 : SA G W tr r) : SA G W (tCons te tr) (wCons m r) := by
  intro σ ρ F H T Q Qd Ed S h kq ke
  refine h1 σ ρ F H T _ _ Ed S h (fun a ρ1 x F1 H1 hq1 e1 S1 => ?_) ke
  obtain ⟨na, hq1⟩ := hq1
  obtain ⟨F2, e2, S2⟩ := S1.freeze na.ne
  refine h2 σ ρ1 F2 H1 T _ _ Ed S2.drop hq1 (fun xs ρ2 vs F3 H2 hq3 e3 S3 r3 => ?_) (ke.up (e1.trans e2))
  exact kq _ _ (x :: vs) F3 H2 hq3 (e1.trans (e2.trans e3)) S3 (.cons (S2.headD.mono e3) r3)
def wTup (m : WA) : WE := fun ρ Q E => m ρ (fun xs ρ1 => xs.length ≤ sizeLine ∧ Q (.d (.tup xs)) ρ1) E
theorem se_tup {G : Gs} {W : WX} {ta : TA} {m : WA} (h1 : SA G W ta m) : SE G W (tTup ta) (wTup m) := by
  intro σ ρ F H T Q Qd Ed S h kq ke
  refine h1 σ ρ F H T _ _ Ed S h (fun xs ρ1 vs F1 H1 hq e S1 r => ⟨by rw [r.length]; exact hq.1, fun p hp => ?_⟩) ke
  have z := S1.newT hp r
  exact kq _ _ _ _ _ hq.2 (e.trans z.1) z.2
def wLst (m : WA) : WE := fun ρ Q E => m ρ (fun xs ρ1 => xs.length ≤ sizeLine ∧ Q (.lst xs) ρ1) E
theorem se_lst {G : Gs} {W : WX} {ta : TA} {m : WA} (h1 : SA G W ta m) : SE G W (tLst ta) (wLst m) := by
  intro σ ρ F H T Q Qd Ed S h kq ke
  refine h1 σ ρ F H T _ _ Ed S h (fun xs ρ1 vs F1 H1 hq e S1 r => ⟨by rw [r.length]; exact hq.1, fun p hp => ?_⟩) ke
  exact kq _ _ _ _ _ hq.2 e (S1.newL hp r)

/-! ### unary minus, if-expressions, tests -/
def wNeg (m : WE) : WE := fun ρ Q E => m ρ (fun o ρ1 => match o with | .d (.int i) => Q (.d (.int (-i))) ρ1 | _ => False) E
theorem se_neg {G : Gs} {W : WX} {te : TE} {m : WE} (h1 : SE G W te m) : SE G W (tUn (rU fun i => .int (-i)) te) (wNeg m) := by
  intro σ ρ F H T Q Qd Ed S h kq ke
  refine h1 σ ρ F H T _ _ Ed S h (fun a ρ1 x F1 H1 hq1 e1 S1 => ?_) ke
  cases a with
  | d y =>
    have r := S1.headD
    cases r with
    | int i => exact ⟨i, rfl, kq _ _ _ F1 H1 hq1 e1 (S1.drop.addD (.int _))⟩
    | _ => exact hq1.elim
  | _ => exact hq1.elim
/-- truth -/
def truD : D → (Bool → Prop) → Prop
  | .non, k => k false
  | .bl b, k => k b
  | .int i, k => k (i != 0)
  | .str s, k => s.length ≤ sizeLine ∧ k ((s.length : Int) != 0)
  | .tup xs, k => k (!xs.isEmpty)
  | .lst xs, k => k (!xs.isEmpty)
  | .dic xs, k => k (!xs.isEmpty)
  | _, _ => False
theorem RepDs.empty {G : Gs} {F : Hp} {vs : List V} {xs : List D} (r : RepDs G F vs xs) : vs.isEmpty = xs.isEmpty := by cases r <;> rfl
theorem RepPs.empty {G : Gs} {F : Hp} {α : Type} {vs : List (α × V)} {xs : List (α × D)} (r : RepPs G F vs xs) : vs.isEmpty = xs.isEmpty := by cases r <;> rfl
theorem tru_of {G : Gs} {F H : Hp} {v : V} {x : D} (r : RepD G F v x) (e : Ex F H) {k : Bool → Prop} (h : truD x k) : ∃ b, TruV G.K v H b ∧ k b := by
  cases r with
  | non => exact ⟨_, rfl, h⟩
  | bl b => exact ⟨_, rfl, h⟩
  | int i => exact ⟨_, rfl, h⟩
  | str s => exact ⟨_, ⟨h.1, rfl⟩, h.2⟩
  | tup h1 r => exact ⟨_, .inr (.inl ⟨_, e.st h1, rfl⟩), by rw [r.empty]; exact h⟩
  | lst h1 r => exact ⟨_, .inl ⟨_, SqL.of (e _ _ h1), rfl⟩, by rw [r.empty]; exact h⟩
  | dic h1 r => exact ⟨_, .inr (.inr ⟨_, e _ _ h1, rfl⟩), by rw [r.empty]; exact h⟩
  | _ => exact h.elim
def wTru (m : WE) : WT := fun ρ Q E => m ρ (fun o ρ1 => cold o fun x => truD x fun b => Q b ρ1) E
def tTru (K : PySem.W.Frag) (ta : TE) : TT := fun σ H Q => ta σ H fun x H' => ∃ k, TruV K x H' k ∧ Q k H'
theorem st_tru {G : Gs} {W : WX} {te : TE} {m : WE} (h1 : SE G W te m) : ST G W (tTru G.K te) (wTru m) := by
  intro σ ρ F H T Q Qd Ed S h kq ke
  refine h1 σ ρ F H T _ _ Ed S h (fun a ρ1 x F1 H1 hq1 e1 S1 => ?_) ke
  obtain ⟨na, hq1⟩ := hq1
  obtain ⟨F2, e2, S2⟩ := S1.freeze na.ne
  obtain ⟨b, hb, q⟩ := tru_of S2.headD S2.ex hq1
  exact ⟨b, hb, kq b ρ1 F2 H1 q (e1.trans e2) S2.drop⟩
/-- a test whose value is a bool -/
def wBool (m : WE) : WT := fun ρ Q E => m ρ (fun o ρ1 => match o with | .d (.bl b) => Q b ρ1 | _ => False) E
theorem st_bool {G : Gs} {W : WX} {te : TE} {m : WE} (h1 : SE G W te m) : ST G W (tTest te) (wBool m) := by
  intro σ ρ F H T Q Qd Ed S h kq ke
  refine h1 σ ρ F H T _ _ Ed S h (fun a ρ1 x F1 H1 hq1 e1 S1 => ?_) ke
  cases a with
  | d y =>
    have r := S1.headD
    cases r with
    | bl b => exact ⟨b, rfl, kq b ρ1 F1 H1 hq1 e1 S1.drop⟩
    | _ => exact hq1.elim
  | _ => exact hq1.elim
def wAndT (a b : WT) : WT := fun ρ Q E => a ρ (fun c ρ1 => ifB c (b ρ1 Q E) (Q false ρ1)) E
theorem st_and {G : Gs} {W : WX} {ta tb : TT} {a b : WT} (h1 : ST G W ta a) (h2 : ST G W tb b) : ST G W (tAnd ta tb) (wAndT a b) := by
  intro σ ρ F H T Q Qd Ed S h kq ke
  refine h1 σ ρ F H T _ _ Ed S h (fun c ρ1 F1 H1 hq1 e1 S1 => ?_) ke
  cases c with
  | true => exact (if_pos rfl).mpr (h2 σ ρ1 F1 H1 T Q Qd Ed S1 (hq1.1 rfl) (fun c ρ2 F2 H2 q e2 S2 => kq c ρ2 F2 H2 q (e1.trans e2) S2) (ke.up e1))
  | false => exact (if_neg Bool.false_ne_true).mpr (kq false ρ1 F1 H1 (hq1.2 rfl) e1 S1)
def wOrT (a b : WT) : WT := fun ρ Q E => a ρ (fun c ρ1 => ifB c (Q true ρ1) (b ρ1 Q E)) E
theorem st_or {G : Gs} {W : WX} {ta tb : TT} {a b : WT} (h1 : ST G W ta a) (h2 : ST G W tb b) : ST G W (tOr ta tb) (wOrT a b) := by
  intro σ ρ F H T Q Qd Ed S h kq ke
  refine h1 σ ρ F H T _ _ Ed S h (fun c ρ1 F1 H1 hq1 e1 S1 => ?_) ke
  cases c with
  | false => exact (if_neg Bool.false_ne_true).mpr (h2 σ ρ1 F1 H1 T Q Qd Ed S1 (hq1.2 rfl) (fun c ρ2 F2 H2 q e2 S2 => kq c ρ2 F2 H2 q (e1.trans e2) S2) (ke.up e1))
  | true => exact (if_pos rfl).mpr (kq true ρ1 F1 H1 (hq1.1 rfl) e1 S1)
def wNotT (a : WT) : WT := fun ρ Q E => a ρ (fun c ρ1 => Q (!c) ρ1) E
theorem st_not {G : Gs} {W : WX} {ta : TT} {a : WT} (h1 : ST G W ta a) : ST G W (tNot ta) (wNotT a) := by
  intro σ ρ F H T Q Qd Ed S h kq ke
  exact h1 σ ρ F H T _ _ Ed S h (fun c ρ1 F1 H1 hq1 e1 S1 => kq (!c) ρ1 F1 H1 hq1 e1 S1) ke
def wIf (c : WT) (a b : WE) : WE := fun ρ Q E => c ρ (fun k ρ1 => ifB k (a ρ1 Q E) (b ρ1 Q E)) E
theorem se_if {G : Gs} {W : WX} {tc : TT} {ta tb : TE} {c : WT} {a b : WE} (h0 : ST G W tc c) (h1 : SE G W ta a) (h2 : SE G W tb b) : SE G W (tIf tc ta tb) (wIf c a b) := by
  intro σ ρ F H T Q Qd Ed S h kq ke
  refine h0 σ ρ F H T _ _ Ed S h (fun k ρ1 F1 H1 hq1 e1 S1 => ?_) ke
  have kq1 : KQ G F1 σ T Qd Q := fun o ρ2 v F2 H2 q e2 S2 => kq o ρ2 v F2 H2 q (e1.trans e2) S2
  cases k with
  | true => exact (if_pos rfl).mpr (h1 σ ρ1 F1 H1 T Q Qd Ed S1 (hq1.1 rfl) kq1 (ke.up e1))
  | false => exact (if_neg Bool.false_ne_true).mpr (h2 σ ρ1 F1 H1 T Q Qd Ed S1 (hq1.2 rfl) kq1 (ke.up e1))
/-- and, or, not as values -/
def wAndV (a b : WE) : WE := fun ρ Q E => a ρ (fun o ρ1 => cold o fun x => truD x fun k => ifB k (b ρ1 Q E) (Q (.d x) ρ1)) E
theorem se_and {G : Gs} {W : WX} {ta tb : TE} {a b : WE} (h1 : SE G W ta a) (h2 : SE G W tb b) : SE G W (tAndT G.K ta tb) (wAndV a b) := by
  intro σ ρ F H T Q Qd Ed S h kq ke
  refine h1 σ ρ F H T _ _ Ed S h (fun a ρ1 x F1 H1 hq1 e1 S1 => ?_) ke
  obtain ⟨na, hq1⟩ := hq1
  obtain ⟨F2, e2, S2⟩ := S1.freeze na.ne
  obtain ⟨k, hk, q⟩ := tru_of S2.headD S2.ex hq1
  refine ⟨k, hk, ?_⟩
  cases k with
  | true => exact (if_pos rfl).mpr (h2 σ ρ1 F2 H1 T Q Qd Ed S2.drop (q.1 rfl) (fun o ρ2 v F3 H3 q e3 S3 => kq o ρ2 v F3 H3 q (e1.trans (e2.trans e3)) S3) (ke.up (e1.trans e2)))
  | false => exact (if_neg Bool.false_ne_true).mpr (kq _ _ _ F2 H1 (q.2 rfl) (e1.trans e2) S2)
def wOrV (a b : WE) : WE := fun ρ Q E => a ρ (fun o ρ1 => cold o fun x => truD x fun k => ifB k (Q (.d x) ρ1) (b ρ1 Q E)) E
theorem se_or {G : Gs} {W : WX} {ta tb : TE} {a b : WE} (h1 : SE G W ta a) (h2 : SE G W tb b) : SE G W (tOrT G.K ta tb) (wOrV a b) := by
  intro σ ρ F H T Q Qd Ed S h kq ke
  refine h1 σ ρ F H T _ _ Ed S h (fun a ρ1 x F1 H1 hq1 e1 S1 => ?_) ke
  obtain ⟨na, hq1⟩ := hq1
  obtain ⟨F2, e2, S2⟩ := S1.freeze na.ne
  obtain ⟨k, hk, q⟩ := tru_of S2.headD S2.ex hq1
  refine ⟨k, hk, ?_⟩
  cases k with
  | false => exact (if_neg Bool.false_ne_true).mpr (h2 σ ρ1 F2 H1 T Q Qd Ed S2.drop (q.2 rfl) (fun o ρ2 v F3 H3 q e3 S3 => kq o ρ2 v F3 H3 q (e1.trans (e2.trans e3)) S3) (ke.up (e1.trans e2)))
  | true => exact (if_pos rfl).mpr (kq _ _ _ F2 H1 (q.1 rfl) (e1.trans e2) S2)
def wNotV (a : WE) : WE := fun ρ Q E => a ρ (fun o ρ1 => cold o fun x => truD x fun k => Q (.d (.bl (!k))) ρ1) E
theorem se_not {G : Gs} {W : WX} {ta : TE} {a : WE} (h1 : SE G W ta a) : SE G W (tNotT G.K ta) (wNotV a) := by
  intro σ ρ F H T Q Qd Ed S h kq ke
  refine h1 σ ρ F H T _ _ Ed S h (fun a ρ1 x F1 H1 hq1 e1 S1 => ?_) ke
  obtain ⟨na, hq1⟩ := hq1
  obtain ⟨F2, e2, S2⟩ := S1.freeze na.ne
  obtain ⟨k, hk, q⟩ := tru_of S2.headD S2.ex hq1
  exact ⟨k, hk, kq _ _ _ F2 H1 q (e1.trans e2) (S2.drop.addD (.bl _))⟩
end Pv

set_option Elab.async false
set_option maxRecDepth 100000
set_option maxHeartbeats 4000000
set_option autoImplicit false
namespace Pv
open PySem L2

/-! ### data as the library's -/
mutual
def toPy : D → PyData
  | .non => .none
  | .bl b => .bool b
  | .int i => .int i
  | .str s => .str s
  | .tup xs => .tuple (toPys xs)
  | .lst xs => .list (toPys xs)
  | .dic kvs => .dict (toPyk kvs)
  | .ins _ _ => .none
  | .scr _ => .none
  | .fn _ _ => .none
def toPys : List D → List PyData
  | [] => []
  | x :: xs => toPy x :: toPys xs
def toPyk : List (Key × D) → List (PyData × PyData)
  | [] => []
  | (k, x) :: xs => ((match k with | .inl i => PyData.int i | .inr s => PyData.str s), toPy x) :: toPyk xs
end
mutual
/-- no dict, no object -/
def flatD : D → Bool
  | .non => true
  | .bl _ => true
  | .int _ => true
  | .str _ => true
  | .tup xs => flatDs xs
  | .lst xs => flatDs xs
  | _ => false
def flatDs : List D → Bool
  | [] => true
  | x :: xs => flatD x && flatDs xs
end
mutual
theorem RepD.dp {G : Gs} {F H : Hp} (e : Ex F H) : ∀ {v x}, RepD G F v x → flatD x = true → Dp G.K H v (toPy x)
  | _, _, .non, _ => .non
  | _, _, .bl b, _ => .bl b
  | _, _, .int i, _ => .int i
  | _, _, .str s, _ => .str s
  | _, _, .tup h r, f => .tup (e.st h) (RepDs.dps e r (by unfold flatD at f; exact f))
  | _, _, .lst h r, f => .lst (SqL.of (e _ _ h)) (RepDs.dps e r (by unfold flatD at f; exact f))
  | _, _, .dic _ _, f => by unfold flatD at f; cases f
  | _, _, .ins _ _ _, f => by unfold flatD at f; cases f
  | _, _, .scr _, f => by unfold flatD at f; cases f
theorem RepDs.dps {G : Gs} {F H : Hp} (e : Ex F H) : ∀ {vs xs}, RepDs G F vs xs → flatDs xs = true → DpAll G.K H vs (toPys xs)
  | _, _, .nil, _ => .nil
  | _, _, .cons h r, f => by
    unfold flatDs at f
    obtain ⟨f1, f2⟩ := Bool.and_eq_true_iff.mp f
    exact .cons (RepD.dp e h f1) (RepDs.dps e r f2)
end

/-! ### comparisons -/
def nb : Bool → Bool → Bool
  | false, b => b
  | true, b => !b
def mEqD (ne : Bool) (a b : D) (Q : O → Prop) : Prop :=
  flatD a = true ∧ flatD b = true ∧ SeqAt.shaped (toPy a) = true ∧ SeqAt.shaped (toPy b) = true ∧ Q (.d (.bl (nb ne (PyData.eqv (toPy a) (toPy b)))))
/-- two lists of unlike lengths, whatever is in them; a tuple beside the empty one -/
def mEqL (ne : Bool) (a b : D) (Q : O → Prop) : Prop := (∃ xs ys, a = .lst xs ∧ b = .lst ys ∧ xs.length ≠ ys.length ∧ Q (.d (.bl (nb ne false)))) ∨ ∃ xs, a = .tup xs ∧ b = .tup [] ∧ Q (.d (.bl (nb ne xs.isEmpty)))
def mEq (ne : Bool) (a b : D) (Q : O → Prop) : Prop := match a, b with
  | .int i, .int j => Q (.d (.bl (nb ne (decide (i = j)))))
  | .str i, .str j => Q (.d (.bl (nb ne (decide (i = j)))))
  | .bl i, .bl j => Q (.d (.bl (nb ne (decide (i = j)))))
  | .non, .non => Q (.d (.bl (nb ne true)))
  | .non, .int _ => Q (.d (.bl (nb ne false)))
  | .int _, .non => Q (.d (.bl (nb ne false)))
  | .non, .str _ => Q (.d (.bl (nb ne false)))
  | .str _, .non => Q (.d (.bl (nb ne false)))
  | .non, .bl _ => Q (.d (.bl (nb ne false)))
  | .bl _, .non => Q (.d (.bl (nb ne false)))
  | .str _, .int _ => Q (.d (.bl (nb ne false)))
  | .int _, .str _ => Q (.d (.bl (nb ne false)))
  | a, b => mEqD ne a b Q ∨ mEqL ne a b Q
def rEqN (K : PySem.W.Frag) : R2 := fun x y H Q => (∃ a b vs ws, x = .ref a ∧ y = .ref b ∧ H a = some (.lst vs) ∧ H b = some (.lst ws) ∧ vs.length ≠ ws.length ∧ Q (.bl false) H) ∨ ∃ a b vs, x = .ref a ∧ y = .ref b ∧ SqT K H a vs ∧ SqT K H b [] ∧ Q (.bl vs.isEmpty) H
def rNeN (K : PySem.W.Frag) : R2 := fun x y H Q => (∃ a b vs ws, x = .ref a ∧ y = .ref b ∧ H a = some (.lst vs) ∧ H b = some (.lst ws) ∧ vs.length ≠ ws.length ∧ Q (.bl true) H) ∨ ∃ a b vs, x = .ref a ∧ y = .ref b ∧ SqT K H a vs ∧ SqT K H b [] ∧ Q (.bl (!vs.isEmpty)) H
theorem vals_len {xs : List V} {its : List Value} (h : Vals xs its) : xs.length = its.length := by
  induction h with
  | nil => rfl
  | cons _ _ ih => rw [List.length_cons, List.length_cons, ih]
theorem op_eqN {X : Cx} (hu : X.A.units < cLine) : OpR X (compareOp .Eq) (rEqN X.K) := by
  intro pins s σ H x y v u Q I rx ry h
  rcases h with ⟨a, b, vs, ws, rfl, rfl, ea, eb, hl, q⟩ | ⟨a, b, vs, rfl, rfl, ea, eb, q⟩
  · obtain rfl : v = Value.ref a := rx
    obtain rfl : u = Value.ref b := ry
    obtain ⟨_, va, na, ra, da⟩ := (show ObjOk X.prog X.w H s.heap a (.lst vs) from I.hok a _ ea)
    obtain ⟨_, vb, nb, rb, db⟩ := (show ObjOk X.prog X.w H s.heap b (.lst ws) from I.hok b _ eb)
    have e1 := vals_len ra
    have e2 := vals_len rb
    exact SeqAt.RcAt.lists_lengths ⟨_, da, rfl, _, rfl⟩ ⟨_, db, rfl, _, rfl⟩ (by simp; omega) hu _ _ _ _ ⟨.bl _, H, I, rfl, q⟩
  · obtain rfl : v = Value.ref a := rx
    obtain rfl : u = Value.ref b := ry
    obtain ⟨va, ra, ⟨oa, a1, a2, na, a3⟩, _⟩ := I.tuple ea
    obtain ⟨vb, rb, ⟨ob, b1, b2, n2, b3⟩, _⟩ := I.tuple eb
    cases rb
    have e : vs.isEmpty = ((List.range (min va.toArray.size ([] : List Value).toArray.size)).all (fun _ => true) && va.toArray.size == ([] : List Value).toArray.size) := by
      cases ra <;> simp
    rw [e] at q
    exact SeqAt.RcAt.tuples ⟨_, a1, a2, _, a3⟩ ⟨_, b1, b2, _, b3⟩ hu (fun j _ h2 => absurd h2 (by simp)) _ _ _ _ ⟨.bl _, H, I, rfl, q⟩
theorem op_neN {X : Cx} (hu : X.A.units < cLine) : OpR X (compareOp .NotEq) (rNeN X.K) := by
  intro pins s σ H x y v u Q I rx ry h
  rcases h with ⟨a, b, vs, ws, rfl, rfl, ea, eb, hl, q⟩ | ⟨a, b, vs, rfl, rfl, ea, eb, q⟩
  · obtain rfl : v = Value.ref a := rx
    obtain rfl : u = Value.ref b := ry
    obtain ⟨_, va, na, ra, da⟩ := (show ObjOk X.prog X.w H s.heap a (.lst vs) from I.hok a _ ea)
    obtain ⟨_, vb, nb, rb, db⟩ := (show ObjOk X.prog X.w H s.heap b (.lst ws) from I.hok b _ eb)
    have e1 := vals_len ra
    have e2 := vals_len rb
    exact SeqAt.RcNeAt.lists_lengths ⟨_, da, rfl, _, rfl⟩ ⟨_, db, rfl, _, rfl⟩ (by simp; omega) hu _ _ _ _ ⟨.bl _, H, I, rfl, q⟩
  · obtain rfl : v = Value.ref a := rx
    obtain rfl : u = Value.ref b := ry
    obtain ⟨va, ra, ⟨oa, a1, a2, na, a3⟩, _⟩ := I.tuple ea
    obtain ⟨vb, rb, ⟨ob, b1, b2, n2, b3⟩, _⟩ := I.tuple eb
    cases rb
    have e : vs.isEmpty = ((List.range (min va.toArray.size ([] : List Value).toArray.size)).all (fun _ => true) && va.toArray.size == ([] : List Value).toArray.size) := by
      cases ra <;> simp
    rw [e] at q
    exact SeqAt.RcNeAt.tuples ⟨_, a1, a2, _, a3⟩ ⟨_, b1, b2, _, b3⟩ hu (fun j _ h2 => absurd h2 (by simp)) _ _ _ _ ⟨.bl _, H, I, rfl, q⟩
def rEqU (K : PySem.W.Frag) : R2 := fun x y H Q => rEq x y H Q ∨ (rEqD K x y H Q ∨ rEqN K x y H Q)
def rNeU (K : PySem.W.Frag) : R2 := fun x y H Q => rNe x y H Q ∨ (rNeD K x y H Q ∨ rNeN K x y H Q)
theorem op_eqU {X : Cx} (hu : X.A.units + 64 < cLine) : OpR X (compareOp .Eq) (rEqU X.K) := op_eq.or ((op_eqD hu).or (op_eqN (by omega)))
theorem op_neU {X : Cx} (hu : X.A.units + 64 < cLine) : OpR X (compareOp .NotEq) (rNeU X.K) := op_ne.or ((op_neD hu).or (op_neN (by omega)))
theorem eq_of {G : Gs} {F H : Hp} {x y : V} {a b : D} {Qd : O → Prop} {Q : VK} (e : Ex F H) (ra : RepD G F x a) (rb : RepD G F y b) (q : mEq false a b Qd) (k : ∀ c, Qd (.d (.bl c)) → Q (.bl c) H) : rEqU G.K x y H Q := by
  have dd : (mEqD false a b Qd ∨ mEqL false a b Qd) → rEqU G.K x y H Q := fun h => h.elim (fun ⟨f1, f2, s1, s2, q⟩ => .inr (.inl ⟨_, _, ra.dp e f1, rb.dp e f2, s1, s2, k _ q⟩)) (fun h => by
    rcases h with ⟨xs, ys, e1, e2, hl, q5⟩ | ⟨xs, e1, e2, q5⟩
    · clear q
      subst e1 e2
      cases ra with
      | lst h1 r1 => cases rb with
        | lst h2 r2 => exact .inr (.inr (.inl ⟨_, _, _, _, rfl, rfl, e _ _ h1, e _ _ h2, by rw [r1.length, r2.length]; exact hl, k _ q5⟩))
    · clear q
      subst e1 e2
      cases ra with
      | @tup _ vs _ h1 r1 => cases rb with
        | tup h2 r2 =>
          cases r2
          have ee : xs.isEmpty = vs.isEmpty := by cases r1 <;> rfl
          rw [ee] at q5
          exact .inr (.inr (.inr ⟨_, _, _, rfl, rfl, e.st h1, e.st h2, k _ q5⟩)))
  cases ra with
  | int i => cases rb with
    | int j => refine .inl ⟨rfl, ?_⟩; rw [dec_int]; have := k _ q; simpa [nb, Bool.beq_eq_decide_eq] using this
    | non => exact .inl ⟨rfl, k _ q⟩
    | str s => exact .inl ⟨rfl, k _ q⟩
    | _ => exact dd q
  | str i => cases rb with
    | str j => refine .inl ⟨rfl, ?_⟩; rw [dec_str]; have := k _ q; simpa [nb, Bool.beq_eq_decide_eq] using this
    | non => exact .inl ⟨rfl, k _ q⟩
    | int s => exact .inl ⟨rfl, k _ q⟩
    | _ => exact dd q
  | bl i => cases rb with
    | bl j => refine .inl ⟨rfl, ?_⟩; rw [dec_bl]; have := k _ q; simpa [nb, Bool.beq_eq_decide_eq] using this
    | non => exact .inl ⟨rfl, k _ q⟩
    | _ => exact dd q
  | non => cases rb with
    | non => exact .inl ⟨rfl, k _ q⟩
    | int j => exact .inl ⟨rfl, k _ q⟩
    | str j => exact .inl ⟨rfl, k _ q⟩
    | bl j => exact .inl ⟨rfl, k _ q⟩
    | _ => exact dd q
  | _ => cases rb <;> exact dd q
theorem ne_of {G : Gs} {F H : Hp} {x y : V} {a b : D} {Qd : O → Prop} {Q : VK} (e : Ex F H) (ra : RepD G F x a) (rb : RepD G F y b) (q : mEq true a b Qd) (k : ∀ c, Qd (.d (.bl c)) → Q (.bl c) H) : rNeU G.K x y H Q := by
  have dd : (mEqD true a b Qd ∨ mEqL true a b Qd) → rNeU G.K x y H Q := fun h => h.elim (fun ⟨f1, f2, s1, s2, q⟩ => .inr (.inl ⟨_, _, ra.dp e f1, rb.dp e f2, s1, s2, k _ q⟩)) (fun h => by
    rcases h with ⟨xs, ys, e1, e2, hl, q5⟩ | ⟨xs, e1, e2, q5⟩
    · clear q
      subst e1 e2
      cases ra with
      | lst h1 r1 => cases rb with
        | lst h2 r2 => exact .inr (.inr (.inl ⟨_, _, _, _, rfl, rfl, e _ _ h1, e _ _ h2, by rw [r1.length, r2.length]; exact hl, k _ q5⟩))
    · clear q
      subst e1 e2
      cases ra with
      | @tup _ vs _ h1 r1 => cases rb with
        | tup h2 r2 =>
          cases r2
          have ee : xs.isEmpty = vs.isEmpty := by cases r1 <;> rfl
          rw [ee] at q5
          exact .inr (.inr (.inr ⟨_, _, _, rfl, rfl, e.st h1, e.st h2, k _ q5⟩)))
  cases ra with
  | int i => cases rb with
    | int j => refine .inl ⟨rfl, ?_⟩; rw [dec_int]; have := k _ q; simpa [nb, Bool.beq_eq_decide_eq] using this
    | non => exact .inl ⟨rfl, k _ q⟩
    | str s => exact .inl ⟨rfl, k _ q⟩
    | _ => exact dd q
  | str i => cases rb with
    | str j => refine .inl ⟨rfl, ?_⟩; rw [dec_str]; have := k _ q; simpa [nb, Bool.beq_eq_decide_eq] using this
    | non => exact .inl ⟨rfl, k _ q⟩
    | int s => exact .inl ⟨rfl, k _ q⟩
    | _ => exact dd q
  | bl i => cases rb with
    | bl j => refine .inl ⟨rfl, ?_⟩; rw [dec_bl]; have := k _ q; simpa [nb, Bool.beq_eq_decide_eq] using this
    | non => exact .inl ⟨rfl, k _ q⟩
    | _ => exact dd q
  | non => cases rb with
    | non => exact .inl ⟨rfl, k _ q⟩
    | int j => exact .inl ⟨rfl, k _ q⟩
    | str j => exact .inl ⟨rfl, k _ q⟩
    | bl j => exact .inl ⟨rfl, k _ q⟩
    | _ => exact dd q
  | _ => cases rb <;> exact dd q
theorem rb_eq {G : Gs} : RB G (rEqU G.K) (mEq false) := by
  intro σ ρ F H T x y a b Q Qd S ra rb q k
  exact eq_of S.ex ra rb q fun c q => k _ _ F H q (Ex.refl F) (S.addD (.bl _))
theorem rb_ne {G : Gs} : RB G (rNeU G.K) (mEq true) := by
  intro σ ρ F H T x y a b Q Qd S ra rb q k
  exact ne_of S.ex ra rb q fun c q => k _ _ F H q (Ex.refl F) (S.addD (.bl _))
/-- is None, is not None -/
def isNonD : D → Bool
  | .non => true
  | _ => false
def mIs (ne : Bool) (a b : D) (Q : O → Prop) : Prop := b = .non ∧ Q (.d (.bl (if ne then !isNonD a else isNonD a)))
theorem RepD.isNon {G : Gs} {F : Hp} {v : V} {x : D} (r : RepD G F v x) : decide (v = .non) = isNonD x := by
  cases r <;> first | rfl | (exact decide_eq_false (by intro z; cases z))
theorem rb_is {G : Gs} : RB G (fun x y H Q => y = .non ∧ Q (.bl (decide (x = .non))) H) (mIs false) := by
  intro σ ρ F H T x y a b Q Qd S ra rb q k
  obtain ⟨rfl, q⟩ := q
  cases rb
  refine ⟨rfl, ?_⟩
  rw [ra.isNon]
  exact k _ _ F H q (Ex.refl F) (S.addD (.bl _))
theorem rb_isnot {G : Gs} : RB G (fun x y H Q => y = .non ∧ Q (.bl (!decide (x = .non))) H) (mIs true) := by
  intro σ ρ F H T x y a b Q Qd S ra rb q k
  obtain ⟨rfl, q⟩ := q
  cases rb
  refine ⟨rfl, ?_⟩
  rw [ra.isNon]
  exact k _ _ F H q (Ex.refl F) (S.addD (.bl _))
/-- a op b op c -/
def wChain (m m' : D → D → (O → Prop) → Prop) (ma mb mc : WE) : WE := fun ρ Q E => ma ρ (fun a ρ1 => mb ρ1 (fun b ρ2 => cold a fun x => cold b fun y => m x y fun o =>
  match o with
  | .d (.bl true) => mc ρ2 (fun c ρ3 => cold c fun z => m' y z fun o => Q o ρ3) E
  | .d (.bl false) => Q (.d (.bl false)) ρ2
  | _ => False) E) E
theorem se_chain {G : Gs} {W : WX} {r r' : R2} {m m' : D → D → (O → Prop) → Prop} {ta tb tc : TE} {ma mb mc : WE} (hr : RB G r m) (hr' : RB G r' m') (ha : SE G W ta ma) (hb : SE G W tb mb) (hc : SE G W tc mc) :
    SE G W (tChain r r' ta tb tc) (wChain m m' ma mb mc) := by
  intro σ ρ F H T Q Qd Ed S h kq ke
  refine ha σ ρ F H T _ _ Ed S h (fun a ρ1 x F1 H1 hq1 e1 S1 => ?_) ke
  refine hb σ ρ1 F1 H1 ((x, a) :: T) _ _ Ed S1 hq1 (fun b ρ2 y F2 H2 hq2 e2 S2 => ?_) (ke.up e1).more
  obtain ⟨na, nb, hq2⟩ := hq2
  obtain ⟨F3, e3, S3⟩ := S2.freeze nb.ne
  obtain ⟨F4, e4, S4⟩ := S3.swap.freeze na.ne
  have ry := S4.swap.headD
  have e04 := e1.trans (e2.trans (e3.trans e4))
  refine hr σ ρ2 F4 H2 T x y _ _ _ _ S4.drop.drop S4.headD ry hq2 fun o v F' H' q e' S' => ?_
  cases o with
  | d z =>
    have rz := S'.headD
    cases rz with
    | bl k =>
      refine ⟨k, rfl, ?_⟩
      cases k with
      | false => exact (if_neg Bool.false_ne_true).mpr (kq _ _ _ F' H' q (e04.trans e') S')
      | true =>
        refine (if_pos rfl).mpr (hc σ ρ2 F' H' T _ _ Ed S'.drop q (fun c ρ3 w F5 H5 hq5 e5 S5 => ?_) (ke.up (e04.trans e')))
        obtain ⟨nc, hq5⟩ := hq5
        obtain ⟨F6, e6, S6⟩ := S5.freeze nc.ne
        exact hr' σ ρ3 F6 H5 T y w _ _ Q _ S6.drop (ry.mono (e'.trans (e5.trans e6))) S6.headD hq5 fun o v F7 H7 q7 e7 S7 => kq o ρ3 v F7 H7 q7 (e04.trans (e'.trans (e5.trans (e6.trans e7)))) S7
    | _ => exact q.elim
  | _ => exact q.elim

/-! ### items, slices -/
def atD (xs : List D) (i : Int) (k : D → Prop) : Prop := ∃ x, atI xs i = some x ∧ k x
theorem RepDs.atI {G : Gs} {F : Hp} {vs : List V} {xs : List D} (r : RepDs G F vs xs) {i : Int} {x : D} (h : L2.atI xs i = some x) : ∃ v, L2.atI vs i = some v ∧ RepD G F v x := by
  unfold L2.atI at h ⊢
  obtain ⟨j, hj, hx⟩ := Option.bind_eq_some_iff.mp h
  obtain ⟨v, hv, rv⟩ := r.get hx
  exact ⟨v, by rw [r.length, hj]; exact hv, rv⟩
/-- x[i]: a list, a tuple, a text -/
def mIx : D → D → (O → Prop) → Prop
  | .lst xs, .int i, Q => atD xs i fun x => Q (.d x)
  | .tup xs, .int i, Q => atD xs i fun x => Q (.d x)
  | .str z, .int i, Q => z.length ≤ sizeLine ∧ ∃ c, atI z.cps.toList i = some c ∧ Q (.d (.str ⟨#[c]⟩))
  | _, _, _ => False
theorem rb_ix {G : Gs} : RB G (rIx G.K) mIx := by
  intro σ ρ F H T x y a b Q Qd S ra rb q k
  cases ra with
  | lst h r => cases rb with
    | int i =>
      obtain ⟨z, hz, q⟩ := q
      obtain ⟨v, hv, rv⟩ := r.atI hz
      exact .inl ⟨_, _, i, v, rfl, rfl, SqL.of (S.ex _ _ h), hv, k _ _ F H q (Ex.refl F) (S.addD rv)⟩
    | _ => exact q.elim
  | tup h r => cases rb with
    | int i =>
      obtain ⟨z, hz, q⟩ := q
      obtain ⟨v, hv, rv⟩ := r.atI hz
      exact .inr (.inl ⟨_, _, i, v, rfl, rfl, S.tupK h, hv, k _ _ F H q (Ex.refl F) (S.addD rv)⟩)
    | _ => exact q.elim
  | str z => cases rb with
    | int i =>
      obtain ⟨hl, c, hc, q⟩ := q
      exact .inr (.inr ⟨z, i, c, rfl, rfl, hl, hc, k _ _ F H q (Ex.refl F) (S.addD (.str _))⟩)
    | _ => exact q.elim
  | _ => exact q.elim
theorem Stt.peek {G : Gs} {F H : Hp} {σ : St} {ρ : Sl} {T : List (V × O)} {i : Nat} {o : O} (S : Stt G F H σ ρ T) (ho : ρ[i]? = some (some o)) (nd : notDeck o) :
    ∃ v, σ[i]? = some (some v) ∧ ∃ F', RepD G F' v (fz o) ∧ Ex F F' ∧ Ex F' H ∧ (∀ p u, H p = none → Ex (upd F p u) (upd H p u)) := by
  obtain ⟨v, hv, S1⟩ := S.out ho
  obtain ⟨F', e, S2⟩ := S1.freeze nd.ne
  exact ⟨v, hv, F', S2.headD, e, S2.ex, fun p u hp a w q => by
    by_cases z : a = p
    · subst z; rw [upd_same] at q ⊢; exact q
    · rw [upd_ne z] at q ⊢; exact S.ex a w q⟩

/-- x[lo:hi] -/
structure PartW where
  lo : Option WE
  hi : Option WE
def SO (G : Gs) (W : WX) (to : TO) (m : Option WE) : Prop := match m with
  | none => to = tNoPart
  | some me => ∃ te, to = tPart te ∧ SE G W te me
def wPart (m : Option WE) (ρ : Sl) (Q : Option Int → Sl → Prop) (E : Exc → Sl → Prop) : Prop := match m with
  | none => Q none ρ
  | some me => me ρ (fun o ρ1 => match o with | .d (.int i) => Q (some i) ρ1 | _ => False) E
def cutD {α : Type} (xs : List α) (lo hi : Option Int) : List α := (xs.drop (HT.sIx xs.length 0 lo)).take (HT.sIx xs.length xs.length hi - HT.sIx xs.length 0 lo)
def mSl (a : D) (lo hi : Option Int) (Q : O → Prop) : Prop := match a with
  | .lst xs => Q (.lst (cutD xs lo hi))
  | .tup xs => Q (.d (.tup (cutD xs lo hi)))
  | .scr ns => Q (.lst ((cutD ns lo hi).map D.int))
  | _ => False
def rSlU (K : PySem.W.Frag) : V → Option Int → Option Int → Hp → VK → Prop := fun x lo hi H Q => rSlL K x lo hi H Q ∨ rSlA K x lo hi H Q
theorem sl_U {X : Cx} : SlR X (rSlU X.K) := sl_list.or sl_tupA
theorem RepDs.ofInts {G : Gs} {F : Hp} : ∀ (ns : List Int), RepDs G F (ns.map V.int) (ns.map D.int)
  | [] => .nil
  | n :: ns => .cons (.int n) (RepDs.ofInts ns)
theorem cutV_cut (xs : List V) (lo hi : Option Int) : cutV xs lo hi = cutD xs lo hi := rfl
theorem RepDs.cut {G : Gs} {F : Hp} {vs : List V} {xs : List D} (r : RepDs G F vs xs) (lo hi : Option Int) : RepDs G F (cutV vs lo hi) (cutD xs lo hi) := by
  unfold cutV cutD
  rw [r.length]
  exact (r.drop _).take _
theorem rs_sl {G : Gs} {σ : St} {ρ : Sl} {F H : Hp} {T : List (V × O)} {x : V} {a : D} {lo hi : Option Int} {Q : VK} {Qd : O → Prop} (S : Stt G F H σ ρ T) (ra : RepD G F x a) (q : mSl a lo hi Qd)
    (k : ∀ o v F' H', Qd o → Ex F F' → Stt G F' H' σ ρ ((v, o) :: T) → Q v H') : rSlU G.K x lo hi H Q := by
  cases ra with
  | lst h r => exact .inl ⟨_, _, rfl, SqL.of (S.ex _ _ h), fun p hp => k _ _ F _ q (Ex.refl F) (S.newL hp (r.cut lo hi))⟩
  | scr h =>
    refine .inl ⟨_, _, rfl, S.ex.sl h, fun p hp => k _ _ F _ q (Ex.refl F) (S.newL hp ?_)⟩
    rename_i ns
    have e : cutV (ns.map V.int) lo hi = (cutD ns lo hi).map V.int := by
      unfold cutV cutD
      rw [List.map_take, List.map_drop, List.length_map]
    rw [e]
    exact RepDs.ofInts _
  | tup h r =>
    refine .inr ⟨_, _, rfl, S.tupK h, fun w => ?_, fun w p hp => ?_⟩
    · refine k _ _ F H q (Ex.refl F) (S.addD (.tup h ?_))
      have z := r.cut lo hi
      rename_i vs xs
      have e2 : cutV vs lo hi = vs := by
        unfold cutV
        rw [w.1, w.2]
        simp
      rw [e2] at z
      exact z
    · have z := S.newT hp (r.cut lo hi)
      exact k _ _ _ _ q z.1 z.2
  | _ => exact q.elim
def wSl (m : WE) (lo hi : Option WE) : WE := fun ρ Q E => m ρ (fun o ρ1 => wPart lo ρ1 (fun l ρ2 => wPart hi ρ2 (fun h ρ3 => cold o fun x => mSl x l h fun r => Q r ρ3) E) E) E
theorem so_run {G : Gs} {W : WX} {to : TO} {m : Option WE} (h : SO G W to m) {σ : St} {ρ : Sl} {F H : Hp} {T : List (V × O)} {Q : Option Int → Hp → Prop} {Qd : Option Int → Sl → Prop} {Ed : Exc → Sl → Prop}
    (S : Stt G F H σ ρ T) (q : wPart m ρ Qd Ed) (kq : ∀ i ρ' F' H', Qd i ρ' → Ex F F' → Stt G F' H' σ ρ' T → Q i H') (ke : KE G W F σ T Ed) : to σ H Q := by
  cases m with
  | none =>
    obtain rfl : to = tNoPart := h
    exact kq none ρ F H q (Ex.refl F) S
  | some me =>
    obtain ⟨te, rfl, hs⟩ := h
    refine hs σ ρ F H T _ _ Ed S q (fun o ρ' v F' H' hq e S' => ?_) ke
    cases o with
    | d y =>
      have r := S'.headD
      cases r with
      | int i => exact ⟨i, rfl, kq (some i) ρ' F' H' hq e S'.drop⟩
      | _ => exact hq.elim
    | _ => exact hq.elim
theorem se_sl {G : Gs} {W : WX} {te : TE} {tl th : TO} {m : WE} {lo hi : Option WE} (h1 : SE G W te m) (hl : SO G W tl lo) (hh : SO G W th hi) :
    SE G W (fun σ H Q => te σ H fun x H1 => tl σ H1 fun l H2 => th σ H2 fun u H3 => rSlU G.K x l u H3 Q) (wSl m lo hi) := by
  intro σ ρ F H T Q Qd Ed S h kq ke
  refine h1 σ ρ F H T _ _ Ed S h (fun a ρ1 x F1 H1 hq1 e1 S1 => ?_) ke
  refine so_run hl S1 hq1 (fun l ρ2 F2 H2 hq2 e2 S2 => ?_) (ke.up e1).more
  refine so_run hh S2 hq2 (fun u ρ3 F3 H3 hq3 e3 S3 => ?_) (ke.up (e1.trans e2)).more
  obtain ⟨na, hq3⟩ := hq3
  obtain ⟨F4, e4, S4⟩ := S3.freeze na.ne
  exact rs_sl S4.drop S4.headD hq3 fun o v F' H' q e' S' => kq o ρ3 v F' H' q (e1.trans (e2.trans (e3.trans (e4.trans e')))) S'

/-! ### a slot's content, looked at -/
def wHas (i : Nat) (ρ : Sl) : Prop := ∃ o, ρ[i]? = some (some o)
def wIxV (i : Nat) (mb : WE) : WE := fun ρ Q E => wHas i ρ ∧ mb ρ (fun b ρ2 => cold b fun y => ∃ o, ρ2[i]? = some (some o) ∧ cold o fun x => mIx x y fun r => Q r ρ2) E
theorem se_ixV {G : Gs} {W : WX} {tb : TE} {mb : WE} (i : Nat) (hb : SE G W tb mb) : SE G W (tOp (rIx G.K) (tVar i) tb) (wIxV i mb) := by
  intro σ ρ F H T Q Qd Ed S h kq ke
  obtain ⟨⟨o0, ho0⟩, h⟩ := h
  obtain ⟨v, hv⟩ := S.1.at_ i o0 ho0
  refine ⟨v, hv, hb σ ρ F H T _ _ Ed S h (fun b ρ2 y F2 H2 hq e2 S2 => ?_) ke⟩
  obtain ⟨nb, o, ho, no, q⟩ := hq
  obtain ⟨F3, e3, S3⟩ := S2.freeze nb.ne
  have ry := S3.headD
  have S4 := S3.drop
  obtain ⟨w, hw, S5⟩ := S4.out ho
  rw [hv] at hw; cases hw
  generalize fz b = bd at ry q
  cases o with
  | d x =>
    exact rb_ix σ ρ2 F3 H2 T v y x _ Q _ S4 S5.headD ry q fun o v F' H' q e' S' => kq o ρ2 v F' H' q (e2.trans (e3.trans e')) S'
  | lst xs =>
    obtain ⟨p, vs, rfl, hp, r, _⟩ := S5.headL
    cases ry with
    | int j =>
      obtain ⟨z, hz, q⟩ := q
      obtain ⟨u, hu, ru⟩ := r.atI hz
      exact .inl ⟨_, _, j, u, rfl, rfl, SqL.of hp, hu, kq _ _ _ F3 H2 q (e2.trans e3) (S4.addD ru)⟩
    | _ => exact q.elim
  | deck m => exact no.elim
  | dic xs => cases ry <;> exact q.elim
  | ins c xs => cases ry <;> exact q.elim
/-- x[lo:hi] of a slot's content -/
def wSlV (i : Nat) (lo hi : Option WE) : WE := fun ρ Q E => wHas i ρ ∧ wPart lo ρ (fun l ρ2 => wPart hi ρ2 (fun h ρ3 => ∃ o, ρ3[i]? = some (some o) ∧ cold o fun x => mSl x l h fun r => Q r ρ3) E) E
theorem se_slV {G : Gs} {W : WX} {tl th : TO} {lo hi : Option WE} (i : Nat) (hl : SO G W tl lo) (hh : SO G W th hi) : SE G W (tSl (rSlU G.K) (tVar i) tl th) (wSlV i lo hi) := by
  intro σ ρ F H T Q Qd Ed S h kq ke
  obtain ⟨⟨o0, ho0⟩, h⟩ := h
  obtain ⟨v, hv⟩ := S.1.at_ i o0 ho0
  refine ⟨v, hv, so_run hl S h (fun l ρ2 F2 H2 hq2 e2 S2 => so_run hh S2 hq2 (fun u ρ3 F3 H3 hq3 e3 S3 => ?_) (ke.up e2)) ke⟩
  obtain ⟨o, ho, no, q⟩ := hq3
  obtain ⟨w, hw, S5⟩ := S3.out ho
  rw [hv] at hw; cases hw
  cases o with
  | d x => exact rs_sl S3 S5.headD q fun o v F' H' q e' S' => kq o ρ3 v F' H' q (e2.trans (e3.trans e')) S'
  | lst xs =>
    obtain ⟨p, vs, rfl, hp, r, _⟩ := S5.headL
    exact .inl ⟨_, _, rfl, SqL.of hp, fun p hp => kq _ _ _ F3 _ q (e2.trans e3) (S3.newL hp (r.cut l u))⟩
  | deck m => exact no.elim
  | dic xs => exact q.elim
  | ins c xs => exact q.elim
/-- x == e, x != e of a slot's content -/
def wEqV (ne : Bool) (i : Nat) (mb : WE) : WE := fun ρ Q E => wHas i ρ ∧ mb ρ (fun b ρ2 => cold b fun y => ∃ o, ρ2[i]? = some (some o) ∧ cold o fun x => mEq ne x y fun r => Q r ρ2) E
theorem se_eqV {G : Gs} {W : WX} {tb : TE} {mb : WE} (i : Nat) (hb : SE G W tb mb) : SE G W (tOp (rEqU G.K) (tVar i) tb) (wEqV false i mb) := by
  intro σ ρ F H T Q Qd Ed S h kq ke
  obtain ⟨⟨o0, ho0⟩, h⟩ := h
  obtain ⟨v, hv⟩ := S.1.at_ i o0 ho0
  refine ⟨v, hv, hb σ ρ F H T _ _ Ed S h (fun b ρ2 y F2 H2 hq e2 S2 => ?_) ke⟩
  obtain ⟨nb, o, ho, no, q⟩ := hq
  obtain ⟨F3, e3, S3⟩ := S2.freeze nb.ne
  obtain ⟨w, hw, F5, r5, e5, e6, _⟩ := S3.drop.peek ho no
  rw [hv] at hw; cases hw
  exact eq_of e6 r5 (S3.headD.mono e5) q fun c q => kq _ _ _ F3 H2 q (e2.trans e3) (S3.drop.addD (.bl _))
theorem se_neV {G : Gs} {W : WX} {tb : TE} {mb : WE} (i : Nat) (hb : SE G W tb mb) : SE G W (tOp (rNeU G.K) (tVar i) tb) (wEqV true i mb) := by
  intro σ ρ F H T Q Qd Ed S h kq ke
  obtain ⟨⟨o0, ho0⟩, h⟩ := h
  obtain ⟨v, hv⟩ := S.1.at_ i o0 ho0
  refine ⟨v, hv, hb σ ρ F H T _ _ Ed S h (fun b ρ2 y F2 H2 hq e2 S2 => ?_) ke⟩
  obtain ⟨nb, o, ho, no, q⟩ := hq
  obtain ⟨F3, e3, S3⟩ := S2.freeze nb.ne
  obtain ⟨w, hw, F5, r5, e5, e6, _⟩ := S3.drop.peek ho no
  rw [hv] at hw; cases hw
  exact ne_of e6 r5 (S3.headD.mono e5) q fun c q => kq _ _ _ F3 H2 q (e2.trans e3) (S3.drop.addD (.bl _))


/-! ### built-in functions by values -/
def RC (G : Gs) (r : List V → Hp → VK → Prop) (m : List D → (O → Prop) → Prop) : Prop :=
  ∀ (σ : St) (ρ : Sl) (F H : Hp) (T : List (V × O)) (vs : List V) (xs : List D) (Q : VK) (Qd : O → Prop), Stt G F H σ ρ T → RepDs G F vs xs → m xs Qd →
    (∀ o v F' H', Qd o → Ex F F' → Stt G F' H' σ ρ ((v, o) :: T) → Q v H') → r vs H Q
def wCB (m : List D → (O → Prop) → Prop) (ma : WA) : WE := fun ρ Q E => ma ρ (fun xs ρ1 => m xs fun o => Q o ρ1) E
theorem se_cb {G : Gs} {W : WX} {r : List V → Hp → VK → Prop} {m : List D → (O → Prop) → Prop} {ta : TA} {ma : WA} (hr : RC G r m) (ha : SA G W ta ma) : SE G W (tCB r ta) (wCB m ma) := by
  intro σ ρ F H T Q Qd Ed S h kq ke
  exact ha σ ρ F H T _ _ Ed S h (fun xs ρ1 vs F1 H1 hq e S1 rv => hr σ ρ1 F1 H1 T vs xs Q _ S1 rv hq fun o v F' H' q e' S' => kq o ρ1 v F' H' q (e.trans e') S') ke
/-- one argument -/
def wCB1 (m : List D → (O → Prop) → Prop) (a : WE) : WE := wCB m (wCons a wNil)
def lenD : D → (Nat → Prop) → Prop
  | .str s, k => s.length ≤ sizeLine ∧ k s.length
  | .lst xs, k => k xs.length
  | .tup xs, k => k xs.length
  | .dic xs, k => k xs.length
  | .scr ns, k => k ns.length
  | _, _ => False
def mLen : List D → (O → Prop) → Prop
  | [x], Q => lenD x fun n => Q (.d (.int n))
  | _, _ => False
def rLenU (K : PySem.W.Frag) : List V → Hp → VK → Prop := fun xs H Q => (∃ x n, xs = [x] ∧ LenV K x H n ∧ Q (.int n) H) ∨ ∃ a kvs, xs = [V.ref a] ∧ H a = some (.dK kvs) ∧ Q (.int kvs.length) H
theorem CallR.or {X : Cx} {f : Value} {r r' : List V → Hp → VK → Prop} (h : CallR X f r) (h' : CallR X f r') : CallR X f (fun xs H Q => r xs H Q ∨ r' xs H Q) := by
  intro pins s σ H xs us Q I rv q
  rcases q with q | q
  · exact h pins s σ H xs us Q I rv q
  · exact h' pins s σ H xs us Q I rv q
theorem call_lenU {X : Cx} : CallR X (.builtin "len") (rLenU X.K) := CallR.or call_len call_lenD
theorem len_of {G : Gs} {F H : Hp} {v : V} {x : D} (r : RepD G F v x) (e : Ex F H) {k : Nat → Prop} (h : lenD x k) : ∃ n, k n ∧ ∀ Q : VK, Q (.int n) H → rLenU G.K [v] H Q := by
  cases r with
  | str s => exact ⟨_, h.2, fun Q q => .inl ⟨_, _, rfl, ⟨h.1, rfl⟩, q⟩⟩
  | lst h1 r => exact ⟨_, h, fun Q q => .inl ⟨_, _, rfl, .inl ⟨_, SqL.of (e _ _ h1), rfl⟩, by rw [r.length]; exact q⟩⟩
  | tup h1 r => exact ⟨_, h, fun Q q => .inl ⟨_, _, rfl, .inr ⟨_, e.st h1, rfl⟩, by rw [r.length]; exact q⟩⟩
  | dic h1 r => exact ⟨_, h, fun Q q => .inr ⟨_, _, rfl, e _ _ h1, by rw [r.length]; exact q⟩⟩
  | scr h1 => exact ⟨_, h, fun Q q => .inl ⟨_, _, rfl, .inl ⟨_, e.sl h1, rfl⟩, by rw [List.length_map]; exact q⟩⟩
  | _ => exact h.elim
theorem rc_len {G : Gs} : RC G (rLenU G.K) mLen := by
  intro σ ρ F H T vs xs Q Qd S r q k
  cases r with
  | nil => exact q.elim
  | cons h1 r => cases r with
    | nil =>
      obtain ⟨n, hn, z⟩ := len_of h1 S.ex q
      exact z Q (k _ _ F H hn (Ex.refl F) (S.addD (.int _)))
    | cons _ _ => exact q.elim
/-- len of a slot's content -/
def wLenV (i : Nat) : WE := fun ρ Q _ => ∃ o, ρ[i]? = some (some o) ∧ cold o fun x => lenD x fun n => Q (.d (.int n)) ρ
theorem se_lenV {G : Gs} {W : WX} (i : Nat) : SE G W (tCB (rLenU G.K) (tCons (tVar i) tNil)) (wLenV i) := by
  intro σ ρ F H T Q Qd Ed S h kq ke
  obtain ⟨o, ho, no, q⟩ := h
  obtain ⟨v, hv, F5, r5, e5, e6, _⟩ := S.peek ho no
  obtain ⟨n, hn, z⟩ := len_of r5 e6 q
  exact ⟨v, hv, z Q (kq _ _ _ F H hn (Ex.refl F) (S.addD (.int _)))⟩
/-- int(i), abs, max, min of two ints -/
def mInt : List D → (O → Prop) → Prop
  | [.int i], Q => Q (.d (.int i))
  | [.bl b], Q => Q (.d (.int (if b then 1 else 0)))
  | _, _ => False
theorem rc_int {G : Gs} : RC G (fun xs H Q => (∃ i, xs = [.int i] ∧ Q (.int i) H) ∨ ∃ k, xs = [.bl k] ∧ Q (.int (if k then 1 else 0)) H) mInt := by
  intro σ ρ F H T vs xs Q Qd S r q k
  cases r with
  | nil => exact q.elim
  | cons h1 r => cases r with
    | nil => cases h1 with
      | int i => exact .inl ⟨i, rfl, k _ _ F H q (Ex.refl F) (S.addD (.int _))⟩
      | bl b => exact .inr ⟨b, rfl, k _ _ F H q (Ex.refl F) (S.addD (.int _))⟩
      | _ => exact q.elim
    | cons _ _ => cases h1 <;> exact q.elim
def mAbs : List D → (O → Prop) → Prop
  | [.int i], Q => Q (.d (.int (if i < 0 then -i else i)))
  | _, _ => False
theorem rc_abs {G : Gs} : RC G (fun xs H Q => ∃ i, xs = [.int i] ∧ Q (.int (if i < 0 then -i else i)) H) mAbs := by
  intro σ ρ F H T vs xs Q Qd S r q k
  cases r with
  | nil => exact q.elim
  | cons h1 r => cases r with
    | nil => cases h1 with
      | int i => exact ⟨i, rfl, k _ _ F H q (Ex.refl F) (S.addD (.int _))⟩
      | _ => exact q.elim
    | cons _ _ => cases h1 <;> exact q.elim
def mI2 (g : Int → Int → Int) : List D → (O → Prop) → Prop
  | [.int i, .int j], Q => Q (.d (.int (g i j)))
  | _, _ => False
theorem rc_i2 {G : Gs} {g : Int → Int → Int} : RC G (fun xs H Q => ∃ i j, xs = [.int i, .int j] ∧ Q (.int (g i j)) H) (mI2 g) := by
  intro σ ρ F H T vs xs Q Qd S r q k
  rcases r with _ | ⟨h1, r⟩
  · exact q.elim
  · rcases r with _ | ⟨h2, r⟩
    · cases h1 <;> exact q.elim
    · rcases r with _ | ⟨h3, r⟩
      · cases h1 with
        | int i => cases h2 with
          | int j => exact ⟨i, j, rfl, k _ _ F H q (Ex.refl F) (S.addD (.int _))⟩
          | _ => exact q.elim
        | _ => exact q.elim
      · cases h1 <;> first | exact q.elim | (cases h2 <;> exact q.elim)
/-- tuple(x), list(x) -/
def mTuple : D → (O → Prop) → Prop
  | .lst xs, Q => Q (.d (.tup xs))
  | .tup xs, Q => Q (.d (.tup xs))
  | _, _ => False
def wTuple (a : WE) : WE := fun ρ Q E => a ρ (fun o ρ1 => cold o fun x => mTuple x fun r => Q r ρ1) E
theorem se_tuple {G : Gs} {W : WX} {ta : TE} {a : WE} (ha : SE G W ta a) : SE G W (tThen ta (kTup G.K)) (wTuple a) := by
  intro σ ρ F H T Q Qd Ed S h kq ke
  refine ha σ ρ F H T _ _ Ed S h (fun o ρ1 x F1 H1 hq e S1 => ?_) ke
  obtain ⟨no, hq⟩ := hq
  obtain ⟨F2, e2, S2⟩ := S1.freeze no.ne
  have r := S2.headD
  generalize fz o = y at r hq
  cases r with
  | lst h1 r =>
    refine .inl ⟨_, _, rfl, SqL.of (S2.ex _ _ h1), fun q hn => ?_⟩
    have z := S2.drop.newT hn r
    exact kq _ _ _ _ _ hq (e.trans (e2.trans z.1)) z.2
  | tup h1 r => exact .inr ⟨_, _, rfl, S2.ex.st h1, kq _ _ _ F2 H1 hq (e.trans e2) (S2.drop.addD (.tup h1 r))⟩
  | _ => exact hq.elim
end Pv

set_option Elab.async false
set_option maxRecDepth 100000
set_option maxHeartbeats 4000000
set_option autoImplicit false
namespace Pv
open PySem L2

/-! ### list(x) -/
def mList : List D → (O → Prop) → Prop
  | [.lst xs], Q => Q (.lst xs)
  | [.tup xs], Q => Q (.lst xs)
  | [.scr ns], Q => Q (.lst (ns.map D.int))
  | _, _ => False
theorem rc_list {G : Gs} : RC G (fun xs H Q => ∃ p ys, xs = [.ref p] ∧ (SqL G.K H p ys ∨ SqT G.K H p ys) ∧ ∀ l, H l = none → Q (.ref l) (upd H l (.lst ys))) mList := by
  intro σ ρ F H T vs xs Q Qd S r q k
  cases r with
  | nil => exact q.elim
  | cons h1 r => cases r with
    | nil => cases h1 with
      | lst h1 r => exact ⟨_, _, rfl, .inl (SqL.of (S.ex _ _ h1)), fun l hl => k _ _ F _ q (Ex.refl F) (S.newL hl r)⟩
      | tup h1 r => exact ⟨_, _, rfl, .inr (S.tupK h1), fun l hl => k _ _ F _ q (Ex.refl F) (S.newL hl r)⟩
      | scr h1 => exact ⟨_, _, rfl, .inl (S.ex.sl h1), fun l hl => k _ _ F _ q (Ex.refl F) (S.newL hl (RepDs.ofInts _))⟩
      | _ => exact q.elim
    | cons _ _ => cases h1 <;> exact q.elim

/-! ### what a loop walks -/
def Wk (J : It) (G : Gs) (F0 : Hp) (xs : List D) : Prop :=
  ∀ (F H : Hp) (σ : St) (ρ : Sl) (T : List (V × O)) (i : Nat), Ex F0 F → Stt G F H σ ρ T →
    (xs.length = i → J.stop i H) ∧ ∀ d, xs[i]? = some d → J.go i H ∧ ∀ x H', J.yld i H x H' → ∃ F', Ex F F' ∧ Stt G F' H' σ ρ ((x, .d d) :: T)
def SI (G : Gs) (W : WX) (ti : TI) (m : WA) : Prop :=
  ∀ (σ : St) (ρ : Sl) (F H : Hp) (T : List (V × O)) (R : It → Hp → Prop) (Qd : List D → Sl → Prop) (Ed : Exc → Sl → Prop),
    Stt G F H σ ρ T → m ρ Qd Ed → (∀ xs ρ' J F' H', Qd xs ρ' → Ex F F' → Stt G F' H' σ ρ' T → Wk J G F' xs → R J H') → KE G W F σ T Ed → ti σ H R
structure JI (X : Cx) (G : Gs) (W : WX) (tg iter : Expr) (m : WA) : Prop where
  ex : ∃ ti, PI X tg iter ti ∧ SI G W ti m
theorem wk_list {G : Gs} {F0 : Hp} {a : Addr} {vs : List V} {xs : List D} (h : SqL G.K F0 a vs) (r : RepDs G F0 vs xs) : Wk (Itl G.K a) G F0 xs := by
  intro F H σ ρ T i e S
  have hH := S.ex.sl (e.sl h)
  refine ⟨fun hi => ⟨vs, hH, by rw [r.length]; exact Nat.le_of_eq hi⟩, fun d hd => ?_⟩
  obtain ⟨v, hv, rv⟩ := r.get hd
  refine ⟨⟨vs, v, hH, hv⟩, fun x H' y => ?_⟩
  obtain ⟨rfl, y⟩ := y
  have := y vs hH
  rw [hv] at this; cases this
  exact ⟨F, Ex.refl F, S.addD (rv.mono e)⟩
theorem wk_tup {G : Gs} {F0 : Hp} {a : Addr} {vs : List V} {xs : List D} (h : SqT G.K F0 a vs) (r : RepDs G F0 vs xs) : Wk (Itt G.K a) G F0 xs := by
  intro F H σ ρ T i e S
  have hH := S.ex.st (e.st h)
  refine ⟨fun hi => ⟨vs, hH, by rw [r.length]; exact Nat.le_of_eq hi⟩, fun d hd => ?_⟩
  obtain ⟨v, hv, rv⟩ := r.get hd
  refine ⟨⟨vs, v, hH, hv⟩, fun x H' y => ?_⟩
  obtain ⟨rfl, y⟩ := y
  have := y vs hH
  rw [hv] at this; cases this
  exact ⟨F, Ex.refl F, S.addD (rv.mono e)⟩
def rngD (lo : Int) (n : Nat) : List D := (List.range n).map fun i => .int (lo + (i : Nat))
theorem wk_rng {G : Gs} {F0 : Hp} (lo : Int) (n : Nat) : Wk (Itr lo n) G F0 (rngD lo n) := by
  intro F H σ ρ T i e S
  have hl : (rngD lo n).length = n := by unfold rngD; rw [List.length_map, List.length_range]
  refine ⟨fun hi => by rw [hl] at hi; exact Nat.le_of_eq hi, fun d hd => ?_⟩
  have hi : i < n := by rw [← hl]; exact (List.getElem?_eq_some_iff.mp hd).1
  refine ⟨hi, fun x H' y => ?_⟩
  obtain ⟨rfl, rfl⟩ := y
  have : d = .int (lo + (i : Nat)) := by
    unfold rngD at hd
    rw [List.getElem?_map, List.getElem?_range hi] at hd
    exact (Option.some.inj hd).symm
  subst this
  exact ⟨F, Ex.refl F, S.addD (.int _)⟩
def enD : Nat → List D → List D
  | _, [] => []
  | n, x :: xs => .tup [.int (n : Nat), x] :: enD (n + 1) xs
theorem enD_get : ∀ (xs : List D) (n i : Nat), (enD n xs)[i]? = (xs[i]?).map fun x => .tup [.int ((n + i : Nat) : Int), x]
  | [], n, i => by simp [enD]
  | x :: xs, n, 0 => by simp [enD]
  | x :: xs, n, i + 1 => by
    have := enD_get xs (n + 1) i
    simp only [enD, List.getElem?_cons_succ]
    rw [this]
    have e : n + 1 + i = n + (i + 1) := by omega
    rw [e]
theorem enD_len : ∀ (xs : List D) (n : Nat), (enD n xs).length = xs.length
  | [], _ => rfl
  | x :: xs, n => by simp only [enD, List.length_cons, enD_len xs]
theorem wk_enum {G : Gs} {F0 : Hp} {a : Addr} {vs : List V} {xs : List D} (h : SqL G.K F0 a vs) (r : RepDs G F0 vs xs) : Wk (Ite G.K a) G F0 (enD 0 xs) := by
  intro F H σ ρ T i e S
  have hH := S.ex.sl (e.sl h)
  refine ⟨fun hi => ⟨vs, hH, by rw [r.length]; rw [enD_len] at hi; exact Nat.le_of_eq hi⟩, fun d hd => ?_⟩
  rw [enD_get] at hd
  obtain ⟨z, hz, rfl⟩ := Option.map_eq_some_iff.mp hd
  obtain ⟨v, hv, rv⟩ := r.get hz
  refine ⟨⟨vs, v, hH, hv⟩, fun x H' y => ?_⟩
  obtain ⟨p, u, rfl, hp, rfl, y⟩ := y
  have := y vs hH
  rw [hv] at this; cases this
  have w := S.newT (vs := [.int (i : Nat), v]) (xs := [.int (i : Nat), z]) hp (.cons (.int _) (.cons (rv.mono e) .nil))
  refine ⟨_, w.1, ?_⟩
  rw [Nat.zero_add]
  exact w.2
def zipD : List D → List D → List D
  | x :: xs, y :: ys => .tup [x, y] :: zipD xs ys
  | _, _ => []
theorem zipD_get : ∀ (xs ys : List D) (i : Nat) (d : D), (zipD xs ys)[i]? = some d → ∃ x y, xs[i]? = some x ∧ ys[i]? = some y ∧ d = .tup [x, y]
  | [], _, i, d, h => by simp [zipD] at h
  | x :: xs, [], i, d, h => by simp [zipD] at h
  | x :: xs, y :: ys, 0, d, h => by simp [zipD] at h; exact ⟨x, y, rfl, rfl, h.symm⟩
  | x :: xs, y :: ys, i + 1, d, h => by simpa using zipD_get xs ys i d (by simpa [zipD] using h)
theorem zipD_len : ∀ (xs ys : List D), (zipD xs ys).length = min xs.length ys.length
  | [], _ => by simp [zipD]
  | x :: xs, [] => by simp [zipD]
  | x :: xs, y :: ys => by simp [zipD, zipD_len xs ys]
theorem wk_zip {G : Gs} {F0 : Hp} {a b : Addr} {vs ws : List V} {xs ys : List D} (h : SqL G.K F0 a vs) (r : RepDs G F0 vs xs) (h2 : SqL G.K F0 b ws) (r2 : RepDs G F0 ws ys) : Wk (Itz G.K a b) G F0 (zipD xs ys) := by
  intro F H σ ρ T i e S
  have hH := S.ex.sl (e.sl h)
  have hH2 := S.ex.sl (e.sl h2)
  refine ⟨fun hi => ⟨vs, ws, hH, hH2, by rw [r.length, r2.length]; rw [zipD_len] at hi; omega⟩, fun d hd => ?_⟩
  obtain ⟨z, z2, hz, hz2, rfl⟩ := zipD_get _ _ _ _ hd
  obtain ⟨v, hv, rv⟩ := r.get hz
  obtain ⟨v2, hv2, rv2⟩ := r2.get hz2
  refine ⟨⟨vs, ws, v, v2, hH, hH2, hv, hv2⟩, fun x H' y => ?_⟩
  obtain ⟨p, u, u2, rfl, hp, rfl, y, y2⟩ := y
  have := y vs hH
  rw [hv] at this; cases this
  have := y2 ws hH2
  rw [hv2] at this; cases this
  have w := S.newT (vs := [v, v2]) (xs := [z, z2]) hp (.cons (rv.mono e) (.cons (rv2.mono e) .nil))
  exact ⟨_, w.1, w.2⟩
theorem wk_zipT {G : Gs} {F0 : Hp} {a b : Addr} {vs ws : List V} {xs ys : List D} (h : SqT G.K F0 a vs) (r : RepDs G F0 vs xs) (h2 : SqT G.K F0 b ws) (r2 : RepDs G F0 ws ys) : Wk (RZ.ItzT G.K a b) G F0 (zipD xs ys) := by
  intro F H σ ρ T i e S
  have hH := S.ex.st (e.st h)
  have hH2 := S.ex.st (e.st h2)
  refine ⟨fun hi => ⟨vs, ws, hH, hH2, by rw [r.length, r2.length]; rw [zipD_len] at hi; omega⟩, fun d hd => ?_⟩
  obtain ⟨z, z2, hz, hz2, rfl⟩ := zipD_get _ _ _ _ hd
  obtain ⟨v, hv, rv⟩ := r.get hz
  obtain ⟨v2, hv2, rv2⟩ := r2.get hz2
  refine ⟨⟨vs, ws, v, v2, hH, hH2, hv, hv2⟩, fun x H' y => ?_⟩
  obtain ⟨p, u, u2, rfl, hp, rfl, y, y2⟩ := y
  have := y vs hH
  rw [hv] at this; cases this
  have := y2 ws hH2
  rw [hv2] at this; cases this
  have w := S.newT (vs := [v, v2]) (xs := [z, z2]) hp (.cons (rv.mono e) (.cons (rv2.mono e) .nil))
  exact ⟨_, w.1, w.2⟩

/-- for x in a list -/
def seqD (want : Bool) : D → (List D → Prop) → Prop
  | .lst xs, k => want = false ∧ k xs
  | .tup xs, k => want = true ∧ k xs
  | _, _ => False
def wItS (tup : Bool) (m : WE) : WA := fun ρ Q E => m ρ (fun o ρ1 => cold o fun x => seqD tup x fun xs => Q xs ρ1) E
theorem si_list {G : Gs} {W : WX} {te : TE} {m : WE} (h1 : SE G W te m) : SI G W (iList G.K te) (wItS false m) := by
  intro σ ρ F H T R Qd Ed S h kq ke
  refine h1 σ ρ F H T _ _ Ed S h (fun a ρ1 x F1 H1 hq1 e1 S1 => ?_) ke
  obtain ⟨na, hq1⟩ := hq1
  obtain ⟨F2, e2, S2⟩ := S1.freeze na.ne
  have r := S2.headD
  generalize fz a = y at r hq1
  cases r with
  | lst h1 r => exact ⟨_, rfl, ⟨_, SqL.of (S2.ex _ _ h1)⟩, kq _ ρ1 _ F2 H1 hq1.2 (e1.trans e2) S2.drop (wk_list (SqL.of h1) r)⟩
  | tup h1 r => exact absurd hq1.1 Bool.false_ne_true
  | _ => exact hq1.elim
theorem si_tup {G : Gs} {W : WX} {te : TE} {m : WE} (h1 : SE G W te m) : SI G W (iTup G.K te) (wItS true m) := by
  intro σ ρ F H T R Qd Ed S h kq ke
  refine h1 σ ρ F H T _ _ Ed S h (fun a ρ1 x F1 H1 hq1 e1 S1 => ?_) ke
  obtain ⟨na, hq1⟩ := hq1
  obtain ⟨F2, e2, S2⟩ := S1.freeze na.ne
  have r := S2.headD
  generalize fz a = y at r hq1
  cases r with
  | tup h1 r => exact ⟨_, rfl, ⟨_, S2.ex.st h1⟩, kq _ ρ1 _ F2 H1 hq1.2 (e1.trans e2) S2.drop (wk_tup h1 r)⟩
  | lst h1 r => exact absurd hq1.1.symm Bool.false_ne_true
  | _ => exact hq1.elim
def wRng1 (m : WA) : WA := fun ρ Q E => m ρ (fun xs ρ1 => match xs with | [.int j] => (-(2 ^ 62) ≤ j ∧ j < 2 ^ 62) ∧ Q (rngD 0 j.toNat) ρ1 | _ => False) E
theorem si_rng1 {G : Gs} {W : WX} {ta : TA} {m : WA} (h1 : SA G W ta m) : SI G W (iRng1 ta) (wRng1 m) := by
  intro σ ρ F H T R Qd Ed S h kq ke
  refine h1 σ ρ F H T _ _ Ed S h (fun xs ρ1 vs F1 H1 hq1 e1 S1 r => ?_) ke
  rcases r with _ | ⟨h1, r⟩
  · exact hq1.elim
  · rcases r with _ | ⟨h2, r⟩
    · cases h1 with
      | int j => exact ⟨j, rfl, hq1.1.1, hq1.1.2, kq _ ρ1 _ F1 H1 hq1.2 e1 S1 (wk_rng 0 _)⟩
      | _ => exact hq1.elim
    · cases h1 <;> exact hq1.elim
def wRng2 (m : WA) : WA := fun ρ Q E => m ρ (fun xs ρ1 => match xs with | [.int i, .int j] => (-(2 ^ 62) ≤ i ∧ i < 2 ^ 62 ∧ -(2 ^ 62) ≤ j ∧ j < 2 ^ 62) ∧ Q (rngD i (j - i).toNat) ρ1 | _ => False) E
theorem si_rng2 {G : Gs} {W : WX} {ta : TA} {m : WA} (h1 : SA G W ta m) : SI G W (iRng2 ta) (wRng2 m) := by
  intro σ ρ F H T R Qd Ed S h kq ke
  refine h1 σ ρ F H T _ _ Ed S h (fun xs ρ1 vs F1 H1 hq1 e1 S1 r => ?_) ke
  rcases r with _ | ⟨h1, r⟩
  · exact hq1.elim
  · rcases r with _ | ⟨h2, r⟩
    · cases h1 <;> exact hq1.elim
    · rcases r with _ | ⟨h3, r⟩
      · cases h1 with
        | int i => cases h2 with
          | int j => exact ⟨i, j, rfl, hq1.1, kq _ ρ1 _ F1 H1 hq1.2 e1 S1 (wk_rng i _)⟩
          | _ => exact hq1.elim
        | _ => exact hq1.elim
      · cases h1 <;> first | exact hq1.elim | (cases h2 <;> exact hq1.elim)
def wEnum (m : WA) : WA := fun ρ Q E => m ρ (fun xs ρ1 => match xs with | [.lst ys] => Q (enD 0 ys) ρ1 | _ => False) E
theorem si_enum {G : Gs} {W : WX} {ta : TA} {m : WA} (h1 : SA G W ta m) : SI G W (iEnum G.K ta) (wEnum m) := by
  intro σ ρ F H T R Qd Ed S h kq ke
  refine h1 σ ρ F H T _ _ Ed S h (fun xs ρ1 vs F1 H1 hq1 e1 S1 r => ?_) ke
  rcases r with _ | ⟨h1, r⟩
  · exact hq1.elim
  · rcases r with _ | ⟨h2, r⟩
    · cases h1 with
      | lst h1 r => exact ⟨_, _, rfl, SqL.of (S1.ex _ _ h1), kq _ ρ1 _ F1 H1 hq1 e1 S1 (wk_enum (SqL.of h1) r)⟩
      | _ => exact hq1.elim
    · cases h1 <;> exact hq1.elim
def wZip (m : WA) : WA := fun ρ Q E => m ρ (fun xs ρ1 => match xs with | [.lst ys, .lst zs] => Q (zipD ys zs) ρ1 | [.tup ys, .tup zs] => Q (zipD ys zs) ρ1 | _ => False) E
theorem si_zip {G : Gs} {W : WX} {ta : TA} {m : WA} (h1 : SA G W ta m) : SI G W (RZ.iZipA G.K ta) (wZip m) := by
  intro σ ρ F H T R Qd Ed S h kq ke
  refine h1 σ ρ F H T _ _ Ed S h (fun xs ρ1 vs F1 H1 hq1 e1 S1 r => ?_) ke
  rcases r with _ | ⟨h1, r⟩
  · exact hq1.elim
  · rcases r with _ | ⟨h2, r⟩
    · cases h1 <;> exact hq1.elim
    · rcases r with _ | ⟨h3, r⟩
      · cases h1 with
        | lst a1 r1 => cases h2 with
          | lst a2 r2 => exact ⟨_, _, _, _, rfl, .inl ⟨SqL.of (S1.ex _ _ a1), SqL.of (S1.ex _ _ a2), kq _ ρ1 _ F1 H1 hq1 e1 S1 (wk_zip (SqL.of a1) r1 (SqL.of a2) r2)⟩⟩
          | _ => exact hq1.elim
        | tup a1 r1 => cases h2 with
          | tup a2 r2 => exact ⟨_, _, _, _, rfl, .inr ⟨S1.tupK a1, S1.tupK a2, kq _ ρ1 _ F1 H1 hq1 e1 S1 (wk_zipT a1 r1 a2 r2)⟩⟩
          | _ => exact hq1.elim
        | _ => exact hq1.elim
      · cases h1 <;> first | exact hq1.elim | (cases h2 <;> exact hq1.elim)

/-! ### targets of data -/
structure Kp (as : List Nat) (σ σ' : St) : Prop where
  len : σ'.length = σ.length
  at_ : ∀ i : Nat, i ∉ as → σ'[i]? = σ[i]?
theorem Kp.refl (as : List Nat) (σ : St) : Kp as σ σ := ⟨rfl, fun _ _ => rfl⟩
theorem Kp.trans {as : List Nat} {a b c : St} (h : Kp as a b) (k : Kp as b c) : Kp as a c := ⟨k.len.trans h.len, fun i hi => (k.at_ i hi).trans (h.at_ i hi)⟩
theorem Kp.set {as : List Nat} {σ : St} {i : Nat} (hi : i ∈ as) (v : Option V) : Kp as σ (σ.set i v) := ⟨List.length_set, fun j hj => by
  rw [List.getElem?_set_ne (by rintro rfl; exact hj hi)]⟩
abbrev WG := D → Sl → (Sl → Prop) → Prop
def SG (G : Gs) (as : List Nat) (tg : TG) (g : WG) : Prop := ∀ (σ : St) (ρ : Sl) (F H : Hp) (T : List (V × O)) (v : V) (x : D) (k : Sl → Prop) (Q : St → Hp → Prop),
  Stt G F H σ ρ T → RepD G F v x → g x ρ k → (∀ σ' ρ', k ρ' → Stt G F H σ' ρ' T → Kp as σ σ' → Q σ' H) → tg v σ H Q
def gNm (as : List Nat) (i : Nat) : WG := fun x ρ k => i ∈ as ∧ i < ρ.length ∧ k (ρ.set i (some (.d x)))
theorem sg_name {G : Gs} {as : List Nat} (i : Nat) : SG G as (gName i) (gNm as i) := by
  intro σ ρ F H T v x k Q S r h kq
  obtain ⟨h1, h2, h3⟩ := h
  exact kq _ _ h3 ((S.addD r).store h2) (Kp.set h1 _)
abbrev WGs := List D → Sl → (Sl → Prop) → Prop
def SGs (G : Gs) (as : List Nat) (tg : TGs) (g : WGs) : Prop := ∀ (σ : St) (ρ : Sl) (F H : Hp) (T : List (V × O)) (vs : List V) (xs : List D) (k : Sl → Prop) (Q : St → Hp → Prop),
  Stt G F H σ ρ T → RepDs G F vs xs → g xs ρ k → (∀ σ' ρ', k ρ' → Stt G F H σ' ρ' T → Kp as σ σ' → Q σ' H) → tg vs σ H Q
def gNl : WGs := fun xs ρ k => match xs with | [] => k ρ | _ => False
theorem sg_nil {G : Gs} {as : List Nat} : SGs G as gNil gNl := by
  intro σ ρ F H T vs xs k Q S r h kq
  cases r with
  | nil => exact ⟨rfl, kq _ _ h S (Kp.refl _ _)⟩
  | cons _ _ => exact h.elim
def gCn (g : WG) (gs : WGs) : WGs := fun xs ρ k => match xs with | x :: r => g x ρ (fun ρ1 => gs r ρ1 k) | [] => False
theorem sg_cons {G : Gs} {as : List Nat} {t : TG} {u : TGs} {g : WG} {gs : WGs} (h1 : SG G as t g) (h2 : SGs G as u gs) : SGs G as (gCons t u) (gCn g gs) := by
  intro σ ρ F H T vs xs k Q S r h kq
  cases r with
  | nil => exact h.elim
  | cons hd tl =>
    exact ⟨_, _, rfl, h1 σ ρ F H T _ _ _ _ S hd h fun σ1 ρ1 q1 S1 k1 => h2 σ1 ρ1 F H T _ _ k Q S1 tl q1 fun σ2 ρ2 q2 S2 k2 => kq σ2 ρ2 q2 S2 (k1.trans k2)⟩
def gTp (n : Nat) (gs : WGs) : WG := fun x ρ k => match x with | .tup xs => xs.length = n ∧ gs xs ρ k | _ => False
theorem sg_tup {G : Gs} {as : List Nat} {u : TGs} {gs : WGs} (n : Nat) (h1 : SGs G as u gs) : SG G as (gTup G.K n u) (gTp n gs) := by
  intro σ ρ F H T v x k Q S r h kq
  cases r with
  | tup a r => exact ⟨_, _, rfl, S.tupK a, by rw [r.length]; exact h.1, h1 σ ρ F H T _ _ k Q S r h.2 kq⟩
  | _ => exact h.elim
end Pv

set_option Elab.async false
set_option maxRecDepth 100000
set_option maxHeartbeats 4000000
set_option autoImplicit false
namespace Pv
open PySem L2

/-! ### comprehensions -/
def wipeS (ρ : Sl) : List Nat → Sl
  | [] => ρ
  | i :: r => (wipeS ρ r).set i none
theorem its_congr : ∀ {σ σ' : St} {ρ : Sl}, σ.length = σ'.length → (∀ (i : Nat) (o : O), ρ[i]? = some (some o) → σ[i]? = σ'[i]?) → its σ ρ = its σ' ρ
  | [], [], ρ, _, _ => rfl
  | [], _ :: _, _, h, _ => by simp at h
  | _ :: _, [], _, h, _ => by simp at h
  | s :: σ, s' :: σ', [], _, _ => by cases s <;> cases s' <;> rfl
  | s :: σ, s' :: σ', r :: ρ, h, k => by
    have ih := its_congr (σ := σ) (σ' := σ') (ρ := ρ) (by simpa using h) (fun i o q => by simpa using k (i + 1) o (by simpa using q))
    cases r with
    | none => cases s <;> cases s' <;> (simp only [its]; exact ih)
    | some r =>
      have e : s = s' := by simpa using k 0 r rfl
      subst e
      cases s with
      | none => simp only [its]; exact ih
      | some s => simp only [its]; rw [ih]
theorem Stt.congr {G : Gs} {F H : Hp} {σ σ' : St} {ρ : Sl} {T : List (V × O)} (S : Stt G F H σ ρ T) (hl : σ.length = σ'.length) (k : ∀ (i : Nat) (o : O), ρ[i]? = some (some o) → σ[i]? = σ'[i]?) : Stt G F H σ' ρ T := by
  refine ⟨⟨hl.symm.trans S.1.len, fun i o q => ?_⟩, ?_⟩
  · rw [← k i o q]; exact S.1.at_ i o q
  · rw [← its_congr hl k]; exact S.2
theorem Stt.wipe1 {G : Gs} {F H : Hp} {T : List (V × O)} {σ : St} {ρ : Sl} (S : Stt G F H σ ρ T) (i : Nat) : Stt G F H (σ.set i none) (ρ.set i none) T := by
  refine (S.lose i).congr (by rw [List.length_set]) fun j o q => ?_
  by_cases e : i = j
  · subst e
    by_cases l : i < ρ.length
    · rw [List.getElem?_set_self l] at q; cases q
    · rw [List.getElem?_eq_none (by simpa using l)] at q; cases q
  · rw [List.getElem?_set_ne e]
theorem Stt.wipe {G : Gs} {F H : Hp} {T : List (V × O)} {σ : St} {ρ : Sl} (S : Stt G F H σ ρ T) : ∀ (vs : List Nat), Stt G F H (L2.wipe σ vs) (wipeS ρ vs) T
  | [] => S
  | i :: r => (Stt.wipe S r).wipe1 i
theorem wipe_at {σ : St} {i : Nat} : ∀ {vs : List Nat}, i ∈ vs → i < σ.length → (L2.wipe σ vs)[i]? = some none
  | j :: r, h, hl => by
    unfold L2.wipe
    by_cases e : j = i
    · subst e; rw [List.getElem?_set_self (by rw [wipe_length]; exact hl)]
    · rw [List.getElem?_set_ne e]
      exact wipe_at ((List.mem_cons.mp h).resolve_left (fun z => e z.symm)) hl
theorem wipe_eq {σ σ' : St} {vs : List Nat} (k : Kp vs σ σ') : L2.wipe σ' vs = L2.wipe σ vs := by
  apply List.ext_getElem?
  intro i
  have hl := k.len
  by_cases h : i ∈ vs
  · by_cases l : i < σ.length
    · rw [wipe_at h l, wipe_at h (by omega)]
    · rw [List.getElem?_eq_none (by rw [wipe_length]; omega), List.getElem?_eq_none (by rw [wipe_length]; omega)]
  · rw [wipe_out h, wipe_out h]; exact k.at_ i h
theorem wipe_kp (σ : St) (vs : List Nat) : Kp vs σ (L2.wipe σ vs) := ⟨wipe_length σ vs, fun _ hi => wipe_out hi⟩
theorem wipeS_none {i : Nat} (o : O) : ∀ (vs : List Nat) (ρ : Sl), i ∈ vs → (wipeS ρ vs)[i]? ≠ some (some o)
  | j :: r, ρ, h, q => by
    unfold wipeS at q
    by_cases e : j = i
    · subst e
      by_cases l : j < (wipeS ρ r).length
      · rw [List.getElem?_set_self l] at q; cases q
      · rw [List.getElem?_eq_none (by simpa using l)] at q; cases q
    · rw [List.getElem?_set_ne e] at q
      exact wipeS_none o r ρ ((List.mem_cons.mp h).resolve_left (fun z => e z.symm)) q
def nox : Exc → Sl → Prop := fun _ _ => False
def W0 : WX := fun _ _ _ _ => False
def lcGo (g : WG) (c : WT) (e : WE) (own : List Nat) : List D → Sl → List D → (List D → Sl → Prop) → Prop
  | [], ρ, acc, k => k acc ρ
  | x :: xs, ρ, acc, k => g x ρ (fun ρ2 => c ρ2 (fun b ρ3 => ifB b (e ρ3 (fun o ρ4 => cold o fun y => acc.length < sizeLine ∧ lcGo g c e own xs (wipeS ρ4 own) (acc ++ [y]) k) nox) (lcGo g c e own xs (wipeS ρ3 own) acc k)) nox)
def wLc (it : WA) (g : WG) (c : WT) (e : WE) (own : List Nat) : WE := fun ρ Q E => it ρ (fun xs ρ1 => lcGo g c e own xs (wipeS ρ1 own) [] fun ys ρ2 => Q (.lst ys) ρ2) E
theorem se_lc {G : Gs} {W : WX} {wi : TI} {g : TG} {tt : TT} {te : TE} {own : List Nat} {it : WA} {wg : WG} {c : WT} {e : WE} (hi : SI G W wi it) (hg : SG G own g wg) (hc : ST G W0 tt c) (he : SE G W0 te e) :
    SE G W (tLc wi g tt te own) (wLc it wg c e own) := by
  intro σ ρ F H T Q Qd Ed S h kq ke
  refine hi σ ρ F H T _ _ Ed S h (fun xs ρ1 J F1 H1 hq1 e1 S1 wk Da hD => ?_) ke
  refine ⟨fun i m H' => m = xs.length - i ∧ i ≤ xs.length ∧ ∃ F' ρ' acc, Ex F1 F' ∧ Stt G F' H' (L2.wipe σ own) (wipeS ρ' own) ((.ref Da, .lst acc) :: T) ∧ lcGo wg c e own (xs.drop i) (wipeS ρ' own) acc fun ys ρ2 => Qd (.lst ys) ρ2,
    ⟨xs.length, by simp, Nat.zero_le _, F1, ρ1, [], Ex.refl F1, (S1.newL hD .nil).wipe own, hq1⟩, ?_⟩
  rintro i m H' ⟨rfl, hi, F', ρ', acc, e', S', q⟩
  obtain ⟨w1, w2⟩ := wk F' H' _ _ _ i e' S'
  by_cases hlt : i < xs.length
  · refine .inr ?_
    obtain ⟨d, hd⟩ : ∃ d, xs[i]? = some d := ⟨_, List.getElem?_eq_getElem hlt⟩
    obtain ⟨w3, w4⟩ := w2 d hd
    refine ⟨w3, fun H2 => ∃ F' ρ' acc, Ex F1 F' ∧ Stt G F' H2 (L2.wipe σ own) (wipeS ρ' own) ((.ref Da, .lst acc) :: T) ∧ lcGo wg c e own (xs.drop (i + 1)) (wipeS ρ' own) acc fun ys ρ2 => Qd (.lst ys) ρ2,
      fun H2 h2 => ⟨xs.length - (i + 1), by omega, rfl, hlt, h2⟩, fun x H2 y => ?_⟩
    obtain ⟨F2, e2, S2⟩ := w4 x H2 y
    have hdr : xs.drop i = d :: xs.drop (i + 1) := by
      rw [List.drop_eq_getElem_cons hlt]
      congr 1
      rw [List.getElem?_eq_getElem hlt] at hd
      exact Option.some.inj hd
    rw [hdr] at q
    have rd := S2.headD
    refine hg _ _ F2 H2 _ x d _ _ S2.drop rd q fun σ2 ρ2 q2 S3 k2 => ?_
    have wl : L2.wipe σ2 own = L2.wipe σ own := by rw [wipe_eq k2, wipe_eq (wipe_kp σ own)]
    refine ⟨wl, hc σ2 ρ2 F2 H2 _ _ _ nox S3 q2 (fun b ρ3 F3 H3 q3 e3 S4 => ?_) (fun _ _ _ _ _ _ z => z.elim)⟩
    cases b with
    | false =>
      refine (if_neg Bool.false_ne_true).mpr ⟨F3, ρ3, acc, e'.trans (e2.trans e3), ?_, q3.2 rfl⟩
      rw [← wl]
      exact S4.wipe own
    | true =>
      refine (if_pos rfl).mpr (he σ2 ρ3 F3 H3 _ _ _ nox S4 (q3.1 rfl) (fun o ρ4 v F4 H4 q4 e4 S5 => ?_) (fun _ _ _ _ _ _ z => z.elim))
      obtain ⟨no, hz, q4⟩ := q4
      obtain ⟨F5, e5, S6⟩ := S5.freeze no.ne
      have rv := S6.headD
      obtain ⟨p, vs, ep, hp, r, put⟩ := S6.drop.headL
      cases ep
      refine ⟨vs, hp, by rw [r.length]; exact hz, F5, ρ4, _, e'.trans (e2.trans (e3.trans (e4.trans e5))), ?_, q4⟩
      rw [← wl]
      exact (put _ _ (r.append (.cons rv .nil))).wipe own
  · have hi' : i = xs.length := by omega
    subst hi'
    refine .inl ⟨w1 rfl, ?_⟩
    rw [List.drop_length] at q
    refine kq _ _ _ F' H' q (e1.trans e') (S'.congr (wipe_length σ own) fun j o z => ?_)
    by_cases hj : j ∈ own
    · exact absurd z (wipeS_none o own ρ' hj)
    · exact wipe_out hj
end Pv

set_option Elab.async false
set_option maxRecDepth 100000
set_option maxHeartbeats 4000000
set_option autoImplicit false
set_option linter.unusedVariables false
namespace Pv
open PySem L2

structure EndW where
  nx : Sl → Prop
  rt : O → Sl → Prop
  bk : Sl → Prop
  ct : Sl → Prop
  ex : Exc → Sl → Prop
abbrev WS := Sl → EndW → Prop
structure BR (G : Gs) (W : WX) (as : List Nat) (F : Hp) (σ : St) (T : List (V × O)) (D : Ends) (De : EndW) : Prop where
  nx : ∀ (σ' : St) (ρ' : Sl) (F' H' : Hp), De.nx ρ' → Ex F F' → Stt G F' H' σ' ρ' T → Kp as σ σ' → D.nx σ' H'
  rt : ∀ (o : O) (v : V) (σ' : St) (ρ' : Sl) (F' H' : Hp), De.rt o ρ' → Ex F F' → Stt G F' H' σ' ρ' ((v, o) :: T) → Kp as σ σ' → D.rt v H'
  bk : ∀ (σ' : St) (ρ' : Sl) (F' H' : Hp), De.bk ρ' → Ex F F' → Stt G F' H' σ' ρ' T → Kp as σ σ' → D.bk σ' H'
  ct : ∀ (σ' : St) (ρ' : Sl) (F' H' : Hp), De.ct ρ' → Ex F F' → Stt G F' H' σ' ρ' T → Kp as σ σ' → D.ct σ' H'
  ex : ∀ (e : Exc) (σ' : St) (ρ' : Sl) (F' H' : Hp) (cls : Value) (d : Option Addr), De.ex e ρ' → Ex F F' → Stt G F' H' σ' ρ' T → Kp as σ σ' → ExcR G F' e cls d → W cls d σ' H'
section
variable {G : Gs} {W : WX} {as : List Nat} {F F1 : Hp} {σ σ1 : St} {T : List (V × O)} {D : Ends} {De : EndW}
theorem BR.up (b : BR G W as F σ T D De) (e : Ex F F1) (k : Kp as σ σ1) : BR G W as F1 σ1 T D De :=
  ⟨fun σ' ρ' F' H' h e' S k' => b.nx σ' ρ' F' H' h (e.trans e') S (k.trans k'), fun o v σ' ρ' F' H' h e' S k' => b.rt o v σ' ρ' F' H' h (e.trans e') S (k.trans k'),
    fun σ' ρ' F' H' h e' S k' => b.bk σ' ρ' F' H' h (e.trans e') S (k.trans k'), fun σ' ρ' F' H' h e' S k' => b.ct σ' ρ' F' H' h (e.trans e') S (k.trans k'),
    fun x σ' ρ' F' H' c d h e' S k' r => b.ex x σ' ρ' F' H' c d h (e.trans e') S (k.trans k') r⟩
theorem BR.upF (b : BR G W as F σ T D De) (e : Ex F F1) : BR G W as F1 σ T D De := b.up e (Kp.refl _ _)
theorem BR.ke (b : BR G W as F σ T D De) : KE G W F σ T De.ex := fun x ρ' F' H' c d h e' S r => b.ex x σ ρ' F' H' c d h e' S (Kp.refl _ _) r
end
def SS (G : Gs) (W : WX) (as : List Nat) (ts : TS) (m : WS) : Prop :=
  ∀ (σ : St) (ρ : Sl) (F H : Hp) (T : List (V × O)) (D : Ends) (De : EndW), Stt G F H σ ρ T → m ρ De → BR G W as F σ T D De → ts D σ H
section
variable {G : Gs} {W : WX} {as : List Nat}
def wNext : WS := fun ρ De => De.nx ρ
theorem ss_next : SS G W as tNext wNext := fun σ ρ F H T D De S h b => b.nx σ ρ F H h (Ex.refl F) S (Kp.refl _ _)
def wBreak : WS := fun ρ De => De.bk ρ
theorem ss_break : SS G W as tBreak wBreak := fun σ ρ F H T D De S h b => b.bk σ ρ F H h (Ex.refl F) S (Kp.refl _ _)
def wCont : WS := fun ρ De => De.ct ρ
theorem ss_cont : SS G W as tCont wCont := fun σ ρ F H T D De S h b => b.ct σ ρ F H h (Ex.refl F) S (Kp.refl _ _)
def wSeq (a b : WS) : WS := fun ρ De => a ρ { De with nx := fun ρ1 => b ρ1 De }
theorem ss_seq {ta tb : TS} {a b : WS} (h1 : SS G W as ta a) (h2 : SS G W as tb b) : SS G W as (tSeq ta tb) (wSeq a b) := by
  intro σ ρ F H T D De S h br
  refine h1 σ ρ F H T _ _ S h ⟨fun σ' ρ' F' H' q e S' k => ?_, br.rt, br.bk, br.ct, br.ex⟩
  exact h2 σ' ρ' F' H' T D De S' q (br.up e k)
def wDrop (m : WE) : WS := fun ρ De => m ρ (fun _ ρ1 => De.nx ρ1) De.ex
theorem ss_drop {te : TE} {m : WE} (h1 : SE G W te m) : SS G W as (tDrop te) (wDrop m) := by
  intro σ ρ F H T D De S h br
  exact h1 σ ρ F H T _ _ De.ex S h (fun o ρ' v F' H' q e S' => br.nx σ ρ' F' H' q e S'.drop (Kp.refl _ _)) br.ke
def wRet (m : WE) : WS := fun ρ De => m ρ De.rt De.ex
theorem ss_ret {te : TE} {m : WE} (h1 : SE G W te m) : SS G W as (tRet te) (wRet m) := by
  intro σ ρ F H T D De S h br
  exact h1 σ ρ F H T _ _ De.ex S h (fun o ρ' v F' H' q e S' => br.rt o v σ ρ' F' H' q e S' (Kp.refl _ _)) br.ke
def wRetN : WS := fun ρ De => De.rt (.d .non) ρ
theorem ss_retN : SS G W as tRetN wRetN := fun σ ρ F H T D De S h br => br.rt _ _ σ ρ F H h (Ex.refl F) (S.addD .non) (Kp.refl _ _)
def wIfS (c : WT) (a b : WS) : WS := fun ρ De => c ρ (fun k ρ1 => ifB k (a ρ1 De) (b ρ1 De)) De.ex
theorem ss_if {tc : TT} {ta tb : TS} {c : WT} {a b : WS} (h0 : ST G W tc c) (h1 : SS G W as ta a) (h2 : SS G W as tb b) : SS G W as (tIfS tc ta tb) (wIfS c a b) := by
  intro σ ρ F H T D De S h br
  refine h0 σ ρ F H T _ _ De.ex S h (fun k ρ' F' H' q e S' => ?_) br.ke
  cases k with
  | true => exact (if_pos rfl).mpr (h1 σ ρ' F' H' T D De S' (q.1 rfl) (br.upF e))
  | false => exact (if_neg Bool.false_ne_true).mpr (h2 σ ρ' F' H' T D De S' (q.2 rfl) (br.upF e))
/-- name = e -/
def wAsg (i : Nat) (m : WE) : WS := fun ρ De => i ∈ as ∧ m ρ (fun o ρ1 => i < ρ1.length ∧ De.nx (ρ1.set i (some o))) De.ex
theorem ss_asg {te : TE} {m : WE} (i : Nat) (h1 : SE G W te m) : SS G W as (tAsg te (gName i)) (wAsg (as := as) i m) := by
  intro σ ρ F H T D De S h br
  obtain ⟨hi, h⟩ := h
  exact h1 σ ρ F H T _ _ De.ex S h (fun o ρ' v F' H' q e S' => br.nx _ _ F' H' q.2 e (S'.store q.1) (Kp.set hi _)) br.ke
/-- target = e, the value frozen -/
def wAsgG (g : WG) (m : WE) : WS := fun ρ De => m ρ (fun o ρ1 => cold o fun x => g x ρ1 De.nx) De.ex
theorem ss_asgG {te : TE} {tg : TG} {m : WE} {g : WG} (h1 : SE G W te m) (h2 : SG G as tg g) : SS G W as (tAsg te tg) (wAsgG g m) := by
  intro σ ρ F H T D De S h br
  refine h1 σ ρ F H T _ _ De.ex S h (fun o ρ' v F' H' q e S' => ?_) br.ke
  obtain ⟨no, q⟩ := q
  obtain ⟨F2, e2, S2⟩ := S'.freeze no.ne
  exact h2 σ ρ' F2 H' T v _ _ _ S2.drop S2.headD q fun σ1 ρ1 q1 S3 k => br.nx σ1 ρ1 F2 H' q1 (e.trans e2) S3 k
/-- name op= e, ints -/
def wAug (i : Nat) (f : Int → Int → Int) (m : WE) : WS := fun ρ De => i ∈ as ∧ ∃ a, ρ[i]? = some (some (.d (.int a))) ∧ m ρ (fun o ρ1 => match o with | .d (.int b) => i < ρ1.length ∧ De.nx (ρ1.set i (some (.d (.int (f a b))))) | _ => False) De.ex
theorem ss_aug {te : TE} {m : WE} (i : Nat) (f : Int → Int → Int) (h1 : SE G W te m) : SS G W as (tAug i te (ipI f)) (wAug (as := as) i f m) := by
  intro σ ρ F H T D De S h br
  obtain ⟨hi, a, ha, h⟩ := h
  obtain ⟨v, hv, S1⟩ := S.out ha
  have rv := S1.headD
  cases rv
  refine ⟨_, hv, h1 σ ρ F H T _ _ De.ex S h (fun o ρ' w F' H' q e S' => ?_) br.ke⟩
  cases o with
  | d y =>
    have r := S'.headD
    cases r with
    | int b => exact ⟨a, b, rfl, rfl, br.nx _ _ F' H' q.2 e ((S'.drop.addD (.int (f a b))).store q.1) (Kp.set hi _)⟩
    | _ => exact q.elim
  | _ => exact q.elim

/-! ### for, while -/
def forGo (g : WG) (b : WS) : List D → Sl → EndW → Prop
  | [], ρ, De => De.nx ρ
  | x :: xs, ρ, De => g x ρ fun ρ1 => b ρ1 { De with nx := fun ρ2 => forGo g b xs ρ2 De, ct := fun ρ2 => forGo g b xs ρ2 De, bk := De.nx }
def wFor (it : WA) (g : WG) (b : WS) : WS := fun ρ De => it ρ (fun xs ρ1 => forGo g b xs ρ1 De) De.ex
theorem ss_for {wi : TI} {tg : TG} {tb : TS} {it : WA} {g : WG} {b : WS} (hi : SI G W wi it) (hg : SG G as tg g) (hb : SS G W as tb b) : SS G W as (tFor wi tg tb) (wFor it g b) := by
  intro σ ρ F H T D De S h br
  refine hi σ ρ F H T _ _ De.ex S h (fun xs ρ1 J F1 H1 hq1 e1 S1 wk => ?_) br.ke
  refine ⟨fun i m σ' H' => m = xs.length - i ∧ i ≤ xs.length ∧ ∃ F' ρ', Ex F1 F' ∧ Stt G F' H' σ' ρ' T ∧ Kp as σ σ' ∧ forGo g b (xs.drop i) ρ' De,
    ⟨xs.length, by simp, Nat.zero_le _, F1, ρ1, Ex.refl F1, S1, Kp.refl _ _, hq1⟩, ?_⟩
  rintro i m σ' H' ⟨rfl, hi, F', ρ', e', S', k', q⟩
  obtain ⟨w1, w2⟩ := wk F' H' _ _ _ i e' S'
  by_cases hlt : i < xs.length
  · refine .inr ?_
    obtain ⟨d, hd⟩ : ∃ d, xs[i]? = some d := ⟨_, List.getElem?_eq_getElem hlt⟩
    obtain ⟨w3, w4⟩ := w2 d hd
    have hdr : xs.drop i = d :: xs.drop (i + 1) := by
      rw [List.drop_eq_getElem_cons hlt]
      congr 1
      rw [List.getElem?_eq_getElem hlt] at hd
      exact Option.some.inj hd
    rw [hdr] at q
    refine ⟨w3, fun σ2 H2 => ∃ F' ρ', Ex F1 F' ∧ Stt G F' H2 σ2 ρ' T ∧ Kp as σ σ2 ∧ forGo g b (xs.drop (i + 1)) ρ' De,
      fun σ2 H2 h2 => ⟨xs.length - (i + 1), by omega, rfl, hlt, h2⟩, fun x H2 y => ?_⟩
    obtain ⟨F2, e2, S2⟩ := w4 x H2 y
    refine hg _ _ F2 H2 _ x d _ _ S2.drop S2.headD q fun σ2 ρ2 q2 S3 k2 => ?_
    have br2 := br.up (e1.trans (e'.trans e2)) (k'.trans k2)
    refine hb σ2 ρ2 F2 H2 T _ _ S3 q2 ⟨fun σ3 ρ3 F3 H3 q3 e3 S4 k3 => ?_, br2.rt, br2.nx, fun σ3 ρ3 F3 H3 q3 e3 S4 k3 => ?_, br2.ex⟩
    · exact ⟨F3, ρ3, e'.trans (e2.trans e3), S4, k'.trans (k2.trans k3), q3⟩
    · exact ⟨F3, ρ3, e'.trans (e2.trans e3), S4, k'.trans (k2.trans k3), q3⟩
  · have hi' : i = xs.length := by omega
    subst hi'
    refine .inl ⟨w1 rfl, ?_⟩
    rw [List.drop_length] at q
    exact br.nx σ' ρ' F' H' q (e1.trans e') S' k'
def wWhile (c : WT) (b : WS) : WS := fun ρ De => ∃ I : Nat → Sl → Prop, (∃ m, I m ρ) ∧ ∀ m ρ, I m ρ → c ρ (fun t ρ1 => ifB t (b ρ1 { De with nx := fun ρ2 => ∃ m', m' < m ∧ I m' ρ2, ct := fun ρ2 => ∃ m', m' < m ∧ I m' ρ2, bk := De.nx }) (De.nx ρ1)) De.ex
theorem ss_while {tc : TT} {tb : TS} {c : WT} {b : WS} (hc : ST G W tc c) (hb : SS G W as tb b) : SS G W as (tWhile tc tb) (wWhile c b) := by
  intro σ ρ F H T D De S h br
  obtain ⟨I, ⟨m0, h0⟩, hI⟩ := h
  refine ⟨fun m σ' H' => ∃ F' ρ', Ex F F' ∧ Stt G F' H' σ' ρ' T ∧ Kp as σ σ' ∧ I m ρ', ⟨m0, F, ρ, Ex.refl F, S, Kp.refl _ _, h0⟩, ?_⟩
  rintro m σ' H' ⟨F', ρ', e', S', k', q⟩
  have br1 := br.up e' k'
  refine hc σ' ρ' F' H' T _ _ De.ex S' (hI m ρ' q) (fun t ρ1 F1 H1 q1 e1 S1 => ?_) br1.ke
  have br2 := br1.upF e1
  cases t with
  | false => exact (if_neg Bool.false_ne_true).mpr (br2.nx σ' ρ1 F1 H1 (q1.2 rfl) (Ex.refl _) S1 (Kp.refl _ _))
  | true =>
    refine (if_pos rfl).mpr ⟨fun σ2 H2 => ∃ m', m' < m ∧ ∃ F' ρ', Ex F F' ∧ Stt G F' H2 σ2 ρ' T ∧ Kp as σ σ2 ∧ I m' ρ', fun σ2 H2 h2 => h2, ?_⟩
    refine hb σ' ρ1 F1 H1 T _ _ S1 (q1.1 rfl) ⟨fun σ3 ρ3 F3 H3 q3 e3 S4 k3 => ?_, br2.rt, br2.nx, fun σ3 ρ3 F3 H3 q3 e3 S4 k3 => ?_, br2.ex⟩
    all_goals
      obtain ⟨m', hm, q3⟩ := q3
      exact ⟨m', hm, F3, ρ3, e'.trans (e1.trans e3), S4, k'.trans k3, q3⟩

/-! ### lists that are changed -/
/-- x[i] = e -/
def wSetL (i : Nat) (mi mv : WE) : WS := fun ρ De => mv ρ (fun o ρ1 => cold o fun y => wHas i ρ1 ∧ mi ρ1 (fun k ρ2 => match k with
  | .d (.int z) => ∃ xs j, ρ2[i]? = some (some (.lst xs)) ∧ ixN xs.length z = some j ∧ De.nx (ρ2.set i (some (.lst (xs.set j y))))
  | _ => False) De.ex) De.ex
theorem ss_setL {ti tv : TE} {mi mv : WE} (i : Nat) (h1 : SE G W ti mi) (h2 : SE G W tv mv) : SS G W as (tAsg tv (gSub (tVar i) ti rSetL)) (wSetL i mi mv) := by
  intro σ ρ F H T D De S h br
  refine h2 σ ρ F H T _ _ De.ex S h (fun o ρ1 v F1 H1 q e1 S1 => ?_) br.ke
  obtain ⟨no, ⟨o0, ho0⟩, q⟩ := q
  obtain ⟨F2, e2, S2⟩ := S1.freeze no.ne
  have rv := S2.headD
  obtain ⟨w, hw⟩ := S2.1.at_ i o0 ho0
  refine ⟨w, hw, h1 σ ρ1 F2 H1 T _ _ De.ex S2.drop q (fun k ρ2 u F3 H3 q3 e3 S3 => ?_) (br.ke.up (e1.trans e2))⟩
  cases k with
  | d y =>
    have r := S3.headD
    cases r with
    | int z =>
      obtain ⟨xs, j, hx, hj, q3⟩ := q3
      obtain ⟨w2, hw2, S4⟩ := S3.drop.out hx
      rw [hw] at hw2; cases hw2
      obtain ⟨p, vs, ep, hp, rr, put⟩ := S4.headL
      subst ep
      refine ⟨p, vs, z, j, rfl, rfl, hp, by rw [rr.length]; exact hj, ?_⟩
      exact br.nx σ _ F3 _ q3 (e1.trans (e2.trans e3)) ((put _ _ (rr.set j (rv.mono e3))).back hw _ rfl) (Kp.refl _ _)
    | _ => exact q3.elim
  | _ => exact q3.elim
/-- x.append(e) -/
def wApp (i : Nat) (mv : WE) : WE := fun ρ Q E => (∃ xs, ρ[i]? = some (some (.lst xs))) ∧ mv ρ (fun o ρ1 => cold o fun y => ∃ xs, ρ1[i]? = some (some (.lst xs)) ∧ xs.length < sizeLine ∧ Q (.d .non) (ρ1.set i (some (.lst (xs ++ [y]))))) E
theorem se_app {tv : TE} {mv : WE} (i : Nat) (h2 : SE G W tv mv) : SE G W (tBM G.K "list" rAppend (tVar i) (tCons tv tNil)) (wApp i mv) := by
  intro σ ρ F H T Q Qd Ed S h kq ke
  obtain ⟨⟨xs0, h0⟩, h⟩ := h
  obtain ⟨w, hw, S0⟩ := S.out h0
  obtain ⟨p, vs, ep, hp, rr, put⟩ := S0.headL
  subst ep
  refine ⟨_, hw, .inl ⟨rfl, _, SqL.of hp⟩, h2 σ ρ F H T _ _ Ed S h (fun o ρ1 v F1 H1 q e1 S1 => ?_) ke⟩
  obtain ⟨no, xs, hx, hl, q⟩ := q
  obtain ⟨F2, e2, S2⟩ := S1.freeze no.ne
  have rv := S2.headD
  obtain ⟨w2, hw2, S4⟩ := S2.drop.out hx
  rw [hw] at hw2; cases hw2
  obtain ⟨p', vs', ep, hp', rr', put'⟩ := S4.headL
  cases ep
  refine ⟨p, vs', v, rfl, rfl, hp', by rw [rr'.length]; exact hl, ?_⟩
  exact kq _ _ _ F2 _ q (e1.trans e2) (((put' _ _ (rr'.append (.cons rv .nil))).back hw _ rfl).addD .non)
/-- x.extend(e) -/
def wExt (i : Nat) (mv : WE) : WE := fun ρ Q E => (∃ xs, ρ[i]? = some (some (.lst xs))) ∧ mv ρ (fun o ρ1 => cold o fun y => match y with
  | .lst ys => ∃ xs, ρ1[i]? = some (some (.lst xs)) ∧ xs.length + ys.length ≤ sizeLine ∧ Q (.d .non) (ρ1.set i (some (.lst (xs ++ ys))))
  | _ => False) E
theorem se_ext {tv : TE} {mv : WE} (i : Nat) (h2 : SE G W tv mv) : SE G W (tBM G.K "list" rExtend (tVar i) (tCons tv tNil)) (wExt i mv) := by
  intro σ ρ F H T Q Qd Ed S h kq ke
  obtain ⟨⟨xs0, h0⟩, h⟩ := h
  obtain ⟨w, hw, S0⟩ := S.out h0
  obtain ⟨p, vs, ep, hp, rr, put⟩ := S0.headL
  subst ep
  refine ⟨_, hw, .inl ⟨rfl, _, SqL.of hp⟩, h2 σ ρ F H T _ _ Ed S h (fun o ρ1 v F1 H1 q e1 S1 => ?_) ke⟩
  obtain ⟨no, q⟩ := q
  obtain ⟨F2, e2, S2⟩ := S1.freeze no.ne
  have rv := S2.headD
  generalize fz o = y at rv q
  cases rv with
  | lst hq ry =>
    obtain ⟨xs, hx, hl, q⟩ := q
    obtain ⟨w2, hw2, S4⟩ := S2.drop.out hx
    rw [hw] at hw2; cases hw2
    obtain ⟨p', vs', ep, hp', rr', put'⟩ := S4.headL
    cases ep
    refine ⟨p, _, vs', _, rfl, rfl, hp', S2.ex _ _ hq, by rw [rr'.length, ry.length]; exact hl, ?_⟩
    exact kq _ _ _ F2 _ q (e1.trans e2) (((put' _ _ (rr'.append ry)).back hw _ rfl).addD .non)
  | _ => exact q.elim
/-- x.pop() -/
def wPop (i : Nat) : WE := fun ρ Q _ => ∃ xs y, ρ[i]? = some (some (.lst xs)) ∧ xs[xs.length - 1]? = some y ∧ Q (.d y) (ρ.set i (some (.lst xs.dropLast)))
theorem RepDs.dropLast {G : Gs} {F : Hp} {vs : List V} {xs : List D} (r : RepDs G F vs xs) : RepDs G F vs.dropLast xs.dropLast := by
  rw [List.dropLast_eq_take, List.dropLast_eq_take, r.length]; exact r.take _
theorem se_pop (i : Nat) : SE G W (tBM0 G.K "list" rPop (tVar i)) (wPop i) := by
  intro σ ρ F H T Q Qd Ed S h kq ke
  obtain ⟨xs, y, hx, hy, q⟩ := h
  obtain ⟨w, hw, S0⟩ := S.out hx
  obtain ⟨p, vs, ep, hp, rr, put⟩ := S0.headL
  subst ep
  obtain ⟨v, hv, rv⟩ := rr.get hy
  refine ⟨_, hw, .inl ⟨rfl, _, SqL.of hp⟩, p, vs, v, rfl, rfl, hp, by rw [rr.length]; exact hv, ?_⟩
  exact kq _ _ _ F _ q (Ex.refl F) (((put _ _ rr.dropLast).back hw _ rfl).addD rv)
end
end Pv

set_option Elab.async false
set_option maxRecDepth 100000
set_option maxHeartbeats 4000000
set_option autoImplicit false
set_option linter.unusedVariables false
namespace Pv
open PySem L2

/-! ### x[i] op= e -/
open PySem.Spec PyProof.Rows in
theorem pget_list {X : Cx} : PGet X (rIxL X.K) := by
  intro pins s σ H o i ov iv Q I ro ri h
  obtain ⟨p, xs, k, z, rfl, rfl, hq, he, q⟩ := h
  cases ro
  obtain ⟨t, rfl⟩ := ri
  obtain ⟨its, r, pl, hz⟩ := I.list hq
  obtain ⟨j, h1, h2, h3, h4, h5⟩ := atI_get he
  obtain ⟨w, ew, rw'⟩ := r.get h2
  have hl := r.length
  have hn := line63
  have fin : EP X pins σ Q w s := ⟨z, H, I, rw', q⟩
  by_cases h0 : 0 ≤ k
  · have hj : k.toNat = j := by
      rw [seqIndex_of h0 h5] at h1
      exact Option.some.inj h1
    exact wpAny_getItem_list pl.isList h0 (by omega) (by rw [hj]; simpa using ew) fin
  · have hj : (k + (its.toArray.size : Int)).toNat = j := by
      rw [seqIndex_neg (by omega) h4] at h1
      rw [List.size_toArray, ← hl]
      exact Option.some.inj h1
    exact wpAny_getItem_list_neg pl.isList (by omega) (by rw [List.size_toArray] <;> omega) (by omega) (by rw [hj]; simpa using ew) fin
section
variable {G : Gs} {W : WX} {as : List Nat}
def wAugL (i : Nat) (f : Int → Int → Int) (mi mv : WE) : WS := fun ρ De => wHas i ρ ∧ mi ρ (fun k ρ1 => match k with
  | .d (.int z) => ∃ xs a, ρ1[i]? = some (some (.lst xs)) ∧ atI xs z = some (.int a) ∧ mv ρ1 (fun o ρ2 => match o with
    | .d (.int b) => ∃ ys j, ρ2[i]? = some (some (.lst ys)) ∧ ixN ys.length z = some j ∧ De.nx (ρ2.set i (some (.lst (ys.set j (.int (f a b))))))
    | _ => False) De.ex
  | _ => False) De.ex
theorem ss_augL {ti tv : TE} {mi mv : WE} (i : Nat) (f : Int → Int → Int) (h1 : SE G W ti mi) (h2 : SE G W tv mv) : SS G W as (tAugS (tVar i) ti tv (rIxL G.K) (ipI f) rSetL) (wAugL i f mi mv) := by
  intro σ ρ F H T D De S h br
  obtain ⟨⟨o0, ho0⟩, h⟩ := h
  obtain ⟨w, hw⟩ := S.1.at_ i o0 ho0
  refine ⟨w, hw, h1 σ ρ F H T _ _ De.ex S h (fun k ρ1 u F1 H1 q e1 S1 => ?_) br.ke⟩
  cases k with
  | d y =>
    have r := S1.headD
    cases r with
    | int z =>
      obtain ⟨xs, a, hx, ha, q⟩ := q
      have S1' := S1.drop
      obtain ⟨w2, hw2, S2⟩ := S1'.out hx
      rw [hw] at hw2; cases hw2
      obtain ⟨p, vs, ep, hp, rr, put⟩ := S2.headL
      subst ep
      obtain ⟨va, hva, rva⟩ := rr.atI ha
      cases rva
      refine ⟨p, vs, z, _, rfl, rfl, SqL.of hp, hva, h2 σ ρ1 F1 H1 T _ _ De.ex S1' q (fun o ρ2 v F2 H2 q2 e2 S3 => ?_) (br.ke.up e1)⟩
      cases o with
      | d y =>
        have r := S3.headD
        cases r with
        | int b =>
          obtain ⟨ys, j, hy, hj, q2⟩ := q2
          obtain ⟨w3, hw3, S4⟩ := S3.drop.out hy
          rw [hw] at hw3; cases hw3
          obtain ⟨p', vs', ep, hp', rr', put'⟩ := S4.headL
          cases ep
          refine ⟨a, b, rfl, rfl, p, vs', z, j, rfl, rfl, hp', by rw [rr'.length]; exact hj, ?_⟩
          exact br.nx σ _ F2 _ q2 (e1.trans e2) ((put' _ _ (rr'.set j (.int _))).back hw _ rfl) (Kp.refl _ _)
        | _ => exact q2.elim
      | _ => exact q2.elim
    | _ => exact q.elim
  | _ => exact q.elim

/-! ### argument lists whose items are handed on as they are -/
abbrev Args := List (Option Nat × WE)
def wAO : Args → Sl → (List O → Sl → Prop) → (Exc → Sl → Prop) → Prop
  | [], ρ, Q, _ => Q [] ρ
  | (none, m) :: r, ρ, Q, E => m ρ (fun o ρ1 => wAO r ρ1 (fun os ρ2 => Q (o :: os) ρ2) E) E
  | (some i, m) :: r, ρ, Q, E => wHas i ρ ∧ wAO r ρ (fun os ρ1 => m ρ1 (fun o ρ2 => Q (o :: os) ρ2) E) E
def BorOk (σ : St) : Args → List V → Prop
  | [], [] => True
  | (b, _) :: r, v :: vs => (∀ i, b = some i → σ[i]? = some (some v)) ∧ BorOk σ r vs
  | _, _ => False
def SAO (G : Gs) (W : WX) (ta : TA) (m : Args) : Prop :=
  ∀ (σ : St) (ρ : Sl) (F H : Hp) (T : List (V × O)) (Q : List V → Hp → Prop) (Qd : List O → Sl → Prop) (Ed : Exc → Sl → Prop),
    Stt G F H σ ρ T → wAO m ρ Qd Ed →
    (∀ os ρ' vs F' H', Qd os ρ' → Ex F F' → vs.length = os.length → Stt G F' H' σ ρ' (vs.zip os ++ T) → BorOk σ m vs → Q vs H') → KE G W F σ T Ed → ta σ H Q
theorem sao_nil : SAO G W tNil [] := by
  intro σ ρ F H T Q Qd Ed S h kq ke
  exact kq [] ρ [] F H h (Ex.refl F) rfl S trivial
theorem sao_cons {te : TE} {tr : TA} {m : WE} {r : Args} (h1 : SE G W te m) (h2 : SAO G W tr r) : SAO G W (tCons te tr) ((none, m) :: r) := by
  intro σ ρ F H T Q Qd Ed S h kq ke
  refine h1 σ ρ F H T _ _ Ed S h (fun o ρ1 x F1 H1 hq1 e1 S1 => ?_) ke
  refine h2 σ ρ1 F1 H1 ((x, o) :: T) _ _ Ed S1 hq1 (fun os ρ2 vs F2 H2 hq2 e2 l2 S2 b2 => ?_) (ke.up e1).more
  exact kq (o :: os) ρ2 (x :: vs) F2 H2 hq2 (e1.trans e2) (by rw [List.length_cons, List.length_cons, l2]) (S2.permT List.perm_middle) ⟨fun i e => (by cases e), b2⟩
theorem KE.moreL {F : Hp} {σ : St} {T : List (V × O)} {Ed : Exc → Sl → Prop} (k : KE G W F σ T Ed) : ∀ L : List (V × O), KE G W F σ (L ++ T) Ed
  | [] => k
  | _ :: L => (KE.moreL k L).more
theorem bor_step {i : Nat} {σ : St} {ρ : Sl} {F H : Hp} {T : List (V × O)} {v : V} {Q : List V → Hp → Prop} {Qd : O → Sl → Prop} {Ed : Exc → Sl → Prop} {vs : List V} (hv : σ[i]? = some (some v)) (S : Stt G F H σ ρ T) (h : wMove i ρ Qd Ed)
    (kq : ∀ o ρ' F' H', Qd o ρ' → Ex F F' → Stt G F' H' σ ρ' ((v, o) :: T) → Q (v :: vs) H') (ke : KE G W F σ T Ed) : Q (v :: vs) H := by
  have z := se_move (G := G) (W := W) i σ ρ F H T (fun x H1 => x = v → Q (x :: vs) H1) _ Ed S h (fun o ρ1 x F1 H1 hq1 e1 S1 ex => by rw [ex] at S1 ⊢; exact kq o ρ1 F1 H1 hq1 e1 S1) ke
  obtain ⟨v', hv', q⟩ := z
  rw [hv] at hv'
  cases hv'
  exact q rfl
theorem sao_bor {tr : TA} {r : Args} (i : Nat) (h2 : SAO G W tr r) : SAO G W (tCons (tVar i) tr) ((some i, wMove i) :: r) := by
  intro σ ρ F H T Q Qd Ed S h kq ke
  obtain ⟨⟨o0, ho0⟩, h⟩ := h
  obtain ⟨v, hv⟩ := S.1.at_ i o0 ho0
  refine ⟨v, hv, h2 σ ρ F H T _ _ Ed S h (fun os ρ1 vs F1 H1 hq1 e1 l1 S1 b1 => ?_) ke⟩
  exact bor_step hv S1 hq1 (fun o ρ2 F2 H2 hq2 e2 S2 => kq (o :: os) ρ2 (v :: vs) F2 H2 hq2 (e1.trans e2) (by rw [List.length_cons, List.length_cons, l1]) S2 ⟨fun j e => by cases e; exact hv, b1⟩) ((ke.up e1).moreL _)

/-! ### a def's promise, from a contract on data -/
abbrev Ct := List O → (O → Sl → Prop) → (Exc → Sl → Prop) → Prop
def spOf (G : Gs) (n : Nat) (C : Ct) : Sp := fun vs H Q E => vs.length = n ∧ ∃ (F : Hp) (T : List (V × O)) (os : List O) (Qd : O → Sl → Prop) (Ed : Exc → Sl → Prop), os.length = n ∧ Own G F H (vs.zip os ++ T) ∧ C os Qd Ed ∧
  (∀ (r : O) (os' : Sl) (v : V) (F' H' : Hp), Qd r os' → Ex F F' → Own G F' H' ((v, r) :: its (vs.map some) os' ++ T) → Q v H') ∧
  (∀ (e : Exc) (os' : Sl) (F' H' : Hp) (cls : Value) (d : Option Addr), Ed e os' → Ex F F' → Own G F' H' (its (vs.map some) os' ++ T) → ExcR G F' e cls d → E cls d H')
/-- how the arguments come to the parameters -/
def arr {α : Type} [Inhabited α] (ord : List Nat) (xs : List α) : List α := ord.map fun i => xs.getD i default
instance : Inhabited V := ⟨.non⟩
instance : Inhabited O := ⟨.d .non⟩
instance : Inhabited D := ⟨.non⟩
theorem arr_len {α : Type} [Inhabited α] (ord : List Nat) (xs : List α) : (arr ord xs).length = ord.length := by unfold arr; rw [List.length_map]
theorem arr_zip : ∀ {ord : List Nat} {vs : List V} {os : List O}, ord.Perm (List.range vs.length) → vs.length = os.length → ((arr ord vs).zip (arr ord os)).Perm (vs.zip os) := by
  intro ord vs os p hl
  have e1 : (arr ord vs).zip (arr ord os) = ord.map fun i => (vs.getD i default, os.getD i default) := by
    unfold arr
    rw [List.zip_map']
  have e2 : vs.zip os = (List.range vs.length).map fun i => (vs.getD i default, os.getD i default) := by
    apply List.ext_getElem?
    intro i
    by_cases h : i < vs.length
    · rw [List.getElem?_map, List.getElem?_range h]
      have h2 : i < os.length := by omega
      rw [List.getElem?_zip_eq_some (z := (vs[i], os[i])) |>.mpr ⟨List.getElem?_eq_getElem h, List.getElem?_eq_getElem h2⟩]
      simp [List.getD_eq_getElem?_getD, List.getElem?_eq_getElem h, List.getElem?_eq_getElem h2]
    · rw [List.getElem?_eq_none (by rw [List.length_zip]; omega), List.getElem?_eq_none (by rw [List.length_map, List.length_range]; omega)]
  rw [e1, e2]
  exact p.map _
/-- what was borrowed comes back -/
def putb : List (Option Nat × O) → Sl → Sl → Sl
  | (b, o) :: r, x :: os', ρ => putb r os' (match b, o with
    | none, _ => ρ
    | some _, .d _ => ρ
    | some i, _ => ρ.set i x)
  | _, _, ρ => ρ
theorem putb_ok {F H : Hp} {σ : St} : ∀ {bs : List (Option Nat × O)} {vs : List V} {os' ρ : Sl} {T : List (V × O)}, Stt G F H σ ρ (its (vs.map some) os' ++ T) → bs.length = vs.length →
    (∀ (j : Nat) (i : Nat) (o : O), bs[j]? = some (some i, o) → ∃ v, vs[j]? = some v ∧ σ[i]? = some (some v)) → Stt G F H σ (putb bs os' ρ) T
  | [], [], os', ρ, T, S, _, _ => by
    have e : its (([] : List V).map some) os' = [] := by cases os' <;> rfl
    rw [e] at S
    have e2 : putb [] os' ρ = ρ := by cases os' <;> rfl
    rw [e2]; exact S
  | [], _ :: _, _, _, _, _, h, _ => by simp at h
  | _ :: _, [], _, _, _, _, h, _ => by simp at h
  | (b, o) :: r, v :: vs, [], ρ, T, S, _, _ => S
  | (b, o) :: r, v :: vs, x :: os', ρ, T, S, hl, hb => by
    have tl : ∀ (j : Nat) (i : Nat) (o : O), r[j]? = some (some i, o) → ∃ v, vs[j]? = some v ∧ σ[i]? = some (some v) := fun j i o h => by simpa using hb (j + 1) i o (by simpa using h)
    have skip : Stt G F H σ ρ (its (vs.map some) os' ++ T) := by
      cases x with
      | none => exact S
      | some x => exact S.drop
    have hl' : r.length = vs.length := by simpa using hl
    show Stt G F H σ (putb r os' _) T
    cases b with
    | none => exact putb_ok skip hl' tl
    | some i =>
      obtain ⟨v', hv', hi⟩ := hb 0 i o rfl
      have ev : v = v' := by simpa using hv'
      subst ev
      have main : Stt G F H σ (ρ.set i x) (its (vs.map some) os' ++ T) := by
        cases x with
        | none => exact S.lose i
        | some x =>
          exact Stt.back (Stt.lose (T := (v, x) :: (its (vs.map some) os' ++ T)) S i) hi x rfl
      cases o with
      | d _ => exact putb_ok skip hl' tl
      | lst _ => exact putb_ok main hl' tl
      | dic _ => exact putb_ok main hl' tl
      | ins _ _ => exact putb_ok main hl' tl
      | deck _ => exact putb_ok main hl' tl
def wCall (C : Ct) (ord : List Nat) (as : Args) : WE := fun ρ Q E => wAO as ρ (fun os ρ1 => C (arr ord os) (fun r os' => Q r (putb ((arr ord (as.map (·.1))).zip (arr ord os)) os' ρ1)) (fun e os' => E e (putb ((arr ord (as.map (·.1))).zip (arr ord os)) os' ρ1))) E
def tCallG (G : Gs) (W : WX) (n : Nat) (C : Ct) (ord : List Nat) (ta : TA) : TE := fun σ H Q => ta σ H fun vs H1 => spOf G n C (arr ord vs) H1 Q (fun cls d H' => W cls d σ H')
theorem BorOk.len {σ : St} : ∀ {as : Args} {vs : List V}, BorOk σ as vs → as.length = vs.length
  | [], [], _ => rfl
  | _ :: _, _ :: _, h => by rw [List.length_cons, List.length_cons, BorOk.len h.2]
  | [], _ :: _, h => h.elim
  | _ :: _, [], h => h.elim
theorem BorOk.get {σ : St} : ∀ {as : Args} {vs : List V} {j i : Nat} {m : WE}, BorOk σ as vs → as[j]? = some (some i, m) → ∃ v, vs[j]? = some v ∧ σ[i]? = some (some v)
  | [], [], j, i, m, _, h => by simp at h
  | (b, m') :: r, v :: vs, 0, i, m, h, e => by simp at e; exact ⟨v, rfl, h.1 i e.1⟩
  | (b, m') :: r, v :: vs, j + 1, i, m, h, e => by simpa using BorOk.get (as := r) (vs := vs) (j := j) h.2 (by simpa using e)
  | [], _ :: _, _, _, _, h, _ => h.elim
  | _ :: _, [], _, _, _, h, _ => h.elim
theorem se_call {ta : TA} {as : Args} {C : Ct} {ord : List Nat} {n : Nat} (h1 : SAO G W ta as) (hn : as.length = n) (ho : ord.Perm (List.range n)) : SE G W (tCallG G W n C ord ta) (wCall C ord as) := by
  intro σ ρ F H T Q Qd Ed S h kq ke
  refine h1 σ ρ F H T _ _ Ed S h (fun os ρ1 vs F1 H1 hq e1 hl S1 bo => ?_) ke
  have hlv : vs.length = n := by rw [← bo.len, hn]
  have ol : ord.length = n := by rw [ho.length_eq, List.length_range]
  have pz : ((arr ord vs).zip (arr ord os)).Perm (vs.zip os) := arr_zip (by rw [hlv]; exact ho) hl
  have back : ∀ (j i : Nat) (o : O), (((arr ord (as.map (·.1))).zip (arr ord os)))[j]? = some (some i, o) → ∃ v, (arr ord vs)[j]? = some v ∧ σ[i]? = some (some v) := by
    intro j i o hj
    obtain ⟨h1, _⟩ := List.getElem?_zip_eq_some.mp hj
    unfold arr at h1 ⊢
    rw [List.getElem?_map] at h1 ⊢
    obtain ⟨k, hk, e⟩ := Option.map_eq_some_iff.mp h1
    have kn : k < n := by
      have := ho.mem_iff.mp (List.mem_of_getElem? hk)
      simpa using this
    have ka : k < as.length := by rw [hn]; exact kn
    have e2 : (as.map (·.1)).getD k default = as[k].1 := by
      simp [List.getD_eq_getElem?_getD, List.getElem?_eq_getElem ka]
    rw [e2] at e
    obtain ⟨v, hv, hs⟩ := bo.get (j := k) (i := i) (m := as[k].2) (by rw [List.getElem?_eq_getElem ka]; exact congrArg some (Prod.ext e rfl))
    refine ⟨v, ?_, hs⟩
    rw [hk]
    simp [List.getD_eq_getElem?_getD, hv]
  refine ⟨by rw [arr_len]; exact ol, F1, its σ ρ1 ++ T, arr ord os, _, _, by rw [arr_len]; exact ol, ?_, hq, fun r os' v F' H' q e' O' => ?_, fun e os' F' H' cls d q e' O' x => ?_⟩
  · refine S1.2.perm ?_
    refine List.Perm.trans ?_ (pz.symm.append_right _)
    rw [← List.append_assoc, ← List.append_assoc]
    exact List.Perm.append_right _ List.perm_append_comm
  · have S2 : Stt G F' H' σ ρ1 (its ((arr ord vs).map some) os' ++ ((v, r) :: T)) := by
      refine ⟨S1.1, O'.perm ?_⟩
      have p1 : ((v, r) :: its ((arr ord vs).map some) os' ++ (its σ ρ1 ++ T)).Perm (its σ ρ1 ++ ((v, r) :: its ((arr ord vs).map some) os' ++ T)) := by
        rw [← List.append_assoc, ← List.append_assoc]
        exact List.Perm.append_right _ List.perm_append_comm
      refine p1.trans (List.Perm.append_left _ ?_)
      exact List.perm_middle.symm
    exact kq r _ v F' H' q (e1.trans e') (putb_ok S2 (by rw [List.length_zip, arr_len, arr_len, arr_len]; omega) back)
  · have S2 : Stt G F' H' σ ρ1 (its ((arr ord vs).map some) os' ++ T) := by
      refine ⟨S1.1, O'.perm ?_⟩
      rw [← List.append_assoc, ← List.append_assoc]
      exact List.Perm.append_right _ List.perm_append_comm
    exact ke e _ F' H' cls d q (e1.trans e') (putb_ok S2 (by rw [List.length_zip, arr_len, arr_len, arr_len]; omega) back) x
end
end Pv

set_option Elab.async false
set_option maxRecDepth 100000
set_option maxHeartbeats 4000000
set_option autoImplicit false
set_option linter.unusedVariables false
namespace Pv
open PySem L2

/-- a def keeps its promise where no repr is under way -/
structure FnG (P : Program) (w : World) (K : PySem.W.Frag) (mg : Str → Option Value) (base : Heap) (k : Nat) (f : Addr) (fd : FuncData) (ps : List Str) (sp : Sp) : Prop where
  len : ∀ vs H Q E, sp vs H Q E → vs.length = ps.length
  run : ∀ (A : Around) (outer : List Env) (s : Shared) (H : Hp) (args : PySem.Args) (us : List Value) (vs : List V) (Q : VK) (E : XK), Room k A → A.guards = some [] → Env0 P w K mg base A outer s H →
    BindsTo s fd args (ps.zip us) → Vals vs us → sp vs H Q E → codeAny (model P w) A (.call (.ref f) args) (CR (L2.CX P w) outer P w H s Q E) s
theorem FnG.mono {P : Program} {w : World} {K : PySem.W.Frag} {mg : Str → Option Value} {base : Heap} {j k : Nat} {f : Addr} {fd : FuncData} {ps : List Str} {sp : Sp} (F : FnG P w K mg base j f fd ps sp) (h : j ≤ k) : FnG P w K mg base k f fd ps sp :=
  ⟨F.len, fun A outer s H args us vs Q E hr => F.run A outer s H args us vs Q E (hr.mono h)⟩
/-- n values by position, then those of the keywords ks: they come to the parameters in the order ord -/
def Shp (K : PySem.W.Frag) (fd : FuncData) (ps : List Str) (n : Nat) (ks : List Str) (ord : List Nat) : Prop :=
  ∀ (s : Shared) (us ws : List Value), K.In s.heap → us.length = n → ws.length = ks.length → BindsTo s fd ⟨us, ks.zip ws⟩ (ps.zip (ord.map fun i => (us ++ ws).getD i .none))
theorem Vals.getD {xs : List V} {us : List Value} (r : Vals xs us) (i : Nat) : RelV (xs.getD i default) (us.getD i .none) := by
  rw [List.getD_eq_getElem?_getD, List.getD_eq_getElem?_getD]
  cases h : xs[i]? with
  | none => rw [Vals.none_of r h]; rfl
  | some x => obtain ⟨u, hu, ru⟩ := r.get h; rw [hu]; exact ru
theorem Vals.arr {xs : List V} {us : List Value} (r : Vals xs us) (ord : List Nat) : Vals (Pv.arr ord xs) (ord.map fun i => us.getD i .none) := by
  unfold Pv.arr
  induction ord with
  | nil => exact .nil
  | cons i ord ih => exact .cons (Vals.getD r i) ih
section
variable {X : Cx} {W : WX} {k n m : Nat} {f : Addr} {fd : FuncData} {ps ks : List Str} {ord : List Nat} {sp : Sp} {x : Str} {p pos : Pos} {e : Expr} {es : List Expr} {kws : List Keyword} {t tk : TA}
theorem run_fnG {pins : List (Addr × Obj)} {σ : L2.St} {H : Hp} {s : Shared} {Q : VK} {us ws : List Value} {vs zs : List V} (F : FnG X.prog X.w X.K X.mg X.base k f fd ps sp) (hr : Room k X.A) (hgd : X.A.guards = some []) (hb : Shp X.K fd ps n ks ord) (tk : Takes X W)
    (I : Inv X pins σ H s) (r : Vals vs us) (rz : Vals zs ws) (hn : vs.length = n) (hk : zs.length = ks.length) (h : sp (arr ord (vs ++ zs)) H Q (fun cls d H' => W cls d σ H')) : wpAny (model X.prog X.w) X.A (call (.ref f) us (ks.zip ws)) (EP X pins σ Q) X.xe s := by
  have hb' := hb s us ws I.kIn (by rw [← r.length]; exact hn) (by rw [← rz.length]; exact hk)
  have run := F.run X.A X.stack s H ⟨us, ks.zip ws⟩ _ _ Q (fun cls d H' => W cls d σ H') hr hgd I.env0 hb' (Vals.arr (r.append rz) ord) h
  refine wpAny_call (codeAny_mono run fun res s' hq => ?_)
  cases res with
  | error e => exact tk e s' (XE.of_call I (fun _ _ _ z => z) hq)
  | ok fl => cases fl with
    | ret u => exact I.after hq
    | next => exact hq.elim
    | brk => exact hq.elim
    | cont => exact hq.elim
def tCallW (W : WX) (sp : Sp) (n m : Nat) (ord : List Nat) (t tk : TA) : TE := fun σ H Q => t σ H fun vs H1 => tk σ H1 fun zs H2 => vs.length = n ∧ zs.length = m ∧ sp (arr ord (vs ++ zs)) H2 Q (fun cls d H' => W cls d σ H')
/-- f(e, .., k = v, ..) -/
theorem pe_callW (F : FnG X.prog X.w X.K X.mg X.base k f fd ps sp) (hr : Room k X.A) (hgd : X.A.guards = some []) (hg : Gl X x) (hm : X.mg x = some (.ref f)) (hk : PySem.W.keepIn X.K (.ref f) = true) (hb : Shp X.K fd ps n ks ord) (hx : Takes X W)
    (ha : PA X (e :: es) t) (hkw : PK X kws tk) (hall : (backToKw pos (keywordEach kws X.env)).all (·.1.isSome) = true) (hks : (backToKw pos (keywordEach kws X.env)).filterMap (·.1) = ks)
    (hdb : (x == ("__debug__" : Str)) = false) (he : starEach (e :: es) X.env = (false, eval e X.env) :: starEach es X.env)
    (hpl : ((backTo pos (starEach (e :: es) X.env)).any (·.1) || (backToKw pos (keywordEach kws X.env)).any (·.1.isNone)) = false) :
    PE X (.Call (.Name x p) (e :: es) kws pos) (tCallW W sp n ks.length ord t tk) := by
  refine ⟨fun pins s σ H Q I h => wpAny_Call_Name_kw (ld_glob I hg hm ?_ hdb)⟩
  refine PySem.W.callWith_KW (h₀ := X.base) I.ok.mod.kin hk hall ?_ hpl he
  refine thn (ha.run pos pins s σ H _ I h) fun us s1 ⟨vs, H1, I1, r, q⟩ => ?_
  refine thn (hkw.run pos pins s1 σ H1 _ I1 q) fun ws s2 ⟨zs, H2, I2, rz, q1, q2, q3⟩ => ⟨I2.kIn, ?_⟩
  rw [hks]
  exact run_fnG F hr hgd hb hx I2 r rz q1 q2 q3
/-- f(k = v, ..), f() -/
theorem pe_callW0 (F : FnG X.prog X.w X.K X.mg X.base k f fd ps sp) (hr : Room k X.A) (hgd : X.A.guards = some []) (hg : Gl X x) (hm : X.mg x = some (.ref f)) (hk : PySem.W.keepIn X.K (.ref f) = true) (hb : Shp X.K fd ps n ks ord) (hx : Takes X W)
    (hkw : PK X kws tk) (hall : (backToKw pos (keywordEach kws X.env)).all (·.1.isSome) = true) (hks : (backToKw pos (keywordEach kws X.env)).filterMap (·.1) = ks)
    (hdb : (x == ("__debug__" : Str)) = false)
    (hpl : ((backTo pos (starEach [] X.env)).any (·.1) || (backToKw pos (keywordEach kws X.env)).any (·.1.isNone)) = false) :
    PE X (.Call (.Name x p) [] kws pos) (tCallW W sp n ks.length ord tNil tk) := by
  refine ⟨fun pins s σ H Q I h => wpAny_Call_Name_kw (ld_glob I hg hm ?_ hdb)⟩
  refine PySem.W.callWith_KW0 (h₀ := X.base) I.ok.mod.kin hk hall ?_ hpl
  refine thn (hkw.run pos pins s σ H _ I h) fun ws s2 ⟨zs, H2, I2, rz, q1, q2, q3⟩ => ⟨I2.kIn, ?_⟩
  rw [hks]
  exact run_fnG (us := []) (vs := []) F hr hgd hb hx I2 .nil rz q1 q2 q3
end

/-! ### a def's body keeps its contract -/
theorem its_app : ∀ {a b : L2.St} {c d : Sl}, a.length = c.length → its (a ++ b) (c ++ d) = its a c ++ its b d
  | [], b, [], d, _ => rfl
  | [], _, _ :: _, _, h => by simp at h
  | _ :: _, _, [], _, h => by simp at h
  | x :: a, b, y :: c, d, h => by
    have ih := its_app (a := a) (b := b) (c := c) (d := d) (by simpa using h)
    cases x with
    | none => cases y <;> (simp only [List.cons_append, its]; exact ih)
    | some x => cases y with
      | none => simp only [List.cons_append, its]; exact ih
      | some y => simp only [List.cons_append, its]; rw [ih]
theorem its_zip : ∀ {vs : List V} {os : List O}, its (vs.map some) (os.map some) = vs.zip os
  | [], [] => rfl
  | [], _ :: _ => rfl
  | _ :: _, [] => rfl
  | v :: vs, o :: os => by simp only [List.map_cons, its, List.zip_cons_cons]; rw [its_zip]
theorem its_none : ∀ {σ : L2.St} {n : Nat}, its σ (List.replicate n none) = []
  | [], 0 => rfl
  | [], _ + 1 => rfl
  | _ :: _, 0 => by simp [its]
  | s :: σ, n + 1 => by
    have ih := its_none (σ := σ) (n := n)
    cases s <;> (simp only [List.replicate_succ, its]; exact ih)
/-- what is left of the slots, as another list of slots sees it -/
theorem its_sub : ∀ {σ σ2 : L2.St} {ρ ρ2 : Sl}, σ.length = ρ.length → (∀ (i : Nat) (o : O), ρ2[i]? = some (some o) → ρ[i]? = some (some o) ∧ σ2[i]? = σ[i]?) → ∃ r, (its σ ρ).Perm (its σ2 ρ2 ++ r)
  | σ, σ2, ρ, [], _, _ => by
    have e : its σ2 [] = [] := by cases σ2 with | nil => rfl | cons s _ => cases s <;> rfl
    exact ⟨_, by rw [e, List.nil_append]⟩
  | σ, [], ρ, y2 :: ρ2, _, h => by
    have e : its [] (y2 :: ρ2) = [] := by cases y2 <;> rfl
    exact ⟨_, by rw [e, List.nil_append]⟩
  | [], s2 :: σ2, [], y2 :: ρ2, _, h => by
    obtain ⟨r, p⟩ := its_sub (σ := []) (σ2 := σ2) (ρ := []) (ρ2 := ρ2) rfl (fun i o q => by
      have := (h (i + 1) o (by simpa using q)).1
      simp at this)
    cases y2 with
    | none => exact ⟨r, by cases s2 <;> (simp only [its]; exact p)⟩
    | some o => have := (h 0 o rfl).1; simp at this
  | [], _ :: _, _ :: _, _ :: _, h, _ => by simp at h
  | _ :: _, _ :: _, [], _ :: _, h, _ => by simp at h
  | s :: σ, s2 :: σ2, y :: ρ, y2 :: ρ2, hl, h => by
    obtain ⟨r, p⟩ := its_sub (σ := σ) (σ2 := σ2) (ρ := ρ) (ρ2 := ρ2) (by simpa using hl) (fun i o q => by simpa using h (i + 1) o (by simpa using q))
    cases y2 with
    | none =>
      have e2 : its (s2 :: σ2) (none :: ρ2) = its σ2 ρ2 := by cases s2 <;> rfl
      rw [e2]
      cases s with
      | none => exact ⟨r, by cases y <;> (simp only [its]; exact p)⟩
      | some s => cases y with
        | none => exact ⟨r, by simp only [its]; exact p⟩
        | some y =>
          refine ⟨(s, y) :: r, ?_⟩
          simp only [its]
          exact (List.Perm.cons _ p).trans List.perm_middle.symm
    | some o =>
      obtain ⟨h1, h2⟩ := h 0 o rfl
      simp at h1 h2
      subst h1; subst h2
      cases s2 with
      | none => exact ⟨r, by simp only [its]; exact p⟩
      | some v =>
        refine ⟨r, ?_⟩
        simp only [its]
        exact List.Perm.cons _ p
def parO (as : List Nat) (n : Nat) (ρ : Sl) : Sl := (List.range n).map fun j => if j ∈ as then none else (ρ[j]?).join
theorem parO_get {as : List Nat} {n : Nat} {ρ : Sl} {i : Nat} {o : O} (h : (parO as n ρ)[i]? = some (some o)) : i < n ∧ i ∉ as ∧ ρ[i]? = some (some o) := by
  unfold parO at h
  rw [List.getElem?_map] at h
  obtain ⟨j, hj, e⟩ := Option.map_eq_some_iff.mp h
  have hi : i < n := by
    have := (List.getElem?_eq_some_iff.mp hj).1
    simpa using this
  have : j = i := by
    rw [List.getElem?_range hi] at hj
    exact (Option.some.inj hj).symm
  subst this
  by_cases m : j ∈ as
  · rw [if_pos m] at e; cases e
  · rw [if_neg m] at e
    refine ⟨hi, m, ?_⟩
    cases q : ρ[j]? with
    | none => rw [q] at e; cases e
    | some x => rw [q] at e; simpa using e
structure JSs (X : Cx) (G : Gs) (W : WX) (as : List Nat) (st : List Stmt) (m : WS) : Prop where
  ex : ∃ t, PSs X st t ∧ SS G W as t m
/-- the slots at a def's entry -/
def slot0 (n : Nat) (os : List O) : Sl := os.map some ++ List.replicate (n - os.length) none
def endOf (as : List Nat) (n : Nat) (Qd : O → Sl → Prop) (Ed : Exc → Sl → Prop) : EndW where
  nx := fun ρ => Qd (.d .non) (parO as n ρ)
  rt := fun o ρ => Qd o (parO as n ρ)
  bk := fun _ => False
  ct := fun _ => False
  ex := fun e ρ => Ed e (parO as n ρ)
theorem body_ok {G : Gs} {as : List Nat} {n nN : Nat} {C : Ct} {m : WS} {t : TS} {vs : List V} {H : Hp} {Q : VK} {E : XK} {N : List Str} (hN : N.length = nN) (hnN : n ≤ nN) (ht : SS G (fun cls d _ H => E cls d H) as t m)
    (hC : ∀ os Qd Ed, os.length = n → C os Qd Ed → m (slot0 nN os) (endOf as n Qd Ed)) (h : spOf G n C vs H Q E) : t { nx := fun _ H' => Q .non H', rt := Q } (start N vs) H := by
  obtain ⟨hl, F, T, os, Qd, Ed, ho, O, hc, kq, ke⟩ := h
  have e0 : its (start N vs) (slot0 nN os) = vs.zip os := by
    unfold L2.start slot0
    rw [its_app (by rw [List.length_map, List.length_map, hl, ho]), its_zip]
    have e2 : its (List.replicate (N.length - vs.length) none) (List.replicate (nN - os.length) none) = [] := its_none
    rw [e2, List.append_nil]
  have hlen : (start N vs).length = (slot0 nN os).length := by
    unfold L2.start slot0
    rw [List.length_append, List.length_append, List.length_map, List.length_map, List.length_replicate, List.length_replicate, hl, ho, hN]
  have S0 : Stt G F H (start N vs) (slot0 nN os) T := by
    refine ⟨⟨hlen, fun i o q => ?_⟩, by rw [e0]; exact O⟩
    have hi : i < os.length := by
      unfold slot0 at q
      by_cases hi : i < os.length
      · exact hi
      · rw [List.getElem?_append_right (by simpa using hi), List.getElem?_replicate] at q
        split at q <;> cases q
    have hv : i < vs.length := by omega
    refine ⟨vs[i], ?_⟩
    unfold L2.start
    rw [List.getElem?_append_left (by simpa using hv), List.getElem?_map, List.getElem?_eq_getElem hv]
    rfl
  have sub : ∀ {σ' : L2.St} {ρ' : Sl}, σ'.length = ρ'.length → Kp as (start N vs) σ' → ∃ r, (its σ' ρ').Perm (its (vs.map some) (parO as n ρ') ++ r) := fun {σ' ρ'} hs k => by
    refine its_sub hs fun i o q => ?_
    obtain ⟨h1, h2, h3⟩ := parO_get q
    refine ⟨h3, ?_⟩
    rw [k.at_ i h2]
    unfold L2.start
    rw [List.getElem?_append_left (by rw [List.length_map, hl]; exact h1)]
  have fin : ∀ (o : Pv.O) (v : V) (σ' : L2.St) (ρ' : Sl) (F' H' : Hp), Qd o (parO as n ρ') → Ex F F' → Stt G F' H' σ' ρ' ((v, o) :: T) → Kp as (start N vs) σ' → Q v H' := fun o v σ' ρ' F' H' q e S k => by
    obtain ⟨r, p⟩ := sub S.1.len k
    refine kq o _ v F' H' q e ?_
    have o2 := S.2.perm ((p.append_right _).trans (by rw [List.append_assoc]))
    have o3 : Own G F' H' (r ++ ((v, o) :: its (vs.map some) (parO as n ρ') ++ T)) := o2.perm (by
      have p1 : (its (vs.map some) (parO as n ρ') ++ (r ++ (v, o) :: T)).Perm (r ++ (its (vs.map some) (parO as n ρ') ++ (v, o) :: T)) := by
        rw [← List.append_assoc, ← List.append_assoc]
        exact List.Perm.append_right _ List.perm_append_comm
      exact p1.trans (List.Perm.append_left _ List.perm_middle))
    exact o3.dropL
  refine ht _ _ F H T _ _ S0 (hC os Qd Ed ho hc) ⟨fun σ' ρ' F' H' q e S k => ?_, fun o v σ' ρ' F' H' q e S k => fin o v σ' ρ' F' H' q e S k, fun _ _ _ _ q _ _ _ => q.elim, fun _ _ _ _ q _ _ _ => q.elim, fun x σ' ρ' F' H' cls d q e S k rx => ?_⟩
  · exact fin _ _ σ' ρ' F' H' q e (S.addD .non) k
  · obtain ⟨r, p⟩ := sub S.1.len k
    refine ke x _ F' H' cls d q e ?_ rx
    have o2 := S.2.perm ((p.append_right _).trans (by rw [List.append_assoc]))
    have o3 : Own G F' H' (r ++ (its (vs.map some) (parO as n ρ') ++ T)) := o2.perm (by
      rw [← List.append_assoc, ← List.append_assoc]
      exact List.Perm.append_right _ List.perm_append_comm)
    exact o3.dropL
open PySem.Spec PyProof.Rows in
/-- one run of a def, entered at s from the frames outer -/
theorem run_at {P : Program} {w : World} {K : PySem.W.Frag} {mg : Str → Option Value} {base : Heap} {G : Gs} {k nN : Nat} {f : Addr} {x qual : Str} {st : Stmt} {fd : FuncData} {N ps : List Str} {as : List Nat} {C : Ct} {m : WS}
    {A : Around} {outer : List Env} {s : Shared} {H : Hp} {args : PySem.Args} {us : List Value} {vs : List V} {Q : VK} {E : XK}
    (Fn : Fun K x qual st f fd) (Sc : FnScope N ps (defScope st)) (hN : N.length = nN) (hnN : ps.length ≤ nN) (hr : Room (k + 1) A) (e0 : Env0 P w K mg base A outer s H) (hb : BindsTo s fd args (ps.zip us)) (r : Vals vs us) (hsp : spOf G ps.length C vs H Q E)
    (hm : ∀ cdv : Value, fd.code = cdv → JSs (cxOf (L2.CX P w) P w K mg base N qual (defScope st) f cdv A outer s H E) G (fun cls d _ H => E cls d H) as (defBody st) m)
    (hC : ∀ os Qd Ed, os.length = ps.length → C os Qd Ed → m (slot0 nN os) (endOf as ps.length Qd Ed)) : codeAny (model P w) A (.call (.ref f) args) (CR (L2.CX P w) outer P w H s Q E) s := by
  obtain ⟨oc, od, kV, doc, pm, an, cdv, ct, osl, rfl, lk, hcd⟩ := Fn.ex
  have hl : vs.length = ps.length := hsp.1
  have up : ∀ b o, base.get? b = some o → s.heap.get? b = some o := fun b o e => (e0.bs b o e).1
  have KX : K.In s.heap := e0.mod.kin.keeps up
  have lim : s.heap.NoLimit := e0.mod.nolimit.keeps up
  have par : ∀ y ∈ ps.zip us, (defScope st).names.lookup y.1 = some .local ∨ ((defScope st).names.lookup y.1 = some .cell ∧ ((cellsFrom (s.heap.objs.size + 1) (defScope st).names []).lookup y.1).isSome = true) := by
    rintro ⟨nm, v⟩ hy
    exact (Sc.par nm (List.of_mem_zip hy).1).imp id fun q => ⟨q, PySem.W.cellsFrom_some _ _ _ (.inl q)⟩
  refine codeAny_call_function hr.depth (KX _ _ lk) rfl Sc.co Sc.gen rfl (PySem.W.codeRec_of KX hcd) (hb _ _ _ _ ?_)
  refine wpAny_newFunctionEnv_cells Sc.kind par fun env he s1 xx => ?_
  subst he
  refine ⟨lim.keeps xx.toInCall.keep, codeAny_func ?_⟩
  obtain ⟨t, ht, hs⟩ := (hm cdv rfl).ex
  have I := inv_start (CX := L2.CX P w) (P := P) (qual := qual) (f := f) (cd := cdv) (E := E) Sc hr.hd e0 hl r xx
  have q := body_ok hN hnN hs hC hsp
  refine wpAny_mono (ht.run [] s1 (start N vs) H _ I q) (fun fl s' z => ?_) fun e s' z => z
  cases fl with
  | brk => obtain ⟨_, _, _, q⟩ := z; exact q.elim
  | cont => obtain ⟨_, _, _, q⟩ := z; exact q.elim
  | ret u =>
    obtain ⟨v, σ', H', J, rv, q⟩ := z
    exact ⟨v, H', J.os, J.bare, J.base, J.hok, rv, q⟩
  | next =>
    obtain ⟨σ', H', J, q⟩ := z
    exact ⟨V.non, H', J.os, J.bare, J.base, J.hok, rfl, q⟩
open PySem.Spec PyProof.Rows in
/-- THE RULE: the def's body, walked once, keeps the contract -/
theorem fnG_of {P : Program} {w : World} {K : PySem.W.Frag} {mg : Str → Option Value} {base : Heap} {G : Gs} {k nN : Nat} {f : Addr} {x qual : Str} {st : Stmt} {fd : FuncData} {N ps : List Str} {as : List Nat} {C : Ct} {m : WS}
    (Fn : Fun K x qual st f fd) (Sc : FnScope N ps (defScope st)) (hN : N.length = nN) (hnN : ps.length ≤ nN)
    (hm : ∀ (cdv : Value) (A : Around) (outer : List Env) (s : Shared) (H : Hp) (E : XK), fd.code = cdv → Room k (A.deeper (envOfC qual (defScope st) s.heap.objs.size f cdv)) → A.guards = some [] →
      JSs (cxOf (L2.CX P w) P w K mg base N qual (defScope st) f cdv A outer s H E) G (fun cls d _ H => E cls d H) as (defBody st) m)
    (hC : ∀ os Qd Ed, os.length = ps.length → C os Qd Ed → m (slot0 nN os) (endOf as ps.length Qd Ed)) : FnG P w K mg base (k + 1) f fd ps (spOf G ps.length C) := by
  exact ⟨fun vs H Q E h => h.1, fun A outer s H args us vs Q E hr hgd e0 hb r hsp => run_at Fn Sc hN hnN hr e0 hb r hsp (fun cdv hc => hm cdv A outer s H E hc (hr.deeper _) hgd) hC⟩
end Pv

set_option Elab.async false
set_option maxRecDepth 100000
set_option maxHeartbeats 4000000
set_option autoImplicit false
set_option linter.unusedVariables false
namespace Pv
open PySem PySem.Spec PyProof.Rows L2
/-! ### a lambda without parameters, handed to a def that calls it; no repr is under way -/
/-- the context of the def that was handed a function, entered at s from X -/
abbrev zCx (X : Cx) (Nz : List Str) (qz : Str) (sz : Scope) (g : Addr) (cz : Value) (s : Shared) (H : Hp) : Cx := cxOf (L2.CX X.prog X.w) X.prog X.w X.K X.mg X.base Nz qz sz g cz X.A X.stack s H (fun _ _ _ => False)
abbrev lamQ (X : Cx) : Str := X.env.qual ++ "<lambda>"
abbrev lamO (X : Cx) (ar : Arguments) (bd : Expr) (sc : Scope) (c : Addr) (pm ct : Value) : Obj := PySem.W.kla_obj "<lambda>" (lamQ X) ar bd sc (cloFrom X.env.cells sc.names []) pm c ct
section
variable {X : Cx} {pins : List (Addr × Obj)} {σ : L2.St} {H : Hp} {s : Shared}
/-- x() in the def that got the lambda -/
theorem act_run {Nz : List Str} {qz a : Str} {sz sc : Scope} {g f c : Addr} {cz pm ct : Value} {ar : Arguments} {bd : Expr} {k i : Nat} {pn : List (Addr × Obj)} {xe : Value → Shared → Prop} {W : WX} {tb : XK → TE} {pa pb : Pos}
    (I : Inv X pins σ H s) (Ls : LamX.LamS X.env.scope sc) (of0 : s.heap.get? f = some (lamO X ar bd sc c pm ct)) (nf : H f = none) (nfr : f ∉ frs X.stack) (hgd : X.A.guards = some [])
    (bnd : bindArgs (PySem.W.kla_fn "<lambda>" (lamQ X) ar bd sc (cloFrom X.env.cells sc.names []) pm (.ref c) ct) ⟨[], []⟩ = pure []) (tk : Takes ((zCx X Nz qz sz g cz s H).tr pn xe) W)
    (hr : Room (k + 1) (X.A.deeper (envOfC qz sz s.heap.objs.size g cz)))
    (hbody : ∀ (A : Around) (outer : List Env) (s' : Shared) (H' : Hp) (E : XK), A.guards = some [] → Room k (A.deeper (LamX.lamEnv X sc s'.heap.objs.size f c)) → PE (LamX.lamCx X A outer s' H' E sc f c) bd (tb E))
    (hN : Nz[i]? = some a) (hv : Vis sz a) (hd : (a == ("__debug__" : Str)) = false) (hcd : (a == ("__classdict__" : Str)) = false) :
    PE ((zCx X Nz qz sz g cz s H).tr pn xe) (.Call (.Name a pa) [] [] pb) (fun σz Hz Q => σz[i]? = some (some (.ref f)) ∧ Hz c = some (LamX.CodeO c (lamQ X)) ∧ tb (fun cls d H' => W cls d σz H') σ Hz Q) := by
  refine ⟨fun pz sz' σz Hz Q Iz ⟨q1, q2, q3⟩ => ?_⟩
  have look := (pe_var (pos := pa) (i := i) hN hv hd hcd).run pz sz' σz Hz (fun v H1 => v = .ref f ∧ H1 = Hz) Iz ⟨.ref f, q1, rfl, rfl⟩
  refine wpAny_Call_Name_kw (thn look fun u s1 hu => ?_)
  obtain ⟨v, H1, I1, r1, rfl, rfl⟩ := hu
  obtain rfl : u = Value.ref f := r1
  have un : Un (frs X.stack) [] H H1 s.heap s1.heap := I1.base
  have of1 : s1.heap.get? f = some (lamO X ar bd sc c pm ct) := un.keep f _ of0 nf nfr (by intro z; cases z)
  obtain ⟨⟨oc, ws, t, z1, z2, z3⟩, _, _⟩ := I1.hok c _ q2
  refine PySem.W.callWith_F0 ⟨_, _, _, _, of1⟩ ?_
  have run : codeAny (model X.prog X.w) (X.A.deeper (envOfC qz sz s.heap.objs.size g cz)) (.call (.ref f) ⟨[], []⟩) (CR (L2.CX X.prog X.w) (envOfC qz sz s.heap.objs.size g cz :: X.stack) X.prog X.w H1 s1 Q (fun cls d H' => W cls d σz H')) s1 := by
    refine PySem.W.kla_callFunE hr.depth of1 rfl Ls.co Ls.gen rfl ⟨c, oc, ws, t, rfl, z1, z2, z3⟩ (by
      rw [bnd]
      refine wpAny_pure (wpAny_newFunctionEnv (fun y hy => (Ls.own y hy).2) (fun y hy => absurd hy (by simp)) (fun h1 hns hsb => ⟨I1.nolimit.fresh _ hsb, ?_⟩) Ls.kind)
      have up : ∀ b o, s1.heap.get? b = some o → h1.get? b = some o := fun b o e => hsb.extBut b o (Nat.ne_of_lt (Heap.lt_size e)) (Heap.get?_push_of_some _ e)
      have J := LamX.lam_start2 (E := fun cls d H' => W cls d σz H') (f := f) (c' := c) (tk := s1.toks + ([] : List (Str × Value)).length) I Ls I1.env0 hr.hd un hns up
      have go := (hbody _ _ s1 H1 _ (show (X.A.deeper _).guards = some [] from hgd) (hr.deeper _)).run [] _ _ H1 Q J q3
      exact PySem.W.kla_codeExpr (wpAny_mono go (fun v s2 hq => by
        obtain ⟨v', H', J', rv, q⟩ := hq
        exact ⟨v', H', J'.os, J'.bare, J'.base, J'.hok, rv, q⟩) fun e s2 hq => hq))
  refine wpAny_call (codeAny_mono run fun r s2 hq => ?_)
  match r, hq with
  | .error e, hq => exact tk e s2 (XE.of_call I1 (fun _ _ _ z => z) hq)
  | .ok (.ret u), hq => exact I1.after hq
  | .ok .next, hq => exact hq.elim
  | .ok .brk, hq => exact hq.elim
  | .ok .cont, hq => exact hq.elim
end

/-! ### the data's side -/
/-- what calling the function makes: results, exceptions -/
abbrev LamC := (O → Prop) → (Exc → Prop) → Prop
/-- the contract of a def that gets a function -/
abbrev CtL := LamC → (O → Prop) → Prop
def LamOk (G : Gs) (F0 : Hp) (tl : XK → Hp → VK → Prop) (L : LamC) : Prop :=
  ∀ (F H : Hp) (T : List (V × O)) (Q : VK) (Qd : O → Prop) (Ed : Exc → Prop) (E : XK), Ex F0 F → Own G F H T → L Qd Ed → (∀ o v F' H', Qd o → Ex F F' → Own G F' H' ((v, o) :: T) → Q v H') →
    (∀ e F' H' cls d, Ed e → Ex F F' → Own G F' H' T → ExcR G F' e cls d → E cls d H') → tl E H Q
def wAct (i : Nat) (f : Addr) (F0 : Hp) (L : LamC) : WE := fun ρ Q E => ρ[i]? = some (some (.d (.fn f F0))) ∧ L (fun r => Q r ρ) (fun e => E e ρ)
theorem se_act {G : Gs} {W : WX} {i : Nat} {f c : Addr} {q : Str} {F0 : Hp} {tl : XK → Hp → VK → Prop} {L : LamC} (hc : F0 c = some (LamX.CodeO c q)) (hok : LamOk G F0 tl L) :
    SE G W (fun σ H Q => σ[i]? = some (some (.ref f)) ∧ H c = some (LamX.CodeO c q) ∧ tl (fun cls d H' => W cls d σ H') H Q) (wAct i f F0 L) := by
  intro σ ρ F H T Q Qd Ed S h kq ke
  obtain ⟨hs, h⟩ := h
  obtain ⟨v, hv, S1⟩ := S.out hs
  have r := S1.headD
  cases r with
  | fn e0 =>
    refine ⟨hv, S.ex _ _ (e0 _ _ hc), hok F H (its σ ρ ++ T) Q (fun o => Qd o ρ) (fun e => Ed e ρ) _ e0 S.2 h (fun o v F' H' q e O => kq o ρ v F' H' q e ⟨S.1, O.perm List.perm_middle.symm⟩) fun e F' H' cls d q x O r => ?_⟩
    exact ke e ρ F' H' cls d q x ⟨S.1, O⟩ r
section
variable {G : Gs} {F H H1 : Hp} {T : List (V × O)}
/-- an owned object is no table, no code object -/
theorem RepO.kind {v : V} {o : O} {fp : List Addr} (r : RepO G F H v o fp) : ∀ a ∈ fp, ∃ u, H a = some u ∧ (∀ ps, u ≠ .tbl ps) ∧ ∀ c q, u ≠ LamX.CodeO c q := by
  have ns : ∀ {u : HO}, (∀ ps, u ≠ .tbl ps) → (∀ g, u ≠ .ext g) → (∀ ps, u ≠ .tbl ps) ∧ ∀ c q, u ≠ LamX.CodeO c q := fun h1 h2 => ⟨h1, fun c q z => h2 _ z⟩
  cases o with
  | d x => intro a ha; rw [r.2] at ha; cases ha
  | lst xs => obtain ⟨b, vs, _, rfl, h, _⟩ := r; intro a ha; simp at ha; subst ha; exact ⟨_, h, ns (by intro ps z; cases z) (by intro g z; cases z)⟩
  | dic xs => obtain ⟨b, vs, _, rfl, h, _⟩ := r; intro a ha; simp at ha; subst ha; exact ⟨_, h, ns (by intro ps z; cases z) (by intro g z; cases z)⟩
  | ins c gs =>
    obtain ⟨b, C, dx, fs, _, rfl, _, h, h2, _⟩ := r
    intro a ha; simp at ha
    rcases ha with rfl | rfl
    · exact ⟨_, h, ns (by intro ps z; cases z) (by intro g z; cases z)⟩
    · exact ⟨_, h2, ns (by intro ps z; cases z) (by intro g z; cases z)⟩
  | deck m =>
    obtain ⟨b, c, _, rfl, mx, dr, ns', h1, h2, _⟩ := r
    intro a ha; simp at ha
    rcases ha with rfl | rfl
    · exact ⟨_, h1, ns (by intro ps z; cases z) (by intro g z; cases z)⟩
    · exact ⟨_, h2, ns (by intro ps z; cases z) (by intro g z; cases z)⟩
theorem RepO.noTbl {v : V} {o : O} {fp : List Addr} (r : RepO G F H v o fp) : ∀ a ∈ fp, ∀ ps, H a = some (.tbl ps) → False := fun a ha ps z => by
  obtain ⟨u, h1, h2, _⟩ := r.kind a ha
  rw [z] at h1
  exact h2 ps (Option.some.inj h1).symm
theorem own_noCode {is : List (V × O)} {fp : List Addr} (r : RepI G F H is fp) (e : LamX.ExtN H H1) (t : LamX.Tabs G.tb H1) : ∀ {a : Addr}, a ∈ fp → ∀ q, H1 a ≠ some (LamX.CodeO a q) := by
  induction r with
  | nil h =>
    intro a ha q z
    obtain ⟨rfl, _, _⟩ := h
    obtain ⟨p, hp, rfl⟩ := List.mem_map.mp ha
    obtain ⟨arr, h1, _⟩ := t p hp
    rw [h1] at z
    exact LamX.codeO_ne arr (Option.some.inj z).symm
  | cons h r ih =>
    intro a ha q z
    rcases List.mem_append.mp ha with ha | ha
    · obtain ⟨u, h1, h2, h3⟩ := RepO.kind h a ha
      rw [e a u h1 h2] at z
      exact h3 _ _ (Option.some.inj z)
    · exact ih ha q z
theorem RepI.tabs : ∀ {is : List (V × O)} {fp : List Addr}, RepI G F H is fp → ∃ f0, TabI G F H f0 ∧ ∀ a ∈ f0, a ∈ fp
  | _, _, .nil h => ⟨_, h, fun _ h => h⟩
  | _, _, .cons h r => let ⟨f0, t, m⟩ := RepI.tabs r; ⟨f0, t, fun a ha => List.mem_append_right _ (m a ha)⟩
theorem Own.tabs (h : Own G F H T) : LamX.Tabs G.tb H := fun p hp => by
  obtain ⟨e, fp, r, _⟩ := h
  obtain ⟨f0, ⟨_, _, t⟩, _⟩ := r.tabs
  obtain ⟨arr, h1, h2, h3⟩ := t p hp
  refine ⟨arr, h1, h2, fun pos cv hc => ?_⟩
  obtain ⟨c, h4, h5⟩ := h3 pos cv hc
  exact ⟨c, h4, e _ _ h5⟩
open Classical in
/-- what is frozen after new code objects are known -/
noncomputable def upF (F H1 : Hp) : Hp := fun b => if F b = none ∧ ∃ q, H1 b = some (LamX.CodeO b q) then H1 b else F b
theorem upF_old {b : Addr} {o : HO} (h : F b = some o) : upF F H1 b = some o := by
  unfold upF
  rw [if_neg (fun z => by rw [h] at z; cases z.1)]
  exact h
theorem upF_new {b : Addr} {q : Str} (h : H1 b = some (LamX.CodeO b q)) (hF : ∀ o, F b = some o → H1 b = some o) : upF F H1 b = some (LamX.CodeO b q) := by
  cases e : F b with
  | some o => rw [upF_old e, ← h, hF o e]
  | none => unfold upF; rw [if_pos ⟨e, q, h⟩]; exact h
theorem upF_at {b : Addr} {o : HO} (h : upF F H1 b = some o) : F b = some o ∨ (F b = none ∧ H1 b = some o ∧ ∃ q, o = LamX.CodeO b q) := by
  unfold upF at h
  split at h
  · rename_i z
    obtain ⟨z1, q, z2⟩ := z
    rw [z2] at h
    exact .inr ⟨z1, by rw [z2]; exact h, q, (Option.some.inj h).symm⟩
  · exact .inl h
/-- a lambda was made: only tables and code objects are new -/
theorem Own.extN (h : Own G F H T) (e : LamX.ExtN H H1) (t : LamX.Tabs G.tb H1) : Ex F (upF F H1) ∧ Own G (upF F H1) H1 T := by
  obtain ⟨ex, fp, r, nd, fr⟩ := h
  have nt : NoT F := by obtain ⟨_, ⟨_, n, _⟩, _⟩ := r.tabs; exact n
  have up : ∀ b o, F b = some o → H1 b = some o := fun b o q => e b o (ex b o q) fun ps z => nt b ps (by rw [q, z])
  have eF : Ex F (upF F H1) := fun b o q => upF_old q
  have nt' : NoT (upF F H1) := fun b ps z => by
    rcases upF_at z with z | ⟨_, _, q, z⟩
    · exact nt b ps z
    · exact LamX.codeO_ne ps z.symm
  refine ⟨eF, fun b o z => ?_, fp, ?_, nd, fun a ha => ?_⟩
  · rcases upF_at z with z | ⟨_, z, _⟩
    · exact up b o z
    · exact z
  · clear nd fr
    have go : ∀ {is : List (V × O)} {fp : List Addr}, RepI G F H is fp → RepI G (upF F H1) H1 is fp := by
      intro is fp r
      induction r with
      | nil h =>
        obtain ⟨rfl, _, t0⟩ := h
        refine .nil ⟨rfl, nt', fun p hp => ?_⟩
        obtain ⟨arr, h1, h2, h3⟩ := t p hp
        refine ⟨arr, h1, h2, fun pos cv hc => ?_⟩
        obtain ⟨c, h4, h5⟩ := h3 pos cv hc
        exact ⟨c, h4, upF_new h5 (up c)⟩
      | cons h r ih =>
        refine .cons ?_ ih
        refine RepO.frame h eF fun a ha u q => e a u q fun ps z => ?_
        subst z
        exact RepO.noTbl h a ha ps q
    exact go r
  · have z := fr a ha
    cases q : upF F H1 a with
    | none => rfl
    | some o =>
      rcases upF_at q with q | ⟨_, q, c, q2⟩
      · rw [z] at q; cases q
      · subst q2
        exact absurd q (own_noCode r e t ha c)
end

/-! ### the def that gets a function -/
def FnL (P : Program) (w : World) (K : PySem.W.Frag) (mg : Str → Option Value) (base : Heap) (G : Gs) (k : Nat) (g : Addr) (CL : CtL) : Prop :=
  ∀ (X : Cx) (pins : List (Addr × Obj)) (σ : L2.St) (H : Hp) (s : Shared) (ar : Arguments) (bd : Expr) (sc : Scope) (f c : Addr) (pm ct : Value) (t : XK → TE) (F : Hp) (T : List (V × O)) (L : LamC) (Qd : O → Prop) (Q : VK),
    X.prog = P → X.w = w → X.K = K → X.mg = mg → X.base = base → Room (k + 2) X.A → X.A.guards = some [] → Inv X pins σ H s → LamX.LamS X.env.scope sc →
    s.heap.get? f = some (lamO X ar bd sc c pm ct) → H f = none → f ∉ frs X.stack → H c = some (LamX.CodeO c (lamQ X)) →
    (∀ (q : Str) (cl : List (Str × Addr)) (pm cv ctv : Value), bindArgs (PySem.W.kla_fn "<lambda>" q ar bd sc cl pm cv ctv) ⟨[], []⟩ = pure []) →
    (∀ (A : Around) (outer : List Env) (s' : Shared) (H' : Hp) (E : XK), A.guards = some [] → Room k (A.deeper (LamX.lamEnv X sc s'.heap.objs.size f c)) → PE (LamX.lamCx X A outer s' H' E sc f c) bd (t E)) →
    Own G F H T → F c = some (LamX.CodeO c (lamQ X)) → LamOk G F (fun E H' Q' => t E σ H' Q') L → CL L Qd → (∀ o v F' H', Qd o → Ex F F' → Own G F' H' ((v, o) :: T) → Q v H') →
    codeAny (model P w) X.A (.call (.ref g) ⟨[.ref f], []⟩) (CR (L2.CX P w) X.stack P w H s Q (fun _ _ _ => False)) s
theorem fnL_of {P : Program} {w : World} {K : PySem.W.Frag} {mg : Str → Option Value} {base : Heap} {G : Gs} {k nN : Nat} {g : Addr} {x qual a : Str} {st : Stmt} {fd : FuncData} {N : List Str} {as : List Nat} {CL : CtL} {m : Addr → Hp → LamC → WS}
    (Fn : Fun K x qual st g fd) (Sc : FnScope N [a] (defScope st)) (hN : N.length = nN) (hnN : 1 ≤ nN) (hb : ∀ (s : Shared) (u : Value), BindsTo s fd ⟨[u], []⟩ [(a, u)]) (hNa : N[0]? = some a) (hva : Vis (defScope st) a)
    (hd : (a == ("__debug__" : Str)) = false) (hcd : (a == ("__classdict__" : Str)) = false)
    (hm : ∀ (cdv : Value) (A : Around) (outer : List Env) (s : Shared) (H : Hp) (f : Addr) (F0 : Hp) (L : LamC), Room (k + 1) (A.deeper (envOfC qual (defScope st) s.heap.objs.size g cdv)) → A.guards = some [] →
      (∀ (W : WX) (pn : List (Addr × Obj)) (xe : Value → Shared → Prop) (pa pb : Pos), Takes ((cxOf (L2.CX P w) P w K mg base N qual (defScope st) g cdv A outer s H fun _ _ _ => False).tr pn xe) W → JE ((cxOf (L2.CX P w) P w K mg base N qual (defScope st) g cdv A outer s H fun _ _ _ => False).tr pn xe) G W (.Call (.Name a pa) [] [] pb) (wAct 0 f F0 L)) →
      JSs (cxOf (L2.CX P w) P w K mg base N qual (defScope st) g cdv A outer s H fun _ _ _ => False) G (fun _ _ _ _ => False) as (defBody st) (m f F0 L))
    (hC : ∀ f F0 L Qd, CL L Qd → m f F0 L (slot0 nN [.d (.fn f F0)]) (endOf as 1 (fun o _ => Qd o) fun _ _ => False)) : FnL P w K mg base G k g CL := by
  rintro X pins σ H s ar bd sc f c pm ct t F T L Qd Q rfl rfl rfl rfl rfl hr hgd I Ls of0 nf nfr hco bnd hbody O hFc hok hCL kq
  have sp : spOf G ([a] : List Str).length (fun os Qd' Ed' => os = [.d (.fn f F)] ∧ m f F L (slot0 nN os) (endOf as 1 Qd' Ed')) [.ref f] H Q fun _ _ _ => False := by
    refine ⟨rfl, F, T, [.d (.fn f F)], fun o _ => Qd o, fun _ _ => False, rfl, O.addD (.fn (Ex.refl F)), ⟨rfl, hC f F L Qd hCL⟩, fun r os' v F' H' q e O' => kq r v F' H' q e ?_, fun _ _ _ _ _ _ z => z.elim⟩
    have p : ((v, r) :: its (([V.ref f] : List V).map some) os' ++ T).Perm (its (([V.ref f] : List V).map some) os' ++ (v, r) :: T) := List.perm_middle.symm
    exact (O'.perm p).dropL
  refine run_at (us := [.ref f]) (vs := [.ref f]) Fn Sc hN hnN hr I.env0 (hb s (.ref f)) (.cons rfl .nil) sp (fun cdv hcdv => ?_) fun os Qd' Ed' _ h => h.2
  have hr' : Room (k + 1) (X.A.deeper (envOfC qual (defScope st) s.heap.objs.size g cdv)) := hr.deeper _
  refine hm cdv X.A X.stack s H f F L hr' hgd fun W pn xe pa pb tk => ⟨_, act_run (tb := t) I Ls of0 nf nfr hgd (bnd _ _ _ _ _) tk hr' hbody hNa hva hd hcd, se_act hFc hok⟩
/-! ### the call x(lambda: e) -/
section
variable {X : Cx} {G : Gs} {W : WX}
def tLm (G : Gs) (q : Str) (t : XK → TE) (CL : CtL) : TE := fun σ H Q => LamX.Tabs G.tb H ∧ ∀ (f c : Addr) (H1 : Hp), LamX.ExtN H H1 → LamX.Tabs G.tb H1 → H1 c = some (LamX.CodeO c q) →
  ∃ (F : Hp) (T : List (V × O)) (L : LamC) (Qd : O → Prop), Own G F H1 T ∧ F c = some (LamX.CodeO c q) ∧ LamOk G F (fun E H' Q' => t E σ H' Q') L ∧ CL L Qd ∧ ∀ o v F' H', Qd o → Ex F F' → Own G F' H' ((v, o) :: T) → Q v H'
theorem pe_lamG {x : Str} {g cc Pt : Addr} {k : Nat} {CL : CtL} {ar : Arguments} {bd : Expr} {sc : Scope} {t : XK → TE} {p lp pos : Pos} (hg : Gl X x) (hm : X.mg x = some (.ref g)) (hk : PySem.W.keepIn X.K (.ref g) = true)
    (FL : FnL X.prog X.w X.K X.mg X.base G k g CL) (TB : LamX.TabB X.base X.mg cc Pt) (hcode : X.env.code = .ref cc) (hmT : (Pt, lamQ X) ∈ G.tb) (hu : ∀ p ∈ G.tb, p.1 = Pt → p.2 = lamQ X) (hr : Room (k + 2) X.A) (hgd : X.A.guards = some [])
    (Ls : LamX.LamS X.env.scope sc) (hdef : defaultsOf ar X.env = ([], [])) (bnd : ∀ (q : Str) (cl : List (Str × Addr)) (pm cv ctv : Value), bindArgs (PySem.W.kla_fn "<lambda>" q ar bd sc cl pm cv ctv) ⟨[], []⟩ = pure [])
    (hbody : ∀ (A : Around) (outer : List Env) (s : Shared) (H : Hp) (E : XK) (f c : Addr), A.guards = some [] → Room k (A.deeper (LamX.lamEnv X sc s.heap.objs.size f c)) → PE (LamX.lamCx X A outer s H E sc f c) bd (t E))
    (hdb : (x == ("__debug__" : Str)) = false) : PE X (.Call (.Name x p) [.Lambda ar bd sc lp] [] pos) (tLm G (lamQ X) t CL) := by
  refine ⟨fun pins s σ H Q I ⟨hT, h⟩ => wpAny_Call_Name_kw (ld_glob I hg hm ?_ hdb)⟩
  refine PySem.W.callWith_K (h₀ := X.base) I.ok.mod.kin hk ?_ (by rfl) (by rfl)
  show wpAny _ _ (spliced ((false, eval (.Lambda ar bd sc lp) X.env) :: backTo pos (starEach [] X.env))) _ _ s
  refine Calls.spliced_cons (LamX.lam_make2 I TB hcode hmT hu hT hdef (Ls.has I.ok) fun f c pm ct H1 s1 I1 eN T1 of1 nf nfr hco => ?_)
  refine Calls.spliced_nil ⟨I1.kIn, ?_⟩
  obtain ⟨F, T, L, Qd, O, hFc, hok, hCL, kq⟩ := h f c H1 eN T1 hco
  have run := FL X pins σ H1 s1 ar bd sc f c pm ct t F T L Qd Q rfl rfl rfl rfl rfl hr hgd I1 Ls of1 nf nfr hco bnd (fun A outer s' H' E => hbody A outer s' H' E f c) O hFc hok hCL kq
  refine wpAny_call (codeAny_mono run fun r s2 hq => ?_)
  match r, hq with
  | .error e, hq => obtain ⟨_, _, _, _, _, _, _, _, _, _, _, _, z⟩ := hq; exact z.elim
  | .ok (.ret u), hq => exact I1.after hq
  | .ok .next, hq => exact hq.elim
  | .ok .brk, hq => exact hq.elim
  | .ok .cont, hq => exact hq.elim
/-- the slots that a lambda reads -/
def keepD (js : List Nat) (ρ : Sl) : Sl := (List.range ρ.length).map fun i => if i ∈ js then (ρ[i]?).join else none
theorem keepD_get {js : List Nat} {ρ : Sl} {i : Nat} {o : O} (h : (keepD js ρ)[i]? = some (some o)) : i ∈ js ∧ ρ[i]? = some (some o) := by
  unfold keepD at h
  rw [List.getElem?_map] at h
  obtain ⟨j, hj, e⟩ := Option.map_eq_some_iff.mp h
  have hi : i < ρ.length := by
    have := (List.getElem?_eq_some_iff.mp hj).1
    simpa using this
  have : j = i := by
    rw [List.getElem?_range hi] at hj
    exact (Option.some.inj hj).symm
  subst this
  by_cases m : j ∈ js
  · rw [if_pos m] at e
    refine ⟨m, ?_⟩
    cases q : ρ[j]? with
    | none => rw [q] at e; cases e
    | some x => rw [q] at e; simpa using e
  · rw [if_neg m] at e; cases e
theorem own_its {F H : Hp} {T : List (V × O)} (O0 : Own G F H T) : ∀ {σ : L2.St} {ρ : Sl}, (∀ (i : Nat) (o : O), ρ[i]? = some (some o) → ∃ x v, o = .d x ∧ σ[i]? = some (some v) ∧ RepD G F v x) → Own G F H (its σ ρ ++ T)
  | [], _, _ => by simpa [its] using O0
  | a :: σ, [], _ => by
    have e : its (a :: σ) [] = [] := by cases a <;> rfl
    rw [e]; exact O0
  | a :: σ, r :: ρ, h => by
    have ih := own_its O0 (σ := σ) (ρ := ρ) fun i o q => by simpa using h (i + 1) o (by simpa using q)
    cases r with
    | none =>
      have e : its (a :: σ) (none :: ρ) = its σ ρ := by cases a <;> rfl
      rw [e]; exact ih
    | some o =>
      obtain ⟨x, v, rfl, hv, rv⟩ := h 0 o rfl
      simp at hv
      subst hv
      have e : its (some v :: σ) (some (.d x) :: ρ) = (v, .d x) :: its σ ρ := rfl
      rw [e]
      exact ih.addD rv
/-- x(lambda: e): the slots that e reads hold frozen data -/
def wLam (CL : CtL) (js : List Nat) (m : WE) : WE := fun ρ Q _ => (∀ j ∈ js, ∃ x, ρ[j]? = some (some (.d x))) ∧ CL (fun Qd Ed => m (keepD js ρ) (fun o _ => Qd o) fun e _ => Ed e) fun r => Q r ρ
theorem se_lam {q : Str} {t : XK → TE} {CL : CtL} {js : List Nat} {m : WE} (hm : ∀ E : XK, SE G (fun cls d _ H => E cls d H) (t E) m) : SE G W (tLm G q t CL) (wLam CL js m) := by
  intro σ ρ F H T Q Qd Ed S h kq ke
  obtain ⟨hj, h⟩ := h
  refine ⟨S.2.tabs, fun f c H1 eN tb hco => ?_⟩
  have nt : NoT F := by obtain ⟨_, _, r, _⟩ := S.2; obtain ⟨_, ⟨_, n, _⟩, _⟩ := r.tabs; exact n
  obtain ⟨e1, O1⟩ := S.2.extN eN tb
  refine ⟨upF F H1, its σ ρ ++ T, _, fun r => Qd r ρ, O1, upF_new hco fun o z => eN c o (S.ex c o z) (fun ps y => nt c ps (by rw [z, y])), ?_, h, fun o v F' H' q e O => kq o ρ v F' H' q (e1.trans e) ⟨S.1, O.perm List.perm_middle.symm⟩⟩
  intro F2 H2 T2 Q2 Qd2 Ed2 E e2 O2 hL k1 k2
  have reps : ∀ (i : Nat) (o : O), (keepD js ρ)[i]? = some (some o) → ∃ x v, o = .d x ∧ σ[i]? = some (some v) ∧ RepD G F2 v x := fun i o z => by
    obtain ⟨m1, z⟩ := keepD_get z
    obtain ⟨x, hx⟩ := hj i m1
    rw [hx] at z
    cases z
    obtain ⟨v, hv, S1⟩ := S.out hx
    exact ⟨x, v, rfl, hv, S1.headD.mono (e1.trans e2)⟩
  have S2 : Stt G F2 H2 σ (keepD js ρ) T2 := by
    refine ⟨⟨?_, fun i o z => ?_⟩, own_its O2 reps⟩
    · unfold keepD; rw [List.length_map, List.length_range]; exact S.1.len
    · obtain ⟨x, v, _, hv, _⟩ := reps i o z
      exact ⟨v, hv⟩
  exact hm E σ (keepD js ρ) F2 H2 T2 Q2 _ _ S2 hL (fun o ρ' v F' H' q e S' => k1 o v F' H' q e S'.2.dropL) fun e ρ' F' H' cls d q ex S' r => k2 e F' H' cls d q ex S'.2.dropL r
end
end Pv

set_option autoImplicit false
namespace Pv
open PySem L2
def notStar : Expr → Bool
  | .Starred _ _ => false
  | _ => true
theorem star_ok {e : Expr} (h : notStar e = true) (es : List Expr) (env : Env) : starEach (e :: es) env = (false, eval e env) :: starEach es env := by
  cases e <;> first | rfl | (cases h)
theorem star_any : ∀ {es : List Expr} {pos : Pos} {env : Env}, es.all notStar = true → (backTo pos (starEach es env)).any (·.1) = false
  | [], _, _, _ => rfl
  | e :: es, pos, env, h => by
    obtain ⟨h1, h2⟩ := Bool.and_eq_true_iff.mp h
    rw [star_ok h1]
    show (false || (backTo pos (starEach es env)).any (·.1)) = false
    rw [Bool.false_or]; exact star_any h2
def kwOk (k : Keyword) : Bool := k.arg.isSome
theorem kw_all : ∀ {kws : List Keyword} {pos : Pos} {env : Env}, kws.all kwOk = true → (backToKw pos (keywordEach kws env)).all (·.1.isSome) = true
  | [], _, _, _ => rfl
  | ⟨a, v, p⟩ :: ks, pos, env, h => by
    obtain ⟨h1, h2⟩ := Bool.and_eq_true_iff.mp h
    show (a.isSome && (backToKw pos (keywordEach ks env)).all (·.1.isSome)) = true
    exact Bool.and_eq_true_iff.mpr ⟨h1, kw_all h2⟩
theorem kw_any : ∀ {kws : List Keyword} {pos : Pos} {env : Env}, kws.all kwOk = true → (backToKw pos (keywordEach kws env)).any (·.1.isNone) = false
  | [], _, _, _ => rfl
  | ⟨a, v, p⟩ :: ks, pos, env, h => by
    obtain ⟨h1, h2⟩ := Bool.and_eq_true_iff.mp h
    show (a.isNone || (backToKw pos (keywordEach ks env)).any (·.1.isNone)) = false
    rw [kw_any h2, Bool.or_false]
    have h1 : a.isSome = true := h1
    cases a <;> first | rfl | cases h1
theorem kw_names : ∀ {kws : List Keyword} {pos : Pos} {env : Env}, (backToKw pos (keywordEach kws env)).filterMap (·.1) = kws.filterMap (·.arg)
  | [], _, _ => rfl
  | ⟨a, v, p⟩ :: ks, pos, env => by
    show List.filterMap (·.1) ((a, _) :: backToKw pos (keywordEach ks env)) = _
    have ih := kw_names (kws := ks) (pos := pos) (env := env)
    cases a <;> simp [List.filterMap_cons, ih]
theorem truth_of {e : Expr} (h : match e with | .Name _ _ => True | .Call _ _ _ _ => True | .Subscript _ _ _ => True | .Attribute _ _ _ => True | .Constant _ _ _ => True | _ => False) (env : Env) (whole : Sem Value) :
    isTrue e env whole = (do let v ← whole; standAt e.pos; holding [v] (truthy v)) := by
  cases e <;> first | rfl | exact h.elim
theorem nomark2 {op op' : CmpOp} (b c : Expr) (h : op' ≠ .In) (h2 : op' ≠ .NotIn) : lastMarks [op, op'] [b, c] = false := nomark c h h2
def plainIx : Expr → Bool
  | .Slice _ _ _ _ => false
  | _ => true
theorem plain_ix {b : Expr} (h : plainIx b = true) : PlainIx b := by
  intro o i
  cases b <;> first | rfl | cases h
end Pv

set_option Elab.async false
set_option maxRecDepth 100000
set_option maxHeartbeats 4000000
set_option autoImplicit false
set_option linter.unusedVariables false
/-! own errors over Exception whose __init__ keeps one field -/
namespace PySem
namespace ErrX
open PySem.W PySem.Calls PyProof.Rows PySem.HandSPX
open Builtin Builtin.ObjectAttr
abbrev bmE : List Value := [.type "Exception", .type "BaseException", .type "object"]
def iA (f : Str) (p1 p2 : Pos) : Arguments := { posonlyargs := [], args := [{ arg := "self", annotation := none, pos := p1 }, { arg := f, annotation := none, pos := p2 }], vararg := none, kwonlyargs := [], kw_defaults := [], kwarg := none, defaults := [] }
def iB (f : Str) (q1 q2 q3 q4 : Pos) : List Stmt := [.Assign [.Attribute (.Name "self" q1) f q2] (.Name f q3) q4]
def iS (f : Str) : Scope := { kind := .function, names := [(PySem.Str.ofString "self", .local), (f, .local)], isGenerator := false, isCoroutine := false, more := [] }
/-- a field's name -/
structure FOk (f : Str) : Prop where
  bind : ∀ {p1 p2 : Pos} {q : Str} {B : List Stmt} {sc : Scope} {doc pm cd ct : Value} {an : Option Addr} {s : Shared} {a b : Value}, BindsTo s (fnOf "__init__" q (iA f p1 p2) B sc .none .none doc pm an cd ct) ⟨[a, b], []⟩ [("self", a), (f, b)]
  ne : ¬ f = ("self" : Str)
  dbg : (f == ("__debug__" : Str)) = false
theorem fok_thing : FOk "thing" := ⟨BindsTo.of_eq (by rfl), by decide +kernel, by decide +kernel⟩
theorem fok_number : FOk "number" := ⟨BindsTo.of_eq (by rfl), by decide +kernel, by decide +kernel⟩
theorem fok_line : FOk "line" := ⟨BindsTo.of_eq (by rfl), by decide +kernel, by decide +kernel⟩
theorem FOk.loc {f : Str} (h : FOk f) : (iS f).names.lookup f = some .local := by
  show List.lookup f [(PySem.Str.ofString "self", NameKind.local), (f, NameKind.local)] = some .local
  have hfs : (f == ("self" : Str)) = false := by simpa using h.ne
  simp [List.lookup, hfs]
/-- what the written part says of the class at C and of its __init__ at fI -/
structure Txt (K : Frag) (mg : Str → Option Value) (x : Str) (C fI : Addr) (f qn : Str) : Prop where
  gC : mg x = some (.ref C)
  ini : excInitIn K C bmE "Exception.__new__" = true
  ovr : excOver K C bmE = true
  tk : takerIn K C f = some none
  sa : findIn K (.ref C) "__setattr__" = some (some (.builtin "object.__setattr__"))
  ga : findIn K (.ref C) "__getattribute__" = some (some (.builtin "BaseException.__getattribute__"))
  gg : findIn K (.ref C) "__getattr__" = some none
  noF : findIn K (.ref C) f = some none
  iC : findIn K (.ref C) "__init__" = some (some (.ref fI))
  tC : typeIn K (.ref fI) = some (.type "function")
  kC : keepIn K (.ref C) = true
  exC : subIn K (.ref C) (.type "BaseException") = some true
  tyC : typeIn K (.ref C) = some (.type "type")
  hdC : hasDictIn K C = true
  fn : ∃ (oc : Value) (od : Option Addr) (doc pm : Value) (an : Option Addr) (cdv ct : Value) (osl : Array (Option Value)) (p1 p2 q1 q2 q3 q4 : Pos),
    K.lookup fI = some ⟨oc, od, .func (fnOf "__init__" qn (iA f p1 p2) (iB f q1 q2 q3 q4) (iS f) .none .none doc pm an cdv ct), osl⟩ ∧ codeIn K cdv qn = true
  ok : FOk f
structure InitEnd (f : Str) (h h' : Heap) (x C dx t1 : Addr) (v : Value) : Prop where
  keep : ∀ b o, b ≠ x → h.get? b = some o → h'.get? b = some o
  obj : h'.get? x = some { cls := .ref C, dict := some dx, data := .fields #[.ref t1, .none, .none, .none, .bool false, .none] }
  dbig : h.objs.size ≤ dx
  dne : dx ≠ x
  ns : h'.Ns1 dx (fun y => if y = f then some v else none)
structure Made (f : Str) (h h' : Heap) (e C d : Addr) (v : Value) : Prop where
  keep : ∀ b o, h.get? b = some o → h'.get? b = some o
  new : h.objs.size ≤ e
  obj : ∃ oe vs, h'.get? e = some oe ∧ oe.cls = .ref C ∧ oe.dict = some d ∧ oe.data = .fields vs ∧ vs[1]? = some .none
  dbig : h.objs.size ≤ d
  dne : d ≠ e
  ns : h'.Ns1 d (fun y => if y = f then some v else none)
theorem one_size (v : Value) : [v].length ≤ sizeLine := by
  rw [sizeLine_eq]
  exact (by decide : 1 ≤ 16777216)
theorem ldC {M : Model} {s : Shared} {name : Str} {scope : Scope} {L a : Addr} {cd : Value} {m : Str → Option Value} {x : Str} {pos : Pos} {v : Value} {Q : Value → Shared → Prop} {A : Around} {E : Value → Shared → Prop} (hn : s.heap.Ns L m) (hv : m x = some v) (h : Q v s)
    (hk : scope.kind = .function) (hl : (envOfC name scope L a cd).kindOf x = some .local) (hd : (x == ("__debug__" : Str)) = false) :
    wpAny M A (eval (.Name x pos) (envOfC name scope L a cd)) Q E s := wpAny_Name (wpAny_loadName_local hk hl hn hv h) hd
section
variable {prog : Program} {w : World} {A : Around} {E : Value → Shared → Prop} {R : Result → Shared → Prop} {s : Shared} {K : Frag} {mg : Str → Option Value} {x₀ f qn : Str} {C fI : Addr}
/-- self.f = v, self a new error without a dict -/
theorem osaE (T : Txt K mg x₀ C fI f qn) {x t : Addr} {tk : Tok} {v : Value} (X : K.In s.heap) (hx : s.heap.get? x = some (excO C t))
    (hq : ∀ h' tk' dx, (∀ b o, b ≠ x → s.heap.get? b = some o → h'.get? b = some o) → s.heap.objs.size ≤ dx → dx ≠ x → h'.get? x = some { cls := .ref C, dict := some dx, data := .fields #[.ref t, .none, .none, .none, .bool false, .none] } →
      h'.Ns1 dx (fun y => if y = f then some v else none) → R (.ok (.ret .none)) { s with heap := h', toks := tk' }) :
    codeAny (model prog w) A (.call (.builtin "object.__setattr__") ⟨[.ref x, .str f tk, v], []⟩) R s := by
  have hxs : x < s.heap.objs.size := Heap.lt_size hx
  refine osa_openX (od := none) PySem.F.store_Exception X ⟨hx, rfl, rfl, trivial⟩ T.ovr T.tk fun b => ?_
  obtain ⟨cd, hc, hd'⟩ := any_some T.hdC
  obtain ⟨hp, g, d, tk0, os⟩ := s
  refine wpAny_bind (wpAny_pure (wpAny_bind (instanceDict_exc hx (looks_clsIn X hc) hd' ?_)))
  show wpAny _ _ (storeInDict hp.objs.size (.str f tk) f v) _ _ _
  refine store_in_new ?_ ?_
  · exact ⟨_, #[], _, (Heap.get?_update_ne _ _ _ _ (Nat.ne_of_gt hxs)).trans (Heap.get?_push_at rfl rfl), rfl, fun e he => absurd he (by simp), fun _ => rfl⟩
  · intro h' tk' hn' hs
    have hx₁ : (hp.push (dictOf [] 0)).get? x = some (excO C t) := Heap.get?_push_of_some _ hx
    refine hq h' tk' hp.objs.size (fun b o hb ho => ?_) (Nat.le_refl _) (Nat.ne_of_gt hxs) ?_ hn'
    · exact (hs.2 b (Nat.ne_of_lt (Heap.lt_size ho))).trans ((Heap.get?_update_ne _ _ _ _ hb).trans (Heap.get?_push_of_some _ ho))
    · exact (hs.2 x (Nat.ne_of_lt hxs)).trans (Heap.get?_update_self _ hx₁ rfl)
theorem init_ok (T : Txt K mg x₀ C fI f qn) {x t0 : Addr} {v : Value} (X : K.In s.heap) (hlim : s.heap.NoLimit) (hx : s.heap.get? x = some (excO C t0)) (hroom : A.depth < recursionLimit)
    (hq : ∀ h' tk dx, InitEnd f s.heap h' x C dx t0 v → R (.ok (.ret .none)) { s with heap := h', toks := tk }) :
    codeAny (model prog w) A (.call (.ref fI) ⟨[.ref x, v], []⟩) R s := by
  obtain ⟨oc, od, doc, pm, an, cdv, ct, osl, p1, p2, q1, q2, q3, q4, ho, hcd⟩ := T.fn
  have hfs : (f == ("self" : Str)) = false := by simpa using T.ok.ne
  refine Att.call_fn (binds := [("self", .ref x), (f, v)]) X hlim ho hcd hroom T.ok.bind ?_ (fun s₁ IC => ?_) rfl rfl rfl
  · show ([(("self" : Str), Value.ref x), (f, v)].all fun y => (iS f).names.lookup y.1 == some .local || (iS f).names.lookup y.1 == some .cell) = true
    simp only [List.all_cons, List.all_nil, T.ok.loc]
    rfl
  obtain ⟨h₁, tk₁, rfl⟩ := IC.toInCall.same
  have k : ∀ b o, s.heap.get? b = some o → h₁.get? b = some o := IC.toInCall.keep
  have hn := IC.toInCall.ns
  have X₁ : K.In h₁ := X.keeps k
  have hx₁ := k _ _ hx
  show wpAny _ _ (execs _ _) _ _ _
  refine wpAny_execs_cons (plainObj_wpAny_Assign_Attribute ?_)
  refine ldC (v := v) hn ?_ (ldC (v := .ref x) hn ?_ ?_ rfl rfl (by decide)) rfl T.ok.loc T.ok.dbg
  · show bindL _ [(("self" : Str), Value.ref x), (f, v)] (fun _ => none) f = some v
    have l1 : (envOfC qn (iS f) s.heap.objs.size fI cdv).kindOf f = some .local := T.ok.loc
    simp [bindL, l1]
  · show bindL _ [(("self" : Str), Value.ref x), (f, v)] (fun _ => none) "self" = some (.ref x)
    have l1 : (envOfC qn (iS f) s.heap.objs.size fI cdv).kindOf f = some .local := T.ok.loc
    have l2 : (envOfC qn (iS f) s.heap.objs.size fI cdv).kindOf "self" = some .local := rfl
    have ne := fun z : ("self" : Str) = f => T.ok.ne z.symm
    simp [bindL, l1, l2]
    exact fun z => absurd z ne
  · refine set_plain X₁ (ox := excO C t0) (od := none) ⟨hx₁, rfl, rfl, trivial⟩ T.sa ?_
    refine osaE T X₁ hx₁ (fun h₃ tk₃ dx k₃ dn dne hx₃ hn₃ => ?_)
    show wpAny _ _ (execs _ _) _ _ _
    have z : s.heap.objs.size < h₁.objs.size := hn.lt
    exact wpAny_execs_nil (hq h₃ tk₃ dx ⟨fun b o hb e => k₃ b o hb (k b o e), hx₃, Nat.le_of_lt (Nat.lt_of_lt_of_le z dn), dne, hn₃⟩)
theorem made_ok (T : Txt K mg x₀ C fI f qn) {v : Value} (X : K.In s.heap) (hlim : s.heap.NoLimit) (hroom : A.depth + 1 < recursionLimit)
    (hq : ∀ h' tk e d, Made f s.heap h' e C d v → R (.ok (.ret (.ref e))) { s with heap := h', toks := tk }) :
    codeAny (model prog w) A (.call (.ref C) ⟨[v], []⟩) R s := by
  obtain ⟨nm, N', qn', bs, bm, hdct, sn, sub, ab, col, dd, k0, k1, k2, k3, k5, hC, hT⟩ := excInit_of X T.ini
  obtain ⟨hp, g, dr, tk, os⟩ := s
  have k : ∀ b o, hp.get? b = some o → ((hp.push (kdv_tup [v])).push (excO C hp.objs.size)).get? b = some o := fun b o e => Heap.get?_push_of_some _ (Heap.get?_push_of_some _ e)
  have hget : ((hp.push (kdv_tup [v])).push (excO C hp.objs.size)).get? (hp.objs.size + 1) = some (excO C hp.objs.size) := by heap_get
  refine call_own F.excBase_Exception hT hC (looks_findIn X T.iC) (fun self => bind_fn X self T.tC) (one_size v) ?_
  refine init_ok (s := ⟨(hp.push (kdv_tup [v])).push (excO C hp.objs.size), g, dr, tk, os⟩) T (X.keeps k) (hlim.keeps k) hget ?_ fun h' tk' dx ⟨k', hx, dn, dne, hns⟩ => ?_
  · show A.depth + 1 < recursionLimit
    exact hroom
  · have old : ∀ b o, hp.get? b = some o → h'.get? b = some o := fun b o e => k' b o (Nat.ne_of_lt (Nat.lt_succ_of_lt (Heap.lt_size e))) (k b o e)
    have z : hp.objs.size + 1 + 1 ≤ dx := by
      have q := dn
      rw [Heap.size_push, Heap.size_push] at q
      exact q
    exact ⟨rfl, hq h' tk' (hp.objs.size + 1) dx ⟨old, Nat.le_succ _, ⟨_, _, hx, rfl, rfl, rfl, rfl⟩, Nat.le_trans (Nat.le_trans (Nat.le_succ _) (Nat.le_succ _)) z, dne, hns⟩⟩
end
end ErrX
end PySem
namespace Pv
open PySem PySem.Spec PyProof.Rows L2
theorem relO_one {f : Str} {v : V} {v' : Value} (r : RelV v v') (g : Str) : RelO (List.lookup g [(f, v)]) (if g = f then some v' else none) := by
  by_cases hw : g = f
  · subst hw
    rw [if_pos rfl]
    have q : List.lookup g [(g, v)] = some v := by simp [List.lookup]
    rw [q]
    exact r
  · rw [if_neg hw]
    have qw : (g == f) = false := by simpa using hw
    have q2 : List.lookup g [(f, v)] = none := by simp [List.lookup, qw]
    rw [q2]
    trivial
section
variable {X : Cx} {C fI : Addr} {x f qn : Str}
def tMkE (C : Addr) (f : Str) (ta : TE) : L2.St → Hp → XK → Prop := fun σ H Q => ta σ H fun v H1 => ∀ d, H1 d = none → Q (.ref C) (some d) (upd H1 d (.xd [(f, v)]))
theorem pmk_err {a : Expr} {ta : TE} {p pos : Pos} (T : PySem.ErrX.Txt X.K X.mg x C fI f qn) (hr : X.A.depth + 1 < recursionLimit) (ha : PE X a ta) (hg : Gl X x) (hdb : (x == ("__debug__" : Str)) = false)
    (hs : notStar a = true) : PMk X (.Call (.Name x p) [a] [] pos) (tMkE C f ta) := by
  intro pins s σ H Q I h
  refine wpAny_Call_Name_kw (ld_glob I hg T.gC ?_ hdb)
  have pa : PA X [a] (tCons ta tNil) := pa_cons ha pa_nil (star_ok hs _ _)
  refine PySem.W.callWith_K (h₀ := X.base) I.ok.mod.kin T.kC (thn (pa.run pos pins s σ H (fun vs H1 => match vs with | [v] => ∀ d, H1 d = none → Q (.ref C) (some d) (upd H1 d (.xd [(f, v)])) | _ => False) I h) fun us s1 hh => ?_) (star_ok hs _ _) rfl
  obtain ⟨vs, H1, I1, r1, q1⟩ := hh
  refine ⟨I1.kIn, ?_⟩
  match vs, q1 with
  | [v], q1 =>
    obtain ⟨v', rfl, rv⟩ := vals1 r1
    show wpAny _ _ (call (.ref C) [v']) _ _ _
    have hlim := I1.nolimit
    obtain ⟨hp, g, dr, tk, os⟩ := s1
    refine wpAny_call (PySem.ErrX.made_ok T I1.kIn hlim hr fun h' tk' e d M => ?_)
    show MkP X pins σ Q (.ref e) ⟨h', g, dr, tk', os⟩
    obtain ⟨oe, fv, hoe, hc, hd, hdat, h1⟩ := M.obj
    have hns := M.ns
    obtain ⟨G', g1, g2⟩ := restrict h' fun b => decide (b ≠ e)
    have gk : ∀ b, b ≠ e → G'.get? b = h'.get? b := fun b hb => g1 b (decide_eq_true hb)
    have ge : G'.get? e = none := g2 e (by simp)
    have old : ∀ b o, hp.get? b = some o → G'.get? b = some o := fun b o q => (gk b (Nat.ne_of_lt (Nat.lt_of_lt_of_le (Heap.lt_size q) M.new))).trans (M.keep b o q)
    have ob : ObjOk X.prog X.w (upd H1 d (.xd [(f, v)])) G' d (.xd [(f, v)]) :=
      ⟨_, hns.at (fun o q => (gk d M.dne).trans q), fun g => relO_one rv g⟩
    have J : Inv X pins σ (upd H1 d (.xd [(f, v)])) ⟨G', g, dr, tk', os⟩ := I1.laid (t' := tk') old M.dbig ob
    refine ⟨e, oe, fv, ⟨G', g, dr, tk', os⟩, _, .ref C, some d, rfl, J, fun b o q => ?_, ge, hoe, ⟨hc, hd⟩, hdat, h1, ?_, rfl, I1.bare, raises_own T.exC T.tyC, q1 d (I1.hok.fresh M.dbig)⟩
    · by_cases hb : b = e
      · have q' : G'.get? b = some o := q
        rw [hb, ge] at q'; cases q'
      · exact (gk b hb).symm.trans q
    · rw [upd_ne (Ne.symm M.dne)]
      exact I1.hok.fresh M.new
end
end Pv

set_option Elab.async false
set_option maxRecDepth 100000
set_option maxHeartbeats 4000000
set_option autoImplicit false
set_option linter.unusedVariables false
namespace Pv
open PySem PySem.Spec PyProof.Rows L2
/-! ### try with several clauses, each with a name or without -/
/-- a clause: its class, its name's slot, its suite -/
abbrev Cl := Value × Option Nat × (Addr → Value → Option Addr → TS)
/-- the suite's ends, the name gone -/
def offE (i : Option Nat) (D : Ends) : Ends := match i with
  | none => D
  | some i => { nx := fun σ' H' => D.nx (σ'.set i none) H', rt := D.rt, bk := fun σ' H' => D.bk (σ'.set i none) H', ct := fun σ' H' => D.ct (σ'.set i none) H' }
def onS (i : Option Nat) (σ : L2.St) (a : Addr) : L2.St := match i with
  | none => σ
  | some i => σ.set i (some (.ref a))
def wCls (K : PySem.W.Frag) (Wout : WX) (D : Ends) : List Cl → WX
  | [] => Wout
  | (c, i, ts) :: r => fun cls d σ H => ∃ b, PySem.W.exmOne K cls c = some b ∧ (b = true → ∀ a, H a = none → ts a cls d (offE i D) (onS i σ a) H) ∧ (b = false → wCls K Wout D r cls d σ H)
/-- a clause's name and its slot -/
def NmOk (X : Cx) : Option Str → Option Nat → Prop
  | none, none => True
  | some n, some i => X.N[i]? = some n ∧ X.env.kindOf n = some .local
  | _, _ => False
inductive ClsOk (X : Cx) : List ExceptHandler → List Cl → Prop
  | nil : ClsOk X [] []
  | cons {x : Str} {nm : Option Str} {i : Option Nat} {c : Value} {ts : Addr → Value → Option Addr → TS} {b₀ : Stmt} {suite : List Stmt} {np pos' : Pos} {hds : List ExceptHandler} {l : List Cl} (hc : Names X x c) (hn : NmOk X nm i)
      (hsu : ∀ (a : Addr) (oe : Obj) (cls : Value) (d : Option Addr) (pn : List (Addr × Obj)), Zc cls d oe → (∃ vs, oe.data = .fields vs) → PSs (X.suite a ((a, oe) :: pn)) (b₀ :: suite) (ts a cls d)) (r : ClsOk X hds l) :
      ClsOk X (.ExceptHandler (some (.Name x np)) nm (b₀ :: suite) pos' :: hds) ((c, i, ts) :: l)
section
variable {X : Cx} {pins : List (Addr × Obj)} {a : Addr} {oe : Obj} {σ : L2.St} {H : Hp} {s : Shared} {D : Ends}
/-- a suite is left: the name, if there is one, goes -/
theorem suite_end {nm : Option Str} {i : Option Nat} {pos : Pos} {f : Flow} (ok : X.Ok) (hN : X.N.Nodup) (hn : NmOk X nm i) (h : SP (X.suite a ((a, oe) :: (X.pn ++ pins))) [] (offE i D) f s) :
    match nm with | none => SP X pins D f s | some n => wpAny (model X.prog X.w) X.A (do bindName X.env n .none; unbindBehindTheSuite X.env n pos) (fun _ s₃ => SP X pins D f s₃) X.xe s := by
  match nm, i, hn with
  | none, none, _ =>
    cases f with
    | next => obtain ⟨σ6, H6, S6, q6⟩ := h; exact ⟨_, _, S6.unsuite ok, q6⟩
    | brk => obtain ⟨σ6, H6, S6, q6⟩ := h; exact ⟨_, _, S6.unsuite ok, q6⟩
    | cont => obtain ⟨σ6, H6, S6, q6⟩ := h; exact ⟨_, _, S6.unsuite ok, q6⟩
    | ret u => obtain ⟨v6, σ6, H6, S6, r6, q6⟩ := h; exact ⟨_, _, _, S6.unsuite ok, r6, q6⟩
  | some n, some i, hn =>
    cases f with
    | next => obtain ⟨σ6, H6, S6, q6⟩ := h; exact gone_ok (S6.unsuite ok) hN hn.1 hn.2 fun s7 J7 => ⟨_, _, J7, q6⟩
    | brk => obtain ⟨σ6, H6, S6, q6⟩ := h; exact gone_ok (S6.unsuite ok) hN hn.1 hn.2 fun s7 J7 => ⟨_, _, J7, q6⟩
    | cont => obtain ⟨σ6, H6, S6, q6⟩ := h; exact gone_ok (S6.unsuite ok) hN hn.1 hn.2 fun s7 J7 => ⟨_, _, J7, q6⟩
    | ret u => obtain ⟨v6, σ6, H6, S6, r6, q6⟩ := h; exact gone_ok (S6.unsuite ok) hN hn.1 hn.2 fun s7 J7 => ⟨_, _, _, J7, r6, q6⟩
end
section
variable {X : Cx} {body : List Stmt} {h₀ : ExceptHandler} {hds : List ExceptHandler} {l : List Cl} {pos : Pos} {tb : WX → TS} {Wout : WX}
theorem ps_tryC (hN : X.N.Nodup) (hs : X.stack = X.env :: X.outer) (hf : X.env.frame = some X.env.locals) (tk : Takes X Wout)
    (hb : ∀ (W : WX) (pn : List (Addr × Obj)) (xe : Value → Shared → Prop), Takes (X.tr pn xe) W → PassesOwn (model X.prog X.w) X.A X.env xe → PSs (X.tr pn xe) body (tb W))
    (hh : ClsOk X (h₀ :: hds) l) : PS X (.Try body (h₀ :: hds) [] [] pos) (fun D σ H => tb (wCls X.K Wout D l) D σ H) := by
  refine ⟨fun pins s σ H D I h => ?_⟩
  have ok := I.ok
  have hfr : X.A.frames = some (X.env :: X.outer) := by rw [ok.frames, hs]
  refine wpAny_Try_except ?_
  refine wpAny_mono ((hb (wCls X.K Wout D l) (X.pn ++ pins) (fun e s₁ => wpAny (model X.prog X.w) X.A (noteFrame e X.env) (fun _ s₂ => wpAny (model X.prog X.w) X.A (setFlight e none) (fun _ s₃ =>
    wpAny (model X.prog X.w) X.A (handleBy e X.env (h₀ :: hds)) (SP X pins D) X.xe s₃) X.xe s₂) X.xe s₁) (fun u s' xx => ?_) PassesOwn.looking).run [] s σ H D (I.toTry _) h) (fun f s1 hsp => ?_) (fun e s1 he => he)
  · obtain ⟨a, B, sI, pins', σ', H', cls, d, rfl, J', nb, up, sky, na, os, ag, w⟩ := xx
    have J : Inv X pins σ' H' sI := J'.ofTry ok
    have sky' : Sky B (X.env :: X.outer) a (Zc cls d) X.env.locals s'.heap := by rw [← hs]; exact sky
    show wpAny (model X.prog X.w) X.A (noteFrame (.ref a) X.env) _ _ _
    refine Sky.land Zc.steady hfr hf sky' fun h3 fl3 up3 => ?_
    have J3 : Inv X pins σ' H' { s' with heap := h3 } := J.landed nb fl3.1 (up.trans up3) os ag
    obtain ⟨oe3, vs3, he3, hz3, hd3⟩ := fl3.there
    have nfr : a ∉ frs (X.env :: X.outer) := fun hm => by
      obtain ⟨_, o', e', hnf⟩ := fl3.2.2.1.mem hm
      rw [he3] at e'; cases e'
      exact hnf _ hd3
    have nL : a ≠ X.env.locals := fun z => nfr (List.mem_filterMap.mpr ⟨X.env, List.mem_cons_self, by rw [hf, z]⟩)
    have nF : a ∉ X.fs := fun hm => by
      obtain ⟨e, he, q⟩ := List.mem_filterMap.mp hm
      exact nfr (List.mem_filterMap.mpr ⟨e, List.mem_cons_of_mem _ he, q⟩)
    have S3 := J3.suite he3 hd3 na nL nF
    clear h hb
    suffices go : ∀ {hds' : List ExceptHandler} {l' : List Cl}, ClsOk X hds' l' → wCls X.K Wout D l' cls d σ' H' → wpAny (model X.prog X.w) X.A (handleBy (.ref a) X.env hds') (SP X pins D) X.xe { s' with heap := h3 } from go hh w
    clear hh w
    intro hds' l' hk
    induction hk with
    | nil =>
      intro w
      refine wpAny_handleBy_nil ?_
      obtain ⟨k1, k2, k3, oe, vs, T, oT, ts', he, hz, hd, h1, hr⟩ := id fl3
      unfold PySem.passOn
      refine wpAny_bind (wpAny_field he hd h1 ?_)
      rw [if_neg (show ¬ ((Value.ref T == Value.none) = true) from by simp)]
      have fin : wpAny (model X.prog X.w) X.A (setFlight (.ref a) X.env.frame) (fun _ s4 => wpAny (model X.prog X.w) X.A (throw (.ref a) : Sem Flow) (SP X pins D) X.xe s4) X.xe { s' with heap := h3 } := by
        rw [hf]
        refine HandSPX.setFlight_upZ fl3 fun h4 hh4 up4 => wpAny_throw (tk _ _ ?_)
        exact ⟨a, B, sI, pins, σ', H', cls, d, rfl, J, nb, (up.trans up3).trans up4, .inr (.inr (by rw [hs]; exact hh4)), na, os, ag, w⟩
      first
        | exact wpAny_bind (wpAny_pure (wpAny_bind fin))
        | exact wpAny_bind fin
    | @cons x nm i c ts b₀ suite np pos' hds2 l2 hc hn hsu r ih =>
      intro w
      obtain ⟨b, hb1, hyes, hno⟩ := w
      refine wpAny_handleBy_cons (codeAny_handlers_test ?_) (by intro q; cases q)
      have LT : PySem.W.Looks (model X.prog X.w) h3 (typeOf (.ref a)) cls := fun A Q E s k q => wpAny_typeOf_ref (k _ _ he3) (by rw [hz3.1]; exact q)
      have LM := PySem.W.exm_one (M := model X.prog X.w) (J3.kIn) LT hb1
      have test : ∀ {Q : Value → Shared → Prop} {E : Value → Shared → Prop}, Q c { s' with heap := h3 } → wpAny (model X.prog X.w) (X.A.mark (some (.ref a))) (eval (.Name x np) X.env) Q E { s' with heap := h3 } := fun {Q E} q => by
        obtain ⟨hg, hdbg, hm | ⟨hm, hv, hnn⟩⟩ := hc
        · exact ld_glob (X := X.suite a ((a, oe3) :: (X.pn ++ pins))) S3 hg hm q hdbg
        · exact ld_blt (X := X.suite a ((a, oe3) :: (X.pn ++ pins))) S3 hg hm hv q hnn hdbg
      refine test (LM.here ?_)
      cases b with
      | false =>
        show wpAny _ X.A (handleBy (.ref a) X.env hds2) _ _ _
        exact ih (hno rfl)
      | true =>
        match nm, i, hn, hyes with
        | none, none, hn, hyes =>
          refine codeAny_handlers_suite ?_
          refine HandSPX.lands_againZ fl3 fun h4 fl4 up4 => ?_
          have J4 : Inv X pins σ' H' { s' with heap := h4 } := J.landed nb fl4.1 ((up.trans up3).trans up4) os ag
          obtain ⟨oe4, vs4, he4, hz4, hd4⟩ := fl4.there
          exact wpAny_mono ((hsu a oe4 cls d (X.pn ++ pins) hz4 ⟨_, hd4⟩).run [] _ _ H' _ (J4.suite he4 hd4 na nL nF) (hyes rfl a na)) (fun f s6 hsp => suite_end (pos := pos') (nm := none) (i := none) ok hN trivial hsp) (fun _ _ z => False.elim z)
        | some n, some i, hn, hyes =>
          refine codeAny_handlers_suite_as ?_
          refine HandSPX.lands_againZ fl3 fun h4 fl4 up4 => ?_
          have J4 : Inv X pins σ' H' { s' with heap := h4 } := J.landed nb fl4.1 ((up.trans up3).trans up4) os ag
          obtain ⟨oe4, vs4, he4, hz4, hd4⟩ := fl4.there
          refine store_ok (X := X.suite a ((a, oe4) :: (X.pn ++ pins))) (v := .ref a) (J4.suite he4 hd4 na nL nF) hN hn.1 (.inl hn.2) rfl (fun s5 S5 => ?_) (.inr hn.2)
          exact wpAny_mono ((hsu a oe4 cls d (X.pn ++ pins) hz4 ⟨_, hd4⟩).run [] s5 _ H' _ S5 (hyes rfl a na)) (fun f s6 hsp => suite_end (pos := pos') (nm := some n) (i := some i) ok hN hn hsp) (fun _ _ z => False.elim z)
        | none, some _, hn, _ => exact hn.elim
        | some _, none, hn, _ => exact hn.elim
  · cases f with
    | next =>
      obtain ⟨σ', H', J', q⟩ := hsp
      exact wpAny_execs_nil ⟨σ', H', J'.ofTry ok, q⟩
    | brk =>
      obtain ⟨σ', H', J', q⟩ := hsp
      exact ⟨σ', H', J'.ofTry ok, q⟩
    | cont =>
      obtain ⟨σ', H', J', q⟩ := hsp
      exact ⟨σ', H', J'.ofTry ok, q⟩
    | ret u =>
      obtain ⟨v, σ', H', J', r, q⟩ := hsp
      exact ⟨v, σ', H', J'.ofTry ok, r, q⟩
end
end Pv

set_option Elab.async false
set_option maxRecDepth 100000
set_option maxHeartbeats 4000000
set_option autoImplicit false
set_option linter.unusedVariables false
namespace Pv
open PySem L2

/-! ### what is known of a def's names -/
structure Fn where
  ps : List Str
  C : Ct
  sh : List (Nat × List Str × List Nat)
structure Cs where
  N : List Str
  sc : Scope
  as : List Nat
  bor : List Nat
  wr : Str → Bool
  er : Str → Option Str
  sub : Str → Str → Option Bool
  xc : Str → Bool
  ic : Str → Bool
  io : Str → Bool
  isub : Str → Str → Option Bool
  fa : Str → Str → Bool
  cm : Str → Option Fn
  eq : Str → Option Ct
  dk : List Nat
  dl : Bool
  dc : Bool
  fn : Str → Option Fn
  gv : Str → Option D
  bi : Str → Bool
  lm : Option (Nat × Addr × Hp × LamC)
  lf : Str → Option CtL
  kb : Nat
/-- the interpreter's own dict of modules stands in the base -/
def SysIn (b : Heap) : Prop := ∃ mm, b.Ns sysModules mm
/-- an own class's object can be asked for its type -/
structure IsC (K : PySem.W.Frag) (C : Addr) : Prop where
  cl : Cls K C
  ha : PySem.W.findIn K (.ref C) "__class__" = some (some (.builtin "object.__class__"))
  hn : PySem.W.specialIn K (.builtin "object.__class__") "__get__" = some (some (.builtin "getset_descriptor.__get__"))
  ht : PySem.W.takesIn K (.builtin "object.__class__") = some true
  hm : PySem.W.mroIn K C (.type "object") = some true
def baseTys : List String := ["NoneType", "bool", "int", "str", "tuple", "list", "dict"]
/-- the places of the parameters behind self -/
def up1 (ord : List Nat) : List Nat := 0 :: ord.map (· + 1)
structure CtxOk (X : Cx) (G : Gs) (W : WX) (c : Cs) : Prop where
  K : X.K = G.K
  N : X.N = c.N
  nd : c.N.Nodup
  sc : X.env.scope = c.sc
  calm : X.calm = true
  tk : Takes X W
  gd : X.A.guards = some []
  un : X.A.units + 200 < cLine
  kd : c.sc.kind = .function
  dp : X.A.depth + 1 < recursionLimit
  er : ∀ x f, c.er x = some f → ∃ C fI qn, PySem.ErrX.Txt X.K X.mg x C fI f qn ∧ G.cl x = some C
  sub : ∀ x y b C, c.sub x y = some b → G.cl x = some C → ∃ C', X.mg y = some (.ref C') ∧ PySem.W.exmOne X.K (.ref C) (.ref C') = some b
  xc : ∀ y, c.xc y = true → ∃ C, X.mg y = some (.ref C)
  sys : SysIn X.base
  ic : ∀ cn C, c.ic cn = true → G.cl cn = some C → IsC X.K C ∧ ∀ t ∈ baseTys, PySem.W.kitOne X.K (.ref C) (.type t) = some false
  io : ∀ y, c.io y = true → ∃ C', X.mg y = some (.ref C') ∧ (∀ t ∈ baseTys, PySem.W.kitOne X.K (.type t) (.ref C') = some false) ∧ ∀ cn b C, c.isub cn y = some b → G.cl cn = some C → IsC X.K C ∧ PySem.W.kitOne X.K (.ref C) (.ref C') = some b
  fa : ∀ cn f C, c.fa cn f = true → G.cl cn = some C → Cls X.K C ∧ NoAttr X.K C f
  cm : ∀ x f, c.cm x = some f → ∃ (C fI : Addr) (fd : FuncData) (k : Nat), (Room (k + 1) X.A ∧ k + 1 ≤ c.kb) ∧ X.mg x = some (.ref C) ∧ G.cl x = some C ∧ Mk X.K C fI ∧ FnG X.prog X.w X.K X.mg X.base k fI fd f.ps (spOf G f.ps.length f.C) ∧ ∀ s ∈ f.sh, Shp X.K fd f.ps (s.1 + 1) s.2.1 (up1 s.2.2)
  eq : ∀ cn C, c.eq cn = some C → ∃ (Ca f : Addr) (fd : FuncData) (ps : List Str) (k : Nat), G.cl cn = some Ca ∧ (Room k X.A ∧ k ≤ c.kb) ∧ FnG X.prog X.w X.K X.mg X.base k f fd ps (spOf G 2 C) ∧ PySem.W.findIn X.K (.ref Ca) "__eq__" = some (some (.ref f)) ∧ PySem.W.isFn X.K (.ref f) = true ∧ Shp X.K fd ps 2 [] [0, 1] ∧ PySem.W.notFirst X.K Ca (.ref Ca) = true
  dl : G.dl = c.dl
  dc : G.dc = c.dc
  fl : ∀ x, c.wr x = true → X.fn x = true ∨ X.env.scope.names.lookup x = some .local ∨ X.env.scope.names.lookup x ≠ some .cell
  fn : ∀ x f, c.fn x = some f → ∃ (a : Addr) (fd : FuncData) (k : Nat), (Room k X.A ∧ k ≤ c.kb) ∧ X.mg x = some (.ref a) ∧ PySem.W.keepIn X.K (.ref a) = true ∧ FnG X.prog X.w X.K X.mg X.base k a fd f.ps (spOf G f.ps.length f.C) ∧ ∀ s ∈ f.sh, Shp X.K fd f.ps s.1 s.2.1 s.2.2
  gv : ∀ x d, c.gv x = some d → ∃ v u, X.mg x = some u ∧ RelV v u ∧ ∀ F, RepD G F v d
  bi : ∀ x, c.bi x = true → X.mg x = none
  lm : ∀ i f F0 L, c.lm = some (i, f, F0, L) → ∃ a, c.N[i]? = some a ∧ ∀ (W' : WX) (pn : List (Addr × Obj)) (xe : Value → Shared → Prop) (pa pb : Pos), Takes (X.tr pn xe) W' → JE (X.tr pn xe) G W' (.Call (.Name a pa) [] [] pb) (wAct i f F0 L)
  lf : ∀ x CL, c.lf x = some CL → ∃ g cc Pt : Addr, X.mg x = some (.ref g) ∧ PySem.W.keepIn X.K (.ref g) = true ∧ FnL X.prog X.w X.K X.mg X.base G c.kb g CL ∧ LamX.TabB X.base X.mg cc Pt ∧ X.env.code = .ref cc ∧ (Pt, lamQ X) ∈ G.tb ∧ (∀ p ∈ G.tb, p.1 = Pt → p.2 = lamQ X) ∧ Room (c.kb + 2) X.A
def slotOf (c : Cs) (x : Str) : Option Nat := match c.sc.names.lookup x with
  | some .local => c.N.idxOf? x
  | some .cell => c.N.idxOf? x
  | some .free => c.N.idxOf? x
  | _ => none
def locOf (c : Cs) (x : Str) : Option Nat := if c.wr x then (match c.sc.names.lookup x with
  | some .local => c.N.idxOf? x
  | some .cell => c.N.idxOf? x
  | _ => none) else none
def isGl (c : Cs) (x : Str) : Bool := (c.sc.names.lookup x == some .globalImplicit) && !(x == ("__debug__" : Str)) && !(x == ("__name__" : Str))
section
variable {X : Cx} {G : Gs} {W : WX} {c : Cs}
theorem idx_at {N : List Str} {x : Str} {i : Nat} (h : N.idxOf? x = some i) : N[i]? = some x := by
  induction N generalizing i with
  | nil => simp [List.idxOf?] at h
  | cons y N ih =>
    rw [List.idxOf?_cons] at h
    split at h
    · rename_i e
      cases h
      simpa using e
    · cases q : N.idxOf? x with
      | none => rw [q] at h; cases h
      | some j =>
        rw [q] at h
        cases h
        simpa using ih q
theorem CtxOk.at (ok : CtxOk X G W c) {x : Str} {i : Nat} (h : c.N.idxOf? x = some i) : X.N[i]? = some x := by rw [ok.N]; exact idx_at h
theorem CtxOk.slot (ok : CtxOk X G W c) {x : Str} {i : Nat} (h : slotOf c x = some i) : X.N[i]? = some x ∧ Vis X.env.scope x := by
  unfold slotOf at h
  rw [ok.sc]
  split at h
  · exact ⟨ok.at h, .inl (by assumption)⟩
  · exact ⟨ok.at h, .inr (.inl (by assumption))⟩
  · exact ⟨ok.at h, .inr (.inr (by assumption))⟩
  · cases h
theorem CtxOk.loc (ok : CtxOk X G W c) {x : Str} {i : Nat} (h : locOf c x = some i) : X.N[i]? = some x ∧ Loc X.env.scope x ∧ (X.fn x = true ∨ X.env.scope.names.lookup x = some .local) := by
  unfold locOf at h
  split at h
  · rename_i hw
    have fl := ok.fl x hw
    rw [ok.sc] at fl ⊢
    split at h
    · exact ⟨ok.at h, .inl (by assumption), .inr (by assumption)⟩
    · rename_i e
      refine ⟨ok.at h, .inr e, ?_⟩
      rcases fl with f | f | f
      · exact .inl f
      · exact .inr f
      · exact absurd e f
    · cases h
  · cases h
theorem isGl_ok (ok : CtxOk X G W c) {x : Str} (h : isGl c x = true) : Gl X x ∧ (x == ("__debug__" : Str)) = false ∧ x ≠ ("__name__" : Str) := by
  unfold isGl at h
  simp only [Bool.and_eq_true, Bool.not_eq_true', beq_iff_eq] at h
  refine ⟨?_, h.1.2, fun e => ?_⟩
  · show X.env.scope.names.lookup x = some .globalImplicit
    rw [ok.sc]; exact h.1.1
  · rw [e] at h; exact absurd h.2 (by decide)

/-! ### no way -/
def wNo : WE := fun _ _ _ => False
theorem je_no {e : Expr} : JE X G W e wNo := ⟨fun _ _ _ => False, ⟨fun _ _ _ _ _ _ h => h.elim⟩, fun _ _ _ _ _ _ _ _ _ h _ _ => h.elim⟩
def wNoT : WT := fun _ _ _ => False
theorem jt_no {e : Expr} : JT X G W e wNoT := ⟨fun _ _ _ => False, ⟨fun _ _ _ _ _ _ h => h.elim⟩, fun _ _ _ _ _ _ _ _ _ h _ _ => h.elim⟩
def wNoA : WA := fun _ _ _ => False
theorem ja_no {es : List Expr} : JA X G W es wNoA := ⟨fun _ _ _ => False, ⟨fun _ _ _ _ _ _ _ h => h.elim⟩, fun _ _ _ _ _ _ _ _ _ h _ _ => h.elim⟩
theorem ji_no {tg e : Expr} : JI X G W tg e wNoA := ⟨fun _ _ _ => False, ⟨fun _ _ _ _ _ _ h => h.elim⟩, fun _ _ _ _ _ _ _ _ _ h _ _ => h.elim⟩

/-! ### names and constants -/
def evName (c : Cs) (x : Str) : WE := match slotOf c x with
  | some i => if (x == ("__debug__" : Str)) || (x == ("__classdict__" : Str)) then wNo else wVar i
  | none => if isGl c x then (match c.gv x with | some d => wK d | none => wNo) else wNo
theorem evName_ok (ok : CtxOk X G W c) {x : Str} {pos : Pos} : JE X G W (.Name x pos) (evName c x) := by
  unfold evName
  split
  · rename_i i hi
    split
    · exact je_no
    · rename_i hd
      simp only [Bool.or_eq_true, not_or, Bool.not_eq_true] at hd
      obtain ⟨h1, h2⟩ := ok.slot hi
      exact ⟨tVar i, pe_var h1 h2 hd.1 hd.2, se_var i⟩
  · split
    · rename_i hg
      split
      · rename_i d hd
        obtain ⟨h1, h2, _⟩ := isGl_ok ok hg
        obtain ⟨v, u, hm, r, hr⟩ := ok.gv x d hd
        exact ⟨tC v, pe_glob h1 hm r h2, se_k hr⟩
      · exact je_no
    · exact je_no
def evConst : Const → WE
  | .int i => wK (.int i)
  | .bool b => wK (.bl b)
  | .none => wK .non
  | .str x => wK (.str x)
  | _ => wNo
theorem evConst_ok {k : Const} {j : Nat} {pos : Pos} : JE X G W (.Constant k j pos) (evConst k) := by
  cases k with
  | int i => exact ⟨_, pe_int, se_k fun _ => .int i⟩
  | bool b => exact ⟨_, pe_bl, se_k fun _ => .bl b⟩
  | none => exact ⟨_, pe_non, se_k fun _ => .non⟩
  | str x => exact ⟨_, pe_str, se_k fun _ => .str x⟩
  | _ => exact je_no

/-! ### operators -/
def binOf : Operator → Option (D → D → (O → Prop) → Prop)
  | .Add => some mAdd
  | .Sub => some (mI0 fun i j => .int (i - j))
  | .Mult => some mMul
  | .Mod => some (mI (fun _ j => 0 < j) fun i j => .int (i % j))
  | .FloorDiv => some (mI CDivW fun i j => .int (i / j))
  | .Pow => some (mI CPow fun i j => .int (i ^ j.toNat))
  | .LShift => some (mI CPow fun i j => .int (i * 2 ^ j.toNat))
  | .RShift => some (mI (fun _ j => 0 ≤ j) fun i j => .int (i / 2 ^ j.toNat))
  | .BitAnd => some (mI0 fun i j => .int (Builtin.bitAnd i j))
  | .BitOr => some (mI0 fun i j => .int (Builtin.bitOr i j))
  | .BitXor => some (mI0 fun i j => .int (Builtin.bitXor i j))
  | _ => none
theorem binOf_ok (hK : X.K = G.K) {op : Operator} {m : D → D → (O → Prop) → Prop} (h : binOf op = some m) : ∃ r, OpR X (binaryOp op) r ∧ RB G r m := by
  cases op <;> simp only [binOf, Option.some.injEq, reduceCtorEq] at h
  all_goals subst h
  · exact ⟨_, op_addU, by rw [hK]; exact rb_add⟩
  · exact ⟨_, op_sub, rb_int0⟩
  · exact ⟨_, op_mulU, by rw [hK]; exact rb_mul⟩
  · exact ⟨_, op_mod, rb_int⟩
  · exact ⟨_, op_pow, rb_int⟩
  · exact ⟨_, op_shl, rb_int⟩
  · exact ⟨_, op_shr, rb_int⟩
  · exact ⟨_, op_or, rb_int0⟩
  · exact ⟨_, op_xor, rb_int0⟩
  · exact ⟨_, op_and, rb_int0⟩
  · exact ⟨_, op_fdivW, rb_int⟩
def evBin (op : Operator) (ma mb : WE) : WE := match binOf op with | some m => wBin m ma mb | none => wNo
theorem evBin_ok (hK : X.K = G.K) {op : Operator} {a b : Expr} {ma mb : WE} {pos : Pos} (ha : JE X G W a ma) (hb : JE X G W b mb) : JE X G W (.BinOp a op b pos) (evBin op ma mb) := by
  unfold evBin
  split
  · rename_i m hm
    obtain ⟨r, h1, h2⟩ := binOf_ok hK hm
    obtain ⟨ta, pa, sa⟩ := ha.ex
    obtain ⟨tb, pb, sb⟩ := hb.ex
    exact ⟨_, pe_op h1 pa pb, se_bin h2 sa sb⟩
  · exact je_no

/-! ### comparisons -/
structure JC (X : Cx) (G : Gs) (W : WX) (op : CmpOp) (a b : Expr) (m : WE) : Prop where
  ex : ∃ r ta tb, OpR X (compareOp op) r ∧ PE X a ta ∧ PE X b tb ∧ behindInMarks op b = false ∧ SE G W (tOp r ta tb) m
def cmpOf : CmpOp → Option (D → D → (O → Prop) → Prop)
  | .Eq => some (mEq false)
  | .NotEq => some (mEq true)
  | .Lt => some (mI0 fun i j => .bl (decide (i < j)))
  | .LtE => some (mI0 fun i j => .bl (decide (i ≤ j)))
  | .Gt => some (mI0 fun i j => .bl (decide (j < i)))
  | .GtE => some (mI0 fun i j => .bl (decide (j ≤ i)))
  | .Is => some (mIs false)
  | .IsNot => some (mIs true)
  | _ => none
theorem cmpOf_ok (ok : CtxOk X G W c) {op : CmpOp} {m : D → D → (O → Prop) → Prop} (h : cmpOf op = some m) : (∃ r, OpR X (compareOp op) r ∧ RB G r m) ∧ op ≠ .In ∧ op ≠ .NotIn := by
  have hK := ok.K
  have hu : X.A.units + 64 < cLine := by have := ok.un; omega
  cases op <;> simp only [cmpOf, Option.some.injEq, reduceCtorEq] at h
  all_goals subst h
  · exact ⟨⟨_, op_eqU hu, by rw [hK]; exact rb_eq⟩, by decide, by decide⟩
  · exact ⟨⟨_, op_neU hu, by rw [hK]; exact rb_ne⟩, by decide, by decide⟩
  · exact ⟨⟨_, op_lt, rb_int0B⟩, by decide, by decide⟩
  · exact ⟨⟨_, op_le, rb_int0B⟩, by decide, by decide⟩
  · exact ⟨⟨_, op_gt, rb_int0B⟩, by decide, by decide⟩
  · exact ⟨⟨_, op_ge, rb_int0B⟩, by decide, by decide⟩
  · exact ⟨⟨_, op_isN, rb_is⟩, by decide, by decide⟩
  · exact ⟨⟨_, op_notN, rb_isnot⟩, by decide, by decide⟩
/-- a slot, looked at, on the left of == -/
def nameSlot (c : Cs) : Expr → Option Nat
  | .Name x _ => if (x == ("__debug__" : Str)) || (x == ("__classdict__" : Str)) then none else slotOf c x
  | _ => none
theorem nameSlot_ok (ok : CtxOk X G W c) {e : Expr} {i : Nat} (h : nameSlot c e = some i) : PE X e (tVar i) := by
  cases e <;> simp only [nameSlot, reduceCtorEq] at h
  split at h
  · cases h
  · rename_i hd
    simp only [Bool.or_eq_true, not_or, Bool.not_eq_true] at hd
    obtain ⟨h1, h2⟩ := ok.slot h
    exact pe_var h1 h2 hd.1 hd.2
def evCmp0 (op : CmpOp) (ma mb : WE) : WE := match cmpOf op with | some m => wBin m ma mb | none => wNo
def evCmp (c : Cs) (op : CmpOp) (a : Expr) (ma mb : WE) : WE := match nameSlot c a with
  | some i => if op = .Eq then wEqV false i mb else if op = .NotEq then wEqV true i mb else evCmp0 op ma mb
  | none => evCmp0 op ma mb
theorem evCmp0_ok (ok : CtxOk X G W c) {op : CmpOp} {a b : Expr} {ma mb : WE} (ha : JE X G W a ma) (hb : JE X G W b mb) : JC X G W op a b (evCmp0 op ma mb) ∨ evCmp0 op ma mb = wNo := by
  obtain ⟨ta, pa, sa⟩ := ha.ex
  obtain ⟨tb, pb, sb⟩ := hb.ex
  unfold evCmp0
  split
  · rename_i m hm
    obtain ⟨⟨r, h1, h2⟩, n1, n2⟩ := cmpOf_ok ok hm
    exact .inl ⟨_, _, _, h1, pa, pb, nomark b n1 n2, se_bin h2 sa sb⟩
  · exact .inr rfl
theorem evCmp_ok (ok : CtxOk X G W c) {op : CmpOp} {a b : Expr} {ma mb : WE} (ha : JE X G W a ma) (hb : JE X G W b mb) : JC X G W op a b (evCmp c op a ma mb) ∨ evCmp c op a ma mb = wNo := by
  have hu : X.A.units + 64 < cLine := by have := ok.un; omega
  obtain ⟨tb, pb, sb⟩ := hb.ex
  unfold evCmp
  cases hn : nameSlot c a with
  | none => exact evCmp0_ok ok ha hb
  | some i =>
    simp only
    split
    · rename_i e
      subst e
      exact .inl ⟨_, _, _, op_eqU hu, nameSlot_ok ok hn, pb, nomark b, by rw [ok.K]; exact se_eqV i sb⟩
    · split
      · rename_i e
        subst e
        exact .inl ⟨_, _, _, op_neU hu, nameSlot_ok ok hn, pb, nomark b, by rw [ok.K]; exact se_neV i sb⟩
      · exact evCmp0_ok ok ha hb
theorem JC.je {op : CmpOp} {a b : Expr} {m : WE} {pos : Pos} (h : JC X G W op a b m) : JE X G W (.Compare a [op] [b] pos) m := by
  obtain ⟨r, ta, tb, h1, h2, h3, h4, h5⟩ := h.ex
  exact ⟨_, pe_cmpR h1 h2 h3 h4, h5⟩
theorem JC.jt {op : CmpOp} {a b : Expr} {m : WE} {pos : Pos} (h : JC X G W op a b m) : JT X G W (.Compare a [op] [b] pos) (wBool m) := by
  obtain ⟨r, ta, tb, h1, h2, h3, h4, h5⟩ := h.ex
  exact ⟨_, pt_cmpR h1 h2 h3 h4, st_bool h5⟩
def evChain (op op' : CmpOp) (ma mb mc : WE) : WE := match cmpOf op, cmpOf op' with | some m, some m' => wChain m m' ma mb mc | _, _ => wNo
theorem evChain_ok (ok : CtxOk X G W c) {op op' : CmpOp} {a b d : Expr} {ma mb mc : WE} {pos : Pos} (ha : JE X G W a ma) (hb : JE X G W b mb) (hc : JE X G W d mc) :
    JE X G W (.Compare a [op, op'] [b, d] pos) (evChain op op' ma mb mc) ∧ JT X G W (.Compare a [op, op'] [b, d] pos) (wBool (evChain op op' ma mb mc)) := by
  obtain ⟨ta, pa, sa⟩ := ha.ex
  obtain ⟨tb, pb, sb⟩ := hb.ex
  obtain ⟨tc, pc, sc⟩ := hc.ex
  unfold evChain
  split
  · rename_i m m' hm hm'
    obtain ⟨⟨r, h1, h2⟩, n1, n2⟩ := cmpOf_ok ok hm
    obtain ⟨⟨r', h1', h2'⟩, n1', n2'⟩ := cmpOf_ok ok hm'
    exact ⟨⟨_, pe_chain h1 h1' pa pb pc (nomark2 b d n1' n2'), se_chain h2 h2' sa sb sc⟩, ⟨_, pt_chain h1 h1' pa pb pc (nomark2 b d n1' n2'), st_bool (se_chain h2 h2' sa sb sc)⟩⟩
  · exact ⟨je_no, ⟨fun _ _ _ => False, ⟨fun _ _ _ _ _ _ h => h.elim⟩, fun _ _ _ _ _ _ _ _ _ h _ _ => h.elim⟩⟩

/-! ### lists of expressions -/
def evArgs (ev : Expr → WE) : List Expr → WA
  | [] => wNil
  | e :: es => if notStar e then wCons (ev e) (evArgs ev es) else wNoA
theorem evArgs_ok {ev : Expr → WE} (h : ∀ e, JE X G W e (ev e)) : ∀ es : List Expr, JA X G W es (evArgs ev es)
  | [] => ⟨_, pa_nil, sa_nil⟩
  | e :: es => by
    unfold evArgs
    split
    · rename_i hs
      obtain ⟨te, pe, se⟩ := (h e).ex
      obtain ⟨ta, pa, sa⟩ := (evArgs_ok h es).ex
      exact ⟨_, pa_cons pe pa (star_ok hs es _), sa_cons se sa⟩
    · exact ja_no
def evAnds (ev : Expr → WE) : List Expr → WE
  | [] => wNo
  | [a] => ev a
  | a :: b :: r => wAndV (ev a) (evAnds ev (b :: r))
theorem evAnds_ok (hK : X.K = G.K) {ev : Expr → WE} (h : ∀ e, JE X G W e (ev e)) {pos : Pos} : ∀ es : List Expr, JE X G W (.BoolOp .And es pos) (evAnds ev es)
  | [] => je_no
  | [a] => by
    obtain ⟨te, pe, se⟩ := (h a).ex
    exact ⟨_, pe_one pe, se⟩
  | a :: b :: r => by
    obtain ⟨te, pe, se⟩ := (h a).ex
    obtain ⟨te2, pe2, se2⟩ := (evAnds_ok hK h (b :: r)).ex
    exact ⟨_, pe_andT pe pe2, by rw [hK]; exact se_and se se2⟩
def evOrs (ev : Expr → WE) : List Expr → WE
  | [] => wNo
  | [a] => ev a
  | a :: b :: r => wOrV (ev a) (evOrs ev (b :: r))
theorem evOrs_ok (hK : X.K = G.K) {ev : Expr → WE} (h : ∀ e, JE X G W e (ev e)) {pos : Pos} : ∀ es : List Expr, JE X G W (.BoolOp .Or es pos) (evOrs ev es)
  | [] => je_no
  | [a] => by
    obtain ⟨te, pe, se⟩ := (h a).ex
    exact ⟨_, pe_one pe, se⟩
  | a :: b :: r => by
    obtain ⟨te, pe, se⟩ := (h a).ex
    obtain ⟨te2, pe2, se2⟩ := (evOrs_ok hK h (b :: r)).ex
    exact ⟨_, pe_orT pe pe2, by rw [hK]; exact se_or se se2⟩
/-! ### tests -/
def evAndT (et : Expr → WT) : List Expr → WT
  | [] => wNoT
  | [a] => et a
  | a :: b :: r => wAndT (et a) (evAndT et (b :: r))
theorem evAndT_ok {et : Expr → WT} (h : ∀ e, JT X G W e (et e)) {pos : Pos} : ∀ es : List Expr, JW X G W (.BoolOp .And es pos) (evAndT et es)
  | [] => ⟨fun _ _ _ => False, ⟨fun _ _ _ _ _ _ _ h => h.elim⟩, fun _ _ _ _ _ _ _ _ _ h _ _ => h.elim⟩
  | [a] => by
    obtain ⟨te, pe, se⟩ := (h a).ex
    exact ⟨_, pw_and1 pe, se⟩
  | a :: b :: r => by
    obtain ⟨te, pe, se⟩ := (h a).ex
    obtain ⟨te2, pe2, se2⟩ := (evAndT_ok h (b :: r)).ex
    exact ⟨_, pw_and pe pe2, st_and se se2⟩
def evOrT (et : Expr → WT) : List Expr → WT
  | [] => wNoT
  | [a] => et a
  | a :: b :: r => wOrT (et a) (evOrT et (b :: r))
theorem evOrT_ok {et : Expr → WT} (h : ∀ e, JT X G W e (et e)) {pos : Pos} : ∀ es : List Expr, JW X G W (.BoolOp .Or es pos) (evOrT et es)
  | [] => ⟨fun _ _ _ => False, ⟨fun _ _ _ _ _ _ _ h => h.elim⟩, fun _ _ _ _ _ _ _ _ _ h _ _ => h.elim⟩
  | [a] => by
    obtain ⟨te, pe, se⟩ := (h a).ex
    exact ⟨_, pw_or1 pe, se⟩
  | a :: b :: r => by
    obtain ⟨te, pe, se⟩ := (h a).ex
    obtain ⟨te2, pe2, se2⟩ := (evOrT_ok h (b :: r)).ex
    exact ⟨_, pw_or pe pe2, st_or se se2⟩
end
end Pv

set_option Elab.async false
set_option maxRecDepth 100000
set_option maxHeartbeats 4000000
set_option autoImplicit false
set_option linter.unusedVariables false
namespace Pv
open PySem L2
section
variable {X : Cx} {G : Gs} {W : WX} {as : List Nat} {F H : Hp} {σ : St} {ρ : Sl} {T : List (V × O)}
/-! ### raise -/
/-- a new error's dict joins the frozen heap -/
theorem Stt.newX {p : Addr} {v : V} {x : D} {f : Str} (h : Stt G F H σ ρ T) (hp : H p = none) : Ex F (upd F p (.xd [(f, v)])) ∧ Stt G (upd F p (.xd [(f, v)])) (upd H p (.xd [(f, v)])) σ ρ T := by
  obtain ⟨hs, e, fp, ri, nd, fr⟩ := h
  have fp0 : F p = none := e.free hp
  have np : p ∉ fp := fun m => by obtain ⟨u, q⟩ := ri.trk p m; rw [hp] at q; cases q
  have eF : Ex F (upd F p (.xd [(f, v)])) := Ex.new fp0
  refine ⟨eF, hs, fun a u q => ?_, fp, ri.frame eF fun a ha u q => (Ex.new hp) a u q, nd, fun a ha => ?_⟩
  · by_cases z : a = p
    · subst z; rw [upd_same] at q ⊢; exact q
    · rw [upd_ne z] at q ⊢; exact e a u q
  · rw [upd_ne (ne_mem np ha)]; exact fr a ha
def wRaise (x f : Str) (m : WE) : WS := fun ρ De => m ρ (fun o ρ1 => cold o fun y => De.ex ⟨x, [(f, y)]⟩ ρ1) De.ex
theorem ss_raise {x f : Str} {C : Addr} {te : TE} {m : WE} (hc : G.cl x = some C) (h1 : SE G W te m) : SS G W as (fun _ σ H => tMkE C f te σ H fun cls d H' => W cls d σ H') (wRaise x f m) := by
  intro σ ρ F H T D De S h br
  refine h1 σ ρ F H T _ _ De.ex S h (fun o ρ1 v F1 H1 hq e S1 => ?_) br.ke
  obtain ⟨no, hq⟩ := hq
  obtain ⟨F2, e2, S2⟩ := S1.freeze no.ne
  intro d hd
  have r := S2.headD
  have z := Stt.newX (x := fz o) (f := f) (v := v) S2.drop hd
  exact br.ex _ σ ρ1 _ _ _ _ hq (e.trans (e2.trans z.1)) z.2 (Kp.refl _ _) ⟨C, hc, rfl, .inr ⟨d, _, rfl, upd_same, .cons (r.mono z.1) .nil⟩⟩

/-! ### try -/
def onSl (i : Option Nat) (ρ : Sl) : Sl := match i with | none => ρ | some i => ρ.set i none
def offD (i : Option Nat) (De : EndW) : EndW := match i with
  | none => De
  | some i => { nx := fun ρ => De.nx (ρ.set i none), rt := De.rt, bk := fun ρ => De.bk (ρ.set i none), ct := fun ρ => De.ct (ρ.set i none), ex := De.ex }
abbrev Cld := Str × Option Nat × (Exc → WS)
def tryGo (sub : Str → Str → Option Bool) : List Cld → Exc → Sl → EndW → Prop
  | [], e, ρ, De => De.ex e ρ
  | (y, i, su) :: r, e, ρ, De => ∃ b, sub e.cls y = some b ∧ match b with
    | true => su e (onSl i ρ) (offD i De)
    | false => tryGo sub r e ρ De
def wTry (sub : Str → Str → Option Bool) (b : WS) (cs : List Cld) : WS := fun ρ De => b ρ { De with ex := fun e ρ1 => tryGo sub cs e ρ1 De }
/-- an except suite -/
def SU (G : Gs) (as : List Nat) (i : Option Nat) (ts : Addr → Value → Option Addr → TS) (su : Exc → WS) : Prop :=
  ∀ (a : Addr) (cls : Value) (d : Option Addr) (e : Exc) (σ : St) (ρ : Sl) (F H : Hp) (T : List (V × O)) (D : Ends) (De : EndW), ExcR G F e cls d → (∀ j, i = some j → σ[j]? = some (some (.ref a))) → Stt G F H σ ρ T → su e ρ De →
    BR G W0 as F σ T D { De with ex := fun _ _ => False } → ts a cls d D σ H
inductive ClsD (G : Gs) (K : PySem.W.Frag) (as : List Nat) (sub : Str → Str → Option Bool) (n : Nat) : List Cl → List Cld → Prop
  | nil : ClsD G K as sub n [] []
  | cons {c : Value} {i : Option Nat} {ts : Addr → Value → Option Addr → TS} {y : Str} {su : Exc → WS} {l : List Cl} {l' : List Cld} (hi : ∀ j, i = some j → j ∈ as ∧ j < n) (he : ∀ x b C, sub x y = some b → G.cl x = some C → PySem.W.exmOne K (.ref C) c = some b)
      (hs : SU G as i ts su) (r : ClsD G K as sub n l l') : ClsD G K as sub n ((c, i, ts) :: l) ((y, i, su) :: l')
theorem br_off {D : Ends} {De : EndW} {i : Option Nat} {a : Addr} (hi : ∀ j, i = some j → j ∈ as) (b : BR G W as F σ T D De) : BR G W0 as F (onS i σ a) T (offE i D) { offD i De with ex := fun _ _ => False } := by
  cases i with
  | none => exact ⟨b.nx, b.rt, b.bk, b.ct, fun _ _ _ _ _ _ _ z => z.elim⟩
  | some i =>
    have hk : Kp as σ (σ.set i (some (.ref a))) := Kp.set (hi i rfl) _
    refine ⟨fun σ' ρ' F' H' h e S k => ?_, fun o v σ' ρ' F' H' h e S k => b.rt o v σ' ρ' F' H' h e S (hk.trans k), fun σ' ρ' F' H' h e S k => ?_, fun σ' ρ' F' H' h e S k => ?_, fun _ _ _ _ _ _ _ z => z.elim⟩
    · exact b.nx _ _ F' H' h e (S.wipe1 i) ((hk.trans k).trans (Kp.set (hi i rfl) _))
    · exact b.bk _ _ F' H' h e (S.wipe1 i) ((hk.trans k).trans (Kp.set (hi i rfl) _))
    · exact b.ct _ _ F' H' h e (S.wipe1 i) ((hk.trans k).trans (Kp.set (hi i rfl) _))
theorem stt_on {i : Option Nat} {a : Addr} (S : Stt G F H σ ρ T) : Stt G F H (onS i σ a) (onSl i ρ) T := by
  cases i with
  | none => exact S
  | some i =>
    refine (S.lose i).congr (by show _ = (σ.set i _).length; rw [List.length_set]) fun j o q => ?_
    by_cases e : i = j
    · subst e
      by_cases l : i < ρ.length
      · rw [List.getElem?_set_self l] at q; cases q
      · rw [List.getElem?_eq_none (by simpa using l)] at q; cases q
    · show σ[j]? = (σ.set i _)[j]?
      rw [List.getElem?_set_ne e]
theorem try_go {n : Nat} {K : PySem.W.Frag} {sub : Str → Str → Option Bool} {D : Ends} {De : EndW} : ∀ {l : List Cl} {l' : List Cld}, ClsD G K as sub n l l' → ∀ (e : Exc) (σ' : St) (ρ' : Sl) (F' H' : Hp) (cls : Value) (d : Option Addr), n = σ.length → tryGo sub l' e ρ' De → Ex F F' → Stt G F' H' σ' ρ' T → Kp as σ σ' → ExcR G F' e cls d → BR G W as F σ T D De →
    wCls K W D l cls d σ' H'
  | _, _, .nil, e, σ', ρ', F', H', cls, d, hn, h, x, S, k, r, br => br.ex e σ' ρ' F' H' cls d h x S k r
  | _, _, .cons (i := i) hi he hs r', e, σ', ρ', F', H', cls, d, hn, h, x, S, k, r, br => by
    obtain ⟨b, hb, h⟩ := h
    obtain ⟨C, h1, h2, h3⟩ := id r
    subst h2
    refine ⟨b, he _ b C hb h1, fun e1 a ha => ?_, fun e1 => ?_⟩
    · subst e1
      refine hs a _ d e (onS i σ' a) (onSl i ρ') F' H' T _ _ r (fun j hj => ?_) (stt_on S) h (br_off (fun j hj => (hi j hj).1) (br.up x k))
      subst hj
      show (σ'.set j _)[j]? = _
      rw [List.getElem?_set_self (by rw [k.len, ← hn]; exact (hi j rfl).2)]
    · subst e1
      exact try_go r' e σ' ρ' F' H' _ d hn h x S k r br
theorem ss_try {n : Nat} {sub : Str → Str → Option Bool} {tb : WX → TS} {l : List Cl} {l' : List Cld} {b : WS} (hb : ∀ W', SS G W' as (tb W') b) (hl : ClsD G G.K as sub n l l') :
    SS G W as (fun D σ H => tb (wCls G.K W D l) D σ H) (fun ρ De => wTry sub b l' ρ De ∧ n = ρ.length) := by
  intro σ ρ F H T D De S ⟨h, hn⟩ br
  refine hb _ σ ρ F H T D _ S h ⟨br.nx, br.rt, br.bk, br.ct, fun e σ' ρ' F' H' cls d q x S' k r => ?_⟩
  exact try_go hl e σ' ρ' F' H' cls d (hn.trans S.1.len.symm) q x S' k r br
end
end Pv

set_option Elab.async false
set_option maxRecDepth 100000
set_option maxHeartbeats 4000000
set_option autoImplicit false
set_option linter.unusedVariables false

namespace Pv
open PySem PySem.Spec PyProof.Rows HT
section
variable {prog : Program} {w : World} {A : Around} {E : Value → Shared → Prop} {s : Shared}
theorem slicePartM {v : Value} {o : Option Int} {Q : Option Int → Shared → Prop} (p : IsPart v o) (h : Q o s) : wpAny (model prog w) A (Builtin.Slice.slicePartIndex v) Q E s := by
  cases p with
  | none => exact slicePart_none h
  | int i t => exact slicePart_int h
theorem adjust_rev (n : Nat) : Builtin.Slice.sliceAdjust none none (-1) (n : Int) = ((n : Int) - 1, -1) := by
  unfold Builtin.Slice.sliceAdjust
  have h1 : ((-1 : Int) < 0) := by omega
  simp only [h1, if_true]
theorem places_rev (n : Nat) : Builtin.Slice.slicePlaces ((n : Int) - 1) (-1) (-1) = n := by
  unfold Builtin.Slice.slicePlaces
  have h1 : ¬ ((-1 : Int) > 0) := by omega
  simp only [h1, if_false]
  by_cases h : (n : Int) - 1 > -1
  · simp only [h, if_true]
    have e : ((n : Int) - 1 - -1 - 1) / (- -1) = (n : Int) - 1 := by
      rw [show (- -1 : Int) = 1 by decide, Int.ediv_one]; omega
    rw [e]
    omega
  · simp only [h, if_false]; omega
theorem pick_rev (xs : Array Value) : ((List.range xs.size).filterMap fun (k : Nat) => xs[((xs.size : Int) - 1 + (k : Int) * (-1)).toNat]?).toArray = xs.toList.reverse.toArray := by
  rw [← PySem.W.krv_pick]
  unfold slicePick
  rw [PySem.W.krv_bounds]
  show _ = ((sliceRange ((xs.size : Int) - 1) (-1) (-1)).filterMap (xs[·]?)).toArray
  rw [PySem.W.krv_sliceRange, List.filterMap_map]
  congr 1
  have cg : ∀ (l : List Nat) (f g : Nat → Option Value), (∀ k, k ∈ l → f k = g k) → l.filterMap f = l.filterMap g := by
    intro l f g hh
    induction l with
    | nil => rfl
    | cons x l ih => rw [List.filterMap_cons, List.filterMap_cons, hh x (List.mem_cons_self ..), ih fun k hk => hh k (List.mem_cons_of_mem _ hk)]
  apply cg
  intro k hk
  have hk := List.mem_range.mp hk
  show _ = xs[xs.size - 1 - k]?
  congr 1
  omega
theorem getItem_tuple_rev {t sl : Addr} {items : Array Value} {vl vu vs : Value} {Q : Value → Shared → Prop} (ht : IsTup s.heap t items) (hs : s.heap.IsSliceOf sl vl vu vs) (pl : IsPart vl none) (pu : IsPart vu none) (ps : IsPart vs (some (-1)))
    (h : Q (.ref s.heap.objs.size) { s with heap := s.heap.push { cls := .type "tuple", data := .seq items.toList.reverse.toArray } })
    (hsz : items.size ≤ sizeLine) : wpAny (model prog w) A (getItem (.ref t) (.ref sl)) Q E s := by
  have htake : sizeOk (.seq items.toList.reverse.toArray) := by
    show items.toList.reverse.toArray.size ≤ sizeLine
    rw [List.size_toArray, List.length_reverse, Array.length_toList]
    exact hsz
  obtain ⟨os, hos, hcs, hds⟩ := id hs
  have hTs : s.TypeIs (.ref sl) "slice" := ⟨os, hos, hcs⟩
  unfold getItem
  try with_reducible refine wpAny_holding ?_
  first | refine wpAny_bind (wpAny_pure ?_) | skip
  refine wpAny_bind (wpAny_sequenceKey ht.typeIs (by decide) ?_)
  refine wpAny_bind (wpAny_callSpecial?_slot (name := Str.ofString "__getitem__") ht.typeIs PyProof.Rows.slot_tuple_getitem
    (wpAny_call_entry PyProof.Rows.slot_tuple_getitem ht.typeIs entry_tuple_getitem ?_ (args_tuple_getitem _ _)))
  show wpAny _ _ (Builtin.Tuple.tupleItemsOf (.ref t) >>= _) _ _ s
  refine wpAny_bind (tupleItemsOf_ ht ?_)
  refine wpAny_bind (wpAny_typeOf hTs ?_)
  rw [if_pos (by decide)]
  refine wpAny_bind ?_
  · unfold Builtin.Slice.sliceApplied Builtin.Slice.sliceFields
    refine wpAny_bind (wpAny_bind (wpAny_field hos hds (x := vl) rfl (wpAny_bind (wpAny_field hos hds (x := vu) rfl (wpAny_bind (wpAny_field hos hds (x := vs) rfl (wpAny_pure ?_)))))))
    refine wpAny_bind (slicePartM ps ?_)
    show wpAny _ _ (if ((-1 : Int) == 0) = true then _ else _) _ _ s
    rw [if_neg (by decide)]
    refine wpAny_bind (slicePartM pl (wpAny_bind (slicePartM pu (wpAny_bind (wpAny_pure ?_)))))
    show wpAny _ _ (match Builtin.Slice.sliceAdjust none none (-1) (items.size : Int) with | (lo, hi) => pure (lo, (-1 : Int), Builtin.Slice.slicePlaces lo hi (-1))) _ _ s
    rw [adjust_rev]
    show wpAny _ _ (pure ((items.size : Int) - 1, (-1 : Int), Builtin.Slice.slicePlaces ((items.size : Int) - 1) (-1) (-1))) _ _ s
    rw [places_rev]
    refine wpAny_pure ?_
    have hno : ¬ ((((items.size : Int) - 1) == 0 && (-1 : Int) == 1 && items.size == items.size) = true) := by
      intro q
      rw [Bool.and_eq_true, Bool.and_eq_true] at q
      exact absurd q.1.2 (by decide)
    show wpAny _ _ (if (((items.size : Int) - 1) == 0 && (-1 : Int) == 1 && items.size == items.size) = true then _ else _) _ _ s
    rw [if_neg hno, pick_rev]
    first
      | exact wpAny_bind (m := Builtin.Tuple.tupleExact _) (wpAny_newObj_type (wpAny_pure ⟨_, rfl, wpAny_pure h⟩) htake)
      | exact wpAny_bind (m := Builtin.Tuple.tupleExact _) (wpAny_newObj_type (wpAny_bind (wpAny_pure (wpAny_pure ⟨_, rfl, wpAny_pure h⟩))) htake)
      | exact wpAny_bind (wpAny_bind (m := Builtin.Tuple.tupleExact _) (wpAny_newObj_type (wpAny_pure (wpAny_pure ⟨_, rfl, wpAny_pure h⟩)) htake))
      | exact wpAny_bind (wpAny_bind (m := Builtin.Tuple.tupleExact _) (wpAny_newObj_type (wpAny_pure ⟨_, rfl, wpAny_pure h⟩) htake))
end
open L2
def tRevU (K : PySem.W.Frag) (te : TE) : TE := fun σ H Q => te σ H fun x H1 => ∃ a xs, x = .ref a ∧ ((SqL K H1 a xs ∧ ∀ p, H1 p = none → Q (.ref p) (upd H1 p (.lst xs.reverse))) ∨ (SqT K H1 a xs ∧ ∀ p, H1 p = none → Q (.ref p) (upd H1 p (.tup xs.reverse))))
theorem pe_revU {X : Cx} {te : TE} {e : Expr} {k : Nat} {p1 p2 p3 pos : Pos} (he : PE X e te) : PE X (.Subscript e (.Slice none none (some (.UnaryOp .USub (.Constant (.int 1) k p1) p2)) p3) pos) (tRevU X.K te) := by
  refine ⟨fun pins s σ H Q I h => ?_⟩
  refine Subscript_ (thn (he.run pins s σ H _ I h) fun v s1 ⟨x, H1, I1, r1, q1⟩ => ?_)
  obtain ⟨a, xs, ex, q1⟩ := q1
  subst ex
  cases r1
  have hst : PO X (some (.UnaryOp .USub (.Constant (.int 1) k p1) p2)) (tPart (tUn (rU fun i => .int (-i)) (tC (.int 1)))) := po_some (pe_un un_neg pe_int)
  refine wpAny_Slice (thn (po_none.run pins s1 σ H1 (fun o H2 => o = none ∧ H2 = H1) I1 ⟨rfl, rfl⟩) fun vl s2 ⟨l, H2, I2, pl, el, e2⟩ => ?_)
  subst el e2
  refine thn (po_none.run pins s2 σ H2 (fun o H3 => o = none ∧ H3 = H2) I2 ⟨rfl, rfl⟩) fun vu s3 ⟨u, H3, I3, pu, eu, e3⟩ => ?_
  subst eu e3
  refine thn (hst.run pins s3 σ H3 (fun o H4 => o = some (-1) ∧ H4 = H3) I3 ⟨1, rfl, -1, rfl, rfl, rfl⟩) fun vs s4 ⟨o, H4, I4, ps, eo, e4⟩ => ?_
  subst eo e4
  have I5 : Inv X pins σ H4 { s4 with heap := s4.heap.push { cls := .type "slice", data := .fields #[vl, vu, vs] } } := I4.kept (t' := s4.toks) fun b ob q => Heap.get?_push_of_some _ q
  show wpAny (model X.prog X.w) X.A (subscriptTail e (.Slice none none (some (.UnaryOp .USub (.Constant (.int 1) k p1) p2)) p3) (.ref a) (.ref s4.heap.objs.size)) (EP X pins σ Q) X.xe { s4 with heap := s4.heap.push { cls := .type "slice", data := .fields #[vl, vu, vs] } }
  rcases q1 with ⟨hx, q⟩ | ⟨hx, q⟩
  · obtain ⟨its, r, ht, hz⟩ := I5.list hx
    have hlen := r.length
    refine tail_any (ops := [.ref a, .ref s4.heap.objs.size]) ht.isList.typeIs (PySem.slot_list_getitem.lookup) ?_ (by with_unfolding_all rfl)
    refine wpAny_getItem_list_slice ht.isList (Heap.IsSliceOf.new _ vl vu vs) pl pu ps (by decide) ?_ (by rw [List.size_toArray]; omega)
    rw [PySem.W.krv_pick]
    refine ⟨.ref _, _, I5.laid (t' := s4.toks) (o := .lst xs.reverse) (fun b ob q => Heap.get?_push_of_some _ q) (Nat.le_refl _) ?_, rfl, q _ (I5.hok.fresh (Nat.le_refl _))⟩
    exact ⟨by rw [List.length_reverse]; exact hz, _, 0, r.reverse, Heap.get?_push_size _ rfl⟩
  · obtain ⟨its, r, ht, hz⟩ := I5.tuple hx
    have hlen : its.toArray.size = xs.length := by rw [List.size_toArray]; exact r.length.symm
    refine tail_any (ops := [.ref a, .ref s4.heap.objs.size]) ht.typeIs PyProof.Rows.slot_tuple_getitem.lookup ?_ (by with_unfolding_all rfl)
    refine getItem_tuple_rev ht (Heap.IsSliceOf.new _ vl vu vs) pl pu ps ?_ (by rw [hlen]; exact hz)
    refine ⟨.ref _, _, I5.laid (t' := s4.toks) (o := .tup xs.reverse) (fun b ob q => Heap.get?_push_of_some _ q) (Nat.le_refl _) ?_, rfl, q _ (I5.hok.fresh (Nat.le_refl _))⟩
    exact ⟨by rw [List.length_reverse]; exact hz, _, r.reverse, IsTup.new _ _⟩
/-- x[::-1] -/
def mRev : D → (O → Prop) → Prop
  | .lst xs, Q => Q (.lst xs.reverse)
  | .tup xs, Q => Q (.d (.tup xs.reverse))
  | .scr ns, Q => Q (.lst (ns.reverse.map D.int))
  | _, _ => False
def wRev (m : WE) : WE := fun ρ Q E => m ρ (fun o ρ1 => cold o fun x => mRev x fun r => Q r ρ1) E
theorem se_rev {G : Gs} {W : WX} {te : TE} {m : WE} (h1 : SE G W te m) : SE G W (tRevU G.K te) (wRev m) := by
  intro σ ρ F H T Q Qd Ed S h kq ke
  refine h1 σ ρ F H T _ _ Ed S h (fun o ρ1 x F1 H1 hq e S1 => ?_) ke
  obtain ⟨no, hq⟩ := hq
  obtain ⟨F2, e2, S2⟩ := S1.freeze no.ne
  have r := S2.headD
  generalize fz o = y at r hq
  cases r with
  | lst h1 r => exact ⟨_, _, rfl, .inl ⟨SqL.of (S2.ex _ _ h1), fun q hn => kq _ _ _ _ _ hq (e.trans e2) (S2.drop.newL hn r.reverse)⟩⟩
  | tup h1 r =>
    refine ⟨_, _, rfl, .inr ⟨S2.ex.st h1, fun q hn => ?_⟩⟩
    have z := S2.drop.newT hn r.reverse
    exact kq _ _ _ _ _ hq (e.trans (e2.trans z.1)) z.2
  | scr h1 =>
    refine ⟨_, _, rfl, .inl ⟨S2.ex.sl h1, fun q hn => kq _ _ _ _ _ hq (e.trans e2) (S2.drop.newL hn ?_)⟩⟩
    rw [← List.map_reverse]
    exact RepDs.ofInts _
  | _ => exact hq.elim
end Pv

set_option Elab.async false
set_option maxRecDepth 100000
set_option maxHeartbeats 4000000
set_option autoImplicit false
set_option linter.unusedVariables false

namespace Pv
open PySem PySem.Spec PyProof.Rows L2
/-! ### lists and tuples walked alike -/
def SqB (K : PySem.W.Frag) (b : Bool) (H : Hp) (a : Addr) (xs : List V) : Prop := match b with | false => SqL K H a xs | true => SqT K H a xs
def IterB (b : Bool) (h : Heap) (it a : Addr) (i : Nat) : Prop := match b with | false => h.IsListIter it a i | true => h.IsTupleIter it a i
def IsSeqB (b : Bool) (h : Heap) (a : Addr) (items : Array Value) : Prop := match b with | false => h.IsList a items | true => h.IsTuple a items
theorem IterB.at {b : Bool} {h h' : Heap} {it a : Addr} {i : Nat} (x : IterB b h it a i) (k : ∀ o, h.get? it = some o → h'.get? it = some o) : IterB b h' it a i := by
  cases b with
  | false => exact Heap.IsListIter.at x k
  | true => exact Heap.IsTupleIter.at x k
theorem IterB.obj {b : Bool} {h : Heap} {it a : Addr} {i : Nat} (x : IterB b h it a i) : ∃ o, h.get? it = some o ∧ ∀ v, o.data ≠ .cell v := by
  cases b with
  | false => obtain ⟨o, e, c, d⟩ := x; exact ⟨o, e, fun v z => by rw [d] at z; cases z⟩
  | true => obtain ⟨o, e, c, d⟩ := x; exact ⟨o, e, fun v z => by rw [d] at z; cases z⟩
theorem IterB.lt {b : Bool} {h : Heap} {it a : Addr} {i : Nat} (x : IterB b h it a i) : it < h.objs.size := by
  obtain ⟨o, e, _⟩ := x.obj; exact Heap.lt_size e
def itObjB (b : Bool) (a : Addr) : Obj := match b with
  | false => { cls := .type "list_iterator", data := .fields #[.ref a, .int 0 0] }
  | true => { cls := .type "tuple_iterator", data := .fields #[.ref a, .int 0 0] }
theorem begins_B (b : Bool) (a : Addr) (items : Array Value) : Begins (.ref a) (itObjB b a) fun h => IsSeqB b h a items := by
  cases b with
  | false => exact begins_list a items
  | true => exact begins_tuple a items
theorem iterB_of {b : Bool} {h : Heap} {it a : Addr} (e : h.get? it = some (itObjB b a)) : IterB b h it a 0 := by
  cases b with
  | false => exact ⟨_, e, rfl, rfl⟩
  | true => exact ⟨_, e, rfl, rfl⟩
theorem draws_B {prog : Program} {w : World} {A : Around} (hh : A.handled = none) (b : Bool) (it a : Addr) (hne : a ≠ it) (items : Array Value) :
    Draws prog w A it [it, a] items.size (fun i v => items[i]? = some v) (fun i h => IterB b h it a i ∧ IsSeqB b h a items) := by
  cases b with
  | false => exact Draws.list hh it a hne items
  | true => exact Draws.tuple hh it a hne items
section
variable {X : Cx} {pins : List (Addr × Obj)} {σ : L2.St} {H : Hp} {s : Shared}
theorem inv_seqB (I : Inv X pins σ H s) {b : Bool} {a : Addr} {xs : List V} (h : SqB X.K b H a xs) : ∃ its, Vals xs its ∧ IsSeqB b s.heap a its.toArray ∧ a < s.heap.objs.size := by
  cases b with
  | false => obtain ⟨its, r, p, hz⟩ := I.list h; exact ⟨its, r, p.isList, p.lt⟩
  | true => obtain ⟨its, r, p, hz⟩ := I.tuple h; obtain ⟨o, ho, _⟩ := id p; exact ⟨its, r, p, Heap.lt_size ho⟩
theorem inv_seqB_inj (I : Inv X pins σ H s) {b : Bool} {a : Addr} {xs ys : List V} (h : SqB X.K b H a xs) (h' : SqB X.K b H a ys) : xs = ys := by
  cases b with
  | false => exact I.list_inj h h'
  | true => exact I.tuple_inj h h'
end
theorem isSeqB_ne_iter {b c : Bool} {h : Heap} {a it a' : Addr} {i : Nat} {items : Array Value} (x : IsSeqB b h a items) (y : IterB c h it a' i) : a ≠ it := by
  rintro rfl
  cases b with
  | false =>
    obtain ⟨o, e, k, n, d⟩ := x
    cases c with
    | false => obtain ⟨o', e', k', d'⟩ := y; rw [e] at e'; cases e'; rw [d] at d'; cases d'
    | true => obtain ⟨o', e', k', d'⟩ := y; rw [e] at e'; cases e'; rw [d] at d'; cases d'
  | true =>
    obtain ⟨o, e, k, n, d⟩ := x
    cases c with
    | false => obtain ⟨o', e', k', d'⟩ := y; rw [e] at e'; cases e'; rw [d] at d'; cases d'
    | true => obtain ⟨o', e', k', d'⟩ := y; rw [e] at e'; cases e'; rw [d] at d'; cases d'

/-! ### for x in a list or a tuple -/
def ItB (K : PySem.W.Frag) (b : Bool) (a : Addr) : It := match b with | false => Itl K a | true => Itt K a
def iSeq (K : PySem.W.Frag) (tl : TE) : TI := fun σ H R => tl σ H fun x H1 => ∃ b a, x = .ref a ∧ (∃ xs, SqB K b H1 a xs) ∧ R (ItB K b a) H1
theorem pi_seq {X : Cx} {tg l : Expr} {tl : TE} (hl : PE X l tl) : PI X tg l (iSeq X.K tl) := by
  refine ⟨fun pins s σ H R I h => ?_⟩
  refine thn (hl.run pins s σ H _ I h) fun v s1 ⟨x, H1, I1, r1, q1⟩ => ?_
  obtain ⟨b, a, e, ⟨xs, hq⟩, q⟩ := q1
  subst e
  cases r1
  cases b with
  | false =>
    obtain ⟨its, rv, p, hz⟩ := I1.list hq
    refine wpAny_pyIter_list p.isList ?_
    refine ⟨s1.heap.objs.size, [s1.heap.objs.size], _, _, H1, rfl, I1.kept (t' := s1.toks) fun b o e => Heap.get?_push_of_some _ e, turn_list a _, ⟨_, Heap.get?_push_size _ rfl, rfl, rfl⟩, fun b hb => ?_, q⟩
    have e : b = s1.heap.objs.size := by simpa using hb
    subst e
    exact I1.fpOk (Nat.le_refl _) (I1.hok.fresh (Nat.le_refl _))
  | true =>
    obtain ⟨its, rv, p, hz⟩ := I1.tuple hq
    refine wpAny_pyIter_tuple (show s1.heap.IsTuple a its.toArray from p) ?_
    refine ⟨s1.heap.objs.size, [s1.heap.objs.size], _, _, H1, rfl, I1.kept (t' := s1.toks) fun b o e => Heap.get?_push_of_some _ e, turn_tuple a _, ⟨_, Heap.get?_push_size _ rfl, rfl, rfl⟩, fun b hb => ?_, q⟩
    have e : b = s1.heap.objs.size := by simpa using hb
    subst e
    exact I1.fpOk (Nat.le_refl _) (I1.hok.fresh (Nat.le_refl _))

/-! ### enumerate -/
def ItE (K : PySem.W.Frag) (b : Bool) (a : Addr) : It :=
  ⟨fun i H => ∃ (xs : List V) (x : V), SqB K b H a xs ∧ xs[i]? = some x, fun i H v H' => ∃ T x, v = .ref T ∧ H T = none ∧ H' = upd H T (.tup [.int (i : Nat), x]) ∧ ∀ xs, SqB K b H a xs → xs[i]? = some x, fun i H => ∃ xs : List V, SqB K b H a xs ∧ xs.length = i⟩
theorem turn_enumB {P : Program} {w : World} {K : PySem.W.Frag} {elts : List Expr} {kk : Nat} {tpos : Pos} (b : Bool) (a e it : Addr) :
    Turn P w K (.Tuple elts kk tpos) (ItE K b a) [e, it] e (fun i h => (∃ old, IsEnum h e it ((i : Nat) : Int) old) ∧ IterB b h it a i ∧ e ≠ it) where
  mem := by simp
  obj := fun i h st c hb => by
    obtain ⟨⟨old, he⟩, hi, _⟩ := st
    have e' : c = e ∨ c = it := by simpa using hb
    rcases e' with z | z
    · rw [z]; exact ⟨_, he, fun v q => nomatch q⟩
    · rw [z]; exact hi.obj
  keep := fun i h h' st k => let ⟨⟨old, he⟩, hi, hne⟩ := st; ⟨⟨old, k e (by simp) _ he⟩, hi.at fun o q => k it (by simp) o q, hne⟩
  item := by
    intro X hP hw hK hc i pins s σ H E I hf st hg
    subst hP hw hK
    obtain ⟨⟨old, he⟩, hit, hne⟩ := st
    obtain ⟨xs, x, hq, hx⟩ := hg
    obtain ⟨its, rv, p, hz⟩ := inv_seqB I hq
    obtain ⟨u, hu, ru⟩ := rv.get hx
    have hel : e < s.heap.objs.size := Heap.lt_size he
    have hil : it < s.heap.objs.size := hit.lt
    have hna : a ≠ it := isSeqB_ne_iter p hit
    have hlt : i < its.toArray.size := by rw [List.size_toArray]; exact (List.getElem?_eq_some_iff.mp hu).1
    have hae : e ∉ [it, a] := by
      intro hm
      have hm' : e = it ∨ e = a := by simpa using hm
      rcases hm' with z | z
      · exact hne z
      · subst z
        cases b with
        | false => obtain ⟨o, q, _, n, d⟩ := p; rw [he] at q; cases q; cases d
        | true => obtain ⟨o, q, _, n, d⟩ := p; rw [he] at q; cases q; cases d
    refine wpAny_pyNext_enum_itemD (draws_B (A := X.A.in1) (I.ok.hd hc) b it a hna its.toArray) he ⟨hit, p⟩ hlt hne hae fun y h' tk hy ho hs' hT hsz hk => ?_
    have ey : y = u := by
      have hy : its.toArray[i]? = some y := hy
      have hu' : its.toArray[i]? = some u := by simpa using hu
      rw [hu'] at hy; exact (Option.some.inj hy).symm
    subst ey
    refine ⟨_, rfl, wpAny_letOwnedTupleGo_enum (s := { s with heap := h', toks := tk + 1 }) ho fun h'' he' sb => ?_⟩
    have hT2 : h''.get? s.heap.objs.size = some { cls := .type "tuple", data := .seq #[.int i tk, y] } := (sb.2 _ (Nat.ne_of_gt hel)).trans hT
    have new : ObjOk X.prog X.w (upd H s.heap.objs.size (.tup [.int (i : Nat), x])) h'' s.heap.objs.size (.tup [.int (i : Nat), x]) :=
      ⟨by show 2 ≤ sizeLine; decide, [.int i tk, y], .cons ⟨_, rfl⟩ (.cons ru .nil), ⟨_, hT2, rfl, _, rfl⟩⟩
    have I1 : Inv X pins σ (upd H s.heap.objs.size (.tup [.int (i : Nat), x])) { s with heap := h'', toks := tk + 1 } :=
      I.turnedNew (ch := [e, it]) (fun b ob hb q => (sb.2 b (fun z => hb (by simp [z]))).trans (hk b ob (fun z => hb (by simp [z])) (fun z => hb (by simp [z])) q)) hf (Nat.le_refl _) new
    refine ⟨.ref s.heap.objs.size, _, I1, rfl, ⟨_, x, rfl, I.hok.fresh (Nat.le_refl _), rfl, fun ys hy => by rw [inv_seqB_inj I hy hq]; exact hx⟩, ⟨⟨y, ?_⟩, hs'.1.at fun o q => (sb.2 it (Ne.symm hne)).trans q, hne⟩, fun b hb => ?_⟩
    · have e1 : ((i + 1 : Nat) : Int) = (i : Int) + 1 := by omega
      rw [e1]; exact he'
    · have hb' : b < s.heap.objs.size := by
        have e' : b = e ∨ b = it := by simpa using hb
        rcases e' with z | z
        · rw [z]; exact hel
        · rw [z]; exact hil
      rw [upd_ne (Nat.ne_of_lt hb')]
      exact (hf b hb).1
  done := by
    intro X hP hw hK hc i pins s σ H E I hf st hg
    subst hP hw hK
    obtain ⟨⟨old, he⟩, hit, hne⟩ := st
    obtain ⟨xs, hq, hx⟩ := hg
    obtain ⟨its, rv, p, hz⟩ := inv_seqB I hq
    obtain ⟨f0, f1, f2, f3, f4, f5⟩ := hf it (by simp)
    have hl := rv.length
    have hna : a ≠ it := isSeqB_ne_iter p hit
    have hi : i = its.toArray.size := by rw [List.size_toArray]; omega
    subst hi
    exact wpAny_pyNext_enum_endD (draws_B (A := X.A.in1) (I.ok.hd hc) b it a hna its.toArray) he ⟨hit, p⟩ fun h' eb => ⟨rfl, I.turned (t' := s.toks) (fun b o hb q => eb b o hb q) f0 f1 f3 f4 f5⟩
  self := fun A i s Q E st h => let ⟨⟨_, he⟩, _⟩ := st; wpAny_pyIter_enum he h
set_option maxHeartbeats 1000000 in
theorem meets_enumerate_new1 {v : Value} {o : Obj} {H : Heap → Prop} (B : Begins v o H) :
    Meets (Builtin.«enumerate.__new__» ⟨[.type "enumerate", v], []⟩) (fun _ R s => H s.heap ∧
      R (.ok (.ret (.ref (s.heap.push o).objs.size))) { s with heap := (s.heap.push o).push { cls := .type "enumerate", data := .fields #[.none, .bool false, .ref s.heap.objs.size, rawInt 0, .none, .none] } }) :=
  .of_wp fun prog w A R s h => by
    obtain ⟨hp, g, d, tk, os⟩ := s; obtain ⟨h1, h⟩ := h
    have hsub := sub_enumerate
    have q1 : ∀ {A' : Around} {E : Value → Shared → Prop} {Q : Value → Shared → Prop}, Q (.ref hp.objs.size) ⟨hp.push o, g, d, tk, os⟩ → wpAny (model prog w) A' (pyIter v) Q E ⟨hp, g, d, tk, os⟩ :=
      fun q => B.iter prog w _ _ ⟨hp, g, d, tk, os⟩ _ h1 q
    wp_walk using q1
    refine wpAny_stack_any fun st => wpAny_pure ?_
    split
    · rename_i c _ _ _ _ _
      cases (c == Value.type "enumerate")
      · wp_walk using q1
        exact ⟨_, rfl, h⟩
      · wp_walk using q1
        exact ⟨_, rfl, h⟩
    · wp_walk using q1
      exact ⟨_, rfl, h⟩
section
variable {prog : Program} {w : World} {A : Around} {E : Value → Shared → Prop} {s : Shared}
theorem enum_begins1 {v : Value} {o : Obj} {H : Heap → Prop} {Q : Value → Shared → Prop} (B : Begins v o H) (h1 : H s.heap)
    (h : ∀ h', IsEnum h' (s.heap.objs.size + 1) s.heap.objs.size 0 .none → h'.get? s.heap.objs.size = some o → h'.objs.size = s.heap.objs.size + 2 →
      (∀ b o, s.heap.get? b = some o → h'.get? b = some o) → Q (.ref (s.heap.objs.size + 1)) { s with heap := h' }) :
    wpAny (model prog w) A (call (.type "enumerate") [v]) Q E s := by
  refine callType_new F.called_enumerate (by decide) (F.typeCall_enumerate_1 _) (F.newCall_enumerate_1 _) (fun obj => F.args_object_init_2 obj _) F.entry_enumerate_new
    (meets_enumerate_new1 B) ⟨h1, ?_⟩
  have hz : (s.heap.push o).objs.size = s.heap.objs.size + 1 := Heap.size_push ..
  show _ ∧ _
  rw [hz]
  have he : IsEnum ((s.heap.push o).push { cls := .type "enumerate", data := .fields #[.none, .bool false, .ref s.heap.objs.size, rawInt 0, .none, .none] }) (s.heap.objs.size + 1) s.heap.objs.size 0 .none := by
    have := Heap.get?_push_size (s.heap.push o) (o := { cls := .type "enumerate", data := .fields #[.none, .bool false, .ref s.heap.objs.size, rawInt 0, .none, .none] }) rfl
    rw [hz] at this; exact this
  refine ⟨⟨_, he, rfl⟩, h _ he (Heap.get?_push_of_some _ (Heap.get?_push_size _ B.free)) (by rw [Heap.size_push, hz]) fun b o x => Heap.get?_push_of_some _ (Heap.get?_push_of_some _ x)⟩
end
def iEnumU (K : PySem.W.Frag) (ta : TA) : TI := fun σ H R => ta σ H fun vs H1 => ∃ b a xs, vs = [.ref a] ∧ SqB K b H1 a xs ∧ R (ItE K b a) H1
theorem pi_enumU {X : Cx} {e : Expr} {ta : TA} {p pos tpos : Pos} {elts : List Expr} {kk : Nat} (hg : Gl X "enumerate") (hm : X.mg "enumerate" = none) (ha : PA X [e] ta) (hs : starEach [e] X.env = [(false, eval e X.env)]) :
    PI X (.Tuple elts kk tpos) (.Call (.Name "enumerate" p) [e] [] pos) (iEnumU X.K ta) := by
  refine ⟨fun pins s σ H R I h => ?_⟩
  refine Call_ (ld_blt I hg hm boot_enumerate (PyProof.Rows.callWith_type1 (thn (ha.run pos pins s σ H _ I h) fun us s1 ⟨vs, H1, I1, r1, q1⟩ => ?_) hs rfl))
  obtain ⟨b, a, xs, ex, hq, q⟩ := q1
  subst ex
  cases r1 with
  | cons r rr =>
    cases rr
    cases r
    obtain ⟨its, rv, p', hz⟩ := inv_seqB I1 hq
    refine enum_begins1 (begins_B b a its.toArray) p' fun h' he hit hsz hk => wpAny_pyIter_enum he ?_
    have I2 : Inv X pins σ H1 { s1 with heap := h' } := I1.kept (t' := s1.toks) hk
    refine ⟨s1.heap.objs.size + 1, [s1.heap.objs.size + 1, s1.heap.objs.size], _, _, H1, rfl, I2, turn_enumB b a (s1.heap.objs.size + 1) s1.heap.objs.size, ⟨⟨.none, he⟩, iterB_of hit, Nat.succ_ne_self _⟩, fun b hb => ?_, q⟩
    have e' : b = s1.heap.objs.size + 1 ∨ b = s1.heap.objs.size := by simpa using hb
    have hle : s1.heap.objs.size ≤ b := by
      rcases e' with z | z
      · rw [z]; exact Nat.le_add_right _ _
      · rw [z]; exact Nat.le_refl _
    exact I1.fpOk hle (I1.hok.fresh hle)

/-! ### zip of two -/
def ItZ (K : PySem.W.Frag) (b c : Bool) (a a2 : Addr) : It :=
  ⟨fun i H => ∃ (xs ys : List V) (x y : V), SqB K b H a xs ∧ SqB K c H a2 ys ∧ xs[i]? = some x ∧ ys[i]? = some y,
    fun i H v H' => ∃ T x y, v = .ref T ∧ H T = none ∧ H' = upd H T (.tup [x, y]) ∧ (∀ xs, SqB K b H a xs → xs[i]? = some x) ∧ ∀ ys, SqB K c H a2 ys → ys[i]? = some y,
    fun i H => ∃ xs ys : List V, SqB K b H a xs ∧ SqB K c H a2 ys ∧ i ≤ xs.length ∧ i ≤ ys.length ∧ (i = xs.length ∨ i = ys.length)⟩
structure ZApart (z TI TO i1 i2 : Addr) : Prop where
  TIz : TI ≠ z
  TOz : TO ≠ z
  TITO : TI ≠ TO
  TIi1 : TI ≠ i1
  TIi2 : TI ≠ i2
  zi1 : z ≠ i1
  zi2 : z ≠ i2
  Ti1 : TO ≠ i1
  Ti2 : TO ≠ i2
  i12 : i1 ≠ i2
theorem seqB_ne_obj {b : Bool} {h : Heap} {a z : Addr} {items : Array Value} (x : IsSeqB b h a items) {o : Obj} (e : h.get? z = some o) (hd : ∀ xs n, o.data ≠ .seq xs n) : z ≠ a := by
  rintro rfl
  cases b with
  | false => obtain ⟨o', q, _, n, d⟩ := x; rw [e] at q; cases q; exact hd _ _ d
  | true => obtain ⟨o', q, _, n, d⟩ := x; rw [e] at q; cases q; exact hd _ _ d
theorem turn_zipB {P : Program} {w : World} {K : PySem.W.Frag} {elts : List Expr} {kk : Nat} {tpos : Pos} (b c : Bool) {a a2 z TI TO i1 i2 : Addr} (D : ZApart z TI TO i1 i2) (TIa : TI ≠ a) (TOa : TO ≠ a) (TIa2 : TI ≠ a2) (TOa2 : TO ≠ a2) :
    Turn P w K (.Tuple elts kk tpos) (ItZ K b c a a2) [z, TI, TO, i1, i2] z (fun i h => IsZip h z TI TO .none ∧ IsTupOf2 h TI (.ref i1) (.ref i2) ∧ (∃ x y, IsTupOf2 h TO x y) ∧ IterB b h i1 a i ∧ IterB c h i2 a2 i) where
  mem := by simp
  obj := fun i h st d hc => by
    obtain ⟨hz, hTI, ⟨x, y, hTO⟩, h1, h2⟩ := st
    have e' : d = z ∨ d = TI ∨ d = TO ∨ d = i1 ∨ d = i2 := by simpa using hc
    rcases e' with q | q | q | q | q
    · rw [q]; exact ⟨_, hz, fun v q => nomatch q⟩
    · rw [q]; exact ⟨_, hTI, fun v q => nomatch q⟩
    · rw [q]; exact ⟨_, hTO, fun v q => nomatch q⟩
    · rw [q]; exact h1.obj
    · rw [q]; exact h2.obj
  keep := fun i h h' st k => by
    obtain ⟨hz, hTI, ⟨x, y, hTO⟩, h1, h2⟩ := st
    exact ⟨k z (by simp) _ hz, k TI (by simp) _ hTI, ⟨x, y, k TO (by simp) _ hTO⟩, h1.at fun o q => k i1 (by simp) o q, h2.at fun o q => k i2 (by simp) o q⟩
  item := by
    intro X hP hw hK hc i pins s σ H E I hf st hg
    subst hP hw hK
    obtain ⟨hz, hTI, ⟨x0, y0, hTO⟩, h1, h2⟩ := st
    obtain ⟨xs, ys, x, y, hqx, hqy, hx, hy⟩ := hg
    obtain ⟨its, rv, p, _⟩ := inv_seqB I hqx
    obtain ⟨its2, rv2, p2, _⟩ := inv_seqB I hqy
    obtain ⟨u, hu, ru⟩ := rv.get hx
    obtain ⟨u2, hu2, ru2⟩ := rv2.get hy
    have hzl : z < s.heap.objs.size := Heap.lt_size hz
    have hlt : i < its.toArray.size := by rw [List.size_toArray]; exact (List.getElem?_eq_some_iff.mp hu).1
    have hlt2 : i < its2.toArray.size := by rw [List.size_toArray]; exact (List.getElem?_eq_some_iff.mp hu2).1
    have za : z ≠ a := seqB_ne_obj p hz (by intro _ _ q; cases q)
    have za2 : z ≠ a2 := seqB_ne_obj p2 hz (by intro _ _ q; cases q)
    have a1 : a ≠ i1 := isSeqB_ne_iter p h1
    have a1' : a ≠ i2 := isSeqB_ne_iter p h2
    have a2' : a2 ≠ i2 := isSeqB_ne_iter p2 h2
    have a21 : a2 ≠ i1 := isSeqB_ne_iter p2 h1
    have S : ZipSep2 z TI TO i1 i2 [i1, a] [i2, a2] :=
      { TIz := D.TIz, TOz := D.TOz, TITO := D.TITO, TIi1 := D.TIi1, mem1 := by simp, zf1 := by simp [D.zi1, za], Tf1 := by simp [D.Ti1, TOa],
        TIi2 := D.TIi2, mem2 := by simp, zf2 := by simp [D.zi2, za2], Tf2 := by simp [D.Ti2, TOa2],
        sep1_2 := by simp [D.i12, a21.symm], sep2_1 := by simp [D.i12.symm, a1'.symm] }
    refine wpAny_pyNext_zipD2_item S (draws_B (A := X.A.in1) (I.ok.hd hc) b i1 a a1 its.toArray) (draws_B (A := X.A.in1) (I.ok.hd hc) c i2 a2 a2' its2.toArray) hz hTI hTO ⟨h1, p⟩ ⟨h2, p2⟩ hlt hlt2 fun x1 x2 h' tk hx1 hx2 z' TO' h1' h2' hT hsz hk => ?_
    have ex1 : x1 = u := by
      have q1 : its.toArray[i]? = some x1 := hx1
      have q2 : its.toArray[i]? = some u := by simpa using hu
      rw [q2] at q1; exact (Option.some.inj q1).symm
    have ex2 : x2 = u2 := by
      have q1 : its2.toArray[i]? = some x2 := hx2
      have q2 : its2.toArray[i]? = some u2 := by simpa using hu2
      rw [q2] at q1; exact (Option.some.inj q1).symm
    subst ex1 ex2
    refine ⟨_, rfl, wpAny_letOwnedTupleGo_zip (s := { s with heap := h', toks := tk }) z' fun h'' z'' sb => ?_⟩
    have hT2 : h''.get? s.heap.objs.size = some { cls := .type "tuple", data := .seq #[x1, x2] } := (sb.2 _ (Nat.ne_of_gt hzl)).trans hT
    have new : ObjOk X.prog X.w (upd H s.heap.objs.size (.tup [x, y])) h'' s.heap.objs.size (.tup [x, y]) :=
      ⟨by show 2 ≤ sizeLine; decide, [x1, x2], .cons ru (.cons ru2 .nil), ⟨_, hT2, rfl, _, rfl⟩⟩
    have I1 : Inv X pins σ (upd H s.heap.objs.size (.tup [x, y])) { s with heap := h'', toks := tk } :=
      I.turnedNew (ch := [z, TI, TO, i1, i2]) (fun c o hb q => (sb.2 c (fun q' => hb (by simp [q']))).trans (hk c o (fun q' => hb (by simp [q'])) (fun q' => hb (by simp [q'])) (fun q' => hb (by simp [q'])) (fun q' => hb (by simp [q'])) q)) hf (Nat.le_refl _) new
    refine ⟨.ref s.heap.objs.size, _, I1, rfl, ⟨_, x, y, rfl, I.hok.fresh (Nat.le_refl _), rfl, fun l hl => by rw [inv_seqB_inj I hl hqx]; exact hx, fun l hl => by rw [inv_seqB_inj I hl hqy]; exact hy⟩, ⟨z'', ?_, ⟨x1, x2, ?_⟩, ?_, ?_⟩, fun c hcm => ?_⟩
    · exact (sb.2 _ D.TIz).trans (hk _ _ D.TIz D.TITO D.TIi1 D.TIi2 hTI)
    · exact (sb.2 _ D.TOz).trans TO'
    · exact h1'.1.at fun o q => (sb.2 _ D.zi1.symm).trans q
    · exact h2'.1.at fun o q => (sb.2 _ D.zi2.symm).trans q
    · have hlt : c < s.heap.objs.size := by
        have e' : c = z ∨ c = TI ∨ c = TO ∨ c = i1 ∨ c = i2 := by simpa using hcm
        rcases e' with q | q | q | q | q
        · rw [q]; exact hzl
        · rw [q]; exact Heap.lt_size hTI
        · rw [q]; exact Heap.lt_size hTO
        · rw [q]; exact h1.lt
        · rw [q]; exact h2.lt
      rw [upd_ne (Nat.ne_of_lt hlt)]
      exact (hf c hcm).1
  done := by
    intro X hP hw hK hc i pins s σ H E I hf st hg
    subst hP hw hK
    obtain ⟨hz, hTI, ⟨x0, y0, hTO⟩, h1, h2⟩ := st
    obtain ⟨xs, ys, hqx, hqy, l1, l2, hend⟩ := hg
    obtain ⟨its, rv, p, _⟩ := inv_seqB I hqx
    obtain ⟨its2, rv2, p2, _⟩ := inv_seqB I hqy
    have e1 : its.toArray.size = xs.length := by rw [List.size_toArray]; exact rv.length.symm
    have e2 : its2.toArray.size = ys.length := by rw [List.size_toArray]; exact rv2.length.symm
    have za : z ≠ a := seqB_ne_obj p hz (by intro _ _ q; cases q)
    have za2 : z ≠ a2 := seqB_ne_obj p2 hz (by intro _ _ q; cases q)
    have a1 : a ≠ i1 := isSeqB_ne_iter p h1
    have a1' : a ≠ i2 := isSeqB_ne_iter p h2
    have a2' : a2 ≠ i2 := isSeqB_ne_iter p2 h2
    have a21 : a2 ≠ i1 := isSeqB_ne_iter p2 h1
    have S : ZipSep2 z TI TO i1 i2 [i1, a] [i2, a2] :=
      { TIz := D.TIz, TOz := D.TOz, TITO := D.TITO, TIi1 := D.TIi1, mem1 := by simp, zf1 := by simp [D.zi1, za], Tf1 := by simp [D.Ti1, TOa],
        TIi2 := D.TIi2, mem2 := by simp, zf2 := by simp [D.zi2, za2], Tf2 := by simp [D.Ti2, TOa2],
        sep1_2 := by simp [D.i12, a21.symm], sep2_1 := by simp [D.i12.symm, a1'.symm] }
    refine wpAny_pyNext_zipD2_end S (draws_B (A := X.A.in1) (I.ok.hd hc) b i1 a a1 its.toArray) (draws_B (A := X.A.in1) (I.ok.hd hc) c i2 a2 a2' its2.toArray) hz hTI hTO ⟨h1, p⟩ ⟨h2, p2⟩ (by omega) (by omega) (by omega) fun h' tk hk => ⟨rfl, I.turnedL (t' := tk) (ch := [z, TI, TO, i1, i2]) (fun c o hb q =>
      hk c o (fun q' => hb (by simp [q'])) (fun q' => hb (by simp [q'])) (fun q' => hb (by simp [q'])) (fun q' => hb (by simp [q'])) q) hf⟩
  self := fun A i s Q E st h => wpAny_pyIter_zip st.1 h
theorem zapart (n : Nat) : ZApart (n + 4) (n + 2) (n + 3) n (n + 1) :=
  ⟨show (n + 2 : Nat) ≠ n + 4 by omega, show (n + 3 : Nat) ≠ n + 4 by omega, show (n + 2 : Nat) ≠ n + 3 by omega, show (n + 2 : Nat) ≠ n by omega, show (n + 2 : Nat) ≠ n + 1 by omega,
    show (n + 4 : Nat) ≠ n by omega, show (n + 4 : Nat) ≠ n + 1 by omega, show (n + 3 : Nat) ≠ n by omega, show (n + 3 : Nat) ≠ n + 1 by omega, show (n : Nat) ≠ n + 1 by omega⟩
theorem ne_past {n a : Nat} (h : a < n) (k : Nat) : n + k ≠ a := by omega
def iZipU (K : PySem.W.Frag) (ta : TA) : TI := fun σ H R => ta σ H fun vs H1 => ∃ b c a a2 xs ys, vs = [.ref a, .ref a2] ∧ SqB K b H1 a xs ∧ SqB K c H1 a2 ys ∧ R (ItZ K b c a a2) H1
theorem pi_zipU {X : Cx} {e e2 : Expr} {ta : TA} {p pos tpos : Pos} {elts : List Expr} {kk : Nat} (hg : Gl X "zip") (hm : X.mg "zip" = none) (ha : PA X [e, e2] ta)
    (hs : starEach [e, e2] X.env = (false, eval e X.env) :: starEach [e2] X.env) (hpl : (backTo pos (starEach [e2] X.env)).any (·.1) = false) :
    PI X (.Tuple elts kk tpos) (.Call (.Name "zip" p) [e, e2] [] pos) (iZipU X.K ta) := by
  refine ⟨fun pins s σ H R I h => ?_⟩
  refine Call_ (ld_blt I hg hm PyProof.Rows.boot_zip (PyProof.Rows.callWith_type1 (thn (ha.run pos pins s σ H _ I h) fun us s1 ⟨vs, H1, I1, r1, q1⟩ => ?_) hs hpl))
  obtain ⟨b, c, a, a2, xs, ys, ex, hqx, hqy, q⟩ := q1
  subst ex
  cases r1 with
  | cons r rr =>
    cases rr with
    | cons r' rr =>
      cases rr
      cases r
      cases r'
      have fresh5 : ∀ c, c ∈ [s1.heap.objs.size + 4, s1.heap.objs.size + 2, s1.heap.objs.size + 3, s1.heap.objs.size, s1.heap.objs.size + 1] → FpOk X pins H1 c := fun c hcm => by
        have e' : c = s1.heap.objs.size + 4 ∨ c = s1.heap.objs.size + 2 ∨ c = s1.heap.objs.size + 3 ∨ c = s1.heap.objs.size ∨ c = s1.heap.objs.size + 1 := by simpa using hcm
        have hle : s1.heap.objs.size ≤ c := by
          rcases e' with z | z | z | z | z
          · rw [z]; exact Nat.le_add_right _ _
          · rw [z]; exact Nat.le_add_right _ _
          · rw [z]; exact Nat.le_add_right _ _
          · rw [z]; exact Nat.le_refl _
          · rw [z]; exact Nat.le_add_right _ _
        exact I1.fpOk hle (I1.hok.fresh hle)
      obtain ⟨its, rv, p1, l1⟩ := inv_seqB I1 hqx
      obtain ⟨its2, rv2, p2, l2⟩ := inv_seqB I1 hqy
      refine zip_begins2 (begins_B b a its.toArray) (begins_B c a2 its2.toArray) p1 p2 fun h' hz hTI hTO h1 h2 hsz hk => wpAny_pyIter_zip hz ?_
      have I2 : Inv X pins σ H1 { s1 with heap := h' } := I1.kept (t' := s1.toks) hk
      refine ⟨s1.heap.objs.size + 4, [s1.heap.objs.size + 4, s1.heap.objs.size + 2, s1.heap.objs.size + 3, s1.heap.objs.size, s1.heap.objs.size + 1], _, _, H1, rfl, I2, turn_zipB b c (a := a) (a2 := a2) (zapart _) (ne_past l1 2) (ne_past l1 3) (ne_past l2 2) (ne_past l2 3), ⟨hz, hTI, ⟨_, _, hTO⟩, iterB_of h1, iterB_of h2⟩, fresh5, q⟩
end Pv

set_option Elab.async false
set_option maxRecDepth 100000
set_option maxHeartbeats 4000000
set_option autoImplicit false
set_option linter.unusedVariables false

namespace Pv
open PySem L2
def seqK (x : D) (k : List D → Prop) : Prop := match x with
  | .lst xs => k xs
  | .tup xs => k xs
  | .scr ns => k (ns.map D.int)
  | _ => False
theorem RepD.seqB {G : Gs} {F : Hp} {v : V} {x : D} {k : List D → Prop} (r : RepD G F v x) (h : seqK x k) : ∃ b a vs xs, v = .ref a ∧ SqB G.K b F a vs ∧ RepDs G F vs xs ∧ k xs := by
  cases r with
  | lst h1 r => exact ⟨false, _, _, _, rfl, SqL.of h1, r, h⟩
  | tup h1 r => exact ⟨true, _, _, _, rfl, h1, r, h⟩
  | scr h1 => exact ⟨false, _, _, _, rfl, h1, RepDs.ofInts _, h⟩
  | _ => exact h.elim
theorem Ex.sb {K : PySem.W.Frag} {H H' : Hp} {b : Bool} {a : Addr} {xs : List V} (e : Ex H H') (h : SqB K b H a xs) : SqB K b H' a xs := by
  cases b with
  | false => exact e.sl h
  | true => exact e.st h
theorem wk_B {G : Gs} {F0 : Hp} {b : Bool} {a : Addr} {vs : List V} {xs : List D} (h : SqB G.K b F0 a vs) (r : RepDs G F0 vs xs) : Wk (ItB G.K b a) G F0 xs := by
  cases b with
  | false => exact wk_list h r
  | true => exact wk_tup h r
theorem wk_E {G : Gs} {F0 : Hp} {b : Bool} {a : Addr} {vs : List V} {xs : List D} (h : SqB G.K b F0 a vs) (r : RepDs G F0 vs xs) : Wk (ItE G.K b a) G F0 (enD 0 xs) := by
  intro F H σ ρ T i e S
  have hH := S.ex.sb (e.sb h)
  refine ⟨fun hi => ⟨vs, hH, by rw [r.length]; rw [enD_len] at hi; exact hi⟩, fun d hd => ?_⟩
  rw [enD_get] at hd
  obtain ⟨z, hz, rfl⟩ := Option.map_eq_some_iff.mp hd
  obtain ⟨v, hv, rv⟩ := r.get hz
  refine ⟨⟨vs, v, hH, hv⟩, fun x H' y => ?_⟩
  obtain ⟨p, u, rfl, hp, rfl, y⟩ := y
  have := y vs hH
  rw [hv] at this; cases this
  have w := S.newT (vs := [.int (i : Nat), v]) (xs := [.int (i : Nat), z]) hp (.cons (.int _) (.cons (rv.mono e) .nil))
  refine ⟨_, w.1, ?_⟩
  rw [Nat.zero_add]
  exact w.2
theorem wk_Z {G : Gs} {F0 : Hp} {b c : Bool} {a a2 : Addr} {vs ws : List V} {xs ys : List D} (h : SqB G.K b F0 a vs) (r : RepDs G F0 vs xs) (h2 : SqB G.K c F0 a2 ws) (r2 : RepDs G F0 ws ys) : Wk (ItZ G.K b c a a2) G F0 (zipD xs ys) := by
  intro F H σ ρ T i e S
  have hH := S.ex.sb (e.sb h)
  have hH2 := S.ex.sb (e.sb h2)
  refine ⟨fun hi => ⟨vs, ws, hH, hH2, by rw [r.length]; rw [zipD_len] at hi; omega, by rw [r2.length]; rw [zipD_len] at hi; omega, by rw [r.length, r2.length]; rw [zipD_len] at hi; omega⟩, fun d hd => ?_⟩
  obtain ⟨z, z2, hz, hz2, rfl⟩ := zipD_get _ _ _ _ hd
  obtain ⟨v, hv, rv⟩ := r.get hz
  obtain ⟨v2, hv2, rv2⟩ := r2.get hz2
  refine ⟨⟨vs, ws, v, v2, hH, hH2, hv, hv2⟩, fun x H' y => ?_⟩
  obtain ⟨p, u, u2, rfl, hp, rfl, y, y2⟩ := y
  have := y vs hH
  rw [hv] at this; cases this
  have := y2 ws hH2
  rw [hv2] at this; cases this
  have w := S.newT (vs := [v, v2]) (xs := [z, z2]) hp (.cons (rv.mono e) (.cons (rv2.mono e) .nil))
  exact ⟨_, w.1, w.2⟩
def wItr (m : WE) : WA := fun ρ Q E => m ρ (fun o ρ1 => cold o fun x => seqK x fun xs => Q xs ρ1) E
theorem si_seq {G : Gs} {W : WX} {te : TE} {m : WE} (h1 : SE G W te m) : SI G W (iSeq G.K te) (wItr m) := by
  intro σ ρ F H T R Qd Ed S h kq ke
  refine h1 σ ρ F H T _ _ Ed S h (fun a ρ1 x F1 H1 hq1 e1 S1 => ?_) ke
  obtain ⟨na, hq1⟩ := hq1
  obtain ⟨F2, e2, S2⟩ := S1.freeze na.ne
  obtain ⟨b, p, vs, xs, rfl, hs, r, q⟩ := S2.headD.seqB hq1
  exact ⟨b, p, rfl, ⟨vs, S2.ex.sb hs⟩, kq _ ρ1 _ F2 H1 q (e1.trans e2) S2.drop (wk_B hs r)⟩
def wItrE (m : WA) : WA := fun ρ Q E => m ρ (fun xs ρ1 => match xs with | [x] => seqK x fun ys => Q (enD 0 ys) ρ1 | _ => False) E
theorem si_enumU {G : Gs} {W : WX} {ta : TA} {m : WA} (h1 : SA G W ta m) : SI G W (iEnumU G.K ta) (wItrE m) := by
  intro σ ρ F H T R Qd Ed S h kq ke
  refine h1 σ ρ F H T _ _ Ed S h (fun xs ρ1 vs F1 H1 hq1 e1 S1 r => ?_) ke
  rcases r with _ | ⟨h1, r⟩
  · exact hq1.elim
  · rcases r with _ | ⟨h2, r⟩
    · obtain ⟨b, p, vs, xs, rfl, hs, r, q⟩ := h1.seqB hq1
      exact ⟨b, p, vs, rfl, S1.ex.sb hs, kq _ ρ1 _ F1 H1 q e1 S1 (wk_E hs r)⟩
    · exact hq1.elim
def wItrZ (m : WA) : WA := fun ρ Q E => m ρ (fun xs ρ1 => match xs with | [x, y] => seqK x fun ys => seqK y fun zs => Q (zipD ys zs) ρ1 | _ => False) E
theorem si_zipU {G : Gs} {W : WX} {ta : TA} {m : WA} (h1 : SA G W ta m) : SI G W (iZipU G.K ta) (wItrZ m) := by
  intro σ ρ F H T R Qd Ed S h kq ke
  refine h1 σ ρ F H T _ _ Ed S h (fun xs ρ1 vs F1 H1 hq1 e1 S1 r => ?_) ke
  rcases r with _ | ⟨h1, r⟩
  · exact hq1.elim
  · rcases r with _ | ⟨h2, r⟩
    · exact hq1.elim
    · rcases r with _ | ⟨h3, r⟩
      · obtain ⟨b, p, vs, xs, rfl, hs, r, q⟩ := h1.seqB hq1
        obtain ⟨c, p2, vs2, xs2, rfl, hs2, r2, q⟩ := h2.seqB q
        exact ⟨b, c, p, p2, vs, vs2, rfl, S1.ex.sb hs, S1.ex.sb hs2, kq _ ρ1 _ F1 H1 q e1 S1 (wk_Z hs r hs2 r2)⟩
      · exact hq1.elim
end Pv

set_option Elab.async false
set_option maxRecDepth 100000
set_option maxHeartbeats 4000000
set_option autoImplicit false
set_option linter.unusedVariables false

namespace Pv
open PySem L2
/-! ### repr of data -/
def keyP : Key → PyData
  | .inl i => .int i
  | .inr s => .str s
mutual
/-- data in the tracked heap, with dicts -/
inductive Dq (K : PySem.W.Frag) (H : Hp) : V → PyData → Prop
  | non : Dq K H .non .none
  | bl (b : Bool) : Dq K H (.bl b) (.bool b)
  | int (i : Int) : Dq K H (.int i) (.int i)
  | str (x : Str) : Dq K H (.str x) (.str x)
  | lst {a : Addr} {xs : List V} {ds : List PyData} (h : SqL K H a xs) (r : DqAll K H xs ds) : Dq K H (.ref a) (.list ds)
  | tup {a : Addr} {xs : List V} {ds : List PyData} (h : SqT K H a xs) (r : DqAll K H xs ds) : Dq K H (.ref a) (.tuple ds)
  | dic {a : Addr} {ks : List (Key × V)} {kvs : List (PyData × PyData)} (h : Rd H a (.dK ks)) (r : DqP K H ks kvs) : Dq K H (.ref a) (.dict kvs)
inductive DqAll (K : PySem.W.Frag) (H : Hp) : List V → List PyData → Prop
  | nil : DqAll K H [] []
  | cons {v : V} {vs : List V} {d : PyData} {ds : List PyData} (h : Dq K H v d) (r : DqAll K H vs ds) : DqAll K H (v :: vs) (d :: ds)
inductive DqP (K : PySem.W.Frag) (H : Hp) : List (Key × V) → List (PyData × PyData) → Prop
  | nil : DqP K H [] []
  | cons {k : Key} {v : V} {ks : List (Key × V)} {d : PyData} {kvs : List (PyData × PyData)} (h : Dq K H v d) (r : DqP K H ks kvs) : DqP K H ((k, v) :: ks) ((keyP k, d) :: kvs)
end
section
variable {X : Cx} {pins : List (Addr × Obj)} {σ : St} {H : Hp} {s : Shared}
theorem not_sys (I : Inv X pins σ H s) (hs : SysIn X.base) {a : Addr} {o : Obj} {vs : Array Value} {n : Nat} (ho : s.heap.get? a = some o) (hd : o.data = .seq vs n) : sysModules ≠ a := by
  obtain ⟨mm, o2, es, ep, h2, d2, _⟩ := hs
  have h3 := I.bk _ _ h2
  intro e
  rw [e, ho] at h3
  cases h3
  rw [hd] at d2
  cases d2
mutual
theorem Dq.reads (I : Inv X pins σ H s) (hs : SysIn X.base) : ∀ {v : V} {d : PyData}, Dq X.K H v d → ∀ {u : Value}, RelV v u → ∃ as, Reads s.heap u d as ∧ sysModules ∉ as
  | _, _, .non, _, r => by cases r; exact ⟨[], .none, List.not_mem_nil⟩
  | _, _, .bl b, _, r => by cases r; exact ⟨[], .bool b, List.not_mem_nil⟩
  | _, _, .int i, _, r => by obtain ⟨t, rfl⟩ := r; exact ⟨[], .int i t, List.not_mem_nil⟩
  | _, _, .str x, _, r => by obtain ⟨t, rfl⟩ := r; exact ⟨[], .str x t, List.not_mem_nil⟩
  | _, _, .lst h q, _, r => by
    cases r
    obtain ⟨its, rv, ⟨o, n, ho, hc, _, hd⟩, _⟩ := I.list h
    obtain ⟨as, hr, na⟩ := DqAll.reads I hs q rv
    refine ⟨_, .list ho hc hd hr, fun m => ?_⟩
    rcases List.mem_cons.mp m with m | m
    · exact not_sys I hs ho hd m
    · exact na m
  | _, _, .tup h q, _, r => by
    cases r
    obtain ⟨its, rv, ⟨o, ho, hc, n, hd⟩, _⟩ := I.tuple h
    obtain ⟨as, hr, na⟩ := DqAll.reads I hs q rv
    exact ⟨_, .tuple ho hc hd hr, na⟩
  | _, _, .dic h q, _, r => by
    cases r
    obtain ⟨_, lo, vs, rel, o, es, ep, ho, he, hd, _, prs, _⟩ := dk_rd I.hok h
    obtain ⟨as, bs, h1, h2, n1, n2⟩ := DqP.reads I hs q rel prs
    refine ⟨_, .dict ho he.1 hd h1 h2, fun m => ?_⟩
    rcases List.mem_append.mp m with m | m
    · rcases List.mem_cons.mp m with m | m
      · rw [← m] at lo; exact absurd lo (by decide)
      · exact n1 m
    · exact n2 m
theorem DqAll.reads (I : Inv X pins σ H s) (hs : SysIn X.base) : ∀ {vs : List V} {ds : List PyData}, DqAll X.K H vs ds → ∀ {us : List Value}, Vals vs us → ∃ as, ReadsAll s.heap us ds as ∧ sysModules ∉ as
  | _, _, .nil, _, r => by cases r; exact ⟨[], .nil, List.not_mem_nil⟩
  | _, _, .cons h q, _, r => by
    cases r with
    | cons r1 r2 =>
      obtain ⟨as, a1, a2⟩ := Dq.reads I hs h r1
      obtain ⟨bs, b1, b2⟩ := DqAll.reads I hs q r2
      exact ⟨_, .cons a1 b1, fun m => (List.mem_append.mp m).elim a2 b2⟩
theorem DqP.reads (I : Inv X pins σ H s) (hs : SysIn X.base) : ∀ {ks : List (Key × V)} {kvs : List (PyData × PyData)}, DqP X.K H ks kvs → ∀ {vs : List (Key × Value)} {es : List DictEntry}, KV ks vs → Pairs (mixKind X.prog X.w) es vs →
    ∃ as bs, ReadsAll s.heap (es.map (·.key)) (kvs.map (·.1)) as ∧ ReadsAll s.heap (es.map (·.val)) (kvs.map (·.2)) bs ∧ sysModules ∉ as ∧ sysModules ∉ bs
  | _, _, .nil, _, _, r, p => by
    cases r
    cases p
    exact ⟨[], [], .nil, .nil, List.not_mem_nil, List.not_mem_nil⟩
  | _, _, .cons (k := k) h q, _, _, r, p => by
    cases r with
    | cons r1 r2 =>
      cases p with
      | cons p1 p2 p3 =>
        obtain ⟨as, a1, a2⟩ := Dq.reads I hs h r1.2
        obtain ⟨bs, cs, b1, b2, b3, b4⟩ := DqP.reads I hs q r2 p3
        rw [← p2] at a1
        have p1 : keyIs _ _ = true := p1
        rw [← r1.1] at p1
        refine ⟨bs, as ++ cs, ?_, .cons a1 b2, b3, fun m => (List.mem_append.mp m).elim a2 b4⟩
        have kr : ∀ (k : Key) (u : Value), keyIs k u = true → Reads s.heap u (keyP k) [] := fun k u hk => by
          rcases keyIs_shape hk with ⟨i, t, rfl, rfl⟩ | ⟨x, t, rfl, rfl⟩
          · exact .int i t
          · exact .str x t
        exact ReadsAll.cons (kr k _ p1) b1
end
end
def rRepr (K : PySem.W.Frag) : List V → Hp → VK → Prop := fun xs H Q => ∃ x d, xs = [x] ∧ Dq K H x d ∧ d.showable = true ∧ d.depth ≤ 64 ∧ d.shown.length ≤ sizeLine ∧ Q (.str d.shown) H
theorem call_repr {X : Cx} (hg : X.A.guards = some []) (hu : X.A.units + 200 < cLine) (hsy : SysIn X.base) : CallR X (.builtin "repr") (rRepr X.K) := by
  intro pins s σ H xs us Q I r h
  obtain ⟨x, d, rfl, hd, hs, hdp, hl, q⟩ := h
  obtain ⟨u, rfl, ru⟩ := vals1 r
  have fin : ∀ (h' : Heap) (t : Tok) (tk : Nat), (∀ b o, s.heap.get? b = some o → h'.get? b = some o) → EP X pins σ Q (.str d.shown t) { s with heap := h', toks := tk } := fun h' t tk hk => ⟨.str _, H, I.kept hk, ⟨_, rfl⟩, q⟩
  have id' : ∀ b o, s.heap.get? b = some o → s.heap.get? b = some o := fun _ _ e => e
  have obj : ∀ a, u = .ref a → wpAny (model X.prog X.w) X.A (call (.builtin "repr") [u]) (EP X pins σ Q) X.xe s := fun a e => by
    subst e
    obtain ⟨as, rd, na⟩ := hd.reads I hsy ru
    exact PySem.repr_of_reads' rd hs (fun _ => na) hg (by omega) id' (fun h' u tk hk => fin h' u tk hk) hl
  cases hd with
  | non => cases (show u = Value.none from ru); exact PySem.P.repr_of_none (fin s.heap s.toks _ id')
  | bl b => cases (show u = Value.bool b from ru); exact PySem.P.repr_of_bool (fin s.heap s.toks _ id')
  | int i =>
    obtain ⟨t, rfl⟩ := ru
    exact PySem.P.repr_of_int (by simpa [PyData.showable] using hs) (fin s.heap s.toks _ id')
  | str y =>
    obtain ⟨t, rfl⟩ := ru
    exact PySem.P.repr_of_str (fin s.heap s.toks _ id') hl
  | lst h1 h2 => exact obj _ ru
  | tup h1 h2 => exact obj _ ru
  | dic h1 h2 => exact obj _ ru
mutual
/-- no object of a class of one's own, not the script -/
def okD : D → Bool
  | .tup xs => okDs xs
  | .lst xs => okDs xs
  | .dic kvs => okDk kvs
  | .ins _ _ => false
  | .scr _ => false
  | .fn _ _ => false
  | _ => true
def okDs : List D → Bool
  | [] => true
  | x :: xs => okD x && okDs xs
def okDk : List (Key × D) → Bool
  | [] => true
  | (_, x) :: xs => okD x && okDk xs
end
theorem toPyk_cons (k : Key) (x : D) (xs : List (Key × D)) : toPyk ((k, x) :: xs) = (keyP k, toPy x) :: toPyk xs := by
  cases k <;> (conv => lhs; unfold toPyk) <;> rfl
mutual
theorem RepD.dq {G : Gs} {F H : Hp} (e : Ex F H) : ∀ {v x}, RepD G F v x → okD x = true → Dq G.K H v (toPy x)
  | _, _, .non, _ => by unfold toPy; exact .non
  | _, _, .bl b, _ => by unfold toPy; exact .bl b
  | _, _, .int i, _ => by unfold toPy; exact .int i
  | _, _, .str s, _ => by unfold toPy; exact .str s
  | _, _, .tup h r, f => by unfold okD at f; unfold toPy; exact .tup (e.st h) (RepDs.dqs e r f)
  | _, _, .lst h r, f => by unfold okD at f; unfold toPy; exact .lst (SqL.of (e _ _ h)) (RepDs.dqs e r f)
  | _, _, .dic h r, f => by unfold okD at f; unfold toPy; exact .dic (.inl (e _ _ h)) (RepPs.dqp e r f)
  | _, _, .ins _ _ _, f => by unfold okD at f; cases f
  | _, _, .scr _, f => by unfold okD at f; cases f
  | _, _, .fn _, f => by unfold okD at f; cases f
theorem RepDs.dqs {G : Gs} {F H : Hp} (e : Ex F H) : ∀ {vs xs}, RepDs G F vs xs → okDs xs = true → DqAll G.K H vs (toPys xs)
  | _, _, .nil, _ => by unfold toPys; exact .nil
  | _, _, .cons h r, f => by
    unfold okDs at f
    obtain ⟨f1, f2⟩ := Bool.and_eq_true_iff.mp f
    unfold toPys
    exact .cons (RepD.dq e h f1) (RepDs.dqs e r f2)
theorem RepPs.dqp {G : Gs} {F H : Hp} (e : Ex F H) : ∀ {ks : List (Key × V)} {xs : List (Key × D)}, RepPs G F ks xs → okDk xs = true → DqP G.K H ks (toPyk xs)
  | _, _, .nil, _ => by unfold toPyk; exact .nil
  | _, _, .cons h r, f => by
    unfold okDk at f
    obtain ⟨f1, f2⟩ := Bool.and_eq_true_iff.mp f
    rw [toPyk_cons]
    exact .cons (RepD.dq e h f1) (RepPs.dqp e r f2)
end
/-- what repr asks of data -/
structure Shw (d : D) : Prop where
  ok : okD d = true
  sh : (toPy d).showable = true
  dep : (toPy d).depth ≤ 64
  len : (toPy d).shown.length ≤ sizeLine
def mRepr : List D → (O → Prop) → Prop
  | [x], Q => Shw x ∧ Q (.d (.str (toPy x).shown))
  | _, _ => False
theorem rc_repr {G : Gs} : RC G (rRepr G.K) mRepr := by
  intro σ ρ F H T vs xs Q Qd S r q k
  rcases r with _ | ⟨h1, r⟩
  · exact q.elim
  · rcases r with _ | ⟨h2, r⟩
    · exact ⟨_, _, rfl, h1.dq S.ex q.1.ok, q.1.sh, q.1.dep, q.1.len, k _ _ F H q.2 (Ex.refl F) (S.addD (.str _))⟩
    · exact q.elim

/-! ### isinstance, built-in types -/
inductive Ty6 where | int | bool | tuple | str | list | dict
def Ty6.nm : Ty6 → String
  | .int => "int" | .bool => "bool" | .tuple => "tuple" | .str => "str" | .list => "list" | .dict => "dict"
def isiD : Ty6 → D → Option Bool
  | _, .ins _ _ => none
  | _, .fn _ _ => none
  | .int, .int _ => some true
  | .int, .bl _ => some true
  | .bool, .bl _ => some true
  | .tuple, .tup _ => some true
  | .str, .str _ => some true
  | .list, .lst _ => some true
  | .list, .scr _ => some true
  | .dict, .dic _ => some true
  | _, _ => some false
def tyN : D → String
  | .non => "NoneType" | .bl _ => "bool" | .int _ => "int" | .str _ => "str" | .tup _ => "tuple" | .lst _ => "list" | .dic _ => "dict" | .scr _ => "list" | .ins _ _ => "" | .fn _ _ => ""
theorem kit_isi : ∀ (T : Ty6) (x : D) (b : Bool), isiD T x = some b → kitB (tyN x) T.nm = some b := by
  have tb : ∀ (a : String) (T : Ty6) (b : Bool), (a, T.nm, b) ∈ [("NoneType", "int", false), ("NoneType", "bool", false), ("NoneType", "tuple", false), ("NoneType", "str", false), ("NoneType", "list", false), ("NoneType", "dict", false),
      ("bool", "int", true), ("bool", "bool", true), ("bool", "tuple", false), ("bool", "str", false), ("bool", "list", false), ("bool", "dict", false),
      ("int", "int", true), ("int", "bool", false), ("int", "tuple", false), ("int", "str", false), ("int", "list", false), ("int", "dict", false),
      ("str", "int", false), ("str", "bool", false), ("str", "tuple", false), ("str", "str", true), ("str", "list", false), ("str", "dict", false),
      ("tuple", "int", false), ("tuple", "bool", false), ("tuple", "tuple", true), ("tuple", "str", false), ("tuple", "list", false), ("tuple", "dict", false),
      ("list", "int", false), ("list", "bool", false), ("list", "tuple", false), ("list", "str", false), ("list", "list", true), ("list", "dict", false),
      ("dict", "int", false), ("dict", "bool", false), ("dict", "tuple", false), ("dict", "str", false), ("dict", "list", false), ("dict", "dict", true)] → kitB a T.nm = some b := by
    have h : ∀ t ∈ [("NoneType", "int", false), ("NoneType", "bool", false), ("NoneType", "tuple", false), ("NoneType", "str", false), ("NoneType", "list", false), ("NoneType", "dict", false),
      ("bool", "int", true), ("bool", "bool", true), ("bool", "tuple", false), ("bool", "str", false), ("bool", "list", false), ("bool", "dict", false),
      ("int", "int", true), ("int", "bool", false), ("int", "tuple", false), ("int", "str", false), ("int", "list", false), ("int", "dict", false),
      ("str", "int", false), ("str", "bool", false), ("str", "tuple", false), ("str", "str", true), ("str", "list", false), ("str", "dict", false),
      ("tuple", "int", false), ("tuple", "bool", false), ("tuple", "tuple", true), ("tuple", "str", false), ("tuple", "list", false), ("tuple", "dict", false),
      ("list", "int", false), ("list", "bool", false), ("list", "tuple", false), ("list", "str", false), ("list", "list", true), ("list", "dict", false),
      ("dict", "int", false), ("dict", "bool", false), ("dict", "tuple", false), ("dict", "str", false), ("dict", "list", false), ("dict", "dict", true)], kitB t.1 t.2.1 = some t.2.2 := by decide +kernel
    intro a T b m
    exact h _ m
  intro T x b h
  apply tb
  cases T <;> cases x <;> simp only [isiD, Option.some.injEq, reduceCtorEq] at h <;> subst h <;> simp [tyN, Ty6.nm]
/-- of a built-in type -/
def NoC : D → Prop
  | .ins _ _ => False
  | .fn _ _ => False
  | _ => True
theorem RepD.tyx {G : Gs} {F H : Hp} {v : V} {x : D} (r : RepD G F v x) (e : Ex F H) (h : NoC x) : TyX G.K H v (.type (tyN x)) := by
  cases r with
  | non => exact .base .non
  | bl b => exact .base (.bl b)
  | int i => exact .base (.int i)
  | str s => exact .base (.str s)
  | tup h1 _ =>
    rcases e.st h1 with (z | ⟨o, z⟩) | ⟨o, _, _, z, c, _⟩
    · exact .base (.tup z)
    · exact .fTuple z
    · exact .kTuple z c
  | lst h1 _ => exact .base (.lst (e _ _ h1))
  | dic h1 _ => exact .base (.dK (e _ _ h1))
  | scr h1 =>
    rcases e.sl h1 with (z | ⟨o, z⟩) | ⟨o, _, _, z, c, _⟩
    · exact .base (.lst z)
    · exact .base (.frz z)
    · exact .kList z c
  | ins hc h1 _ => exact h.elim
  | fn _ => exact h.elim
/-- what isinstance answers: of a built-in type, of an own class -/
def isiX (ic : Str → Bool) (T : Ty6) : D → Option Bool
  | .ins c _ => if ic c then some false else none
  | x => isiD T x
def isiO (sub : Str → Option Bool) : D → Option Bool
  | .ins c _ => sub c
  | .fn _ _ => none
  | _ => some false
theorem RepD.tyi {G : Gs} {F H : Hp} {v : V} {c : Str} {fs : List (Str × D)} {C : Addr} (r : RepD G F v (.ins c fs)) (e : Ex F H) (hc : G.cl c = some C) (h : IsC G.K C) : TyX G.K H v (.ref C) := by
  cases r with
  | ins hc' h1 _ =>
    rw [hc] at hc'
    cases hc'
    exact .base (.ins (e _ _ h1) h.cl h.ha h.hn h.ht h.hm)
theorem tyN_mem (x : D) (h : NoC x) : tyN x ∈ baseTys := by
  cases x <;> first | exact h.elim | (unfold tyN baseTys; simp; done)
def wIsiX (f : D → Option Bool) (m : WE) : WE := fun ρ Q E => m ρ (fun o ρ1 => cold o fun x => ∃ b, f x = some b ∧ Q (.d (.bl b)) ρ1) E
theorem se_isiX {G : Gs} {W : WX} {te : TE} {m : WE} {c : V} {u : Value} {f : D → Option Bool} (hc : ClsV c u) (hf : ∀ {F H : Hp} {v : V} {x : D} {b : Bool}, RepD G F v x → Ex F H → f x = some b → ∃ t, TyX G.K H v t ∧ PySem.W.kitOne G.K t u = some b) (h1 : SE G W te m) :
    SE G W (tCB (rIsi G.K) (tCons te (tCons (tC c) tNil))) (wIsiX f m) := by
  intro σ ρ F H TT Q Qd Ed S h kq ke
  refine h1 σ ρ F H TT _ _ Ed S h (fun o ρ1 x F1 H1 hq e S1 => ?_) ke
  obtain ⟨no, b, hb, hq⟩ := hq
  obtain ⟨F2, e2, S2⟩ := S1.freeze no.ne
  obtain ⟨t, ht, hk⟩ := hf S2.headD S2.ex hb
  exact ⟨x, c, t, u, b, rfl, hc, ht, hk, kq _ _ _ F2 H1 hq (e.trans e2) (S2.drop.addD (.bl b))⟩
theorem isiX_ok {G : Gs} {ic : Str → Bool} (h : ∀ cn C, ic cn = true → G.cl cn = some C → IsC G.K C ∧ ∀ t ∈ baseTys, PySem.W.kitOne G.K (.ref C) (.type t) = some false) (T : Ty6) {F H : Hp} {v : V} {x : D} {b : Bool} (r : RepD G F v x) (e : Ex F H) (hb : isiX ic T x = some b) :
    ∃ t, TyX G.K H v t ∧ PySem.W.kitOne G.K t (.type T.nm) = some b := by
  have plain : NoC x → isiD T x = some b → ∃ t, TyX G.K H v t ∧ PySem.W.kitOne G.K t (.type T.nm) = some b := fun hx hd => ⟨_, r.tyx e hx, kit_ty (kit_isi T x b hd)⟩
  cases x with
  | ins c fs =>
    have hb : (if ic c then some false else none) = some b := hb
    split at hb
    · rename_i hi
      cases hb
      have hc : ∃ C, G.cl c = some C := by cases r with | ins hc _ _ => exact ⟨_, hc⟩
      obtain ⟨C, hc⟩ := hc
      obtain ⟨h1, h2⟩ := h c C hi hc
      exact ⟨_, r.tyi e hc h1, h2 _ (by cases T <;> (unfold Ty6.nm baseTys; simp))⟩
    · cases hb
  | fn a F0 => cases T <;> cases hb
  | _ => exact plain trivial hb
theorem isiO_ok {G : Gs} {sub : Str → Option Bool} {C' : Addr} (h1 : ∀ t ∈ baseTys, PySem.W.kitOne G.K (.type t) (.ref C') = some false) (h2 : ∀ cn b C, sub cn = some b → G.cl cn = some C → IsC G.K C ∧ PySem.W.kitOne G.K (.ref C) (.ref C') = some b)
    {F H : Hp} {v : V} {x : D} {b : Bool} (r : RepD G F v x) (e : Ex F H) (hb : isiO sub x = some b) : ∃ t, TyX G.K H v t ∧ PySem.W.kitOne G.K t (.ref C') = some b := by
  have plain : NoC x → some false = some b → ∃ t, TyX G.K H v t ∧ PySem.W.kitOne G.K t (.ref C') = some b := fun hx hd => by
    cases hd
    exact ⟨_, r.tyx e hx, h1 _ (tyN_mem x hx)⟩
  cases x with
  | ins c fs =>
    have hc : ∃ C, G.cl c = some C := by cases r with | ins hc _ _ => exact ⟨_, hc⟩
    obtain ⟨C, hc⟩ := hc
    obtain ⟨k1, k2⟩ := h2 c b C hb hc
    exact ⟨_, r.tyi e hc k1, k2⟩
  | fn a F0 => cases hb
  | _ => exact plain trivial hb
def wIsi (T : Ty6) (m : WE) : WE := fun ρ Q E => m ρ (fun o ρ1 => cold o fun x => ∃ b, isiD T x = some b ∧ Q (.d (.bl b)) ρ1) E
theorem se_isi {G : Gs} {W : WX} {te : TE} {m : WE} (T : Ty6) (h1 : SE G W te m) : SE G W (tCB (rIsi G.K) (tCons te (tCons (tC (.ty T.nm)) tNil))) (wIsi T m) := by
  intro σ ρ F H TT Q Qd Ed S h kq ke
  refine h1 σ ρ F H TT _ _ Ed S h (fun o ρ1 x F1 H1 hq e S1 => ?_) ke
  obtain ⟨no, b, hb, hq⟩ := hq
  obtain ⟨F2, e2, S2⟩ := S1.freeze no.ne
  refine ⟨x, .ty T.nm, _, _, b, rfl, .ty _, S2.headD.tyx S2.ex (by
    generalize fz o = y at hb
    cases y <;> first | trivial | (cases T <;> cases hb)), kit_ty (kit_isi T _ b hb), kq _ _ _ F2 H1 hq (e.trans e2) (S2.drop.addD (.bl b))⟩

/-! ### all, any, sum, max, min, sorted of lists -/
theorem RepDs.asBl {G : Gs} {F : Hp} {vs : List V} {bs : List Bool} (r : RepDs G F vs (bs.map D.bl)) : vs = bs.map V.bl := by
  induction bs generalizing vs with
  | nil => cases r; rfl
  | cons b bs ih => cases r with | cons h r => cases h; rw [List.map_cons, ih r]
theorem RepDs.asInt {G : Gs} {F : Hp} {vs : List V} {ns : List Int} (r : RepDs G F vs (ns.map D.int)) : vs = ns.map V.int := by
  induction ns generalizing vs with
  | nil => cases r; rfl
  | cons b bs ih => cases r with | cons h r => cases h; rw [List.map_cons, ih r]
theorem RepDs.asStr {G : Gs} {F : Hp} {vs : List V} {ns : List Str} (r : RepDs G F vs (ns.map D.str)) : vs = ns.map V.str := by
  induction ns generalizing vs with
  | nil => cases r; rfl
  | cons b bs ih => cases r with | cons h r => cases h; rw [List.map_cons, ih r]
theorem RepDs.ofStrs {G : Gs} {F : Hp} : ∀ (ns : List Str), RepDs G F (ns.map V.str) (ns.map D.str)
  | [] => .nil
  | n :: ns => .cons (.str n) (RepDs.ofStrs ns)
def mFoldB (f : List Bool → Bool) : List D → (O → Prop) → Prop
  | [.lst xs], Q => ∃ bs : List Bool, xs = bs.map D.bl ∧ Q (.d (.bl (f bs)))
  | _, _ => False
theorem rc_foldB {G : Gs} {f : List Bool → Bool} : RC G (fun vs H Q => ∃ (a : Addr) (bs : List Bool), vs = [V.ref a] ∧ SqL G.K H a (bs.map V.bl) ∧ Q (.bl (f bs)) H) (mFoldB f) := by
  intro σ ρ F H T vs xs Q Qd S r q k
  rcases r with _ | ⟨h1, r⟩
  · exact q.elim
  · rcases r with _ | ⟨h2, r⟩
    · cases h1 with
      | lst a r =>
        obtain ⟨bs, rfl, q⟩ := q
        have e := r.asBl
        subst e
        exact ⟨_, bs, rfl, SqL.of (S.ex _ _ a), k _ _ F H q (Ex.refl F) (S.addD (.bl _))⟩
      | _ => exact q.elim
    · cases h1 <;> exact q.elim
def mSum : List D → (O → Prop) → Prop
  | [.lst xs], Q => ∃ ns : List Int, xs = ns.map D.int ∧ Q (.d (.int ns.sum))
  | _, _ => False
theorem rc_sum {G : Gs} : RC G (rSum G.K) mSum := by
  intro σ ρ F H T vs xs Q Qd S r q k
  rcases r with _ | ⟨h1, r⟩
  · exact q.elim
  · rcases r with _ | ⟨h2, r⟩
    · cases h1 with
      | lst a r =>
        obtain ⟨ns, rfl, q⟩ := q
        have e := r.asInt
        subst e
        exact ⟨_, ns, rfl, SqL.of (S.ex _ _ a), k _ _ F H q (Ex.refl F) (S.addD (.int _))⟩
      | _ => exact q.elim
    · cases h1 <;> exact q.elim
def mMax : List D → (O → Prop) → Prop
  | [.lst xs], Q => ∃ ns : List Int, xs = ns.map D.int ∧ 0 < ns.length ∧ ∀ m, m ∈ ns → (∀ y, y ∈ ns → y ≤ m) → Q (.d (.int m))
  | _, _ => False
theorem rc_max {G : Gs} : RC G (rMax G.K) mMax := by
  intro σ ρ F H T vs xs Q Qd S r q k
  rcases r with _ | ⟨h1, r⟩
  · exact q.elim
  · rcases r with _ | ⟨h2, r⟩
    · cases h1 with
      | lst a r =>
        obtain ⟨ns, rfl, hl, q⟩ := q
        have e := r.asInt
        subst e
        exact ⟨_, ns, rfl, SqL.of (S.ex _ _ a), hl, fun m h1 h2 => k _ _ F H (q m h1 h2) (Ex.refl F) (S.addD (.int _))⟩
      | _ => exact q.elim
    · cases h1 <;> exact q.elim
def mMin : List D → (O → Prop) → Prop
  | [.lst xs], Q => ∃ ns : List Int, xs = ns.map D.int ∧ 0 < ns.length ∧ ∀ m, m ∈ ns → (∀ y, y ∈ ns → m ≤ y) → Q (.d (.int m))
  | _, _ => False
theorem rc_min {G : Gs} : RC G (rMin G.K) mMin := by
  intro σ ρ F H T vs xs Q Qd S r q k
  rcases r with _ | ⟨h1, r⟩
  · exact q.elim
  · rcases r with _ | ⟨h2, r⟩
    · cases h1 with
      | lst a r =>
        obtain ⟨ns, rfl, hl, q⟩ := q
        have e := r.asInt
        subst e
        exact ⟨_, ns, rfl, SqL.of (S.ex _ _ a), hl, fun m h1 h2 => k _ _ F H (q m h1 h2) (Ex.refl F) (S.addD (.int _))⟩
      | _ => exact q.elim
    · cases h1 <;> exact q.elim
/-- sorted(list of ints), any length; of texts, fewer than 64 -/
def mSorted : List D → (O → Prop) → Prop
  | [.lst xs], Q => (∃ ns : List Int, xs = ns.map D.int ∧ ∀ ns' : List Int, ns'.Perm ns → ns'.Pairwise (· ≤ ·) → Q (.lst (ns'.map D.int))) ∨
      (∃ ns : List Str, xs = ns.map D.str ∧ ns.length < 64 ∧ ∀ ns' : List Str, ns'.Perm ns → PyProof.Rows.sortedS ns' = true → Q (.lst (ns'.map D.str)))
  | _, _ => False
def rSortedU (K : PySem.W.Frag) : List V → Hp → VK → Prop := fun xs H Q => rSortedI K xs H Q ∨ rSortedS K xs H Q
theorem call_sortedU {X : Cx} : CallR X (.builtin "sorted") (rSortedU X.K) := CallR.or cr_sortedI cr_sortedS
theorem rc_sorted {G : Gs} : RC G (rSortedU G.K) mSorted := by
  intro σ ρ F H T vs xs Q Qd S r q k
  rcases r with _ | ⟨h1, r⟩
  · exact q.elim
  · rcases r with _ | ⟨h2, r⟩
    · cases h1 with
      | lst a r =>
        rcases q with ⟨ns, rfl, q⟩ | ⟨ns, rfl, hl, q⟩
        · have e := r.asInt
          subst e
          exact .inl ⟨_, ns, rfl, SqL.of (S.ex _ _ a), fun ns' p h1 h2 hp => k _ _ F _ (q ns' h1 h2) (Ex.refl F) (S.newL hp (RepDs.ofInts _))⟩
        · have e := r.asStr
          subst e
          exact .inr ⟨_, ns, rfl, SqL.of (S.ex _ _ a), hl, fun ns' p h1 h2 hp => k _ _ F _ (q ns' h1 h2) (Ex.refl F) (S.newL hp (RepDs.ofStrs _))⟩
      | _ => exact q.elim
    · cases h1 <;> exact q.elim
/-- str(int), str(text); bool(int), bool(bool) -/
def mStr : List D → (O → Prop) → Prop
  | [.int i], Q => i.natAbs.log2 < 1920 ∧ Q (.d (.str (toString i)))
  | [.str s], Q => Q (.d (.str s))
  | _, _ => False
def rStrU : List V → Hp → VK → Prop := fun xs H Q => (∃ i, xs = [.int i] ∧ i.natAbs.log2 < 1920 ∧ Q (.str (toString i)) H) ∨ ∃ a, xs = [.str a] ∧ Q (.str a) H
theorem call_strU {X : Cx} : CallR X (.type "str") rStrU := CallR.or call_str_int SkE.call_str_str
theorem rc_str {G : Gs} : RC G rStrU mStr := by
  intro σ ρ F H T vs xs Q Qd S r q k
  rcases r with _ | ⟨h1, r⟩
  · exact q.elim
  · rcases r with _ | ⟨h2, r⟩
    · cases h1 with
      | int i => exact .inl ⟨i, rfl, q.1, k _ _ F H q.2 (Ex.refl F) (S.addD (.str _))⟩
      | str s => exact .inr ⟨s, rfl, k _ _ F H q (Ex.refl F) (S.addD (.str _))⟩
      | _ => exact q.elim
    · cases h1 <;> exact q.elim
end Pv

set_option Elab.async false
set_option maxRecDepth 100000
set_option maxHeartbeats 4000000
set_option autoImplicit false
set_option linter.unusedVariables false
namespace Pv
open PySem L2
/-! ### dicts with keys ints and texts -/
def keyD : D → Option Key
  | .int i => some (.inl i)
  | .str s => some (.inr s)
  | _ => none
def valD (kvs : List (Key × D)) (k : Key) : Option D := (kvs.find? fun p => decide (p.1 = k)).map (·.2)
def putD (kvs : List (Key × D)) (k : Key) (x : D) : List (Key × D) :=
  if (kvs.any fun p => decide (p.1 = k)) = true then kvs.map (fun p => if p.1 = k then (p.1, x) else p) else kvs ++ [(k, x)]
def mergeD (kvs more : List (Key × D)) : List (Key × D) := more.foldl (fun acc kv => putD acc kv.1 kv.2) kvs
def dicO : O → Option (List (Key × D))
  | .dic kvs => some kvs
  | .d (.dic kvs) => some kvs
  | _ => none
section
variable {G : Gs} {F : Hp}
theorem keyD_v {v : V} {x : D} {k : Key} (r : RepD G F v x) (h : keyD x = some k) : v = kV k := by
  cases r <;> simp only [keyD, Option.some.injEq, reduceCtorEq] at h <;> subst h <;> rfl
theorem RepPs.val {ks : List (Key × V)} {kvs : List (Key × D)} (r : RepPs G F ks kvs) (k : Key) {x : D} (h : valD kvs k = some x) : ∃ v, valV ks k = some v ∧ RepD G F v x := r.look k h
theorem RepPs.any {ks : List (Key × V)} {kvs : List (Key × D)} (r : RepPs G F ks kvs) (k : Key) : (ks.any fun p => decide (p.1 = k)) = kvs.any fun p => decide (p.1 = k) := by
  induction kvs generalizing ks with
  | nil => cases r; rfl
  | cons y ys ih => cases r with | cons h r => rw [List.any_cons, List.any_cons, ih r]
theorem RepPs.put {ks : List (Key × V)} {kvs : List (Key × D)} (r : RepPs G F ks kvs) (k : Key) {v : V} {x : D} (rv : RepD G F v x) : RepPs G F (putK ks k v) (putD kvs k x) := by
  have rep : ∀ {ks : List (Key × V)} {kvs : List (Key × D)}, RepPs G F ks kvs → RepPs G F (ks.map fun p => if p.1 = k then (p.1, v) else p) (kvs.map fun p => if p.1 = k then (p.1, x) else p) := by
    intro ks kvs r
    induction kvs generalizing ks with
    | nil => cases r; exact .nil
    | cons y ys ih =>
      cases r with
      | @cons _ k' v' x' vs' _ h r =>
        rw [List.map_cons, List.map_cons]
        by_cases e : k' = k
        · rw [if_pos (show (k', v').1 = k from e), if_pos (show (k', x').1 = k from e)]
          exact .cons rv (ih r)
        · rw [if_neg (show ¬ (k', v').1 = k from e), if_neg (show ¬ (k', x').1 = k from e)]
          exact .cons h (ih r)
  unfold putK putD
  rw [r.any k]
  split
  · exact rep r
  · exact r.append (.cons rv .nil)
theorem RepPs.merge {m : List (Key × V)} {md : List (Key × D)} (r : RepPs G F m md) : ∀ {ks : List (Key × V)} {kvs : List (Key × D)}, RepPs G F ks kvs → RepPs G F (mergeK ks m) (mergeD kvs md) := by
  induction md generalizing m with
  | nil => cases r; intro ks kvs q; exact q
  | cons y ys ih =>
    cases r with
    | cons h r =>
      intro ks kvs q
      exact ih r (q.put _ h)
end
section
variable {G : Gs} {W : WX} {as : List Nat} {F H : Hp} {σ : St} {ρ : Sl} {T : List (V × O)}
/-- a slot's dict -/
theorem Stt.dicAt {i : Nat} {o : O} {kvs : List (Key × D)} (S : Stt G F H σ ρ T) (ho : ρ[i]? = some (some o)) (hd : dicO o = some kvs) : ∃ p ks, σ[i]? = some (some (.ref p)) ∧ H p = some (.dK ks) ∧ RepPs G F ks kvs := by
  obtain ⟨v, hv, S1⟩ := S.out ho
  cases o with
  | dic xs =>
    cases hd
    obtain ⟨p, ks, rfl, hp, r, _⟩ := S1.headK
    exact ⟨p, ks, hv, hp, r⟩
  | d x =>
    have r := S1.headD
    cases x <;> simp only [dicO, Option.some.injEq, reduceCtorEq] at hd
    subst hd
    cases r with
    | dic h r => exact ⟨_, _, hv, S.ex _ _ h, r⟩
  | _ => cases hd
/-- d[k] -/
def wGetV (i : Nat) (mb : WE) : WE := fun ρ Q E => wHas i ρ ∧ mb ρ (fun b ρ2 => cold b fun y => ∃ o kvs k x, ρ2[i]? = some (some o) ∧ dicO o = some kvs ∧ keyD y = some k ∧ valD kvs k = some x ∧ Q (.d x) ρ2) E
theorem se_getV {tb : TE} {mb : WE} (i : Nat) (hb : SE G W tb mb) : SE G W (tDGet (tVar i) tb) (wGetV i mb) := by
  intro σ ρ F H T Q Qd Ed S h kq ke
  obtain ⟨⟨o0, ho0⟩, h⟩ := h
  obtain ⟨v, hv⟩ := S.1.at_ i o0 ho0
  refine ⟨v, hv, hb σ ρ F H T _ _ Ed S h (fun b ρ2 y F2 H2 hq e2 S2 => ?_) ke⟩
  obtain ⟨nb, o, kvs, k, x, ho, hd, hk, hx, q⟩ := hq
  obtain ⟨F3, e3, S3⟩ := S2.freeze nb.ne
  have ry := S3.headD
  obtain ⟨p, ks, hw, hp, r⟩ := S3.drop.dicAt ho hd
  rw [hv] at hw; cases hw
  obtain ⟨u, hu, ru⟩ := r.val k hx
  have ey := keyD_v ry hk
  subst ey
  exact ⟨p, u, rfl, .inl ⟨ks, k, .inl hp, rfl, hu.symm⟩, kq _ _ _ F3 H2 q (e2.trans e3) (S3.drop.addD ru)⟩
def wIxA (i : Nat) (mb : WE) : WE := fun ρ Q E => ∃ o, ρ[i]? = some (some o) ∧ match dicO o with
  | some _ => wGetV i mb ρ Q E
  | none => wIxV i mb ρ Q E
theorem se_ixA {tb : TE} {mb : WE} (i : Nat) (hb : SE G W tb mb) : SE G W (fun σ H Q => tOp (rIx G.K) (tVar i) tb σ H Q ∨ tDGet (tVar i) tb σ H Q) (wIxA i mb) := by
  intro σ ρ F H T Q Qd Ed S h kq ke
  obtain ⟨o, ho, h⟩ := h
  split at h
  · exact .inr (se_getV i hb σ ρ F H T Q Qd Ed S h kq ke)
  · exact .inl (se_ixV i hb σ ρ F H T Q Qd Ed S h kq ke)
/-- k in d -/
def wInV (ng : Bool) (i : Nat) (mb : WE) : WE := fun ρ Q E => mb ρ (fun b ρ2 => cold b fun y => ∃ o kvs k, ρ2[i]? = some (some o) ∧ dicO o = some kvs ∧ keyD y = some k ∧ Q (.d (.bl ((valD kvs k).isSome != ng))) ρ2) E
theorem RepPs.valIs {ks : List (Key × V)} {kvs : List (Key × D)} (r : RepPs G F ks kvs) (k : Key) : (valV ks k).isSome = (valD kvs k).isSome := by
  have := r.any k
  rw [valV_any] at this
  rw [this]
  have h : ∀ kvs : List (Key × D), (kvs.any fun p => decide (p.1 = k)) = (valD kvs k).isSome := fun kvs => by
    induction kvs with
    | nil => rfl
    | cons y ys ih =>
      rw [List.any_cons, ih]
      unfold valD
      by_cases e : y.1 = k
      · rw [List.find?_cons_of_pos (by simpa using e)]; simp [e]
      · rw [List.find?_cons_of_neg (by simpa using e)]; simp [e]
  exact h kvs
theorem se_inV {tb : TE} {mb : WE} (i : Nat) (hb : SE G W tb mb) : SE G W (tDIn tb (tVar i)) (wInV false i mb) := by
  intro σ ρ F H T Q Qd Ed S h kq ke
  refine hb σ ρ F H T _ _ Ed S h (fun b ρ2 y F2 H2 hq e2 S2 => ?_) ke
  obtain ⟨nb, o, kvs, k, ho, hd, hk, q⟩ := hq
  obtain ⟨F3, e3, S3⟩ := S2.freeze nb.ne
  have ry := S3.headD
  obtain ⟨p, ks, hw, hp, r⟩ := S3.drop.dicAt ho hd
  have ey := keyD_v ry hk
  subst ey
  refine ⟨_, hw, p, _, rfl, DGet.k hp, ?_⟩
  rw [r.valIs k]
  simp only [Bool.bne_false] at q
  exact kq _ _ _ F3 H2 q (e2.trans e3) (S3.drop.addD (.bl _))
theorem se_ninV {tb : TE} {mb : WE} (i : Nat) (hb : SE G W tb mb) : SE G W (tDNotIn tb (tVar i)) (wInV true i mb) := by
  intro σ ρ F H T Q Qd Ed S h kq ke
  refine hb σ ρ F H T _ _ Ed S h (fun b ρ2 y F2 H2 hq e2 S2 => ?_) ke
  obtain ⟨nb, o, kvs, k, ho, hd, hk, q⟩ := hq
  obtain ⟨F3, e3, S3⟩ := S2.freeze nb.ne
  have ry := S3.headD
  obtain ⟨p, ks, hw, hp, r⟩ := S3.drop.dicAt ho hd
  have ey := keyD_v ry hk
  subst ey
  refine ⟨_, hw, p, _, rfl, DGet.k hp, ?_⟩
  rw [r.valIs k]
  simp only [Bool.bne_true] at q
  exact kq _ _ _ F3 H2 q (e2.trans e3) (S3.drop.addD (.bl _))
/-- d[k] = e -/
def wPutV (i : Nat) (mi mv : WE) : WS := fun ρ De => mv ρ (fun o ρ1 => cold o fun y => wHas i ρ1 ∧ mi ρ1 (fun kd ρ2 => cold kd fun kd => ∃ kvs k, ρ2[i]? = some (some (.dic kvs)) ∧ keyD kd = some k ∧ kvs.length < sizeLine ∧ De.nx (ρ2.set i (some (.dic (putD kvs k y))))) De.ex) De.ex
theorem ss_putV {ti tv : TE} {mi mv : WE} (i : Nat) (h1 : SE G W ti mi) (h2 : SE G W tv mv) : SS G W as (sDPut (tVar i) ti tv) (wPutV i mi mv) := by
  intro σ ρ F H T D De S h br
  refine h2 σ ρ F H T _ _ De.ex S h (fun o ρ1 v F1 H1 q e1 S1 => ?_) br.ke
  obtain ⟨no, ⟨o0, ho0⟩, q⟩ := q
  obtain ⟨F2, e2, S2⟩ := S1.freeze no.ne
  have rv := S2.headD
  obtain ⟨w, hw⟩ := S2.1.at_ i o0 ho0
  refine ⟨w, hw, h1 σ ρ1 F2 H1 T _ _ De.ex S2.drop q (fun kd ρ2 u F3 H3 q3 e3 S3 => ?_) (br.ke.up (e1.trans e2))⟩
  obtain ⟨nk, kvs, k, hx, hk, hl, q3⟩ := q3
  obtain ⟨F4, e4, S4⟩ := S3.freeze nk.ne
  have ey := keyD_v S4.headD hk
  subst ey
  obtain ⟨w2, hw2, S5⟩ := S4.drop.out hx
  rw [hw] at hw2; cases hw2
  obtain ⟨p, ks, rfl, hp, r, put⟩ := S5.headK
  refine ⟨p, _, rfl, DPut.k hp (by rw [r.length]; exact hl), ?_⟩
  exact br.nx σ _ F4 _ q3 (e1.trans (e2.trans (e3.trans e4))) ((put _ _ (r.put k (rv.mono (e3.trans e4)))).back hw _ rfl) (Kp.refl _ _)
def wSetA (i : Nat) (mi mv : WE) : WS := fun ρ De => ∃ o, ρ[i]? = some (some o) ∧ match dicO o with
  | some _ => wPutV i mi mv ρ De
  | none => wSetL i mi mv ρ De
theorem ss_setA {ti tv : TE} {mi mv : WE} (i : Nat) (h1 : SE G W ti mi) (h2 : SE G W tv mv) : SS G W as (fun D σ H => tAsg tv (gSub (tVar i) ti rSetL) D σ H ∨ sDPut (tVar i) ti tv D σ H) (wSetA i mi mv) := by
  intro σ ρ F H T D De S h br
  obtain ⟨o, ho, h⟩ := h
  split at h
  · exact .inr (ss_putV i h1 h2 σ ρ F H T D De S h br)
  · exact .inl (ss_setL i h1 h2 σ ρ F H T D De S h br)
/-- sorted(d): keys all ints, or all texts -/
def wSrtV (i : Nat) : WE := fun ρ Q _ => ∃ o kvs, ρ[i]? = some (some o) ∧ dicO o = some kvs ∧ kvs.length < 64 ∧
  ((∃ ks : List Int, kvs.map (·.1) = ks.map Sum.inl ∧ ∀ ys : List Int, ys.Perm ks → ys.Pairwise (· ≤ ·) → Q (.lst (ys.map D.int)) ρ) ∨
   (∃ ks : List Str, kvs.map (·.1) = ks.map Sum.inr ∧ ∀ ys : List Str, ys.Perm ks → PyProof.Rows.sortedS ys = true → Q (.lst (ys.map D.str)) ρ))
def rSrtD : List V → Hp → VK → Prop := fun xs H Q => (∃ (a : Addr) (kvs : List (Key × V)) (ks : List Int), xs = [.ref a] ∧ Rd H a (.dK kvs) ∧ kvs.map (·.1) = ks.map Sum.inl ∧ ks.length < 64 ∧
    ∀ (ys : List Int) (p : Addr), ys.Perm ks → ys.Pairwise (· ≤ ·) → H p = none → Q (.ref p) (upd H p (.lst (ys.map V.int)))) ∨
  (∃ (a : Addr) (kvs : List (Key × V)) (ks : List Str), xs = [.ref a] ∧ Rd H a (.dK kvs) ∧ kvs.map (·.1) = ks.map Sum.inr ∧ ks.length < 64 ∧
    ∀ ys p, ys.Perm ks → PyProof.Rows.sortedS ys = true → H p = none → Q (.ref p) (upd H p (.lst (ys.map V.str))))
theorem call_srtD {X : Cx} (hc : X.calm = true) : CallR X (.builtin "sorted") rSrtD := CallR.or (call_sortedDI hc) (call_sortedD hc)
theorem se_srtV (i : Nat) : SE G W (tCB rSrtD (tCons (tVar i) tNil)) (wSrtV i) := by
  intro σ ρ F H T Q Qd Ed S h kq ke
  obtain ⟨o, kvs, ho, hd, hl, h⟩ := h
  obtain ⟨p, ks, hw, hp, r⟩ := S.dicAt ho hd
  refine ⟨_, hw, ?_⟩
  have kl : ∀ {α : Type} {ks' : List α} {f : α → Key}, kvs.map (·.1) = ks'.map f → ks'.length < 64 := fun {α ks' f} e => by
    have := congrArg List.length e
    rw [List.length_map, List.length_map] at this
    omega
  rcases h with ⟨ks', e, q⟩ | ⟨ks', e, q⟩
  · exact .inl ⟨p, ks, ks', rfl, .inl hp, r.keys.trans e, kl e, fun ys a h1 h2 ha => kq _ _ _ F _ (q ys h1 h2) (Ex.refl F) (S.newL ha (RepDs.ofInts _))⟩
  · exact .inr ⟨p, ks, ks', rfl, .inl hp, r.keys.trans e, kl e, fun ys a h1 h2 ha => kq _ _ _ F _ (q ys h1 h2) (Ex.refl F) (S.newL ha (RepDs.ofStrs _))⟩
def wSrtA (i : Nat) (m : WE) : WE := fun ρ Q E => ∃ o, ρ[i]? = some (some o) ∧ match dicO o with
  | some _ => wSrtV i ρ Q E
  | none => wCB mSorted (wCons m wNil) ρ Q E
/-- {k: v, ..} -/
def wPairs : List (WE × WE) → Sl → (List (Key × D) → Sl → Prop) → (Exc → Sl → Prop) → Prop
  | [], ρ, Q, _ => Q [] ρ
  | (mk, mv) :: r, ρ, Q, E => mk ρ (fun o ρ1 => cold o fun kd => ∃ k, keyD kd = some k ∧ mv ρ1 (fun o2 ρ2 => cold o2 fun x => wPairs r ρ2 (fun kvs ρ3 => Q ((k, x) :: kvs) ρ3) E) E) E
def wDisp (ps : List (WE × WE)) : WE := fun ρ Q E => wPairs ps ρ (fun kvs ρ1 => kvs.length ≤ 15 ∧ Q (.dic (mergeD [] kvs)) ρ1) E
inductive SPr (G : Gs) (W : WX) : List (TE × TE) → List (WE × WE) → Prop
  | nil : SPr G W [] []
  | cons {tk tv : TE} {mk mv : WE} {l : List (TE × TE)} {l' : List (WE × WE)} (h1 : SE G W tk mk) (h2 : SE G W tv mv) (r : SPr G W l l') : SPr G W ((tk, tv) :: l) ((mk, mv) :: l')
theorem sp_run : ∀ {l : List (TE × TE)} {l' : List (WE × WE)}, SPr G W l l' → ∀ {σ : St} {ρ : Sl} {F H : Hp} {T : List (V × O)} {Q : List (V × V) → Hp → Prop} {Qd : List (Key × D) → Sl → Prop} {Ed : Exc → Sl → Prop}, Stt G F H σ ρ T → wPairs l' ρ Qd Ed →
    (∀ kvs ρ' ks F' H', Qd kvs ρ' → Ex F F' → Stt G F' H' σ ρ' T → RepPs G F' ks kvs → Q (ks.map fun p => (kV p.1, p.2)) H') → KE G W F σ T Ed → tPairs l σ H Q
  | _, _, .nil, σ, ρ, F, H, T, Q, Qd, Ed, S, h, kq, ke => kq [] ρ [] F H h (Ex.refl F) S .nil
  | _, _, .cons h1 h2 r, σ, ρ, F, H, T, Q, Qd, Ed, S, h, kq, ke => by
    refine h1 σ ρ F H T _ _ Ed S h (fun o ρ1 v F1 H1 q1 e1 S1 => ?_) ke
    obtain ⟨no, k, hk, q1⟩ := q1
    obtain ⟨F2, e2, S2⟩ := S1.freeze no.ne
    have ey := keyD_v S2.headD hk
    subst ey
    refine h2 σ ρ1 F2 H1 T _ _ Ed S2.drop q1 (fun o2 ρ2 u F3 H3 q3 e3 S3 => ?_) (ke.up (e1.trans e2))
    obtain ⟨no2, q3⟩ := q3
    obtain ⟨F4, e4, S4⟩ := S3.freeze no2.ne
    have ru := S4.headD
    refine sp_run r S4.drop q3 (fun kvs ρ' ks F' H' q5 e5 S5 r5 => ?_) (ke.up (e1.trans (e2.trans (e3.trans e4))))
    exact kq _ _ ((k, u) :: ks) F' H' q5 (e1.trans (e2.trans (e3.trans (e4.trans e5)))) S5 (.cons (ru.mono e5) r5)
theorem se_disp {l : List (TE × TE)} {l' : List (WE × WE)} (h : SPr G W l l') : SE G W (tDisp l) (wDisp l') := by
  intro σ ρ F H T Q Qd Ed S hm kq ke p hp
  refine sp_run h (S.newK hp .nil) hm (fun kvs ρ' ks F' H' q e S' r => ?_) ke.more
  obtain ⟨p', ks', ep, hp', r', put⟩ := S'.headK
  cases ep
  cases r'
  exact ⟨hp', ks, rfl, by rw [r.length]; exact q.1, kq _ _ _ F' _ q.2 e (put _ _ (r.merge .nil))⟩
def wDispN : WE := fun ρ Q _ => Q (.dic []) ρ
theorem se_dispN : SE G W tDNewK wDispN := by
  intro σ ρ F H T Q Qd Ed S h kq ke p hp
  exact kq _ _ _ F _ h (Ex.refl F) (S.newK hp .nil)
end
section
variable {X : Cx} {G : Gs} {W : WX} {as : List Nat}
theorem pe_or {e : Expr} {t t' : TE} (h : PE X e t) (h' : PE X e t') : PE X e (fun σ H Q => t σ H Q ∨ t' σ H Q) :=
  ⟨fun pins s σ H Q I q => q.elim (h.run pins s σ H Q I) (h'.run pins s σ H Q I)⟩
theorem ps_or {st : Stmt} {t t' : TS} (h : PS X st t) (h' : PS X st t') : PS X st (fun D σ H => t D σ H ∨ t' D σ H) :=
  ⟨fun pins s σ H D I q => q.elim (h.run pins s σ H D I) (h'.run pins s σ H D I)⟩
end
end Pv

set_option Elab.async false
set_option maxRecDepth 100000
set_option maxHeartbeats 4000000
set_option autoImplicit false
set_option linter.unusedVariables false
namespace Pv
open PySem L2

structure Ev where
  E : Expr → WE
  T : Expr → WT
section
variable {X : Cx} {G : Gs} {W : WX} {c : Cs}

/-! ### subscripts -/
def evSl (c : Cs) (E : Expr → WE) (a : Expr) (lo hi : Option Expr) : WE := match nameSlot c a with
  | some i => wSlV i (lo.map E) (hi.map E)
  | none => wSl (E a) (lo.map E) (hi.map E)
theorem po_ok {E : Expr → WE} (h : ∀ e, JE X G W e (E e)) (lo : Option Expr) : ∃ tl, PO X lo tl ∧ SO G W tl (lo.map E) := by
  cases lo with
  | none => exact ⟨_, po_none, rfl⟩
  | some e =>
    obtain ⟨te, pe, se⟩ := (h e).ex
    exact ⟨_, po_some pe, te, rfl, se⟩
theorem evSl_ok (ok : CtxOk X G W c) {E : Expr → WE} (h : ∀ e, JE X G W e (E e)) {a : Expr} {lo hi : Option Expr} {p2 pos : Pos} : JE X G W (.Subscript a (.Slice lo hi none p2) pos) (evSl c E a lo hi) := by
  have hK := ok.K
  obtain ⟨tl, pl, sl⟩ := po_ok h lo
  obtain ⟨th, ph, sh⟩ := po_ok h hi
  unfold evSl
  cases hn : nameSlot c a with
  | some i => exact ⟨_, pe_slice sl_U (nameSlot_ok ok hn) pl ph, by rw [hK]; exact se_slV i sl sh⟩
  | none =>
    obtain ⟨te, pe, se⟩ := (h a).ex
    exact ⟨_, pe_slice sl_U pe pl ph, by rw [hK]; exact se_sl se sl sh⟩
theorem plain_noSl {b : Expr} (h : plainIx b = true) : NoSl b := by
  intro ov iv
  cases b <;> first | rfl | cases h
def evIx (c : Cs) (E : Expr → WE) (a b : Expr) : WE := match nameSlot c a with
  | some i => wIxA i (E b)
  | none => wBin mIx (E a) (E b)
theorem evIx_ok (ok : CtxOk X G W c) {E : Expr → WE} (h : ∀ e, JE X G W e (E e)) {a b : Expr} {pos : Pos} (hb : plainIx b = true) : JE X G W (.Subscript a b pos) (evIx c E a b) := by
  have hK := ok.K
  obtain ⟨tb, pb, sb⟩ := (h b).ex
  unfold evIx
  cases hn : nameSlot c a with
  | some i => exact ⟨_, pe_or (pe_ix ix_seq (nameSlot_ok ok hn) pb (plain_ix hb)) (pe_dget (by have := ok.un; omega) (nameSlot_ok ok hn) pb (plain_noSl hb)), by rw [hK]; exact se_ixA i sb⟩
  | none =>
    obtain ⟨te, pe, se⟩ := (h a).ex
    exact ⟨_, pe_ix ix_seq pe pb (plain_ix hb), by rw [hK]; exact se_bin rb_ix se sb⟩
def evSub (c : Cs) (E : Expr → WE) (a : Expr) : Expr → WE
  | .Slice lo hi none _ => evSl c E a lo hi
  | .Slice none none (some (.UnaryOp .USub (.Constant (.int i) _ _) _)) _ => if i = 1 then wRev (E a) else wNo
  | .Slice _ _ _ _ => wNo
  | b => evIx c E a b
theorem evSub_ok (ok : CtxOk X G W c) {E : Expr → WE} (h : ∀ e, JE X G W e (E e)) {a b : Expr} {pos : Pos} : JE X G W (.Subscript a b pos) (evSub c E a b) := by
  have hK := ok.K
  unfold evSub
  split
  · exact evSl_ok ok h
  · split
    · rename_i e
      subst e
      obtain ⟨te, pe, se⟩ := (h a).ex
      exact ⟨_, pe_revU pe, by rw [hK]; exact se_rev se⟩
    · exact je_no
  · exact je_no
  · rename_i h1 h2 h3
    refine evIx_ok ok h ?_
    cases b <;> first | rfl | exact absurd rfl (h3 _ _ _ _)

/-! ### calls of built-ins -/
def mMaxU : List D → (O → Prop) → Prop := fun xs Q => mI2 (fun i j => if j > i then j else i) xs Q ∨ mMax xs Q
def mMinU : List D → (O → Prop) → Prop := fun xs Q => mI2 (fun i j => if j < i then j else i) xs Q ∨ mMin xs Q
theorem RC.or {r r' : List V → Hp → VK → Prop} {m m' : List D → (O → Prop) → Prop} (h : RC G r m) (h' : RC G r' m') : RC G (fun x H Q => r x H Q ∨ r' x H Q) (fun a k => m a k ∨ m' a k) := by
  intro σ ρ F H T vs xs Q Qd S r q k
  rcases q with q | q
  · exact .inl (h σ ρ F H T vs xs Q Qd S r q k)
  · exact .inr (h' σ ρ F H T vs xs Q Qd S r q k)
def bltM (x : Str) : Option (List D → (O → Prop) → Prop) :=
  if x = "len" then some mLen else if x = "abs" then some mAbs else if x = "int" then some mInt else if x = "max" then some mMaxU else if x = "min" then some mMinU else if x = "repr" then some mRepr
  else if x = "list" then some mList else if x = "sorted" then some mSorted else if x = "all" then some (mFoldB fun b => b.all id) else if x = "any" then some (mFoldB fun b => b.any id)
  else if x = "sum" then some mSum else if x = "str" then some mStr else none
theorem bltM_ok (ok : CtxOk X G W c) {x : Str} {m : List D → (O → Prop) → Prop} (h : bltM x = some m) : ∃ r, RC G r m ∧ ((∃ id, bootBuiltins x = some (.builtin id) ∧ CallR X (.builtin id) r) ∨ ∃ T, bootBuiltins x = some (.type T) ∧ CallR X (.type T) r) := by
  have hK := ok.K
  have hc := ok.calm
  unfold bltM at h
  split at h
  · rename_i e; subst e; cases h; exact ⟨_, rc_len, .inl ⟨_, boot_len, by rw [← hK]; exact call_lenU⟩⟩
  split at h
  · rename_i e; subst e; cases h; exact ⟨_, rc_abs, .inl ⟨_, PyProof.Rows.boot_abs, call_abs⟩⟩
  split at h
  · rename_i e; subst e; cases h; exact ⟨_, rc_int, .inr ⟨_, PyProof.Rows.boot_int, call_int1⟩⟩
  split at h
  · rename_i e; subst e; cases h; exact ⟨_, RC.or rc_i2 rc_max, .inl ⟨"max", by decide +kernel, CallR.or (call_max2 hc) (by rw [← hK]; exact cr_max hc)⟩⟩
  split at h
  · rename_i e; subst e; cases h; exact ⟨_, RC.or rc_i2 rc_min, .inl ⟨"min", by decide +kernel, CallR.or (call_min2 hc) (by rw [← hK]; exact cr_min hc)⟩⟩
  split at h
  · rename_i e; subst e; cases h; exact ⟨_, rc_repr, .inl ⟨_, PyProof.Rows.boot_repr, by rw [← hK]; exact call_repr ok.gd ok.un ok.sys⟩⟩
  split at h
  · rename_i e; subst e; cases h; exact ⟨_, rc_list, .inr ⟨_, PyProof.Rows.boot_list, by rw [← hK]; exact call_list_of⟩⟩
  split at h
  · rename_i e; subst e; cases h; exact ⟨_, rc_sorted, .inl ⟨_, PyProof.Rows.boot_sorted, by rw [← hK]; exact call_sortedU⟩⟩
  split at h
  · rename_i e; subst e; cases h; exact ⟨_, rc_foldB, .inl ⟨"all", by decide +kernel, by rw [← hK]; exact cr_all hc⟩⟩
  split at h
  · rename_i e; subst e; cases h; exact ⟨_, rc_foldB, .inl ⟨"any", by decide +kernel, by rw [← hK]; exact cr_any hc⟩⟩
  split at h
  · rename_i e; subst e; cases h; exact ⟨_, rc_sum, .inl ⟨"sum", by decide +kernel, by rw [← hK]; exact cr_sum hc⟩⟩
  split at h
  · rename_i e; subst e; cases h; exact ⟨_, rc_str, .inr ⟨_, PyProof.Rows.boot_str, call_strU⟩⟩
  · cases h
def ty6 (x : Str) : Option Ty6 := if x = "int" then some .int else if x = "bool" then some .bool else if x = "tuple" then some .tuple else if x = "str" then some .str else if x = "list" then some .list else if x = "dict" then some .dict else none
theorem ty6_ok {x : Str} {T : Ty6} (h : ty6 x = some T) : bootBuiltins x = some (.type T.nm) := by
  unfold ty6 at h
  split at h
  · rename_i e; subst e; cases h; exact PyProof.Rows.boot_int
  split at h
  · rename_i e; subst e; cases h; exact PyProof.Rows.boot_bool
  split at h
  · rename_i e; subst e; cases h; exact PyProof.Rows.boot_tuple
  split at h
  · rename_i e; subst e; cases h; exact PyProof.Rows.boot_str
  split at h
  · rename_i e; subst e; cases h; exact PyProof.Rows.boot_list
  split at h
  · rename_i e; subst e; cases h; exact PyProof.Rows.boot_dict
  · cases h
/-- the name of a built-in function or type, as it is -/
def isBi (c : Cs) (x : Str) : Bool := isGl c x && c.bi x
theorem isBi_ok (ok : CtxOk X G W c) {x : Str} (h : isBi c x = true) : Gl X x ∧ X.mg x = none ∧ (x == ("__debug__" : Str)) = false ∧ x ≠ ("__name__" : Str) := by
  obtain ⟨h1, h2⟩ := Bool.and_eq_true_iff.mp h
  obtain ⟨a, b, d⟩ := isGl_ok ok h1
  exact ⟨a, ok.bi x h2, b, d⟩
def evLen (c : Cs) (E : Expr → WE) (a : Expr) : WE := match nameSlot c a with
  | some i => wLenV i
  | none => wCB mLen (wCons (E a) wNil)
def evSrt (c : Cs) (E : Expr → WE) (a : Expr) : WE := match nameSlot c a with
  | some i => wSrtA i (E a)
  | none => wCB mSorted (wCons (E a) wNil)
theorem se_srtA {W : WX} {ta t2 : TE} {m : WE} (i : Nat) (h1 : SE G W ta (wCB mSorted (wCons m wNil))) (h2 : SE G W t2 (wSrtV i)) : SE G W (fun σ H Q => ta σ H Q ∨ t2 σ H Q) (wSrtA i m) := by
  intro σ ρ F H T Q Qd Ed S h kq ke
  obtain ⟨o, ho, h⟩ := h
  split at h
  · exact .inr (h2 σ ρ F H T Q Qd Ed S h kq ke)
  · exact .inl (h1 σ ρ F H T Q Qd Ed S h kq ke)
def evIsi (c : Cs) (E : Expr → WE) (a : Expr) : Expr → WE
  | .Name t _ => if isBi c t then (match ty6 t with | some T => wIsiX (isiX c.ic T) (E a) | none => wNo)
      else if c.io t && isGl c t then wIsiX (isiO fun cn => c.isub cn t) (E a) else wNo
  | _ => wNo
def evBlt1 (c : Cs) (E : Expr → WE) (x : Str) (a : Expr) (es : List Expr) : WE := if x = "len" then (match es with | [] => evLen c E a | _ => wNo)
    else if x = "tuple" then (match es with | [] => wTuple (E a) | _ => wNo)
    else if x = "isinstance" then (match es with | [b] => evIsi c E a b | _ => wNo)
    else if x = "sorted" then (match es with | [] => evSrt c E a | _ => wNo)
    else match bltM x with | some m => wCB m (evArgs E (a :: es)) | none => wNo
def evBlt (c : Cs) (E : Expr → WE) (x : Str) : List Expr → WE
  | [] => wNo
  | a :: es => evBlt1 c E x a es
theorem evBlt_ok (ok : CtxOk X G W c) {E : Expr → WE} (h : ∀ e, JE X G W e (E e)) {x : Str} {es : List Expr} {p pos : Pos} (hb : isBi c x = true) (hs : es.all notStar = true) : JE X G W (.Call (.Name x p) es [] pos) (evBlt c E x es) := by
  have hK := ok.K
  obtain ⟨g, m0, d, nn⟩ := isBi_ok ok hb
  cases es with
  | nil => exact je_no
  | cons a es =>
    obtain ⟨ha, hr⟩ := Bool.and_eq_true_iff.mp hs
    show JE X G W _ (evBlt1 c E x a es)
    unfold evBlt1
    split
    · rename_i q
      subst q
      split
      · unfold evLen
        cases hn : nameSlot c a with
        | some i => exact ⟨_, pe_callB call_lenU g m0 boot_len (pa_cons (nameSlot_ok ok hn) pa_nil (star_ok ha _ _)) nn d (star_ok ha _ _) rfl, by rw [hK]; exact se_lenV i⟩
        | none =>
          obtain ⟨te, pe, se⟩ := (h a).ex
          exact ⟨_, pe_callB call_lenU g m0 boot_len (pa_cons pe pa_nil (star_ok ha _ _)) nn d (star_ok ha _ _) rfl, by rw [hK]; exact se_cb rc_len (sa_cons se sa_nil)⟩
      · exact je_no
    split
    · rename_i q
      subst q
      split
      · obtain ⟨te, pe, se⟩ := (h a).ex
        exact ⟨_, pe_tupleOf g m0 pe (star_ok ha _ _), by rw [hK]; exact se_tuple se⟩
      · exact je_no
    split
    · rename_i q
      subst q
      split
      · rename_i b
        unfold evIsi
        split
        · split
          · rename_i t pt hbt
            split
            · rename_i T hT
              obtain ⟨g2, m2, d2, nn2⟩ := isBi_ok ok hbt
              obtain ⟨te, pe, se⟩ := (h a).ex
              exact ⟨_, pe_callB call_isi g m0 PyProof.Rows.boot_isinstance (pa_cons pe (pa_cons (pe_bltn (v := .ty T.nm) g2 m2 (ty6_ok hT) rfl nn2 d2) pa_nil rfl) (star_ok ha _ _)) nn d (star_ok ha _ _) rfl, by rw [hK]; exact se_isiX (.ty _) (fun r e hb => isiX_ok (by rw [← hK]; exact ok.ic) T r e hb) se⟩
            · exact je_no
          · split
            · rename_i t pt _ q
              obtain ⟨q1, q2⟩ := Bool.and_eq_true_iff.mp q
              obtain ⟨C', hm, k1, k2⟩ := ok.io t q1
              obtain ⟨g2, d2, nn2⟩ := isGl_ok ok q2
              obtain ⟨te, pe, se⟩ := (h a).ex
              exact ⟨_, pe_callB call_isi g m0 PyProof.Rows.boot_isinstance (pa_cons pe (pa_cons (pe_glob (v := .ref C') g2 hm rfl d2) pa_nil rfl) (star_ok ha _ _)) nn d (star_ok ha _ _) rfl,
                by rw [hK]; exact se_isiX (.own C') (fun r e hb => isiO_ok (by rw [← hK]; exact k1) (by rw [← hK]; exact fun cn b C h1 h2 => k2 cn b C h1 h2) r e hb) se⟩
            · exact je_no
        · exact je_no
      · exact je_no
    split
    · rename_i q
      subst q
      split
      · unfold evSrt
        obtain ⟨te, pe, se⟩ := (h a).ex
        have base := pe_callB call_sortedU g m0 PyProof.Rows.boot_sorted (pa_cons pe pa_nil (star_ok ha _ _)) nn d (star_ok ha _ _) rfl (pos := pos) (p := p)
        have sb : SE G W _ (wCB mSorted (wCons (E a) wNil)) := se_cb rc_sorted (sa_cons se sa_nil)
        cases hn : nameSlot c a with
        | some i => exact ⟨_, pe_or base (pe_callB (call_srtD ok.calm) g m0 PyProof.Rows.boot_sorted (pa_cons (nameSlot_ok ok hn) pa_nil (star_ok ha _ _)) nn d (star_ok ha _ _) rfl), by rw [hK]; exact se_srtA i sb (se_srtV i)⟩
        | none => exact ⟨_, base, by rw [hK]; exact sb⟩
      · exact je_no
    split
    · rename_i m hm
      obtain ⟨r, h1, h2⟩ := bltM_ok ok hm
      obtain ⟨ta, pa, sa⟩ := (evArgs_ok h (a :: es)).ex
      rcases h2 with ⟨id, hv, hcr⟩ | ⟨T, hv, hcr⟩
      · exact ⟨_, pe_callB hcr g m0 hv pa nn d (star_ok ha _ _) (star_any hr), se_cb h1 sa⟩
      · exact ⟨_, pe_callTy hcr g m0 hv pa nn d (star_ok ha _ _) (star_any hr), se_cb h1 sa⟩
    · exact je_no
end
end Pv

set_option Elab.async false
set_option maxRecDepth 100000
set_option maxHeartbeats 4000000
set_option autoImplicit false
set_option linter.unusedVariables false
namespace Pv
open PySem L2
section
variable {X : Cx} {G : Gs} {W : WX} {c : Cs}
/-! ### arguments that are handed on -/
theorem BorOk.app {σ : St} : ∀ {a b : Args} {vs ws : List V}, BorOk σ a vs → BorOk σ b ws → BorOk σ (a ++ b) (vs ++ ws)
  | [], b, [], ws, _, h => h
  | (i, m) :: a, b, v :: vs, ws, h1, h2 => ⟨h1.1, BorOk.app h1.2 h2⟩
  | [], _, _ :: _, _, h, _ => h.elim
  | _ :: _, _, [], _, h, _ => h.elim
def tApp (n m : Nat) (t tk : TA) : TA := fun σ H Q => t σ H fun vs H1 => tk σ H1 fun zs H2 => vs.length = n ∧ zs.length = m ∧ Q (vs ++ zs) H2
/-- arguments one by one -/
inductive AO (G : Gs) (W : WX) : TA → Args → Prop
  | nil : AO G W tNil []
  | cons {te : TE} {tr : TA} {m : WE} {r : Args} (h : SE G W te m) (q : AO G W tr r) : AO G W (tCons te tr) ((none, m) :: r)
  | bor {tr : TA} {r : Args} (i : Nat) (q : AO G W tr r) : AO G W (tCons (tVar i) tr) ((some i, wMove i) :: r)
theorem AO.sao : ∀ {t : TA} {a : Args}, AO G W t a → SAO G W t a
  | _, _, .nil => sao_nil
  | _, _, .cons h q => sao_cons h q.sao
  | _, _, .bor i q => sao_bor i q.sao
theorem ao_two {tk : TA} {b : Args} (h2 : SAO G W tk b) : ∀ {t : TA} {a : Args}, AO G W t a → ∀ (σ : St) (ρ : Sl) (F H : Hp) (T : List (V × O)) (R : List V → List V → Hp → Prop) (Qd : List O → Sl → Prop) (Ed : Exc → Sl → Prop),
    Stt G F H σ ρ T → wAO (a ++ b) ρ Qd Ed →
    (∀ os ρ' vs zs F' H', Qd os ρ' → Ex F F' → vs.length = a.length → zs.length = b.length → (vs ++ zs).length = os.length → Stt G F' H' σ ρ' ((vs ++ zs).zip os ++ T) → BorOk σ (a ++ b) (vs ++ zs) → R vs zs H') → KE G W F σ T Ed →
    t σ H fun vs H1 => tk σ H1 fun zs H2 => R vs zs H2
  | _, _, .nil, σ, ρ, F, H, T, R, Qd, Ed, S, h, kq, ke => h2 σ ρ F H T _ _ Ed S h (fun os ρ' zs F' H' hq e l S' bo => kq os ρ' [] zs F' H' hq e rfl bo.len.symm l S' bo) ke
  | _, _, .cons h1 q, σ, ρ, F, H, T, R, Qd, Ed, S, h, kq, ke => by
    refine h1 σ ρ F H T _ _ Ed S h (fun o ρ1 x F1 H1 hq1 e1 S1 => ?_) ke
    refine ao_two h2 q σ ρ1 F1 H1 ((x, o) :: T) (fun vs zs H2 => R (x :: vs) zs H2) _ Ed S1 hq1 (fun os ρ2 vs zs F2 H2 hq2 e2 l1 l2 l3 S2 b2 => ?_) (ke.up e1).more
    exact kq (o :: os) ρ2 (x :: vs) zs F2 H2 hq2 (e1.trans e2) (by rw [List.length_cons, List.length_cons, l1]) l2 (by rw [List.cons_append, List.length_cons, List.length_cons, l3]) (S2.permT List.perm_middle) ⟨fun i e => (by cases e), b2⟩
  | _, _, .bor i q, σ, ρ, F, H, T, R, Qd, Ed, S, h, kq, ke => by
    obtain ⟨⟨o0, ho0⟩, h⟩ := h
    obtain ⟨v, hv⟩ := S.1.at_ i o0 ho0
    refine ⟨v, hv, ao_two h2 q σ ρ F H T (fun vs zs H2 => R (v :: vs) zs H2) _ Ed S h (fun os ρ1 vs zs F1 H1 hq1 e1 l1 l2 l3 S1 b1 => ?_) ke⟩
    refine bor_step (W := W) (Q := fun ws H2 => R ws zs H2) (vs := vs) hv S1 hq1 (fun o ρ2 F2 H2 hq2 e2 S2 => ?_) ((ke.up e1).moreL _)
    exact kq (o :: os) ρ2 (v :: vs) zs F2 H2 hq2 (e1.trans e2) (by rw [List.length_cons, List.length_cons, l1]) l2 (by rw [List.cons_append, List.length_cons, List.length_cons, l3]) S2 ⟨fun j e => by cases e; exact hv, b1⟩
theorem sao_app {t tk : TA} {a b : Args} (h1 : AO G W t a) (h2 : SAO G W tk b) : SAO G W (tApp a.length b.length t tk) (a ++ b) := by
  intro σ ρ F H T Q Qd Ed S h kq ke
  exact ao_two h2 h1 σ ρ F H T (fun vs zs H2 => vs.length = a.length ∧ zs.length = b.length ∧ Q (vs ++ zs) H2) Qd Ed S h (fun os ρ' vs zs F' H' hq e l1 l2 l3 S' bo => ⟨l1, l2, kq os ρ' (vs ++ zs) F' H' hq e l3 S' bo⟩) ke
theorem se_callW {t tk : TA} {a b : Args} {C : Ct} {ord : List Nat} {n m : Nat} (h1 : AO G W t a) (h2 : SAO G W tk b) (hn : a.length = n) (hm : b.length = m) (ho : ord.Perm (List.range (n + m))) :
    SE G W (tCallW W (spOf G (n + m) C) n m ord t tk) (wCall C ord (a ++ b)) := by
  subst hn hm
  have z := se_call (G := G) (W := W) (C := C) (ord := ord) (sao_app h1 h2) (List.length_append ..) ho
  intro σ ρ F H T Q Qd Ed S h kq ke
  exact z σ ρ F H T Q Qd Ed S h kq ke
def argB (c : Cs) (E : Expr → WE) (e : Expr) : Option Nat × WE := match nameSlot c e with
  | some i => if c.bor.contains i then (some i, wMove i) else (none, E e)
  | none => (none, E e)
theorem sao_argB (ok : CtxOk X G W c) {E : Expr → WE} (h : ∀ e, JE X G W e (E e)) (e : Expr) : ∃ te, PE X e te ∧ ∀ {tr : TA} {r : Args}, AO G W tr r → AO G W (tCons te tr) (argB c E e :: r) := by
  unfold argB
  cases hn : nameSlot c e with
  | none =>
    obtain ⟨te, pe, se⟩ := (h e).ex
    exact ⟨te, pe, fun hr => .cons se hr⟩
  | some i =>
    simp only
    split
    · exact ⟨_, nameSlot_ok ok hn, fun hr => .bor i hr⟩
    · obtain ⟨te, pe, se⟩ := (h e).ex
      exact ⟨te, pe, fun hr => .cons se hr⟩
theorem argsB_ok (ok : CtxOk X G W c) {E : Expr → WE} (h : ∀ e, JE X G W e (E e)) : ∀ es : List Expr, es.all notStar = true → ∃ ta, PA X es ta ∧ AO G W ta (es.map (argB c E))
  | [], _ => ⟨_, pa_nil, .nil⟩
  | e :: es, hs => by
    obtain ⟨h1, h2⟩ := Bool.and_eq_true_iff.mp hs
    obtain ⟨ta, pa, sa⟩ := argsB_ok ok h es h2
    obtain ⟨te, pe, se⟩ := sao_argB ok h e
    exact ⟨_, pa_cons pe pa (star_ok h1 _ _), se sa⟩
theorem kwsB_ok (ok : CtxOk X G W c) {E : Expr → WE} (h : ∀ e, JE X G W e (E e)) : ∀ ks : List Keyword, ∃ ta, PK X ks ta ∧ AO G W ta (ks.map fun k => argB c E k.value)
  | [] => ⟨_, pk_nil, .nil⟩
  | ⟨a, e, p⟩ :: ks => by
    obtain ⟨ta, pa, sa⟩ := kwsB_ok ok h ks
    obtain ⟨te, pe, se⟩ := sao_argB ok h e
    exact ⟨_, pk_cons pe pa, se sa⟩
def evOwn (c : Cs) (E : Expr → WE) (f : Fn) (es : List Expr) (kws : List Keyword) : WE :=
  match f.sh.find? fun s => s.1 == es.length && s.2.1 == kws.filterMap (·.arg) with
  | some s => if es.all notStar && kws.all kwOk && (s.1 + s.2.1.length == f.ps.length) && (kws.length == s.2.1.length) && s.2.2.isPerm (List.range f.ps.length) then wCall f.C s.2.2 (es.map (argB c E) ++ kws.map fun k => argB c E k.value) else wNo
  | none => wNo
theorem evOwn_ok (ok : CtxOk X G W c) {E : Expr → WE} (h : ∀ e, JE X G W e (E e)) {x : Str} {f : Fn} {es : List Expr} {kws : List Keyword} {p pos : Pos} (hg : isGl c x = true) (hf : c.fn x = some f) : JE X G W (.Call (.Name x p) es kws pos) (evOwn c E f es kws) := by
  obtain ⟨g, d, nn⟩ := isGl_ok ok hg
  obtain ⟨a, fd, k, ⟨hr, _⟩, hm, hk, F, hsh⟩ := ok.fn x f hf
  unfold evOwn
  split
  · rename_i s hs
    split
    · rename_i q
      simp only [Bool.and_eq_true, beq_iff_eq] at q
      obtain ⟨⟨⟨⟨q1, q2⟩, q3⟩, q4⟩, q5⟩ := q
      have hp := List.find?_some hs
      simp only [Bool.and_eq_true, beq_iff_eq] at hp
      obtain ⟨p1, p2⟩ := hp
      have hb := hsh s (List.mem_of_find?_eq_some hs)
      have perm := List.isPerm_iff.mp q5
      obtain ⟨ta, pa, sa⟩ := argsB_ok ok h es q1
      obtain ⟨tk, pk, sk⟩ := kwsB_ok ok h kws
      have hks : (backToKw pos (keywordEach kws X.env)).filterMap (·.1) = s.2.1 := by rw [kw_names, p2]
      have l1 : (es.map (argB c E)).length = s.1 := by rw [List.length_map, p1]
      have l2 : (kws.map fun k => argB c E k.value).length = s.2.1.length := by rw [List.length_map, q4]
      rw [← q3] at F perm
      have se := se_callW (G := G) (W := W) (C := f.C) sa sk.sao l1 l2 perm
      cases es with
      | nil =>
        cases pa with
        | mk run =>
          have se0 := se_callW (G := G) (W := W) (C := f.C) (AO.nil (G := G) (W := W)) sk.sao (n := s.1) (m := s.2.1.length) (by show 0 = s.1; exact p1.symm) l2 perm
          exact ⟨_, pe_callW0 F hr ok.gd g hm hk hb ok.tk pk (kw_all q2) hks d (by
            show ((backTo pos (starEach [] X.env)).any (·.1) || _) = false
            rw [kw_any q2]; rfl), se0⟩
      | cons e es =>
        obtain ⟨h1, h2⟩ := Bool.and_eq_true_iff.mp q1
        exact ⟨_, pe_callW F hr ok.gd g hm hk hb ok.tk pa pk (kw_all q2) hks d (star_ok h1 _ _) (by rw [star_any q1, kw_any q2]; rfl), se⟩
    · exact je_no
  · exact je_no

/-! ### methods of lists in slots -/
def evMeth (c : Cs) (E : Expr → WE) (o : Expr) (m : Str) (ap cp : Pos) (es : List Expr) : WE :=
  if (ap.endLine == cp.line) && es.all notStar then (match nameSlot c o with
    | some i => if m = "append" then (match es with | [a] => wApp i (E a) | _ => wNo)
      else if m = "extend" then (match es with | [a] => wExt i (E a) | _ => wNo)
      else if m = "pop" then (match es with | [] => wPop i | _ => wNo) else wNo
    | none => wNo) else wNo
theorem base_name {e : Expr} {i : Nat} (h : nameSlot c e = some i) (m : Str) (env : Env) (w : Sem Value) : attributeBase e m env w = w := by
  cases e <;> simp only [nameSlot, reduceCtorEq] at h
  rfl
theorem evMeth_ok (ok : CtxOk X G W c) {E : Expr → WE} (h : ∀ e, JE X G W e (E e)) {o : Expr} {m : Str} {es : List Expr} {ap cp : Pos} : JE X G W (.Call (.Attribute o m ap) es [] cp) (evMeth c E o m ap cp es) := by
  have hK := ok.K
  unfold evMeth
  split
  · rename_i q
    obtain ⟨ql, qs⟩ := Bool.and_eq_true_iff.mp q
    split
    · rename_i i hi
      have one : ∀ (a : Expr), notStar a = true → ((backTo cp (starEach [a] X.env)).all (fun x => !x.1) && (backToKw cp (keywordEach [] X.env)).all (fun x => x.1.isSome)
          && decide ([a].length + ([] : List Keyword).length + (if ([] : List Keyword).isEmpty then 0 else 1) < 30)) = true := fun a ha => by rw [star_ok ha [] X.env]; rfl
      split
      · rename_i e; subst e
        split
        · rename_i a
          have ha : notStar a = true := (Bool.and_eq_true_iff.mp qs).1
          obtain ⟨te, pe, se⟩ := (h a).ex
          exact ⟨_, pe_bm F.plainAttrs_list F.slot_list_append F.type_list_append mt_append (nameSlot_ok ok hi) (pa_cons pe pa_nil (star_ok ha _ _)) (base_name hi _ _ _) (one a ha) ql (star_ok ha _ _) rfl, by rw [hK]; exact se_app i se⟩
        · exact je_no
      split
      · rename_i e; subst e
        split
        · rename_i a
          have ha : notStar a = true := (Bool.and_eq_true_iff.mp qs).1
          obtain ⟨te, pe, se⟩ := (h a).ex
          exact ⟨_, pe_bm F.plainAttrs_list F.slot_list_extend F.type_list_extend mt_extend (nameSlot_ok ok hi) (pa_cons pe pa_nil (star_ok ha _ _)) (base_name hi _ _ _) (one a ha) ql (star_ok ha _ _) rfl, by rw [hK]; exact se_ext i se⟩
        · exact je_no
      split
      · rename_i e; subst e
        split
        · exact ⟨_, pe_bm0 F.plainAttrs_list F.slot_list_pop F.type_list_pop mt_pop (nameSlot_ok ok hi) (base_name hi _ _ _) ql, by rw [hK]; exact se_pop i⟩
        · exact je_no
      · exact je_no
    · exact je_no
  · exact je_no
def evCall (c : Cs) (E : Expr → WE) (f : Expr) (es : List Expr) (kws : List Keyword) (pos : Pos) : WE := match f with
  | .Name x _ => match c.fn x with
    | some f => if isGl c x then evOwn c E f es kws else wNo
    | none => if isBi c x && es.all notStar then (match kws with | [] => evBlt c E x es | _ => wNo) else wNo
  | .Attribute o m ap => match kws with | [] => evMeth c E o m ap pos es | _ => wNo
  | _ => wNo
theorem evCall_ok (ok : CtxOk X G W c) {E : Expr → WE} (h : ∀ e, JE X G W e (E e)) {f : Expr} {es : List Expr} {kws : List Keyword} {pos : Pos} : JE X G W (.Call f es kws pos) (evCall c E f es kws pos) := by
  unfold evCall
  split
  · split
    · rename_i f hf
      split
      · rename_i hg; exact evOwn_ok ok h hg hf
      · exact je_no
    · split
      · rename_i q
        obtain ⟨q1, q2⟩ := Bool.and_eq_true_iff.mp q
        split
        · exact evBlt_ok ok h q1 q2
        · exact je_no
      · exact je_no
  · split
    · exact evMeth_ok ok h
    · exact je_no
  · exact je_no

/-! ### what is walked -/
def isTupE : Expr → Bool
  | .Tuple _ _ _ => true
  | _ => false
theorem isTupE_ok {e : Expr} (h : isTupE e = true) : ∃ es k p, e = .Tuple es k p := by
  cases e <;> first | exact ⟨_, _, _, rfl⟩ | exact absurd h Bool.false_ne_true
def evItC (c : Cs) (E : Expr → WE) (tg : Expr) (f : Str) (es : List Expr) (dflt : WA) : WA := if f = "range" then (match es with | [a] => wRng1 (evArgs E [a]) | [a, b] => wRng2 (evArgs E [a, b]) | _ => wNoA)
    else if f = "enumerate" then (match es with | [a] => if isTupE tg then wItrE (evArgs E [a]) else wNoA | _ => wNoA)
    else if f = "zip" then (match es with | [a, b] => if isTupE tg then wItrZ (evArgs E [a, b]) else wNoA | _ => wNoA)
    else dflt
def evIt (c : Cs) (E : Expr → WE) (tg : Expr) (iter : Expr) : WA := match iter with
  | .Call (.Name f _) es [] _ => if isBi c f && es.all notStar then evItC c E tg f es (wItr (E iter)) else wItr (E iter)
  | _ => wItr (E iter)
theorem evIt_ok (ok : CtxOk X G W c) {E : Expr → WE} (h : ∀ e, JE X G W e (E e)) {tg iter : Expr} : JI X G W tg iter (evIt c E tg iter) := by
  have hK := ok.K
  have dflt : ∀ e, JI X G W tg e (wItr (E e)) := fun e => by
    obtain ⟨te, pe, se⟩ := (h e).ex
    exact ⟨_, pi_seq pe, by rw [hK]; exact si_seq se⟩
  unfold evIt
  split
  · split
    · rename_i q
      obtain ⟨q1, qs⟩ := Bool.and_eq_true_iff.mp q
      obtain ⟨g, m0, d, nn⟩ := isBi_ok ok q1
      unfold evItC
      split
      · rename_i e; subst e
        split
        · rename_i a
          have ha : notStar a = true := (Bool.and_eq_true_iff.mp qs).1
          obtain ⟨ta, pa, sa⟩ := (evArgs_ok h [a]).ex
          exact ⟨_, pi_range1 g m0 pa (star_ok ha _ _), si_rng1 sa⟩
        · rename_i a b
          obtain ⟨ha, hb⟩ := Bool.and_eq_true_iff.mp qs
          have hb : notStar b = true := (Bool.and_eq_true_iff.mp hb).1
          obtain ⟨ta, pa, sa⟩ := (evArgs_ok h [a, b]).ex
          exact ⟨_, pi_range2 g m0 pa (by rw [star_ok ha, star_ok hb]; rfl) (star_ok hb _ _), si_rng2 sa⟩
        · exact ji_no
      split
      · rename_i e; subst e
        split
        · rename_i a
          split
          · rename_i ht
            have ha : notStar a = true := (Bool.and_eq_true_iff.mp qs).1
            obtain ⟨ta, pa, sa⟩ := (evArgs_ok h [a]).ex
            obtain ⟨es, k, p, rfl⟩ := isTupE_ok ht
            exact ⟨_, pi_enumU g m0 pa (star_ok ha _ _), by rw [hK]; exact si_enumU sa⟩
          · exact ji_no
        · exact ji_no
      split
      · rename_i e; subst e
        split
        · rename_i a b
          split
          · rename_i ht
            obtain ⟨ha, hb⟩ := Bool.and_eq_true_iff.mp qs
            have hb : notStar b = true := (Bool.and_eq_true_iff.mp hb).1
            obtain ⟨ta, pa, sa⟩ := (evArgs_ok h [a, b]).ex
            obtain ⟨es, k, p, rfl⟩ := isTupE_ok ht
            exact ⟨_, pi_zipU g m0 pa (star_ok ha _ _) (by rw [star_ok hb]; rfl), by rw [hK]; exact si_zipU sa⟩
          · exact ji_no
        · exact ji_no
      · exact dflt _
    · exact dflt _
  · exact dflt _

/-! ### targets -/
def gNo : WG := fun _ _ _ => False
structure JG (X : Cx) (G : Gs) (as : List Nat) (e : Expr) (g : WG) : Prop where
  ex : ∃ t, PG X e t ∧ SG G as t g
structure JGs (X : Cx) (G : Gs) (as : List Nat) (es : List Expr) (g : WGs) : Prop where
  ex : ∃ t, PGs X es t ∧ SGs G as t g
theorem jg_no {as : List Nat} {e : Expr} : JG X G as e gNo := ⟨fun _ _ _ _ => False, ⟨fun _ _ _ _ _ _ _ _ _ h => h.elim⟩, fun _ _ _ _ _ _ _ _ _ _ _ h _ => h.elim⟩
def evTgs (g : Expr → WG) : List Expr → WGs
  | [] => gNl
  | e :: es => gCn (g e) (evTgs g es)
def evTg (c : Cs) : Nat → Expr → WG
  | 0, _ => gNo
  | n + 1, e => match e with
    | .Name x _ => match locOf c x with | some i => gNm c.as i | none => gNo
    | .Tuple es _ _ => if es.all notStar then gTp es.length (evTgs (evTg c n) es) else gNo
    | _ => gNo
theorem asg_one {e : Expr} (h : notStar e = true) (es : List Expr) (env : Env) : assignEach (e :: es) env = (false, assign e env) :: assignEach es env := by
  cases e <;> first | rfl | (cases h)
theorem asg_len : ∀ {es : List Expr} {env : Env}, es.all notStar = true → (assignEach es env).length = es.length ∧ (assignEach es env).findIdx? (·.1) = none
  | [], _, _ => ⟨rfl, rfl⟩
  | e :: es, env, h => by
    obtain ⟨h1, h2⟩ := Bool.and_eq_true_iff.mp h
    obtain ⟨a, b⟩ := asg_len (es := es) (env := env) h2
    rw [asg_one h1]
    refine ⟨by rw [List.length_cons, List.length_cons, a], ?_⟩
    rw [List.findIdx?_cons, b]
    rfl
theorem evTgs_ok {as : List Nat} {g : Expr → WG} (h : ∀ e, JG X G as e (g e)) : ∀ es : List Expr, es.all notStar = true → JGs X G as es (evTgs g es)
  | [], _ => ⟨_, pgs_nil, sg_nil⟩
  | e :: es, hs => by
    obtain ⟨h1, h2⟩ := Bool.and_eq_true_iff.mp hs
    obtain ⟨t, pg, sg⟩ := (h e).ex
    obtain ⟨u, pgs, sgs⟩ := (evTgs_ok h es h2).ex
    exact ⟨_, pgs_cons pg pgs (by rw [asg_one h1]; rfl), sg_cons sg sgs⟩
theorem evTg_ok (ok : CtxOk X G W c) : ∀ (n : Nat) (e : Expr), JG X G c.as e (evTg c n e)
  | 0, _ => jg_no
  | n + 1, e => by
    have hK := ok.K
    unfold evTg
    split
    · split
      · rename_i i hi
        obtain ⟨h1, h2, h3⟩ := ok.loc hi
        exact ⟨_, pg_name (by rw [ok.N]; exact ok.nd) h1 h2 h3, sg_name i⟩
      · exact jg_no
    · split
      · rename_i hs
        obtain ⟨t, pg, sg⟩ := (evTgs_ok (evTg_ok ok n) _ hs).ex
        obtain ⟨a, b⟩ := asg_len (env := X.env) hs
        exact ⟨_, pg_tup ok.calm pg a b, by rw [hK]; exact sg_tup _ sg⟩
      · exact jg_no
    · exact jg_no
end
end Pv

set_option Elab.async false
set_option maxRecDepth 100000
set_option maxHeartbeats 4000000
set_option autoImplicit false
set_option linter.unusedVariables false
namespace Pv
open PySem L2
/-! ### the deck's forms -/
theorem kl_mixed (b : Bool) : ¬ keyL b = ("mixed" : Str) := by cases b <;> decide +kernel
theorem kc_mixed (b : Bool) : ¬ ("mixed" : Str) = keyC b := by cases b <;> decide +kernel
theorem kl_kc (a b : Bool) : ¬ keyL a = keyC b := by cases a <;> cases b <;> decide +kernel
theorem keyne {a b : Str} (h : ¬ a = b) : ¬ (Sum.inr a : Key) = Sum.inr b := fun z => h (Sum.inr.inj z)
section
variable {G : Gs} {c : Addr} {mx dr : Int}
theorem dk_left : valV (deckK G c mx dr) (Sum.inr (keyL G.dl)) = some (.ref c) := valV_pos rfl
theorem dk_mixed : valV (deckK G c mx dr) (Sum.inr ("mixed" : Str)) = some (.int mx) := (valV_neg (keyne (kl_mixed _))).trans (valV_pos rfl)
theorem dk_cnt : valV (deckK G c mx dr) (Sum.inr (keyC G.dc)) = some (.int dr) := (valV_neg (keyne (kl_kc _ _))).trans ((valV_neg (keyne (kc_mixed _))).trans (valV_pos rfl))
theorem dk_putM (z : Int) : putK (deckK G c mx dr) (Sum.inr ("mixed" : Str)) (.int z) = deckK G c z dr := by
  unfold putK deckK
  have h1 := kl_mixed G.dl
  have h2 := fun z : keyC G.dc = ("mixed" : Str) => kc_mixed G.dc z.symm
  simp [h1]
  exact fun z => absurd z h2
theorem dk_putC (z : Int) : putK (deckK G c mx dr) (Sum.inr (keyC G.dc)) (.int z) = deckK G c mx z := by
  unfold putK deckK
  have h1 := kl_kc G.dl G.dc
  have h2 := kc_mixed G.dc
  simp [h1, h2]
end
def wDkI (i : Nat) : WE := fun ρ Q _ => ∃ m, ρ[i]? = some (some (.deck m)) ∧ ∀ k : Int, Q (.d (.int k)) ρ
section
variable {G : Gs} {W : WX} {as : List Nat}
theorem se_dkI {s : Str} (i : Nat) (hs : s = "mixed" ∨ s = keyC G.dc) : SE G W (tDGet (tVar i) (tC (.str s))) (wDkI i) := by
  intro σ ρ F H T Q Qd Ed S h kq ke
  obtain ⟨m, hm, h⟩ := h
  obtain ⟨v, hv, S1⟩ := S.out hm
  obtain ⟨p, mx, dr, ns, rfl, hp, hc, hl, pc, _, _⟩ := S1.headDk
  refine ⟨_, hv, p, ?_⟩
  rcases hs with rfl | rfl
  · exact ⟨.int mx, rfl, by have := DGet.k (k := Sum.inr ("mixed" : Str)) hp; rw [dk_mixed] at this; exact this, kq _ _ _ F H (h mx) (Ex.refl F) (S.addD (.int _))⟩
  · exact ⟨.int dr, rfl, by have := DGet.k (k := Sum.inr (keyC G.dc)) hp; rw [dk_cnt] at this; exact this, kq _ _ _ F H (h dr) (Ex.refl F) (S.addD (.int _))⟩
def wDkS (i : Nat) (m : WE) : WS := fun ρ De => m ρ (fun o ρ1 => match o with
  | .d (.int _) => (∃ m, ρ1[i]? = some (some (.deck m))) ∧ De.nx ρ1
  | _ => False) De.ex
theorem ss_dkS {s : Str} {tv : TE} {mv : WE} (i : Nat) (hs : s = "mixed" ∨ s = keyC G.dc) (h1 : SE G W tv mv) : SS G W as (sDPut (tVar i) (tC (.str s)) tv) (wDkS i mv) := by
  intro σ ρ F H T D De S h br
  refine h1 σ ρ F H T _ _ De.ex S h (fun o ρ1 v F1 H1 hq e S1 => ?_) br.ke
  cases o with
  | d y =>
    have r := S1.headD
    cases r with
    | int z =>
      obtain ⟨⟨m, hm⟩, hq⟩ := hq
      obtain ⟨v, hv, S2⟩ := S1.drop.out hm
      obtain ⟨p, mx, dr, ns, rfl, hp, hc, hl, pc, put, _⟩ := S2.headDk
      refine ⟨_, hv, p, ?_⟩
      have lt : (deckK G m.2 mx dr).length < sizeLine := by rw [sizeLine_eq]; show 3 < _; decide
      have back : ρ1.set i (some (.deck m)) = ρ1 := by
        apply List.ext_getElem?
        intro j
        by_cases q : i = j
        · subst q
          rw [List.getElem?_set_self (List.getElem?_eq_some_iff.mp hm).1, hm]
        · rw [List.getElem?_set_ne q]
      have fin : ∀ mx' dr', D.nx σ (upd H1 p (.dK (deckK G m.2 mx' dr'))) := fun mx' dr' => by
        have S3 := (put mx' dr').back hv (.deck m) rfl
        rw [back] at S3
        exact br.nx σ ρ1 F1 _ hq e S3 (Kp.refl _ _)
      rcases hs with rfl | rfl
      · exact ⟨_, rfl, DPut.k (k := Sum.inr ("mixed" : Str)) hp lt, by rw [dk_putM]; exact fin _ _⟩
      · exact ⟨_, rfl, DPut.k (k := Sum.inr (keyC G.dc)) hp lt, by rw [dk_putC]; exact fin _ _⟩
    | _ => exact hq.elim
  | _ => exact hq.elim
def wDkE (i : Nat) : WE := fun ρ Q _ => ∃ m, ρ[i]? = some (some (.deck m)) ∧ Q (.d (.bl (m.1 != 0))) ρ
theorem flat_ints : ∀ ns : List Int, flatDs (ns.map D.int) = true
  | [] => by unfold flatDs; rfl
  | n :: ns => by
    show flatDs (D.int n :: ns.map D.int) = true
    unfold flatDs
    rw [flat_ints ns]
    unfold flatD
    rfl
theorem py_ints : ∀ ns : List Int, toPys (ns.map D.int) = ns.map PyData.int
  | [] => by unfold toPys; rfl
  | n :: ns => by
    show toPys (D.int n :: ns.map D.int) = _
    unfold toPys
    rw [py_ints ns]
    unfold toPy
    rfl
theorem dp_ints {K : PySem.W.Frag} {H : Hp} : ∀ ns : List Int, DpAll K H (ns.map V.int) (ns.map PyData.int)
  | [] => .nil
  | n :: ns => .cons (.int n) (dp_ints ns)
theorem lay_ints : ∀ ns : List Int, PyData.canLayAll0 (ns.map PyData.int) = true
  | [] => by unfold PyData.canLayAll0; rfl
  | n :: ns => by
    show PyData.canLayAll0 (PyData.int n :: ns.map PyData.int) = true
    unfold PyData.canLayAll0
    rw [lay_ints ns]
    unfold PyData.canLay0
    rfl
theorem dep_ints : ∀ ns : List Int, PyData.depthAll (ns.map PyData.int) = 0
  | [] => by unfold PyData.depthAll; rfl
  | n :: ns => by
    show PyData.depthAll (PyData.int n :: ns.map PyData.int) = 0
    unfold PyData.depthAll
    rw [dep_ints ns]
    unfold PyData.depth
    rfl
theorem shaped_ints (ns : List Int) : SeqAt.shaped (.list (ns.map PyData.int)) = true := by
  unfold SeqAt.shaped PyData.canLay0 PyData.depth
  rw [lay_ints, dep_ints]
  rfl
theorem se_dkE (i : Nat) : SE G W (tOp (rNeU G.K) (tDGet (tVar i) (tC (.str (keyL G.dl)))) (tLst tNil)) (wDkE i) := by
  intro σ ρ F H T Q Qd Ed S h kq ke
  obtain ⟨m, hm, h⟩ := h
  obtain ⟨v, hv, S1⟩ := S.out hm
  obtain ⟨p, mx, dr, ns, rfl, hp, hc, hl, pc, _, _⟩ := S1.headDk
  refine ⟨_, hv, p, .ref m.2, rfl, by have := DGet.k (k := Sum.inr (keyL G.dl)) hp; rw [dk_left] at this; exact this, by show 0 ≤ sizeLine; omega, fun q hq => .inr (.inl ⟨_, _, .lst (SqL.of ?_) (dp_ints ns), .lst (SqL.of upd_same) .nil, shaped_ints ns, shaped_ints [], ?_⟩)⟩
  · rw [upd_ne (by rintro rfl; rw [hc] at hq; cases hq)]; exact hc
  · have e : (!PyData.eqv (.list (ns.map PyData.int)) (.list [])) = (m.1 != 0) := by
      rw [← hl]
      cases ns with
      | nil => rfl
      | cons n ns => rfl
    rw [e]
    exact kq _ _ _ F _ h (Ex.refl F) ((S.step (Ex.new hq)).addD (.bl _))
def wDkPop (i : Nat) : WE := fun ρ Q _ => ∃ m : Nat × Addr, ρ[i]? = some (some (.deck m)) ∧ 0 < m.1 ∧ ∀ k : Int, Q (.d (.int k)) (ρ.set i (some (.deck (m.1 - 1, m.2))))
theorem se_dkPop (i : Nat) : SE G W (tBM0 G.K "list" rPop (tDGet (tVar i) (tC (.str (keyL G.dl))))) (wDkPop i) := by
  intro σ ρ F H T Q Qd Ed S h kq ke
  obtain ⟨m, hm, h0, h⟩ := h
  obtain ⟨v, hv, S1⟩ := S.out hm
  obtain ⟨p, mx, dr, ns, rfl, hp, hc, hl, pc, _, put⟩ := S1.headDk
  have lt : ns.length - 1 < ns.length := by omega
  refine ⟨_, hv, p, .ref m.2, rfl, by have := DGet.k (k := Sum.inr (keyL G.dl)) hp; rw [dk_left] at this; exact this, .inl ⟨rfl, _, SqL.of hc⟩, m.2, _, .int (ns[ns.length - 1]), rfl, rfl, hc, ?_, ?_⟩
  · rw [List.length_map, List.getElem?_map, List.getElem?_eq_getElem lt]; rfl
  · have e : (ns.map V.int).dropLast = ns.dropLast.map V.int := by rw [List.dropLast_eq_take, List.dropLast_eq_take, List.map_take, List.length_map]
    rw [e]
    have S2 := (put ns.dropLast).back hv _ rfl
    have e2 : (ns.dropLast.length, m.2) = (m.1 - 1, m.2) := by rw [List.length_dropLast, hl]
    rw [e2] at S2
    exact kq _ _ _ F _ (h _) (Ex.refl F) (S2.addD (.int _))
def wDkApp (i : Nat) (mv : WE) : WE := fun ρ Q E => ∃ m : Nat × Addr, ρ[i]? = some (some (.deck m)) ∧ mv ρ (fun o ρ1 => match o with
  | .d (.int _) => ∃ m1 : Nat × Addr, ρ1[i]? = some (some (.deck m1)) ∧ m1.2 = m.2 ∧ m1.1 < sizeLine ∧ Q (.d .non) (ρ1.set i (some (.deck (m1.1 + 1, m1.2))))
  | _ => False) E
theorem se_dkApp {tv : TE} {mv : WE} (i : Nat) (h2 : SE G W tv mv) : SE G W (tBM G.K "list" rAppend (tDGet (tVar i) (tC (.str (keyL G.dl)))) (tCons tv tNil)) (wDkApp i mv) := by
  intro σ ρ F H T Q Qd Ed S h kq ke
  obtain ⟨m, hm, h⟩ := h
  obtain ⟨v, hv, S1⟩ := S.out hm
  obtain ⟨p, mx, dr, ns, rfl, hp, hc, hl, pc, _, put⟩ := S1.headDk
  refine ⟨_, hv, p, .ref m.2, rfl, by have := DGet.k (k := Sum.inr (keyL G.dl)) hp; rw [dk_left] at this; exact this, .inl ⟨rfl, _, SqL.of hc⟩, h2 σ ρ F H T _ _ Ed S h (fun o ρ1 v F1 H1 q e1 S1 => ?_) ke⟩
  cases o with
  | d y =>
    have r := S1.headD
    cases r with
    | int z =>
      obtain ⟨m1, hm1, em, hlt, q⟩ := q
      obtain ⟨v2, hv2, S3⟩ := S1.drop.out hm1
      obtain ⟨p2, mx2, dr2, ns2, rfl, hp2, hc2, hl2, pc2, _, put2⟩ := S3.headDk
      refine ⟨m.2, ns2.map V.int, .int z, rfl, rfl, by rw [← em]; exact hc2, by rw [List.length_map, hl2]; exact hlt, ?_⟩
      have S4 := (put2 (ns2 ++ [z])).back hv2 _ rfl
      rw [List.map_append, em] at S4
      have e2 : ((ns2 ++ [z]).length, m.2) = (m1.1 + 1, m1.2) := by rw [List.length_append, hl2, em]; rfl
      rw [e2] at S4
      exact kq _ _ _ F1 _ q e1 (S4.addD .non)
    | _ => exact q.elim
  | _ => exact q.elim
/-- {'left': a, 'mixed': b, 'draws': c} -/
def wDkNew (m1 m2 m3 : WE) : WE := fun ρ Q E => m1 ρ (fun o ρ1 => match o with
  | .lst xs => ∃ ns : List Int, xs = ns.map D.int ∧ m2 ρ1 (fun o ρ2 => match o with
    | .d (.int _) => m3 ρ2 (fun o ρ3 => match o with
      | .d (.int _) => ∀ a : Addr, Q (.deck (ns.length, a)) ρ3
      | _ => False) E
    | _ => False) E
  | _ => False) E
theorem se_dkNew {t1 t2 t3 : TE} {m1 m2 m3 : WE} (h1 : SE G W t1 m1) (h2 : SE G W t2 m2) (h3 : SE G W t3 m3) :
    SE G W (tDisp [(tC (.str (keyL G.dl)), t1), (tC (.str ("mixed" : Str)), t2), (tC (.str (keyC G.dc)), t3)]) (wDkNew m1 m2 m3) := by
  intro σ ρ F H T Q Qd Ed S h kq ke
  intro p hp
  have S0 : Stt G F (upd H p (.dK [])) σ ρ ((.ref p, .dic []) :: T) := S.newK hp .nil
  refine h1 σ ρ F _ ((.ref p, .dic []) :: T) _ _ Ed S0 h (fun o ρ1 v1 F1 H1 q1 e1 S1 => ?_) ke.more
  cases o with
  | lst xs =>
    obtain ⟨ns, rfl, q1⟩ := q1
    refine h2 σ ρ1 F1 H1 ((v1, .lst (ns.map D.int)) :: (.ref p, .dic []) :: T) _ _ Ed S1 q1 (fun o ρ2 v2 F2 H2 q2 e2 S2 => ?_) (ke.up e1).more.more
    cases o with
    | d y =>
      have r := S2.headD
      cases r with
      | int mx =>
        refine h3 σ ρ2 F2 H2 ((v1, .lst (ns.map D.int)) :: (.ref p, .dic []) :: T) _ _ Ed S2.drop q2 (fun o ρ3 v3 F3 H3 q3 e3 S3 => ?_) (ke.up (e1.trans e2)).more.more
        cases o with
        | d y =>
          have r := S3.headD
          cases r with
          | int dr =>
            obtain ⟨p', cc, ep, rfl, hpk, put⟩ := S3.drop.mkDk
            cases ep
            refine ⟨hpk, deckK G cc mx dr, rfl, by show 3 ≤ 15; decide, ?_⟩
            have em : mergeK [] (deckK G cc mx dr) = deckK G cc mx dr := by
              have n1 := kl_mixed G.dl
              have n2 := kl_kc G.dl G.dc
              have n3 := kc_mixed G.dc
              simp [mergeK, deckK, putK, n1, n2, n3]
            rw [em]
            exact kq _ _ _ F3 _ (q3 cc) (e1.trans (e2.trans e3)) (put mx dr)
          | _ => exact q3.elim
        | _ => exact q3.elim
      | _ => exact q2.elim
    | _ => exact q2.elim
  | _ => exact q1.elim
end
section
variable {X : Cx} {G : Gs} {W : WX} {c : Cs} {as : List Nat}
/-! ### the deck's forms, seen in the text -/
def dkName (c : Cs) (e : Expr) : Option Nat := match nameSlot c e with
  | some i => if c.dk.contains i then some i else none
  | none => none
theorem dkName_ok (ok : CtxOk X G W c) {e : Expr} {i : Nat} (h : dkName c e = some i) : PE X e (tVar i) := by
  unfold dkName at h
  split at h
  · rename_i j hj
    split at h
    · cases h; exact nameSlot_ok ok hj
    · cases h
  · cases h
/-- d['mixed'], d['draws'] -/
def isCnt (c : Cs) : Expr → Option Str
  | .Constant (.str s) _ _ => if s = "mixed" ∨ s = keyC c.dc then some s else none
  | _ => none
theorem isCnt_ok {e : Expr} {s : Str} (h : isCnt c e = some s) : ∃ j p, e = .Constant (.str s) j p ∧ (s = "mixed" ∨ s = keyC c.dc) := by
  unfold isCnt at h
  split at h
  · split at h
    · cases h; exact ⟨_, _, rfl, by assumption⟩
    · cases h
  · cases h
def isLeft (c : Cs) : Expr → Bool
  | .Constant (.str s) _ _ => decide (s = keyL c.dl)
  | _ => false
theorem isLeft_ok {e : Expr} (h : isLeft c e = true) : ∃ j p, e = .Constant (.str (keyL c.dl)) j p := by
  unfold isLeft at h
  split at h
  · cases of_decide_eq_true h; exact ⟨_, _, rfl⟩
  · cases h
theorem noSl_str {s : Str} {j : Nat} {p : Pos} : NoSl (.Constant (.str s) j p) := by intro ov iv; rfl
/-- d['left'] -/
def leftOf (c : Cs) : Expr → Option Nat
  | .Subscript a b _ => if isLeft c b then dkName c a else none
  | _ => none
theorem leftOf_ok (ok : CtxOk X G W c) {e : Expr} {i : Nat} (h : leftOf c e = some i) : PE X e (tDGet (tVar i) (tC (.str (keyL G.dl)))) ∧ ∀ m env w, attributeBase e m env w = w := by
  unfold leftOf at h
  split at h
  · split at h
    · rename_i hl
      obtain ⟨j, p, rfl⟩ := isLeft_ok hl
      have hu : X.A.units + 1 < cLine := by have := ok.un; omega
      rw [ok.dl]
      exact ⟨pe_dget hu (dkName_ok ok h) pe_str noSl_str, fun _ _ _ => rfl⟩
    · cases h
  · cases h
def isNil : Expr → Bool
  | .List [] _ => true
  | _ => false
def isDk3 (c : Cs) : List (Option Expr) → Bool
  | [some a, some b, some d] => isLeft c a && (match b with | .Constant (.str s) _ _ => decide (s = "mixed") | _ => false) && (match d with | .Constant (.str s) _ _ => decide (s = keyC c.dc) | _ => false)
  | _ => false
def xE (c : Cs) (E : Expr → WE) : Expr → Option WE
  | .Subscript a b _ => (match dkName c a with | some i => (match isCnt c b with | some _ => some (wDkI i) | none => none) | none => none)
  | .Compare a [.NotEq] [b] _ => (match leftOf c a with | some i => if isNil b then some (wDkE i) else none | none => none)
  | .Call (.Attribute o m ap) es [] cp => (match leftOf c o with
      | some i => if ap.endLine == cp.line then (if m = "pop" then (match es with | [] => some (wDkPop i) | _ => none)
          else if m = "append" then (match es with | [a] => if notStar a then some (wDkApp i (E a)) else none | _ => none) else none) else none
      | none => none)
  | .Dict ks [a, b, d] _ => if isDk3 c ks then some (wDkNew (E a) (E b) (E d)) else none
  | _ => none
theorem xE_ok (ok : CtxOk X G W c) {E : Expr → WE} (h : ∀ e, JE X G W e (E e)) {e : Expr} {m : WE} (hm : xE c E e = some m) : JE X G W e m := by
  have hu : X.A.units + 1 < cLine := by have := ok.un; omega
  have hK := ok.K
  unfold xE at hm
  split at hm
  · split at hm
    · rename_i i hi
      split at hm
      · rename_i s hs
        cases hm
        obtain ⟨j, p, rfl, hc⟩ := isCnt_ok hs
        exact ⟨_, pe_dget hu (dkName_ok ok hi) pe_str noSl_str, se_dkI i (by rw [ok.dc]; exact hc)⟩
      · cases hm
    · cases hm
  · split at hm
    · rename_i i hi
      split at hm
      · rename_i hn
        cases hm
        rename_i a b _ _
        have hb : PE X b (tLst tNil) := by
          cases b <;> first | cases hn | skip
          rename_i es p
          cases es with
          | nil => exact pe_lst pa_nil
          | cons _ _ => cases hn
        exact ⟨_, pe_cmpR (op_neU (by have := ok.un; omega)) (leftOf_ok ok hi).1 hb (nomark b (by decide) (by decide)), by rw [hK]; exact se_dkE i⟩
      · cases hm
    · cases hm
  · split at hm
    · rename_i i hi
      split at hm
      · rename_i hl
        split at hm
        · rename_i e; subst e
          split at hm
          · cases hm
            exact ⟨_, pe_bm0 F.plainAttrs_list F.slot_list_pop F.type_list_pop mt_pop (leftOf_ok ok hi).1 ((leftOf_ok ok hi).2 _ _ _) hl, by rw [hK]; exact se_dkPop i⟩
          · cases hm
        split at hm
        · rename_i e; subst e
          split at hm
          · split at hm
            · rename_i a ha
              cases hm
              obtain ⟨te, pe, se⟩ := (h a).ex
              exact ⟨_, pe_bm F.plainAttrs_list F.slot_list_append F.type_list_append mt_append (leftOf_ok ok hi).1 (pa_cons pe pa_nil (star_ok ha _ _)) ((leftOf_ok ok hi).2 _ _ _) (by rw [star_ok ha [] X.env]; rfl) hl (star_ok ha _ _) rfl, by rw [hK]; exact se_dkApp i se⟩
            · cases hm
          · cases hm
        · cases hm
      · cases hm
    · cases hm
  · split at hm
    · rename_i ks a b d _ hk
      cases hm
      obtain ⟨t1, p1, s1⟩ := (h a).ex
      obtain ⟨t2, p2, s2⟩ := (h b).ex
      obtain ⟨t3, p3, s3⟩ := (h d).ex
      unfold isDk3 at hk
      split at hk
      · rename_i x y z
        simp only [Bool.and_eq_true] at hk
        obtain ⟨⟨q1, q2⟩, q3⟩ := hk
        obtain ⟨j, p, rfl⟩ := isLeft_ok q1
        split at q2
        · cases of_decide_eq_true q2
          split at q3
          · cases of_decide_eq_true q3
            have := se_dkNew (G := G) (W := W) s1 s2 s3
            rw [ok.dl, ok.dc] at this
            exact ⟨_, pe_disp (pps_cons pe_str p1 (pps_cons pe_str p2 (pps_cons pe_str p3 pps_nil))) rfl rfl (by intro z; cases z) (by show 3 ≤ 15; decide), this⟩
          · cases q3
        · cases q2
      · cases hk
    · cases hm
  · cases hm
/-- d['mixed'] = e -/
def xAsg (c : Cs) (E : Expr → WE) (t v : Expr) : Option WS := match t with
  | .Subscript a b _ => (match dkName c a with | some i => (match isCnt c b with | some _ => if noCompX v then some (wDkS i (E v)) else none | none => none) | none => none)
  | _ => none
where noCompX : Expr → Bool
  | .ListComp _ _ _ _ => false
  | .SetComp _ _ _ _ => false
  | .DictComp _ _ _ _ _ => false
  | _ => true
theorem xAsg_ok (ok : CtxOk X G W c) {E : Expr → WE} (h : ∀ e, JE X G W e (E e)) {t v : Expr} {m : WS} {pos : Pos} (hm : xAsg c E t v = some m) : ∃ tt, PS X (.Assign [t] v pos) tt ∧ SS G W as tt m := by
  have hu : X.A.units + 1 < cLine := by have := ok.un; omega
  unfold xAsg at hm
  split at hm
  · split at hm
    · rename_i i hi
      split at hm
      · rename_i s hs
        split at hm
        · rename_i hn
          cases hm
          obtain ⟨j, p, rfl, hc⟩ := isCnt_ok hs
          obtain ⟨te, pe, se⟩ := (h v).ex
          exact ⟨_, ps_dput hu (dkName_ok ok hi) pe_str pe (by cases v <;> first | rfl | cases hn), ss_dkS i (by rw [ok.dc]; exact hc) se⟩
        · cases hm
      · cases hm
    · cases hm
  · cases hm
end
end Pv

set_option Elab.async false
set_option maxRecDepth 100000
set_option maxHeartbeats 4000000
set_option autoImplicit false
set_option linter.unusedVariables false
namespace Pv
open PySem L2
/-! ### objects of classes of one's own -/
def putFD (f : Str) (x : D) : List (Str × D) → List (Str × D)
  | [] => [(f, x)]
  | (g, y) :: r => if g = f then (g, x) :: r else (g, y) :: putFD f x r
def insO : O → Option (Str × List (Str × D))
  | .ins c fs => some (c, fs)
  | .d (.ins c fs) => some (c, fs)
  | _ => none
section
variable {G : Gs} {F : Hp}
theorem RepPs.putF {ks : List (Str × V)} {kvs : List (Str × D)} (r : RepPs G F ks kvs) (f : Str) {v : V} {x : D} (rv : RepD G F v x) : RepPs G F (putF f v ks) (putFD f x kvs) := by
  induction kvs generalizing ks with
  | nil => cases r; exact .cons rv .nil
  | cons y ys ih =>
    cases r with
    | @cons _ k' v' x' vs' _ h r =>
      by_cases e : k' = f
      · have e1 : L2.putF f v ((k', v') :: vs') = (k', v) :: vs' := if_pos e
        have e2 : putFD f x ((k', x') :: ys) = (k', x) :: ys := if_pos e
        rw [e1, e2]
        exact .cons rv r
      · have e1 : L2.putF f v ((k', v') :: vs') = (k', v') :: L2.putF f v vs' := if_neg e
        have e2 : putFD f x ((k', x') :: ys) = (k', x') :: putFD f x ys := if_neg e
        rw [e1, e2]
        exact .cons h (ih r)
end
section
variable {G : Gs} {F F' H : Hp}
theorem Own.headI {v : V} {c : Str} {gs : List (Str × D)} {is : List (V × O)} (h : Own G F H ((v, .ins c gs) :: is)) : ∃ p C dx fs, v = .ref p ∧ G.cl c = some C ∧ H p = some (.ins C dx fs) ∧ RepPs G F fs gs ∧
    (∀ fs' gs', RepPs G F fs' gs' → Own G F (upd H p (.ins C dx fs')) ((v, .ins c gs') :: is)) := by
  obtain ⟨e, fp, ri, nd, fr⟩ := h
  cases ri with
  | @cons _ _ _ f1 f2 h r =>
    obtain ⟨p, C, dx, fs, rfl, rfl, hc, hp, hdx, q⟩ := h
    have n1 := List.nodup_cons.mp nd
    have n2 := List.nodup_cons.mp n1.2
    have np : p ∉ f2 := fun z => n1.1 (by simp [z])
    have pdx : p ≠ dx := fun z => n1.1 (by simp [z])
    refine ⟨p, C, dx, fs, rfl, hc, hp, q, fun fs' gs' q' => ⟨fun a u z => ?_, _, RepI.cons ⟨p, C, dx, fs', rfl, rfl, hc, upd_same, by rw [upd_ne (Ne.symm pdx)]; exact hdx, q'⟩ (r.frame (Ex.refl F) fun a ha u z => ?_), nd, fr⟩⟩
    · have : a ≠ p := by rintro rfl; rw [fr a (by simp)] at z; cases z
      rw [upd_ne this]; exact e a u z
    · rw [upd_ne (ne_mem np ha)]; exact z
theorem Own.newI {p dx C : Addr} {c : Str} {is : List (V × O)} (h : Own G F H is) (hc : G.cl c = some C) (hp : H p = none) (hd : H dx = none) (ne : dx ≠ p) : Own G F (upd (upd H dx (.own p)) p (.ins C dx [])) ((.ref p, .ins c []) :: is) := by
  obtain ⟨e, fp, ri, nd, fr⟩ := h
  have np : p ∉ fp := fun m => by obtain ⟨u, q⟩ := ri.trk p m; rw [hp] at q; cases q
  have nx : dx ∉ fp := fun m => by obtain ⟨u, q⟩ := ri.trk dx m; rw [hd] at q; cases q
  have eH : Ex H (upd (upd H dx (.own p)) p (.ins C dx [])) := (Ex.new hd).trans (Ex.new (by rw [upd_ne (Ne.symm ne)]; exact hp))
  refine ⟨e.trans eH, p :: dx :: fp, RepI.cons (f1 := [p, dx]) ⟨p, C, dx, [], rfl, rfl, hc, upd_same, by rw [upd_ne ne]; exact upd_same, .nil⟩ (ri.frame (Ex.refl F) fun a ha u q => eH a u q), ?_, fun a ha => ?_⟩
  · refine List.nodup_cons.mpr ⟨fun m => ?_, List.nodup_cons.mpr ⟨nx, nd⟩⟩
    rcases List.mem_cons.mp m with m | m
    · exact ne m.symm
    · exact np m
  · rcases List.mem_cons.mp ha with rfl | ha
    · exact e.free hp
    · rcases List.mem_cons.mp ha with rfl | ha
      · exact e.free hd
      · exact fr a ha
end
section
variable {G : Gs} {W : WX} {as : List Nat} {F H : Hp} {σ : St} {ρ : Sl} {T : List (V × O)}
/-- a slot's object -/
theorem Stt.insAt {i : Nat} {o : O} {c : Str} {gs : List (Str × D)} (S : Stt G F H σ ρ T) (ho : ρ[i]? = some (some o)) (hd : insO o = some (c, gs)) : ∃ p C dx fs, σ[i]? = some (some (.ref p)) ∧ G.cl c = some C ∧ H p = some (.ins C dx fs) ∧ RepPs G F fs gs := by
  obtain ⟨v, hv, S1⟩ := S.out ho
  cases o with
  | ins c' xs =>
    cases hd
    obtain ⟨p, C, dx, fs, rfl, hc, hp, r, _⟩ := (show Own G F H _ from S1.2.perm List.perm_middle).headI
    exact ⟨p, C, dx, fs, hv, hc, hp, r⟩
  | d x =>
    have r := S1.headD
    cases x <;> simp only [insO, Option.some.injEq, reduceCtorEq] at hd
    cases hd
    cases r with
    | ins hc h r => exact ⟨_, _, _, _, hv, hc, S.ex _ _ h, r⟩
  | _ => cases hd
/-- e.f: of a slot, of data -/
def wFldV (ok : Str → Str → Bool) (i : Nat) (f : Str) : WE := fun ρ Q _ => ∃ o c fs x, ρ[i]? = some (some o) ∧ insO o = some (c, fs) ∧ ok c f = true ∧ fs.lookup f = some x ∧ Q (.d x) ρ
def wFld (ok : Str → Str → Bool) (f : Str) (m : WE) : WE := fun ρ Q E => m ρ (fun o ρ1 => cold o fun y => ∃ c fs x, y = .ins c fs ∧ ok c f = true ∧ fs.lookup f = some x ∧ Q (.d x) ρ1) E
def FldOk (G : Gs) (ok : Str → Str → Bool) : Prop := ∀ c f C, ok c f = true → G.cl c = some C → Cls G.K C ∧ NoAttr G.K C f
theorem se_fldV {ok : Str → Str → Bool} (hk : FldOk G ok) (i : Nat) (f : Str) : SE G W (tFld G.K (tVar i) f) (wFldV ok i f) := by
  intro σ ρ F H T Q Qd Ed S h kq ke
  obtain ⟨o, c, gs, x, ho, hi, ho2, hx, q⟩ := h
  obtain ⟨p, C, dx, fs, hv, hc, hp, r⟩ := S.insAt ho hi
  obtain ⟨v, hl, rv⟩ := r.lookup f hx
  obtain ⟨k1, k2⟩ := hk c f C ho2 hc
  exact ⟨_, hv, p, C, dx, fs, v, rfl, hp, k1, k2, hl, kq _ _ _ F H q (Ex.refl F) (S.addD rv)⟩
theorem se_fld {ok : Str → Str → Bool} (hk : FldOk G ok) (f : Str) {te : TE} {m : WE} (h1 : SE G W te m) : SE G W (tFld G.K te f) (wFld ok f m) := by
  intro σ ρ F H T Q Qd Ed S h kq ke
  refine h1 σ ρ F H T _ _ Ed S h (fun o ρ1 v F1 H1 hq e1 S1 => ?_) ke
  obtain ⟨no, c, gs, x, ey, ho2, hx, q⟩ := hq
  obtain ⟨F2, e2, S2⟩ := S1.freeze no.ne
  have r := S2.headD
  rw [ey] at r
  cases r with
  | ins hc hp r =>
    obtain ⟨v, hl, rv⟩ := r.lookup f hx
    obtain ⟨k1, k2⟩ := hk c f _ ho2 hc
    exact ⟨_, _, _, _, v, rfl, S2.ex _ _ hp, k1, k2, hl, kq _ _ _ F2 H1 q (e1.trans e2) (S2.drop.addD rv)⟩
/-- x.f = e, of an object that the slot owns -/
def wFldS (ok : Str → Str → Bool) (i : Nat) (f : Str) (mv : WE) : WS := fun ρ De => mv ρ (fun o ρ1 => cold o fun y => ∃ c fs, ρ1[i]? = some (some (.ins c fs)) ∧ ok c f = true ∧ fs.length < 1000 ∧ De.nx (ρ1.set i (some (.ins c (putFD f y fs))))) De.ex
theorem ss_fldS {ok : Str → Str → Bool} (hk : FldOk G ok) (i : Nat) (f : Str) {tv : TE} {mv : WE} (h1 : SE G W tv mv) : SS G W as (sFld G.K (tVar i) tv f) (wFldS ok i f mv) := by
  intro σ ρ F H T D De S h br
  refine h1 σ ρ F H T _ _ De.ex S h (fun o ρ1 v F1 H1 hq e1 S1 => ?_) br.ke
  obtain ⟨no, c, gs, ho, ho2, hl, q⟩ := hq
  obtain ⟨F2, e2, S2⟩ := S1.freeze no.ne
  have rv := S2.headD
  obtain ⟨w, hw, S3⟩ := S2.drop.out ho
  obtain ⟨p, C, dx, fs, rfl, hc, hp, r, put⟩ := (show Own G F2 H1 _ from S3.2.perm List.perm_middle).headI
  obtain ⟨k1, k2⟩ := hk c f C ho2 hc
  refine ⟨_, hw, p, C, dx, fs, rfl, hp, k1, k2, by rw [r.length]; exact hl, ?_⟩
  have S4 : Stt G F2 (upd H1 p (.ins C dx (putF f v fs))) σ (ρ1.set i none) ((.ref p, .ins c (putFD f _ gs)) :: T) := ⟨S3.1, (put _ _ (r.putF f rv)).perm List.perm_middle.symm⟩
  exact br.nx σ _ F2 _ q (e1.trans e2) (S4.back hw _ rfl) (Kp.refl _ _)
end
end Pv

set_option Elab.async false
set_option maxRecDepth 100000
set_option maxHeartbeats 4000000
set_option autoImplicit false
set_option linter.unusedVariables false
namespace Pv
open PySem PySem.Spec PyProof.Rows L2
/-! ### C(..): a new object, then __init__ -/
section
variable {X : Cx} {W : WX} {k n : Nat} {f C : Addr} {fd : FuncData} {ps ks : List Str} {ord : List Nat} {sp : Sp} {x : Str} {p pos : Pos} {e : Expr} {es : List Expr} {kws : List Keyword} {t tk : TA}
theorem make_guards {A : Around} {C : Addr} {us : List Value} {kw : List (Str × Value)} : (A.under (.builtin "type.__call__" ⟨.ref C :: us, kw⟩)).guards = A.guards := by
  first | rfl | simp [Around.under, Code.isGuard, Code.isFrame, guardIds]
theorem run_mkG {pins : List (Addr × Obj)} {σ : L2.St} {H : Hp} {s : Shared} {Q : VK} {us ws : List Value} {vs zs : List V} (M : Mk X.K C f) (F : FnG X.prog X.w X.K X.mg X.base k f fd ps sp) (hr : Room (k + 1) X.A) (hgd : X.A.guards = some []) (hb : Shp X.K fd ps (n + 1) ks ord) (tk : Takes X W)
    (I : Inv X pins σ H s) (r : Vals vs us) (rz : Vals zs ws) (hn : vs.length = n) (hk : zs.length = ks.length)
    (h : ∀ x dx, H x = none → H dx = none → dx ≠ x → sp (arr ord ((.ref x :: vs) ++ zs)) (upd (upd H dx (.own x)) x (.ins C dx [])) (fun v H2 => v = .non ∧ Q (.ref x) H2) (fun cls d H' => W cls d σ H')) :
    wpAny (model X.prog X.w) X.A (call (.ref C) us (ks.zip ws)) (EP X pins σ Q) X.xe s := by
  have hq := h (s.heap.objs.size + 1) s.heap.objs.size (I.hok.fresh (Nat.le_succ _)) (I.hok.fresh (Nat.le_refl _)) (Nat.ne_of_lt (Nat.lt_succ_self _))
  have I2 := Inv.made (C := C) I
  have r1 : Vals (V.ref (s.heap.objs.size + 1) :: vs) (Value.ref (s.heap.objs.size + 1) :: us) := .cons rfl r
  have hb' := hb _ (Value.ref (s.heap.objs.size + 1) :: us) ws I2.kIn (by rw [List.length_cons, ← r.length, hn]) (by rw [← rz.length]; exact hk)
  have run := F.run _ X.stack _ _ ⟨Value.ref (s.heap.objs.size + 1) :: us, ks.zip ws⟩ _ _ _ (fun cls d H' => W cls d σ H') (hr.make C us (ks.zip ws)) (by rw [make_guards]; exact hgd) (I2.env0.make C us (ks.zip ws)) hb' (Vals.arr (r1.append rz) ord) hq
  refine wpAny_call (make_map (f := f) I.kIn M.makes M.init (beq_iff_eq.mp M.fn) (codeAny_mono run fun res s' hq' => ?_))
  cases res with
  | error e => exact tk e s' (XE.of_call I2 (fun _ _ _ z => z) hq')
  | ok fl => cases fl with
    | ret u =>
      obtain ⟨v, H', I3, rv, ev, q3⟩ := I2.after hq'
      subst ev
      exact ⟨rv, ⟨V.ref (s.heap.objs.size + 1), H', I3, rfl, q3⟩⟩
    | next => exact hq'.elim
    | brk => exact hq'.elim
    | cont => exact hq'.elim
def tMkW (W : WX) (C : Addr) (sp : Sp) (n m : Nat) (ord : List Nat) (t tk : TA) : TE := fun σ H Q => t σ H fun vs H1 => tk σ H1 fun zs H2 => vs.length = n ∧ zs.length = m ∧ ∀ x dx, H2 x = none → H2 dx = none → dx ≠ x →
  sp (arr ord ((.ref x :: vs) ++ zs)) (upd (upd H2 dx (.own x)) x (.ins C dx [])) (fun v H3 => v = .non ∧ Q (.ref x) H3) (fun cls d H' => W cls d σ H')
/-- C(e, .., k = v, ..) -/
theorem pe_makeW (M : Mk X.K C f) (F : FnG X.prog X.w X.K X.mg X.base k f fd ps sp) (hr : Room (k + 1) X.A) (hgd : X.A.guards = some []) (hg : Gl X x) (hm : X.mg x = some (.ref C)) (hb : Shp X.K fd ps (n + 1) ks ord) (hx : Takes X W)
    (ha : PA X (e :: es) t) (hkw : PK X kws tk) (hall : (backToKw pos (keywordEach kws X.env)).all (·.1.isSome) = true) (hks : (backToKw pos (keywordEach kws X.env)).filterMap (·.1) = ks)
    (hdb : (x == ("__debug__" : Str)) = false) (he : starEach (e :: es) X.env = (false, eval e X.env) :: starEach es X.env)
    (hpl : ((backTo pos (starEach (e :: es) X.env)).any (·.1) || (backToKw pos (keywordEach kws X.env)).any (·.1.isNone)) = false) :
    PE X (.Call (.Name x p) (e :: es) kws pos) (tMkW W C sp n ks.length ord t tk) := by
  refine ⟨fun pins s σ H Q I h => wpAny_Call_Name_kw (ld_glob I hg hm ?_ hdb)⟩
  refine PySem.W.callWith_KW (h₀ := X.base) I.ok.mod.kin M.kp hall ?_ hpl he
  refine thn (ha.run pos pins s σ H _ I h) fun us s1 ⟨vs, H1, I1, r, q⟩ => ?_
  refine thn (hkw.run pos pins s1 σ H1 _ I1 q) fun ws s2 ⟨zs, H2, I2, rz, q1, q2, q3⟩ => ⟨I2.kIn, ?_⟩
  rw [hks]
  exact run_mkG M F hr hgd hb hx I2 r rz q1 q2 q3
/-- C(k = v, ..), C() -/
theorem pe_makeW0 (M : Mk X.K C f) (F : FnG X.prog X.w X.K X.mg X.base k f fd ps sp) (hr : Room (k + 1) X.A) (hgd : X.A.guards = some []) (hg : Gl X x) (hm : X.mg x = some (.ref C)) (hb : Shp X.K fd ps (n + 1) ks ord) (hx : Takes X W)
    (hkw : PK X kws tk) (hall : (backToKw pos (keywordEach kws X.env)).all (·.1.isSome) = true) (hks : (backToKw pos (keywordEach kws X.env)).filterMap (·.1) = ks)
    (hdb : (x == ("__debug__" : Str)) = false)
    (hpl : ((backTo pos (starEach [] X.env)).any (·.1) || (backToKw pos (keywordEach kws X.env)).any (·.1.isNone)) = false) :
    PE X (.Call (.Name x p) [] kws pos) (tMkW W C sp n ks.length ord tNil tk) := by
  refine ⟨fun pins s σ H Q I h => wpAny_Call_Name_kw (ld_glob I hg hm ?_ hdb)⟩
  refine PySem.W.callWith_KW0 (h₀ := X.base) I.ok.mod.kin M.kp hall ?_ hpl
  refine thn (hkw.run pos pins s σ H _ I h) fun ws s2 ⟨zs, H2, I2, rz, q1, q2, q3⟩ => ⟨I2.kIn, ?_⟩
  rw [hks]
  exact run_mkG (us := []) (vs := []) M F hr hgd hb hx I2 .nil rz q1 q2 q3
end
end Pv
namespace Pv
open PySem L2
section
variable {G : Gs} {W : WX}
def wMake (cn : Str) (C : Ct) (ord : List Nat) (as : Args) : WE := fun ρ Q E => wAO as ρ (fun os ρ1 => C (.ins cn [] :: arr ord os)
  (fun r os' => r = .d .non ∧ ∃ o os'', os' = some o :: os'' ∧ Q o (putb ((arr ord (as.map (·.1))).zip (arr ord os)) os'' ρ1))
  (fun e os' => ∃ o os'', os' = o :: os'' ∧ E e (putb ((arr ord (as.map (·.1))).zip (arr ord os)) os'' ρ1))) E
theorem arr_up {α : Type} [Inhabited α] (x : α) (ord : List Nat) (xs : List α) : arr (up1 ord) (x :: xs) = x :: arr ord xs := by
  unfold arr up1
  rw [List.map_cons, List.map_map]
  congr 1
theorem se_make {t tk : TA} {a b : Args} {cn : Str} {Ca : Addr} {C : Ct} {ord : List Nat} {n m : Nat} (hc : G.cl cn = some Ca) (h1 : AO G W t a) (h2 : SAO G W tk b) (hn : a.length = n) (hm : b.length = m) (ho : ord.Perm (List.range (n + m))) :
    SE G W (tMkW W Ca (spOf G (n + m + 1) C) n m (up1 ord) t tk) (wMake cn C ord (a ++ b)) := by
  subst hn hm
  have h3 := sao_app h1 h2
  intro σ ρ F H T Q Qd Ed S h kq ke
  have z : tApp a.length b.length t tk σ H fun vs H2 => ∀ x dx, H2 x = none → H2 dx = none → dx ≠ x → spOf G (a.length + b.length + 1) C (.ref x :: arr ord vs) (upd (upd H2 dx (.own x)) x (.ins Ca dx [])) (fun v H3 => v = .non ∧ Q (.ref x) H3) (fun cls d H' => W cls d σ H') := by
    refine h3 σ ρ F H T _ _ Ed S h (fun os ρ1 vs F1 H1 hq e1 hl S1 bo => ?_) ke
    intro x dx hx hdx ne
    have hlv : vs.length = a.length + b.length := by rw [← bo.len, List.length_append]
    have ol : ord.length = a.length + b.length := by rw [ho.length_eq, List.length_range]
    have pz : ((arr ord vs).zip (arr ord os)).Perm (vs.zip os) := arr_zip (by rw [hlv]; exact ho) hl
    have back : ∀ (j i : Nat) (o : O), (((arr ord ((a ++ b).map (·.1))).zip (arr ord os)))[j]? = some (some i, o) → ∃ v, (arr ord vs)[j]? = some v ∧ σ[i]? = some (some v) := by
      intro j i o hj
      obtain ⟨h1, _⟩ := List.getElem?_zip_eq_some.mp hj
      unfold arr at h1 ⊢
      rw [List.getElem?_map] at h1 ⊢
      obtain ⟨k, hk, e⟩ := Option.map_eq_some_iff.mp h1
      have kn : k < (a ++ b).length := by
        have := ho.mem_iff.mp (List.mem_of_getElem? hk)
        rw [List.length_append]
        simpa using this
      have e2 : ((a ++ b).map (·.1)).getD k default = (a ++ b)[k].1 := by
        rw [List.getD_eq_getElem?_getD, List.getElem?_map, List.getElem?_eq_getElem kn]; rfl
      rw [e2] at e
      obtain ⟨v, hv, hs⟩ := bo.get (j := k) (i := i) (m := (a ++ b)[k].2) (by rw [List.getElem?_eq_getElem kn]; exact congrArg some (Prod.ext e rfl))
      refine ⟨v, ?_, hs⟩
      rw [hk]
      simp [List.getD_eq_getElem?_getD, hv]
    have mv : ∀ {F2 H2 : Hp} {l r : List (V × O)}, Own G F2 H2 (l ++ (its σ ρ1 ++ r)) → Own G F2 H2 (its σ ρ1 ++ (l ++ r)) := fun {F2 H2 l r} o => o.perm (by
      rw [← List.append_assoc, ← List.append_assoc]
      exact List.Perm.append_right _ List.perm_append_comm)
    refine ⟨by rw [List.length_cons, arr_len, ol], F1, its σ ρ1 ++ T, .ins cn [] :: arr ord os, _, _, by rw [List.length_cons, arr_len, ol], ?_, hq, fun r os' v F' H' q e' O' => ?_, fun e os' F' H' cls d q e' O' xr => ?_⟩
    · have o1 : Own G F1 H1 ((arr ord vs).zip (arr ord os) ++ (its σ ρ1 ++ T)) := by
        refine S1.2.perm ?_
        refine List.Perm.trans ?_ (pz.symm.append_right _)
        rw [← List.append_assoc, ← List.append_assoc]
        exact List.Perm.append_right _ List.perm_append_comm
      exact o1.newI hc hx hdx ne
    · obtain ⟨er, o, os'', eo, q⟩ := q
      subst er eo
      have rv : RepD G F' v .non := O'.headD
      cases rv
      refine ⟨rfl, ?_⟩
      have O2 : Own G F' H' (its ((arr ord vs).map some) os'' ++ (its σ ρ1 ++ ((.ref x, o) :: T))) := by
        have O3 : Own G F' H' ((V.ref x, o) :: (its ((arr ord vs).map some) os'' ++ (its σ ρ1 ++ T))) := O'.drop
        refine O3.perm ?_
        rw [← List.append_assoc, ← List.append_assoc]
        exact List.perm_middle.symm
      have S2 : Stt G F' H' σ ρ1 (its ((arr ord vs).map some) os'' ++ ((.ref x, o) :: T)) := ⟨S1.1, mv O2⟩
      exact kq o _ (.ref x) F' H' q (e1.trans e') (putb_ok S2 (by rw [List.length_zip, arr_len, arr_len, arr_len]; omega) back)
    · obtain ⟨o, os'', eo, q⟩ := q
      subst eo
      have O2 : Own G F' H' (its ((arr ord vs).map some) os'' ++ (its σ ρ1 ++ T)) := by
        cases o with
        | none => exact O'
        | some o => exact (show Own G F' H' ((V.ref x, o) :: (its ((arr ord vs).map some) os'' ++ (its σ ρ1 ++ T))) from O').drop
      have S2 : Stt G F' H' σ ρ1 (its ((arr ord vs).map some) os'' ++ T) := ⟨S1.1, mv O2⟩
      exact ke e _ F' H' cls d q (e1.trans e') (putb_ok S2 (by rw [List.length_zip, arr_len, arr_len, arr_len]; omega) back) xr
  have z2 : t σ H fun vs H1 => tk σ H1 fun zs H2 => vs.length = a.length ∧ zs.length = b.length ∧ ∀ x dx, H2 x = none → H2 dx = none → dx ≠ x → spOf G (a.length + b.length + 1) C (.ref x :: arr ord (vs ++ zs)) (upd (upd H2 dx (.own x)) x (.ins Ca dx [])) (fun v H3 => v = .non ∧ Q (.ref x) H3) (fun cls d H' => W cls d σ H') := z
  show t σ H fun vs H1 => tk σ H1 fun zs H2 => vs.length = a.length ∧ zs.length = b.length ∧ ∀ x dx, H2 x = none → H2 dx = none → dx ≠ x → spOf G (a.length + b.length + 1) C (arr (up1 ord) (.ref x :: (vs ++ zs))) _ _ _
  simp only [arr_up]
  exact z2
end
end Pv

set_option Elab.async false
set_option maxRecDepth 100000
set_option maxHeartbeats 4000000
set_option autoImplicit false
set_option linter.unusedVariables false
namespace Pv
open PySem L2
section
variable {X : Cx} {G : Gs} {W : WX} {c : Cs} {as : List Nat}
/-! ### calls of own classes -/
def evMk (c : Cs) (E : Expr → WE) (x : Str) (f : Fn) (es : List Expr) (kws : List Keyword) : WE :=
  match f.sh.find? fun s => s.1 == es.length && s.2.1 == kws.filterMap (·.arg) with
  | some s => if es.all notStar && kws.all kwOk && (s.1 + s.2.1.length + 1 == f.ps.length) && (kws.length == s.2.1.length) && s.2.2.isPerm (List.range (s.1 + s.2.1.length)) then wMake x f.C s.2.2 (es.map (argB c E) ++ kws.map fun k => argB c E k.value) else wNo
  | none => wNo
theorem evMk_ok (ok : CtxOk X G W c) {E : Expr → WE} (h : ∀ e, JE X G W e (E e)) {x : Str} {f : Fn} {es : List Expr} {kws : List Keyword} {p pos : Pos} (hg : isGl c x = true) (hf : c.cm x = some f) : JE X G W (.Call (.Name x p) es kws pos) (evMk c E x f es kws) := by
  obtain ⟨g, d, nn⟩ := isGl_ok ok hg
  obtain ⟨C, fI, fd, k, ⟨hr, _⟩, hm, hcl, M, F, hsh⟩ := ok.cm x f hf
  unfold evMk
  split
  · rename_i s hs
    split
    · rename_i q
      simp only [Bool.and_eq_true, beq_iff_eq] at q
      obtain ⟨⟨⟨⟨q1, q2⟩, q3⟩, q4⟩, q5⟩ := q
      have hp := List.find?_some hs
      simp only [Bool.and_eq_true, beq_iff_eq] at hp
      obtain ⟨p1, p2⟩ := hp
      have hb := hsh s (List.mem_of_find?_eq_some hs)
      have perm := List.isPerm_iff.mp q5
      obtain ⟨ta, pa, sa⟩ := argsB_ok ok h es q1
      obtain ⟨tk, pk, sk⟩ := kwsB_ok ok h kws
      have hks : (backToKw pos (keywordEach kws X.env)).filterMap (·.1) = s.2.1 := by rw [kw_names, p2]
      have l1 : (es.map (argB c E)).length = s.1 := by rw [List.length_map, p1]
      have l2 : (kws.map fun k => argB c E k.value).length = s.2.1.length := by rw [List.length_map, q4]
      rw [← q3] at F
      have se := se_make (G := G) (W := W) (C := f.C) (cn := x) hcl sa sk.sao l1 l2 perm
      cases es with
      | nil =>
        have se0 := se_make (G := G) (W := W) (C := f.C) (cn := x) hcl (AO.nil (G := G) (W := W)) sk.sao (n := s.1) (m := s.2.1.length) (by show 0 = s.1; exact p1.symm) l2 perm
        exact ⟨_, pe_makeW0 M F hr ok.gd g hm hb ok.tk pk (kw_all q2) hks d (by
          show ((backTo pos (starEach [] X.env)).any (·.1) || _) = false
          rw [kw_any q2]; rfl), se0⟩
      | cons e es =>
        obtain ⟨h1, h2⟩ := Bool.and_eq_true_iff.mp q1
        exact ⟨_, pe_makeW M F hr ok.gd g hm hb ok.tk pa pk (kw_all q2) hks d (star_ok h1 _ _) (by rw [star_any q1, kw_any q2]; rfl), se⟩
    · exact je_no
  · exact je_no
def evCallC (c : Cs) (E : Expr → WE) (f : Expr) (es : List Expr) (kws : List Keyword) (pos : Pos) : WE := match f with
  | .Name x p => match c.cm x with
    | some f => if isGl c x then evMk c E x f es kws else wNo
    | none => evCall c E (.Name x p) es kws pos
  | f => evCall c E f es kws pos
theorem evCallC_ok (ok : CtxOk X G W c) {E : Expr → WE} (h : ∀ e, JE X G W e (E e)) {f : Expr} {es : List Expr} {kws : List Keyword} {pos : Pos} : JE X G W (.Call f es kws pos) (evCallC c E f es kws pos) := by
  unfold evCallC
  split
  · split
    · rename_i f hf
      split
      · rename_i hg; exact evMk_ok ok h hg hf
      · exact je_no
    · exact evCall_ok ok h
  · exact evCall_ok ok h
/-! ### fields -/
def plainB : Expr → Bool
  | .Subscript _ _ _ => true
  | .Attribute _ _ _ => true
  | _ => false
theorem plainB_ok {e : Expr} (h : plainB e = true) (m : Str) (env : Env) (w : Sem Value) : attributeBase e m env w = w := by
  cases e <;> first | rfl | cases h
def evFld (c : Cs) (E : Expr → WE) (o : Expr) (f : Str) : WE := match nameSlot c o with
  | some i => wFldV c.fa i f
  | none => if plainB o then wFld c.fa f (E o) else wNo
theorem fldOk (ok : CtxOk X G W c) : FldOk G c.fa := fun cn f C h1 h2 => by
  have := ok.fa cn f C h1 h2
  rw [ok.K] at this
  exact this
theorem evFld_ok (ok : CtxOk X G W c) {E : Expr → WE} (h : ∀ e, JE X G W e (E e)) {o : Expr} {f : Str} {pos : Pos} : JE X G W (.Attribute o f pos) (evFld c E o f) := by
  unfold evFld
  split
  · rename_i i hi
    exact ⟨_, pe_fld (nameSlot_ok ok hi) (base_name hi _ _ _), by rw [ok.K]; exact se_fldV (fldOk ok) i f⟩
  · split
    · rename_i hp
      obtain ⟨te, pe, se⟩ := (h o).ex
      exact ⟨_, pe_fld pe (plainB_ok hp _ _ _), by rw [ok.K]; exact se_fld (fldOk ok) f se⟩
    · exact je_no
/-! ### == of objects, by the class's own __eq__ -/
def rEqI (X : Cx) : R2 := fun x y H Q => ∃ (a b C dx dy f : Addr) (fs gs : List (Str × V)) (fd : FuncData) (ps : List Str) (k : Nat) (sp : Sp), x = .ref a ∧ y = .ref b ∧ H a = some (.ins C dx fs) ∧ H b = some (.ins C dy gs) ∧
  Room k X.A ∧ FnG X.prog X.w X.K X.mg X.base k f fd ps sp ∧ PySem.W.findIn X.K (.ref C) "__eq__" = some (some (.ref f)) ∧ PySem.W.isFn X.K (.ref f) = true ∧ Shp X.K fd ps 2 [] [0, 1] ∧ PySem.W.notFirst X.K C (.ref C) = true ∧
  sp [.ref a, .ref b] H (fun v H' => ∃ t, v = .bl t ∧ Q (.bl t) H') (fun _ _ _ => False)
theorem op_eqI (hgd : X.A.guards = some []) : OpR X (compareOp .Eq) (rEqI X) := by
  intro pins s σ H x y v u Q I rx ry h
  obtain ⟨a, b, C, dx, dy, f, fs, gs, fd, ps, k, sp, rfl, rfl, ha, hb, hr, F, hs, hf, hsh, hn, q⟩ := h
  cases rx
  cases ry
  obtain ⟨mA, J, _⟩ := ins_get I.hok ha
  obtain ⟨mB, J', _⟩ := ins_get I.hok hb
  obtain ⟨od, J, _⟩ := J.look
  obtain ⟨od', J', _⟩ := J'.look
  obtain ⟨m, hF⟩ := I.fr
  show wpAny (model X.prog X.w) X.A (richCompare .Eq (.ref a) (.ref b)) (EP X pins σ Q) X.xe s
  refine PySem.W.cmp_K (op := .Eq) (tb := .ref C) hr.units0 hF I.ok.mod.kin J J'.type hn hs hf ?_
  have hb' := hsh s [.ref a, .ref b] [] I.kIn rfl rfl
  have run := F.run X.A X.stack s H ⟨[.ref a, .ref b], []⟩ _ [V.ref a, V.ref b] _ _ hr hgd I.env0 hb' (.cons rfl (.cons rfl .nil)) q
  refine wpAny_call (codeAny_mono run fun res s' hq => ?_)
  cases res with
  | error e =>
    obtain ⟨_, _, _, _, _, _, _, _, _, _, _, _, z⟩ := hq
    exact z.elim
  | ok fl => cases fl with
    | ret w =>
      obtain ⟨z, H', I', rz, t, ez, q⟩ := I.after hq
      subst ez
      cases rz
      exact ⟨.bl t, H', I', rfl, q⟩
    | next => exact hq.elim
    | brk => exact hq.elim
    | cont => exact hq.elim
def mEqI (eq : Str → Option Ct) : D → D → (O → Prop) → Prop
  | .ins c1 fs, .ins c2 gs, Q => c1 = c2 ∧ ∃ C, eq c1 = some C ∧ C [.d (.ins c1 fs), .d (.ins c2 gs)] (fun r _ => ∃ t, r = .d (.bl t) ∧ Q (.d (.bl t))) (fun _ _ => False)
  | _, _, _ => False
theorem rb_eqI (ok : CtxOk X G W c) : RB G (rEqI X) (mEqI c.eq) := by
  intro σ ρ F H T x y a b Q Qd S ra rb q k
  cases ra with
  | ins hc1 h1 r1 => cases rb with
    | ins hc2 h2 r2 =>
      obtain ⟨e, C, hC, q⟩ := q
      subst e
      obtain ⟨Ca, f, fd, ps, j, g1, ⟨g2, _⟩, g3, g4, g5, g6, g7⟩ := ok.eq _ C hC
      rw [hc1] at hc2
      cases hc2
      rw [hc1] at g1
      cases g1
      refine ⟨_, _, _, _, _, f, _, _, fd, ps, j, spOf G 2 C, rfl, rfl, S.ex _ _ h1, S.ex _ _ h2, g2, g3, g4, g5, g6, g7, rfl, F, its σ ρ ++ T, _, _, _, rfl, ?_, q, fun r os' v F' H' q' e' O' => ?_, fun _ _ _ _ _ _ z => z.elim⟩
      · exact (S.2.addD (.ins hc1 h2 r2)).addD (.ins hc1 h1 r1)
      · obtain ⟨t, rfl, q'⟩ := q'
        have rv : RepD G F' v (.bl t) := O'.headD
        cases rv
        refine ⟨t, rfl, k _ _ F' H' q' e' ⟨S.1, ?_⟩⟩
        have o2 : Own G F' H' (its σ ρ ++ T) := by
          have o3 := O'.drop
          exact o3.dropL
        exact (o2.addD (.bl t)).perm List.perm_middle.symm
    | _ => exact q.elim
  | _ => cases rb <;> exact q.elim
def wEqVX (eq : Str → Option Ct) (i : Nat) (mb : WE) : WE := fun ρ Q E => ∃ o, ρ[i]? = some (some o) ∧ match insO o with
  | some _ => wBin (mEqI eq) (wVar i) mb ρ Q E
  | none => wEqV false i mb ρ Q E
theorem RB.inr {r r' : R2} {m : D → D → (O → Prop) → Prop} (h : RB G r' m) : RB G (fun x y H Q => r x y H Q ∨ r' x y H Q) m :=
  fun σ ρ F H T x y a b Q Qd S ra rb q k => .inr (h σ ρ F H T x y a b Q Qd S ra rb q k)
theorem se_eqVX (ok : CtxOk X G W c) {tb : TE} {mb : WE} (i : Nat) (sb : SE G W tb mb) : SE G W (tOp (fun x y H Q => rEqU G.K x y H Q ∨ rEqI X x y H Q) (tVar i) tb) (wEqVX c.eq i mb) := by
  intro σ ρ F H T Q Qd Ed S h kq ke
  obtain ⟨o, ho, h⟩ := h
  split at h
  · exact se_bin (RB.inr (rb_eqI ok)) (se_var i) sb σ ρ F H T Q Qd Ed S h kq ke
  · obtain ⟨⟨o0, ho0⟩, h⟩ := h
    obtain ⟨v, hv⟩ := S.1.at_ i o0 ho0
    refine ⟨v, hv, sb σ ρ F H T _ _ Ed S h (fun b ρ2 y F2 H2 hq e2 S2 => ?_) ke⟩
    obtain ⟨nb, o, ho, no, q⟩ := hq
    obtain ⟨F3, e3, S3⟩ := S2.freeze nb.ne
    obtain ⟨w, hw, F5, r5, e5, e6, _⟩ := S3.drop.peek ho no
    rw [hv] at hw; cases hw
    exact .inl (eq_of e6 r5 (S3.headD.mono e5) q fun c q => kq _ _ _ F3 H2 q (e2.trans e3) (S3.drop.addD (.bl _)))
/-! ### in, not in: flat data in a tuple or list -/
def leafD : D → Bool
  | .non => true
  | .bl _ => true
  | .int _ => true
  | .str _ => true
  | _ => false
def toV : D → V
  | .non => .non
  | .bl b => .bl b
  | .int i => .int i
  | .str s => .str s
  | _ => .non
def inD (x : D) (ys : List D) : Bool := inV (toV x) (ys.map toV)
def mIn (ng : Bool) (x : D) : D → (O → Prop) → Prop
  | .tup ys, Q => leafD x = true ∧ ys.all leafD = true ∧ Q (.d (.bl (if ng then !inD x ys else inD x ys)))
  | .lst ys, Q => leafD x = true ∧ ys.all leafD = true ∧ Q (.d (.bl (if ng then !inD x ys else inD x ys)))
  | _, _ => False
theorem leaf_v {F : Hp} {v : V} {x : D} (r : RepD G F v x) (h : leafD x = true) : flatV v = true ∧ toV x = v := by
  cases r <;> first | exact ⟨rfl, rfl⟩ | cases h
theorem leaf_vs {F : Hp} {vs : List V} {xs : List D} (r : RepDs G F vs xs) (h : xs.all leafD = true) : vs.all flatV = true ∧ xs.map toV = vs := by
  induction xs generalizing vs with
  | nil => cases r; exact ⟨rfl, rfl⟩
  | cons x xs ih =>
    cases r with
    | cons hd tl =>
      rw [List.all_cons, Bool.and_eq_true] at h
      obtain ⟨a, b⟩ := leaf_v hd h.1
      obtain ⟨a', b'⟩ := ih tl h.2
      exact ⟨by rw [List.all_cons, a, a']; rfl, by rw [List.map_cons, b, b']⟩
theorem rb_in {ng : Bool} : RB G (rIn G.K ng) (mIn ng) := by
  intro σ ρ F H T x y a b Q Qd S ra rb q k
  have fin : ∀ {p : Addr} {vs : List V} {ys : List D}, y = .ref p → (SqL G.K H p vs ∨ SqT G.K H p vs) → RepDs G F vs ys → leafD a = true → ys.all leafD = true → Qd (.d (.bl (if ng then !inD a ys else inD a ys))) → rIn G.K ng x y H Q := fun e hq r h1 h2 q => by
    obtain ⟨f1, e1⟩ := leaf_v ra h1
    obtain ⟨f2, e2⟩ := leaf_vs r h2
    refine ⟨_, _, e, hq, f1, f2, ?_⟩
    rw [← e1, ← e2]
    exact k _ _ F H q (Ex.refl F) (S.addD (.bl _))
  cases rb with
  | tup h r => exact fin rfl (.inr (S.ex.st h)) r q.1 q.2.1 q.2.2
  | lst h r => exact fin rfl (.inl (.inl (.inl (S.ex _ _ h)))) r q.1 q.2.1 q.2.2
  | _ => exact q.elim
def isSet : Expr → Bool
  | .Set _ _ _ => true
  | _ => false
theorem noMarkS {op : CmpOp} {e : Expr} (h : isSet e = false) : behindInMarks op e = false := by
  cases e <;> first | rfl | cases h
def evCmpX (c : Cs) (op : CmpOp) (a b : Expr) (ma mb : WE) : WE := if op = .In then (if isSet b then wNo else wBin (mIn false) ma mb) else if op = .NotIn then (if isSet b then wNo else wBin (mIn true) ma mb) else match nameSlot c a with
  | some i => if op = .Eq then wEqVX c.eq i mb else evCmp c op a ma mb
  | none => evCmp c op a ma mb
theorem evCmpX_ok (ok : CtxOk X G W c) {op : CmpOp} {a b : Expr} {ma mb : WE} (ha : JE X G W a ma) (hb : JE X G W b mb) : JC X G W op a b (evCmpX c op a b ma mb) ∨ evCmpX c op a b ma mb = wNo := by
  unfold evCmpX
  by_cases e : op = .In
  · subst e
    rw [if_pos rfl]
    cases hs : isSet b with
    | true => exact .inr rfl
    | false =>
      obtain ⟨ta, pa, sa⟩ := ha.ex
      obtain ⟨tb, pb, sb⟩ := hb.ex
      exact .inl ⟨_, _, _, op_in_seq, pa, pb, noMarkS hs, by rw [ok.K]; exact se_bin rb_in sa sb⟩
  rw [if_neg e]
  by_cases e2 : op = .NotIn
  · subst e2
    rw [if_pos rfl]
    cases hs : isSet b with
    | true => exact .inr rfl
    | false =>
      obtain ⟨ta, pa, sa⟩ := ha.ex
      obtain ⟨tb, pb, sb⟩ := hb.ex
      exact .inl ⟨_, _, _, op_notIn_seq, pa, pb, noMarkS hs, by rw [ok.K]; exact se_bin rb_in sa sb⟩
  rw [if_neg e2]
  cases hn : nameSlot c a with
  | none => exact evCmp_ok ok ha hb
  | some i =>
    simp only
    split
    · rename_i e
      subst e
      obtain ⟨tb, pb, sb⟩ := hb.ex
      exact .inl ⟨_, _, _, (op_eqU (by have := ok.un; omega)).or (op_eqI ok.gd), nameSlot_ok ok hn, pb, nomark b, by rw [ok.K]; exact se_eqVX ok i sb⟩
    · exact evCmp_ok ok ha hb
end
end Pv

set_option Elab.async false
set_option maxRecDepth 100000
set_option maxHeartbeats 4000000
set_option autoImplicit false
set_option linter.unusedVariables false
namespace Pv
open PySem L2
section
variable {X : Cx} {G : Gs} {W : WX} {c : Cs}
/-! ### comprehensions -/
def ownOf (N : List Str) (scope : Scope) : List (Str × Nat) := scope.names.filterMap fun y => match y.2 with
  | .local => (N.idxOf? y.1).map fun i => (y.1, i)
  | .cell => (N.idxOf? y.1).map fun i => (y.1, i)
  | _ => none
def blkCs (c : Cs) (scope : Scope) : Cs := { c with sc := relS scope c.sc, as := (ownOf c.N scope).map (·.2), lm := none, lf := fun _ => none, wr := fun x => match scope.names.lookup x with
  | some .local => true
  | some .cell => true
  | _ => false }
theorem ctx_blk (ok : CtxOk X G W c) {scope : Scope} (hk : scope.kind = .function) (s : Shared) (H : Hp) (C : Addr) (cl : List (Str × Addr)) (fp : List Addr) : CtxOk (X.blk s H scope (compEnvC scope cl C X.env) fp) G W0 (blkCs c scope) := by
  have hsc : (compEnvC scope cl C X.env).scope = relS scope c.sc := by rw [← ok.sc]; rfl
  refine ⟨ok.K, ok.N, ok.nd, hsc, ok.calm, fun u s' ⟨a, B, sI, pins, σ, H, cls, d, e, I, nb, up, sky, na, os, ag, w⟩ => w, ok.gd, ok.un, hk, ok.dp, ok.er, ok.sub, ok.xc, ok.sys, ok.ic, ok.io, ok.fa, ok.cm, ok.eq, ok.dl, ok.dc, fun x hx => ?_, ok.fn, ok.gv, ok.bi, fun _ _ _ _ h => (by cases h), fun _ _ h => (by cases h)⟩
  have hx : (match scope.names.lookup x with | some .local => true | some .cell => true | _ => false) = true := hx
  split at hx
  · rename_i e
    exact .inr (.inl (lookup_relabel_local e))
  · rename_i e
    exact .inl (by show (scope.names.lookup x == some .cell) = true; rw [e]; rfl)
  · cases hx
def notSet : Expr → Bool
  | .Set _ _ _ => false
  | _ => true
theorem notSet_ok {e : Expr} (h : notSet e = true) (env : Env) (x : Value) : foldedSetIterable e env x = pure x := by
  cases e <;> first | rfl | cases h
def wYes : WT := fun ρ Q _ => Q true ρ
theorem st_yes : ST G W tYes wYes := by
  intro σ ρ F H T Q Qd Ed S h kq ke
  exact kq true ρ F H h (Ex.refl F) S
def evIfs (T : Expr → WT) : List Expr → WT
  | [] => wYes
  | [t] => T t
  | _ => wNoT
theorem evIfs_ok {T : Expr → WT} (h : ∀ e, JT X G W e (T e)) (es : List Expr) : ∃ t, PTs X es t ∧ ST G W t (evIfs T es) := by
  unfold evIfs
  split
  · exact ⟨_, pts_nil, st_yes⟩
  · rename_i t
    obtain ⟨tt, pt, st⟩ := (h t).ex
    exact ⟨_, pts_one pt, st⟩
  · exact ⟨fun _ _ _ => False, ⟨fun _ _ _ _ _ _ h => h.elim⟩, fun _ _ _ _ _ _ _ _ _ h _ _ => h.elim⟩
def evComp (ev : Cs → Ev) (c : Cs) (elt tg iter : Expr) (ifs : List Expr) (scope : Scope) : WE :=
  if blkC c.N c.sc scope (ownOf c.N scope) && notSet iter then
    wLc (evIt c (ev c).E tg iter) (evTg (blkCs c scope) 4 tg) (evIfs (ev (blkCs c scope)).T ifs) ((ev (blkCs c scope)).E elt) ((ownOf c.N scope).map (·.2))
  else wNo
structure EvOk (G : Gs) (ev : Cs → Ev) : Prop where
  e : ∀ (X : Cx) (W : WX) (c : Cs), CtxOk X G W c → ∀ e, JE X G W e ((ev c).E e)
  t : ∀ (X : Cx) (W : WX) (c : Cs), CtxOk X G W c → ∀ e, JT X G W e ((ev c).T e)
theorem JE.uni {ι : Type} {Xf : ι → Cx} {e : Expr} {m : WE} (h : ∀ i, JE (Xf i) G W e m) : ∃ te, (∀ i, PE (Xf i) e te) ∧ SE G W te m := by
  refine ⟨fun σ H Q => ∀ i, ∃ te, PE (Xf i) e te ∧ SE G W te m ∧ te σ H Q, fun i => ⟨fun pins s σ H Q I hw => ?_⟩, ?_⟩
  · obtain ⟨te, pe, _, q⟩ := hw i
    exact pe.run pins s σ H Q I q
  · intro σ ρ F H T Q Qd Ed S q kq ke i
    obtain ⟨te, pe, se⟩ := (h i).ex
    exact ⟨te, pe, se, se σ ρ F H T Q Qd Ed S q kq ke⟩
theorem ifs_uni {ι : Type} {Xf : ι → Cx} {es : List Expr} {m : WT} (h : ∀ i, ∃ t, PTs (Xf i) es t ∧ ST G W t m) : ∃ t, (∀ i, PTs (Xf i) es t) ∧ ST G W t m := by
  refine ⟨fun σ H Q => ∀ i, ∃ te, PTs (Xf i) es te ∧ ST G W te m ∧ te σ H Q, fun i => ⟨fun pins s σ H Q I hw => ?_⟩, ?_⟩
  · obtain ⟨te, pe, _, q⟩ := hw i
    exact pe.run pins s σ H Q I q
  · intro σ ρ F H T Q Qd Ed S q kq ke i
    obtain ⟨te, pe, se⟩ := h i
    exact ⟨te, pe, se, se σ ρ F H T Q Qd Ed S q kq ke⟩
theorem JG.uni {ι : Type} {Xf : ι → Cx} {as : List Nat} {e : Expr} {g : WG} (h : ∀ i, JG (Xf i) G as e g) : ∃ t, (∀ i, PG (Xf i) e t) ∧ SG G as t g := by
  refine ⟨fun v σ H Q => ∀ i, ∃ t, PG (Xf i) e t ∧ SG G as t g ∧ t v σ H Q, fun i => ?_, ?_⟩
  · have run : ∀ t, PG (Xf i) e t → PG (Xf i) e t := fun _ z => z
    constructor
    intro pins s σ H v u Q I r hw
    obtain ⟨t, pe, _, q⟩ := hw i
    exact pe.run pins s σ H v u Q I r q
  · intro σ ρ F H T v x k Q S r q kq i
    obtain ⟨te, pe, se⟩ := (h i).ex
    exact ⟨te, pe, se, se σ ρ F H T v x k Q S r q kq⟩
theorem evComp_ok {ev : Cs → Ev} (hev : EvOk G ev) (ok : CtxOk X G W c) {elt tg iter : Expr} {ifs : List Expr} {scope : Scope} {pos : Pos} : JE X G W (.ListComp elt [⟨tg, iter, ifs, 0⟩] scope pos) (evComp ev c elt tg iter ifs scope) := by
  unfold evComp
  split
  · rename_i q
    obtain ⟨q1, q2⟩ := Bool.and_eq_true_iff.mp q
    have bk : BlkOk X.N X.env.scope scope (ownOf c.N scope) := by rw [ok.N, ok.sc]; exact blkOk_by q1
    obtain ⟨wi, pi, si⟩ := (evIt_ok ok (hev.e X W c ok) (tg := tg) (iter := iter)).ex
    have cb := fun (i : Shared × Hp × Addr × List (Str × Addr) × List Addr) => ctx_blk ok bk.kind i.1 i.2.1 i.2.2.1 i.2.2.2.1 i.2.2.2.2
    obtain ⟨te, pe, se⟩ := JE.uni (Xf := fun (i : Shared × Hp × Addr × List (Str × Addr) × List Addr) => X.blk i.1 i.2.1 scope (compEnvC scope i.2.2.2.1 i.2.2.1 X.env) i.2.2.2.2) fun i => hev.e _ _ _ (cb i) elt
    obtain ⟨tt, pt, st⟩ := ifs_uni (Xf := fun (i : Shared × Hp × Addr × List (Str × Addr) × List Addr) => X.blk i.1 i.2.1 scope (compEnvC scope i.2.2.2.1 i.2.2.1 X.env) i.2.2.2.2) fun i => evIfs_ok (hev.t _ _ _ (cb i)) ifs
    obtain ⟨g, pg, sg⟩ := JG.uni (Xf := fun (i : Shared × Hp × Addr × List (Str × Addr) × List Addr) => X.blk i.1 i.2.1 scope (compEnvC scope i.2.2.2.1 i.2.2.1 X.env) i.2.2.2.2) fun i => evTg_ok (cb i) 4 tg
    exact ⟨_, pe_lc ok.calm (by rw [ok.N]; exact ok.nd) pi bk (fun s H C cl fp => pg (s, H, C, cl, fp)) (fun s H C cl fp => pt (s, H, C, cl, fp)) (fun s H C cl fp => pe (s, H, C, cl, fp)) (notSet_ok q2 _), se_lc si sg st se⟩
  · exact je_no
/-- the same, set to a name on one line -/
theorem evComp_set {ev : Cs → Ev} (hev : EvOk G ev) (ok : CtxOk X G W c) {elt tg iter : Expr} {ifs : List Expr} {scope : Scope} {pos spos py : Pos} {y : Str} {i : Nat} (hy : X.N[i]? = some y) (hyl : X.env.scope.names.lookup y = some .local)
    (hsw : swapsWith (.ListComp elt [⟨tg, iter, ifs, 0⟩] scope pos) (some (.Name y py)) spos.line X.env = pure true) (q : (blkC c.N c.sc scope (ownOf c.N scope) && notSet iter) = true) :
    ∃ te, PS X (.Assign [.Name y py] (.ListComp elt [⟨tg, iter, ifs, 0⟩] scope pos) spos) (tAsg te (gName i)) ∧ SE G W te (evComp ev c elt tg iter ifs scope) := by
  unfold evComp
  rw [if_pos q]
  obtain ⟨q1, q2⟩ := Bool.and_eq_true_iff.mp q
  have bk : BlkOk X.N X.env.scope scope (ownOf c.N scope) := by rw [ok.N, ok.sc]; exact blkOk_by q1
  obtain ⟨wi, pi, si⟩ := (evIt_ok ok (hev.e X W c ok) (tg := tg) (iter := iter)).ex
  have cb := fun (i : Shared × Hp × Addr × List (Str × Addr) × List Addr) => ctx_blk ok bk.kind i.1 i.2.1 i.2.2.1 i.2.2.2.1 i.2.2.2.2
  obtain ⟨te, pe, se⟩ := JE.uni (Xf := fun (i : Shared × Hp × Addr × List (Str × Addr) × List Addr) => X.blk i.1 i.2.1 scope (compEnvC scope i.2.2.2.1 i.2.2.1 X.env) i.2.2.2.2) fun i => hev.e _ _ _ (cb i) elt
  obtain ⟨tt, pt, st⟩ := ifs_uni (Xf := fun (i : Shared × Hp × Addr × List (Str × Addr) × List Addr) => X.blk i.1 i.2.1 scope (compEnvC scope i.2.2.2.1 i.2.2.1 X.env) i.2.2.2.2) fun i => evIfs_ok (hev.t _ _ _ (cb i)) ifs
  obtain ⟨g, pg, sg⟩ := JG.uni (Xf := fun (i : Shared × Hp × Addr × List (Str × Addr) × List Addr) => X.blk i.1 i.2.1 scope (compEnvC scope i.2.2.2.1 i.2.2.1 X.env) i.2.2.2.2) fun i => evTg_ok (cb i) 4 tg
  exact ⟨_, ps_setLc ok.calm (by rw [ok.N]; exact ok.nd) hy hyl hsw pi bk (fun s H C cl fp => pg (s, H, C, cl, fp)) (fun s H C cl fp => pt (s, H, C, cl, fp)) (fun s H C cl fp => pe (s, H, C, cl, fp)) (notSet_ok q2 _), se_lc si sg st se⟩

/-! ### displays of dicts -/
def evPairs (E : Expr → WE) : List (Option Expr) → List Expr → Option (List (WE × WE))
  | [], [] => some []
  | some k :: ks, v :: vs => (evPairs E ks vs).map fun r => (E k, E v) :: r
  | _, _ => none
theorem evPairs_ok {E : Expr → WE} (h : ∀ e, JE X G W e (E e)) : ∀ (ks : List (Option Expr)) (vs : List Expr) (l' : List (WE × WE)), evPairs E ks vs = some l' → ∃ l, (∀ pos, PPs X pos ks vs l) ∧ SPr G W l l' ∧ ks.all (·.isSome) = true ∧ ks.length = vs.length
  | [], [], l', e => by cases e; exact ⟨[], fun _ => pps_nil, .nil, rfl, rfl⟩
  | some k :: ks, v :: vs, l', e => by
    unfold evPairs at e
    obtain ⟨r, hr, rfl⟩ := Option.map_eq_some_iff.mp e
    obtain ⟨l, p, s, a, b⟩ := evPairs_ok h ks vs r hr
    obtain ⟨tk, pk, sk⟩ := (h k).ex
    obtain ⟨tv, pv, sv⟩ := (h v).ex
    exact ⟨_, fun pos => pps_cons pk pv (p pos), .cons sk sv s, by rw [List.all_cons, a]; rfl, by rw [List.length_cons, List.length_cons, b]⟩
  | none :: ks, vs, l', e => by cases vs <;> cases e
  | some _ :: _, [], l', e => by cases e
  | [], _ :: _, l', e => by cases e
def evDisp (E : Expr → WE) (ks : List (Option Expr)) (vs : List Expr) : WE := match ks, vs with
  | [], [] => wDispN
  | k :: ks, vs => if (k :: ks).length ≤ 15 then (match evPairs E (k :: ks) vs with | some l => wDisp l | none => wNo) else wNo
  | _, _ => wNo
theorem evDisp_ok {E : Expr → WE} (h : ∀ e, JE X G W e (E e)) {ks : List (Option Expr)} {vs : List Expr} {pos : Pos} : JE X G W (.Dict ks vs pos) (evDisp E ks vs) := by
  unfold evDisp
  split
  · exact ⟨_, pe_dnewK, se_dispN⟩
  · rename_i k ks vs
    split
    · rename_i h15
      split
      · rename_i l' hl
        obtain ⟨l, p, s, a, b⟩ := evPairs_ok h _ _ _ hl
        exact ⟨_, pe_disp (p pos) a b (by intro z; cases z) h15, se_disp s⟩
      · exact je_no
    · exact je_no
  · exact je_no
/-! ### one step of the dispatch -/
def stepE (ev : Cs → Ev) (c : Cs) : Expr → WE
  | .Name x _ => evName c x
  | .Constant k _ _ => evConst k
  | .BinOp a op b _ => evBin op ((ev c).E a) ((ev c).E b)
  | .UnaryOp .USub a _ => wNeg ((ev c).E a)
  | .UnaryOp .Not a _ => wNotV ((ev c).E a)
  | .BoolOp .And es _ => evAnds (ev c).E es
  | .BoolOp .Or es _ => evOrs (ev c).E es
  | .Compare a [op] [b] _ => evCmpX c op a b ((ev c).E a) ((ev c).E b)
  | .Compare a [op, op'] [b, d] _ => evChain op op' ((ev c).E a) ((ev c).E b) ((ev c).E d)
  | .IfExp t a b _ => wIf ((ev c).T t) ((ev c).E a) ((ev c).E b)
  | .Tuple es _ _ => wTup (evArgs (ev c).E es)
  | .List es _ => wLst (evArgs (ev c).E es)
  | .Subscript a b _ => evSub c (ev c).E a b
  | .Call f es kws pos => evCallC c (ev c).E f es kws pos
  | .Attribute o f _ => evFld c (ev c).E o f
  | .ListComp elt [⟨tg, iter, ifs, 0⟩] scope _ => evComp ev c elt tg iter ifs scope
  | .Dict ks vs _ => evDisp (ev c).E ks vs
  | _ => wNo
theorem stepE_ok {ev : Cs → Ev} (hev : EvOk G ev) (ok : CtxOk X G W c) (e : Expr) : JE X G W e (stepE ev c e) := by
  have hK := ok.K
  have h := hev.e X W c ok
  unfold stepE
  split
  · exact evName_ok ok
  · exact evConst_ok
  · exact evBin_ok hK (h _) (h _)
  · rename_i a _
    obtain ⟨te, pe, se⟩ := (h a).ex
    exact ⟨_, pe_un un_neg pe, se_neg se⟩
  · rename_i a _
    obtain ⟨te, pe, se⟩ := (h a).ex
    exact ⟨_, pe_notT pe, by rw [hK]; exact se_not se⟩
  · exact evAnds_ok hK h _
  · exact evOrs_ok hK h _
  · rename_i a op b _
    rcases evCmpX_ok ok (h a) (h b) (op := op) (a := a) (b := b) with z | z
    · exact z.je
    · rw [z]; exact je_no
  · exact (evChain_ok ok (h _) (h _) (h _)).1
  · rename_i t a b _
    obtain ⟨tt, pt, st⟩ := (hev.t X W c ok t).ex
    obtain ⟨ta, pa, sa⟩ := (h a).ex
    obtain ⟨tb, pb, sb⟩ := (h b).ex
    exact ⟨_, pe_ifExp pt pa pb, se_if st sa sb⟩
  · rename_i es _ _
    obtain ⟨ta, pa, sa⟩ := (evArgs_ok h es).ex
    exact ⟨_, pe_tup pa, se_tup sa⟩
  · rename_i es _
    obtain ⟨ta, pa, sa⟩ := (evArgs_ok h es).ex
    exact ⟨_, pe_lst pa, se_lst sa⟩
  · exact evSub_ok ok h
  · exact evCallC_ok ok h
  · exact evFld_ok ok h
  · exact evComp_ok hev ok
  · exact evDisp_ok h
  · exact je_no
def stepT (ev : Cs → Ev) (c : Cs) : Expr → WT
  | .Compare a [op] [b] _ => wBool (evCmpX c op a b ((ev c).E a) ((ev c).E b))
  | .Compare a [op, op'] [b, d] _ => wBool (evChain op op' ((ev c).E a) ((ev c).E b) ((ev c).E d))
  | .BoolOp .And es _ => evAndT (ev c).T es
  | .BoolOp .Or es _ => evOrT (ev c).T es
  | .UnaryOp .Not a _ => wNotT ((ev c).T a)
  | .Name x p => wTru ((ev c).E (.Name x p))
  | .Call f es kws p => wTru ((ev c).E (.Call f es kws p))
  | .Subscript a b p => wTru ((ev c).E (.Subscript a b p))
  | .Attribute o f p => wTru ((ev c).E (.Attribute o f p))
  | .Constant k j p => wTru ((ev c).E (.Constant k j p))
  | _ => wNoT
theorem jt_noB {e : Expr} : JT X G W e (wBool wNo) := ⟨fun _ _ _ => False, ⟨fun _ _ _ _ _ _ h => h.elim⟩, fun _ _ _ _ _ _ _ _ _ h _ _ => h.elim⟩
theorem stepT_ok {ev : Cs → Ev} (hev : EvOk G ev) (ok : CtxOk X G W c) (e : Expr) : JT X G W e (stepT ev c e) := by
  have hK := ok.K
  have h := hev.e X W c ok
  have ht := hev.t X W c ok
  have tru : ∀ e : Expr, (match e with | .Name _ _ => True | .Call _ _ _ _ => True | .Subscript _ _ _ => True | .Attribute _ _ _ => True | .Constant _ _ _ => True | _ => False) → JT X G W e (wTru ((ev c).E e)) := fun e he => by
    obtain ⟨te, pe, se⟩ := (h e).ex
    exact ⟨_, pt_truth pe fun w => truth_of he _ w, by rw [hK]; exact st_tru se⟩
  unfold stepT
  split
  · rename_i a op b _
    rcases evCmpX_ok ok (h a) (h b) (op := op) (a := a) (b := b) with z | z
    · exact z.jt
    · rw [z]; exact jt_noB
  · exact (evChain_ok ok (h _) (h _) (h _)).2
  · rename_i es _
    obtain ⟨t, pw, st⟩ := (evAndT_ok ht es).ex
    exact ⟨t, pw.pt, st⟩
  · rename_i es _
    obtain ⟨t, pw, st⟩ := (evOrT_ok ht es).ex
    exact ⟨t, pw.pt, st⟩
  · rename_i a _
    obtain ⟨t, pt, st⟩ := (ht a).ex
    exact ⟨_, pt_not pt, st_not st⟩
  · exact tru _ trivial
  · exact tru _ trivial
  · exact tru _ trivial
  · exact tru _ trivial
  · exact tru _ trivial
  · exact jt_no
/-! ### a function handed in, called; a lambda handed to a def -/
def tOfM (G : Gs) (W : WX) (m : WE) : TE := fun σ H Q => ∃ (ρ : Sl) (F : Hp) (T : List (V × O)) (Qd : O → Sl → Prop) (Ed : Exc → Sl → Prop), Stt G F H σ ρ T ∧ m ρ Qd Ed ∧ KQ G F σ T Qd Q ∧ KE G W F σ T Ed
theorem pe_ofM {e : Expr} {m : WE} (h : JE X G W e m) : PE X e (tOfM G W m) := by
  obtain ⟨te, pe, se⟩ := h.ex
  exact ⟨fun pins s σ H Q I ⟨ρ, F, T, Qd, Ed, S, hm, kq, ke⟩ => pe.run pins s σ H Q I (se σ ρ F H T Q Qd Ed S hm kq ke)⟩
theorem se_ofM {m : WE} : SE G W (tOfM G W m) m := fun σ ρ F H T Q Qd Ed S h kq ke => ⟨ρ, F, T, Qd, Ed, S, h, kq, ke⟩
def lamCs (c : Cs) (sc : Scope) : Cs := { c with sc := sc, as := [], bor := [], dk := [], wr := fun _ => false, lm := none, lf := fun _ => none }
theorem ctx_lam (ok : CtxOk X G W c) {sc : Scope} (Ls : LamX.LamS X.env.scope sc) {A : Around} {outer : List Env} {s : Shared} {H : Hp} {E : XK} {f cc : Addr} (hgd : A.guards = some []) (hr : Room c.kb (A.deeper (LamX.lamEnv X sc s.heap.objs.size f cc))) :
    CtxOk (LamX.lamCx X A outer s H E sc f cc) G (fun cls d _ H => E cls d H) (lamCs c sc) := by
  refine ⟨ok.K, ok.N, ok.nd, rfl, rfl, takes_of rfl rfl rfl rfl, hgd, ?_, Ls.kind, ?_, ok.er, ok.sub, ok.xc, ok.sys, ok.ic, ok.io, ok.fa, fun x g hx => ?_, fun cn C hx => ?_, ok.dl, ok.dc, fun _ h => (by cases h), fun x g hx => ?_, ok.gv, ok.bi, fun _ _ _ _ h => (by cases h), fun _ _ h => (by cases h)⟩
  · have := hr.un; show (A.deeper _).units + 200 < cLine; omega
  · have := hr.dp; show (A.deeper _).depth + 1 < recursionLimit; omega
  · obtain ⟨C, fI, fd, k, ⟨_, hk⟩, r⟩ := ok.cm x g hx
    exact ⟨C, fI, fd, k, ⟨hr.mono hk, hk⟩, r⟩
  · obtain ⟨Ca, f, fd, ps, k, h1, ⟨_, hk⟩, r⟩ := ok.eq cn C hx
    exact ⟨Ca, f, fd, ps, k, h1, ⟨hr.mono hk, hk⟩, r⟩
  · obtain ⟨a, fd, k, ⟨_, hk⟩, r⟩ := ok.fn x g hx
    exact ⟨a, fd, k, ⟨hr.mono hk, hk⟩, r⟩
def noArgs : Arguments → Bool
  | ⟨[], [], none, [], [], none, []⟩ => true
  | _ => false
def captOf (c : Cs) (sc : Scope) : List Nat := sc.names.filterMap fun y => if y.2 = .free then c.N.idxOf? y.1 else none
def evLam (ev : Cs → Ev) (c : Cs) : Expr → Option WE
  | .Call (.Name x _) [] [] _ => (match c.lm with
    | some (i, f, F0, L) => if c.N[i]? = some x then some (wAct i f F0 L) else none
    | none => none)
  | .Call (.Name x _) [.Lambda ar bd sc _] [] _ => (match c.lf x with
    | some CL => if isGl c x && LamX.lamSB c.sc sc && noArgs ar then some (wLam CL (captOf c sc) ((ev (lamCs c sc)).E bd)) else some wNo
    | none => none)
  | _ => none
theorem evLam_ok {ev : Cs → Ev} (hev : EvOk G ev) (ok : CtxOk X G W c) {e : Expr} {m : WE} (hm : evLam ev c e = some m) : JE X G W e m := by
  unfold evLam at hm
  split at hm
  · split at hm
    · rename_i i f F0 L hl
      split at hm
      · rename_i hx
        cases hm
        obtain ⟨a, ha, h⟩ := ok.lm i f F0 L hl
        rw [hx] at ha
        cases ha
        exact h W X.pn X.xe _ _ ok.tk
      · cases hm
    · cases hm
  · split at hm
    · rename_i x _ ar bd sc _ _ _ CL hl
      split at hm
      · rename_i q
        cases hm
        simp only [Bool.and_eq_true] at q
        obtain ⟨⟨q1, q2⟩, q3⟩ := q
        obtain ⟨gl, d, _⟩ := isGl_ok ok q1
        obtain ⟨g, cc, Pt, h1, h2, FL, TB, hcode, hmT, hu, hr⟩ := ok.lf x CL hl
        have Ls : LamX.LamS X.env.scope sc := by rw [ok.sc]; exact LamX.lamS_by q2
        obtain ⟨e1, e2⟩ : defaultsOf ar X.env = ([], []) ∧ ∀ (q : Str) (cl : List (Str × Addr)) (pm cv ctv : Value), bindArgs (PySem.W.kla_fn "<lambda>" q ar bd sc cl pm cv ctv) ⟨[], []⟩ = pure [] := by
          unfold noArgs at q3
          split at q3
          · exact ⟨rfl, fun _ _ _ _ _ => rfl⟩
          · cases q3
        exact ⟨_, pe_lamG (t := fun E => tOfM G (fun cls d _ H => E cls d H) ((ev (lamCs c sc)).E bd)) gl h1 h2 FL TB hcode hmT hu hr ok.gd Ls e1 e2 (fun A outer s H E f c' hg hr' => pe_ofM (hev.e _ _ _ (ctx_lam ok Ls hg hr') bd)) d, se_lam fun E => se_ofM⟩
      · cases hm; exact je_no
    · cases hm
  · cases hm
/-- the special forms first -/
def stepX (ev : Cs → Ev) (c : Cs) (e : Expr) : WE := match evLam ev c e with | some m => m | none => match xE c (ev c).E e with | some m => m | none => stepE ev c e
theorem stepX_ok {ev : Cs → Ev} (hev : EvOk G ev) (ok : CtxOk X G W c) (e : Expr) : JE X G W e (stepX ev c e) := by
  unfold stepX
  split
  · rename_i m hm; exact evLam_ok hev ok hm
  · split
    · rename_i m hm; exact xE_ok ok (hev.e X W c ok) hm
    · exact stepE_ok hev ok e
def xT (c : Cs) : Expr → Option WT
  | .Compare a [.NotEq] [b] _ => (match leftOf c a with | some i => if isNil b then some (wBool (wDkE i)) else none | none => none)
  | _ => none
theorem xT_ok (ok : CtxOk X G W c) {e : Expr} {m : WT} (hm : xT c e = some m) : JT X G W e m := by
  have hK := ok.K
  unfold xT at hm
  split at hm
  · split at hm
    · rename_i i hi
      split at hm
      · rename_i hn
        cases hm
        rename_i a b _ _
        have hb : PE X b (tLst tNil) := by
          cases b <;> first | cases hn | skip
          rename_i es p
          cases es with
          | nil => exact pe_lst pa_nil
          | cons _ _ => cases hn
        exact ⟨_, pt_cmpR (op_neU (by have := ok.un; omega)) (leftOf_ok ok hi).1 hb (nomark b (by decide) (by decide)), st_bool (by rw [hK]; exact se_dkE i)⟩
      · cases hm
    · cases hm
  · cases hm
def stepXT (ev : Cs → Ev) (c : Cs) (e : Expr) : WT := match xT c e with | some m => m | none => stepT ev c e
theorem stepXT_ok {ev : Cs → Ev} (hev : EvOk G ev) (ok : CtxOk X G W c) (e : Expr) : JT X G W e (stepXT ev c e) := by
  unfold stepXT
  split
  · rename_i m hm; exact xT_ok ok hm
  · exact stepT_ok hev ok e
def ev : Nat → Cs → Ev
  | 0 => fun _ => ⟨fun _ => wNo, fun _ => wNoT⟩
  | n + 1 => fun c => ⟨stepX (ev n) c, stepXT (ev n) c⟩
theorem ev_ok : ∀ n : Nat, EvOk G (ev n)
  | 0 => ⟨fun _ _ _ _ _ => je_no, fun _ _ _ _ _ => jt_no⟩
  | n + 1 => ⟨fun X W c ok e => stepX_ok (ev_ok n) ok e, fun X W c ok e => stepXT_ok (ev_ok n) ok e⟩
end
end Pv

set_option Elab.async false
set_option maxRecDepth 100000
set_option maxHeartbeats 4000000
set_option autoImplicit false
set_option linter.unusedVariables false
namespace Pv
open PySem L2
structure JS (X : Cx) (G : Gs) (W : WX) (as : List Nat) (st : Stmt) (m : WS) : Prop where
  ex : ∃ t, PS X st t ∧ SS G W as t m
def wNoS : WS := fun _ _ => False
section
variable {X : Cx} {G : Gs} {W : WX} {c : Cs} {as : List Nat}
theorem js_false {st : Stmt} {m : WS} (h : ∀ ρ De, ¬ m ρ De) : JS X G W as st m := ⟨fun _ _ _ => False, ⟨fun _ _ _ _ _ _ h => h.elim⟩, fun _ ρ _ _ _ _ De _ hm _ => (h ρ De hm).elim⟩
theorem js_no {st : Stmt} : JS X G W as st wNoS := js_false fun _ _ h => h
def noComp : Expr → Bool
  | .ListComp _ _ _ _ => false
  | .SetComp _ _ _ _ => false
  | .DictComp _ _ _ _ _ => false
  | _ => true
theorem noComp_sw {e : Expr} (h : noComp e = true) (t : Option Expr) (l : Nat) (env : Env) : swapsWith e t l env = pure false := by
  cases e <;> first | rfl | cases h
theorem kindE (ok : CtxOk X G W c) : X.env.blockKind = .function ∧ X.env.scope.kind = .function := by
  have k : X.env.scope.kind = .function := by rw [ok.sc]; exact ok.kd
  refine ⟨?_, k⟩
  unfold Env.blockKind
  rw [k]
  rfl
/-! ### name = e -/
def swB (sc : Scope) (elt : Scope) (y : Str) (py pos : Pos) : Bool := sc.names.lookup y == some .local && py.line == pos.line && !(elt.names.any fun (n, k) => n == y && (k == .local || k == .cell))
theorem swB_ok (ok : CtxOk X G W c) {elt : Expr} {gs : List Comprehension} {scope : Scope} {pos py : Pos} {y : Str} {l : Nat} : swapsWith (.ListComp elt gs scope pos) (some (.Name y py)) l X.env = pure (swB c.sc scope y py pos) := by
  obtain ⟨hb, hk⟩ := kindE ok
  have ky : X.env.kindOf y = c.sc.names.lookup y := by
    show X.env.scope.names.lookup y = _
    rw [ok.sc]
  unfold swapsWith swB
  simp only [hb, ky, Expr.pos]
  rfl
def evSet (ev : Cs → Ev) (c : Cs) (i : Nat) (e : Expr) : WS := if i ∈ c.as then wAsg (as := c.as) i ((ev c).E e) else wNoS
theorem ok_nd (ok : CtxOk X G W c) : X.N.Nodup := by rw [ok.N]; exact ok.nd
theorem evSet_ok {ev : Cs → Ev} (hev : EvOk G ev) {n : Nat} (hE : ∀ c, (ev c).E = stepX (Pv.ev n) c) (ok : CtxOk X G W c) {y : Str} {py pos : Pos} {e : Expr} {i : Nat} (hi : locOf c y = some i) : JS X G W c.as (.Assign [.Name y py] e pos) (evSet ev c i e) := by
  obtain ⟨h1, h2, h3⟩ := ok.loc hi
  unfold evSet
  split
  · have gen : swapsWith e (some (.Name y py)) pos.line X.env = pure false → JS X G W c.as (.Assign [.Name y py] e pos) (wAsg (as := c.as) i ((ev c).E e)) := fun hs => by
      obtain ⟨te, pe, se⟩ := (hev.e X W c ok e).ex
      exact ⟨_, ps_set (ok_nd ok) h1 h2 pe hs h3, ss_asg i se⟩
    by_cases hn : noComp e = true
    · exact gen (noComp_sw hn _ _ _)
    · cases e with
      | ListComp elt gs scope p =>
        cases hb : swB c.sc scope y py p with
        | false => exact gen (by rw [swB_ok ok, hb])
        | true =>
          have hl : X.env.scope.names.lookup y = some .local := by
            rw [ok.sc]
            unfold swB at hb
            simp only [Bool.and_eq_true, beq_iff_eq] at hb
            exact hb.1.1
          rw [hE]
          show JS X G W c.as _ (wAsg (as := c.as) i (stepE (Pv.ev n) c (.ListComp elt gs scope p)))
          unfold stepE
          split
          all_goals first
            | (rename_i heq; cases heq; done)
            | skip
          · rename_i elt' tg iter ifs scope' p' heq
            cases heq
            by_cases q : (blkC c.N c.sc scope (ownOf c.N scope) && notSet iter) = true
            · obtain ⟨te, ps, se⟩ := evComp_set (ev_ok n) ok h1 hl ((swB_ok ok).trans (congrArg pure hb)) q
              exact ⟨_, ps, ss_asg i se⟩
            · unfold evComp
              rw [if_neg q]
              exact js_false fun ρ De h => h.2
          · exact js_false fun ρ De h => h.2
      | SetComp _ _ _ _ =>
        rw [hE]
        exact js_false fun ρ De h => h.2
      | DictComp _ _ _ _ _ =>
        rw [hE]
        exact js_false fun ρ De h => h.2
      | _ => exact absurd rfl hn
  · exact js_no

/-! ### a, b = x, y -/
def isStar : Expr → Bool
  | .Starred .. => true
  | _ => false
/-- what the machine stores in turned order: none where it cannot say -/
def swN (sc : Scope) (ts vs : List Expr) : Option (Option (List Str)) :=
  if !(ts.length == 2 || ts.length == 3) || vs.length != ts.length then some none
  else if vs.any isStar then some none
  else
    let line := (ts.head?.map (·.pos.line)).getD 0
    let names := ts.filterMap fun
      | .Name id pos => if sc.names.lookup id == some .local && pos.line == line then some id else none
      | _ => none
    if names.length != ts.length || names.eraseDups.length != names.length then some none
    else if vs.all (foldedForSure 8) then some none
    else if vs.all (constantsAlone 8) then none
    else some (some names)
theorem swN_ok (ok : CtxOk X G W c) {ts vs : List Expr} {k k2 : Nat} {p p2 : Pos} {r : Option (List Str)} (h : swN c.sc ts vs = some r) : swappedStores [.Tuple ts k p] (.Tuple vs k2 p2) X.env = pure r := by
  obtain ⟨hb, hk⟩ := kindE ok
  have ky : ∀ y, X.env.kindOf y = c.sc.names.lookup y := fun y => by
    show X.env.scope.names.lookup y = _
    rw [ok.sc]
  have es : (fun (e : Expr) => match e with | .Starred .. => true | _ => false) = isStar := by
    funext e
    cases e <;> rfl
  unfold swN at h
  unfold swappedStores
  simp only [hb, bne_self_eq_false, Bool.or_false, ky] at h ⊢
  split at h
  · rename_i c1
    refine (if_pos c1).trans ?_
    cases h; rfl
  rename_i c1
  refine (if_neg c1).trans ?_
  split at h
  · rename_i c2
    refine (if_pos (c := vs.any isStar = true) c2).trans ?_
    cases h; rfl
  rename_i c2
  refine (if_neg (c := vs.any isStar = true) c2).trans ?_
  split at h
  · rename_i c3
    refine (if_pos c3).trans ?_
    cases h; rfl
  rename_i c3
  refine (if_neg c3).trans ?_
  split at h
  · rename_i c4
    refine (if_pos c4).trans ?_
    cases h; rfl
  rename_i c4
  refine (if_neg c4).trans ?_
  split at h
  · cases h
  rename_i c5
  refine (if_neg c5).trans ?_
  cases h; rfl
end
end Pv

set_option Elab.async false
set_option maxRecDepth 100000
set_option maxHeartbeats 4000000
set_option autoImplicit false
set_option linter.unusedVariables false
namespace Pv
open PySem L2
section
variable {X : Cx} {G : Gs} {W : WX} {c : Cs} {as : List Nat}
theorem len2 {α : Type} : ∀ {xs : List α}, xs.length = 2 → ∃ a b, xs = [a, b]
  | [a, b], _ => ⟨a, b, rfl⟩
  | [], h => by simp at h
  | [_], h => by simp at h
  | _ :: _ :: _ :: _, h => by simp at h
theorem len3 {α : Type} : ∀ {xs : List α}, xs.length = 3 → ∃ a b c, xs = [a, b, c]
  | [a, b, c], _ => ⟨a, b, c, rfl⟩
  | [], h => by simp at h
  | [_], h => by simp at h
  | [_, _], h => by simp at h
  | _ :: _ :: _ :: _ :: _, h => by simp at h
/-! ### several names at once -/
def setV : L2.St → List Nat → List V → L2.St
  | σ, i :: is, v :: vs => setV (σ.set i (some v)) is vs
  | σ, _, _ => σ
def setO : Sl → List Nat → List O → Sl
  | ρ, i :: is, o :: os => setO (ρ.set i (some o)) is os
  | ρ, _, _ => ρ
theorem stt_sets {F H : Hp} {T : List (V × O)} : ∀ {is : List Nat} {vs : List V} {os : List O} {σ : L2.St} {ρ : Sl}, vs.length = os.length → os.length = is.length → (∀ i ∈ is, i ∈ as ∧ i < ρ.length) → Stt G F H σ ρ (vs.zip os ++ T) →
    Stt G F H (setV σ is vs) (setO ρ is os) T ∧ Kp as σ (setV σ is vs)
  | [], [], [], σ, ρ, _, _, _, S => ⟨S, Kp.refl _ _⟩
  | i :: is, v :: vs, o :: os, σ, ρ, h1, h2, h3, S => by
    have hi := h3 i List.mem_cons_self
    have S1 : Stt G F H (σ.set i (some v)) (ρ.set i (some o)) (vs.zip os ++ T) := Stt.store S hi.2
    obtain ⟨a, b⟩ := stt_sets (is := is) (by simpa using h1) (by simpa using h2) (fun j hj => by rw [List.length_set]; exact h3 j (List.mem_cons_of_mem _ hj)) S1
    exact ⟨a, (Kp.set hi.1 _).trans b⟩
  | [], [], _ :: _, _, _, h, _, _, _ => by simp at h
  | [], _ :: _, [], _, _, h, _, _, _ => by simp at h
  | [], _ :: _, _ :: _, _, _, _, h, _, _ => by simp at h
  | _ :: _, [], [], _, _, _, h, _, _ => by simp at h
  | _ :: _, [], _ :: _, _, _, h, _, _, _ => by simp at h
  | _ :: _, _ :: _, [], _, _, h, _, _, _ => by simp at h
def wPar (as is : List Nat) (m : Args) : WS := fun ρ De => wAO m ρ (fun os ρ1 => os.length = is.length ∧ (∀ i ∈ is, i ∈ as ∧ i < ρ1.length) ∧ De.nx (setO ρ1 is os)) De.ex
theorem ss_par2 {i j : Nat} {ta : TA} {m : Args} (h1 : SAO G W ta m) : SS G W as (tPar i j ta) (wPar as [i, j] m) := by
  intro σ ρ F H T D De S h br
  refine h1 σ ρ F H T _ _ De.ex S h (fun os ρ1 vs F1 H1 hq e hl S1 bo => ?_) br.ke
  obtain ⟨q1, q2, q3⟩ := hq
  obtain ⟨a, b⟩ := stt_sets hl q1 q2 S1
  obtain ⟨v, w, rfl⟩ := len2 (hl.trans q1)
  obtain ⟨o1, o2, rfl⟩ := len2 q1
  exact ⟨v, w, rfl, br.nx _ _ F1 H1 q3 e a b⟩
theorem ss_par3 {i j l : Nat} {ta : TA} {m : Args} (h1 : SAO G W ta m) : SS G W as (tPar3 i j l ta) (wPar as [i, j, l] m) := by
  intro σ ρ F H T D De S h br
  refine h1 σ ρ F H T _ _ De.ex S h (fun os ρ1 vs F1 H1 hq e hl S1 bo => ?_) br.ke
  obtain ⟨q1, q2, q3⟩ := hq
  obtain ⟨a, b⟩ := stt_sets hl q1 q2 S1
  obtain ⟨u, v, w, rfl⟩ := len3 (hl.trans q1)
  obtain ⟨o1, o2, o3, rfl⟩ := len3 q1
  exact ⟨u, v, w, rfl, br.nx _ _ F1 H1 q3 e a b⟩
def gNames : List Nat → TGs
  | [] => gNil
  | i :: is => gCons (gName i) (gNames is)
theorem gNames_run {H : Hp} {Q : L2.St → Hp → Prop} : ∀ {is : List Nat} {vs : List V} {σ : L2.St}, vs.length = is.length → Q (setV σ is vs) H → gNames is vs σ H Q
  | [], [], σ, _, q => ⟨rfl, q⟩
  | i :: is, v :: vs, σ, h, q => ⟨v, vs, rfl, gNames_run (by simpa using h) q⟩
  | [], _ :: _, _, h, _ => by simp at h
  | _ :: _, [], _, h, _ => by simp at h
theorem stt_fresh {F H : Hp} {σ : L2.St} {ρ : Sl} {T : List (V × O)} (S : Stt G F H σ ρ T) {p : Addr} (u : HO) (hp : H p = none) : Stt G F (upd H p u) σ ρ T := S.step (Ex.new hp)
theorem ss_parG {n : Nat} {is : List Nat} {ta : TA} {m : Args} (hn : n = is.length) (h1 : SAO G W ta m) : SS G W as (tAsg (tTup ta) (gTup G.K n (gNames is))) (fun ρ De => wPar as is m ρ De ∧ is.length ≤ sizeLine) := by
  intro σ ρ F H T D De S ⟨h, hz⟩ br
  refine h1 σ ρ F H T _ _ De.ex S h (fun os ρ1 vs F1 H1 hq e hl S1 bo => ?_) br.ke
  obtain ⟨q1, q2, q3⟩ := hq
  obtain ⟨a, b⟩ := stt_sets hl q1 q2 S1
  refine ⟨by rw [hl, q1]; exact hz, fun p hp => ?_⟩
  refine ⟨p, vs, rfl, SqT.of upd_same, by rw [hl, q1, hn], gNames_run (by rw [hl, q1]) ?_⟩
  exact br.nx _ _ F1 _ q3 e (stt_fresh a _ hp) b
def evName1 (c : Cs) : Expr → Option (List Nat) → Option (List Nat)
  | .Name x _, some is => (match locOf c x with | some i => some (i :: is) | none => none)
  | _, _ => none
def evNames (c : Cs) : List Expr → Option (List Nat)
  | [] => some []
  | e :: es => evName1 c e (evNames c es)
theorem evName1_ok {e : Expr} {o : Option (List Nat)} {is : List Nat} (h : evName1 c e o = some is) : ∃ x p i js, e = .Name x p ∧ o = some js ∧ locOf c x = some i ∧ is = i :: js := by
  unfold evName1 at h
  split at h
  · split at h
    · cases h; exact ⟨_, _, _, _, rfl, rfl, by assumption, rfl⟩
    · cases h
  · cases h
theorem evNames_ok (ok : CtxOk X G W c) : ∀ {es : List Expr} {is : List Nat}, evNames c es = some is → PGs X es (gNames is) ∧ es.all notStar = true ∧ es.length = is.length
  | [], is, h => by cases h; exact ⟨pgs_nil, rfl, rfl⟩
  | e :: es, is, h => by
    obtain ⟨x, p, i, js, rfl, hj, hi, rfl⟩ := evName1_ok h
    obtain ⟨a, b, d⟩ := evNames_ok ok hj
    obtain ⟨h1, h2, h3⟩ := ok.loc hi
    exact ⟨pgs_cons (pg_name (ok_nd ok) h1 h2 h3) a rfl, by simpa [notStar] using b, by simpa using d⟩
theorem argsN_ok (ok : CtxOk X G W c) {E : Expr → WE} (h : ∀ e, JE X G W e (E e)) : ∀ es : List Expr, es.all notStar = true → ∃ ta, PA X es ta ∧ SAO G W ta (es.map fun e => ((none : Option Nat), E e))
  | [], _ => ⟨_, pa_nil, sao_nil⟩
  | e :: es, hs => by
    obtain ⟨h1, h2⟩ := Bool.and_eq_true_iff.mp hs
    obtain ⟨ta, pa, sa⟩ := argsN_ok ok h es h2
    obtain ⟨te, pe, se⟩ := (h e).ex
    exact ⟨_, pa_cons pe pa (star_ok h1 _ _), sao_cons se sa⟩
/-- two or three plain names, stored in turned order -/
def parOk (c : Cs) (ts : List Expr) (ns : List Str) (is : List Nat) : Bool := match ts, ns, is with
  | [.Name x _, .Name y _], [x', y'], [i, j] => decide (x = x') && decide (y = y') && decide (i ≠ j) && (c.sc.names.lookup x == some .local) && (c.sc.names.lookup y == some .local)
  | [.Name x _, .Name y _, .Name z _], [x', y', z'], [i, j, l] => decide (x = x') && decide (y = y') && decide (z = z') && decide (i ≠ j) && decide (i ≠ l) && decide (j ≠ l) && (c.sc.names.lookup x == some .local) && (c.sc.names.lookup y == some .local) && (c.sc.names.lookup z == some .local)
  | _, _, _ => false
def evTupS (E : Expr → WE) (c : Cs) (ts vs : List Expr) (whole tgt : Expr) : WS := match evNames c ts with
  | some is => if vs.all notStar then (match swN c.sc ts vs with
      | some none => fun ρ De => wPar c.as is (vs.map fun e => (none, E e)) ρ De ∧ is.length ≤ sizeLine
      | some (some ns) => if parOk c ts ns is && vs.length == ts.length then wPar c.as is (vs.map fun e => (none, E e)) else wNoS
      | none => wNoS) else wNoS
  | none => match swN c.sc ts vs with
      | some none => wAsgG (evTg c 4 tgt) (E whole)
      | _ => wNoS
theorem evTupS_ok (ok : CtxOk X G W c) {E : Expr → WE} (h : ∀ e, JE X G W e (E e)) {ts vs : List Expr} {k k2 : Nat} {p p2 pos : Pos} : JS X G W c.as (.Assign [.Tuple ts k p] (.Tuple vs k2 p2) pos) (evTupS E c ts vs (.Tuple vs k2 p2) (.Tuple ts k p)) := by
  unfold evTupS
  split
  · rename_i is his
    obtain ⟨pgs, hst, hlen⟩ := evNames_ok ok his
    split
    · rename_i hvs
      obtain ⟨ta, pa, sa⟩ := argsN_ok ok h vs hvs
      split
      · rename_i hsw
        obtain ⟨a, b⟩ := asg_len (env := X.env) hst
        refine ⟨_, ps_asg (pe_tup pa) (pg_tup (n := ts.length) ok.calm pgs a b) rfl (swN_ok ok hsw) rfl, ?_⟩
        rw [ok.K]
        exact ss_parG hlen sa
      · rename_i ns hsw
        split
        · rename_i q
          obtain ⟨q1, q2⟩ := Bool.and_eq_true_iff.mp q
          have hw := swN_ok (k := k) (k2 := k2) (p := p) (p2 := p2) ok hsw
          unfold parOk at q1
          split at q1
          · rename_i x px y py x' y' i j
            simp only [Bool.and_eq_true, decide_eq_true_eq, beq_iff_eq] at q1
            obtain ⟨⟨⟨⟨rfl, rfl⟩, hij⟩, lx⟩, ly⟩ := q1
            obtain ⟨_, _, _, _, e1, hj, hi, e2⟩ := evName1_ok his
            cases e1; cases e2
            obtain ⟨_, _, _, _, e1, hj, hj1, e2⟩ := evName1_ok hj
            cases e1; cases e2
            obtain ⟨a, b, rfl⟩ := len2 (eq_of_beq q2)
            exact ⟨_, ps_par ok.calm (ok_nd ok) (ok.loc hi).1 (ok.loc hj1).1 hij (by rw [ok.sc]; exact lx) (by rw [ok.sc]; exact ly) pa hw rfl, ss_par2 sa⟩
          · rename_i x px y py z pz x' y' z' i j l
            simp only [Bool.and_eq_true, decide_eq_true_eq, beq_iff_eq] at q1
            obtain ⟨⟨⟨⟨⟨⟨⟨⟨rfl, rfl⟩, rfl⟩, hij⟩, hil⟩, hjl⟩, lx⟩, ly⟩, lz⟩ := q1
            obtain ⟨_, _, _, _, e1, hj, hi, e2⟩ := evName1_ok his
            cases e1; cases e2
            obtain ⟨_, _, _, _, e1, hj, hj1, e2⟩ := evName1_ok hj
            cases e1; cases e2
            obtain ⟨_, _, _, _, e1, hj, hl1, e2⟩ := evName1_ok hj
            cases e1; cases e2
            obtain ⟨a, b, d, rfl⟩ := len3 (eq_of_beq q2)
            exact ⟨_, ps_par3 ok.calm (ok_nd ok) (ok.loc hi).1 (ok.loc hj1).1 (ok.loc hl1).1 hij hil hjl (by rw [ok.sc]; exact lx) (by rw [ok.sc]; exact ly) (by rw [ok.sc]; exact lz) pa hw rfl, ss_par3 sa⟩
          · cases q1
        · exact js_no
      · exact js_no
    · exact js_no
  · split
    · rename_i hsw
      obtain ⟨t, pg, sg⟩ := (evTg_ok ok 4 (.Tuple ts k p)).ex
      obtain ⟨te, pe, se⟩ := (h (.Tuple vs k2 p2)).ex
      exact ⟨_, ps_asg pe pg rfl (swN_ok ok hsw) rfl, ss_asgG se sg⟩
    · exact js_no
end
end Pv

set_option Elab.async false
set_option maxRecDepth 100000
set_option maxHeartbeats 4000000
set_option autoImplicit false
set_option linter.unusedVariables false
namespace Pv
open PySem L2
section
variable {X : Cx} {G : Gs} {W : WX} {c : Cs} {as : List Nat}
/-! ### expressions in an except suite -/
def SEx (G : Gs) (i : Option Nat) (te : Addr → Value → Option Addr → TE) (m : Exc → WE) : Prop :=
  ∀ (a : Addr) (cls : Value) (d : Option Addr) (e : Exc) (σ : St) (ρ : Sl) (F H : Hp) (T : List (V × O)) (Q : VK) (Qd : O → Sl → Prop), ExcR G F e cls d → (∀ j, i = some j → σ[j]? = some (some (.ref a))) → Stt G F H σ ρ T → m e ρ Qd nox →
    KQ G F σ T Qd Q → te a cls d σ H Q
structure JX (X : Cx) (G : Gs) (i : Option Nat) (e : Expr) (m : Exc → WE) : Prop where
  ex : ∃ te, (∀ (a : Addr) (oe : Obj) (cls : Value) (d : Option Addr) (pn : List (Addr × Obj)), Zc cls d oe → (∃ vs, oe.data = .fields vs) → PE (X.suite a ((a, oe) :: pn)) e (te a cls d)) ∧ SEx G i te m
def SAx (G : Gs) (i : Option Nat) (te : Addr → Value → Option Addr → TA) (m : Exc → WA) : Prop :=
  ∀ (a : Addr) (cls : Value) (d : Option Addr) (e : Exc) (σ : St) (ρ : Sl) (F H : Hp) (T : List (V × O)) (Q : List V → Hp → Prop) (Qd : List D → Sl → Prop), ExcR G F e cls d → (∀ j, i = some j → σ[j]? = some (some (.ref a))) → Stt G F H σ ρ T → m e ρ Qd nox →
    KA G F σ T Qd Q → te a cls d σ H Q
structure JAx (X : Cx) (G : Gs) (i : Option Nat) (es : List Expr) (m : Exc → WA) : Prop where
  ex : ∃ te, (∀ (a : Addr) (oe : Obj) (cls : Value) (d : Option Addr) (pn : List (Addr × Obj)), Zc cls d oe → (∃ vs, oe.data = .fields vs) → PA (X.suite a ((a, oe) :: pn)) es (te a cls d)) ∧ SAx G i te m
theorem ke_nox {F : Hp} {σ : St} {T : List (V × O)} : KE G W0 F σ T nox := fun _ _ _ _ _ _ z => z.elim
theorem jx_const {k : Const} {j : Nat} {p : Pos} {i : Option Nat} : JX X G i (.Constant k j p) (fun _ => evConst k) := by
  have mk : ∀ {v : V} {x : D}, (∀ Y : Cx, PE Y (.Constant k j p) (tC v)) → (∀ F, RepD G F v x) → JX X G i (.Constant k j p) (fun _ => wK x) := fun {v x} h1 h2 =>
    ⟨fun _ _ _ => tC v, fun _ _ _ _ _ _ _ => h1 _, fun a cls d e σ ρ F H T Q Qd r hs S h kq => se_k (W := W0) h2 σ ρ F H T Q Qd nox S h kq ke_nox⟩
  have no : JX X G i (.Constant k j p) (fun _ => wNo) := ⟨fun _ _ _ _ _ _ => False, fun _ _ _ _ _ _ _ => ⟨fun _ _ _ _ _ _ h => h.elim⟩, fun _ _ _ _ _ _ _ _ _ _ _ _ _ _ h _ => h.elim⟩
  cases k with
  | int n => exact mk (fun _ => pe_int) fun _ => .int n
  | bool b => exact mk (fun _ => pe_bl) fun _ => .bl b
  | none => exact mk (fun _ => pe_non) fun _ => .non
  | str x => exact mk (fun _ => pe_str) fun _ => .str x
  | _ => exact no
def wXf (y f : Str) : Exc → WE := fun e ρ Q _ => e.cls = y ∧ ∃ x, e.fs.lookup f = some x ∧ Q (.d x) ρ
theorem jx_fld {i : Nat} {n : Str} {y f : Str} {p p2 : Pos} {C fI : Addr} {qn : Str} (hn : X.N[i]? = some n) (hv : Vis X.env.scope n) (h1 : (n == ("__debug__" : Str)) = false) (h2 : (n == ("__classdict__" : Str)) = false)
    (tx : PySem.ErrX.Txt X.K X.mg y C fI f qn) (hC : G.cl y = some C) : JX X G (some i) (.Attribute (.Name n p) f p2) (wXf y f) := by
  refine ⟨fun a cls d => tXf a cls d C f (tVar i), fun a oe cls d pn hz hf => pe_xf ⟨tx.ga, tx.gg, tx.exC, tx.hdC⟩ tx.noF hz hf (pe_var hn hv h1 h2) rfl, ?_⟩
  intro a cls d e σ ρ F H T Q Qd r hs S h kq
  obtain ⟨ey, x, hx, q⟩ := h
  obtain ⟨C', g1, g2, g3⟩ := r
  subst ey
  rw [hC] at g1
  cases g1
  refine ⟨_, hs i rfl, rfl, g2, ?_⟩
  rcases g3 with ⟨ef, _⟩ | ⟨dd, fs, ed, hd, rp⟩
  · rw [ef] at hx; cases hx
  · obtain ⟨v, hv, rv⟩ := rp.lookup f hx
    exact ⟨dd, fs, v, ed, S.ex _ _ hd, hv, kq _ _ v F H q (Ex.refl F) (S.addD rv)⟩
theorem jax_nil {i : Option Nat} : JAx X G i [] (fun _ => wNil) :=
  ⟨fun _ _ _ => tNil, fun _ _ _ _ _ _ _ => pa_nil, fun a cls d e σ ρ F H T Q Qd r hs S h kq => sa_nil (W := W0) σ ρ F H T Q Qd nox S h kq ke_nox⟩
theorem jax_cons {i : Option Nat} {e : Expr} {es : List Expr} {m : Exc → WE} {r : Exc → WA} (hst : notStar e = true) (h1 : JX X G i e m) (h2 : JAx X G i es r) : JAx X G i (e :: es) (fun x => wCons (m x) (r x)) := by
  obtain ⟨te, pe, se⟩ := h1.ex
  obtain ⟨tr, pr, sr⟩ := h2.ex
  refine ⟨fun a cls d => tCons (te a cls d) (tr a cls d), fun a oe cls d pn hz hf => pa_cons (pe a oe cls d pn hz hf) (pr a oe cls d pn hz hf) (star_ok hst _ _), ?_⟩
  intro a cls d e σ ρ F H T Q Qd rx hs S h kq
  refine se a cls d e σ ρ F H T _ _ rx hs S h (fun o ρ1 x F1 H1 hq1 e1 S1 => ?_)
  obtain ⟨na, hq1⟩ := hq1
  obtain ⟨F2, e2, S2⟩ := S1.freeze na.ne
  refine sr a cls d e σ ρ1 F2 H1 T _ _ (rx.mono (e1.trans e2)) hs S2.drop hq1 (fun xs ρ2 vs F3 H2 hq3 e3 S3 r3 => ?_)
  exact kq _ _ (x :: vs) F3 H2 hq3 (e1.trans (e2.trans e3)) S3 (.cons (S2.headD.mono e3) r3)
theorem jx_tup {i : Option Nat} {es : List Expr} {k : Nat} {p : Pos} {m : Exc → WA} (h : JAx X G i es m) : JX X G i (.Tuple es k p) (fun x => wTup (m x)) := by
  obtain ⟨te, pe, se⟩ := h.ex
  refine ⟨fun a cls d => tTup (te a cls d), fun a oe cls d pn hz hf => pe_tup (pe a oe cls d pn hz hf), ?_⟩
  intro a cls d e σ ρ F H T Q Qd rx hs S h kq
  refine se a cls d e σ ρ F H T _ _ rx hs S h (fun xs ρ1 vs F1 H1 hq e S1 r => ⟨by rw [r.length]; exact hq.1, fun p hp => ?_⟩)
  have z := S1.newT hp r
  exact kq _ _ _ _ _ hq.2 (e.trans z.1) z.2
/-- what a suite's expression does: none where it is not covered -/
def suE (c : Cs) (i : Option Nat) (y : Str) : Nat → Expr → Option (Exc → WE)
  | 0, _ => none
  | n + 1, e => match e with
    | .Constant k _ _ => some fun _ => evConst k
    | .Attribute (.Name x p) f _ => if (nameSlot c (.Name x p) == i) && i.isSome && (c.er y == some f) then some (wXf y f) else none
    | .Tuple es _ _ => (suA (suE c i y n) es).map fun m x => wTup (m x)
    | _ => none
where suA (g : Expr → Option (Exc → WE)) : List Expr → Option (Exc → WA)
  | [] => some fun _ => wNil
  | e :: es => if notStar e then (match g e, suA g es with | some m, some r => some fun x => wCons (m x) (r x) | _, _ => none) else none
theorem suA_ok {i : Option Nat} {g : Expr → Option (Exc → WE)} (h : ∀ e m, g e = some m → JX X G i e m) : ∀ (es : List Expr) (m : Exc → WA), suE.suA g es = some m → JAx X G i es m
  | [], m, e => by cases e; exact jax_nil
  | x :: es, m, e => by
    unfold suE.suA at e
    split at e
    · rename_i hst
      split at e
      · rename_i m1 r1 h1 h2
        cases e
        exact jax_cons hst (h x m1 h1) (suA_ok h es r1 h2)
      · cases e
    · cases e
theorem suE_ok (ok : CtxOk X G W c) {i : Option Nat} {y : Str} : ∀ (n : Nat) (e : Expr) (m : Exc → WE), suE c i y n e = some m → JX X G i e m
  | 0, _, _, h => by cases h
  | n + 1, e, m, h => by
    unfold suE at h
    split at h
    · cases h; exact jx_const
    · split at h
      · rename_i x p f p2 q
        cases h
        simp only [Bool.and_eq_true, beq_iff_eq] at q
        obtain ⟨⟨q1, q2⟩, q3⟩ := q
        obtain ⟨C, fI, qn, tx, hC⟩ := ok.er y f q3
        cases i with
        | none => cases q2
        | some i =>
          unfold nameSlot at q1
          simp only at q1
          split at q1
          · cases q1
          · rename_i hd
            simp only [Bool.or_eq_true, not_or, Bool.not_eq_true] at hd
            obtain ⟨h1, h2⟩ := ok.slot q1
            exact jx_fld h1 h2 hd.1 hd.2 tx hC
      · cases h
    · obtain ⟨m1, h1, rfl⟩ := Option.map_eq_some_iff.mp h
      exact jx_tup (suA_ok (fun e m => suE_ok ok n e m) _ _ h1)
    · cases h
/-- a suite: one return, or one store to a local name -/
def suS (c : Cs) (i : Option Nat) (y : Str) : List Stmt → Option (Exc → WS)
  | [.Return (some e) _] => (suE c i y 4 e).map fun m x ρ De => m x ρ De.rt nox
  | _ => none
theorem suS_ok (ok : CtxOk X G W c) {i : Option Nat} {y : Str} {b₀ : Stmt} {su : List Stmt} {m : Exc → WS} (h : suS c i y (b₀ :: su) = some m) :
    ∃ ts : Addr → Value → Option Addr → TS, (∀ (a : Addr) (oe : Obj) (cls : Value) (d : Option Addr) (pn : List (Addr × Obj)), Zc cls d oe → (∃ vs, oe.data = .fields vs) → PSs (X.suite a ((a, oe) :: pn)) (b₀ :: su) (ts a cls d)) ∧ SU G as i ts m := by
  unfold suS at h
  split at h
  · rename_i e p heq
    obtain ⟨m1, h1, rfl⟩ := Option.map_eq_some_iff.mp h
    obtain ⟨te, pe, se⟩ := (suE_ok ok 4 e m1 h1).ex
    obtain ⟨rfl, rfl⟩ := List.cons.inj heq
    refine ⟨fun a cls d => tRet (te a cls d), fun a oe cls d pn hz hf => pss_one (ps_ret (pe a oe cls d pn hz hf)), ?_⟩
    intro a cls d x σ ρ F H T D De r hs S hm br
    exact se a cls d x σ ρ F H T _ De.rt r hs S hm (fun o ρ' v F' H' q e S' => br.rt o v σ ρ' F' H' q e S' (Kp.refl _ _))
  · cases h
end
end Pv

set_option Elab.async false
set_option maxRecDepth 100000
set_option maxHeartbeats 4000000
set_option autoImplicit false
set_option linter.unusedVariables false
namespace Pv
open PySem L2
section
variable {X : Cx} {G : Gs} {W : WX} {c : Cs}
/-! ### except clauses -/
/-- a clause's name: a local slot that may be set -/
def nmSlot (c : Cs) (n : Str) : Option Nat := match c.sc.names.lookup n with
  | some .local => (match c.N.idxOf? n with | some i => if i ∈ c.as then some i else none | none => none)
  | _ => none
theorem idx_lt {N : List Str} {x : Str} {i : Nat} (h : N.idxOf? x = some i) : i < N.length := (List.getElem?_eq_some_iff.mp (idx_at h)).1
theorem nmSlot_ok (ok : CtxOk X G W c) {n : Str} {i : Nat} (h : nmSlot c n = some i) : NmOk X (some n) (some i) ∧ i ∈ c.as ∧ i < c.N.length := by
  unfold nmSlot at h
  split at h
  · rename_i hl
    split at h
    · rename_i j hj
      split at h
      · rename_i ha
        cases h
        refine ⟨⟨ok.at hj, ?_⟩, ha, idx_lt hj⟩
        show X.env.scope.names.lookup n = some .local
        rw [ok.sc]; exact hl
      · cases h
    · cases h
  · cases h
def evCl (c : Cs) : ExceptHandler → Option Cld
  | .ExceptHandler (some (.Name y _)) none (b₀ :: su) _ => if c.xc y && isGl c y then (suS c none y (b₀ :: su)).map fun m => (y, none, m) else none
  | .ExceptHandler (some (.Name y _)) (some n) (b₀ :: su) _ => if c.xc y && isGl c y then (match nmSlot c n with
      | some i => (suS c (some i) y (b₀ :: su)).map fun m => (y, some i, m)
      | none => none) else none
  | _ => none
def evCls (c : Cs) : List ExceptHandler → Option (List Cld)
  | [] => some []
  | h :: r => match evCl c h, evCls c r with | some a, some l => some (a :: l) | _, _ => none
theorem evCls_ok (ok : CtxOk X G W c) : ∀ (hs : List ExceptHandler) (l' : List Cld), evCls c hs = some l' → ∃ l, ClsOk X hs l ∧ ClsD G G.K c.as c.sub c.N.length l l'
  | [], l', h => by cases h; exact ⟨[], .nil, .nil⟩
  | h :: r, l', e => by
    unfold evCls at e
    split at e
    · rename_i a l ha hl
      cases e
      obtain ⟨l2, o1, o2⟩ := evCls_ok ok r l hl
      have ex : ∀ {y : Str} {C' : Addr}, X.mg y = some (.ref C') → ∀ x b C, c.sub x y = some b → G.cl x = some C → PySem.W.exmOne G.K (.ref C) (.ref C') = some b := fun hm x b C hb hC => by
        obtain ⟨C2, m2, e2⟩ := ok.sub x _ b C hb hC
        rw [hm] at m2
        cases m2
        rw [← ok.K]; exact e2
      unfold evCl at ha
      split at ha
      · rename_i y np b₀ su pos
        split at ha
        · rename_i q
          obtain ⟨q1, q2⟩ := Bool.and_eq_true_iff.mp q
          obtain ⟨C', hm⟩ := ok.xc y q1
          obtain ⟨g, d, nn⟩ := isGl_ok ok q2
          obtain ⟨m, h1, rfl⟩ := Option.map_eq_some_iff.mp ha
          obtain ⟨ts, p, s⟩ := suS_ok (as := c.as) ok h1
          exact ⟨_, .cons (i := none) ⟨g, d, .inl hm⟩ trivial p o1, .cons (fun j z => by cases z) (ex hm) s o2⟩
        · cases ha
      · rename_i y np n b₀ su pos
        split at ha
        · rename_i q
          obtain ⟨q1, q2⟩ := Bool.and_eq_true_iff.mp q
          obtain ⟨C', hm⟩ := ok.xc y q1
          obtain ⟨g, d, nn⟩ := isGl_ok ok q2
          split at ha
          · rename_i i hi
            obtain ⟨n1, n2, n3⟩ := nmSlot_ok ok hi
            obtain ⟨m, h1, rfl⟩ := Option.map_eq_some_iff.mp ha
            obtain ⟨ts, p, s⟩ := suS_ok (as := c.as) ok h1
            exact ⟨_, .cons (i := some i) ⟨g, d, .inl hm⟩ n1 p o1, .cons (fun j z => by cases z; exact ⟨n2, n3⟩) (ex hm) s o2⟩
          · cases ha
        · cases ha
      · cases ha
    · cases e
theorem ctx_tr (ok : CtxOk X G W c) {W' : WX} {pn : List (Addr × Obj)} {xe : Value → Shared → Prop} (tk : Takes (X.tr pn xe) W') : CtxOk (X.tr pn xe) G W' c :=
  ⟨ok.K, ok.N, ok.nd, ok.sc, ok.calm, tk, ok.gd, ok.un, ok.kd, ok.dp, ok.er, ok.sub, ok.xc, ok.sys, ok.ic, ok.io, ok.fa, ok.cm, ok.eq, ok.dl, ok.dc, ok.fl, ok.fn, ok.gv, ok.bi, fun i f F0 L h => (let ⟨a, h1, h2⟩ := ok.lm i f F0 L h; ⟨a, h1, fun W' pn xe pa pb tk => h2 W' pn xe pa pb tk⟩), ok.lf⟩
def evTry (c : Cs) (b : WS) (hs : List ExceptHandler) : WS := match hs with
  | [] => wNoS
  | _ => match evCls c hs with
    | some l => fun ρ De => wTry c.sub b l ρ De ∧ c.N.length = ρ.length
    | none => wNoS
def tTr (X : Cx) (G : Gs) (c : Cs) (body : List Stmt) (b : WS) : WX → TS := fun W' D σ H => ∀ (i : List (Addr × Obj) × (Value → Shared → Prop)), CtxOk (X.tr i.1 i.2) G W' c → PassesOwn (model X.prog X.w) X.A X.env i.2 → ∃ ts, PSs (X.tr i.1 i.2) body ts ∧ SS G W' c.as ts b ∧ ts D σ H
theorem evTry_ok (ok : CtxOk X G W c) (hs : X.stack = X.env :: X.outer) (hf : X.env.frame = some X.env.locals) {body : List Stmt} {b : WS} {hds : List ExceptHandler} {pos : Pos}
    (hb : ∀ (W' : WX) (pn : List (Addr × Obj)) (xe : Value → Shared → Prop), CtxOk (X.tr pn xe) G W' c → PassesOwn (model X.prog X.w) X.A X.env xe → JSs (X.tr pn xe) G W' c.as body b) : JS X G W c.as (.Try body hds [] [] pos) (evTry c b hds) := by
  unfold evTry
  split
  · exact ⟨fun _ _ _ => False, ⟨fun _ _ _ _ _ _ h => h.elim⟩, fun _ _ _ _ _ _ _ _ h _ => h.elim⟩
  · split
    · rename_i h0 _ l hl
      cases hds with
      | nil => exact absurd rfl h0
      | cons h₀ hds =>
        obtain ⟨l2, o1, o2⟩ := evCls_ok ok _ _ hl
        refine ⟨_, ps_tryC (tb := tTr X G c body b)
          (by rw [ok.N]; exact ok.nd) hs hf ok.tk (fun W' pn xe tk pass => ⟨fun pins s σ H D I h => ?_⟩) o1, ?_⟩
        · obtain ⟨ts, p, _, q⟩ := h (pn, xe) (ctx_tr ok tk) pass
          exact p.run pins s σ H D I q
        · rw [ok.K]
          refine ss_try (tb := tTr X G c body b) (fun W' => ?_) o2
          intro σ ρ F H T D De S h br i cx pass
          obtain ⟨ts, p, s⟩ := (hb W' i.1 i.2 cx pass).ex
          exact ⟨ts, p, s, s σ ρ F H T D De S h br⟩
    · exact ⟨fun _ _ _ => False, ⟨fun _ _ _ _ _ _ h => h.elim⟩, fun _ _ _ _ _ _ _ _ h _ => h.elim⟩
/-! ### raise -/
def evRaise (c : Cs) (E : Expr → WE) (e : Expr) : WS := match e with
  | .Call (.Name x p) [a] [] p2 => (match c.er x with
    | some f => if isGl c x && notStar a then wRaise x f (E a) else wNoS
    | none => wNoS)
  | _ => wNoS
theorem evRaise_ok (ok : CtxOk X G W c) {E : Expr → WE} (h : ∀ e, JE X G W e (E e)) {e : Expr} {pos : Pos} : JS X G W c.as (.Raise (some e) none pos) (evRaise c E e) := by
  unfold evRaise
  split
  · split
    · rename_i x p a p2 _ f hf
      split
      · rename_i q
        obtain ⟨q1, q2⟩ := Bool.and_eq_true_iff.mp q
        obtain ⟨g, d, nn⟩ := isGl_ok ok q1
        obtain ⟨C, fI, qn, tx, hC⟩ := ok.er x f hf
        obtain ⟨te, pe, se⟩ := (h a).ex
        exact ⟨_, ps_raise ok.calm ok.tk (pmk_err tx ok.dp pe g d q2), ss_raise hC se⟩
      · exact js_no
    · exact js_no
  · exact js_no
end
end Pv

set_option Elab.async false
set_option maxRecDepth 100000
set_option maxHeartbeats 4000000
set_option autoImplicit false
set_option linter.unusedVariables false
namespace Pv
open PySem L2
section
variable {X : Cx} {G : Gs} {W : WX} {c : Cs} {as : List Nat}
def notTup : Expr → Bool
  | .Tuple _ _ _ => false
  | _ => true
theorem sole_tup {ts : List Expr} {k : Nat} {p : Pos} (v : Expr) (l : Nat) (env : Env) : swapsWithSole [.Tuple ts k p] v l env = pure false := by cases v <;> rfl
theorem sole_sub {o i : Expr} {p : Pos} (v : Expr) (l : Nat) (env : Env) : swapsWithSole [.Subscript o i p] v l env = pure false := by cases v <;> rfl
theorem sw_notTup {ts : List Expr} {k : Nat} {p : Pos} {v : Expr} (h : notTup v = true) (env : Env) : swappedStores [.Tuple ts k p] v env = pure none := by
  cases v <;> first | rfl | cases h
theorem sw_sub {o i : Expr} {p : Pos} (v : Expr) (env : Env) : swappedStores [.Subscript o i p] v env = pure none := by cases v <;> rfl
def evAsg (ev : Cs → Ev) (c : Cs) (t v : Expr) : WS := match t with
  | .Name y _ => (match locOf c y with | some i => evSet ev c i v | none => wNoS)
  | .Tuple ts k p => (match v with
      | .Tuple vs k2 p2 => evTupS (ev c).E c ts vs (.Tuple vs k2 p2) (.Tuple ts k p)
      | v => wAsgG (evTg c 4 (.Tuple ts k p)) ((ev c).E v))
  | .Subscript o i _ => (match nameSlot c o with | some s => if plainIx i then wSetA s ((ev c).E i) ((ev c).E v) else wNoS | none => wNoS)
  | .Attribute o f _ => (match nameSlot c o with | some s => wFldS c.fa s f ((ev c).E v) | none => wNoS)
  | _ => wNoS
theorem evAsg_ok (n : Nat) (ok : CtxOk X G W c) {t v : Expr} {pos : Pos} : JS X G W c.as (.Assign [t] v pos) (evAsg (Pv.ev (n + 1)) c t v) := by
  have h := (ev_ok (G := G) (n + 1)).e X W c ok
  unfold evAsg
  split
  · split
    · rename_i i hi
      exact evSet_ok (ev_ok (n + 1)) (fun _ => rfl) ok hi
    · exact js_no
  · split
    · exact evTupS_ok ok h
    · rename_i hv
      have hv : notTup v = true := by cases v <;> first | rfl | exact absurd rfl (hv _ _ _)
      rename_i ts k p _ _
      obtain ⟨tg, pg, sg⟩ := (evTg_ok ok 4 (.Tuple ts k p)).ex
      obtain ⟨te, pe, se⟩ := (h v).ex
      exact ⟨_, ps_asg pe pg (sole_tup _ _ _) (sw_notTup hv _) rfl, ss_asgG se sg⟩
  · split
    · rename_i s hs
      split
      · rename_i i _ _ hi
        obtain ⟨ti, pi, si⟩ := (h i).ex
        obtain ⟨tv, pv, sv⟩ := (h v).ex
        refine ⟨_, ps_or (ps_asg pv (pg_sub (nameSlot_ok ok hs) pi set_list ?_) (sole_sub _ _ _) (sw_sub _ _) rfl) (ps_dput (by have := ok.un; omega) (nameSlot_ok ok hs) pi pv ?_), ss_setA s si sv⟩
        · intro u
          cases i <;> first | rfl | cases hi
        · cases v <;> rfl
      · exact js_no
    · exact js_no
  · split
    · rename_i s hs
      obtain ⟨tv, pv, sv⟩ := (h v).ex
      exact ⟨_, ps_fld (nameSlot_ok ok hs) pv (by cases v <;> rfl), by rw [ok.K]; exact ss_fldS (fldOk ok) s _ sv⟩
    · exact js_no
  · exact js_no
def augF : Operator → Option (Int → Int → Int)
  | .Add => some fun i j => i + j
  | .Sub => some fun i j => i - j
  | _ => none
theorem augF_ok {op : Operator} {f : Int → Int → Int} (h : augF op = some f) : PIp X op (ipI f) := by
  cases op <;> simp only [augF, Option.some.injEq, reduceCtorEq] at h
  · subst h; exact ip_add
  · subst h; exact ip_sub
def evAug (E : Expr → WE) (c : Cs) (t : Expr) (op : Operator) (e : Expr) : WS := match augF op with
  | some f => (match t with
      | .Name x _ => (match locOf c x with | some i => if i ∈ c.as then wAug (as := c.as) i f (E e) else wNoS | none => wNoS)
      | .Subscript o i _ => (match nameSlot c o with | some s => if plainIx i then wAugL s f (E i) (E e) else wNoS | none => wNoS)
      | _ => wNoS)
  | none => wNoS
theorem evAug_ok (ok : CtxOk X G W c) {E : Expr → WE} (h : ∀ e, JE X G W e (E e)) {t e : Expr} {op : Operator} {pos : Pos} : JS X G W c.as (.AugAssign t op e pos) (evAug E c t op e) := by
  unfold evAug
  split
  · rename_i f hf
    split
    · split
      · rename_i i hi
        split
        · obtain ⟨h1, h2, h3⟩ := ok.loc hi
          obtain ⟨te, pe, se⟩ := (h e).ex
          exact ⟨_, ps_aug (ok_nd ok) h1 h2 pe (augF_ok hf) h3, ss_aug i f se⟩
        · exact js_no
      · exact js_no
    · split
      · rename_i s hs
        split
        · rename_i i _ _ hi
          obtain ⟨ti, pi, si⟩ := (h i).ex
          obtain ⟨te, pe, se⟩ := (h e).ex
          refine ⟨_, ps_augS (nameSlot_ok ok hs) pi pget_list pe (augF_ok hf) set_list ?_, by rw [ok.K]; exact ss_augL s f si se⟩
          intro ov iv new
          cases i <;> first | rfl | cases hi
        · exact js_no
      · exact js_no
    · exact js_no
  · exact js_no
def isDoc : Expr → Bool
  | .Constant (.str _) _ _ => true
  | _ => false
def evSs (S : Stmt → WS) : List Stmt → WS
  | [] => wNext
  | [st] => S st
  | st :: st2 :: r => wSeq (S st) (evSs S (st2 :: r))
theorem evSs_ok {S : Stmt → WS} (h : ∀ st, JS X G W c.as st (S st)) : ∀ l : List Stmt, JSs X G W c.as l (evSs S l)
  | [] => ⟨_, pss_nil, ss_next⟩
  | [st] => by
    obtain ⟨t, ps, ss⟩ := (h st).ex
    exact ⟨_, pss_one ps, ss⟩
  | st :: st2 :: r => by
    obtain ⟨t, ps, ss⟩ := (h st).ex
    obtain ⟨u, ps2, ss2⟩ := (evSs_ok h (st2 :: r)).ex
    exact ⟨_, pss_cons ps ps2, ss_seq ss ss2⟩
def evRet (E : Expr → WE) (c : Cs) (e : Expr) : WE := match nameSlot c e with | some i => wMove i | none => E e
def evDrop (E : Expr → WE) (e : Expr) : WS := if isDoc e then wNext else if noComp e then wDrop (E e) else wNoS
theorem evDrop_ok {E : Expr → WE} (h : ∀ e, JE X G W e (E e)) {e : Expr} {pos : Pos} : JS X G W as (.Expr e pos) (evDrop E e) := by
  unfold evDrop
  split
  · rename_i hd
    cases e with
    | Constant k j p =>
      cases k with
      | str x => exact ⟨_, ps_doc, ss_next⟩
      | _ => cases hd
    | _ => cases hd
  · split
    · rename_i hn
      obtain ⟨te, pe, se⟩ := (h e).ex
      exact ⟨_, ps_expr pe (noComp_sw hn _ _ _), ss_drop se⟩
    · exact js_no
def evS (ev : Cs → Ev) (c : Cs) : Nat → Stmt → WS
  | 0, _ => wNoS
  | k + 1, st => match st with
    | .Assign [t] v _ => (match xAsg c (ev c).E t v with | some m => m | none => evAsg ev c t v)
    | .AugAssign t op e _ => evAug (ev c).E c t op e
    | .If t a b _ => wIfS ((ev c).T t) (evSs (evS ev c k) a) (evSs (evS ev c k) b)
    | .For tg iter body [] _ => if notSet iter then wFor (evIt c (ev c).E tg iter) (evTg c 4 tg) (evSs (evS ev c k) body) else wNoS
    | .While t body [] _ => wWhile ((ev c).T t) (evSs (evS ev c k) body)
    | .Return none _ => wRetN
    | .Return (some e) _ => wRet (evRet (ev c).E c e)
    | .Expr e _ => evDrop (ev c).E e
    | .Pass _ => wNext
    | .Break _ => wBreak
    | .Continue _ => wCont
    | .Raise (some e) none _ => evRaise c (ev c).E e
    | .Try body hs [] [] _ => evTry c (evSs (evS ev c k) body) hs
    | _ => wNoS
theorem evS_ok (n : Nat) : ∀ {X : Cx} {W : WX} {c : Cs} (ok : CtxOk X G W c) (pass : PassesOwn (model X.prog X.w) X.A X.env X.xe) (hs : X.stack = X.env :: X.outer) (hf : X.env.frame = some X.env.locals) (k : Nat) (st : Stmt), JS X G W c.as st (evS (Pv.ev (n + 1)) c k st)
  | _, _, _, _, _, _, _, 0, _ => js_no
  | X, W, c, ok, pass, hs, hf, k + 1, st => by
    have h := (ev_ok (G := G) (n + 1)).e X W c ok
    have ht := (ev_ok (G := G) (n + 1)).t X W c ok
    have ih := evS_ok n ok pass hs hf k
    unfold evS
    split
    · split
      · rename_i m hm; exact ⟨_, (xAsg_ok ok h hm).choose_spec⟩
      · exact evAsg_ok n ok
    · exact evAug_ok ok h
    · rename_i t a b _
      obtain ⟨tt, pt, st⟩ := (ht t).ex
      obtain ⟨ta, pa, sa⟩ := (evSs_ok ih a).ex
      obtain ⟨tb, pb, sb⟩ := (evSs_ok ih b).ex
      exact ⟨_, ps_if pt pa pb, ss_if st sa sb⟩
    · rename_i tg iter body _
      split
      · rename_i hs
        obtain ⟨wi, pi, si⟩ := (evIt_ok ok h (tg := tg) (iter := iter)).ex
        obtain ⟨g, pg, sg⟩ := (evTg_ok ok 4 tg).ex
        obtain ⟨tb, pb, sb⟩ := (evSs_ok ih body).ex
        exact ⟨_, ps_for pass ok.calm pi pg pb (notSet_ok hs _), ss_for si sg sb⟩
      · exact js_no
    · rename_i t body _
      obtain ⟨tt, pt, st⟩ := (ht t).ex
      obtain ⟨tb, pb, sb⟩ := (evSs_ok ih body).ex
      exact ⟨_, ps_while pass pt pb, ss_while st sb⟩
    · exact ⟨_, ps_retN, ss_retN⟩
    · rename_i e _
      unfold evRet
      cases hn : nameSlot c e with
      | some i => exact ⟨_, ps_ret (nameSlot_ok ok hn), ss_ret (se_move i)⟩
      | none =>
        obtain ⟨te, pe, se⟩ := (h e).ex
        exact ⟨_, ps_ret pe, ss_ret se⟩
    · exact evDrop_ok h
    · exact ⟨_, ps_pass, ss_next⟩
    · exact ⟨_, ps_break, ss_break⟩
    · exact ⟨_, ps_continue, ss_cont⟩
    · exact evRaise_ok ok h
    · exact evTry_ok ok hs hf fun W' pn xe ok' pass' => evSs_ok (fun st => evS_ok n ok' pass' hs hf k st) _
    · exact js_no
end
end Pv

set_option Elab.async false
set_option maxRecDepth 100000
set_option maxHeartbeats 4000000
set_option autoImplicit false
set_option linter.unusedVariables false
namespace Pv
open PySem PySem.Spec PyProof.Rows L2

/-! ### a def by its printed body -/
/-- what a def's text leans on: the defs, globals and built-ins that it names -/
structure Sta (P : Program) (w : World) (K : PySem.W.Frag) (mg : Str → Option Value) (base : Heap) (G : Gs) (k : Nat) (c : Cs) : Prop where
  kk : K = G.K
  fn : ∀ x f, c.fn x = some f → ∃ (a : Addr) (fd : FuncData), mg x = some (.ref a) ∧ PySem.W.keepIn K (.ref a) = true ∧ FnG P w K mg base k a fd f.ps (spOf G f.ps.length f.C) ∧ ∀ s ∈ f.sh, Shp K fd f.ps s.1 s.2.1 s.2.2
  gv : ∀ x d, c.gv x = some d → ∃ v u, mg x = some u ∧ RelV v u ∧ ∀ F, RepD G F v d
  bi : ∀ x, c.bi x = true → mg x = none
  er : ∀ x f, c.er x = some f → ∃ C fI qn, PySem.ErrX.Txt K mg x C fI f qn ∧ G.cl x = some C
  sub : ∀ x y b C, c.sub x y = some b → G.cl x = some C → ∃ C', mg y = some (.ref C') ∧ PySem.W.exmOne K (.ref C) (.ref C') = some b
  xc : ∀ y, c.xc y = true → ∃ C, mg y = some (.ref C)
  sys : SysIn base
  ic : ∀ cn C, c.ic cn = true → G.cl cn = some C → IsC K C ∧ ∀ t ∈ baseTys, PySem.W.kitOne K (.ref C) (.type t) = some false
  io : ∀ y, c.io y = true → ∃ C', mg y = some (.ref C') ∧ (∀ t ∈ baseTys, PySem.W.kitOne K (.type t) (.ref C') = some false) ∧ ∀ cn b C, c.isub cn y = some b → G.cl cn = some C → IsC K C ∧ PySem.W.kitOne K (.ref C) (.ref C') = some b
  fa : ∀ cn f C, c.fa cn f = true → G.cl cn = some C → Cls K C ∧ NoAttr K C f
  cm : ∀ x f, c.cm x = some f → ∃ (C fI : Addr) (fd : FuncData) (j : Nat), j + 1 ≤ k ∧ mg x = some (.ref C) ∧ G.cl x = some C ∧ Mk K C fI ∧ FnG P w K mg base j fI fd f.ps (spOf G f.ps.length f.C) ∧ ∀ s ∈ f.sh, Shp K fd f.ps (s.1 + 1) s.2.1 (up1 s.2.2)
  eq : ∀ cn C, c.eq cn = some C → ∃ (Ca f : Addr) (fd : FuncData) (ps : List Str), G.cl cn = some Ca ∧ FnG P w K mg base k f fd ps (spOf G 2 C) ∧ PySem.W.findIn K (.ref Ca) "__eq__" = some (some (.ref f)) ∧ PySem.W.isFn K (.ref f) = true ∧ Shp K fd ps 2 [] [0, 1] ∧ PySem.W.notFirst K Ca (.ref Ca) = true
/-- a lambda's name in the def of the name qual -/
def lamN (qual : Str) : Str := qual ++ ".<locals>." ++ "<lambda>"
/-- a def's context is good -/
theorem ctx_def {P : Program} {w : World} {K : PySem.W.Frag} {mg : Str → Option Value} {base : Heap} {G : Gs} {k rm : Nat} {qual : Str} {st : Stmt} {N ps : List Str} {c : Cs} {cdv : Value} {A : Around} {outer : List Env} {s : Shared} {H : Hp} {E : XK} {f₀ : Addr}
    (Sc : FnScope N ps (defScope st)) (hn : (decide (ps.length ≤ N.length) && decide (c.N = N) && decide (c.sc = defScope st) && (c.dl == G.dl) && (c.dc == G.dc) && decide (c.kb = k)) = true) (T : Sta P w K mg base G k c)
    (hr : Room (k + rm) (A.deeper (envOfC qual (defScope st) s.heap.objs.size f₀ cdv))) (hgd : A.guards = some [])
    (hlm : ∀ i f F0 L, c.lm = some (i, f, F0, L) → ∃ a, c.N[i]? = some a ∧ ∀ (W' : WX) (pn : List (Addr × Obj)) (xe : Value → Shared → Prop) (pa pb : Pos), Takes ((cxOf (L2.CX P w) P w K mg base N qual (defScope st) f₀ cdv A outer s H E).tr pn xe) W' → JE ((cxOf (L2.CX P w) P w K mg base N qual (defScope st) f₀ cdv A outer s H E).tr pn xe) G W' (.Call (.Name a pa) [] [] pb) (wAct i f F0 L))
    (hlf : ∀ x CL, c.lf x = some CL → 2 ≤ rm ∧ ∃ g cc Pt : Addr, mg x = some (.ref g) ∧ PySem.W.keepIn K (.ref g) = true ∧ FnL P w K mg base G k g CL ∧ LamX.TabB base mg cc Pt ∧ cdv = .ref cc ∧ (Pt, lamN qual) ∈ G.tb ∧ ∀ p ∈ G.tb, p.1 = Pt → p.2 = lamN qual) :
    CtxOk (cxOf (L2.CX P w) P w K mg base N qual (defScope st) f₀ cdv A outer s H E) G (fun cls d _ H => E cls d H) c := by
  simp only [Bool.and_eq_true, decide_eq_true_eq, beq_iff_eq] at hn
  obtain ⟨⟨⟨⟨⟨hnN, hN⟩, hsc⟩, hdl⟩, hdc⟩, hkb⟩ := hn
  have hr0 : Room k (A.deeper (envOfC qual (defScope st) s.heap.objs.size f₀ cdv)) := hr.mono (Nat.le_add_right k rm)
  exact ⟨T.kk, hN.symm, by rw [hN]; exact Sc.nd, hsc.symm, rfl, takes_of rfl rfl rfl rfl, hgd, (by have := hr.un; show (A.deeper _).units + 200 < cLine; omega), by rw [hsc]; exact Sc.kind, (by have := hr.dp; show (A.deeper _).depth + 1 < recursionLimit; omega), T.er, T.sub, T.xc, T.sys, T.ic, T.io, T.fa,
    (fun x g hx => by obtain ⟨C, fI, fd, j, hj, h⟩ := T.cm x g hx; exact ⟨C, fI, fd, j, ⟨hr0.mono hj, by rw [hkb]; exact hj⟩, h⟩), (fun cn C hx => by obtain ⟨Ca, f, fd, ps, h1, h⟩ := T.eq cn C hx; exact ⟨Ca, f, fd, ps, k, h1, ⟨hr0, by rw [hkb]; exact Nat.le_refl k⟩, h⟩), hdl.symm, hdc.symm, fun _ _ => .inl rfl,
    (fun y g hy => by
      obtain ⟨a, fd, h1, h2, h3, h4⟩ := T.fn y g hy
      exact ⟨a, fd, k, ⟨hr0, by rw [hkb]; exact Nat.le_refl k⟩, h1, h2, h3, h4⟩), T.gv, T.bi, hlm, fun x CL hx => by
      obtain ⟨h2, g, cc, Pt, a1, a2, a3, a4, a5, a6, a7⟩ := hlf x CL hx
      rw [hkb]
      exact ⟨g, cc, Pt, a1, a2, a3, a4, a5, a6, a7, hr.mono (Nat.add_le_add_left h2 k)⟩⟩
/-- THE RULE for a def by its printed body; rm = 2 where it makes lambdas -/
theorem fnG_evR {P : Program} {w : World} {K : PySem.W.Frag} {mg : Str → Option Value} {base : Heap} {G : Gs} {k : Nat} (rm : Nat) {f : Addr} {x qual : Str} {st : Stmt} {fd : FuncData} {N ps : List Str} {C : Ct} {m : WS} {c : Cs}
    (Fn : Fun K x qual st f fd) (Sc : FnScope N ps (defScope st)) (hn : (decide (ps.length ≤ N.length) && decide (c.N = N) && decide (c.sc = defScope st) && (c.dl == G.dl) && (c.dc == G.dc) && decide (c.kb = k)) = true) (hlm : c.lm = none) (T : Sta P w K mg base G k c)
    (hlf : ∀ x CL, c.lf x = some CL → 2 ≤ rm ∧ ∃ g cc Pt : Addr, mg x = some (.ref g) ∧ PySem.W.keepIn K (.ref g) = true ∧ FnL P w K mg base G k g CL ∧ LamX.TabB base mg cc Pt ∧ fd.code = .ref cc ∧ (Pt, lamN qual) ∈ G.tb ∧ ∀ p ∈ G.tb, p.1 = Pt → p.2 = lamN qual)
    (hm : evSs (evS (ev 30) c 14) (defBody st) = m)
    (hC : ∀ os Qd Ed, os.length = ps.length → C os Qd Ed → m (slot0 N.length os) (endOf c.as ps.length Qd Ed)) : FnG P w K mg base (k + rm + 1) f fd ps (spOf G ps.length C) := by
  have hnN : ps.length ≤ N.length := by
    simp only [Bool.and_eq_true, decide_eq_true_eq] at hn
    exact hn.1.1.1.1.1
  refine fnG_of (nN := N.length) (as := c.as) (m := m) Fn Sc rfl hnN (fun cdv A outer s H E hcd hr hgd => ?_) hC
  rw [← hm]
  refine evSs_ok (fun st => evS_ok 29 ?_ (passes_of rfl) rfl rfl 14 st) _
  refine ctx_def (rm := rm) Sc hn T hr hgd (fun i f F0 L h => by rw [hlm] at h; cases h) fun x CL hx => ?_
  rw [← hcd]
  exact hlf x CL hx
/-- the same, no lambda made -/
theorem fnG_ev {P : Program} {w : World} {K : PySem.W.Frag} {mg : Str → Option Value} {base : Heap} {G : Gs} {k : Nat} {f : Addr} {x qual : Str} {st : Stmt} {fd : FuncData} {N ps : List Str} {C : Ct} {m : WS} {c : Cs}
    (Fn : Fun K x qual st f fd) (Sc : FnScope N ps (defScope st)) (hn : (decide (ps.length ≤ N.length) && decide (c.N = N) && decide (c.sc = defScope st) && (c.dl == G.dl) && (c.dc == G.dc) && decide (c.kb = k)) = true) (hlm : c.lm = none) (hlf : ∀ x, c.lf x = none) (T : Sta P w K mg base G k c)
    (hm : evSs (evS (ev 30) c 14) (defBody st) = m)
    (hC : ∀ os Qd Ed, os.length = ps.length → C os Qd Ed → m (slot0 N.length os) (endOf c.as ps.length Qd Ed)) : FnG P w K mg base (k + 1) f fd ps (spOf G ps.length C) :=
  fnG_evR 0 Fn Sc hn hlm T (fun x CL h => by rw [hlf] at h; cases h) hm hC
/-- THE RULE for a def that gets a function and calls it -/
theorem fnL_ev {P : Program} {w : World} {K : PySem.W.Frag} {mg : Str → Option Value} {base : Heap} {G : Gs} {k : Nat} {g : Addr} {x qual a : Str} {st : Stmt} {fd : FuncData} {N : List Str} {CL : CtL} {m : Addr → Hp → LamC → WS} {c : Addr → Hp → LamC → Cs} {as : List Nat}
    (Fn : Fun K x qual st g fd) (Sc : FnScope N [a] (defScope st)) (hb : ∀ (s : Shared) (u : Value), BindsTo s fd ⟨[u], []⟩ [(a, u)]) (hNa : N[0]? = some a) (hva : Vis (defScope st) a) (hd : (a == ("__debug__" : Str)) = false) (hcd : (a == ("__classdict__" : Str)) = false)
    (hn : ∀ f F0 L, (decide (([a] : List Str).length ≤ N.length) && decide ((c f F0 L).N = N) && decide ((c f F0 L).sc = defScope st) && ((c f F0 L).dl == G.dl) && ((c f F0 L).dc == G.dc) && decide ((c f F0 L).kb = k)) = true) (hlm : ∀ f F0 L, (c f F0 L).lm = some (0, f, F0, L)) (hlf : ∀ f F0 L x, (c f F0 L).lf x = none)
    (has : ∀ f F0 L, (c f F0 L).as = as) (T : ∀ f F0 L, Sta P w K mg base G k (c f F0 L)) (hm : ∀ f F0 L, evSs (evS (ev 30) (c f F0 L) 14) (defBody st) = m f F0 L)
    (hC : ∀ f F0 L Qd, CL L Qd → m f F0 L (slot0 N.length [.d (.fn f F0)]) (endOf as 1 (fun o _ => Qd o) fun _ _ => False)) : FnL P w K mg base G k g CL := by
  have hN1 : 1 ≤ N.length := by
    have h := hn 0 (fun _ => none) fun _ _ => True
    simp only [Bool.and_eq_true, decide_eq_true_eq] at h
    exact h.1.1.1.1.1
  refine fnL_of (nN := N.length) (as := as) (m := m) Fn Sc rfl hN1 hb hNa hva hd hcd (fun cdv A outer s H f F0 L hr hgd act => ?_) hC
  rw [← hm, ← has f F0 L]
  refine evSs_ok (fun st => evS_ok 29 ?_ (passes_of rfl) rfl rfl 14 st) _
  have hNc : (c f F0 L).N = N := by
    have h := hn f F0 L
    simp only [Bool.and_eq_true, decide_eq_true_eq] at h
    exact h.1.1.1.1.2
  refine ctx_def (rm := 1) Sc (hn f F0 L) (T f F0 L) hr hgd (fun i f' F' L' h => ?_) fun x CL h => by rw [hlf] at h; cases h
  rw [hlm] at h
  cases h
  exact ⟨a, by rw [hNc]; exact hNa, act⟩

/-! ### the law's call, where no repr is under way; ts: the tables of the defs that make lambdas -/
/-- what is tracked at the start: the tables; the script, unless it stands in the written part -/
def H0 (K : PySem.W.Frag) (ts : List Addr) (a : Addr) (vs : List Value) (ns : List Int) : Hp := fun b => if b ∈ ts then some (.tbl #[]) else if b = a ∧ K.lookup a = none then some (.frz { cls := .type "list", data := .seq vs.toArray } (.lst (ns.map V.int))) else none
def emptyT : Obj := { cls := .none, data := .fields #[] }
section
variable {P : Program} {w : World} {K : PySem.W.Frag} {s₁ : Shared} {a : Addr} {vs : List Value} {ns : List Int} {ts : List Addr}
theorem h0_at {b : Addr} {u : HO} (h : H0 K ts a vs ns b = some u) : (b ∈ ts ∧ u = .tbl #[]) ∨ (b ∉ ts ∧ b = a ∧ K.lookup a = none ∧ u = .frz { cls := .type "list", data := .seq vs.toArray } (.lst (ns.map V.int))) := by
  unfold H0 at h
  split at h
  · rename_i q; exact .inl ⟨q, (Option.some.inj h).symm⟩
  · rename_i nq
    split at h
    · rename_i q; exact .inr ⟨nq, q.1, q.2, (Option.some.inj h).symm⟩
    · cases h
/-- what is neither the script nor a table is not tracked -/
theorem h0_out {b : Addr} {o : Obj} (e : s₁.heap.get? b = some o) (hT : ∀ p ∈ ts, s₁.heap.get? p = some emptyT) (ha : s₁.heap.get? a = some { cls := .type "list", data := .seq vs.toArray }) (n1 : o.data ≠ .fields #[]) (n2 : ∀ vs n, o.data ≠ .seq vs n) : H0 K ts a vs ns b = none := by
  cases q : H0 K ts a vs ns b with
  | none => rfl
  | some u =>
    rcases h0_at q with ⟨m, _⟩ | ⟨_, rfl, _⟩
    · rw [hT b m] at e; cases e; exact absurd rfl n1
    · rw [ha] at e; cases e; exact absurd rfl (n2 _ _)
theorem law_callG {mg mb : Str → Option Value} {k : Nat} {fa : Addr} {fd : FuncData} {x : Str} {sp : Sp} {cs : List (Addr × Addr)} (hcs : cs.map (·.2) = ts)
    (KX : K.In s₁.heap) (hns : s₁.heap.Ns mainGlobals mg) (hb : s₁.heap.Ns builtinsNs mb) (hbb : ∀ x : Str, x ≠ "__name__" → mb x = bootBuiltins x) (hlim : s₁.heap.NoLimit) (hg : s₁.gens = #[])
    (hT : ∀ p ∈ ts, s₁.heap.get? p = some emptyT) (nT : ∀ p ∈ ts, K.lookup p = none) (hC : ∀ p ∈ cs, PySem.W.CodeHd s₁.heap p.1 p.2)
    (hbm : ∃ (bm : Addr) (ob : Obj), mg "__builtins__" = some (.ref bm) ∧ bm ≠ builtinsNs ∧ s₁.heap.get? bm = some ob ∧ ob.cls = .type "module" ∧ ob.dict = some builtinsNs ∧ ob.data = .plain)
    (ha : s₁.heap.get? a = some { cls := .type "list", data := .seq vs.toArray }) (hi : IntsAre vs ns) (hl : ns.length ≤ sizeLine) (hr : Room k callerA)
    (hsy : SysIn s₁.heap) (F : ∀ base : Heap, K.In base → base.Ns mainGlobals mg → SysIn base → (∀ p ∈ cs, LamX.TabB base mg p.1 p.2) → FnG P w K mg base k fa fd [x] sp) (hbind : ∀ (s : Shared) (u : Value), BindsTo s fd ⟨[u], []⟩ [(x, u)])
    (hsp : ∀ H : Hp, (∀ p ∈ ts, H p = some (.tbl #[])) → (∀ (b : Addr) (ps : Array Value), H b = some (.tbl ps) → b ∈ ts) → SqL K H a (ns.map V.int) → sp [.ref a] H (fun v _ => v = .bl true) fun _ _ _ => False) :
    codeAny (model P w) callerA (.call (.ref fa) ⟨[.ref a], []⟩) (fun r s' => r = .ok (.ret (.bool true)) ∧ OldK s₁.heap s'.heap ∧ s'.os = s₁.os ∧ AllBare s'.gens) s₁ := by
  have rv := vals_ints hi
  have aT : a ∉ ts := fun z => by
    have q := hT a z
    rw [ha] at q
    cases congrArg Obj.data (Option.some.inj q)
  have seq : SqL K (H0 K ts a vs ns) a (ns.map V.int) := by
    cases hk : K.lookup a with
    | none => exact .inl (.inr ⟨_, (if_neg aT).trans (if_pos ⟨rfl, hk⟩)⟩)
    | some o =>
      have e := KX a o hk
      rw [ha] at e
      cases e
      exact .inr ⟨_, vs.toArray, _, hk, rfl, rfl, rfl, by rw [List.size_toArray, hi.length]; exact hl, by simpa using rv⟩
  have tab : ∀ p ∈ ts, H0 K ts a vs ns p = some (.tbl #[]) := fun p hp => if_pos hp
  have hok : HOk P w (H0 K ts a vs ns) s₁.heap := fun b u q => by
    rcases h0_at q with ⟨m, rfl⟩ | ⟨_, rfl, _, rfl⟩
    · exact hT b m
    · exact ⟨ha, by rw [List.length_map]; exact hl, vs, _, rv, ha⟩
  have dict : ∀ {b : Addr} {o : Obj} {es : Array DictEntry} {ep : Nat}, s₁.heap.get? b = some o → o.data = .dict es ep → (hidT s₁.heap (H0 K ts a vs ns)).get? b = some o := fun {b o es ep} e d =>
    hidT_get e (h0_out e hT ha (fun z => by rw [d] at z; cases z) (fun _ _ z => by rw [d] at z; cases z))
  have ns' : ∀ {b : Addr} {m : Str → Option Value}, s₁.heap.Ns b m → (hidT s₁.heap (H0 K ts a vs ns)).Ns b m := fun ⟨o, es, ep, e, d, r⟩ => ⟨o, es, ep, dict e d, d, r⟩
  have kin : K.In (hidT s₁.heap (H0 K ts a vs ns)) := fun b o e => hidT_get (KX b o e) (by
    cases q : H0 K ts a vs ns b with
    | none => rfl
    | some u =>
      rcases h0_at q with ⟨m, _⟩ | ⟨_, rfl, hk, _⟩
      · rw [nT b m] at e; cases e
      · rw [hk] at e; cases e)
  have mod : Mod K mg (hidT s₁.heap (H0 K ts a vs ns)) := ⟨kin, ns' hns, ⟨mb, ns' hb, hbb⟩, let ⟨mc, h1, h2⟩ := hlim; ⟨mc, ns' h1, h2⟩⟩
  have e0 : Env0 P w K mg (hidT s₁.heap (H0 K ts a vs ns)) callerA [] s₁ (H0 K ts a vs ns) :=
    { frames := rfl, mod := mod, bs := fun b o e => of_hidT e, bsz := Nat.le_of_eq (hidT_size _ _), funs := trivial, frf := fun b hb => absurd (show b ∈ ([] : List Addr) from hb) (by simp), hok := hok, bare := .of_eq hg }
  have inT : ∀ p ∈ cs, p.2 ∈ ts := fun p hp => by rw [← hcs]; exact List.mem_map.mpr ⟨p, hp, rfl⟩
  have tabB : ∀ p ∈ cs, LamX.TabB (hidT s₁.heap (H0 K ts a vs ns)) mg p.1 p.2 := fun p hp => by
    have hTp := hT _ (inT p hp)
    have plain : ∀ {b : Addr} {o : Obj}, s₁.heap.get? b = some o → o.data = .plain → (hidT s₁.heap (H0 K ts a vs ns)).get? b = some o := fun {b o} e d =>
      hidT_get e (h0_out e hT ha (fun z => by rw [d] at z; cases z) (fun _ _ z => by rw [d] at z; cases z))
    obtain ⟨oG, esG, epG, eG, dG, _⟩ := id hns
    constructor
    · obtain ⟨oc, us, f1, f2, f3, f4, f5, f6, f7, c1, c2, c3, rest⟩ := hC p hp
      refine ⟨oc, us, f1, f2, f3, f4, f5, f6, f7, hidT_get c1 (h0_out c1 hT ha (fun z => ?_) (fun _ _ z => by rw [c3] at z; cases z)), c2, c3, rest⟩
      rw [c3] at z
      cases z
      have := rest.1
      simp at this
    · obtain ⟨bm, ob, b1, b2, b3, b4, b5, b6⟩ := hbm
      refine ⟨bm, ob, b1, b2, fun z => ?_, fun z => ?_, plain b3 b6, b4, b5, b6⟩
      · rw [z, eG] at b3; cases b3; rw [dG] at b6; cases b6
      · rw [z, hTp] at b3; cases b3; cases b6
    · intro z
      rw [z, hTp] at eG
      cases eG
      cases dG
  have run := (F _ kin (ns' hns) (let ⟨m, h⟩ := hsy; ⟨m, ns' h⟩) tabB).run callerA [] s₁ (H0 K ts a vs ns) ⟨[.ref a], []⟩ [.ref a] [.ref a] _ _ hr rfl e0 (hbind s₁ (.ref a)) (.cons rfl .nil) (hsp _ tab (fun b ps z => (h0_at z).elim (fun q => q.1) fun q => by cases q.2.2.2) seq)
  refine codeAny_mono run fun r s' h => ?_
  match r, h with
  | .error e, h => obtain ⟨_, _, _, _, _, _, _, _, _, _, _, _, z⟩ := h; exact z.elim
  | .ok .next, h => exact h.elim
  | .ok .brk, h => exact h.elim
  | .ok .cont, h => exact h.elim
  | .ok (.ret u), ⟨v, H', os, bare, un, hok', r', q⟩ =>
    have q : v = .bl true := q
    subst q
    obtain rfl : u = Value.bool true := r'
    have old : ∀ b o, b ∉ ts → s₁.heap.get? b = some o → s'.heap.get? b = some o := fun b o nb e => by
      cases q : H0 K ts a vs ns b with
      | none => exact un.keep b o e q (by intro z; cases z) (by intro z; cases z)
      | some u =>
        rcases h0_at q with ⟨m, _⟩ | ⟨_, rfl, _, rfl⟩
        · exact absurd m nb
        · obtain ⟨e2, _⟩ := hok' _ _ (un.frzs _ _ _ q)
          rw [ha] at e; cases e
          exact e2
    have grown : ∀ b ∈ ts, ∃ more : Array Value, s'.heap.get? b = some { cls := .none, data := .fields more } := fun b hb => by
      obtain ⟨more, z⟩ := un.tbls b #[] (tab b hb)
      exact ⟨_, hok' b _ z⟩
    refine ⟨rfl, ⟨fun b o e => ?_, fun b o e => ?_⟩, os, bare⟩
    · by_cases hb : b ∈ ts
      · obtain ⟨p, hp, ep⟩ := List.mem_map.mp (by rw [hcs]; exact hb : b ∈ cs.map (·.2))
        obtain ⟨more, hm⟩ := grown b hb
        have e' := hT b hb
        rw [e] at e'
        cases e'
        have it := ((hC p hp).tab (by rw [ep]; exact hT b hb)).isCodeTable
        rw [ep] at it
        exact .inr (.inl ⟨it, rfl, #[], more, rfl, by rw [Array.empty_append]; exact hm⟩)
      · exact .inl (old b o hb e)
    · by_cases hb : b ∈ ts
      · obtain ⟨more, hm⟩ := grown b hb
        exact ⟨_, hm⟩
      · exact ⟨o, old b o hb e⟩
end
/-- what the joining of a law must give at the head's heap h -/
def LawG (l : PySem.W.OpenLaw) (w : World) (K : PySem.W.Frag) (k n : Nat) (x : Str) (mg : Str → Option Value) (fa : Addr) (h : Heap) : Prop :=
  ∃ (fd : FuncData) (cs : List (Addr × Addr)) (sp : Sp), (∀ p ∈ cs, h.get? p.2 = some emptyT) ∧ (∀ p ∈ cs, K.lookup p.2 = none) ∧ (∀ p ∈ cs, PySem.W.CodeHd h p.1 p.2) ∧ (∀ (s : Shared) (u : Value), BindsTo s fd ⟨[u], []⟩ [(x, u)]) ∧
    (∀ (H : Hp) (a : Addr) (ns : List Int), ns.length ≤ n → (∀ p ∈ cs.map (·.2), H p = some (.tbl #[])) → (∀ (b : Addr) (ps : Array Value), H b = some (.tbl ps) → b ∈ cs.map (·.2)) → SqL K H a (ns.map V.int) → sp [.ref a] H (fun v _ => v = .bl true) fun _ _ _ => False) ∧
    ∀ base : Heap, K.In base → base.Ns mainGlobals mg → SysIn base → (∀ p ∈ cs, LamX.TabB base mg p.1 p.2) → FnG l.prog w K mg base k fa fd [x] sp
theorem walkG_of {l : PySem.W.OpenLaw} {n k : Nat} {q : Program} {loose : List Str} {XP : (Str → Option Value) → Heap → Prop} {YP : World → Heap → Prop} {d : DefRec} {K : Params → PySem.W.Frag} {x : Str}
    (hi : PyProof.Rows.importsNone q = true) (hn : l.most = some n) (hn2 : n ≤ sizeLine) (hdf : d.params.defaults = []) (hr : Room k callerA)
    (hY : ∀ (w : World) (h : Heap), YP w h → (K w.params).In h)
    (F : ∀ (w : World) (mg : Str → Option Value) (fa : Addr) (h : Heap), YP w h → (K w.params).In h → h.Ns mainGlobals mg → mg d.name = some (.ref fa) → LawG l w (K w.params) k n x mg fa h) :
    PySem.W.WalkO q loose XP YP l.row.toRowW d [] (fun f vs => PySem.call f vs) := by
  refine Att.attach_call hn hdf fun w s₀ s₁ mg mb fa o pm cd doc a vs ns G Y ho hd hcd hmg hobj hints hlen hg => ?_
  have KX := hY w _ Y
  obtain ⟨fd, cs, sp, hT, nT, hC, hb, hsp, hF⟩ := F w mg fa _ Y KX G.T.g hmg
  have mT : ∀ p ∈ cs.map (·.2), ∃ c ∈ cs, c.2 = p := fun p hp => by obtain ⟨c, h1, h2⟩ := List.mem_map.mp hp; exact ⟨c, h1, h2⟩
  exact law_callG (cs := cs) rfl KX G.T.g G.T.b G.T.builtins G.T.nolimit hg (fun p hp => by obtain ⟨c, h1, rfl⟩ := mT p hp; exact hT c h1) (fun p hp => by obtain ⟨c, h1, rfl⟩ := mT p hp; exact nT c h1) hC G.T.bmain hobj hints (Nat.le_trans hlen hn2) hr (let ⟨mm, h, _⟩ := (G.T.seer hi).mods; ⟨mm, h⟩) hF hb
    fun H h1 h2 h3 => hsp H a ns hlen h1 h2 h3
/-- the law's contract: a script comes in, True comes out -/
def lawC (n : Nat) : Ct := fun os Q E => ∃ ns : List Int, os = [.d (.scr ns)] ∧ ns.length ≤ n ∧ ∀ os', Q (.d (.bl true)) os'
theorem law_sp {G : Gs} {n : Nat} {H : Hp} {a : Addr} {ns : List Int} (nd : (G.tb.map (·.1)).Nodup) (hl : ns.length ≤ n) (hT : ∀ p ∈ G.tb.map (·.1), H p = some (.tbl #[])) (hT2 : ∀ (b : Addr) (ps : Array Value), H b = some (.tbl ps) → b ∈ G.tb.map (·.1)) (hS : SqL G.K H a (ns.map V.int)) : spOf G 1 (lawC n) [.ref a] H (fun v _ => v = .bl true) fun _ _ _ => False := by
  have out : ∀ {b : Addr} {u : HO}, H b = some u → u ≠ .tbl #[] → (if b ∈ G.tb.map (·.1) then none else H b) = some u := fun {b u} e n => by
    rw [if_neg (fun m => n (by have := hT b m; rw [e] at this; exact Option.some.inj this))]
    exact e
  have hS' : SqL G.K (fun b => if b ∈ G.tb.map (·.1) then none else H b) a (ns.map V.int) := by
    rcases hS with (z | ⟨o, z⟩) | z
    · exact .inl (.inl (out z (by intro q; cases q)))
    · exact .inl (.inr ⟨o, out z (by intro q; cases q)⟩)
    · exact .inr z
  refine ⟨rfl, fun b => if b ∈ G.tb.map (·.1) then none else H b, [], [.d (.scr ns)], fun r _ => r = .d (.bl true), fun _ _ => False, rfl, ⟨fun b u q => ?_, _, RepI.cons (f1 := []) (o := .d (.scr ns)) ⟨.scr hS', rfl⟩ (.nil (fp := G.tb.map fun p : Addr × Str => p.1) ⟨rfl, fun b ps z => ?_, fun p hp => ?_⟩), (show (([] : List Addr) ++ G.tb.map (·.1)).Nodup from nd), fun b hb => if_pos (show b ∈ G.tb.map (·.1) from hb)⟩, ⟨ns, rfl, hl, fun _ => rfl⟩, fun r os' v F' H' q e O => ?_, fun _ _ _ _ _ _ z => z.elim⟩
  · have q : (if b ∈ G.tb.map (·.1) then none else H b) = some u := q
    split at q
    · cases q
    · exact q
  · have z : (if b ∈ G.tb.map (·.1) then none else H b) = some (HO.tbl ps) := z
    split at z
    · cases z
    · rename_i nb; exact absurd (hT2 b ps z) nb
  · refine ⟨#[], hT _ (List.mem_map.mpr ⟨p, hp, rfl⟩), True.intro, fun pos cv hc => ?_⟩
    have z : codeAmong pos [] = some cv := hc
    simp [codeAmong] at z
  · subst q
    have r : RepD G F' v (.bl true) := (show Own G F' H' ((v, .d (.bl true)) :: _) from O).headD
    cases r
    rfl
end Pv

set_option Elab.async false
set_option maxRecDepth 100000
set_option maxHeartbeats 4000000
set_option autoImplicit false
set_option linter.unusedVariables false
namespace Pv
open PySem L2
/-! ### rules: from what is left to do to the printed text -/
abbrev mSub : D → D → (O → Prop) → Prop := mI0 fun i j => .int (i - j)
abbrev mMod : D → D → (O → Prop) → Prop := mI (fun _ j => 0 < j) fun i j => .int (i % j)
abbrev mDiv : D → D → (O → Prop) → Prop := mI CDivW fun i j => .int (i / j)
abbrev mPow : D → D → (O → Prop) → Prop := mI CPow fun i j => .int (i ^ j.toNat)
abbrev mXor : D → D → (O → Prop) → Prop := mI0 fun i j => .int (Builtin.bitXor i j)
abbrev mLt : D → D → (O → Prop) → Prop := mI0 fun i j => .bl (decide (i < j))
abbrev mLe : D → D → (O → Prop) → Prop := mI0 fun i j => .bl (decide (i ≤ j))
abbrev mGt : D → D → (O → Prop) → Prop := mI0 fun i j => .bl (decide (j < i))
abbrev mGe : D → D → (O → Prop) → Prop := mI0 fun i j => .bl (decide (j ≤ i))
theorem cdivw_small {u v : Int} (h0 : 0 < v) (h : v < 2 ^ 64) : CDivW u v := by
  refine ⟨h0, ?_⟩
  have h2 : v.natAbs ≠ 0 := by omega
  have h3 : v.natAbs < 2 ^ 64 := by omega
  have := (Nat.log2_lt h2).mpr h3
  omega
theorem flat_len {α : Type} (n : Nat) (xs : List α) : (List.replicate n xs).flatten.length = n * xs.length := by
  induction n with
  | zero => simp
  | succ n ih => rw [List.replicate_succ, List.flatten_cons, List.length_append, ih, Nat.add_mul]; omega
theorem cpow_small {u v : Int} (h0 : 0 ≤ v) (h1 : v ≤ 1000000) (h2 : -(2 ^ 64) < u) (h3 : u < 2 ^ 64) : CPow u v := ⟨h0, h1, by omega⟩
theorem cmul_r {u v : Int} (h2 : -(2 ^ 64) < v) (h3 : v < 2 ^ 64) : CMul u v ∨ CMulW u v := .inl (.inr ⟨h2, h3⟩)
theorem cmul_l {u v : Int} (h2 : -(2 ^ 64) < u) (h3 : u < 2 ^ 64) : CMul u v ∨ CMulW u v := .inl (.inl ⟨h2, h3⟩)
section
variable {ρ t : Sl} {nx bk ct : Sl → Prop} {rt : O → Sl → Prop} {ex E : Exc → Sl → Prop} {Q : O → Sl → Prop} {QT : Bool → Sl → Prop} {QA : List D → Sl → Prop} {q : O → Prop} {i j : Nat} {as : List Nat}
  {a b m mb mi mv : WE} {ma mr : WA} {c c2 : WT} {s1 s2 : WS} {x y : D} {xs ys : List D} {o a0 : Option O} {k : Sl → Prop} {A B : Prop} {u v w : Int} {kvs : List (Key × D)}
/-! slots -/
def Put (ρ : Sl) (i : Nat) (o : Option O) (k : Sl → Prop) : Prop := i < ρ.length ∧ k (ρ.set i o)
theorem r_p0 (h : k (o :: t)) : Put (a0 :: t) 0 o k := ⟨Nat.succ_pos _, h⟩
theorem r_pS (h : Put t i o (fun t' => k (a0 :: t'))) : Put (a0 :: t) (i + 1) o k := ⟨Nat.succ_lt_succ h.1, h.2⟩
def Get (ρ : Sl) (i : Nat) (q : O → Prop) : Prop := ∃ o, ρ[i]? = some (some o) ∧ q o
theorem r_g0 {o : O} (h : q o) : Get (some o :: t) 0 q := ⟨o, rfl, h⟩
theorem r_gS (h : Get t i q) : Get (a0 :: t) (i + 1) q := let ⟨o, h1, h2⟩ := h; ⟨o, by simpa using h1, h2⟩
theorem get_has (h : Get ρ i fun _ => True) : wHas i ρ := let ⟨o, h, _⟩ := h; ⟨o, h⟩
def AsI (o : O) (f : Int → Prop) : Prop := match o with | .d (.int i) => f i | _ => False
theorem r_asI {f : Int → Prop} (h : f u) : AsI (.d (.int u)) f := h
def AsB (o : O) (f : Bool → Prop) : Prop := match o with | .d (.bl i) => f i | _ => False
theorem r_asB {f : Bool → Prop} {z : Bool} (h : f z) : AsB (.d (.bl z)) f := h
/-! statements -/
theorem r_end {s : WS} {n : Nat} {Qd : O → Sl → Prop} {Ed : Exc → Sl → Prop} (h : s ρ ⟨fun ρ => Qd (.d .non) (parO as n ρ), fun o ρ => Qd o (parO as n ρ), fun _ => False, fun _ => False, fun e ρ => Ed e (parO as n ρ)⟩) : s ρ (endOf as n Qd Ed) := h
theorem r_seq (h : s1 ρ ⟨fun ρ1 => s2 ρ1 ⟨nx, rt, bk, ct, ex⟩, rt, bk, ct, ex⟩) : wSeq s1 s2 ρ ⟨nx, rt, bk, ct, ex⟩ := h
theorem r_next (h : nx ρ) : wNext ρ ⟨nx, rt, bk, ct, ex⟩ := h
theorem r_brk (h : bk ρ) : wBreak ρ ⟨nx, rt, bk, ct, ex⟩ := h
theorem r_cont (h : ct ρ) : wCont ρ ⟨nx, rt, bk, ct, ex⟩ := h
theorem r_drop (h : m ρ (fun _ ρ1 => nx ρ1) ex) : wDrop m ρ ⟨nx, rt, bk, ct, ex⟩ := h
theorem r_ret (h : m ρ rt ex) : wRet m ρ ⟨nx, rt, bk, ct, ex⟩ := h
theorem r_ifS (h : c ρ (fun z ρ1 => ifB z (s1 ρ1 ⟨nx, rt, bk, ct, ex⟩) (s2 ρ1 ⟨nx, rt, bk, ct, ex⟩)) ex) : wIfS c s1 s2 ρ ⟨nx, rt, bk, ct, ex⟩ := h
theorem r_asg (hi : i ∈ as) (h : m ρ (fun o ρ1 => Put ρ1 i (some o) nx) ex) : wAsg (as := as) i m ρ ⟨nx, rt, bk, ct, ex⟩ := ⟨hi, h⟩
theorem r_asgG {g : WG} (h : m ρ (fun o ρ1 => cold o fun x => g x ρ1 nx) ex) : wAsgG g m ρ ⟨nx, rt, bk, ct, ex⟩ := h
theorem r_gNm (hi : i ∈ as) (h : Put ρ i (some (.d x)) k) : gNm as i x ρ k := ⟨hi, h⟩
theorem r_gTp {n : Nat} {gs : WGs} (hl : xs.length = n) (h : gs xs ρ k) : gTp n gs (.tup xs) ρ k := ⟨hl, h⟩
theorem r_gCn {g : WG} {gs : WGs} (h : g x ρ (fun ρ1 => gs xs ρ1 k)) : gCn g gs (x :: xs) ρ k := h
theorem r_gNl (h : k ρ) : gNl [] ρ k := h
theorem r_aug {f : Int → Int → Int} (hi : i ∈ as) (h : Get ρ i fun o => AsI o fun u => m ρ (fun o ρ1 => AsI o fun v => Put ρ1 i (some (.d (.int (f u v)))) nx) ex) : wAug (as := as) i f m ρ ⟨nx, rt, bk, ct, ex⟩ := by
  obtain ⟨o, ho, h⟩ := h
  refine ⟨hi, ?_⟩
  cases o with
  | d x => cases x with
    | int u => exact ⟨u, ho, h⟩
    | _ => exact h.elim
  | _ => exact h.elim
theorem r_raise {f g : Str} (h : m ρ (fun o ρ1 => cold o fun y => ex ⟨f, [(g, y)]⟩ ρ1) ex) : wRaise f g m ρ ⟨nx, rt, bk, ct, ex⟩ := h
/-! tests, ways -/
theorem r_bool (h : m ρ (fun o ρ1 => AsB o fun z => QT z ρ1) E) : wBool m ρ QT E := h
theorem r_tru (h : m ρ (fun o ρ1 => cold o fun x => truD x fun z => QT z ρ1) E) : wTru m ρ QT E := h
theorem r_andT (h : c ρ (fun z ρ1 => ifB z (c2 ρ1 QT E) (QT false ρ1)) E) : wAndT c c2 ρ QT E := h
theorem r_orT (h : c ρ (fun z ρ1 => ifB z (QT true ρ1) (c2 ρ1 QT E)) E) : wOrT c c2 ρ QT E := h
theorem r_notT (h : c ρ (fun z ρ1 => QT (!z) ρ1) E) : wNotT c ρ QT E := h
theorem r_yes (h : QT true ρ) : wYes ρ QT E := h
theorem r_if (h : c ρ (fun z ρ1 => ifB z (a ρ1 Q E) (b ρ1 Q E)) E) : wIf c a b ρ Q E := h
theorem r_andV (h : a ρ (fun o ρ1 => cold o fun x => truD x fun z => ifB z (b ρ1 Q E) (Q (.d x) ρ1)) E) : wAndV a b ρ Q E := h
theorem r_orV (h : a ρ (fun o ρ1 => cold o fun x => truD x fun z => ifB z (Q (.d x) ρ1) (b ρ1 Q E)) E) : wOrV a b ρ Q E := h
theorem r_notV (h : a ρ (fun o ρ1 => cold o fun x => truD x fun z => Q (.d (.bl (!z))) ρ1) E) : wNotV a ρ Q E := h
theorem r_trN {f : Bool → Prop} (h : f false) : truD .non f := h
theorem r_trB {f : Bool → Prop} {z : Bool} (h : f z) : truD (.bl z) f := h
theorem r_trI {f : Bool → Prop} (h : f (u != 0)) : truD (.int u) f := h
theorem r_trT {f : Bool → Prop} (h : f (!xs.isEmpty)) : truD (.tup xs) f := h
theorem r_trL {f : Bool → Prop} (h : f (!xs.isEmpty)) : truD (.lst xs) f := h
theorem r_iT (h : A) : ifB true A B := ifB_t h
theorem r_iF (h : B) : ifB false A B := ifB_f h
theorem r_iN {z : Bool} (h : ifB z B A) : ifB (!z) A B := by cases z; exact ifB_t (h.2 rfl); exact ifB_f (h.1 rfl)
theorem r_in0 {z : Bool} (h : ifB z A B) : ifB (nb false z) A B := h
theorem r_in1 {z : Bool} (h : ifB z B A) : ifB (nb true z) A B := r_iN h
theorem r_iD {p : Prop} [d : Decidable p] (h1 : p → A) (h2 : ¬ p → B) : ifB (decide p) A B := ⟨fun h => h1 (of_decide_eq_true h), fun h => h2 (of_decide_eq_false h)⟩
theorem r_iNe {n l : Nat} (h1 : n ≠ l → A) (h2 : n = l → B) : ifB (n != l) A B := ⟨fun h => h1 (by simpa using h), fun h => h2 (by simpa using h)⟩
theorem r_iNeI (h1 : u ≠ v → A) (h2 : u = v → B) : ifB (u != v) A B := ⟨fun h => h1 (by simpa using h), fun h => h2 (by simpa using h)⟩
theorem r_iEm (h1 : xs = [] → A) (h2 : xs ≠ [] → B) : ifB xs.isEmpty A B := ⟨fun h => h1 (by simpa using h), fun h => h2 (by simpa using h)⟩
theorem r_iV {z : Bool} (h1 : z = true → A) (h2 : z = false → B) : ifB z A B := ⟨h1, h2⟩
/-! names, constants -/
def VarK (o : O) (i : Nat) (ρ : Sl) (Q : O → Sl → Prop) : Prop := match o with | .d x => Q (.d x) ρ | .deck _ => False | o => Q (.d (fz o)) (ρ.set i (some (.d (fz o))))
theorem r_var (h : Get ρ i fun o => VarK o i ρ Q) : wVar i ρ Q E := h
theorem r_vkD (h : Q (.d x) ρ) : VarK (.d x) i ρ Q := h
theorem r_vkL (h : Put ρ i (some (.d (.lst xs))) fun ρ' => Q (.d (.lst xs)) ρ') : VarK (.lst xs) i ρ Q := h.2
theorem r_vkK (h : Put ρ i (some (.d (.dic kvs))) fun ρ' => Q (.d (.dic kvs)) ρ') : VarK (.dic kvs) i ρ Q := h.2
theorem r_vkI {f : Str} {fs : List (Str × D)} (h : Put ρ i (some (.d (.ins f fs))) fun ρ' => Q (.d (.ins f fs)) ρ') : VarK (.ins f fs) i ρ Q := h.2
/-- any object that is no deck, looked at -/
theorem r_vkA {o : O} (hn : notDeck o) (hi : ρ[i]? = some (some o)) (h : Put ρ i (some (.d (fz o))) fun ρ' => Q (.d (fz o)) ρ') : VarK o i ρ Q := by
  cases o with
  | d x =>
    have e : ρ.set i (some (.d x)) = ρ := by
      obtain ⟨hl, he⟩ := List.getElem?_eq_some_iff.mp hi
      rw [← he]; exact List.set_getElem_self hl
    have h := h.2
    rw [show (some (O.d (fz (O.d x)))) = some (.d x) from rfl, e] at h
    exact h
  | deck n => exact hn.elim
  | lst xs => exact h.2
  | dic kvs => exact h.2
  | ins f fs => exact h.2
def MovK (o : O) (i : Nat) (ρ : Sl) (Q : O → Sl → Prop) : Prop := match o with | .d x => Q (.d x) ρ | o => Q o (ρ.set i none)
theorem r_move (h : Get ρ i fun o => MovK o i ρ Q) : wMove i ρ Q E := h
theorem r_mvD (h : Q (.d x) ρ) : MovK (.d x) i ρ Q := h
theorem r_mvL (h : Put ρ i none fun ρ' => Q (.lst xs) ρ') : MovK (.lst xs) i ρ Q := h.2
theorem r_mvK (h : Put ρ i none fun ρ' => Q (.dic kvs) ρ') : MovK (.dic kvs) i ρ Q := h.2
theorem r_mvI {f : Str} {fs : List (Str × D)} (h : Put ρ i none fun ρ' => Q (.ins f fs) ρ') : MovK (.ins f fs) i ρ Q := h.2
theorem r_mvDk {n : Nat × Addr} (h : Put ρ i none fun ρ' => Q (.deck n) ρ') : MovK (.deck n) i ρ Q := h.2
theorem r_k (h : Q (.d x) ρ) : wK x ρ Q E := h
theorem r_cD {f : D → Prop} (h : f x) : cold (.d x) f := ⟨trivial, h⟩
theorem r_cL {f : D → Prop} (h : f (.lst xs)) : cold (.lst xs) f := ⟨trivial, h⟩
theorem r_cK {f : D → Prop} (h : f (.dic kvs)) : cold (.dic kvs) f := ⟨trivial, h⟩
theorem r_cI {f : D → Prop} {g : Str} {fs : List (Str × D)} (h : f (.ins g fs)) : cold (.ins g fs) f := ⟨trivial, h⟩
/-! operators -/
theorem r_bin {f : D → D → (O → Prop) → Prop} (h : a ρ (fun o ρ1 => b ρ1 (fun o2 ρ2 => cold o fun x => cold o2 fun y => f x y fun o => Q o ρ2) E) E) : wBin f a b ρ Q E := h
theorem r_mI {C : Int → Int → Prop} {g : Int → Int → D} (hc : C u v) (h : q (.d (g u v))) : mI C g (.int u) (.int v) q := ⟨hc, h⟩
theorem r_mI0 {g : Int → Int → D} (h : q (.d (g u v))) : mI0 g (.int u) (.int v) q := h
theorem r_adI (h : q (.d (.int (u + v)))) : mAdd (.int u) (.int v) q := h
theorem r_adS {s z : Str} (hl : s.length + z.length ≤ sizeLine) (h : q (.d (.str (s ++ z)))) : mAdd (.str s) (.str z) q := ⟨hl, h⟩
theorem r_adL (hl : xs.length + ys.length ≤ sizeLine) (h : q (.lst (xs ++ ys))) : mAdd (.lst xs) (.lst ys) q := ⟨hl, h⟩
theorem r_adT (hl : xs.length + ys.length ≤ sizeLine) (h : q (.d (.tup (xs ++ ys)))) : mAdd (.tup xs) (.tup ys) q := ⟨hl, h⟩
theorem r_muI (hc : CMul u v ∨ CMulW u v) (h : q (.d (.int (u * v)))) : mMul (.int u) (.int v) q := ⟨hc, h⟩
theorem r_muL (h1 : -(2 ^ 63) ≤ u ∧ u < 2 ^ 63) (h2 : xs.length * u.toNat ≤ sizeLine) (h : q (.lst (List.replicate u.toNat xs).flatten)) : mMul (.lst xs) (.int u) q := ⟨h1, h2, h⟩
theorem r_muT (h1 : -(2 ^ 63) ≤ u ∧ u < 2 ^ 63) (h2 : xs.length * u.toNat ≤ sizeLine) (h : q (.d (.tup (List.replicate u.toNat xs).flatten))) : mMul (.tup xs) (.int u) q := ⟨h1, h2, h⟩
theorem r_eqI {z : Bool} (h : q (.d (.bl (nb z (decide (u = v)))))) : mEq z (.int u) (.int v) q := h
theorem r_eqS {z : Bool} {s s' : Str} (h : q (.d (.bl (nb z (decide (s = s')))))) : mEq z (.str s) (.str s') q := h
theorem r_eqB {z f g : Bool} (h : q (.d (.bl (nb z (decide (f = g)))))) : mEq z (.bl f) (.bl g) q := h
theorem r_eqTT {z : Bool} (h : mEqD z (.tup xs) (.tup ys) q) : mEq z (.tup xs) (.tup ys) q := .inl h
theorem r_eqLL {z : Bool} (h : mEqD z (.lst xs) (.lst ys) q) : mEq z (.lst xs) (.lst ys) q := .inl h
theorem r_eqLN {z : Bool} (hl : xs.length ≠ ys.length) (h : q (.d (.bl (nb z false)))) : mEq z (.lst xs) (.lst ys) q := .inr (.inl ⟨_, _, rfl, rfl, hl, h⟩)
theorem r_eqL0 {z : Bool} (h : q (.d (.bl (nb z xs.isEmpty)))) : mEq z (.lst xs) (.lst []) q := by
  cases xs with
  | nil => exact .inl ⟨rfl, rfl, rfl, rfl, h⟩
  | cons x xs => exact r_eqLN (by simp) h
theorem r_eqT0 {z : Bool} (h : q (.d (.bl (nb z xs.isEmpty)))) : mEq z (.tup xs) (.tup []) q := .inr (.inr ⟨_, rfl, rfl, h⟩)
theorem r_inT0 (h1 : leafD x = true) (h2 : ys.all leafD = true) (h : q (.d (.bl (inD x ys)))) : mIn false x (.tup ys) q := ⟨h1, h2, h⟩
theorem r_inT1 (h1 : leafD x = true) (h2 : ys.all leafD = true) (h : q (.d (.bl (!inD x ys)))) : mIn true x (.tup ys) q := ⟨h1, h2, h⟩
theorem r_inL0 (h1 : leafD x = true) (h2 : ys.all leafD = true) (h : q (.d (.bl (inD x ys)))) : mIn false x (.lst ys) q := ⟨h1, h2, h⟩
theorem r_inL1 (h1 : leafD x = true) (h2 : ys.all leafD = true) (h : q (.d (.bl (!inD x ys)))) : mIn true x (.lst ys) q := ⟨h1, h2, h⟩
theorem r_is {z : Bool} (h : q (.d (.bl (if z then !isNonD x else isNonD x)))) : mIs z x .non q := ⟨rfl, h⟩
def ChK (o : O) (A B : Prop) : Prop := match o with
  | .d (.bl true) => A
  | .d (.bl false) => B
  | _ => False
theorem r_chK {z : Bool} (h : ifB z A B) : ChK (.d (.bl z)) A B := by cases z; exact h.2 rfl; exact h.1 rfl
theorem r_chain {f g : D → D → (O → Prop) → Prop} (h : a ρ (fun o ρ1 => b ρ1 (fun o2 ρ2 => cold o fun x => cold o2 fun y => f x y fun o => ChK o (m ρ2 (fun o3 ρ3 => cold o3 fun z => g y z fun o => Q o ρ3) E) (Q (.d (.bl false)) ρ2)) E) E) : wChain f g a b m ρ Q E := h
theorem r_neg (h : m ρ (fun o ρ1 => AsI o fun u => Q (.d (.int (-u))) ρ1) E) : wNeg m ρ Q E := h
/-! displays, argument lists, built-ins -/
def Sm {α : Type} (xs : List α) (p : Prop) : Prop := xs.length ≤ sizeLine ∧ p
theorem r_sm {α : Type} {xs : List α} {p : Prop} (h : xs.length ≤ 16777216) (k : p) : Sm xs p := ⟨h, k⟩
theorem r_nil (h : QA [] ρ) : wNil ρ QA E := h
theorem r_cons (h : m ρ (fun o ρ1 => cold o fun x => mr ρ1 (fun xs ρ2 => QA (x :: xs) ρ2) E) E) : wCons m mr ρ QA E := h
theorem r_tup (h : ma ρ (fun xs ρ1 => Sm xs (Q (.d (.tup xs)) ρ1)) E) : wTup ma ρ Q E := h
theorem r_lst (h : ma ρ (fun xs ρ1 => Sm xs (Q (.lst xs) ρ1)) E) : wLst ma ρ Q E := h
theorem r_cb {f : List D → (O → Prop) → Prop} (h : ma ρ (fun xs ρ1 => f xs fun o => Q o ρ1) E) : wCB f ma ρ Q E := h
theorem r_mint (h : q (.d (.int u))) : mInt [.int u] q := h
theorem r_mintB {z : Bool} (h : q (.d (.int (if z then 1 else 0)))) : mInt [.bl z] q := h
theorem r_mabs (h : q (.d (.int (if u < 0 then -u else u)))) : mAbs [.int u] q := h
theorem r_mmax (h : q (.d (.int (if v > u then v else u)))) : mMaxU [.int u, .int v] q := .inl h
theorem r_mmin (h : q (.d (.int (if v < u then v else u)))) : mMinU [.int u, .int v] q := .inl h
theorem r_mstr (hc : u.natAbs.log2 < 1920) (h : q (.d (.str (toString u)))) : mStr [.int u] q := ⟨hc, h⟩
theorem r_mlL (h : q (.lst xs)) : mList [.lst xs] q := h
theorem r_mlT (h : q (.lst xs)) : mList [.tup xs] q := h
theorem r_mlS {ns : List Int} (h : q (.lst (ns.map D.int))) : mList [.scr ns] q := h
theorem r_mtL (h : q (.d (.tup xs))) : mTuple (.lst xs) q := h
theorem r_mtT (h : q (.d (.tup xs))) : mTuple (.tup xs) q := h
theorem r_tuple (h : a ρ (fun o ρ1 => cold o fun x => mTuple x fun r => Q r ρ1) E) : wTuple a ρ Q E := h
theorem r_rev (h : a ρ (fun o ρ1 => cold o fun x => mRev x fun r => Q r ρ1) E) : wRev a ρ Q E := h
theorem r_mrL (h : q (.lst xs.reverse)) : mRev (.lst xs) q := h
theorem r_mrT (h : q (.d (.tup xs.reverse))) : mRev (.tup xs) q := h
theorem r_mrS {ns : List Int} (h : q (.lst (ns.reverse.map D.int))) : mRev (.scr ns) q := h
theorem r_repr (hs : Shw x) (h : q (.d (.str (toPy x).shown))) : mRepr [x] q := ⟨hs, h⟩
theorem r_foldB {f : List Bool → Bool} {bs : List Bool} (h : q (.d (.bl (f bs)))) : mFoldB f [.lst (bs.map D.bl)] q := ⟨bs, rfl, h⟩
theorem r_mlenL (h : q (.d (.int (xs.length : Nat)))) : mLen [.lst xs] q := h
theorem r_mlenT (h : q (.d (.int (xs.length : Nat)))) : mLen [.tup xs] q := h
def IsiK (f : D → Option Bool) (x : D) (g : Bool → Prop) : Prop := ∃ z, f x = some z ∧ g z
theorem r_isiK {f : D → Option Bool} {g : Bool → Prop} {z : Bool} (h : f x = some z) (h2 : g z) : IsiK f x g := ⟨z, h, h2⟩
theorem r_isiX {f : D → Option Bool} (h : m ρ (fun o ρ1 => cold o fun x => IsiK f x fun z => Q (.d (.bl z)) ρ1) E) : wIsiX f m ρ Q E := h
/-! items, slices -/
theorem r_has {P : Prop} (h1 : Get ρ i fun _ => True) (h2 : P) : wHas i ρ ∧ P := ⟨get_has h1, h2⟩
theorem r_ixV (h1 : Get ρ i fun _ => True) (h : mb ρ (fun o ρ2 => cold o fun y => Get ρ2 i fun o => cold o fun x => mIx x y fun r => Q r ρ2) E) : wIxV i mb ρ Q E := ⟨get_has h1, h⟩
theorem r_ixL (hx : atI xs u = some x) (h : q (.d x)) : mIx (.lst xs) (.int u) q := ⟨x, hx, h⟩
theorem r_ixT (hx : atI xs u = some x) (h : q (.d x)) : mIx (.tup xs) (.int u) q := ⟨x, hx, h⟩
def AxK (o : O) (A B : Prop) : Prop := match dicO o with | some _ => A | none => B
theorem r_ixA (h : Get ρ i fun o => AxK o (wGetV i mb ρ Q E) (wIxV i mb ρ Q E)) : wIxA i mb ρ Q E := h
theorem r_axL (h : B) : AxK (.lst xs) A B := h
theorem r_axK (h : A) : AxK (.dic kvs) A B := h
theorem r_axDL (h : B) : AxK (.d (.lst xs)) A B := h
theorem r_axDT (h : B) : AxK (.d (.tup xs)) A B := h
theorem r_axDS {s : Str} (h : B) : AxK (.d (.str s)) A B := h
theorem r_axDK (h : A) : AxK (.d (.dic kvs)) A B := h
def GvK (o : O) (y : D) (f : D → Prop) : Prop := ∃ kvs k x, dicO o = some kvs ∧ keyD y = some k ∧ valD kvs k = some x ∧ f x
def Gv (ρ : Sl) (i : Nat) (y : D) (f : D → Prop) : Prop := ∃ o kvs k x, ρ[i]? = some (some o) ∧ dicO o = some kvs ∧ keyD y = some k ∧ valD kvs k = some x ∧ f x
theorem r_gv {f : D → Prop} (h : Get ρ i fun o => GvK o y f) : Gv ρ i y f := let ⟨o, ho, kvs, k, x, h1, h2, h3, h4⟩ := h; ⟨o, kvs, k, x, ho, h1, h2, h3, h4⟩
theorem r_getV (h1 : Get ρ i fun _ => True) (h : mb ρ (fun o ρ2 => cold o fun y => Gv ρ2 i y fun x => Q (.d x) ρ2) E) : wGetV i mb ρ Q E := ⟨get_has h1, h⟩
theorem r_gvK {f : D → Prop} {key : Key} (h1 : keyD y = some key) (h2 : valD kvs key = some x) (h : f x) : GvK (.dic kvs) y f := ⟨kvs, key, x, rfl, h1, h2, h⟩
theorem r_gvDK {f : D → Prop} {key : Key} (h1 : keyD y = some key) (h2 : valD kvs key = some x) (h : f x) : GvK (.d (.dic kvs)) y f := ⟨kvs, key, x, rfl, h1, h2, h⟩
theorem r_part0 {QP : Option Int → Sl → Prop} (h : QP none ρ) : wPart none ρ QP E := h
theorem r_part1 {QP : Option Int → Sl → Prop} (h : m ρ (fun o ρ1 => AsI o fun u => QP (some u) ρ1) E) : wPart (some m) ρ QP E := h
theorem r_slV {lo hi : Option WE} (h1 : Get ρ i fun _ => True) (h : wPart lo ρ (fun l ρ2 => wPart hi ρ2 (fun g ρ3 => Get ρ3 i fun o => cold o fun x => mSl x l g fun r => Q r ρ3) E) E) : wSlV i lo hi ρ Q E := ⟨get_has h1, h⟩
theorem r_slL {lo hi : Option Int} (h : q (.lst (cutD xs lo hi))) : mSl (.lst xs) lo hi q := h
theorem r_slT {lo hi : Option Int} (h : q (.d (.tup (cutD xs lo hi)))) : mSl (.tup xs) lo hi q := h
theorem r_slS {lo hi : Option Int} {ns : List Int} (h : q (.lst ((cutD ns lo hi).map D.int))) : mSl (.scr ns) lo hi q := h
theorem r_eqV {z : Bool} (h1 : Get ρ i fun _ => True) (h : mb ρ (fun o ρ2 => cold o fun y => Get ρ2 i fun o => cold o fun x => mEq z x y fun r => Q r ρ2) E) : wEqV z i mb ρ Q E := ⟨get_has h1, h⟩
def EqK (o : O) (A B : Prop) : Prop := match insO o with | some _ => A | none => B
theorem r_eqVX {eq : Str → Option Ct} (h : Get ρ i fun o => EqK o (wBin (mEqI eq) (wVar i) mb ρ Q E) (wEqV false i mb ρ Q E)) : wEqVX eq i mb ρ Q E := h
theorem r_ekI (h : B) : EqK (.d (.int u)) A B := h
theorem r_ekT (h : B) : EqK (.d (.tup xs)) A B := h
theorem r_ekS {s : Str} (h : B) : EqK (.d (.str s)) A B := h
theorem r_ekB {z : Bool} (h : B) : EqK (.d (.bl z)) A B := h
theorem r_ekN (h : B) : EqK (.d .non) A B := h
theorem r_ekL (h : B) : EqK (.d (.lst xs)) A B := h
theorem r_ekOL (h : B) : EqK (.lst xs) A B := h
theorem r_ekO {f : Str} {fs : List (Str × D)} (h : A) : EqK (.ins f fs) A B := h
theorem r_ekDO {f : Str} {fs : List (Str × D)} (h : A) : EqK (.d (.ins f fs)) A B := h
theorem r_lenV (h : Get ρ i fun o => cold o fun x => lenD x fun n => Q (.d (.int n)) ρ) : wLenV i ρ Q E := h
theorem r_lnT {f : Nat → Prop} (h : f xs.length) : lenD (.tup xs) f := h
theorem r_lnL {f : Nat → Prop} (h : f xs.length) : lenD (.lst xs) f := h
theorem r_lnK {f : Nat → Prop} (h : f kvs.length) : lenD (.dic kvs) f := h
theorem r_lnS {f : Nat → Prop} {ns : List Int} (h : f ns.length) : lenD (.scr ns) f := h
/-! loops -/
theorem r_for {it : WA} {g : WG} {s : WS} (h : it ρ (fun xs ρ1 => forGo g s xs ρ1 ⟨nx, rt, bk, ct, ex⟩) ex) : wFor it g s ρ ⟨nx, rt, bk, ct, ex⟩ := h
theorem r_itr (h : m ρ (fun o ρ1 => cold o fun x => seqK x fun xs => QA xs ρ1) E) : wItr m ρ QA E := h
theorem r_sqL {f : List D → Prop} (h : f xs) : seqK (.lst xs) f := h
theorem r_sqT {f : List D → Prop} (h : f xs) : seqK (.tup xs) f := h
theorem r_sqS {f : List D → Prop} {ns : List Int} (h : f (ns.map D.int)) : seqK (.scr ns) f := h
def Rg1 (xs : List D) (f : List D → Prop) : Prop := match xs with | [.int j] => (-(2 ^ 62) ≤ j ∧ j < 2 ^ 62) ∧ f (rngD 0 j.toNat) | _ => False
theorem r_rng1 (h : ma ρ (fun xs ρ1 => Rg1 xs fun ys => QA ys ρ1) E) : wRng1 ma ρ QA E := h
theorem r_rg1 {f : List D → Prop} (hb : -(2 ^ 62) ≤ u ∧ u < 2 ^ 62) (h : f (rngD 0 u.toNat)) : Rg1 [.int u] f := ⟨hb, h⟩
def Rg2 (xs : List D) (f : List D → Prop) : Prop := match xs with | [.int i, .int j] => (-(2 ^ 62) ≤ i ∧ i < 2 ^ 62 ∧ -(2 ^ 62) ≤ j ∧ j < 2 ^ 62) ∧ f (rngD i (j - i).toNat) | _ => False
theorem r_rng2 (h : ma ρ (fun xs ρ1 => Rg2 xs fun ys => QA ys ρ1) E) : wRng2 ma ρ QA E := h
theorem r_rg2 {f : List D → Prop} (hb : -(2 ^ 62) ≤ u ∧ u < 2 ^ 62 ∧ -(2 ^ 62) ≤ v ∧ v < 2 ^ 62) (h : f (rngD u (v - u).toNat)) : Rg2 [.int u, .int v] f := ⟨hb, h⟩
def En1 (xs : List D) (f : List D → Prop) : Prop := match xs with | [x] => seqK x fun ys => f (enD 0 ys) | _ => False
theorem r_itrE (h : ma ρ (fun xs ρ1 => En1 xs fun ys => QA ys ρ1) E) : wItrE ma ρ QA E := h
theorem r_en1 {f : List D → Prop} (h : seqK x fun ys => f (enD 0 ys)) : En1 [x] f := h
def Zp1 (xs : List D) (f : List D → Prop) : Prop := match xs with | [x, y] => seqK x fun ys => seqK y fun zs => f (zipD ys zs) | _ => False
theorem r_itrZ (h : ma ρ (fun xs ρ1 => Zp1 xs fun ys => QA ys ρ1) E) : wItrZ ma ρ QA E := h
theorem r_zp1 {f : List D → Prop} (h : seqK x fun ys => seqK y fun zs => f (zipD ys zs)) : Zp1 [x, y] f := h
def Wp (own : List Nat) (ρ : Sl) (k : Sl → Prop) : Prop := k (wipeS ρ own)
theorem r_wp0 (h : k ρ) : Wp [] ρ k := h
theorem r_wpS {own : List Nat} (h : Wp own ρ fun ρ' => Put ρ' i none k) : Wp (i :: own) ρ k := h.2
theorem r_lc {it : WA} {g : WG} {own : List Nat} (h : it ρ (fun xs ρ1 => Wp own ρ1 fun ρ2 => lcGo g c a own xs ρ2 [] fun ys ρ3 => Q (.lst ys) ρ3) E) : wLc it g c a own ρ Q E := h
theorem lc_nil {g : WG} {own : List Nat} {acc : List D} {f : List D → Sl → Prop} (h : f acc ρ) : lcGo g c a own [] ρ acc f := h
theorem lc_cons {g : WG} {own : List Nat} {acc : List D} {f : List D → Sl → Prop} (h : g x ρ (fun ρ2 => c ρ2 (fun z ρ3 => ifB z (a ρ3 (fun o ρ4 => cold o fun y => acc.length < sizeLine ∧ Wp own ρ4 fun ρ5 => lcGo g c a own xs ρ5 (acc ++ [y]) f) nox) (Wp own ρ3 fun ρ5 => lcGo g c a own xs ρ5 acc f)) nox)) :
    lcGo g c a own (x :: xs) ρ acc f := h
/-- a comprehension by an invariant -/
theorem lc_inv {g : WG} {own : List Nat} {f : List D → Sl → Prop} (I : List D → List D → Sl → Prop)
    (hn : ∀ acc ρ, I [] acc ρ → f acc ρ)
    (hs : ∀ x xs acc ρ (K : Sl → List D → Prop), (∀ acc' ρ', I xs acc' ρ' → K ρ' acc') → I (x :: xs) acc ρ →
      g x ρ (fun ρ2 => c ρ2 (fun z ρ3 => ifB z (a ρ3 (fun o ρ4 => cold o fun y => acc.length < sizeLine ∧ Wp own ρ4 fun ρ5 => K ρ5 (acc ++ [y])) nox) (Wp own ρ3 fun ρ5 => K ρ5 acc)) nox)) :
    ∀ xs acc ρ, I xs acc ρ → lcGo g c a own xs ρ acc f
  | [], acc, ρ, h => hn acc ρ h
  | x :: xs, acc, ρ, h => hs x xs acc ρ (fun ρ' acc' => lcGo g c a own xs ρ' acc' f) (fun acc' ρ' h' => lc_inv I hn hs xs acc' ρ' h') h
theorem for_nil {g : WG} {s : WS} (h : nx ρ) : forGo g s [] ρ ⟨nx, rt, bk, ct, ex⟩ := h
theorem for_cons {g : WG} {s : WS} (h : g x ρ fun ρ1 => s ρ1 ⟨fun ρ2 => forGo g s xs ρ2 ⟨nx, rt, bk, ct, ex⟩, rt, nx, fun ρ2 => forGo g s xs ρ2 ⟨nx, rt, bk, ct, ex⟩, ex⟩) : forGo g s (x :: xs) ρ ⟨nx, rt, bk, ct, ex⟩ := h
/-- a loop by an invariant -/
theorem for_inv {g : WG} {s : WS} (I : List D → Sl → Prop) (hn : ∀ ρ, I [] ρ → nx ρ)
    (hs : ∀ x xs ρ (K : Sl → Prop), (∀ ρ', I xs ρ' → K ρ') → I (x :: xs) ρ → g x ρ (fun ρ1 => s ρ1 ⟨K, rt, nx, K, ex⟩)) : ∀ xs ρ, I xs ρ → forGo g s xs ρ ⟨nx, rt, bk, ct, ex⟩
  | [], ρ, h => hn ρ h
  | x :: xs, ρ, h => hs x xs ρ (fun ρ' => forGo g s xs ρ' ⟨nx, rt, bk, ct, ex⟩) (fun ρ' h' => for_inv I hn hs xs ρ' h') h
theorem r_while {s : WS} (I : Nat → Sl → Prop) {n : Nat} (h0 : I n ρ) (h : ∀ n ρ, I n ρ → c ρ (fun z ρ1 => ifB z (s ρ1 ⟨fun ρ2 => ∃ n', n' < n ∧ I n' ρ2, rt, nx, fun ρ2 => ∃ n', n' < n ∧ I n' ρ2, ex⟩) (nx ρ1)) ex) : wWhile c s ρ ⟨nx, rt, bk, ct, ex⟩ := ⟨I, ⟨n, h0⟩, h⟩
/-! lists in slots -/
def AsL (o : O) (f : List D → Prop) : Prop := match o with | .lst xs => f xs | _ => False
theorem r_asL {f : List D → Prop} (h : f xs) : AsL (.lst xs) f := h
theorem r_pop (h : Get ρ i fun o => AsL o fun xs => ∃ y, xs[xs.length - 1]? = some y ∧ Put ρ i (some (.lst xs.dropLast)) fun ρ' => Q (.d y) ρ') : wPop i ρ Q E := by
  obtain ⟨o, ho, h⟩ := h
  cases o with
  | lst xs => obtain ⟨y, hy, h⟩ := h; exact ⟨xs, y, ho, hy, h.2⟩
  | _ => exact h.elim
def AsK (o : O) (f : List (Key × D) → Prop) : Prop := match o with | .dic kvs => f kvs | _ => False
theorem r_asK {f : List (Key × D) → Prop} (h : f kvs) : AsK (.dic kvs) f := h
theorem r_setA (h : Get ρ i fun o => AxK o (wPutV i mi mv ρ ⟨nx, rt, bk, ct, ex⟩) (wSetL i mi mv ρ ⟨nx, rt, bk, ct, ex⟩)) : wSetA i mi mv ρ ⟨nx, rt, bk, ct, ex⟩ := h
def HasP (ρ : Sl) (i : Nat) (P : Prop) : Prop := wHas i ρ ∧ P
theorem r_hasP {P : Prop} (h1 : Get ρ i fun _ => True) (h : P) : HasP ρ i P := ⟨get_has h1, h⟩
def SetX (ρ : Sl) (i : Nat) (z : Int) (y : D) (k : Sl → Prop) : Prop := ∃ xs j, ρ[i]? = some (some (.lst xs)) ∧ ixN xs.length z = some j ∧ k (ρ.set i (some (.lst (xs.set j y))))
theorem r_setX (h : Get ρ i fun o => AsL o fun xs => ∃ j, ixN xs.length u = some j ∧ Put ρ i (some (.lst (xs.set j y))) k) : SetX ρ i u y k := by
  obtain ⟨o, ho, h⟩ := h
  cases o with
  | lst xs => obtain ⟨j, hj, h⟩ := h; exact ⟨xs, j, ho, hj, h.2⟩
  | _ => exact h.elim
theorem r_setL (h : mv ρ (fun o ρ1 => cold o fun y => HasP ρ1 i (mi ρ1 (fun o2 ρ2 => AsI o2 fun z => SetX ρ2 i z y nx) ex)) ex) : wSetL i mi mv ρ ⟨nx, rt, bk, ct, ex⟩ := h
def PutX (ρ : Sl) (i : Nat) (kd y : D) (f : Sl → Prop) : Prop := ∃ kvs k, ρ[i]? = some (some (.dic kvs)) ∧ keyD kd = some k ∧ kvs.length < sizeLine ∧ f (ρ.set i (some (.dic (putD kvs k y))))
theorem r_putX {kd : D} {f : Sl → Prop} (h : Get ρ i fun o => AsK o fun kvs => ∃ k, keyD kd = some k ∧ kvs.length < 16777216 ∧ Put ρ i (some (.dic (putD kvs k y))) f) : PutX ρ i kd y f := by
  obtain ⟨o, ho, h⟩ := h
  cases o with
  | dic kvs => obtain ⟨k, hk, hl, h⟩ := h; exact ⟨kvs, k, ho, hk, hl, h.2⟩
  | _ => exact h.elim
theorem r_putV (h : mv ρ (fun o ρ1 => cold o fun y => HasP ρ1 i (mi ρ1 (fun o2 ρ2 => cold o2 fun kd => PutX ρ2 i kd y nx) ex)) ex) : wPutV i mi mv ρ ⟨nx, rt, bk, ct, ex⟩ := h
theorem r_srtA (h : Get ρ i fun o => AxK o (wSrtV i ρ Q E) (wCB mSorted (wCons m wNil) ρ Q E)) : wSrtA i m ρ Q E := h
theorem r_dispN (h : Q (.dic []) ρ) : wDispN ρ Q E := h
def Dsp (kvs : List (Key × D)) (P : Prop) : Prop := kvs.length ≤ 15 ∧ P
theorem r_dsp {P : Prop} (h1 : kvs.length ≤ 15) (h : P) : Dsp kvs P := ⟨h1, h⟩
theorem r_disp {ps : List (WE × WE)} (h : wPairs ps ρ (fun kvs ρ1 => Dsp kvs (Q (.dic (mergeD [] kvs)) ρ1)) E) : wDisp ps ρ Q E := h
theorem r_prs0 {QP : List (Key × D) → Sl → Prop} (h : QP [] ρ) : wPairs [] ρ QP E := h
def KyK (y : D) (f : Key → Prop) : Prop := ∃ k, keyD y = some k ∧ f k
theorem r_kyI {f : Key → Prop} (h : f (.inl u)) : KyK (.int u) f := ⟨_, rfl, h⟩
theorem r_kyS {s : Str} {f : Key → Prop} (h : f (.inr s)) : KyK (.str s) f := ⟨_, rfl, h⟩
theorem r_prsS {ps : List (WE × WE)} {QP : List (Key × D) → Sl → Prop} (h : mi ρ (fun o ρ1 => cold o fun kd => KyK kd fun k => mv ρ1 (fun o2 ρ2 => cold o2 fun x => wPairs ps ρ2 (fun kvs ρ3 => QP ((k, x) :: kvs) ρ3) E) E) E) : wPairs ((mi, mv) :: ps) ρ QP E := h
theorem r_pow {n : Int} (hc : CPow u v) (e : u ^ v.toNat = n) (h : q (.d (.int n))) : mI CPow (fun i j => .int (i ^ j.toNat)) (.int u) (.int v) q := ⟨hc, by subst e; exact h⟩
/-! calls -/
def PB (ps : List (Option Nat × O)) (os ρ : Sl) (k : Sl → Prop) : Prop := k (putb ps os ρ)
theorem r_pb0 {os : Sl} (h : k ρ) : PB [] os ρ k := by cases os <;> exact h
theorem r_pbN {ps : List (Option Nat × O)} {o : O} {os : Sl} (h : PB ps os ρ k) : PB ((none, o) :: ps) (a0 :: os) ρ k := h
theorem r_pbD {ps : List (Option Nat × O)} {os : Sl} (h : PB ps os ρ k) : PB ((some i, .d x) :: ps) (a0 :: os) ρ k := h
theorem r_pbK {ps : List (Option Nat × O)} {os : Sl} {n : Nat × Addr} (h : Put ρ i a0 fun ρ' => PB ps os ρ' k) : PB ((some i, .deck n) :: ps) (a0 :: os) ρ k := h.2
theorem r_pbL {ps : List (Option Nat × O)} {os : Sl} (h : Put ρ i a0 fun ρ' => PB ps os ρ' k) : PB ((some i, .lst xs) :: ps) (a0 :: os) ρ k := h.2
theorem r_pbKv {ps : List (Option Nat × O)} {os : Sl} (h : Put ρ i a0 fun ρ' => PB ps os ρ' k) : PB ((some i, .dic kvs) :: ps) (a0 :: os) ρ k := h.2
theorem r_pbA1 {o : O} {os : Sl} (h : k ρ) : PB [(none, o)] os ρ k := by cases os <;> exact h
theorem r_pbA2 {o o2 : O} {os : Sl} (h : k ρ) : PB [(none, o), (none, o2)] os ρ k := by cases os with | nil => exact h | cons _ os => cases os <;> exact h
theorem r_pbA3 {o o2 o3 : O} {os : Sl} (h : k ρ) : PB [(none, o), (none, o2), (none, o3)] os ρ k := by cases os with | nil => exact h | cons _ os => cases os with | nil => exact h | cons _ os => cases os <;> exact h
theorem r_pbA4 {o o2 o3 o4 : O} {os : Sl} (h : k ρ) : PB [(none, o), (none, o2), (none, o3), (none, o4)] os ρ k := by cases os with | nil => exact h | cons _ os => cases os with | nil => exact h | cons _ os => cases os with | nil => exact h | cons _ os => cases os <;> exact h
variable {C : Ct} {b0 b1 b2 b3 : Option Nat} {m0 m1 m2 m3 : WE}
theorem r_call0 (h : C [] (fun r os' => PB [] os' ρ (Q r)) (fun e os' => PB [] os' ρ (E e))) : wCall C [] [] ρ Q E := h
theorem r_call1 (h : m0 ρ (fun o0 ρ1 => C [o0] (fun r os' => PB [(none, o0)] os' ρ1 (Q r)) (fun e os' => PB [(none, o0)] os' ρ1 (E e))) E) : wCall C [0] [(none, m0)] ρ Q E := h
theorem r_call1B (h : HasP ρ i (m0 ρ (fun o0 ρ1 => C [o0] (fun r os' => PB [(some i, o0)] os' ρ1 (Q r)) (fun e os' => PB [(some i, o0)] os' ρ1 (E e))) E)) : wCall C [0] [(some i, m0)] ρ Q E := h
theorem r_call2 (h : m0 ρ (fun o0 ρ1 => m1 ρ1 (fun o1 ρ2 => C [o0, o1] (fun r os' => PB [(none, o0), (none, o1)] os' ρ2 (Q r)) (fun e os' => PB [(none, o0), (none, o1)] os' ρ2 (E e))) E) E) : wCall C [0, 1] [(none, m0), (none, m1)] ρ Q E := h
theorem r_call2B (h : HasP ρ i (m1 ρ (fun o1 ρ1 => m0 ρ1 (fun o0 ρ2 => C [o0, o1] (fun r os' => PB [(some i, o0), (none, o1)] os' ρ2 (Q r)) (fun e os' => PB [(some i, o0), (none, o1)] os' ρ2 (E e))) E) E)) : wCall C [0, 1] [(some i, m0), (none, m1)] ρ Q E := h
theorem r_call3 (h : m0 ρ (fun o0 ρ1 => m1 ρ1 (fun o1 ρ2 => m2 ρ2 (fun o2 ρ3 => C [o0, o1, o2] (fun r os' => PB [(none, o0), (none, o1), (none, o2)] os' ρ3 (Q r)) (fun e os' => PB [(none, o0), (none, o1), (none, o2)] os' ρ3 (E e))) E) E) E) :
    wCall C [0, 1, 2] [(none, m0), (none, m1), (none, m2)] ρ Q E := h
theorem r_call3B (h : HasP ρ i (m1 ρ (fun o1 ρ1 => m2 ρ1 (fun o2 ρ2 => m0 ρ2 (fun o0 ρ3 => C [o0, o1, o2] (fun r os' => PB [(some i, o0), (none, o1), (none, o2)] os' ρ3 (Q r)) (fun e os' => PB [(some i, o0), (none, o1), (none, o2)] os' ρ3 (E e))) E) E) E)) :
    wCall C [0, 1, 2] [(some i, m0), (none, m1), (none, m2)] ρ Q E := h
theorem r_call4 (h : m0 ρ (fun o0 ρ1 => m1 ρ1 (fun o1 ρ2 => m2 ρ2 (fun o2 ρ3 => m3 ρ3 (fun o3 ρ4 => C [o0, o1, o2, o3] (fun r os' => PB [(none, o0), (none, o1), (none, o2), (none, o3)] os' ρ4 (Q r)) (fun e os' => PB [(none, o0), (none, o1), (none, o2), (none, o3)] os' ρ4 (E e))) E) E) E) E) :
    wCall C [0, 1, 2, 3] [(none, m0), (none, m1), (none, m2), (none, m3)] ρ Q E := h
theorem r_make3 {f : Str} (h : m0 ρ (fun o0 ρ1 => m1 ρ1 (fun o1 ρ2 => m2 ρ2 (fun o2 ρ3 => C [.ins f [], o0, o1, o2] (fun r os' => r = .d .non ∧ ∃ o os'', os' = some o :: os'' ∧ PB [(none, o0), (none, o1), (none, o2)] os'' ρ3 (Q o)) (fun e os' => ∃ o os'', os' = o :: os'' ∧ PB [(none, o0), (none, o1), (none, o2)] os'' ρ3 (E e))) E) E) E) :
    wMake f C [0, 1, 2] [(none, m0), (none, m1), (none, m2)] ρ Q E := h
/-! a, b = .. -/
def PO (ρ : Sl) (is : List Nat) (os : List O) (as : List Nat) (k : Sl → Prop) : Prop := os.length = is.length ∧ (∀ i ∈ is, i ∈ as ∧ i < ρ.length) ∧ k (setO ρ is os)
theorem setO_len : ∀ (is : List Nat) (os : List O) (ρ : Sl), (setO ρ is os).length = ρ.length
  | [], _, _ => by simp [setO]
  | _ :: _, [], _ => by simp [setO]
  | i :: is, o :: os, ρ => by rw [setO, setO_len is os, List.length_set]
theorem r_po0 (h : k ρ) : PO ρ [] [] as k := ⟨rfl, fun _ z => absurd z List.not_mem_nil, h⟩
theorem r_poS {is : List Nat} {o : O} {os : List O} (hi : i ∈ as) (h : Put ρ i (some o) fun ρ' => PO ρ' is os as k) : PO ρ (i :: is) (o :: os) as k := by
  obtain ⟨hl, h1, h2, h3⟩ := h
  refine ⟨by rw [List.length_cons, List.length_cons, h1], fun l z => ?_, h3⟩
  rcases List.mem_cons.mp z with z | z
  · subst z; exact ⟨hi, hl⟩
  · have := h2 l z; rw [List.length_set] at this; exact this
theorem r_par {is : List Nat} {l : Args} (h : wAO l ρ (fun os ρ1 => PO ρ1 is os as nx) ex) : wPar as is l ρ ⟨nx, rt, bk, ct, ex⟩ := h
theorem r_ao0 {QO : List O → Sl → Prop} (h : QO [] ρ) : wAO [] ρ QO E := h
theorem r_aoS {QO : List O → Sl → Prop} {l : Args} (h : m ρ (fun o ρ1 => wAO l ρ1 (fun os ρ2 => QO (o :: os) ρ2) E) E) : wAO ((none, m) :: l) ρ QO E := h
/-! the deck -/
def AsDk (o : O) (f : Nat × Addr → Prop) : Prop := match o with | .deck n => f n | _ => False
theorem r_asDk {f : Nat × Addr → Prop} {n : Nat × Addr} (h : f n) : AsDk (.deck n) f := h
theorem r_dkI (h : Get ρ i fun o => AsDk o fun _ => ∀ z : Int, Q (.d (.int z)) ρ) : wDkI i ρ Q E := by
  obtain ⟨o, ho, h⟩ := h
  cases o with
  | deck n => exact ⟨n, ho, h⟩
  | _ => exact h.elim
def HasDk (ρ : Sl) (i : Nat) (P : Prop) : Prop := (∃ n, ρ[i]? = some (some (.deck n))) ∧ P
theorem r_hasDk {P : Prop} (h : Get ρ i fun o => AsDk o fun _ => P) : HasDk ρ i P := by
  obtain ⟨o, ho, h⟩ := h
  cases o with
  | deck n => exact ⟨⟨n, ho⟩, h⟩
  | _ => exact h.elim
theorem r_dkS (h : m ρ (fun o ρ1 => AsI o fun _ => HasDk ρ1 i (nx ρ1)) ex) : wDkS i m ρ ⟨nx, rt, bk, ct, ex⟩ := h
def DkA (n : Nat × Addr) (i : Nat) (ρ : Sl) (k : Sl → Prop) : Prop := ∃ n1 : Nat × Addr, ρ[i]? = some (some (.deck n1)) ∧ n1.2 = n.2 ∧ n1.1 < sizeLine ∧ k (ρ.set i (some (.deck (n1.1 + 1, n1.2))))
theorem r_dkA {n : Nat × Addr} (h : Get ρ i fun o => AsDk o fun n1 => n1.2 = n.2 ∧ n1.1 < 16777216 ∧ Put ρ i (some (.deck (n1.1 + 1, n1.2))) k) : DkA n i ρ k := by
  obtain ⟨o, ho, h⟩ := h
  cases o with
  | deck n1 => exact ⟨n1, ho, h.1, h.2.1, h.2.2.2⟩
  | _ => exact h.elim
theorem r_dkApp (h : Get ρ i fun o => AsDk o fun n => mv ρ (fun o ρ1 => AsI o fun _ => DkA n i ρ1 fun ρ2 => Q (.d .non) ρ2) E) : wDkApp i mv ρ Q E := by
  obtain ⟨o, ho, h⟩ := h
  cases o with
  | deck n => exact ⟨n, ho, h⟩
  | _ => exact h.elim
def ToI (o : O) (f : List Int → Prop) : Prop := match o with | .lst xs => ∃ ns : List Int, xs = ns.map D.int ∧ f ns | _ => False
theorem r_toI {f : List Int → Prop} {ns : List Int} (h : f ns) : ToI (.lst (ns.map D.int)) f := ⟨ns, rfl, h⟩
theorem r_dkNew (h : m0 ρ (fun o ρ1 => ToI o fun ns => m1 ρ1 (fun o ρ2 => AsI o fun _ => m2 ρ2 (fun o ρ3 => AsI o fun _ => ∀ a : Addr, Q (.deck (ns.length, a)) ρ3) E) E) E) : wDkNew m0 m1 m2 ρ Q E := h
theorem r_dkE (h : Get ρ i fun o => AsDk o fun n => Q (.d (.bl (n.1 != 0))) ρ) : wDkE i ρ Q E := by
  obtain ⟨o, ho, h⟩ := h
  cases o with
  | deck n => exact ⟨n, ho, h⟩
  | _ => exact h.elim
theorem r_dkPop (h : Get ρ i fun o => AsDk o fun n => 0 < n.1 ∧ ∀ z : Int, Put ρ i (some (.deck (n.1 - 1, n.2))) fun ρ' => Q (.d (.int z)) ρ') : wDkPop i ρ Q E := by
  obtain ⟨o, ho, h⟩ := h
  cases o with
  | deck n => exact ⟨n, ho, h.1, fun z => (h.2 z).2⟩
  | _ => exact h.elim
/-! a function handed in; a lambda handed to a def -/
theorem r_act {f : Addr} {F0 : Hp} {L : LamC} (hg : ρ[i]? = some (some (.d (.fn f F0)))) (h : L (fun r => Q r ρ) fun e => E e ρ) : wAct i f F0 L ρ Q E := ⟨hg, h⟩
theorem r_lam {CL : CtL} {js : List Nat} (hj : ∀ j ∈ js, ∃ x, ρ[j]? = some (some (.d x))) (h : CL (fun Qd Ed => m (keepD js ρ) (fun o _ => Qd o) fun e _ => Ed e) fun r => Q r ρ) : wLam CL js m ρ Q E := ⟨hj, h⟩
/-! fields, tries -/
theorem r_xf {f g : Str} {fs : List (Str × D)} (hx : fs.lookup g = some x) (h : Q (.d x) ρ) : wXf f g ⟨f, fs⟩ ρ Q E := ⟨rfl, x, hx, h⟩
theorem r_try {sub : Str → Str → Option Bool} {cs : List Cld} (h : s1 ρ ⟨nx, rt, bk, ct, fun e ρ1 => tryGo sub cs e ρ1 ⟨nx, rt, bk, ct, ex⟩⟩) : wTry sub s1 cs ρ ⟨nx, rt, bk, ct, ex⟩ := h
end
end Pv

set_option Elab.async false
set_option maxRecDepth 100000
set_option maxHeartbeats 4000000
set_option autoImplicit false
set_option linter.unusedVariables false
namespace Pv
open PySem L2
local macro_rules | `(tactic| walk_at "wpow") => `(tactic| (simp only [Int.reduceToNat, Int.reducePow]; rfl))
local macro_rules | `(tactic| walk_at "wx") => `(tactic| first | rfl | assumption | with_unfolding_all rfl)
local macro_rules | `(tactic| walk_at "wd") => `(tactic| first | with_reducible rfl | assumption | omega | decide | (refine cdivw_small ?_ ?_ <;> omega) | (refine cdivw_small ?_ ?_ <;> split <;> omega) | (refine cpow_small ?_ ?_ ?_ ?_ <;> omega) | (refine cmul_r ?_ ?_ <;> omega) | (refine cmul_l ?_ ?_ <;> omega) | (simp only [List.length_cons, List.length_nil, List.length_append, List.length_reverse, List.length_map, flat_len, Int.reduceToNat]; omega) | (simp only [sizeLine, List.length_cons, List.length_nil, List.length_append, List.length_reverse, List.length_map, flat_len, Int.reduceToNat]; omega))
local macro_rules | `(tactic| walk_at "w1") => `(tactic| (with_reducible first | refine r_seq ?_ | refine r_bin ?_ | refine r_k ?_ | refine r_var ?_ | refine r_g0 ?_ | refine r_gS ?_ | refine r_vkD ?_ | refine r_cD ?_ | refine r_p0 ?_ | refine r_pS ?_ | refine r_cons ?_ | refine r_nil ?_ | refine r_next ?_ | refine r_ret ?_ | refine r_drop ?_ | refine r_ifS ?_ | refine r_bool ?_ | refine r_tru ?_ | refine r_asI ?_ | refine r_asB ?_ | refine r_andT ?_ | refine r_orT ?_ | refine r_notT ?_ | refine r_yes ?_ | refine r_if ?_ | refine r_andV ?_ | refine r_orV ?_ | refine r_notV ?_ | refine r_trN ?_ | refine r_trB ?_ | refine r_trI ?_ | refine r_trT ?_ | refine r_trL ?_ | refine r_iT ?_ | refine r_iF ?_ | refine r_iN ?_ | refine r_in0 ?_ | refine r_in1 ?_ | refine r_cL ?_ | refine r_cK ?_ | refine r_cI ?_ | refine r_vkL ?_ | refine r_vkK ?_ | refine r_vkI ?_ | refine r_move ?_ | refine r_mvDk ?_ | refine r_mvD ?_ | refine r_mvL ?_ | refine r_mvK ?_ | refine r_mvI ?_ | refine r_mI0 ?_ | refine r_adI ?_ | refine r_eqI ?_ | refine r_eqS ?_ | refine r_eqB ?_ | refine r_eqL0 ?_ | refine r_eqT0 ?_ | refine r_eqTT ?_ | refine r_eqLL ?_ | refine r_is1N ?_ | refine r_is0N ?_ | refine r_is1I ?_ | refine r_is0I ?_ | refine r_is1S ?_ | refine r_is0S ?_ | refine r_is1B ?_ | refine r_is0B ?_ | refine r_is1T ?_ | refine r_is0T ?_ | refine r_is1L ?_ | refine r_is0L ?_ | refine r_is1K ?_ | refine r_is0K ?_ | refine r_is1O ?_ | refine r_is0O ?_ | refine r_is ?_ | refine r_chK ?_ | refine r_chain ?_ | refine r_neg ?_ | refine r_tup ?_ | refine r_lst ?_ | refine r_cb ?_ | refine r_mint ?_ | refine r_mintB ?_ | refine r_mabs ?_ | refine r_mmax ?_ | refine r_mmin ?_ | refine r_mlL ?_ | refine r_mlT ?_ | refine r_mlS ?_ | refine r_mtL ?_ | refine r_mtT ?_ | refine r_tuple ?_ | refine r_rev ?_ | refine r_mrL ?_ | refine r_mrT ?_ | refine r_mrS ?_ | refine r_foldB ?_ | refine r_mlenL ?_ | refine r_mlenT ?_ | refine r_isiX ?_ | refine r_axL ?_ | refine r_axK ?_ | refine r_axDL ?_ | refine r_axDT ?_ | refine r_axDS ?_ | refine r_axDK ?_ | refine r_ixA ?_ | refine r_gv ?_ | refine r_part0 ?_ | refine r_part1 ?_ | refine r_slL ?_ | refine r_slT ?_ | refine r_slS ?_ | refine r_eqVX ?_ | refine r_ekI ?_ | refine r_ekT ?_ | refine r_ekS ?_ | refine r_ekB ?_ | refine r_ekN ?_ | refine r_ekL ?_ | refine r_ekOL ?_ | refine r_ekO ?_ | refine r_ekDO ?_ | refine r_lenV ?_ | refine r_lnT ?_ | refine r_lnL ?_ | refine r_lnK ?_ | refine r_lnS ?_ | refine r_for ?_ | refine r_itr ?_ | refine r_sqL ?_ | refine r_sqT ?_ | refine r_sqS ?_ | refine r_rng1 ?_ | refine r_rng2 ?_ | refine r_itrE ?_ | refine r_en1 ?_ | refine r_itrZ ?_ | refine r_zp1 ?_ | refine r_asK ?_ | refine r_setA ?_ | refine r_setL ?_ | refine r_setX ?_ | refine r_putV ?_ | refine r_putX ?_ | refine r_srtA ?_ | refine r_dispN ?_ | refine r_disp ?_ | refine r_prs0 ?_ | refine r_prsS ?_ | refine r_kyI ?_ | refine r_kyS ?_ | refine r_wp0 ?_ | refine r_wpS ?_ | refine r_lc ?_ | refine r_asL ?_ | refine r_pop ?_ | refine r_pb0 ?_ | refine r_pbA1 ?_ | refine r_pbA2 ?_ | refine r_pbA3 ?_ | refine r_pbA4 ?_ | refine r_pbN ?_ | refine r_pbD ?_ | refine r_pbK ?_ | refine r_pbL ?_ | refine r_pbKv ?_ | refine r_call1 ?_ | refine r_call1B ?_ | refine r_call2 ?_ | refine r_call2B ?_ | refine r_call3 ?_ | refine r_call3B ?_ | refine r_call4 ?_ | refine r_call0 ?_ | refine r_make3 ?_ | refine r_po0 ?_ | refine r_par ?_ | refine r_ao0 ?_ | refine r_aoS ?_ | refine r_asDk ?_ | refine r_dkI ?_ | refine r_hasDk ?_ | refine r_dkS ?_ | refine r_dkA ?_ | refine r_dkApp ?_ | refine r_toI ?_ | refine r_dkNew ?_ | refine r_dkE ?_ | refine r_dkPop ?_ | refine r_try ?_ | refine r_raise ?_ | refine r_gCn ?_ | refine r_gNl ?_ | refine r_asgG ?_ | refine r_brk ?_ | refine r_cont ?_ | refine r_app ?_ | refine r_ext ?_ | refine r_hasL ?_ | refine r_appX ?_ | refine r_extX ?_ | refine r_asLD ?_ | refine r_asN ?_ | refine r_fldS ?_ | refine r_fsX ?_ | refine r_asg (by decide) ?_ | refine r_gNm (by decide) ?_ | refine r_aug (by decide) ?_ | refine r_poS (by decide) ?_ | refine r_hasP ?_ ?_ | refine r_ixV ?_ ?_ | refine r_slV ?_ ?_ | refine r_eqV ?_ ?_ | refine r_getV ?_ ?_ | refine r_gTp rfl ?_ | refine r_inT0 rfl rfl ?_ | refine r_inT1 rfl rfl ?_ | refine r_inL0 rfl rfl ?_ | refine r_inL1 rfl rfl ?_ | exact trivial))
local macro_rules | `(tactic| walk_at "wp") => `(tactic| first | walk_at "w1" | (with_reducible first | refine r_call_10 ?_ | refine r_call_021 ?_ | refine r_call_102 ?_ | refine r_call_120 ?_ | refine r_call_201 ?_ | refine r_call_210 ?_ | refine r_pow (by walk_at "wd") (by walk_at "wpow") ?_ | refine r_dsp (by decide) ?_ | refine r_mI (by walk_at "wd") ?_ | refine r_muI (by walk_at "wd") ?_ | refine r_sm (by walk_at "wd") ?_ | refine r_ixT (by walk_at "wx") ?_ | refine r_ixL (by walk_at "wx") ?_ | refine r_rg1 (by walk_at "wd") ?_ | refine r_rg2 (by walk_at "wd") ?_ | refine r_adT (by walk_at "wd") ?_ | refine r_adL (by walk_at "wd") ?_ | refine r_muT (by walk_at "wd") (by walk_at "wd") ?_ | refine r_muL (by walk_at "wd") (by walk_at "wd") ?_ | refine r_mstr (by walk_at "wd") ?_ | refine And.intro (by walk_at "wd") ?_ | refine r_gvK rfl rfl ?_ | refine r_gvDK rfl rfl ?_) | (with_reducible first | refine r_iD (fun _ => ?_) (fun z => absurd (by first | rfl | decide | omega | (simp only [List.length_cons, List.length_nil]; omega)) z) | refine r_iD (fun z => absurd z (by first | decide | omega | (simp only [List.length_cons, List.length_nil]; omega))) (fun _ => ?_) | refine r_iD (fun _ => ?_) (fun _ => ?_) | refine r_iNe (fun _ => ?_) (fun _ => ?_) | refine r_iNeI (fun _ => ?_) (fun _ => ?_)) | ((with_reducible apply r_isiK); exact rfl) | intro _)
local macro_rules | `(tactic| walk_at "ws") => `(tactic| repeat' (walk_at "wp"))
abbrev mAnd : D → D → (O → Prop) → Prop := mI0 fun i j => .int (Builtin.bitAnd i j)
abbrev mOr : D → D → (O → Prop) → Prop := mI0 fun i j => .int (Builtin.bitOr i j)
abbrev mShl : D → D → (O → Prop) → Prop := mI CPow fun i j => .int (i * 2 ^ j.toNat)
abbrev mShr : D → D → (O → Prop) → Prop := mI (fun _ j => 0 ≤ j) fun i j => .int (i / 2 ^ j.toNat)
/-! ### an integer among integers -/
theorem in_nil {x : D} : inD x [] = false := rfl
theorem in_cons {i j : Int} {ys : List D} : inD (.int i) (.int j :: ys) = (decide (i = j) || inD (.int i) ys) := by
  show ((j == i) || inD (.int i) ys) = _
  by_cases h : i = j
  · subst h; simp
  · have h' : ¬ j = i := fun e => h e.symm
    simp [h, h']
theorem r_iI1 {i a : Int} {A B : Prop} (h1 : i = a → A) (h2 : i ≠ a → B) : ifB (inD (.int i) [.int a]) A B := by
  rw [in_cons, in_nil]
  by_cases h : i = a
  · rw [decide_eq_true h]; exact ifB_t (h1 h)
  · rw [decide_eq_false h]; exact ifB_f (h2 h)
theorem r_iI2 {i a b : Int} {A B : Prop} (h1 : i = a ∨ i = b → A) (h2 : i ≠ a ∧ i ≠ b → B) : ifB (inD (.int i) [.int a, .int b]) A B := by
  rw [in_cons, in_cons, in_nil]
  by_cases h : i = a
  · rw [decide_eq_true h]; exact ifB_t (h1 (.inl h))
  · by_cases h' : i = b
    · rw [decide_eq_false h, decide_eq_true h']; exact ifB_t (h1 (.inr h'))
    · rw [decide_eq_false h, decide_eq_false h']; exact ifB_f (h2 ⟨h, h'⟩)
theorem r_iI3 {i a b c : Int} {A B : Prop} (h1 : i = a ∨ i = b ∨ i = c → A) (h2 : i ≠ a ∧ i ≠ b ∧ i ≠ c → B) : ifB (inD (.int i) [.int a, .int b, .int c]) A B := by
  rw [in_cons, in_cons, in_cons, in_nil]
  by_cases h : i = a
  · rw [decide_eq_true h]; exact ifB_t (h1 (.inl h))
  · by_cases h' : i = b
    · rw [decide_eq_false h, decide_eq_true h']; exact ifB_t (h1 (.inr (.inl h')))
    · by_cases h'' : i = c
      · rw [decide_eq_false h, decide_eq_false h', decide_eq_true h'']; exact ifB_t (h1 (.inr (.inr h'')))
      · rw [decide_eq_false h, decide_eq_false h', decide_eq_false h'']; exact ifB_f (h2 ⟨h, h', h''⟩)
/-! ### loops and comprehensions, whole -/
section
variable {α : Type} {ρ : Sl} {nx bk ct : Sl → Prop} {rt : O → Sl → Prop} {ex E : Exc → Sl → Prop} {a : WE} {c : WT} {s : WS} {g : WG} {own : List Nat} {f : List D → Sl → Prop}
theorem ifB_tt {A B : Prop} : ifB true A B = A := propext ⟨fun h => h.1 rfl, fun h => ifB_t h⟩
/-- a comprehension without a test: every item's value -/
theorem lc_mapG (e F : α → D) : ∀ (xs : List α) (acc : List D), acc.length + xs.length < 16777216 →
    (∀ x ∈ xs, ∀ K : D → Sl → Prop, (∀ ρ4, wipeS ρ4 own = ρ → K (F x) ρ4) → g (e x) ρ (fun ρ2 => a ρ2 (fun o ρ4 => cold o fun y => K y ρ4) nox)) →
    f (acc ++ xs.map F) ρ → lcGo g wYes a own (xs.map e) ρ acc f
  | [], acc, _, _, h => lc_nil (by simpa using h)
  | x :: xs, acc, hl, hs, h => by
    rw [List.length_cons] at hl
    have := hs x List.mem_cons_self (fun y ρ4 => acc.length < sizeLine ∧ Wp own ρ4 fun ρ5 => lcGo g wYes a own (xs.map e) ρ5 (acc ++ [y]) f) (fun ρ4 e' => by
      refine ⟨Nat.lt_of_lt_of_le (show acc.length < 16777216 by omega) (by decide), ?_⟩
      show lcGo g wYes a own (xs.map e) (wipeS ρ4 own) (acc ++ [F x]) f
      rw [e']
      exact lc_mapG e F xs _ (by simp; omega) (fun z hz => hs z (List.mem_cons_of_mem _ hz)) (by simpa [List.append_assoc] using h))
    rw [List.map_cons]
    refine lc_cons ?_
    have e' : ∀ ρ2, wYes ρ2 (fun z ρ3 => ifB z (a ρ3 (fun o ρ4 => cold o fun y => acc.length < sizeLine ∧ Wp own ρ4 fun ρ5 => lcGo g wYes a own (xs.map e) ρ5 (acc ++ [y]) f) nox) (Wp own ρ3 fun ρ5 => lcGo g wYes a own (xs.map e) ρ5 acc f)) nox = a ρ2 (fun o ρ4 => cold o fun y => acc.length < sizeLine ∧ Wp own ρ4 fun ρ5 => lcGo g wYes a own (xs.map e) ρ5 (acc ++ [y]) f) nox := fun ρ2 => ifB_tt
    rw [funext e']
    exact this
theorem lc_map {xs : List α} (e F : α → D) (hl : xs.length < 16777216) (hs : ∀ x ∈ xs, ∀ K : D → Sl → Prop, (∀ ρ4, wipeS ρ4 own = ρ → K (F x) ρ4) → g (e x) ρ (fun ρ2 => a ρ2 (fun o ρ4 => cold o fun y => K y ρ4) nox))
    (h : f (xs.map F) ρ) : lcGo g wYes a own (xs.map e) ρ [] f := lc_mapG e F xs [] (by simpa using hl) hs (by simpa using h)
/-- a comprehension without a test, by what holds of each item's value and of the slots -/
theorem lc_gen {g : WG} {a : WE} {own : List Nat} {f : List D → Sl → Prop} {ρ : Sl} {xs : List D} (P : D → Prop) (S : Sl → Prop) (hl : xs.length < 16777216) (h0 : S ρ)
    (hs : ∀ x ∈ xs, ∀ ρ (K : D → Sl → Prop), S ρ → (∀ y ρ4, P y → S (wipeS ρ4 own) → K y ρ4) → g x ρ (fun ρ2 => a ρ2 (fun o ρ4 => cold o fun y => K y ρ4) nox))
    (hn : ∀ ys ρ, S ρ → (∀ y ∈ ys, P y) → ys.length = xs.length → f ys ρ) : lcGo g wYes a own xs ρ [] f := by
  refine lc_inv (fun rest acc ρ => S ρ ∧ (∀ y ∈ acc, P y) ∧ acc.length + rest.length = xs.length ∧ ∀ x ∈ rest, x ∈ xs) ?_ ?_ xs [] ρ ⟨h0, fun y hy => absurd hy List.not_mem_nil, by simp, fun x hx => hx⟩
  · rintro acc ρ ⟨h1, h2, h3, -⟩
    exact hn acc ρ h1 h2 (by simpa using h3)
  · rintro x rest acc ρ K hK ⟨h1, h2, h3, h4⟩
    rw [List.length_cons] at h3
    have := hs x (h4 x List.mem_cons_self) ρ (fun y ρ4 => acc.length < sizeLine ∧ Wp own ρ4 fun ρ5 => K ρ5 (acc ++ [y])) h1 (fun y ρ4 hp hS => by
      refine ⟨Nat.lt_of_lt_of_le (show acc.length < 16777216 by omega) (by decide), ?_⟩
      refine hK _ _ ⟨hS, fun z hz => ?_, by rw [List.length_append]; simp; omega, fun x hx => h4 x (List.mem_cons_of_mem _ hx)⟩
      rcases List.mem_append.mp hz with hz | hz
      · exact h2 z hz
      · rw [List.mem_singleton.mp hz]; exact hp)
    have e' : ∀ ρ2, wYes ρ2 (fun z ρ3 => ifB z (a ρ3 (fun o ρ4 => cold o fun y => acc.length < sizeLine ∧ Wp own ρ4 fun ρ5 => K ρ5 (acc ++ [y])) nox) (Wp own ρ3 fun ρ5 => K ρ5 acc)) nox = a ρ2 (fun o ρ4 => cold o fun y => acc.length < sizeLine ∧ Wp own ρ4 fun ρ5 => K ρ5 (acc ++ [y])) nox := fun ρ2 => ifB_tt
    rw [funext e']
    exact this
/-- a comprehension with a test -/
theorem lc_filtG (e F : α → D) (p : α → Bool) : ∀ (xs : List α) (acc : List D), acc.length + xs.length < 16777216 →
    (∀ x ∈ xs, ∀ (K1 : D → Sl → Prop) (K0 : Sl → Prop), (p x = true → ∀ ρ4, wipeS ρ4 own = ρ → K1 (F x) ρ4) → (p x = false → ∀ ρ3, wipeS ρ3 own = ρ → K0 ρ3) → g (e x) ρ (fun ρ2 => c ρ2 (fun z ρ3 => ifB z (a ρ3 (fun o ρ4 => cold o fun y => K1 y ρ4) nox) (K0 ρ3)) nox)) →
    f (acc ++ (xs.filter p).map F) ρ → lcGo g c a own (xs.map e) ρ acc f
  | [], acc, _, _, h => lc_nil (by simpa using h)
  | x :: xs, acc, hl, hs, h => by
    rw [List.length_cons] at hl
    rw [List.map_cons]
    refine lc_cons ?_
    refine hs x List.mem_cons_self (fun y ρ4 => acc.length < sizeLine ∧ Wp own ρ4 fun ρ5 => lcGo g c a own (xs.map e) ρ5 (acc ++ [y]) f) (fun ρ3 => Wp own ρ3 fun ρ5 => lcGo g c a own (xs.map e) ρ5 acc f) (fun hp ρ4 e' => ?_) (fun hp ρ3 e' => ?_)
    · refine ⟨Nat.lt_of_lt_of_le (show acc.length < 16777216 by omega) (by decide), ?_⟩
      show lcGo g c a own (xs.map e) (wipeS ρ4 own) (acc ++ [F x]) f
      rw [e']
      rw [List.filter_cons_of_pos hp] at h
      exact lc_filtG e F p xs _ (by simp; omega) (fun z hz => hs z (List.mem_cons_of_mem _ hz)) (by simpa [List.append_assoc] using h)
    · show lcGo g c a own (xs.map e) (wipeS ρ3 own) acc f
      rw [e']
      rw [List.filter_cons_of_neg (by rw [hp]; exact Bool.false_ne_true)] at h
      exact lc_filtG e F p xs _ (by omega) (fun z hz => hs z (List.mem_cons_of_mem _ hz)) h
theorem lc_filt {xs : List α} (e F : α → D) (p : α → Bool) (hl : xs.length < 16777216)
    (hs : ∀ x ∈ xs, ∀ (K1 : D → Sl → Prop) (K0 : Sl → Prop), (p x = true → ∀ ρ4, wipeS ρ4 own = ρ → K1 (F x) ρ4) → (p x = false → ∀ ρ3, wipeS ρ3 own = ρ → K0 ρ3) → g (e x) ρ (fun ρ2 => c ρ2 (fun z ρ3 => ifB z (a ρ3 (fun o ρ4 => cold o fun y => K1 y ρ4) nox) (K0 ρ3)) nox))
    (h : f ((xs.filter p).map F) ρ) : lcGo g c a own (xs.map e) ρ [] f := lc_filtG e F p xs [] (by simpa using hl) hs (by simpa using h)
/-- a loop that goes to its end: what it carries is folded -/
theorem for_fold {β : Type} (e : α → D) (step : β → α → β) (I : β → Sl → Prop) : ∀ (xs : List α) (s0 : β) (ρ : Sl), I s0 ρ →
    (∀ x ∈ xs, ∀ t ρ (K : Sl → Prop), I t ρ → (∀ ρ', I (step t x) ρ' → K ρ') → g (e x) ρ (fun ρ1 => s ρ1 ⟨K, rt, nx, K, ex⟩)) →
    (∀ ρ, I (xs.foldl step s0) ρ → nx ρ) → forGo g s (xs.map e) ρ ⟨nx, rt, bk, ct, ex⟩
  | [], s0, ρ, h0, _, hn => for_nil (hn ρ h0)
  | x :: xs, s0, ρ, h0, hs, hn => for_cons (hs x List.mem_cons_self s0 ρ _ h0 fun ρ' h' => for_fold e step I xs _ ρ' h' (fun z hz => hs z (List.mem_cons_of_mem _ hz)) hn)
/-- a loop by an invariant over what is left -/
theorem for_left (e : α → D) (I : List α → Sl → Prop) : ∀ (xs : List α) (ρ : Sl), I xs ρ →
    (∀ x xs ρ (K : Sl → Prop), I (x :: xs) ρ → (∀ ρ', I xs ρ' → K ρ') → g (e x) ρ (fun ρ1 => s ρ1 ⟨K, rt, nx, K, ex⟩)) →
    (∀ ρ, I [] ρ → nx ρ) → forGo g s (xs.map e) ρ ⟨nx, rt, bk, ct, ex⟩
  | [], ρ, h0, _, hn => for_nil (hn ρ h0)
  | x :: xs, ρ, h0, hs, hn => for_cons (hs x xs ρ _ h0 fun ρ' h' => for_left e I xs ρ' h' hs hn)
end
theorem zip_ints : ∀ (a b : List Int), zipD (a.map D.int) (b.map D.int) = (a.zip b).map fun p => .tup [.int p.1, .int p.2]
  | [], b => by cases b <;> rfl
  | x :: a, [] => rfl
  | x :: a, y :: b => by simp only [List.map_cons, List.zip_cons_cons, zipD, zip_ints a b]
theorem en_map {α : Type} (e : α → D) : ∀ (l : List α) (k : Nat), enD k (l.map e) = (l.zipIdx k).map fun p => .tup [.int (p.2 : Nat), e p.1]
  | [], k => rfl
  | x :: l, k => by simp only [List.map_cons, List.zipIdx_cons, enD, en_map e l (k + 1)]
theorem rng_map (lo : Int) (n : Nat) : rngD lo n = ((List.range n).map fun i : Nat => lo + (i : Int)).map D.int := by unfold rngD; rw [List.map_map]; rfl
/-! ### calls by name, in another order -/
section
variable {ρ : Sl} {C : Ct} {E : Exc → Sl → Prop} {Q : O → Sl → Prop} {m0 m1 m2 m3 : WE}
theorem r_call_10 (h : m0 ρ (fun o0 ρ1 => m1 ρ1 (fun o1 ρ2 => C [o1, o0] (fun r os' => PB [(none, o1), (none, o0)] os' ρ2 (Q r)) (fun e os' => PB [(none, o1), (none, o0)] os' ρ2 (E e))) E) E) : wCall C [1, 0] [(none, m0), (none, m1)] ρ Q E := h
theorem r_call_021 (h : m0 ρ (fun o0 ρ1 => m1 ρ1 (fun o1 ρ2 => m2 ρ2 (fun o2 ρ3 => C [o0, o2, o1] (fun r os' => PB [(none, o0), (none, o2), (none, o1)] os' ρ3 (Q r)) (fun e os' => PB [(none, o0), (none, o2), (none, o1)] os' ρ3 (E e))) E) E) E) : wCall C [0, 2, 1] [(none, m0), (none, m1), (none, m2)] ρ Q E := h
theorem r_call_102 (h : m0 ρ (fun o0 ρ1 => m1 ρ1 (fun o1 ρ2 => m2 ρ2 (fun o2 ρ3 => C [o1, o0, o2] (fun r os' => PB [(none, o1), (none, o0), (none, o2)] os' ρ3 (Q r)) (fun e os' => PB [(none, o1), (none, o0), (none, o2)] os' ρ3 (E e))) E) E) E) : wCall C [1, 0, 2] [(none, m0), (none, m1), (none, m2)] ρ Q E := h
theorem r_call_120 (h : m0 ρ (fun o0 ρ1 => m1 ρ1 (fun o1 ρ2 => m2 ρ2 (fun o2 ρ3 => C [o1, o2, o0] (fun r os' => PB [(none, o1), (none, o2), (none, o0)] os' ρ3 (Q r)) (fun e os' => PB [(none, o1), (none, o2), (none, o0)] os' ρ3 (E e))) E) E) E) : wCall C [1, 2, 0] [(none, m0), (none, m1), (none, m2)] ρ Q E := h
theorem r_call_201 (h : m0 ρ (fun o0 ρ1 => m1 ρ1 (fun o1 ρ2 => m2 ρ2 (fun o2 ρ3 => C [o2, o0, o1] (fun r os' => PB [(none, o2), (none, o0), (none, o1)] os' ρ3 (Q r)) (fun e os' => PB [(none, o2), (none, o0), (none, o1)] os' ρ3 (E e))) E) E) E) : wCall C [2, 0, 1] [(none, m0), (none, m1), (none, m2)] ρ Q E := h
theorem r_call_210 (h : m0 ρ (fun o0 ρ1 => m1 ρ1 (fun o1 ρ2 => m2 ρ2 (fun o2 ρ3 => C [o2, o1, o0] (fun r os' => PB [(none, o2), (none, o1), (none, o0)] os' ρ3 (Q r)) (fun e os' => PB [(none, o2), (none, o1), (none, o0)] os' ρ3 (E e))) E) E) E) : wCall C [2, 1, 0] [(none, m0), (none, m1), (none, m2)] ρ Q E := h
theorem r_call_0132 (h : m0 ρ (fun o0 ρ1 => m1 ρ1 (fun o1 ρ2 => m2 ρ2 (fun o2 ρ3 => m3 ρ3 (fun o3 ρ4 => C [o0, o1, o3, o2] (fun r os' => PB [(none, o0), (none, o1), (none, o3), (none, o2)] os' ρ4 (Q r)) (fun e os' => PB [(none, o0), (none, o1), (none, o3), (none, o2)] os' ρ4 (E e))) E) E) E) E) : wCall C [0, 1, 3, 2] [(none, m0), (none, m1), (none, m2), (none, m3)] ρ Q E := h
theorem r_call_0213 (h : m0 ρ (fun o0 ρ1 => m1 ρ1 (fun o1 ρ2 => m2 ρ2 (fun o2 ρ3 => m3 ρ3 (fun o3 ρ4 => C [o0, o2, o1, o3] (fun r os' => PB [(none, o0), (none, o2), (none, o1), (none, o3)] os' ρ4 (Q r)) (fun e os' => PB [(none, o0), (none, o2), (none, o1), (none, o3)] os' ρ4 (E e))) E) E) E) E) : wCall C [0, 2, 1, 3] [(none, m0), (none, m1), (none, m2), (none, m3)] ρ Q E := h
theorem r_call_0231 (h : m0 ρ (fun o0 ρ1 => m1 ρ1 (fun o1 ρ2 => m2 ρ2 (fun o2 ρ3 => m3 ρ3 (fun o3 ρ4 => C [o0, o2, o3, o1] (fun r os' => PB [(none, o0), (none, o2), (none, o3), (none, o1)] os' ρ4 (Q r)) (fun e os' => PB [(none, o0), (none, o2), (none, o3), (none, o1)] os' ρ4 (E e))) E) E) E) E) : wCall C [0, 2, 3, 1] [(none, m0), (none, m1), (none, m2), (none, m3)] ρ Q E := h
theorem r_call_0312 (h : m0 ρ (fun o0 ρ1 => m1 ρ1 (fun o1 ρ2 => m2 ρ2 (fun o2 ρ3 => m3 ρ3 (fun o3 ρ4 => C [o0, o3, o1, o2] (fun r os' => PB [(none, o0), (none, o3), (none, o1), (none, o2)] os' ρ4 (Q r)) (fun e os' => PB [(none, o0), (none, o3), (none, o1), (none, o2)] os' ρ4 (E e))) E) E) E) E) : wCall C [0, 3, 1, 2] [(none, m0), (none, m1), (none, m2), (none, m3)] ρ Q E := h
theorem r_call_0321 (h : m0 ρ (fun o0 ρ1 => m1 ρ1 (fun o1 ρ2 => m2 ρ2 (fun o2 ρ3 => m3 ρ3 (fun o3 ρ4 => C [o0, o3, o2, o1] (fun r os' => PB [(none, o0), (none, o3), (none, o2), (none, o1)] os' ρ4 (Q r)) (fun e os' => PB [(none, o0), (none, o3), (none, o2), (none, o1)] os' ρ4 (E e))) E) E) E) E) : wCall C [0, 3, 2, 1] [(none, m0), (none, m1), (none, m2), (none, m3)] ρ Q E := h
theorem r_call_1023 (h : m0 ρ (fun o0 ρ1 => m1 ρ1 (fun o1 ρ2 => m2 ρ2 (fun o2 ρ3 => m3 ρ3 (fun o3 ρ4 => C [o1, o0, o2, o3] (fun r os' => PB [(none, o1), (none, o0), (none, o2), (none, o3)] os' ρ4 (Q r)) (fun e os' => PB [(none, o1), (none, o0), (none, o2), (none, o3)] os' ρ4 (E e))) E) E) E) E) : wCall C [1, 0, 2, 3] [(none, m0), (none, m1), (none, m2), (none, m3)] ρ Q E := h
theorem r_call_1032 (h : m0 ρ (fun o0 ρ1 => m1 ρ1 (fun o1 ρ2 => m2 ρ2 (fun o2 ρ3 => m3 ρ3 (fun o3 ρ4 => C [o1, o0, o3, o2] (fun r os' => PB [(none, o1), (none, o0), (none, o3), (none, o2)] os' ρ4 (Q r)) (fun e os' => PB [(none, o1), (none, o0), (none, o3), (none, o2)] os' ρ4 (E e))) E) E) E) E) : wCall C [1, 0, 3, 2] [(none, m0), (none, m1), (none, m2), (none, m3)] ρ Q E := h
theorem r_call_1203 (h : m0 ρ (fun o0 ρ1 => m1 ρ1 (fun o1 ρ2 => m2 ρ2 (fun o2 ρ3 => m3 ρ3 (fun o3 ρ4 => C [o1, o2, o0, o3] (fun r os' => PB [(none, o1), (none, o2), (none, o0), (none, o3)] os' ρ4 (Q r)) (fun e os' => PB [(none, o1), (none, o2), (none, o0), (none, o3)] os' ρ4 (E e))) E) E) E) E) : wCall C [1, 2, 0, 3] [(none, m0), (none, m1), (none, m2), (none, m3)] ρ Q E := h
theorem r_call_1230 (h : m0 ρ (fun o0 ρ1 => m1 ρ1 (fun o1 ρ2 => m2 ρ2 (fun o2 ρ3 => m3 ρ3 (fun o3 ρ4 => C [o1, o2, o3, o0] (fun r os' => PB [(none, o1), (none, o2), (none, o3), (none, o0)] os' ρ4 (Q r)) (fun e os' => PB [(none, o1), (none, o2), (none, o3), (none, o0)] os' ρ4 (E e))) E) E) E) E) : wCall C [1, 2, 3, 0] [(none, m0), (none, m1), (none, m2), (none, m3)] ρ Q E := h
theorem r_call_1302 (h : m0 ρ (fun o0 ρ1 => m1 ρ1 (fun o1 ρ2 => m2 ρ2 (fun o2 ρ3 => m3 ρ3 (fun o3 ρ4 => C [o1, o3, o0, o2] (fun r os' => PB [(none, o1), (none, o3), (none, o0), (none, o2)] os' ρ4 (Q r)) (fun e os' => PB [(none, o1), (none, o3), (none, o0), (none, o2)] os' ρ4 (E e))) E) E) E) E) : wCall C [1, 3, 0, 2] [(none, m0), (none, m1), (none, m2), (none, m3)] ρ Q E := h
theorem r_call_1320 (h : m0 ρ (fun o0 ρ1 => m1 ρ1 (fun o1 ρ2 => m2 ρ2 (fun o2 ρ3 => m3 ρ3 (fun o3 ρ4 => C [o1, o3, o2, o0] (fun r os' => PB [(none, o1), (none, o3), (none, o2), (none, o0)] os' ρ4 (Q r)) (fun e os' => PB [(none, o1), (none, o3), (none, o2), (none, o0)] os' ρ4 (E e))) E) E) E) E) : wCall C [1, 3, 2, 0] [(none, m0), (none, m1), (none, m2), (none, m3)] ρ Q E := h
theorem r_call_2013 (h : m0 ρ (fun o0 ρ1 => m1 ρ1 (fun o1 ρ2 => m2 ρ2 (fun o2 ρ3 => m3 ρ3 (fun o3 ρ4 => C [o2, o0, o1, o3] (fun r os' => PB [(none, o2), (none, o0), (none, o1), (none, o3)] os' ρ4 (Q r)) (fun e os' => PB [(none, o2), (none, o0), (none, o1), (none, o3)] os' ρ4 (E e))) E) E) E) E) : wCall C [2, 0, 1, 3] [(none, m0), (none, m1), (none, m2), (none, m3)] ρ Q E := h
theorem r_call_2031 (h : m0 ρ (fun o0 ρ1 => m1 ρ1 (fun o1 ρ2 => m2 ρ2 (fun o2 ρ3 => m3 ρ3 (fun o3 ρ4 => C [o2, o0, o3, o1] (fun r os' => PB [(none, o2), (none, o0), (none, o3), (none, o1)] os' ρ4 (Q r)) (fun e os' => PB [(none, o2), (none, o0), (none, o3), (none, o1)] os' ρ4 (E e))) E) E) E) E) : wCall C [2, 0, 3, 1] [(none, m0), (none, m1), (none, m2), (none, m3)] ρ Q E := h
theorem r_call_2103 (h : m0 ρ (fun o0 ρ1 => m1 ρ1 (fun o1 ρ2 => m2 ρ2 (fun o2 ρ3 => m3 ρ3 (fun o3 ρ4 => C [o2, o1, o0, o3] (fun r os' => PB [(none, o2), (none, o1), (none, o0), (none, o3)] os' ρ4 (Q r)) (fun e os' => PB [(none, o2), (none, o1), (none, o0), (none, o3)] os' ρ4 (E e))) E) E) E) E) : wCall C [2, 1, 0, 3] [(none, m0), (none, m1), (none, m2), (none, m3)] ρ Q E := h
theorem r_call_2130 (h : m0 ρ (fun o0 ρ1 => m1 ρ1 (fun o1 ρ2 => m2 ρ2 (fun o2 ρ3 => m3 ρ3 (fun o3 ρ4 => C [o2, o1, o3, o0] (fun r os' => PB [(none, o2), (none, o1), (none, o3), (none, o0)] os' ρ4 (Q r)) (fun e os' => PB [(none, o2), (none, o1), (none, o3), (none, o0)] os' ρ4 (E e))) E) E) E) E) : wCall C [2, 1, 3, 0] [(none, m0), (none, m1), (none, m2), (none, m3)] ρ Q E := h
theorem r_call_2301 (h : m0 ρ (fun o0 ρ1 => m1 ρ1 (fun o1 ρ2 => m2 ρ2 (fun o2 ρ3 => m3 ρ3 (fun o3 ρ4 => C [o2, o3, o0, o1] (fun r os' => PB [(none, o2), (none, o3), (none, o0), (none, o1)] os' ρ4 (Q r)) (fun e os' => PB [(none, o2), (none, o3), (none, o0), (none, o1)] os' ρ4 (E e))) E) E) E) E) : wCall C [2, 3, 0, 1] [(none, m0), (none, m1), (none, m2), (none, m3)] ρ Q E := h
theorem r_call_2310 (h : m0 ρ (fun o0 ρ1 => m1 ρ1 (fun o1 ρ2 => m2 ρ2 (fun o2 ρ3 => m3 ρ3 (fun o3 ρ4 => C [o2, o3, o1, o0] (fun r os' => PB [(none, o2), (none, o3), (none, o1), (none, o0)] os' ρ4 (Q r)) (fun e os' => PB [(none, o2), (none, o3), (none, o1), (none, o0)] os' ρ4 (E e))) E) E) E) E) : wCall C [2, 3, 1, 0] [(none, m0), (none, m1), (none, m2), (none, m3)] ρ Q E := h
theorem r_call_3012 (h : m0 ρ (fun o0 ρ1 => m1 ρ1 (fun o1 ρ2 => m2 ρ2 (fun o2 ρ3 => m3 ρ3 (fun o3 ρ4 => C [o3, o0, o1, o2] (fun r os' => PB [(none, o3), (none, o0), (none, o1), (none, o2)] os' ρ4 (Q r)) (fun e os' => PB [(none, o3), (none, o0), (none, o1), (none, o2)] os' ρ4 (E e))) E) E) E) E) : wCall C [3, 0, 1, 2] [(none, m0), (none, m1), (none, m2), (none, m3)] ρ Q E := h
theorem r_call_3021 (h : m0 ρ (fun o0 ρ1 => m1 ρ1 (fun o1 ρ2 => m2 ρ2 (fun o2 ρ3 => m3 ρ3 (fun o3 ρ4 => C [o3, o0, o2, o1] (fun r os' => PB [(none, o3), (none, o0), (none, o2), (none, o1)] os' ρ4 (Q r)) (fun e os' => PB [(none, o3), (none, o0), (none, o2), (none, o1)] os' ρ4 (E e))) E) E) E) E) : wCall C [3, 0, 2, 1] [(none, m0), (none, m1), (none, m2), (none, m3)] ρ Q E := h
theorem r_call_3102 (h : m0 ρ (fun o0 ρ1 => m1 ρ1 (fun o1 ρ2 => m2 ρ2 (fun o2 ρ3 => m3 ρ3 (fun o3 ρ4 => C [o3, o1, o0, o2] (fun r os' => PB [(none, o3), (none, o1), (none, o0), (none, o2)] os' ρ4 (Q r)) (fun e os' => PB [(none, o3), (none, o1), (none, o0), (none, o2)] os' ρ4 (E e))) E) E) E) E) : wCall C [3, 1, 0, 2] [(none, m0), (none, m1), (none, m2), (none, m3)] ρ Q E := h
theorem r_call_3120 (h : m0 ρ (fun o0 ρ1 => m1 ρ1 (fun o1 ρ2 => m2 ρ2 (fun o2 ρ3 => m3 ρ3 (fun o3 ρ4 => C [o3, o1, o2, o0] (fun r os' => PB [(none, o3), (none, o1), (none, o2), (none, o0)] os' ρ4 (Q r)) (fun e os' => PB [(none, o3), (none, o1), (none, o2), (none, o0)] os' ρ4 (E e))) E) E) E) E) : wCall C [3, 1, 2, 0] [(none, m0), (none, m1), (none, m2), (none, m3)] ρ Q E := h
theorem r_call_3201 (h : m0 ρ (fun o0 ρ1 => m1 ρ1 (fun o1 ρ2 => m2 ρ2 (fun o2 ρ3 => m3 ρ3 (fun o3 ρ4 => C [o3, o2, o0, o1] (fun r os' => PB [(none, o3), (none, o2), (none, o0), (none, o1)] os' ρ4 (Q r)) (fun e os' => PB [(none, o3), (none, o2), (none, o0), (none, o1)] os' ρ4 (E e))) E) E) E) E) : wCall C [3, 2, 0, 1] [(none, m0), (none, m1), (none, m2), (none, m3)] ρ Q E := h
theorem r_call_3210 (h : m0 ρ (fun o0 ρ1 => m1 ρ1 (fun o1 ρ2 => m2 ρ2 (fun o2 ρ3 => m3 ρ3 (fun o3 ρ4 => C [o3, o2, o1, o0] (fun r os' => PB [(none, o3), (none, o2), (none, o1), (none, o0)] os' ρ4 (Q r)) (fun e os' => PB [(none, o3), (none, o2), (none, o1), (none, o0)] os' ρ4 (E e))) E) E) E) E) : wCall C [3, 2, 1, 0] [(none, m0), (none, m1), (none, m2), (none, m3)] ρ Q E := h
end
/-! ### lists that grow; fields -/
section
variable {ρ : Sl} {nx bk ct : Sl → Prop} {rt : O → Sl → Prop} {ex E : Exc → Sl → Prop} {Q : O → Sl → Prop} {mv : WE} {i : Nat} {k : Sl → Prop} {f : Str} {y : D} {ok : Str → Str → Bool}
def AppX (ρ : Sl) (i : Nat) (y : D) (k : Sl → Prop) : Prop := ∃ xs, ρ[i]? = some (some (.lst xs)) ∧ xs.length < sizeLine ∧ k (ρ.set i (some (.lst (xs ++ [y]))))
theorem r_appX (h : Get ρ i fun o => AsL o fun xs => xs.length < 16777216 ∧ Put ρ i (some (.lst (xs ++ [y]))) k) : AppX ρ i y k := by
  obtain ⟨o, ho, h⟩ := h
  cases o with
  | lst xs => exact ⟨xs, ho, h.1, h.2.2⟩
  | _ => exact h.elim
def HasL (ρ : Sl) (i : Nat) (P : Prop) : Prop := (∃ xs, ρ[i]? = some (some (.lst xs))) ∧ P
theorem r_hasL {P : Prop} (h : Get ρ i fun o => AsL o fun _ => P) : HasL ρ i P := by
  obtain ⟨o, ho, h⟩ := h
  cases o with
  | lst xs => exact ⟨⟨xs, ho⟩, h⟩
  | _ => exact h.elim
theorem r_app (h : HasL ρ i (mv ρ (fun o ρ1 => cold o fun y => AppX ρ1 i y fun ρ2 => Q (.d .non) ρ2) E)) : wApp i mv ρ Q E := h
def AsLD (x : D) (f : List D → Prop) : Prop := match x with | .lst xs => f xs | _ => False
theorem r_asLD {xs : List D} {f : List D → Prop} (h : f xs) : AsLD (.lst xs) f := h
def ExtX (ρ : Sl) (i : Nat) (ys : List D) (k : Sl → Prop) : Prop := ∃ xs, ρ[i]? = some (some (.lst xs)) ∧ xs.length + ys.length ≤ sizeLine ∧ k (ρ.set i (some (.lst (xs ++ ys))))
theorem r_extX {ys : List D} (h : Get ρ i fun o => AsL o fun xs => xs.length + ys.length ≤ 16777216 ∧ Put ρ i (some (.lst (xs ++ ys))) k) : ExtX ρ i ys k := by
  obtain ⟨o, ho, h⟩ := h
  cases o with
  | lst xs => exact ⟨xs, ho, h.1, h.2.2⟩
  | _ => exact h.elim
theorem r_ext (h : HasL ρ i (mv ρ (fun o ρ1 => cold o fun y => AsLD y fun ys => ExtX ρ1 i ys fun ρ2 => Q (.d .non) ρ2) E)) : wExt i mv ρ Q E := h
def AsN (o : O) (F : Str → List (Str × D) → Prop) : Prop := match o with | .ins c fs => F c fs | _ => False
theorem r_asN {c : Str} {fs : List (Str × D)} {F : Str → List (Str × D) → Prop} (h : F c fs) : AsN (.ins c fs) F := h
def FsX (ok : Str → Str → Bool) (i : Nat) (f : Str) (y : D) (ρ : Sl) (k : Sl → Prop) : Prop := ∃ c fs, ρ[i]? = some (some (.ins c fs)) ∧ ok c f = true ∧ fs.length < 1000 ∧ k (ρ.set i (some (.ins c (putFD f y fs))))
theorem r_fldS (h : mv ρ (fun o ρ1 => cold o fun y => FsX ok i f y ρ1 nx) ex) : wFldS ok i f mv ρ ⟨nx, rt, bk, ct, ex⟩ := h
theorem r_fsX (h : Get ρ i fun o => AsN o fun c fs => ok c f = true ∧ fs.length < 1000 ∧ Put ρ i (some (.ins c (putFD f y fs))) k) : FsX ok i f y ρ k := by
  obtain ⟨o, ho, h⟩ := h
  cases o with
  | ins c fs => exact ⟨c, fs, ho, h.1, h.2.1, h.2.2.2⟩
  | _ => exact h.elim
theorem fld_v {o : O} {c : Str} {fs : List (Str × D)} {x : D} (h1 : ρ[i]? = some (some o)) (h2 : insO o = some (c, fs)) (h3 : ok c f = true) (h4 : fs.lookup f = some x) (h : Q (.d x) ρ) : wFldV ok i f ρ Q E :=
  ⟨o, c, fs, x, h1, h2, h3, h4, h⟩
end
/-! ### is None -/
section
variable {q : O → Prop} {u : Int} {s : Str} {z : Bool} {xs : List D} {kvs : List (Key × D)} {c : Str} {fs : List (Str × D)}
theorem r_is1N (h : q (.d (.bl false))) : mIs true .non .non q := r_is h
theorem r_is0N (h : q (.d (.bl true))) : mIs false .non .non q := r_is h
theorem r_is1I (h : q (.d (.bl true))) : mIs true (.int u) .non q := r_is h
theorem r_is0I (h : q (.d (.bl false))) : mIs false (.int u) .non q := r_is h
theorem r_is1S (h : q (.d (.bl true))) : mIs true (.str s) .non q := r_is h
theorem r_is0S (h : q (.d (.bl false))) : mIs false (.str s) .non q := r_is h
theorem r_is1B (h : q (.d (.bl true))) : mIs true (.bl z) .non q := r_is h
theorem r_is0B (h : q (.d (.bl false))) : mIs false (.bl z) .non q := r_is h
theorem r_is1T (h : q (.d (.bl true))) : mIs true (.tup xs) .non q := r_is h
theorem r_is0T (h : q (.d (.bl false))) : mIs false (.tup xs) .non q := r_is h
theorem r_is1L (h : q (.d (.bl true))) : mIs true (.lst xs) .non q := r_is h
theorem r_is0L (h : q (.d (.bl false))) : mIs false (.lst xs) .non q := r_is h
theorem r_is1K (h : q (.d (.bl true))) : mIs true (.dic kvs) .non q := r_is h
theorem r_is0K (h : q (.d (.bl false))) : mIs false (.dic kvs) .non q := r_is h
theorem r_is1O (h : q (.d (.bl true))) : mIs true (.ins c fs) .non q := r_is h
theorem r_is0O (h : q (.d (.bl false))) : mIs false (.ins c fs) .non q := r_is h
end
end Pv

set_option Elab.async false
set_option maxRecDepth 100000
set_option maxHeartbeats 4000000
set_option autoImplicit false
set_option linter.unusedVariables false
namespace Pv
open PySem L2
local macro_rules | `(tactic| walk_at "wpow") => `(tactic| (simp only [Int.reduceToNat, Int.reducePow]; rfl))
local macro_rules | `(tactic| walk_at "wx") => `(tactic| first | rfl | assumption | with_unfolding_all rfl)
local macro_rules | `(tactic| walk_at "wd") => `(tactic| first | with_reducible rfl | assumption | omega | decide | (refine cdivw_small ?_ ?_ <;> omega) | (refine cdivw_small ?_ ?_ <;> split <;> omega) | (refine cpow_small ?_ ?_ ?_ ?_ <;> omega) | (refine cmul_r ?_ ?_ <;> omega) | (refine cmul_l ?_ ?_ <;> omega) | (simp only [List.length_cons, List.length_nil, List.length_append, List.length_reverse, List.length_map, flat_len, Int.reduceToNat]; omega) | (simp only [sizeLine, List.length_cons, List.length_nil, List.length_append, List.length_reverse, List.length_map, flat_len, Int.reduceToNat]; omega))
local macro_rules | `(tactic| walk_at "w1") => `(tactic| (with_reducible first | refine r_seq ?_ | refine r_bin ?_ | refine r_k ?_ | refine r_var ?_ | refine r_g0 ?_ | refine r_gS ?_ | refine r_vkD ?_ | refine r_cD ?_ | refine r_p0 ?_ | refine r_pS ?_ | refine r_cons ?_ | refine r_nil ?_ | refine r_next ?_ | refine r_ret ?_ | refine r_drop ?_ | refine r_ifS ?_ | refine r_bool ?_ | refine r_tru ?_ | refine r_asI ?_ | refine r_asB ?_ | refine r_andT ?_ | refine r_orT ?_ | refine r_notT ?_ | refine r_yes ?_ | refine r_if ?_ | refine r_andV ?_ | refine r_orV ?_ | refine r_notV ?_ | refine r_trN ?_ | refine r_trB ?_ | refine r_trI ?_ | refine r_trT ?_ | refine r_trL ?_ | refine r_iT ?_ | refine r_iF ?_ | refine r_iN ?_ | refine r_in0 ?_ | refine r_in1 ?_ | refine r_cL ?_ | refine r_cK ?_ | refine r_cI ?_ | refine r_vkL ?_ | refine r_vkK ?_ | refine r_vkI ?_ | refine r_move ?_ | refine r_mvDk ?_ | refine r_mvD ?_ | refine r_mvL ?_ | refine r_mvK ?_ | refine r_mvI ?_ | refine r_mI0 ?_ | refine r_adI ?_ | refine r_eqI ?_ | refine r_eqS ?_ | refine r_eqB ?_ | refine r_eqL0 ?_ | refine r_eqT0 ?_ | refine r_eqTT ?_ | refine r_eqLL ?_ | refine r_is1N ?_ | refine r_is0N ?_ | refine r_is1I ?_ | refine r_is0I ?_ | refine r_is1S ?_ | refine r_is0S ?_ | refine r_is1B ?_ | refine r_is0B ?_ | refine r_is1T ?_ | refine r_is0T ?_ | refine r_is1L ?_ | refine r_is0L ?_ | refine r_is1K ?_ | refine r_is0K ?_ | refine r_is1O ?_ | refine r_is0O ?_ | refine r_is ?_ | refine r_chK ?_ | refine r_chain ?_ | refine r_neg ?_ | refine r_tup ?_ | refine r_lst ?_ | refine r_cb ?_ | refine r_mint ?_ | refine r_mintB ?_ | refine r_mabs ?_ | refine r_mmax ?_ | refine r_mmin ?_ | refine r_mlL ?_ | refine r_mlT ?_ | refine r_mlS ?_ | refine r_mtL ?_ | refine r_mtT ?_ | refine r_tuple ?_ | refine r_rev ?_ | refine r_mrL ?_ | refine r_mrT ?_ | refine r_mrS ?_ | refine r_foldB ?_ | refine r_mlenL ?_ | refine r_mlenT ?_ | refine r_isiX ?_ | refine r_axL ?_ | refine r_axK ?_ | refine r_axDL ?_ | refine r_axDT ?_ | refine r_axDS ?_ | refine r_axDK ?_ | refine r_ixA ?_ | refine r_gv ?_ | refine r_part0 ?_ | refine r_part1 ?_ | refine r_slL ?_ | refine r_slT ?_ | refine r_slS ?_ | refine r_eqVX ?_ | refine r_ekI ?_ | refine r_ekT ?_ | refine r_ekS ?_ | refine r_ekB ?_ | refine r_ekN ?_ | refine r_ekL ?_ | refine r_ekOL ?_ | refine r_ekO ?_ | refine r_ekDO ?_ | refine r_lenV ?_ | refine r_lnT ?_ | refine r_lnL ?_ | refine r_lnK ?_ | refine r_lnS ?_ | refine r_for ?_ | refine r_itr ?_ | refine r_sqL ?_ | refine r_sqT ?_ | refine r_sqS ?_ | refine r_rng1 ?_ | refine r_rng2 ?_ | refine r_itrE ?_ | refine r_en1 ?_ | refine r_itrZ ?_ | refine r_zp1 ?_ | refine r_asK ?_ | refine r_setA ?_ | refine r_setL ?_ | refine r_setX ?_ | refine r_putV ?_ | refine r_putX ?_ | refine r_srtA ?_ | refine r_dispN ?_ | refine r_disp ?_ | refine r_prs0 ?_ | refine r_prsS ?_ | refine r_kyI ?_ | refine r_kyS ?_ | refine r_wp0 ?_ | refine r_wpS ?_ | refine r_lc ?_ | refine r_asL ?_ | refine r_pop ?_ | refine r_pb0 ?_ | refine r_pbA1 ?_ | refine r_pbA2 ?_ | refine r_pbA3 ?_ | refine r_pbA4 ?_ | refine r_pbN ?_ | refine r_pbD ?_ | refine r_pbK ?_ | refine r_pbL ?_ | refine r_pbKv ?_ | refine r_call1 ?_ | refine r_call1B ?_ | refine r_call2 ?_ | refine r_call2B ?_ | refine r_call3 ?_ | refine r_call3B ?_ | refine r_call4 ?_ | refine r_call0 ?_ | refine r_make3 ?_ | refine r_po0 ?_ | refine r_par ?_ | refine r_ao0 ?_ | refine r_aoS ?_ | refine r_asDk ?_ | refine r_dkI ?_ | refine r_hasDk ?_ | refine r_dkS ?_ | refine r_dkA ?_ | refine r_dkApp ?_ | refine r_toI ?_ | refine r_dkNew ?_ | refine r_dkE ?_ | refine r_dkPop ?_ | refine r_try ?_ | refine r_raise ?_ | refine r_gCn ?_ | refine r_gNl ?_ | refine r_asgG ?_ | refine r_brk ?_ | refine r_cont ?_ | refine r_app ?_ | refine r_ext ?_ | refine r_hasL ?_ | refine r_appX ?_ | refine r_extX ?_ | refine r_asLD ?_ | refine r_asN ?_ | refine r_fldS ?_ | refine r_fsX ?_ | refine r_asg (by decide) ?_ | refine r_gNm (by decide) ?_ | refine r_aug (by decide) ?_ | refine r_poS (by decide) ?_ | refine r_hasP ?_ ?_ | refine r_ixV ?_ ?_ | refine r_slV ?_ ?_ | refine r_eqV ?_ ?_ | refine r_getV ?_ ?_ | refine r_gTp rfl ?_ | refine r_inT0 rfl rfl ?_ | refine r_inT1 rfl rfl ?_ | refine r_inL0 rfl rfl ?_ | refine r_inL1 rfl rfl ?_ | exact trivial))
local macro_rules | `(tactic| walk_at "wp") => `(tactic| first | walk_at "w1" | (with_reducible first | refine r_call_10 ?_ | refine r_call_021 ?_ | refine r_call_102 ?_ | refine r_call_120 ?_ | refine r_call_201 ?_ | refine r_call_210 ?_ | refine r_pow (by walk_at "wd") (by walk_at "wpow") ?_ | refine r_dsp (by decide) ?_ | refine r_mI (by walk_at "wd") ?_ | refine r_muI (by walk_at "wd") ?_ | refine r_sm (by walk_at "wd") ?_ | refine r_ixT (by walk_at "wx") ?_ | refine r_ixL (by walk_at "wx") ?_ | refine r_rg1 (by walk_at "wd") ?_ | refine r_rg2 (by walk_at "wd") ?_ | refine r_adT (by walk_at "wd") ?_ | refine r_adL (by walk_at "wd") ?_ | refine r_muT (by walk_at "wd") (by walk_at "wd") ?_ | refine r_muL (by walk_at "wd") (by walk_at "wd") ?_ | refine r_mstr (by walk_at "wd") ?_ | refine And.intro (by walk_at "wd") ?_ | refine r_gvK rfl rfl ?_ | refine r_gvDK rfl rfl ?_) | (with_reducible first | refine r_iD (fun _ => ?_) (fun z => absurd (by first | rfl | decide | omega | (simp only [List.length_cons, List.length_nil]; omega)) z) | refine r_iD (fun z => absurd z (by first | decide | omega | (simp only [List.length_cons, List.length_nil]; omega))) (fun _ => ?_) | refine r_iD (fun _ => ?_) (fun _ => ?_) | refine r_iEm (fun _ => ?_) (fun _ => ?_) | refine r_iI1 (fun _ => ?_) (fun _ => ?_) | refine r_iI2 (fun _ => ?_) (fun _ => ?_) | refine r_iI3 (fun _ => ?_) (fun _ => ?_) | refine r_iNe (fun _ => ?_) (fun _ => ?_) | refine r_iNeI (fun _ => ?_) (fun _ => ?_)) | ((with_reducible apply r_isiK); exact rfl) | intro _)
local macro_rules | `(tactic| walk_at "ws") => `(tactic| repeat' (walk_at "wp"))
/-! ### the stepping rules, by their heads -/
class Stp (P : Prop) (R : outParam Prop) : Prop where
  go : R → P
section
variable {ρ t : Sl} {nx bk ct : Sl → Prop} {rt : O → Sl → Prop} {ex E : Exc → Sl → Prop} {Q : O → Sl → Prop} {QT : Bool → Sl → Prop} {QA : List D → Sl → Prop} {q : O → Prop} {i j : Nat} {as : List Nat} {a b m mb mi mv : WE} {ma mr : WA} {c c2 : WT} {s1 s2 : WS} {x y : D} {xs ys : List D} {o a0 : Option O} {k : Sl → Prop} {A B : Prop} {u v w : Int} {kvs : List (Key × D)}
instance i_p0  : Stp (Put (a0 :: t) 0 o k) (k (o :: t)) := ⟨fun h => r_p0 h⟩
end
section
variable {ρ t : Sl} {nx bk ct : Sl → Prop} {rt : O → Sl → Prop} {ex E : Exc → Sl → Prop} {Q : O → Sl → Prop} {QT : Bool → Sl → Prop} {QA : List D → Sl → Prop} {q : O → Prop} {i j : Nat} {as : List Nat} {a b m mb mi mv : WE} {ma mr : WA} {c c2 : WT} {s1 s2 : WS} {x y : D} {xs ys : List D} {o a0 : Option O} {k : Sl → Prop} {A B : Prop} {u v w : Int} {kvs : List (Key × D)}
instance i_pS  : Stp (Put (a0 :: t) (i + 1) o k) (Put t i o (fun t' => k (a0 :: t'))) := ⟨fun h => r_pS h⟩
end
section
variable {ρ t : Sl} {nx bk ct : Sl → Prop} {rt : O → Sl → Prop} {ex E : Exc → Sl → Prop} {Q : O → Sl → Prop} {QT : Bool → Sl → Prop} {QA : List D → Sl → Prop} {q : O → Prop} {i j : Nat} {as : List Nat} {a b m mb mi mv : WE} {ma mr : WA} {c c2 : WT} {s1 s2 : WS} {x y : D} {xs ys : List D} {o a0 : Option O} {k : Sl → Prop} {A B : Prop} {u v w : Int} {kvs : List (Key × D)}
instance i_g0 {o : O} : Stp (Get (some o :: t) 0 q) (q o) := ⟨fun h => r_g0 h⟩
end
section
variable {ρ t : Sl} {nx bk ct : Sl → Prop} {rt : O → Sl → Prop} {ex E : Exc → Sl → Prop} {Q : O → Sl → Prop} {QT : Bool → Sl → Prop} {QA : List D → Sl → Prop} {q : O → Prop} {i j : Nat} {as : List Nat} {a b m mb mi mv : WE} {ma mr : WA} {c c2 : WT} {s1 s2 : WS} {x y : D} {xs ys : List D} {o a0 : Option O} {k : Sl → Prop} {A B : Prop} {u v w : Int} {kvs : List (Key × D)}
instance i_gS  : Stp (Get (a0 :: t) (i + 1) q) (Get t i q) := ⟨fun h => r_gS h⟩
end
section
variable {ρ t : Sl} {nx bk ct : Sl → Prop} {rt : O → Sl → Prop} {ex E : Exc → Sl → Prop} {Q : O → Sl → Prop} {QT : Bool → Sl → Prop} {QA : List D → Sl → Prop} {q : O → Prop} {i j : Nat} {as : List Nat} {a b m mb mi mv : WE} {ma mr : WA} {c c2 : WT} {s1 s2 : WS} {x y : D} {xs ys : List D} {o a0 : Option O} {k : Sl → Prop} {A B : Prop} {u v w : Int} {kvs : List (Key × D)}
instance i_asI {f : Int → Prop} : Stp (AsI (.d (.int u)) f) (f u) := ⟨fun h => r_asI h⟩
end
section
variable {ρ t : Sl} {nx bk ct : Sl → Prop} {rt : O → Sl → Prop} {ex E : Exc → Sl → Prop} {Q : O → Sl → Prop} {QT : Bool → Sl → Prop} {QA : List D → Sl → Prop} {q : O → Prop} {i j : Nat} {as : List Nat} {a b m mb mi mv : WE} {ma mr : WA} {c c2 : WT} {s1 s2 : WS} {x y : D} {xs ys : List D} {o a0 : Option O} {k : Sl → Prop} {A B : Prop} {u v w : Int} {kvs : List (Key × D)}
instance i_asB {f : Bool → Prop} {z : Bool} : Stp (AsB (.d (.bl z)) f) (f z) := ⟨fun h => r_asB h⟩
end
section
variable {ρ t : Sl} {nx bk ct : Sl → Prop} {rt : O → Sl → Prop} {ex E : Exc → Sl → Prop} {Q : O → Sl → Prop} {QT : Bool → Sl → Prop} {QA : List D → Sl → Prop} {q : O → Prop} {i j : Nat} {as : List Nat} {a b m mb mi mv : WE} {ma mr : WA} {c c2 : WT} {s1 s2 : WS} {x y : D} {xs ys : List D} {o a0 : Option O} {k : Sl → Prop} {A B : Prop} {u v w : Int} {kvs : List (Key × D)}
instance i_seq  : Stp (wSeq s1 s2 ρ ⟨nx, rt, bk, ct, ex⟩) (s1 ρ ⟨fun ρ1 => s2 ρ1 ⟨nx, rt, bk, ct, ex⟩, rt, bk, ct, ex⟩) := ⟨fun h => r_seq h⟩
end
section
variable {ρ t : Sl} {nx bk ct : Sl → Prop} {rt : O → Sl → Prop} {ex E : Exc → Sl → Prop} {Q : O → Sl → Prop} {QT : Bool → Sl → Prop} {QA : List D → Sl → Prop} {q : O → Prop} {i j : Nat} {as : List Nat} {a b m mb mi mv : WE} {ma mr : WA} {c c2 : WT} {s1 s2 : WS} {x y : D} {xs ys : List D} {o a0 : Option O} {k : Sl → Prop} {A B : Prop} {u v w : Int} {kvs : List (Key × D)}
instance i_next  : Stp (wNext ρ ⟨nx, rt, bk, ct, ex⟩) (nx ρ) := ⟨fun h => r_next h⟩
end
section
variable {ρ t : Sl} {nx bk ct : Sl → Prop} {rt : O → Sl → Prop} {ex E : Exc → Sl → Prop} {Q : O → Sl → Prop} {QT : Bool → Sl → Prop} {QA : List D → Sl → Prop} {q : O → Prop} {i j : Nat} {as : List Nat} {a b m mb mi mv : WE} {ma mr : WA} {c c2 : WT} {s1 s2 : WS} {x y : D} {xs ys : List D} {o a0 : Option O} {k : Sl → Prop} {A B : Prop} {u v w : Int} {kvs : List (Key × D)}
instance i_brk  : Stp (wBreak ρ ⟨nx, rt, bk, ct, ex⟩) (bk ρ) := ⟨fun h => r_brk h⟩
end
section
variable {ρ t : Sl} {nx bk ct : Sl → Prop} {rt : O → Sl → Prop} {ex E : Exc → Sl → Prop} {Q : O → Sl → Prop} {QT : Bool → Sl → Prop} {QA : List D → Sl → Prop} {q : O → Prop} {i j : Nat} {as : List Nat} {a b m mb mi mv : WE} {ma mr : WA} {c c2 : WT} {s1 s2 : WS} {x y : D} {xs ys : List D} {o a0 : Option O} {k : Sl → Prop} {A B : Prop} {u v w : Int} {kvs : List (Key × D)}
instance i_cont  : Stp (wCont ρ ⟨nx, rt, bk, ct, ex⟩) (ct ρ) := ⟨fun h => r_cont h⟩
end
section
variable {ρ t : Sl} {nx bk ct : Sl → Prop} {rt : O → Sl → Prop} {ex E : Exc → Sl → Prop} {Q : O → Sl → Prop} {QT : Bool → Sl → Prop} {QA : List D → Sl → Prop} {q : O → Prop} {i j : Nat} {as : List Nat} {a b m mb mi mv : WE} {ma mr : WA} {c c2 : WT} {s1 s2 : WS} {x y : D} {xs ys : List D} {o a0 : Option O} {k : Sl → Prop} {A B : Prop} {u v w : Int} {kvs : List (Key × D)}
instance i_drop  : Stp (wDrop m ρ ⟨nx, rt, bk, ct, ex⟩) (m ρ (fun _ ρ1 => nx ρ1) ex) := ⟨fun h => r_drop h⟩
end
section
variable {ρ t : Sl} {nx bk ct : Sl → Prop} {rt : O → Sl → Prop} {ex E : Exc → Sl → Prop} {Q : O → Sl → Prop} {QT : Bool → Sl → Prop} {QA : List D → Sl → Prop} {q : O → Prop} {i j : Nat} {as : List Nat} {a b m mb mi mv : WE} {ma mr : WA} {c c2 : WT} {s1 s2 : WS} {x y : D} {xs ys : List D} {o a0 : Option O} {k : Sl → Prop} {A B : Prop} {u v w : Int} {kvs : List (Key × D)}
instance i_ret  : Stp (wRet m ρ ⟨nx, rt, bk, ct, ex⟩) (m ρ rt ex) := ⟨fun h => r_ret h⟩
end
section
variable {ρ t : Sl} {nx bk ct : Sl → Prop} {rt : O → Sl → Prop} {ex E : Exc → Sl → Prop} {Q : O → Sl → Prop} {QT : Bool → Sl → Prop} {QA : List D → Sl → Prop} {q : O → Prop} {i j : Nat} {as : List Nat} {a b m mb mi mv : WE} {ma mr : WA} {c c2 : WT} {s1 s2 : WS} {x y : D} {xs ys : List D} {o a0 : Option O} {k : Sl → Prop} {A B : Prop} {u v w : Int} {kvs : List (Key × D)}
instance i_ifS  : Stp (wIfS c s1 s2 ρ ⟨nx, rt, bk, ct, ex⟩) (c ρ (fun z ρ1 => ifB z (s1 ρ1 ⟨nx, rt, bk, ct, ex⟩) (s2 ρ1 ⟨nx, rt, bk, ct, ex⟩)) ex) := ⟨fun h => r_ifS h⟩
end
section
variable {ρ t : Sl} {nx bk ct : Sl → Prop} {rt : O → Sl → Prop} {ex E : Exc → Sl → Prop} {Q : O → Sl → Prop} {QT : Bool → Sl → Prop} {QA : List D → Sl → Prop} {q : O → Prop} {i j : Nat} {as : List Nat} {a b m mb mi mv : WE} {ma mr : WA} {c c2 : WT} {s1 s2 : WS} {x y : D} {xs ys : List D} {o a0 : Option O} {k : Sl → Prop} {A B : Prop} {u v w : Int} {kvs : List (Key × D)}
instance i_asgG {g : WG} : Stp (wAsgG g m ρ ⟨nx, rt, bk, ct, ex⟩) (m ρ (fun o ρ1 => cold o fun x => g x ρ1 nx) ex) := ⟨fun h => r_asgG h⟩
end
section
variable {ρ t : Sl} {nx bk ct : Sl → Prop} {rt : O → Sl → Prop} {ex E : Exc → Sl → Prop} {Q : O → Sl → Prop} {QT : Bool → Sl → Prop} {QA : List D → Sl → Prop} {q : O → Prop} {i j : Nat} {as : List Nat} {a b m mb mi mv : WE} {ma mr : WA} {c c2 : WT} {s1 s2 : WS} {x y : D} {xs ys : List D} {o a0 : Option O} {k : Sl → Prop} {A B : Prop} {u v w : Int} {kvs : List (Key × D)}
instance i_gCn {g : WG} {gs : WGs} : Stp (gCn g gs (x :: xs) ρ k) (g x ρ (fun ρ1 => gs xs ρ1 k)) := ⟨fun h => r_gCn h⟩
end
section
variable {ρ t : Sl} {nx bk ct : Sl → Prop} {rt : O → Sl → Prop} {ex E : Exc → Sl → Prop} {Q : O → Sl → Prop} {QT : Bool → Sl → Prop} {QA : List D → Sl → Prop} {q : O → Prop} {i j : Nat} {as : List Nat} {a b m mb mi mv : WE} {ma mr : WA} {c c2 : WT} {s1 s2 : WS} {x y : D} {xs ys : List D} {o a0 : Option O} {k : Sl → Prop} {A B : Prop} {u v w : Int} {kvs : List (Key × D)}
instance i_gNl  : Stp (gNl [] ρ k) (k ρ) := ⟨fun h => r_gNl h⟩
end
section
variable {ρ t : Sl} {nx bk ct : Sl → Prop} {rt : O → Sl → Prop} {ex E : Exc → Sl → Prop} {Q : O → Sl → Prop} {QT : Bool → Sl → Prop} {QA : List D → Sl → Prop} {q : O → Prop} {i j : Nat} {as : List Nat} {a b m mb mi mv : WE} {ma mr : WA} {c c2 : WT} {s1 s2 : WS} {x y : D} {xs ys : List D} {o a0 : Option O} {k : Sl → Prop} {A B : Prop} {u v w : Int} {kvs : List (Key × D)}
instance i_raise {f g : Str} : Stp (wRaise f g m ρ ⟨nx, rt, bk, ct, ex⟩) (m ρ (fun o ρ1 => cold o fun y => ex ⟨f, [(g, y)]⟩ ρ1) ex) := ⟨fun h => r_raise h⟩
end
section
variable {ρ t : Sl} {nx bk ct : Sl → Prop} {rt : O → Sl → Prop} {ex E : Exc → Sl → Prop} {Q : O → Sl → Prop} {QT : Bool → Sl → Prop} {QA : List D → Sl → Prop} {q : O → Prop} {i j : Nat} {as : List Nat} {a b m mb mi mv : WE} {ma mr : WA} {c c2 : WT} {s1 s2 : WS} {x y : D} {xs ys : List D} {o a0 : Option O} {k : Sl → Prop} {A B : Prop} {u v w : Int} {kvs : List (Key × D)}
instance i_bool  : Stp (wBool m ρ QT E) (m ρ (fun o ρ1 => AsB o fun z => QT z ρ1) E) := ⟨fun h => r_bool h⟩
end
section
variable {ρ t : Sl} {nx bk ct : Sl → Prop} {rt : O → Sl → Prop} {ex E : Exc → Sl → Prop} {Q : O → Sl → Prop} {QT : Bool → Sl → Prop} {QA : List D → Sl → Prop} {q : O → Prop} {i j : Nat} {as : List Nat} {a b m mb mi mv : WE} {ma mr : WA} {c c2 : WT} {s1 s2 : WS} {x y : D} {xs ys : List D} {o a0 : Option O} {k : Sl → Prop} {A B : Prop} {u v w : Int} {kvs : List (Key × D)}
instance i_tru  : Stp (wTru m ρ QT E) (m ρ (fun o ρ1 => cold o fun x => truD x fun z => QT z ρ1) E) := ⟨fun h => r_tru h⟩
end
section
variable {ρ t : Sl} {nx bk ct : Sl → Prop} {rt : O → Sl → Prop} {ex E : Exc → Sl → Prop} {Q : O → Sl → Prop} {QT : Bool → Sl → Prop} {QA : List D → Sl → Prop} {q : O → Prop} {i j : Nat} {as : List Nat} {a b m mb mi mv : WE} {ma mr : WA} {c c2 : WT} {s1 s2 : WS} {x y : D} {xs ys : List D} {o a0 : Option O} {k : Sl → Prop} {A B : Prop} {u v w : Int} {kvs : List (Key × D)}
instance i_andT  : Stp (wAndT c c2 ρ QT E) (c ρ (fun z ρ1 => ifB z (c2 ρ1 QT E) (QT false ρ1)) E) := ⟨fun h => r_andT h⟩
end
section
variable {ρ t : Sl} {nx bk ct : Sl → Prop} {rt : O → Sl → Prop} {ex E : Exc → Sl → Prop} {Q : O → Sl → Prop} {QT : Bool → Sl → Prop} {QA : List D → Sl → Prop} {q : O → Prop} {i j : Nat} {as : List Nat} {a b m mb mi mv : WE} {ma mr : WA} {c c2 : WT} {s1 s2 : WS} {x y : D} {xs ys : List D} {o a0 : Option O} {k : Sl → Prop} {A B : Prop} {u v w : Int} {kvs : List (Key × D)}
instance i_orT  : Stp (wOrT c c2 ρ QT E) (c ρ (fun z ρ1 => ifB z (QT true ρ1) (c2 ρ1 QT E)) E) := ⟨fun h => r_orT h⟩
end
section
variable {ρ t : Sl} {nx bk ct : Sl → Prop} {rt : O → Sl → Prop} {ex E : Exc → Sl → Prop} {Q : O → Sl → Prop} {QT : Bool → Sl → Prop} {QA : List D → Sl → Prop} {q : O → Prop} {i j : Nat} {as : List Nat} {a b m mb mi mv : WE} {ma mr : WA} {c c2 : WT} {s1 s2 : WS} {x y : D} {xs ys : List D} {o a0 : Option O} {k : Sl → Prop} {A B : Prop} {u v w : Int} {kvs : List (Key × D)}
instance i_notT  : Stp (wNotT c ρ QT E) (c ρ (fun z ρ1 => QT (!z) ρ1) E) := ⟨fun h => r_notT h⟩
end
section
variable {ρ t : Sl} {nx bk ct : Sl → Prop} {rt : O → Sl → Prop} {ex E : Exc → Sl → Prop} {Q : O → Sl → Prop} {QT : Bool → Sl → Prop} {QA : List D → Sl → Prop} {q : O → Prop} {i j : Nat} {as : List Nat} {a b m mb mi mv : WE} {ma mr : WA} {c c2 : WT} {s1 s2 : WS} {x y : D} {xs ys : List D} {o a0 : Option O} {k : Sl → Prop} {A B : Prop} {u v w : Int} {kvs : List (Key × D)}
instance i_yes  : Stp (wYes ρ QT E) (QT true ρ) := ⟨fun h => r_yes h⟩
end
section
variable {ρ t : Sl} {nx bk ct : Sl → Prop} {rt : O → Sl → Prop} {ex E : Exc → Sl → Prop} {Q : O → Sl → Prop} {QT : Bool → Sl → Prop} {QA : List D → Sl → Prop} {q : O → Prop} {i j : Nat} {as : List Nat} {a b m mb mi mv : WE} {ma mr : WA} {c c2 : WT} {s1 s2 : WS} {x y : D} {xs ys : List D} {o a0 : Option O} {k : Sl → Prop} {A B : Prop} {u v w : Int} {kvs : List (Key × D)}
instance i_if  : Stp (wIf c a b ρ Q E) (c ρ (fun z ρ1 => ifB z (a ρ1 Q E) (b ρ1 Q E)) E) := ⟨fun h => r_if h⟩
end
section
variable {ρ t : Sl} {nx bk ct : Sl → Prop} {rt : O → Sl → Prop} {ex E : Exc → Sl → Prop} {Q : O → Sl → Prop} {QT : Bool → Sl → Prop} {QA : List D → Sl → Prop} {q : O → Prop} {i j : Nat} {as : List Nat} {a b m mb mi mv : WE} {ma mr : WA} {c c2 : WT} {s1 s2 : WS} {x y : D} {xs ys : List D} {o a0 : Option O} {k : Sl → Prop} {A B : Prop} {u v w : Int} {kvs : List (Key × D)}
instance i_andV  : Stp (wAndV a b ρ Q E) (a ρ (fun o ρ1 => cold o fun x => truD x fun z => ifB z (b ρ1 Q E) (Q (.d x) ρ1)) E) := ⟨fun h => r_andV h⟩
end
section
variable {ρ t : Sl} {nx bk ct : Sl → Prop} {rt : O → Sl → Prop} {ex E : Exc → Sl → Prop} {Q : O → Sl → Prop} {QT : Bool → Sl → Prop} {QA : List D → Sl → Prop} {q : O → Prop} {i j : Nat} {as : List Nat} {a b m mb mi mv : WE} {ma mr : WA} {c c2 : WT} {s1 s2 : WS} {x y : D} {xs ys : List D} {o a0 : Option O} {k : Sl → Prop} {A B : Prop} {u v w : Int} {kvs : List (Key × D)}
instance i_orV  : Stp (wOrV a b ρ Q E) (a ρ (fun o ρ1 => cold o fun x => truD x fun z => ifB z (Q (.d x) ρ1) (b ρ1 Q E)) E) := ⟨fun h => r_orV h⟩
end
section
variable {ρ t : Sl} {nx bk ct : Sl → Prop} {rt : O → Sl → Prop} {ex E : Exc → Sl → Prop} {Q : O → Sl → Prop} {QT : Bool → Sl → Prop} {QA : List D → Sl → Prop} {q : O → Prop} {i j : Nat} {as : List Nat} {a b m mb mi mv : WE} {ma mr : WA} {c c2 : WT} {s1 s2 : WS} {x y : D} {xs ys : List D} {o a0 : Option O} {k : Sl → Prop} {A B : Prop} {u v w : Int} {kvs : List (Key × D)}
instance i_notV  : Stp (wNotV a ρ Q E) (a ρ (fun o ρ1 => cold o fun x => truD x fun z => Q (.d (.bl (!z))) ρ1) E) := ⟨fun h => r_notV h⟩
end
section
variable {ρ t : Sl} {nx bk ct : Sl → Prop} {rt : O → Sl → Prop} {ex E : Exc → Sl → Prop} {Q : O → Sl → Prop} {QT : Bool → Sl → Prop} {QA : List D → Sl → Prop} {q : O → Prop} {i j : Nat} {as : List Nat} {a b m mb mi mv : WE} {ma mr : WA} {c c2 : WT} {s1 s2 : WS} {x y : D} {xs ys : List D} {o a0 : Option O} {k : Sl → Prop} {A B : Prop} {u v w : Int} {kvs : List (Key × D)}
instance i_trN {f : Bool → Prop} : Stp (truD .non f) (f false) := ⟨fun h => r_trN h⟩
end
section
variable {ρ t : Sl} {nx bk ct : Sl → Prop} {rt : O → Sl → Prop} {ex E : Exc → Sl → Prop} {Q : O → Sl → Prop} {QT : Bool → Sl → Prop} {QA : List D → Sl → Prop} {q : O → Prop} {i j : Nat} {as : List Nat} {a b m mb mi mv : WE} {ma mr : WA} {c c2 : WT} {s1 s2 : WS} {x y : D} {xs ys : List D} {o a0 : Option O} {k : Sl → Prop} {A B : Prop} {u v w : Int} {kvs : List (Key × D)}
instance i_trB {f : Bool → Prop} {z : Bool} : Stp (truD (.bl z) f) (f z) := ⟨fun h => r_trB h⟩
end
section
variable {ρ t : Sl} {nx bk ct : Sl → Prop} {rt : O → Sl → Prop} {ex E : Exc → Sl → Prop} {Q : O → Sl → Prop} {QT : Bool → Sl → Prop} {QA : List D → Sl → Prop} {q : O → Prop} {i j : Nat} {as : List Nat} {a b m mb mi mv : WE} {ma mr : WA} {c c2 : WT} {s1 s2 : WS} {x y : D} {xs ys : List D} {o a0 : Option O} {k : Sl → Prop} {A B : Prop} {u v w : Int} {kvs : List (Key × D)}
instance i_trI {f : Bool → Prop} : Stp (truD (.int u) f) (f (u != 0)) := ⟨fun h => r_trI h⟩
end
section
variable {ρ t : Sl} {nx bk ct : Sl → Prop} {rt : O → Sl → Prop} {ex E : Exc → Sl → Prop} {Q : O → Sl → Prop} {QT : Bool → Sl → Prop} {QA : List D → Sl → Prop} {q : O → Prop} {i j : Nat} {as : List Nat} {a b m mb mi mv : WE} {ma mr : WA} {c c2 : WT} {s1 s2 : WS} {x y : D} {xs ys : List D} {o a0 : Option O} {k : Sl → Prop} {A B : Prop} {u v w : Int} {kvs : List (Key × D)}
instance i_trT {f : Bool → Prop} : Stp (truD (.tup xs) f) (f (!xs.isEmpty)) := ⟨fun h => r_trT h⟩
end
section
variable {ρ t : Sl} {nx bk ct : Sl → Prop} {rt : O → Sl → Prop} {ex E : Exc → Sl → Prop} {Q : O → Sl → Prop} {QT : Bool → Sl → Prop} {QA : List D → Sl → Prop} {q : O → Prop} {i j : Nat} {as : List Nat} {a b m mb mi mv : WE} {ma mr : WA} {c c2 : WT} {s1 s2 : WS} {x y : D} {xs ys : List D} {o a0 : Option O} {k : Sl → Prop} {A B : Prop} {u v w : Int} {kvs : List (Key × D)}
instance i_trL {f : Bool → Prop} : Stp (truD (.lst xs) f) (f (!xs.isEmpty)) := ⟨fun h => r_trL h⟩
end
section
variable {ρ t : Sl} {nx bk ct : Sl → Prop} {rt : O → Sl → Prop} {ex E : Exc → Sl → Prop} {Q : O → Sl → Prop} {QT : Bool → Sl → Prop} {QA : List D → Sl → Prop} {q : O → Prop} {i j : Nat} {as : List Nat} {a b m mb mi mv : WE} {ma mr : WA} {c c2 : WT} {s1 s2 : WS} {x y : D} {xs ys : List D} {o a0 : Option O} {k : Sl → Prop} {A B : Prop} {u v w : Int} {kvs : List (Key × D)}
instance i_iT  : Stp (ifB true A B) (A) := ⟨fun h => r_iT h⟩
end
section
variable {ρ t : Sl} {nx bk ct : Sl → Prop} {rt : O → Sl → Prop} {ex E : Exc → Sl → Prop} {Q : O → Sl → Prop} {QT : Bool → Sl → Prop} {QA : List D → Sl → Prop} {q : O → Prop} {i j : Nat} {as : List Nat} {a b m mb mi mv : WE} {ma mr : WA} {c c2 : WT} {s1 s2 : WS} {x y : D} {xs ys : List D} {o a0 : Option O} {k : Sl → Prop} {A B : Prop} {u v w : Int} {kvs : List (Key × D)}
instance i_iF  : Stp (ifB false A B) (B) := ⟨fun h => r_iF h⟩
end
section
variable {ρ t : Sl} {nx bk ct : Sl → Prop} {rt : O → Sl → Prop} {ex E : Exc → Sl → Prop} {Q : O → Sl → Prop} {QT : Bool → Sl → Prop} {QA : List D → Sl → Prop} {q : O → Prop} {i j : Nat} {as : List Nat} {a b m mb mi mv : WE} {ma mr : WA} {c c2 : WT} {s1 s2 : WS} {x y : D} {xs ys : List D} {o a0 : Option O} {k : Sl → Prop} {A B : Prop} {u v w : Int} {kvs : List (Key × D)}
instance i_iN {z : Bool} : Stp (ifB (!z) A B) (ifB z B A) := ⟨fun h => r_iN h⟩
end
section
variable {ρ t : Sl} {nx bk ct : Sl → Prop} {rt : O → Sl → Prop} {ex E : Exc → Sl → Prop} {Q : O → Sl → Prop} {QT : Bool → Sl → Prop} {QA : List D → Sl → Prop} {q : O → Prop} {i j : Nat} {as : List Nat} {a b m mb mi mv : WE} {ma mr : WA} {c c2 : WT} {s1 s2 : WS} {x y : D} {xs ys : List D} {o a0 : Option O} {k : Sl → Prop} {A B : Prop} {u v w : Int} {kvs : List (Key × D)}
instance i_in0 {z : Bool} : Stp (ifB (nb false z) A B) (ifB z A B) := ⟨fun h => r_in0 h⟩
end
section
variable {ρ t : Sl} {nx bk ct : Sl → Prop} {rt : O → Sl → Prop} {ex E : Exc → Sl → Prop} {Q : O → Sl → Prop} {QT : Bool → Sl → Prop} {QA : List D → Sl → Prop} {q : O → Prop} {i j : Nat} {as : List Nat} {a b m mb mi mv : WE} {ma mr : WA} {c c2 : WT} {s1 s2 : WS} {x y : D} {xs ys : List D} {o a0 : Option O} {k : Sl → Prop} {A B : Prop} {u v w : Int} {kvs : List (Key × D)}
instance i_in1 {z : Bool} : Stp (ifB (nb true z) A B) (ifB z B A) := ⟨fun h => r_in1 h⟩
end
section
variable {ρ t : Sl} {nx bk ct : Sl → Prop} {rt : O → Sl → Prop} {ex E : Exc → Sl → Prop} {Q : O → Sl → Prop} {QT : Bool → Sl → Prop} {QA : List D → Sl → Prop} {q : O → Prop} {i j : Nat} {as : List Nat} {a b m mb mi mv : WE} {ma mr : WA} {c c2 : WT} {s1 s2 : WS} {x y : D} {xs ys : List D} {o a0 : Option O} {k : Sl → Prop} {A B : Prop} {u v w : Int} {kvs : List (Key × D)}
instance i_var  : Stp (wVar i ρ Q E) (Get ρ i fun o => VarK o i ρ Q) := ⟨fun h => r_var h⟩
end
section
variable {ρ t : Sl} {nx bk ct : Sl → Prop} {rt : O → Sl → Prop} {ex E : Exc → Sl → Prop} {Q : O → Sl → Prop} {QT : Bool → Sl → Prop} {QA : List D → Sl → Prop} {q : O → Prop} {i j : Nat} {as : List Nat} {a b m mb mi mv : WE} {ma mr : WA} {c c2 : WT} {s1 s2 : WS} {x y : D} {xs ys : List D} {o a0 : Option O} {k : Sl → Prop} {A B : Prop} {u v w : Int} {kvs : List (Key × D)}
instance i_vkD  : Stp (VarK (.d x) i ρ Q) (Q (.d x) ρ) := ⟨fun h => r_vkD h⟩
end
section
variable {ρ t : Sl} {nx bk ct : Sl → Prop} {rt : O → Sl → Prop} {ex E : Exc → Sl → Prop} {Q : O → Sl → Prop} {QT : Bool → Sl → Prop} {QA : List D → Sl → Prop} {q : O → Prop} {i j : Nat} {as : List Nat} {a b m mb mi mv : WE} {ma mr : WA} {c c2 : WT} {s1 s2 : WS} {x y : D} {xs ys : List D} {o a0 : Option O} {k : Sl → Prop} {A B : Prop} {u v w : Int} {kvs : List (Key × D)}
instance i_vkL  : Stp (VarK (.lst xs) i ρ Q) (Put ρ i (some (.d (.lst xs))) fun ρ' => Q (.d (.lst xs)) ρ') := ⟨fun h => r_vkL h⟩
end
section
variable {ρ t : Sl} {nx bk ct : Sl → Prop} {rt : O → Sl → Prop} {ex E : Exc → Sl → Prop} {Q : O → Sl → Prop} {QT : Bool → Sl → Prop} {QA : List D → Sl → Prop} {q : O → Prop} {i j : Nat} {as : List Nat} {a b m mb mi mv : WE} {ma mr : WA} {c c2 : WT} {s1 s2 : WS} {x y : D} {xs ys : List D} {o a0 : Option O} {k : Sl → Prop} {A B : Prop} {u v w : Int} {kvs : List (Key × D)}
instance i_vkK  : Stp (VarK (.dic kvs) i ρ Q) (Put ρ i (some (.d (.dic kvs))) fun ρ' => Q (.d (.dic kvs)) ρ') := ⟨fun h => r_vkK h⟩
end
section
variable {ρ t : Sl} {nx bk ct : Sl → Prop} {rt : O → Sl → Prop} {ex E : Exc → Sl → Prop} {Q : O → Sl → Prop} {QT : Bool → Sl → Prop} {QA : List D → Sl → Prop} {q : O → Prop} {i j : Nat} {as : List Nat} {a b m mb mi mv : WE} {ma mr : WA} {c c2 : WT} {s1 s2 : WS} {x y : D} {xs ys : List D} {o a0 : Option O} {k : Sl → Prop} {A B : Prop} {u v w : Int} {kvs : List (Key × D)}
instance i_vkI {f : Str} {fs : List (Str × D)} : Stp (VarK (.ins f fs) i ρ Q) (Put ρ i (some (.d (.ins f fs))) fun ρ' => Q (.d (.ins f fs)) ρ') := ⟨fun h => r_vkI h⟩
end
section
variable {ρ t : Sl} {nx bk ct : Sl → Prop} {rt : O → Sl → Prop} {ex E : Exc → Sl → Prop} {Q : O → Sl → Prop} {QT : Bool → Sl → Prop} {QA : List D → Sl → Prop} {q : O → Prop} {i j : Nat} {as : List Nat} {a b m mb mi mv : WE} {ma mr : WA} {c c2 : WT} {s1 s2 : WS} {x y : D} {xs ys : List D} {o a0 : Option O} {k : Sl → Prop} {A B : Prop} {u v w : Int} {kvs : List (Key × D)}
instance i_move  : Stp (wMove i ρ Q E) (Get ρ i fun o => MovK o i ρ Q) := ⟨fun h => r_move h⟩
end
section
variable {ρ t : Sl} {nx bk ct : Sl → Prop} {rt : O → Sl → Prop} {ex E : Exc → Sl → Prop} {Q : O → Sl → Prop} {QT : Bool → Sl → Prop} {QA : List D → Sl → Prop} {q : O → Prop} {i j : Nat} {as : List Nat} {a b m mb mi mv : WE} {ma mr : WA} {c c2 : WT} {s1 s2 : WS} {x y : D} {xs ys : List D} {o a0 : Option O} {k : Sl → Prop} {A B : Prop} {u v w : Int} {kvs : List (Key × D)}
instance i_mvD  : Stp (MovK (.d x) i ρ Q) (Q (.d x) ρ) := ⟨fun h => r_mvD h⟩
end
section
variable {ρ t : Sl} {nx bk ct : Sl → Prop} {rt : O → Sl → Prop} {ex E : Exc → Sl → Prop} {Q : O → Sl → Prop} {QT : Bool → Sl → Prop} {QA : List D → Sl → Prop} {q : O → Prop} {i j : Nat} {as : List Nat} {a b m mb mi mv : WE} {ma mr : WA} {c c2 : WT} {s1 s2 : WS} {x y : D} {xs ys : List D} {o a0 : Option O} {k : Sl → Prop} {A B : Prop} {u v w : Int} {kvs : List (Key × D)}
instance i_mvL  : Stp (MovK (.lst xs) i ρ Q) (Put ρ i none fun ρ' => Q (.lst xs) ρ') := ⟨fun h => r_mvL h⟩
end
section
variable {ρ t : Sl} {nx bk ct : Sl → Prop} {rt : O → Sl → Prop} {ex E : Exc → Sl → Prop} {Q : O → Sl → Prop} {QT : Bool → Sl → Prop} {QA : List D → Sl → Prop} {q : O → Prop} {i j : Nat} {as : List Nat} {a b m mb mi mv : WE} {ma mr : WA} {c c2 : WT} {s1 s2 : WS} {x y : D} {xs ys : List D} {o a0 : Option O} {k : Sl → Prop} {A B : Prop} {u v w : Int} {kvs : List (Key × D)}
instance i_mvK  : Stp (MovK (.dic kvs) i ρ Q) (Put ρ i none fun ρ' => Q (.dic kvs) ρ') := ⟨fun h => r_mvK h⟩
end
section
variable {ρ t : Sl} {nx bk ct : Sl → Prop} {rt : O → Sl → Prop} {ex E : Exc → Sl → Prop} {Q : O → Sl → Prop} {QT : Bool → Sl → Prop} {QA : List D → Sl → Prop} {q : O → Prop} {i j : Nat} {as : List Nat} {a b m mb mi mv : WE} {ma mr : WA} {c c2 : WT} {s1 s2 : WS} {x y : D} {xs ys : List D} {o a0 : Option O} {k : Sl → Prop} {A B : Prop} {u v w : Int} {kvs : List (Key × D)}
instance i_mvI {f : Str} {fs : List (Str × D)} : Stp (MovK (.ins f fs) i ρ Q) (Put ρ i none fun ρ' => Q (.ins f fs) ρ') := ⟨fun h => r_mvI h⟩
end
section
variable {ρ t : Sl} {nx bk ct : Sl → Prop} {rt : O → Sl → Prop} {ex E : Exc → Sl → Prop} {Q : O → Sl → Prop} {QT : Bool → Sl → Prop} {QA : List D → Sl → Prop} {q : O → Prop} {i j : Nat} {as : List Nat} {a b m mb mi mv : WE} {ma mr : WA} {c c2 : WT} {s1 s2 : WS} {x y : D} {xs ys : List D} {o a0 : Option O} {k : Sl → Prop} {A B : Prop} {u v w : Int} {kvs : List (Key × D)}
instance i_mvDk {n : Nat × Addr} : Stp (MovK (.deck n) i ρ Q) (Put ρ i none fun ρ' => Q (.deck n) ρ') := ⟨fun h => r_mvDk h⟩
end
section
variable {ρ t : Sl} {nx bk ct : Sl → Prop} {rt : O → Sl → Prop} {ex E : Exc → Sl → Prop} {Q : O → Sl → Prop} {QT : Bool → Sl → Prop} {QA : List D → Sl → Prop} {q : O → Prop} {i j : Nat} {as : List Nat} {a b m mb mi mv : WE} {ma mr : WA} {c c2 : WT} {s1 s2 : WS} {x y : D} {xs ys : List D} {o a0 : Option O} {k : Sl → Prop} {A B : Prop} {u v w : Int} {kvs : List (Key × D)}
instance i_k  : Stp (wK x ρ Q E) (Q (.d x) ρ) := ⟨fun h => r_k h⟩
end
section
variable {ρ t : Sl} {nx bk ct : Sl → Prop} {rt : O → Sl → Prop} {ex E : Exc → Sl → Prop} {Q : O → Sl → Prop} {QT : Bool → Sl → Prop} {QA : List D → Sl → Prop} {q : O → Prop} {i j : Nat} {as : List Nat} {a b m mb mi mv : WE} {ma mr : WA} {c c2 : WT} {s1 s2 : WS} {x y : D} {xs ys : List D} {o a0 : Option O} {k : Sl → Prop} {A B : Prop} {u v w : Int} {kvs : List (Key × D)}
instance i_cD {f : D → Prop} : Stp (cold (.d x) f) (f x) := ⟨fun h => r_cD h⟩
end
section
variable {ρ t : Sl} {nx bk ct : Sl → Prop} {rt : O → Sl → Prop} {ex E : Exc → Sl → Prop} {Q : O → Sl → Prop} {QT : Bool → Sl → Prop} {QA : List D → Sl → Prop} {q : O → Prop} {i j : Nat} {as : List Nat} {a b m mb mi mv : WE} {ma mr : WA} {c c2 : WT} {s1 s2 : WS} {x y : D} {xs ys : List D} {o a0 : Option O} {k : Sl → Prop} {A B : Prop} {u v w : Int} {kvs : List (Key × D)}
instance i_cL {f : D → Prop} : Stp (cold (.lst xs) f) (f (.lst xs)) := ⟨fun h => r_cL h⟩
end
section
variable {ρ t : Sl} {nx bk ct : Sl → Prop} {rt : O → Sl → Prop} {ex E : Exc → Sl → Prop} {Q : O → Sl → Prop} {QT : Bool → Sl → Prop} {QA : List D → Sl → Prop} {q : O → Prop} {i j : Nat} {as : List Nat} {a b m mb mi mv : WE} {ma mr : WA} {c c2 : WT} {s1 s2 : WS} {x y : D} {xs ys : List D} {o a0 : Option O} {k : Sl → Prop} {A B : Prop} {u v w : Int} {kvs : List (Key × D)}
instance i_cK {f : D → Prop} : Stp (cold (.dic kvs) f) (f (.dic kvs)) := ⟨fun h => r_cK h⟩
end
section
variable {ρ t : Sl} {nx bk ct : Sl → Prop} {rt : O → Sl → Prop} {ex E : Exc → Sl → Prop} {Q : O → Sl → Prop} {QT : Bool → Sl → Prop} {QA : List D → Sl → Prop} {q : O → Prop} {i j : Nat} {as : List Nat} {a b m mb mi mv : WE} {ma mr : WA} {c c2 : WT} {s1 s2 : WS} {x y : D} {xs ys : List D} {o a0 : Option O} {k : Sl → Prop} {A B : Prop} {u v w : Int} {kvs : List (Key × D)}
instance i_cI {f : D → Prop} {g : Str} {fs : List (Str × D)} : Stp (cold (.ins g fs) f) (f (.ins g fs)) := ⟨fun h => r_cI h⟩
end
section
variable {ρ t : Sl} {nx bk ct : Sl → Prop} {rt : O → Sl → Prop} {ex E : Exc → Sl → Prop} {Q : O → Sl → Prop} {QT : Bool → Sl → Prop} {QA : List D → Sl → Prop} {q : O → Prop} {i j : Nat} {as : List Nat} {a b m mb mi mv : WE} {ma mr : WA} {c c2 : WT} {s1 s2 : WS} {x y : D} {xs ys : List D} {o a0 : Option O} {k : Sl → Prop} {A B : Prop} {u v w : Int} {kvs : List (Key × D)}
instance i_bin {f : D → D → (O → Prop) → Prop} : Stp (wBin f a b ρ Q E) (a ρ (fun o ρ1 => b ρ1 (fun o2 ρ2 => cold o fun x => cold o2 fun y => f x y fun o => Q o ρ2) E) E) := ⟨fun h => r_bin h⟩
end
section
variable {ρ t : Sl} {nx bk ct : Sl → Prop} {rt : O → Sl → Prop} {ex E : Exc → Sl → Prop} {Q : O → Sl → Prop} {QT : Bool → Sl → Prop} {QA : List D → Sl → Prop} {q : O → Prop} {i j : Nat} {as : List Nat} {a b m mb mi mv : WE} {ma mr : WA} {c c2 : WT} {s1 s2 : WS} {x y : D} {xs ys : List D} {o a0 : Option O} {k : Sl → Prop} {A B : Prop} {u v w : Int} {kvs : List (Key × D)}
instance i_mI0 {g : Int → Int → D} : Stp (mI0 g (.int u) (.int v) q) (q (.d (g u v))) := ⟨fun h => r_mI0 h⟩
end
section
variable {ρ t : Sl} {nx bk ct : Sl → Prop} {rt : O → Sl → Prop} {ex E : Exc → Sl → Prop} {Q : O → Sl → Prop} {QT : Bool → Sl → Prop} {QA : List D → Sl → Prop} {q : O → Prop} {i j : Nat} {as : List Nat} {a b m mb mi mv : WE} {ma mr : WA} {c c2 : WT} {s1 s2 : WS} {x y : D} {xs ys : List D} {o a0 : Option O} {k : Sl → Prop} {A B : Prop} {u v w : Int} {kvs : List (Key × D)}
instance i_adI  : Stp (mAdd (.int u) (.int v) q) (q (.d (.int (u + v)))) := ⟨fun h => r_adI h⟩
end
section
variable {ρ t : Sl} {nx bk ct : Sl → Prop} {rt : O → Sl → Prop} {ex E : Exc → Sl → Prop} {Q : O → Sl → Prop} {QT : Bool → Sl → Prop} {QA : List D → Sl → Prop} {q : O → Prop} {i j : Nat} {as : List Nat} {a b m mb mi mv : WE} {ma mr : WA} {c c2 : WT} {s1 s2 : WS} {x y : D} {xs ys : List D} {o a0 : Option O} {k : Sl → Prop} {A B : Prop} {u v w : Int} {kvs : List (Key × D)}
instance i_eqI {z : Bool} : Stp (mEq z (.int u) (.int v) q) (q (.d (.bl (nb z (decide (u = v)))))) := ⟨fun h => r_eqI h⟩
end
section
variable {ρ t : Sl} {nx bk ct : Sl → Prop} {rt : O → Sl → Prop} {ex E : Exc → Sl → Prop} {Q : O → Sl → Prop} {QT : Bool → Sl → Prop} {QA : List D → Sl → Prop} {q : O → Prop} {i j : Nat} {as : List Nat} {a b m mb mi mv : WE} {ma mr : WA} {c c2 : WT} {s1 s2 : WS} {x y : D} {xs ys : List D} {o a0 : Option O} {k : Sl → Prop} {A B : Prop} {u v w : Int} {kvs : List (Key × D)}
instance i_eqS {z : Bool} {s s' : Str} : Stp (mEq z (.str s) (.str s') q) (q (.d (.bl (nb z (decide (s = s')))))) := ⟨fun h => r_eqS h⟩
end
section
variable {ρ t : Sl} {nx bk ct : Sl → Prop} {rt : O → Sl → Prop} {ex E : Exc → Sl → Prop} {Q : O → Sl → Prop} {QT : Bool → Sl → Prop} {QA : List D → Sl → Prop} {q : O → Prop} {i j : Nat} {as : List Nat} {a b m mb mi mv : WE} {ma mr : WA} {c c2 : WT} {s1 s2 : WS} {x y : D} {xs ys : List D} {o a0 : Option O} {k : Sl → Prop} {A B : Prop} {u v w : Int} {kvs : List (Key × D)}
instance i_eqB {z f g : Bool} : Stp (mEq z (.bl f) (.bl g) q) (q (.d (.bl (nb z (decide (f = g)))))) := ⟨fun h => r_eqB h⟩
end
section
variable {ρ t : Sl} {nx bk ct : Sl → Prop} {rt : O → Sl → Prop} {ex E : Exc → Sl → Prop} {Q : O → Sl → Prop} {QT : Bool → Sl → Prop} {QA : List D → Sl → Prop} {q : O → Prop} {i j : Nat} {as : List Nat} {a b m mb mi mv : WE} {ma mr : WA} {c c2 : WT} {s1 s2 : WS} {x y : D} {xs ys : List D} {o a0 : Option O} {k : Sl → Prop} {A B : Prop} {u v w : Int} {kvs : List (Key × D)}
instance i_eqTT {z : Bool} : Stp (mEq z (.tup xs) (.tup ys) q) (mEqD z (.tup xs) (.tup ys) q) := ⟨fun h => r_eqTT h⟩
end
section
variable {ρ t : Sl} {nx bk ct : Sl → Prop} {rt : O → Sl → Prop} {ex E : Exc → Sl → Prop} {Q : O → Sl → Prop} {QT : Bool → Sl → Prop} {QA : List D → Sl → Prop} {q : O → Prop} {i j : Nat} {as : List Nat} {a b m mb mi mv : WE} {ma mr : WA} {c c2 : WT} {s1 s2 : WS} {x y : D} {xs ys : List D} {o a0 : Option O} {k : Sl → Prop} {A B : Prop} {u v w : Int} {kvs : List (Key × D)}
instance i_eqLL {z : Bool} : Stp (mEq z (.lst xs) (.lst ys) q) (mEqD z (.lst xs) (.lst ys) q) := ⟨fun h => r_eqLL h⟩
end
section
variable {ρ t : Sl} {nx bk ct : Sl → Prop} {rt : O → Sl → Prop} {ex E : Exc → Sl → Prop} {Q : O → Sl → Prop} {QT : Bool → Sl → Prop} {QA : List D → Sl → Prop} {q : O → Prop} {i j : Nat} {as : List Nat} {a b m mb mi mv : WE} {ma mr : WA} {c c2 : WT} {s1 s2 : WS} {x y : D} {xs ys : List D} {o a0 : Option O} {k : Sl → Prop} {A B : Prop} {u v w : Int} {kvs : List (Key × D)}
instance i_eqL0 {z : Bool} : Stp (mEq z (.lst xs) (.lst []) q) (q (.d (.bl (nb z xs.isEmpty)))) := ⟨fun h => r_eqL0 h⟩
end
section
variable {ρ t : Sl} {nx bk ct : Sl → Prop} {rt : O → Sl → Prop} {ex E : Exc → Sl → Prop} {Q : O → Sl → Prop} {QT : Bool → Sl → Prop} {QA : List D → Sl → Prop} {q : O → Prop} {i j : Nat} {as : List Nat} {a b m mb mi mv : WE} {ma mr : WA} {c c2 : WT} {s1 s2 : WS} {x y : D} {xs ys : List D} {o a0 : Option O} {k : Sl → Prop} {A B : Prop} {u v w : Int} {kvs : List (Key × D)}
instance i_eqT0 {z : Bool} : Stp (mEq z (.tup xs) (.tup []) q) (q (.d (.bl (nb z xs.isEmpty)))) := ⟨fun h => r_eqT0 h⟩
end
section
variable {ρ t : Sl} {nx bk ct : Sl → Prop} {rt : O → Sl → Prop} {ex E : Exc → Sl → Prop} {Q : O → Sl → Prop} {QT : Bool → Sl → Prop} {QA : List D → Sl → Prop} {q : O → Prop} {i j : Nat} {as : List Nat} {a b m mb mi mv : WE} {ma mr : WA} {c c2 : WT} {s1 s2 : WS} {x y : D} {xs ys : List D} {o a0 : Option O} {k : Sl → Prop} {A B : Prop} {u v w : Int} {kvs : List (Key × D)}
instance i_is {z : Bool} : Stp (mIs z x .non q) (q (.d (.bl (if z then !isNonD x else isNonD x)))) := ⟨fun h => r_is h⟩
end
section
variable {ρ t : Sl} {nx bk ct : Sl → Prop} {rt : O → Sl → Prop} {ex E : Exc → Sl → Prop} {Q : O → Sl → Prop} {QT : Bool → Sl → Prop} {QA : List D → Sl → Prop} {q : O → Prop} {i j : Nat} {as : List Nat} {a b m mb mi mv : WE} {ma mr : WA} {c c2 : WT} {s1 s2 : WS} {x y : D} {xs ys : List D} {o a0 : Option O} {k : Sl → Prop} {A B : Prop} {u v w : Int} {kvs : List (Key × D)}
instance i_chK {z : Bool} : Stp (ChK (.d (.bl z)) A B) (ifB z A B) := ⟨fun h => r_chK h⟩
end
section
variable {ρ t : Sl} {nx bk ct : Sl → Prop} {rt : O → Sl → Prop} {ex E : Exc → Sl → Prop} {Q : O → Sl → Prop} {QT : Bool → Sl → Prop} {QA : List D → Sl → Prop} {q : O → Prop} {i j : Nat} {as : List Nat} {a b m mb mi mv : WE} {ma mr : WA} {c c2 : WT} {s1 s2 : WS} {x y : D} {xs ys : List D} {o a0 : Option O} {k : Sl → Prop} {A B : Prop} {u v w : Int} {kvs : List (Key × D)}
instance i_chain {f g : D → D → (O → Prop) → Prop} : Stp (wChain f g a b m ρ Q E) (a ρ (fun o ρ1 => b ρ1 (fun o2 ρ2 => cold o fun x => cold o2 fun y => f x y fun o => ChK o (m ρ2 (fun o3 ρ3 => cold o3 fun z => g y z fun o => Q o ρ3) E) (Q (.d (.bl false)) ρ2)) E) E) := ⟨fun h => r_chain h⟩
end
section
variable {ρ t : Sl} {nx bk ct : Sl → Prop} {rt : O → Sl → Prop} {ex E : Exc → Sl → Prop} {Q : O → Sl → Prop} {QT : Bool → Sl → Prop} {QA : List D → Sl → Prop} {q : O → Prop} {i j : Nat} {as : List Nat} {a b m mb mi mv : WE} {ma mr : WA} {c c2 : WT} {s1 s2 : WS} {x y : D} {xs ys : List D} {o a0 : Option O} {k : Sl → Prop} {A B : Prop} {u v w : Int} {kvs : List (Key × D)}
instance i_neg  : Stp (wNeg m ρ Q E) (m ρ (fun o ρ1 => AsI o fun u => Q (.d (.int (-u))) ρ1) E) := ⟨fun h => r_neg h⟩
end
section
variable {ρ t : Sl} {nx bk ct : Sl → Prop} {rt : O → Sl → Prop} {ex E : Exc → Sl → Prop} {Q : O → Sl → Prop} {QT : Bool → Sl → Prop} {QA : List D → Sl → Prop} {q : O → Prop} {i j : Nat} {as : List Nat} {a b m mb mi mv : WE} {ma mr : WA} {c c2 : WT} {s1 s2 : WS} {x y : D} {xs ys : List D} {o a0 : Option O} {k : Sl → Prop} {A B : Prop} {u v w : Int} {kvs : List (Key × D)}
instance i_nil  : Stp (wNil ρ QA E) (QA [] ρ) := ⟨fun h => r_nil h⟩
end
section
variable {ρ t : Sl} {nx bk ct : Sl → Prop} {rt : O → Sl → Prop} {ex E : Exc → Sl → Prop} {Q : O → Sl → Prop} {QT : Bool → Sl → Prop} {QA : List D → Sl → Prop} {q : O → Prop} {i j : Nat} {as : List Nat} {a b m mb mi mv : WE} {ma mr : WA} {c c2 : WT} {s1 s2 : WS} {x y : D} {xs ys : List D} {o a0 : Option O} {k : Sl → Prop} {A B : Prop} {u v w : Int} {kvs : List (Key × D)}
instance i_cons  : Stp (wCons m mr ρ QA E) (m ρ (fun o ρ1 => cold o fun x => mr ρ1 (fun xs ρ2 => QA (x :: xs) ρ2) E) E) := ⟨fun h => r_cons h⟩
end
section
variable {ρ t : Sl} {nx bk ct : Sl → Prop} {rt : O → Sl → Prop} {ex E : Exc → Sl → Prop} {Q : O → Sl → Prop} {QT : Bool → Sl → Prop} {QA : List D → Sl → Prop} {q : O → Prop} {i j : Nat} {as : List Nat} {a b m mb mi mv : WE} {ma mr : WA} {c c2 : WT} {s1 s2 : WS} {x y : D} {xs ys : List D} {o a0 : Option O} {k : Sl → Prop} {A B : Prop} {u v w : Int} {kvs : List (Key × D)}
instance i_tup  : Stp (wTup ma ρ Q E) (ma ρ (fun xs ρ1 => Sm xs (Q (.d (.tup xs)) ρ1)) E) := ⟨fun h => r_tup h⟩
end
section
variable {ρ t : Sl} {nx bk ct : Sl → Prop} {rt : O → Sl → Prop} {ex E : Exc → Sl → Prop} {Q : O → Sl → Prop} {QT : Bool → Sl → Prop} {QA : List D → Sl → Prop} {q : O → Prop} {i j : Nat} {as : List Nat} {a b m mb mi mv : WE} {ma mr : WA} {c c2 : WT} {s1 s2 : WS} {x y : D} {xs ys : List D} {o a0 : Option O} {k : Sl → Prop} {A B : Prop} {u v w : Int} {kvs : List (Key × D)}
instance i_lst  : Stp (wLst ma ρ Q E) (ma ρ (fun xs ρ1 => Sm xs (Q (.lst xs) ρ1)) E) := ⟨fun h => r_lst h⟩
end
section
variable {ρ t : Sl} {nx bk ct : Sl → Prop} {rt : O → Sl → Prop} {ex E : Exc → Sl → Prop} {Q : O → Sl → Prop} {QT : Bool → Sl → Prop} {QA : List D → Sl → Prop} {q : O → Prop} {i j : Nat} {as : List Nat} {a b m mb mi mv : WE} {ma mr : WA} {c c2 : WT} {s1 s2 : WS} {x y : D} {xs ys : List D} {o a0 : Option O} {k : Sl → Prop} {A B : Prop} {u v w : Int} {kvs : List (Key × D)}
instance i_cb {f : List D → (O → Prop) → Prop} : Stp (wCB f ma ρ Q E) (ma ρ (fun xs ρ1 => f xs fun o => Q o ρ1) E) := ⟨fun h => r_cb h⟩
end
section
variable {ρ t : Sl} {nx bk ct : Sl → Prop} {rt : O → Sl → Prop} {ex E : Exc → Sl → Prop} {Q : O → Sl → Prop} {QT : Bool → Sl → Prop} {QA : List D → Sl → Prop} {q : O → Prop} {i j : Nat} {as : List Nat} {a b m mb mi mv : WE} {ma mr : WA} {c c2 : WT} {s1 s2 : WS} {x y : D} {xs ys : List D} {o a0 : Option O} {k : Sl → Prop} {A B : Prop} {u v w : Int} {kvs : List (Key × D)}
instance i_mint  : Stp (mInt [.int u] q) (q (.d (.int u))) := ⟨fun h => r_mint h⟩
end
section
variable {ρ t : Sl} {nx bk ct : Sl → Prop} {rt : O → Sl → Prop} {ex E : Exc → Sl → Prop} {Q : O → Sl → Prop} {QT : Bool → Sl → Prop} {QA : List D → Sl → Prop} {q : O → Prop} {i j : Nat} {as : List Nat} {a b m mb mi mv : WE} {ma mr : WA} {c c2 : WT} {s1 s2 : WS} {x y : D} {xs ys : List D} {o a0 : Option O} {k : Sl → Prop} {A B : Prop} {u v w : Int} {kvs : List (Key × D)}
instance i_mintB {z : Bool} : Stp (mInt [.bl z] q) (q (.d (.int (if z then 1 else 0)))) := ⟨fun h => r_mintB h⟩
end
section
variable {ρ t : Sl} {nx bk ct : Sl → Prop} {rt : O → Sl → Prop} {ex E : Exc → Sl → Prop} {Q : O → Sl → Prop} {QT : Bool → Sl → Prop} {QA : List D → Sl → Prop} {q : O → Prop} {i j : Nat} {as : List Nat} {a b m mb mi mv : WE} {ma mr : WA} {c c2 : WT} {s1 s2 : WS} {x y : D} {xs ys : List D} {o a0 : Option O} {k : Sl → Prop} {A B : Prop} {u v w : Int} {kvs : List (Key × D)}
instance i_mabs  : Stp (mAbs [.int u] q) (q (.d (.int (if u < 0 then -u else u)))) := ⟨fun h => r_mabs h⟩
end
section
variable {ρ t : Sl} {nx bk ct : Sl → Prop} {rt : O → Sl → Prop} {ex E : Exc → Sl → Prop} {Q : O → Sl → Prop} {QT : Bool → Sl → Prop} {QA : List D → Sl → Prop} {q : O → Prop} {i j : Nat} {as : List Nat} {a b m mb mi mv : WE} {ma mr : WA} {c c2 : WT} {s1 s2 : WS} {x y : D} {xs ys : List D} {o a0 : Option O} {k : Sl → Prop} {A B : Prop} {u v w : Int} {kvs : List (Key × D)}
instance i_mmax  : Stp (mMaxU [.int u, .int v] q) (q (.d (.int (if v > u then v else u)))) := ⟨fun h => r_mmax h⟩
end
section
variable {ρ t : Sl} {nx bk ct : Sl → Prop} {rt : O → Sl → Prop} {ex E : Exc → Sl → Prop} {Q : O → Sl → Prop} {QT : Bool → Sl → Prop} {QA : List D → Sl → Prop} {q : O → Prop} {i j : Nat} {as : List Nat} {a b m mb mi mv : WE} {ma mr : WA} {c c2 : WT} {s1 s2 : WS} {x y : D} {xs ys : List D} {o a0 : Option O} {k : Sl → Prop} {A B : Prop} {u v w : Int} {kvs : List (Key × D)}
instance i_mmin  : Stp (mMinU [.int u, .int v] q) (q (.d (.int (if v < u then v else u)))) := ⟨fun h => r_mmin h⟩
end
section
variable {ρ t : Sl} {nx bk ct : Sl → Prop} {rt : O → Sl → Prop} {ex E : Exc → Sl → Prop} {Q : O → Sl → Prop} {QT : Bool → Sl → Prop} {QA : List D → Sl → Prop} {q : O → Prop} {i j : Nat} {as : List Nat} {a b m mb mi mv : WE} {ma mr : WA} {c c2 : WT} {s1 s2 : WS} {x y : D} {xs ys : List D} {o a0 : Option O} {k : Sl → Prop} {A B : Prop} {u v w : Int} {kvs : List (Key × D)}
instance i_mlL  : Stp (mList [.lst xs] q) (q (.lst xs)) := ⟨fun h => r_mlL h⟩
end
section
variable {ρ t : Sl} {nx bk ct : Sl → Prop} {rt : O → Sl → Prop} {ex E : Exc → Sl → Prop} {Q : O → Sl → Prop} {QT : Bool → Sl → Prop} {QA : List D → Sl → Prop} {q : O → Prop} {i j : Nat} {as : List Nat} {a b m mb mi mv : WE} {ma mr : WA} {c c2 : WT} {s1 s2 : WS} {x y : D} {xs ys : List D} {o a0 : Option O} {k : Sl → Prop} {A B : Prop} {u v w : Int} {kvs : List (Key × D)}
instance i_mlT  : Stp (mList [.tup xs] q) (q (.lst xs)) := ⟨fun h => r_mlT h⟩
end
section
variable {ρ t : Sl} {nx bk ct : Sl → Prop} {rt : O → Sl → Prop} {ex E : Exc → Sl → Prop} {Q : O → Sl → Prop} {QT : Bool → Sl → Prop} {QA : List D → Sl → Prop} {q : O → Prop} {i j : Nat} {as : List Nat} {a b m mb mi mv : WE} {ma mr : WA} {c c2 : WT} {s1 s2 : WS} {x y : D} {xs ys : List D} {o a0 : Option O} {k : Sl → Prop} {A B : Prop} {u v w : Int} {kvs : List (Key × D)}
instance i_mlS {ns : List Int} : Stp (mList [.scr ns] q) (q (.lst (ns.map D.int))) := ⟨fun h => r_mlS h⟩
end
section
variable {ρ t : Sl} {nx bk ct : Sl → Prop} {rt : O → Sl → Prop} {ex E : Exc → Sl → Prop} {Q : O → Sl → Prop} {QT : Bool → Sl → Prop} {QA : List D → Sl → Prop} {q : O → Prop} {i j : Nat} {as : List Nat} {a b m mb mi mv : WE} {ma mr : WA} {c c2 : WT} {s1 s2 : WS} {x y : D} {xs ys : List D} {o a0 : Option O} {k : Sl → Prop} {A B : Prop} {u v w : Int} {kvs : List (Key × D)}
instance i_mtL  : Stp (mTuple (.lst xs) q) (q (.d (.tup xs))) := ⟨fun h => r_mtL h⟩
end
section
variable {ρ t : Sl} {nx bk ct : Sl → Prop} {rt : O → Sl → Prop} {ex E : Exc → Sl → Prop} {Q : O → Sl → Prop} {QT : Bool → Sl → Prop} {QA : List D → Sl → Prop} {q : O → Prop} {i j : Nat} {as : List Nat} {a b m mb mi mv : WE} {ma mr : WA} {c c2 : WT} {s1 s2 : WS} {x y : D} {xs ys : List D} {o a0 : Option O} {k : Sl → Prop} {A B : Prop} {u v w : Int} {kvs : List (Key × D)}
instance i_mtT  : Stp (mTuple (.tup xs) q) (q (.d (.tup xs))) := ⟨fun h => r_mtT h⟩
end
section
variable {ρ t : Sl} {nx bk ct : Sl → Prop} {rt : O → Sl → Prop} {ex E : Exc → Sl → Prop} {Q : O → Sl → Prop} {QT : Bool → Sl → Prop} {QA : List D → Sl → Prop} {q : O → Prop} {i j : Nat} {as : List Nat} {a b m mb mi mv : WE} {ma mr : WA} {c c2 : WT} {s1 s2 : WS} {x y : D} {xs ys : List D} {o a0 : Option O} {k : Sl → Prop} {A B : Prop} {u v w : Int} {kvs : List (Key × D)}
instance i_tuple  : Stp (wTuple a ρ Q E) (a ρ (fun o ρ1 => cold o fun x => mTuple x fun r => Q r ρ1) E) := ⟨fun h => r_tuple h⟩
end
section
variable {ρ t : Sl} {nx bk ct : Sl → Prop} {rt : O → Sl → Prop} {ex E : Exc → Sl → Prop} {Q : O → Sl → Prop} {QT : Bool → Sl → Prop} {QA : List D → Sl → Prop} {q : O → Prop} {i j : Nat} {as : List Nat} {a b m mb mi mv : WE} {ma mr : WA} {c c2 : WT} {s1 s2 : WS} {x y : D} {xs ys : List D} {o a0 : Option O} {k : Sl → Prop} {A B : Prop} {u v w : Int} {kvs : List (Key × D)}
instance i_rev  : Stp (wRev a ρ Q E) (a ρ (fun o ρ1 => cold o fun x => mRev x fun r => Q r ρ1) E) := ⟨fun h => r_rev h⟩
end
section
variable {ρ t : Sl} {nx bk ct : Sl → Prop} {rt : O → Sl → Prop} {ex E : Exc → Sl → Prop} {Q : O → Sl → Prop} {QT : Bool → Sl → Prop} {QA : List D → Sl → Prop} {q : O → Prop} {i j : Nat} {as : List Nat} {a b m mb mi mv : WE} {ma mr : WA} {c c2 : WT} {s1 s2 : WS} {x y : D} {xs ys : List D} {o a0 : Option O} {k : Sl → Prop} {A B : Prop} {u v w : Int} {kvs : List (Key × D)}
instance i_mrL  : Stp (mRev (.lst xs) q) (q (.lst xs.reverse)) := ⟨fun h => r_mrL h⟩
end
section
variable {ρ t : Sl} {nx bk ct : Sl → Prop} {rt : O → Sl → Prop} {ex E : Exc → Sl → Prop} {Q : O → Sl → Prop} {QT : Bool → Sl → Prop} {QA : List D → Sl → Prop} {q : O → Prop} {i j : Nat} {as : List Nat} {a b m mb mi mv : WE} {ma mr : WA} {c c2 : WT} {s1 s2 : WS} {x y : D} {xs ys : List D} {o a0 : Option O} {k : Sl → Prop} {A B : Prop} {u v w : Int} {kvs : List (Key × D)}
instance i_mrT  : Stp (mRev (.tup xs) q) (q (.d (.tup xs.reverse))) := ⟨fun h => r_mrT h⟩
end
section
variable {ρ t : Sl} {nx bk ct : Sl → Prop} {rt : O → Sl → Prop} {ex E : Exc → Sl → Prop} {Q : O → Sl → Prop} {QT : Bool → Sl → Prop} {QA : List D → Sl → Prop} {q : O → Prop} {i j : Nat} {as : List Nat} {a b m mb mi mv : WE} {ma mr : WA} {c c2 : WT} {s1 s2 : WS} {x y : D} {xs ys : List D} {o a0 : Option O} {k : Sl → Prop} {A B : Prop} {u v w : Int} {kvs : List (Key × D)}
instance i_mrS {ns : List Int} : Stp (mRev (.scr ns) q) (q (.lst (ns.reverse.map D.int))) := ⟨fun h => r_mrS h⟩
end
section
variable {ρ t : Sl} {nx bk ct : Sl → Prop} {rt : O → Sl → Prop} {ex E : Exc → Sl → Prop} {Q : O → Sl → Prop} {QT : Bool → Sl → Prop} {QA : List D → Sl → Prop} {q : O → Prop} {i j : Nat} {as : List Nat} {a b m mb mi mv : WE} {ma mr : WA} {c c2 : WT} {s1 s2 : WS} {x y : D} {xs ys : List D} {o a0 : Option O} {k : Sl → Prop} {A B : Prop} {u v w : Int} {kvs : List (Key × D)}
instance i_foldB {f : List Bool → Bool} {bs : List Bool} : Stp (mFoldB f [.lst (bs.map D.bl)] q) (q (.d (.bl (f bs)))) := ⟨fun h => r_foldB h⟩
end
section
variable {ρ t : Sl} {nx bk ct : Sl → Prop} {rt : O → Sl → Prop} {ex E : Exc → Sl → Prop} {Q : O → Sl → Prop} {QT : Bool → Sl → Prop} {QA : List D → Sl → Prop} {q : O → Prop} {i j : Nat} {as : List Nat} {a b m mb mi mv : WE} {ma mr : WA} {c c2 : WT} {s1 s2 : WS} {x y : D} {xs ys : List D} {o a0 : Option O} {k : Sl → Prop} {A B : Prop} {u v w : Int} {kvs : List (Key × D)}
instance i_mlenL  : Stp (mLen [.lst xs] q) (q (.d (.int (xs.length : Nat)))) := ⟨fun h => r_mlenL h⟩
end
section
variable {ρ t : Sl} {nx bk ct : Sl → Prop} {rt : O → Sl → Prop} {ex E : Exc → Sl → Prop} {Q : O → Sl → Prop} {QT : Bool → Sl → Prop} {QA : List D → Sl → Prop} {q : O → Prop} {i j : Nat} {as : List Nat} {a b m mb mi mv : WE} {ma mr : WA} {c c2 : WT} {s1 s2 : WS} {x y : D} {xs ys : List D} {o a0 : Option O} {k : Sl → Prop} {A B : Prop} {u v w : Int} {kvs : List (Key × D)}
instance i_mlenT  : Stp (mLen [.tup xs] q) (q (.d (.int (xs.length : Nat)))) := ⟨fun h => r_mlenT h⟩
end
section
variable {ρ t : Sl} {nx bk ct : Sl → Prop} {rt : O → Sl → Prop} {ex E : Exc → Sl → Prop} {Q : O → Sl → Prop} {QT : Bool → Sl → Prop} {QA : List D → Sl → Prop} {q : O → Prop} {i j : Nat} {as : List Nat} {a b m mb mi mv : WE} {ma mr : WA} {c c2 : WT} {s1 s2 : WS} {x y : D} {xs ys : List D} {o a0 : Option O} {k : Sl → Prop} {A B : Prop} {u v w : Int} {kvs : List (Key × D)}
instance i_isiX {f : D → Option Bool} : Stp (wIsiX f m ρ Q E) (m ρ (fun o ρ1 => cold o fun x => IsiK f x fun z => Q (.d (.bl z)) ρ1) E) := ⟨fun h => r_isiX h⟩
end
section
variable {ρ t : Sl} {nx bk ct : Sl → Prop} {rt : O → Sl → Prop} {ex E : Exc → Sl → Prop} {Q : O → Sl → Prop} {QT : Bool → Sl → Prop} {QA : List D → Sl → Prop} {q : O → Prop} {i j : Nat} {as : List Nat} {a b m mb mi mv : WE} {ma mr : WA} {c c2 : WT} {s1 s2 : WS} {x y : D} {xs ys : List D} {o a0 : Option O} {k : Sl → Prop} {A B : Prop} {u v w : Int} {kvs : List (Key × D)}
instance i_ixA  : Stp (wIxA i mb ρ Q E) (Get ρ i fun o => AxK o (wGetV i mb ρ Q E) (wIxV i mb ρ Q E)) := ⟨fun h => r_ixA h⟩
end
section
variable {ρ t : Sl} {nx bk ct : Sl → Prop} {rt : O → Sl → Prop} {ex E : Exc → Sl → Prop} {Q : O → Sl → Prop} {QT : Bool → Sl → Prop} {QA : List D → Sl → Prop} {q : O → Prop} {i j : Nat} {as : List Nat} {a b m mb mi mv : WE} {ma mr : WA} {c c2 : WT} {s1 s2 : WS} {x y : D} {xs ys : List D} {o a0 : Option O} {k : Sl → Prop} {A B : Prop} {u v w : Int} {kvs : List (Key × D)}
instance i_axL  : Stp (AxK (.lst xs) A B) (B) := ⟨fun h => r_axL h⟩
end
section
variable {ρ t : Sl} {nx bk ct : Sl → Prop} {rt : O → Sl → Prop} {ex E : Exc → Sl → Prop} {Q : O → Sl → Prop} {QT : Bool → Sl → Prop} {QA : List D → Sl → Prop} {q : O → Prop} {i j : Nat} {as : List Nat} {a b m mb mi mv : WE} {ma mr : WA} {c c2 : WT} {s1 s2 : WS} {x y : D} {xs ys : List D} {o a0 : Option O} {k : Sl → Prop} {A B : Prop} {u v w : Int} {kvs : List (Key × D)}
instance i_axK  : Stp (AxK (.dic kvs) A B) (A) := ⟨fun h => r_axK h⟩
end
section
variable {ρ t : Sl} {nx bk ct : Sl → Prop} {rt : O → Sl → Prop} {ex E : Exc → Sl → Prop} {Q : O → Sl → Prop} {QT : Bool → Sl → Prop} {QA : List D → Sl → Prop} {q : O → Prop} {i j : Nat} {as : List Nat} {a b m mb mi mv : WE} {ma mr : WA} {c c2 : WT} {s1 s2 : WS} {x y : D} {xs ys : List D} {o a0 : Option O} {k : Sl → Prop} {A B : Prop} {u v w : Int} {kvs : List (Key × D)}
instance i_axDL  : Stp (AxK (.d (.lst xs)) A B) (B) := ⟨fun h => r_axDL h⟩
end
section
variable {ρ t : Sl} {nx bk ct : Sl → Prop} {rt : O → Sl → Prop} {ex E : Exc → Sl → Prop} {Q : O → Sl → Prop} {QT : Bool → Sl → Prop} {QA : List D → Sl → Prop} {q : O → Prop} {i j : Nat} {as : List Nat} {a b m mb mi mv : WE} {ma mr : WA} {c c2 : WT} {s1 s2 : WS} {x y : D} {xs ys : List D} {o a0 : Option O} {k : Sl → Prop} {A B : Prop} {u v w : Int} {kvs : List (Key × D)}
instance i_axDT  : Stp (AxK (.d (.tup xs)) A B) (B) := ⟨fun h => r_axDT h⟩
end
section
variable {ρ t : Sl} {nx bk ct : Sl → Prop} {rt : O → Sl → Prop} {ex E : Exc → Sl → Prop} {Q : O → Sl → Prop} {QT : Bool → Sl → Prop} {QA : List D → Sl → Prop} {q : O → Prop} {i j : Nat} {as : List Nat} {a b m mb mi mv : WE} {ma mr : WA} {c c2 : WT} {s1 s2 : WS} {x y : D} {xs ys : List D} {o a0 : Option O} {k : Sl → Prop} {A B : Prop} {u v w : Int} {kvs : List (Key × D)}
instance i_axDS {s : Str} : Stp (AxK (.d (.str s)) A B) (B) := ⟨fun h => r_axDS h⟩
end
section
variable {ρ t : Sl} {nx bk ct : Sl → Prop} {rt : O → Sl → Prop} {ex E : Exc → Sl → Prop} {Q : O → Sl → Prop} {QT : Bool → Sl → Prop} {QA : List D → Sl → Prop} {q : O → Prop} {i j : Nat} {as : List Nat} {a b m mb mi mv : WE} {ma mr : WA} {c c2 : WT} {s1 s2 : WS} {x y : D} {xs ys : List D} {o a0 : Option O} {k : Sl → Prop} {A B : Prop} {u v w : Int} {kvs : List (Key × D)}
instance i_axDK  : Stp (AxK (.d (.dic kvs)) A B) (A) := ⟨fun h => r_axDK h⟩
end
section
variable {ρ t : Sl} {nx bk ct : Sl → Prop} {rt : O → Sl → Prop} {ex E : Exc → Sl → Prop} {Q : O → Sl → Prop} {QT : Bool → Sl → Prop} {QA : List D → Sl → Prop} {q : O → Prop} {i j : Nat} {as : List Nat} {a b m mb mi mv : WE} {ma mr : WA} {c c2 : WT} {s1 s2 : WS} {x y : D} {xs ys : List D} {o a0 : Option O} {k : Sl → Prop} {A B : Prop} {u v w : Int} {kvs : List (Key × D)}
instance i_gv {f : D → Prop} : Stp (Gv ρ i y f) (Get ρ i fun o => GvK o y f) := ⟨fun h => r_gv h⟩
end
section
variable {ρ t : Sl} {nx bk ct : Sl → Prop} {rt : O → Sl → Prop} {ex E : Exc → Sl → Prop} {Q : O → Sl → Prop} {QT : Bool → Sl → Prop} {QA : List D → Sl → Prop} {q : O → Prop} {i j : Nat} {as : List Nat} {a b m mb mi mv : WE} {ma mr : WA} {c c2 : WT} {s1 s2 : WS} {x y : D} {xs ys : List D} {o a0 : Option O} {k : Sl → Prop} {A B : Prop} {u v w : Int} {kvs : List (Key × D)}
instance i_part0 {QP : Option Int → Sl → Prop} : Stp (wPart none ρ QP E) (QP none ρ) := ⟨fun h => r_part0 h⟩
end
section
variable {ρ t : Sl} {nx bk ct : Sl → Prop} {rt : O → Sl → Prop} {ex E : Exc → Sl → Prop} {Q : O → Sl → Prop} {QT : Bool → Sl → Prop} {QA : List D → Sl → Prop} {q : O → Prop} {i j : Nat} {as : List Nat} {a b m mb mi mv : WE} {ma mr : WA} {c c2 : WT} {s1 s2 : WS} {x y : D} {xs ys : List D} {o a0 : Option O} {k : Sl → Prop} {A B : Prop} {u v w : Int} {kvs : List (Key × D)}
instance i_part1 {QP : Option Int → Sl → Prop} : Stp (wPart (some m) ρ QP E) (m ρ (fun o ρ1 => AsI o fun u => QP (some u) ρ1) E) := ⟨fun h => r_part1 h⟩
end
section
variable {ρ t : Sl} {nx bk ct : Sl → Prop} {rt : O → Sl → Prop} {ex E : Exc → Sl → Prop} {Q : O → Sl → Prop} {QT : Bool → Sl → Prop} {QA : List D → Sl → Prop} {q : O → Prop} {i j : Nat} {as : List Nat} {a b m mb mi mv : WE} {ma mr : WA} {c c2 : WT} {s1 s2 : WS} {x y : D} {xs ys : List D} {o a0 : Option O} {k : Sl → Prop} {A B : Prop} {u v w : Int} {kvs : List (Key × D)}
instance i_slL {lo hi : Option Int} : Stp (mSl (.lst xs) lo hi q) (q (.lst (cutD xs lo hi))) := ⟨fun h => r_slL h⟩
end
section
variable {ρ t : Sl} {nx bk ct : Sl → Prop} {rt : O → Sl → Prop} {ex E : Exc → Sl → Prop} {Q : O → Sl → Prop} {QT : Bool → Sl → Prop} {QA : List D → Sl → Prop} {q : O → Prop} {i j : Nat} {as : List Nat} {a b m mb mi mv : WE} {ma mr : WA} {c c2 : WT} {s1 s2 : WS} {x y : D} {xs ys : List D} {o a0 : Option O} {k : Sl → Prop} {A B : Prop} {u v w : Int} {kvs : List (Key × D)}
instance i_slT {lo hi : Option Int} : Stp (mSl (.tup xs) lo hi q) (q (.d (.tup (cutD xs lo hi)))) := ⟨fun h => r_slT h⟩
end
section
variable {ρ t : Sl} {nx bk ct : Sl → Prop} {rt : O → Sl → Prop} {ex E : Exc → Sl → Prop} {Q : O → Sl → Prop} {QT : Bool → Sl → Prop} {QA : List D → Sl → Prop} {q : O → Prop} {i j : Nat} {as : List Nat} {a b m mb mi mv : WE} {ma mr : WA} {c c2 : WT} {s1 s2 : WS} {x y : D} {xs ys : List D} {o a0 : Option O} {k : Sl → Prop} {A B : Prop} {u v w : Int} {kvs : List (Key × D)}
instance i_slS {lo hi : Option Int} {ns : List Int} : Stp (mSl (.scr ns) lo hi q) (q (.lst ((cutD ns lo hi).map D.int))) := ⟨fun h => r_slS h⟩
end
section
variable {ρ t : Sl} {nx bk ct : Sl → Prop} {rt : O → Sl → Prop} {ex E : Exc → Sl → Prop} {Q : O → Sl → Prop} {QT : Bool → Sl → Prop} {QA : List D → Sl → Prop} {q : O → Prop} {i j : Nat} {as : List Nat} {a b m mb mi mv : WE} {ma mr : WA} {c c2 : WT} {s1 s2 : WS} {x y : D} {xs ys : List D} {o a0 : Option O} {k : Sl → Prop} {A B : Prop} {u v w : Int} {kvs : List (Key × D)}
instance i_eqVX {eq : Str → Option Ct} : Stp (wEqVX eq i mb ρ Q E) (Get ρ i fun o => EqK o (wBin (mEqI eq) (wVar i) mb ρ Q E) (wEqV false i mb ρ Q E)) := ⟨fun h => r_eqVX h⟩
end
section
variable {ρ t : Sl} {nx bk ct : Sl → Prop} {rt : O → Sl → Prop} {ex E : Exc → Sl → Prop} {Q : O → Sl → Prop} {QT : Bool → Sl → Prop} {QA : List D → Sl → Prop} {q : O → Prop} {i j : Nat} {as : List Nat} {a b m mb mi mv : WE} {ma mr : WA} {c c2 : WT} {s1 s2 : WS} {x y : D} {xs ys : List D} {o a0 : Option O} {k : Sl → Prop} {A B : Prop} {u v w : Int} {kvs : List (Key × D)}
instance i_ekI  : Stp (EqK (.d (.int u)) A B) (B) := ⟨fun h => r_ekI h⟩
end
section
variable {ρ t : Sl} {nx bk ct : Sl → Prop} {rt : O → Sl → Prop} {ex E : Exc → Sl → Prop} {Q : O → Sl → Prop} {QT : Bool → Sl → Prop} {QA : List D → Sl → Prop} {q : O → Prop} {i j : Nat} {as : List Nat} {a b m mb mi mv : WE} {ma mr : WA} {c c2 : WT} {s1 s2 : WS} {x y : D} {xs ys : List D} {o a0 : Option O} {k : Sl → Prop} {A B : Prop} {u v w : Int} {kvs : List (Key × D)}
instance i_ekT  : Stp (EqK (.d (.tup xs)) A B) (B) := ⟨fun h => r_ekT h⟩
end
section
variable {ρ t : Sl} {nx bk ct : Sl → Prop} {rt : O → Sl → Prop} {ex E : Exc → Sl → Prop} {Q : O → Sl → Prop} {QT : Bool → Sl → Prop} {QA : List D → Sl → Prop} {q : O → Prop} {i j : Nat} {as : List Nat} {a b m mb mi mv : WE} {ma mr : WA} {c c2 : WT} {s1 s2 : WS} {x y : D} {xs ys : List D} {o a0 : Option O} {k : Sl → Prop} {A B : Prop} {u v w : Int} {kvs : List (Key × D)}
instance i_ekS {s : Str} : Stp (EqK (.d (.str s)) A B) (B) := ⟨fun h => r_ekS h⟩
end
section
variable {ρ t : Sl} {nx bk ct : Sl → Prop} {rt : O → Sl → Prop} {ex E : Exc → Sl → Prop} {Q : O → Sl → Prop} {QT : Bool → Sl → Prop} {QA : List D → Sl → Prop} {q : O → Prop} {i j : Nat} {as : List Nat} {a b m mb mi mv : WE} {ma mr : WA} {c c2 : WT} {s1 s2 : WS} {x y : D} {xs ys : List D} {o a0 : Option O} {k : Sl → Prop} {A B : Prop} {u v w : Int} {kvs : List (Key × D)}
instance i_ekB {z : Bool} : Stp (EqK (.d (.bl z)) A B) (B) := ⟨fun h => r_ekB h⟩
end
section
variable {ρ t : Sl} {nx bk ct : Sl → Prop} {rt : O → Sl → Prop} {ex E : Exc → Sl → Prop} {Q : O → Sl → Prop} {QT : Bool → Sl → Prop} {QA : List D → Sl → Prop} {q : O → Prop} {i j : Nat} {as : List Nat} {a b m mb mi mv : WE} {ma mr : WA} {c c2 : WT} {s1 s2 : WS} {x y : D} {xs ys : List D} {o a0 : Option O} {k : Sl → Prop} {A B : Prop} {u v w : Int} {kvs : List (Key × D)}
instance i_ekN  : Stp (EqK (.d .non) A B) (B) := ⟨fun h => r_ekN h⟩
end
section
variable {ρ t : Sl} {nx bk ct : Sl → Prop} {rt : O → Sl → Prop} {ex E : Exc → Sl → Prop} {Q : O → Sl → Prop} {QT : Bool → Sl → Prop} {QA : List D → Sl → Prop} {q : O → Prop} {i j : Nat} {as : List Nat} {a b m mb mi mv : WE} {ma mr : WA} {c c2 : WT} {s1 s2 : WS} {x y : D} {xs ys : List D} {o a0 : Option O} {k : Sl → Prop} {A B : Prop} {u v w : Int} {kvs : List (Key × D)}
instance i_ekL  : Stp (EqK (.d (.lst xs)) A B) (B) := ⟨fun h => r_ekL h⟩
end
section
variable {ρ t : Sl} {nx bk ct : Sl → Prop} {rt : O → Sl → Prop} {ex E : Exc → Sl → Prop} {Q : O → Sl → Prop} {QT : Bool → Sl → Prop} {QA : List D → Sl → Prop} {q : O → Prop} {i j : Nat} {as : List Nat} {a b m mb mi mv : WE} {ma mr : WA} {c c2 : WT} {s1 s2 : WS} {x y : D} {xs ys : List D} {o a0 : Option O} {k : Sl → Prop} {A B : Prop} {u v w : Int} {kvs : List (Key × D)}
instance i_ekOL  : Stp (EqK (.lst xs) A B) (B) := ⟨fun h => r_ekOL h⟩
end
section
variable {ρ t : Sl} {nx bk ct : Sl → Prop} {rt : O → Sl → Prop} {ex E : Exc → Sl → Prop} {Q : O → Sl → Prop} {QT : Bool → Sl → Prop} {QA : List D → Sl → Prop} {q : O → Prop} {i j : Nat} {as : List Nat} {a b m mb mi mv : WE} {ma mr : WA} {c c2 : WT} {s1 s2 : WS} {x y : D} {xs ys : List D} {o a0 : Option O} {k : Sl → Prop} {A B : Prop} {u v w : Int} {kvs : List (Key × D)}
instance i_ekO {f : Str} {fs : List (Str × D)} : Stp (EqK (.ins f fs) A B) (A) := ⟨fun h => r_ekO h⟩
end
section
variable {ρ t : Sl} {nx bk ct : Sl → Prop} {rt : O → Sl → Prop} {ex E : Exc → Sl → Prop} {Q : O → Sl → Prop} {QT : Bool → Sl → Prop} {QA : List D → Sl → Prop} {q : O → Prop} {i j : Nat} {as : List Nat} {a b m mb mi mv : WE} {ma mr : WA} {c c2 : WT} {s1 s2 : WS} {x y : D} {xs ys : List D} {o a0 : Option O} {k : Sl → Prop} {A B : Prop} {u v w : Int} {kvs : List (Key × D)}
instance i_ekDO {f : Str} {fs : List (Str × D)} : Stp (EqK (.d (.ins f fs)) A B) (A) := ⟨fun h => r_ekDO h⟩
end
section
variable {ρ t : Sl} {nx bk ct : Sl → Prop} {rt : O → Sl → Prop} {ex E : Exc → Sl → Prop} {Q : O → Sl → Prop} {QT : Bool → Sl → Prop} {QA : List D → Sl → Prop} {q : O → Prop} {i j : Nat} {as : List Nat} {a b m mb mi mv : WE} {ma mr : WA} {c c2 : WT} {s1 s2 : WS} {x y : D} {xs ys : List D} {o a0 : Option O} {k : Sl → Prop} {A B : Prop} {u v w : Int} {kvs : List (Key × D)}
instance i_lenV  : Stp (wLenV i ρ Q E) (Get ρ i fun o => cold o fun x => lenD x fun n => Q (.d (.int n)) ρ) := ⟨fun h => r_lenV h⟩
end
section
variable {ρ t : Sl} {nx bk ct : Sl → Prop} {rt : O → Sl → Prop} {ex E : Exc → Sl → Prop} {Q : O → Sl → Prop} {QT : Bool → Sl → Prop} {QA : List D → Sl → Prop} {q : O → Prop} {i j : Nat} {as : List Nat} {a b m mb mi mv : WE} {ma mr : WA} {c c2 : WT} {s1 s2 : WS} {x y : D} {xs ys : List D} {o a0 : Option O} {k : Sl → Prop} {A B : Prop} {u v w : Int} {kvs : List (Key × D)}
instance i_lnT {f : Nat → Prop} : Stp (lenD (.tup xs) f) (f xs.length) := ⟨fun h => r_lnT h⟩
end
section
variable {ρ t : Sl} {nx bk ct : Sl → Prop} {rt : O → Sl → Prop} {ex E : Exc → Sl → Prop} {Q : O → Sl → Prop} {QT : Bool → Sl → Prop} {QA : List D → Sl → Prop} {q : O → Prop} {i j : Nat} {as : List Nat} {a b m mb mi mv : WE} {ma mr : WA} {c c2 : WT} {s1 s2 : WS} {x y : D} {xs ys : List D} {o a0 : Option O} {k : Sl → Prop} {A B : Prop} {u v w : Int} {kvs : List (Key × D)}
instance i_lnL {f : Nat → Prop} : Stp (lenD (.lst xs) f) (f xs.length) := ⟨fun h => r_lnL h⟩
end
section
variable {ρ t : Sl} {nx bk ct : Sl → Prop} {rt : O → Sl → Prop} {ex E : Exc → Sl → Prop} {Q : O → Sl → Prop} {QT : Bool → Sl → Prop} {QA : List D → Sl → Prop} {q : O → Prop} {i j : Nat} {as : List Nat} {a b m mb mi mv : WE} {ma mr : WA} {c c2 : WT} {s1 s2 : WS} {x y : D} {xs ys : List D} {o a0 : Option O} {k : Sl → Prop} {A B : Prop} {u v w : Int} {kvs : List (Key × D)}
instance i_lnK {f : Nat → Prop} : Stp (lenD (.dic kvs) f) (f kvs.length) := ⟨fun h => r_lnK h⟩
end
section
variable {ρ t : Sl} {nx bk ct : Sl → Prop} {rt : O → Sl → Prop} {ex E : Exc → Sl → Prop} {Q : O → Sl → Prop} {QT : Bool → Sl → Prop} {QA : List D → Sl → Prop} {q : O → Prop} {i j : Nat} {as : List Nat} {a b m mb mi mv : WE} {ma mr : WA} {c c2 : WT} {s1 s2 : WS} {x y : D} {xs ys : List D} {o a0 : Option O} {k : Sl → Prop} {A B : Prop} {u v w : Int} {kvs : List (Key × D)}
instance i_lnS {f : Nat → Prop} {ns : List Int} : Stp (lenD (.scr ns) f) (f ns.length) := ⟨fun h => r_lnS h⟩
end
section
variable {ρ t : Sl} {nx bk ct : Sl → Prop} {rt : O → Sl → Prop} {ex E : Exc → Sl → Prop} {Q : O → Sl → Prop} {QT : Bool → Sl → Prop} {QA : List D → Sl → Prop} {q : O → Prop} {i j : Nat} {as : List Nat} {a b m mb mi mv : WE} {ma mr : WA} {c c2 : WT} {s1 s2 : WS} {x y : D} {xs ys : List D} {o a0 : Option O} {k : Sl → Prop} {A B : Prop} {u v w : Int} {kvs : List (Key × D)}
instance i_for {it : WA} {g : WG} {s : WS} : Stp (wFor it g s ρ ⟨nx, rt, bk, ct, ex⟩) (it ρ (fun xs ρ1 => forGo g s xs ρ1 ⟨nx, rt, bk, ct, ex⟩) ex) := ⟨fun h => r_for h⟩
end
section
variable {ρ t : Sl} {nx bk ct : Sl → Prop} {rt : O → Sl → Prop} {ex E : Exc → Sl → Prop} {Q : O → Sl → Prop} {QT : Bool → Sl → Prop} {QA : List D → Sl → Prop} {q : O → Prop} {i j : Nat} {as : List Nat} {a b m mb mi mv : WE} {ma mr : WA} {c c2 : WT} {s1 s2 : WS} {x y : D} {xs ys : List D} {o a0 : Option O} {k : Sl → Prop} {A B : Prop} {u v w : Int} {kvs : List (Key × D)}
instance i_itr  : Stp (wItr m ρ QA E) (m ρ (fun o ρ1 => cold o fun x => seqK x fun xs => QA xs ρ1) E) := ⟨fun h => r_itr h⟩
end
section
variable {ρ t : Sl} {nx bk ct : Sl → Prop} {rt : O → Sl → Prop} {ex E : Exc → Sl → Prop} {Q : O → Sl → Prop} {QT : Bool → Sl → Prop} {QA : List D → Sl → Prop} {q : O → Prop} {i j : Nat} {as : List Nat} {a b m mb mi mv : WE} {ma mr : WA} {c c2 : WT} {s1 s2 : WS} {x y : D} {xs ys : List D} {o a0 : Option O} {k : Sl → Prop} {A B : Prop} {u v w : Int} {kvs : List (Key × D)}
instance i_sqL {f : List D → Prop} : Stp (seqK (.lst xs) f) (f xs) := ⟨fun h => r_sqL h⟩
end
section
variable {ρ t : Sl} {nx bk ct : Sl → Prop} {rt : O → Sl → Prop} {ex E : Exc → Sl → Prop} {Q : O → Sl → Prop} {QT : Bool → Sl → Prop} {QA : List D → Sl → Prop} {q : O → Prop} {i j : Nat} {as : List Nat} {a b m mb mi mv : WE} {ma mr : WA} {c c2 : WT} {s1 s2 : WS} {x y : D} {xs ys : List D} {o a0 : Option O} {k : Sl → Prop} {A B : Prop} {u v w : Int} {kvs : List (Key × D)}
instance i_sqT {f : List D → Prop} : Stp (seqK (.tup xs) f) (f xs) := ⟨fun h => r_sqT h⟩
end
section
variable {ρ t : Sl} {nx bk ct : Sl → Prop} {rt : O → Sl → Prop} {ex E : Exc → Sl → Prop} {Q : O → Sl → Prop} {QT : Bool → Sl → Prop} {QA : List D → Sl → Prop} {q : O → Prop} {i j : Nat} {as : List Nat} {a b m mb mi mv : WE} {ma mr : WA} {c c2 : WT} {s1 s2 : WS} {x y : D} {xs ys : List D} {o a0 : Option O} {k : Sl → Prop} {A B : Prop} {u v w : Int} {kvs : List (Key × D)}
instance i_sqS {f : List D → Prop} {ns : List Int} : Stp (seqK (.scr ns) f) (f (ns.map D.int)) := ⟨fun h => r_sqS h⟩
end
section
variable {ρ t : Sl} {nx bk ct : Sl → Prop} {rt : O → Sl → Prop} {ex E : Exc → Sl → Prop} {Q : O → Sl → Prop} {QT : Bool → Sl → Prop} {QA : List D → Sl → Prop} {q : O → Prop} {i j : Nat} {as : List Nat} {a b m mb mi mv : WE} {ma mr : WA} {c c2 : WT} {s1 s2 : WS} {x y : D} {xs ys : List D} {o a0 : Option O} {k : Sl → Prop} {A B : Prop} {u v w : Int} {kvs : List (Key × D)}
instance i_rng1  : Stp (wRng1 ma ρ QA E) (ma ρ (fun xs ρ1 => Rg1 xs fun ys => QA ys ρ1) E) := ⟨fun h => r_rng1 h⟩
end
section
variable {ρ t : Sl} {nx bk ct : Sl → Prop} {rt : O → Sl → Prop} {ex E : Exc → Sl → Prop} {Q : O → Sl → Prop} {QT : Bool → Sl → Prop} {QA : List D → Sl → Prop} {q : O → Prop} {i j : Nat} {as : List Nat} {a b m mb mi mv : WE} {ma mr : WA} {c c2 : WT} {s1 s2 : WS} {x y : D} {xs ys : List D} {o a0 : Option O} {k : Sl → Prop} {A B : Prop} {u v w : Int} {kvs : List (Key × D)}
instance i_rng2  : Stp (wRng2 ma ρ QA E) (ma ρ (fun xs ρ1 => Rg2 xs fun ys => QA ys ρ1) E) := ⟨fun h => r_rng2 h⟩
end
section
variable {ρ t : Sl} {nx bk ct : Sl → Prop} {rt : O → Sl → Prop} {ex E : Exc → Sl → Prop} {Q : O → Sl → Prop} {QT : Bool → Sl → Prop} {QA : List D → Sl → Prop} {q : O → Prop} {i j : Nat} {as : List Nat} {a b m mb mi mv : WE} {ma mr : WA} {c c2 : WT} {s1 s2 : WS} {x y : D} {xs ys : List D} {o a0 : Option O} {k : Sl → Prop} {A B : Prop} {u v w : Int} {kvs : List (Key × D)}
instance i_itrE  : Stp (wItrE ma ρ QA E) (ma ρ (fun xs ρ1 => En1 xs fun ys => QA ys ρ1) E) := ⟨fun h => r_itrE h⟩
end
section
variable {ρ t : Sl} {nx bk ct : Sl → Prop} {rt : O → Sl → Prop} {ex E : Exc → Sl → Prop} {Q : O → Sl → Prop} {QT : Bool → Sl → Prop} {QA : List D → Sl → Prop} {q : O → Prop} {i j : Nat} {as : List Nat} {a b m mb mi mv : WE} {ma mr : WA} {c c2 : WT} {s1 s2 : WS} {x y : D} {xs ys : List D} {o a0 : Option O} {k : Sl → Prop} {A B : Prop} {u v w : Int} {kvs : List (Key × D)}
instance i_en1 {f : List D → Prop} : Stp (En1 [x] f) (seqK x fun ys => f (enD 0 ys)) := ⟨fun h => r_en1 h⟩
end
section
variable {ρ t : Sl} {nx bk ct : Sl → Prop} {rt : O → Sl → Prop} {ex E : Exc → Sl → Prop} {Q : O → Sl → Prop} {QT : Bool → Sl → Prop} {QA : List D → Sl → Prop} {q : O → Prop} {i j : Nat} {as : List Nat} {a b m mb mi mv : WE} {ma mr : WA} {c c2 : WT} {s1 s2 : WS} {x y : D} {xs ys : List D} {o a0 : Option O} {k : Sl → Prop} {A B : Prop} {u v w : Int} {kvs : List (Key × D)}
instance i_itrZ  : Stp (wItrZ ma ρ QA E) (ma ρ (fun xs ρ1 => Zp1 xs fun ys => QA ys ρ1) E) := ⟨fun h => r_itrZ h⟩
end
section
variable {ρ t : Sl} {nx bk ct : Sl → Prop} {rt : O → Sl → Prop} {ex E : Exc → Sl → Prop} {Q : O → Sl → Prop} {QT : Bool → Sl → Prop} {QA : List D → Sl → Prop} {q : O → Prop} {i j : Nat} {as : List Nat} {a b m mb mi mv : WE} {ma mr : WA} {c c2 : WT} {s1 s2 : WS} {x y : D} {xs ys : List D} {o a0 : Option O} {k : Sl → Prop} {A B : Prop} {u v w : Int} {kvs : List (Key × D)}
instance i_zp1 {f : List D → Prop} : Stp (Zp1 [x, y] f) (seqK x fun ys => seqK y fun zs => f (zipD ys zs)) := ⟨fun h => r_zp1 h⟩
end
section
variable {ρ t : Sl} {nx bk ct : Sl → Prop} {rt : O → Sl → Prop} {ex E : Exc → Sl → Prop} {Q : O → Sl → Prop} {QT : Bool → Sl → Prop} {QA : List D → Sl → Prop} {q : O → Prop} {i j : Nat} {as : List Nat} {a b m mb mi mv : WE} {ma mr : WA} {c c2 : WT} {s1 s2 : WS} {x y : D} {xs ys : List D} {o a0 : Option O} {k : Sl → Prop} {A B : Prop} {u v w : Int} {kvs : List (Key × D)}
instance i_wp0  : Stp (Wp [] ρ k) (k ρ) := ⟨fun h => r_wp0 h⟩
end
section
variable {ρ t : Sl} {nx bk ct : Sl → Prop} {rt : O → Sl → Prop} {ex E : Exc → Sl → Prop} {Q : O → Sl → Prop} {QT : Bool → Sl → Prop} {QA : List D → Sl → Prop} {q : O → Prop} {i j : Nat} {as : List Nat} {a b m mb mi mv : WE} {ma mr : WA} {c c2 : WT} {s1 s2 : WS} {x y : D} {xs ys : List D} {o a0 : Option O} {k : Sl → Prop} {A B : Prop} {u v w : Int} {kvs : List (Key × D)}
instance i_wpS {own : List Nat} : Stp (Wp (i :: own) ρ k) (Wp own ρ fun ρ' => Put ρ' i none k) := ⟨fun h => r_wpS h⟩
end
section
variable {ρ t : Sl} {nx bk ct : Sl → Prop} {rt : O → Sl → Prop} {ex E : Exc → Sl → Prop} {Q : O → Sl → Prop} {QT : Bool → Sl → Prop} {QA : List D → Sl → Prop} {q : O → Prop} {i j : Nat} {as : List Nat} {a b m mb mi mv : WE} {ma mr : WA} {c c2 : WT} {s1 s2 : WS} {x y : D} {xs ys : List D} {o a0 : Option O} {k : Sl → Prop} {A B : Prop} {u v w : Int} {kvs : List (Key × D)}
instance i_lc {it : WA} {g : WG} {own : List Nat} : Stp (wLc it g c a own ρ Q E) (it ρ (fun xs ρ1 => Wp own ρ1 fun ρ2 => lcGo g c a own xs ρ2 [] fun ys ρ3 => Q (.lst ys) ρ3) E) := ⟨fun h => r_lc h⟩
end
section
variable {ρ t : Sl} {nx bk ct : Sl → Prop} {rt : O → Sl → Prop} {ex E : Exc → Sl → Prop} {Q : O → Sl → Prop} {QT : Bool → Sl → Prop} {QA : List D → Sl → Prop} {q : O → Prop} {i j : Nat} {as : List Nat} {a b m mb mi mv : WE} {ma mr : WA} {c c2 : WT} {s1 s2 : WS} {x y : D} {xs ys : List D} {o a0 : Option O} {k : Sl → Prop} {A B : Prop} {u v w : Int} {kvs : List (Key × D)}
instance i_asL {f : List D → Prop} : Stp (AsL (.lst xs) f) (f xs) := ⟨fun h => r_asL h⟩
end
section
variable {ρ t : Sl} {nx bk ct : Sl → Prop} {rt : O → Sl → Prop} {ex E : Exc → Sl → Prop} {Q : O → Sl → Prop} {QT : Bool → Sl → Prop} {QA : List D → Sl → Prop} {q : O → Prop} {i j : Nat} {as : List Nat} {a b m mb mi mv : WE} {ma mr : WA} {c c2 : WT} {s1 s2 : WS} {x y : D} {xs ys : List D} {o a0 : Option O} {k : Sl → Prop} {A B : Prop} {u v w : Int} {kvs : List (Key × D)}
instance i_pop  : Stp (wPop i ρ Q E) (Get ρ i fun o => AsL o fun xs => ∃ y, xs[xs.length - 1]? = some y ∧ Put ρ i (some (.lst xs.dropLast)) fun ρ' => Q (.d y) ρ') := ⟨fun h => r_pop h⟩
end
section
variable {ρ t : Sl} {nx bk ct : Sl → Prop} {rt : O → Sl → Prop} {ex E : Exc → Sl → Prop} {Q : O → Sl → Prop} {QT : Bool → Sl → Prop} {QA : List D → Sl → Prop} {q : O → Prop} {i j : Nat} {as : List Nat} {a b m mb mi mv : WE} {ma mr : WA} {c c2 : WT} {s1 s2 : WS} {x y : D} {xs ys : List D} {o a0 : Option O} {k : Sl → Prop} {A B : Prop} {u v w : Int} {kvs : List (Key × D)}
instance i_asK {f : List (Key × D) → Prop} : Stp (AsK (.dic kvs) f) (f kvs) := ⟨fun h => r_asK h⟩
end
section
variable {ρ t : Sl} {nx bk ct : Sl → Prop} {rt : O → Sl → Prop} {ex E : Exc → Sl → Prop} {Q : O → Sl → Prop} {QT : Bool → Sl → Prop} {QA : List D → Sl → Prop} {q : O → Prop} {i j : Nat} {as : List Nat} {a b m mb mi mv : WE} {ma mr : WA} {c c2 : WT} {s1 s2 : WS} {x y : D} {xs ys : List D} {o a0 : Option O} {k : Sl → Prop} {A B : Prop} {u v w : Int} {kvs : List (Key × D)}
instance i_setA  : Stp (wSetA i mi mv ρ ⟨nx, rt, bk, ct, ex⟩) (Get ρ i fun o => AxK o (wPutV i mi mv ρ ⟨nx, rt, bk, ct, ex⟩) (wSetL i mi mv ρ ⟨nx, rt, bk, ct, ex⟩)) := ⟨fun h => r_setA h⟩
end
section
variable {ρ t : Sl} {nx bk ct : Sl → Prop} {rt : O → Sl → Prop} {ex E : Exc → Sl → Prop} {Q : O → Sl → Prop} {QT : Bool → Sl → Prop} {QA : List D → Sl → Prop} {q : O → Prop} {i j : Nat} {as : List Nat} {a b m mb mi mv : WE} {ma mr : WA} {c c2 : WT} {s1 s2 : WS} {x y : D} {xs ys : List D} {o a0 : Option O} {k : Sl → Prop} {A B : Prop} {u v w : Int} {kvs : List (Key × D)}
instance i_setX  : Stp (SetX ρ i u y k) (Get ρ i fun o => AsL o fun xs => ∃ j, ixN xs.length u = some j ∧ Put ρ i (some (.lst (xs.set j y))) k) := ⟨fun h => r_setX h⟩
end
section
variable {ρ t : Sl} {nx bk ct : Sl → Prop} {rt : O → Sl → Prop} {ex E : Exc → Sl → Prop} {Q : O → Sl → Prop} {QT : Bool → Sl → Prop} {QA : List D → Sl → Prop} {q : O → Prop} {i j : Nat} {as : List Nat} {a b m mb mi mv : WE} {ma mr : WA} {c c2 : WT} {s1 s2 : WS} {x y : D} {xs ys : List D} {o a0 : Option O} {k : Sl → Prop} {A B : Prop} {u v w : Int} {kvs : List (Key × D)}
instance i_setL  : Stp (wSetL i mi mv ρ ⟨nx, rt, bk, ct, ex⟩) (mv ρ (fun o ρ1 => cold o fun y => HasP ρ1 i (mi ρ1 (fun o2 ρ2 => AsI o2 fun z => SetX ρ2 i z y nx) ex)) ex) := ⟨fun h => r_setL h⟩
end
section
variable {ρ t : Sl} {nx bk ct : Sl → Prop} {rt : O → Sl → Prop} {ex E : Exc → Sl → Prop} {Q : O → Sl → Prop} {QT : Bool → Sl → Prop} {QA : List D → Sl → Prop} {q : O → Prop} {i j : Nat} {as : List Nat} {a b m mb mi mv : WE} {ma mr : WA} {c c2 : WT} {s1 s2 : WS} {x y : D} {xs ys : List D} {o a0 : Option O} {k : Sl → Prop} {A B : Prop} {u v w : Int} {kvs : List (Key × D)}
instance i_putX {kd : D} {f : Sl → Prop} : Stp (PutX ρ i kd y f) (Get ρ i fun o => AsK o fun kvs => ∃ k, keyD kd = some k ∧ kvs.length < 16777216 ∧ Put ρ i (some (.dic (putD kvs k y))) f) := ⟨fun h => r_putX h⟩
end
section
variable {ρ t : Sl} {nx bk ct : Sl → Prop} {rt : O → Sl → Prop} {ex E : Exc → Sl → Prop} {Q : O → Sl → Prop} {QT : Bool → Sl → Prop} {QA : List D → Sl → Prop} {q : O → Prop} {i j : Nat} {as : List Nat} {a b m mb mi mv : WE} {ma mr : WA} {c c2 : WT} {s1 s2 : WS} {x y : D} {xs ys : List D} {o a0 : Option O} {k : Sl → Prop} {A B : Prop} {u v w : Int} {kvs : List (Key × D)}
instance i_putV  : Stp (wPutV i mi mv ρ ⟨nx, rt, bk, ct, ex⟩) (mv ρ (fun o ρ1 => cold o fun y => HasP ρ1 i (mi ρ1 (fun o2 ρ2 => cold o2 fun kd => PutX ρ2 i kd y nx) ex)) ex) := ⟨fun h => r_putV h⟩
end
section
variable {ρ t : Sl} {nx bk ct : Sl → Prop} {rt : O → Sl → Prop} {ex E : Exc → Sl → Prop} {Q : O → Sl → Prop} {QT : Bool → Sl → Prop} {QA : List D → Sl → Prop} {q : O → Prop} {i j : Nat} {as : List Nat} {a b m mb mi mv : WE} {ma mr : WA} {c c2 : WT} {s1 s2 : WS} {x y : D} {xs ys : List D} {o a0 : Option O} {k : Sl → Prop} {A B : Prop} {u v w : Int} {kvs : List (Key × D)}
instance i_srtA  : Stp (wSrtA i m ρ Q E) (Get ρ i fun o => AxK o (wSrtV i ρ Q E) (wCB mSorted (wCons m wNil) ρ Q E)) := ⟨fun h => r_srtA h⟩
end
section
variable {ρ t : Sl} {nx bk ct : Sl → Prop} {rt : O → Sl → Prop} {ex E : Exc → Sl → Prop} {Q : O → Sl → Prop} {QT : Bool → Sl → Prop} {QA : List D → Sl → Prop} {q : O → Prop} {i j : Nat} {as : List Nat} {a b m mb mi mv : WE} {ma mr : WA} {c c2 : WT} {s1 s2 : WS} {x y : D} {xs ys : List D} {o a0 : Option O} {k : Sl → Prop} {A B : Prop} {u v w : Int} {kvs : List (Key × D)}
instance i_dispN  : Stp (wDispN ρ Q E) (Q (.dic []) ρ) := ⟨fun h => r_dispN h⟩
end
section
variable {ρ t : Sl} {nx bk ct : Sl → Prop} {rt : O → Sl → Prop} {ex E : Exc → Sl → Prop} {Q : O → Sl → Prop} {QT : Bool → Sl → Prop} {QA : List D → Sl → Prop} {q : O → Prop} {i j : Nat} {as : List Nat} {a b m mb mi mv : WE} {ma mr : WA} {c c2 : WT} {s1 s2 : WS} {x y : D} {xs ys : List D} {o a0 : Option O} {k : Sl → Prop} {A B : Prop} {u v w : Int} {kvs : List (Key × D)}
instance i_disp {ps : List (WE × WE)} : Stp (wDisp ps ρ Q E) (wPairs ps ρ (fun kvs ρ1 => Dsp kvs (Q (.dic (mergeD [] kvs)) ρ1)) E) := ⟨fun h => r_disp h⟩
end
section
variable {ρ t : Sl} {nx bk ct : Sl → Prop} {rt : O → Sl → Prop} {ex E : Exc → Sl → Prop} {Q : O → Sl → Prop} {QT : Bool → Sl → Prop} {QA : List D → Sl → Prop} {q : O → Prop} {i j : Nat} {as : List Nat} {a b m mb mi mv : WE} {ma mr : WA} {c c2 : WT} {s1 s2 : WS} {x y : D} {xs ys : List D} {o a0 : Option O} {k : Sl → Prop} {A B : Prop} {u v w : Int} {kvs : List (Key × D)}
instance i_prs0 {QP : List (Key × D) → Sl → Prop} : Stp (wPairs [] ρ QP E) (QP [] ρ) := ⟨fun h => r_prs0 h⟩
end
section
variable {ρ t : Sl} {nx bk ct : Sl → Prop} {rt : O → Sl → Prop} {ex E : Exc → Sl → Prop} {Q : O → Sl → Prop} {QT : Bool → Sl → Prop} {QA : List D → Sl → Prop} {q : O → Prop} {i j : Nat} {as : List Nat} {a b m mb mi mv : WE} {ma mr : WA} {c c2 : WT} {s1 s2 : WS} {x y : D} {xs ys : List D} {o a0 : Option O} {k : Sl → Prop} {A B : Prop} {u v w : Int} {kvs : List (Key × D)}
instance i_kyI {f : Key → Prop} : Stp (KyK (.int u) f) (f (.inl u)) := ⟨fun h => r_kyI h⟩
end
section
variable {ρ t : Sl} {nx bk ct : Sl → Prop} {rt : O → Sl → Prop} {ex E : Exc → Sl → Prop} {Q : O → Sl → Prop} {QT : Bool → Sl → Prop} {QA : List D → Sl → Prop} {q : O → Prop} {i j : Nat} {as : List Nat} {a b m mb mi mv : WE} {ma mr : WA} {c c2 : WT} {s1 s2 : WS} {x y : D} {xs ys : List D} {o a0 : Option O} {k : Sl → Prop} {A B : Prop} {u v w : Int} {kvs : List (Key × D)}
instance i_kyS {s : Str} {f : Key → Prop} : Stp (KyK (.str s) f) (f (.inr s)) := ⟨fun h => r_kyS h⟩
end
section
variable {ρ t : Sl} {nx bk ct : Sl → Prop} {rt : O → Sl → Prop} {ex E : Exc → Sl → Prop} {Q : O → Sl → Prop} {QT : Bool → Sl → Prop} {QA : List D → Sl → Prop} {q : O → Prop} {i j : Nat} {as : List Nat} {a b m mb mi mv : WE} {ma mr : WA} {c c2 : WT} {s1 s2 : WS} {x y : D} {xs ys : List D} {o a0 : Option O} {k : Sl → Prop} {A B : Prop} {u v w : Int} {kvs : List (Key × D)}
instance i_prsS {ps : List (WE × WE)} {QP : List (Key × D) → Sl → Prop} : Stp (wPairs ((mi, mv) :: ps) ρ QP E) (mi ρ (fun o ρ1 => cold o fun kd => KyK kd fun k => mv ρ1 (fun o2 ρ2 => cold o2 fun x => wPairs ps ρ2 (fun kvs ρ3 => QP ((k, x) :: kvs) ρ3) E) E) E) := ⟨fun h => r_prsS h⟩
end
section
variable {ρ t : Sl} {nx bk ct : Sl → Prop} {rt : O → Sl → Prop} {ex E : Exc → Sl → Prop} {Q : O → Sl → Prop} {QT : Bool → Sl → Prop} {QA : List D → Sl → Prop} {q : O → Prop} {i j : Nat} {as : List Nat} {a b m mb mi mv : WE} {ma mr : WA} {c c2 : WT} {s1 s2 : WS} {x y : D} {xs ys : List D} {o a0 : Option O} {k : Sl → Prop} {A B : Prop} {u v w : Int} {kvs : List (Key × D)}
instance i_pb0 {os : Sl} : Stp (PB [] os ρ k) (k ρ) := ⟨fun h => r_pb0 h⟩
end
section
variable {ρ t : Sl} {nx bk ct : Sl → Prop} {rt : O → Sl → Prop} {ex E : Exc → Sl → Prop} {Q : O → Sl → Prop} {QT : Bool → Sl → Prop} {QA : List D → Sl → Prop} {q : O → Prop} {i j : Nat} {as : List Nat} {a b m mb mi mv : WE} {ma mr : WA} {c c2 : WT} {s1 s2 : WS} {x y : D} {xs ys : List D} {o a0 : Option O} {k : Sl → Prop} {A B : Prop} {u v w : Int} {kvs : List (Key × D)}
instance i_pbN {ps : List (Option Nat × O)} {o : O} {os : Sl} : Stp (PB ((none, o) :: ps) (a0 :: os) ρ k) (PB ps os ρ k) := ⟨fun h => r_pbN h⟩
end
section
variable {ρ t : Sl} {nx bk ct : Sl → Prop} {rt : O → Sl → Prop} {ex E : Exc → Sl → Prop} {Q : O → Sl → Prop} {QT : Bool → Sl → Prop} {QA : List D → Sl → Prop} {q : O → Prop} {i j : Nat} {as : List Nat} {a b m mb mi mv : WE} {ma mr : WA} {c c2 : WT} {s1 s2 : WS} {x y : D} {xs ys : List D} {o a0 : Option O} {k : Sl → Prop} {A B : Prop} {u v w : Int} {kvs : List (Key × D)}
instance i_pbD {ps : List (Option Nat × O)} {os : Sl} : Stp (PB ((some i, .d x) :: ps) (a0 :: os) ρ k) (PB ps os ρ k) := ⟨fun h => r_pbD h⟩
end
section
variable {ρ t : Sl} {nx bk ct : Sl → Prop} {rt : O → Sl → Prop} {ex E : Exc → Sl → Prop} {Q : O → Sl → Prop} {QT : Bool → Sl → Prop} {QA : List D → Sl → Prop} {q : O → Prop} {i j : Nat} {as : List Nat} {a b m mb mi mv : WE} {ma mr : WA} {c c2 : WT} {s1 s2 : WS} {x y : D} {xs ys : List D} {o a0 : Option O} {k : Sl → Prop} {A B : Prop} {u v w : Int} {kvs : List (Key × D)}
instance i_pbK {ps : List (Option Nat × O)} {os : Sl} {n : Nat × Addr} : Stp (PB ((some i, .deck n) :: ps) (a0 :: os) ρ k) (Put ρ i a0 fun ρ' => PB ps os ρ' k) := ⟨fun h => r_pbK h⟩
end
section
variable {ρ t : Sl} {nx bk ct : Sl → Prop} {rt : O → Sl → Prop} {ex E : Exc → Sl → Prop} {Q : O → Sl → Prop} {QT : Bool → Sl → Prop} {QA : List D → Sl → Prop} {q : O → Prop} {i j : Nat} {as : List Nat} {a b m mb mi mv : WE} {ma mr : WA} {c c2 : WT} {s1 s2 : WS} {x y : D} {xs ys : List D} {o a0 : Option O} {k : Sl → Prop} {A B : Prop} {u v w : Int} {kvs : List (Key × D)}
instance i_pbL {ps : List (Option Nat × O)} {os : Sl} : Stp (PB ((some i, .lst xs) :: ps) (a0 :: os) ρ k) (Put ρ i a0 fun ρ' => PB ps os ρ' k) := ⟨fun h => r_pbL h⟩
end
section
variable {ρ t : Sl} {nx bk ct : Sl → Prop} {rt : O → Sl → Prop} {ex E : Exc → Sl → Prop} {Q : O → Sl → Prop} {QT : Bool → Sl → Prop} {QA : List D → Sl → Prop} {q : O → Prop} {i j : Nat} {as : List Nat} {a b m mb mi mv : WE} {ma mr : WA} {c c2 : WT} {s1 s2 : WS} {x y : D} {xs ys : List D} {o a0 : Option O} {k : Sl → Prop} {A B : Prop} {u v w : Int} {kvs : List (Key × D)}
instance i_pbKv {ps : List (Option Nat × O)} {os : Sl} : Stp (PB ((some i, .dic kvs) :: ps) (a0 :: os) ρ k) (Put ρ i a0 fun ρ' => PB ps os ρ' k) := ⟨fun h => r_pbKv h⟩
end
section
variable {ρ t : Sl} {nx bk ct : Sl → Prop} {rt : O → Sl → Prop} {ex E : Exc → Sl → Prop} {Q : O → Sl → Prop} {QT : Bool → Sl → Prop} {QA : List D → Sl → Prop} {q : O → Prop} {i j : Nat} {as : List Nat} {a b m mb mi mv : WE} {ma mr : WA} {c c2 : WT} {s1 s2 : WS} {x y : D} {xs ys : List D} {o a0 : Option O} {k : Sl → Prop} {A B : Prop} {u v w : Int} {kvs : List (Key × D)}
instance i_pbA1 {o : O} {os : Sl} : Stp (PB [(none, o)] os ρ k) (k ρ) := ⟨fun h => r_pbA1 h⟩
end
section
variable {ρ t : Sl} {nx bk ct : Sl → Prop} {rt : O → Sl → Prop} {ex E : Exc → Sl → Prop} {Q : O → Sl → Prop} {QT : Bool → Sl → Prop} {QA : List D → Sl → Prop} {q : O → Prop} {i j : Nat} {as : List Nat} {a b m mb mi mv : WE} {ma mr : WA} {c c2 : WT} {s1 s2 : WS} {x y : D} {xs ys : List D} {o a0 : Option O} {k : Sl → Prop} {A B : Prop} {u v w : Int} {kvs : List (Key × D)}
instance i_pbA2 {o o2 : O} {os : Sl} : Stp (PB [(none, o), (none, o2)] os ρ k) (k ρ) := ⟨fun h => r_pbA2 h⟩
end
section
variable {ρ t : Sl} {nx bk ct : Sl → Prop} {rt : O → Sl → Prop} {ex E : Exc → Sl → Prop} {Q : O → Sl → Prop} {QT : Bool → Sl → Prop} {QA : List D → Sl → Prop} {q : O → Prop} {i j : Nat} {as : List Nat} {a b m mb mi mv : WE} {ma mr : WA} {c c2 : WT} {s1 s2 : WS} {x y : D} {xs ys : List D} {o a0 : Option O} {k : Sl → Prop} {A B : Prop} {u v w : Int} {kvs : List (Key × D)}
instance i_pbA3 {o o2 o3 : O} {os : Sl} : Stp (PB [(none, o), (none, o2), (none, o3)] os ρ k) (k ρ) := ⟨fun h => r_pbA3 h⟩
end
section
variable {ρ t : Sl} {nx bk ct : Sl → Prop} {rt : O → Sl → Prop} {ex E : Exc → Sl → Prop} {Q : O → Sl → Prop} {QT : Bool → Sl → Prop} {QA : List D → Sl → Prop} {q : O → Prop} {i j : Nat} {as : List Nat} {a b m mb mi mv : WE} {ma mr : WA} {c c2 : WT} {s1 s2 : WS} {x y : D} {xs ys : List D} {o a0 : Option O} {k : Sl → Prop} {A B : Prop} {u v w : Int} {kvs : List (Key × D)}
instance i_pbA4 {o o2 o3 o4 : O} {os : Sl} : Stp (PB [(none, o), (none, o2), (none, o3), (none, o4)] os ρ k) (k ρ) := ⟨fun h => r_pbA4 h⟩
end
section
variable {ρ t : Sl} {nx bk ct : Sl → Prop} {rt : O → Sl → Prop} {ex E : Exc → Sl → Prop} {Q : O → Sl → Prop} {QT : Bool → Sl → Prop} {QA : List D → Sl → Prop} {q : O → Prop} {i j : Nat} {as : List Nat} {a b m mb mi mv : WE} {ma mr : WA} {c c2 : WT} {s1 s2 : WS} {x y : D} {xs ys : List D} {o a0 : Option O} {k : Sl → Prop} {A B : Prop} {u v w : Int} {kvs : List (Key × D)}
variable {C : Ct} {b0 b1 b2 b3 : Option Nat} {m0 m1 m2 m3 : WE}
instance i_call0  : Stp (wCall C [] [] ρ Q E) (C [] (fun r os' => PB [] os' ρ (Q r)) (fun e os' => PB [] os' ρ (E e))) := ⟨fun h => r_call0 h⟩
end
section
variable {ρ t : Sl} {nx bk ct : Sl → Prop} {rt : O → Sl → Prop} {ex E : Exc → Sl → Prop} {Q : O → Sl → Prop} {QT : Bool → Sl → Prop} {QA : List D → Sl → Prop} {q : O → Prop} {i j : Nat} {as : List Nat} {a b m mb mi mv : WE} {ma mr : WA} {c c2 : WT} {s1 s2 : WS} {x y : D} {xs ys : List D} {o a0 : Option O} {k : Sl → Prop} {A B : Prop} {u v w : Int} {kvs : List (Key × D)}
variable {C : Ct} {b0 b1 b2 b3 : Option Nat} {m0 m1 m2 m3 : WE}
instance i_call1  : Stp (wCall C [0] [(none, m0)] ρ Q E) (m0 ρ (fun o0 ρ1 => C [o0] (fun r os' => PB [(none, o0)] os' ρ1 (Q r)) (fun e os' => PB [(none, o0)] os' ρ1 (E e))) E) := ⟨fun h => r_call1 h⟩
end
section
variable {ρ t : Sl} {nx bk ct : Sl → Prop} {rt : O → Sl → Prop} {ex E : Exc → Sl → Prop} {Q : O → Sl → Prop} {QT : Bool → Sl → Prop} {QA : List D → Sl → Prop} {q : O → Prop} {i j : Nat} {as : List Nat} {a b m mb mi mv : WE} {ma mr : WA} {c c2 : WT} {s1 s2 : WS} {x y : D} {xs ys : List D} {o a0 : Option O} {k : Sl → Prop} {A B : Prop} {u v w : Int} {kvs : List (Key × D)}
variable {C : Ct} {b0 b1 b2 b3 : Option Nat} {m0 m1 m2 m3 : WE}
instance i_call1B  : Stp (wCall C [0] [(some i, m0)] ρ Q E) (HasP ρ i (m0 ρ (fun o0 ρ1 => C [o0] (fun r os' => PB [(some i, o0)] os' ρ1 (Q r)) (fun e os' => PB [(some i, o0)] os' ρ1 (E e))) E)) := ⟨fun h => r_call1B h⟩
end
section
variable {ρ t : Sl} {nx bk ct : Sl → Prop} {rt : O → Sl → Prop} {ex E : Exc → Sl → Prop} {Q : O → Sl → Prop} {QT : Bool → Sl → Prop} {QA : List D → Sl → Prop} {q : O → Prop} {i j : Nat} {as : List Nat} {a b m mb mi mv : WE} {ma mr : WA} {c c2 : WT} {s1 s2 : WS} {x y : D} {xs ys : List D} {o a0 : Option O} {k : Sl → Prop} {A B : Prop} {u v w : Int} {kvs : List (Key × D)}
variable {C : Ct} {b0 b1 b2 b3 : Option Nat} {m0 m1 m2 m3 : WE}
instance i_call2  : Stp (wCall C [0, 1] [(none, m0), (none, m1)] ρ Q E) (m0 ρ (fun o0 ρ1 => m1 ρ1 (fun o1 ρ2 => C [o0, o1] (fun r os' => PB [(none, o0), (none, o1)] os' ρ2 (Q r)) (fun e os' => PB [(none, o0), (none, o1)] os' ρ2 (E e))) E) E) := ⟨fun h => r_call2 h⟩
end
section
variable {ρ t : Sl} {nx bk ct : Sl → Prop} {rt : O → Sl → Prop} {ex E : Exc → Sl → Prop} {Q : O → Sl → Prop} {QT : Bool → Sl → Prop} {QA : List D → Sl → Prop} {q : O → Prop} {i j : Nat} {as : List Nat} {a b m mb mi mv : WE} {ma mr : WA} {c c2 : WT} {s1 s2 : WS} {x y : D} {xs ys : List D} {o a0 : Option O} {k : Sl → Prop} {A B : Prop} {u v w : Int} {kvs : List (Key × D)}
variable {C : Ct} {b0 b1 b2 b3 : Option Nat} {m0 m1 m2 m3 : WE}
instance i_call2B  : Stp (wCall C [0, 1] [(some i, m0), (none, m1)] ρ Q E) (HasP ρ i (m1 ρ (fun o1 ρ1 => m0 ρ1 (fun o0 ρ2 => C [o0, o1] (fun r os' => PB [(some i, o0), (none, o1)] os' ρ2 (Q r)) (fun e os' => PB [(some i, o0), (none, o1)] os' ρ2 (E e))) E) E)) := ⟨fun h => r_call2B h⟩
end
section
variable {ρ t : Sl} {nx bk ct : Sl → Prop} {rt : O → Sl → Prop} {ex E : Exc → Sl → Prop} {Q : O → Sl → Prop} {QT : Bool → Sl → Prop} {QA : List D → Sl → Prop} {q : O → Prop} {i j : Nat} {as : List Nat} {a b m mb mi mv : WE} {ma mr : WA} {c c2 : WT} {s1 s2 : WS} {x y : D} {xs ys : List D} {o a0 : Option O} {k : Sl → Prop} {A B : Prop} {u v w : Int} {kvs : List (Key × D)}
variable {C : Ct} {b0 b1 b2 b3 : Option Nat} {m0 m1 m2 m3 : WE}
instance i_call3  : Stp (wCall C [0, 1, 2] [(none, m0), (none, m1), (none, m2)] ρ Q E) (m0 ρ (fun o0 ρ1 => m1 ρ1 (fun o1 ρ2 => m2 ρ2 (fun o2 ρ3 => C [o0, o1, o2] (fun r os' => PB [(none, o0), (none, o1), (none, o2)] os' ρ3 (Q r)) (fun e os' => PB [(none, o0), (none, o1), (none, o2)] os' ρ3 (E e))) E) E) E) := ⟨fun h => r_call3 h⟩
end
section
variable {ρ t : Sl} {nx bk ct : Sl → Prop} {rt : O → Sl → Prop} {ex E : Exc → Sl → Prop} {Q : O → Sl → Prop} {QT : Bool → Sl → Prop} {QA : List D → Sl → Prop} {q : O → Prop} {i j : Nat} {as : List Nat} {a b m mb mi mv : WE} {ma mr : WA} {c c2 : WT} {s1 s2 : WS} {x y : D} {xs ys : List D} {o a0 : Option O} {k : Sl → Prop} {A B : Prop} {u v w : Int} {kvs : List (Key × D)}
variable {C : Ct} {b0 b1 b2 b3 : Option Nat} {m0 m1 m2 m3 : WE}
instance i_call3B  : Stp (wCall C [0, 1, 2] [(some i, m0), (none, m1), (none, m2)] ρ Q E) (HasP ρ i (m1 ρ (fun o1 ρ1 => m2 ρ1 (fun o2 ρ2 => m0 ρ2 (fun o0 ρ3 => C [o0, o1, o2] (fun r os' => PB [(some i, o0), (none, o1), (none, o2)] os' ρ3 (Q r)) (fun e os' => PB [(some i, o0), (none, o1), (none, o2)] os' ρ3 (E e))) E) E) E)) := ⟨fun h => r_call3B h⟩
end
section
variable {ρ t : Sl} {nx bk ct : Sl → Prop} {rt : O → Sl → Prop} {ex E : Exc → Sl → Prop} {Q : O → Sl → Prop} {QT : Bool → Sl → Prop} {QA : List D → Sl → Prop} {q : O → Prop} {i j : Nat} {as : List Nat} {a b m mb mi mv : WE} {ma mr : WA} {c c2 : WT} {s1 s2 : WS} {x y : D} {xs ys : List D} {o a0 : Option O} {k : Sl → Prop} {A B : Prop} {u v w : Int} {kvs : List (Key × D)}
variable {C : Ct} {b0 b1 b2 b3 : Option Nat} {m0 m1 m2 m3 : WE}
instance i_call4  : Stp (wCall C [0, 1, 2, 3] [(none, m0), (none, m1), (none, m2), (none, m3)] ρ Q E) (m0 ρ (fun o0 ρ1 => m1 ρ1 (fun o1 ρ2 => m2 ρ2 (fun o2 ρ3 => m3 ρ3 (fun o3 ρ4 => C [o0, o1, o2, o3] (fun r os' => PB [(none, o0), (none, o1), (none, o2), (none, o3)] os' ρ4 (Q r)) (fun e os' => PB [(none, o0), (none, o1), (none, o2), (none, o3)] os' ρ4 (E e))) E) E) E) E) := ⟨fun h => r_call4 h⟩
end
section
variable {ρ t : Sl} {nx bk ct : Sl → Prop} {rt : O → Sl → Prop} {ex E : Exc → Sl → Prop} {Q : O → Sl → Prop} {QT : Bool → Sl → Prop} {QA : List D → Sl → Prop} {q : O → Prop} {i j : Nat} {as : List Nat} {a b m mb mi mv : WE} {ma mr : WA} {c c2 : WT} {s1 s2 : WS} {x y : D} {xs ys : List D} {o a0 : Option O} {k : Sl → Prop} {A B : Prop} {u v w : Int} {kvs : List (Key × D)}
variable {C : Ct} {b0 b1 b2 b3 : Option Nat} {m0 m1 m2 m3 : WE}
instance i_make3 {f : Str} : Stp (wMake f C [0, 1, 2] [(none, m0), (none, m1), (none, m2)] ρ Q E) (m0 ρ (fun o0 ρ1 => m1 ρ1 (fun o1 ρ2 => m2 ρ2 (fun o2 ρ3 => C [.ins f [], o0, o1, o2] (fun r os' => r = .d .non ∧ ∃ o os'', os' = some o :: os'' ∧ PB [(none, o0), (none, o1), (none, o2)] os'' ρ3 (Q o)) (fun e os' => ∃ o os'', os' = o :: os'' ∧ PB [(none, o0), (none, o1), (none, o2)] os'' ρ3 (E e))) E) E) E) := ⟨fun h => r_make3 h⟩
end
section
variable {ρ t : Sl} {nx bk ct : Sl → Prop} {rt : O → Sl → Prop} {ex E : Exc → Sl → Prop} {Q : O → Sl → Prop} {QT : Bool → Sl → Prop} {QA : List D → Sl → Prop} {q : O → Prop} {i j : Nat} {as : List Nat} {a b m mb mi mv : WE} {ma mr : WA} {c c2 : WT} {s1 s2 : WS} {x y : D} {xs ys : List D} {o a0 : Option O} {k : Sl → Prop} {A B : Prop} {u v w : Int} {kvs : List (Key × D)}
variable {C : Ct} {b0 b1 b2 b3 : Option Nat} {m0 m1 m2 m3 : WE}
instance i_po0  : Stp (PO ρ [] [] as k) (k ρ) := ⟨fun h => r_po0 h⟩
end
section
variable {ρ t : Sl} {nx bk ct : Sl → Prop} {rt : O → Sl → Prop} {ex E : Exc → Sl → Prop} {Q : O → Sl → Prop} {QT : Bool → Sl → Prop} {QA : List D → Sl → Prop} {q : O → Prop} {i j : Nat} {as : List Nat} {a b m mb mi mv : WE} {ma mr : WA} {c c2 : WT} {s1 s2 : WS} {x y : D} {xs ys : List D} {o a0 : Option O} {k : Sl → Prop} {A B : Prop} {u v w : Int} {kvs : List (Key × D)}
variable {C : Ct} {b0 b1 b2 b3 : Option Nat} {m0 m1 m2 m3 : WE}
instance i_par {is : List Nat} {l : Args} : Stp (wPar as is l ρ ⟨nx, rt, bk, ct, ex⟩) (wAO l ρ (fun os ρ1 => PO ρ1 is os as nx) ex) := ⟨fun h => r_par h⟩
end
section
variable {ρ t : Sl} {nx bk ct : Sl → Prop} {rt : O → Sl → Prop} {ex E : Exc → Sl → Prop} {Q : O → Sl → Prop} {QT : Bool → Sl → Prop} {QA : List D → Sl → Prop} {q : O → Prop} {i j : Nat} {as : List Nat} {a b m mb mi mv : WE} {ma mr : WA} {c c2 : WT} {s1 s2 : WS} {x y : D} {xs ys : List D} {o a0 : Option O} {k : Sl → Prop} {A B : Prop} {u v w : Int} {kvs : List (Key × D)}
variable {C : Ct} {b0 b1 b2 b3 : Option Nat} {m0 m1 m2 m3 : WE}
instance i_ao0 {QO : List O → Sl → Prop} : Stp (wAO [] ρ QO E) (QO [] ρ) := ⟨fun h => r_ao0 h⟩
end
section
variable {ρ t : Sl} {nx bk ct : Sl → Prop} {rt : O → Sl → Prop} {ex E : Exc → Sl → Prop} {Q : O → Sl → Prop} {QT : Bool → Sl → Prop} {QA : List D → Sl → Prop} {q : O → Prop} {i j : Nat} {as : List Nat} {a b m mb mi mv : WE} {ma mr : WA} {c c2 : WT} {s1 s2 : WS} {x y : D} {xs ys : List D} {o a0 : Option O} {k : Sl → Prop} {A B : Prop} {u v w : Int} {kvs : List (Key × D)}
variable {C : Ct} {b0 b1 b2 b3 : Option Nat} {m0 m1 m2 m3 : WE}
instance i_aoS {QO : List O → Sl → Prop} {l : Args} : Stp (wAO ((none, m) :: l) ρ QO E) (m ρ (fun o ρ1 => wAO l ρ1 (fun os ρ2 => QO (o :: os) ρ2) E) E) := ⟨fun h => r_aoS h⟩
end
section
variable {ρ t : Sl} {nx bk ct : Sl → Prop} {rt : O → Sl → Prop} {ex E : Exc → Sl → Prop} {Q : O → Sl → Prop} {QT : Bool → Sl → Prop} {QA : List D → Sl → Prop} {q : O → Prop} {i j : Nat} {as : List Nat} {a b m mb mi mv : WE} {ma mr : WA} {c c2 : WT} {s1 s2 : WS} {x y : D} {xs ys : List D} {o a0 : Option O} {k : Sl → Prop} {A B : Prop} {u v w : Int} {kvs : List (Key × D)}
variable {C : Ct} {b0 b1 b2 b3 : Option Nat} {m0 m1 m2 m3 : WE}
instance i_asDk {f : Nat × Addr → Prop} {n : Nat × Addr} : Stp (AsDk (.deck n) f) (f n) := ⟨fun h => r_asDk h⟩
end
section
variable {ρ t : Sl} {nx bk ct : Sl → Prop} {rt : O → Sl → Prop} {ex E : Exc → Sl → Prop} {Q : O → Sl → Prop} {QT : Bool → Sl → Prop} {QA : List D → Sl → Prop} {q : O → Prop} {i j : Nat} {as : List Nat} {a b m mb mi mv : WE} {ma mr : WA} {c c2 : WT} {s1 s2 : WS} {x y : D} {xs ys : List D} {o a0 : Option O} {k : Sl → Prop} {A B : Prop} {u v w : Int} {kvs : List (Key × D)}
variable {C : Ct} {b0 b1 b2 b3 : Option Nat} {m0 m1 m2 m3 : WE}
instance i_dkI  : Stp (wDkI i ρ Q E) (Get ρ i fun o => AsDk o fun _ => ∀ z : Int, Q (.d (.int z)) ρ) := ⟨fun h => r_dkI h⟩
end
section
variable {ρ t : Sl} {nx bk ct : Sl → Prop} {rt : O → Sl → Prop} {ex E : Exc → Sl → Prop} {Q : O → Sl → Prop} {QT : Bool → Sl → Prop} {QA : List D → Sl → Prop} {q : O → Prop} {i j : Nat} {as : List Nat} {a b m mb mi mv : WE} {ma mr : WA} {c c2 : WT} {s1 s2 : WS} {x y : D} {xs ys : List D} {o a0 : Option O} {k : Sl → Prop} {A B : Prop} {u v w : Int} {kvs : List (Key × D)}
variable {C : Ct} {b0 b1 b2 b3 : Option Nat} {m0 m1 m2 m3 : WE}
instance i_hasDk {P : Prop} : Stp (HasDk ρ i P) (Get ρ i fun o => AsDk o fun _ => P) := ⟨fun h => r_hasDk h⟩
end
section
variable {ρ t : Sl} {nx bk ct : Sl → Prop} {rt : O → Sl → Prop} {ex E : Exc → Sl → Prop} {Q : O → Sl → Prop} {QT : Bool → Sl → Prop} {QA : List D → Sl → Prop} {q : O → Prop} {i j : Nat} {as : List Nat} {a b m mb mi mv : WE} {ma mr : WA} {c c2 : WT} {s1 s2 : WS} {x y : D} {xs ys : List D} {o a0 : Option O} {k : Sl → Prop} {A B : Prop} {u v w : Int} {kvs : List (Key × D)}
variable {C : Ct} {b0 b1 b2 b3 : Option Nat} {m0 m1 m2 m3 : WE}
instance i_dkS  : Stp (wDkS i m ρ ⟨nx, rt, bk, ct, ex⟩) (m ρ (fun o ρ1 => AsI o fun _ => HasDk ρ1 i (nx ρ1)) ex) := ⟨fun h => r_dkS h⟩
end
section
variable {ρ t : Sl} {nx bk ct : Sl → Prop} {rt : O → Sl → Prop} {ex E : Exc → Sl → Prop} {Q : O → Sl → Prop} {QT : Bool → Sl → Prop} {QA : List D → Sl → Prop} {q : O → Prop} {i j : Nat} {as : List Nat} {a b m mb mi mv : WE} {ma mr : WA} {c c2 : WT} {s1 s2 : WS} {x y : D} {xs ys : List D} {o a0 : Option O} {k : Sl → Prop} {A B : Prop} {u v w : Int} {kvs : List (Key × D)}
variable {C : Ct} {b0 b1 b2 b3 : Option Nat} {m0 m1 m2 m3 : WE}
instance i_dkA {n : Nat × Addr} : Stp (DkA n i ρ k) (Get ρ i fun o => AsDk o fun n1 => n1.2 = n.2 ∧ n1.1 < 16777216 ∧ Put ρ i (some (.deck (n1.1 + 1, n1.2))) k) := ⟨fun h => r_dkA h⟩
end
section
variable {ρ t : Sl} {nx bk ct : Sl → Prop} {rt : O → Sl → Prop} {ex E : Exc → Sl → Prop} {Q : O → Sl → Prop} {QT : Bool → Sl → Prop} {QA : List D → Sl → Prop} {q : O → Prop} {i j : Nat} {as : List Nat} {a b m mb mi mv : WE} {ma mr : WA} {c c2 : WT} {s1 s2 : WS} {x y : D} {xs ys : List D} {o a0 : Option O} {k : Sl → Prop} {A B : Prop} {u v w : Int} {kvs : List (Key × D)}
variable {C : Ct} {b0 b1 b2 b3 : Option Nat} {m0 m1 m2 m3 : WE}
instance i_dkApp  : Stp (wDkApp i mv ρ Q E) (Get ρ i fun o => AsDk o fun n => mv ρ (fun o ρ1 => AsI o fun _ => DkA n i ρ1 fun ρ2 => Q (.d .non) ρ2) E) := ⟨fun h => r_dkApp h⟩
end
section
variable {ρ t : Sl} {nx bk ct : Sl → Prop} {rt : O → Sl → Prop} {ex E : Exc → Sl → Prop} {Q : O → Sl → Prop} {QT : Bool → Sl → Prop} {QA : List D → Sl → Prop} {q : O → Prop} {i j : Nat} {as : List Nat} {a b m mb mi mv : WE} {ma mr : WA} {c c2 : WT} {s1 s2 : WS} {x y : D} {xs ys : List D} {o a0 : Option O} {k : Sl → Prop} {A B : Prop} {u v w : Int} {kvs : List (Key × D)}
variable {C : Ct} {b0 b1 b2 b3 : Option Nat} {m0 m1 m2 m3 : WE}
instance i_toI {f : List Int → Prop} {ns : List Int} : Stp (ToI (.lst (ns.map D.int)) f) (f ns) := ⟨fun h => r_toI h⟩
end
section
variable {ρ t : Sl} {nx bk ct : Sl → Prop} {rt : O → Sl → Prop} {ex E : Exc → Sl → Prop} {Q : O → Sl → Prop} {QT : Bool → Sl → Prop} {QA : List D → Sl → Prop} {q : O → Prop} {i j : Nat} {as : List Nat} {a b m mb mi mv : WE} {ma mr : WA} {c c2 : WT} {s1 s2 : WS} {x y : D} {xs ys : List D} {o a0 : Option O} {k : Sl → Prop} {A B : Prop} {u v w : Int} {kvs : List (Key × D)}
variable {C : Ct} {b0 b1 b2 b3 : Option Nat} {m0 m1 m2 m3 : WE}
instance i_dkNew  : Stp (wDkNew m0 m1 m2 ρ Q E) (m0 ρ (fun o ρ1 => ToI o fun ns => m1 ρ1 (fun o ρ2 => AsI o fun _ => m2 ρ2 (fun o ρ3 => AsI o fun _ => ∀ a : Addr, Q (.deck (ns.length, a)) ρ3) E) E) E) := ⟨fun h => r_dkNew h⟩
end
section
variable {ρ t : Sl} {nx bk ct : Sl → Prop} {rt : O → Sl → Prop} {ex E : Exc → Sl → Prop} {Q : O → Sl → Prop} {QT : Bool → Sl → Prop} {QA : List D → Sl → Prop} {q : O → Prop} {i j : Nat} {as : List Nat} {a b m mb mi mv : WE} {ma mr : WA} {c c2 : WT} {s1 s2 : WS} {x y : D} {xs ys : List D} {o a0 : Option O} {k : Sl → Prop} {A B : Prop} {u v w : Int} {kvs : List (Key × D)}
variable {C : Ct} {b0 b1 b2 b3 : Option Nat} {m0 m1 m2 m3 : WE}
instance i_dkE  : Stp (wDkE i ρ Q E) (Get ρ i fun o => AsDk o fun n => Q (.d (.bl (n.1 != 0))) ρ) := ⟨fun h => r_dkE h⟩
end
section
variable {ρ t : Sl} {nx bk ct : Sl → Prop} {rt : O → Sl → Prop} {ex E : Exc → Sl → Prop} {Q : O → Sl → Prop} {QT : Bool → Sl → Prop} {QA : List D → Sl → Prop} {q : O → Prop} {i j : Nat} {as : List Nat} {a b m mb mi mv : WE} {ma mr : WA} {c c2 : WT} {s1 s2 : WS} {x y : D} {xs ys : List D} {o a0 : Option O} {k : Sl → Prop} {A B : Prop} {u v w : Int} {kvs : List (Key × D)}
variable {C : Ct} {b0 b1 b2 b3 : Option Nat} {m0 m1 m2 m3 : WE}
instance i_dkPop  : Stp (wDkPop i ρ Q E) (Get ρ i fun o => AsDk o fun n => 0 < n.1 ∧ ∀ z : Int, Put ρ i (some (.deck (n.1 - 1, n.2))) fun ρ' => Q (.d (.int z)) ρ') := ⟨fun h => r_dkPop h⟩
end
section
variable {ρ t : Sl} {nx bk ct : Sl → Prop} {rt : O → Sl → Prop} {ex E : Exc → Sl → Prop} {Q : O → Sl → Prop} {QT : Bool → Sl → Prop} {QA : List D → Sl → Prop} {q : O → Prop} {i j : Nat} {as : List Nat} {a b m mb mi mv : WE} {ma mr : WA} {c c2 : WT} {s1 s2 : WS} {x y : D} {xs ys : List D} {o a0 : Option O} {k : Sl → Prop} {A B : Prop} {u v w : Int} {kvs : List (Key × D)}
variable {C : Ct} {b0 b1 b2 b3 : Option Nat} {m0 m1 m2 m3 : WE}
instance i_try {sub : Str → Str → Option Bool} {cs : List Cld} : Stp (wTry sub s1 cs ρ ⟨nx, rt, bk, ct, ex⟩) (s1 ρ ⟨nx, rt, bk, ct, fun e ρ1 => tryGo sub cs e ρ1 ⟨nx, rt, bk, ct, ex⟩⟩) := ⟨fun h => r_try h⟩
end
section
variable {ρ : Sl} {nx bk ct : Sl → Prop} {rt : O → Sl → Prop} {ex E : Exc → Sl → Prop} {Q : O → Sl → Prop} {mv : WE} {i : Nat} {k : Sl → Prop} {f : Str} {y : D} {ok : Str → Str → Bool}
instance i_appX  : Stp (AppX ρ i y k) (Get ρ i fun o => AsL o fun xs => xs.length < 16777216 ∧ Put ρ i (some (.lst (xs ++ [y]))) k) := ⟨fun h => r_appX h⟩
end
section
variable {ρ : Sl} {nx bk ct : Sl → Prop} {rt : O → Sl → Prop} {ex E : Exc → Sl → Prop} {Q : O → Sl → Prop} {mv : WE} {i : Nat} {k : Sl → Prop} {f : Str} {y : D} {ok : Str → Str → Bool}
instance i_hasL {P : Prop} : Stp (HasL ρ i P) (Get ρ i fun o => AsL o fun _ => P) := ⟨fun h => r_hasL h⟩
end
section
variable {ρ : Sl} {nx bk ct : Sl → Prop} {rt : O → Sl → Prop} {ex E : Exc → Sl → Prop} {Q : O → Sl → Prop} {mv : WE} {i : Nat} {k : Sl → Prop} {f : Str} {y : D} {ok : Str → Str → Bool}
instance i_app  : Stp (wApp i mv ρ Q E) (HasL ρ i (mv ρ (fun o ρ1 => cold o fun y => AppX ρ1 i y fun ρ2 => Q (.d .non) ρ2) E)) := ⟨fun h => r_app h⟩
end
section
variable {ρ : Sl} {nx bk ct : Sl → Prop} {rt : O → Sl → Prop} {ex E : Exc → Sl → Prop} {Q : O → Sl → Prop} {mv : WE} {i : Nat} {k : Sl → Prop} {f : Str} {y : D} {ok : Str → Str → Bool}
instance i_asLD {xs : List D} {f : List D → Prop} : Stp (AsLD (.lst xs) f) (f xs) := ⟨fun h => r_asLD h⟩
end
section
variable {ρ : Sl} {nx bk ct : Sl → Prop} {rt : O → Sl → Prop} {ex E : Exc → Sl → Prop} {Q : O → Sl → Prop} {mv : WE} {i : Nat} {k : Sl → Prop} {f : Str} {y : D} {ok : Str → Str → Bool}
instance i_extX {ys : List D} : Stp (ExtX ρ i ys k) (Get ρ i fun o => AsL o fun xs => xs.length + ys.length ≤ 16777216 ∧ Put ρ i (some (.lst (xs ++ ys))) k) := ⟨fun h => r_extX h⟩
end
section
variable {ρ : Sl} {nx bk ct : Sl → Prop} {rt : O → Sl → Prop} {ex E : Exc → Sl → Prop} {Q : O → Sl → Prop} {mv : WE} {i : Nat} {k : Sl → Prop} {f : Str} {y : D} {ok : Str → Str → Bool}
instance i_ext  : Stp (wExt i mv ρ Q E) (HasL ρ i (mv ρ (fun o ρ1 => cold o fun y => AsLD y fun ys => ExtX ρ1 i ys fun ρ2 => Q (.d .non) ρ2) E)) := ⟨fun h => r_ext h⟩
end
section
variable {ρ : Sl} {nx bk ct : Sl → Prop} {rt : O → Sl → Prop} {ex E : Exc → Sl → Prop} {Q : O → Sl → Prop} {mv : WE} {i : Nat} {k : Sl → Prop} {f : Str} {y : D} {ok : Str → Str → Bool}
instance i_asN {c : Str} {fs : List (Str × D)} {F : Str → List (Str × D) → Prop} : Stp (AsN (.ins c fs) F) (F c fs) := ⟨fun h => r_asN h⟩
end
section
variable {ρ : Sl} {nx bk ct : Sl → Prop} {rt : O → Sl → Prop} {ex E : Exc → Sl → Prop} {Q : O → Sl → Prop} {mv : WE} {i : Nat} {k : Sl → Prop} {f : Str} {y : D} {ok : Str → Str → Bool}
instance i_fldS  : Stp (wFldS ok i f mv ρ ⟨nx, rt, bk, ct, ex⟩) (mv ρ (fun o ρ1 => cold o fun y => FsX ok i f y ρ1 nx) ex) := ⟨fun h => r_fldS h⟩
end
section
variable {ρ : Sl} {nx bk ct : Sl → Prop} {rt : O → Sl → Prop} {ex E : Exc → Sl → Prop} {Q : O → Sl → Prop} {mv : WE} {i : Nat} {k : Sl → Prop} {f : Str} {y : D} {ok : Str → Str → Bool}
instance i_fsX  : Stp (FsX ok i f y ρ k) (Get ρ i fun o => AsN o fun c fs => ok c f = true ∧ fs.length < 1000 ∧ Put ρ i (some (.ins c (putFD f y fs))) k) := ⟨fun h => r_fsX h⟩
end
section
variable {q : O → Prop} {u : Int} {s : Str} {z : Bool} {xs : List D} {kvs : List (Key × D)} {c : Str} {fs : List (Str × D)}
instance i_is1N  : Stp (mIs true .non .non q) (q (.d (.bl false))) := ⟨fun h => r_is1N h⟩
end
section
variable {q : O → Prop} {u : Int} {s : Str} {z : Bool} {xs : List D} {kvs : List (Key × D)} {c : Str} {fs : List (Str × D)}
instance i_is0N  : Stp (mIs false .non .non q) (q (.d (.bl true))) := ⟨fun h => r_is0N h⟩
end
section
variable {q : O → Prop} {u : Int} {s : Str} {z : Bool} {xs : List D} {kvs : List (Key × D)} {c : Str} {fs : List (Str × D)}
instance i_is1I  : Stp (mIs true (.int u) .non q) (q (.d (.bl true))) := ⟨fun h => r_is1I h⟩
end
section
variable {q : O → Prop} {u : Int} {s : Str} {z : Bool} {xs : List D} {kvs : List (Key × D)} {c : Str} {fs : List (Str × D)}
instance i_is0I  : Stp (mIs false (.int u) .non q) (q (.d (.bl false))) := ⟨fun h => r_is0I h⟩
end
section
variable {q : O → Prop} {u : Int} {s : Str} {z : Bool} {xs : List D} {kvs : List (Key × D)} {c : Str} {fs : List (Str × D)}
instance i_is1S  : Stp (mIs true (.str s) .non q) (q (.d (.bl true))) := ⟨fun h => r_is1S h⟩
end
section
variable {q : O → Prop} {u : Int} {s : Str} {z : Bool} {xs : List D} {kvs : List (Key × D)} {c : Str} {fs : List (Str × D)}
instance i_is0S  : Stp (mIs false (.str s) .non q) (q (.d (.bl false))) := ⟨fun h => r_is0S h⟩
end
section
variable {q : O → Prop} {u : Int} {s : Str} {z : Bool} {xs : List D} {kvs : List (Key × D)} {c : Str} {fs : List (Str × D)}
instance i_is1B  : Stp (mIs true (.bl z) .non q) (q (.d (.bl true))) := ⟨fun h => r_is1B h⟩
end
section
variable {q : O → Prop} {u : Int} {s : Str} {z : Bool} {xs : List D} {kvs : List (Key × D)} {c : Str} {fs : List (Str × D)}
instance i_is0B  : Stp (mIs false (.bl z) .non q) (q (.d (.bl false))) := ⟨fun h => r_is0B h⟩
end
section
variable {q : O → Prop} {u : Int} {s : Str} {z : Bool} {xs : List D} {kvs : List (Key × D)} {c : Str} {fs : List (Str × D)}
instance i_is1T  : Stp (mIs true (.tup xs) .non q) (q (.d (.bl true))) := ⟨fun h => r_is1T h⟩
end
section
variable {q : O → Prop} {u : Int} {s : Str} {z : Bool} {xs : List D} {kvs : List (Key × D)} {c : Str} {fs : List (Str × D)}
instance i_is0T  : Stp (mIs false (.tup xs) .non q) (q (.d (.bl false))) := ⟨fun h => r_is0T h⟩
end
section
variable {q : O → Prop} {u : Int} {s : Str} {z : Bool} {xs : List D} {kvs : List (Key × D)} {c : Str} {fs : List (Str × D)}
instance i_is1L  : Stp (mIs true (.lst xs) .non q) (q (.d (.bl true))) := ⟨fun h => r_is1L h⟩
end
section
variable {q : O → Prop} {u : Int} {s : Str} {z : Bool} {xs : List D} {kvs : List (Key × D)} {c : Str} {fs : List (Str × D)}
instance i_is0L  : Stp (mIs false (.lst xs) .non q) (q (.d (.bl false))) := ⟨fun h => r_is0L h⟩
end
section
variable {q : O → Prop} {u : Int} {s : Str} {z : Bool} {xs : List D} {kvs : List (Key × D)} {c : Str} {fs : List (Str × D)}
instance i_is1K  : Stp (mIs true (.dic kvs) .non q) (q (.d (.bl true))) := ⟨fun h => r_is1K h⟩
end
section
variable {q : O → Prop} {u : Int} {s : Str} {z : Bool} {xs : List D} {kvs : List (Key × D)} {c : Str} {fs : List (Str × D)}
instance i_is0K  : Stp (mIs false (.dic kvs) .non q) (q (.d (.bl false))) := ⟨fun h => r_is0K h⟩
end
section
variable {q : O → Prop} {u : Int} {s : Str} {z : Bool} {xs : List D} {kvs : List (Key × D)} {c : Str} {fs : List (Str × D)}
instance i_is1O  : Stp (mIs true (.ins c fs) .non q) (q (.d (.bl true))) := ⟨fun h => r_is1O h⟩
end
section
variable {q : O → Prop} {u : Int} {s : Str} {z : Bool} {xs : List D} {kvs : List (Key × D)} {c : Str} {fs : List (Str × D)}
instance i_is0O  : Stp (mIs false (.ins c fs) .non q) (q (.d (.bl false))) := ⟨fun h => r_is0O h⟩
end
end Pv

set_option Elab.async false
set_option maxRecDepth 100000
set_option maxHeartbeats 4000000
set_option autoImplicit false
set_option linter.unusedVariables false
namespace Pv
open PySem L2
local macro_rules | `(tactic| walk_at "wpow") => `(tactic| (simp only [Int.reduceToNat, Int.reducePow]; rfl))
local macro_rules | `(tactic| walk_at "wx") => `(tactic| first | rfl | assumption | with_unfolding_all rfl)
local macro_rules | `(tactic| walk_at "wd") => `(tactic| first | with_reducible rfl | assumption | omega | decide | (refine cdivw_small ?_ ?_ <;> omega) | (refine cdivw_small ?_ ?_ <;> split <;> omega) | (refine cpow_small ?_ ?_ ?_ ?_ <;> omega) | (refine cmul_r ?_ ?_ <;> omega) | (refine cmul_l ?_ ?_ <;> omega) | (simp only [List.length_cons, List.length_nil, List.length_append, List.length_reverse, List.length_map, flat_len, Int.reduceToNat]; omega) | (simp only [sizeLine, List.length_cons, List.length_nil, List.length_append, List.length_reverse, List.length_map, flat_len, Int.reduceToNat]; omega))
local macro_rules | `(tactic| walk_at "w1") => `(tactic| (with_reducible first | refine r_seq ?_ | refine r_bin ?_ | refine r_k ?_ | refine r_var ?_ | refine r_g0 ?_ | refine r_gS ?_ | refine r_vkD ?_ | refine r_cD ?_ | refine r_p0 ?_ | refine r_pS ?_ | refine r_cons ?_ | refine r_nil ?_ | refine r_next ?_ | refine r_ret ?_ | refine r_drop ?_ | refine r_ifS ?_ | refine r_bool ?_ | refine r_tru ?_ | refine r_asI ?_ | refine r_asB ?_ | refine r_andT ?_ | refine r_orT ?_ | refine r_notT ?_ | refine r_yes ?_ | refine r_if ?_ | refine r_andV ?_ | refine r_orV ?_ | refine r_notV ?_ | refine r_trN ?_ | refine r_trB ?_ | refine r_trI ?_ | refine r_trT ?_ | refine r_trL ?_ | refine r_iT ?_ | refine r_iF ?_ | refine r_iN ?_ | refine r_in0 ?_ | refine r_in1 ?_ | refine r_cL ?_ | refine r_cK ?_ | refine r_cI ?_ | refine r_vkL ?_ | refine r_vkK ?_ | refine r_vkI ?_ | refine r_move ?_ | refine r_mvDk ?_ | refine r_mvD ?_ | refine r_mvL ?_ | refine r_mvK ?_ | refine r_mvI ?_ | refine r_mI0 ?_ | refine r_adI ?_ | refine r_eqI ?_ | refine r_eqS ?_ | refine r_eqB ?_ | refine r_eqL0 ?_ | refine r_eqT0 ?_ | refine r_eqTT ?_ | refine r_eqLL ?_ | refine r_is1N ?_ | refine r_is0N ?_ | refine r_is1I ?_ | refine r_is0I ?_ | refine r_is1S ?_ | refine r_is0S ?_ | refine r_is1B ?_ | refine r_is0B ?_ | refine r_is1T ?_ | refine r_is0T ?_ | refine r_is1L ?_ | refine r_is0L ?_ | refine r_is1K ?_ | refine r_is0K ?_ | refine r_is1O ?_ | refine r_is0O ?_ | refine r_is ?_ | refine r_chK ?_ | refine r_chain ?_ | refine r_neg ?_ | refine r_tup ?_ | refine r_lst ?_ | refine r_cb ?_ | refine r_mint ?_ | refine r_mintB ?_ | refine r_mabs ?_ | refine r_mmax ?_ | refine r_mmin ?_ | refine r_mlL ?_ | refine r_mlT ?_ | refine r_mlS ?_ | refine r_mtL ?_ | refine r_mtT ?_ | refine r_tuple ?_ | refine r_rev ?_ | refine r_mrL ?_ | refine r_mrT ?_ | refine r_mrS ?_ | refine r_foldB ?_ | refine r_mlenL ?_ | refine r_mlenT ?_ | refine r_isiX ?_ | refine r_axL ?_ | refine r_axK ?_ | refine r_axDL ?_ | refine r_axDT ?_ | refine r_axDS ?_ | refine r_axDK ?_ | refine r_ixA ?_ | refine r_gv ?_ | refine r_part0 ?_ | refine r_part1 ?_ | refine r_slL ?_ | refine r_slT ?_ | refine r_slS ?_ | refine r_eqVX ?_ | refine r_ekI ?_ | refine r_ekT ?_ | refine r_ekS ?_ | refine r_ekB ?_ | refine r_ekN ?_ | refine r_ekL ?_ | refine r_ekOL ?_ | refine r_ekO ?_ | refine r_ekDO ?_ | refine r_lenV ?_ | refine r_lnT ?_ | refine r_lnL ?_ | refine r_lnK ?_ | refine r_lnS ?_ | refine r_for ?_ | refine r_itr ?_ | refine r_sqL ?_ | refine r_sqT ?_ | refine r_sqS ?_ | refine r_rng1 ?_ | refine r_rng2 ?_ | refine r_itrE ?_ | refine r_en1 ?_ | refine r_itrZ ?_ | refine r_zp1 ?_ | refine r_asK ?_ | refine r_setA ?_ | refine r_setL ?_ | refine r_setX ?_ | refine r_putV ?_ | refine r_putX ?_ | refine r_srtA ?_ | refine r_dispN ?_ | refine r_disp ?_ | refine r_prs0 ?_ | refine r_prsS ?_ | refine r_kyI ?_ | refine r_kyS ?_ | refine r_wp0 ?_ | refine r_wpS ?_ | refine r_lc ?_ | refine r_asL ?_ | refine r_pop ?_ | refine r_pb0 ?_ | refine r_pbA1 ?_ | refine r_pbA2 ?_ | refine r_pbA3 ?_ | refine r_pbA4 ?_ | refine r_pbN ?_ | refine r_pbD ?_ | refine r_pbK ?_ | refine r_pbL ?_ | refine r_pbKv ?_ | refine r_call1 ?_ | refine r_call1B ?_ | refine r_call2 ?_ | refine r_call2B ?_ | refine r_call3 ?_ | refine r_call3B ?_ | refine r_call4 ?_ | refine r_call0 ?_ | refine r_make3 ?_ | refine r_po0 ?_ | refine r_par ?_ | refine r_ao0 ?_ | refine r_aoS ?_ | refine r_asDk ?_ | refine r_dkI ?_ | refine r_hasDk ?_ | refine r_dkS ?_ | refine r_dkA ?_ | refine r_dkApp ?_ | refine r_toI ?_ | refine r_dkNew ?_ | refine r_dkE ?_ | refine r_dkPop ?_ | refine r_try ?_ | refine r_raise ?_ | refine r_gCn ?_ | refine r_gNl ?_ | refine r_asgG ?_ | refine r_brk ?_ | refine r_cont ?_ | refine r_app ?_ | refine r_ext ?_ | refine r_hasL ?_ | refine r_appX ?_ | refine r_extX ?_ | refine r_asLD ?_ | refine r_asN ?_ | refine r_fldS ?_ | refine r_fsX ?_ | refine r_asg (by decide) ?_ | refine r_gNm (by decide) ?_ | refine r_aug (by decide) ?_ | refine r_poS (by decide) ?_ | refine r_hasP ?_ ?_ | refine r_ixV ?_ ?_ | refine r_slV ?_ ?_ | refine r_eqV ?_ ?_ | refine r_getV ?_ ?_ | refine r_gTp rfl ?_ | refine r_inT0 rfl rfl ?_ | refine r_inT1 rfl rfl ?_ | refine r_inL0 rfl rfl ?_ | refine r_inL1 rfl rfl ?_ | exact trivial))
local macro_rules | `(tactic| walk_at "wp") => `(tactic| first | walk_at "w1" | (with_reducible first | refine r_call_10 ?_ | refine r_call_021 ?_ | refine r_call_102 ?_ | refine r_call_120 ?_ | refine r_call_201 ?_ | refine r_call_210 ?_ | refine r_pow (by walk_at "wd") (by walk_at "wpow") ?_ | refine r_dsp (by decide) ?_ | refine r_mI (by walk_at "wd") ?_ | refine r_muI (by walk_at "wd") ?_ | refine r_sm (by walk_at "wd") ?_ | refine r_ixT (by walk_at "wx") ?_ | refine r_ixL (by walk_at "wx") ?_ | refine r_rg1 (by walk_at "wd") ?_ | refine r_rg2 (by walk_at "wd") ?_ | refine r_adT (by walk_at "wd") ?_ | refine r_adL (by walk_at "wd") ?_ | refine r_muT (by walk_at "wd") (by walk_at "wd") ?_ | refine r_muL (by walk_at "wd") (by walk_at "wd") ?_ | refine r_mstr (by walk_at "wd") ?_ | refine And.intro (by walk_at "wd") ?_ | refine r_gvK rfl rfl ?_ | refine r_gvDK rfl rfl ?_) | (with_reducible first | refine r_iD (fun _ => ?_) (fun z => absurd (by first | rfl | decide | omega | (simp only [List.length_cons, List.length_nil]; omega)) z) | refine r_iD (fun z => absurd z (by first | decide | omega | (simp only [List.length_cons, List.length_nil]; omega))) (fun _ => ?_) | refine r_iD (fun _ => ?_) (fun _ => ?_) | refine r_iEm (fun _ => ?_) (fun _ => ?_) | refine r_iI1 (fun _ => ?_) (fun _ => ?_) | refine r_iI2 (fun _ => ?_) (fun _ => ?_) | refine r_iI3 (fun _ => ?_) (fun _ => ?_) | refine r_iNe (fun _ => ?_) (fun _ => ?_) | refine r_iNeI (fun _ => ?_) (fun _ => ?_)) | ((with_reducible apply r_isiK); exact rfl) | intro _)
local macro_rules | `(tactic| walk_at "ws") => `(tactic| repeat' (walk_at "wp"))
/-! ### more stepping rules by their heads: side conditions ahead, as a conjunction -/
section
variable {ρ t : Sl} {nx bk ct : Sl → Prop} {rt : O → Sl → Prop} {ex E : Exc → Sl → Prop} {Q : O → Sl → Prop} {q : O → Prop} {i : Nat} {as : List Nat} {o a0 : Option O} {k : Sl → Prop} {x y : D} {xs ys : List D} {u v : Int} {kvs : List (Key × D)} {m mb : WE}
instance j_hp0 {P : Prop} {o : O} : Stp (HasP (some o :: t) 0 P) P := ⟨fun h => r_hasP (r_g0 trivial) h⟩
instance j_hpS {P : Prop} : Stp (HasP (a0 :: t) (i + 1) P) (HasP t i P) := ⟨fun ⟨⟨o, h1⟩, h2⟩ => ⟨⟨o, by simpa using h1⟩, h2⟩⟩
instance j_asg : Stp (wAsg (as := as) i m ρ ⟨nx, rt, bk, ct, ex⟩) (i ∈ as ∧ m ρ (fun o ρ1 => Put ρ1 i (some o) nx) ex) := ⟨fun h => r_asg h.1 h.2⟩
instance j_gNm : Stp (gNm as i x ρ k) (i ∈ as ∧ Put ρ i (some (.d x)) k) := ⟨fun h => r_gNm h.1 h.2⟩
instance j_aug {f : Int → Int → Int} : Stp (wAug (as := as) i f m ρ ⟨nx, rt, bk, ct, ex⟩) (i ∈ as ∧ Get ρ i fun o => AsI o fun u => m ρ (fun o ρ1 => AsI o fun v => Put ρ1 i (some (.d (.int (f u v)))) nx) ex) := ⟨fun h => r_aug h.1 h.2⟩
instance j_poS {is : List Nat} {o : O} {os : List O} : Stp (PO ρ (i :: is) (o :: os) as k) (i ∈ as ∧ Put ρ i (some o) fun ρ' => PO ρ' is os as k) := ⟨fun h => r_poS h.1 h.2⟩
theorem hasP_of {P : Prop} (h : HasP ρ i P) : wHas i ρ ∧ P := h
instance j_ixV : Stp (wIxV i mb ρ Q E) (HasP ρ i (mb ρ (fun o ρ2 => cold o fun y => Get ρ2 i fun o => cold o fun x => mIx x y fun r => Q r ρ2) E)) := ⟨fun h => ⟨h.1, h.2⟩⟩
instance j_slV {lo hi : Option WE} : Stp (wSlV i lo hi ρ Q E) (HasP ρ i (wPart lo ρ (fun l ρ2 => wPart hi ρ2 (fun g ρ3 => Get ρ3 i fun o => cold o fun x => mSl x l g fun r => Q r ρ3) E) E)) := ⟨fun h => ⟨h.1, h.2⟩⟩
instance j_eqV {z : Bool} : Stp (wEqV z i mb ρ Q E) (HasP ρ i (mb ρ (fun o ρ2 => cold o fun y => Get ρ2 i fun o => cold o fun x => mEq z x y fun r => Q r ρ2) E)) := ⟨fun h => ⟨h.1, h.2⟩⟩
instance j_getV : Stp (wGetV i mb ρ Q E) (HasP ρ i (mb ρ (fun o ρ2 => cold o fun y => Gv ρ2 i y fun x => Q (.d x) ρ2) E)) := ⟨fun h => ⟨h.1, h.2⟩⟩
instance j_gTp1 {gs : WGs} : Stp (gTp 1 gs (.tup [x]) ρ k) (gs [x] ρ k) := ⟨fun h => r_gTp rfl h⟩
instance j_gTp2 {gs : WGs} : Stp (gTp 2 gs (.tup [x, y]) ρ k) (gs [x, y] ρ k) := ⟨fun h => r_gTp rfl h⟩
instance j_gTp3 {gs : WGs} {z : D} : Stp (gTp 3 gs (.tup [x, y, z]) ρ k) (gs [x, y, z] ρ k) := ⟨fun h => r_gTp rfl h⟩
instance j_mod : Stp (mI (fun _ j => 0 < j) (fun i j => .int (i % j)) (.int u) (.int v) q) (0 < v ∧ q (.d (.int (u % v)))) := ⟨fun h => h⟩
instance j_div : Stp (mI CDivW (fun i j => .int (i / j)) (.int u) (.int v) q) (CDivW u v ∧ q (.d (.int (u / v)))) := ⟨fun h => h⟩
instance j_mul : Stp (mMul (.int u) (.int v) q) ((CMul u v ∨ CMulW u v) ∧ q (.d (.int (u * v)))) := ⟨fun h => r_muI h.1 h.2⟩
instance j_muT : Stp (mMul (.tup xs) (.int u) q) ((-(2 ^ 63) ≤ u ∧ u < 2 ^ 63) ∧ (xs.length * u.toNat ≤ sizeLine ∧ q (.d (.tup (List.replicate u.toNat xs).flatten)))) := ⟨fun h => r_muT h.1 h.2.1 h.2.2⟩
instance j_muL : Stp (mMul (.lst xs) (.int u) q) ((-(2 ^ 63) ≤ u ∧ u < 2 ^ 63) ∧ (xs.length * u.toNat ≤ sizeLine ∧ q (.lst (List.replicate u.toNat xs).flatten))) := ⟨fun h => r_muL h.1 h.2.1 h.2.2⟩
instance j_adT : Stp (mAdd (.tup xs) (.tup ys) q) (xs.length + ys.length ≤ sizeLine ∧ q (.d (.tup (xs ++ ys)))) := ⟨fun h => h⟩
instance j_adL : Stp (mAdd (.lst xs) (.lst ys) q) (xs.length + ys.length ≤ sizeLine ∧ q (.lst (xs ++ ys))) := ⟨fun h => h⟩
instance j_sm {α : Type} {xs : List α} {p : Prop} : Stp (Sm xs p) (xs.length ≤ 16777216 ∧ p) := ⟨fun h => r_sm h.1 h.2⟩
instance j_rg1 {f : List D → Prop} : Stp (Rg1 [.int u] f) ((-(2 ^ 62) ≤ u ∧ u < 2 ^ 62) ∧ f (rngD 0 u.toNat)) := ⟨fun h => r_rg1 h.1 h.2⟩
instance j_rg2 {f : List D → Prop} : Stp (Rg2 [.int u, .int v] f) ((-(2 ^ 62) ≤ u ∧ u < 2 ^ 62 ∧ -(2 ^ 62) ≤ v ∧ v < 2 ^ 62) ∧ f (rngD u (v - u).toNat)) := ⟨fun h => r_rg2 h.1 h.2⟩
instance j_dsp {P : Prop} : Stp (Dsp kvs P) (kvs.length ≤ 15 ∧ P) := ⟨fun h => h⟩
instance j_mstr : Stp (mStr [.int u] q) (u.natAbs.log2 < 1920 ∧ q (.d (.str (toString u)))) := ⟨fun h => r_mstr h.1 h.2⟩
/-- an index that is written -/
def AtK (xs : List D) (u : Int) (f : D → Prop) : Prop := ∃ x, atI xs u = some x ∧ f x
instance j_ixT : Stp (mIx (.tup xs) (.int u) q) (AtK xs u fun x => q (.d x)) := ⟨fun ⟨x, h1, h2⟩ => r_ixT h1 h2⟩
instance j_ixL : Stp (mIx (.lst xs) (.int u) q) (AtK xs u fun x => q (.d x)) := ⟨fun ⟨x, h1, h2⟩ => r_ixL h1 h2⟩
theorem r_at {f : D → Prop} (hx : atI xs u = some x) (h : f x) : AtK xs u f := ⟨x, hx, h⟩
end
/-! ### calls by name, in another order -/
section
variable {ρ : Sl} {C : Ct} {E : Exc → Sl → Prop} {Q : O → Sl → Prop} {m0 m1 m2 m3 : WE}
instance j_call10 : Stp (wCall C [1, 0] [(none, m0), (none, m1)] ρ Q E) (m0 ρ (fun o0 ρ1 => m1 ρ1 (fun o1 ρ2 => C [o1, o0] (fun r os' => PB [(none, o1), (none, o0)] os' ρ2 (Q r)) (fun e os' => PB [(none, o1), (none, o0)] os' ρ2 (E e))) E) E) := ⟨fun h => r_call_10 h⟩
instance j_call021 : Stp (wCall C [0, 2, 1] [(none, m0), (none, m1), (none, m2)] ρ Q E) (m0 ρ (fun o0 ρ1 => m1 ρ1 (fun o1 ρ2 => m2 ρ2 (fun o2 ρ3 => C [o0, o2, o1] (fun r os' => PB [(none, o0), (none, o2), (none, o1)] os' ρ3 (Q r)) (fun e os' => PB [(none, o0), (none, o2), (none, o1)] os' ρ3 (E e))) E) E) E) := ⟨fun h => r_call_021 h⟩
instance j_call102 : Stp (wCall C [1, 0, 2] [(none, m0), (none, m1), (none, m2)] ρ Q E) (m0 ρ (fun o0 ρ1 => m1 ρ1 (fun o1 ρ2 => m2 ρ2 (fun o2 ρ3 => C [o1, o0, o2] (fun r os' => PB [(none, o1), (none, o0), (none, o2)] os' ρ3 (Q r)) (fun e os' => PB [(none, o1), (none, o0), (none, o2)] os' ρ3 (E e))) E) E) E) := ⟨fun h => r_call_102 h⟩
instance j_call120 : Stp (wCall C [1, 2, 0] [(none, m0), (none, m1), (none, m2)] ρ Q E) (m0 ρ (fun o0 ρ1 => m1 ρ1 (fun o1 ρ2 => m2 ρ2 (fun o2 ρ3 => C [o1, o2, o0] (fun r os' => PB [(none, o1), (none, o2), (none, o0)] os' ρ3 (Q r)) (fun e os' => PB [(none, o1), (none, o2), (none, o0)] os' ρ3 (E e))) E) E) E) := ⟨fun h => r_call_120 h⟩
instance j_call201 : Stp (wCall C [2, 0, 1] [(none, m0), (none, m1), (none, m2)] ρ Q E) (m0 ρ (fun o0 ρ1 => m1 ρ1 (fun o1 ρ2 => m2 ρ2 (fun o2 ρ3 => C [o2, o0, o1] (fun r os' => PB [(none, o2), (none, o0), (none, o1)] os' ρ3 (Q r)) (fun e os' => PB [(none, o2), (none, o0), (none, o1)] os' ρ3 (E e))) E) E) E) := ⟨fun h => r_call_201 h⟩
instance j_call210 : Stp (wCall C [2, 1, 0] [(none, m0), (none, m1), (none, m2)] ρ Q E) (m0 ρ (fun o0 ρ1 => m1 ρ1 (fun o1 ρ2 => m2 ρ2 (fun o2 ρ3 => C [o2, o1, o0] (fun r os' => PB [(none, o2), (none, o1), (none, o0)] os' ρ3 (Q r)) (fun e os' => PB [(none, o2), (none, o1), (none, o0)] os' ρ3 (E e))) E) E) E) := ⟨fun h => r_call_210 h⟩
instance j_call0132 : Stp (wCall C [0, 1, 3, 2] [(none, m0), (none, m1), (none, m2), (none, m3)] ρ Q E) (m0 ρ (fun o0 ρ1 => m1 ρ1 (fun o1 ρ2 => m2 ρ2 (fun o2 ρ3 => m3 ρ3 (fun o3 ρ4 => C [o0, o1, o3, o2] (fun r os' => PB [(none, o0), (none, o1), (none, o3), (none, o2)] os' ρ4 (Q r)) (fun e os' => PB [(none, o0), (none, o1), (none, o3), (none, o2)] os' ρ4 (E e))) E) E) E) E) := ⟨fun h => r_call_0132 h⟩
instance j_call0213 : Stp (wCall C [0, 2, 1, 3] [(none, m0), (none, m1), (none, m2), (none, m3)] ρ Q E) (m0 ρ (fun o0 ρ1 => m1 ρ1 (fun o1 ρ2 => m2 ρ2 (fun o2 ρ3 => m3 ρ3 (fun o3 ρ4 => C [o0, o2, o1, o3] (fun r os' => PB [(none, o0), (none, o2), (none, o1), (none, o3)] os' ρ4 (Q r)) (fun e os' => PB [(none, o0), (none, o2), (none, o1), (none, o3)] os' ρ4 (E e))) E) E) E) E) := ⟨fun h => r_call_0213 h⟩
instance j_call0231 : Stp (wCall C [0, 2, 3, 1] [(none, m0), (none, m1), (none, m2), (none, m3)] ρ Q E) (m0 ρ (fun o0 ρ1 => m1 ρ1 (fun o1 ρ2 => m2 ρ2 (fun o2 ρ3 => m3 ρ3 (fun o3 ρ4 => C [o0, o2, o3, o1] (fun r os' => PB [(none, o0), (none, o2), (none, o3), (none, o1)] os' ρ4 (Q r)) (fun e os' => PB [(none, o0), (none, o2), (none, o3), (none, o1)] os' ρ4 (E e))) E) E) E) E) := ⟨fun h => r_call_0231 h⟩
instance j_call0312 : Stp (wCall C [0, 3, 1, 2] [(none, m0), (none, m1), (none, m2), (none, m3)] ρ Q E) (m0 ρ (fun o0 ρ1 => m1 ρ1 (fun o1 ρ2 => m2 ρ2 (fun o2 ρ3 => m3 ρ3 (fun o3 ρ4 => C [o0, o3, o1, o2] (fun r os' => PB [(none, o0), (none, o3), (none, o1), (none, o2)] os' ρ4 (Q r)) (fun e os' => PB [(none, o0), (none, o3), (none, o1), (none, o2)] os' ρ4 (E e))) E) E) E) E) := ⟨fun h => r_call_0312 h⟩
instance j_call0321 : Stp (wCall C [0, 3, 2, 1] [(none, m0), (none, m1), (none, m2), (none, m3)] ρ Q E) (m0 ρ (fun o0 ρ1 => m1 ρ1 (fun o1 ρ2 => m2 ρ2 (fun o2 ρ3 => m3 ρ3 (fun o3 ρ4 => C [o0, o3, o2, o1] (fun r os' => PB [(none, o0), (none, o3), (none, o2), (none, o1)] os' ρ4 (Q r)) (fun e os' => PB [(none, o0), (none, o3), (none, o2), (none, o1)] os' ρ4 (E e))) E) E) E) E) := ⟨fun h => r_call_0321 h⟩
instance j_call1023 : Stp (wCall C [1, 0, 2, 3] [(none, m0), (none, m1), (none, m2), (none, m3)] ρ Q E) (m0 ρ (fun o0 ρ1 => m1 ρ1 (fun o1 ρ2 => m2 ρ2 (fun o2 ρ3 => m3 ρ3 (fun o3 ρ4 => C [o1, o0, o2, o3] (fun r os' => PB [(none, o1), (none, o0), (none, o2), (none, o3)] os' ρ4 (Q r)) (fun e os' => PB [(none, o1), (none, o0), (none, o2), (none, o3)] os' ρ4 (E e))) E) E) E) E) := ⟨fun h => r_call_1023 h⟩
instance j_call1032 : Stp (wCall C [1, 0, 3, 2] [(none, m0), (none, m1), (none, m2), (none, m3)] ρ Q E) (m0 ρ (fun o0 ρ1 => m1 ρ1 (fun o1 ρ2 => m2 ρ2 (fun o2 ρ3 => m3 ρ3 (fun o3 ρ4 => C [o1, o0, o3, o2] (fun r os' => PB [(none, o1), (none, o0), (none, o3), (none, o2)] os' ρ4 (Q r)) (fun e os' => PB [(none, o1), (none, o0), (none, o3), (none, o2)] os' ρ4 (E e))) E) E) E) E) := ⟨fun h => r_call_1032 h⟩
instance j_call1203 : Stp (wCall C [1, 2, 0, 3] [(none, m0), (none, m1), (none, m2), (none, m3)] ρ Q E) (m0 ρ (fun o0 ρ1 => m1 ρ1 (fun o1 ρ2 => m2 ρ2 (fun o2 ρ3 => m3 ρ3 (fun o3 ρ4 => C [o1, o2, o0, o3] (fun r os' => PB [(none, o1), (none, o2), (none, o0), (none, o3)] os' ρ4 (Q r)) (fun e os' => PB [(none, o1), (none, o2), (none, o0), (none, o3)] os' ρ4 (E e))) E) E) E) E) := ⟨fun h => r_call_1203 h⟩
instance j_call1230 : Stp (wCall C [1, 2, 3, 0] [(none, m0), (none, m1), (none, m2), (none, m3)] ρ Q E) (m0 ρ (fun o0 ρ1 => m1 ρ1 (fun o1 ρ2 => m2 ρ2 (fun o2 ρ3 => m3 ρ3 (fun o3 ρ4 => C [o1, o2, o3, o0] (fun r os' => PB [(none, o1), (none, o2), (none, o3), (none, o0)] os' ρ4 (Q r)) (fun e os' => PB [(none, o1), (none, o2), (none, o3), (none, o0)] os' ρ4 (E e))) E) E) E) E) := ⟨fun h => r_call_1230 h⟩
instance j_call1302 : Stp (wCall C [1, 3, 0, 2] [(none, m0), (none, m1), (none, m2), (none, m3)] ρ Q E) (m0 ρ (fun o0 ρ1 => m1 ρ1 (fun o1 ρ2 => m2 ρ2 (fun o2 ρ3 => m3 ρ3 (fun o3 ρ4 => C [o1, o3, o0, o2] (fun r os' => PB [(none, o1), (none, o3), (none, o0), (none, o2)] os' ρ4 (Q r)) (fun e os' => PB [(none, o1), (none, o3), (none, o0), (none, o2)] os' ρ4 (E e))) E) E) E) E) := ⟨fun h => r_call_1302 h⟩
instance j_call1320 : Stp (wCall C [1, 3, 2, 0] [(none, m0), (none, m1), (none, m2), (none, m3)] ρ Q E) (m0 ρ (fun o0 ρ1 => m1 ρ1 (fun o1 ρ2 => m2 ρ2 (fun o2 ρ3 => m3 ρ3 (fun o3 ρ4 => C [o1, o3, o2, o0] (fun r os' => PB [(none, o1), (none, o3), (none, o2), (none, o0)] os' ρ4 (Q r)) (fun e os' => PB [(none, o1), (none, o3), (none, o2), (none, o0)] os' ρ4 (E e))) E) E) E) E) := ⟨fun h => r_call_1320 h⟩
instance j_call2013 : Stp (wCall C [2, 0, 1, 3] [(none, m0), (none, m1), (none, m2), (none, m3)] ρ Q E) (m0 ρ (fun o0 ρ1 => m1 ρ1 (fun o1 ρ2 => m2 ρ2 (fun o2 ρ3 => m3 ρ3 (fun o3 ρ4 => C [o2, o0, o1, o3] (fun r os' => PB [(none, o2), (none, o0), (none, o1), (none, o3)] os' ρ4 (Q r)) (fun e os' => PB [(none, o2), (none, o0), (none, o1), (none, o3)] os' ρ4 (E e))) E) E) E) E) := ⟨fun h => r_call_2013 h⟩
instance j_call2031 : Stp (wCall C [2, 0, 3, 1] [(none, m0), (none, m1), (none, m2), (none, m3)] ρ Q E) (m0 ρ (fun o0 ρ1 => m1 ρ1 (fun o1 ρ2 => m2 ρ2 (fun o2 ρ3 => m3 ρ3 (fun o3 ρ4 => C [o2, o0, o3, o1] (fun r os' => PB [(none, o2), (none, o0), (none, o3), (none, o1)] os' ρ4 (Q r)) (fun e os' => PB [(none, o2), (none, o0), (none, o3), (none, o1)] os' ρ4 (E e))) E) E) E) E) := ⟨fun h => r_call_2031 h⟩
instance j_call2103 : Stp (wCall C [2, 1, 0, 3] [(none, m0), (none, m1), (none, m2), (none, m3)] ρ Q E) (m0 ρ (fun o0 ρ1 => m1 ρ1 (fun o1 ρ2 => m2 ρ2 (fun o2 ρ3 => m3 ρ3 (fun o3 ρ4 => C [o2, o1, o0, o3] (fun r os' => PB [(none, o2), (none, o1), (none, o0), (none, o3)] os' ρ4 (Q r)) (fun e os' => PB [(none, o2), (none, o1), (none, o0), (none, o3)] os' ρ4 (E e))) E) E) E) E) := ⟨fun h => r_call_2103 h⟩
instance j_call2130 : Stp (wCall C [2, 1, 3, 0] [(none, m0), (none, m1), (none, m2), (none, m3)] ρ Q E) (m0 ρ (fun o0 ρ1 => m1 ρ1 (fun o1 ρ2 => m2 ρ2 (fun o2 ρ3 => m3 ρ3 (fun o3 ρ4 => C [o2, o1, o3, o0] (fun r os' => PB [(none, o2), (none, o1), (none, o3), (none, o0)] os' ρ4 (Q r)) (fun e os' => PB [(none, o2), (none, o1), (none, o3), (none, o0)] os' ρ4 (E e))) E) E) E) E) := ⟨fun h => r_call_2130 h⟩
instance j_call2301 : Stp (wCall C [2, 3, 0, 1] [(none, m0), (none, m1), (none, m2), (none, m3)] ρ Q E) (m0 ρ (fun o0 ρ1 => m1 ρ1 (fun o1 ρ2 => m2 ρ2 (fun o2 ρ3 => m3 ρ3 (fun o3 ρ4 => C [o2, o3, o0, o1] (fun r os' => PB [(none, o2), (none, o3), (none, o0), (none, o1)] os' ρ4 (Q r)) (fun e os' => PB [(none, o2), (none, o3), (none, o0), (none, o1)] os' ρ4 (E e))) E) E) E) E) := ⟨fun h => r_call_2301 h⟩
instance j_call2310 : Stp (wCall C [2, 3, 1, 0] [(none, m0), (none, m1), (none, m2), (none, m3)] ρ Q E) (m0 ρ (fun o0 ρ1 => m1 ρ1 (fun o1 ρ2 => m2 ρ2 (fun o2 ρ3 => m3 ρ3 (fun o3 ρ4 => C [o2, o3, o1, o0] (fun r os' => PB [(none, o2), (none, o3), (none, o1), (none, o0)] os' ρ4 (Q r)) (fun e os' => PB [(none, o2), (none, o3), (none, o1), (none, o0)] os' ρ4 (E e))) E) E) E) E) := ⟨fun h => r_call_2310 h⟩
instance j_call3012 : Stp (wCall C [3, 0, 1, 2] [(none, m0), (none, m1), (none, m2), (none, m3)] ρ Q E) (m0 ρ (fun o0 ρ1 => m1 ρ1 (fun o1 ρ2 => m2 ρ2 (fun o2 ρ3 => m3 ρ3 (fun o3 ρ4 => C [o3, o0, o1, o2] (fun r os' => PB [(none, o3), (none, o0), (none, o1), (none, o2)] os' ρ4 (Q r)) (fun e os' => PB [(none, o3), (none, o0), (none, o1), (none, o2)] os' ρ4 (E e))) E) E) E) E) := ⟨fun h => r_call_3012 h⟩
instance j_call3021 : Stp (wCall C [3, 0, 2, 1] [(none, m0), (none, m1), (none, m2), (none, m3)] ρ Q E) (m0 ρ (fun o0 ρ1 => m1 ρ1 (fun o1 ρ2 => m2 ρ2 (fun o2 ρ3 => m3 ρ3 (fun o3 ρ4 => C [o3, o0, o2, o1] (fun r os' => PB [(none, o3), (none, o0), (none, o2), (none, o1)] os' ρ4 (Q r)) (fun e os' => PB [(none, o3), (none, o0), (none, o2), (none, o1)] os' ρ4 (E e))) E) E) E) E) := ⟨fun h => r_call_3021 h⟩
instance j_call3102 : Stp (wCall C [3, 1, 0, 2] [(none, m0), (none, m1), (none, m2), (none, m3)] ρ Q E) (m0 ρ (fun o0 ρ1 => m1 ρ1 (fun o1 ρ2 => m2 ρ2 (fun o2 ρ3 => m3 ρ3 (fun o3 ρ4 => C [o3, o1, o0, o2] (fun r os' => PB [(none, o3), (none, o1), (none, o0), (none, o2)] os' ρ4 (Q r)) (fun e os' => PB [(none, o3), (none, o1), (none, o0), (none, o2)] os' ρ4 (E e))) E) E) E) E) := ⟨fun h => r_call_3102 h⟩
instance j_call3120 : Stp (wCall C [3, 1, 2, 0] [(none, m0), (none, m1), (none, m2), (none, m3)] ρ Q E) (m0 ρ (fun o0 ρ1 => m1 ρ1 (fun o1 ρ2 => m2 ρ2 (fun o2 ρ3 => m3 ρ3 (fun o3 ρ4 => C [o3, o1, o2, o0] (fun r os' => PB [(none, o3), (none, o1), (none, o2), (none, o0)] os' ρ4 (Q r)) (fun e os' => PB [(none, o3), (none, o1), (none, o2), (none, o0)] os' ρ4 (E e))) E) E) E) E) := ⟨fun h => r_call_3120 h⟩
instance j_call3201 : Stp (wCall C [3, 2, 0, 1] [(none, m0), (none, m1), (none, m2), (none, m3)] ρ Q E) (m0 ρ (fun o0 ρ1 => m1 ρ1 (fun o1 ρ2 => m2 ρ2 (fun o2 ρ3 => m3 ρ3 (fun o3 ρ4 => C [o3, o2, o0, o1] (fun r os' => PB [(none, o3), (none, o2), (none, o0), (none, o1)] os' ρ4 (Q r)) (fun e os' => PB [(none, o3), (none, o2), (none, o0), (none, o1)] os' ρ4 (E e))) E) E) E) E) := ⟨fun h => r_call_3201 h⟩
instance j_call3210 : Stp (wCall C [3, 2, 1, 0] [(none, m0), (none, m1), (none, m2), (none, m3)] ρ Q E) (m0 ρ (fun o0 ρ1 => m1 ρ1 (fun o1 ρ2 => m2 ρ2 (fun o2 ρ3 => m3 ρ3 (fun o3 ρ4 => C [o3, o2, o1, o0] (fun r os' => PB [(none, o3), (none, o2), (none, o1), (none, o0)] os' ρ4 (Q r)) (fun e os' => PB [(none, o3), (none, o2), (none, o1), (none, o0)] os' ρ4 (E e))) E) E) E) E) := ⟨fun h => r_call_3210 h⟩
end
end Pv

set_option Elab.async false
set_option maxRecDepth 100000
set_option maxHeartbeats 4000000
set_option autoImplicit false
set_option linter.unusedVariables false
namespace Pv
open PySem L2
local macro_rules | `(tactic| walk_at "wpow") => `(tactic| (simp only [Int.reduceToNat, Int.reducePow]; rfl))
local macro_rules | `(tactic| walk_at "wx") => `(tactic| first | rfl | assumption | with_unfolding_all rfl)
local macro_rules | `(tactic| walk_at "wd") => `(tactic| first | with_reducible rfl | assumption | omega | decide | (refine cdivw_small ?_ ?_ <;> omega) | (refine cdivw_small ?_ ?_ <;> split <;> omega) | (refine cpow_small ?_ ?_ ?_ ?_ <;> omega) | (refine cmul_r ?_ ?_ <;> omega) | (refine cmul_l ?_ ?_ <;> omega) | (simp only [List.length_cons, List.length_nil, List.length_append, List.length_reverse, List.length_map, flat_len, Int.reduceToNat]; omega) | (simp only [sizeLine, List.length_cons, List.length_nil, List.length_append, List.length_reverse, List.length_map, flat_len, Int.reduceToNat]; omega))
local macro_rules | `(tactic| walk_at "w1") => `(tactic| (with_reducible first | refine r_seq ?_ | refine r_bin ?_ | refine r_k ?_ | refine r_var ?_ | refine r_g0 ?_ | refine r_gS ?_ | refine r_vkD ?_ | refine r_cD ?_ | refine r_p0 ?_ | refine r_pS ?_ | refine r_cons ?_ | refine r_nil ?_ | refine r_next ?_ | refine r_ret ?_ | refine r_drop ?_ | refine r_ifS ?_ | refine r_bool ?_ | refine r_tru ?_ | refine r_asI ?_ | refine r_asB ?_ | refine r_andT ?_ | refine r_orT ?_ | refine r_notT ?_ | refine r_yes ?_ | refine r_if ?_ | refine r_andV ?_ | refine r_orV ?_ | refine r_notV ?_ | refine r_trN ?_ | refine r_trB ?_ | refine r_trI ?_ | refine r_trT ?_ | refine r_trL ?_ | refine r_iT ?_ | refine r_iF ?_ | refine r_iN ?_ | refine r_in0 ?_ | refine r_in1 ?_ | refine r_cL ?_ | refine r_cK ?_ | refine r_cI ?_ | refine r_vkL ?_ | refine r_vkK ?_ | refine r_vkI ?_ | refine r_move ?_ | refine r_mvDk ?_ | refine r_mvD ?_ | refine r_mvL ?_ | refine r_mvK ?_ | refine r_mvI ?_ | refine r_mI0 ?_ | refine r_adI ?_ | refine r_eqI ?_ | refine r_eqS ?_ | refine r_eqB ?_ | refine r_eqL0 ?_ | refine r_eqT0 ?_ | refine r_eqTT ?_ | refine r_eqLL ?_ | refine r_is1N ?_ | refine r_is0N ?_ | refine r_is1I ?_ | refine r_is0I ?_ | refine r_is1S ?_ | refine r_is0S ?_ | refine r_is1B ?_ | refine r_is0B ?_ | refine r_is1T ?_ | refine r_is0T ?_ | refine r_is1L ?_ | refine r_is0L ?_ | refine r_is1K ?_ | refine r_is0K ?_ | refine r_is1O ?_ | refine r_is0O ?_ | refine r_is ?_ | refine r_chK ?_ | refine r_chain ?_ | refine r_neg ?_ | refine r_tup ?_ | refine r_lst ?_ | refine r_cb ?_ | refine r_mint ?_ | refine r_mintB ?_ | refine r_mabs ?_ | refine r_mmax ?_ | refine r_mmin ?_ | refine r_mlL ?_ | refine r_mlT ?_ | refine r_mlS ?_ | refine r_mtL ?_ | refine r_mtT ?_ | refine r_tuple ?_ | refine r_rev ?_ | refine r_mrL ?_ | refine r_mrT ?_ | refine r_mrS ?_ | refine r_foldB ?_ | refine r_mlenL ?_ | refine r_mlenT ?_ | refine r_isiX ?_ | refine r_axL ?_ | refine r_axK ?_ | refine r_axDL ?_ | refine r_axDT ?_ | refine r_axDS ?_ | refine r_axDK ?_ | refine r_ixA ?_ | refine r_gv ?_ | refine r_part0 ?_ | refine r_part1 ?_ | refine r_slL ?_ | refine r_slT ?_ | refine r_slS ?_ | refine r_eqVX ?_ | refine r_ekI ?_ | refine r_ekT ?_ | refine r_ekS ?_ | refine r_ekB ?_ | refine r_ekN ?_ | refine r_ekL ?_ | refine r_ekOL ?_ | refine r_ekO ?_ | refine r_ekDO ?_ | refine r_lenV ?_ | refine r_lnT ?_ | refine r_lnL ?_ | refine r_lnK ?_ | refine r_lnS ?_ | refine r_for ?_ | refine r_itr ?_ | refine r_sqL ?_ | refine r_sqT ?_ | refine r_sqS ?_ | refine r_rng1 ?_ | refine r_rng2 ?_ | refine r_itrE ?_ | refine r_en1 ?_ | refine r_itrZ ?_ | refine r_zp1 ?_ | refine r_asK ?_ | refine r_setA ?_ | refine r_setL ?_ | refine r_setX ?_ | refine r_putV ?_ | refine r_putX ?_ | refine r_srtA ?_ | refine r_dispN ?_ | refine r_disp ?_ | refine r_prs0 ?_ | refine r_prsS ?_ | refine r_kyI ?_ | refine r_kyS ?_ | refine r_wp0 ?_ | refine r_wpS ?_ | refine r_lc ?_ | refine r_asL ?_ | refine r_pop ?_ | refine r_pb0 ?_ | refine r_pbA1 ?_ | refine r_pbA2 ?_ | refine r_pbA3 ?_ | refine r_pbA4 ?_ | refine r_pbN ?_ | refine r_pbD ?_ | refine r_pbK ?_ | refine r_pbL ?_ | refine r_pbKv ?_ | refine r_call1 ?_ | refine r_call1B ?_ | refine r_call2 ?_ | refine r_call2B ?_ | refine r_call3 ?_ | refine r_call3B ?_ | refine r_call4 ?_ | refine r_call0 ?_ | refine r_make3 ?_ | refine r_po0 ?_ | refine r_par ?_ | refine r_ao0 ?_ | refine r_aoS ?_ | refine r_asDk ?_ | refine r_dkI ?_ | refine r_hasDk ?_ | refine r_dkS ?_ | refine r_dkA ?_ | refine r_dkApp ?_ | refine r_toI ?_ | refine r_dkNew ?_ | refine r_dkE ?_ | refine r_dkPop ?_ | refine r_try ?_ | refine r_raise ?_ | refine r_gCn ?_ | refine r_gNl ?_ | refine r_asgG ?_ | refine r_brk ?_ | refine r_cont ?_ | refine r_app ?_ | refine r_ext ?_ | refine r_hasL ?_ | refine r_appX ?_ | refine r_extX ?_ | refine r_asLD ?_ | refine r_asN ?_ | refine r_fldS ?_ | refine r_fsX ?_ | refine r_asg (by decide) ?_ | refine r_gNm (by decide) ?_ | refine r_aug (by decide) ?_ | refine r_poS (by decide) ?_ | refine r_hasP ?_ ?_ | refine r_ixV ?_ ?_ | refine r_slV ?_ ?_ | refine r_eqV ?_ ?_ | refine r_getV ?_ ?_ | refine r_gTp rfl ?_ | refine r_inT0 rfl rfl ?_ | refine r_inT1 rfl rfl ?_ | refine r_inL0 rfl rfl ?_ | refine r_inL1 rfl rfl ?_ | exact trivial))
local macro_rules | `(tactic| walk_at "wp") => `(tactic| first | walk_at "w1" | (with_reducible first | refine r_call_10 ?_ | refine r_call_021 ?_ | refine r_call_102 ?_ | refine r_call_120 ?_ | refine r_call_201 ?_ | refine r_call_210 ?_ | refine r_pow (by walk_at "wd") (by walk_at "wpow") ?_ | refine r_dsp (by decide) ?_ | refine r_mI (by walk_at "wd") ?_ | refine r_muI (by walk_at "wd") ?_ | refine r_sm (by walk_at "wd") ?_ | refine r_ixT (by walk_at "wx") ?_ | refine r_ixL (by walk_at "wx") ?_ | refine r_rg1 (by walk_at "wd") ?_ | refine r_rg2 (by walk_at "wd") ?_ | refine r_adT (by walk_at "wd") ?_ | refine r_adL (by walk_at "wd") ?_ | refine r_muT (by walk_at "wd") (by walk_at "wd") ?_ | refine r_muL (by walk_at "wd") (by walk_at "wd") ?_ | refine r_mstr (by walk_at "wd") ?_ | refine And.intro (by walk_at "wd") ?_ | refine r_gvK rfl rfl ?_ | refine r_gvDK rfl rfl ?_) | (with_reducible first | refine r_iD (fun _ => ?_) (fun z => absurd (by first | rfl | decide | omega | (simp only [List.length_cons, List.length_nil]; omega)) z) | refine r_iD (fun z => absurd z (by first | decide | omega | (simp only [List.length_cons, List.length_nil]; omega))) (fun _ => ?_) | refine r_iD (fun _ => ?_) (fun _ => ?_) | refine r_iEm (fun _ => ?_) (fun _ => ?_) | refine r_iI1 (fun _ => ?_) (fun _ => ?_) | refine r_iI2 (fun _ => ?_) (fun _ => ?_) | refine r_iI3 (fun _ => ?_) (fun _ => ?_) | refine r_iNe (fun _ => ?_) (fun _ => ?_) | refine r_iNeI (fun _ => ?_) (fun _ => ?_)) | ((with_reducible apply r_isiK); exact rfl) | intro _)
local macro_rules | `(tactic| walk_at "ws") => `(tactic| repeat' (walk_at "wp"))
/-! ### the other steps, each found by its head -/
class AndG (P : Prop) (A B : outParam Prop) : Prop where
  go : A → B → P
instance i_and {A B : Prop} : AndG (A ∧ B) A B := ⟨And.intro⟩
class StpI (P : Prop) (p A B : outParam Prop) : Prop where
  go : (p → A) → (¬ p → B) → P
class StpX (P : Prop) (c f : outParam (D → Prop)) : Prop where
  go : ∀ x, c x → f x → P
class StpN (P : Prop) (a : outParam Prop) (c f : outParam (Int → Prop)) : Prop where
  go : ∀ n, a → c n → f n → P
class StpV (P : Prop) (c : outParam (Key → Prop)) (d : outParam (Key → D → Prop)) (f : outParam (D → Prop)) : Prop where
  go : ∀ k x, c k → d k x → f x → P
class StpZ (P : Prop) (c f : outParam (Bool → Prop)) : Prop where
  go : ∀ z, c z → f z → P
class DnT (P : Prop) : Prop where
  h : P
instance i_dn : DnT True := ⟨trivial⟩
section
variable {A B : Prop} {q : O → Prop} {x y : D} {xs ys : List D} {u v : Int} {kvs : List (Key × D)}
instance k_iD {p : Prop} [d : Decidable p] : StpI (ifB (decide p) A B) p A B := ⟨fun h1 h2 => r_iD h1 h2⟩
instance k_iE : StpI (ifB xs.isEmpty A B) (xs = []) A B := ⟨fun h1 h2 => r_iEm h1 h2⟩
instance k_iN {n l : Nat} : StpI (ifB (n != l) A B) (n ≠ l) A B := ⟨fun h1 h2 => r_iNe h1 fun e => h2 fun z => z e⟩
instance k_iZ : StpI (ifB (u != v) A B) (u ≠ v) A B := ⟨fun h1 h2 => r_iNeI h1 fun e => h2 fun z => z e⟩
instance k_i1 {a : Int} : StpI (ifB (inD (.int u) [.int a]) A B) (u = a) A B := ⟨fun h1 h2 => r_iI1 h1 h2⟩
instance k_i2 {a b : Int} : StpI (ifB (inD (.int u) [.int a, .int b]) A B) (u = a ∨ u = b) A B := ⟨fun h1 h2 => r_iI2 h1 fun e => h2 fun z => z.elim e.1 e.2⟩
instance k_i3 {a b c : Int} : StpI (ifB (inD (.int u) [.int a, .int b, .int c]) A B) (u = a ∨ u = b ∨ u = c) A B := ⟨fun h1 h2 => r_iI3 h1 fun e => h2 fun z => z.elim e.1 fun z => z.elim e.2.1 e.2.2⟩
instance k_at {f : D → Prop} : StpX (AtK xs u f) (fun x => atI xs u = some x) f := ⟨fun _ h1 h2 => r_at h1 h2⟩
instance k_pow : StpN (mI CPow (fun i j => .int (i ^ j.toNat)) (.int u) (.int v) q) (CPow u v) (fun n => u ^ v.toNat = n) (fun n => q (.d (.int n))) := ⟨fun _ h1 h2 h3 => r_pow h1 h2 h3⟩
instance j_shl : Stp (mI CPow (fun i j => .int (i * 2 ^ j.toNat)) (.int u) (.int v) q) (CPow u v ∧ q (.d (.int (u * 2 ^ v.toNat)))) := ⟨fun h => h⟩
instance j_shr : Stp (mI (fun _ j => 0 ≤ j) (fun i j => .int (i / 2 ^ j.toNat)) (.int u) (.int v) q) (0 ≤ v ∧ q (.d (.int (u / 2 ^ v.toNat)))) := ⟨fun h => h⟩
instance k_gvK {f : D → Prop} : StpV (GvK (.dic kvs) y f) (fun k => keyD y = some k) (fun k x => valD kvs k = some x) f := ⟨fun _ _ h1 h2 h => r_gvK h1 h2 h⟩
instance k_gvD {f : D → Prop} : StpV (GvK (.d (.dic kvs)) y f) (fun k => keyD y = some k) (fun k x => valD kvs k = some x) f := ⟨fun _ _ h1 h2 h => r_gvDK h1 h2 h⟩
instance k_isi {f : D → Option Bool} {g : Bool → Prop} : StpZ (IsiK f x g) (fun z => f x = some z) g := ⟨fun _ h1 h2 => r_isiK h1 h2⟩
class LeafD (x : D) : Prop where
  h : leafD x = true
class LeafDs (xs : List D) : Prop where
  h : xs.all leafD = true
instance l_non : LeafD .non := ⟨rfl⟩
instance l_bl {b : Bool} : LeafD (.bl b) := ⟨rfl⟩
instance l_int : LeafD (.int u) := ⟨rfl⟩
instance l_str {s : Str} : LeafD (.str s) := ⟨rfl⟩
instance l_nil : LeafDs [] := ⟨rfl⟩
instance l_cons [hx : LeafD x] [hy : LeafDs xs] : LeafDs (x :: xs) := ⟨by rw [List.all_cons, hx.h, hy.h]; rfl⟩
instance j_inT0 [hx : LeafD x] [hy : LeafDs ys] : Stp (mIn false x (.tup ys) q) (q (.d (.bl (inD x ys)))) := ⟨fun h => r_inT0 hx.h hy.h h⟩
instance j_inT1 [hx : LeafD x] [hy : LeafDs ys] : Stp (mIn true x (.tup ys) q) (q (.d (.bl (!inD x ys)))) := ⟨fun h => r_inT1 hx.h hy.h h⟩
instance j_inL0 [hx : LeafD x] [hy : LeafDs ys] : Stp (mIn false x (.lst ys) q) (q (.d (.bl (inD x ys)))) := ⟨fun h => r_inL0 hx.h hy.h h⟩
instance j_inL1 [hx : LeafD x] [hy : LeafDs ys] : Stp (mIn true x (.lst ys) q) (q (.d (.bl (!inD x ys)))) := ⟨fun h => r_inL1 hx.h hy.h h⟩
end
/-! ### cuts -/
section
variable {ρ : Sl} {nx bk ct : Sl → Prop} {rt : O → Sl → Prop} {ex : Exc → Sl → Prop} {s1 s2 s3 t : WS}
theorem r_cut (I : Sl → Prop) (h1 : ∀ K : Sl → Prop, (∀ ρ', I ρ' → K ρ') → s1 ρ ⟨K, rt, bk, ct, ex⟩) (h2 : ∀ ρ', I ρ' → t ρ' ⟨nx, rt, bk, ct, ex⟩) : wSeq s1 t ρ ⟨nx, rt, bk, ct, ex⟩ := h1 _ h2
theorem r_cut2 (I : Sl → Prop) (h1 : ∀ K : Sl → Prop, (∀ ρ', I ρ' → K ρ') → wSeq s1 s2 ρ ⟨K, rt, bk, ct, ex⟩) (h2 : ∀ ρ', I ρ' → t ρ' ⟨nx, rt, bk, ct, ex⟩) : wSeq s1 (wSeq s2 t) ρ ⟨nx, rt, bk, ct, ex⟩ := h1 _ h2
theorem r_cut3 (I : Sl → Prop) (h1 : ∀ K : Sl → Prop, (∀ ρ', I ρ' → K ρ') → wSeq s1 (wSeq s2 s3) ρ ⟨K, rt, bk, ct, ex⟩) (h2 : ∀ ρ', I ρ' → t ρ' ⟨nx, rt, bk, ct, ex⟩) : wSeq s1 (wSeq s2 (wSeq s3 t)) ρ ⟨nx, rt, bk, ct, ex⟩ := h1 _ h2
end
end Pv

set_option Elab.async false
set_option maxRecDepth 100000
set_option maxHeartbeats 4000000
set_option autoImplicit false
set_option linter.unusedVariables false
namespace Pv
open PySem L2
local macro_rules | `(tactic| walk_at "wpow") => `(tactic| (simp only [Int.reduceToNat, Int.reducePow]; rfl))
local macro_rules | `(tactic| walk_at "wx") => `(tactic| first | rfl | assumption)
local macro_rules | `(tactic| walk_at "wd") => `(tactic| first | with_reducible rfl | assumption | omega | decide | (refine cdivw_small ?_ ?_ <;> omega) | (refine cdivw_small ?_ ?_ <;> split <;> omega) | (refine cpow_small ?_ ?_ ?_ ?_ <;> omega) | (refine cmul_r ?_ ?_ <;> omega) | (refine cmul_l ?_ ?_ <;> omega) | (simp only [List.length_cons, List.length_nil, List.length_append, List.length_reverse, List.length_map, flat_len, Int.reduceToNat]; omega) | (simp only [sizeLine, List.length_cons, List.length_nil, List.length_append, List.length_reverse, List.length_map, flat_len, Int.reduceToNat]; omega))
local macro_rules | `(tactic| walk_at "w1") => `(tactic| (with_reducible first | refine r_seq ?_ | refine r_bin ?_ | refine r_k ?_ | refine r_var ?_ | refine r_g0 ?_ | refine r_gS ?_ | refine r_vkD ?_ | refine r_cD ?_ | refine r_p0 ?_ | refine r_pS ?_ | refine r_cons ?_ | refine r_nil ?_ | refine r_next ?_ | refine r_ret ?_ | refine r_drop ?_ | refine r_ifS ?_ | refine r_bool ?_ | refine r_tru ?_ | refine r_asI ?_ | refine r_asB ?_ | refine r_andT ?_ | refine r_orT ?_ | refine r_notT ?_ | refine r_yes ?_ | refine r_if ?_ | refine r_andV ?_ | refine r_orV ?_ | refine r_notV ?_ | refine r_trN ?_ | refine r_trB ?_ | refine r_trI ?_ | refine r_trT ?_ | refine r_trL ?_ | refine r_iT ?_ | refine r_iF ?_ | refine r_iN ?_ | refine r_in0 ?_ | refine r_in1 ?_ | refine r_cL ?_ | refine r_cK ?_ | refine r_cI ?_ | refine r_vkL ?_ | refine r_vkK ?_ | refine r_vkI ?_ | refine r_move ?_ | refine r_mvDk ?_ | refine r_mvD ?_ | refine r_mvL ?_ | refine r_mvK ?_ | refine r_mvI ?_ | refine r_mI0 ?_ | refine r_adI ?_ | refine r_eqI ?_ | refine r_eqS ?_ | refine r_eqB ?_ | refine r_eqL0 ?_ | refine r_eqT0 ?_ | refine r_eqTT ?_ | refine r_eqLL ?_ | refine r_is1N ?_ | refine r_is0N ?_ | refine r_is1I ?_ | refine r_is0I ?_ | refine r_is1S ?_ | refine r_is0S ?_ | refine r_is1B ?_ | refine r_is0B ?_ | refine r_is1T ?_ | refine r_is0T ?_ | refine r_is1L ?_ | refine r_is0L ?_ | refine r_is1K ?_ | refine r_is0K ?_ | refine r_is1O ?_ | refine r_is0O ?_ | refine r_is ?_ | refine r_chK ?_ | refine r_chain ?_ | refine r_neg ?_ | refine r_tup ?_ | refine r_lst ?_ | refine r_cb ?_ | refine r_mint ?_ | refine r_mintB ?_ | refine r_mabs ?_ | refine r_mmax ?_ | refine r_mmin ?_ | refine r_mlL ?_ | refine r_mlT ?_ | refine r_mlS ?_ | refine r_mtL ?_ | refine r_mtT ?_ | refine r_tuple ?_ | refine r_rev ?_ | refine r_mrL ?_ | refine r_mrT ?_ | refine r_mrS ?_ | refine r_foldB ?_ | refine r_mlenL ?_ | refine r_mlenT ?_ | refine r_isiX ?_ | refine r_axL ?_ | refine r_axK ?_ | refine r_axDL ?_ | refine r_axDT ?_ | refine r_axDS ?_ | refine r_axDK ?_ | refine r_ixA ?_ | refine r_gv ?_ | refine r_part0 ?_ | refine r_part1 ?_ | refine r_slL ?_ | refine r_slT ?_ | refine r_slS ?_ | refine r_eqVX ?_ | refine r_ekI ?_ | refine r_ekT ?_ | refine r_ekS ?_ | refine r_ekB ?_ | refine r_ekN ?_ | refine r_ekL ?_ | refine r_ekOL ?_ | refine r_ekO ?_ | refine r_ekDO ?_ | refine r_lenV ?_ | refine r_lnT ?_ | refine r_lnL ?_ | refine r_lnK ?_ | refine r_lnS ?_ | refine r_for ?_ | refine r_itr ?_ | refine r_sqL ?_ | refine r_sqT ?_ | refine r_sqS ?_ | refine r_rng1 ?_ | refine r_rng2 ?_ | refine r_itrE ?_ | refine r_en1 ?_ | refine r_itrZ ?_ | refine r_zp1 ?_ | refine r_asK ?_ | refine r_setA ?_ | refine r_setL ?_ | refine r_setX ?_ | refine r_putV ?_ | refine r_putX ?_ | refine r_srtA ?_ | refine r_dispN ?_ | refine r_disp ?_ | refine r_prs0 ?_ | refine r_prsS ?_ | refine r_kyI ?_ | refine r_kyS ?_ | refine r_wp0 ?_ | refine r_wpS ?_ | refine r_lc ?_ | refine r_asL ?_ | refine r_pop ?_ | refine r_pb0 ?_ | refine r_pbA1 ?_ | refine r_pbA2 ?_ | refine r_pbA3 ?_ | refine r_pbA4 ?_ | refine r_pbN ?_ | refine r_pbD ?_ | refine r_pbK ?_ | refine r_pbL ?_ | refine r_pbKv ?_ | refine r_call1 ?_ | refine r_call1B ?_ | refine r_call2 ?_ | refine r_call2B ?_ | refine r_call3 ?_ | refine r_call3B ?_ | refine r_call4 ?_ | refine r_call0 ?_ | refine r_make3 ?_ | refine r_po0 ?_ | refine r_par ?_ | refine r_ao0 ?_ | refine r_aoS ?_ | refine r_asDk ?_ | refine r_dkI ?_ | refine r_hasDk ?_ | refine r_dkS ?_ | refine r_dkA ?_ | refine r_dkApp ?_ | refine r_toI ?_ | refine r_dkNew ?_ | refine r_dkE ?_ | refine r_dkPop ?_ | refine r_try ?_ | refine r_raise ?_ | refine r_gCn ?_ | refine r_gNl ?_ | refine r_asgG ?_ | refine r_brk ?_ | refine r_cont ?_ | refine r_app ?_ | refine r_ext ?_ | refine r_hasL ?_ | refine r_appX ?_ | refine r_extX ?_ | refine r_asLD ?_ | refine r_asN ?_ | refine r_fldS ?_ | refine r_fsX ?_ | refine r_asg (by decide) ?_ | refine r_gNm (by decide) ?_ | refine r_aug (by decide) ?_ | refine r_poS (by decide) ?_ | refine r_hasP ?_ ?_ | refine r_ixV ?_ ?_ | refine r_slV ?_ ?_ | refine r_eqV ?_ ?_ | refine r_getV ?_ ?_ | refine r_gTp rfl ?_ | refine r_inT0 rfl rfl ?_ | refine r_inT1 rfl rfl ?_ | refine r_inL0 rfl rfl ?_ | refine r_inL1 rfl rfl ?_ | exact trivial))
local macro_rules | `(tactic| walk_at "wp") => `(tactic| first | walk_at "w1" | (with_reducible first | refine r_call_10 ?_ | refine r_call_021 ?_ | refine r_call_102 ?_ | refine r_call_120 ?_ | refine r_call_201 ?_ | refine r_call_210 ?_ | refine r_pow (by walk_at "wd") (by walk_at "wpow") ?_ | refine r_dsp (by decide) ?_ | refine r_mI (by walk_at "wd") ?_ | refine r_muI (by walk_at "wd") ?_ | refine r_sm (by walk_at "wd") ?_ | refine r_ixT (by walk_at "wx") ?_ | refine r_ixL (by walk_at "wx") ?_ | refine r_rg1 (by walk_at "wd") ?_ | refine r_rg2 (by walk_at "wd") ?_ | refine r_adT (by walk_at "wd") ?_ | refine r_adL (by walk_at "wd") ?_ | refine r_muT (by walk_at "wd") (by walk_at "wd") ?_ | refine r_muL (by walk_at "wd") (by walk_at "wd") ?_ | refine r_mstr (by walk_at "wd") ?_ | refine And.intro (by walk_at "wd") ?_ | refine r_gvK rfl rfl ?_ | refine r_gvDK rfl rfl ?_) | (with_reducible first | refine r_iD (fun _ => ?_) (fun z => absurd (by first | rfl | decide | omega) z) | refine r_iD (fun z => absurd z (by first | decide | omega)) (fun _ => ?_) | refine r_iD (fun _ => ?_) (fun _ => ?_) | refine r_iNe (fun _ => ?_) (fun _ => ?_) | refine r_iNeI (fun _ => ?_) (fun _ => ?_)) | ((with_reducible apply r_isiK); exact rfl) | intro _)
local macro_rules | `(tactic| walk_at "ws") => `(tactic| repeat' (walk_at "wp"))
/-! ### sizes of texts -/
def Ok8 (s : Str) : Prop := ∀ c ∈ s.cps.toList, c < 16 ^ 8
theorem ok8_of (s : String) : Ok8 (Str.ofString s) := by
  intro c hc
  rw [Str.ofString_eq_toList] at hc
  obtain ⟨d, _, rfl⟩ := List.mem_map.mp (by simpa using hc)
  have : d.toNat < 1114112 := by
    have h := d.valid
    rcases h with h | h
    · have : d.toNat < 55296 := h
      omega
    · exact h.2
  omega
theorem Ok8.app {s t : Str} (h1 : Ok8 s) (h2 : Ok8 t) : Ok8 (s ++ t) := by
  intro c hc
  have hc : c ∈ (s.cps ++ t.cps).toList := hc
  rcases (by simpa using hc : c ∈ s.cps ∨ c ∈ t.cps) with h | h
  · exact h1 c (by simpa using h)
  · exact h2 c (by simpa using h)
theorem ok8_join {s : Str} (hs : Ok8 s) : ∀ l : List Str, (∀ t ∈ l, Ok8 t) → Ok8 (Str.join s l)
  | [], _ => fun c hc => absurd hc (by simp [Str.join, Str.empty])
  | [x], h => h x List.mem_cons_self
  | x :: y :: r, h => ((h x List.mem_cons_self).app hs).app (ok8_join hs (y :: r) fun t ht => h t (List.mem_cons_of_mem _ ht))
theorem ok8_textFrom : ∀ (l : List Str) (k : Nat) (acc : Str), Ok8 acc → (∀ t ∈ l, Ok8 t) → Ok8 (textFrom k acc l)
  | [], _, _, h, _ => h
  | t :: r, k, acc, h, hl => ok8_textFrom r (k + 1) _ ((h.app (ok8_of _)).app (hl t List.mem_cons_self)) fun u hu => hl u (List.mem_cons_of_mem _ hu)
theorem ok8_char (q c : Nat) (hq : q < 16 ^ 8) (hc : c < 16 ^ 8) : ∀ d ∈ Builtin.Str.reprChar q c, d < 16 ^ 8 := by
  have hx : ∀ w, ∀ d ∈ (List.replicate (w - ((Nat.toDigits 16 c).map Char.toNat).length) 48 ++ (Nat.toDigits 16 c).map Char.toNat), d < 16 ^ 8 := fun w d hd => by
    rcases List.mem_append.mp hd with h | h
    · rw [(List.mem_replicate.mp h).2]; decide
    · obtain ⟨e, _, rfl⟩ := List.mem_map.mp h
      have : e.toNat < 1114112 := by
        have h := e.valid
        rcases h with h | h
        · have : e.toNat < 55296 := h
          omega
        · exact h.2
      omega
  intro d hd
  unfold Builtin.Str.reprChar at hd
  dsimp only at hd
  repeat' split at hd
  all_goals first
    | (simp only [List.mem_cons, List.not_mem_nil, or_false] at hd; rcases hd with rfl | rfl <;> first | omega | decide)
    | (simp only [List.mem_cons, List.not_mem_nil, or_false] at hd; omega)
    | (rcases List.mem_append.mp hd with h | h
       · simp only [List.mem_cons, List.not_mem_nil, or_false] at h; omega
       · exact hx _ d h)
theorem ok8_fold (q : Nat) (hq : q < 16 ^ 8) : ∀ (l : List Nat) (acc : Array Nat), (∀ c ∈ l, c < 16 ^ 8) → (∀ c ∈ acc.toList, c < 16 ^ 8) → ∀ c ∈ (l.foldl (fun out c => out ++ (Builtin.Str.reprChar q c).toArray) acc).toList, c < 16 ^ 8
  | [], _, _, h => h
  | x :: r, acc, hl, h => ok8_fold q hq r _ (fun c hc => hl c (List.mem_cons_of_mem _ hc)) fun c hc => by
    rw [Array.toList_append] at hc
    rcases List.mem_append.mp hc with z | z
    · exact h c z
    · exact ok8_char q x hq (hl x List.mem_cons_self) c (by simpa using z)
theorem ok8_repr {s : Str} (h : Ok8 s) : Ok8 (PySem.reprText s) := by
  have hq : PySem.reprQuote s < 16 ^ 8 := by unfold PySem.reprQuote; split <;> decide
  unfold PySem.reprText
  intro c hc
  rw [← Array.foldl_toList] at hc
  have := ok8_fold _ hq s.cps.toList #[PySem.reprQuote s] h (fun c hc => by
    have : c = PySem.reprQuote s := by simpa using hc
    rw [this]; exact hq)
  simp only [Array.toList_push, List.mem_append, List.mem_singleton] at hc
  rcases hc with hc | hc
  · exact this c hc
  · rw [hc]; exact hq
mutual
theorem ok8_shown (B : Nat) : ∀ d : PyData, d.leavesShort B = true → Ok8 d.shown
  | .none, _ => ok8_of _
  | .bool b, _ => by cases b <;> exact ok8_of _
  | .int i, _ => ok8_of _
  | .str x, h => by
    have hx : Ok8 x := by
      intro c hc
      have := (by simpa only [PyData.leavesShort, List.all_eq_true, decide_eq_true_eq] using h : ∀ c ∈ x.cps.toList, c < 16 ^ 8)
      exact this c hc
    simp only [PyData.shown]
    exact ok8_repr hx
  | .list xs, h => by
    simp only [PyData.shown]
    exact (ok8_textFrom _ _ _ (ok8_of _) (ok8_shownAll B xs (by simpa only [PyData.leavesShort] using h))).app (ok8_of _)
  | .tuple xs, h => by
    simp only [PyData.shown, tupleText]
    exact ((ok8_of _).app (ok8_join (ok8_of _) _ (ok8_shownAll B xs (by simpa only [PyData.leavesShort] using h)))).app (ok8_of _)
  | .dict kvs, h => by
    simp only [PyData.shown, dictText]
    exact ((ok8_of _).app (ok8_join (ok8_of _) _ (ok8_shownKv B kvs (by simpa only [PyData.leavesShort] using h)))).app (ok8_of _)
theorem ok8_shownAll (B : Nat) : ∀ xs : List PyData, PyData.leavesShortAll B xs = true → ∀ t ∈ PyData.shownAll xs, Ok8 t
  | [], _, t, ht => by simp only [PyData.shownAll, List.not_mem_nil] at ht
  | x :: xs, h, t, ht => by
    have h' : x.leavesShort B = true ∧ PyData.leavesShortAll B xs = true := by simpa only [PyData.leavesShortAll, Bool.and_eq_true] using h
    simp only [PyData.shownAll, List.mem_cons] at ht
    rcases ht with rfl | ht
    · exact ok8_shown B x h'.1
    · exact ok8_shownAll B xs h'.2 t ht
theorem ok8_shownKv (B : Nat) : ∀ kvs : List (PyData × PyData), PyData.leavesShortKv B kvs = true → ∀ t ∈ PyData.shownKv kvs, Ok8 t
  | [], _, t, ht => by simp only [PyData.shownKv, List.not_mem_nil] at ht
  | (k, v) :: r, h, t, ht => by
    have h' : (k.leavesShort B = true ∧ v.leavesShort B = true) ∧ PyData.leavesShortKv B r = true := by simpa only [PyData.leavesShortKv, Bool.and_eq_true] using h
    simp only [PyData.shownKv, List.mem_cons] at ht
    rcases ht with rfl | ht
    · exact ((ok8_shown B k h'.1.1).app (ok8_of _)).app (ok8_shown B v h'.1.2)
    · exact ok8_shownKv B r h'.2 t ht
end
/-! ### data of bounded size -/
structure Nc (d b : Nat) (x : D) : Prop where
  ok : okD x = true
  sh : (toPy x).showable = true
  lv : (toPy x).leavesShort 60 = true
  dep : (toPy x).depth ≤ d
  bk : (toPy x).bulk ≤ b
section
variable {d d' b b' n : Nat} {x : D} {xs : List D}
theorem Nc.mono (h : Nc d b x) (h1 : d ≤ d') (h2 : b ≤ b') : Nc d' b' x := ⟨h.ok, h.sh, h.lv, Nat.le_trans h.dep h1, Nat.le_trans h.bk h2⟩
theorem Nc.len (h : Nc d b x) : (toPy x).shown.length ≤ 62 * b + 60 := by
  have := PyData.shown_le_bulk 60 (by decide) _ h.lv
  have := h.bk
  omega
theorem Nc.shw (h : Nc d b x) (h1 : d ≤ 64) (h2 : b ≤ 200000) : Shw x := ⟨h.ok, h.sh, Nat.le_trans h.dep h1, by have := h.len; show _ ≤ 16777216; omega⟩
theorem Nc.shwS (h : Nc d b x) (h2 : b ≤ 20000) : Shw (.str (toPy x).shown) := by
  refine ⟨rfl, ?_, ?_, ?_⟩
  · simp [toPy, PyData.showable]
  · simp [toPy, PyData.depth]
  · have h3 := h.len
    have h4 := PySem.StrLaws.reprText_len _ (ok8_shown 60 _ h.lv)
    have e : (toPy (.str (toPy x).shown)).shown = PySem.reprText (toPy x).shown := by rw [toPy, PyData.shown]
    rw [e]
    show _ ≤ 16777216
    omega
theorem nc_all (h : ∀ x ∈ xs, Nc d b x) : okDs xs = true ∧ PyData.showableAll (toPys xs) = true ∧ PyData.leavesShortAll 60 (toPys xs) = true ∧ PyData.depthAll (toPys xs) ≤ d ∧ PyData.bulkAll (toPys xs) ≤ xs.length * (b + 1) := by
  induction xs with
  | nil => refine ⟨rfl, ?_, ?_, ?_, ?_⟩ <;> simp [toPys, PyData.showableAll, PyData.leavesShortAll, PyData.depthAll, PyData.bulkAll]
  | cons y ys ih =>
    obtain ⟨i1, i2, i3, i4, i5⟩ := ih fun x hx => h x (List.mem_cons_of_mem _ hx)
    have hy := h y List.mem_cons_self
    refine ⟨?_, ?_, ?_, ?_, ?_⟩
    · unfold okDs; rw [hy.ok, i1]; rfl
    · rw [toPys, PyData.showableAll, hy.sh, i2]; rfl
    · rw [toPys, PyData.leavesShortAll, hy.lv, i3]; rfl
    · rw [toPys, PyData.depthAll]; have := hy.dep; omega
    · rw [toPys, PyData.bulkAll, List.length_cons, Nat.add_mul]; have := hy.bk; omega
theorem nc_tup (h : ∀ x ∈ xs, Nc d b x) (hn : xs.length ≤ n) : Nc (d + 1) (n * (b + 1)) (.tup xs) := by
  obtain ⟨i1, i2, i3, i4, i5⟩ := nc_all h
  refine ⟨?_, ?_, ?_, ?_, ?_⟩
  · unfold okD; exact i1
  · rw [toPy, PyData.showable]; exact i2
  · rw [toPy, PyData.leavesShort]; exact i3
  · rw [toPy, PyData.depth]; omega
  · rw [toPy, PyData.bulk]; exact Nat.le_trans i5 (Nat.mul_le_mul_right _ hn)
theorem nc_lst (h : ∀ x ∈ xs, Nc d b x) (hn : xs.length ≤ n) : Nc (d + 1) (n * (b + 1)) (.lst xs) := by
  obtain ⟨i1, i2, i3, i4, i5⟩ := nc_all h
  refine ⟨?_, ?_, ?_, ?_, ?_⟩
  · unfold okD; exact i1
  · rw [toPy, PyData.showable]; exact i2
  · rw [toPy, PyData.leavesShort]; exact i3
  · rw [toPy, PyData.depth]; omega
  · rw [toPy, PyData.bulk]; exact Nat.le_trans i5 (Nat.mul_le_mul_right _ hn)
theorem nc_bl (z : Bool) : Nc 0 0 (.bl z) := by refine ⟨rfl, ?_, ?_, ?_, ?_⟩ <;> simp [toPy, PyData.showable, PyData.leavesShort, PyData.depth, PyData.bulk]
theorem nc_non : Nc 0 0 .non := by refine ⟨rfl, ?_, ?_, ?_, ?_⟩ <;> simp [toPy, PyData.showable, PyData.leavesShort, PyData.depth, PyData.bulk]
theorem nc_int {i : Int} (h : i.natAbs < 10 ^ 58) : Nc 0 0 (.int i) := by
  refine ⟨rfl, ?_, ?_, ?_, ?_⟩
  · simp only [toPy, PyData.showable, decide_eq_true_eq]
    by_cases h0 : i.natAbs = 0
    · rw [h0]; decide
    · exact (Nat.log2_lt h0).mpr (Nat.lt_trans h (by decide +kernel))
  · have h2 := int_text_length_le10 (k := 58) (by decide) h
    have e : (PyData.shown (.int i)).length ≤ 60 := by
      rw [PyData.shown, ofString_length]; omega
    rw [toPy, PyData.leavesShort]
    exact decide_eq_true e
  · simp [toPy, PyData.depth]
  · simp [toPy, PyData.bulk]
theorem nc_str {s : Str} (h : Ok8 s) (hl : s.length ≤ b) : Nc 0 b (.str s) := by
  refine ⟨rfl, ?_, ?_, ?_, ?_⟩
  · simp [toPy, PyData.showable]
  · simp only [toPy, PyData.leavesShort, List.all_eq_true, decide_eq_true_eq]; exact h
  · simp [toPy, PyData.depth]
  · simp only [toPy, PyData.bulk]; exact hl
theorem nc_strI {i : Int} (h : i.natAbs < 10 ^ 58) : Nc 0 60 (.str (toString i)) := by
  refine nc_str (ok8_of _) ?_
  have := int_text_length_le10 (k := 58) (by decide) h
  rw [ofString_length]
  omega
end
end Pv

set_option Elab.async false
set_option maxRecDepth 100000
set_option maxHeartbeats 4000000
set_option autoImplicit false
set_option linter.unusedVariables false
namespace Pv
open PySem L2
local macro_rules | `(tactic| walk_at "wpow") => `(tactic| (simp only [Int.reduceToNat, Int.reducePow]; rfl))
local macro_rules | `(tactic| walk_at "wx") => `(tactic| first | rfl | assumption)
local macro_rules | `(tactic| walk_at "wd") => `(tactic| first | with_reducible rfl | assumption | omega | decide | (refine cdivw_small ?_ ?_ <;> omega) | (refine cdivw_small ?_ ?_ <;> split <;> omega) | (refine cpow_small ?_ ?_ ?_ ?_ <;> omega) | (refine cmul_r ?_ ?_ <;> omega) | (refine cmul_l ?_ ?_ <;> omega) | (simp only [List.length_cons, List.length_nil, List.length_append, List.length_reverse, List.length_map, flat_len, Int.reduceToNat]; omega) | (simp only [sizeLine, List.length_cons, List.length_nil, List.length_append, List.length_reverse, List.length_map, flat_len, Int.reduceToNat]; omega))
local macro_rules | `(tactic| walk_at "w1") => `(tactic| (with_reducible first | refine r_seq ?_ | refine r_bin ?_ | refine r_k ?_ | refine r_var ?_ | refine r_g0 ?_ | refine r_gS ?_ | refine r_vkD ?_ | refine r_cD ?_ | refine r_p0 ?_ | refine r_pS ?_ | refine r_cons ?_ | refine r_nil ?_ | refine r_next ?_ | refine r_ret ?_ | refine r_drop ?_ | refine r_ifS ?_ | refine r_bool ?_ | refine r_tru ?_ | refine r_asI ?_ | refine r_asB ?_ | refine r_andT ?_ | refine r_orT ?_ | refine r_notT ?_ | refine r_yes ?_ | refine r_if ?_ | refine r_andV ?_ | refine r_orV ?_ | refine r_notV ?_ | refine r_trN ?_ | refine r_trB ?_ | refine r_trI ?_ | refine r_trT ?_ | refine r_trL ?_ | refine r_iT ?_ | refine r_iF ?_ | refine r_iN ?_ | refine r_in0 ?_ | refine r_in1 ?_ | refine r_cL ?_ | refine r_cK ?_ | refine r_cI ?_ | refine r_vkL ?_ | refine r_vkK ?_ | refine r_vkI ?_ | refine r_move ?_ | refine r_mvDk ?_ | refine r_mvD ?_ | refine r_mvL ?_ | refine r_mvK ?_ | refine r_mvI ?_ | refine r_mI0 ?_ | refine r_adI ?_ | refine r_eqI ?_ | refine r_eqS ?_ | refine r_eqB ?_ | refine r_eqL0 ?_ | refine r_eqT0 ?_ | refine r_eqTT ?_ | refine r_eqLL ?_ | refine r_is1N ?_ | refine r_is0N ?_ | refine r_is1I ?_ | refine r_is0I ?_ | refine r_is1S ?_ | refine r_is0S ?_ | refine r_is1B ?_ | refine r_is0B ?_ | refine r_is1T ?_ | refine r_is0T ?_ | refine r_is1L ?_ | refine r_is0L ?_ | refine r_is1K ?_ | refine r_is0K ?_ | refine r_is1O ?_ | refine r_is0O ?_ | refine r_is ?_ | refine r_chK ?_ | refine r_chain ?_ | refine r_neg ?_ | refine r_tup ?_ | refine r_lst ?_ | refine r_cb ?_ | refine r_mint ?_ | refine r_mintB ?_ | refine r_mabs ?_ | refine r_mmax ?_ | refine r_mmin ?_ | refine r_mlL ?_ | refine r_mlT ?_ | refine r_mlS ?_ | refine r_mtL ?_ | refine r_mtT ?_ | refine r_tuple ?_ | refine r_rev ?_ | refine r_mrL ?_ | refine r_mrT ?_ | refine r_mrS ?_ | refine r_foldB ?_ | refine r_mlenL ?_ | refine r_mlenT ?_ | refine r_isiX ?_ | refine r_axL ?_ | refine r_axK ?_ | refine r_axDL ?_ | refine r_axDT ?_ | refine r_axDS ?_ | refine r_axDK ?_ | refine r_ixA ?_ | refine r_gv ?_ | refine r_part0 ?_ | refine r_part1 ?_ | refine r_slL ?_ | refine r_slT ?_ | refine r_slS ?_ | refine r_eqVX ?_ | refine r_ekI ?_ | refine r_ekT ?_ | refine r_ekS ?_ | refine r_ekB ?_ | refine r_ekN ?_ | refine r_ekL ?_ | refine r_ekOL ?_ | refine r_ekO ?_ | refine r_ekDO ?_ | refine r_lenV ?_ | refine r_lnT ?_ | refine r_lnL ?_ | refine r_lnK ?_ | refine r_lnS ?_ | refine r_for ?_ | refine r_itr ?_ | refine r_sqL ?_ | refine r_sqT ?_ | refine r_sqS ?_ | refine r_rng1 ?_ | refine r_rng2 ?_ | refine r_itrE ?_ | refine r_en1 ?_ | refine r_itrZ ?_ | refine r_zp1 ?_ | refine r_asK ?_ | refine r_setA ?_ | refine r_setL ?_ | refine r_setX ?_ | refine r_putV ?_ | refine r_putX ?_ | refine r_srtA ?_ | refine r_dispN ?_ | refine r_disp ?_ | refine r_prs0 ?_ | refine r_prsS ?_ | refine r_kyI ?_ | refine r_kyS ?_ | refine r_wp0 ?_ | refine r_wpS ?_ | refine r_lc ?_ | refine r_asL ?_ | refine r_pop ?_ | refine r_pb0 ?_ | refine r_pbA1 ?_ | refine r_pbA2 ?_ | refine r_pbA3 ?_ | refine r_pbA4 ?_ | refine r_pbN ?_ | refine r_pbD ?_ | refine r_pbK ?_ | refine r_pbL ?_ | refine r_pbKv ?_ | refine r_call1 ?_ | refine r_call1B ?_ | refine r_call2 ?_ | refine r_call2B ?_ | refine r_call3 ?_ | refine r_call3B ?_ | refine r_call4 ?_ | refine r_call0 ?_ | refine r_make3 ?_ | refine r_po0 ?_ | refine r_par ?_ | refine r_ao0 ?_ | refine r_aoS ?_ | refine r_asDk ?_ | refine r_dkI ?_ | refine r_hasDk ?_ | refine r_dkS ?_ | refine r_dkA ?_ | refine r_dkApp ?_ | refine r_toI ?_ | refine r_dkNew ?_ | refine r_dkE ?_ | refine r_dkPop ?_ | refine r_try ?_ | refine r_raise ?_ | refine r_gCn ?_ | refine r_gNl ?_ | refine r_asgG ?_ | refine r_brk ?_ | refine r_cont ?_ | refine r_app ?_ | refine r_ext ?_ | refine r_hasL ?_ | refine r_appX ?_ | refine r_extX ?_ | refine r_asLD ?_ | refine r_asN ?_ | refine r_fldS ?_ | refine r_fsX ?_ | refine r_asg (by decide) ?_ | refine r_gNm (by decide) ?_ | refine r_aug (by decide) ?_ | refine r_poS (by decide) ?_ | refine r_hasP ?_ ?_ | refine r_ixV ?_ ?_ | refine r_slV ?_ ?_ | refine r_eqV ?_ ?_ | refine r_getV ?_ ?_ | refine r_gTp rfl ?_ | refine r_inT0 rfl rfl ?_ | refine r_inT1 rfl rfl ?_ | refine r_inL0 rfl rfl ?_ | refine r_inL1 rfl rfl ?_ | exact trivial))
local macro_rules | `(tactic| walk_at "wp") => `(tactic| first | walk_at "w1" | (with_reducible first | refine r_call_10 ?_ | refine r_call_021 ?_ | refine r_call_102 ?_ | refine r_call_120 ?_ | refine r_call_201 ?_ | refine r_call_210 ?_ | refine r_pow (by walk_at "wd") (by walk_at "wpow") ?_ | refine r_dsp (by decide) ?_ | refine r_mI (by walk_at "wd") ?_ | refine r_muI (by walk_at "wd") ?_ | refine r_sm (by walk_at "wd") ?_ | refine r_ixT (by walk_at "wx") ?_ | refine r_ixL (by walk_at "wx") ?_ | refine r_rg1 (by walk_at "wd") ?_ | refine r_rg2 (by walk_at "wd") ?_ | refine r_adT (by walk_at "wd") ?_ | refine r_adL (by walk_at "wd") ?_ | refine r_muT (by walk_at "wd") (by walk_at "wd") ?_ | refine r_muL (by walk_at "wd") (by walk_at "wd") ?_ | refine r_mstr (by walk_at "wd") ?_ | refine And.intro (by walk_at "wd") ?_ | refine r_gvK rfl rfl ?_ | refine r_gvDK rfl rfl ?_) | (with_reducible first | refine r_iD (fun _ => ?_) (fun z => absurd (by first | rfl | decide | omega) z) | refine r_iD (fun z => absurd z (by first | decide | omega)) (fun _ => ?_) | refine r_iD (fun _ => ?_) (fun _ => ?_) | refine r_iNe (fun _ => ?_) (fun _ => ?_) | refine r_iNeI (fun _ => ?_) (fun _ => ?_)) | ((with_reducible apply r_isiK); exact rfl) | intro _)
local macro_rules | `(tactic| walk_at "ws") => `(tactic| repeat' (walk_at "wp"))
/-! ### joining: what the top holds of a def; a def's promise with its name -/
def TxD (K : PySem.W.Frag) (mg : Str → Option Value) (x q : Str) (st : Stmt) : Prop := ∃ (f : Addr) (fd : FuncData), mg x = some (.ref f) ∧ Fun K x q st f fd
theorem txD {K : PySem.W.Frag} {h : Heap} {mg : Str → Option Value} (X : K.In h) (G : h.Ns mainGlobals mg) {x q : Str} {st : Stmt} {f : Addr} {oc : Value} {od an : Option Addr} {osl : Array (Option Value)} {kV doc pm cdv ct : Value}
    (a : PySem.W.nsIn K mainGlobals x = some (some (.ref f))) (l : K.lookup f = some ⟨oc, od, .func (PySem.W.fnOf x q (defArgs st) (defBody st) (defScope st) .none kV doc pm an cdv ct), osl⟩)
    (c : PySem.W.codeIn K cdv q = true) (k : PySem.W.keepIn K (.ref f) = true) : TxD K mg x q st := ⟨f, _, PySem.W.mg_of X G a, fun_mk l c k⟩
section
variable {P : Program} {w : World} {K : PySem.W.Frag} {mg : Str → Option Value} {base : Heap} {G : Gs}
def Dn (P : Program) (w : World) (K : PySem.W.Frag) (mg : Str → Option Value) (base : Heap) (G : Gs) (x : Str) (F : Fn) (k : Nat) : Prop :=
  ∃ (a : Addr) (fd : FuncData), mg x = some (.ref a) ∧ PySem.W.keepIn K (.ref a) = true ∧ FnG P w K mg base k a fd F.ps (spOf G F.ps.length F.C) ∧ ∀ s ∈ F.sh, Shp K fd F.ps s.1 s.2.1 s.2.2
theorem Dn.mono {x : Str} {F : Fn} {j k : Nat} (h : Dn P w K mg base G x F j) (hk : j ≤ k) : Dn P w K mg base G x F k := let ⟨a, fd, h1, h2, h3, h4⟩ := h; ⟨a, fd, h1, h2, h3.mono hk, h4⟩
/-- names to promises -/
def fnL (l : List (Str × Fn)) : Str → Option Fn := fun x => (l.find? fun p => decide (p.1 = x)).map (·.2)
theorem fnL_in {l : List (Str × Fn)} {x : Str} {F : Fn} (h : fnL l x = some F) : (x, F) ∈ l := by
  unfold fnL at h
  obtain ⟨⟨y, F'⟩, hp, rfl⟩ := Option.map_eq_some_iff.mp h
  have e : y = x := by simpa using List.find?_some hp
  subst e
  exact List.mem_of_find?_eq_some hp
inductive DnL (P : Program) (w : World) (K : PySem.W.Frag) (mg : Str → Option Value) (base : Heap) (G : Gs) (k : Nat) : List (Str × Fn) → Prop
  | nil : DnL P w K mg base G k []
  | cons {x : Str} {F : Fn} {j : Nat} {l : List (Str × Fn)} (h : Dn P w K mg base G x F j) (hk : j ≤ k) (r : DnL P w K mg base G k l) : DnL P w K mg base G k ((x, F) :: l)
theorem DnL.at_ {k : Nat} : ∀ {l : List (Str × Fn)}, DnL P w K mg base G k l → ∀ {x : Str} {F : Fn}, (x, F) ∈ l → Dn P w K mg base G x F k
  | _, .nil, _, _, h => absurd h List.not_mem_nil
  | _, .cons h hk r, x, F, m => by
    rcases List.mem_cons.mp m with e | m
    · cases e; exact h.mono hk
    · exact r.at_ m
theorem DnL.fn {k : Nat} {l : List (Str × Fn)} (h : DnL P w K mg base G k l) : ∀ x f, fnL l x = some f → ∃ (a : Addr) (fd : FuncData), mg x = some (.ref a) ∧ PySem.W.keepIn K (.ref a) = true ∧ FnG P w K mg base k a fd f.ps (spOf G f.ps.length f.C) ∧ ∀ s ∈ f.sh, Shp K fd f.ps s.1 s.2.1 s.2.2 :=
  fun _ _ e => h.at_ (fnL_in e)
/-- how values come to a def's parameters -/
def ShpOk (x q : Str) (st : Stmt) (F : Fn) : Prop := ∀ s ∈ F.sh, ∀ (kV doc pm : Value) (an : Option Addr) (cdv ct : Value) (us ws : List Value), us.length = s.1 → ws.length = s.2.1.length →
  bindArgs (PySem.W.fnOf x q (defArgs st) (defBody st) (defScope st) .none kV doc pm an cdv ct) ⟨us, s.2.1.zip ws⟩ = pure (F.ps.zip (s.2.2.map fun i => (us ++ ws).getD i .none))
theorem shp_of {x q : Str} {st : Stmt} {F : Fn} {f : Addr} {fd : FuncData} (h : ShpOk x q st F) (FF : Fun K x q st f fd) : ∀ s ∈ F.sh, Shp K fd F.ps s.1 s.2.1 s.2.2 := by
  obtain ⟨oc, od, kV, doc, pm, an, cdv, ct, osl, rfl, _⟩ := FF.ex
  exact fun s hs s' us ws _ hu hw => .of_eq (h s hs kV doc pm an cdv ct us ws hu hw)
theorem dn_of {x q : Str} {st : Stmt} {N : List Str} {k : Nat} {m : WS} {c : Cs} {F : Fn} (D : TxD K mg x q st) (hs : ShpOk x q st F) (Sc : FnScope N F.ps (defScope st)) (hn : (decide (F.ps.length ≤ N.length) && decide (c.N = N) && decide (c.sc = defScope st) && (c.dl == G.dl) && (c.dc == G.dc) && decide (c.kb = k)) = true)
    (hlm : c.lm = none) (hlf : ∀ x, c.lf x = none) (T : Sta P w K mg base G k c)
    (hm : evSs (evS (ev 30) c 14) (defBody st) = m) (hC : ∀ os Qd Ed, os.length = F.ps.length → F.C os Qd Ed → m (slot0 N.length os) (endOf c.as F.ps.length Qd Ed)) : Dn P w K mg base G x F (k + 1) := by
  obtain ⟨f, fd, hf, FF⟩ := D
  exact ⟨f, fd, hf, FF.kp, fnG_ev FF Sc hn hlm hlf T hm hC, shp_of hs FF⟩
/-- a def that makes lambdas: its code object and table -/
def TxL (K : PySem.W.Frag) (mg : Str → Option Value) (base : Heap) (x q : Str) (st : Stmt) (cc Pt : Addr) : Prop := ∃ (f : Addr) (fd : FuncData), mg x = some (.ref f) ∧ Fun K x q st f fd ∧ fd.code = .ref cc ∧ LamX.TabB base mg cc Pt
/-- what the joining holds of a def that gets a function -/
def DnF (P : Program) (w : World) (K : PySem.W.Frag) (mg : Str → Option Value) (base : Heap) (G : Gs) (x : Str) (CL : CtL) (k : Nat) : Prop := ∃ g : Addr, mg x = some (.ref g) ∧ PySem.W.keepIn K (.ref g) = true ∧ FnL P w K mg base G k g CL
theorem dn_ofL {x q : Str} {st : Stmt} {N : List Str} {k : Nat} {m : WS} {c : Cs} {F : Fn} {cc Pt : Addr} {y : Str} {CL : CtL} (D : TxL K mg base x q st cc Pt) (hs : ShpOk x q st F) (Sc : FnScope N F.ps (defScope st)) (hn : (decide (F.ps.length ≤ N.length) && decide (c.N = N) && decide (c.sc = defScope st) && (c.dl == G.dl) && (c.dc == G.dc) && decide (c.kb = k)) = true)
    (hlm : c.lm = none) (hlf : c.lf = fun x => if x = y then some CL else none) (hY : DnF P w K mg base G y CL k) (hG : G.tb = [(Pt, lamN q)]) (T : Sta P w K mg base G k c)
    (hm : evSs (evS (ev 30) c 14) (defBody st) = m) (hC : ∀ os Qd Ed, os.length = F.ps.length → F.C os Qd Ed → m (slot0 N.length os) (endOf c.as F.ps.length Qd Ed)) : Dn P w K mg base G x F (k + 3) := by
  obtain ⟨f, fd, hf, FF, hcd, TB⟩ := D
  refine ⟨f, fd, hf, FF.kp, fnG_evR 2 FF Sc hn hlm T (fun z CL' hz => ?_) hm hC, shp_of hs FF⟩
  rw [hlf] at hz
  have hz : (if z = y then some CL else none) = some CL' := hz
  by_cases e : z = y
  · rw [if_pos e] at hz
    have ec : CL = CL' := Option.some.inj hz
    rw [e, ← ec]
    obtain ⟨g, h1, h2, h3⟩ := hY
    exact ⟨Nat.le_refl 2, g, cc, Pt, h1, h2, h3, TB, hcd, by rw [hG]; exact List.mem_cons_self, fun p hp _ => by rw [hG] at hp; rw [List.mem_singleton.mp hp]⟩
  · rw [if_neg e] at hz; cases hz
/-- a promise that asks for the impossible -/
theorem dn_no {x q : Str} {st : Stmt} {F : Fn} {k : Nat} (D : TxD K mg x q st) (hs : ShpOk x q st F) (hF : ∀ os Q E, ¬ F.C os Q E) : Dn P w K mg base G x F k := by
  obtain ⟨f, fd, hf, FF⟩ := D
  refine ⟨f, fd, hf, FF.kp, ⟨fun vs H Q E h => h.1, fun A outer s H args us vs Q E hr hg e0 hb r h => ?_⟩, shp_of hs FF⟩
  obtain ⟨_, _, _, os, Qd, Ed, _, _, hc, _⟩ := h
  exact absurd hc (hF _ _ _)
end
section
open PySem.W
variable {K : PySem.W.Frag} {h : Heap} {mg : Str → Option Value}
theorem kit_tc {C : Addr} {T : String} (h2 : isClsIn K C = true) (h3 : typeIn K (.ref C) = some (.type "type")) (h : subIn K (.type T) (.ref C) = some false) : kitOne K (.type T) (.ref C) = some false := by
  have e2 : ((clsIn K C).isSome && typeIn K (.ref C) == some (.type "type")) = true := by
    have h2' : (clsIn K C).isSome = true := h2
    rw [h2', h3]; rfl
  unfold kitOne
  rw [if_neg (by intro z; cases z)]
  show (if ((clsIn K C).isSome && typeIn K (.ref C) == some (.type "type")) = true then subIn K (.type T) (.ref C) else none) = some false
  rw [if_pos e2]
  exact h
theorem kit_ct {C : Addr} {T : String} (hm : kitMeta T = true) (h : subIn K (.ref C) (.type T) = some false) : kitOne K (.ref C) (.type T) = some false := by
  unfold kitOne
  rw [if_neg (by intro z; cases z)]
  show (if kitMeta T = true then subIn K (.ref C) (.type T) else none) = some false
  rw [if_pos hm]
  exact h
theorem kit_cc {C : Addr} (h2 : isClsIn K C = true) (h3 : typeIn K (.ref C) = some (.type "type")) (h : subIn K (.ref C) (.ref C) = some true) : kitOne K (.ref C) (.ref C) = some true := by
  have e2 : ((clsIn K C).isSome && typeIn K (.ref C) == some (.type "type")) = true := by
    have h2' : (clsIn K C).isSome = true := h2
    rw [h2', h3]; rfl
  unfold kitOne
  split
  · rfl
  · show (if ((clsIn K C).isSome && typeIn K (.ref C) == some (.type "type")) = true then subIn K (.ref C) (.ref C) else none) = some true
    rw [if_pos e2]
    exact h
theorem exm_cc {S : Addr} (h1 : subIn K (.ref S) (.type "BaseException") = some true) (h2 : isClsIn K S = true) (h3 : typeIn K (.ref S) = some (.type "type")) (h4 : subIn K (.ref S) (.ref S) = some true) : exmOne K (.ref S) (.ref S) = some true := by
  have e1 : (subIn K (.ref S) (.type "BaseException") == some true) = true := by rw [h1]; rfl
  have e2 : ((clsIn K S).isSome && typeIn K (.ref S) == some (.type "type")) = true := by
    have h2' : (clsIn K S).isSome = true := h2
    rw [h2', h3]; rfl
  show (if (subIn K (.ref S) (.type "BaseException") == some true) = true then (if ((clsIn K S).isSome && typeIn K (.ref S) == some (.type "type")) = true then subIn K (.ref S) (.ref S) else none) else none) = some true
  rw [if_pos e1, if_pos e2]
  exact h4
theorem ty7c {C : Addr} (h1 : subIn K (.ref C) (.type "NoneType") = some false) (h2 : subIn K (.ref C) (.type "int") = some false) (h3 : subIn K (.ref C) (.type "bool") = some false) (h4 : subIn K (.ref C) (.type "str") = some false)
    (h5 : subIn K (.ref C) (.type "tuple") = some false) (h6 : subIn K (.ref C) (.type "list") = some false) (h7 : subIn K (.ref C) (.type "dict") = some false) : ∀ t ∈ baseTys, kitOne K (.ref C) (.type t) = some false := fun t ht => by
  simp only [baseTys, List.mem_cons, List.not_mem_nil, or_false] at ht
  rcases ht with rfl | rfl | rfl | rfl | rfl | rfl | rfl <;> exact kit_ct (by decide +kernel) (by assumption)
theorem ty7t {C : Addr} (i1 : isClsIn K C = true) (i2 : typeIn K (.ref C) = some (.type "type")) (h1 : subIn K (.type "NoneType") (.ref C) = some false) (h2 : subIn K (.type "int") (.ref C) = some false) (h3 : subIn K (.type "bool") (.ref C) = some false) (h4 : subIn K (.type "str") (.ref C) = some false)
    (h5 : subIn K (.type "tuple") (.ref C) = some false) (h6 : subIn K (.type "list") (.ref C) = some false) (h7 : subIn K (.type "dict") (.ref C) = some false) : ∀ t ∈ baseTys, kitOne K (.type t) (.ref C) = some false := fun t ht => by
  simp only [baseTys, List.mem_cons, List.not_mem_nil, or_false] at ht
  rcases ht with rfl | rfl | rfl | rfl | rfl | rfl | rfl <;> exact kit_tc i1 i2 (by assumption)
/-- an own error's class, by what stands at its address -/
def errChk (C : Addr) (cd : ClassData) (sl : Array (Option Value)) : Bool := match cd.mro, sl.toList with
  | .ref C' :: bm, [_, _, _, _, some (.builtin n), _] => C' == C && n == "Exception.__new__" && !cd.hasDel && excTail PySem.ErrX.bmE bm
  | _, _ => false
theorem err_ini {C : Addr} {od : Option Addr} {cd : ClassData} {sl : Array (Option Value)} (l : K.lookup C = some ⟨.type "type", od, .cls cd, sl⟩) (h : errChk C cd sl = true) : excInitIn K C PySem.ErrX.bmE "Exception.__new__" = true := by
  unfold excInitIn
  rw [l]
  exact h
theorem err_ovr {C : Addr} {cd : ClassData} {sl : Array (Option Value)} (l : clsIn K C = some cd) (h : errChk C cd sl = true) : excOver K C PySem.ErrX.bmE = true := by
  unfold excOver
  rw [l]
  unfold errChk at h
  split at h
  · rename_i C' bm _ _ _ _ n _ hm _
    simp only [Bool.and_eq_true] at h
    show (match cd.mro with | .ref C' :: bm => C' == C && excTail PySem.ErrX.bmE bm | _ => false) = true
    rw [hm]
    simp only [Bool.and_eq_true]
    exact ⟨h.1.1.1, h.2⟩
  · cases h
theorem errTxt {x f qn : Str} {C fI : Addr} {oc : Value} {od od2 : Option Addr} {cd : ClassData} {sl osl : Array (Option Value)} {doc pm : Value} {an : Option Addr} {cdv ct : Value} {p1 p2 q1 q2 q3 q4 : Pos} (X : K.In h) (G : h.Ns mainGlobals mg)
    (gC : nsIn K mainGlobals x = some (some (.ref C))) (l1 : K.lookup C = some ⟨.type "type", od2, .cls cd, sl⟩) (hk : errChk C cd sl = true) (l2 : clsIn K C = some cd) (tk : takerIn K C f = some none)
    (sa : findIn K (.ref C) "__setattr__" = some (some (.builtin "object.__setattr__"))) (ga : findIn K (.ref C) "__getattribute__" = some (some (.builtin "BaseException.__getattribute__"))) (gg : findIn K (.ref C) "__getattr__" = some none) (noF : findIn K (.ref C) f = some none)
    (iC : findIn K (.ref C) "__init__" = some (some (.ref fI))) (tC : typeIn K (.ref fI) = some (.type "function")) (kC : keepIn K (.ref C) = true) (exC : subIn K (.ref C) (.type "BaseException") = some true) (tyC : typeIn K (.ref C) = some (.type "type")) (hdC : hasDictIn K C = true)
    (l3 : K.lookup fI = some ⟨oc, od, .func (fnOf "__init__" qn (PySem.ErrX.iA f p1 p2) (PySem.ErrX.iB f q1 q2 q3 q4) (PySem.ErrX.iS f) .none .none doc pm an cdv ct), osl⟩) (c3 : codeIn K cdv qn = true) (ok : PySem.ErrX.FOk f) : PySem.ErrX.Txt K mg x C fI f qn :=
  { gC := mg_of X G gC, ini := err_ini l1 hk, ovr := err_ovr l2 hk, tk := tk, sa := sa, ga := ga, gg := gg, noF := noF, iC := iC, tC := tC, kC := kC, exC := exC, tyC := tyC, hdC := hdC, fn := ⟨_, _, _, _, _, _, _, _, _, _, _, _, _, _, l3, c3⟩, ok := ok }
theorem gl_ref (X : K.In h) (G : h.Ns mainGlobals mg) {x : Str} {C : Addr} (a : nsIn K mainGlobals x = some (some (.ref C))) : ∃ C, mg x = some (.ref C) := ⟨C, mg_of X G a⟩
theorem gl_int (X : K.In h) (G : h.Ns mainGlobals mg) {x : Str} {i : Int} {t : Tok} (a : nsIn K mainGlobals x = some (some (.int i t))) : ∃ u, mg x = some u ∧ RelV (.int i) u := ⟨_, mg_of X G a, ⟨t, rfl⟩⟩
end
section
variable {K : PySem.W.Frag} {h : Heap} {mg : Str → Option Value}
theorem bi_nil : ∀ x ∈ ([] : List Str), mg x = none := fun _ h => absurd h List.not_mem_nil
theorem bi_cons (X : K.In h) (G : h.Ns mainGlobals mg) {x : Str} {l : List Str} (a : PySem.W.nsIn K mainGlobals x = some none) (r : ∀ y ∈ l, mg y = none) : ∀ y ∈ x :: l, mg y = none := fun y hy => by
  rcases List.mem_cons.mp hy with rfl | hy
  · exact PySem.W.mg_none_of X G a
  · exact r y hy
end
end Pv

set_option Elab.async false
set_option maxRecDepth 100000
set_option maxHeartbeats 4000000
set_option autoImplicit false
set_option linter.unusedVariables false
namespace Pv
open PySem L2
local macro_rules | `(tactic| walk_at "wpow") => `(tactic| (simp only [Int.reduceToNat, Int.reducePow]; rfl))
local macro_rules | `(tactic| walk_at "wx") => `(tactic| first | rfl | assumption)
local macro_rules | `(tactic| walk_at "wd") => `(tactic| first | with_reducible rfl | assumption | omega | decide | (refine cdivw_small ?_ ?_ <;> omega) | (refine cdivw_small ?_ ?_ <;> split <;> omega) | (refine cpow_small ?_ ?_ ?_ ?_ <;> omega) | (refine cmul_r ?_ ?_ <;> omega) | (refine cmul_l ?_ ?_ <;> omega) | (simp only [List.length_cons, List.length_nil, List.length_append, List.length_reverse, List.length_map, flat_len, Int.reduceToNat]; omega) | (simp only [sizeLine, List.length_cons, List.length_nil, List.length_append, List.length_reverse, List.length_map, flat_len, Int.reduceToNat]; omega))
local macro_rules | `(tactic| walk_at "w1") => `(tactic| (with_reducible first | refine r_seq ?_ | refine r_bin ?_ | refine r_k ?_ | refine r_var ?_ | refine r_g0 ?_ | refine r_gS ?_ | refine r_vkD ?_ | refine r_cD ?_ | refine r_p0 ?_ | refine r_pS ?_ | refine r_cons ?_ | refine r_nil ?_ | refine r_next ?_ | refine r_ret ?_ | refine r_drop ?_ | refine r_ifS ?_ | refine r_bool ?_ | refine r_tru ?_ | refine r_asI ?_ | refine r_asB ?_ | refine r_andT ?_ | refine r_orT ?_ | refine r_notT ?_ | refine r_yes ?_ | refine r_if ?_ | refine r_andV ?_ | refine r_orV ?_ | refine r_notV ?_ | refine r_trN ?_ | refine r_trB ?_ | refine r_trI ?_ | refine r_trT ?_ | refine r_trL ?_ | refine r_iT ?_ | refine r_iF ?_ | refine r_iN ?_ | refine r_in0 ?_ | refine r_in1 ?_ | refine r_cL ?_ | refine r_cK ?_ | refine r_cI ?_ | refine r_vkL ?_ | refine r_vkK ?_ | refine r_vkI ?_ | refine r_move ?_ | refine r_mvDk ?_ | refine r_mvD ?_ | refine r_mvL ?_ | refine r_mvK ?_ | refine r_mvI ?_ | refine r_mI0 ?_ | refine r_adI ?_ | refine r_eqI ?_ | refine r_eqS ?_ | refine r_eqB ?_ | refine r_eqL0 ?_ | refine r_eqT0 ?_ | refine r_eqTT ?_ | refine r_eqLL ?_ | refine r_is1N ?_ | refine r_is0N ?_ | refine r_is1I ?_ | refine r_is0I ?_ | refine r_is1S ?_ | refine r_is0S ?_ | refine r_is1B ?_ | refine r_is0B ?_ | refine r_is1T ?_ | refine r_is0T ?_ | refine r_is1L ?_ | refine r_is0L ?_ | refine r_is1K ?_ | refine r_is0K ?_ | refine r_is1O ?_ | refine r_is0O ?_ | refine r_is ?_ | refine r_chK ?_ | refine r_chain ?_ | refine r_neg ?_ | refine r_tup ?_ | refine r_lst ?_ | refine r_cb ?_ | refine r_mint ?_ | refine r_mintB ?_ | refine r_mabs ?_ | refine r_mmax ?_ | refine r_mmin ?_ | refine r_mlL ?_ | refine r_mlT ?_ | refine r_mlS ?_ | refine r_mtL ?_ | refine r_mtT ?_ | refine r_tuple ?_ | refine r_rev ?_ | refine r_mrL ?_ | refine r_mrT ?_ | refine r_mrS ?_ | refine r_foldB ?_ | refine r_mlenL ?_ | refine r_mlenT ?_ | refine r_isiX ?_ | refine r_axL ?_ | refine r_axK ?_ | refine r_axDL ?_ | refine r_axDT ?_ | refine r_axDS ?_ | refine r_axDK ?_ | refine r_ixA ?_ | refine r_gv ?_ | refine r_part0 ?_ | refine r_part1 ?_ | refine r_slL ?_ | refine r_slT ?_ | refine r_slS ?_ | refine r_eqVX ?_ | refine r_ekI ?_ | refine r_ekT ?_ | refine r_ekS ?_ | refine r_ekB ?_ | refine r_ekN ?_ | refine r_ekL ?_ | refine r_ekOL ?_ | refine r_ekO ?_ | refine r_ekDO ?_ | refine r_lenV ?_ | refine r_lnT ?_ | refine r_lnL ?_ | refine r_lnK ?_ | refine r_lnS ?_ | refine r_for ?_ | refine r_itr ?_ | refine r_sqL ?_ | refine r_sqT ?_ | refine r_sqS ?_ | refine r_rng1 ?_ | refine r_rng2 ?_ | refine r_itrE ?_ | refine r_en1 ?_ | refine r_itrZ ?_ | refine r_zp1 ?_ | refine r_asK ?_ | refine r_setA ?_ | refine r_setL ?_ | refine r_setX ?_ | refine r_putV ?_ | refine r_putX ?_ | refine r_srtA ?_ | refine r_dispN ?_ | refine r_disp ?_ | refine r_prs0 ?_ | refine r_prsS ?_ | refine r_kyI ?_ | refine r_kyS ?_ | refine r_wp0 ?_ | refine r_wpS ?_ | refine r_lc ?_ | refine r_asL ?_ | refine r_pop ?_ | refine r_pb0 ?_ | refine r_pbA1 ?_ | refine r_pbA2 ?_ | refine r_pbA3 ?_ | refine r_pbA4 ?_ | refine r_pbN ?_ | refine r_pbD ?_ | refine r_pbK ?_ | refine r_pbL ?_ | refine r_pbKv ?_ | refine r_call1 ?_ | refine r_call1B ?_ | refine r_call2 ?_ | refine r_call2B ?_ | refine r_call3 ?_ | refine r_call3B ?_ | refine r_call4 ?_ | refine r_call0 ?_ | refine r_make3 ?_ | refine r_po0 ?_ | refine r_par ?_ | refine r_ao0 ?_ | refine r_aoS ?_ | refine r_asDk ?_ | refine r_dkI ?_ | refine r_hasDk ?_ | refine r_dkS ?_ | refine r_dkA ?_ | refine r_dkApp ?_ | refine r_toI ?_ | refine r_dkNew ?_ | refine r_dkE ?_ | refine r_dkPop ?_ | refine r_try ?_ | refine r_raise ?_ | refine r_gCn ?_ | refine r_gNl ?_ | refine r_asgG ?_ | refine r_brk ?_ | refine r_cont ?_ | refine r_app ?_ | refine r_ext ?_ | refine r_hasL ?_ | refine r_appX ?_ | refine r_extX ?_ | refine r_asLD ?_ | refine r_asN ?_ | refine r_fldS ?_ | refine r_fsX ?_ | refine r_asg (by decide) ?_ | refine r_gNm (by decide) ?_ | refine r_aug (by decide) ?_ | refine r_poS (by decide) ?_ | refine r_hasP ?_ ?_ | refine r_ixV ?_ ?_ | refine r_slV ?_ ?_ | refine r_eqV ?_ ?_ | refine r_getV ?_ ?_ | refine r_gTp rfl ?_ | refine r_inT0 rfl rfl ?_ | refine r_inT1 rfl rfl ?_ | refine r_inL0 rfl rfl ?_ | refine r_inL1 rfl rfl ?_ | exact trivial))
local macro_rules | `(tactic| walk_at "wp") => `(tactic| first | walk_at "w1" | (with_reducible first | refine r_call_10 ?_ | refine r_call_021 ?_ | refine r_call_102 ?_ | refine r_call_120 ?_ | refine r_call_201 ?_ | refine r_call_210 ?_ | refine r_pow (by walk_at "wd") (by walk_at "wpow") ?_ | refine r_dsp (by decide) ?_ | refine r_mI (by walk_at "wd") ?_ | refine r_muI (by walk_at "wd") ?_ | refine r_sm (by walk_at "wd") ?_ | refine r_ixT (by walk_at "wx") ?_ | refine r_ixL (by walk_at "wx") ?_ | refine r_rg1 (by walk_at "wd") ?_ | refine r_rg2 (by walk_at "wd") ?_ | refine r_adT (by walk_at "wd") ?_ | refine r_adL (by walk_at "wd") ?_ | refine r_muT (by walk_at "wd") (by walk_at "wd") ?_ | refine r_muL (by walk_at "wd") (by walk_at "wd") ?_ | refine r_mstr (by walk_at "wd") ?_ | refine And.intro (by walk_at "wd") ?_ | refine r_gvK rfl rfl ?_ | refine r_gvDK rfl rfl ?_) | (with_reducible first | refine r_iD (fun _ => ?_) (fun z => absurd (by first | rfl | decide | omega) z) | refine r_iD (fun z => absurd z (by first | decide | omega)) (fun _ => ?_) | refine r_iD (fun _ => ?_) (fun _ => ?_) | refine r_iNe (fun _ => ?_) (fun _ => ?_) | refine r_iNeI (fun _ => ?_) (fun _ => ?_)) | ((with_reducible apply r_isiK); exact rfl) | intro _)
local macro_rules | `(tactic| walk_at "ws") => `(tactic| repeat' (walk_at "wp"))
/-! ### joining, more: errors of one another's kind; tables among the module's names; tables of lambdas -/
open PySem.W in
theorem exm_c2 {K : PySem.W.Frag} {S T : Addr} {b : Bool} (h1 : subIn K (.ref T) (.type "BaseException") = some true) (h2 : isClsIn K T = true) (h3 : typeIn K (.ref T) = some (.type "type")) (h4 : subIn K (.ref S) (.ref T) = some b) : exmOne K (.ref S) (.ref T) = some b := by
  have e1 : (subIn K (.ref T) (.type "BaseException") == some true) = true := by rw [h1]; rfl
  have e2 : ((clsIn K T).isSome && typeIn K (.ref T) == some (.type "type")) = true := by
    have h2' : (clsIn K T).isSome = true := h2
    rw [h2', h3]; rfl
  show (if (subIn K (.ref T) (.type "BaseException") == some true) = true then (if ((clsIn K T).isSome && typeIn K (.ref T) == some (.type "type")) = true then subIn K (.ref S) (.ref T) else none) else none) = some b
  rw [if_pos e1, if_pos e2]
  exact h4
/-- frozen data among what is written -/
def datK (K : PySem.W.Frag) : Nat → Value → D → Bool
  | _, .none, .non => true
  | _, .bool b, .bl c => b == c
  | _, .int i _, .int j => decide (i = j)
  | _, .str s _, .str t => decide (s = t)
  | n + 1, .ref a, .tup xs => match K.lookup a with
    | some ⟨.type "tuple", _, .seq its _, _⟩ => decide (its.size ≤ 1000) && decide (its.toList.length = xs.length) && ((its.toList.zip xs).all fun p => datK K n p.1 p.2)
    | _ => false
  | _, _, _ => false
theorem datK_ok {G : Gs} : ∀ (n : Nat) {u : Value} {d : D}, datK G.K n u d = true → ∃ v, RelV v u ∧ ∀ F, RepD G F v d := by
  have leaf : ∀ (n : Nat) (u : Value) (d : D), (∀ a xs, ¬ (u = .ref a ∧ d = .tup xs)) → datK G.K n u d = true → ∃ v, RelV v u ∧ ∀ F, RepD G F v d := by
    intro n u d hn h
    unfold datK at h
    split at h
    · exact ⟨.non, rfl, fun _ => .non⟩
    · rename_i b c
      obtain rfl : b = c := by simpa using h
      exact ⟨.bl b, rfl, fun _ => .bl b⟩
    · rename_i i t j
      obtain rfl := of_decide_eq_true h
      exact ⟨.int i, ⟨t, rfl⟩, fun _ => .int i⟩
    · rename_i s t s'
      obtain rfl := of_decide_eq_true h
      exact ⟨.str s, ⟨t, rfl⟩, fun _ => .str s⟩
    · exact absurd ⟨rfl, rfl⟩ (hn _ _)
    · cases h
  intro n
  induction n with
  | zero =>
    intro u d h
    refine leaf 0 u d (fun a xs e => ?_) h
    obtain ⟨rfl, rfl⟩ := e
    unfold datK at h
    cases h
  | succ n ih =>
    intro u d h
    by_cases e : ∃ a xs, u = .ref a ∧ d = .tup xs
    · obtain ⟨a, xs, rfl, rfl⟩ := e
      unfold datK at h
      split at h
      · rename_i od its m sl hk
        simp only [Bool.and_eq_true, decide_eq_true_eq] at h
        obtain ⟨⟨hs, hl⟩, ha⟩ := h
        have key : ∀ (us : List Value) (xs : List D), us.length = xs.length → ((us.zip xs).all fun p => datK G.K n p.1 p.2) = true → ∃ vs, Vals vs us ∧ ∀ F, RepDs G F vs xs := by
          intro us
          induction us with
          | nil =>
            intro xs hl _
            cases xs with
            | nil => exact ⟨[], .nil, fun _ => .nil⟩
            | cons _ _ => cases hl
          | cons u us ihu =>
            intro xs hl h
            cases xs with
            | nil => cases hl
            | cons x xs =>
              rw [List.zip_cons_cons, List.all_cons, Bool.and_eq_true] at h
              obtain ⟨v, r, p⟩ := ih h.1
              obtain ⟨vs, rs, ps⟩ := ihu xs (Nat.succ.inj hl) h.2
              exact ⟨v :: vs, .cons r rs, fun F => .cons (p F) (ps F)⟩
        obtain ⟨vs, rs, ps⟩ := key _ _ hl ha
        exact ⟨.ref a, rfl, fun F => .tup (.inr ⟨_, its, m, hk, rfl, rfl, Nat.le_trans hs (by decide), rs⟩) (ps F)⟩
      · cases h
    · exact leaf (n + 1) u d (fun a xs z => e ⟨a, xs, z⟩) h
theorem gl_dat {K : PySem.W.Frag} {h : Heap} {mg : Str → Option Value} (X : K.In h) (Gm : h.Ns mainGlobals mg) {x : Str} {u : Value} {d : D} (a : PySem.W.nsIn K mainGlobals x = some (some u)) (c : datK K 9 u d = true) : ∃ u, mg x = some u ∧ datK K 9 u d = true := ⟨u, PySem.W.mg_of X Gm a, c⟩
/-- a def that makes lambdas, at the top -/
def TxM (K : PySem.W.Frag) (mg : Str → Option Value) (x q : Str) (st : Stmt) (cc : Addr) : Prop := ∃ (f : Addr) (fd : FuncData), mg x = some (.ref f) ∧ Fun K x q st f fd ∧ fd.code = .ref cc
theorem txM {K : PySem.W.Frag} {h : Heap} {mg : Str → Option Value} (X : K.In h) (G : h.Ns mainGlobals mg) {x q : Str} {st : Stmt} {f cc : Addr} {oc : Value} {od an : Option Addr} {osl : Array (Option Value)} {kV doc pm ct : Value}
    (a : PySem.W.nsIn K mainGlobals x = some (some (.ref f))) (l : K.lookup f = some ⟨oc, od, .func (PySem.W.fnOf x q (defArgs st) (defBody st) (defScope st) .none kV doc pm an (.ref cc) ct), osl⟩)
    (c : PySem.W.codeIn K (.ref cc) q = true) (k : PySem.W.keepIn K (.ref f) = true) : TxM K mg x q st cc := ⟨f, _, PySem.W.mg_of X G a, fun_mk l c k, rfl⟩
theorem TxM.l {K : PySem.W.Frag} {mg : Str → Option Value} {base : Heap} {x q : Str} {st : Stmt} {cc Pt : Addr} (D : TxM K mg x q st cc) (TB : LamX.TabB base mg cc Pt) : TxL K mg base x q st cc Pt := by
  obtain ⟨f, fd, h1, h2, h3⟩ := D
  exact ⟨f, fd, h1, h2, h3, TB⟩
section
variable {P : Program} {w : World} {K : PySem.W.Frag} {mg : Str → Option Value} {base : Heap} {G : Gs}
theorem dnF_of {x q a : Str} {st : Stmt} {N : List Str} {k : Nat} {CL : CtL} {F : Fn} {m : Addr → Hp → LamC → WS} {c : Addr → Hp → LamC → Cs} {as : List Nat} (D : TxD K mg x q st) (hs : ShpOk x q st F) (hF : (1, [], [0]) ∈ F.sh) (hp : F.ps = [a]) (Sc : FnScope N [a] (defScope st)) (hNa : N[0]? = some a) (hva : Vis (defScope st) a) (hd : (a == ("__debug__" : Str)) = false) (hcd : (a == ("__classdict__" : Str)) = false)
    (hn : ∀ f F0 L, (decide (([a] : List Str).length ≤ N.length) && decide ((c f F0 L).N = N) && decide ((c f F0 L).sc = defScope st) && ((c f F0 L).dl == G.dl) && ((c f F0 L).dc == G.dc) && decide ((c f F0 L).kb = k)) = true) (hlm : ∀ f F0 L, (c f F0 L).lm = some (0, f, F0, L)) (hlf : ∀ f F0 L x, (c f F0 L).lf x = none)
    (has : ∀ f F0 L, (c f F0 L).as = as) (T : ∀ f F0 L, Sta P w K mg base G k (c f F0 L)) (hm : ∀ f F0 L, evSs (evS (ev 30) (c f F0 L) 14) (defBody st) = m f F0 L)
    (hC : ∀ f F0 L Qd, CL L Qd → m f F0 L (slot0 N.length [.d (.fn f F0)]) (endOf as 1 (fun o _ => Qd o) fun _ _ => False)) : DnF P w K mg base G x CL k := by
  obtain ⟨g, fd, hf, FF⟩ := D
  refine ⟨g, hf, FF.kp, fnL_ev FF Sc (fun s u => ?_) hNa hva hd hcd hn hlm hlf has T hm hC⟩
  obtain ⟨oc, od, kV, doc, pm, an, cdv, ct, osl, rfl, _⟩ := FF.ex
  have := hs _ hF kV doc pm an cdv ct [u] [] rfl rfl
  rw [hp] at this
  exact .of_eq this
end
theorem ite_some {α : Type} {p : Prop} [Decidable p] {a b : α} {r : Option α} (h : (if p then some a else r) = some b) : (p ∧ a = b) ∨ r = some b := by
  split at h
  · exact .inl ⟨by assumption, Option.some.inj h⟩
  · exact .inr h
theorem or_dec {p : Prop} [Decidable p] {b : Bool} (h : (decide p || b) = true) : p ∨ b = true := by
  rcases Bool.or_eq_true_iff.mp h with h | h
  · exact .inl (of_decide_eq_true h)
  · exact .inr h
end Pv

set_option Elab.async false
set_option maxRecDepth 100000
set_option maxHeartbeats 4000000
set_option autoImplicit false
set_option linter.unusedVariables false
namespace Pv
open PySem L2
local macro_rules | `(tactic| walk_at "wpow") => `(tactic| (simp only [Int.reduceToNat, Int.reducePow]; rfl))
local macro_rules | `(tactic| walk_at "wx") => `(tactic| first | rfl | assumption | with_unfolding_all rfl)
local macro_rules | `(tactic| walk_at "wd") => `(tactic| first | with_reducible rfl | assumption | omega | decide | (refine cdivw_small ?_ ?_ <;> omega) | (refine cdivw_small ?_ ?_ <;> split <;> omega) | (refine cpow_small ?_ ?_ ?_ ?_ <;> omega) | (refine cmul_r ?_ ?_ <;> omega) | (refine cmul_l ?_ ?_ <;> omega) | (simp only [List.length_cons, List.length_nil, List.length_append, List.length_reverse, List.length_map, flat_len, Int.reduceToNat]; omega) | (simp only [sizeLine, List.length_cons, List.length_nil, List.length_append, List.length_reverse, List.length_map, flat_len, Int.reduceToNat]; omega))
local macro_rules | `(tactic| walk_at "ws") => `(tactic| repeat' (first | (with_reducible first | refine Stp.go ?_ | refine AndG.go (by first | decide | walk_at "wd") ?_ | refine StpI.go (fun _ => ?_) (fun z => absurd (by first | rfl | decide | omega | (simp only [List.length_cons, List.length_nil]; omega)) z) | refine StpI.go (fun z => absurd z (by first | decide | omega | (simp only [List.length_cons, List.length_nil]; omega))) (fun _ => ?_) | refine StpI.go (fun _ => ?_) (fun _ => ?_) | refine StpX.go _ (by walk_at "wx") ?_ | refine StpN.go _ (by walk_at "wd") (by walk_at "wpow") ?_ | refine StpZ.go _ (by with_unfolding_all rfl) ?_ | refine StpV.go _ _ (by with_unfolding_all rfl) (by with_unfolding_all rfl) ?_ | exact DnT.h) | intro _))
/-! ### the law's classes, its errors -/
def Lic : Str → Bool := fun x => false
def Lfa : Str → Str → Bool := fun x f => false
def Lisub : Str → Str → Option Bool := fun x y => none
def Lsub : Str → Str → Option Bool := fun x y => if x = "BadField" ∧ y = "BadField" then some true else if x = "BadLetter" ∧ y = "BadField" then some false else if x = "BadLetter" ∧ y = "BadLetter" then some true else if x = "BadWord" ∧ y = "BadField" then some false else if x = "BadWord" ∧ y = "BadLetter" then some false else if x = "BadWord" ∧ y = "BadWord" then some true else none
def Leq : Str → Option Ct := fun _ => none
end Pv

set_option Elab.async false
set_option maxRecDepth 100000
set_option maxHeartbeats 4000000
set_option autoImplicit false
set_option linter.unusedVariables false
namespace Pv
open PySem L2
local macro_rules | `(tactic| walk_at "wpow") => `(tactic| (simp only [Int.reduceToNat, Int.reducePow]; rfl))
local macro_rules | `(tactic| walk_at "wx") => `(tactic| first | rfl | assumption | with_unfolding_all rfl)
local macro_rules | `(tactic| walk_at "wd") => `(tactic| first | with_reducible rfl | assumption | omega | decide | (refine cdivw_small ?_ ?_ <;> omega) | (refine cdivw_small ?_ ?_ <;> split <;> omega) | (refine cpow_small ?_ ?_ ?_ ?_ <;> omega) | (refine cmul_r ?_ ?_ <;> omega) | (refine cmul_l ?_ ?_ <;> omega) | (simp only [List.length_cons, List.length_nil, List.length_append, List.length_reverse, List.length_map, flat_len, Int.reduceToNat]; omega) | (simp only [sizeLine, List.length_cons, List.length_nil, List.length_append, List.length_reverse, List.length_map, flat_len, Int.reduceToNat]; omega))
local macro_rules | `(tactic| walk_at "ws") => `(tactic| repeat' (first | (with_reducible first | refine Stp.go ?_ | refine AndG.go (by first | decide | walk_at "wd") ?_ | refine StpI.go (fun _ => ?_) (fun z => absurd (by first | rfl | decide | omega | (simp only [List.length_cons, List.length_nil]; omega)) z) | refine StpI.go (fun z => absurd z (by first | decide | omega | (simp only [List.length_cons, List.length_nil]; omega))) (fun _ => ?_) | refine StpI.go (fun _ => ?_) (fun _ => ?_) | refine StpX.go _ (by walk_at "wx") ?_ | refine StpN.go _ (by walk_at "wd") (by walk_at "wpow") ?_ | refine StpZ.go _ (by with_unfolding_all rfl) ?_ | refine StpV.go _ _ (by with_unfolding_all rfl) (by with_unfolding_all rfl) ?_ | exact DnT.h) | intro _))
/-! ### own errors -/
abbrev BF (x : D) : Exc := ⟨"BadField", [("thing", x)]⟩
abbrev BL (x : D) : Exc := ⟨"BadLetter", [("thing", x)]⟩
abbrev BW (x : D) : Exc := ⟨"BadWord", [("thing", x)]⟩
/-! ### the deck -/
def C__law_deck : Ct := fun os Q _ => ∃ ns : List Int, os = [.d (.scr ns)] ∧ ∀ (m : Nat × Addr) (os' : Sl), m.1 ≤ 63 → Q (.deck m) os'
def m__law_deck : WS := (wSeq (wAsg (as := [1, 2]) 1 (wK (.int 10878505)))
  (wSeq (wFor (wItr (wSlV 0 none (some (wK (.int 63))))) (gNm [1, 2] 2)
  (wAsg (as := [1, 2]) 1 (wBin mMod (wCB mInt (wCons (wBin mAdd (wBin mAdd (wBin mMul (wVar 1) (wK (.int 48271))) (wBin mMod (wCB mInt (wCons (wVar 2) wNil)) (wK (.int 2147483629)))) (wK (.int 33))) wNil)) (wK (.int 2147483587)))))
  (wRet (wDkNew (wRev (wCB mList (wCons (wSlV 0 none (some (wK (.int 63)))) wNil))) (wVar 1) (wK (.int 0))))))
theorem ok__law_deck : ∀ os Qd Ed, os.length = 1 → C__law_deck os Qd Ed → m__law_deck (slot0 3 os) (endOf [1, 2] 1 Qd Ed) := by
  rintro os Qd Ed - ⟨ns, rfl, q⟩
  refine r_end ?_
  show m__law_deck [some (.d (.scr ns)), none, none] _
  unfold m__law_deck
  walk_at "ws"
  refine for_inv (fun xs ρ => (∃ ns' : List Int, xs = ns'.map D.int) ∧ ∃ (v : Int) (o : Option O), ρ = [some (.d (.scr ns)), some (.d (.int v)), o]) ?_ ?_ _ _ ⟨⟨_, rfl⟩, _, _, rfl⟩
  · rintro _ ⟨-, v, o, rfl⟩
    walk_at "ws"
    rw [← List.map_reverse]
    walk_at "ws"
    refine q _ _ ?_
    rw [List.length_reverse]
    unfold cutD
    rw [List.length_take]
    have h63 : HT.sIx ns.length ns.length (some 63) ≤ 63 := by unfold HT.sIx; simp only []; split <;> omega
    omega
  · rintro x xs _ K hK ⟨⟨ns', e⟩, v, o, rfl⟩
    obtain ⟨i, ns2, rfl, rfl, rfl⟩ : ∃ (i : Int) (ns2 : List Int), ns' = i :: ns2 ∧ x = .int i ∧ xs = ns2.map D.int := by
      cases ns' with
      | nil => cases e
      | cons i ns2 => cases e; exact ⟨i, ns2, rfl, rfl, rfl⟩
    walk_at "ws"
    exact hK _ ⟨⟨_, rfl⟩, _, _, rfl⟩
def C__law_draw : Ct := fun os Q _ => ∃ (m : Nat × Addr) (n : Int), os = [.deck m, .d (.int n)] ∧ m.1 ≤ 63 ∧ 0 < n ∧ n < 2 ^ 60 ∧ ∀ (z : Int) (m' : Nat × Addr) (o : Option O), 0 ≤ z → z < n → m'.1 ≤ 63 → Q (.d (.int z)) [some (.deck m'), o]
def m__law_draw : WS := (wSeq (wDkS 0 (wBin mAdd (wDkI 0) (wK (.int 1))))
  (wSeq (wAsg (as := [2, 3]) 2 (wBin mAdd (wDkI 0) (wBin mMul (wK (.int 61473)) (wDkI 0))))
  (wSeq (wIfS (wBool (wDkE 0))
  (wSeq (wAsg (as := [2, 3]) 3 (wDkPop 0))
  (wSeq (wIfS (wBool (wBin mGe (wVar 3) (wBin mPow (wK (.int 10)) (wK (.int 18)))))
  (wSeq (wDrop (wDkApp 0 (wBin mDiv (wVar 3) (wCB mMaxU (wCons (wK (.int 2)) (wCons (wVar 1) wNil))))))
  (wRet (wBin mMod (wCB mInt (wCons (wVar 3) wNil)) (wVar 1))))
  wNext)
  (wAsg (as := [2, 3]) 2 (wBin mAdd (wVar 2) (wBin mMod (wCB mInt (wCons (wVar 3) wNil)) (wK (.int 2147483629)))))))
  wNext)
  (wSeq (wAsg (as := [2, 3]) 2 (wBin mMod (wCB mInt (wCons (wBin mAdd (wBin mMul (wVar 2) (wK (.int 39373))) (wK (.int 33))) wNil)) (wK (.int 2147483647))))
  (wSeq (wAsg (as := [2, 3]) 2 (wBin mMod (wCB mInt (wCons (wBin mAdd (wBin mAdd (wBin mMul (wVar 2) (wVar 2)) (wBin mMul (wK (.int 52713)) (wDkI 0))) (wK (.int 71))) wNil)) (wK (.int 2147483587))))
  (wSeq (wAsg (as := [2, 3]) 2 (wBin mMod (wCB mInt (wCons (wBin mMul (wVar 2) (wK (.int 40692))) wNil)) (wK (.int 2147483563))))
  (wRet (wBin mMod (wCB mInt (wCons (wBin mDiv (wVar 2) (wK (.int 64))) wNil)) (wVar 1)))))))))
theorem ok__law_draw : ∀ os Qd Ed, os.length = 2 → C__law_draw os Qd Ed → m__law_draw (slot0 4 os) (endOf [2, 3] 2 Qd Ed) := by
  rintro os Qd Ed - ⟨m, n, rfl, hm, h0, h60, q⟩
  refine r_end ?_
  show m__law_draw [some (.deck m), some (.d (.int n)), none, none] _
  unfold m__law_draw
  walk_at "ws"
  all_goals exact q _ _ _ (Int.emod_nonneg _ (by omega)) (Int.emod_lt_of_pos _ h0) (by first | omega | (dsimp only; omega))
/-- a list or tuple, handed on -/
def Sq (o : O) (xs : List D) : Prop := o = .lst xs ∨ o = .d (.lst xs) ∨ o = .d (.tup xs)
def C__law_pick : Ct := fun os Q _ => ∃ (m : Nat × Addr) (s : O) (xs : List D), os = [.deck m, s] ∧ Sq s xs ∧ m.1 ≤ 63 ∧ xs ≠ [] ∧ xs.length < 1000 ∧ ∀ (x : D) (m' : Nat × Addr) (o : Option O), x ∈ xs → m'.1 ≤ 63 → Q (.d x) [some (.deck m'), o]
def m__law_pick : WS := (wRet (wIxA 1 (wCall C__law_draw [0, 1] [(some 0, wMove 0), (none, (wLenV 1))])))
theorem atI_in {xs : List D} {z : Int} (h0 : 0 ≤ z) (h : z < (xs.length : Nat)) : ∃ x, atI xs z = some x ∧ x ∈ xs := by
  unfold atI ixN
  rw [if_pos h0, if_pos h]
  have l : z.toNat < xs.length := by omega
  exact ⟨xs[z.toNat], by simp [l], List.getElem_mem l⟩
/-- a draw, called -/
theorem c_draw {m : Nat × Addr} {n : Int} {Qd : O → Sl → Prop} {Ed : Exc → Sl → Prop} (h1 : m.1 ≤ 63) (h2 : 0 < n) (h3 : n < 2 ^ 60) (h : ∀ (z : Int) (m' : Nat × Addr) (o : Option O), 0 ≤ z → z < n → m'.1 ≤ 63 → Qd (.d (.int z)) [some (.deck m'), o]) : C__law_draw [.deck m, .d (.int n)] Qd Ed := ⟨m, n, rfl, h1, h2, h3, h⟩
theorem ok__law_pick : ∀ os Qd Ed, os.length = 2 → C__law_pick os Qd Ed → m__law_pick (slot0 2 os) (endOf [] 2 Qd Ed) := by
  rintro os Qd Ed - ⟨m, s, xs, rfl, hs, hm, hn, hl, q⟩
  refine r_end ?_
  show m__law_pick [some (.deck m), some s] _
  have hp : 0 < xs.length := List.length_pos_iff.mpr hn
  rcases hs with rfl | rfl | rfl
  all_goals
    unfold m__law_pick
    walk_at "ws"
    refine c_draw hm (by omega) (by omega) fun z m' o h1 h2 h3 => ?_
    walk_at "ws"
    obtain ⟨x, hx, hi⟩ := atI_in h1 h2
    refine r_at hx ?_
    exact q x m' _ hi h3
theorem c_pickL {m : Nat × Addr} {xs : List D} {Qd : O → Sl → Prop} {Ed : Exc → Sl → Prop} (h1 : m.1 ≤ 63) (h2 : xs ≠ []) (h3 : xs.length < 1000) (h : ∀ (x : D) (m' : Nat × Addr) (o : Option O), x ∈ xs → m'.1 ≤ 63 → Qd (.d x) [some (.deck m'), o]) : C__law_pick [.deck m, .lst xs] Qd Ed := ⟨m, _, xs, rfl, .inl rfl, h1, h2, h3, h⟩
theorem mem_rng {n : Nat} {lo : Int} {x : D} (h : x ∈ rngD lo n) : ∃ i : Int, x = .int i ∧ lo ≤ i ∧ i < lo + n := by
  obtain ⟨k, hk, rfl⟩ := List.mem_map.mp h
  exact ⟨_, rfl, by omega, by have := List.mem_range.mp hk; omega⟩
theorem rng_len (lo : Int) (n : Nat) : (rngD lo n).length = n := by unfold rngD; rw [List.length_map, List.length_range]
def ncB (d b : Nat) (x : D) : Bool := okD x && (toPy x).showable && (toPy x).leavesShort 60 && decide ((toPy x).depth ≤ d) && decide ((toPy x).bulk ≤ b)
theorem nc_of {d b : Nat} {x : D} (h : ncB d b x = true) : Nc d b x := by
  simp only [ncB, Bool.and_eq_true, decide_eq_true_eq] at h
  exact ⟨h.1.1.1.1, h.1.1.1.2, h.1.1.2, h.1.2, h.2⟩
theorem nc_alls {d b : Nat} {xs : List D} (h : xs.all (ncB d b) = true) : ∀ x ∈ xs, Nc d b x := fun x hx => nc_of (List.all_eq_true.mp h x hx)
/-- the dict that is drawn -/
theorem nc_dic {xs : List D} {d b n : Nat} {i : Int} (h : ∀ x ∈ xs, Nc d b x) (hn : xs.length ≤ n) (hi : i.natAbs < 10 ^ 58) : Nc (d + 2) (n * (b + 1) + 7) (.dic [(.inr "key", .lst xs), (.inl 1, .int i)]) := by
  have hl := nc_lst h hn
  have h2 := nc_int hi
  have e : toPy (.dic [(.inr "key", .lst xs), (.inl 1, .int i)]) = .dict [(.str "key", toPy (.lst xs)), (.int 1, toPy (.int i))] := by
    conv => lhs; unfold toPy
    rw [toPyk_cons, toPyk_cons, toPyk]
    rfl
  refine ⟨?_, ?_, ?_, ?_, ?_⟩
  · unfold okD okDk okDk okDk; rw [hl.ok, h2.ok]; rfl
  · rw [e]; simp only [PyData.showable, PyData.showableKv]; rw [hl.sh, h2.sh]; decide +kernel
  · rw [e]; simp only [PyData.leavesShort, PyData.leavesShortKv]
    have h3 := hl.lv
    have h4 := h2.lv
    rw [h3, h4]; decide +kernel
  · rw [e]; simp only [PyData.depth, PyData.depthKv]
    have h3 := hl.dep
    have h4 := h2.dep
    omega
  · rw [e]; simp only [PyData.bulk, PyData.bulkKv]
    have h3 := hl.bk
    have h4 := h2.bk
    have h5 : (Str.ofString "key").cps.size = 3 := by decide +kernel
    omega
end Pv

set_option Elab.async false
set_option maxRecDepth 100000
set_option maxHeartbeats 4000000
set_option autoImplicit false
set_option linter.unusedVariables false
namespace Pv
open PySem L2
local macro_rules | `(tactic| walk_at "wpow") => `(tactic| (simp only [Int.reduceToNat, Int.reducePow]; rfl))
local macro_rules | `(tactic| walk_at "wx") => `(tactic| first | rfl | assumption | with_unfolding_all rfl)
local macro_rules | `(tactic| walk_at "wd") => `(tactic| first | with_reducible rfl | assumption | omega | decide | (refine cdivw_small ?_ ?_ <;> omega) | (refine cdivw_small ?_ ?_ <;> split <;> omega) | (refine cpow_small ?_ ?_ ?_ ?_ <;> omega) | (refine cmul_r ?_ ?_ <;> omega) | (refine cmul_l ?_ ?_ <;> omega) | (simp only [List.length_cons, List.length_nil, List.length_append, List.length_reverse, List.length_map, flat_len, Int.reduceToNat]; omega) | (simp only [sizeLine, List.length_cons, List.length_nil, List.length_append, List.length_reverse, List.length_map, flat_len, Int.reduceToNat]; omega))
local macro_rules | `(tactic| walk_at "ws") => `(tactic| repeat' (first | (with_reducible first | refine Stp.go ?_ | refine AndG.go (by first | decide | walk_at "wd") ?_ | refine StpI.go (fun _ => ?_) (fun z => absurd (by first | rfl | decide | omega | (simp only [List.length_cons, List.length_nil]; omega)) z) | refine StpI.go (fun z => absurd z (by first | decide | omega | (simp only [List.length_cons, List.length_nil]; omega))) (fun _ => ?_) | refine StpI.go (fun _ => ?_) (fun _ => ?_) | refine StpX.go _ (by walk_at "wx") ?_ | refine StpN.go _ (by walk_at "wd") (by walk_at "wpow") ?_ | refine StpZ.go _ (by with_unfolding_all rfl) ?_ | refine StpV.go _ _ (by with_unfolding_all rfl) (by with_unfolding_all rfl) ?_ | exact DnT.h) | intro _))
/-! ### any value, by levels -/
def AnyC (d b : Nat) (n : Int) : Ct := fun os Q _ => ∃ (m : Nat × Addr) (v : Int), os = [.deck m, .d (.int v)] ∧ v ≤ n ∧ m.1 ≤ 63 ∧ ∀ (o : O) (m' : Nat × Addr) (o2 : Option O), notDeck o → Nc d b (fz o) → m'.1 ≤ 63 → Q o [some (.deck m'), o2]
def Cany_ : Ct := fun _ _ _ => False
def Cany0 : Ct := AnyC 2 20 0
def Cany1 : Ct := AnyC 4 80 1
def Cany2 : Ct := AnyC 6 260 2
section
variable {C__law_any : Ct}
def m__law_any (C__law_any : Ct) : WS := (wSeq (wAsg (as := [2, 3]) 2 (wCall C__law_draw [0, 1] [(some 0, wMove 0), (none, (wK (.int 8)))]))
  (wSeq (wIfS (wBool (wBin mLt (wVar 2) (wK (.int 2))))
  (wRet (wCall C__law_pick [0, 1] [(some 0, wMove 0), (none, (wLst (wCons (wK (.int 0)) (wCons (wK (.int 1)) (wCons (wNeg (wK (.int 1))) (wCons (wK (.int 2)) (wCons (wK (.int 3)) (wCons (wK (.int 4)) (wCons (wK (.int 5)) (wCons (wK (.int 7)) (wCons (wBin mPow (wK (.int 10)) (wK (.int 39))) (wCons (wNeg (wBin mPow (wK (.int 10)) (wK (.int 20)))) wNil))))))))))))]))
  wNext)
  (wSeq (wIfS (wBool (wEqVX Leq 2 (wK (.int 2))))
  (wRet (wCall C__law_pick [0, 1] [(some 0, wMove 0), (none, (wLst (wCons (wK (.str "")) (wCons (wK (.str "2")) (wCons (wK (.str "a")) (wCons (wK (.str "(0, 1)")) (wCons (wK (.str "1 0 1")) (wCons (wK (.str "~")) wNil))))))))]))
  wNext)
  (wSeq (wIfS (wBool (wEqVX Leq 2 (wK (.int 3))))
  (wRet (wCall C__law_pick [0, 1] [(some 0, wMove 0), (none, (wLst (wCons (wK (.bl true)) (wCons (wK (.bl false)) (wCons (wK .non) wNil)))))]))
  wNext)
  (wSeq (wAsg (as := [2, 3]) 3 (wIf (wBool (wBin mGt (wVar 1) (wK (.int 0)))) (wLc (wRng1 (wCons (wCall C__law_draw [0, 1] [(some 0, wMove 0), (none, (wK (.int 4)))]) wNil)) (gNm [4] 4) wYes (wCall C__law_any [0, 1] [(some 0, wMove 0), (none, (wBin mSub (wVar 1) (wK (.int 1))))]) [4]) (wLst wNil)))
  (wSeq (wIfS (wBool (wEqVX Leq 2 (wK (.int 4))))
  (wRet (wMove 3))
  wNext)
  (wRet (wIf (wBool (wEqVX Leq 2 (wK (.int 5)))) (wDisp [((wK (.str "key")), (wVar 3)), ((wK (.int 1)), (wLenV 3))]) (wTuple (wVar 3))))))))))
end
theorem any_go {d b d' b' : Nat} {n : Int} {C : Ct} (hd : 2 ≤ d' ∧ d + 2 ≤ d') (hb : 20 ≤ b' ∧ 3 * (b + 1) + 7 ≤ b') (hC : n ≤ 0 ∨ C = AnyC d b (n - 1)) (h2 : n < 3) : ∀ os Qd Ed, os.length = 2 → AnyC d' b' n os Qd Ed → m__law_any C (slot0 5 os) (endOf [2, 3] 2 Qd Ed) := by
  rintro os Qd Ed - ⟨m, v, rfl, hvn, hm, q⟩
  refine r_end ?_
  show m__law_any C [some (.deck m), some (.d (.int v)), none, none, none] _
  have fin : ∀ (xs : List D), xs.all (ncB 2 20) = true → ∀ (x : D) (m' : Nat × Addr) (o : Option O), x ∈ xs → m'.1 ≤ 63 → Qd (.d x) [some (.deck m'), o] := fun xs h x m' o hx h' => q _ m' o trivial ((nc_alls h x hx).mono hd.1 hb.1) h'
  have tail : ∀ (z : Int) (xs : List D) (m' : Nat × Addr) (o : Option O), m'.1 ≤ 63 → xs.length ≤ 3 → (∀ x ∈ xs, Nc d b x) → 
      (wSeq (wIfS (wBool (wEqVX Leq 2 (wK (.int 4))))
  (wRet (wMove 3))
  wNext)
  (wRet (wIf (wBool (wEqVX Leq 2 (wK (.int 5)))) (wDisp [((wK (.str "key")), (wVar 3)), ((wK (.int 1)), (wLenV 3))]) (wTuple (wVar 3))))) [some (.deck m'), some (.d (.int v)), some (.d (.int z)), some (.lst xs), o] ⟨fun ρ => Qd (.d .non) (parO [2, 3] 2 ρ), fun o ρ => Qd o (parO [2, 3] 2 ρ), fun _ => False, fun _ => False, fun e ρ => Ed e (parO [2, 3] 2 ρ)⟩ := by
    intro z xs m' o hm' hl hx
    walk_at "ws"
    · exact q _ _ _ trivial ((nc_lst hx hl).mono (by omega) (by omega)) hm'
    · show Qd (.dic [(.inr "key", .lst xs), (.inl 1, .int xs.length)]) _
      exact q _ _ _ trivial ((nc_dic hx hl (by omega)).mono (by omega) (by omega)) hm'
    · exact q _ _ _ trivial ((nc_tup hx hl).mono (by omega) (by omega)) hm'
  have e0 : ∀ x ∈ ([] : List D), Nc d b x := fun x hx => absurd hx List.not_mem_nil
  unfold m__law_any
  walk_at "ws"
  refine c_draw hm (by omega) (by omega) fun z m1 o h1 h2 h3 => ?_
  walk_at "ws"
  · refine c_pickL h3 (by simp) (by simp) fun y m1 o hy h1 => ?_
    walk_at "ws"
    exact fin _ (by decide +kernel) y _ _ hy h1
  · refine c_pickL h3 (by simp) (by simp) fun y m1 o hy h1 => ?_
    walk_at "ws"
    exact fin _ (by decide +kernel) y _ _ hy h1
  · refine c_pickL h3 (by simp) (by simp) fun y m1 o hy h1 => ?_
    walk_at "ws"
    exact fin _ (by decide +kernel) y _ _ hy h1
  · have hv : C = AnyC d b (n - 1) := hC.resolve_left (by omega)
    refine c_draw h3 (by omega) (by omega) fun z2 m2 o2 h4 h5 h6 => ?_
    walk_at "ws"
    have hl : (rngD 0 z2.toNat).length ≤ 3 := by rw [rng_len]; omega
    refine lc_inv (fun xs acc ρ => acc.length + xs.length ≤ 3 ∧ (∀ x ∈ acc, Nc d b x) ∧ ∃ m : Nat × Addr, m.1 ≤ 63 ∧ ρ = [some (.deck m), some (.d (.int v)), some (.d (.int z)), none, none]) ?_ ?_ _ _ _ ⟨by simpa using hl, fun x hx => absurd hx List.not_mem_nil, m2, h6, rfl⟩
    · rintro acc _ ⟨ha, hx, m3, h7, rfl⟩
      refine r_pS (r_pS (r_pS (r_p0 ?_)))
      exact tail z acc m3 none h7 (by simpa using ha) hx
    · rintro x xs acc _ K hK ⟨ha, hx, m3, h7, rfl⟩
      rw [List.length_cons] at ha
      walk_at "ws"
      rw [hv]
      refine ⟨m3, _, rfl, by omega, h7, fun o m4 o3 ho hn h8 => ?_⟩
      walk_at "ws"
      refine ⟨ho, Nat.lt_of_le_of_lt (show acc.length ≤ 3 by omega) (by decide), ?_⟩
      walk_at "ws"
      exact hK _ _ ⟨by rw [List.length_append]; simp; omega, fun y hy => (List.mem_append.mp hy).elim (hx y) fun hy => by rw [List.mem_singleton.mp hy]; exact hn, m4, h8, rfl⟩
  · exact q _ _ _ trivial ((nc_lst e0 (Nat.zero_le 3)).mono (by omega) (by omega)) h3
  · exact q _ _ _ trivial ((nc_dic e0 (Nat.zero_le 3) (i := 0) (by omega)).mono (by omega) (by omega)) h3
  · exact q _ _ _ trivial ((nc_tup e0 (Nat.zero_le 3)).mono (by omega) (by omega)) h3
theorem ok__law_any0 : ∀ os Qd Ed, os.length = 2 → Cany0 os Qd Ed → m__law_any Cany_ (slot0 5 os) (endOf [2, 3] 2 Qd Ed) := any_go (d := 0) (b := 0) ⟨by omega, by omega⟩ ⟨by omega, by omega⟩ (.inl (by omega)) (by omega)
theorem ok__law_any1 : ∀ os Qd Ed, os.length = 2 → Cany1 os Qd Ed → m__law_any Cany0 (slot0 5 os) (endOf [2, 3] 2 Qd Ed) := any_go (d := 2) (b := 20) ⟨by omega, by omega⟩ ⟨by omega, by omega⟩ (.inr rfl) (by omega)
theorem ok__law_any2 : ∀ os Qd Ed, os.length = 2 → Cany2 os Qd Ed → m__law_any Cany1 (slot0 5 os) (endOf [2, 3] 2 Qd Ed) := any_go (d := 4) (b := 80) ⟨by omega, by omega⟩ ⟨by omega, by omega⟩ (.inr rfl) (by omega)
def C__law_any : Ct := Cany2
theorem c_any {m : Nat × Addr} {v : Int} {Q : O → Sl → Prop} {E : Exc → Sl → Prop} (hv : v ≤ 2) (h1 : m.1 ≤ 63) (h : ∀ (o : O) (m' : Nat × Addr) (o2 : Option O), notDeck o → Nc 6 260 (fz o) → m'.1 ≤ 63 → Q o [some (.deck m'), o2]) : C__law_any [.deck m, .d (.int v)] Q E := ⟨m, v, rfl, hv, h1, h⟩
end Pv

set_option Elab.async false
set_option maxRecDepth 100000
set_option maxHeartbeats 4000000
set_option autoImplicit false
set_option linter.unusedVariables false
namespace Pv
open PySem L2
local macro_rules | `(tactic| walk_at "wpow") => `(tactic| (simp only [Int.reduceToNat, Int.reducePow]; rfl))
local macro_rules | `(tactic| walk_at "wx") => `(tactic| first | rfl | assumption | with_unfolding_all rfl)
local macro_rules | `(tactic| walk_at "wd") => `(tactic| first | with_reducible rfl | assumption | omega | decide | (refine cdivw_small ?_ ?_ <;> omega) | (refine cdivw_small ?_ ?_ <;> split <;> omega) | (refine cpow_small ?_ ?_ ?_ ?_ <;> omega) | (refine cmul_r ?_ ?_ <;> omega) | (refine cmul_l ?_ ?_ <;> omega) | (simp only [List.length_cons, List.length_nil, List.length_append, List.length_reverse, List.length_map, flat_len, Int.reduceToNat]; omega) | (simp only [sizeLine, List.length_cons, List.length_nil, List.length_append, List.length_reverse, List.length_map, flat_len, Int.reduceToNat]; omega))
local macro_rules | `(tactic| walk_at "ws") => `(tactic| repeat' (first | (with_reducible first | refine Stp.go ?_ | refine AndG.go (by first | decide | walk_at "wd") ?_ | refine StpI.go (fun _ => ?_) (fun z => absurd (by first | rfl | decide | omega | (simp only [List.length_cons, List.length_nil]; omega)) z) | refine StpI.go (fun z => absurd z (by first | decide | omega | (simp only [List.length_cons, List.length_nil]; omega))) (fun _ => ?_) | refine StpI.go (fun _ => ?_) (fun _ => ?_) | refine StpX.go _ (by walk_at "wx") ?_ | refine StpN.go _ (by walk_at "wd") (by walk_at "wpow") ?_ | refine StpZ.go _ (by with_unfolding_all rfl) ?_ | refine StpV.go _ _ (by with_unfolding_all rfl) (by with_unfolding_all rfl) ?_ | exact DnT.h) | intro _))
/-! ### plain data: what the program's functions of letters answer -/
inductive Er where
  | F (x : D) | L (x : D) | W (x : D)
def exc : Er → Exc
  | .F x => BF x
  | .L x => BL x
  | .W x => BW x
def Res (r : Except Er D) (Q : O → Sl → Prop) (E : Exc → Sl → Prop) : Prop := match r with
  | .ok d => ∀ os', Q (.d d) os'
  | .error e => ∀ os', E (exc e) os'
def toldD : Except Er D → D
  | .ok d => .tup [.str "told", d]
  | .error (.F x) => .tup [.str "field", x]
  | .error (.L x) => .tup [.str "letter", x]
  | .error (.W x) => .tup [.str "word", x]
def qi : D → Int
  | .int i => i
  | _ => 0
def isInt : D → Bool
  | .int _ => true
  | _ => false
def isBl : D → Bool
  | .bl _ => true
  | _ => false
def isTup : D → Bool
  | .tup _ => true
  | _ => false
def betD (lo hi : Int) : D → Bool
  | .int j => decide (lo ≤ j) && decide (j ≤ hi)
  | _ => false
abbrev fieldD : D → Bool := betD 2 5
abbrev letD (i : Int) : D → Bool := betD 0 (i - 1)
/-- what isinstance can be asked of -/
def Vis : D → Prop
  | .fn _ _ => False
  | .ins c _ => Lic c = true
  | _ => True
theorem vis_ok {x : D} (h : okD x = true) : Vis x := by cases x <;> first | trivial | (unfold okD at h; cases h)
theorem Nc.vis {d b : Nat} {x : D} (h : Nc d b x) : Vis x := vis_ok h.ok
theorem isi_int {x : D} (h : Vis x) : isiX Lic .int x = some (isInt x || isBl x) := by
  cases x <;> first | rfl | exact h.elim | skip
  rename_i c fs
  have h : Lic c = true := h
  show (if Lic c = true then some false else none) = _
  rw [if_pos h]; rfl
theorem isi_bool {x : D} (h : Vis x) : isiX Lic .bool x = some (isBl x) := by
  cases x <;> first | rfl | exact h.elim | skip
  rename_i c fs
  have h : Lic c = true := h
  show (if Lic c = true then some false else none) = _
  rw [if_pos h]; rfl
theorem isi_tup {x : D} (h : Vis x) : isiX Lic .tuple x = some (isTup x) := by
  cases x <;> first | rfl | exact h.elim | skip
  rename_i c fs
  have h : Lic c = true := h
  show (if Lic c = true then some false else none) = _
  rw [if_pos h]; rfl
theorem betD_int {lo hi : Int} {x : D} (h : betD lo hi x = true) : ∃ j, x = .int j ∧ lo ≤ j ∧ j ≤ hi := by
  cases x <;> first | cases h | skip
  rename_i j
  simp only [betD, Bool.and_eq_true, decide_eq_true_eq] at h
  exact ⟨j, rfl, h⟩
/-! ### tests -/
def C_is_integer : Ct := fun os Q _ => ∃ x, os = [.d x] ∧ Vis x ∧ ∀ os', Q (.d (.bl (isInt x))) os'
def m_is_integer : WS := (wRet (wAndV (wIsiX (isiX Lic .int) (wVar 0)) (wNotV (wIsiX (isiX Lic .bool) (wVar 0)))))
theorem ok_is_integer : ∀ os Qd Ed, os.length = 1 → C_is_integer os Qd Ed → m_is_integer (slot0 1 os) (endOf [] 1 Qd Ed) := by
  rintro os Qd Ed - ⟨x, rfl, hv, q⟩
  refine r_end ?_
  show m_is_integer [some (.d x)] _
  unfold m_is_integer
  walk_at "ws"
  refine r_isiK (isi_int hv) ?_
  walk_at "ws"
  refine r_iV (fun h => ?_) (fun h => ?_)
  · walk_at "ws"
    refine r_isiK (isi_bool hv) ?_
    walk_at "ws"
    have e : isInt x = !isBl x := by cases x <;> first | rfl | cases h
    rw [e] at q
    exact q _
  · have e : isInt x = false := (Bool.or_eq_false_iff.mp h).1
    rw [e] at q
    rw [h]
    exact q _
def C_is_between : Ct := fun os Q _ => ∃ (x : D) (lo hi : Int), os = [.d x, .d (.int lo), .d (.int hi)] ∧ Vis x ∧ ∀ os', Q (.d (.bl (betD lo hi x))) os'
def m_is_between : WS := (wRet (wAndV (wCall C_is_integer [0] [(none, (wVar 0))]) (wChain mLe mLe (wVar 1) (wVar 0) (wVar 2))))
theorem ok_is_between : ∀ os Qd Ed, os.length = 3 → C_is_between os Qd Ed → m_is_between (slot0 3 os) (endOf [] 3 Qd Ed) := by
  rintro os Qd Ed - ⟨x, lo, hi, rfl, hv, q⟩
  refine r_end ?_
  show m_is_between [some (.d x), some (.d (.int lo)), some (.d (.int hi))] _
  unfold m_is_between
  walk_at "ws"
  refine ⟨x, rfl, hv, fun os' => ?_⟩
  walk_at "ws"
  refine r_iV (fun h => ?_) (fun h => ?_)
  · obtain ⟨v, rfl⟩ : ∃ v, x = .int v := by cases x <;> first | exact ⟨_, rfl⟩ | cases h
    walk_at "ws"
    · rename_i h
      have e : betD lo hi (.int v) = decide (v ≤ hi) := by simp [betD, h]
      rw [e] at q
      exact q _
    · rename_i h
      have e : betD lo hi (.int v) = false := by simp [betD, h]
      rw [e] at q
      exact q _
  · have e : betD lo hi x = false := by cases x <;> first | rfl | cases h
    rw [e] at q
    rw [h]
    exact q _
theorem c_btw {x : D} {lo hi : Int} {Q : O → Sl → Prop} {E : Exc → Sl → Prop} (hv : Vis x) (h : ∀ os', Q (.d (.bl (betD lo hi x))) os') : C_is_between [.d x, .d (.int lo), .d (.int hi)] Q E := ⟨x, lo, hi, rfl, hv, h⟩
def needF (q : D) : Except Er D := if fieldD q = true then .ok .non else .error (.F q)
def C_need_field : Ct := fun os Q E => ∃ x, os = [.d x] ∧ Vis x ∧ Res (needF x) Q E
def m_need_field : WS := (wIfS (wNotT (wTru (wCall C_is_between [0, 1, 2] [(none, (wVar 0)), (none, (wK (.int 2))), (none, (wK (.int 5)))])))
  (wRaise "BadField" "thing" (wVar 0))
  wNext)
theorem ok_need_field : ∀ os Qd Ed, os.length = 1 → C_need_field os Qd Ed → m_need_field (slot0 1 os) (endOf [] 1 Qd Ed) := by
  rintro os Qd Ed - ⟨x, rfl, hv, q⟩
  refine r_end ?_
  show m_need_field [some (.d x)] _
  unfold m_need_field
  walk_at "ws"
  refine c_btw hv fun os' => ?_
  walk_at "ws"
  unfold needF at q
  refine r_iV (fun h => ?_) (fun h => ?_)
  · rw [if_pos h] at q
    walk_at "ws"
    exact q _
  · rw [if_neg (fun z => Bool.false_ne_true (h.symm.trans z))] at q
    walk_at "ws"
    exact q _
def needL (q : D) (xs : List D) : Except Er D := if fieldD q = true then (match xs.find? fun x => !letD (qi q) x with | some x => .error (.L x) | none => .ok .non) else .error (.F q)
def C_need_letters : Ct := fun os Q E => ∃ q xs, os = [.d q, .d (.tup xs)] ∧ Vis q ∧ (∀ x ∈ xs, Vis x) ∧ Res (needL q xs) Q E
def m_need_letters : WS := (wSeq (wDrop (wCall C_need_field [0] [(none, (wVar 0))]))
  (wFor (wItr (wVar 1)) (gNm [2] 2)
  (wIfS (wNotT (wTru (wCall C_is_between [0, 1, 2] [(none, (wVar 2)), (none, (wK (.int 0))), (none, (wBin mSub (wVar 0) (wK (.int 1))))])))
  (wRaise "BadLetter" "thing" (wVar 2))
  wNext)))
theorem ok_need_letters : ∀ os Qd Ed, os.length = 2 → C_need_letters os Qd Ed → m_need_letters (slot0 3 os) (endOf [2] 2 Qd Ed) := by
  rintro os Qd Ed - ⟨x, xs, rfl, hv, hx, q⟩
  refine r_end ?_
  show m_need_letters [some (.d x), some (.d (.tup xs)), none] _
  unfold m_need_letters
  walk_at "ws"
  refine ⟨x, rfl, hv, ?_⟩
  unfold needL at q
  unfold needF
  by_cases h : fieldD x = true
  · rw [if_pos h] at q ⊢
    obtain ⟨i, rfl, h1, h2⟩ := betD_int h
    intro os'
    walk_at "ws"
    refine for_inv (fun ys ρ => xs.find? (fun y => !letD i y) = ys.find? (fun y => !letD i y) ∧ (∀ y ∈ ys, Vis y) ∧ ∃ o, ρ = [some (.d (.int i)), some (.d (.tup xs)), o]) ?_ ?_ _ _ ⟨rfl, hx, _, rfl⟩
    · rintro _ ⟨e, -, o, rfl⟩
      rw [show qi (.int i) = i from rfl, e] at q
      exact q _
    · rintro y ys _ K hK ⟨e, hy, o, rfl⟩
      walk_at "ws"
      refine c_btw (hy y List.mem_cons_self) fun os' => ?_
      walk_at "ws"
      refine r_iV (fun h => ?_) (fun h => ?_)
      · walk_at "ws"
        refine hK _ ⟨?_, fun z hz => hy z (List.mem_cons_of_mem _ hz), _, rfl⟩
        rw [e, List.find?_cons_of_neg]
        rw [show letD i y = true from h]; exact Bool.false_ne_true
      · walk_at "ws"
        rw [show qi (.int i) = i from rfl, e, List.find?_cons_of_pos (by rw [show letD i y = false from h]; rfl)] at q
        exact q _
  · rw [if_neg h] at q ⊢
    intro os'
    walk_at "ws"
    exact q _
theorem needL_ok {q : D} {xs : List D} {y : D} (h : needL q xs = .ok y) : ∃ i, q = .int i ∧ 2 ≤ i ∧ i ≤ 5 ∧ y = .non ∧ ∀ x ∈ xs, ∃ j, x = .int j ∧ 0 ≤ j ∧ j < i := by
  unfold needL at h
  by_cases hf : fieldD q = true
  · rw [if_pos hf] at h
    obtain ⟨i, rfl, h1, h2⟩ := betD_int hf
    split at h
    · cases h
    · rename_i e
      cases h
      refine ⟨i, rfl, h1, h2, rfl, fun x hx => ?_⟩
      have := List.find?_eq_none.mp e x hx
      have this : letD i x = true := by simpa [qi] using this
      obtain ⟨j, rfl, h3, h4⟩ := betD_int this
      exact ⟨j, rfl, h3, by omega⟩
  · rw [if_neg hf] at h; cases h
/-! ### sums, products -/
def Lt3 (i j k : Int) : Prop := 2 ≤ i ∧ i ≤ 5 ∧ 0 ≤ j ∧ j < i ∧ 0 ≤ k ∧ k < i
def t4 (j k : Int) : Int := if j = 0 ∨ k = 0 then 0 else 1 + (j + k - 2) % 3
def lsum (i j k : Int) : Int := if i = 4 then Builtin.bitXor j k else (j + k) % i
def lprod (i j k : Int) : Int := if i = 4 then t4 j k else j * k % i
def C3 (f : Int → Int → Int → Int) : Ct := fun os Q _ => ∃ i j k, os = [.d (.int i), .d (.int j), .d (.int k)] ∧ Lt3 i j k ∧ ∀ os', Q (.d (.int (f i j k))) os'
theorem c3 {f : Int → Int → Int → Int} {i j k : Int} {Q : O → Sl → Prop} {E : Exc → Sl → Prop} (h : Lt3 i j k) (hq : ∀ os', Q (.d (.int (f i j k))) os') : C3 f [.d (.int i), .d (.int j), .d (.int k)] Q E := ⟨i, j, k, rfl, h, hq⟩
def C_letter_sum : Ct := C3 lsum
def m_letter_sum : WS := (wRet (wIf (wBool (wEqVX Leq 0 (wK (.int 4)))) (wBin mXor (wVar 1) (wVar 2)) (wBin mMod (wBin mAdd (wVar 1) (wVar 2)) (wVar 0))))
theorem ok_letter_sum : ∀ os Qd Ed, os.length = 3 → C_letter_sum os Qd Ed → m_letter_sum (slot0 3 os) (endOf [] 3 Qd Ed) := by
  rintro os Qd Ed - ⟨i, j, k, rfl, ⟨h1, h2, h3, h4, h5, h6⟩, q⟩
  refine r_end ?_
  show m_letter_sum [some (.d (.int i)), some (.d (.int j)), some (.d (.int k))] _
  unfold m_letter_sum
  unfold lsum at q
  walk_at "ws"
  · rename_i h; rw [if_pos h] at q; exact q _
  · rename_i h; rw [if_neg h] at q; exact q _
def T_TIMES_FOUR : D := .tup [.tup [.int 0, .int 0, .int 0, .int 0], .tup [.int 0, .int 1, .int 2, .int 3], .tup [.int 0, .int 2, .int 3, .int 1], .tup [.int 0, .int 3, .int 1, .int 2]]
def C_letter_product : Ct := C3 lprod
def m_letter_product : WS := (wRet (wIf (wBool (wEqVX Leq 0 (wK (.int 4)))) (wBin mIx (wBin mIx (wK T_TIMES_FOUR) (wVar 1)) (wVar 2)) (wBin mMod (wBin mMul (wVar 1) (wVar 2)) (wVar 0))))
theorem ok_letter_product : ∀ os Qd Ed, os.length = 3 → C_letter_product os Qd Ed → m_letter_product (slot0 3 os) (endOf [] 3 Qd Ed) := by
  rintro os Qd Ed - ⟨i, j, k, rfl, ⟨h1, h2, h3, h4, h5, h6⟩, q⟩
  refine r_end ?_
  show m_letter_product [some (.d (.int i)), some (.d (.int j)), some (.d (.int k))] _
  unfold m_letter_product
  unfold lprod at q
  walk_at "ws"
  · rename_i h
    rw [if_pos h] at q
    have e1 : j = 0 ∨ j = 1 ∨ j = 2 ∨ j = 3 := by omega
    have e2 : k = 0 ∨ k = 1 ∨ k = 2 ∨ k = 3 := by omega
    unfold T_TIMES_FOUR
    rcases e1 with rfl | rfl | rfl | rfl <;> rcases e2 with rfl | rfl | rfl | rfl <;> (walk_at "ws"; exact q _)
  · rename_i h; rw [if_neg h] at q; exact q _
end Pv

set_option Elab.async false
set_option maxRecDepth 100000
set_option maxHeartbeats 4000000
set_option autoImplicit false
set_option linter.unusedVariables false
namespace Pv
open PySem L2
local macro_rules | `(tactic| walk_at "wpow") => `(tactic| (simp only [Int.reduceToNat, Int.reducePow]; rfl))
local macro_rules | `(tactic| walk_at "wx") => `(tactic| first | rfl | assumption | with_unfolding_all rfl)
local macro_rules | `(tactic| walk_at "wd") => `(tactic| first | with_reducible rfl | assumption | omega | decide | (refine cdivw_small ?_ ?_ <;> omega) | (refine cdivw_small ?_ ?_ <;> split <;> omega) | (refine cpow_small ?_ ?_ ?_ ?_ <;> omega) | (refine cmul_r ?_ ?_ <;> omega) | (refine cmul_l ?_ ?_ <;> omega) | (simp only [List.length_cons, List.length_nil, List.length_append, List.length_reverse, List.length_map, flat_len, Int.reduceToNat]; omega) | (simp only [sizeLine, List.length_cons, List.length_nil, List.length_append, List.length_reverse, List.length_map, flat_len, Int.reduceToNat]; omega))
local macro_rules | `(tactic| walk_at "ws") => `(tactic| repeat' (first | (with_reducible first | refine Stp.go ?_ | refine AndG.go (by first | decide | walk_at "wd") ?_ | refine StpI.go (fun _ => ?_) (fun z => absurd (by first | rfl | decide | omega | (simp only [List.length_cons, List.length_nil]; omega)) z) | refine StpI.go (fun z => absurd z (by first | decide | omega | (simp only [List.length_cons, List.length_nil]; omega))) (fun _ => ?_) | refine StpI.go (fun _ => ?_) (fun _ => ?_) | refine StpX.go _ (by walk_at "wx") ?_ | refine StpN.go _ (by walk_at "wd") (by walk_at "wpow") ?_ | refine StpZ.go _ (by with_unfolding_all rfl) ?_ | refine StpV.go _ _ (by with_unfolding_all rfl) (by with_unfolding_all rfl) ?_ | exact DnT.h) | intro _))
/-! ### told -/
def Rk (r : Except Er D) (A : O → Prop) (B : Exc → Prop) : Prop := match r with
  | .ok d => A (.d d)
  | .error e => B (exc e)
theorem Rk.res {r : Except Er D} {A : O → Prop} {B : Exc → Prop} (h : Rk r A B) : Res r (fun o _ => A o) fun e _ => B e := by
  cases r <;> exact fun _ => h
theorem rk_ok {d : D} {A : O → Prop} {B : Exc → Prop} (h : A (.d d)) : Rk (.ok d) A B := h
theorem rk_er {e : Er} {A : O → Prop} {B : Exc → Prop} (h : B (exc e)) : Rk (.error e) A B := h
def CL__law_told : CtL := fun L Q => ∃ r : Except Er D, (∀ (A : O → Prop) (B : Exc → Prop), Rk r A B → L A B) ∧ Q (.d (toldD r))
def m__law_told (f : Addr) (F0 : Hp) (L : LamC) : WS := (fun ρ De => wTry Lsub
  (wRet (wTup (wCons (wK (.str "told")) (wCons (wAct 0 f F0 L) wNil))))
  [("BadField", some 1, fun x ρ De => (wTup (wCons (wK (.str "field")) (wCons (wXf "BadField" "thing" x) wNil))) ρ De.rt nox),
   ("BadLetter", some 1, fun x ρ De => (wTup (wCons (wK (.str "letter")) (wCons (wXf "BadLetter" "thing" x) wNil))) ρ De.rt nox),
   ("BadWord", some 1, fun x ρ De => (wTup (wCons (wK (.str "word")) (wCons (wXf "BadWord" "thing" x) wNil))) ρ De.rt nox)] ρ De ∧ 2 = ρ.length)
theorem tg_T {sub : Str → Str → Option Bool} {y : Str} {i : Option Nat} {su : Exc → WS} {r : List Cld} {e : Exc} {ρ : Sl} {De : EndW} (h : sub e.cls y = some true) (k : su e (onSl i ρ) (offD i De)) : tryGo sub ((y, i, su) :: r) e ρ De := ⟨true, h, k⟩
theorem tg_F {sub : Str → Str → Option Bool} {y : Str} {i : Option Nat} {su : Exc → WS} {r : List Cld} {e : Exc} {ρ : Sl} {De : EndW} (h : sub e.cls y = some false) (k : tryGo sub r e ρ De) : tryGo sub ((y, i, su) :: r) e ρ De := ⟨false, h, k⟩
theorem ok__law_told : ∀ (f : Addr) (F0 : Hp) (L : LamC) (Qd : O → Prop), CL__law_told L Qd → m__law_told f F0 L (slot0 2 [.d (.fn f F0)]) (endOf [1] 1 (fun o _ => Qd o) fun _ _ => False) := by
  rintro f F0 L Qd ⟨r, hL, q⟩
  refine r_end ?_
  show m__law_told f F0 L [some (.d (.fn f F0)), none] _
  unfold m__law_told
  refine And.intro ?_ rfl
  refine r_try ?_
  walk_at "ws"
  refine r_act rfl ?_
  refine hL _ _ ?_
  cases r with
  | ok d =>
    refine rk_ok (r_cD ?_)
    walk_at "ws"
    exact q
  | error e =>
    refine rk_er ?_
    cases e with
    | F x =>
      refine tg_T (show Lsub "BadField" "BadField" = some true by decide +kernel) ?_
      show wTup (wCons (wK (.str "field")) (wCons (wXf "BadField" "thing" (BF x)) wNil)) [some (.d (.fn f F0)), none] (fun o ρ => Qd o) nox
      walk_at "ws"
      refine r_xf (x := x) (by kernel_rfl) ?_
      walk_at "ws"
      exact q
    | L x =>
      refine tg_F (show Lsub "BadLetter" "BadField" = some false by decide +kernel) (tg_T (show Lsub "BadLetter" "BadLetter" = some true by decide +kernel) ?_)
      show wTup (wCons (wK (.str "letter")) (wCons (wXf "BadLetter" "thing" (BL x)) wNil)) [some (.d (.fn f F0)), none] (fun o ρ => Qd o) nox
      walk_at "ws"
      refine r_xf (x := x) (by kernel_rfl) ?_
      walk_at "ws"
      exact q
    | W x =>
      refine tg_F (show Lsub "BadWord" "BadField" = some false by decide +kernel) (tg_F (show Lsub "BadWord" "BadLetter" = some false by decide +kernel) (tg_T (show Lsub "BadWord" "BadWord" = some true by decide +kernel) ?_))
      show wTup (wCons (wK (.str "word")) (wCons (wXf "BadWord" "thing" (BW x)) wNil)) [some (.d (.fn f F0)), none] (fun o ρ => Qd o) nox
      walk_at "ws"
      refine r_xf (x := x) (by kernel_rfl) ?_
      walk_at "ws"
      exact q
theorem told_go {js : List Nat} {m : WE} {ρ : Sl} {Q : O → Sl → Prop} {E : Exc → Sl → Prop} (r : Except Er D) (hj : ∀ j ∈ js, ∃ x, ρ[j]? = some (some (.d x))) (hm : ∀ (A : O → Prop) (B : Exc → Prop), Rk r A B → m (keepD js ρ) (fun o _ => A o) fun e _ => B e) (h : Q (.d (toldD r)) ρ) : wLam CL__law_told js m ρ Q E :=
  ⟨hj, r, hm, h⟩
/-! ### letters -/
theorem int_or {x : D} (h : (isInt x || isBl x) = true) : (∃ v, x = .int v) ∨ ∃ b, x = .bl b := by
  cases x <;> first | exact .inl ⟨_, rfl⟩ | exact .inr ⟨_, rfl⟩ | cases h
theorem bet_no {lo hi : Int} {x : D} (h : (isInt x || isBl x) = false) : betD lo hi x = false := by
  cases x <;> first | rfl | cases h
def C__law_is_letter : Ct := fun os Q _ => ∃ i x, os = [.d (.int i), .d x] ∧ Vis x ∧ ∀ os', Q (.d (.bl (letD i x))) os'
def m__law_is_letter : WS := (wRet (wAndV (wIsiX (isiX Lic .int) (wVar 1)) (wAndV (wNotV (wIsiX (isiX Lic .bool) (wVar 1))) (wChain mLe mLt (wK (.int 0)) (wVar 1) (wVar 0)))))
theorem ok__law_is_letter : ∀ os Qd Ed, os.length = 2 → C__law_is_letter os Qd Ed → m__law_is_letter (slot0 2 os) (endOf [] 2 Qd Ed) := by
  rintro os Qd Ed - ⟨i, x, rfl, hv, q⟩
  refine r_end ?_
  show m__law_is_letter [some (.d (.int i)), some (.d x)] _
  unfold m__law_is_letter
  walk_at "ws"
  refine r_isiK (isi_int hv) ?_
  walk_at "ws"
  refine r_iV (fun h => ?_) (fun h => ?_)
  · walk_at "ws"
    refine r_isiK (isi_bool hv) ?_
    rcases int_or h with ⟨v, rfl⟩ | ⟨b, rfl⟩
    · show cold (.d (.bl false)) _
      walk_at "ws"
      · rename_i h
        have e : letD i (.int v) = decide (v < i) := by
          have : decide (v ≤ i - 1) = decide (v < i) := by congr 1; exact propext ⟨fun _ => by omega, fun _ => by omega⟩
          simp [betD, h, this]
        rw [e] at q
        exact q _
      · rename_i h
        have e : letD i (.int v) = false := by simp [betD, h]
        rw [e] at q
        exact q _
    · show cold (.d (.bl true)) _
      walk_at "ws"
      exact q _
  · rw [h]
    have e := bet_no (lo := 0) (hi := i - 1) h
    rw [show letD i x = false from e] at q
    exact q _
def C__law_by : Ct := C3 lprod
def m__law_by : WS := (wSeq (wIfS (wBool (wEqV true 0 (wK (.int 4))))
  (wRet (wBin mMod (wCB mInt (wCons (wBin mMul (wVar 1) (wVar 2)) wNil)) (wVar 0)))
  wNext)
  (wRet (wIf (wBool (wBin (mIn false) (wK (.int 0)) (wTup (wCons (wVar 1) (wCons (wVar 2) wNil))))) (wK (.int 0)) (wBin mAdd (wK (.int 1)) (wBin mMod (wCB mInt (wCons (wBin mSub (wBin mAdd (wVar 1) (wVar 2)) (wK (.int 2))) wNil)) (wK (.int 3)))))))
theorem in0 {j k : Int} : inD (.int 0) [.int j, .int k] = decide (j = 0 ∨ k = 0) := by
  show ((j == 0) || ((k == 0) || false)) = _
  by_cases h1 : j = 0 <;> by_cases h2 : k = 0 <;> simp [h1, h2]
theorem ok__law_by : ∀ os Qd Ed, os.length = 3 → C__law_by os Qd Ed → m__law_by (slot0 3 os) (endOf [] 3 Qd Ed) := by
  rintro os Qd Ed - ⟨i, j, k, rfl, ⟨h1, h2, h3, h4, h5, h6⟩, q⟩
  refine r_end ?_
  show m__law_by [some (.d (.int i)), some (.d (.int j)), some (.d (.int k))] _
  unfold m__law_by
  unfold lprod t4 at q
  walk_at "ws"
  · rename_i h1 h
    rw [if_pos h1, if_pos (by omega)] at q
    exact q _
  · rename_i h1 h
    rw [if_pos h1, if_neg (by omega)] at q
    exact q _
  · rename_i h; rw [if_neg h] at q; exact q _
theorem bet_t {lo hi v : Int} (h1 : lo ≤ v) (h2 : v ≤ hi) : betD lo hi (.int v) = true := by
  show (decide (lo ≤ v) && decide (v ≤ hi)) = true
  rw [decide_eq_true h1, decide_eq_true h2]; rfl
end Pv

set_option Elab.async false
set_option maxRecDepth 100000
set_option maxHeartbeats 4000000
set_option autoImplicit false
set_option linter.unusedVariables false
namespace Pv
open PySem L2
local macro_rules | `(tactic| walk_at "wpow") => `(tactic| (simp only [Int.reduceToNat, Int.reducePow]; rfl))
local macro_rules | `(tactic| walk_at "wx") => `(tactic| first | rfl | assumption | with_unfolding_all rfl)
local macro_rules | `(tactic| walk_at "wd") => `(tactic| first | with_reducible rfl | assumption | omega | decide | (refine cdivw_small ?_ ?_ <;> omega) | (refine cdivw_small ?_ ?_ <;> split <;> omega) | (refine cpow_small ?_ ?_ ?_ ?_ <;> omega) | (refine cmul_r ?_ ?_ <;> omega) | (refine cmul_l ?_ ?_ <;> omega) | (simp only [List.length_cons, List.length_nil, List.length_append, List.length_reverse, List.length_map, flat_len, Int.reduceToNat]; omega) | (simp only [sizeLine, List.length_cons, List.length_nil, List.length_append, List.length_reverse, List.length_map, flat_len, Int.reduceToNat]; omega))
local macro_rules | `(tactic| walk_at "ws") => `(tactic| repeat' (first | (with_reducible first | refine Stp.go ?_ | refine AndG.go (by first | decide | walk_at "wd") ?_ | refine StpI.go (fun _ => ?_) (fun z => absurd (by first | rfl | decide | omega | (simp only [List.length_cons, List.length_nil]; omega)) z) | refine StpI.go (fun z => absurd z (by first | decide | omega | (simp only [List.length_cons, List.length_nil]; omega))) (fun _ => ?_) | refine StpI.go (fun _ => ?_) (fun _ => ?_) | refine StpX.go _ (by walk_at "wx") ?_ | refine StpN.go _ (by walk_at "wd") (by walk_at "wpow") ?_ | refine StpZ.go _ (by with_unfolding_all rfl) ?_ | refine StpV.go _ _ (by with_unfolding_all rfl) (by with_unfolding_all rfl) ?_ | exact DnT.h) | intro _))
/-! ### words, rows -/
theorem of4 {p : Int → Int → Prop} (h : ∀ j ∈ [(0 : Int), 1, 2, 3], ∀ k ∈ [(0 : Int), 1, 2, 3], p j k) {j k : Int} (h1 : 0 ≤ j) (h2 : j < 4) (h3 : 0 ≤ k) (h4 : k < 4) : p j k := by
  refine h j ?_ k ?_
  · have : j = 0 ∨ j = 1 ∨ j = 2 ∨ j = 3 := by omega
    simpa using this
  · have : k = 0 ∨ k = 1 ∨ k = 2 ∨ k = 3 := by omega
    simpa using this
abbrev rowD (r : List Int) : D := .tup (r.map D.int)
def Ltr (q : Int) (r : List Int) : Prop := ∀ x ∈ r, 0 ≤ x ∧ x < q
theorem Lt3.mk {i j k : Int} (h : 2 ≤ i ∧ i ≤ 5) (hj : 0 ≤ j ∧ j < i) (hk : 0 ≤ k ∧ k < i) : Lt3 i j k := ⟨h.1, h.2, hj.1, hj.2, hk.1, hk.2⟩
theorem xor4 {j k : Int} (h1 : 0 ≤ j) (h2 : j < 4) (h3 : 0 ≤ k) (h4 : k < 4) : 0 ≤ Builtin.bitXor j k ∧ Builtin.bitXor j k < 4 := of4 (p := fun j k => 0 ≤ Builtin.bitXor j k ∧ Builtin.bitXor j k < 4) (by decide +kernel) h1 h2 h3 h4
theorem lsum_in {i j k : Int} (h : Lt3 i j k) : 0 ≤ lsum i j k ∧ lsum i j k < i := by
  obtain ⟨h1, h2, h3, h4, h5, h6⟩ := h
  unfold lsum
  split
  · rename_i h; subst h; exact xor4 h3 h4 h5 h6
  · exact ⟨Int.emod_nonneg _ (by omega), Int.emod_lt_of_pos _ (by omega)⟩
theorem lprod_in {i j k : Int} (h : Lt3 i j k) : 0 ≤ lprod i j k ∧ lprod i j k < i := by
  obtain ⟨h1, h2, h3, h4, h5, h6⟩ := h
  unfold lprod
  split
  · unfold t4; split <;> omega
  · exact ⟨Int.emod_nonneg _ (by omega), Int.emod_lt_of_pos _ (by omega)⟩
def rowTimes (q l : Int) (r : List Int) : List Int := r.map (lprod q l)
theorem rowTimes_in {q l : Int} {r : List Int} (h : 2 ≤ q ∧ q ≤ 5) (hl : 0 ≤ l ∧ l < q) (hr : Ltr q r) : Ltr q (rowTimes q l r) := fun x hx => by
  obtain ⟨a, ha, rfl⟩ := List.mem_map.mp hx
  exact lprod_in (.mk h hl (hr a ha))
theorem rowTimes_len {q l : Int} {r : List Int} : (rowTimes q l r).length = r.length := List.length_map _
def C_row_times : Ct := fun os Q _ => ∃ q l r, os = [.d (.int q), .d (.int l), .d (rowD r)] ∧ (2 ≤ q ∧ q ≤ 5) ∧ (0 ≤ l ∧ l < q) ∧ Ltr q r ∧ r.length < 16777216 ∧ ∀ os', Q (.d (rowD (rowTimes q l r))) os'
def m_row_times : WS := (wRet (wTuple (wLc (wItr (wVar 2)) (gNm [3] 3) wYes (wCall C_letter_product [0, 1, 2] [(none, (wVar 0)), (none, (wVar 1)), (none, (wVar 3))]) [3])))
theorem ok_row_times : ∀ os Qd Ed, os.length = 3 → C_row_times os Qd Ed → m_row_times (slot0 4 os) (endOf [] 3 Qd Ed) := by
  rintro os Qd Ed - ⟨x, l, r, rfl, hx, hl, hr, hlen, q⟩
  refine r_end ?_
  show m_row_times [some (.d (.int x)), some (.d (.int l)), some (.d (.tup (r.map D.int))), none] _
  unfold m_row_times
  walk_at "ws"
  refine lc_map _ (fun p => D.int (lprod x l p)) (by omega) (fun p hp K hK => ?_) ?_
  · walk_at "ws"
    refine c3 (.mk hx hl (hr p hp)) fun os' => ?_
    walk_at "ws"
    exact hK _ rfl
  · walk_at "ws"
    unfold rowD rowTimes at q
    simp only [List.map_map] at q
    exact q _
/-! ### letters of a tuple -/
def lettersD (q n : Int) : D → Bool
  | .tup xs => decide ((xs.length : Int) = n) && xs.all (betD 0 (q - 1))
  | _ => false
/-- a value whose items may be looked at -/
def VisT (x : D) : Prop := Vis x ∧ ∀ xs, x = .tup xs → xs.length < 16777216 ∧ ∀ y ∈ xs, Vis y
def C_is_letters : Ct := fun os Q _ => ∃ (q n : Int) (x : D), os = [.d (.int q), .d (.int n), .d x] ∧ VisT x ∧ ∀ os', Q (.d (.bl (lettersD q n x))) os'
def m_is_letters : WS := (wSeq (wIfS (wOrT (wNotT (wTru (wIsiX (isiX Lic .tuple) (wVar 2)))) (wBool (wBin (mEq true) (wLenV 2) (wVar 1))))
  (wRet (wK (.bl false)))
  wNext)
  (wRet (wCB (mFoldB fun b => b.all id) (wCons (wLc (wItr (wVar 2)) (gNm [3] 3) wYes (wCall C_is_between [0, 1, 2] [(none, (wVar 3)), (none, (wK (.int 0))), (none, (wBin mSub (wVar 0) (wK (.int 1))))]) [3]) wNil))))
theorem map_bl {α : Type} (f : α → Bool) (xs : List α) : (xs.map fun x => D.bl (f x)) = (xs.map f).map D.bl := by rw [List.map_map]; rfl
theorem all_id {α : Type} (f : α → Bool) (xs : List α) : (xs.map f).all id = xs.all f := by rw [List.all_map]; rfl
theorem ok_is_letters : ∀ os Qd Ed, os.length = 3 → C_is_letters os Qd Ed → m_is_letters (slot0 4 os) (endOf [] 3 Qd Ed) := by
  rintro os Qd Ed - ⟨x, n, y, rfl, ⟨hv, ht⟩, q⟩
  refine r_end ?_
  show m_is_letters [some (.d (.int x)), some (.d (.int n)), some (.d y), none] _
  unfold m_is_letters
  walk_at "ws"
  refine r_isiK (isi_tup hv) ?_
  walk_at "ws"
  refine r_iV (fun h => ?_) (fun h => ?_)
  · obtain ⟨xs, rfl⟩ : ∃ xs, y = .tup xs := by cases y <;> first | exact ⟨_, rfl⟩ | cases h
    obtain ⟨hl, hy⟩ := ht xs rfl
    have e : lettersD x n (.tup xs) = (decide ((xs.length : Int) = n) && xs.all (betD 0 (x - 1))) := rfl
    rw [e] at q
    walk_at "ws"
    · rename_i hn
      rw [decide_eq_true hn] at q
      rw [show xs = xs.map id from (List.map_id xs).symm]
      refine lc_map id (fun y => D.bl (betD 0 (x - 1) y)) hl (fun y hy' K hK => ?_) ?_
      · walk_at "ws"
        refine c_btw (hy y hy') fun os' => ?_
        walk_at "ws"
        exact hK _ rfl
      · walk_at "ws"
        rw [map_bl]
        refine r_foldB ?_
        rw [all_id]
        exact q _
    · rename_i hn
      rw [decide_eq_false hn] at q
      exact q _
  · have e : lettersD x n y = false := by cases y <;> first | rfl | cases h
    rw [e] at q
    walk_at "ws"
    exact q _
/-! ### words, as the program has them -/
def isW (i : Int) : D → Bool
  | .tup xs => xs.all (letD i)
  | _ => false
theorem isW_row {i : Int} {x : D} (h : isW i x = true) : ∃ r, x = rowD r ∧ Ltr i r := by
  cases x with
  | tup xs =>
    replace h : xs.all (letD i) = true := h
    suffices ∃ r : List Int, xs = r.map D.int ∧ Ltr i r by
      obtain ⟨r, rfl, hr⟩ := this; exact ⟨r, rfl, hr⟩
    induction xs with
    | nil => exact ⟨[], rfl, fun x hx => absurd hx List.not_mem_nil⟩
    | cons y ys ih =>
      rw [List.all_cons, Bool.and_eq_true] at h
      obtain ⟨r, rfl, hr⟩ := ih h.2
      obtain ⟨j, rfl, h1, h2⟩ := betD_int h.1
      refine ⟨j :: r, rfl, fun x hx => ?_⟩
      rcases List.mem_cons.mp hx with rfl | hx
      · exact ⟨h1, by omega⟩
      · exact hr x hx
  | _ => cases h
def tlen : D → Nat
  | .tup xs => xs.length
  | _ => 0
def needW (i : Int) (xs : List D) : Except Er D := match xs.find? (fun x => !isW i x) with
  | some x => .error (.W x)
  | none => match xs with
    | [a, b] => if tlen a = tlen b then .ok .non else .error (.W b)
    | _ => .ok .non
def OneTwo (xs : List D) : Prop := (∃ a, xs = [a]) ∨ ∃ a b, xs = [a, b]
def C_need_words : Ct := fun os Q E => ∃ i xs, os = [.d (.int i), .d (.tup xs)] ∧ OneTwo xs ∧ (∀ x ∈ xs, VisT x) ∧ Res (needW i xs) Q E
def m_need_words : WS := (wSeq (wFor (wItr (wVar 1)) (gNm [2] 2)
  (wIfS (wOrT (wNotT (wTru (wIsiX (isiX Lic .tuple) (wVar 2)))) (wNotT (wTru (wCall C_is_letters [0, 1, 2] [(none, (wVar 0)), (none, (wLenV 2)), (none, (wVar 2))]))))
  (wRaise "BadWord" "thing" (wVar 2))
  wNext))
  (wIfS (wAndT (wBool (wBin (mEq false) (wLenV 1) (wK (.int 2)))) (wBool (wBin (mEq true) (wCB mLen (wCons (wIxA 1 (wK (.int 0))) wNil)) (wCB mLen (wCons (wIxA 1 (wK (.int 1))) wNil)))))
  (wRaise "BadWord" "thing" (wIxA 1 (wK (.int 1))))
  wNext))
theorem isW_tup {i : Int} {xs : List D} : lettersD i (xs.length : Nat) (.tup xs) = isW i (.tup xs) := by
  show (decide (((xs.length : Nat) : Int) = (xs.length : Nat)) && xs.all (betD 0 (i - 1))) = xs.all (letD i)
  rw [decide_eq_true rfl, Bool.true_and]
theorem ok_need_words : ∀ os Qd Ed, os.length = 2 → C_need_words os Qd Ed → m_need_words (slot0 3 os) (endOf [2] 2 Qd Ed) := by
  rintro os Qd Ed - ⟨i, xs, rfl, h12, hx, q⟩
  refine r_end ?_
  show m_need_words [some (.d (.int i)), some (.d (.tup xs)), none] _
  unfold m_need_words
  walk_at "ws"
  refine for_inv (fun ys ρ => xs.find? (fun y => !isW i y) = ys.find? (fun y => !isW i y) ∧ (∀ y ∈ ys, VisT y) ∧ ∃ o, ρ = [some (.d (.int i)), some (.d (.tup xs)), o]) ?_ ?_ _ _ ⟨rfl, hx, _, rfl⟩
  · rintro _ ⟨e, -, o, rfl⟩
    have e : xs.find? (fun y => !isW i y) = none := e
    unfold needW at q
    rw [e] at q
    have hall : ∀ x ∈ xs, isW i x = true := fun x hx' => by
      have := List.find?_eq_none.mp e x hx'
      simpa using this
    rcases h12 with ⟨a, rfl⟩ | ⟨a, b, rfl⟩
    · walk_at "ws"
      exact q _
    · obtain ⟨ra, rfl, _⟩ := isW_row (hall a List.mem_cons_self)
      obtain ⟨rb, rfl, _⟩ := isW_row (hall b (List.mem_cons_of_mem _ List.mem_cons_self))
      have q : Res (if (ra.map D.int).length = (rb.map D.int).length then .ok .non else .error (.W (rowD rb))) Qd Ed := q
      walk_at "ws"
      · rename_i h
        rw [if_pos (by omega)] at q
        exact q _
      · rename_i h
        rw [if_neg (by omega)] at q
        exact q _
  · rintro y ys _ K hK ⟨e, hy, o, rfl⟩
    have hv := hy y List.mem_cons_self
    walk_at "ws"
    refine r_isiK (isi_tup hv.1) ?_
    walk_at "ws"
    have bad : isW i y = false → ∀ os', Ed (BW y) os' := fun h => by
      unfold needW at q
      rw [e, List.find?_cons_of_pos (by rw [h]; rfl)] at q
      exact q
    refine r_iV (fun h => ?_) (fun h => ?_)
    · obtain ⟨zs, rfl⟩ : ∃ zs, y = .tup zs := by cases y <;> first | exact ⟨_, rfl⟩ | cases h
      walk_at "ws"
      refine ⟨i, _, _, rfl, hv, fun os' => ?_⟩
      rw [isW_tup]
      walk_at "ws"
      refine r_iV (fun h => ?_) (fun h => ?_)
      · walk_at "ws"
        refine hK _ ⟨?_, fun z hz => hy z (List.mem_cons_of_mem _ hz), _, rfl⟩
        rw [e, List.find?_cons_of_neg (by rw [h]; exact Bool.false_ne_true)]
      · walk_at "ws"
        exact bad h _
    · walk_at "ws"
      refine bad ?_ _
      cases y <;> first | rfl | cases h
def rsum (i : Int) (r s : List Int) : List Int := (r.zip s).map fun p => lsum i p.1 p.2
def C2R (f : Int → List Int → List Int → D) : Ct := fun os Q _ => ∃ i r s, os = [.d (.int i), .d (rowD r), .d (rowD s)] ∧ (2 ≤ i ∧ i ≤ 5) ∧ Ltr i r ∧ Ltr i s ∧ r.length < 16777216 ∧ ∀ os', Q (.d (f i r s)) os'
def C_row_sum : Ct := C2R fun i r s => rowD (rsum i r s)
def m_row_sum : WS := (wRet (wTuple (wLc (wItrZ (wCons (wVar 1) (wCons (wVar 2) wNil))) (gTp 2 (gCn (gNm [3, 4] 3) (gCn (gNm [3, 4] 4) gNl))) wYes (wCall C_letter_sum [0, 1, 2] [(none, (wVar 0)), (none, (wVar 3)), (none, (wVar 4))]) [3, 4])))
theorem ok_row_sum : ∀ os Qd Ed, os.length = 3 → C_row_sum os Qd Ed → m_row_sum (slot0 5 os) (endOf [] 3 Qd Ed) := by
  rintro os Qd Ed - ⟨i, r, s, rfl, hi, hr, hs, hl, q⟩
  refine r_end ?_
  show m_row_sum [some (.d (.int i)), some (.d (.tup (r.map D.int))), some (.d (.tup (s.map D.int))), none, none] _
  unfold m_row_sum
  walk_at "ws"
  rw [zip_ints]
  refine lc_map _ (fun p => D.int (lsum i p.1 p.2)) (by rw [List.length_zip]; omega) (fun p hp K hK => ?_) ?_
  · walk_at "ws"
    refine c3 (.mk hi (hr p.1 (List.of_mem_zip hp).1) (hs p.2 (List.of_mem_zip hp).2)) fun os' => ?_
    walk_at "ws"
    exact hK _ rfl
  · walk_at "ws"
    have q := q
    unfold rowD rsum at q
    simp only [List.map_map] at q
    exact q _
def rprod (i : Int) (r s : List Int) : Int := (r.zip s).foldl (fun t p => lsum i t (lprod i p.1 p.2)) 0
theorem rprod_in {i : Int} (hi : 2 ≤ i ∧ i ≤ 5) : ∀ (l : List (Int × Int)) (t : Int), (∀ p ∈ l, (0 ≤ p.1 ∧ p.1 < i) ∧ 0 ≤ p.2 ∧ p.2 < i) → 0 ≤ t ∧ t < i → 0 ≤ l.foldl (fun t p => lsum i t (lprod i p.1 p.2)) t ∧ l.foldl (fun t p => lsum i t (lprod i p.1 p.2)) t < i
  | [], _, _, h => h
  | p :: l, t, h, ht => rprod_in hi l _ (fun p hp => h p (List.mem_cons_of_mem _ hp)) (lsum_in (.mk hi ht (lprod_in (.mk hi (h p List.mem_cons_self).1 (h p List.mem_cons_self).2))))
theorem zip_ltr {i : Int} {r s : List Int} (hr : Ltr i r) (hs : Ltr i s) : ∀ p ∈ r.zip s, (0 ≤ p.1 ∧ p.1 < i) ∧ 0 ≤ p.2 ∧ p.2 < i := fun p hp => ⟨hr p.1 (List.of_mem_zip hp).1, hs p.2 (List.of_mem_zip hp).2⟩
def C_row_product : Ct := C2R fun i r s => .int (rprod i r s)
def m_row_product : WS := (wSeq (wAsg (as := [3, 4, 5]) 3 (wK (.int 0)))
  (wSeq (wFor (wItrZ (wCons (wVar 1) (wCons (wVar 2) wNil))) (gTp 2 (gCn (gNm [3, 4, 5] 4) (gCn (gNm [3, 4, 5] 5) gNl)))
  (wAsg (as := [3, 4, 5]) 3 (wCall C_letter_sum [0, 1, 2] [(none, (wVar 0)), (none, (wVar 3)), (none, (wCall C_letter_product [0, 1, 2] [(none, (wVar 0)), (none, (wVar 4)), (none, (wVar 5))]))])))
  (wRet (wMove 3))))
theorem ok_row_product : ∀ os Qd Ed, os.length = 3 → C_row_product os Qd Ed → m_row_product (slot0 6 os) (endOf [3, 4, 5] 3 Qd Ed) := by
  rintro os Qd Ed - ⟨i, r, s, rfl, hi, hr, hs, hl, q⟩
  refine r_end ?_
  show m_row_product [some (.d (.int i)), some (.d (.tup (r.map D.int))), some (.d (.tup (s.map D.int))), none, none, none] _
  unfold m_row_product
  walk_at "ws"
  rw [zip_ints]
  refine for_fold _ (fun t (p : Int × Int) => lsum i t (lprod i p.1 p.2)) (fun t ρ => (0 ≤ t ∧ t < i) ∧ ∃ o4 o5, ρ = [some (.d (.int i)), some (.d (.tup (r.map D.int))), some (.d (.tup (s.map D.int))), some (.d (.int t)), o4, o5]) _ 0 _ ⟨by omega, _, _, rfl⟩ ?_ ?_
  · rintro p hp t _ K ⟨ht, o4, o5, rfl⟩ hgo
    have h := zip_ltr hr hs p hp
    walk_at "ws"
    refine c3 (.mk hi h.1 h.2) fun os' => ?_
    walk_at "ws"
    refine c3 (.mk hi ht (lprod_in (.mk hi h.1 h.2))) fun os' => ?_
    walk_at "ws"
    exact hgo _ ⟨lsum_in (.mk hi ht (lprod_in (.mk hi h.1 h.2))), _, _, rfl⟩
  · rintro _ ⟨ht, o4, o5, rfl⟩
    walk_at "ws"
    exact q _
def supL (r : List Int) : List D := ((r.zipIdx 0).filter fun p => decide (p.1 ≠ 0)).map fun p => D.int (p.2 : Nat)
def C_support_of : Ct := fun os Q _ => ∃ r : List Int, os = [.d (rowD r)] ∧ r.length < 16777216 ∧ ∀ os', Q (.d (.tup (supL r))) os'
def m_support_of : WS := (wRet (wTuple (wLc (wItrE (wCons (wVar 0) wNil)) (gTp 2 (gCn (gNm [1, 2] 1) (gCn (gNm [1, 2] 2) gNl))) (wBool (wEqV true 2 (wK (.int 0)))) (wVar 1) [1, 2])))
theorem ok_support_of : ∀ os Qd Ed, os.length = 1 → C_support_of os Qd Ed → m_support_of (slot0 3 os) (endOf [] 1 Qd Ed) := by
  rintro os Qd Ed - ⟨r, rfl, hl, q⟩
  refine r_end ?_
  show m_support_of [some (.d (.tup (r.map D.int))), none, none] _
  unfold m_support_of
  walk_at "ws"
  rw [en_map]
  refine lc_filt _ (fun p => D.int (p.2 : Nat)) (fun p => decide (p.1 ≠ 0)) (by simpa using hl) (fun p hp K1 K0 h1 h0 => ?_) ?_
  · walk_at "ws"
    · rename_i h
      have h : p.1 = 0 := h
      exact h0 (by rw [h]; rfl) _ rfl
    · rename_i h
      have h : ¬ p.1 = 0 := h
      exact h1 (decide_eq_true h) _ rfl
  · walk_at "ws"
    exact q _
end Pv

set_option Elab.async false
set_option maxRecDepth 100000
set_option maxHeartbeats 4000000
set_option autoImplicit false
set_option linter.unusedVariables false
namespace Pv
open PySem L2
local macro_rules | `(tactic| walk_at "wpow") => `(tactic| (simp only [Int.reduceToNat, Int.reducePow]; rfl))
local macro_rules | `(tactic| walk_at "wx") => `(tactic| first | rfl | assumption | with_unfolding_all rfl)
local macro_rules | `(tactic| walk_at "wd") => `(tactic| first | with_reducible rfl | assumption | omega | decide | (refine cdivw_small ?_ ?_ <;> omega) | (refine cdivw_small ?_ ?_ <;> split <;> omega) | (refine cpow_small ?_ ?_ ?_ ?_ <;> omega) | (refine cmul_r ?_ ?_ <;> omega) | (refine cmul_l ?_ ?_ <;> omega) | (simp only [List.length_cons, List.length_nil, List.length_append, List.length_reverse, List.length_map, flat_len, Int.reduceToNat]; omega) | (simp only [sizeLine, List.length_cons, List.length_nil, List.length_append, List.length_reverse, List.length_map, flat_len, Int.reduceToNat]; omega))
local macro_rules | `(tactic| walk_at "ws") => `(tactic| repeat' (first | (with_reducible first | refine Stp.go ?_ | refine AndG.go (by first | decide | walk_at "wd") ?_ | refine StpI.go (fun _ => ?_) (fun z => absurd (by first | rfl | decide | omega | (simp only [List.length_cons, List.length_nil]; omega)) z) | refine StpI.go (fun z => absurd z (by first | decide | omega | (simp only [List.length_cons, List.length_nil]; omega))) (fun _ => ?_) | refine StpI.go (fun _ => ?_) (fun _ => ?_) | refine StpX.go _ (by walk_at "wx") ?_ | refine StpN.go _ (by walk_at "wd") (by walk_at "wpow") ?_ | refine StpZ.go _ (by with_unfolding_all rfl) ?_ | refine StpV.go _ _ (by with_unfolding_all rfl) (by with_unfolding_all rfl) ?_ | exact DnT.h) | intro _))
/-! ### the program's functions of words -/
def wr (q l : D) (ws : List D) : Option Er := if fieldD q = true then (if letD (qi q) l = true then (match needW (qi q) ws with | .error e => some e | .ok _ => none) else some (.L l)) else some (.F q)
def gw (r : Option Er) (v : D) : Except Er D := match r with
  | some e => .error e
  | none => .ok v
def ofI : D → List Int
  | .tup xs => xs.map qi
  | _ => []
theorem ofI_row (r : List Int) : ofI (rowD r) = r := by
  show (r.map D.int).map qi = r
  rw [List.map_map]; exact List.map_id r
theorem wr_none {q l : D} {ws : List D} (h : wr q l ws = none) : ∃ i j, q = .int i ∧ (2 ≤ i ∧ i ≤ 5) ∧ l = .int j ∧ (0 ≤ j ∧ j < i) ∧ needW i ws = .ok .non := by
  unfold wr at h
  split at h
  · rename_i hq
    obtain ⟨i, rfl, h1, h2⟩ := betD_int hq
    split at h
    · rename_i hl
      obtain ⟨j, rfl, h3, h4⟩ := betD_int hl
      refine ⟨i, j, rfl, ⟨h1, h2⟩, rfl, ⟨h3, by show j < i; have h4 : j ≤ i - 1 := h4; omega⟩, ?_⟩
      split at h
      · cases h
      · rename_i y e
        have : y = .non := by
          have e : needW i ws = .ok y := e
          unfold needW at e
          split at e
          · cases e
          · split at e
            · split at e <;> cases e; rfl
            · cases e; rfl
        subst this
        exact e
    · cases h
  · cases h
theorem needW_all {i : Int} {ws : List D} (h : needW i ws = .ok .non) : ∀ x ∈ ws, isW i x = true := fun x hx => by
  unfold needW at h
  split at h
  · cases h
  · rename_i e
    simpa using List.find?_eq_none.mp e x hx
theorem wr_one {q l a : D} (h : wr q l [a] = none) : ∃ i j r, q = .int i ∧ (2 ≤ i ∧ i ≤ 5) ∧ l = .int j ∧ (0 ≤ j ∧ j < i) ∧ a = rowD r ∧ Ltr i r := by
  obtain ⟨i, j, rfl, hi, rfl, hj, hn⟩ := wr_none h
  obtain ⟨r, rfl, hr⟩ := isW_row (needW_all hn a List.mem_cons_self)
  exact ⟨i, j, r, rfl, hi, rfl, hj, rfl, hr⟩
theorem wr_two {q l a b : D} (h : wr q l [a, b] = none) : ∃ i j r s, q = .int i ∧ (2 ≤ i ∧ i ≤ 5) ∧ l = .int j ∧ (0 ≤ j ∧ j < i) ∧ a = rowD r ∧ b = rowD s ∧ Ltr i r ∧ Ltr i s ∧ r.length = s.length := by
  obtain ⟨i, j, rfl, hi, rfl, hj, hn⟩ := wr_none h
  obtain ⟨r, rfl, hr⟩ := isW_row (needW_all hn a List.mem_cons_self)
  obtain ⟨s, rfl, hs⟩ := isW_row (needW_all hn b (List.mem_cons_of_mem _ List.mem_cons_self))
  refine ⟨i, j, r, s, rfl, hi, rfl, hj, rfl, rfl, hr, hs, ?_⟩
  unfold needW at hn
  split at hn
  · cases hn
  · have hn : (if (r.map D.int).length = (s.map D.int).length then (Except.ok D.non : Except Er D) else .error (.W (rowD s))) = .ok .non := hn
    split at hn
    · rename_i e
      simpa using e
    · cases hn
theorem vt_len {r : List Int} (h : VisT (rowD r)) : r.length < 16777216 := by
  have := (h.2 _ rfl).1
  rwa [List.length_map] at this
theorem wr_F {q l : D} {ws : List D} (h : ¬ fieldD q = true) : wr q l ws = some (.F q) := if_neg h
theorem wr_L {q l : D} {ws : List D} (h : fieldD q = true) (hl : ¬ letD (qi q) l = true) : wr q l ws = some (.L l) := by unfold wr; rw [if_pos h, if_neg hl]
theorem wr_E {i : Int} {l : D} {ws : List D} {e : Er} (h : 2 ≤ i ∧ i ≤ 5) (hl : letD i l = true) (hn : needW i ws = .error e) : wr (.int i) l ws = some e := by
  unfold wr
  rw [if_pos (show fieldD (.int i) = true from bet_t h.1 h.2), if_pos (show letD (qi (.int i)) l = true from hl), show needW (qi (.int i)) ws = .error e from hn]
theorem wr_O {i : Int} {l y : D} {ws : List D} (h : 2 ≤ i ∧ i ≤ 5) (hl : letD i l = true) (hn : needW i ws = .ok y) : wr (.int i) l ws = none := by
  unfold wr
  rw [if_pos (show fieldD (.int i) = true from bet_t h.1 h.2), if_pos (show letD (qi (.int i)) l = true from hl), show needW (qi (.int i)) ws = .ok y from hn]
theorem let0 {i : Int} (h : 2 ≤ i ∧ i ≤ 5) : letD i (.int 0) = true := bet_t (by omega) (by omega)
theorem oneTwo1 {a : D} : OneTwo [a] := .inl ⟨a, rfl⟩
theorem oneTwo2 {a b : D} : OneTwo [a, b] := .inr ⟨a, b, rfl⟩
theorem vt2 {a b : D} (ha : VisT a) (hb : VisT b) : ∀ x ∈ [a, b], VisT x := fun x hx => by
  simp only [List.mem_cons, List.not_mem_nil, or_false] at hx
  rcases hx with rfl | rfl <;> assumption
theorem vis1 {a : D} (ha : Vis a) : ∀ x ∈ [a], Vis x := fun x hx => by rw [List.mem_singleton.mp hx]; exact ha
theorem vt1 {a : D} (ha : VisT a) : ∀ x ∈ [a], VisT x := fun x hx => by rw [List.mem_singleton.mp hx]; exact ha
def pSum (q a b : D) : Except Er D := gw (wr q (.int 0) [a, b]) (rowD (rsum (qi q) (ofI a) (ofI b)))
def pProd (q a b : D) : Except Er D := gw (wr q (.int 0) [a, b]) (.int (rprod (qi q) (ofI a) (ofI b)))
def pTimes (q l a : D) : Except Er D := gw (wr q l [a]) (rowD (rowTimes (qi q) (qi l) (ofI a)))
def pSup (q a : D) : Except Er D := gw (wr q (.int 0) [a]) (.tup (supL (ofI a)))
def pWt (q a : D) : Except Er D := gw (wr q (.int 0) [a]) (.int ((supL (ofI a)).length : Nat))
def CW2 (f : D → D → D → Except Er D) : Ct := fun os Q E => ∃ q a b, os = [.d q, .d a, .d b] ∧ Vis q ∧ VisT a ∧ VisT b ∧ Res (f q a b) Q E
theorem res_e {r : Option Er} {v : D} {e : Er} {Q : O → Sl → Prop} {E : Exc → Sl → Prop} (q : Res (gw r v) Q E) (h : r = some e) : ∀ os', E (exc e) os' := by subst h; exact q
theorem res_v {r : Option Er} {v : D} {Q : O → Sl → Prop} {E : Exc → Sl → Prop} (q : Res (gw r v) Q E) (h : r = none) : ∀ os', Q (.d v) os' := by subst h; exact q
def C_word_sum : Ct := CW2 pSum
def m_word_sum : WS := (wSeq (wDrop (wCall C_need_field [0] [(none, (wVar 0))]))
  (wSeq (wDrop (wCall C_need_words [0, 1] [(none, (wVar 0)), (none, (wTup (wCons (wVar 1) (wCons (wVar 2) wNil))))]))
  (wRet (wCall C_row_sum [0, 1, 2] [(none, (wVar 0)), (none, (wVar 1)), (none, (wVar 2))]))))
theorem ok_word_sum : ∀ os Qd Ed, os.length = 3 → C_word_sum os Qd Ed → m_word_sum (slot0 3 os) (endOf [] 3 Qd Ed) := by
  rintro os Qd Ed - ⟨x, a, b, rfl, hx, ha, hb, q⟩
  refine r_end ?_
  show m_word_sum [some (.d x), some (.d a), some (.d b)] _
  unfold m_word_sum
  walk_at "ws"
  refine ⟨x, rfl, hx, ?_⟩
  unfold needF
  by_cases h : fieldD x = true
  · rw [if_pos h]
    obtain ⟨i, rfl, hi1, hi2⟩ := betD_int h
    have hi : 2 ≤ i ∧ i ≤ 5 := ⟨hi1, hi2⟩
    intro os'
    walk_at "ws"
    refine ⟨i, [a, b], rfl, oneTwo2, vt2 ha hb, ?_⟩
    cases hn : needW i [a, b] with
    | error e =>
      intro os'
      walk_at "ws"
      exact res_e q (wr_E hi (let0 hi) hn) _
    | ok y =>
      have q := res_v q (wr_O hi (let0 hi) hn)
      obtain ⟨_, _, r, s, e1, -, -, -, rfl, rfl, hr, hs, hlen⟩ := wr_two (wr_O hi (let0 hi) hn)
      cases e1
      intro os'
      walk_at "ws"
      refine ⟨i, r, s, rfl, hi, hr, hs, vt_len ha, fun os' => ?_⟩
      walk_at "ws"
      rw [ofI_row, ofI_row] at q
      exact q _
  · rw [if_neg h]
    intro os'
    walk_at "ws"
    exact res_e q (wr_F h) _
def C_product : Ct := CW2 pProd
def m_product : WS := (wSeq (wDrop (wCall C_need_field [0] [(none, (wVar 0))]))
  (wSeq (wDrop (wCall C_need_words [0, 1] [(none, (wVar 0)), (none, (wTup (wCons (wVar 1) (wCons (wVar 2) wNil))))]))
  (wRet (wCall C_row_product [0, 1, 2] [(none, (wVar 0)), (none, (wVar 1)), (none, (wVar 2))]))))
theorem ok_product : ∀ os Qd Ed, os.length = 3 → C_product os Qd Ed → m_product (slot0 3 os) (endOf [] 3 Qd Ed) := by
  rintro os Qd Ed - ⟨x, a, b, rfl, hx, ha, hb, q⟩
  refine r_end ?_
  show m_product [some (.d x), some (.d a), some (.d b)] _
  unfold m_product
  walk_at "ws"
  refine ⟨x, rfl, hx, ?_⟩
  unfold needF
  by_cases h : fieldD x = true
  · rw [if_pos h]
    obtain ⟨i, rfl, hi1, hi2⟩ := betD_int h
    have hi : 2 ≤ i ∧ i ≤ 5 := ⟨hi1, hi2⟩
    intro os'
    walk_at "ws"
    refine ⟨i, [a, b], rfl, oneTwo2, vt2 ha hb, ?_⟩
    cases hn : needW i [a, b] with
    | error e =>
      intro os'
      walk_at "ws"
      exact res_e q (wr_E hi (let0 hi) hn) _
    | ok y =>
      have q := res_v q (wr_O hi (let0 hi) hn)
      obtain ⟨_, _, r, s, e1, -, -, -, rfl, rfl, hr, hs, hlen⟩ := wr_two (wr_O hi (let0 hi) hn)
      cases e1
      intro os'
      walk_at "ws"
      refine ⟨i, r, s, rfl, hi, hr, hs, vt_len ha, fun os' => ?_⟩
      walk_at "ws"
      rw [ofI_row, ofI_row] at q
      exact q _
  · rw [if_neg h]
    intro os'
    walk_at "ws"
    exact res_e q (wr_F h) _
def CW1 (f : D → D → Except Er D) : Ct := fun os Q E => ∃ q a, os = [.d q, .d a] ∧ Vis q ∧ VisT a ∧ Res (f q a) Q E
def C_support : Ct := CW1 pSup
def m_support : WS := (wSeq (wDrop (wCall C_need_field [0] [(none, (wVar 0))]))
  (wSeq (wDrop (wCall C_need_words [0, 1] [(none, (wVar 0)), (none, (wTup (wCons (wVar 1) wNil)))]))
  (wRet (wCall C_support_of [0] [(none, (wVar 1))]))))
theorem ok_support : ∀ os Qd Ed, os.length = 2 → C_support os Qd Ed → m_support (slot0 2 os) (endOf [] 2 Qd Ed) := by
  rintro os Qd Ed - ⟨x, a, rfl, hx, ha, q⟩
  refine r_end ?_
  show m_support [some (.d x), some (.d a)] _
  unfold m_support
  walk_at "ws"
  refine ⟨x, rfl, hx, ?_⟩
  unfold needF
  by_cases h : fieldD x = true
  · rw [if_pos h]
    obtain ⟨i, rfl, hi1, hi2⟩ := betD_int h
    have hi : 2 ≤ i ∧ i ≤ 5 := ⟨hi1, hi2⟩
    intro os'
    walk_at "ws"
    refine ⟨i, [a], rfl, oneTwo1, vt1 ha, ?_⟩
    cases hn : needW i [a] with
    | error e =>
      intro os'
      walk_at "ws"
      exact res_e q (wr_E hi (let0 hi) hn) _
    | ok y =>
      have q := res_v q (wr_O hi (let0 hi) hn)
      obtain ⟨_, _, r, e1, -, -, -, rfl, hr⟩ := wr_one (wr_O hi (let0 hi) hn)
      cases e1
      intro os'
      walk_at "ws"
      refine ⟨r, rfl, vt_len ha, fun os' => ?_⟩
      walk_at "ws"
      rw [ofI_row] at q
      exact q _
  · rw [if_neg h]
    intro os'
    walk_at "ws"
    exact res_e q (wr_F h) _
def C_weight : Ct := CW1 pWt
def m_weight : WS := (wRet (wCB mLen (wCons (wCall C_support [0, 1] [(none, (wVar 0)), (none, (wVar 1))]) wNil)))
theorem ok_weight : ∀ os Qd Ed, os.length = 2 → C_weight os Qd Ed → m_weight (slot0 2 os) (endOf [] 2 Qd Ed) := by
  rintro os Qd Ed - ⟨x, a, rfl, hx, ha, q⟩
  refine r_end ?_
  show m_weight [some (.d x), some (.d a)] _
  unfold m_weight
  walk_at "ws"
  refine ⟨x, a, rfl, hx, ha, ?_⟩
  unfold pSup
  unfold pWt at q
  cases hw : wr x (.int 0) [a] with
  | some e =>
    rw [hw] at q
    intro os'
    walk_at "ws"
    exact q _
  | none =>
    rw [hw] at q
    intro os'
    walk_at "ws"
    exact q _
def C_word_times : Ct := fun os Q E => ∃ q l a, os = [.d q, .d l, .d a] ∧ Vis q ∧ Vis l ∧ VisT a ∧ Res (pTimes q l a) Q E
def m_word_times : WS := (wSeq (wDrop (wCall C_need_letters [0, 1] [(none, (wVar 0)), (none, (wTup (wCons (wVar 1) wNil)))]))
  (wSeq (wDrop (wCall C_need_words [0, 1] [(none, (wVar 0)), (none, (wTup (wCons (wVar 2) wNil)))]))
  (wRet (wCall C_row_times [0, 1, 2] [(none, (wVar 0)), (none, (wVar 1)), (none, (wVar 2))]))))
theorem ok_word_times : ∀ os Qd Ed, os.length = 3 → C_word_times os Qd Ed → m_word_times (slot0 3 os) (endOf [] 3 Qd Ed) := by
  rintro os Qd Ed - ⟨x, l, a, rfl, hx, hl, ha, q⟩
  refine r_end ?_
  show m_word_times [some (.d x), some (.d l), some (.d a)] _
  unfold m_word_times
  walk_at "ws"
  refine ⟨x, [l], rfl, hx, vis1 hl, ?_⟩
  unfold needL
  by_cases h : fieldD x = true
  · rw [if_pos h]
    obtain ⟨i, rfl, hi1, hi2⟩ := betD_int h
    have hi : 2 ≤ i ∧ i ≤ 5 := ⟨hi1, hi2⟩
    by_cases h2 : letD i l = true
    · rw [List.find?_cons_of_neg (by rw [show letD (qi (.int i)) l = true from h2]; exact Bool.false_ne_true)]
      obtain ⟨j, rfl, hj1, hj2⟩ := betD_int h2
      intro os'
      walk_at "ws"
      refine ⟨i, [a], rfl, oneTwo1, vt1 ha, ?_⟩
      cases hn : needW i [a] with
      | error e =>
        intro os'
        walk_at "ws"
        exact res_e q (wr_E hi h2 hn) _
      | ok y =>
        have q := res_v q (wr_O hi h2 hn)
        obtain ⟨_, _, r, e1, -, -, -, rfl, hr⟩ := wr_one (wr_O hi h2 hn)
        cases e1
        intro os'
        walk_at "ws"
        refine ⟨i, j, r, rfl, hi, ⟨hj1, by omega⟩, hr, vt_len ha, fun os' => ?_⟩
        walk_at "ws"
        rw [ofI_row] at q
        exact q _
    · rw [List.find?_cons_of_pos (by rw [show letD (qi (.int i)) l = false from by simpa [qi] using h2]; rfl)]
      intro os'
      walk_at "ws"
      exact res_e q (wr_L h h2) _
  · rw [if_neg h]
    intro os'
    walk_at "ws"
    exact res_e q (wr_F h) _
end Pv

set_option Elab.async false
set_option maxRecDepth 100000
set_option maxHeartbeats 4000000
set_option autoImplicit false
set_option linter.unusedVariables false
namespace Pv
open PySem L2
local macro_rules | `(tactic| walk_at "wpow") => `(tactic| (simp only [Int.reduceToNat, Int.reducePow]; rfl))
local macro_rules | `(tactic| walk_at "wx") => `(tactic| first | rfl | assumption | with_unfolding_all rfl)
local macro_rules | `(tactic| walk_at "wd") => `(tactic| first | with_reducible rfl | assumption | omega | decide | (refine cdivw_small ?_ ?_ <;> omega) | (refine cdivw_small ?_ ?_ <;> split <;> omega) | (refine cpow_small ?_ ?_ ?_ ?_ <;> omega) | (refine cmul_r ?_ ?_ <;> omega) | (refine cmul_l ?_ ?_ <;> omega) | (simp only [List.length_cons, List.length_nil, List.length_append, List.length_reverse, List.length_map, flat_len, Int.reduceToNat]; omega) | (simp only [sizeLine, List.length_cons, List.length_nil, List.length_append, List.length_reverse, List.length_map, flat_len, Int.reduceToNat]; omega))
local macro_rules | `(tactic| walk_at "ws") => `(tactic| repeat' (first | (with_reducible first | refine Stp.go ?_ | refine AndG.go (by first | decide | walk_at "wd") ?_ | refine StpI.go (fun _ => ?_) (fun z => absurd (by first | rfl | decide | omega | (simp only [List.length_cons, List.length_nil]; omega)) z) | refine StpI.go (fun z => absurd z (by first | decide | omega | (simp only [List.length_cons, List.length_nil]; omega))) (fun _ => ?_) | refine StpI.go (fun _ => ?_) (fun _ => ?_) | refine StpX.go _ (by walk_at "wx") ?_ | refine StpN.go _ (by walk_at "wd") (by walk_at "wpow") ?_ | refine StpZ.go _ (by with_unfolding_all rfl) ?_ | refine StpV.go _ _ (by with_unfolding_all rfl) (by with_unfolding_all rfl) ?_ | exact DnT.h) | intro _))
/-! ### the law's own words -/
theorem okDs_mem : ∀ {xs : List D}, okDs xs = true → ∀ x ∈ xs, okD x = true
  | [], _, x, hx => absurd hx List.not_mem_nil
  | y :: ys, h, x, hx => by
    unfold okDs at h
    have h := Bool.and_eq_true_iff.mp h
    rcases List.mem_cons.mp hx with rfl | hx
    · exact h.1
    · exact okDs_mem h.2 x hx
theorem bulk_len : ∀ xs : List D, xs.length ≤ PyData.bulkAll (toPys xs)
  | [] => Nat.zero_le _
  | x :: xs => by
    rw [toPys, PyData.bulkAll, List.length_cons]
    have := bulk_len xs
    omega
theorem Nc.tup_len {d b : Nat} {xs : List D} (h : Nc d b (.tup xs)) : xs.length ≤ b := by
  have h1 := h.bk
  rw [toPy, PyData.bulk] at h1
  exact Nat.le_trans (bulk_len xs) h1
theorem Nc.vt {d b : Nat} {x : D} (h : Nc d b x) (hb : b < 16777216) : VisT x := ⟨h.vis, fun xs e => by
  subst e
  refine ⟨Nat.lt_of_le_of_lt h.tup_len hb, fun y hy => vis_ok ?_⟩
  have := h.ok
  unfold okD at this
  exact okDs_mem this y hy⟩
def C__law_is_word : Ct := fun os Q _ => ∃ i x, os = [.d (.int i), .d x] ∧ VisT x ∧ ∀ os', Q (.d (.bl (isW i x))) os'
def m__law_is_word : WS := (wRet (wAndV (wIsiX (isiX Lic .tuple) (wVar 1)) (wBin (mEq false) (wLc (wItr (wVar 1)) (gNm [2] 2) (wNotT (wTru (wCall C__law_is_letter [0, 1] [(none, (wVar 0)), (none, (wVar 2))]))) (wVar 2) [2]) (wLst wNil))))
theorem ok__law_is_word : ∀ os Qd Ed, os.length = 2 → C__law_is_word os Qd Ed → m__law_is_word (slot0 3 os) (endOf [] 2 Qd Ed) := by
  rintro os Qd Ed - ⟨i, x, rfl, hv, q⟩
  refine r_end ?_
  show m__law_is_word [some (.d (.int i)), some (.d x), none] _
  unfold m__law_is_word
  walk_at "ws"
  refine r_isiK (isi_tup hv.1) ?_
  walk_at "ws"
  refine r_iV (fun h => ?_) (fun h => ?_)
  · obtain ⟨xs, rfl⟩ : ∃ xs, x = .tup xs := by cases x <;> first | exact ⟨_, rfl⟩ | cases h
    obtain ⟨hl, hx⟩ := hv.2 xs rfl
    walk_at "ws"
    rw [show xs = xs.map id from (List.map_id xs).symm]
    refine lc_filt id id (fun x => !letD i x) hl (fun y hy K1 K0 h1 h0 => ?_) ?_
    · walk_at "ws"
      refine ⟨i, y, rfl, hx y hy, fun os' => ?_⟩
      walk_at "ws"
      refine r_iV (fun h => ?_) (fun h => ?_)
      · walk_at "ws"
        exact h0 (by rw [h]; rfl) _ rfl
      · walk_at "ws"
        exact h1 (by rw [h]; rfl) _ rfl
    · walk_at "ws"
      have e : ((xs.filter fun x => !letD i x).map id).isEmpty = isW i (.tup xs) := by
        rw [List.map_id, Bool.eq_iff_iff, List.isEmpty_iff, List.filter_eq_nil_iff]
        show _ ↔ xs.all (letD i) = true
        rw [List.all_eq_true]
        simp
      rw [List.map_id] at *
      rw [e]
      exact q _
  · rw [h]
    have e : isW i x = false := by cases x <;> first | rfl | cases h
    rw [e] at q
    exact q _
def wD : Option Er → D
  | none => .non
  | some e => toldD (.error e)
def C__law_wrong : Ct := fun os Q _ => ∃ q l ws, os = [.d q, .d l, .lst ws] ∧ OneTwo ws ∧ Vis q ∧ Vis l ∧ (∀ x ∈ ws, VisT x) ∧ ∀ os', Q (.d (wD (wr q l ws))) os'
def m__law_wrong : WS := (wSeq (wIfS (wOrT (wNotT (wTru (wIsiX (isiX Lic .int) (wVar 0)))) (wOrT (wTru (wIsiX (isiX Lic .bool) (wVar 0))) (wOrT (wBool (wBin mLt (wVar 0) (wK (.int 2)))) (wBool (wBin mGt (wVar 0) (wK (.int 5)))))))
  (wRet (wTup (wCons (wK (.str "field")) (wCons (wVar 0) wNil))))
  wNext)
  (wSeq (wIfS (wNotT (wTru (wCall C__law_is_letter [0, 1] [(none, (wVar 0)), (none, (wVar 1))])))
  (wRet (wTup (wCons (wK (.str "letter")) (wCons (wVar 1) wNil))))
  wNext)
  (wSeq (wFor (wItr (wVar 2)) (gNm [3] 3)
  (wIfS (wNotT (wTru (wCall C__law_is_word [0, 1] [(none, (wVar 0)), (none, (wVar 3))])))
  (wRet (wTup (wCons (wK (.str "word")) (wCons (wVar 3) wNil))))
  wNext))
  (wRet (wIf (wBool (wBin (mEq true) (wCB mLen (wCons (wIxA 2 (wK (.int 0))) wNil)) (wCB mLen (wCons (wIxA 2 (wNeg (wK (.int 1)))) wNil)))) (wTup (wCons (wK (.str "word")) (wCons (wIxA 2 (wNeg (wK (.int 1)))) wNil))) (wK .non))))))
theorem ok__law_wrong : ∀ os Qd Ed, os.length = 3 → C__law_wrong os Qd Ed → m__law_wrong (slot0 4 os) (endOf [3] 3 Qd Ed) := by
  rintro os Qd Ed - ⟨x, l, ws, rfl, h12, hv, hl, hw, q⟩
  refine r_end ?_
  show m__law_wrong [some (.d x), some (.d l), some (.lst ws), none] _
  unfold m__law_wrong
  by_cases hf : fieldD x = true
  · obtain ⟨i, rfl, h1, h2⟩ := betD_int hf
    have hi : 2 ≤ i ∧ i ≤ 5 := ⟨h1, h2⟩
    walk_at "ws"
    refine ⟨i, l, rfl, hl, fun os' => ?_⟩
    walk_at "ws"
    refine r_iV (fun h => ?_) (fun h => ?_)
    · walk_at "ws"
      refine for_inv (fun ys ρ => ws.find? (fun y => !isW i y) = ys.find? (fun y => !isW i y) ∧ (∀ y ∈ ys, VisT y) ∧ ∃ o, ρ = [some (.d (.int i)), some (.d l), some (.d (.lst ws)), o]) ?_ ?_ _ _ ⟨rfl, hw, _, rfl⟩
      · rintro _ ⟨e, -, o, rfl⟩
        have e : ws.find? (fun y => !isW i y) = none := e
        have hall : ∀ x ∈ ws, isW i x = true := fun x hx' => by
          have := List.find?_eq_none.mp e x hx'
          simpa using this
        rcases h12 with ⟨a, rfl⟩ | ⟨a, b, rfl⟩
        · obtain ⟨ra, rfl, _⟩ := isW_row (hall a List.mem_cons_self)
          have hn : needW i [rowD ra] = .ok .non := by unfold needW; rw [e]
          rw [wr_O hi h hn] at q
          walk_at "ws"
          exact q _
        · obtain ⟨ra, rfl, _⟩ := isW_row (hall a List.mem_cons_self)
          obtain ⟨rb, rfl, _⟩ := isW_row (hall b (List.mem_cons_of_mem _ List.mem_cons_self))
          have hn : needW i [rowD ra, rowD rb] = if (ra.map D.int).length = (rb.map D.int).length then .ok .non else .error (.W (rowD rb)) := by unfold needW; rw [e]; rfl
          by_cases hlen : (ra.map D.int).length = (rb.map D.int).length
          · rw [if_pos hlen] at hn
            rw [wr_O hi h hn] at q
            walk_at "ws"
            exact q _
          · rw [if_neg hlen] at hn
            rw [wr_E hi h hn] at q
            walk_at "ws"
            exact q _
      · rintro y ys _ K hK ⟨e, hy, o, rfl⟩
        have hvy := hy y List.mem_cons_self
        walk_at "ws"
        refine ⟨i, y, rfl, hvy, fun os' => ?_⟩
        walk_at "ws"
        refine r_iV (fun h3 => ?_) (fun h3 => ?_)
        · walk_at "ws"
          refine hK _ ⟨?_, fun z hz => hy z (List.mem_cons_of_mem _ hz), _, rfl⟩
          rw [e, List.find?_cons_of_neg (by rw [h3]; exact Bool.false_ne_true)]
        · walk_at "ws"
          have hn : needW i ws = .error (.W y) := by unfold needW; rw [e, List.find?_cons_of_pos (by rw [h3]; rfl)]
          rw [wr_E hi h hn] at q
          exact q _
    · walk_at "ws"
      rw [wr_L hf (show ¬ letD (qi (.int i)) l = true from fun z => Bool.false_ne_true (h.symm.trans z))] at q
      exact q _
  · rw [wr_F hf] at q
    have q : ∀ os', Qd (.d (.tup [.str "field", x])) os' := q
    by_cases hb : (isInt x || isBl x) = true
    · rcases int_or hb with ⟨v, rfl⟩ | ⟨b, rfl⟩
      · have hf : ¬ (2 ≤ v ∧ v ≤ 5) := fun z => hf (bet_t z.1 z.2)
        walk_at "ws"
        all_goals exact q _
      · walk_at "ws"
        exact q _
    · have hb : (isInt x || isBl x) = false := by simpa using hb
      walk_at "ws"
      refine r_isiK (isi_int hv) ?_
      rw [hb]
      walk_at "ws"
      exact q _
def C__law_plus : Ct := C2R fun i r s => rowD (rsum i r s)
def m__law_plus : WS := (wSeq (wIfS (wBool (wEqVX Leq 0 (wK (.int 4))))
  (wRet (wTuple (wLc (wItrZ (wCons (wVar 1) (wCons (wVar 2) wNil))) (gTp 2 (gCn (gNm [3, 4] 3) (gCn (gNm [3, 4] 4) gNl))) wYes (wBin mXor (wVar 3) (wVar 4)) [3, 4])))
  wNext)
  (wRet (wTuple (wLc (wItrZ (wCons (wVar 1) (wCons (wVar 2) wNil))) (gTp 2 (gCn (gNm [3, 4] 3) (gCn (gNm [3, 4] 4) gNl))) wYes (wBin mMod (wCB mInt (wCons (wBin mAdd (wVar 3) (wVar 4)) wNil)) (wVar 0)) [3, 4]))))
theorem ok__law_plus : ∀ os Qd Ed, os.length = 3 → C__law_plus os Qd Ed → m__law_plus (slot0 5 os) (endOf [] 3 Qd Ed) := by
  rintro os Qd Ed - ⟨i, r, s, rfl, hi, hr, hs, hl, q⟩
  refine r_end ?_
  show m__law_plus [some (.d (.int i)), some (.d (.tup (r.map D.int))), some (.d (.tup (s.map D.int))), none, none] _
  have q := q
  unfold rowD rsum at q
  simp only [List.map_map] at q
  unfold m__law_plus
  walk_at "ws"
  · rename_i h
    rw [zip_ints]
    refine lc_map _ (fun p => D.int (lsum i p.1 p.2)) (by rw [List.length_zip]; omega) (fun p hp K hK => ?_) ?_
    · have e : lsum i p.1 p.2 = Builtin.bitXor p.1 p.2 := if_pos h
      rw [e] at hK
      walk_at "ws"
      exact hK _ rfl
    · walk_at "ws"
      exact q _
  · rename_i h
    rw [zip_ints]
    refine lc_map _ (fun p => D.int (lsum i p.1 p.2)) (by rw [List.length_zip]; omega) (fun p hp K hK => ?_) ?_
    · have e : lsum i p.1 p.2 = (p.1 + p.2) % i := if_neg h
      rw [e] at hK
      walk_at "ws"
      exact hK _ rfl
    · walk_at "ws"
      exact q _
def C__law_product : Ct := C2R fun i r s => .int (rprod i r s)
def m__law_product : WS := (wSeq (wAsg (as := [3, 4, 5]) 3 (wTup (wCons (wK (.int 0)) wNil)))
  (wSeq (wFor (wItrZ (wCons (wVar 1) (wCons (wVar 2) wNil))) (gTp 2 (gCn (gNm [3, 4, 5] 4) (gCn (gNm [3, 4, 5] 5) gNl)))
  (wAsg (as := [3, 4, 5]) 3 (wCall C__law_plus [0, 1, 2] [(none, (wVar 0)), (none, (wVar 3)), (none, (wTup (wCons (wCall C__law_by [0, 1, 2] [(none, (wVar 0)), (none, (wVar 4)), (none, (wVar 5))]) wNil)))])))
  (wRet (wIxA 3 (wK (.int 0))))))
theorem ok__law_product : ∀ os Qd Ed, os.length = 3 → C__law_product os Qd Ed → m__law_product (slot0 6 os) (endOf [3, 4, 5] 3 Qd Ed) := by
  rintro os Qd Ed - ⟨i, r, s, rfl, hi, hr, hs, hl, q⟩
  refine r_end ?_
  show m__law_product [some (.d (.int i)), some (.d (.tup (r.map D.int))), some (.d (.tup (s.map D.int))), none, none, none] _
  unfold m__law_product
  walk_at "ws"
  rw [zip_ints]
  refine for_fold _ (fun t (p : Int × Int) => lsum i t (lprod i p.1 p.2)) (fun t ρ => (0 ≤ t ∧ t < i) ∧ ∃ o4 o5, ρ = [some (.d (.int i)), some (.d (.tup (r.map D.int))), some (.d (.tup (s.map D.int))), some (.d (.tup [.int t])), o4, o5]) _ 0 _ ⟨by omega, _, _, rfl⟩ ?_ ?_
  · rintro p hp t _ K ⟨ht, o4, o5, rfl⟩ hgo
    have h := zip_ltr hr hs p hp
    walk_at "ws"
    refine c3 (.mk hi h.1 h.2) fun os' => ?_
    walk_at "ws"
    refine ⟨i, [t], [lprod i p.1 p.2], rfl, hi, fun x hx => ?_, fun x hx => ?_, by simp, fun os' => ?_⟩
    · rw [List.mem_singleton.mp hx]; exact ht
    · rw [List.mem_singleton.mp hx]; exact lprod_in (.mk hi h.1 h.2)
    walk_at "ws"
    exact hgo _ ⟨lsum_in (.mk hi ht (lprod_in (.mk hi h.1 h.2))), _, _, rfl⟩
  · rintro _ ⟨ht, o4, o5, rfl⟩
    walk_at "ws"
    exact q _
end Pv

set_option Elab.async false
set_option maxRecDepth 100000
set_option maxHeartbeats 4000000
set_option autoImplicit false
set_option linter.unusedVariables false
namespace Pv
open PySem L2
local macro_rules | `(tactic| walk_at "wpow") => `(tactic| (simp only [Int.reduceToNat, Int.reducePow]; rfl))
local macro_rules | `(tactic| walk_at "wx") => `(tactic| first | rfl | assumption | with_unfolding_all rfl)
local macro_rules | `(tactic| walk_at "wd") => `(tactic| first | with_reducible rfl | assumption | omega | decide | (refine cdivw_small ?_ ?_ <;> omega) | (refine cdivw_small ?_ ?_ <;> split <;> omega) | (refine cpow_small ?_ ?_ ?_ ?_ <;> omega) | (refine cmul_r ?_ ?_ <;> omega) | (refine cmul_l ?_ ?_ <;> omega) | (simp only [List.length_cons, List.length_nil, List.length_append, List.length_reverse, List.length_map, flat_len, Int.reduceToNat]; omega) | (simp only [sizeLine, List.length_cons, List.length_nil, List.length_append, List.length_reverse, List.length_map, flat_len, Int.reduceToNat]; omega))
local macro_rules | `(tactic| walk_at "ws") => `(tactic| repeat' (first | (with_reducible first | refine Stp.go ?_ | refine AndG.go (by first | decide | walk_at "wd") ?_ | refine StpI.go (fun _ => ?_) (fun z => absurd (by first | rfl | decide | omega | (simp only [List.length_cons, List.length_nil]; omega)) z) | refine StpI.go (fun z => absurd z (by first | decide | omega | (simp only [List.length_cons, List.length_nil]; omega))) (fun _ => ?_) | refine StpI.go (fun _ => ?_) (fun _ => ?_) | refine StpX.go _ (by walk_at "wx") ?_ | refine StpN.go _ (by walk_at "wd") (by walk_at "wpow") ?_ | refine StpZ.go _ (by with_unfolding_all rfl) ?_ | refine StpV.go _ _ (by with_unfolding_all rfl) (by with_unfolding_all rfl) ?_ | exact DnT.h) | intro _))
/-! ### drawn words -/
def C__law_word : Ct := fun os Q _ => ∃ (m : Nat × Addr) (i n : Int), os = [.deck m, .d (.int i), .d (.int n)] ∧ m.1 ≤ 63 ∧ (2 ≤ i ∧ i ≤ 5) ∧ (0 ≤ n ∧ n ≤ 16) ∧ ∀ (r : List Int) (m' : Nat × Addr) (o o2 : Option O), m'.1 ≤ 63 → Ltr i r → r.length ≤ 16 → Q (.d (rowD r)) [some (.deck m'), o, o2]
def m__law_word : WS := (wSeq (wAsg (as := [3, 4]) 3 (wCall C__law_draw [0, 1] [(some 0, wMove 0), (none, (wK (.int 2)))]))
  (wSeq (wAsg (as := [3, 4]) 4 (wLc (wRng1 (wCons (wVar 2) wNil)) (gNm [5] 5) wYes (wCall C__law_draw [0, 1] [(some 0, wMove 0), (none, (wVar 1))]) [5]))
  (wRet (wTuple (wLc (wItr (wVar 4)) (gNm [6] 6) wYes (wIf (wAndT (wBool (wEqVX Leq 3 (wK (.int 1)))) (wBool (wBin (mEq false) (wCall C__law_draw [0, 1] [(some 0, wMove 0), (none, (wK (.int 2)))]) (wK (.int 0))))) (wK (.int 0)) (wVar 6)) [6])))))
theorem ok__law_word : ∀ os Qd Ed, os.length = 3 → C__law_word os Qd Ed → m__law_word (slot0 7 os) (endOf [3, 4] 3 Qd Ed) := by
  rintro os Qd Ed - ⟨m, i, n, rfl, hm, hi, hn, q⟩
  refine r_end ?_
  show m__law_word [some (.deck m), some (.d (.int i)), some (.d (.int n)), none, none, none, none] _
  unfold m__law_word
  walk_at "ws"
  refine c_draw hm (by omega) (by omega) fun z m1 o h1 h2 h3 => ?_
  walk_at "ws"
  have hl : (rngD 0 n.toNat).length ≤ 16 := by rw [rng_len]; omega
  refine lc_gen (fun y => ∃ j, y = .int j ∧ 0 ≤ j ∧ j < i) (fun ρ => ∃ m' : Nat × Addr, m'.1 ≤ 63 ∧ ρ = [some (.deck m'), some (.d (.int i)), some (.d (.int n)), some (.d (.int z)), none, none, none]) (by omega) ⟨m1, h3, rfl⟩ ?_ ?_
  · rintro x hx _ K ⟨m2, h4, rfl⟩ hK
    walk_at "ws"
    refine c_draw h4 (by omega) (by omega) fun z2 m3 o h5 h6 h7 => ?_
    walk_at "ws"
    exact hK _ _ ⟨_, rfl, h5, h6⟩ ⟨_, h7, rfl⟩
  · rintro ys _ ⟨m2, h4, rfl⟩ hy hyl
    walk_at "ws"
    refine lc_gen (fun y => ∃ j, y = .int j ∧ 0 ≤ j ∧ j < i) (fun ρ => ∃ (m' : Nat × Addr) (o : Option O), m'.1 ≤ 63 ∧ ρ = [some (.deck m'), some (.d (.int i)), some (.d (.int n)), some (.d (.int z)), o, none, none]) (by omega) ⟨m2, _, h4, rfl⟩ ?_ ?_
    · rintro x hx _ K ⟨m2, o4, h4, rfl⟩ hK
      obtain ⟨j, rfl, hj1, hj2⟩ := hy x hx
      walk_at "ws"
      · refine c_draw h4 (by omega) (by omega) fun z2 m3 o h5 h6 h7 => ?_
        walk_at "ws"
        · exact hK _ _ ⟨_, rfl, by omega, by omega⟩ ⟨_, _, h7, rfl⟩
        · exact hK _ _ ⟨_, rfl, hj1, hj2⟩ ⟨_, _, h7, rfl⟩
      · exact hK _ _ ⟨_, rfl, hj1, hj2⟩ ⟨_, _, h4, rfl⟩
    · rintro zs _ ⟨m3, o4, h5, rfl⟩ hz hzl
      walk_at "ws"
      suffices ∃ r : List Int, zs = r.map D.int ∧ Ltr i r by
        obtain ⟨r, rfl, hr⟩ := this
        exact q r _ _ _ h5 hr (by rw [List.length_map] at hzl; omega)
      clear hzl
      induction zs with
      | nil => exact ⟨[], rfl, fun x hx => absurd hx List.not_mem_nil⟩
      | cons y ys ih =>
        obtain ⟨r, rfl, hr⟩ := ih fun z h => hz z (List.mem_cons_of_mem _ h)
        obtain ⟨j, rfl, h1, h2⟩ := hz y List.mem_cons_self
        refine ⟨j :: r, rfl, fun x hx => ?_⟩
        rcases List.mem_cons.mp hx with rfl | hx
        · exact ⟨h1, h2⟩
        · exact hr x hx
theorem cut_mem {α : Type} {xs : List α} {lo hi : Option Int} {x : α} (h : x ∈ cutD xs lo hi) : x ∈ xs := List.mem_of_mem_drop (List.mem_of_mem_take h)
theorem cut_len {α : Type} {xs : List α} {lo hi : Option Int} : (cutD xs lo hi).length ≤ xs.length := by
  unfold cutD
  rw [List.length_take, List.length_drop]; omega
theorem nc_small {i : Int} (h : 0 ≤ i ∧ i < 100) : Nc 1 2 (.int i) := (nc_int (by omega)).mono (by omega) (by omega)
theorem row_nc {i : Int} {r : List Int} (hi : i ≤ 5) (hr : Ltr i r) : ∀ x ∈ r.map D.int, Nc 1 2 x := fun x hx => by
  obtain ⟨j, hj, rfl⟩ := List.mem_map.mp hx
  have := hr j hj
  exact nc_small (by omega)
theorem c_pickD {m : Nat × Addr} {xs : List D} {Qd : O → Sl → Prop} {Ed : Exc → Sl → Prop} (h1 : m.1 ≤ 63) (h2 : xs ≠ []) (h3 : xs.length < 1000) (h : ∀ (x : D) (m' : Nat × Addr) (o : Option O), x ∈ xs → m'.1 ≤ 63 → Qd (.d x) [some (.deck m'), o]) : C__law_pick [.deck m, .d (.lst xs)] Qd Ed := ⟨m, _, xs, rfl, .inr (.inl rfl), h1, h2, h3, h⟩
def C__law_bent : Ct := fun os Q _ => ∃ (m : Nat × Addr) (i : Int) (r : List Int), os = [.deck m, .d (rowD r)] ∧ m.1 ≤ 63 ∧ i ≤ 5 ∧ Ltr i r ∧ r.length ≤ 16 ∧ ∀ (o : O) (m' : Nat × Addr) (o2 : Option O), notDeck o → Nc 6 260 (fz o) → m'.1 ≤ 63 → Q o [some (.deck m'), o2]
def m__law_bent : WS := (wSeq (wAsg (as := [2, 3, 4]) 2 (wCall C__law_draw [0, 1] [(some 0, wMove 0), (none, (wK (.int 6)))]))
  (wSeq (wIfS (wBool (wEqVX Leq 2 (wK (.int 0))))
  (wRet (wCB mList (wCons (wVar 1) wNil)))
  wNext)
  (wSeq (wIfS (wBool (wEqVX Leq 2 (wK (.int 1))))
  (wRet (wCall C__law_any [0, 1] [(some 0, wMove 0), (none, (wK (.int 2)))]))
  wNext)
  (wSeq (wIfS (wOrT (wBool (wEqVX Leq 1 (wTup wNil))) (wAndT (wBool (wEqVX Leq 2 (wK (.int 2)))) (wBool (wBin mLt (wLenV 1) (wK (.int 16))))))
  (wRet (wBin mAdd (wVar 1) (wTup (wCons (wCall C__law_draw [0, 1] [(some 0, wMove 0), (none, (wK (.int 2)))]) wNil))))
  wNext)
  (wSeq (wIfS (wBool (wBin (mIn false) (wVar 2) (wTup (wCons (wK (.int 2)) (wCons (wK (.int 3)) wNil)))))
  (wRet (wSlV 1 (some (wK (.int 1))) none))
  wNext)
  (wSeq (wAsg (as := [2, 3, 4]) 3 (wCall C__law_draw [0, 1] [(some 0, wMove 0), (none, (wLenV 1))]))
  (wSeq (wAsg (as := [2, 3, 4]) 4 (wLst (wCons (wK (.bl true)) (wCons (wK (.bl false)) (wCons (wNeg (wK (.int 1))) (wCons (wK (.int 2)) (wCons (wK (.int 3)) (wCons (wK (.int 4)) (wCons (wK (.int 5)) (wCons (wK .non) (wCons (wK (.str "0")) (wCons (wTup (wCons (wK (.int 0)) wNil)) (wCons (wLst (wCons (wK (.int 1)) wNil)) (wCons (wBin mPow (wK (.int 10)) (wK (.int 30))) wNil))))))))))))))
  (wRet (wBin mAdd (wBin mAdd (wSlV 1 none (some (wVar 3))) (wTup (wCons (wCall C__law_pick [0, 1] [(some 0, wMove 0), (none, (wVar 4))]) wNil))) (wSlV 1 (some (wBin mAdd (wVar 3) (wK (.int 1)))) none))))))))))
theorem row_isE {r : List Int} : (r.map D.int).isEmpty = r.isEmpty := by cases r <;> rfl
theorem ok__law_bent : ∀ os Qd Ed, os.length = 2 → C__law_bent os Qd Ed → m__law_bent (slot0 5 os) (endOf [2, 3, 4] 2 Qd Ed) := by
  rintro os Qd Ed - ⟨m, i, r, rfl, hm, hi, hr, hlen, q⟩
  refine r_end ?_
  show m__law_bent [some (.deck m), some (.d (.tup (r.map D.int))), none, none, none] _
  have fin : ∀ (xs : List D), (∀ x ∈ xs, Nc 1 2 x) → xs.length ≤ 40 → Nc 6 260 (.tup xs) := fun xs h1 h2 => (nc_tup h1 h2).mono (by omega) (by omega)
  have finL : ∀ (xs : List D), (∀ x ∈ xs, Nc 1 2 x) → xs.length ≤ 40 → Nc 6 260 (.lst xs) := fun xs h1 h2 => (nc_lst h1 h2).mono (by omega) (by omega)
  have hnc := row_nc hi hr
  have hl : (r.map D.int).length ≤ 16 := by rw [List.length_map]; exact hlen
  generalize r.map D.int = xs at hnc hl
  have grow : ∀ (z : Int) (m' : Nat × Addr) (o : Option O), 0 ≤ z → z < 2 → m'.1 ≤ 63 → Qd (.d (.tup (xs ++ [.int z]))) [some (.deck m'), o] := fun z m' o h1 h2 h3 => by
    refine q _ _ _ trivial (fin _ (fun x hx => ?_) (by rw [List.length_append]; simp; omega)) h3
    rcases List.mem_append.mp hx with hx | hx
    · exact hnc x hx
    · rw [List.mem_singleton.mp hx]; exact nc_small (by omega)
  unfold m__law_bent
  walk_at "ws"
  refine c_draw hm (by omega) (by omega) fun z m1 o h1 h2 h3 => ?_
  walk_at "ws"
  · exact q _ _ _ trivial (finL xs hnc (by omega)) h3
  · refine c_any (by omega) h3 fun o m2 o2 hn hnc2 h4 => ?_
    walk_at "ws"
    exact q _ _ _ hn hnc2 h4
  · refine c_draw h3 (by omega) (by omega) fun z2 m2 o h4 h5 h6 => ?_
    walk_at "ws"
    exact grow z2 _ _ h4 h5 h6
  · refine c_draw h3 (by omega) (by omega) fun z2 m2 o h4 h5 h6 => ?_
    walk_at "ws"
    exact grow z2 _ _ h4 h5 h6
  · exact q _ _ _ trivial (fin _ (fun x hx => hnc x (cut_mem hx)) (Nat.le_trans cut_len (by omega))) h3
  · exact q _ _ _ trivial (fin _ (fun x hx => hnc x (cut_mem hx)) (Nat.le_trans cut_len (by omega))) h3
  · have hp : 0 < xs.length := List.length_pos_iff.mpr (by assumption)
    refine c_draw h3 (by omega) (by omega) fun z2 m2 o h4 h5 h6 => ?_
    walk_at "ws"
    refine c_pickD h6 (by simp) (by simp) fun y m3 o hy h7 => ?_
    have hny : Nc 1 2 y := nc_alls (by decide +kernel) y hy
    have c1 := cut_len (xs := xs) (lo := none) (hi := some z2)
    have c2 := cut_len (xs := xs) (lo := some (z2 + 1)) (hi := none)
    walk_at "ws"
    refine q _ _ _ trivial (fin _ (fun x hx => ?_) (by simp only [List.length_append, List.length_cons, List.length_nil]; omega)) h7
    rcases List.mem_append.mp hx with hx | hx
    · rcases List.mem_append.mp hx with hx | hx
      · exact hnc x (cut_mem hx)
      · rw [List.mem_singleton.mp hx]; exact hny
    · exact hnc x (cut_mem hx)
end Pv

set_option Elab.async false
set_option maxRecDepth 100000
set_option maxHeartbeats 4000000
set_option autoImplicit false
set_option linter.unusedVariables false
namespace Pv
open PySem L2
local macro_rules | `(tactic| walk_at "wpow") => `(tactic| (simp only [Int.reduceToNat, Int.reducePow]; rfl))
local macro_rules | `(tactic| walk_at "wx") => `(tactic| first | rfl | assumption | with_unfolding_all rfl)
local macro_rules | `(tactic| walk_at "wd") => `(tactic| first | with_reducible rfl | assumption | omega | decide | (refine cdivw_small ?_ ?_ <;> omega) | (refine cdivw_small ?_ ?_ <;> split <;> omega) | (refine cpow_small ?_ ?_ ?_ ?_ <;> omega) | (refine cmul_r ?_ ?_ <;> omega) | (refine cmul_l ?_ ?_ <;> omega) | (simp only [List.length_cons, List.length_nil, List.length_append, List.length_reverse, List.length_map, flat_len, Int.reduceToNat]; omega) | (simp only [sizeLine, List.length_cons, List.length_nil, List.length_append, List.length_reverse, List.length_map, flat_len, Int.reduceToNat]; omega))
local macro_rules | `(tactic| walk_at "ws") => `(tactic| repeat' (first | (with_reducible first | refine Stp.go ?_ | refine AndG.go (by first | decide | walk_at "wd") ?_ | refine StpI.go (fun _ => ?_) (fun z => absurd (by first | rfl | decide | omega | (simp only [List.length_cons, List.length_nil]; omega)) z) | refine StpI.go (fun z => absurd z (by first | decide | omega | (simp only [List.length_cons, List.length_nil]; omega))) (fun _ => ?_) | refine StpI.go (fun _ => ?_) (fun _ => ?_) | refine StpX.go _ (by walk_at "wx") ?_ | refine StpN.go _ (by walk_at "wd") (by walk_at "wpow") ?_ | refine StpZ.go _ (by with_unfolding_all rfl) ?_ | refine StpV.go _ _ (by with_unfolding_all rfl) (by with_unfolding_all rfl) ?_ | exact DnT.h) | intro _))
/-! ### all calls with some values -/
def NcR : Except Er D → Prop
  | .ok d => Nc 6 260 d
  | .error (.F x) => Nc 6 260 x
  | .error (.L x) => Nc 6 260 x
  | .error (.W x) => Nc 6 260 x
theorem nc_s (s : String) {d b : Nat} (h : (Str.ofString s).length ≤ b) : Nc d b (.str (Str.ofString s)) := (nc_str (ok8_of s) h).mono (Nat.zero_le _) (Nat.le_refl _)
theorem nc_two {d b : Nat} {x y : D} (hx : Nc d b x) (hy : Nc d b y) : Nc (d + 1) (2 * (b + 1)) (.tup [x, y]) := nc_tup (n := 2) (fun z hz => by
  simp only [List.mem_cons, List.not_mem_nil, or_false] at hz
  rcases hz with rfl | rfl <;> assumption) (Nat.le_refl 2)
theorem nc_told {r : Except Er D} (h : NcR r) : Nc 7 522 (toldD r) := by
  match r, h with
  | .ok d, h => exact nc_two (b := 260) (nc_s "told" (by decide +kernel)) h
  | .error (.F x), h => exact nc_two (b := 260) (nc_s "field" (by decide +kernel)) h
  | .error (.L x), h => exact nc_two (b := 260) (nc_s "letter" (by decide +kernel)) h
  | .error (.W x), h => exact nc_two (b := 260) (nc_s "word" (by decide +kernel)) h
theorem nc_sm {i j : Int} (h : 0 ≤ j ∧ j < i) (h5 : i ≤ 5) : Nc 6 260 (.int j) := (nc_int (by omega)).mono (by omega) (by omega)

theorem wr_er {q l : D} {ws : List D} {e : Er} (h : wr q l ws = some e) : e = .F q ∨ e = .L l ∨ ∃ x ∈ ws, e = .W x := by
  unfold wr at h
  split at h
  · split at h
    · split at h
      · rename_i e' hn
        cases h
        unfold needW at hn
        split at hn
        · rename_i x hx
          cases hn
          exact .inr (.inr ⟨x, List.mem_of_find?_eq_some hx, rfl⟩)
        · split at hn
          · split at hn
            · cases hn
            · cases hn
              exact .inr (.inr ⟨_, List.mem_cons_of_mem _ List.mem_cons_self, rfl⟩)
          · cases hn
      · cases h
    · cases h; exact .inr (.inl rfl)
  · cases h; exact .inl rfl
theorem ncR_gw {q l v : D} {ws : List D} (hq : Nc 6 260 q) (hl : Nc 6 260 l) (hw : ∀ x ∈ ws, Nc 6 260 x) (hv : wr q l ws = none → Nc 6 260 v) : NcR (gw (wr q l ws) v) := by
  cases h : wr q l ws with
  | none => exact hv h
  | some e =>
    rcases wr_er h with rfl | rfl | ⟨x, hx, rfl⟩
    · exact hq
    · exact hl
    · exact hw x hx
theorem nc1 {a : D} (ha : Nc 6 260 a) : ∀ x ∈ [a], Nc 6 260 x := fun x hx => by rw [List.mem_singleton.mp hx]; exact ha
theorem nc2 {a b : D} (ha : Nc 6 260 a) (hb : Nc 6 260 b) : ∀ x ∈ [a, b], Nc 6 260 x := fun x hx => by
  simp only [List.mem_cons, List.not_mem_nil, or_false] at hx
  rcases hx with rfl | rfl <;> assumption
theorem nc_rowL {i : Int} {r : List Int} (hi : i ≤ 5) (hr : Ltr i r) (hl : r.length ≤ 260) : Nc 6 260 (rowD r) := (nc_tup (d := 0) (b := 0) (n := 260) (fun x hx => by
  obtain ⟨j, hj, rfl⟩ := List.mem_map.mp hx
  have := hr j hj
  exact nc_int (by omega)) (by rw [List.length_map]; exact hl)).mono (by omega) (by omega)
theorem row_len {d b : Nat} {r : List Int} (h : Nc d b (rowD r)) : r.length ≤ b := by
  have := Nc.tup_len (xs := r.map D.int) h
  rwa [List.length_map] at this
theorem nc_zero : Nc 6 260 (.int 0) := (nc_int (by omega)).mono (by omega) (by omega)
theorem sup_len {r : List Int} : (supL r).length ≤ r.length := by
  unfold supL
  rw [List.length_map]
  exact Nat.le_trans (List.length_filter_le _ _) (by rw [List.length_zipIdx]; exact Nat.le_refl _)
theorem sup_nc {r : List Int} (hl : r.length ≤ 260) : ∀ x ∈ supL r, Nc 0 0 x := fun x hx => by
  unfold supL at hx
  obtain ⟨p, hp, rfl⟩ := List.mem_map.mp hx
  have := List.mem_zipIdx (List.mem_filter.mp hp).1
  exact nc_int (by omega)
theorem ncR_sum {q a b : D} (hq : Nc 6 260 q) (ha : Nc 6 260 a) (hb : Nc 6 260 b) : NcR (pSum q a b) := ncR_gw hq nc_zero (nc2 ha hb) fun h => by
  obtain ⟨i, j, r, s, rfl, hi, -, -, rfl, rfl, hr, hs, hl⟩ := wr_two h
  rw [ofI_row, ofI_row]
  refine nc_rowL (i := i) hi.2 (fun x hx => ?_) ?_
  · obtain ⟨p, hp, rfl⟩ := List.mem_map.mp hx
    have := zip_ltr hr hs p hp
    exact lsum_in (.mk hi this.1 this.2)
  · show ((r.zip s).map _).length ≤ 260
    rw [List.length_map, List.length_zip]
    have := row_len ha
    omega
theorem ncR_prod {q a b : D} (hq : Nc 6 260 q) (ha : Nc 6 260 a) (hb : Nc 6 260 b) : NcR (pProd q a b) := ncR_gw hq nc_zero (nc2 ha hb) fun h => by
  obtain ⟨i, j, r, s, rfl, hi, -, -, rfl, rfl, hr, hs, hl⟩ := wr_two h
  rw [ofI_row, ofI_row]
  have := rprod_in hi (r.zip s) 0 (zip_ltr hr hs) (by omega)
  refine (nc_int ?_).mono (Nat.zero_le _) (Nat.zero_le _)
  show (rprod i r s).natAbs < _
  unfold rprod
  omega
theorem ncR_times {q l a : D} (hq : Nc 6 260 q) (hl : Nc 6 260 l) (ha : Nc 6 260 a) : NcR (pTimes q l a) := ncR_gw hq hl (nc1 ha) fun h => by
  obtain ⟨i, j, r, rfl, hi, rfl, hj, rfl, hr⟩ := wr_one h
  rw [ofI_row]
  exact nc_rowL (i := i) hi.2 (rowTimes_in hi hj hr) (by show (rowTimes i j r).length ≤ 260; rw [rowTimes_len]; exact row_len ha)
theorem ncR_sup {q a : D} (hq : Nc 6 260 q) (ha : Nc 6 260 a) : NcR (pSup q a) := ncR_gw hq nc_zero (nc1 ha) fun h => by
  obtain ⟨i, j, r, rfl, hi, -, -, rfl, hr⟩ := wr_one h
  rw [ofI_row]
  have := row_len ha
  exact (nc_tup (n := 260) (sup_nc this) (Nat.le_trans sup_len this)).mono (by omega) (by omega)
theorem ncR_wt {q a : D} (hq : Nc 6 260 q) (ha : Nc 6 260 a) : NcR (pWt q a) := ncR_gw hq nc_zero (nc1 ha) fun h => by
  obtain ⟨i, j, r, rfl, hi, -, -, rfl, hr⟩ := wr_one h
  rw [ofI_row]
  have := row_len ha
  have := sup_len (r := r)
  exact (nc_int (by omega)).mono (by omega) (by omega)
theorem toldE (e : Er) {v : D} {r : Option Er} (h : r = some e) : toldD (gw r v) = wD r := by subst h; rfl
theorem toldV {v : D} {r : Option Er} (h : r = none) : toldD (gw r v) = .tup [.str "told", v] := by subst h; rfl
theorem pb2 {r : Except Er D} {A : O → Prop} {B : Exc → Prop} {o0 o1 : O} {ρ : Sl} (h : Rk r A B) : Res r (fun o os' => PB [(none, o0), (none, o1)] os' ρ fun _ => A o) fun e os' => PB [(none, o0), (none, o1)] os' ρ fun _ => B e := by
  cases r <;> exact fun os' => r_pbA2 h
theorem pb3 {r : Except Er D} {A : O → Prop} {B : Exc → Prop} {o0 o1 o2 : O} {ρ : Sl} (h : Rk r A B) : Res r (fun o os' => PB [(none, o0), (none, o1), (none, o2)] os' ρ fun _ => A o) fun e os' => PB [(none, o0), (none, o1), (none, o2)] os' ρ fun _ => B e := by
  cases r <;> exact fun os' => r_pbA3 h
theorem in4 {ρ : Sl} {js : List Nat} {x0 x1 x2 x3 : D} (hj : (js.all fun j => decide (j < 4)) = true) (e0 : ρ[0]? = some (some (.d x0))) (e1 : ρ[1]? = some (some (.d x1))) (e2 : ρ[2]? = some (some (.d x2))) (e3 : ρ[3]? = some (some (.d x3))) : ∀ j ∈ js, ∃ x, ρ[j]? = some (some (.d x)) := fun j h => by
  have := List.all_eq_true.mp hj j h
  have : j = 0 ∨ j = 1 ∨ j = 2 ∨ j = 3 := by
    have := of_decide_eq_true this
    omega
  rcases this with rfl | rfl | rfl | rfl
  · exact ⟨_, e0⟩
  · exact ⟨_, e1⟩
  · exact ⟨_, e2⟩
  · exact ⟨_, e3⟩

def C__law_is_right : Ct := fun os Q _ => ∃ (q l a b : D), os = [.d q, .d l, .d a, .d b] ∧ Nc 6 260 q ∧ Nc 6 260 l ∧ Nc 6 260 a ∧ Nc 6 260 b ∧ ∀ os', Q (.d (.bl true)) os'
def m__law_is_right : WS := (wSeq (wAsg (as := [4, 5, 6, 7]) 4 (wCall C__law_wrong [0, 1, 2] [(none, (wVar 0)), (none, (wK (.int 0))), (none, (wLst (wCons (wVar 2) (wCons (wVar 3) wNil))))]))
  (wSeq (wAsg (as := [4, 5, 6, 7]) 5 (wTup (wCons (wLam CL__law_told [2, 3, 0] (wCall C_word_sum [0, 1, 2] [(none, (wVar 0)), (none, (wVar 2)), (none, (wVar 3))])) (wCons (wLam CL__law_told [2, 3, 0] (wCall C_word_sum [1, 2, 0] [(none, (wVar 3)), (none, (wVar 0)), (none, (wVar 2))])) wNil))))
  (wSeq (wAsg (as := [4, 5, 6, 7]) 6 (wIf (wBool (wBin (mIs true) (wVar 4) (wK .non))) (wVar 4) (wTup (wCons (wK (.str "told")) (wCons (wCall C__law_plus [0, 1, 2] [(none, (wVar 0)), (none, (wVar 2)), (none, (wVar 3))]) wNil)))))
  (wSeq (wIfS (wBool (wBin (mEq true) (wCB mRepr (wCons (wVar 5) wNil)) (wCB mRepr (wCons (wTup (wCons (wVar 6) (wCons (wVar 6) wNil))) wNil))))
  (wRet (wK (.bl false)))
  wNext)
  (wSeq (wAsg (as := [4, 5, 6, 7]) 5 (wTup (wCons (wLam CL__law_told [2, 3, 0] (wCall C_product [0, 1, 2] [(none, (wVar 0)), (none, (wVar 2)), (none, (wVar 3))])) (wCons (wLam CL__law_told [2, 3, 0] (wCall C_product [1, 0, 2] [(none, (wVar 2)), (none, (wVar 0)), (none, (wVar 3))])) wNil))))
  (wSeq (wAsg (as := [4, 5, 6, 7]) 6 (wIf (wBool (wBin (mIs true) (wVar 4) (wK .non))) (wVar 4) (wTup (wCons (wK (.str "told")) (wCons (wCall C__law_product [0, 1, 2] [(none, (wVar 0)), (none, (wVar 2)), (none, (wVar 3))]) wNil)))))
  (wSeq (wIfS (wBool (wBin (mEq true) (wCB mRepr (wCons (wVar 5) wNil)) (wCB mRepr (wCons (wTup (wCons (wVar 6) (wCons (wVar 6) wNil))) wNil))))
  (wRet (wK (.bl false)))
  wNext)
  (wSeq (wAsg (as := [4, 5, 6, 7]) 4 (wCall C__law_wrong [0, 1, 2] [(none, (wVar 0)), (none, (wVar 1)), (none, (wLst (wCons (wVar 2) wNil)))]))
  (wSeq (wAsg (as := [4, 5, 6, 7]) 5 (wTup (wCons (wLam CL__law_told [1, 2, 0] (wCall C_word_times [0, 1, 2] [(none, (wVar 0)), (none, (wVar 1)), (none, (wVar 2))])) (wCons (wLam CL__law_told [1, 2, 0] (wCall C_word_times [2, 1, 0] [(none, (wVar 2)), (none, (wVar 1)), (none, (wVar 0))])) wNil))))
  (wSeq (wAsg (as := [4, 5, 6, 7]) 6 (wIf (wBool (wBin (mIs true) (wVar 4) (wK .non))) (wVar 4) (wTup (wCons (wK (.str "told")) (wCons (wTuple (wLc (wItr (wVar 2)) (gNm [8] 8) wYes (wCall C__law_by [0, 1, 2] [(none, (wVar 0)), (none, (wVar 1)), (none, (wVar 8))]) [8])) wNil)))))
  (wSeq (wIfS (wBool (wBin (mEq true) (wCB mRepr (wCons (wVar 5) wNil)) (wCB mRepr (wCons (wTup (wCons (wVar 6) (wCons (wVar 6) wNil))) wNil))))
  (wRet (wK (.bl false)))
  wNext)
  (wSeq (wAsg (as := [4, 5, 6, 7]) 4 (wCall C__law_wrong [0, 1, 2] [(none, (wVar 0)), (none, (wK (.int 0))), (none, (wLst (wCons (wVar 2) wNil)))]))
  (wSeq (wAsg (as := [4, 5, 6, 7]) 7 (wIf (wBool (wBin (mIs true) (wVar 4) (wK .non))) (wTup wNil) (wTuple (wLc (wItrE (wCons (wVar 2) wNil)) (gTp 2 (gCn (gNm [9, 8] 9) (gCn (gNm [9, 8] 8) gNl))) (wBool (wEqV true 8 (wK (.int 0)))) (wVar 9) [9, 8]))))
  (wSeq (wAsg (as := [4, 5, 6, 7]) 5 (wLst (wCons (wLam CL__law_told [2, 0] (wCall C_support [0, 1] [(none, (wVar 0)), (none, (wVar 2))])) (wCons (wLam CL__law_told [2, 0] (wCall C_weight [0, 1] [(none, (wVar 0)), (none, (wVar 2))])) wNil))))
  (wSeq (wDrop (wApp 5 (wLam CL__law_told [2, 0] (wCall C_support [1, 0] [(none, (wVar 2)), (none, (wVar 0))]))))
  (wSeq (wDrop (wApp 5 (wLam CL__law_told [2, 0] (wCall C_weight [1, 0] [(none, (wVar 2)), (none, (wVar 0))]))))
  (wSeq (wAsg (as := [4, 5, 6, 7]) 6 (wIf (wBool (wBin (mIs true) (wVar 4) (wK .non))) (wLst (wCons (wVar 4) (wCons (wVar 4) wNil))) (wLst (wCons (wTup (wCons (wK (.str "told")) (wCons (wVar 7) wNil))) (wCons (wTup (wCons (wK (.str "told")) (wCons (wLenV 7) wNil))) wNil)))))
  (wRet (wBin (mEq false) (wCB mRepr (wCons (wVar 5) wNil)) (wCB mRepr (wCons (wBin mAdd (wVar 6) (wVar 6)) wNil)))))))))))))))))))))
theorem shw_two {r : Except Er D} (h : NcR r) : Shw (.tup [toldD r, toldD r]) := (nc_two (nc_told h) (nc_told h)).shw (by omega) (by omega)
def plD (w : Option Er) (a : D) : D := match w with
  | some _ => .tup []
  | none => .tup (supL (ofI a))
theorem wD_is {w : Option Er} {A B : Prop} (h1 : ∀ e, w = some e → A) (h0 : w = none → B) : ifB (if true = true then !isNonD (wD w) else isNonD (wD w)) A B := by
  cases w with
  | none => exact ifB_f (h0 rfl)
  | some e => cases e <;> exact ifB_t (h1 _ rfl)
theorem ok__law_is_right : ∀ os Qd Ed, os.length = 4 → C__law_is_right os Qd Ed → m__law_is_right (slot0 10 os) (endOf [4, 5, 6, 7] 4 Qd Ed) := by
  rintro os Qd Ed - ⟨x, l, a, b, rfl, hx, hl, ha, hb, q⟩
  refine r_end ?_
  show m__law_is_right [some (.d x), some (.d l), some (.d a), some (.d b), none, none, none, none, none, none] _
  unfold m__law_is_right
  have vx := hx.vis
  have vl := hl.vis
  have va := ha.vt (by omega)
  have vb := hb.vt (by omega)
  refine r_cut (fun ρ => ρ = [some (.d x), some (.d l), some (.d a), some (.d b), some (.d (wD (wr x (.int 0) [a, b]))), none, none, none, none, none]) (fun K hK => ?_) ?_
  · walk_at "ws"
    refine ⟨x, .int 0, [a, b], rfl, oneTwo2, vx, trivial, vt2 va vb, fun os' => ?_⟩
    walk_at "ws"
    exact hK _ rfl
  rintro _ rfl
  refine r_cut (fun ρ => ρ = [some (.d x), some (.d l), some (.d a), some (.d b), some (.d (wD (wr x (.int 0) [a, b]))), some (.d (.tup [toldD (pSum x a b), toldD (pSum x a b)])), none, none, none, none]) (fun K hK => ?_) ?_
  · walk_at "ws"
    refine told_go (pSum x a b) (in4 (by decide) rfl rfl rfl rfl) (fun A B h => ?_) ?_
    · show wCall _ _ _ [some (.d x), none, some (.d a), some (.d b), none, none, none, none, none, none] _ _
      walk_at "ws"
      exact ⟨x, a, b, rfl, vx, va, vb, pb3 h⟩
    walk_at "ws"
    refine told_go (pSum x a b) (in4 (by decide) rfl rfl rfl rfl) (fun A B h => ?_) ?_
    · show wCall _ _ _ [some (.d x), none, some (.d a), some (.d b), none, none, none, none, none, none] _ _
      walk_at "ws"
      exact ⟨x, a, b, rfl, vx, va, vb, pb3 h⟩
    walk_at "ws"
    exact hK _ rfl
  rintro _ rfl
  refine r_cut (fun ρ => ρ = [some (.d x), some (.d l), some (.d a), some (.d b), some (.d (wD (wr x (.int 0) [a, b]))), some (.d (.tup [toldD (pSum x a b), toldD (pSum x a b)])), some (.d (toldD (pSum x a b))), none, none, none]) (fun K hK => ?_) ?_
  · walk_at "ws"
    refine wD_is (fun e he => ?_) (fun he => ?_)
    · walk_at "ws"
      exact hK _ (by rw [show toldD (pSum x a b) = wD (wr x (.int 0) [a, b]) from toldE e he])
    · have ht : toldD (pSum x a b) = _ := toldV he
      obtain ⟨i, j, r, s, rfl, hi, -, -, rfl, rfl, hr, hs, hlen⟩ := wr_two he
      walk_at "ws"
      refine ⟨i, r, s, rfl, hi, hr, hs, vt_len va, fun os' => ?_⟩
      walk_at "ws"
      refine hK _ ?_
      rw [ht, ofI_row, ofI_row]; rfl
  rintro _ rfl
  refine r_cut (fun ρ => ρ = [some (.d x), some (.d l), some (.d a), some (.d b), some (.d (wD (wr x (.int 0) [a, b]))), some (.d (.tup [toldD (pSum x a b), toldD (pSum x a b)])), some (.d (toldD (pSum x a b))), none, none, none]) (fun K hK => ?_) ?_
  · walk_at "ws"
    refine r_repr (shw_two (ncR_sum hx ha hb)) ?_
    walk_at "ws"
    refine r_repr (shw_two (ncR_sum hx ha hb)) ?_
    walk_at "ws"
    exact hK _ rfl
  rintro _ rfl
  refine r_cut (fun ρ => ρ = [some (.d x), some (.d l), some (.d a), some (.d b), some (.d (wD (wr x (.int 0) [a, b]))), some (.d (.tup [toldD (pProd x a b), toldD (pProd x a b)])), some (.d (toldD (pSum x a b))), none, none, none]) (fun K hK => ?_) ?_
  · walk_at "ws"
    refine told_go (pProd x a b) (in4 (by decide) rfl rfl rfl rfl) (fun A B h => ?_) ?_
    · show wCall _ _ _ [some (.d x), none, some (.d a), some (.d b), none, none, none, none, none, none] _ _
      walk_at "ws"
      exact ⟨x, a, b, rfl, vx, va, vb, pb3 h⟩
    walk_at "ws"
    refine told_go (pProd x a b) (in4 (by decide) rfl rfl rfl rfl) (fun A B h => ?_) ?_
    · show wCall _ _ _ [some (.d x), none, some (.d a), some (.d b), none, none, none, none, none, none] _ _
      walk_at "ws"
      exact ⟨x, a, b, rfl, vx, va, vb, pb3 h⟩
    walk_at "ws"
    exact hK _ rfl
  rintro _ rfl
  refine r_cut (fun ρ => ρ = [some (.d x), some (.d l), some (.d a), some (.d b), some (.d (wD (wr x (.int 0) [a, b]))), some (.d (.tup [toldD (pProd x a b), toldD (pProd x a b)])), some (.d (toldD (pProd x a b))), none, none, none]) (fun K hK => ?_) ?_
  · walk_at "ws"
    refine wD_is (fun e he => ?_) (fun he => ?_)
    · walk_at "ws"
      exact hK _ (by rw [show toldD (pProd x a b) = wD (wr x (.int 0) [a, b]) from toldE e he])
    · have ht : toldD (pProd x a b) = _ := toldV he
      obtain ⟨i, j, r, s, rfl, hi, -, -, rfl, rfl, hr, hs, hlen⟩ := wr_two he
      walk_at "ws"
      refine ⟨i, r, s, rfl, hi, hr, hs, vt_len va, fun os' => ?_⟩
      walk_at "ws"
      refine hK _ ?_
      rw [ht, ofI_row, ofI_row]; rfl
  rintro _ rfl
  refine r_cut (fun ρ => ρ = [some (.d x), some (.d l), some (.d a), some (.d b), some (.d (wD (wr x (.int 0) [a, b]))), some (.d (.tup [toldD (pProd x a b), toldD (pProd x a b)])), some (.d (toldD (pProd x a b))), none, none, none]) (fun K hK => ?_) ?_
  · walk_at "ws"
    refine r_repr (shw_two (ncR_prod hx ha hb)) ?_
    walk_at "ws"
    refine r_repr (shw_two (ncR_prod hx ha hb)) ?_
    walk_at "ws"
    exact hK _ rfl
  rintro _ rfl
  refine r_cut (fun ρ => ρ = [some (.d x), some (.d l), some (.d a), some (.d b), some (.d (wD (wr x l [a]))), some (.d (.tup [toldD (pProd x a b), toldD (pProd x a b)])), some (.d (toldD (pProd x a b))), none, none, none]) (fun K hK => ?_) ?_
  · walk_at "ws"
    refine ⟨x, l, [a], rfl, oneTwo1, vx, vl, vt1 va, fun os' => ?_⟩
    walk_at "ws"
    exact hK _ rfl
  rintro _ rfl
  refine r_cut (fun ρ => ρ = [some (.d x), some (.d l), some (.d a), some (.d b), some (.d (wD (wr x l [a]))), some (.d (.tup [toldD (pTimes x l a), toldD (pTimes x l a)])), some (.d (toldD (pProd x a b))), none, none, none]) (fun K hK => ?_) ?_
  · walk_at "ws"
    refine told_go (pTimes x l a) (in4 (by decide) rfl rfl rfl rfl) (fun A B h => ?_) ?_
    · show wCall _ _ _ [some (.d x), some (.d l), some (.d a), none, none, none, none, none, none, none] _ _
      walk_at "ws"
      exact ⟨x, l, a, rfl, vx, vl, va, pb3 h⟩
    walk_at "ws"
    refine told_go (pTimes x l a) (in4 (by decide) rfl rfl rfl rfl) (fun A B h => ?_) ?_
    · show wCall _ _ _ [some (.d x), some (.d l), some (.d a), none, none, none, none, none, none, none] _ _
      walk_at "ws"
      exact ⟨x, l, a, rfl, vx, vl, va, pb3 h⟩
    walk_at "ws"
    exact hK _ rfl
  rintro _ rfl
  refine r_cut (fun ρ => ρ = [some (.d x), some (.d l), some (.d a), some (.d b), some (.d (wD (wr x l [a]))), some (.d (.tup [toldD (pTimes x l a), toldD (pTimes x l a)])), some (.d (toldD (pTimes x l a))), none, none, none]) (fun K hK => ?_) ?_
  · walk_at "ws"
    refine wD_is (fun e he => ?_) (fun he => ?_)
    · walk_at "ws"
      exact hK _ (by rw [show toldD (pTimes x l a) = wD (wr x l [a]) from toldE e he])
    · have ht : toldD (pTimes x l a) = _ := toldV he
      obtain ⟨i, j, r, rfl, hi, rfl, hj, rfl, hr⟩ := wr_one he
      walk_at "ws"
      refine lc_map _ (fun p => D.int (lprod i j p)) (vt_len va) (fun p hp K hK => ?_) ?_
      · walk_at "ws"
        refine c3 (.mk hi hj (hr p hp)) fun os' => ?_
        walk_at "ws"
        exact hK _ rfl
      · walk_at "ws"
        refine hK _ ?_
        rw [ht, ofI_row]
        unfold rowD rowTimes
        rw [List.map_map]; rfl
  rintro _ rfl
  refine r_cut (fun ρ => ρ = [some (.d x), some (.d l), some (.d a), some (.d b), some (.d (wD (wr x l [a]))), some (.d (.tup [toldD (pTimes x l a), toldD (pTimes x l a)])), some (.d (toldD (pTimes x l a))), none, none, none]) (fun K hK => ?_) ?_
  · walk_at "ws"
    refine r_repr (shw_two (ncR_times hx hl ha)) ?_
    walk_at "ws"
    refine r_repr (shw_two (ncR_times hx hl ha)) ?_
    walk_at "ws"
    exact hK _ rfl
  rintro _ rfl
  refine r_cut (fun ρ => ρ = [some (.d x), some (.d l), some (.d a), some (.d b), some (.d (wD (wr x (.int 0) [a]))), some (.d (.tup [toldD (pTimes x l a), toldD (pTimes x l a)])), some (.d (toldD (pTimes x l a))), none, none, none]) (fun K hK => ?_) ?_
  · walk_at "ws"
    refine ⟨x, .int 0, [a], rfl, oneTwo1, vx, trivial, vt1 va, fun os' => ?_⟩
    walk_at "ws"
    exact hK _ rfl
  rintro _ rfl
  refine r_cut (fun ρ => ρ = [some (.d x), some (.d l), some (.d a), some (.d b), some (.d (wD (wr x (.int 0) [a]))), some (.d (.tup [toldD (pTimes x l a), toldD (pTimes x l a)])), some (.d (toldD (pTimes x l a))), some (.d (plD (wr x (.int 0) [a]) a)), none, none]) (fun K hK => ?_) ?_
  · walk_at "ws"
    refine wD_is (fun e he => ?_) (fun he => ?_)
    · walk_at "ws"
      exact hK _ (by rw [show plD (wr x (.int 0) [a]) a = .tup [] from by rw [he]; rfl])
    · have hp : plD (wr x (.int 0) [a]) a = .tup (supL (ofI a)) := by rw [he]; rfl
      obtain ⟨i, j, r, rfl, hi, -, -, rfl, hr⟩ := wr_one he
      walk_at "ws"
      rw [en_map]
      refine lc_filt _ (fun p => D.int (p.2 : Nat)) (fun p => decide (p.1 ≠ 0)) (by simpa using vt_len va) (fun p hp K1 K0 h1 h0 => ?_) ?_
      · walk_at "ws"
        · rename_i h
          have h : p.1 = 0 := h
          exact h0 (by rw [h]; rfl) _ rfl
        · rename_i h
          have h : ¬ p.1 = 0 := h
          exact h1 (decide_eq_true h) _ rfl
      · walk_at "ws"
        refine hK _ ?_
        rw [hp, ofI_row]; rfl
  rintro _ rfl
  refine r_cut3 (fun ρ => ρ = [some (.d x), some (.d l), some (.d a), some (.d b), some (.d (wD (wr x (.int 0) [a]))), some (.lst [toldD (pSup x a), toldD (pWt x a), toldD (pSup x a), toldD (pWt x a)]), some (.d (toldD (pTimes x l a))), some (.d (plD (wr x (.int 0) [a]) a)), none, none]) (fun K hK => ?_) ?_
  · walk_at "ws"
    refine told_go (pSup x a) (in4 (by decide) rfl rfl rfl rfl) (fun A B h => ?_) ?_
    · show wCall _ _ _ [some (.d x), none, some (.d a), none, none, none, none, none, none, none] _ _
      walk_at "ws"
      exact ⟨x, a, rfl, vx, va, pb2 h⟩
    walk_at "ws"
    refine told_go (pWt x a) (in4 (by decide) rfl rfl rfl rfl) (fun A B h => ?_) ?_
    · show wCall _ _ _ [some (.d x), none, some (.d a), none, none, none, none, none, none, none] _ _
      walk_at "ws"
      exact ⟨x, a, rfl, vx, va, pb2 h⟩
    walk_at "ws"
    refine told_go (pSup x a) (in4 (by decide) rfl rfl rfl rfl) (fun A B h => ?_) ?_
    · show wCall _ _ _ [some (.d x), none, some (.d a), none, none, none, none, none, none, none] _ _
      walk_at "ws"
      exact ⟨x, a, rfl, vx, va, pb2 h⟩
    walk_at "ws"
    refine told_go (pWt x a) (in4 (by decide) rfl rfl rfl rfl) (fun A B h => ?_) ?_
    · show wCall _ _ _ [some (.d x), none, some (.d a), none, none, none, none, none, none, none] _ _
      walk_at "ws"
      exact ⟨x, a, rfl, vx, va, pb2 h⟩
    walk_at "ws"
    exact hK _ rfl
  rintro _ rfl
  refine r_cut (fun ρ => ρ = [some (.d x), some (.d l), some (.d a), some (.d b), some (.d (wD (wr x (.int 0) [a]))), some (.lst [toldD (pSup x a), toldD (pWt x a), toldD (pSup x a), toldD (pWt x a)]), some (.lst [toldD (pSup x a), toldD (pWt x a)]), some (.d (plD (wr x (.int 0) [a]) a)), none, none] ∨ ρ = [some (.d x), some (.d l), some (.d a), some (.d b), some (.d (wD (wr x (.int 0) [a]))), some (.lst [toldD (pSup x a), toldD (pWt x a), toldD (pSup x a), toldD (pWt x a)]), some (.lst [toldD (pSup x a), toldD (pWt x a)]), some (.d (plD (wr x (.int 0) [a]) a)), none, none]) (fun K hK => ?_) ?_
  · walk_at "ws"
    refine wD_is (fun e he => ?_) (fun he => ?_)
    · walk_at "ws"
      exact hK _ (.inl (by rw [show toldD (pSup x a) = wD (wr x (.int 0) [a]) from toldE e he, show toldD (pWt x a) = wD (wr x (.int 0) [a]) from toldE e he]))
    · have ht : toldD (pSup x a) = _ := toldV he
      have ht2 : toldD (pWt x a) = _ := toldV he
      have hp : plD (wr x (.int 0) [a]) a = .tup (supL (ofI a)) := by rw [he]; rfl
      rw [hp, ht, ht2]
      walk_at "ws"
      exact hK _ (.inl (by rw [ht, ht2, hp]))
  have s4 : Shw (.lst [toldD (pSup x a), toldD (pWt x a), toldD (pSup x a), toldD (pWt x a)]) := by
    refine (nc_lst (d := 7) (b := 522) (n := 4) (fun w hw => ?_) (Nat.le_refl _)).shw (by omega) (by omega)
    have n1 := nc_told (ncR_sup hx ha)
    have n2 := nc_told (ncR_wt hx ha)
    simp only [List.mem_cons, List.not_mem_nil, or_false] at hw
    rcases hw with rfl | rfl | rfl | rfl <;> assumption
  rintro _ (rfl | rfl)
  all_goals
    walk_at "ws"
    refine r_repr s4 ?_
    walk_at "ws"
    refine r_repr s4 ?_
    walk_at "ws"
    simp only [List.cons_append, List.nil_append]
    exact q _
end Pv

set_option Elab.async false
set_option maxRecDepth 100000
set_option maxHeartbeats 4000000
set_option autoImplicit false
set_option linter.unusedVariables false
namespace Pv
open PySem L2
local macro_rules | `(tactic| walk_at "wpow") => `(tactic| (simp only [Int.reduceToNat, Int.reducePow]; rfl))
local macro_rules | `(tactic| walk_at "wx") => `(tactic| first | rfl | assumption | with_unfolding_all rfl)
local macro_rules | `(tactic| walk_at "wd") => `(tactic| first | with_reducible rfl | assumption | omega | decide | (refine cdivw_small ?_ ?_ <;> omega) | (refine cdivw_small ?_ ?_ <;> split <;> omega) | (refine cpow_small ?_ ?_ ?_ ?_ <;> omega) | (refine cmul_r ?_ ?_ <;> omega) | (refine cmul_l ?_ ?_ <;> omega) | (simp only [List.length_cons, List.length_nil, List.length_append, List.length_reverse, List.length_map, flat_len, Int.reduceToNat]; omega) | (simp only [sizeLine, List.length_cons, List.length_nil, List.length_append, List.length_reverse, List.length_map, flat_len, Int.reduceToNat]; omega))
local macro_rules | `(tactic| walk_at "ws") => `(tactic| repeat' (first | (with_reducible first | refine Stp.go ?_ | refine AndG.go (by first | decide | walk_at "wd") ?_ | refine StpI.go (fun _ => ?_) (fun z => absurd (by first | rfl | decide | omega | (simp only [List.length_cons, List.length_nil]; omega)) z) | refine StpI.go (fun z => absurd z (by first | decide | omega | (simp only [List.length_cons, List.length_nil]; omega))) (fun _ => ?_) | refine StpI.go (fun _ => ?_) (fun _ => ?_) | refine StpX.go _ (by walk_at "wx") ?_ | refine StpN.go _ (by walk_at "wd") (by walk_at "wpow") ?_ | refine StpZ.go _ (by with_unfolding_all rfl) ?_ | refine StpV.go _ _ (by with_unfolding_all rfl) (by with_unfolding_all rfl) ?_ | exact DnT.h) | intro _))
/-! ### the law -/
def AnyO (o : O) : Prop := notDeck o ∧ Nc 6 260 (fz o)
theorem any_int {i : Int} (h : i.natAbs < 10 ^ 58) : AnyO (.d (.int i)) := ⟨trivial, (nc_int h).mono (by omega) (by omega)⟩
theorem any_row {i : Int} {r : List Int} (hi : i ≤ 5) (hr : Ltr i r) (hl : r.length ≤ 16) : AnyO (.d (rowD r)) := ⟨trivial, nc_rowL hi hr (by omega)⟩
def m_law : WS := (wSeq (wAsg (as := [1, 2, 3, 4, 5, 6, 7, 8]) 1 (wCall C__law_deck [0] [(none, (wVar 0))]))
  (wSeq (wFor (wRng1 (wCons (wK (.int 10)) wNil)) (gNm [1, 2, 3, 4, 5, 6, 7, 8] 2)
  (wSeq (wPar [1, 2, 3, 4, 5, 6, 7, 8] [3, 4] [(none, (wBin mAdd (wK (.int 2)) (wCall C__law_draw [0, 1] [(some 1, wMove 1), (none, (wK (.int 4)))]))), (none, (wCall C__law_pick [0, 1] [(some 1, wMove 1), (none, (wLst (wCons (wK (.int 0)) (wCons (wK (.int 1)) (wCons (wK (.int 2)) (wCons (wK (.int 3)) (wCons (wK (.int 5)) (wCons (wK (.int 8)) (wCons (wK (.int 16)) wNil)))))))))]))])
  (wSeq (wPar [1, 2, 3, 4, 5, 6, 7, 8] [5, 6, 7] [(none, (wCall C__law_word [0, 1, 2] [(some 1, wMove 1), (none, (wVar 3)), (none, (wVar 4))])), (none, (wCall C__law_word [0, 1, 2] [(some 1, wMove 1), (none, (wVar 3)), (none, (wVar 4))])), (none, (wCall C__law_draw [0, 1] [(some 1, wMove 1), (none, (wVar 3))]))])
  (wSeq (wAsg (as := [1, 2, 3, 4, 5, 6, 7, 8]) 8 (wCall C__law_draw [0, 1] [(some 1, wMove 1), (none, (wK (.int 6)))]))
  (wSeq (wIfS (wBool (wEqVX Leq 8 (wK (.int 1))))
  (wAsg (as := [1, 2, 3, 4, 5, 6, 7, 8]) 5 (wCall C__law_bent [0, 1] [(some 1, wMove 1), (none, (wVar 5))]))
  wNext)
  (wSeq (wIfS (wBool (wEqVX Leq 8 (wK (.int 2))))
  (wAsg (as := [1, 2, 3, 4, 5, 6, 7, 8]) 6 (wCall C__law_bent [0, 1] [(some 1, wMove 1), (none, (wVar 6))]))
  wNext)
  (wSeq (wIfS (wBool (wEqVX Leq 8 (wK (.int 3))))
  (wPar [1, 2, 3, 4, 5, 6, 7, 8] [5, 6, 7] [(none, (wCall C__law_bent [0, 1] [(some 1, wMove 1), (none, (wVar 5))])), (none, (wCall C__law_bent [0, 1] [(some 1, wMove 1), (none, (wVar 6))])), (none, (wCall C__law_any [0, 1] [(some 1, wMove 1), (none, (wK (.int 1)))]))])
  wNext)
  (wSeq (wIfS (wBool (wEqVX Leq 8 (wK (.int 4))))
  (wSeq (wPar [1, 2, 3, 4, 5, 6, 7, 8] [3, 7] [(none, (wCall C__law_any [0, 1] [(some 1, wMove 1), (none, (wK (.int 2)))])), (none, (wCall C__law_pick [0, 1] [(some 1, wMove 1), (none, (wLst (wCons (wVar 7) (wCons (wK (.bl true)) (wCons (wVar 3) (wCons (wNeg (wK (.int 1))) wNil))))))]))])
  (wAsg (as := [1, 2, 3, 4, 5, 6, 7, 8]) 5 (wIf (wBool (wBin (mEq false) (wCall C__law_draw [0, 1] [(some 1, wMove 1), (none, (wK (.int 2)))]) (wK (.int 0)))) (wCall C__law_bent [0, 1] [(some 1, wMove 1), (none, (wVar 5))]) (wVar 5))))
  wNext)
  (wSeq (wIfS (wBool (wEqVX Leq 8 (wK (.int 5))))
  (wAsg (as := [1, 2, 3, 4, 5, 6, 7, 8]) 7 (wCall C__law_pick [0, 1] [(some 1, wMove 1), (none, (wLst (wCons (wVar 3) (wCons (wBin mAdd (wVar 3) (wK (.int 1))) (wCons (wNeg (wK (.int 1))) (wCons (wK (.bl true)) (wCons (wK (.bl false)) (wCons (wK .non) (wCons (wK (.str "1")) (wCons (wTup (wCons (wK (.int 1)) wNil)) (wCons (wLst (wCons (wK (.int 0)) wNil)) wNil)))))))))))]))
  wNext)
  (wIfS (wNotT (wTru (wCall C__law_is_right [0, 1, 2, 3] [(none, (wVar 3)), (none, (wVar 7)), (none, (wVar 5)), (none, (wVar 6))])))
  (wRet (wK (.bl false)))
  wNext))))))))))
  (wRet (wK (.bl true)))))
/-- what is drawn as it should be -/
structure Good (x : Int) (r s : List Int) (j : Int) : Prop where
  hx : 2 ≤ x ∧ x ≤ 5
  hr : Ltr x r
  hs : Ltr x s
  rl : r.length ≤ 16
  sl : s.length ≤ 16
  hj : 0 ≤ j ∧ j < x
def Pk (ns : List Int) (k : Int) (ρ : Sl) : Prop := ∃ (m : Nat × Addr) (o2 o4 : Option O) (o3 o5 o6 o7 : O) (w : Int), m.1 ≤ 63 ∧ ρ = [some (.d (.scr ns)), some (.deck m), o2, some o3, o4, some o5, some o6, some o7, some (.d (.int w))] ∧ AnyO o3 ∧ AnyO o5 ∧ AnyO o6 ∧ AnyO o7 ∧
  (k < w → ∃ x r s j, o3 = .d (.int x) ∧ o5 = .d (rowD r) ∧ o6 = .d (rowD s) ∧ o7 = .d (.int j) ∧ Good x r s j)
theorem pk_next {ns : List Int} {k : Int} {m : Nat × Addr} {o2 o4 : Option O} {o3 o5 o6 o7 : O} {w : Int} (hm : m.1 ≤ 63) (h3 : AnyO o3) (h5 : AnyO o5) (h6 : AnyO o6) (h7 : AnyO o7) (hk : k < w → ∃ x r s j, o3 = .d (.int x) ∧ o5 = .d (rowD r) ∧ o6 = .d (rowD s) ∧ o7 = .d (.int j) ∧ Good x r s j) : Pk ns k [some (.d (.scr ns)), some (.deck m), o2, some o3, o4, some o5, some o6, some o7, some (.d (.int w))] :=
  ⟨m, o2, o4, o3, o5, o6, o7, w, hm, rfl, h3, h5, h6, h7, hk⟩
theorem any_nc {d b : Nat} {x : D} (h : Nc d b x) (h1 : d ≤ 6) (h2 : b ≤ 260) : AnyO (.d x) := ⟨trivial, h.mono h1 h2⟩
theorem ok_law : ∀ os Qd Ed, os.length = 1 → lawC 63 os Qd Ed → m_law (slot0 9 os) (endOf [1, 2, 3, 4, 5, 6, 7, 8] 1 Qd Ed) := by
  rintro os Qd Ed - ⟨ns, rfl, hns, q⟩
  refine r_end ?_
  show m_law [some (.d (.scr ns)), none, none, none, none, none, none, none, none] _
  unfold m_law
  refine r_seq (r_asg (by decide) ?_)
  walk_at "ws"
  refine ⟨ns, rfl, fun m os' hm => ?_⟩
  refine r_pbA1 ?_
  refine r_pS (r_p0 ?_)
  refine r_seq (r_for ?_)
  walk_at "ws"
  rw [rng_map]
  refine for_fold D.int (fun _ _ => ()) (fun _ ρ => ∃ (m : Nat × Addr) (o2 o3 o4 o5 o6 o7 o8 : Option O), m.1 ≤ 63 ∧ ρ = [some (.d (.scr ns)), some (.deck m), o2, o3, o4, o5, o6, o7, o8]) _ () _ ⟨m, _, _, _, _, _, _, _, hm, rfl⟩ ?_ ?_
  · rintro t _ _ _ K ⟨m, o2, o3, o4, o5, o6, o7, o8, hm, rfl⟩ hgo
    refine r_gNm (by decide) (r_pS (r_pS (r_p0 ?_)))
    -- what is drawn
    refine r_cut3 (Pk ns 0) (fun K0 hK => ?_) ?_
    · walk_at "ws"
      refine c_draw hm (by omega) (by omega) fun x m1 o h1 h2 h3 => ?_
      walk_at "ws"
      refine c_pickL h3 (by simp) (by simp) fun y m2 o hy h4 => ?_
      obtain ⟨n, rfl, hn⟩ : ∃ n : Int, y = .int n ∧ 0 ≤ n ∧ n ≤ 16 := by
        simp only [List.mem_cons, List.not_mem_nil, or_false] at hy
        rcases hy with rfl | rfl | rfl | rfl | rfl | rfl | rfl <;> exact ⟨_, rfl, by omega, by omega⟩
      walk_at "ws"
      refine ⟨m2, 2 + x, n, rfl, h4, ⟨by omega, by omega⟩, hn, fun r m3 o o' h5 h6 h7 => ?_⟩
      walk_at "ws"
      refine ⟨m3, 2 + x, n, rfl, h5, ⟨by omega, by omega⟩, hn, fun s m4 o o' h8 h9 h10 => ?_⟩
      walk_at "ws"
      refine c_draw h8 (by omega) (by omega) fun j m5 o h11 h12 h13 => ?_
      walk_at "ws"
      refine c_draw h13 (by omega) (by omega) fun w m6 o h14 h15 h16 => ?_
      walk_at "ws"
      exact hK _ (pk_next h16 (any_int (by omega)) (any_row (by omega) h6 h7) (any_row (by omega) h9 h10) (any_int (by omega)) fun _ => ⟨_, _, _, _, rfl, rfl, rfl, rfl, ⟨by omega, by omega⟩, h6, h9, h7, h10, h11, h12⟩)
    rintro _ ⟨m, o2, o4, o3, o5, o6, o7, w, hm, rfl, a3, a5, a6, a7, hk⟩
    refine r_cut (Pk ns 1) (fun K0 hK => ?_) ?_
    · walk_at "ws"
      · rename_i hw
        obtain ⟨x, r, s, j, rfl, rfl, rfl, rfl, g⟩ := hk (by omega)
        walk_at "ws"
        refine ⟨m, x, r, rfl, hm, g.hx.2, g.hr, g.rl, fun o m1 o' ho hn h1 => ?_⟩
        walk_at "ws"
        exact hK _ (pk_next h1 a3 ⟨ho, hn⟩ a6 a7 fun z => absurd z (by omega))
      · rename_i hw
        exact hK _ (pk_next hm a3 a5 a6 a7 fun z => hk (by omega))
    rintro _ ⟨m, o2, o4, o3, o5, o6, o7, w, hm, rfl, a3, a5, a6, a7, hk⟩
    refine r_cut (Pk ns 2) (fun K0 hK => ?_) ?_
    · walk_at "ws"
      · rename_i hw
        obtain ⟨x, r, s, j, rfl, rfl, rfl, rfl, g⟩ := hk (by omega)
        walk_at "ws"
        refine ⟨m, x, s, rfl, hm, g.hx.2, g.hs, g.sl, fun o m1 o' ho hn h1 => ?_⟩
        walk_at "ws"
        exact hK _ (pk_next h1 a3 a5 ⟨ho, hn⟩ a7 fun z => absurd z (by omega))
      · rename_i hw
        exact hK _ (pk_next hm a3 a5 a6 a7 fun z => hk (by omega))
    rintro _ ⟨m, o2, o4, o3, o5, o6, o7, w, hm, rfl, a3, a5, a6, a7, hk⟩
    refine r_cut (Pk ns 3) (fun K0 hK => ?_) ?_
    · walk_at "ws"
      · rename_i hw
        obtain ⟨x, r, s, j, rfl, rfl, rfl, rfl, g⟩ := hk (by omega)
        walk_at "ws"
        refine ⟨m, x, r, rfl, hm, g.hx.2, g.hr, g.rl, fun o m1 o' ho hn h1 => ?_⟩
        walk_at "ws"
        refine ⟨m1, x, s, rfl, h1, g.hx.2, g.hs, g.sl, fun o2' m2 o' ho2 hn2 h2 => ?_⟩
        walk_at "ws"
        refine c_any (by omega) h2 fun o3' m3 o' ho3 hn3 h4 => ?_
        walk_at "ws"
        exact hK _ (pk_next h4 a3 ⟨ho, hn⟩ ⟨ho2, hn2⟩ ⟨ho3, hn3⟩ fun z => absurd z (by omega))
      · rename_i hw
        exact hK _ (pk_next hm a3 a5 a6 a7 fun z => hk (by omega))
    rintro _ ⟨m, o2, o4, o3, o5, o6, o7, w, hm, rfl, a3, a5, a6, a7, hk⟩
    refine r_cut (Pk ns 4) (fun K0 hK => ?_) ?_
    · walk_at "ws"
      · rename_i hw
        obtain ⟨x, r, s, j, rfl, rfl, rfl, rfl, g⟩ := hk (by omega)
        walk_at "ws"
        refine c_any (by omega) hm fun o3' m3 o' ho3 hn3 h4 => ?_
        walk_at "ws"
        refine c_pickL h4 (by simp) (by simp) fun y m2 o hy h5 => ?_
        have hny : AnyO (.d y) := by
          simp only [List.mem_cons, List.not_mem_nil, or_false] at hy
          have := g.hx
          have := g.hj
          rcases hy with rfl | rfl | rfl | rfl
          · exact any_int (by omega)
          · exact any_nc (nc_bl _) (by omega) (by omega)
          · exact any_int (by omega)
          · exact any_int (by omega)
        walk_at "ws"
        refine c_draw h5 (by omega) (by omega) fun z m6 o h14 h15 h16 => ?_
        walk_at "ws"
        · refine ⟨m6, x, r, rfl, h16, g.hx.2, g.hr, g.rl, fun o m1 o' ho hn h1 => ?_⟩
          walk_at "ws"
          exact hK _ (pk_next h1 ⟨ho3, hn3⟩ ⟨ho, hn⟩ a6 hny fun z => absurd z (by omega))
        · exact hK _ (pk_next h16 ⟨ho3, hn3⟩ a5 a6 hny fun z => absurd z (by omega))
      · rename_i hw
        exact hK _ (pk_next hm a3 a5 a6 a7 fun z => hk (by omega))
    rintro _ ⟨m, o2, o4, o3, o5, o6, o7, w, hm, rfl, a3, a5, a6, a7, hk⟩
    refine r_cut (Pk ns 5) (fun K0 hK => ?_) ?_
    · walk_at "ws"
      · rename_i hw
        obtain ⟨x, r, s, j, rfl, rfl, rfl, rfl, g⟩ := hk (by omega)
        walk_at "ws"
        refine c_pickL hm (by simp) (by simp) fun y m2 o hy h5 => ?_
        have hny : AnyO (.d y) := by
          have gx := g.hx
          have e : x = 2 ∨ x = 3 ∨ x = 4 ∨ x = 5 := by omega
          refine any_nc (d := 2) (b := 20) ?_ (by omega) (by omega)
          rcases e with rfl | rfl | rfl | rfl <;> exact nc_alls (by decide +kernel) y hy
        walk_at "ws"
        exact hK _ (pk_next h5 a3 a5 a6 hny fun z => absurd z (by omega))
      · rename_i hw
        exact hK _ (pk_next hm a3 a5 a6 a7 fun z => hk (by omega))
    rintro _ ⟨m, o2, o4, o3, o5, o6, o7, w, hm, rfl, a3, a5, a6, a7, hk⟩
    walk_at "ws"
    refine r_vkA a3.1 rfl ?_
    walk_at "ws"
    refine r_vkA a7.1 rfl ?_
    walk_at "ws"
    refine r_vkA a5.1 rfl ?_
    walk_at "ws"
    refine r_vkA a6.1 rfl ?_
    walk_at "ws"
    refine ⟨_, _, _, _, rfl, a3.2, a7.2, a5.2, a6.2, fun os' => ?_⟩
    walk_at "ws"
    exact hgo _ ⟨_, _, _, _, _, _, _, _, hm, rfl⟩
  rintro _ ⟨m, o2, o3, o4, o5, o6, o7, o8, hm, rfl⟩
  walk_at "ws"
  exact q _
end Pv

set_option Elab.async false
set_option maxRecDepth 100000
set_option maxHeartbeats 4000000
set_option autoImplicit false
set_option linter.unusedVariables false
namespace Pv
open PySem L2
local macro_rules | `(tactic| walk_at "wpow") => `(tactic| (simp only [Int.reduceToNat, Int.reducePow]; rfl))
local macro_rules | `(tactic| walk_at "wx") => `(tactic| first | rfl | assumption | with_unfolding_all rfl)
local macro_rules | `(tactic| walk_at "wd") => `(tactic| first | with_reducible rfl | assumption | omega | decide | (refine cdivw_small ?_ ?_ <;> omega) | (refine cdivw_small ?_ ?_ <;> split <;> omega) | (refine cpow_small ?_ ?_ ?_ ?_ <;> omega) | (refine cmul_r ?_ ?_ <;> omega) | (refine cmul_l ?_ ?_ <;> omega) | (simp only [List.length_cons, List.length_nil, List.length_append, List.length_reverse, List.length_map, flat_len, Int.reduceToNat]; omega) | (simp only [sizeLine, List.length_cons, List.length_nil, List.length_append, List.length_reverse, List.length_map, flat_len, Int.reduceToNat]; omega))
local macro_rules | `(tactic| walk_at "ws") => `(tactic| repeat' (first | (with_reducible first | refine Stp.go ?_ | refine AndG.go (by first | decide | walk_at "wd") ?_ | refine StpI.go (fun _ => ?_) (fun z => absurd (by first | rfl | decide | omega | (simp only [List.length_cons, List.length_nil]; omega)) z) | refine StpI.go (fun z => absurd z (by first | decide | omega | (simp only [List.length_cons, List.length_nil]; omega))) (fun _ => ?_) | refine StpI.go (fun _ => ?_) (fun _ => ?_) | refine StpX.go _ (by walk_at "wx") ?_ | refine StpN.go _ (by walk_at "wd") (by walk_at "wpow") ?_ | refine StpZ.go _ (by with_unfolding_all rfl) ?_ | refine StpV.go _ _ (by with_unfolding_all rfl) (by with_unfolding_all rfl) ?_ | exact DnT.h) | intro _))
/-! ### the law's text by places -/
def topS (i : Nat) : Stmt := PySem.Challenge.pw_mirrorbook_k05_words_and_their_products.main.body.getD i (.Pass ⟨0, 0, 0, 0⟩)
def Ler : Str → Option Str := fun x => if x = "BadField" then some "thing" else if x = "BadLetter" then some "thing" else if x = "BadWord" then some "thing" else none
def Lxc : Str → Bool := fun x => decide (x = "BadField") || (decide (x = "BadLetter") || (decide (x = "BadWord") || false))
def Lio : Str → Bool := fun x => false
def Lgv : Str → Option D := fun x => if x = "TIMES_FOUR" then some T_TIMES_FOUR else none
def LbiL : List Str := ["all", "bool", "enumerate", "int", "isinstance", "len", "list", "max", "range", "repr", "tuple", "zip"]
def Lbi : Str → Bool := fun x => LbiL.contains x
def c0 (N : List Str) (sc : Scope) (as bor dk : List Nat) (eq : Str → Option Ct) (cm : Str → Option Fn) (fn : Str → Option Fn) (lm : Option (Nat × Addr × Hp × LamC)) (lf : Str → Option CtL) (kb : Nat) : Cs :=
  { N := N, sc := sc, as := as, bor := bor, wr := fun _ => true, er := Ler, sub := Lsub, xc := Lxc, ic := Lic, io := Lio, isub := Lisub, fa := Lfa, cm := cm, eq := eq, dk := dk, dl := false, dc := true, fn := fn, gv := Lgv, bi := Lbi, lm := lm, lf := lf, kb := kb }
abbrev st__law_deck : Stmt := topS 27
def N__law_deck : List Str := ["_law_script", "_law_mixed", "_law_cell"]
def F__law_deck : Fn := ⟨["_law_script"], C__law_deck, [(1, [], [0])]⟩
theorem sc__law_deck : FnScope N__law_deck F__law_deck.ps (defScope st__law_deck) := ⟨rfl, rfl, rfl, by decide +kernel, rfl, by decide +kernel, by decide +kernel⟩
def c__law_deck : Cs := c0 N__law_deck (defScope st__law_deck) [1, 2] [] [] (fun _ => none) (fun _ => none) (fnL []) none (fun _ => none) 1
theorem sh__law_deck : ShpOk "_law_deck" "_law_deck" st__law_deck F__law_deck := by
  intro s hs
  simp only [F__law_deck, List.mem_cons, List.not_mem_nil, or_false] at hs
  rcases hs with rfl
  · exact fun _ _ _ _ _ _ us ws hu hw => match us, ws, hu, hw with | [_], [], _, _ => rfl
theorem hm__law_deck : evSs (evS (ev 30) c__law_deck 14) (defBody st__law_deck) = m__law_deck := by kernel_rfl
abbrev st__law_draw : Stmt := topS 28
def N__law_draw : List Str := ["_law_deck_here", "_law_many", "_law_number", "_law_cell"]
def F__law_draw : Fn := ⟨["_law_deck_here", "_law_many"], C__law_draw, [(2, [], [0, 1])]⟩
theorem sc__law_draw : FnScope N__law_draw F__law_draw.ps (defScope st__law_draw) := ⟨rfl, rfl, rfl, by decide +kernel, rfl, by decide +kernel, by decide +kernel⟩
def c__law_draw : Cs := c0 N__law_draw (defScope st__law_draw) [2, 3] [0] [0] (fun _ => none) (fun _ => none) (fnL []) none (fun _ => none) 1
theorem sh__law_draw : ShpOk "_law_draw" "_law_draw" st__law_draw F__law_draw := by
  intro s hs
  simp only [F__law_draw, List.mem_cons, List.not_mem_nil, or_false] at hs
  rcases hs with rfl
  · exact fun _ _ _ _ _ _ us ws hu hw => match us, ws, hu, hw with | [_, _], [], _, _ => rfl
theorem hm__law_draw : evSs (evS (ev 30) c__law_draw 14) (defBody st__law_draw) = m__law_draw := by kernel_rfl
abbrev st__law_pick : Stmt := topS 29
def N__law_pick : List Str := ["_law_deck_here", "_law_some"]
def F__law_pick : Fn := ⟨["_law_deck_here", "_law_some"], C__law_pick, [(2, [], [0, 1])]⟩
theorem sc__law_pick : FnScope N__law_pick F__law_pick.ps (defScope st__law_pick) := ⟨rfl, rfl, rfl, by decide +kernel, rfl, by decide +kernel, by decide +kernel⟩
def c__law_pick : Cs := c0 N__law_pick (defScope st__law_pick) [] [0] [0] (fun _ => none) (fun _ => none) (fnL [("_law_draw", F__law_draw)]) none (fun _ => none) 2
theorem sh__law_pick : ShpOk "_law_pick" "_law_pick" st__law_pick F__law_pick := by
  intro s hs
  simp only [F__law_pick, List.mem_cons, List.not_mem_nil, or_false] at hs
  rcases hs with rfl
  · exact fun _ _ _ _ _ _ us ws hu hw => match us, ws, hu, hw with | [_, _], [], _, _ => rfl
theorem hm__law_pick : evSs (evS (ev 30) c__law_pick 14) (defBody st__law_pick) = m__law_pick := by kernel_rfl
abbrev st__law_word : Stmt := topS 38
def N__law_word : List Str := ["_law_deck_here", "_law_q", "_law_many", "_law_way", "_law_some", "_law_at", "_law_x"]
def F__law_word : Fn := ⟨["_law_deck_here", "_law_q", "_law_many"], C__law_word, [(3, [], [0, 1, 2])]⟩
theorem sc__law_word : FnScope N__law_word F__law_word.ps (defScope st__law_word) := ⟨rfl, rfl, rfl, by decide +kernel, rfl, by decide +kernel, by decide +kernel⟩
def c__law_word : Cs := c0 N__law_word (defScope st__law_word) [3, 4] [0] [0] (fun _ => none) (fun _ => none) (fnL [("_law_draw", F__law_draw)]) none (fun _ => none) 2
theorem sh__law_word : ShpOk "_law_word" "_law_word" st__law_word F__law_word := by
  intro s hs
  simp only [F__law_word, List.mem_cons, List.not_mem_nil, or_false] at hs
  rcases hs with rfl
  · exact fun _ _ _ _ _ _ us ws hu hw => match us, ws, hu, hw with | [_, _, _], [], _, _ => rfl
theorem hm__law_word : evSs (evS (ev 30) c__law_word 14) (defBody st__law_word) = m__law_word := by kernel_rfl
abbrev st__law_any : Stmt := topS 30
def N__law_any : List Str := ["_law_deck_here", "_law_deep", "_law_way", "_law_some", "_law_turn"]
def F__law_any0 : Fn := ⟨["_law_deck_here", "_law_deep"], Cany_, [(2, [], [0, 1])]⟩
def F__law_any1 : Fn := ⟨["_law_deck_here", "_law_deep"], Cany0, [(2, [], [0, 1])]⟩
def F__law_any2 : Fn := ⟨["_law_deck_here", "_law_deep"], Cany1, [(2, [], [0, 1])]⟩
def F__law_any3 : Fn := ⟨["_law_deck_here", "_law_deep"], Cany2, [(2, [], [0, 1])]⟩
theorem sc__law_any : FnScope N__law_any F__law_any0.ps (defScope st__law_any) := ⟨rfl, rfl, rfl, by decide +kernel, rfl, by decide +kernel, by decide +kernel⟩
theorem sh__law_any0 : ShpOk "_law_any" "_law_any" st__law_any F__law_any0 := by
  intro s hs
  simp only [F__law_any0, List.mem_cons, List.not_mem_nil, or_false] at hs
  rcases hs with rfl
  · exact fun _ _ _ _ _ _ us ws hu hw => match us, ws, hu, hw with | [_, _], [], _, _ => rfl
theorem sh__law_any1 : ShpOk "_law_any" "_law_any" st__law_any F__law_any1 := by
  intro s hs
  simp only [F__law_any1, List.mem_cons, List.not_mem_nil, or_false] at hs
  rcases hs with rfl
  · exact fun _ _ _ _ _ _ us ws hu hw => match us, ws, hu, hw with | [_, _], [], _, _ => rfl
def c__law_any1 : Cs := c0 N__law_any (defScope st__law_any) [2, 3] [0] [0] (fun _ => none) (fun _ => none) (fnL [("_law_draw", F__law_draw), ("_law_pick", F__law_pick), ("_law_any", F__law_any0)]) none (fun _ => none) 3
theorem hm__law_any1 : evSs (evS (ev 30) c__law_any1 14) (defBody st__law_any) = m__law_any Cany_ := by kernel_rfl
theorem sh__law_any2 : ShpOk "_law_any" "_law_any" st__law_any F__law_any2 := by
  intro s hs
  simp only [F__law_any2, List.mem_cons, List.not_mem_nil, or_false] at hs
  rcases hs with rfl
  · exact fun _ _ _ _ _ _ us ws hu hw => match us, ws, hu, hw with | [_, _], [], _, _ => rfl
def c__law_any2 : Cs := c0 N__law_any (defScope st__law_any) [2, 3] [0] [0] (fun _ => none) (fun _ => none) (fnL [("_law_draw", F__law_draw), ("_law_pick", F__law_pick), ("_law_any", F__law_any1)]) none (fun _ => none) 4
theorem hm__law_any2 : evSs (evS (ev 30) c__law_any2 14) (defBody st__law_any) = m__law_any Cany0 := by kernel_rfl
theorem sh__law_any3 : ShpOk "_law_any" "_law_any" st__law_any F__law_any3 := by
  intro s hs
  simp only [F__law_any3, List.mem_cons, List.not_mem_nil, or_false] at hs
  rcases hs with rfl
  · exact fun _ _ _ _ _ _ us ws hu hw => match us, ws, hu, hw with | [_, _], [], _, _ => rfl
def c__law_any3 : Cs := c0 N__law_any (defScope st__law_any) [2, 3] [0] [0] (fun _ => none) (fun _ => none) (fnL [("_law_draw", F__law_draw), ("_law_pick", F__law_pick), ("_law_any", F__law_any2)]) none (fun _ => none) 5
theorem hm__law_any3 : evSs (evS (ev 30) c__law_any3 14) (defBody st__law_any) = m__law_any Cany1 := by kernel_rfl
abbrev st__law_bent : Stmt := topS 39
def N__law_bent : List Str := ["_law_deck_here", "_law_word_here", "_law_way", "_law_at", "_law_strange"]
def F__law_bent : Fn := ⟨["_law_deck_here", "_law_word_here"], C__law_bent, [(2, [], [0, 1])]⟩
theorem sc__law_bent : FnScope N__law_bent F__law_bent.ps (defScope st__law_bent) := ⟨rfl, rfl, rfl, by decide +kernel, rfl, by decide +kernel, by decide +kernel⟩
def c__law_bent : Cs := c0 N__law_bent (defScope st__law_bent) [2, 3, 4] [0] [0] (fun _ => none) (fun _ => none) (fnL [("_law_draw", F__law_draw), ("_law_any", F__law_any3), ("_law_pick", F__law_pick)]) none (fun _ => none) 6
theorem sh__law_bent : ShpOk "_law_bent" "_law_bent" st__law_bent F__law_bent := by
  intro s hs
  simp only [F__law_bent, List.mem_cons, List.not_mem_nil, or_false] at hs
  rcases hs with rfl
  · exact fun _ _ _ _ _ _ us ws hu hw => match us, ws, hu, hw with | [_, _], [], _, _ => rfl
theorem hm__law_bent : evSs (evS (ev 30) c__law_bent 14) (defBody st__law_bent) = m__law_bent := by kernel_rfl
abbrev st__law_is_letter : Stmt := topS 31
def N__law_is_letter : List Str := ["_law_q", "_law_thing"]
def F__law_is_letter : Fn := ⟨["_law_q", "_law_thing"], C__law_is_letter, [(2, [], [0, 1])]⟩
theorem sc__law_is_letter : FnScope N__law_is_letter F__law_is_letter.ps (defScope st__law_is_letter) := ⟨rfl, rfl, rfl, by decide +kernel, rfl, by decide +kernel, by decide +kernel⟩
def c__law_is_letter : Cs := c0 N__law_is_letter (defScope st__law_is_letter) [] [] [] (fun _ => none) (fun _ => none) (fnL []) none (fun _ => none) 1
theorem sh__law_is_letter : ShpOk "_law_is_letter" "_law_is_letter" st__law_is_letter F__law_is_letter := by
  intro s hs
  simp only [F__law_is_letter, List.mem_cons, List.not_mem_nil, or_false] at hs
  rcases hs with rfl
  · exact fun _ _ _ _ _ _ us ws hu hw => match us, ws, hu, hw with | [_, _], [], _, _ => rfl
theorem hm__law_is_letter : evSs (evS (ev 30) c__law_is_letter 14) (defBody st__law_is_letter) = m__law_is_letter := by kernel_rfl
abbrev st__law_is_word : Stmt := topS 32
def N__law_is_word : List Str := ["_law_q", "_law_thing", "_law_x"]
def F__law_is_word : Fn := ⟨["_law_q", "_law_thing"], C__law_is_word, [(2, [], [0, 1])]⟩
theorem sc__law_is_word : FnScope N__law_is_word F__law_is_word.ps (defScope st__law_is_word) := ⟨rfl, rfl, rfl, by decide +kernel, rfl, by decide +kernel, by decide +kernel⟩
def c__law_is_word : Cs := c0 N__law_is_word (defScope st__law_is_word) [] [] [] (fun _ => none) (fun _ => none) (fnL [("_law_is_letter", F__law_is_letter)]) none (fun _ => none) 2
theorem sh__law_is_word : ShpOk "_law_is_word" "_law_is_word" st__law_is_word F__law_is_word := by
  intro s hs
  simp only [F__law_is_word, List.mem_cons, List.not_mem_nil, or_false] at hs
  rcases hs with rfl
  · exact fun _ _ _ _ _ _ us ws hu hw => match us, ws, hu, hw with | [_, _], [], _, _ => rfl
theorem hm__law_is_word : evSs (evS (ev 30) c__law_is_word 14) (defBody st__law_is_word) = m__law_is_word := by kernel_rfl
abbrev st__law_wrong : Stmt := topS 36
def N__law_wrong : List Str := ["_law_q", "_law_letter", "_law_words", "_law_word_here"]
def F__law_wrong : Fn := ⟨["_law_q", "_law_letter", "_law_words"], C__law_wrong, [(3, [], [0, 1, 2])]⟩
theorem sc__law_wrong : FnScope N__law_wrong F__law_wrong.ps (defScope st__law_wrong) := ⟨rfl, rfl, rfl, by decide +kernel, rfl, by decide +kernel, by decide +kernel⟩
def c__law_wrong : Cs := c0 N__law_wrong (defScope st__law_wrong) [3] [] [] (fun _ => none) (fun _ => none) (fnL [("_law_is_letter", F__law_is_letter), ("_law_is_word", F__law_is_word)]) none (fun _ => none) 3
theorem sh__law_wrong : ShpOk "_law_wrong" "_law_wrong" st__law_wrong F__law_wrong := by
  intro s hs
  simp only [F__law_wrong, List.mem_cons, List.not_mem_nil, or_false] at hs
  rcases hs with rfl
  · exact fun _ _ _ _ _ _ us ws hu hw => match us, ws, hu, hw with | [_, _, _], [], _, _ => rfl
theorem hm__law_wrong : evSs (evS (ev 30) c__law_wrong 14) (defBody st__law_wrong) = m__law_wrong := by kernel_rfl
abbrev st__law_told : Stmt := topS 35
def N__law_told : List Str := ["_law_deed", "e"]
def F__law_told : Fn := ⟨["_law_deed"], (fun _ _ _ => False), [(1, [], [0])]⟩
theorem sc__law_told : FnScope N__law_told ["_law_deed"] (defScope st__law_told) := ⟨rfl, rfl, rfl, by decide +kernel, rfl, by decide +kernel, by decide +kernel⟩
def c__law_told (f : Addr) (F0 : Hp) (L : LamC) : Cs := c0 N__law_told (defScope st__law_told) [1] [] [] (fun _ => none) (fun _ => none) (fnL []) (some (0, f, F0, L)) (fun _ => none) 7
theorem sh__law_told : ShpOk "_law_told" "_law_told" st__law_told F__law_told := by
  intro s hs
  simp only [F__law_told, List.mem_cons, List.not_mem_nil, or_false] at hs
  rcases hs with rfl
  · exact fun _ _ _ _ _ _ us ws hu hw => match us, ws, hu, hw with | [_], [], _, _ => rfl
theorem hm__law_told (f : Addr) (F0 : Hp) (L : LamC) : evSs (evS (ev 30) (c__law_told f F0 L) 14) (defBody st__law_told) = m__law_told f F0 L := by kernel_rfl
abbrev st_is_integer : Stmt := topS 1
def N_is_integer : List Str := ["thing"]
def F_is_integer : Fn := ⟨["thing"], C_is_integer, [(1, [], [0])]⟩
theorem sc_is_integer : FnScope N_is_integer F_is_integer.ps (defScope st_is_integer) := ⟨rfl, rfl, rfl, by decide +kernel, rfl, by decide +kernel, by decide +kernel⟩
def c_is_integer : Cs := c0 N_is_integer (defScope st_is_integer) [] [] [] (fun _ => none) (fun _ => none) (fnL []) none (fun _ => none) 1
theorem sh_is_integer : ShpOk "is_integer" "is_integer" st_is_integer F_is_integer := by
  intro s hs
  simp only [F_is_integer, List.mem_cons, List.not_mem_nil, or_false] at hs
  rcases hs with rfl
  · exact fun _ _ _ _ _ _ us ws hu hw => match us, ws, hu, hw with | [_], [], _, _ => rfl
theorem hm_is_integer : evSs (evS (ev 30) c_is_integer 14) (defBody st_is_integer) = m_is_integer := by kernel_rfl
abbrev st_is_between : Stmt := topS 2
def N_is_between : List Str := ["thing", "low", "high"]
def F_is_between : Fn := ⟨["thing", "low", "high"], C_is_between, [(3, [], [0, 1, 2])]⟩
theorem sc_is_between : FnScope N_is_between F_is_between.ps (defScope st_is_between) := ⟨rfl, rfl, rfl, by decide +kernel, rfl, by decide +kernel, by decide +kernel⟩
def c_is_between : Cs := c0 N_is_between (defScope st_is_between) [] [] [] (fun _ => none) (fun _ => none) (fnL [("is_integer", F_is_integer)]) none (fun _ => none) 2
theorem sh_is_between : ShpOk "is_between" "is_between" st_is_between F_is_between := by
  intro s hs
  simp only [F_is_between, List.mem_cons, List.not_mem_nil, or_false] at hs
  rcases hs with rfl
  · exact fun _ _ _ _ _ _ us ws hu hw => match us, ws, hu, hw with | [_, _, _], [], _, _ => rfl
theorem hm_is_between : evSs (evS (ev 30) c_is_between 14) (defBody st_is_between) = m_is_between := by kernel_rfl
abbrev st_need_field : Stmt := topS 18
def N_need_field : List Str := ["q"]
def F_need_field : Fn := ⟨["q"], C_need_field, [(1, [], [0])]⟩
theorem sc_need_field : FnScope N_need_field F_need_field.ps (defScope st_need_field) := ⟨rfl, rfl, rfl, by decide +kernel, rfl, by decide +kernel, by decide +kernel⟩
def c_need_field : Cs := c0 N_need_field (defScope st_need_field) [] [] [] (fun _ => none) (fun _ => none) (fnL [("is_between", F_is_between)]) none (fun _ => none) 3
theorem sh_need_field : ShpOk "need_field" "need_field" st_need_field F_need_field := by
  intro s hs
  simp only [F_need_field, List.mem_cons, List.not_mem_nil, or_false] at hs
  rcases hs with rfl
  · exact fun _ _ _ _ _ _ us ws hu hw => match us, ws, hu, hw with | [_], [], _, _ => rfl
theorem hm_need_field : evSs (evS (ev 30) c_need_field 14) (defBody st_need_field) = m_need_field := by kernel_rfl
abbrev st_is_letters : Stmt := topS 3
def N_is_letters : List Str := ["q", "n", "thing", "letter"]
def F_is_letters : Fn := ⟨["q", "n", "thing"], C_is_letters, [(3, [], [0, 1, 2])]⟩
theorem sc_is_letters : FnScope N_is_letters F_is_letters.ps (defScope st_is_letters) := ⟨rfl, rfl, rfl, by decide +kernel, rfl, by decide +kernel, by decide +kernel⟩
def c_is_letters : Cs := c0 N_is_letters (defScope st_is_letters) [] [] [] (fun _ => none) (fun _ => none) (fnL [("is_between", F_is_between)]) none (fun _ => none) 3
theorem sh_is_letters : ShpOk "is_letters" "is_letters" st_is_letters F_is_letters := by
  intro s hs
  simp only [F_is_letters, List.mem_cons, List.not_mem_nil, or_false] at hs
  rcases hs with rfl
  · exact fun _ _ _ _ _ _ us ws hu hw => match us, ws, hu, hw with | [_, _, _], [], _, _ => rfl
theorem hm_is_letters : evSs (evS (ev 30) c_is_letters 14) (defBody st_is_letters) = m_is_letters := by kernel_rfl
abbrev st_need_words : Stmt := topS 20
def N_need_words : List Str := ["q", "things", "thing"]
def F_need_words : Fn := ⟨["q", "things"], C_need_words, [(2, [], [0, 1])]⟩
theorem sc_need_words : FnScope N_need_words F_need_words.ps (defScope st_need_words) := ⟨rfl, rfl, rfl, by decide +kernel, rfl, by decide +kernel, by decide +kernel⟩
def c_need_words : Cs := c0 N_need_words (defScope st_need_words) [2] [] [] (fun _ => none) (fun _ => none) (fnL [("is_letters", F_is_letters)]) none (fun _ => none) 4
theorem sh_need_words : ShpOk "need_words" "need_words" st_need_words F_need_words := by
  intro s hs
  simp only [F_need_words, List.mem_cons, List.not_mem_nil, or_false] at hs
  rcases hs with rfl
  · exact fun _ _ _ _ _ _ us ws hu hw => match us, ws, hu, hw with | [_, _], [], _, _ => rfl
theorem hm_need_words : evSs (evS (ev 30) c_need_words 14) (defBody st_need_words) = m_need_words := by kernel_rfl
abbrev st_letter_sum : Stmt := topS 11
def N_letter_sum : List Str := ["q", "one", "other"]
def F_letter_sum : Fn := ⟨["q", "one", "other"], C_letter_sum, [(3, [], [0, 1, 2])]⟩
theorem sc_letter_sum : FnScope N_letter_sum F_letter_sum.ps (defScope st_letter_sum) := ⟨rfl, rfl, rfl, by decide +kernel, rfl, by decide +kernel, by decide +kernel⟩
def c_letter_sum : Cs := c0 N_letter_sum (defScope st_letter_sum) [] [] [] (fun _ => none) (fun _ => none) (fnL []) none (fun _ => none) 1
theorem sh_letter_sum : ShpOk "letter_sum" "letter_sum" st_letter_sum F_letter_sum := by
  intro s hs
  simp only [F_letter_sum, List.mem_cons, List.not_mem_nil, or_false] at hs
  rcases hs with rfl
  · exact fun _ _ _ _ _ _ us ws hu hw => match us, ws, hu, hw with | [_, _, _], [], _, _ => rfl
theorem hm_letter_sum : evSs (evS (ev 30) c_letter_sum 14) (defBody st_letter_sum) = m_letter_sum := by kernel_rfl
abbrev st_row_sum : Stmt := topS 13
def N_row_sum : List Str := ["q", "one", "other", "near", "far"]
def F_row_sum : Fn := ⟨["q", "one", "other"], C_row_sum, [(3, [], [0, 1, 2])]⟩
theorem sc_row_sum : FnScope N_row_sum F_row_sum.ps (defScope st_row_sum) := ⟨rfl, rfl, rfl, by decide +kernel, rfl, by decide +kernel, by decide +kernel⟩
def c_row_sum : Cs := c0 N_row_sum (defScope st_row_sum) [] [] [] (fun _ => none) (fun _ => none) (fnL [("letter_sum", F_letter_sum)]) none (fun _ => none) 2
theorem sh_row_sum : ShpOk "row_sum" "row_sum" st_row_sum F_row_sum := by
  intro s hs
  simp only [F_row_sum, List.mem_cons, List.not_mem_nil, or_false] at hs
  rcases hs with rfl
  · exact fun _ _ _ _ _ _ us ws hu hw => match us, ws, hu, hw with | [_, _, _], [], _, _ => rfl
theorem hm_row_sum : evSs (evS (ev 30) c_row_sum 14) (defBody st_row_sum) = m_row_sum := by kernel_rfl
abbrev st_word_sum : Stmt := topS 21
def N_word_sum : List Str := ["q", "one", "other"]
def F_word_sum : Fn := ⟨["q", "one", "other"], C_word_sum, [(0, ["other", "q", "one"], [1, 2, 0]), (3, [], [0, 1, 2])]⟩
theorem sc_word_sum : FnScope N_word_sum F_word_sum.ps (defScope st_word_sum) := ⟨rfl, rfl, rfl, by decide +kernel, rfl, by decide +kernel, by decide +kernel⟩
def c_word_sum : Cs := c0 N_word_sum (defScope st_word_sum) [] [] [] (fun _ => none) (fun _ => none) (fnL [("need_field", F_need_field), ("need_words", F_need_words), ("row_sum", F_row_sum)]) none (fun _ => none) 5
theorem sh_word_sum : ShpOk "word_sum" "word_sum" st_word_sum F_word_sum := by
  intro s hs
  simp only [F_word_sum, List.mem_cons, List.not_mem_nil, or_false] at hs
  rcases hs with rfl | rfl
  · exact fun _ _ _ _ _ _ us ws hu hw => match us, ws, hu, hw with | [], [_, _, _], _, _ => rfl
  · exact fun _ _ _ _ _ _ us ws hu hw => match us, ws, hu, hw with | [_, _, _], [], _, _ => rfl
theorem hm_word_sum : evSs (evS (ev 30) c_word_sum 14) (defBody st_word_sum) = m_word_sum := by kernel_rfl
abbrev st__law_plus : Stmt := topS 34
def N__law_plus : List Str := ["_law_q", "_law_one", "_law_other", "_law_x", "_law_y"]
def F__law_plus : Fn := ⟨["_law_q", "_law_one", "_law_other"], C__law_plus, [(3, [], [0, 1, 2])]⟩
theorem sc__law_plus : FnScope N__law_plus F__law_plus.ps (defScope st__law_plus) := ⟨rfl, rfl, rfl, by decide +kernel, rfl, by decide +kernel, by decide +kernel⟩
def c__law_plus : Cs := c0 N__law_plus (defScope st__law_plus) [] [] [] (fun _ => none) (fun _ => none) (fnL []) none (fun _ => none) 1
theorem sh__law_plus : ShpOk "_law_plus" "_law_plus" st__law_plus F__law_plus := by
  intro s hs
  simp only [F__law_plus, List.mem_cons, List.not_mem_nil, or_false] at hs
  rcases hs with rfl
  · exact fun _ _ _ _ _ _ us ws hu hw => match us, ws, hu, hw with | [_, _, _], [], _, _ => rfl
theorem hm__law_plus : evSs (evS (ev 30) c__law_plus 14) (defBody st__law_plus) = m__law_plus := by kernel_rfl
abbrev st_letter_product : Stmt := topS 12
def N_letter_product : List Str := ["q", "one", "other"]
def F_letter_product : Fn := ⟨["q", "one", "other"], C_letter_product, [(3, [], [0, 1, 2])]⟩
theorem sc_letter_product : FnScope N_letter_product F_letter_product.ps (defScope st_letter_product) := ⟨rfl, rfl, rfl, by decide +kernel, rfl, by decide +kernel, by decide +kernel⟩
def c_letter_product : Cs := c0 N_letter_product (defScope st_letter_product) [] [] [] (fun _ => none) (fun _ => none) (fnL []) none (fun _ => none) 1
theorem sh_letter_product : ShpOk "letter_product" "letter_product" st_letter_product F_letter_product := by
  intro s hs
  simp only [F_letter_product, List.mem_cons, List.not_mem_nil, or_false] at hs
  rcases hs with rfl
  · exact fun _ _ _ _ _ _ us ws hu hw => match us, ws, hu, hw with | [_, _, _], [], _, _ => rfl
theorem hm_letter_product : evSs (evS (ev 30) c_letter_product 14) (defBody st_letter_product) = m_letter_product := by kernel_rfl
abbrev st_row_product : Stmt := topS 15
def N_row_product : List Str := ["q", "one", "other", "found", "near", "far"]
def F_row_product : Fn := ⟨["q", "one", "other"], C_row_product, [(3, [], [0, 1, 2])]⟩
theorem sc_row_product : FnScope N_row_product F_row_product.ps (defScope st_row_product) := ⟨rfl, rfl, rfl, by decide +kernel, rfl, by decide +kernel, by decide +kernel⟩
def c_row_product : Cs := c0 N_row_product (defScope st_row_product) [3, 4, 5] [] [] (fun _ => none) (fun _ => none) (fnL [("letter_sum", F_letter_sum), ("letter_product", F_letter_product)]) none (fun _ => none) 2
theorem sh_row_product : ShpOk "row_product" "row_product" st_row_product F_row_product := by
  intro s hs
  simp only [F_row_product, List.mem_cons, List.not_mem_nil, or_false] at hs
  rcases hs with rfl
  · exact fun _ _ _ _ _ _ us ws hu hw => match us, ws, hu, hw with | [_, _, _], [], _, _ => rfl
theorem hm_row_product : evSs (evS (ev 30) c_row_product 14) (defBody st_row_product) = m_row_product := by kernel_rfl
abbrev st_product : Stmt := topS 23
def N_product : List Str := ["q", "one", "other"]
def F_product : Fn := ⟨["q", "one", "other"], C_product, [(0, ["one", "q", "other"], [1, 0, 2]), (3, [], [0, 1, 2])]⟩
theorem sc_product : FnScope N_product F_product.ps (defScope st_product) := ⟨rfl, rfl, rfl, by decide +kernel, rfl, by decide +kernel, by decide +kernel⟩
def c_product : Cs := c0 N_product (defScope st_product) [] [] [] (fun _ => none) (fun _ => none) (fnL [("need_field", F_need_field), ("need_words", F_need_words), ("row_product", F_row_product)]) none (fun _ => none) 5
theorem sh_product : ShpOk "product" "product" st_product F_product := by
  intro s hs
  simp only [F_product, List.mem_cons, List.not_mem_nil, or_false] at hs
  rcases hs with rfl | rfl
  · exact fun _ _ _ _ _ _ us ws hu hw => match us, ws, hu, hw with | [], [_, _, _], _, _ => rfl
  · exact fun _ _ _ _ _ _ us ws hu hw => match us, ws, hu, hw with | [_, _, _], [], _, _ => rfl
theorem hm_product : evSs (evS (ev 30) c_product 14) (defBody st_product) = m_product := by kernel_rfl
abbrev st__law_by : Stmt := topS 33
def N__law_by : List Str := ["_law_q", "_law_one", "_law_other"]
def F__law_by : Fn := ⟨["_law_q", "_law_one", "_law_other"], C__law_by, [(3, [], [0, 1, 2])]⟩
theorem sc__law_by : FnScope N__law_by F__law_by.ps (defScope st__law_by) := ⟨rfl, rfl, rfl, by decide +kernel, rfl, by decide +kernel, by decide +kernel⟩
def c__law_by : Cs := c0 N__law_by (defScope st__law_by) [] [] [] (fun _ => none) (fun _ => none) (fnL []) none (fun _ => none) 1
theorem sh__law_by : ShpOk "_law_by" "_law_by" st__law_by F__law_by := by
  intro s hs
  simp only [F__law_by, List.mem_cons, List.not_mem_nil, or_false] at hs
  rcases hs with rfl
  · exact fun _ _ _ _ _ _ us ws hu hw => match us, ws, hu, hw with | [_, _, _], [], _, _ => rfl
theorem hm__law_by : evSs (evS (ev 30) c__law_by 14) (defBody st__law_by) = m__law_by := by kernel_rfl
abbrev st__law_product : Stmt := topS 37
def N__law_product : List Str := ["_law_q", "_law_one", "_law_other", "_law_found", "_law_x", "_law_y"]
def F__law_product : Fn := ⟨["_law_q", "_law_one", "_law_other"], C__law_product, [(3, [], [0, 1, 2])]⟩
theorem sc__law_product : FnScope N__law_product F__law_product.ps (defScope st__law_product) := ⟨rfl, rfl, rfl, by decide +kernel, rfl, by decide +kernel, by decide +kernel⟩
def c__law_product : Cs := c0 N__law_product (defScope st__law_product) [3, 4, 5] [] [] (fun _ => none) (fun _ => none) (fnL [("_law_plus", F__law_plus), ("_law_by", F__law_by)]) none (fun _ => none) 2
theorem sh__law_product : ShpOk "_law_product" "_law_product" st__law_product F__law_product := by
  intro s hs
  simp only [F__law_product, List.mem_cons, List.not_mem_nil, or_false] at hs
  rcases hs with rfl
  · exact fun _ _ _ _ _ _ us ws hu hw => match us, ws, hu, hw with | [_, _, _], [], _, _ => rfl
theorem hm__law_product : evSs (evS (ev 30) c__law_product 14) (defBody st__law_product) = m__law_product := by kernel_rfl
abbrev st_need_letters : Stmt := topS 19
def N_need_letters : List Str := ["q", "things", "thing"]
def F_need_letters : Fn := ⟨["q", "things"], C_need_letters, [(2, [], [0, 1])]⟩
theorem sc_need_letters : FnScope N_need_letters F_need_letters.ps (defScope st_need_letters) := ⟨rfl, rfl, rfl, by decide +kernel, rfl, by decide +kernel, by decide +kernel⟩
def c_need_letters : Cs := c0 N_need_letters (defScope st_need_letters) [2] [] [] (fun _ => none) (fun _ => none) (fnL [("need_field", F_need_field), ("is_between", F_is_between)]) none (fun _ => none) 4
theorem sh_need_letters : ShpOk "need_letters" "need_letters" st_need_letters F_need_letters := by
  intro s hs
  simp only [F_need_letters, List.mem_cons, List.not_mem_nil, or_false] at hs
  rcases hs with rfl
  · exact fun _ _ _ _ _ _ us ws hu hw => match us, ws, hu, hw with | [_, _], [], _, _ => rfl
theorem hm_need_letters : evSs (evS (ev 30) c_need_letters 14) (defBody st_need_letters) = m_need_letters := by kernel_rfl
abbrev st_row_times : Stmt := topS 14
def N_row_times : List Str := ["q", "letter", "row", "here"]
def F_row_times : Fn := ⟨["q", "letter", "row"], C_row_times, [(3, [], [0, 1, 2])]⟩
theorem sc_row_times : FnScope N_row_times F_row_times.ps (defScope st_row_times) := ⟨rfl, rfl, rfl, by decide +kernel, rfl, by decide +kernel, by decide +kernel⟩
def c_row_times : Cs := c0 N_row_times (defScope st_row_times) [] [] [] (fun _ => none) (fun _ => none) (fnL [("letter_product", F_letter_product)]) none (fun _ => none) 2
theorem sh_row_times : ShpOk "row_times" "row_times" st_row_times F_row_times := by
  intro s hs
  simp only [F_row_times, List.mem_cons, List.not_mem_nil, or_false] at hs
  rcases hs with rfl
  · exact fun _ _ _ _ _ _ us ws hu hw => match us, ws, hu, hw with | [_, _, _], [], _, _ => rfl
theorem hm_row_times : evSs (evS (ev 30) c_row_times 14) (defBody st_row_times) = m_row_times := by kernel_rfl
abbrev st_word_times : Stmt := topS 22
def N_word_times : List Str := ["q", "letter", "word"]
def F_word_times : Fn := ⟨["q", "letter", "word"], C_word_times, [(0, ["word", "letter", "q"], [2, 1, 0]), (3, [], [0, 1, 2])]⟩
theorem sc_word_times : FnScope N_word_times F_word_times.ps (defScope st_word_times) := ⟨rfl, rfl, rfl, by decide +kernel, rfl, by decide +kernel, by decide +kernel⟩
def c_word_times : Cs := c0 N_word_times (defScope st_word_times) [] [] [] (fun _ => none) (fun _ => none) (fnL [("need_letters", F_need_letters), ("need_words", F_need_words), ("row_times", F_row_times)]) none (fun _ => none) 5
theorem sh_word_times : ShpOk "word_times" "word_times" st_word_times F_word_times := by
  intro s hs
  simp only [F_word_times, List.mem_cons, List.not_mem_nil, or_false] at hs
  rcases hs with rfl | rfl
  · exact fun _ _ _ _ _ _ us ws hu hw => match us, ws, hu, hw with | [], [_, _, _], _, _ => rfl
  · exact fun _ _ _ _ _ _ us ws hu hw => match us, ws, hu, hw with | [_, _, _], [], _, _ => rfl
theorem hm_word_times : evSs (evS (ev 30) c_word_times 14) (defBody st_word_times) = m_word_times := by kernel_rfl
abbrev st_support_of : Stmt := topS 16
def N_support_of : List Str := ["row", "place", "letter"]
def F_support_of : Fn := ⟨["row"], C_support_of, [(1, [], [0])]⟩
theorem sc_support_of : FnScope N_support_of F_support_of.ps (defScope st_support_of) := ⟨rfl, rfl, rfl, by decide +kernel, rfl, by decide +kernel, by decide +kernel⟩
def c_support_of : Cs := c0 N_support_of (defScope st_support_of) [] [] [] (fun _ => none) (fun _ => none) (fnL []) none (fun _ => none) 1
theorem sh_support_of : ShpOk "support_of" "support_of" st_support_of F_support_of := by
  intro s hs
  simp only [F_support_of, List.mem_cons, List.not_mem_nil, or_false] at hs
  rcases hs with rfl
  · exact fun _ _ _ _ _ _ us ws hu hw => match us, ws, hu, hw with | [_], [], _, _ => rfl
theorem hm_support_of : evSs (evS (ev 30) c_support_of 14) (defBody st_support_of) = m_support_of := by kernel_rfl
abbrev st_support : Stmt := topS 24
def N_support : List Str := ["q", "word"]
def F_support : Fn := ⟨["q", "word"], C_support, [(0, ["word", "q"], [1, 0]), (2, [], [0, 1])]⟩
theorem sc_support : FnScope N_support F_support.ps (defScope st_support) := ⟨rfl, rfl, rfl, by decide +kernel, rfl, by decide +kernel, by decide +kernel⟩
def c_support : Cs := c0 N_support (defScope st_support) [] [] [] (fun _ => none) (fun _ => none) (fnL [("need_field", F_need_field), ("need_words", F_need_words), ("support_of", F_support_of)]) none (fun _ => none) 5
theorem sh_support : ShpOk "support" "support" st_support F_support := by
  intro s hs
  simp only [F_support, List.mem_cons, List.not_mem_nil, or_false] at hs
  rcases hs with rfl | rfl
  · exact fun _ _ _ _ _ _ us ws hu hw => match us, ws, hu, hw with | [], [_, _], _, _ => rfl
  · exact fun _ _ _ _ _ _ us ws hu hw => match us, ws, hu, hw with | [_, _], [], _, _ => rfl
theorem hm_support : evSs (evS (ev 30) c_support 14) (defBody st_support) = m_support := by kernel_rfl
abbrev st_weight : Stmt := topS 25
def N_weight : List Str := ["q", "word"]
def F_weight : Fn := ⟨["q", "word"], C_weight, [(0, ["word", "q"], [1, 0]), (2, [], [0, 1])]⟩
theorem sc_weight : FnScope N_weight F_weight.ps (defScope st_weight) := ⟨rfl, rfl, rfl, by decide +kernel, rfl, by decide +kernel, by decide +kernel⟩
def c_weight : Cs := c0 N_weight (defScope st_weight) [] [] [] (fun _ => none) (fun _ => none) (fnL [("support", F_support)]) none (fun _ => none) 6
theorem sh_weight : ShpOk "weight" "weight" st_weight F_weight := by
  intro s hs
  simp only [F_weight, List.mem_cons, List.not_mem_nil, or_false] at hs
  rcases hs with rfl | rfl
  · exact fun _ _ _ _ _ _ us ws hu hw => match us, ws, hu, hw with | [], [_, _], _, _ => rfl
  · exact fun _ _ _ _ _ _ us ws hu hw => match us, ws, hu, hw with | [_, _], [], _, _ => rfl
theorem hm_weight : evSs (evS (ev 30) c_weight 14) (defBody st_weight) = m_weight := by kernel_rfl
abbrev st__law_is_right : Stmt := topS 40
def N__law_is_right : List Str := ["_law_q", "_law_letter", "_law_one", "_law_other", "_law_wrong_here", "_law_told_here", "_law_due", "_law_places", "_law_x", "_law_at"]
def F__law_is_right : Fn := ⟨["_law_q", "_law_letter", "_law_one", "_law_other"], C__law_is_right, [(4, [], [0, 1, 2, 3])]⟩
theorem sc__law_is_right : FnScope N__law_is_right F__law_is_right.ps (defScope st__law_is_right) := ⟨rfl, rfl, rfl, by decide +kernel, rfl, by decide +kernel, by decide +kernel⟩
def c__law_is_right : Cs := c0 N__law_is_right (defScope st__law_is_right) [4, 5, 6, 7] [] [] (fun _ => none) (fun _ => none) (fnL [("_law_wrong", F__law_wrong), ("word_sum", F_word_sum), ("_law_plus", F__law_plus), ("product", F_product), ("_law_product", F__law_product), ("word_times", F_word_times), ("_law_by", F__law_by), ("support", F_support), ("weight", F_weight)]) none (fun x => if x = "_law_told" then some CL__law_told else none) 7
theorem sh__law_is_right : ShpOk "_law_is_right" "_law_is_right" st__law_is_right F__law_is_right := by
  intro s hs
  simp only [F__law_is_right, List.mem_cons, List.not_mem_nil, or_false] at hs
  rcases hs with rfl
  · exact fun _ _ _ _ _ _ us ws hu hw => match us, ws, hu, hw with | [_, _, _, _], [], _, _ => rfl
theorem hm__law_is_right : evSs (evS (ev 30) c__law_is_right 14) (defBody st__law_is_right) = m__law_is_right := by kernel_rfl
abbrev st_law : Stmt := topS 41
def N_law : List Str := ["_law_script", "_law_deck_here", "_law_turn", "_law_q", "_law_many", "_law_one", "_law_other", "_law_letter", "_law_way"]
def F_law : Fn := ⟨["_law_script"], lawC 63, [(1, [], [0])]⟩
theorem sc_law : FnScope N_law F_law.ps (defScope st_law) := ⟨rfl, rfl, rfl, by decide +kernel, rfl, by decide +kernel, by decide +kernel⟩
def c_law : Cs := c0 N_law (defScope st_law) [1, 2, 3, 4, 5, 6, 7, 8] [1] [1] (fun _ => none) (fun _ => none) (fnL [("_law_deck", F__law_deck), ("_law_draw", F__law_draw), ("_law_pick", F__law_pick), ("_law_word", F__law_word), ("_law_bent", F__law_bent), ("_law_any", F__law_any3), ("_law_is_right", F__law_is_right)]) none (fun _ => none) 10
theorem sh_law : ShpOk "law" "law" st_law F_law := by
  intro s hs
  simp only [F_law, List.mem_cons, List.not_mem_nil, or_false] at hs
  rcases hs with rfl
  · exact fun _ _ _ _ _ _ us ws hu hw => match us, ws, hu, hw with | [_], [], _, _ => rfl
theorem hm_law : evSs (evS (ev 30) c_law 14) (defBody st_law) = m_law := by kernel_rfl
end Pv

set_option Elab.async false
set_option maxRecDepth 100000
set_option maxHeartbeats 4000000
set_option autoImplicit false
set_option linter.unusedVariables false
namespace Pv
open PySem L2
local macro_rules | `(tactic| walk_at "wpow") => `(tactic| (simp only [Int.reduceToNat, Int.reducePow]; rfl))
local macro_rules | `(tactic| walk_at "wx") => `(tactic| first | rfl | assumption | with_unfolding_all rfl)
local macro_rules | `(tactic| walk_at "wd") => `(tactic| first | with_reducible rfl | assumption | omega | decide | (refine cdivw_small ?_ ?_ <;> omega) | (refine cdivw_small ?_ ?_ <;> split <;> omega) | (refine cpow_small ?_ ?_ ?_ ?_ <;> omega) | (refine cmul_r ?_ ?_ <;> omega) | (refine cmul_l ?_ ?_ <;> omega) | (simp only [List.length_cons, List.length_nil, List.length_append, List.length_reverse, List.length_map, flat_len, Int.reduceToNat]; omega) | (simp only [sizeLine, List.length_cons, List.length_nil, List.length_append, List.length_reverse, List.length_map, flat_len, Int.reduceToNat]; omega))
local macro_rules | `(tactic| walk_at "ws") => `(tactic| repeat' (first | (with_reducible first | refine Stp.go ?_ | refine AndG.go (by first | decide | walk_at "wd") ?_ | refine StpI.go (fun _ => ?_) (fun z => absurd (by first | rfl | decide | omega | (simp only [List.length_cons, List.length_nil]; omega)) z) | refine StpI.go (fun z => absurd z (by first | decide | omega | (simp only [List.length_cons, List.length_nil]; omega))) (fun _ => ?_) | refine StpI.go (fun _ => ?_) (fun _ => ?_) | refine StpX.go _ (by walk_at "wx") ?_ | refine StpN.go _ (by walk_at "wd") (by walk_at "wpow") ?_ | refine StpZ.go _ (by with_unfolding_all rfl) ?_ | refine StpV.go _ _ (by with_unfolding_all rfl) (by with_unfolding_all rfl) ?_ | exact DnT.h) | intro _))
structure Top (K : PySem.W.Frag) (mg : Str → Option Value) (CBadField fBadField CBadLetter fBadLetter CBadWord fBadWord cc : Addr)  : Prop where
  t__law_deck : TxD K mg "_law_deck" "_law_deck" st__law_deck
  t__law_draw : TxD K mg "_law_draw" "_law_draw" st__law_draw
  t__law_pick : TxD K mg "_law_pick" "_law_pick" st__law_pick
  t__law_word : TxD K mg "_law_word" "_law_word" st__law_word
  t__law_any : TxD K mg "_law_any" "_law_any" st__law_any
  t__law_bent : TxD K mg "_law_bent" "_law_bent" st__law_bent
  t__law_is_letter : TxD K mg "_law_is_letter" "_law_is_letter" st__law_is_letter
  t__law_is_word : TxD K mg "_law_is_word" "_law_is_word" st__law_is_word
  t__law_wrong : TxD K mg "_law_wrong" "_law_wrong" st__law_wrong
  t__law_told : TxD K mg "_law_told" "_law_told" st__law_told
  t_is_integer : TxD K mg "is_integer" "is_integer" st_is_integer
  t_is_between : TxD K mg "is_between" "is_between" st_is_between
  t_need_field : TxD K mg "need_field" "need_field" st_need_field
  t_is_letters : TxD K mg "is_letters" "is_letters" st_is_letters
  t_need_words : TxD K mg "need_words" "need_words" st_need_words
  t_letter_sum : TxD K mg "letter_sum" "letter_sum" st_letter_sum
  t_row_sum : TxD K mg "row_sum" "row_sum" st_row_sum
  t_word_sum : TxD K mg "word_sum" "word_sum" st_word_sum
  t__law_plus : TxD K mg "_law_plus" "_law_plus" st__law_plus
  t_letter_product : TxD K mg "letter_product" "letter_product" st_letter_product
  t_row_product : TxD K mg "row_product" "row_product" st_row_product
  t_product : TxD K mg "product" "product" st_product
  t__law_by : TxD K mg "_law_by" "_law_by" st__law_by
  t__law_product : TxD K mg "_law_product" "_law_product" st__law_product
  t_need_letters : TxD K mg "need_letters" "need_letters" st_need_letters
  t_row_times : TxD K mg "row_times" "row_times" st_row_times
  t_word_times : TxD K mg "word_times" "word_times" st_word_times
  t_support_of : TxD K mg "support_of" "support_of" st_support_of
  t_support : TxD K mg "support" "support" st_support
  t_weight : TxD K mg "weight" "weight" st_weight
  t_law : TxD K mg "law" "law" st_law
  t__law_is_right : TxM K mg "_law_is_right" "_law_is_right" st__law_is_right cc
  er_BadField : PySem.ErrX.Txt K mg "BadField" CBadField fBadField "thing" "BadField.__init__"
  er_BadLetter : PySem.ErrX.Txt K mg "BadLetter" CBadLetter fBadLetter "thing" "BadLetter.__init__"
  er_BadWord : PySem.ErrX.Txt K mg "BadWord" CBadWord fBadWord "thing" "BadWord.__init__"
  ex_BadField_BadField : PySem.W.exmOne K (.ref CBadField) (.ref CBadField) = some true
  ex_BadLetter_BadField : PySem.W.exmOne K (.ref CBadLetter) (.ref CBadField) = some false
  ex_BadLetter_BadLetter : PySem.W.exmOne K (.ref CBadLetter) (.ref CBadLetter) = some true
  ex_BadWord_BadField : PySem.W.exmOne K (.ref CBadWord) (.ref CBadField) = some false
  ex_BadWord_BadLetter : PySem.W.exmOne K (.ref CBadWord) (.ref CBadLetter) = some false
  ex_BadWord_BadWord : PySem.W.exmOne K (.ref CBadWord) (.ref CBadWord) = some true
  bi : ∀ x ∈ LbiL, mg x = none
  gv_TIMES_FOUR : ∃ u, mg "TIMES_FOUR" = some u ∧ datK K 9 u T_TIMES_FOUR = true
def clB (CBadField CBadLetter CBadWord : Addr) : Str → Option Addr := fun x => if x = "BadField" then some CBadField else if x = "BadLetter" then some CBadLetter else if x = "BadWord" then some CBadWord else none
theorem cl_BadField (CBadField CBadLetter CBadWord : Addr) : clB CBadField CBadLetter CBadWord "BadField" = some CBadField := by unfold clB; exact if_pos rfl
theorem cl_BadLetter (CBadField CBadLetter CBadWord : Addr) : clB CBadField CBadLetter CBadWord "BadLetter" = some CBadLetter := by unfold clB; rw [if_neg (by decide +kernel)]; exact if_pos rfl
theorem cl_BadWord (CBadField CBadLetter CBadWord : Addr) : clB CBadField CBadLetter CBadWord "BadWord" = some CBadWord := by unfold clB; rw [if_neg (by decide +kernel)]; rw [if_neg (by decide +kernel)]; exact if_pos rfl
def GG (K : PySem.W.Frag) (cl : Str → Option Addr) (Pt : Addr) : Gs := ⟨K, cl, false, true, [(Pt, lamN "_law_is_right")]⟩
section
variable {P : Program} {w : World} {K : PySem.W.Frag} {mg : Str → Option Value} {base : Heap} {Pt : Addr} {CBadField fBadField CBadLetter fBadLetter CBadWord fBadWord cc : Addr} 
theorem sta (T : Top K mg CBadField fBadField CBadLetter fBadLetter CBadWord fBadWord cc) (sy : SysIn base) {k : Nat} {N : List Str} {sc : Scope} {as bor dk : List Nat} {eq : Str → Option Ct} {cm : Str → Option Fn} {l : List (Str × Fn)} {lm : Option (Nat × Addr × Hp × LamC)} {lf : Str → Option CtL}
    (he : ∀ cn C, eq cn = some C → ∃ (Ca f : Addr) (fd : FuncData) (ps : List Str), (GG K (clB CBadField CBadLetter CBadWord) Pt).cl cn = some Ca ∧ FnG P w K mg base k f fd ps (spOf (GG K (clB CBadField CBadLetter CBadWord) Pt) 2 C) ∧ PySem.W.findIn K (.ref Ca) "__eq__" = some (some (.ref f)) ∧ PySem.W.isFn K (.ref f) = true ∧ Shp K fd ps 2 [] [0, 1] ∧ PySem.W.notFirst K Ca (.ref Ca) = true)
    (hc : ∀ x f, cm x = some f → ∃ (C fI : Addr) (fd : FuncData) (j : Nat), j + 1 ≤ k ∧ mg x = some (.ref C) ∧ (GG K (clB CBadField CBadLetter CBadWord) Pt).cl x = some C ∧ Mk K C fI ∧ FnG P w K mg base j fI fd f.ps (spOf (GG K (clB CBadField CBadLetter CBadWord) Pt) f.ps.length f.C) ∧ ∀ s ∈ f.sh, Shp K fd f.ps (s.1 + 1) s.2.1 (up1 s.2.2))
    (hl : DnL P w K mg base (GG K (clB CBadField CBadLetter CBadWord) Pt) k l) : Sta P w K mg base (GG K (clB CBadField CBadLetter CBadWord) Pt) k (c0 N sc as bor dk eq cm (fnL l) lm lf k) := by
  have a_BadField : ∀ {C : Addr}, (GG K (clB CBadField CBadLetter CBadWord) Pt).cl "BadField" = some C → C = CBadField := fun h => Option.some.inj (h.symm.trans (cl_BadField CBadField CBadLetter CBadWord))
  have a_BadLetter : ∀ {C : Addr}, (GG K (clB CBadField CBadLetter CBadWord) Pt).cl "BadLetter" = some C → C = CBadLetter := fun h => Option.some.inj (h.symm.trans (cl_BadLetter CBadField CBadLetter CBadWord))
  have a_BadWord : ∀ {C : Addr}, (GG K (clB CBadField CBadLetter CBadWord) Pt).cl "BadWord" = some C → C = CBadWord := fun h => Option.some.inj (h.symm.trans (cl_BadWord CBadField CBadLetter CBadWord))
  refine { kk := rfl, fn := hl.fn, gv := fun x d h => ?_, bi := fun x h => ?_, er := fun x f h => ?_, sub := fun x y b C h hC => ?_, xc := fun y h => ?_, sys := sy, ic := fun cn C h hC => ?_, io := fun y h => ?_, fa := fun cn f C h hC => ?_, cm := hc, eq := he }
  · have h : Lgv x = some d := h
    unfold Lgv at h
    rcases ite_some h with ⟨rfl, rfl⟩ | h
    · obtain ⟨u, h1, h2⟩ := T.gv_TIMES_FOUR
      obtain ⟨v, h3, h4⟩ := datK_ok (G := (GG K (clB CBadField CBadLetter CBadWord) Pt)) 9 h2
      exact ⟨v, u, h1, h3, h4⟩
    cases h
  · have h : LbiL.contains x = true := h
    exact T.bi x (by simpa using h)
  · have h : Ler x = some f := h
    unfold Ler at h
    rcases ite_some h with ⟨rfl, rfl⟩ | h
    · exact ⟨CBadField, fBadField, _, T.er_BadField, cl_BadField CBadField CBadLetter CBadWord⟩
    rcases ite_some h with ⟨rfl, rfl⟩ | h
    · exact ⟨CBadLetter, fBadLetter, _, T.er_BadLetter, cl_BadLetter CBadField CBadLetter CBadWord⟩
    rcases ite_some h with ⟨rfl, rfl⟩ | h
    · exact ⟨CBadWord, fBadWord, _, T.er_BadWord, cl_BadWord CBadField CBadLetter CBadWord⟩
    cases h
  · have h : Lsub x y = some b := h
    unfold Lsub at h
    rcases ite_some h with ⟨⟨rfl, rfl⟩, rfl⟩ | h
    · rw [a_BadField hC]; exact ⟨CBadField, T.er_BadField.gC, T.ex_BadField_BadField⟩
    rcases ite_some h with ⟨⟨rfl, rfl⟩, rfl⟩ | h
    · rw [a_BadLetter hC]; exact ⟨CBadField, T.er_BadField.gC, T.ex_BadLetter_BadField⟩
    rcases ite_some h with ⟨⟨rfl, rfl⟩, rfl⟩ | h
    · rw [a_BadLetter hC]; exact ⟨CBadLetter, T.er_BadLetter.gC, T.ex_BadLetter_BadLetter⟩
    rcases ite_some h with ⟨⟨rfl, rfl⟩, rfl⟩ | h
    · rw [a_BadWord hC]; exact ⟨CBadField, T.er_BadField.gC, T.ex_BadWord_BadField⟩
    rcases ite_some h with ⟨⟨rfl, rfl⟩, rfl⟩ | h
    · rw [a_BadWord hC]; exact ⟨CBadLetter, T.er_BadLetter.gC, T.ex_BadWord_BadLetter⟩
    rcases ite_some h with ⟨⟨rfl, rfl⟩, rfl⟩ | h
    · rw [a_BadWord hC]; exact ⟨CBadWord, T.er_BadWord.gC, T.ex_BadWord_BadWord⟩
    cases h
  · have h : Lxc y = true := h
    unfold Lxc at h
    rcases or_dec h with rfl | h
    · exact ⟨_, T.er_BadField.gC⟩
    rcases or_dec h with rfl | h
    · exact ⟨_, T.er_BadLetter.gC⟩
    rcases or_dec h with rfl | h
    · exact ⟨_, T.er_BadWord.gC⟩
    cases h
  · have h : Lic cn = true := h
    unfold Lic at h
    cases h
  · have h : Lio y = true := h
    unfold Lio at h
    cases h
  · have h : Lfa cn f = true := h
    have h0 := h
    unfold Lfa at h
    cases h
theorem all_dn {fL : Addr} {fdL : FuncData} (FF : Fun K "law" "law" st_law fL fdL) (T : Top K mg CBadField fBadField CBadLetter fBadLetter CBadWord fBadWord cc) (sy : SysIn base) (TB : LamX.TabB base mg cc Pt) : FnG P w K mg base 11 fL fdL F_law.ps (spOf (GG K (clB CBadField CBadLetter CBadWord) Pt) 1 (lawC 63)) := by
  have d__law_deck : Dn P w K mg base (GG K (clB CBadField CBadLetter CBadWord) Pt) "_law_deck" F__law_deck 2 := dn_of T.t__law_deck sh__law_deck sc__law_deck (by rfl) rfl (fun _ => rfl) (sta T sy (fun _ _ (h : (none : Option _) = some _) => nomatch h) (fun _ _ (h : (none : Option _) = some _) => nomatch h) .nil) hm__law_deck ok__law_deck
  have d__law_draw : Dn P w K mg base (GG K (clB CBadField CBadLetter CBadWord) Pt) "_law_draw" F__law_draw 2 := dn_of T.t__law_draw sh__law_draw sc__law_draw (by rfl) rfl (fun _ => rfl) (sta T sy (fun _ _ (h : (none : Option _) = some _) => nomatch h) (fun _ _ (h : (none : Option _) = some _) => nomatch h) .nil) hm__law_draw ok__law_draw
  have d__law_pick : Dn P w K mg base (GG K (clB CBadField CBadLetter CBadWord) Pt) "_law_pick" F__law_pick 3 := dn_of T.t__law_pick sh__law_pick sc__law_pick (by rfl) rfl (fun _ => rfl) (sta T sy (fun _ _ (h : (none : Option _) = some _) => nomatch h) (fun _ _ (h : (none : Option _) = some _) => nomatch h) (.cons d__law_draw (by decide) .nil)) hm__law_pick ok__law_pick
  have d__law_word : Dn P w K mg base (GG K (clB CBadField CBadLetter CBadWord) Pt) "_law_word" F__law_word 3 := dn_of T.t__law_word sh__law_word sc__law_word (by rfl) rfl (fun _ => rfl) (sta T sy (fun _ _ (h : (none : Option _) = some _) => nomatch h) (fun _ _ (h : (none : Option _) = some _) => nomatch h) (.cons d__law_draw (by decide) .nil)) hm__law_word ok__law_word
  have d__law_any0 : Dn P w K mg base (GG K (clB CBadField CBadLetter CBadWord) Pt) "_law_any" F__law_any0 1 := dn_no T.t__law_any sh__law_any0 fun _ _ _ h => h.elim
  have d__law_any1 : Dn P w K mg base (GG K (clB CBadField CBadLetter CBadWord) Pt) "_law_any" F__law_any1 4 := dn_of T.t__law_any sh__law_any1 sc__law_any (by rfl) rfl (fun _ => rfl) (sta T sy (fun _ _ (h : (none : Option _) = some _) => nomatch h) (fun _ _ (h : (none : Option _) = some _) => nomatch h) (.cons d__law_draw (by decide) (.cons d__law_pick (by decide) (.cons d__law_any0 (by decide) .nil)))) hm__law_any1 ok__law_any0
  have d__law_any2 : Dn P w K mg base (GG K (clB CBadField CBadLetter CBadWord) Pt) "_law_any" F__law_any2 5 := dn_of T.t__law_any sh__law_any2 sc__law_any (by rfl) rfl (fun _ => rfl) (sta T sy (fun _ _ (h : (none : Option _) = some _) => nomatch h) (fun _ _ (h : (none : Option _) = some _) => nomatch h) (.cons d__law_draw (by decide) (.cons d__law_pick (by decide) (.cons d__law_any1 (by decide) .nil)))) hm__law_any2 ok__law_any1
  have d__law_any3 : Dn P w K mg base (GG K (clB CBadField CBadLetter CBadWord) Pt) "_law_any" F__law_any3 6 := dn_of T.t__law_any sh__law_any3 sc__law_any (by rfl) rfl (fun _ => rfl) (sta T sy (fun _ _ (h : (none : Option _) = some _) => nomatch h) (fun _ _ (h : (none : Option _) = some _) => nomatch h) (.cons d__law_draw (by decide) (.cons d__law_pick (by decide) (.cons d__law_any2 (by decide) .nil)))) hm__law_any3 ok__law_any2
  have d__law_any := d__law_any3
  have d__law_bent : Dn P w K mg base (GG K (clB CBadField CBadLetter CBadWord) Pt) "_law_bent" F__law_bent 7 := dn_of T.t__law_bent sh__law_bent sc__law_bent (by rfl) rfl (fun _ => rfl) (sta T sy (fun _ _ (h : (none : Option _) = some _) => nomatch h) (fun _ _ (h : (none : Option _) = some _) => nomatch h) (.cons d__law_draw (by decide) (.cons d__law_any (by decide) (.cons d__law_pick (by decide) .nil)))) hm__law_bent ok__law_bent
  have d__law_is_letter : Dn P w K mg base (GG K (clB CBadField CBadLetter CBadWord) Pt) "_law_is_letter" F__law_is_letter 2 := dn_of T.t__law_is_letter sh__law_is_letter sc__law_is_letter (by rfl) rfl (fun _ => rfl) (sta T sy (fun _ _ (h : (none : Option _) = some _) => nomatch h) (fun _ _ (h : (none : Option _) = some _) => nomatch h) .nil) hm__law_is_letter ok__law_is_letter
  have d__law_is_word : Dn P w K mg base (GG K (clB CBadField CBadLetter CBadWord) Pt) "_law_is_word" F__law_is_word 3 := dn_of T.t__law_is_word sh__law_is_word sc__law_is_word (by rfl) rfl (fun _ => rfl) (sta T sy (fun _ _ (h : (none : Option _) = some _) => nomatch h) (fun _ _ (h : (none : Option _) = some _) => nomatch h) (.cons d__law_is_letter (by decide) .nil)) hm__law_is_word ok__law_is_word
  have d__law_wrong : Dn P w K mg base (GG K (clB CBadField CBadLetter CBadWord) Pt) "_law_wrong" F__law_wrong 4 := dn_of T.t__law_wrong sh__law_wrong sc__law_wrong (by rfl) rfl (fun _ => rfl) (sta T sy (fun _ _ (h : (none : Option _) = some _) => nomatch h) (fun _ _ (h : (none : Option _) = some _) => nomatch h) (.cons d__law_is_letter (by decide) (.cons d__law_is_word (by decide) .nil))) hm__law_wrong ok__law_wrong
  have d_is_integer : Dn P w K mg base (GG K (clB CBadField CBadLetter CBadWord) Pt) "is_integer" F_is_integer 2 := dn_of T.t_is_integer sh_is_integer sc_is_integer (by rfl) rfl (fun _ => rfl) (sta T sy (fun _ _ (h : (none : Option _) = some _) => nomatch h) (fun _ _ (h : (none : Option _) = some _) => nomatch h) .nil) hm_is_integer ok_is_integer
  have d_is_between : Dn P w K mg base (GG K (clB CBadField CBadLetter CBadWord) Pt) "is_between" F_is_between 3 := dn_of T.t_is_between sh_is_between sc_is_between (by rfl) rfl (fun _ => rfl) (sta T sy (fun _ _ (h : (none : Option _) = some _) => nomatch h) (fun _ _ (h : (none : Option _) = some _) => nomatch h) (.cons d_is_integer (by decide) .nil)) hm_is_between ok_is_between
  have d_need_field : Dn P w K mg base (GG K (clB CBadField CBadLetter CBadWord) Pt) "need_field" F_need_field 4 := dn_of T.t_need_field sh_need_field sc_need_field (by rfl) rfl (fun _ => rfl) (sta T sy (fun _ _ (h : (none : Option _) = some _) => nomatch h) (fun _ _ (h : (none : Option _) = some _) => nomatch h) (.cons d_is_between (by decide) .nil)) hm_need_field ok_need_field
  have d_is_letters : Dn P w K mg base (GG K (clB CBadField CBadLetter CBadWord) Pt) "is_letters" F_is_letters 4 := dn_of T.t_is_letters sh_is_letters sc_is_letters (by rfl) rfl (fun _ => rfl) (sta T sy (fun _ _ (h : (none : Option _) = some _) => nomatch h) (fun _ _ (h : (none : Option _) = some _) => nomatch h) (.cons d_is_between (by decide) .nil)) hm_is_letters ok_is_letters
  have d_need_words : Dn P w K mg base (GG K (clB CBadField CBadLetter CBadWord) Pt) "need_words" F_need_words 5 := dn_of T.t_need_words sh_need_words sc_need_words (by rfl) rfl (fun _ => rfl) (sta T sy (fun _ _ (h : (none : Option _) = some _) => nomatch h) (fun _ _ (h : (none : Option _) = some _) => nomatch h) (.cons d_is_letters (by decide) .nil)) hm_need_words ok_need_words
  have d_letter_sum : Dn P w K mg base (GG K (clB CBadField CBadLetter CBadWord) Pt) "letter_sum" F_letter_sum 2 := dn_of T.t_letter_sum sh_letter_sum sc_letter_sum (by rfl) rfl (fun _ => rfl) (sta T sy (fun _ _ (h : (none : Option _) = some _) => nomatch h) (fun _ _ (h : (none : Option _) = some _) => nomatch h) .nil) hm_letter_sum ok_letter_sum
  have d_row_sum : Dn P w K mg base (GG K (clB CBadField CBadLetter CBadWord) Pt) "row_sum" F_row_sum 3 := dn_of T.t_row_sum sh_row_sum sc_row_sum (by rfl) rfl (fun _ => rfl) (sta T sy (fun _ _ (h : (none : Option _) = some _) => nomatch h) (fun _ _ (h : (none : Option _) = some _) => nomatch h) (.cons d_letter_sum (by decide) .nil)) hm_row_sum ok_row_sum
  have d_word_sum : Dn P w K mg base (GG K (clB CBadField CBadLetter CBadWord) Pt) "word_sum" F_word_sum 6 := dn_of T.t_word_sum sh_word_sum sc_word_sum (by rfl) rfl (fun _ => rfl) (sta T sy (fun _ _ (h : (none : Option _) = some _) => nomatch h) (fun _ _ (h : (none : Option _) = some _) => nomatch h) (.cons d_need_field (by decide) (.cons d_need_words (by decide) (.cons d_row_sum (by decide) .nil)))) hm_word_sum ok_word_sum
  have d__law_plus : Dn P w K mg base (GG K (clB CBadField CBadLetter CBadWord) Pt) "_law_plus" F__law_plus 2 := dn_of T.t__law_plus sh__law_plus sc__law_plus (by rfl) rfl (fun _ => rfl) (sta T sy (fun _ _ (h : (none : Option _) = some _) => nomatch h) (fun _ _ (h : (none : Option _) = some _) => nomatch h) .nil) hm__law_plus ok__law_plus
  have d_letter_product : Dn P w K mg base (GG K (clB CBadField CBadLetter CBadWord) Pt) "letter_product" F_letter_product 2 := dn_of T.t_letter_product sh_letter_product sc_letter_product (by rfl) rfl (fun _ => rfl) (sta T sy (fun _ _ (h : (none : Option _) = some _) => nomatch h) (fun _ _ (h : (none : Option _) = some _) => nomatch h) .nil) hm_letter_product ok_letter_product
  have d_row_product : Dn P w K mg base (GG K (clB CBadField CBadLetter CBadWord) Pt) "row_product" F_row_product 3 := dn_of T.t_row_product sh_row_product sc_row_product (by rfl) rfl (fun _ => rfl) (sta T sy (fun _ _ (h : (none : Option _) = some _) => nomatch h) (fun _ _ (h : (none : Option _) = some _) => nomatch h) (.cons d_letter_sum (by decide) (.cons d_letter_product (by decide) .nil))) hm_row_product ok_row_product
  have d_product : Dn P w K mg base (GG K (clB CBadField CBadLetter CBadWord) Pt) "product" F_product 6 := dn_of T.t_product sh_product sc_product (by rfl) rfl (fun _ => rfl) (sta T sy (fun _ _ (h : (none : Option _) = some _) => nomatch h) (fun _ _ (h : (none : Option _) = some _) => nomatch h) (.cons d_need_field (by decide) (.cons d_need_words (by decide) (.cons d_row_product (by decide) .nil)))) hm_product ok_product
  have d__law_by : Dn P w K mg base (GG K (clB CBadField CBadLetter CBadWord) Pt) "_law_by" F__law_by 2 := dn_of T.t__law_by sh__law_by sc__law_by (by rfl) rfl (fun _ => rfl) (sta T sy (fun _ _ (h : (none : Option _) = some _) => nomatch h) (fun _ _ (h : (none : Option _) = some _) => nomatch h) .nil) hm__law_by ok__law_by
  have d__law_product : Dn P w K mg base (GG K (clB CBadField CBadLetter CBadWord) Pt) "_law_product" F__law_product 3 := dn_of T.t__law_product sh__law_product sc__law_product (by rfl) rfl (fun _ => rfl) (sta T sy (fun _ _ (h : (none : Option _) = some _) => nomatch h) (fun _ _ (h : (none : Option _) = some _) => nomatch h) (.cons d__law_plus (by decide) (.cons d__law_by (by decide) .nil))) hm__law_product ok__law_product
  have d_need_letters : Dn P w K mg base (GG K (clB CBadField CBadLetter CBadWord) Pt) "need_letters" F_need_letters 5 := dn_of T.t_need_letters sh_need_letters sc_need_letters (by rfl) rfl (fun _ => rfl) (sta T sy (fun _ _ (h : (none : Option _) = some _) => nomatch h) (fun _ _ (h : (none : Option _) = some _) => nomatch h) (.cons d_need_field (by decide) (.cons d_is_between (by decide) .nil))) hm_need_letters ok_need_letters
  have d_row_times : Dn P w K mg base (GG K (clB CBadField CBadLetter CBadWord) Pt) "row_times" F_row_times 3 := dn_of T.t_row_times sh_row_times sc_row_times (by rfl) rfl (fun _ => rfl) (sta T sy (fun _ _ (h : (none : Option _) = some _) => nomatch h) (fun _ _ (h : (none : Option _) = some _) => nomatch h) (.cons d_letter_product (by decide) .nil)) hm_row_times ok_row_times
  have d_word_times : Dn P w K mg base (GG K (clB CBadField CBadLetter CBadWord) Pt) "word_times" F_word_times 6 := dn_of T.t_word_times sh_word_times sc_word_times (by rfl) rfl (fun _ => rfl) (sta T sy (fun _ _ (h : (none : Option _) = some _) => nomatch h) (fun _ _ (h : (none : Option _) = some _) => nomatch h) (.cons d_need_letters (by decide) (.cons d_need_words (by decide) (.cons d_row_times (by decide) .nil)))) hm_word_times ok_word_times
  have d_support_of : Dn P w K mg base (GG K (clB CBadField CBadLetter CBadWord) Pt) "support_of" F_support_of 2 := dn_of T.t_support_of sh_support_of sc_support_of (by rfl) rfl (fun _ => rfl) (sta T sy (fun _ _ (h : (none : Option _) = some _) => nomatch h) (fun _ _ (h : (none : Option _) = some _) => nomatch h) .nil) hm_support_of ok_support_of
  have d_support : Dn P w K mg base (GG K (clB CBadField CBadLetter CBadWord) Pt) "support" F_support 6 := dn_of T.t_support sh_support sc_support (by rfl) rfl (fun _ => rfl) (sta T sy (fun _ _ (h : (none : Option _) = some _) => nomatch h) (fun _ _ (h : (none : Option _) = some _) => nomatch h) (.cons d_need_field (by decide) (.cons d_need_words (by decide) (.cons d_support_of (by decide) .nil)))) hm_support ok_support
  have d_weight : Dn P w K mg base (GG K (clB CBadField CBadLetter CBadWord) Pt) "weight" F_weight 7 := dn_of T.t_weight sh_weight sc_weight (by rfl) rfl (fun _ => rfl) (sta T sy (fun _ _ (h : (none : Option _) = some _) => nomatch h) (fun _ _ (h : (none : Option _) = some _) => nomatch h) (.cons d_support (by decide) .nil)) hm_weight ok_weight
  have f__law_told : DnF P w K mg base (GG K (clB CBadField CBadLetter CBadWord) Pt) "_law_told" CL__law_told 7 := dnF_of (m := m__law_told) (c := c__law_told) (as := [1]) T.t__law_told sh__law_told List.mem_cons_self rfl sc__law_told rfl ((sc__law_told.par _ List.mem_cons_self).imp_right .inl) rfl rfl (fun _ _ _ => by rfl) (fun _ _ _ => rfl) (fun _ _ _ _ => rfl) (fun _ _ _ => rfl) (fun _ _ _ => sta T sy (fun _ _ (h : (none : Option _) = some _) => nomatch h) (fun _ _ (h : (none : Option _) = some _) => nomatch h) .nil) hm__law_told ok__law_told
  have d__law_is_right : Dn P w K mg base (GG K (clB CBadField CBadLetter CBadWord) Pt) "_law_is_right" F__law_is_right 10 := dn_ofL (T.t__law_is_right.l TB) sh__law_is_right sc__law_is_right (by rfl) rfl rfl f__law_told rfl (sta T sy (fun _ _ (h : (none : Option _) = some _) => nomatch h) (fun _ _ (h : (none : Option _) = some _) => nomatch h) (.cons d__law_wrong (by decide) (.cons d_word_sum (by decide) (.cons d__law_plus (by decide) (.cons d_product (by decide) (.cons d__law_product (by decide) (.cons d_word_times (by decide) (.cons d__law_by (by decide) (.cons d_support (by decide) (.cons d_weight (by decide) .nil)))))))))) hm__law_is_right ok__law_is_right
  exact fnG_ev FF sc_law (by rfl) rfl (fun _ => rfl) (sta T sy (fun _ _ (h : (none : Option _) = some _) => nomatch h) (fun _ _ (h : (none : Option _) = some _) => nomatch h) (.cons d__law_deck (by decide) (.cons d__law_draw (by decide) (.cons d__law_pick (by decide) (.cons d__law_word (by decide) (.cons d__law_bent (by decide) (.cons d__law_any (by decide) (.cons d__law_is_right (by decide) .nil)))))))) hm_law ok_law
end
def spLaw (K : PySem.W.Frag) (Pt : Addr) : Sp := fun vs H Q E => ∀ cl : Str → Option Addr, spOf (GG K cl Pt) 1 (lawC 63) vs H Q E
theorem FnG.weak {P : Program} {w : World} {K : PySem.W.Frag} {mg : Str → Option Value} {base : Heap} {k : Nat} {f : Addr} {fd : FuncData} {ps : List Str} {sp sp' : Sp} (F : FnG P w K mg base k f fd ps sp) (i : ∀ vs H Q E, sp' vs H Q E → sp vs H Q E) : FnG P w K mg base k f fd ps sp' :=
  ⟨fun vs H Q E h => F.len _ _ _ _ (i _ _ _ _ h), fun A outer s H args us vs Q E hr hg e0 hb r h => F.run A outer s H args us vs Q E hr hg e0 hb r (i _ _ _ _ h)⟩
theorem law_go {l : PySem.W.OpenLaw} {w : World} {K : PySem.W.Frag} {mg : Str → Option Value} {h : Heap} {fa Pt CBadField fBadField CBadLetter fBadLetter CBadWord fBadWord cc : Addr}  (hfa : mg "law" = some (.ref fa)) (hT : h.get? Pt = some emptyT) (nT : K.lookup Pt = none) (X : K.In h) (hC : PySem.W.codeHdIn K cc Pt = true) (T : Top K mg CBadField fBadField CBadLetter fBadLetter CBadWord fBadWord cc) : LawG l w K 11 63 "_law_script" mg fa h := by
  obtain ⟨f, fd, hf, FF⟩ := T.t_law
  have ef : f = fa := by rw [hfa] at hf; cases hf; rfl
  subst ef
  refine ⟨fd, [(cc, Pt)], spLaw K Pt, ?_, ?_, ?_, fun s u => ?_, fun H a ns hl hT hT2 hS cl => ?_, fun base _ _ sy TB => ?_⟩
  · intro p hp; rw [List.mem_singleton.mp hp]; exact hT
  · intro p hp; rw [List.mem_singleton.mp hp]; exact nT
  · intro p hp; rw [List.mem_singleton.mp hp]; exact PySem.W.codeHd_of_K X hC
  · obtain ⟨oc, od, kV, doc, pm, an, cdv, ct, osl, rfl, _⟩ := FF.ex
    exact .of_eq (sh_law _ List.mem_cons_self kV doc pm an cdv ct [u] [] rfl rfl)
  · exact law_sp (G := GG K cl Pt) (by exact List.nodup_cons.mpr ⟨List.not_mem_nil, List.nodup_nil⟩) hl hT hT2 hS
  · exact FnG.weak (all_dn (P := l.prog) (w := w) FF T sy (TB _ List.mem_cons_self)) fun vs H Q E (h : spLaw K Pt vs H Q E) => h _
end Pv

set_option Elab.async false
set_option maxRecDepth 100000
set_option maxHeartbeats 4000000
set_option autoImplicit false
set_option linter.unusedVariables false
namespace Pv
open PySem L2
local macro_rules | `(tactic| walk_at "wpow") => `(tactic| (simp only [Int.reduceToNat, Int.reducePow]; rfl))
local macro_rules | `(tactic| walk_at "wx") => `(tactic| first | rfl | assumption | with_unfolding_all rfl)
local macro_rules | `(tactic| walk_at "wd") => `(tactic| first | with_reducible rfl | assumption | omega | decide | (refine cdivw_small ?_ ?_ <;> omega) | (refine cdivw_small ?_ ?_ <;> split <;> omega) | (refine cpow_small ?_ ?_ ?_ ?_ <;> omega) | (refine cmul_r ?_ ?_ <;> omega) | (refine cmul_l ?_ ?_ <;> omega) | (simp only [List.length_cons, List.length_nil, List.length_append, List.length_reverse, List.length_map, flat_len, Int.reduceToNat]; omega) | (simp only [sizeLine, List.length_cons, List.length_nil, List.length_append, List.length_reverse, List.length_map, flat_len, Int.reduceToNat]; omega))
local macro_rules | `(tactic| walk_at "ws") => `(tactic| repeat' (first | (with_reducible first | refine Stp.go ?_ | refine AndG.go (by first | decide | walk_at "wd") ?_ | refine StpI.go (fun _ => ?_) (fun z => absurd (by first | rfl | decide | omega | (simp only [List.length_cons, List.length_nil]; omega)) z) | refine StpI.go (fun z => absurd z (by first | decide | omega | (simp only [List.length_cons, List.length_nil]; omega))) (fun _ => ?_) | refine StpI.go (fun _ => ?_) (fun _ => ?_) | refine StpX.go _ (by walk_at "wx") ?_ | refine StpN.go _ (by walk_at "wd") (by walk_at "wpow") ?_ | refine StpZ.go _ (by with_unfolding_all rfl) ?_ | refine StpV.go _ _ (by with_unfolding_all rfl) (by with_unfolding_all rfl) ?_ | exact DnT.h) | intro _))
end Pv
open PySem PySem.W PyProof.Rows
set_option maxRecDepth 100000 in
set_option maxHeartbeats 0 in
theorem PySem.Challenge.cw_mirrorbook_k05_words_and_their_products_holds : PySem.Challenge.rw_mirrorbook_k05_words_and_their_products.Holds := by
  w_on; o_law; km_head; (case hw => w_witness2)
  k_fill
  refine Pv.walkG_of (l := PySem.Challenge.rw_mirrorbook_k05_words_and_their_products) (n := 63) (k := 11) (x := "_law_script") ?hi rfl (by decide) rfl ⟨rfl, by decide, by decide⟩ (fun w h Y => PySem.W.km_in_of Y) ?F
  case hi => first | rfl | kernel_rfl
  case F =>
    intro w mg fa h Y KX G hmg
    refine' Pv.law_go hmg (PySem.W.km_tabs_of Y _ List.mem_cons_self) ?nT KX ?hC (Pv.Top.mk (Pv.txD KX G ?a0 ?l0 ?c0 ?k0) (Pv.txD KX G ?a1 ?l1 ?c1 ?k1) (Pv.txD KX G ?a2 ?l2 ?c2 ?k2) (Pv.txD KX G ?a3 ?l3 ?c3 ?k3) (Pv.txD KX G ?a4 ?l4 ?c4 ?k4) (Pv.txD KX G ?a5 ?l5 ?c5 ?k5) (Pv.txD KX G ?a6 ?l6 ?c6 ?k6) (Pv.txD KX G ?a7 ?l7 ?c7 ?k7) (Pv.txD KX G ?a8 ?l8 ?c8 ?k8) (Pv.txD KX G ?a9 ?l9 ?c9 ?k9) (Pv.txD KX G ?a10 ?l10 ?c10 ?k10) (Pv.txD KX G ?a11 ?l11 ?c11 ?k11) (Pv.txD KX G ?a12 ?l12 ?c12 ?k12) (Pv.txD KX G ?a13 ?l13 ?c13 ?k13) (Pv.txD KX G ?a14 ?l14 ?c14 ?k14) (Pv.txD KX G ?a15 ?l15 ?c15 ?k15) (Pv.txD KX G ?a16 ?l16 ?c16 ?k16) (Pv.txD KX G ?a17 ?l17 ?c17 ?k17) (Pv.txD KX G ?a18 ?l18 ?c18 ?k18) (Pv.txD KX G ?a19 ?l19 ?c19 ?k19) (Pv.txD KX G ?a20 ?l20 ?c20 ?k20) (Pv.txD KX G ?a21 ?l21 ?c21 ?k21) (Pv.txD KX G ?a22 ?l22 ?c22 ?k22) (Pv.txD KX G ?a23 ?l23 ?c23 ?k23) (Pv.txD KX G ?a24 ?l24 ?c24 ?k24) (Pv.txD KX G ?a25 ?l25 ?c25 ?k25) (Pv.txD KX G ?a26 ?l26 ?c26 ?k26) (Pv.txD KX G ?a27 ?l27 ?c27 ?k27) (Pv.txD KX G ?a28 ?l28 ?c28 ?k28) (Pv.txD KX G ?a29 ?l29 ?c29 ?k29) (Pv.txD KX G ?a30 ?l30 ?c30 ?k30) (Pv.txM KX G ?la0 ?ll0 ?lc0 ?lk0) (Pv.errTxt KX G ?aPBadField ?lCBadField ?ckBadField ?lC2BadField ?p0BadField ?p1BadField ?p2BadField ?p3BadField ?p4BadField ?p5BadField ?p6BadField ?p7BadField ?p8BadField ?p9BadField ?p10BadField ?lPBadField ?cPBadField (by exact PySem.ErrX.fok_thing)) (Pv.errTxt KX G ?aPBadLetter ?lCBadLetter ?ckBadLetter ?lC2BadLetter ?p0BadLetter ?p1BadLetter ?p2BadLetter ?p3BadLetter ?p4BadLetter ?p5BadLetter ?p6BadLetter ?p7BadLetter ?p8BadLetter ?p9BadLetter ?p10BadLetter ?lPBadLetter ?cPBadLetter (by exact PySem.ErrX.fok_thing)) (Pv.errTxt KX G ?aPBadWord ?lCBadWord ?ckBadWord ?lC2BadWord ?p0BadWord ?p1BadWord ?p2BadWord ?p3BadWord ?p4BadWord ?p5BadWord ?p6BadWord ?p7BadWord ?p8BadWord ?p9BadWord ?p10BadWord ?lPBadWord ?cPBadWord (by exact PySem.ErrX.fok_thing)) (Pv.exm_c2 ?x0BadField ?x1BadField ?x2BadField ?x3_BadField_BadField) (Pv.exm_c2 ?x0BadField ?x1BadField ?x2BadField ?x3_BadLetter_BadField) (Pv.exm_c2 ?x0BadLetter ?x1BadLetter ?x2BadLetter ?x3_BadLetter_BadLetter) (Pv.exm_c2 ?x0BadField ?x1BadField ?x2BadField ?x3_BadWord_BadField) (Pv.exm_c2 ?x0BadLetter ?x1BadLetter ?x2BadLetter ?x3_BadWord_BadLetter) (Pv.exm_c2 ?x0BadWord ?x1BadWord ?x2BadWord ?x3_BadWord_BadWord) (Pv.bi_cons KX G ?z0 (Pv.bi_cons KX G ?z1 (Pv.bi_cons KX G ?z2 (Pv.bi_cons KX G ?z3 (Pv.bi_cons KX G ?z4 (Pv.bi_cons KX G ?z5 (Pv.bi_cons KX G ?z6 (Pv.bi_cons KX G ?z7 (Pv.bi_cons KX G ?z8 (Pv.bi_cons KX G ?z9 (Pv.bi_cons KX G ?z10 (Pv.bi_cons KX G ?z11 Pv.bi_nil)))))))))))) (Pv.gl_dat KX G ?gaTIMES_FOUR ?gdTIMES_FOUR))
    (case la0 => k_is)
    (case ll0 => k_is)
    (case lc0 => k_is)
    (case lk0 => k_is)
    (case aPBadField => k_is)
    (case lCBadField => k_is)
    (case ckBadField => first | rfl | decide +kernel)
    (case lC2BadField => k_is)
    (case p0BadField => k_is)
    (case p1BadField => k_is)
    (case p2BadField => k_is)
    (case p3BadField => k_is)
    (case p4BadField => k_is)
    (case p5BadField => k_is)
    (case p6BadField => k_is)
    (case p7BadField => k_is)
    (case p8BadField => k_is)
    (case p9BadField => k_is)
    (case p10BadField => k_is)
    (case lPBadField => k_is)
    (case cPBadField => k_is)
    (case aPBadLetter => k_is)
    (case lCBadLetter => k_is)
    (case ckBadLetter => first | rfl | decide +kernel)
    (case lC2BadLetter => k_is)
    (case p0BadLetter => k_is)
    (case p1BadLetter => k_is)
    (case p2BadLetter => k_is)
    (case p3BadLetter => k_is)
    (case p4BadLetter => k_is)
    (case p5BadLetter => k_is)
    (case p6BadLetter => k_is)
    (case p7BadLetter => k_is)
    (case p8BadLetter => k_is)
    (case p9BadLetter => k_is)
    (case p10BadLetter => k_is)
    (case lPBadLetter => k_is)
    (case cPBadLetter => k_is)
    (case aPBadWord => k_is)
    (case lCBadWord => k_is)
    (case ckBadWord => first | rfl | decide +kernel)
    (case lC2BadWord => k_is)
    (case p0BadWord => k_is)
    (case p1BadWord => k_is)
    (case p2BadWord => k_is)
    (case p3BadWord => k_is)
    (case p4BadWord => k_is)
    (case p5BadWord => k_is)
    (case p6BadWord => k_is)
    (case p7BadWord => k_is)
    (case p8BadWord => k_is)
    (case p9BadWord => k_is)
    (case p10BadWord => k_is)
    (case lPBadWord => k_is)
    (case cPBadWord => k_is)
    (case x0BadField => k_is)
    (case x1BadField => k_is)
    (case x2BadField => k_is)
    (case x3_BadField_BadField => k_is)
    (case x3_BadLetter_BadField => k_is)
    (case x0BadLetter => k_is)
    (case x1BadLetter => k_is)
    (case x2BadLetter => k_is)
    (case x3_BadLetter_BadLetter => k_is)
    (case x3_BadWord_BadField => k_is)
    (case x3_BadWord_BadLetter => k_is)
    (case x0BadWord => k_is)
    (case x1BadWord => k_is)
    (case x2BadWord => k_is)
    (case x3_BadWord_BadWord => k_is)
    (case z0 => k_is)
    (case z1 => k_is)
    (case z2 => k_is)
    (case z3 => k_is)
    (case z4 => k_is)
    (case z5 => k_is)
    (case z6 => k_is)
    (case z7 => k_is)
    (case z8 => k_is)
    (case z9 => k_is)
    (case z10 => k_is)
    (case z11 => k_is)
    (case gaTIMES_FOUR => k_is)
    (case gdTIMES_FOUR => first | kernel_rfl | rfl | decide +kernel)
    (case nT => first | kernel_rfl | rfl | decide +kernel)
    (case hC => first | kernel_rfl | rfl | decide +kernel)
    (case a0 => k_is)
    (case l0 => k_is)
    (case c0 => k_is)
    (case k0 => k_is)
    (case a1 => k_is)
    (case l1 => k_is)
    (case c1 => k_is)
    (case k1 => k_is)
    (case a2 => k_is)
    (case l2 => k_is)
    (case c2 => k_is)
    (case k2 => k_is)
    (case a3 => k_is)
    (case l3 => k_is)
    (case c3 => k_is)
    (case k3 => k_is)
    (case a4 => k_is)
    (case l4 => k_is)
    (case c4 => k_is)
    (case k4 => k_is)
    (case a5 => k_is)
    (case l5 => k_is)
    (case c5 => k_is)
    (case k5 => k_is)
    (case a6 => k_is)
    (case l6 => k_is)
    (case c6 => k_is)
    (case k6 => k_is)
    (case a7 => k_is)
    (case l7 => k_is)
    (case c7 => k_is)
    (case k7 => k_is)
    (case a8 => k_is)
    (case l8 => k_is)
    (case c8 => k_is)
    (case k8 => k_is)
    (case a9 => k_is)
    (case l9 => k_is)
    (case c9 => k_is)
    (case k9 => k_is)
    (case a10 => k_is)
    (case l10 => k_is)
    (case c10 => k_is)
    (case k10 => k_is)
    (case a11 => k_is)
    (case l11 => k_is)
    (case c11 => k_is)
    (case k11 => k_is)
    (case a12 => k_is)
    (case l12 => k_is)
    (case c12 => k_is)
    (case k12 => k_is)
    (case a13 => k_is)
    (case l13 => k_is)
    (case c13 => k_is)
    (case k13 => k_is)
    (case a14 => k_is)
    (case l14 => k_is)
    (case c14 => k_is)
    (case k14 => k_is)
    (case a15 => k_is)
    (case l15 => k_is)
    (case c15 => k_is)
    (case k15 => k_is)
    (case a16 => k_is)
    (case l16 => k_is)
    (case c16 => k_is)
    (case k16 => k_is)
    (case a17 => k_is)
    (case l17 => k_is)
    (case c17 => k_is)
    (case k17 => k_is)
    (case a18 => k_is)
    (case l18 => k_is)
    (case c18 => k_is)
    (case k18 => k_is)
    (case a19 => k_is)
    (case l19 => k_is)
    (case c19 => k_is)
    (case k19 => k_is)
    (case a20 => k_is)
    (case l20 => k_is)
    (case c20 => k_is)
    (case k20 => k_is)
    (case a21 => k_is)
    (case l21 => k_is)
    (case c21 => k_is)
    (case k21 => k_is)
    (case a22 => k_is)
    (case l22 => k_is)
    (case c22 => k_is)
    (case k22 => k_is)
    (case a23 => k_is)
    (case l23 => k_is)
    (case c23 => k_is)
    (case k23 => k_is)
    (case a24 => k_is)
    (case l24 => k_is)
    (case c24 => k_is)
    (case k24 => k_is)
    (case a25 => k_is)
    (case l25 => k_is)
    (case c25 => k_is)
    (case k25 => k_is)
    (case a26 => k_is)
    (case l26 => k_is)
    (case c26 => k_is)
    (case k26 => k_is)
    (case a27 => k_is)
    (case l27 => k_is)
    (case c27 => k_is)
    (case k27 => k_is)
    (case a28 => k_is)
    (case l28 => k_is)
    (case c28 => k_is)
    (case k28 => k_is)
    (case a29 => k_is)
    (case l29 => k_is)
    (case c29 => k_is)
    (case k29 => k_is)
    (case a30 => k_is)
    (case l30 => k_is)
    (case c30 => k_is)
    (case k30 => k_is)
#print axioms PySem.Challenge.cw_mirrorbook_k05_words_and_their_products_holds
namespace Pv
end Pv

