import PyProof.Rows.All
import Wide.All
import OpenK.AllK
import Wide.FinOn
import HandS.ForMost
import HandS.Exc
import HandS.TryOnly
import HandS.ExcOwn
import HandS.WordsExc
import HandS.ExcInit
import HandS.CallLocal
import HandS.Defaults
import HandS.IsInst
import HandS.Zip
import HandS.ExcField
import KE.KExcIs
import HandS.Style
import HandS.TupAny
import HandS.Wide
import HandS.WideBits
import HandS.StrMore
import HandS.WordsDict
import HandS.DictComp
import HandS.Replace
import HandS.SetFor
import HandS.SortInts
import PyProof.Rows.RuleB_pow
import HandS.Codes
import HandS.Ends
import PySem.Challenge.RW_heardandfelt_k52_cells
set_option Elab.async false
set_option linter.all false
set_option maxRecDepth 100000
set_option maxHeartbeats 2000000
/-! PbBase: data without a heap, states of data, and what readings do to them. -/
namespace PA
open PySem L2

/-- Python data: a value, a list, a list that is read alone, a tuple, a dict, an error with its value; own k: the k-th open list -/
inductive D where
  | v (x : V)
  | lst (l : List D)
  | rd (l : List D)
  | tup (l : List D)
  | dic (ks : List Key) (l : List D)
  | exc (c : Addr) (d : D)
  | own (k : Nat)

abbrev D.int (i : Int) : D := .v (.int i)
abbrev D.bl (b : Bool) : D := .v (.bl b)
abbrev D.str (s : Str) : D := .v (.str s)
abbrev D.non : D := .v .non

/-- heaps: the one stands within the other -/
def Ex (H H' : Hp) : Prop := ∀ a o, H a = some o → H' a = some o
theorem Ex.refl (H : Hp) : Ex H H := fun _ _ h => h
theorem Ex.trans {H H1 H2 : Hp} (a : Ex H H1) (b : Ex H1 H2) : Ex H H2 := fun x o h => b x o (a x o h)
theorem Ex.new {H : Hp} {p : Addr} {o : HO} (h : H p = none) : Ex H (upd H p o) := fun a u e => by
  rw [upd_ne (ne_of_none e h)]
  exact e
theorem Ex.both {G H : Hp} {p : Addr} {o : HO} (e : Ex G H) : Ex (upd G p o) (upd H p o) := fun a u h => by
  by_cases q : a = p
  · subst q
    rw [upd_same] at h ⊢
    exact h
  · rw [upd_ne q] at h ⊢
    exact e a u h
theorem Ex.side {G H : Hp} {p : Addr} {o : HO} (e : Ex G H) (h : G p = none) : Ex G (upd H p o) := fun a u q => by
  rw [upd_ne (ne_of_none q h)]
  exact e a u q
theorem Ex.free {G H : Hp} {p : Addr} (e : Ex G H) (h : H p = none) : G p = none := by
  cases q : G p with
  | none => rfl
  | some o =>
    rw [e p o q] at h
    cases h
theorem ex_rd {H H' : Hp} {a : Addr} {u : HO} (e : Ex H H') (h : Rd H a u) : Rd H' a u := by
  rcases h with h | ⟨o, h⟩
  · exact .inl (e a _ h)
  · exact .inr ⟨o, e a _ h⟩
theorem ex_l {K : PySem.W.Frag} {H H' : Hp} {a : Addr} {xs : List V} (e : Ex H H') (h : SqL K H a xs) : SqL K H' a xs := by
  rcases h with h | h
  · exact .inl (ex_rd e h)
  · exact .inr h
theorem ex_t {K : PySem.W.Frag} {H H' : Hp} {a : Addr} {xs : List V} (e : Ex H H') (h : SqT K H a xs) : SqT K H' a xs := by
  rcases h with h | h
  · exact .inl (ex_rd e h)
  · exact .inr h

/-! ### an error that is kept -/
/-- at e: an error of the class at C with its own dict at dx -/
def exq (e C dx : Addr) : HO := .ext fun h => ∃ (oe : Obj) (vs : Array Value), h.get? e = some oe ∧ oe.cls = .ref C ∧ oe.dict = some dx ∧ oe.data = .fields vs
/-- a tuple of ours, or one of the text's own -/
def TpK (K : PySem.W.Frag) (G : Hp) (a : Addr) (xs : List V) : Prop :=
  G a = some (.tup xs) ∨ ∃ (o : Obj) (its : Array Value) (n : Nat), K.lookup a = some o ∧ o.cls = .type "tuple" ∧ o.data = .seq its n ∧ its.size ≤ sizeLine ∧ Vals xs its.toList
theorem TpK.sq {K : PySem.W.Frag} {G : Hp} {a : Addr} {xs : List V} (h : TpK K G a xs) : SqT K G a xs := by
  rcases h with h | h
  · exact .inl (.inl h)
  · exact .inr h
theorem TpK.mono {K : PySem.W.Frag} {G G' : Hp} {a : Addr} {xs : List V} (e : Ex G G') (h : TpK K G a xs) : TpK K G' a xs := by
  rcases h with h | h
  · exact .inl (e _ _ h)
  · exact .inr h
/-! ### which value bears which data; A: where the open lists stand -/
mutual
inductive Rp (K : PySem.W.Frag) (A : List Addr) (G : Hp) : D → V → Prop
  | v (x : V) : Rp K A G (.v x) x
  | own {k : Nat} {a : Addr} : A[k]? = some a → Rp K A G (.own k) (.ref a)
  | lst {l : List D} {a : Addr} {xs : List V} : G a = some (.lst xs) → RpL K A G l xs → Rp K A G (.lst l) (.ref a)
  | rd {l : List D} {a : Addr} {xs : List V} : SqL K G a xs → RpL K A G l xs → Rp K A G (.rd l) (.ref a)
  | tup {l : List D} {a : Addr} {xs : List V} : TpK K G a xs → RpL K A G l xs → Rp K A G (.tup l) (.ref a)
  | dic {ks : List Key} {l : List D} {a : Addr} {xs : List V} : ks.length = xs.length → G a = some (.dK (ks.zip xs)) → RpL K A G l xs → Rp K A G (.dic ks l) (.ref a)
  | exc {c a dx : Addr} {d : D} {u : V} : G a = some (exq a c dx) → G dx = some (exd dx [(("value" : Str), u)]) → Rp K A G d u → Rp K A G (.exc c d) (.ref a)
inductive RpL (K : PySem.W.Frag) (A : List Addr) (G : Hp) : List D → List V → Prop
  | nil : RpL K A G [] []
  | cons {d : D} {v : V} {l : List D} {xs : List V} : Rp K A G d v → RpL K A G l xs → RpL K A G (d :: l) (v :: xs)
end
/-! all handles in it suit p -/
mutual
def D.hs (p : Nat → Bool) : D → Bool
  | .v _ => true
  | .own k => p k
  | .lst l => D.hsL p l
  | .rd l => D.hsL p l
  | .tup l => D.hsL p l
  | .dic _ l => D.hsL p l
  | .exc _ d => D.hs p d
def D.hsL (p : Nat → Bool) : List D → Bool
  | [] => true
  | d :: l => D.hs p d && D.hsL p l
end
/-- all handles are below n -/
abbrev D.lt (n : Nat) (d : D) : Bool := D.hs (fun k => decide (k < n)) d
abbrev D.ltL (n : Nat) (l : List D) : Bool := D.hsL (fun k => decide (k < n)) l
/-! handles moved -/
mutual
def D.ren (f : Nat → Nat) : D → D
  | .v x => .v x
  | .own k => .own (f k)
  | .lst l => .lst (D.renL f l)
  | .rd l => .rd (D.renL f l)
  | .tup l => .tup (D.renL f l)
  | .dic ks l => .dic ks (D.renL f l)
  | .exc c d => .exc c (D.ren f d)
def D.renL (f : Nat → Nat) : List D → List D
  | [] => []
  | d :: l => D.ren f d :: D.renL f l
end
/-! the open list k read as l -/
mutual
def D.sub (g : Nat → Option (List D)) : D → D
  | .v x => .v x
  | .own k => match g k with
    | some l => .lst l
    | none => .own k
  | .lst l => .lst (D.subL g l)
  | .rd l => .rd (D.subL g l)
  | .tup l => .tup (D.subL g l)
  | .dic ks l => .dic ks (D.subL g l)
  | .exc c d => .exc c (D.sub g d)
def D.subL (g : Nat → Option (List D)) : List D → List D
  | [] => []
  | d :: l => D.sub g d :: D.subL g l
end
section
variable {K : PySem.W.Frag} {G G' : Hp} {A B A' : List Addr}
theorem getE {A B : List Addr} {k : Nat} {a : Addr} (h : A[k]? = some a) : (A ++ B)[k]? = some a := by
  rw [List.getElem?_append_left (List.getElem?_eq_some_iff.mp h).1]
  exact h
mutual
theorem Rp.mono (e : Ex G G') : ∀ {d : D} {x : V}, Rp K A G d x → Rp K (A ++ B) G' d x
  | _, _, .v x => .v x
  | _, _, .own h => .own (getE h)
  | _, _, .lst h r => .lst (e _ _ h) (RpL.mono e r)
  | _, _, .rd h r => .rd (ex_l e h) (RpL.mono e r)
  | _, _, .tup h r => .tup (h.mono e) (RpL.mono e r)
  | _, _, .dic n h r => .dic n (e _ _ h) (RpL.mono e r)
  | _, _, .exc h1 h2 r => .exc (e _ _ h1) (e _ _ h2) (Rp.mono e r)
theorem RpL.mono (e : Ex G G') : ∀ {l : List D} {xs : List V}, RpL K A G l xs → RpL K (A ++ B) G' l xs
  | _, _, .nil => .nil
  | _, _, .cons h r => .cons (Rp.mono e h) (RpL.mono e r)
end
theorem Rp.mono0 (e : Ex G G') {d : D} {x : V} (h : Rp K A G d x) : Rp K A G' d x := by
  have q := Rp.mono (B := []) e h
  rw [List.append_nil] at q
  exact q
theorem RpL.mono0 (e : Ex G G') {d : List D} {x : List V} (h : RpL K A G d x) : RpL K A G' d x := by
  have q := RpL.mono (B := []) e h
  rw [List.append_nil] at q
  exact q
/-! other addresses of the open lists, the same where it matters -/
mutual
theorem Rp.ren {f : Nat → Nat} {p : Nat → Bool} (hf : ∀ k a, p k = true → A[k]? = some a → A'[f k]? = some a) : ∀ {d : D} {x : V}, Rp K A G d x → d.hs p = true → Rp K A' G (d.ren f) x
  | _, _, .v x, _ => .v x
  | _, _, .own h, hl => .own (hf _ _ hl h)
  | _, _, .lst h r, hl => .lst h (RpL.ren hf r hl)
  | _, _, .rd h r, hl => .rd h (RpL.ren hf r hl)
  | _, _, .tup h r, hl => .tup h (RpL.ren hf r hl)
  | _, _, .dic n h r, hl => .dic (n.trans rfl) h (RpL.ren hf r hl)
  | _, _, .exc h1 h2 r, hl => .exc h1 h2 (Rp.ren hf r hl)
theorem RpL.ren {f : Nat → Nat} {p : Nat → Bool} (hf : ∀ k a, p k = true → A[k]? = some a → A'[f k]? = some a) : ∀ {l : List D} {xs : List V}, RpL K A G l xs → D.hsL p l = true → RpL K A' G (D.renL f l) xs
  | _, _, .nil, _ => .nil
  | _, _, .cons (d := d) (l := l) h r, hl => by
    have hl : (D.hs p d && D.hsL p l) = true := hl
    rw [Bool.and_eq_true] at hl
    exact .cons (Rp.ren hf h hl.1) (RpL.ren hf r hl.2)
end
mutual
theorem D.ren_id {f : Nat → Nat} {p : Nat → Bool} (hf : ∀ k, p k = true → f k = k) : ∀ {d : D}, d.hs p = true → d.ren f = d
  | .v _, _ => rfl
  | .own k, h => congrArg D.own (hf k h)
  | .lst l, h => congrArg D.lst (D.renL_id hf h)
  | .rd l, h => congrArg D.rd (D.renL_id hf h)
  | .tup l, h => congrArg D.tup (D.renL_id hf h)
  | .dic ks l, h => congrArg (D.dic ks) (D.renL_id hf h)
  | .exc c d, h => congrArg (D.exc c) (D.ren_id hf h)
theorem D.renL_id {f : Nat → Nat} {p : Nat → Bool} (hf : ∀ k, p k = true → f k = k) : ∀ {l : List D}, D.hsL p l = true → D.renL f l = l
  | [], _ => rfl
  | d :: l, h => by
    have h : (D.hs p d && D.hsL p l) = true := h
    rw [Bool.and_eq_true] at h
    show D.ren f d :: D.renL f l = d :: l
    rw [D.ren_id hf h.1, D.renL_id hf h.2]
end
theorem Rp.keepP {p : Nat → Bool} (hf : ∀ k a, p k = true → A[k]? = some a → A'[k]? = some a) {d : D} {x : V} (h : Rp K A G d x) (hl : d.hs p = true) : Rp K A' G d x := by
  have q := Rp.ren (f := fun k => k) hf h hl
  rw [D.ren_id (fun _ _ => rfl) hl] at q
  exact q
theorem RpL.keepP {p : Nat → Bool} (hf : ∀ k a, p k = true → A[k]? = some a → A'[k]? = some a) {d : List D} {x : List V} (h : RpL K A G d x) (hl : D.hsL p d = true) : RpL K A' G d x := by
  have q := RpL.ren (f := fun k => k) hf h hl
  rw [D.renL_id (fun _ _ => rfl) hl] at q
  exact q
theorem Rp.keep {n : Nat} (hf : ∀ k a, k < n → A[k]? = some a → A'[k]? = some a) {d : D} {x : V} (h : Rp K A G d x) (hl : d.lt n = true) : Rp K A' G d x := h.keepP (fun k a z => hf k a (of_decide_eq_true z)) hl
theorem RpL.keep {n : Nat} (hf : ∀ k a, k < n → A[k]? = some a → A'[k]? = some a) {d : List D} {x : List V} (h : RpL K A G d x) (hl : D.ltL n d = true) : RpL K A' G d x := h.keepP (fun k a z => hf k a (of_decide_eq_true z)) hl
/-- without handles: anywhere -/
theorem Rp.cl {d : D} {x : V} (h : Rp K A G d x) (hl : d.lt 0 = true) : Rp K A' G d x := h.keep (fun k a z => absurd z (Nat.not_lt_zero k)) hl
theorem RpL.cl {d : List D} {x : List V} (h : RpL K A G d x) (hl : D.ltL 0 d = true) : RpL K A' G d x := h.keep (fun k a z => absurd z (Nat.not_lt_zero k)) hl
mutual
theorem D.hs_mono {p q : Nat → Bool} (hp : ∀ k, p k = true → q k = true) : ∀ {d : D}, d.hs p = true → d.hs q = true
  | .v _, _ => rfl
  | .own k, h => hp k h
  | .lst l, h => D.hsL_mono (l := l) hp h
  | .rd l, h => D.hsL_mono (l := l) hp h
  | .tup l, h => D.hsL_mono (l := l) hp h
  | .dic ks l, h => D.hsL_mono (l := l) hp h
  | .exc c d, h => D.hs_mono (d := d) hp h
theorem D.hsL_mono {p q : Nat → Bool} (hp : ∀ k, p k = true → q k = true) : ∀ {l : List D}, D.hsL p l = true → D.hsL q l = true
  | [], _ => rfl
  | d :: l, h => by
    have h : (D.hs p d && D.hsL p l) = true := h
    rw [Bool.and_eq_true] at h
    show (D.hs q d && D.hsL q l) = true
    rw [D.hs_mono hp h.1, D.hsL_mono hp h.2]
    rfl
end
theorem D.lt_mono {n m : Nat} (hm : n ≤ m) {d : D} (h : d.lt n = true) : d.lt m = true := D.hs_mono (fun k z => decide_eq_true (Nat.lt_of_lt_of_le (of_decide_eq_true z) hm)) h
theorem D.ltL_mono {n m : Nat} (hm : n ≤ m) {l : List D} (h : D.ltL n l = true) : D.ltL m l = true := D.hsL_mono (fun k z => decide_eq_true (Nat.lt_of_lt_of_le (of_decide_eq_true z) hm)) h
theorem D.hsL_all {p : Nat → Bool} : ∀ {l : List D}, D.hsL p l = true ↔ ∀ d ∈ l, d.hs p = true
  | [] => ⟨fun _ d h => (by cases h), fun _ => rfl⟩
  | d :: l => by
    show (D.hs p d && D.hsL p l) = true ↔ _
    rw [Bool.and_eq_true, D.hsL_all (l := l)]
    constructor
    · rintro ⟨h1, h2⟩ x hx
      rcases List.mem_cons.mp hx with rfl | hx
      · exact h1
      · exact h2 x hx
    · intro h
      exact ⟨h d List.mem_cons_self, fun x hx => h x (List.mem_cons_of_mem _ hx)⟩
theorem D.ltL_all {n : Nat} {l : List D} : D.ltL n l = true ↔ ∀ d ∈ l, d.lt n = true := D.hsL_all
/-! some open lists read as they stand -/
mutual
theorem Rp.sub {g : Nat → Option (List D)} (e : Ex G G') (hg : ∀ k a l, A[k]? = some a → g k = some l → ∃ xs, G' a = some (.lst xs) ∧ RpL K A G' l xs) : ∀ {d : D} {x : V}, Rp K A G d x → Rp K A G' (d.sub g) x
  | _, _, .v x => .v x
  | _, _, .own (k := k) h => by
    show Rp K A G' (match g k with | some l => .lst l | none => .own k) _
    cases q : g k with
    | none => exact .own h
    | some l =>
      obtain ⟨xs, h1, h2⟩ := hg k _ l h q
      exact .lst h1 h2
  | _, _, .lst h r => .lst (e _ _ h) (RpL.sub e hg r)
  | _, _, .rd h r => .rd (ex_l e h) (RpL.sub e hg r)
  | _, _, .tup h r => .tup (h.mono e) (RpL.sub e hg r)
  | _, _, .dic n h r => .dic n (e _ _ h) (RpL.sub e hg r)
  | _, _, .exc h1 h2 r => .exc (e _ _ h1) (e _ _ h2) (Rp.sub e hg r)
theorem RpL.sub {g : Nat → Option (List D)} (e : Ex G G') (hg : ∀ k a l, A[k]? = some a → g k = some l → ∃ xs, G' a = some (.lst xs) ∧ RpL K A G' l xs) : ∀ {l : List D} {xs : List V}, RpL K A G l xs → RpL K A G' (D.subL g l) xs
  | _, _, .nil => .nil
  | _, _, .cons h r => .cons (Rp.sub e hg h) (RpL.sub e hg r)
end
theorem RpL.len : ∀ {l : List D} {xs : List V}, RpL K A G l xs → l.length = xs.length
  | _, _, .nil => rfl
  | _, _, .cons _ r => congrArg Nat.succ (RpL.len r)
theorem RpL.get : ∀ {l : List D} {xs : List V} {i : Nat} {d : D}, RpL K A G l xs → l[i]? = some d → ∃ x, xs[i]? = some x ∧ Rp K A G d x
  | _, _, _, _, .nil, e => by simp at e
  | _, _, 0, _, .cons h _, e => by simp at e; subst e; exact ⟨_, rfl, h⟩
  | _, _, i + 1, d, .cons _ r, e => by
    obtain ⟨x, h1, h2⟩ := RpL.get (i := i) (d := d) r (by simpa using e)
    exact ⟨x, by simpa using h1, h2⟩
theorem RpL.got : ∀ {l : List D} {xs : List V} {i : Nat} {x : V}, RpL K A G l xs → xs[i]? = some x → ∃ d, l[i]? = some d ∧ Rp K A G d x
  | _, _, _, _, .nil, e => by simp at e
  | _, _, 0, _, .cons h _, e => by simp at e; subst e; exact ⟨_, rfl, h⟩
  | _, _, i + 1, x, .cons _ r, e => by
    obtain ⟨d, h1, h2⟩ := RpL.got (i := i) (x := x) r (by simpa using e)
    exact ⟨d, by simpa using h1, h2⟩
theorem RpL.append : ∀ {l m : List D} {xs ys : List V}, RpL K A G l xs → RpL K A G m ys → RpL K A G (l ++ m) (xs ++ ys)
  | _, _, _, _, .nil, s => s
  | _, _, _, _, .cons h r, s => .cons h (RpL.append r s)
theorem RpL.set {d : D} {x : V} (h : Rp K A G d x) : ∀ {l : List D} {xs : List V} (i : Nat), RpL K A G l xs → RpL K A G (l.set i d) (xs.set i x)
  | _, _, _, .nil => .nil
  | _, _, 0, .cons _ r => .cons h r
  | _, _, i + 1, .cons q r => .cons q (RpL.set h i r)
theorem RpL.drop : ∀ {l : List D} {xs : List V} (n : Nat), RpL K A G l xs → RpL K A G (l.drop n) (xs.drop n)
  | _, _, 0, r => r
  | _, _, _ + 1, .nil => .nil
  | _, _, n + 1, .cons _ r => RpL.drop n r
theorem RpL.take : ∀ {l : List D} {xs : List V} (n : Nat), RpL K A G l xs → RpL K A G (l.take n) (xs.take n)
  | _, _, 0, _ => .nil
  | _, _, _ + 1, .nil => .nil
  | _, _, n + 1, .cons h r => .cons h (RpL.take n r)
theorem RpL.reverse {l : List D} {xs : List V} (r : RpL K A G l xs) : RpL K A G l.reverse xs.reverse := by
  have key : ∀ {l m : List D} {xs ys : List V}, RpL K A G l xs → RpL K A G m ys → RpL K A G (l.reverseAux m) (xs.reverseAux ys) := by
    intro l
    induction l with
    | nil =>
      intro m xs ys h s
      cases h
      exact s
    | cons d l ih =>
      intro m xs ys h s
      cases h with
      | cons h r =>
        have q := ih r (RpL.cons h s)
        exact q
  exact key r .nil
/-- values themselves -/
theorem RpL.vals : ∀ (xs : List V), RpL K A G (xs.map D.v) xs
  | [] => .nil
  | x :: xs => .cons (.v x) (RpL.vals xs)
theorem RpL.of_vals : ∀ {ys xs : List V}, RpL K A G (ys.map D.v) xs → xs = ys
  | [], _, h => by cases h; rfl
  | y :: ys, _, h => by
    cases h with
    | cons h r =>
      cases h
      rw [RpL.of_vals r]
theorem Rp.vOf {x u : V} (h : Rp K A G (.v x) u) : u = x := by cases h; rfl
end

/-! ### states -/
/-- an open list; one that is shut -/
inductive Cell where
  | lst (l : List D)
  | off
def CellAt (K : PySem.W.Frag) (A : List Addr) (G H : Hp) (a : Addr) : Cell → Prop
  | .lst l => G a = none ∧ ∃ xs, H a = some (.lst xs) ∧ RpL K A G l xs
  | .off => True
abbrev Sl := List (Option D)
/-- the slots -/
inductive En (K : PySem.W.Frag) (A : List Addr) (G : Hp) : Sl → St → Prop
  | nil : En K A G [] []
  | skip {δ : Sl} {σ : St} {o : Option V} : En K A G δ σ → En K A G (none :: δ) (o :: σ)
  | cons {δ : Sl} {σ : St} {d : D} {v : V} : Rp K A G d v → En K A G δ σ → En K A G (some d :: δ) (some v :: σ)
/-- where a def began -/
structure Bs where
  A : List Addr
  G : Hp
  H : Hp
structure Mem (K : PySem.W.Frag) (S : Bs) (A : List Addr) (G H : Hp) (μ : List Cell) : Prop where
  ex : Ex G H
  exG : Ex S.G G
  pre : ∃ B, A = S.A ++ B ∧ ∀ b ∈ B, S.H b = none
  new : ∀ p, G p ≠ none → S.G p ≠ none ∨ S.H p = none
  keep : ∀ a o, a ∉ S.A → S.H a = some o → H a = some o
  cel : ∀ (k : Nat) (a : Addr) (c : Cell), A[k]? = some a → μ[k]? = some c → CellAt K A G H a c
  len : A.length = μ.length
  nd : A.Nodup
  al : ∀ a ∈ A, H a ≠ none
structure At (K : PySem.W.Frag) (S : Bs) (A : List Addr) (G H : Hp) (σ : St) (δ : Sl) (μ : List Cell) : Prop where
  m : Mem K S A G H μ
  env : En K A G δ σ
section
variable {K : PySem.W.Frag} {S : Bs} {A B : List Addr} {G G' H H' : Hp} {σ : St} {δ : Sl} {μ : List Cell}
theorem En.mono (e : Ex G G') : ∀ {δ : Sl} {σ : St}, En K A G δ σ → En K (A ++ B) G' δ σ
  | _, _, .nil => .nil
  | _, _, .skip r => .skip (En.mono e r)
  | _, _, .cons h r => .cons (h.mono e) (En.mono e r)
theorem En.mono0 (e : Ex G G') {δ : Sl} {σ : St} (h : En K A G δ σ) : En K A G' δ σ := by
  have q := En.mono (B := []) e h
  rw [List.append_nil] at q
  exact q
theorem En.get : ∀ {δ : Sl} {σ : St} {i : Nat} {d : D}, En K A G δ σ → δ[i]? = some (some d) → ∃ v, σ[i]? = some (some v) ∧ Rp K A G d v
  | _, _, _, _, .nil, e => by simp at e
  | _, _, 0, _, .skip _, e => by simp at e
  | _, _, 0, _, .cons h _, e => by simp at e; subst e; exact ⟨_, rfl, h⟩
  | _, _, i + 1, d, .skip r, e => by
    obtain ⟨v, h1, h2⟩ := En.get (i := i) (d := d) r (by simpa using e)
    exact ⟨v, by simpa using h1, h2⟩
  | _, _, i + 1, d, .cons _ r, e => by
    obtain ⟨v, h1, h2⟩ := En.get (i := i) (d := d) r (by simpa using e)
    exact ⟨v, by simpa using h1, h2⟩
theorem En.set {d : D} {v : V} (h : Rp K A G d v) : ∀ {δ : Sl} {σ : St} (i : Nat), En K A G δ σ → En K A G (δ.set i (some d)) (σ.set i (some v))
  | _, _, _, .nil => .nil
  | _, _, 0, .skip r => .cons h r
  | _, _, 0, .cons _ r => .cons h r
  | _, _, i + 1, .skip r => .skip (En.set h i r)
  | _, _, i + 1, .cons q r => .cons q (En.set h i r)
theorem En.unset : ∀ {δ : Sl} {σ : St} (i : Nat) (o : Option V), En K A G δ σ → En K A G (δ.set i none) (σ.set i o)
  | _, _, _, _, .nil => .nil
  | _, _, 0, _, .skip r => .skip r
  | _, _, 0, _, .cons _ r => .skip r
  | _, _, i + 1, o, .skip r => .skip (En.unset i o r)
  | _, _, i + 1, o, .cons q r => .cons q (En.unset i o r)
/-- forgetting slots -/
inductive Less : Sl → Sl → Prop
  | nil : Less [] []
  | drop {δ ε : Sl} {o : Option D} : Less δ ε → Less (o :: δ) (none :: ε)
  | keep {δ ε : Sl} {o : Option D} : Less δ ε → Less (o :: δ) (o :: ε)
theorem En.less : ∀ {δ ε : Sl} {σ : St}, En K A G δ σ → Less δ ε → En K A G ε σ
  | _, _, _, .nil, .nil => .nil
  | _, _, _, .skip r, .drop l => .skip (En.less r l)
  | _, _, _, .skip r, .keep l => .skip (En.less r l)
  | _, _, _, .cons _ r, .drop l => .skip (En.less r l)
  | _, _, _, .cons h r, .keep l => .cons h (En.less r l)
theorem Less.refl : ∀ δ : Sl, Less δ δ
  | [] => .nil
  | _ :: δ => .keep (Less.refl δ)

/-- new objects came, nothing else -/
theorem Mem.grow (m : Mem K S A G H μ) (e : Ex G' H') (eG : Ex G G') (eH : Ex H H') (n : ∀ p, G' p ≠ none → G p ≠ none ∨ H p = none) : Mem K S A G' H' μ where
  ex := e
  exG := m.exG.trans eG
  pre := m.pre
  new := fun p hp => by
    rcases n p hp with h | h
    · exact m.new p h
    · by_cases ha : p ∈ S.A
      · obtain ⟨B, hB, _⟩ := m.pre
        exact absurd h (m.al p (by rw [hB]; exact List.mem_append_left _ ha))
      · cases q : S.H p with
        | none => exact .inr rfl
        | some o =>
          rw [m.keep p o ha q] at h
          cases h
  keep := fun a o h1 h2 => eH _ _ (m.keep a o h1 h2)
  cel := fun k a c h1 h2 => by
    have q := m.cel k a c h1 h2
    cases c with
    | off => trivial
    | lst l =>
      obtain ⟨g, xs, hx, r⟩ := q
      refine ⟨?_, xs, eH _ _ hx, r.mono0 eG⟩
      cases z : G' a with
      | none => rfl
      | some o =>
        rcases n a (by rw [z]; exact fun h => nomatch h) with h | h
        · exact absurd g h
        · rw [hx] at h
          cases h
  len := m.len
  nd := m.nd
  al := fun a ha h => by
    cases q : H a with
    | none => exact m.al a ha q
    | some o =>
      rw [eH a o q] at h
      cases h
/-- a new object that is known -/
theorem Mem.laid (m : Mem K S A G H μ) {p : Addr} {o : HO} (hp : H p = none) : Mem K S A (upd G p o) (upd H p o) μ :=
  m.grow (Ex.both m.ex) (Ex.new (m.ex.free hp)) (Ex.new hp) fun q h => by
    by_cases e : q = p
    · exact .inr (by rw [e]; exact hp)
    · rw [upd_ne e] at h
      exact .inl h
/-- a new open list -/
theorem Mem.opened (m : Mem K S A G H μ) {p : Addr} {xs : List V} {l : List D} (hp : H p = none) (r : RpL K A G l xs) : Mem K S (A ++ [p]) G (upd H p (.lst xs)) (μ ++ [.lst l]) where
  ex := m.ex.side (m.ex.free hp)
  exG := m.exG
  pre := by
    obtain ⟨B, hB, hb⟩ := m.pre
    refine ⟨B ++ [p], by rw [hB, List.append_assoc], fun b h => ?_⟩
    rcases List.mem_append.mp h with h | h
    · exact hb b h
    · have e : b = p := by simpa using h
      subst e
      by_cases ha : b ∈ S.A
      · exact absurd hp (m.al b (by rw [hB]; exact List.mem_append_left _ ha))
      · cases q : S.H b with
        | none => rfl
        | some o =>
          rw [m.keep b o ha q] at hp
          cases hp
  new := m.new
  keep := fun a o h1 h2 => by
    have q := m.keep a o h1 h2
    rw [upd_ne (ne_of_none q hp)]
    exact q
  cel := fun k a c h1 h2 => by
    by_cases hk : k < A.length
    · rw [List.getElem?_append_left hk] at h1
      rw [List.getElem?_append_left (by rw [← m.len]; exact hk)] at h2
      have q := m.cel k a c h1 h2
      cases c with
      | off => trivial
      | lst l' =>
        obtain ⟨g, ys, hy, r'⟩ := q
        exact ⟨g, ys, by rw [upd_ne (ne_of_none hy hp)]; exact hy, r'.mono (Ex.refl G)⟩
    · have e1 : k = A.length := by
        have z := (List.getElem?_eq_some_iff.mp h1).1
        rw [List.length_append, List.length_singleton] at z
        omega
      subst e1
      rw [List.getElem?_append_right (Nat.le_refl _), Nat.sub_self] at h1
      rw [List.getElem?_append_right (by rw [m.len]; exact Nat.le_refl _), m.len, Nat.sub_self] at h2
      cases h1
      cases h2
      exact ⟨m.ex.free hp, xs, upd_same, r.mono (Ex.refl G)⟩
  len := by rw [List.length_append, List.length_append, m.len]; rfl
  nd := by
    refine List.nodup_append.mpr ⟨m.nd, by simp, fun a ha b hb e => ?_⟩
    have e2 : b = p := by simpa using hb
    rw [e, e2] at ha
    exact m.al p ha hp
  al := fun a ha h => by
    rcases List.mem_append.mp ha with ha | ha
    · by_cases e : a = p
      · rw [e] at ha
        exact m.al p ha hp
      · rw [upd_ne e] at h
        exact m.al a ha h
    · have e2 : a = p := by simpa using ha
      rw [e2, upd_same] at h
      cases h
/-- an open list is changed -/
theorem Mem.wrote (m : Mem K S A G H μ) {k : Nat} {a : Addr} {xs : List V} {l l' : List D} (hA : A[k]? = some a) (hc : μ[k]? = some (.lst l)) (r : RpL K A G l' xs) : Mem K S A G (upd H a (.lst xs)) (μ.set k (.lst l')) where
  ex := m.ex.side (m.cel k a _ hA hc).1
  exG := m.exG
  pre := m.pre
  new := m.new
  keep := fun b o h1 h2 => by
    by_cases e : b = a
    · subst e
      obtain ⟨B, hB, hb⟩ := m.pre
      have hm : b ∈ A := List.mem_of_getElem? hA
      rw [hB] at hm
      rcases List.mem_append.mp hm with q | q
      · exact absurd q h1
      · rw [hb b q] at h2
        cases h2
    · rw [upd_ne e]
      exact m.keep b o h1 h2
  cel := fun j b c h1 h2 => by
    by_cases e : j = k
    · subst e
      rw [hA] at h1
      cases h1
      rw [List.getElem?_set_self (List.getElem?_eq_some_iff.mp hc).1] at h2
      cases h2
      exact ⟨(m.cel j a _ hA hc).1, xs, upd_same, r⟩
    · rw [List.getElem?_set_ne (Ne.symm e)] at h2
      have q := m.cel j b c h1 h2
      cases c with
      | off => trivial
      | lst l2 =>
        obtain ⟨g, ys, hy, r'⟩ := q
        refine ⟨g, ys, ?_, r'⟩
        rw [upd_ne (fun z => ?_)]
        · exact hy
        · subst z
          obtain ⟨q1, e1⟩ := List.getElem?_eq_some_iff.mp h1
          obtain ⟨q2, e2⟩ := List.getElem?_eq_some_iff.mp hA
          exact e ((List.getElem_inj m.nd).mp (e1.trans e2.symm))
  len := by rw [List.length_set]; exact m.len
  nd := m.nd
  al := fun b hb h => by
    by_cases e : b = a
    · rw [e, upd_same] at h
      cases h
    · rw [upd_ne e] at h
      exact m.al b hb h
/-- an open list of one's own is shut: from now on it is plain data -/
theorem Mem.shut (m : Mem K S A G H μ) {k : Nat} {a : Addr} {xs : List V} {l : List D} (hk : S.A.length ≤ k) (hA : A[k]? = some a) (hc : μ[k]? = some (.lst l)) (hx : H a = some (.lst xs)) : Mem K S A (upd G a (.lst xs)) H (μ.set k .off) := by
  have g := (m.cel k a _ hA hc).1
  have eH : Ex (upd G a (.lst xs)) H := fun b o h => by
    by_cases e : b = a
    · rw [e, upd_same] at h
      cases h
      rw [e]
      exact hx
    · rw [upd_ne e] at h
      exact m.ex b o h
  exact {
    ex := eH
    exG := m.exG.trans (Ex.new g)
    pre := m.pre
    new := fun p hp => by
      by_cases e : p = a
      · obtain ⟨B, hB, hb⟩ := m.pre
        refine .inr ?_
        rw [e]
        refine hb a ?_
        rw [hB, List.getElem?_append_right hk] at hA
        exact List.mem_of_getElem? hA
      · rw [upd_ne e] at hp
        exact m.new p hp
    keep := m.keep
    cel := fun j b c h1 h2 => by
      by_cases e : j = k
      · subst e
        rw [List.getElem?_set_self (List.getElem?_eq_some_iff.mp hc).1] at h2
        cases h2
        trivial
      · rw [List.getElem?_set_ne (Ne.symm e)] at h2
        have q := m.cel j b c h1 h2
        cases c with
        | off => trivial
        | lst l2 =>
          obtain ⟨g2, ys, hy, r'⟩ := q
          refine ⟨?_, ys, hy, r'.mono0 (Ex.new g)⟩
          rw [upd_ne (fun z => ?_)]
          · exact g2
          · subst z
            obtain ⟨q1, e1⟩ := List.getElem?_eq_some_iff.mp h1
            obtain ⟨q2, e2⟩ := List.getElem?_eq_some_iff.mp hA
            exact e ((List.getElem_inj m.nd).mp (e1.trans e2.symm))
    len := by rw [List.length_set]; exact m.len
    nd := m.nd
    al := m.al }
end
end PA

set_option Elab.async false
set_option linter.all false
set_option maxRecDepth 100000
set_option maxHeartbeats 2000000
/-! PbRules: what readings do to states of data. -/
namespace PA
open PySem L2

/-- later: more open lists, more known -/
structure Nw (A : List Addr) (G : Hp) (A' : List Addr) (G' : Hp) : Prop where
  pre : ∃ B, A' = A ++ B
  ex : Ex G G'
section
variable {K : PySem.W.Frag} {S : Bs} {A A' A2 : List Addr} {G G' G2 H H' : Hp} {σ : St} {δ : Sl} {μ : List Cell}
theorem Nw.refl : Nw A G A G := ⟨⟨[], (List.append_nil A).symm⟩, Ex.refl G⟩
theorem Nw.of (e : Ex G G') : Nw A G A G' := ⟨⟨[], (List.append_nil A).symm⟩, e⟩
theorem Nw.trans (a : Nw A G A' G') (b : Nw A' G' A2 G2) : Nw A G A2 G2 := by
  obtain ⟨⟨B, hB⟩, e1⟩ := a
  obtain ⟨⟨B', hB'⟩, e2⟩ := b
  exact ⟨⟨B ++ B', by rw [hB', hB, List.append_assoc]⟩, e1.trans e2⟩
theorem Nw.rp (n : Nw A G A' G') {d : D} {x : V} (h : Rp K A G d x) : Rp K A' G' d x := by
  obtain ⟨⟨B, hB⟩, e⟩ := n
  subst hB
  exact h.mono e
theorem Nw.rpl (n : Nw A G A' G') {l : List D} {xs : List V} (h : RpL K A G l xs) : RpL K A' G' l xs := by
  obtain ⟨⟨B, hB⟩, e⟩ := n
  subst hB
  exact h.mono e
theorem Nw.en (n : Nw A G A' G') (h : En K A G δ σ) : En K A' G' δ σ := by
  obtain ⟨⟨B, hB⟩, e⟩ := n
  subst hB
  exact h.mono e
end

/-! ### the judgements -/
def EE (K : PySem.W.Frag) (S : Bs) (te : TE) (δ : Sl) (μ : List Cell) (C : D → List Cell → Prop) : Prop :=
  ∀ A G H σ, At K S A G H σ δ μ → ∀ Q : VK, (∀ v d A' G' H' μ', Mem K S A' G' H' μ' → Nw A G A' G' → Rp K A' G' d v → C d μ' → Q v H') → te σ H Q
def ET (K : PySem.W.Frag) (S : Bs) (t : TT) (δ : Sl) (μ : List Cell) (C : Bool → List Cell → Prop) : Prop :=
  ∀ A G H σ, At K S A G H σ δ μ → ∀ Q : Bool → Hp → Prop, (∀ b A' G' H' μ', Mem K S A' G' H' μ' → Nw A G A' G' → C b μ' → Q b H') → t σ H Q
def EA (K : PySem.W.Frag) (S : Bs) (t : TA) (δ : Sl) (μ : List Cell) (C : List D → List Cell → Prop) : Prop :=
  ∀ A G H σ, At K S A G H σ δ μ → ∀ Q : List V → Hp → Prop, (∀ vs ds A' G' H' μ', Mem K S A' G' H' μ' → Nw A G A' G' → RpL K A' G' ds vs → C ds μ' → Q vs H') → t σ H Q
def EO (K : PySem.W.Frag) (S : Bs) (t : TO) (δ : Sl) (μ : List Cell) (C : Option Int → List Cell → Prop) : Prop :=
  ∀ A G H σ, At K S A G H σ δ μ → ∀ Q : Option Int → Hp → Prop, (∀ o A' G' H' μ', Mem K S A' G' H' μ' → Nw A G A' G' → C o μ' → Q o H') → t σ H Q
/-- two-place operations, one-place ones, calls, methods -/
def OO (K : PySem.W.Frag) (S : Bs) (r : R2) (x y : D) (μ : List Cell) (C : D → List Cell → Prop) : Prop :=
  ∀ A G H u w, Mem K S A G H μ → Rp K A G x u → Rp K A G y w → ∀ Q : VK, (∀ v d A' G' H' μ', Mem K S A' G' H' μ' → Nw A G A' G' → Rp K A' G' d v → C d μ' → Q v H') → r u w H Q
def UU (K : PySem.W.Frag) (S : Bs) (r : V → Hp → VK → Prop) (x : D) (μ : List Cell) (C : D → List Cell → Prop) : Prop :=
  ∀ A G H u, Mem K S A G H μ → Rp K A G x u → ∀ Q : VK, (∀ v d A' G' H' μ', Mem K S A' G' H' μ' → Nw A G A' G' → Rp K A' G' d v → C d μ' → Q v H') → r u H Q
def CC (K : PySem.W.Frag) (S : Bs) (r : List V → Hp → VK → Prop) (ds : List D) (μ : List Cell) (C : D → List Cell → Prop) : Prop :=
  ∀ A G H vs, Mem K S A G H μ → RpL K A G ds vs → ∀ Q : VK, (∀ v d A' G' H' μ', Mem K S A' G' H' μ' → Nw A G A' G' → Rp K A' G' d v → C d μ' → Q v H') → r vs H Q
def MM (K : PySem.W.Frag) (S : Bs) (r : V → List V → Hp → VK → Prop) (x : D) (ds : List D) (μ : List Cell) (C : D → List Cell → Prop) : Prop :=
  ∀ A G H u vs, Mem K S A G H μ → Rp K A G x u → RpL K A G ds vs → ∀ Q : VK, (∀ v d A' G' H' μ', Mem K S A' G' H' μ' → Nw A G A' G' → Rp K A' G' d v → C d μ' → Q v H') → r u vs H Q
/-- where statements go -/
structure Cn where
  nx : Sl → List Cell → Prop
  rt : D → List Cell → Prop
  bk : Sl → List Cell → Prop := fun _ _ => False
  ct : Sl → List Cell → Prop := fun _ _ => False
structure Fi (K : PySem.W.Frag) (S : Bs) (A0 : List Addr) (G0 : Hp) (E : Ends) (C : Cn) : Prop where
  nx : ∀ A G H σ δ μ, At K S A G H σ δ μ → Nw A0 G0 A G → C.nx δ μ → E.nx σ H
  rt : ∀ A G H v d μ, Mem K S A G H μ → Rp K A G d v → C.rt d μ → E.rt v H
  bk : ∀ A G H σ δ μ, At K S A G H σ δ μ → Nw A0 G0 A G → C.bk δ μ → E.bk σ H
  ct : ∀ A G H σ δ μ, At K S A G H σ δ μ → Nw A0 G0 A G → C.ct δ μ → E.ct σ H
def SE (K : PySem.W.Frag) (S : Bs) (t : TS) (δ : Sl) (μ : List Cell) (C : Cn) : Prop :=
  ∀ A G H σ, At K S A G H σ δ μ → ∀ E : Ends, Fi K S A G E C → t E σ H
def GE (K : PySem.W.Frag) (S : Bs) (g : TG) (d : D) (δ : Sl) (μ : List Cell) (C : Sl → List Cell → Prop) : Prop :=
  ∀ A G H σ v, At K S A G H σ δ μ → Rp K A G d v → ∀ Q : St → Hp → Prop, (∀ A' G' H' σ' δ' μ', At K S A' G' H' σ' δ' μ' → Nw A G A' G' → C δ' μ' → Q σ' H') → g v σ H Q

section
variable {K : PySem.W.Frag} {S : Bs} {δ ε : Sl} {μ : List Cell} {ta tb tc te : TE} {t u : TT} {C : D → List Cell → Prop}
/-! ### expressions -/
theorem ee_var {i : Nat} {d : D} (h : δ[i]? = some (some d)) (k : C d μ) : EE K S (tVar i) δ μ C := fun A G H σ a Q q => by
  obtain ⟨v, h1, h2⟩ := a.env.get h
  exact ⟨v, h1, q v d A G H μ a.m Nw.refl h2 k⟩
theorem ee_c {x : V} (k : C (.v x) μ) : EE K S (tC x) δ μ C := fun A G H σ a Q q => q x (.v x) A G H μ a.m Nw.refl (.v x) k
theorem ee_op {r : R2} (h : EE K S ta δ μ fun x μ1 => EE K S tb δ μ1 fun y μ2 => OO K S r x y μ2 C) : EE K S (tOp r ta tb) δ μ C := fun A G H σ a Q q =>
  h A G H σ a _ fun v x A1 G1 H1 μ1 m1 n1 r1 h1 => h1 A1 G1 H1 σ ⟨m1, n1.en a.env⟩ _ fun w y A2 G2 H2 μ2 m2 n2 r2 h2 =>
    h2 A2 G2 H2 v w m2 (n2.rp r1) r2 Q fun z d A3 G3 H3 μ3 m3 n3 r3 c => q z d A3 G3 H3 μ3 m3 ((n1.trans n2).trans n3) r3 c
theorem ee_un {r : V → Hp → VK → Prop} (h : EE K S ta δ μ fun x μ1 => UU K S r x μ1 C) : EE K S (tUn r ta) δ μ C := fun A G H σ a Q q =>
  h A G H σ a _ fun v x A1 G1 H1 μ1 m1 n1 r1 h1 => h1 A1 G1 H1 v m1 r1 Q fun z d A3 G3 H3 μ3 m3 n3 r3 c => q z d A3 G3 H3 μ3 m3 (n1.trans n3) r3 c
theorem ee_cb {r : List V → Hp → VK → Prop} {ts : TA} (h : EA K S ts δ μ fun ds μ1 => CC K S r ds μ1 C) : EE K S (tCB r ts) δ μ C := fun A G H σ a Q q =>
  h A G H σ a _ fun vs ds A1 G1 H1 μ1 m1 n1 r1 h1 => h1 A1 G1 H1 vs m1 r1 Q fun z d A3 G3 H3 μ3 m3 n3 r3 c => q z d A3 G3 H3 μ3 m3 (n1.trans n3) r3 c
theorem ea_nil {C : List D → List Cell → Prop} (k : C [] μ) : EA K S tNil δ μ C := fun A G H σ a Q q => q [] [] A G H μ a.m Nw.refl .nil k
theorem ea_cons {ts : TA} {C : List D → List Cell → Prop} (h : EE K S te δ μ fun x μ1 => EA K S ts δ μ1 fun ds μ2 => C (x :: ds) μ2) : EA K S (tCons te ts) δ μ C := fun A G H σ a Q q =>
  h A G H σ a _ fun v x A1 G1 H1 μ1 m1 n1 r1 h1 => h1 A1 G1 H1 σ ⟨m1, n1.en a.env⟩ _ fun vs ds A2 G2 H2 μ2 m2 n2 r2 c => q (v :: vs) (x :: ds) A2 G2 H2 μ2 m2 (n1.trans n2) (.cons (n2.rp r1) r2) c
theorem small {n : Nat} (h : n ≤ 10000000) : n ≤ sizeLine := Nat.le_trans h (by decide)
theorem smalr {n : Nat} (h : n < 10000000) : n < sizeLine := Nat.lt_of_lt_of_le h (by decide)
theorem ee_tup {ts : TA} (h : EA K S ts δ μ fun ds μ1 => ds.length ≤ 10000000 ∧ C (.tup ds) μ1) : EE K S (tTup ts) δ μ C := fun A G H σ a Q q =>
  h A G H σ a _ fun vs ds A1 G1 H1 μ1 m1 n1 r ⟨hl, c⟩ => by
    refine ⟨small (by rw [← r.len]; exact hl), fun p hp => ?_⟩
    have e := Ex.new (o := .tup vs) (m1.ex.free hp)
    exact q _ _ A1 _ _ μ1 (m1.laid hp) (n1.trans (.of e)) (.tup (.inl upd_same) (r.mono0 e)) c
theorem ee_lst {ts : TA} (h : EA K S ts δ μ fun ds μ1 => ds.length ≤ 10000000 ∧ C (.lst ds) μ1) : EE K S (tLst ts) δ μ C := fun A G H σ a Q q =>
  h A G H σ a _ fun vs ds A1 G1 H1 μ1 m1 n1 r ⟨hl, c⟩ => by
    refine ⟨small (by rw [← r.len]; exact hl), fun p hp => ?_⟩
    have e := Ex.new (o := .lst vs) (m1.ex.free hp)
    exact q _ _ A1 _ _ μ1 (m1.laid hp) (n1.trans (.of e)) (.lst upd_same (r.mono0 e)) c
/-- a list that is to be changed -/
theorem ee_open {ts : TA} (h : EA K S ts δ μ fun ds μ1 => ds.length ≤ 10000000 ∧ C (.own μ1.length) (μ1 ++ [.lst ds])) : EE K S (tLst ts) δ μ C := fun A G H σ a Q q =>
  h A G H σ a _ fun vs ds A1 G1 H1 μ1 m1 n1 r ⟨hl, c⟩ => by
    refine ⟨small (by rw [← r.len]; exact hl), fun p hp => ?_⟩
    refine q _ _ (A1 ++ [p]) G1 _ _ (m1.opened hp r) (n1.trans ⟨⟨[p], rfl⟩, Ex.refl _⟩) (.own ?_) c
    rw [← m1.len, List.getElem?_append_right (Nat.le_refl _), Nat.sub_self]
    rfl
theorem ee_andV (h : EE K S ta δ μ fun x μ1 => ∃ b, x = .bl b ∧ (b = true → EE K S tb δ μ1 C) ∧ (b = false → C (.bl false) μ1)) : EE K S (tAndV ta tb) δ μ C := fun A G H σ a Q q =>
  h A G H σ a _ fun v x A1 G1 H1 μ1 m1 n1 r1 ⟨b, e, h1, h2⟩ => by
    subst e
    have ev := r1.vOf
    subst ev
    refine ⟨b, rfl, ?_⟩
    cases b with
    | true =>
      rw [if_pos rfl]
      exact h1 rfl A1 G1 H1 σ ⟨m1, n1.en a.env⟩ Q fun z d A3 G3 H3 μ3 m3 n3 r3 c => q z d A3 G3 H3 μ3 m3 (n1.trans n3) r3 c
    | false =>
      rw [if_neg Bool.false_ne_true]
      exact q _ _ A1 G1 H1 μ1 m1 n1 r1 (h2 rfl)
theorem ee_orV (h : EE K S ta δ μ fun x μ1 => ∃ b, x = .bl b ∧ (b = true → C (.bl true) μ1) ∧ (b = false → EE K S tb δ μ1 C)) : EE K S (tOrV ta tb) δ μ C := fun A G H σ a Q q =>
  h A G H σ a _ fun v x A1 G1 H1 μ1 m1 n1 r1 ⟨b, e, h1, h2⟩ => by
    subst e
    have ev := r1.vOf
    subst ev
    refine ⟨b, rfl, ?_⟩
    cases b with
    | true =>
      rw [if_pos rfl]
      exact q _ _ A1 G1 H1 μ1 m1 n1 r1 (h1 rfl)
    | false =>
      rw [if_neg Bool.false_ne_true]
      exact h2 rfl A1 G1 H1 σ ⟨m1, n1.en a.env⟩ Q fun z d A3 G3 H3 μ3 m3 n3 r3 c => q z d A3 G3 H3 μ3 m3 (n1.trans n3) r3 c
theorem ee_notV (h : EE K S ta δ μ fun x μ1 => ∃ b, x = .bl b ∧ C (.bl (!b)) μ1) : EE K S (tNotV ta) δ μ C := fun A G H σ a Q q =>
  h A G H σ a _ fun v x A1 G1 H1 μ1 m1 n1 r1 ⟨b, e, h1⟩ => by
    subst e
    have ev := r1.vOf
    subst ev
    exact ⟨b, rfl, q _ _ A1 G1 H1 μ1 m1 n1 (.v _) h1⟩
theorem ee_if (h : ET K S t δ μ fun b μ1 => (b = true → EE K S ta δ μ1 C) ∧ (b = false → EE K S tb δ μ1 C)) : EE K S (tIf t ta tb) δ μ C := fun A G H σ a Q q =>
  h A G H σ a _ fun b A1 G1 H1 μ1 m1 n1 ⟨h1, h2⟩ => by
    cases b with
    | true =>
      rw [if_pos rfl]
      exact h1 rfl A1 G1 H1 σ ⟨m1, n1.en a.env⟩ Q fun z d A3 G3 H3 μ3 m3 n3 r3 c => q z d A3 G3 H3 μ3 m3 (n1.trans n3) r3 c
    | false =>
      rw [if_neg Bool.false_ne_true]
      exact h2 rfl A1 G1 H1 σ ⟨m1, n1.en a.env⟩ Q fun z d A3 G3 H3 μ3 m3 n3 r3 c => q z d A3 G3 H3 μ3 m3 (n1.trans n3) r3 c
theorem ee_chain {r r' : R2} (h : EE K S ta δ μ fun x μ1 => EE K S tb δ μ1 fun y μ2 => OO K S r x y μ2 fun z μ3 => ∃ b, z = .bl b ∧ (b = false → C (.bl false) μ3) ∧ (b = true → EE K S tc δ μ3 fun w μ4 => OO K S r' y w μ4 C)) :
    EE K S (tChain r r' ta tb tc) δ μ C := fun A G H σ a Q q =>
  h A G H σ a _ fun v x A1 G1 H1 μ1 m1 n1 r1 h1 => h1 A1 G1 H1 σ ⟨m1, n1.en a.env⟩ _ fun w y A2 G2 H2 μ2 m2 n2 r2 h2 =>
    h2 A2 G2 H2 v w m2 (n2.rp r1) r2 _ fun z d A3 G3 H3 μ3 m3 n3 r3 ⟨b, e, hf, ht⟩ => by
      subst e
      have ev := r3.vOf
      subst ev
      refine ⟨b, rfl, ?_⟩
      cases b with
      | false =>
        rw [if_neg Bool.false_ne_true]
        exact q _ _ A3 G3 H3 μ3 m3 ((n1.trans n2).trans n3) (.v _) (hf rfl)
      | true =>
        rw [if_pos rfl]
        exact ht rfl A3 G3 H3 σ ⟨m3, ((n1.trans n2).trans n3).en a.env⟩ _ fun w' y' A4 G4 H4 μ4 m4 n4 r4 h4 =>
          h4 A4 G4 H4 w w' m4 ((n3.trans n4).rp r2) r4 Q fun z d A5 G5 H5 μ5 m5 n5 r5 c => q z d A5 G5 H5 μ5 m5 ((((n1.trans n2).trans n3).trans n4).trans n5) r5 c

/-! ### tests -/
section
variable {C : Bool → List Cell → Prop}
theorem et_test (h : EE K S te δ μ fun x μ1 => ∃ b, x = .bl b ∧ C b μ1) : ET K S (tTest te) δ μ C := fun A G H σ a Q q =>
  h A G H σ a _ fun v x A1 G1 H1 μ1 m1 n1 r1 ⟨b, e, c⟩ => by
    subst e
    have ev := r1.vOf
    subst ev
    exact ⟨b, rfl, q b A1 G1 H1 μ1 m1 n1 c⟩
theorem et_B (h : EE K S te δ μ fun x μ1 => ∃ b, x = .bl b ∧ C b μ1) : ET K S (tB te) δ μ C := et_test h
theorem et_yes (k : C true μ) : ET K S tYes δ μ C := fun A G H σ a Q q => q true A G H μ a.m Nw.refl k
theorem et_and (h : ET K S t δ μ fun b μ1 => (b = true → ET K S u δ μ1 C) ∧ (b = false → C false μ1)) : ET K S (tAnd t u) δ μ C := fun A G H σ a Q q =>
  h A G H σ a _ fun b A1 G1 H1 μ1 m1 n1 ⟨h1, h2⟩ => by
    cases b with
    | true =>
      rw [if_pos rfl]
      exact h1 rfl A1 G1 H1 σ ⟨m1, n1.en a.env⟩ Q fun b A3 G3 H3 μ3 m3 n3 c => q b A3 G3 H3 μ3 m3 (n1.trans n3) c
    | false =>
      rw [if_neg Bool.false_ne_true]
      exact q false A1 G1 H1 μ1 m1 n1 (h2 rfl)
theorem et_or (h : ET K S t δ μ fun b μ1 => (b = true → C true μ1) ∧ (b = false → ET K S u δ μ1 C)) : ET K S (tOr t u) δ μ C := fun A G H σ a Q q =>
  h A G H σ a _ fun b A1 G1 H1 μ1 m1 n1 ⟨h1, h2⟩ => by
    cases b with
    | true =>
      rw [if_pos rfl]
      exact q true A1 G1 H1 μ1 m1 n1 (h1 rfl)
    | false =>
      rw [if_neg Bool.false_ne_true]
      exact h2 rfl A1 G1 H1 σ ⟨m1, n1.en a.env⟩ Q fun b A3 G3 H3 μ3 m3 n3 c => q b A3 G3 H3 μ3 m3 (n1.trans n3) c
theorem et_not (h : ET K S t δ μ fun b μ1 => C (!b) μ1) : ET K S (tNot t) δ μ C := fun A G H σ a Q q =>
  h A G H σ a _ fun b A1 G1 H1 μ1 m1 n1 c => q (!b) A1 G1 H1 μ1 m1 n1 c
end

/-! ### statements -/
variable {E : Cn} {ts tu tw : TS} {g : TG}
theorem Fi.at' {A A1 : List Addr} {G G1 : Hp} {F : Ends} {E : Cn} (f : Fi K S A G F E) (n : Nw A G A1 G1) : Fi K S A1 G1 F E :=
  ⟨fun A2 G2 H2 σ2 δ2 μ2 a n2 c => f.nx A2 G2 H2 σ2 δ2 μ2 a (n.trans n2) c, f.rt, fun A2 G2 H2 σ2 δ2 μ2 a n2 c => f.bk A2 G2 H2 σ2 δ2 μ2 a (n.trans n2) c, fun A2 G2 H2 σ2 δ2 μ2 a n2 c => f.ct A2 G2 H2 σ2 δ2 μ2 a (n.trans n2) c⟩
theorem Fi.go {A : List Addr} {G : Hp} {F : Ends} {n : St → Hp → Prop} {m : Sl → List Cell → Prop} {E : Cn} (f : Fi K S A G F E) (h : ∀ A1 G1 H1 σ1 δ1 μ1, At K S A1 G1 H1 σ1 δ1 μ1 → Nw A G A1 G1 → m δ1 μ1 → n σ1 H1) : Fi K S A G { F with nx := n } { E with nx := m } := ⟨h, f.rt, f.bk, f.ct⟩
theorem se_next (k : E.nx δ μ) : SE K S tNext δ μ E := fun A G H σ a F f => f.nx A G H σ δ μ a Nw.refl k
theorem se_seq (h : SE K S ts δ μ { E with nx := fun δ1 μ1 => SE K S tu δ1 μ1 E }) : SE K S (tSeq ts tu) δ μ E := fun A G H σ a F f =>
  h A G H σ a { F with nx := tu F } (f.go fun A1 G1 H1 σ1 δ1 μ1 a1 n1 c => c A1 G1 H1 σ1 a1 F (f.at' n1))
theorem se_asg {i : Nat} (h : EE K S te δ μ fun d μ1 => E.nx (δ.set i (some d)) μ1) : SE K S (tAsg te (gName i)) δ μ E := fun A G H σ a F f =>
  h A G H σ a _ fun v d A1 G1 H1 μ1 m1 n1 r1 c => f.nx A1 G1 H1 _ _ μ1 ⟨m1, En.set r1 i (n1.en a.env)⟩ n1 c
theorem se_asgG (h : EE K S te δ μ fun d μ1 => GE K S g d δ μ1 E.nx) : SE K S (tAsg te g) δ μ E := fun A G H σ a F f =>
  h A G H σ a _ fun v d A1 G1 H1 μ1 m1 n1 r1 c => c A1 G1 H1 σ v ⟨m1, n1.en a.env⟩ r1 _ fun A2 G2 H2 σ2 δ2 μ2 a2 n2 c2 => f.nx A2 G2 H2 σ2 δ2 μ2 a2 (n1.trans n2) c2
theorem se_ret (h : EE K S te δ μ E.rt) : SE K S (tRet te) δ μ E := fun A G H σ a F f =>
  h A G H σ a _ fun v d A1 G1 H1 μ1 m1 n1 r1 c => f.rt A1 G1 H1 v d μ1 m1 r1 c
theorem se_drop (h : EE K S te δ μ fun _ μ1 => E.nx δ μ1) : SE K S (tDrop te) δ μ E := fun A G H σ a F f =>
  h A G H σ a _ fun v d A1 G1 H1 μ1 m1 n1 r1 c => f.nx A1 G1 H1 σ δ μ1 ⟨m1, n1.en a.env⟩ n1 c
theorem se_if (h : ET K S t δ μ fun b μ1 => (b = true → SE K S ts δ μ1 E) ∧ (b = false → SE K S tu δ μ1 E)) : SE K S (tIfS t ts tu) δ μ E := fun A G H σ a F f =>
  h A G H σ a _ fun b A1 G1 H1 μ1 m1 n1 ⟨h1, h2⟩ => by
    cases b with
    | true =>
      rw [if_pos rfl]
      exact h1 rfl A1 G1 H1 σ ⟨m1, n1.en a.env⟩ F (f.at' n1)
    | false =>
      rw [if_neg Bool.false_ne_true]
      exact h2 rfl A1 G1 H1 σ ⟨m1, n1.en a.env⟩ F (f.at' n1)
theorem se_break (k : E.bk δ μ) : SE K S tBreak δ μ E := fun A G H σ a F f => f.bk A G H σ δ μ a Nw.refl k
theorem se_cont (k : E.ct δ μ) : SE K S tCont δ μ E := fun A G H σ a F f => f.ct A G H σ δ μ a Nw.refl k
theorem se_par {i j : Nat} {tz : TA} (h : EA K S tz δ μ fun ds μ1 => ∃ x y, ds = [x, y] ∧ E.nx ((δ.set i (some x)).set j (some y)) μ1) : SE K S (tPar i j tz) δ μ E := fun A G H σ a F f =>
  h A G H σ a _ fun vs ds A1 G1 H1 μ1 m1 n1 r1 ⟨x, y, e, c⟩ => by
    subst e
    cases r1 with
    | cons rx r =>
      cases r with
      | cons ry r =>
        cases r
        exact ⟨_, _, rfl, f.nx A1 G1 H1 _ _ μ1 ⟨m1, En.set ry j (En.set rx i (n1.en a.env))⟩ n1 c⟩
/-- weaker knowledge -/
theorem se_less (l : Less δ ε) (h : SE K S ts ε μ E) : SE K S ts δ μ E := fun A G H σ a F f => h A G H σ ⟨a.m, a.env.less l⟩ F f
/-- consequence -/
theorem EE.imp {C' : D → List Cell → Prop} (h : EE K S te δ μ C) (i : ∀ d μ1, C d μ1 → C' d μ1) : EE K S te δ μ C' := fun A G H σ a Q q =>
  h A G H σ a Q fun v d A1 G1 H1 μ1 m1 n1 r1 c => q v d A1 G1 H1 μ1 m1 n1 r1 (i d μ1 c)
theorem SE.imp {E' : Cn} (h : SE K S ts δ μ E) (i1 : ∀ d m, E.nx d m → E'.nx d m) (i2 : ∀ d m, E.rt d m → E'.rt d m) (i3 : ∀ d m, E.bk d m → E'.bk d m) (i4 : ∀ d m, E.ct d m → E'.ct d m) : SE K S ts δ μ E' := fun A G H σ a F f =>
  h A G H σ a F ⟨fun A G H σ δ μ a n c => f.nx A G H σ δ μ a n (i1 _ _ c), fun A G H v d μ m r c => f.rt A G H v d μ m r (i2 _ _ c), fun A G H σ δ μ a n c => f.bk A G H σ δ μ a n (i3 _ _ c), fun A G H σ δ μ a n c => f.ct A G H σ δ μ a n (i4 _ _ c)⟩

/-! ### targets -/
theorem ge_name {i : Nat} {d : D} {C : Sl → List Cell → Prop} (k : C (δ.set i (some d)) μ) : GE K S (gName i) d δ μ C := fun A G H σ v a r Q q => q A G H _ _ μ ⟨a.m, En.set r i a.env⟩ Nw.refl k
/-- x[i] = d, x an open list -/
theorem ge_setL {to ti : TE} {d : D} {C : Sl → List Cell → Prop} (h : EE K S to δ μ fun x μ1 => EE K S ti δ μ1 fun y μ2 => ∃ k i j l, x = .own k ∧ y = .int i ∧ μ2[k]? = some (.lst l) ∧ ixN l.length i = some j ∧ C δ (μ2.set k (.lst (l.set j d)))) :
    GE K S (gSub to ti rSetL) d δ μ C := fun A G H σ v a r Q q =>
  h A G H σ a _ fun w x A1 G1 H1 μ1 m1 n1 r1 h1 => h1 A1 G1 H1 σ ⟨m1, n1.en a.env⟩ _ fun z y A2 G2 H2 μ2 m2 n2 r2 ⟨k, i, j, l, ex, ey, hc, hj, c⟩ => by
    subst ex ey
    have ev := r2.vOf
    subst ev
    cases r1 with
    | @own _ b hb =>
      have hb2 : A2[k]? = some b := by
        cases (n2.rp (.own hb : Rp K A1 G1 (.own k) (.ref b))) with
        | own h => exact h
      obtain ⟨g, xs, hx, rl⟩ := m2.cel k b _ hb2 hc
      have rd := (n1.trans n2).rp r
      refine ⟨b, xs, i, j, rfl, rfl, hx, by rw [← rl.len]; exact hj, q A2 G2 _ σ δ _ ⟨m2.wrote hb2 hc (rl.set rd j), (n1.trans n2).en a.env⟩ (n1.trans n2) c⟩
end
end PA

set_option Elab.async false
set_option linter.all false
set_option maxRecDepth 100000
set_option maxHeartbeats 2000000
/-! PbLoop: walks, for, while, comprehensions. -/
namespace PA
open PySem L2

/-- J gives the items l -/
def Gives (K : PySem.W.Frag) (S : Bs) (A0 : List Addr) (G0 : Hp) (J : It) (l : List D) (P : List Cell → Prop := fun _ => True) : Prop := ∀ (i : Nat) A G H μ, Mem K S A G H μ → Nw A0 G0 A G → P μ →
  (∀ d, l[i]? = some d → J.go i H ∧ ∀ x H', J.yld i H x H' → ∃ G', Mem K S A G' H' μ ∧ Ex G G' ∧ Rp K A G' d x) ∧ (i = l.length → J.stop i H)
def IE (K : PySem.W.Frag) (S : Bs) (wi : TI) (δ : Sl) (μ : List Cell) (C : List D → (List Cell → Prop) → List Cell → Prop) : Prop :=
  ∀ A G H σ, At K S A G H σ δ μ → ∀ R : It → Hp → Prop, (∀ J l P A' G' H' μ', Mem K S A' G' H' μ' → Nw A G A' G' → Gives K S A' G' J l P → C l P μ' → R J H') → wi σ H R
def yes : List Cell → Prop := fun _ => True
section
variable {K : PySem.W.Frag} {S : Bs} {δ : Sl} {μ : List Cell} {ta tb tc te tl : TE} {C : List D → (List Cell → Prop) → List Cell → Prop}
theorem Nw.lst {A A' : List Addr} {G G' H' : Hp} {a : Addr} {xs : List V} (n : Nw A G A' G') (e : Ex G' H') (h : SqL K G a xs) : SqL K H' a xs := ex_l e (ex_l n.ex h)
theorem gives_list {A0 : List Addr} {G0 : Hp} {a : Addr} {xs : List V} {l : List D} (h : SqL K G0 a xs) (r : RpL K A0 G0 l xs) : Gives K S A0 G0 (Itl K a) l := fun i A G H μ m n _ => by
  have hs := n.lst m.ex h
  refine ⟨fun d hd => ?_, fun e => ⟨xs, hs, by rw [e, r.len]; exact Nat.le_refl _⟩⟩
  obtain ⟨x, hx, rx⟩ := r.get hd
  refine ⟨⟨xs, x, hs, hx⟩, fun y H' ⟨e, hy⟩ => ?_⟩
  subst e
  have z := hy xs hs
  rw [hx] at z
  cases z
  exact ⟨G, m, Ex.refl G, n.rp rx⟩
theorem gives_tup {A0 : List Addr} {G0 : Hp} {a : Addr} {xs : List V} {l : List D} (h : SqT K G0 a xs) (r : RpL K A0 G0 l xs) : Gives K S A0 G0 (Itt K a) l := fun i A G H μ m n _ => by
  have hs := ex_t m.ex (ex_t n.ex h)
  refine ⟨fun d hd => ?_, fun e => ⟨xs, hs, by rw [e, r.len]; exact Nat.le_refl _⟩⟩
  obtain ⟨x, hx, rx⟩ := r.get hd
  refine ⟨⟨xs, x, hs, hx⟩, fun y H' ⟨e, hy⟩ => ?_⟩
  subst e
  have z := hy xs hs
  rw [hx] at z
  cases z
  exact ⟨G, m, Ex.refl G, n.rp rx⟩
theorem lst_sq {G : Hp} {a : Addr} {xs : List V} (h : G a = some (.lst xs)) : SqL K G a xs := .inl (.inl h)
theorem ie_list (h : EE K S tl δ μ fun d μ1 => ∃ l, (d = .lst l ∨ d = .rd l) ∧ C l yes μ1) : IE K S (iList K tl) δ μ C := fun A G H σ a R q =>
  h A G H σ a _ fun v d A1 G1 H1 μ1 m1 n1 r1 ⟨l, e, c⟩ => by
    rcases e with e | e
    · subst e
      cases r1 with
      | lst hs r => exact ⟨_, rfl, ⟨_, ex_l m1.ex (lst_sq hs)⟩, q _ l yes A1 G1 H1 μ1 m1 n1 (gives_list (lst_sq hs) r) c⟩
    · subst e
      cases r1 with
      | rd hs r => exact ⟨_, rfl, ⟨_, ex_l m1.ex hs⟩, q _ l yes A1 G1 H1 μ1 m1 n1 (gives_list hs r) c⟩
theorem ie_tup (h : EE K S tl δ μ fun d μ1 => ∃ l, d = .tup l ∧ C l yes μ1) : IE K S (iTup K tl) δ μ C := fun A G H σ a R q =>
  h A G H σ a _ fun v d A1 G1 H1 μ1 m1 n1 r1 ⟨l, e, c⟩ => by
    subst e
    cases r1 with
    | tup hs r => exact ⟨_, rfl, ⟨_, ex_t m1.ex hs.sq⟩, q _ l yes A1 G1 H1 μ1 m1 n1 (gives_tup hs.sq r) c⟩
/-- lo, lo + 1, .. (n of them) -/
def rng (lo : Int) (n : Nat) : List D := (List.range n).map fun (i : Nat) => D.int (lo + (i : Int))
theorem rng_len {lo : Int} {n : Nat} : (rng lo n).length = n := by unfold rng; rw [List.length_map, List.length_range]
theorem rng_get {lo : Int} {n i : Nat} {d : D} (h : (rng lo n)[i]? = some d) : i < n ∧ d = .int (lo + (i : Int)) := by
  unfold rng at h
  rw [List.getElem?_map] at h
  by_cases hi : i < n
  · rw [List.getElem?_range hi] at h
    cases h
    exact ⟨hi, rfl⟩
  · rw [List.getElem?_eq_none (by rw [List.length_range]; omega)] at h
    cases h
theorem gives_rng {A0 : List Addr} {G0 : Hp} {lo : Int} {n : Nat} : Gives K S A0 G0 (Itr lo n) (rng lo n) := fun i A G H μ m _ _ => by
  refine ⟨fun d hd => ?_, fun e => by rw [e, rng_len]; exact Nat.le_refl _⟩
  obtain ⟨hi, e⟩ := rng_get hd
  refine ⟨hi, fun x H' ⟨e1, e2⟩ => ?_⟩
  subst e1 e2 e
  exact ⟨G, m, Ex.refl G, .v _⟩
theorem ie_rng1 {ts : TA} (h : EA K S ts δ μ fun ds μ1 => ∃ j : Int, ds = [.int j] ∧ -1000000000 ≤ j ∧ j ≤ 1000000000 ∧ C (rng 0 j.toNat) yes μ1) : IE K S (iRng1 ts) δ μ C := fun A G H σ a R q =>
  h A G H σ a _ fun vs ds A1 G1 H1 μ1 m1 n1 r1 ⟨j, e, b1, b2, c⟩ => by
    subst e
    cases r1 with
    | cons rj r =>
      cases r
      have ev := rj.vOf
      subst ev
      exact ⟨j, rfl, by omega, by omega, q _ _ yes A1 G1 H1 μ1 m1 n1 gives_rng c⟩
theorem ie_rng2 {ts : TA} (h : EA K S ts δ μ fun ds μ1 => ∃ i j : Int, ds = [.int i, .int j] ∧ (-1000000000 ≤ i ∧ i ≤ 1000000000 ∧ -1000000000 ≤ j ∧ j ≤ 1000000000) ∧ C (rng i (j - i).toNat) yes μ1) : IE K S (iRng2 ts) δ μ C := fun A G H σ a R q =>
  h A G H σ a _ fun vs ds A1 G1 H1 μ1 m1 n1 r1 ⟨i, j, e, ⟨b1, b2, b3, b4⟩, c⟩ => by
    subst e
    cases r1 with
    | cons ri r =>
      cases r with
      | cons rj r =>
        cases r
        have e1 := ri.vOf
        have e2 := rj.vOf
        subst e1 e2
        exact ⟨i, j, rfl, ⟨by omega, by omega, by omega, by omega⟩, q _ _ yes A1 G1 H1 μ1 m1 n1 gives_rng c⟩
/-- the signs of a text, each a text -/
def signs (s : Str) : List D := s.cps.toList.map fun c => D.str ⟨#[c]⟩
theorem gives_str {A0 : List Addr} {G0 : Hp} {s : Str} : Gives K S A0 G0 (Its s) (signs s) := fun i A G H μ m _ _ => by
  refine ⟨fun d hd => ?_, fun e => by rw [e]; unfold signs; rw [List.length_map]; exact Nat.le_of_eq (by simp)⟩
  unfold signs at hd
  rw [List.getElem?_map] at hd
  cases hc : s.cps.toList[i]? with
  | none =>
    rw [hc] at hd
    cases hd
  | some c =>
    rw [hc] at hd
    cases hd
    have hi : i < s.cps.size := by
      have z := (List.getElem?_eq_some_iff.mp hc).1
      simpa using z
    refine ⟨hi, fun x H' ⟨e1, c', hc', e2⟩ => ?_⟩
    subst e1 e2
    have e3 : s.cps[i]? = some c := by
      rw [← Array.getElem?_toList]
      exact hc
    rw [e3] at hc'
    cases hc'
    exact ⟨G, m, Ex.refl G, .v _⟩
theorem ie_str (h : EE K S tl δ μ fun d μ1 => ∃ s, d = .str s ∧ C (signs s) yes μ1) : IE K S (iStr tl) δ μ C := fun A G H σ a R q =>
  h A G H σ a _ fun v d A1 G1 H1 μ1 m1 n1 r1 ⟨s, e, c⟩ => by
    subst e
    have ev := r1.vOf
    subst ev
    exact ⟨s, rfl, q _ _ yes A1 G1 H1 μ1 m1 n1 gives_str c⟩
/-- pairs, as zip gives them -/
def zipD : List D → List D → List D
  | x :: l, y :: m => .tup [x, y] :: zipD l m
  | _, _ => []
theorem zipD_len : ∀ (l m : List D), (zipD l m).length = min l.length m.length
  | [], m => by simp [zipD]
  | _ :: _, [] => by simp [zipD]
  | x :: l, y :: m => by
    show (zipD l m).length + 1 = _
    rw [zipD_len l m, List.length_cons, List.length_cons]
    omega
theorem zipD_get : ∀ {l m : List D} {i : Nat} {d : D}, (zipD l m)[i]? = some d → ∃ x y, l[i]? = some x ∧ m[i]? = some y ∧ d = .tup [x, y]
  | [], m, i, d, h => by simp [zipD] at h
  | _ :: _, [], i, d, h => by simp [zipD] at h
  | x :: l, y :: m, 0, d, h => by
    have e : D.tup [x, y] = d := by simpa [zipD] using h
    exact ⟨x, y, rfl, rfl, e.symm⟩
  | x :: l, y :: m, i + 1, d, h => by
    obtain ⟨a, b, h1, h2, h3⟩ := zipD_get (l := l) (m := m) (i := i) (d := d) (by simpa [zipD] using h)
    exact ⟨a, b, by simpa using h1, by simpa using h2, h3⟩
theorem pair_new {A : List Addr} {G H : Hp} {T : Addr} {x y : V} {d e : D} (m : Mem K S A G H μ) (hT : H T = none) (rx : Rp K A G d x) (ry : Rp K A G e y) : ∃ G', Mem K S A G' (upd H T (.tup [x, y])) μ ∧ Ex G G' ∧ Rp K A G' (.tup [d, e]) (.ref T) :=
  ⟨_, m.laid hT, Ex.new (m.ex.free hT), .tup (.inl upd_same) (.cons (rx.mono0 (Ex.new (m.ex.free hT))) (.cons (ry.mono0 (Ex.new (m.ex.free hT))) .nil))⟩
theorem gives_zip {A0 : List Addr} {G0 : Hp} {a b : Addr} {xs ys : List V} {l m : List D} (h : SqL K G0 a xs) (r : RpL K A0 G0 l xs) (h' : SqL K G0 b ys) (r' : RpL K A0 G0 m ys) : Gives K S A0 G0 (Itz K a b) (zipD l m) := fun i A G H μ m' n _ => by
  have hs := n.lst m'.ex h
  have hs' := n.lst m'.ex h'
  refine ⟨fun d hd => ?_, fun e => ⟨xs, ys, hs, hs', ?_⟩⟩
  · obtain ⟨x, y, h1, h2, rfl⟩ := zipD_get hd
    obtain ⟨u, hu, ru⟩ := r.get h1
    obtain ⟨w, hw, rw'⟩ := r'.get h2
    refine ⟨⟨xs, ys, u, w, hs, hs', hu, hw⟩, fun z H' ⟨T, u', w', e1, e2, e3, e4, e5⟩ => ?_⟩
    subst e1 e3
    have z1 := e4 xs hs
    have z2 := e5 ys hs'
    rw [hu] at z1
    rw [hw] at z2
    cases z1
    cases z2
    exact pair_new m' e2 (n.rp ru) (n.rp rw')
  · rw [zipD_len, r.len, r'.len] at e
    omega
theorem ie_zip {ts : TA} (h : EA K S ts δ μ fun ds μ1 => ∃ l m, ds = [.lst l, .lst m] ∧ C (zipD l m) yes μ1) : IE K S (iZip K ts) δ μ C := fun A G H σ a R q =>
  h A G H σ a _ fun vs ds A1 G1 H1 μ1 m1 n1 r1 ⟨l, m, e, c⟩ => by
    subst e
    cases r1 with
    | cons ra r =>
      cases r with
      | cons rb r =>
        cases r
        cases ra with
        | lst hs r =>
          cases rb with
          | lst hs' r' => exact ⟨_, _, _, _, rfl, ex_l m1.ex (lst_sq hs), ex_l m1.ex (lst_sq hs'), q _ _ yes A1 G1 H1 μ1 m1 n1 (gives_zip (lst_sq hs) r (lst_sq hs') r') c⟩
theorem gives_zipT {A0 : List Addr} {G0 : Hp} {a b : Addr} {xs ys : List V} {l m : List D} (h : SqT K G0 a xs) (r : RpL K A0 G0 l xs) (h' : SqT K G0 b ys) (r' : RpL K A0 G0 m ys) : Gives K S A0 G0 (RZ.ItzT K a b) (zipD l m) := fun i A G H μ m' n _ => by
  have hs := ex_t m'.ex (ex_t n.ex h)
  have hs' := ex_t m'.ex (ex_t n.ex h')
  refine ⟨fun d hd => ?_, fun e => ⟨xs, ys, hs, hs', ?_⟩⟩
  · obtain ⟨x, y, h1, h2, rfl⟩ := zipD_get hd
    obtain ⟨u, hu, ru⟩ := r.get h1
    obtain ⟨w, hw, rw'⟩ := r'.get h2
    refine ⟨⟨xs, ys, u, w, hs, hs', hu, hw⟩, fun z H' ⟨T, u', w', e1, e2, e3, e4, e5⟩ => ?_⟩
    subst e1 e3
    have z1 := e4 xs hs
    have z2 := e5 ys hs'
    rw [hu] at z1
    rw [hw] at z2
    cases z1
    cases z2
    exact pair_new m' e2 (n.rp ru) (n.rp rw')
  · rw [zipD_len, r.len, r'.len] at e
    omega
/-- zip of two lists or of two tuples -/
theorem ie_zipA {ts : TA} (h : EA K S ts δ μ fun ds μ1 => ∃ l m, (ds = [.lst l, .lst m] ∨ ds = [.tup l, .tup m]) ∧ C (zipD l m) yes μ1) : IE K S (RZ.iZipA K ts) δ μ C := fun A G H σ a R q =>
  h A G H σ a _ fun vs ds A1 G1 H1 μ1 m1 n1 r1 ⟨l, m, e, c⟩ => by
    rcases e with e | e
    · subst e
      cases r1 with
      | cons ra r =>
        cases r with
        | cons rb r =>
          cases r
          cases ra with
          | lst hs r =>
            cases rb with
            | lst hs' r' => exact ⟨_, _, _, _, rfl, .inl ⟨ex_l m1.ex (lst_sq hs), ex_l m1.ex (lst_sq hs'), q _ _ yes A1 G1 H1 μ1 m1 n1 (gives_zip (lst_sq hs) r (lst_sq hs') r') c⟩⟩
    · subst e
      cases r1 with
      | cons ra r =>
        cases r with
        | cons rb r =>
          cases r
          cases ra with
          | tup hs r =>
            cases rb with
            | tup hs' r' => exact ⟨_, _, _, _, rfl, .inr ⟨ex_t m1.ex hs.sq, ex_t m1.ex hs'.sq, q _ _ yes A1 G1 H1 μ1 m1 n1 (gives_zipT hs.sq r hs'.sq r') c⟩⟩
/-- pairs of place and item -/
def enumD (k : Nat) : List D → List D
  | [] => []
  | x :: l => .tup [.int (k : Int), x] :: enumD (k + 1) l
theorem enumD_len : ∀ (k : Nat) (l : List D), (enumD k l).length = l.length
  | _, [] => rfl
  | k, _ :: l => congrArg Nat.succ (enumD_len (k + 1) l)
theorem enumD_get : ∀ {k : Nat} {l : List D} {i : Nat} {d : D}, (enumD k l)[i]? = some d → ∃ x, l[i]? = some x ∧ d = .tup [.int ((k + i : Nat) : Int), x]
  | _, [], _, _, h => by simp [enumD] at h
  | k, x :: l, 0, d, h => by
    have e : D.tup [.int (k : Int), x] = d := by simpa [enumD] using h
    exact ⟨x, rfl, e.symm⟩
  | k, x :: l, i + 1, d, h => by
    obtain ⟨y, h1, h2⟩ := enumD_get (k := k + 1) (l := l) (i := i) (d := d) (by simpa [enumD] using h)
    exact ⟨y, by simpa using h1, by rw [h2, show k + 1 + i = k + (i + 1) by omega]⟩
theorem gives_enum {A0 : List Addr} {G0 : Hp} {a : Addr} {xs : List V} {l : List D} (h : SqL K G0 a xs) (r : RpL K A0 G0 l xs) : Gives K S A0 G0 (Ite K a) (enumD 0 l) := fun i A G H μ m' n _ => by
  have hs := n.lst m'.ex h
  refine ⟨fun d hd => ?_, fun e => ⟨xs, hs, by rw [e, enumD_len, r.len]; exact Nat.le_refl _⟩⟩
  obtain ⟨x, h1, rfl⟩ := enumD_get hd
  obtain ⟨u, hu, ru⟩ := r.get h1
  refine ⟨⟨xs, u, hs, hu⟩, fun z H' ⟨T, u', e1, e2, e3, e4⟩ => ?_⟩
  subst e1 e3
  have z1 := e4 xs hs
  rw [hu] at z1
  cases z1
  have q := pair_new m' e2 (Rp.v (K := K) (A := A) (G := G) (.int (i : Nat))) (n.rp ru)
  rw [Nat.zero_add]
  exact q
theorem ie_enum {ts : TA} (h : EA K S ts δ μ fun ds μ1 => ∃ l, ds = [.lst l] ∧ C (enumD 0 l) yes μ1) : IE K S (iEnum K ts) δ μ C := fun A G H σ a R q =>
  h A G H σ a _ fun vs ds A1 G1 H1 μ1 m1 n1 r1 ⟨l, e, c⟩ => by
    subst e
    cases r1 with
    | cons ra r =>
      cases r
      cases ra with
      | lst hs r => exact ⟨_, _, rfl, ex_l m1.ex (lst_sq hs), q _ _ yes A1 G1 H1 μ1 m1 n1 (gives_enum (lst_sq hs) r) c⟩
theorem gives_rev {A0 : List Addr} {G0 : Hp} {a : Addr} {xs : List V} {l : List D} (h : SqL K G0 a xs) (r : RpL K A0 G0 l xs) : Gives K S A0 G0 (Itv K a xs.length) l.reverse := fun i A G H μ m' n _ => by
  have hs := n.lst m'.ex h
  refine ⟨fun d hd => ?_, fun e => by rw [e, List.length_reverse, r.len]; exact Nat.le_refl _⟩
  have hi : i < l.length := by
    have z := (List.getElem?_eq_some_iff.mp hd).1
    rwa [List.length_reverse] at z
  rw [List.getElem?_reverse hi] at hd
  obtain ⟨u, hu, ru⟩ := r.get hd
  rw [r.len] at hu hi
  refine ⟨⟨hi, xs, u, hs, hu⟩, fun z H' ⟨e1, e2⟩ => ?_⟩
  subst e1
  have z1 := e2 xs hs
  rw [hu] at z1
  cases z1
  exact ⟨G, m', Ex.refl G, n.rp ru⟩
theorem ie_rev {ts : TA} (h : EA K S ts δ μ fun ds μ1 => ∃ l, ds = [.lst l] ∧ C l.reverse yes μ1) : IE K S (iRev K ts) δ μ C := fun A G H σ a R q =>
  h A G H σ a _ fun vs ds A1 G1 H1 μ1 m1 n1 r1 ⟨l, e, c⟩ => by
    subst e
    cases r1 with
    | cons ra r =>
      cases r
      cases ra with
      | lst hs r => exact ⟨_, _, rfl, ex_l m1.ex (lst_sq hs), q _ _ yes A1 G1 H1 μ1 m1 n1 (gives_rev (lst_sq hs) r) c⟩

/-! ### for -/
variable {E : Cn} {g : TG} {tz : TS} {wi : TI} {t : TT}
theorem se_forP (h : IE K S wi δ μ fun l P μ1 => ∃ I : Nat → Sl → List Cell → Prop, (∀ i δ' μ', I i δ' μ' → P μ') ∧ I 0 δ μ1 ∧
      (∀ (i : Nat) x δ' μ', l[i]? = some x → I i δ' μ' → GE K S g x δ' μ' fun δ2 μ2 => SE K S tz δ2 μ2 { nx := I (i + 1), ct := I (i + 1), rt := E.rt, bk := E.nx }) ∧
      ∀ δ' μ', I l.length δ' μ' → E.nx δ' μ') : SE K S (tFor wi g tz) δ μ E := fun A G H σ a F f =>
  h A G H σ a _ fun J l P A1 G1 H1 μ1 m1 n1 gv ⟨I, ip, i0, it, ie⟩ => by
    refine ⟨fun i n σ' H' => n = l.length - i ∧ i ≤ l.length ∧ ∃ A2 G2 δ2 μ2, At K S A2 G2 H' σ' δ2 μ2 ∧ Nw A1 G1 A2 G2 ∧ I i δ2 μ2, ⟨l.length, by omega, Nat.zero_le _, A1, G1, δ, μ1, ⟨m1, n1.en a.env⟩, Nw.refl, i0⟩, ?_⟩
    rintro i n σ' H' ⟨hn, hi, A2, G2, δ2, μ2, a2, n2, w⟩
    obtain ⟨g1, g2⟩ := gv i A2 G2 H' μ2 a2.m n2 (ip i δ2 μ2 w)
    by_cases hlt : i < l.length
    · obtain ⟨x, hx⟩ : ∃ x, l[i]? = some x := ⟨l[i], by simp [hlt]⟩
      obtain ⟨go, yl⟩ := g1 x hx
      refine .inr ⟨go, fun σ3 H3 => ∃ A3 G3 δ3 μ3, At K S A3 G3 H3 σ3 δ3 μ3 ∧ Nw A1 G1 A3 G3 ∧ I (i + 1) δ3 μ3, fun σ3 H3 w3 => ⟨l.length - (i + 1), by omega, rfl, hlt, w3⟩, fun y H3 hy => ?_⟩
      obtain ⟨G3, m3, e3, r3⟩ := yl y H3 hy
      have n3 : Nw A2 G2 A2 G3 := .of e3
      refine it i x δ2 μ2 hx w A2 G3 H3 σ' y ⟨m3, n3.en a2.env⟩ r3 _ fun A4 G4 H4 σ4 δ4 μ4 a4 n4 c => ?_
      refine c A4 G4 H4 σ4 a4 _ ⟨fun A5 G5 H5 σ5 δ5 μ5 a5 n5 c5 => ⟨A5, G5, δ5, μ5, a5, ((n2.trans n3).trans n4).trans n5, c5⟩, f.rt, fun A5 G5 H5 σ5 δ5 μ5 a5 n5 c5 => ?_,
        fun A5 G5 H5 σ5 δ5 μ5 a5 n5 c5 => ⟨A5, G5, δ5, μ5, a5, ((n2.trans n3).trans n4).trans n5, c5⟩⟩
      exact f.nx A5 G5 H5 σ5 δ5 μ5 a5 ((((n1.trans n2).trans n3).trans n4).trans n5) c5
    · have e : i = l.length := by omega
      refine .inl ⟨g2 e, f.nx A2 G2 H' σ' δ2 μ2 a2 (n1.trans n2) (ie δ2 μ2 (by rw [← e]; exact w))⟩
theorem se_for (h : IE K S wi δ μ fun l P μ1 => P = yes ∧ ∃ I : Nat → Sl → List Cell → Prop, I 0 δ μ1 ∧
      (∀ (i : Nat) x δ' μ', l[i]? = some x → I i δ' μ' → GE K S g x δ' μ' fun δ2 μ2 => SE K S tz δ2 μ2 { nx := I (i + 1), ct := I (i + 1), rt := E.rt, bk := E.nx }) ∧
      ∀ δ' μ', I l.length δ' μ' → E.nx δ' μ') : SE K S (tFor wi g tz) δ μ E :=
  se_forP fun A G H σ a R q => h A G H σ a R fun J l P A' G' H' μ' m n gv ⟨e, I, i0, it, ie⟩ => q J l P A' G' H' μ' m n gv ⟨I, fun _ _ _ _ => by rw [e]; exact trivial, i0, it, ie⟩
/-- while, by a word and a number that falls -/
theorem se_while {t : TT} (I : Nat → Sl → List Cell → Prop) (m0 : Nat) (i0 : I m0 δ μ)
    (h : ∀ m δ' μ', I m δ' μ' → ET K S t δ' μ' fun b μ1 => (b = true → SE K S tz δ' μ1 { nx := fun δ2 μ2 => ∃ m', m' < m ∧ I m' δ2 μ2, ct := fun δ2 μ2 => ∃ m', m' < m ∧ I m' δ2 μ2, rt := E.rt, bk := E.nx }) ∧ (b = false → E.nx δ' μ1)) :
    SE K S (tWhile t tz) δ μ E := fun A G H σ a F f => by
  refine ⟨fun m σ' H' => ∃ A2 G2 δ2 μ2, At K S A2 G2 H' σ' δ2 μ2 ∧ Nw A G A2 G2 ∧ I m δ2 μ2, ⟨m0, A, G, δ, μ, a, Nw.refl, i0⟩, ?_⟩
  rintro m σ' H' ⟨A2, G2, δ2, μ2, a2, n2, w⟩
  refine h m δ2 μ2 w A2 G2 H' σ' a2 _ fun b A3 G3 H3 μ3 m3 n3 ⟨h1, h2⟩ => ?_
  cases b with
  | true =>
    rw [if_pos rfl]
    refine ⟨fun σ4 H4 => ∃ m', m' < m ∧ ∃ A4 G4 δ4 μ4, At K S A4 G4 H4 σ4 δ4 μ4 ∧ Nw A G A4 G4 ∧ I m' δ4 μ4, fun σ4 H4 ⟨m', hm, w4⟩ => ⟨m', hm, w4⟩, ?_⟩
    refine h1 rfl A3 G3 H3 σ' ⟨m3, n3.en a2.env⟩ _ ⟨fun A5 G5 H5 σ5 δ5 μ5 a5 n5 ⟨m', hm, c5⟩ => ⟨m', hm, A5, G5, δ5, μ5, a5, (n2.trans n3).trans n5, c5⟩, f.rt, fun A5 G5 H5 σ5 δ5 μ5 a5 n5 c5 => ?_,
      fun A5 G5 H5 σ5 δ5 μ5 a5 n5 ⟨m', hm, c5⟩ => ⟨m', hm, A5, G5, δ5, μ5, a5, (n2.trans n3).trans n5, c5⟩⟩
    exact f.nx A5 G5 H5 σ5 δ5 μ5 a5 ((n2.trans n3).trans n5) c5
  | false =>
    rw [if_neg Bool.false_ne_true]
    exact f.nx A3 G3 H3 σ' δ2 μ3 ⟨m3, n3.en a2.env⟩ (n2.trans n3) (h2 rfl)

/-! ### comprehensions -/
def wipeS (δ : Sl) : List Nat → Sl
  | [] => δ
  | v :: vs => (wipeS δ vs).set v none
theorem wipe_en {A : List Addr} {G : Hp} {δ : Sl} {σ : St} (h : En K A G δ σ) : ∀ vs : List Nat, En K A G (wipeS δ vs) (wipe σ vs)
  | [] => h
  | v :: vs => by
    show En K A G ((wipeS δ vs).set v none) ((wipe σ vs).set v none)
    exact En.unset v none (wipe_en h vs)
theorem wipe_set {σ : St} {i : Nat} {o : Option V} : ∀ vs : List Nat, wipe (σ.set i o) vs = if i ∈ vs then wipe σ vs else (wipe σ vs).set i o
  | [] => by simp [wipe]
  | v :: vs => by
    have ih := wipe_set (σ := σ) (i := i) (o := o) vs
    show (wipe (σ.set i o) vs).set v none = if i ∈ v :: vs then (wipe σ vs).set v none else ((wipe σ vs).set v none).set i o
    rw [ih]
    by_cases e : i = v
    · subst e
      rw [if_pos List.mem_cons_self]
      split
      · rfl
      · rw [List.set_set]
    · by_cases hm : i ∈ vs
      · rw [if_pos hm, if_pos (List.mem_cons_of_mem _ hm)]
      · rw [if_neg hm, if_neg (by simp [e, hm]), List.set_comm _ _ e]
theorem wipe_in {σ : St} {i : Nat} {o : Option V} {vs : List Nat} (h : i ∈ vs) : wipe (σ.set i o) vs = wipe σ vs := by rw [wipe_set, if_pos h]
theorem wipe_twice (σ : St) : ∀ vs : List Nat, wipe (wipe σ vs) vs = wipe σ vs
  | [] => rfl
  | v :: vs => by
    show (wipe ((wipe σ vs).set v none) vs).set v none = (wipe σ vs).set v none
    rw [wipe_set]
    split
    · rw [wipe_twice σ vs]
    · rw [wipe_twice σ vs, List.set_set]
/-- a comprehension's target: it stores at the places vs alone -/
def GW (K : PySem.W.Frag) (S : Bs) (g : TG) (vs : List Nat) (d : D) (δ : Sl) (μ : List Cell) (C : Sl → List Cell → Prop) : Prop :=
  ∀ A G H σ v, At K S A G H σ δ μ → Rp K A G d v → ∀ Q : St → Hp → Prop, (∀ A' G' H' σ' δ' μ', At K S A' G' H' σ' δ' μ' → Nw A G A' G' → wipe σ' vs = wipe σ vs → C δ' μ' → Q σ' H') → g v σ H Q
theorem gw_name {i : Nat} {vs : List Nat} {d : D} {C : Sl → List Cell → Prop} (hi : i ∈ vs) (k : C (δ.set i (some d)) μ) : GW K S (gName i) vs d δ μ C := fun A G H σ v a r Q q =>
  q A G H _ _ μ ⟨a.m, En.set r i a.env⟩ Nw.refl (wipe_in hi) k
theorem gw_pair {i j : Nat} {vs : List Nat} {x y : D} {C : Sl → List Cell → Prop} (hi : i ∈ vs) (hj : j ∈ vs) (k : C ((δ.set i (some x)).set j (some y)) μ) : GW K S (gTup K 2 (gCons (gName i) (gCons (gName j) gNil))) vs (.tup [x, y]) δ μ C := fun A G H σ v a r Q q => by
  cases r with
  | tup hs rl =>
    cases rl with
    | cons rx r =>
      cases r with
      | cons ry r =>
        cases r
        exact ⟨_, _, rfl, ex_t a.m.ex hs.sq, rfl, _, _, rfl, _, _, rfl, rfl, q A G H _ _ μ ⟨a.m, En.set ry j (En.set rx i a.env)⟩ Nw.refl (by rw [wipe_in hj, wipe_in hi]) k⟩
theorem ge_pair {i j : Nat} {x y : D} {C : Sl → List Cell → Prop} (k : C ((δ.set i (some x)).set j (some y)) μ) : GE K S (gTup K 2 (gCons (gName i) (gCons (gName j) gNil))) (.tup [x, y]) δ μ C := fun A G H σ v a r Q q => by
  cases r with
  | tup hs rl =>
    cases rl with
    | cons rx r =>
      cases r with
      | cons ry r =>
        cases r
        exact ⟨_, _, rfl, ex_t a.m.ex hs.sq, rfl, _, _, rfl, _, _, rfl, rfl, q A G H _ _ μ ⟨a.m, En.set ry j (En.set rx i a.env)⟩ Nw.refl k⟩
theorem ge_three {i j n : Nat} {x y z : D} {C : Sl → List Cell → Prop} (k : C (((δ.set i (some x)).set j (some y)).set n (some z)) μ) : GE K S (gTup K 3 (gCons (gName i) (gCons (gName j) (gCons (gName n) gNil)))) (.tup [x, y, z]) δ μ C := fun A G H σ v a r Q q => by
  cases r with
  | tup hs rl =>
    cases rl with
    | cons rx r =>
      cases r with
      | cons ry r =>
        cases r with
        | cons rz r =>
          cases r
          exact ⟨_, _, rfl, ex_t a.m.ex hs.sq, rfl, _, _, rfl, _, _, rfl, _, _, rfl, rfl, q A G H _ _ μ ⟨a.m, En.set rz n (En.set ry j (En.set rx i a.env))⟩ Nw.refl k⟩
theorem ge_four {i j n o : Nat} {x y z w : D} {C : Sl → List Cell → Prop} (k : C ((((δ.set i (some x)).set j (some y)).set n (some z)).set o (some w)) μ) : GE K S (gTup K 4 (gCons (gName i) (gCons (gName j) (gCons (gName n) (gCons (gName o) gNil))))) (.tup [x, y, z, w]) δ μ C := fun A G H σ v a r Q q => by
  cases r with
  | tup hs rl =>
    cases rl with
    | cons rx r =>
      cases r with
      | cons ry r =>
        cases r with
        | cons rz r =>
          cases r with
          | cons rw' r =>
            cases r
            exact ⟨_, _, rfl, ex_t a.m.ex hs.sq, rfl, _, _, rfl, _, _, rfl, _, _, rfl, _, _, rfl, rfl, q A G H _ _ μ ⟨a.m, En.set rw' o (En.set rz n (En.set ry j (En.set rx i a.env)))⟩ Nw.refl k⟩
theorem Nw.wipeE {A A' : List Addr} {G G' : Hp} (n : Nw A G A' G') {δ : Sl} {σ : St} (h : En K A G δ σ) (vs : List Nat) : En K A' G' (wipeS δ vs) (wipe σ vs) := n.en (wipe_en h vs)
/-! content that hangs on the first n open lists alone -/
def Cell.lt (n : Nat) : Cell → Bool
  | .lst l => D.ltL n l
  | .off => true
def cellsLt (n : Nat) (μ : List Cell) : Bool := μ.all (Cell.lt n)
theorem cellsLt_at {n : Nat} {μ : List Cell} (h : cellsLt n μ = true) {k : Nat} {c : Cell} (hk : μ[k]? = some c) : c.lt n = true := List.all_eq_true.mp h c (List.mem_of_getElem? hk)
mutual
theorem Rp.scope {A : List Addr} {G : Hp} : ∀ {d : D} {x : V}, Rp K A G d x → d.lt A.length = true
  | _, _, .v x => rfl
  | _, _, .own h => decide_eq_true (List.getElem?_eq_some_iff.mp h).1
  | _, _, .lst h r => RpL.scope r
  | _, _, .rd h r => RpL.scope r
  | _, _, .tup h r => RpL.scope r
  | _, _, .dic n h r => RpL.scope r
  | _, _, .exc (d := d) h1 h2 r => show D.lt A.length d = true from Rp.scope r
theorem RpL.scope {A : List Addr} {G : Hp} : ∀ {l : List D} {xs : List V}, RpL K A G l xs → D.ltL A.length l = true
  | _, _, .nil => rfl
  | _, _, .cons (d := d) (l := l) h r => by
    exact Bool.and_eq_true_iff.mpr ⟨Rp.scope h, RpL.scope r⟩
end
theorem Mem.scope {A : List Addr} {G H : Hp} (m : Mem K S A G H μ) : cellsLt μ.length μ = true := by
  refine List.all_eq_true.mpr fun c hc => ?_
  obtain ⟨k, hk⟩ := List.getElem?_of_mem hc
  have hlt : k < A.length := by rw [m.len]; exact (List.getElem?_eq_some_iff.mp hk).1
  have hA : A[k]? = some A[k] := by simp [hlt]
  have q := m.cel k _ c hA hk
  cases c with
  | off => rfl
  | lst l =>
    obtain ⟨_, xs, _, r⟩ := q
    rw [← m.len]
    exact r.scope
/-- the last open list is let go of, shut -/
theorem Mem.popShut {A : List Addr} {G H : Hp} {a : Addr} {l : List D} {μ : List Cell} (hk : S.A.length ≤ A.length) (m : Mem K S (A ++ [a]) G H (μ ++ [.lst l])) (hμ : cellsLt A.length μ = true) (hl : D.ltL A.length l = true) : ∃ xs, H a = some (.lst xs) ∧ G a = none ∧ RpL K A G l xs ∧ Mem K S A (upd G a (.lst xs)) H μ := by
  have hA : (A ++ [a])[A.length]? = some a := by rw [List.getElem?_append_right (Nat.le_refl _), Nat.sub_self]; rfl
  have hlen : A.length = μ.length := by
    have z := m.len
    rw [List.length_append, List.length_append] at z
    simpa using z
  have hc : (μ ++ [Cell.lst l])[A.length]? = some (.lst l) := by rw [hlen, List.getElem?_append_right (Nat.le_refl _), Nat.sub_self]; rfl
  have hf : ∀ k b, k < A.length → (A ++ [a])[k]? = some b → A[k]? = some b := fun k b h1 h2 => by
    rw [List.getElem?_append_left h1] at h2
    exact h2
  obtain ⟨g, xs, hx, r⟩ := m.cel A.length a _ hA hc
  have m2 := m.shut hk hA hc hx
  refine ⟨xs, hx, g, r.keep hf hl, ?_⟩
  exact {
    ex := m2.ex
    exG := m2.exG
    pre := by
      obtain ⟨B, hB, hb⟩ := m2.pre
      have e : A = (A ++ [a]).take A.length := by rw [List.take_append_of_le_length (Nat.le_refl _), List.take_length]
      refine ⟨B.take (A.length - S.A.length), ?_, fun b q => hb b (List.mem_of_mem_take q)⟩
      have e2 : (A ++ [a]).take A.length = S.A ++ B.take (A.length - S.A.length) := by rw [hB, List.take_append, List.take_of_length_le hk]
      exact e.trans e2
    new := m2.new
    keep := m2.keep
    cel := fun k b c h1 h2 => by
      have hk1 := (List.getElem?_eq_some_iff.mp h1).1
      have q := m2.cel k b c (by rw [List.getElem?_append_left hk1]; exact h1) (by
        rw [List.getElem?_set_ne (by omega), List.getElem?_append_left (by rw [← hlen]; exact hk1)]
        exact h2)
      have hcl := cellsLt_at hμ h2
      cases c with
      | off => trivial
      | lst l' =>
        obtain ⟨g', ys, hy, r'⟩ := q
        exact ⟨g', ys, hy, r'.keep hf hcl⟩
    len := hlen
    nd := (List.nodup_append.mp m2.nd).1
    al := fun b hb => m2.al b (List.mem_append_left _ hb) }
/-- [e for .. in .. if ..]: by a word over (turn, what it holds so far, the open lists) -/
theorem ee_lcI {vs : List Nat} {C : D → List Cell → Prop} (h : IE K S wi δ μ fun l P μ1 => ∃ I : Nat → List D → List Cell → Prop, (∀ i acc μ', I i acc μ' → P (μ' ++ [.lst acc])) ∧ I 0 [] μ1 ∧ (∀ i acc μ', I i acc μ' → μ'.length = μ1.length ∧ cellsLt μ1.length μ' = true ∧ D.ltL μ1.length acc = true) ∧
      (∀ (i : Nat) x acc μ', l[i]? = some x → I i acc μ' → GW K S g vs x (wipeS δ vs) (μ' ++ [.lst acc]) fun δ2 μ2 => ET K S t δ2 μ2 fun b μ3 =>
        (b = true → EE K S te δ2 μ3 fun d μ4 => ∃ μ5, μ4 = μ5 ++ [.lst acc] ∧ acc.length < 10000000 ∧ I (i + 1) (acc ++ [d]) μ5) ∧ (b = false → ∃ μ5, μ3 = μ5 ++ [.lst acc] ∧ I (i + 1) acc μ5)) ∧
      ∀ acc μ', I l.length acc μ' → C (.lst acc) μ') : EE K S (tLc wi g t te vs) δ μ C := fun A G H σ a Q q =>
  h A G H σ a _ fun J l P A1 G1 H1 μ1 m1 n1 gv ⟨I, ip, i0, il, it, ie⟩ => by
    intro p hp
    have hlen0 : A1.length = μ1.length := m1.len
    refine ⟨fun i n H' => n = l.length - i ∧ i ≤ l.length ∧ ∃ G2 acc μ2, Mem K S (A1 ++ [p]) G2 H' (μ2 ++ [.lst acc]) ∧ Ex G1 G2 ∧ I i acc μ2, ⟨l.length, by omega, Nat.zero_le _, G1, [], μ1, m1.opened hp .nil, Ex.refl _, i0⟩, ?_⟩
    rintro i n H' ⟨hn, hi, G2, acc, μ2, m2, e2, w⟩
    have n2 : Nw A1 G1 (A1 ++ [p]) G2 := ⟨⟨[p], rfl⟩, e2⟩
    obtain ⟨g1, g2⟩ := gv i _ G2 H' _ m2 n2 (ip i acc μ2 w)
    have hS : S.A.length ≤ A1.length := by
      obtain ⟨B, hB, _⟩ := m1.pre
      rw [hB, List.length_append]
      omega
    by_cases hlt : i < l.length
    · obtain ⟨x, hx⟩ : ∃ x, l[i]? = some x := ⟨l[i], by simp [hlt]⟩
      obtain ⟨go, yl⟩ := g1 x hx
      refine .inr ⟨go, fun H3 => ∃ G3 acc3 μ3, Mem K S (A1 ++ [p]) G3 H3 (μ3 ++ [.lst acc3]) ∧ Ex G1 G3 ∧ I (i + 1) acc3 μ3, fun H3 w3 => ⟨l.length - (i + 1), by omega, rfl, hlt, w3⟩, fun y H3 hy => ?_⟩
      obtain ⟨G3, m3, e3, r3⟩ := yl y H3 hy
      have n3 : Nw (A1 ++ [p]) G2 (A1 ++ [p]) G3 := .of e3
      have en3 := ((n1.trans n2).trans n3).wipeE a.env vs
      refine it i x acc μ2 hx w _ G3 H3 _ y ⟨m3, en3⟩ r3 _ fun A4 G4 H4 σ4 δ4 μ4 a4 n4 hw c => ?_
      refine ⟨by rw [hw, wipe_twice], ?_⟩
      have same : ∀ {A5 : List Addr} {G5 H5 : Hp} {acc' : List D} {μ5 : List Cell}, Mem K S A5 G5 H5 (μ5 ++ [.lst acc']) → Nw (A1 ++ [p]) G3 A5 G5 → μ5.length = μ1.length → A5 = A1 ++ [p] := fun {A5 G5 H5 acc' μ5} m5 n5 hl => by
        obtain ⟨⟨B, hB⟩, _⟩ := n5
        have z := m5.len
        rw [hB, List.length_append, List.length_append, List.length_append, hl] at z
        have hb : B.length = 0 := by simp at z; omega
        have hb2 : B = [] := List.length_eq_zero_iff.mp hb
        rw [hB, hb2, List.append_nil]
      refine c A4 G4 H4 σ4 a4 _ fun b A5 G5 H5 μ5 m5 n5 ⟨ht, hf⟩ => ?_
      cases b with
      | true =>
        rw [if_pos rfl]
        refine ht rfl A5 G5 H5 σ4 ⟨m5, n5.en a4.env⟩ _ fun v d A6 G6 H6 μ6 m6 n6 r6 ⟨μ7, e7, hz, w7⟩ => ?_
        subst e7
        have eA := same m6 ((n4.trans n5).trans n6) (il _ _ _ w7).1
        subst eA
        have hA : (A1 ++ [p])[A1.length]? = some p := by rw [List.getElem?_append_right (Nat.le_refl _), Nat.sub_self]; rfl
        have hl7 : A1.length = μ7.length := by rw [hlen0, (il _ _ _ w7).1]
        have hc : (μ7 ++ [Cell.lst acc])[A1.length]? = some (.lst acc) := by rw [hl7, List.getElem?_append_right (Nat.le_refl _), Nat.sub_self]; rfl
        obtain ⟨gp, xs, hxs, rx⟩ := m6.cel A1.length p _ hA hc
        refine ⟨xs, hxs, smalr (by rw [← rx.len]; exact hz), G6, acc ++ [d], μ7, ?_, (((e2.trans e3).trans n4.ex).trans n5.ex).trans n6.ex, w7⟩
        have mw := m6.wrote hA hc (rx.append (.cons r6 .nil))
        have es : (μ7 ++ [Cell.lst acc]).set A1.length (.lst (acc ++ [d])) = μ7 ++ [.lst (acc ++ [d])] := by
          rw [hl7, List.set_append_right _ _ (Nat.le_refl _), Nat.sub_self]
          rfl
        rw [es] at mw
        exact mw
      | false =>
        rw [if_neg Bool.false_ne_true]
        obtain ⟨μ7, e7, w7⟩ := hf rfl
        subst e7
        have eA := same m5 (n4.trans n5) (il _ _ _ w7).1
        subst eA
        exact ⟨G5, acc, μ7, m5, ((e2.trans e3).trans n4.ex).trans n5.ex, w7⟩
    · have e : i = l.length := by omega
      refine .inl ⟨g2 e, ?_⟩
      obtain ⟨w1, w2, w3⟩ := il _ _ _ w
      obtain ⟨xs, hxs, gp, rx, mp⟩ := m2.popShut hS (by rw [hlen0]; exact w2) (by rw [hlen0]; exact w3)
      have ne := Ex.new (o := .lst xs) gp
      exact q (.ref p) (.lst acc) A1 _ H' μ2 mp (n1.trans (.of (e2.trans ne))) (.lst upd_same (rx.mono0 ne)) (ie acc μ2 (by rw [← e]; exact w))
/-- .. whose elements change nothing -/
theorem ee_lc {vs : List Nat} {C : D → List Cell → Prop} (h : IE K S wi δ μ fun l P μ1 => (∀ c, P μ1 → P (μ1 ++ [c])) ∧ P μ1 ∧ ∃ (f : D → Bool) (e : D → D), l.length ≤ 10000000 ∧ (∀ x ∈ l, f x = true → (e x).lt μ1.length = true) ∧
      (∀ x acc, x ∈ l → GW K S g vs x (wipeS δ vs) (μ1 ++ [.lst acc]) fun δ2 μ2 => ET K S t δ2 μ2 fun b μ3 => b = f x ∧ μ3 = μ1 ++ [.lst acc] ∧ (b = true → EE K S te δ2 μ3 fun d μ4 => d = e x ∧ μ4 = μ1 ++ [.lst acc])) ∧
      C (.lst ((l.filter f).map e)) μ1) : EE K S (tLc wi g t te vs) δ μ C := by
  refine ee_lcI fun A G H σ a R q => h A G H σ a R fun J l P A1 G1 H1 μ1 m1 n1 gv ⟨hP, hP1, f, e, hl, hno, ht, c⟩ => q J l P A1 G1 H1 μ1 m1 n1 gv ?_
  refine ⟨fun i acc μ' => μ' = μ1 ∧ acc = ((l.take i).filter f).map e, fun i acc μ' w => by rw [w.1]; exact hP _ hP1, ⟨rfl, by simp⟩, fun i acc μ' w => by
    rw [w.1, w.2]
    refine ⟨rfl, m1.scope, D.ltL_all.mpr fun d hd => ?_⟩
    obtain ⟨x, hx, rfl⟩ := List.mem_map.mp hd
    obtain ⟨hx1, hx2⟩ := List.mem_filter.mp hx
    exact hno x (List.mem_of_mem_take hx1) hx2, fun i x acc μ' hx w => ?_, fun acc μ' w => ?_⟩
  · obtain ⟨rfl, ea⟩ := w
    have hm : x ∈ l := List.mem_of_getElem? hx
    have ht1 : l.take (i + 1) = l.take i ++ [x] := by
      obtain ⟨hi, e1⟩ := List.getElem?_eq_some_iff.mp hx
      rw [List.take_succ, hx]
      rfl
    have hlen : acc.length < 10000000 := by
      have h1 : acc.length ≤ i := by
        rw [ea, List.length_map]
        exact Nat.le_trans (List.length_filter_le _ _) (by rw [List.length_take]; omega)
      have h2 := (List.getElem?_eq_some_iff.mp hx).1
      omega
    intro A2 G2 H2 σ2 v2 a2 r2 Q2 q2
    refine ht x acc hm A2 G2 H2 σ2 v2 a2 r2 Q2 fun A3 G3 H3 σ3 δ3 μ3 a3 n3 hw c3 => q2 A3 G3 H3 σ3 δ3 μ3 a3 n3 hw ?_
    intro A4 G4 H4 σ4 a4 Q4 q4
    refine c3 A4 G4 H4 σ4 a4 Q4 fun b A5 G5 H5 μ5 m5 n5 ⟨eb, em, c5⟩ => q4 b A5 G5 H5 μ5 m5 n5 ⟨fun hb => ?_, fun hb => ?_⟩
    · refine (c5 hb).imp fun d μ6 ⟨ed, e6⟩ => ⟨_, e6, hlen, rfl, ?_⟩
      rw [ea, ht1, List.filter_append, List.map_append, List.filter_cons, if_pos (by rw [← eb]; exact hb), ed]
      rfl
    · refine ⟨_, em, rfl, ?_⟩
      rw [ea, ht1, List.filter_append, List.map_append, List.filter_cons, if_neg (by rw [← eb, hb]; exact Bool.false_ne_true)]
      simp
  · obtain ⟨rfl, ea⟩ := w
    rw [ea, List.take_length]
    exact c
end
end PA

set_option Elab.async false
set_option linter.all false
set_option maxRecDepth 100000
set_option maxHeartbeats 2000000
/-! PbCall: promises over data with open lists, how a def keeps one, how a call uses it. -/
namespace PA
open PySem L2
def Cell.ren (f : Nat → Nat) : Cell → Cell
  | .lst l => .lst (D.renL f l)
  | .off => .off
def Cell.hs (p : Nat → Bool) : Cell → Bool
  | .lst l => D.hsL p l
  | .off => true
/-- THE PROMISE: for each t that suits (pre), called with the data arg t while the open lists handed in hold cel t, it ends with post (behind the lists handed in come its new ones), or lets an error out by exc -/
def Pro (K : PySem.W.Frag) {T : Type} (cel : T → List Cell) (arg : T → List D) (pre : T → Prop) (post : T → D → List Cell → Prop) (exc : T → Addr → D → List Cell → Prop) : Sp := fun vs H Q E =>
  ∃ (t : T) (A : List Addr) (G : Hp), pre t ∧ Mem K ⟨A, G, H⟩ A G H (cel t) ∧ RpL K A G (arg t) vs ∧
    (∀ v d B G' H' μ, Mem K ⟨A, G, H⟩ (A ++ B) G' H' μ → Rp K (A ++ B) G' d v → post t d μ → Q v H') ∧
    ∀ c dx u d G' H' μ, Mem K ⟨A, G, H⟩ A G' H' μ → H dx = none → G' dx = none → H' dx = some (.xd [(("value" : Str), u)]) → Rp K A G' d u → exc t c d μ → E (.ref c) (some dx) H'
/-- .. without open lists -/
abbrev ProP (K : PySem.W.Frag) {T : Type} (arg : T → List D) (pre : T → Prop) (post : T → D → Prop) (exc : T → Addr → D → Prop) : Sp :=
  Pro K (fun _ => []) arg pre (fun t d μ => μ = [] ∧ post t d) (fun t c d _ => exc t c d)
/-- .. that gives one new list -/
abbrev ProN (K : PySem.W.Frag) {T : Type} (arg : T → List D) (pre : T → Prop) (post : T → List D → Prop) (exc : T → Addr → D → Prop) : Sp :=
  Pro K (fun _ => []) arg pre (fun t d μ => ∃ l, d = .own 0 ∧ μ = [.lst l] ∧ D.ltL 0 l = true ∧ post t l) (fun t c d _ => exc t c d)
section
variable {K : PySem.W.Frag} {S : Bs} {δ : Sl} {μ ν : List Cell} {A A' B : List Addr} {G H G' H' : Hp}
theorem getD_get {A : List Addr} {k : Nat} (h : k < A.length) : A[k]? = some (A.getD k 0) := by
  rw [List.getD_eq_getElem?_getD, List.getElem?_eq_getElem h]
  rfl
theorem getD_cell {μ : List Cell} {k : Nat} (h : k < μ.length) : μ[k]? = some (μ.getD k .off) := by
  rw [List.getD_eq_getElem?_getD, List.getElem?_eq_getElem h]
  rfl
theorem CellAt.ren {f : Nat → Nat} {p : Nat → Bool} {a : Addr} {c : Cell} (hf : ∀ k a, p k = true → A[k]? = some a → A'[f k]? = some a) (h : CellAt K A G H a c) (hc : c.hs p = true) : CellAt K A' G H a (c.ren f) := by
  cases c with
  | off => trivial
  | lst l =>
    obtain ⟨g, xs, hx, r⟩ := h
    exact ⟨g, xs, hx, r.ren hf hc⟩
/-! ### letting go -/
def fk (n : Nat) (ks : List Nat) (k : Nat) : Nat := if k < n then k else n + ks.idxOf k
def pk (n : Nat) (ks : List Nat) (k : Nat) : Bool := decide (k < n) || ks.contains k
def kept (n : Nat) (ks : List Nat) (μ : List Cell) : List Cell := (μ.take n ++ ks.map fun k => μ.getD k .off).map (Cell.ren (fk n ks))
theorem fk_at {ks : List Nat} (hks : ∀ k ∈ ks, S.A.length ≤ k ∧ k < A.length) (hA : ∃ B, A = S.A ++ B) : ∀ k a, pk S.A.length ks k = true → A[k]? = some a → (S.A ++ ks.map fun k => A.getD k 0)[fk S.A.length ks k]? = some a := fun k a hp h => by
  obtain ⟨B, hB⟩ := hA
  unfold fk
  by_cases hk : k < S.A.length
  · rw [if_pos hk, List.getElem?_append_left hk]
    rw [hB, List.getElem?_append_left hk] at h
    exact h
  · rw [if_neg hk]
    have hm : k ∈ ks := by
      unfold pk at hp
      rw [decide_eq_false hk, Bool.false_or] at hp
      simpa using hp
    rw [List.getElem?_append_right (by omega), Nat.add_sub_cancel_left, List.getElem?_map, List.getElem?_eq_getElem (List.idxOf_lt_length_of_mem hm)]
    have e : ks[ks.idxOf k]'(List.idxOf_lt_length_of_mem hm) = k := List.getElem_idxOf (List.idxOf_lt_length_of_mem hm)
    rw [e]
    show some (A.getD k 0) = some a
    rw [← getD_get (hks k hm).2, h]
theorem Mem.trim {ks : List Nat} (m : Mem K S A G H μ) (hn : ks.Nodup) (hks : ∀ k ∈ ks, S.A.length ≤ k ∧ k < μ.length) (hc : ∀ c ∈ μ.take S.A.length ++ ks.map (fun k => μ.getD k .off), c.hs (pk S.A.length ks) = true) :
    Mem K S (S.A ++ ks.map fun k => A.getD k 0) G H (kept S.A.length ks μ) := by
  obtain ⟨B, hB, hb⟩ := id m.pre
  have hksA : ∀ k ∈ ks, S.A.length ≤ k ∧ k < A.length := fun k hk => by rw [m.len]; exact hks k hk
  have hf := fk_at hksA ⟨B, hB⟩
  have hnA : S.A.length ≤ A.length := by rw [hB, List.length_append]; omega
  have inB : ∀ k ∈ ks, A.getD k 0 ∈ B := fun k hk => by
    have h1 := getD_get (hksA k hk).2
    have h2 : (S.A ++ B)[k]? = some (A.getD k 0) := by rw [← hB]; exact h1
    rw [List.getElem?_append_right (hksA k hk).1] at h2
    exact List.mem_of_getElem? h2
  exact {
    ex := m.ex
    exG := m.exG
    pre := ⟨_, rfl, fun b hb2 => by
      obtain ⟨k, hk, rfl⟩ := List.mem_map.mp hb2
      exact hb _ (inB k hk)⟩
    new := m.new
    keep := m.keep
    cel := fun k a c h1 h2 => by
      unfold kept at h2
      rw [List.getElem?_map] at h2
      by_cases hk : k < S.A.length
      · rw [List.getElem?_append_left hk] at h1
        have hk2 : k < (μ.take S.A.length).length := by rw [List.length_take, ← m.len]; omega
        rw [List.getElem?_append_left hk2, List.getElem?_take_of_lt hk] at h2
        cases q : μ[k]? with
        | none => rw [q] at h2; cases h2
        | some c0 =>
          rw [q] at h2
          cases h2
          have hm : c0 ∈ μ.take S.A.length := List.mem_of_getElem? (by rw [List.getElem?_take_of_lt hk]; exact q)
          exact (m.cel k a c0 (by rw [hB, List.getElem?_append_left hk]; exact h1) q).ren hf (hc c0 (List.mem_append_left _ hm))
      · have hlt : (μ.take S.A.length).length = S.A.length := by rw [List.length_take, ← m.len]; omega
        rw [List.getElem?_append_right (by omega), List.getElem?_map] at h1
        rw [List.getElem?_append_right (by omega), hlt, List.getElem?_map] at h2
        cases q : ks[k - S.A.length]? with
        | none => rw [q] at h1; cases h1
        | some j =>
          rw [q] at h1 h2
          cases h1
          cases h2
          have hj : j ∈ ks := List.mem_of_getElem? q
          exact (m.cel j _ _ (getD_get (hksA j hj).2) (getD_cell (hks j hj).2)).ren hf (hc _ (List.mem_append_right _ (List.mem_map_of_mem hj)))
    len := by
      unfold kept
      rw [List.length_map, List.length_append, List.length_append, List.length_map, List.length_map, List.length_take, ← m.len]
      omega
    nd := by
      refine List.nodup_append.mpr ⟨?_, ?_, fun a ha b hb2 e => ?_⟩
      · have q := m.nd
        rw [hB] at q
        exact (List.nodup_append.mp q).1
      · refine List.pairwise_map.mpr ?_
        refine List.Pairwise.imp_of_mem (fun {i j} hi hj hij e => hij ?_) hn
        have h1 := getD_get (hksA i hi).2
        have h2 := getD_get (hksA j hj).2
        rw [e, ← h2] at h1
        obtain ⟨p1, e1⟩ := List.getElem?_eq_some_iff.mp (getD_get (hksA i hi).2)
        obtain ⟨p2, e2⟩ := List.getElem?_eq_some_iff.mp (getD_get (hksA j hj).2)
        exact (List.getElem_inj m.nd).mp (e1.trans (e.trans e2.symm))
      · obtain ⟨k, hk, rfl⟩ := List.mem_map.mp hb2
        have q := m.nd
        rw [hB] at q
        exact (List.nodup_append.mp q).2.2 a ha _ (inB k hk) e
    al := fun a ha => by
      refine m.al a ?_
      rcases List.mem_append.mp ha with ha | ha
      · rw [hB]; exact List.mem_append_left _ ha
      · obtain ⟨k, hk, rfl⟩ := List.mem_map.mp ha
        exact List.mem_of_getElem? (getD_get (hksA k hk).2) }
/-- what is wished of an error that leaves -/
def Wi (K : PySem.W.Frag) (S : Bs) (E : XK) (CE : Addr → D → List Cell → Prop) : Prop :=
  ∀ c dx u d A G H μ, Mem K S A G H μ → S.H dx = none → G dx = none → H dx = some (.xd [(("value" : Str), u)]) → Rp K A G d u → CE c d μ → E (.ref c) (some dx) H
theorem Wi.none {E : XK} : Wi K S E (fun _ _ _ => False) := fun _ _ _ _ _ _ _ _ _ _ _ _ _ z => z.elim
/-- how a def begins -/
def startS (N : List Str) (ds : List D) : Sl := ds.map some ++ List.replicate (N.length - ds.length) none
theorem start_en {N : List Str} : ∀ {ds : List D} {vs : List V}, RpL K A G ds vs → En K A G (ds.map some ++ List.replicate (N.length - ds.length) none) (vs.map some ++ List.replicate (N.length - vs.length) none) := by
  have fill : ∀ n : Nat, En K A G (List.replicate n none) (List.replicate n none) := by
    intro n
    induction n with
    | zero => exact .nil
    | succ n ih => exact .skip ih
  have key : ∀ {ds : List D} {vs : List V} (n : Nat), RpL K A G ds vs → En K A G (ds.map some ++ List.replicate n none) (vs.map some ++ List.replicate n none) := by
    intro ds
    induction ds with
    | nil =>
      intro vs n h
      cases h
      exact fill n
    | cons d ds ih =>
      intro vs n h
      cases h with
      | cons h r => exact .cons h (ih n r)
  intro ds vs h
  rw [h.len]
  have := key (N.length - vs.length) h
  exact this
/-- a value given back: ks are the lists of one's own that go with it -/
def Gave (S : Bs) (P : D → List Cell → Prop) (d : D) (μ : List Cell) : Prop :=
  ∃ ks : List Nat, ks.Nodup ∧ (∀ k ∈ ks, S.A.length ≤ k ∧ k < μ.length) ∧ d.hs (pk S.A.length ks) = true ∧ (∀ c ∈ μ.take S.A.length ++ ks.map (fun k => μ.getD k .off), c.hs (pk S.A.length ks) = true) ∧ P (d.ren (fk S.A.length ks)) (kept S.A.length ks μ)
theorem pk_lt {n : Nat} {ks : List Nat} : ∀ k, decide (k < n) = true → pk n ks k = true := fun k h => by
  unfold pk
  rw [h]
  rfl
theorem Cell.hs_mono {p q : Nat → Bool} (hp : ∀ k, p k = true → q k = true) {c : Cell} (h : c.hs p = true) : c.hs q = true := by
  cases c with
  | off => rfl
  | lst l => exact D.hsL_mono hp h
theorem Cell.lt_hs {n : Nat} {c : Cell} : c.lt n = c.hs fun k => decide (k < n) := by cases c <;> rfl
theorem Cell.ren_id {f : Nat → Nat} {p : Nat → Bool} (hf : ∀ k, p k = true → f k = k) {c : Cell} (h : c.hs p = true) : c.ren f = c := by
  cases c with
  | off => rfl
  | lst l => exact congrArg Cell.lst (D.renL_id hf h)
theorem fk_lt {n : Nat} {ks : List Nat} : ∀ k, decide (k < n) = true → fk n ks k = k := fun k h => if_pos (of_decide_eq_true h)
theorem map_ren {n : Nat} {ks : List Nat} : ∀ {μ : List Cell}, cellsLt n μ = true → μ.map (Cell.ren (fk n ks)) = μ
  | [], _ => rfl
  | c :: μ, h => by
    unfold cellsLt at h
    rw [List.all_cons, Bool.and_eq_true] at h
    rw [List.map_cons, map_ren h.2, Cell.ren_id fk_lt (by rw [← Cell.lt_hs]; exact h.1)]
/-- nothing new goes with it -/
theorem gave {P : D → List Cell → Prop} {d : D} (h1 : d.lt S.A.length = true) (h2 : cellsLt S.A.length (μ.take S.A.length) = true) (h : P d (μ.take S.A.length)) : Gave S P d μ := by
  refine ⟨[], List.nodup_nil, fun k hk => (by cases hk), D.hs_mono pk_lt h1, fun c hc => ?_, ?_⟩
  · rw [List.map_nil, List.append_nil] at hc
    refine Cell.hs_mono pk_lt ?_
    rw [← Cell.lt_hs]
    exact List.all_eq_true.mp h2 c hc
  · rw [D.ren_id fk_lt h1]
    unfold kept
    rw [List.map_nil, List.append_nil, map_ren h2]
    exact h
/-- one new list, given back itself -/
theorem gave_new {P : D → List Cell → Prop} {k : Nat} {l : List D} (h0 : S.A.length ≤ k) (hk : μ[k]? = some (.lst l)) (h1 : D.ltL S.A.length l = true) (h2 : cellsLt S.A.length (μ.take S.A.length) = true) (h : P (.own S.A.length) (μ.take S.A.length ++ [.lst l])) : Gave S P (.own k) μ := by
  have hlt := (List.getElem?_eq_some_iff.mp hk).1
  have hg : μ.getD k .off = .lst l := by
    have q := getD_cell hlt
    rw [hk] at q
    injection q with q
    exact q.symm
  have e : fk S.A.length [k] k = S.A.length := by
    unfold fk
    rw [if_neg (by omega)]
    simp
  refine ⟨[k], by simp, fun j hj => ?_, ?_, fun c hc => ?_, ?_⟩
  · rw [List.mem_singleton.mp hj]
    exact ⟨h0, hlt⟩
  · show pk S.A.length [k] k = true
    unfold pk
    simp
  · rcases List.mem_append.mp hc with hc | hc
    · refine Cell.hs_mono pk_lt ?_
      rw [← Cell.lt_hs]
      exact List.all_eq_true.mp h2 c hc
    · rw [List.map_cons, List.map_nil, hg] at hc
      rw [List.mem_singleton.mp hc]
      exact D.hsL_mono pk_lt h1
  · show P (.own (fk S.A.length [k] k)) _
    rw [e]
    unfold kept
    rw [List.map_cons, List.map_nil, hg, List.map_append, map_ren h2, List.map_cons, List.map_nil, Cell.ren_id fk_lt (by exact h1)]
    exact h
theorem run_body {T : Type} {cel : T → List Cell} {arg : T → List D} {pre : T → Prop} {post : T → D → List Cell → Prop} {exc : T → Addr → D → List Cell → Prop} {N : List Str} {vs : List V} {H : Hp} {Q : VK} {E : XK} {t : TS}
    (h : Pro K cel arg pre post exc vs H Q E)
    (hb : ∀ (x : T) (S : Bs), pre x → S.A.length = (cel x).length → D.ltL S.A.length (arg x) = true → Wi K S E (fun c d μ => d.lt S.A.length = true ∧ cellsLt S.A.length (μ.take S.A.length) = true ∧ exc x c d (μ.take S.A.length)) →
      SE K S t (startS N (arg x)) (cel x) { nx := fun _ μ => Gave S (post x) .non μ, rt := Gave S (post x) }) :
    t { nx := fun _ H' => Q .non H', rt := Q } (start N vs) H := by
  obtain ⟨x, A, G, hp, m, r, q1, q3⟩ := h
  have give : ∀ A' G' H' v d μ', Mem K ⟨A, G, H⟩ A' G' H' μ' → Rp K A' G' d v → Gave ⟨A, G, H⟩ (post x) d μ' → Q v H' := fun A' G' H' v d μ' m' rd ⟨ks, hn, hks, hd, hc, hP⟩ => by
    have hpre : ∃ B, A' = A ++ B := let ⟨B, hB, _⟩ := m'.pre; ⟨B, hB⟩
    exact q1 v _ _ G' H' _ (m'.trim hn hks hc) (rd.ren (fk_at (S := ⟨A, G, H⟩) (fun k hk => by rw [m'.len]; exact hks k hk) hpre) hd) hP
  have e := hb x ⟨A, G, H⟩ hp m.len r.scope (fun c dx u d A' G' H' μ' m' f1 f2 f3 rd ⟨c1, c2, c3⟩ => by
    have hpre : ∃ B, A' = A ++ B := let ⟨B, hB, _⟩ := m'.pre; ⟨B, hB⟩
    have hc : ∀ c ∈ μ'.take A.length ++ ([] : List Nat).map (fun k => μ'.getD k .off), c.hs (pk A.length []) = true := fun c hc => by
      rw [List.map_nil, List.append_nil] at hc
      refine Cell.hs_mono pk_lt ?_
      rw [← Cell.lt_hs]
      exact List.all_eq_true.mp c2 c hc
    have mt := m'.trim (ks := []) List.nodup_nil (fun k hk => (by cases hk)) hc
    have ek : kept A.length [] μ' = μ'.take A.length := by
      unfold kept
      rw [List.map_nil, List.append_nil, map_ren c2]
    rw [List.map_nil, List.append_nil] at mt
    have rd2 := rd.ren (fk_at (S := ⟨A, G, H⟩) (ks := []) (fun k hk => (by cases hk)) hpre) (D.hs_mono pk_lt c1)
    rw [List.map_nil, List.append_nil, D.ren_id fk_lt c1] at rd2
    exact q3 c dx u d G' H' _ (by rw [← ek]; exact mt) f1 f2 f3 rd2 c3)
  refine e A G H _ ⟨m, start_en r⟩ _ ⟨fun A' G' H' σ δ μ' a _ c => give A' G' H' .non .non μ' a.m (.v _) c, fun A' G' H' v d μ' m' rd c => give A' G' H' v d μ' m' rd c, fun _ _ _ _ _ _ _ _ z => z.elim, fun _ _ _ _ _ _ _ _ z => z.elim⟩
theorem pro_len {T : Type} {cel : T → List Cell} {arg : T → List D} {pre : T → Prop} {post : T → D → List Cell → Prop} {exc : T → Addr → D → List Cell → Prop} {vs : List V} {H : Hp} {Q : VK} {E : XK} (h : Pro K cel arg pre post exc vs H Q E) {n : Nat} (hn : ∀ t, (arg t).length = n) : vs.length = n := by
  obtain ⟨t, A, G, hp, m, r, _⟩ := h
  rw [← r.len, hn t]
/-- all of one's own lists go with it -/
theorem gave_all {P : D → List Cell → Prop} {d : D} (h0 : S.A.length ≤ μ.length) (h1 : d.lt μ.length = true) (h2 : cellsLt μ.length μ = true) (h : P d μ) : Gave S P d μ := by
  have hk : ∀ k, k < μ.length → pk S.A.length (List.range' S.A.length (μ.length - S.A.length)) k = true ∧ fk S.A.length (List.range' S.A.length (μ.length - S.A.length)) k = k := fun k hk => by
    unfold pk fk
    by_cases hlt : k < S.A.length
    · rw [if_pos hlt]
      exact ⟨by simp [hlt], rfl⟩
    · rw [if_neg hlt]
      have hm : k ∈ List.range' S.A.length (μ.length - S.A.length) := List.mem_range'_1.mpr ⟨by omega, by omega⟩
      refine ⟨by simp [hm], ?_⟩
      have hi := List.idxOf_lt_length_of_mem hm
      have q : (List.range' S.A.length (μ.length - S.A.length))[(List.range' S.A.length (μ.length - S.A.length)).idxOf k] = k := List.getElem_idxOf hi
      rw [List.getElem_range'] at q
      omega
  have hp : ∀ k, decide (k < μ.length) = true → pk S.A.length (List.range' S.A.length (μ.length - S.A.length)) k = true := fun k z => (hk k (of_decide_eq_true z)).1
  have hf : ∀ k, decide (k < μ.length) = true → fk S.A.length (List.range' S.A.length (μ.length - S.A.length)) k = k := fun k z => (hk k (of_decide_eq_true z)).2
  have eμ : μ.take S.A.length ++ (List.range' S.A.length (μ.length - S.A.length)).map (fun k => μ.getD k .off) = μ := by
    refine List.ext_getElem? fun k => ?_
    by_cases hlt : k < S.A.length
    · rw [List.getElem?_append_left (by rw [List.length_take]; omega), List.getElem?_take_of_lt hlt]
    · have hl : (μ.take S.A.length).length = S.A.length := by rw [List.length_take]; omega
      rw [List.getElem?_append_right (by omega), hl, List.getElem?_map]
      by_cases hk2 : k < μ.length
      · rw [List.getElem?_range' (by omega)]
        show some (μ.getD (S.A.length + 1 * (k - S.A.length)) .off) = _
        rw [show S.A.length + 1 * (k - S.A.length) = k by omega, ← getD_cell hk2]
      · rw [List.getElem?_eq_none (by rw [List.length_range']; omega), List.getElem?_eq_none (by omega)]
        rfl
  refine ⟨List.range' S.A.length (μ.length - S.A.length), List.nodup_range', fun k hm => ?_, D.hs_mono hp h1, fun c hc => ?_, ?_⟩
  · have := List.mem_range'_1.mp hm
    omega
  · rw [eμ] at hc
    refine Cell.hs_mono hp ?_
    rw [← Cell.lt_hs]
    exact List.all_eq_true.mp h2 c hc
  · rw [D.ren_id hf h1]
    unfold kept
    rw [eμ]
    have e : μ.map (Cell.ren (fk S.A.length (List.range' S.A.length (μ.length - S.A.length)))) = μ := by
      refine (List.map_congr_left fun c hc => Cell.ren_id hf (?_ : c.hs (fun k => decide (k < μ.length)) = true)).trans (List.map_id' μ)
      rw [← Cell.lt_hs]
      exact List.all_eq_true.mp h2 c hc
    rw [e]
    exact h
end
end PA

set_option Elab.async false
set_option linter.all false
set_option maxRecDepth 100000
set_option maxHeartbeats 2000000
/-! PbCall2: a call, seen by the caller. -/
namespace PA
open PySem L2
/-- the lists hs get new contents -/
def put : List Nat → List Cell → List Cell → List Cell
  | k :: hs, c :: ν, μ => put hs ν (μ.set k c)
  | _, _, μ => μ
/-- the callee's handles as the caller's: the handed ones hs, then the new ones -/
def back (hs : List Nat) (n : Nat) (j : Nat) : Nat := if j < hs.length then hs.getD j 0 else n + (j - hs.length)
section
variable {K : PySem.W.Frag} {S : Bs} {δ : Sl} {μ ν : List Cell} {A A' B : List Addr} {G H G' H' : Hp}
theorem put_len : ∀ {hs : List Nat} {ν μ : List Cell}, (put hs ν μ).length = μ.length
  | [], _, _ => rfl
  | _ :: _, [], _ => rfl
  | k :: hs, c :: ν, μ => by
    show (put hs ν (μ.set k c)).length = _
    rw [put_len, List.length_set]
theorem put_not : ∀ {hs : List Nat} {ν μ : List Cell} {k : Nat}, k ∉ hs → (put hs ν μ)[k]? = μ[k]?
  | [], _, _, _, _ => rfl
  | _ :: _, [], _, _, _ => rfl
  | j :: hs, c :: ν, μ, k, h => by
    show (put hs ν (μ.set j c))[k]? = _
    rw [put_not (fun z => h (List.mem_cons_of_mem _ z)), List.getElem?_set_ne (fun z => h (by rw [z]; exact List.mem_cons_self))]
theorem put_mem : ∀ {hs : List Nat} {ν μ : List Cell} {k : Nat}, hs.Nodup → (∀ j ∈ hs, j < μ.length) → hs.length ≤ ν.length → k ∈ hs → (put hs ν μ)[k]? = ν[hs.idxOf k]?
  | j :: hs, [], _, _, _, _, hl, _ => by simp at hl
  | j :: hs, c :: ν, μ, k, hn, hlt, hl, hk => by
    show (put hs ν (μ.set j c))[k]? = _
    rw [List.nodup_cons] at hn
    by_cases e : k = j
    · subst e
      rw [put_not hn.1, List.getElem?_set_self (hlt k List.mem_cons_self), List.idxOf_cons_self]
      rfl
    · have hk2 : k ∈ hs := by
        rcases List.mem_cons.mp hk with z | z
        · exact absurd z e
        · exact z
      rw [put_mem hn.2 (fun i hi => by rw [List.length_set]; exact hlt i (List.mem_cons_of_mem _ hi)) (by simpa using hl) hk2, List.idxOf_cons, show (j == k) = false from beq_eq_false_iff_ne.mpr fun z => e z.symm]
      rfl
theorem back_at {hs : List Nat} (hlt : ∀ k ∈ hs, k < A.length) : ∀ j a, (fun _ : Nat => true) j = true → ((hs.map fun k => A.getD k 0) ++ B)[j]? = some a → (A ++ B)[back hs A.length j]? = some a := fun j a _ h => by
  unfold back
  by_cases hj : j < hs.length
  · rw [if_pos hj]
    rw [List.getElem?_append_left (by rw [List.length_map]; exact hj), List.getElem?_map, List.getElem?_eq_getElem hj] at h
    have e : hs.getD j 0 = hs[j] := by
      rw [List.getD_eq_getElem?_getD, List.getElem?_eq_getElem hj]
      rfl
    rw [e]
    have h2 := hlt _ (List.getElem_mem hj)
    rw [List.getElem?_append_left h2, getD_get h2]
    exact h
  · rw [if_neg hj]
    rw [List.getElem?_append_right (by rw [List.length_map]; omega), List.length_map] at h
    rw [List.getElem?_append_right (by omega), Nat.add_sub_cancel_left]
    exact h
theorem D.hs_true : ∀ d : D, d.hs (fun _ => true) = true := fun d => by
  have key : ∀ (d : D), d.hs (fun _ => true) = true := by
    intro d
    exact D.rec (motive_1 := fun d => d.hs (fun _ => true) = true) (motive_2 := fun l => D.hsL (fun _ => true) l = true)
      (fun _ => rfl) (fun _ h => h) (fun _ h => h) (fun _ h => h) (fun _ _ h => h) (fun _ _ h => h) (fun _ => rfl) rfl (fun _ _ h1 h2 => Bool.and_eq_true_iff.mpr ⟨h1, h2⟩) d
  exact key d
theorem D.hsL_true : ∀ l : List D, D.hsL (fun _ => true) l = true := fun l => D.hsL_all.mpr fun d _ => D.hs_true d
theorem Cell.hs_true (c : Cell) : c.hs (fun _ => true) = true := by
  cases c with
  | off => rfl
  | lst l => exact D.hsL_true l
/-- what stands behind a call, seen by the caller -/
def behindC (hs : List Nat) (n : Nat) (ν μ : List Cell) : List Cell := put hs (ν.map (Cell.ren (back hs n))) μ ++ (ν.drop hs.length).map (Cell.ren (back hs n))
theorem Mem.after {hs : List Nat} (hn : hs.Nodup) (hlt : ∀ k ∈ hs, k < μ.length) (m : Mem K S A G H μ) (f : Mem K ⟨hs.map fun k => A.getD k 0, G, H⟩ ((hs.map fun k => A.getD k 0) ++ B) G' H' ν) :
    Mem K S (A ++ B) G' H' (behindC hs A.length ν μ) := by
  have hltA : ∀ k ∈ hs, k < A.length := fun k hk => by rw [m.len]; exact hlt k hk
  have hνl : ν.length = hs.length + B.length := by
    rw [← f.len, List.length_append, List.length_map]
  have hBn : ∀ b ∈ B, H b = none := fun b hb => by
    obtain ⟨B', hB, h⟩ := f.pre
    have e : B = B' := List.append_cancel_left hB
    exact h b (by rw [← e]; exact hb)
  have inA : ∀ a ∈ (hs.map fun k => A.getD k 0), a ∈ A := fun a ha => by
    obtain ⟨k, hk, rfl⟩ := List.mem_map.mp ha
    exact List.mem_of_getElem? (getD_get (hltA k hk))
  have alive : ∀ a ∈ A, ∃ o, H a = some o := fun a ha => by
    cases q : H a with
    | none => exact absurd q (m.al a ha)
    | some o => exact ⟨o, rfl⟩
  have hren := back_at (B := B) hltA
  exact {
    ex := f.ex
    exG := m.exG.trans f.exG
    pre := by
      obtain ⟨B0, hB0, h0⟩ := m.pre
      refine ⟨B0 ++ B, by rw [hB0, List.append_assoc], fun b hb => ?_⟩
      rcases List.mem_append.mp hb with hb | hb
      · exact h0 b hb
      · have hA : b ∉ A := fun z => by
          obtain ⟨o, ho⟩ := alive b z
          rw [hBn b hb] at ho
          cases ho
        cases q : S.H b with
        | none => rfl
        | some o =>
          by_cases ha : b ∈ S.A
          · exact absurd (by rw [hB0]; exact List.mem_append_left _ ha) hA
          · have z := m.keep b o ha q
            rw [hBn b hb] at z
            cases z
    new := fun p hp => by
      rcases f.new p hp with h | h
      · exact m.new p h
      · have h : H p = none := h
        cases q : S.H p with
        | none => exact .inr rfl
        | some o =>
          by_cases ha : p ∈ S.A
          · obtain ⟨B0, hB0, h0⟩ := m.pre
            exact absurd h (m.al p (by rw [hB0]; exact List.mem_append_left _ ha))
          · rw [m.keep p o ha q] at h
            cases h
    keep := fun a o h1 h2 => by
      refine f.keep a o (fun hm => ?_) (m.keep a o h1 h2)
      have hA := inA a hm
      obtain ⟨B0, hB0, h0⟩ := m.pre
      rw [hB0] at hA
      rcases List.mem_append.mp hA with z | z
      · exact h1 z
      · rw [h0 a z] at h2
        cases h2
    cel := fun k a c h1 h2 => by
      unfold behindC at h2
      by_cases hk : k < A.length
      · rw [List.getElem?_append_left hk] at h1
        rw [List.getElem?_append_left (by rw [put_len, ← m.len]; exact hk)] at h2
        by_cases hm : k ∈ hs
        · rw [put_mem hn hlt (by rw [List.length_map]; omega) hm, List.getElem?_map] at h2
          have hi := List.idxOf_lt_length_of_mem hm
          cases q : ν[hs.idxOf k]? with
          | none => rw [q] at h2; cases h2
          | some c0 =>
            rw [q] at h2
            cases h2
            refine (f.cel (hs.idxOf k) a c0 ?_ q).ren hren (Cell.hs_true c0)
            rw [List.getElem?_append_left (by rw [List.length_map]; exact hi), List.getElem?_map, List.getElem?_eq_getElem hi, List.getElem_idxOf hi]
            show some (A.getD k 0) = _
            rw [← getD_get hk, h1]
        · rw [put_not hm] at h2
          have q := m.cel k a c h1 h2
          cases c with
          | off => trivial
          | lst l =>
            obtain ⟨g, xs, hx, r⟩ := q
            have hna : a ∉ (hs.map fun k => A.getD k 0) := fun z => by
              obtain ⟨j, hj, e⟩ := List.mem_map.mp z
              obtain ⟨p1, e1⟩ := List.getElem?_eq_some_iff.mp (getD_get (hltA j hj))
              obtain ⟨p2, e2⟩ := List.getElem?_eq_some_iff.mp h1
              have ej : j = k := (List.getElem_inj m.nd).mp (e1.trans (e.trans e2.symm))
              exact hm (by rw [← ej]; exact hj)
            refine ⟨?_, xs, f.keep a _ hna hx, r.mono f.exG⟩
            cases z : G' a with
            | none => rfl
            | some o =>
              rcases f.new a (by rw [z]; exact fun h => nomatch h) with y | y
              · exact absurd g y
              · have y : H a = none := y
                rw [hx] at y
                cases y
      · rw [List.getElem?_append_right (by omega)] at h1
        rw [List.getElem?_append_right (by rw [put_len, ← m.len]; omega), put_len, ← m.len, List.getElem?_map, List.getElem?_drop] at h2
        cases q : ν[hs.length + (k - A.length)]? with
        | none => rw [q] at h2; cases h2
        | some c0 =>
          rw [q] at h2
          cases h2
          refine (f.cel _ a c0 ?_ q).ren hren (Cell.hs_true c0)
          rw [List.getElem?_append_right (by rw [List.length_map]; omega), List.length_map, Nat.add_sub_cancel_left]
          exact h1
    len := by
      unfold behindC
      rw [List.length_append, List.length_append, put_len, List.length_map, List.length_drop, ← m.len]
      omega
    nd := by
      have q := f.nd
      refine List.nodup_append.mpr ⟨m.nd, (List.nodup_append.mp q).2.1, fun a ha b hb e => ?_⟩
      obtain ⟨o, ho⟩ := alive a ha
      rw [e, hBn b hb] at ho
      cases ho
    al := fun a ha h => by
      rcases List.mem_append.mp ha with ha | ha
      · by_cases h0 : a ∈ (hs.map fun k => A.getD k 0)
        · exact f.al a (List.mem_append_left _ h0) h
        · obtain ⟨o, ho⟩ := alive a ha
          rw [f.keep a o h0 ho] at h
          cases h
      · exact f.al a (List.mem_append_right _ ha) h }
variable {T : Type} {C : D → List Cell → Prop} {E : XK} {ta : TA} {CE : Addr → D → List Cell → Prop}
/-- the lists handed in, as the callee sees them -/
theorem Mem.hand {hs : List Nat} (hn : hs.Nodup) (hlt : ∀ k ∈ hs, k < μ.length) (m : Mem K S A G H μ) (hc : cellsLt 0 (hs.map fun k => μ.getD k .off) = true) : Mem K ⟨hs.map fun k => A.getD k 0, G, H⟩ (hs.map fun k => A.getD k 0) G H (hs.map fun k => μ.getD k .off) := by
  have hltA : ∀ k ∈ hs, k < A.length := fun k hk => by rw [m.len]; exact hlt k hk
  exact {
    ex := m.ex
    exG := Ex.refl G
    pre := ⟨[], (List.append_nil _).symm, fun _ h => by cases h⟩
    new := fun _ h => .inl h
    keep := fun _ _ _ h => h
    cel := fun j a c h1 h2 => by
      rw [List.getElem?_map] at h1 h2
      cases q : hs[j]? with
      | none => rw [q] at h1; cases h1
      | some k =>
        rw [q] at h1 h2
        cases h1
        cases h2
        have hk : k ∈ hs := List.mem_of_getElem? q
        have z := m.cel k _ _ (getD_get (hltA k hk)) (getD_cell (hlt k hk))
        have hcl : (μ.getD k .off).lt 0 = true := List.all_eq_true.mp hc _ (List.mem_map_of_mem hk)
        have key : ∀ c : Cell, CellAt K A G H (A.getD k 0) c → c.lt 0 = true → CellAt K (hs.map fun k => A.getD k 0) G H (A.getD k 0) c := by
          intro c z hcl
          cases c with
          | off => trivial
          | lst l =>
            obtain ⟨g, xs, hx, r⟩ := z
            exact ⟨g, xs, hx, r.cl hcl⟩
        exact key _ z hcl
    len := by rw [List.length_map, List.length_map]
    nd := by
      refine List.pairwise_map.mpr ?_
      refine List.Pairwise.imp_of_mem (fun {i j} hi hj hij e => hij ?_) hn
      obtain ⟨p1, e1⟩ := List.getElem?_eq_some_iff.mp (getD_get (hltA i hi))
      obtain ⟨p2, e2⟩ := List.getElem?_eq_some_iff.mp (getD_get (hltA j hj))
      exact (List.getElem_inj m.nd).mp (e1.trans (e.trans e2.symm))
    al := fun a ha => by
      obtain ⟨k, hk, rfl⟩ := List.mem_map.mp ha
      exact m.al _ (List.mem_of_getElem? (getD_get (hltA k hk))) }
theorem hand_at {hs : List Nat} (hlt : ∀ k ∈ hs, k < A.length) : ∀ k a, hs.contains k = true → A[k]? = some a → (hs.map fun k => A.getD k 0)[hs.idxOf k]? = some a := fun k a hk h => by
  have hm : k ∈ hs := by simpa using hk
  have hi := List.idxOf_lt_length_of_mem hm
  rw [List.getElem?_map, List.getElem?_eq_getElem hi, List.getElem_idxOf hi]
  show some (A.getD k 0) = _
  rw [← getD_get (hlt k hm), h]
/-- THE RULE for a call: the open lists hs are handed in -/
theorem ee_callG {cel : T → List Cell} {arg : T → List D} {pre : T → Prop} {post : T → D → List Cell → Prop} {exc : T → Addr → D → List Cell → Prop} {dds : List V} (hs : List Nat) (wi : Wi K S E CE)
    (h : EA K S ta δ μ fun ds μ1 => ∃ t : T, pre t ∧ hs.Nodup ∧ (∀ k ∈ hs, k < μ1.length) ∧ cel t = hs.map (fun k => μ1.getD k .off) ∧ cellsLt 0 (cel t) = true ∧ D.hsL (fun k => hs.contains k) ds = true ∧ D.renL (fun k => hs.idxOf k) ds ++ dds.map D.v = arg t ∧
      (∀ d ν n, post t d ν → ν.length = n → d.lt n = true → cellsLt n ν = true → hs.length ≤ n → C (d.ren (back hs μ1.length)) (behindC hs μ1.length ν μ1)) ∧ ∀ c d ν, exc t c d ν → ν.length = hs.length → d.lt hs.length = true → cellsLt hs.length ν = true → CE c (d.ren (back hs μ1.length)) (behindC hs μ1.length ν μ1)) :
    EE K S (tCall (Pro K cel arg pre post exc) dds E ta) δ μ C := fun A G H σ a Q q =>
  h A G H σ a _ fun vs ds A1 G1 H1 μ1 m1 n1 r1 ⟨t, hp, hn, hlt, hcel, hcl, hh, ha, hC, hX⟩ => by
    have hltA : ∀ k ∈ hs, k < A1.length := fun k hk => by rw [m1.len]; exact hlt k hk
    have rd : RpL K (hs.map fun k => A1.getD k 0) G1 (arg t) (vs ++ dds) := by
      rw [← ha]
      exact (r1.ren (hand_at hltA) hh).append (RpL.vals dds)
    have hm := m1.hand hn hlt (by rw [← hcel]; exact hcl)
    rw [← hcel] at hm
    refine ⟨t, _, G1, hp, hm, rd, fun v d B G' H' ν f r c => ?_, fun c dx u d G' H' ν f f1 f2 f3 r c' => ?_⟩
    · have ma := m1.after hn hlt f
      have hl : ν.length = hs.length + B.length := by
        rw [← f.len, List.length_append, List.length_map]
      have hA : (hs.map (fun k => A1.getD k 0) ++ B).length = ν.length := f.len
      refine q v _ (A1 ++ B) G' H' _ ma (n1.trans ⟨⟨B, rfl⟩, f.exG⟩) (r.ren (back_at hltA) (D.hs_true d)) ?_
      rw [m1.len]
      exact hC d ν _ c rfl (by rw [← hA]; exact r.scope) f.scope (by omega)
    · have f' : Mem K ⟨hs.map fun k => A1.getD k 0, G1, H1⟩ ((hs.map fun k => A1.getD k 0) ++ []) G' H' ν := by
        rw [List.append_nil]
        exact f
      have ma := m1.after hn hlt f'
      have hl : ν.length = hs.length := by
        rw [← f.len, List.length_map]
      have r' : Rp K (A1 ++ []) G' (d.ren (back hs A1.length)) u := (by
        have r0 : Rp K ((hs.map fun k => A1.getD k 0) ++ []) G' d u := by
          rw [List.append_nil]
          exact r
        exact r0.ren (back_at hltA) (D.hs_true d))
      have hs0 : S.H dx = none := by
        cases qq : S.H dx with
        | none => rfl
        | some o =>
          by_cases ha' : dx ∈ S.A
          · obtain ⟨B0, hB0, h0⟩ := m1.pre
            exact absurd f1 (m1.al dx (by rw [hB0]; exact List.mem_append_left _ ha'))
          · have z := m1.keep dx o ha' qq
            rw [f1] at z
            cases z
      rw [m1.len] at ma r'
      have hA2 : (hs.map fun k => A1.getD k 0).length = hs.length := List.length_map _
      exact wi c dx u _ _ G' H' _ ma hs0 f2 f3 r' (hX c d ν c' hl (by rw [← hA2]; exact r.scope) (by rw [← hl]; exact f.scope))
theorem ren_cl {d : D} {f : Nat → Nat} (h : d.lt 0 = true) : d.ren f = d := D.ren_id (fun k z => absurd (of_decide_eq_true z) (Nat.not_lt_zero k)) h
theorem renL_cl {l : List D} {f : Nat → Nat} (h : D.ltL 0 l = true) : D.renL f l = l := D.renL_id (fun k z => absurd (of_decide_eq_true z) (Nat.not_lt_zero k)) h
theorem hsL_cl {l : List D} {p : Nat → Bool} (h : D.ltL 0 l = true) : D.hsL p l = true := D.hsL_mono (fun k z => absurd (of_decide_eq_true z) (Nat.not_lt_zero k)) h
/-- a call without open lists that may raise -/
theorem ee_c0 {arg : T → List D} {pre : T → Prop} {post : T → D → Prop} {exc : T → Addr → D → Prop} {dds : List V} (wi : Wi K S E CE)
    (h : EA K S ta δ μ fun ds μ1 => ∃ t : T, pre t ∧ ds ++ dds.map D.v = arg t ∧ D.ltL 0 ds = true ∧ (∀ d, post t d → d.lt 0 = true → C d μ1) ∧ ∀ c d, exc t c d → d.lt 0 = true → CE c d μ1) : EE K S (tCall (ProP K arg pre post exc) dds E ta) δ μ C :=
  ee_callG [] wi fun A G H σ a Q q => h A G H σ a Q fun vs ds A1 G1 H1 μ1 m n r ⟨t, hp, e, hl, hC, hX⟩ => q vs ds A1 G1 H1 μ1 m n r ⟨t, hp, List.nodup_nil, fun k hk => (by cases hk), rfl, rfl, hsL_cl hl, by rw [renL_cl hl]; exact e,
    fun d ν n' ⟨e1, hd⟩ e2 h1 _ _ => by
      subst e1
      subst e2
      have h1 : d.lt 0 = true := h1
      rw [ren_cl h1]
      show C d (μ1 ++ [])
      rw [List.append_nil]
      exact hC d hd h1,
    fun c d ν hd e2 h1 _ => by
      have e3 : ν = [] := List.length_eq_zero_iff.mp e2
      subst e3
      have h1 : d.lt 0 = true := h1
      rw [ren_cl h1]
      show CE c d (μ1 ++ [])
      rw [List.append_nil]
      exact hX c d hd h1⟩
theorem ee_cz {arg : T → List D} {pre : T → Prop} {post : T → D → Prop}
    (h : EA K S ta δ μ fun ds μ1 => ∃ t : T, pre t ∧ ds = arg t ∧ D.ltL 0 ds = true ∧ ∀ d, post t d → C d μ1) : EE K S (tCall (ProP K arg pre post (fun _ _ _ => False)) [] E ta) δ μ C :=
  ee_c0 (CE := fun _ _ _ => False) Wi.none fun A G H σ a Q q => h A G H σ a Q fun vs ds A1 G1 H1 μ1 m n r ⟨t, hp, e, hl, hC⟩ => q vs ds A1 G1 H1 μ1 m n r ⟨t, hp, by rw [List.map_nil, List.append_nil]; exact e, hl, fun d hd _ => hC d hd, fun _ _ z _ => z⟩
/-- .. that gives a new list, which stays open -/
theorem ee_czN {arg : T → List D} {pre : T → Prop} {post : T → List D → Prop}
    (h : EA K S ta δ μ fun ds μ1 => ∃ t : T, pre t ∧ ds = arg t ∧ D.ltL 0 ds = true ∧ ∀ l, post t l → D.ltL 0 l = true → C (.own μ1.length) (μ1 ++ [.lst l])) : EE K S (tCall (ProN K arg pre post (fun _ _ _ => False)) [] E ta) δ μ C :=
  ee_callG (CE := fun _ _ _ => False) [] Wi.none fun A G H σ a Q q => h A G H σ a Q fun vs ds A1 G1 H1 μ1 m n r ⟨t, hp, e, hl, hC⟩ => q vs ds A1 G1 H1 μ1 m n r ⟨t, hp, List.nodup_nil, fun k hk => (by cases hk), rfl, rfl, hsL_cl hl, by rw [renL_cl hl, List.map_nil, List.append_nil]; exact e,
    fun d ν n' ⟨l, e1, e2, hcl, hd⟩ _ _ _ _ => by
      subst e1 e2
      show C (.own (μ1.length + (0 - 0))) (μ1 ++ [.lst (D.renL _ l)])
      rw [renL_cl hcl]
      exact hC l hd hcl,
    fun _ _ _ z _ _ _ => z⟩
/-- the handle of the k-th list becomes the callee's first -/
def Hand (k : Nat) (d e : D) : Prop := (d = .own k ∧ e = .own 0) ∨ (d.lt 0 = true ∧ e = d)
inductive HandL (k : Nat) : List D → List D → Prop
  | nil : HandL k [] []
  | cons {d e : D} {l m : List D} : Hand k d e → HandL k l m → HandL k (d :: l) (e :: m)
theorem HandL.ren {k : Nat} : ∀ {l m : List D}, HandL k l m → D.hsL (fun j => [k].contains j) l = true ∧ D.renL (fun j => [k].idxOf j) l = m
  | _, _, .nil => ⟨rfl, rfl⟩
  | _, _, .cons (d := d) (e := e) (l := l) (m := m) h t => by
    obtain ⟨h1, h2⟩ := HandL.ren t
    have hd : d.hs (fun j => [k].contains j) = true ∧ d.ren (fun j => [k].idxOf j) = e := by
      rcases h with ⟨rfl, rfl⟩ | ⟨hl, rfl⟩
      · exact ⟨by show [k].contains k = true; simp, by show D.own ([k].idxOf k) = _; simp⟩
      · exact ⟨D.hs_mono (fun j z => absurd (of_decide_eq_true z) (Nat.not_lt_zero j)) hl, ren_cl hl⟩
    exact ⟨Bool.and_eq_true_iff.mpr ⟨hd.1, h1⟩, by show D.ren _ d :: D.renL _ l = _; rw [hd.2, h2]⟩
theorem hand1 {k : Nat} {l : List D} (h : D.ltL 0 l = true) : HandL k (.own k :: l) (.own 0 :: l) := by
  refine .cons (.inl ⟨rfl, rfl⟩) ?_
  induction l with
  | nil => exact .nil
  | cons d l ih =>
    have h := Bool.and_eq_true_iff.mp (show (d.lt 0 && D.ltL 0 l) = true from h)
    exact .cons (.inr ⟨h.1, rfl⟩) (ih h.2)
/-- a call that is handed one open list -/
theorem ee_cz1 {cel : T → List Cell} {arg : T → List D} {pre : T → Prop} {post : T → D → List Cell → Prop} (k : Nat)
    (h : EA K S ta δ μ fun ds μ1 => ∃ (t : T) (l : List D), pre t ∧ cel t = [.lst l] ∧ D.ltL 0 l = true ∧ μ1[k]? = some (.lst l) ∧ HandL k ds (arg t) ∧ ∀ d ν, post t d ν → d.lt 0 = true ∧ ∃ l', ν = [.lst l'] ∧ D.ltL 0 l' = true ∧ C d (μ1.set k (.lst l'))) :
    EE K S (tCall (Pro K cel arg pre post (fun _ _ _ _ => False)) [] E ta) δ μ C :=
  ee_callG (CE := fun _ _ _ => False) [k] Wi.none fun A G H σ a Q q => h A G H σ a Q fun vs ds A1 G1 H1 μ1 m n r ⟨t, l, hp, e, hl, hk, hh, hC⟩ => q vs ds A1 G1 H1 μ1 m n r (by
    have hlt := (List.getElem?_eq_some_iff.mp hk).1
    have hg : μ1.getD k .off = .lst l := by
      have z := getD_cell hlt
      rw [hk] at z
      injection z with z
      exact z.symm
    obtain ⟨h1, h2⟩ := hh.ren
    refine ⟨t, hp, by simp, fun j hj => (by rw [List.mem_singleton.mp hj]; exact hlt), by rw [e, List.map_cons, List.map_nil, hg], ?_, h1, by rw [h2, List.map_nil, List.append_nil], fun d ν n' hd _ _ _ _ => ?_, fun _ _ _ z _ _ _ => z⟩
    · rw [e]
      show (D.ltL 0 l && true) = true
      rw [hl]
      rfl
    · obtain ⟨hd0, l', rfl, hl', hc⟩ := hC d ν hd
      rw [ren_cl hd0]
      show C d ((μ1.set k (.lst (D.renL _ l'))) ++ [])
      rw [renL_cl hl', List.append_nil]
      exact hc)
end
end PA

set_option Elab.async false
set_option linter.all false
set_option maxRecDepth 100000
set_option maxHeartbeats 2000000
/-! PbCall3: calls that only read open lists; open lists shut for good. -/
namespace PA
open PySem L2
section
variable {K : PySem.W.Frag} {S : Bs} {δ : Sl} {μ ν : List Cell} {A A' B : List Addr} {G H G' H' : Hp} {T : Type} {C : D → List Cell → Prop} {E : XK} {ta : TA} {CE : Addr → D → List Cell → Prop}
/-- what is known when the open lists are read as they stand -/
def lent (A : List Addr) (G H : Hp) : Hp := fun a => if (A.contains a && (G a).isNone) = true then H a else G a
theorem lent_ex (A : List Addr) (G H : Hp) : Ex G (lent A G H) := fun a o h => by
  unfold lent
  rw [h]
  simp
theorem lent_exH (e : Ex G H) : Ex (lent A G H) H := fun a o h => by
  unfold lent at h
  split at h
  · exact h
  · exact e a o h
theorem lent_at {a : Addr} (ha : a ∈ A) (g : G a = none) : lent A G H a = H a := by
  unfold lent
  rw [g]
  simp [ha]
/-- the contents of the open lists -/
def rdC (μ : List Cell) (k : Nat) : Option (List D) := match μ[k]? with
  | some (.lst l) => some l
  | _ => none
theorem lent_sub (m : Mem K S A G H μ) {ds : List D} {vs : List V} (r : RpL K A G ds vs) : RpL K A (lent A G H) (D.subL (rdC μ) ds) vs := by
  refine RpL.sub (lent_ex A G H) (fun k a l hA hg => ?_) r
  unfold rdC at hg
  split at hg
  · rename_i l' hc
    cases hg
    obtain ⟨g, xs, hx, rl⟩ := m.cel k a _ hA hc
    exact ⟨xs, by rw [lent_at (List.mem_of_getElem? hA) g]; exact hx, rl.mono0 (lent_ex A G H)⟩
  · cases hg
/-- a call that reads the open lists; its answer is a value -/
theorem ee_czB {arg : T → List D} {pre : T → Prop} {post : T → D → Prop}
    (h : EA K S ta δ μ fun ds μ1 => ∃ t : T, pre t ∧ D.subL (rdC μ1) ds = arg t ∧ D.ltL 0 (arg t) = true ∧ ∀ d, post t d → ∃ x, d = .v x ∧ C (.v x) μ1) : EE K S (tCall (ProP K arg pre post (fun _ _ _ => False)) [] E ta) δ μ C := fun A G H σ a Q q =>
  h A G H σ a _ fun vs ds A1 G1 H1 μ1 m1 n1 r1 ⟨t, hp, e, hl, hC⟩ => by
    have r2 := lent_sub m1 r1
    rw [e] at r2
    have rd : RpL K [] (lent A1 G1 H1) (arg t) (vs ++ []) := by
      rw [List.append_nil]
      exact r2.cl hl
    have m0 : Mem K ⟨[], lent A1 G1 H1, H1⟩ [] (lent A1 G1 H1) H1 [] := ⟨lent_exH m1.ex, Ex.refl _, ⟨[], rfl, fun _ h => by cases h⟩, fun _ h => .inl h, fun _ _ _ h => h, fun k a c h _ => by simp at h, rfl, List.nodup_nil, fun _ h => by cases h⟩
    refine ⟨t, [], _, hp, m0, rd, fun v d B G' H' ν f r ⟨eν, c⟩ => ?_, fun _ _ _ _ _ _ _ _ _ _ _ _ z => z.elim⟩
    obtain ⟨x, ed, hc⟩ := hC d c
    subst ed
    have ev := r.vOf
    subst ev
    have kp : ∀ a o, H1 a = some o → H' a = some o := fun a o h => f.keep a o (fun z => by cases z) h
    have mf : Mem K S A1 G1 H' μ1 := {
      ex := (lent_ex A1 G1 H1).trans (f.exG.trans f.ex)
      exG := m1.exG
      pre := m1.pre
      new := m1.new
      keep := fun a o h1 h2 => kp a o (m1.keep a o h1 h2)
      cel := fun k a c h1 h2 => by
        have z := m1.cel k a c h1 h2
        cases c with
        | off => trivial
        | lst l =>
          obtain ⟨g, xs, hx, rl⟩ := z
          exact ⟨g, xs, kp _ _ hx, rl⟩
      len := m1.len
      nd := m1.nd
      al := fun a ha h => by
        cases z : H1 a with
        | none => exact m1.al a ha z
        | some o =>
          rw [kp a o z] at h
          cases h }
    exact q _ _ A1 G1 H' μ1 mf n1 (.v _) hc
/-- .. that gives a new list, which is never changed from now on -/
theorem ee_czS {arg : T → List D} {pre : T → Prop} {post : T → List D → Prop}
    (h : EA K S ta δ μ fun ds μ1 => ∃ t : T, pre t ∧ ds = arg t ∧ D.ltL 0 ds = true ∧ ∀ l, post t l → D.ltL 0 l = true → C (.lst l) μ1) : EE K S (tCall (ProN K arg pre post (fun _ _ _ => False)) [] E ta) δ μ C := fun A G H σ a Q q =>
  h A G H σ a _ fun vs ds A1 G1 H1 μ1 m1 n1 r1 ⟨t, hp, e, hl, hC⟩ => by
    have rd : RpL K [] G1 (arg t) (vs ++ []) := by
      rw [List.append_nil, ← e]
      exact r1.cl hl
    have m0 : Mem K ⟨[], G1, H1⟩ [] G1 H1 [] := ⟨m1.ex, Ex.refl _, ⟨[], rfl, fun _ h => by cases h⟩, fun _ h => .inl h, fun _ _ _ h => h, fun k a c h _ => by simp at h, rfl, List.nodup_nil, fun _ h => by cases h⟩
    refine ⟨t, [], G1, hp, m0, rd, fun v d B G' H' ν f r ⟨l, ed, eν, hcl, c⟩ => ?_, fun _ _ _ _ _ _ _ _ _ _ _ _ z => z.elim⟩
    subst ed eν
    cases r with
    | @own _ p hp2 =>
      obtain ⟨g, xs, hx, rl⟩ := f.cel 0 p _ hp2 rfl
      have fs := f.shut (Nat.zero_le _) hp2 rfl hx
      have ft := fs.trim (ks := []) List.nodup_nil (fun k hk => (by cases hk)) (fun c hc => (by cases hc))
      have fa := m1.after (hs := []) (B := []) List.nodup_nil (fun k hk => (by cases hk)) ft
      have eb : behindC [] A1.length (kept 0 [] ([Cell.lst l].set 0 .off)) μ1 = μ1 := by
        show μ1 ++ [] = μ1
        rw [List.append_nil]
      rw [List.append_nil] at fa
      have fa2 : Mem K S A1 (upd G' p (.lst xs)) H' μ1 := by
        rw [← eb]
        exact fa
      have e1 : Ex G' (upd G' p (.lst xs)) := Ex.new g
      exact q _ (.lst l) A1 _ H' μ1 fa2 (n1.trans (.of (f.exG.trans e1))) (.lst upd_same ((rl.cl hcl).mono0 e1)) (hC l c hcl)
def Cell.sub (g : Nat → Option (List D)) : Cell → Cell
  | .lst l => .lst (D.subL g l)
  | .off => .off
/-- an open list of one's own is never changed from now on -/
theorem se_shut {ts : TS} {F0 : Cn} (k : Nat) {l : List D} (hk : S.A.length ≤ k) (hc : μ[k]? = some (.lst l)) (h : SE K S ts (δ.map (·.map (D.sub fun j => if j = k then some l else none))) ((μ.set k .off).map (Cell.sub fun j => if j = k then some l else none)) F0) : SE K S ts δ μ F0 := fun A G H σ a F f => by
  have hlt : k < A.length := by
    rw [a.m.len]
    exact (List.getElem?_eq_some_iff.mp hc).1
  have hA := getD_get hlt
  obtain ⟨g, xs, hx, r⟩ := a.m.cel k _ _ hA hc
  have ms := a.m.shut hk hA hc hx
  have e1 : Ex G (upd G (A.getD k 0) (.lst xs)) := Ex.new g
  have hg : ∀ j b l', A[j]? = some b → (if j = k then some l else none) = some l' → ∃ ys, upd G (A.getD k 0) (.lst xs) b = some (.lst ys) ∧ RpL K A (upd G (A.getD k 0) (.lst xs)) l' ys := fun j b l' h1 h2 => by
    by_cases e : j = k
    · subst e
      rw [if_pos rfl] at h2
      cases h2
      rw [hA] at h1
      cases h1
      exact ⟨xs, upd_same, r.mono0 e1⟩
    · rw [if_neg e] at h2
      cases h2
  have en : ∀ {δ : Sl} {σ : St}, En K A G δ σ → En K A (upd G (A.getD k 0) (.lst xs)) (δ.map (·.map (D.sub fun j => if j = k then some l else none))) σ := by
    intro δ σ h
    induction h with
    | nil => exact .nil
    | skip _ ih => exact .skip ih
    | cons h _ ih => exact .cons (Rp.sub e1 hg h) ih
  have ms2 : Mem K S A (upd G (A.getD k 0) (.lst xs)) H ((μ.set k .off).map (Cell.sub fun j => if j = k then some l else none)) := {
    ex := ms.ex
    exG := ms.exG
    pre := ms.pre
    new := ms.new
    keep := ms.keep
    cel := fun j b c h1 h2 => by
      rw [List.getElem?_map] at h2
      cases q : (μ.set k .off)[j]? with
      | none => rw [q] at h2; cases h2
      | some c0 =>
        rw [q] at h2
        cases h2
        have z := ms.cel j b c0 h1 q
        cases c0 with
        | off => trivial
        | lst l2 =>
          obtain ⟨g2, ys, hy, r2⟩ := z
          exact ⟨g2, ys, hy, RpL.sub (Ex.refl _) hg r2⟩
    len := by rw [List.length_map]; exact ms.len
    nd := ms.nd
    al := ms.al }
  exact h A _ H σ ⟨ms2, en a.env⟩ F (f.at' (.of e1))
theorem Mem.freeS (m : Mem K S A G H μ) {p : Addr} (h : H p = none) : S.H p = none ∧ p ∉ A := by
  have hA : p ∉ A := fun z => m.al p z h
  refine ⟨?_, hA⟩
  cases q : S.H p with
  | none => rfl
  | some o =>
    by_cases ha : p ∈ S.A
    · obtain ⟨B, hB, _⟩ := m.pre
      exact absurd (by rw [hB]; exact List.mem_append_left _ ha) hA
    · rw [m.keep p o ha q] at h
      cases h
theorem mem00 (m : Mem K S A G H μ) : Mem K ⟨[], G, H⟩ [] G H [] := ⟨m.ex, Ex.refl _, ⟨[], rfl, fun _ h => by cases h⟩, fun _ h => .inl h, fun _ _ _ h => h, fun k a c h _ => by simp at h, rfl, List.nodup_nil, fun _ h => by cases h⟩
theorem after0 (m : Mem K S A G H μ) (f : Mem K ⟨[], G, H⟩ ([] ++ B) G' H' []) : B = [] ∧ Mem K S A G' H' μ := by
  have hB : B = [] := List.length_eq_zero_iff.mp (by have z := f.len; simpa using z)
  subst hB
  have fa := m.after (hs := []) (B := []) List.nodup_nil (fun k hk => (by cases hk)) f
  have eb : behindC [] A.length [] μ = μ := by
    show μ ++ [] = μ
    rw [List.append_nil]
  rw [List.append_nil, eb] at fa
  exact ⟨rfl, fa⟩
end
end PA

set_option Elab.async false
set_option linter.all false
set_option maxRecDepth 100000
set_option maxHeartbeats 2000000
/-! PbErr: own errors that hold a value: raised, caught and kept, asked for their class and their value. -/
namespace PA
open PySem L2
section
variable {P : Program} {w : World} {H : Hp} {h : Heap} {e C dx : Addr}
theorem exq_ok {oe : Obj} {vs : Array Value} (h1 : h.get? e = some oe) (h2 : oe.cls = .ref C) (h3 : oe.dict = some dx) (h4 : oe.data = .fields vs) : ObjOk P w H h e (exq e C dx) :=
  ⟨⟨oe, vs, h1, h2, h3, h4⟩, ⟨oe, h1⟩, fun g1 g2 z k => by
    obtain ⟨o, us, q1, q⟩ := z
    exact ⟨o, us, k o q1, q⟩⟩
theorem exq_at (ok : HOk P w H h) (q : H e = some (exq e C dx)) : ∃ (oe : Obj) (vs : Array Value), h.get? e = some oe ∧ oe.cls = .ref C ∧ oe.dict = some dx ∧ oe.data = .fields vs := by
  have z : ObjOk P w H h e (.ext fun h => ∃ (oe : Obj) (vs : Array Value), h.get? e = some oe ∧ oe.cls = .ref C ∧ oe.dict = some dx ∧ oe.data = .fields vs) := ok e _ q
  exact z.1
theorem exq_ne {x : Addr} {u : HO} (hu : ∀ φ, u ≠ .ext φ) : exq e C dx ≠ u := fun z => hu _ z.symm
theorem exd_ne {fs : List (Str × V)} {u : HO} (hu : ∀ φ, u ≠ .ext φ) : exd dx fs ≠ u := fun z => hu _ z.symm
end
section
variable {X : Cx} {pins : List (Addr × Obj)} {σ : L2.St} {H : Hp} {s : Shared}
/-- an error that came down, and its dict, are tracked from now on -/
theorem keep_exc {a C dx : Addr} {oe : Obj} {vs : Array Value} {fs : List (Str × V)} (I : Inv X pins σ H s) (ha : s.heap.get? a = some oe) (hc : oe.cls = .ref C) (hd : oe.dict = some dx) (hv : oe.data = .fields vs)
    (h0 : X.s_0.heap.get? a = none) (hH : H a = none) (hx : H dx = some (.xd fs)) (nL : a ≠ X.env.locals) (np : ∀ p ∈ X.pn ++ pins, p.1 ≠ a) :
    Inv X pins σ (upd (upd H dx (exd dx fs)) a (exq a C dx)) s := by
  have ndx : dx ≠ a := ne_of_none hx hH
  have at_ : ∀ {b : Addr}, H b = none → b ≠ a → upd (upd H dx (exd dx fs)) a (exq a C dx) b = none := fun {b} hb hne => by
    have hbd : b ≠ dx := fun z => by
      rw [z, hx] at hb
      cases hb
    rw [upd_ne hne, upd_ne hbd]
    exact hb
  have stay : ∀ {b : Addr} {o : HO}, H b = some o → (∀ f, o ≠ .xd f) → upd (upd H dx (exd dx fs)) a (exq a C dx) b = some o := fun {b o} hb hne => by
    have h1 : b ≠ a := ne_of_none hb hH
    have h2 : b ≠ dx := fun z => by
      rw [z, hx] at hb
      cases hb
      exact hne fs rfl
    rw [upd_ne h1, upd_ne h2]
    exact hb
  refine {
    ok := I.ok
    os := I.os
    bare := I.bare
    base := ⟨I.base.keep, I.base.slot, fun b o e1 e2 e3 => at_ (I.base.free b o e1 e2 e3) (fun z => ?_), I.base.there, fun b xs q => stay (I.base.tups b xs q) (fun f z => by cases z),
      fun b o u q => stay (I.base.frzs b o u q) (fun f z => by cases z), fun b ps q => ?_⟩
    loc := I.loc
    cell := I.cell
    free := at_ I.free (Ne.symm nL)
    freeC := fun x c q => at_ (I.freeC x c q) (fun z => ?_)
    pin := fun p hp => ?_
    hok := ?_
    len := I.len }
  · rw [z, h0] at e1
    cases e1
  · obtain ⟨more, z⟩ := I.base.tbls b ps q
    exact ⟨more, stay z (fun f z => by cases z)⟩
  · obtain ⟨v, o, ho, hod⟩ := I.cell x c q
    rw [z, ha] at ho
    cases ho
    rw [hv] at hod
    cases hod
  · obtain ⟨q1, q2, q3⟩ := I.pin p hp
    exact ⟨q1, at_ q2 (np p hp), q3⟩
  · intro b o hb
    by_cases e1 : b = a
    · subst e1
      rw [upd_same] at hb
      cases hb
      exact exq_ok ha hc hd hv
    · rw [upd_ne e1] at hb
      by_cases e2 : b = dx
      · subst e2
        rw [upd_same] at hb
        cases hb
        have z : ObjOk X.prog X.w H s.heap b (.xd fs) := I.hok b _ hx
        obtain ⟨mA, hn, hr⟩ := z
        exact exd_ok hn hr
      · rw [upd_ne e2] at hb
        exact (I.hok b o hb).stay (fun _ _ _ q => q) (fun c q => stay q (fun f z => by cases z)) fun c xs q => stay q (fun f z => by cases z)
/-- the context of a suite whose error is tracked -/
theorem suite_in (I : Inv X pins σ H s) (a : Addr) : Inv (X.suite a (X.pn ++ pins)) [] σ H s :=
  ⟨I.ok.suite _ _, I.os, I.bare, I.base, I.loc, I.cell, I.free, I.freeC, fun p hp => I.pin p (by rwa [List.append_nil] at hp), I.hok, I.len⟩
theorem suite_out {a : Addr} {pn' : List (Addr × Obj)} (I : Inv (X.suite a (X.pn ++ pins)) pn' σ H s) (ok : X.Ok) : Inv X pins σ H s :=
  ⟨ok, I.os, I.bare, I.base, I.loc, I.cell, I.free, I.freeC, fun p hp => I.pin p (List.mem_append_left _ hp), I.hok, I.len⟩
end
/-- what «except c as n: ts» asks, the error being kept behind it -/
def wHold (K : PySem.W.Frag) (c : Value) (i : Nat) (ts : TS) (Wout : WX) (D : Ends) : WX := fun cls d σ H =>
  ∃ b, PySem.W.exmOne K cls c = some b ∧
    (b = true → ∃ (C dx : Addr) (fs : List (Str × V)), cls = .ref C ∧ d = some dx ∧ H dx = some (.xd fs) ∧ ∀ a, H a = none →
      ts { nx := fun σ' H' => D.nx (σ'.set i none) H', rt := D.rt, bk := fun σ' H' => D.bk (σ'.set i none) H', ct := fun σ' H' => D.ct (σ'.set i none) H' } (σ.set i (some (.ref a))) (upd (upd H dx (exd dx fs)) a (exq a C dx))) ∧
    (b = false → Wout cls d σ H)
section
variable {X : Cx} {x n : Str} {c : Value} {i : Nat} {body suite : List Stmt} {b₀ : Stmt} {np pos pos' : Pos} {tb : WX → TS} {ts : TS} {Wout : WX}
theorem ps_try_hold (hstk : X.stack = X.env :: X.outer) (hfr0 : X.env.frame = some X.env.locals) (hex : X.ex = []) (hN : X.N.Nodup) (hi : X.N[i]? = some n) (hln : X.env.kindOf n = some .local) (hnm : Names X x c) (tk : Takes X Wout)
    (hb : ∀ (W : WX) (pn : List (Addr × Obj)) (xe : Value → Shared → Prop), Takes (X.tr pn xe) W → PassesOwn (model X.prog X.w) X.A X.env xe → PSs (X.tr pn xe) body (tb W))
    (hsu : ∀ (a : Addr) (pn : List (Addr × Obj)), PSs (X.suite a pn) (b₀ :: suite) ts) :
    PS X (.Try body [.ExceptHandler (some (.Name x np)) (some n) (b₀ :: suite) pos'] [] [] pos) (fun D σ H => tb (wHold X.K c i ts Wout D) D σ H) := by
  refine ⟨fun pins s σ H D I h => ?_⟩
  have okX := I.ok
  have frm : X.A.frames = some (X.env :: X.outer) := okX.frames.trans (congrArg some hstk)
  refine wpAny_Try_except ?_
  refine wpAny_mono ((hb (wHold X.K c i ts Wout D) (X.pn ++ pins)
    (fun e s₁ => wpAny (model X.prog X.w) X.A (noteFrame e X.env) (fun _ s₂ => wpAny (model X.prog X.w) X.A (setFlight e none)
      (fun _ s₃ => wpAny (model X.prog X.w) X.A (handleBy e X.env [.ExceptHandler (some (.Name x np)) (some n) (b₀ :: suite) pos']) (SP X pins D) X.xe s₃) X.xe s₂) X.xe s₁)
    (fun u s' air => ?_) PassesOwn.looking).run [] s σ H D (I.toTry _) h) (fun f s1 fin => ?_) (fun e s1 he => he)
  · obtain ⟨a, B, sI, pins', σ', H', cls, d, rfl, JT, nb, up, sky, na, os, ag, b, hb1, yes, no⟩ := air
    have J : Inv X pins σ' H' sI := JT.ofTry okX
    show wpAny (model X.prog X.w) X.A (noteFrame (.ref a) X.env) _ _ _
    refine Sky.land Zc.steady frm hfr0 (hstk ▸ sky) fun h3 fly up3 => ?_
    have J3 : Inv X pins σ' H' { s' with heap := h3 } := J.landed nb fly.1 (up.trans up3) os ag
    obtain ⟨o3, v3, g3, z3, d3⟩ := fly.there
    have off : a ∉ frs (X.env :: X.outer) := fun hm => by
      obtain ⟨_, o', e', nof⟩ := fly.2.2.1.mem hm
      rw [g3] at e'
      cases e'
      exact nof _ d3
    have aL : a ≠ X.env.locals := fun z => off (List.mem_filterMap.mpr ⟨X.env, List.mem_cons_self, by rw [hfr0, z]⟩)
    have aI : sI.heap.get? a = none := by
      cases q : sI.heap.get? a with
      | none => rfl
      | some o =>
        have z := nb a o q (by rw [hstk]; exact off)
        rw [fly.2.1] at z
        cases z
    have a0 : X.s_0.heap.get? a = none := by
      cases q : X.s_0.heap.get? a with
      | none => rfl
      | some o =>
        obtain ⟨o', z⟩ := J.base.there a o q (fun hm => by
          rw [hex] at hm
          cases hm)
        rw [aI] at z
        cases z
    have aP : ∀ p ∈ X.pn ++ pins, p.1 ≠ a := fun p hp z => by
      have q := (J.pin p hp).1
      rw [z, aI] at q
      cases q
    refine wpAny_handleBy_cons (codeAny_handlers_test ?_) (by intro q; cases q)
    have typ : PySem.W.Looks (model X.prog X.w) h3 (typeOf (.ref a)) cls := fun A Q E s k q =>
      wpAny_typeOf_ref (k _ _ g3) (by rw [z3.1]; exact q)
    have look := PySem.W.exm_one (M := model X.prog X.w) J3.kIn typ hb1
    have S3 := suite_in J3 a
    have named : ∀ {Q : Value → Shared → Prop} {E : Value → Shared → Prop}, Q c { s' with heap := h3 } → wpAny (model X.prog X.w) (X.A.mark (some (.ref a))) (eval (.Name x np) X.env) Q E { s' with heap := h3 } := fun {Q E} q => by
      obtain ⟨hg, hdb, hm | ⟨hm, hv, hnn⟩⟩ := hnm
      · exact ld_glob (X := X.suite a (X.pn ++ pins)) S3 hg hm q hdb
      · exact ld_blt (X := X.suite a (X.pn ++ pins)) S3 hg hm hv q hnn hdb
    refine named (look.here ?_)
    cases b with
    | true =>
      refine codeAny_handlers_suite_as ?_
      refine HandSPX.lands_againZ fly fun h4 fl4 up4 => ?_
      have J4 : Inv X pins σ' H' { s' with heap := h4 } := J.landed nb fl4.1 ((up.trans up3).trans up4) os ag
      obtain ⟨o4, v4, g4, z4, d4⟩ := fl4.there
      obtain ⟨C, dx, fs, ec, ed, hx, go⟩ := yes rfl
      have J5 := keep_exc J4 (oe := o4) (vs := v4) g4 (by rw [z4.1, ec]) (by rw [z4.2, ed]) d4 a0 na hx aL aP
      refine store_ok (X := X.suite a (X.pn ++ pins)) (v := .ref a) (suite_in J5 a) hN hi (.inl hln) rfl (fun s5 S5 => ?_) (.inr hln)
      refine wpAny_mono ((hsu a (X.pn ++ pins)).run [] s5 _ _ _ S5 (go a na)) (fun f s6 hf => ?_) (fun _ _ z => False.elim z)
      have over : ∀ {σ6 : L2.St} {H6 : Hp} {Q : Shared → Prop}, Inv (X.suite a (X.pn ++ pins)) [] σ6 H6 s6 → (∀ s7, Inv X pins (σ6.set i none) H6 s7 → Q s7) →
          wpAny (model X.prog X.w) X.A (do bindName X.env n .none; unbindBehindTheSuite X.env n pos') (fun _ s7 => Q s7) X.xe s6 := fun {σ6 H6 Q} S6 hq => gone_ok (suite_out S6 okX) hN hi hln hq
      cases f with
      | next =>
        obtain ⟨σ6, H6, S6, q6⟩ := hf
        exact over S6 fun s7 J7 => ⟨_, _, J7, q6⟩
      | brk =>
        obtain ⟨σ6, H6, S6, q6⟩ := hf
        exact over S6 fun s7 J7 => ⟨_, _, J7, q6⟩
      | cont =>
        obtain ⟨σ6, H6, S6, q6⟩ := hf
        exact over S6 fun s7 J7 => ⟨_, _, J7, q6⟩
      | ret u =>
        obtain ⟨v6, σ6, H6, S6, r6, q6⟩ := hf
        exact over S6 fun s7 J7 => ⟨_, _, _, J7, r6, q6⟩
    | false =>
      show wpAny _ X.A (handleBy (.ref a) X.env []) _ _ _
      refine wpAny_handleBy_nil ?_
      obtain ⟨k1, k2, k3, oe, vs, T, oT, tz, he, hz, hd, h1, hr⟩ := id fly
      unfold PySem.passOn
      refine wpAny_bind (wpAny_field he hd h1 ?_)
      rw [if_neg (show ¬ ((Value.ref T == Value.none) = true) from by simp)]
      have fin : wpAny (model X.prog X.w) X.A (setFlight (.ref a) X.env.frame) (fun _ s4 => wpAny (model X.prog X.w) X.A (throw (.ref a) : Sem Flow) (SP X pins D) X.xe s4) X.xe { s' with heap := h3 } := by
        rw [hfr0]
        refine HandSPX.setFlight_upZ fly fun h4 held up4 => wpAny_throw (tk _ _ ?_)
        exact ⟨a, B, sI, pins, σ', H', cls, d, rfl, J, nb, (up.trans up3).trans up4, .inr (.inr (by rw [hstk]; exact held)), na, os, ag, no rfl⟩
      first
        | exact wpAny_bind (wpAny_pure (wpAny_bind fin))
        | exact wpAny_bind fin
  · cases f with
    | next =>
      obtain ⟨σ', H', J', q⟩ := fin
      exact wpAny_execs_nil ⟨σ', H', J'.ofTry okX, q⟩
    | brk =>
      obtain ⟨σ', H', J', q⟩ := fin
      exact ⟨σ', H', J'.ofTry okX, q⟩
    | cont =>
      obtain ⟨σ', H', J', q⟩ := fin
      exact ⟨σ', H', J'.ofTry okX, q⟩
    | ret u =>
      obtain ⟨v, σ', H', J', r, q⟩ := fin
      exact ⟨v, σ', H', J'.ofTry okX, r, q⟩
end
end PA

set_option Elab.async false
set_option linter.all false
set_option maxRecDepth 100000
set_option maxHeartbeats 2000000
/-! PbErr2: what an own error class with a value must say; raise, .value, isinstance, and these over data. -/
namespace PA
open PySem L2
/-- what the written part says of an own error class at C whose __init__ at fI keeps a value -/
structure ErrC (K : PySem.W.Frag) (C fI : Addr) : Prop where
  ox : OexC K C
  xf : XfC K C
  noV : PySem.W.findIn K (.ref C) "value" = some none
  ini : PySem.W.findIn K (.ref C) "__init__" = some (some (.ref fI))
  tI : PySem.W.typeIn K (.ref fI) = some (.type "function")
  ha : PySem.W.findIn K (.ref C) "__class__" = some (some (.builtin "object.__class__"))
  hn : PySem.W.specialIn K (.builtin "object.__class__") "__get__" = some (some (.builtin "getset_descriptor.__get__"))
  ht : PySem.W.takesIn K (.builtin "object.__class__") = some true
  hm : PySem.W.mroIn K C (.type "object") = some true
/-- the promise of such an __init__ -/
def spErr (C : Addr) : Sp := fun vs H Q _ => ∃ (a : Addr) (u : V), vs = [.ref a, u] ∧ H a = some (exo a C none) ∧
  ∀ dx, H dx = none → dx ≠ a → Q .non (upd (upd H dx (exd dx [(("value" : Str), u)])) a (exo a C (some dx)))
def initBody (q1 q2 q3 q4 : Pos) : List Stmt := [.Assign [.Attribute (.Name "self" q1) "value" q2] (.Name "value" q3) q4]
section
variable {P : Program} {w : World} {K : PySem.W.Frag} {mg : Str → Option Value} {base : Heap} {C fI : Addr} {fd : FuncData}
theorem err_fn {qual : Str} {params : Arguments} {body : List Stmt} {scope : Scope} {q1 q2 q3 q4 : Pos} (F : FunD K "__init__" qual params body scope [.non] [] fI fd) (T : ErrC K C fI) (hb : body = initBody q1 q2 q3 q4)
    (sc : FnScope ["self", "value"] ["self", "value"] scope) (v0 : Vis scope "self") (v1 : Vis scope "value") : FnOk P w K mg base (L2.CX P w) 1 fI fd ["self", "value"] (spErr C) := by
  subst hb
  refine F.ok sc (fun vs H Q E h => ?_) (fun cdv A outer s H vs Q E hr h => ?_)
  · obtain ⟨a, u, rfl, _⟩ := h
    rfl
  · obtain ⟨a, u, rfl, ha, k⟩ := h
    refine ⟨_, pss_one (ps_ost (pe_var (i := 0) rfl v0) (pe_var (i := 1) rfl v1) (by rfl)), ?_⟩
    exact ⟨_, rfl, _, rfl, a, C, rfl, T.ox, T.noV, .inl ⟨ha, fun dx hd ne => k dx hd ne⟩⟩
end
/-- raise C(e) -/
def tRaiseE (C : Addr) (E : XK) (ta : TA) : TS := fun _ σ H => tMkO C (spErr C) [] ta σ H fun cls d H' => E cls d H'
theorem ps_raiseE {X : Cx} {CX : CXT} {C fI : Addr} {fd : FuncData} {ta : TA} {E : XK} {x : Str} {e : Expr} {es : List Expr} {p pos pos2 : Pos} {k : Nat} (hc : X.calm = true) (T : ErrC X.K C fI) (F : FnOk X.prog X.w X.K X.mg X.base CX k fI fd ["self", "value"] (spErr C)) (hr : Room (k + 1) X.A)
    (hb : Binds X.K fd ["self", "value"] []) (hx : Passes CX X (fun _ _ _ => False)) (tk : Takes X (fun cls d _ H => E cls d H)) (hg : Gl X x) (hm : X.mg x = some (.ref C)) (ha : PA X (e :: es) ta)
    (hdb : (x == ("__debug__" : Str)) = false := by decide) (he : starEach (e :: es) X.env = (false, eval e X.env) :: starEach es X.env := by rfl) (hpl : (backTo pos (starEach es X.env)).any (·.1) = false := by rfl) :
    PS X (.Raise (some (.Call (.Name x p) (e :: es) [] pos)) none pos2) (tRaiseE C E ta) :=
  ps_raise hc tk (pmk_oex T.ox T.ini T.tI F hr hb .nil hx hg hm ha hdb he hpl)
/-- e.value, e an error that is kept -/
def tErrV (K : PySem.W.Frag) (te : TE) : TE := fun σ H Q => te σ H fun x H1 => ∃ (a C dx fI : Addr) (v : V), x = .ref a ∧ ErrC K C fI ∧ H1 a = some (exq a C dx) ∧ H1 dx = some (exd dx [(("value" : Str), v)]) ∧ Q v H1
theorem exq_inst {X : Cx} {pins : List (Addr × Obj)} {σ : L2.St} {H : Hp} {s : Shared} {a C dx : Addr} {fs : List (Str × V)} (I : Inv X pins σ H s) (h1 : H a = some (exq a C dx)) (h2 : H dx = some (exd dx fs)) :
    ∃ (oe od : Obj) (mA : Str → Option Value), PySem.W.InstAt s.heap a oe C (some od) ∧ s.heap.get? dx = some od ∧ s.heap.Ns1 dx mA ∧ ∀ f, RelO (fs.lookup f) (mA f) := by
  obtain ⟨oe, vs, g1, g2, g3, g4⟩ := exq_at I.hok h1
  obtain ⟨mA, hns, hr⟩ := exd_at I.hok h2
  obtain ⟨od, ho, hl⟩ := lookIn_ns hns
  exact ⟨oe, od, mA, ⟨g1, g2, by unfold PySem.W.notCls; rw [g4] <;> rfl, by rw [g3]; exact ho⟩, ho, hns, hr⟩
theorem pe_errV {X : Cx} {e : Expr} {te : TE} {pos : Pos} (he : PE X e te) (hb : attributeBase e "value" X.env (eval e X.env) = eval e X.env := by rfl) : PE X (.Attribute e "value" pos) (tErrV X.K te) := by
  refine ⟨fun pins s σ H Q I h => ?_⟩
  refine attr_of hb (thn (he.run pins s σ H _ I h) fun u s1 hh => ?_)
  obtain ⟨x, H1, I1, rx, a, C, dx, fI, v, ex, T, h1, h2, q⟩ := hh
  subst ex
  obtain rfl : u = Value.ref a := rx
  obtain ⟨oe, vs, g1, g2, g3, g4⟩ := exq_at I1.hok h1
  obtain ⟨mA, hns, hr⟩ := exd_at I1.hok h2
  obtain ⟨od, ho, hl⟩ := lookIn_ns hns
  have l : List.lookup ("value" : Str) [(("value" : Str), v)] = some v := by simp [List.lookup]
  obtain ⟨y, hy, ry⟩ := RelO.some_of (v := v) (o := mA "value") (by rw [← l]; exact hr "value")
  have J : PySem.W.InstAt s1.heap a oe C (some od) := ⟨g1, g2, by unfold PySem.W.notCls; rw [g4] <;> rfl, by rw [g3]; exact ho⟩
  exact HandSPX.exc_get I1.kIn J T.xf.ga T.xf.gg T.xf.exC (PySem.W.findObj_own T.xf.hdC T.noV rfl (by rw [hl, hy])) (handed_of ry) ⟨v, H1, I1.tok _, ry, q⟩
/-- isinstance(x, c), x an error that is kept -/
def rIsX (K : PySem.W.Frag) : List V → Hp → VK → Prop := fun xs H Q => ∃ (a C dx fI : Addr) (fs : List (Str × V)) (c : V) (cv : Value) (b : Bool), xs = [.ref a, c] ∧ ClsV c cv ∧ ErrC K C fI ∧ H a = some (exq a C dx) ∧ H dx = some (exd dx fs) ∧ PySem.W.kitOne K (.ref C) cv = some b ∧ Q (.bl b) H
theorem cls_some {K : PySem.W.Frag} {C : Addr} (h : PySem.W.hasDictIn K C = true) : (PySem.W.clsIn K C).isSome = true := by
  obtain ⟨cd, hc, _⟩ := PySem.W.any_some h
  rw [hc]
  rfl
theorem call_isX {X : Cx} : CallR X (.builtin "isinstance") (rIsX X.K) := by
  intro pins s σ H xs us Q I r h
  obtain ⟨a, C, dx, fI, fs, c, cv, b, rfl, k, T, h1, h2, e, q⟩ := h
  obtain ⟨u1, u2, rfl, r1, r2⟩ := vals2 r
  have e2 := k.eq r2
  subst e2
  cases (show u1 = Value.ref a from r1)
  obtain ⟨oe, od, mA, J, _⟩ := exq_inst I h1 h2
  exact PySem.W.kia_one (PySem.W.kitx_exc (cls_some T.xf.hdC) T.xf.ga T.xf.gg T.xf.exC T.ha T.hn T.ht T.hm) I.kIn J e (fun z => nomatch z) fun tk => ⟨.bl b, H, I.kept (t' := tk) fun _ _ z => z, rfl, q⟩

/-! ### over data -/
section
variable {K : PySem.W.Frag} {S : Bs} {δ : Sl} {μ : List Cell} {ta : TA} {te : TE} {E : XK} {CE : Addr → D → List Cell → Prop} {Cn0 : Cn} {C : D → List Cell → Prop}
theorem se_raise {c : Addr} (wi : Wi K S E CE) (h : EA K S ta δ μ fun ds μ1 => ∃ d, ds = [d] ∧ CE c d μ1) : SE K S (tRaiseE c E ta) δ μ Cn0 := fun A G H σ a F f =>
  h A G H σ a _ fun vs ds A1 G1 H1 μ1 m1 n1 r1 ⟨d, e, hc⟩ => by
    subst e
    cases r1 with
    | @cons _ u _ _ rd r =>
      cases r
      refine ⟨(by show 1 ≤ 1000; decide), fun x hx => ⟨x, u, rfl, upd_same, fun dx hd ne => ⟨rfl, dx, _, upd_same, (by rw [upd_ne ne, upd_same]), ?_, ?_⟩⟩⟩
      · rw [upd_ne ne] at hd
        exact hd
      · rw [upd_ne ne] at hd
        have eq : upd (del (upd (upd (upd H1 x (exo x c none)) dx (exd dx [(("value" : Str), u)])) x (exo x c (some dx))) x) dx (.xd [(("value" : Str), u)]) = upd H1 dx (.xd [(("value" : Str), u)]) := by
          funext b
          by_cases e1 : b = dx
          · subst e1
            rw [upd_same, upd_same]
          · rw [upd_ne e1, upd_ne e1]
            by_cases e2 : b = x
            · subst e2
              rw [del_same, hx]
            · rw [del_ne e2, upd_ne e2, upd_ne e1, upd_ne e2]
        rw [eq]
        have gd := m1.ex.free hd
        refine wi c dx u d A1 G1 _ μ1 (m1.grow (m1.ex.side gd) (Ex.refl _) (Ex.new hd) fun p h => .inl h) (m1.freeS hd).1 gd upd_same rd hc
theorem ee_errV {fI : Addr → Addr} (h : EE K S te δ μ fun x μ1 => ∃ c d, x = .exc c d ∧ ErrC K c (fI c) ∧ C d μ1) : EE K S (tErrV K te) δ μ C := fun A G H σ a Q q =>
  h A G H σ a _ fun v x A1 G1 H1 μ1 m1 n1 r1 ⟨c, d, e, T, k⟩ => by
    subst e
    cases r1 with
    | exc h1 h2 r => exact ⟨_, _, _, _, _, rfl, T, m1.ex _ _ h1, m1.ex _ _ h2, q _ d A1 G1 H1 μ1 m1 n1 r k⟩
/-! ### try, over data -/
/-- what an error out of a try's body is let do, at the slots as they stand -/
def WiX (K : PySem.W.Frag) (S : Bs) (W : WX) (A0 : List Addr) (G0 : Hp) (CE : Sl → Addr → D → List Cell → Prop) : Prop :=
  ∀ A G H σ δ μ c dx u d, At K S A G H σ δ μ → Nw A0 G0 A G → S.H dx = none → G dx = none → H dx = some (.xd [(("value" : Str), u)]) → Rp K A G d u → CE δ c d μ → W (.ref c) (some dx) σ H
def EX (K : PySem.W.Frag) (S : Bs) (te : WX → TE) (δ : Sl) (μ : List Cell) (C : D → List Cell → Prop) (CE : Sl → Addr → D → List Cell → Prop) : Prop :=
  ∀ A G H σ, At K S A G H σ δ μ → ∀ W, WiX K S W A G CE → ∀ Q : VK, (∀ v d A' G' H' μ', Mem K S A' G' H' μ' → Nw A G A' G' → Rp K A' G' d v → C d μ' → Q v H') → te W σ H Q
def SX (K : PySem.W.Frag) (S : Bs) (tb : WX → TS) (δ : Sl) (μ : List Cell) (C : Cn) (CE : Sl → Addr → D → List Cell → Prop) : Prop :=
  ∀ A G H σ, At K S A G H σ δ μ → ∀ W (F : Ends), Fi K S A G F C → WiX K S W A G CE → tb W F σ H
theorem WiX.at' {W : WX} {A0 A1 : List Addr} {G0 G1 : Hp} {CE : Sl → Addr → D → List Cell → Prop} (w : WiX K S W A0 G0 CE) (n : Nw A0 G0 A1 G1) : WiX K S W A1 G1 CE :=
  fun A G H σ δ μ c dx u d a n1 h1 h2 h3 h4 h5 => w A G H σ δ μ c dx u d a (n.trans n1) h1 h2 h3 h4 h5
section
variable {CE : Sl → Addr → D → List Cell → Prop}
theorem ex_of (h : EE K S te δ μ C) : EX K S (fun _ => te) δ μ C CE := fun A G H σ a _ _ Q q => h A G H σ a Q q
theorem sx_of {ts : TS} (h : SE K S ts δ μ Cn0) : SX K S (fun _ => ts) δ μ Cn0 CE := fun A G H σ a _ F f _ => h A G H σ a F f
theorem sx_asg {tw : WX → TE} {i : Nat} (h : EX K S tw δ μ (fun d μ1 => Cn0.nx (δ.set i (some d)) μ1) CE) : SX K S (fun W => tAsg (tw W) (gName i)) δ μ Cn0 CE := fun A G H σ a W F f w =>
  h A G H σ a W w _ fun v d A1 G1 H1 μ1 m1 n1 r1 c => f.nx A1 G1 H1 _ _ μ1 ⟨m1, En.set r1 i (n1.en a.env)⟩ n1 c
theorem sx_drop {tw : WX → TE} (h : EX K S tw δ μ (fun _ μ1 => Cn0.nx δ μ1) CE) : SX K S (fun W => tDrop (tw W)) δ μ Cn0 CE := fun A G H σ a W F f w =>
  h A G H σ a W w _ fun v d A1 G1 H1 μ1 m1 n1 r1 c => f.nx A1 G1 H1 σ δ μ1 ⟨m1, n1.en a.env⟩ n1 c
theorem sx_ret {tw : WX → TE} (h : EX K S tw δ μ Cn0.rt CE) : SX K S (fun W => tRet (tw W)) δ μ Cn0 CE := fun A G H σ a W F f w =>
  h A G H σ a W w _ fun v d A1 G1 H1 μ1 m1 n1 r1 c => f.rt A1 G1 H1 v d μ1 m1 r1 c
theorem sx_seq {t1 t2 : WX → TS} (h : SX K S t1 δ μ { Cn0 with nx := fun δ1 μ1 => SX K S t2 δ1 μ1 Cn0 CE } CE) : SX K S (fun W => tSeq (t1 W) (t2 W)) δ μ Cn0 CE := fun A G H σ a W F f w =>
  h A G H σ a W { F with nx := t2 W F } (f.go fun A1 G1 H1 σ1 δ1 μ1 a1 n1 c => c A1 G1 H1 σ1 a1 W F (f.at' n1) (w.at' n1)) w
theorem ex_call {T : Type} {arg : T → List D} {pre : T → Prop} {post : T → D → Prop} {exc : T → Addr → D → Prop}
    (h : EA K S ta δ μ fun ds μ1 => ∃ t : T, pre t ∧ ds = arg t ∧ D.ltL 0 ds = true ∧ (∀ d, post t d → d.lt 0 = true → C d μ1) ∧ ∀ c d, exc t c d → d.lt 0 = true → CE δ c d μ1) : EX K S (fun W => tCallS (ProP K arg pre post exc) (WE W) ta) δ μ C CE := fun A G H σ a W wx Q q =>
  h A G H σ a _ fun vs ds A1 G1 H1 μ1 m1 n1 r1 ⟨t, hp, ed, hl, hc, hx⟩ => by
    subst ed
    have rd : RpL K [] G1 (arg t) vs := r1.cl hl
    have m0 : Mem K ⟨[], G1, H1⟩ [] G1 H1 [] := ⟨m1.ex, Ex.refl _, ⟨[], rfl, fun _ h => by cases h⟩, fun _ h => .inl h, fun _ _ _ h => h, fun k a c h _ => by simp at h, rfl, List.nodup_nil, fun _ h => by cases h⟩
    have beh : ∀ {G' H' : Hp} {B : List Addr}, Mem K ⟨[], G1, H1⟩ ([] ++ B) G' H' [] → B = [] ∧ Mem K S A1 G' H' μ1 := fun {G' H' B} f => by
      have hB : B = [] := List.length_eq_zero_iff.mp (by have z := f.len; simpa using z)
      subst hB
      have fa := m1.after (hs := []) (B := []) List.nodup_nil (fun k hk => (by cases hk)) f
      have eb : behindC [] A1.length [] μ1 = μ1 := by
        show μ1 ++ [] = μ1
        rw [List.append_nil]
      rw [List.append_nil, eb] at fa
      exact ⟨rfl, fa⟩
    refine ⟨t, [], G1, hp, m0, rd, fun v d B G' H' ν f r ⟨e0, c⟩ => ?_, fun c dx u d G' H' ν f f1 f2 f3 r c' => ?_⟩
    · subst e0
      obtain ⟨hB, mb⟩ := beh f
      subst hB
      have hcl : d.lt 0 = true := r.scope
      exact q v d A1 G' H' μ1 mb (n1.trans (.of f.exG)) (r.cl hcl) (hc _ c hcl)
    · have e0 : ν = [] := List.length_eq_zero_iff.mp (by have z := f.len; simpa using z.symm)
      subst e0
      obtain ⟨_, mb⟩ := beh (B := []) f
      have hcl : d.lt 0 = true := r.scope
      have n2 := n1.trans (Nw.of (A := A1) f.exG)
      have hs0 : S.H dx = none := by
        cases qq : S.H dx with
        | none => rfl
        | some o =>
          by_cases ha' : dx ∈ S.A
          · obtain ⟨B0, hB0, h0⟩ := m1.pre
            exact absurd f1 (m1.al dx (by rw [hB0]; exact List.mem_append_left _ ha'))
          · have z := m1.keep dx o ha' qq
            rw [f1] at z
            cases z
      exact wx A1 G' H' σ δ μ1 c dx u d ⟨mb, n2.en a.env⟩ n2 hs0 f2 f3 (r.cl hcl) (hx c d c' hcl)
end
/-- an error's dict is known from now on -/
theorem Mem.dictKnown {A : List Addr} {G H : Hp} {dx : Addr} {u : V} (m : Mem K S A G H μ) (h1 : S.H dx = none) (h2 : G dx = none) (h3 : H dx = some (.xd [(("value" : Str), u)])) :
    Mem K S A (upd G dx (exd dx [(("value" : Str), u)])) (upd H dx (exd dx [(("value" : Str), u)])) μ where
  ex := Ex.both m.ex
  exG := m.exG.trans (Ex.new h2)
  pre := m.pre
  new := fun p hp => by
    by_cases e : p = dx
    · rw [e]
      exact .inr h1
    · rw [upd_ne e] at hp
      exact m.new p hp
  keep := fun a o q1 q2 => by
    have e : a ≠ dx := ne_of_none q2 h1
    rw [upd_ne e]
    exact m.keep a o q1 q2
  cel := fun k a c e1 e2 => by
    have q := m.cel k a c e1 e2
    cases c with
    | off => trivial
    | lst l =>
      obtain ⟨g, ys, hy, r⟩ := q
      have e : a ≠ dx := fun z => by
        rw [z, h3] at hy
        cases hy
      refine ⟨?_, ys, ?_, r.mono0 (Ex.new h2)⟩
      · rw [upd_ne e]
        exact g
      · rw [upd_ne e]
        exact hy
  len := m.len
  nd := m.nd
  al := fun a ha z => by
    by_cases e : a = dx
    · rw [e, upd_same] at z
      cases z
    · rw [upd_ne e] at z
      exact m.al a ha z
/-- THE RULE for try: tb; except cv as n: ts (n in slot i) -/
theorem se_try {tb : WX → TS} {cv : Value} {i : Nat} {ts : TS} {Wout : WX} {C0 : Cn} (CE : Sl → Addr → D → List Cell → Prop) (hb : SX K S tb δ μ C0 CE)
    (hs : ∀ δ' c d μ', CE δ' c d μ' → PySem.W.exmOne K (.ref c) cv = some true ∧
      SE K S ts (δ'.set i (some (.exc c d))) μ' { nx := fun δ2 μ2 => C0.nx (δ2.set i none) μ2, rt := C0.rt, bk := fun δ2 μ2 => C0.bk (δ2.set i none) μ2, ct := fun δ2 μ2 => C0.ct (δ2.set i none) μ2 }) :
    SE K S (fun D σ H => tb (wHold K cv i ts Wout D) D σ H) δ μ C0 := fun A G H σ a F f => by
  refine hb A G H σ a _ F f fun A1 G1 H1 σ1 δ1 μ1 c dx u d a1 n1 h1 gd hd rd hc => ?_
  obtain ⟨hm, hse⟩ := hs δ1 c d μ1 hc
  refine ⟨true, hm, fun _ => ⟨c, dx, _, rfl, rfl, hd, fun x hx => ?_⟩, fun z => Bool.noConfusion z⟩
  have ne : dx ≠ x := ne_of_none hd hx
  have gx : G1 x = none := a1.m.ex.free hx
  have hx1 : upd H1 dx (exd dx [(("value" : Str), u)]) x = none := by
    rw [upd_ne ne.symm]
    exact hx
  have m2 := (a1.m.dictKnown h1 gd hd).laid (o := exq x c dx) hx1
  have e1 : Ex G1 (upd (upd G1 dx (exd dx [(("value" : Str), u)])) x (exq x c dx)) := (Ex.new gd).trans (Ex.new (by rw [upd_ne ne.symm]; exact gx))
  have rx : Rp K A1 (upd (upd G1 dx (exd dx [(("value" : Str), u)])) x (exq x c dx)) (.exc c d) (.ref x) := .exc upd_same (by rw [upd_ne ne, upd_same]) (rd.mono0 e1)
  have n2 : Nw A1 G1 A1 (upd (upd G1 dx (exd dx [(("value" : Str), u)])) x (exq x c dx)) := .of e1
  refine hse A1 _ _ _ ⟨m2, En.set rx i (n2.en a1.env)⟩ _ ⟨fun A3 G3 H3 σ3 δ3 μ3 a3 n3 c3 => ?_, f.rt, fun A3 G3 H3 σ3 δ3 μ3 a3 n3 c3 => ?_, fun A3 G3 H3 σ3 δ3 μ3 a3 n3 c3 => ?_⟩
  · exact f.nx A3 G3 H3 _ _ μ3 ⟨a3.m, En.unset i none a3.env⟩ ((n1.trans n2).trans n3) c3
  · exact f.bk A3 G3 H3 _ _ μ3 ⟨a3.m, En.unset i none a3.env⟩ ((n1.trans n2).trans n3) c3
  · exact f.ct A3 G3 H3 _ _ μ3 ⟨a3.m, En.unset i none a3.env⟩ ((n1.trans n2).trans n3) c3
end
end PA

set_option Elab.async false
set_option linter.all false
set_option maxRecDepth 100000
set_option maxHeartbeats 2000000
/-! PbOps: operators, items, cuts, calls and methods of the built-ins, over data. -/
namespace PA
open PySem L2
/-! ### one rule a sign -/
section
variable {X : Cx}
def rPlus (K : PySem.W.Frag) : R2 := fun x y H Q => rI0 (fun i j => .int (i + j)) x y H Q ∨
  ((fun x y H (Q : VK) => ∃ i j, x = .str i ∧ y = .str j ∧ i.length + j.length ≤ sizeLine ∧ Q (.str (i ++ j)) H) x y H Q ∨ (rCat x y H Q ∨ rCatA K x y H Q))
theorem op_plus : OpR X (binaryOp .Add) (rPlus X.K) := OpR.or op_add (OpR.or op_add_str (OpR.or op_cat op_catA))
def rLess : R2 := fun x y H Q => rI0 (fun i j => .bl (decide (i < j))) x y H Q ∨ (fun x y H (Q : VK) => ∃ i j, x = .str i ∧ y = .str j ∧ Q (.bl (decide (i.cps.toList < j.cps.toList))) H) x y H Q
theorem op_less : OpR X (compareOp .Lt) rLess := OpR.or op_lt op_lt_str
def rLeq : R2 := fun x y H Q => rI0 (fun i j => .bl (decide (i ≤ j))) x y H Q ∨ (fun x y H (Q : VK) => ∃ i j, x = .str i ∧ y = .str j ∧ Q (.bl (!decide (j.cps.toList < i.cps.toList))) H) x y H Q
theorem op_leq : OpR X (compareOp .LtE) rLeq := OpR.or op_le op_le_str
def rEqU (K : PySem.W.Frag) : R2 := fun x y H Q => rEq x y H Q ∨ (rEqD K x y H Q ∨ rEqDA x y H Q)
theorem op_eqU (hu : X.A.units + 64 < cLine) : OpR X (compareOp .Eq) (rEqU X.K) := OpR.or op_eq (OpR.or (op_eqD hu) (op_eq_dictA (by omega)))
def rNeU (K : PySem.W.Frag) : R2 := fun x y H Q => rNe x y H Q ∨ rNeD K x y H Q
theorem op_neU (hu : X.A.units + 64 < cLine) : OpR X (compareOp .NotEq) (rNeU X.K) := OpR.or op_ne (op_neD hu)
def rInU (K : PySem.W.Frag) : R2 := fun x y H Q => rIn K false x y H Q ∨ (fun x y H (Q : VK) => ∃ (c : Nat) (z : Str), x = .str ⟨#[c]⟩ ∧ y = .str z ∧ Q (.bl (decide (c ∈ z.cps.toList))) H) x y H Q
theorem op_inU : OpR X (compareOp .In) (rInU X.K) := OpR.or op_in_seq op_in_sign
def rNiU (K : PySem.W.Frag) : R2 := fun x y H Q => rIn K true x y H Q ∨ (fun x y H (Q : VK) => ∃ (c : Nat) (z : Str), x = .str ⟨#[c]⟩ ∧ y = .str z ∧ Q (.bl (!decide (c ∈ z.cps.toList))) H) x y H Q
theorem op_niU : OpR X (compareOp .NotIn) (rNiU X.K) := OpR.or op_notIn_seq op_notIn_sign
def rSlU (K : PySem.W.Frag) : V → Option Int → Option Int → Hp → VK → Prop := fun x lo hi H Q => rSlL K x lo hi H Q ∨ (rSlA K x lo hi H Q ∨ rSlS x lo hi H Q)
theorem sl_U : SlR X (rSlU X.K) := SlR.or sl_list (SlR.or sl_tupA sl_str)
def rIsiU (K : PySem.W.Frag) : List V → Hp → VK → Prop := fun xs H Q => rIsi K xs H Q ∨ (rIsiT K xs H Q ∨ (rIsX K xs H Q ∨ rIsiK K xs H Q))
theorem call_isU : CallR X (.builtin "isinstance") (rIsiU X.K) := CallR.or call_isi (CallR.or call_isiT (CallR.or call_isX call_isiK))
end
section
variable {K : PySem.W.Frag} {S : Bs} {δ : Sl} {μ : List Cell} {ta tb te : TE} {C : D → List Cell → Prop}
theorem oo_same {r : R2} {x y z : V} (h : ∀ H (Q : VK), Q z H → r x y H Q) (k : C (.v z) μ) : OO K S r (.v x) (.v y) μ C := fun A G H u w m r1 r2 Q q => by
  have e1 := r1.vOf
  have e2 := r2.vOf
  subst e1 e2
  exact h H Q (q z (.v z) A G H μ m Nw.refl (.v z) k)
theorem oo_add {i j : Int} (k : C (.int (i + j)) μ) : OO K S (rPlus K) (.int i) (.int j) μ C := oo_same (fun _ _ q => .inl ⟨i, j, rfl, rfl, q⟩) k
theorem oo_addS {a b : Str} (hz : a.length + b.length ≤ 10000000) (k : C (.str (a ++ b)) μ) : OO K S (rPlus K) (.str a) (.str b) μ C := oo_same (fun _ _ q => .inr (.inl ⟨a, b, rfl, rfl, small hz, q⟩)) k
theorem put_lst {A : List Addr} {G H : Hp} {p : Addr} {xs : List V} {l : List D} {Q : VK} (m : Mem K S A G H μ) (hp : H p = none) (r : RpL K A G l xs)
    (q : ∀ v d A' G' H' μ', Mem K S A' G' H' μ' → Nw A G A' G' → Rp K A' G' d v → C d μ' → Q v H') (k : C (.lst l) μ) : Q (.ref p) (upd H p (.lst xs)) :=
  q _ _ A _ _ μ (m.laid hp) (.of (Ex.new (m.ex.free hp))) (.lst upd_same (r.mono0 (Ex.new (m.ex.free hp)))) k
theorem put_tup {A : List Addr} {G H : Hp} {p : Addr} {xs : List V} {l : List D} {Q : VK} (m : Mem K S A G H μ) (hp : H p = none) (r : RpL K A G l xs)
    (q : ∀ v d A' G' H' μ', Mem K S A' G' H' μ' → Nw A G A' G' → Rp K A' G' d v → C d μ' → Q v H') (k : C (.tup l) μ) : Q (.ref p) (upd H p (.tup xs)) :=
  q _ _ A _ _ μ (m.laid hp) (.of (Ex.new (m.ex.free hp))) (.tup (.inl upd_same) (r.mono0 (Ex.new (m.ex.free hp)))) k
theorem oo_addL {l m : List D} (hz : l.length + m.length ≤ 10000000) (k : C (.lst (l ++ m)) μ) : OO K S (rPlus K) (.lst l) (.lst m) μ C := fun A G H u w me r1 r2 Q q => by
  cases r1 with
  | lst h1 s1 =>
    cases r2 with
    | lst h2 s2 => exact .inr (.inr (.inl ⟨_, _, _, _, rfl, rfl, me.ex _ _ h1, me.ex _ _ h2, small (by rw [← s1.len, ← s2.len]; exact hz), fun p hp => put_lst me hp (s1.append s2) q k⟩))
theorem oo_addT {l m : List D} (hz : l.length + m.length ≤ 10000000) (k : C (.tup (l ++ m)) μ) : OO K S (rPlus K) (.tup l) (.tup m) μ C := fun A G H u w me r1 r2 Q q => by
  cases r1 with
  | @tup _ a xs h1 s1 =>
    cases r2 with
    | @tup _ b ys h2 s2 =>
      refine .inr (.inr (.inr ⟨_, _, xs, ys, rfl, rfl, ex_t me.ex h1.sq, ex_t me.ex h2.sq, small (by rw [← s1.len, ← s2.len]; exact hz), fun e => ?_, fun n e => ?_, fun n1 n2 p hp => put_tup me hp (s1.append s2) q k⟩))
      · refine q _ _ A G H μ me Nw.refl (.tup h2 ?_) k
        have z := s1.append s2
        rw [e, List.nil_append] at z
        exact z
      · refine q _ _ A G H μ me Nw.refl (.tup h1 ?_) k
        have z := s1.append s2
        rw [e, List.append_nil] at z
        exact z
theorem oo_I0 {g : Int → Int → V} {i j : Int} (k : C (.v (g i j)) μ) : OO K S (rI0 g) (.int i) (.int j) μ C := oo_same (fun _ _ q => ⟨i, j, rfl, rfl, q⟩) k
theorem oo_I {P : Int → Int → Prop} {g : Int → Int → V} {i j : Int} (hp : P i j) (k : C (.v (g i j)) μ) : OO K S (rI P g) (.int i) (.int j) μ C := oo_same (fun _ _ q => ⟨i, j, rfl, rfl, hp, q⟩) k
theorem oo_lt {i j : Int} (k : C (.bl (decide (i < j))) μ) : OO K S rLess (.int i) (.int j) μ C := oo_same (fun _ _ q => .inl ⟨i, j, rfl, rfl, q⟩) k
theorem oo_ltS {a b : Str} (k : C (.bl (decide (a.cps.toList < b.cps.toList))) μ) : OO K S rLess (.str a) (.str b) μ C := oo_same (fun _ _ q => .inr ⟨a, b, rfl, rfl, q⟩) k
theorem oo_le {i j : Int} (k : C (.bl (decide (i ≤ j))) μ) : OO K S rLeq (.int i) (.int j) μ C := oo_same (fun _ _ q => .inl ⟨i, j, rfl, rfl, q⟩) k
theorem oo_leS {a b : Str} (k : C (.bl (!decide (b.cps.toList < a.cps.toList))) μ) : OO K S rLeq (.str a) (.str b) μ C := oo_same (fun _ _ q => .inr ⟨a, b, rfl, rfl, q⟩) k
theorem oo_eq {x y : V} (hs : scal x y = true) (k : C (.bl (decide (x = y))) μ) : OO K S (rEqU K) (.v x) (.v y) μ C := oo_same (fun _ _ q => .inl ⟨hs, q⟩) k
theorem oo_ne {x y : V} (hs : scal x y = true) (k : C (.bl (!decide (x = y))) μ) : OO K S (rNeU K) (.v x) (.v y) μ C := oo_same (fun _ _ q => .inl ⟨hs, q⟩) k
/-! data that may be compared at any depth -/
mutual
def D.py : D → Option PyData
  | .v .non => some .none
  | .v (.bl b) => some (.bool b)
  | .v (.int i) => some (.int i)
  | .v (.str s) => some (.str s)
  | .lst l => (D.pyAll l).map .list
  | .rd l => (D.pyAll l).map .list
  | .tup l => (D.pyAll l).map .tuple
  | _ => none
def D.pyAll : List D → Option (List PyData)
  | [] => some []
  | d :: l => match D.py d, D.pyAll l with
    | some p, some ps => some (p :: ps)
    | _, _ => none
end
mutual
theorem Rp.dp {A : List Addr} {G : Hp} : ∀ {d : D} {x : V} {p : PyData}, Rp K A G d x → D.py d = some p → Dp K G x p
  | _, _, p, .v x, e => by
    cases x with
    | non => cases e; exact .non
    | bl b => cases e; exact .bl b
    | int i => cases e; exact .int i
    | str s => cases e; exact .str s
    | byt b => cases e
    | flt b => cases e
    | ref a => cases e
    | ty n => cases e
  | _, _, p, .lst (l := l) h r, e => by
    have e : (D.pyAll l).map PyData.list = some p := e
    cases q : D.pyAll l with
    | none => rw [q] at e; cases e
    | some ps =>
      rw [q] at e
      cases e
      exact .lst (lst_sq h) (RpL.dp r q)
  | _, _, p, .rd (l := l) h r, e => by
    have e : (D.pyAll l).map PyData.list = some p := e
    cases q : D.pyAll l with
    | none => rw [q] at e; cases e
    | some ps =>
      rw [q] at e
      cases e
      exact .lst h (RpL.dp r q)
  | _, _, p, .tup (l := l) h r, e => by
    have e : (D.pyAll l).map PyData.tuple = some p := e
    cases q : D.pyAll l with
    | none => rw [q] at e; cases e
    | some ps =>
      rw [q] at e
      cases e
      exact .tup h.sq (RpL.dp r q)
theorem RpL.dp {A : List Addr} {G : Hp} : ∀ {l : List D} {xs : List V} {ps : List PyData}, RpL K A G l xs → D.pyAll l = some ps → DpAll K G xs ps
  | _, _, ps, .nil, e => by cases e; exact .nil
  | _, _, ps, .cons (d := d) (l := l) h r, e => by
    have e : (match D.py d, D.pyAll l with | some p, some ps => some (p :: ps) | _, _ => none) = some ps := e
    cases q1 : D.py d with
    | none => rw [q1] at e; cases e
    | some p =>
      cases q2 : D.pyAll l with
      | none => rw [q1, q2] at e; cases e
      | some qs =>
        rw [q1, q2] at e
        cases e
        exact .cons (Rp.dp h q1) (RpL.dp r q2)
end
theorem oo_eqD {x y : D} {p q : PyData} (h1 : D.py x = some p) (h2 : D.py y = some q) (s1 : SeqAt.shaped p = true) (s2 : SeqAt.shaped q = true) (k : C (.bl (PyData.eqv p q)) μ) : OO K S (rEqU K) x y μ C := fun A G H u w m r1 r2 Q qq =>
  .inr (.inl ⟨p, q, (r1.mono0 m.ex).dp h1, (r2.mono0 m.ex).dp h2, s1, s2, qq _ _ A G H μ m Nw.refl (.v _) k⟩)
theorem oo_neD {x y : D} {p q : PyData} (h1 : D.py x = some p) (h2 : D.py y = some q) (s1 : SeqAt.shaped p = true) (s2 : SeqAt.shaped q = true) (k : C (.bl (!PyData.eqv p q)) μ) : OO K S (rNeU K) x y μ C := fun A G H u w m r1 r2 Q qq =>
  .inr ⟨p, q, (r1.mono0 m.ex).dp h1, (r2.mono0 m.ex).dp h2, s1, s2, qq _ _ A G H μ m Nw.refl (.v _) k⟩
/-- x is None -/
def D.isNon : D → Bool
  | .v .non => true
  | _ => false
theorem Rp.isNon {A : List Addr} {G : Hp} {d : D} {x : V} (h : Rp K A G d x) : decide (x = .non) = d.isNon := by
  cases h with
  | v x => cases x <;> rfl
  | own _ => rfl
  | lst _ _ => rfl
  | rd _ _ => rfl
  | tup _ _ => rfl
  | dic _ _ _ => rfl
  | exc _ _ _ => rfl
theorem oo_isN {x : D} (k : C (.bl x.isNon) μ) : OO K S (fun x y H Q => y = .non ∧ Q (.bl (decide (x = .non))) H) x .non μ C := fun A G H u w m r1 r2 Q q => by
  have e2 := r2.vOf
  subst e2
  refine ⟨rfl, ?_⟩
  rw [r1.isNon]
  exact q _ _ A G H μ m Nw.refl (.v _) k
theorem oo_notN {x : D} (k : C (.bl (!x.isNon)) μ) : OO K S (fun x y H Q => y = .non ∧ Q (.bl (!decide (x = .non))) H) x .non μ C := fun A G H u w m r1 r2 Q q => by
  have e2 := r2.vOf
  subst e2
  refine ⟨rfl, ?_⟩
  rw [r1.isNon]
  exact q _ _ A G H μ m Nw.refl (.v _) k
theorem oo_inC {c : Nat} {z : Str} (k : C (.bl (decide (c ∈ z.cps.toList))) μ) : OO K S (rInU K) (.str ⟨#[c]⟩) (.str z) μ C := oo_same (fun _ _ q => .inr ⟨c, z, rfl, rfl, q⟩) k
theorem oo_niC {c : Nat} {z : Str} (k : C (.bl (!decide (c ∈ z.cps.toList))) μ) : OO K S (rNiU K) (.str ⟨#[c]⟩) (.str z) μ C := oo_same (fun _ _ q => .inr ⟨c, z, rfl, rfl, q⟩) k
/-- x in a tuple or a list of flat values -/
theorem oo_inT {x : V} {ys : List V} (hx : flatV x = true) (hy : ys.all flatV = true) (k : C (.bl (inV x ys)) μ) : OO K S (rInU K) (.v x) (.tup (ys.map .v)) μ C := fun A G H u w m r1 r2 Q q => by
  have e1 := r1.vOf
  subst e1
  cases r2 with
  | tup h r =>
    have e2 := RpL.of_vals r
    subst e2
    exact .inl ⟨_, _, rfl, .inr (ex_t m.ex h.sq), hx, hy, q _ _ A G H μ m Nw.refl (.v _) k⟩
theorem oo_inL {x : V} {ys : List V} (hx : flatV x = true) (hy : ys.all flatV = true) (k : C (.bl (inV x ys)) μ) : OO K S (rInU K) (.v x) (.lst (ys.map .v)) μ C := fun A G H u w m r1 r2 Q q => by
  have e1 := r1.vOf
  subst e1
  cases r2 with
  | lst h r =>
    have e2 := RpL.of_vals r
    subst e2
    exact .inl ⟨_, _, rfl, .inl (ex_l m.ex (lst_sq h)), hx, hy, q _ _ A G H μ m Nw.refl (.v _) k⟩

/-! ### items -/
theorem atI_rel {A : List Addr} {G : Hp} {l : List D} {xs : List V} {i : Int} {d : D} (r : RpL K A G l xs) (h : atI l i = some d) : ∃ x, atI xs i = some x ∧ Rp K A G d x := by
  unfold atI at h ⊢
  rw [← r.len]
  cases q : ixN l.length i with
  | none => rw [q] at h; cases h
  | some j =>
    rw [q] at h
    exact r.get h
theorem atI_nat {α : Type} {l : List α} {j : Nat} {d : α} (h : l[j]? = some d) : atI l (j : Int) = some d := by
  have hj := (List.getElem?_eq_some_iff.mp h).1
  unfold atI ixN
  rw [if_pos (by omega), if_pos (by omega)]
  simpa using h
theorem atI_neg {α : Type} {l : List α} {j : Nat} {d : α} (hj : 0 < j) (hl : j ≤ l.length) (h : l[l.length - j]? = some d) : atI l (-(j : Int)) = some d := by
  unfold atI ixN
  rw [if_neg (by omega), if_pos (by omega)]
  show l[(-(j : Int) + (l.length : Int)).toNat]? = some d
  have e : (-(j : Int) + (l.length : Int)).toNat = l.length - j := by omega
  rw [e]
  exact h
theorem oo_ixL {l : List D} {i : Int} {d : D} (h : atI l i = some d) (k : C d μ) : OO K S (rIx K) (.lst l) (.int i) μ C := fun A G H u w m r1 r2 Q q => by
  have e2 := r2.vOf
  subst e2
  cases r1 with
  | lst h1 r =>
    obtain ⟨x, hx, rx⟩ := atI_rel r h
    exact .inl ⟨_, _, i, x, rfl, rfl, lst_sq (m.ex _ _ h1), hx, q x d A G H μ m Nw.refl rx k⟩
theorem oo_ixR {l : List D} {i : Int} {d : D} (h : atI l i = some d) (k : C d μ) : OO K S (rIx K) (.rd l) (.int i) μ C := fun A G H u w m r1 r2 Q q => by
  have e2 := r2.vOf
  subst e2
  cases r1 with
  | rd h1 r =>
    obtain ⟨x, hx, rx⟩ := atI_rel r h
    exact .inl ⟨_, _, i, x, rfl, rfl, ex_l m.ex h1, hx, q x d A G H μ m Nw.refl rx k⟩
theorem oo_ixT {l : List D} {i : Int} {d : D} (h : atI l i = some d) (k : C d μ) : OO K S (rIx K) (.tup l) (.int i) μ C := fun A G H u w m r1 r2 Q q => by
  have e2 := r2.vOf
  subst e2
  cases r1 with
  | tup h1 r =>
    obtain ⟨x, hx, rx⟩ := atI_rel r h
    exact .inr (.inl ⟨_, _, i, x, rfl, rfl, ex_t m.ex h1.sq, hx, q x d A G H μ m Nw.refl rx k⟩)
theorem oo_ixO {n : Nat} {l : List D} {i : Int} {d : D} (hc : μ[n]? = some (.lst l)) (h : atI l i = some d) (k : C d μ) : OO K S (rIx K) (.own n) (.int i) μ C := fun A G H u w m r1 r2 Q q => by
  have e2 := r2.vOf
  subst e2
  cases r1 with
  | own hA =>
    obtain ⟨g, xs, hx, r⟩ := m.cel n _ _ hA hc
    obtain ⟨x, hx2, rx⟩ := atI_rel r h
    exact .inl ⟨_, _, i, x, rfl, rfl, lst_sq hx, hx2, q x d A G H μ m Nw.refl rx k⟩
theorem oo_ixS {s : Str} {i : Int} {c : Nat} (hz : s.length ≤ 10000000) (h : atI s.cps.toList i = some c) (k : C (.str ⟨#[c]⟩) μ) : OO K S (rIx K) (.str s) (.int i) μ C :=
  oo_same (fun _ _ q => .inr (.inr ⟨s, i, c, rfl, rfl, small hz, h, q⟩)) k

/-! ### cuts -/
theorem eo_none {C : Option Int → List Cell → Prop} (k : C none μ) : EO K S tNoPart δ μ C := fun A G H σ a Q q => q none A G H μ a.m Nw.refl k
theorem eo_some {C : Option Int → List Cell → Prop} (h : EE K S te δ μ fun d μ1 => ∃ i, d = .int i ∧ C (some i) μ1) : EO K S (tPart te) δ μ C := fun A G H σ a Q q =>
  h A G H σ a _ fun v d A1 G1 H1 μ1 m1 n1 r1 ⟨i, e, c⟩ => by
    subst e
    have ev := r1.vOf
    subst ev
    exact ⟨i, rfl, q (some i) A1 G1 H1 μ1 m1 n1 c⟩
def SS (K : PySem.W.Frag) (S : Bs) (r : V → Option Int → Option Int → Hp → VK → Prop) (x : D) (lo hi : Option Int) (μ : List Cell) (C : D → List Cell → Prop) : Prop :=
  ∀ A G H u, Mem K S A G H μ → Rp K A G x u → ∀ Q : VK, (∀ v d A' G' H' μ', Mem K S A' G' H' μ' → Nw A G A' G' → Rp K A' G' d v → C d μ' → Q v H') → r u lo hi H Q
theorem ee_sl {r : V → Option Int → Option Int → Hp → VK → Prop} {tl th : TO} (h : EE K S te δ μ fun x μ1 => EO K S tl δ μ1 fun lo μ2 => EO K S th δ μ2 fun hi μ3 => SS K S r x lo hi μ3 C) : EE K S (tSl r te tl th) δ μ C := fun A G H σ a Q q =>
  h A G H σ a _ fun v x A1 G1 H1 μ1 m1 n1 r1 h1 => h1 A1 G1 H1 σ ⟨m1, n1.en a.env⟩ _ fun lo A2 G2 H2 μ2 m2 n2 h2 => h2 A2 G2 H2 σ ⟨m2, (n1.trans n2).en a.env⟩ _ fun hi A3 G3 H3 μ3 m3 n3 h3 =>
    h3 A3 G3 H3 v m3 ((n2.trans n3).rp r1) Q fun z d A4 G4 H4 μ4 m4 n4 r4 c => q z d A4 G4 H4 μ4 m4 (((n1.trans n2).trans n3).trans n4) r4 c
def cutD (l : List D) (lo hi : Option Int) : List D := (l.drop (HT.sIx l.length 0 lo)).take (HT.sIx l.length l.length hi - HT.sIx l.length 0 lo)
theorem cut_rel {A : List Addr} {G : Hp} {l : List D} {xs : List V} (r : RpL K A G l xs) (lo hi : Option Int) : RpL K A G (cutD l lo hi) (cutV xs lo hi) := by
  unfold cutD cutV
  rw [r.len]
  exact (r.drop _).take _
theorem ss_lst {l : List D} {lo hi : Option Int} (k : C (.lst (cutD l lo hi)) μ) : SS K S (rSlU K) (.lst l) lo hi μ C := fun A G H u m r1 Q q => by
  cases r1 with
  | lst h1 r => exact .inl ⟨_, _, rfl, lst_sq (m.ex _ _ h1), fun p hp => put_lst m hp (cut_rel r lo hi) q k⟩
theorem ss_rd {l : List D} {lo hi : Option Int} (k : C (.lst (cutD l lo hi)) μ) : SS K S (rSlU K) (.rd l) lo hi μ C := fun A G H u m r1 Q q => by
  cases r1 with
  | rd h1 r => exact .inl ⟨_, _, rfl, ex_l m.ex h1, fun p hp => put_lst m hp (cut_rel r lo hi) q k⟩
theorem ss_own {n : Nat} {l : List D} {lo hi : Option Int} (hc : μ[n]? = some (.lst l)) (k : C (.lst (cutD l lo hi)) μ) : SS K S (rSlU K) (.own n) lo hi μ C := fun A G H u m r1 Q q => by
  cases r1 with
  | own hA =>
    obtain ⟨g, xs, hx, r⟩ := m.cel n _ _ hA hc
    exact .inl ⟨_, _, rfl, lst_sq hx, fun p hp => put_lst m hp (cut_rel r lo hi) q k⟩
theorem ss_str {s : Str} {lo hi : Option Int} (hz : s.length ≤ 10000000) (k : C (.str (cutS s lo hi)) μ) : SS K S (rSlU K) (.str s) lo hi μ C := fun A G H u m r1 Q q => by
  have e1 := r1.vOf
  subst e1
  exact .inr (.inr ⟨s, rfl, small hz, q _ _ A G H μ m Nw.refl (.v _) k⟩)
theorem cut_all {l : List D} {lo hi : Option Int} (h1 : HT.sIx l.length 0 lo = 0) (h2 : HT.sIx l.length l.length hi = l.length) : cutD l lo hi = l := by
  unfold cutD
  rw [h1, h2]
  simp
theorem ss_tup {l : List D} {lo hi : Option Int} (k : C (.tup (cutD l lo hi)) μ) : SS K S (rSlU K) (.tup l) lo hi μ C := fun A G H u m r1 Q q => by
  cases r1 with
  | @tup _ a xs h1 r =>
    refine .inr (.inl ⟨_, xs, rfl, ex_t m.ex h1.sq, fun ⟨e1, e2⟩ => ?_, fun _ p hp => put_tup m hp (cut_rel r lo hi) q k⟩)
    rw [← r.len] at e1 e2
    refine q _ _ A G H μ m Nw.refl (.tup h1 ?_) k
    rw [cut_all e1 e2]
    exact r
theorem ee_revL (h : EE K S te δ μ fun d μ1 => ∃ l, d = .lst l ∧ C (.lst l.reverse) μ1) : EE K S (tRevL K te) δ μ C := fun A G H σ a Q q =>
  h A G H σ a _ fun v d A1 G1 H1 μ1 m1 n1 r1 ⟨l, e, c⟩ => by
    subst e
    cases r1 with
    | lst h1 r =>
      have e : ∀ {p : Addr} {o : HO}, H1 p = none → Ex G1 (upd G1 p o) := fun hp => Ex.new (m1.ex.free hp)
      exact ⟨_, _, rfl, lst_sq (m1.ex _ _ h1), fun p hp => q _ _ A1 _ _ μ1 (m1.laid hp) (n1.trans (.of (e hp))) (.lst upd_same (r.reverse.mono0 (e hp))) c⟩

/-! ### calls of built-ins -/
theorem cc_one {r : List V → Hp → VK → Prop} {x z : V} (h : ∀ H (Q : VK), Q z H → r [x] H Q) (k : C (.v z) μ) : CC K S r [.v x] μ C := fun A G H vs m r1 Q q => by
  cases r1 with
  | cons r1 rn =>
    cases rn
    have e1 := r1.vOf
    subst e1
    exact h H Q (q z (.v z) A G H μ m Nw.refl (.v z) k)
theorem cc_two {r : List V → Hp → VK → Prop} {x y z : V} (h : ∀ H (Q : VK), Q z H → r [x, y] H Q) (k : C (.v z) μ) : CC K S r [.v x, .v y] μ C := fun A G H vs m r1 Q q => by
  cases r1 with
  | cons r1 rn =>
    cases rn with
    | cons r2 rn =>
      cases rn
      have e1 := r1.vOf
      have e2 := r2.vOf
      subst e1 e2
      exact h H Q (q z (.v z) A G H μ m Nw.refl (.v z) k)
/-- a list or a tuple, or an open list, as a thing to be read -/
inductive SeqD (μ : List Cell) : D → List D → Prop
  | lst (l : List D) : SeqD μ (.lst l) l
  | rd (l : List D) : SeqD μ (.rd l) l
  | tup (l : List D) : SeqD μ (.tup l) l
  | own {n : Nat} {l : List D} (h : μ[n]? = some (.lst l)) : SeqD μ (.own n) l
inductive LstD (μ : List Cell) : D → List D → Prop
  | lst (l : List D) : LstD μ (.lst l) l
  | rd (l : List D) : LstD μ (.rd l) l
  | own {n : Nat} {l : List D} (h : μ[n]? = some (.lst l)) : LstD μ (.own n) l
theorem LstD.at' {A : List Addr} {G H : Hp} {d : D} {l : List D} {x : V} (s : LstD μ d l) (m : Mem K S A G H μ) (r : Rp K A G d x) : ∃ a xs, x = .ref a ∧ SqL K H a xs ∧ RpL K A G l xs := by
  cases s with
  | lst =>
    cases r with
    | lst h rl => exact ⟨_, _, rfl, lst_sq (m.ex _ _ h), rl⟩
  | rd =>
    cases r with
    | rd h rl => exact ⟨_, _, rfl, ex_l m.ex h, rl⟩
  | own h =>
    cases r with
    | own hA =>
      obtain ⟨g, xs, hx, r⟩ := m.cel _ _ _ hA h
      exact ⟨_, xs, rfl, lst_sq hx, r⟩
theorem SeqD.at' {A : List Addr} {G H : Hp} {d : D} {l : List D} {x : V} (s : SeqD μ d l) (m : Mem K S A G H μ) (r : Rp K A G d x) : ∃ a xs, x = .ref a ∧ (SqL K H a xs ∨ SqT K H a xs) ∧ RpL K A G l xs := by
  cases s with
  | lst =>
    obtain ⟨a, xs, e, h, r⟩ := (LstD.lst _).at' m r
    exact ⟨a, xs, e, .inl h, r⟩
  | rd =>
    obtain ⟨a, xs, e, h, r⟩ := (LstD.rd _).at' m r
    exact ⟨a, xs, e, .inl h, r⟩
  | tup =>
    cases r with
    | tup h rl => exact ⟨_, _, rfl, .inr (ex_t m.ex h.sq), rl⟩
  | own h =>
    obtain ⟨a, xs, e, h, r⟩ := (LstD.own h).at' m r
    exact ⟨a, xs, e, .inl h, r⟩
def rLenU (K : PySem.W.Frag) : List V → Hp → VK → Prop := fun xs H Q => (fun xs H (Q : VK) => ∃ p ys, xs = [.ref p] ∧ (SqL K H p ys ∨ SqT K H p ys) ∧ Q (.int ys.length) H) xs H Q ∨
  ((fun xs H (Q : VK) => ∃ z : Str, xs = [.str z] ∧ z.length ≤ sizeLine ∧ Q (.int z.length) H) xs H Q ∨ (fun xs H (Q : VK) => ∃ (a : Addr) (kvs : List (Key × V)), xs = [V.ref a] ∧ H a = some (.dK kvs) ∧ Q (.int kvs.length) H) xs H Q)
theorem call_lenU {X : Cx} : CallR X (.builtin "len") (rLenU X.K) := CallR.or call_len_seq (CallR.or call_len_str call_lenD)
theorem cc_len {d : D} {l : List D} (h : SeqD μ d l) (k : C (.int (l.length : Int)) μ) : CC K S (rLenU K) [d] μ C := fun A G H vs m r1 Q q => by
  cases r1 with
  | cons r1 rn =>
    cases rn
    obtain ⟨a, xs, e, hs, r⟩ := h.at' m r1
    subst e
    refine .inl ⟨a, xs, rfl, hs, ?_⟩
    rw [← r.len]
    exact q _ _ A G H μ m Nw.refl (.v _) k
theorem cc_lenS {s : Str} (hz : s.length ≤ 10000000) (k : C (.int (s.length : Int)) μ) : CC K S (rLenU K) [.str s] μ C := cc_one (fun _ _ q => .inr (.inl ⟨s, rfl, small hz, q⟩)) k
theorem cc_lenD {ks : List Key} {l : List D} (k : C (.int (ks.length : Int)) μ) : CC K S (rLenU K) [.dic ks l] μ C := fun A G H vs m r1 Q q => by
  cases r1 with
  | cons r1 rn =>
    cases rn
    cases r1 with
    | dic n h r =>
      refine .inr (.inr ⟨_, _, rfl, m.ex _ _ h, ?_⟩)
      rw [List.length_zip, ← n, Nat.min_self]
      exact q _ _ A G H μ m Nw.refl (.v _) k
theorem ints_rel {A : List Addr} {G : Hp} {ns : List Int} {xs : List V} (r : RpL K A G (ns.map D.int) xs) : xs = ns.map V.int := by
  have e : ns.map D.int = (ns.map V.int).map D.v := by rw [List.map_map]; rfl
  rw [e] at r
  exact RpL.of_vals r
theorem bls_rel {A : List Addr} {G : Hp} {bs : List Bool} {xs : List V} (r : RpL K A G (bs.map D.bl) xs) : xs = bs.map V.bl := by
  have e : bs.map D.bl = (bs.map V.bl).map D.v := by rw [List.map_map]; rfl
  rw [e] at r
  exact RpL.of_vals r
theorem strs_rel {A : List Addr} {G : Hp} {zs : List Str} {xs : List V} (r : RpL K A G (zs.map D.str) xs) : xs = zs.map V.str := by
  have e : zs.map D.str = (zs.map V.str).map D.v := by rw [List.map_map]; rfl
  rw [e] at r
  exact RpL.of_vals r
theorem cc_sum {d : D} {ns : List Int} (h : LstD μ d (ns.map D.int)) (k : C (.int ns.sum) μ) : CC K S (rSum K) [d] μ C := fun A G H vs m r1 Q q => by
  cases r1 with
  | cons r1 rn =>
    cases rn
    obtain ⟨a, xs, e, hs, r⟩ := h.at' m r1
    subst e
    have e2 := ints_rel r
    subst e2
    exact ⟨a, ns, rfl, hs, q _ _ A G H μ m Nw.refl (.v _) k⟩
theorem cc_all {d : D} {bs : List Bool} (h : LstD μ d (bs.map D.bl)) (k : C (.bl (bs.all id)) μ) : CC K S (rAll K) [d] μ C := fun A G H vs m r1 Q q => by
  cases r1 with
  | cons r1 rn =>
    cases rn
    obtain ⟨a, xs, e, hs, r⟩ := h.at' m r1
    subst e
    have e2 := bls_rel r
    subst e2
    exact ⟨a, bs, rfl, hs, q _ _ A G H μ m Nw.refl (.v _) k⟩
theorem cc_any {d : D} {bs : List Bool} (h : LstD μ d (bs.map D.bl)) (k : C (.bl (bs.any id)) μ) : CC K S (rAny K) [d] μ C := fun A G H vs m r1 Q q => by
  cases r1 with
  | cons r1 rn =>
    cases rn
    obtain ⟨a, xs, e, hs, r⟩ := h.at' m r1
    subst e
    have e2 := bls_rel r
    subst e2
    exact ⟨a, bs, rfl, hs, q _ _ A G H μ m Nw.refl (.v _) k⟩
def rListOf (K : PySem.W.Frag) : List V → Hp → VK → Prop := fun xs H Q => ∃ p ys, xs = [.ref p] ∧ (SqL K H p ys ∨ SqT K H p ys) ∧ ∀ l, H l = none → Q (.ref l) (upd H l (.lst ys))
theorem call_listOf {X : Cx} : CallR X (.type "list") (rListOf X.K) := call_list_of
theorem cc_list {d : D} {l : List D} (h : SeqD μ d l) (k : C (.lst l) μ) : CC K S (rListOf K) [d] μ C := fun A G H vs m r1 Q q => by
  cases r1 with
  | cons r1 rn =>
    cases rn
    obtain ⟨a, xs, e, hs, r⟩ := h.at' m r1
    subst e
    exact ⟨a, xs, rfl, hs, fun p hp => put_lst m hp r q k⟩
/-- list(..), to be changed -/
theorem cc_listO {d : D} {l : List D} (h : SeqD μ d l) (k : C (.own μ.length) (μ ++ [.lst l])) : CC K S (rListOf K) [d] μ C := fun A G H vs m r1 Q q => by
  cases r1 with
  | cons r1 rn =>
    cases rn
    obtain ⟨a, xs, e, hs, r⟩ := h.at' m r1
    subst e
    refine ⟨a, xs, rfl, hs, fun p hp => ?_⟩
    refine q _ _ (A ++ [p]) G _ _ (m.opened hp r) ⟨⟨[p], rfl⟩, Ex.refl _⟩ (.own ?_) k
    rw [← m.len, List.getElem?_append_right (Nat.le_refl _), Nat.sub_self]
    rfl
def rTupOf (K : PySem.W.Frag) : List V → Hp → VK → Prop := fun xs H Q => ∃ p ys, xs = [.ref p] ∧ ((SqL K H p ys ∧ ∀ l, H l = none → Q (.ref l) (upd H l (.tup ys))) ∨ (SqT K H p ys ∧ Q (.ref p) H))
theorem call_tupOf {X : Cx} : CallR X (.type "tuple") (rTupOf X.K) := call_tuple_of
theorem cc_tuple {d : D} {l : List D} (h : LstD μ d l) (k : C (.tup l) μ) : CC K S (rTupOf K) [d] μ C := fun A G H vs m r1 Q q => by
  cases r1 with
  | cons r1 rn =>
    cases rn
    obtain ⟨a, xs, e, hs, r⟩ := h.at' m r1
    subst e
    exact ⟨a, xs, rfl, .inl ⟨hs, fun p hp => put_tup m hp r q k⟩⟩
theorem cc_int {i : Int} (k : C (.int i) μ) : CC K S (fun xs H Q => (∃ i, xs = [.int i] ∧ Q (.int i) H) ∨ ∃ k, xs = [.bl k] ∧ Q (.int (if k then 1 else 0)) H) [.int i] μ C := cc_one (fun _ _ q => .inl ⟨i, rfl, q⟩) k
theorem cc_max {i j : Int} (k : C (.int (if j > i then j else i)) μ) : CC K S (fun xs H Q => ∃ i j, xs = [.int i, .int j] ∧ Q (.int (if j > i then j else i)) H) [.int i, .int j] μ C := cc_two (fun _ _ q => ⟨i, j, rfl, q⟩) k
theorem cc_min {i j : Int} (k : C (.int (if j < i then j else i)) μ) : CC K S (fun xs H Q => ∃ i j, xs = [.int i, .int j] ∧ Q (.int (if j < i then j else i)) H) [.int i, .int j] μ C := cc_two (fun _ _ q => ⟨i, j, rfl, q⟩) k
/-! isinstance -/
def D.ty : D → String
  | .v .non => "NoneType"
  | .v (.bl _) => "bool"
  | .v (.int _) => "int"
  | .v (.str _) => "str"
  | .v (.flt _) => "float"
  | .v (.byt _) => "bytes"
  | .lst _ => "list"
  | .rd _ => "list"
  | .tup _ => "tuple"
  | .dic _ _ => "dict"
  | .own _ => "list"
  | _ => ""
theorem tyX_tup {H : Hp} {a : Addr} {xs : List V} (h : SqT K H a xs) : TyX K H (.ref a) (.type "tuple") := by
  rcases h with (h | ⟨o, h⟩) | ⟨o, its, n, h, hc, _⟩
  · exact .base (.tup h)
  · exact .fTuple h
  · exact .kTuple h hc
theorem tyX_lst {H : Hp} {a : Addr} {xs : List V} (h : SqL K H a xs) : TyX K H (.ref a) (.type "list") := by
  rcases h with (h | ⟨o, h⟩) | ⟨o, its, n, h, hc, _⟩
  · exact .base (.lst h)
  · exact .base (.frz h)
  · exact .kList h hc
theorem Rp.tyX {A : List Addr} {G H : Hp} {d : D} {x : V} (m : Mem K S A G H μ) (r : Rp K A G d x) (ht : d.ty ≠ "") (ho : ∀ n, d = .own n → ∃ l, μ[n]? = some (.lst l)) : TyX K H x (.type d.ty) := by
  cases r with
  | @own n a hA =>
    obtain ⟨l, hl⟩ := ho n rfl
    obtain ⟨g, xs, hx, r⟩ := m.cel n a _ hA hl
    exact .base (.lst hx)
  | v x =>
    cases x with
    | non => exact .base .non
    | bl b => exact .base (.bl b)
    | int i => exact .base (.int i)
    | str s => exact .base (.str s)
    | flt s => exact .base (.flt s)
    | byt s => exact .byt s
    | ref a => exact absurd rfl ht
    | ty n => exact absurd rfl ht
  | lst h r => exact .base (.lst (m.ex _ _ h))
  | rd h r => exact tyX_lst (ex_l m.ex h)
  | tup h r => exact tyX_tup (ex_t m.ex h.sq)
  | dic n h r => exact .base (.dK (m.ex _ _ h))
  | exc h1 h2 r => exact absurd rfl ht
/-- no handle by itself -/
def D.no : D → Bool
  | .own _ => false
  | _ => true
theorem cc_isT {d : D} {n : String} {b : Bool} (hb : kitB d.ty n = some b) (ht : d.ty ≠ "") (hn : d.no = true) (k : C (.bl b) μ) : CC K S (rIsiU K) [d, .v (.ty n)] μ C := fun A G H vs m r1 Q q => by
  cases r1 with
  | cons r1 rn =>
    cases rn with
    | cons r2 rn =>
      cases rn
      have e2 := r2.vOf
      subst e2
      exact .inl ⟨_, _, _, _, b, rfl, .ty n, r1.tyX m ht (fun n e => by rw [e] at hn; cases hn), kit_ty hb, q _ _ A G H μ m Nw.refl (.v _) k⟩
theorem cc_isC {d : D} {c : Addr} {b : Bool} (hb : PySem.W.kitOne K (.type d.ty) (.ref c) = some b) (ht : d.ty ≠ "") (hn : d.no = true) (k : C (.bl b) μ) : CC K S (rIsiU K) [d, .v (.ref c)] μ C := fun A G H vs m r1 Q q => by
  cases r1 with
  | cons r1 rn =>
    cases rn with
    | cons r2 rn =>
      cases rn
      have e2 := r2.vOf
      subst e2
      exact .inl ⟨_, _, _, _, b, rfl, .own c, r1.tyX m ht (fun n e => by rw [e] at hn; cases hn), hb, q _ _ A G H μ m Nw.refl (.v _) k⟩
theorem cc_isX {c e fI : Addr} {d : D} {b : Bool} (T : ErrC K c fI) (hb : PySem.W.kitOne K (.ref c) (.ref e) = some b) (k : C (.bl b) μ) : CC K S (rIsiU K) [.exc c d, .v (.ref e)] μ C := fun A G H vs m r1 Q q => by
  cases r1 with
  | cons r1 rn =>
    cases rn with
    | cons r2 rn =>
      cases rn
      have e2 := r2.vOf
      subst e2
      cases r1 with
      | exc h1 h2 r => exact .inr (.inr (.inl ⟨_, c, _, fI, _, _, _, b, rfl, .own e, T, m.ex _ _ h1, m.ex _ _ h2, hb, q _ _ A G H μ m Nw.refl (.v _) k⟩))
theorem cc_isXT {c fI : Addr} {d : D} {b : Bool} {n : String} (T : ErrC K c fI) (hb : PySem.W.kitOne K (.ref c) (.type n) = some b) (k : C (.bl b) μ) : CC K S (rIsiU K) [.exc c d, .v (.ty n)] μ C := fun A G H vs m r1 Q q => by
  cases r1 with
  | cons r1 rn =>
    cases rn with
    | cons r2 rn =>
      cases rn
      have e2 := r2.vOf
      subst e2
      cases r1 with
      | exc h1 h2 r => exact .inr (.inr (.inl ⟨_, c, _, fI, _, _, _, b, rfl, .ty n, T, m.ex _ _ h1, m.ex _ _ h2, hb, q _ _ A G H μ m Nw.refl (.v _) k⟩))
def kitBs (t : String) : List String → Option Bool
  | [] => some false
  | n :: ns => match kitB t n with
    | some true => some true
    | some false => kitBs t ns
    | none => none
theorem kitAny_of {t : String} : ∀ {ns : List String} {b : Bool}, kitBs t ns = some b → PySem.W.kitAny K (.type t) (ns.map Value.type) = some b
  | [], _, h => by cases h; exact kitAny_nil
  | n :: ns, b, h => by
    unfold kitBs at h
    cases q : kitB t n with
    | none => rw [q] at h; cases h
    | some c =>
      rw [q] at h
      cases c with
      | true =>
        cases h
        exact kitAny_cons (r := true) (kit_ty q) (fun z => Bool.noConfusion z) (fun _ => rfl)
      | false => exact kitAny_cons (kit_ty q) (fun _ => kitAny_of h) (fun z => Bool.noConfusion z)
theorem tys_paired : ∀ ns : List String, Paired ClsV (ns.map V.ty) (ns.map Value.type)
  | [] => .nil
  | n :: ns => .cons (.ty n) (tys_paired ns)
/-- isinstance(x, (int, str, ..)), the tuple made on the way -/
theorem cc_isTs {d : D} {ns : List String} {b : Bool} (hb : kitBs d.ty ns = some b) (ht : d.ty ≠ "") (hn : d.no = true) (k : C (.bl b) μ) : CC K S (rIsiU K) [d, .tup (ns.map fun n => .v (.ty n))] μ C := fun A G H vs m r1 Q q => by
  cases r1 with
  | cons r1 rn =>
    cases rn with
    | cons r2 rn =>
      cases rn
      have hx := r1.tyX m ht (fun n e => by rw [e] at hn; cases hn)
      cases r2 with
      | tup h r =>
        have e : (ns.map fun n => D.v (.ty n)) = (ns.map V.ty).map D.v := by rw [List.map_map]; rfl
        rw [e] at r
        have e2 := RpL.of_vals r
        subst e2
        rcases h with h | ⟨o, its, n, h, hc, hd, hz, hv⟩
        · exact .inr (.inl ⟨_, _, _, _, _, b, rfl, m.ex _ _ h, tys_paired ns, hx, kitAny_of hb, q _ _ A G H μ m Nw.refl (.v _) k⟩)
        · obtain ⟨oc, od, dt, sl⟩ := o
          dsimp only at hc hd
          subst hc hd
          have e3 := ClsV.all (tys_paired ns) hv
          refine .inr (.inr (.inr ⟨_, _, od, ns.map Value.type, n, sl, _, b, rfl, ?_, hx, kitAny_of hb, q _ _ A G H μ m Nw.refl (.v _) k⟩))
          rw [h, ← e3]
end
end PA

set_option Elab.async false
set_option linter.all false
set_option maxRecDepth 100000
set_option maxHeartbeats 2000000
/-! PbMeth: methods of the built-ins, over data. -/
namespace PA
open PySem L2
section
variable {K : PySem.W.Frag} {S : Bs} {δ : Sl} {μ : List Cell} {ta tb te : TE} {ts : TA} {C : D → List Cell → Prop}
/-- whose method it is -/
inductive TyM (μ : List Cell) : String → D → Prop
  | str (s : Str) : TyM μ "str" (.str s)
  | int (i : Int) : TyM μ "int" (.int i)
  | lst {d : D} {l : List D} (h : LstD μ d l) : TyM μ "list" d
  | dic (ks : List Key) (l : List D) : TyM μ "dict" (.dic ks l)
theorem TyM.at' {T : String} {d : D} {A : List Addr} {G H : Hp} {x : V} (t : TyM μ T d) (m : Mem K S A G H μ) (r : Rp K A G d x) : tyV K T x H := by
  cases t with
  | str s => rw [r.vOf]; rfl
  | int i => rw [r.vOf]; rfl
  | lst h =>
    obtain ⟨a, xs, e, hs, _⟩ := h.at' m r
    subst e
    exact .inl ⟨rfl, xs, hs⟩
  | dic ks l =>
    cases r with
    | dic n h r => exact .inr (.inr (.inl ⟨rfl, .inl ⟨_, m.ex _ _ h⟩⟩))
theorem ee_bm {T : String} {r : V → List V → Hp → VK → Prop} (h : EE K S te δ μ fun x μ1 => TyM μ1 T x ∧ EA K S ts δ μ1 fun ds μ2 => MM K S r x ds μ2 C) : EE K S (tBM K T r te ts) δ μ C := fun A G H σ a Q q =>
  h A G H σ a _ fun v x A1 G1 H1 μ1 m1 n1 r1 ⟨t, h1⟩ => ⟨t.at' m1 r1, h1 A1 G1 H1 σ ⟨m1, n1.en a.env⟩ _ fun vs ds A2 G2 H2 μ2 m2 n2 r2 h2 =>
    h2 A2 G2 H2 v vs m2 (n2.rp r1) r2 Q fun z d A3 G3 H3 μ3 m3 n3 r3 c => q z d A3 G3 H3 μ3 m3 ((n1.trans n2).trans n3) r3 c⟩
theorem ee_bm0 {T : String} {r : V → List V → Hp → VK → Prop} (h : EE K S te δ μ fun x μ1 => TyM μ1 T x ∧ MM K S r x [] μ1 C) : EE K S (tBM0 K T r te) δ μ C := fun A G H σ a Q q =>
  h A G H σ a _ fun v x A1 G1 H1 μ1 m1 n1 r1 ⟨t, h1⟩ => ⟨t.at' m1 r1, h1 A1 G1 H1 v [] m1 r1 .nil Q fun z d A3 G3 H3 μ3 m3 n3 r3 c => q z d A3 G3 H3 μ3 m3 (n1.trans n3) r3 c⟩
theorem mm_append {k : Nat} {l : List D} {y : D} (hc : μ[k]? = some (.lst l)) (hz : l.length < 10000000) (c : C .non (μ.set k (.lst (l ++ [y])))) : MM K S rAppend (.own k) [y] μ C := fun A G H u vs m r1 r2 Q q => by
  cases r2 with
  | cons ry rn =>
    cases rn
    cases r1 with
    | own hA =>
      obtain ⟨g, xs, hx, r⟩ := m.cel k _ _ hA hc
      exact ⟨_, xs, _, rfl, rfl, hx, smalr (by rw [← r.len]; exact hz), q _ _ A G _ _ (m.wrote hA hc (r.append (.cons ry .nil))) Nw.refl (.v _) c⟩
theorem mm_extend {k : Nat} {l m' : List D} (hc : μ[k]? = some (.lst l)) (hz : l.length + m'.length ≤ 10000000) (c : C .non (μ.set k (.lst (l ++ m')))) : MM K S rExtend (.own k) [.lst m'] μ C := fun A G H u vs m r1 r2 Q q => by
  cases r2 with
  | cons ry rn =>
    cases rn
    cases r1 with
    | own hA =>
      obtain ⟨g, xs, hx, r⟩ := m.cel k _ _ hA hc
      cases ry with
      | lst h2 s2 => exact ⟨_, _, xs, _, rfl, rfl, hx, m.ex _ _ h2, small (by rw [← r.len, ← s2.len]; exact hz), q _ _ A G _ _ (m.wrote hA hc (r.append s2)) Nw.refl (.v _) c⟩
/-- s.m(t), s.m() of texts -/
theorem ee_m1 {r : V → List V → Hp → VK → Prop} (h : EE K S te δ μ fun x μ1 => ∃ s, x = .str s ∧ EE K S tb δ μ1 fun y μ2 => MM K S r (.str s) [y] μ2 C) : EE K S (tM1 r te tb) δ μ C := fun A G H σ a Q q =>
  h A G H σ a _ fun v x A1 G1 H1 μ1 m1 n1 r1 ⟨s, e, h1⟩ => by
    subst e
    have ev := r1.vOf
    subst ev
    exact ⟨⟨s, rfl⟩, h1 A1 G1 H1 σ ⟨m1, n1.en a.env⟩ _ fun w y A2 G2 H2 μ2 m2 n2 r2 h2 =>
      h2 A2 G2 H2 _ [w] m2 (.v _) (.cons r2 .nil) Q fun z d A3 G3 H3 μ3 m3 n3 r3 c => q z d A3 G3 H3 μ3 m3 ((n1.trans n2).trans n3) r3 c⟩
def rJoin (K : PySem.W.Frag) : V → List V → Hp → VK → Prop := fun x xs H Q => ∃ a p, ∃ ys : List Str, x = .str a ∧ xs = [.ref p] ∧ (SqL K H p (ys.map V.str) ∨ SqT K H p (ys.map V.str)) ∧ (ys.map (·.length)).sum + ys.length * a.length ≤ 16777216 ∧ Q (.str (Txt.join a ys)) H
theorem mm_join {a : Str} {d : D} {ys : List Str} (h : SeqD μ d (ys.map D.str)) (hz : (ys.map (·.length)).sum + ys.length * a.length ≤ 16777216) (c : C (.str (Txt.join a ys)) μ) : MM K S (rJoin K) (.str a) [d] μ C := fun A G H u vs m r1 r2 Q q => by
  cases r2 with
  | cons ry rn =>
    cases rn
    have ev := r1.vOf
    subst ev
    obtain ⟨p, xs, e, hs, r⟩ := h.at' m ry
    subst e
    have e2 := strs_rel r
    subst e2
    exact ⟨a, p, ys, rfl, rfl, hs, hz, q _ _ A G H μ m Nw.refl (.v _) c⟩
theorem mm_vals {r : V → List V → Hp → VK → Prop} {x y z : V} (h : ∀ H (Q : VK), Q z H → r x [y] H Q) (c : C (.v z) μ) : MM K S r (.v x) [.v y] μ C := fun A G H u vs m r1 r2 Q q => by
  cases r2 with
  | cons ry rn =>
    cases rn
    have e1 := r1.vOf
    have e2 := ry.vOf
    subst e1 e2
    exact h H Q (q _ _ A G H μ m Nw.refl (.v _) c)
def rSIndex : V → List V → Hp → VK → Prop := fun x xs H Q => ∃ a b i rest, x = .str a ∧ xs = [.str b] ∧ Builtin.Str.occurrences a b 0 a.length 1 = i :: rest ∧ Q (.int (i : Nat)) H
theorem mm_sindex {a b : Str} {i : Nat} {rest : List Nat} (h : Builtin.Str.occurrences a b 0 a.length 1 = i :: rest) (c : C (.int (i : Int)) μ) : MM K S rSIndex (.str a) [.str b] μ C := mm_vals (fun _ _ q => ⟨a, b, i, rest, rfl, rfl, h, q⟩) c
theorem ee_bits (h : EE K S te δ μ fun x μ1 => ∃ i, x = .int i ∧ C (.int (Builtin.Int.intBits i : Nat)) μ1) : EE K S (tBits te) δ μ C := fun A G H σ a Q q =>
  h A G H σ a _ fun v x A1 G1 H1 μ1 m1 n1 r1 ⟨i, e, c⟩ => by
    subst e
    have ev := r1.vOf
    subst ev
    exact ⟨i, rfl, q _ _ A1 G1 H1 μ1 m1 n1 (.v _) c⟩
end
end PA

set_option Elab.async false
set_option linter.all false
set_option maxRecDepth 100000
set_option maxHeartbeats 2000000
/-! PbTerm: the rules that gen.py prints: calls of the text's own defs by what stands of them, raise, try. -/
namespace PA
open PySem L2
theorem hu64 {k : Nat} {A : Around} (r : Room k A) : A.units + 64 < cLine := by
  have := r.un
  omega
/-- a def of the text that keeps a promise -/
structure CalX (P : Program) (w : World) (K : PySem.W.Frag) (mg : Str → Option Value) (base : Heap) (k : Nat) (x : Str) (ps : List Str) (sp : Sp) : Prop where
  ex : ∃ (f : Addr) (fd : FuncData), FnOk P w K mg base (L2.CX P w) k f fd ps sp ∧ mg x = some (.ref f) ∧ PySem.W.keepIn K (.ref f) = true ∧ Binds K fd ps []
/-- the values by place out of the keywords' -/
def permL {α : Type} (π : List Nat) (ws : List α) : List α := π.filterMap fun i => ws[i]?
theorem permL_vals {zs : List V} {ws : List Value} (r : Vals zs ws) : ∀ π : List Nat, Vals (permL π zs) (permL π ws)
  | [] => .nil
  | i :: π => by
    unfold permL
    rw [List.filterMap_cons, List.filterMap_cons]
    cases e : zs[i]? with
    | none =>
      rw [r.none_of e]
      exact permL_vals r π
    | some z =>
      obtain ⟨u, hu, ru⟩ := r.get e
      rw [hu]
      exact .cons ru (permL_vals r π)
def KBd (K : PySem.W.Frag) (fd : FuncData) (ps ks : List Str) (π : List Nat) : Prop :=
  ∀ (s : Shared) (ws : List Value), ws.length = ks.length → BindsTo s fd ⟨[], ks.zip ws⟩ (ps.zip (permL π ws))
/-- .. called by its parameters' names alone -/
structure CalK (P : Program) (w : World) (K : PySem.W.Frag) (mg : Str → Option Value) (base : Heap) (k : Nat) (x : Str) (ps ks : List Str) (π : List Nat) (sp : Sp) : Prop where
  ex : ∃ (f : Addr) (fd : FuncData), FnOk P w K mg base (L2.CX P w) k f fd ps sp ∧ mg x = some (.ref f) ∧ PySem.W.keepIn K (.ref f) = true ∧ KBd K fd ps ks π
def tCallP (sp : Sp) (π : List Nat) (n : Nat) (E : XK) (tk : TA) : TE := fun σ H Q => tk σ H fun zs H1 => zs.length = n ∧ sp (permL π zs) H1 Q E
section
variable {X : Cx} {k j : Nat} {x : Str} {ps ks : List Str} {π : List Nat} {sp : Sp} {E : XK} {p pos : Pos} {e : Expr} {es : List Expr} {t tk : TA} {kws : List Keyword} {W : WX}
theorem pe_c (c : CalX X.prog X.w X.K X.mg X.base k x ps sp) (hr : Room j X.A) (hj : k ≤ j) (hg : Gl X x) (hx : Passes (L2.CX X.prog X.w) X E) (ha : PA X (e :: es) t) (hdb : (x == ("__debug__" : Str)) = false := by decide)
    (he : starEach (e :: es) X.env = (false, eval e X.env) :: starEach es X.env := by rfl) (hpl : (backTo pos (starEach es X.env)).any (·.1) = false := by rfl) : PE X (.Call (.Name x p) (e :: es) [] pos) (tCall sp [] E t) := by
  obtain ⟨f, fd, F, hm, hk, hb⟩ := c.ex
  exact pe_call F (hr.mono hj) hg hm hk hb .nil hx ha hdb he hpl
theorem pe_c0 (c : CalX X.prog X.w X.K X.mg X.base k x ps sp) (hr : Room j X.A) (hj : k ≤ j) (hg : Gl X x) (hx : Passes (L2.CX X.prog X.w) X E) (hdb : (x == ("__debug__" : Str)) = false := by decide) : PE X (.Call (.Name x p) [] [] pos) (tCall sp [] E tNil) := by
  obtain ⟨f, fd, F, hm, hk, hb⟩ := c.ex
  exact pe_call0 F (hr.mono hj) hg hm hk hb .nil hx hdb
theorem pe_cS (c : CalX X.prog X.w X.K X.mg X.base k x ps sp) (hr : Room j X.A) (hj : k ≤ j) (hg : Gl X x) (tk : Takes X W) (ha : PA X (e :: es) t) (hdb : (x == ("__debug__" : Str)) = false := by decide)
    (he : starEach (e :: es) X.env = (false, eval e X.env) :: starEach es X.env := by rfl) (hpl : (backTo pos (starEach es X.env)).any (·.1) = false := by rfl) : PE X (.Call (.Name x p) (e :: es) [] pos) (tCallS sp (WE W) t) := by
  obtain ⟨f, fd, F, hm, hk, hb⟩ := c.ex
  exact pe_callS F (hr.mono hj) hg hm hk hb (fun σ => passAt tk σ) ha hdb he hpl
theorem pe_ck0 (c : CalK X.prog X.w X.K X.mg X.base k x ps ks π sp) (hr : Room j X.A) (hj : k ≤ j) (hg : Gl X x) (hx : Passes (L2.CX X.prog X.w) X E) (hkw : PK X kws tk) (hall : (backToKw pos (keywordEach kws X.env)).all (·.1.isSome) = true := by rfl)
    (hks : (backToKw pos (keywordEach kws X.env)).filterMap (·.1) = ks := by rfl) (hdb : (x == ("__debug__" : Str)) = false := by decide)
    (hpl : ((backTo pos (starEach [] X.env)).any (·.1) || (backToKw pos (keywordEach kws X.env)).any (·.1.isNone)) = false := by rfl) : PE X (.Call (.Name x p) [] kws pos) (tCallP sp π ks.length E tk) := by
  obtain ⟨f, fd, F, hm, hk, hb⟩ := c.ex
  refine ⟨fun pins s σ H Q I h => ?_⟩
  refine wpAny_Call_Name_kw (ld_glob I hg hm ?_ hdb)
  refine PySem.W.callWith_KW0 (h₀ := X.base) I.ok.mod.kin hk hall ?_ hpl
  refine thn (hkw.run pos pins s σ H _ I h) fun ws s2 ⟨zs, H2, I2, rz, hl, q2⟩ => ⟨I2.kIn, ?_⟩
  rw [hks]
  have r2 := permL_vals rz π
  refine wpAny_call (codeAny_mono (F.run X.A X.stack s2 H2 ⟨[] ++ [], ks.zip ws⟩ (permL π ws) (permL π zs) Q E (hr.mono hj) I2.env0 (hb s2 ws (by rw [← rz.length]; exact hl)) r2 q2) fun r s' hq => ?_)
  cases r with
  | error er => exact hx pins σ H2 s2 er s' I2 hq
  | ok fl =>
    cases fl with
    | ret u => exact I2.after hq
    | next => exact False.elim hq
    | brk => exact False.elim hq
    | cont => exact False.elim hq
/-- a def that a slot holds -/
structure HeldX (P : Program) (w : World) (K : PySem.W.Frag) (mg : Str → Option Value) (base : Heap) (k : Nat) (f : Addr) (sp : Sp) : Prop where
  ex : ∃ (n : Nat) (fd : FuncData) (ps : List Str), n ≤ k ∧ FnOk P w K mg base (L2.CX P w) n f fd ps sp ∧ PySem.W.keepIn K (.ref f) = true ∧ Binds K fd ps []
def tCallA' (i : Nat) (Sg : Addr → Sp → Prop) (E : L2.St → XK) (t : TA) : TE := fun σ H Q => ∃ f sp, σ[i]? = some (some (.ref f)) ∧ Sg f sp ∧ t σ H fun vs H1 => sp vs H1 Q (E σ)
theorem pe_cL {i : Nat} {Sg : Addr → Sp → Prop} (c : ∀ f sp, Sg f sp → HeldX X.prog X.w X.K X.mg X.base k f sp) (hr : Room j X.A) (hj : k ≤ j) (hN : X.N[i]? = some x) (hv : Vis X.env.scope x) (tk : Takes X W) (ha : PA X (e :: es) t) (hdb : (x == ("__debug__" : Str)) = false := by decide)
    (hcd : (x == ("__classdict__" : Str)) = false := by decide) (he : starEach (e :: es) X.env = (false, eval e X.env) :: starEach es X.env := by rfl) (hpl : (backTo pos (starEach es X.env)).any (·.1) = false := by rfl) :
    PE X (.Call (.Name x p) (e :: es) [] pos) (tCallA' i Sg (WE W) t) := by
  refine ⟨fun pins s σ H Q I h => ?_⟩
  obtain ⟨f, sp, hs, hS, ht⟩ := h
  obtain ⟨n, fd, ps, hn, F, hk, hb⟩ := (c f sp hS).ex
  refine wpAny_Call_Name_kw (thn ((pe_var (pos := p) hN hv hdb hcd).run pins s σ H (fun v H1 => v = .ref f ∧ H1 = H) I ⟨.ref f, hs, rfl, rfl⟩) fun u s1 ⟨v, H1, I1, r1, q1⟩ => ?_)
  obtain ⟨rfl, rfl⟩ := q1
  cases r1
  refine PySem.W.callWith_K (h₀ := X.base) I.ok.mod.kin hk (thn (ha.run pos pins s1 σ _ _ I1 ht) fun us s2 ⟨vs, H2, I2, r, q⟩ => ⟨I2.kIn, ?_⟩) he hpl
  exact run_fnS F (hr.mono (Nat.le_trans hn hj)) hb (fun pins H s e s' I c => passAt tk σ pins H s e s' I c) I2 r q
/-- an own error class with its __init__ -/
structure ErrK (P : Program) (w : World) (K : PySem.W.Frag) (mg : Str → Option Value) (base : Heap) (x : Str) (c : Addr) : Prop where
  ex : ∃ (fI : Addr) (fd : FuncData), ErrC K c fI ∧ FnOk P w K mg base (L2.CX P w) 1 fI fd ["self", "value"] (spErr c) ∧ Binds K fd ["self", "value"] []
  g : mg x = some (.ref c)
theorem ErrK.c {P : Program} {w : World} {K : PySem.W.Frag} {mg : Str → Option Value} {base : Heap} {x : Str} {c : Addr} (k : ErrK P w K mg base x c) : ∃ fI, ErrC K c fI := let ⟨fI, _, h, _⟩ := k.ex; ⟨fI, h⟩
theorem ps_raiseC {c : Addr} {pos2 : Pos} (hc : X.calm = true) (k : ErrK X.prog X.w X.K X.mg X.base x c) (hr : Room j X.A) (hj : 2 ≤ j) (tk : Takes X (fun cls d _ H => E cls d H)) (hg : Gl X x) (ha : PA X (e :: es) t) (hdb : (x == ("__debug__" : Str)) = false := by decide)
    (he : starEach (e :: es) X.env = (false, eval e X.env) :: starEach es X.env := by rfl) (hpl : (backTo pos (starEach es X.env)).any (·.1) = false := by rfl) : PS X (.Raise (some (.Call (.Name x p) (e :: es) [] pos)) none pos2) (tRaiseE c E t) := by
  obtain ⟨fI, fd, T, F, hb⟩ := k.ex
  exact ps_raiseE hc T F (hr.mono hj) hb passL tk hg k.g ha hdb he hpl
end
section
variable {X : Cx} {c : Addr} {x n : Str} {i : Nat} {body suite : List Stmt} {b₀ : Stmt} {np pos pos' : Pos} {tb : WX → TS} {ts : TS} {Wout : WX}
theorem ps_tryC (hm : X.mg x = some (.ref c)) (hN : X.N.Nodup) (hg : Gl X x) (hs : X.stack = X.env :: X.outer) (hf : X.env.frame = some X.env.locals) (hex : X.ex = []) (hi : X.N[i]? = some n) (hln : X.env.kindOf n = some .local) (tk : Takes X Wout)
    (hb : ∀ (W : WX) (pn : List (Addr × Obj)) (xe : Value → Shared → Prop), Takes (X.tr pn xe) W → PassesOwn (model X.prog X.w) X.A X.env xe → PSs (X.tr pn xe) body (tb W))
    (hsu : ∀ (a : Addr) (pn : List (Addr × Obj)), PSs (X.suite a pn) (b₀ :: suite) ts) (hdb : (x == ("__debug__" : Str)) = false := by decide) :
    PS X (.Try body [.ExceptHandler (some (.Name x np)) (some n) (b₀ :: suite) pos'] [] [] pos) (fun D σ H => tb (wHold X.K (.ref c) i ts Wout D) D σ H) :=
  ps_try_hold hs hf hex hN hi hln ⟨hg, hdb, .inl hm⟩ tk hb hsu
/-- products: of ints, of a text, of a list -/
def rTimes : R2 := fun x y H Q => rI CMulW (fun i j => .int (i * j)) x y H Q ∨ (rRep x y H Q ∨ (fun x y H (Q : VK) => ∃ (s : Str) (i : Int), x = .str s ∧ y = .int i ∧ MulOk s i ∧ Q (.str (Txt.mul s i)) H) x y H Q)
theorem op_strMul : OpR X (binaryOp .Mult) (fun x y H (Q : VK) => ∃ (s : Str) (i : Int), x = .str s ∧ y = .int i ∧ MulOk s i ∧ Q (.str (Txt.mul s i)) H) := by
  intro pins sh σ H x y u w Q I rx ry h
  obtain ⟨s, i, e1, e2, ok, q⟩ := h
  subst e1 e2
  obtain ⟨t, e⟩ := rx
  obtain ⟨t2, e2⟩ := ry
  subst e e2
  exact SB.mul ok fun t' k => ⟨.str (Txt.mul s i), H, I.tok _, ⟨_, rfl⟩, q⟩
theorem op_timesU : OpR X (binaryOp .Mult) rTimes := OpR.or op_mulW (OpR.or op_rep op_strMul)
end
end PA

set_option Elab.async false
set_option linter.all false
set_option maxRecDepth 100000
set_option maxHeartbeats 2000000
/-! PbStep: calls in short, isinstance of plain data, and the word that takes all plain steps. -/
namespace PA
open PySem L2
/-- plain data at the top -/
def D.pl : D → Bool
  | .v .non => true
  | .v (.bl _) => true
  | .v (.int _) => true
  | .v (.str _) => true
  | .lst _ => true
  | .tup _ => true
  | .dic _ _ => true
  | _ => false
/-- isinstance(d, n) -/
def D.is (d : D) (n : String) : Bool := d.ty == n || (n == "int" && d.ty == "bool")
def isTy (n : String) : Bool := n == "int" || n == "bool" || n == "str" || n == "list" || n == "tuple" || n == "dict"
theorem pl_no {d : D} (h : d.pl = true) : d.no = true := by cases d <;> first | rfl | cases h
theorem kit_all : ∀ t ∈ ["NoneType", "bool", "int", "str", "list", "tuple", "dict"], ∀ n ∈ ["int", "bool", "str", "list", "tuple", "dict"], kitB t n = some (t == n || (n == "int" && t == "bool")) := by decide +kernel
theorem pl_ty {d : D} (h : d.pl = true) : d.ty ∈ ["NoneType", "bool", "int", "str", "list", "tuple", "dict"] := by
  cases d with
  | v x => cases x <;> first | (cases h; done) | (simp [D.ty])
  | lst l => simp [D.ty]
  | rd l => cases h
  | tup l => simp [D.ty]
  | dic ks l => simp [D.ty]
  | exc c d => cases h
  | own k => cases h
theorem isTy_mem {n : String} (h : isTy n = true) : n ∈ ["int", "bool", "str", "list", "tuple", "dict"] := by
  unfold isTy at h
  simp only [Bool.or_eq_true, beq_iff_eq] at h
  simp only [List.mem_cons, List.not_mem_nil, or_false]
  rcases h with ((((h | h) | h) | h) | h) | h <;> simp [h]
theorem pl_kit {d : D} {n : String} (h : d.pl = true) (hn : isTy n = true) : kitB d.ty n = some (d.is n) := kit_all _ (pl_ty h) _ (isTy_mem hn)
theorem pl_ne {d : D} (h : d.pl = true) : d.ty ≠ "" := fun e => by
  have q := pl_ty h
  rw [e] at q
  revert q
  decide
theorem pl_kits {d : D} (h : d.pl = true) : ∀ {ns : List String}, ns.all isTy = true → kitBs d.ty ns = some (ns.any d.is)
  | [], _ => rfl
  | n :: ns, hn => by
    rw [List.all_cons, Bool.and_eq_true] at hn
    unfold kitBs
    rw [pl_kit h hn.1, List.any_cons]
    cases q : d.is n with
    | true => rfl
    | false => exact pl_kits h hn.2
section
variable {K : PySem.W.Frag} {S : Bs} {δ : Sl} {μ : List Cell} {ta tk : TA} {te : TE} {C : D → List Cell → Prop} {E : XK} {CE : Addr → D → List Cell → Prop} {T : Type}
theorem cc_isP {d : D} {n : String} (h : d.pl = true) (k : C (.bl (d.is n)) μ) (hn : isTy n = true := by rfl) : CC K S (rIsiU K) [d, .v (.ty n)] μ C := cc_isT (pl_kit h hn) (pl_ne h) (pl_no h) k
theorem cc_isP2 {d : D} {n m : String} (h : d.pl = true) (k : C (.bl ([n, m].any d.is)) μ) (hn : [n, m].all isTy = true := by rfl) : CC K S (rIsiU K) [d, .tup [.v (.ty n), .v (.ty m)]] μ C := cc_isTs (ns := [n, m]) (pl_kits h hn) (pl_ne h) (pl_no h) k
theorem cc_isP3 {d : D} {n m o : String} (h : d.pl = true) (k : C (.bl ([n, m, o].any d.is)) μ) (hn : [n, m, o].all isTy = true := by rfl) : CC K S (rIsiU K) [d, .tup [.v (.ty n), .v (.ty m), .v (.ty o)]] μ C := cc_isTs (ns := [n, m, o]) (pl_kits h hn) (pl_ne h) (pl_no h) k
/-- .. by the parameters' names -/
theorem ee_callP {arg : T → List D} {pre : T → Prop} {post : T → D → Prop} {exc : T → Addr → D → Prop} {π : List Nat} {n : Nat} (wi : Wi K S E CE)
    (h : EA K S tk δ μ fun ds μ1 => ds.length = n ∧ ∃ t : T, pre t ∧ permL π ds = arg t ∧ D.ltL 0 (arg t) = true ∧ (∀ d, post t d → d.lt 0 = true → C d μ1) ∧ ∀ c d, exc t c d → d.lt 0 = true → CE c d μ1) : EE K S (tCallP (ProP K arg pre post exc) π n E tk) δ μ C := fun A G H σ a Q q =>
  h A G H σ a _ fun vs ds A1 G1 H1 μ1 m1 n1 r1 ⟨hl, t, hp, ed, hcl, hc, hx⟩ => by
    have key : ∀ π : List Nat, RpL K A1 G1 (permL π ds) (permL π vs) := by
      intro π
      induction π with
      | nil => exact .nil
      | cons i π ih =>
        unfold permL
        rw [List.filterMap_cons, List.filterMap_cons]
        cases e : ds[i]? with
        | none =>
          have e2 : vs[i]? = none := by
            rw [List.getElem?_eq_none_iff] at e ⊢
            rw [← r1.len]
            exact e
          rw [e2]
          exact ih
        | some z =>
          obtain ⟨u, hu, ru⟩ := r1.get e
          rw [hu]
          exact .cons ru ih
    refine ⟨by rw [← r1.len]; exact hl, ?_⟩
    have rd : RpL K [] G1 (arg t) (permL π vs) := by
      have z := key π
      rw [ed] at z
      exact z.cl hcl
    refine ⟨t, [], G1, hp, mem00 m1, rd, fun v d B G' H' ν f r ⟨e0, c⟩ => ?_, fun c dx u d G' H' ν f f1 f2 f3 r c' => ?_⟩
    · subst e0
      obtain ⟨hB, mb⟩ := after0 m1 f
      subst hB
      have hd : d.lt 0 = true := r.scope
      exact q v d A1 G' H' μ1 mb (n1.trans (.of f.exG)) (r.cl hd) (hc _ c hd)
    · have e0 : ν = [] := List.length_eq_zero_iff.mp (by have z := f.len; simpa using z.symm)
      subst e0
      obtain ⟨_, mb⟩ := after0 (B := []) m1 f
      have hd : d.lt 0 = true := r.scope
      exact wi c dx u d A1 G' H' μ1 mb (m1.freeS f1).1 f2 f3 (r.cl hd) (hx c d c' hd)
theorem pset_list {X : Cx} : PSet X rSetL := set_list
theorem Less.all (δ : Sl) : Less δ (δ.map fun _ => none) := by
  induction δ with
  | nil => exact .nil
  | cons o δ ih => exact .drop ih
end
end PA

set_option Elab.async false
set_option linter.all false
set_option maxRecDepth 100000
set_option maxHeartbeats 2000000
/-! PbWalk: more rules of operators, in the form in which the walking word takes them. -/
namespace PA
open PySem L2
section
variable {K : PySem.W.Frag} {S : Bs} {δ : Sl} {μ : List Cell} {ta tb te : TE} {C : D → List Cell → Prop}
theorem oo_mul {i j : Int} (h : CMulW i j) (k : C (.int (i * j)) μ) : OO K S rTimes (.int i) (.int j) μ C := oo_same (fun _ _ q => .inl ⟨i, j, rfl, rfl, h, q⟩) k
theorem oo_mulS {s : Str} {j : Int} (h : MulOk s j) (k : C (.str (Txt.mul s j)) μ) : OO K S rTimes (.str s) (.int j) μ C := oo_same (fun _ _ q => .inr (.inr ⟨s, j, rfl, rfl, h, q⟩)) k
theorem oo_mod {i j : Int} (h : 0 < j) (k : C (.int (i % j)) μ) : OO K S (rI (fun _ j => 0 < j) fun i j => .int (i % j)) (.int i) (.int j) μ C := oo_I (g := fun i j => .int (i % j)) h k
theorem oo_div {i j : Int} (h : CDivW i j) (k : C (.int (i / j)) μ) : OO K S (rI CDivW fun i j => .int (i / j)) (.int i) (.int j) μ C := oo_I (g := fun i j => .int (i / j)) h k
theorem oo_pow {i j : Int} (h : CPow i j) (k : C (.int (i ^ j.toNat)) μ) : OO K S (rI CPow fun i j => .int (i ^ j.toNat)) (.int i) (.int j) μ C := oo_I (g := fun i j => .int (i ^ j.toNat)) h k
theorem uu_neg {i : Int} (k : C (.int (-i)) μ) : UU K S (rU fun i => .int (-i)) (.int i) μ C := fun A G H u m r1 Q q => by
  have e1 := r1.vOf
  subst e1
  exact ⟨i, rfl, q _ _ A G H μ m Nw.refl (.v _) k⟩
theorem oo_self {i : D} {r : R2} (h : OO K S r i i μ C) : OO K S r i i μ C := h
/-! list.count of flat values; sorted ints -/
def cntV (y : V) (ys : List V) : Nat := ys.countP fun z => eqV z y
def rCntF (K : PySem.W.Frag) : V → List V → Hp → VK → Prop := fun x xs H Q => ∃ (p : Addr) (ys : List V) (y : V), x = .ref p ∧ xs = [y] ∧ SqL K H p ys ∧ flatV y = true ∧ ys.all flatV = true ∧ Q (.int (cntV y ys : Nat)) H
theorem cnt_vals {y : V} : ∀ {ys : List V} {us : List Value}, Vals ys us → ys.all flatV = true → us.countP (eqU y) = cntV y ys
  | _, _, .nil, _ => rfl
  | z :: ys, u :: us, .cons r t, f => by
    rw [List.all_cons, Bool.and_eq_true] at f
    unfold cntV
    rw [List.countP_cons, List.countP_cons, eqU_of r f.1, cnt_vals t f.2]
    rfl
theorem mt_cntF {X : Cx} : MtR X "list.count" (rCntF X.K) := by
  intro pins s σ H x xs v us Q I rx rxs h
  obtain ⟨p, ys, y, rfl, rfl, hs, fy, fys, q⟩ := h
  cases rx
  obtain ⟨u, rfl, ru⟩ := rxs.one
  obtain ⟨its, rv, ⟨⟨cls, dd, data, sl⟩, n, ho, hc, hdn, hd⟩, hlen⟩ := I.list hs
  simp only at hc hd
  subst hc hd
  refine call_meets PySem.F.slot_list_count ⟨_, ho, rfl⟩ PySem.F.entry_list_count (PySem.F.args_list_count_2 _ _)
    (SeqAt.list_countAt p its.toArray n dd sl u (eqU y)) ⟨ho, fun u' hu' => mem_eqAt ru fy rv fys u' (by simpa using hu'), ?_⟩
  refine ⟨.int (cntV y ys : Nat), H, I.tok _, ⟨s.toks, ?_⟩, q⟩
  show Value.int ((its.toArray.toList.countP (eqU y) : Nat) : Int) s.toks = Value.int ((cntV y ys : Nat) : Int) s.toks
  rw [show its.toArray.toList.countP (eqU y) = cntV y ys from cnt_vals rv fys]
theorem lst_vals {A : List Addr} {G H : Hp} {d : D} {ys : List V} {x : V} (h : LstD μ d (ys.map .v)) (m : Mem K S A G H μ) (r : Rp K A G d x) : ∃ a, x = .ref a ∧ SqL K H a ys := by
  obtain ⟨a, xs, e, hs, rl⟩ := h.at' m r
  have e2 := RpL.of_vals rl
  subst e2
  exact ⟨a, e, hs⟩
theorem mm_count {d : D} {ys : List V} {y : V} (h : LstD μ d (ys.map .v)) (fy : flatV y = true) (fys : ys.all flatV = true) (c : C (.int (cntV y ys : Nat)) μ) : MM K S (rCntF K) d [.v y] μ C := fun A G H u vs m r1 r2 Q q => by
  cases r2 with
  | cons ry rn =>
    cases rn
    have e2 := ry.vOf
    subst e2
    obtain ⟨a, e, hs⟩ := lst_vals h m r1
    subst e
    exact ⟨a, ys, _, rfl, rfl, hs, fy, fys, q _ _ A G H μ m Nw.refl (.v _) c⟩
theorem mm_index {d : D} {ys : List V} {y z : V} {j : Nat} (h : LstD μ d (ys.map .v)) (fy : flatV y = true) (fys : ys.all flatV = true) (hj : ys[j]? = some z) (e : eqV z y = true) (hn : ∀ (m : Nat) (z' : V), m < j → ys[m]? = some z' → eqV z' y = false)
    (c : C (.int (j : Nat)) μ) : MM K S (rIndex K) d [.v y] μ C := fun A G H u vs m r1 r2 Q q => by
  cases r2 with
  | cons ry rn =>
    cases rn
    have e2 := ry.vOf
    subst e2
    obtain ⟨a, e0, hs⟩ := lst_vals h m r1
    subst e0
    exact ⟨a, ys, _, j, z, rfl, rfl, hs, fy, fys, hj, e, hn, q _ _ A G H μ m Nw.refl (.v _) c⟩
theorem cc_sorted {d : D} {ns : List Int} (h : LstD μ d (ns.map D.int)) (c : ∀ ns' : List Int, ns'.Perm ns → ns'.Pairwise (· ≤ ·) → C (.lst (ns'.map D.int)) μ) : CC K S (rSortedI K) [d] μ C := fun A G H vs m r1 Q q => by
  cases r1 with
  | cons r1 rn =>
    cases rn
    obtain ⟨a, xs, e, hs, r⟩ := h.at' m r1
    subst e
    have e2 := ints_rel r
    subst e2
    refine ⟨a, ns, rfl, hs, fun ns' p hp hs hn => ?_⟩
    have e3 : ns'.map D.int = (ns'.map V.int).map D.v := by rw [List.map_map]; rfl
    exact put_lst m hn (by rw [e3]; exact RpL.vals _) q (c ns' hp hs)
theorem ee_czP {T : Type} {tk : TA} {E : XK} {arg : T → List D} {pre : T → Prop} {post : T → D → Prop} {π : List Nat} {n : Nat}
    (h : EA K S tk δ μ fun ds μ1 => ds.length = n ∧ ∃ t : T, pre t ∧ permL π ds = arg t ∧ D.ltL 0 (arg t) = true ∧ ∀ d, post t d → C d μ1) : EE K S (tCallP (ProP K arg pre post (fun _ _ _ => False)) π n E tk) δ μ C :=
  ee_callP (CE := fun _ _ _ => False) Wi.none fun A G H σ a Q q => h A G H σ a Q fun vs ds A1 G1 H1 μ1 m n r ⟨hl, t, hp, e, hn, hc⟩ => q vs ds A1 G1 H1 μ1 m n r ⟨hl, t, hp, e, hn, fun d hd _ => hc d hd, fun _ _ z _ => z⟩
end
end PA

set_option Elab.async false
set_option linter.all false
set_option maxRecDepth 100000
set_option maxHeartbeats 2000000
/-! PbMore: defaults, lists taken apart, plain data by their kinds. -/
namespace PA
open PySem L2
/-- a def that is called with its last parameters left to their defaults -/
structure CalD (P : Program) (w : World) (K : PySem.W.Frag) (mg : Str → Option Value) (base : Heap) (k : Nat) (x : Str) (ps : List Str) (dds : List V) (sp : Sp) : Prop where
  ex : ∃ (f : Addr) (fd : FuncData) (ds : List Value), FnOk P w K mg base (L2.CX P w) k f fd ps sp ∧ mg x = some (.ref f) ∧ PySem.W.keepIn K (.ref f) = true ∧ Vals dds ds ∧ Binds K fd ps ds
section
variable {X : Cx} {k j : Nat} {x : Str} {ps : List Str} {dds : List V} {sp : Sp} {E : XK} {p pos : Pos} {e : Expr} {es : List Expr} {t : TA}
theorem pe_cD (c : CalD X.prog X.w X.K X.mg X.base k x ps dds sp) (hr : Room j X.A) (hj : k ≤ j) (hg : Gl X x) (hx : Passes (L2.CX X.prog X.w) X E) (ha : PA X (e :: es) t) (hdb : (x == ("__debug__" : Str)) = false := by decide)
    (he : starEach (e :: es) X.env = (false, eval e X.env) :: starEach es X.env := by rfl) (hpl : (backTo pos (starEach es X.env)).any (·.1) = false := by rfl) : PE X (.Call (.Name x p) (e :: es) [] pos) (tCall sp dds E t) := by
  obtain ⟨f, fd, ds, F, hm, hk, hv, hb⟩ := c.ex
  exact pe_call F (hr.mono hj) hg hm hk hb hv hx ha hdb he hpl
end
section
variable {K : PySem.W.Frag} {S : Bs} {δ : Sl} {μ : List Cell} {ta tb te : TE} {C : D → List Cell → Prop}
theorem ee_czD {T : Type} {ta : TA} {E : XK} {arg : T → List D} {pre : T → Prop} {post : T → D → Prop} {dds : List V}
    (h : EA K S ta δ μ fun ds μ1 => ∃ t : T, pre t ∧ ds ++ dds.map D.v = arg t ∧ D.ltL 0 ds = true ∧ ∀ d, post t d → C d μ1) : EE K S (tCall (ProP K arg pre post (fun _ _ _ => False)) dds E ta) δ μ C :=
  ee_c0 (CE := fun _ _ _ => False) Wi.none fun A G H σ a Q q => h A G H σ a Q fun vs ds A1 G1 H1 μ1 m n r ⟨t, hp, e, hn, hc⟩ => q vs ds A1 G1 H1 μ1 m n r ⟨t, hp, e, hn, fun d hd _ => hc d hd, fun _ _ z _ => z⟩
theorem ge_list2 {i j : Nat} {x y : D} {C : Sl → List Cell → Prop} (k : C ((δ.set i (some x)).set j (some y)) μ) : GE K S (gLst K 2 (gCons (gName i) (gCons (gName j) gNil))) (.lst [x, y]) δ μ C := fun A G H σ v a r Q q => by
  cases r with
  | lst hs rl =>
    cases rl with
    | cons rx r =>
      cases r with
      | cons ry r =>
        cases r
        exact ⟨_, _, rfl, lst_sq (a.m.ex _ _ hs), rfl, _, _, rfl, _, _, rfl, rfl, q A G H _ _ μ ⟨a.m, En.set ry j (En.set rx i a.env)⟩ Nw.refl k⟩
end
/-- all([.. for k in d]), d an empty dict of ours -/
theorem ee_lockAll0 {i : Nat} {g : TG} {t : TT} {te : TE} {vs : List Nat} {K : PySem.W.Frag} {S : Bs} {δ : Sl} {μ : List Cell} {C : D → List Cell → Prop} (h : δ[i]? = some (some (.dic [] []))) (c : C (.bl true) μ) :
    EE K S (tLockE (tCB (rAll K) (tCons (tLc (iKeys (tVar i)) g t te vs) tNil))) δ μ C := fun A G H σ a Q q => by
  obtain ⟨v, h1, h2⟩ := a.env.get h
  cases h2 with
  | @dic _ _ d xs hl hd r =>
    cases r
    have hH := a.m.ex _ _ hd
    refine ⟨d, _, hH, trivial, fun od => ?_⟩
    refine ⟨_, h1, d, od, rfl, .inl ⟨_, upd_same, fun p hp => ?_⟩⟩
    have npd : d ≠ p := fun e => by
      subst e
      rw [upd_same] at hp
      cases hp
    refine ⟨fun i n H' => i = 0 ∧ H' = upd (upd H d (.frz od (.dK []))) p (.lst []), ⟨0, rfl, rfl⟩, ?_⟩
    rintro i n H' ⟨rfl, rfl⟩
    refine .inl ⟨⟨by rw [upd_ne npd, upd_same]; rfl, Nat.zero_le _⟩, ?_⟩
    refine ⟨p, [], rfl, lst_sq upd_same, by rw [upd_ne npd, upd_same]; rfl, ?_⟩
    have e : upd (upd (upd H d (.frz od (.dK []))) p (.lst [])) d (.dK []) = upd H p (.lst []) := by
      funext b
      by_cases e1 : b = d
      · subst e1
        rw [upd_same, upd_ne npd]
        exact hH.symm
      · rw [upd_ne e1]
        by_cases e2 : b = p
        · subst e2
          rw [upd_same, upd_same]
        · rw [upd_ne e2, upd_ne e1, upd_ne e2]
    have hpH : H p = none := by
      rw [upd_ne npd.symm] at hp
      exact hp
    show Q _ (upd (upd (upd H d (.frz od (.dK []))) p (.lst [])) d (.dK []))
    rw [e]
    exact q _ _ A _ _ μ (a.m.laid (o := .lst []) hpH) (.of (Ex.new (a.m.ex.free hpH))) (.v _) c
def CPowW (i j : Int) : Prop := 0 ≤ j ∧ (Builtin.Int.intBits i : Int) * j ≤ 2 ^ 27
theorem op_powW {X : Cx} : OpR X (binaryOp .Pow) (rI CPowW fun i j => .int (i ^ j.toNat)) := opI fun _ _ _ _ _ _ _ hc q => PyProof.Rows.pow_int hc.1 hc.2 q
theorem oo_powW {K : PySem.W.Frag} {S : Bs} {μ : List Cell} {C : D → List Cell → Prop} {i j : Int} (h : CPowW i j) (k : C (.int (i ^ j.toNat)) μ) : OO K S (rI CPowW fun i j => .int (i ^ j.toNat)) (.int i) (.int j) μ C := oo_I (g := fun i j => .int (i ^ j.toNat)) h k
theorem cut_map {α : Type} (f : α → D) (l : List α) (lo hi : Option Int) : cutD (l.map f) lo hi = ((l.drop (HT.sIx l.length 0 lo)).take (HT.sIx l.length l.length hi - HT.sIx l.length 0 lo)).map f := by
  unfold cutD
  rw [List.length_map, ← List.map_drop, ← List.map_take]
section
variable {K : PySem.W.Frag} {S : Bs} {δ : Sl} {μ : List Cell} {tl te : TE} {wi : TI} {g : TG} {t : TT} {C : D → List Cell → Prop}
/-- an open list is walked: it stands as it is meanwhile -/
theorem ie_own {C : List D → (List Cell → Prop) → List Cell → Prop} (h : EE K S tl δ μ fun d μ1 => ∃ k l, d = .own k ∧ μ1[k]? = some (.lst l) ∧ C l (fun μ' => μ'[k]? = some (.lst l)) μ1) : IE K S (iList K tl) δ μ C := fun A G H σ a R q =>
  h A G H σ a _ fun v d A1 G1 H1 μ1 m1 n1 r1 ⟨k, l, e, hk, c⟩ => by
    subst e
    cases r1 with
    | @own _ b hA =>
      obtain ⟨g0, xs0, hx0, r0⟩ := m1.cel k b _ hA hk
      refine ⟨b, rfl, ⟨xs0, lst_sq hx0⟩, q (Itl K b) l _ A1 G1 H1 μ1 m1 n1 (fun i A2 G2 H2 μ2 m2 n2 hP => ?_) c⟩
      have hA2 : A2[k]? = some b := by
        cases (n2.rp (.own hA : Rp K A1 G1 (.own k) (.ref b))) with
        | own h => exact h
      obtain ⟨g2, xs, hx, r⟩ := m2.cel k b _ hA2 hP
      have hs : SqL K H2 b xs := lst_sq hx
      refine ⟨fun d hd => ?_, fun e => ⟨xs, hs, by rw [e, r.len]; exact Nat.le_refl _⟩⟩
      obtain ⟨x, hx2, rx⟩ := r.get hd
      refine ⟨⟨xs, x, hs, hx2⟩, fun y H' ⟨e, hy⟩ => ?_⟩
      subst e
      have z := hy xs hs
      rw [hx2] at z
      cases z
      exact ⟨G2, m2, Ex.refl _, rx⟩
/-- [e for .. in .. if ..], the list kept open: its place among the open lists is n -/
theorem ee_lcO {vs : List Nat} (h : IE K S wi δ μ fun l P μ1 => ∃ I : Nat → List Cell → Prop, (∀ i μ', I i μ' → P μ') ∧ I 0 (μ1 ++ [.lst []]) ∧
      (∀ (i : Nat) x μ', l[i]? = some x → I i μ' → GW K S g vs x (wipeS δ vs) μ' fun δ2 μ2 => ET K S t δ2 μ2 fun b μ3 =>
        (b = true → EE K S te δ2 μ3 fun d μ4 => ∃ acc, μ4[μ1.length]? = some (.lst acc) ∧ acc.length < 10000000 ∧ I (i + 1) (μ4.set μ1.length (.lst (acc ++ [d])))) ∧ (b = false → I (i + 1) μ3)) ∧
      ∀ μ', I l.length μ' → C (.own μ1.length) μ') : EE K S (tLc wi g t te vs) δ μ C := fun A G H σ a Q q =>
  h A G H σ a _ fun J l P A1 G1 H1 μ1 m1 n1 gv ⟨I, ip, i0, it, ie⟩ => by
    intro p hp
    have hlen0 : A1.length = μ1.length := m1.len
    refine ⟨fun i n H' => n = l.length - i ∧ i ≤ l.length ∧ ∃ (A2 : List Addr) (G2 : Hp) (μ2 : List Cell), Mem K S A2 G2 H' μ2 ∧ Nw (A1 ++ [p]) G1 A2 G2 ∧ I i μ2, ⟨l.length, by omega, Nat.zero_le _, A1 ++ [p], G1, μ1 ++ [.lst []], m1.opened hp .nil, Nw.refl, i0⟩, ?_⟩
    rintro i n H' ⟨hn, hi, A2, G2, μ2, m2, n2, w⟩
    have n12 : Nw A1 G1 A2 G2 := Nw.trans ⟨⟨[p], rfl⟩, Ex.refl _⟩ n2
    have hp2 : ∀ {A3 : List Addr} {G3 : Hp}, Nw A2 G2 A3 G3 → A3[A1.length]? = some p := fun {A3 G3} n3 => by
      obtain ⟨⟨B, hB⟩, _⟩ := n2.trans n3
      rw [hB, List.append_assoc, List.getElem?_append_right (Nat.le_refl _), Nat.sub_self]
      rfl
    obtain ⟨g1, g2⟩ := gv i _ G2 H' _ m2 n12 (ip i μ2 w)
    by_cases hlt : i < l.length
    · obtain ⟨x, hx⟩ : ∃ x, l[i]? = some x := ⟨l[i], by simp [hlt]⟩
      obtain ⟨go, yl⟩ := g1 x hx
      refine .inr ⟨go, fun H3 => ∃ (A3 : List Addr) (G3 : Hp) (μ3 : List Cell), Mem K S A3 G3 H3 μ3 ∧ Nw (A1 ++ [p]) G1 A3 G3 ∧ I (i + 1) μ3, fun H3 w3 => ⟨l.length - (i + 1), by omega, rfl, hlt, w3⟩, fun y H3 hy => ?_⟩
      obtain ⟨G3, m3, e3, r3⟩ := yl y H3 hy
      have n3 : Nw A2 G2 A2 G3 := .of e3
      have en3 := ((n1.trans n12).trans n3).wipeE a.env vs
      refine it i x μ2 hx w A2 G3 H3 _ y ⟨m3, en3⟩ r3 _ fun A4 G4 H4 σ4 δ4 μ4 a4 n4 hw c => ?_
      refine ⟨by rw [hw, wipe_twice], ?_⟩
      refine c A4 G4 H4 σ4 a4 _ fun b A5 G5 H5 μ5 m5 n5 ⟨ht, hf⟩ => ?_
      cases b with
      | true =>
        rw [if_pos rfl]
        refine ht rfl A5 G5 H5 σ4 ⟨m5, n5.en a4.env⟩ _ fun v d A6 G6 H6 μ6 m6 n6 r6 ⟨acc, hacc, hz, w7⟩ => ?_
        have n26 := ((n3.trans n4).trans n5).trans n6
        have hA := hp2 n26
        rw [← hlen0] at hacc w7
        obtain ⟨gp, xs, hxs, rx⟩ := m6.cel A1.length p _ hA hacc
        exact ⟨xs, hxs, smalr (by rw [← rx.len]; exact hz), A6, G6, _, m6.wrote hA hacc (rx.append (.cons r6 .nil)), n2.trans n26, w7⟩
      | false =>
        rw [if_neg Bool.false_ne_true]
        exact ⟨A5, G5, μ5, m5, n2.trans ((n3.trans n4).trans n5), hf rfl⟩
    · have e : i = l.length := by omega
      refine .inl ⟨g2 e, ?_⟩
      have hA := hp2 Nw.refl
      refine q (.ref p) (.own μ1.length) A2 G2 H' μ2 m2 (n1.trans n12) (.own ?_) (ie μ2 (by rw [← e]; exact w))
      rw [← hlen0]
      exact hA
/-- .. whose elements change nothing -/
theorem ee_lcN {vs : List Nat} (h : IE K S wi δ μ fun l P μ1 => (∀ c, P μ1 → P (μ1 ++ [c])) ∧ P μ1 ∧ ∃ (f : D → Bool) (e : D → D), l.length ≤ 10000000 ∧
      (∀ x acc, x ∈ l → GW K S g vs x (wipeS δ vs) (μ1 ++ [.lst acc]) fun δ2 μ2 => ET K S t δ2 μ2 fun b μ3 => b = f x ∧ μ3 = μ1 ++ [.lst acc] ∧ (b = true → EE K S te δ2 μ3 fun d μ4 => d = e x ∧ μ4 = μ1 ++ [.lst acc])) ∧
      C (.own μ1.length) (μ1 ++ [.lst ((l.filter f).map e)])) : EE K S (tLc wi g t te vs) δ μ C := by
  refine ee_lcO fun A G H σ a R q => h A G H σ a R fun J l P A1 G1 H1 μ1 m1 n1 gv ⟨hP, hP1, f, e, hl, ht, c⟩ => q J l P A1 G1 H1 μ1 m1 n1 gv ?_
  refine ⟨fun i μ' => i ≤ l.length ∧ μ' = μ1 ++ [.lst (((l.take i).filter f).map e)], fun i μ' w => by rw [w.2]; exact hP _ hP1, ⟨Nat.zero_le _, by simp⟩, fun i x μ' hx w => ?_, fun μ' w => ?_⟩
  · obtain ⟨hi, rfl⟩ := w
    have hm : x ∈ l := List.mem_of_getElem? hx
    have hil := (List.getElem?_eq_some_iff.mp hx).1
    have ht1 : l.take (i + 1) = l.take i ++ [x] := by
      rw [List.take_succ, hx]
      rfl
    have hlen : (((l.take i).filter f).map e).length < 10000000 := by
      rw [List.length_map]
      have h1 := List.length_filter_le f (l.take i)
      rw [List.length_take] at h1
      omega
    intro A2 G2 H2 σ2 v2 a2 r2 Q2 q2
    refine ht x _ hm A2 G2 H2 σ2 v2 a2 r2 Q2 fun A3 G3 H3 σ3 δ3 μ3 a3 n3 hw c3 => q2 A3 G3 H3 σ3 δ3 μ3 a3 n3 hw ?_
    intro A4 G4 H4 σ4 a4 Q4 q4
    refine c3 A4 G4 H4 σ4 a4 Q4 fun b A5 G5 H5 μ5 m5 n5 ⟨eb, em, c5⟩ => q4 b A5 G5 H5 μ5 m5 n5 ⟨fun hb => ?_, fun hb => ?_⟩
    · refine (c5 hb).imp fun d μ6 ⟨ed, e6⟩ => ⟨_, by rw [e6, List.getElem?_append_right (Nat.le_refl _), Nat.sub_self]; rfl, hlen, hil, ?_⟩
      rw [e6, List.set_append_right _ _ (Nat.le_refl _), Nat.sub_self, ht1, List.filter_append, List.map_append, List.filter_cons, if_pos (by rw [← eb]; exact hb), ed]
      rfl
    · refine ⟨hil, ?_⟩
      rw [em, ht1, List.filter_append, List.map_append, List.filter_cons, if_neg (by rw [← eb, hb]; exact Bool.false_ne_true)]
      simp
  · obtain ⟨_, rfl⟩ := w
    rw [List.take_length]
    exact c
end
/-! plain data by kind -/
theorem is_str {d : D} (h : d.pl = true) (e : d.is "str" = true) : ∃ s, d = .str s := by
  cases d with
  | v x => cases x <;> first | exact ⟨_, rfl⟩ | (revert e; simp [D.is, D.ty]; done) | (cases h; done)
  | lst l => revert e; simp [D.is, D.ty]
  | rd l => cases h
  | tup l => revert e; simp [D.is, D.ty]
  | dic ks l => revert e; simp [D.is, D.ty]
  | exc c d => cases h
  | own k => cases h
theorem is_tup {d : D} (h : d.pl = true) (e : d.is "tuple" = true) : ∃ l, d = .tup l := by
  cases d with
  | v x => cases x <;> first | (revert e; simp [D.is, D.ty]; done) | (cases h; done)
  | lst l => revert e; simp [D.is, D.ty]
  | rd l => cases h
  | tup l => exact ⟨_, rfl⟩
  | dic ks l => revert e; simp [D.is, D.ty]
  | exc c d => cases h
  | own k => cases h
theorem is_lst {d : D} (h : d.pl = true) (e : d.is "list" = true) : ∃ l, d = .lst l := by
  cases d with
  | v x => cases x <;> first | (revert e; simp [D.is, D.ty]; done) | (cases h; done)
  | lst l => exact ⟨_, rfl⟩
  | rd l => cases h
  | tup l => revert e; simp [D.is, D.ty]
  | dic ks l => revert e; simp [D.is, D.ty]
  | exc c d => cases h
  | own k => cases h
/-- a whole number, no truth -/
def isWh : D → Bool
  | .v (.int _) => true
  | _ => false
theorem is_wh {d : D} (h : d.pl = true) : (d.is "int" && !d.is "bool") = isWh d := by
  cases d with
  | v x => cases x <;> first | (simp [D.is, D.ty, isWh]; done) | (cases h; done)
  | lst l => simp [D.is, D.ty, isWh]
  | rd l => cases h
  | tup l => simp [D.is, D.ty, isWh]
  | dic ks l => simp [D.is, D.ty, isWh]
  | exc c d => cases h
  | own k => cases h
theorem wh_int {d : D} (h : isWh d = true) : ∃ i, d = .int i := by
  cases d with
  | v x => cases x <;> first | exact ⟨_, rfl⟩ | (cases h; done)
  | lst l => cases h
  | rd l => cases h
  | tup l => cases h
  | dic ks l => cases h
  | exc c d => cases h
  | own k => cases h
theorem se_to {K : PySem.W.Frag} {S : Bs} {ts : TS} {δ : Sl} {μ : List Cell} {E : Cn} (J : Sl → List Cell → Prop) (h1 : SE K S ts δ μ { E with nx := J }) (h2 : ∀ d m, J d m → E.nx d m) : SE K S ts δ μ E := h1.imp h2 (fun _ _ h => h) (fun _ _ h => h) fun _ _ h => h
theorem ee_dnew {K : PySem.W.Frag} {S : Bs} {δ : Sl} {μ : List Cell} {C : D → List Cell → Prop} (k : C (.dic [] []) μ) : EE K S tDNewK δ μ C := fun A G H σ a Q q p hp => by
  have e := Ex.new (o := .dK []) (a.m.ex.free hp)
  exact q _ _ A _ _ μ (a.m.laid hp) (.of e) (.dic (xs := []) rfl upd_same .nil) k
/-- a truth that is told by P -/
theorem ee_val {K : PySem.W.Frag} {S : Bs} {te : TE} {δ : Sl} {μ : List Cell} {C : D → List Cell → Prop} (P : Prop) (h : EE K S te δ μ fun y μ2 => μ2 = μ ∧ ∃ b : Bool, y = .bl b ∧ (b = true ↔ P)) (k : ∀ b : Bool, (b = true ↔ P) → C (.bl b) μ) : EE K S te δ μ C :=
  h.imp fun y μ2 ⟨e, b, e2, hb⟩ => by
    subst e e2
    exact k b hb
theorem et_val {K : PySem.W.Frag} {S : Bs} {t : TT} {δ : Sl} {μ : List Cell} {C : Bool → List Cell → Prop} (P : Prop) (h : ET K S t δ μ fun b μ2 => μ2 = μ ∧ (b = true ↔ P)) (k : ∀ b : Bool, (b = true ↔ P) → C b μ) : ET K S t δ μ C := fun A G H σ a Q q =>
  h A G H σ a Q fun b A1 G1 H1 μ1 m1 n1 ⟨e, hb⟩ => q b A1 G1 H1 μ1 m1 n1 (by subst e; exact k b hb)
/-! the same rules with the written part named by itself (within a comprehension it must not hang on the context) -/
section
variable {X : Cx} (K : PySem.W.Frag)
theorem kO (r : PySem.W.Frag → R2) {o : Value → Value → Sem Value} (h : X.K = K) (p : OpR X o (r X.K)) : OpR X o (r K) := h ▸ p
theorem kC (r : PySem.W.Frag → List V → Hp → VK → Prop) {v : Value} (h : X.K = K) (p : CallR X v (r X.K)) : CallR X v (r K) := h ▸ p
theorem kX (r : PySem.W.Frag → R2) (h : X.K = K) (p : IxR X (r X.K)) : IxR X (r K) := h ▸ p
theorem kS (r : PySem.W.Frag → V → Option Int → Option Int → Hp → VK → Prop) (h : X.K = K) (p : SlR X (r X.K)) : SlR X (r K) := h ▸ p
theorem kM (r : PySem.W.Frag → V → List V → Hp → VK → Prop) {id : String} (h : X.K = K) (p : MtR X id (r X.K)) : MtR X id (r K) := h ▸ p
end
section
variable {X : Cx} {K : PySem.W.Frag} {te to : TE} {e o : Expr} {es : List Expr} {t ta : TA} {tg : Expr}
theorem pe_bmK {T name id : String} {r : V → List V → Hp → VK → Prop} {apos cpos : Pos} (h : X.K = K) (pa : PlainAttrs T) (slot : Slot T name id) (hty : typeOf (.builtin id) = pure (.type "method_descriptor")) (hm : MtR X id r) (ho : PE X o to) (ha : PA X (e :: es) t)
    (hbase : attributeBase o name X.env (eval o X.env) = eval o X.env := by rfl)
    (hfew : ((backTo cpos (starEach (e :: es) X.env)).all (fun x => !x.1) && (backToKw cpos (keywordEach [] X.env)).all (fun x => x.1.isSome)
      && decide ((e :: es).length + ([] : List Keyword).length + (if ([] : List Keyword).isEmpty then 0 else 1) < 30)) = true := by rfl)
    (hline : (apos.endLine == cpos.line) = true := by rfl) (hs : starEach (e :: es) X.env = (false, eval e X.env) :: starEach es X.env := by rfl) (hplain : (backTo cpos (starEach es X.env)).any (·.1) = false := by rfl) :
    PE X (.Call (.Attribute o name apos) (e :: es) [] cpos) (tBM K T r to t) := h ▸ pe_bm pa slot hty hm ho ha hbase hfew hline hs hplain
theorem pe_revLK {k : Nat} {p1 p2 p3 pos : Pos} (h : X.K = K) (he : PE X e te) : PE X (.Subscript e (.Slice none none (some (.UnaryOp .USub (.Constant (.int 1) k p1) p2)) p3) pos) (tRevL K te) := h ▸ pe_revL he
theorem pe_errVK {pos : Pos} (h : X.K = K) (he : PE X e te) (hb : attributeBase e "value" X.env (eval e X.env) = eval e X.env := by rfl) : PE X (.Attribute e "value" pos) (tErrV K te) := h ▸ pe_errV he hb
theorem pe_joinK {apos pos : Pos} (h : X.K = K) (ho : PE X o to) (he : PE X e te) (hs : starEach [e] X.env = [(false, eval e X.env)] := by rfl) (hbase : attributeBase o "join" X.env (eval o X.env) = eval o X.env := by rfl) (hline : (apos.endLine == pos.line) = true := by rfl) :
    PE X (.Call (.Attribute o "join" apos) [e] [] pos) (tM1 (rJoin K) to te) := h ▸ pe_join ho he hs hbase hline
theorem pi_listK (h : X.K = K) (hl : PE X e te) : PI X tg e (iList K te) := h ▸ pi_list hl
theorem pi_tupK (h : X.K = K) (hl : PE X e te) : PI X tg e (iTup K te) := h ▸ pi_tup hl
theorem pi_revK {p pos : Pos} (h : X.K = K) (hg : Gl X "reversed") (hm : X.mg "reversed" = none) (ha : PA X [e] ta) (hs : starEach [e] X.env = [(false, eval e X.env)] := by rfl) : PI X tg (.Call (.Name "reversed" p) [e] [] pos) (iRev K ta) := h ▸ pi_reversed hg hm ha hs
theorem pi_enumK {p pos tpos : Pos} {elts : List Expr} {kk : Nat} (h : X.K = K) (hg : Gl X "enumerate") (hm : X.mg "enumerate" = none) (ha : PA X [e] ta) (hs : starEach [e] X.env = [(false, eval e X.env)] := by rfl) :
    PI X (.Tuple elts kk tpos) (.Call (.Name "enumerate" p) [e] [] pos) (iEnum K ta) := h ▸ pi_enum hg hm ha hs
theorem pi_zipAK {e2 : Expr} {p pos tpos : Pos} {elts : List Expr} {kk : Nat} (h : X.K = K) (hg : Gl X "zip") (hm : X.mg "zip" = none) (ha : PA X [e, e2] ta)
    (hs : starEach [e, e2] X.env = (false, eval e X.env) :: starEach [e2] X.env := by rfl) (hpl : (backTo pos (starEach [e2] X.env)).any (·.1) = false := by rfl) :
    PI X (.Tuple elts kk tpos) (.Call (.Name "zip" p) [e, e2] [] pos) (RZ.iZipA K ta) := h ▸ RZ.pi_zipA hg hm ha hs hpl
theorem pg_tupK {es : List Expr} {k : Nat} {ts : TGs} {n : Nat} {pos : Pos} (h : X.K = K) (hc : X.calm = true) (hp : PGs X es ts)
    (hn : (assignEach es X.env).length = n := by rfl) (hst : (assignEach es X.env).findIdx? (·.1) = none := by rfl) : PG X (.Tuple es k pos) (gTup K n ts) := h ▸ pg_tup hc hp hn hst
theorem pg_lstK {es : List Expr} {k : Nat} {ts : TGs} {n : Nat} {pos : Pos} (h : X.K = K) (hc : X.calm = true) (hp : PGs X es ts)
    (hn : (assignEach es X.env).length = n := by rfl) (hst : (assignEach es X.env).findIdx? (·.1) = none := by rfl) : PG X (.Tuple es k pos) (gLst K n ts) := h ▸ pg_lst hc hp hn hst
end
/-- a tuple of flat values that the text has written -/
def TupK (K : PySem.W.Frag) (a : Addr) (xs : List V) : Prop := ∃ (o : Obj) (its : Array Value) (n : Nat), K.lookup a = some o ∧ o.cls = .type "tuple" ∧ o.data = .seq its n ∧ its.size ≤ sizeLine ∧ Vals xs its.toList
theorem ee_cT {K : PySem.W.Frag} {S : Bs} {δ : Sl} {μ : List Cell} {C : D → List Cell → Prop} {a : Addr} {xs : List V} (h : TupK K a xs) (k : C (.tup (xs.map D.v)) μ) : EE K S (tC (.ref a)) δ μ C := fun A G H σ at' Q q => q _ (.tup (xs.map D.v)) A G H μ at'.m Nw.refl (.tup (.inr h) (RpL.vals xs)) k
theorem oo_ixK {K : PySem.W.Frag} {S : Bs} {μ : List Cell} {C : D → List Cell → Prop} {a : Addr} {xs : List V} {i : Int} {x : V} (h : TupK K a xs) (hi : atI xs i = some x) (k : C (.v x) μ) : OO K S (rIx K) (.v (.ref a)) (.int i) μ C := fun A G H u w m r1 r2 Q q => by
  have e1 := r1.vOf
  have e2 := r2.vOf
  subst e1 e2
  exact .inr (.inl ⟨_, xs, i, x, rfl, rfl, .inr h, hi, q _ _ A G H μ m Nw.refl (.v _) k⟩)
/-! an argument that is closed data, or the one open list; what it is seen as -/
inductive Arg : D → List Cell → D → Prop
  | cl {d : D} : d.lt 0 = true → Arg d [] d
  | own {l : List D} : D.ltL 0 l = true → Arg (.own 0) [.lst l] (.lst l)
theorem cc_isO {K : PySem.W.Frag} {S : Bs} {μ : List Cell} {C : D → List Cell → Prop} {k : Nat} {l : List D} {n : String} (hc : μ[k]? = some (.lst l)) (hn : isTy n = true) (c : C (.bl ("list" == n)) μ) : CC K S (rIsiU K) [.own k, .v (.ty n)] μ C := fun A G H vs m r1 Q q => by
  cases r1 with
  | cons r1 rn =>
    cases rn with
    | cons r2 rn =>
      cases rn
      have e2 := r2.vOf
      subst e2
      have hk : kitB "list" n = some ("list" == n) := by
        have z := pl_kit (d := .lst []) rfl hn
        rw [show D.ty (.lst []) = "list" from rfl] at z
        rw [z]
        show some ("list" == n || (n == "int" && "list" == "bool")) = _
        simp
      exact .inl ⟨_, _, _, _, _, rfl, .ty n, r1.tyX m (by show "list" ≠ ""; decide) (fun j e => by cases e; exact ⟨l, hc⟩), kit_ty hk, q _ _ A G H μ m Nw.refl (.v _) c⟩
/-! ends of defs, in short -/
section
variable {S : Bs} {μ : List Cell} {d : D}
theorem gaveP {post : D → Prop} (hl : S.A.length = 0) (h1 : d.lt 0 = true) (h : post d) : Gave S (fun d μ => μ = [] ∧ post d) d μ := by
  refine gave (by rw [hl]; exact h1) (by rw [hl]; rfl) ⟨by rw [hl]; rfl, h⟩
theorem gave1 {P : D → List Cell → Prop} {l : List D} {ν : List Cell} (hl : S.A.length = 1) (h1 : d.lt 0 = true) (h2 : D.ltL 0 l = true) (h : P d [.lst l]) : Gave S P d (.lst l :: ν) := by
  refine gave (by rw [hl]; exact D.lt_mono (Nat.zero_le _) h1) (by rw [hl]; show (D.ltL 1 l && true) = true; rw [D.ltL_mono (Nat.zero_le _) h2]; rfl) (by rw [hl]; exact h)
theorem gaveN {post : List D → Prop} {k : Nat} {l : List D} (hl : S.A.length = 0) (hk : μ[k]? = some (.lst l)) (h1 : D.ltL 0 l = true) (h : post l) : Gave S (fun d μ => ∃ l, d = .own 0 ∧ μ = [.lst l] ∧ D.ltL 0 l = true ∧ post l) (.own k) μ := by
  refine gave_new (by rw [hl]; exact Nat.zero_le _) hk (by rw [hl]; exact h1) (by rw [hl]; rfl) ⟨l, by rw [hl], by rw [hl]; rfl, h1, h⟩
end
end PA

set_option Elab.async false
set_option linter.all false
set_option maxRecDepth 100000
set_option maxHeartbeats 2000000
/-! PbText: texts as lists of numbers. -/
namespace PA
open PySem L2
def tx (l : List Nat) : Str := ⟨l.toArray⟩
def cp (s : Str) : List Nat := s.cps.toList
theorem cp_tx (l : List Nat) : cp (tx l) = l := rfl
theorem tx_cp (s : Str) : tx (cp s) = s := rfl
theorem cp_inj {s t : Str} (h : cp s = cp t) : s = t := by rw [← tx_cp s, h, tx_cp]
theorem len_cp (s : Str) : s.length = (cp s).length := by
  show s.cps.size = s.cps.toList.length
  simp
theorem cp_app (s t : Str) : cp (s ++ t) = cp s ++ cp t := by
  show (s.cps ++ t.cps).toList = _
  rw [Array.toList_append]
  rfl
theorem app_tx (a b : List Nat) : tx a ++ tx b = tx (a ++ b) := cp_inj (by rw [cp_app]; rfl)
theorem cutS_nn (s : Str) (i j : Nat) : cp (cutS s (some (i : Int)) (some (j : Int))) = ((cp s).drop i).take (j - i) := by
  show ((cp s).drop (HT.sIx s.length 0 (some (i : Int)))).take (HT.sIx s.length s.length (some (j : Int)) - HT.sIx s.length 0 (some (i : Int))) = _
  rw [HT.sIx_nat, HT.sIx_nat, len_cp]
  generalize cp s = l
  by_cases hi : i ≤ l.length
  · rw [Nat.min_eq_left hi]
    by_cases hj : j ≤ l.length
    · rw [Nat.min_eq_left hj]
    · rw [Nat.min_eq_right (by omega), List.take_of_length_le (by rw [List.length_drop]; omega), List.take_of_length_le (by rw [List.length_drop]; omega)]
  · rw [List.drop_of_length_le (by omega : l.length ≤ i), List.drop_of_length_le (by omega), List.take_nil, List.take_nil]
theorem cutS_n0 (s : Str) (i : Nat) : cp (cutS s (some (i : Int)) none) = (cp s).drop i := by
  show ((cp s).drop (HT.sIx s.length 0 (some (i : Int)))).take (s.length - HT.sIx s.length 0 (some (i : Int))) = _
  rw [HT.sIx_nat, len_cp]
  generalize cp s = l
  rw [List.take_of_length_le (by rw [List.length_drop]; omega)]
  by_cases hi : i ≤ l.length
  · rw [Nat.min_eq_left hi]
  · rw [List.drop_of_length_le (by omega : l.length ≤ i), List.drop_of_length_le (by omega)]
theorem cutS_0n (s : Str) (j : Nat) : cp (cutS s none (some (j : Int))) = (cp s).take j := by
  show ((cp s).drop 0).take (HT.sIx s.length s.length (some (j : Int)) - 0) = _
  rw [HT.sIx_nat, len_cp, List.drop_zero, Nat.sub_zero]
  generalize cp s = l
  by_cases hj : j ≤ l.length
  · rw [Nat.min_eq_left hj]
  · rw [List.take_of_length_le (by omega), List.take_of_length_le (by omega)]
theorem join0 (ys : List Str) : cp (Txt.join Str.empty ys) = (ys.map cp).flatten := by
  rw [TL.join_eq]
  induction ys with
  | nil => rfl
  | cons y ys ih =>
    cases ys with
    | nil =>
      show cp y = _
      simp
    | cons z zs =>
      show cp (y ++ Str.empty ++ Str.join Str.empty (z :: zs)) = _
      rw [cp_app, cp_app, ih]
      simp [cp, Str.empty]
theorem fold_app : ∀ (n : Nat) (x acc : Array Nat), ((List.replicate n x).foldl (· ++ ·) acc).toList = acc.toList ++ (List.replicate n x.toList).flatten
  | 0, x, acc => by simp
  | n + 1, x, acc => by
    rw [List.replicate_succ, List.foldl_cons, fold_app n x (acc ++ x), List.replicate_succ, List.flatten_cons, Array.toList_append, List.append_assoc]
theorem cp_mul (s : Str) (n : Nat) : cp (Txt.mul s (n : Int)) = (List.replicate n (cp s)).flatten := by
  unfold Txt.mul
  by_cases h1 : (n : Int) < 1
  · rw [if_pos h1]
    have : n = 0 := by omega
    subst this
    rfl
  · rw [if_neg h1]
    by_cases h2 : ((n : Int) == 1 || s.length == 0) = true
    · rw [if_pos h2]
      rw [Bool.or_eq_true, beq_iff_eq, beq_iff_eq] at h2
      rcases h2 with h2 | h2
      · have : n = 1 := by omega
        subst this
        simp
      · rw [len_cp] at h2
        have e : cp s = [] := List.length_eq_zero_iff.mp h2
        rw [e]
        simp
    · rw [if_neg h2, Int.toNat_natCast]
      show ((List.replicate n s.cps).foldl (· ++ ·) #[]).toList = _
      rw [fold_app]
      rfl
theorem mul_ok {s : Str} {n : Nat} (h1 : n ≤ 1000000) (h2 : s.length * n ≤ 10000000) : MulOk s (n : Int) := by
  refine ⟨?_, fun h3 h4 => ?_, fun h3 h4 => ?_⟩
  · have a : ¬ ((n : Int) < -(2 ^ 63 : Int)) := by omega
    have b : ¬ ((n : Int) ≥ 2 ^ 63) := by omega
    simp only [a, b, decide_false, Bool.or_false]
  · have hn : 0 < n := by omega
    have q : (1000000 : Int) * 1000000 ≤ (2 ^ 63 - 1) / (n : Int) := by
      rw [Int.le_ediv_iff_mul_le (by omega)]
      have : (1000000 : Int) * 1000000 * n ≤ 1000000 * 1000000 * 1000000 := by omega
      omega
    have hs : s.length ≤ 10000000 := by
      have : s.length * 1 ≤ s.length * n := Nat.mul_le_mul_left _ hn
      omega
    omega
  · rw [Int.toNat_natCast]
    have : s.length * n ≤ sizeLine := small h2
    exact decide_eq_false (by omega)
theorem atI_of {α : Type} {l : List α} {i : Int} {j : Nat} {d : α} (h : l[j]? = some d) (e : i = (j : Int)) : atI l i = some d := by
  rw [e]
  exact atI_nat h
theorem str1 {c d : Nat} : (decide ((V.str ⟨#[c]⟩ : V) = .str ⟨#[d]⟩)) = decide (c = d) := by
  refine decide_eq_decide.mpr ⟨fun h => ?_, fun h => by rw [h]⟩
  injection h with h
  injection h with h
  have e : [c] = [d] := congrArg Array.toList h
  injection e
theorem strE {s t : Str} : (decide ((V.str s : V) = .str t)) = decide (cp s = cp t) := by
  refine decide_eq_decide.mpr ⟨fun h => ?_, fun h => by rw [cp_inj h]⟩
  injection h with h
  rw [h]
end PA

set_option Elab.async false
set_option linter.all false
set_option maxRecDepth 100000
set_option maxHeartbeats 2000000
/-! PbEnd: from what the top has written to the walk's words; the law's end. -/
namespace PA
open PySem L2
/-- a def of the top -/
def DefF (K : PySem.W.Frag) (mg : Str → Option Value) (x : Str) (st : Stmt) : Prop := ∃ (f : Addr) (fd : FuncData), Fun K x x st f fd ∧ mg x = some (.ref f) ∧ PySem.W.keepIn K (.ref f) = true
/-- .. with defaults -/
def DefD (K : PySem.W.Frag) (mg : Str → Option Value) (x : Str) (st : Stmt) (dvs : List V) : Prop := ∃ (f : Addr) (fd : FuncData), FunD K x x (defArgs st) (defBody st) (defScope st) dvs [] f fd ∧ mg x = some (.ref f) ∧ PySem.W.keepIn K (.ref f) = true
section
variable {K : PySem.W.Frag} {h : Heap} {mg : Str → Option Value} {x : Str} {st : Stmt} {f : Addr} {oc : Value} {od an : Option Addr} {osl : Array (Option Value)} {kV doc pm cdv ct : Value}
theorem def_mk (X : K.In h) (G : h.Ns mainGlobals mg) (a : PySem.W.nsIn K mainGlobals x = some (some (.ref f))) (l : K.lookup f = some ⟨oc, od, .func (PySem.W.fnOf x x (defArgs st) (defBody st) (defScope st) .none kV doc pm an cdv ct), osl⟩) (c : PySem.W.codeIn K cdv x = true) (k : PySem.W.keepIn K (.ref f) = true) : DefF K mg x st :=
  ⟨f, _, fun_mk l c k, PySem.W.mg_of X G a, k⟩
theorem defD_mk {T : Addr} {oT : Obj} {its : List Value} {n : Nat} {dvs : List V} (X : K.In h) (G : h.Ns mainGlobals mg) (a : PySem.W.nsIn K mainGlobals x = some (some (.ref f))) (l : K.lookup f = some ⟨oc, od, .func (PySem.W.fnOf x x (defArgs st) (defBody st) (defScope st) (.ref T) kV doc pm an cdv ct), osl⟩) (c : PySem.W.codeIn K cdv x = true) (k : PySem.W.keepIn K (.ref f) = true)
    (lT : K.lookup T = some oT) (dT : oT.data = .seq its.toArray n) (rT : Vals dvs its) (hd : dvs ≠ []) : DefD K mg x st dvs :=
  ⟨f, _, ⟨⟨oc, od, _, kV, doc, pm, an, cdv, ct, osl, rfl, l, c, .inr ⟨hd, T, oT, its, n, rfl, lT, dT, rT⟩, .inl rfl⟩, k⟩, PySem.W.mg_of X G a, k⟩
theorem exm_of {S c : Addr} (h1 : PySem.W.subIn K (.ref S) (.type "BaseException") = some true) (h2 : PySem.W.isClsIn K S = true) (h3 : PySem.W.typeIn K (.ref S) = some (.type "type")) (h4 : PySem.W.subIn K (.ref c) (.ref S) = some true) : PySem.W.exmOne K (.ref c) (.ref S) = some true := by
  have e1 : (PySem.W.subIn K (.ref S) (.type "BaseException") == some true) = true := by rw [h1] <;> rfl
  have e2 : ((PySem.W.clsIn K S).isSome && PySem.W.typeIn K (.ref S) == some (.type "type")) = true := by
    have h2' : (PySem.W.clsIn K S).isSome = true := h2
    rw [h2', h3] <;> rfl
  show (if (PySem.W.subIn K (.ref S) (.type "BaseException") == some true) = true then (if ((PySem.W.clsIn K S).isSome && PySem.W.typeIn K (.ref S) == some (.type "type")) = true then PySem.W.subIn K (.ref c) (.ref S) else none) else none) = some true
  rw [if_pos e1, if_pos e2]
  exact h4
theorem kit_ne {S c : Addr} {b : Bool} (ne : (Value.ref c == Value.ref S) = false) (h2 : PySem.W.isClsIn K S = true) (h3 : PySem.W.typeIn K (.ref S) = some (.type "type")) (h4 : PySem.W.subIn K (.ref c) (.ref S) = some b) : PySem.W.kitOne K (.ref c) (.ref S) = some b := by
  have e2 : ((PySem.W.clsIn K S).isSome && PySem.W.typeIn K (.ref S) == some (.type "type")) = true := by
    have h2' : (PySem.W.clsIn K S).isSome = true := h2
    rw [h2', h3] <;> rfl
  show (if (Value.ref c == Value.ref S) = true then some true else (if ((PySem.W.clsIn K S).isSome && PySem.W.typeIn K (.ref S) == some (.type "type")) = true then PySem.W.subIn K (.ref c) (.ref S) else none)) = some b
  rw [ne, if_neg Bool.false_ne_true, if_pos e2]
  exact h4
theorem kit_self {c : Addr} : PySem.W.kitOne K (.ref c) (.ref c) = some true := by
  unfold PySem.W.kitOne
  rw [if_pos (by simp)]
theorem kit_val {c : Addr} (h : PySem.W.subIn K (.ref c) (.type "ValueError") = some true) : PySem.W.kitOne K (.ref c) (.type "ValueError") = some true := by
  have e : PySem.W.kitMeta "ValueError" = true := by decide +kernel
  have ne : (Value.ref c == Value.type "ValueError") = false := by rfl
  show (if (Value.ref c == Value.type "ValueError") = true then some true else (if PySem.W.kitMeta "ValueError" = true then PySem.W.subIn K (.ref c) (.type "ValueError") else none)) = some true
  rw [ne, if_neg Bool.false_ne_true, if_pos e]
  exact h
/-- an own error class with its __init__(self, value=None) -/
theorem err_mk {C T N : Addr} {qual nm q : Str} {bs bm : List Value} {sn : List Str} {sub : List Value} {ab : Bool} {col : Option Bool} {dd : Option Addr} {m0 m1 m2 m3 m5 : Option Value} {oT : Obj} {n : Nat} {q1 q2 q3 q4 : Pos} (aC : PySem.W.nsIn K mainGlobals x = some (some (.ref C)))
    (xL : K.lookup C = some (excClassObj nm q C N bs bm true sn sub ab col dd m0 m1 m2 m3 m5 "ValueError.__new__")) (sa : PySem.W.findIn K (.ref C) "__setattr__" = some (some (.builtin "object.__setattr__")))
    (ga : PySem.W.findIn K (.ref C) "__getattribute__" = some (some (.builtin "BaseException.__getattribute__"))) (gg : PySem.W.findIn K (.ref C) "__getattr__" = some none) (nb : PySem.W.findIn K (.ref C) "value" = some none)
    (a1 : PySem.W.findIn K (.ref C) "__init__" = some (some (.ref f))) (t1 : PySem.W.typeIn K (.ref f) = some (.type "function"))
    (l1 : K.lookup f = some ⟨oc, od, .func (PySem.W.fnOf "__init__" qual (defArgs st) (defBody st) (defScope st) (.ref T) kV doc pm an cdv ct), osl⟩) (c1 : PySem.W.codeIn K cdv qual = true) (k1 : PySem.W.keepIn K (.ref f) = true) (lT : K.lookup T = some oT)
    (kC : PySem.W.keepIn K (.ref C) = true) (eC : PySem.W.subIn K (.ref C) (.type "BaseException") = some true) (tC : PySem.W.typeIn K (.ref C) = some (.type "type")) (hC : PySem.W.hasDictIn K C = true)
    (ha : PySem.W.findIn K (.ref C) "__class__" = some (some (.builtin "object.__class__"))) (hn : PySem.W.specialIn K (.builtin "object.__class__") "__get__" = some (some (.builtin "getset_descriptor.__get__"))) (ht : PySem.W.takesIn K (.builtin "object.__class__") = some true) (hm : PySem.W.mroIn K C (.type "object") = some true)
    (hbm : PySem.HandSPX.refsVE bm = true) (dT : oT.data = .seq #[.none] n) (hb : defBody st = initBody q1 q2 q3 q4) (sc : FnScope ["self", "value"] ["self", "value"] (defScope st)) (v0 : Vis (defScope st) "self") (v1 : Vis (defScope st) "value")
    (hbind : ∀ (T : Addr) (kV doc pm : Value) (an : Option Addr) (cdv ct : Value) (us its : List Value), us.length = 2 → its.length = 1 →
      ∃ k, bindArgs (PySem.W.fnOf "__init__" qual (defArgs st) (defBody st) (defScope st) (.ref T) kV doc pm an cdv ct) ⟨us, []⟩ = seqItems? (.ref T) >>= k ∧ k (some its.toArray) = pure ((["self", "value"] : List Str).zip (us ++ its.drop 1)))
    (X : K.In h) (G : h.Ns mainGlobals mg) : ∀ P w base, ErrK P w K mg base x C := fun P w base => by
  have F : FunD K "__init__" qual (defArgs st) (defBody st) (defScope st) [.non] [] f _ := ⟨⟨oc, od, _, kV, doc, pm, an, cdv, ct, osl, rfl, l1, c1, .inr ⟨by simp, T, oT, [.none], n, rfl, lT, dT, .cons rfl .nil⟩, .inl rfl⟩, k1⟩
  have E : ErrC K C f := ⟨⟨⟨nm, q, N, bs, bm, sn, sub, ab, col, dd, m0, m1, m2, m3, m5, xL, hbm⟩, sa, eC, tC, kC⟩, ⟨ga, gg, eC, hC⟩, nb, a1, t1, ha, hn, ht, hm⟩
  obtain ⟨ds, hv, hbd⟩ := F.binds1 (ps := ["self", "value"]) 2 1 (by simp) rfl hbind
  cases hv
  exact ⟨⟨f, _, E, err_fn F E hb sc v0 v1, hbd⟩, PySem.W.mg_of X G aC⟩
end
/-- the end: what the law's def promises -/
abbrev spLaw (K : PySem.W.Frag) : Sp := ProP K (T := List Int) (fun ns => [.rd (ns.map D.int)]) (fun ns => ns.length ≤ 63) (fun _ d => d = .bl true) (fun _ _ _ => False)
theorem walk {l : PySem.W.OpenLaw} {k : Nat} {q : Program} {loose : List Str} {XP : (Str → Option Value) → Heap → Prop} {YP : World → Heap → Prop} {d : DefRec} {K : Params → PySem.W.Frag} (hn : l.most = some 63) (hdf : d.params.defaults = []) (hr : Room k callerA)
    (hY : ∀ (w : World) (h : Heap), YP w h → (K w.params).In h)
    (F : ∀ (w : World) (mg : Str → Option Value) (fa : Addr) (h : Heap), (K w.params).In h → h.Ns mainGlobals mg → mg d.name = some (.ref fa) →
      ∃ fd : FuncData, (∀ (s : Shared) (u : Value), BindsTo s fd ⟨[u], []⟩ [("script", u)]) ∧ ∀ base : Heap, (K w.params).In base → base.Ns mainGlobals mg →
        FnOk l.prog w (K w.params) mg base (L2.CX l.prog w) k fa fd ["script"] (spLaw (K w.params))) :
    PySem.W.WalkO q loose XP YP l.row.toRowW d [] (fun f vs => PySem.call f vs) :=
  L2.walk_of (n := 63) (k := k) (x := "script") (CX := fun w => L2.CX l.prog w) (sp := fun w => spLaw (K w.params)) hn (by decide) hdf hr hY F
    (fun w H a ns hl _ hS => by
      have m : Mem (K w.params) ⟨[], H, H⟩ [] H H [] := ⟨Ex.refl _, Ex.refl _, ⟨[], rfl, fun _ h => by cases h⟩, fun _ h => .inl h, fun _ _ _ h => h, fun k a c h _ => by simp at h, rfl, List.nodup_nil, fun _ h => by cases h⟩
      have e : ns.map D.int = (ns.map V.int).map D.v := by rw [List.map_map]; rfl
      refine ⟨ns, [], H, hl, m, .cons (.rd hS (by rw [e]; exact RpL.vals _)) .nil, fun v d B G' H' μ _ r ⟨_, hd⟩ => ?_, fun _ _ _ _ _ _ _ _ _ _ _ _ z => z⟩
      subst hd
      exact r.vOf)
    fun _ H s e s' ⟨_, _, _, _, _, _, _, _, _, _, _, _, z⟩ => z
end PA

set_option Elab.async false
set_option linter.all false
set_option maxRecDepth 100000
set_option maxHeartbeats 2000000
/-! PbNew: more that stays open; keywords; calls of a slot within a try; dicts written out and compared. -/
namespace PA
open PySem L2
section
variable {K : PySem.W.Frag} {S : Bs} {δ : Sl} {μ : List Cell} {ta tb te : TE} {C : D → List Cell → Prop}
theorem put_own {A : List Addr} {G H : Hp} {p : Addr} {xs : List V} {l : List D} {Q : VK} (m : Mem K S A G H μ) (hp : H p = none) (r : RpL K A G l xs)
    (q : ∀ v d A' G' H' μ', Mem K S A' G' H' μ' → Nw A G A' G' → Rp K A' G' d v → C d μ' → Q v H') (k : C (.own μ.length) (μ ++ [.lst l])) : Q (.ref p) (upd H p (.lst xs)) := by
  refine q _ _ (A ++ [p]) G _ _ (m.opened hp r) ⟨⟨[p], rfl⟩, Ex.refl _⟩ (.own ?_) k
  rw [← m.len, List.getElem?_append_right (Nat.le_refl _), Nat.sub_self]
  rfl
/-- x[::-1], kept open -/
theorem ee_revO (h : EE K S te δ μ fun d μ1 => ∃ l, LstD μ1 d l ∧ C (.own μ1.length) (μ1 ++ [.lst l.reverse])) : EE K S (tRevL K te) δ μ C := fun A G H σ a Q q =>
  h A G H σ a _ fun v d A1 G1 H1 μ1 m1 n1 r1 ⟨l, e, c⟩ => by
    obtain ⟨b, xs, ev, hs, r⟩ := e.at' m1 r1
    subst ev
    exact ⟨b, xs, rfl, hs, fun p hp => put_own m1 hp r.reverse (fun v d A' G' H' μ' m n => q v d A' G' H' μ' m (n1.trans n)) c⟩
/-- x + y, kept open -/
theorem oo_addLO {l m : List D} (hz : l.length + m.length ≤ 10000000) (k : C (.own μ.length) (μ ++ [.lst (l ++ m)])) : OO K S (rPlus K) (.lst l) (.lst m) μ C := fun A G H u w me r1 r2 Q q => by
  cases r1 with
  | lst h1 s1 =>
    cases r2 with
    | lst h2 s2 => exact .inr (.inr (.inl ⟨_, _, _, _, rfl, rfl, me.ex _ _ h1, me.ex _ _ h2, small (by rw [← s1.len, ← s2.len]; exact hz), fun p hp => put_own me hp (s1.append s2) q k⟩))
/-- f(x=..): as f(..) -/
theorem ee_kw1 {sp : Sp} {E : XK} (h : EE K S (tCall sp [] E (tCons te tNil)) δ μ C) : EE K S (tCallP sp [0] 1 E (tCons te tNil)) δ μ C := fun A G H σ a Q q => by
  have z := h A G H σ a Q q
  have e : (fun (v : V) (H1 : Hp) => sp ([v] ++ []) H1 Q E) = fun v H1 => [v].length = 1 ∧ sp (permL [0] [v]) H1 Q E := by
    funext v H1
    show sp [v] H1 Q E = (1 = 1 ∧ sp [v] H1 Q E)
    simp
  have z2 : te σ H (fun v H1 => sp ([v] ++ []) H1 Q E) := z
  rw [e] at z2
  exact z2
/-! ### a call out of a slot, within a try -/
theorem ex_callA {ta : TA} {CE : Sl → Addr → D → List Cell → Prop} {T : Type} {cel : T → List Cell} {arg : T → List D} {pre : T → Prop} {post : T → D → List Cell → Prop} {exc : T → Addr → D → List Cell → Prop} {i : Nat} {Sg : Addr → Sp → Prop} {f : Addr} (hs : List Nat) (hi : δ[i]? = some (some (.v (.ref f)))) (hS : Sg f (Pro K cel arg pre post exc))
    (h : EA K S ta δ μ fun ds μ1 => ∃ t : T, pre t ∧ hs.Nodup ∧ (∀ k ∈ hs, k < μ1.length) ∧ cel t = hs.map (fun k => μ1.getD k .off) ∧ cellsLt 0 (cel t) = true ∧ D.hsL (fun k => hs.contains k) ds = true ∧ D.renL (fun k => hs.idxOf k) ds = arg t ∧
      (∀ d ν n, post t d ν → ν.length = n → d.lt n = true → cellsLt n ν = true → hs.length ≤ n → C (d.ren (back hs μ1.length)) (behindC hs μ1.length ν μ1)) ∧ ∀ c d ν, exc t c d ν → ν.length = hs.length → d.lt hs.length = true → cellsLt hs.length ν = true → CE δ c (d.ren (back hs μ1.length)) (behindC hs μ1.length ν μ1)) :
    EX K S (fun W => tCallA' i Sg (WE W) ta) δ μ C CE := fun A G H σ a W wx Q q => by
  obtain ⟨v0, hv0, r0⟩ := a.env.get hi
  have ev := r0.vOf
  subst ev
  refine ⟨f, _, hv0, hS, h A G H σ a _ fun vs ds A1 G1 H1 μ1 m1 n1 r1 ⟨t, hp, hn, hlt, hcel, hcl, hh, ha, hC, hX⟩ => ?_⟩
  have hltA : ∀ k ∈ hs, k < A1.length := fun k hk => by rw [m1.len]; exact hlt k hk
  have rd : RpL K (hs.map fun k => A1.getD k 0) G1 (arg t) vs := by
    rw [← ha]
    exact r1.ren (hand_at hltA) hh
  have hm := m1.hand hn hlt (by rw [← hcel]; exact hcl)
  rw [← hcel] at hm
  refine ⟨t, _, G1, hp, hm, rd, fun v d B G' H' ν f r c => ?_, fun c dx u d G' H' ν f f1 f2 f3 r c' => ?_⟩
  · have ma := m1.after hn hlt f
    have hl : ν.length = hs.length + B.length := by
      rw [← f.len, List.length_append, List.length_map]
    have hA : (hs.map (fun k => A1.getD k 0) ++ B).length = ν.length := f.len
    refine q v _ (A1 ++ B) G' H' _ ma (n1.trans ⟨⟨B, rfl⟩, f.exG⟩) (r.ren (back_at hltA) (D.hs_true d)) ?_
    rw [m1.len]
    exact hC d ν _ c rfl (by rw [← hA]; exact r.scope) f.scope (by omega)
  · have f' : Mem K ⟨hs.map fun k => A1.getD k 0, G1, H1⟩ ((hs.map fun k => A1.getD k 0) ++ []) G' H' ν := by
      rw [List.append_nil]
      exact f
    have ma := m1.after hn hlt f'
    have hl : ν.length = hs.length := by
      rw [← f.len, List.length_map]
    have r' : Rp K (A1 ++ []) G' (d.ren (back hs A1.length)) u := (by
      have r0 : Rp K ((hs.map fun k => A1.getD k 0) ++ []) G' d u := by
        rw [List.append_nil]
        exact r
      exact r0.ren (back_at hltA) (D.hs_true d))
    have hs0 : S.H dx = none := by
      cases qq : S.H dx with
      | none => rfl
      | some o =>
        by_cases ha' : dx ∈ S.A
        · obtain ⟨B0, hB0, h0⟩ := m1.pre
          exact absurd f1 (m1.al dx (by rw [hB0]; exact List.mem_append_left _ ha'))
        · have z := m1.keep dx o ha' qq
          rw [f1] at z
          cases z
    rw [m1.len] at ma r'
    have hA2 : (hs.map fun k => A1.getD k 0).length = hs.length := List.length_map _
    have n2 : Nw A G (A1 ++ []) G' := n1.trans ⟨⟨[], rfl⟩, f.exG⟩
    exact wx _ G' H' σ δ _ c dx u _ ⟨ma, n2.en a.env⟩ n2 hs0 f2 f3 r' (hX c d ν c' hl (by rw [← hA2]; exact r.scope) (by rw [← hl]; exact f.scope))
/-! ### dicts -/
/-- {k: x} -/
theorem ee_disp1 {k : Key} {x : V} (c : C (.dic [k] [.v x]) μ) : EE K S (tDisp [(tC (kV k), tC x)]) δ μ C := fun A G H σ a Q q p hp => by
  refine ⟨upd_same, [(k, x)], rfl, by show 1 ≤ 15; decide, ?_⟩
  have e : upd (upd H p (.dK [])) p (.dK (mergeK [] [(k, x)])) = upd H p (.dK [(k, x)]) := by
    funext b
    by_cases e : b = p
    · subst e
      rw [upd_same, upd_same]
      rfl
    · rw [upd_ne e, upd_ne e, upd_ne e]
  rw [e]
  exact q _ _ A (upd G p (.dK [(k, x)])) _ μ (a.m.laid hp) (.of (Ex.new (a.m.ex.free hp))) (.dic (xs := [x]) rfl upd_same (.cons (.v x) .nil)) c
/-- a dict that is what it is: its values flat, its keys found -/
def DicOk (ks : List Key) (l : List D) : Prop := ∃ vs : List V, l = vs.map D.v ∧ ks.length = vs.length ∧ ∀ p ∈ ks.zip vs, valV (ks.zip vs) p.1 = some p.2 ∧ flatB p.2 = true
theorem oo_eqDic {ks : List Key} {l : List D} (h : DicOk ks l) (k : C (.bl true) μ) : OO K S (rEqU K) (.dic ks l) (.dic ks l) μ C := fun A G H u w m r1 r2 Q q => by
  obtain ⟨vs, rfl, hl, hp⟩ := h
  cases r1 with
  | dic h1 h2 h3 =>
    cases r2 with
    | dic g1 g2 g3 =>
      have e1 := RpL.of_vals h3
      have e2 := RpL.of_vals g3
      subst e1 e2
      exact .inr (.inr ⟨_, _, _, _, rfl, rfl, m.ex _ _ h2, m.ex _ _ g2, rfl, hp, q _ _ A G H μ m Nw.refl (.v _) k⟩)
end
end PA

set_option Elab.async false
set_option linter.all false
set_option maxRecDepth 100000
set_option maxHeartbeats 4000000
namespace PA
open PySem L2
def top (i : Nat) : Stmt := PySem.Challenge.pw_heardandfelt_k52_cells.main.body.getD i (.Pass ⟨0, 0, 0, 0⟩)
structure Ad where
  (eReadingError eInvalidCount eInvalidText eInvalidCell eInvalidDots eInvalidCells cPOWERS cACROSS fdots_of ffrom_behind fcells_text fcells_of_text fcell_of : Addr)
structure Tx (P : Program) (w : World) (K : PySem.W.Frag) (mg : Str → Option Value) (base : Heap) (a : Ad) : Prop where
  b_int : mg "int" = none
  b_range : mg "range" = none
  b_isinstance : mg "isinstance" = none
  b_bool : mg "bool" = none
  b_all : mg "all" = none
  b_list : mg "list" = none
  b_len : mg "len" = none
  b_sum : mg "sum" = none
  b_str : mg "str" = none
  b_max : mg "max" = none
  b_tuple : mg "tuple" = none
  b_zip : mg "zip" = none
  b_dict : mg "dict" = none
  b_min : mg "min" = none
  g_ReadingError : mg "ReadingError" = some (.ref a.eReadingError)
  e_InvalidCount : ErrK P w K mg base "InvalidCount" a.eInvalidCount
  g_InvalidCount : mg "InvalidCount" = some (.ref a.eInvalidCount)
  e_InvalidText : ErrK P w K mg base "InvalidText" a.eInvalidText
  g_InvalidText : mg "InvalidText" = some (.ref a.eInvalidText)
  e_InvalidCell : ErrK P w K mg base "InvalidCell" a.eInvalidCell
  g_InvalidCell : mg "InvalidCell" = some (.ref a.eInvalidCell)
  e_InvalidDots : ErrK P w K mg base "InvalidDots" a.eInvalidDots
  g_InvalidDots : mg "InvalidDots" = some (.ref a.eInvalidDots)
  e_InvalidCells : ErrK P w K mg base "InvalidCells" a.eInvalidCells
  g_InvalidCells : mg "InvalidCells" = some (.ref a.eInvalidCells)
  k_InvalidCell_InvalidCell : PySem.W.kitOne K (.ref a.eInvalidCell) (.ref a.eInvalidCell) = some true
  k_InvalidCell_InvalidCells : PySem.W.kitOne K (.ref a.eInvalidCell) (.ref a.eInvalidCells) = some false
  k_InvalidCell_InvalidDots : PySem.W.kitOne K (.ref a.eInvalidCell) (.ref a.eInvalidDots) = some false
  k_InvalidCell_InvalidText : PySem.W.kitOne K (.ref a.eInvalidCell) (.ref a.eInvalidText) = some false
  k_InvalidCell_InvalidCount : PySem.W.kitOne K (.ref a.eInvalidCell) (.ref a.eInvalidCount) = some false
  x_InvalidCell : PySem.W.exmOne K (.ref a.eInvalidCell) (.ref a.eReadingError) = some true
  k_InvalidCells_InvalidCell : PySem.W.kitOne K (.ref a.eInvalidCells) (.ref a.eInvalidCell) = some false
  k_InvalidCells_InvalidCells : PySem.W.kitOne K (.ref a.eInvalidCells) (.ref a.eInvalidCells) = some true
  k_InvalidCells_InvalidDots : PySem.W.kitOne K (.ref a.eInvalidCells) (.ref a.eInvalidDots) = some false
  k_InvalidCells_InvalidText : PySem.W.kitOne K (.ref a.eInvalidCells) (.ref a.eInvalidText) = some false
  k_InvalidCells_InvalidCount : PySem.W.kitOne K (.ref a.eInvalidCells) (.ref a.eInvalidCount) = some false
  x_InvalidCells : PySem.W.exmOne K (.ref a.eInvalidCells) (.ref a.eReadingError) = some true
  k_InvalidDots_InvalidCell : PySem.W.kitOne K (.ref a.eInvalidDots) (.ref a.eInvalidCell) = some false
  k_InvalidDots_InvalidCells : PySem.W.kitOne K (.ref a.eInvalidDots) (.ref a.eInvalidCells) = some false
  k_InvalidDots_InvalidDots : PySem.W.kitOne K (.ref a.eInvalidDots) (.ref a.eInvalidDots) = some true
  k_InvalidDots_InvalidText : PySem.W.kitOne K (.ref a.eInvalidDots) (.ref a.eInvalidText) = some false
  k_InvalidDots_InvalidCount : PySem.W.kitOne K (.ref a.eInvalidDots) (.ref a.eInvalidCount) = some false
  x_InvalidDots : PySem.W.exmOne K (.ref a.eInvalidDots) (.ref a.eReadingError) = some true
  k_InvalidText_InvalidCell : PySem.W.kitOne K (.ref a.eInvalidText) (.ref a.eInvalidCell) = some false
  k_InvalidText_InvalidCells : PySem.W.kitOne K (.ref a.eInvalidText) (.ref a.eInvalidCells) = some false
  k_InvalidText_InvalidDots : PySem.W.kitOne K (.ref a.eInvalidText) (.ref a.eInvalidDots) = some false
  k_InvalidText_InvalidText : PySem.W.kitOne K (.ref a.eInvalidText) (.ref a.eInvalidText) = some true
  k_InvalidText_InvalidCount : PySem.W.kitOne K (.ref a.eInvalidText) (.ref a.eInvalidCount) = some false
  x_InvalidText : PySem.W.exmOne K (.ref a.eInvalidText) (.ref a.eReadingError) = some true
  g_POWERS : mg "POWERS" = some (.ref a.cPOWERS)
  t_POWERS : TupK K a.cPOWERS [.int (1), .int (2), .int (4), .int (8), .int (16), .int (32)]
  g_SIGNS : ∃ t, mg "SIGNS" = some (.str (Str.ofString " A1B'K2L@CIF/MSP\"E3H9O6R^DJG>NTQ,*5<-U8V.~[$+X!&;:4\\0Z7(_?W]#Y)=") t)
  g_ACROSS : mg "ACROSS" = some (.ref a.cACROSS)
  t_ACROSS : TupK K a.cACROSS [.int (8), .int (16), .int (32), .int (1), .int (2), .int (4)]
  f_dots_of : mg "dots_of" = some (.ref a.fdots_of)
  f_from_behind : mg "from_behind" = some (.ref a.ffrom_behind)
  f_cells_text : mg "cells_text" = some (.ref a.fcells_text)
  f_cells_of_text : mg "cells_of_text" = some (.ref a.fcells_of_text)
  f_cell_of : mg "cell_of" = some (.ref a.fcell_of)
local macro_rules | `(tactic| walk_at "p1") => `(tactic| first
  | (with_reducible refine se_seq ?_)
  | (with_reducible refine se_asg ?_)
  | (with_reducible refine se_ret ?_)
  | (with_reducible refine se_drop ?_)
  | (with_reducible refine se_if ?_)
  | (with_reducible refine se_next ?_)
  | ((with_reducible apply ee_var); rfl)
  | (with_reducible refine ee_c ?_)
  | (with_reducible refine ee_op ?_)
  | (with_reducible refine ee_un ?_)
  | (with_reducible refine ee_cb ?_)
  | (with_reducible refine ea_cons ?_)
  | (with_reducible refine ea_nil ?_)
  | (with_reducible refine ee_sl ?_)
  | (with_reducible refine eo_none ?_)
  | (with_reducible refine eo_some ?_)
  | (with_reducible refine et_test ?_)
  | (with_reducible refine et_not ?_)
  | (with_reducible refine et_B ?_)
  | (with_reducible refine et_and ?_)
  | (with_reducible refine et_or ?_)
  | (with_reducible refine et_yes ?_)
  | (with_reducible refine ee_andV ?_)
  | (with_reducible refine ee_orV ?_)
  | (with_reducible refine ee_notV ?_)
  | (with_reducible refine ee_if ?_)
  | (with_reducible refine ee_chain ?_)
  | (with_reducible refine oo_add ?_)
  | (with_reducible refine oo_lt ?_)
  | (with_reducible refine oo_le ?_)
  | (with_reducible refine oo_leS ?_)
  | (with_reducible refine oo_ltS ?_)
  | (with_reducible refine oo_I0 ?_)
  | (with_reducible refine cc_int ?_)
  | (with_reducible refine cc_max ?_)
  | (with_reducible refine cc_min ?_)
  | (with_reducible refine uu_neg ?_)
  | (refine oo_eq (by rfl) ?_)
  | (refine oo_ne (by rfl) ?_)
  | (with_reducible refine oo_isN ?_)
  | (with_reducible refine oo_notN ?_)
  | (refine cc_isP (by first | rfl | assumption) ?_)
  | (refine cc_isP2 (by first | rfl | assumption) ?_)
  | (refine cc_isP3 (by first | rfl | assumption) ?_)
  | (with_reducible refine ge_name ?_)
  | (refine gw_name (by decide) ?_)
  | (refine ee_tup ?_)
  | (refine ⟨_, rfl, ?_⟩)
  | (refine ⟨_, _, rfl, ?_⟩)
  | (refine ⟨(rfl : yes = yes), ?_⟩)
  | (refine ⟨Nat.le_of_ble_eq_true rfl, ?_⟩)
  | (refine ⟨fun _ => ?_, fun h => absurd (show true = false from h) (by decide)⟩)
  | (refine ⟨fun h => absurd (show false = true from h) (by decide), fun _ => ?_⟩)
  | (refine ⟨fun _ => ?_, fun h => absurd (show false = true from h) (by decide)⟩)
  | (refine ⟨fun h => absurd (show true = false from h) (by decide), fun _ => ?_⟩))
local macro_rules | `(tactic| walk_at "pp") => `(tactic| repeat walk_at "p1")
local macro_rules | `(tactic| walk_at "p0") => `(tactic| try dsimp only [cxOf])
local macro_rules | `(tactic| walk_at "gp") => `(tactic| dsimp only)
/-! ### the purse -/
def PuOk (n : Nat) (l : List D) : Prop := ∃ p0 p1 p2 p3 : Int, l = [.int p0, .int p1, .int p2, .int p3] ∧ 0 ≤ p1 ∧ p1 < 2147483648 ∧ 0 ≤ p2 ∧ p2 ≤ n ∧ 0 ≤ p3 ∧ p3 ≤ 1000
theorem PuOk.cl {n : Nat} {l : List D} (h : PuOk n l) : D.ltL 0 l = true := by
  obtain ⟨p0, p1, p2, p3, rfl, _⟩ := h
  rfl
theorem mulW {i j : Int} (a b : Nat) (h1 : i.natAbs < 2 ^ a) (h2 : j.natAbs < 2 ^ b) (h0 : 0 < a := by decide) (h3 : 0 < b := by decide) (h : a + b ≤ 1000000 := by decide) : CMulW i j := wide_mul h1 h2 h0 h3 h
abbrev spMixed (K : PySem.W.Frag) : Sp := ProP K (T := Int × Int × Int) (fun t => [.int t.1, .int t.2.1, .int t.2.2]) (fun t => 0 ≤ t.1 ∧ t.1 < 2147483648 ∧ 0 ≤ t.2.1 ∧ t.2.1 < 1000000003 ∧ 0 ≤ t.2.2 ∧ t.2.2 ≤ 1000) (fun _ d => ∃ v : Int, d = .int v ∧ 0 ≤ v ∧ v < 2147483648) (fun _ _ _ => False)
abbrev st__law_mixed : Stmt := top 25
abbrev nm__law_mixed : List Str := ["seed", "spin", "at", "mixed"]
theorem sc__law_mixed : FnScope nm__law_mixed ["seed", "spin", "at"] (defScope st__law_mixed) := ⟨rfl, rfl, rfl, by decide +kernel, rfl, by decide +kernel, by decide +kernel⟩
theorem ok_mixed {P : Program} {w : World} {K : PySem.W.Frag} {mg : Str → Option Value} {base : Heap} {a : Ad} {f : Addr} {fd : FuncData} (F : Fun K "_law_mixed" "_law_mixed" st__law_mixed f fd) (T : Tx P w K mg base a) : FnOk P w K mg base (L2.CX P w) 1 f fd ["seed", "spin", "at"] (spMixed K) := by
  refine F.okX sc__law_mixed (fun vs H Q E h => pro_len h fun _ => rfl) (fun cdv A outer s H vs Q E hr h => ⟨_, (pss_cons (ps_set (i := 3) sc__law_mixed.nd rfl (by first | exact Or.inl rfl | exact Or.inr rfl) (pe_op (kO K rPlus rfl op_plus) (pe_op op_timesU (pv 0) pe_int) (pe_op op_timesU (pe_op op_timesU pe_int (pv 1)) (pv 1))))
    (pss_cons (ps_set (i := 3) sc__law_mixed.nd rfl (by first | exact Or.inl rfl | exact Or.inr rfl) (pe_op op_mod (pe_callTy call_int1 (by rfl) T.b_int (by decide +kernel) (pa_cons (pe_op (kO K rPlus rfl op_plus) (pe_op (kO K rPlus rfl op_plus) (pv 3) (pe_op op_timesU pe_int (pv 2))) (pv 1)) pa_nil)) pe_int))
    (pss_cons (ps_set (i := 3) sc__law_mixed.nd rfl (by first | exact Or.inl rfl | exact Or.inr rfl) (pe_op op_mod (pe_callTy call_int1 (by rfl) T.b_int (by decide +kernel) (pa_cons (pe_op (kO K rPlus rfl op_plus) (pe_op op_timesU (pv 3) (pv 3)) pe_int) pa_nil)) pe_int))
    (pss_one (ps_ret (pe_op op_mod (pe_callTy call_int1 (by rfl) T.b_int (by decide +kernel) (pa_cons (pe_op op_timesU (pv 3) pe_int) pa_nil)) pe_int)))))), run_body h fun ⟨s, n, at'⟩ S ⟨h1, h2, h3, h4, h5, h6⟩ hl hcl wi => ?_⟩)
  dsimp only at h1 h2 h3 h4 h5 h6
  walk_at "p0"
  have m1 : 0 ≤ n * n ∧ n * n ≤ 1000000003 * 1000000003 := ⟨Int.mul_nonneg h3 h3, Int.mul_le_mul (by omega) (by omega) h3 (by omega)⟩
  walk_at "pp"
  refine oo_mul (mulW 32 40 (by omega) (by decide)) ?_
  walk_at "pp"
  refine oo_mul (mulW 40 32 (by decide) (by omega)) ?_
  walk_at "pp"
  refine oo_mul (mulW 70 32 (by omega) (by omega)) ?_
  walk_at "pp"
  refine oo_mul (mulW 40 32 (by decide) (by omega)) ?_
  walk_at "pp"
  refine oo_mod (by decide) ?_
  walk_at "pp"
  have b1 := Int.emod_nonneg (s * 69069 + 104729 * n * n + 7919 * at' + n) (show (2147483647 : Int) ≠ 0 by decide)
  have b2 := Int.emod_lt_of_pos (s * 69069 + 104729 * n * n + 7919 * at' + n) (show (0 : Int) < 2147483647 by decide)
  refine oo_mul (mulW 32 32 (by omega) (by omega)) ?_
  walk_at "pp"
  refine oo_mod (by decide) ?_
  walk_at "pp"
  generalize (s * 69069 + 104729 * n * n + 7919 * at' + n) % 2147483647 = z
  have b3 := Int.emod_nonneg (z * z + 40503) (show (2147483629 : Int) ≠ 0 by decide)
  have b4 := Int.emod_lt_of_pos (z * z + 40503) (show (0 : Int) < 2147483629 by decide)
  refine oo_mul (mulW 32 32 (by omega) (by omega)) ?_
  walk_at "pp"
  refine oo_mod (by decide) ?_
  walk_at "pp"
  have b5 := Int.emod_nonneg ((z * z + 40503) % 2147483629 * 48271) (show (2147483587 : Int) ≠ 0 by decide)
  have b6 := Int.emod_lt_of_pos ((z * z + 40503) % 2147483629 * 48271) (show (0 : Int) < 2147483587 by decide)
  walk_at "gp"
  refine gaveP hl (by rfl) ?_
  exact ⟨_, rfl, b5, by omega⟩
theorem bits_le {m : Int} (h0 : 0 < m) (h : m ≤ 1000000) : Builtin.Int.intBits m ≤ 27 := by
  have h1 : m.natAbs.log2 < 27 := by
    rw [Nat.log2_lt (by omega)]
    have : (1000000 : Nat) < 2 ^ 27 := by decide
    omega
  unfold Builtin.Int.intBits
  split <;> omega
abbrev spDraw (K : PySem.W.Frag) : Sp := Pro K (T := List D × Int × Nat) (fun t => [.lst t.1]) (fun t => [.own 0, .int t.2.1]) (fun t => PuOk t.2.2 t.1 ∧ 0 < t.2.1 ∧ t.2.1 ≤ 1000000 ∧ t.2.2 ≤ 1000000000)
  (fun t d μ => ∃ (v : Int) (l' : List D), d = .int v ∧ 0 ≤ v ∧ v < t.2.1 ∧ μ = [.lst l'] ∧ PuOk (t.2.2 + 1) l') (fun _ _ _ _ => False)
abbrev st__law_draw : Stmt := top 26
abbrev nm__law_draw : List Str := ["purse", "many", "drawn", "found", "piece"]
theorem sc__law_draw : FnScope nm__law_draw ["purse", "many"] (defScope st__law_draw) := ⟨rfl, rfl, rfl, by decide +kernel, rfl, by decide +kernel, by decide +kernel⟩
theorem ok_draw {P : Program} {w : World} {K : PySem.W.Frag} {mg : Str → Option Value} {base : Heap} {a : Ad} {f : Addr} {fd : FuncData} (F : Fun K "_law_draw" "_law_draw" st__law_draw f fd) (T : Tx P w K mg base a)
    (c__law_mixed : CalX P w K mg base 1 "_law_mixed" ["seed", "spin", "at"] (spMixed K)) : FnOk P w K mg base (L2.CX P w) 2 f fd ["purse", "many"] (spDraw K) := by
  refine F.okX sc__law_draw (fun vs H Q E h => pro_len h fun _ => rfl) (fun cdv A outer s H vs Q E hr h => ⟨_, (pss_cons (ps_if (pt_cmpR op_gt (pe_ix (kX K rIx rfl ix_seq) (pv 0) pe_int (fun _ _ => rfl)) pe_int (nomark _)) (pss_cons (ps_set (i := 2) sc__law_draw.nd rfl (by first | exact Or.inl rfl | exact Or.inr rfl) (pe_op op_mod (pe_callTy call_int1 (by rfl) T.b_int (by decide +kernel) (pa_cons (pe_ix (kX K rIx rfl ix_seq) (pv 0) pe_int (fun _ _ => rfl)) pa_nil)) (pv 1)))
    (pss_cons (ps_asg (pe_op op_fdivW (pe_ix (kX K rIx rfl ix_seq) (pv 0) pe_int (fun _ _ => rfl)) (pv 1)) (pg_sub (pv 0) pe_int pset_list))
    (pss_one (ps_ret (pv 2))))) pss_nil)
    (pss_cons (ps_set (i := 3) sc__law_draw.nd rfl (by first | exact Or.inl rfl | exact Or.inr rfl) pe_int)
    (pss_cons (ps_for (passes_of rfl) rfl (pi_range1 rfl T.b_range (pa_cons (pe_op (kO K rPlus rfl op_plus) pe_int (pe_op op_fdivW (pe_bits (pv 1)) pe_int)) pa_nil)) (pg_name (i := 4) sc__law_draw.nd rfl (by first | exact Or.inl rfl | exact Or.inr rfl))
      (pss_cons (ps_asg (pe_op (kO K rPlus rfl op_plus) (pe_ix (kX K rIx rfl ix_seq) (pv 0) pe_int (fun _ _ => rfl)) pe_int) (pg_sub (pv 0) pe_int pset_list))
    (pss_one (ps_set (i := 3) sc__law_draw.nd rfl (by first | exact Or.inl rfl | exact Or.inr rfl) (pe_op (kO K rPlus rfl op_plus) (pe_op op_timesU (pv 3) pe_int) (pe_c c__law_mixed hr (by first | decide | exact Nat.le_refl _) rfl (passes_call (takes_of rfl rfl rfl rfl) (fun _ _ _ _ h => h)) (pa_cons (pe_ix (kX K rIx rfl ix_seq) (pv 0) pe_int (fun _ _ => rfl)) (pa_cons (pe_ix (kX K rIx rfl ix_seq) (pv 0) pe_int (fun _ _ => rfl)) (pa_cons (pe_ix (kX K rIx rfl ix_seq) (pv 0) pe_int (fun _ _ => rfl)) pa_nil)))))))))
    (pss_one (ps_ret (pe_op op_mod (pe_callTy call_int1 (by rfl) T.b_int (by decide +kernel) (pa_cons (pv 3) pa_nil)) (pv 1))))))), run_body h fun ⟨l, m, n⟩ S ⟨⟨p0, p1, p2, p3, el, h1, h2, h3, h4, h5, h6⟩, hm0, hm1, hn⟩ hl hcl wi => ?_⟩)
  dsimp only at el hm0 hm1 hn h1 h2 h3 h4 h5 h6
  subst el
  have hS : S.A.length = 1 := hl
  walk_at "p0"
  have q : ∀ {d : D} {μ : List Cell} {C : D → List Cell → Prop} {l : List D} {i : Int}, μ[0]? = some (.lst l) → atI l i = some d → C d μ → OO K S (rIx K) (.own 0) (.int i) μ C := fun h1 h2 h3 => oo_ixO h1 h2 h3
  walk_at "pp"
  refine q rfl rfl ?_
  walk_at "pp"
  refine ⟨fun hb => ?_, fun hb => ?_⟩
  · walk_at "pp"
    refine q rfl rfl ?_
    walk_at "pp"
    refine oo_mod hm0 ?_
    walk_at "pp"
    refine se_asgG ?_
    walk_at "pp"
    refine q rfl rfl ?_
    walk_at "pp"
    refine oo_div (wide_div hm0 (b := 40) (by omega) (by decide) (by decide)) ?_
    refine ge_setL ?_
    walk_at "pp"
    refine ⟨0, 0, 0, _, rfl, rfl, rfl, rfl, ?_⟩
    walk_at "pp"
    walk_at "gp"
    refine gave1 hS (by rfl) (by rfl) ?_
    exact ⟨p0 % m, _, rfl, Int.emod_nonneg _ (by omega), Int.emod_lt_of_pos _ hm0, rfl, ⟨p0 / m, p1, p2, p3, rfl, h1, h2, h3, by omega, h5, h6⟩⟩
  · walk_at "pp"
    refine se_for (ie_rng1 ?_)
    walk_at "pp"
    refine ee_bits ?_
    walk_at "pp"
    refine oo_div (wide_div (by decide) (b := 40) (by decide) (by decide) (by decide)) ?_
    walk_at "pp"
    have hbit := bits_le hm0 hm1
    have e1 : (1 + ((Builtin.Int.intBits m : Nat) : Int) / 28) = 1 := by omega
    refine ⟨by rw [e1]; decide, by rw [e1]; decide, ?_⟩
    rw [e1]
    refine ⟨rfl, fun i δ μ => ∃ (fo : Int) (o : Option D) (l' : List D), δ = [some (.own 0), some (.int m), none, some (.int fo), o] ∧ μ = [.lst l'] ∧ 0 ≤ fo ∧ (i = 0 → fo = 0) ∧ PuOk (n + i) l', ⟨0, none, _, rfl, rfl, by decide, fun _ => rfl, ⟨p0, p1, p2, p3, rfl, h1, h2, h3, by omega, h5, h6⟩⟩, ?_, ?_⟩
    · rintro i x δ μ hi ⟨fo, o, l', rfl, rfl, f0, f1, ⟨p0, p1, p2, p3, rfl, h1, h2, h3, h4, h5, h6⟩⟩
      have hi0 : i = 0 := by
        have := (List.getElem?_eq_some_iff.mp hi).1
        have hl1 : (rng 0 (1 : Int).toNat).length = 1 := rfl
        omega
      subst hi0
      have fo0 := f1 rfl
      subst fo0
      walk_at "pp"
      refine se_asgG ?_
      walk_at "pp"
      refine q rfl rfl ?_
      walk_at "pp"
      refine ge_setL ?_
      walk_at "pp"
      refine ⟨0, 2, 2, _, rfl, rfl, rfl, rfl, ?_⟩
      walk_at "pp"
      refine oo_mul (mulW 32 40 (by decide) (by decide)) ?_
      walk_at "pp"
      refine ee_cz ?_
      walk_at "pp"
      refine q rfl rfl ?_
      walk_at "pp"
      refine q rfl rfl ?_
      walk_at "pp"
      refine q rfl rfl ?_
      walk_at "pp"
      refine ⟨(p1, p2 + 1, p3), ⟨h1, h2, by show 0 ≤ p2 + 1; omega, by show p2 + 1 < _; omega, h5, h6⟩, rfl, rfl, ?_⟩
      rintro r ⟨v, rfl, v0, v1⟩
      walk_at "pp"
      exact ⟨_, _, _, rfl, rfl, by omega, fun z => by omega, ⟨p0, p1, p2 + 1, p3, rfl, h1, h2, by omega, by omega, h5, h6⟩⟩
    · rintro δ μ ⟨fo, o, l', rfl, rfl, f0, f1, hp⟩
      walk_at "pp"
      refine oo_mod hm0 ?_
      walk_at "pp"
      walk_at "gp"
      refine gave1 hS (by rfl) hp.cl ?_
      exact ⟨fo % m, _, rfl, Int.emod_nonneg _ (by omega), Int.emod_lt_of_pos _ hm0, rfl, hp⟩


section
variable {P : Program} {w : World} {K : PySem.W.Frag} {mg : Str → Option Value} {base : Heap} {a : Ad} {f : Addr} {fd : FuncData}
abbrev spPurse (K : PySem.W.Frag) : Sp := ProN K (T := List Int × Nat) (fun t => [.rd (t.1.map D.int), .int (t.2 : Int)]) (fun t => t.2 ≤ 1000) (fun _ l => PuOk 0 l) (fun _ _ _ => False)
abbrev st__law_purse : Stmt := top 24
abbrev nm__law_purse : List Str := ["script", "at", "seed"]
theorem sc__law_purse : FnScope nm__law_purse ["script", "at"] (defScope st__law_purse) := ⟨rfl, rfl, rfl, by decide +kernel, rfl, by decide +kernel, by decide +kernel⟩
theorem ok_purse (F : Fun K "_law_purse" "_law_purse" st__law_purse f fd) (T : Tx P w K mg base a) : FnOk P w K mg base (L2.CX P w) 1 f fd ["script", "at"] (spPurse K) := by
  refine F.okX sc__law_purse (fun vs H Q E h => pro_len h fun _ => rfl) (fun cdv A outer s H vs Q E hr h => ⟨_, (pss_cons (ps_set (i := 2) sc__law_purse.nd rfl (by first | exact Or.inl rfl | exact Or.inr rfl) (pe_callB (kC K rSum rfl (cr_sum rfl)) (by rfl) T.b_sum (by decide +kernel) (pa_cons (pe_slice (kS K rSlU rfl sl_U) (pv 0) (po_some (pv 1)) (po_some (pe_op (kO K rPlus rfl op_plus) (pv 1) pe_int))) pa_nil)))
    (pss_one (ps_ret (pe_lst (pa_cons (pe_op op_mod (pe_callTy call_int1 (by rfl) T.b_int (by decide +kernel) (pa_cons (pe_callB (call_max2 rfl) (by rfl) T.b_max (by decide +kernel) (pa_cons (pe_op op_sub (pv 2) (pe_op op_powW pe_int pe_int)) (pa_cons pe_int pa_nil))) pa_nil)) (pe_op op_powW (pe_op op_powW pe_int pe_int) pe_int)) (pa_cons (pe_op op_mod (pe_callTy call_int1 (by rfl) T.b_int (by decide +kernel) (pa_cons (pv 2) pa_nil)) pe_int) (pa_cons pe_int (pa_cons (pv 1) pa_nil)))))))), run_body h fun ⟨ns, n⟩ S hn hl hcl wi => ?_⟩)
  have hn : n ≤ 1000 := hn
  walk_at "p0"
  walk_at "pp"
  refine ss_rd ?_
  rw [cut_map]
  generalize ((ns.drop _).take _ : List Int) = ms
  walk_at "pp"
  refine cc_sum (.lst _) ?_
  walk_at "pp"
  refine ee_open ?_
  walk_at "pp"
  refine oo_powW ⟨by decide, by decide +kernel⟩ ?_
  walk_at "pp"
  refine oo_powW ⟨by decide, by decide +kernel⟩ ?_
  walk_at "pp"
  refine oo_powW ⟨by decide, by decide +kernel⟩ ?_
  refine oo_mod (by decide +kernel) ?_
  walk_at "pp"
  refine oo_mod (by decide) ?_
  walk_at "pp"
  have b1 := Int.emod_nonneg ms.sum (show (2147483629 : Int) ≠ 0 by decide)
  have b2 := Int.emod_lt_of_pos ms.sum (show (0 : Int) < 2147483629 by decide)
  walk_at "gp"
  refine gaveN hl (k := 0) rfl (by rfl) ?_
  exact ⟨_, _, _, _, rfl, b1, by omega, by decide, by decide, by omega, by omega⟩
end


section
variable {P : Program} {w : World} {K : PySem.W.Frag} {mg : Str → Option Value} {base : Heap} {a : Ad} {f : Addr} {fd : FuncData}
inductive Pick : D → D → Prop
  | lst {xs : List D} {x : D} : x ∈ xs → Pick (.lst xs) x
  | str {s : Str} {c : Nat} : c ∈ cp s → Pick (.str s) (.str ⟨#[c]⟩)
def PickOk (d : D) : Prop := (∃ xs, d = .lst xs ∧ 0 < xs.length ∧ xs.length ≤ 1000000 ∧ D.ltL 0 xs = true) ∨ (∃ s, d = .str s ∧ 0 < (cp s).length ∧ (cp s).length ≤ 1000000)
abbrev spOneOf (K : PySem.W.Frag) : Sp := Pro K (T := List D × D × Nat) (fun t => [.lst t.1]) (fun t => [.own 0, t.2.1]) (fun t => PuOk t.2.2 t.1 ∧ t.2.2 ≤ 1000000000 ∧ PickOk t.2.1)
  (fun t d μ => Pick t.2.1 d ∧ d.lt 0 = true ∧ ∃ l', μ = [.lst l'] ∧ PuOk (t.2.2 + 1) l') (fun _ _ _ _ => False)
abbrev st__law_one_of : Stmt := top 27
abbrev nm__law_one_of : List Str := ["purse", "some"]
theorem sc__law_one_of : FnScope nm__law_one_of ["purse", "some"] (defScope st__law_one_of) := ⟨rfl, rfl, rfl, by decide +kernel, rfl, by decide +kernel, by decide +kernel⟩
theorem ok_one_of (F : Fun K "_law_one_of" "_law_one_of" st__law_one_of f fd) (T : Tx P w K mg base a) (c__law_draw : CalX P w K mg base 2 "_law_draw" ["purse", "many"] (spDraw K)) : FnOk P w K mg base (L2.CX P w) 3 f fd ["purse", "some"] (spOneOf K) := by
  refine F.okX sc__law_one_of (fun vs H Q E h => pro_len h fun _ => rfl) (fun cdv A outer s H vs Q E hr h => ⟨_, (pss_one (ps_ret (pe_ix (kX K rIx rfl ix_seq) (pv 1) (pe_c c__law_draw hr (by first | decide | exact Nat.le_refl _) rfl (passes_call (takes_of rfl rfl rfl rfl) (fun _ _ _ _ h => h)) (pa_cons (pv 0) (pa_cons (pe_callB (kC K rLenU rfl call_lenU) (by rfl) T.b_len (by decide +kernel) (pa_cons (pv 1) pa_nil)) pa_nil))) (fun _ _ => rfl)))), run_body h fun ⟨l, d, n⟩ S ⟨hp, hn, hd⟩ hl hcl wi => ?_⟩)
  have hp : PuOk n l := hp
  have hn : n ≤ 1000000000 := hn
  have hS : S.A.length = 1 := hl
  walk_at "p0"
  walk_at "pp"
  refine ee_cz1 0 ?_
  walk_at "pp"
  rcases hd with ⟨xs, rfl, h0, h1, hno⟩ | ⟨s, rfl, h0, h1⟩
  · refine cc_len (.lst _) ?_
    walk_at "pp"
    refine ⟨(l, (xs.length : Int), n), l, ⟨hp, by show (0 : Int) < (xs.length : Int); omega, by show (xs.length : Int) ≤ 1000000; omega, hn⟩, rfl, hp.cl, rfl, hand1 rfl, fun d c ⟨v, l', hr, v0, v1, hc, hp'⟩ => ?_⟩
    subst hr
    subst hc
    refine ⟨rfl, l', rfl, hp'.cl, ?_⟩
    have v1 : v < (xs.length : Int) := v1
    have hv : v.toNat < xs.length := by omega
    refine oo_ixL (atI_of (j := v.toNat) (List.getElem?_eq_getElem hv) (by omega)) ?_
    have hm : xs[v.toNat] ∈ xs := List.getElem_mem hv
    have hx := D.ltL_all.mp hno _ hm
    walk_at "gp"
    refine gave1 hS hx hp'.cl ?_
    exact ⟨.lst hm, hx, l', rfl, hp'⟩
  · refine cc_lenS (by rw [len_cp]; omega) ?_
    walk_at "pp"
    have e := len_cp s
    refine ⟨(l, (s.length : Int), n), l, ⟨hp, by show (0 : Int) < (s.length : Int); omega, by show (s.length : Int) ≤ 1000000; omega, hn⟩, rfl, hp.cl, rfl, hand1 rfl, fun d c ⟨v, l', hr, v0, v1, hc, hp'⟩ => ?_⟩
    subst hr
    subst hc
    refine ⟨rfl, l', rfl, hp'.cl, ?_⟩
    have v1 : v < (s.length : Int) := v1
    have hv : v.toNat < (cp s).length := by omega
    refine oo_ixS (by omega) (atI_of (j := v.toNat) (show (cp s)[v.toNat]? = _ from List.getElem?_eq_getElem hv) (by omega)) ?_
    walk_at "gp"
    refine gave1 hS (by rfl) hp'.cl ?_
    exact ⟨.str (List.getElem_mem hv), rfl, l', rfl, hp'⟩
end


section
variable {P : Program} {w : World} {K : PySem.W.Frag} {mg : Str → Option Value} {base : Heap} {a : Ad} {f : Addr} {fd : FuncData}
/-! ### alike in all -/
def noDic : D → Bool
  | .dic _ _ => false
  | _ => true
def exOk : Nat → D → Bool
  | 0, _ => false
  | _ + 1, .v .non => true
  | _ + 1, .v (.bl _) => true
  | _ + 1, .v (.int _) => true
  | _ + 1, .v (.str _) => true
  | n + 1, .lst l => decide (l.length ≤ 1000000) && l.all (fun x => noDic x && exOk n x)
  | n + 1, .tup l => decide (l.length ≤ 1000000) && l.all (fun x => noDic x && exOk n x)
  | _ + 1, .dic _ _ => true
  | _ + 1, _ => false
def exR : D → Bool
  | .dic _ _ => false
  | _ => true
abbrev spExact (K : PySem.W.Frag) (n : Nat) : Sp := ProP K (T := D) (fun d => [d, d]) (fun d => exOk n d = true) (fun d r => r = .bl (exR d)) (fun _ _ _ => False)
theorem exOk_pl {n : Nat} {d : D} (h : exOk n d = true) : d.pl = true := by
  cases n with
  | zero => cases h
  | succ n =>
    cases d with
    | v x => cases x <;> first | rfl | (cases h; done)
    | lst l => rfl
    | rd l => cases h
    | tup l => rfl
    | dic ks l => rfl
    | exc c d => cases h
    | own k => cases h
theorem zip_self : ∀ {l : List D} {x : D}, x ∈ zipD l l → ∃ y ∈ l, x = .tup [y, y]
  | [], _, h => by cases h
  | z :: l, x, h => by
    rcases List.mem_cons.mp (show x ∈ D.tup [z, z] :: zipD l l from h) with e | h
    · exact ⟨z, List.mem_cons_self, e⟩
    · obtain ⟨y, h1, h2⟩ := zip_self h
      exact ⟨y, List.mem_cons_of_mem _ h1, h2⟩
abbrev st__law_exact : Stmt := top 28
abbrev nm__law_exact : List Str := ["mine", "theirs", "is_like", "a", "b"]
theorem sc__law_exact : FnScope nm__law_exact ["mine", "theirs"] (defScope st__law_exact) := ⟨rfl, rfl, rfl, by decide +kernel, rfl, by decide +kernel, by decide +kernel⟩
theorem ok_exact (F : Fun K "_law_exact" "_law_exact" st__law_exact f fd) (T : Tx P w K mg base a) (hm : mg "_law_exact" = some (.ref f)) (hk : PySem.W.keepIn K (.ref f) = true) (hb : Binds K fd ["mine", "theirs"] []) :
    ∀ n, FnOk P w K mg base (L2.CX P w) (n + 1) f fd ["mine", "theirs"] (spExact K n)
  | 0 => F.okX sc__law_exact (fun vs H Q E h => pro_len h fun _ => rfl) fun cdv A outer s H vs Q E hr h => by
    obtain ⟨x, _, _, hp, _⟩ := h
    cases hp
  | n + 1 => by
    have c__law_exact : CalX P w K mg base (n + 1) "_law_exact" ["mine", "theirs"] (spExact K n) := ⟨f, fd, ok_exact F T hm hk hb n, hm, hk, hb⟩
    refine F.okX sc__law_exact (fun vs H Q E h => pro_len h fun _ => rfl) (fun cdv A outer s H vs Q E hr h => ⟨_, (pss_cons (ps_if (pt_val (pe_callB (kC K rIsiU rfl call_isU) (by rfl) T.b_isinstance (by decide +kernel) (pa_cons (pv 0) (pa_cons (pe_tup (pa_cons (pe_bltn (v := .ty "list") (by rfl) T.b_list (by decide +kernel) rfl) (pa_cons (pe_bltn (v := .ty "tuple") (by rfl) T.b_tuple (by decide +kernel) rfl) pa_nil))) pa_nil)))) (pss_cons (ps_set (i := 2) sc__law_exact.nd rfl (by first | exact Or.inl rfl | exact Or.inr rfl) (pe_and (pe_cmpR (kO K rEqU rfl (op_eqU (hu64 hr))) (pe_callB (kC K rIsiU rfl call_isU) (by rfl) T.b_isinstance (by decide +kernel) (pa_cons (pv 1) (pa_cons (pe_bltn (v := .ty "list") (by rfl) T.b_list (by decide +kernel) rfl) pa_nil))) (pe_callB (kC K rIsiU rfl call_isU) (by rfl) T.b_isinstance (by decide +kernel) (pa_cons (pv 0) (pa_cons (pe_bltn (v := .ty "list") (by rfl) T.b_list (by decide +kernel) rfl) pa_nil))) (nomark _)) (pe_one (pe_cmpR (kO K rEqU rfl (op_eqU (hu64 hr))) (pe_callB (kC K rIsiU rfl call_isU) (by rfl) T.b_isinstance (by decide +kernel) (pa_cons (pv 1) (pa_cons (pe_bltn (v := .ty "tuple") (by rfl) T.b_tuple (by decide +kernel) rfl) pa_nil))) (pe_callB (kC K rIsiU rfl call_isU) (by rfl) T.b_isinstance (by decide +kernel) (pa_cons (pv 0) (pa_cons (pe_bltn (v := .ty "tuple") (by rfl) T.b_tuple (by decide +kernel) rfl) pa_nil))) (nomark _)))))
    (pss_one (ps_ret (pe_and (pv 2) (pe_and (pe_cmpR (kO K rEqU rfl (op_eqU (hu64 hr))) (pe_callB (kC K rLenU rfl call_lenU) (by rfl) T.b_len (by decide +kernel) (pa_cons (pv 0) pa_nil)) (pe_callB (kC K rLenU rfl call_lenU) (by rfl) T.b_len (by decide +kernel) (pa_cons (pv 1) pa_nil)) (nomark _)) (pe_one (pe_callB (kC K rAll rfl (cr_all rfl)) (by rfl) T.b_all (by decide +kernel) (pa_cons (pe_lc (own := [("a", 3), ("b", 4)]) (tt := tYes) (g := (gTup K 2 (gCons (gName 3) (gCons (gName 4) gNil)))) rfl sc__law_exact.nd (pi_zipAK (K := K) rfl (by rfl) T.b_zip (pa_cons (pv 0) (pa_cons (pv 1) pa_nil))) (blkOk_by (own := [("a", 3), ("b", 4)]) (N := nm__law_exact) (sc := (defScope st__law_exact)) (by decide +kernel)) (fun _ _ _ _ _ => (pg_tupK (K := K) rfl rfl (pgs_cons (pg_name (i := 3) sc__law_exact.nd rfl (by first | exact Or.inl rfl | exact Or.inr rfl)) (pgs_cons (pg_name (i := 4) sc__law_exact.nd rfl (by first | exact Or.inl rfl | exact Or.inr rfl)) pgs_nil)))) (fun _ _ _ _ _ => pts_nil) (fun _ _ _ _ _ => (pe_c c__law_exact hr (by first | decide | exact Nat.le_refl _) rfl passL (pa_cons (pv 3) (pa_cons (pv 4) pa_nil))))) pa_nil)))))))) pss_nil)
    (pss_cons (ps_if (PW.pt (pw_or (pt_val (pe_callB (kC K rIsiU rfl call_isU) (by rfl) T.b_isinstance (by decide +kernel) (pa_cons (pv 1) (pa_cons (pe_tup (pa_cons (pe_bltn (v := .ty "list") (by rfl) T.b_list (by decide +kernel) rfl) (pa_cons (pe_bltn (v := .ty "tuple") (by rfl) T.b_tuple (by decide +kernel) rfl) (pa_cons (pe_bltn (v := .ty "dict") (by rfl) T.b_dict (by decide +kernel) rfl) pa_nil)))) pa_nil)))) (pw_or1 (pt_cmpR (kO K rNeU rfl (op_neU (hu64 hr))) (pe_cmpR op_isN (pv 0) pe_non (nomark _)) (pe_cmpR op_isN (pv 1) pe_non (nomark _)) (nomark _))))) (pss_one (ps_ret pe_bl)) pss_nil)
    (pss_cons (ps_set (i := 2) sc__law_exact.nd rfl (by first | exact Or.inl rfl | exact Or.inr rfl) (pe_and (pe_cmpR (kO K rEqU rfl (op_eqU (hu64 hr))) (pe_callB (kC K rIsiU rfl call_isU) (by rfl) T.b_isinstance (by decide +kernel) (pa_cons (pv 0) (pa_cons (pe_bltn (v := .ty "int") (by rfl) T.b_int (by decide +kernel) rfl) pa_nil))) (pe_callB (kC K rIsiU rfl call_isU) (by rfl) T.b_isinstance (by decide +kernel) (pa_cons (pv 1) (pa_cons (pe_bltn (v := .ty "int") (by rfl) T.b_int (by decide +kernel) rfl) pa_nil))) (nomark _)) (pe_one (pe_cmpR (kO K rEqU rfl (op_eqU (hu64 hr))) (pe_callB (kC K rIsiU rfl call_isU) (by rfl) T.b_isinstance (by decide +kernel) (pa_cons (pv 0) (pa_cons (pe_bltn (v := .ty "str") (by rfl) T.b_str (by decide +kernel) rfl) pa_nil))) (pe_callB (kC K rIsiU rfl call_isU) (by rfl) T.b_isinstance (by decide +kernel) (pa_cons (pv 1) (pa_cons (pe_bltn (v := .ty "str") (by rfl) T.b_str (by decide +kernel) rfl) pa_nil))) (nomark _)))))
    (pss_one (ps_ret (pe_and (pv 2) (pe_and (pe_cmpR (kO K rEqU rfl (op_eqU (hu64 hr))) (pe_callB (kC K rIsiU rfl call_isU) (by rfl) T.b_isinstance (by decide +kernel) (pa_cons (pv 0) (pa_cons (pe_bltn (v := .ty "bool") (by rfl) T.b_bool (by decide +kernel) rfl) pa_nil))) (pe_callB (kC K rIsiU rfl call_isU) (by rfl) T.b_isinstance (by decide +kernel) (pa_cons (pv 1) (pa_cons (pe_bltn (v := .ty "bool") (by rfl) T.b_bool (by decide +kernel) rfl) pa_nil))) (nomark _)) (pe_one (pe_cmpR (kO K rEqU rfl (op_eqU (hu64 hr))) (pv 0) (pv 1) (nomark _)))))))))), run_body h fun d S hp hl hcl wi => ?_⟩)
    have hp : exOk (n + 1) d = true := hp
    have hd0 : d.lt 0 = true := by
      have z : (d.lt S.A.length && (d.lt S.A.length && true)) = true := hcl
      rw [hl] at z
      exact (Bool.and_eq_true_iff.mp z).1
    have hpl := exOk_pl hp
    walk_at "p0"
    have deep : ∀ (l : List D), l.all (fun x => noDic x && exOk n x) = true → D.ltL 0 l = true → ∀ x ∈ zipD l l, ∃ y, x = .tup [y, y] ∧ noDic y = true ∧ exOk n y = true ∧ y.lt 0 = true := fun l h h0 x hx => by
      obtain ⟨y, hy, e⟩ := zip_self hx
      have z := Bool.and_eq_true_iff.mp (List.all_eq_true.mp h y hy)
      exact ⟨y, e, z.1, z.2, D.ltL_all.mp h0 y hy⟩
    have same : ∀ (l : List D), ((zipD l l).filter fun _ => true).map (fun _ => D.bl true) = (List.replicate l.length true).map D.bl := fun l => by
      rw [List.filter_eq_self.mpr fun _ _ => rfl, List.map_const', List.map_replicate, zipD_len, Nat.min_self]
    cases d with
    | v x =>
      cases x with
      | non => walk_at "pp"; walk_at "gp"; refine gaveP hl (by rfl) ?_; rfl
      | bl b => walk_at "pp"; walk_at "gp"; refine gaveP hl (by rfl) ?_; (show D.bl _ = D.bl true); simp
      | int i => walk_at "pp"; walk_at "gp"; refine gaveP hl (by rfl) ?_; (show D.bl _ = D.bl true); simp
      | str s => walk_at "pp"; walk_at "gp"; refine gaveP hl (by rfl) ?_; (show D.bl _ = D.bl true); simp
      | _ => cases hp
    | lst l =>
      rw [show exOk (n + 1) (.lst l) = (decide (l.length ≤ 1000000) && l.all (fun x => noDic x && exOk n x)) from rfl, Bool.and_eq_true] at hp
      have hz := of_decide_eq_true hp.1
      walk_at "pp"
      refine cc_len (.lst _) ?_
      walk_at "pp"
      refine cc_len (.lst _) ?_
      walk_at "pp"
      refine ⟨fun _ => ?_, fun h => absurd h (by simp)⟩
      walk_at "pp"
      refine ee_lc (ie_zipA ?_)
      walk_at "pp"
      refine ⟨l, l, .inl rfl, fun _ h => h, trivial, fun _ => true, fun _ => .bl true, by rw [zipD_len, Nat.min_self]; omega, fun _ _ _ => rfl, fun x acc hx => ?_, ?_⟩
      · obtain ⟨y, rfl, hnd, hy, hy0⟩ := deep l hp.2 hd0 x hx
        have hyr : exR y = true := by cases y <;> first | rfl | cases hnd
        refine gw_pair (by decide) (by decide) ?_
        walk_at "pp"
        refine ⟨rfl, rfl, fun _ => ?_⟩
        refine ee_cz ?_
        walk_at "pp"
        exact ⟨y, hy, rfl, by show (y.lt 0 && (y.lt 0 && true)) = true; rw [hy0]; rfl, fun r hr => ⟨by rw [hr, hyr], rfl⟩⟩
      · rw [same]
        walk_at "pp"
        refine cc_all (.lst _) ?_
        walk_at "gp"; refine gaveP hl (by rfl) ?_; (show D.bl _ = D.bl true); simp
    | tup l =>
      rw [show exOk (n + 1) (.tup l) = (decide (l.length ≤ 1000000) && l.all (fun x => noDic x && exOk n x)) from rfl, Bool.and_eq_true] at hp
      have hz := of_decide_eq_true hp.1
      walk_at "pp"
      refine cc_len (.tup _) ?_
      walk_at "pp"
      refine cc_len (.tup _) ?_
      walk_at "pp"
      refine ⟨fun _ => ?_, fun h => absurd h (by simp)⟩
      walk_at "pp"
      refine ee_lc (ie_zipA ?_)
      walk_at "pp"
      refine ⟨l, l, .inr rfl, fun _ h => h, trivial, fun _ => true, fun _ => .bl true, by rw [zipD_len, Nat.min_self]; omega, fun _ _ _ => rfl, fun x acc hx => ?_, ?_⟩
      · obtain ⟨y, rfl, hnd, hy, hy0⟩ := deep l hp.2 hd0 x hx
        have hyr : exR y = true := by cases y <;> first | rfl | cases hnd
        refine gw_pair (by decide) (by decide) ?_
        walk_at "pp"
        refine ⟨rfl, rfl, fun _ => ?_⟩
        refine ee_cz ?_
        walk_at "pp"
        exact ⟨y, hy, rfl, by show (y.lt 0 && (y.lt 0 && true)) = true; rw [hy0]; rfl, fun r hr => ⟨by rw [hr, hyr], rfl⟩⟩
      · rw [same]
        walk_at "pp"
        refine cc_all (.lst _) ?_
        walk_at "gp"; refine gaveP hl (by rfl) ?_; (show D.bl _ = D.bl true); simp
    | dic ks l => walk_at "pp"; walk_at "gp"; refine gaveP hl (by rfl) ?_; rfl
    | rd l => cases hp
    | exc c d => cases hp
    | own k => cases hp
end


/-! plain at all depths, lists short -/
mutual
def D.okd : D → Bool
  | .v .non => true
  | .v (.bl _) => true
  | .v (.int _) => true
  | .v (.str _) => true
  | .v _ => false
  | .lst l => decide (l.length ≤ 100000) && D.okdL l
  | .tup l => decide (l.length ≤ 100000) && D.okdL l
  | .dic _ _ => true
  | .rd _ => false
  | .exc _ _ => false
  | .own _ => false
def D.okdL : List D → Bool
  | [] => true
  | d :: l => D.okd d && D.okdL l
end
theorem okdL_all : ∀ {l : List D}, D.okdL l = true → ∀ x ∈ l, x.okd = true
  | [], _, x, h => by cases h
  | d :: l, h, x, hx => by
    have h := Bool.and_eq_true_iff.mp (show (D.okd d && D.okdL l) = true from h)
    rcases List.mem_cons.mp hx with rfl | hx
    · exact h.1
    · exact okdL_all h.2 x hx
theorem okd_pl {d : D} (h : d.okd = true) : d.pl = true := by
  cases d with
  | v x => cases x <;> first | rfl | (cases h; done)
  | lst l => rfl
  | tup l => rfl
  | dic ks l => rfl
  | rd l => cases h
  | exc c d => cases h
  | own k => cases h
theorem okd_lst {l : List D} (h : (D.lst l).okd = true) : l.length ≤ 100000 ∧ ∀ x ∈ l, x.okd = true := by
  have h := Bool.and_eq_true_iff.mp (show (decide (l.length ≤ 100000) && D.okdL l) = true from h)
  exact ⟨of_decide_eq_true h.1, okdL_all h.2⟩
section
variable {P : Program} {w : World} {K : PySem.W.Frag} {mg : Str → Option Value} {base : Heap} {a : Ad} {f : Addr} {fd : FuncData}
abbrev Seen := D × List Cell × D
/-- an argument of the lib's: plain at all depths -/
def SeenOk (t : Seen) : Prop := Arg t.1 t.2.1 t.2.2 ∧ t.2.2.okd = true
abbrev spSeen (K : PySem.W.Frag) (g : D → D) : Sp := Pro K (T := Seen) (fun t => t.2.1) (fun t => [t.1]) SeenOk (fun t d μ => d = g t.2.2 ∧ μ = t.2.1) (fun _ _ _ _ => False)
theorem gave_seen {S : Bs} {t : Seen} {P : D → List Cell → Prop} {d : D} {ν : List Cell} (h : SeenOk t) (hl : S.A.length = t.2.1.length) (h1 : d.lt 0 = true) (hp : P d t.2.1) : Gave S P d (t.2.1 ++ ν) := by
  obtain ⟨d0, μ0, e0⟩ := t
  obtain ⟨ha, _⟩ := h
  have ha : Arg d0 μ0 e0 := ha
  have et : (μ0 ++ ν).take S.A.length = μ0 := by
    have hl : S.A.length = μ0.length := hl
    rw [hl, List.take_left]
  refine gave (D.lt_mono (Nat.zero_le _) h1) ?_ ?_
  · show cellsLt S.A.length ((μ0 ++ ν).take S.A.length) = true
    rw [et]
    cases ha with
    | cl h => rfl
    | own h =>
      show (D.ltL S.A.length _ && true) = true
      rw [D.ltL_mono (Nat.zero_le _) h]
      rfl
  · show P d ((μ0 ++ ν).take S.A.length)
    rw [et]
    exact hp
theorem seen_cl {t : Seen} (h : SeenOk t) : t.2.2.lt 0 = true := by
  obtain ⟨d0, μ0, e0⟩ := t
  obtain ⟨ha, _⟩ := h
  cases ha with
  | cl h => exact h
  | own h => exact h
/-- a def that looks at an argument is asked from a def that has it -/
theorem call_seen {S : Bs} {δ : Sl} {μ : List Cell} {C : D → List Cell → Prop} {ta : TA} {E : XK} {g : D → D} (t : Seen) (ok : SeenOk t) (hg : ∀ e, (g e).lt 0 = true) (h : EA K S ta δ μ fun ds μ1 => ds = [t.1] ∧ μ1 = t.2.1 ∧ C (g t.2.2) μ1) : EE K S (tCall (spSeen K g) [] E ta) δ μ C := by
  obtain ⟨d0, μ0, e0⟩ := t
  have ha : Arg d0 μ0 e0 := ok.1
  cases ha with
  | cl hd =>
    refine ee_callG (CE := fun _ _ _ => False) [] Wi.none fun A G H σ a Q q => h A G H σ a Q fun vs ds A1 G1 H1 μ1 m n r ⟨e1, e2, c⟩ => q vs ds A1 G1 H1 μ1 m n r ?_
    subst e1 e2
    have hl : D.ltL 0 [d0] = true := by show (d0.lt 0 && true) = true; rw [hd]; rfl
    refine ⟨(d0, [], d0), ok, List.nodup_nil, fun k hk => (by cases hk), rfl, rfl, hsL_cl hl, by rw [renL_cl hl]; rfl, fun d ν n' ⟨h1, h2⟩ _ _ _ _ => ?_, fun _ _ _ z _ _ _ => z⟩
    subst h1
    have h2 : ν = [] := h2
    subst h2
    rw [ren_cl (hg _)]
    exact c
  | @own l hd =>
    refine ee_cz1 0 fun A G H σ a Q q => h A G H σ a Q fun vs ds A1 G1 H1 μ1 m n r ⟨e1, e2, c⟩ => q vs ds A1 G1 H1 μ1 m n r ?_
    subst e1 e2
    refine ⟨(.own 0, [.lst l], .lst l), l, ok, rfl, hd, rfl, hand1 rfl, fun d ν ⟨h1, h2⟩ => ?_⟩
    subst h1
    exact ⟨hg _, l, h2, hd, c⟩
theorem wi_seen {S : Bs} {E : XK} {t : Seen} {P : Addr → D → List Cell → Prop} (ok : SeenOk t) (hl : S.A.length = t.2.1.length) (wi : Wi K S E fun c d μ => d.lt S.A.length = true ∧ cellsLt S.A.length (μ.take S.A.length) = true ∧ P c d (μ.take S.A.length)) : Wi K S E fun c d μ => d = t.1 ∧ μ = t.2.1 ∧ P c d t.2.1 := fun c dx u d A G H μ m h1 h2 h3 r ⟨e1, e2, hp⟩ => by
  refine wi c dx u d A G H μ m h1 h2 h3 r ?_
  subst e1 e2
  obtain ⟨d0, μ0, e0⟩ := t
  have ha : Arg d0 μ0 e0 := ok.1
  have hl : S.A.length = μ0.length := hl
  have et : μ0.take S.A.length = μ0 := by rw [hl, List.take_length]
  refine ⟨?_, ?_, ?_⟩
  · cases ha with
    | cl hx => exact D.lt_mono (Nat.zero_le _) hx
    | own hx =>
      show decide (0 < S.A.length) = true
      rw [hl]
      rfl
  · show cellsLt S.A.length (μ0.take S.A.length) = true
    rw [et]
    cases ha with
    | cl hx => rfl
    | own hx =>
      show (D.ltL S.A.length _ && true) = true
      rw [D.ltL_mono (Nat.zero_le _) hx]
      rfl
  · show P c d0 (μ0.take S.A.length)
    rw [et]
    exact hp
abbrev spSeenX (K : PySem.W.Frag) (post : D → D → Prop) (exc : D → Addr → Prop) : Sp := Pro K (T := Seen) (fun t => t.2.1) (fun t => [t.1]) SeenOk (fun t d μ => post t.2.2 d ∧ μ = t.2.1) (fun t c d μ => exc t.2.2 c ∧ d = t.1 ∧ μ = t.2.1)
/-- .. asked of closed data, whatever lists stand open -/
theorem call_seen0 {S : Bs} {δ : Sl} {μ : List Cell} {C : D → List Cell → Prop} {ta : TA} {E : XK} {g : D → D} (d : D) (hg : (g d).lt 0 = true) (h : EA K S ta δ μ fun ds μ1 => ds = [d] ∧ d.lt 0 = true ∧ SeenOk (d, [], d) ∧ C (g d) μ1) : EE K S (tCall (spSeen K g) [] E ta) δ μ C := by
  refine ee_callG (CE := fun _ _ _ => False) [] Wi.none fun A G H σ a Q q => h A G H σ a Q fun vs ds A1 G1 H1 μ1 m n r ⟨e1, hd, ok, c⟩ => q vs ds A1 G1 H1 μ1 m n r ?_
  subst e1
  have hl : D.ltL 0 [d] = true := by show (d.lt 0 && true) = true; rw [hd]; rfl
  refine ⟨(d, [], d), ok, List.nodup_nil, fun k hk => (by cases hk), rfl, rfl, hsL_cl hl, by rw [renL_cl hl]; rfl, fun d' ν n' ⟨h1, h2⟩ _ _ _ _ => ?_, fun _ _ _ z _ _ _ => z⟩
  subst h1
  have h2 : ν = [] := h2
  subst h2
  rw [ren_cl hg]
  show C (g d) (μ1 ++ [])
  rw [List.append_nil]
  exact c
theorem fin_seen {S : Bs} {t : Seen} {g : D → D} (hok : SeenOk t) (hl : S.A.length = t.2.1.length) (b : D) (hb : b = g t.2.2) (h0 : b.lt 0 = true) : Gave S (fun d μ' => d = g t.2.2 ∧ μ' = t.2.1) b t.2.1 := by
  have q := gave_seen (P := fun d μ' => d = g t.2.2 ∧ μ' = t.2.1) (d := b) (ν := []) hok hl h0 ⟨hb, rfl⟩
  rw [List.append_nil] at q
  exact q
end


section
variable {P : Program} {w : World} {K : PySem.W.Frag} {mg : Str → Option Value} {base : Heap} {a : Ad} {f : Addr} {fd : FuncData}
def isCell : D → Bool
  | .v (.int i) => decide (0 ≤ i) && decide (i < 64)
  | _ => false
def isCells : D → Bool
  | .lst l => l.all isCell
  | _ => false
abbrev st_is_whole : Stmt := top 8
abbrev nm_is_whole : List Str := ["value"]
theorem sc_is_whole : FnScope nm_is_whole ["value"] (defScope st_is_whole) := ⟨rfl, rfl, rfl, by decide +kernel, rfl, by decide +kernel, by decide +kernel⟩
theorem ok_is_whole (F : Fun K "is_whole" "is_whole" st_is_whole f fd) (T : Tx P w K mg base a) : FnOk P w K mg base (L2.CX P w) 1 f fd ["value"] (spSeen K fun e => .bl (isWh e)) := by
  refine F.okX sc_is_whole (fun vs H Q E h => pro_len h fun _ => rfl) (fun cdv A outer s H vs Q E hr h => ⟨_, (pss_one (ps_ret (pe_and (pe_callB (kC K rIsiU rfl call_isU) (by rfl) T.b_isinstance (by decide +kernel) (pa_cons (pv 0) (pa_cons (pe_bltn (v := .ty "int") (by rfl) T.b_int (by decide +kernel) rfl) pa_nil))) (pe_one (pe_not (pe_callB (kC K rIsiU rfl call_isU) (by rfl) T.b_isinstance (by decide +kernel) (pa_cons (pv 0) (pa_cons (pe_bltn (v := .ty "bool") (by rfl) T.b_bool (by decide +kernel) rfl) pa_nil)))))))), run_body h fun ⟨d, μ, e⟩ S hok hl hcl wi => ?_⟩)
  have fin := fun b hb h0 => fin_seen (S := S) (g := fun e => .bl (isWh e)) hok hl b hb h0
  obtain ⟨harg, hokd⟩ := hok
  have harg : Arg d μ e := harg
  have hokd : e.okd = true := hokd
  have hpl := okd_pl hokd
  cases harg with
  | cl hd =>
    walk_at "pp"
    refine ⟨fun hb => ?_, fun hb => ?_⟩
    · walk_at "pp"
      walk_at "gp"
      refine fin _ ?_ rfl
      show D.bl _ = D.bl (isWh d)
      rw [← is_wh hpl, hb]
      rfl
    · walk_at "gp"
      refine fin _ ?_ rfl
      show D.bl _ = D.bl (isWh d)
      rw [← is_wh hpl, hb]
      rfl
  | @own l hd =>
    walk_at "pp"
    refine cc_isO rfl rfl ?_
    walk_at "pp"
    walk_at "gp"
    exact fin _ rfl rfl
abbrev st_is_cell : Stmt := top 13
abbrev nm_is_cell : List Str := ["value"]
theorem sc_is_cell : FnScope nm_is_cell ["value"] (defScope st_is_cell) := ⟨rfl, rfl, rfl, by decide +kernel, rfl, by decide +kernel, by decide +kernel⟩
theorem ok_is_cell (F : Fun K "is_cell" "is_cell" st_is_cell f fd) (T : Tx P w K mg base a) (c_is_whole : CalX P w K mg base 1 "is_whole" ["value"] (spSeen K fun e => .bl (isWh e))) : FnOk P w K mg base (L2.CX P w) 2 f fd ["value"] (spSeen K fun e => .bl (isCell e)) := by
  refine F.okX sc_is_cell (fun vs H Q E h => pro_len h fun _ => rfl) (fun cdv A outer s H vs Q E hr h => ⟨_, (pss_one (ps_ret (pe_and (pe_c c_is_whole hr (by first | decide | exact Nat.le_refl _) rfl (passes_call (takes_of rfl rfl rfl rfl) (fun _ _ _ _ h => h)) (pa_cons (pv 0) pa_nil)) (pe_one (pe_chain op_leq op_less pe_int (pv 0) pe_int))))), run_body h fun t S hok hl hcl wi => ?_⟩)
  have fin := fun b hb h0 => fin_seen (S := S) (g := fun e => .bl (isCell e)) hok hl b hb h0
  walk_at "pp"
  refine call_seen t hok (fun _ => rfl) ?_
  walk_at "pp"
  refine ⟨rfl, rfl, ?_⟩
  walk_at "pp"
  refine ⟨fun hb => ?_, fun hb => ?_⟩
  · obtain ⟨d, μ, e⟩ := t
    obtain ⟨i, rfl⟩ := wh_int hb
    have ha : Arg d μ (.int i) := hok.1
    cases ha
    walk_at "pp"
    refine ⟨fun h1 => ?_, fun h1 => ?_⟩
    · walk_at "gp"
      refine fin _ ?_ rfl
      show D.bl false = D.bl (decide (0 ≤ i) && decide (i < 64))
      rw [h1]
      rfl
    · walk_at "pp"
      walk_at "gp"
      refine fin _ ?_ rfl
      show D.bl _ = D.bl (decide (0 ≤ i) && decide (i < 64))
      rw [h1]
      rfl
  · walk_at "gp"
    refine fin _ ?_ rfl
    generalize t.2.2 = d at hb
    cases d with
    | v x => cases x <;> first | rfl | cases hb
    | _ => rfl
theorem all_cells {l : List D} {f : D → Bool} : ((l.filter fun _ => true).map fun x => D.bl (f x)) = (l.map f).map D.bl := by
  rw [List.filter_eq_self.mpr fun _ _ => rfl, List.map_map]
  rfl
abbrev st_is_cells : Stmt := top 14
abbrev nm_is_cells : List Str := ["value", "cell"]
theorem sc_is_cells : FnScope nm_is_cells ["value"] (defScope st_is_cells) := ⟨rfl, rfl, rfl, by decide +kernel, rfl, by decide +kernel, by decide +kernel⟩
theorem ok_is_cells (F : Fun K "is_cells" "is_cells" st_is_cells f fd) (T : Tx P w K mg base a) (c_is_cell : CalX P w K mg base 2 "is_cell" ["value"] (spSeen K fun e => .bl (isCell e))) : FnOk P w K mg base (L2.CX P w) 3 f fd ["value"] (spSeen K fun e => .bl (isCells e)) := by
  refine F.okX sc_is_cells (fun vs H Q E h => pro_len h fun _ => rfl) (fun cdv A outer s H vs Q E hr h => ⟨_, (pss_one (ps_ret (pe_and (pe_callB (kC K rIsiU rfl call_isU) (by rfl) T.b_isinstance (by decide +kernel) (pa_cons (pv 0) (pa_cons (pe_bltn (v := .ty "list") (by rfl) T.b_list (by decide +kernel) rfl) pa_nil))) (pe_one (pe_callB (kC K rAll rfl (cr_all rfl)) (by rfl) T.b_all (by decide +kernel) (pa_cons (pe_lc (own := [("cell", 1)]) (tt := tYes) (g := (gName 1)) rfl sc_is_cells.nd (pi_listK (K := K) rfl (pv 0)) (blkOk_by (own := [("cell", 1)]) (N := nm_is_cells) (sc := (defScope st_is_cells)) (by decide +kernel)) (fun _ _ _ _ _ => (pg_name (i := 1) sc_is_cells.nd rfl (by first | exact Or.inl rfl | exact Or.inr rfl))) (fun _ _ _ _ _ => pts_nil) (fun _ _ _ _ _ => (pe_c c_is_cell hr (by first | decide | exact Nat.le_refl _) rfl passL (pa_cons (pv 1) pa_nil)))) pa_nil)))))), run_body h fun ⟨d, μ, e⟩ S hok hl hcl wi => ?_⟩)
  have h0 : e.lt 0 = true := seen_cl hok
  have fin : ∀ b : Bool, b = isCells e → Gave S (fun d μ' => d = .bl (isCells e) ∧ μ' = μ) (.bl b) μ := fun b hb => by
    have q := gave_seen (P := fun d μ' => d = .bl (isCells e) ∧ μ' = μ) (d := .bl b) (ν := []) hok hl rfl ⟨by rw [hb], rfl⟩
    rw [List.append_nil] at q
    exact q
  obtain ⟨harg, hokd⟩ := hok
  have harg : Arg d μ e := harg
  have hokd : e.okd = true := hokd
  have hpl := okd_pl hokd
  have one : ∀ {l : List D} {x : D} {μ2 : List Cell} {δ : Sl}, D.ltL 0 l = true → (∀ x ∈ l, x.lt 0 = true → SeenOk (x, [], x)) → x ∈ l → δ[1]? = some (some x) → EE K S (tCall (spSeen K fun e => .bl (isCell e)) [] E0 (tCons (tVar 1) tNil)) δ μ2 fun d μ4 => d = .bl (isCell x) ∧ μ4 = μ2 := fun {l x μ2 δ} hl0 hp hx hδ => by
    refine call_seen0 x rfl ?_
    refine ea_cons (ee_var hδ ?_)
    refine ea_nil ?_
    have hx0 := D.ltL_all.mp hl0 x hx
    exact ⟨rfl, hx0, hp x hx hx0, rfl, rfl⟩
  cases harg with
  | cl hd =>
    walk_at "pp"
    refine ⟨fun hb => ?_, fun hb => ?_⟩
    · obtain ⟨l, rfl⟩ := is_lst hpl hb
      obtain ⟨hz, hip⟩ := okd_lst hokd
      walk_at "pp"
      refine ee_lc (ie_list ?_)
      walk_at "pp"
      refine ⟨l, .inl rfl, fun _ h => h, trivial, fun _ => true, fun x => .bl (isCell x), by omega, fun _ _ _ => rfl, fun x acc hx => ?_, ?_⟩
      · walk_at "pp"
        exact ⟨rfl, rfl, fun _ => one hd (fun x hx h0 => ⟨.cl h0, hip x hx⟩) hx rfl⟩
      · rw [all_cells]
        walk_at "pp"
        refine cc_all (.lst _) ?_
        walk_at "gp"
        refine fin _ ?_
        rw [List.all_map]
        rfl
    · walk_at "gp"
      refine fin _ ?_
      cases d with
      | lst l => revert hb; simp [D.is, D.ty]
      | _ => rfl
  | @own l hd =>
    obtain ⟨hz, hip⟩ := okd_lst hokd
    walk_at "pp"
    refine cc_isO rfl rfl ?_
    walk_at "pp"
    refine ee_lc (ie_own ?_)
    walk_at "pp"
    refine ⟨0, l, rfl, rfl, fun c h => ?_, rfl, fun _ => true, fun x => .bl (isCell x), by omega, fun _ _ _ => rfl, fun x acc hx => ?_, ?_⟩
    · rfl
    · walk_at "pp"
      exact ⟨rfl, rfl, fun _ => one hd (fun x hx h0 => ⟨.cl h0, hip x hx⟩) hx rfl⟩
    · rw [all_cells]
      walk_at "pp"
      refine cc_all (.lst _) ?_
      walk_at "gp"
      refine fin _ ?_
      rw [List.all_map]
      rfl
abbrev st_check_cells : Stmt := top 15
abbrev nm_check_cells : List Str := ["value"]
theorem sc_check_cells : FnScope nm_check_cells ["value"] (defScope st_check_cells) := ⟨rfl, rfl, rfl, by decide +kernel, rfl, by decide +kernel, by decide +kernel⟩
theorem ok_check_cells (F : Fun K "check_cells" "check_cells" st_check_cells f fd) (T : Tx P w K mg base a) (c_is_cells : CalX P w K mg base 3 "is_cells" ["value"] (spSeen K fun e => .bl (isCells e))) : FnOk P w K mg base (L2.CX P w) 4 f fd ["value"] (spSeenX K (fun e d => d = .non ∧ isCells e = true) fun e c => isCells e = false ∧ c = a.eInvalidCells) := by
  refine F.okX sc_check_cells (fun vs H Q E h => pro_len h fun _ => rfl) (fun cdv A outer s H vs Q E hr h => ⟨_, (pss_one (ps_if (pt_not (pt_val (pe_c c_is_cells hr (by first | decide | exact Nat.le_refl _) rfl (passes_call (takes_of rfl rfl rfl rfl) (fun _ _ _ _ h => h)) (pa_cons (pv 0) pa_nil)))) (pss_one (ps_raiseC rfl T.e_InvalidCells hr (by decide) (takes_of rfl rfl rfl rfl) rfl (pa_cons (pv 0) pa_nil))) pss_nil)), run_body h fun t S hok hl hcl wi => ?_⟩)
  have wi2 := wi_seen (P := fun c d μ => (isCells t.2.2 = false ∧ c = a.eInvalidCells) ∧ d = t.1 ∧ μ = t.2.1) hok hl wi
  walk_at "pp"
  refine call_seen t hok (fun _ => rfl) ?_
  walk_at "pp"
  refine ⟨rfl, rfl, ?_⟩
  walk_at "pp"
  refine ⟨fun hb => ?_, fun hb => ?_⟩
  · refine se_raise wi2 ?_
    walk_at "pp"
    exact ⟨rfl, rfl, ⟨by simpa using hb, rfl⟩, rfl, rfl⟩
  · walk_at "pp"
    walk_at "gp"
    have q := gave_seen (P := fun d μ => (d = .non ∧ isCells t.2.2 = true) ∧ μ = t.2.1) (d := .non) (ν := []) hok hl rfl ⟨⟨rfl, by simpa using hb⟩, rfl⟩
    rw [List.append_nil] at q
    exact q
end


section
variable {P : Program} {w : World} {K : PySem.W.Frag} {mg : Str → Option Value} {base : Heap} {a : Ad} {f : Addr} {fd : FuncData}
def isDot : D → Bool
  | .v (.int i) => decide (1 ≤ i) && decide (i ≤ 6)
  | _ => false
def dotI : D → Int
  | .v (.int i) => i
  | _ => 0
/-- each less than the next -/
def rises : List D → Bool
  | x :: y :: l => decide (dotI x < dotI y) && rises (y :: l)
  | _ => true
def isDots : D → Bool
  | .lst l => l.all isDot && rises l
  | _ => false
theorem rises_at : ∀ {l : List D}, ((List.range (l.length - 1)).all fun i => decide (dotI (l.getD i .non) < dotI (l.getD (i + 1) .non))) = rises l
  | [] => rfl
  | [x] => rfl
  | x :: y :: l => by
    have ih := rises_at (l := y :: l)
    show ((List.range (l.length + 1)).all _) = (decide (dotI x < dotI y) && rises (y :: l))
    rw [← ih, List.range_succ_eq_map, List.all_cons, List.all_map]
    rfl
theorem isDot_int {x : D} (h : isDot x = true) : ∃ i : Int, x = .int i := by
  cases x with
  | v y => cases y <;> first | exact ⟨_, rfl⟩ | (cases h; done)
  | _ => cases h
theorem dot_item {S : Bs} {l : List D} {x : D} {μ2 : List Cell} {δ : Sl} {E : XK} (hl0 : D.ltL 0 l = true) (hp : ∀ x ∈ l, x.okd = true) (hx : x ∈ l) (hδ : δ[1]? = some (some x)) :
    EE K S (tAndV (tCall (spSeen K fun e => .bl (isWh e)) [] E (tCons (tVar 1) tNil)) (tChain rLeq rLeq (tC (.int 1)) (tVar 1) (tC (.int 6)))) δ μ2 fun d μ4 => d = .bl (isDot x) ∧ μ4 = μ2 := by
  have hx0 := D.ltL_all.mp hl0 x hx
  refine ee_andV (call_seen0 x rfl (ea_cons (ee_var hδ (ea_nil ?_))))
  refine ⟨rfl, hx0, ⟨.cl hx0, hp x hx⟩, _, rfl, fun hb => ?_, fun hb => ⟨?_, rfl⟩⟩
  · obtain ⟨i, rfl⟩ := wh_int hb
    refine ee_chain (ee_c (ee_var hδ (oo_le ⟨_, rfl, fun h1 => ⟨?_, rfl⟩, fun h1 => ee_c (oo_le ⟨?_, rfl⟩)⟩)))
    · show D.bl false = D.bl (decide (1 ≤ i) && decide (i ≤ 6))
      rw [h1]
      rfl
    · show D.bl _ = D.bl (decide (1 ≤ i) && decide (i ≤ 6))
      rw [h1]
      rfl
  · cases x with
    | v y => cases y <;> first | rfl | cases hb
    | _ => rfl
end


section
variable {P : Program} {w : World} {K : PySem.W.Frag} {mg : Str → Option Value} {base : Heap} {a : Ad} {f : Addr} {fd : FuncData}
abbrev st_is_dots : Stmt := top 16
abbrev nm_is_dots : List Str := ["value", "dot", "at"]
theorem sc_is_dots : FnScope nm_is_dots ["value"] (defScope st_is_dots) := ⟨rfl, rfl, rfl, by decide +kernel, rfl, by decide +kernel, by decide +kernel⟩
theorem ok_is_dots (F : Fun K "is_dots" "is_dots" st_is_dots f fd) (T : Tx P w K mg base a) (c_is_whole : CalX P w K mg base 1 "is_whole" ["value"] (spSeen K fun e => .bl (isWh e))) : FnOk P w K mg base (L2.CX P w) 2 f fd ["value"] (spSeen K fun e => .bl (isDots e)) := by
  refine F.okX sc_is_dots (fun vs H Q E h => pro_len h fun _ => rfl) (fun cdv A outer s H vs Q E hr h => ⟨_, (pss_cons (ps_if (PW.pt (pw_or (pt_not (pt_val (pe_callB (kC K rIsiU rfl call_isU) (by rfl) T.b_isinstance (by decide +kernel) (pa_cons (pv 0) (pa_cons (pe_bltn (v := .ty "list") (by rfl) T.b_list (by decide +kernel) rfl) pa_nil))))) (pw_or1 (pt_not (pt_val (pe_callB (kC K rAll rfl (cr_all rfl)) (by rfl) T.b_all (by decide +kernel) (pa_cons (pe_lc (own := [("dot", 1)]) (tt := tYes) (g := (gName 1)) rfl sc_is_dots.nd (pi_listK (K := K) rfl (pv 0)) (blkOk_by (own := [("dot", 1)]) (N := nm_is_dots) (sc := (defScope st_is_dots)) (by decide +kernel)) (fun _ _ _ _ _ => (pg_name (i := 1) sc_is_dots.nd rfl (by first | exact Or.inl rfl | exact Or.inr rfl))) (fun _ _ _ _ _ => pts_nil) (fun _ _ _ _ _ => (pe_and (pe_c c_is_whole hr (by first | decide | exact Nat.le_refl _) rfl passL (pa_cons (pv 1) pa_nil)) (pe_one (pe_chain op_leq op_leq pe_int (pv 1) pe_int))))) pa_nil))))))) (pss_one (ps_ret pe_bl)) pss_nil)
    (pss_one (ps_ret (pe_callB (kC K rAll rfl (cr_all rfl)) (by rfl) T.b_all (by decide +kernel) (pa_cons (pe_lc (own := [("at", 2)]) (tt := tYes) (g := (gName 2)) rfl sc_is_dots.nd (pi_range1 rfl T.b_range (pa_cons (pe_op op_sub (pe_callB (kC K rLenU rfl call_lenU) (by rfl) T.b_len (by decide +kernel) (pa_cons (pv 0) pa_nil)) pe_int) pa_nil)) (blkOk_by (own := [("at", 2)]) (N := nm_is_dots) (sc := (defScope st_is_dots)) (by decide +kernel)) (fun _ _ _ _ _ => (pg_name (i := 2) sc_is_dots.nd rfl (by first | exact Or.inl rfl | exact Or.inr rfl))) (fun _ _ _ _ _ => pts_nil) (fun _ _ _ _ _ => (pe_cmpR op_less (pe_ix (kX K rIx rfl ix_seq) (pv 0) (pv 2) (fun _ _ => rfl)) (pe_ix (kX K rIx rfl ix_seq) (pv 0) (pe_op (kO K rPlus rfl op_plus) (pv 2) pe_int) (fun _ _ => rfl)) (nomark _)))) pa_nil))))), run_body h fun ⟨d, μ, e⟩ S hok hl hcl wi => ?_⟩)
  have fin := fun b hb h0 => fin_seen (S := S) (g := fun e => .bl (isDots e)) hok hl b hb h0
  obtain ⟨harg, hokd⟩ := hok
  have harg : Arg d μ e := harg
  have hokd : e.okd = true := hokd
  have hpl := okd_pl hokd
  cases harg with
  | cl hd =>
    walk_at "pp"
    refine ⟨fun hb => ⟨fun _ => ?_, fun z => (by cases z)⟩, fun hb => ?_⟩
    · walk_at "pp"
      walk_at "gp"
      refine fin _ ?_ rfl
      cases d with
      | lst l => revert hb; simp [D.is, D.ty]
      | _ => rfl
    · obtain ⟨l, rfl⟩ := is_lst hpl (by simpa using hb)
      obtain ⟨hz, hip⟩ := okd_lst hokd
      walk_at "pp"
      refine ee_lc (ie_list ?_)
      walk_at "pp"
      refine ⟨l, .inl rfl, fun _ h => h, trivial, fun _ => true, fun x => .bl (isDot x), by omega, fun _ _ _ => rfl, fun x acc hx => ?_, ?_⟩
      · skip
        refine gw_name (by decide) ?_
        refine et_yes ?_
        exact ⟨rfl, rfl, fun _ => dot_item hd hip hx rfl⟩
      rw [all_cells]
      walk_at "pp"
      refine cc_all (.lst _) ?_
      walk_at "pp"
      refine ⟨fun hb => ?_, fun hb => ?_⟩
      · walk_at "pp"
        walk_at "gp"
        refine fin _ ?_ rfl
        have hb : (l.map isDot).all id = false := by simpa using hb
        rw [List.all_map] at hb
        show D.bl false = D.bl (l.all isDot && rises l)
        rw [show l.all isDot = false from hb]
        rfl
      · have hb : l.all isDot = true := by
          have z : (l.map isDot).all id = true := by simpa using hb
          rw [List.all_map] at z
          exact z
        walk_at "pp"
        refine ee_lc (ie_rng1 ?_)
        walk_at "pp"
        refine cc_len (.lst _) ?_
        walk_at "pp"
        refine ⟨by omega, by omega, fun _ h => h, trivial, fun _ => true, fun x => .bl (decide (dotI (l.getD (dotI x).toNat .non) < dotI (l.getD ((dotI x).toNat + 1) .non))), by rw [rng_len]; omega, fun _ _ _ => rfl, fun x acc hx => ?_, ?_⟩
        · obtain ⟨i, hi⟩ := List.getElem?_of_mem hx
          obtain ⟨hi, rfl⟩ := rng_get hi
          have hi1 : i + 1 < l.length := by omega
          obtain ⟨u, hu⟩ := isDot_int (List.all_eq_true.mp hb _ (List.getElem_mem (show i < l.length by omega)))
          obtain ⟨v, hv⟩ := isDot_int (List.all_eq_true.mp hb _ (List.getElem_mem hi1))
          have gu : l[i]? = some (.int u) := by rw [List.getElem?_eq_getElem (by omega), hu]
          have gv : l[i + 1]? = some (.int v) := by rw [List.getElem?_eq_getElem hi1, hv]
          refine gw_name (by decide) ?_
          refine et_yes ?_
          refine ⟨rfl, rfl, fun _ => ?_⟩
          walk_at "pp"
          refine oo_ixL (atI_of gu (by omega)) ?_
          walk_at "pp"
          refine oo_ixL (atI_of gv (by omega)) ?_
          walk_at "pp"
          refine ⟨?_, rfl⟩
          show D.bl _ = D.bl (decide (dotI (l.getD (0 + (i : Int)).toNat .non) < dotI (l.getD ((0 + (i : Int)).toNat + 1) .non)))
          have e1 : (0 + (i : Int)).toNat = i := by omega
          rw [e1, List.getD_eq_getElem?_getD, List.getD_eq_getElem?_getD, gu, gv]
          rfl
        · have el : (((rng 0 ((l.length : Int) - 1).toNat).filter fun _ => true).map fun x => D.bl (decide (dotI (l.getD (dotI x).toNat .non) < dotI (l.getD ((dotI x).toNat + 1) .non)))) = ((List.range (l.length - 1)).map fun i => decide (dotI (l.getD i .non) < dotI (l.getD (i + 1) .non))).map D.bl := by
            rw [List.filter_eq_self.mpr fun _ _ => rfl]
            unfold rng
            rw [List.map_map, List.map_map, show ((l.length : Int) - 1).toNat = l.length - 1 by omega]
            refine List.map_congr_left fun i _ => ?_
            show D.bl (decide (dotI (l.getD (0 + (i : Int)).toNat .non) < _)) = _
            have e1 : (0 + (i : Int)).toNat = i := by omega
            show D.bl (decide (dotI (l.getD (0 + (i : Int)).toNat .non) < dotI (l.getD ((0 + (i : Int)).toNat + 1) .non))) = D.bl (decide (dotI (l.getD i .non) < dotI (l.getD (i + 1) .non)))
            rw [e1]
          rw [el]
          walk_at "pp"
          refine cc_all (.lst _) ?_
          walk_at "gp"
          refine fin _ ?_ rfl
          show D.bl _ = D.bl (l.all isDot && rises l)
          rw [hb, ← rises_at, List.all_map]
          rfl
  | @own l hd =>
    walk_at "pp"
    refine cc_isO rfl rfl ?_
    obtain ⟨hz, hip⟩ := okd_lst hokd
    walk_at "pp"
    refine ee_lc (ie_own ?_)
    walk_at "pp"
    refine ⟨0, l, rfl, rfl, fun c h => rfl, rfl, fun _ => true, fun x => .bl (isDot x), by omega, fun _ _ _ => rfl, fun x acc hx => ?_, ?_⟩
    · skip
      refine gw_name (by decide) ?_
      refine et_yes ?_
      exact ⟨rfl, rfl, fun _ => dot_item hd hip hx rfl⟩
    rw [all_cells]
    walk_at "pp"
    refine cc_all (.lst _) ?_
    walk_at "pp"
    refine ⟨fun hb => ?_, fun hb => ?_⟩
    · walk_at "pp"
      walk_at "gp"
      refine fin _ ?_ rfl
      have hb : (l.map isDot).all id = false := by simpa using hb
      rw [List.all_map] at hb
      show D.bl false = D.bl (l.all isDot && rises l)
      rw [show l.all isDot = false from hb]
      rfl
    · have hb : l.all isDot = true := by
        have z : (l.map isDot).all id = true := by simpa using hb
        rw [List.all_map] at z
        exact z
      walk_at "pp"
      refine ee_lc (ie_rng1 ?_)
      walk_at "pp"
      refine cc_len (.own rfl) ?_
      walk_at "pp"
      refine ⟨by omega, by omega, fun _ h => h, trivial, fun _ => true, fun x => .bl (decide (dotI (l.getD (dotI x).toNat .non) < dotI (l.getD ((dotI x).toNat + 1) .non))), by rw [rng_len]; omega, fun _ _ _ => rfl, fun x acc hx => ?_, ?_⟩
      · obtain ⟨i, hi⟩ := List.getElem?_of_mem hx
        obtain ⟨hi, rfl⟩ := rng_get hi
        have hi1 : i + 1 < l.length := by omega
        obtain ⟨u, hu⟩ := isDot_int (List.all_eq_true.mp hb _ (List.getElem_mem (show i < l.length by omega)))
        obtain ⟨v, hv⟩ := isDot_int (List.all_eq_true.mp hb _ (List.getElem_mem hi1))
        have gu : l[i]? = some (.int u) := by rw [List.getElem?_eq_getElem (by omega), hu]
        have gv : l[i + 1]? = some (.int v) := by rw [List.getElem?_eq_getElem hi1, hv]
        refine gw_name (by decide) ?_
        refine et_yes ?_
        refine ⟨rfl, rfl, fun _ => ?_⟩
        walk_at "pp"
        refine oo_ixO rfl (atI_of gu (by omega)) ?_
        walk_at "pp"
        refine oo_ixO rfl (atI_of gv (by omega)) ?_
        walk_at "pp"
        refine ⟨?_, rfl⟩
        show D.bl _ = D.bl (decide (dotI (l.getD (0 + (i : Int)).toNat .non) < dotI (l.getD ((0 + (i : Int)).toNat + 1) .non)))
        have e1 : (0 + (i : Int)).toNat = i := by omega
        rw [e1, List.getD_eq_getElem?_getD, List.getD_eq_getElem?_getD, gu, gv]
        rfl
      · have el : (((rng 0 ((l.length : Int) - 1).toNat).filter fun _ => true).map fun x => D.bl (decide (dotI (l.getD (dotI x).toNat .non) < dotI (l.getD ((dotI x).toNat + 1) .non)))) = ((List.range (l.length - 1)).map fun i => decide (dotI (l.getD i .non) < dotI (l.getD (i + 1) .non))).map D.bl := by
          rw [List.filter_eq_self.mpr fun _ _ => rfl]
          unfold rng
          rw [List.map_map, List.map_map, show ((l.length : Int) - 1).toNat = l.length - 1 by omega]
          refine List.map_congr_left fun i _ => ?_
          show D.bl (decide (dotI (l.getD (0 + (i : Int)).toNat .non) < _)) = _
          have e1 : (0 + (i : Int)).toNat = i := by omega
          show D.bl (decide (dotI (l.getD (0 + (i : Int)).toNat .non) < dotI (l.getD ((0 + (i : Int)).toNat + 1) .non))) = D.bl (decide (dotI (l.getD i .non) < dotI (l.getD (i + 1) .non)))
          rw [e1]
        rw [el]
        walk_at "pp"
        refine cc_all (.lst _) ?_
        walk_at "gp"
        refine fin _ ?_ rfl
        show D.bl _ = D.bl (l.all isDot && rises l)
        rw [hb, ← rises_at, List.all_map]
        rfl
end


section
variable {P : Program} {w : World} {K : PySem.W.Frag} {mg : Str → Option Value} {base : Heap} {a : Ad} {f : Addr} {fd : FuncData}
def pw2 (k : Nat) : Int := [1, 2, 4, 8, 16, 32].getD k 1
def dotsL (i : Int) : List D := ((rng 0 6).filter fun x => decide (i / pw2 (dotI x).toNat % 2 = 1)).map fun x => D.int (dotI x + 1)
abbrev spDotsOf (K : PySem.W.Frag) (a : Ad) : Sp := Pro K (T := Seen) (fun t => t.2.1) (fun t => [t.1]) SeenOk (fun t d μ => ∃ i : Int, t.2.2 = .int i ∧ 0 ≤ i ∧ i < 64 ∧ d = .own 0 ∧ μ = [.lst (dotsL i)]) (fun t c d μ => (isCell t.2.2 = false ∧ c = a.eInvalidCell) ∧ d = t.1 ∧ μ = t.2.1)
theorem cell_int {d : D} (h : isCell d = true) : ∃ i : Int, d = .int i ∧ 0 ≤ i ∧ i < 64 := by
  cases d with
  | v y =>
    cases y <;> first | (cases h; done) | skip
    rename_i i
    have h := Bool.and_eq_true_iff.mp (show (decide (0 ≤ i) && decide (i < 64)) = true from h)
    exact ⟨i, rfl, of_decide_eq_true h.1, of_decide_eq_true h.2⟩
  | _ => cases h
abbrev st_dots_of : Stmt := top 17
abbrev nm_dots_of : List Str := ["cell", "at"]
theorem sc_dots_of : FnScope nm_dots_of ["cell"] (defScope st_dots_of) := ⟨rfl, rfl, rfl, by decide +kernel, rfl, by decide +kernel, by decide +kernel⟩
theorem ok_dots_of (F : Fun K "dots_of" "dots_of" st_dots_of f fd) (T : Tx P w K mg base a) (c_is_cell : CalX P w K mg base 2 "is_cell" ["value"] (spSeen K fun e => .bl (isCell e))) : FnOk P w K mg base (L2.CX P w) 3 f fd ["cell"] (spDotsOf K a) := by
  refine F.okX sc_dots_of (fun vs H Q E h => pro_len h fun _ => rfl) (fun cdv A outer s H vs Q E hr h => ⟨_, (pss_cons (ps_if (pt_not (pt_val (pe_c c_is_cell hr (by first | decide | exact Nat.le_refl _) rfl (passes_call (takes_of rfl rfl rfl rfl) (fun _ _ _ _ h => h)) (pa_cons (pv 0) pa_nil)))) (pss_one (ps_raiseC rfl T.e_InvalidCell hr (by decide) (takes_of rfl rfl rfl rfl) rfl (pa_cons (pv 0) pa_nil))) pss_nil)
    (pss_one (ps_ret (pe_lc (own := [("at", 1)]) (g := (gName 1)) rfl sc_dots_of.nd (pi_range1 rfl T.b_range (pa_cons pe_int pa_nil)) (blkOk_by (own := [("at", 1)]) (N := nm_dots_of) (sc := (defScope st_dots_of)) (by decide +kernel)) (fun _ _ _ _ _ => (pg_name (i := 1) sc_dots_of.nd rfl (by first | exact Or.inl rfl | exact Or.inr rfl))) (fun _ _ _ _ _ => (pts_one (pt_cmpR (kO K rEqU rfl (op_eqU (hu64 hr))) (pe_op op_mod (pe_op op_fdivW (pv 0) (pe_ix (kX K rIx rfl ix_seq) (pe_glob (v := .ref a.cPOWERS) rfl T.g_POWERS rfl) (pv 1) (fun _ _ => rfl))) pe_int) pe_int (nomark _)))) (fun _ _ _ _ _ => (pe_op (kO K rPlus rfl op_plus) (pv 1) pe_int)))))), run_body h fun t S hok hl hcl wi => ?_⟩)
  have wi2 := wi_seen (P := fun c d μ => (isCell t.2.2 = false ∧ c = a.eInvalidCell) ∧ d = t.1 ∧ μ = t.2.1) hok hl wi
  walk_at "pp"
  refine call_seen t hok (fun _ => rfl) ?_
  walk_at "pp"
  refine ⟨rfl, rfl, ?_⟩
  walk_at "pp"
  refine ⟨fun hb => ?_, fun hb => ?_⟩
  · refine se_raise wi2 ?_
    walk_at "pp"
    exact ⟨rfl, rfl, ⟨by simpa using hb, rfl⟩, rfl, rfl⟩
  · obtain ⟨d, μ, e⟩ := t
    obtain ⟨i, rfl, h0, h1⟩ := cell_int (d := e) (by simpa using hb)
    have ha : Arg d μ (.int i) := hok.1
    cases ha
    walk_at "pp"
    refine ee_lcN (ie_rng1 ?_)
    walk_at "pp"
    refine ⟨by decide, by decide, fun _ h => h, trivial, fun x => decide (i / pw2 (dotI x).toNat % 2 = 1), fun x => .int (dotI x + 1), by decide, fun x acc hx => ?_, ?_⟩
    · obtain ⟨k, hk⟩ := List.getElem?_of_mem hx
      obtain ⟨hkk, rfl⟩ := rng_get hk
      refine gw_name (by decide) ?_
      have hk6 : k < 6 := hkk
      have e0 : (0 : Int) + (k : Int) = ((k : Nat) : Int) := by omega
      have hp2 : (([1, 2, 4, 8, 16, 32] : List Int).map V.int)[k]? = some (.int (pw2 k)) ∧ 0 < pw2 k ∧ pw2 k < 64 := by
        have : k ∈ [0, 1, 2, 3, 4, 5] := by simp; omega
        simp only [List.mem_cons, List.not_mem_nil, or_false] at this
        rcases this with rfl | rfl | rfl | rfl | rfl | rfl <;> exact ⟨rfl, by decide, by decide⟩
      obtain ⟨g1, g2, g3⟩ := hp2
      walk_at "pp"
      refine oo_ixK T.t_POWERS (atI_of g1 e0) ?_
      refine oo_div (wide_div g2 (b := 40) (by omega) (by decide) (by decide)) ?_
      walk_at "pp"
      refine oo_mod (by decide) ?_
      walk_at "pp"
      refine ⟨?_, rfl, fun _ => ?_⟩
      · show decide (V.int (i / pw2 k % 2) = V.int 1) = decide (i / pw2 (0 + (k : Int)).toNat % 2 = 1)
        have e1 : (0 + (k : Int)).toNat = k := by omega
        rw [e1]
        exact decide_eq_decide.mpr ⟨fun h => by injection h, fun h => by rw [h]⟩
      · walk_at "pp"
        exact ⟨rfl, rfl⟩
    · have hcl2 : D.ltL 0 (dotsL i) = true := D.ltL_all.mpr fun x hx => by
        obtain ⟨y, _, rfl⟩ := List.mem_map.mp hx
        rfl
      have hl : S.A.length = 0 := hl
      walk_at "gp"
      refine gave_new (k := 0) (by rw [hl]; exact Nat.le_refl _) rfl (by rw [hl]; exact hcl2) (by rw [hl]; rfl) ?_
      exact ⟨i, rfl, h0, h1, by rw [hl], by rw [hl]; rfl⟩
end


section
variable {P : Program} {w : World} {K : PySem.W.Frag} {mg : Str → Option Value} {base : Heap} {a : Ad} {f : Addr} {fd : FuncData}
def cellL (l : List D) : Int := (l.map fun x => pw2 (dotI x - 1).toNat).sum
abbrev spCellOf (K : PySem.W.Frag) (a : Ad) : Sp := spSeenX K (fun e d => ∃ l, e = .lst l ∧ isDots e = true ∧ d = .int (cellL l)) fun e c => isDots e = false ∧ c = a.eInvalidDots
theorem dots_lst {d : D} (h : isDots d = true) : ∃ l, d = .lst l ∧ ∀ x ∈ l, ∃ i : Int, x = .int i ∧ 1 ≤ i ∧ i ≤ 6 := by
  cases d with
  | lst l =>
    have h := Bool.and_eq_true_iff.mp (show (l.all isDot && rises l) = true from h)
    refine ⟨l, rfl, fun x hx => ?_⟩
    have hd := List.all_eq_true.mp h.1 x hx
    obtain ⟨i, rfl⟩ := isDot_int hd
    have hd := Bool.and_eq_true_iff.mp (show (decide (1 ≤ i) && decide (i ≤ 6)) = true from hd)
    exact ⟨i, rfl, of_decide_eq_true hd.1, of_decide_eq_true hd.2⟩
  | _ => cases h
theorem powers_at {i : Int} (h1 : 1 ≤ i) (h6 : i ≤ 6) : atI (([1, 2, 4, 8, 16, 32] : List Int).map V.int) (i - 1) = some (.int (pw2 (i - 1).toNat)) := by
  have : i ∈ ([1, 2, 3, 4, 5, 6] : List Int) := by simp; omega
  simp only [List.mem_cons, List.not_mem_nil, or_false] at this
  rcases this with rfl | rfl | rfl | rfl | rfl | rfl <;> rfl
abbrev st_cell_of : Stmt := top 18
abbrev nm_cell_of : List Str := ["dots", "dot"]
theorem sc_cell_of : FnScope nm_cell_of ["dots"] (defScope st_cell_of) := ⟨rfl, rfl, rfl, by decide +kernel, rfl, by decide +kernel, by decide +kernel⟩
theorem ok_cell_of (F : Fun K "cell_of" "cell_of" st_cell_of f fd) (T : Tx P w K mg base a) (c_is_dots : CalX P w K mg base 2 "is_dots" ["value"] (spSeen K fun e => .bl (isDots e))) : FnOk P w K mg base (L2.CX P w) 3 f fd ["dots"] (spCellOf K a) := by
  refine F.okX sc_cell_of (fun vs H Q E h => pro_len h fun _ => rfl) (fun cdv A outer s H vs Q E hr h => ⟨_, (pss_cons (ps_if (pt_not (pt_val (pe_c c_is_dots hr (by first | decide | exact Nat.le_refl _) rfl (passes_call (takes_of rfl rfl rfl rfl) (fun _ _ _ _ h => h)) (pa_cons (pv 0) pa_nil)))) (pss_one (ps_raiseC rfl T.e_InvalidDots hr (by decide) (takes_of rfl rfl rfl rfl) rfl (pa_cons (pv 0) pa_nil))) pss_nil)
    (pss_one (ps_ret (pe_callB (kC K rSum rfl (cr_sum rfl)) (by rfl) T.b_sum (by decide +kernel) (pa_cons (pe_lc (own := [("dot", 1)]) (tt := tYes) (g := (gName 1)) rfl sc_cell_of.nd (pi_listK (K := K) rfl (pv 0)) (blkOk_by (own := [("dot", 1)]) (N := nm_cell_of) (sc := (defScope st_cell_of)) (by decide +kernel)) (fun _ _ _ _ _ => (pg_name (i := 1) sc_cell_of.nd rfl (by first | exact Or.inl rfl | exact Or.inr rfl))) (fun _ _ _ _ _ => pts_nil) (fun _ _ _ _ _ => (pe_ix (kX K rIx rfl ix_seq) (pe_glob (v := .ref a.cPOWERS) rfl T.g_POWERS rfl) (pe_op op_sub (pv 1) pe_int) (fun _ _ => rfl)))) pa_nil))))), run_body h fun t S hok hl hcl wi => ?_⟩)
  have wi2 := wi_seen (P := fun c d μ => (isDots t.2.2 = false ∧ c = a.eInvalidDots) ∧ d = t.1 ∧ μ = t.2.1) hok hl wi
  walk_at "pp"
  refine call_seen t hok (fun _ => rfl) ?_
  walk_at "pp"
  refine ⟨rfl, rfl, ?_⟩
  walk_at "pp"
  refine ⟨fun hb => ?_, fun hb => ?_⟩
  · refine se_raise wi2 ?_
    walk_at "pp"
    exact ⟨rfl, rfl, ⟨by simpa using hb, rfl⟩, rfl, rfl⟩
  · have hb : isDots t.2.2 = true := by simpa using hb
    obtain ⟨l, el, hdots⟩ := dots_lst hb
    have fin : Gave S (fun d μ => (∃ l, t.2.2 = .lst l ∧ isDots t.2.2 = true ∧ d = .int (cellL l)) ∧ μ = t.2.1) (.int (cellL l)) t.2.1 := by
      have q := gave_seen (P := fun d μ => (∃ l, t.2.2 = .lst l ∧ isDots t.2.2 = true ∧ d = .int (cellL l)) ∧ μ = t.2.1) (d := .int (cellL l)) (ν := []) hok hl rfl ⟨⟨l, el, hb, rfl⟩, rfl⟩
      rw [List.append_nil] at q
      exact q
    have hz : l.length ≤ 100000 := by
      have z := hok.2
      rw [el] at z
      exact (okd_lst z).1
    have lst : ((l.filter fun _ => true).map fun x => D.int (pw2 (dotI x - 1).toNat)) = (l.map fun x => pw2 (dotI x - 1).toNat).map D.int := by
      rw [List.filter_eq_self.mpr fun _ _ => rfl, List.map_map]
      rfl
    obtain ⟨d, μ, e⟩ := t
    have el : e = .lst l := el
    subst el
    have ha : Arg d μ (.lst l) := hok.1
    cases ha with
    | cl hd =>
      walk_at "pp"
      refine ee_lc (ie_list ?_)
      walk_at "pp"
      refine ⟨l, .inl rfl, fun _ h => h, trivial, fun _ => true, fun x => .int (pw2 (dotI x - 1).toNat), by omega, fun _ _ _ => rfl, fun x acc hx => ?_, ?_⟩
      · obtain ⟨i, rfl, h1, h6⟩ := hdots x hx
        refine gw_name (by decide) ?_
        refine et_yes ?_
        refine ⟨rfl, rfl, fun _ => ?_⟩
        walk_at "pp"
        refine oo_ixK T.t_POWERS (powers_at h1 h6) ?_
        exact ⟨rfl, rfl⟩
      · rw [lst]
        walk_at "pp"
        refine cc_sum (.lst _) ?_
        walk_at "gp"
        exact fin
    | own hd =>
      walk_at "pp"
      refine ee_lc (ie_own ?_)
      walk_at "pp"
      refine ⟨0, l, rfl, rfl, fun c h => rfl, rfl, fun _ => true, fun x => .int (pw2 (dotI x - 1).toNat), by omega, fun _ _ _ => rfl, fun x acc hx => ?_, ?_⟩
      · obtain ⟨i, rfl, h1, h6⟩ := hdots x hx
        refine gw_name (by decide) ?_
        refine et_yes ?_
        refine ⟨rfl, rfl, fun _ => ?_⟩
        walk_at "pp"
        refine oo_ixK T.t_POWERS (powers_at h1 h6) ?_
        exact ⟨rfl, rfl⟩
      · rw [lst]
        walk_at "pp"
        refine cc_sum (.lst _) ?_
        walk_at "gp"
        exact fin
end


section
variable {P : Program} {w : World} {K : PySem.W.Frag} {mg : Str → Option Value} {base : Heap} {a : Ad} {f : Addr} {fd : FuncData}
def acr (k : Nat) : Int := [8, 16, 32, 1, 2, 4].getD k 1
def mirI (i : Int) : List Int := ((List.range 6).filter fun k => decide (i / pw2 k % 2 = 1)).map acr
abbrev spMirrored (K : PySem.W.Frag) : Sp := ProP K (T := Int) (fun i => [.int i]) (fun i => 0 ≤ i ∧ i < 64) (fun i d => d = .int (mirI i).sum) (fun _ _ _ => False)
abbrev st_mirrored : Stmt := top 21
abbrev nm_mirrored : List Str := ["cell", "at"]
theorem sc_mirrored : FnScope nm_mirrored ["cell"] (defScope st_mirrored) := ⟨rfl, rfl, rfl, by decide +kernel, rfl, by decide +kernel, by decide +kernel⟩
theorem ok_mirrored (F : Fun K "mirrored" "mirrored" st_mirrored f fd) (T : Tx P w K mg base a) : FnOk P w K mg base (L2.CX P w) 1 f fd ["cell"] (spMirrored K) := by
  refine F.okX sc_mirrored (fun vs H Q E h => pro_len h fun _ => rfl) (fun cdv A outer s H vs Q E hr h => ⟨_, (pss_one (ps_ret (pe_callB (kC K rSum rfl (cr_sum rfl)) (by rfl) T.b_sum (by decide +kernel) (pa_cons (pe_lc (own := [("at", 1)]) (g := (gName 1)) rfl sc_mirrored.nd (pi_range1 rfl T.b_range (pa_cons pe_int pa_nil)) (blkOk_by (own := [("at", 1)]) (N := nm_mirrored) (sc := (defScope st_mirrored)) (by decide +kernel)) (fun _ _ _ _ _ => (pg_name (i := 1) sc_mirrored.nd rfl (by first | exact Or.inl rfl | exact Or.inr rfl))) (fun _ _ _ _ _ => (pts_one (pt_cmpR (kO K rEqU rfl (op_eqU (hu64 hr))) (pe_op op_mod (pe_op op_fdivW (pv 0) (pe_ix (kX K rIx rfl ix_seq) (pe_glob (v := .ref a.cPOWERS) rfl T.g_POWERS rfl) (pv 1) (fun _ _ => rfl))) pe_int) pe_int (nomark _)))) (fun _ _ _ _ _ => (pe_ix (kX K rIx rfl ix_seq) (pe_glob (v := .ref a.cACROSS) rfl T.g_ACROSS rfl) (pv 1) (fun _ _ => rfl)))) pa_nil)))), run_body h fun i S ⟨h0, h1⟩ hl hcl wi => ?_⟩)
  have hl : S.A.length = 0 := hl
  have six : ∀ {k : Nat}, k < 6 → (([1, 2, 4, 8, 16, 32] : List Int).map V.int)[k]? = some (.int (pw2 k)) ∧ 0 < pw2 k ∧ pw2 k < 64 ∧ (([8, 16, 32, 1, 2, 4] : List Int).map V.int)[k]? = some (.int (acr k)) := fun {k} hk => by
    have : k ∈ [0, 1, 2, 3, 4, 5] := by simp; omega
    simp only [List.mem_cons, List.not_mem_nil, or_false] at this
    rcases this with rfl | rfl | rfl | rfl | rfl | rfl <;> exact ⟨rfl, by decide, by decide, rfl⟩
  walk_at "pp"
  refine ee_lc (ie_rng1 ?_)
  walk_at "pp"
  refine ⟨by decide, by decide, fun _ h => h, trivial, fun x => decide (i / pw2 (dotI x).toNat % 2 = 1), fun x => .int (acr (dotI x).toNat), by decide, fun _ _ _ => rfl, fun x acc hx => ?_, ?_⟩
  · obtain ⟨k, hk⟩ := List.getElem?_of_mem hx
    obtain ⟨hkk, rfl⟩ := rng_get hk
    have hk6 : k < 6 := hkk
    have e0 : (0 : Int) + (k : Int) = ((k : Nat) : Int) := by omega
    have e1 : (0 + (k : Int)).toNat = k := by omega
    obtain ⟨g1, g2, g3, g4⟩ := six hk6
    refine gw_name (by decide) ?_
    walk_at "pp"
    refine oo_ixK T.t_POWERS (atI_of g1 e0) ?_
    refine oo_div (wide_div g2 (b := 40) (by omega) (by decide) (by decide)) ?_
    walk_at "pp"
    refine oo_mod (by decide) ?_
    walk_at "pp"
    refine ⟨?_, rfl, fun _ => ?_⟩
    · show decide (V.int (i / pw2 k % 2) = V.int 1) = decide (i / pw2 (0 + (k : Int)).toNat % 2 = 1)
      rw [e1]
      exact decide_eq_decide.mpr ⟨fun h => by injection h, fun h => by rw [h]⟩
    · walk_at "pp"
      refine oo_ixK T.t_ACROSS (atI_of g4 e0) ?_
      refine ⟨?_, rfl⟩
      show D.int (acr k) = D.int (acr (0 + (k : Int)).toNat)
      rw [e1]
  · have el : (((rng 0 (6 : Int).toNat).filter fun x => decide (i / pw2 (dotI x).toNat % 2 = 1)).map fun x => D.int (acr (dotI x).toNat)) = (mirI i).map D.int := by
      unfold rng mirI
      rw [List.filter_map, List.map_map, List.map_map]
      have hf : ((fun x => decide (i / pw2 (dotI x).toNat % 2 = 1)) ∘ fun (k : Nat) => D.int (0 + (k : Int))) = fun k => decide (i / pw2 k % 2 = 1) := by
        funext k
        show decide (i / pw2 (0 + (k : Int)).toNat % 2 = 1) = _
        rw [show (0 + (k : Int)).toNat = k by omega]
      rw [hf]
      refine List.map_congr_left fun k _ => ?_
      show D.int (acr (0 + (k : Int)).toNat) = _
      rw [show (0 + (k : Int)).toNat = k by omega]
      rfl
    rw [el]
    walk_at "pp"
    refine cc_sum (.lst _) ?_
    walk_at "gp"
    refine gaveP hl (by rfl) ?_
    rfl
end


section
variable {P : Program} {w : World} {K : PySem.W.Frag} {mg : Str → Option Value} {base : Heap} {a : Ad} {f : Addr} {fd : FuncData}
def row64 : Str := Str.ofString " A1B'K2L@CIF/MSP\"E3H9O6R^DJG>NTQ,*5<-U8V.~[$+X!&;:4\\0Z7(_?W]#Y)="
theorem row_len : (cp row64).length = 64 := by decide +kernel
def textL (l : List D) : Str := tx (l.map fun x => (cp row64).getD (dotI x).toNat 0)
/-- a def that may raise is asked from a def that has the argument -/
theorem call_seenX {S : Bs} {δ : Sl} {μ : List Cell} {C : D → List Cell → Prop} {ta : TA} {E : XK} {CE : Addr → D → List Cell → Prop} {post : D → D → Prop} {exc : D → Addr → Prop} (t : Seen) (ok : SeenOk t) (wi : Wi K S E CE) (hg : ∀ e d, post e d → d.lt 0 = true)
    (h : EA K S ta δ μ fun ds μ1 => ds = [t.1] ∧ μ1 = t.2.1 ∧ (∀ d, post t.2.2 d → C d μ1) ∧ ∀ c, exc t.2.2 c → CE c t.1 μ1) : EE K S (tCall (spSeenX K post exc) [] E ta) δ μ C := by
  obtain ⟨d0, μ0, e0⟩ := t
  have ha : Arg d0 μ0 e0 := ok.1
  cases ha with
  | cl hd =>
    refine ee_callG [] wi fun A G H σ a Q q => h A G H σ a Q fun vs ds A1 G1 H1 μ1 m n r ⟨e1, e2, c, x⟩ => q vs ds A1 G1 H1 μ1 m n r ?_
    subst e1 e2
    have hl : D.ltL 0 [d0] = true := by show (d0.lt 0 && true) = true; rw [hd]; rfl
    refine ⟨(d0, [], d0), ok, List.nodup_nil, fun k hk => (by cases hk), rfl, rfl, hsL_cl hl, by rw [renL_cl hl]; rfl, fun d ν n' ⟨h1, h2⟩ _ _ _ _ => ?_, fun cc d ν ⟨h1, h2, h3⟩ _ _ _ => ?_⟩
    · have h2 : ν = [] := h2
      subst h2
      rw [ren_cl (hg _ _ h1)]
      exact c d h1
    · have h2 : d = d0 := h2
      have h3 : ν = [] := h3
      subst h2 h3
      rw [ren_cl hd]
      exact x cc h1
  | @own l hd =>
    refine ee_callG [0] wi fun A G H σ a Q q => h A G H σ a Q fun vs ds A1 G1 H1 μ1 m n r ⟨e1, e2, c, x⟩ => q vs ds A1 G1 H1 μ1 m n r ?_
    subst e1 e2
    refine ⟨(.own 0, [.lst l], .lst l), ok, by simp, fun k hk => (by rw [List.mem_singleton.mp hk]; exact Nat.zero_lt_one), rfl, ?_, rfl, rfl, fun d ν n' ⟨h1, h2⟩ _ _ _ _ => ?_, fun cc d ν ⟨h1, h2, h3⟩ _ _ _ => ?_⟩
    · show (D.ltL 0 l && true) = true
      rw [hd]
      rfl
    · have h2 : ν = [.lst l] := h2
      subst h2
      rw [ren_cl (hg _ _ h1)]
      show C d ([Cell.lst (D.renL _ l)] ++ [])
      rw [renL_cl hd]
      exact c d h1
    · have h2 : d = .own 0 := h2
      have h3 : ν = [.lst l] := h3
      subst h2 h3
      show CE cc (.own 0) ([Cell.lst (D.renL _ l)] ++ [])
      rw [renL_cl hd]
      exact x cc h1
end


section
variable {P : Program} {w : World} {K : PySem.W.Frag} {mg : Str → Option Value} {base : Heap} {a : Ad} {f : Addr} {fd : FuncData}
abbrev spCheckCells (K : PySem.W.Frag) (a : Ad) : Sp := spSeenX K (fun e d => d = .non ∧ isCells e = true) fun e c => isCells e = false ∧ c = a.eInvalidCells
abbrev spCellsText (K : PySem.W.Frag) (a : Ad) : Sp := spSeenX K (fun e d => ∃ l, e = .lst l ∧ isCells e = true ∧ d = .str (textL l)) fun e c => isCells e = false ∧ c = a.eInvalidCells
theorem cells_lst {d : D} (h : isCells d = true) : ∃ l, d = .lst l ∧ ∀ x ∈ l, ∃ i : Int, x = .int i ∧ 0 ≤ i ∧ i < 64 := by
  cases d with
  | lst l => exact ⟨l, rfl, fun x hx => cell_int (List.all_eq_true.mp (show l.all isCell = true from h) x hx)⟩
  | _ => cases h
theorem text_join (l : List D) : Txt.join (Str.ofString "") (l.map fun x => (⟨#[(cp row64).getD (dotI x).toNat 0]⟩ : Str)) = textL l := by
  have e : Str.ofString "" = Str.empty := by decide +kernel
  rw [e]
  refine cp_inj ?_
  rw [join0, List.map_map]
  unfold textL
  rw [cp_tx]
  induction l with
  | nil => rfl
  | cons x l ih =>
    rw [List.map_cons, List.flatten_cons, ih]
    rfl
theorem text_size (l : List D) : ((l.map fun x => (⟨#[(cp row64).getD (dotI x).toNat 0]⟩ : Str)).map (·.length)).sum + (l.map fun x => (⟨#[(cp row64).getD (dotI x).toNat 0]⟩ : Str)).length * (Str.ofString "").length = l.length := by
  have e : (Str.ofString "").length = 0 := by decide +kernel
  rw [e, Nat.mul_zero, Nat.add_zero, List.map_map]
  induction l with
  | nil => rfl
  | cons x l ih =>
    rw [List.map_cons, List.sum_cons, ih, List.length_cons]
    show 1 + _ = _
    omega
abbrev st_cells_text : Stmt := top 19
abbrev nm_cells_text : List Str := ["cells", "cell"]
theorem sc_cells_text : FnScope nm_cells_text ["cells"] (defScope st_cells_text) := ⟨rfl, rfl, rfl, by decide +kernel, rfl, by decide +kernel, by decide +kernel⟩
theorem ok_cells_text (F : Fun K "cells_text" "cells_text" st_cells_text f fd) (T : Tx P w K mg base a) (c_check_cells : CalX P w K mg base 4 "check_cells" ["value"] (spCheckCells K a)) : FnOk P w K mg base (L2.CX P w) 5 f fd ["cells"] (spCellsText K a) := by
  refine F.okX sc_cells_text (fun vs H Q E h => pro_len h fun _ => rfl) (fun cdv A outer s H vs Q E hr h => ⟨_, (pss_cons (ps_expr (pe_c c_check_cells hr (by first | decide | exact Nat.le_refl _) rfl (passes_call (takes_of rfl rfl rfl rfl) (fun _ _ _ _ h => h)) (pa_cons (pv 0) pa_nil)))
    (pss_one (ps_ret (pe_joinK (K := K) rfl pe_str (pe_lc (own := [("cell", 1)]) (tt := tYes) (g := (gName 1)) rfl sc_cells_text.nd (pi_listK (K := K) rfl (pv 0)) (blkOk_by (own := [("cell", 1)]) (N := nm_cells_text) (sc := (defScope st_cells_text)) (by decide +kernel)) (fun _ _ _ _ _ => (pg_name (i := 1) sc_cells_text.nd rfl (by first | exact Or.inl rfl | exact Or.inr rfl))) (fun _ _ _ _ _ => pts_nil) (fun _ _ _ _ _ => (pe_ix (kX K rIx rfl ix_seq) (pe_glob (v := .str (Str.ofString " A1B'K2L@CIF/MSP\"E3H9O6R^DJG>NTQ,*5<-U8V.~[$+X!&;:4\\0Z7(_?W]#Y)=")) rfl T.g_SIGNS.choose_spec ⟨_, rfl⟩) (pv 1) (fun _ _ => rfl)))))))), run_body h fun t S hok hl hcl wi => ?_⟩)
  have wi2 := wi_seen (P := fun c d μ => (isCells t.2.2 = false ∧ c = a.eInvalidCells) ∧ d = t.1 ∧ μ = t.2.1) hok hl wi
  walk_at "pp"
  refine call_seenX t hok wi2 (fun e d h => by rw [h.1]; rfl) ?_
  walk_at "pp"
  refine ⟨rfl, rfl, fun d hd => ?_, fun c hc => ⟨rfl, rfl, hc, rfl, rfl⟩⟩
  have hb := hd.2
  obtain ⟨l, el, hcells⟩ := cells_lst hb
  have fin : Gave S (fun d μ => (∃ l, t.2.2 = .lst l ∧ isCells t.2.2 = true ∧ d = .str (textL l)) ∧ μ = t.2.1) (.str (textL l)) t.2.1 := by
    have q := gave_seen (P := fun d μ => (∃ l, t.2.2 = .lst l ∧ isCells t.2.2 = true ∧ d = .str (textL l)) ∧ μ = t.2.1) (d := .str (textL l)) (ν := []) hok hl rfl ⟨⟨l, el, hb, rfl⟩, rfl⟩
    rw [List.append_nil] at q
    exact q
  have hz : l.length ≤ 100000 := by
    have z := hok.2
    rw [el] at z
    exact (okd_lst z).1
  have lst : ((l.filter fun _ => true).map fun x => D.str ⟨#[(cp row64).getD (dotI x).toNat 0]⟩) = (l.map fun x => (⟨#[(cp row64).getD (dotI x).toNat 0]⟩ : Str)).map D.str := by
    rw [List.filter_eq_self.mpr fun _ _ => rfl, List.map_map]
    rfl
  have get : ∀ {i : Int}, 0 ≤ i → i < 64 → (cp row64)[i.toNat]? = some ((cp row64).getD i.toNat 0) := fun {i} h0 h1 => by
    have : i.toNat < (cp row64).length := by rw [row_len]; omega
    rw [List.getD_eq_getElem?_getD, List.getElem?_eq_getElem this]
    rfl
  obtain ⟨d0, μ, e⟩ := t
  have el : e = .lst l := el
  subst el
  have ha : Arg d0 μ (.lst l) := hok.1
  cases ha with
  | cl h0 =>
    walk_at "pp"
    refine ee_m1 ?_
    walk_at "pp"
    refine ee_lc (ie_list ?_)
    walk_at "pp"
    refine ⟨l, .inl rfl, fun _ h => h, trivial, fun _ => true, fun x => .str ⟨#[(cp row64).getD (dotI x).toNat 0]⟩, by omega, fun _ _ _ => rfl, fun x acc hx => ?_, ?_⟩
    · obtain ⟨i, rfl, h1, h6⟩ := hcells x hx
      refine gw_name (by decide) ?_
      refine et_yes ?_
      refine ⟨rfl, rfl, fun _ => ?_⟩
      walk_at "pp"
      refine oo_ixS (s := row64) (by decide +kernel) (atI_of (get h1 h6) (by omega)) ?_
      exact ⟨rfl, rfl⟩
    · rw [lst]
      refine mm_join (.lst _) (by rw [text_size]; omega) ?_
      rw [text_join]
      walk_at "gp"
      exact fin
  | own h0 =>
    walk_at "pp"
    refine ee_m1 ?_
    walk_at "pp"
    refine ee_lc (ie_own ?_)
    walk_at "pp"
    refine ⟨0, l, rfl, rfl, fun c h => rfl, rfl, fun _ => true, fun x => .str ⟨#[(cp row64).getD (dotI x).toNat 0]⟩, by omega, fun _ _ _ => rfl, fun x acc hx => ?_, ?_⟩
    · obtain ⟨i, rfl, h1, h6⟩ := hcells x hx
      refine gw_name (by decide) ?_
      refine et_yes ?_
      refine ⟨rfl, rfl, fun _ => ?_⟩
      walk_at "pp"
      refine oo_ixS (s := row64) (by decide +kernel) (atI_of (get h1 h6) (by omega)) ?_
      exact ⟨rfl, rfl⟩
    · rw [lst]
      refine mm_join (.lst _) (by rw [text_size]; omega) ?_
      rw [text_join]
      walk_at "gp"
      exact fin
end


theorem row_nodup : (cp row64).Nodup := by decide +kernel
theorem row_index : ∀ k < 64, Builtin.Str.occurrences row64 ⟨#[(cp row64).getD k 0]⟩ 0 row64.length 1 = [k] := by decide +kernel
section
variable {P : Program} {w : World} {K : PySem.W.Frag} {mg : Str → Option Value} {base : Heap} {a : Ad} {f : Addr} {fd : FuncData}
def isTextD : D → Bool
  | .v (.str s) => (cp s).all fun c => decide (c ∈ cp row64)
  | _ => false
def cellsD (s : Str) : List D := (cp s).map fun c => D.int ((cp row64).idxOf c : Nat)
abbrev spCellsOf (K : PySem.W.Frag) (a : Ad) : Sp := Pro K (T := Seen) (fun t => t.2.1) (fun t => [t.1]) (fun t => SeenOk t ∧ ∀ s, t.2.2 = .str s → (cp s).length ≤ 100000) (fun t d μ => ∃ s, t.2.2 = .str s ∧ isTextD t.2.2 = true ∧ d = .own 0 ∧ μ = [.lst (cellsD s)]) (fun t c d μ => (isTextD t.2.2 = false ∧ c = a.eInvalidText) ∧ d = t.1 ∧ μ = t.2.1)
theorem row_at {c : Nat} (h : c ∈ cp row64) : Builtin.Str.occurrences row64 ⟨#[c]⟩ 0 row64.length 1 = [(cp row64).idxOf c] := by
  have hi := List.idxOf_lt_length_of_mem h
  have hk : (cp row64).idxOf c < 64 := by rw [← row_len]; exact hi
  have q := row_index _ hk
  have e : (cp row64).getD ((cp row64).idxOf c) 0 = c := by
    rw [List.getD_eq_getElem?_getD, List.getElem?_eq_getElem hi]
    exact List.getElem_idxOf hi
  rw [e] at q
  exact q
abbrev st_cells_of_text : Stmt := top 20
abbrev nm_cells_of_text : List Str := ["text", "sign"]
theorem sc_cells_of_text : FnScope nm_cells_of_text ["text"] (defScope st_cells_of_text) := ⟨rfl, rfl, rfl, by decide +kernel, rfl, by decide +kernel, by decide +kernel⟩
end


section
variable {P : Program} {w : World} {K : PySem.W.Frag} {mg : Str → Option Value} {base : Heap} {a : Ad} {f : Addr} {fd : FuncData}
theorem ok_cells_of_text (F : Fun K "cells_of_text" "cells_of_text" st_cells_of_text f fd) (T : Tx P w K mg base a) : FnOk P w K mg base (L2.CX P w) 3 f fd ["text"] (spCellsOf K a) := by
  refine F.okX sc_cells_of_text (fun vs H Q E h => pro_len h fun _ => rfl) (fun cdv A outer s H vs Q E hr h => ⟨_, (pss_cons (ps_if (PW.pt (pw_or (pt_not (pt_val (pe_callB (kC K rIsiU rfl call_isU) (by rfl) T.b_isinstance (by decide +kernel) (pa_cons (pv 0) (pa_cons (pe_bltn (v := .ty "str") (by rfl) T.b_str (by decide +kernel) rfl) pa_nil))))) (pw_or1 (pt_not (pt_val (pe_callB (kC K rAll rfl (cr_all rfl)) (by rfl) T.b_all (by decide +kernel) (pa_cons (pe_lc (own := [("sign", 1)]) (tt := tYes) (g := (gName 1)) rfl sc_cells_of_text.nd (pi_str (pv 0)) (blkOk_by (own := [("sign", 1)]) (N := nm_cells_of_text) (sc := (defScope st_cells_of_text)) (by decide +kernel)) (fun _ _ _ _ _ => (pg_name (i := 1) sc_cells_of_text.nd rfl (by first | exact Or.inl rfl | exact Or.inr rfl))) (fun _ _ _ _ _ => pts_nil) (fun _ _ _ _ _ => (pe_cmpR (kO K rInU rfl op_inU) (pv 1) (pe_glob (v := .str (Str.ofString " A1B'K2L@CIF/MSP\"E3H9O6R^DJG>NTQ,*5<-U8V.~[$+X!&;:4\\0Z7(_?W]#Y)=")) rfl T.g_SIGNS.choose_spec ⟨_, rfl⟩) (by with_unfolding_all rfl)))) pa_nil))))))) (pss_one (ps_raiseC rfl T.e_InvalidText hr (by decide) (takes_of rfl rfl rfl rfl) rfl (pa_cons (pv 0) pa_nil))) pss_nil)
    (pss_one (ps_ret (pe_lc (own := [("sign", 1)]) (tt := tYes) (g := (gName 1)) rfl sc_cells_of_text.nd (pi_str (pv 0)) (blkOk_by (own := [("sign", 1)]) (N := nm_cells_of_text) (sc := (defScope st_cells_of_text)) (by decide +kernel)) (fun _ _ _ _ _ => (pg_name (i := 1) sc_cells_of_text.nd rfl (by first | exact Or.inl rfl | exact Or.inr rfl))) (fun _ _ _ _ _ => pts_nil) (fun _ _ _ _ _ => (pe_bmK (K := K) rfl PySem.F.plainAttrs_str PySem.F.slot_str_index PySem.F.type_str_index mt_sindex (pe_glob (v := .str (Str.ofString " A1B'K2L@CIF/MSP\"E3H9O6R^DJG>NTQ,*5<-U8V.~[$+X!&;:4\\0Z7(_?W]#Y)=")) rfl T.g_SIGNS.choose_spec ⟨_, rfl⟩) (pa_cons (pv 1) pa_nil))))))), run_body h fun t S ⟨hok, hsz⟩ hl hcl wi => ?_⟩)
  have wi2 := wi_seen (P := fun c d μ => (isTextD t.2.2 = false ∧ c = a.eInvalidText) ∧ d = t.1 ∧ μ = t.2.1) hok hl wi
  obtain ⟨d, μ, e⟩ := t
  have ha : Arg d μ e := hok.1
  have hokd : e.okd = true := hok.2
  have hpl := okd_pl hokd
  cases ha with
  | own h0 =>
    walk_at "pp"
    refine cc_isO rfl rfl ?_
    walk_at "pp"
    refine se_raise wi2 ?_
    walk_at "pp"
    exact ⟨rfl, rfl, ⟨rfl, rfl⟩, rfl, rfl⟩
  | cl h0 =>
    walk_at "pp"
    refine ⟨fun hb => ⟨fun _ => ?_, fun z => (by cases z)⟩, fun hb => ?_⟩
    · refine se_raise wi2 ?_
      walk_at "pp"
      refine ⟨rfl, rfl, ⟨?_, rfl⟩, rfl, rfl⟩
      show isTextD d = false
      cases d with
      | v x => cases x <;> first | rfl | (revert hb; simp [D.is, D.ty])
      | _ => rfl
    · obtain ⟨s, rfl⟩ := is_str hpl (by simpa using hb)
      have hs : (cp s).length ≤ 100000 := hsz s rfl
      have lsg : (signs s).length = (cp s).length := by
        unfold signs
        rw [List.length_map]
        rfl
      walk_at "pp"
      refine ee_lc (ie_str ?_)
      walk_at "pp"
      refine ⟨fun _ h => h, trivial, fun _ => true, fun x => match x with | .v (.str z) => .bl ((cp z).all fun c => decide (c ∈ cp row64)) | _ => .bl false, by omega, fun x hx _ => ?_, fun x acc hx => ?_, ?_⟩
      · unfold signs at hx
        obtain ⟨c, _, rfl⟩ := List.mem_map.mp hx
        rfl
      · unfold signs at hx
        obtain ⟨c, _, rfl⟩ := List.mem_map.mp hx
        refine gw_name (by decide) ?_
        refine et_yes ?_
        refine ⟨rfl, rfl, fun _ => ?_⟩
        walk_at "pp"
        refine oo_inC ?_
        refine ⟨?_, rfl⟩
        show D.bl (decide (c ∈ cp row64)) = D.bl ([c].all fun c => decide (c ∈ cp row64))
        simp
      · have el : (((signs s).filter fun _ => true).map fun x => match x with | .v (.str z) => D.bl ((cp z).all fun c => decide (c ∈ cp row64)) | _ => D.bl false) = ((cp s).map fun c => decide (c ∈ cp row64)).map D.bl := by
          unfold signs
          rw [List.filter_eq_self.mpr fun _ _ => rfl, List.map_map, List.map_map]
          refine List.map_congr_left fun c _ => ?_
          show D.bl ([c].all fun c => decide (c ∈ cp row64)) = _
          simp
        rw [el]
        walk_at "pp"
        refine cc_all (.lst _) ?_
        walk_at "pp"
        have ea : ((cp s).map fun c => decide (c ∈ cp row64)).all id = isTextD (.str s) := by
          rw [List.all_map]
          rfl
        rw [ea]
        refine ⟨fun hb => ?_, fun hb => ?_⟩
        · refine se_raise wi2 ?_
          walk_at "pp"
          exact ⟨rfl, rfl, ⟨by simpa using hb, rfl⟩, rfl, rfl⟩
        · have hb : isTextD (.str s) = true := by simpa using hb
          have hin : ∀ c ∈ cp s, c ∈ cp row64 := fun c hc => of_decide_eq_true (List.all_eq_true.mp (show ((cp s).all fun c => decide (c ∈ cp row64)) = true from hb) c hc)
          walk_at "pp"
          refine ee_lcN (ie_str ?_)
          walk_at "pp"
          refine ⟨fun _ h => h, trivial, fun _ => true, fun x => match x with | .v (.str z) => .int ((cp row64).idxOf ((cp z).getD 0 0) : Nat) | _ => .non, by omega, fun x acc hx => ?_, ?_⟩
          · unfold signs at hx
            obtain ⟨c, hc, rfl⟩ := List.mem_map.mp hx
            refine gw_name (by decide) ?_
            refine et_yes ?_
            refine ⟨rfl, rfl, fun _ => ?_⟩
            refine ee_bm ?_
            walk_at "pp"
            refine ⟨.str _, ?_⟩
            walk_at "pp"
            refine mm_sindex (a := row64) (row_at (hin c hc)) ?_
            exact ⟨rfl, rfl⟩
          · have ec : (((signs s).filter fun _ => true).map fun x => match x with | .v (.str z) => D.int ((cp row64).idxOf ((cp z).getD 0 0) : Nat) | _ => D.non) = cellsD s := by
              unfold signs cellsD
              rw [List.filter_eq_self.mpr fun _ _ => rfl, List.map_map]
              rfl
            rw [ec]
            have hl : S.A.length = 0 := hl
            have hcl2 : D.ltL 0 (cellsD s) = true := D.ltL_all.mpr fun x hx => by
              obtain ⟨y, _, rfl⟩ := List.mem_map.mp hx
              rfl
            walk_at "gp"
            refine gave_new (k := 0) (by rw [hl]; exact Nat.le_refl _) rfl (by rw [hl]; exact hcl2) (by rw [hl]; rfl) ?_
            exact ⟨s, rfl, hb, by rw [hl], by rw [hl]; rfl⟩
end


section
variable {P : Program} {w : World} {K : PySem.W.Frag} {mg : Str → Option Value} {base : Heap} {a : Ad} {f : Addr} {fd : FuncData}
def backL (l : List D) : List D := (l.map fun x => D.int (mirI (dotI x)).sum).reverse
theorem backL_cl {l : List D} {n : Nat} : D.ltL n (backL l) = true := D.ltL_all.mpr fun x hx => by
  obtain ⟨y, _, rfl⟩ := List.mem_map.mp (List.mem_reverse.mp hx)
  rfl
abbrev spFromBehind (K : PySem.W.Frag) (a : Ad) : Sp := Pro K (T := Seen) (fun t => t.2.1) (fun t => [t.1]) SeenOk (fun t d μ => ∃ l, t.2.2 = .lst l ∧ isCells t.2.2 = true ∧ d = .own t.2.1.length ∧ μ = t.2.1 ++ [.lst (backL l)]) (fun t c d μ => (isCells t.2.2 = false ∧ c = a.eInvalidCells) ∧ d = t.1 ∧ μ = t.2.1)
/-- a new list behind the argument -/
theorem gave_seenN {S : Bs} {t : Seen} {P : D → List Cell → Prop} {l : List D} (h : SeenOk t) (hl : S.A.length = t.2.1.length) (h1 : D.ltL 0 l = true) (hp : P (.own t.2.1.length) (t.2.1 ++ [.lst l])) : Gave S P (.own t.2.1.length) (t.2.1 ++ [.lst l]) := by
  obtain ⟨d0, μ0, e0⟩ := t
  have ha : Arg d0 μ0 e0 := h.1
  have hl : S.A.length = μ0.length := hl
  have et : (μ0 ++ [Cell.lst l]).take S.A.length = μ0 := by rw [hl, List.take_left]
  refine gave_new (k := μ0.length) (l := l) (Nat.le_of_eq hl) (by simp) (D.ltL_mono (Nat.zero_le _) h1) ?_ ?_
  · rw [et]
    cases ha with
    | cl hx => rfl
    | own hx =>
      show (D.ltL S.A.length _ && true) = true
      rw [D.ltL_mono (Nat.zero_le _) hx]
      rfl
  · rw [et, hl]
    exact hp
abbrev st_from_behind : Stmt := top 22
abbrev nm_from_behind : List Str := ["cells", "cell"]
theorem sc_from_behind : FnScope nm_from_behind ["cells"] (defScope st_from_behind) := ⟨rfl, rfl, rfl, by decide +kernel, rfl, by decide +kernel, by decide +kernel⟩
theorem ok_from_behind (F : Fun K "from_behind" "from_behind" st_from_behind f fd) (T : Tx P w K mg base a) (c_check_cells : CalX P w K mg base 4 "check_cells" ["value"] (spCheckCells K a)) (c_mirrored : CalX P w K mg base 1 "mirrored" ["cell"] (spMirrored K)) : FnOk P w K mg base (L2.CX P w) 5 f fd ["cells"] (spFromBehind K a) := by
  refine F.okX sc_from_behind (fun vs H Q E h => pro_len h fun _ => rfl) (fun cdv A outer s H vs Q E hr h => ⟨_, (pss_cons (ps_expr (pe_c c_check_cells hr (by first | decide | exact Nat.le_refl _) rfl (passes_call (takes_of rfl rfl rfl rfl) (fun _ _ _ _ h => h)) (pa_cons (pv 0) pa_nil)))
    (pss_one (ps_ret (pe_revLK (K := K) rfl (pe_lc (own := [("cell", 1)]) (tt := tYes) (g := (gName 1)) rfl sc_from_behind.nd (pi_listK (K := K) rfl (pv 0)) (blkOk_by (own := [("cell", 1)]) (N := nm_from_behind) (sc := (defScope st_from_behind)) (by decide +kernel)) (fun _ _ _ _ _ => (pg_name (i := 1) sc_from_behind.nd rfl (by first | exact Or.inl rfl | exact Or.inr rfl))) (fun _ _ _ _ _ => pts_nil) (fun _ _ _ _ _ => (pe_c c_mirrored hr (by first | decide | exact Nat.le_refl _) rfl passL (pa_cons (pv 1) pa_nil)))))))), run_body h fun t S hok hl hcl wi => ?_⟩)
  have wi2 := wi_seen (P := fun c d μ => (isCells t.2.2 = false ∧ c = a.eInvalidCells) ∧ d = t.1 ∧ μ = t.2.1) hok hl wi
  walk_at "pp"
  refine call_seenX t hok wi2 (fun e d h => by rw [h.1]; rfl) ?_
  walk_at "pp"
  refine ⟨rfl, rfl, fun d hd => ?_, fun c hc => ⟨rfl, rfl, hc, rfl, rfl⟩⟩
  have hb := hd.2
  obtain ⟨l, el, hcells⟩ := cells_lst hb
  have fin : Gave S (fun d μ => ∃ l, t.2.2 = .lst l ∧ isCells t.2.2 = true ∧ d = .own t.2.1.length ∧ μ = t.2.1 ++ [.lst (backL l)]) (.own t.2.1.length) (t.2.1 ++ [.lst (backL l)]) := gave_seenN hok hl backL_cl ⟨l, el, hb, rfl, rfl⟩
  have hz : l.length ≤ 100000 := by
    have z := hok.2
    rw [el] at z
    exact (okd_lst z).1
  have lst : ((l.filter fun _ => true).map fun x => D.int (mirI (dotI x)).sum).reverse = backL l := by
    rw [List.filter_eq_self.mpr fun _ _ => rfl]
    rfl
  obtain ⟨d0, μ, e⟩ := t
  have el : e = .lst l := el
  subst el
  have ha : Arg d0 μ (.lst l) := hok.1
  cases ha with
  | cl h0 =>
    walk_at "pp"
    refine ee_revO ?_
    refine ee_lc (ie_list ?_)
    walk_at "pp"
    refine ⟨l, .inl rfl, fun _ h => h, trivial, fun _ => true, fun x => .int (mirI (dotI x)).sum, by omega, fun _ _ _ => rfl, fun x acc hx => ?_, ?_⟩
    · obtain ⟨i, rfl, h1, h6⟩ := hcells x hx
      refine gw_name (by decide) ?_
      refine et_yes ?_
      refine ⟨rfl, rfl, fun _ => ?_⟩
      refine ee_cz ?_
      walk_at "pp"
      exact ⟨i, ⟨h1, h6⟩, rfl, rfl, fun d hd => ⟨hd, rfl⟩⟩
    · refine ⟨_, .lst _, ?_⟩
      rw [lst]
      walk_at "gp"
      exact fin
  | own h0 =>
    walk_at "pp"
    refine ee_revO ?_
    refine ee_lc (ie_own ?_)
    walk_at "pp"
    refine ⟨0, l, rfl, rfl, fun c h => rfl, rfl, fun _ => true, fun x => .int (mirI (dotI x)).sum, by omega, fun _ _ _ => rfl, fun x acc hx => ?_, ?_⟩
    · obtain ⟨i, rfl, h1, h6⟩ := hcells x hx
      refine gw_name (by decide) ?_
      refine et_yes ?_
      refine ⟨rfl, rfl, fun _ => ?_⟩
      refine ee_cz ?_
      walk_at "pp"
      exact ⟨i, ⟨h1, h6⟩, rfl, rfl, fun d hd => ⟨hd, rfl⟩⟩
    · refine ⟨_, .lst _, ?_⟩
      rw [lst]
      walk_at "gp"
      exact fin
/-! ### asked by the law -/
theorem set_same {α : Type} {μ : List α} {k : Nat} {c : α} (h : μ[k]? = some c) : μ.set k c = μ := by
  refine List.ext_getElem? fun i => ?_
  rw [List.getElem?_set]
  split
  · rename_i e
    subst e
    split
    · exact h.symm
    · rename_i hl
      rw [List.getElem?_eq_none (by omega)]
  · rfl
section
variable {S : Bs} {δ : Sl} {μ : List Cell} {C : D → List Cell → Prop} {ta : TA} {E : XK} {pre : Seen → Prop} {post : Seen → D → List Cell → Prop} {exc : Seen → Addr → D → List Cell → Prop}
abbrev Told (μ0 μ1 : List Cell) (C : D → List Cell → Prop) (r : D) (ν : List Cell) : Prop := (r.lt 0 = true ∧ ν = μ0 ∧ C r μ1) ∨ ∃ l', r = .own μ0.length ∧ ν = μ0 ++ [.lst l'] ∧ D.ltL 0 l' = true ∧ C (.own μ1.length) (μ1 ++ [.lst l'])
/-- of closed data -/
theorem ask0 (h : EA K S ta δ μ fun ds μ1 => ∃ d, ds = [d] ∧ d.lt 0 = true ∧ pre (d, [], d) ∧ (∀ c r ν, ¬ exc (d, [], d) c r ν) ∧ ∀ r ν, post (d, [], d) r ν → Told [] μ1 C r ν) : EE K S (tCall (Pro K (T := Seen) (fun t => t.2.1) (fun t => [t.1]) pre post exc) [] E ta) δ μ C :=
  ee_callG (CE := fun _ _ _ => False) [] Wi.none fun A G H σ a Q q => h A G H σ a Q fun vs ds A1 G1 H1 μ1 m n r ⟨d, e1, hd, hp, hx, hc⟩ => q vs ds A1 G1 H1 μ1 m n r (by
    subst e1
    have hl : D.ltL 0 [d] = true := by show (d.lt 0 && true) = true; rw [hd]; rfl
    refine ⟨(d, [], d), hp, List.nodup_nil, fun k hk => (by cases hk), rfl, rfl, hsL_cl hl, by rw [renL_cl hl]; rfl, fun r ν n' h1 _ _ _ _ => ?_, fun cc r ν h1 _ _ _ => (hx cc r ν h1).elim⟩
    rcases hc r ν h1 with ⟨q1, q2, q3⟩ | ⟨l', q1, q2, q3, q4⟩
    · subst q2
      rw [ren_cl q1]
      show C r (μ1 ++ [])
      rw [List.append_nil]
      exact q3
    · subst q1 q2
      show C (.own (μ1.length + (0 - 0))) (μ1 ++ [.lst (D.renL _ l')])
      rw [renL_cl q3]
      exact q4)
/-- of the open list k -/
theorem ask1 (k : Nat) (h : EA K S ta δ μ fun ds μ1 => ∃ l, ds = [.own k] ∧ μ1[k]? = some (.lst l) ∧ D.ltL 0 l = true ∧ pre (.own 0, [.lst l], .lst l) ∧ (∀ c r ν, ¬ exc (.own 0, [.lst l], .lst l) c r ν) ∧ ∀ r ν, post (.own 0, [.lst l], .lst l) r ν → Told [.lst l] μ1 C r ν) : EE K S (tCall (Pro K (T := Seen) (fun t => t.2.1) (fun t => [t.1]) pre post exc) [] E ta) δ μ C :=
  ee_callG (CE := fun _ _ _ => False) [k] Wi.none fun A G H σ a Q q => h A G H σ a Q fun vs ds A1 G1 H1 μ1 m n r ⟨l, e1, hk, hl, hp, hx, hc⟩ => q vs ds A1 G1 H1 μ1 m n r (by
    subst e1
    have hlt := (List.getElem?_eq_some_iff.mp hk).1
    have hg : μ1.getD k .off = .lst l := by
      have z := getD_cell hlt
      rw [hk] at z
      injection z with z
      exact z.symm
    have hh := (hand1 (k := k) (l := []) rfl).ren
    refine ⟨(.own 0, [.lst l], .lst l), hp, by simp, fun j hj => (by rw [List.mem_singleton.mp hj]; exact hlt), by rw [List.map_cons, List.map_nil, hg], ?_, hh.1, hh.2, fun r ν n' h1 _ _ _ _ => ?_, fun cc r ν h1 _ _ _ => (hx cc r ν h1).elim⟩
    · show (D.ltL 0 l && true) = true
      rw [hl]
      rfl
    · rcases hc r ν h1 with ⟨q1, q2, q3⟩ | ⟨l', q1, q2, q3, q4⟩
      · subst q2
        rw [ren_cl q1]
        show C r (μ1.set k (.lst (D.renL _ l)) ++ [])
        rw [renL_cl hl, List.append_nil, set_same hk]
        exact q3
      · subst q1 q2
        show C (.own (μ1.length + (1 - 1))) (μ1.set k (.lst (D.renL _ l)) ++ [.lst (D.renL _ l')])
        rw [renL_cl hl, renL_cl q3, set_same hk]
        exact q4)
end
end


section
variable {P : Program} {w : World} {K : PySem.W.Frag} {mg : Str → Option Value} {base : Heap} {a : Ad} {f : Addr} {fd : FuncData}
abbrev spLRow (K : PySem.W.Frag) : Sp := ProP K (T := Unit) (fun _ => []) (fun _ => True) (fun _ d => d = .str row64) (fun _ _ _ => False)
abbrev st__law_row : Stmt := top 29
abbrev nm__law_row : List Str := []
theorem sc__law_row : FnScope nm__law_row [] (defScope st__law_row) := ⟨rfl, rfl, rfl, by decide +kernel, rfl, by decide +kernel, by decide +kernel⟩
theorem ok_lrow (F : Fun K "_law_row" "_law_row" st__law_row f fd) (T : Tx P w K mg base a) : FnOk P w K mg base (L2.CX P w) 1 f fd [] (spLRow K) := by
  refine F.okX sc__law_row (fun vs H Q E h => pro_len h fun _ => rfl) (fun cdv A outer s H vs Q E hr h => ⟨_, (pss_one (ps_ret pe_str)), run_body h fun t S hp hl hcl wi => ?_⟩)
  walk_at "pp"
  walk_at "gp"
  exact gaveP hl (by rfl) rfl
def dotsP (i : Int) (j : Nat) : List D := ((rng 0 j).filter fun x => decide (i / pw2 (dotI x).toNat % 2 = 1)).map fun x => D.int (dotI x + 1)
theorem dotsP_cl {i : Int} {j n : Nat} : D.ltL n (dotsP i j) = true := D.ltL_all.mpr fun x hx => by
  obtain ⟨y, _, rfl⟩ := List.mem_map.mp hx
  rfl
theorem rng_succ {j : Nat} : rng 0 (j + 1) = rng 0 j ++ [.int (j : Int)] := by
  unfold rng
  rw [List.range_succ, List.map_append]
  show _ ++ [D.int (0 + (j : Int))] = _
  rw [Int.zero_add]
theorem dotsP_succ {i : Int} {j : Nat} : dotsP i (j + 1) = dotsP i j ++ if i / pw2 j % 2 = 1 then [.int ((j : Int) + 1)] else [] := by
  unfold dotsP
  rw [rng_succ, List.filter_append, List.map_append]
  congr 1
  have e : (dotI (.int (j : Int))).toNat = j := rfl
  by_cases h : i / pw2 j % 2 = 1
  · rw [if_pos h, List.filter_cons, e, decide_eq_true h]
    rfl
  · rw [if_neg h, List.filter_cons, e, decide_eq_false h]
    rfl
theorem dotsP_len {i : Int} {j : Nat} : (dotsP i j).length ≤ j := by
  unfold dotsP
  rw [List.length_map]
  have := List.length_filter_le (fun x => decide (i / pw2 (dotI x).toNat % 2 = 1)) (rng 0 j)
  rw [rng_len] at this
  exact this
theorem pw2_pow {j : Nat} (h : j < 6) : pw2 j = 2 ^ j := by
  have : j ∈ [0, 1, 2, 3, 4, 5] := by simp; omega
  simp only [List.mem_cons, List.not_mem_nil, or_false] at this
  rcases this with rfl | rfl | rfl | rfl | rfl | rfl <;> rfl
theorem half_pow {i : Int} {j : Nat} : i / 2 ^ j / 2 = i / 2 ^ (j + 1) := by
  rw [Int.ediv_ediv_of_nonneg (by exact Int.pow_nonneg (by decide)), Int.pow_succ]
abbrev spLDots (K : PySem.W.Frag) : Sp := ProN K (T := Int) (fun i => [.int i]) (fun i => 0 ≤ i ∧ i < 64) (fun i l => l = dotsL i) (fun _ _ _ => False)
abbrev st__law_dots : Stmt := top 30
abbrev nm__law_dots : List Str := ["cell", "found", "dot"]
theorem sc__law_dots : FnScope nm__law_dots ["cell"] (defScope st__law_dots) := ⟨rfl, rfl, rfl, by decide +kernel, rfl, by decide +kernel, by decide +kernel⟩
theorem ok_ldots (F : Fun K "_law_dots" "_law_dots" st__law_dots f fd) (T : Tx P w K mg base a) : FnOk P w K mg base (L2.CX P w) 1 f fd ["cell"] (spLDots K) := by
  refine F.okX sc__law_dots (fun vs H Q E h => pro_len h fun _ => rfl) (fun cdv A outer s H vs Q E hr h => ⟨_, (pss_cons (ps_set (i := 1) sc__law_dots.nd rfl (by first | exact Or.inl rfl | exact Or.inr rfl) (pe_lst pa_nil))
    (pss_cons (ps_for (passes_of rfl) rfl (pi_range2 rfl T.b_range (pa_cons pe_int (pa_cons pe_int pa_nil))) (pg_name (i := 2) sc__law_dots.nd rfl (by first | exact Or.inl rfl | exact Or.inr rfl))
      (pss_cons (ps_if (pt_cmpR (kO K rEqU rfl (op_eqU (hu64 hr))) (pe_op op_mod (pv 0) pe_int) pe_int (nomark _)) (pss_one (ps_expr (pe_bmK (K := K) rfl PySem.F.plainAttrs_list PySem.F.slot_list_append PySem.F.type_list_append mt_append (pv 1) (pa_cons (pv 2) pa_nil)))) pss_nil)
    (pss_one (ps_set (i := 0) sc__law_dots.nd rfl (by first | exact Or.inl rfl | exact Or.inr rfl) (pe_op op_fdivW (pv 0) pe_int)))))
    (pss_one (ps_ret (pv 1))))), run_body h fun i S ⟨h0, h1⟩ hl hcl wi => ?_⟩)
  have hl : S.A.length = 0 := hl
  have b : ∀ j : Nat, 0 ≤ i / 2 ^ j ∧ i / 2 ^ j < 64 := fun j => ⟨Int.ediv_nonneg h0 (Int.pow_nonneg (by decide)), Int.lt_of_le_of_lt (Int.ediv_le_self _ h0) h1⟩
  walk_at "pp"
  refine ee_open ?_
  walk_at "pp"
  refine se_for (ie_rng2 ?_)
  walk_at "pp"
  refine ⟨by decide, ?_⟩
  refine ⟨rfl, fun j δ μ => ∃ x, δ = [some (.int (i / 2 ^ j)), some (.own 0), x] ∧ μ = [.lst (dotsP i j)], ⟨none, by rw [Int.pow_zero, Int.ediv_one]; rfl, rfl⟩, ?_, ?_⟩
  · rintro j x δ μ hj ⟨x0, rfl, rfl⟩
    obtain ⟨hj6, rfl⟩ := rng_get hj
    have hj6 : j < 6 := hj6
    have e1 : (1 : Int) + (j : Int) = (j : Int) + 1 := Int.add_comm _ _
    rw [e1]
    have hd : i / 2 ^ j / 2 = i / 2 ^ (j + 1) := half_pow
    walk_at "pp"
    refine oo_mod (by decide) ?_
    walk_at "pp"
    refine ⟨fun hb => ?_, fun hb => ?_⟩
    · have hb : i / 2 ^ j % 2 = 1 := by
        have z := of_decide_eq_true hb
        injection z
      walk_at "pp"
      refine ee_bm ?_
      walk_at "pp"
      refine ⟨.lst (.own rfl), ?_⟩
      walk_at "pp"
      refine mm_append rfl (by have := dotsP_len (i := i) (j := j); omega) ?_
      walk_at "pp"
      refine oo_div (wide_div (by decide) (b := 40) (by have := b j; omega) (by decide) (by decide)) ?_
      walk_at "pp"
      refine ⟨_, by rw [hd]; rfl, ?_⟩
      rw [dotsP_succ, pw2_pow hj6, if_pos hb]
      rfl
    · have hb : ¬ i / 2 ^ j % 2 = 1 := fun z => by
        rw [z] at hb
        cases hb
      walk_at "pp"
      refine oo_div (wide_div (by decide) (b := 40) (by have := b j; omega) (by decide) (by decide)) ?_
      walk_at "pp"
      refine ⟨_, by rw [hd]; rfl, ?_⟩
      rw [dotsP_succ, pw2_pow hj6, if_neg hb, List.append_nil]
  · rintro δ μ ⟨x, rfl, rfl⟩
    walk_at "pp"
    walk_at "gp"
    exact gaveN hl (k := 0) rfl dotsP_cl rfl
def DotList (l : List D) : Prop := l.length ≤ 1000 ∧ ∀ x ∈ l, ∃ i : Int, x = .int i ∧ 1 ≤ i ∧ i ≤ 6
theorem DotList.cl {l : List D} (h : DotList l) {n : Nat} : D.ltL n l = true := D.ltL_all.mpr fun x hx => by
  obtain ⟨i, rfl, _⟩ := h.2 x hx
  rfl
abbrev spLCell (K : PySem.W.Frag) : Sp := ProP K (T := List D) (fun l => [.lst l]) DotList (fun l d => d = .int (cellL l)) (fun _ _ _ => False)
theorem at6 {i : Int} {g : List Int} (hg : g.length = 6) (h1 : 1 ≤ i) (h6 : i ≤ 6) : atI (g.map D.int) (i - 1) = some (.int (g.getD (i - 1).toNat 0)) := by
  refine atI_of (j := (i - 1).toNat) ?_ (by omega)
  rw [List.getElem?_map, List.getElem?_eq_getElem (by omega), List.getD_eq_getElem?_getD, List.getElem?_eq_getElem (by omega)]
  rfl
abbrev st__law_cell : Stmt := top 31
abbrev nm__law_cell : List Str := ["dots", "dot"]
theorem sc__law_cell : FnScope nm__law_cell ["dots"] (defScope st__law_cell) := ⟨rfl, rfl, rfl, by decide +kernel, rfl, by decide +kernel, by decide +kernel⟩
theorem ok_lcell (F : Fun K "_law_cell" "_law_cell" st__law_cell f fd) (T : Tx P w K mg base a) : FnOk P w K mg base (L2.CX P w) 1 f fd ["dots"] (spLCell K) := by
  refine F.okX sc__law_cell (fun vs H Q E h => pro_len h fun _ => rfl) (fun cdv A outer s H vs Q E hr h => ⟨_, (pss_one (ps_ret (pe_callB (kC K rSum rfl (cr_sum rfl)) (by rfl) T.b_sum (by decide +kernel) (pa_cons (pe_lc (own := [("dot", 1)]) (tt := tYes) (g := (gName 1)) rfl sc__law_cell.nd (pi_listK (K := K) rfl (pv 0)) (blkOk_by (own := [("dot", 1)]) (N := nm__law_cell) (sc := (defScope st__law_cell)) (by decide +kernel)) (fun _ _ _ _ _ => (pg_name (i := 1) sc__law_cell.nd rfl (by first | exact Or.inl rfl | exact Or.inr rfl))) (fun _ _ _ _ _ => pts_nil) (fun _ _ _ _ _ => (pe_ix (kX K rIx rfl ix_seq) (pe_lst (pa_cons pe_int (pa_cons pe_int (pa_cons pe_int (pa_cons pe_int (pa_cons pe_int (pa_cons pe_int pa_nil))))))) (pe_op op_sub (pv 1) pe_int) (fun _ _ => rfl)))) pa_nil)))), run_body h fun l S ⟨hz, hd⟩ hl hcl wi => ?_⟩)
  have hl : S.A.length = 0 := hl
  walk_at "pp"
  refine ee_lc (ie_list ?_)
  walk_at "pp"
  refine ⟨l, .inl rfl, fun _ h => h, trivial, fun _ => true, fun x => .int (pw2 (dotI x - 1).toNat), by omega, fun _ _ _ => rfl, fun x acc hx => ?_, ?_⟩
  · obtain ⟨i, rfl, h1, h6⟩ := hd x hx
    refine gw_name (by decide) ?_
    refine et_yes ?_
    refine ⟨rfl, rfl, fun _ => ?_⟩
    walk_at "pp"
    refine ee_lst ?_
    walk_at "pp"
    refine oo_ixL (at6 (g := [1, 2, 4, 8, 16, 32]) rfl h1 h6) ?_
    have : i ∈ ([1, 2, 3, 4, 5, 6] : List Int) := by simp; omega
    simp only [List.mem_cons, List.not_mem_nil, or_false] at this
    rcases this with rfl | rfl | rfl | rfl | rfl | rfl <;> exact ⟨rfl, rfl⟩
  · have el : ((l.filter fun _ => true).map fun x => D.int (pw2 (dotI x - 1).toNat)) = (l.map fun x => pw2 (dotI x - 1).toNat).map D.int := by
      rw [List.filter_eq_self.mpr fun _ _ => rfl, List.map_map]
      rfl
    rw [el]
    walk_at "pp"
    refine cc_sum (.lst _) ?_
    walk_at "gp"
    exact gaveP hl (by rfl) rfl
end


section
variable {P : Program} {w : World} {K : PySem.W.Frag} {mg : Str → Option Value} {base : Heap} {a : Ad} {f : Addr} {fd : FuncData}
def CellList (l : List D) : Prop := l.length ≤ 1000 ∧ ∀ x ∈ l, ∃ i : Int, x = .int i ∧ 0 ≤ i ∧ i < 64
def lbk (i : Int) : List D := (dotsL i).map fun x => D.int (([4, 5, 6, 1, 2, 3] : List Int).getD (dotI x - 1).toNat 0)
theorem upto64 {i : Int} (h0 : 0 ≤ i) (h1 : i < 64) : ∃ k : Nat, k < 64 ∧ i = (k : Int) := ⟨i.toNat, by omega, by omega⟩
theorem lbk_mir0 : ∀ k < 64, cellL (lbk ((k : Nat) : Int)) = (mirI ((k : Nat) : Int)).sum := by decide +kernel
theorem lbk_mir {i : Int} (h0 : 0 ≤ i) (h1 : i < 64) : cellL (lbk i) = (mirI i).sum := by
  obtain ⟨k, hk, rfl⟩ := upto64 h0 h1
  exact lbk_mir0 k hk
theorem dots_list {i : Int} : DotList (dotsL i) := by
  refine ⟨Nat.le_trans (dotsP_len (i := i) (j := 6)) (by decide), fun x hx => ?_⟩
  obtain ⟨y, hy, rfl⟩ := List.mem_map.mp hx
  obtain ⟨k, hk⟩ := List.getElem?_of_mem (List.mem_filter.mp hy).1
  obtain ⟨h6, rfl⟩ := rng_get hk
  exact ⟨_, rfl, by show 1 ≤ (0 + (k : Int)) + 1; omega, by show (0 + (k : Int)) + 1 ≤ 6; omega⟩
theorem lbk_list {i : Int} : DotList (lbk i) := by
  refine ⟨by unfold lbk; rw [List.length_map]; exact dots_list.1, fun x hx => ?_⟩
  obtain ⟨y, hy, rfl⟩ := List.mem_map.mp hx
  obtain ⟨j, rfl, h1, h6⟩ := dots_list.2 y hy
  have : j ∈ ([1, 2, 3, 4, 5, 6] : List Int) := by simp; omega
  simp only [List.mem_cons, List.not_mem_nil, or_false] at this
  rcases this with rfl | rfl | rfl | rfl | rfl | rfl <;> exact ⟨_, rfl, by decide, by decide⟩
abbrev spLBack (K : PySem.W.Frag) : Sp := ProN K (T := List D) (fun l => [.lst l]) CellList (fun l m => m = backL l) (fun _ _ _ => False)
abbrev st__law_back : Stmt := top 32
abbrev nm__law_back : List Str := ["cells", "found", "cell", "dot"]
theorem sc__law_back : FnScope nm__law_back ["cells"] (defScope st__law_back) := ⟨rfl, rfl, rfl, by decide +kernel, rfl, by decide +kernel, by decide +kernel⟩
theorem ok_lback (F : Fun K "_law_back" "_law_back" st__law_back f fd) (T : Tx P w K mg base a) (c__law_dots : CalX P w K mg base 1 "_law_dots" ["cell"] (spLDots K)) (c__law_cell : CalX P w K mg base 1 "_law_cell" ["dots"] (spLCell K)) : FnOk P w K mg base (L2.CX P w) 2 f fd ["cells"] (spLBack K) := by
  refine F.okX sc__law_back (fun vs H Q E h => pro_len h fun _ => rfl) (fun cdv A outer s H vs Q E hr h => ⟨_, (pss_cons (ps_set (i := 1) sc__law_back.nd rfl (by first | exact Or.inl rfl | exact Or.inr rfl) (pe_lst pa_nil))
    (pss_cons (ps_for (passes_of rfl) rfl (pi_listK (K := K) rfl (pe_revLK (K := K) rfl (pv 0))) (pg_name (i := 2) sc__law_back.nd rfl (by first | exact Or.inl rfl | exact Or.inr rfl))
      (pss_one (ps_expr (pe_bmK (K := K) rfl PySem.F.plainAttrs_list PySem.F.slot_list_append PySem.F.type_list_append mt_append (pv 1) (pa_cons (pe_c c__law_cell hr (by first | decide | exact Nat.le_refl _) rfl (passes_call (takes_of rfl rfl rfl rfl) (fun _ _ _ _ h => h)) (pa_cons (pe_lc (own := [("dot", 3)]) (tt := tYes) (g := (gName 3)) rfl sc__law_back.nd (pi_listK (K := K) rfl (pe_c c__law_dots hr (by first | decide | exact Nat.le_refl _) rfl (passes_call (takes_of rfl rfl rfl rfl) (fun _ _ _ _ h => h)) (pa_cons (pv 2) pa_nil))) (blkOk_by (own := [("dot", 3)]) (N := nm__law_back) (sc := (defScope st__law_back)) (by decide +kernel)) (fun _ _ _ _ _ => (pg_name (i := 3) sc__law_back.nd rfl (by first | exact Or.inl rfl | exact Or.inr rfl))) (fun _ _ _ _ _ => pts_nil) (fun _ _ _ _ _ => (pe_ix (kX K rIx rfl ix_seq) (pe_lst (pa_cons pe_int (pa_cons pe_int (pa_cons pe_int (pa_cons pe_int (pa_cons pe_int (pa_cons pe_int pa_nil))))))) (pe_op op_sub (pv 3) pe_int) (fun _ _ => rfl)))) pa_nil)) pa_nil)))))
    (pss_one (ps_ret (pv 1))))), run_body h fun l S ⟨hz, hd⟩ hl hcl wi => ?_⟩)
  have hl : S.A.length = 0 := hl
  have hlen : ∀ j, (((l.reverse.take j).map fun x => D.int (mirI (dotI x)).sum)).length < 10000000 := fun j => by
    rw [List.length_map, List.length_take, List.length_reverse]
    omega
  walk_at "pp"
  refine ee_open ?_
  walk_at "pp"
  refine se_for (ie_list ?_)
  refine ee_revL ?_
  walk_at "pp"
  refine ⟨l.reverse, .inl rfl, ?_⟩
  refine ⟨rfl, fun j δ μ => ∃ x y, δ = [some (.lst l), some (.own 0), x, y] ∧ μ = [.lst ((l.reverse.take j).map fun x => D.int (mirI (dotI x)).sum)], ⟨none, none, rfl, rfl⟩, ?_, ?_⟩
  · rintro j x δ μ hj ⟨x0, y0, rfl, rfl⟩
    have hm : x ∈ l := List.mem_reverse.mp (List.mem_of_getElem? hj)
    obtain ⟨i, rfl, h0, h1⟩ := hd x hm
    have ht : l.reverse.take (j + 1) = l.reverse.take j ++ [.int i] := by
      rw [List.take_succ, hj]
      rfl
    have hln := hlen j
    walk_at "pp"
    refine ee_bm ?_
    walk_at "pp"
    refine ⟨.lst (.own rfl), ?_⟩
    walk_at "pp"
    refine ee_cz ?_
    walk_at "pp"
    refine ee_lc (ie_list ?_)
    refine ee_czS ?_
    walk_at "pp"
    refine ⟨i, ⟨h0, h1⟩, rfl, rfl, ?_⟩
    rintro m rfl hm0
    refine ⟨_, .inl rfl, fun _ h => h, trivial, fun _ => true, fun x => D.int (([4, 5, 6, 1, 2, 3] : List Int).getD (dotI x - 1).toNat 0), by have := (dots_list (i := i)).1; omega, fun _ _ _ => rfl, fun x acc hx => ?_, ?_⟩
    · obtain ⟨j, rfl, g1, g6⟩ := dots_list.2 x hx
      refine gw_name (by decide) ?_
      refine et_yes ?_
      refine ⟨rfl, rfl, fun _ => ?_⟩
      walk_at "pp"
      refine ee_lst ?_
      walk_at "pp"
      refine oo_ixL (at6 (g := [4, 5, 6, 1, 2, 3]) rfl g1 g6) ?_
      exact ⟨rfl, rfl⟩
    · rw [List.filter_eq_self.mpr fun _ _ => rfl]
      walk_at "pp"
      refine ⟨lbk i, lbk_list, rfl, by show (D.ltL 0 (lbk i) && true) = true; rw [lbk_list.cl]; rfl, ?_⟩
      rintro d rfl
      walk_at "pp"
      refine mm_append (k := 0) (l := (l.reverse.take j).map fun x => D.int (mirI (dotI x)).sum) rfl hln ?_
      walk_at "pp"
      rw [ht, List.map_append, lbk_mir h0 h1]
      rfl
  · rintro δ μ ⟨x, y, rfl, rfl⟩
    have e : (l.reverse.take l.reverse.length).map (fun x => D.int (mirI (dotI x)).sum) = backL l := by
      rw [List.take_length, List.map_reverse]
      rfl
    rw [e]
    walk_at "pp"
    walk_at "gp"
    exact gaveN hl (k := 0) rfl backL_cl rfl
/-! ### all pairs alike -/
mutual
theorem sub_cl {g : Nat → Option (List D)} : ∀ {d : D}, d.lt 0 = true → d.sub g = d
  | .v _, _ => rfl
  | .own k, h => absurd (of_decide_eq_true (show decide (k < 0) = true from h)) (Nat.not_lt_zero k)
  | .lst l, h => congrArg D.lst (subL_cl h)
  | .rd l, h => congrArg D.rd (subL_cl h)
  | .tup l, h => congrArg D.tup (subL_cl h)
  | .dic ks l, h => congrArg (D.dic ks) (subL_cl h)
  | .exc c d, h => congrArg (D.exc c) (sub_cl h)
theorem subL_cl {g : Nat → Option (List D)} : ∀ {l : List D}, D.ltL 0 l = true → D.subL g l = l
  | [], _ => rfl
  | d :: l, h => by
    have h : (D.lt 0 d && D.ltL 0 l) = true := h
    rw [Bool.and_eq_true] at h
    show D.sub g d :: D.subL g l = d :: l
    rw [sub_cl h.1, subL_cl h.2]
end
def Alike (x : D) : Prop := exOk 6 x = true ∧ noDic x = true ∧ x.lt 0 = true
def RPair (g : Nat → Option (List D)) (p : D) : Prop := ∃ a b x, p = .tup [a, b] ∧ a.sub g = x ∧ b.sub g = x ∧ Alike x
theorem rp_cl {g : Nat → Option (List D)} {x : D} (h : Alike x) : RPair g (.tup [x, x]) := ⟨x, x, x, rfl, sub_cl h.2.2, sub_cl h.2.2, h⟩
theorem rp_own {μ : List Cell} {l : List D} {k : Nat} (h : Alike (.lst l)) (hk : μ[k]? = some (.lst l)) : RPair (rdC μ) (.tup [.lst l, .own k]) := by
  refine ⟨_, _, .lst l, rfl, sub_cl h.2.2, ?_, h⟩
  show (match rdC μ k with | some l => D.lst l | none => .own k) = .lst l
  unfold rdC
  rw [hk]
theorem rights {g : Nat → Option (List D)} : ∀ {l : List D}, (∀ p ∈ l, RPair g p) → ∃ xs : List D, D.subL g l = xs.map (fun x => D.tup [x, x]) ∧ xs.length = l.length ∧ ∀ x ∈ xs, Alike x
  | [], _ => ⟨[], rfl, rfl, fun x h => (by cases h)⟩
  | p :: l, h => by
    obtain ⟨xs, h1, h2, h3⟩ := rights (l := l) fun q hq => h q (List.mem_cons_of_mem _ hq)
    obtain ⟨a, b, x, rfl, e1, e2, hx⟩ := h p List.mem_cons_self
    refine ⟨x :: xs, ?_, by rw [List.length_cons, List.length_cons, h2], fun y hy => ?_⟩
    · show D.tup [a.sub g, b.sub g] :: D.subL g l = _
      rw [e1, e2, h1]
      rfl
    · rcases List.mem_cons.mp hy with rfl | hy
      · exact hx
      · exact h3 y hy
theorem alike_ints {l : List D} (hz : l.length ≤ 1000000) (h : ∀ x ∈ l, ∃ i : Int, x = .int i) : Alike (.lst l) := by
  refine ⟨?_, rfl, D.ltL_all.mpr fun x hx => by obtain ⟨i, rfl⟩ := h x hx; rfl⟩
  show (decide (l.length ≤ 1000000) && l.all (fun x => noDic x && exOk 5 x)) = true
  rw [decide_eq_true hz, Bool.true_and, List.all_eq_true]
  intro x hx
  obtain ⟨i, rfl⟩ := h x hx
  rfl
abbrev spAllRight (K : PySem.W.Frag) : Sp := ProP K (T := List D) (fun xs => [.lst (xs.map fun x => .tup [x, x])]) (fun xs => xs.length ≤ 1000 ∧ ∀ x ∈ xs, Alike x) (fun _ d => d = .bl true) (fun _ _ _ => False)
abbrev st__law_all_right : Stmt := top 33
abbrev nm__law_all_right : List Str := ["pairs", "pair"]
theorem sc__law_all_right : FnScope nm__law_all_right ["pairs"] (defScope st__law_all_right) := ⟨rfl, rfl, rfl, by decide +kernel, rfl, by decide +kernel, by decide +kernel⟩
theorem ok_all_right (F : Fun K "_law_all_right" "_law_all_right" st__law_all_right f fd) (T : Tx P w K mg base a) (c__law_exact : CalX P w K mg base 7 "_law_exact" ["mine", "theirs"] (spExact K 6)) : FnOk P w K mg base (L2.CX P w) 8 f fd ["pairs"] (spAllRight K) := by
  refine F.okX sc__law_all_right (fun vs H Q E h => pro_len h fun _ => rfl) (fun cdv A outer s H vs Q E hr h => ⟨_, (pss_one (ps_ret (pe_cmpR (kO K rEqU rfl (op_eqU (hu64 hr))) (pe_lc (own := [("pair", 1)]) (g := (gName 1)) rfl sc__law_all_right.nd (pi_listK (K := K) rfl (pv 0)) (blkOk_by (own := [("pair", 1)]) (N := nm__law_all_right) (sc := (defScope st__law_all_right)) (by decide +kernel)) (fun _ _ _ _ _ => (pg_name (i := 1) sc__law_all_right.nd rfl (by first | exact Or.inl rfl | exact Or.inr rfl))) (fun _ _ _ _ _ => (pts_one (pt_not (pt_val (pe_c c__law_exact hr (by first | decide | exact Nat.le_refl _) rfl passL (pa_cons (pe_ix (kX K rIx rfl ix_seq) (pv 1) pe_int (fun _ _ => rfl)) (pa_cons (pe_ix (kX K rIx rfl ix_seq) (pv 1) pe_int (fun _ _ => rfl)) pa_nil))))))) (fun _ _ _ _ _ => (pv 1))) (pe_lst pa_nil) (nomark _)))), run_body h fun xs S ⟨hz, hx⟩ hl hcl wi => ?_⟩)
  have hl : S.A.length = 0 := hl
  walk_at "pp"
  refine ee_lc (ie_list ?_)
  walk_at "pp"
  refine ⟨_, .inl rfl, fun _ h => h, trivial, fun _ => false, fun x => x, by rw [List.length_map]; omega, fun x _ h => (by cases h), fun p acc hp => ?_, ?_⟩
  · obtain ⟨x, hm, rfl⟩ := List.mem_map.mp hp
    obtain ⟨h1, h2, h3⟩ := hx x hm
    refine gw_name (by decide) ?_
    walk_at "pp"
    refine ee_cz ?_
    walk_at "pp"
    refine oo_ixT (d := x) rfl ?_
    walk_at "pp"
    refine oo_ixT (d := x) rfl ?_
    walk_at "pp"
    refine ⟨x, h1, rfl, by show (x.lt 0 && (x.lt 0 && true)) = true; rw [h3]; rfl, ?_⟩
    rintro d rfl
    have e : exR x = true := by cases x <;> first | rfl | cases h2
    refine ⟨_, rfl, ?_⟩
    rw [e]
    exact ⟨rfl, rfl, fun z => (by cases z)⟩
  · have e : (xs.map fun x => D.tup [x, x]).filter (fun _ => false) = [] := List.filter_eq_nil_iff.mpr fun _ _ => Bool.false_ne_true
    rw [e]
    walk_at "pp"
    refine ee_lst ?_
    walk_at "pp"
    refine oo_eqD (p := .list []) (q := .list []) rfl rfl rfl rfl ?_
    walk_at "gp"
    exact gaveP hl (by rfl) rfl
/-- asked of pairs in which lists may stand open -/
theorem ask_right {S : Bs} {δ : Sl} {μ : List Cell} {C : D → List Cell → Prop} {ta : TA} {E : XK} (h : EA K S ta δ μ fun ds μ1 => ∃ l, ds = [.lst l] ∧ l.length ≤ 1000 ∧ (∀ p ∈ l, RPair (rdC μ1) p) ∧ C (.bl true) μ1) : EE K S (tCall (spAllRight K) [] E ta) δ μ C :=
  ee_czB fun A G H σ a Q q => h A G H σ a Q fun vs ds A1 G1 H1 μ1 m n r ⟨l, e, hz, hp, c⟩ => q vs ds A1 G1 H1 μ1 m n r (by
    subst e
    obtain ⟨xs, h1, h2, h3⟩ := rights hp
    refine ⟨xs, ⟨by omega, h3⟩, ?_, ?_, ?_⟩
    · show [D.lst (D.subL (rdC μ1) l)] = _
      rw [h1]
    · show (D.ltL 0 (xs.map fun x => D.tup [x, x]) && true) = true
      rw [Bool.and_true]
      refine D.ltL_all.mpr fun y hy => ?_
      obtain ⟨x, hx, rfl⟩ := List.mem_map.mp hy
      show (x.lt 0 && (x.lt 0 && true)) = true
      rw [(h3 x hx).2.2]
      rfl
    · rintro d rfl
      exact ⟨_, rfl, c⟩)
end


section
variable {P : Program} {w : World} {K : PySem.W.Frag} {mg : Str → Option Value} {base : Heap} {a : Ad} {f : Addr} {fd : FuncData}
theorem okd_ints {l : List D} (hz : l.length ≤ 100000) (h : ∀ x ∈ l, ∃ i : Int, x = .int i) : (D.lst l).okd = true := by
  have q : ∀ {l : List D}, (∀ x ∈ l, ∃ i : Int, x = .int i) → D.okdL l = true := by
    intro l
    induction l with
    | nil => exact fun _ => rfl
    | cons x l ih =>
      intro h
      obtain ⟨i, rfl⟩ := h x List.mem_cons_self
      exact Bool.and_eq_true_iff.mpr ⟨rfl, ih fun y hy => h y (List.mem_cons_of_mem _ hy)⟩
  exact Bool.and_eq_true_iff.mpr ⟨decide_eq_true hz, q h⟩
theorem CellList.ints {l : List D} (h : CellList l) : ∀ x ∈ l, ∃ i : Int, x = .int i := fun x hx => let ⟨i, e, _⟩ := h.2 x hx; ⟨i, e⟩
theorem DotList.ints {l : List D} (h : DotList l) : ∀ x ∈ l, ∃ i : Int, x = .int i := fun x hx => let ⟨i, e, _⟩ := h.2 x hx; ⟨i, e⟩
theorem ints_cl {l : List D} {n : Nat} (h : ∀ x ∈ l, ∃ i : Int, x = .int i) : D.ltL n l = true := D.ltL_all.mpr fun x hx => by
  obtain ⟨i, rfl⟩ := h x hx
  rfl
theorem CellList.is {l : List D} (h : CellList l) : isCells (.lst l) = true := List.all_eq_true.mpr fun x hx => by
  obtain ⟨i, rfl, h0, h1⟩ := h.2 x hx
  exact Bool.and_eq_true_iff.mpr ⟨decide_eq_true h0, decide_eq_true h1⟩
theorem CellList.okd {l : List D} (h : CellList l) : (D.lst l).okd = true := okd_ints (Nat.le_trans h.1 (by decide)) h.ints
theorem CellList.alike {l : List D} (h : CellList l) : Alike (.lst l) := alike_ints (Nat.le_trans h.1 (by decide)) h.ints
theorem mir_cell0 : ∀ k < 64, decide (0 ≤ (mirI ((k : Nat) : Int)).sum) = true ∧ decide ((mirI ((k : Nat) : Int)).sum < 64) = true ∧ decide ((mirI (mirI ((k : Nat) : Int)).sum).sum = (k : Int)) = true := by decide +kernel
theorem mir_cell {i : Int} (h0 : 0 ≤ i) (h1 : i < 64) : 0 ≤ (mirI i).sum ∧ (mirI i).sum < 64 ∧ (mirI (mirI i).sum).sum = i := by
  obtain ⟨k, hk, rfl⟩ := upto64 h0 h1
  obtain ⟨q1, q2, q3⟩ := mir_cell0 k hk
  exact ⟨of_decide_eq_true q1, of_decide_eq_true q2, of_decide_eq_true q3⟩
theorem backL_list {l : List D} (h : CellList l) : CellList (backL l) := by
  refine ⟨by unfold backL; rw [List.length_reverse, List.length_map]; exact h.1, fun x hx => ?_⟩
  obtain ⟨y, hy, rfl⟩ := List.mem_map.mp (List.mem_reverse.mp hx)
  obtain ⟨i, rfl, h0, h1⟩ := h.2 y hy
  exact ⟨_, rfl, (mir_cell h0 h1).1, (mir_cell h0 h1).2.1⟩
theorem backL_back {l : List D} (h : CellList l) : backL (backL l) = l := by
  unfold backL
  rw [List.map_reverse, List.reverse_reverse, List.map_map]
  have e : l.map ((fun x => D.int (mirI (dotI x)).sum) ∘ fun x => D.int (mirI (dotI x)).sum) = l.map id := List.map_congr_left fun x hx => by
    obtain ⟨i, rfl, h0, h1⟩ := h.2 x hx
    exact congrArg D.int (mir_cell h0 h1).2.2
  rw [e, List.map_id]
theorem dots_is0 : ∀ k < 64, isDots (.lst (dotsL ((k : Nat) : Int))) = true ∧ decide (cellL (dotsL ((k : Nat) : Int)) = (k : Int)) = true := by decide +kernel
theorem dots_is {i : Int} (h0 : 0 ≤ i) (h1 : i < 64) : isDots (.lst (dotsL i)) = true ∧ cellL (dotsL i) = i := by
  obtain ⟨k, hk, rfl⟩ := upto64 h0 h1
  exact ⟨(dots_is0 k hk).1, of_decide_eq_true (dots_is0 k hk).2⟩
/-- the sign of a cell -/
def sgn (i : Int) : Nat := (cp row64).getD i.toNat 0
theorem sgn_mem0 : ∀ k < 64, decide (sgn ((k : Nat) : Int) ∈ cp row64) = true ∧ decide ((cp row64).idxOf (sgn ((k : Nat) : Int)) = k) = true := by decide +kernel
theorem sgn_mem {i : Int} (h0 : 0 ≤ i) (h1 : i < 64) : sgn i ∈ cp row64 ∧ (((cp row64).idxOf (sgn i) : Nat) : Int) = i := by
  obtain ⟨k, hk, rfl⟩ := upto64 h0 h1
  obtain ⟨q1, q2⟩ := sgn_mem0 k hk
  exact ⟨of_decide_eq_true q1, by rw [of_decide_eq_true q2]⟩
theorem sgn_at {i : Int} (h0 : 0 ≤ i) (h1 : i < 64) : atI row64.cps.toList i = some (sgn i) := by
  refine atI_of (j := i.toNat) ?_ (by omega)
  have : i.toNat < (cp row64).length := by rw [row_len]; omega
  show (cp row64)[i.toNat]? = some ((cp row64).getD i.toNat 0)
  rw [List.getD_eq_getElem?_getD, List.getElem?_eq_getElem this]
  rfl
theorem textL_sgn {l : List D} : textL l = tx (l.map fun x => sgn (dotI x)) := rfl
theorem text_is {l : List D} (h : CellList l) : isTextD (.str (textL l)) = true := by
  show ((cp (textL l)).all fun c => decide (c ∈ cp row64)) = true
  rw [textL_sgn, cp_tx, List.all_eq_true]
  intro c hc
  obtain ⟨x, hx, rfl⟩ := List.mem_map.mp hc
  obtain ⟨i, rfl, h0, h1⟩ := h.2 x hx
  exact decide_eq_true (sgn_mem h0 h1).1
theorem cells_text_cells {l : List D} (h : CellList l) : cellsD (textL l) = l := by
  unfold cellsD
  rw [textL_sgn, cp_tx, List.map_map]
  have e : l.map ((fun c => D.int ((cp row64).idxOf c : Nat)) ∘ fun x => sgn (dotI x)) = l.map id := List.map_congr_left fun x hx => by
    obtain ⟨i, rfl, h0, h1⟩ := h.2 x hx
    exact congrArg D.int (sgn_mem h0 h1).2
  rw [e, List.map_id]
section
variable {S : Bs} {δ : Sl} {μ : List Cell} {C : D → List Cell → Prop} {ta : TA} {E : XK}
theorem ask_dots_of (h : EA K S ta δ μ fun ds μ1 => ∃ i : Int, ds = [.int i] ∧ 0 ≤ i ∧ i < 64 ∧ C (.own μ1.length) (μ1 ++ [.lst (dotsL i)])) : EE K S (tCall (spDotsOf K a) [] E ta) δ μ C :=
  ask0 fun A G H σ a' Q q => h A G H σ a' Q fun vs ds A1 G1 H1 μ1 m n r ⟨i, e, h0, h1, c⟩ => q vs ds A1 G1 H1 μ1 m n r (by
    have hc : isCell (.int i) = true := Bool.and_eq_true_iff.mpr ⟨decide_eq_true h0, decide_eq_true h1⟩
    refine ⟨.int i, e, rfl, ⟨.cl rfl, rfl⟩, fun cc r ν z => ?_, fun r ν ⟨j, e1, _, _, e2, e3⟩ => .inr ⟨dotsL i, e2, ?_, dotsP_cl (j := 6), c⟩⟩
    · have z1 : isCell (.int i) = false := z.1.1
      rw [hc] at z1
      cases z1
    · have e1 : D.int i = .int j := e1
      cases e1
      exact e3)
theorem ask_cell_of (h : EA K S ta δ μ fun ds μ1 => ∃ l, ds = [.lst l] ∧ DotList l ∧ isDots (.lst l) = true ∧ C (.int (cellL l)) μ1) : EE K S (tCall (spCellOf K a) [] E ta) δ μ C :=
  ask0 fun A G H σ a' Q q => h A G H σ a' Q fun vs ds A1 G1 H1 μ1 m n r ⟨l, e, hd, hc, c⟩ => q vs ds A1 G1 H1 μ1 m n r (by
    refine ⟨.lst l, e, hd.cl (n := 0), ⟨.cl (hd.cl (n := 0)), okd_ints (Nat.le_trans hd.1 (by decide)) hd.ints⟩, fun cc r ν z => ?_, fun r ν ⟨⟨j, e1, _, e2⟩, e3⟩ => .inl ?_⟩
    · have z1 : isDots (.lst l) = false := z.1.1
      rw [hc] at z1
      cases z1
    · have e1 : D.lst l = .lst j := e1
      cases e1
      subst e2
      exact ⟨rfl, e3, c⟩)
theorem ask_cells_text (h : EA K S ta δ μ fun ds μ1 => ∃ l, ds = [.lst l] ∧ CellList l ∧ C (.str (textL l)) μ1) : EE K S (tCall (spCellsText K a) [] E ta) δ μ C :=
  ask0 fun A G H σ a' Q q => h A G H σ a' Q fun vs ds A1 G1 H1 μ1 m n r ⟨l, e, hd, c⟩ => q vs ds A1 G1 H1 μ1 m n r (by
    have hc := hd.is
    refine ⟨.lst l, e, ints_cl (n := 0) hd.ints, ⟨.cl (ints_cl (n := 0) hd.ints), hd.okd⟩, fun cc r ν z => ?_, fun r ν ⟨⟨j, e1, _, e2⟩, e3⟩ => .inl ?_⟩
    · have z1 : isCells (.lst l) = false := z.1.1
      rw [hc] at z1
      cases z1
    · have e1 : D.lst l = .lst j := e1
      cases e1
      subst e2
      exact ⟨rfl, e3, c⟩)
theorem ask_cells_of (h : EA K S ta δ μ fun ds μ1 => ∃ l, ds = [.str (textL l)] ∧ CellList l ∧ C (.own μ1.length) (μ1 ++ [.lst l])) : EE K S (tCall (spCellsOf K a) [] E ta) δ μ C :=
  ask0 fun A G H σ a' Q q => h A G H σ a' Q fun vs ds A1 G1 H1 μ1 m n r ⟨l, e, hd, c⟩ => q vs ds A1 G1 H1 μ1 m n r (by
    have hc := text_is hd
    refine ⟨.str (textL l), e, rfl, ⟨⟨.cl rfl, rfl⟩, fun s hs => ?_⟩, fun cc r ν z => ?_, fun r ν ⟨s, e1, _, e2, e3⟩ => .inr ⟨l, e2, ?_, ints_cl (n := 0) hd.ints, c⟩⟩
    · have hs : D.str (textL l) = .str s := hs
      cases hs
      rw [textL_sgn, cp_tx, List.length_map]
      exact Nat.le_trans hd.1 (by decide)
    · have z1 : isTextD (.str (textL l)) = false := z.1.1
      rw [hc] at z1
      cases z1
    · have e1 : D.str (textL l) = .str s := e1
      cases e1
      rw [cells_text_cells hd] at e3
      exact e3)
theorem ask_behind0 (h : EA K S ta δ μ fun ds μ1 => ∃ l, ds = [.lst l] ∧ CellList l ∧ C (.own μ1.length) (μ1 ++ [.lst (backL l)])) : EE K S (tCall (spFromBehind K a) [] E ta) δ μ C :=
  ask0 fun A G H σ a' Q q => h A G H σ a' Q fun vs ds A1 G1 H1 μ1 m n r ⟨l, e, hd, c⟩ => q vs ds A1 G1 H1 μ1 m n r (by
    have hc := hd.is
    refine ⟨.lst l, e, ints_cl (n := 0) hd.ints, ⟨.cl (ints_cl (n := 0) hd.ints), hd.okd⟩, fun cc r ν z => ?_, fun r ν ⟨j, e1, _, e2, e3⟩ => .inr ⟨backL l, e2, ?_, backL_cl, c⟩⟩
    · have z1 : isCells (.lst l) = false := z.1.1
      rw [hc] at z1
      cases z1
    · have e1 : D.lst l = .lst j := e1
      cases e1
      exact e3)
theorem ask_behind1 (k : Nat) (h : EA K S ta δ μ fun ds μ1 => ∃ l, ds = [.own k] ∧ μ1[k]? = some (.lst l) ∧ CellList l ∧ C (.own μ1.length) (μ1 ++ [.lst (backL l)])) : EE K S (tCall (spFromBehind K a) [] E ta) δ μ C :=
  ask1 k fun A G H σ a' Q q => h A G H σ a' Q fun vs ds A1 G1 H1 μ1 m n r ⟨l, e, hk, hd, c⟩ => q vs ds A1 G1 H1 μ1 m n r (by
    have hc := hd.is
    refine ⟨l, e, hk, ints_cl (n := 0) hd.ints, ⟨.own (ints_cl (n := 0) hd.ints), hd.okd⟩, fun cc r ν z => ?_, fun r ν ⟨j, e1, _, e2, e3⟩ => .inr ⟨backL l, e2, ?_, backL_cl, c⟩⟩
    · have z1 : isCells (.lst l) = false := z.1.1
      rw [hc] at z1
      cases z1
    · have e1 : D.lst l = .lst j := e1
      cases e1
      exact e3)
end
end


section
variable {P : Program} {w : World} {K : PySem.W.Frag} {mg : Str → Option Value} {base : Heap} {a : Ad} {f : Addr} {fd : FuncData}
abbrev spCellRight (K : PySem.W.Frag) : Sp := ProP K (T := Int) (fun i => [.int i]) (fun i => 0 ≤ i ∧ i < 64) (fun _ d => d = .bl true) (fun _ _ _ => False)
theorem one_cell {i : Int} (h0 : 0 ≤ i) (h1 : i < 64) : CellList [.int i] := ⟨by show 1 ≤ 1000; decide, fun x hx => ⟨i, List.mem_singleton.mp hx, h0, h1⟩⟩
theorem alike_int (i : Int) : Alike (.int i) := ⟨rfl, rfl, rfl⟩
theorem alike_str (s : Str) : Alike (.str s) := ⟨rfl, rfl, rfl⟩
abbrev st__law_cell_right : Stmt := top 34
abbrev nm__law_cell_right : List Str := ["cell", "dots", "sign", "pairs"]
theorem sc__law_cell_right : FnScope nm__law_cell_right ["cell"] (defScope st__law_cell_right) := ⟨rfl, rfl, rfl, by decide +kernel, rfl, by decide +kernel, by decide +kernel⟩
theorem ok_cell_right (F : Fun K "_law_cell_right" "_law_cell_right" st__law_cell_right f fd) (T : Tx P w K mg base a) (c__law_dots : CalX P w K mg base 1 "_law_dots" ["cell"] (spLDots K)) (c__law_row : CalX P w K mg base 1 "_law_row" [] (spLRow K)) (c_dots_of : CalX P w K mg base 3 "dots_of" ["cell"] (spDotsOf K a)) (k_dots_of_cell : CalK P w K mg base 3 "dots_of" ["cell"] ["cell"] [0] (spDotsOf K a))
    (c_cell_of : CalX P w K mg base 3 "cell_of" ["dots"] (spCellOf K a)) (k_cell_of_dots : CalK P w K mg base 3 "cell_of" ["dots"] ["dots"] [0] (spCellOf K a)) (c_cells_text : CalX P w K mg base 5 "cells_text" ["cells"] (spCellsText K a)) (c_cells_of_text : CalX P w K mg base 3 "cells_of_text" ["text"] (spCellsOf K a))
    (c__law_back : CalX P w K mg base 2 "_law_back" ["cells"] (spLBack K)) (c_from_behind : CalX P w K mg base 5 "from_behind" ["cells"] (spFromBehind K a)) (c__law_all_right : CalX P w K mg base 8 "_law_all_right" ["pairs"] (spAllRight K)) : FnOk P w K mg base (L2.CX P w) 9 f fd ["cell"] (spCellRight K) := by
  refine F.okX sc__law_cell_right (fun vs H Q E h => pro_len h fun _ => rfl) (fun cdv A outer s H vs Q E hr h => ⟨_, (pss_cons (ps_par (i := 1) (j := 2) rfl sc__law_cell_right.nd rfl rfl (by decide) rfl rfl (pa_cons (pe_c c__law_dots hr (by first | decide | exact Nat.le_refl _) rfl (passes_call (takes_of rfl rfl rfl rfl) (fun _ _ _ _ h => h)) (pa_cons (pv 0) pa_nil)) (pa_cons (pe_ix (kX K rIx rfl ix_seq) (pe_c0 c__law_row hr (by first | decide | exact Nat.le_refl _) rfl (passes_call (takes_of rfl rfl rfl rfl) (fun _ _ _ _ h => h))) (pv 0) (fun _ _ => rfl)) pa_nil)) (by rfl))
    (pss_cons (ps_set (i := 3) sc__law_cell_right.nd rfl (by first | exact Or.inl rfl | exact Or.inr rfl) (pe_lst (pa_cons (pe_tup (pa_cons (pv 1) (pa_cons (pe_c c_dots_of hr (by first | decide | exact Nat.le_refl _) rfl (passes_call (takes_of rfl rfl rfl rfl) (fun _ _ _ _ h => h)) (pa_cons (pv 0) pa_nil)) pa_nil))) (pa_cons (pe_tup (pa_cons (pv 1) (pa_cons (pe_ck0 (k_dots_of_cell) hr (by first | decide | exact Nat.le_refl _) rfl (passes_call (takes_of rfl rfl rfl rfl) (fun _ _ _ _ h => h)) (pk_cons (pv 0) pk_nil)) pa_nil))) (pa_cons (pe_tup (pa_cons (pv 0) (pa_cons (pe_c c_cell_of hr (by first | decide | exact Nat.le_refl _) rfl (passes_call (takes_of rfl rfl rfl rfl) (fun _ _ _ _ h => h)) (pa_cons (pe_callTy (kC K rListOf rfl call_listOf) (by rfl) T.b_list (by decide +kernel) (pa_cons (pv 1) pa_nil)) pa_nil)) pa_nil))) (pa_cons (pe_tup (pa_cons (pv 0) (pa_cons (pe_ck0 (k_cell_of_dots) hr (by first | decide | exact Nat.le_refl _) rfl (passes_call (takes_of rfl rfl rfl rfl) (fun _ _ _ _ h => h)) (pk_cons (pe_callTy (kC K rListOf rfl call_listOf) (by rfl) T.b_list (by decide +kernel) (pa_cons (pv 1) pa_nil)) pk_nil)) pa_nil))) pa_nil))))))
    (pss_cons (ps_set (i := 3) sc__law_cell_right.nd rfl (by first | exact Or.inl rfl | exact Or.inr rfl) (pe_op (kO K rPlus rfl op_plus) (pv 3) (pe_lst (pa_cons (pe_tup (pa_cons (pv 2) (pa_cons (pe_c c_cells_text hr (by first | decide | exact Nat.le_refl _) rfl (passes_call (takes_of rfl rfl rfl rfl) (fun _ _ _ _ h => h)) (pa_cons (pe_lst (pa_cons (pv 0) pa_nil)) pa_nil)) pa_nil))) (pa_cons (pe_tup (pa_cons (pe_lst (pa_cons (pv 0) pa_nil)) (pa_cons (pe_c c_cells_of_text hr (by first | decide | exact Nat.le_refl _) rfl (passes_call (takes_of rfl rfl rfl rfl) (fun _ _ _ _ h => h)) (pa_cons (pv 2) pa_nil)) pa_nil))) (pa_cons (pe_tup (pa_cons (pe_c c__law_back hr (by first | decide | exact Nat.le_refl _) rfl (passes_call (takes_of rfl rfl rfl rfl) (fun _ _ _ _ h => h)) (pa_cons (pe_lst (pa_cons (pv 0) pa_nil)) pa_nil)) (pa_cons (pe_c c_from_behind hr (by first | decide | exact Nat.le_refl _) rfl (passes_call (takes_of rfl rfl rfl rfl) (fun _ _ _ _ h => h)) (pa_cons (pe_lst (pa_cons (pv 0) pa_nil)) pa_nil)) pa_nil))) pa_nil))))))
    (pss_one (ps_ret (pe_c c__law_all_right hr (by first | decide | exact Nat.le_refl _) rfl (passes_call (takes_of rfl rfl rfl rfl) (fun _ _ _ _ h => h)) (pa_cons (pe_op (kO K rPlus rfl op_plus) (pv 3) (pe_lst (pa_cons (pe_tup (pa_cons (pe_lst (pa_cons (pv 0) pa_nil)) (pa_cons (pe_c c_from_behind hr (by first | decide | exact Nat.le_refl _) rfl (passes_call (takes_of rfl rfl rfl rfl) (fun _ _ _ _ h => h)) (pa_cons (pe_c c_from_behind hr (by first | decide | exact Nat.le_refl _) rfl (passes_call (takes_of rfl rfl rfl rfl) (fun _ _ _ _ h => h)) (pa_cons (pe_lst (pa_cons (pv 0) pa_nil)) pa_nil)) pa_nil)) pa_nil))) pa_nil))) pa_nil))))))), run_body h fun i S ⟨h0, h1⟩ hl hcl wi => ?_⟩)
  have hl : S.A.length = 0 := hl
  have h1c := one_cell h0 h1
  have et : textL [.int i] = ⟨#[sgn i]⟩ := rfl
  obtain ⟨hdi, hdc⟩ := dots_is h0 h1
  have ad : Alike (.lst (dotsL i)) := alike_ints (Nat.le_trans dots_list.1 (by decide)) dots_list.ints
  walk_at "pp"
  refine se_par ?_
  walk_at "pp"
  refine ee_czS ?_
  walk_at "pp"
  refine ⟨i, ⟨h0, h1⟩, rfl, rfl, ?_⟩
  rintro m rfl hm0
  walk_at "pp"
  refine ee_cz ?_
  walk_at "pp"
  refine ⟨(), trivial, rfl, rfl, ?_⟩
  rintro d rfl
  walk_at "pp"
  refine oo_ixS (s := row64) (by decide +kernel) (sgn_at h0 h1) ?_
  walk_at "pp"
  refine ee_lst ?_
  walk_at "pp"
  refine ask_dots_of ?_
  walk_at "pp"
  refine ⟨h0, h1, ?_⟩
  walk_at "pp"
  refine ee_kw1 (ask_dots_of ?_)
  walk_at "pp"
  refine ⟨h0, h1, ?_⟩
  walk_at "pp"
  refine ask_cell_of ?_
  walk_at "pp"
  refine cc_list (.lst _) ?_
  walk_at "pp"
  refine ⟨dots_list, hdi, ?_⟩
  walk_at "pp"
  refine ee_kw1 (ask_cell_of ?_)
  walk_at "pp"
  refine cc_list (.lst _) ?_
  walk_at "pp"
  refine ⟨dots_list, hdi, ?_⟩
  walk_at "pp"
  refine ee_lst ?_
  walk_at "pp"
  refine ask_cells_text ?_
  walk_at "pp"
  refine ee_lst ?_
  walk_at "pp"
  refine ⟨h1c, ?_⟩
  walk_at "pp"
  refine ee_lst ?_
  walk_at "pp"
  refine ask_cells_of ?_
  walk_at "pp"
  refine ⟨[.int i], by rw [et], h1c, ?_⟩
  walk_at "pp"
  refine ee_czS ?_
  walk_at "pp"
  refine ee_lst ?_
  walk_at "pp"
  refine ⟨_, h1c, rfl, rfl, ?_⟩
  rintro m rfl hm1
  walk_at "pp"
  refine ask_behind0 ?_
  walk_at "pp"
  refine ee_lst ?_
  walk_at "pp"
  refine ⟨h1c, ?_⟩
  walk_at "pp"
  refine oo_addL (Nat.le_of_ble_eq_true rfl) ?_
  walk_at "pp"
  refine ask_right ?_
  walk_at "pp"
  refine ee_lst ?_
  walk_at "pp"
  refine ee_lst ?_
  walk_at "pp"
  refine ask_behind1 4 ?_
  walk_at "pp"
  refine ask_behind0 ?_
  walk_at "pp"
  refine ee_lst ?_
  walk_at "pp"
  refine ⟨h1c, ?_⟩
  walk_at "pp"
  refine ⟨_, rfl, rfl, backL_list h1c, ?_⟩
  walk_at "pp"
  refine oo_addL (Nat.le_of_ble_eq_true rfl) ?_
  walk_at "pp"
  refine ⟨?_, ?_⟩
  · intro p hp
    simp only [List.cons_append, List.nil_append, List.mem_cons, List.not_mem_nil, or_false] at hp
    rcases hp with rfl | rfl | rfl | rfl | rfl | rfl | rfl | rfl
    · exact rp_own ad rfl
    · exact rp_own ad rfl
    · rw [hdc]
      exact rp_cl (alike_int i)
    · rw [hdc]
      exact rp_cl (alike_int i)
    · rw [et]
      exact rp_cl (alike_str _)
    · exact rp_own h1c.alike rfl
    · exact rp_own (backL_list h1c).alike rfl
    · refine rp_own h1c.alike ?_
      rw [backL_back h1c]
      rfl
  · walk_at "gp"
    exact gaveP hl (by rfl) rfl
end


section
variable {P : Program} {w : World} {K : PySem.W.Frag} {mg : Str → Option Value} {base : Heap} {a : Ad} {f : Addr} {fd : FuncData}
theorem PuOk.le {n m : Nat} {l : List D} (h : PuOk n l) (hm : n ≤ m) : PuOk m l := by
  obtain ⟨p0, p1, p2, p3, e, h1, h2, h3, h4, h5, h6⟩ := h
  exact ⟨p0, p1, p2, p3, e, h1, h2, h3, by omega, h5, h6⟩
/-- [e for .. in ..], each e drawn out of the one open list -/
theorem ee_lcW {S : Bs} {g : TG} {wi : TI} {te : TE} {δ : Sl} {μ : List Cell} {vs : List Nat} {C : D → List Cell → Prop} {n c : Nat} {Q : D → Prop} (hQ : ∀ d, Q d → d.lt 0 = true)
    (h : IE K S wi δ μ fun l P μ1 => P = yes ∧ ∃ l1, μ1 = [.lst l1] ∧ PuOk n l1 ∧ l.length ≤ 1000000 ∧
      (∀ (i : Nat) x acc l', l[i]? = some x → PuOk (n + c * i) l' → GW K S g vs x (wipeS δ vs) [.lst l', .lst acc] fun δ2 μ2 => EE K S te δ2 μ2 fun d μ3 => ∃ l2, μ3 = [.lst l2, .lst acc] ∧ Q d ∧ PuOk (n + c * (i + 1)) l2) ∧
      ∀ acc l', acc.length = l.length → (∀ d ∈ acc, Q d) → PuOk (n + c * l.length) l' → C (.lst acc) [.lst l']) : EE K S (tLc wi g tYes te vs) δ μ C := by
  refine ee_lcI fun A G H σ a R q => h A G H σ a R fun J l P A1 G1 H1 μ1 m1 n1 gv ⟨eP, l1, e1, hp, hz, it, ie⟩ => q J l P A1 G1 H1 μ1 m1 n1 gv ?_
  subst e1 eP
  refine ⟨fun i acc μ' => i ≤ l.length ∧ ∃ l', μ' = [.lst l'] ∧ PuOk (n + c * i) l' ∧ acc.length = i ∧ ∀ d ∈ acc, Q d, fun _ _ _ _ => trivial, ⟨Nat.zero_le _, l1, rfl, hp, rfl, fun d hd => by cases hd⟩, ?_, ?_, ?_⟩
  · rintro i acc μ' ⟨_, l', rfl, hp', _, hq⟩
    refine ⟨rfl, ?_, D.ltL_all.mpr fun d hd => D.lt_mono (Nat.zero_le _) (hQ d (hq d hd))⟩
    show (D.ltL 1 l' && true) = true
    rw [D.ltL_mono (Nat.zero_le _) hp'.cl]
    rfl
  · rintro i x acc μ' hx ⟨hi, l', rfl, hp', ha, hq⟩
    have hlt := (List.getElem?_eq_some_iff.mp hx).1
    intro A2 G2 H2 σ2 v2 a2 r2 Q2 q2
    refine it i x acc l' hx hp' A2 G2 H2 σ2 v2 a2 r2 Q2 fun A3 G3 H3 σ3 δ3 μ3 a3 n3 hw c3 => q2 A3 G3 H3 σ3 δ3 μ3 a3 n3 hw ?_
    refine et_yes ⟨fun _ => ?_, fun z => (by cases z)⟩
    refine c3.imp fun d μ4 ⟨l2, e2, hd, hp2⟩ => ?_
    subst e2
    refine ⟨[.lst l2], rfl, by omega, by omega, l2, rfl, hp2, by rw [List.length_append, ha]; rfl, fun d' hd' => ?_⟩
    rcases List.mem_append.mp hd' with h' | h'
    · exact hq d' h'
    · rw [List.mem_singleton.mp h']
      exact hd
  · rintro acc μ' ⟨_, l', rfl, hp', ha, hq⟩
    exact ie acc l' ha hq hp'
def IsCellD (d : D) : Prop := ∃ i : Int, d = .int i ∧ 0 ≤ i ∧ i < 64
theorem IsCellD.cl {d : D} (h : IsCellD d) : d.lt 0 = true := by
  obtain ⟨i, rfl, _⟩ := h
  rfl
/-- a def that draws out of the purse, and tells True -/
abbrev spPursed (K : PySem.W.Frag) : Sp := Pro K (T := List D × Nat) (fun t => [.lst t.1]) (fun t => [.own 0]) (fun t => PuOk t.2 t.1 ∧ t.2 ≤ 100000000) (fun t d μ => d = .bl true ∧ ∃ l', μ = [.lst l'] ∧ PuOk (t.2 + 100000) l') (fun _ _ _ _ => False)
theorem gave_pursed {S : Bs} {t : List D × Nat} {l : List D} {ν : List Cell} (hS : S.A.length = 1) (h : PuOk (t.2 + 100000) l) : Gave S (fun d μ => d = .bl true ∧ ∃ l', μ = [.lst l'] ∧ PuOk (t.2 + 100000) l') (.bl true) (.lst l :: ν) := gave1 hS (by rfl) h.cl ⟨rfl, l, rfl, h⟩
abbrev st__law_list_right : Stmt := top 35
abbrev nm__law_list_right : List Str := ["purse", "size", "cells", "part", "text", "kept", "cell", "turn", "back", "told", "pairs"]
theorem sc__law_list_right : FnScope nm__law_list_right ["purse"] (defScope st__law_list_right) := ⟨rfl, rfl, rfl, by decide +kernel, rfl, by decide +kernel, by decide +kernel⟩
theorem ok_list_right (F : Fun K "_law_list_right" "_law_list_right" st__law_list_right f fd) (T : Tx P w K mg base a) (c__law_one_of : CalX P w K mg base 3 "_law_one_of" ["purse", "some"] (spOneOf K)) (c__law_draw : CalX P w K mg base 2 "_law_draw" ["purse", "many"] (spDraw K)) (c__law_row : CalX P w K mg base 1 "_law_row" [] (spLRow K))
    (c_cells_text : CalX P w K mg base 5 "cells_text" ["cells"] (spCellsText K a)) (c_cells_of_text : CalX P w K mg base 3 "cells_of_text" ["text"] (spCellsOf K a)) (k_cells_text_cells : CalK P w K mg base 5 "cells_text" ["cells"] ["cells"] [0] (spCellsText K a)) (k_cells_of_text_text : CalK P w K mg base 3 "cells_of_text" ["text"] ["text"] [0] (spCellsOf K a))
    (c__law_back : CalX P w K mg base 2 "_law_back" ["cells"] (spLBack K)) (c_from_behind : CalX P w K mg base 5 "from_behind" ["cells"] (spFromBehind K a)) (k_from_behind_cells : CalK P w K mg base 5 "from_behind" ["cells"] ["cells"] [0] (spFromBehind K a)) (c__law_all_right : CalX P w K mg base 8 "_law_all_right" ["pairs"] (spAllRight K)) : FnOk P w K mg base (L2.CX P w) 9 f fd ["purse"] (spPursed K) := by
  refine F.okX sc__law_list_right (fun vs H Q E h => pro_len h fun _ => rfl) (fun cdv A outer s H vs Q E hr h => ⟨_, (pss_cons (ps_set (i := 1) sc__law_list_right.nd rfl (by first | exact Or.inl rfl | exact Or.inr rfl) (pe_c c__law_one_of hr (by first | decide | exact Nat.le_refl _) rfl (passes_call (takes_of rfl rfl rfl rfl) (fun _ _ _ _ h => h)) (pa_cons (pv 0) (pa_cons (pe_lst (pa_cons pe_int (pa_cons pe_int (pa_cons pe_int (pa_cons pe_int (pa_cons pe_int (pa_cons pe_int (pa_cons pe_int pa_nil)))))))) pa_nil))))
    (pss_cons (ps_setLc (i := 2) (own := [("part", 3)]) (tt := tYes) (g := (gName 3)) rfl sc__law_list_right.nd rfl rfl (sw_true rfl rfl rfl (by decide +kernel)) (pi_range1 rfl T.b_range (pa_cons (pv 1) pa_nil)) (blkOk_by (own := [("part", 3)]) (N := nm__law_list_right) (sc := (defScope st__law_list_right)) (by decide +kernel)) (fun _ _ _ _ _ => (pg_name (i := 3) sc__law_list_right.nd rfl (by first | exact Or.inl rfl | exact Or.inr rfl))) (fun _ _ _ _ _ => pts_nil) (fun _ _ _ _ _ => (pe_c c__law_draw hr (by first | decide | exact Nat.le_refl _) rfl passL (pa_cons (pv 0) (pa_cons pe_int pa_nil)))))
    (pss_cons (ps_par (i := 4) (j := 5) rfl sc__law_list_right.nd rfl rfl (by decide) rfl rfl (pa_cons (pe_joinK (K := K) rfl pe_str (pe_lc (own := [("cell", 6)]) (tt := tYes) (g := (gName 6)) rfl sc__law_list_right.nd (pi_listK (K := K) rfl (pv 2)) (blkOk_by (own := [("cell", 6)]) (N := nm__law_list_right) (sc := (defScope st__law_list_right)) (by decide +kernel)) (fun _ _ _ _ _ => (pg_name (i := 6) sc__law_list_right.nd rfl (by first | exact Or.inl rfl | exact Or.inr rfl))) (fun _ _ _ _ _ => pts_nil) (fun _ _ _ _ _ => (pe_ix (kX K rIx rfl ix_seq) (pe_c0 c__law_row hr (by first | decide | exact Nat.le_refl _) rfl passL) (pv 6) (fun _ _ => rfl))))) (pa_cons (pe_callTy (kC K rListOf rfl call_listOf) (by rfl) T.b_list (by decide +kernel) (pa_cons (pv 2) pa_nil)) pa_nil)) (by rfl))
    (pss_cons (ps_for (passes_of rfl) rfl (pi_range1 rfl T.b_range (pa_cons pe_int pa_nil)) (pg_name (i := 7) sc__law_list_right.nd rfl (by first | exact Or.inl rfl | exact Or.inr rfl))
      (pss_cons (ps_par (i := 8) (j := 9) rfl sc__law_list_right.nd rfl rfl (by decide) rfl rfl (pa_cons (pe_c c_from_behind hr (by first | decide | exact Nat.le_refl _) rfl (passes_call (takes_of rfl rfl rfl rfl) (fun _ _ _ _ h => h)) (pa_cons (pv 2) pa_nil)) (pa_cons (pe_c c_cells_of_text hr (by first | decide | exact Nat.le_refl _) rfl (passes_call (takes_of rfl rfl rfl rfl) (fun _ _ _ _ h => h)) (pa_cons (pv 4) pa_nil)) pa_nil)) (by rfl))
    (pss_cons (ps_set (i := 10) sc__law_list_right.nd rfl (by first | exact Or.inl rfl | exact Or.inr rfl) (pe_lst (pa_cons (pe_tup (pa_cons (pv 4) (pa_cons (pe_c c_cells_text hr (by first | decide | exact Nat.le_refl _) rfl (passes_call (takes_of rfl rfl rfl rfl) (fun _ _ _ _ h => h)) (pa_cons (pv 2) pa_nil)) pa_nil))) (pa_cons (pe_tup (pa_cons (pv 5) (pa_cons (pv 9) pa_nil))) (pa_cons (pe_tup (pa_cons (pe_c c__law_back hr (by first | decide | exact Nat.le_refl _) rfl (passes_call (takes_of rfl rfl rfl rfl) (fun _ _ _ _ h => h)) (pa_cons (pv 5) pa_nil)) (pa_cons (pv 8) pa_nil))) (pa_cons (pe_tup (pa_cons (pv 5) (pa_cons (pv 2) pa_nil))) (pa_cons (pe_tup (pa_cons (pv 5) (pa_cons (pe_ck0 (k_from_behind_cells) hr (by first | decide | exact Nat.le_refl _) rfl (passes_call (takes_of rfl rfl rfl rfl) (fun _ _ _ _ h => h)) (pk_cons (pv 8) pk_nil)) pa_nil))) pa_nil)))))))
    (pss_cons (ps_set (i := 10) sc__law_list_right.nd rfl (by first | exact Or.inl rfl | exact Or.inr rfl) (pe_op (kO K rPlus rfl op_plus) (pv 10) (pe_lst (pa_cons (pe_tup (pa_cons (pv 4) (pa_cons (pe_ck0 (k_cells_text_cells) hr (by first | decide | exact Nat.le_refl _) rfl (passes_call (takes_of rfl rfl rfl rfl) (fun _ _ _ _ h => h)) (pk_cons (pv 2) pk_nil)) pa_nil))) (pa_cons (pe_tup (pa_cons (pv 5) (pa_cons (pe_ck0 (k_cells_of_text_text) hr (by first | decide | exact Nat.le_refl _) rfl (passes_call (takes_of rfl rfl rfl rfl) (fun _ _ _ _ h => h)) (pk_cons (pv 4) pk_nil)) pa_nil))) pa_nil)))))
    (pss_cons (ps_if (pt_not (pt_val (pe_c c__law_all_right hr (by first | decide | exact Nat.le_refl _) rfl (passes_call (takes_of rfl rfl rfl rfl) (fun _ _ _ _ h => h)) (pa_cons (pv 10) pa_nil)))) (pss_one (ps_ret pe_bl)) pss_nil)
    (pss_cons (ps_expr (pe_bmK (K := K) rfl PySem.F.plainAttrs_list PySem.F.slot_list_append PySem.F.type_list_append mt_append (pv 8) (pa_cons pe_int pa_nil)))
    (pss_one (ps_expr (pe_bmK (K := K) rfl PySem.F.plainAttrs_list PySem.F.slot_list_append PySem.F.type_list_append mt_append (pv 9) (pa_cons pe_non pa_nil))))))))))
    (pss_one (ps_ret pe_bl)))))), run_body h fun ⟨l, n⟩ S ⟨hp, hn⟩ hl hcl wi => ?_⟩)
  have hp : PuOk n l := hp
  have hn : n ≤ 100000000 := hn
  have hS : S.A.length = 1 := hl
  walk_at "pp"
  refine ee_cz1 0 ?_
  walk_at "pp"
  refine ee_lst ?_
  walk_at "pp"
  refine ⟨(l, _, n), l, ⟨hp, by show n ≤ 1000000000; omega, .inl ⟨_, rfl, by decide, by decide, rfl⟩⟩, rfl, hp.cl, rfl, hand1 rfl, fun d ν ⟨hpick, hd, l', e, hp'⟩ => ?_⟩
  have hz : ∃ z : Nat, d = .int z ∧ z ≤ 400 := by
    have hpick : Pick (.lst [.int 0, .int 1, .int 2, .int 7, .int 40, .int 399, .int 400]) d := hpick
    cases hpick with
    | lst hm =>
      simp only [List.mem_cons, List.not_mem_nil, or_false] at hm
      rcases hm with rfl | rfl | rfl | rfl | rfl | rfl | rfl
      · exact ⟨0, rfl, by decide⟩
      · exact ⟨1, rfl, by decide⟩
      · exact ⟨2, rfl, by decide⟩
      · exact ⟨7, rfl, by decide⟩
      · exact ⟨40, rfl, by decide⟩
      · exact ⟨399, rfl, by decide⟩
      · exact ⟨400, rfl, by decide⟩
  obtain ⟨z, rfl, hz⟩ := hz
  have hp' : PuOk (n + 1) l' := hp'
  refine ⟨rfl, l', e, hp'.cl, ?_⟩
  walk_at "pp"
  refine ee_lcW (n := n + 1) (c := 1) (Q := IsCellD) (fun _ h => h.cl) (ie_rng1 ?_)
  walk_at "pp"
  refine ⟨by omega, by omega, rfl, l', rfl, hp', by rw [rng_len]; omega, fun i x acc l2 hx hp2 => ?_, fun acc l2 hlen hq hp2 => ?_⟩
  · refine gw_name (by decide) ?_
    walk_at "pp"
    have hi := (rng_get hx).1
    refine ee_cz1 0 ?_
    walk_at "pp"
    refine ⟨(l2, 64, n + 1 + 1 * i), l2, ⟨hp2, by show (0 : Int) < 64; decide, by show (64 : Int) ≤ 1000000; decide, by show n + 1 + 1 * i ≤ 1000000000; omega⟩, rfl, hp2.cl, rfl, hand1 rfl, fun d ν ⟨v, l3, hr, v0, v1, e3, hp3⟩ => ?_⟩
    subst hr
    exact ⟨rfl, l3, e3, hp3.cl, l3, rfl, ⟨v, rfl, v0, v1⟩, hp3⟩
  have hlen : acc.length = z := by rw [hlen, rng_len]; omega
  have hcl : CellList acc := ⟨by omega, hq⟩
  have hp2 : PuOk (n + 100000) l2 := by
    rw [rng_len] at hp2
    exact hp2.le (by omega)
  have hbl := backL_list hcl
  walk_at "pp"
  refine se_par ?_
  walk_at "pp"
  refine ee_m1 ?_
  walk_at "pp"
  refine ee_lc (ie_list ?_)
  walk_at "pp"
  refine ⟨acc, .inl rfl, fun _ h => h, trivial, fun _ => true, fun x => .str ⟨#[(cp row64).getD (dotI x).toNat 0]⟩, by omega, fun _ _ _ => rfl, fun x acc hx => ?_, ?_⟩
  · obtain ⟨i, rfl, h0, h1⟩ := hq x hx
    refine gw_name (by decide) ?_
    refine et_yes ?_
    refine ⟨rfl, rfl, fun _ => ?_⟩
    walk_at "pp"
    refine ee_cz ?_
    walk_at "pp"
    refine ⟨(), trivial, rfl, rfl, ?_⟩
    rintro d rfl
    walk_at "pp"
    refine oo_ixS (s := row64) (by decide +kernel) (sgn_at h0 h1) ?_
    exact ⟨rfl, rfl⟩
  have lst : ((acc.filter fun _ => true).map fun x => D.str ⟨#[(cp row64).getD (dotI x).toNat 0]⟩) = (acc.map fun x => (⟨#[(cp row64).getD (dotI x).toNat 0]⟩ : Str)).map D.str := by
    rw [List.filter_eq_self.mpr fun _ _ => rfl, List.map_map]
    rfl
  rw [lst]
  refine mm_join (.lst _) (by rw [text_size]; omega) ?_
  rw [text_join]
  walk_at "pp"
  refine cc_list (.lst _) ?_
  walk_at "pp"
  refine se_for (ie_rng1 ?_)
  walk_at "pp"
  refine ⟨by decide, by decide, ?_⟩
  refine ⟨rfl, fun j δ μ => ∃ x1 x2 x3 x4 ρ, δ = [some (.own 0), some (.int z), some (.lst acc), none, some (.str (textL acc)), some (.lst acc), none, x1, x2, x3, x4] ∧ μ = .lst l2 :: ρ, ⟨none, none, none, none, [], rfl, rfl⟩, ?_, ?_⟩
  · rintro j x δ μ hj ⟨x1, x2, x3, x4, ρ, rfl, rfl⟩
    walk_at "pp"
    refine se_par ?_
    walk_at "pp"
    refine ask_behind0 ?_
    walk_at "pp"
    refine ⟨hcl, ?_⟩
    walk_at "pp"
    refine ask_cells_of ?_
    walk_at "pp"
    refine ⟨hcl, ?_⟩
    walk_at "pp"
    refine ee_lst ?_
    walk_at "pp"
    refine ask_cells_text ?_
    walk_at "pp"
    refine ⟨hcl, ?_⟩
    walk_at "pp"
    refine ee_czS ?_
    walk_at "pp"
    refine ⟨acc, hcl, rfl, by show (D.ltL 0 acc && true) = true; rw [ints_cl hcl.ints]; rfl, ?_⟩
    rintro m rfl hm1
    walk_at "pp"
    refine ee_kw1 (ask_behind1 (Cell.lst l2 :: ρ).length ?_)
    walk_at "pp"
    refine ⟨backL acc, rfl, by simp, hbl, ?_⟩
    rw [backL_back hcl]
    walk_at "pp"
    refine ee_lst ?_
    walk_at "pp"
    refine ee_kw1 (ask_cells_text ?_)
    walk_at "pp"
    refine ⟨hcl, ?_⟩
    walk_at "pp"
    refine ee_kw1 (ask_cells_of ?_)
    walk_at "pp"
    refine ⟨hcl, ?_⟩
    walk_at "pp"
    refine oo_addL (Nat.le_of_ble_eq_true rfl) ?_
    walk_at "pp"
    refine ask_right ?_
    walk_at "pp"
    refine ⟨?_, ?_⟩
    · intro p hp
      simp only [List.cons_append, List.nil_append, List.mem_cons, List.not_mem_nil, or_false] at hp
      rcases hp with rfl | rfl | rfl | rfl | rfl | rfl | rfl
      · exact rp_cl (alike_str _)
      · exact rp_own hcl.alike (by simp)
      · exact rp_own hbl.alike (by simp)
      · exact rp_cl hcl.alike
      · exact rp_own hcl.alike (by simp)
      · exact rp_cl (alike_str _)
      · exact rp_own hcl.alike (by simp)
    · walk_at "pp"
      refine ee_bm ?_
      walk_at "pp"
      refine ⟨.lst (.own (l := backL acc) (by simp)), ?_⟩
      walk_at "pp"
      refine mm_append (l := backL acc) (by simp) (by have := hbl.1; omega) ?_
      walk_at "pp"
      refine ee_bm ?_
      walk_at "pp"
      refine ⟨.lst (.own (l := acc) (by simp)), ?_⟩
      walk_at "pp"
      refine mm_append (l := acc) (by simp) (by have := hcl.1; omega) ?_
      walk_at "pp"
      exact ⟨_, _, _, _, _, rfl, rfl⟩
  · rintro δ μ ⟨x1, x2, x3, x4, ρ, rfl, rfl⟩
    walk_at "pp"
    walk_at "gp"
    exact gave_pursed (t := (l, n)) hS hp2
end


section
variable {P : Program} {w : World} {K : PySem.W.Frag} {mg : Str → Option Value} {base : Heap} {a : Ad} {f : Addr} {fd : FuncData}
def subs : Nat → List (List Int)
  | 0 => [[]]
  | i + 1 => subs i ++ (subs i).map (· ++ [(i : Int) + 1])
def dotsN (i : Int) : List Int := ((List.range 6).filter fun k => decide (i / pw2 k % 2 = 1)).map fun (k : Nat) => (k : Int) + 1
theorem dotsL_N (i : Int) : dotsL i = (dotsN i).map D.int := by
  unfold dotsL dotsN rng
  rw [List.filter_map, List.map_map, List.map_map]
  have hf : ((fun x => decide (i / pw2 (dotI x).toNat % 2 = 1)) ∘ fun (k : Nat) => D.int (0 + (k : Int))) = fun k => decide (i / pw2 k % 2 = 1) := by
    funext k
    show decide (i / pw2 (0 + (k : Int)).toNat % 2 = 1) = _
    rw [show (0 + (k : Int)).toNat = k by omega]
  rw [hf]
  refine List.map_congr_left fun k _ => ?_
  show D.int (0 + (k : Int) + 1) = D.int ((k : Int) + 1)
  rw [Int.zero_add]
theorem subs_ok0 : ∀ l ∈ subs 6, isDots (.lst (l.map D.int)) = true ∧ decide (0 ≤ cellL (l.map D.int)) = true ∧ decide (cellL (l.map D.int) < 64) = true ∧ decide (dotsN (cellL (l.map D.int)) = l) = true := by decide +kernel
theorem subs_mem : ∀ i : Nat, i ≤ 6 → ∀ l ∈ subs i, l.length ≤ i ∧ ∀ x ∈ l, 1 ≤ x ∧ x ≤ 6
  | 0, _, l, h => by
    rw [List.mem_singleton.mp (show l ∈ [[]] from h)]
    exact ⟨Nat.le_refl _, fun x hx => by cases hx⟩
  | i + 1, hi, l, h => by
    rcases List.mem_append.mp (show l ∈ subs i ++ (subs i).map (· ++ [(i : Int) + 1]) from h) with h | h
    · obtain ⟨h1, h2⟩ := subs_mem i (by omega) l h
      exact ⟨by omega, h2⟩
    · obtain ⟨m, hm, rfl⟩ := List.mem_map.mp h
      obtain ⟨h1, h2⟩ := subs_mem i (by omega) m hm
      refine ⟨by rw [List.length_append, List.length_singleton]; omega, fun x hx => ?_⟩
      rcases List.mem_append.mp hx with hx | hx
      · exact h2 x hx
      · rw [List.mem_singleton.mp hx]
        omega
theorem subs_dots {l : List Int} (h : l ∈ subs 6) : DotList (l.map D.int) := by
  obtain ⟨h1, h2⟩ := subs_mem 6 (Nat.le_refl _) l h
  refine ⟨by rw [List.length_map]; omega, fun x hx => ?_⟩
  obtain ⟨i, hi, rfl⟩ := List.mem_map.mp hx
  exact ⟨i, rfl, h2 i hi⟩
abbrev st__law_dots_right : Stmt := top 36
abbrev nm__law_dots_right : List Str := ["purse", "dots", "dot", "handed", "told", "held", "pairs"]
theorem sc__law_dots_right : FnScope nm__law_dots_right ["purse"] (defScope st__law_dots_right) := ⟨rfl, rfl, rfl, by decide +kernel, rfl, by decide +kernel, by decide +kernel⟩
theorem ok_dots_right (F : Fun K "_law_dots_right" "_law_dots_right" st__law_dots_right f fd) (T : Tx P w K mg base a) (c__law_draw : CalX P w K mg base 2 "_law_draw" ["purse", "many"] (spDraw K)) (c_dots_of : CalX P w K mg base 3 "dots_of" ["cell"] (spDotsOf K a)) (c__law_cell : CalX P w K mg base 1 "_law_cell" ["dots"] (spLCell K))
    (c_cell_of : CalX P w K mg base 3 "cell_of" ["dots"] (spCellOf K a)) (c__law_all_right : CalX P w K mg base 8 "_law_all_right" ["pairs"] (spAllRight K)) : FnOk P w K mg base (L2.CX P w) 9 f fd ["purse"] (spPursed K) := by
  refine F.okX sc__law_dots_right (fun vs H Q E h => pro_len h fun _ => rfl) (fun cdv A outer s H vs Q E hr h => ⟨_, (pss_cons (ps_setLc (i := 1) (own := [("dot", 2)]) (g := (gName 2)) rfl sc__law_dots_right.nd rfl rfl (sw_true rfl rfl rfl (by decide +kernel)) (pi_range2 rfl T.b_range (pa_cons pe_int (pa_cons pe_int pa_nil))) (blkOk_by (own := [("dot", 2)]) (N := nm__law_dots_right) (sc := (defScope st__law_dots_right)) (by decide +kernel)) (fun _ _ _ _ _ => (pg_name (i := 2) sc__law_dots_right.nd rfl (by first | exact Or.inl rfl | exact Or.inr rfl))) (fun _ _ _ _ _ => (pts_one (pt_cmpR (kO K rEqU rfl (op_eqU (hu64 hr))) (pe_c c__law_draw hr (by first | decide | exact Nat.le_refl _) rfl passL (pa_cons (pv 0) (pa_cons pe_int pa_nil))) pe_int (nomark _)))) (fun _ _ _ _ _ => (pv 2)))
    (pss_cons (ps_set (i := 3) sc__law_dots_right.nd rfl (by first | exact Or.inl rfl | exact Or.inr rfl) (pe_callTy (kC K rListOf rfl call_listOf) (by rfl) T.b_list (by decide +kernel) (pa_cons (pv 1) pa_nil)))
    (pss_cons (ps_set (i := 4) sc__law_dots_right.nd rfl (by first | exact Or.inl rfl | exact Or.inr rfl) (pe_c c_dots_of hr (by first | decide | exact Nat.le_refl _) rfl (passes_call (takes_of rfl rfl rfl rfl) (fun _ _ _ _ h => h)) (pa_cons (pe_c c__law_cell hr (by first | decide | exact Nat.le_refl _) rfl (passes_call (takes_of rfl rfl rfl rfl) (fun _ _ _ _ h => h)) (pa_cons (pv 1) pa_nil)) pa_nil)))
    (pss_cons (ps_set (i := 5) sc__law_dots_right.nd rfl (by first | exact Or.inl rfl | exact Or.inr rfl) (pe_callTy (kC K rListOf rfl call_listOf) (by rfl) T.b_list (by decide +kernel) (pa_cons (pv 4) pa_nil)))
    (pss_cons (ps_expr (pe_bmK (K := K) rfl PySem.F.plainAttrs_list PySem.F.slot_list_append PySem.F.type_list_append mt_append (pv 4) (pa_cons pe_int pa_nil)))
    (pss_cons (ps_set (i := 6) sc__law_dots_right.nd rfl (by first | exact Or.inl rfl | exact Or.inr rfl) (pe_lst (pa_cons (pe_tup (pa_cons (pv 1) (pa_cons (pv 5) pa_nil))) (pa_cons (pe_tup (pa_cons (pe_c c__law_cell hr (by first | decide | exact Nat.le_refl _) rfl (passes_call (takes_of rfl rfl rfl rfl) (fun _ _ _ _ h => h)) (pa_cons (pv 1) pa_nil)) (pa_cons (pe_c c_cell_of hr (by first | decide | exact Nat.le_refl _) rfl (passes_call (takes_of rfl rfl rfl rfl) (fun _ _ _ _ h => h)) (pa_cons (pv 3) pa_nil)) pa_nil))) (pa_cons (pe_tup (pa_cons (pv 1) (pa_cons (pv 3) pa_nil))) (pa_cons (pe_tup (pa_cons (pv 1) (pa_cons (pe_c c_dots_of hr (by first | decide | exact Nat.le_refl _) rfl (passes_call (takes_of rfl rfl rfl rfl) (fun _ _ _ _ h => h)) (pa_cons (pe_c c__law_cell hr (by first | decide | exact Nat.le_refl _) rfl (passes_call (takes_of rfl rfl rfl rfl) (fun _ _ _ _ h => h)) (pa_cons (pv 1) pa_nil)) pa_nil)) pa_nil))) pa_nil))))))
    (pss_one (ps_ret (pe_c c__law_all_right hr (by first | decide | exact Nat.le_refl _) rfl (passes_call (takes_of rfl rfl rfl rfl) (fun _ _ _ _ h => h)) (pa_cons (pv 6) pa_nil)))))))))), run_body h fun ⟨l, n⟩ S ⟨hp, hn⟩ hl hcl wi => ?_⟩)
  have hp : PuOk n l := hp
  have hn : n ≤ 100000000 := hn
  have hS : S.A.length = 1 := hl
  walk_at "pp"
  refine ee_lcI (ie_rng2 ?_)
  walk_at "pp"
  refine ⟨by decide, ?_⟩
  refine ⟨fun i acc μ' => i ≤ 6 ∧ ∃ l', μ' = [.lst l'] ∧ PuOk (n + i) l' ∧ ∃ z ∈ subs i, acc = z.map D.int, fun _ _ _ _ => trivial, ⟨Nat.zero_le _, l, rfl, hp, [], List.mem_singleton.mpr rfl, rfl⟩, ?_, ?_, ?_⟩
  · rintro i acc μ' ⟨hi, l', rfl, hp', z, hz, rfl⟩
    refine ⟨rfl, ?_, ints_cl fun x hx => ?_⟩
    · show (D.ltL 1 l' && true) = true
      rw [D.ltL_mono (Nat.zero_le _) hp'.cl]
      rfl
    · obtain ⟨i, _, rfl⟩ := List.mem_map.mp hx
      exact ⟨i, rfl⟩
  · rintro i x acc μ' hx ⟨hi, l', rfl, hp', z, hz, rfl⟩
    obtain ⟨hi6, rfl⟩ := rng_get hx
    have hi6 : i < 6 := hi6
    have e1 : (1 : Int) + (i : Int) = (i : Int) + 1 := Int.add_comm _ _
    rw [e1]
    refine gw_name (by decide) ?_
    walk_at "pp"
    refine ee_cz1 0 ?_
    walk_at "pp"
    refine ⟨(l', 2, n + i), l', ⟨hp', by show (0 : Int) < 2; decide, by show (2 : Int) ≤ 1000000; decide, by show n + i ≤ 1000000000; omega⟩, rfl, hp'.cl, rfl, hand1 rfl, fun d ν ⟨v, l3, hr, v0, v1, e3, hp3⟩ => ?_⟩
    subst hr
    refine ⟨rfl, l3, e3, hp3.cl, ?_⟩
    walk_at "pp"
    refine ⟨fun hb => ?_, fun hb => ?_⟩
    · walk_at "pp"
      refine ⟨[.lst l3], rfl, ?_, by omega, l3, rfl, hp3, z ++ [(i : Int) + 1], List.mem_append_right _ (List.mem_map.mpr ⟨z, hz, rfl⟩), by rw [List.map_append]; rfl⟩
      have := (subs_mem i hi z hz).1
      rw [List.length_map]
      omega
    · exact ⟨[.lst l3], rfl, by omega, l3, rfl, hp3, z, List.mem_append_left _ hz, rfl⟩
  · rintro acc μ' ⟨hi, l', rfl, hp', z, hz, rfl⟩
    have hz : z ∈ subs 6 := hz
    obtain ⟨q1, q2, q3, q4⟩ := subs_ok0 z hz
    have q2 := of_decide_eq_true q2
    have q3 := of_decide_eq_true q3
    have q5 : dotsL (cellL (z.map D.int)) = z.map D.int := by rw [dotsL_N, of_decide_eq_true q4]
    have hd := subs_dots hz
    have hp' : PuOk (n + 6) l' := hp'
    generalize z.map D.int = acc at hd q1 q2 q3 q5
    have had : Alike (.lst acc) := alike_ints (Nat.le_trans hd.1 (by decide)) hd.ints
    have hac : (D.ltL 0 acc && true) = true := by rw [hd.cl]; rfl
    walk_at "pp"
    refine cc_list (.lst _) ?_
    walk_at "pp"
    refine ask_dots_of ?_
    walk_at "pp"
    refine ee_cz ?_
    walk_at "pp"
    refine ⟨acc, hd, rfl, hac, ?_⟩
    rintro d rfl
    walk_at "pp"
    refine ⟨q2, q3, ?_⟩
    rw [q5]
    walk_at "pp"
    refine cc_list (.own rfl) ?_
    walk_at "pp"
    refine ee_bm ?_
    walk_at "pp"
    refine ⟨.lst (.own rfl), ?_⟩
    walk_at "pp"
    refine mm_append (l := acc) rfl (by have := hd.1; omega) ?_
    walk_at "pp"
    refine ee_lst ?_
    walk_at "pp"
    refine ee_cz ?_
    walk_at "pp"
    refine ⟨acc, hd, rfl, hac, ?_⟩
    rintro d rfl
    walk_at "pp"
    refine ask_cell_of ?_
    walk_at "pp"
    refine ⟨hd, q1, ?_⟩
    walk_at "pp"
    refine ask_dots_of ?_
    walk_at "pp"
    refine ee_cz ?_
    walk_at "pp"
    refine ⟨acc, hd, rfl, hac, ?_⟩
    rintro d rfl
    walk_at "pp"
    refine ⟨q2, q3, ?_⟩
    rw [q5]
    walk_at "pp"
    refine ask_right ?_
    walk_at "pp"
    refine ⟨?_, ?_⟩
    · intro p hp
      simp only [List.mem_cons, List.not_mem_nil, or_false] at hp
      rcases hp with rfl | rfl | rfl | rfl
      · exact rp_cl had
      · exact rp_cl (alike_int _)
      · exact rp_cl had
      · exact rp_own had rfl
    · walk_at "gp"
      exact gave_pursed (t := (l, n)) hS (hp'.le (Nat.add_le_add_left (by decide) n))
end


section
variable {P : Program} {w : World} {K : PySem.W.Frag} {mg : Str → Option Value} {base : Heap} {a : Ad} {f : Addr} {fd : FuncData}
/-- the lib's defs by their addresses -/
def SgL (K : PySem.W.Frag) (a : Ad) : Addr → Sp → Prop := fun f sp => (f = a.fdots_of ∧ sp = spDotsOf K a) ∨ (f = a.fcells_text ∧ sp = spCellsText K a) ∨ (f = a.ffrom_behind ∧ sp = spFromBehind K a) ∨ (f = a.fcell_of ∧ sp = spCellOf K a) ∨ (f = a.fcells_of_text ∧ sp = spCellsOf K a)
/-- e is no thing for the def at f, whose error is the n-th -/
def BadAt (a : Ad) (n : Nat) (f : Addr) (e : D) : Prop := (n = 0 ∧ f = a.fdots_of ∧ isCell e = false) ∨ (n = 1 ∧ (f = a.fcells_text ∨ f = a.ffrom_behind) ∧ isCells e = false) ∨ (n = 2 ∧ f = a.fcell_of ∧ isDots e = false) ∨ (n = 3 ∧ f = a.fcells_of_text ∧ isTextD e = false)
def clsN (a : Ad) (n : Nat) : Addr := match n with
  | 0 => a.eInvalidCell
  | 1 => a.eInvalidCells
  | 2 => a.eInvalidDots
  | _ => a.eInvalidText
def moreS : D := .str (Str.ofString "more")
def Cell.more : Cell → Cell
  | .lst l => .lst (l ++ [moreS])
  | .off => .off
def noLst : D → Bool
  | .lst _ => false
  | _ => true
def heardD (n : Nat) : D := .lst [.lst [.bl (decide (n = 0)), .bl (decide (n = 1)), .bl (decide (n = 2)), .bl (decide (n = 3)), .bl (decide (n = 4))], .bl true]
/-- what _law_heard is asked of -/
structure Thing (a : Ad) (n : Nat) (f : Addr) (t : Seen) : Prop where
  ok : SeenOk t
  bad : BadAt a n f t.2.2
  ex : exOk 6 t.2.2 = true
  dic : ∀ ks l, t.2.2 = .dic ks l → DicOk ks l
  txt : ∀ s, t.2.2 = .str s → (cp s).length ≤ 100000
  cl : t.2.1 = [] → noLst t.2.2 = true
abbrev spHeard (K : PySem.W.Frag) (a : Ad) : Sp := Pro K (T := Nat × Addr × Seen) (fun t => t.2.2.2.1) (fun t => [.v (.ref t.2.1), t.2.2.1]) (fun t => Thing a t.1 t.2.1 t.2.2) (fun t d μ => d = heardD t.1 ∧ μ = t.2.2.2.1.map Cell.more) (fun _ _ _ _ => False)
/-- a call out of a slot, of the argument -/
theorem ex_seen {S : Bs} {δ : Sl} {μ : List Cell} {C : D → List Cell → Prop} {ta : TA} {CE : Sl → Addr → D → List Cell → Prop} {pre : Seen → Prop} {post : Seen → D → List Cell → Prop} {exc : Seen → Addr → D → List Cell → Prop} {i : Nat} {Sg : Addr → Sp → Prop} {f : Addr} (t : Seen) (ha : Arg t.1 t.2.1 t.2.2) (hi : δ[i]? = some (some (.v (.ref f)))) (hS : Sg f (Pro K (T := Seen) (fun t => t.2.1) (fun t => [t.1]) pre post exc))
    (hp : pre t) (hn : ∀ d ν, ¬ post t d ν) (hx : ∀ c d ν, exc t c d ν → d = t.1 ∧ ν = t.2.1 ∧ CE δ c t.1 t.2.1)
    (h : EA K S ta δ μ fun ds μ1 => ds = [t.1] ∧ μ1 = t.2.1) : EX K S (fun W => tCallA' i Sg (WE W) ta) δ μ C CE := by
  obtain ⟨d0, μ0, e0⟩ := t
  have ha : Arg d0 μ0 e0 := ha
  cases ha with
  | cl hd =>
    refine ex_callA [] hi hS fun A G H σ a Q q => h A G H σ a Q fun vs ds A1 G1 H1 μ1 m n r ⟨e1, e2⟩ => q vs ds A1 G1 H1 μ1 m n r ?_
    subst e1 e2
    have hl : D.ltL 0 [d0] = true := by show (d0.lt 0 && true) = true; rw [hd]; rfl
    refine ⟨(d0, [], d0), hp, List.nodup_nil, fun k hk => (by cases hk), rfl, rfl, hsL_cl hl, by rw [renL_cl hl], fun d ν n' h1 _ _ _ _ => (hn d ν h1).elim, fun cc d ν h1 _ _ _ => ?_⟩
    obtain ⟨e3, e4, c⟩ := hx cc d ν h1
    have e3 : d = d0 := e3
    have e4 : ν = [] := e4
    subst e3 e4
    rw [ren_cl hd]
    exact c
  | @own l hd =>
    refine ex_callA [0] hi hS fun A G H σ a Q q => h A G H σ a Q fun vs ds A1 G1 H1 μ1 m n r ⟨e1, e2⟩ => q vs ds A1 G1 H1 μ1 m n r ?_
    subst e1 e2
    refine ⟨(.own 0, [.lst l], .lst l), hp, by simp, fun k hk => (by rw [List.mem_singleton.mp hk]; exact Nat.zero_lt_one), rfl, ?_, rfl, rfl, fun d ν n' h1 _ _ _ _ => (hn d ν h1).elim, fun cc d ν h1 _ _ _ => ?_⟩
    · show (D.ltL 0 l && true) = true
      rw [hd]
      rfl
    · obtain ⟨e3, e4, c⟩ := hx cc d ν h1
      have e3 : d = .own 0 := e3
      have e4 : ν = [.lst l] := e4
      subst e3 e4
      show CE δ cc (.own 0) ([Cell.lst (D.renL _ l)] ++ [])
      rw [renL_cl hd]
      exact c
theorem ne_bf {b : Bool} (h : b = false) : b ≠ true := by rw [h]; exact Bool.false_ne_true
/-- the call in the try -/
theorem ex_lib {S : Bs} {δ : Sl} {μ : List Cell} {C : D → List Cell → Prop} {ta : TA} {n : Nat} {f : Addr} {t : Seen} (ht : Thing a n f t) (hi : δ[0]? = some (some (.v (.ref f)))) (h : EA K S ta δ μ fun ds μ1 => ds = [t.1] ∧ μ1 = t.2.1) : EX K S (fun W => tCallA' 0 (SgL K a) (WE W) ta) δ μ C (fun δ' c d μ' => δ' = δ ∧ c = clsN a n ∧ d = t.1 ∧ μ' = t.2.1) := by
  have ok := ht.ok
  rcases ht.bad with ⟨rfl, rfl, hb⟩ | ⟨rfl, rfl | rfl, hb⟩ | ⟨rfl, rfl, hb⟩ | ⟨rfl, rfl, hb⟩
  · refine ex_seen t ok.1 hi (Sg := SgL K a) (.inl ⟨rfl, rfl⟩) ok (fun d ν ⟨i, e, h0, h1, _⟩ => ?_) (fun c d ν ⟨⟨_, ec⟩, e1, e2⟩ => ⟨e1, e2, rfl, ec, rfl, rfl⟩) h
    rw [e] at hb
    exact ne_bf hb (Bool.and_eq_true_iff.mpr ⟨decide_eq_true h0, decide_eq_true h1⟩)
  · exact ex_seen t ok.1 hi (Sg := SgL K a) (.inr (.inl ⟨rfl, rfl⟩)) ok (fun d ν ⟨⟨l, _, hc, _⟩, _⟩ => ne_bf hb hc) (fun c d ν ⟨⟨_, ec⟩, e1, e2⟩ => ⟨e1, e2, rfl, ec, rfl, rfl⟩) h
  · exact ex_seen t ok.1 hi (Sg := SgL K a) (.inr (.inr (.inl ⟨rfl, rfl⟩))) ok (fun d ν ⟨l, _, hc, _⟩ => ne_bf hb hc) (fun c d ν ⟨⟨_, ec⟩, e1, e2⟩ => ⟨e1, e2, rfl, ec, rfl, rfl⟩) h
  · exact ex_seen t ok.1 hi (Sg := SgL K a) (.inr (.inr (.inr (.inl ⟨rfl, rfl⟩)))) ok (fun d ν ⟨⟨l, _, hc, _⟩, _⟩ => ne_bf hb hc) (fun c d ν ⟨⟨_, ec⟩, e1, e2⟩ => ⟨e1, e2, rfl, ec, rfl, rfl⟩) h
  · exact ex_seen t ok.1 hi (Sg := SgL K a) (.inr (.inr (.inr (.inr ⟨rfl, rfl⟩)))) ⟨ok, ht.txt⟩ (fun d ν ⟨s, _, hc, _⟩ => ne_bf hb hc) (fun c d ν ⟨⟨_, ec⟩, e1, e2⟩ => ⟨e1, e2, rfl, ec, rfl, rfl⟩) h
theorem kinds_of (T : Tx P w K mg base a) {n : Nat} {f : Addr} {e : D} (h : BadAt a n f e) : (∃ fI, ErrC K (clsN a n) fI) ∧ PySem.W.kitOne K (.ref (clsN a n)) (.ref a.eInvalidCell) = some (decide (n = 0)) ∧ PySem.W.kitOne K (.ref (clsN a n)) (.ref a.eInvalidCells) = some (decide (n = 1)) ∧ PySem.W.kitOne K (.ref (clsN a n)) (.ref a.eInvalidDots) = some (decide (n = 2)) ∧ PySem.W.kitOne K (.ref (clsN a n)) (.ref a.eInvalidText) = some (decide (n = 3)) ∧ PySem.W.kitOne K (.ref (clsN a n)) (.ref a.eInvalidCount) = some (decide (n = 4)) ∧ PySem.W.exmOne K (.ref (clsN a n)) (.ref a.eReadingError) = some true := by
  rcases h with ⟨rfl, _⟩ | ⟨rfl, _⟩ | ⟨rfl, _⟩ | ⟨rfl, _⟩
  · exact ⟨T.e_InvalidCell.c, T.k_InvalidCell_InvalidCell, T.k_InvalidCell_InvalidCells, T.k_InvalidCell_InvalidDots, T.k_InvalidCell_InvalidText, T.k_InvalidCell_InvalidCount, T.x_InvalidCell⟩
  · exact ⟨T.e_InvalidCells.c, T.k_InvalidCells_InvalidCell, T.k_InvalidCells_InvalidCells, T.k_InvalidCells_InvalidDots, T.k_InvalidCells_InvalidText, T.k_InvalidCells_InvalidCount, T.x_InvalidCells⟩
  · exact ⟨T.e_InvalidDots.c, T.k_InvalidDots_InvalidCell, T.k_InvalidDots_InvalidCells, T.k_InvalidDots_InvalidDots, T.k_InvalidDots_InvalidText, T.k_InvalidDots_InvalidCount, T.x_InvalidDots⟩
  · exact ⟨T.e_InvalidText.c, T.k_InvalidText_InvalidCell, T.k_InvalidText_InvalidCells, T.k_InvalidText_InvalidDots, T.k_InvalidText_InvalidText, T.k_InvalidText_InvalidCount, T.x_InvalidText⟩
abbrev st__law_heard : Stmt := top 37
abbrev nm__law_heard : List Str := ["call", "thing", "caught", "error", "kinds"]
theorem sc__law_heard : FnScope nm__law_heard ["call", "thing"] (defScope st__law_heard) := ⟨rfl, rfl, rfl, by decide +kernel, rfl, by decide +kernel, by decide +kernel⟩
theorem ok_lheard (F : Fun K "_law_heard" "_law_heard" st__law_heard f fd) (T : Tx P w K mg base a) {Sg : Addr → Sp → Prop} (hSg : Sg = SgL K a) (held : ∀ f sp, Sg f sp → HeldX P w K mg base 5 f sp) (c__law_exact : CalX P w K mg base 7 "_law_exact" ["mine", "theirs"] (spExact K 6)) : FnOk P w K mg base (L2.CX P w) 8 f fd ["call", "thing"] (spHeard K a) := by
  refine F.okX sc__law_heard (fun vs H Q E h => pro_len h fun _ => rfl) (fun cdv A outer s H vs Q E hr h => ⟨_, (pss_cons (ps_set (i := 2) sc__law_heard.nd rfl (by first | exact Or.inl rfl | exact Or.inr rfl) pe_non)
    (pss_cons (ps_tryC (i := 3) T.g_ReadingError sc__law_heard.nd rfl rfl rfl rfl rfl rfl (takes_of rfl rfl rfl rfl) (fun W pn xe tk own => (pss_one (ps_expr (pe_cL (i := 0) (Sg := Sg) held hr (by first | decide | exact Nat.le_refl _) rfl (by first | exact Or.inl rfl | exact Or.inr rfl) tk (pa_cons (pv 1) pa_nil))))) (fun a pn => (pss_one (ps_set (i := 2) sc__law_heard.nd rfl (by first | exact Or.inl rfl | exact Or.inr rfl) (pv 3)))))
    (pss_cons (ps_if (pt_cmpR op_isN (pv 2) pe_non (nomark _)) (pss_one (ps_ret pe_str)) pss_nil)
    (pss_cons (ps_set (i := 4) sc__law_heard.nd rfl (by first | exact Or.inl rfl | exact Or.inr rfl) (pe_lst (pa_cons (pe_callB (kC K rIsiU rfl call_isU) (by rfl) T.b_isinstance (by decide +kernel) (pa_cons (pv 2) (pa_cons (pe_glob (v := .ref a.eInvalidCell) rfl T.g_InvalidCell rfl) pa_nil))) (pa_cons (pe_callB (kC K rIsiU rfl call_isU) (by rfl) T.b_isinstance (by decide +kernel) (pa_cons (pv 2) (pa_cons (pe_glob (v := .ref a.eInvalidCells) rfl T.g_InvalidCells rfl) pa_nil))) (pa_cons (pe_callB (kC K rIsiU rfl call_isU) (by rfl) T.b_isinstance (by decide +kernel) (pa_cons (pv 2) (pa_cons (pe_glob (v := .ref a.eInvalidDots) rfl T.g_InvalidDots rfl) pa_nil))) pa_nil)))))
    (pss_cons (ps_set (i := 4) sc__law_heard.nd rfl (by first | exact Or.inl rfl | exact Or.inr rfl) (pe_op (kO K rPlus rfl op_plus) (pv 4) (pe_lst (pa_cons (pe_callB (kC K rIsiU rfl call_isU) (by rfl) T.b_isinstance (by decide +kernel) (pa_cons (pv 2) (pa_cons (pe_glob (v := .ref a.eInvalidText) rfl T.g_InvalidText rfl) pa_nil))) (pa_cons (pe_callB (kC K rIsiU rfl call_isU) (by rfl) T.b_isinstance (by decide +kernel) (pa_cons (pv 2) (pa_cons (pe_glob (v := .ref a.eInvalidCount) rfl T.g_InvalidCount rfl) pa_nil))) pa_nil)))))
    (pss_cons (ps_if (pt_val (pe_callB (kC K rIsiU rfl call_isU) (by rfl) T.b_isinstance (by decide +kernel) (pa_cons (pv 1) (pa_cons (pe_bltn (v := .ty "list") (by rfl) T.b_list (by decide +kernel) rfl) pa_nil)))) (pss_one (ps_expr (pe_bmK (K := K) rfl PySem.F.plainAttrs_list PySem.F.slot_list_append PySem.F.type_list_append mt_append (pv 1) (pa_cons pe_str pa_nil)))) pss_nil)
    (pss_one (ps_ret (pe_lst (pa_cons (pv 4) (pa_cons (pe_or (pe_c c__law_exact hr (by first | decide | exact Nat.le_refl _) rfl (passes_call (takes_of rfl rfl rfl rfl) (fun _ _ _ _ h => h)) (pa_cons (pv 1) (pa_cons (pe_errVK (K := K) rfl (pv 2)) pa_nil))) (pe_one (pe_and (pe_callB (kC K rIsiU rfl call_isU) (by rfl) T.b_isinstance (by decide +kernel) (pa_cons (pv 1) (pa_cons (pe_bltn (v := .ty "dict") (by rfl) T.b_dict (by decide +kernel) rfl) pa_nil))) (pe_one (pe_cmpR (kO K rEqU rfl (op_eqU (hu64 hr))) (pe_errVK (K := K) rfl (pv 2)) (pv 1) (nomark _)))))) pa_nil))))))))))), run_body h fun ⟨n, g, t⟩ S ht hl hcl wi => ?_⟩)
  subst hSg
  have ht : Thing a n g t := ht
  obtain ⟨⟨fI, hI⟩, k0, k1, k2, k3, k4, hx⟩ := kinds_of T ht.bad
  walk_at "pp"
  refine se_try (fun δ' c d μ' => δ' = [some (.v (.ref g)), some t.1, some .non, none, none] ∧ c = clsN a n ∧ d = t.1 ∧ μ' = t.2.1) (sx_drop (ex_lib ht rfl ?_)) ?_
  · walk_at "pp"
    exact ⟨rfl, rfl⟩
  rintro δ c d μ ⟨rfl, rfl, rfl, rfl⟩
  refine ⟨hx, ?_⟩
  walk_at "pp"
  refine ee_lst ?_
  walk_at "pp"
  refine cc_isX hI k0 ?_
  walk_at "pp"
  refine cc_isX hI k1 ?_
  walk_at "pp"
  refine cc_isX hI k2 ?_
  walk_at "pp"
  refine ee_lst ?_
  walk_at "pp"
  refine cc_isX hI k3 ?_
  walk_at "pp"
  refine cc_isX hI k4 ?_
  walk_at "pp"
  refine oo_addL (Nat.le_of_ble_eq_true rfl) ?_
  obtain ⟨d, μ, e⟩ := t
  have ha : Arg d μ e := ht.ok.1
  have hok : e.okd = true := ht.ok.2
  have hex : exOk 6 e = true := ht.ex
  have hpl := okd_pl hok
  cases ha with
  | cl hd =>
    have hnl : noLst d = true := ht.cl rfl
    have hl : S.A.length = 0 := hl
    have hi : d.is "list" = false := by
      cases d with
      | v x => cases x <;> first | rfl | (cases hpl; done)
      | lst l => cases hnl
      | rd l => cases hpl
      | tup l => rfl
      | dic ks l => rfl
      | exc c d => cases hpl
      | own k => cases hpl
    walk_at "pp"
    rw [hi]
    walk_at "pp"
    refine ee_lst ?_
    walk_at "pp"
    refine ee_cz ?_
    walk_at "pp"
    refine ee_errV (fI := fun _ => fI) ?_
    walk_at "pp"
    refine ⟨hI, ?_⟩
    walk_at "pp"
    refine ⟨d, hex, rfl, by show (d.lt 0 && (d.lt 0 && true)) = true; rw [hd]; rfl, ?_⟩
    rintro r rfl
    refine ⟨_, rfl, fun hb => ?_, fun hb => ?_⟩
    · walk_at "pp"
      walk_at "gp"
      exact gave (by rfl) (by rw [hl]; rfl) (by rw [hl]; exact ⟨rfl, rfl⟩)
    · obtain ⟨ks, m, rfl⟩ : ∃ ks m, d = .dic ks m := by cases d <;> first | exact ⟨_, _, rfl⟩ | cases hb
      walk_at "pp"
      refine ee_errV (fI := fun _ => fI) ?_
      walk_at "pp"
      refine ⟨hI, ?_⟩
      walk_at "pp"
      refine oo_eqDic (ht.dic _ _ rfl) ?_
      walk_at "pp"
      walk_at "gp"
      exact gave (by rfl) (by rw [hl]; rfl) (by rw [hl]; exact ⟨rfl, rfl⟩)
  | @own l h0 =>
    have hl : S.A.length = 1 := hl
    have hz := (okd_lst hok).1
    have h0m : D.ltL 0 (l ++ [moreS]) = true := D.ltL_all.mpr fun x hx => by
      rcases List.mem_append.mp hx with hx | hx
      · exact D.ltL_all.mp h0 x hx
      · rw [List.mem_singleton.mp hx]
        rfl
    have hex2 : exOk 6 (.lst (l ++ [moreS])) = true := by
      have q := Bool.and_eq_true_iff.mp (show (decide (l.length ≤ 1000000) && l.all (fun x => noDic x && exOk 5 x)) = true from hex)
      show (decide ((l ++ [moreS]).length ≤ 1000000) && (l ++ [moreS]).all (fun x => noDic x && exOk 5 x)) = true
      rw [List.all_append, q.2, decide_eq_true (by rw [List.length_append]; show l.length + 1 ≤ 1000000; omega)]
      rfl
    walk_at "pp"
    refine cc_isO rfl rfl ?_
    walk_at "pp"
    refine ee_bm ?_
    walk_at "pp"
    refine ⟨.lst (.own rfl), ?_⟩
    walk_at "pp"
    refine mm_append (l := l) rfl (by omega) ?_
    walk_at "pp"
    refine ee_lst ?_
    walk_at "pp"
    refine ee_czB ?_
    walk_at "pp"
    refine ee_errV (fI := fun _ => fI) ?_
    walk_at "pp"
    refine ⟨hI, ?_⟩
    walk_at "pp"
    refine ⟨.lst (l ++ [moreS]), hex2, rfl, by show (D.ltL 0 (l ++ [moreS]) && (D.ltL 0 (l ++ [moreS]) && true)) = true; rw [h0m]; rfl, ?_⟩
    rintro r rfl
    refine ⟨_, rfl, ?_⟩
    walk_at "pp"
    walk_at "gp"
    exact gave1 hl (by rfl) h0m ⟨rfl, rfl⟩
end


section
variable {P : Program} {w : World} {K : PySem.W.Frag} {mg : Str → Option Value} {base : Heap} {a : Ad} {f : Addr} {fd : FuncData}
theorem cutD_0n {l : List D} {j : Nat} : cutD l none (some (j : Int)) = l.take j := by
  show (l.drop 0).take (HT.sIx l.length l.length (some (j : Int)) - 0) = _
  rw [HT.sIx_nat, List.drop_zero, Nat.sub_zero]
  by_cases hj : j ≤ l.length
  · rw [Nat.min_eq_left hj]
  · rw [List.take_of_length_le (by omega), List.take_of_length_le (by omega)]
theorem cutD_n0 {l : List D} {j : Nat} : cutD l (some (j : Int)) none = l.drop j := by
  show (l.drop (HT.sIx l.length 0 (some (j : Int)))).take (l.length - HT.sIx l.length 0 (some (j : Int))) = _
  rw [HT.sIx_nat, List.take_of_length_le (by rw [List.length_drop]; omega)]
  by_cases hi : j ≤ l.length
  · rw [Nat.min_eq_left hi]
  · rw [List.drop_of_length_le (by omega : l.length ≤ j), List.drop_of_length_le (by omega)]
def Bent (row things l : List D) : Prop := ∃ x ∈ things, ∃ k ≤ row.length, l = row.take k ++ x :: row.drop k
def hands (n : Nat) : List D := (List.range n).map fun j => .own (j + 1)
theorem hands_len {n : Nat} : (hands n).length = n := by unfold hands; rw [List.length_map, List.length_range]
theorem hands_3 {n : Nat} : hands (n + 3) = hands n ++ [.own (n + 1), .own (n + 2), .own (n + 3)] := by
  unfold hands
  rw [List.range_succ, List.range_succ, List.range_succ, List.map_append, List.map_append, List.map_append, List.append_assoc, List.append_assoc]
  rfl
theorem hands_lt {n m : Nat} (h : n < m) : D.ltL m (hands n) = true := D.ltL_all.mpr fun x hx => by
  obtain ⟨j, hj, rfl⟩ := List.mem_map.mp hx
  have := List.mem_range.mp hj
  exact decide_eq_true (by omega)
abbrev spBent (K : PySem.W.Frag) : Sp := Pro K (T := List D × Nat × List D × List D) (fun t => [.lst t.1]) (fun t => [.own 0, .lst t.2.2.1, .lst t.2.2.2]) (fun t => PuOk t.2.1 t.1 ∧ t.2.1 ≤ 200000000 ∧ t.2.2.1.length ≤ 1000 ∧ t.2.2.2.length ≤ 1000 ∧ D.ltL 0 t.2.2.1 = true ∧ D.ltL 0 t.2.2.2 = true)
  (fun t d μ => ∃ (p : List D) (ls : List (List D)), d = .lst (hands (3 * t.2.2.2.length)) ∧ μ = .lst p :: ls.map Cell.lst ∧ PuOk (t.2.1 + 1000) p ∧ ls.length = 3 * t.2.2.2.length ∧ ∀ l ∈ ls, Bent t.2.2.1 t.2.2.2 l) (fun _ _ _ _ => False)
theorem bent_cl {row things l : List D} (h1 : D.ltL 0 row = true) (h2 : D.ltL 0 things = true) (h : Bent row things l) : D.ltL 0 l = true := by
  obtain ⟨x, hx, k, _, rfl⟩ := h
  refine D.ltL_all.mpr fun y hy => ?_
  rcases List.mem_append.mp hy with hy | hy
  · exact D.ltL_all.mp h1 y (List.mem_of_mem_take hy)
  · rcases List.mem_cons.mp hy with rfl | hy
    · exact D.ltL_all.mp h2 _ hx
    · exact D.ltL_all.mp h1 y (List.mem_of_mem_drop hy)
abbrev st__law_bent : Stmt := top 38
abbrev nm__law_bent : List Str := ["purse", "row", "things", "found", "thing", "at"]
theorem sc__law_bent : FnScope nm__law_bent ["purse", "row", "things"] (defScope st__law_bent) := ⟨rfl, rfl, rfl, by decide +kernel, rfl, by decide +kernel, by decide +kernel⟩
theorem ok_bent (F : Fun K "_law_bent" "_law_bent" st__law_bent f fd) (T : Tx P w K mg base a) (c__law_draw : CalX P w K mg base 2 "_law_draw" ["purse", "many"] (spDraw K)) : FnOk P w K mg base (L2.CX P w) 3 f fd ["purse", "row", "things"] (spBent K) := by
  refine F.okX sc__law_bent (fun vs H Q E h => pro_len h fun _ => rfl) (fun cdv A outer s H vs Q E hr h => ⟨_, (pss_cons (ps_set (i := 3) sc__law_bent.nd rfl (by first | exact Or.inl rfl | exact Or.inr rfl) (pe_lst pa_nil))
    (pss_cons (ps_for (passes_of rfl) rfl (pi_listK (K := K) rfl (pv 2)) (pg_name (i := 4) sc__law_bent.nd rfl (by first | exact Or.inl rfl | exact Or.inr rfl))
      (pss_cons (ps_set (i := 5) sc__law_bent.nd rfl (by first | exact Or.inl rfl | exact Or.inr rfl) (pe_c c__law_draw hr (by first | decide | exact Nat.le_refl _) rfl (passes_call (takes_of rfl rfl rfl rfl) (fun _ _ _ _ h => h)) (pa_cons (pv 0) (pa_cons (pe_op (kO K rPlus rfl op_plus) (pe_callB (kC K rLenU rfl call_lenU) (by rfl) T.b_len (by decide +kernel) (pa_cons (pv 1) pa_nil)) pe_int) pa_nil))))
    (pss_one (ps_set (i := 3) sc__law_bent.nd rfl (by first | exact Or.inl rfl | exact Or.inr rfl) (pe_op (kO K rPlus rfl op_plus) (pv 3) (pe_lst (pa_cons (pe_op (kO K rPlus rfl op_plus) (pe_op (kO K rPlus rfl op_plus) (pe_slice (kS K rSlU rfl sl_U) (pv 1) po_none (po_some (pv 5))) (pe_lst (pa_cons (pv 4) pa_nil))) (pe_slice (kS K rSlU rfl sl_U) (pv 1) (po_some (pv 5)) po_none)) (pa_cons (pe_op (kO K rPlus rfl op_plus) (pe_lst (pa_cons (pv 4) pa_nil)) (pv 1)) (pa_cons (pe_op (kO K rPlus rfl op_plus) (pv 1) (pe_lst (pa_cons (pv 4) pa_nil))) pa_nil)))))))))
    (pss_one (ps_ret (pv 3))))), run_body h fun ⟨l, n, row, things⟩ S ⟨hp, hn, hr1, ht1, hr0, ht0⟩ hl hcl wi => ?_⟩)
  have hp : PuOk n l := hp
  have hn : n ≤ 200000000 := hn
  have hr1 : row.length ≤ 1000 := hr1
  have ht1 : things.length ≤ 1000 := ht1
  have hr0 : D.ltL 0 row = true := hr0
  have ht0 : D.ltL 0 things = true := ht0
  have hS : S.A.length = 1 := hl
  walk_at "pp"
  refine ee_lst ?_
  walk_at "pp"
  refine se_for (ie_list ?_)
  walk_at "pp"
  refine ⟨things, .inl rfl, ?_⟩
  refine ⟨rfl, fun i δ μ => ∃ (p : List D) (ls : List (List D)) (x y : Option D), δ = [some (.own 0), some (.lst row), some (.lst things), some (.lst (hands (3 * i))), x, y] ∧ μ = .lst p :: ls.map Cell.lst ∧ PuOk (n + i) p ∧ ls.length = 3 * i ∧ ∀ l ∈ ls, Bent row things l, ⟨l, [], none, none, rfl, rfl, hp, rfl, fun l h => by cases h⟩, ?_, ?_⟩
  · rintro i x δ μ hi ⟨p, ls, x0, y0, rfl, rfl, hp', hls, hb⟩
    have hx : x ∈ things := List.mem_of_getElem? hi
    have hi := (List.getElem?_eq_some_iff.mp hi).1
    walk_at "pp"
    refine ee_cz1 0 ?_
    walk_at "pp"
    refine cc_len (.lst _) ?_
    walk_at "pp"
    refine ⟨(p, (row.length : Int) + 1, n + i), p, ⟨hp', by show (0 : Int) < (row.length : Int) + 1; omega, by show (row.length : Int) + 1 ≤ 1000000; omega, by show n + i ≤ 1000000000; omega⟩, rfl, hp'.cl, rfl, hand1 rfl, fun d ν ⟨v, l3, hr, v0, v1, e3, hp3⟩ => ?_⟩
    subst hr
    obtain ⟨k, rfl⟩ : ∃ k : Nat, v = (k : Int) := ⟨v.toNat, by omega⟩
    have v1 : (k : Int) < (row.length : Int) + 1 := v1
    have hk : k ≤ row.length := by omega
    refine ⟨rfl, l3, e3, hp3.cl, ?_⟩
    walk_at "pp"
    refine ee_lst ?_
    walk_at "pp"
    refine ss_lst ?_
    rw [cutD_0n]
    walk_at "pp"
    refine ee_lst ?_
    walk_at "pp"
    refine oo_addL (by rw [List.length_take, List.length_singleton]; omega) ?_
    walk_at "pp"
    refine ss_lst ?_
    rw [cutD_n0]
    refine oo_addLO (by rw [List.length_append, List.length_take, List.length_drop, List.length_singleton]; omega) ?_
    walk_at "pp"
    refine ee_lst ?_
    walk_at "pp"
    refine oo_addLO (by rw [List.length_singleton]; omega) ?_
    walk_at "pp"
    refine ee_lst ?_
    walk_at "pp"
    refine oo_addLO (by rw [List.length_singleton]; omega) ?_
    walk_at "pp"
    refine oo_addL (by rw [hands_len]; show 3 * i + 3 ≤ _; omega) ?_
    walk_at "pp"
    have hh : hands (3 * (i + 1)) = hands (3 * i) ++ [.own (3 * i + 1), .own (3 * i + 2), .own (3 * i + 3)] := hands_3
    refine ⟨l3, ls ++ [row.take k ++ [x] ++ row.drop k, [x] ++ row, row ++ [x]], some x, some (.int (k : Int)), ?_, ?_, hp3, ?_, ?_⟩
    · rw [hh]
      simp [List.set, hls]
    · simp
    · rw [List.length_append, hls]
      show 3 * i + 3 = _
      omega
    · intro m hm
      rcases List.mem_append.mp hm with hm | hm
      · exact hb m hm
      · simp only [List.mem_cons, List.not_mem_nil, or_false] at hm
        rcases hm with rfl | rfl | rfl
        · exact ⟨x, hx, k, hk, by rw [List.append_assoc]; rfl⟩
        · exact ⟨x, hx, 0, Nat.zero_le _, rfl⟩
        · exact ⟨x, hx, row.length, Nat.le_refl _, by rw [List.take_length, List.drop_length]⟩
  · rintro δ μ ⟨p, ls, x0, y0, rfl, rfl, hp', hls, hb⟩
    walk_at "pp"
    walk_at "gp"
    have hlen : (Cell.lst p :: ls.map Cell.lst).length = 3 * things.length + 1 := by rw [List.length_cons, List.length_map, hls]
    refine gave_all (by rw [hlen, hS]; omega) (by rw [hlen]; exact hands_lt (by omega)) ?_ ⟨p, ls, rfl, rfl, hp'.le (by omega), hls, hb⟩
    show (D.ltL _ p && (ls.map Cell.lst).all _) = true
    rw [D.ltL_mono (Nat.zero_le _) hp'.cl, Bool.true_and, List.all_eq_true]
    intro c hc
    obtain ⟨l, hl, rfl⟩ := List.mem_map.mp hc
    exact D.ltL_mono (Nat.zero_le _) (bent_cl hr0 ht0 (hb l hl))
end


section
variable {P : Program} {w : World} {K : PySem.W.Frag} {mg : Str → Option Value} {base : Heap} {a : Ad} {f : Addr} {fd : FuncData}
/-! ### wrong things -/
def isK (k : Nat) (e : D) : Bool := match k with
  | 0 => isCell e
  | 1 => isCells e
  | 2 => isDots e
  | _ => isTextD e
def dicB : D → Bool
  | .dic [] [] => true
  | .dic [_] [.v x] => flatB x
  | .dic _ _ => false
  | _ => true
def txtB : D → Bool
  | .v (.str s) => decide ((cp s).length ≤ 100000)
  | _ => true
/-- a closed thing that is wrong for the k-th -/
def wrC (k : Nat) (x : D) : Bool := x.lt 0 && (noLst x && (x.okd && (exOk 6 x && (!isK k x && (dicB x && txtB x)))))
/-- an item of a list -/
def okI (x : D) : Bool := x.lt 0 && (x.okd && (noDic x && exOk 5 x))
def WrL (k B : Nat) (l : List D) : Prop := (∀ x ∈ l, okI x = true) ∧ isK k (.lst l) = false ∧ l.length ≤ B
def Wr (k B : Nat) (μ : List Cell) (x : D) : Prop := wrC k x = true ∨ ∃ j l, x = .own (j + 1) ∧ μ[j + 1]? = some (.lst l) ∧ WrL k B l
theorem and2 {b c : Bool} (h : (b && c) = true) : b = true ∧ c = true := Bool.and_eq_true_iff.mp h
theorem wrC_cl {k : Nat} {x : D} (h : wrC k x = true) : x.lt 0 = true := (and2 h).1
theorem dicB_ok {ks : List Key} {l : List D} (h : dicB (.dic ks l) = true) : DicOk ks l := by
  match ks, l, h with
  | [], [], _ => exact ⟨[], rfl, rfl, fun p hp => by cases hp⟩
  | [k], [.v x], h =>
    refine ⟨[x], rfl, rfl, fun p hp => ?_⟩
    rw [List.mem_singleton.mp (show p ∈ [(k, x)] from hp)]
    refine ⟨?_, h⟩
    show ((([(k, x)] : List (Key × V)).find? fun kv => decide (kv.1 = k)).map (·.2)) = some x
    rw [List.find?_cons, decide_eq_true (rfl : (k, x).1 = k)]
    rfl
theorem WrL.cl {k B : Nat} {l : List D} {n : Nat} (h : WrL k B l) : D.ltL n l = true := D.ltL_all.mpr fun x hx => D.lt_mono (Nat.zero_le _) (and2 (h.1 x hx)).1
theorem okI_okd : ∀ {l : List D}, (∀ x ∈ l, okI x = true) → D.okdL l = true
  | [], _ => rfl
  | x :: l, h => Bool.and_eq_true_iff.mpr ⟨(and2 (and2 (h x List.mem_cons_self)).2).1, okI_okd fun y hy => h y (List.mem_cons_of_mem _ hy)⟩
theorem WrL.thing {k B : Nat} {l : List D} {f : Addr} (h : WrL k B l) (hB : B ≤ 100000) (hf : isK k (.lst l) = false → BadAt a k f (.lst l)) : Thing a k f (.own 0, [.lst l], .lst l) := by
  have hz := h.2.2
  refine ⟨⟨.own h.cl, Bool.and_eq_true_iff.mpr ⟨decide_eq_true (Nat.le_trans hz hB), okI_okd h.1⟩⟩, hf h.2.1, ?_, fun ks l e => (by cases e), fun s e => (by cases e), fun e => (by cases e)⟩
  refine Bool.and_eq_true_iff.mpr ⟨decide_eq_true (show l.length ≤ 1000000 by omega), List.all_eq_true.mpr fun x hx => ?_⟩
  have q := and2 (and2 (and2 (h.1 x hx)).2).2
  exact Bool.and_eq_true_iff.mpr q
theorem wrC_thing {k : Nat} {x : D} {f : Addr} (h : wrC k x = true) (hf : isK k x = false → BadAt a k f x) : Thing a k f (x, [], x) := by
  obtain ⟨h1, h⟩ := and2 h
  obtain ⟨h2, h⟩ := and2 h
  obtain ⟨h3, h⟩ := and2 h
  obtain ⟨h4, h⟩ := and2 h
  obtain ⟨h5, h⟩ := and2 h
  obtain ⟨h6, h7⟩ := and2 h
  refine ⟨⟨.cl h1, h3⟩, hf (by simpa using h5), h4, fun ks l e => ?_, fun s e => ?_, fun _ => h2⟩
  · have e : x = .dic ks l := e
    subst e
    exact dicB_ok h6
  · have e : x = .str s := e
    subst e
    exact of_decide_eq_true h7
theorem more_bad (k : Nat) (l : List D) : isK k (.lst (l ++ [moreS])) = false := by
  match k with
  | 0 => rfl
  | 1 =>
    show (l ++ [moreS]).all isCell = false
    rw [List.all_append, show [moreS].all isCell = false from rfl, Bool.and_false]
  | 2 =>
    show ((l ++ [moreS]).all isDot && rises (l ++ [moreS])) = false
    rw [List.all_append, show [moreS].all isDot = false from rfl, Bool.and_false, Bool.false_and]
  | _ + 3 => rfl
theorem WrL.more {k B : Nat} {l : List D} (h : WrL k B l) : WrL k (B + 1) (l ++ [moreS]) := by
  refine ⟨fun x hx => ?_, more_bad k l, by rw [List.length_append]; show l.length + 1 ≤ B + 1; have := h.2.2; omega⟩
  rcases List.mem_append.mp hx with hx | hx
  · exact h.1 x hx
  · rw [List.mem_singleton.mp hx]
    rfl
theorem WrL.le {k B C : Nat} {l : List D} (h : WrL k B l) (hB : B ≤ C) : WrL k C l := ⟨h.1, h.2.1, Nat.le_trans h.2.2 hB⟩
theorem Wr.le {k B C : Nat} {μ : List Cell} {x : D} (h : Wr k B μ x) (hB : B ≤ C) : Wr k C μ x := by
  rcases h with h | ⟨j, l, e, hj, hl⟩
  · exact .inl h
  · exact .inr ⟨j, l, e, hj, hl.le hB⟩
theorem Wr.app {k B : Nat} {c c' : Cell} {ρ ν : List Cell} {x : D} (h : Wr k B (c :: ρ) x) : Wr k B (c' :: (ρ ++ ν)) x := by
  rcases h with h | ⟨j, l, e, hj, hl⟩
  · exact .inl h
  · refine .inr ⟨j, l, e, ?_, hl⟩
    rw [List.getElem?_cons_succ] at hj ⊢
    rw [List.getElem?_append_left (List.getElem?_eq_some_iff.mp hj).1]
    exact hj
theorem Wr.lt {k B : Nat} {μ : List Cell} {x : D} (h : Wr k B μ x) : x.lt μ.length = true := by
  rcases h with h | ⟨j, l, rfl, hj, _⟩
  · exact D.lt_mono (Nat.zero_le _) (wrC_cl h)
  · exact decide_eq_true (List.getElem?_eq_some_iff.mp hj).1
abbrev spWrong (K : PySem.W.Frag) (k : Nat) : Sp := Pro K (T := List D × Nat) (fun t => [.lst t.1]) (fun t => [.own 0]) (fun t => PuOk t.2 t.1 ∧ t.2 ≤ 150000000) (fun t d μ => ∃ (xs p : List D) (ls : List (List D)), d = .lst xs ∧ μ = .lst p :: ls.map Cell.lst ∧ PuOk (t.2 + 10000) p ∧ xs.length ≤ 1000 ∧ (∀ l ∈ ls, D.ltL 0 l = true) ∧ ∀ x ∈ xs, Wr k 2000 μ x) (fun _ _ _ _ => False)
theorem gave_wrong {S : Bs} {k : Nat} {t : List D × Nat} {xs p : List D} {ls : List (List D)} (hS : S.A.length = 1) (hp : PuOk (t.2 + 10000) p) (hx : xs.length ≤ 1000) (hl : ∀ l ∈ ls, D.ltL 0 l = true) (h : ∀ x ∈ xs, Wr k 2000 (.lst p :: ls.map Cell.lst) x) :
    Gave S (fun d μ => ∃ (xs p : List D) (ls : List (List D)), d = .lst xs ∧ μ = .lst p :: ls.map Cell.lst ∧ PuOk (t.2 + 10000) p ∧ xs.length ≤ 1000 ∧ (∀ l ∈ ls, D.ltL 0 l = true) ∧ ∀ x ∈ xs, Wr k 2000 μ x) (.lst xs) (.lst p :: ls.map Cell.lst) := by
  refine gave_all (by rw [hS]; exact Nat.succ_le_succ (Nat.zero_le _)) (D.ltL_all.mpr fun x hx => (h x hx).lt) ?_ ⟨xs, p, ls, rfl, rfl, hp, hx, hl, h⟩
  show (D.ltL _ p && (ls.map Cell.lst).all _) = true
  rw [D.ltL_mono (Nat.zero_le _) hp.cl, Bool.true_and, List.all_eq_true]
  intro c hc
  obtain ⟨l, hl2, rfl⟩ := List.mem_map.mp hc
  exact D.ltL_mono (Nat.zero_le _) (hl l hl2)
theorem back0 {m : Nat} (hm : 0 < m) : back [0] m 0 = 0 := rfl
theorem backS {m j : Nat} : back [0] m (j + 1) = m + j := by
  unfold back
  rw [if_neg (by show ¬ j + 1 < 1; omega)]
  rfl
theorem cells_ren {f : Nat → Nat} : ∀ {ls : List (List D)}, (∀ l ∈ ls, D.ltL 0 l = true) → (ls.map Cell.lst).map (Cell.ren f) = ls.map Cell.lst
  | [], _ => rfl
  | l :: ls, h => by
    show Cell.lst (D.renL f l) :: (ls.map Cell.lst).map (Cell.ren f) = Cell.lst l :: ls.map Cell.lst
    rw [renL_cl (h l List.mem_cons_self), cells_ren fun m hm => h m (List.mem_cons_of_mem _ hm)]
section
variable {S : Bs} {δ : Sl} {μ : List Cell} {C : D → List Cell → Prop} {ta : TA} {E : XK}
theorem ask_bent (h : EA K S ta δ μ fun ds μ1 => ∃ (l row things : List D) (n : Nat), ds = [.own 0, .lst row, .lst things] ∧ μ1 = [.lst l] ∧ PuOk n l ∧ n ≤ 200000000 ∧ row.length ≤ 1000 ∧ things.length ≤ 1000 ∧ D.ltL 0 row = true ∧ D.ltL 0 things = true ∧
      ∀ (p : List D) (ls : List (List D)), PuOk (n + 1000) p → ls.length = 3 * things.length → (∀ l ∈ ls, Bent row things l) → C (.lst (hands (3 * things.length))) (.lst p :: ls.map Cell.lst)) : EE K S (tCall (spBent K) [] E ta) δ μ C :=
  ee_callG (CE := fun _ _ _ => False) [0] Wi.none fun A G H σ a Q q => h A G H σ a Q fun vs ds A1 G1 H1 μ1 m n r ⟨l, row, things, c, e1, e2, hp, hc, hr1, ht1, hr0, ht0, hC⟩ => q vs ds A1 G1 H1 μ1 m n r (by
    subst e1 e2
    have hl : D.ltL 0 [.lst row, .lst things] = true := by
      show (D.ltL 0 row && (D.ltL 0 things && true)) = true
      rw [hr0, ht0]
      rfl
    have hh := (hand1 (k := 0) (l := [.lst row, .lst things]) hl).ren
    refine ⟨(l, c, row, things), ⟨hp, hc, hr1, ht1, hr0, ht0⟩, by simp, fun k hk => (by rw [List.mem_singleton.mp hk]; exact Nat.zero_lt_one), rfl, ?_, hh.1, by rw [List.map_nil, List.append_nil]; exact hh.2, fun d ν n' ⟨p, ls, e1, e2, hp2, hls, hb⟩ _ _ _ _ => ?_, fun cc r ν z _ _ _ => z⟩
    · show (D.ltL 0 l && true) = true
      rw [hp.cl]
      rfl
    · subst e1 e2
      have hid : ∀ k, back [0] 1 k = k := fun k => by
        cases k with
        | zero => rfl
        | succ k => rw [backS, Nat.add_comm]
      rw [show [Cell.lst l].length = 1 from rfl, D.ren_id (p := fun _ => true) (fun k _ => hid k) (D.hs_true _)]
      show C _ ((.lst (D.renL _ p) : Cell) :: (ls.map Cell.lst).map (Cell.ren _))
      rw [renL_cl hp2.cl, cells_ren fun l hl => bent_cl hr0 ht0 (hb l hl)]
      exact hC p ls hp2 hls hb)
theorem ask_wrong {k : Nat} (h : EA K S ta δ μ fun ds μ1 => ∃ (l : List D) (ρ : List Cell) (n : Nat), ds = [.own 0] ∧ μ1 = .lst l :: ρ ∧ PuOk n l ∧ n ≤ 150000000 ∧
      ∀ (xs p : List D) (ν : List Cell), PuOk (n + 10000) p → xs.length ≤ 1000 → (∀ x ∈ xs, Wr k 2000 (.lst p :: (ρ ++ ν)) x) → C (.lst xs) (.lst p :: (ρ ++ ν))) : EE K S (tCall (spWrong K k) [] E ta) δ μ C :=
  ee_callG (CE := fun _ _ _ => False) [0] Wi.none fun A G H σ a Q q => h A G H σ a Q fun vs ds A1 G1 H1 μ1 m n r ⟨l, ρ, c, e1, e2, hp, hc, hC⟩ => q vs ds A1 G1 H1 μ1 m n r (by
    subst e1 e2
    have hh := (hand1 (k := 0) (l := []) rfl).ren
    refine ⟨(l, c), ⟨hp, hc⟩, by simp, fun k hk => (by rw [List.mem_singleton.mp hk]; exact Nat.succ_pos _), rfl, ?_, hh.1, by rw [List.map_nil, List.append_nil]; exact hh.2, fun d ν n' ⟨xs, p, ls, e1, e2, hp2, hz, hls, hb⟩ _ _ _ _ => ?_, fun cc r ν z _ _ _ => z⟩
    · show (D.ltL 0 l && true) = true
      rw [hp.cl]
      rfl
    · subst e1 e2
      show C (.lst (D.renL _ xs)) ((.lst (D.renL _ p) : Cell) :: (ρ ++ (ls.map Cell.lst).map (Cell.ren _)))
      rw [renL_cl hp2.cl, cells_ren hls]
      generalize hm : (Cell.lst l :: ρ).length = m
      have hm : ρ.length + 1 = m := hm
      have eq : ∀ ys : List D, D.renL (back [0] m) ys = ys.map (D.ren (back [0] m)) := fun ys => by
        induction ys with
        | nil => rfl
        | cons y ys ih =>
          show D.ren _ y :: D.renL _ ys = D.ren _ y :: ys.map _
          rw [ih]
      refine hC _ p _ hp2 (by rw [eq, List.length_map]; exact hz) fun x hx => ?_
      rw [eq] at hx
      obtain ⟨y, hy, rfl⟩ := List.mem_map.mp hx
      rcases hb y hy with h | ⟨j, l, rfl, hj, hl⟩
      · rw [ren_cl (wrC_cl h)]
        exact .inl h
      · refine .inr ⟨ρ.length + j, l, ?_, ?_, hl⟩
        · show D.own (back [0] m (j + 1)) = _
          rw [backS, ← hm]
          exact congrArg D.own (by omega)
        · rw [List.getElem?_cons_succ] at hj ⊢
          rw [List.getElem?_append_right (by omega), show ρ.length + j - ρ.length = j by omega]
          exact hj)
end
end


section
variable {P : Program} {w : World} {K : PySem.W.Frag} {mg : Str → Option Value} {base : Heap} {a : Ad} {f : Addr} {fd : FuncData}
def badI (k : Nat) (x : D) : Bool := match k with
  | 1 => isCell x
  | _ => isDot x
theorem bent_wr {k : Nat} {row things l : List D} (hk : k = 1 ∨ k = 2 ∨ k = 3) (hr : row.length ≤ 1000) (h1 : ∀ x ∈ row, okI x = true) (h2 : ∀ x ∈ things, okI x = true ∧ badI k x = false) (h : Bent row things l) : WrL k 2000 l := by
  obtain ⟨x, hx, j, hj, rfl⟩ := h
  have hm : x ∈ row.take j ++ x :: row.drop j := List.mem_append_right _ List.mem_cons_self
  refine ⟨fun y hy => ?_, ?_, ?_⟩
  · rcases List.mem_append.mp hy with hy | hy
    · exact h1 y (List.mem_of_mem_take hy)
    · rcases List.mem_cons.mp hy with rfl | hy
      · exact (h2 _ hx).1
      · exact h1 y (List.mem_of_mem_drop hy)
  · have hb := (h2 x hx).2
    generalize row.take j ++ x :: row.drop j = l at hm
    rcases hk with rfl | rfl | rfl
    · show l.all isCell = false
      cases q : l.all isCell with
      | false => rfl
      | true =>
        have hb : isCell x = false := hb
        rw [List.all_eq_true.mp q x hm] at hb
        cases hb
    · show (l.all isDot && rises l) = false
      cases q : l.all isDot with
      | false => rfl
      | true =>
        have hb : isDot x = false := hb
        rw [List.all_eq_true.mp q x hm] at hb
        cases hb
    · rfl
  · rw [List.length_append, List.length_cons, List.length_take, List.length_drop]
    omega
theorem hands_wr {k N : Nat} {p : List D} {ls : List (List D)} (hl : ls.length = N) (h : ∀ l ∈ ls, WrL k 2000 l) : ∀ x ∈ hands N, Wr k 2000 (.lst p :: ls.map Cell.lst) x := fun x hx => by
  obtain ⟨j, hj, rfl⟩ := List.mem_map.mp hx
  have hj := List.mem_range.mp hj
  have hlt : j < ls.length := by omega
  refine .inr ⟨j, ls[j], rfl, ?_, h _ (List.getElem_mem hlt)⟩
  rw [List.getElem?_cons_succ, List.getElem?_map, List.getElem?_eq_getElem hlt]
  rfl
theorem okd_all : ∀ {l : List D}, (∀ x ∈ l, okI x = true) → D.ltL 0 l = true := fun {l} h => D.ltL_all.mpr fun x hx => (and2 (h x hx)).1
theorem tup_wr {k : Nat} {l : List D} (hz : l.length ≤ 1000) (h : ∀ x ∈ l, okI x = true) : wrC k (.tup l) = true := by
  have h1 : D.ltL 0 l = true := okd_all h
  have h2 : (decide (l.length ≤ 100000) && D.okdL l) = true := Bool.and_eq_true_iff.mpr ⟨decide_eq_true (by omega), okI_okd h⟩
  have h3 : (decide (l.length ≤ 1000000) && l.all (fun x => noDic x && exOk 5 x)) = true := Bool.and_eq_true_iff.mpr ⟨decide_eq_true (by omega), List.all_eq_true.mpr fun x hx => (Bool.and_eq_true_iff.mpr (and2 (and2 (and2 (h x hx)).2).2))⟩
  have h4 : isK k (.tup l) = false := by
    match k with
    | 0 => rfl
    | 1 => rfl
    | 2 => rfl
    | _ + 3 => rfl
  show (D.ltL 0 l && (true && ((decide (l.length ≤ 100000) && D.okdL l) && ((decide (l.length ≤ 1000000) && l.all (fun x => noDic x && exOk 5 x)) && (!isK k (.tup l) && (true && true)))))) = true
  rw [h1, h2, h3, h4]
  rfl
theorem ints_okI {l : List D} (h : ∀ x ∈ l, ∃ i : Int, x = .int i) : ∀ x ∈ l, okI x = true := fun x hx => by
  obtain ⟨i, rfl⟩ := h x hx
  rfl
abbrev st__law_wrong_cells : Stmt := top 39
abbrev nm__law_wrong_cells : List Str := ["purse", "row", "part", "found"]
theorem sc__law_wrong_cells : FnScope nm__law_wrong_cells ["purse"] (defScope st__law_wrong_cells) := ⟨rfl, rfl, rfl, by decide +kernel, rfl, by decide +kernel, by decide +kernel⟩
theorem ok_wrong_cells (F : Fun K "_law_wrong_cells" "_law_wrong_cells" st__law_wrong_cells f fd) (T : Tx P w K mg base a) (c__law_draw : CalX P w K mg base 2 "_law_draw" ["purse", "many"] (spDraw K)) (c__law_bent : CalX P w K mg base 3 "_law_bent" ["purse", "row", "things"] (spBent K)) : FnOk P w K mg base (L2.CX P w) 4 f fd ["purse"] (spWrong K 1) := by
  refine F.okX sc__law_wrong_cells (fun vs H Q E h => pro_len h fun _ => rfl) (fun cdv A outer s H vs Q E hr h => ⟨_, (pss_cons (ps_setLc (i := 1) (own := [("part", 2)]) (tt := tYes) (g := (gName 2)) rfl sc__law_wrong_cells.nd rfl rfl (sw_true rfl rfl rfl (by decide +kernel)) (pi_range1 rfl T.b_range (pa_cons (pe_c c__law_draw hr (by first | decide | exact Nat.le_refl _) rfl (passes_call (takes_of rfl rfl rfl rfl) (fun _ _ _ _ h => h)) (pa_cons (pv 0) (pa_cons pe_int pa_nil))) pa_nil)) (blkOk_by (own := [("part", 2)]) (N := nm__law_wrong_cells) (sc := (defScope st__law_wrong_cells)) (by decide +kernel)) (fun _ _ _ _ _ => (pg_name (i := 2) sc__law_wrong_cells.nd rfl (by first | exact Or.inl rfl | exact Or.inr rfl))) (fun _ _ _ _ _ => pts_nil) (fun _ _ _ _ _ => (pe_c c__law_draw hr (by first | decide | exact Nat.le_refl _) rfl passL (pa_cons (pv 0) (pa_cons pe_int pa_nil)))))
    (pss_cons (ps_set (i := 3) sc__law_wrong_cells.nd rfl (by first | exact Or.inl rfl | exact Or.inr rfl) (pe_c c__law_bent hr (by first | decide | exact Nat.le_refl _) rfl (passes_call (takes_of rfl rfl rfl rfl) (fun _ _ _ _ h => h)) (pa_cons (pv 0) (pa_cons (pv 1) (pa_cons (pe_lst (pa_cons pe_int (pa_cons (pe_un un_neg pe_int) (pa_cons pe_bl (pa_cons pe_bl (pa_cons pe_non (pa_cons pe_str (pa_cons (pe_lst (pa_cons pe_int pa_nil)) (pa_cons (pe_tup (pa_cons pe_int pa_nil)) (pa_cons (pe_op op_sub (pe_op op_powW pe_int pe_int) pe_int) (pa_cons (pe_op op_sub pe_int (pe_op op_powW pe_int pe_int)) pa_nil))))))))))) pa_nil)))))
    (pss_one (ps_ret (pe_op (kO K rPlus rfl op_plus) (pv 3) (pe_lst (pa_cons (pe_callTy (kC K rTupOf rfl call_tupOf) (by rfl) T.b_tuple (by decide +kernel) (pa_cons (pv 1) pa_nil)) (pa_cons pe_non (pa_cons pe_str (pa_cons pe_int (pa_cons pe_dnewK (pa_cons (pe_disp (pps_cons pe_int pe_int pps_nil) (by rfl) (by rfl) (fun z => by cases z) (by decide)) (pa_cons pe_bl (pa_cons (pe_tup pa_nil) pa_nil)))))))))))))), run_body h fun ⟨l, n⟩ S ⟨hp, hn⟩ hl hcl wi => ?_⟩)
  have hp : PuOk n l := hp
  have hn : n ≤ 150000000 := hn
  have hS : S.A.length = 1 := hl
  walk_at "pp"
  refine ee_lcW (n := n + 1) (c := 1) (Q := IsCellD) (fun _ h => h.cl) (ie_rng1 ?_)
  walk_at "pp"
  refine ee_cz1 0 ?_
  walk_at "pp"
  refine ⟨(l, 9, n), l, ⟨hp, by show (0 : Int) < 9; decide, by show (9 : Int) ≤ 1000000; decide, by show n ≤ 1000000000; omega⟩, rfl, hp.cl, rfl, hand1 rfl, fun d ν ⟨v, l1, hr, v0, v1, e3, hp1⟩ => ?_⟩
  subst hr
  have v1 : v < 9 := v1
  have hp1 : PuOk (n + 1) l1 := hp1
  refine ⟨rfl, l1, e3, hp1.cl, ?_⟩
  walk_at "pp"
  refine ⟨by omega, by omega, rfl, l1, rfl, hp1, by rw [rng_len]; omega, fun i x acc l2 hx hp2 => ?_, fun acc l2 hlen hq hp2 => ?_⟩
  · refine gw_name (by decide) ?_
    walk_at "pp"
    have hi := (rng_get hx).1
    refine ee_cz1 0 ?_
    walk_at "pp"
    refine ⟨(l2, 64, n + 1 + 1 * i), l2, ⟨hp2, by show (0 : Int) < 64; decide, by show (64 : Int) ≤ 1000000; decide, by show n + 1 + 1 * i ≤ 1000000000; omega⟩, rfl, hp2.cl, rfl, hand1 rfl, fun d ν ⟨v, l3, hr, v0, v1, e3, hp3⟩ => ?_⟩
    subst hr
    exact ⟨rfl, l3, e3, hp3.cl, l3, rfl, ⟨v, rfl, v0, v1⟩, hp3⟩
  rw [rng_len] at hlen hp2
  have hz : acc.length ≤ 8 := by omega
  have hints : ∀ x ∈ acc, ∃ i : Int, x = .int i := fun x hx => let ⟨i, e, _⟩ := hq x hx; ⟨i, e⟩
  have hok := ints_okI hints
  have hp2 : PuOk (n + 100) l2 := hp2.le (by omega)
  walk_at "pp"
  refine ask_bent ?_
  walk_at "pp"
  refine ee_lst ?_
  walk_at "pp"
  refine ee_lst ?_
  walk_at "pp"
  refine oo_powW ⟨by decide, by decide +kernel⟩ ?_
  walk_at "pp"
  refine oo_powW ⟨by decide, by decide +kernel⟩ ?_
  walk_at "pp"
  refine ⟨l2, acc, _, n + 100, rfl, rfl, hp2, by omega, by omega, Nat.le_of_ble_eq_true rfl, ints_cl hints, rfl, fun p ls hp3 hls hb => ?_⟩
  have hwr : ∀ l ∈ ls, WrL 1 2000 l := fun l hl => bent_wr (.inl rfl) (by omega) hok (fun x hx => by
    simp only [List.mem_cons, List.not_mem_nil, or_false] at hx
    rcases hx with rfl | rfl | rfl | rfl | rfl | rfl | rfl | rfl | rfl | rfl <;> exact ⟨rfl, by decide⟩) (hb l hl)
  walk_at "pp"
  refine ee_lst ?_
  walk_at "pp"
  refine cc_tuple (.lst _) ?_
  walk_at "pp"
  refine ee_dnew ?_
  walk_at "pp"
  refine ee_disp1 (k := .inl 0) (x := .int 1) ?_
  walk_at "pp"
  refine oo_addL (by rw [hands_len]; exact Nat.le_of_ble_eq_true rfl) ?_
  walk_at "gp"
  refine gave_wrong (k := 1) (t := (l, n)) hS (hp3.le (by show n + 100 + 1000 ≤ n + 10000; omega)) (by rw [List.length_append, hands_len]; exact Nat.le_of_ble_eq_true rfl) (fun l hl => (hwr l hl).cl) fun x hx => ?_
  rcases List.mem_append.mp hx with hx | hx
  · exact hands_wr hls hwr x hx
  · simp only [List.mem_cons, List.not_mem_nil, or_false] at hx
    rcases hx with rfl | rfl | rfl | rfl | rfl | rfl | rfl | rfl
    · exact .inl (tup_wr (by omega) hok)
    all_goals exact .inl (by decide)
end


section
variable {P : Program} {w : World} {K : PySem.W.Frag} {mg : Str → Option Value} {base : Heap} {a : Ad} {f : Addr} {fd : FuncData}
theorem gave_wrongM {S : Bs} {k : Nat} {t : List D × Nat} {xs p : List D} {ls : List (List D)} {μ : List Cell} (hS : S.A.length = 1) (hμ : μ = .lst p :: ls.map Cell.lst) (hp : PuOk (t.2 + 10000) p) (hx : xs.length ≤ 1000) (hl : ∀ l ∈ ls, D.ltL 0 l = true) (h : ∀ x ∈ xs, Wr k 2000 (.lst p :: ls.map Cell.lst) x) :
    Gave S (fun d μ => ∃ (xs p : List D) (ls : List (List D)), d = .lst xs ∧ μ = .lst p :: ls.map Cell.lst ∧ PuOk (t.2 + 10000) p ∧ xs.length ≤ 1000 ∧ (∀ l ∈ ls, D.ltL 0 l = true) ∧ ∀ x ∈ xs, Wr k 2000 μ x) (.lst xs) μ := by
  subst hμ
  exact gave_wrong hS hp hx hl h
theorem wr_at {k j : Nat} {p : List D} {ls : List (List D)} {l : List D} (hj : ls[j]? = some l) (h : WrL k 2000 l) : Wr k 2000 (.lst p :: ls.map Cell.lst) (.own (j + 1)) := by
  refine .inr ⟨j, l, rfl, ?_, h⟩
  rw [List.getElem?_cons_succ, List.getElem?_map, hj]
  rfl
theorem hands_wr' {k N : Nat} {p : List D} {ls ms : List (List D)} (hl : ls.length = N) (h : ∀ l ∈ ls, WrL k 2000 l) : ∀ x ∈ hands N, Wr k 2000 (.lst p :: (ls ++ ms).map Cell.lst) x := fun x hx => by
  obtain ⟨j, hj, rfl⟩ := List.mem_map.mp hx
  have hj := List.mem_range.mp hj
  have hlt : j < ls.length := by omega
  exact wr_at (by rw [List.getElem?_append_left hlt, List.getElem?_eq_getElem hlt]) (h _ (List.getElem_mem hlt))
theorem own_at {k i : Nat} {p : List D} {ls ms : List (List D)} {l : List D} (hi : ms[i]? = some l) (h : WrL k 2000 l) : Wr k 2000 (.lst p :: (ls ++ ms).map Cell.lst) (.own (ls.length + i + 1)) :=
  wr_at (by rw [List.getElem?_append_right (Nat.le_add_right _ _), Nat.add_sub_cancel_left]; exact hi) h
def sevenD : List (List D) := [[.int 1, .int 1], [.int 6, .int 6], [.int 2, .int 1], [.int 1, .int 3, .int 2], [.int 1, .int 2, .int 3, .int 4, .int 5, .int 6, .int 6], [.int 1, .int 2, .int 4, .int 3, .int 5, .int 6], [.int 6, .int 5, .int 4, .int 3, .int 2, .int 1]]
theorem seven_wr : ∀ l ∈ sevenD, WrL 2 2000 l := fun l hl => by
  simp only [sevenD, List.mem_cons, List.not_mem_nil, or_false] at hl
  rcases hl with rfl | rfl | rfl | rfl | rfl | rfl | rfl <;> exact ⟨fun x hx => by simp only [List.mem_cons, List.not_mem_nil, or_false] at hx; rcases hx with rfl | hx <;> first | rfl | (rcases hx with rfl | hx <;> first | rfl | (rcases hx with rfl | hx <;> first | rfl | (rcases hx with rfl | hx <;> first | rfl | (rcases hx with rfl | hx <;> first | rfl | (rcases hx with rfl | hx <;> first | rfl | (subst hx; rfl)))))) | (subst hx; rfl), by decide, Nat.le_of_ble_eq_true rfl⟩
abbrev st__law_wrong_dots : Stmt := top 40
abbrev nm__law_wrong_dots : List Str := ["purse", "row", "found"]
theorem sc__law_wrong_dots : FnScope nm__law_wrong_dots ["purse"] (defScope st__law_wrong_dots) := ⟨rfl, rfl, rfl, by decide +kernel, rfl, by decide +kernel, by decide +kernel⟩
theorem ok_wrong_dots (F : Fun K "_law_wrong_dots" "_law_wrong_dots" st__law_wrong_dots f fd) (T : Tx P w K mg base a) (c__law_draw : CalX P w K mg base 2 "_law_draw" ["purse", "many"] (spDraw K)) (c__law_bent : CalX P w K mg base 3 "_law_bent" ["purse", "row", "things"] (spBent K)) : FnOk P w K mg base (L2.CX P w) 4 f fd ["purse"] (spWrong K 2) := by
  refine F.okX sc__law_wrong_dots (fun vs H Q E h => pro_len h fun _ => rfl) (fun cdv A outer s H vs Q E hr h => ⟨_, (pss_cons (ps_set (i := 1) sc__law_wrong_dots.nd rfl (by first | exact Or.inl rfl | exact Or.inr rfl) (pe_ix (kX K rIx rfl ix_seq) (pe_lst (pa_cons (pe_lst pa_nil) (pa_cons (pe_lst (pa_cons pe_int pa_nil)) (pa_cons (pe_lst (pa_cons pe_int (pa_cons pe_int pa_nil))) (pa_cons (pe_lst (pa_cons pe_int (pa_cons pe_int pa_nil))) (pa_cons (pe_lst (pa_cons pe_int (pa_cons pe_int (pa_cons pe_int pa_nil)))) pa_nil)))))) (pe_c c__law_draw hr (by first | decide | exact Nat.le_refl _) rfl (passes_call (takes_of rfl rfl rfl rfl) (fun _ _ _ _ h => h)) (pa_cons (pv 0) (pa_cons pe_int pa_nil))) (fun _ _ => rfl)))
    (pss_cons (ps_set (i := 2) sc__law_wrong_dots.nd rfl (by first | exact Or.inl rfl | exact Or.inr rfl) (pe_c c__law_bent hr (by first | decide | exact Nat.le_refl _) rfl (passes_call (takes_of rfl rfl rfl rfl) (fun _ _ _ _ h => h)) (pa_cons (pv 0) (pa_cons (pv 1) (pa_cons (pe_lst (pa_cons pe_int (pa_cons pe_int (pa_cons (pe_un un_neg pe_int) (pa_cons pe_bl (pa_cons pe_non (pa_cons pe_str (pa_cons (pe_tup (pa_cons pe_int pa_nil)) (pa_cons (pe_op op_sub (pe_op op_powW pe_int pe_int) pe_int) pa_nil))))))))) pa_nil)))))
    (pss_cons (ps_set (i := 2) sc__law_wrong_dots.nd rfl (by first | exact Or.inl rfl | exact Or.inr rfl) (pe_op (kO K rPlus rfl op_plus) (pv 2) (pe_lst (pa_cons (pe_lst (pa_cons pe_int (pa_cons pe_int pa_nil))) (pa_cons (pe_lst (pa_cons pe_int (pa_cons pe_int pa_nil))) (pa_cons (pe_lst (pa_cons pe_int (pa_cons pe_int pa_nil))) (pa_cons (pe_lst (pa_cons pe_int (pa_cons pe_int (pa_cons pe_int pa_nil)))) (pa_cons (pe_lst (pa_cons pe_int (pa_cons pe_int (pa_cons pe_int (pa_cons pe_int (pa_cons pe_int (pa_cons pe_int (pa_cons pe_int pa_nil)))))))) (pa_cons (pe_lst (pa_cons pe_int (pa_cons pe_int (pa_cons pe_int (pa_cons pe_int (pa_cons pe_int (pa_cons pe_int pa_nil))))))) (pa_cons (pe_lst (pa_cons pe_int (pa_cons pe_int (pa_cons pe_int (pa_cons pe_int (pa_cons pe_int (pa_cons pe_int pa_nil))))))) pa_nil))))))))))
    (pss_one (ps_ret (pe_op (kO K rPlus rfl op_plus) (pv 2) (pe_lst (pa_cons (pe_callTy (kC K rTupOf rfl call_tupOf) (by rfl) T.b_tuple (by decide +kernel) (pa_cons (pv 1) pa_nil)) (pa_cons (pe_tup (pa_cons pe_int (pa_cons pe_int pa_nil))) (pa_cons pe_non (pa_cons pe_str (pa_cons pe_int (pa_cons pe_dnewK (pa_cons (pe_disp (pps_cons pe_int pe_int pps_nil) (by rfl) (by rfl) (fun z => by cases z) (by decide)) (pa_cons pe_bl pa_nil))))))))))))))), run_body h fun ⟨l, n⟩ S ⟨hp, hn⟩ hl hcl wi => ?_⟩)
  have hp : PuOk n l := hp
  have hn : n ≤ 150000000 := hn
  have hS : S.A.length = 1 := hl
  walk_at "pp"
  refine ee_lst ?_
  walk_at "pp"
  refine ee_lst ?_
  walk_at "pp"
  refine ee_lst ?_
  walk_at "pp"
  refine ee_lst ?_
  walk_at "pp"
  refine ee_lst ?_
  walk_at "pp"
  refine ee_lst ?_
  walk_at "pp"
  refine ee_cz1 0 ?_
  walk_at "pp"
  refine ⟨(l, 5, n), l, ⟨hp, by show (0 : Int) < 5; decide, by show (5 : Int) ≤ 1000000; decide, by show n ≤ 1000000000; omega⟩, rfl, hp.cl, rfl, hand1 rfl, fun d ν ⟨v, l1, hr, v0, v1, e3, hp1⟩ => ?_⟩
  subst hr
  have v1 : v < 5 := v1
  have hp1 : PuOk (n + 1) l1 := hp1
  refine ⟨rfl, l1, e3, hp1.cl, ?_⟩
  obtain ⟨row, hrow, hz, hints⟩ : ∃ row : List D, atI [D.lst [], .lst [.int 1], .lst [.int 1, .int 2], .lst [.int 2, .int 5], .lst [.int 1, .int 3, .int 4]] v = some (.lst row) ∧ row.length ≤ 8 ∧ ∀ x ∈ row, ∃ i : Int, x = .int i := by
    have : v ∈ ([0, 1, 2, 3, 4] : List Int) := by simp; omega
    simp only [List.mem_cons, List.not_mem_nil, or_false] at this
    rcases this with rfl | rfl | rfl | rfl | rfl
    · exact ⟨[], rfl, Nat.le_of_ble_eq_true rfl, fun x hx => by cases hx⟩
    · exact ⟨[.int 1], rfl, Nat.le_of_ble_eq_true rfl, fun x hx => by simp only [List.mem_cons, List.not_mem_nil, or_false] at hx; exact ⟨_, hx⟩⟩
    · exact ⟨[.int 1, .int 2], rfl, Nat.le_of_ble_eq_true rfl, fun x hx => by simp only [List.mem_cons, List.not_mem_nil, or_false] at hx; rcases hx with rfl | rfl <;> exact ⟨_, rfl⟩⟩
    · exact ⟨[.int 2, .int 5], rfl, Nat.le_of_ble_eq_true rfl, fun x hx => by simp only [List.mem_cons, List.not_mem_nil, or_false] at hx; rcases hx with rfl | rfl <;> exact ⟨_, rfl⟩⟩
    · exact ⟨[.int 1, .int 3, .int 4], rfl, Nat.le_of_ble_eq_true rfl, fun x hx => by simp only [List.mem_cons, List.not_mem_nil, or_false] at hx; rcases hx with rfl | rfl | rfl <;> exact ⟨_, rfl⟩⟩
  have hok := ints_okI hints
  refine oo_ixL hrow ?_
  walk_at "pp"
  refine ask_bent ?_
  walk_at "pp"
  refine ee_lst ?_
  walk_at "pp"
  refine oo_powW ⟨by decide, by decide +kernel⟩ ?_
  walk_at "pp"
  refine ⟨l1, row, _, n + 1, rfl, rfl, hp1, by omega, by omega, Nat.le_of_ble_eq_true rfl, ints_cl hints, rfl, fun p ls hp3 hls hb => ?_⟩
  have hwr : ∀ l ∈ ls, WrL 2 2000 l := fun l hl => bent_wr (.inr (.inl rfl)) (by omega) hok (fun x hx => by
    simp only [List.mem_cons, List.not_mem_nil, or_false] at hx
    rcases hx with rfl | rfl | rfl | rfl | rfl | rfl | rfl | rfl <;> exact ⟨rfl, by decide⟩) (hb l hl)
  walk_at "pp"
  refine ee_lst ?_
  walk_at "pp"
  refine ee_open ?_
  walk_at "pp"
  refine ee_open ?_
  walk_at "pp"
  refine ee_open ?_
  walk_at "pp"
  refine ee_open ?_
  walk_at "pp"
  refine ee_open ?_
  walk_at "pp"
  refine ee_open ?_
  walk_at "pp"
  refine ee_open ?_
  walk_at "pp"
  refine oo_addL (by rw [hands_len]; exact Nat.le_of_ble_eq_true rfl) ?_
  walk_at "pp"
  refine ee_lst ?_
  walk_at "pp"
  refine cc_tuple (.lst _) ?_
  walk_at "pp"
  refine ee_dnew ?_
  walk_at "pp"
  refine ee_disp1 (k := .inl 1) (x := .int 2) ?_
  walk_at "pp"
  refine oo_addL (by rw [List.length_append, hands_len]; exact Nat.le_of_ble_eq_true rfl) ?_
  walk_at "gp"
  have hls : ls.length = 24 := hls
  refine gave_wrongM (k := 2) (t := (l, n)) (p := p) (ls := ls ++ sevenD) hS (by simp [sevenD]) (hp3.le (by show n + 1 + 1000 ≤ n + 10000; omega)) (by rw [List.length_append, List.length_append, hands_len]; exact Nat.le_of_ble_eq_true rfl) (fun l hl => ?_) fun x hx => ?_
  · rcases List.mem_append.mp hl with hl | hl
    · exact (hwr l hl).cl
    · exact (seven_wr l hl).cl
  · rcases List.mem_append.mp hx with hx | hx
    · rcases List.mem_append.mp hx with hx | hx
      · exact hands_wr' hls hwr x hx
      · have q : ∀ i l, sevenD[i]? = some l → Wr 2 2000 (.lst p :: (ls ++ sevenD).map Cell.lst) (.own (ls.length + i + 1)) := fun i l hi => own_at hi (seven_wr l (List.mem_of_getElem? hi))
        simp only [List.mem_cons, List.not_mem_nil, or_false] at hx
        rcases hx with rfl | rfl | rfl | rfl | rfl | rfl | rfl
        · have := q 0 _ rfl; simpa [hls] using this
        · have := q 1 _ rfl; simpa [hls] using this
        · have := q 2 _ rfl; simpa [hls] using this
        · have := q 3 _ rfl; simpa [hls] using this
        · have := q 4 _ rfl; simpa [hls] using this
        · have := q 5 _ rfl; simpa [hls] using this
        · have := q 6 _ rfl; simpa [hls] using this
    · simp only [List.mem_cons, List.not_mem_nil, or_false] at hx
      rcases hx with rfl | rfl | rfl | rfl | rfl | rfl | rfl | rfl
      · exact .inl (tup_wr (by omega) hok)
      all_goals exact .inl (by decide)
end


section
variable {P : Program} {w : World} {K : PySem.W.Frag} {mg : Str → Option Value} {base : Heap} {a : Ad} {f : Addr} {fd : FuncData}
def strOf : D → Str
  | .v (.str s) => s
  | _ => Str.empty
def One (x : D) : Prop := ∃ c : Nat, x = .str ⟨#[c]⟩
def hix : D → Nat
  | .own k => k - 1
  | _ => 0
def joinL (l : List D) : Str := Txt.join (Str.ofString "") (l.map strOf)
theorem ones_str {l : List D} (h : ∀ x ∈ l, One x) : l = (l.map strOf).map D.str := by
  rw [List.map_map]
  have e : l.map (D.str ∘ strOf) = l.map id := List.map_congr_left fun x hx => by
    obtain ⟨c, rfl⟩ := h x hx
    rfl
  rw [e, List.map_id]
theorem ones_size {l : List D} (h : ∀ x ∈ l, One x) : ((l.map strOf).map (·.length)).sum + (l.map strOf).length * (Str.ofString "").length = l.length := by
  have e : (Str.ofString "").length = 0 := by decide +kernel
  rw [e, Nat.mul_zero, Nat.add_zero]
  induction l with
  | nil => rfl
  | cons x l ih =>
    obtain ⟨c, rfl⟩ := h x List.mem_cons_self
    rw [List.map_cons, List.map_cons, List.sum_cons, ih fun y hy => h y (List.mem_cons_of_mem _ hy), List.length_cons]
    show 1 + _ = _
    omega
theorem cp_joinL (l : List D) : cp (joinL l) = ((l.map strOf).map cp).flatten := by
  have e : Str.ofString "" = Str.empty := by decide +kernel
  unfold joinL
  rw [e, join0]
theorem joinL_len {l : List D} (h : ∀ x ∈ l, One x) : (cp (joinL l)).length = l.length := by
  rw [cp_joinL]
  induction l with
  | nil => rfl
  | cons x l ih =>
    obtain ⟨c, rfl⟩ := h x List.mem_cons_self
    rw [List.map_cons, List.map_cons, List.flatten_cons, List.length_append, ih fun y hy => h y (List.mem_cons_of_mem _ hy), List.length_cons]
    show 1 + _ = _
    omega
theorem joinL_bad {l : List D} {c : Nat} (hx : D.str ⟨#[c]⟩ ∈ l) (hc : decide (c ∈ cp row64) = false) : isTextD (.str (joinL l)) = false := by
  show ((cp (joinL l)).all fun c => decide (c ∈ cp row64)) = false
  cases q : (cp (joinL l)).all fun c => decide (c ∈ cp row64) with
  | false => rfl
  | true =>
    have hm : c ∈ cp (joinL l) := by
      rw [cp_joinL]
      exact List.mem_flatten.mpr ⟨[c], List.mem_map.mpr ⟨⟨#[c]⟩, List.mem_map.mpr ⟨_, hx, rfl⟩, rfl⟩, List.mem_singleton.mpr rfl⟩
    have z := List.all_eq_true.mp q c hm
    rw [hc] at z
    cases z
theorem str_wr {s : Str} (hz : (cp s).length ≤ 100000) (h : isTextD (.str s) = false) : wrC 3 (.str s) = true := by
  show (true && (true && (true && (true && (!isTextD (.str s) && (true && decide ((cp s).length ≤ 100000))))))) = true
  rw [h, decide_eq_true hz]
  rfl
def someD : List D := ["a", "z", "`", "{", "|", "}", "\t", "\n", "m", "q"].map fun s => D.str (Str.ofString s)
theorem some_bad : ∀ x ∈ someD, ∃ c : Nat, x = .str ⟨#[c]⟩ ∧ decide (c ∈ cp row64) = false := fun x hx => by
  have hx : x ∈ [D.str (Str.ofString "a"), D.str (Str.ofString "z"), D.str (Str.ofString "`"), D.str (Str.ofString "{"), D.str (Str.ofString "|"), D.str (Str.ofString "}"), D.str (Str.ofString "\t"), D.str (Str.ofString "\n"), D.str (Str.ofString "m"), D.str (Str.ofString "q")] := hx
  simp only [List.mem_cons, List.not_mem_nil, or_false] at hx
  rcases hx with rfl | rfl | rfl | rfl | rfl | rfl | rfl | rfl | rfl | rfl
  · exact ⟨97, rfl, by decide +kernel⟩
  · exact ⟨122, rfl, by decide +kernel⟩
  · exact ⟨96, rfl, by decide +kernel⟩
  · exact ⟨123, rfl, by decide +kernel⟩
  · exact ⟨124, rfl, by decide +kernel⟩
  · exact ⟨125, rfl, by decide +kernel⟩
  · exact ⟨9, rfl, by decide +kernel⟩
  · exact ⟨10, rfl, by decide +kernel⟩
  · exact ⟨109, rfl, by decide +kernel⟩
  · exact ⟨113, rfl, by decide +kernel⟩
theorem ones_okI {l : List D} (h : ∀ x ∈ l, One x) : ∀ x ∈ l, okI x = true := fun x hx => by
  obtain ⟨c, rfl⟩ := h x hx
  rfl
theorem One.cl {x : D} (h : One x) : x.lt 0 = true := by
  obtain ⟨c, rfl⟩ := h
  rfl
abbrev st__law_wrong_texts : Stmt := top 41
abbrev nm__law_wrong_texts : List Str := ["purse", "row", "part", "some", "found", "one"]
theorem sc__law_wrong_texts : FnScope nm__law_wrong_texts ["purse"] (defScope st__law_wrong_texts) := ⟨rfl, rfl, rfl, by decide +kernel, rfl, by decide +kernel, by decide +kernel⟩
theorem ok_wrong_texts (F : Fun K "_law_wrong_texts" "_law_wrong_texts" st__law_wrong_texts f fd) (T : Tx P w K mg base a) (c__law_draw : CalX P w K mg base 2 "_law_draw" ["purse", "many"] (spDraw K)) (c__law_row : CalX P w K mg base 1 "_law_row" [] (spLRow K)) (c__law_bent : CalX P w K mg base 3 "_law_bent" ["purse", "row", "things"] (spBent K)) : FnOk P w K mg base (L2.CX P w) 4 f fd ["purse"] (spWrong K 3) := by
  refine F.okX sc__law_wrong_texts (fun vs H Q E h => pro_len h fun _ => rfl) (fun cdv A outer s H vs Q E hr h => ⟨_, (pss_cons (ps_setLc (i := 1) (own := [("part", 2)]) (tt := tYes) (g := (gName 2)) rfl sc__law_wrong_texts.nd rfl rfl (sw_true rfl rfl rfl (by decide +kernel)) (pi_range1 rfl T.b_range (pa_cons (pe_c c__law_draw hr (by first | decide | exact Nat.le_refl _) rfl (passes_call (takes_of rfl rfl rfl rfl) (fun _ _ _ _ h => h)) (pa_cons (pv 0) (pa_cons pe_int pa_nil))) pa_nil)) (blkOk_by (own := [("part", 2)]) (N := nm__law_wrong_texts) (sc := (defScope st__law_wrong_texts)) (by decide +kernel)) (fun _ _ _ _ _ => (pg_name (i := 2) sc__law_wrong_texts.nd rfl (by first | exact Or.inl rfl | exact Or.inr rfl))) (fun _ _ _ _ _ => pts_nil) (fun _ _ _ _ _ => (pe_ix (kX K rIx rfl ix_seq) (pe_c0 c__law_row hr (by first | decide | exact Nat.le_refl _) rfl passL) (pe_c c__law_draw hr (by first | decide | exact Nat.le_refl _) rfl passL (pa_cons (pv 0) (pa_cons pe_int pa_nil))) (fun _ _ => rfl))))
    (pss_cons (ps_set (i := 3) sc__law_wrong_texts.nd rfl (by first | exact Or.inl rfl | exact Or.inr rfl) (pe_lst (pa_cons pe_str (pa_cons pe_str (pa_cons pe_str (pa_cons pe_str (pa_cons pe_str (pa_cons pe_str (pa_cons pe_str (pa_cons pe_str (pa_cons pe_str (pa_cons pe_str pa_nil))))))))))))
    (pss_cons (ps_setLc (i := 4) (own := [("one", 5)]) (tt := tYes) (g := (gName 5)) rfl sc__law_wrong_texts.nd rfl rfl (sw_true rfl rfl rfl (by decide +kernel)) (pi_listK (K := K) rfl (pe_c c__law_bent hr (by first | decide | exact Nat.le_refl _) rfl (passes_call (takes_of rfl rfl rfl rfl) (fun _ _ _ _ h => h)) (pa_cons (pv 0) (pa_cons (pv 1) (pa_cons (pv 3) pa_nil))))) (blkOk_by (own := [("one", 5)]) (N := nm__law_wrong_texts) (sc := (defScope st__law_wrong_texts)) (by decide +kernel)) (fun _ _ _ _ _ => (pg_name (i := 5) sc__law_wrong_texts.nd rfl (by first | exact Or.inl rfl | exact Or.inr rfl))) (fun _ _ _ _ _ => pts_nil) (fun _ _ _ _ _ => (pe_joinK (K := K) rfl pe_str (pv 5))))
    (pss_one (ps_ret (pe_op (kO K rPlus rfl op_plus) (pv 4) (pe_lst (pa_cons (pe_op (kO K rPlus rfl op_plus) (pv 1) (pe_lst (pa_cons pe_str pa_nil))) (pa_cons (pe_callTy (kC K rTupOf rfl call_tupOf) (by rfl) T.b_tuple (by decide +kernel) (pa_cons (pv 1) pa_nil)) (pa_cons pe_non (pa_cons pe_int (pa_cons pe_dnewK (pa_cons (pe_disp (pps_cons pe_str pe_str pps_nil) (by rfl) (by rfl) (fun z => by cases z) (by decide)) (pa_cons pe_bl (pa_cons (pe_lst (pa_cons pe_str pa_nil)) (pa_cons (pe_tup (pa_cons pe_str pa_nil)) pa_nil)))))))))))))))), run_body h fun ⟨l, n⟩ S ⟨hp, hn⟩ hl hcl wi => ?_⟩)
  have hp : PuOk n l := hp
  have hn : n ≤ 150000000 := hn
  have hS : S.A.length = 1 := hl
  walk_at "pp"
  refine ee_lcW (n := n + 1) (c := 1) (Q := One) (fun _ h => h.cl) (ie_rng1 ?_)
  walk_at "pp"
  refine ee_cz1 0 ?_
  walk_at "pp"
  refine ⟨(l, 9, n), l, ⟨hp, by show (0 : Int) < 9; decide, by show (9 : Int) ≤ 1000000; decide, by show n ≤ 1000000000; omega⟩, rfl, hp.cl, rfl, hand1 rfl, fun d ν ⟨v, l1, hr, v0, v1, e3, hp1⟩ => ?_⟩
  subst hr
  have v1 : v < 9 := v1
  have hp1 : PuOk (n + 1) l1 := hp1
  refine ⟨rfl, l1, e3, hp1.cl, ?_⟩
  walk_at "pp"
  refine ⟨by omega, by omega, rfl, l1, rfl, hp1, by rw [rng_len]; omega, fun i x acc l2 hx hp2 => ?_, fun acc l2 hlen hq hp2 => ?_⟩
  · refine gw_name (by decide) ?_
    walk_at "pp"
    have hi := (rng_get hx).1
    refine ee_cz ?_
    walk_at "pp"
    refine ⟨(), trivial, rfl, rfl, ?_⟩
    rintro d rfl
    walk_at "pp"
    refine ee_cz1 0 ?_
    walk_at "pp"
    refine ⟨(l2, 64, n + 1 + 1 * i), l2, ⟨hp2, by show (0 : Int) < 64; decide, by show (64 : Int) ≤ 1000000; decide, by show n + 1 + 1 * i ≤ 1000000000; omega⟩, rfl, hp2.cl, rfl, hand1 rfl, fun d ν ⟨v, l3, hr, v0, v1, e3, hp3⟩ => ?_⟩
    subst hr
    refine ⟨rfl, l3, e3, hp3.cl, ?_⟩
    refine oo_ixS (s := row64) (by decide +kernel) (sgn_at v0 v1) ?_
    exact ⟨l3, rfl, ⟨_, rfl⟩, hp3⟩
  rw [rng_len] at hlen hp2
  have hz : acc.length ≤ 8 := by omega
  have hok := ones_okI hq
  have hp2 : PuOk (n + 100) l2 := hp2.le (by omega)
  walk_at "pp"
  refine ee_lst ?_
  walk_at "pp"
  refine ee_lc (ie_list ?_)
  refine ask_bent ?_
  walk_at "pp"
  refine ⟨l2, acc, someD, n + 100, rfl, rfl, hp2, by omega, by omega, Nat.le_of_ble_eq_true rfl, okd_all hok, rfl, fun p ls hp3 hls hb => ?_⟩
  have hls : ls.length = 30 := hls
  have hone : ∀ l ∈ ls, (∀ x ∈ l, One x) ∧ l.length ≤ 1000 ∧ isTextD (.str (joinL l)) = false := fun l hl => by
    obtain ⟨x, hx, k, hk, rfl⟩ := hb l hl
    obtain ⟨c, ec, hc⟩ := some_bad x hx
    refine ⟨fun y hy => ?_, ?_, ?_⟩
    · rcases List.mem_append.mp hy with hy | hy
      · exact hq y (List.mem_of_mem_take hy)
      · rcases List.mem_cons.mp hy with rfl | hy
        · exact ⟨c, ec⟩
        · exact hq y (List.mem_of_mem_drop hy)
    · rw [List.length_append, List.length_cons, List.length_take, List.length_drop]
      omega
    · subst ec
      exact joinL_bad (List.mem_append_right _ List.mem_cons_self) hc
  have hget : ∀ x ∈ hands 30, ∃ j l, x = .own (j + 1) ∧ ls[j]? = some l ∧ l ∈ ls ∧ ls.getD (hix x) [] = l := fun x hx => by
    obtain ⟨j, hj, rfl⟩ := List.mem_map.mp hx
    have hj := List.mem_range.mp hj
    have hlt : j < ls.length := by omega
    refine ⟨j, ls[j], rfl, List.getElem?_eq_getElem hlt, List.getElem_mem hlt, ?_⟩
    show ls.getD (j + 1 - 1) [] = _
    rw [Nat.add_sub_cancel, List.getD_eq_getElem?_getD, List.getElem?_eq_getElem hlt]
    rfl
  refine ⟨hands 30, .inl rfl, fun _ h => h, trivial, fun _ => true, fun x => .str (joinL (ls.getD (hix x) [])), by rw [hands_len]; decide, fun _ _ _ => rfl, fun x acc2 hx => ?_, ?_⟩
  · obtain ⟨j, m, rfl, hj, hm, hg⟩ := hget x hx
    obtain ⟨h1, h2, _⟩ := hone m hm
    refine gw_name (by decide) ?_
    refine et_yes ?_
    refine ⟨rfl, rfl, fun _ => ?_⟩
    walk_at "pp"
    refine ee_m1 ?_
    walk_at "pp"
    refine mm_join (ys := m.map strOf) ?_ (by rw [ones_size h1]; omega) ?_
    · rw [← ones_str h1]
      refine .own ?_
      show ((ls.map Cell.lst) ++ [Cell.lst acc2])[j]? = _
      rw [List.getElem?_append_left (by rw [List.length_map]; exact (List.getElem?_eq_some_iff.mp hj).1), List.getElem?_map, hj]
      rfl
    · refine ⟨?_, rfl⟩
      show D.str (joinL m) = D.str (joinL (ls.getD (hix (.own (j + 1))) []))
      rw [hg]
  rw [List.filter_eq_self.mpr fun _ _ => rfl]
  have hwr : ∀ x ∈ (hands 30).map fun x => D.str (joinL (ls.getD (hix x) [])), wrC 3 x = true := fun x hx => by
    obtain ⟨y, hy, rfl⟩ := List.mem_map.mp hx
    obtain ⟨j, m, rfl, hj, hm, hg⟩ := hget y hy
    obtain ⟨h1, h2, h3⟩ := hone m hm
    rw [hg]
    exact str_wr (by rw [joinL_len h1]; omega) h3
  have hwl : ((hands 30).map fun x => D.str (joinL (ls.getD (hix x) []))).length = 30 := by rw [List.length_map, hands_len]
  generalize (hands 30).map (fun x => D.str (joinL (ls.getD (hix x) []))) = texts at hwr hwl
  walk_at "pp"
  refine ee_lst ?_
  walk_at "pp"
  refine ee_lst ?_
  walk_at "pp"
  refine oo_addLO (by rw [List.length_singleton]; omega) ?_
  walk_at "pp"
  refine cc_tuple (.lst _) ?_
  walk_at "pp"
  refine ee_dnew ?_
  walk_at "pp"
  refine ee_disp1 (k := .inr (Str.ofString "A")) (x := .str (Str.ofString "A")) ?_
  walk_at "pp"
  refine ee_open ?_
  walk_at "pp"
  refine oo_addL (by rw [hwl]; exact Nat.le_of_ble_eq_true rfl) ?_
  walk_at "gp"
  have hA : One (.str (Str.ofString "A")) := ⟨65, rfl⟩
  have hokA : ∀ x ∈ acc ++ [.str (Str.ofString "A")], okI x = true := ones_okI fun x hx => by
    rcases List.mem_append.mp hx with hx | hx
    · exact hq x hx
    · rw [List.mem_singleton.mp hx]
      exact hA
  have w1 : WrL 3 2000 (acc ++ [.str (Str.ofString "A")]) := ⟨hokA, rfl, by rw [List.length_append]; show acc.length + 1 ≤ 2000; omega⟩
  have w2 : WrL 3 2000 [.str (Str.ofString "A")] := ⟨ones_okI fun x hx => by rw [List.mem_singleton.mp hx]; exact hA, rfl, Nat.le_of_ble_eq_true rfl⟩
  have hlc : ∀ l ∈ ls, D.ltL 0 l = true := fun l hl => okd_all (ones_okI (hone l hl).1)
  refine gave_wrongM (k := 3) (t := (l, n)) (p := p) (ls := ls ++ [acc ++ [.str (Str.ofString "A")], [.str (Str.ofString "A")]]) hS (by simp) (hp3.le (by show n + 100 + 1000 ≤ n + 10000; omega)) (by rw [List.length_append, hwl]; exact Nat.le_of_ble_eq_true rfl) (fun l hl => ?_) fun x hx => ?_
  · rcases List.mem_append.mp hl with hl | hl
    · exact hlc l hl
    · simp only [List.mem_cons, List.not_mem_nil, or_false] at hl
      rcases hl with rfl | rfl
      · exact w1.cl
      · exact w2.cl
  · rcases List.mem_append.mp hx with hx | hx
    · exact .inl (hwr x hx)
    · simp only [List.mem_cons, List.not_mem_nil, or_false] at hx
      rcases hx with rfl | rfl | rfl | rfl | rfl | rfl | rfl | rfl | rfl
      · have q := own_at (k := 3) (p := p) (ls := ls) (ms := [acc ++ [.str (Str.ofString "A")], [.str (Str.ofString "A")]]) (i := 0) rfl w1
        simpa [hls] using q
      · exact .inl (tup_wr (by omega) hok)
      · exact .inl (by decide)
      · exact .inl (by decide)
      · exact .inl (by decide)
      · exact .inl (by decide)
      · exact .inl (by decide)
      · have q := own_at (k := 3) (p := p) (ls := ls) (ms := [acc ++ [.str (Str.ofString "A")], [.str (Str.ofString "A")]]) (i := 1) rfl w2
        simpa [hls] using q
      · exact .inl (by decide)
end


section
variable {P : Program} {w : World} {K : PySem.W.Frag} {mg : Str → Option Value} {base : Heap} {a : Ad} {f : Addr} {fd : FuncData}
theorem Wr.more {k B j : Nat} {μ : List Cell} {x : D} {l : List D} (hj : μ[j]? = some (.lst l)) (h : Wr k B μ x) : Wr k (B + 1) (μ.set j (.lst (l ++ [moreS]))) x := by
  rcases h with h | ⟨i, m, rfl, hi, hm⟩
  · exact .inl h
  · by_cases e : i + 1 = j
    · subst e
      rw [hj] at hi
      cases hi
      refine .inr ⟨i, l ++ [moreS], rfl, ?_, hm.more⟩
      rw [List.getElem?_set_self (List.getElem?_eq_some_iff.mp hj).1]
    · refine .inr ⟨i, m, rfl, ?_, hm.le (Nat.le_succ _)⟩
      rw [List.getElem?_set_ne (fun z => e z.symm)]
      exact hi
/-- a lot: the def, its wrong things, its error's kind -/
def LotOk (a : Ad) (B : Nat) (μ : List Cell) (t : D) : Prop := ∃ (f : Addr) (xs : List D) (k : Nat), t = .tup [.v (.ref f), .lst xs, .int (k : Int)] ∧ xs.length ≤ 1000 ∧ (k = 0 ∨ k = 1 ∨ k = 2 ∨ k = 3) ∧ (∀ e, isK k e = false → BadAt a k f e) ∧ ∀ x ∈ xs, Wr k B μ x
theorem LotOk.more {B j : Nat} {μ : List Cell} {t : D} {l : List D} (hj : μ[j]? = some (.lst l)) (h : LotOk a B μ t) : LotOk a (B + 1) (μ.set j (.lst (l ++ [moreS]))) t := by
  obtain ⟨f, xs, k, e, hz, hk, hb, hx⟩ := h
  exact ⟨f, xs, k, e, hz, hk, hb, fun x h => (hx x h).more hj⟩
theorem LotOk.le {B C : Nat} {μ : List Cell} {t : D} (h : LotOk a B μ t) (hB : B ≤ C) : LotOk a C μ t := by
  obtain ⟨f, xs, k, e, hz, hk, hb, hx⟩ := h
  exact ⟨f, xs, k, e, hz, hk, hb, fun x h => (hx x h).le hB⟩
section
variable {S : Bs} {δ : Sl} {μ : List Cell} {C : D → List Cell → Prop} {ta : TA} {E : XK}
theorem ask_heard0 (h : EA K S ta δ μ fun ds μ1 => ∃ (n : Nat) (f : Addr) (x : D), ds = [.v (.ref f), x] ∧ x.lt 0 = true ∧ Thing a n f (x, [], x) ∧ C (heardD n) μ1) : EE K S (tCall (spHeard K a) [] E ta) δ μ C :=
  ee_callG (CE := fun _ _ _ => False) [] Wi.none fun A G H σ a' Q q => h A G H σ a' Q fun vs ds A1 G1 H1 μ1 m n r ⟨n, f, x, e1, hd, ht, hc⟩ => q vs ds A1 G1 H1 μ1 m (by assumption) r (by
    subst e1
    have hl : D.ltL 0 [.v (.ref f), x] = true := by show (true && (x.lt 0 && true)) = true; rw [hd]; rfl
    refine ⟨(n, f, x, [], x), ht, List.nodup_nil, fun k hk => (by cases hk), rfl, rfl, hsL_cl hl, by rw [renL_cl hl]; rfl, fun r ν n' ⟨e1, e2⟩ _ _ _ _ => ?_, fun cc r ν z _ _ _ => z⟩
    have e1 : r = heardD n := e1
    have e2 : ν = [] := e2
    subst e1 e2
    rw [ren_cl (show (heardD n).lt 0 = true from rfl)]
    show C _ (μ1 ++ [])
    rw [List.append_nil]
    exact hc)
theorem ask_heard1 (k : Nat) (h : EA K S ta δ μ fun ds μ1 => ∃ (n : Nat) (f : Addr) (l : List D), ds = [.v (.ref f), .own k] ∧ μ1[k]? = some (.lst l) ∧ D.ltL 0 l = true ∧ Thing a n f (.own 0, [.lst l], .lst l) ∧ C (heardD n) (μ1.set k (.lst (l ++ [moreS])))) : EE K S (tCall (spHeard K a) [] E ta) δ μ C :=
  ee_cz1 k fun A G H σ a' Q q => h A G H σ a' Q fun vs ds A1 G1 H1 μ1 m n r ⟨n, f, l, e1, hk, hl, ht, hc⟩ => q vs ds A1 G1 H1 μ1 m (by assumption) r (by
    subst e1
    refine ⟨(n, f, .own 0, [.lst l], .lst l), l, ht, rfl, hl, hk, .cons (.inr ⟨rfl, rfl⟩) (.cons (.inl ⟨rfl, rfl⟩) .nil), fun r ν ⟨e1, e2⟩ => ?_⟩
    have e1 : r = heardD n := e1
    subst e1
    refine ⟨rfl, l ++ [moreS], e2, D.ltL_all.mpr fun x hx => ?_, hc⟩
    rcases List.mem_append.mp hx with hx | hx
    · exact D.ltL_all.mp hl x hx
    · rw [List.mem_singleton.mp hx]
      rfl)
theorem heard_ne {k : Nat} (hk : k = 0 ∨ k = 1 ∨ k = 2 ∨ k = 3) (c : C (.bl false) μ) : OO K S (rNeU K) (heardD k) (.lst [.lst [.bl (decide (k = 0)), .bl (decide (k = 1)), .bl (decide (k = 2)), .bl (decide (k = 3)), .bl (decide (k = 4))], .bl true]) μ C := by
  rcases hk with rfl | rfl | rfl | rfl
  · exact oo_neD (p := .list [.list [.bool true, .bool false, .bool false, .bool false, .bool false], .bool true]) (q := .list [.list [.bool true, .bool false, .bool false, .bool false, .bool false], .bool true]) rfl rfl rfl rfl c
  · exact oo_neD (p := .list [.list [.bool false, .bool true, .bool false, .bool false, .bool false], .bool true]) (q := .list [.list [.bool false, .bool true, .bool false, .bool false, .bool false], .bool true]) rfl rfl rfl rfl c
  · exact oo_neD (p := .list [.list [.bool false, .bool false, .bool true, .bool false, .bool false], .bool true]) (q := .list [.list [.bool false, .bool false, .bool true, .bool false, .bool false], .bool true]) rfl rfl rfl rfl c
  · exact oo_neD (p := .list [.list [.bool false, .bool false, .bool false, .bool true, .bool false], .bool true]) (q := .list [.list [.bool false, .bool false, .bool false, .bool true, .bool false], .bool true]) rfl rfl rfl rfl c
end
theorem kinds_row {k : Nat} (hk : k = 0 ∨ k = 1 ∨ k = 2 ∨ k = 3) : ((rng 0 (5 : Int).toNat).filter fun _ => true).map (fun x => D.bl (decide ((k : Int) = dotI x))) = [.bl (decide (k = 0)), .bl (decide (k = 1)), .bl (decide (k = 2)), .bl (decide (k = 3)), .bl (decide (k = 4))] := by
  rcases hk with rfl | rfl | rfl | rfl <;> rfl
abbrev st__law_wrong_right : Stmt := top 42
abbrev nm__law_wrong_right : List Str := ["purse", "lots", "call", "things", "kind", "thing", "at"]
theorem sc__law_wrong_right : FnScope nm__law_wrong_right ["purse"] (defScope st__law_wrong_right) := ⟨rfl, rfl, rfl, by decide +kernel, rfl, by decide +kernel, by decide +kernel⟩
theorem ok_wrong_right (F : Fun K "_law_wrong_right" "_law_wrong_right" st__law_wrong_right f fd) (T : Tx P w K mg base a) (c__law_wrong_cells : CalX P w K mg base 4 "_law_wrong_cells" ["purse"] (spWrong K 1)) (c__law_wrong_dots : CalX P w K mg base 4 "_law_wrong_dots" ["purse"] (spWrong K 2)) (c__law_wrong_texts : CalX P w K mg base 4 "_law_wrong_texts" ["purse"] (spWrong K 3))
    (c__law_heard : CalX P w K mg base 8 "_law_heard" ["call", "thing"] (spHeard K a)) : FnOk P w K mg base (L2.CX P w) 9 f fd ["purse"] (spPursed K) := by
  refine F.okX sc__law_wrong_right (fun vs H Q E h => pro_len h fun _ => rfl) (fun cdv A outer s H vs Q E hr h => ⟨_, (pss_cons (ps_set (i := 1) sc__law_wrong_right.nd rfl (by first | exact Or.inl rfl | exact Or.inr rfl) (pe_lst (pa_cons (pe_tup (pa_cons (pe_glob (v := .ref a.fdots_of) rfl T.f_dots_of rfl) (pa_cons (pe_lst (pa_cons pe_int (pa_cons (pe_un un_neg pe_int) (pa_cons pe_bl (pa_cons pe_bl (pa_cons pe_non (pa_cons pe_str (pa_cons (pe_lst (pa_cons pe_int pa_nil)) (pa_cons (pe_tup (pa_cons pe_int pa_nil)) (pa_cons pe_dnewK (pa_cons (pe_op op_sub (pe_op op_powW pe_int pe_int) pe_int) (pa_cons (pe_lst pa_nil) (pa_cons (pe_tup pa_nil) pa_nil))))))))))))) (pa_cons pe_int pa_nil)))) pa_nil)))
    (pss_cons (ps_set (i := 1) sc__law_wrong_right.nd rfl (by first | exact Or.inl rfl | exact Or.inr rfl) (pe_op (kO K rPlus rfl op_plus) (pv 1) (pe_lst (pa_cons (pe_tup (pa_cons (pe_glob (v := .ref a.fcells_text) rfl T.f_cells_text rfl) (pa_cons (pe_c c__law_wrong_cells hr (by first | decide | exact Nat.le_refl _) rfl (passes_call (takes_of rfl rfl rfl rfl) (fun _ _ _ _ h => h)) (pa_cons (pv 0) pa_nil)) (pa_cons pe_int pa_nil)))) (pa_cons (pe_tup (pa_cons (pe_glob (v := .ref a.ffrom_behind) rfl T.f_from_behind rfl) (pa_cons (pe_c c__law_wrong_cells hr (by first | decide | exact Nat.le_refl _) rfl (passes_call (takes_of rfl rfl rfl rfl) (fun _ _ _ _ h => h)) (pa_cons (pv 0) pa_nil)) (pa_cons pe_int pa_nil)))) pa_nil)))))
    (pss_cons (ps_set (i := 1) sc__law_wrong_right.nd rfl (by first | exact Or.inl rfl | exact Or.inr rfl) (pe_op (kO K rPlus rfl op_plus) (pv 1) (pe_lst (pa_cons (pe_tup (pa_cons (pe_glob (v := .ref a.fcell_of) rfl T.f_cell_of rfl) (pa_cons (pe_c c__law_wrong_dots hr (by first | decide | exact Nat.le_refl _) rfl (passes_call (takes_of rfl rfl rfl rfl) (fun _ _ _ _ h => h)) (pa_cons (pv 0) pa_nil)) (pa_cons pe_int pa_nil)))) (pa_cons (pe_tup (pa_cons (pe_glob (v := .ref a.fcells_of_text) rfl T.f_cells_of_text rfl) (pa_cons (pe_c c__law_wrong_texts hr (by first | decide | exact Nat.le_refl _) rfl (passes_call (takes_of rfl rfl rfl rfl) (fun _ _ _ _ h => h)) (pa_cons (pv 0) pa_nil)) (pa_cons pe_int pa_nil)))) pa_nil)))))
    (pss_cons (ps_for (passes_of rfl) rfl (pi_listK (K := K) rfl (pv 1)) (pg_tupK (K := K) rfl rfl (pgs_cons (pg_name (i := 2) sc__law_wrong_right.nd rfl (by first | exact Or.inl rfl | exact Or.inr rfl)) (pgs_cons (pg_name (i := 3) sc__law_wrong_right.nd rfl (by first | exact Or.inl rfl | exact Or.inr rfl)) (pgs_cons (pg_name (i := 4) sc__law_wrong_right.nd rfl (by first | exact Or.inl rfl | exact Or.inr rfl)) pgs_nil))))
      (pss_one (ps_for (passes_of rfl) rfl (pi_listK (K := K) rfl (pv 3)) (pg_name (i := 5) sc__law_wrong_right.nd rfl (by first | exact Or.inl rfl | exact Or.inr rfl))
      (pss_one (ps_if (pt_cmpR (kO K rNeU rfl (op_neU (hu64 hr))) (pe_c c__law_heard hr (by first | decide | exact Nat.le_refl _) rfl (passes_call (takes_of rfl rfl rfl rfl) (fun _ _ _ _ h => h)) (pa_cons (pv 2) (pa_cons (pv 5) pa_nil))) (pe_lst (pa_cons (pe_lc (own := [("at", 6)]) (tt := tYes) (g := (gName 6)) rfl sc__law_wrong_right.nd (pi_range1 rfl T.b_range (pa_cons pe_int pa_nil)) (blkOk_by (own := [("at", 6)]) (N := nm__law_wrong_right) (sc := (defScope st__law_wrong_right)) (by decide +kernel)) (fun _ _ _ _ _ => (pg_name (i := 6) sc__law_wrong_right.nd rfl (by first | exact Or.inl rfl | exact Or.inr rfl))) (fun _ _ _ _ _ => pts_nil) (fun _ _ _ _ _ => (pe_cmpR (kO K rEqU rfl (op_eqU (hu64 hr))) (pv 4) (pv 6) (nomark _)))) (pa_cons pe_bl pa_nil))) (nomark _)) (pss_one (ps_ret pe_bl)) pss_nil)))))
    (pss_one (ps_ret pe_bl)))))), run_body h fun ⟨l, n⟩ S ⟨hp, hn⟩ hl hcl wi => ?_⟩)
  have hp : PuOk n l := hp
  have hn : n ≤ 100000000 := hn
  have hS : S.A.length = 1 := hl
  walk_at "pp"
  refine ee_lst ?_
  walk_at "pp"
  refine ee_lst ?_
  walk_at "pp"
  refine ee_open ?_
  walk_at "pp"
  refine ee_dnew ?_
  walk_at "pp"
  refine oo_powW ⟨by decide, by decide +kernel⟩ ?_
  walk_at "pp"
  refine ee_open ?_
  walk_at "pp"
  refine ee_lst ?_
  walk_at "pp"
  refine ask_wrong ?_
  walk_at "pp"
  refine ⟨l, _, n, rfl, rfl, hp, by omega, fun xs1 p1 ν1 hp1 hz1 hw1 => ?_⟩
  walk_at "pp"
  refine ask_wrong ?_
  walk_at "pp"
  refine ⟨p1, _, n + 10000, rfl, rfl, hp1, by omega, fun xs2 p2 ν2 hp2 hz2 hw2 => ?_⟩
  walk_at "pp"
  refine oo_addL (Nat.le_of_ble_eq_true rfl) ?_
  walk_at "pp"
  refine ee_lst ?_
  walk_at "pp"
  refine ask_wrong ?_
  walk_at "pp"
  refine ⟨p2, _, n + 10000 + 10000, rfl, rfl, hp2, by omega, fun xs3 p3 ν3 hp3 hz3 hw3 => ?_⟩
  walk_at "pp"
  refine ask_wrong ?_
  walk_at "pp"
  refine ⟨p3, _, n + 10000 + 10000 + 10000, rfl, rfl, hp3, by omega, fun xs4 p4 ν4 hp4 hz4 hw4 => ?_⟩
  walk_at "pp"
  refine oo_addL (Nat.le_of_ble_eq_true rfl) ?_
  obtain ⟨L, hL⟩ : ∃ L : List D, L = ([D.tup [D.v (V.ref a.fdots_of), D.lst [D.v (V.int 64), D.int (-1), D.v (V.bl true), D.v (V.bl false), D.v V.non, D.v (V.str (Str.ofString "1")), D.own 1, D.tup [D.v (V.int 1)], D.dic [] [], D.v (V.int (10 ^ Int.toNat 12 - 1)), D.own 2, D.tup []], D.v (V.int 0)]] ++
      [D.tup [D.v (V.ref a.fcells_text), D.lst xs1, D.v (V.int 1)], D.tup [D.v (V.ref a.ffrom_behind), D.lst xs2, D.v (V.int 1)]] ++ [D.tup [D.v (V.ref a.fcell_of), D.lst xs3, D.v (V.int 2)], D.tup [D.v (V.ref a.fcells_of_text), D.lst xs4, D.v (V.int 3)]]) := ⟨_, rfl⟩
  have hlen : L.length = 5 := by rw [hL]; rfl
  have hall : ∀ t ∈ L, LotOk a 2000 (Cell.lst p4 :: (([].append [Cell.lst [D.v (V.int 1)]]).append [Cell.lst []] ++ ν1 ++ ν2 ++ ν3 ++ ν4)) t := fun t ht => by
    rw [hL] at ht
    simp only [List.cons_append, List.nil_append, List.mem_cons, List.not_mem_nil, or_false] at ht
    rcases ht with rfl | rfl | rfl | rfl | rfl
    · refine ⟨_, _, 0, rfl, Nat.le_of_ble_eq_true rfl, .inl rfl, fun e he => .inl ⟨rfl, rfl, he⟩, fun x hx => ?_⟩
      simp only [List.mem_cons, List.not_mem_nil, or_false] at hx
      rcases hx with rfl | rfl | rfl | rfl | rfl | rfl | rfl | rfl | rfl | rfl | rfl | rfl
      case inr.inr.inr.inr.inr.inr.inl => exact .inr ⟨0, [.int 1], rfl, rfl, ints_okI (fun x hx => ⟨1, List.mem_singleton.mp hx⟩), rfl, Nat.le_of_ble_eq_true rfl⟩
      case inr.inr.inr.inr.inr.inr.inr.inr.inr.inr.inl => exact .inr ⟨1, [], rfl, rfl, fun x hx => (by cases hx), rfl, Nat.le_of_ble_eq_true rfl⟩
      all_goals exact .inl (by decide)
    · exact ⟨_, _, 1, rfl, hz1, .inr (.inl rfl), fun e he => .inr (.inl ⟨rfl, .inl rfl, he⟩), fun x hx => (((hw1 x hx).app (c' := .lst p2) (ν := ν2)).app (c' := .lst p3) (ν := ν3)).app⟩
    · exact ⟨_, _, 1, rfl, hz2, .inr (.inl rfl), fun e he => .inr (.inl ⟨rfl, .inr rfl, he⟩), fun x hx => ((hw2 x hx).app (c' := .lst p3) (ν := ν3)).app⟩
    · exact ⟨_, _, 2, rfl, hz3, .inr (.inr (.inl rfl)), fun e he => .inr (.inr (.inl ⟨rfl, rfl, he⟩)), fun x hx => (hw3 x hx).app⟩
    · exact ⟨_, _, 3, rfl, hz4, .inr (.inr (.inr rfl)), fun e he => .inr (.inr (.inr ⟨rfl, rfl, he⟩)), hw4⟩
  have hp5 : PuOk (n + 100000) p4 := hp4.le (by omega)
  walk_at "pp"
  refine se_for (ie_list ?_)
  walk_at "pp"
  refine ⟨L, .inl (by rw [hL]; rfl), ?_⟩
  refine ⟨rfl, fun i δ μ => ∃ (p : List D) (ρ : List Cell) (x1 x2 x3 x4 x5 : Option D), δ = [some (.own 0), some (.lst L), x1, x2, x3, x4, x5] ∧ μ = .lst p :: ρ ∧ PuOk (n + 100000) p ∧ ∀ t ∈ L, LotOk a (2000 + 1000 * i) μ t, ⟨p4, _, none, none, none, none, none, by rw [hL]; rfl, rfl, hp5, hall⟩, ?_, ?_⟩
  · rintro i x δ μ hi ⟨p, ρ, x1, x2, x3, x4, x5, rfl, rfl, hp6, hlot⟩
    have hi5 := (List.getElem?_eq_some_iff.mp hi).1
    obtain ⟨g, xs, k, rfl, hz, hk, hbad, hxs⟩ := hlot x (List.mem_of_getElem? hi)
    refine ge_three ?_
    walk_at "pp"
    refine se_for (ie_list ?_)
    walk_at "pp"
    refine ⟨xs, .inl rfl, ?_⟩
    refine ⟨rfl, fun j δ μ => ∃ (p : List D) (ρ : List Cell) (x4 x5 : Option D), δ = [some (.own 0), some (.lst L), some (.v (.ref g)), some (.lst xs), some (.int (k : Int)), x4, x5] ∧ μ = .lst p :: ρ ∧ PuOk (n + 100000) p ∧ (∀ t ∈ L, LotOk a (2000 + 1000 * i + j) μ t) ∧ ∀ x ∈ xs, Wr k (2000 + 1000 * i + j) μ x, ⟨p, ρ, x4, x5, rfl, rfl, hp6, hlot, hxs⟩, ?_, ?_⟩
    · rintro j x δ μ hj ⟨p, ρ, x4, x5, rfl, rfl, hp7, hlot, hxs⟩
      have hjl := (List.getElem?_eq_some_iff.mp hj).1
      have hx := hxs x (List.mem_of_getElem? hj)
      walk_at "pp"
      rcases hx with hx | ⟨m, l, rfl, hm, hw⟩
      · refine ask_heard0 ?_
        walk_at "pp"
        refine ⟨k, g, x, rfl, wrC_cl hx, wrC_thing hx (hbad x), ?_⟩
        walk_at "pp"
        refine ee_lst ?_
        walk_at "pp"
        refine ee_lc (ie_rng1 ?_)
        walk_at "pp"
        refine ⟨by decide, by decide, fun _ h => h, trivial, fun _ => true, fun x => .bl (decide ((k : Int) = dotI x)), by decide, fun _ _ _ => rfl, fun y acc hy => ?_, ?_⟩
        · obtain ⟨q, hq⟩ := List.getElem?_of_mem hy
          obtain ⟨hq5, rfl⟩ := rng_get hq
          refine gw_name (by decide) ?_
          refine et_yes ?_
          refine ⟨rfl, rfl, fun _ => ?_⟩
          walk_at "pp"
          refine ⟨?_, rfl⟩
          show D.bl (decide (V.int (k : Int) = V.int (0 + (q : Int)))) = D.bl (decide ((k : Int) = 0 + (q : Int)))
          exact congrArg D.bl (decide_eq_decide.mpr ⟨fun h => by injection h, fun h => by rw [h]⟩)
        rw [kinds_row hk]
        walk_at "pp"
        refine heard_ne hk ?_
        walk_at "pp"
        exact ⟨p, ρ, _, _, rfl, rfl, hp7, fun t ht => (hlot t ht).le (by omega), fun x hx => (hxs x hx).le (by omega)⟩
      · refine ask_heard1 (m + 1) ?_
        walk_at "pp"
        refine ⟨k, g, l, rfl, hm, hw.cl, hw.thing (by omega) (hbad _), ?_⟩
        walk_at "pp"
        refine ee_lst ?_
        walk_at "pp"
        refine ee_lc (ie_rng1 ?_)
        walk_at "pp"
        refine ⟨by decide, by decide, fun _ h => h, trivial, fun _ => true, fun x => .bl (decide ((k : Int) = dotI x)), by decide, fun _ _ _ => rfl, fun y acc hy => ?_, ?_⟩
        · obtain ⟨q, hq⟩ := List.getElem?_of_mem hy
          obtain ⟨hq5, rfl⟩ := rng_get hq
          refine gw_name (by decide) ?_
          refine et_yes ?_
          refine ⟨rfl, rfl, fun _ => ?_⟩
          walk_at "pp"
          refine ⟨?_, rfl⟩
          show D.bl (decide (V.int (k : Int) = V.int (0 + (q : Int)))) = D.bl (decide ((k : Int) = 0 + (q : Int)))
          exact congrArg D.bl (decide_eq_decide.mpr ⟨fun h => by injection h, fun h => by rw [h]⟩)
        rw [kinds_row hk]
        walk_at "pp"
        refine heard_ne hk ?_
        walk_at "pp"
        exact ⟨p, ρ.set m (.lst (l ++ [moreS])), _, _, rfl, rfl, hp7, fun t ht => (hlot t ht).more hm, fun x hx => (hxs x hx).more hm⟩
    · rintro δ μ ⟨p, ρ, x4, x5, rfl, rfl, hp7, hlot, hxs⟩
      walk_at "pp"
      exact ⟨p, ρ, _, _, _, _, _, rfl, rfl, hp7, fun t ht => (hlot t ht).le (by omega)⟩
  · rintro δ μ ⟨p, ρ, x1, x2, x3, x4, x5, rfl, rfl, hp6, hlot⟩
    walk_at "pp"
    walk_at "gp"
    exact gave_pursed (t := (l, n)) hS hp6
end


section
variable {P : Program} {w : World} {K : PySem.W.Frag} {mg : Str → Option Value} {base : Heap} {a : Ad} {f : Addr} {fd : FuncData}
section
variable {S : Bs} {δ : Sl} {μ : List Cell} {C : D → List Cell → Prop} {ta : TA} {E : XK}
theorem ask_pursed (k : Nat) (h : EA K S ta δ μ fun ds μ1 => ∃ (l : List D) (n : Nat), ds = [.own k] ∧ μ1[k]? = some (.lst l) ∧ PuOk n l ∧ n ≤ 100000000 ∧ ∀ l', PuOk (n + 100000) l' → C (.bl true) (μ1.set k (.lst l'))) : EE K S (tCall (spPursed K) [] E ta) δ μ C :=
  ee_cz1 k fun A G H σ a' Q q => h A G H σ a' Q fun vs ds A1 G1 H1 μ1 m n r ⟨l, c, e1, hk, hp, hc, hC⟩ => q vs ds A1 G1 H1 μ1 m (by assumption) r (by
    subst e1
    refine ⟨(l, c), l, ⟨hp, hc⟩, rfl, hp.cl, hk, hand1 rfl, fun r ν ⟨e1, l', e2, hp2⟩ => ?_⟩
    subst e1
    exact ⟨rfl, l', e2, hp2.cl, hC l' hp2⟩)
end
abbrev st_law : Stmt := top 43
abbrev nm_law : List Str := ["script", "cell", "at", "purse"]
theorem sc_law : FnScope nm_law ["script"] (defScope st_law) := ⟨rfl, rfl, rfl, by decide +kernel, rfl, by decide +kernel, by decide +kernel⟩
theorem ok_law (F : Fun K "law" "law" st_law f fd) (T : Tx P w K mg base a) (c__law_cell_right : CalX P w K mg base 9 "_law_cell_right" ["cell"] (spCellRight K)) (c__law_purse : CalX P w K mg base 1 "_law_purse" ["script", "at"] (spPurse K)) (c__law_list_right : CalX P w K mg base 9 "_law_list_right" ["purse"] (spPursed K))
    (c__law_dots_right : CalX P w K mg base 9 "_law_dots_right" ["purse"] (spPursed K)) (c__law_wrong_right : CalX P w K mg base 9 "_law_wrong_right" ["purse"] (spPursed K)) : FnOk P w K mg base (L2.CX P w) 10 f fd ["script"] (spLaw K) := by
  refine F.okX sc_law (fun vs H Q E h => pro_len h fun _ => rfl) (fun cdv A outer s H vs Q E hr h => ⟨_, (pss_cons (ps_if (pt_cmpR (kO K rNeU rfl (op_neU (hu64 hr))) (pe_lc (own := [("cell", 1)]) (g := (gName 1)) rfl sc_law.nd (pi_range1 rfl T.b_range (pa_cons pe_int pa_nil)) (blkOk_by (own := [("cell", 1)]) (N := nm_law) (sc := (defScope st_law)) (by decide +kernel)) (fun _ _ _ _ _ => (pg_name (i := 1) sc_law.nd rfl (by first | exact Or.inl rfl | exact Or.inr rfl))) (fun _ _ _ _ _ => (pts_one (pt_not (pt_val (pe_c c__law_cell_right hr (by first | decide | exact Nat.le_refl _) rfl passL (pa_cons (pv 1) pa_nil)))))) (fun _ _ _ _ _ => (pv 1))) (pe_lst pa_nil) (nomark _)) (pss_one (ps_ret pe_bl)) pss_nil)
    (pss_cons (ps_for (passes_of rfl) rfl (pi_range1 rfl T.b_range (pa_cons (pe_callB (call_max2 rfl) (by rfl) T.b_max (by decide +kernel) (pa_cons pe_int (pa_cons (pe_callB (call_min2 rfl) (by rfl) T.b_min (by decide +kernel) (pa_cons (pe_callB (kC K rLenU rfl call_lenU) (by rfl) T.b_len (by decide +kernel) (pa_cons (pv 0) pa_nil)) (pa_cons pe_int pa_nil))) pa_nil))) pa_nil)) (pg_name (i := 2) sc_law.nd rfl (by first | exact Or.inl rfl | exact Or.inr rfl))
      (pss_cons (ps_set (i := 3) sc_law.nd rfl (by first | exact Or.inl rfl | exact Or.inr rfl) (pe_c c__law_purse hr (by first | decide | exact Nat.le_refl _) rfl (passes_call (takes_of rfl rfl rfl rfl) (fun _ _ _ _ h => h)) (pa_cons (pv 0) (pa_cons (pv 2) pa_nil))))
    (pss_one (ps_if (PW.pt (pw_or (pt_not (pt_val (pe_c c__law_list_right hr (by first | decide | exact Nat.le_refl _) rfl (passes_call (takes_of rfl rfl rfl rfl) (fun _ _ _ _ h => h)) (pa_cons (pv 3) pa_nil)))) (pw_or (pt_not (pt_val (pe_c c__law_dots_right hr (by first | decide | exact Nat.le_refl _) rfl (passes_call (takes_of rfl rfl rfl rfl) (fun _ _ _ _ h => h)) (pa_cons (pv 3) pa_nil)))) (pw_or1 (pt_not (pt_val (pe_c c__law_wrong_right hr (by first | decide | exact Nat.le_refl _) rfl (passes_call (takes_of rfl rfl rfl rfl) (fun _ _ _ _ h => h)) (pa_cons (pv 3) pa_nil)))))))) (pss_one (ps_ret pe_bl)) pss_nil))))
    (pss_one (ps_ret pe_bl)))), run_body h fun ns S hz hl hcl wi => ?_⟩)
  have hl : S.A.length = 0 := hl
  have hz : ns.length ≤ 63 := hz
  walk_at "pp"
  refine ee_lc (ie_rng1 ?_)
  walk_at "pp"
  refine ⟨by decide, by decide, fun _ h => h, trivial, fun _ => false, fun x => x, by decide, fun x _ h => (by cases h), fun x acc hx => ?_, ?_⟩
  · obtain ⟨k, hk⟩ := List.getElem?_of_mem hx
    obtain ⟨hk64, rfl⟩ := rng_get hk
    have hk64 : k < 64 := hk64
    refine gw_name (by decide) ?_
    walk_at "pp"
    refine ee_cz ?_
    walk_at "pp"
    refine ⟨0 + (k : Int), ⟨by omega, by omega⟩, rfl, rfl, ?_⟩
    rintro d rfl
    refine ⟨_, rfl, rfl, rfl, fun z => (by cases z)⟩
  have e : (rng 0 (64 : Int).toNat).filter (fun _ => false) = [] := List.filter_eq_nil_iff.mpr fun _ _ => Bool.false_ne_true
  rw [e]
  walk_at "pp"
  refine ee_lst ?_
  walk_at "pp"
  refine oo_neD (p := .list []) (q := .list []) rfl rfl rfl rfl ?_
  walk_at "pp"
  refine se_for (ie_rng1 ?_)
  walk_at "pp"
  refine cc_len (.rd _) ?_
  rw [List.length_map]
  walk_at "pp"
  have hb : 0 ≤ (if (if (3 : Int) < (ns.length : Int) then (3 : Int) else (ns.length : Int)) > 1 then (if (3 : Int) < (ns.length : Int) then (3 : Int) else (ns.length : Int)) else 1) ∧ (if (if (3 : Int) < (ns.length : Int) then (3 : Int) else (ns.length : Int)) > 1 then (if (3 : Int) < (ns.length : Int) then (3 : Int) else (ns.length : Int)) else 1) ≤ 3 := by
    split <;> split <;> omega
  generalize (if (if (3 : Int) < (ns.length : Int) then (3 : Int) else (ns.length : Int)) > 1 then (if (3 : Int) < (ns.length : Int) then (3 : Int) else (ns.length : Int)) else 1) = z at hb
  refine ⟨by omega, by omega, ?_⟩
  refine ⟨rfl, fun i δ μ => ∃ x y, δ = [some (.rd (ns.map D.int)), none, x, y], ⟨none, none, rfl⟩, ?_, ?_⟩
  · rintro i x δ μ hi ⟨x0, y0, rfl⟩
    obtain ⟨hiz, rfl⟩ := rng_get hi
    walk_at "pp"
    refine ee_czN ?_
    walk_at "pp"
    refine ⟨(ns, i), by show i ≤ 1000; omega, by show [D.rd (ns.map D.int), D.int (0 + (i : Int))] = [D.rd (ns.map D.int), D.int (i : Int)]; rw [Int.zero_add], by show (D.ltL 0 (ns.map D.int) && true) = true; rw [ints_cl fun x hx => by obtain ⟨j, _, rfl⟩ := List.mem_map.mp hx; exact ⟨j, rfl⟩]; rfl, fun l hl _ => ?_⟩
    walk_at "pp"
    refine ask_pursed μ.length ?_
    walk_at "pp"
    refine ⟨l, 0, rfl, by simp, hl, by decide, fun l1 hl1 => ?_⟩
    walk_at "pp"
    refine ask_pursed μ.length ?_
    walk_at "pp"
    refine ⟨l1, 0 + 100000, rfl, by simp, hl1, by decide, fun l2 hl2 => ?_⟩
    walk_at "pp"
    refine ask_pursed μ.length ?_
    walk_at "pp"
    refine ⟨l2, 0 + 100000 + 100000, rfl, by simp, hl2, by decide, fun l3 hl3 => ?_⟩
    walk_at "pp"
    exact ⟨_, _, rfl⟩
  · rintro δ μ ⟨x, y, rfl⟩
    walk_at "pp"
    walk_at "gp"
    exact gaveP hl (by rfl) rfl
end


abbrev si_InvalidCount : Stmt := inClass (top 2) 0
theorem sci_InvalidCount : FnScope ["self", "value"] ["self", "value"] (defScope si_InvalidCount) := ⟨rfl, rfl, rfl, by decide +kernel, rfl, by decide +kernel, by decide +kernel⟩
abbrev si_InvalidText : Stmt := inClass (top 3) 0
theorem sci_InvalidText : FnScope ["self", "value"] ["self", "value"] (defScope si_InvalidText) := ⟨rfl, rfl, rfl, by decide +kernel, rfl, by decide +kernel, by decide +kernel⟩
abbrev si_InvalidCell : Stmt := inClass (top 4) 0
theorem sci_InvalidCell : FnScope ["self", "value"] ["self", "value"] (defScope si_InvalidCell) := ⟨rfl, rfl, rfl, by decide +kernel, rfl, by decide +kernel, by decide +kernel⟩
abbrev si_InvalidDots : Stmt := inClass (top 5) 0
theorem sci_InvalidDots : FnScope ["self", "value"] ["self", "value"] (defScope si_InvalidDots) := ⟨rfl, rfl, rfl, by decide +kernel, rfl, by decide +kernel, by decide +kernel⟩
abbrev si_InvalidCells : Stmt := inClass (top 6) 0
theorem sci_InvalidCells : FnScope ["self", "value"] ["self", "value"] (defScope si_InvalidCells) := ⟨rfl, rfl, rfl, by decide +kernel, rfl, by decide +kernel, by decide +kernel⟩
/-- a def that is called with keywords alone -/
theorem kbd_mk {K : PySem.W.Frag} {x : Str} {st : Stmt} {f : Addr} {fd : FuncData} {ps ks : List Str} {π : List Nat} (F : Fun K x x st f fd)
    (h : ∀ (kV doc pm : Value) (an : Option Addr) (cdv ct : Value) (ws : List Value), ws.length = ks.length → bindArgs (PySem.W.fnOf x x (defArgs st) (defBody st) (defScope st) .none kV doc pm an cdv ct) ⟨[], ks.zip ws⟩ = pure (ps.zip (permL π ws))) : KBd K fd ps ks π := by
  obtain ⟨oc, od, kV, doc, pm, an, cdv, ct, osl, rfl, lk, hcd⟩ := F.ex
  exact fun s ws hl => .of_eq (h kV doc pm an cdv ct ws hl)
theorem all_ok {P : Program} {w : World} {K : PySem.W.Frag} {h : Heap} {mg : Str → Option Value} {fa : Addr} {eReadingError eInvalidCount eInvalidText eInvalidCell eInvalidDots eInvalidCells cPOWERS cACROSS : Addr} {oPOWERS : Obj} {itsPOWERS : Array Value} {nPOWERS : Nat} {tkSIGNS : Nat} {oACROSS : Obj} {itsACROSS : Array Value} {nACROSS : Nat} (X : K.In h) (G : h.Ns mainGlobals mg) (hfa : mg "law" = some (.ref fa))
    (D_is_whole : DefF K mg "is_whole" st_is_whole)
    (D_is_cell : DefF K mg "is_cell" st_is_cell)
    (D_is_cells : DefF K mg "is_cells" st_is_cells)
    (D_check_cells : DefF K mg "check_cells" st_check_cells)
    (D_is_dots : DefF K mg "is_dots" st_is_dots)
    (D_dots_of : DefF K mg "dots_of" st_dots_of)
    (D_cell_of : DefF K mg "cell_of" st_cell_of)
    (D_cells_text : DefF K mg "cells_text" st_cells_text)
    (D_cells_of_text : DefF K mg "cells_of_text" st_cells_of_text)
    (D_mirrored : DefF K mg "mirrored" st_mirrored)
    (D_from_behind : DefF K mg "from_behind" st_from_behind)
    (D__law_purse : DefF K mg "_law_purse" st__law_purse)
    (D__law_mixed : DefF K mg "_law_mixed" st__law_mixed)
    (D__law_draw : DefF K mg "_law_draw" st__law_draw)
    (D__law_one_of : DefF K mg "_law_one_of" st__law_one_of)
    (D__law_exact : DefF K mg "_law_exact" st__law_exact)
    (D__law_row : DefF K mg "_law_row" st__law_row)
    (D__law_dots : DefF K mg "_law_dots" st__law_dots)
    (D__law_cell : DefF K mg "_law_cell" st__law_cell)
    (D__law_back : DefF K mg "_law_back" st__law_back)
    (D__law_all_right : DefF K mg "_law_all_right" st__law_all_right)
    (D__law_cell_right : DefF K mg "_law_cell_right" st__law_cell_right)
    (D__law_list_right : DefF K mg "_law_list_right" st__law_list_right)
    (D__law_dots_right : DefF K mg "_law_dots_right" st__law_dots_right)
    (D__law_heard : DefF K mg "_law_heard" st__law_heard)
    (D__law_bent : DefF K mg "_law_bent" st__law_bent)
    (D__law_wrong_cells : DefF K mg "_law_wrong_cells" st__law_wrong_cells)
    (D__law_wrong_dots : DefF K mg "_law_wrong_dots" st__law_wrong_dots)
    (D__law_wrong_texts : DefF K mg "_law_wrong_texts" st__law_wrong_texts)
    (D__law_wrong_right : DefF K mg "_law_wrong_right" st__law_wrong_right)
    (D_law : DefF K mg "law" st_law)
    (z_isinstance : PySem.W.nsIn K mainGlobals "isinstance" = some none)
    (z_bool : PySem.W.nsIn K mainGlobals "bool" = some none)
    (z_int : PySem.W.nsIn K mainGlobals "int" = some none)
    (z_all : PySem.W.nsIn K mainGlobals "all" = some none)
    (z_list : PySem.W.nsIn K mainGlobals "list" = some none)
    (z_range : PySem.W.nsIn K mainGlobals "range" = some none)
    (z_len : PySem.W.nsIn K mainGlobals "len" = some none)
    (z_sum : PySem.W.nsIn K mainGlobals "sum" = some none)
    (z_str : PySem.W.nsIn K mainGlobals "str" = some none)
    (z_max : PySem.W.nsIn K mainGlobals "max" = some none)
    (z_tuple : PySem.W.nsIn K mainGlobals "tuple" = some none)
    (z_zip : PySem.W.nsIn K mainGlobals "zip" = some none)
    (z_dict : PySem.W.nsIn K mainGlobals "dict" = some none)
    (z_min : PySem.W.nsIn K mainGlobals "min" = some none)
    (a_ReadingError : PySem.W.nsIn K mainGlobals "ReadingError" = some (some (.ref eReadingError)))
    (a_InvalidCount : PySem.W.nsIn K mainGlobals "InvalidCount" = some (some (.ref eInvalidCount)))
    (a_InvalidText : PySem.W.nsIn K mainGlobals "InvalidText" = some (some (.ref eInvalidText)))
    (a_InvalidCell : PySem.W.nsIn K mainGlobals "InvalidCell" = some (some (.ref eInvalidCell)))
    (a_InvalidDots : PySem.W.nsIn K mainGlobals "InvalidDots" = some (some (.ref eInvalidDots)))
    (a_InvalidCells : PySem.W.nsIn K mainGlobals "InvalidCells" = some (some (.ref eInvalidCells)))
    (E_InvalidCount : ∀ P w base, ErrK P w K mg base "InvalidCount" eInvalidCount)
    (E_InvalidText : ∀ P w base, ErrK P w K mg base "InvalidText" eInvalidText)
    (E_InvalidCell : ∀ P w base, ErrK P w K mg base "InvalidCell" eInvalidCell)
    (E_InvalidDots : ∀ P w base, ErrK P w K mg base "InvalidDots" eInvalidDots)
    (E_InvalidCells : ∀ P w base, ErrK P w K mg base "InvalidCells" eInvalidCells)
    (i_InvalidCell : PySem.W.isClsIn K eInvalidCell = true) (t_InvalidCell : PySem.W.typeIn K (.ref eInvalidCell) = some (.type "type"))
    (i_InvalidCells : PySem.W.isClsIn K eInvalidCells = true) (t_InvalidCells : PySem.W.typeIn K (.ref eInvalidCells) = some (.type "type"))
    (i_InvalidDots : PySem.W.isClsIn K eInvalidDots = true) (t_InvalidDots : PySem.W.typeIn K (.ref eInvalidDots) = some (.type "type"))
    (i_InvalidText : PySem.W.isClsIn K eInvalidText = true) (t_InvalidText : PySem.W.typeIn K (.ref eInvalidText) = some (.type "type"))
    (i_InvalidCount : PySem.W.isClsIn K eInvalidCount = true) (t_InvalidCount : PySem.W.typeIn K (.ref eInvalidCount) = some (.type "type"))
    (i_ReadingError : PySem.W.isClsIn K eReadingError = true) (t_ReadingError : PySem.W.typeIn K (.ref eReadingError) = some (.type "type"))
    (bR : PySem.W.subIn K (.ref eReadingError) (.type "BaseException") = some true)
    (s_InvalidCell_InvalidCells : PySem.W.subIn K (.ref eInvalidCell) (.ref eInvalidCells) = some false) (n_InvalidCell_InvalidCells : (Value.ref eInvalidCell == Value.ref eInvalidCells) = false)
    (s_InvalidCell_InvalidDots : PySem.W.subIn K (.ref eInvalidCell) (.ref eInvalidDots) = some false) (n_InvalidCell_InvalidDots : (Value.ref eInvalidCell == Value.ref eInvalidDots) = false)
    (s_InvalidCell_InvalidText : PySem.W.subIn K (.ref eInvalidCell) (.ref eInvalidText) = some false) (n_InvalidCell_InvalidText : (Value.ref eInvalidCell == Value.ref eInvalidText) = false)
    (s_InvalidCell_InvalidCount : PySem.W.subIn K (.ref eInvalidCell) (.ref eInvalidCount) = some false) (n_InvalidCell_InvalidCount : (Value.ref eInvalidCell == Value.ref eInvalidCount) = false)
    (v_InvalidCell : PySem.W.subIn K (.ref eInvalidCell) (.type "ValueError") = some true) (r_InvalidCell : PySem.W.subIn K (.ref eInvalidCell) (.ref eReadingError) = some true)
    (s_InvalidCells_InvalidCell : PySem.W.subIn K (.ref eInvalidCells) (.ref eInvalidCell) = some false) (n_InvalidCells_InvalidCell : (Value.ref eInvalidCells == Value.ref eInvalidCell) = false)
    (s_InvalidCells_InvalidDots : PySem.W.subIn K (.ref eInvalidCells) (.ref eInvalidDots) = some false) (n_InvalidCells_InvalidDots : (Value.ref eInvalidCells == Value.ref eInvalidDots) = false)
    (s_InvalidCells_InvalidText : PySem.W.subIn K (.ref eInvalidCells) (.ref eInvalidText) = some false) (n_InvalidCells_InvalidText : (Value.ref eInvalidCells == Value.ref eInvalidText) = false)
    (s_InvalidCells_InvalidCount : PySem.W.subIn K (.ref eInvalidCells) (.ref eInvalidCount) = some false) (n_InvalidCells_InvalidCount : (Value.ref eInvalidCells == Value.ref eInvalidCount) = false)
    (v_InvalidCells : PySem.W.subIn K (.ref eInvalidCells) (.type "ValueError") = some true) (r_InvalidCells : PySem.W.subIn K (.ref eInvalidCells) (.ref eReadingError) = some true)
    (s_InvalidDots_InvalidCell : PySem.W.subIn K (.ref eInvalidDots) (.ref eInvalidCell) = some false) (n_InvalidDots_InvalidCell : (Value.ref eInvalidDots == Value.ref eInvalidCell) = false)
    (s_InvalidDots_InvalidCells : PySem.W.subIn K (.ref eInvalidDots) (.ref eInvalidCells) = some false) (n_InvalidDots_InvalidCells : (Value.ref eInvalidDots == Value.ref eInvalidCells) = false)
    (s_InvalidDots_InvalidText : PySem.W.subIn K (.ref eInvalidDots) (.ref eInvalidText) = some false) (n_InvalidDots_InvalidText : (Value.ref eInvalidDots == Value.ref eInvalidText) = false)
    (s_InvalidDots_InvalidCount : PySem.W.subIn K (.ref eInvalidDots) (.ref eInvalidCount) = some false) (n_InvalidDots_InvalidCount : (Value.ref eInvalidDots == Value.ref eInvalidCount) = false)
    (v_InvalidDots : PySem.W.subIn K (.ref eInvalidDots) (.type "ValueError") = some true) (r_InvalidDots : PySem.W.subIn K (.ref eInvalidDots) (.ref eReadingError) = some true)
    (s_InvalidText_InvalidCell : PySem.W.subIn K (.ref eInvalidText) (.ref eInvalidCell) = some false) (n_InvalidText_InvalidCell : (Value.ref eInvalidText == Value.ref eInvalidCell) = false)
    (s_InvalidText_InvalidCells : PySem.W.subIn K (.ref eInvalidText) (.ref eInvalidCells) = some false) (n_InvalidText_InvalidCells : (Value.ref eInvalidText == Value.ref eInvalidCells) = false)
    (s_InvalidText_InvalidDots : PySem.W.subIn K (.ref eInvalidText) (.ref eInvalidDots) = some false) (n_InvalidText_InvalidDots : (Value.ref eInvalidText == Value.ref eInvalidDots) = false)
    (s_InvalidText_InvalidCount : PySem.W.subIn K (.ref eInvalidText) (.ref eInvalidCount) = some false) (n_InvalidText_InvalidCount : (Value.ref eInvalidText == Value.ref eInvalidCount) = false)
    (v_InvalidText : PySem.W.subIn K (.ref eInvalidText) (.type "ValueError") = some true) (r_InvalidText : PySem.W.subIn K (.ref eInvalidText) (.ref eReadingError) = some true)
    (a_POWERS : PySem.W.nsIn K mainGlobals "POWERS" = some (some (.ref cPOWERS))) (l_POWERS : K.lookup cPOWERS = some oPOWERS) (y_POWERS : oPOWERS.cls = .type "tuple") (j_POWERS : oPOWERS.data = .seq itsPOWERS nPOWERS) (w_POWERS : itsPOWERS.size ≤ sizeLine) (q_POWERS : Vals [.int (1), .int (2), .int (4), .int (8), .int (16), .int (32)] itsPOWERS.toList)
    (a_SIGNS : PySem.W.nsIn K mainGlobals "SIGNS" = some (some (.str (Str.ofString " A1B'K2L@CIF/MSP\"E3H9O6R^DJG>NTQ,*5<-U8V.~[$+X!&;:4\\0Z7(_?W]#Y)=") tkSIGNS)))
    (a_ACROSS : PySem.W.nsIn K mainGlobals "ACROSS" = some (some (.ref cACROSS))) (l_ACROSS : K.lookup cACROSS = some oACROSS) (y_ACROSS : oACROSS.cls = .type "tuple") (j_ACROSS : oACROSS.data = .seq itsACROSS nACROSS) (w_ACROSS : itsACROSS.size ≤ sizeLine) (q_ACROSS : Vals [.int (8), .int (16), .int (32), .int (1), .int (2), .int (4)] itsACROSS.toList) :
    ∃ fd : FuncData, (∀ (s : Shared) (u : Value), BindsTo s fd ⟨[u], []⟩ [("script", u)]) ∧ ∀ base : Heap, K.In base → base.Ns mainGlobals mg → FnOk P w K mg base (L2.CX P w) 10 fa fd ["script"] (spLaw K) := by
  obtain ⟨f_is_whole, fd_is_whole, F_is_whole, m_is_whole, k_is_whole⟩ := D_is_whole
  have b_is_whole := F_is_whole.binds (ps := ["value"]) fun _ _ _ _ _ _ us hl => match us, hl with | [_], _ => rfl
  obtain ⟨f_is_cell, fd_is_cell, F_is_cell, m_is_cell, k_is_cell⟩ := D_is_cell
  have b_is_cell := F_is_cell.binds (ps := ["value"]) fun _ _ _ _ _ _ us hl => match us, hl with | [_], _ => rfl
  obtain ⟨f_is_cells, fd_is_cells, F_is_cells, m_is_cells, k_is_cells⟩ := D_is_cells
  have b_is_cells := F_is_cells.binds (ps := ["value"]) fun _ _ _ _ _ _ us hl => match us, hl with | [_], _ => rfl
  obtain ⟨f_check_cells, fd_check_cells, F_check_cells, m_check_cells, k_check_cells⟩ := D_check_cells
  have b_check_cells := F_check_cells.binds (ps := ["value"]) fun _ _ _ _ _ _ us hl => match us, hl with | [_], _ => rfl
  obtain ⟨f_is_dots, fd_is_dots, F_is_dots, m_is_dots, k_is_dots⟩ := D_is_dots
  have b_is_dots := F_is_dots.binds (ps := ["value"]) fun _ _ _ _ _ _ us hl => match us, hl with | [_], _ => rfl
  obtain ⟨f_dots_of, fd_dots_of, F_dots_of, m_dots_of, k_dots_of⟩ := D_dots_of
  have b_dots_of := F_dots_of.binds (ps := ["cell"]) fun _ _ _ _ _ _ us hl => match us, hl with | [_], _ => rfl
  obtain ⟨f_cell_of, fd_cell_of, F_cell_of, m_cell_of, k_cell_of⟩ := D_cell_of
  have b_cell_of := F_cell_of.binds (ps := ["dots"]) fun _ _ _ _ _ _ us hl => match us, hl with | [_], _ => rfl
  obtain ⟨f_cells_text, fd_cells_text, F_cells_text, m_cells_text, k_cells_text⟩ := D_cells_text
  have b_cells_text := F_cells_text.binds (ps := ["cells"]) fun _ _ _ _ _ _ us hl => match us, hl with | [_], _ => rfl
  obtain ⟨f_cells_of_text, fd_cells_of_text, F_cells_of_text, m_cells_of_text, k_cells_of_text⟩ := D_cells_of_text
  have b_cells_of_text := F_cells_of_text.binds (ps := ["text"]) fun _ _ _ _ _ _ us hl => match us, hl with | [_], _ => rfl
  obtain ⟨f_mirrored, fd_mirrored, F_mirrored, m_mirrored, k_mirrored⟩ := D_mirrored
  have b_mirrored := F_mirrored.binds (ps := ["cell"]) fun _ _ _ _ _ _ us hl => match us, hl with | [_], _ => rfl
  obtain ⟨f_from_behind, fd_from_behind, F_from_behind, m_from_behind, k_from_behind⟩ := D_from_behind
  have b_from_behind := F_from_behind.binds (ps := ["cells"]) fun _ _ _ _ _ _ us hl => match us, hl with | [_], _ => rfl
  obtain ⟨f__law_purse, fd__law_purse, F__law_purse, m__law_purse, k__law_purse⟩ := D__law_purse
  have b__law_purse := F__law_purse.binds (ps := ["script", "at"]) fun _ _ _ _ _ _ us hl => match us, hl with | [_, _], _ => rfl
  obtain ⟨f__law_mixed, fd__law_mixed, F__law_mixed, m__law_mixed, k__law_mixed⟩ := D__law_mixed
  have b__law_mixed := F__law_mixed.binds (ps := ["seed", "spin", "at"]) fun _ _ _ _ _ _ us hl => match us, hl with | [_, _, _], _ => rfl
  obtain ⟨f__law_draw, fd__law_draw, F__law_draw, m__law_draw, k__law_draw⟩ := D__law_draw
  have b__law_draw := F__law_draw.binds (ps := ["purse", "many"]) fun _ _ _ _ _ _ us hl => match us, hl with | [_, _], _ => rfl
  obtain ⟨f__law_one_of, fd__law_one_of, F__law_one_of, m__law_one_of, k__law_one_of⟩ := D__law_one_of
  have b__law_one_of := F__law_one_of.binds (ps := ["purse", "some"]) fun _ _ _ _ _ _ us hl => match us, hl with | [_, _], _ => rfl
  obtain ⟨f__law_exact, fd__law_exact, F__law_exact, m__law_exact, k__law_exact⟩ := D__law_exact
  have b__law_exact := F__law_exact.binds (ps := ["mine", "theirs"]) fun _ _ _ _ _ _ us hl => match us, hl with | [_, _], _ => rfl
  obtain ⟨f__law_row, fd__law_row, F__law_row, m__law_row, k__law_row⟩ := D__law_row
  have b__law_row := F__law_row.binds (ps := []) fun _ _ _ _ _ _ us hl => match us, hl with | [], _ => rfl
  obtain ⟨f__law_dots, fd__law_dots, F__law_dots, m__law_dots, k__law_dots⟩ := D__law_dots
  have b__law_dots := F__law_dots.binds (ps := ["cell"]) fun _ _ _ _ _ _ us hl => match us, hl with | [_], _ => rfl
  obtain ⟨f__law_cell, fd__law_cell, F__law_cell, m__law_cell, k__law_cell⟩ := D__law_cell
  have b__law_cell := F__law_cell.binds (ps := ["dots"]) fun _ _ _ _ _ _ us hl => match us, hl with | [_], _ => rfl
  obtain ⟨f__law_back, fd__law_back, F__law_back, m__law_back, k__law_back⟩ := D__law_back
  have b__law_back := F__law_back.binds (ps := ["cells"]) fun _ _ _ _ _ _ us hl => match us, hl with | [_], _ => rfl
  obtain ⟨f__law_all_right, fd__law_all_right, F__law_all_right, m__law_all_right, k__law_all_right⟩ := D__law_all_right
  have b__law_all_right := F__law_all_right.binds (ps := ["pairs"]) fun _ _ _ _ _ _ us hl => match us, hl with | [_], _ => rfl
  obtain ⟨f__law_cell_right, fd__law_cell_right, F__law_cell_right, m__law_cell_right, k__law_cell_right⟩ := D__law_cell_right
  have b__law_cell_right := F__law_cell_right.binds (ps := ["cell"]) fun _ _ _ _ _ _ us hl => match us, hl with | [_], _ => rfl
  obtain ⟨f__law_list_right, fd__law_list_right, F__law_list_right, m__law_list_right, k__law_list_right⟩ := D__law_list_right
  have b__law_list_right := F__law_list_right.binds (ps := ["purse"]) fun _ _ _ _ _ _ us hl => match us, hl with | [_], _ => rfl
  obtain ⟨f__law_dots_right, fd__law_dots_right, F__law_dots_right, m__law_dots_right, k__law_dots_right⟩ := D__law_dots_right
  have b__law_dots_right := F__law_dots_right.binds (ps := ["purse"]) fun _ _ _ _ _ _ us hl => match us, hl with | [_], _ => rfl
  obtain ⟨f__law_heard, fd__law_heard, F__law_heard, m__law_heard, k__law_heard⟩ := D__law_heard
  have b__law_heard := F__law_heard.binds (ps := ["call", "thing"]) fun _ _ _ _ _ _ us hl => match us, hl with | [_, _], _ => rfl
  obtain ⟨f__law_bent, fd__law_bent, F__law_bent, m__law_bent, k__law_bent⟩ := D__law_bent
  have b__law_bent := F__law_bent.binds (ps := ["purse", "row", "things"]) fun _ _ _ _ _ _ us hl => match us, hl with | [_, _, _], _ => rfl
  obtain ⟨f__law_wrong_cells, fd__law_wrong_cells, F__law_wrong_cells, m__law_wrong_cells, k__law_wrong_cells⟩ := D__law_wrong_cells
  have b__law_wrong_cells := F__law_wrong_cells.binds (ps := ["purse"]) fun _ _ _ _ _ _ us hl => match us, hl with | [_], _ => rfl
  obtain ⟨f__law_wrong_dots, fd__law_wrong_dots, F__law_wrong_dots, m__law_wrong_dots, k__law_wrong_dots⟩ := D__law_wrong_dots
  have b__law_wrong_dots := F__law_wrong_dots.binds (ps := ["purse"]) fun _ _ _ _ _ _ us hl => match us, hl with | [_], _ => rfl
  obtain ⟨f__law_wrong_texts, fd__law_wrong_texts, F__law_wrong_texts, m__law_wrong_texts, k__law_wrong_texts⟩ := D__law_wrong_texts
  have b__law_wrong_texts := F__law_wrong_texts.binds (ps := ["purse"]) fun _ _ _ _ _ _ us hl => match us, hl with | [_], _ => rfl
  obtain ⟨f__law_wrong_right, fd__law_wrong_right, F__law_wrong_right, m__law_wrong_right, k__law_wrong_right⟩ := D__law_wrong_right
  have b__law_wrong_right := F__law_wrong_right.binds (ps := ["purse"]) fun _ _ _ _ _ _ us hl => match us, hl with | [_], _ => rfl
  obtain ⟨f_law, fd_law, F_law, m_law, k_law⟩ := D_law
  have b_law := F_law.binds (ps := ["script"]) fun _ _ _ _ _ _ us hl => match us, hl with | [_], _ => rfl
  have TT : ∀ base, Tx P w K mg base ⟨eReadingError, eInvalidCount, eInvalidText, eInvalidCell, eInvalidDots, eInvalidCells, cPOWERS, cACROSS, f_dots_of, f_from_behind, f_cells_text, f_cells_of_text, f_cell_of⟩ := fun base => { b_isinstance := PySem.W.mg_none_of X G z_isinstance, b_bool := PySem.W.mg_none_of X G z_bool, b_int := PySem.W.mg_none_of X G z_int, b_all := PySem.W.mg_none_of X G z_all, b_list := PySem.W.mg_none_of X G z_list, b_range := PySem.W.mg_none_of X G z_range, b_len := PySem.W.mg_none_of X G z_len, b_sum := PySem.W.mg_none_of X G z_sum, b_str := PySem.W.mg_none_of X G z_str, b_max := PySem.W.mg_none_of X G z_max, b_tuple := PySem.W.mg_none_of X G z_tuple, b_zip := PySem.W.mg_none_of X G z_zip, b_dict := PySem.W.mg_none_of X G z_dict, b_min := PySem.W.mg_none_of X G z_min, g_ReadingError := PySem.W.mg_of X G a_ReadingError, g_InvalidCount := PySem.W.mg_of X G a_InvalidCount, g_InvalidText := PySem.W.mg_of X G a_InvalidText, g_InvalidCell := PySem.W.mg_of X G a_InvalidCell, g_InvalidDots := PySem.W.mg_of X G a_InvalidDots, g_InvalidCells := PySem.W.mg_of X G a_InvalidCells, e_InvalidCount := E_InvalidCount _ _ base, e_InvalidText := E_InvalidText _ _ base, e_InvalidCell := E_InvalidCell _ _ base, e_InvalidDots := E_InvalidDots _ _ base, e_InvalidCells := E_InvalidCells _ _ base, k_InvalidCell_InvalidCell := kit_self, k_InvalidCell_InvalidCells := kit_ne n_InvalidCell_InvalidCells i_InvalidCells t_InvalidCells s_InvalidCell_InvalidCells, k_InvalidCell_InvalidDots := kit_ne n_InvalidCell_InvalidDots i_InvalidDots t_InvalidDots s_InvalidCell_InvalidDots, k_InvalidCell_InvalidText := kit_ne n_InvalidCell_InvalidText i_InvalidText t_InvalidText s_InvalidCell_InvalidText, k_InvalidCell_InvalidCount := kit_ne n_InvalidCell_InvalidCount i_InvalidCount t_InvalidCount s_InvalidCell_InvalidCount, x_InvalidCell := exm_of bR i_ReadingError t_ReadingError r_InvalidCell, k_InvalidCells_InvalidCell := kit_ne n_InvalidCells_InvalidCell i_InvalidCell t_InvalidCell s_InvalidCells_InvalidCell, k_InvalidCells_InvalidCells := kit_self, k_InvalidCells_InvalidDots := kit_ne n_InvalidCells_InvalidDots i_InvalidDots t_InvalidDots s_InvalidCells_InvalidDots, k_InvalidCells_InvalidText := kit_ne n_InvalidCells_InvalidText i_InvalidText t_InvalidText s_InvalidCells_InvalidText, k_InvalidCells_InvalidCount := kit_ne n_InvalidCells_InvalidCount i_InvalidCount t_InvalidCount s_InvalidCells_InvalidCount, x_InvalidCells := exm_of bR i_ReadingError t_ReadingError r_InvalidCells, k_InvalidDots_InvalidCell := kit_ne n_InvalidDots_InvalidCell i_InvalidCell t_InvalidCell s_InvalidDots_InvalidCell, k_InvalidDots_InvalidCells := kit_ne n_InvalidDots_InvalidCells i_InvalidCells t_InvalidCells s_InvalidDots_InvalidCells, k_InvalidDots_InvalidDots := kit_self, k_InvalidDots_InvalidText := kit_ne n_InvalidDots_InvalidText i_InvalidText t_InvalidText s_InvalidDots_InvalidText, k_InvalidDots_InvalidCount := kit_ne n_InvalidDots_InvalidCount i_InvalidCount t_InvalidCount s_InvalidDots_InvalidCount, x_InvalidDots := exm_of bR i_ReadingError t_ReadingError r_InvalidDots, k_InvalidText_InvalidCell := kit_ne n_InvalidText_InvalidCell i_InvalidCell t_InvalidCell s_InvalidText_InvalidCell, k_InvalidText_InvalidCells := kit_ne n_InvalidText_InvalidCells i_InvalidCells t_InvalidCells s_InvalidText_InvalidCells, k_InvalidText_InvalidDots := kit_ne n_InvalidText_InvalidDots i_InvalidDots t_InvalidDots s_InvalidText_InvalidDots, k_InvalidText_InvalidText := kit_self, k_InvalidText_InvalidCount := kit_ne n_InvalidText_InvalidCount i_InvalidCount t_InvalidCount s_InvalidText_InvalidCount, x_InvalidText := exm_of bR i_ReadingError t_ReadingError r_InvalidText, g_POWERS := PySem.W.mg_of X G a_POWERS, t_POWERS := ⟨_, _, _, l_POWERS, y_POWERS, j_POWERS, w_POWERS, q_POWERS⟩, g_SIGNS := ⟨_, PySem.W.mg_of X G a_SIGNS⟩, g_ACROSS := PySem.W.mg_of X G a_ACROSS, t_ACROSS := ⟨_, _, _, l_ACROSS, y_ACROSS, j_ACROSS, w_ACROSS, q_ACROSS⟩, f_dots_of := m_dots_of, f_from_behind := m_from_behind, f_cells_text := m_cells_text, f_cells_of_text := m_cells_of_text, f_cell_of := m_cell_of }
  have ef := m_law.symm.trans hfa
  cases ef
  refine ⟨fd_law, ?_, fun base _ _ => ?_⟩
  · obtain ⟨oc, od, kV, doc, pm, an, cdv, ct, osl, rfl, lk, hcd⟩ := F_law.ex
    exact fun s u => .of_eq rfl
  have T := TT base
  have c__law_mixed : CalX P w K mg base 1 "_law_mixed" ["seed", "spin", "at"] _ := ⟨_, _, ok_mixed F__law_mixed T , m__law_mixed, k__law_mixed, b__law_mixed⟩
  have c__law_draw : CalX P w K mg base 2 "_law_draw" ["purse", "many"] _ := ⟨_, _, ok_draw F__law_draw T c__law_mixed, m__law_draw, k__law_draw, b__law_draw⟩
  have c__law_purse : CalX P w K mg base 1 "_law_purse" ["script", "at"] _ := ⟨_, _, ok_purse F__law_purse T , m__law_purse, k__law_purse, b__law_purse⟩
  have c__law_one_of : CalX P w K mg base 3 "_law_one_of" ["purse", "some"] _ := ⟨_, _, ok_one_of F__law_one_of T c__law_draw, m__law_one_of, k__law_one_of, b__law_one_of⟩
  have c__law_exact : CalX P w K mg base 7 "_law_exact" ["mine", "theirs"] _ := ⟨_, _, ok_exact F__law_exact T m__law_exact k__law_exact b__law_exact 6, m__law_exact, k__law_exact, b__law_exact⟩
  have c_is_whole : CalX P w K mg base 1 "is_whole" ["value"] _ := ⟨_, _, ok_is_whole F_is_whole T , m_is_whole, k_is_whole, b_is_whole⟩
  have c_is_cell : CalX P w K mg base 2 "is_cell" ["value"] _ := ⟨_, _, ok_is_cell F_is_cell T c_is_whole, m_is_cell, k_is_cell, b_is_cell⟩
  have c_is_cells : CalX P w K mg base 3 "is_cells" ["value"] _ := ⟨_, _, ok_is_cells F_is_cells T c_is_cell, m_is_cells, k_is_cells, b_is_cells⟩
  have c_check_cells : CalX P w K mg base 4 "check_cells" ["value"] _ := ⟨_, _, ok_check_cells F_check_cells T c_is_cells, m_check_cells, k_check_cells, b_check_cells⟩
  have c_is_dots : CalX P w K mg base 2 "is_dots" ["value"] _ := ⟨_, _, ok_is_dots F_is_dots T c_is_whole, m_is_dots, k_is_dots, b_is_dots⟩
  have c_dots_of : CalX P w K mg base 3 "dots_of" ["cell"] _ := ⟨_, _, ok_dots_of F_dots_of T c_is_cell, m_dots_of, k_dots_of, b_dots_of⟩
  have kb_dots_of_cell : KBd K fd_dots_of ["cell"] ["cell"] [0] := kbd_mk F_dots_of fun _ _ _ _ _ _ ws hl => match ws, hl with | [_], _ => rfl
  have k_dots_of_cell : CalK P w K mg base 3 "dots_of" ["cell"] ["cell"] [0] _ := ⟨_, _, ok_dots_of F_dots_of T c_is_cell, m_dots_of, k_dots_of, kb_dots_of_cell⟩
  have c_cell_of : CalX P w K mg base 3 "cell_of" ["dots"] _ := ⟨_, _, ok_cell_of F_cell_of T c_is_dots, m_cell_of, k_cell_of, b_cell_of⟩
  have kb_cell_of_dots : KBd K fd_cell_of ["dots"] ["dots"] [0] := kbd_mk F_cell_of fun _ _ _ _ _ _ ws hl => match ws, hl with | [_], _ => rfl
  have k_cell_of_dots : CalK P w K mg base 3 "cell_of" ["dots"] ["dots"] [0] _ := ⟨_, _, ok_cell_of F_cell_of T c_is_dots, m_cell_of, k_cell_of, kb_cell_of_dots⟩
  have c_mirrored : CalX P w K mg base 1 "mirrored" ["cell"] _ := ⟨_, _, ok_mirrored F_mirrored T , m_mirrored, k_mirrored, b_mirrored⟩
  have c_cells_text : CalX P w K mg base 5 "cells_text" ["cells"] _ := ⟨_, _, ok_cells_text F_cells_text T c_check_cells, m_cells_text, k_cells_text, b_cells_text⟩
  have kb_cells_text_cells : KBd K fd_cells_text ["cells"] ["cells"] [0] := kbd_mk F_cells_text fun _ _ _ _ _ _ ws hl => match ws, hl with | [_], _ => rfl
  have k_cells_text_cells : CalK P w K mg base 5 "cells_text" ["cells"] ["cells"] [0] _ := ⟨_, _, ok_cells_text F_cells_text T c_check_cells, m_cells_text, k_cells_text, kb_cells_text_cells⟩
  have c_cells_of_text : CalX P w K mg base 3 "cells_of_text" ["text"] _ := ⟨_, _, ok_cells_of_text F_cells_of_text T , m_cells_of_text, k_cells_of_text, b_cells_of_text⟩
  have kb_cells_of_text_text : KBd K fd_cells_of_text ["text"] ["text"] [0] := kbd_mk F_cells_of_text fun _ _ _ _ _ _ ws hl => match ws, hl with | [_], _ => rfl
  have k_cells_of_text_text : CalK P w K mg base 3 "cells_of_text" ["text"] ["text"] [0] _ := ⟨_, _, ok_cells_of_text F_cells_of_text T , m_cells_of_text, k_cells_of_text, kb_cells_of_text_text⟩
  have c_from_behind : CalX P w K mg base 5 "from_behind" ["cells"] _ := ⟨_, _, ok_from_behind F_from_behind T c_check_cells c_mirrored, m_from_behind, k_from_behind, b_from_behind⟩
  have kb_from_behind_cells : KBd K fd_from_behind ["cells"] ["cells"] [0] := kbd_mk F_from_behind fun _ _ _ _ _ _ ws hl => match ws, hl with | [_], _ => rfl
  have k_from_behind_cells : CalK P w K mg base 5 "from_behind" ["cells"] ["cells"] [0] _ := ⟨_, _, ok_from_behind F_from_behind T c_check_cells c_mirrored, m_from_behind, k_from_behind, kb_from_behind_cells⟩
  have c__law_row : CalX P w K mg base 1 "_law_row" [] _ := ⟨_, _, ok_lrow F__law_row T , m__law_row, k__law_row, b__law_row⟩
  have c__law_dots : CalX P w K mg base 1 "_law_dots" ["cell"] _ := ⟨_, _, ok_ldots F__law_dots T , m__law_dots, k__law_dots, b__law_dots⟩
  have c__law_cell : CalX P w K mg base 1 "_law_cell" ["dots"] _ := ⟨_, _, ok_lcell F__law_cell T , m__law_cell, k__law_cell, b__law_cell⟩
  have c__law_back : CalX P w K mg base 2 "_law_back" ["cells"] _ := ⟨_, _, ok_lback F__law_back T c__law_dots c__law_cell, m__law_back, k__law_back, b__law_back⟩
  have c__law_all_right : CalX P w K mg base 8 "_law_all_right" ["pairs"] _ := ⟨_, _, ok_all_right F__law_all_right T c__law_exact, m__law_all_right, k__law_all_right, b__law_all_right⟩
  have c__law_cell_right : CalX P w K mg base 9 "_law_cell_right" ["cell"] _ := ⟨_, _, ok_cell_right F__law_cell_right T c__law_dots c__law_row c_dots_of k_dots_of_cell c_cell_of k_cell_of_dots c_cells_text c_cells_of_text c__law_back c_from_behind c__law_all_right, m__law_cell_right, k__law_cell_right, b__law_cell_right⟩
  have c__law_list_right : CalX P w K mg base 9 "_law_list_right" ["purse"] _ := ⟨_, _, ok_list_right F__law_list_right T c__law_one_of c__law_draw c__law_row c_cells_text c_cells_of_text k_cells_text_cells k_cells_of_text_text c__law_back c_from_behind k_from_behind_cells c__law_all_right, m__law_list_right, k__law_list_right, b__law_list_right⟩
  have c__law_dots_right : CalX P w K mg base 9 "_law_dots_right" ["purse"] _ := ⟨_, _, ok_dots_right F__law_dots_right T c__law_draw c_dots_of c__law_cell c_cell_of c__law_all_right, m__law_dots_right, k__law_dots_right, b__law_dots_right⟩
  have held : ∀ f sp, SgL K ⟨eReadingError, eInvalidCount, eInvalidText, eInvalidCell, eInvalidDots, eInvalidCells, cPOWERS, cACROSS, f_dots_of, f_from_behind, f_cells_text, f_cells_of_text, f_cell_of⟩ f sp → HeldX P w K mg base 5 f sp := by
    rintro f sp (⟨rfl, rfl⟩ | ⟨rfl, rfl⟩ | ⟨rfl, rfl⟩ | ⟨rfl, rfl⟩ | ⟨rfl, rfl⟩)
    · exact ⟨⟨3, _, _, by decide, ok_dots_of F_dots_of T c_is_cell, k_dots_of, b_dots_of⟩⟩
    · exact ⟨⟨5, _, _, by decide, ok_cells_text F_cells_text T c_check_cells, k_cells_text, b_cells_text⟩⟩
    · exact ⟨⟨5, _, _, by decide, ok_from_behind F_from_behind T c_check_cells c_mirrored, k_from_behind, b_from_behind⟩⟩
    · exact ⟨⟨3, _, _, by decide, ok_cell_of F_cell_of T c_is_dots, k_cell_of, b_cell_of⟩⟩
    · exact ⟨⟨3, _, _, by decide, ok_cells_of_text F_cells_of_text T, k_cells_of_text, b_cells_of_text⟩⟩
  have c__law_heard : CalX P w K mg base 8 "_law_heard" ["call", "thing"] _ := ⟨_, _, ok_lheard F__law_heard T (Sg := SgL K _) rfl held c__law_exact, m__law_heard, k__law_heard, b__law_heard⟩
  have c__law_bent : CalX P w K mg base 3 "_law_bent" ["purse", "row", "things"] _ := ⟨_, _, ok_bent F__law_bent T c__law_draw, m__law_bent, k__law_bent, b__law_bent⟩
  have c__law_wrong_cells : CalX P w K mg base 4 "_law_wrong_cells" ["purse"] _ := ⟨_, _, ok_wrong_cells F__law_wrong_cells T c__law_draw c__law_bent, m__law_wrong_cells, k__law_wrong_cells, b__law_wrong_cells⟩
  have c__law_wrong_dots : CalX P w K mg base 4 "_law_wrong_dots" ["purse"] _ := ⟨_, _, ok_wrong_dots F__law_wrong_dots T c__law_draw c__law_bent, m__law_wrong_dots, k__law_wrong_dots, b__law_wrong_dots⟩
  have c__law_wrong_texts : CalX P w K mg base 4 "_law_wrong_texts" ["purse"] _ := ⟨_, _, ok_wrong_texts F__law_wrong_texts T c__law_draw c__law_row c__law_bent, m__law_wrong_texts, k__law_wrong_texts, b__law_wrong_texts⟩
  have c__law_wrong_right : CalX P w K mg base 9 "_law_wrong_right" ["purse"] _ := ⟨_, _, ok_wrong_right F__law_wrong_right T c__law_wrong_cells c__law_wrong_dots c__law_wrong_texts c__law_heard, m__law_wrong_right, k__law_wrong_right, b__law_wrong_right⟩
  exact ok_law F_law T c__law_cell_right c__law_purse c__law_list_right c__law_dots_right c__law_wrong_right


end PA
open PySem PySem.W PyProof.Rows in
set_option maxRecDepth 100000 in
set_option maxHeartbeats 0 in
theorem PySem.Challenge.cw_heardandfelt_k52_cells_holds : PySem.Challenge.rw_heardandfelt_k52_cells.Holds := by
  w_on; o_law; k_head; (case hw => w_witness2)
  k_fill
  refine PA.walk (l := PySem.Challenge.rw_heardandfelt_k52_cells) (k := 10) rfl rfl ⟨rfl, by decide, by decide⟩ (fun w h Y => PySem.W.kIn_of Y) ?F
  case F =>
    intro w mg fa h KX G hmg
    refine' PA.all_ok KX G hmg ?D_is_whole ?D_is_cell ?D_is_cells ?D_check_cells ?D_is_dots ?D_dots_of ?D_cell_of ?D_cells_text ?D_cells_of_text ?D_mirrored ?D_from_behind ?D__law_purse ?D__law_mixed ?D__law_draw ?D__law_one_of ?D__law_exact ?D__law_row ?D__law_dots ?D__law_cell ?D__law_back ?D__law_all_right ?D__law_cell_right ?D__law_list_right ?D__law_dots_right ?D__law_heard ?D__law_bent ?D__law_wrong_cells ?D__law_wrong_dots ?D__law_wrong_texts ?D__law_wrong_right ?D_law ?z_isinstance ?z_bool ?z_int ?z_all ?z_list ?z_range ?z_len ?z_sum ?z_str ?z_max ?z_tuple ?z_zip ?z_dict ?z_min ?a_ReadingError ?a_InvalidCount ?a_InvalidText ?a_InvalidCell ?a_InvalidDots ?a_InvalidCells ?E_InvalidCount ?E_InvalidText ?E_InvalidCell ?E_InvalidDots ?E_InvalidCells ?i_InvalidCell ?t_InvalidCell ?i_InvalidCells ?t_InvalidCells ?i_InvalidDots ?t_InvalidDots ?i_InvalidText ?t_InvalidText ?i_InvalidCount ?t_InvalidCount ?i_ReadingError ?t_ReadingError ?bR ?s_InvalidCell_InvalidCells ?n_InvalidCell_InvalidCells ?s_InvalidCell_InvalidDots ?n_InvalidCell_InvalidDots ?s_InvalidCell_InvalidText ?n_InvalidCell_InvalidText ?s_InvalidCell_InvalidCount ?n_InvalidCell_InvalidCount ?v_InvalidCell ?r_InvalidCell ?s_InvalidCells_InvalidCell ?n_InvalidCells_InvalidCell ?s_InvalidCells_InvalidDots ?n_InvalidCells_InvalidDots ?s_InvalidCells_InvalidText ?n_InvalidCells_InvalidText ?s_InvalidCells_InvalidCount ?n_InvalidCells_InvalidCount ?v_InvalidCells ?r_InvalidCells ?s_InvalidDots_InvalidCell ?n_InvalidDots_InvalidCell ?s_InvalidDots_InvalidCells ?n_InvalidDots_InvalidCells ?s_InvalidDots_InvalidText ?n_InvalidDots_InvalidText ?s_InvalidDots_InvalidCount ?n_InvalidDots_InvalidCount ?v_InvalidDots ?r_InvalidDots ?s_InvalidText_InvalidCell ?n_InvalidText_InvalidCell ?s_InvalidText_InvalidCells ?n_InvalidText_InvalidCells ?s_InvalidText_InvalidDots ?n_InvalidText_InvalidDots ?s_InvalidText_InvalidCount ?n_InvalidText_InvalidCount ?v_InvalidText ?r_InvalidText ?a_POWERS ?l_POWERS ?y_POWERS ?j_POWERS ?w_POWERS ?q_POWERS ?a_SIGNS ?a_ACROSS ?l_ACROSS ?y_ACROSS ?j_ACROSS ?w_ACROSS ?q_ACROSS
    (case D_is_whole => refine' PA.def_mk KX G ?a ?l ?c ?k; (case a => k_is); (case l => k_is); (case c => k_is); (case k => k_is))
    (case D_is_cell => refine' PA.def_mk KX G ?a ?l ?c ?k; (case a => k_is); (case l => k_is); (case c => k_is); (case k => k_is))
    (case D_is_cells => refine' PA.def_mk KX G ?a ?l ?c ?k; (case a => k_is); (case l => k_is); (case c => k_is); (case k => k_is))
    (case D_check_cells => refine' PA.def_mk KX G ?a ?l ?c ?k; (case a => k_is); (case l => k_is); (case c => k_is); (case k => k_is))
    (case D_is_dots => refine' PA.def_mk KX G ?a ?l ?c ?k; (case a => k_is); (case l => k_is); (case c => k_is); (case k => k_is))
    (case D_dots_of => refine' PA.def_mk KX G ?a ?l ?c ?k; (case a => k_is); (case l => k_is); (case c => k_is); (case k => k_is))
    (case D_cell_of => refine' PA.def_mk KX G ?a ?l ?c ?k; (case a => k_is); (case l => k_is); (case c => k_is); (case k => k_is))
    (case D_cells_text => refine' PA.def_mk KX G ?a ?l ?c ?k; (case a => k_is); (case l => k_is); (case c => k_is); (case k => k_is))
    (case D_cells_of_text => refine' PA.def_mk KX G ?a ?l ?c ?k; (case a => k_is); (case l => k_is); (case c => k_is); (case k => k_is))
    (case D_mirrored => refine' PA.def_mk KX G ?a ?l ?c ?k; (case a => k_is); (case l => k_is); (case c => k_is); (case k => k_is))
    (case D_from_behind => refine' PA.def_mk KX G ?a ?l ?c ?k; (case a => k_is); (case l => k_is); (case c => k_is); (case k => k_is))
    (case D__law_purse => refine' PA.def_mk KX G ?a ?l ?c ?k; (case a => k_is); (case l => k_is); (case c => k_is); (case k => k_is))
    (case D__law_mixed => refine' PA.def_mk KX G ?a ?l ?c ?k; (case a => k_is); (case l => k_is); (case c => k_is); (case k => k_is))
    (case D__law_draw => refine' PA.def_mk KX G ?a ?l ?c ?k; (case a => k_is); (case l => k_is); (case c => k_is); (case k => k_is))
    (case D__law_one_of => refine' PA.def_mk KX G ?a ?l ?c ?k; (case a => k_is); (case l => k_is); (case c => k_is); (case k => k_is))
    (case D__law_exact => refine' PA.def_mk KX G ?a ?l ?c ?k; (case a => k_is); (case l => k_is); (case c => k_is); (case k => k_is))
    (case D__law_row => refine' PA.def_mk KX G ?a ?l ?c ?k; (case a => k_is); (case l => k_is); (case c => k_is); (case k => k_is))
    (case D__law_dots => refine' PA.def_mk KX G ?a ?l ?c ?k; (case a => k_is); (case l => k_is); (case c => k_is); (case k => k_is))
    (case D__law_cell => refine' PA.def_mk KX G ?a ?l ?c ?k; (case a => k_is); (case l => k_is); (case c => k_is); (case k => k_is))
    (case D__law_back => refine' PA.def_mk KX G ?a ?l ?c ?k; (case a => k_is); (case l => k_is); (case c => k_is); (case k => k_is))
    (case D__law_all_right => refine' PA.def_mk KX G ?a ?l ?c ?k; (case a => k_is); (case l => k_is); (case c => k_is); (case k => k_is))
    (case D__law_cell_right => refine' PA.def_mk KX G ?a ?l ?c ?k; (case a => k_is); (case l => k_is); (case c => k_is); (case k => k_is))
    (case D__law_list_right => refine' PA.def_mk KX G ?a ?l ?c ?k; (case a => k_is); (case l => k_is); (case c => k_is); (case k => k_is))
    (case D__law_dots_right => refine' PA.def_mk KX G ?a ?l ?c ?k; (case a => k_is); (case l => k_is); (case c => k_is); (case k => k_is))
    (case D__law_heard => refine' PA.def_mk KX G ?a ?l ?c ?k; (case a => k_is); (case l => k_is); (case c => k_is); (case k => k_is))
    (case D__law_bent => refine' PA.def_mk KX G ?a ?l ?c ?k; (case a => k_is); (case l => k_is); (case c => k_is); (case k => k_is))
    (case D__law_wrong_cells => refine' PA.def_mk KX G ?a ?l ?c ?k; (case a => k_is); (case l => k_is); (case c => k_is); (case k => k_is))
    (case D__law_wrong_dots => refine' PA.def_mk KX G ?a ?l ?c ?k; (case a => k_is); (case l => k_is); (case c => k_is); (case k => k_is))
    (case D__law_wrong_texts => refine' PA.def_mk KX G ?a ?l ?c ?k; (case a => k_is); (case l => k_is); (case c => k_is); (case k => k_is))
    (case D__law_wrong_right => refine' PA.def_mk KX G ?a ?l ?c ?k; (case a => k_is); (case l => k_is); (case c => k_is); (case k => k_is))
    (case D_law => refine' PA.def_mk KX G ?a ?l ?c ?k; (case a => k_is); (case l => k_is); (case c => k_is); (case k => k_is))
    (case z_isinstance => k_is)
    (case z_bool => k_is)
    (case z_int => k_is)
    (case z_all => k_is)
    (case z_list => k_is)
    (case z_range => k_is)
    (case z_len => k_is)
    (case z_sum => k_is)
    (case z_str => k_is)
    (case z_max => k_is)
    (case z_tuple => k_is)
    (case z_zip => k_is)
    (case z_dict => k_is)
    (case z_min => k_is)
    (case a_ReadingError => k_is)
    (case a_InvalidCount => k_is)
    (case a_InvalidText => k_is)
    (case a_InvalidCell => k_is)
    (case a_InvalidDots => k_is)
    (case a_InvalidCells => k_is)
    (case E_InvalidCount => refine' PA.err_mk (st := PA.si_InvalidCount) (qual := "InvalidCount.__init__") ?aC ?xL ?sa ?ga ?gg ?nb ?a1 ?t1 ?l1 ?c1 ?k1 ?lT ?kC ?eC ?tC ?hC ?ha ?hn ?ht ?hm ?hbm ?dT rfl PA.sci_InvalidCount (Or.inl rfl) (Or.inl rfl) (fun _ _ _ _ _ _ _ us its h1 h2 => match us, its, h1, h2 with | [_, _], [_], _, _ => ⟨_, rfl, rfl⟩) KX G; (case aC => k_is); (case xL => k_is); (case sa => k_is); (case ga => k_is); (case gg => k_is); (case nb => k_is); (case a1 => k_is); (case t1 => k_is); (case l1 => k_is); (case c1 => k_is); (case k1 => k_is); (case lT => k_is); (case kC => k_is); (case eC => k_is); (case tC => k_is); (case hC => k_is); (case ha => k_is); (case hn => k_is); (case ht => k_is); (case hm => k_is); (case hbm => decide +kernel); (case dT => rfl))
    (case E_InvalidText => refine' PA.err_mk (st := PA.si_InvalidText) (qual := "InvalidText.__init__") ?aC ?xL ?sa ?ga ?gg ?nb ?a1 ?t1 ?l1 ?c1 ?k1 ?lT ?kC ?eC ?tC ?hC ?ha ?hn ?ht ?hm ?hbm ?dT rfl PA.sci_InvalidText (Or.inl rfl) (Or.inl rfl) (fun _ _ _ _ _ _ _ us its h1 h2 => match us, its, h1, h2 with | [_, _], [_], _, _ => ⟨_, rfl, rfl⟩) KX G; (case aC => k_is); (case xL => k_is); (case sa => k_is); (case ga => k_is); (case gg => k_is); (case nb => k_is); (case a1 => k_is); (case t1 => k_is); (case l1 => k_is); (case c1 => k_is); (case k1 => k_is); (case lT => k_is); (case kC => k_is); (case eC => k_is); (case tC => k_is); (case hC => k_is); (case ha => k_is); (case hn => k_is); (case ht => k_is); (case hm => k_is); (case hbm => decide +kernel); (case dT => rfl))
    (case E_InvalidCell => refine' PA.err_mk (st := PA.si_InvalidCell) (qual := "InvalidCell.__init__") ?aC ?xL ?sa ?ga ?gg ?nb ?a1 ?t1 ?l1 ?c1 ?k1 ?lT ?kC ?eC ?tC ?hC ?ha ?hn ?ht ?hm ?hbm ?dT rfl PA.sci_InvalidCell (Or.inl rfl) (Or.inl rfl) (fun _ _ _ _ _ _ _ us its h1 h2 => match us, its, h1, h2 with | [_, _], [_], _, _ => ⟨_, rfl, rfl⟩) KX G; (case aC => k_is); (case xL => k_is); (case sa => k_is); (case ga => k_is); (case gg => k_is); (case nb => k_is); (case a1 => k_is); (case t1 => k_is); (case l1 => k_is); (case c1 => k_is); (case k1 => k_is); (case lT => k_is); (case kC => k_is); (case eC => k_is); (case tC => k_is); (case hC => k_is); (case ha => k_is); (case hn => k_is); (case ht => k_is); (case hm => k_is); (case hbm => decide +kernel); (case dT => rfl))
    (case E_InvalidDots => refine' PA.err_mk (st := PA.si_InvalidDots) (qual := "InvalidDots.__init__") ?aC ?xL ?sa ?ga ?gg ?nb ?a1 ?t1 ?l1 ?c1 ?k1 ?lT ?kC ?eC ?tC ?hC ?ha ?hn ?ht ?hm ?hbm ?dT rfl PA.sci_InvalidDots (Or.inl rfl) (Or.inl rfl) (fun _ _ _ _ _ _ _ us its h1 h2 => match us, its, h1, h2 with | [_, _], [_], _, _ => ⟨_, rfl, rfl⟩) KX G; (case aC => k_is); (case xL => k_is); (case sa => k_is); (case ga => k_is); (case gg => k_is); (case nb => k_is); (case a1 => k_is); (case t1 => k_is); (case l1 => k_is); (case c1 => k_is); (case k1 => k_is); (case lT => k_is); (case kC => k_is); (case eC => k_is); (case tC => k_is); (case hC => k_is); (case ha => k_is); (case hn => k_is); (case ht => k_is); (case hm => k_is); (case hbm => decide +kernel); (case dT => rfl))
    (case E_InvalidCells => refine' PA.err_mk (st := PA.si_InvalidCells) (qual := "InvalidCells.__init__") ?aC ?xL ?sa ?ga ?gg ?nb ?a1 ?t1 ?l1 ?c1 ?k1 ?lT ?kC ?eC ?tC ?hC ?ha ?hn ?ht ?hm ?hbm ?dT rfl PA.sci_InvalidCells (Or.inl rfl) (Or.inl rfl) (fun _ _ _ _ _ _ _ us its h1 h2 => match us, its, h1, h2 with | [_, _], [_], _, _ => ⟨_, rfl, rfl⟩) KX G; (case aC => k_is); (case xL => k_is); (case sa => k_is); (case ga => k_is); (case gg => k_is); (case nb => k_is); (case a1 => k_is); (case t1 => k_is); (case l1 => k_is); (case c1 => k_is); (case k1 => k_is); (case lT => k_is); (case kC => k_is); (case eC => k_is); (case tC => k_is); (case hC => k_is); (case ha => k_is); (case hn => k_is); (case ht => k_is); (case hm => k_is); (case hbm => decide +kernel); (case dT => rfl))
    (case i_InvalidCell => k_is)
    (case t_InvalidCell => k_is)
    (case i_InvalidCells => k_is)
    (case t_InvalidCells => k_is)
    (case i_InvalidDots => k_is)
    (case t_InvalidDots => k_is)
    (case i_InvalidText => k_is)
    (case t_InvalidText => k_is)
    (case i_InvalidCount => k_is)
    (case t_InvalidCount => k_is)
    (case i_ReadingError => k_is)
    (case t_ReadingError => k_is)
    (case bR => k_is)
    (case s_InvalidCell_InvalidCells => k_is)
    (case n_InvalidCell_InvalidCells => rfl)
    (case s_InvalidCell_InvalidDots => k_is)
    (case n_InvalidCell_InvalidDots => rfl)
    (case s_InvalidCell_InvalidText => k_is)
    (case n_InvalidCell_InvalidText => rfl)
    (case s_InvalidCell_InvalidCount => k_is)
    (case n_InvalidCell_InvalidCount => rfl)
    (case v_InvalidCell => k_is)
    (case r_InvalidCell => k_is)
    (case s_InvalidCells_InvalidCell => k_is)
    (case n_InvalidCells_InvalidCell => rfl)
    (case s_InvalidCells_InvalidDots => k_is)
    (case n_InvalidCells_InvalidDots => rfl)
    (case s_InvalidCells_InvalidText => k_is)
    (case n_InvalidCells_InvalidText => rfl)
    (case s_InvalidCells_InvalidCount => k_is)
    (case n_InvalidCells_InvalidCount => rfl)
    (case v_InvalidCells => k_is)
    (case r_InvalidCells => k_is)
    (case s_InvalidDots_InvalidCell => k_is)
    (case n_InvalidDots_InvalidCell => rfl)
    (case s_InvalidDots_InvalidCells => k_is)
    (case n_InvalidDots_InvalidCells => rfl)
    (case s_InvalidDots_InvalidText => k_is)
    (case n_InvalidDots_InvalidText => rfl)
    (case s_InvalidDots_InvalidCount => k_is)
    (case n_InvalidDots_InvalidCount => rfl)
    (case v_InvalidDots => k_is)
    (case r_InvalidDots => k_is)
    (case s_InvalidText_InvalidCell => k_is)
    (case n_InvalidText_InvalidCell => rfl)
    (case s_InvalidText_InvalidCells => k_is)
    (case n_InvalidText_InvalidCells => rfl)
    (case s_InvalidText_InvalidDots => k_is)
    (case n_InvalidText_InvalidDots => rfl)
    (case s_InvalidText_InvalidCount => k_is)
    (case n_InvalidText_InvalidCount => rfl)
    (case v_InvalidText => k_is)
    (case r_InvalidText => k_is)
    (case a_POWERS => k_is)
    (case l_POWERS => k_is)
    (case y_POWERS => rfl)
    (case j_POWERS => rfl)
    (case w_POWERS => exact Nat.le_of_ble_eq_true rfl)
    (case q_POWERS => exact .cons ⟨_, rfl⟩ (.cons ⟨_, rfl⟩ (.cons ⟨_, rfl⟩ (.cons ⟨_, rfl⟩ (.cons ⟨_, rfl⟩ (.cons ⟨_, rfl⟩ (.nil)))))))
    (case a_SIGNS => k_is)
    (case a_ACROSS => k_is)
    (case l_ACROSS => k_is)
    (case y_ACROSS => rfl)
    (case j_ACROSS => rfl)
    (case w_ACROSS => exact Nat.le_of_ble_eq_true rfl)
    (case q_ACROSS => exact .cons ⟨_, rfl⟩ (.cons ⟨_, rfl⟩ (.cons ⟨_, rfl⟩ (.cons ⟨_, rfl⟩ (.cons ⟨_, rfl⟩ (.cons ⟨_, rfl⟩ (.nil)))))))

