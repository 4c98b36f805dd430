import PyProof.Rows.All
import Wide.All
import OpenK.AllK
import Wide.FinOn
import HandS.ForMost
import HandS.Exc
import HandS.TryOnly
import HandS.ExcOwn
import HandS.WordsExc
import HandS.ExcInit
import HandS.CallLocal
import HandS.Defaults
import HandS.IsInst
import HandS.Zip
import HandS.ExcField
import KE.KExcIs
import HandS.Style
import HandS.TupAny
import HandS.Wide
import HandS.WideBits
import HandS.StrMore
import HandS.WordsDict
import HandS.DictComp
import HandS.Replace
import HandS.SetFor
import HandS.SortInts
import PyProof.Rows.RuleB_pow
import HandS.Codes
import HandS.Ends
import HandS.Text
import PyProof.AutoSeq1
import PyProof.SumWalkG
import PyProof.Rows.SeqMore
import HandS.Conv
import PySem.Challenge.RW_heardandfelt_k75_marks_shown
set_option Elab.async false
set_option linter.all false
set_option maxRecDepth 100000
set_option maxHeartbeats 2000000
/-! PbBase: data without a heap, states of data, and what readings do to them. -/
namespace PA
open PySem L2

/-- Python data: a value, a list, a list that is read alone, a tuple, a dict, an error with its value; own k: the k-th open list -/
inductive D where
  | v (x : V)
  | lst (l : List D)
  | rd (l : List D)
  | tup (l : List D)
  | dic (ks : List Key) (l : List D)
  | exc (c : Addr) (d : D)
  | own (k : Nat)

abbrev D.int (i : Int) : D := .v (.int i)
abbrev D.bl (b : Bool) : D := .v (.bl b)
abbrev D.str (s : Str) : D := .v (.str s)
abbrev D.non : D := .v .non

/-- heaps: the one stands within the other -/
def Ex (H H' : Hp) : Prop := ∀ a o, H a = some o → H' a = some o
theorem Ex.refl (H : Hp) : Ex H H := fun _ _ h => h
theorem Ex.trans {H H1 H2 : Hp} (a : Ex H H1) (b : Ex H1 H2) : Ex H H2 := fun x o h => b x o (a x o h)
theorem Ex.new {H : Hp} {p : Addr} {o : HO} (h : H p = none) : Ex H (upd H p o) := fun a u e => by
  rw [upd_ne (ne_of_none e h)]
  exact e
theorem Ex.both {G H : Hp} {p : Addr} {o : HO} (e : Ex G H) : Ex (upd G p o) (upd H p o) := fun a u h => by
  by_cases q : a = p
  · subst q
    rw [upd_same] at h ⊢
    exact h
  · rw [upd_ne q] at h ⊢
    exact e a u h
theorem Ex.side {G H : Hp} {p : Addr} {o : HO} (e : Ex G H) (h : G p = none) : Ex G (upd H p o) := fun a u q => by
  rw [upd_ne (ne_of_none q h)]
  exact e a u q
theorem Ex.free {G H : Hp} {p : Addr} (e : Ex G H) (h : H p = none) : G p = none := by
  cases q : G p with
  | none => rfl
  | some o =>
    rw [e p o q] at h
    cases h
theorem ex_rd {H H' : Hp} {a : Addr} {u : HO} (e : Ex H H') (h : Rd H a u) : Rd H' a u := by
  rcases h with h | ⟨o, h⟩
  · exact .inl (e a _ h)
  · exact .inr ⟨o, e a _ h⟩
theorem ex_l {K : PySem.W.Frag} {H H' : Hp} {a : Addr} {xs : List V} (e : Ex H H') (h : SqL K H a xs) : SqL K H' a xs := by
  rcases h with h | h
  · exact .inl (ex_rd e h)
  · exact .inr h
theorem ex_t {K : PySem.W.Frag} {H H' : Hp} {a : Addr} {xs : List V} (e : Ex H H') (h : SqT K H a xs) : SqT K H' a xs := by
  rcases h with h | h
  · exact .inl (ex_rd e h)
  · exact .inr h

/-! ### an error that is kept -/
/-- at e: an error of the class at C with its own dict at dx -/
def exq (e C dx : Addr) : HO := .ext fun h => ∃ (oe : Obj) (vs : Array Value), h.get? e = some oe ∧ oe.cls = .ref C ∧ oe.dict = some dx ∧ oe.data = .fields vs
/-- a tuple of ours, or one of the text's own -/
def TpK (K : PySem.W.Frag) (G : Hp) (a : Addr) (xs : List V) : Prop :=
  G a = some (.tup xs) ∨ ∃ (o : Obj) (its : Array Value) (n : Nat), K.lookup a = some o ∧ o.cls = .type "tuple" ∧ o.data = .seq its n ∧ its.size ≤ sizeLine ∧ Vals xs its.toList
theorem TpK.sq {K : PySem.W.Frag} {G : Hp} {a : Addr} {xs : List V} (h : TpK K G a xs) : SqT K G a xs := by
  rcases h with h | h
  · exact .inl (.inl h)
  · exact .inr h
theorem TpK.mono {K : PySem.W.Frag} {G G' : Hp} {a : Addr} {xs : List V} (e : Ex G G') (h : TpK K G a xs) : TpK K G' a xs := by
  rcases h with h | h
  · exact .inl (e _ _ h)
  · exact .inr h
/-! ### which value bears which data; A: where the open lists stand -/
mutual
inductive Rp (K : PySem.W.Frag) (A : List Addr) (G : Hp) : D → V → Prop
  | v (x : V) : Rp K A G (.v x) x
  | own {k : Nat} {a : Addr} : A[k]? = some a → Rp K A G (.own k) (.ref a)
  | lst {l : List D} {a : Addr} {xs : List V} : G a = some (.lst xs) → RpL K A G l xs → Rp K A G (.lst l) (.ref a)
  | rd {l : List D} {a : Addr} {xs : List V} : SqL K G a xs → RpL K A G l xs → Rp K A G (.rd l) (.ref a)
  | tup {l : List D} {a : Addr} {xs : List V} : TpK K G a xs → RpL K A G l xs → Rp K A G (.tup l) (.ref a)
  | dic {ks : List Key} {l : List D} {a : Addr} {xs : List V} : ks.length = xs.length → G a = some (.dK (ks.zip xs)) → RpL K A G l xs → Rp K A G (.dic ks l) (.ref a)
  | exc {c a dx : Addr} {d : D} {u : V} : G a = some (exq a c dx) → G dx = some (exd dx [(("value" : Str), u)]) → Rp K A G d u → Rp K A G (.exc c d) (.ref a)
inductive RpL (K : PySem.W.Frag) (A : List Addr) (G : Hp) : List D → List V → Prop
  | nil : RpL K A G [] []
  | cons {d : D} {v : V} {l : List D} {xs : List V} : Rp K A G d v → RpL K A G l xs → RpL K A G (d :: l) (v :: xs)
end
/-! all handles in it suit p -/
mutual
def D.hs (p : Nat → Bool) : D → Bool
  | .v _ => true
  | .own k => p k
  | .lst l => D.hsL p l
  | .rd l => D.hsL p l
  | .tup l => D.hsL p l
  | .dic _ l => D.hsL p l
  | .exc _ d => D.hs p d
def D.hsL (p : Nat → Bool) : List D → Bool
  | [] => true
  | d :: l => D.hs p d && D.hsL p l
end
/-- all handles are below n -/
abbrev D.lt (n : Nat) (d : D) : Bool := D.hs (fun k => decide (k < n)) d
abbrev D.ltL (n : Nat) (l : List D) : Bool := D.hsL (fun k => decide (k < n)) l
/-! handles moved -/
mutual
def D.ren (f : Nat → Nat) : D → D
  | .v x => .v x
  | .own k => .own (f k)
  | .lst l => .lst (D.renL f l)
  | .rd l => .rd (D.renL f l)
  | .tup l => .tup (D.renL f l)
  | .dic ks l => .dic ks (D.renL f l)
  | .exc c d => .exc c (D.ren f d)
def D.renL (f : Nat → Nat) : List D → List D
  | [] => []
  | d :: l => D.ren f d :: D.renL f l
end
/-! the open list k read as l -/
mutual
def D.sub (g : Nat → Option (List D)) : D → D
  | .v x => .v x
  | .own k => match g k with
    | some l => .lst l
    | none => .own k
  | .lst l => .lst (D.subL g l)
  | .rd l => .rd (D.subL g l)
  | .tup l => .tup (D.subL g l)
  | .dic ks l => .dic ks (D.subL g l)
  | .exc c d => .exc c (D.sub g d)
def D.subL (g : Nat → Option (List D)) : List D → List D
  | [] => []
  | d :: l => D.sub g d :: D.subL g l
end
section
variable {K : PySem.W.Frag} {G G' : Hp} {A B A' : List Addr}
theorem getE {A B : List Addr} {k : Nat} {a : Addr} (h : A[k]? = some a) : (A ++ B)[k]? = some a := by
  rw [List.getElem?_append_left (List.getElem?_eq_some_iff.mp h).1]
  exact h
mutual
theorem Rp.mono (e : Ex G G') : ∀ {d : D} {x : V}, Rp K A G d x → Rp K (A ++ B) G' d x
  | _, _, .v x => .v x
  | _, _, .own h => .own (getE h)
  | _, _, .lst h r => .lst (e _ _ h) (RpL.mono e r)
  | _, _, .rd h r => .rd (ex_l e h) (RpL.mono e r)
  | _, _, .tup h r => .tup (h.mono e) (RpL.mono e r)
  | _, _, .dic n h r => .dic n (e _ _ h) (RpL.mono e r)
  | _, _, .exc h1 h2 r => .exc (e _ _ h1) (e _ _ h2) (Rp.mono e r)
theorem RpL.mono (e : Ex G G') : ∀ {l : List D} {xs : List V}, RpL K A G l xs → RpL K (A ++ B) G' l xs
  | _, _, .nil => .nil
  | _, _, .cons h r => .cons (Rp.mono e h) (RpL.mono e r)
end
theorem Rp.mono0 (e : Ex G G') {d : D} {x : V} (h : Rp K A G d x) : Rp K A G' d x := by
  have q := Rp.mono (B := []) e h
  rw [List.append_nil] at q
  exact q
theorem RpL.mono0 (e : Ex G G') {d : List D} {x : List V} (h : RpL K A G d x) : RpL K A G' d x := by
  have q := RpL.mono (B := []) e h
  rw [List.append_nil] at q
  exact q
/-! other addresses of the open lists, the same where it matters -/
mutual
theorem Rp.ren {f : Nat → Nat} {p : Nat → Bool} (hf : ∀ k a, p k = true → A[k]? = some a → A'[f k]? = some a) : ∀ {d : D} {x : V}, Rp K A G d x → d.hs p = true → Rp K A' G (d.ren f) x
  | _, _, .v x, _ => .v x
  | _, _, .own h, hl => .own (hf _ _ hl h)
  | _, _, .lst h r, hl => .lst h (RpL.ren hf r hl)
  | _, _, .rd h r, hl => .rd h (RpL.ren hf r hl)
  | _, _, .tup h r, hl => .tup h (RpL.ren hf r hl)
  | _, _, .dic n h r, hl => .dic (n.trans rfl) h (RpL.ren hf r hl)
  | _, _, .exc h1 h2 r, hl => .exc h1 h2 (Rp.ren hf r hl)
theorem RpL.ren {f : Nat → Nat} {p : Nat → Bool} (hf : ∀ k a, p k = true → A[k]? = some a → A'[f k]? = some a) : ∀ {l : List D} {xs : List V}, RpL K A G l xs → D.hsL p l = true → RpL K A' G (D.renL f l) xs
  | _, _, .nil, _ => .nil
  | _, _, .cons (d := d) (l := l) h r, hl => by
    have hl : (D.hs p d && D.hsL p l) = true := hl
    rw [Bool.and_eq_true] at hl
    exact .cons (Rp.ren hf h hl.1) (RpL.ren hf r hl.2)
end
mutual
theorem D.ren_id {f : Nat → Nat} {p : Nat → Bool} (hf : ∀ k, p k = true → f k = k) : ∀ {d : D}, d.hs p = true → d.ren f = d
  | .v _, _ => rfl
  | .own k, h => congrArg D.own (hf k h)
  | .lst l, h => congrArg D.lst (D.renL_id hf h)
  | .rd l, h => congrArg D.rd (D.renL_id hf h)
  | .tup l, h => congrArg D.tup (D.renL_id hf h)
  | .dic ks l, h => congrArg (D.dic ks) (D.renL_id hf h)
  | .exc c d, h => congrArg (D.exc c) (D.ren_id hf h)
theorem D.renL_id {f : Nat → Nat} {p : Nat → Bool} (hf : ∀ k, p k = true → f k = k) : ∀ {l : List D}, D.hsL p l = true → D.renL f l = l
  | [], _ => rfl
  | d :: l, h => by
    have h : (D.hs p d && D.hsL p l) = true := h
    rw [Bool.and_eq_true] at h
    show D.ren f d :: D.renL f l = d :: l
    rw [D.ren_id hf h.1, D.renL_id hf h.2]
end
theorem Rp.keepP {p : Nat → Bool} (hf : ∀ k a, p k = true → A[k]? = some a → A'[k]? = some a) {d : D} {x : V} (h : Rp K A G d x) (hl : d.hs p = true) : Rp K A' G d x := by
  have q := Rp.ren (f := fun k => k) hf h hl
  rw [D.ren_id (fun _ _ => rfl) hl] at q
  exact q
theorem RpL.keepP {p : Nat → Bool} (hf : ∀ k a, p k = true → A[k]? = some a → A'[k]? = some a) {d : List D} {x : List V} (h : RpL K A G d x) (hl : D.hsL p d = true) : RpL K A' G d x := by
  have q := RpL.ren (f := fun k => k) hf h hl
  rw [D.renL_id (fun _ _ => rfl) hl] at q
  exact q
theorem Rp.keep {n : Nat} (hf : ∀ k a, k < n → A[k]? = some a → A'[k]? = some a) {d : D} {x : V} (h : Rp K A G d x) (hl : d.lt n = true) : Rp K A' G d x := h.keepP (fun k a z => hf k a (of_decide_eq_true z)) hl
theorem RpL.keep {n : Nat} (hf : ∀ k a, k < n → A[k]? = some a → A'[k]? = some a) {d : List D} {x : List V} (h : RpL K A G d x) (hl : D.ltL n d = true) : RpL K A' G d x := h.keepP (fun k a z => hf k a (of_decide_eq_true z)) hl
/-- without handles: anywhere -/
theorem Rp.cl {d : D} {x : V} (h : Rp K A G d x) (hl : d.lt 0 = true) : Rp K A' G d x := h.keep (fun k a z => absurd z (Nat.not_lt_zero k)) hl
theorem RpL.cl {d : List D} {x : List V} (h : RpL K A G d x) (hl : D.ltL 0 d = true) : RpL K A' G d x := h.keep (fun k a z => absurd z (Nat.not_lt_zero k)) hl
mutual
theorem D.hs_mono {p q : Nat → Bool} (hp : ∀ k, p k = true → q k = true) : ∀ {d : D}, d.hs p = true → d.hs q = true
  | .v _, _ => rfl
  | .own k, h => hp k h
  | .lst l, h => D.hsL_mono (l := l) hp h
  | .rd l, h => D.hsL_mono (l := l) hp h
  | .tup l, h => D.hsL_mono (l := l) hp h
  | .dic ks l, h => D.hsL_mono (l := l) hp h
  | .exc c d, h => D.hs_mono (d := d) hp h
theorem D.hsL_mono {p q : Nat → Bool} (hp : ∀ k, p k = true → q k = true) : ∀ {l : List D}, D.hsL p l = true → D.hsL q l = true
  | [], _ => rfl
  | d :: l, h => by
    have h : (D.hs p d && D.hsL p l) = true := h
    rw [Bool.and_eq_true] at h
    show (D.hs q d && D.hsL q l) = true
    rw [D.hs_mono hp h.1, D.hsL_mono hp h.2]
    rfl
end
theorem D.lt_mono {n m : Nat} (hm : n ≤ m) {d : D} (h : d.lt n = true) : d.lt m = true := D.hs_mono (fun k z => decide_eq_true (Nat.lt_of_lt_of_le (of_decide_eq_true z) hm)) h
theorem D.ltL_mono {n m : Nat} (hm : n ≤ m) {l : List D} (h : D.ltL n l = true) : D.ltL m l = true := D.hsL_mono (fun k z => decide_eq_true (Nat.lt_of_lt_of_le (of_decide_eq_true z) hm)) h
theorem D.hsL_all {p : Nat → Bool} : ∀ {l : List D}, D.hsL p l = true ↔ ∀ d ∈ l, d.hs p = true
  | [] => ⟨fun _ d h => (by cases h), fun _ => rfl⟩
  | d :: l => by
    show (D.hs p d && D.hsL p l) = true ↔ _
    rw [Bool.and_eq_true, D.hsL_all (l := l)]
    constructor
    · rintro ⟨h1, h2⟩ x hx
      rcases List.mem_cons.mp hx with rfl | hx
      · exact h1
      · exact h2 x hx
    · intro h
      exact ⟨h d List.mem_cons_self, fun x hx => h x (List.mem_cons_of_mem _ hx)⟩
theorem D.ltL_all {n : Nat} {l : List D} : D.ltL n l = true ↔ ∀ d ∈ l, d.lt n = true := D.hsL_all
/-! some open lists read as they stand -/
mutual
theorem Rp.sub {g : Nat → Option (List D)} (e : Ex G G') (hg : ∀ k a l, A[k]? = some a → g k = some l → ∃ xs, G' a = some (.lst xs) ∧ RpL K A G' l xs) : ∀ {d : D} {x : V}, Rp K A G d x → Rp K A G' (d.sub g) x
  | _, _, .v x => .v x
  | _, _, .own (k := k) h => by
    show Rp K A G' (match g k with | some l => .lst l | none => .own k) _
    cases q : g k with
    | none => exact .own h
    | some l =>
      obtain ⟨xs, h1, h2⟩ := hg k _ l h q
      exact .lst h1 h2
  | _, _, .lst h r => .lst (e _ _ h) (RpL.sub e hg r)
  | _, _, .rd h r => .rd (ex_l e h) (RpL.sub e hg r)
  | _, _, .tup h r => .tup (h.mono e) (RpL.sub e hg r)
  | _, _, .dic n h r => .dic n (e _ _ h) (RpL.sub e hg r)
  | _, _, .exc h1 h2 r => .exc (e _ _ h1) (e _ _ h2) (Rp.sub e hg r)
theorem RpL.sub {g : Nat → Option (List D)} (e : Ex G G') (hg : ∀ k a l, A[k]? = some a → g k = some l → ∃ xs, G' a = some (.lst xs) ∧ RpL K A G' l xs) : ∀ {l : List D} {xs : List V}, RpL K A G l xs → RpL K A G' (D.subL g l) xs
  | _, _, .nil => .nil
  | _, _, .cons h r => .cons (Rp.sub e hg h) (RpL.sub e hg r)
end
theorem RpL.len : ∀ {l : List D} {xs : List V}, RpL K A G l xs → l.length = xs.length
  | _, _, .nil => rfl
  | _, _, .cons _ r => congrArg Nat.succ (RpL.len r)
theorem RpL.get : ∀ {l : List D} {xs : List V} {i : Nat} {d : D}, RpL K A G l xs → l[i]? = some d → ∃ x, xs[i]? = some x ∧ Rp K A G d x
  | _, _, _, _, .nil, e => by simp at e
  | _, _, 0, _, .cons h _, e => by simp at e; subst e; exact ⟨_, rfl, h⟩
  | _, _, i + 1, d, .cons _ r, e => by
    obtain ⟨x, h1, h2⟩ := RpL.get (i := i) (d := d) r (by simpa using e)
    exact ⟨x, by simpa using h1, h2⟩
theorem RpL.got : ∀ {l : List D} {xs : List V} {i : Nat} {x : V}, RpL K A G l xs → xs[i]? = some x → ∃ d, l[i]? = some d ∧ Rp K A G d x
  | _, _, _, _, .nil, e => by simp at e
  | _, _, 0, _, .cons h _, e => by simp at e; subst e; exact ⟨_, rfl, h⟩
  | _, _, i + 1, x, .cons _ r, e => by
    obtain ⟨d, h1, h2⟩ := RpL.got (i := i) (x := x) r (by simpa using e)
    exact ⟨d, by simpa using h1, h2⟩
theorem RpL.append : ∀ {l m : List D} {xs ys : List V}, RpL K A G l xs → RpL K A G m ys → RpL K A G (l ++ m) (xs ++ ys)
  | _, _, _, _, .nil, s => s
  | _, _, _, _, .cons h r, s => .cons h (RpL.append r s)
theorem RpL.set {d : D} {x : V} (h : Rp K A G d x) : ∀ {l : List D} {xs : List V} (i : Nat), RpL K A G l xs → RpL K A G (l.set i d) (xs.set i x)
  | _, _, _, .nil => .nil
  | _, _, 0, .cons _ r => .cons h r
  | _, _, i + 1, .cons q r => .cons q (RpL.set h i r)
theorem RpL.drop : ∀ {l : List D} {xs : List V} (n : Nat), RpL K A G l xs → RpL K A G (l.drop n) (xs.drop n)
  | _, _, 0, r => r
  | _, _, _ + 1, .nil => .nil
  | _, _, n + 1, .cons _ r => RpL.drop n r
theorem RpL.take : ∀ {l : List D} {xs : List V} (n : Nat), RpL K A G l xs → RpL K A G (l.take n) (xs.take n)
  | _, _, 0, _ => .nil
  | _, _, _ + 1, .nil => .nil
  | _, _, n + 1, .cons h r => .cons h (RpL.take n r)
theorem RpL.reverse {l : List D} {xs : List V} (r : RpL K A G l xs) : RpL K A G l.reverse xs.reverse := by
  have key : ∀ {l m : List D} {xs ys : List V}, RpL K A G l xs → RpL K A G m ys → RpL K A G (l.reverseAux m) (xs.reverseAux ys) := by
    intro l
    induction l with
    | nil =>
      intro m xs ys h s
      cases h
      exact s
    | cons d l ih =>
      intro m xs ys h s
      cases h with
      | cons h r =>
        have q := ih r (RpL.cons h s)
        exact q
  exact key r .nil
/-- values themselves -/
theorem RpL.vals : ∀ (xs : List V), RpL K A G (xs.map D.v) xs
  | [] => .nil
  | x :: xs => .cons (.v x) (RpL.vals xs)
theorem RpL.of_vals : ∀ {ys xs : List V}, RpL K A G (ys.map D.v) xs → xs = ys
  | [], _, h => by cases h; rfl
  | y :: ys, _, h => by
    cases h with
    | cons h r =>
      cases h
      rw [RpL.of_vals r]
theorem Rp.vOf {x u : V} (h : Rp K A G (.v x) u) : u = x := by cases h; rfl
end

/-! ### states -/
/-- an open list; one that is shut -/
inductive Cell where
  | lst (l : List D)
  | off
def CellAt (K : PySem.W.Frag) (A : List Addr) (G H : Hp) (a : Addr) : Cell → Prop
  | .lst l => G a = none ∧ ∃ xs, H a = some (.lst xs) ∧ RpL K A G l xs
  | .off => True
abbrev Sl := List (Option D)
/-- the slots -/
inductive En (K : PySem.W.Frag) (A : List Addr) (G : Hp) : Sl → St → Prop
  | nil : En K A G [] []
  | skip {δ : Sl} {σ : St} {o : Option V} : En K A G δ σ → En K A G (none :: δ) (o :: σ)
  | cons {δ : Sl} {σ : St} {d : D} {v : V} : Rp K A G d v → En K A G δ σ → En K A G (some d :: δ) (some v :: σ)
/-- where a def began -/
structure Bs where
  A : List Addr
  G : Hp
  H : Hp
structure Mem (K : PySem.W.Frag) (S : Bs) (A : List Addr) (G H : Hp) (μ : List Cell) : Prop where
  ex : Ex G H
  exG : Ex S.G G
  pre : ∃ B, A = S.A ++ B ∧ ∀ b ∈ B, S.H b = none
  new : ∀ p, G p ≠ none → S.G p ≠ none ∨ S.H p = none
  keep : ∀ a o, a ∉ S.A → S.H a = some o → H a = some o
  cel : ∀ (k : Nat) (a : Addr) (c : Cell), A[k]? = some a → μ[k]? = some c → CellAt K A G H a c
  len : A.length = μ.length
  nd : A.Nodup
  al : ∀ a ∈ A, H a ≠ none
structure At (K : PySem.W.Frag) (S : Bs) (A : List Addr) (G H : Hp) (σ : St) (δ : Sl) (μ : List Cell) : Prop where
  m : Mem K S A G H μ
  env : En K A G δ σ
section
variable {K : PySem.W.Frag} {S : Bs} {A B : List Addr} {G G' H H' : Hp} {σ : St} {δ : Sl} {μ : List Cell}
theorem En.mono (e : Ex G G') : ∀ {δ : Sl} {σ : St}, En K A G δ σ → En K (A ++ B) G' δ σ
  | _, _, .nil => .nil
  | _, _, .skip r => .skip (En.mono e r)
  | _, _, .cons h r => .cons (h.mono e) (En.mono e r)
theorem En.mono0 (e : Ex G G') {δ : Sl} {σ : St} (h : En K A G δ σ) : En K A G' δ σ := by
  have q := En.mono (B := []) e h
  rw [List.append_nil] at q
  exact q
theorem En.get : ∀ {δ : Sl} {σ : St} {i : Nat} {d : D}, En K A G δ σ → δ[i]? = some (some d) → ∃ v, σ[i]? = some (some v) ∧ Rp K A G d v
  | _, _, _, _, .nil, e => by simp at e
  | _, _, 0, _, .skip _, e => by simp at e
  | _, _, 0, _, .cons h _, e => by simp at e; subst e; exact ⟨_, rfl, h⟩
  | _, _, i + 1, d, .skip r, e => by
    obtain ⟨v, h1, h2⟩ := En.get (i := i) (d := d) r (by simpa using e)
    exact ⟨v, by simpa using h1, h2⟩
  | _, _, i + 1, d, .cons _ r, e => by
    obtain ⟨v, h1, h2⟩ := En.get (i := i) (d := d) r (by simpa using e)
    exact ⟨v, by simpa using h1, h2⟩
theorem En.set {d : D} {v : V} (h : Rp K A G d v) : ∀ {δ : Sl} {σ : St} (i : Nat), En K A G δ σ → En K A G (δ.set i (some d)) (σ.set i (some v))
  | _, _, _, .nil => .nil
  | _, _, 0, .skip r => .cons h r
  | _, _, 0, .cons _ r => .cons h r
  | _, _, i + 1, .skip r => .skip (En.set h i r)
  | _, _, i + 1, .cons q r => .cons q (En.set h i r)
theorem En.unset : ∀ {δ : Sl} {σ : St} (i : Nat) (o : Option V), En K A G δ σ → En K A G (δ.set i none) (σ.set i o)
  | _, _, _, _, .nil => .nil
  | _, _, 0, _, .skip r => .skip r
  | _, _, 0, _, .cons _ r => .skip r
  | _, _, i + 1, o, .skip r => .skip (En.unset i o r)
  | _, _, i + 1, o, .cons q r => .cons q (En.unset i o r)
/-- forgetting slots -/
inductive Less : Sl → Sl → Prop
  | nil : Less [] []
  | drop {δ ε : Sl} {o : Option D} : Less δ ε → Less (o :: δ) (none :: ε)
  | keep {δ ε : Sl} {o : Option D} : Less δ ε → Less (o :: δ) (o :: ε)
theorem En.less : ∀ {δ ε : Sl} {σ : St}, En K A G δ σ → Less δ ε → En K A G ε σ
  | _, _, _, .nil, .nil => .nil
  | _, _, _, .skip r, .drop l => .skip (En.less r l)
  | _, _, _, .skip r, .keep l => .skip (En.less r l)
  | _, _, _, .cons _ r, .drop l => .skip (En.less r l)
  | _, _, _, .cons h r, .keep l => .cons h (En.less r l)
theorem Less.refl : ∀ δ : Sl, Less δ δ
  | [] => .nil
  | _ :: δ => .keep (Less.refl δ)

/-- new objects came, nothing else -/
theorem Mem.grow (m : Mem K S A G H μ) (e : Ex G' H') (eG : Ex G G') (eH : Ex H H') (n : ∀ p, G' p ≠ none → G p ≠ none ∨ H p = none) : Mem K S A G' H' μ where
  ex := e
  exG := m.exG.trans eG
  pre := m.pre
  new := fun p hp => by
    rcases n p hp with h | h
    · exact m.new p h
    · by_cases ha : p ∈ S.A
      · obtain ⟨B, hB, _⟩ := m.pre
        exact absurd h (m.al p (by rw [hB]; exact List.mem_append_left _ ha))
      · cases q : S.H p with
        | none => exact .inr rfl
        | some o =>
          rw [m.keep p o ha q] at h
          cases h
  keep := fun a o h1 h2 => eH _ _ (m.keep a o h1 h2)
  cel := fun k a c h1 h2 => by
    have q := m.cel k a c h1 h2
    cases c with
    | off => trivial
    | lst l =>
      obtain ⟨g, xs, hx, r⟩ := q
      refine ⟨?_, xs, eH _ _ hx, r.mono0 eG⟩
      cases z : G' a with
      | none => rfl
      | some o =>
        rcases n a (by rw [z]; exact fun h => nomatch h) with h | h
        · exact absurd g h
        · rw [hx] at h
          cases h
  len := m.len
  nd := m.nd
  al := fun a ha h => by
    cases q : H a with
    | none => exact m.al a ha q
    | some o =>
      rw [eH a o q] at h
      cases h
/-- a new object that is known -/
theorem Mem.laid (m : Mem K S A G H μ) {p : Addr} {o : HO} (hp : H p = none) : Mem K S A (upd G p o) (upd H p o) μ :=
  m.grow (Ex.both m.ex) (Ex.new (m.ex.free hp)) (Ex.new hp) fun q h => by
    by_cases e : q = p
    · exact .inr (by rw [e]; exact hp)
    · rw [upd_ne e] at h
      exact .inl h
/-- a new open list -/
theorem Mem.opened (m : Mem K S A G H μ) {p : Addr} {xs : List V} {l : List D} (hp : H p = none) (r : RpL K A G l xs) : Mem K S (A ++ [p]) G (upd H p (.lst xs)) (μ ++ [.lst l]) where
  ex := m.ex.side (m.ex.free hp)
  exG := m.exG
  pre := by
    obtain ⟨B, hB, hb⟩ := m.pre
    refine ⟨B ++ [p], by rw [hB, List.append_assoc], fun b h => ?_⟩
    rcases List.mem_append.mp h with h | h
    · exact hb b h
    · have e : b = p := by simpa using h
      subst e
      by_cases ha : b ∈ S.A
      · exact absurd hp (m.al b (by rw [hB]; exact List.mem_append_left _ ha))
      · cases q : S.H b with
        | none => rfl
        | some o =>
          rw [m.keep b o ha q] at hp
          cases hp
  new := m.new
  keep := fun a o h1 h2 => by
    have q := m.keep a o h1 h2
    rw [upd_ne (ne_of_none q hp)]
    exact q
  cel := fun k a c h1 h2 => by
    by_cases hk : k < A.length
    · rw [List.getElem?_append_left hk] at h1
      rw [List.getElem?_append_left (by rw [← m.len]; exact hk)] at h2
      have q := m.cel k a c h1 h2
      cases c with
      | off => trivial
      | lst l' =>
        obtain ⟨g, ys, hy, r'⟩ := q
        exact ⟨g, ys, by rw [upd_ne (ne_of_none hy hp)]; exact hy, r'.mono (Ex.refl G)⟩
    · have e1 : k = A.length := by
        have z := (List.getElem?_eq_some_iff.mp h1).1
        rw [List.length_append, List.length_singleton] at z
        omega
      subst e1
      rw [List.getElem?_append_right (Nat.le_refl _), Nat.sub_self] at h1
      rw [List.getElem?_append_right (by rw [m.len]; exact Nat.le_refl _), m.len, Nat.sub_self] at h2
      cases h1
      cases h2
      exact ⟨m.ex.free hp, xs, upd_same, r.mono (Ex.refl G)⟩
  len := by rw [List.length_append, List.length_append, m.len]; rfl
  nd := by
    refine List.nodup_append.mpr ⟨m.nd, by simp, fun a ha b hb e => ?_⟩
    have e2 : b = p := by simpa using hb
    rw [e, e2] at ha
    exact m.al p ha hp
  al := fun a ha h => by
    rcases List.mem_append.mp ha with ha | ha
    · by_cases e : a = p
      · rw [e] at ha
        exact m.al p ha hp
      · rw [upd_ne e] at h
        exact m.al a ha h
    · have e2 : a = p := by simpa using ha
      rw [e2, upd_same] at h
      cases h
/-- an open list is changed -/
theorem Mem.wrote (m : Mem K S A G H μ) {k : Nat} {a : Addr} {xs : List V} {l l' : List D} (hA : A[k]? = some a) (hc : μ[k]? = some (.lst l)) (r : RpL K A G l' xs) : Mem K S A G (upd H a (.lst xs)) (μ.set k (.lst l')) where
  ex := m.ex.side (m.cel k a _ hA hc).1
  exG := m.exG
  pre := m.pre
  new := m.new
  keep := fun b o h1 h2 => by
    by_cases e : b = a
    · subst e
      obtain ⟨B, hB, hb⟩ := m.pre
      have hm : b ∈ A := List.mem_of_getElem? hA
      rw [hB] at hm
      rcases List.mem_append.mp hm with q | q
      · exact absurd q h1
      · rw [hb b q] at h2
        cases h2
    · rw [upd_ne e]
      exact m.keep b o h1 h2
  cel := fun j b c h1 h2 => by
    by_cases e : j = k
    · subst e
      rw [hA] at h1
      cases h1
      rw [List.getElem?_set_self (List.getElem?_eq_some_iff.mp hc).1] at h2
      cases h2
      exact ⟨(m.cel j a _ hA hc).1, xs, upd_same, r⟩
    · rw [List.getElem?_set_ne (Ne.symm e)] at h2
      have q := m.cel j b c h1 h2
      cases c with
      | off => trivial
      | lst l2 =>
        obtain ⟨g, ys, hy, r'⟩ := q
        refine ⟨g, ys, ?_, r'⟩
        rw [upd_ne (fun z => ?_)]
        · exact hy
        · subst z
          obtain ⟨q1, e1⟩ := List.getElem?_eq_some_iff.mp h1
          obtain ⟨q2, e2⟩ := List.getElem?_eq_some_iff.mp hA
          exact e ((List.getElem_inj m.nd).mp (e1.trans e2.symm))
  len := by rw [List.length_set]; exact m.len
  nd := m.nd
  al := fun b hb h => by
    by_cases e : b = a
    · rw [e, upd_same] at h
      cases h
    · rw [upd_ne e] at h
      exact m.al b hb h
/-- an open list of one's own is shut: from now on it is plain data -/
theorem Mem.shut (m : Mem K S A G H μ) {k : Nat} {a : Addr} {xs : List V} {l : List D} (hk : S.A.length ≤ k) (hA : A[k]? = some a) (hc : μ[k]? = some (.lst l)) (hx : H a = some (.lst xs)) : Mem K S A (upd G a (.lst xs)) H (μ.set k .off) := by
  have g := (m.cel k a _ hA hc).1
  have eH : Ex (upd G a (.lst xs)) H := fun b o h => by
    by_cases e : b = a
    · rw [e, upd_same] at h
      cases h
      rw [e]
      exact hx
    · rw [upd_ne e] at h
      exact m.ex b o h
  exact {
    ex := eH
    exG := m.exG.trans (Ex.new g)
    pre := m.pre
    new := fun p hp => by
      by_cases e : p = a
      · obtain ⟨B, hB, hb⟩ := m.pre
        refine .inr ?_
        rw [e]
        refine hb a ?_
        rw [hB, List.getElem?_append_right hk] at hA
        exact List.mem_of_getElem? hA
      · rw [upd_ne e] at hp
        exact m.new p hp
    keep := m.keep
    cel := fun j b c h1 h2 => by
      by_cases e : j = k
      · subst e
        rw [List.getElem?_set_self (List.getElem?_eq_some_iff.mp hc).1] at h2
        cases h2
        trivial
      · rw [List.getElem?_set_ne (Ne.symm e)] at h2
        have q := m.cel j b c h1 h2
        cases c with
        | off => trivial
        | lst l2 =>
          obtain ⟨g2, ys, hy, r'⟩ := q
          refine ⟨?_, ys, hy, r'.mono0 (Ex.new g)⟩
          rw [upd_ne (fun z => ?_)]
          · exact g2
          · subst z
            obtain ⟨q1, e1⟩ := List.getElem?_eq_some_iff.mp h1
            obtain ⟨q2, e2⟩ := List.getElem?_eq_some_iff.mp hA
            exact e ((List.getElem_inj m.nd).mp (e1.trans e2.symm))
    len := by rw [List.length_set]; exact m.len
    nd := m.nd
    al := m.al }
end
end PA

set_option Elab.async false
set_option linter.all false
set_option maxRecDepth 100000
set_option maxHeartbeats 2000000
/-! PbRules: what readings do to states of data. -/
namespace PA
open PySem L2

/-- later: more open lists, more known -/
structure Nw (A : List Addr) (G : Hp) (A' : List Addr) (G' : Hp) : Prop where
  pre : ∃ B, A' = A ++ B
  ex : Ex G G'
section
variable {K : PySem.W.Frag} {S : Bs} {A A' A2 : List Addr} {G G' G2 H H' : Hp} {σ : St} {δ : Sl} {μ : List Cell}
theorem Nw.refl : Nw A G A G := ⟨⟨[], (List.append_nil A).symm⟩, Ex.refl G⟩
theorem Nw.of (e : Ex G G') : Nw A G A G' := ⟨⟨[], (List.append_nil A).symm⟩, e⟩
theorem Nw.trans (a : Nw A G A' G') (b : Nw A' G' A2 G2) : Nw A G A2 G2 := by
  obtain ⟨⟨B, hB⟩, e1⟩ := a
  obtain ⟨⟨B', hB'⟩, e2⟩ := b
  exact ⟨⟨B ++ B', by rw [hB', hB, List.append_assoc]⟩, e1.trans e2⟩
theorem Nw.rp (n : Nw A G A' G') {d : D} {x : V} (h : Rp K A G d x) : Rp K A' G' d x := by
  obtain ⟨⟨B, hB⟩, e⟩ := n
  subst hB
  exact h.mono e
theorem Nw.rpl (n : Nw A G A' G') {l : List D} {xs : List V} (h : RpL K A G l xs) : RpL K A' G' l xs := by
  obtain ⟨⟨B, hB⟩, e⟩ := n
  subst hB
  exact h.mono e
theorem Nw.en (n : Nw A G A' G') (h : En K A G δ σ) : En K A' G' δ σ := by
  obtain ⟨⟨B, hB⟩, e⟩ := n
  subst hB
  exact h.mono e
end

/-! ### the judgements -/
def EE (K : PySem.W.Frag) (S : Bs) (te : TE) (δ : Sl) (μ : List Cell) (C : D → List Cell → Prop) : Prop :=
  ∀ A G H σ, At K S A G H σ δ μ → ∀ Q : VK, (∀ v d A' G' H' μ', Mem K S A' G' H' μ' → Nw A G A' G' → Rp K A' G' d v → C d μ' → Q v H') → te σ H Q
def ET (K : PySem.W.Frag) (S : Bs) (t : TT) (δ : Sl) (μ : List Cell) (C : Bool → List Cell → Prop) : Prop :=
  ∀ A G H σ, At K S A G H σ δ μ → ∀ Q : Bool → Hp → Prop, (∀ b A' G' H' μ', Mem K S A' G' H' μ' → Nw A G A' G' → C b μ' → Q b H') → t σ H Q
def EA (K : PySem.W.Frag) (S : Bs) (t : TA) (δ : Sl) (μ : List Cell) (C : List D → List Cell → Prop) : Prop :=
  ∀ A G H σ, At K S A G H σ δ μ → ∀ Q : List V → Hp → Prop, (∀ vs ds A' G' H' μ', Mem K S A' G' H' μ' → Nw A G A' G' → RpL K A' G' ds vs → C ds μ' → Q vs H') → t σ H Q
def EO (K : PySem.W.Frag) (S : Bs) (t : TO) (δ : Sl) (μ : List Cell) (C : Option Int → List Cell → Prop) : Prop :=
  ∀ A G H σ, At K S A G H σ δ μ → ∀ Q : Option Int → Hp → Prop, (∀ o A' G' H' μ', Mem K S A' G' H' μ' → Nw A G A' G' → C o μ' → Q o H') → t σ H Q
/-- two-place operations, one-place ones, calls, methods -/
def OO (K : PySem.W.Frag) (S : Bs) (r : R2) (x y : D) (μ : List Cell) (C : D → List Cell → Prop) : Prop :=
  ∀ A G H u w, Mem K S A G H μ → Rp K A G x u → Rp K A G y w → ∀ Q : VK, (∀ v d A' G' H' μ', Mem K S A' G' H' μ' → Nw A G A' G' → Rp K A' G' d v → C d μ' → Q v H') → r u w H Q
def UU (K : PySem.W.Frag) (S : Bs) (r : V → Hp → VK → Prop) (x : D) (μ : List Cell) (C : D → List Cell → Prop) : Prop :=
  ∀ A G H u, Mem K S A G H μ → Rp K A G x u → ∀ Q : VK, (∀ v d A' G' H' μ', Mem K S A' G' H' μ' → Nw A G A' G' → Rp K A' G' d v → C d μ' → Q v H') → r u H Q
def CC (K : PySem.W.Frag) (S : Bs) (r : List V → Hp → VK → Prop) (ds : List D) (μ : List Cell) (C : D → List Cell → Prop) : Prop :=
  ∀ A G H vs, Mem K S A G H μ → RpL K A G ds vs → ∀ Q : VK, (∀ v d A' G' H' μ', Mem K S A' G' H' μ' → Nw A G A' G' → Rp K A' G' d v → C d μ' → Q v H') → r vs H Q
def MM (K : PySem.W.Frag) (S : Bs) (r : V → List V → Hp → VK → Prop) (x : D) (ds : List D) (μ : List Cell) (C : D → List Cell → Prop) : Prop :=
  ∀ A G H u vs, Mem K S A G H μ → Rp K A G x u → RpL K A G ds vs → ∀ Q : VK, (∀ v d A' G' H' μ', Mem K S A' G' H' μ' → Nw A G A' G' → Rp K A' G' d v → C d μ' → Q v H') → r u vs H Q
/-- where statements go -/
structure Cn where
  nx : Sl → List Cell → Prop
  rt : D → List Cell → Prop
  bk : Sl → List Cell → Prop := fun _ _ => False
  ct : Sl → List Cell → Prop := fun _ _ => False
structure Fi (K : PySem.W.Frag) (S : Bs) (A0 : List Addr) (G0 : Hp) (E : Ends) (C : Cn) : Prop where
  nx : ∀ A G H σ δ μ, At K S A G H σ δ μ → Nw A0 G0 A G → C.nx δ μ → E.nx σ H
  rt : ∀ A G H v d μ, Mem K S A G H μ → Rp K A G d v → C.rt d μ → E.rt v H
  bk : ∀ A G H σ δ μ, At K S A G H σ δ μ → Nw A0 G0 A G → C.bk δ μ → E.bk σ H
  ct : ∀ A G H σ δ μ, At K S A G H σ δ μ → Nw A0 G0 A G → C.ct δ μ → E.ct σ H
def SE (K : PySem.W.Frag) (S : Bs) (t : TS) (δ : Sl) (μ : List Cell) (C : Cn) : Prop :=
  ∀ A G H σ, At K S A G H σ δ μ → ∀ E : Ends, Fi K S A G E C → t E σ H
def GE (K : PySem.W.Frag) (S : Bs) (g : TG) (d : D) (δ : Sl) (μ : List Cell) (C : Sl → List Cell → Prop) : Prop :=
  ∀ A G H σ v, At K S A G H σ δ μ → Rp K A G d v → ∀ Q : St → Hp → Prop, (∀ A' G' H' σ' δ' μ', At K S A' G' H' σ' δ' μ' → Nw A G A' G' → C δ' μ' → Q σ' H') → g v σ H Q

section
variable {K : PySem.W.Frag} {S : Bs} {δ ε : Sl} {μ : List Cell} {ta tb tc te : TE} {t u : TT} {C : D → List Cell → Prop}
/-! ### expressions -/
theorem ee_var {i : Nat} {d : D} (h : δ[i]? = some (some d)) (k : C d μ) : EE K S (tVar i) δ μ C := fun A G H σ a Q q => by
  obtain ⟨v, h1, h2⟩ := a.env.get h
  exact ⟨v, h1, q v d A G H μ a.m Nw.refl h2 k⟩
theorem ee_c {x : V} (k : C (.v x) μ) : EE K S (tC x) δ μ C := fun A G H σ a Q q => q x (.v x) A G H μ a.m Nw.refl (.v x) k
theorem ee_op {r : R2} (h : EE K S ta δ μ fun x μ1 => EE K S tb δ μ1 fun y μ2 => OO K S r x y μ2 C) : EE K S (tOp r ta tb) δ μ C := fun A G H σ a Q q =>
  h A G H σ a _ fun v x A1 G1 H1 μ1 m1 n1 r1 h1 => h1 A1 G1 H1 σ ⟨m1, n1.en a.env⟩ _ fun w y A2 G2 H2 μ2 m2 n2 r2 h2 =>
    h2 A2 G2 H2 v w m2 (n2.rp r1) r2 Q fun z d A3 G3 H3 μ3 m3 n3 r3 c => q z d A3 G3 H3 μ3 m3 ((n1.trans n2).trans n3) r3 c
theorem ee_un {r : V → Hp → VK → Prop} (h : EE K S ta δ μ fun x μ1 => UU K S r x μ1 C) : EE K S (tUn r ta) δ μ C := fun A G H σ a Q q =>
  h A G H σ a _ fun v x A1 G1 H1 μ1 m1 n1 r1 h1 => h1 A1 G1 H1 v m1 r1 Q fun z d A3 G3 H3 μ3 m3 n3 r3 c => q z d A3 G3 H3 μ3 m3 (n1.trans n3) r3 c
theorem ee_cb {r : List V → Hp → VK → Prop} {ts : TA} (h : EA K S ts δ μ fun ds μ1 => CC K S r ds μ1 C) : EE K S (tCB r ts) δ μ C := fun A G H σ a Q q =>
  h A G H σ a _ fun vs ds A1 G1 H1 μ1 m1 n1 r1 h1 => h1 A1 G1 H1 vs m1 r1 Q fun z d A3 G3 H3 μ3 m3 n3 r3 c => q z d A3 G3 H3 μ3 m3 (n1.trans n3) r3 c
theorem ea_nil {C : List D → List Cell → Prop} (k : C [] μ) : EA K S tNil δ μ C := fun A G H σ a Q q => q [] [] A G H μ a.m Nw.refl .nil k
theorem ea_cons {ts : TA} {C : List D → List Cell → Prop} (h : EE K S te δ μ fun x μ1 => EA K S ts δ μ1 fun ds μ2 => C (x :: ds) μ2) : EA K S (tCons te ts) δ μ C := fun A G H σ a Q q =>
  h A G H σ a _ fun v x A1 G1 H1 μ1 m1 n1 r1 h1 => h1 A1 G1 H1 σ ⟨m1, n1.en a.env⟩ _ fun vs ds A2 G2 H2 μ2 m2 n2 r2 c => q (v :: vs) (x :: ds) A2 G2 H2 μ2 m2 (n1.trans n2) (.cons (n2.rp r1) r2) c
theorem small {n : Nat} (h : n ≤ 10000000) : n ≤ sizeLine := Nat.le_trans h (by decide)
theorem smalr {n : Nat} (h : n < 10000000) : n < sizeLine := Nat.lt_of_lt_of_le h (by decide)
theorem ee_tup {ts : TA} (h : EA K S ts δ μ fun ds μ1 => ds.length ≤ 10000000 ∧ C (.tup ds) μ1) : EE K S (tTup ts) δ μ C := fun A G H σ a Q q =>
  h A G H σ a _ fun vs ds A1 G1 H1 μ1 m1 n1 r ⟨hl, c⟩ => by
    refine ⟨small (by rw [← r.len]; exact hl), fun p hp => ?_⟩
    have e := Ex.new (o := .tup vs) (m1.ex.free hp)
    exact q _ _ A1 _ _ μ1 (m1.laid hp) (n1.trans (.of e)) (.tup (.inl upd_same) (r.mono0 e)) c
theorem ee_lst {ts : TA} (h : EA K S ts δ μ fun ds μ1 => ds.length ≤ 10000000 ∧ C (.lst ds) μ1) : EE K S (tLst ts) δ μ C := fun A G H σ a Q q =>
  h A G H σ a _ fun vs ds A1 G1 H1 μ1 m1 n1 r ⟨hl, c⟩ => by
    refine ⟨small (by rw [← r.len]; exact hl), fun p hp => ?_⟩
    have e := Ex.new (o := .lst vs) (m1.ex.free hp)
    exact q _ _ A1 _ _ μ1 (m1.laid hp) (n1.trans (.of e)) (.lst upd_same (r.mono0 e)) c
/-- a list that is to be changed -/
theorem ee_open {ts : TA} (h : EA K S ts δ μ fun ds μ1 => ds.length ≤ 10000000 ∧ C (.own μ1.length) (μ1 ++ [.lst ds])) : EE K S (tLst ts) δ μ C := fun A G H σ a Q q =>
  h A G H σ a _ fun vs ds A1 G1 H1 μ1 m1 n1 r ⟨hl, c⟩ => by
    refine ⟨small (by rw [← r.len]; exact hl), fun p hp => ?_⟩
    refine q _ _ (A1 ++ [p]) G1 _ _ (m1.opened hp r) (n1.trans ⟨⟨[p], rfl⟩, Ex.refl _⟩) (.own ?_) c
    rw [← m1.len, List.getElem?_append_right (Nat.le_refl _), Nat.sub_self]
    rfl
theorem ee_andV (h : EE K S ta δ μ fun x μ1 => ∃ b, x = .bl b ∧ (b = true → EE K S tb δ μ1 C) ∧ (b = false → C (.bl false) μ1)) : EE K S (tAndV ta tb) δ μ C := fun A G H σ a Q q =>
  h A G H σ a _ fun v x A1 G1 H1 μ1 m1 n1 r1 ⟨b, e, h1, h2⟩ => by
    subst e
    have ev := r1.vOf
    subst ev
    refine ⟨b, rfl, ?_⟩
    cases b with
    | true =>
      rw [if_pos rfl]
      exact h1 rfl A1 G1 H1 σ ⟨m1, n1.en a.env⟩ Q fun z d A3 G3 H3 μ3 m3 n3 r3 c => q z d A3 G3 H3 μ3 m3 (n1.trans n3) r3 c
    | false =>
      rw [if_neg Bool.false_ne_true]
      exact q _ _ A1 G1 H1 μ1 m1 n1 r1 (h2 rfl)
theorem ee_orV (h : EE K S ta δ μ fun x μ1 => ∃ b, x = .bl b ∧ (b = true → C (.bl true) μ1) ∧ (b = false → EE K S tb δ μ1 C)) : EE K S (tOrV ta tb) δ μ C := fun A G H σ a Q q =>
  h A G H σ a _ fun v x A1 G1 H1 μ1 m1 n1 r1 ⟨b, e, h1, h2⟩ => by
    subst e
    have ev := r1.vOf
    subst ev
    refine ⟨b, rfl, ?_⟩
    cases b with
    | true =>
      rw [if_pos rfl]
      exact q _ _ A1 G1 H1 μ1 m1 n1 r1 (h1 rfl)
    | false =>
      rw [if_neg Bool.false_ne_true]
      exact h2 rfl A1 G1 H1 σ ⟨m1, n1.en a.env⟩ Q fun z d A3 G3 H3 μ3 m3 n3 r3 c => q z d A3 G3 H3 μ3 m3 (n1.trans n3) r3 c
theorem ee_notV (h : EE K S ta δ μ fun x μ1 => ∃ b, x = .bl b ∧ C (.bl (!b)) μ1) : EE K S (tNotV ta) δ μ C := fun A G H σ a Q q =>
  h A G H σ a _ fun v x A1 G1 H1 μ1 m1 n1 r1 ⟨b, e, h1⟩ => by
    subst e
    have ev := r1.vOf
    subst ev
    exact ⟨b, rfl, q _ _ A1 G1 H1 μ1 m1 n1 (.v _) h1⟩
theorem ee_if (h : ET K S t δ μ fun b μ1 => (b = true → EE K S ta δ μ1 C) ∧ (b = false → EE K S tb δ μ1 C)) : EE K S (tIf t ta tb) δ μ C := fun A G H σ a Q q =>
  h A G H σ a _ fun b A1 G1 H1 μ1 m1 n1 ⟨h1, h2⟩ => by
    cases b with
    | true =>
      rw [if_pos rfl]
      exact h1 rfl A1 G1 H1 σ ⟨m1, n1.en a.env⟩ Q fun z d A3 G3 H3 μ3 m3 n3 r3 c => q z d A3 G3 H3 μ3 m3 (n1.trans n3) r3 c
    | false =>
      rw [if_neg Bool.false_ne_true]
      exact h2 rfl A1 G1 H1 σ ⟨m1, n1.en a.env⟩ Q fun z d A3 G3 H3 μ3 m3 n3 r3 c => q z d A3 G3 H3 μ3 m3 (n1.trans n3) r3 c
theorem ee_chain {r r' : R2} (h : EE K S ta δ μ fun x μ1 => EE K S tb δ μ1 fun y μ2 => OO K S r x y μ2 fun z μ3 => ∃ b, z = .bl b ∧ (b = false → C (.bl false) μ3) ∧ (b = true → EE K S tc δ μ3 fun w μ4 => OO K S r' y w μ4 C)) :
    EE K S (tChain r r' ta tb tc) δ μ C := fun A G H σ a Q q =>
  h A G H σ a _ fun v x A1 G1 H1 μ1 m1 n1 r1 h1 => h1 A1 G1 H1 σ ⟨m1, n1.en a.env⟩ _ fun w y A2 G2 H2 μ2 m2 n2 r2 h2 =>
    h2 A2 G2 H2 v w m2 (n2.rp r1) r2 _ fun z d A3 G3 H3 μ3 m3 n3 r3 ⟨b, e, hf, ht⟩ => by
      subst e
      have ev := r3.vOf
      subst ev
      refine ⟨b, rfl, ?_⟩
      cases b with
      | false =>
        rw [if_neg Bool.false_ne_true]
        exact q _ _ A3 G3 H3 μ3 m3 ((n1.trans n2).trans n3) (.v _) (hf rfl)
      | true =>
        rw [if_pos rfl]
        exact ht rfl A3 G3 H3 σ ⟨m3, ((n1.trans n2).trans n3).en a.env⟩ _ fun w' y' A4 G4 H4 μ4 m4 n4 r4 h4 =>
          h4 A4 G4 H4 w w' m4 ((n3.trans n4).rp r2) r4 Q fun z d A5 G5 H5 μ5 m5 n5 r5 c => q z d A5 G5 H5 μ5 m5 ((((n1.trans n2).trans n3).trans n4).trans n5) r5 c

/-! ### tests -/
section
variable {C : Bool → List Cell → Prop}
theorem et_test (h : EE K S te δ μ fun x μ1 => ∃ b, x = .bl b ∧ C b μ1) : ET K S (tTest te) δ μ C := fun A G H σ a Q q =>
  h A G H σ a _ fun v x A1 G1 H1 μ1 m1 n1 r1 ⟨b, e, c⟩ => by
    subst e
    have ev := r1.vOf
    subst ev
    exact ⟨b, rfl, q b A1 G1 H1 μ1 m1 n1 c⟩
theorem et_B (h : EE K S te δ μ fun x μ1 => ∃ b, x = .bl b ∧ C b μ1) : ET K S (tB te) δ μ C := et_test h
theorem et_yes (k : C true μ) : ET K S tYes δ μ C := fun A G H σ a Q q => q true A G H μ a.m Nw.refl k
theorem et_and (h : ET K S t δ μ fun b μ1 => (b = true → ET K S u δ μ1 C) ∧ (b = false → C false μ1)) : ET K S (tAnd t u) δ μ C := fun A G H σ a Q q =>
  h A G H σ a _ fun b A1 G1 H1 μ1 m1 n1 ⟨h1, h2⟩ => by
    cases b with
    | true =>
      rw [if_pos rfl]
      exact h1 rfl A1 G1 H1 σ ⟨m1, n1.en a.env⟩ Q fun b A3 G3 H3 μ3 m3 n3 c => q b A3 G3 H3 μ3 m3 (n1.trans n3) c
    | false =>
      rw [if_neg Bool.false_ne_true]
      exact q false A1 G1 H1 μ1 m1 n1 (h2 rfl)
theorem et_or (h : ET K S t δ μ fun b μ1 => (b = true → C true μ1) ∧ (b = false → ET K S u δ μ1 C)) : ET K S (tOr t u) δ μ C := fun A G H σ a Q q =>
  h A G H σ a _ fun b A1 G1 H1 μ1 m1 n1 ⟨h1, h2⟩ => by
    cases b with
    | true =>
      rw [if_pos rfl]
      exact q true A1 G1 H1 μ1 m1 n1 (h1 rfl)
    | false =>
      rw [if_neg Bool.false_ne_true]
      exact h2 rfl A1 G1 H1 σ ⟨m1, n1.en a.env⟩ Q fun b A3 G3 H3 μ3 m3 n3 c => q b A3 G3 H3 μ3 m3 (n1.trans n3) c
theorem et_not (h : ET K S t δ μ fun b μ1 => C (!b) μ1) : ET K S (tNot t) δ μ C := fun A G H σ a Q q =>
  h A G H σ a _ fun b A1 G1 H1 μ1 m1 n1 c => q (!b) A1 G1 H1 μ1 m1 n1 c
end

/-! ### statements -/
variable {E : Cn} {ts tu tw : TS} {g : TG}
theorem Fi.at' {A A1 : List Addr} {G G1 : Hp} {F : Ends} {E : Cn} (f : Fi K S A G F E) (n : Nw A G A1 G1) : Fi K S A1 G1 F E :=
  ⟨fun A2 G2 H2 σ2 δ2 μ2 a n2 c => f.nx A2 G2 H2 σ2 δ2 μ2 a (n.trans n2) c, f.rt, fun A2 G2 H2 σ2 δ2 μ2 a n2 c => f.bk A2 G2 H2 σ2 δ2 μ2 a (n.trans n2) c, fun A2 G2 H2 σ2 δ2 μ2 a n2 c => f.ct A2 G2 H2 σ2 δ2 μ2 a (n.trans n2) c⟩
theorem Fi.go {A : List Addr} {G : Hp} {F : Ends} {n : St → Hp → Prop} {m : Sl → List Cell → Prop} {E : Cn} (f : Fi K S A G F E) (h : ∀ A1 G1 H1 σ1 δ1 μ1, At K S A1 G1 H1 σ1 δ1 μ1 → Nw A G A1 G1 → m δ1 μ1 → n σ1 H1) : Fi K S A G { F with nx := n } { E with nx := m } := ⟨h, f.rt, f.bk, f.ct⟩
theorem se_next (k : E.nx δ μ) : SE K S tNext δ μ E := fun A G H σ a F f => f.nx A G H σ δ μ a Nw.refl k
theorem se_seq (h : SE K S ts δ μ { E with nx := fun δ1 μ1 => SE K S tu δ1 μ1 E }) : SE K S (tSeq ts tu) δ μ E := fun A G H σ a F f =>
  h A G H σ a { F with nx := tu F } (f.go fun A1 G1 H1 σ1 δ1 μ1 a1 n1 c => c A1 G1 H1 σ1 a1 F (f.at' n1))
theorem se_asg {i : Nat} (h : EE K S te δ μ fun d μ1 => E.nx (δ.set i (some d)) μ1) : SE K S (tAsg te (gName i)) δ μ E := fun A G H σ a F f =>
  h A G H σ a _ fun v d A1 G1 H1 μ1 m1 n1 r1 c => f.nx A1 G1 H1 _ _ μ1 ⟨m1, En.set r1 i (n1.en a.env)⟩ n1 c
theorem se_asgG (h : EE K S te δ μ fun d μ1 => GE K S g d δ μ1 E.nx) : SE K S (tAsg te g) δ μ E := fun A G H σ a F f =>
  h A G H σ a _ fun v d A1 G1 H1 μ1 m1 n1 r1 c => c A1 G1 H1 σ v ⟨m1, n1.en a.env⟩ r1 _ fun A2 G2 H2 σ2 δ2 μ2 a2 n2 c2 => f.nx A2 G2 H2 σ2 δ2 μ2 a2 (n1.trans n2) c2
theorem se_ret (h : EE K S te δ μ E.rt) : SE K S (tRet te) δ μ E := fun A G H σ a F f =>
  h A G H σ a _ fun v d A1 G1 H1 μ1 m1 n1 r1 c => f.rt A1 G1 H1 v d μ1 m1 r1 c
theorem se_drop (h : EE K S te δ μ fun _ μ1 => E.nx δ μ1) : SE K S (tDrop te) δ μ E := fun A G H σ a F f =>
  h A G H σ a _ fun v d A1 G1 H1 μ1 m1 n1 r1 c => f.nx A1 G1 H1 σ δ μ1 ⟨m1, n1.en a.env⟩ n1 c
theorem se_if (h : ET K S t δ μ fun b μ1 => (b = true → SE K S ts δ μ1 E) ∧ (b = false → SE K S tu δ μ1 E)) : SE K S (tIfS t ts tu) δ μ E := fun A G H σ a F f =>
  h A G H σ a _ fun b A1 G1 H1 μ1 m1 n1 ⟨h1, h2⟩ => by
    cases b with
    | true =>
      rw [if_pos rfl]
      exact h1 rfl A1 G1 H1 σ ⟨m1, n1.en a.env⟩ F (f.at' n1)
    | false =>
      rw [if_neg Bool.false_ne_true]
      exact h2 rfl A1 G1 H1 σ ⟨m1, n1.en a.env⟩ F (f.at' n1)
theorem se_break (k : E.bk δ μ) : SE K S tBreak δ μ E := fun A G H σ a F f => f.bk A G H σ δ μ a Nw.refl k
theorem se_cont (k : E.ct δ μ) : SE K S tCont δ μ E := fun A G H σ a F f => f.ct A G H σ δ μ a Nw.refl k
theorem se_par {i j : Nat} {tz : TA} (h : EA K S tz δ μ fun ds μ1 => ∃ x y, ds = [x, y] ∧ E.nx ((δ.set i (some x)).set j (some y)) μ1) : SE K S (tPar i j tz) δ μ E := fun A G H σ a F f =>
  h A G H σ a _ fun vs ds A1 G1 H1 μ1 m1 n1 r1 ⟨x, y, e, c⟩ => by
    subst e
    cases r1 with
    | cons rx r =>
      cases r with
      | cons ry r =>
        cases r
        exact ⟨_, _, rfl, f.nx A1 G1 H1 _ _ μ1 ⟨m1, En.set ry j (En.set rx i (n1.en a.env))⟩ n1 c⟩
/-- weaker knowledge -/
theorem se_less (l : Less δ ε) (h : SE K S ts ε μ E) : SE K S ts δ μ E := fun A G H σ a F f => h A G H σ ⟨a.m, a.env.less l⟩ F f
/-- consequence -/
theorem EE.imp {C' : D → List Cell → Prop} (h : EE K S te δ μ C) (i : ∀ d μ1, C d μ1 → C' d μ1) : EE K S te δ μ C' := fun A G H σ a Q q =>
  h A G H σ a Q fun v d A1 G1 H1 μ1 m1 n1 r1 c => q v d A1 G1 H1 μ1 m1 n1 r1 (i d μ1 c)
theorem SE.imp {E' : Cn} (h : SE K S ts δ μ E) (i1 : ∀ d m, E.nx d m → E'.nx d m) (i2 : ∀ d m, E.rt d m → E'.rt d m) (i3 : ∀ d m, E.bk d m → E'.bk d m) (i4 : ∀ d m, E.ct d m → E'.ct d m) : SE K S ts δ μ E' := fun A G H σ a F f =>
  h A G H σ a F ⟨fun A G H σ δ μ a n c => f.nx A G H σ δ μ a n (i1 _ _ c), fun A G H v d μ m r c => f.rt A G H v d μ m r (i2 _ _ c), fun A G H σ δ μ a n c => f.bk A G H σ δ μ a n (i3 _ _ c), fun A G H σ δ μ a n c => f.ct A G H σ δ μ a n (i4 _ _ c)⟩

/-! ### targets -/
theorem ge_name {i : Nat} {d : D} {C : Sl → List Cell → Prop} (k : C (δ.set i (some d)) μ) : GE K S (gName i) d δ μ C := fun A G H σ v a r Q q => q A G H _ _ μ ⟨a.m, En.set r i a.env⟩ Nw.refl k
/-- x[i] = d, x an open list -/
theorem ge_setL {to ti : TE} {d : D} {C : Sl → List Cell → Prop} (h : EE K S to δ μ fun x μ1 => EE K S ti δ μ1 fun y μ2 => ∃ k i j l, x = .own k ∧ y = .int i ∧ μ2[k]? = some (.lst l) ∧ ixN l.length i = some j ∧ C δ (μ2.set k (.lst (l.set j d)))) :
    GE K S (gSub to ti rSetL) d δ μ C := fun A G H σ v a r Q q =>
  h A G H σ a _ fun w x A1 G1 H1 μ1 m1 n1 r1 h1 => h1 A1 G1 H1 σ ⟨m1, n1.en a.env⟩ _ fun z y A2 G2 H2 μ2 m2 n2 r2 ⟨k, i, j, l, ex, ey, hc, hj, c⟩ => by
    subst ex ey
    have ev := r2.vOf
    subst ev
    cases r1 with
    | @own _ b hb =>
      have hb2 : A2[k]? = some b := by
        cases (n2.rp (.own hb : Rp K A1 G1 (.own k) (.ref b))) with
        | own h => exact h
      obtain ⟨g, xs, hx, rl⟩ := m2.cel k b _ hb2 hc
      have rd := (n1.trans n2).rp r
      refine ⟨b, xs, i, j, rfl, rfl, hx, by rw [← rl.len]; exact hj, q A2 G2 _ σ δ _ ⟨m2.wrote hb2 hc (rl.set rd j), (n1.trans n2).en a.env⟩ (n1.trans n2) c⟩
end
end PA

set_option Elab.async false
set_option linter.all false
set_option maxRecDepth 100000
set_option maxHeartbeats 2000000
/-! PbLoop: walks, for, while, comprehensions. -/
namespace PA
open PySem L2

/-- J gives the items l -/
def Gives (K : PySem.W.Frag) (S : Bs) (A0 : List Addr) (G0 : Hp) (J : It) (l : List D) (P : List Cell → Prop := fun _ => True) : Prop := ∀ (i : Nat) A G H μ, Mem K S A G H μ → Nw A0 G0 A G → P μ →
  (∀ d, l[i]? = some d → J.go i H ∧ ∀ x H', J.yld i H x H' → ∃ G', Mem K S A G' H' μ ∧ Ex G G' ∧ Rp K A G' d x) ∧ (i = l.length → J.stop i H)
def IE (K : PySem.W.Frag) (S : Bs) (wi : TI) (δ : Sl) (μ : List Cell) (C : List D → (List Cell → Prop) → List Cell → Prop) : Prop :=
  ∀ A G H σ, At K S A G H σ δ μ → ∀ R : It → Hp → Prop, (∀ J l P A' G' H' μ', Mem K S A' G' H' μ' → Nw A G A' G' → Gives K S A' G' J l P → C l P μ' → R J H') → wi σ H R
def yes : List Cell → Prop := fun _ => True
section
variable {K : PySem.W.Frag} {S : Bs} {δ : Sl} {μ : List Cell} {ta tb tc te tl : TE} {C : List D → (List Cell → Prop) → List Cell → Prop}
theorem Nw.lst {A A' : List Addr} {G G' H' : Hp} {a : Addr} {xs : List V} (n : Nw A G A' G') (e : Ex G' H') (h : SqL K G a xs) : SqL K H' a xs := ex_l e (ex_l n.ex h)
theorem gives_list {A0 : List Addr} {G0 : Hp} {a : Addr} {xs : List V} {l : List D} (h : SqL K G0 a xs) (r : RpL K A0 G0 l xs) : Gives K S A0 G0 (Itl K a) l := fun i A G H μ m n _ => by
  have hs := n.lst m.ex h
  refine ⟨fun d hd => ?_, fun e => ⟨xs, hs, by rw [e, r.len]; exact Nat.le_refl _⟩⟩
  obtain ⟨x, hx, rx⟩ := r.get hd
  refine ⟨⟨xs, x, hs, hx⟩, fun y H' ⟨e, hy⟩ => ?_⟩
  subst e
  have z := hy xs hs
  rw [hx] at z
  cases z
  exact ⟨G, m, Ex.refl G, n.rp rx⟩
theorem gives_tup {A0 : List Addr} {G0 : Hp} {a : Addr} {xs : List V} {l : List D} (h : SqT K G0 a xs) (r : RpL K A0 G0 l xs) : Gives K S A0 G0 (Itt K a) l := fun i A G H μ m n _ => by
  have hs := ex_t m.ex (ex_t n.ex h)
  refine ⟨fun d hd => ?_, fun e => ⟨xs, hs, by rw [e, r.len]; exact Nat.le_refl _⟩⟩
  obtain ⟨x, hx, rx⟩ := r.get hd
  refine ⟨⟨xs, x, hs, hx⟩, fun y H' ⟨e, hy⟩ => ?_⟩
  subst e
  have z := hy xs hs
  rw [hx] at z
  cases z
  exact ⟨G, m, Ex.refl G, n.rp rx⟩
theorem lst_sq {G : Hp} {a : Addr} {xs : List V} (h : G a = some (.lst xs)) : SqL K G a xs := .inl (.inl h)
theorem ie_list (h : EE K S tl δ μ fun d μ1 => ∃ l, (d = .lst l ∨ d = .rd l) ∧ C l yes μ1) : IE K S (iList K tl) δ μ C := fun A G H σ a R q =>
  h A G H σ a _ fun v d A1 G1 H1 μ1 m1 n1 r1 ⟨l, e, c⟩ => by
    rcases e with e | e
    · subst e
      cases r1 with
      | lst hs r => exact ⟨_, rfl, ⟨_, ex_l m1.ex (lst_sq hs)⟩, q _ l yes A1 G1 H1 μ1 m1 n1 (gives_list (lst_sq hs) r) c⟩
    · subst e
      cases r1 with
      | rd hs r => exact ⟨_, rfl, ⟨_, ex_l m1.ex hs⟩, q _ l yes A1 G1 H1 μ1 m1 n1 (gives_list hs r) c⟩
theorem ie_tup (h : EE K S tl δ μ fun d μ1 => ∃ l, d = .tup l ∧ C l yes μ1) : IE K S (iTup K tl) δ μ C := fun A G H σ a R q =>
  h A G H σ a _ fun v d A1 G1 H1 μ1 m1 n1 r1 ⟨l, e, c⟩ => by
    subst e
    cases r1 with
    | tup hs r => exact ⟨_, rfl, ⟨_, ex_t m1.ex hs.sq⟩, q _ l yes A1 G1 H1 μ1 m1 n1 (gives_tup hs.sq r) c⟩
/-- lo, lo + 1, .. (n of them) -/
def rng (lo : Int) (n : Nat) : List D := (List.range n).map fun (i : Nat) => D.int (lo + (i : Int))
theorem rng_len {lo : Int} {n : Nat} : (rng lo n).length = n := by unfold rng; rw [List.length_map, List.length_range]
theorem rng_get {lo : Int} {n i : Nat} {d : D} (h : (rng lo n)[i]? = some d) : i < n ∧ d = .int (lo + (i : Int)) := by
  unfold rng at h
  rw [List.getElem?_map] at h
  by_cases hi : i < n
  · rw [List.getElem?_range hi] at h
    cases h
    exact ⟨hi, rfl⟩
  · rw [List.getElem?_eq_none (by rw [List.length_range]; omega)] at h
    cases h
theorem gives_rng {A0 : List Addr} {G0 : Hp} {lo : Int} {n : Nat} : Gives K S A0 G0 (Itr lo n) (rng lo n) := fun i A G H μ m _ _ => by
  refine ⟨fun d hd => ?_, fun e => by rw [e, rng_len]; exact Nat.le_refl _⟩
  obtain ⟨hi, e⟩ := rng_get hd
  refine ⟨hi, fun x H' ⟨e1, e2⟩ => ?_⟩
  subst e1 e2 e
  exact ⟨G, m, Ex.refl G, .v _⟩
theorem ie_rng1 {ts : TA} (h : EA K S ts δ μ fun ds μ1 => ∃ j : Int, ds = [.int j] ∧ -1000000000 ≤ j ∧ j ≤ 1000000000 ∧ C (rng 0 j.toNat) yes μ1) : IE K S (iRng1 ts) δ μ C := fun A G H σ a R q =>
  h A G H σ a _ fun vs ds A1 G1 H1 μ1 m1 n1 r1 ⟨j, e, b1, b2, c⟩ => by
    subst e
    cases r1 with
    | cons rj r =>
      cases r
      have ev := rj.vOf
      subst ev
      exact ⟨j, rfl, by omega, by omega, q _ _ yes A1 G1 H1 μ1 m1 n1 gives_rng c⟩
theorem ie_rng2 {ts : TA} (h : EA K S ts δ μ fun ds μ1 => ∃ i j : Int, ds = [.int i, .int j] ∧ (-1000000000 ≤ i ∧ i ≤ 1000000000 ∧ -1000000000 ≤ j ∧ j ≤ 1000000000) ∧ C (rng i (j - i).toNat) yes μ1) : IE K S (iRng2 ts) δ μ C := fun A G H σ a R q =>
  h A G H σ a _ fun vs ds A1 G1 H1 μ1 m1 n1 r1 ⟨i, j, e, ⟨b1, b2, b3, b4⟩, c⟩ => by
    subst e
    cases r1 with
    | cons ri r =>
      cases r with
      | cons rj r =>
        cases r
        have e1 := ri.vOf
        have e2 := rj.vOf
        subst e1 e2
        exact ⟨i, j, rfl, ⟨by omega, by omega, by omega, by omega⟩, q _ _ yes A1 G1 H1 μ1 m1 n1 gives_rng c⟩
/-- the signs of a text, each a text -/
def signs (s : Str) : List D := s.cps.toList.map fun c => D.str ⟨#[c]⟩
theorem gives_str {A0 : List Addr} {G0 : Hp} {s : Str} : Gives K S A0 G0 (Its s) (signs s) := fun i A G H μ m _ _ => by
  refine ⟨fun d hd => ?_, fun e => by rw [e]; unfold signs; rw [List.length_map]; exact Nat.le_of_eq (by simp)⟩
  unfold signs at hd
  rw [List.getElem?_map] at hd
  cases hc : s.cps.toList[i]? with
  | none =>
    rw [hc] at hd
    cases hd
  | some c =>
    rw [hc] at hd
    cases hd
    have hi : i < s.cps.size := by
      have z := (List.getElem?_eq_some_iff.mp hc).1
      simpa using z
    refine ⟨hi, fun x H' ⟨e1, c', hc', e2⟩ => ?_⟩
    subst e1 e2
    have e3 : s.cps[i]? = some c := by
      rw [← Array.getElem?_toList]
      exact hc
    rw [e3] at hc'
    cases hc'
    exact ⟨G, m, Ex.refl G, .v _⟩
theorem ie_str (h : EE K S tl δ μ fun d μ1 => ∃ s, d = .str s ∧ C (signs s) yes μ1) : IE K S (iStr tl) δ μ C := fun A G H σ a R q =>
  h A G H σ a _ fun v d A1 G1 H1 μ1 m1 n1 r1 ⟨s, e, c⟩ => by
    subst e
    have ev := r1.vOf
    subst ev
    exact ⟨s, rfl, q _ _ yes A1 G1 H1 μ1 m1 n1 gives_str c⟩
/-- pairs, as zip gives them -/
def zipD : List D → List D → List D
  | x :: l, y :: m => .tup [x, y] :: zipD l m
  | _, _ => []
theorem zipD_len : ∀ (l m : List D), (zipD l m).length = min l.length m.length
  | [], m => by simp [zipD]
  | _ :: _, [] => by simp [zipD]
  | x :: l, y :: m => by
    show (zipD l m).length + 1 = _
    rw [zipD_len l m, List.length_cons, List.length_cons]
    omega
theorem zipD_get : ∀ {l m : List D} {i : Nat} {d : D}, (zipD l m)[i]? = some d → ∃ x y, l[i]? = some x ∧ m[i]? = some y ∧ d = .tup [x, y]
  | [], m, i, d, h => by simp [zipD] at h
  | _ :: _, [], i, d, h => by simp [zipD] at h
  | x :: l, y :: m, 0, d, h => by
    have e : D.tup [x, y] = d := by simpa [zipD] using h
    exact ⟨x, y, rfl, rfl, e.symm⟩
  | x :: l, y :: m, i + 1, d, h => by
    obtain ⟨a, b, h1, h2, h3⟩ := zipD_get (l := l) (m := m) (i := i) (d := d) (by simpa [zipD] using h)
    exact ⟨a, b, by simpa using h1, by simpa using h2, h3⟩
theorem pair_new {A : List Addr} {G H : Hp} {T : Addr} {x y : V} {d e : D} (m : Mem K S A G H μ) (hT : H T = none) (rx : Rp K A G d x) (ry : Rp K A G e y) : ∃ G', Mem K S A G' (upd H T (.tup [x, y])) μ ∧ Ex G G' ∧ Rp K A G' (.tup [d, e]) (.ref T) :=
  ⟨_, m.laid hT, Ex.new (m.ex.free hT), .tup (.inl upd_same) (.cons (rx.mono0 (Ex.new (m.ex.free hT))) (.cons (ry.mono0 (Ex.new (m.ex.free hT))) .nil))⟩
theorem gives_zip {A0 : List Addr} {G0 : Hp} {a b : Addr} {xs ys : List V} {l m : List D} (h : SqL K G0 a xs) (r : RpL K A0 G0 l xs) (h' : SqL K G0 b ys) (r' : RpL K A0 G0 m ys) : Gives K S A0 G0 (Itz K a b) (zipD l m) := fun i A G H μ m' n _ => by
  have hs := n.lst m'.ex h
  have hs' := n.lst m'.ex h'
  refine ⟨fun d hd => ?_, fun e => ⟨xs, ys, hs, hs', ?_⟩⟩
  · obtain ⟨x, y, h1, h2, rfl⟩ := zipD_get hd
    obtain ⟨u, hu, ru⟩ := r.get h1
    obtain ⟨w, hw, rw'⟩ := r'.get h2
    refine ⟨⟨xs, ys, u, w, hs, hs', hu, hw⟩, fun z H' ⟨T, u', w', e1, e2, e3, e4, e5⟩ => ?_⟩
    subst e1 e3
    have z1 := e4 xs hs
    have z2 := e5 ys hs'
    rw [hu] at z1
    rw [hw] at z2
    cases z1
    cases z2
    exact pair_new m' e2 (n.rp ru) (n.rp rw')
  · rw [zipD_len, r.len, r'.len] at e
    omega
theorem ie_zip {ts : TA} (h : EA K S ts δ μ fun ds μ1 => ∃ l m, ds = [.lst l, .lst m] ∧ C (zipD l m) yes μ1) : IE K S (iZip K ts) δ μ C := fun A G H σ a R q =>
  h A G H σ a _ fun vs ds A1 G1 H1 μ1 m1 n1 r1 ⟨l, m, e, c⟩ => by
    subst e
    cases r1 with
    | cons ra r =>
      cases r with
      | cons rb r =>
        cases r
        cases ra with
        | lst hs r =>
          cases rb with
          | lst hs' r' => exact ⟨_, _, _, _, rfl, ex_l m1.ex (lst_sq hs), ex_l m1.ex (lst_sq hs'), q _ _ yes A1 G1 H1 μ1 m1 n1 (gives_zip (lst_sq hs) r (lst_sq hs') r') c⟩
theorem gives_zipT {A0 : List Addr} {G0 : Hp} {a b : Addr} {xs ys : List V} {l m : List D} (h : SqT K G0 a xs) (r : RpL K A0 G0 l xs) (h' : SqT K G0 b ys) (r' : RpL K A0 G0 m ys) : Gives K S A0 G0 (RZ.ItzT K a b) (zipD l m) := fun i A G H μ m' n _ => by
  have hs := ex_t m'.ex (ex_t n.ex h)
  have hs' := ex_t m'.ex (ex_t n.ex h')
  refine ⟨fun d hd => ?_, fun e => ⟨xs, ys, hs, hs', ?_⟩⟩
  · obtain ⟨x, y, h1, h2, rfl⟩ := zipD_get hd
    obtain ⟨u, hu, ru⟩ := r.get h1
    obtain ⟨w, hw, rw'⟩ := r'.get h2
    refine ⟨⟨xs, ys, u, w, hs, hs', hu, hw⟩, fun z H' ⟨T, u', w', e1, e2, e3, e4, e5⟩ => ?_⟩
    subst e1 e3
    have z1 := e4 xs hs
    have z2 := e5 ys hs'
    rw [hu] at z1
    rw [hw] at z2
    cases z1
    cases z2
    exact pair_new m' e2 (n.rp ru) (n.rp rw')
  · rw [zipD_len, r.len, r'.len] at e
    omega
/-- zip of two lists or of two tuples -/
theorem ie_zipA {ts : TA} (h : EA K S ts δ μ fun ds μ1 => ∃ l m, (ds = [.lst l, .lst m] ∨ ds = [.tup l, .tup m]) ∧ C (zipD l m) yes μ1) : IE K S (RZ.iZipA K ts) δ μ C := fun A G H σ a R q =>
  h A G H σ a _ fun vs ds A1 G1 H1 μ1 m1 n1 r1 ⟨l, m, e, c⟩ => by
    rcases e with e | e
    · subst e
      cases r1 with
      | cons ra r =>
        cases r with
        | cons rb r =>
          cases r
          cases ra with
          | lst hs r =>
            cases rb with
            | lst hs' r' => exact ⟨_, _, _, _, rfl, .inl ⟨ex_l m1.ex (lst_sq hs), ex_l m1.ex (lst_sq hs'), q _ _ yes A1 G1 H1 μ1 m1 n1 (gives_zip (lst_sq hs) r (lst_sq hs') r') c⟩⟩
    · subst e
      cases r1 with
      | cons ra r =>
        cases r with
        | cons rb r =>
          cases r
          cases ra with
          | tup hs r =>
            cases rb with
            | tup hs' r' => exact ⟨_, _, _, _, rfl, .inr ⟨ex_t m1.ex hs.sq, ex_t m1.ex hs'.sq, q _ _ yes A1 G1 H1 μ1 m1 n1 (gives_zipT hs.sq r hs'.sq r') c⟩⟩
/-- pairs of place and item -/
def enumD (k : Nat) : List D → List D
  | [] => []
  | x :: l => .tup [.int (k : Int), x] :: enumD (k + 1) l
theorem enumD_len : ∀ (k : Nat) (l : List D), (enumD k l).length = l.length
  | _, [] => rfl
  | k, _ :: l => congrArg Nat.succ (enumD_len (k + 1) l)
theorem enumD_get : ∀ {k : Nat} {l : List D} {i : Nat} {d : D}, (enumD k l)[i]? = some d → ∃ x, l[i]? = some x ∧ d = .tup [.int ((k + i : Nat) : Int), x]
  | _, [], _, _, h => by simp [enumD] at h
  | k, x :: l, 0, d, h => by
    have e : D.tup [.int (k : Int), x] = d := by simpa [enumD] using h
    exact ⟨x, rfl, e.symm⟩
  | k, x :: l, i + 1, d, h => by
    obtain ⟨y, h1, h2⟩ := enumD_get (k := k + 1) (l := l) (i := i) (d := d) (by simpa [enumD] using h)
    exact ⟨y, by simpa using h1, by rw [h2, show k + 1 + i = k + (i + 1) by omega]⟩
theorem gives_enum {A0 : List Addr} {G0 : Hp} {a : Addr} {xs : List V} {l : List D} (h : SqL K G0 a xs) (r : RpL K A0 G0 l xs) : Gives K S A0 G0 (Ite K a) (enumD 0 l) := fun i A G H μ m' n _ => by
  have hs := n.lst m'.ex h
  refine ⟨fun d hd => ?_, fun e => ⟨xs, hs, by rw [e, enumD_len, r.len]; exact Nat.le_refl _⟩⟩
  obtain ⟨x, h1, rfl⟩ := enumD_get hd
  obtain ⟨u, hu, ru⟩ := r.get h1
  refine ⟨⟨xs, u, hs, hu⟩, fun z H' ⟨T, u', e1, e2, e3, e4⟩ => ?_⟩
  subst e1 e3
  have z1 := e4 xs hs
  rw [hu] at z1
  cases z1
  have q := pair_new m' e2 (Rp.v (K := K) (A := A) (G := G) (.int (i : Nat))) (n.rp ru)
  rw [Nat.zero_add]
  exact q
theorem ie_enum {ts : TA} (h : EA K S ts δ μ fun ds μ1 => ∃ l, ds = [.lst l] ∧ C (enumD 0 l) yes μ1) : IE K S (iEnum K ts) δ μ C := fun A G H σ a R q =>
  h A G H σ a _ fun vs ds A1 G1 H1 μ1 m1 n1 r1 ⟨l, e, c⟩ => by
    subst e
    cases r1 with
    | cons ra r =>
      cases r
      cases ra with
      | lst hs r => exact ⟨_, _, rfl, ex_l m1.ex (lst_sq hs), q _ _ yes A1 G1 H1 μ1 m1 n1 (gives_enum (lst_sq hs) r) c⟩
theorem gives_rev {A0 : List Addr} {G0 : Hp} {a : Addr} {xs : List V} {l : List D} (h : SqL K G0 a xs) (r : RpL K A0 G0 l xs) : Gives K S A0 G0 (Itv K a xs.length) l.reverse := fun i A G H μ m' n _ => by
  have hs := n.lst m'.ex h
  refine ⟨fun d hd => ?_, fun e => by rw [e, List.length_reverse, r.len]; exact Nat.le_refl _⟩
  have hi : i < l.length := by
    have z := (List.getElem?_eq_some_iff.mp hd).1
    rwa [List.length_reverse] at z
  rw [List.getElem?_reverse hi] at hd
  obtain ⟨u, hu, ru⟩ := r.get hd
  rw [r.len] at hu hi
  refine ⟨⟨hi, xs, u, hs, hu⟩, fun z H' ⟨e1, e2⟩ => ?_⟩
  subst e1
  have z1 := e2 xs hs
  rw [hu] at z1
  cases z1
  exact ⟨G, m', Ex.refl G, n.rp ru⟩
theorem ie_rev {ts : TA} (h : EA K S ts δ μ fun ds μ1 => ∃ l, ds = [.lst l] ∧ C l.reverse yes μ1) : IE K S (iRev K ts) δ μ C := fun A G H σ a R q =>
  h A G H σ a _ fun vs ds A1 G1 H1 μ1 m1 n1 r1 ⟨l, e, c⟩ => by
    subst e
    cases r1 with
    | cons ra r =>
      cases r
      cases ra with
      | lst hs r => exact ⟨_, _, rfl, ex_l m1.ex (lst_sq hs), q _ _ yes A1 G1 H1 μ1 m1 n1 (gives_rev (lst_sq hs) r) c⟩

/-! ### for -/
variable {E : Cn} {g : TG} {tz : TS} {wi : TI} {t : TT}
theorem se_forP (h : IE K S wi δ μ fun l P μ1 => ∃ I : Nat → Sl → List Cell → Prop, (∀ i δ' μ', I i δ' μ' → P μ') ∧ I 0 δ μ1 ∧
      (∀ (i : Nat) x δ' μ', l[i]? = some x → I i δ' μ' → GE K S g x δ' μ' fun δ2 μ2 => SE K S tz δ2 μ2 { nx := I (i + 1), ct := I (i + 1), rt := E.rt, bk := E.nx }) ∧
      ∀ δ' μ', I l.length δ' μ' → E.nx δ' μ') : SE K S (tFor wi g tz) δ μ E := fun A G H σ a F f =>
  h A G H σ a _ fun J l P A1 G1 H1 μ1 m1 n1 gv ⟨I, ip, i0, it, ie⟩ => by
    refine ⟨fun i n σ' H' => n = l.length - i ∧ i ≤ l.length ∧ ∃ A2 G2 δ2 μ2, At K S A2 G2 H' σ' δ2 μ2 ∧ Nw A1 G1 A2 G2 ∧ I i δ2 μ2, ⟨l.length, by omega, Nat.zero_le _, A1, G1, δ, μ1, ⟨m1, n1.en a.env⟩, Nw.refl, i0⟩, ?_⟩
    rintro i n σ' H' ⟨hn, hi, A2, G2, δ2, μ2, a2, n2, w⟩
    obtain ⟨g1, g2⟩ := gv i A2 G2 H' μ2 a2.m n2 (ip i δ2 μ2 w)
    by_cases hlt : i < l.length
    · obtain ⟨x, hx⟩ : ∃ x, l[i]? = some x := ⟨l[i], by simp [hlt]⟩
      obtain ⟨go, yl⟩ := g1 x hx
      refine .inr ⟨go, fun σ3 H3 => ∃ A3 G3 δ3 μ3, At K S A3 G3 H3 σ3 δ3 μ3 ∧ Nw A1 G1 A3 G3 ∧ I (i + 1) δ3 μ3, fun σ3 H3 w3 => ⟨l.length - (i + 1), by omega, rfl, hlt, w3⟩, fun y H3 hy => ?_⟩
      obtain ⟨G3, m3, e3, r3⟩ := yl y H3 hy
      have n3 : Nw A2 G2 A2 G3 := .of e3
      refine it i x δ2 μ2 hx w A2 G3 H3 σ' y ⟨m3, n3.en a2.env⟩ r3 _ fun A4 G4 H4 σ4 δ4 μ4 a4 n4 c => ?_
      refine c A4 G4 H4 σ4 a4 _ ⟨fun A5 G5 H5 σ5 δ5 μ5 a5 n5 c5 => ⟨A5, G5, δ5, μ5, a5, ((n2.trans n3).trans n4).trans n5, c5⟩, f.rt, fun A5 G5 H5 σ5 δ5 μ5 a5 n5 c5 => ?_,
        fun A5 G5 H5 σ5 δ5 μ5 a5 n5 c5 => ⟨A5, G5, δ5, μ5, a5, ((n2.trans n3).trans n4).trans n5, c5⟩⟩
      exact f.nx A5 G5 H5 σ5 δ5 μ5 a5 ((((n1.trans n2).trans n3).trans n4).trans n5) c5
    · have e : i = l.length := by omega
      refine .inl ⟨g2 e, f.nx A2 G2 H' σ' δ2 μ2 a2 (n1.trans n2) (ie δ2 μ2 (by rw [← e]; exact w))⟩
theorem se_for (h : IE K S wi δ μ fun l P μ1 => P = yes ∧ ∃ I : Nat → Sl → List Cell → Prop, I 0 δ μ1 ∧
      (∀ (i : Nat) x δ' μ', l[i]? = some x → I i δ' μ' → GE K S g x δ' μ' fun δ2 μ2 => SE K S tz δ2 μ2 { nx := I (i + 1), ct := I (i + 1), rt := E.rt, bk := E.nx }) ∧
      ∀ δ' μ', I l.length δ' μ' → E.nx δ' μ') : SE K S (tFor wi g tz) δ μ E :=
  se_forP fun A G H σ a R q => h A G H σ a R fun J l P A' G' H' μ' m n gv ⟨e, I, i0, it, ie⟩ => q J l P A' G' H' μ' m n gv ⟨I, fun _ _ _ _ => by rw [e]; exact trivial, i0, it, ie⟩
/-- while, by a word and a number that falls -/
theorem se_while {t : TT} (I : Nat → Sl → List Cell → Prop) (m0 : Nat) (i0 : I m0 δ μ)
    (h : ∀ m δ' μ', I m δ' μ' → ET K S t δ' μ' fun b μ1 => (b = true → SE K S tz δ' μ1 { nx := fun δ2 μ2 => ∃ m', m' < m ∧ I m' δ2 μ2, ct := fun δ2 μ2 => ∃ m', m' < m ∧ I m' δ2 μ2, rt := E.rt, bk := E.nx }) ∧ (b = false → E.nx δ' μ1)) :
    SE K S (tWhile t tz) δ μ E := fun A G H σ a F f => by
  refine ⟨fun m σ' H' => ∃ A2 G2 δ2 μ2, At K S A2 G2 H' σ' δ2 μ2 ∧ Nw A G A2 G2 ∧ I m δ2 μ2, ⟨m0, A, G, δ, μ, a, Nw.refl, i0⟩, ?_⟩
  rintro m σ' H' ⟨A2, G2, δ2, μ2, a2, n2, w⟩
  refine h m δ2 μ2 w A2 G2 H' σ' a2 _ fun b A3 G3 H3 μ3 m3 n3 ⟨h1, h2⟩ => ?_
  cases b with
  | true =>
    rw [if_pos rfl]
    refine ⟨fun σ4 H4 => ∃ m', m' < m ∧ ∃ A4 G4 δ4 μ4, At K S A4 G4 H4 σ4 δ4 μ4 ∧ Nw A G A4 G4 ∧ I m' δ4 μ4, fun σ4 H4 ⟨m', hm, w4⟩ => ⟨m', hm, w4⟩, ?_⟩
    refine h1 rfl A3 G3 H3 σ' ⟨m3, n3.en a2.env⟩ _ ⟨fun A5 G5 H5 σ5 δ5 μ5 a5 n5 ⟨m', hm, c5⟩ => ⟨m', hm, A5, G5, δ5, μ5, a5, (n2.trans n3).trans n5, c5⟩, f.rt, fun A5 G5 H5 σ5 δ5 μ5 a5 n5 c5 => ?_,
      fun A5 G5 H5 σ5 δ5 μ5 a5 n5 ⟨m', hm, c5⟩ => ⟨m', hm, A5, G5, δ5, μ5, a5, (n2.trans n3).trans n5, c5⟩⟩
    exact f.nx A5 G5 H5 σ5 δ5 μ5 a5 ((n2.trans n3).trans n5) c5
  | false =>
    rw [if_neg Bool.false_ne_true]
    exact f.nx A3 G3 H3 σ' δ2 μ3 ⟨m3, n3.en a2.env⟩ (n2.trans n3) (h2 rfl)

/-! ### comprehensions -/
def wipeS (δ : Sl) : List Nat → Sl
  | [] => δ
  | v :: vs => (wipeS δ vs).set v none
theorem wipe_en {A : List Addr} {G : Hp} {δ : Sl} {σ : St} (h : En K A G δ σ) : ∀ vs : List Nat, En K A G (wipeS δ vs) (wipe σ vs)
  | [] => h
  | v :: vs => by
    show En K A G ((wipeS δ vs).set v none) ((wipe σ vs).set v none)
    exact En.unset v none (wipe_en h vs)
theorem wipe_set {σ : St} {i : Nat} {o : Option V} : ∀ vs : List Nat, wipe (σ.set i o) vs = if i ∈ vs then wipe σ vs else (wipe σ vs).set i o
  | [] => by simp [wipe]
  | v :: vs => by
    have ih := wipe_set (σ := σ) (i := i) (o := o) vs
    show (wipe (σ.set i o) vs).set v none = if i ∈ v :: vs then (wipe σ vs).set v none else ((wipe σ vs).set v none).set i o
    rw [ih]
    by_cases e : i = v
    · subst e
      rw [if_pos List.mem_cons_self]
      split
      · rfl
      · rw [List.set_set]
    · by_cases hm : i ∈ vs
      · rw [if_pos hm, if_pos (List.mem_cons_of_mem _ hm)]
      · rw [if_neg hm, if_neg (by simp [e, hm]), List.set_comm _ _ e]
theorem wipe_in {σ : St} {i : Nat} {o : Option V} {vs : List Nat} (h : i ∈ vs) : wipe (σ.set i o) vs = wipe σ vs := by rw [wipe_set, if_pos h]
theorem wipe_twice (σ : St) : ∀ vs : List Nat, wipe (wipe σ vs) vs = wipe σ vs
  | [] => rfl
  | v :: vs => by
    show (wipe ((wipe σ vs).set v none) vs).set v none = (wipe σ vs).set v none
    rw [wipe_set]
    split
    · rw [wipe_twice σ vs]
    · rw [wipe_twice σ vs, List.set_set]
/-- a comprehension's target: it stores at the places vs alone -/
def GW (K : PySem.W.Frag) (S : Bs) (g : TG) (vs : List Nat) (d : D) (δ : Sl) (μ : List Cell) (C : Sl → List Cell → Prop) : Prop :=
  ∀ A G H σ v, At K S A G H σ δ μ → Rp K A G d v → ∀ Q : St → Hp → Prop, (∀ A' G' H' σ' δ' μ', At K S A' G' H' σ' δ' μ' → Nw A G A' G' → wipe σ' vs = wipe σ vs → C δ' μ' → Q σ' H') → g v σ H Q
theorem gw_name {i : Nat} {vs : List Nat} {d : D} {C : Sl → List Cell → Prop} (hi : i ∈ vs) (k : C (δ.set i (some d)) μ) : GW K S (gName i) vs d δ μ C := fun A G H σ v a r Q q =>
  q A G H _ _ μ ⟨a.m, En.set r i a.env⟩ Nw.refl (wipe_in hi) k
theorem gw_pair {i j : Nat} {vs : List Nat} {x y : D} {C : Sl → List Cell → Prop} (hi : i ∈ vs) (hj : j ∈ vs) (k : C ((δ.set i (some x)).set j (some y)) μ) : GW K S (gTup K 2 (gCons (gName i) (gCons (gName j) gNil))) vs (.tup [x, y]) δ μ C := fun A G H σ v a r Q q => by
  cases r with
  | tup hs rl =>
    cases rl with
    | cons rx r =>
      cases r with
      | cons ry r =>
        cases r
        exact ⟨_, _, rfl, ex_t a.m.ex hs.sq, rfl, _, _, rfl, _, _, rfl, rfl, q A G H _ _ μ ⟨a.m, En.set ry j (En.set rx i a.env)⟩ Nw.refl (by rw [wipe_in hj, wipe_in hi]) k⟩
theorem ge_pair {i j : Nat} {x y : D} {C : Sl → List Cell → Prop} (k : C ((δ.set i (some x)).set j (some y)) μ) : GE K S (gTup K 2 (gCons (gName i) (gCons (gName j) gNil))) (.tup [x, y]) δ μ C := fun A G H σ v a r Q q => by
  cases r with
  | tup hs rl =>
    cases rl with
    | cons rx r =>
      cases r with
      | cons ry r =>
        cases r
        exact ⟨_, _, rfl, ex_t a.m.ex hs.sq, rfl, _, _, rfl, _, _, rfl, rfl, q A G H _ _ μ ⟨a.m, En.set ry j (En.set rx i a.env)⟩ Nw.refl k⟩
theorem ge_three {i j n : Nat} {x y z : D} {C : Sl → List Cell → Prop} (k : C (((δ.set i (some x)).set j (some y)).set n (some z)) μ) : GE K S (gTup K 3 (gCons (gName i) (gCons (gName j) (gCons (gName n) gNil)))) (.tup [x, y, z]) δ μ C := fun A G H σ v a r Q q => by
  cases r with
  | tup hs rl =>
    cases rl with
    | cons rx r =>
      cases r with
      | cons ry r =>
        cases r with
        | cons rz r =>
          cases r
          exact ⟨_, _, rfl, ex_t a.m.ex hs.sq, rfl, _, _, rfl, _, _, rfl, _, _, rfl, rfl, q A G H _ _ μ ⟨a.m, En.set rz n (En.set ry j (En.set rx i a.env))⟩ Nw.refl k⟩
theorem ge_four {i j n o : Nat} {x y z w : D} {C : Sl → List Cell → Prop} (k : C ((((δ.set i (some x)).set j (some y)).set n (some z)).set o (some w)) μ) : GE K S (gTup K 4 (gCons (gName i) (gCons (gName j) (gCons (gName n) (gCons (gName o) gNil))))) (.tup [x, y, z, w]) δ μ C := fun A G H σ v a r Q q => by
  cases r with
  | tup hs rl =>
    cases rl with
    | cons rx r =>
      cases r with
      | cons ry r =>
        cases r with
        | cons rz r =>
          cases r with
          | cons rw' r =>
            cases r
            exact ⟨_, _, rfl, ex_t a.m.ex hs.sq, rfl, _, _, rfl, _, _, rfl, _, _, rfl, _, _, rfl, rfl, q A G H _ _ μ ⟨a.m, En.set rw' o (En.set rz n (En.set ry j (En.set rx i a.env)))⟩ Nw.refl k⟩
theorem Nw.wipeE {A A' : List Addr} {G G' : Hp} (n : Nw A G A' G') {δ : Sl} {σ : St} (h : En K A G δ σ) (vs : List Nat) : En K A' G' (wipeS δ vs) (wipe σ vs) := n.en (wipe_en h vs)
/-! content that hangs on the first n open lists alone -/
def Cell.lt (n : Nat) : Cell → Bool
  | .lst l => D.ltL n l
  | .off => true
def cellsLt (n : Nat) (μ : List Cell) : Bool := μ.all (Cell.lt n)
theorem cellsLt_at {n : Nat} {μ : List Cell} (h : cellsLt n μ = true) {k : Nat} {c : Cell} (hk : μ[k]? = some c) : c.lt n = true := List.all_eq_true.mp h c (List.mem_of_getElem? hk)
mutual
theorem Rp.scope {A : List Addr} {G : Hp} : ∀ {d : D} {x : V}, Rp K A G d x → d.lt A.length = true
  | _, _, .v x => rfl
  | _, _, .own h => decide_eq_true (List.getElem?_eq_some_iff.mp h).1
  | _, _, .lst h r => RpL.scope r
  | _, _, .rd h r => RpL.scope r
  | _, _, .tup h r => RpL.scope r
  | _, _, .dic n h r => RpL.scope r
  | _, _, .exc (d := d) h1 h2 r => show D.lt A.length d = true from Rp.scope r
theorem RpL.scope {A : List Addr} {G : Hp} : ∀ {l : List D} {xs : List V}, RpL K A G l xs → D.ltL A.length l = true
  | _, _, .nil => rfl
  | _, _, .cons (d := d) (l := l) h r => by
    exact Bool.and_eq_true_iff.mpr ⟨Rp.scope h, RpL.scope r⟩
end
theorem Mem.scope {A : List Addr} {G H : Hp} (m : Mem K S A G H μ) : cellsLt μ.length μ = true := by
  refine List.all_eq_true.mpr fun c hc => ?_
  obtain ⟨k, hk⟩ := List.getElem?_of_mem hc
  have hlt : k < A.length := by rw [m.len]; exact (List.getElem?_eq_some_iff.mp hk).1
  have hA : A[k]? = some A[k] := by simp [hlt]
  have q := m.cel k _ c hA hk
  cases c with
  | off => rfl
  | lst l =>
    obtain ⟨_, xs, _, r⟩ := q
    rw [← m.len]
    exact r.scope
/-- the last open list is let go of, shut -/
theorem Mem.popShut {A : List Addr} {G H : Hp} {a : Addr} {l : List D} {μ : List Cell} (hk : S.A.length ≤ A.length) (m : Mem K S (A ++ [a]) G H (μ ++ [.lst l])) (hμ : cellsLt A.length μ = true) (hl : D.ltL A.length l = true) : ∃ xs, H a = some (.lst xs) ∧ G a = none ∧ RpL K A G l xs ∧ Mem K S A (upd G a (.lst xs)) H μ := by
  have hA : (A ++ [a])[A.length]? = some a := by rw [List.getElem?_append_right (Nat.le_refl _), Nat.sub_self]; rfl
  have hlen : A.length = μ.length := by
    have z := m.len
    rw [List.length_append, List.length_append] at z
    simpa using z
  have hc : (μ ++ [Cell.lst l])[A.length]? = some (.lst l) := by rw [hlen, List.getElem?_append_right (Nat.le_refl _), Nat.sub_self]; rfl
  have hf : ∀ k b, k < A.length → (A ++ [a])[k]? = some b → A[k]? = some b := fun k b h1 h2 => by
    rw [List.getElem?_append_left h1] at h2
    exact h2
  obtain ⟨g, xs, hx, r⟩ := m.cel A.length a _ hA hc
  have m2 := m.shut hk hA hc hx
  refine ⟨xs, hx, g, r.keep hf hl, ?_⟩
  exact {
    ex := m2.ex
    exG := m2.exG
    pre := by
      obtain ⟨B, hB, hb⟩ := m2.pre
      have e : A = (A ++ [a]).take A.length := by rw [List.take_append_of_le_length (Nat.le_refl _), List.take_length]
      refine ⟨B.take (A.length - S.A.length), ?_, fun b q => hb b (List.mem_of_mem_take q)⟩
      have e2 : (A ++ [a]).take A.length = S.A ++ B.take (A.length - S.A.length) := by rw [hB, List.take_append, List.take_of_length_le hk]
      exact e.trans e2
    new := m2.new
    keep := m2.keep
    cel := fun k b c h1 h2 => by
      have hk1 := (List.getElem?_eq_some_iff.mp h1).1
      have q := m2.cel k b c (by rw [List.getElem?_append_left hk1]; exact h1) (by
        rw [List.getElem?_set_ne (by omega), List.getElem?_append_left (by rw [← hlen]; exact hk1)]
        exact h2)
      have hcl := cellsLt_at hμ h2
      cases c with
      | off => trivial
      | lst l' =>
        obtain ⟨g', ys, hy, r'⟩ := q
        exact ⟨g', ys, hy, r'.keep hf hcl⟩
    len := hlen
    nd := (List.nodup_append.mp m2.nd).1
    al := fun b hb => m2.al b (List.mem_append_left _ hb) }
/-- [e for .. in .. if ..]: by a word over (turn, what it holds so far, the open lists) -/
theorem ee_lcI {vs : List Nat} {C : D → List Cell → Prop} (h : IE K S wi δ μ fun l P μ1 => ∃ I : Nat → List D → List Cell → Prop, (∀ i acc μ', I i acc μ' → P (μ' ++ [.lst acc])) ∧ I 0 [] μ1 ∧ (∀ i acc μ', I i acc μ' → μ'.length = μ1.length ∧ cellsLt μ1.length μ' = true ∧ D.ltL μ1.length acc = true) ∧
      (∀ (i : Nat) x acc μ', l[i]? = some x → I i acc μ' → GW K S g vs x (wipeS δ vs) (μ' ++ [.lst acc]) fun δ2 μ2 => ET K S t δ2 μ2 fun b μ3 =>
        (b = true → EE K S te δ2 μ3 fun d μ4 => ∃ μ5, μ4 = μ5 ++ [.lst acc] ∧ acc.length < 10000000 ∧ I (i + 1) (acc ++ [d]) μ5) ∧ (b = false → ∃ μ5, μ3 = μ5 ++ [.lst acc] ∧ I (i + 1) acc μ5)) ∧
      ∀ acc μ', I l.length acc μ' → C (.lst acc) μ') : EE K S (tLc wi g t te vs) δ μ C := fun A G H σ a Q q =>
  h A G H σ a _ fun J l P A1 G1 H1 μ1 m1 n1 gv ⟨I, ip, i0, il, it, ie⟩ => by
    intro p hp
    have hlen0 : A1.length = μ1.length := m1.len
    refine ⟨fun i n H' => n = l.length - i ∧ i ≤ l.length ∧ ∃ G2 acc μ2, Mem K S (A1 ++ [p]) G2 H' (μ2 ++ [.lst acc]) ∧ Ex G1 G2 ∧ I i acc μ2, ⟨l.length, by omega, Nat.zero_le _, G1, [], μ1, m1.opened hp .nil, Ex.refl _, i0⟩, ?_⟩
    rintro i n H' ⟨hn, hi, G2, acc, μ2, m2, e2, w⟩
    have n2 : Nw A1 G1 (A1 ++ [p]) G2 := ⟨⟨[p], rfl⟩, e2⟩
    obtain ⟨g1, g2⟩ := gv i _ G2 H' _ m2 n2 (ip i acc μ2 w)
    have hS : S.A.length ≤ A1.length := by
      obtain ⟨B, hB, _⟩ := m1.pre
      rw [hB, List.length_append]
      omega
    by_cases hlt : i < l.length
    · obtain ⟨x, hx⟩ : ∃ x, l[i]? = some x := ⟨l[i], by simp [hlt]⟩
      obtain ⟨go, yl⟩ := g1 x hx
      refine .inr ⟨go, fun H3 => ∃ G3 acc3 μ3, Mem K S (A1 ++ [p]) G3 H3 (μ3 ++ [.lst acc3]) ∧ Ex G1 G3 ∧ I (i + 1) acc3 μ3, fun H3 w3 => ⟨l.length - (i + 1), by omega, rfl, hlt, w3⟩, fun y H3 hy => ?_⟩
      obtain ⟨G3, m3, e3, r3⟩ := yl y H3 hy
      have n3 : Nw (A1 ++ [p]) G2 (A1 ++ [p]) G3 := .of e3
      have en3 := ((n1.trans n2).trans n3).wipeE a.env vs
      refine it i x acc μ2 hx w _ G3 H3 _ y ⟨m3, en3⟩ r3 _ fun A4 G4 H4 σ4 δ4 μ4 a4 n4 hw c => ?_
      refine ⟨by rw [hw, wipe_twice], ?_⟩
      have same : ∀ {A5 : List Addr} {G5 H5 : Hp} {acc' : List D} {μ5 : List Cell}, Mem K S A5 G5 H5 (μ5 ++ [.lst acc']) → Nw (A1 ++ [p]) G3 A5 G5 → μ5.length = μ1.length → A5 = A1 ++ [p] := fun {A5 G5 H5 acc' μ5} m5 n5 hl => by
        obtain ⟨⟨B, hB⟩, _⟩ := n5
        have z := m5.len
        rw [hB, List.length_append, List.length_append, List.length_append, hl] at z
        have hb : B.length = 0 := by simp at z; omega
        have hb2 : B = [] := List.length_eq_zero_iff.mp hb
        rw [hB, hb2, List.append_nil]
      refine c A4 G4 H4 σ4 a4 _ fun b A5 G5 H5 μ5 m5 n5 ⟨ht, hf⟩ => ?_
      cases b with
      | true =>
        rw [if_pos rfl]
        refine ht rfl A5 G5 H5 σ4 ⟨m5, n5.en a4.env⟩ _ fun v d A6 G6 H6 μ6 m6 n6 r6 ⟨μ7, e7, hz, w7⟩ => ?_
        subst e7
        have eA := same m6 ((n4.trans n5).trans n6) (il _ _ _ w7).1
        subst eA
        have hA : (A1 ++ [p])[A1.length]? = some p := by rw [List.getElem?_append_right (Nat.le_refl _), Nat.sub_self]; rfl
        have hl7 : A1.length = μ7.length := by rw [hlen0, (il _ _ _ w7).1]
        have hc : (μ7 ++ [Cell.lst acc])[A1.length]? = some (.lst acc) := by rw [hl7, List.getElem?_append_right (Nat.le_refl _), Nat.sub_self]; rfl
        obtain ⟨gp, xs, hxs, rx⟩ := m6.cel A1.length p _ hA hc
        refine ⟨xs, hxs, smalr (by rw [← rx.len]; exact hz), G6, acc ++ [d], μ7, ?_, (((e2.trans e3).trans n4.ex).trans n5.ex).trans n6.ex, w7⟩
        have mw := m6.wrote hA hc (rx.append (.cons r6 .nil))
        have es : (μ7 ++ [Cell.lst acc]).set A1.length (.lst (acc ++ [d])) = μ7 ++ [.lst (acc ++ [d])] := by
          rw [hl7, List.set_append_right _ _ (Nat.le_refl _), Nat.sub_self]
          rfl
        rw [es] at mw
        exact mw
      | false =>
        rw [if_neg Bool.false_ne_true]
        obtain ⟨μ7, e7, w7⟩ := hf rfl
        subst e7
        have eA := same m5 (n4.trans n5) (il _ _ _ w7).1
        subst eA
        exact ⟨G5, acc, μ7, m5, ((e2.trans e3).trans n4.ex).trans n5.ex, w7⟩
    · have e : i = l.length := by omega
      refine .inl ⟨g2 e, ?_⟩
      obtain ⟨w1, w2, w3⟩ := il _ _ _ w
      obtain ⟨xs, hxs, gp, rx, mp⟩ := m2.popShut hS (by rw [hlen0]; exact w2) (by rw [hlen0]; exact w3)
      have ne := Ex.new (o := .lst xs) gp
      exact q (.ref p) (.lst acc) A1 _ H' μ2 mp (n1.trans (.of (e2.trans ne))) (.lst upd_same (rx.mono0 ne)) (ie acc μ2 (by rw [← e]; exact w))
/-- .. whose elements change nothing -/
theorem ee_lc {vs : List Nat} {C : D → List Cell → Prop} (h : IE K S wi δ μ fun l P μ1 => (∀ c, P μ1 → P (μ1 ++ [c])) ∧ P μ1 ∧ ∃ (f : D → Bool) (e : D → D), l.length ≤ 10000000 ∧ (∀ x ∈ l, f x = true → (e x).lt μ1.length = true) ∧
      (∀ x acc, x ∈ l → GW K S g vs x (wipeS δ vs) (μ1 ++ [.lst acc]) fun δ2 μ2 => ET K S t δ2 μ2 fun b μ3 => b = f x ∧ μ3 = μ1 ++ [.lst acc] ∧ (b = true → EE K S te δ2 μ3 fun d μ4 => d = e x ∧ μ4 = μ1 ++ [.lst acc])) ∧
      C (.lst ((l.filter f).map e)) μ1) : EE K S (tLc wi g t te vs) δ μ C := by
  refine ee_lcI fun A G H σ a R q => h A G H σ a R fun J l P A1 G1 H1 μ1 m1 n1 gv ⟨hP, hP1, f, e, hl, hno, ht, c⟩ => q J l P A1 G1 H1 μ1 m1 n1 gv ?_
  refine ⟨fun i acc μ' => μ' = μ1 ∧ acc = ((l.take i).filter f).map e, fun i acc μ' w => by rw [w.1]; exact hP _ hP1, ⟨rfl, by simp⟩, fun i acc μ' w => by
    rw [w.1, w.2]
    refine ⟨rfl, m1.scope, D.ltL_all.mpr fun d hd => ?_⟩
    obtain ⟨x, hx, rfl⟩ := List.mem_map.mp hd
    obtain ⟨hx1, hx2⟩ := List.mem_filter.mp hx
    exact hno x (List.mem_of_mem_take hx1) hx2, fun i x acc μ' hx w => ?_, fun acc μ' w => ?_⟩
  · obtain ⟨rfl, ea⟩ := w
    have hm : x ∈ l := List.mem_of_getElem? hx
    have ht1 : l.take (i + 1) = l.take i ++ [x] := by
      obtain ⟨hi, e1⟩ := List.getElem?_eq_some_iff.mp hx
      rw [List.take_succ, hx]
      rfl
    have hlen : acc.length < 10000000 := by
      have h1 : acc.length ≤ i := by
        rw [ea, List.length_map]
        exact Nat.le_trans (List.length_filter_le _ _) (by rw [List.length_take]; omega)
      have h2 := (List.getElem?_eq_some_iff.mp hx).1
      omega
    intro A2 G2 H2 σ2 v2 a2 r2 Q2 q2
    refine ht x acc hm A2 G2 H2 σ2 v2 a2 r2 Q2 fun A3 G3 H3 σ3 δ3 μ3 a3 n3 hw c3 => q2 A3 G3 H3 σ3 δ3 μ3 a3 n3 hw ?_
    intro A4 G4 H4 σ4 a4 Q4 q4
    refine c3 A4 G4 H4 σ4 a4 Q4 fun b A5 G5 H5 μ5 m5 n5 ⟨eb, em, c5⟩ => q4 b A5 G5 H5 μ5 m5 n5 ⟨fun hb => ?_, fun hb => ?_⟩
    · refine (c5 hb).imp fun d μ6 ⟨ed, e6⟩ => ⟨_, e6, hlen, rfl, ?_⟩
      rw [ea, ht1, List.filter_append, List.map_append, List.filter_cons, if_pos (by rw [← eb]; exact hb), ed]
      rfl
    · refine ⟨_, em, rfl, ?_⟩
      rw [ea, ht1, List.filter_append, List.map_append, List.filter_cons, if_neg (by rw [← eb, hb]; exact Bool.false_ne_true)]
      simp
  · obtain ⟨rfl, ea⟩ := w
    rw [ea, List.take_length]
    exact c
end
end PA

set_option Elab.async false
set_option linter.all false
set_option maxRecDepth 100000
set_option maxHeartbeats 2000000
/-! PbCall: promises over data with open lists, how a def keeps one, how a call uses it. -/
namespace PA
open PySem L2
def Cell.ren (f : Nat → Nat) : Cell → Cell
  | .lst l => .lst (D.renL f l)
  | .off => .off
def Cell.hs (p : Nat → Bool) : Cell → Bool
  | .lst l => D.hsL p l
  | .off => true
/-- THE PROMISE: for each t that suits (pre), called with the data arg t while the open lists handed in hold cel t, it ends with post (behind the lists handed in come its new ones), or lets an error out by exc -/
def Pro (K : PySem.W.Frag) {T : Type} (cel : T → List Cell) (arg : T → List D) (pre : T → Prop) (post : T → D → List Cell → Prop) (exc : T → Addr → D → List Cell → Prop) : Sp := fun vs H Q E =>
  ∃ (t : T) (A : List Addr) (G : Hp), pre t ∧ Mem K ⟨A, G, H⟩ A G H (cel t) ∧ RpL K A G (arg t) vs ∧
    (∀ v d B G' H' μ, Mem K ⟨A, G, H⟩ (A ++ B) G' H' μ → Rp K (A ++ B) G' d v → post t d μ → Q v H') ∧
    ∀ c dx u d G' H' μ, Mem K ⟨A, G, H⟩ A G' H' μ → H dx = none → G' dx = none → H' dx = some (.xd [(("value" : Str), u)]) → Rp K A G' d u → exc t c d μ → E (.ref c) (some dx) H'
/-- .. without open lists -/
abbrev ProP (K : PySem.W.Frag) {T : Type} (arg : T → List D) (pre : T → Prop) (post : T → D → Prop) (exc : T → Addr → D → Prop) : Sp :=
  Pro K (fun _ => []) arg pre (fun t d μ => μ = [] ∧ post t d) (fun t c d _ => exc t c d)
/-- .. that gives one new list -/
abbrev ProN (K : PySem.W.Frag) {T : Type} (arg : T → List D) (pre : T → Prop) (post : T → List D → Prop) (exc : T → Addr → D → Prop) : Sp :=
  Pro K (fun _ => []) arg pre (fun t d μ => ∃ l, d = .own 0 ∧ μ = [.lst l] ∧ D.ltL 0 l = true ∧ post t l) (fun t c d _ => exc t c d)
section
variable {K : PySem.W.Frag} {S : Bs} {δ : Sl} {μ ν : List Cell} {A A' B : List Addr} {G H G' H' : Hp}
theorem getD_get {A : List Addr} {k : Nat} (h : k < A.length) : A[k]? = some (A.getD k 0) := by
  rw [List.getD_eq_getElem?_getD, List.getElem?_eq_getElem h]
  rfl
theorem getD_cell {μ : List Cell} {k : Nat} (h : k < μ.length) : μ[k]? = some (μ.getD k .off) := by
  rw [List.getD_eq_getElem?_getD, List.getElem?_eq_getElem h]
  rfl
theorem CellAt.ren {f : Nat → Nat} {p : Nat → Bool} {a : Addr} {c : Cell} (hf : ∀ k a, p k = true → A[k]? = some a → A'[f k]? = some a) (h : CellAt K A G H a c) (hc : c.hs p = true) : CellAt K A' G H a (c.ren f) := by
  cases c with
  | off => trivial
  | lst l =>
    obtain ⟨g, xs, hx, r⟩ := h
    exact ⟨g, xs, hx, r.ren hf hc⟩
/-! ### letting go -/
def fk (n : Nat) (ks : List Nat) (k : Nat) : Nat := if k < n then k else n + ks.idxOf k
def pk (n : Nat) (ks : List Nat) (k : Nat) : Bool := decide (k < n) || ks.contains k
def kept (n : Nat) (ks : List Nat) (μ : List Cell) : List Cell := (μ.take n ++ ks.map fun k => μ.getD k .off).map (Cell.ren (fk n ks))
theorem fk_at {ks : List Nat} (hks : ∀ k ∈ ks, S.A.length ≤ k ∧ k < A.length) (hA : ∃ B, A = S.A ++ B) : ∀ k a, pk S.A.length ks k = true → A[k]? = some a → (S.A ++ ks.map fun k => A.getD k 0)[fk S.A.length ks k]? = some a := fun k a hp h => by
  obtain ⟨B, hB⟩ := hA
  unfold fk
  by_cases hk : k < S.A.length
  · rw [if_pos hk, List.getElem?_append_left hk]
    rw [hB, List.getElem?_append_left hk] at h
    exact h
  · rw [if_neg hk]
    have hm : k ∈ ks := by
      unfold pk at hp
      rw [decide_eq_false hk, Bool.false_or] at hp
      simpa using hp
    rw [List.getElem?_append_right (by omega), Nat.add_sub_cancel_left, List.getElem?_map, List.getElem?_eq_getElem (List.idxOf_lt_length_of_mem hm)]
    have e : ks[ks.idxOf k]'(List.idxOf_lt_length_of_mem hm) = k := List.getElem_idxOf (List.idxOf_lt_length_of_mem hm)
    rw [e]
    show some (A.getD k 0) = some a
    rw [← getD_get (hks k hm).2, h]
theorem Mem.trim {ks : List Nat} (m : Mem K S A G H μ) (hn : ks.Nodup) (hks : ∀ k ∈ ks, S.A.length ≤ k ∧ k < μ.length) (hc : ∀ c ∈ μ.take S.A.length ++ ks.map (fun k => μ.getD k .off), c.hs (pk S.A.length ks) = true) :
    Mem K S (S.A ++ ks.map fun k => A.getD k 0) G H (kept S.A.length ks μ) := by
  obtain ⟨B, hB, hb⟩ := id m.pre
  have hksA : ∀ k ∈ ks, S.A.length ≤ k ∧ k < A.length := fun k hk => by rw [m.len]; exact hks k hk
  have hf := fk_at hksA ⟨B, hB⟩
  have hnA : S.A.length ≤ A.length := by rw [hB, List.length_append]; omega
  have inB : ∀ k ∈ ks, A.getD k 0 ∈ B := fun k hk => by
    have h1 := getD_get (hksA k hk).2
    have h2 : (S.A ++ B)[k]? = some (A.getD k 0) := by rw [← hB]; exact h1
    rw [List.getElem?_append_right (hksA k hk).1] at h2
    exact List.mem_of_getElem? h2
  exact {
    ex := m.ex
    exG := m.exG
    pre := ⟨_, rfl, fun b hb2 => by
      obtain ⟨k, hk, rfl⟩ := List.mem_map.mp hb2
      exact hb _ (inB k hk)⟩
    new := m.new
    keep := m.keep
    cel := fun k a c h1 h2 => by
      unfold kept at h2
      rw [List.getElem?_map] at h2
      by_cases hk : k < S.A.length
      · rw [List.getElem?_append_left hk] at h1
        have hk2 : k < (μ.take S.A.length).length := by rw [List.length_take, ← m.len]; omega
        rw [List.getElem?_append_left hk2, List.getElem?_take_of_lt hk] at h2
        cases q : μ[k]? with
        | none => rw [q] at h2; cases h2
        | some c0 =>
          rw [q] at h2
          cases h2
          have hm : c0 ∈ μ.take S.A.length := List.mem_of_getElem? (by rw [List.getElem?_take_of_lt hk]; exact q)
          exact (m.cel k a c0 (by rw [hB, List.getElem?_append_left hk]; exact h1) q).ren hf (hc c0 (List.mem_append_left _ hm))
      · have hlt : (μ.take S.A.length).length = S.A.length := by rw [List.length_take, ← m.len]; omega
        rw [List.getElem?_append_right (by omega), List.getElem?_map] at h1
        rw [List.getElem?_append_right (by omega), hlt, List.getElem?_map] at h2
        cases q : ks[k - S.A.length]? with
        | none => rw [q] at h1; cases h1
        | some j =>
          rw [q] at h1 h2
          cases h1
          cases h2
          have hj : j ∈ ks := List.mem_of_getElem? q
          exact (m.cel j _ _ (getD_get (hksA j hj).2) (getD_cell (hks j hj).2)).ren hf (hc _ (List.mem_append_right _ (List.mem_map_of_mem hj)))
    len := by
      unfold kept
      rw [List.length_map, List.length_append, List.length_append, List.length_map, List.length_map, List.length_take, ← m.len]
      omega
    nd := by
      refine List.nodup_append.mpr ⟨?_, ?_, fun a ha b hb2 e => ?_⟩
      · have q := m.nd
        rw [hB] at q
        exact (List.nodup_append.mp q).1
      · refine List.pairwise_map.mpr ?_
        refine List.Pairwise.imp_of_mem (fun {i j} hi hj hij e => hij ?_) hn
        have h1 := getD_get (hksA i hi).2
        have h2 := getD_get (hksA j hj).2
        rw [e, ← h2] at h1
        obtain ⟨p1, e1⟩ := List.getElem?_eq_some_iff.mp (getD_get (hksA i hi).2)
        obtain ⟨p2, e2⟩ := List.getElem?_eq_some_iff.mp (getD_get (hksA j hj).2)
        exact (List.getElem_inj m.nd).mp (e1.trans (e.trans e2.symm))
      · obtain ⟨k, hk, rfl⟩ := List.mem_map.mp hb2
        have q := m.nd
        rw [hB] at q
        exact (List.nodup_append.mp q).2.2 a ha _ (inB k hk) e
    al := fun a ha => by
      refine m.al a ?_
      rcases List.mem_append.mp ha with ha | ha
      · rw [hB]; exact List.mem_append_left _ ha
      · obtain ⟨k, hk, rfl⟩ := List.mem_map.mp ha
        exact List.mem_of_getElem? (getD_get (hksA k hk).2) }
/-- what is wished of an error that leaves -/
def Wi (K : PySem.W.Frag) (S : Bs) (E : XK) (CE : Addr → D → List Cell → Prop) : Prop :=
  ∀ c dx u d A G H μ, Mem K S A G H μ → S.H dx = none → G dx = none → H dx = some (.xd [(("value" : Str), u)]) → Rp K A G d u → CE c d μ → E (.ref c) (some dx) H
theorem Wi.none {E : XK} : Wi K S E (fun _ _ _ => False) := fun _ _ _ _ _ _ _ _ _ _ _ _ _ z => z.elim
/-- how a def begins -/
def startS (N : List Str) (ds : List D) : Sl := ds.map some ++ List.replicate (N.length - ds.length) none
theorem start_en {N : List Str} : ∀ {ds : List D} {vs : List V}, RpL K A G ds vs → En K A G (ds.map some ++ List.replicate (N.length - ds.length) none) (vs.map some ++ List.replicate (N.length - vs.length) none) := by
  have fill : ∀ n : Nat, En K A G (List.replicate n none) (List.replicate n none) := by
    intro n
    induction n with
    | zero => exact .nil
    | succ n ih => exact .skip ih
  have key : ∀ {ds : List D} {vs : List V} (n : Nat), RpL K A G ds vs → En K A G (ds.map some ++ List.replicate n none) (vs.map some ++ List.replicate n none) := by
    intro ds
    induction ds with
    | nil =>
      intro vs n h
      cases h
      exact fill n
    | cons d ds ih =>
      intro vs n h
      cases h with
      | cons h r => exact .cons h (ih n r)
  intro ds vs h
  rw [h.len]
  have := key (N.length - vs.length) h
  exact this
/-- a value given back: ks are the lists of one's own that go with it -/
def Gave (S : Bs) (P : D → List Cell → Prop) (d : D) (μ : List Cell) : Prop :=
  ∃ ks : List Nat, ks.Nodup ∧ (∀ k ∈ ks, S.A.length ≤ k ∧ k < μ.length) ∧ d.hs (pk S.A.length ks) = true ∧ (∀ c ∈ μ.take S.A.length ++ ks.map (fun k => μ.getD k .off), c.hs (pk S.A.length ks) = true) ∧ P (d.ren (fk S.A.length ks)) (kept S.A.length ks μ)
theorem pk_lt {n : Nat} {ks : List Nat} : ∀ k, decide (k < n) = true → pk n ks k = true := fun k h => by
  unfold pk
  rw [h]
  rfl
theorem Cell.hs_mono {p q : Nat → Bool} (hp : ∀ k, p k = true → q k = true) {c : Cell} (h : c.hs p = true) : c.hs q = true := by
  cases c with
  | off => rfl
  | lst l => exact D.hsL_mono hp h
theorem Cell.lt_hs {n : Nat} {c : Cell} : c.lt n = c.hs fun k => decide (k < n) := by cases c <;> rfl
theorem Cell.ren_id {f : Nat → Nat} {p : Nat → Bool} (hf : ∀ k, p k = true → f k = k) {c : Cell} (h : c.hs p = true) : c.ren f = c := by
  cases c with
  | off => rfl
  | lst l => exact congrArg Cell.lst (D.renL_id hf h)
theorem fk_lt {n : Nat} {ks : List Nat} : ∀ k, decide (k < n) = true → fk n ks k = k := fun k h => if_pos (of_decide_eq_true h)
theorem map_ren {n : Nat} {ks : List Nat} : ∀ {μ : List Cell}, cellsLt n μ = true → μ.map (Cell.ren (fk n ks)) = μ
  | [], _ => rfl
  | c :: μ, h => by
    unfold cellsLt at h
    rw [List.all_cons, Bool.and_eq_true] at h
    rw [List.map_cons, map_ren h.2, Cell.ren_id fk_lt (by rw [← Cell.lt_hs]; exact h.1)]
/-- nothing new goes with it -/
theorem gave {P : D → List Cell → Prop} {d : D} (h1 : d.lt S.A.length = true) (h2 : cellsLt S.A.length (μ.take S.A.length) = true) (h : P d (μ.take S.A.length)) : Gave S P d μ := by
  refine ⟨[], List.nodup_nil, fun k hk => (by cases hk), D.hs_mono pk_lt h1, fun c hc => ?_, ?_⟩
  · rw [List.map_nil, List.append_nil] at hc
    refine Cell.hs_mono pk_lt ?_
    rw [← Cell.lt_hs]
    exact List.all_eq_true.mp h2 c hc
  · rw [D.ren_id fk_lt h1]
    unfold kept
    rw [List.map_nil, List.append_nil, map_ren h2]
    exact h
/-- one new list, given back itself -/
theorem gave_new {P : D → List Cell → Prop} {k : Nat} {l : List D} (h0 : S.A.length ≤ k) (hk : μ[k]? = some (.lst l)) (h1 : D.ltL S.A.length l = true) (h2 : cellsLt S.A.length (μ.take S.A.length) = true) (h : P (.own S.A.length) (μ.take S.A.length ++ [.lst l])) : Gave S P (.own k) μ := by
  have hlt := (List.getElem?_eq_some_iff.mp hk).1
  have hg : μ.getD k .off = .lst l := by
    have q := getD_cell hlt
    rw [hk] at q
    injection q with q
    exact q.symm
  have e : fk S.A.length [k] k = S.A.length := by
    unfold fk
    rw [if_neg (by omega)]
    simp
  refine ⟨[k], by simp, fun j hj => ?_, ?_, fun c hc => ?_, ?_⟩
  · rw [List.mem_singleton.mp hj]
    exact ⟨h0, hlt⟩
  · show pk S.A.length [k] k = true
    unfold pk
    simp
  · rcases List.mem_append.mp hc with hc | hc
    · refine Cell.hs_mono pk_lt ?_
      rw [← Cell.lt_hs]
      exact List.all_eq_true.mp h2 c hc
    · rw [List.map_cons, List.map_nil, hg] at hc
      rw [List.mem_singleton.mp hc]
      exact D.hsL_mono pk_lt h1
  · show P (.own (fk S.A.length [k] k)) _
    rw [e]
    unfold kept
    rw [List.map_cons, List.map_nil, hg, List.map_append, map_ren h2, List.map_cons, List.map_nil, Cell.ren_id fk_lt (by exact h1)]
    exact h
theorem run_body {T : Type} {cel : T → List Cell} {arg : T → List D} {pre : T → Prop} {post : T → D → List Cell → Prop} {exc : T → Addr → D → List Cell → Prop} {N : List Str} {vs : List V} {H : Hp} {Q : VK} {E : XK} {t : TS}
    (h : Pro K cel arg pre post exc vs H Q E)
    (hb : ∀ (x : T) (S : Bs), pre x → S.A.length = (cel x).length → D.ltL S.A.length (arg x) = true → Wi K S E (fun c d μ => d.lt S.A.length = true ∧ cellsLt S.A.length (μ.take S.A.length) = true ∧ exc x c d (μ.take S.A.length)) →
      SE K S t (startS N (arg x)) (cel x) { nx := fun _ μ => Gave S (post x) .non μ, rt := Gave S (post x) }) :
    t { nx := fun _ H' => Q .non H', rt := Q } (start N vs) H := by
  obtain ⟨x, A, G, hp, m, r, q1, q3⟩ := h
  have give : ∀ A' G' H' v d μ', Mem K ⟨A, G, H⟩ A' G' H' μ' → Rp K A' G' d v → Gave ⟨A, G, H⟩ (post x) d μ' → Q v H' := fun A' G' H' v d μ' m' rd ⟨ks, hn, hks, hd, hc, hP⟩ => by
    have hpre : ∃ B, A' = A ++ B := let ⟨B, hB, _⟩ := m'.pre; ⟨B, hB⟩
    exact q1 v _ _ G' H' _ (m'.trim hn hks hc) (rd.ren (fk_at (S := ⟨A, G, H⟩) (fun k hk => by rw [m'.len]; exact hks k hk) hpre) hd) hP
  have e := hb x ⟨A, G, H⟩ hp m.len r.scope (fun c dx u d A' G' H' μ' m' f1 f2 f3 rd ⟨c1, c2, c3⟩ => by
    have hpre : ∃ B, A' = A ++ B := let ⟨B, hB, _⟩ := m'.pre; ⟨B, hB⟩
    have hc : ∀ c ∈ μ'.take A.length ++ ([] : List Nat).map (fun k => μ'.getD k .off), c.hs (pk A.length []) = true := fun c hc => by
      rw [List.map_nil, List.append_nil] at hc
      refine Cell.hs_mono pk_lt ?_
      rw [← Cell.lt_hs]
      exact List.all_eq_true.mp c2 c hc
    have mt := m'.trim (ks := []) List.nodup_nil (fun k hk => (by cases hk)) hc
    have ek : kept A.length [] μ' = μ'.take A.length := by
      unfold kept
      rw [List.map_nil, List.append_nil, map_ren c2]
    rw [List.map_nil, List.append_nil] at mt
    have rd2 := rd.ren (fk_at (S := ⟨A, G, H⟩) (ks := []) (fun k hk => (by cases hk)) hpre) (D.hs_mono pk_lt c1)
    rw [List.map_nil, List.append_nil, D.ren_id fk_lt c1] at rd2
    exact q3 c dx u d G' H' _ (by rw [← ek]; exact mt) f1 f2 f3 rd2 c3)
  refine e A G H _ ⟨m, start_en r⟩ _ ⟨fun A' G' H' σ δ μ' a _ c => give A' G' H' .non .non μ' a.m (.v _) c, fun A' G' H' v d μ' m' rd c => give A' G' H' v d μ' m' rd c, fun _ _ _ _ _ _ _ _ z => z.elim, fun _ _ _ _ _ _ _ _ z => z.elim⟩
theorem pro_len {T : Type} {cel : T → List Cell} {arg : T → List D} {pre : T → Prop} {post : T → D → List Cell → Prop} {exc : T → Addr → D → List Cell → Prop} {vs : List V} {H : Hp} {Q : VK} {E : XK} (h : Pro K cel arg pre post exc vs H Q E) {n : Nat} (hn : ∀ t, (arg t).length = n) : vs.length = n := by
  obtain ⟨t, A, G, hp, m, r, _⟩ := h
  rw [← r.len, hn t]
/-- all of one's own lists go with it -/
theorem gave_all {P : D → List Cell → Prop} {d : D} (h0 : S.A.length ≤ μ.length) (h1 : d.lt μ.length = true) (h2 : cellsLt μ.length μ = true) (h : P d μ) : Gave S P d μ := by
  have hk : ∀ k, k < μ.length → pk S.A.length (List.range' S.A.length (μ.length - S.A.length)) k = true ∧ fk S.A.length (List.range' S.A.length (μ.length - S.A.length)) k = k := fun k hk => by
    unfold pk fk
    by_cases hlt : k < S.A.length
    · rw [if_pos hlt]
      exact ⟨by simp [hlt], rfl⟩
    · rw [if_neg hlt]
      have hm : k ∈ List.range' S.A.length (μ.length - S.A.length) := List.mem_range'_1.mpr ⟨by omega, by omega⟩
      refine ⟨by simp [hm], ?_⟩
      have hi := List.idxOf_lt_length_of_mem hm
      have q : (List.range' S.A.length (μ.length - S.A.length))[(List.range' S.A.length (μ.length - S.A.length)).idxOf k] = k := List.getElem_idxOf hi
      rw [List.getElem_range'] at q
      omega
  have hp : ∀ k, decide (k < μ.length) = true → pk S.A.length (List.range' S.A.length (μ.length - S.A.length)) k = true := fun k z => (hk k (of_decide_eq_true z)).1
  have hf : ∀ k, decide (k < μ.length) = true → fk S.A.length (List.range' S.A.length (μ.length - S.A.length)) k = k := fun k z => (hk k (of_decide_eq_true z)).2
  have eμ : μ.take S.A.length ++ (List.range' S.A.length (μ.length - S.A.length)).map (fun k => μ.getD k .off) = μ := by
    refine List.ext_getElem? fun k => ?_
    by_cases hlt : k < S.A.length
    · rw [List.getElem?_append_left (by rw [List.length_take]; omega), List.getElem?_take_of_lt hlt]
    · have hl : (μ.take S.A.length).length = S.A.length := by rw [List.length_take]; omega
      rw [List.getElem?_append_right (by omega), hl, List.getElem?_map]
      by_cases hk2 : k < μ.length
      · rw [List.getElem?_range' (by omega)]
        show some (μ.getD (S.A.length + 1 * (k - S.A.length)) .off) = _
        rw [show S.A.length + 1 * (k - S.A.length) = k by omega, ← getD_cell hk2]
      · rw [List.getElem?_eq_none (by rw [List.length_range']; omega), List.getElem?_eq_none (by omega)]
        rfl
  refine ⟨List.range' S.A.length (μ.length - S.A.length), List.nodup_range', fun k hm => ?_, D.hs_mono hp h1, fun c hc => ?_, ?_⟩
  · have := List.mem_range'_1.mp hm
    omega
  · rw [eμ] at hc
    refine Cell.hs_mono hp ?_
    rw [← Cell.lt_hs]
    exact List.all_eq_true.mp h2 c hc
  · rw [D.ren_id hf h1]
    unfold kept
    rw [eμ]
    have e : μ.map (Cell.ren (fk S.A.length (List.range' S.A.length (μ.length - S.A.length)))) = μ := by
      refine (List.map_congr_left fun c hc => Cell.ren_id hf (?_ : c.hs (fun k => decide (k < μ.length)) = true)).trans (List.map_id' μ)
      rw [← Cell.lt_hs]
      exact List.all_eq_true.mp h2 c hc
    rw [e]
    exact h
end
end PA

set_option Elab.async false
set_option linter.all false
set_option maxRecDepth 100000
set_option maxHeartbeats 2000000
/-! PbCall2: a call, seen by the caller. -/
namespace PA
open PySem L2
/-- the lists hs get new contents -/
def put : List Nat → List Cell → List Cell → List Cell
  | k :: hs, c :: ν, μ => put hs ν (μ.set k c)
  | _, _, μ => μ
/-- the callee's handles as the caller's: the handed ones hs, then the new ones -/
def back (hs : List Nat) (n : Nat) (j : Nat) : Nat := if j < hs.length then hs.getD j 0 else n + (j - hs.length)
section
variable {K : PySem.W.Frag} {S : Bs} {δ : Sl} {μ ν : List Cell} {A A' B : List Addr} {G H G' H' : Hp}
theorem put_len : ∀ {hs : List Nat} {ν μ : List Cell}, (put hs ν μ).length = μ.length
  | [], _, _ => rfl
  | _ :: _, [], _ => rfl
  | k :: hs, c :: ν, μ => by
    show (put hs ν (μ.set k c)).length = _
    rw [put_len, List.length_set]
theorem put_not : ∀ {hs : List Nat} {ν μ : List Cell} {k : Nat}, k ∉ hs → (put hs ν μ)[k]? = μ[k]?
  | [], _, _, _, _ => rfl
  | _ :: _, [], _, _, _ => rfl
  | j :: hs, c :: ν, μ, k, h => by
    show (put hs ν (μ.set j c))[k]? = _
    rw [put_not (fun z => h (List.mem_cons_of_mem _ z)), List.getElem?_set_ne (fun z => h (by rw [z]; exact List.mem_cons_self))]
theorem put_mem : ∀ {hs : List Nat} {ν μ : List Cell} {k : Nat}, hs.Nodup → (∀ j ∈ hs, j < μ.length) → hs.length ≤ ν.length → k ∈ hs → (put hs ν μ)[k]? = ν[hs.idxOf k]?
  | j :: hs, [], _, _, _, _, hl, _ => by simp at hl
  | j :: hs, c :: ν, μ, k, hn, hlt, hl, hk => by
    show (put hs ν (μ.set j c))[k]? = _
    rw [List.nodup_cons] at hn
    by_cases e : k = j
    · subst e
      rw [put_not hn.1, List.getElem?_set_self (hlt k List.mem_cons_self), List.idxOf_cons_self]
      rfl
    · have hk2 : k ∈ hs := by
        rcases List.mem_cons.mp hk with z | z
        · exact absurd z e
        · exact z
      rw [put_mem hn.2 (fun i hi => by rw [List.length_set]; exact hlt i (List.mem_cons_of_mem _ hi)) (by simpa using hl) hk2, List.idxOf_cons, show (j == k) = false from beq_eq_false_iff_ne.mpr fun z => e z.symm]
      rfl
theorem back_at {hs : List Nat} (hlt : ∀ k ∈ hs, k < A.length) : ∀ j a, (fun _ : Nat => true) j = true → ((hs.map fun k => A.getD k 0) ++ B)[j]? = some a → (A ++ B)[back hs A.length j]? = some a := fun j a _ h => by
  unfold back
  by_cases hj : j < hs.length
  · rw [if_pos hj]
    rw [List.getElem?_append_left (by rw [List.length_map]; exact hj), List.getElem?_map, List.getElem?_eq_getElem hj] at h
    have e : hs.getD j 0 = hs[j] := by
      rw [List.getD_eq_getElem?_getD, List.getElem?_eq_getElem hj]
      rfl
    rw [e]
    have h2 := hlt _ (List.getElem_mem hj)
    rw [List.getElem?_append_left h2, getD_get h2]
    exact h
  · rw [if_neg hj]
    rw [List.getElem?_append_right (by rw [List.length_map]; omega), List.length_map] at h
    rw [List.getElem?_append_right (by omega), Nat.add_sub_cancel_left]
    exact h
theorem D.hs_true : ∀ d : D, d.hs (fun _ => true) = true := fun d => by
  have key : ∀ (d : D), d.hs (fun _ => true) = true := by
    intro d
    exact D.rec (motive_1 := fun d => d.hs (fun _ => true) = true) (motive_2 := fun l => D.hsL (fun _ => true) l = true)
      (fun _ => rfl) (fun _ h => h) (fun _ h => h) (fun _ h => h) (fun _ _ h => h) (fun _ _ h => h) (fun _ => rfl) rfl (fun _ _ h1 h2 => Bool.and_eq_true_iff.mpr ⟨h1, h2⟩) d
  exact key d
theorem D.hsL_true : ∀ l : List D, D.hsL (fun _ => true) l = true := fun l => D.hsL_all.mpr fun d _ => D.hs_true d
theorem Cell.hs_true (c : Cell) : c.hs (fun _ => true) = true := by
  cases c with
  | off => rfl
  | lst l => exact D.hsL_true l
/-- what stands behind a call, seen by the caller -/
def behindC (hs : List Nat) (n : Nat) (ν μ : List Cell) : List Cell := put hs (ν.map (Cell.ren (back hs n))) μ ++ (ν.drop hs.length).map (Cell.ren (back hs n))
theorem Mem.after {hs : List Nat} (hn : hs.Nodup) (hlt : ∀ k ∈ hs, k < μ.length) (m : Mem K S A G H μ) (f : Mem K ⟨hs.map fun k => A.getD k 0, G, H⟩ ((hs.map fun k => A.getD k 0) ++ B) G' H' ν) :
    Mem K S (A ++ B) G' H' (behindC hs A.length ν μ) := by
  have hltA : ∀ k ∈ hs, k < A.length := fun k hk => by rw [m.len]; exact hlt k hk
  have hνl : ν.length = hs.length + B.length := by
    rw [← f.len, List.length_append, List.length_map]
  have hBn : ∀ b ∈ B, H b = none := fun b hb => by
    obtain ⟨B', hB, h⟩ := f.pre
    have e : B = B' := List.append_cancel_left hB
    exact h b (by rw [← e]; exact hb)
  have inA : ∀ a ∈ (hs.map fun k => A.getD k 0), a ∈ A := fun a ha => by
    obtain ⟨k, hk, rfl⟩ := List.mem_map.mp ha
    exact List.mem_of_getElem? (getD_get (hltA k hk))
  have alive : ∀ a ∈ A, ∃ o, H a = some o := fun a ha => by
    cases q : H a with
    | none => exact absurd q (m.al a ha)
    | some o => exact ⟨o, rfl⟩
  have hren := back_at (B := B) hltA
  exact {
    ex := f.ex
    exG := m.exG.trans f.exG
    pre := by
      obtain ⟨B0, hB0, h0⟩ := m.pre
      refine ⟨B0 ++ B, by rw [hB0, List.append_assoc], fun b hb => ?_⟩
      rcases List.mem_append.mp hb with hb | hb
      · exact h0 b hb
      · have hA : b ∉ A := fun z => by
          obtain ⟨o, ho⟩ := alive b z
          rw [hBn b hb] at ho
          cases ho
        cases q : S.H b with
        | none => rfl
        | some o =>
          by_cases ha : b ∈ S.A
          · exact absurd (by rw [hB0]; exact List.mem_append_left _ ha) hA
          · have z := m.keep b o ha q
            rw [hBn b hb] at z
            cases z
    new := fun p hp => by
      rcases f.new p hp with h | h
      · exact m.new p h
      · have h : H p = none := h
        cases q : S.H p with
        | none => exact .inr rfl
        | some o =>
          by_cases ha : p ∈ S.A
          · obtain ⟨B0, hB0, h0⟩ := m.pre
            exact absurd h (m.al p (by rw [hB0]; exact List.mem_append_left _ ha))
          · rw [m.keep p o ha q] at h
            cases h
    keep := fun a o h1 h2 => by
      refine f.keep a o (fun hm => ?_) (m.keep a o h1 h2)
      have hA := inA a hm
      obtain ⟨B0, hB0, h0⟩ := m.pre
      rw [hB0] at hA
      rcases List.mem_append.mp hA with z | z
      · exact h1 z
      · rw [h0 a z] at h2
        cases h2
    cel := fun k a c h1 h2 => by
      unfold behindC at h2
      by_cases hk : k < A.length
      · rw [List.getElem?_append_left hk] at h1
        rw [List.getElem?_append_left (by rw [put_len, ← m.len]; exact hk)] at h2
        by_cases hm : k ∈ hs
        · rw [put_mem hn hlt (by rw [List.length_map]; omega) hm, List.getElem?_map] at h2
          have hi := List.idxOf_lt_length_of_mem hm
          cases q : ν[hs.idxOf k]? with
          | none => rw [q] at h2; cases h2
          | some c0 =>
            rw [q] at h2
            cases h2
            refine (f.cel (hs.idxOf k) a c0 ?_ q).ren hren (Cell.hs_true c0)
            rw [List.getElem?_append_left (by rw [List.length_map]; exact hi), List.getElem?_map, List.getElem?_eq_getElem hi, List.getElem_idxOf hi]
            show some (A.getD k 0) = _
            rw [← getD_get hk, h1]
        · rw [put_not hm] at h2
          have q := m.cel k a c h1 h2
          cases c with
          | off => trivial
          | lst l =>
            obtain ⟨g, xs, hx, r⟩ := q
            have hna : a ∉ (hs.map fun k => A.getD k 0) := fun z => by
              obtain ⟨j, hj, e⟩ := List.mem_map.mp z
              obtain ⟨p1, e1⟩ := List.getElem?_eq_some_iff.mp (getD_get (hltA j hj))
              obtain ⟨p2, e2⟩ := List.getElem?_eq_some_iff.mp h1
              have ej : j = k := (List.getElem_inj m.nd).mp (e1.trans (e.trans e2.symm))
              exact hm (by rw [← ej]; exact hj)
            refine ⟨?_, xs, f.keep a _ hna hx, r.mono f.exG⟩
            cases z : G' a with
            | none => rfl
            | some o =>
              rcases f.new a (by rw [z]; exact fun h => nomatch h) with y | y
              · exact absurd g y
              · have y : H a = none := y
                rw [hx] at y
                cases y
      · rw [List.getElem?_append_right (by omega)] at h1
        rw [List.getElem?_append_right (by rw [put_len, ← m.len]; omega), put_len, ← m.len, List.getElem?_map, List.getElem?_drop] at h2
        cases q : ν[hs.length + (k - A.length)]? with
        | none => rw [q] at h2; cases h2
        | some c0 =>
          rw [q] at h2
          cases h2
          refine (f.cel _ a c0 ?_ q).ren hren (Cell.hs_true c0)
          rw [List.getElem?_append_right (by rw [List.length_map]; omega), List.length_map, Nat.add_sub_cancel_left]
          exact h1
    len := by
      unfold behindC
      rw [List.length_append, List.length_append, put_len, List.length_map, List.length_drop, ← m.len]
      omega
    nd := by
      have q := f.nd
      refine List.nodup_append.mpr ⟨m.nd, (List.nodup_append.mp q).2.1, fun a ha b hb e => ?_⟩
      obtain ⟨o, ho⟩ := alive a ha
      rw [e, hBn b hb] at ho
      cases ho
    al := fun a ha h => by
      rcases List.mem_append.mp ha with ha | ha
      · by_cases h0 : a ∈ (hs.map fun k => A.getD k 0)
        · exact f.al a (List.mem_append_left _ h0) h
        · obtain ⟨o, ho⟩ := alive a ha
          rw [f.keep a o h0 ho] at h
          cases h
      · exact f.al a (List.mem_append_right _ ha) h }
variable {T : Type} {C : D → List Cell → Prop} {E : XK} {ta : TA} {CE : Addr → D → List Cell → Prop}
/-- the lists handed in, as the callee sees them -/
theorem Mem.hand {hs : List Nat} (hn : hs.Nodup) (hlt : ∀ k ∈ hs, k < μ.length) (m : Mem K S A G H μ) (hc : cellsLt 0 (hs.map fun k => μ.getD k .off) = true) : Mem K ⟨hs.map fun k => A.getD k 0, G, H⟩ (hs.map fun k => A.getD k 0) G H (hs.map fun k => μ.getD k .off) := by
  have hltA : ∀ k ∈ hs, k < A.length := fun k hk => by rw [m.len]; exact hlt k hk
  exact {
    ex := m.ex
    exG := Ex.refl G
    pre := ⟨[], (List.append_nil _).symm, fun _ h => by cases h⟩
    new := fun _ h => .inl h
    keep := fun _ _ _ h => h
    cel := fun j a c h1 h2 => by
      rw [List.getElem?_map] at h1 h2
      cases q : hs[j]? with
      | none => rw [q] at h1; cases h1
      | some k =>
        rw [q] at h1 h2
        cases h1
        cases h2
        have hk : k ∈ hs := List.mem_of_getElem? q
        have z := m.cel k _ _ (getD_get (hltA k hk)) (getD_cell (hlt k hk))
        have hcl : (μ.getD k .off).lt 0 = true := List.all_eq_true.mp hc _ (List.mem_map_of_mem hk)
        have key : ∀ c : Cell, CellAt K A G H (A.getD k 0) c → c.lt 0 = true → CellAt K (hs.map fun k => A.getD k 0) G H (A.getD k 0) c := by
          intro c z hcl
          cases c with
          | off => trivial
          | lst l =>
            obtain ⟨g, xs, hx, r⟩ := z
            exact ⟨g, xs, hx, r.cl hcl⟩
        exact key _ z hcl
    len := by rw [List.length_map, List.length_map]
    nd := by
      refine List.pairwise_map.mpr ?_
      refine List.Pairwise.imp_of_mem (fun {i j} hi hj hij e => hij ?_) hn
      obtain ⟨p1, e1⟩ := List.getElem?_eq_some_iff.mp (getD_get (hltA i hi))
      obtain ⟨p2, e2⟩ := List.getElem?_eq_some_iff.mp (getD_get (hltA j hj))
      exact (List.getElem_inj m.nd).mp (e1.trans (e.trans e2.symm))
    al := fun a ha => by
      obtain ⟨k, hk, rfl⟩ := List.mem_map.mp ha
      exact m.al _ (List.mem_of_getElem? (getD_get (hltA k hk))) }
theorem hand_at {hs : List Nat} (hlt : ∀ k ∈ hs, k < A.length) : ∀ k a, hs.contains k = true → A[k]? = some a → (hs.map fun k => A.getD k 0)[hs.idxOf k]? = some a := fun k a hk h => by
  have hm : k ∈ hs := by simpa using hk
  have hi := List.idxOf_lt_length_of_mem hm
  rw [List.getElem?_map, List.getElem?_eq_getElem hi, List.getElem_idxOf hi]
  show some (A.getD k 0) = _
  rw [← getD_get (hlt k hm), h]
/-- THE RULE for a call: the open lists hs are handed in -/
theorem ee_callG {cel : T → List Cell} {arg : T → List D} {pre : T → Prop} {post : T → D → List Cell → Prop} {exc : T → Addr → D → List Cell → Prop} {dds : List V} (hs : List Nat) (wi : Wi K S E CE)
    (h : EA K S ta δ μ fun ds μ1 => ∃ t : T, pre t ∧ hs.Nodup ∧ (∀ k ∈ hs, k < μ1.length) ∧ cel t = hs.map (fun k => μ1.getD k .off) ∧ cellsLt 0 (cel t) = true ∧ D.hsL (fun k => hs.contains k) ds = true ∧ D.renL (fun k => hs.idxOf k) ds ++ dds.map D.v = arg t ∧
      (∀ d ν n, post t d ν → ν.length = n → d.lt n = true → cellsLt n ν = true → hs.length ≤ n → C (d.ren (back hs μ1.length)) (behindC hs μ1.length ν μ1)) ∧ ∀ c d ν, exc t c d ν → ν.length = hs.length → d.lt hs.length = true → cellsLt hs.length ν = true → CE c (d.ren (back hs μ1.length)) (behindC hs μ1.length ν μ1)) :
    EE K S (tCall (Pro K cel arg pre post exc) dds E ta) δ μ C := fun A G H σ a Q q =>
  h A G H σ a _ fun vs ds A1 G1 H1 μ1 m1 n1 r1 ⟨t, hp, hn, hlt, hcel, hcl, hh, ha, hC, hX⟩ => by
    have hltA : ∀ k ∈ hs, k < A1.length := fun k hk => by rw [m1.len]; exact hlt k hk
    have rd : RpL K (hs.map fun k => A1.getD k 0) G1 (arg t) (vs ++ dds) := by
      rw [← ha]
      exact (r1.ren (hand_at hltA) hh).append (RpL.vals dds)
    have hm := m1.hand hn hlt (by rw [← hcel]; exact hcl)
    rw [← hcel] at hm
    refine ⟨t, _, G1, hp, hm, rd, fun v d B G' H' ν f r c => ?_, fun c dx u d G' H' ν f f1 f2 f3 r c' => ?_⟩
    · have ma := m1.after hn hlt f
      have hl : ν.length = hs.length + B.length := by
        rw [← f.len, List.length_append, List.length_map]
      have hA : (hs.map (fun k => A1.getD k 0) ++ B).length = ν.length := f.len
      refine q v _ (A1 ++ B) G' H' _ ma (n1.trans ⟨⟨B, rfl⟩, f.exG⟩) (r.ren (back_at hltA) (D.hs_true d)) ?_
      rw [m1.len]
      exact hC d ν _ c rfl (by rw [← hA]; exact r.scope) f.scope (by omega)
    · have f' : Mem K ⟨hs.map fun k => A1.getD k 0, G1, H1⟩ ((hs.map fun k => A1.getD k 0) ++ []) G' H' ν := by
        rw [List.append_nil]
        exact f
      have ma := m1.after hn hlt f'
      have hl : ν.length = hs.length := by
        rw [← f.len, List.length_map]
      have r' : Rp K (A1 ++ []) G' (d.ren (back hs A1.length)) u := (by
        have r0 : Rp K ((hs.map fun k => A1.getD k 0) ++ []) G' d u := by
          rw [List.append_nil]
          exact r
        exact r0.ren (back_at hltA) (D.hs_true d))
      have hs0 : S.H dx = none := by
        cases qq : S.H dx with
        | none => rfl
        | some o =>
          by_cases ha' : dx ∈ S.A
          · obtain ⟨B0, hB0, h0⟩ := m1.pre
            exact absurd f1 (m1.al dx (by rw [hB0]; exact List.mem_append_left _ ha'))
          · have z := m1.keep dx o ha' qq
            rw [f1] at z
            cases z
      rw [m1.len] at ma r'
      have hA2 : (hs.map fun k => A1.getD k 0).length = hs.length := List.length_map _
      exact wi c dx u _ _ G' H' _ ma hs0 f2 f3 r' (hX c d ν c' hl (by rw [← hA2]; exact r.scope) (by rw [← hl]; exact f.scope))
theorem ren_cl {d : D} {f : Nat → Nat} (h : d.lt 0 = true) : d.ren f = d := D.ren_id (fun k z => absurd (of_decide_eq_true z) (Nat.not_lt_zero k)) h
theorem renL_cl {l : List D} {f : Nat → Nat} (h : D.ltL 0 l = true) : D.renL f l = l := D.renL_id (fun k z => absurd (of_decide_eq_true z) (Nat.not_lt_zero k)) h
theorem hsL_cl {l : List D} {p : Nat → Bool} (h : D.ltL 0 l = true) : D.hsL p l = true := D.hsL_mono (fun k z => absurd (of_decide_eq_true z) (Nat.not_lt_zero k)) h
/-- a call without open lists that may raise -/
theorem ee_c0 {arg : T → List D} {pre : T → Prop} {post : T → D → Prop} {exc : T → Addr → D → Prop} {dds : List V} (wi : Wi K S E CE)
    (h : EA K S ta δ μ fun ds μ1 => ∃ t : T, pre t ∧ ds ++ dds.map D.v = arg t ∧ D.ltL 0 ds = true ∧ (∀ d, post t d → d.lt 0 = true → C d μ1) ∧ ∀ c d, exc t c d → d.lt 0 = true → CE c d μ1) : EE K S (tCall (ProP K arg pre post exc) dds E ta) δ μ C :=
  ee_callG [] wi fun A G H σ a Q q => h A G H σ a Q fun vs ds A1 G1 H1 μ1 m n r ⟨t, hp, e, hl, hC, hX⟩ => q vs ds A1 G1 H1 μ1 m n r ⟨t, hp, List.nodup_nil, fun k hk => (by cases hk), rfl, rfl, hsL_cl hl, by rw [renL_cl hl]; exact e,
    fun d ν n' ⟨e1, hd⟩ e2 h1 _ _ => by
      subst e1
      subst e2
      have h1 : d.lt 0 = true := h1
      rw [ren_cl h1]
      show C d (μ1 ++ [])
      rw [List.append_nil]
      exact hC d hd h1,
    fun c d ν hd e2 h1 _ => by
      have e3 : ν = [] := List.length_eq_zero_iff.mp e2
      subst e3
      have h1 : d.lt 0 = true := h1
      rw [ren_cl h1]
      show CE c d (μ1 ++ [])
      rw [List.append_nil]
      exact hX c d hd h1⟩
theorem ee_cz {arg : T → List D} {pre : T → Prop} {post : T → D → Prop}
    (h : EA K S ta δ μ fun ds μ1 => ∃ t : T, pre t ∧ ds = arg t ∧ D.ltL 0 ds = true ∧ ∀ d, post t d → C d μ1) : EE K S (tCall (ProP K arg pre post (fun _ _ _ => False)) [] E ta) δ μ C :=
  ee_c0 (CE := fun _ _ _ => False) Wi.none fun A G H σ a Q q => h A G H σ a Q fun vs ds A1 G1 H1 μ1 m n r ⟨t, hp, e, hl, hC⟩ => q vs ds A1 G1 H1 μ1 m n r ⟨t, hp, by rw [List.map_nil, List.append_nil]; exact e, hl, fun d hd _ => hC d hd, fun _ _ z _ => z⟩
/-- .. that gives a new list, which stays open -/
theorem ee_czN {arg : T → List D} {pre : T → Prop} {post : T → List D → Prop}
    (h : EA K S ta δ μ fun ds μ1 => ∃ t : T, pre t ∧ ds = arg t ∧ D.ltL 0 ds = true ∧ ∀ l, post t l → D.ltL 0 l = true → C (.own μ1.length) (μ1 ++ [.lst l])) : EE K S (tCall (ProN K arg pre post (fun _ _ _ => False)) [] E ta) δ μ C :=
  ee_callG (CE := fun _ _ _ => False) [] Wi.none fun A G H σ a Q q => h A G H σ a Q fun vs ds A1 G1 H1 μ1 m n r ⟨t, hp, e, hl, hC⟩ => q vs ds A1 G1 H1 μ1 m n r ⟨t, hp, List.nodup_nil, fun k hk => (by cases hk), rfl, rfl, hsL_cl hl, by rw [renL_cl hl, List.map_nil, List.append_nil]; exact e,
    fun d ν n' ⟨l, e1, e2, hcl, hd⟩ _ _ _ _ => by
      subst e1 e2
      show C (.own (μ1.length + (0 - 0))) (μ1 ++ [.lst (D.renL _ l)])
      rw [renL_cl hcl]
      exact hC l hd hcl,
    fun _ _ _ z _ _ _ => z⟩
/-- the handle of the k-th list becomes the callee's first -/
def Hand (k : Nat) (d e : D) : Prop := (d = .own k ∧ e = .own 0) ∨ (d.lt 0 = true ∧ e = d)
inductive HandL (k : Nat) : List D → List D → Prop
  | nil : HandL k [] []
  | cons {d e : D} {l m : List D} : Hand k d e → HandL k l m → HandL k (d :: l) (e :: m)
theorem HandL.ren {k : Nat} : ∀ {l m : List D}, HandL k l m → D.hsL (fun j => [k].contains j) l = true ∧ D.renL (fun j => [k].idxOf j) l = m
  | _, _, .nil => ⟨rfl, rfl⟩
  | _, _, .cons (d := d) (e := e) (l := l) (m := m) h t => by
    obtain ⟨h1, h2⟩ := HandL.ren t
    have hd : d.hs (fun j => [k].contains j) = true ∧ d.ren (fun j => [k].idxOf j) = e := by
      rcases h with ⟨rfl, rfl⟩ | ⟨hl, rfl⟩
      · exact ⟨by show [k].contains k = true; simp, by show D.own ([k].idxOf k) = _; simp⟩
      · exact ⟨D.hs_mono (fun j z => absurd (of_decide_eq_true z) (Nat.not_lt_zero j)) hl, ren_cl hl⟩
    exact ⟨Bool.and_eq_true_iff.mpr ⟨hd.1, h1⟩, by show D.ren _ d :: D.renL _ l = _; rw [hd.2, h2]⟩
theorem hand1 {k : Nat} {l : List D} (h : D.ltL 0 l = true) : HandL k (.own k :: l) (.own 0 :: l) := by
  refine .cons (.inl ⟨rfl, rfl⟩) ?_
  induction l with
  | nil => exact .nil
  | cons d l ih =>
    have h := Bool.and_eq_true_iff.mp (show (d.lt 0 && D.ltL 0 l) = true from h)
    exact .cons (.inr ⟨h.1, rfl⟩) (ih h.2)
/-- a call that is handed one open list -/
theorem ee_cz1 {cel : T → List Cell} {arg : T → List D} {pre : T → Prop} {post : T → D → List Cell → Prop} (k : Nat)
    (h : EA K S ta δ μ fun ds μ1 => ∃ (t : T) (l : List D), pre t ∧ cel t = [.lst l] ∧ D.ltL 0 l = true ∧ μ1[k]? = some (.lst l) ∧ HandL k ds (arg t) ∧ ∀ d ν, post t d ν → d.lt 0 = true ∧ ∃ l', ν = [.lst l'] ∧ D.ltL 0 l' = true ∧ C d (μ1.set k (.lst l'))) :
    EE K S (tCall (Pro K cel arg pre post (fun _ _ _ _ => False)) [] E ta) δ μ C :=
  ee_callG (CE := fun _ _ _ => False) [k] Wi.none fun A G H σ a Q q => h A G H σ a Q fun vs ds A1 G1 H1 μ1 m n r ⟨t, l, hp, e, hl, hk, hh, hC⟩ => q vs ds A1 G1 H1 μ1 m n r (by
    have hlt := (List.getElem?_eq_some_iff.mp hk).1
    have hg : μ1.getD k .off = .lst l := by
      have z := getD_cell hlt
      rw [hk] at z
      injection z with z
      exact z.symm
    obtain ⟨h1, h2⟩ := hh.ren
    refine ⟨t, hp, by simp, fun j hj => (by rw [List.mem_singleton.mp hj]; exact hlt), by rw [e, List.map_cons, List.map_nil, hg], ?_, h1, by rw [h2, List.map_nil, List.append_nil], fun d ν n' hd _ _ _ _ => ?_, fun _ _ _ z _ _ _ => z⟩
    · rw [e]
      show (D.ltL 0 l && true) = true
      rw [hl]
      rfl
    · obtain ⟨hd0, l', rfl, hl', hc⟩ := hC d ν hd
      rw [ren_cl hd0]
      show C d ((μ1.set k (.lst (D.renL _ l'))) ++ [])
      rw [renL_cl hl', List.append_nil]
      exact hc)
end
end PA

set_option Elab.async false
set_option linter.all false
set_option maxRecDepth 100000
set_option maxHeartbeats 2000000
/-! PbCall3: calls that only read open lists; open lists shut for good. -/
namespace PA
open PySem L2
section
variable {K : PySem.W.Frag} {S : Bs} {δ : Sl} {μ ν : List Cell} {A A' B : List Addr} {G H G' H' : Hp} {T : Type} {C : D → List Cell → Prop} {E : XK} {ta : TA} {CE : Addr → D → List Cell → Prop}
/-- what is known when the open lists are read as they stand -/
def lent (A : List Addr) (G H : Hp) : Hp := fun a => if (A.contains a && (G a).isNone) = true then H a else G a
theorem lent_ex (A : List Addr) (G H : Hp) : Ex G (lent A G H) := fun a o h => by
  unfold lent
  rw [h]
  simp
theorem lent_exH (e : Ex G H) : Ex (lent A G H) H := fun a o h => by
  unfold lent at h
  split at h
  · exact h
  · exact e a o h
theorem lent_at {a : Addr} (ha : a ∈ A) (g : G a = none) : lent A G H a = H a := by
  unfold lent
  rw [g]
  simp [ha]
/-- the contents of the open lists -/
def rdC (μ : List Cell) (k : Nat) : Option (List D) := match μ[k]? with
  | some (.lst l) => some l
  | _ => none
theorem lent_sub (m : Mem K S A G H μ) {ds : List D} {vs : List V} (r : RpL K A G ds vs) : RpL K A (lent A G H) (D.subL (rdC μ) ds) vs := by
  refine RpL.sub (lent_ex A G H) (fun k a l hA hg => ?_) r
  unfold rdC at hg
  split at hg
  · rename_i l' hc
    cases hg
    obtain ⟨g, xs, hx, rl⟩ := m.cel k a _ hA hc
    exact ⟨xs, by rw [lent_at (List.mem_of_getElem? hA) g]; exact hx, rl.mono0 (lent_ex A G H)⟩
  · cases hg
/-- a call that reads the open lists; its answer is a value -/
theorem ee_czB {arg : T → List D} {pre : T → Prop} {post : T → D → Prop}
    (h : EA K S ta δ μ fun ds μ1 => ∃ t : T, pre t ∧ D.subL (rdC μ1) ds = arg t ∧ D.ltL 0 (arg t) = true ∧ ∀ d, post t d → ∃ x, d = .v x ∧ C (.v x) μ1) : EE K S (tCall (ProP K arg pre post (fun _ _ _ => False)) [] E ta) δ μ C := fun A G H σ a Q q =>
  h A G H σ a _ fun vs ds A1 G1 H1 μ1 m1 n1 r1 ⟨t, hp, e, hl, hC⟩ => by
    have r2 := lent_sub m1 r1
    rw [e] at r2
    have rd : RpL K [] (lent A1 G1 H1) (arg t) (vs ++ []) := by
      rw [List.append_nil]
      exact r2.cl hl
    have m0 : Mem K ⟨[], lent A1 G1 H1, H1⟩ [] (lent A1 G1 H1) H1 [] := ⟨lent_exH m1.ex, Ex.refl _, ⟨[], rfl, fun _ h => by cases h⟩, fun _ h => .inl h, fun _ _ _ h => h, fun k a c h _ => by simp at h, rfl, List.nodup_nil, fun _ h => by cases h⟩
    refine ⟨t, [], _, hp, m0, rd, fun v d B G' H' ν f r ⟨eν, c⟩ => ?_, fun _ _ _ _ _ _ _ _ _ _ _ _ z => z.elim⟩
    obtain ⟨x, ed, hc⟩ := hC d c
    subst ed
    have ev := r.vOf
    subst ev
    have kp : ∀ a o, H1 a = some o → H' a = some o := fun a o h => f.keep a o (fun z => by cases z) h
    have mf : Mem K S A1 G1 H' μ1 := {
      ex := (lent_ex A1 G1 H1).trans (f.exG.trans f.ex)
      exG := m1.exG
      pre := m1.pre
      new := m1.new
      keep := fun a o h1 h2 => kp a o (m1.keep a o h1 h2)
      cel := fun k a c h1 h2 => by
        have z := m1.cel k a c h1 h2
        cases c with
        | off => trivial
        | lst l =>
          obtain ⟨g, xs, hx, rl⟩ := z
          exact ⟨g, xs, kp _ _ hx, rl⟩
      len := m1.len
      nd := m1.nd
      al := fun a ha h => by
        cases z : H1 a with
        | none => exact m1.al a ha z
        | some o =>
          rw [kp a o z] at h
          cases h }
    exact q _ _ A1 G1 H' μ1 mf n1 (.v _) hc
/-- .. that gives a new list, which is never changed from now on -/
theorem ee_czS {arg : T → List D} {pre : T → Prop} {post : T → List D → Prop}
    (h : EA K S ta δ μ fun ds μ1 => ∃ t : T, pre t ∧ ds = arg t ∧ D.ltL 0 ds = true ∧ ∀ l, post t l → D.ltL 0 l = true → C (.lst l) μ1) : EE K S (tCall (ProN K arg pre post (fun _ _ _ => False)) [] E ta) δ μ C := fun A G H σ a Q q =>
  h A G H σ a _ fun vs ds A1 G1 H1 μ1 m1 n1 r1 ⟨t, hp, e, hl, hC⟩ => by
    have rd : RpL K [] G1 (arg t) (vs ++ []) := by
      rw [List.append_nil, ← e]
      exact r1.cl hl
    have m0 : Mem K ⟨[], G1, H1⟩ [] G1 H1 [] := ⟨m1.ex, Ex.refl _, ⟨[], rfl, fun _ h => by cases h⟩, fun _ h => .inl h, fun _ _ _ h => h, fun k a c h _ => by simp at h, rfl, List.nodup_nil, fun _ h => by cases h⟩
    refine ⟨t, [], G1, hp, m0, rd, fun v d B G' H' ν f r ⟨l, ed, eν, hcl, c⟩ => ?_, fun _ _ _ _ _ _ _ _ _ _ _ _ z => z.elim⟩
    subst ed eν
    cases r with
    | @own _ p hp2 =>
      obtain ⟨g, xs, hx, rl⟩ := f.cel 0 p _ hp2 rfl
      have fs := f.shut (Nat.zero_le _) hp2 rfl hx
      have ft := fs.trim (ks := []) List.nodup_nil (fun k hk => (by cases hk)) (fun c hc => (by cases hc))
      have fa := m1.after (hs := []) (B := []) List.nodup_nil (fun k hk => (by cases hk)) ft
      have eb : behindC [] A1.length (kept 0 [] ([Cell.lst l].set 0 .off)) μ1 = μ1 := by
        show μ1 ++ [] = μ1
        rw [List.append_nil]
      rw [List.append_nil] at fa
      have fa2 : Mem K S A1 (upd G' p (.lst xs)) H' μ1 := by
        rw [← eb]
        exact fa
      have e1 : Ex G' (upd G' p (.lst xs)) := Ex.new g
      exact q _ (.lst l) A1 _ H' μ1 fa2 (n1.trans (.of (f.exG.trans e1))) (.lst upd_same ((rl.cl hcl).mono0 e1)) (hC l c hcl)
def Cell.sub (g : Nat → Option (List D)) : Cell → Cell
  | .lst l => .lst (D.subL g l)
  | .off => .off
/-- an open list of one's own is never changed from now on -/
theorem se_shut {ts : TS} {F0 : Cn} (k : Nat) {l : List D} (hk : S.A.length ≤ k) (hc : μ[k]? = some (.lst l)) (h : SE K S ts (δ.map (·.map (D.sub fun j => if j = k then some l else none))) ((μ.set k .off).map (Cell.sub fun j => if j = k then some l else none)) F0) : SE K S ts δ μ F0 := fun A G H σ a F f => by
  have hlt : k < A.length := by
    rw [a.m.len]
    exact (List.getElem?_eq_some_iff.mp hc).1
  have hA := getD_get hlt
  obtain ⟨g, xs, hx, r⟩ := a.m.cel k _ _ hA hc
  have ms := a.m.shut hk hA hc hx
  have e1 : Ex G (upd G (A.getD k 0) (.lst xs)) := Ex.new g
  have hg : ∀ j b l', A[j]? = some b → (if j = k then some l else none) = some l' → ∃ ys, upd G (A.getD k 0) (.lst xs) b = some (.lst ys) ∧ RpL K A (upd G (A.getD k 0) (.lst xs)) l' ys := fun j b l' h1 h2 => by
    by_cases e : j = k
    · subst e
      rw [if_pos rfl] at h2
      cases h2
      rw [hA] at h1
      cases h1
      exact ⟨xs, upd_same, r.mono0 e1⟩
    · rw [if_neg e] at h2
      cases h2
  have en : ∀ {δ : Sl} {σ : St}, En K A G δ σ → En K A (upd G (A.getD k 0) (.lst xs)) (δ.map (·.map (D.sub fun j => if j = k then some l else none))) σ := by
    intro δ σ h
    induction h with
    | nil => exact .nil
    | skip _ ih => exact .skip ih
    | cons h _ ih => exact .cons (Rp.sub e1 hg h) ih
  have ms2 : Mem K S A (upd G (A.getD k 0) (.lst xs)) H ((μ.set k .off).map (Cell.sub fun j => if j = k then some l else none)) := {
    ex := ms.ex
    exG := ms.exG
    pre := ms.pre
    new := ms.new
    keep := ms.keep
    cel := fun j b c h1 h2 => by
      rw [List.getElem?_map] at h2
      cases q : (μ.set k .off)[j]? with
      | none => rw [q] at h2; cases h2
      | some c0 =>
        rw [q] at h2
        cases h2
        have z := ms.cel j b c0 h1 q
        cases c0 with
        | off => trivial
        | lst l2 =>
          obtain ⟨g2, ys, hy, r2⟩ := z
          exact ⟨g2, ys, hy, RpL.sub (Ex.refl _) hg r2⟩
    len := by rw [List.length_map]; exact ms.len
    nd := ms.nd
    al := ms.al }
  exact h A _ H σ ⟨ms2, en a.env⟩ F (f.at' (.of e1))
theorem Mem.freeS (m : Mem K S A G H μ) {p : Addr} (h : H p = none) : S.H p = none ∧ p ∉ A := by
  have hA : p ∉ A := fun z => m.al p z h
  refine ⟨?_, hA⟩
  cases q : S.H p with
  | none => rfl
  | some o =>
    by_cases ha : p ∈ S.A
    · obtain ⟨B, hB, _⟩ := m.pre
      exact absurd (by rw [hB]; exact List.mem_append_left _ ha) hA
    · rw [m.keep p o ha q] at h
      cases h
theorem mem00 (m : Mem K S A G H μ) : Mem K ⟨[], G, H⟩ [] G H [] := ⟨m.ex, Ex.refl _, ⟨[], rfl, fun _ h => by cases h⟩, fun _ h => .inl h, fun _ _ _ h => h, fun k a c h _ => by simp at h, rfl, List.nodup_nil, fun _ h => by cases h⟩
theorem after0 (m : Mem K S A G H μ) (f : Mem K ⟨[], G, H⟩ ([] ++ B) G' H' []) : B = [] ∧ Mem K S A G' H' μ := by
  have hB : B = [] := List.length_eq_zero_iff.mp (by have z := f.len; simpa using z)
  subst hB
  have fa := m.after (hs := []) (B := []) List.nodup_nil (fun k hk => (by cases hk)) f
  have eb : behindC [] A.length [] μ = μ := by
    show μ ++ [] = μ
    rw [List.append_nil]
  rw [List.append_nil, eb] at fa
  exact ⟨rfl, fa⟩
end
end PA

set_option Elab.async false
set_option linter.all false
set_option maxRecDepth 100000
set_option maxHeartbeats 2000000
/-! PbErr: own errors that hold a value: raised, caught and kept, asked for their class and their value. -/
namespace PA
open PySem L2
section
variable {P : Program} {w : World} {H : Hp} {h : Heap} {e C dx : Addr}
theorem exq_ok {oe : Obj} {vs : Array Value} (h1 : h.get? e = some oe) (h2 : oe.cls = .ref C) (h3 : oe.dict = some dx) (h4 : oe.data = .fields vs) : ObjOk P w H h e (exq e C dx) :=
  ⟨⟨oe, vs, h1, h2, h3, h4⟩, ⟨oe, h1⟩, fun g1 g2 z k => by
    obtain ⟨o, us, q1, q⟩ := z
    exact ⟨o, us, k o q1, q⟩⟩
theorem exq_at (ok : HOk P w H h) (q : H e = some (exq e C dx)) : ∃ (oe : Obj) (vs : Array Value), h.get? e = some oe ∧ oe.cls = .ref C ∧ oe.dict = some dx ∧ oe.data = .fields vs := by
  have z : ObjOk P w H h e (.ext fun h => ∃ (oe : Obj) (vs : Array Value), h.get? e = some oe ∧ oe.cls = .ref C ∧ oe.dict = some dx ∧ oe.data = .fields vs) := ok e _ q
  exact z.1
theorem exq_ne {x : Addr} {u : HO} (hu : ∀ φ, u ≠ .ext φ) : exq e C dx ≠ u := fun z => hu _ z.symm
theorem exd_ne {fs : List (Str × V)} {u : HO} (hu : ∀ φ, u ≠ .ext φ) : exd dx fs ≠ u := fun z => hu _ z.symm
end
section
variable {X : Cx} {pins : List (Addr × Obj)} {σ : L2.St} {H : Hp} {s : Shared}
/-- an error that came down, and its dict, are tracked from now on -/
theorem keep_exc {a C dx : Addr} {oe : Obj} {vs : Array Value} {fs : List (Str × V)} (I : Inv X pins σ H s) (ha : s.heap.get? a = some oe) (hc : oe.cls = .ref C) (hd : oe.dict = some dx) (hv : oe.data = .fields vs)
    (h0 : X.s_0.heap.get? a = none) (hH : H a = none) (hx : H dx = some (.xd fs)) (nL : a ≠ X.env.locals) (np : ∀ p ∈ X.pn ++ pins, p.1 ≠ a) :
    Inv X pins σ (upd (upd H dx (exd dx fs)) a (exq a C dx)) s := by
  have ndx : dx ≠ a := ne_of_none hx hH
  have at_ : ∀ {b : Addr}, H b = none → b ≠ a → upd (upd H dx (exd dx fs)) a (exq a C dx) b = none := fun {b} hb hne => by
    have hbd : b ≠ dx := fun z => by
      rw [z, hx] at hb
      cases hb
    rw [upd_ne hne, upd_ne hbd]
    exact hb
  have stay : ∀ {b : Addr} {o : HO}, H b = some o → (∀ f, o ≠ .xd f) → upd (upd H dx (exd dx fs)) a (exq a C dx) b = some o := fun {b o} hb hne => by
    have h1 : b ≠ a := ne_of_none hb hH
    have h2 : b ≠ dx := fun z => by
      rw [z, hx] at hb
      cases hb
      exact hne fs rfl
    rw [upd_ne h1, upd_ne h2]
    exact hb
  refine {
    ok := I.ok
    os := I.os
    bare := I.bare
    base := ⟨I.base.keep, I.base.slot, fun b o e1 e2 e3 => at_ (I.base.free b o e1 e2 e3) (fun z => ?_), I.base.there, fun b xs q => stay (I.base.tups b xs q) (fun f z => by cases z),
      fun b o u q => stay (I.base.frzs b o u q) (fun f z => by cases z), fun b ps q => ?_⟩
    loc := I.loc
    cell := I.cell
    free := at_ I.free (Ne.symm nL)
    freeC := fun x c q => at_ (I.freeC x c q) (fun z => ?_)
    pin := fun p hp => ?_
    hok := ?_
    len := I.len }
  · rw [z, h0] at e1
    cases e1
  · obtain ⟨more, z⟩ := I.base.tbls b ps q
    exact ⟨more, stay z (fun f z => by cases z)⟩
  · obtain ⟨v, o, ho, hod⟩ := I.cell x c q
    rw [z, ha] at ho
    cases ho
    rw [hv] at hod
    cases hod
  · obtain ⟨q1, q2, q3⟩ := I.pin p hp
    exact ⟨q1, at_ q2 (np p hp), q3⟩
  · intro b o hb
    by_cases e1 : b = a
    · subst e1
      rw [upd_same] at hb
      cases hb
      exact exq_ok ha hc hd hv
    · rw [upd_ne e1] at hb
      by_cases e2 : b = dx
      · subst e2
        rw [upd_same] at hb
        cases hb
        have z : ObjOk X.prog X.w H s.heap b (.xd fs) := I.hok b _ hx
        obtain ⟨mA, hn, hr⟩ := z
        exact exd_ok hn hr
      · rw [upd_ne e2] at hb
        exact (I.hok b o hb).stay (fun _ _ _ q => q) (fun c q => stay q (fun f z => by cases z)) fun c xs q => stay q (fun f z => by cases z)
/-- the context of a suite whose error is tracked -/
theorem suite_in (I : Inv X pins σ H s) (a : Addr) : Inv (X.suite a (X.pn ++ pins)) [] σ H s :=
  ⟨I.ok.suite _ _, I.os, I.bare, I.base, I.loc, I.cell, I.free, I.freeC, fun p hp => I.pin p (by rwa [List.append_nil] at hp), I.hok, I.len⟩
theorem suite_out {a : Addr} {pn' : List (Addr × Obj)} (I : Inv (X.suite a (X.pn ++ pins)) pn' σ H s) (ok : X.Ok) : Inv X pins σ H s :=
  ⟨ok, I.os, I.bare, I.base, I.loc, I.cell, I.free, I.freeC, fun p hp => I.pin p (List.mem_append_left _ hp), I.hok, I.len⟩
end
/-- what «except c as n: ts» asks, the error being kept behind it -/
def wHold (K : PySem.W.Frag) (c : Value) (i : Nat) (ts : TS) (Wout : WX) (D : Ends) : WX := fun cls d σ H =>
  ∃ b, PySem.W.exmOne K cls c = some b ∧
    (b = true → ∃ (C dx : Addr) (fs : List (Str × V)), cls = .ref C ∧ d = some dx ∧ H dx = some (.xd fs) ∧ ∀ a, H a = none →
      ts { nx := fun σ' H' => D.nx (σ'.set i none) H', rt := D.rt, bk := fun σ' H' => D.bk (σ'.set i none) H', ct := fun σ' H' => D.ct (σ'.set i none) H' } (σ.set i (some (.ref a))) (upd (upd H dx (exd dx fs)) a (exq a C dx))) ∧
    (b = false → Wout cls d σ H)
section
variable {X : Cx} {x n : Str} {c : Value} {i : Nat} {body suite : List Stmt} {b₀ : Stmt} {np pos pos' : Pos} {tb : WX → TS} {ts : TS} {Wout : WX}
theorem ps_try_hold (hstk : X.stack = X.env :: X.outer) (hfr0 : X.env.frame = some X.env.locals) (hex : X.ex = []) (hN : X.N.Nodup) (hi : X.N[i]? = some n) (hln : X.env.kindOf n = some .local) (hnm : Names X x c) (tk : Takes X Wout)
    (hb : ∀ (W : WX) (pn : List (Addr × Obj)) (xe : Value → Shared → Prop), Takes (X.tr pn xe) W → PassesOwn (model X.prog X.w) X.A X.env xe → PSs (X.tr pn xe) body (tb W))
    (hsu : ∀ (a : Addr) (pn : List (Addr × Obj)), PSs (X.suite a pn) (b₀ :: suite) ts) :
    PS X (.Try body [.ExceptHandler (some (.Name x np)) (some n) (b₀ :: suite) pos'] [] [] pos) (fun D σ H => tb (wHold X.K c i ts Wout D) D σ H) := by
  refine ⟨fun pins s σ H D I h => ?_⟩
  have okX := I.ok
  have frm : X.A.frames = some (X.env :: X.outer) := okX.frames.trans (congrArg some hstk)
  refine wpAny_Try_except ?_
  refine wpAny_mono ((hb (wHold X.K c i ts Wout D) (X.pn ++ pins)
    (fun e s₁ => wpAny (model X.prog X.w) X.A (noteFrame e X.env) (fun _ s₂ => wpAny (model X.prog X.w) X.A (setFlight e none)
      (fun _ s₃ => wpAny (model X.prog X.w) X.A (handleBy e X.env [.ExceptHandler (some (.Name x np)) (some n) (b₀ :: suite) pos']) (SP X pins D) X.xe s₃) X.xe s₂) X.xe s₁)
    (fun u s' air => ?_) PassesOwn.looking).run [] s σ H D (I.toTry _) h) (fun f s1 fin => ?_) (fun e s1 he => he)
  · obtain ⟨a, B, sI, pins', σ', H', cls, d, rfl, JT, nb, up, sky, na, os, ag, b, hb1, yes, no⟩ := air
    have J : Inv X pins σ' H' sI := JT.ofTry okX
    show wpAny (model X.prog X.w) X.A (noteFrame (.ref a) X.env) _ _ _
    refine Sky.land Zc.steady frm hfr0 (hstk ▸ sky) fun h3 fly up3 => ?_
    have J3 : Inv X pins σ' H' { s' with heap := h3 } := J.landed nb fly.1 (up.trans up3) os ag
    obtain ⟨o3, v3, g3, z3, d3⟩ := fly.there
    have off : a ∉ frs (X.env :: X.outer) := fun hm => by
      obtain ⟨_, o', e', nof⟩ := fly.2.2.1.mem hm
      rw [g3] at e'
      cases e'
      exact nof _ d3
    have aL : a ≠ X.env.locals := fun z => off (List.mem_filterMap.mpr ⟨X.env, List.mem_cons_self, by rw [hfr0, z]⟩)
    have aI : sI.heap.get? a = none := by
      cases q : sI.heap.get? a with
      | none => rfl
      | some o =>
        have z := nb a o q (by rw [hstk]; exact off)
        rw [fly.2.1] at z
        cases z
    have a0 : X.s_0.heap.get? a = none := by
      cases q : X.s_0.heap.get? a with
      | none => rfl
      | some o =>
        obtain ⟨o', z⟩ := J.base.there a o q (fun hm => by
          rw [hex] at hm
          cases hm)
        rw [aI] at z
        cases z
    have aP : ∀ p ∈ X.pn ++ pins, p.1 ≠ a := fun p hp z => by
      have q := (J.pin p hp).1
      rw [z, aI] at q
      cases q
    refine wpAny_handleBy_cons (codeAny_handlers_test ?_) (by intro q; cases q)
    have typ : PySem.W.Looks (model X.prog X.w) h3 (typeOf (.ref a)) cls := fun A Q E s k q =>
      wpAny_typeOf_ref (k _ _ g3) (by rw [z3.1]; exact q)
    have look := PySem.W.exm_one (M := model X.prog X.w) J3.kIn typ hb1
    have S3 := suite_in J3 a
    have named : ∀ {Q : Value → Shared → Prop} {E : Value → Shared → Prop}, Q c { s' with heap := h3 } → wpAny (model X.prog X.w) (X.A.mark (some (.ref a))) (eval (.Name x np) X.env) Q E { s' with heap := h3 } := fun {Q E} q => by
      obtain ⟨hg, hdb, hm | ⟨hm, hv, hnn⟩⟩ := hnm
      · exact ld_glob (X := X.suite a (X.pn ++ pins)) S3 hg hm q hdb
      · exact ld_blt (X := X.suite a (X.pn ++ pins)) S3 hg hm hv q hnn hdb
    refine named (look.here ?_)
    cases b with
    | true =>
      refine codeAny_handlers_suite_as ?_
      refine HandSPX.lands_againZ fly fun h4 fl4 up4 => ?_
      have J4 : Inv X pins σ' H' { s' with heap := h4 } := J.landed nb fl4.1 ((up.trans up3).trans up4) os ag
      obtain ⟨o4, v4, g4, z4, d4⟩ := fl4.there
      obtain ⟨C, dx, fs, ec, ed, hx, go⟩ := yes rfl
      have J5 := keep_exc J4 (oe := o4) (vs := v4) g4 (by rw [z4.1, ec]) (by rw [z4.2, ed]) d4 a0 na hx aL aP
      refine store_ok (X := X.suite a (X.pn ++ pins)) (v := .ref a) (suite_in J5 a) hN hi (.inl hln) rfl (fun s5 S5 => ?_) (.inr hln)
      refine wpAny_mono ((hsu a (X.pn ++ pins)).run [] s5 _ _ _ S5 (go a na)) (fun f s6 hf => ?_) (fun _ _ z => False.elim z)
      have over : ∀ {σ6 : L2.St} {H6 : Hp} {Q : Shared → Prop}, Inv (X.suite a (X.pn ++ pins)) [] σ6 H6 s6 → (∀ s7, Inv X pins (σ6.set i none) H6 s7 → Q s7) →
          wpAny (model X.prog X.w) X.A (do bindName X.env n .none; unbindBehindTheSuite X.env n pos') (fun _ s7 => Q s7) X.xe s6 := fun {σ6 H6 Q} S6 hq => gone_ok (suite_out S6 okX) hN hi hln hq
      cases f with
      | next =>
        obtain ⟨σ6, H6, S6, q6⟩ := hf
        exact over S6 fun s7 J7 => ⟨_, _, J7, q6⟩
      | brk =>
        obtain ⟨σ6, H6, S6, q6⟩ := hf
        exact over S6 fun s7 J7 => ⟨_, _, J7, q6⟩
      | cont =>
        obtain ⟨σ6, H6, S6, q6⟩ := hf
        exact over S6 fun s7 J7 => ⟨_, _, J7, q6⟩
      | ret u =>
        obtain ⟨v6, σ6, H6, S6, r6, q6⟩ := hf
        exact over S6 fun s7 J7 => ⟨_, _, _, J7, r6, q6⟩
    | false =>
      show wpAny _ X.A (handleBy (.ref a) X.env []) _ _ _
      refine wpAny_handleBy_nil ?_
      obtain ⟨k1, k2, k3, oe, vs, T, oT, tz, he, hz, hd, h1, hr⟩ := id fly
      unfold PySem.passOn
      refine wpAny_bind (wpAny_field he hd h1 ?_)
      rw [if_neg (show ¬ ((Value.ref T == Value.none) = true) from by simp)]
      have fin : wpAny (model X.prog X.w) X.A (setFlight (.ref a) X.env.frame) (fun _ s4 => wpAny (model X.prog X.w) X.A (throw (.ref a) : Sem Flow) (SP X pins D) X.xe s4) X.xe { s' with heap := h3 } := by
        rw [hfr0]
        refine HandSPX.setFlight_upZ fly fun h4 held up4 => wpAny_throw (tk _ _ ?_)
        exact ⟨a, B, sI, pins, σ', H', cls, d, rfl, J, nb, (up.trans up3).trans up4, .inr (.inr (by rw [hstk]; exact held)), na, os, ag, no rfl⟩
      first
        | exact wpAny_bind (wpAny_pure (wpAny_bind fin))
        | exact wpAny_bind fin
  · cases f with
    | next =>
      obtain ⟨σ', H', J', q⟩ := fin
      exact wpAny_execs_nil ⟨σ', H', J'.ofTry okX, q⟩
    | brk =>
      obtain ⟨σ', H', J', q⟩ := fin
      exact ⟨σ', H', J'.ofTry okX, q⟩
    | cont =>
      obtain ⟨σ', H', J', q⟩ := fin
      exact ⟨σ', H', J'.ofTry okX, q⟩
    | ret u =>
      obtain ⟨v, σ', H', J', r, q⟩ := fin
      exact ⟨v, σ', H', J'.ofTry okX, r, q⟩
end
end PA

set_option Elab.async false
set_option linter.all false
set_option maxRecDepth 100000
set_option maxHeartbeats 2000000
/-! PbErr2: what an own error class with a value must say; raise, .value, isinstance, and these over data. -/
namespace PA
open PySem L2
/-- what the written part says of an own error class at C whose __init__ at fI keeps a value -/
structure ErrC (K : PySem.W.Frag) (C fI : Addr) : Prop where
  ox : OexC K C
  xf : XfC K C
  noV : PySem.W.findIn K (.ref C) "value" = some none
  ini : PySem.W.findIn K (.ref C) "__init__" = some (some (.ref fI))
  tI : PySem.W.typeIn K (.ref fI) = some (.type "function")
  ha : PySem.W.findIn K (.ref C) "__class__" = some (some (.builtin "object.__class__"))
  hn : PySem.W.specialIn K (.builtin "object.__class__") "__get__" = some (some (.builtin "getset_descriptor.__get__"))
  ht : PySem.W.takesIn K (.builtin "object.__class__") = some true
  hm : PySem.W.mroIn K C (.type "object") = some true
/-- the promise of such an __init__ -/
def spErr (C : Addr) : Sp := fun vs H Q _ => ∃ (a : Addr) (u : V), vs = [.ref a, u] ∧ H a = some (exo a C none) ∧
  ∀ dx, H dx = none → dx ≠ a → Q .non (upd (upd H dx (exd dx [(("value" : Str), u)])) a (exo a C (some dx)))
def initBody (q1 q2 q3 q4 : Pos) : List Stmt := [.Assign [.Attribute (.Name "self" q1) "value" q2] (.Name "value" q3) q4]
section
variable {P : Program} {w : World} {K : PySem.W.Frag} {mg : Str → Option Value} {base : Heap} {C fI : Addr} {fd : FuncData}
theorem err_fn {qual : Str} {params : Arguments} {body : List Stmt} {scope : Scope} {q1 q2 q3 q4 : Pos} (F : FunD K "__init__" qual params body scope [.non] [] fI fd) (T : ErrC K C fI) (hb : body = initBody q1 q2 q3 q4)
    (sc : FnScope ["self", "value"] ["self", "value"] scope) (v0 : Vis scope "self") (v1 : Vis scope "value") : FnOk P w K mg base (L2.CX P w) 1 fI fd ["self", "value"] (spErr C) := by
  subst hb
  refine F.ok sc (fun vs H Q E h => ?_) (fun cdv A outer s H vs Q E hr h => ?_)
  · obtain ⟨a, u, rfl, _⟩ := h
    rfl
  · obtain ⟨a, u, rfl, ha, k⟩ := h
    refine ⟨_, pss_one (ps_ost (pe_var (i := 0) rfl v0) (pe_var (i := 1) rfl v1) (by rfl)), ?_⟩
    exact ⟨_, rfl, _, rfl, a, C, rfl, T.ox, T.noV, .inl ⟨ha, fun dx hd ne => k dx hd ne⟩⟩
end
/-- raise C(e) -/
def tRaiseE (C : Addr) (E : XK) (ta : TA) : TS := fun _ σ H => tMkO C (spErr C) [] ta σ H fun cls d H' => E cls d H'
theorem ps_raiseE {X : Cx} {CX : CXT} {C fI : Addr} {fd : FuncData} {ta : TA} {E : XK} {x : Str} {e : Expr} {es : List Expr} {p pos pos2 : Pos} {k : Nat} (hc : X.calm = true) (T : ErrC X.K C fI) (F : FnOk X.prog X.w X.K X.mg X.base CX k fI fd ["self", "value"] (spErr C)) (hr : Room (k + 1) X.A)
    (hb : Binds X.K fd ["self", "value"] []) (hx : Passes CX X (fun _ _ _ => False)) (tk : Takes X (fun cls d _ H => E cls d H)) (hg : Gl X x) (hm : X.mg x = some (.ref C)) (ha : PA X (e :: es) ta)
    (hdb : (x == ("__debug__" : Str)) = false := by decide) (he : starEach (e :: es) X.env = (false, eval e X.env) :: starEach es X.env := by rfl) (hpl : (backTo pos (starEach es X.env)).any (·.1) = false := by rfl) :
    PS X (.Raise (some (.Call (.Name x p) (e :: es) [] pos)) none pos2) (tRaiseE C E ta) :=
  ps_raise hc tk (pmk_oex T.ox T.ini T.tI F hr hb .nil hx hg hm ha hdb he hpl)
/-- e.value, e an error that is kept -/
def tErrV (K : PySem.W.Frag) (te : TE) : TE := fun σ H Q => te σ H fun x H1 => ∃ (a C dx fI : Addr) (v : V), x = .ref a ∧ ErrC K C fI ∧ H1 a = some (exq a C dx) ∧ H1 dx = some (exd dx [(("value" : Str), v)]) ∧ Q v H1
theorem exq_inst {X : Cx} {pins : List (Addr × Obj)} {σ : L2.St} {H : Hp} {s : Shared} {a C dx : Addr} {fs : List (Str × V)} (I : Inv X pins σ H s) (h1 : H a = some (exq a C dx)) (h2 : H dx = some (exd dx fs)) :
    ∃ (oe od : Obj) (mA : Str → Option Value), PySem.W.InstAt s.heap a oe C (some od) ∧ s.heap.get? dx = some od ∧ s.heap.Ns1 dx mA ∧ ∀ f, RelO (fs.lookup f) (mA f) := by
  obtain ⟨oe, vs, g1, g2, g3, g4⟩ := exq_at I.hok h1
  obtain ⟨mA, hns, hr⟩ := exd_at I.hok h2
  obtain ⟨od, ho, hl⟩ := lookIn_ns hns
  exact ⟨oe, od, mA, ⟨g1, g2, by unfold PySem.W.notCls; rw [g4] <;> rfl, by rw [g3]; exact ho⟩, ho, hns, hr⟩
theorem pe_errV {X : Cx} {e : Expr} {te : TE} {pos : Pos} (he : PE X e te) (hb : attributeBase e "value" X.env (eval e X.env) = eval e X.env := by rfl) : PE X (.Attribute e "value" pos) (tErrV X.K te) := by
  refine ⟨fun pins s σ H Q I h => ?_⟩
  refine attr_of hb (thn (he.run pins s σ H _ I h) fun u s1 hh => ?_)
  obtain ⟨x, H1, I1, rx, a, C, dx, fI, v, ex, T, h1, h2, q⟩ := hh
  subst ex
  obtain rfl : u = Value.ref a := rx
  obtain ⟨oe, vs, g1, g2, g3, g4⟩ := exq_at I1.hok h1
  obtain ⟨mA, hns, hr⟩ := exd_at I1.hok h2
  obtain ⟨od, ho, hl⟩ := lookIn_ns hns
  have l : List.lookup ("value" : Str) [(("value" : Str), v)] = some v := by simp [List.lookup]
  obtain ⟨y, hy, ry⟩ := RelO.some_of (v := v) (o := mA "value") (by rw [← l]; exact hr "value")
  have J : PySem.W.InstAt s1.heap a oe C (some od) := ⟨g1, g2, by unfold PySem.W.notCls; rw [g4] <;> rfl, by rw [g3]; exact ho⟩
  exact HandSPX.exc_get I1.kIn J T.xf.ga T.xf.gg T.xf.exC (PySem.W.findObj_own T.xf.hdC T.noV rfl (by rw [hl, hy])) (handed_of ry) ⟨v, H1, I1.tok _, ry, q⟩
/-- isinstance(x, c), x an error that is kept -/
def rIsX (K : PySem.W.Frag) : List V → Hp → VK → Prop := fun xs H Q => ∃ (a C dx fI : Addr) (fs : List (Str × V)) (c : V) (cv : Value) (b : Bool), xs = [.ref a, c] ∧ ClsV c cv ∧ ErrC K C fI ∧ H a = some (exq a C dx) ∧ H dx = some (exd dx fs) ∧ PySem.W.kitOne K (.ref C) cv = some b ∧ Q (.bl b) H
theorem cls_some {K : PySem.W.Frag} {C : Addr} (h : PySem.W.hasDictIn K C = true) : (PySem.W.clsIn K C).isSome = true := by
  obtain ⟨cd, hc, _⟩ := PySem.W.any_some h
  rw [hc]
  rfl
theorem call_isX {X : Cx} : CallR X (.builtin "isinstance") (rIsX X.K) := by
  intro pins s σ H xs us Q I r h
  obtain ⟨a, C, dx, fI, fs, c, cv, b, rfl, k, T, h1, h2, e, q⟩ := h
  obtain ⟨u1, u2, rfl, r1, r2⟩ := vals2 r
  have e2 := k.eq r2
  subst e2
  cases (show u1 = Value.ref a from r1)
  obtain ⟨oe, od, mA, J, _⟩ := exq_inst I h1 h2
  exact PySem.W.kia_one (PySem.W.kitx_exc (cls_some T.xf.hdC) T.xf.ga T.xf.gg T.xf.exC T.ha T.hn T.ht T.hm) I.kIn J e (fun z => nomatch z) fun tk => ⟨.bl b, H, I.kept (t' := tk) fun _ _ z => z, rfl, q⟩

/-! ### over data -/
section
variable {K : PySem.W.Frag} {S : Bs} {δ : Sl} {μ : List Cell} {ta : TA} {te : TE} {E : XK} {CE : Addr → D → List Cell → Prop} {Cn0 : Cn} {C : D → List Cell → Prop}
theorem se_raise {c : Addr} (wi : Wi K S E CE) (h : EA K S ta δ μ fun ds μ1 => ∃ d, ds = [d] ∧ CE c d μ1) : SE K S (tRaiseE c E ta) δ μ Cn0 := fun A G H σ a F f =>
  h A G H σ a _ fun vs ds A1 G1 H1 μ1 m1 n1 r1 ⟨d, e, hc⟩ => by
    subst e
    cases r1 with
    | @cons _ u _ _ rd r =>
      cases r
      refine ⟨(by show 1 ≤ 1000; decide), fun x hx => ⟨x, u, rfl, upd_same, fun dx hd ne => ⟨rfl, dx, _, upd_same, (by rw [upd_ne ne, upd_same]), ?_, ?_⟩⟩⟩
      · rw [upd_ne ne] at hd
        exact hd
      · rw [upd_ne ne] at hd
        have eq : upd (del (upd (upd (upd H1 x (exo x c none)) dx (exd dx [(("value" : Str), u)])) x (exo x c (some dx))) x) dx (.xd [(("value" : Str), u)]) = upd H1 dx (.xd [(("value" : Str), u)]) := by
          funext b
          by_cases e1 : b = dx
          · subst e1
            rw [upd_same, upd_same]
          · rw [upd_ne e1, upd_ne e1]
            by_cases e2 : b = x
            · subst e2
              rw [del_same, hx]
            · rw [del_ne e2, upd_ne e2, upd_ne e1, upd_ne e2]
        rw [eq]
        have gd := m1.ex.free hd
        refine wi c dx u d A1 G1 _ μ1 (m1.grow (m1.ex.side gd) (Ex.refl _) (Ex.new hd) fun p h => .inl h) (m1.freeS hd).1 gd upd_same rd hc
theorem ee_errV {fI : Addr → Addr} (h : EE K S te δ μ fun x μ1 => ∃ c d, x = .exc c d ∧ ErrC K c (fI c) ∧ C d μ1) : EE K S (tErrV K te) δ μ C := fun A G H σ a Q q =>
  h A G H σ a _ fun v x A1 G1 H1 μ1 m1 n1 r1 ⟨c, d, e, T, k⟩ => by
    subst e
    cases r1 with
    | exc h1 h2 r => exact ⟨_, _, _, _, _, rfl, T, m1.ex _ _ h1, m1.ex _ _ h2, q _ d A1 G1 H1 μ1 m1 n1 r k⟩
/-! ### try, over data -/
/-- what an error out of a try's body is let do, at the slots as they stand -/
def WiX (K : PySem.W.Frag) (S : Bs) (W : WX) (A0 : List Addr) (G0 : Hp) (CE : Sl → Addr → D → List Cell → Prop) : Prop :=
  ∀ A G H σ δ μ c dx u d, At K S A G H σ δ μ → Nw A0 G0 A G → S.H dx = none → G dx = none → H dx = some (.xd [(("value" : Str), u)]) → Rp K A G d u → CE δ c d μ → W (.ref c) (some dx) σ H
def EX (K : PySem.W.Frag) (S : Bs) (te : WX → TE) (δ : Sl) (μ : List Cell) (C : D → List Cell → Prop) (CE : Sl → Addr → D → List Cell → Prop) : Prop :=
  ∀ A G H σ, At K S A G H σ δ μ → ∀ W, WiX K S W A G CE → ∀ Q : VK, (∀ v d A' G' H' μ', Mem K S A' G' H' μ' → Nw A G A' G' → Rp K A' G' d v → C d μ' → Q v H') → te W σ H Q
def SX (K : PySem.W.Frag) (S : Bs) (tb : WX → TS) (δ : Sl) (μ : List Cell) (C : Cn) (CE : Sl → Addr → D → List Cell → Prop) : Prop :=
  ∀ A G H σ, At K S A G H σ δ μ → ∀ W (F : Ends), Fi K S A G F C → WiX K S W A G CE → tb W F σ H
theorem WiX.at' {W : WX} {A0 A1 : List Addr} {G0 G1 : Hp} {CE : Sl → Addr → D → List Cell → Prop} (w : WiX K S W A0 G0 CE) (n : Nw A0 G0 A1 G1) : WiX K S W A1 G1 CE :=
  fun A G H σ δ μ c dx u d a n1 h1 h2 h3 h4 h5 => w A G H σ δ μ c dx u d a (n.trans n1) h1 h2 h3 h4 h5
section
variable {CE : Sl → Addr → D → List Cell → Prop}
theorem ex_of (h : EE K S te δ μ C) : EX K S (fun _ => te) δ μ C CE := fun A G H σ a _ _ Q q => h A G H σ a Q q
theorem sx_of {ts : TS} (h : SE K S ts δ μ Cn0) : SX K S (fun _ => ts) δ μ Cn0 CE := fun A G H σ a _ F f _ => h A G H σ a F f
theorem sx_asg {tw : WX → TE} {i : Nat} (h : EX K S tw δ μ (fun d μ1 => Cn0.nx (δ.set i (some d)) μ1) CE) : SX K S (fun W => tAsg (tw W) (gName i)) δ μ Cn0 CE := fun A G H σ a W F f w =>
  h A G H σ a W w _ fun v d A1 G1 H1 μ1 m1 n1 r1 c => f.nx A1 G1 H1 _ _ μ1 ⟨m1, En.set r1 i (n1.en a.env)⟩ n1 c
theorem sx_drop {tw : WX → TE} (h : EX K S tw δ μ (fun _ μ1 => Cn0.nx δ μ1) CE) : SX K S (fun W => tDrop (tw W)) δ μ Cn0 CE := fun A G H σ a W F f w =>
  h A G H σ a W w _ fun v d A1 G1 H1 μ1 m1 n1 r1 c => f.nx A1 G1 H1 σ δ μ1 ⟨m1, n1.en a.env⟩ n1 c
theorem sx_ret {tw : WX → TE} (h : EX K S tw δ μ Cn0.rt CE) : SX K S (fun W => tRet (tw W)) δ μ Cn0 CE := fun A G H σ a W F f w =>
  h A G H σ a W w _ fun v d A1 G1 H1 μ1 m1 n1 r1 c => f.rt A1 G1 H1 v d μ1 m1 r1 c
theorem sx_seq {t1 t2 : WX → TS} (h : SX K S t1 δ μ { Cn0 with nx := fun δ1 μ1 => SX K S t2 δ1 μ1 Cn0 CE } CE) : SX K S (fun W => tSeq (t1 W) (t2 W)) δ μ Cn0 CE := fun A G H σ a W F f w =>
  h A G H σ a W { F with nx := t2 W F } (f.go fun A1 G1 H1 σ1 δ1 μ1 a1 n1 c => c A1 G1 H1 σ1 a1 W F (f.at' n1) (w.at' n1)) w
theorem ex_call {T : Type} {arg : T → List D} {pre : T → Prop} {post : T → D → Prop} {exc : T → Addr → D → Prop}
    (h : EA K S ta δ μ fun ds μ1 => ∃ t : T, pre t ∧ ds = arg t ∧ D.ltL 0 ds = true ∧ (∀ d, post t d → d.lt 0 = true → C d μ1) ∧ ∀ c d, exc t c d → d.lt 0 = true → CE δ c d μ1) : EX K S (fun W => tCallS (ProP K arg pre post exc) (WE W) ta) δ μ C CE := fun A G H σ a W wx Q q =>
  h A G H σ a _ fun vs ds A1 G1 H1 μ1 m1 n1 r1 ⟨t, hp, ed, hl, hc, hx⟩ => by
    subst ed
    have rd : RpL K [] G1 (arg t) vs := r1.cl hl
    have m0 : Mem K ⟨[], G1, H1⟩ [] G1 H1 [] := ⟨m1.ex, Ex.refl _, ⟨[], rfl, fun _ h => by cases h⟩, fun _ h => .inl h, fun _ _ _ h => h, fun k a c h _ => by simp at h, rfl, List.nodup_nil, fun _ h => by cases h⟩
    have beh : ∀ {G' H' : Hp} {B : List Addr}, Mem K ⟨[], G1, H1⟩ ([] ++ B) G' H' [] → B = [] ∧ Mem K S A1 G' H' μ1 := fun {G' H' B} f => by
      have hB : B = [] := List.length_eq_zero_iff.mp (by have z := f.len; simpa using z)
      subst hB
      have fa := m1.after (hs := []) (B := []) List.nodup_nil (fun k hk => (by cases hk)) f
      have eb : behindC [] A1.length [] μ1 = μ1 := by
        show μ1 ++ [] = μ1
        rw [List.append_nil]
      rw [List.append_nil, eb] at fa
      exact ⟨rfl, fa⟩
    refine ⟨t, [], G1, hp, m0, rd, fun v d B G' H' ν f r ⟨e0, c⟩ => ?_, fun c dx u d G' H' ν f f1 f2 f3 r c' => ?_⟩
    · subst e0
      obtain ⟨hB, mb⟩ := beh f
      subst hB
      have hcl : d.lt 0 = true := r.scope
      exact q v d A1 G' H' μ1 mb (n1.trans (.of f.exG)) (r.cl hcl) (hc _ c hcl)
    · have e0 : ν = [] := List.length_eq_zero_iff.mp (by have z := f.len; simpa using z.symm)
      subst e0
      obtain ⟨_, mb⟩ := beh (B := []) f
      have hcl : d.lt 0 = true := r.scope
      have n2 := n1.trans (Nw.of (A := A1) f.exG)
      have hs0 : S.H dx = none := by
        cases qq : S.H dx with
        | none => rfl
        | some o =>
          by_cases ha' : dx ∈ S.A
          · obtain ⟨B0, hB0, h0⟩ := m1.pre
            exact absurd f1 (m1.al dx (by rw [hB0]; exact List.mem_append_left _ ha'))
          · have z := m1.keep dx o ha' qq
            rw [f1] at z
            cases z
      exact wx A1 G' H' σ δ μ1 c dx u d ⟨mb, n2.en a.env⟩ n2 hs0 f2 f3 (r.cl hcl) (hx c d c' hcl)
end
/-- an error's dict is known from now on -/
theorem Mem.dictKnown {A : List Addr} {G H : Hp} {dx : Addr} {u : V} (m : Mem K S A G H μ) (h1 : S.H dx = none) (h2 : G dx = none) (h3 : H dx = some (.xd [(("value" : Str), u)])) :
    Mem K S A (upd G dx (exd dx [(("value" : Str), u)])) (upd H dx (exd dx [(("value" : Str), u)])) μ where
  ex := Ex.both m.ex
  exG := m.exG.trans (Ex.new h2)
  pre := m.pre
  new := fun p hp => by
    by_cases e : p = dx
    · rw [e]
      exact .inr h1
    · rw [upd_ne e] at hp
      exact m.new p hp
  keep := fun a o q1 q2 => by
    have e : a ≠ dx := ne_of_none q2 h1
    rw [upd_ne e]
    exact m.keep a o q1 q2
  cel := fun k a c e1 e2 => by
    have q := m.cel k a c e1 e2
    cases c with
    | off => trivial
    | lst l =>
      obtain ⟨g, ys, hy, r⟩ := q
      have e : a ≠ dx := fun z => by
        rw [z, h3] at hy
        cases hy
      refine ⟨?_, ys, ?_, r.mono0 (Ex.new h2)⟩
      · rw [upd_ne e]
        exact g
      · rw [upd_ne e]
        exact hy
  len := m.len
  nd := m.nd
  al := fun a ha z => by
    by_cases e : a = dx
    · rw [e, upd_same] at z
      cases z
    · rw [upd_ne e] at z
      exact m.al a ha z
/-- THE RULE for try: tb; except cv as n: ts (n in slot i) -/
theorem se_try {tb : WX → TS} {cv : Value} {i : Nat} {ts : TS} {Wout : WX} {C0 : Cn} (CE : Sl → Addr → D → List Cell → Prop) (hb : SX K S tb δ μ C0 CE)
    (hs : ∀ δ' c d μ', CE δ' c d μ' → PySem.W.exmOne K (.ref c) cv = some true ∧
      SE K S ts (δ'.set i (some (.exc c d))) μ' { nx := fun δ2 μ2 => C0.nx (δ2.set i none) μ2, rt := C0.rt, bk := fun δ2 μ2 => C0.bk (δ2.set i none) μ2, ct := fun δ2 μ2 => C0.ct (δ2.set i none) μ2 }) :
    SE K S (fun D σ H => tb (wHold K cv i ts Wout D) D σ H) δ μ C0 := fun A G H σ a F f => by
  refine hb A G H σ a _ F f fun A1 G1 H1 σ1 δ1 μ1 c dx u d a1 n1 h1 gd hd rd hc => ?_
  obtain ⟨hm, hse⟩ := hs δ1 c d μ1 hc
  refine ⟨true, hm, fun _ => ⟨c, dx, _, rfl, rfl, hd, fun x hx => ?_⟩, fun z => Bool.noConfusion z⟩
  have ne : dx ≠ x := ne_of_none hd hx
  have gx : G1 x = none := a1.m.ex.free hx
  have hx1 : upd H1 dx (exd dx [(("value" : Str), u)]) x = none := by
    rw [upd_ne ne.symm]
    exact hx
  have m2 := (a1.m.dictKnown h1 gd hd).laid (o := exq x c dx) hx1
  have e1 : Ex G1 (upd (upd G1 dx (exd dx [(("value" : Str), u)])) x (exq x c dx)) := (Ex.new gd).trans (Ex.new (by rw [upd_ne ne.symm]; exact gx))
  have rx : Rp K A1 (upd (upd G1 dx (exd dx [(("value" : Str), u)])) x (exq x c dx)) (.exc c d) (.ref x) := .exc upd_same (by rw [upd_ne ne, upd_same]) (rd.mono0 e1)
  have n2 : Nw A1 G1 A1 (upd (upd G1 dx (exd dx [(("value" : Str), u)])) x (exq x c dx)) := .of e1
  refine hse A1 _ _ _ ⟨m2, En.set rx i (n2.en a1.env)⟩ _ ⟨fun A3 G3 H3 σ3 δ3 μ3 a3 n3 c3 => ?_, f.rt, fun A3 G3 H3 σ3 δ3 μ3 a3 n3 c3 => ?_, fun A3 G3 H3 σ3 δ3 μ3 a3 n3 c3 => ?_⟩
  · exact f.nx A3 G3 H3 _ _ μ3 ⟨a3.m, En.unset i none a3.env⟩ ((n1.trans n2).trans n3) c3
  · exact f.bk A3 G3 H3 _ _ μ3 ⟨a3.m, En.unset i none a3.env⟩ ((n1.trans n2).trans n3) c3
  · exact f.ct A3 G3 H3 _ _ μ3 ⟨a3.m, En.unset i none a3.env⟩ ((n1.trans n2).trans n3) c3
end
end PA

set_option Elab.async false
set_option linter.all false
set_option maxRecDepth 100000
set_option maxHeartbeats 2000000
/-! PbOps: operators, items, cuts, calls and methods of the built-ins, over data. -/
namespace PA
open PySem L2
/-! ### one rule a sign -/
section
variable {X : Cx}
def rPlus (K : PySem.W.Frag) : R2 := fun x y H Q => rI0 (fun i j => .int (i + j)) x y H Q ∨
  ((fun x y H (Q : VK) => ∃ i j, x = .str i ∧ y = .str j ∧ i.length + j.length ≤ sizeLine ∧ Q (.str (i ++ j)) H) x y H Q ∨ (rCat x y H Q ∨ rCatA K x y H Q))
theorem op_plus : OpR X (binaryOp .Add) (rPlus X.K) := OpR.or op_add (OpR.or op_add_str (OpR.or op_cat op_catA))
def rLess : R2 := fun x y H Q => rI0 (fun i j => .bl (decide (i < j))) x y H Q ∨ (fun x y H (Q : VK) => ∃ i j, x = .str i ∧ y = .str j ∧ Q (.bl (decide (i.cps.toList < j.cps.toList))) H) x y H Q
theorem op_less : OpR X (compareOp .Lt) rLess := OpR.or op_lt op_lt_str
def rLeq : R2 := fun x y H Q => rI0 (fun i j => .bl (decide (i ≤ j))) x y H Q ∨ (fun x y H (Q : VK) => ∃ i j, x = .str i ∧ y = .str j ∧ Q (.bl (!decide (j.cps.toList < i.cps.toList))) H) x y H Q
theorem op_leq : OpR X (compareOp .LtE) rLeq := OpR.or op_le op_le_str
def rEqU (K : PySem.W.Frag) : R2 := fun x y H Q => rEq x y H Q ∨ (rEqD K x y H Q ∨ rEqDA x y H Q)
theorem op_eqU (hu : X.A.units + 64 < cLine) : OpR X (compareOp .Eq) (rEqU X.K) := OpR.or op_eq (OpR.or (op_eqD hu) (op_eq_dictA (by omega)))
def rNeU (K : PySem.W.Frag) : R2 := fun x y H Q => rNe x y H Q ∨ rNeD K x y H Q
theorem op_neU (hu : X.A.units + 64 < cLine) : OpR X (compareOp .NotEq) (rNeU X.K) := OpR.or op_ne (op_neD hu)
def rInU (K : PySem.W.Frag) : R2 := fun x y H Q => rIn K false x y H Q ∨ (fun x y H (Q : VK) => ∃ (c : Nat) (z : Str), x = .str ⟨#[c]⟩ ∧ y = .str z ∧ Q (.bl (decide (c ∈ z.cps.toList))) H) x y H Q
theorem op_inU : OpR X (compareOp .In) (rInU X.K) := OpR.or op_in_seq op_in_sign
def rNiU (K : PySem.W.Frag) : R2 := fun x y H Q => rIn K true x y H Q ∨ (fun x y H (Q : VK) => ∃ (c : Nat) (z : Str), x = .str ⟨#[c]⟩ ∧ y = .str z ∧ Q (.bl (!decide (c ∈ z.cps.toList))) H) x y H Q
theorem op_niU : OpR X (compareOp .NotIn) (rNiU X.K) := OpR.or op_notIn_seq op_notIn_sign
def rSlU (K : PySem.W.Frag) : V → Option Int → Option Int → Hp → VK → Prop := fun x lo hi H Q => rSlL K x lo hi H Q ∨ (rSlA K x lo hi H Q ∨ rSlS x lo hi H Q)
theorem sl_U : SlR X (rSlU X.K) := SlR.or sl_list (SlR.or sl_tupA sl_str)
def rIsiU (K : PySem.W.Frag) : List V → Hp → VK → Prop := fun xs H Q => rIsi K xs H Q ∨ (rIsiT K xs H Q ∨ (rIsX K xs H Q ∨ rIsiK K xs H Q))
theorem call_isU : CallR X (.builtin "isinstance") (rIsiU X.K) := CallR.or call_isi (CallR.or call_isiT (CallR.or call_isX call_isiK))
end
section
variable {K : PySem.W.Frag} {S : Bs} {δ : Sl} {μ : List Cell} {ta tb te : TE} {C : D → List Cell → Prop}
theorem oo_same {r : R2} {x y z : V} (h : ∀ H (Q : VK), Q z H → r x y H Q) (k : C (.v z) μ) : OO K S r (.v x) (.v y) μ C := fun A G H u w m r1 r2 Q q => by
  have e1 := r1.vOf
  have e2 := r2.vOf
  subst e1 e2
  exact h H Q (q z (.v z) A G H μ m Nw.refl (.v z) k)
theorem oo_add {i j : Int} (k : C (.int (i + j)) μ) : OO K S (rPlus K) (.int i) (.int j) μ C := oo_same (fun _ _ q => .inl ⟨i, j, rfl, rfl, q⟩) k
theorem oo_addS {a b : Str} (hz : a.length + b.length ≤ 10000000) (k : C (.str (a ++ b)) μ) : OO K S (rPlus K) (.str a) (.str b) μ C := oo_same (fun _ _ q => .inr (.inl ⟨a, b, rfl, rfl, small hz, q⟩)) k
theorem put_lst {A : List Addr} {G H : Hp} {p : Addr} {xs : List V} {l : List D} {Q : VK} (m : Mem K S A G H μ) (hp : H p = none) (r : RpL K A G l xs)
    (q : ∀ v d A' G' H' μ', Mem K S A' G' H' μ' → Nw A G A' G' → Rp K A' G' d v → C d μ' → Q v H') (k : C (.lst l) μ) : Q (.ref p) (upd H p (.lst xs)) :=
  q _ _ A _ _ μ (m.laid hp) (.of (Ex.new (m.ex.free hp))) (.lst upd_same (r.mono0 (Ex.new (m.ex.free hp)))) k
theorem put_tup {A : List Addr} {G H : Hp} {p : Addr} {xs : List V} {l : List D} {Q : VK} (m : Mem K S A G H μ) (hp : H p = none) (r : RpL K A G l xs)
    (q : ∀ v d A' G' H' μ', Mem K S A' G' H' μ' → Nw A G A' G' → Rp K A' G' d v → C d μ' → Q v H') (k : C (.tup l) μ) : Q (.ref p) (upd H p (.tup xs)) :=
  q _ _ A _ _ μ (m.laid hp) (.of (Ex.new (m.ex.free hp))) (.tup (.inl upd_same) (r.mono0 (Ex.new (m.ex.free hp)))) k
theorem oo_addL {l m : List D} (hz : l.length + m.length ≤ 10000000) (k : C (.lst (l ++ m)) μ) : OO K S (rPlus K) (.lst l) (.lst m) μ C := fun A G H u w me r1 r2 Q q => by
  cases r1 with
  | lst h1 s1 =>
    cases r2 with
    | lst h2 s2 => exact .inr (.inr (.inl ⟨_, _, _, _, rfl, rfl, me.ex _ _ h1, me.ex _ _ h2, small (by rw [← s1.len, ← s2.len]; exact hz), fun p hp => put_lst me hp (s1.append s2) q k⟩))
theorem oo_addT {l m : List D} (hz : l.length + m.length ≤ 10000000) (k : C (.tup (l ++ m)) μ) : OO K S (rPlus K) (.tup l) (.tup m) μ C := fun A G H u w me r1 r2 Q q => by
  cases r1 with
  | @tup _ a xs h1 s1 =>
    cases r2 with
    | @tup _ b ys h2 s2 =>
      refine .inr (.inr (.inr ⟨_, _, xs, ys, rfl, rfl, ex_t me.ex h1.sq, ex_t me.ex h2.sq, small (by rw [← s1.len, ← s2.len]; exact hz), fun e => ?_, fun n e => ?_, fun n1 n2 p hp => put_tup me hp (s1.append s2) q k⟩))
      · refine q _ _ A G H μ me Nw.refl (.tup h2 ?_) k
        have z := s1.append s2
        rw [e, List.nil_append] at z
        exact z
      · refine q _ _ A G H μ me Nw.refl (.tup h1 ?_) k
        have z := s1.append s2
        rw [e, List.append_nil] at z
        exact z
theorem oo_I0 {g : Int → Int → V} {i j : Int} (k : C (.v (g i j)) μ) : OO K S (rI0 g) (.int i) (.int j) μ C := oo_same (fun _ _ q => ⟨i, j, rfl, rfl, q⟩) k
theorem oo_I {P : Int → Int → Prop} {g : Int → Int → V} {i j : Int} (hp : P i j) (k : C (.v (g i j)) μ) : OO K S (rI P g) (.int i) (.int j) μ C := oo_same (fun _ _ q => ⟨i, j, rfl, rfl, hp, q⟩) k
theorem oo_lt {i j : Int} (k : C (.bl (decide (i < j))) μ) : OO K S rLess (.int i) (.int j) μ C := oo_same (fun _ _ q => .inl ⟨i, j, rfl, rfl, q⟩) k
theorem oo_ltS {a b : Str} (k : C (.bl (decide (a.cps.toList < b.cps.toList))) μ) : OO K S rLess (.str a) (.str b) μ C := oo_same (fun _ _ q => .inr ⟨a, b, rfl, rfl, q⟩) k
theorem oo_le {i j : Int} (k : C (.bl (decide (i ≤ j))) μ) : OO K S rLeq (.int i) (.int j) μ C := oo_same (fun _ _ q => .inl ⟨i, j, rfl, rfl, q⟩) k
theorem oo_leS {a b : Str} (k : C (.bl (!decide (b.cps.toList < a.cps.toList))) μ) : OO K S rLeq (.str a) (.str b) μ C := oo_same (fun _ _ q => .inr ⟨a, b, rfl, rfl, q⟩) k
theorem oo_eq {x y : V} (hs : scal x y = true) (k : C (.bl (decide (x = y))) μ) : OO K S (rEqU K) (.v x) (.v y) μ C := oo_same (fun _ _ q => .inl ⟨hs, q⟩) k
theorem oo_ne {x y : V} (hs : scal x y = true) (k : C (.bl (!decide (x = y))) μ) : OO K S (rNeU K) (.v x) (.v y) μ C := oo_same (fun _ _ q => .inl ⟨hs, q⟩) k
/-! data that may be compared at any depth -/
mutual
def D.py : D → Option PyData
  | .v .non => some .none
  | .v (.bl b) => some (.bool b)
  | .v (.int i) => some (.int i)
  | .v (.str s) => some (.str s)
  | .lst l => (D.pyAll l).map .list
  | .rd l => (D.pyAll l).map .list
  | .tup l => (D.pyAll l).map .tuple
  | _ => none
def D.pyAll : List D → Option (List PyData)
  | [] => some []
  | d :: l => match D.py d, D.pyAll l with
    | some p, some ps => some (p :: ps)
    | _, _ => none
end
mutual
theorem Rp.dp {A : List Addr} {G : Hp} : ∀ {d : D} {x : V} {p : PyData}, Rp K A G d x → D.py d = some p → Dp K G x p
  | _, _, p, .v x, e => by
    cases x with
    | non => cases e; exact .non
    | bl b => cases e; exact .bl b
    | int i => cases e; exact .int i
    | str s => cases e; exact .str s
    | byt b => cases e
    | flt b => cases e
    | ref a => cases e
    | ty n => cases e
  | _, _, p, .lst (l := l) h r, e => by
    have e : (D.pyAll l).map PyData.list = some p := e
    cases q : D.pyAll l with
    | none => rw [q] at e; cases e
    | some ps =>
      rw [q] at e
      cases e
      exact .lst (lst_sq h) (RpL.dp r q)
  | _, _, p, .rd (l := l) h r, e => by
    have e : (D.pyAll l).map PyData.list = some p := e
    cases q : D.pyAll l with
    | none => rw [q] at e; cases e
    | some ps =>
      rw [q] at e
      cases e
      exact .lst h (RpL.dp r q)
  | _, _, p, .tup (l := l) h r, e => by
    have e : (D.pyAll l).map PyData.tuple = some p := e
    cases q : D.pyAll l with
    | none => rw [q] at e; cases e
    | some ps =>
      rw [q] at e
      cases e
      exact .tup h.sq (RpL.dp r q)
theorem RpL.dp {A : List Addr} {G : Hp} : ∀ {l : List D} {xs : List V} {ps : List PyData}, RpL K A G l xs → D.pyAll l = some ps → DpAll K G xs ps
  | _, _, ps, .nil, e => by cases e; exact .nil
  | _, _, ps, .cons (d := d) (l := l) h r, e => by
    have e : (match D.py d, D.pyAll l with | some p, some ps => some (p :: ps) | _, _ => none) = some ps := e
    cases q1 : D.py d with
    | none => rw [q1] at e; cases e
    | some p =>
      cases q2 : D.pyAll l with
      | none => rw [q1, q2] at e; cases e
      | some qs =>
        rw [q1, q2] at e
        cases e
        exact .cons (Rp.dp h q1) (RpL.dp r q2)
end
theorem oo_eqD {x y : D} {p q : PyData} (h1 : D.py x = some p) (h2 : D.py y = some q) (s1 : SeqAt.shaped p = true) (s2 : SeqAt.shaped q = true) (k : C (.bl (PyData.eqv p q)) μ) : OO K S (rEqU K) x y μ C := fun A G H u w m r1 r2 Q qq =>
  .inr (.inl ⟨p, q, (r1.mono0 m.ex).dp h1, (r2.mono0 m.ex).dp h2, s1, s2, qq _ _ A G H μ m Nw.refl (.v _) k⟩)
theorem oo_neD {x y : D} {p q : PyData} (h1 : D.py x = some p) (h2 : D.py y = some q) (s1 : SeqAt.shaped p = true) (s2 : SeqAt.shaped q = true) (k : C (.bl (!PyData.eqv p q)) μ) : OO K S (rNeU K) x y μ C := fun A G H u w m r1 r2 Q qq =>
  .inr ⟨p, q, (r1.mono0 m.ex).dp h1, (r2.mono0 m.ex).dp h2, s1, s2, qq _ _ A G H μ m Nw.refl (.v _) k⟩
/-- x is None -/
def D.isNon : D → Bool
  | .v .non => true
  | _ => false
theorem Rp.isNon {A : List Addr} {G : Hp} {d : D} {x : V} (h : Rp K A G d x) : decide (x = .non) = d.isNon := by
  cases h with
  | v x => cases x <;> rfl
  | own _ => rfl
  | lst _ _ => rfl
  | rd _ _ => rfl
  | tup _ _ => rfl
  | dic _ _ _ => rfl
  | exc _ _ _ => rfl
theorem oo_isN {x : D} (k : C (.bl x.isNon) μ) : OO K S (fun x y H Q => y = .non ∧ Q (.bl (decide (x = .non))) H) x .non μ C := fun A G H u w m r1 r2 Q q => by
  have e2 := r2.vOf
  subst e2
  refine ⟨rfl, ?_⟩
  rw [r1.isNon]
  exact q _ _ A G H μ m Nw.refl (.v _) k
theorem oo_notN {x : D} (k : C (.bl (!x.isNon)) μ) : OO K S (fun x y H Q => y = .non ∧ Q (.bl (!decide (x = .non))) H) x .non μ C := fun A G H u w m r1 r2 Q q => by
  have e2 := r2.vOf
  subst e2
  refine ⟨rfl, ?_⟩
  rw [r1.isNon]
  exact q _ _ A G H μ m Nw.refl (.v _) k
theorem oo_inC {c : Nat} {z : Str} (k : C (.bl (decide (c ∈ z.cps.toList))) μ) : OO K S (rInU K) (.str ⟨#[c]⟩) (.str z) μ C := oo_same (fun _ _ q => .inr ⟨c, z, rfl, rfl, q⟩) k
theorem oo_niC {c : Nat} {z : Str} (k : C (.bl (!decide (c ∈ z.cps.toList))) μ) : OO K S (rNiU K) (.str ⟨#[c]⟩) (.str z) μ C := oo_same (fun _ _ q => .inr ⟨c, z, rfl, rfl, q⟩) k
/-- x in a tuple or a list of flat values -/
theorem oo_inT {x : V} {ys : List V} (hx : flatV x = true) (hy : ys.all flatV = true) (k : C (.bl (inV x ys)) μ) : OO K S (rInU K) (.v x) (.tup (ys.map .v)) μ C := fun A G H u w m r1 r2 Q q => by
  have e1 := r1.vOf
  subst e1
  cases r2 with
  | tup h r =>
    have e2 := RpL.of_vals r
    subst e2
    exact .inl ⟨_, _, rfl, .inr (ex_t m.ex h.sq), hx, hy, q _ _ A G H μ m Nw.refl (.v _) k⟩
theorem oo_inL {x : V} {ys : List V} (hx : flatV x = true) (hy : ys.all flatV = true) (k : C (.bl (inV x ys)) μ) : OO K S (rInU K) (.v x) (.lst (ys.map .v)) μ C := fun A G H u w m r1 r2 Q q => by
  have e1 := r1.vOf
  subst e1
  cases r2 with
  | lst h r =>
    have e2 := RpL.of_vals r
    subst e2
    exact .inl ⟨_, _, rfl, .inl (ex_l m.ex (lst_sq h)), hx, hy, q _ _ A G H μ m Nw.refl (.v _) k⟩

/-! ### items -/
theorem atI_rel {A : List Addr} {G : Hp} {l : List D} {xs : List V} {i : Int} {d : D} (r : RpL K A G l xs) (h : atI l i = some d) : ∃ x, atI xs i = some x ∧ Rp K A G d x := by
  unfold atI at h ⊢
  rw [← r.len]
  cases q : ixN l.length i with
  | none => rw [q] at h; cases h
  | some j =>
    rw [q] at h
    exact r.get h
theorem atI_nat {α : Type} {l : List α} {j : Nat} {d : α} (h : l[j]? = some d) : atI l (j : Int) = some d := by
  have hj := (List.getElem?_eq_some_iff.mp h).1
  unfold atI ixN
  rw [if_pos (by omega), if_pos (by omega)]
  simpa using h
theorem atI_neg {α : Type} {l : List α} {j : Nat} {d : α} (hj : 0 < j) (hl : j ≤ l.length) (h : l[l.length - j]? = some d) : atI l (-(j : Int)) = some d := by
  unfold atI ixN
  rw [if_neg (by omega), if_pos (by omega)]
  show l[(-(j : Int) + (l.length : Int)).toNat]? = some d
  have e : (-(j : Int) + (l.length : Int)).toNat = l.length - j := by omega
  rw [e]
  exact h
theorem oo_ixL {l : List D} {i : Int} {d : D} (h : atI l i = some d) (k : C d μ) : OO K S (rIx K) (.lst l) (.int i) μ C := fun A G H u w m r1 r2 Q q => by
  have e2 := r2.vOf
  subst e2
  cases r1 with
  | lst h1 r =>
    obtain ⟨x, hx, rx⟩ := atI_rel r h
    exact .inl ⟨_, _, i, x, rfl, rfl, lst_sq (m.ex _ _ h1), hx, q x d A G H μ m Nw.refl rx k⟩
theorem oo_ixR {l : List D} {i : Int} {d : D} (h : atI l i = some d) (k : C d μ) : OO K S (rIx K) (.rd l) (.int i) μ C := fun A G H u w m r1 r2 Q q => by
  have e2 := r2.vOf
  subst e2
  cases r1 with
  | rd h1 r =>
    obtain ⟨x, hx, rx⟩ := atI_rel r h
    exact .inl ⟨_, _, i, x, rfl, rfl, ex_l m.ex h1, hx, q x d A G H μ m Nw.refl rx k⟩
theorem oo_ixT {l : List D} {i : Int} {d : D} (h : atI l i = some d) (k : C d μ) : OO K S (rIx K) (.tup l) (.int i) μ C := fun A G H u w m r1 r2 Q q => by
  have e2 := r2.vOf
  subst e2
  cases r1 with
  | tup h1 r =>
    obtain ⟨x, hx, rx⟩ := atI_rel r h
    exact .inr (.inl ⟨_, _, i, x, rfl, rfl, ex_t m.ex h1.sq, hx, q x d A G H μ m Nw.refl rx k⟩)
theorem oo_ixO {n : Nat} {l : List D} {i : Int} {d : D} (hc : μ[n]? = some (.lst l)) (h : atI l i = some d) (k : C d μ) : OO K S (rIx K) (.own n) (.int i) μ C := fun A G H u w m r1 r2 Q q => by
  have e2 := r2.vOf
  subst e2
  cases r1 with
  | own hA =>
    obtain ⟨g, xs, hx, r⟩ := m.cel n _ _ hA hc
    obtain ⟨x, hx2, rx⟩ := atI_rel r h
    exact .inl ⟨_, _, i, x, rfl, rfl, lst_sq hx, hx2, q x d A G H μ m Nw.refl rx k⟩
theorem oo_ixS {s : Str} {i : Int} {c : Nat} (hz : s.length ≤ 10000000) (h : atI s.cps.toList i = some c) (k : C (.str ⟨#[c]⟩) μ) : OO K S (rIx K) (.str s) (.int i) μ C :=
  oo_same (fun _ _ q => .inr (.inr ⟨s, i, c, rfl, rfl, small hz, h, q⟩)) k

/-! ### cuts -/
theorem eo_none {C : Option Int → List Cell → Prop} (k : C none μ) : EO K S tNoPart δ μ C := fun A G H σ a Q q => q none A G H μ a.m Nw.refl k
theorem eo_some {C : Option Int → List Cell → Prop} (h : EE K S te δ μ fun d μ1 => ∃ i, d = .int i ∧ C (some i) μ1) : EO K S (tPart te) δ μ C := fun A G H σ a Q q =>
  h A G H σ a _ fun v d A1 G1 H1 μ1 m1 n1 r1 ⟨i, e, c⟩ => by
    subst e
    have ev := r1.vOf
    subst ev
    exact ⟨i, rfl, q (some i) A1 G1 H1 μ1 m1 n1 c⟩
def SS (K : PySem.W.Frag) (S : Bs) (r : V → Option Int → Option Int → Hp → VK → Prop) (x : D) (lo hi : Option Int) (μ : List Cell) (C : D → List Cell → Prop) : Prop :=
  ∀ A G H u, Mem K S A G H μ → Rp K A G x u → ∀ Q : VK, (∀ v d A' G' H' μ', Mem K S A' G' H' μ' → Nw A G A' G' → Rp K A' G' d v → C d μ' → Q v H') → r u lo hi H Q
theorem ee_sl {r : V → Option Int → Option Int → Hp → VK → Prop} {tl th : TO} (h : EE K S te δ μ fun x μ1 => EO K S tl δ μ1 fun lo μ2 => EO K S th δ μ2 fun hi μ3 => SS K S r x lo hi μ3 C) : EE K S (tSl r te tl th) δ μ C := fun A G H σ a Q q =>
  h A G H σ a _ fun v x A1 G1 H1 μ1 m1 n1 r1 h1 => h1 A1 G1 H1 σ ⟨m1, n1.en a.env⟩ _ fun lo A2 G2 H2 μ2 m2 n2 h2 => h2 A2 G2 H2 σ ⟨m2, (n1.trans n2).en a.env⟩ _ fun hi A3 G3 H3 μ3 m3 n3 h3 =>
    h3 A3 G3 H3 v m3 ((n2.trans n3).rp r1) Q fun z d A4 G4 H4 μ4 m4 n4 r4 c => q z d A4 G4 H4 μ4 m4 (((n1.trans n2).trans n3).trans n4) r4 c
def cutD (l : List D) (lo hi : Option Int) : List D := (l.drop (HT.sIx l.length 0 lo)).take (HT.sIx l.length l.length hi - HT.sIx l.length 0 lo)
theorem cut_rel {A : List Addr} {G : Hp} {l : List D} {xs : List V} (r : RpL K A G l xs) (lo hi : Option Int) : RpL K A G (cutD l lo hi) (cutV xs lo hi) := by
  unfold cutD cutV
  rw [r.len]
  exact (r.drop _).take _
theorem ss_lst {l : List D} {lo hi : Option Int} (k : C (.lst (cutD l lo hi)) μ) : SS K S (rSlU K) (.lst l) lo hi μ C := fun A G H u m r1 Q q => by
  cases r1 with
  | lst h1 r => exact .inl ⟨_, _, rfl, lst_sq (m.ex _ _ h1), fun p hp => put_lst m hp (cut_rel r lo hi) q k⟩
theorem ss_rd {l : List D} {lo hi : Option Int} (k : C (.lst (cutD l lo hi)) μ) : SS K S (rSlU K) (.rd l) lo hi μ C := fun A G H u m r1 Q q => by
  cases r1 with
  | rd h1 r => exact .inl ⟨_, _, rfl, ex_l m.ex h1, fun p hp => put_lst m hp (cut_rel r lo hi) q k⟩
theorem ss_own {n : Nat} {l : List D} {lo hi : Option Int} (hc : μ[n]? = some (.lst l)) (k : C (.lst (cutD l lo hi)) μ) : SS K S (rSlU K) (.own n) lo hi μ C := fun A G H u m r1 Q q => by
  cases r1 with
  | own hA =>
    obtain ⟨g, xs, hx, r⟩ := m.cel n _ _ hA hc
    exact .inl ⟨_, _, rfl, lst_sq hx, fun p hp => put_lst m hp (cut_rel r lo hi) q k⟩
theorem ss_str {s : Str} {lo hi : Option Int} (hz : s.length ≤ 10000000) (k : C (.str (cutS s lo hi)) μ) : SS K S (rSlU K) (.str s) lo hi μ C := fun A G H u m r1 Q q => by
  have e1 := r1.vOf
  subst e1
  exact .inr (.inr ⟨s, rfl, small hz, q _ _ A G H μ m Nw.refl (.v _) k⟩)
theorem cut_all {l : List D} {lo hi : Option Int} (h1 : HT.sIx l.length 0 lo = 0) (h2 : HT.sIx l.length l.length hi = l.length) : cutD l lo hi = l := by
  unfold cutD
  rw [h1, h2]
  simp
theorem ss_tup {l : List D} {lo hi : Option Int} (k : C (.tup (cutD l lo hi)) μ) : SS K S (rSlU K) (.tup l) lo hi μ C := fun A G H u m r1 Q q => by
  cases r1 with
  | @tup _ a xs h1 r =>
    refine .inr (.inl ⟨_, xs, rfl, ex_t m.ex h1.sq, fun ⟨e1, e2⟩ => ?_, fun _ p hp => put_tup m hp (cut_rel r lo hi) q k⟩)
    rw [← r.len] at e1 e2
    refine q _ _ A G H μ m Nw.refl (.tup h1 ?_) k
    rw [cut_all e1 e2]
    exact r
theorem ee_revL (h : EE K S te δ μ fun d μ1 => ∃ l, d = .lst l ∧ C (.lst l.reverse) μ1) : EE K S (tRevL K te) δ μ C := fun A G H σ a Q q =>
  h A G H σ a _ fun v d A1 G1 H1 μ1 m1 n1 r1 ⟨l, e, c⟩ => by
    subst e
    cases r1 with
    | lst h1 r =>
      have e : ∀ {p : Addr} {o : HO}, H1 p = none → Ex G1 (upd G1 p o) := fun hp => Ex.new (m1.ex.free hp)
      exact ⟨_, _, rfl, lst_sq (m1.ex _ _ h1), fun p hp => q _ _ A1 _ _ μ1 (m1.laid hp) (n1.trans (.of (e hp))) (.lst upd_same (r.reverse.mono0 (e hp))) c⟩

/-! ### calls of built-ins -/
theorem cc_one {r : List V → Hp → VK → Prop} {x z : V} (h : ∀ H (Q : VK), Q z H → r [x] H Q) (k : C (.v z) μ) : CC K S r [.v x] μ C := fun A G H vs m r1 Q q => by
  cases r1 with
  | cons r1 rn =>
    cases rn
    have e1 := r1.vOf
    subst e1
    exact h H Q (q z (.v z) A G H μ m Nw.refl (.v z) k)
theorem cc_two {r : List V → Hp → VK → Prop} {x y z : V} (h : ∀ H (Q : VK), Q z H → r [x, y] H Q) (k : C (.v z) μ) : CC K S r [.v x, .v y] μ C := fun A G H vs m r1 Q q => by
  cases r1 with
  | cons r1 rn =>
    cases rn with
    | cons r2 rn =>
      cases rn
      have e1 := r1.vOf
      have e2 := r2.vOf
      subst e1 e2
      exact h H Q (q z (.v z) A G H μ m Nw.refl (.v z) k)
/-- a list or a tuple, or an open list, as a thing to be read -/
inductive SeqD (μ : List Cell) : D → List D → Prop
  | lst (l : List D) : SeqD μ (.lst l) l
  | rd (l : List D) : SeqD μ (.rd l) l
  | tup (l : List D) : SeqD μ (.tup l) l
  | own {n : Nat} {l : List D} (h : μ[n]? = some (.lst l)) : SeqD μ (.own n) l
inductive LstD (μ : List Cell) : D → List D → Prop
  | lst (l : List D) : LstD μ (.lst l) l
  | rd (l : List D) : LstD μ (.rd l) l
  | own {n : Nat} {l : List D} (h : μ[n]? = some (.lst l)) : LstD μ (.own n) l
theorem LstD.at' {A : List Addr} {G H : Hp} {d : D} {l : List D} {x : V} (s : LstD μ d l) (m : Mem K S A G H μ) (r : Rp K A G d x) : ∃ a xs, x = .ref a ∧ SqL K H a xs ∧ RpL K A G l xs := by
  cases s with
  | lst =>
    cases r with
    | lst h rl => exact ⟨_, _, rfl, lst_sq (m.ex _ _ h), rl⟩
  | rd =>
    cases r with
    | rd h rl => exact ⟨_, _, rfl, ex_l m.ex h, rl⟩
  | own h =>
    cases r with
    | own hA =>
      obtain ⟨g, xs, hx, r⟩ := m.cel _ _ _ hA h
      exact ⟨_, xs, rfl, lst_sq hx, r⟩
theorem SeqD.at' {A : List Addr} {G H : Hp} {d : D} {l : List D} {x : V} (s : SeqD μ d l) (m : Mem K S A G H μ) (r : Rp K A G d x) : ∃ a xs, x = .ref a ∧ (SqL K H a xs ∨ SqT K H a xs) ∧ RpL K A G l xs := by
  cases s with
  | lst =>
    obtain ⟨a, xs, e, h, r⟩ := (LstD.lst _).at' m r
    exact ⟨a, xs, e, .inl h, r⟩
  | rd =>
    obtain ⟨a, xs, e, h, r⟩ := (LstD.rd _).at' m r
    exact ⟨a, xs, e, .inl h, r⟩
  | tup =>
    cases r with
    | tup h rl => exact ⟨_, _, rfl, .inr (ex_t m.ex h.sq), rl⟩
  | own h =>
    obtain ⟨a, xs, e, h, r⟩ := (LstD.own h).at' m r
    exact ⟨a, xs, e, .inl h, r⟩
def rLenU (K : PySem.W.Frag) : List V → Hp → VK → Prop := fun xs H Q => (fun xs H (Q : VK) => ∃ p ys, xs = [.ref p] ∧ (SqL K H p ys ∨ SqT K H p ys) ∧ Q (.int ys.length) H) xs H Q ∨
  ((fun xs H (Q : VK) => ∃ z : Str, xs = [.str z] ∧ z.length ≤ sizeLine ∧ Q (.int z.length) H) xs H Q ∨ (fun xs H (Q : VK) => ∃ (a : Addr) (kvs : List (Key × V)), xs = [V.ref a] ∧ H a = some (.dK kvs) ∧ Q (.int kvs.length) H) xs H Q)
theorem call_lenU {X : Cx} : CallR X (.builtin "len") (rLenU X.K) := CallR.or call_len_seq (CallR.or call_len_str call_lenD)
theorem cc_len {d : D} {l : List D} (h : SeqD μ d l) (k : C (.int (l.length : Int)) μ) : CC K S (rLenU K) [d] μ C := fun A G H vs m r1 Q q => by
  cases r1 with
  | cons r1 rn =>
    cases rn
    obtain ⟨a, xs, e, hs, r⟩ := h.at' m r1
    subst e
    refine .inl ⟨a, xs, rfl, hs, ?_⟩
    rw [← r.len]
    exact q _ _ A G H μ m Nw.refl (.v _) k
theorem cc_lenS {s : Str} (hz : s.length ≤ 10000000) (k : C (.int (s.length : Int)) μ) : CC K S (rLenU K) [.str s] μ C := cc_one (fun _ _ q => .inr (.inl ⟨s, rfl, small hz, q⟩)) k
theorem cc_lenD {ks : List Key} {l : List D} (k : C (.int (ks.length : Int)) μ) : CC K S (rLenU K) [.dic ks l] μ C := fun A G H vs m r1 Q q => by
  cases r1 with
  | cons r1 rn =>
    cases rn
    cases r1 with
    | dic n h r =>
      refine .inr (.inr ⟨_, _, rfl, m.ex _ _ h, ?_⟩)
      rw [List.length_zip, ← n, Nat.min_self]
      exact q _ _ A G H μ m Nw.refl (.v _) k
theorem ints_rel {A : List Addr} {G : Hp} {ns : List Int} {xs : List V} (r : RpL K A G (ns.map D.int) xs) : xs = ns.map V.int := by
  have e : ns.map D.int = (ns.map V.int).map D.v := by rw [List.map_map]; rfl
  rw [e] at r
  exact RpL.of_vals r
theorem bls_rel {A : List Addr} {G : Hp} {bs : List Bool} {xs : List V} (r : RpL K A G (bs.map D.bl) xs) : xs = bs.map V.bl := by
  have e : bs.map D.bl = (bs.map V.bl).map D.v := by rw [List.map_map]; rfl
  rw [e] at r
  exact RpL.of_vals r
theorem strs_rel {A : List Addr} {G : Hp} {zs : List Str} {xs : List V} (r : RpL K A G (zs.map D.str) xs) : xs = zs.map V.str := by
  have e : zs.map D.str = (zs.map V.str).map D.v := by rw [List.map_map]; rfl
  rw [e] at r
  exact RpL.of_vals r
theorem cc_sum {d : D} {ns : List Int} (h : LstD μ d (ns.map D.int)) (k : C (.int ns.sum) μ) : CC K S (rSum K) [d] μ C := fun A G H vs m r1 Q q => by
  cases r1 with
  | cons r1 rn =>
    cases rn
    obtain ⟨a, xs, e, hs, r⟩ := h.at' m r1
    subst e
    have e2 := ints_rel r
    subst e2
    exact ⟨a, ns, rfl, hs, q _ _ A G H μ m Nw.refl (.v _) k⟩
theorem cc_all {d : D} {bs : List Bool} (h : LstD μ d (bs.map D.bl)) (k : C (.bl (bs.all id)) μ) : CC K S (rAll K) [d] μ C := fun A G H vs m r1 Q q => by
  cases r1 with
  | cons r1 rn =>
    cases rn
    obtain ⟨a, xs, e, hs, r⟩ := h.at' m r1
    subst e
    have e2 := bls_rel r
    subst e2
    exact ⟨a, bs, rfl, hs, q _ _ A G H μ m Nw.refl (.v _) k⟩
theorem cc_any {d : D} {bs : List Bool} (h : LstD μ d (bs.map D.bl)) (k : C (.bl (bs.any id)) μ) : CC K S (rAny K) [d] μ C := fun A G H vs m r1 Q q => by
  cases r1 with
  | cons r1 rn =>
    cases rn
    obtain ⟨a, xs, e, hs, r⟩ := h.at' m r1
    subst e
    have e2 := bls_rel r
    subst e2
    exact ⟨a, bs, rfl, hs, q _ _ A G H μ m Nw.refl (.v _) k⟩
def rListOf (K : PySem.W.Frag) : List V → Hp → VK → Prop := fun xs H Q => ∃ p ys, xs = [.ref p] ∧ (SqL K H p ys ∨ SqT K H p ys) ∧ ∀ l, H l = none → Q (.ref l) (upd H l (.lst ys))
theorem call_listOf {X : Cx} : CallR X (.type "list") (rListOf X.K) := call_list_of
theorem cc_list {d : D} {l : List D} (h : SeqD μ d l) (k : C (.lst l) μ) : CC K S (rListOf K) [d] μ C := fun A G H vs m r1 Q q => by
  cases r1 with
  | cons r1 rn =>
    cases rn
    obtain ⟨a, xs, e, hs, r⟩ := h.at' m r1
    subst e
    exact ⟨a, xs, rfl, hs, fun p hp => put_lst m hp r q k⟩
/-- list(..), to be changed -/
theorem cc_listO {d : D} {l : List D} (h : SeqD μ d l) (k : C (.own μ.length) (μ ++ [.lst l])) : CC K S (rListOf K) [d] μ C := fun A G H vs m r1 Q q => by
  cases r1 with
  | cons r1 rn =>
    cases rn
    obtain ⟨a, xs, e, hs, r⟩ := h.at' m r1
    subst e
    refine ⟨a, xs, rfl, hs, fun p hp => ?_⟩
    refine q _ _ (A ++ [p]) G _ _ (m.opened hp r) ⟨⟨[p], rfl⟩, Ex.refl _⟩ (.own ?_) k
    rw [← m.len, List.getElem?_append_right (Nat.le_refl _), Nat.sub_self]
    rfl
def rTupOf (K : PySem.W.Frag) : List V → Hp → VK → Prop := fun xs H Q => ∃ p ys, xs = [.ref p] ∧ ((SqL K H p ys ∧ ∀ l, H l = none → Q (.ref l) (upd H l (.tup ys))) ∨ (SqT K H p ys ∧ Q (.ref p) H))
theorem call_tupOf {X : Cx} : CallR X (.type "tuple") (rTupOf X.K) := call_tuple_of
theorem cc_tuple {d : D} {l : List D} (h : LstD μ d l) (k : C (.tup l) μ) : CC K S (rTupOf K) [d] μ C := fun A G H vs m r1 Q q => by
  cases r1 with
  | cons r1 rn =>
    cases rn
    obtain ⟨a, xs, e, hs, r⟩ := h.at' m r1
    subst e
    exact ⟨a, xs, rfl, .inl ⟨hs, fun p hp => put_tup m hp r q k⟩⟩
theorem cc_int {i : Int} (k : C (.int i) μ) : CC K S (fun xs H Q => (∃ i, xs = [.int i] ∧ Q (.int i) H) ∨ ∃ k, xs = [.bl k] ∧ Q (.int (if k then 1 else 0)) H) [.int i] μ C := cc_one (fun _ _ q => .inl ⟨i, rfl, q⟩) k
theorem cc_max {i j : Int} (k : C (.int (if j > i then j else i)) μ) : CC K S (fun xs H Q => ∃ i j, xs = [.int i, .int j] ∧ Q (.int (if j > i then j else i)) H) [.int i, .int j] μ C := cc_two (fun _ _ q => ⟨i, j, rfl, q⟩) k
theorem cc_min {i j : Int} (k : C (.int (if j < i then j else i)) μ) : CC K S (fun xs H Q => ∃ i j, xs = [.int i, .int j] ∧ Q (.int (if j < i then j else i)) H) [.int i, .int j] μ C := cc_two (fun _ _ q => ⟨i, j, rfl, q⟩) k
/-! isinstance -/
def D.ty : D → String
  | .v .non => "NoneType"
  | .v (.bl _) => "bool"
  | .v (.int _) => "int"
  | .v (.str _) => "str"
  | .v (.flt _) => "float"
  | .v (.byt _) => "bytes"
  | .lst _ => "list"
  | .rd _ => "list"
  | .tup _ => "tuple"
  | .dic _ _ => "dict"
  | .own _ => "list"
  | _ => ""
theorem tyX_tup {H : Hp} {a : Addr} {xs : List V} (h : SqT K H a xs) : TyX K H (.ref a) (.type "tuple") := by
  rcases h with (h | ⟨o, h⟩) | ⟨o, its, n, h, hc, _⟩
  · exact .base (.tup h)
  · exact .fTuple h
  · exact .kTuple h hc
theorem tyX_lst {H : Hp} {a : Addr} {xs : List V} (h : SqL K H a xs) : TyX K H (.ref a) (.type "list") := by
  rcases h with (h | ⟨o, h⟩) | ⟨o, its, n, h, hc, _⟩
  · exact .base (.lst h)
  · exact .base (.frz h)
  · exact .kList h hc
theorem Rp.tyX {A : List Addr} {G H : Hp} {d : D} {x : V} (m : Mem K S A G H μ) (r : Rp K A G d x) (ht : d.ty ≠ "") (ho : ∀ n, d = .own n → ∃ l, μ[n]? = some (.lst l)) : TyX K H x (.type d.ty) := by
  cases r with
  | @own n a hA =>
    obtain ⟨l, hl⟩ := ho n rfl
    obtain ⟨g, xs, hx, r⟩ := m.cel n a _ hA hl
    exact .base (.lst hx)
  | v x =>
    cases x with
    | non => exact .base .non
    | bl b => exact .base (.bl b)
    | int i => exact .base (.int i)
    | str s => exact .base (.str s)
    | flt s => exact .base (.flt s)
    | byt s => exact .byt s
    | ref a => exact absurd rfl ht
    | ty n => exact absurd rfl ht
  | lst h r => exact .base (.lst (m.ex _ _ h))
  | rd h r => exact tyX_lst (ex_l m.ex h)
  | tup h r => exact tyX_tup (ex_t m.ex h.sq)
  | dic n h r => exact .base (.dK (m.ex _ _ h))
  | exc h1 h2 r => exact absurd rfl ht
/-- no handle by itself -/
def D.no : D → Bool
  | .own _ => false
  | _ => true
theorem cc_isT {d : D} {n : String} {b : Bool} (hb : kitB d.ty n = some b) (ht : d.ty ≠ "") (hn : d.no = true) (k : C (.bl b) μ) : CC K S (rIsiU K) [d, .v (.ty n)] μ C := fun A G H vs m r1 Q q => by
  cases r1 with
  | cons r1 rn =>
    cases rn with
    | cons r2 rn =>
      cases rn
      have e2 := r2.vOf
      subst e2
      exact .inl ⟨_, _, _, _, b, rfl, .ty n, r1.tyX m ht (fun n e => by rw [e] at hn; cases hn), kit_ty hb, q _ _ A G H μ m Nw.refl (.v _) k⟩
theorem cc_isC {d : D} {c : Addr} {b : Bool} (hb : PySem.W.kitOne K (.type d.ty) (.ref c) = some b) (ht : d.ty ≠ "") (hn : d.no = true) (k : C (.bl b) μ) : CC K S (rIsiU K) [d, .v (.ref c)] μ C := fun A G H vs m r1 Q q => by
  cases r1 with
  | cons r1 rn =>
    cases rn with
    | cons r2 rn =>
      cases rn
      have e2 := r2.vOf
      subst e2
      exact .inl ⟨_, _, _, _, b, rfl, .own c, r1.tyX m ht (fun n e => by rw [e] at hn; cases hn), hb, q _ _ A G H μ m Nw.refl (.v _) k⟩
theorem cc_isX {c e fI : Addr} {d : D} {b : Bool} (T : ErrC K c fI) (hb : PySem.W.kitOne K (.ref c) (.ref e) = some b) (k : C (.bl b) μ) : CC K S (rIsiU K) [.exc c d, .v (.ref e)] μ C := fun A G H vs m r1 Q q => by
  cases r1 with
  | cons r1 rn =>
    cases rn with
    | cons r2 rn =>
      cases rn
      have e2 := r2.vOf
      subst e2
      cases r1 with
      | exc h1 h2 r => exact .inr (.inr (.inl ⟨_, c, _, fI, _, _, _, b, rfl, .own e, T, m.ex _ _ h1, m.ex _ _ h2, hb, q _ _ A G H μ m Nw.refl (.v _) k⟩))
theorem cc_isXT {c fI : Addr} {d : D} {b : Bool} {n : String} (T : ErrC K c fI) (hb : PySem.W.kitOne K (.ref c) (.type n) = some b) (k : C (.bl b) μ) : CC K S (rIsiU K) [.exc c d, .v (.ty n)] μ C := fun A G H vs m r1 Q q => by
  cases r1 with
  | cons r1 rn =>
    cases rn with
    | cons r2 rn =>
      cases rn
      have e2 := r2.vOf
      subst e2
      cases r1 with
      | exc h1 h2 r => exact .inr (.inr (.inl ⟨_, c, _, fI, _, _, _, b, rfl, .ty n, T, m.ex _ _ h1, m.ex _ _ h2, hb, q _ _ A G H μ m Nw.refl (.v _) k⟩))
def kitBs (t : String) : List String → Option Bool
  | [] => some false
  | n :: ns => match kitB t n with
    | some true => some true
    | some false => kitBs t ns
    | none => none
theorem kitAny_of {t : String} : ∀ {ns : List String} {b : Bool}, kitBs t ns = some b → PySem.W.kitAny K (.type t) (ns.map Value.type) = some b
  | [], _, h => by cases h; exact kitAny_nil
  | n :: ns, b, h => by
    unfold kitBs at h
    cases q : kitB t n with
    | none => rw [q] at h; cases h
    | some c =>
      rw [q] at h
      cases c with
      | true =>
        cases h
        exact kitAny_cons (r := true) (kit_ty q) (fun z => Bool.noConfusion z) (fun _ => rfl)
      | false => exact kitAny_cons (kit_ty q) (fun _ => kitAny_of h) (fun z => Bool.noConfusion z)
theorem tys_paired : ∀ ns : List String, Paired ClsV (ns.map V.ty) (ns.map Value.type)
  | [] => .nil
  | n :: ns => .cons (.ty n) (tys_paired ns)
/-- isinstance(x, (int, str, ..)), the tuple made on the way -/
theorem cc_isTs {d : D} {ns : List String} {b : Bool} (hb : kitBs d.ty ns = some b) (ht : d.ty ≠ "") (hn : d.no = true) (k : C (.bl b) μ) : CC K S (rIsiU K) [d, .tup (ns.map fun n => .v (.ty n))] μ C := fun A G H vs m r1 Q q => by
  cases r1 with
  | cons r1 rn =>
    cases rn with
    | cons r2 rn =>
      cases rn
      have hx := r1.tyX m ht (fun n e => by rw [e] at hn; cases hn)
      cases r2 with
      | tup h r =>
        have e : (ns.map fun n => D.v (.ty n)) = (ns.map V.ty).map D.v := by rw [List.map_map]; rfl
        rw [e] at r
        have e2 := RpL.of_vals r
        subst e2
        rcases h with h | ⟨o, its, n, h, hc, hd, hz, hv⟩
        · exact .inr (.inl ⟨_, _, _, _, _, b, rfl, m.ex _ _ h, tys_paired ns, hx, kitAny_of hb, q _ _ A G H μ m Nw.refl (.v _) k⟩)
        · obtain ⟨oc, od, dt, sl⟩ := o
          dsimp only at hc hd
          subst hc hd
          have e3 := ClsV.all (tys_paired ns) hv
          refine .inr (.inr (.inr ⟨_, _, od, ns.map Value.type, n, sl, _, b, rfl, ?_, hx, kitAny_of hb, q _ _ A G H μ m Nw.refl (.v _) k⟩))
          rw [h, ← e3]
end
end PA

set_option Elab.async false
set_option linter.all false
set_option maxRecDepth 100000
set_option maxHeartbeats 2000000
/-! PbMeth: methods of the built-ins, over data. -/
namespace PA
open PySem L2
section
variable {K : PySem.W.Frag} {S : Bs} {δ : Sl} {μ : List Cell} {ta tb te : TE} {ts : TA} {C : D → List Cell → Prop}
/-- whose method it is -/
inductive TyM (μ : List Cell) : String → D → Prop
  | str (s : Str) : TyM μ "str" (.str s)
  | int (i : Int) : TyM μ "int" (.int i)
  | lst {d : D} {l : List D} (h : LstD μ d l) : TyM μ "list" d
  | dic (ks : List Key) (l : List D) : TyM μ "dict" (.dic ks l)
theorem TyM.at' {T : String} {d : D} {A : List Addr} {G H : Hp} {x : V} (t : TyM μ T d) (m : Mem K S A G H μ) (r : Rp K A G d x) : tyV K T x H := by
  cases t with
  | str s => rw [r.vOf]; rfl
  | int i => rw [r.vOf]; rfl
  | lst h =>
    obtain ⟨a, xs, e, hs, _⟩ := h.at' m r
    subst e
    exact .inl ⟨rfl, xs, hs⟩
  | dic ks l =>
    cases r with
    | dic n h r => exact .inr (.inr (.inl ⟨rfl, .inl ⟨_, m.ex _ _ h⟩⟩))
theorem ee_bm {T : String} {r : V → List V → Hp → VK → Prop} (h : EE K S te δ μ fun x μ1 => TyM μ1 T x ∧ EA K S ts δ μ1 fun ds μ2 => MM K S r x ds μ2 C) : EE K S (tBM K T r te ts) δ μ C := fun A G H σ a Q q =>
  h A G H σ a _ fun v x A1 G1 H1 μ1 m1 n1 r1 ⟨t, h1⟩ => ⟨t.at' m1 r1, h1 A1 G1 H1 σ ⟨m1, n1.en a.env⟩ _ fun vs ds A2 G2 H2 μ2 m2 n2 r2 h2 =>
    h2 A2 G2 H2 v vs m2 (n2.rp r1) r2 Q fun z d A3 G3 H3 μ3 m3 n3 r3 c => q z d A3 G3 H3 μ3 m3 ((n1.trans n2).trans n3) r3 c⟩
theorem ee_bm0 {T : String} {r : V → List V → Hp → VK → Prop} (h : EE K S te δ μ fun x μ1 => TyM μ1 T x ∧ MM K S r x [] μ1 C) : EE K S (tBM0 K T r te) δ μ C := fun A G H σ a Q q =>
  h A G H σ a _ fun v x A1 G1 H1 μ1 m1 n1 r1 ⟨t, h1⟩ => ⟨t.at' m1 r1, h1 A1 G1 H1 v [] m1 r1 .nil Q fun z d A3 G3 H3 μ3 m3 n3 r3 c => q z d A3 G3 H3 μ3 m3 (n1.trans n3) r3 c⟩
theorem mm_append {k : Nat} {l : List D} {y : D} (hc : μ[k]? = some (.lst l)) (hz : l.length < 10000000) (c : C .non (μ.set k (.lst (l ++ [y])))) : MM K S rAppend (.own k) [y] μ C := fun A G H u vs m r1 r2 Q q => by
  cases r2 with
  | cons ry rn =>
    cases rn
    cases r1 with
    | own hA =>
      obtain ⟨g, xs, hx, r⟩ := m.cel k _ _ hA hc
      exact ⟨_, xs, _, rfl, rfl, hx, smalr (by rw [← r.len]; exact hz), q _ _ A G _ _ (m.wrote hA hc (r.append (.cons ry .nil))) Nw.refl (.v _) c⟩
theorem mm_extend {k : Nat} {l m' : List D} (hc : μ[k]? = some (.lst l)) (hz : l.length + m'.length ≤ 10000000) (c : C .non (μ.set k (.lst (l ++ m')))) : MM K S rExtend (.own k) [.lst m'] μ C := fun A G H u vs m r1 r2 Q q => by
  cases r2 with
  | cons ry rn =>
    cases rn
    cases r1 with
    | own hA =>
      obtain ⟨g, xs, hx, r⟩ := m.cel k _ _ hA hc
      cases ry with
      | lst h2 s2 => exact ⟨_, _, xs, _, rfl, rfl, hx, m.ex _ _ h2, small (by rw [← r.len, ← s2.len]; exact hz), q _ _ A G _ _ (m.wrote hA hc (r.append s2)) Nw.refl (.v _) c⟩
/-- s.m(t), s.m() of texts -/
theorem ee_m1 {r : V → List V → Hp → VK → Prop} (h : EE K S te δ μ fun x μ1 => ∃ s, x = .str s ∧ EE K S tb δ μ1 fun y μ2 => MM K S r (.str s) [y] μ2 C) : EE K S (tM1 r te tb) δ μ C := fun A G H σ a Q q =>
  h A G H σ a _ fun v x A1 G1 H1 μ1 m1 n1 r1 ⟨s, e, h1⟩ => by
    subst e
    have ev := r1.vOf
    subst ev
    exact ⟨⟨s, rfl⟩, h1 A1 G1 H1 σ ⟨m1, n1.en a.env⟩ _ fun w y A2 G2 H2 μ2 m2 n2 r2 h2 =>
      h2 A2 G2 H2 _ [w] m2 (.v _) (.cons r2 .nil) Q fun z d A3 G3 H3 μ3 m3 n3 r3 c => q z d A3 G3 H3 μ3 m3 ((n1.trans n2).trans n3) r3 c⟩
def rJoin (K : PySem.W.Frag) : V → List V → Hp → VK → Prop := fun x xs H Q => ∃ a p, ∃ ys : List Str, x = .str a ∧ xs = [.ref p] ∧ (SqL K H p (ys.map V.str) ∨ SqT K H p (ys.map V.str)) ∧ (ys.map (·.length)).sum + ys.length * a.length ≤ 16777216 ∧ Q (.str (Txt.join a ys)) H
theorem mm_join {a : Str} {d : D} {ys : List Str} (h : SeqD μ d (ys.map D.str)) (hz : (ys.map (·.length)).sum + ys.length * a.length ≤ 16777216) (c : C (.str (Txt.join a ys)) μ) : MM K S (rJoin K) (.str a) [d] μ C := fun A G H u vs m r1 r2 Q q => by
  cases r2 with
  | cons ry rn =>
    cases rn
    have ev := r1.vOf
    subst ev
    obtain ⟨p, xs, e, hs, r⟩ := h.at' m ry
    subst e
    have e2 := strs_rel r
    subst e2
    exact ⟨a, p, ys, rfl, rfl, hs, hz, q _ _ A G H μ m Nw.refl (.v _) c⟩
theorem mm_vals {r : V → List V → Hp → VK → Prop} {x y z : V} (h : ∀ H (Q : VK), Q z H → r x [y] H Q) (c : C (.v z) μ) : MM K S r (.v x) [.v y] μ C := fun A G H u vs m r1 r2 Q q => by
  cases r2 with
  | cons ry rn =>
    cases rn
    have e1 := r1.vOf
    have e2 := ry.vOf
    subst e1 e2
    exact h H Q (q _ _ A G H μ m Nw.refl (.v _) c)
def rSIndex : V → List V → Hp → VK → Prop := fun x xs H Q => ∃ a b i rest, x = .str a ∧ xs = [.str b] ∧ Builtin.Str.occurrences a b 0 a.length 1 = i :: rest ∧ Q (.int (i : Nat)) H
theorem mm_sindex {a b : Str} {i : Nat} {rest : List Nat} (h : Builtin.Str.occurrences a b 0 a.length 1 = i :: rest) (c : C (.int (i : Int)) μ) : MM K S rSIndex (.str a) [.str b] μ C := mm_vals (fun _ _ q => ⟨a, b, i, rest, rfl, rfl, h, q⟩) c
theorem ee_bits (h : EE K S te δ μ fun x μ1 => ∃ i, x = .int i ∧ C (.int (Builtin.Int.intBits i : Nat)) μ1) : EE K S (tBits te) δ μ C := fun A G H σ a Q q =>
  h A G H σ a _ fun v x A1 G1 H1 μ1 m1 n1 r1 ⟨i, e, c⟩ => by
    subst e
    have ev := r1.vOf
    subst ev
    exact ⟨i, rfl, q _ _ A1 G1 H1 μ1 m1 n1 (.v _) c⟩
end
end PA

set_option Elab.async false
set_option linter.all false
set_option maxRecDepth 100000
set_option maxHeartbeats 2000000
/-! PbTerm: the rules that gen.py prints: calls of the text's own defs by what stands of them, raise, try. -/
namespace PA
open PySem L2
theorem hu64 {k : Nat} {A : Around} (r : Room k A) : A.units + 64 < cLine := by
  have := r.un
  omega
/-- a def of the text that keeps a promise -/
structure CalX (P : Program) (w : World) (K : PySem.W.Frag) (mg : Str → Option Value) (base : Heap) (k : Nat) (x : Str) (ps : List Str) (sp : Sp) : Prop where
  ex : ∃ (f : Addr) (fd : FuncData), FnOk P w K mg base (L2.CX P w) k f fd ps sp ∧ mg x = some (.ref f) ∧ PySem.W.keepIn K (.ref f) = true ∧ Binds K fd ps []
/-- the values by place out of the keywords' -/
def permL {α : Type} (π : List Nat) (ws : List α) : List α := π.filterMap fun i => ws[i]?
theorem permL_vals {zs : List V} {ws : List Value} (r : Vals zs ws) : ∀ π : List Nat, Vals (permL π zs) (permL π ws)
  | [] => .nil
  | i :: π => by
    unfold permL
    rw [List.filterMap_cons, List.filterMap_cons]
    cases e : zs[i]? with
    | none =>
      rw [r.none_of e]
      exact permL_vals r π
    | some z =>
      obtain ⟨u, hu, ru⟩ := r.get e
      rw [hu]
      exact .cons ru (permL_vals r π)
def KBd (K : PySem.W.Frag) (fd : FuncData) (ps ks : List Str) (π : List Nat) : Prop :=
  ∀ (s : Shared) (ws : List Value), ws.length = ks.length → BindsTo s fd ⟨[], ks.zip ws⟩ (ps.zip (permL π ws))
/-- .. called by its parameters' names alone -/
structure CalK (P : Program) (w : World) (K : PySem.W.Frag) (mg : Str → Option Value) (base : Heap) (k : Nat) (x : Str) (ps ks : List Str) (π : List Nat) (sp : Sp) : Prop where
  ex : ∃ (f : Addr) (fd : FuncData), FnOk P w K mg base (L2.CX P w) k f fd ps sp ∧ mg x = some (.ref f) ∧ PySem.W.keepIn K (.ref f) = true ∧ KBd K fd ps ks π
def tCallP (sp : Sp) (π : List Nat) (n : Nat) (E : XK) (tk : TA) : TE := fun σ H Q => tk σ H fun zs H1 => zs.length = n ∧ sp (permL π zs) H1 Q E
section
variable {X : Cx} {k j : Nat} {x : Str} {ps ks : List Str} {π : List Nat} {sp : Sp} {E : XK} {p pos : Pos} {e : Expr} {es : List Expr} {t tk : TA} {kws : List Keyword} {W : WX}
theorem pe_c (c : CalX X.prog X.w X.K X.mg X.base k x ps sp) (hr : Room j X.A) (hj : k ≤ j) (hg : Gl X x) (hx : Passes (L2.CX X.prog X.w) X E) (ha : PA X (e :: es) t) (hdb : (x == ("__debug__" : Str)) = false := by decide)
    (he : starEach (e :: es) X.env = (false, eval e X.env) :: starEach es X.env := by rfl) (hpl : (backTo pos (starEach es X.env)).any (·.1) = false := by rfl) : PE X (.Call (.Name x p) (e :: es) [] pos) (tCall sp [] E t) := by
  obtain ⟨f, fd, F, hm, hk, hb⟩ := c.ex
  exact pe_call F (hr.mono hj) hg hm hk hb .nil hx ha hdb he hpl
theorem pe_c0 (c : CalX X.prog X.w X.K X.mg X.base k x ps sp) (hr : Room j X.A) (hj : k ≤ j) (hg : Gl X x) (hx : Passes (L2.CX X.prog X.w) X E) (hdb : (x == ("__debug__" : Str)) = false := by decide) : PE X (.Call (.Name x p) [] [] pos) (tCall sp [] E tNil) := by
  obtain ⟨f, fd, F, hm, hk, hb⟩ := c.ex
  exact pe_call0 F (hr.mono hj) hg hm hk hb .nil hx hdb
theorem pe_cS (c : CalX X.prog X.w X.K X.mg X.base k x ps sp) (hr : Room j X.A) (hj : k ≤ j) (hg : Gl X x) (tk : Takes X W) (ha : PA X (e :: es) t) (hdb : (x == ("__debug__" : Str)) = false := by decide)
    (he : starEach (e :: es) X.env = (false, eval e X.env) :: starEach es X.env := by rfl) (hpl : (backTo pos (starEach es X.env)).any (·.1) = false := by rfl) : PE X (.Call (.Name x p) (e :: es) [] pos) (tCallS sp (WE W) t) := by
  obtain ⟨f, fd, F, hm, hk, hb⟩ := c.ex
  exact pe_callS F (hr.mono hj) hg hm hk hb (fun σ => passAt tk σ) ha hdb he hpl
theorem pe_ck0 (c : CalK X.prog X.w X.K X.mg X.base k x ps ks π sp) (hr : Room j X.A) (hj : k ≤ j) (hg : Gl X x) (hx : Passes (L2.CX X.prog X.w) X E) (hkw : PK X kws tk) (hall : (backToKw pos (keywordEach kws X.env)).all (·.1.isSome) = true := by rfl)
    (hks : (backToKw pos (keywordEach kws X.env)).filterMap (·.1) = ks := by rfl) (hdb : (x == ("__debug__" : Str)) = false := by decide)
    (hpl : ((backTo pos (starEach [] X.env)).any (·.1) || (backToKw pos (keywordEach kws X.env)).any (·.1.isNone)) = false := by rfl) : PE X (.Call (.Name x p) [] kws pos) (tCallP sp π ks.length E tk) := by
  obtain ⟨f, fd, F, hm, hk, hb⟩ := c.ex
  refine ⟨fun pins s σ H Q I h => ?_⟩
  refine wpAny_Call_Name_kw (ld_glob I hg hm ?_ hdb)
  refine PySem.W.callWith_KW0 (h₀ := X.base) I.ok.mod.kin hk hall ?_ hpl
  refine thn (hkw.run pos pins s σ H _ I h) fun ws s2 ⟨zs, H2, I2, rz, hl, q2⟩ => ⟨I2.kIn, ?_⟩
  rw [hks]
  have r2 := permL_vals rz π
  refine wpAny_call (codeAny_mono (F.run X.A X.stack s2 H2 ⟨[] ++ [], ks.zip ws⟩ (permL π ws) (permL π zs) Q E (hr.mono hj) I2.env0 (hb s2 ws (by rw [← rz.length]; exact hl)) r2 q2) fun r s' hq => ?_)
  cases r with
  | error er => exact hx pins σ H2 s2 er s' I2 hq
  | ok fl =>
    cases fl with
    | ret u => exact I2.after hq
    | next => exact False.elim hq
    | brk => exact False.elim hq
    | cont => exact False.elim hq
/-- a def that a slot holds -/
structure HeldX (P : Program) (w : World) (K : PySem.W.Frag) (mg : Str → Option Value) (base : Heap) (k : Nat) (f : Addr) (sp : Sp) : Prop where
  ex : ∃ (n : Nat) (fd : FuncData) (ps : List Str), n ≤ k ∧ FnOk P w K mg base (L2.CX P w) n f fd ps sp ∧ PySem.W.keepIn K (.ref f) = true ∧ Binds K fd ps []
def tCallA' (i : Nat) (Sg : Addr → Sp → Prop) (E : L2.St → XK) (t : TA) : TE := fun σ H Q => ∃ f sp, σ[i]? = some (some (.ref f)) ∧ Sg f sp ∧ t σ H fun vs H1 => sp vs H1 Q (E σ)
theorem pe_cL {i : Nat} {Sg : Addr → Sp → Prop} (c : ∀ f sp, Sg f sp → HeldX X.prog X.w X.K X.mg X.base k f sp) (hr : Room j X.A) (hj : k ≤ j) (hN : X.N[i]? = some x) (hv : Vis X.env.scope x) (tk : Takes X W) (ha : PA X (e :: es) t) (hdb : (x == ("__debug__" : Str)) = false := by decide)
    (hcd : (x == ("__classdict__" : Str)) = false := by decide) (he : starEach (e :: es) X.env = (false, eval e X.env) :: starEach es X.env := by rfl) (hpl : (backTo pos (starEach es X.env)).any (·.1) = false := by rfl) :
    PE X (.Call (.Name x p) (e :: es) [] pos) (tCallA' i Sg (WE W) t) := by
  refine ⟨fun pins s σ H Q I h => ?_⟩
  obtain ⟨f, sp, hs, hS, ht⟩ := h
  obtain ⟨n, fd, ps, hn, F, hk, hb⟩ := (c f sp hS).ex
  refine wpAny_Call_Name_kw (thn ((pe_var (pos := p) hN hv hdb hcd).run pins s σ H (fun v H1 => v = .ref f ∧ H1 = H) I ⟨.ref f, hs, rfl, rfl⟩) fun u s1 ⟨v, H1, I1, r1, q1⟩ => ?_)
  obtain ⟨rfl, rfl⟩ := q1
  cases r1
  refine PySem.W.callWith_K (h₀ := X.base) I.ok.mod.kin hk (thn (ha.run pos pins s1 σ _ _ I1 ht) fun us s2 ⟨vs, H2, I2, r, q⟩ => ⟨I2.kIn, ?_⟩) he hpl
  exact run_fnS F (hr.mono (Nat.le_trans hn hj)) hb (fun pins H s e s' I c => passAt tk σ pins H s e s' I c) I2 r q
/-- an own error class with its __init__ -/
structure ErrK (P : Program) (w : World) (K : PySem.W.Frag) (mg : Str → Option Value) (base : Heap) (x : Str) (c : Addr) : Prop where
  ex : ∃ (fI : Addr) (fd : FuncData), ErrC K c fI ∧ FnOk P w K mg base (L2.CX P w) 1 fI fd ["self", "value"] (spErr c) ∧ Binds K fd ["self", "value"] []
  g : mg x = some (.ref c)
theorem ErrK.c {P : Program} {w : World} {K : PySem.W.Frag} {mg : Str → Option Value} {base : Heap} {x : Str} {c : Addr} (k : ErrK P w K mg base x c) : ∃ fI, ErrC K c fI := let ⟨fI, _, h, _⟩ := k.ex; ⟨fI, h⟩
theorem ps_raiseC {c : Addr} {pos2 : Pos} (hc : X.calm = true) (k : ErrK X.prog X.w X.K X.mg X.base x c) (hr : Room j X.A) (hj : 2 ≤ j) (tk : Takes X (fun cls d _ H => E cls d H)) (hg : Gl X x) (ha : PA X (e :: es) t) (hdb : (x == ("__debug__" : Str)) = false := by decide)
    (he : starEach (e :: es) X.env = (false, eval e X.env) :: starEach es X.env := by rfl) (hpl : (backTo pos (starEach es X.env)).any (·.1) = false := by rfl) : PS X (.Raise (some (.Call (.Name x p) (e :: es) [] pos)) none pos2) (tRaiseE c E t) := by
  obtain ⟨fI, fd, T, F, hb⟩ := k.ex
  exact ps_raiseE hc T F (hr.mono hj) hb passL tk hg k.g ha hdb he hpl
end
section
variable {X : Cx} {c : Addr} {x n : Str} {i : Nat} {body suite : List Stmt} {b₀ : Stmt} {np pos pos' : Pos} {tb : WX → TS} {ts : TS} {Wout : WX}
theorem ps_tryC (hm : X.mg x = some (.ref c)) (hN : X.N.Nodup) (hg : Gl X x) (hs : X.stack = X.env :: X.outer) (hf : X.env.frame = some X.env.locals) (hex : X.ex = []) (hi : X.N[i]? = some n) (hln : X.env.kindOf n = some .local) (tk : Takes X Wout)
    (hb : ∀ (W : WX) (pn : List (Addr × Obj)) (xe : Value → Shared → Prop), Takes (X.tr pn xe) W → PassesOwn (model X.prog X.w) X.A X.env xe → PSs (X.tr pn xe) body (tb W))
    (hsu : ∀ (a : Addr) (pn : List (Addr × Obj)), PSs (X.suite a pn) (b₀ :: suite) ts) (hdb : (x == ("__debug__" : Str)) = false := by decide) :
    PS X (.Try body [.ExceptHandler (some (.Name x np)) (some n) (b₀ :: suite) pos'] [] [] pos) (fun D σ H => tb (wHold X.K (.ref c) i ts Wout D) D σ H) :=
  ps_try_hold hs hf hex hN hi hln ⟨hg, hdb, .inl hm⟩ tk hb hsu
/-- products: of ints, of a text, of a list -/
def rTimes : R2 := fun x y H Q => rI CMulW (fun i j => .int (i * j)) x y H Q ∨ (rRep x y H Q ∨ (fun x y H (Q : VK) => ∃ (s : Str) (i : Int), x = .str s ∧ y = .int i ∧ MulOk s i ∧ Q (.str (Txt.mul s i)) H) x y H Q)
theorem op_strMul : OpR X (binaryOp .Mult) (fun x y H (Q : VK) => ∃ (s : Str) (i : Int), x = .str s ∧ y = .int i ∧ MulOk s i ∧ Q (.str (Txt.mul s i)) H) := by
  intro pins sh σ H x y u w Q I rx ry h
  obtain ⟨s, i, e1, e2, ok, q⟩ := h
  subst e1 e2
  obtain ⟨t, e⟩ := rx
  obtain ⟨t2, e2⟩ := ry
  subst e e2
  exact SB.mul ok fun t' k => ⟨.str (Txt.mul s i), H, I.tok _, ⟨_, rfl⟩, q⟩
theorem op_timesU : OpR X (binaryOp .Mult) rTimes := OpR.or op_mulW (OpR.or op_rep op_strMul)
end
end PA

set_option Elab.async false
set_option linter.all false
set_option maxRecDepth 100000
set_option maxHeartbeats 2000000
/-! PbStep: calls in short, isinstance of plain data, and the word that takes all plain steps. -/
namespace PA
open PySem L2
/-- plain data at the top -/
def D.pl : D → Bool
  | .v .non => true
  | .v (.bl _) => true
  | .v (.int _) => true
  | .v (.str _) => true
  | .lst _ => true
  | .tup _ => true
  | .dic _ _ => true
  | _ => false
/-- isinstance(d, n) -/
def D.is (d : D) (n : String) : Bool := d.ty == n || (n == "int" && d.ty == "bool")
def isTy (n : String) : Bool := n == "int" || n == "bool" || n == "str" || n == "list" || n == "tuple" || n == "dict"
theorem pl_no {d : D} (h : d.pl = true) : d.no = true := by cases d <;> first | rfl | cases h
theorem kit_all : ∀ t ∈ ["NoneType", "bool", "int", "str", "list", "tuple", "dict"], ∀ n ∈ ["int", "bool", "str", "list", "tuple", "dict"], kitB t n = some (t == n || (n == "int" && t == "bool")) := by decide +kernel
theorem pl_ty {d : D} (h : d.pl = true) : d.ty ∈ ["NoneType", "bool", "int", "str", "list", "tuple", "dict"] := by
  cases d with
  | v x => cases x <;> first | (cases h; done) | (simp [D.ty])
  | lst l => simp [D.ty]
  | rd l => cases h
  | tup l => simp [D.ty]
  | dic ks l => simp [D.ty]
  | exc c d => cases h
  | own k => cases h
theorem isTy_mem {n : String} (h : isTy n = true) : n ∈ ["int", "bool", "str", "list", "tuple", "dict"] := by
  unfold isTy at h
  simp only [Bool.or_eq_true, beq_iff_eq] at h
  simp only [List.mem_cons, List.not_mem_nil, or_false]
  rcases h with ((((h | h) | h) | h) | h) | h <;> simp [h]
theorem pl_kit {d : D} {n : String} (h : d.pl = true) (hn : isTy n = true) : kitB d.ty n = some (d.is n) := kit_all _ (pl_ty h) _ (isTy_mem hn)
theorem pl_ne {d : D} (h : d.pl = true) : d.ty ≠ "" := fun e => by
  have q := pl_ty h
  rw [e] at q
  revert q
  decide
theorem pl_kits {d : D} (h : d.pl = true) : ∀ {ns : List String}, ns.all isTy = true → kitBs d.ty ns = some (ns.any d.is)
  | [], _ => rfl
  | n :: ns, hn => by
    rw [List.all_cons, Bool.and_eq_true] at hn
    unfold kitBs
    rw [pl_kit h hn.1, List.any_cons]
    cases q : d.is n with
    | true => rfl
    | false => exact pl_kits h hn.2
section
variable {K : PySem.W.Frag} {S : Bs} {δ : Sl} {μ : List Cell} {ta tk : TA} {te : TE} {C : D → List Cell → Prop} {E : XK} {CE : Addr → D → List Cell → Prop} {T : Type}
theorem cc_isP {d : D} {n : String} (h : d.pl = true) (k : C (.bl (d.is n)) μ) (hn : isTy n = true := by rfl) : CC K S (rIsiU K) [d, .v (.ty n)] μ C := cc_isT (pl_kit h hn) (pl_ne h) (pl_no h) k
theorem cc_isP2 {d : D} {n m : String} (h : d.pl = true) (k : C (.bl ([n, m].any d.is)) μ) (hn : [n, m].all isTy = true := by rfl) : CC K S (rIsiU K) [d, .tup [.v (.ty n), .v (.ty m)]] μ C := cc_isTs (ns := [n, m]) (pl_kits h hn) (pl_ne h) (pl_no h) k
theorem cc_isP3 {d : D} {n m o : String} (h : d.pl = true) (k : C (.bl ([n, m, o].any d.is)) μ) (hn : [n, m, o].all isTy = true := by rfl) : CC K S (rIsiU K) [d, .tup [.v (.ty n), .v (.ty m), .v (.ty o)]] μ C := cc_isTs (ns := [n, m, o]) (pl_kits h hn) (pl_ne h) (pl_no h) k
/-- .. by the parameters' names -/
theorem ee_callP {arg : T → List D} {pre : T → Prop} {post : T → D → Prop} {exc : T → Addr → D → Prop} {π : List Nat} {n : Nat} (wi : Wi K S E CE)
    (h : EA K S tk δ μ fun ds μ1 => ds.length = n ∧ ∃ t : T, pre t ∧ permL π ds = arg t ∧ D.ltL 0 (arg t) = true ∧ (∀ d, post t d → d.lt 0 = true → C d μ1) ∧ ∀ c d, exc t c d → d.lt 0 = true → CE c d μ1) : EE K S (tCallP (ProP K arg pre post exc) π n E tk) δ μ C := fun A G H σ a Q q =>
  h A G H σ a _ fun vs ds A1 G1 H1 μ1 m1 n1 r1 ⟨hl, t, hp, ed, hcl, hc, hx⟩ => by
    have key : ∀ π : List Nat, RpL K A1 G1 (permL π ds) (permL π vs) := by
      intro π
      induction π with
      | nil => exact .nil
      | cons i π ih =>
        unfold permL
        rw [List.filterMap_cons, List.filterMap_cons]
        cases e : ds[i]? with
        | none =>
          have e2 : vs[i]? = none := by
            rw [List.getElem?_eq_none_iff] at e ⊢
            rw [← r1.len]
            exact e
          rw [e2]
          exact ih
        | some z =>
          obtain ⟨u, hu, ru⟩ := r1.get e
          rw [hu]
          exact .cons ru ih
    refine ⟨by rw [← r1.len]; exact hl, ?_⟩
    have rd : RpL K [] G1 (arg t) (permL π vs) := by
      have z := key π
      rw [ed] at z
      exact z.cl hcl
    refine ⟨t, [], G1, hp, mem00 m1, rd, fun v d B G' H' ν f r ⟨e0, c⟩ => ?_, fun c dx u d G' H' ν f f1 f2 f3 r c' => ?_⟩
    · subst e0
      obtain ⟨hB, mb⟩ := after0 m1 f
      subst hB
      have hd : d.lt 0 = true := r.scope
      exact q v d A1 G' H' μ1 mb (n1.trans (.of f.exG)) (r.cl hd) (hc _ c hd)
    · have e0 : ν = [] := List.length_eq_zero_iff.mp (by have z := f.len; simpa using z.symm)
      subst e0
      obtain ⟨_, mb⟩ := after0 (B := []) m1 f
      have hd : d.lt 0 = true := r.scope
      exact wi c dx u d A1 G' H' μ1 mb (m1.freeS f1).1 f2 f3 (r.cl hd) (hx c d c' hd)
theorem pset_list {X : Cx} : PSet X rSetL := set_list
theorem Less.all (δ : Sl) : Less δ (δ.map fun _ => none) := by
  induction δ with
  | nil => exact .nil
  | cons o δ ih => exact .drop ih
end
end PA

set_option Elab.async false
set_option linter.all false
set_option maxRecDepth 100000
set_option maxHeartbeats 2000000
/-! PbWalk: more rules of operators, in the form in which the walking word takes them. -/
namespace PA
open PySem L2
section
variable {K : PySem.W.Frag} {S : Bs} {δ : Sl} {μ : List Cell} {ta tb te : TE} {C : D → List Cell → Prop}
theorem oo_mul {i j : Int} (h : CMulW i j) (k : C (.int (i * j)) μ) : OO K S rTimes (.int i) (.int j) μ C := oo_same (fun _ _ q => .inl ⟨i, j, rfl, rfl, h, q⟩) k
theorem oo_mulS {s : Str} {j : Int} (h : MulOk s j) (k : C (.str (Txt.mul s j)) μ) : OO K S rTimes (.str s) (.int j) μ C := oo_same (fun _ _ q => .inr (.inr ⟨s, j, rfl, rfl, h, q⟩)) k
theorem oo_mod {i j : Int} (h : 0 < j) (k : C (.int (i % j)) μ) : OO K S (rI (fun _ j => 0 < j) fun i j => .int (i % j)) (.int i) (.int j) μ C := oo_I (g := fun i j => .int (i % j)) h k
theorem oo_div {i j : Int} (h : CDivW i j) (k : C (.int (i / j)) μ) : OO K S (rI CDivW fun i j => .int (i / j)) (.int i) (.int j) μ C := oo_I (g := fun i j => .int (i / j)) h k
theorem oo_pow {i j : Int} (h : CPow i j) (k : C (.int (i ^ j.toNat)) μ) : OO K S (rI CPow fun i j => .int (i ^ j.toNat)) (.int i) (.int j) μ C := oo_I (g := fun i j => .int (i ^ j.toNat)) h k
theorem uu_neg {i : Int} (k : C (.int (-i)) μ) : UU K S (rU fun i => .int (-i)) (.int i) μ C := fun A G H u m r1 Q q => by
  have e1 := r1.vOf
  subst e1
  exact ⟨i, rfl, q _ _ A G H μ m Nw.refl (.v _) k⟩
theorem oo_self {i : D} {r : R2} (h : OO K S r i i μ C) : OO K S r i i μ C := h
/-! list.count of flat values; sorted ints -/
def cntV (y : V) (ys : List V) : Nat := ys.countP fun z => eqV z y
def rCntF (K : PySem.W.Frag) : V → List V → Hp → VK → Prop := fun x xs H Q => ∃ (p : Addr) (ys : List V) (y : V), x = .ref p ∧ xs = [y] ∧ SqL K H p ys ∧ flatV y = true ∧ ys.all flatV = true ∧ Q (.int (cntV y ys : Nat)) H
theorem cnt_vals {y : V} : ∀ {ys : List V} {us : List Value}, Vals ys us → ys.all flatV = true → us.countP (eqU y) = cntV y ys
  | _, _, .nil, _ => rfl
  | z :: ys, u :: us, .cons r t, f => by
    rw [List.all_cons, Bool.and_eq_true] at f
    unfold cntV
    rw [List.countP_cons, List.countP_cons, eqU_of r f.1, cnt_vals t f.2]
    rfl
theorem mt_cntF {X : Cx} : MtR X "list.count" (rCntF X.K) := by
  intro pins s σ H x xs v us Q I rx rxs h
  obtain ⟨p, ys, y, rfl, rfl, hs, fy, fys, q⟩ := h
  cases rx
  obtain ⟨u, rfl, ru⟩ := rxs.one
  obtain ⟨its, rv, ⟨⟨cls, dd, data, sl⟩, n, ho, hc, hdn, hd⟩, hlen⟩ := I.list hs
  simp only at hc hd
  subst hc hd
  refine call_meets PySem.F.slot_list_count ⟨_, ho, rfl⟩ PySem.F.entry_list_count (PySem.F.args_list_count_2 _ _)
    (SeqAt.list_countAt p its.toArray n dd sl u (eqU y)) ⟨ho, fun u' hu' => mem_eqAt ru fy rv fys u' (by simpa using hu'), ?_⟩
  refine ⟨.int (cntV y ys : Nat), H, I.tok _, ⟨s.toks, ?_⟩, q⟩
  show Value.int ((its.toArray.toList.countP (eqU y) : Nat) : Int) s.toks = Value.int ((cntV y ys : Nat) : Int) s.toks
  rw [show its.toArray.toList.countP (eqU y) = cntV y ys from cnt_vals rv fys]
theorem lst_vals {A : List Addr} {G H : Hp} {d : D} {ys : List V} {x : V} (h : LstD μ d (ys.map .v)) (m : Mem K S A G H μ) (r : Rp K A G d x) : ∃ a, x = .ref a ∧ SqL K H a ys := by
  obtain ⟨a, xs, e, hs, rl⟩ := h.at' m r
  have e2 := RpL.of_vals rl
  subst e2
  exact ⟨a, e, hs⟩
theorem mm_count {d : D} {ys : List V} {y : V} (h : LstD μ d (ys.map .v)) (fy : flatV y = true) (fys : ys.all flatV = true) (c : C (.int (cntV y ys : Nat)) μ) : MM K S (rCntF K) d [.v y] μ C := fun A G H u vs m r1 r2 Q q => by
  cases r2 with
  | cons ry rn =>
    cases rn
    have e2 := ry.vOf
    subst e2
    obtain ⟨a, e, hs⟩ := lst_vals h m r1
    subst e
    exact ⟨a, ys, _, rfl, rfl, hs, fy, fys, q _ _ A G H μ m Nw.refl (.v _) c⟩
theorem mm_index {d : D} {ys : List V} {y z : V} {j : Nat} (h : LstD μ d (ys.map .v)) (fy : flatV y = true) (fys : ys.all flatV = true) (hj : ys[j]? = some z) (e : eqV z y = true) (hn : ∀ (m : Nat) (z' : V), m < j → ys[m]? = some z' → eqV z' y = false)
    (c : C (.int (j : Nat)) μ) : MM K S (rIndex K) d [.v y] μ C := fun A G H u vs m r1 r2 Q q => by
  cases r2 with
  | cons ry rn =>
    cases rn
    have e2 := ry.vOf
    subst e2
    obtain ⟨a, e0, hs⟩ := lst_vals h m r1
    subst e0
    exact ⟨a, ys, _, j, z, rfl, rfl, hs, fy, fys, hj, e, hn, q _ _ A G H μ m Nw.refl (.v _) c⟩
theorem cc_sorted {d : D} {ns : List Int} (h : LstD μ d (ns.map D.int)) (c : ∀ ns' : List Int, ns'.Perm ns → ns'.Pairwise (· ≤ ·) → C (.lst (ns'.map D.int)) μ) : CC K S (rSortedI K) [d] μ C := fun A G H vs m r1 Q q => by
  cases r1 with
  | cons r1 rn =>
    cases rn
    obtain ⟨a, xs, e, hs, r⟩ := h.at' m r1
    subst e
    have e2 := ints_rel r
    subst e2
    refine ⟨a, ns, rfl, hs, fun ns' p hp hs hn => ?_⟩
    have e3 : ns'.map D.int = (ns'.map V.int).map D.v := by rw [List.map_map]; rfl
    exact put_lst m hn (by rw [e3]; exact RpL.vals _) q (c ns' hp hs)
theorem ee_czP {T : Type} {tk : TA} {E : XK} {arg : T → List D} {pre : T → Prop} {post : T → D → Prop} {π : List Nat} {n : Nat}
    (h : EA K S tk δ μ fun ds μ1 => ds.length = n ∧ ∃ t : T, pre t ∧ permL π ds = arg t ∧ D.ltL 0 (arg t) = true ∧ ∀ d, post t d → C d μ1) : EE K S (tCallP (ProP K arg pre post (fun _ _ _ => False)) π n E tk) δ μ C :=
  ee_callP (CE := fun _ _ _ => False) Wi.none fun A G H σ a Q q => h A G H σ a Q fun vs ds A1 G1 H1 μ1 m n r ⟨hl, t, hp, e, hn, hc⟩ => q vs ds A1 G1 H1 μ1 m n r ⟨hl, t, hp, e, hn, fun d hd _ => hc d hd, fun _ _ z _ => z⟩
end
end PA

set_option Elab.async false
set_option linter.all false
set_option maxRecDepth 100000
set_option maxHeartbeats 2000000
/-! PbMore: defaults, lists taken apart, plain data by their kinds. -/
namespace PA
open PySem L2
/-- a def that is called with its last parameters left to their defaults -/
structure CalD (P : Program) (w : World) (K : PySem.W.Frag) (mg : Str → Option Value) (base : Heap) (k : Nat) (x : Str) (ps : List Str) (dds : List V) (sp : Sp) : Prop where
  ex : ∃ (f : Addr) (fd : FuncData) (ds : List Value), FnOk P w K mg base (L2.CX P w) k f fd ps sp ∧ mg x = some (.ref f) ∧ PySem.W.keepIn K (.ref f) = true ∧ Vals dds ds ∧ Binds K fd ps ds
section
variable {X : Cx} {k j : Nat} {x : Str} {ps : List Str} {dds : List V} {sp : Sp} {E : XK} {p pos : Pos} {e : Expr} {es : List Expr} {t : TA}
theorem pe_cD (c : CalD X.prog X.w X.K X.mg X.base k x ps dds sp) (hr : Room j X.A) (hj : k ≤ j) (hg : Gl X x) (hx : Passes (L2.CX X.prog X.w) X E) (ha : PA X (e :: es) t) (hdb : (x == ("__debug__" : Str)) = false := by decide)
    (he : starEach (e :: es) X.env = (false, eval e X.env) :: starEach es X.env := by rfl) (hpl : (backTo pos (starEach es X.env)).any (·.1) = false := by rfl) : PE X (.Call (.Name x p) (e :: es) [] pos) (tCall sp dds E t) := by
  obtain ⟨f, fd, ds, F, hm, hk, hv, hb⟩ := c.ex
  exact pe_call F (hr.mono hj) hg hm hk hb hv hx ha hdb he hpl
end
section
variable {K : PySem.W.Frag} {S : Bs} {δ : Sl} {μ : List Cell} {ta tb te : TE} {C : D → List Cell → Prop}
theorem ee_czD {T : Type} {ta : TA} {E : XK} {arg : T → List D} {pre : T → Prop} {post : T → D → Prop} {dds : List V}
    (h : EA K S ta δ μ fun ds μ1 => ∃ t : T, pre t ∧ ds ++ dds.map D.v = arg t ∧ D.ltL 0 ds = true ∧ ∀ d, post t d → C d μ1) : EE K S (tCall (ProP K arg pre post (fun _ _ _ => False)) dds E ta) δ μ C :=
  ee_c0 (CE := fun _ _ _ => False) Wi.none fun A G H σ a Q q => h A G H σ a Q fun vs ds A1 G1 H1 μ1 m n r ⟨t, hp, e, hn, hc⟩ => q vs ds A1 G1 H1 μ1 m n r ⟨t, hp, e, hn, fun d hd _ => hc d hd, fun _ _ z _ => z⟩
theorem ge_list2 {i j : Nat} {x y : D} {C : Sl → List Cell → Prop} (k : C ((δ.set i (some x)).set j (some y)) μ) : GE K S (gLst K 2 (gCons (gName i) (gCons (gName j) gNil))) (.lst [x, y]) δ μ C := fun A G H σ v a r Q q => by
  cases r with
  | lst hs rl =>
    cases rl with
    | cons rx r =>
      cases r with
      | cons ry r =>
        cases r
        exact ⟨_, _, rfl, lst_sq (a.m.ex _ _ hs), rfl, _, _, rfl, _, _, rfl, rfl, q A G H _ _ μ ⟨a.m, En.set ry j (En.set rx i a.env)⟩ Nw.refl k⟩
end
/-- all([.. for k in d]), d an empty dict of ours -/
theorem ee_lockAll0 {i : Nat} {g : TG} {t : TT} {te : TE} {vs : List Nat} {K : PySem.W.Frag} {S : Bs} {δ : Sl} {μ : List Cell} {C : D → List Cell → Prop} (h : δ[i]? = some (some (.dic [] []))) (c : C (.bl true) μ) :
    EE K S (tLockE (tCB (rAll K) (tCons (tLc (iKeys (tVar i)) g t te vs) tNil))) δ μ C := fun A G H σ a Q q => by
  obtain ⟨v, h1, h2⟩ := a.env.get h
  cases h2 with
  | @dic _ _ d xs hl hd r =>
    cases r
    have hH := a.m.ex _ _ hd
    refine ⟨d, _, hH, trivial, fun od => ?_⟩
    refine ⟨_, h1, d, od, rfl, .inl ⟨_, upd_same, fun p hp => ?_⟩⟩
    have npd : d ≠ p := fun e => by
      subst e
      rw [upd_same] at hp
      cases hp
    refine ⟨fun i n H' => i = 0 ∧ H' = upd (upd H d (.frz od (.dK []))) p (.lst []), ⟨0, rfl, rfl⟩, ?_⟩
    rintro i n H' ⟨rfl, rfl⟩
    refine .inl ⟨⟨by rw [upd_ne npd, upd_same]; rfl, Nat.zero_le _⟩, ?_⟩
    refine ⟨p, [], rfl, lst_sq upd_same, by rw [upd_ne npd, upd_same]; rfl, ?_⟩
    have e : upd (upd (upd H d (.frz od (.dK []))) p (.lst [])) d (.dK []) = upd H p (.lst []) := by
      funext b
      by_cases e1 : b = d
      · subst e1
        rw [upd_same, upd_ne npd]
        exact hH.symm
      · rw [upd_ne e1]
        by_cases e2 : b = p
        · subst e2
          rw [upd_same, upd_same]
        · rw [upd_ne e2, upd_ne e1, upd_ne e2]
    have hpH : H p = none := by
      rw [upd_ne npd.symm] at hp
      exact hp
    show Q _ (upd (upd (upd H d (.frz od (.dK []))) p (.lst [])) d (.dK []))
    rw [e]
    exact q _ _ A _ _ μ (a.m.laid (o := .lst []) hpH) (.of (Ex.new (a.m.ex.free hpH))) (.v _) c
def CPowW (i j : Int) : Prop := 0 ≤ j ∧ (Builtin.Int.intBits i : Int) * j ≤ 2 ^ 27
theorem op_powW {X : Cx} : OpR X (binaryOp .Pow) (rI CPowW fun i j => .int (i ^ j.toNat)) := opI fun _ _ _ _ _ _ _ hc q => PyProof.Rows.pow_int hc.1 hc.2 q
theorem oo_powW {K : PySem.W.Frag} {S : Bs} {μ : List Cell} {C : D → List Cell → Prop} {i j : Int} (h : CPowW i j) (k : C (.int (i ^ j.toNat)) μ) : OO K S (rI CPowW fun i j => .int (i ^ j.toNat)) (.int i) (.int j) μ C := oo_I (g := fun i j => .int (i ^ j.toNat)) h k
theorem cut_map {α : Type} (f : α → D) (l : List α) (lo hi : Option Int) : cutD (l.map f) lo hi = ((l.drop (HT.sIx l.length 0 lo)).take (HT.sIx l.length l.length hi - HT.sIx l.length 0 lo)).map f := by
  unfold cutD
  rw [List.length_map, ← List.map_drop, ← List.map_take]
section
variable {K : PySem.W.Frag} {S : Bs} {δ : Sl} {μ : List Cell} {tl te : TE} {wi : TI} {g : TG} {t : TT} {C : D → List Cell → Prop}
/-- an open list is walked: it stands as it is meanwhile -/
theorem ie_own {C : List D → (List Cell → Prop) → List Cell → Prop} (h : EE K S tl δ μ fun d μ1 => ∃ k l, d = .own k ∧ μ1[k]? = some (.lst l) ∧ C l (fun μ' => μ'[k]? = some (.lst l)) μ1) : IE K S (iList K tl) δ μ C := fun A G H σ a R q =>
  h A G H σ a _ fun v d A1 G1 H1 μ1 m1 n1 r1 ⟨k, l, e, hk, c⟩ => by
    subst e
    cases r1 with
    | @own _ b hA =>
      obtain ⟨g0, xs0, hx0, r0⟩ := m1.cel k b _ hA hk
      refine ⟨b, rfl, ⟨xs0, lst_sq hx0⟩, q (Itl K b) l _ A1 G1 H1 μ1 m1 n1 (fun i A2 G2 H2 μ2 m2 n2 hP => ?_) c⟩
      have hA2 : A2[k]? = some b := by
        cases (n2.rp (.own hA : Rp K A1 G1 (.own k) (.ref b))) with
        | own h => exact h
      obtain ⟨g2, xs, hx, r⟩ := m2.cel k b _ hA2 hP
      have hs : SqL K H2 b xs := lst_sq hx
      refine ⟨fun d hd => ?_, fun e => ⟨xs, hs, by rw [e, r.len]; exact Nat.le_refl _⟩⟩
      obtain ⟨x, hx2, rx⟩ := r.get hd
      refine ⟨⟨xs, x, hs, hx2⟩, fun y H' ⟨e, hy⟩ => ?_⟩
      subst e
      have z := hy xs hs
      rw [hx2] at z
      cases z
      exact ⟨G2, m2, Ex.refl _, rx⟩
/-- [e for .. in .. if ..], the list kept open: its place among the open lists is n -/
theorem ee_lcO {vs : List Nat} (h : IE K S wi δ μ fun l P μ1 => ∃ I : Nat → List Cell → Prop, (∀ i μ', I i μ' → P μ') ∧ I 0 (μ1 ++ [.lst []]) ∧
      (∀ (i : Nat) x μ', l[i]? = some x → I i μ' → GW K S g vs x (wipeS δ vs) μ' fun δ2 μ2 => ET K S t δ2 μ2 fun b μ3 =>
        (b = true → EE K S te δ2 μ3 fun d μ4 => ∃ acc, μ4[μ1.length]? = some (.lst acc) ∧ acc.length < 10000000 ∧ I (i + 1) (μ4.set μ1.length (.lst (acc ++ [d])))) ∧ (b = false → I (i + 1) μ3)) ∧
      ∀ μ', I l.length μ' → C (.own μ1.length) μ') : EE K S (tLc wi g t te vs) δ μ C := fun A G H σ a Q q =>
  h A G H σ a _ fun J l P A1 G1 H1 μ1 m1 n1 gv ⟨I, ip, i0, it, ie⟩ => by
    intro p hp
    have hlen0 : A1.length = μ1.length := m1.len
    refine ⟨fun i n H' => n = l.length - i ∧ i ≤ l.length ∧ ∃ (A2 : List Addr) (G2 : Hp) (μ2 : List Cell), Mem K S A2 G2 H' μ2 ∧ Nw (A1 ++ [p]) G1 A2 G2 ∧ I i μ2, ⟨l.length, by omega, Nat.zero_le _, A1 ++ [p], G1, μ1 ++ [.lst []], m1.opened hp .nil, Nw.refl, i0⟩, ?_⟩
    rintro i n H' ⟨hn, hi, A2, G2, μ2, m2, n2, w⟩
    have n12 : Nw A1 G1 A2 G2 := Nw.trans ⟨⟨[p], rfl⟩, Ex.refl _⟩ n2
    have hp2 : ∀ {A3 : List Addr} {G3 : Hp}, Nw A2 G2 A3 G3 → A3[A1.length]? = some p := fun {A3 G3} n3 => by
      obtain ⟨⟨B, hB⟩, _⟩ := n2.trans n3
      rw [hB, List.append_assoc, List.getElem?_append_right (Nat.le_refl _), Nat.sub_self]
      rfl
    obtain ⟨g1, g2⟩ := gv i _ G2 H' _ m2 n12 (ip i μ2 w)
    by_cases hlt : i < l.length
    · obtain ⟨x, hx⟩ : ∃ x, l[i]? = some x := ⟨l[i], by simp [hlt]⟩
      obtain ⟨go, yl⟩ := g1 x hx
      refine .inr ⟨go, fun H3 => ∃ (A3 : List Addr) (G3 : Hp) (μ3 : List Cell), Mem K S A3 G3 H3 μ3 ∧ Nw (A1 ++ [p]) G1 A3 G3 ∧ I (i + 1) μ3, fun H3 w3 => ⟨l.length - (i + 1), by omega, rfl, hlt, w3⟩, fun y H3 hy => ?_⟩
      obtain ⟨G3, m3, e3, r3⟩ := yl y H3 hy
      have n3 : Nw A2 G2 A2 G3 := .of e3
      have en3 := ((n1.trans n12).trans n3).wipeE a.env vs
      refine it i x μ2 hx w A2 G3 H3 _ y ⟨m3, en3⟩ r3 _ fun A4 G4 H4 σ4 δ4 μ4 a4 n4 hw c => ?_
      refine ⟨by rw [hw, wipe_twice], ?_⟩
      refine c A4 G4 H4 σ4 a4 _ fun b A5 G5 H5 μ5 m5 n5 ⟨ht, hf⟩ => ?_
      cases b with
      | true =>
        rw [if_pos rfl]
        refine ht rfl A5 G5 H5 σ4 ⟨m5, n5.en a4.env⟩ _ fun v d A6 G6 H6 μ6 m6 n6 r6 ⟨acc, hacc, hz, w7⟩ => ?_
        have n26 := ((n3.trans n4).trans n5).trans n6
        have hA := hp2 n26
        rw [← hlen0] at hacc w7
        obtain ⟨gp, xs, hxs, rx⟩ := m6.cel A1.length p _ hA hacc
        exact ⟨xs, hxs, smalr (by rw [← rx.len]; exact hz), A6, G6, _, m6.wrote hA hacc (rx.append (.cons r6 .nil)), n2.trans n26, w7⟩
      | false =>
        rw [if_neg Bool.false_ne_true]
        exact ⟨A5, G5, μ5, m5, n2.trans ((n3.trans n4).trans n5), hf rfl⟩
    · have e : i = l.length := by omega
      refine .inl ⟨g2 e, ?_⟩
      have hA := hp2 Nw.refl
      refine q (.ref p) (.own μ1.length) A2 G2 H' μ2 m2 (n1.trans n12) (.own ?_) (ie μ2 (by rw [← e]; exact w))
      rw [← hlen0]
      exact hA
/-- .. whose elements change nothing -/
theorem ee_lcN {vs : List Nat} (h : IE K S wi δ μ fun l P μ1 => (∀ c, P μ1 → P (μ1 ++ [c])) ∧ P μ1 ∧ ∃ (f : D → Bool) (e : D → D), l.length ≤ 10000000 ∧
      (∀ x acc, x ∈ l → GW K S g vs x (wipeS δ vs) (μ1 ++ [.lst acc]) fun δ2 μ2 => ET K S t δ2 μ2 fun b μ3 => b = f x ∧ μ3 = μ1 ++ [.lst acc] ∧ (b = true → EE K S te δ2 μ3 fun d μ4 => d = e x ∧ μ4 = μ1 ++ [.lst acc])) ∧
      C (.own μ1.length) (μ1 ++ [.lst ((l.filter f).map e)])) : EE K S (tLc wi g t te vs) δ μ C := by
  refine ee_lcO fun A G H σ a R q => h A G H σ a R fun J l P A1 G1 H1 μ1 m1 n1 gv ⟨hP, hP1, f, e, hl, ht, c⟩ => q J l P A1 G1 H1 μ1 m1 n1 gv ?_
  refine ⟨fun i μ' => i ≤ l.length ∧ μ' = μ1 ++ [.lst (((l.take i).filter f).map e)], fun i μ' w => by rw [w.2]; exact hP _ hP1, ⟨Nat.zero_le _, by simp⟩, fun i x μ' hx w => ?_, fun μ' w => ?_⟩
  · obtain ⟨hi, rfl⟩ := w
    have hm : x ∈ l := List.mem_of_getElem? hx
    have hil := (List.getElem?_eq_some_iff.mp hx).1
    have ht1 : l.take (i + 1) = l.take i ++ [x] := by
      rw [List.take_succ, hx]
      rfl
    have hlen : (((l.take i).filter f).map e).length < 10000000 := by
      rw [List.length_map]
      have h1 := List.length_filter_le f (l.take i)
      rw [List.length_take] at h1
      omega
    intro A2 G2 H2 σ2 v2 a2 r2 Q2 q2
    refine ht x _ hm A2 G2 H2 σ2 v2 a2 r2 Q2 fun A3 G3 H3 σ3 δ3 μ3 a3 n3 hw c3 => q2 A3 G3 H3 σ3 δ3 μ3 a3 n3 hw ?_
    intro A4 G4 H4 σ4 a4 Q4 q4
    refine c3 A4 G4 H4 σ4 a4 Q4 fun b A5 G5 H5 μ5 m5 n5 ⟨eb, em, c5⟩ => q4 b A5 G5 H5 μ5 m5 n5 ⟨fun hb => ?_, fun hb => ?_⟩
    · refine (c5 hb).imp fun d μ6 ⟨ed, e6⟩ => ⟨_, by rw [e6, List.getElem?_append_right (Nat.le_refl _), Nat.sub_self]; rfl, hlen, hil, ?_⟩
      rw [e6, List.set_append_right _ _ (Nat.le_refl _), Nat.sub_self, ht1, List.filter_append, List.map_append, List.filter_cons, if_pos (by rw [← eb]; exact hb), ed]
      rfl
    · refine ⟨hil, ?_⟩
      rw [em, ht1, List.filter_append, List.map_append, List.filter_cons, if_neg (by rw [← eb, hb]; exact Bool.false_ne_true)]
      simp
  · obtain ⟨_, rfl⟩ := w
    rw [List.take_length]
    exact c
end
/-! plain data by kind -/
theorem is_str {d : D} (h : d.pl = true) (e : d.is "str" = true) : ∃ s, d = .str s := by
  cases d with
  | v x => cases x <;> first | exact ⟨_, rfl⟩ | (revert e; simp [D.is, D.ty]; done) | (cases h; done)
  | lst l => revert e; simp [D.is, D.ty]
  | rd l => cases h
  | tup l => revert e; simp [D.is, D.ty]
  | dic ks l => revert e; simp [D.is, D.ty]
  | exc c d => cases h
  | own k => cases h
theorem is_tup {d : D} (h : d.pl = true) (e : d.is "tuple" = true) : ∃ l, d = .tup l := by
  cases d with
  | v x => cases x <;> first | (revert e; simp [D.is, D.ty]; done) | (cases h; done)
  | lst l => revert e; simp [D.is, D.ty]
  | rd l => cases h
  | tup l => exact ⟨_, rfl⟩
  | dic ks l => revert e; simp [D.is, D.ty]
  | exc c d => cases h
  | own k => cases h
theorem is_lst {d : D} (h : d.pl = true) (e : d.is "list" = true) : ∃ l, d = .lst l := by
  cases d with
  | v x => cases x <;> first | (revert e; simp [D.is, D.ty]; done) | (cases h; done)
  | lst l => exact ⟨_, rfl⟩
  | rd l => cases h
  | tup l => revert e; simp [D.is, D.ty]
  | dic ks l => revert e; simp [D.is, D.ty]
  | exc c d => cases h
  | own k => cases h
/-- a whole number, no truth -/
def isWh : D → Bool
  | .v (.int _) => true
  | _ => false
theorem is_wh {d : D} (h : d.pl = true) : (d.is "int" && !d.is "bool") = isWh d := by
  cases d with
  | v x => cases x <;> first | (simp [D.is, D.ty, isWh]; done) | (cases h; done)
  | lst l => simp [D.is, D.ty, isWh]
  | rd l => cases h
  | tup l => simp [D.is, D.ty, isWh]
  | dic ks l => simp [D.is, D.ty, isWh]
  | exc c d => cases h
  | own k => cases h
theorem wh_int {d : D} (h : isWh d = true) : ∃ i, d = .int i := by
  cases d with
  | v x => cases x <;> first | exact ⟨_, rfl⟩ | (cases h; done)
  | lst l => cases h
  | rd l => cases h
  | tup l => cases h
  | dic ks l => cases h
  | exc c d => cases h
  | own k => cases h
theorem se_to {K : PySem.W.Frag} {S : Bs} {ts : TS} {δ : Sl} {μ : List Cell} {E : Cn} (J : Sl → List Cell → Prop) (h1 : SE K S ts δ μ { E with nx := J }) (h2 : ∀ d m, J d m → E.nx d m) : SE K S ts δ μ E := h1.imp h2 (fun _ _ h => h) (fun _ _ h => h) fun _ _ h => h
theorem ee_dnew {K : PySem.W.Frag} {S : Bs} {δ : Sl} {μ : List Cell} {C : D → List Cell → Prop} (k : C (.dic [] []) μ) : EE K S tDNewK δ μ C := fun A G H σ a Q q p hp => by
  have e := Ex.new (o := .dK []) (a.m.ex.free hp)
  exact q _ _ A _ _ μ (a.m.laid hp) (.of e) (.dic (xs := []) rfl upd_same .nil) k
/-- a truth that is told by P -/
theorem ee_val {K : PySem.W.Frag} {S : Bs} {te : TE} {δ : Sl} {μ : List Cell} {C : D → List Cell → Prop} (P : Prop) (h : EE K S te δ μ fun y μ2 => μ2 = μ ∧ ∃ b : Bool, y = .bl b ∧ (b = true ↔ P)) (k : ∀ b : Bool, (b = true ↔ P) → C (.bl b) μ) : EE K S te δ μ C :=
  h.imp fun y μ2 ⟨e, b, e2, hb⟩ => by
    subst e e2
    exact k b hb
theorem et_val {K : PySem.W.Frag} {S : Bs} {t : TT} {δ : Sl} {μ : List Cell} {C : Bool → List Cell → Prop} (P : Prop) (h : ET K S t δ μ fun b μ2 => μ2 = μ ∧ (b = true ↔ P)) (k : ∀ b : Bool, (b = true ↔ P) → C b μ) : ET K S t δ μ C := fun A G H σ a Q q =>
  h A G H σ a Q fun b A1 G1 H1 μ1 m1 n1 ⟨e, hb⟩ => q b A1 G1 H1 μ1 m1 n1 (by subst e; exact k b hb)
/-! the same rules with the written part named by itself (within a comprehension it must not hang on the context) -/
section
variable {X : Cx} (K : PySem.W.Frag)
theorem kO (r : PySem.W.Frag → R2) {o : Value → Value → Sem Value} (h : X.K = K) (p : OpR X o (r X.K)) : OpR X o (r K) := h ▸ p
theorem kC (r : PySem.W.Frag → List V → Hp → VK → Prop) {v : Value} (h : X.K = K) (p : CallR X v (r X.K)) : CallR X v (r K) := h ▸ p
theorem kX (r : PySem.W.Frag → R2) (h : X.K = K) (p : IxR X (r X.K)) : IxR X (r K) := h ▸ p
theorem kS (r : PySem.W.Frag → V → Option Int → Option Int → Hp → VK → Prop) (h : X.K = K) (p : SlR X (r X.K)) : SlR X (r K) := h ▸ p
theorem kM (r : PySem.W.Frag → V → List V → Hp → VK → Prop) {id : String} (h : X.K = K) (p : MtR X id (r X.K)) : MtR X id (r K) := h ▸ p
end
section
variable {X : Cx} {K : PySem.W.Frag} {te to : TE} {e o : Expr} {es : List Expr} {t ta : TA} {tg : Expr}
theorem pe_bmK {T name id : String} {r : V → List V → Hp → VK → Prop} {apos cpos : Pos} (h : X.K = K) (pa : PlainAttrs T) (slot : Slot T name id) (hty : typeOf (.builtin id) = pure (.type "method_descriptor")) (hm : MtR X id r) (ho : PE X o to) (ha : PA X (e :: es) t)
    (hbase : attributeBase o name X.env (eval o X.env) = eval o X.env := by rfl)
    (hfew : ((backTo cpos (starEach (e :: es) X.env)).all (fun x => !x.1) && (backToKw cpos (keywordEach [] X.env)).all (fun x => x.1.isSome)
      && decide ((e :: es).length + ([] : List Keyword).length + (if ([] : List Keyword).isEmpty then 0 else 1) < 30)) = true := by rfl)
    (hline : (apos.endLine == cpos.line) = true := by rfl) (hs : starEach (e :: es) X.env = (false, eval e X.env) :: starEach es X.env := by rfl) (hplain : (backTo cpos (starEach es X.env)).any (·.1) = false := by rfl) :
    PE X (.Call (.Attribute o name apos) (e :: es) [] cpos) (tBM K T r to t) := h ▸ pe_bm pa slot hty hm ho ha hbase hfew hline hs hplain
theorem pe_revLK {k : Nat} {p1 p2 p3 pos : Pos} (h : X.K = K) (he : PE X e te) : PE X (.Subscript e (.Slice none none (some (.UnaryOp .USub (.Constant (.int 1) k p1) p2)) p3) pos) (tRevL K te) := h ▸ pe_revL he
theorem pe_errVK {pos : Pos} (h : X.K = K) (he : PE X e te) (hb : attributeBase e "value" X.env (eval e X.env) = eval e X.env := by rfl) : PE X (.Attribute e "value" pos) (tErrV K te) := h ▸ pe_errV he hb
theorem pe_joinK {apos pos : Pos} (h : X.K = K) (ho : PE X o to) (he : PE X e te) (hs : starEach [e] X.env = [(false, eval e X.env)] := by rfl) (hbase : attributeBase o "join" X.env (eval o X.env) = eval o X.env := by rfl) (hline : (apos.endLine == pos.line) = true := by rfl) :
    PE X (.Call (.Attribute o "join" apos) [e] [] pos) (tM1 (rJoin K) to te) := h ▸ pe_join ho he hs hbase hline
theorem pi_listK (h : X.K = K) (hl : PE X e te) : PI X tg e (iList K te) := h ▸ pi_list hl
theorem pi_tupK (h : X.K = K) (hl : PE X e te) : PI X tg e (iTup K te) := h ▸ pi_tup hl
theorem pi_revK {p pos : Pos} (h : X.K = K) (hg : Gl X "reversed") (hm : X.mg "reversed" = none) (ha : PA X [e] ta) (hs : starEach [e] X.env = [(false, eval e X.env)] := by rfl) : PI X tg (.Call (.Name "reversed" p) [e] [] pos) (iRev K ta) := h ▸ pi_reversed hg hm ha hs
theorem pi_enumK {p pos tpos : Pos} {elts : List Expr} {kk : Nat} (h : X.K = K) (hg : Gl X "enumerate") (hm : X.mg "enumerate" = none) (ha : PA X [e] ta) (hs : starEach [e] X.env = [(false, eval e X.env)] := by rfl) :
    PI X (.Tuple elts kk tpos) (.Call (.Name "enumerate" p) [e] [] pos) (iEnum K ta) := h ▸ pi_enum hg hm ha hs
theorem pi_zipAK {e2 : Expr} {p pos tpos : Pos} {elts : List Expr} {kk : Nat} (h : X.K = K) (hg : Gl X "zip") (hm : X.mg "zip" = none) (ha : PA X [e, e2] ta)
    (hs : starEach [e, e2] X.env = (false, eval e X.env) :: starEach [e2] X.env := by rfl) (hpl : (backTo pos (starEach [e2] X.env)).any (·.1) = false := by rfl) :
    PI X (.Tuple elts kk tpos) (.Call (.Name "zip" p) [e, e2] [] pos) (RZ.iZipA K ta) := h ▸ RZ.pi_zipA hg hm ha hs hpl
theorem pg_tupK {es : List Expr} {k : Nat} {ts : TGs} {n : Nat} {pos : Pos} (h : X.K = K) (hc : X.calm = true) (hp : PGs X es ts)
    (hn : (assignEach es X.env).length = n := by rfl) (hst : (assignEach es X.env).findIdx? (·.1) = none := by rfl) : PG X (.Tuple es k pos) (gTup K n ts) := h ▸ pg_tup hc hp hn hst
theorem pg_lstK {es : List Expr} {k : Nat} {ts : TGs} {n : Nat} {pos : Pos} (h : X.K = K) (hc : X.calm = true) (hp : PGs X es ts)
    (hn : (assignEach es X.env).length = n := by rfl) (hst : (assignEach es X.env).findIdx? (·.1) = none := by rfl) : PG X (.Tuple es k pos) (gLst K n ts) := h ▸ pg_lst hc hp hn hst
end
/-- a tuple of flat values that the text has written -/
def TupK (K : PySem.W.Frag) (a : Addr) (xs : List V) : Prop := ∃ (o : Obj) (its : Array Value) (n : Nat), K.lookup a = some o ∧ o.cls = .type "tuple" ∧ o.data = .seq its n ∧ its.size ≤ sizeLine ∧ Vals xs its.toList
theorem ee_cT {K : PySem.W.Frag} {S : Bs} {δ : Sl} {μ : List Cell} {C : D → List Cell → Prop} {a : Addr} {xs : List V} (h : TupK K a xs) (k : C (.tup (xs.map D.v)) μ) : EE K S (tC (.ref a)) δ μ C := fun A G H σ at' Q q => q _ (.tup (xs.map D.v)) A G H μ at'.m Nw.refl (.tup (.inr h) (RpL.vals xs)) k
theorem oo_ixK {K : PySem.W.Frag} {S : Bs} {μ : List Cell} {C : D → List Cell → Prop} {a : Addr} {xs : List V} {i : Int} {x : V} (h : TupK K a xs) (hi : atI xs i = some x) (k : C (.v x) μ) : OO K S (rIx K) (.v (.ref a)) (.int i) μ C := fun A G H u w m r1 r2 Q q => by
  have e1 := r1.vOf
  have e2 := r2.vOf
  subst e1 e2
  exact .inr (.inl ⟨_, xs, i, x, rfl, rfl, .inr h, hi, q _ _ A G H μ m Nw.refl (.v _) k⟩)
/-! an argument that is closed data, or the one open list; what it is seen as -/
inductive Arg : D → List Cell → D → Prop
  | cl {d : D} : d.lt 0 = true → Arg d [] d
  | own {l : List D} : D.ltL 0 l = true → Arg (.own 0) [.lst l] (.lst l)
theorem cc_isO {K : PySem.W.Frag} {S : Bs} {μ : List Cell} {C : D → List Cell → Prop} {k : Nat} {l : List D} {n : String} (hc : μ[k]? = some (.lst l)) (hn : isTy n = true) (c : C (.bl ("list" == n)) μ) : CC K S (rIsiU K) [.own k, .v (.ty n)] μ C := fun A G H vs m r1 Q q => by
  cases r1 with
  | cons r1 rn =>
    cases rn with
    | cons r2 rn =>
      cases rn
      have e2 := r2.vOf
      subst e2
      have hk : kitB "list" n = some ("list" == n) := by
        have z := pl_kit (d := .lst []) rfl hn
        rw [show D.ty (.lst []) = "list" from rfl] at z
        rw [z]
        show some ("list" == n || (n == "int" && "list" == "bool")) = _
        simp
      exact .inl ⟨_, _, _, _, _, rfl, .ty n, r1.tyX m (by show "list" ≠ ""; decide) (fun j e => by cases e; exact ⟨l, hc⟩), kit_ty hk, q _ _ A G H μ m Nw.refl (.v _) c⟩
/-! ends of defs, in short -/
section
variable {S : Bs} {μ : List Cell} {d : D}
theorem gaveP {post : D → Prop} (hl : S.A.length = 0) (h1 : d.lt 0 = true) (h : post d) : Gave S (fun d μ => μ = [] ∧ post d) d μ := by
  refine gave (by rw [hl]; exact h1) (by rw [hl]; rfl) ⟨by rw [hl]; rfl, h⟩
theorem gave1 {P : D → List Cell → Prop} {l : List D} {ν : List Cell} (hl : S.A.length = 1) (h1 : d.lt 0 = true) (h2 : D.ltL 0 l = true) (h : P d [.lst l]) : Gave S P d (.lst l :: ν) := by
  refine gave (by rw [hl]; exact D.lt_mono (Nat.zero_le _) h1) (by rw [hl]; show (D.ltL 1 l && true) = true; rw [D.ltL_mono (Nat.zero_le _) h2]; rfl) (by rw [hl]; exact h)
theorem gaveN {post : List D → Prop} {k : Nat} {l : List D} (hl : S.A.length = 0) (hk : μ[k]? = some (.lst l)) (h1 : D.ltL 0 l = true) (h : post l) : Gave S (fun d μ => ∃ l, d = .own 0 ∧ μ = [.lst l] ∧ D.ltL 0 l = true ∧ post l) (.own k) μ := by
  refine gave_new (by rw [hl]; exact Nat.zero_le _) hk (by rw [hl]; exact h1) (by rw [hl]; rfl) ⟨l, by rw [hl], by rw [hl]; rfl, h1, h⟩
end
end PA

set_option Elab.async false
set_option linter.all false
set_option maxRecDepth 100000
set_option maxHeartbeats 2000000
/-! PbText: texts as lists of numbers. -/
namespace PA
open PySem L2
def tx (l : List Nat) : Str := ⟨l.toArray⟩
def cp (s : Str) : List Nat := s.cps.toList
theorem cp_tx (l : List Nat) : cp (tx l) = l := rfl
theorem tx_cp (s : Str) : tx (cp s) = s := rfl
theorem cp_inj {s t : Str} (h : cp s = cp t) : s = t := by rw [← tx_cp s, h, tx_cp]
theorem len_cp (s : Str) : s.length = (cp s).length := by
  show s.cps.size = s.cps.toList.length
  simp
theorem cp_app (s t : Str) : cp (s ++ t) = cp s ++ cp t := by
  show (s.cps ++ t.cps).toList = _
  rw [Array.toList_append]
  rfl
theorem app_tx (a b : List Nat) : tx a ++ tx b = tx (a ++ b) := cp_inj (by rw [cp_app]; rfl)
theorem cutS_nn (s : Str) (i j : Nat) : cp (cutS s (some (i : Int)) (some (j : Int))) = ((cp s).drop i).take (j - i) := by
  show ((cp s).drop (HT.sIx s.length 0 (some (i : Int)))).take (HT.sIx s.length s.length (some (j : Int)) - HT.sIx s.length 0 (some (i : Int))) = _
  rw [HT.sIx_nat, HT.sIx_nat, len_cp]
  generalize cp s = l
  by_cases hi : i ≤ l.length
  · rw [Nat.min_eq_left hi]
    by_cases hj : j ≤ l.length
    · rw [Nat.min_eq_left hj]
    · rw [Nat.min_eq_right (by omega), List.take_of_length_le (by rw [List.length_drop]; omega), List.take_of_length_le (by rw [List.length_drop]; omega)]
  · rw [List.drop_of_length_le (by omega : l.length ≤ i), List.drop_of_length_le (by omega), List.take_nil, List.take_nil]
theorem cutS_n0 (s : Str) (i : Nat) : cp (cutS s (some (i : Int)) none) = (cp s).drop i := by
  show ((cp s).drop (HT.sIx s.length 0 (some (i : Int)))).take (s.length - HT.sIx s.length 0 (some (i : Int))) = _
  rw [HT.sIx_nat, len_cp]
  generalize cp s = l
  rw [List.take_of_length_le (by rw [List.length_drop]; omega)]
  by_cases hi : i ≤ l.length
  · rw [Nat.min_eq_left hi]
  · rw [List.drop_of_length_le (by omega : l.length ≤ i), List.drop_of_length_le (by omega)]
theorem cutS_0n (s : Str) (j : Nat) : cp (cutS s none (some (j : Int))) = (cp s).take j := by
  show ((cp s).drop 0).take (HT.sIx s.length s.length (some (j : Int)) - 0) = _
  rw [HT.sIx_nat, len_cp, List.drop_zero, Nat.sub_zero]
  generalize cp s = l
  by_cases hj : j ≤ l.length
  · rw [Nat.min_eq_left hj]
  · rw [List.take_of_length_le (by omega), List.take_of_length_le (by omega)]
theorem join0 (ys : List Str) : cp (Txt.join Str.empty ys) = (ys.map cp).flatten := by
  rw [TL.join_eq]
  induction ys with
  | nil => rfl
  | cons y ys ih =>
    cases ys with
    | nil =>
      show cp y = _
      simp
    | cons z zs =>
      show cp (y ++ Str.empty ++ Str.join Str.empty (z :: zs)) = _
      rw [cp_app, cp_app, ih]
      simp [cp, Str.empty]
theorem fold_app : ∀ (n : Nat) (x acc : Array Nat), ((List.replicate n x).foldl (· ++ ·) acc).toList = acc.toList ++ (List.replicate n x.toList).flatten
  | 0, x, acc => by simp
  | n + 1, x, acc => by
    rw [List.replicate_succ, List.foldl_cons, fold_app n x (acc ++ x), List.replicate_succ, List.flatten_cons, Array.toList_append, List.append_assoc]
theorem cp_mul (s : Str) (n : Nat) : cp (Txt.mul s (n : Int)) = (List.replicate n (cp s)).flatten := by
  unfold Txt.mul
  by_cases h1 : (n : Int) < 1
  · rw [if_pos h1]
    have : n = 0 := by omega
    subst this
    rfl
  · rw [if_neg h1]
    by_cases h2 : ((n : Int) == 1 || s.length == 0) = true
    · rw [if_pos h2]
      rw [Bool.or_eq_true, beq_iff_eq, beq_iff_eq] at h2
      rcases h2 with h2 | h2
      · have : n = 1 := by omega
        subst this
        simp
      · rw [len_cp] at h2
        have e : cp s = [] := List.length_eq_zero_iff.mp h2
        rw [e]
        simp
    · rw [if_neg h2, Int.toNat_natCast]
      show ((List.replicate n s.cps).foldl (· ++ ·) #[]).toList = _
      rw [fold_app]
      rfl
theorem mul_ok {s : Str} {n : Nat} (h1 : n ≤ 1000000) (h2 : s.length * n ≤ 10000000) : MulOk s (n : Int) := by
  refine ⟨?_, fun h3 h4 => ?_, fun h3 h4 => ?_⟩
  · have a : ¬ ((n : Int) < -(2 ^ 63 : Int)) := by omega
    have b : ¬ ((n : Int) ≥ 2 ^ 63) := by omega
    simp only [a, b, decide_false, Bool.or_false]
  · have hn : 0 < n := by omega
    have q : (1000000 : Int) * 1000000 ≤ (2 ^ 63 - 1) / (n : Int) := by
      rw [Int.le_ediv_iff_mul_le (by omega)]
      have : (1000000 : Int) * 1000000 * n ≤ 1000000 * 1000000 * 1000000 := by omega
      omega
    have hs : s.length ≤ 10000000 := by
      have : s.length * 1 ≤ s.length * n := Nat.mul_le_mul_left _ hn
      omega
    omega
  · rw [Int.toNat_natCast]
    have : s.length * n ≤ sizeLine := small h2
    exact decide_eq_false (by omega)
theorem atI_of {α : Type} {l : List α} {i : Int} {j : Nat} {d : α} (h : l[j]? = some d) (e : i = (j : Int)) : atI l i = some d := by
  rw [e]
  exact atI_nat h
theorem str1 {c d : Nat} : (decide ((V.str ⟨#[c]⟩ : V) = .str ⟨#[d]⟩)) = decide (c = d) := by
  refine decide_eq_decide.mpr ⟨fun h => ?_, fun h => by rw [h]⟩
  injection h with h
  injection h with h
  have e : [c] = [d] := congrArg Array.toList h
  injection e
theorem strE {s t : Str} : (decide ((V.str s : V) = .str t)) = decide (cp s = cp t) := by
  refine decide_eq_decide.mpr ⟨fun h => ?_, fun h => by rw [cp_inj h]⟩
  injection h with h
  rw [h]
end PA

set_option Elab.async false
set_option linter.all false
set_option maxRecDepth 100000
set_option maxHeartbeats 2000000
/-! PbEnd: from what the top has written to the walk's words; the law's end. -/
namespace PA
open PySem L2
/-- a def of the top -/
def DefF (K : PySem.W.Frag) (mg : Str → Option Value) (x : Str) (st : Stmt) : Prop := ∃ (f : Addr) (fd : FuncData), Fun K x x st f fd ∧ mg x = some (.ref f) ∧ PySem.W.keepIn K (.ref f) = true
/-- .. with defaults -/
def DefD (K : PySem.W.Frag) (mg : Str → Option Value) (x : Str) (st : Stmt) (dvs : List V) : Prop := ∃ (f : Addr) (fd : FuncData), FunD K x x (defArgs st) (defBody st) (defScope st) dvs [] f fd ∧ mg x = some (.ref f) ∧ PySem.W.keepIn K (.ref f) = true
section
variable {K : PySem.W.Frag} {h : Heap} {mg : Str → Option Value} {x : Str} {st : Stmt} {f : Addr} {oc : Value} {od an : Option Addr} {osl : Array (Option Value)} {kV doc pm cdv ct : Value}
theorem def_mk (X : K.In h) (G : h.Ns mainGlobals mg) (a : PySem.W.nsIn K mainGlobals x = some (some (.ref f))) (l : K.lookup f = some ⟨oc, od, .func (PySem.W.fnOf x x (defArgs st) (defBody st) (defScope st) .none kV doc pm an cdv ct), osl⟩) (c : PySem.W.codeIn K cdv x = true) (k : PySem.W.keepIn K (.ref f) = true) : DefF K mg x st :=
  ⟨f, _, fun_mk l c k, PySem.W.mg_of X G a, k⟩
theorem defD_mk {T : Addr} {oT : Obj} {its : List Value} {n : Nat} {dvs : List V} (X : K.In h) (G : h.Ns mainGlobals mg) (a : PySem.W.nsIn K mainGlobals x = some (some (.ref f))) (l : K.lookup f = some ⟨oc, od, .func (PySem.W.fnOf x x (defArgs st) (defBody st) (defScope st) (.ref T) kV doc pm an cdv ct), osl⟩) (c : PySem.W.codeIn K cdv x = true) (k : PySem.W.keepIn K (.ref f) = true)
    (lT : K.lookup T = some oT) (dT : oT.data = .seq its.toArray n) (rT : Vals dvs its) (hd : dvs ≠ []) : DefD K mg x st dvs :=
  ⟨f, _, ⟨⟨oc, od, _, kV, doc, pm, an, cdv, ct, osl, rfl, l, c, .inr ⟨hd, T, oT, its, n, rfl, lT, dT, rT⟩, .inl rfl⟩, k⟩, PySem.W.mg_of X G a, k⟩
theorem exm_of {S c : Addr} (h1 : PySem.W.subIn K (.ref S) (.type "BaseException") = some true) (h2 : PySem.W.isClsIn K S = true) (h3 : PySem.W.typeIn K (.ref S) = some (.type "type")) (h4 : PySem.W.subIn K (.ref c) (.ref S) = some true) : PySem.W.exmOne K (.ref c) (.ref S) = some true := by
  have e1 : (PySem.W.subIn K (.ref S) (.type "BaseException") == some true) = true := by rw [h1] <;> rfl
  have e2 : ((PySem.W.clsIn K S).isSome && PySem.W.typeIn K (.ref S) == some (.type "type")) = true := by
    have h2' : (PySem.W.clsIn K S).isSome = true := h2
    rw [h2', h3] <;> rfl
  show (if (PySem.W.subIn K (.ref S) (.type "BaseException") == some true) = true then (if ((PySem.W.clsIn K S).isSome && PySem.W.typeIn K (.ref S) == some (.type "type")) = true then PySem.W.subIn K (.ref c) (.ref S) else none) else none) = some true
  rw [if_pos e1, if_pos e2]
  exact h4
theorem kit_ne {S c : Addr} {b : Bool} (ne : (Value.ref c == Value.ref S) = false) (h2 : PySem.W.isClsIn K S = true) (h3 : PySem.W.typeIn K (.ref S) = some (.type "type")) (h4 : PySem.W.subIn K (.ref c) (.ref S) = some b) : PySem.W.kitOne K (.ref c) (.ref S) = some b := by
  have e2 : ((PySem.W.clsIn K S).isSome && PySem.W.typeIn K (.ref S) == some (.type "type")) = true := by
    have h2' : (PySem.W.clsIn K S).isSome = true := h2
    rw [h2', h3] <;> rfl
  show (if (Value.ref c == Value.ref S) = true then some true else (if ((PySem.W.clsIn K S).isSome && PySem.W.typeIn K (.ref S) == some (.type "type")) = true then PySem.W.subIn K (.ref c) (.ref S) else none)) = some b
  rw [ne, if_neg Bool.false_ne_true, if_pos e2]
  exact h4
theorem kit_self {c : Addr} : PySem.W.kitOne K (.ref c) (.ref c) = some true := by
  unfold PySem.W.kitOne
  rw [if_pos (by simp)]
theorem kit_val {c : Addr} (h : PySem.W.subIn K (.ref c) (.type "ValueError") = some true) : PySem.W.kitOne K (.ref c) (.type "ValueError") = some true := by
  have e : PySem.W.kitMeta "ValueError" = true := by decide +kernel
  have ne : (Value.ref c == Value.type "ValueError") = false := by rfl
  show (if (Value.ref c == Value.type "ValueError") = true then some true else (if PySem.W.kitMeta "ValueError" = true then PySem.W.subIn K (.ref c) (.type "ValueError") else none)) = some true
  rw [ne, if_neg Bool.false_ne_true, if_pos e]
  exact h
/-- an own error class with its __init__(self, value=None) -/
theorem err_mk {C T N : Addr} {qual nm q : Str} {bs bm : List Value} {sn : List Str} {sub : List Value} {ab : Bool} {col : Option Bool} {dd : Option Addr} {m0 m1 m2 m3 m5 : Option Value} {oT : Obj} {n : Nat} {q1 q2 q3 q4 : Pos} (aC : PySem.W.nsIn K mainGlobals x = some (some (.ref C)))
    (xL : K.lookup C = some (excClassObj nm q C N bs bm true sn sub ab col dd m0 m1 m2 m3 m5 "ValueError.__new__")) (sa : PySem.W.findIn K (.ref C) "__setattr__" = some (some (.builtin "object.__setattr__")))
    (ga : PySem.W.findIn K (.ref C) "__getattribute__" = some (some (.builtin "BaseException.__getattribute__"))) (gg : PySem.W.findIn K (.ref C) "__getattr__" = some none) (nb : PySem.W.findIn K (.ref C) "value" = some none)
    (a1 : PySem.W.findIn K (.ref C) "__init__" = some (some (.ref f))) (t1 : PySem.W.typeIn K (.ref f) = some (.type "function"))
    (l1 : K.lookup f = some ⟨oc, od, .func (PySem.W.fnOf "__init__" qual (defArgs st) (defBody st) (defScope st) (.ref T) kV doc pm an cdv ct), osl⟩) (c1 : PySem.W.codeIn K cdv qual = true) (k1 : PySem.W.keepIn K (.ref f) = true) (lT : K.lookup T = some oT)
    (kC : PySem.W.keepIn K (.ref C) = true) (eC : PySem.W.subIn K (.ref C) (.type "BaseException") = some true) (tC : PySem.W.typeIn K (.ref C) = some (.type "type")) (hC : PySem.W.hasDictIn K C = true)
    (ha : PySem.W.findIn K (.ref C) "__class__" = some (some (.builtin "object.__class__"))) (hn : PySem.W.specialIn K (.builtin "object.__class__") "__get__" = some (some (.builtin "getset_descriptor.__get__"))) (ht : PySem.W.takesIn K (.builtin "object.__class__") = some true) (hm : PySem.W.mroIn K C (.type "object") = some true)
    (hbm : PySem.HandSPX.refsVE bm = true) (dT : oT.data = .seq #[.none] n) (hb : defBody st = initBody q1 q2 q3 q4) (sc : FnScope ["self", "value"] ["self", "value"] (defScope st)) (v0 : Vis (defScope st) "self") (v1 : Vis (defScope st) "value")
    (hbind : ∀ (T : Addr) (kV doc pm : Value) (an : Option Addr) (cdv ct : Value) (us its : List Value), us.length = 2 → its.length = 1 →
      ∃ k, bindArgs (PySem.W.fnOf "__init__" qual (defArgs st) (defBody st) (defScope st) (.ref T) kV doc pm an cdv ct) ⟨us, []⟩ = seqItems? (.ref T) >>= k ∧ k (some its.toArray) = pure ((["self", "value"] : List Str).zip (us ++ its.drop 1)))
    (X : K.In h) (G : h.Ns mainGlobals mg) : ∀ P w base, ErrK P w K mg base x C := fun P w base => by
  have F : FunD K "__init__" qual (defArgs st) (defBody st) (defScope st) [.non] [] f _ := ⟨⟨oc, od, _, kV, doc, pm, an, cdv, ct, osl, rfl, l1, c1, .inr ⟨by simp, T, oT, [.none], n, rfl, lT, dT, .cons rfl .nil⟩, .inl rfl⟩, k1⟩
  have E : ErrC K C f := ⟨⟨⟨nm, q, N, bs, bm, sn, sub, ab, col, dd, m0, m1, m2, m3, m5, xL, hbm⟩, sa, eC, tC, kC⟩, ⟨ga, gg, eC, hC⟩, nb, a1, t1, ha, hn, ht, hm⟩
  obtain ⟨ds, hv, hbd⟩ := F.binds1 (ps := ["self", "value"]) 2 1 (by simp) rfl hbind
  cases hv
  exact ⟨⟨f, _, E, err_fn F E hb sc v0 v1, hbd⟩, PySem.W.mg_of X G aC⟩
end
/-- the end: what the law's def promises -/
abbrev spLaw (K : PySem.W.Frag) : Sp := ProP K (T := List Int) (fun ns => [.rd (ns.map D.int)]) (fun ns => ns.length ≤ 63) (fun _ d => d = .bl true) (fun _ _ _ => False)
theorem walk {l : PySem.W.OpenLaw} {k : Nat} {q : Program} {loose : List Str} {XP : (Str → Option Value) → Heap → Prop} {YP : World → Heap → Prop} {d : DefRec} {K : Params → PySem.W.Frag} (hn : l.most = some 63) (hdf : d.params.defaults = []) (hr : Room k callerA)
    (hY : ∀ (w : World) (h : Heap), YP w h → (K w.params).In h)
    (F : ∀ (w : World) (mg : Str → Option Value) (fa : Addr) (h : Heap), (K w.params).In h → h.Ns mainGlobals mg → mg d.name = some (.ref fa) →
      ∃ fd : FuncData, (∀ (s : Shared) (u : Value), BindsTo s fd ⟨[u], []⟩ [("script", u)]) ∧ ∀ base : Heap, (K w.params).In base → base.Ns mainGlobals mg →
        FnOk l.prog w (K w.params) mg base (L2.CX l.prog w) k fa fd ["script"] (spLaw (K w.params))) :
    PySem.W.WalkO q loose XP YP l.row.toRowW d [] (fun f vs => PySem.call f vs) :=
  L2.walk_of (n := 63) (k := k) (x := "script") (CX := fun w => L2.CX l.prog w) (sp := fun w => spLaw (K w.params)) hn (by decide) hdf hr hY F
    (fun w H a ns hl _ hS => by
      have m : Mem (K w.params) ⟨[], H, H⟩ [] H H [] := ⟨Ex.refl _, Ex.refl _, ⟨[], rfl, fun _ h => by cases h⟩, fun _ h => .inl h, fun _ _ _ h => h, fun k a c h _ => by simp at h, rfl, List.nodup_nil, fun _ h => by cases h⟩
      have e : ns.map D.int = (ns.map V.int).map D.v := by rw [List.map_map]; rfl
      refine ⟨ns, [], H, hl, m, .cons (.rd hS (by rw [e]; exact RpL.vals _)) .nil, fun v d B G' H' μ _ r ⟨_, hd⟩ => ?_, fun _ _ _ _ _ _ _ _ _ _ _ _ z => z⟩
      subst hd
      exact r.vOf)
    fun _ H s e s' ⟨_, _, _, _, _, _, _, _, _, _, _, _, z⟩ => z
end PA

set_option Elab.async false
set_option linter.all false
set_option maxRecDepth 100000
set_option maxHeartbeats 2000000
/-! PbNew: more that stays open; keywords; calls of a slot within a try; dicts written out and compared. -/
namespace PA
open PySem L2
section
variable {K : PySem.W.Frag} {S : Bs} {δ : Sl} {μ : List Cell} {ta tb te : TE} {C : D → List Cell → Prop}
theorem put_own {A : List Addr} {G H : Hp} {p : Addr} {xs : List V} {l : List D} {Q : VK} (m : Mem K S A G H μ) (hp : H p = none) (r : RpL K A G l xs)
    (q : ∀ v d A' G' H' μ', Mem K S A' G' H' μ' → Nw A G A' G' → Rp K A' G' d v → C d μ' → Q v H') (k : C (.own μ.length) (μ ++ [.lst l])) : Q (.ref p) (upd H p (.lst xs)) := by
  refine q _ _ (A ++ [p]) G _ _ (m.opened hp r) ⟨⟨[p], rfl⟩, Ex.refl _⟩ (.own ?_) k
  rw [← m.len, List.getElem?_append_right (Nat.le_refl _), Nat.sub_self]
  rfl
/-- x[::-1], kept open -/
theorem ee_revO (h : EE K S te δ μ fun d μ1 => ∃ l, LstD μ1 d l ∧ C (.own μ1.length) (μ1 ++ [.lst l.reverse])) : EE K S (tRevL K te) δ μ C := fun A G H σ a Q q =>
  h A G H σ a _ fun v d A1 G1 H1 μ1 m1 n1 r1 ⟨l, e, c⟩ => by
    obtain ⟨b, xs, ev, hs, r⟩ := e.at' m1 r1
    subst ev
    exact ⟨b, xs, rfl, hs, fun p hp => put_own m1 hp r.reverse (fun v d A' G' H' μ' m n => q v d A' G' H' μ' m (n1.trans n)) c⟩
/-- x + y, kept open -/
theorem oo_addLO {l m : List D} (hz : l.length + m.length ≤ 10000000) (k : C (.own μ.length) (μ ++ [.lst (l ++ m)])) : OO K S (rPlus K) (.lst l) (.lst m) μ C := fun A G H u w me r1 r2 Q q => by
  cases r1 with
  | lst h1 s1 =>
    cases r2 with
    | lst h2 s2 => exact .inr (.inr (.inl ⟨_, _, _, _, rfl, rfl, me.ex _ _ h1, me.ex _ _ h2, small (by rw [← s1.len, ← s2.len]; exact hz), fun p hp => put_own me hp (s1.append s2) q k⟩))
/-- f(x=..): as f(..) -/
theorem ee_kw1 {sp : Sp} {E : XK} (h : EE K S (tCall sp [] E (tCons te tNil)) δ μ C) : EE K S (tCallP sp [0] 1 E (tCons te tNil)) δ μ C := fun A G H σ a Q q => by
  have z := h A G H σ a Q q
  have e : (fun (v : V) (H1 : Hp) => sp ([v] ++ []) H1 Q E) = fun v H1 => [v].length = 1 ∧ sp (permL [0] [v]) H1 Q E := by
    funext v H1
    show sp [v] H1 Q E = (1 = 1 ∧ sp [v] H1 Q E)
    simp
  have z2 : te σ H (fun v H1 => sp ([v] ++ []) H1 Q E) := z
  rw [e] at z2
  exact z2
/-! ### a call out of a slot, within a try -/
theorem ex_callA {ta : TA} {CE : Sl → Addr → D → List Cell → Prop} {T : Type} {cel : T → List Cell} {arg : T → List D} {pre : T → Prop} {post : T → D → List Cell → Prop} {exc : T → Addr → D → List Cell → Prop} {i : Nat} {Sg : Addr → Sp → Prop} {f : Addr} (hs : List Nat) (hi : δ[i]? = some (some (.v (.ref f)))) (hS : Sg f (Pro K cel arg pre post exc))
    (h : EA K S ta δ μ fun ds μ1 => ∃ t : T, pre t ∧ hs.Nodup ∧ (∀ k ∈ hs, k < μ1.length) ∧ cel t = hs.map (fun k => μ1.getD k .off) ∧ cellsLt 0 (cel t) = true ∧ D.hsL (fun k => hs.contains k) ds = true ∧ D.renL (fun k => hs.idxOf k) ds = arg t ∧
      (∀ d ν n, post t d ν → ν.length = n → d.lt n = true → cellsLt n ν = true → hs.length ≤ n → C (d.ren (back hs μ1.length)) (behindC hs μ1.length ν μ1)) ∧ ∀ c d ν, exc t c d ν → ν.length = hs.length → d.lt hs.length = true → cellsLt hs.length ν = true → CE δ c (d.ren (back hs μ1.length)) (behindC hs μ1.length ν μ1)) :
    EX K S (fun W => tCallA' i Sg (WE W) ta) δ μ C CE := fun A G H σ a W wx Q q => by
  obtain ⟨v0, hv0, r0⟩ := a.env.get hi
  have ev := r0.vOf
  subst ev
  refine ⟨f, _, hv0, hS, h A G H σ a _ fun vs ds A1 G1 H1 μ1 m1 n1 r1 ⟨t, hp, hn, hlt, hcel, hcl, hh, ha, hC, hX⟩ => ?_⟩
  have hltA : ∀ k ∈ hs, k < A1.length := fun k hk => by rw [m1.len]; exact hlt k hk
  have rd : RpL K (hs.map fun k => A1.getD k 0) G1 (arg t) vs := by
    rw [← ha]
    exact r1.ren (hand_at hltA) hh
  have hm := m1.hand hn hlt (by rw [← hcel]; exact hcl)
  rw [← hcel] at hm
  refine ⟨t, _, G1, hp, hm, rd, fun v d B G' H' ν f r c => ?_, fun c dx u d G' H' ν f f1 f2 f3 r c' => ?_⟩
  · have ma := m1.after hn hlt f
    have hl : ν.length = hs.length + B.length := by
      rw [← f.len, List.length_append, List.length_map]
    have hA : (hs.map (fun k => A1.getD k 0) ++ B).length = ν.length := f.len
    refine q v _ (A1 ++ B) G' H' _ ma (n1.trans ⟨⟨B, rfl⟩, f.exG⟩) (r.ren (back_at hltA) (D.hs_true d)) ?_
    rw [m1.len]
    exact hC d ν _ c rfl (by rw [← hA]; exact r.scope) f.scope (by omega)
  · have f' : Mem K ⟨hs.map fun k => A1.getD k 0, G1, H1⟩ ((hs.map fun k => A1.getD k 0) ++ []) G' H' ν := by
      rw [List.append_nil]
      exact f
    have ma := m1.after hn hlt f'
    have hl : ν.length = hs.length := by
      rw [← f.len, List.length_map]
    have r' : Rp K (A1 ++ []) G' (d.ren (back hs A1.length)) u := (by
      have r0 : Rp K ((hs.map fun k => A1.getD k 0) ++ []) G' d u := by
        rw [List.append_nil]
        exact r
      exact r0.ren (back_at hltA) (D.hs_true d))
    have hs0 : S.H dx = none := by
      cases qq : S.H dx with
      | none => rfl
      | some o =>
        by_cases ha' : dx ∈ S.A
        · obtain ⟨B0, hB0, h0⟩ := m1.pre
          exact absurd f1 (m1.al dx (by rw [hB0]; exact List.mem_append_left _ ha'))
        · have z := m1.keep dx o ha' qq
          rw [f1] at z
          cases z
    rw [m1.len] at ma r'
    have hA2 : (hs.map fun k => A1.getD k 0).length = hs.length := List.length_map _
    have n2 : Nw A G (A1 ++ []) G' := n1.trans ⟨⟨[], rfl⟩, f.exG⟩
    exact wx _ G' H' σ δ _ c dx u _ ⟨ma, n2.en a.env⟩ n2 hs0 f2 f3 r' (hX c d ν c' hl (by rw [← hA2]; exact r.scope) (by rw [← hl]; exact f.scope))
/-! ### dicts -/
/-- {k: x} -/
theorem ee_disp1 {k : Key} {x : V} (c : C (.dic [k] [.v x]) μ) : EE K S (tDisp [(tC (kV k), tC x)]) δ μ C := fun A G H σ a Q q p hp => by
  refine ⟨upd_same, [(k, x)], rfl, by show 1 ≤ 15; decide, ?_⟩
  have e : upd (upd H p (.dK [])) p (.dK (mergeK [] [(k, x)])) = upd H p (.dK [(k, x)]) := by
    funext b
    by_cases e : b = p
    · subst e
      rw [upd_same, upd_same]
      rfl
    · rw [upd_ne e, upd_ne e, upd_ne e]
  rw [e]
  exact q _ _ A (upd G p (.dK [(k, x)])) _ μ (a.m.laid hp) (.of (Ex.new (a.m.ex.free hp))) (.dic (xs := [x]) rfl upd_same (.cons (.v x) .nil)) c
/-- a dict that is what it is: its values flat, its keys found -/
def DicOk (ks : List Key) (l : List D) : Prop := ∃ vs : List V, l = vs.map D.v ∧ ks.length = vs.length ∧ ∀ p ∈ ks.zip vs, valV (ks.zip vs) p.1 = some p.2 ∧ flatB p.2 = true
theorem oo_eqDic {ks : List Key} {l : List D} (h : DicOk ks l) (k : C (.bl true) μ) : OO K S (rEqU K) (.dic ks l) (.dic ks l) μ C := fun A G H u w m r1 r2 Q q => by
  obtain ⟨vs, rfl, hl, hp⟩ := h
  cases r1 with
  | dic h1 h2 h3 =>
    cases r2 with
    | dic g1 g2 g3 =>
      have e1 := RpL.of_vals h3
      have e2 := RpL.of_vals g3
      subst e1 e2
      exact .inr (.inr ⟨_, _, _, _, rfl, rfl, m.ex _ _ h2, m.ex _ _ g2, rfl, hp, q _ _ A G H μ m Nw.refl (.v _) k⟩)
end
end PA

set_option Elab.async false
set_option linter.all false
set_option maxRecDepth 100000
set_option maxHeartbeats 2000000
/-! PbBook: extend by a tuple, startswith, +=, max of a list, list times int, membership in open lists, open lists compared. -/
open PySem PySem.AutoSeq1 in
set_option maxRecDepth 8000 in
/-- list.extend of any tuple that stands in the heap -/
theorem PA.extend_tup {a b : Addr} {us ws : Array Value} {n m : Nat} {dd : Option Addr} {sl : Array (Option Value)} (door : ¬(!us.isEmpty && Builtin.List.listTooLong (us.size + ws.size)) = true) (z1 : us.size ≤ sizeLine) (z2 : us.size + ws.size ≤ sizeLine + 1) :
    Meets (Builtin.«list.extend» ⟨[.ref a, .ref b], []⟩) (fun _ R s => s.heap.get? a = some ⟨.type "list", none, .seq us n, #[]⟩ ∧
      s.heap.get? b = some ⟨.type "tuple", dd, .seq ws m, sl⟩ ∧ R (.ok (.ret Value.none)) { s with heap := s.heap.update a (Obj.mapSeq (· ++ ws)) }) := by
  refine .of_wp fun prog w A R s h => ?_
  obtain ⟨heap, gens, drawn, toks, osst⟩ := s
  obtain ⟨ha, hb, fin⟩ := h
  have q1 := idx_int
  have q2 := sub_tuple_list
  have q3 := sub_tuple_tuple
  have q4 := sub_list_list
  have q5 := sub_list_tuple
  have zz : (us ++ ws).size ≤ sizeLine + 1 := Array.size_append ▸ z2
  wp_walk using (wpAny_updateSeq ha rfl (hz := z1) (_hz' := zz)), wpAny_loadPart' ha, wpAny_loadPart' hb
  exact ⟨_, rfl, fin⟩
namespace PA
open PySem L2
section
variable {X : Cx}
def rExtT (K : PySem.W.Frag) : V → List V → Hp → VK → Prop := fun x vs H Q => ∃ l b xs zs, x = .ref l ∧ vs = [.ref b] ∧ H l = some (.lst xs) ∧ SqT K H b zs ∧ xs.length + zs.length ≤ sizeLine ∧ Q .non (upd H l (.lst (xs ++ zs)))
theorem mt_extT : MtR X "list.extend" (rExtT X.K) := by
  intro pins s σ H x vs v us Q I rx rv h
  obtain ⟨l, b, xs, zs, rfl, rfl, hH, hB, hz, q⟩ := h
  cases rx
  obtain ⟨u, rfl, ru⟩ := rv.one
  cases ru
  obtain ⟨z, its, n, r, hl, e⟩ := I.lstM hH
  obtain ⟨its2, r2, ⟨⟨cls, dd, data, sl⟩, e2, hc, n2, hd⟩, hl2⟩ := I.tuple hB
  simp only at hc hd
  subst hc hd
  have l2 := r2.length
  have hsz : its.toArray.size + its2.toArray.size ≤ sizeLine := by rw [List.size_toArray, List.size_toArray]; omega
  have hlong : ¬ (!its.toArray.isEmpty && Builtin.List.listTooLong (its.toArray.size + its2.toArray.size)) = true := by
    rw [notLongL hsz, Bool.and_false]
    exact Bool.false_ne_true
  refine call_meets PySem.F.slot_list_extend ⟨_, e, rfl⟩ PySem.F.entry_list_extend (PySem.F.args_list_extend_2 _ _) (PA.extend_tup hlong (by rw [List.size_toArray]; omega) (by omega)) ⟨e, e2, ?_⟩
  refine ⟨.non, _, I.lset (its' := its ++ its2) hH e (by simp) (r.append r2) ?_, rfl, q⟩
  rw [List.length_append]
  omega
def rExtU (K : PySem.W.Frag) : V → List V → Hp → VK → Prop := fun x vs H Q => rExtend x vs H Q ∨ rExtT K x vs H Q
theorem mt_extU : MtR X "list.extend" (rExtU X.K) := MtR.or mt_extend mt_extT
def rStarts : V → List V → Hp → VK → Prop := fun x xs H Q => ∃ a b, x = .str a ∧ xs = [.str b] ∧ Q (.bl (Txt.startswith a b)) H
def rMaxU (K : PySem.W.Frag) : List V → Hp → VK → Prop := rMax K
end
section
variable {K : PySem.W.Frag} {S : Bs} {δ : Sl} {μ : List Cell} {ta tb te : TE} {C : D → List Cell → Prop}
/-- an open list is extended by a tuple -/
theorem mm_extT {k : Nat} {l m' : List D} (hc : μ[k]? = some (.lst l)) (hz : l.length + m'.length ≤ 10000000) (c : C .non (μ.set k (.lst (l ++ m')))) : MM K S (rExtU K) (.own k) [.tup m'] μ C := fun A G H u vs m r1 r2 Q q => by
  cases r1 with
  | @own _ b hA =>
    cases r2 with
    | cons r2 rn =>
      cases rn
      cases r2 with
      | tup h2 s2 =>
        obtain ⟨g, xs, hx, rl⟩ := m.cel k b _ hA hc
        exact .inr ⟨b, _, xs, _, rfl, rfl, hx, ex_t m.ex h2.sq, small (by rw [← rl.len, ← s2.len]; exact hz), q _ .non A G _ _ (m.wrote hA hc (rl.append s2)) Nw.refl (.v _) c⟩
theorem mm_starts {a b : Str} (c : C (.bl (Txt.startswith a b)) μ) : MM K S rStarts (.str a) [.str b] μ C := mm_vals (fun _ _ q => ⟨a, b, rfl, rfl, q⟩) c
/-- x += y, ints -/
theorem se_aug {i : Nat} {x : Int} {E : Cn} (hx : δ[i]? = some (some (.int x))) (h : EE K S te δ μ fun d μ1 => ∃ y : Int, d = .int y ∧ E.nx (δ.set i (some (.int (x + y)))) μ1) : SE K S (tAug i te (ipI fun i j => i + j)) δ μ E := fun A G H σ a F f => by
  obtain ⟨v0, hv0, r0⟩ := a.env.get hx
  have ev := r0.vOf
  subst ev
  refine ⟨_, hv0, h A G H σ a _ fun v d A1 G1 H1 μ1 m1 n1 r1 ⟨y, e, c⟩ => ?_⟩
  subst e
  have ev := r1.vOf
  subst ev
  exact ⟨x, y, rfl, rfl, f.nx A1 G1 H1 _ _ μ1 ⟨m1, En.set (.v _) i (n1.en a.env)⟩ n1 c⟩
/-- max of a list of ints -/
theorem cc_maxL {d : D} {ns : List Int} (h : LstD μ d (ns.map D.int)) (h0 : 0 < ns.length) (k : ∀ m, m ∈ ns → (∀ y ∈ ns, y ≤ m) → C (.int m) μ) : CC K S (rMax K) [d] μ C := fun A G H vs m r1 Q q => by
  cases r1 with
  | cons r1 rn =>
    cases rn
    obtain ⟨a, xs, e, hs, r⟩ := h.at' m r1
    subst e
    have e2 := ints_rel r
    subst e2
    exact ⟨a, ns, rfl, hs, h0, fun z hz hy => q _ _ A G H μ m Nw.refl (.v _) (k z hz hy)⟩
theorem cc_intB {b : Bool} (k : C (.int (if b then 1 else 0)) μ) : CC K S (fun xs H Q => (∃ i, xs = [.int i] ∧ Q (.int i) H) ∨ ∃ k, xs = [.bl k] ∧ Q (.int (if k then 1 else 0)) H) [.bl b] μ C := cc_one (fun _ _ q => .inr ⟨b, rfl, q⟩) k
theorem rep_rel {A : List Addr} {G : Hp} {l : List D} {xs : List V} (r : RpL K A G l xs) : ∀ n : Nat, RpL K A G (List.replicate n l).flatten (List.replicate n xs).flatten
  | 0 => .nil
  | n + 1 => by
    rw [List.replicate_succ, List.replicate_succ, List.flatten_cons, List.flatten_cons]
    exact r.append (rep_rel r n)
/-- l * n -/
theorem oo_repL {l : List D} {n : Nat} (h1 : n ≤ 1000000) (hz : l.length * n ≤ 10000000) (k : C (.lst (List.replicate n l).flatten) μ) : OO K S rTimes (.lst l) (.int (n : Int)) μ C := fun A G H u w m r1 r2 Q q => by
  have e2 := r2.vOf
  subst e2
  cases r1 with
  | lst h1' s1 =>
    refine .inr (.inl ⟨_, _, _, rfl, rfl, m.ex _ _ h1', by omega, by omega, small (by rw [← s1.len, Int.toNat_natCast]; exact hz), fun p hp => by
    rw [Int.toNat_natCast]
    exact put_lst m hp (rep_rel s1 _) q k⟩)
/-- x in, not in an open list of flat values -/
theorem oo_niO {x : V} {n : Nat} {ys : List V} (hc : μ[n]? = some (.lst (ys.map .v))) (hx : flatV x = true) (hy : ys.all flatV = true) (k : C (.bl (!inV x ys)) μ) : OO K S (rNiU K) (.v x) (.own n) μ C := fun A G H u w m r1 r2 Q q => by
  have e1 := r1.vOf
  subst e1
  cases r2 with
  | @own _ b hA =>
    obtain ⟨g, xs, hxs, rl⟩ := m.cel n b _ hA hc
    have e2 := RpL.of_vals rl
    subst e2
    exact .inl ⟨b, _, rfl, .inl (lst_sq hxs), hx, hy, q _ _ A G H μ m Nw.refl (.v _) k⟩
/-- x not in a list of flat values -/
theorem oo_niL {x : V} {ys : List V} (hx : flatV x = true) (hy : ys.all flatV = true) (k : C (.bl (!inV x ys)) μ) : OO K S (rNiU K) (.v x) (.lst (ys.map .v)) μ C := fun A G H u w m r1 r2 Q q => by
  have e1 := r1.vOf
  subst e1
  cases r2 with
  | lst h s =>
    have e2 := RpL.of_vals s
    subst e2
    exact .inl ⟨_, _, rfl, .inl (lst_sq (m.ex _ _ h)), hx, hy, q _ _ A G H μ m Nw.refl (.v _) k⟩
/-- f(x=i, y=j) of two slots, told the other way round -/
theorem ee_kw2 {sp : Sp} {E : XK} {i j : Nat} (h : EE K S (tCall sp [] E (tCons (tVar j) (tCons (tVar i) tNil))) δ μ C) : EE K S (tCallP sp [1, 0] 2 E (tCons (tVar i) (tCons (tVar j) tNil))) δ μ C := fun A G H σ a Q q => by
  obtain ⟨w, hw, v, hv, z⟩ := h A G H σ a Q q
  exact ⟨v, hv, w, hw, rfl, z⟩
/-- an open list compared -/
theorem oo_neO {n : Nat} {l : List D} {y : D} {p q : PyData} (hc : μ[n]? = some (.lst l)) (h1 : D.py (.lst l) = some p) (h2 : D.py y = some q) (s1 : SeqAt.shaped p = true) (s2 : SeqAt.shaped q = true) (k : C (.bl (!PyData.eqv p q)) μ) : OO K S (rNeU K) (.own n) y μ C := fun A G H u w m r1 r2 Q qq => by
  cases r1 with
  | @own _ b hA =>
    obtain ⟨g, xs, hxs, rl⟩ := m.cel n b _ hA hc
    have z : (D.pyAll l).map PyData.list = some p := h1
    cases e : D.pyAll l with
    | none => rw [e] at z; cases z
    | some ps =>
      rw [e] at z
      cases z
      exact .inr ⟨_, q, .lst (lst_sq hxs) ((rl.mono0 m.ex).dp e), (r2.mono0 m.ex).dp h2, s1, s2, qq _ _ A G H μ m Nw.refl (.v _) k⟩
theorem oo_eqO {n : Nat} {l : List D} {y : D} {p q : PyData} (hc : μ[n]? = some (.lst l)) (h1 : D.py (.lst l) = some p) (h2 : D.py y = some q) (s1 : SeqAt.shaped p = true) (s2 : SeqAt.shaped q = true) (k : C (.bl (PyData.eqv p q)) μ) : OO K S (rEqU K) (.own n) y μ C := fun A G H u w m r1 r2 Q qq => by
  cases r1 with
  | @own _ b hA =>
    obtain ⟨g, xs, hxs, rl⟩ := m.cel n b _ hA hc
    have z : (D.pyAll l).map PyData.list = some p := h1
    cases e : D.pyAll l with
    | none => rw [e] at z; cases z
    | some ps =>
      rw [e] at z
      cases z
      exact .inr (.inl ⟨_, q, .lst (lst_sq hxs) ((rl.mono0 m.ex).dp e), (r2.mono0 m.ex).dp h2, s1, s2, qq _ _ A G H μ m Nw.refl (.v _) k⟩)
end
end PA

set_option Elab.async false
set_option linter.all false
set_option maxRecDepth 100000
set_option maxHeartbeats 2000000
/-! PbSlice: x[i:j] = ys, x an open list. -/
namespace PA
open PySem L2
/-- o[lo:hi] = .. -/
def gSlS (to tl th : TE) : TG := fun v σ H Q => to σ H fun x H1 => tl σ H1 fun a H2 => th σ H2 fun c H3 =>
  ∃ (l b : Addr) (xs ys : List V) (i j : Int), x = .ref l ∧ v = .ref b ∧ a = .int i ∧ c = .int j ∧ H3 l = some (.lst xs) ∧ H3 b = some (.lst ys) ∧ l ≠ b ∧ 0 ≤ i ∧ i ≤ j ∧ j ≤ xs.length ∧ xs.length + ys.length ≤ sizeLine ∧ Q σ (upd H3 l (.lst (xs.take i.toNat ++ ys ++ xs.drop j.toNat)))
section
variable {X : Cx}
theorem pg_slS {o lo hi : Expr} {to tl th : TE} {p2 pos : Pos} (ho : PE X o to) (hl : PE X lo tl) (hh : PE X hi th)
    (ha : ∀ v, assign (.Subscript o (.Slice (some lo) (some hi) none p2) pos) X.env v = (do
      let xo ← holding [v] (eval o X.env)
      let xi ← holding [v, xo] (eval (.Slice (some lo) (some hi) none p2) X.env)
      standAt pos
      holding [v, xo, xi] (setItem xo xi v)
      release [xi, v, xo] []) := by intro _; rfl) : PG X (.Subscript o (.Slice (some lo) (some hi) none p2) pos) (gSlS to tl th) := by
  refine ⟨fun pins s σ H v u Q I r h => ?_⟩
  rw [ha]
  refine wpAny_bind (wpAny_holding (thn (ho.run pins s σ H _ I h) fun xo s1 ⟨x, H1, I1, r1, q1⟩ => ?_))
  refine wpAny_bind (wpAny_holding ?_)
  refine wpAny_Slice ?_
  rw [evalPart_some]
  refine thn (hl.run pins s1 σ H1 _ I1 q1) fun vl s2 ⟨a, H2, I2, ra, q2⟩ => ?_
  rw [evalPart_some]
  refine thn (hh.run pins s2 σ H2 _ I2 q2) fun vu s3 ⟨c, H3, I3, rc, q3⟩ => ?_
  obtain ⟨l, b, xs, ys, i, j, rfl, rfl, rfl, rfl, e1, e2, ne, h0, hij, hj, hz, q⟩ := q3
  rw [evalPart_none]
  refine wpAny_pure ?_
  have I4 : Inv X pins σ H3 { s3 with heap := s3.heap.push { cls := .type "slice", data := .fields #[vl, vu, .none] } } := I3.kept (t' := s3.toks) fun b ob q => Heap.get?_push_of_some _ q
  obtain rfl : xo = Value.ref l := r1
  obtain rfl : u = Value.ref b := r
  refine wpAny_bind (wpAny_standAt (wpAny_bind (wpAny_holding ?_)))
  refine set_slice (sl := s3.heap.objs.size) I4 e1 e2 ne (Heap.IsSliceOf.new ..) ra rc h0 hij hj hz fun s5 I5 => ?_
  exact wpAny_release ⟨σ, _, I5, q⟩
section
variable {K : PySem.W.Frag} {S : Bs} {δ : Sl} {μ : List Cell} {to tl th : TE} {C : Sl → List Cell → Prop}
/-- x[i:j] = m, x an open list -/
theorem ge_slS {m : List D} (h : EE K S to δ μ fun x μ1 => EE K S tl δ μ1 fun y μ2 => EE K S th δ μ2 fun z μ3 => ∃ (k i j : Nat) (l : List D), x = .own k ∧ y = .int (i : Int) ∧ z = .int (j : Int) ∧ μ3[k]? = some (.lst l) ∧ i ≤ j ∧ j ≤ l.length ∧ l.length + m.length ≤ 10000000 ∧ C δ (μ3.set k (.lst (l.take i ++ m ++ l.drop j)))) : GE K S (gSlS to tl th) (.lst m) δ μ C := fun A G H σ v a r Q q =>
  h A G H σ a _ fun w1 x A1 G1 H1 μ1 m1 n1 r1 h1 => h1 A1 G1 H1 σ ⟨m1, n1.en a.env⟩ _ fun w2 y A2 G2 H2 μ2 m2 n2 r2 h2 => h2 A2 G2 H2 σ ⟨m2, (n1.trans n2).en a.env⟩ _ fun w3 z A3 G3 H3 μ3 m3 n3 r3 ⟨k, i, j, l, ex, ey, ez, hc, hij, hj, hz, c⟩ => by
    subst ex ey ez
    have ev2 := r2.vOf
    subst ev2
    have ev3 := r3.vOf
    subst ev3
    cases r1 with
    | @own _ b hA =>
      have hA3 : A3[k]? = some b := by
        cases ((n2.trans n3).rp (.own hA : Rp K A1 G1 (.own k) (.ref b))) with
        | own h => exact h
      obtain ⟨g, xs, hx, rl⟩ := m3.cel k b _ hA3 hc
      have nn := (n1.trans n2).trans n3
      cases r with
      | @lst _ a0 ys hg ry =>
        have hg3 := nn.ex _ _ hg
        have ne : b ≠ a0 := fun e => by
          subst e
          rw [g] at hg3
          cases hg3
        have hl := rl.len
        have hl2 := ry.len
        refine ⟨b, a0, xs, ys, (i : Int), (j : Int), rfl, rfl, rfl, rfl, hx, m3.ex _ _ hg3, ne, by omega, by omega, by omega, small (by omega), ?_⟩
        rw [Int.toNat_natCast, Int.toNat_natCast]
        exact q A3 G3 _ σ δ _ ⟨m3.wrote hA3 hc ((((rl.take i)).append (nn.rpl ry)).append (rl.drop j)), nn.en a.env⟩ nn c
end
end
end PA

set_option Elab.async false
set_option linter.all false
set_option maxRecDepth 100000
set_option maxHeartbeats 2000000
/-! PbTwo: [e for .. in .. if .. for .. in .. if ..]. -/
namespace PA
open PySem L2
section
variable {K : PySem.W.Frag} {S : Bs} {δ : Sl} {μ : List Cell} {wi wi1 : TI} {g g1 : TG} {t t1 : TT} {te : TE}
/-- nothing that stood is changed; by what the list holds so far -/
theorem ee_lc2 {vs vs1 : List Nat} {C : D → List Cell → Prop} (h : IE K S wi δ μ fun l P μ1 => P = yes ∧ ∃ I : Nat → List D → Prop, I 0 [] ∧ (∀ i acc, I i acc → D.ltL μ1.length acc = true) ∧
      (∀ (i : Nat) x acc, l[i]? = some x → I i acc → GW K S g vs x (wipeS δ vs) (μ1 ++ [.lst acc]) fun δ2 μ2 => ET K S t δ2 μ2 fun b μ3 => μ3 = μ1 ++ [.lst acc] ∧ (b = false → I (i + 1) acc) ∧ (b = true →
        IE K S wi1 δ2 μ3 fun l1 P1 μ4 => P1 = yes ∧ μ4 = μ1 ++ [.lst acc] ∧ ∃ I1 : Nat → List D → Prop, I1 0 acc ∧
          (∀ (j : Nat) y acc', l1[j]? = some y → I1 j acc' → GW K S g1 vs1 y (wipeS δ2 vs1) (μ1 ++ [.lst acc']) fun δ3 μ5 => ET K S t1 δ3 μ5 fun b μ6 => μ6 = μ1 ++ [.lst acc'] ∧ (b = false → I1 (j + 1) acc') ∧ (b = true → EE K S te δ3 μ6 fun d μ7 => μ7 = μ1 ++ [.lst acc'] ∧ acc'.length < 10000000 ∧ I1 (j + 1) (acc' ++ [d]))) ∧
          ∀ acc', I1 l1.length acc' → I (i + 1) acc')) ∧
      ∀ acc, I l.length acc → C (.lst acc) μ1) : EE K S (tLc2 wi g t wi1 g1 t1 te vs vs1) δ μ C := fun A G H σ a Q q =>
  h A G H σ a _ fun J l P A1 G1 H1 μ1 m1 n1 gv ⟨hP, I, i0, il, it, ie⟩ => by
    subst hP
    intro p hp
    have hlen0 : A1.length = μ1.length := m1.len
    have hA : (A1 ++ [p])[A1.length]? = some p := by rw [List.getElem?_append_right (Nat.le_refl _), Nat.sub_self]; rfl
    have same : ∀ {A5 : List Addr} {G3 G5 H5 : Hp} {acc' : List D}, Mem K S A5 G5 H5 (μ1 ++ [.lst acc']) → Nw (A1 ++ [p]) G3 A5 G5 → A5 = A1 ++ [p] := fun {A5 G3 G5 H5 acc'} m5 n5 => by
      obtain ⟨⟨B, hB⟩, _⟩ := n5
      have z := m5.len
      rw [hB] at z
      simp only [List.length_append, List.length_singleton] at z
      have hb : B.length = 0 := by omega
      have hb2 : B = [] := List.length_eq_zero_iff.mp hb
      rw [hB, hb2, List.append_nil]
    refine ⟨fun i n H' => n = l.length - i ∧ i ≤ l.length ∧ ∃ G2 acc, Mem K S (A1 ++ [p]) G2 H' (μ1 ++ [.lst acc]) ∧ Ex G1 G2 ∧ I i acc, ⟨l.length, by omega, Nat.zero_le _, G1, [], m1.opened hp .nil, Ex.refl _, i0⟩, ?_⟩
    rintro i n H' ⟨hn, hi, G2, acc, m2, e2, w⟩
    have n2 : Nw A1 G1 (A1 ++ [p]) G2 := ⟨⟨[p], rfl⟩, e2⟩
    obtain ⟨g1', g2⟩ := gv i _ G2 H' _ m2 n2 trivial
    have hS : S.A.length ≤ A1.length := by
      obtain ⟨B, hB, _⟩ := m1.pre
      rw [hB, List.length_append]
      omega
    by_cases hlt : i < l.length
    · obtain ⟨x, hx⟩ : ∃ x, l[i]? = some x := ⟨l[i], by simp [hlt]⟩
      obtain ⟨go, yl⟩ := g1' x hx
      refine .inr ⟨go, fun H3 => ∃ G3 acc3, Mem K S (A1 ++ [p]) G3 H3 (μ1 ++ [.lst acc3]) ∧ Ex G1 G3 ∧ I (i + 1) acc3, fun H3 w3 => ⟨l.length - (i + 1), by omega, rfl, hlt, w3⟩, fun y H3 hy => ?_⟩
      obtain ⟨G3, m3, e3, r3⟩ := yl y H3 hy
      have n3 : Nw (A1 ++ [p]) G2 (A1 ++ [p]) G3 := .of e3
      have en3 := ((n1.trans n2).trans n3).wipeE a.env vs
      refine it i x acc hx w _ G3 H3 _ y ⟨m3, en3⟩ r3 _ fun A4 G4 H4 σ4 δ4 μ4 a4 n4 hw c => ?_
      refine ⟨by rw [hw, wipe_twice], ?_⟩
      refine c A4 G4 H4 σ4 a4 _ fun b A5 G5 H5 μ5 m5 n5 ⟨eμ, hf, ht⟩ => ?_
      subst eμ
      have eA := same m5 (n4.trans n5)
      subst eA
      cases b with
      | false =>
        rw [if_neg Bool.false_ne_true]
        exact ⟨G5, acc, m5, ((e2.trans e3).trans n4.ex).trans n5.ex, hf rfl⟩
      | true =>
        rw [if_pos rfl]
        have en5 := n5.en a4.env
        refine ht rfl _ G5 H5 σ4 ⟨m5, en5⟩ _ fun J1 l1 P1 A6 G6 H6 μ6 m6 n6 gv1 ⟨hP1, e6, I1, i10, it1, ie1⟩ => ?_
        subst hP1 e6
        have eA := same m6 n6
        subst eA
        refine ⟨fun j k H' => k = l1.length - j ∧ j ≤ l1.length ∧ ∃ G7 acc', Mem K S (A1 ++ [p]) G7 H' (μ1 ++ [.lst acc']) ∧ Ex G6 G7 ∧ I1 j acc', ⟨l1.length, by omega, Nat.zero_le _, G6, acc, m6, Ex.refl _, i10⟩, ?_⟩
        rintro j k H7 ⟨hk, hj, G7, acc', m7, e7, w7⟩
        obtain ⟨g11, g12⟩ := gv1 j _ G7 H7 _ m7 (.of e7) trivial
        have up : Ex G1 G6 := (((e2.trans e3).trans n4.ex).trans n5.ex).trans n6.ex
        by_cases hlt1 : j < l1.length
        · obtain ⟨y1, hy1⟩ : ∃ y1, l1[j]? = some y1 := ⟨l1[j], by simp [hlt1]⟩
          obtain ⟨go1, yl1⟩ := g11 y1 hy1
          refine .inr ⟨go1, fun H8 => ∃ G8 acc8, Mem K S (A1 ++ [p]) G8 H8 (μ1 ++ [.lst acc8]) ∧ Ex G6 G8 ∧ I1 (j + 1) acc8, fun H8 w8 => ⟨l1.length - (j + 1), by omega, rfl, hlt1, w8⟩, fun z H8 hz => ?_⟩
          obtain ⟨G8, m8, e8, r8⟩ := yl1 z H8 hz
          have n8 : Nw (A1 ++ [p]) G5 (A1 ++ [p]) G8 := n6.trans ((Nw.of e7).trans (.of e8))
          refine it1 j y1 acc' hy1 w7 _ G8 H8 _ z ⟨m8, n8.wipeE en5 vs1⟩ r8 _ fun A9 G9 H9 σ9 δ9 μ9 a9 n9 hw9 c9 => ?_
          refine ⟨by rw [hw9, wipe_twice], ?_⟩
          refine c9 A9 G9 H9 σ9 a9 _ fun b1 A10 G10 H10 μ10 m10 n10 ⟨e10, hf1, ht1⟩ => ?_
          subst e10
          have eA := same m10 (n9.trans n10)
          subst eA
          cases b1 with
          | false =>
            rw [if_neg Bool.false_ne_true]
            exact ⟨G10, acc', m10, ((e7.trans e8).trans n9.ex).trans n10.ex, hf1 rfl⟩
          | true =>
            rw [if_pos rfl]
            refine ht1 rfl _ G10 H10 σ9 ⟨m10, n10.en a9.env⟩ _ fun v d A11 G11 H11 μ11 m11 n11 r11 ⟨e11, hz11, w11⟩ => ?_
            subst e11
            have eA := same m11 n11
            subst eA
            have hcc : (μ1 ++ [Cell.lst acc'])[A1.length]? = some (.lst acc') := by rw [hlen0, List.getElem?_append_right (Nat.le_refl _), Nat.sub_self]; rfl
            obtain ⟨gp, xs, hxs, rx⟩ := m11.cel A1.length p _ hA hcc
            refine ⟨xs, hxs, smalr (by rw [← rx.len]; exact hz11), G11, acc' ++ [d], ?_, (((e7.trans e8).trans n9.ex).trans n10.ex).trans n11.ex, w11⟩
            have mw := m11.wrote hA hcc (rx.append (.cons r11 .nil))
            have es : (μ1 ++ [Cell.lst acc']).set A1.length (.lst (acc' ++ [d])) = μ1 ++ [.lst (acc' ++ [d])] := by
              rw [hlen0, List.set_append_right _ _ (Nat.le_refl _), Nat.sub_self]
              rfl
            rw [es] at mw
            exact mw
        · have e : j = l1.length := by omega
          exact .inl ⟨g12 e, G7, acc', m7, up.trans e7, ie1 acc' (by rw [← e]; exact w7)⟩
    · have e : i = l.length := by omega
      refine .inl ⟨g2 e, ?_⟩
      have w3 := il _ _ w
      obtain ⟨xs, hxs, gp, rx, mp⟩ := m2.popShut hS (by rw [hlen0]; exact m1.scope) (by rw [hlen0]; exact w3)
      have ne := Ex.new (o := .lst xs) gp
      exact q (.ref p) (.lst acc) A1 _ H' μ1 mp (n1.trans (.of (e2.trans ne))) (.lst upd_same (rx.mono0 ne)) (ie acc (by rw [← e]; exact w))
/-- .. all there is of the second walk -/
theorem ee_lc2A {vs vs1 : List Nat} {C : D → List Cell → Prop} {f : D → Bool} {m : D → List D} {L : List D} (hL : ((L.filter f).flatMap m).length < 10000000) (hcl : D.ltL 0 ((L.filter f).flatMap m) = true)
    (h : IE K S wi δ μ fun l P μ1 => l = L ∧ P = yes ∧ μ1 = μ)
    (hb : ∀ x acc, x ∈ L → GW K S g vs x (wipeS δ vs) (μ ++ [.lst acc]) fun δ2 μ2 => ET K S t δ2 μ2 fun b μ3 => b = f x ∧ μ3 = μ ++ [.lst acc] ∧ (b = true →
        IE K S wi1 δ2 μ3 fun l1 P1 μ4 => l1 = m x ∧ P1 = yes ∧ μ4 = μ ++ [.lst acc] ∧
          ∀ y acc', y ∈ l1 → GW K S g1 vs1 y (wipeS δ2 vs1) (μ ++ [.lst acc']) fun δ3 μ5 => ET K S t1 δ3 μ5 fun b μ6 => b = true ∧ μ6 = μ ++ [.lst acc'] ∧ EE K S te δ3 μ6 fun d μ7 => d = y ∧ μ7 = μ ++ [.lst acc']))
    (c : C (.lst ((L.filter f).flatMap m)) μ) : EE K S (tLc2 wi g t wi1 g1 t1 te vs vs1) δ μ C := by
  refine ee_lc2 fun A G H σ a R q => h A G H σ a R fun J l P A1 G1 H1 μ1 m1 n1 gv ⟨el, eP, eμ⟩ => q J l P A1 G1 H1 μ1 m1 n1 gv ?_
  subst el eμ
  have tk : ∀ i x, l[i]? = some x → l.take (i + 1) = l.take i ++ [x] := fun i x hx => by rw [List.take_succ, hx]; rfl
  have sub : ∀ i, D.ltL 0 (((l.take i).filter f).flatMap m) = true := fun i => D.ltL_all.mpr fun d hd => by
    obtain ⟨x, hx, hd⟩ := List.mem_flatMap.mp hd
    obtain ⟨h1, h2⟩ := List.mem_filter.mp hx
    exact D.ltL_all.mp hcl d (List.mem_flatMap.mpr ⟨x, List.mem_filter.mpr ⟨List.mem_of_mem_take h1, h2⟩, hd⟩)
  have len : ∀ i x, l[i]? = some x → f x = true → (((l.take i).filter f).flatMap m).length + (m x).length < 10000000 := fun i x hx hf => by
    obtain ⟨hi, e⟩ := List.getElem?_eq_some_iff.mp hx
    have e1 : l = l.take i ++ x :: l.drop (i + 1) := by
      have z := List.drop_eq_getElem_cons hi
      rw [e] at z
      rw [← z, List.take_append_drop]
    have e2 : (((l.take i).filter f).flatMap m ++ (m x ++ ((l.drop (i + 1)).filter f).flatMap m)) = (l.filter f).flatMap m := by
      have e3 : l.filter f = (l.take i).filter f ++ x :: (l.drop (i + 1)).filter f := by
        have z := congrArg (List.filter f) e1
        rw [List.filter_append, List.filter_cons, hf, if_pos rfl] at z
        exact z
      rw [e3, List.flatMap_append, List.flatMap_cons]
    have e4 := congrArg List.length e2
    rw [List.length_append, List.length_append] at e4
    omega
  refine ⟨eP, fun i acc => acc = ((l.take i).filter f).flatMap m, by simp, fun i acc w => by rw [w]; exact D.ltL_mono (Nat.zero_le _) (sub i), fun i x acc hx w => ?_, fun acc w => by rw [w, List.take_length]; exact c⟩
  subst w
  intro A2 G2 H2 σ2 v2 a2 r2 Q2 q2
  refine hb x _ (List.mem_of_getElem? hx) A2 G2 H2 σ2 v2 a2 r2 Q2 fun A3 G3 H3 σ3 δ3 μ3 a3 n3 hw3 c3 => q2 A3 G3 H3 σ3 δ3 μ3 a3 n3 hw3 ?_
  intro A4 G4 H4 σ4 a4 Q4 q4
  refine c3 A4 G4 H4 σ4 a4 Q4 fun b A5 G5 H5 μ5 m5 n5 ⟨h1, h2, h3⟩ => q4 b A5 G5 H5 μ5 m5 n5 ⟨h2, fun hbf => ?_, fun hbt => ?_⟩
  · show ((l.take i).filter f).flatMap m = ((l.take (i + 1)).filter f).flatMap m
    rw [tk i x hx, List.filter_append, List.filter_cons, ← h1, hbf, if_neg Bool.false_ne_true, List.filter_nil, List.append_nil]
  · have hfx : f x = true := by rw [← h1]; exact hbt
    have ln := len i x hx hfx
    intro A6 G6 H6 σ6 a6 R6 q6
    refine h3 hbt A6 G6 H6 σ6 a6 R6 fun J7 l7 P7 A7 G7 H7 μ7 m7 n7 gv7 ⟨k1, k2, k3, k4⟩ => q6 J7 l7 P7 A7 G7 H7 μ7 m7 n7 gv7 ⟨k2, k3, fun j acc' => acc' = ((l.take i).filter f).flatMap m ++ l7.take j, by show _ = ((l.take i).filter f).flatMap m ++ l7.take 0; rw [List.take_zero, List.append_nil], fun j y acc' hy w' => ?_, fun acc' w' => ?_⟩
    · subst w'
      have ty : l7.take (j + 1) = l7.take j ++ [y] := by rw [List.take_succ, hy]; rfl
      have hj := (List.getElem?_eq_some_iff.mp hy).1
      intro A8 G8 H8 σ8 v8 a8 r8 Q8 q8
      refine k4 y _ (List.mem_of_getElem? hy) A8 G8 H8 σ8 v8 a8 r8 Q8 fun A9 G9 H9 σ9 δ9 μ9 a9 n9 hw9 c9 => q8 A9 G9 H9 σ9 δ9 μ9 a9 n9 hw9 ?_
      intro A10 G10 H10 σ10 a10 Q10 q10
      refine c9 A10 G10 H10 σ10 a10 Q10 fun b A11 G11 H11 μ11 m11 n11 ⟨u1, u2, u3⟩ => q10 b A11 G11 H11 μ11 m11 n11 ⟨u2, fun z => (by rw [u1] at z; cases z), fun _ => u3.imp fun d μ12 ⟨y1, y2⟩ => ⟨y2, ?_, ?_⟩⟩
      · have hlm := congrArg List.length k1
        rw [List.length_append, List.length_take]
        omega
      · show ((l.take i).filter f).flatMap m ++ l7.take j ++ [d] = ((l.take i).filter f).flatMap m ++ l7.take (j + 1)
        rw [y1, ty, List.append_assoc]
    · subst w'
      show ((l.take i).filter f).flatMap m ++ l7.take l7.length = ((l.take (i + 1)).filter f).flatMap m
      rw [List.take_length, k1, tk i x hx, List.filter_append, List.filter_cons, hfx, if_pos rfl, List.filter_nil, List.flatMap_append, List.flatMap_cons, List.flatMap_nil, List.append_nil]
end
end PA

set_option Elab.async false
set_option linter.all false
set_option maxRecDepth 100000
set_option maxHeartbeats 2000000
/-! PbSum: sum(lists, start), list(range(..)). -/
namespace PA
open PySem L2
theorem args_sum2 (a b : Value) : argsOk "sum" ⟨[a, b], []⟩ := by unfold argsOk; kernel_rfl
section
variable {prog : Program} {w : World} {A : Around} {R : Result → Shared → Prop} {I : Addr} {fp wr : List Addr} {n : Nat} {P : Nat → Value → Prop} {St : Nat → Heap → Prop}
theorem add_two {E : Value → Shared → Prop} {s : Shared} {l b : Addr} {vs ws : List Value} {Q : Value → Shared → Prop} (hl : s.heap.IsList l vs.toArray) (hb : s.heap.IsList b ws.toArray) (hsz : vs.length + ws.length ≤ sizeLine)
    (h : Q (.ref s.heap.objs.size) { s with heap := s.heap.push { cls := .type "list", data := .seq (vs ++ ws).toArray } }) : wpAny (model prog w) A (binaryOp .Add (.ref l) (.ref b)) Q E s := by
  obtain ⟨⟨cls, dd, data, sl⟩, ho, hc, n, hd⟩ := id hl
  obtain ⟨⟨cls2, dd2, data2, sl2⟩, ho2, hc2, n2, hd2⟩ := id hb
  simp only at hc hd hc2 hd2
  subst hc hd hc2 hd2
  have e : vs.toArray ++ ws.toArray = (vs ++ ws).toArray := by simp
  refine concat_meets ⟨_, ho, rfl⟩ ⟨_, ho2, rfl⟩ noFill_list_add seq_list_add PySem.F.slot_list_add PySem.F.entry_list_add (PySem.F.args_list_add_2 _ _) (PyProof.Rows.list_addW l b vs.toArray ws.toArray n n2 dd dd2 sl sl2 (by simpa using hsz)) ⟨ho, ho2, ?_⟩
  rw [e]
  exact h
/-- how long the rest is -/
def restLen (its : Nat → List Value) (n : Nat) : Nat → Nat
  | 0 => 0
  | k + 1 => (its (n - (k + 1))).length + restLen its n k
def restAll (its : Nat → List Value) (n : Nat) : Nat → List Value
  | 0 => []
  | k + 1 => its (n - (k + 1)) ++ restAll its n k
theorem sum_loopL (W : Walks prog w A.in1 I fp wr n P St) (S : Addr) (hSf : S ∉ fp) (bs : Nat → Addr) (its : Nat → List Value) (hP : ∀ i v, i < n → P i v → v = .ref (bs i)) (hbs : ∀ i, i < n → bs i ∉ wr ∧ bs i ≠ S) :
    ∀ (k i : Nat) (s : Shared) (T : Addr) (acc : List Value) (c : Nat), n - i = k → i ≤ n → St i s.heap → s.heap.get? S = some { cls := .type "list", dict := none, data := .seq #[.ref T] c, slots := #[] } → s.heap.IsList T acc.toArray → T ∉ wr → T ≠ S →
      (∀ j, j < n → s.heap.IsList (bs j) (its j).toArray) → acc.length + restLen its n k ≤ sizeLine → (∀ b ∈ wr, b < S) →
    (∀ h' tk T', (∀ b o, b ∉ wr → b ≠ S → s.heap.get? b = some o → h'.get? b = some o) → h'.IsList T' (acc ++ restAll its n k).toArray → ((k = 0 ∧ T' = T) ∨ (S < T' ∧ ∃ m, h'.get? T' = some { cls := .type "list", data := .seq (acc ++ restAll its n k).toArray m })) → R (.ok (.ret (.ref T'))) { s with heap := h', toks := tk }) →
    codeAny (model prog w) A (.builtin "sum.loop" ⟨[.ref I, .ref S, rawInt 2, rawInt 0], []⟩) R s := by
  have hSw : S ∉ wr := fun h => hSf (W.sub _ h)
  intro k
  induction k with
  | zero =>
    intro i s T acc c hk hi hst hS hT hTw hTS hl hz hwr hR
    have hin : i = n := by omega
    subst hin
    refine codeAny_builtin F.entry_sum_loop ?_
    rw [Around.under_plainId F.plain_sum_loop _]
    show wpAny _ A.in1 (seqItems? (.ref S) >>= _) _ _ s
    refine wpAny_bind (wpAny_seqItems hS rfl ?_)
    show wpAny _ A.in1 (tryCatch (pyNext (.ref I)) _ >>= _) _ _ s
    refine wpAny_bind (wpAny_tryCatch (W.done s _ _ hst fun h' tk hk' => ?_))
    refine wpAny_pure (hR h' tk T (fun b o hbw _ e => hk' b o hbw e) ?_ (.inl ⟨rfl, rfl⟩))
    show h'.IsList T (acc ++ []).toArray
    rw [List.append_nil]
    obtain ⟨o, e1, e2⟩ := hT
    exact ⟨o, hk' _ _ hTw e1, e2⟩
  | succ k ih =>
    intro i s T acc c hk hi hst hS hT hTw hTS hl hz hwr hR
    have hlt : i < n := by omega
    have hni : n - (k + 1) = i := by omega
    have hz : acc.length + ((its (n - (k + 1))).length + restLen its n k) ≤ sizeLine := hz
    rw [hni] at hz
    refine codeAny_builtin F.entry_sum_loop ?_
    rw [Around.under_plainId F.plain_sum_loop _]
    show wpAny _ A.in1 (seqItems? (.ref S) >>= _) _ _ s
    refine wpAny_bind (wpAny_seqItems hS rfl ?_)
    show wpAny _ A.in1 (tryCatch (pyNext (.ref I)) _ >>= _) _ _ s
    refine wpAny_bind (wpAny_tryCatch (W.item i s _ _ hlt hst fun v h' tk hPv hst' hk' => ?_))
    obtain rfl := hP i v hlt hPv
    have hS' := hk' S _ hSw hS
    have keepL : ∀ {a : Addr} {xs : List Value}, s.heap.IsList a xs.toArray → a ∉ wr → h'.IsList a xs.toArray := fun {a xs} ⟨o, e1, e2⟩ hw => ⟨o, hk' _ _ hw e1, e2⟩
    have hT' := keepL hT hTw
    have hB' := keepL (hl i hlt) (hbs i hlt).1
    show wpAny _ A.in1 ((holding [Value.ref (bs i)] (binaryOp .Add (.ref T) (.ref (bs i)))).attempt >>= _) _ _ _
    refine wpAny_bind (wpAny_attempt (wpAny_holding (add_two hT' hB' (by omega) ?_)))
    have szS : S < h'.objs.size := Heap.lt_size hS'
    have hS1 : (h'.push { cls := .type "list", data := .seq (acc ++ its i).toArray }).get? S = some { cls := .type "list", dict := none, data := .seq #[.ref T] c, slots := #[] } := Heap.get?_push_of_some _ hS'
    show wpAny _ A.in1 (updateSeq S (fun _ => #[.ref h'.objs.size]) >>= _) _ _ _
    refine wpAny_bind ?_
    refine wpAny_updateSeq hS1 rfl ?_
    have hS2 := Heap.get?_update_self (Obj.mapSeq fun _ => #[Value.ref h'.objs.size]) hS1 rfl
    refine wpAny_bind (wpAny_letGo ?_)
    refine wpAny_bind ?_
    have other : ∀ b o, b ≠ S → h'.get? b = some o → ∀ f g : Obj → Obj, (((h'.push { cls := .type "list", data := .seq (acc ++ its i).toArray }).update S f).update S g).get? b = some o := fun b o hb e f g =>
      (Heap.get?_update_other _ _ (Ne.symm hb)).trans ((Heap.get?_update_other _ _ (Ne.symm hb)).trans (Heap.get?_push_of_some _ e))
    refine wpAny_updateSeq hS2 rfl (wpAny_pure ⟨plainId_quiet F.plain_sum_loop _, ih (i + 1) _ h'.objs.size (acc ++ its i) _ (by omega) hlt (W.frame _ _ _ hst' fun b hb o e => other b o (fun h => hSf (by rw [← h]; exact hb)) e _ _) (Heap.get?_update_self _ hS2 rfl) ?_ (fun h => Nat.lt_irrefl _ (Nat.lt_trans (hwr _ h) szS)) (Nat.ne_of_gt szS) (fun j hj => ?_) (by rw [List.length_append]; omega) hwr fun h'' tk'' T'' hk'' hL'' hT'' => ?_⟩)
    · refine ⟨_, (Heap.get?_update_other _ _ (Nat.ne_of_lt szS)).trans ((Heap.get?_update_other _ _ (Nat.ne_of_lt szS)).trans (Heap.get?_push_size _ rfl)), rfl, _, rfl⟩
    · obtain ⟨o, e1, e2⟩ := keepL (hl j hj) (hbs j hj).1
      exact ⟨o, other _ _ (hbs j hj).2 e1 _ _, e2⟩
    · refine hR h'' tk'' T'' (fun b o hbw hbS e => hk'' b o hbw hbS (other b o hbS (hk' b o hbw e) _ _)) ?_ (.inr ?_)
      · show h''.IsList T'' (acc ++ (its (n - (k + 1)) ++ restAll its n k)).toArray
        rw [hni, ← List.append_assoc]
        exact hL''
      · rcases hT'' with ⟨hk0, e⟩ | ⟨e, m, em⟩
        · subst hk0 e
          refine ⟨szS, 0, ?_⟩
          show h''.get? h'.objs.size = some { cls := .type "list", data := .seq (acc ++ (its (n - (0 + 1)) ++ [])).toArray 0 }
          rw [hni, List.append_nil]
          exact hk'' _ _ (fun h => Nat.lt_irrefl _ (Nat.lt_trans (hwr _ h) szS)) (Nat.ne_of_gt szS) ((Heap.get?_update_other _ _ (Nat.ne_of_lt szS)).trans ((Heap.get?_update_other _ _ (Nat.ne_of_lt szS)).trans (Heap.get?_push_size _ rfl)))
        · refine ⟨e, m, ?_⟩
          show h''.get? T'' = some { cls := .type "list", data := .seq (acc ++ (its (n - (k + 1)) ++ restAll its n k)).toArray m }
          rw [hni, ← List.append_assoc]
          exact em
end
section
variable {prog : Program} {w : World} {A : Around} {E : Value → Shared → Prop} {s : Shared}
/-- sum(xs, start): xs a list of lists -/
theorem call_sumL {l b0 : Addr} {bs : List Addr} {its : Nat → List Value} {acc : List Value} {Q : Value → Shared → Prop} (hh : A.handled = none) (hl : s.heap.IsList l (bs.map Value.ref).toArray) (h0 : s.heap.IsList b0 acc.toArray) (hl2 : ∀ i (hi : i < bs.length), s.heap.IsList bs[i] (its i).toArray)
    (hz : acc.length + restLen its bs.length bs.length ≤ sizeLine)
    (h : ∀ h' tk T', (∀ b o, s.heap.get? b = some o → h'.get? b = some o) → h'.IsList T' (acc ++ restAll its bs.length bs.length).toArray → ((bs.length = 0 ∧ T' = b0) ∨ (s.heap.objs.size ≤ T' ∧ ∃ m, h'.get? T' = some { cls := .type "list", data := .seq (acc ++ restAll its bs.length bs.length).toArray m })) → Q (.ref T') { s with heap := h', toks := tk }) :
    wpAny (model prog w) A (call (.builtin "sum") [.ref l, .ref b0]) Q E s := by
  refine call_function_tree F.kind_sum F.plain_sum F.entry_sum (args_sum2 _ _) ?_
  unfold Builtin.«sum»
  simp only [List.length_cons, List.length_nil]
  rw [if_neg (by decide)]
  refine wpAny_bind (wpAny_of_eq (show Builtin.Builtins.bindParams "sum" ["start"] 0 ⟨[.ref b0], []⟩ = pure [some (.ref b0)] from rfl) ?_)
  have hlt : l < s.heap.objs.size := by obtain ⟨_, e, _⟩ := hl; exact Heap.lt_size e
  have hlb : b0 < s.heap.objs.size := by obtain ⟨_, e, _⟩ := h0; exact Heap.lt_size e
  refine wpAny_bind (wpAny_pyIter_list hl ?_)
  generalize hs2 : ({ s with heap := s.heap.push { cls := .type "list_iterator", data := .fields #[.ref l, .int 0 0] } } : Shared) = s2
  have e2 : s2.heap = s.heap.push { cls := .type "list_iterator", data := .fields #[.ref l, .int 0 0] } := by rw [← hs2]
  have k2 : ∀ b o, s.heap.get? b = some o → s2.heap.get? b = some o := fun b o e => by rw [e2]; exact Heap.get?_push_of_some _ e
  have kl : ∀ {a : Addr} {xs : List Value}, s.heap.IsList a xs.toArray → s2.heap.IsList a xs.toArray := fun ⟨o, q1, q2⟩ => ⟨o, k2 _ _ q1, q2⟩
  have z2 : s2.heap.objs.size = s.heap.objs.size + 1 := by rw [e2, Heap.size_push]
  have hit : s2.heap.IsListIter s.heap.objs.size l 0 := by rw [e2]; exact ⟨_, Heap.get?_push_size _ rfl, rfl, rfl⟩
  obtain ⟨⟨cls0, dd0, data0, sl0⟩, ho0, hc0, n0, hd0⟩ := kl h0
  simp only at hc0 hd0
  subst hc0 hd0
  have ht : s2.TypeIs (.ref b0) "list" := ⟨_, ho0, rfl⟩
  refine wpAny_bind (wpAny_pure ?_)
  simp only [List.forIn_cons, List.forIn_nil]
  refine wpAny_bind (wpAny_bind (wpAny_bind (wpAny_isInstance (T := "list") (b := false) ht F.sub_list_str ?_)))
  simp only [Bool.false_eq_true, if_false]
  refine wpAny_pure (wpAny_bind (wpAny_bind (wpAny_isInstance (T := "list") (b := false) ht F.sub_list_bytes ?_)))
  simp only [Bool.false_eq_true, if_false]
  refine wpAny_pure (wpAny_bind (wpAny_bind (wpAny_isInstance (T := "list") (b := false) ht F.sub_list_bytearray ?_)))
  simp only [Bool.false_eq_true, if_false]
  refine wpAny_pure (wpAny_pure ?_)
  refine wpAny_bind (wpAny_newObj_type ?_)
  have W : Walks prog w A.in1 s.heap.objs.size [s.heap.objs.size, l] [s.heap.objs.size] (bs.map Value.ref).toArray.size (fun i v => (bs.map Value.ref).toArray[i]? = some v) (fun i h => h.IsListIter s.heap.objs.size l i ∧ h.IsList l (bs.map Value.ref).toArray) := Walks.list (A := A.in1) hh _ l (Nat.ne_of_lt hlt) _
  have hn : (bs.map Value.ref).toArray.size = bs.length := by simp
  rw [hn] at W
  have hSf : s2.heap.objs.size ∉ [s.heap.objs.size, l] := fun hm => by
    rw [z2] at hm
    rcases List.mem_cons.mp hm with e | hm
    · exact absurd e (Nat.succ_ne_self _)
    · have e := List.mem_singleton.mp hm
      rw [← e] at hlt
      exact absurd (Nat.lt_trans (Nat.lt_succ_self _) hlt) (Nat.lt_irrefl _)
  have lts : ∀ i (hi : i < bs.length), bs[i] < s.heap.objs.size := fun i hi => by obtain ⟨_, e, _⟩ := hl2 i hi; exact Heap.lt_size e
  have gd : ∀ i (hi : i < bs.length), bs.getD i 0 = bs[i] := fun i hi => by rw [List.getD_eq_getElem?_getD, List.getElem?_eq_getElem hi]; rfl
  have wr1 : ∀ {a : Addr}, a < s.heap.objs.size → a ∉ [s.heap.objs.size] := fun h hm => Nat.ne_of_lt h (List.mem_singleton.mp hm)
  have wr2 : ∀ {a : Addr}, a < s.heap.objs.size → a ≠ s2.heap.objs.size := fun h e => by rw [z2] at e; exact Nat.ne_of_lt (Nat.lt_trans h (Nat.lt_succ_self _)) e
  have pk : ∀ b o, s2.heap.get? b = some o → (s2.heap.push { cls := .type "list", data := .seq #[Value.ref b0] }).get? b = some o := fun b o e => Heap.get?_push_of_some _ e
  refine wpAny_pure ⟨plainId_quiet F.plain_sum_loop _, sum_loopL W s2.heap.objs.size hSf (fun i => bs.getD i 0) its (fun i v hi hv => ?_) (fun i hi => ?_) bs.length 0 _ b0 acc 0 (Nat.sub_zero _) (Nat.zero_le _) ?_ (Heap.get?_push_size _ rfl) ⟨_, pk _ _ ho0, rfl, _, rfl⟩ ?_ ?_ (fun j hj => ?_) hz ?_ fun h' tk T' hk hL hT => ?_⟩
  · have hv : (bs.map Value.ref)[i]? = some v := by simpa using hv
    rw [List.getElem?_map, List.getElem?_eq_getElem hi] at hv
    cases hv
    rw [gd i hi]
  · rw [gd i hi]
    exact ⟨wr1 (lts i hi), wr2 (lts i hi)⟩
  · obtain ⟨⟨o1, q1, q2⟩, o2, q3, q4⟩ := (⟨hit, kl hl⟩ : s2.heap.IsListIter s.heap.objs.size l 0 ∧ s2.heap.IsList l (bs.map Value.ref).toArray)
    exact ⟨⟨o1, pk _ _ q1, q2⟩, ⟨o2, pk _ _ q3, q4⟩⟩
  · exact wr1 hlb
  · exact wr2 hlb
  · rw [gd j hj]
    obtain ⟨o, q1, q2⟩ := kl (hl2 j hj)
    exact ⟨o, pk _ _ q1, q2⟩
  · intro b hb
    rw [List.mem_singleton.mp hb, z2]
    exact Nat.lt_succ_self _
  · have kept : ∀ b o, s.heap.get? b = some o → h'.get? b = some o := fun b o e => hk b o (wr1 (Heap.lt_size e)) (wr2 (Heap.lt_size e)) (pk _ _ (k2 _ _ e))
    have hT : (bs.length = 0 ∧ T' = b0) ∨ (s.heap.objs.size ≤ T' ∧ ∃ m, h'.get? T' = some { cls := .type "list", data := .seq (acc ++ restAll its bs.length bs.length).toArray m }) := by
      rcases hT with h | ⟨h, h2⟩
      · exact .inl h
      · have h : s2.heap.objs.size < T' := h
        rw [z2] at h
        exact .inr ⟨Nat.le_of_lt (Nat.lt_trans (Nat.lt_succ_self _) h), h2⟩
    have := h h' tk T' kept hL hT
    rw [← hs2]
    exact this
end
/-- sum(xs, []), xs a list of lists -/
def rSumL (K : PySem.W.Frag) : List V → Hp → VK → Prop := fun vs H Q => ∃ (a b0 : Addr) (cs : List (Addr × List V)), vs = [V.ref a, V.ref b0] ∧ SqL K H a (cs.map fun c => V.ref c.1) ∧ (∀ c ∈ cs, SqL K H c.1 c.2) ∧ SqL K H b0 [] ∧ (cs.flatMap (·.2)).length ≤ sizeLine ∧ (cs = [] → Q (.ref b0) H) ∧ ∀ p, H p = none → Q (.ref p) (upd H p (.lst (cs.flatMap (·.2))))
theorem vals_refs : ∀ {cs : List (Addr × List V)} {its : List Value}, Vals (cs.map fun c => V.ref c.1) its → its = (cs.map (·.1)).map Value.ref
  | [], _, .nil => rfl
  | c :: cs, _, .cons r t => by
    have e : _ = Value.ref c.1 := r
    rw [e, vals_refs t]
    rfl
theorem rest_vals {cs : List (Addr × List V)} {its : Nat → List Value} (h : ∀ i (hi : i < cs.length), Vals cs[i].2 (its i)) : ∀ k, k ≤ cs.length → Vals ((cs.drop (cs.length - k)).flatMap (·.2)) (restAll its cs.length k) ∧ restLen its cs.length k = ((cs.drop (cs.length - k)).flatMap (·.2)).length
  | 0, _ => by
    rw [Nat.sub_zero, List.drop_length]
    exact ⟨.nil, rfl⟩
  | k + 1, hk => by
    obtain ⟨h1, h2⟩ := rest_vals h k (by omega)
    have hi : cs.length - (k + 1) < cs.length := by omega
    have ed : cs.drop (cs.length - (k + 1)) = cs[cs.length - (k + 1)] :: cs.drop (cs.length - k) := by
      rw [List.drop_eq_getElem_cons hi, show cs.length - (k + 1) + 1 = cs.length - k by omega]
    rw [ed, List.flatMap_cons]
    have hv := h _ hi
    refine ⟨hv.append h1, ?_⟩
    show (its (cs.length - (k + 1))).length + restLen its cs.length k = _
    rw [List.length_append, h2, ← hv.length]
theorem cr_sumL {X : Cx} (hc : X.calm = true) : CallR X (.builtin "sum") (rSumL X.K) := by
  intro pins s σ H vs us Q I r h
  obtain ⟨a, b0, cs, rfl, hs, hcs, h0, hz, q0, q⟩ := h
  obtain ⟨ia, ra, la, _⟩ := I.list hs
  obtain ⟨ib, rb, lb, _⟩ := I.list h0
  cases rb
  have ea := vals_refs ra
  subst ea
  have ex : ∀ i : Nat, ∃ ws : List Value, ∀ hi : i < cs.length, Vals cs[i].2 ws ∧ s.heap.IsList cs[i].1 ws.toArray := fun i => by
    by_cases hi : i < cs.length
    · obtain ⟨ws, rw', lw, _⟩ := I.list (hcs _ (List.getElem_mem hi))
      exact ⟨ws, fun _ => ⟨rw', lw.isList⟩⟩
    · exact ⟨[], fun h => absurd h hi⟩
  have hw : ∀ i (hi : i < cs.length), Vals cs[i].2 (Classical.choose (ex i)) ∧ s.heap.IsList cs[i].1 (Classical.choose (ex i)).toArray := fun i hi => Classical.choose_spec (ex i) hi
  obtain ⟨its, hw⟩ : ∃ its : Nat → List Value, ∀ i (hi : i < cs.length), Vals cs[i].2 (its i) ∧ s.heap.IsList cs[i].1 (its i).toArray := ⟨fun i => Classical.choose (ex i), hw⟩
  obtain ⟨rv, rl⟩ := rest_vals (fun i hi => (hw i hi).1) cs.length (Nat.le_refl _)
  rw [Nat.sub_self, List.drop_zero] at rv rl
  have hus : us = [.ref a, .ref b0] := by
    cases r with
    | cons r1 r =>
      cases r with
      | cons r2 r =>
        cases r
        have e1 : _ = Value.ref a := r1
        have e2 : _ = Value.ref b0 := r2
        rw [e1, e2]
  rw [hus]
  have lenm : (cs.map (·.1)).length = cs.length := List.length_map _
  refine call_sumL (bs := cs.map (·.1)) (its := its) (acc := []) (I.ok.hd hc) la.isList lb.isList (fun i hi => ?_) (by rw [lenm, rl, List.length_nil, Nat.zero_add]; exact hz) fun h' tk T' kept hL hT => ?_
  · rw [List.getElem_map]
    exact (hw i (by rw [lenm] at hi; exact hi)).2
  · rw [lenm] at hT
    rcases hT with ⟨h1, h2⟩ | ⟨h1, m, h2⟩
    · subst h2
      have e : cs = [] := List.length_eq_zero_iff.mp h1
      exact ⟨.ref _, H, I.kept kept, rfl, q0 e⟩
    · rw [List.nil_append] at h2
      exact ⟨.ref _, upd H T' (.lst (cs.flatMap (·.2))), I.laid (t' := tk) kept h1 ⟨hz, _, m, rv, h2⟩, rfl, q T' (I.hok.fresh h1)⟩
section
variable {K : PySem.W.Frag} {S : Bs} {δ : Sl} {μ : List Cell} {ta tb te : TE} {C : D → List Cell → Prop}
theorem lists_rel {A : List Addr} {G H : Hp} (e : Ex G H) : ∀ {ls : List (List D)} {xs : List V}, RpL K A G (ls.map D.lst) xs → ∃ cs : List (Addr × List V), xs = cs.map (fun c => V.ref c.1) ∧ (∀ c ∈ cs, SqL K H c.1 c.2) ∧ RpL K A G ls.flatten (cs.flatMap (·.2)) ∧ (ls = [] ↔ cs = [])
  | [], _, .nil => ⟨[], rfl, fun c h => (by cases h), .nil, ⟨fun _ => rfl, fun _ => rfl⟩⟩
  | l :: ls, _, .cons r t => by
    obtain ⟨cs, h1, h2, h3, h4⟩ := lists_rel e t
    subst h1
    cases r with
    | @lst _ a ys hg ry =>
      refine ⟨(a, ys) :: cs, rfl, fun c hc => ?_, ?_, ⟨fun z => (by cases z), fun z => (by cases z)⟩⟩
      · rcases List.mem_cons.mp hc with rfl | hc
        · exact lst_sq (e _ _ hg)
        · exact h2 c hc
      · rw [List.flatten_cons, List.flatMap_cons]
        exact ry.append h3
/-- sum(xs, []), xs closed lists -/
theorem cc_sumL {ls : List (List D)} (hz : ls.flatten.length ≤ 10000000) (k : C (.lst ls.flatten) μ) : CC K S (rSumL K) [.lst (ls.map D.lst), .lst []] μ C := fun A G H vs m r1 Q q => by
  cases r1 with
  | cons r1 rn =>
    cases rn with
    | cons r2 rn =>
      cases rn
      cases r1 with
      | @lst _ a xs hg rx =>
        cases r2 with
        | @lst _ b ys hb ry =>
          cases ry
          obtain ⟨cs, h1, h2, h3, h4⟩ := lists_rel m.ex rx
          subst h1
          refine ⟨a, b, cs, rfl, lst_sq (m.ex _ _ hg), h2, lst_sq (m.ex _ _ hb), small (by rw [← h3.len]; exact hz), fun e => ?_, fun p hp => put_lst m hp h3 q k⟩
          have e1 := h4.mpr e
          subst e1
          exact q _ (.lst []) A G H μ m Nw.refl (.lst hb .nil) k
/-- list(range(i, j)) -/
theorem ee_listRg (h : EE K S ta δ μ fun x μ1 => EE K S tb δ μ1 fun y μ2 => ∃ i j : Int, x = .int i ∧ y = .int j ∧ RgOk i j ∧ C (.lst (rng i (j - i).toNat)) μ2) : EE K S (tLstRg (tRg2 ta tb)) δ μ C := fun A G H σ a Q q =>
  h A G H σ a _ fun v1 x A1 G1 H1 μ1 m1 n1 r1 h1 => h1 A1 G1 H1 σ ⟨m1, n1.en a.env⟩ _ fun v2 y A2 G2 H2 μ2 m2 n2 r2 ⟨i, j, ex, ey, ok, c⟩ => by
    subst ex ey
    have e1 := r1.vOf
    have e2 := r2.vOf
    subst e1 e2
    refine ⟨i, j, rfl, rfl, ok, fun p hp => ?_⟩
    have rr : RpL K A2 G2 (rng i (j - i).toNat) (rgV i j) := by
      have z := RpL.vals (K := K) (A := A2) (G := G2) (rgV i j)
      unfold rgV at z
      rw [List.map_map] at z
      exact z
    exact put_lst m2 hp rr (fun v d A' G' H' μ' m n r c => q v d A' G' H' μ' m ((n1.trans n2).trans n) r c) c
end
/-! ### a way into a def's text -/
def noE : Expr := .Name "" ⟨0, 0, 0, 0⟩
def stE : Stmt → Expr
  | .Assign _ e _ => e
  | .Return (some e) _ => e
  | .Expr e _ => e
  | .If e _ _ _ => e
  | .While e _ _ _ => e
  | .For _ e _ _ _ => e
  | .AugAssign _ _ e _ => e
  | _ => noE
def stB (n : Nat) : Stmt → Stmt
  | .FunctionDef _ _ b _ _ _ _ _ _ _ => b.getD n (.Pass ⟨0, 0, 0, 0⟩)
  | .If _ b _ _ => b.getD n (.Pass ⟨0, 0, 0, 0⟩)
  | .While _ b _ _ => b.getD n (.Pass ⟨0, 0, 0, 0⟩)
  | .For _ _ b _ _ => b.getD n (.Pass ⟨0, 0, 0, 0⟩)
  | .Try b _ _ _ _ => b.getD n (.Pass ⟨0, 0, 0, 0⟩)
  | _ => .Pass ⟨0, 0, 0, 0⟩
def stO (n : Nat) : Stmt → Stmt
  | .If _ _ b _ => b.getD n (.Pass ⟨0, 0, 0, 0⟩)
  | _ => .Pass ⟨0, 0, 0, 0⟩
def exN (n : Nat) : Expr → Expr
  | .BoolOp _ l _ => l.getD n noE
  | .BinOp a _ b _ => if n = 0 then a else b
  | .UnaryOp _ a _ => a
  | .IfExp a b c _ => if n = 0 then a else if n = 1 then b else c
  | .Compare a _ l _ => (a :: l).getD n noE
  | .Call _ l _ _ => l.getD n noE
  | .Subscript a b _ => if n = 0 then a else b
  | .List l _ => l.getD n noE
  | .Tuple l _ _ => l.getD n noE
  | _ => noE
def lcElt : Expr → Expr
  | .ListComp e _ _ _ => e
  | _ => noE
def lcIter (n : Nat) : Expr → Expr
  | .ListComp _ g _ _ => ((g[n]?).map (·.iter)).getD noE
  | _ => noE
def lcIf (n m : Nat) : Expr → Expr
  | .ListComp _ g _ _ => ((g[n]?).map fun c => c.ifs.getD m noE).getD noE
  | _ => noE
def scOf : Expr → Scope
  | .ListComp _ _ s _ => s
  | _ => defScope (.Pass ⟨0, 0, 0, 0⟩)
/-- an inner block's scope as it stands within the outer block: free names that are cells outside are cells -/
def scRel (o s : Scope) : Scope := { s with names := s.names.map fun (n, k) => if (k == .free && o.kind == .function && o.names.lookup n == some .cell) then (n, .cell) else (n, k) }
end PA

set_option Elab.async false
set_option linter.all false
set_option maxRecDepth 100000
set_option maxHeartbeats 4000000
namespace PA
open PySem L2
def top (i : Nat) : Stmt := PySem.Challenge.pw_heardandfelt_k75_marks_shown.main.body.getD i (.Pass ⟨0, 0, 0, 0⟩)
structure Ad where
  (eReadingError eInvalidPage eInvalidNumber eInvalidCount eInvalidText eInvalidPlace eInvalidCells eInvalidBook eInvalidWidth eInvalidKey eInvalidMarks eInvalidStand eInvalidLine eNotWritten cCONDITIONS : Addr)
structure Tx (P : Program) (w : World) (K : PySem.W.Frag) (mg : Str → Option Value) (base : Heap) (a : Ad) : Prop where
  b_int : mg "int" = none
  b_range : mg "range" = none
  b_isinstance : mg "isinstance" = none
  b_bool : mg "bool" = none
  b_max : mg "max" = none
  b_all : mg "all" = none
  b_str : mg "str" = none
  b_len : mg "len" = none
  b_tuple : mg "tuple" = none
  b_list : mg "list" = none
  b_enumerate : mg "enumerate" = none
  b_min : mg "min" = none
  b_ValueError : mg "ValueError" = none
  b_sum : mg "sum" = none
  b_dict : mg "dict" = none
  b_zip : mg "zip" = none
  b_sorted : mg "sorted" = none
  g_ReadingError : mg "ReadingError" = some (.ref a.eReadingError)
  e_InvalidPage : ErrK P w K mg base "InvalidPage" a.eInvalidPage
  g_InvalidPage : mg "InvalidPage" = some (.ref a.eInvalidPage)
  e_InvalidNumber : ErrK P w K mg base "InvalidNumber" a.eInvalidNumber
  g_InvalidNumber : mg "InvalidNumber" = some (.ref a.eInvalidNumber)
  e_InvalidCount : ErrK P w K mg base "InvalidCount" a.eInvalidCount
  g_InvalidCount : mg "InvalidCount" = some (.ref a.eInvalidCount)
  e_InvalidText : ErrK P w K mg base "InvalidText" a.eInvalidText
  g_InvalidText : mg "InvalidText" = some (.ref a.eInvalidText)
  e_InvalidPlace : ErrK P w K mg base "InvalidPlace" a.eInvalidPlace
  g_InvalidPlace : mg "InvalidPlace" = some (.ref a.eInvalidPlace)
  e_InvalidCells : ErrK P w K mg base "InvalidCells" a.eInvalidCells
  g_InvalidCells : mg "InvalidCells" = some (.ref a.eInvalidCells)
  e_InvalidBook : ErrK P w K mg base "InvalidBook" a.eInvalidBook
  g_InvalidBook : mg "InvalidBook" = some (.ref a.eInvalidBook)
  e_InvalidWidth : ErrK P w K mg base "InvalidWidth" a.eInvalidWidth
  g_InvalidWidth : mg "InvalidWidth" = some (.ref a.eInvalidWidth)
  e_InvalidKey : ErrK P w K mg base "InvalidKey" a.eInvalidKey
  g_InvalidKey : mg "InvalidKey" = some (.ref a.eInvalidKey)
  e_InvalidMarks : ErrK P w K mg base "InvalidMarks" a.eInvalidMarks
  g_InvalidMarks : mg "InvalidMarks" = some (.ref a.eInvalidMarks)
  e_InvalidStand : ErrK P w K mg base "InvalidStand" a.eInvalidStand
  g_InvalidStand : mg "InvalidStand" = some (.ref a.eInvalidStand)
  e_InvalidLine : ErrK P w K mg base "InvalidLine" a.eInvalidLine
  g_InvalidLine : mg "InvalidLine" = some (.ref a.eInvalidLine)
  e_NotWritten : ErrK P w K mg base "NotWritten" a.eNotWritten
  g_NotWritten : mg "NotWritten" = some (.ref a.eNotWritten)
  k_InvalidBook_InvalidPage : PySem.W.kitOne K (.ref a.eInvalidBook) (.ref a.eInvalidPage) = some false
  k_InvalidBook_InvalidBook : PySem.W.kitOne K (.ref a.eInvalidBook) (.ref a.eInvalidBook) = some true
  k_InvalidBook_InvalidText : PySem.W.kitOne K (.ref a.eInvalidBook) (.ref a.eInvalidText) = some false
  k_InvalidBook_InvalidCells : PySem.W.kitOne K (.ref a.eInvalidBook) (.ref a.eInvalidCells) = some false
  k_InvalidBook_InvalidWidth : PySem.W.kitOne K (.ref a.eInvalidBook) (.ref a.eInvalidWidth) = some false
  k_InvalidBook_InvalidCount : PySem.W.kitOne K (.ref a.eInvalidBook) (.ref a.eInvalidCount) = some false
  k_InvalidBook_InvalidKey : PySem.W.kitOne K (.ref a.eInvalidBook) (.ref a.eInvalidKey) = some false
  k_InvalidBook_InvalidMarks : PySem.W.kitOne K (.ref a.eInvalidBook) (.ref a.eInvalidMarks) = some false
  k_InvalidBook_InvalidStand : PySem.W.kitOne K (.ref a.eInvalidBook) (.ref a.eInvalidStand) = some false
  k_InvalidBook_InvalidPlace : PySem.W.kitOne K (.ref a.eInvalidBook) (.ref a.eInvalidPlace) = some false
  k_InvalidBook_InvalidLine : PySem.W.kitOne K (.ref a.eInvalidBook) (.ref a.eInvalidLine) = some false
  k_InvalidBook_InvalidNumber : PySem.W.kitOne K (.ref a.eInvalidBook) (.ref a.eInvalidNumber) = some false
  k_InvalidBook_NotWritten : PySem.W.kitOne K (.ref a.eInvalidBook) (.ref a.eNotWritten) = some false
  v_InvalidBook : PySem.W.kitOne K (.ref a.eInvalidBook) (.type "ValueError") = some true
  x_InvalidBook : PySem.W.exmOne K (.ref a.eInvalidBook) (.ref a.eReadingError) = some true
  k_InvalidText_InvalidPage : PySem.W.kitOne K (.ref a.eInvalidText) (.ref a.eInvalidPage) = some false
  k_InvalidText_InvalidBook : PySem.W.kitOne K (.ref a.eInvalidText) (.ref a.eInvalidBook) = some false
  k_InvalidText_InvalidText : PySem.W.kitOne K (.ref a.eInvalidText) (.ref a.eInvalidText) = some true
  k_InvalidText_InvalidCells : PySem.W.kitOne K (.ref a.eInvalidText) (.ref a.eInvalidCells) = some false
  k_InvalidText_InvalidWidth : PySem.W.kitOne K (.ref a.eInvalidText) (.ref a.eInvalidWidth) = some false
  k_InvalidText_InvalidCount : PySem.W.kitOne K (.ref a.eInvalidText) (.ref a.eInvalidCount) = some false
  k_InvalidText_InvalidKey : PySem.W.kitOne K (.ref a.eInvalidText) (.ref a.eInvalidKey) = some false
  k_InvalidText_InvalidMarks : PySem.W.kitOne K (.ref a.eInvalidText) (.ref a.eInvalidMarks) = some false
  k_InvalidText_InvalidStand : PySem.W.kitOne K (.ref a.eInvalidText) (.ref a.eInvalidStand) = some false
  k_InvalidText_InvalidPlace : PySem.W.kitOne K (.ref a.eInvalidText) (.ref a.eInvalidPlace) = some false
  k_InvalidText_InvalidLine : PySem.W.kitOne K (.ref a.eInvalidText) (.ref a.eInvalidLine) = some false
  k_InvalidText_InvalidNumber : PySem.W.kitOne K (.ref a.eInvalidText) (.ref a.eInvalidNumber) = some false
  k_InvalidText_NotWritten : PySem.W.kitOne K (.ref a.eInvalidText) (.ref a.eNotWritten) = some false
  v_InvalidText : PySem.W.kitOne K (.ref a.eInvalidText) (.type "ValueError") = some true
  x_InvalidText : PySem.W.exmOne K (.ref a.eInvalidText) (.ref a.eReadingError) = some true
  k_InvalidCount_InvalidPage : PySem.W.kitOne K (.ref a.eInvalidCount) (.ref a.eInvalidPage) = some false
  k_InvalidCount_InvalidBook : PySem.W.kitOne K (.ref a.eInvalidCount) (.ref a.eInvalidBook) = some false
  k_InvalidCount_InvalidText : PySem.W.kitOne K (.ref a.eInvalidCount) (.ref a.eInvalidText) = some false
  k_InvalidCount_InvalidCells : PySem.W.kitOne K (.ref a.eInvalidCount) (.ref a.eInvalidCells) = some false
  k_InvalidCount_InvalidWidth : PySem.W.kitOne K (.ref a.eInvalidCount) (.ref a.eInvalidWidth) = some false
  k_InvalidCount_InvalidCount : PySem.W.kitOne K (.ref a.eInvalidCount) (.ref a.eInvalidCount) = some true
  k_InvalidCount_InvalidKey : PySem.W.kitOne K (.ref a.eInvalidCount) (.ref a.eInvalidKey) = some false
  k_InvalidCount_InvalidMarks : PySem.W.kitOne K (.ref a.eInvalidCount) (.ref a.eInvalidMarks) = some false
  k_InvalidCount_InvalidStand : PySem.W.kitOne K (.ref a.eInvalidCount) (.ref a.eInvalidStand) = some false
  k_InvalidCount_InvalidPlace : PySem.W.kitOne K (.ref a.eInvalidCount) (.ref a.eInvalidPlace) = some false
  k_InvalidCount_InvalidLine : PySem.W.kitOne K (.ref a.eInvalidCount) (.ref a.eInvalidLine) = some false
  k_InvalidCount_InvalidNumber : PySem.W.kitOne K (.ref a.eInvalidCount) (.ref a.eInvalidNumber) = some false
  k_InvalidCount_NotWritten : PySem.W.kitOne K (.ref a.eInvalidCount) (.ref a.eNotWritten) = some false
  v_InvalidCount : PySem.W.kitOne K (.ref a.eInvalidCount) (.type "ValueError") = some true
  x_InvalidCount : PySem.W.exmOne K (.ref a.eInvalidCount) (.ref a.eReadingError) = some true
  k_InvalidWidth_InvalidPage : PySem.W.kitOne K (.ref a.eInvalidWidth) (.ref a.eInvalidPage) = some false
  k_InvalidWidth_InvalidBook : PySem.W.kitOne K (.ref a.eInvalidWidth) (.ref a.eInvalidBook) = some false
  k_InvalidWidth_InvalidText : PySem.W.kitOne K (.ref a.eInvalidWidth) (.ref a.eInvalidText) = some false
  k_InvalidWidth_InvalidCells : PySem.W.kitOne K (.ref a.eInvalidWidth) (.ref a.eInvalidCells) = some false
  k_InvalidWidth_InvalidWidth : PySem.W.kitOne K (.ref a.eInvalidWidth) (.ref a.eInvalidWidth) = some true
  k_InvalidWidth_InvalidCount : PySem.W.kitOne K (.ref a.eInvalidWidth) (.ref a.eInvalidCount) = some false
  k_InvalidWidth_InvalidKey : PySem.W.kitOne K (.ref a.eInvalidWidth) (.ref a.eInvalidKey) = some false
  k_InvalidWidth_InvalidMarks : PySem.W.kitOne K (.ref a.eInvalidWidth) (.ref a.eInvalidMarks) = some false
  k_InvalidWidth_InvalidStand : PySem.W.kitOne K (.ref a.eInvalidWidth) (.ref a.eInvalidStand) = some false
  k_InvalidWidth_InvalidPlace : PySem.W.kitOne K (.ref a.eInvalidWidth) (.ref a.eInvalidPlace) = some false
  k_InvalidWidth_InvalidLine : PySem.W.kitOne K (.ref a.eInvalidWidth) (.ref a.eInvalidLine) = some false
  k_InvalidWidth_InvalidNumber : PySem.W.kitOne K (.ref a.eInvalidWidth) (.ref a.eInvalidNumber) = some false
  k_InvalidWidth_NotWritten : PySem.W.kitOne K (.ref a.eInvalidWidth) (.ref a.eNotWritten) = some false
  v_InvalidWidth : PySem.W.kitOne K (.ref a.eInvalidWidth) (.type "ValueError") = some true
  x_InvalidWidth : PySem.W.exmOne K (.ref a.eInvalidWidth) (.ref a.eReadingError) = some true
  k_InvalidMarks_InvalidPage : PySem.W.kitOne K (.ref a.eInvalidMarks) (.ref a.eInvalidPage) = some false
  k_InvalidMarks_InvalidBook : PySem.W.kitOne K (.ref a.eInvalidMarks) (.ref a.eInvalidBook) = some false
  k_InvalidMarks_InvalidText : PySem.W.kitOne K (.ref a.eInvalidMarks) (.ref a.eInvalidText) = some false
  k_InvalidMarks_InvalidCells : PySem.W.kitOne K (.ref a.eInvalidMarks) (.ref a.eInvalidCells) = some false
  k_InvalidMarks_InvalidWidth : PySem.W.kitOne K (.ref a.eInvalidMarks) (.ref a.eInvalidWidth) = some false
  k_InvalidMarks_InvalidCount : PySem.W.kitOne K (.ref a.eInvalidMarks) (.ref a.eInvalidCount) = some false
  k_InvalidMarks_InvalidKey : PySem.W.kitOne K (.ref a.eInvalidMarks) (.ref a.eInvalidKey) = some false
  k_InvalidMarks_InvalidMarks : PySem.W.kitOne K (.ref a.eInvalidMarks) (.ref a.eInvalidMarks) = some true
  k_InvalidMarks_InvalidStand : PySem.W.kitOne K (.ref a.eInvalidMarks) (.ref a.eInvalidStand) = some false
  k_InvalidMarks_InvalidPlace : PySem.W.kitOne K (.ref a.eInvalidMarks) (.ref a.eInvalidPlace) = some false
  k_InvalidMarks_InvalidLine : PySem.W.kitOne K (.ref a.eInvalidMarks) (.ref a.eInvalidLine) = some false
  k_InvalidMarks_InvalidNumber : PySem.W.kitOne K (.ref a.eInvalidMarks) (.ref a.eInvalidNumber) = some false
  k_InvalidMarks_NotWritten : PySem.W.kitOne K (.ref a.eInvalidMarks) (.ref a.eNotWritten) = some false
  v_InvalidMarks : PySem.W.kitOne K (.ref a.eInvalidMarks) (.type "ValueError") = some true
  x_InvalidMarks : PySem.W.exmOne K (.ref a.eInvalidMarks) (.ref a.eReadingError) = some true
  g_NOTHING : ∃ t, mg "NOTHING" = some (.str (Str.ofString "edge") t)
  g_CONDITIONS : mg "CONDITIONS" = some (.ref a.cCONDITIONS)
  t_CONDITIONS : TupK K a.cCONDITIONS [.str (Str.ofString "any"), .str (Str.ofString "blank"), .str (Str.ofString "letter"), .str (Str.ofString "figure"), .str (Str.ofString "point"), .str (Str.ofString "inner"), .str (Str.ofString "outer"), .str (Str.ofString "edge")]
  g_STRANGE : ∃ t, mg "STRANGE" = some (.int (63) t)
local macro_rules | `(tactic| walk_at "p1") => `(tactic| first
  | (with_reducible refine se_seq ?_)
  | (with_reducible refine se_asg ?_)
  | (with_reducible refine se_ret ?_)
  | (with_reducible refine se_drop ?_)
  | (with_reducible refine se_if ?_)
  | (with_reducible refine se_next ?_)
  | ((with_reducible apply ee_var); rfl)
  | (with_reducible refine ee_c ?_)
  | (with_reducible refine ee_op ?_)
  | (with_reducible refine ee_un ?_)
  | (with_reducible refine ee_cb ?_)
  | (with_reducible refine ea_cons ?_)
  | (with_reducible refine ea_nil ?_)
  | (with_reducible refine ee_sl ?_)
  | (with_reducible refine eo_none ?_)
  | (with_reducible refine eo_some ?_)
  | (with_reducible refine et_test ?_)
  | (with_reducible refine et_not ?_)
  | (with_reducible refine et_B ?_)
  | (with_reducible refine et_and ?_)
  | (with_reducible refine et_or ?_)
  | (with_reducible refine et_yes ?_)
  | (with_reducible refine ee_andV ?_)
  | (with_reducible refine ee_orV ?_)
  | (with_reducible refine ee_notV ?_)
  | (with_reducible refine ee_if ?_)
  | (with_reducible refine ee_chain ?_)
  | (with_reducible refine oo_add ?_)
  | (with_reducible refine oo_lt ?_)
  | (with_reducible refine oo_le ?_)
  | (with_reducible refine oo_leS ?_)
  | (with_reducible refine oo_ltS ?_)
  | (with_reducible refine oo_I0 ?_)
  | (with_reducible refine cc_int ?_)
  | (with_reducible refine cc_max ?_)
  | (with_reducible refine cc_min ?_)
  | (with_reducible refine uu_neg ?_)
  | (refine oo_eq (by rfl) ?_)
  | (refine oo_ne (by rfl) ?_)
  | (with_reducible refine oo_isN ?_)
  | (with_reducible refine oo_notN ?_)
  | (refine cc_isP (by first | rfl | assumption) ?_)
  | (refine cc_isP2 (by first | rfl | assumption) ?_)
  | (refine cc_isP3 (by first | rfl | assumption) ?_)
  | (with_reducible refine ge_name ?_)
  | (refine gw_name (by decide) ?_)
  | (refine ee_tup ?_)
  | (refine ⟨_, rfl, ?_⟩)
  | (refine ⟨_, _, rfl, ?_⟩)
  | (refine ⟨(rfl : yes = yes), ?_⟩)
  | (refine ⟨Nat.le_of_ble_eq_true rfl, ?_⟩)
  | (refine ⟨fun _ => ?_, fun h => absurd (show true = false from h) (by decide)⟩)
  | (refine ⟨fun h => absurd (show false = true from h) (by decide), fun _ => ?_⟩)
  | (refine ⟨fun _ => ?_, fun h => absurd (show false = true from h) (by decide)⟩)
  | (refine ⟨fun h => absurd (show true = false from h) (by decide), fun _ => ?_⟩))
local macro_rules | `(tactic| walk_at "pp") => `(tactic| repeat walk_at "p1")
local macro_rules | `(tactic| walk_at "p0") => `(tactic| try dsimp only [cxOf])
local macro_rules | `(tactic| walk_at "gp") => `(tactic| dsimp only)
/-! ### the purse -/
def PuOk (n : Nat) (l : List D) : Prop := ∃ p0 p1 p2 p3 : Int, l = [.int p0, .int p1, .int p2, .int p3] ∧ 0 ≤ p1 ∧ p1 < 2147483648 ∧ 0 ≤ p2 ∧ p2 ≤ n ∧ 0 ≤ p3 ∧ p3 ≤ 1000
theorem PuOk.cl {n : Nat} {l : List D} (h : PuOk n l) : D.ltL 0 l = true := by
  obtain ⟨p0, p1, p2, p3, rfl, _⟩ := h
  rfl
theorem mulW {i j : Int} (a b : Nat) (h1 : i.natAbs < 2 ^ a) (h2 : j.natAbs < 2 ^ b) (h0 : 0 < a := by decide) (h3 : 0 < b := by decide) (h : a + b ≤ 1000000 := by decide) : CMulW i j := wide_mul h1 h2 h0 h3 h
abbrev spMixed (K : PySem.W.Frag) : Sp := ProP K (T := Int × Int × Int) (fun t => [.int t.1, .int t.2.1, .int t.2.2]) (fun t => 0 ≤ t.1 ∧ t.1 < 2147483648 ∧ 0 ≤ t.2.1 ∧ t.2.1 < 1000000003 ∧ 0 ≤ t.2.2 ∧ t.2.2 ≤ 1000) (fun _ d => ∃ v : Int, d = .int v ∧ 0 ≤ v ∧ v < 2147483648) (fun _ _ _ => False)
abbrev st__law_mixed : Stmt := top 70
abbrev nm__law_mixed : List Str := ["seed", "spin", "at", "mixed"]
theorem sc__law_mixed : FnScope nm__law_mixed ["seed", "spin", "at"] (defScope st__law_mixed) := ⟨rfl, rfl, rfl, by decide +kernel, rfl, by decide +kernel, by decide +kernel⟩
theorem ok_mixed {P : Program} {w : World} {K : PySem.W.Frag} {mg : Str → Option Value} {base : Heap} {a : Ad} {f : Addr} {fd : FuncData} (F : Fun K "_law_mixed" "_law_mixed" st__law_mixed f fd) (T : Tx P w K mg base a) : FnOk P w K mg base (L2.CX P w) 1 f fd ["seed", "spin", "at"] (spMixed K) := by
  refine F.okX sc__law_mixed (fun vs H Q E h => pro_len h fun _ => rfl) (fun cdv A outer s H vs Q E hr h => ⟨_, (pss_cons (ps_set (i := 3) sc__law_mixed.nd rfl (by first | exact Or.inl rfl | exact Or.inr rfl) (pe_op (kO K rPlus rfl op_plus) (pe_op op_timesU (pv 0) pe_int) (pe_op op_timesU (pe_op op_timesU pe_int (pv 1)) (pv 1))))
    (pss_cons (ps_set (i := 3) sc__law_mixed.nd rfl (by first | exact Or.inl rfl | exact Or.inr rfl) (pe_op op_mod (pe_callTy call_int1 (by rfl) T.b_int (by decide +kernel) (pa_cons (pe_op (kO K rPlus rfl op_plus) (pe_op (kO K rPlus rfl op_plus) (pv 3) (pe_op op_timesU pe_int (pv 2))) (pv 1)) pa_nil)) pe_int))
    (pss_cons (ps_set (i := 3) sc__law_mixed.nd rfl (by first | exact Or.inl rfl | exact Or.inr rfl) (pe_op op_mod (pe_callTy call_int1 (by rfl) T.b_int (by decide +kernel) (pa_cons (pe_op (kO K rPlus rfl op_plus) (pe_op op_timesU (pv 3) (pv 3)) pe_int) pa_nil)) pe_int))
    (pss_one (ps_ret (pe_op op_mod (pe_callTy call_int1 (by rfl) T.b_int (by decide +kernel) (pa_cons (pe_op op_timesU (pv 3) pe_int) pa_nil)) pe_int)))))), run_body h fun ⟨s, n, at'⟩ S ⟨h1, h2, h3, h4, h5, h6⟩ hl hcl wi => ?_⟩)
  dsimp only at h1 h2 h3 h4 h5 h6
  walk_at "p0"
  have m1 : 0 ≤ n * n ∧ n * n ≤ 1000000003 * 1000000003 := ⟨Int.mul_nonneg h3 h3, Int.mul_le_mul (by omega) (by omega) h3 (by omega)⟩
  walk_at "pp"
  refine oo_mul (mulW 32 40 (by omega) (by decide)) ?_
  walk_at "pp"
  refine oo_mul (mulW 40 32 (by decide) (by omega)) ?_
  walk_at "pp"
  refine oo_mul (mulW 70 32 (by omega) (by omega)) ?_
  walk_at "pp"
  refine oo_mul (mulW 40 32 (by decide) (by omega)) ?_
  walk_at "pp"
  refine oo_mod (by decide) ?_
  walk_at "pp"
  have b1 := Int.emod_nonneg (s * 69069 + 104729 * n * n + 7919 * at' + n) (show (2147483647 : Int) ≠ 0 by decide)
  have b2 := Int.emod_lt_of_pos (s * 69069 + 104729 * n * n + 7919 * at' + n) (show (0 : Int) < 2147483647 by decide)
  refine oo_mul (mulW 32 32 (by omega) (by omega)) ?_
  walk_at "pp"
  refine oo_mod (by decide) ?_
  walk_at "pp"
  generalize (s * 69069 + 104729 * n * n + 7919 * at' + n) % 2147483647 = z
  have b3 := Int.emod_nonneg (z * z + 40503) (show (2147483629 : Int) ≠ 0 by decide)
  have b4 := Int.emod_lt_of_pos (z * z + 40503) (show (0 : Int) < 2147483629 by decide)
  refine oo_mul (mulW 32 32 (by omega) (by omega)) ?_
  walk_at "pp"
  refine oo_mod (by decide) ?_
  walk_at "pp"
  have b5 := Int.emod_nonneg ((z * z + 40503) % 2147483629 * 48271) (show (2147483587 : Int) ≠ 0 by decide)
  have b6 := Int.emod_lt_of_pos ((z * z + 40503) % 2147483629 * 48271) (show (0 : Int) < 2147483587 by decide)
  walk_at "gp"
  refine gaveP hl (by rfl) ?_
  exact ⟨_, rfl, b5, by omega⟩
theorem bits_le {m : Int} (h0 : 0 < m) (h : m ≤ 1000000) : Builtin.Int.intBits m ≤ 27 := by
  have h1 : m.natAbs.log2 < 27 := by
    rw [Nat.log2_lt (by omega)]
    have : (1000000 : Nat) < 2 ^ 27 := by decide
    omega
  unfold Builtin.Int.intBits
  split <;> omega
abbrev spDraw (K : PySem.W.Frag) : Sp := Pro K (T := List D × Int × Nat) (fun t => [.lst t.1]) (fun t => [.own 0, .int t.2.1]) (fun t => PuOk t.2.2 t.1 ∧ 0 < t.2.1 ∧ t.2.1 ≤ 1000000 ∧ t.2.2 ≤ 1000000000)
  (fun t d μ => ∃ (v : Int) (l' : List D), d = .int v ∧ 0 ≤ v ∧ v < t.2.1 ∧ μ = [.lst l'] ∧ PuOk (t.2.2 + 1) l') (fun _ _ _ _ => False)
abbrev st__law_draw : Stmt := top 71
abbrev nm__law_draw : List Str := ["purse", "many", "drawn", "found", "piece"]
theorem sc__law_draw : FnScope nm__law_draw ["purse", "many"] (defScope st__law_draw) := ⟨rfl, rfl, rfl, by decide +kernel, rfl, by decide +kernel, by decide +kernel⟩
theorem ok_draw {P : Program} {w : World} {K : PySem.W.Frag} {mg : Str → Option Value} {base : Heap} {a : Ad} {f : Addr} {fd : FuncData} (F : Fun K "_law_draw" "_law_draw" st__law_draw f fd) (T : Tx P w K mg base a)
    (c__law_mixed : CalX P w K mg base 1 "_law_mixed" ["seed", "spin", "at"] (spMixed K)) : FnOk P w K mg base (L2.CX P w) 2 f fd ["purse", "many"] (spDraw K) := by
  refine F.okX sc__law_draw (fun vs H Q E h => pro_len h fun _ => rfl) (fun cdv A outer s H vs Q E hr h => ⟨_, (pss_cons (ps_if (pt_cmpR op_gt (pe_ix (kX K rIx rfl ix_seq) (pv 0) pe_int (fun _ _ => rfl)) pe_int (nomark _)) (pss_cons (ps_set (i := 2) sc__law_draw.nd rfl (by first | exact Or.inl rfl | exact Or.inr rfl) (pe_op op_mod (pe_callTy call_int1 (by rfl) T.b_int (by decide +kernel) (pa_cons (pe_ix (kX K rIx rfl ix_seq) (pv 0) pe_int (fun _ _ => rfl)) pa_nil)) (pv 1)))
    (pss_cons (ps_asg (pe_op op_fdivW (pe_ix (kX K rIx rfl ix_seq) (pv 0) pe_int (fun _ _ => rfl)) (pv 1)) (pg_sub (pv 0) pe_int pset_list))
    (pss_one (ps_ret (pv 2))))) pss_nil)
    (pss_cons (ps_set (i := 3) sc__law_draw.nd rfl (by first | exact Or.inl rfl | exact Or.inr rfl) pe_int)
    (pss_cons (ps_for (passes_of rfl) rfl (pi_range1 rfl T.b_range (pa_cons (pe_op (kO K rPlus rfl op_plus) pe_int (pe_op op_fdivW (pe_bits (pv 1)) pe_int)) pa_nil)) (pg_name (i := 4) sc__law_draw.nd rfl (by first | exact Or.inl rfl | exact Or.inr rfl))
      (pss_cons (ps_asg (pe_op (kO K rPlus rfl op_plus) (pe_ix (kX K rIx rfl ix_seq) (pv 0) pe_int (fun _ _ => rfl)) pe_int) (pg_sub (pv 0) pe_int pset_list))
    (pss_one (ps_set (i := 3) sc__law_draw.nd rfl (by first | exact Or.inl rfl | exact Or.inr rfl) (pe_op (kO K rPlus rfl op_plus) (pe_op op_timesU (pv 3) pe_int) (pe_c c__law_mixed hr (by first | decide | exact Nat.le_refl _) rfl (passes_call (takes_of rfl rfl rfl rfl) (fun _ _ _ _ h => h)) (pa_cons (pe_ix (kX K rIx rfl ix_seq) (pv 0) pe_int (fun _ _ => rfl)) (pa_cons (pe_ix (kX K rIx rfl ix_seq) (pv 0) pe_int (fun _ _ => rfl)) (pa_cons (pe_ix (kX K rIx rfl ix_seq) (pv 0) pe_int (fun _ _ => rfl)) pa_nil)))))))))
    (pss_one (ps_ret (pe_op op_mod (pe_callTy call_int1 (by rfl) T.b_int (by decide +kernel) (pa_cons (pv 3) pa_nil)) (pv 1))))))), run_body h fun ⟨l, m, n⟩ S ⟨⟨p0, p1, p2, p3, el, h1, h2, h3, h4, h5, h6⟩, hm0, hm1, hn⟩ hl hcl wi => ?_⟩)
  dsimp only at el hm0 hm1 hn h1 h2 h3 h4 h5 h6
  subst el
  have hS : S.A.length = 1 := hl
  walk_at "p0"
  have q : ∀ {d : D} {μ : List Cell} {C : D → List Cell → Prop} {l : List D} {i : Int}, μ[0]? = some (.lst l) → atI l i = some d → C d μ → OO K S (rIx K) (.own 0) (.int i) μ C := fun h1 h2 h3 => oo_ixO h1 h2 h3
  walk_at "pp"
  refine q rfl rfl ?_
  walk_at "pp"
  refine ⟨fun hb => ?_, fun hb => ?_⟩
  · walk_at "pp"
    refine q rfl rfl ?_
    walk_at "pp"
    refine oo_mod hm0 ?_
    walk_at "pp"
    refine se_asgG ?_
    walk_at "pp"
    refine q rfl rfl ?_
    walk_at "pp"
    refine oo_div (wide_div hm0 (b := 40) (by omega) (by decide) (by decide)) ?_
    refine ge_setL ?_
    walk_at "pp"
    refine ⟨0, 0, 0, _, rfl, rfl, rfl, rfl, ?_⟩
    walk_at "pp"
    walk_at "gp"
    refine gave1 hS (by rfl) (by rfl) ?_
    exact ⟨p0 % m, _, rfl, Int.emod_nonneg _ (by omega), Int.emod_lt_of_pos _ hm0, rfl, ⟨p0 / m, p1, p2, p3, rfl, h1, h2, h3, by omega, h5, h6⟩⟩
  · walk_at "pp"
    refine se_for (ie_rng1 ?_)
    walk_at "pp"
    refine ee_bits ?_
    walk_at "pp"
    refine oo_div (wide_div (by decide) (b := 40) (by decide) (by decide) (by decide)) ?_
    walk_at "pp"
    have hbit := bits_le hm0 hm1
    have e1 : (1 + ((Builtin.Int.intBits m : Nat) : Int) / 28) = 1 := by omega
    refine ⟨by rw [e1]; decide, by rw [e1]; decide, ?_⟩
    rw [e1]
    refine ⟨rfl, fun i δ μ => ∃ (fo : Int) (o : Option D) (l' : List D), δ = [some (.own 0), some (.int m), none, some (.int fo), o] ∧ μ = [.lst l'] ∧ 0 ≤ fo ∧ (i = 0 → fo = 0) ∧ PuOk (n + i) l', ⟨0, none, _, rfl, rfl, by decide, fun _ => rfl, ⟨p0, p1, p2, p3, rfl, h1, h2, h3, by omega, h5, h6⟩⟩, ?_, ?_⟩
    · rintro i x δ μ hi ⟨fo, o, l', rfl, rfl, f0, f1, ⟨p0, p1, p2, p3, rfl, h1, h2, h3, h4, h5, h6⟩⟩
      have hi0 : i = 0 := by
        have := (List.getElem?_eq_some_iff.mp hi).1
        have hl1 : (rng 0 (1 : Int).toNat).length = 1 := rfl
        omega
      subst hi0
      have fo0 := f1 rfl
      subst fo0
      walk_at "pp"
      refine se_asgG ?_
      walk_at "pp"
      refine q rfl rfl ?_
      walk_at "pp"
      refine ge_setL ?_
      walk_at "pp"
      refine ⟨0, 2, 2, _, rfl, rfl, rfl, rfl, ?_⟩
      walk_at "pp"
      refine oo_mul (mulW 32 40 (by decide) (by decide)) ?_
      walk_at "pp"
      refine ee_cz ?_
      walk_at "pp"
      refine q rfl rfl ?_
      walk_at "pp"
      refine q rfl rfl ?_
      walk_at "pp"
      refine q rfl rfl ?_
      walk_at "pp"
      refine ⟨(p1, p2 + 1, p3), ⟨h1, h2, by show 0 ≤ p2 + 1; omega, by show p2 + 1 < _; omega, h5, h6⟩, rfl, rfl, ?_⟩
      rintro r ⟨v, rfl, v0, v1⟩
      walk_at "pp"
      exact ⟨_, _, _, rfl, rfl, by omega, fun z => by omega, ⟨p0, p1, p2 + 1, p3, rfl, h1, h2, by omega, by omega, h5, h6⟩⟩
    · rintro δ μ ⟨fo, o, l', rfl, rfl, f0, f1, hp⟩
      walk_at "pp"
      refine oo_mod hm0 ?_
      walk_at "pp"
      walk_at "gp"
      refine gave1 hS (by rfl) hp.cl ?_
      exact ⟨fo % m, _, rfl, Int.emod_nonneg _ (by omega), Int.emod_lt_of_pos _ hm0, rfl, hp⟩


/-! ### doors -/
def okc (c : Nat) : Bool := decide (32 ≤ c) && decide (c ≤ 126)
theorem leS1 {c d : Nat} : (!decide (([d] : List Nat) < [c])) = decide (c ≤ d) := by
  by_cases h : c ≤ d
  · have : ¬ ([d] : List Nat) < [c] := by
      intro z
      cases z with
      | rel q => omega
      | cons q => cases q
    simp [this, h]
  · have : ([d] : List Nat) < [c] := .rel (by omega)
    simp [this, h]
def isTxt : D → Bool
  | .v (.str s) => (cp s).all okc
  | _ => false
def isTp (n : Nat) : D → Bool
  | .tup l => decide (l.length = n)
  | _ => false
def isCell : D → Bool
  | .v (.int i) => decide (0 ≤ i) && decide (i < 64)
  | _ => false
section
variable {P : Program} {w : World} {K : PySem.W.Frag} {mg : Str → Option Value} {base : Heap} {a : Ad} {f : Addr} {fd : FuncData}
abbrev spOf (K : PySem.W.Frag) (pre : D → Prop) (g : D → D) : Sp := ProP K (T := D) (fun d => [d]) pre (fun d r => r = g d) (fun _ _ _ => False)
def TxtPre (d : D) : Prop := d.pl = true ∧ ∀ s, d = .str s → (cp s).length ≤ 100000
abbrev st_is_whole : Stmt := top 16
abbrev nm_is_whole : List Str := ["value"]
theorem sc_is_whole : FnScope nm_is_whole ["value"] (defScope st_is_whole) := ⟨rfl, rfl, rfl, by decide +kernel, rfl, by decide +kernel, by decide +kernel⟩
theorem ok_is_whole (F : Fun K "is_whole" "is_whole" st_is_whole f fd) (T : Tx P w K mg base a) : FnOk P w K mg base (L2.CX P w) 1 f fd ["value"] (spOf K (fun d => d.pl = true) fun d => .bl (isWh d)) := by
  refine F.okX sc_is_whole (fun vs H Q E h => pro_len h fun _ => rfl) (fun cdv A outer s H vs Q E hr h => ⟨_, (pss_one (ps_ret (pe_and (pe_callB (kC K rIsiU rfl call_isU) (by rfl) T.b_isinstance (by decide +kernel) (pa_cons (pv 0) (pa_cons (pe_bltn (v := .ty "int") (by rfl) T.b_int (by decide +kernel) rfl) pa_nil))) (pe_one (pe_not (pe_callB (kC K rIsiU rfl call_isU) (by rfl) T.b_isinstance (by decide +kernel) (pa_cons (pv 0) (pa_cons (pe_bltn (v := .ty "bool") (by rfl) T.b_bool (by decide +kernel) rfl) pa_nil)))))))), run_body h fun d S hp hl hcl wi => ?_⟩)
  have hp : d.pl = true := hp
  walk_at "pp"
  refine ⟨fun hb => ?_, fun hb => ?_⟩
  · walk_at "pp"
    walk_at "gp"
    refine gaveP hl (by rfl) ?_
    show D.bl _ = D.bl (isWh d)
    rw [← is_wh hp, hb]
    rfl
  · walk_at "gp"
    refine gaveP hl (by rfl) ?_
    show D.bl _ = D.bl (isWh d)
    rw [← is_wh hp, hb]
    rfl
abbrev st_is_text : Stmt := top 18
abbrev nm_is_text : List Str := ["value", "sign"]
theorem sc_is_text : FnScope nm_is_text ["value"] (defScope st_is_text) := ⟨rfl, rfl, rfl, by decide +kernel, rfl, by decide +kernel, by decide +kernel⟩
theorem ok_is_text (F : Fun K "is_text" "is_text" st_is_text f fd) (T : Tx P w K mg base a) : FnOk P w K mg base (L2.CX P w) 1 f fd ["value"] (spOf K TxtPre fun d => .bl (isTxt d)) := by
  refine F.okX sc_is_text (fun vs H Q E h => pro_len h fun _ => rfl) (fun cdv A outer s H vs Q E hr h => ⟨_, (pss_one (ps_ret (pe_and (pe_callB (kC K rIsiU rfl call_isU) (by rfl) T.b_isinstance (by decide +kernel) (pa_cons (pv 0) (pa_cons (pe_bltn (v := .ty "str") (by rfl) T.b_str (by decide +kernel) rfl) pa_nil))) (pe_one (pe_callB (kC K rAll rfl (cr_all rfl)) (by rfl) T.b_all (by decide +kernel) (pa_cons (pe_lc (own := [("sign", 1)]) (tt := tYes) (g := (gName 1)) rfl sc_is_text.nd (pi_str (pv 0)) (blkOk_by (own := [("sign", 1)]) (N := nm_is_text) (sc := (defScope st_is_text)) (by decide +kernel)) (fun _ _ _ _ _ => (pg_name (i := 1) sc_is_text.nd rfl (by first | exact Or.inl rfl | exact Or.inr rfl))) (fun _ _ _ _ _ => pts_nil) (fun _ _ _ _ _ => (pe_chain op_leq op_leq pe_str (pv 1) pe_str))) pa_nil)))))), run_body h fun d S ⟨hp, hz⟩ hl hcl wi => ?_⟩)
  have hp : d.pl = true := hp
  have hl : S.A.length = 0 := hl
  walk_at "pp"
  refine ⟨fun hb => ?_, fun hb => ?_⟩
  · obtain ⟨s, rfl⟩ := is_str hp hb
    have lsg : (signs s).length = (cp s).length := by
      unfold signs
      rw [List.length_map]
      rfl
    walk_at "pp"
    refine ee_lc (ie_str ?_)
    walk_at "pp"
    refine ⟨fun _ h => h, trivial, fun _ => true, fun x => match x with | .v (.str s) => .bl ((cp s).all okc) | _ => .bl false, by have := hz s rfl; omega, fun x hx _ => ?_, fun x acc hx => ?_, ?_⟩
    · unfold signs at hx
      obtain ⟨c, hc, rfl⟩ := List.mem_map.mp hx
      rfl
    · unfold signs at hx
      obtain ⟨c, hc, rfl⟩ := List.mem_map.mp hx
      refine gw_name (by decide) ?_
      refine et_yes ?_
      refine ⟨rfl, rfl, fun _ => ?_⟩
      have e32 : (Str.ofString " ").cps.toList = [32] := by decide +kernel
      have e126 : (Str.ofString "~").cps.toList = [126] := by decide +kernel
      have fin : ∀ b : Bool, b = okc c → (.bl b : D) = .bl ((cp ⟨#[c]⟩).all okc) := fun b e => by rw [e]; show D.bl (okc c) = D.bl (okc c && true); rw [Bool.and_true]
      walk_at "pp"
      rw [e32]
      refine ⟨fun h1 => ?_, fun h1 => ?_⟩
      · rw [leS1] at h1
        have h1 : ¬ 32 ≤ c := of_decide_eq_false h1
        refine ⟨fin _ ?_, rfl⟩
        simp [okc, h1]
      · rw [leS1] at h1
        have h1 : 32 ≤ c := of_decide_eq_true h1
        walk_at "pp"
        rw [e126, leS1]
        refine ⟨fin _ ?_, rfl⟩
        simp [okc, h1]
    · have e : (((signs s).filter fun _ => true).map fun x => match x with | .v (.str s) => D.bl ((cp s).all okc) | _ => D.bl false) = ((cp s).map okc).map D.bl := by
        unfold signs
        rw [List.filter_eq_self.mpr fun _ _ => rfl, List.map_map, List.map_map]
        refine List.map_congr_left fun c _ => ?_
        show D.bl (okc c && true) = D.bl (okc c)
        rw [Bool.and_true]
      rw [e]
      walk_at "pp"
      refine cc_all (.lst _) ?_
      walk_at "gp"
      refine gaveP hl (by rfl) ?_
      show D.bl _ = D.bl ((cp s).all okc)
      rw [List.all_map]
      rfl
  · walk_at "gp"
    refine gaveP hl (by rfl) ?_
    cases d with
    | v x => cases x <;> first | rfl | (revert hb; simp [D.is, D.ty])
    | _ => rfl
abbrev st_is_tuple_of : Stmt := top 19
abbrev nm_is_tuple_of : List Str := ["value", "size"]
theorem sc_is_tuple_of : FnScope nm_is_tuple_of ["value", "size"] (defScope st_is_tuple_of) := ⟨rfl, rfl, rfl, by decide +kernel, rfl, by decide +kernel, by decide +kernel⟩
theorem ok_is_tuple_of (F : Fun K "is_tuple_of" "is_tuple_of" st_is_tuple_of f fd) (T : Tx P w K mg base a) : FnOk P w K mg base (L2.CX P w) 1 f fd ["value", "size"] (ProP K (T := D × Nat) (fun t => [t.1, .int (t.2 : Int)]) (fun t => t.1.pl = true) (fun t r => r = .bl (isTp t.2 t.1)) (fun _ _ _ => False)) := by
  refine F.okX sc_is_tuple_of (fun vs H Q E h => pro_len h fun _ => rfl) (fun cdv A outer s H vs Q E hr h => ⟨_, (pss_one (ps_ret (pe_and (pe_callB (kC K rIsiU rfl call_isU) (by rfl) T.b_isinstance (by decide +kernel) (pa_cons (pv 0) (pa_cons (pe_bltn (v := .ty "tuple") (by rfl) T.b_tuple (by decide +kernel) rfl) pa_nil))) (pe_one (pe_cmpR (kO K rEqU rfl (op_eqU (hu64 hr))) (pe_callB (kC K rLenU rfl call_lenU) (by rfl) T.b_len (by decide +kernel) (pa_cons (pv 0) pa_nil)) (pv 1) (nomark _)))))), run_body h fun ⟨d, n⟩ S hp hl hcl wi => ?_⟩)
  have hp : d.pl = true := hp
  have hl : S.A.length = 0 := hl
  walk_at "pp"
  refine ⟨fun hb => ?_, fun hb => ?_⟩
  · obtain ⟨l, rfl⟩ := is_tup hp hb
    walk_at "pp"
    refine cc_len (.tup _) ?_
    walk_at "pp"
    walk_at "gp"
    refine gaveP hl (by rfl) ?_
    show D.bl _ = D.bl (decide (l.length = n))
    exact congrArg D.bl (decide_eq_decide.mpr ⟨fun h => by injection h with h; omega, fun h => by rw [h]⟩)
  · walk_at "gp"
    refine gaveP hl (by rfl) ?_
    cases d with
    | tup l => revert hb; simp [D.is, D.ty]
    | _ => rfl
def condS : List Str := ["any", "blank", "letter", "figure", "point", "inner", "outer", "edge"].map Str.ofString
def isCond : D → Bool
  | .v (.str s) => inV (.str s) (condS.map V.str)
  | _ => false
abbrev st_is_one_of : Stmt := top 20
abbrev nm_is_one_of : List Str := ["value", "words"]
theorem sc_is_one_of : FnScope nm_is_one_of ["value", "words"] (defScope st_is_one_of) := ⟨rfl, rfl, rfl, by decide +kernel, rfl, by decide +kernel, by decide +kernel⟩
theorem ok_is_one_of (F : Fun K "is_one_of" "is_one_of" st_is_one_of f fd) (T : Tx P w K mg base a) : FnOk P w K mg base (L2.CX P w) 1 f fd ["value", "words"] (ProP K (T := D) (fun d => [d, .tup ((condS.map V.str).map D.v)]) (fun d => d.pl = true) (fun d r => r = .bl (isCond d)) (fun _ _ _ => False)) := by
  refine F.okX sc_is_one_of (fun vs H Q E h => pro_len h fun _ => rfl) (fun cdv A outer s H vs Q E hr h => ⟨_, (pss_one (ps_ret (pe_and (pe_callB (kC K rIsiU rfl call_isU) (by rfl) T.b_isinstance (by decide +kernel) (pa_cons (pv 0) (pa_cons (pe_bltn (v := .ty "str") (by rfl) T.b_str (by decide +kernel) rfl) pa_nil))) (pe_one (pe_cmpR (kO K rInU rfl op_inU) (pv 0) (pv 1) (by with_unfolding_all rfl)))))), run_body h fun d S hp hl hcl wi => ?_⟩)
  have hp : d.pl = true := hp
  have hl : S.A.length = 0 := hl
  walk_at "pp"
  refine ⟨fun hb => ?_, fun hb => ?_⟩
  · obtain ⟨s, rfl⟩ := is_str hp hb
    walk_at "pp"
    refine oo_inT (ys := condS.map V.str) rfl rfl ?_
    walk_at "gp"
    exact gaveP hl (by rfl) rfl
  · walk_at "gp"
    refine gaveP hl (by rfl) ?_
    cases d with
    | v x => cases x <;> first | rfl | (revert hb; simp [D.is, D.ty])
    | _ => rfl
abbrev st_is_cell : Stmt := top 24
abbrev nm_is_cell : List Str := ["value"]
theorem sc_is_cell : FnScope nm_is_cell ["value"] (defScope st_is_cell) := ⟨rfl, rfl, rfl, by decide +kernel, rfl, by decide +kernel, by decide +kernel⟩
theorem ok_is_cell (F : Fun K "is_cell" "is_cell" st_is_cell f fd) (T : Tx P w K mg base a) (c_is_whole : CalX P w K mg base 1 "is_whole" ["value"] (spOf K (fun d => d.pl = true) fun d => .bl (isWh d))) : FnOk P w K mg base (L2.CX P w) 2 f fd ["value"] (spOf K (fun d => d.pl = true) fun d => .bl (isCell d)) := by
  refine F.okX sc_is_cell (fun vs H Q E h => pro_len h fun _ => rfl) (fun cdv A outer s H vs Q E hr h => ⟨_, (pss_one (ps_ret (pe_and (pe_c c_is_whole hr (by first | decide | exact Nat.le_refl _) rfl (passes_call (takes_of rfl rfl rfl rfl) (fun _ _ _ _ h => h)) (pa_cons (pv 0) pa_nil)) (pe_one (pe_chain op_leq op_less pe_int (pv 0) pe_int))))), run_body h fun d S hp hl hcl wi => ?_⟩)
  have hp : d.pl = true := hp
  have hl : S.A.length = 0 := hl
  have hd0 : D.ltL 0 [d] = true := by rw [hl] at hcl; exact hcl
  walk_at "pp"
  refine ee_cz ?_
  walk_at "pp"
  refine ⟨d, hp, rfl, hd0, ?_⟩
  rintro r rfl
  refine ⟨_, rfl, fun hb => ?_, fun hb => ?_⟩
  · obtain ⟨i, rfl⟩ := wh_int hb
    walk_at "pp"
    refine ⟨fun h1 => ?_, fun h1 => ?_⟩
    · walk_at "gp"
      refine gaveP hl (by rfl) ?_
      show D.bl false = D.bl (decide (0 ≤ i) && decide (i < 64))
      rw [h1]
      rfl
    · walk_at "pp"
      walk_at "gp"
      refine gaveP hl (by rfl) ?_
      show D.bl _ = D.bl (decide (0 ≤ i) && decide (i < 64))
      rw [h1]
      rfl
  · walk_at "gp"
    refine gaveP hl (by rfl) ?_
    cases d with
    | v x => cases x <;> first | rfl | cases hb
    | _ => rfl
abbrev spCheck (K : PySem.W.Frag) (pre : D → Prop) (g : D → Bool) (c : Addr) : Sp := ProP K (T := D) (fun d => [d]) pre (fun d r => r = .non ∧ g d = true) (fun d c' v => g d = false ∧ c' = c ∧ v = d)
abbrev st_check_text : Stmt := top 22
abbrev nm_check_text : List Str := ["value"]
theorem sc_check_text : FnScope nm_check_text ["value"] (defScope st_check_text) := ⟨rfl, rfl, rfl, by decide +kernel, rfl, by decide +kernel, by decide +kernel⟩
theorem ok_check_text (F : Fun K "check_text" "check_text" st_check_text f fd) (T : Tx P w K mg base a) (c_is_text : CalX P w K mg base 1 "is_text" ["value"] (spOf K TxtPre fun d => .bl (isTxt d))) : FnOk P w K mg base (L2.CX P w) 3 f fd ["value"] (spCheck K TxtPre isTxt a.eInvalidText) := by
  refine F.okX sc_check_text (fun vs H Q E h => pro_len h fun _ => rfl) (fun cdv A outer s H vs Q E hr h => ⟨_, (pss_one (ps_if (pt_not (pt_val (pe_c c_is_text hr (by first | decide | exact Nat.le_refl _) rfl (passes_call (takes_of rfl rfl rfl rfl) (fun _ _ _ _ h => h)) (pa_cons (pv 0) pa_nil)))) (pss_one (ps_raiseC rfl T.e_InvalidText hr (by decide) (takes_of rfl rfl rfl rfl) rfl (pa_cons (pv 0) pa_nil))) pss_nil)), run_body h fun d S hp hl hcl wi => ?_⟩)
  have hl : S.A.length = 0 := hl
  have hd0 : D.ltL 0 [d] = true := by rw [hl] at hcl; exact hcl
  walk_at "pp"
  refine ee_cz ?_
  walk_at "pp"
  refine ⟨d, hp, rfl, hd0, ?_⟩
  rintro r rfl
  walk_at "pp"
  refine ⟨fun hb => ?_, fun hb => ?_⟩
  · refine se_raise wi ?_
    walk_at "pp"
    refine ⟨by rw [hl]; exact (Bool.and_eq_true_iff.mp hd0).1, by rw [hl]; rfl, by simpa using hb, rfl, rfl⟩
  · walk_at "pp"
    walk_at "gp"
    exact gaveP hl (by rfl) ⟨rfl, by simpa using hb⟩
end


section
variable {P : Program} {w : World} {K : PySem.W.Frag} {mg : Str → Option Value} {base : Heap} {a : Ad} {f : Addr} {fd : FuncData}
def clsOf : List Nat → Str
  | [] => Str.ofString "edge"
  | c :: _ => if c = 32 then Str.ofString "blank" else if (97 ≤ c ∧ c ≤ 122) ∨ (65 ≤ c ∧ c ≤ 90) then Str.ofString "letter" else if 48 ≤ c ∧ c ≤ 57 then Str.ofString "figure" else Str.ofString "point"
abbrev spClass (K : PySem.W.Frag) : Sp := ProP K (T := Str) (fun s => [.str s]) (fun s => (cp s).length ≤ 1) (fun s r => r = .str (clsOf (cp s))) (fun _ _ _ => False)
theorem leC {c : Nat} {x : String} {d : Nat} (e : (Str.ofString x).cps.toList = [d]) : (!decide ((⟨#[c]⟩ : Str).cps.toList < (Str.ofString x).cps.toList)) = decide (d ≤ c) := by
  rw [e]
  exact leS1
theorem leC' {c : Nat} {x : String} {d : Nat} (e : (Str.ofString x).cps.toList = [d]) : (!decide ((Str.ofString x).cps.toList < (⟨#[c]⟩ : Str).cps.toList)) = decide (c ≤ d) := by
  rw [e]
  exact leS1
abbrev st_class_of_sign : Stmt := top 29
abbrev nm_class_of_sign : List Str := ["sign"]
theorem sc_class_of_sign : FnScope nm_class_of_sign ["sign"] (defScope st_class_of_sign) := ⟨rfl, rfl, rfl, by decide +kernel, rfl, by decide +kernel, by decide +kernel⟩
theorem ok_class_of_sign (F : Fun K "class_of_sign" "class_of_sign" st_class_of_sign f fd) (T : Tx P w K mg base a) : FnOk P w K mg base (L2.CX P w) 1 f fd ["sign"] (spClass K) := by
  refine F.okX sc_class_of_sign (fun vs H Q E h => pro_len h fun _ => rfl) (fun cdv A outer s H vs Q E hr h => ⟨_, (pss_cons (ps_if (pt_cmpR (kO K rEqU rfl (op_eqU (hu64 hr))) (pv 0) pe_str (nomark _)) (pss_one (ps_ret (pe_glob (v := .str (Str.ofString "edge")) rfl T.g_NOTHING.choose_spec ⟨_, rfl⟩))) pss_nil)
    (pss_cons (ps_if (pt_cmpR (kO K rEqU rfl (op_eqU (hu64 hr))) (pv 0) pe_str (nomark _)) (pss_one (ps_ret pe_str)) pss_nil)
    (pss_cons (ps_if (PW.pt (pw_or (pt_chain op_leq op_leq pe_str (pv 0) pe_str) (pw_or1 (pt_chain op_leq op_leq pe_str (pv 0) pe_str)))) (pss_one (ps_ret pe_str)) pss_nil)
    (pss_one (ps_ret (pe_ifExp (pt_chain op_leq op_leq pe_str (pv 0) pe_str) pe_str pe_str)))))), run_body h fun s S hs hl hcl wi => ?_⟩)
  have hl : S.A.length = 0 := hl
  have hs : (cp s).length ≤ 1 := hs
  walk_at "pp"
  refine ⟨fun hb => ?_, fun hb => ?_⟩
  · rw [strE] at hb
    have hb : cp s = [] := (of_decide_eq_true hb).trans (by decide +kernel)
    walk_at "pp"
    walk_at "gp"
    refine gaveP hl (by rfl) ?_
    show _ = D.str (clsOf (cp s))
    rw [hb]
    rfl
  rw [strE] at hb
  have hb : cp s ≠ [] := fun z => of_decide_eq_false hb (z.trans (by decide +kernel))
  obtain ⟨c, hc⟩ : ∃ c, cp s = [c] := by
    generalize cp s = l at hb hs
    match l, hb, hs with
    | [c], _, _ => exact ⟨c, rfl⟩
    | [], hb, _ => exact absurd rfl hb
    | _ :: _ :: _, _, hs => simp at hs
  have es : s = ⟨#[c]⟩ := cp_inj hc
  subst es
  walk_at "pp"
  have e32 : Str.ofString " " = ⟨#[32]⟩ := by decide +kernel
  rw [e32, str1]
  refine ⟨fun hb => ?_, fun hb => ?_⟩
  · have hb : c = 32 := of_decide_eq_true hb
    walk_at "pp"
    walk_at "gp"
    refine gaveP hl (by rfl) ?_
    show _ = D.str (clsOf [c])
    rw [hb]
    rfl
  have hb : c ≠ 32 := of_decide_eq_false hb
  have fin : ∀ z : Str, z = clsOf [c] → Gave S (fun d μ => μ = [] ∧ d = .str (clsOf (cp ⟨#[c]⟩))) (.str z) [] := fun z e => gaveP hl (by rfl) (by rw [e]; rfl)
  have cls : clsOf [c] = if (97 ≤ c ∧ c ≤ 122) ∨ (65 ≤ c ∧ c ≤ 90) then Str.ofString "letter" else if 48 ≤ c ∧ c ≤ 57 then Str.ofString "figure" else Str.ofString "point" := if_neg hb
  have q1 := leC (c := c) (x := "a") (d := 97) (by decide +kernel)
  have q2 := leC' (c := c) (x := "z") (d := 122) (by decide +kernel)
  have q3 := leC (c := c) (x := "A") (d := 65) (by decide +kernel)
  have q4 := leC' (c := c) (x := "Z") (d := 90) (by decide +kernel)
  have q5 := leC (c := c) (x := "0") (d := 48) (by decide +kernel)
  have q6 := leC' (c := c) (x := "9") (d := 57) (by decide +kernel)
  walk_at "pp"
  rcases Bool.eq_false_or_eq_true (decide (97 ≤ c)) with b1 | b1 <;> rcases Bool.eq_false_or_eq_true (decide (c ≤ 122)) with b2 | b2 <;> rcases Bool.eq_false_or_eq_true (decide (65 ≤ c)) with b3 | b3 <;> rcases Bool.eq_false_or_eq_true (decide (c ≤ 90)) with b4 | b4 <;> rcases Bool.eq_false_or_eq_true (decide (48 ≤ c)) with b5 | b5 <;> rcases Bool.eq_false_or_eq_true (decide (c ≤ 57)) with b6 | b6 <;>
    (have r1 := q1.trans b1
     have r2 := q2.trans b2
     have r3 := q3.trans b3
     have r4 := q4.trans b4
     have r5 := q5.trans b5
     have r6 := q6.trans b6
     simp only [decide_eq_true_eq, decide_eq_false_iff_not] at b1 b2 b3 b4 b5 b6
     first
       | (exfalso; omega)
       | (repeat (first | walk_at "p1" | rw [r1] | rw [r2] | rw [r3] | rw [r4] | rw [r5] | rw [r6])
          walk_at "gp"
          refine fin _ ?_
          rw [cls]
          first | rw [if_pos (by omega)] | rw [if_neg (by omega), if_pos (by omega)] | rw [if_neg (by omega), if_neg (by omega)]))
end


section
variable {P : Program} {w : World} {K : PySem.W.Frag} {mg : Str → Option Value} {base : Heap} {a : Ad} {f : Addr} {fd : FuncData}
/-- the same text -/
def sm (s t : Str) : Bool := decide (cp s = cp t)
theorem sm_v {s t : Str} : decide ((V.str s : V) = .str t) = sm s t := strE
theorem sm_b {s t : Str} : (s == t) = sm s t := by
  unfold sm
  by_cases h : s = t
  · subst h
    simp
  · rw [decide_eq_false (fun z => h (cp_inj z))]
    exact beq_eq_false_iff_ne.mpr h
def isInn (k : Str) : Bool := sm k (Str.ofString "letter") || sm k (Str.ofString "figure")
def hOf (c k : Str) : Bool := (sm c (Str.ofString "any") || sm c k) || ((sm c (Str.ofString "inner") && isInn k) || (sm c (Str.ofString "outer") && !isInn k))
theorem inV2 {s x y : Str} : inV (.str s) [.str x, .str y] = (sm s x || sm s y) := by
  show ((x == s) || ((y == s) || false)) = _
  rw [sm_b, sm_b, Bool.or_false]
  unfold sm
  rw [decide_eq_decide.mpr (eq_comm (a := cp x) (b := cp s)), decide_eq_decide.mpr (eq_comm (a := cp y) (b := cp s))]
abbrev st_holds_of : Stmt := top 30
abbrev nm_holds_of : List Str := ["condition", "kind", "is_inner"]
theorem sc_holds_of : FnScope nm_holds_of ["condition", "kind"] (defScope st_holds_of) := ⟨rfl, rfl, rfl, by decide +kernel, rfl, by decide +kernel, by decide +kernel⟩
theorem ok_holds_of (F : Fun K "holds_of" "holds_of" st_holds_of f fd) (T : Tx P w K mg base a) : FnOk P w K mg base (L2.CX P w) 1 f fd ["condition", "kind"] (ProP K (T := Str × Str) (fun t => [.str t.1, .str t.2]) (fun _ => True) (fun t r => r = .bl (hOf t.1 t.2)) (fun _ _ _ => False)) := by
  refine F.okX sc_holds_of (fun vs H Q E h => pro_len h fun _ => rfl) (fun cdv A outer s H vs Q E hr h => ⟨_, (pss_cons (ps_if (PW.pt (pw_or (pt_cmpR (kO K rEqU rfl (op_eqU (hu64 hr))) (pv 0) pe_str (nomark _)) (pw_or1 (pt_cmpR (kO K rEqU rfl (op_eqU (hu64 hr))) (pv 0) (pv 1) (nomark _))))) (pss_one (ps_ret pe_bl)) pss_nil)
    (pss_cons (ps_set (i := 2) sc_holds_of.nd rfl (by first | exact Or.inl rfl | exact Or.inr rfl) (pe_cmpR (kO K rInU rfl op_inU) (pv 1) (pe_tup (pa_cons pe_str (pa_cons pe_str pa_nil))) (by with_unfolding_all rfl)))
    (pss_one (ps_ret (pe_or (pe_and (pe_cmpR (kO K rEqU rfl (op_eqU (hu64 hr))) (pv 0) pe_str (nomark _)) (pe_one (pv 2))) (pe_one (pe_and (pe_cmpR (kO K rEqU rfl (op_eqU (hu64 hr))) (pv 0) pe_str (nomark _)) (pe_one (pe_not (pv 2)))))))))), run_body h fun ⟨c, k⟩ S _ hl hcl wi => ?_⟩)
  have hl : S.A.length = 0 := hl
  have fin : ∀ b : Bool, b = hOf c k → Gave S (fun d μ => μ = [] ∧ d = .bl (hOf c k)) (.bl b) [] := fun b e => gaveP hl (by rfl) (by rw [e])
  walk_at "pp"
  rw [sm_v]
  refine ⟨fun h1 => ?_, fun h1 => ?_⟩
  · walk_at "pp"
    walk_at "gp"
    exact fin _ (by unfold hOf; rw [h1]; rfl)
  walk_at "pp"
  rw [sm_v]
  refine ⟨fun h2 => ?_, fun h2 => ?_⟩
  · walk_at "pp"
    walk_at "gp"
    exact fin _ (by unfold hOf; rw [h1, h2]; rfl)
  walk_at "pp"
  refine oo_inT (ys := [.str (Str.ofString "letter"), .str (Str.ofString "figure")]) rfl rfl ?_
  rw [inV2]
  walk_at "pp"
  rw [sm_v]
  refine ⟨fun h3 => ?_, fun h3 => ?_⟩
  · walk_at "pp"
    refine ⟨fun h4 => ?_, fun h4 => ?_⟩
    · walk_at "pp"
      walk_at "gp"
      exact fin _ (by unfold hOf isInn; rw [h1, h2, h3, h4]; rfl)
    · walk_at "pp"
      rw [sm_v]
      refine ⟨fun h5 => ?_, fun h5 => ?_⟩
      · walk_at "pp"
        walk_at "gp"
        exact fin _ (by unfold hOf isInn; rw [h1, h2, h3, h4, h5]; rfl)
      · walk_at "pp"
        walk_at "gp"
        exact fin _ (by unfold hOf isInn; rw [h1, h2, h3, h4, h5]; rfl)
  · walk_at "pp"
    rw [sm_v]
    refine ⟨fun h5 => ?_, fun h5 => ?_⟩
    · walk_at "pp"
      walk_at "gp"
      exact fin _ (by unfold hOf isInn; rw [h1, h2, h3, h5]; rfl)
    · walk_at "pp"
      walk_at "gp"
      exact fin _ (by unfold hOf isInn; rw [h1, h2, h3, h5]; rfl)
abbrev st_holds : Stmt := top 31
abbrev nm_holds : List Str := ["condition", "sign"]
theorem sc_holds : FnScope nm_holds ["condition", "sign"] (defScope st_holds) := ⟨rfl, rfl, rfl, by decide +kernel, rfl, by decide +kernel, by decide +kernel⟩
theorem ok_holds (F : Fun K "holds" "holds" st_holds f fd) (T : Tx P w K mg base a) (c_class_of_sign : CalX P w K mg base 1 "class_of_sign" ["sign"] (spClass K)) (c_holds_of : CalX P w K mg base 1 "holds_of" ["condition", "kind"] (ProP K (T := Str × Str) (fun t => [.str t.1, .str t.2]) (fun _ => True) (fun t r => r = .bl (hOf t.1 t.2)) (fun _ _ _ => False))) : FnOk P w K mg base (L2.CX P w) 2 f fd ["condition", "sign"] (ProP K (T := Str × Str) (fun t => [.str t.1, .str t.2]) (fun t => (cp t.2).length ≤ 1) (fun t r => r = .bl (hOf t.1 (clsOf (cp t.2)))) (fun _ _ _ => False)) := by
  refine F.okX sc_holds (fun vs H Q E h => pro_len h fun _ => rfl) (fun cdv A outer s H vs Q E hr h => ⟨_, (pss_one (ps_ret (pe_c c_holds_of hr (by first | decide | exact Nat.le_refl _) rfl (passes_call (takes_of rfl rfl rfl rfl) (fun _ _ _ _ h => h)) (pa_cons (pv 0) (pa_cons (pe_c c_class_of_sign hr (by first | decide | exact Nat.le_refl _) rfl (passes_call (takes_of rfl rfl rfl rfl) (fun _ _ _ _ h => h)) (pa_cons (pv 1) pa_nil)) pa_nil))))), run_body h fun ⟨c, s⟩ S hs hl hcl wi => ?_⟩)
  have hl : S.A.length = 0 := hl
  walk_at "pp"
  refine ee_cz ?_
  walk_at "pp"
  refine ee_cz ?_
  walk_at "pp"
  refine ⟨s, hs, rfl, rfl, ?_⟩
  rintro d rfl
  walk_at "pp"
  refine ⟨(c, clsOf (cp s)), trivial, rfl, rfl, ?_⟩
  rintro d rfl
  walk_at "gp"
  exact gaveP hl (by rfl) rfl
/-! ### rules -/
def isEmp : D → Bool
  | .v (.str s) => sm s (Str.ofString "")
  | _ => false
def isCellT : D → Bool
  | .tup l => !l.isEmpty && l.all isCell
  | _ => false
def isRule : D → Bool
  | .tup [x, y, z, w] => (isTxt x && !isEmp x) && (isCellT y && (isCond z && isCond w))
  | _ => false
def isBook : D → Bool
  | .lst l => l.all isRule
  | _ => false
def IntB (c : D) : Prop := (∃ i : Int, c = .int i) ∨ ∃ b : Bool, c = .bl b
theorem IntB.pl {c : D} (h : IntB c) : c.pl = true := by
  rcases h with ⟨i, rfl⟩ | ⟨b, rfl⟩ <;> rfl
theorem IntB.cl {c : D} (h : IntB c) : c.lt 0 = true := by
  rcases h with ⟨i, rfl⟩ | ⟨b, rfl⟩ <;> rfl
theorem intb_py : ∀ {l : List D}, (∀ c ∈ l, IntB c) → ∃ ps, D.pyAll l = some ps ∧ PySem.PyData.canLayAll0 ps = true ∧ PySem.PyData.depthAll ps = 0 ∧ ps.isEmpty = l.isEmpty
  | [], _ => ⟨[], rfl, rfl, rfl, rfl⟩
  | c :: l, h => by
    obtain ⟨ps, h1, h2, h3, _⟩ := intb_py (l := l) fun x hx => h x (List.mem_cons_of_mem _ hx)
    rcases h c List.mem_cons_self with ⟨i, rfl⟩ | ⟨b, rfl⟩
    · refine ⟨.int i :: ps, ?_, ?_, ?_, rfl⟩
      · show (match D.py (.int i), D.pyAll l with | some p, some ps => some (p :: ps) | _, _ => none) = _
        rw [h1]
        rfl
      · show (true && _) = true
        rw [h2]
        rfl
      · show max 0 _ = 0
        rw [h3]
        rfl
    · refine ⟨.bool b :: ps, ?_, ?_, ?_, rfl⟩
      · show (match D.py (.bl b), D.pyAll l with | some p, some ps => some (p :: ps) | _, _ => none) = _
        rw [h1]
        rfl
      · show (true && _) = true
        rw [h2]
        rfl
      · show max 0 _ = 0
        rw [h3]
        rfl
theorem oo_eqT0 {S : Bs} {μ : List Cell} {C : D → List Cell → Prop} {l : List D} (h : ∀ c ∈ l, IntB c) (k : C (.bl l.isEmpty) μ) : OO K S (rEqU K) (.tup l) (.tup []) μ C := by
  obtain ⟨ps, h1, h2, h3, h4⟩ := intb_py h
  refine oo_eqD (p := .tuple ps) (q := .tuple []) ?_ rfl ?_ rfl ?_
  · show (D.pyAll l).map PyData.tuple = _
    rw [h1]
    rfl
  · show (PySem.PyData.canLayAll0 ps && decide (PySem.PyData.depthAll ps + 1 ≤ 64)) = true
    rw [h2, h3]
    rfl
  · have e : PyData.eqv (.tuple ps) (.tuple []) = l.isEmpty := by
      rw [← h4]
      cases ps <;> rfl
    rw [e]
    exact k
end


section
variable {P : Program} {w : World} {K : PySem.W.Frag} {mg : Str → Option Value} {base : Heap} {a : Ad} {f : Addr} {fd : FuncData}
def CellTPre (y : D) : Prop := y.pl = true ∧ ∀ l, y = .tup l → l.length ≤ 100000 ∧ ∀ c ∈ l, IntB c
/-- what may be asked of is_rule -/
def RulPre (d : D) : Prop := d.lt 0 = true ∧ d.pl = true ∧ ∀ x y z w, d = .tup [x, y, z, w] → TxtPre x ∧ CellTPre y ∧ z.pl = true ∧ w.pl = true
def BokPre (d : D) : Prop := d.pl = true ∧ ∀ l, d = .lst l → l.length ≤ 100000 ∧ ∀ r ∈ l, RulPre r
theorem tp4 {d : D} (h : isTp 4 d = true) : ∃ x y z w, d = .tup [x, y, z, w] := by
  cases d with
  | tup l =>
    have h : l.length = 4 := of_decide_eq_true h
    match l, h with
    | [x, y, z, w], _ => exact ⟨x, y, z, w, rfl⟩
  | _ => cases h
theorem not4 {d : D} (h : isTp 4 d = false) : isRule d = false := by
  cases d with
  | tup l =>
    match l with
    | [x, y, z, w] => cases h
    | [] => rfl
    | [_] => rfl
    | [_, _] => rfl
    | [_, _, _] => rfl
    | _ :: _ :: _ :: _ :: _ :: _ => rfl
  | _ => rfl
theorem txt_str {d : D} (h : isTxt d = true) : ∃ s, d = .str s := by
  cases d with
  | v x => cases x <;> first | exact ⟨_, rfl⟩ | cases h
  | _ => cases h
abbrev st_is_rule : Stmt := top 32
abbrev nm_is_rule : List Str := ["value", "cell"]
theorem sc_is_rule : FnScope nm_is_rule ["value"] (defScope st_is_rule) := ⟨rfl, rfl, rfl, by decide +kernel, rfl, by decide +kernel, by decide +kernel⟩
theorem ok_is_rule (F : Fun K "is_rule" "is_rule" st_is_rule f fd) (T : Tx P w K mg base a) (c_is_tuple_of : CalX P w K mg base 1 "is_tuple_of" ["value", "size"] (ProP K (T := D × Nat) (fun t => [t.1, .int (t.2 : Int)]) (fun t => t.1.pl = true) (fun t r => r = .bl (isTp t.2 t.1)) (fun _ _ _ => False))) (c_is_text : CalX P w K mg base 1 "is_text" ["value"] (spOf K TxtPre fun d => .bl (isTxt d)))
    (c_is_cell : CalX P w K mg base 2 "is_cell" ["value"] (spOf K (fun d => d.pl = true) fun d => .bl (isCell d))) (c_is_one_of : CalX P w K mg base 1 "is_one_of" ["value", "words"] (ProP K (T := D) (fun d => [d, .tup ((condS.map V.str).map D.v)]) (fun d => d.pl = true) (fun d r => r = .bl (isCond d)) (fun _ _ _ => False))) : FnOk P w K mg base (L2.CX P w) 3 f fd ["value"] (spOf K RulPre fun d => .bl (isRule d)) := by
  refine F.okX sc_is_rule (fun vs H Q E h => pro_len h fun _ => rfl) (fun cdv A outer s H vs Q E hr h => ⟨_, (pss_cons (ps_if (PW.pt (pw_or (pt_not (pt_val (pe_c c_is_tuple_of hr (by first | decide | exact Nat.le_refl _) rfl (passes_call (takes_of rfl rfl rfl rfl) (fun _ _ _ _ h => h)) (pa_cons (pv 0) (pa_cons pe_int pa_nil))))) (pw_or (pt_not (pt_val (pe_c c_is_text hr (by first | decide | exact Nat.le_refl _) rfl (passes_call (takes_of rfl rfl rfl rfl) (fun _ _ _ _ h => h)) (pa_cons (pe_ix (kX K rIx rfl ix_seq) (pv 0) pe_int (fun _ _ => rfl)) pa_nil)))) (pw_or1 (pt_cmpR (kO K rEqU rfl (op_eqU (hu64 hr))) (pe_ix (kX K rIx rfl ix_seq) (pv 0) pe_int (fun _ _ => rfl)) pe_str (nomark _)))))) (pss_one (ps_ret pe_bl)) pss_nil)
    (pss_cons (ps_if (PW.pt (pw_or (pt_not (pt_val (pe_callB (kC K rIsiU rfl call_isU) (by rfl) T.b_isinstance (by decide +kernel) (pa_cons (pe_ix (kX K rIx rfl ix_seq) (pv 0) pe_int (fun _ _ => rfl)) (pa_cons (pe_bltn (v := .ty "tuple") (by rfl) T.b_tuple (by decide +kernel) rfl) pa_nil))))) (pw_or (pt_cmpR (kO K rEqU rfl (op_eqU (hu64 hr))) (pe_ix (kX K rIx rfl ix_seq) (pv 0) pe_int (fun _ _ => rfl)) (pe_tup pa_nil) (nomark _)) (pw_or1 (pt_not (pt_val (pe_callB (kC K rAll rfl (cr_all rfl)) (by rfl) T.b_all (by decide +kernel) (pa_cons (pe_lc (own := [("cell", 1)]) (tt := tYes) (g := (gName 1)) rfl sc_is_rule.nd (pi_tupK (K := K) rfl (pe_ix (kX K rIx rfl ix_seq) (pv 0) pe_int (fun _ _ => rfl))) (blkOk_by (own := [("cell", 1)]) (N := nm_is_rule) (sc := (defScope st_is_rule)) (by decide +kernel)) (fun _ _ _ _ _ => (pg_name (i := 1) sc_is_rule.nd rfl (by first | exact Or.inl rfl | exact Or.inr rfl))) (fun _ _ _ _ _ => pts_nil) (fun _ _ _ _ _ => (pe_c c_is_cell hr (by first | decide | exact Nat.le_refl _) rfl passL (pa_cons (pv 1) pa_nil)))) pa_nil)))))))) (pss_one (ps_ret pe_bl)) pss_nil)
    (pss_one (ps_ret (pe_and (pe_c c_is_one_of hr (by first | decide | exact Nat.le_refl _) rfl (passes_call (takes_of rfl rfl rfl rfl) (fun _ _ _ _ h => h)) (pa_cons (pe_ix (kX K rIx rfl ix_seq) (pv 0) pe_int (fun _ _ => rfl)) (pa_cons (pe_glob (v := .ref a.cCONDITIONS) rfl T.g_CONDITIONS rfl) pa_nil))) (pe_one (pe_c c_is_one_of hr (by first | decide | exact Nat.le_refl _) rfl (passes_call (takes_of rfl rfl rfl rfl) (fun _ _ _ _ h => h)) (pa_cons (pe_ix (kX K rIx rfl ix_seq) (pv 0) pe_int (fun _ _ => rfl)) (pa_cons (pe_glob (v := .ref a.cCONDITIONS) rfl T.g_CONDITIONS rfl) pa_nil))))))))), run_body h fun d S ⟨hd0, hp, hin⟩ hl hcl wi => ?_⟩)
  have hl : S.A.length = 0 := hl
  have fin : ∀ b : Bool, b = isRule d → Gave S (fun r μ => μ = [] ∧ r = .bl (isRule d)) (.bl b) [] := fun b e => gaveP hl (by rfl) (by rw [e])
  walk_at "pp"
  refine ee_cz ?_
  walk_at "pp"
  refine ⟨(d, 4), hp, rfl, by show (d.lt 0 && true) = true; rw [hd0]; rfl, ?_⟩
  rintro r rfl
  refine ⟨_, rfl, ?_⟩
  try dsimp only
  refine ⟨fun h1 => ?_, fun h1 => ?_⟩
  · walk_at "pp"
    walk_at "gp"
    exact fin _ (by rw [not4 (by simpa using h1)])
  obtain ⟨x, y, z, w', rfl⟩ := tp4 (by simpa using h1)
  obtain ⟨hx, hy, hz, hw⟩ := hin x y z w' rfl
  have hd0 : (x.lt 0 && (y.lt 0 && (z.lt 0 && (w'.lt 0 && true)))) = true := hd0
  simp only [Bool.and_eq_true] at hd0
  obtain ⟨x0, y0, z0, w0, _⟩ := hd0
  walk_at "pp"
  refine ee_cz ?_
  walk_at "pp"
  refine oo_ixT (d := x) rfl ?_
  walk_at "pp"
  refine ⟨x, hx, rfl, by show (x.lt 0 && true) = true; rw [x0]; rfl, ?_⟩
  rintro r rfl
  refine ⟨_, rfl, ?_⟩
  try dsimp only
  refine ⟨fun h2 => ?_, fun h2 => ?_⟩
  · walk_at "pp"
    walk_at "gp"
    have h2 : isTxt x = false := by simpa using h2
    exact fin _ (by show false = ((isTxt x && !isEmp x) && _); rw [h2]; rfl)
  have h2 : isTxt x = true := by simpa using h2
  obtain ⟨t, rfl⟩ := txt_str h2
  walk_at "pp"
  refine oo_ixT (d := .str t) rfl ?_
  walk_at "pp"
  rw [sm_v]
  refine ⟨fun h3 => ?_, fun h3 => ?_⟩
  · walk_at "pp"
    walk_at "gp"
    exact fin _ (by show false = ((isTxt (.str t) && !sm t (Str.ofString "")) && _); rw [h2, h3]; rfl)
  have e1 : (isTxt (.str t) && !isEmp (.str t)) = true := by show (isTxt (.str t) && !sm t (Str.ofString "")) = true; rw [h2, h3]; rfl
  have fin : ∀ b : Bool, b = (isCellT y && (isCond z && isCond w')) → Gave S (fun r μ => μ = [] ∧ r = .bl (isRule (.tup [.str t, y, z, w']))) (.bl b) [] := fun b e => fin b (by show b = ((isTxt (.str t) && !isEmp (.str t)) && (isCellT y && (isCond z && isCond w'))); rw [e1, e]; rfl)
  walk_at "pp"
  refine oo_ixT (d := y) rfl ?_
  have hyp := hy.1
  walk_at "pp"
  refine ⟨fun h4 => ?_, fun h4 => ?_⟩
  · walk_at "pp"
    walk_at "gp"
    refine fin _ ?_
    cases y with
    | tup l => revert h4; simp [D.is, D.ty]
    | _ => rfl
  obtain ⟨l, rfl⟩ := is_tup hyp (by simpa using h4)
  obtain ⟨hlz, hli⟩ := hy.2 l rfl
  walk_at "pp"
  refine oo_ixT (d := .tup l) rfl ?_
  walk_at "pp"
  refine oo_eqT0 hli ?_
  walk_at "pp"
  refine ⟨fun h5 => ?_, fun h5 => ?_⟩
  · walk_at "pp"
    walk_at "gp"
    exact fin _ (by show false = ((!l.isEmpty && l.all isCell) && _); rw [h5]; rfl)
  walk_at "pp"
  refine ee_lc (ie_tup ?_)
  walk_at "pp"
  refine oo_ixT (d := .tup l) rfl ?_
  refine ⟨l, rfl, fun _ h => h, trivial, fun _ => true, fun c => .bl (isCell c), by omega, fun _ _ _ => rfl, fun c acc hc => ?_, ?_⟩
  · refine gw_name (by decide) ?_
    refine et_yes ?_
    refine ⟨rfl, rfl, fun _ => ?_⟩
    refine ee_cz ?_
    walk_at "pp"
    refine ⟨c, (hli c hc).pl, rfl, by show (c.lt 0 && true) = true; rw [(hli c hc).cl]; rfl, ?_⟩
    rintro r rfl
    exact ⟨rfl, rfl⟩
  have el : ((l.filter fun _ => true).map fun c => D.bl (isCell c)) = (l.map isCell).map D.bl := by
    rw [List.filter_eq_self.mpr fun _ _ => rfl, List.map_map]
    rfl
  rw [el]
  walk_at "pp"
  refine cc_all (.lst _) ?_
  have ea : (l.map isCell).all id = l.all isCell := by rw [List.all_map]; rfl
  rw [ea]
  walk_at "pp"
  refine ⟨fun h6 => ?_, fun h6 => ?_⟩
  · walk_at "pp"
    walk_at "gp"
    have h6 : l.all isCell = false := by simpa using h6
    exact fin _ (by show false = ((!l.isEmpty && l.all isCell) && _); rw [h6, h5]; rfl)
  have h6 : l.all isCell = true := by simpa using h6
  have fin : ∀ b : Bool, b = (isCond z && isCond w') → Gave S (fun r μ => μ = [] ∧ r = .bl (isRule (.tup [.str t, .tup l, z, w']))) (.bl b) [] := fun b e => fin b (by show b = ((!l.isEmpty && l.all isCell) && (isCond z && isCond w')); rw [h5, h6, e]; rfl)
  walk_at "pp"
  refine ee_cz ?_
  walk_at "pp"
  refine oo_ixT (d := z) rfl ?_
  refine ea_cons (ee_cT T.t_CONDITIONS ?_)
  walk_at "pp"
  refine ⟨z, hz, rfl, by show (z.lt 0 && (D.lt 0 (.tup ((condS.map V.str).map D.v)) && true)) = true; rw [z0]; rfl, ?_⟩
  rintro r rfl
  refine ⟨_, rfl, ?_⟩
  try dsimp only
  refine ⟨fun h7 => ?_, fun h7 => ?_⟩
  · refine ee_cz ?_
    walk_at "pp"
    refine oo_ixT (d := w') rfl ?_
    refine ea_cons (ee_cT T.t_CONDITIONS ?_)
    walk_at "pp"
    refine ⟨w', hw, rfl, by show (w'.lt 0 && (D.lt 0 (.tup ((condS.map V.str).map D.v)) && true)) = true; rw [w0]; rfl, ?_⟩
    rintro r rfl
    exact fin _ (by rw [h7]; rfl)
  · exact fin _ (by rw [h7]; rfl)
abbrev st_is_book : Stmt := top 33
abbrev nm_is_book : List Str := ["value", "rule"]
theorem sc_is_book : FnScope nm_is_book ["value"] (defScope st_is_book) := ⟨rfl, rfl, rfl, by decide +kernel, rfl, by decide +kernel, by decide +kernel⟩
theorem ok_is_book (F : Fun K "is_book" "is_book" st_is_book f fd) (T : Tx P w K mg base a) (c_is_rule : CalX P w K mg base 3 "is_rule" ["value"] (spOf K RulPre fun d => .bl (isRule d))) : FnOk P w K mg base (L2.CX P w) 4 f fd ["value"] (spOf K BokPre fun d => .bl (isBook d)) := by
  refine F.okX sc_is_book (fun vs H Q E h => pro_len h fun _ => rfl) (fun cdv A outer s H vs Q E hr h => ⟨_, (pss_one (ps_ret (pe_and (pe_callB (kC K rIsiU rfl call_isU) (by rfl) T.b_isinstance (by decide +kernel) (pa_cons (pv 0) (pa_cons (pe_bltn (v := .ty "list") (by rfl) T.b_list (by decide +kernel) rfl) pa_nil))) (pe_one (pe_callB (kC K rAll rfl (cr_all rfl)) (by rfl) T.b_all (by decide +kernel) (pa_cons (pe_lc (own := [("rule", 1)]) (tt := tYes) (g := (gName 1)) rfl sc_is_book.nd (pi_listK (K := K) rfl (pv 0)) (blkOk_by (own := [("rule", 1)]) (N := nm_is_book) (sc := (defScope st_is_book)) (by decide +kernel)) (fun _ _ _ _ _ => (pg_name (i := 1) sc_is_book.nd rfl (by first | exact Or.inl rfl | exact Or.inr rfl))) (fun _ _ _ _ _ => pts_nil) (fun _ _ _ _ _ => (pe_c c_is_rule hr (by first | decide | exact Nat.le_refl _) rfl passL (pa_cons (pv 1) pa_nil)))) pa_nil)))))), run_body h fun d S ⟨hp, hin⟩ hl hcl wi => ?_⟩)
  have hp : d.pl = true := hp
  have hl : S.A.length = 0 := hl
  walk_at "pp"
  refine ⟨fun hb => ?_, fun hb => ?_⟩
  · obtain ⟨l, rfl⟩ := is_lst hp hb
    obtain ⟨hz, hr⟩ := hin l rfl
    walk_at "pp"
    refine ee_lc (ie_list ?_)
    walk_at "pp"
    refine ⟨l, .inl rfl, fun _ h => h, trivial, fun _ => true, fun x => .bl (isRule x), by omega, fun _ _ _ => rfl, fun x acc hx => ?_, ?_⟩
    · refine gw_name (by decide) ?_
      refine et_yes ?_
      refine ⟨rfl, rfl, fun _ => ?_⟩
      refine ee_cz ?_
      walk_at "pp"
      refine ⟨x, hr x hx, rfl, by show (x.lt 0 && true) = true; rw [(hr x hx).1]; rfl, ?_⟩
      rintro r rfl
      exact ⟨rfl, rfl⟩
    have el : ((l.filter fun _ => true).map fun c => D.bl (isRule c)) = (l.map isRule).map D.bl := by
      rw [List.filter_eq_self.mpr fun _ _ => rfl, List.map_map]
      rfl
    rw [el]
    walk_at "pp"
    refine cc_all (.lst _) ?_
    have ea : (l.map isRule).all id = l.all isRule := by rw [List.all_map]; rfl
    rw [ea]
    walk_at "gp"
    exact gaveP hl (by rfl) rfl
  · walk_at "gp"
    refine gaveP hl (by rfl) ?_
    cases d with
    | lst l => revert hb; simp [D.is, D.ty]
    | _ => rfl
abbrev st_check_book : Stmt := top 34
abbrev nm_check_book : List Str := ["value"]
theorem sc_check_book : FnScope nm_check_book ["value"] (defScope st_check_book) := ⟨rfl, rfl, rfl, by decide +kernel, rfl, by decide +kernel, by decide +kernel⟩
theorem ok_check_book (F : Fun K "check_book" "check_book" st_check_book f fd) (T : Tx P w K mg base a) (c_is_book : CalX P w K mg base 4 "is_book" ["value"] (spOf K BokPre fun d => .bl (isBook d))) : FnOk P w K mg base (L2.CX P w) 5 f fd ["value"] (spCheck K BokPre isBook a.eInvalidBook) := by
  refine F.okX sc_check_book (fun vs H Q E h => pro_len h fun _ => rfl) (fun cdv A outer s H vs Q E hr h => ⟨_, (pss_one (ps_if (pt_not (pt_val (pe_c c_is_book hr (by first | decide | exact Nat.le_refl _) rfl (passes_call (takes_of rfl rfl rfl rfl) (fun _ _ _ _ h => h)) (pa_cons (pv 0) pa_nil)))) (pss_one (ps_raiseC rfl T.e_InvalidBook hr (by decide) (takes_of rfl rfl rfl rfl) rfl (pa_cons (pv 0) pa_nil))) pss_nil)), run_body h fun d S hp hl hcl wi => ?_⟩)
  have hl : S.A.length = 0 := hl
  have hd0 : D.ltL 0 [d] = true := by rw [hl] at hcl; exact hcl
  walk_at "pp"
  refine ee_cz ?_
  walk_at "pp"
  refine ⟨d, hp, rfl, hd0, ?_⟩
  rintro r rfl
  walk_at "pp"
  refine ⟨fun hb => ?_, fun hb => ?_⟩
  · refine se_raise wi ?_
    walk_at "pp"
    refine ⟨by rw [hl]; exact (Bool.and_eq_true_iff.mp hd0).1, by rw [hl]; rfl, by simpa using hb, rfl, rfl⟩
  · walk_at "pp"
    walk_at "gp"
    exact gaveP hl (by rfl) ⟨rfl, by simpa using hb⟩
end


section
variable {P : Program} {w : World} {K : PySem.W.Frag} {mg : Str → Option Value} {base : Heap} {a : Ad} {f : Addr} {fd : FuncData}
theorem starts_eq (s t : Str) : Txt.startswith s t = decide ((cp s).take (cp t).length = cp t) := by
  have hs := len_cp s
  have ht := len_cp t
  unfold Txt.startswith
  rw [show Builtin.Str.subAt s t 0 = ((s.cps.toList.drop 0).take t.length == t.cps.toList) from by first | exact PySem.StrLaws.subAt_eq s t 0 | exact PySem.Str.StrLaws.subAt_eq s t 0, ht]
  show (decide (0 + (cp t).length ≤ s.length) && ((cp s).drop 0).take (cp t).length == cp t) = _
  rw [List.drop_zero, hs]
  by_cases h : (cp s).take (cp t).length = cp t
  · have hl := congrArg List.length h
    rw [List.length_take] at hl
    rw [decide_eq_true (by omega), h, decide_eq_true rfl]
    simp
  · rw [decide_eq_false h]
    simp [h]
/-! ### rules that are right -/
def rT : D → Str
  | .tup (.v (.str t) :: _) => t
  | _ => Str.empty
def rC : D → List D
  | .tup [_, .tup l, _, _] => l
  | _ => []
def rX : D → Str
  | .tup [_, _, .v (.str x), _] => x
  | _ => Str.empty
def rY : D → Str
  | .tup [_, _, _, .v (.str y)] => y
  | _ => Str.empty
structure Good (d : D) : Prop where
  eq : d = .tup [.str (rT d), .tup (rC d), .str (rX d), .str (rY d)]
  t0 : 0 < (cp (rT d)).length
  t1 : (cp (rT d)).length ≤ 100
  tt : isTxt (.str (rT d)) = true
  c0 : 0 < (rC d).length
  c1 : (rC d).length ≤ 100
  cc : ∀ c ∈ rC d, ∃ i : Int, c = .int i ∧ 0 ≤ i ∧ i < 64
  x : isCond (.str (rX d)) = true
  y : isCond (.str (rY d)) = true
def GoodB (l : List D) : Prop := l.length ≤ 200 ∧ ∀ d ∈ l, Good d
def tl' (d : D) : Nat := (cp (rT d)).length
def fitP (d : D) (k : Str) (L : List Nat) : Bool := decide (L.take (tl' d) = cp (rT d)) && (hOf (rX d) k && hOf (rY d) (clsOf ((L.drop (tl' d)).take 1)))
theorem cells_cl {l : List D} (h : ∀ c ∈ l, ∃ i : Int, c = .int i ∧ 0 ≤ i ∧ i < 64) {n : Nat} : D.ltL n l = true := D.ltL_all.mpr fun x hx => by
  obtain ⟨i, rfl, _⟩ := h x hx
  rfl
theorem Good.cl {d : D} (h : Good d) {n : Nat} : d.lt n = true := by
  rw [h.eq]
  show (true && (D.ltL n (rC d) && (true && (true && true)))) = true
  rw [cells_cl h.cc]
  rfl
theorem GoodB.cl {l : List D} (h : GoodB l) {n : Nat} : D.ltL n l = true := D.ltL_all.mpr fun x hx => (h.2 x hx).cl
theorem take1 {l : List Nat} : (l.take 1).length ≤ 1 := by
  rw [List.length_take]
  omega
abbrev spFits (K : PySem.W.Frag) : Sp := ProP K (T := D × Str × Str) (fun t => [t.1, .str t.2.1, .str t.2.2]) (fun t => Good t.1 ∧ (cp t.2.2).length ≤ 100000) (fun t r => r = .bl (fitP t.1 t.2.1 (cp t.2.2))) (fun _ _ _ => False)
abbrev st_fits_at : Stmt := top 36
abbrev nm_fits_at : List Str := ["rule", "near", "signs", "text", "cells", "ahead", "behind"]
theorem sc_fits_at : FnScope nm_fits_at ["rule", "near", "signs"] (defScope st_fits_at) := ⟨rfl, rfl, rfl, by decide +kernel, rfl, by decide +kernel, by decide +kernel⟩
theorem ok_fits_at (F : Fun K "fits_at" "fits_at" st_fits_at f fd) (T : Tx P w K mg base a) (c_holds_of : CalX P w K mg base 1 "holds_of" ["condition", "kind"] (ProP K (T := Str × Str) (fun t => [.str t.1, .str t.2]) (fun _ => True) (fun t r => r = .bl (hOf t.1 t.2)) (fun _ _ _ => False)))
    (c_holds : CalX P w K mg base 2 "holds" ["condition", "sign"] (ProP K (T := Str × Str) (fun t => [.str t.1, .str t.2]) (fun t => (cp t.2).length ≤ 1) (fun t r => r = .bl (hOf t.1 (clsOf (cp t.2)))) (fun _ _ _ => False))) : FnOk P w K mg base (L2.CX P w) 3 f fd ["rule", "near", "signs"] (spFits K) := by
  refine F.okX sc_fits_at (fun vs H Q E h => pro_len h fun _ => rfl) (fun cdv A outer s H vs Q E hr h => ⟨_, (pss_cons (ps_asg (pv 0) (pg_tupK (K := K) rfl rfl (pgs_cons (pg_name (i := 3) sc_fits_at.nd rfl (by first | exact Or.inl rfl | exact Or.inr rfl)) (pgs_cons (pg_name (i := 4) sc_fits_at.nd rfl (by first | exact Or.inl rfl | exact Or.inr rfl)) (pgs_cons (pg_name (i := 5) sc_fits_at.nd rfl (by first | exact Or.inl rfl | exact Or.inr rfl)) (pgs_cons (pg_name (i := 6) sc_fits_at.nd rfl (by first | exact Or.inl rfl | exact Or.inr rfl)) pgs_nil))))))
    (pss_one (ps_ret (pe_and (pe_m1 PySem.F.slot_str_startswith PySem.F.type_str_startswith mt_startswith (pv 2) (pv 3)) (pe_and (pe_c c_holds_of hr (by first | decide | exact Nat.le_refl _) rfl (passes_call (takes_of rfl rfl rfl rfl) (fun _ _ _ _ h => h)) (pa_cons (pv 5) (pa_cons (pv 1) pa_nil))) (pe_one (pe_c c_holds hr (by first | decide | exact Nat.le_refl _) rfl (passes_call (takes_of rfl rfl rfl rfl) (fun _ _ _ _ h => h)) (pa_cons (pv 6) (pa_cons (pe_slice (kS K rSlU rfl sl_U) (pv 2) (po_some (pe_callB (kC K rLenU rfl call_lenU) (by rfl) T.b_len (by decide +kernel) (pa_cons (pv 3) pa_nil))) (po_some (pe_op (kO K rPlus rfl op_plus) (pe_callB (kC K rLenU rfl call_lenU) (by rfl) T.b_len (by decide +kernel) (pa_cons (pv 3) pa_nil)) pe_int))) pa_nil))))))))), run_body h fun ⟨d, k, sg⟩ S ⟨hg, hz⟩ hl hcl wi => ?_⟩)
  have hl : S.A.length = 0 := hl
  have hg : Good d := hg
  have hz : (cp sg).length ≤ 100000 := hz
  have e0 := hg.eq
  have h1 := hg.t1
  have fin : ∀ b : Bool, b = fitP d k (cp sg) → Gave S (fun r μ => μ = [] ∧ r = .bl (fitP d k (cp sg))) (.bl b) [] := fun b e => gaveP hl (by rfl) (by rw [e])
  unfold fitP at fin
  generalize hT : rT d = t at *
  generalize hC : rC d = cs at *
  generalize hX : rX d = x at *
  generalize hY : rY d = y at *
  have htl : tl' d = (cp t).length := by unfold tl'; rw [hT]
  rw [htl] at fin
  subst e0
  walk_at "pp"
  refine se_asgG ?_
  walk_at "pp"
  refine ge_four ?_
  walk_at "pp"
  refine ee_m1 ?_
  walk_at "pp"
  refine mm_starts ?_
  rw [starts_eq]
  refine ⟨_, rfl, fun h1 => ?_, fun h1 => ?_⟩
  · walk_at "pp"
    refine ee_cz ?_
    walk_at "pp"
    refine ⟨(x, k), trivial, rfl, rfl, ?_⟩
    rintro r rfl
    refine ⟨_, rfl, fun h2 => ?_, fun h2 => ?_⟩
    · walk_at "pp"
      refine ee_cz ?_
      walk_at "pp"
      refine cc_lenS (by rw [len_cp]; omega) ?_
      walk_at "pp"
      refine cc_lenS (by rw [len_cp]; omega) ?_
      walk_at "pp"
      refine ss_str (by rw [len_cp]; omega) ?_
      have ec : cp (cutS sg (some (t.length : Int)) (some ((t.length : Int) + 1))) = ((cp sg).drop (cp t).length).take 1 := by
        rw [len_cp]
        have z := cutS_nn sg (cp t).length ((cp t).length + 1)
        rw [show ((((cp t).length + 1 : Nat) : Int)) = ((cp t).length : Int) + 1 by omega, Nat.add_sub_cancel_left] at z
        exact z
      walk_at "pp"
      refine ⟨(y, _), by show (cp (cutS _ _ _)).length ≤ 1; rw [ec]; exact take1, rfl, rfl, ?_⟩
      rintro r rfl
      refine fin _ ?_
      show hOf y (clsOf (cp (cutS _ _ _))) = _
      rw [ec, h1, h2]
      rfl
    · exact fin _ (by rw [h1, h2]; rfl)
  · exact fin _ (by rw [h1]; rfl)
end


section
variable {P : Program} {w : World} {K : PySem.W.Frag} {mg : Str → Option Value} {base : Heap} {a : Ad} {f : Addr} {fd : FuncData}
def optI : Option Nat → D
  | none => .non
  | some i => .int (i : Int)
def bestN (l : List D) (k : Str) (L : List Nat) : Nat → Option Nat
  | 0 => none
  | j + 1 => match l[j]? with
    | none => bestN l k L j
    | some d => if (fitP d k L && (match bestN l k L j with | none => true | some i => decide (tl' (l.getD i .non) < tl' d))) = true then some j else bestN l k L j
theorem bestN_lt {l : List D} {k : Str} {L : List Nat} : ∀ {j i : Nat}, bestN l k L j = some i → i < j ∧ i < l.length
  | 0, i, h => by cases h
  | j + 1, i, h => by
    unfold bestN at h
    cases e : l[j]? with
    | none =>
      rw [e] at h
      have := bestN_lt (j := j) h
      exact ⟨by omega, this.2⟩
    | some d =>
      rw [e] at h
      have h : (if (fitP d k L && (match bestN l k L j with | none => true | some i => decide (tl' (l.getD i .non) < tl' d))) = true then some j else bestN l k L j) = some i := h
      generalize (fitP d k L && (match bestN l k L j with | none => true | some i => decide (tl' (l.getD i .non) < tl' d))) = b at h
      cases b with
      | true =>
        rw [if_pos rfl] at h
        cases h
        exact ⟨Nat.lt_succ_self _, (List.getElem?_eq_some_iff.mp e).1⟩
      | false =>
        rw [if_neg Bool.false_ne_true] at h
        have := bestN_lt (j := j) h
        exact ⟨by omega, this.2⟩
section
variable {S : Bs} {μ : List Cell} {C : D → List Cell → Prop} {d : D}
theorem ix_t (hg : Good d) (k : C (.str (rT d)) μ) : OO K S (rIx K) d (.int 0) μ C := by
  have e := hg.eq
  rw [e]
  exact oo_ixT (d := .str (rT d)) rfl k
theorem ix_c (hg : Good d) (k : C (.tup (rC d)) μ) : OO K S (rIx K) d (.int 1) μ C := by
  have e := hg.eq
  rw [e]
  exact oo_ixT (d := .tup (rC d)) rfl k
theorem ix_x (hg : Good d) (k : C (.str (rX d)) μ) : OO K S (rIx K) d (.int 2) μ C := by
  have e := hg.eq
  rw [e]
  exact oo_ixT (d := .str (rX d)) rfl k
theorem ix_y (hg : Good d) (k : C (.str (rY d)) μ) : OO K S (rIx K) d (.int 3) μ C := by
  have e := hg.eq
  rw [e]
  exact oo_ixT (d := .str (rY d)) rfl k
end
abbrev spBest (K : PySem.W.Frag) : Sp := ProP K (T := List D × Str × Str) (fun t => [.lst t.1, .str t.2.1, .str t.2.2]) (fun t => GoodB t.1 ∧ (cp t.2.2).length ≤ 100000) (fun t r => r = optI (bestN t.1 t.2.1 (cp t.2.2) t.1.length)) (fun _ _ _ => False)
abbrev st_best_of : Stmt := top 37
abbrev nm_best_of : List Str := ["book", "near", "signs", "best", "at", "rule"]
theorem sc_best_of : FnScope nm_best_of ["book", "near", "signs"] (defScope st_best_of) := ⟨rfl, rfl, rfl, by decide +kernel, rfl, by decide +kernel, by decide +kernel⟩
theorem ok_best_of (F : Fun K "best_of" "best_of" st_best_of f fd) (T : Tx P w K mg base a) (c_fits_at : CalX P w K mg base 3 "fits_at" ["rule", "near", "signs"] (spFits K)) : FnOk P w K mg base (L2.CX P w) 4 f fd ["book", "near", "signs"] (spBest K) := by
  refine F.okX sc_best_of (fun vs H Q E h => pro_len h fun _ => rfl) (fun cdv A outer s H vs Q E hr h => ⟨_, (pss_cons (ps_set (i := 3) sc_best_of.nd rfl (by first | exact Or.inl rfl | exact Or.inr rfl) pe_non)
    (pss_cons (ps_for (passes_of rfl) rfl (pi_enumK (K := K) rfl (by rfl) T.b_enumerate (pa_cons (pv 0) pa_nil)) (pg_tupK (K := K) rfl rfl (pgs_cons (pg_name (i := 4) sc_best_of.nd rfl (by first | exact Or.inl rfl | exact Or.inr rfl)) (pgs_cons (pg_name (i := 5) sc_best_of.nd rfl (by first | exact Or.inl rfl | exact Or.inr rfl)) pgs_nil)))
      (pss_one (ps_if (PW.pt (pw_and (pt_val (pe_c c_fits_at hr (by first | decide | exact Nat.le_refl _) rfl (passes_call (takes_of rfl rfl rfl rfl) (fun _ _ _ _ h => h)) (pa_cons (pv 5) (pa_cons (pv 1) (pa_cons (pv 2) pa_nil))))) (pw_and1 (PW.pt (pw_or (pt_cmpR op_isN (pv 3) pe_non (nomark _)) (pw_or1 (pt_cmpR op_gt (pe_callB (kC K rLenU rfl call_lenU) (by rfl) T.b_len (by decide +kernel) (pa_cons (pe_ix (kX K rIx rfl ix_seq) (pv 5) pe_int (fun _ _ => rfl)) pa_nil)) (pe_callB (kC K rLenU rfl call_lenU) (by rfl) T.b_len (by decide +kernel) (pa_cons (pe_ix (kX K rIx rfl ix_seq) (pe_ix (kX K rIx rfl ix_seq) (pv 0) (pv 3) (fun _ _ => rfl)) pe_int (fun _ _ => rfl)) pa_nil)) (nomark _)))))))) (pss_one (ps_set (i := 3) sc_best_of.nd rfl (by first | exact Or.inl rfl | exact Or.inr rfl) (pv 4))) pss_nil)))
    (pss_one (ps_ret (pv 3))))), run_body h fun ⟨l, k, sg⟩ S ⟨hg, hz⟩ hl hcl wi => ?_⟩)
  have hl : S.A.length = 0 := hl
  have hg : GoodB l := hg
  have hz : (cp sg).length ≤ 100000 := hz
  walk_at "pp"
  refine se_for (ie_enum ?_)
  walk_at "pp"
  refine ⟨fun j δ μ => ∃ (x y : Option D), δ = [some (.lst l), some (.str k), some (.str sg), some (optI (bestN l k (cp sg) j)), x, y] ∧ μ = [], ⟨none, none, rfl, rfl⟩, ?_, ?_⟩
  · rintro j p δ μ hj ⟨x0, y0, rfl, rfl⟩
    obtain ⟨d, hd, rfl⟩ := enumD_get hj
    have hgd := hg.2 d (List.mem_of_getElem? hd)
    have eb : bestN l k (cp sg) (j + 1) = if (fitP d k (cp sg) && (match bestN l k (cp sg) j with | none => true | some i => decide (tl' (l.getD i .non) < tl' d))) = true then some j else bestN l k (cp sg) j := by
      show (match l[j]? with | none => bestN l k (cp sg) j | some d => if (fitP d k (cp sg) && (match bestN l k (cp sg) j with | none => true | some i => decide (tl' (l.getD i .non) < tl' d))) = true then some j else bestN l k (cp sg) j) = _
      rw [hd]
    refine ge_pair ?_
    walk_at "pp"
    refine ee_cz ?_
    walk_at "pp"
    refine ⟨(d, k, sg), ⟨hgd, hz⟩, rfl, by show (d.lt 0 && true) = true; rw [hgd.cl]; rfl, ?_⟩
    rintro r rfl
    refine ⟨_, rfl, fun h1 => ?_, fun h1 => ?_⟩
    · have h1 : fitP d k (cp sg) = true := h1
      rw [h1, Bool.true_and] at eb
      walk_at "pp"
      cases hb : bestN l k (cp sg) j with
      | none =>
        rw [hb] at eb
        dsimp only at eb
        rw [if_pos rfl] at eb
        walk_at "pp"
        refine ⟨some (.int ((0 + j : Nat) : Int)), some d, ?_, rfl⟩
        rw [eb]
        show [some (D.lst l), some (.str k), some (.str sg), some (.int ((0 + j : Nat) : Int)), some (.int ((0 + j : Nat) : Int)), some d] = _
        rw [Nat.zero_add]
        rfl
      | some i =>
        rw [hb] at eb
        have hi := (bestN_lt hb).2
        have hgi := hg.2 _ (List.getElem_mem hi)
        have hgl : l.getD i .non = l[i] := by rw [List.getD_eq_getElem?_getD, List.getElem?_eq_getElem hi]; rfl
        walk_at "pp"
        refine ix_t hgd ?_
        walk_at "pp"
        refine cc_lenS (by have := hgd.t1; rw [len_cp]; omega) ?_
        walk_at "pp"
        refine oo_ixL (atI_of (j := i) (List.getElem?_eq_getElem hi) rfl) ?_
        walk_at "pp"
        refine ix_t hgi ?_
        walk_at "pp"
        refine cc_lenS (by have := hgi.t1; rw [len_cp]; omega) ?_
        walk_at "pp"
        have ed : decide ((((rT d).length : Nat) : Int) > (((rT l[i]).length : Nat) : Int)) = decide (tl' (l.getD i .non) < tl' d) := by
          rw [len_cp, len_cp, hgl]
          exact decide_eq_decide.mpr ⟨fun h => Int.ofNat_lt.mp h, fun h => Int.ofNat_lt.mpr h⟩
        rw [ed]
        refine ⟨fun h2 => ?_, fun h2 => ?_⟩
        · have eb : bestN l k (cp sg) (j + 1) = if decide (tl' (l.getD i .non) < tl' d) = true then some j else some i := eb
          rw [h2, if_pos rfl] at eb
          walk_at "pp"
          refine ⟨some (.int ((0 + j : Nat) : Int)), some d, ?_, rfl⟩
          rw [eb]
          show [some (D.lst l), some (.str k), some (.str sg), some (.int ((0 + j : Nat) : Int)), some (.int ((0 + j : Nat) : Int)), some d] = _
          rw [Nat.zero_add]
          rfl
        · have eb : bestN l k (cp sg) (j + 1) = if decide (tl' (l.getD i .non) < tl' d) = true then some j else some i := eb
          rw [h2, if_neg Bool.false_ne_true] at eb
          walk_at "pp"
          refine ⟨some (.int ((0 + j : Nat) : Int)), some d, ?_, rfl⟩
          rw [eb]
          rfl
    · have h1 : fitP d k (cp sg) = false := h1
      rw [h1, Bool.false_and, if_neg Bool.false_ne_true] at eb
      walk_at "pp"
      refine ⟨some (.int ((0 + j : Nat) : Int)), some d, ?_, rfl⟩
      rw [eb]
      rfl
  · rintro δ μ ⟨x, y, rfl, rfl⟩
    rw [enumD_len]
    have e0 : (optI (bestN l k (cp sg) l.length)).lt 0 = true := by
      cases bestN l k (cp sg) l.length <;> rfl
    walk_at "pp"
    walk_at "gp"
    exact gaveP hl e0 rfl
def prv (L : List Nat) (at' : Nat) : List Nat := (L.drop (at' - 1)).take (at' - (at' - 1))
theorem prv_len {L : List Nat} {j : Nat} : (prv L j).length ≤ 1 := by
  unfold prv
  rw [List.length_take]
  omega
abbrev st_near_at : Stmt := top 39
abbrev nm_near_at : List Str := ["text", "at"]
theorem sc_near_at : FnScope nm_near_at ["text", "at"] (defScope st_near_at) := ⟨rfl, rfl, rfl, by decide +kernel, rfl, by decide +kernel, by decide +kernel⟩
abbrev spNear (K : PySem.W.Frag) : Sp := ProP K (T := Str × Nat) (fun t => [.str t.1, .int (t.2 : Int)]) (fun t => (cp t.1).length ≤ 100000) (fun t r => r = .str (clsOf (prv (cp t.1) t.2))) (fun _ _ _ => False)
theorem ok_near_at (F : Fun K "near_at" "near_at" st_near_at f fd) (T : Tx P w K mg base a) (c_class_of_sign : CalX P w K mg base 1 "class_of_sign" ["sign"] (spClass K)) : FnOk P w K mg base (L2.CX P w) 2 f fd ["text", "at"] (spNear K) := by
  refine F.okX sc_near_at (fun vs H Q E h => pro_len h fun _ => rfl) (fun cdv A outer s H vs Q E hr h => ⟨_, (pss_one (ps_ret (pe_c c_class_of_sign hr (by first | decide | exact Nat.le_refl _) rfl (passes_call (takes_of rfl rfl rfl rfl) (fun _ _ _ _ h => h)) (pa_cons (pe_slice (kS K rSlU rfl sl_U) (pv 0) (po_some (pe_callB (call_max2 rfl) (by rfl) T.b_max (by decide +kernel) (pa_cons (pe_op op_sub (pv 1) pe_int) (pa_cons pe_int pa_nil)))) (po_some (pv 1))) pa_nil)))), run_body h fun ⟨t, j⟩ S hz hl hcl wi => ?_⟩)
  have hl : S.A.length = 0 := hl
  have hz : (cp t).length ≤ 100000 := hz
  walk_at "pp"
  refine ee_cz ?_
  walk_at "pp"
  have em : (if (0 : Int) > (j : Int) - 1 then (0 : Int) else (j : Int) - 1) = ((j - 1 : Nat) : Int) := by
    split <;> omega
  rw [em]
  refine ss_str (by rw [len_cp]; omega) ?_
  have ec : cp (cutS t (some ((j - 1 : Nat) : Int)) (some (j : Int))) = prv (cp t) j := cutS_nn t (j - 1) j
  walk_at "pp"
  refine ⟨_, by show (cp (cutS _ _ _)).length ≤ 1; rw [ec]; exact prv_len, rfl, rfl, ?_⟩
  rintro r rfl
  walk_at "pp"
  try dsimp only
  refine gaveP hl (by rfl) ?_
  show _ = D.str (clsOf (prv (cp t) j))
  rw [ec]
abbrev st_taken_at : Stmt := top 40
abbrev nm_taken_at : List Str := ["book", "text", "at"]
theorem sc_taken_at : FnScope nm_taken_at ["book", "text", "at"] (defScope st_taken_at) := ⟨rfl, rfl, rfl, by decide +kernel, rfl, by decide +kernel, by decide +kernel⟩
def takI (l : List D) (L : List Nat) (j : Nat) : Option Nat := bestN l (clsOf (prv L j)) (L.drop j) l.length
abbrev spTaken (K : PySem.W.Frag) : Sp := ProP K (T := List D × Str × Nat) (fun t => [.lst t.1, .str t.2.1, .int (t.2.2 : Int)]) (fun t => GoodB t.1 ∧ (cp t.2.1).length ≤ 100000) (fun t r => r = optI (takI t.1 (cp t.2.1) t.2.2)) (fun _ _ _ => False)
theorem ok_taken_at (F : Fun K "taken_at" "taken_at" st_taken_at f fd) (T : Tx P w K mg base a) (c_best_of : CalX P w K mg base 4 "best_of" ["book", "near", "signs"] (spBest K)) (c_near_at : CalX P w K mg base 2 "near_at" ["text", "at"] (spNear K)) : FnOk P w K mg base (L2.CX P w) 5 f fd ["book", "text", "at"] (spTaken K) := by
  refine F.okX sc_taken_at (fun vs H Q E h => pro_len h fun _ => rfl) (fun cdv A outer s H vs Q E hr h => ⟨_, (pss_one (ps_ret (pe_c c_best_of hr (by first | decide | exact Nat.le_refl _) rfl (passes_call (takes_of rfl rfl rfl rfl) (fun _ _ _ _ h => h)) (pa_cons (pv 0) (pa_cons (pe_c c_near_at hr (by first | decide | exact Nat.le_refl _) rfl (passes_call (takes_of rfl rfl rfl rfl) (fun _ _ _ _ h => h)) (pa_cons (pv 1) (pa_cons (pv 2) pa_nil))) (pa_cons (pe_slice (kS K rSlU rfl sl_U) (pv 1) (po_some (pv 2)) po_none) pa_nil)))))), run_body h fun ⟨l, t, j⟩ S ⟨hg, hz⟩ hl hcl wi => ?_⟩)
  have hl : S.A.length = 0 := hl
  have hg : GoodB l := hg
  have hz : (cp t).length ≤ 100000 := hz
  walk_at "pp"
  refine ee_cz ?_
  walk_at "pp"
  refine ee_cz ?_
  walk_at "pp"
  refine ⟨(t, j), hz, rfl, rfl, ?_⟩
  rintro r rfl
  walk_at "pp"
  refine ss_str (by rw [len_cp]; omega) ?_
  have ec : cp (cutS t (some (j : Int)) none) = (cp t).drop j := cutS_n0 t j
  walk_at "pp"
  refine ⟨(l, _, _), ⟨hg, by show (cp (cutS _ _ _)).length ≤ 100000; rw [ec, List.length_drop]; omega⟩, rfl, by show (D.ltL 0 l && (true && (true && true))) = true; rw [hg.cl]; rfl, ?_⟩
  rintro r rfl
  have e0 : ∀ o : Option Nat, (optI o).lt 0 = true := fun o => by cases o <;> rfl
  try dsimp only
  refine gaveP hl (e0 _) ?_
  show optI (bestN l _ (cp (cutS _ _ _)) l.length) = optI (takI l (cp t) j)
  rw [ec]
  rfl
end


/-! ### laid out, plainly -/
structure LS where
  at' : Nat
  cells : List D
  spans : List D
  strange : List D
def spanD (i j c d : Nat) : D := .tup [.int (i : Int), .int (j : Int), .int (c : Int), .int (d : Int)]
def adv (l : List D) (s : LS) (i : Nat) : LS := ⟨s.at' + tl' (l.getD i .non), s.cells ++ rC (l.getD i .non), s.spans ++ [spanD s.at' (s.at' + tl' (l.getD i .non)) s.cells.length (s.cells.length + (rC (l.getD i .non)).length)], s.strange⟩
def odd (s : LS) : LS := ⟨s.at' + 1, s.cells ++ [.int 63], s.spans ++ [spanD s.at' (s.at' + 1) s.cells.length (s.cells.length + 1)], s.strange ++ [.int (s.at' : Int)]⟩
def LS.ini : LS := ⟨0, [], [], []⟩
def step (l : List D) (L : List Nat) (s : LS) : LS := match takI l L s.at' with
  | none => odd s
  | some i => adv l s i
def it (l : List D) (L : List Nat) : Nat → LS
  | 0 => LS.ini
  | j + 1 => if (it l L j).at' < L.length then step l L (it l L j) else it l L j
def run (l : List D) (L : List Nat) : LS := it l L L.length
theorem bestN_fit {l : List D} {k : Str} {L : List Nat} : ∀ {j i : Nat}, bestN l k L j = some i → fitP (l.getD i .non) k L = true
  | 0, i, h => by cases h
  | j + 1, i, h => by
    unfold bestN at h
    cases e : l[j]? with
    | none =>
      rw [e] at h
      exact bestN_fit (j := j) h
    | some d =>
      rw [e] at h
      have h : (if (fitP d k L && (match bestN l k L j with | none => true | some i => decide (tl' (l.getD i .non) < tl' d))) = true then some j else bestN l k L j) = some i := h
      generalize (match bestN l k L j with | none => true | some i => decide (tl' (l.getD i .non) < tl' d)) = b at h
      cases hf : fitP d k L with
      | true =>
        rw [hf] at h
        cases b with
        | true =>
          have h : some j = some i := h
          cases h
          rw [List.getD_eq_getElem?_getD, e]
          exact hf
        | false =>
          have h : bestN l k L j = some i := h
          exact bestN_fit (j := j) h
      | false =>
        rw [hf, Bool.false_and, if_neg Bool.false_ne_true] at h
        exact bestN_fit (j := j) h
section
variable {l : List D} {L : List Nat}
theorem takI_lt {j i : Nat} (h : takI l L j = some i) : i < l.length := (bestN_lt h).2
theorem takI_le {j i : Nat} (h : takI l L j = some i) : tl' (l.getD i .non) ≤ L.length - j := by
  have q := (Bool.and_eq_true_iff.mp (show (decide ((L.drop j).take (tl' (l.getD i .non)) = cp (rT (l.getD i .non))) && _) = true from bestN_fit h)).1
  have q := congrArg List.length (of_decide_eq_true q)
  rw [List.length_take, List.length_drop] at q
  have e : (cp (rT (l.getD i .non))).length = tl' (l.getD i .non) := rfl
  omega
theorem good_at (hg : GoodB l) {i : Nat} (hi : i < l.length) : Good (l.getD i .non) := by
  rw [List.getD_eq_getElem?_getD, List.getElem?_eq_getElem hi]
  exact hg.2 _ (List.getElem_mem hi)
theorem step_at (hg : GoodB l) {s : LS} (h : s.at' < L.length) : s.at' < (step l L s).at' ∧ (step l L s).at' ≤ L.length := by
  unfold step
  cases e : takI l L s.at' with
  | none => exact ⟨Nat.lt_succ_self _, h⟩
  | some i =>
    have h1 := takI_le e
    have h2 : 0 < tl' (l.getD i .non) := (good_at hg (takI_lt e)).t0
    show s.at' < s.at' + _ ∧ s.at' + _ ≤ L.length
    omega
theorem it_succ {j : Nat} : it l L (j + 1) = if (it l L j).at' < L.length then step l L (it l L j) else it l L j := rfl
theorem it_at (hg : GoodB l) : ∀ j, (it l L j).at' ≤ L.length ∧ min j L.length ≤ (it l L j).at'
  | 0 => ⟨Nat.zero_le _, by show min 0 L.length ≤ 0; omega⟩
  | j + 1 => by
    obtain ⟨h1, h2⟩ := it_at hg j
    rw [it_succ]
    by_cases h : (it l L j).at' < L.length
    · rw [if_pos h]
      obtain ⟨q1, q2⟩ := step_at hg h
      exact ⟨q2, by omega⟩
    · rw [if_neg h]
      exact ⟨h1, by omega⟩
theorem it_stay {j : Nat} (h : ¬ (it l L j).at' < L.length) : ∀ m, it l L (j + m) = it l L j
  | 0 => rfl
  | m + 1 => by
    show it l L (j + m + 1) = _
    rw [it_succ, it_stay h m, if_neg h]
theorem it_run (hg : GoodB l) {j : Nat} (h : ¬ (it l L j).at' < L.length) : run l L = it l L j := by
  unfold run
  by_cases hj : j ≤ L.length
  · have := it_stay h (L.length - j)
    rw [show j + (L.length - j) = L.length by omega] at this
    exact this
  · have h2 : ¬ (it l L L.length).at' < L.length := by
      have := (it_at hg (l := l) (L := L) L.length).2
      rw [Nat.min_self] at this
      omega
    have := it_stay h2 (j - L.length)
    rw [show L.length + (j - L.length) = j by omega] at this
    exact this.symm
theorem it_lt (hg : GoodB l) {j : Nat} (hj : j ≤ L.length) (h : (it l L j).at' < L.length) : j < L.length := by
  have := (it_at hg (l := l) (L := L) j).2
  rw [Nat.min_eq_left hj] at this
  omega
/-- sizes, closedness -/
structure LS.Ok (s : LS) (j : Nat) : Prop where
  c : s.cells.length ≤ 100 * j
  s' : s.spans.length ≤ j
  o : s.strange.length ≤ j
  cc : ∀ c ∈ s.cells, ∃ i : Int, c = .int i ∧ 0 ≤ i ∧ i < 64
  ss : ∀ x ∈ s.spans, ∃ i j c d : Nat, x = spanD i j c d
  oo : ∀ x ∈ s.strange, ∃ i : Int, x = .int i
theorem odd_ok {s : LS} {j : Nat} (h : s.Ok j) : (odd s).Ok (j + 1) := by
  refine ⟨?_, ?_, ?_, fun c hc => ?_, fun x hx => ?_, fun x hx => ?_⟩
  · show (s.cells ++ [_]).length ≤ _
    rw [List.length_append, List.length_singleton]
    have := h.c
    omega
  · show (s.spans ++ [_]).length ≤ _
    rw [List.length_append, List.length_singleton]
    have := h.s'
    omega
  · show (s.strange ++ [_]).length ≤ _
    rw [List.length_append, List.length_singleton]
    have := h.o
    omega
  · rcases List.mem_append.mp hc with hc | hc
    · exact h.cc c hc
    · exact ⟨63, List.mem_singleton.mp hc, by decide, by decide⟩
  · rcases List.mem_append.mp hx with hx | hx
    · exact h.ss x hx
    · exact ⟨_, _, _, _, List.mem_singleton.mp hx⟩
  · rcases List.mem_append.mp hx with hx | hx
    · exact h.oo x hx
    · exact ⟨_, List.mem_singleton.mp hx⟩
theorem adv_ok (hg : GoodB l) {s : LS} {j i : Nat} (hi : i < l.length) (h : s.Ok j) : (adv l s i).Ok (j + 1) := by
  have g := good_at hg hi
  refine ⟨?_, ?_, ?_, fun c hc => ?_, fun x hx => ?_, fun x hx => h.oo x hx⟩
  · show (s.cells ++ _).length ≤ _
    rw [List.length_append]
    have := h.c
    have := g.c1
    omega
  · show (s.spans ++ [_]).length ≤ _
    rw [List.length_append, List.length_singleton]
    have := h.s'
    omega
  · have := h.o
    show s.strange.length ≤ _
    omega
  · rcases List.mem_append.mp hc with hc | hc
    · exact h.cc c hc
    · exact g.cc c hc
  · rcases List.mem_append.mp hx with hx | hx
    · exact h.ss x hx
    · exact ⟨_, _, _, _, List.mem_singleton.mp hx⟩
theorem it_ok (hg : GoodB l) : ∀ j, (it l L j).Ok j
  | 0 => ⟨Nat.zero_le _, Nat.zero_le _, Nat.zero_le _, fun c h => (by cases h), fun c h => (by cases h), fun c h => (by cases h)⟩
  | j + 1 => by
    have ih := it_ok hg j
    rw [it_succ]
    split
    · unfold step
      cases e : takI l L (it l L j).at' with
      | none => exact odd_ok ih
      | some i => exact adv_ok hg (takI_lt e) ih
    · exact ⟨by have := ih.c; omega, by have := ih.s'; omega, by have := ih.o; omega, ih.cc, ih.ss, ih.oo⟩
/-- along a way -/
def wst (l : List D) (ws : List Nat) : LS := ws.foldl (adv l) LS.ini
theorem wst_snoc {ws : List Nat} {i : Nat} : wst l (ws ++ [i]) = adv l (wst l ws) i := by
  unfold wst
  rw [List.foldl_append]
  rfl
theorem wst_strange : ∀ (ws : List Nat) (s : LS), (ws.foldl (adv l) s).strange = s.strange
  | [], _ => rfl
  | i :: ws, s => wst_strange ws (adv l s i)
theorem wst_ok (hg : GoodB l) : ∀ (ws : List Nat), (∀ i ∈ ws, i < l.length) → (wst l ws).Ok ws.length := fun ws => by
  have q : ∀ (ws : List Nat) (s : LS) (j : Nat), s.Ok j → (∀ i ∈ ws, i < l.length) → (ws.foldl (adv l) s).Ok (j + ws.length) := by
    intro ws
    induction ws with
    | nil => exact fun s j h _ => h
    | cons i ws ih =>
      intro s j h hi
      have := ih (adv l s i) (j + 1) (adv_ok hg (hi i List.mem_cons_self) h) fun x hx => hi x (List.mem_cons_of_mem _ hx)
      rw [show j + (i :: ws).length = j + 1 + ws.length by rw [List.length_cons]; omega]
      exact this
  intro h
  have := q ws LS.ini 0 ⟨Nat.zero_le _, Nat.zero_le _, Nat.zero_le _, fun c h => (by cases h), fun c h => (by cases h), fun c h => (by cases h)⟩ h
  rw [Nat.zero_add] at this
  exact this
theorem step_strange {s : LS} : ∃ m, (step l L s).strange = s.strange ++ m := by
  unfold step
  cases takI l L s.at' with
  | none => exact ⟨_, rfl⟩
  | some i => exact ⟨[], (List.append_nil _).symm⟩
theorem it_strange {j : Nat} : ∀ m, ∃ q, (it l L (j + m)).strange = (it l L j).strange ++ q
  | 0 => ⟨[], (List.append_nil _).symm⟩
  | m + 1 => by
    obtain ⟨q, hq⟩ := it_strange m
    show ∃ q, (it l L (j + m + 1)).strange = _
    rw [it_succ]
    split
    · obtain ⟨r, hr⟩ := step_strange (l := l) (L := L) (s := it l L (j + m))
      exact ⟨q ++ r, by rw [hr, hq, List.append_assoc]⟩
    · exact ⟨q, hq⟩
theorem run_strange (hg : GoodB l) {j : Nat} (hj : j < L.length) (h : (it l L j).at' < L.length) (hn : takI l L (it l L j).at' = none) : (run l L).strange ≠ [] := by
  have e : it l L (j + 1) = odd (it l L j) := by
    rw [it_succ, if_pos h]
    unfold step
    rw [hn]
  obtain ⟨q, hq⟩ := it_strange (l := l) (L := L) (j := j + 1) (L.length - (j + 1))
  rw [show j + 1 + (L.length - (j + 1)) = L.length by omega] at hq
  intro z
  unfold run at z
  rw [hq, e] at z
  have z := congrArg List.length z
  unfold odd at z
  simp at z
end


section
variable {P : Program} {w : World} {K : PySem.W.Frag} {mg : Str → Option Value} {base : Heap} {a : Ad} {f : Addr} {fd : FuncData}
theorem cells_ok_cl {s : LS} {j n : Nat} (h : s.Ok j) : D.ltL n s.cells = true := cells_cl h.cc
theorem spans_ok_cl {s : LS} {j n : Nat} (h : s.Ok j) : D.ltL n s.spans = true := D.ltL_all.mpr fun x hx => by
  obtain ⟨i, j, c, d, rfl⟩ := h.ss x hx
  rfl
theorem odd_ok_cl {s : LS} {j n : Nat} (h : s.Ok j) : D.ltL n s.strange = true := D.ltL_all.mpr fun x hx => by
  obtain ⟨i, rfl⟩ := h.oo x hx
  rfl
abbrev spLaidOut (K : PySem.W.Frag) : Sp := Pro K (T := List D × Str) (fun _ => []) (fun t => [.lst t.1, .str t.2]) (fun t => GoodB t.1 ∧ (cp t.2).length ≤ 10000) (fun t r μ => r = .tup [.own 0, .own 1, .own 2] ∧ μ = [.lst (run t.1 (cp t.2)).cells, .lst (run t.1 (cp t.2)).spans, .lst (run t.1 (cp t.2)).strange]) (fun _ _ _ _ => False)
abbrev st_laid_out : Stmt := top 43
abbrev nm_laid_out : List Str := ["book", "text", "cells", "spans", "strange", "at", "best", "row", "late"]
theorem sc_laid_out : FnScope nm_laid_out ["book", "text"] (defScope st_laid_out) := ⟨rfl, rfl, rfl, by decide +kernel, rfl, by decide +kernel, by decide +kernel⟩
theorem ok_laid_out (F : Fun K "laid_out" "laid_out" st_laid_out f fd) (T : Tx P w K mg base a) (c_taken_at : CalX P w K mg base 5 "taken_at" ["book", "text", "at"] (spTaken K)) : FnOk P w K mg base (L2.CX P w) 6 f fd ["book", "text"] (spLaidOut K) := by
  refine F.okX sc_laid_out (fun vs H Q E h => pro_len h fun _ => rfl) (fun cdv A outer s H vs Q E hr h => ⟨_, (pss_cons (ps_set (i := 2) sc_laid_out.nd rfl (by first | exact Or.inl rfl | exact Or.inr rfl) (pe_lst pa_nil))
    (pss_cons (ps_set (i := 3) sc_laid_out.nd rfl (by first | exact Or.inl rfl | exact Or.inr rfl) (pe_lst pa_nil))
    (pss_cons (ps_set (i := 4) sc_laid_out.nd rfl (by first | exact Or.inl rfl | exact Or.inr rfl) (pe_lst pa_nil))
    (pss_cons (ps_set (i := 5) sc_laid_out.nd rfl (by first | exact Or.inl rfl | exact Or.inr rfl) pe_int)
    (pss_cons (ps_while (passes_of rfl) (pt_cmpR op_less (pv 5) (pe_callB (kC K rLenU rfl call_lenU) (by rfl) T.b_len (by decide +kernel) (pa_cons (pv 1) pa_nil)) (nomark _)) (pss_cons (ps_set (i := 6) sc_laid_out.nd rfl (by first | exact Or.inl rfl | exact Or.inr rfl) (pe_c c_taken_at hr (by first | decide | exact Nat.le_refl _) rfl (passes_call (takes_of rfl rfl rfl rfl) (fun _ _ _ _ h => h)) (pa_cons (pv 0) (pa_cons (pv 1) (pa_cons (pv 5) pa_nil)))))
    (pss_cons (ps_set (i := 7) sc_laid_out.nd rfl (by first | exact Or.inl rfl | exact Or.inr rfl) (pe_tup (pa_cons (pe_glob (v := .int (63)) rfl T.g_STRANGE.choose_spec ⟨_, rfl⟩) pa_nil)))
    (pss_cons (ps_set (i := 8) sc_laid_out.nd rfl (by first | exact Or.inl rfl | exact Or.inr rfl) (pe_op (kO K rPlus rfl op_plus) (pv 5) pe_int))
    (pss_cons (ps_if (pt_cmpR op_isN (pv 6) pe_non (nomark _)) (pss_one (ps_expr (pe_bmK (K := K) rfl PySem.F.plainAttrs_list PySem.F.slot_list_append PySem.F.type_list_append mt_append (pv 4) (pa_cons (pv 5) pa_nil)))) (pss_cons (ps_set (i := 7) sc_laid_out.nd rfl (by first | exact Or.inl rfl | exact Or.inr rfl) (pe_ix (kX K rIx rfl ix_seq) (pe_ix (kX K rIx rfl ix_seq) (pv 0) (pv 6) (fun _ _ => rfl)) pe_int (fun _ _ => rfl)))
    (pss_one (ps_set (i := 8) sc_laid_out.nd rfl (by first | exact Or.inl rfl | exact Or.inr rfl) (pe_op (kO K rPlus rfl op_plus) (pv 5) (pe_callB (kC K rLenU rfl call_lenU) (by rfl) T.b_len (by decide +kernel) (pa_cons (pe_ix (kX K rIx rfl ix_seq) (pe_ix (kX K rIx rfl ix_seq) (pv 0) (pv 6) (fun _ _ => rfl)) pe_int (fun _ _ => rfl)) pa_nil)))))))
    (pss_cons (ps_expr (pe_bmK (K := K) rfl PySem.F.plainAttrs_list PySem.F.slot_list_append PySem.F.type_list_append mt_append (pv 3) (pa_cons (pe_tup (pa_cons (pv 5) (pa_cons (pv 8) (pa_cons (pe_callB (kC K rLenU rfl call_lenU) (by rfl) T.b_len (by decide +kernel) (pa_cons (pv 2) pa_nil)) (pa_cons (pe_op (kO K rPlus rfl op_plus) (pe_callB (kC K rLenU rfl call_lenU) (by rfl) T.b_len (by decide +kernel) (pa_cons (pv 2) pa_nil)) (pe_callB (kC K rLenU rfl call_lenU) (by rfl) T.b_len (by decide +kernel) (pa_cons (pv 7) pa_nil))) pa_nil))))) pa_nil)))
    (pss_cons (ps_expr (pe_bmK (K := K) rfl PySem.F.plainAttrs_list PySem.F.slot_list_extend PySem.F.type_list_extend (kM K rExtU rfl mt_extU) (pv 2) (pa_cons (pv 7) pa_nil)))
    (pss_one (ps_set (i := 5) sc_laid_out.nd rfl (by first | exact Or.inl rfl | exact Or.inr rfl) (pv 8))))))))))
    (pss_one (ps_ret (pe_tup (pa_cons (pv 2) (pa_cons (pv 3) (pa_cons (pv 4) pa_nil))))))))))), run_body h fun ⟨l, t⟩ S ⟨hg, hz⟩ hl hcl wi => ?_⟩)
  have hl : S.A.length = 0 := hl
  have hg : GoodB l := hg
  have hz : (cp t).length ≤ 10000 := hz
  walk_at "pp"
  refine ee_open ?_
  walk_at "pp"
  refine ee_open ?_
  walk_at "pp"
  refine ee_open ?_
  walk_at "pp"
  refine se_while (fun m δ μ => ∃ (j : Nat) (x y z : Option D), j ≤ (cp t).length ∧ m = (cp t).length - (it l (cp t) j).at' ∧ δ = [some (.lst l), some (.str t), some (.own 0), some (.own 1), some (.own 2), some (.int ((it l (cp t) j).at' : Int)), x, y, z] ∧ μ = [.lst (it l (cp t) j).cells, .lst (it l (cp t) j).spans, .lst (it l (cp t) j).strange]) ((cp t).length) ⟨0, none, none, none, Nat.zero_le _, rfl, rfl, rfl⟩ ?_
  rintro m δ μ ⟨j, x, y, z, hj, rfl, rfl, rfl⟩
  walk_at "pp"
  refine cc_lenS (by rw [len_cp]; omega) ?_
  walk_at "pp"
  have hok := it_ok hg (L := cp t) j
  have h1 := hok.c
  have h2 := hok.s'
  have h3 := hok.o
  refine ⟨fun hb => ?_, fun hb => ?_⟩
  · have hlt : (it l (cp t) j).at' < (cp t).length := by
      have hb := of_decide_eq_true hb
      rw [len_cp] at hb
      omega
    have hj2 := it_lt hg hj hlt
    have es : it l (cp t) (j + 1) = step l (cp t) (it l (cp t) j) := by rw [it_succ, if_pos hlt]
    obtain ⟨hs1, hs2⟩ := step_at hg hlt
    walk_at "pp"
    refine ee_cz ?_
    walk_at "pp"
    refine ⟨(l, t, (it l (cp t) j).at'), ⟨hg, by show (cp t).length ≤ 100000; omega⟩, rfl, by show (D.ltL 0 l && true) = true; rw [hg.cl]; rfl, ?_⟩
    rintro r rfl
    have est : step l (cp t) (it l (cp t) j) = match takI l (cp t) (it l (cp t) j).at' with | none => odd (it l (cp t) j) | some i => adv l (it l (cp t) j) i := rfl
    dsimp only
    cases hk : takI l (cp t) (it l (cp t) j).at' with
    | none =>
      rw [hk] at est
      walk_at "pp"
      refine ee_bm ?_
      walk_at "pp"
      refine ⟨.lst (.own rfl), ?_⟩
      walk_at "pp"
      refine mm_append rfl (by omega) ?_
      walk_at "pp"
      refine ee_bm ?_
      walk_at "pp"
      refine ⟨.lst (.own rfl), ?_⟩
      walk_at "pp"
      refine cc_len (.own rfl) ?_
      walk_at "pp"
      refine cc_len (.own rfl) ?_
      walk_at "pp"
      refine cc_len (.tup _) ?_
      walk_at "pp"
      refine mm_append rfl (by omega) ?_
      walk_at "pp"
      refine ee_bm ?_
      walk_at "pp"
      refine ⟨.lst (.own rfl), ?_⟩
      walk_at "pp"
      refine mm_extT rfl (by show _ + 1 ≤ _; omega) ?_
      walk_at "pp"
      refine ⟨(cp t).length - (it l (cp t) (j + 1)).at', by rw [es]; omega, j + 1, some (optI none), some (.tup [.int 63]), some (.int (((it l (cp t) j).at' : Int) + 1)), hj2, rfl, ?_, ?_⟩
      · rw [es, est]
        rfl
      · rw [es, est]
        rfl
    | some i =>
      rw [hk] at est
      have hi := takI_lt hk
      have hgi := good_at hg hi
      have hget : l[i]? = some (l.getD i .non) := by rw [List.getD_eq_getElem?_getD, List.getElem?_eq_getElem hi]; rfl
      have hc1 := hgi.c1
      walk_at "pp"
      refine oo_ixL (atI_of (j := i) hget rfl) ?_
      walk_at "pp"
      refine ix_c hgi ?_
      walk_at "pp"
      refine oo_ixL (atI_of (j := i) hget rfl) ?_
      walk_at "pp"
      refine ix_t hgi ?_
      walk_at "pp"
      refine cc_lenS (by have := hgi.t1; rw [len_cp]; omega) ?_
      walk_at "pp"
      refine ee_bm ?_
      walk_at "pp"
      refine ⟨.lst (.own rfl), ?_⟩
      walk_at "pp"
      refine cc_len (.own rfl) ?_
      walk_at "pp"
      refine cc_len (.own rfl) ?_
      walk_at "pp"
      refine cc_len (.tup _) ?_
      walk_at "pp"
      refine mm_append rfl (by omega) ?_
      walk_at "pp"
      refine ee_bm ?_
      walk_at "pp"
      refine ⟨.lst (.own rfl), ?_⟩
      walk_at "pp"
      refine mm_extT rfl (by omega) ?_
      walk_at "pp"
      have el : (((it l (cp t) j).at' : Nat) : Int) + (((rT (l.getD i .non)).length : Nat) : Int) = (((it l (cp t) j).at' + tl' (l.getD i .non) : Nat) : Int) := by
        rw [len_cp]
        rfl
      refine ⟨(cp t).length - (it l (cp t) (j + 1)).at', by rw [es]; omega, j + 1, some (optI (some i)), some (.tup (rC (l.getD i .non))), some (.int (((it l (cp t) j).at' : Int) + ((rT (l.getD i .non)).length : Int))), hj2, rfl, ?_, ?_⟩
      · rw [es, est, el]
        rfl
      · rw [es, est, el]
        rfl
  · have hge : ¬ (it l (cp t) j).at' < (cp t).length := by
      have hb := of_decide_eq_false hb
      rw [len_cp] at hb
      omega
    have er := it_run hg hge
    walk_at "pp"
    walk_at "gp"
    refine gave_all (by rw [hl]; exact Nat.zero_le _) rfl ?_ ⟨rfl, by rw [← er]⟩
    show (D.ltL 3 (it l (cp t) j).cells && (D.ltL 3 (it l (cp t) j).spans && (D.ltL 3 (it l (cp t) j).strange && true))) = true
    rw [cells_ok_cl hok, spans_ok_cl hok, odd_ok_cl hok]
    rfl
end


section
variable {P : Program} {w : World} {K : PySem.W.Frag} {mg : Str → Option Value} {base : Heap} {a : Ad} {f : Addr} {fd : FuncData}
abbrev intD (i : Nat) : D := .int (i : Int)
theorem ints_w {ws : List Nat} {n : Nat} : D.ltL n (ws.map intD) = true := D.ltL_all.mpr fun x hx => by
  obtain ⟨i, _, rfl⟩ := List.mem_map.mp hx
  rfl
theorem Good.txt {d : D} (h : Good d) : TxtPre (.str (rT d)) := ⟨rfl, fun s e => by cases e; have := h.t1; omega⟩
theorem Good.rul {d : D} (h : Good d) : RulPre d := by
  refine ⟨h.cl, by rw [h.eq]; rfl, fun x y z w' e => ?_⟩
  have e2 := h.eq.symm.trans e
  injection e2 with e2
  injection e2 with e3 e2
  injection e2 with e4 e2
  injection e2 with e5 e2
  injection e2 with e6 e2
  subst e3 e4 e5 e6
  refine ⟨h.txt, ⟨rfl, fun l el => ?_⟩, rfl, rfl⟩
  injection el with el
  subst el
  exact ⟨by have := h.c1; omega, fun c hc => by obtain ⟨i, rfl, _⟩ := h.cc c hc; exact .inl ⟨i, rfl⟩⟩
theorem Good.is {d : D} (h : Good d) : isRule d = true := by
  rw [h.eq]
  have e1 : sm (rT d) (Str.ofString "") = false := decide_eq_false fun z => by
    have := h.t0
    rw [z, show cp (Str.ofString "") = [] by decide +kernel] at this
    exact Nat.lt_irrefl _ this
  have e2 : (rC d).isEmpty = false := by
    cases e : rC d with
    | nil =>
      have := h.c0
      rw [e] at this
      exact absurd this (Nat.lt_irrefl _)
    | cons _ _ => rfl
  have e3 : (rC d).all isCell = true := List.all_eq_true.mpr fun c hc => by
    obtain ⟨i, rfl, h0, h1⟩ := h.cc c hc
    exact Bool.and_eq_true_iff.mpr ⟨decide_eq_true h0, decide_eq_true h1⟩
  show ((isTxt (.str (rT d)) && !sm (rT d) (Str.ofString "")) && ((!(rC d).isEmpty && (rC d).all isCell) && (isCond (.str (rX d)) && isCond (.str (rY d))))) = true
  rw [h.tt, e1, e2, e3, h.x, h.y]
  rfl
theorem GoodB.bok {l : List D} (h : GoodB l) : BokPre (.lst l) := ⟨rfl, fun m e => by injection e with e; subst e; exact ⟨by have := h.1; omega, fun r hr => (h.2 r hr).rul⟩⟩
theorem GoodB.is {l : List D} (h : GoodB l) : isBook (.lst l) = true := List.all_eq_true.mpr fun r hr => (h.2 r hr).is
theorem str_pre {s : Str} (h : (cp s).length ≤ 10000) : TxtPre (.str s) := ⟨rfl, fun t e => by cases e; omega⟩
end


section
variable {P : Program} {w : World} {K : PySem.W.Frag} {mg : Str → Option Value} {base : Heap} {a : Ad} {f : Addr} {fd : FuncData}
theorem set_same {α : Type} {μ : List α} {k : Nat} {c : α} (h : μ[k]? = some c) : μ.set k c = μ := by
  refine List.ext_getElem? fun i => ?_
  rw [List.getElem?_set]
  split
  · rename_i e
    subst e
    split
    · exact h.symm
    · rename_i hl
      rw [List.getElem?_eq_none (by omega)]
  · rfl
/-- x, y, z = .., .., .. -/
theorem se_par3 {S : Bs} {δ : Sl} {μ : List Cell} {E : Cn} {i j n : Nat} {tz : TA} (h : EA K S tz δ μ fun ds μ1 => ∃ x y z, ds = [x, y, z] ∧ E.nx (((δ.set i (some x)).set j (some y)).set n (some z)) μ1) : SE K S (tPar3 i j n tz) δ μ E := fun A G H σ a F f =>
  h A G H σ a _ fun vs ds A1 G1 H1 μ1 m1 n1 r1 ⟨x, y, z, e, c⟩ => by
    subst e
    cases r1 with
    | cons rx r =>
      cases r with
      | cons ry r =>
        cases r with
        | cons rz r =>
          cases r
          exact ⟨_, _, _, rfl, f.nx A1 G1 H1 _ _ μ1 ⟨m1, En.set rz n (En.set ry j (En.set rx i (n1.en a.env)))⟩ n1 c⟩
section
variable {S : Bs} {δ : Sl} {μ : List Cell} {C : D → List Cell → Prop} {ta : TA} {E : XK}
theorem ask_check_book {l : List D} (hg : GoodB l) (h : EA K S ta δ μ fun ds μ1 => ds = [.lst l] ∧ C .non μ1) : EE K S (tCall (spCheck K BokPre isBook a.eInvalidBook) [] E ta) δ μ C :=
  ee_c0 (CE := fun _ _ _ => False) Wi.none fun A G H σ a' Q q => h A G H σ a' Q fun vs ds A1 G1 H1 μ1 m n r ⟨e, c⟩ => q vs ds A1 G1 H1 μ1 m n r (by
    subst e
    refine ⟨.lst l, hg.bok, rfl, by show (D.ltL 0 l && true) = true; rw [hg.cl]; rfl, fun d ⟨hd, _⟩ _ => ?_, fun c' d ⟨z, _⟩ _ => ?_⟩
    · subst hd
      exact c
    · rw [hg.is] at z
      cases z)
theorem ask_check_text {s : Str} (hz : (cp s).length ≤ 10000) (ht : isTxt (.str s) = true) (h : EA K S ta δ μ fun ds μ1 => ds = [.str s] ∧ C .non μ1) : EE K S (tCall (spCheck K TxtPre isTxt a.eInvalidText) [] E ta) δ μ C :=
  ee_c0 (CE := fun _ _ _ => False) Wi.none fun A G H σ a' Q q => h A G H σ a' Q fun vs ds A1 G1 H1 μ1 m n r ⟨e, c⟩ => q vs ds A1 G1 H1 μ1 m n r (by
    subst e
    refine ⟨.str s, str_pre hz, rfl, rfl, fun d ⟨hd, _⟩ _ => ?_, fun c' d ⟨z, _⟩ _ => ?_⟩
    · subst hd
      exact c
    · rw [ht] at z
      cases z)
theorem ask_laid (h : EA K S ta δ μ fun ds μ1 => ∃ l s, ds = [.lst l, .str s] ∧ GoodB l ∧ (cp s).length ≤ 10000 ∧ C (.tup [.own μ1.length, .own (μ1.length + 1), .own (μ1.length + 2)]) (μ1 ++ [.lst (run l (cp s)).cells, .lst (run l (cp s)).spans, .lst (run l (cp s)).strange])) : EE K S (tCall (spLaidOut K) [] E ta) δ μ C :=
  ee_callG (CE := fun _ _ _ => False) [] Wi.none fun A G H σ a' Q q => h A G H σ a' Q fun vs ds A1 G1 H1 μ1 m n r ⟨l, s, e, hg, hz, c⟩ => q vs ds A1 G1 H1 μ1 m n r (by
    subst e
    have hcl : D.ltL 0 [D.lst l, .str s] = true := by show (D.ltL 0 l && (true && true)) = true; rw [hg.cl]; rfl
    have hok : (run l (cp s)).Ok (cp s).length := it_ok hg _
    refine ⟨(l, s), ⟨hg, hz⟩, List.nodup_nil, fun k hk => (by cases hk), rfl, rfl, hsL_cl hcl, by rw [renL_cl hcl]; rfl, fun r ν n' ⟨e1, e2⟩ _ _ _ _ => ?_, fun cc r ν z _ _ _ => z⟩
    subst e1 e2
    show C (.tup [.own (μ1.length + (0 - 0)), .own (μ1.length + (1 - 0)), .own (μ1.length + (2 - 0))]) (μ1 ++ [.lst (D.renL _ (run l (cp s)).cells), .lst (D.renL _ (run l (cp s)).spans), .lst (D.renL _ (run l (cp s)).strange)])
    rw [renL_cl (cells_ok_cl hok), renL_cl (spans_ok_cl hok), renL_cl (odd_ok_cl hok)]
    exact c)
end
end


section
variable {P : Program} {w : World} {K : PySem.W.Frag} {mg : Str → Option Value} {base : Heap} {a : Ad} {f : Addr} {fd : FuncData}
structure LaidPre (t : D × D) : Prop where
  b : BokPre t.1
  x : TxtPre t.2
  b0 : t.1.lt 0 = true
  x0 : t.2.lt 0 = true
  g : isBook t.1 = true → ∃ l, t.1 = .lst l ∧ GoodB l
  s : isTxt t.2 = true → ∃ s, t.2 = .str s ∧ (cp s).length ≤ 10000
def three (l : List D) (s : Str) : List Cell := [.lst (run l (cp s)).cells, .lst (run l (cp s)).spans, .lst (run l (cp s)).strange]
def LaidExc (a : Ad) (t : D × D) (c : Addr) (d : D) : Prop := (isBook t.1 = false ∧ c = a.eInvalidBook ∧ d = t.1) ∨ (isBook t.1 = true ∧ isTxt t.2 = false ∧ c = a.eInvalidText ∧ d = t.2)
abbrev spLaid (K : PySem.W.Frag) (a : Ad) (res : D) : Sp := Pro K (T := D × D) (fun _ => []) (fun t => [t.1, t.2]) LaidPre (fun t d μ => ∃ l s, t.1 = .lst l ∧ t.2 = .str s ∧ GoodB l ∧ isTxt (.str s) = true ∧ (cp s).length ≤ 10000 ∧ d = res ∧ μ = three l s) (fun t c d _ => LaidExc a t c d)
theorem three_cl {l : List D} {s : Str} (hg : GoodB l) {n : Nat} : cellsLt n (three l s) = true := by
  have hok : (run l (cp s)).Ok (cp s).length := it_ok hg _
  show (D.ltL n (run l (cp s)).cells && (D.ltL n (run l (cp s)).spans && (D.ltL n (run l (cp s)).strange && true))) = true
  rw [cells_ok_cl hok, spans_ok_cl hok, odd_ok_cl hok]
  rfl
abbrev st_laid_cells : Stmt := top 44
abbrev nm_laid_cells : List Str := ["book", "text"]
theorem sc_laid_cells : FnScope nm_laid_cells ["book", "text"] (defScope st_laid_cells) := ⟨rfl, rfl, rfl, by decide +kernel, rfl, by decide +kernel, by decide +kernel⟩
theorem ok_laid_cells (F : Fun K "laid_cells" "laid_cells" st_laid_cells f fd) (T : Tx P w K mg base a) (c_check_book : CalX P w K mg base 5 "check_book" ["value"] (spCheck K BokPre isBook a.eInvalidBook)) (c_check_text : CalX P w K mg base 3 "check_text" ["value"] (spCheck K TxtPre isTxt a.eInvalidText)) (c_laid_out : CalX P w K mg base 6 "laid_out" ["book", "text"] (spLaidOut K)) : FnOk P w K mg base (L2.CX P w) 7 f fd ["book", "text"] (spLaid K a (.tup [.own 0, .own 1])) := by
  refine F.okX sc_laid_cells (fun vs H Q E h => pro_len h fun _ => rfl) (fun cdv A outer s H vs Q E hr h => ⟨_, (pss_cons (ps_expr (pe_c c_check_book hr (by first | decide | exact Nat.le_refl _) rfl (passes_call (takes_of rfl rfl rfl rfl) (fun _ _ _ _ h => h)) (pa_cons (pv 0) pa_nil)))
    (pss_cons (ps_expr (pe_c c_check_text hr (by first | decide | exact Nat.le_refl _) rfl (passes_call (takes_of rfl rfl rfl rfl) (fun _ _ _ _ h => h)) (pa_cons (pv 1) pa_nil)))
    (pss_one (ps_ret (pe_slice (kS K rSlU rfl sl_U) (pe_c c_laid_out hr (by first | decide | exact Nat.le_refl _) rfl (passes_call (takes_of rfl rfl rfl rfl) (fun _ _ _ _ h => h)) (pa_cons (pv 0) (pa_cons (pv 1) pa_nil))) po_none (po_some pe_int)))))), run_body h fun ⟨b, x⟩ S hp hl hcl wi => ?_⟩)
  have hl : S.A.length = 0 := hl
  have hp : LaidPre (b, x) := hp
  have hb0 : b.lt 0 = true := hp.b0
  have hx0 : x.lt 0 = true := hp.x0
  walk_at "pp"
  refine ee_c0 wi ?_
  walk_at "pp"
  refine ⟨b, hp.b, rfl, by show (b.lt 0 && true) = true; rw [hb0]; rfl, fun d ⟨_, hb⟩ _ => ?_, fun c d ⟨h1, h2, h3⟩ _ => ⟨by rw [h3, hl]; exact hb0, by rw [hl]; rfl, .inl ⟨h1, h2, h3⟩⟩⟩
  obtain ⟨l, el, hg⟩ := hp.g hb
  have el : b = .lst l := el
  subst el
  walk_at "pp"
  refine ee_c0 wi ?_
  walk_at "pp"
  refine ⟨x, hp.x, rfl, by show (x.lt 0 && true) = true; rw [hx0]; rfl, fun d ⟨_, hx⟩ _ => ?_, fun c d ⟨h1, h2, h3⟩ _ => ⟨by rw [h3, hl]; exact hx0, by rw [hl]; rfl, .inr ⟨hb, h1, h2, h3⟩⟩⟩
  obtain ⟨s, es, hz⟩ := hp.s hx
  have es : x = .str s := es
  subst es
  walk_at "pp"
  refine ask_laid ?_
  walk_at "pp"
  refine ⟨hg, hz, ?_⟩
  walk_at "pp"
  refine ss_tup ?_
  walk_at "gp"
  exact gave_all (by rw [hl]; exact Nat.zero_le _) rfl (three_cl hg) ⟨l, s, rfl, rfl, hg, hx, hz, rfl, rfl⟩
end


/-! ### windows, plainly: z i: cell i is empty; n cells; w wide -/
section
variable (z : Nat → Bool) (n w : Nat)
def baseK (i : Nat) : Bool := decide (i = 0) || (z (i - 1) || z i)
def stK : Nat → Nat
  | 0 => 0
  | i + 1 => if (!z (i + 1) && z i) = true then i + 1 else stK i
def enF : Nat → Nat → Nat
  | 0, f => f
  | k + 1, f => if f < n ∧ z f = false then enF k (f + 1) else f
def enK (f : Nat) : Nat := enF z n (n - f) f
def kd (i : Nat) : Nat := if z i = false ∧ w < enK z n (stK z i) - stK z i then (if (i - stK z i) % w = 0 then 2 else 0) else (if baseK z i = true then 1 else 0)
def frK : Nat → Nat
  | 0 => 0
  | a + 1 => if n ≤ a ∨ z a = true then a + 1 else frK a
/-- the kinds as the lib has them when it stands at a -/
def kdAt (a i : Nat) : Nat := if i < frK z n a then kd z n w i else (if baseK z i = true then 1 else 0)
def kk (i : Nat) : Nat := if i < n then kd z n w i else 1
def downK : Nat → Nat
  | 0 => 0
  | j + 1 => if 0 < kk z n w (j + 1) then j + 1 else downK j
def topK (a : Nat) : Nat := min (a + w) n
def stopK (a : Nat) : Nat := ((List.range' (a + 1) (topK n w a - a)).find? fun j => decide (kk z n w j = 2)).getD (topK n w a)
def winK (a : Nat) : Nat := downK z n w (stopK z n w a)
end
section
variable {z : Nat → Bool} {n w : Nat}
theorem enF_eq : ∀ (k f e : Nat), e - f ≤ k → f ≤ e → (∀ j, f ≤ j → j < e → j < n ∧ z j = false) → ¬ (e < n ∧ z e = false) → enF z n k f = e
  | 0, f, e, hk, hf, _, _ => by
    show f = e
    omega
  | k + 1, f, e, hk, hf, h1, h2 => by
    show (if f < n ∧ z f = false then enF z n k (f + 1) else f) = e
    by_cases he : f = e
    · subst he
      rw [if_neg h2]
    · rw [if_pos (h1 f (Nat.le_refl _) (by omega))]
      exact enF_eq k (f + 1) e (by omega) (by omega) (fun j hj1 hj2 => h1 j (by omega) hj2) h2
theorem enK_eq {f e : Nat} (hf : f ≤ e) (he : e ≤ n) (h1 : ∀ j, f ≤ j → j < e → j < n ∧ z j = false) (h2 : ¬ (e < n ∧ z e = false)) : enK z n f = e := enF_eq _ f e (by omega) hf h1 h2
/-- the law's way to the end -/
theorem enF_le : ∀ (k f : Nat), f ≤ enF z n k f
  | 0, f => Nat.le_refl _
  | k + 1, f => by
    show f ≤ if f < n ∧ z f = false then enF z n k (f + 1) else f
    split
    · have := enF_le k (f + 1)
      omega
    · exact Nat.le_refl _
theorem enK_step {f : Nat} : enK z n f = if f < n ∧ z f = false then enK z n (f + 1) else f := by
  by_cases h : f < n
  · show enF z n (n - f) f = _
    rw [show n - f = (n - (f + 1)) + 1 by omega]
    rfl
  · rw [if_neg (fun q => h q.1)]
    show enF z n (n - f) f = f
    rw [show n - f = 0 by omega]
    rfl
theorem fr_facts : ∀ a, a ≤ n → frK z n a ≤ a ∧ (∀ j, frK z n a ≤ j → j < a → z j = false) ∧ (frK z n a = 0 ∨ z (frK z n a - 1) = true)
  | 0, _ => ⟨Nat.le_refl _, fun j _ hj => absurd hj (Nat.not_lt_zero j), .inl rfl⟩
  | a + 1, ha => by
    obtain ⟨h1, h2, h3⟩ := fr_facts a (by omega)
    show (if n ≤ a ∨ z a = true then a + 1 else frK z n a) ≤ a + 1 ∧ (∀ j, (if n ≤ a ∨ z a = true then a + 1 else frK z n a) ≤ j → j < a + 1 → z j = false) ∧ ((if n ≤ a ∨ z a = true then a + 1 else frK z n a) = 0 ∨ z ((if n ≤ a ∨ z a = true then a + 1 else frK z n a) - 1) = true)
    by_cases h : z a = true
    · rw [if_pos (.inr h)]
      exact ⟨Nat.le_refl _, fun j q1 q2 => by omega, .inr h⟩
    · have hz : z a = false := by cases q : z a with
        | false => rfl
        | true => exact absurd q h
      rw [if_neg (by rintro (q | q); omega; exact h q)]
      refine ⟨by omega, fun j q1 q2 => ?_, h3⟩
      by_cases e : j = a
      · rw [e]
        exact hz
      · exact h2 j q1 (by omega)
theorem st_fr {a : Nat} (ha : a ≤ n) : ∀ i, frK z n a ≤ i → i < a → stK z i = frK z n a
  | 0, h1, h2 => by
    show 0 = _
    omega
  | i + 1, h1, h2 => by
    obtain ⟨q1, q2, q3⟩ := fr_facts (z := z) a ha
    show (if (!z (i + 1) && z i) = true then i + 1 else stK z i) = _
    have hz : z (i + 1) = false := q2 (i + 1) h1 h2
    by_cases e : frK z n a = i + 1
    · rcases q3 with q3 | q3
      · omega
      · rw [e, Nat.add_sub_cancel] at q3
        rw [hz, q3, if_pos (show (!false && true) = true from rfl), e]
    · have hzi : z i = false := q2 i (by omega) (by omega)
      rw [hz, hzi, if_neg (by decide)]
      exact st_fr ha i (by omega) (by omega)
/-- a step of the lib's -/
theorem kdAt_in {a i : Nat} (ha : a ≤ n) (hs : n ≤ a ∨ z a = true) (h1 : frK z n a ≤ i) (h2 : i < a) : kd z n w i = if w < a - frK z n a then (if (i - frK z n a) % w = 0 then 2 else 0) else (if baseK z i = true then 1 else 0) := by
  obtain ⟨q1, q2, q3⟩ := fr_facts (z := z) a ha
  have e1 := st_fr ha i h1 h2
  have e2 : enK z n (frK z n a) = a := enK_eq q1 ha (fun j j1 j2 => ⟨by omega, q2 j j1 j2⟩) (by
    rintro ⟨p1, p2⟩
    rcases hs with hs | hs
    · omega
    · rw [hs] at p2
      cases p2)
  unfold kd
  rw [e1, e2]
  by_cases h : w < a - frK z n a
  · rw [if_pos ⟨q2 i h1 h2, h⟩, if_pos h]
  · rw [if_neg (fun q => h q.2), if_neg h]
theorem kd_zero {i : Nat} (h : z i = true) : kd z n w i = 1 := by
  unfold kd baseK
  rw [if_neg (fun q => by rw [h] at q; cases q.1), h]
  simp
theorem kdAt_0 {i : Nat} : kdAt z n w 0 i = if baseK z i = true then 1 else 0 := if_neg (Nat.not_lt_zero i)
theorem kdAt_skip {a i : Nat} (hs : ¬ (n ≤ a ∨ z a = true)) : kdAt z n w (a + 1) i = kdAt z n w a i := by
  unfold kdAt
  rw [show frK z n (a + 1) = frK z n a from if_neg hs]
theorem kdAt_step {a i : Nat} (ha : a ≤ n) (hi : i < n) (hs : n ≤ a ∨ z a = true) : kdAt z n w (a + 1) i = if frK z n a ≤ i ∧ i < a ∧ w < a - frK z n a then (if (i - frK z n a) % w = 0 then 2 else 0) else kdAt z n w a i := by
  unfold kdAt
  rw [show frK z n (a + 1) = a + 1 from if_pos hs]
  by_cases h1 : i < frK z n a
  · have := (fr_facts (z := z) a ha).1
    rw [if_pos (by omega), if_neg (by omega), if_pos h1]
  · by_cases h2 : i < a
    · rw [if_pos (by omega), kdAt_in ha hs (by omega) h2, if_neg h1]
      by_cases h3 : w < a - frK z n a
      · rw [if_pos h3, if_pos (show frK z n a ≤ i ∧ i < a ∧ w < a - frK z n a from ⟨by omega, h2, h3⟩)]
      · rw [if_neg h3, if_neg (show ¬ (frK z n a ≤ i ∧ i < a ∧ w < a - frK z n a) from fun q => h3 q.2.2)]
    · rw [if_neg (show ¬ (frK z n a ≤ i ∧ i < a ∧ w < a - frK z n a) from fun q => h2 q.2.1), if_neg h1]
      by_cases h3 : i = a
      · subst h3
        have hz : z i = true := by
          rcases hs with hs | hs
          · omega
          · exact hs
        rw [if_pos (Nat.lt_succ_self _), kd_zero hz]
        unfold baseK
        rw [hz]
        simp
      · rw [if_neg (by omega)]
theorem kdAt_end {i : Nat} (hi : i < n) : kdAt z n w (n + 1) i = kd z n w i := by
  unfold kdAt
  rw [show frK z n (n + 1) = n + 1 from if_pos (.inl (Nat.le_refl _)), if_pos (by omega)]
/-- a part point lies behind each one, near enough -/
theorem word_of : ∀ i, z i = false → ∃ f, f ≤ i ∧ stK z i = f ∧ (∀ j, f ≤ j → j ≤ i → z j = false) ∧ (f = 0 ∨ z (f - 1) = true)
  | 0, h => ⟨0, Nat.le_refl _, rfl, fun j _ h2 => by rw [Nat.le_zero.mp h2]; exact h, .inl rfl⟩
  | i + 1, h => by
    have e : stK z (i + 1) = if (!z (i + 1) && z i) = true then i + 1 else stK z i := rfl
    cases hz : z i with
    | true =>
      rw [h, hz, if_pos (show (!false && true) = true from rfl)] at e
      exact ⟨i + 1, Nat.le_refl _, e, fun j h1 h2 => by rw [show j = i + 1 by omega]; exact h, .inr hz⟩
    | false =>
      rw [h, hz, if_neg (by decide)] at e
      obtain ⟨f, h1, h2, h3, h4⟩ := word_of i hz
      refine ⟨f, by omega, by rw [e, h2], fun j j1 j2 => ?_, h4⟩
      by_cases q : j = i + 1
      · rw [q]
        exact h
      · exact h3 j j1 (by omega)
theorem run_end : ∀ (k f : Nat), n - f ≤ k → f ≤ n → ∃ e, f ≤ e ∧ e ≤ n ∧ (∀ j, f ≤ j → j < e → z j = false) ∧ ¬ (e < n ∧ z e = false)
  | 0, f, hk, hf => ⟨f, Nat.le_refl _, hf, fun j h1 h2 => absurd h2 (by omega), fun q => by omega⟩
  | k + 1, f, hk, hf => by
    by_cases h : f < n ∧ z f = false
    · obtain ⟨e, h1, h2, h3, h4⟩ := run_end k (f + 1) (by omega) (by omega)
      refine ⟨e, by omega, h2, fun j j1 j2 => ?_, h4⟩
      by_cases q : j = f
      · rw [q]
        exact h.2
      · exact h3 j (by omega) j2
    · exact ⟨f, Nat.le_refl _, hf, fun j h1 h2 => absurd h2 (by omega), h⟩
theorem next_part (hw : 0 < w) {a : Nat} (ha : a < n) (hk : 0 < kk z n w a) : ∃ j, a < j ∧ j ≤ topK n w a ∧ 0 < kk z n w j := by
  unfold topK
  by_cases hn : n ≤ a + w
  · refine ⟨n, ha, by omega, ?_⟩
    unfold kk
    rw [if_neg (Nat.lt_irrefl _)]
    exact Nat.zero_lt_one
  have kkl : ∀ {j}, j < n → kk z n w j = kd z n w j := fun h => if_pos h
  rw [kkl ha] at hk
  cases hz : z a with
  | true =>
    refine ⟨a + 1, Nat.lt_succ_self _, by omega, ?_⟩
    rw [kkl (by omega)]
    cases hz1 : z (a + 1) with
    | true =>
      rw [kd_zero hz1]
      exact Nat.zero_lt_one
    | false =>
      unfold kd
      have e : stK z (a + 1) = a + 1 := by
        show (if (!z (a + 1) && z a) = true then a + 1 else stK z a) = a + 1
        rw [hz, hz1, if_pos (show (!false && true) = true from rfl)]
      rw [e, Nat.sub_self, Nat.zero_mod]
      split
      · rw [if_pos rfl]
        decide
      · unfold baseK
        rw [Nat.add_sub_cancel, hz]
        simp
  | false =>
    obtain ⟨f, f1, f2, f3, f4⟩ := word_of a hz
    obtain ⟨e, e1, e2, e3, e4⟩ := run_end (z := z) (n := n) n a (by omega) (by omega)
    have ee : enK z n f = e := enK_eq (by omega) e2 (fun j j1 j2 => ⟨by omega, by
      by_cases q : j ≤ a
      · exact f3 j j1 q
      · exact e3 j (by omega) j2⟩) e4
    have hae : a < e := by
      by_cases q : a = e
      · subst q
        exact absurd ⟨ha, hz⟩ e4
      · omega
    by_cases hl : w < e - f
    · have hm : (a - f) % w = 0 := by
        unfold kd at hk
        rw [f2, ee, if_pos ⟨hz, hl⟩] at hk
        by_cases q : (a - f) % w = 0
        · exact q
        · rw [if_neg q] at hk
          exact absurd hk (Nat.lt_irrefl _)
      by_cases hq : a + w < e
      · refine ⟨a + w, by omega, by omega, ?_⟩
        rw [kkl (by omega)]
        have hz2 : z (a + w) = false := e3 (a + w) (by omega) hq
        obtain ⟨g, g1, g2, g3, g4⟩ := word_of (a + w) hz2
        have hgf : g = f := by
          by_cases q : g < f
          · rcases f4 with f4 | f4
            · omega
            · have := g3 (f - 1) (by omega) (by omega)
              rw [this] at f4
              cases f4
          · by_cases q2 : f < g
            · rcases g4 with g4 | g4
              · omega
              · have : z (g - 1) = false := by
                  by_cases q3 : g - 1 ≤ a
                  · exact f3 (g - 1) (by omega) q3
                  · exact e3 (g - 1) (by omega) (by omega)
                rw [this] at g4
                cases g4
            · omega
        unfold kd
        rw [g2, hgf, ee, if_pos ⟨hz2, hl⟩, show a + w - f = (a - f) + w by omega, Nat.add_mod_right, hm, if_pos rfl]
        decide
      · refine ⟨e, hae, by omega, ?_⟩
        rw [kkl (by omega)]
        have : z e = true := by cases q : z e with
          | true => rfl
          | false => exact absurd ⟨by omega, q⟩ e4
        rw [kd_zero this]
        exact Nat.zero_lt_one
    · have haf : a = f := by
        unfold kd at hk
        rw [f2, ee, if_neg (fun q => hl q.2)] at hk
        by_cases q : a = f
        · exact q
        · have hb : baseK z a = false := by
            unfold baseK
            rw [f3 (a - 1) (by omega) (by omega), hz, decide_eq_false (by omega)]
            rfl
          rw [hb] at hk
          exact absurd hk (by decide)
      refine ⟨e, hae, by omega, ?_⟩
      rw [kkl (by omega)]
      have : z e = true := by cases q : z e with
        | true => rfl
        | false => exact absurd ⟨by omega, q⟩ e4
      rw [kd_zero this]
      exact Nat.zero_lt_one
theorem down_top : ∀ m, (∃ j, j ≤ m ∧ 0 < j ∧ 0 < kk z n w j) → 0 < kk z n w (downK z n w m) ∧ downK z n w m ≤ m ∧ ∀ j, 0 < j → j ≤ m → 0 < kk z n w j → j ≤ downK z n w m
  | 0, ⟨j, h1, h2, _⟩ => by omega
  | m + 1, ⟨j, h1, h2, h3⟩ => by
    show 0 < kk z n w (if 0 < kk z n w (m + 1) then m + 1 else downK z n w m) ∧ (if 0 < kk z n w (m + 1) then m + 1 else downK z n w m) ≤ m + 1 ∧ ∀ j, 0 < j → j ≤ m + 1 → 0 < kk z n w j → j ≤ if 0 < kk z n w (m + 1) then m + 1 else downK z n w m
    by_cases h : 0 < kk z n w (m + 1)
    · rw [if_pos h]
      exact ⟨h, Nat.le_refl _, fun j _ hj _ => hj⟩
    · rw [if_neg h]
      have hj : j ≤ m := by
        by_cases q : j = m + 1
        · subst q
          exact absurd h3 h
        · omega
      obtain ⟨q1, q2, q3⟩ := down_top m ⟨j, hj, h2, h3⟩
      refine ⟨q1, by omega, fun i i1 i2 i3 => ?_⟩
      by_cases q : i = m + 1
      · subst q
        exact absurd i3 h
      · exact q3 i i1 (by omega) i3
end


section
variable {z : Nat → Bool} {n w : Nat}
theorem rng_at {a m i : Nat} (hi : i < m) : (List.range' (a + 1) m)[i]'(by rw [List.length_range']; exact hi) = a + 1 + i := by
  rw [List.getElem_range']
  omega
theorem stop_some {a s : Nat} (h1 : a < s) (h2 : s ≤ topK n w a) (h3 : kk z n w s = 2) (h4 : ∀ j, a < j → j < s → kk z n w j ≠ 2) : stopK z n w a = s := by
  unfold stopK
  have e : (List.range' (a + 1) (topK n w a - a)).find? (fun j => decide (kk z n w j = 2)) = some s := by
    rw [List.find?_eq_some_iff_getElem]
    refine ⟨decide_eq_true h3, s - (a + 1), by rw [List.length_range']; omega, by rw [rng_at (by omega)]; omega, fun j hj => ?_⟩
    rw [rng_at (by omega), decide_eq_false (h4 _ (by omega) (by omega))]
    rfl
  rw [e]
  rfl
theorem stop_none {a : Nat} (h : ∀ j, a < j → j ≤ topK n w a → kk z n w j ≠ 2) : stopK z n w a = topK n w a := by
  unfold stopK
  have e : (List.range' (a + 1) (topK n w a - a)).find? (fun j => decide (kk z n w j = 2)) = none := by
    rw [List.find?_eq_none]
    intro x hx
    obtain ⟨i, hi, e⟩ := List.getElem_of_mem hx
    rw [List.length_range'] at hi
    rw [rng_at hi] at e
    rw [decide_eq_false (h x (by omega) (by omega))]
    exact Bool.false_ne_true
  rw [e]
  rfl
theorem stop_cases {a : Nat} (hs : topK n w a = topK n w a) : (∃ s, a < s ∧ s ≤ topK n w a ∧ kk z n w s = 2 ∧ (∀ j, a < j → j < s → kk z n w j ≠ 2)) ∨ ∀ j, a < j → j ≤ topK n w a → kk z n w j ≠ 2 := by
  have q : ∀ m, (∃ s, a < s ∧ s ≤ a + m ∧ kk z n w s = 2 ∧ (∀ j, a < j → j < s → kk z n w j ≠ 2)) ∨ ∀ j, a < j → j ≤ a + m → kk z n w j ≠ 2 := by
    intro m
    induction m with
    | zero => exact .inr fun j h1 h2 => by omega
    | succ m ih =>
      rcases ih with ⟨s, h1, h2, h3⟩ | h
      · exact .inl ⟨s, h1, by omega, h3⟩
      · by_cases e : kk z n w (a + m + 1) = 2
        · exact .inl ⟨a + m + 1, by omega, by omega, e, fun j h1 h2 => h j h1 (by omega)⟩
        · refine .inr fun j h1 h2 => ?_
          by_cases e2 : j = a + m + 1
          · rw [e2]
            exact e
          · exact h j h1 (by omega)
  rcases q (topK n w a - a) with ⟨s, h1, h2, h3⟩ | h
  · exact .inl ⟨s, h1, by omega, h3⟩
  · exact .inr fun j h1 h2 => h j h1 (by omega)
theorem stop_le {a : Nat} : stopK z n w a ≤ topK n w a := by
  rcases stop_cases (z := z) (n := n) (w := w) (a := a) rfl with ⟨s, h1, h2, h3, h4⟩ | h
  · rw [stop_some h1 h2 h3 h4]
    exact h2
  · rw [stop_none h]
    exact Nat.le_refl _
theorem stop_part (hw : 0 < w) {a : Nat} (ha : a < n) (hk : 0 < kk z n w a) : ∃ j, a < j ∧ j ≤ stopK z n w a ∧ 0 < kk z n w j := by
  rcases stop_cases (z := z) (n := n) (w := w) (a := a) rfl with ⟨s, h1, h2, h3, h4⟩ | h
  · exact ⟨s, h1, by rw [stop_some h1 h2 h3 h4]; exact Nat.le_refl _, by rw [h3]; decide⟩
  · rw [stop_none h]
    exact next_part hw ha hk
theorem win_ok (hw : 0 < w) {a : Nat} (ha : a < n) (hk : 0 < kk z n w a) : a < winK z n w a ∧ winK z n w a ≤ topK n w a ∧ 0 < kk z n w (winK z n w a) := by
  obtain ⟨j, h1, h2, h3⟩ := stop_part hw ha hk
  obtain ⟨q1, q2, q3⟩ := down_top (stopK z n w a) ⟨j, h2, by omega, h3⟩
  have := q3 j (by omega) h2 h3
  have := stop_le (z := z) (n := n) (w := w) (a := a)
  exact ⟨by unfold winK; omega, by unfold winK; omega, q1⟩
/-- the lib's last one, having looked at i of them -/
def lastL (z : Nat → Bool) (n w a : Nat) : Nat → Nat
  | 0 => a + 1
  | i + 1 => if 0 < kk z n w (a + 1 + i) then a + 1 + i else lastL z n w a i
theorem last_down {a : Nat} : ∀ i, (∃ j, a < j ∧ j ≤ a + i ∧ 0 < kk z n w j) → lastL z n w a i = downK z n w (a + i)
  | 0, ⟨j, h1, h2, _⟩ => by omega
  | i + 1, ⟨j, h1, h2, h3⟩ => by
    show (if 0 < kk z n w (a + 1 + i) then a + 1 + i else lastL z n w a i) = if 0 < kk z n w (a + i + 1) then a + i + 1 else downK z n w (a + i)
    rw [show a + 1 + i = a + i + 1 by omega]
    by_cases h : 0 < kk z n w (a + i + 1)
    · rw [if_pos h, if_pos h]
    · rw [if_neg h, if_neg h]
      refine last_down i ⟨j, h1, ?_, h3⟩
      by_cases e : j = a + i + 1
      · subst e
        exact absurd h3 h
      · omega
/-- the windows, one by one -/
def wN (z : Nat → Bool) (n w : Nat) : Nat → Nat × List (Nat × Nat)
  | 0 => (0, [])
  | j + 1 => if (wN z n w j).1 < n then (winK z n w (wN z n w j).1, (wN z n w j).2 ++ [((wN z n w j).1, winK z n w (wN z n w j).1)]) else wN z n w j
def wins (z : Nat → Bool) (n w : Nat) : List (Nat × Nat) := (wN z n w n).2
theorem wN_succ {j : Nat} (h : (wN z n w j).1 < n) : wN z n w (j + 1) = (winK z n w (wN z n w j).1, (wN z n w j).2 ++ [((wN z n w j).1, winK z n w (wN z n w j).1)]) := if_pos h
theorem kk_0 (hw : 0 < w) : 0 < kk z n w 0 := by
  unfold kk
  split
  · unfold kd
    split
    · rw [show stK z 0 = 0 from rfl, Nat.sub_self, Nat.zero_mod, if_pos rfl]
      decide
    · exact Nat.zero_lt_one
  · exact Nat.zero_lt_one
theorem wN_ok (hw : 0 < w) : ∀ j, 0 < kk z n w (wN z n w j).1 ∧ (wN z n w j).1 ≤ n ∧ min j n ≤ (wN z n w j).1 ∧ (wN z n w j).2.length ≤ j ∧ ∀ p ∈ (wN z n w j).2, p.1 < p.2 ∧ p.2 ≤ n
  | 0 => ⟨kk_0 hw, Nat.zero_le _, by show min 0 n ≤ 0; omega, Nat.le_refl _, fun p h => (by cases h)⟩
  | j + 1 => by
    obtain ⟨h1, h2, h3, h4, h5⟩ := wN_ok hw j
    by_cases h : (wN z n w j).1 < n
    · rw [wN_succ h]
      obtain ⟨q1, q2, q3⟩ := win_ok hw h h1
      have : topK n w (wN z n w j).1 ≤ n := by unfold topK; omega
      refine ⟨q3, by show winK z n w _ ≤ n; omega, by show min (j + 1) n ≤ winK z n w _; omega, by rw [List.length_append]; show _ + 1 ≤ j + 1; omega, fun p hp => ?_⟩
      rcases List.mem_append.mp hp with hp | hp
      · exact h5 p hp
      · rw [List.mem_singleton.mp hp]
        exact ⟨q1, by show winK z n w _ ≤ n; omega⟩
    · have e : wN z n w (j + 1) = wN z n w j := if_neg h
      rw [e]
      exact ⟨h1, h2, by omega, by omega, h5⟩
theorem wN_stay {j : Nat} (h : ¬ (wN z n w j).1 < n) : ∀ m, wN z n w (j + m) = wN z n w j
  | 0 => rfl
  | m + 1 => by
    show wN z n w (j + m + 1) = _
    have ih := wN_stay h m
    rw [show wN z n w (j + m + 1) = wN z n w (j + m) from if_neg (by rw [ih]; exact h), ih]
theorem wN_end (hw : 0 < w) {j : Nat} (hj : j ≤ n) (h : ¬ (wN z n w j).1 < n) : (wN z n w j).2 = wins z n w := by
  have := wN_stay h (n - j)
  rw [show j + (n - j) = n by omega] at this
  unfold wins
  rw [this]
theorem wN_lt (hw : 0 < w) {j : Nat} (hj : j ≤ n) (h : (wN z n w j).1 < n) : j < n := by
  have := (wN_ok (z := z) (n := n) hw j).2.2.1
  omega
end


section
variable {P : Program} {w : World} {K : PySem.W.Frag} {mg : Str → Option Value} {base : Heap} {a : Ad} {f : Addr} {fd : FuncData}
def isCtN (m : Nat) : D → Bool
  | .v (.int i) => decide ((m : Int) ≤ i)
  | _ => false
def isInN (n : Nat) : D → Bool
  | .v (.int i) => decide (0 ≤ i) && decide (i < (n : Int))
  | _ => false
def Cl (d : D) : Prop := d.pl = true ∧ d.lt 0 = true
abbrev spCount (K : PySem.W.Frag) : Sp := ProP K (T := D × Nat) (fun t => [t.1, .int (t.2 : Int)]) (fun t => Cl t.1) (fun t r => r = .bl (isCtN t.2 t.1)) (fun _ _ _ => False)
theorem notWh {d : D} (h : isWh d = false) : (∀ m, isCtN m d = false) ∧ ∀ n, isInN n d = false := by
  cases d with
  | v x => cases x <;> first | exact ⟨fun _ => rfl, fun _ => rfl⟩ | cases h
  | _ => exact ⟨fun _ => rfl, fun _ => rfl⟩
theorem ct_in {n : Nat} {i : Int} (h : isCtN 0 (.int i) = true) : isInN n (.int i) = decide (i < (n : Int)) := by
  show (decide (0 ≤ i) && decide (i < (n : Int))) = _
  rw [show decide (0 ≤ i) = true from h]
  rfl
theorem not_ct {n : Nat} {d : D} (h : isCtN 0 d = false) : isInN n d = false := by
  cases d with
  | v x =>
    cases x with
    | int i =>
      show (decide (0 ≤ i) && decide (i < (n : Int))) = _
      rw [show decide (0 ≤ i) = false from h]
      rfl
    | _ => rfl
  | _ => rfl
theorem ct_int {m : Nat} {d : D} (h : isCtN m d = true) : ∃ i : Int, d = .int i := by
  cases d with
  | v x => cases x <;> first | exact ⟨_, rfl⟩ | cases h
  | _ => cases h
abbrev st_is_count : Stmt := top 17
abbrev nm_is_count : List Str := ["value", "least"]
theorem sc_is_count : FnScope nm_is_count ["value", "least"] (defScope st_is_count) := ⟨rfl, rfl, rfl, by decide +kernel, rfl, by decide +kernel, by decide +kernel⟩
theorem ok_is_count (F : FunD K "is_count" "is_count" (defArgs st_is_count) (defBody st_is_count) (defScope st_is_count) [.int 0] [] f fd) (T : Tx P w K mg base a) (c_is_whole : CalX P w K mg base 1 "is_whole" ["value"] (spOf K (fun d => d.pl = true) fun d => .bl (isWh d))) : FnOk P w K mg base (L2.CX P w) 2 f fd ["value", "least"] (spCount K) := by
  refine F.ok sc_is_count (fun vs H Q E h => pro_len h fun _ => rfl) (fun cdv A outer s H vs Q E hr h => ⟨_, (pss_one (ps_ret (pe_and (pe_c c_is_whole hr (by first | decide | exact Nat.le_refl _) rfl (passes_call (takes_of rfl rfl rfl rfl) (fun _ _ _ _ h => h)) (pa_cons (pv 0) pa_nil)) (pe_one (pe_cmpR op_ge (pv 0) (pe_callB (call_max2 rfl) (by rfl) T.b_max (by decide +kernel) (pa_cons (pv 1) (pa_cons pe_int pa_nil))) (nomark _)))))), run_body h fun ⟨d, n⟩ S ⟨hp, h0⟩ hl hcl wi => ?_⟩)
  have hl : S.A.length = 0 := hl
  have hp : d.pl = true := hp
  have h0 : d.lt 0 = true := h0
  walk_at "pp"
  refine ee_cz ?_
  walk_at "pp"
  refine ⟨d, hp, rfl, by show (d.lt 0 && true) = true; rw [h0]; rfl, ?_⟩
  rintro r rfl
  refine ⟨_, rfl, fun hb => ?_, fun hb => ?_⟩
  · obtain ⟨i, rfl⟩ := wh_int hb
    walk_at "pp"
    walk_at "gp"
    refine gaveP hl (by rfl) ?_
    show D.bl _ = D.bl (decide ((n : Int) ≤ i))
    congr 2
  · walk_at "gp"
    refine gaveP hl (by rfl) ?_
    show D.bl _ = D.bl _
    rw [(notWh hb).1]
abbrev spCheckCount (K : PySem.W.Frag) (a : Ad) : Sp := ProP K (T := D × Nat) (fun t => [t.1, .int 0, .int (t.2 : Int)]) (fun t => Cl t.1) (fun t r => r = .non ∧ isInN t.2 t.1 = true) (fun t c v => isInN t.2 t.1 = false ∧ c = a.eInvalidCount ∧ v = t.1)
abbrev st_check_count : Stmt := top 21
abbrev nm_check_count : List Str := ["value", "least", "below"]
theorem sc_check_count : FnScope nm_check_count ["value", "least", "below"] (defScope st_check_count) := ⟨rfl, rfl, rfl, by decide +kernel, rfl, by decide +kernel, by decide +kernel⟩
theorem ok_check_count (F : FunD K "check_count" "check_count" (defArgs st_check_count) (defBody st_check_count) (defScope st_check_count) [.int 0, .non] [] f fd) (T : Tx P w K mg base a) (c_is_count : CalX P w K mg base 2 "is_count" ["value", "least"] (spCount K)) : FnOk P w K mg base (L2.CX P w) 3 f fd ["value", "least", "below"] (spCheckCount K a) := by
  refine F.ok sc_check_count (fun vs H Q E h => pro_len h fun _ => rfl) (fun cdv A outer s H vs Q E hr h => ⟨_, (pss_one (ps_if (PW.pt (pw_or (pt_not (pt_val (pe_c c_is_count hr (by first | decide | exact Nat.le_refl _) rfl (passes_call (takes_of rfl rfl rfl rfl) (fun _ _ _ _ h => h)) (pa_cons (pv 0) (pa_cons (pv 1) pa_nil))))) (pw_or1 (PW.pt (pw_and (pt_cmpR op_notN (pv 2) pe_non (nomark _)) (pw_and1 (pt_cmpR op_ge (pv 0) (pv 2) (nomark _)))))))) (pss_one (ps_raiseC rfl T.e_InvalidCount hr (by decide) (takes_of rfl rfl rfl rfl) rfl (pa_cons (pv 0) pa_nil))) pss_nil)), run_body h fun ⟨d, n⟩ S ⟨hp, h0⟩ hl hcl wi => ?_⟩)
  have hl : S.A.length = 0 := hl
  have hp : d.pl = true := hp
  have h0 : d.lt 0 = true := h0
  walk_at "pp"
  refine ee_cz ?_
  walk_at "pp"
  refine ⟨(d, 0), ⟨hp, h0⟩, rfl, by show (d.lt 0 && (true && true)) = true; rw [h0]; rfl, ?_⟩
  rintro r rfl
  walk_at "pp"
  refine ⟨fun hb => ?_, fun hb => ?_⟩
  · have hb : isCtN 0 d = false := by simpa using hb
    refine ⟨fun _ => ?_, fun z => by cases z⟩
    refine se_raise wi ?_
    walk_at "pp"
    exact ⟨by rw [hl]; exact h0, by rw [hl]; rfl, not_ct hb, rfl, rfl⟩
  · have hb : isCtN 0 d = true := by simpa using hb
    obtain ⟨i, rfl⟩ := ct_int hb
    walk_at "pp"
    refine ⟨fun hc => ?_, fun hc => ?_⟩
    · refine se_raise wi ?_
      walk_at "pp"
      refine ⟨by rw [hl]; exact h0, by rw [hl]; rfl, ?_, rfl, rfl⟩
      rw [ct_in hb]
      simpa using hc
    · walk_at "pp"
      walk_at "gp"
      refine gaveP hl (by rfl) ⟨rfl, ?_⟩
      rw [ct_in hb]
      simpa using hc
abbrev spChk (K : PySem.W.Frag) (g : D → Bool) (c : Addr) : Sp := spCheck K Cl g c
abbrev st_check_width : Stmt := top 45
abbrev nm_check_width : List Str := ["value"]
theorem sc_check_width : FnScope nm_check_width ["value"] (defScope st_check_width) := ⟨rfl, rfl, rfl, by decide +kernel, rfl, by decide +kernel, by decide +kernel⟩
theorem ok_check_width (F : Fun K "check_width" "check_width" st_check_width f fd) (T : Tx P w K mg base a) (c_is_count : CalX P w K mg base 2 "is_count" ["value", "least"] (spCount K)) : FnOk P w K mg base (L2.CX P w) 3 f fd ["value"] (spChk K (isCtN 1) a.eInvalidWidth) := by
  refine F.okX sc_check_width (fun vs H Q E h => pro_len h fun _ => rfl) (fun cdv A outer s H vs Q E hr h => ⟨_, (pss_one (ps_if (pt_not (pt_val (pe_c c_is_count hr (by first | decide | exact Nat.le_refl _) rfl (passes_call (takes_of rfl rfl rfl rfl) (fun _ _ _ _ h => h)) (pa_cons (pv 0) (pa_cons pe_int pa_nil))))) (pss_one (ps_raiseC rfl T.e_InvalidWidth hr (by decide) (takes_of rfl rfl rfl rfl) rfl (pa_cons (pv 0) pa_nil))) pss_nil)), run_body h fun d S ⟨hp, h0⟩ hl hcl wi => ?_⟩)
  have hl : S.A.length = 0 := hl
  have hp : d.pl = true := hp
  have h0 : d.lt 0 = true := h0
  walk_at "pp"
  refine ee_cz ?_
  walk_at "pp"
  refine ⟨(d, 1), ⟨hp, h0⟩, rfl, by show (d.lt 0 && (true && true)) = true; rw [h0]; rfl, ?_⟩
  rintro r rfl
  walk_at "pp"
  refine ⟨fun hb => ?_, fun hb => ?_⟩
  · refine se_raise wi ?_
    walk_at "pp"
    exact ⟨by rw [hl]; exact h0, by rw [hl]; rfl, by simpa using hb, rfl, rfl⟩
  · walk_at "pp"
    walk_at "gp"
    exact gaveP hl (by rfl) ⟨rfl, by simpa using hb⟩
end


section
variable {P : Program} {w : World} {K : PySem.W.Frag} {mg : Str → Option Value} {base : Heap} {a : Ad} {f : Addr} {fd : FuncData}
def dotN : D → Nat
  | .v (.int i) => i.toNat
  | _ => 0
def zc (l : List D) (i : Nat) : Bool := match l[i]? with
  | some (.v (.int j)) => decide (j = 0)
  | _ => false
def kL (g : Nat → Nat) (n : Nat) : List D := (List.range n).map fun i => D.int (g i : Int)
theorem kL_len {g : Nat → Nat} {n : Nat} : (kL g n).length = n := by unfold kL; rw [List.length_map, List.length_range]
theorem kL_at {g : Nat → Nat} {n i : Nat} (h : i < n) : (kL g n)[i]? = some (.int (g i : Int)) := by
  unfold kL
  rw [List.getElem?_map, List.getElem?_range h]
  rfl
theorem kL_cl {g : Nat → Nat} {n m : Nat} : D.ltL m (kL g n) = true := D.ltL_all.mpr fun x hx => by
  obtain ⟨i, _, rfl⟩ := List.mem_map.mp hx
  rfl
theorem kL_ext {g h : Nat → Nat} {n : Nat} (e : ∀ i, i < n → g i = h i) : kL g n = kL h n := List.map_congr_left fun i hi => by rw [e i (List.mem_range.mp hi)]
theorem kL_slice {g g' h : Nat → Nat} {n f i : Nat} (hf : f ≤ i) (hi : i ≤ n) (e1 : ∀ j, f ≤ j → j < i → g' j = h (j - f)) (e2 : ∀ j, j < f ∨ i ≤ j → j < n → g' j = g j) : (kL g n).take f ++ kL h (i - f) ++ (kL g n).drop i = kL g' n := by
  refine List.ext_getElem? fun j => ?_
  by_cases hj : j < n
  · rw [kL_at hj]
    by_cases h1 : j < f
    · rw [List.append_assoc, List.getElem?_append_left (by rw [List.length_take, kL_len]; omega), List.getElem?_take_of_lt h1, kL_at hj, e2 j (.inl h1) hj]
    · by_cases h2 : j < i
      · rw [List.getElem?_append_left (by rw [List.length_append, List.length_take, kL_len, kL_len]; omega), List.getElem?_append_right (by rw [List.length_take, kL_len]; omega), List.length_take, kL_len, Nat.min_eq_left (by omega), kL_at (by omega), e1 j (by omega) h2]
      · rw [List.getElem?_append_right (by rw [List.length_append, List.length_take, kL_len, kL_len]; omega), List.length_append, List.length_take, kL_len, kL_len, Nat.min_eq_left (by omega), List.getElem?_drop, show i + (j - (f + (i - f))) = j by omega, kL_at hj, e2 j (.inr (by omega)) hj]
  · rw [List.getElem?_eq_none (by rw [List.length_append, List.length_append, List.length_take, List.length_drop, kL_len, kL_len]; omega), List.getElem?_eq_none (by rw [kL_len]; omega)]
def CellL (l : List D) : Prop := l.length ≤ 1000000 ∧ ∀ c ∈ l, ∃ i : Int, c = .int i ∧ 0 ≤ i ∧ i < 64
theorem CellL.at {l : List D} (h : CellL l) {i : Nat} (hi : i < l.length) : ∃ j : Int, l[i]? = some (.int j) ∧ zc l i = decide (j = 0) := by
  obtain ⟨j, e, _⟩ := h.2 _ (List.getElem_mem hi)
  have e2 : l[i]? = some (.int j) := by rw [List.getElem?_eq_getElem hi, e]
  refine ⟨j, e2, ?_⟩
  unfold zc
  rw [e2]
theorem int_eq {i j : Int} : decide (V.int i = V.int j) = decide (i = j) := decide_eq_decide.mpr ⟨fun h => by injection h, fun h => by rw [h]⟩
theorem et_by {S : Bs} {δ : Sl} {μ : List Cell} {t : TT} {C : Bool → List Cell → Prop} (P : Prop) (h : ET K S t δ μ fun b μ2 => μ2 = μ ∧ (b = true ↔ P)) (k : ∀ b : Bool, (b = true ↔ P) → C b μ) : ET K S t δ μ C := fun A G H σ a Q q =>
  h A G H σ a Q fun b A1 G1 H1 μ1 m n ⟨e, hb⟩ => q b A1 G1 H1 μ1 m n (by rw [e]; exact k b hb)
abbrev spKinds (K : PySem.W.Frag) : Sp := ProN K (T := List D × Nat) (fun t => [.lst t.1, .int (t.2 : Int)]) (fun t => CellL t.1 ∧ 0 < t.2 ∧ t.2 ≤ 1000000) (fun t l => l = kL (kd (zc t.1) t.1.length t.2) t.1.length) (fun _ _ _ => False)
abbrev st_parting_kinds : Stmt := top 46
abbrev nm_parting_kinds : List Str := ["cells", "width", "kinds", "at", "first", "k"]
theorem sc_parting_kinds : FnScope nm_parting_kinds ["cells", "width"] (defScope st_parting_kinds) := ⟨rfl, rfl, rfl, by decide +kernel, rfl, by decide +kernel, by decide +kernel⟩
theorem ok_parting_kinds (F : Fun K "parting_kinds" "parting_kinds" st_parting_kinds f fd) (T : Tx P w K mg base a) : FnOk P w K mg base (L2.CX P w) 1 f fd ["cells", "width"] (spKinds K) := by
  refine F.okX sc_parting_kinds (fun vs H Q E h => pro_len h fun _ => rfl) (fun cdv A outer s H vs Q E hr h => ⟨_, (pss_cons (ps_setLc (i := 2) (own := [("at", 3)]) (tt := tYes) (g := (gName 3)) rfl sc_parting_kinds.nd rfl rfl (sw_true rfl rfl rfl (by decide +kernel)) (pi_range1 rfl T.b_range (pa_cons (pe_callB (kC K rLenU rfl call_lenU) (by rfl) T.b_len (by decide +kernel) (pa_cons (pv 0) pa_nil)) pa_nil)) (blkOk_by (own := [("at", 3)]) (N := nm_parting_kinds) (sc := (defScope st_parting_kinds)) (by decide +kernel)) (fun _ _ _ _ _ => (pg_name (i := 3) sc_parting_kinds.nd rfl (by first | exact Or.inl rfl | exact Or.inr rfl))) (fun _ _ _ _ _ => pts_nil) (fun _ _ _ _ _ => (pe_callTy call_int1 (by rfl) T.b_int (by decide +kernel) (pa_cons (pe_or (pe_cmpR (kO K rEqU rfl (op_eqU (hu64 hr))) (pv 3) pe_int (nomark _)) (pe_or (pe_cmpR (kO K rEqU rfl (op_eqU (hu64 hr))) (pe_ix (kX K rIx rfl ix_seq) (pv 0) (pe_op op_sub (pv 3) pe_int) (fun _ _ => rfl)) pe_int (nomark _)) (pe_one (pe_cmpR (kO K rEqU rfl (op_eqU (hu64 hr))) (pe_ix (kX K rIx rfl ix_seq) (pv 0) (pv 3) (fun _ _ => rfl)) pe_int (nomark _))))) pa_nil))))
    (pss_cons (ps_set (i := 4) sc_parting_kinds.nd rfl (by first | exact Or.inl rfl | exact Or.inr rfl) pe_int)
    (pss_cons (ps_for (passes_of rfl) rfl (pi_range1 rfl T.b_range (pa_cons (pe_op (kO K rPlus rfl op_plus) (pe_callB (kC K rLenU rfl call_lenU) (by rfl) T.b_len (by decide +kernel) (pa_cons (pv 0) pa_nil)) pe_int) pa_nil)) (pg_name (i := 3) sc_parting_kinds.nd rfl (by first | exact Or.inl rfl | exact Or.inr rfl))
      (pss_one (ps_if (PW.pt (pw_or (pt_cmpR (kO K rEqU rfl (op_eqU (hu64 hr))) (pv 3) (pe_callB (kC K rLenU rfl call_lenU) (by rfl) T.b_len (by decide +kernel) (pa_cons (pv 0) pa_nil)) (nomark _)) (pw_or1 (pt_cmpR (kO K rEqU rfl (op_eqU (hu64 hr))) (pe_ix (kX K rIx rfl ix_seq) (pv 0) (pv 3) (fun _ _ => rfl)) pe_int (nomark _))))) (pss_cons (ps_if (pt_cmpR op_gt (pe_op op_sub (pv 3) (pv 4)) (pv 1) (nomark _)) (pss_one (ps_asg (pe_lc (own := [("k", 5)]) (tt := tYes) (g := (gName 5)) rfl sc_parting_kinds.nd (pi_range1 rfl T.b_range (pa_cons (pe_op op_sub (pv 3) (pv 4)) pa_nil)) (blkOk_by (own := [("k", 5)]) (N := nm_parting_kinds) (sc := (defScope st_parting_kinds)) (by decide +kernel)) (fun _ _ _ _ _ => (pg_name (i := 5) sc_parting_kinds.nd rfl (by first | exact Or.inl rfl | exact Or.inr rfl))) (fun _ _ _ _ _ => pts_nil) (fun _ _ _ _ _ => (pe_op op_timesU pe_int (pe_callTy call_int1 (by rfl) T.b_int (by decide +kernel) (pa_cons (pe_cmpR (kO K rEqU rfl (op_eqU (hu64 hr))) (pe_op op_mod (pv 5) (pv 1)) pe_int (nomark _)) pa_nil))))) (pg_slS (pv 2) (pv 4) (pv 3)))) pss_nil)
    (pss_one (ps_set (i := 4) sc_parting_kinds.nd rfl (by first | exact Or.inl rfl | exact Or.inr rfl) (pe_op (kO K rPlus rfl op_plus) (pv 3) pe_int)))) pss_nil)))
    (pss_one (ps_ret (pv 2)))))), run_body h fun ⟨l, w⟩ S ⟨hc, h0, hw⟩ hl hcl wi => ?_⟩)
  have hl : S.A.length = 0 := hl
  have hc : CellL l := hc
  have h0 : 0 < w := h0
  have hz := hc.1
  generalize hz0 : zc l = z
  walk_at "pp"
  refine ee_lcN (ie_rng1 ?_)
  walk_at "pp"
  refine cc_len (.lst _) ?_
  walk_at "pp"
  have en : ((l.length : Nat) : Int).toNat = l.length := Int.toNat_natCast _
  have hz : l.length ≤ 1000000 := hz
  refine ⟨by show (-1000000000 : Int) ≤ (l.length : Int); omega, by show (l.length : Int) ≤ 1000000000; omega, ?_⟩
  show _ ∧ _ ∧ _
  rw [show ((((l, w).1.length : Nat) : Int)).toNat = l.length from Int.toNat_natCast _]
  refine ⟨fun _ h => h, trivial, fun _ => true, fun x => .int ((if baseK z (dotN x) = true then 1 else 0 : Nat) : Int), by rw [rng_len]; omega, fun x acc hx => ?_, ?_⟩
  · obtain ⟨i, hi⟩ := List.getElem?_of_mem hx
    obtain ⟨hi2, rfl⟩ := rng_get hi
    refine gw_name (by decide) ?_
    refine et_yes ?_
    refine ⟨rfl, rfl, fun _ => ?_⟩
    have fin : ∀ b : Bool, b = baseK z i → (if b = true then 1 else 0 : Int) = ((if baseK z (0 + (i : Int)).toNat = true then 1 else 0 : Nat) : Int) := fun b e => by
      rw [show (0 + (i : Int)).toNat = i by omega, ← e]
      cases b <;> rfl
    obtain ⟨c, hc1, hc2⟩ := hc.at hi2
    rw [hz0] at hc2
    walk_at "pp"
    rw [int_eq]
    refine ⟨fun h1 => ?_, fun h1 => ?_⟩
    · have h1 := of_decide_eq_true h1
      walk_at "pp"
      refine cc_intB ?_
      refine ⟨congrArg D.int (fin _ ?_), rfl⟩
      have : i = 0 := by omega
      subst this
      rfl
    · have h1 := of_decide_eq_false h1
      obtain ⟨c', hc1', hc2'⟩ := hc.at (i := i - 1) (by omega)
      rw [hz0] at hc2'
      walk_at "pp"
      refine oo_ixL (atI_of (j := i - 1) hc1' (by omega)) ?_
      walk_at "pp"
      rw [int_eq]
      refine ⟨fun h2 => ?_, fun h2 => ?_⟩
      · walk_at "pp"
        refine cc_intB ?_
        refine ⟨congrArg D.int (fin _ ?_), rfl⟩
        unfold baseK
        rw [hc2', h2]
        simp
      · walk_at "pp"
        refine oo_ixL (atI_of (j := i) hc1 (by omega)) ?_
        walk_at "pp"
        rw [int_eq]
        walk_at "pp"
        refine cc_intB ?_
        refine ⟨congrArg D.int (fin _ ?_), rfl⟩
        unfold baseK
        rw [hc2', h2, ← hc2, decide_eq_false (by omega)]
        rfl
  have ek : ((rng 0 l.length).filter fun _ => true).map (fun x => D.int ((if baseK z (dotN x) = true then 1 else 0 : Nat) : Int)) = kL (kdAt z l.length w 0) l.length := by
    rw [List.filter_eq_self.mpr fun _ _ => rfl]
    unfold rng kL
    rw [List.map_map]
    refine List.map_congr_left fun i _ => ?_
    show D.int ((if baseK z (0 + (i : Int)).toNat = true then 1 else 0 : Nat) : Int) = _
    rw [show (0 + (i : Int)).toNat = i by omega, kdAt_0]
  rw [ek]
  walk_at "pp"
  refine se_for (ie_rng1 ?_)
  walk_at "pp"
  refine cc_len (.lst _) ?_
  walk_at "pp"
  refine ⟨by show (-1000000000 : Int) ≤ (l.length : Int) + 1; omega, by show (l.length : Int) + 1 ≤ 1000000000; omega, ?_⟩
  show _ ∧ _
  rw [show ((((l, w).1.length : Nat) : Int) + 1).toNat = l.length + 1 by show ((l.length : Int) + 1).toNat = _; omega]
  refine ⟨rfl, fun i δ μ => ∃ (x3 x5 : Option D), δ = [some (.lst l), some (.int (w : Int)), some (.own 0), x3, some (.int ((frK z l.length i : Nat) : Int)), x5] ∧ μ = [.lst (kL (kdAt z l.length w i) l.length)], ⟨none, none, rfl, rfl⟩, ?_, ?_⟩
  · rintro i x δ μ hi ⟨x3, x5, rfl, rfl⟩
    obtain ⟨hi2, rfl⟩ := rng_get hi
    have hil : i ≤ l.length := by omega
    have hfr := fr_facts (z := z) (n := l.length) i hil
    refine ge_name ?_
    refine se_if (et_by (P := l.length ≤ i ∨ z i = true) ?_ fun b hb => ⟨fun h => ?_, fun h => ?_⟩)
    · walk_at "pp"
      refine cc_len (.lst _) ?_
      walk_at "pp"
      rw [int_eq]
      refine ⟨fun h1 => ?_, fun h1 => ?_⟩
      · have h1 := of_decide_eq_true h1
        exact ⟨rfl, fun _ => .inl (by show l.length ≤ i; have h1 : (0 + (i : Int)) = (l.length : Int) := h1; omega), fun _ => rfl⟩
      · have h1 : ¬ (0 + (i : Int)) = (l.length : Int) := of_decide_eq_false h1
        have hlt : i < l.length := by omega
        obtain ⟨c, hc1, hc2⟩ := hc.at hlt
        rw [hz0] at hc2
        walk_at "pp"
        refine oo_ixL (atI_of (j := i) hc1 (by omega)) ?_
        walk_at "pp"
        rw [int_eq, ← hc2]
        refine ⟨rfl, fun q => .inr q, fun q => ?_⟩
        rcases q with q | q
        · omega
        · exact q
    · have hs := hb.mp h
      refine se_seq (se_to (fun δ μ => ∃ x5, δ = [some (.lst l), some (.int (w : Int)), some (.own 0), some (.int (0 + (i : Int))), some (.int ((frK z l.length i : Nat) : Int)), x5] ∧ μ = [.lst (kL (kdAt z l.length w (i + 1)) l.length)]) ?_ ?_)
      · walk_at "pp"
        refine ⟨fun h2 => ?_, fun h2 => ?_⟩
        · have h2 := of_decide_eq_true h2
          refine se_asgG ?_
          refine ee_lc (ie_rng1 ?_)
          walk_at "pp"
          refine ⟨by omega, by omega, fun _ h => h, trivial, fun _ => true, fun x => .int ((if dotN x % w = 0 then 2 else 0 : Nat) : Int), by rw [rng_len]; omega, fun _ _ _ => rfl, fun x acc hx => ?_, ?_⟩
          · obtain ⟨k, hk⟩ := List.getElem?_of_mem hx
            obtain ⟨hk2, rfl⟩ := rng_get hk
            refine gw_name (by decide) ?_
            refine et_yes ?_
            refine ⟨rfl, rfl, fun _ => ?_⟩
            walk_at "pp"
            refine oo_mod (by omega) ?_
            walk_at "pp"
            refine cc_intB ?_
            walk_at "pp"
            refine oo_mul (mulW 3 3 (by decide) (by split <;> decide)) ?_
            refine ⟨congrArg D.int ?_, rfl⟩
            have ed : (decide (V.int ((0 + (k : Int)) % (w : Int)) = V.int 0)) = decide (k % w = 0) := by
              rw [int_eq, show (0 + (k : Int)) % (w : Int) = ((k % w : Nat) : Int) by rw [Int.zero_add]; exact (Int.natCast_emod k w).symm]
              exact decide_eq_decide.mpr ⟨fun h => by omega, fun h => by rw [h]; rfl⟩
            rw [ed]
            show (2 : Int) * _ = ((if (0 + (k : Int)).toNat % w = 0 then 2 else 0 : Nat) : Int)
            rw [show (0 + (k : Int)).toNat = k by omega]
            by_cases hm : k % w = 0
            · rw [decide_eq_true hm, if_pos hm]
              rfl
            · rw [decide_eq_false hm, if_neg hm]
              rfl
          · have em : (0 + (i : Int) - ((frK z l.length i : Nat) : Int)).toNat = i - frK z l.length i := by omega
            rw [em]
            have er : ((rng 0 (i - frK z l.length i)).filter fun _ => true).map (fun x => D.int ((if dotN x % w = 0 then 2 else 0 : Nat) : Int)) = kL (fun k => if k % w = 0 then 2 else 0) (i - frK z l.length i) := by
              rw [List.filter_eq_self.mpr fun _ _ => rfl]
              unfold rng kL
              rw [List.map_map]
              refine List.map_congr_left fun k _ => ?_
              show D.int ((if (0 + (k : Int)).toNat % w = 0 then 2 else 0 : Nat) : Int) = _
              rw [show (0 + (k : Int)).toNat = k by omega]
            rw [er]
            refine ge_slS ?_
            walk_at "pp"
            refine ⟨0, frK z l.length i, i, _, rfl, rfl, by rw [Int.zero_add], rfl, hfr.1, by rw [kL_len]; exact hil, by rw [kL_len, kL_len]; omega, ?_⟩
            refine ⟨x5, rfl, ?_⟩
            refine congrArg (fun q => [Cell.lst q]) (kL_slice hfr.1 hil (fun j j1 j2 => ?_) fun j j1 j2 => ?_)
            · rw [kdAt_step hil (by omega) hs, if_pos ⟨j1, j2, by omega⟩]
            · rw [kdAt_step hil j2 hs, if_neg (by omega)]
        · have h2 := of_decide_eq_false h2
          walk_at "pp"
          refine congrArg (fun q => [Cell.lst q]) (kL_ext fun j hj => ?_)
          rw [kdAt_step hil hj hs, if_neg (by omega)]
      · rintro δ μ ⟨x5, rfl, rfl⟩
        walk_at "pp"
        refine ⟨some (.int (0 + (i : Int))), x5, ?_, rfl⟩
        rw [show frK z l.length (i + 1) = i + 1 from if_pos hs, show (((i + 1 : Nat) : Int)) = 0 + (i : Int) + 1 by omega]
        rfl
    · have hs : ¬ (l.length ≤ i ∨ z i = true) := fun q => by rw [hb.mpr q] at h; cases h
      walk_at "pp"
      refine ⟨some (.int (0 + (i : Int))), x5, ?_, ?_⟩
      · rw [show frK z l.length (i + 1) = frK z l.length i from if_neg hs]
        rfl
      · exact congrArg (fun q => [Cell.lst q]) (kL_ext fun j hj => (kdAt_skip hs).symm)
  · rintro δ μ ⟨x3, x5, rfl, rfl⟩
    rw [rng_len]
    walk_at "pp"
    walk_at "gp"
    refine gaveN hl (k := 0) rfl kL_cl ?_
    exact kL_ext fun i hi => by rw [hz0]; exact kdAt_end hi
end


section
variable {P : Program} {w : World} {K : PySem.W.Frag} {mg : Str → Option Value} {base : Heap} {a : Ad} {f : Addr} {fd : FuncData}
def winD (p : Nat × Nat) : D := .tup [.int (p.1 : Int), .int (p.2 : Int)]
theorem wins_cl {l : List (Nat × Nat)} {m : Nat} : D.ltL m (l.map winD) = true := D.ltL_all.mpr fun x hx => by
  obtain ⟨i, _, rfl⟩ := List.mem_map.mp hx
  rfl
theorem kL_more {z : Nat → Bool} {n w : Nat} : kL (kd z n w) n ++ [.int 1] = kL (kk z n w) (n + 1) := by
  refine List.ext_getElem? fun i => ?_
  by_cases h : i < n
  · rw [List.getElem?_append_left (by rw [kL_len]; exact h), kL_at h, kL_at (by omega)]
    unfold kk
    rw [if_pos h]
  · by_cases h1 : i = n
    · subst h1
      rw [List.getElem?_append_right (by rw [kL_len]; omega), kL_len, Nat.sub_self, kL_at (Nat.lt_succ_self _)]
      unfold kk
      rw [if_neg h]
      rfl
    · rw [List.getElem?_eq_none (by rw [List.length_append, kL_len]; show n + 1 ≤ i; omega), List.getElem?_eq_none (by rw [kL_len]; omega)]
theorem winK_stop {z : Nat → Bool} {n w a s : Nat} (h1 : a < s) (h2 : s ≤ topK n w a) (h3 : kk z n w s = 2) (h4 : ∀ j, a < j → j < s → kk z n w j ≠ 2) : winK z n w a = s := by
  unfold winK
  rw [stop_some h1 h2 h3 h4]
  cases s with
  | zero => omega
  | succ s =>
    show (if 0 < kk z n w (s + 1) then s + 1 else downK z n w s) = s + 1
    rw [if_pos (by omega)]
theorem winK_none {z : Nat → Bool} {n w a : Nat} (hw : 0 < w) (ha : a < n) (hk : 0 < kk z n w a) (h : ∀ j, a < j → j ≤ topK n w a → kk z n w j ≠ 2) : winK z n w a = lastL z n w a (topK n w a - a) := by
  have ht : a ≤ topK n w a := by unfold topK; omega
  obtain ⟨j, h1, h2, h3⟩ := next_part hw ha hk
  rw [last_down _ ⟨j, h1, by omega, h3⟩, show a + (topK n w a - a) = topK n w a by omega]
  unfold winK
  rw [stop_none h]
abbrev spWins (K : PySem.W.Frag) : Sp := ProN K (T := List D × Nat) (fun t => [.lst t.1, .int (t.2 : Int)]) (fun t => CellL t.1 ∧ 0 < t.2 ∧ t.2 ≤ 1000000) (fun t l => l = (wins (zc t.1) t.1.length t.2).map winD) (fun _ _ _ => False)
abbrev st_windows_made : Stmt := top 47
abbrev nm_windows_made : List Str := ["cells", "width", "kinds", "found", "at", "last", "late"]
theorem sc_windows_made : FnScope nm_windows_made ["cells", "width"] (defScope st_windows_made) := ⟨rfl, rfl, rfl, by decide +kernel, rfl, by decide +kernel, by decide +kernel⟩
theorem ok_windows_made (F : Fun K "windows_made" "windows_made" st_windows_made f fd) (T : Tx P w K mg base a) (c_parting_kinds : CalX P w K mg base 1 "parting_kinds" ["cells", "width"] (spKinds K)) : FnOk P w K mg base (L2.CX P w) 2 f fd ["cells", "width"] (spWins K) := by
  refine F.okX sc_windows_made (fun vs H Q E h => pro_len h fun _ => rfl) (fun cdv A outer s H vs Q E hr h => ⟨_, (pss_cons (ps_set (i := 2) sc_windows_made.nd rfl (by first | exact Or.inl rfl | exact Or.inr rfl) (pe_op (kO K rPlus rfl op_plus) (pe_c c_parting_kinds hr (by first | decide | exact Nat.le_refl _) rfl (passes_call (takes_of rfl rfl rfl rfl) (fun _ _ _ _ h => h)) (pa_cons (pv 0) (pa_cons (pv 1) pa_nil))) (pe_lst (pa_cons pe_int pa_nil))))
    (pss_cons (ps_set (i := 3) sc_windows_made.nd rfl (by first | exact Or.inl rfl | exact Or.inr rfl) (pe_lst pa_nil))
    (pss_cons (ps_set (i := 4) sc_windows_made.nd rfl (by first | exact Or.inl rfl | exact Or.inr rfl) pe_int)
    (pss_cons (ps_while (passes_of rfl) (pt_cmpR op_less (pv 4) (pe_callB (kC K rLenU rfl call_lenU) (by rfl) T.b_len (by decide +kernel) (pa_cons (pv 0) pa_nil)) (nomark _)) (pss_cons (ps_set (i := 5) sc_windows_made.nd rfl (by first | exact Or.inl rfl | exact Or.inr rfl) (pe_op (kO K rPlus rfl op_plus) (pv 4) pe_int))
    (pss_cons (ps_for (passes_of rfl) rfl (pi_range2 rfl T.b_range (pa_cons (pe_op (kO K rPlus rfl op_plus) (pv 4) pe_int) (pa_cons (pe_op (kO K rPlus rfl op_plus) (pe_callB (call_min2 rfl) (by rfl) T.b_min (by decide +kernel) (pa_cons (pe_op (kO K rPlus rfl op_plus) (pv 4) (pv 1)) (pa_cons (pe_callB (kC K rLenU rfl call_lenU) (by rfl) T.b_len (by decide +kernel) (pa_cons (pv 0) pa_nil)) pa_nil))) pe_int) pa_nil))) (pg_name (i := 6) sc_windows_made.nd rfl (by first | exact Or.inl rfl | exact Or.inr rfl))
      (pss_cons (ps_if (pt_cmpR op_gt (pe_ix (kX K rIx rfl ix_seq) (pv 2) (pv 6) (fun _ _ => rfl)) pe_int (nomark _)) (pss_one (ps_set (i := 5) sc_windows_made.nd rfl (by first | exact Or.inl rfl | exact Or.inr rfl) (pv 6))) pss_nil)
    (pss_one (ps_if (pt_cmpR (kO K rEqU rfl (op_eqU (hu64 hr))) (pe_ix (kX K rIx rfl ix_seq) (pv 2) (pv 6) (fun _ _ => rfl)) pe_int (nomark _)) (pss_one ps_break) pss_nil))))
    (pss_cons (ps_expr (pe_bmK (K := K) rfl PySem.F.plainAttrs_list PySem.F.slot_list_append PySem.F.type_list_append mt_append (pv 3) (pa_cons (pe_tup (pa_cons (pv 4) (pa_cons (pv 5) pa_nil))) pa_nil)))
    (pss_one (ps_set (i := 4) sc_windows_made.nd rfl (by first | exact Or.inl rfl | exact Or.inr rfl) (pv 5)))))))
    (pss_one (ps_ret (pv 3))))))), run_body h fun ⟨l, w⟩ S ⟨hc, h0, hw⟩ hl hcl wi => ?_⟩)
  have hl : S.A.length = 0 := hl
  have hc : CellL l := hc
  have h0 : 0 < w := h0
  have hw : w ≤ 1000000 := hw
  have hz : l.length ≤ 1000000 := hc.1
  have hcl0 : D.ltL 0 l = true := cells_cl hc.2
  generalize hz0 : zc l = z
  walk_at "pp"
  refine ee_czS ?_
  walk_at "pp"
  refine ⟨(l, w), ⟨hc, h0, hw⟩, rfl, by show (D.ltL 0 l && (true && true)) = true; rw [hcl0]; rfl, ?_⟩
  rintro ks rfl _
  rw [hz0]
  walk_at "pp"
  refine ee_lst ?_
  walk_at "pp"
  refine oo_addL (by rw [kL_len]; show l.length + 1 ≤ 10000000; omega) ?_
  rw [kL_more]
  walk_at "pp"
  refine ee_open ?_
  walk_at "pp"
  refine se_while (fun m δ μ => ∃ (j : Nat) (x5 x6 : Option D), j ≤ l.length ∧ m = l.length - (wN z l.length w j).1 ∧ δ = [some (.lst l), some (.int (w : Int)), some (.lst (kL (kk z l.length w) (l.length + 1))), some (.own 0), some (.int (((wN z l.length w j).1 : Nat) : Int)), x5, x6] ∧ μ = [.lst ((wN z l.length w j).2.map winD)]) l.length ⟨0, none, none, Nat.zero_le _, rfl, rfl, rfl⟩ ?_
  rintro m δ μ ⟨j, x5, x6, hj, rfl, rfl, rfl⟩
  obtain ⟨w1, w2, w3, w4, w5⟩ := wN_ok (z := z) (n := l.length) h0 j
  walk_at "pp"
  refine cc_len (.lst _) ?_
  walk_at "pp"
  refine ⟨fun hb => ?_, fun hb => ?_⟩
  · have hlt : (wN z l.length w j).1 < l.length := by have := of_decide_eq_true hb; omega
    have hj2 := wN_lt h0 hj hlt
    have es := wN_succ (z := z) (n := l.length) (w := w) hlt
    obtain ⟨v1, v2, v3⟩ := win_ok h0 hlt w1
    generalize hA : (wN z l.length w j).1 = q at *
    generalize hB : (wN z l.length w j).2 = fs at *
    walk_at "pp"
    refine se_to (fun δ μ => ∃ x6, δ = [some (.lst l), some (.int (w : Int)), some (.lst (kL (kk z l.length w) (l.length + 1))), some (.own 0), some (.int (q : Int)), some (.int ((winK z l.length w q : Nat) : Int)), x6] ∧ μ = [.lst (fs.map winD)]) ?_ ?_
    · refine se_for (ie_rng2 ?_)
      walk_at "pp"
      refine cc_len (.lst _) ?_
      walk_at "pp"
      have et : (if ((l.length : Nat) : Int) < (q : Int) + (w : Int) then ((l.length : Nat) : Int) else (q : Int) + (w : Int)) = ((topK l.length w q : Nat) : Int) := by
        unfold topK
        split <;> omega
      have ht : q ≤ topK l.length w q ∧ topK l.length w q ≤ l.length := by unfold topK; omega
      rw [et]
      refine ⟨⟨by omega, by omega, by omega, by omega⟩, ?_⟩
      rw [show (((topK l.length w q : Nat) : Int) + 1 - ((q : Int) + 1)).toNat = topK l.length w q - q by omega]
      refine ⟨rfl, fun i δ μ => ∃ x6, δ = [some (.lst l), some (.int (w : Int)), some (.lst (kL (kk z l.length w) (l.length + 1))), some (.own 0), some (.int (q : Int)), some (.int ((lastL z l.length w q i : Nat) : Int)), x6] ∧ μ = [.lst (fs.map winD)] ∧ ∀ s, q < s → s ≤ q + i → kk z l.length w s ≠ 2, ⟨x6, by rw [show lastL z l.length w q 0 = q + 1 from rfl]; rfl, rfl, fun s s1 s2 => by omega⟩, ?_, ?_⟩
      · rintro i x δ μ hi ⟨x6, rfl, rfl, hno⟩
        obtain ⟨hi2, rfl⟩ := rng_get hi
        have hat : (q : Int) + 1 + (i : Int) = ((q + 1 + i : Nat) : Int) := by omega
        have hk : (kL (kk z l.length w) (l.length + 1))[q + 1 + i]? = some (.int ((kk z l.length w (q + 1 + i) : Nat) : Int)) := kL_at (by omega)
        rw [hat]
        have el : lastL z l.length w q (i + 1) = if 0 < kk z l.length w (q + 1 + i) then q + 1 + i else lastL z l.length w q i := rfl
        refine ge_name ?_
        refine se_seq (se_to (fun δ μ => δ = [some (.lst l), some (.int (w : Int)), some (.lst (kL (kk z l.length w) (l.length + 1))), some (.own 0), some (.int (q : Int)), some (.int ((lastL z l.length w q (i + 1) : Nat) : Int)), some (.int ((q + 1 + i : Nat) : Int))] ∧ μ = [.lst (fs.map winD)]) ?_ ?_)
        · walk_at "pp"
          refine oo_ixL (atI_of (j := q + 1 + i) hk rfl) ?_
          walk_at "pp"
          rw [el]
          refine ⟨fun h1 => ?_, fun h1 => ?_⟩
          · have h1 := of_decide_eq_true h1
            walk_at "pp"
            rw [if_pos (by omega)]
            exact ⟨rfl, rfl⟩
          · have h1 := of_decide_eq_false h1
            walk_at "pp"
            rw [if_neg (by omega)]
            exact ⟨rfl, rfl⟩
        · rintro δ μ ⟨rfl, rfl⟩
          walk_at "pp"
          refine oo_ixL (atI_of (j := q + 1 + i) hk rfl) ?_
          walk_at "pp"
          rw [int_eq]
          refine ⟨fun h1 => ?_, fun h1 => ?_⟩
          · have h1 := of_decide_eq_true h1
            refine se_break ?_
            have h2 : kk z l.length w (q + 1 + i) = 2 := by omega
            have e2 : winK z l.length w q = q + 1 + i := winK_stop (by omega) (by omega) h2 fun s s1 s2 => hno s s1 (by omega)
            refine ⟨some (.int ((q + 1 + i : Nat) : Int)), ?_, rfl⟩
            rw [e2, el, if_pos (by omega)]
          · have h1 := of_decide_eq_false h1
            walk_at "pp"
            refine ⟨rfl, fun s s1 s2 => ?_⟩
            by_cases e : s = q + 1 + i
            · subst e
              omega
            · exact hno s s1 (by omega)
      · rintro δ μ ⟨x6, rfl, rfl, hno⟩
        rw [rng_len] at hno ⊢
        have e2 : winK z l.length w q = lastL z l.length w q (topK l.length w q - q) := winK_none h0 hlt w1 fun s s1 s2 => hno s s1 (by omega)
        rw [← e2]
        exact ⟨x6, rfl, rfl⟩
    · rintro δ μ ⟨x6, rfl, rfl⟩
      walk_at "pp"
      refine ee_bm ?_
      walk_at "pp"
      refine ⟨.lst (.own rfl), ?_⟩
      walk_at "pp"
      refine mm_append rfl (by rw [List.length_map]; omega) ?_
      walk_at "pp"
      refine ⟨l.length - (wN z l.length w (j + 1)).1, by rw [es]; show l.length - winK z l.length w q < _; omega, j + 1, some (.int ((winK z l.length w q : Nat) : Int)), x6, hj2, rfl, ?_, ?_⟩
      · rw [es]
        rfl
      · rw [es]
        show [Cell.lst (fs.map winD ++ [winD (q, winK z l.length w q)])] = _
        rw [List.map_append]
        rfl
  · have hge : ¬ (wN z l.length w j).1 < l.length := by have := of_decide_eq_false hb; omega
    walk_at "pp"
    walk_at "gp"
    refine gaveN hl (k := 0) rfl wins_cl ?_
    rw [wN_end h0 hj hge, hz0]
end


section
variable {P : Program} {w : World} {K : PySem.W.Frag} {mg : Str → Option Value} {base : Heap} {a : Ad} {f : Addr} {fd : FuncData}
/-- a row of spans: i, j, c, d -/
def nI (d : D) (k : Nat) : Nat := match d with
  | .tup l => dotN (l.getD k .non)
  | _ => 0
def inS (k : Nat) (d : D) : Bool := decide (nI d 0 ≤ k) && decide (k < nI d 1)
def inC (k : Nat) (d : D) : Bool := decide (nI d 2 ≤ k) && decide (k < nI d 3)
def fst' (p : D → Bool) (l : List D) : D := (l.find? p).getD .non
def ledC (l : List D) (k : Nat) : Nat := min (nI (fst' (inS k) l) 2 + k - nI (fst' (inS k) l) 0) (nI (fst' (inS k) l) 3 - 1)
def ledS (l : List D) (k : Nat) : Nat := min (nI (fst' (inC k) l) 0 + k - nI (fst' (inC k) l) 2) (nI (fst' (inC k) l) 1 - 1)
structure SpOk (l : List D) : Prop where
  z : l.length ≤ 1000000
  s : ∀ x ∈ l, ∃ i j c d : Nat, x = spanD i j c d ∧ i < j ∧ c < d ∧ d ≤ 10000000 ∧ j ≤ 10000000
theorem SpOk.cl {l : List D} (h : SpOk l) {m : Nat} : D.ltL m l = true := D.ltL_all.mpr fun x hx => by
  obtain ⟨i, j, c, d, rfl, _⟩ := h.s x hx
  rfl
theorem find_ix {p : D → Bool} {l : List D} (h : ∃ x ∈ l, p x = true) : ∃ x, (l.filter p)[0]? = some x ∧ x ∈ l ∧ p x = true ∧ fst' p l = x := by
  induction l with
  | nil =>
    obtain ⟨x, hx, _⟩ := h
    cases hx
  | cons y l ih =>
    cases hy : p y with
    | true => exact ⟨y, by rw [List.filter_cons, hy]; rfl, List.mem_cons_self, hy, by unfold fst'; rw [List.find?_cons, hy]; rfl⟩
    | false =>
      obtain ⟨x, hx, hp⟩ := h
      rcases List.mem_cons.mp hx with rfl | hx
      · rw [hy] at hp
        cases hp
      · obtain ⟨u, h1, h2, h3, h4⟩ := ih ⟨x, hx, hp⟩
        refine ⟨u, ?_, List.mem_cons_of_mem _ h2, h3, ?_⟩
        · rw [List.filter_cons, hy]
          exact h1
        · unfold fst' at h4 ⊢
          rw [List.find?_cons, hy]
          exact h4
/-- [span for span in spans if lo <= k < hi][0] -/
theorem span_ix {S : Bs} {δ : Sl} {μ : List Cell} {wi : TI} {g : TG} {t : TT} {te : TE} {vs : List Nat} {C : D → List Cell → Prop} {p : D → Bool} {l : List D} (hs : SpOk l) (hx : ∃ x ∈ l, p x = true)
    (h : IE K S wi δ μ fun l1 P μ1 => l1 = l ∧ P = yes ∧ μ1 = μ) (hb : ∀ x acc, x ∈ l → GW K S g vs x (wipeS δ vs) (μ ++ [.lst acc]) fun δ2 μ2 => ET K S t δ2 μ2 fun b μ3 => b = p x ∧ μ3 = μ ++ [.lst acc] ∧ (b = true → EE K S te δ2 μ3 fun d μ4 => d = x ∧ μ4 = μ ++ [.lst acc]))
    (k : ∀ x, x ∈ l → p x = true → fst' p l = x → C x μ) : EE K S (tOp (rIx K) (tLc wi g t te vs) (tC (.int 0))) δ μ C := by
  refine ee_op ?_
  refine ee_lc fun A G H σ a R q => h A G H σ a R fun J l1 P A1 G1 H1 μ1 m1 n1 gv ⟨e1, e2, e3⟩ => q J l1 P A1 G1 H1 μ1 m1 n1 gv ?_
  subst e1 e2 e3
  refine ⟨fun _ h => h, trivial, p, fun x => x, by have := hs.z; omega, fun x hx _ => D.lt_mono (Nat.zero_le _) (D.ltL_all.mp hs.cl x hx), hb, ?_⟩
  refine ee_c ?_
  obtain ⟨x, h1, h2, h3, h4⟩ := find_ix hx
  refine oo_ixL (atI_of (j := 0) (by rw [List.map_id']; exact h1) rfl) ?_
  exact k x h2 h3 h4
abbrev spLedC (K : PySem.W.Frag) : Sp := ProP K (T := List D × Nat) (fun t => [.lst t.1, .int (t.2 : Int)]) (fun t => SpOk t.1 ∧ (∃ x ∈ t.1, inS t.2 x = true) ∧ t.2 ≤ 10000000) (fun t r => r = .int ((ledC t.1 t.2 : Nat) : Int)) (fun _ _ _ => False)
abbrev spLedS (K : PySem.W.Frag) : Sp := ProP K (T := List D × Nat) (fun t => [.lst t.1, .int (t.2 : Int)]) (fun t => SpOk t.1 ∧ (∃ x ∈ t.1, inC t.2 x = true) ∧ t.2 ≤ 10000000) (fun t r => r = .int ((ledS t.1 t.2 : Nat) : Int)) (fun _ _ _ => False)
abbrev st_cell_led : Stmt := top 48
abbrev nm_cell_led : List Str := ["spans", "sign", "start", "_", "first", "last", "span"]
theorem sc_cell_led : FnScope nm_cell_led ["spans", "sign"] (defScope st_cell_led) := ⟨rfl, rfl, rfl, by decide +kernel, rfl, by decide +kernel, by decide +kernel⟩
theorem ok_cell_led (F : Fun K "cell_led" "cell_led" st_cell_led f fd) (T : Tx P w K mg base a) : FnOk P w K mg base (L2.CX P w) 1 f fd ["spans", "sign"] (spLedC K) := by
  refine F.okX sc_cell_led (fun vs H Q E h => pro_len h fun _ => rfl) (fun cdv A outer s H vs Q E hr h => ⟨_, (pss_cons (ps_asg (pe_ix (kX K rIx rfl ix_seq) (pe_lc (own := [("span", 6)]) (g := (gName 6)) rfl sc_cell_led.nd (pi_listK (K := K) rfl (pv 0)) (blkOk_by (own := [("span", 6)]) (N := nm_cell_led) (sc := (defScope st_cell_led)) (by decide +kernel)) (fun _ _ _ _ _ => (pg_name (i := 6) sc_cell_led.nd rfl (by first | exact Or.inl rfl | exact Or.inr rfl))) (fun _ _ _ _ _ => (pts_one (pt_chain op_leq op_less (pe_ix (kX K rIx rfl ix_seq) (pv 6) pe_int (fun _ _ => rfl)) (pv 1) (pe_ix (kX K rIx rfl ix_seq) (pv 6) pe_int (fun _ _ => rfl))))) (fun _ _ _ _ _ => (pv 6))) pe_int (fun _ _ => rfl)) (pg_tupK (K := K) rfl rfl (pgs_cons (pg_name (i := 2) sc_cell_led.nd rfl (by first | exact Or.inl rfl | exact Or.inr rfl)) (pgs_cons (pg_name (i := 3) sc_cell_led.nd rfl (by first | exact Or.inl rfl | exact Or.inr rfl)) (pgs_cons (pg_name (i := 4) sc_cell_led.nd rfl (by first | exact Or.inl rfl | exact Or.inr rfl)) (pgs_cons (pg_name (i := 5) sc_cell_led.nd rfl (by first | exact Or.inl rfl | exact Or.inr rfl)) pgs_nil))))))
    (pss_one (ps_ret (pe_op (kO K rPlus rfl op_plus) (pv 4) (pe_callB (call_min2 rfl) (by rfl) T.b_min (by decide +kernel) (pa_cons (pe_op op_sub (pv 1) (pv 2)) (pa_cons (pe_op op_sub (pe_op op_sub (pv 5) (pv 4)) pe_int) pa_nil))))))), run_body h fun ⟨l, n⟩ S ⟨hs, hx, hn⟩ hl hcl wi => ?_⟩)
  have hl : S.A.length = 0 := hl
  have hs : SpOk l := hs
  refine se_seq (se_asgG ?_)
  refine span_ix hs hx (ie_list ?_) (fun x acc hx => ?_) fun x h1 h2 h3 => ?_
  · walk_at "pp"
    exact ⟨l, .inl rfl, rfl, rfl, rfl⟩
  · obtain ⟨i, j, c, d, rfl, hij, hcd, hd, hj⟩ := hs.s x hx
    have ep : inS n (spanD i j c d) = (decide ((i : Nat) ≤ n) && decide (n < j)) := rfl
    have e1 : decide (((i : Nat) : Int) ≤ (n : Int)) = decide (i ≤ n) := decide_eq_decide.mpr (by omega)
    have e2 : decide ((n : Int) < ((j : Nat) : Int)) = decide (n < j) := decide_eq_decide.mpr (by omega)
    refine gw_name (by decide) ?_
    walk_at "pp"
    refine oo_ixT (d := .int (i : Int)) rfl ?_
    walk_at "pp"
    refine ⟨fun hb => ?_, fun hb => ?_⟩
    · refine ⟨_, rfl, ?_, rfl, fun z => by cases z⟩
      rw [ep, ← e1, hb]
      rfl
    · walk_at "pp"
      refine oo_ixT (d := .int (j : Int)) rfl ?_
      walk_at "pp"
      refine ⟨?_, rfl, fun _ => ?_⟩
      · rw [ep, ← e1, hb, ← e2]
        rfl
      · walk_at "pp"
        exact ⟨rfl, rfl⟩
  · obtain ⟨i, j, c, d, rfl, hij, hcd, hd, hj⟩ := hs.s x h1
    have h2 : (decide ((i : Nat) ≤ n) && decide (n < j)) = true := h2
    have h2 := Bool.and_eq_true_iff.mp h2
    have h21 := of_decide_eq_true h2.1
    have h22 := of_decide_eq_true h2.2
    refine ge_four ?_
    walk_at "pp"
    walk_at "gp"
    refine gaveP hl (by rfl) (congrArg D.int ?_)
    show _ = ((ledC l n : Nat) : Int)
    unfold ledC
    rw [h3, show nI (spanD i j c d) 0 = i from rfl, show nI (spanD i j c d) 2 = c from rfl, show nI (spanD i j c d) 3 = d from rfl]
    split <;> omega
end


section
variable {P : Program} {w : World} {K : PySem.W.Frag} {mg : Str → Option Value} {base : Heap} {a : Ad} {f : Addr} {fd : FuncData}
abbrev st__law_led_cell : Stmt := top 68
abbrev nm__law_led_cell : List Str := ["spans", "sign", "start", "end", "first", "last", "span"]
theorem sc__law_led_cell : FnScope nm__law_led_cell ["spans", "sign"] (defScope st__law_led_cell) := ⟨rfl, rfl, rfl, by decide +kernel, rfl, by decide +kernel, by decide +kernel⟩
theorem ok_lled_cell (F : Fun K "_law_led_cell" "_law_led_cell" st__law_led_cell f fd) (T : Tx P w K mg base a) : FnOk P w K mg base (L2.CX P w) 1 f fd ["spans", "sign"] (spLedC K) := by
  refine F.okX sc__law_led_cell (fun vs H Q E h => pro_len h fun _ => rfl) (fun cdv A outer s H vs Q E hr h => ⟨_, (pss_cons (ps_asg (pe_ix (kX K rIx rfl ix_seq) (pe_lc (own := [("span", 6)]) (g := (gName 6)) rfl sc__law_led_cell.nd (pi_listK (K := K) rfl (pv 0)) (blkOk_by (own := [("span", 6)]) (N := nm__law_led_cell) (sc := (defScope st__law_led_cell)) (by decide +kernel)) (fun _ _ _ _ _ => (pg_name (i := 6) sc__law_led_cell.nd rfl (by first | exact Or.inl rfl | exact Or.inr rfl))) (fun _ _ _ _ _ => (pts_one (pt_chain op_leq op_less (pe_ix (kX K rIx rfl ix_seq) (pv 6) pe_int (fun _ _ => rfl)) (pv 1) (pe_ix (kX K rIx rfl ix_seq) (pv 6) pe_int (fun _ _ => rfl))))) (fun _ _ _ _ _ => (pv 6))) pe_int (fun _ _ => rfl)) (pg_tupK (K := K) rfl rfl (pgs_cons (pg_name (i := 2) sc__law_led_cell.nd rfl (by first | exact Or.inl rfl | exact Or.inr rfl)) (pgs_cons (pg_name (i := 3) sc__law_led_cell.nd rfl (by first | exact Or.inl rfl | exact Or.inr rfl)) (pgs_cons (pg_name (i := 4) sc__law_led_cell.nd rfl (by first | exact Or.inl rfl | exact Or.inr rfl)) (pgs_cons (pg_name (i := 5) sc__law_led_cell.nd rfl (by first | exact Or.inl rfl | exact Or.inr rfl)) pgs_nil))))))
    (pss_one (ps_ret (pe_callB (call_min2 rfl) (by rfl) T.b_min (by decide +kernel) (pa_cons (pe_op op_sub (pe_op (kO K rPlus rfl op_plus) (pv 4) (pv 1)) (pv 2)) (pa_cons (pe_op op_sub (pv 5) pe_int) pa_nil)))))), run_body h fun ⟨l, n⟩ S ⟨hs, hx, hn⟩ hl hcl wi => ?_⟩)
  have hl : S.A.length = 0 := hl
  have hs : SpOk l := hs
  refine se_seq (se_asgG ?_)
  refine span_ix hs hx (ie_list ?_) (fun x acc hx => ?_) fun x h1 h2 h3 => ?_
  · walk_at "pp"
    exact ⟨l, .inl rfl, rfl, rfl, rfl⟩
  · obtain ⟨i, j, c, d, rfl, hij, hcd, hd, hj⟩ := hs.s x hx
    have ep : inS n (spanD i j c d) = (decide ((i : Nat) ≤ n) && decide (n < j)) := rfl
    have e1 : decide (((i : Nat) : Int) ≤ (n : Int)) = decide (i ≤ n) := decide_eq_decide.mpr (by omega)
    have e2 : decide ((n : Int) < ((j : Nat) : Int)) = decide (n < j) := decide_eq_decide.mpr (by omega)
    refine gw_name (by decide) ?_
    walk_at "pp"
    refine oo_ixT (d := .int (i : Int)) rfl ?_
    walk_at "pp"
    refine ⟨fun hb => ?_, fun hb => ?_⟩
    · refine ⟨_, rfl, ?_, rfl, fun z => by cases z⟩
      rw [ep, ← e1, hb]
      rfl
    · walk_at "pp"
      refine oo_ixT (d := .int (j : Int)) rfl ?_
      walk_at "pp"
      refine ⟨?_, rfl, fun _ => ?_⟩
      · rw [ep, ← e1, hb, ← e2]
        rfl
      · walk_at "pp"
        exact ⟨rfl, rfl⟩
  · obtain ⟨i, j, c, d, rfl, hij, hcd, hd, hj⟩ := hs.s x h1
    have h2 : (decide ((i : Nat) ≤ n) && decide (n < j)) = true := h2
    have h2 := Bool.and_eq_true_iff.mp h2
    have h21 := of_decide_eq_true h2.1
    have h22 := of_decide_eq_true h2.2
    refine ge_four ?_
    walk_at "pp"
    walk_at "gp"
    refine gaveP hl (by rfl) (congrArg D.int ?_)
    show _ = ((ledC l n : Nat) : Int)
    unfold ledC
    rw [h3, show nI (spanD i j c d) 0 = i from rfl, show nI (spanD i j c d) 2 = c from rfl, show nI (spanD i j c d) 3 = d from rfl]
    split <;> omega
end


section
variable {P : Program} {w : World} {K : PySem.W.Frag} {mg : Str → Option Value} {base : Heap} {a : Ad} {f : Addr} {fd : FuncData}
abbrev st__law_class : Stmt := top 53
abbrev nm__law_class : List Str := ["sign"]
theorem sc__law_class : FnScope nm__law_class ["sign"] (defScope st__law_class) := ⟨rfl, rfl, rfl, by decide +kernel, rfl, by decide +kernel, by decide +kernel⟩
theorem ok_lclass (F : Fun K "_law_class" "_law_class" st__law_class f fd) (T : Tx P w K mg base a) : FnOk P w K mg base (L2.CX P w) 1 f fd ["sign"] (spClass K) := by
  refine F.okX sc__law_class (fun vs H Q E h => pro_len h fun _ => rfl) (fun cdv A outer s H vs Q E hr h => ⟨_, (pss_cons (ps_if (pt_cmpR (kO K rEqU rfl (op_eqU (hu64 hr))) (pv 0) pe_str (nomark _)) (pss_one (ps_ret pe_str)) pss_nil)
    (pss_cons (ps_if (pt_cmpR (kO K rEqU rfl (op_eqU (hu64 hr))) (pv 0) pe_str (nomark _)) (pss_one (ps_ret pe_str)) pss_nil)
    (pss_cons (ps_if (PW.pt (pw_or (pt_chain op_leq op_leq pe_str (pv 0) pe_str) (pw_or1 (pt_chain op_leq op_leq pe_str (pv 0) pe_str)))) (pss_one (ps_ret pe_str)) pss_nil)
    (pss_one (ps_ret (pe_ifExp (pt_chain op_leq op_leq pe_str (pv 0) pe_str) pe_str pe_str)))))), run_body h fun s S hs hl hcl wi => ?_⟩)
  have hl : S.A.length = 0 := hl
  have hs : (cp s).length ≤ 1 := hs
  walk_at "pp"
  refine ⟨fun hb => ?_, fun hb => ?_⟩
  · rw [strE] at hb
    have hb : cp s = [] := (of_decide_eq_true hb).trans (by decide +kernel)
    walk_at "pp"
    walk_at "gp"
    refine gaveP hl (by rfl) ?_
    show _ = D.str (clsOf (cp s))
    rw [hb]
    rfl
  rw [strE] at hb
  have hb : cp s ≠ [] := fun z => of_decide_eq_false hb (z.trans (by decide +kernel))
  obtain ⟨c, hc⟩ : ∃ c, cp s = [c] := by
    generalize cp s = l at hb hs
    match l, hb, hs with
    | [c], _, _ => exact ⟨c, rfl⟩
    | [], hb, _ => exact absurd rfl hb
    | _ :: _ :: _, _, hs => simp at hs
  have es : s = ⟨#[c]⟩ := cp_inj hc
  subst es
  walk_at "pp"
  have e32 : Str.ofString " " = ⟨#[32]⟩ := by decide +kernel
  rw [e32, str1]
  refine ⟨fun hb => ?_, fun hb => ?_⟩
  · have hb : c = 32 := of_decide_eq_true hb
    walk_at "pp"
    walk_at "gp"
    refine gaveP hl (by rfl) ?_
    show _ = D.str (clsOf [c])
    rw [hb]
    rfl
  have hb : c ≠ 32 := of_decide_eq_false hb
  have fin : ∀ z : Str, z = clsOf [c] → Gave S (fun d μ => μ = [] ∧ d = .str (clsOf (cp ⟨#[c]⟩))) (.str z) [] := fun z e => gaveP hl (by rfl) (by rw [e]; rfl)
  have cls : clsOf [c] = if (97 ≤ c ∧ c ≤ 122) ∨ (65 ≤ c ∧ c ≤ 90) then Str.ofString "letter" else if 48 ≤ c ∧ c ≤ 57 then Str.ofString "figure" else Str.ofString "point" := if_neg hb
  have q1 := leC (c := c) (x := "a") (d := 97) (by decide +kernel)
  have q2 := leC' (c := c) (x := "z") (d := 122) (by decide +kernel)
  have q3 := leC (c := c) (x := "A") (d := 65) (by decide +kernel)
  have q4 := leC' (c := c) (x := "Z") (d := 90) (by decide +kernel)
  have q5 := leC (c := c) (x := "0") (d := 48) (by decide +kernel)
  have q6 := leC' (c := c) (x := "9") (d := 57) (by decide +kernel)
  walk_at "pp"
  rcases Bool.eq_false_or_eq_true (decide (97 ≤ c)) with b1 | b1 <;> rcases Bool.eq_false_or_eq_true (decide (c ≤ 122)) with b2 | b2 <;> rcases Bool.eq_false_or_eq_true (decide (65 ≤ c)) with b3 | b3 <;> rcases Bool.eq_false_or_eq_true (decide (c ≤ 90)) with b4 | b4 <;> rcases Bool.eq_false_or_eq_true (decide (48 ≤ c)) with b5 | b5 <;> rcases Bool.eq_false_or_eq_true (decide (c ≤ 57)) with b6 | b6 <;>
    (have r1 := q1.trans b1
     have r2 := q2.trans b2
     have r3 := q3.trans b3
     have r4 := q4.trans b4
     have r5 := q5.trans b5
     have r6 := q6.trans b6
     simp only [decide_eq_true_eq, decide_eq_false_iff_not] at b1 b2 b3 b4 b5 b6
     first
       | (exfalso; omega)
       | (repeat (first | walk_at "p1" | rw [r1] | rw [r2] | rw [r3] | rw [r4] | rw [r5] | rw [r6])
          walk_at "gp"
          refine fin _ ?_
          rw [cls]
          first | rw [if_pos (by omega)] | rw [if_neg (by omega), if_pos (by omega)] | rw [if_neg (by omega), if_neg (by omega)]))

abbrev st__law_true : Stmt := top 54
abbrev nm__law_true : List Str := ["condition", "sign", "kind", "inner"]
theorem sc__law_true : FnScope nm__law_true ["condition", "sign"] (defScope st__law_true) := ⟨rfl, rfl, rfl, by decide +kernel, rfl, by decide +kernel, by decide +kernel⟩
abbrev spTrue (K : PySem.W.Frag) : Sp := ProP K (T := Str × Str) (fun t => [.str t.1, .str t.2]) (fun t => (cp t.2).length ≤ 1) (fun t r => r = .bl (hOf t.1 (clsOf (cp t.2)))) (fun _ _ _ => False)
theorem ok_ltrue (F : Fun K "_law_true" "_law_true" st__law_true f fd) (T : Tx P w K mg base a) (c__law_class : CalX P w K mg base 1 "_law_class" ["sign"] (spClass K)) : FnOk P w K mg base (L2.CX P w) 2 f fd ["condition", "sign"] (spTrue K) := by
  refine F.okX sc__law_true (fun vs H Q E h => pro_len h fun _ => rfl) (fun cdv A outer s H vs Q E hr h => ⟨_, (pss_cons (ps_set (i := 2) sc__law_true.nd rfl (by first | exact Or.inl rfl | exact Or.inr rfl) (pe_c c__law_class hr (by first | decide | exact Nat.le_refl _) rfl (passes_call (takes_of rfl rfl rfl rfl) (fun _ _ _ _ h => h)) (pa_cons (pv 1) pa_nil)))
    (pss_cons (ps_set (i := 3) sc__law_true.nd rfl (by first | exact Or.inl rfl | exact Or.inr rfl) (pe_cmpR (kO K rInU rfl op_inU) (pv 2) (pe_lst (pa_cons pe_str (pa_cons pe_str pa_nil))) (by with_unfolding_all rfl)))
    (pss_one (ps_ret (pe_or (pe_cmpR (kO K rInU rfl op_inU) (pv 0) (pe_lst (pa_cons pe_str (pa_cons (pv 2) pa_nil))) (by with_unfolding_all rfl)) (pe_or (pe_and (pe_cmpR (kO K rEqU rfl (op_eqU (hu64 hr))) (pv 0) pe_str (nomark _)) (pe_one (pv 3))) (pe_one (pe_and (pe_cmpR (kO K rEqU rfl (op_eqU (hu64 hr))) (pv 0) pe_str (nomark _)) (pe_one (pe_not (pv 3))))))))))), run_body h fun ⟨c, s⟩ S hs hl hcl wi => ?_⟩)
  have hl : S.A.length = 0 := hl
  walk_at "pp"
  refine ee_cz ?_
  walk_at "pp"
  refine ⟨s, hs, rfl, rfl, ?_⟩
  rintro d rfl
  have fin : ∀ b : Bool, b = hOf c (clsOf (cp s)) → Gave S (fun r μ => μ = [] ∧ r = .bl (hOf c (clsOf (cp s)))) (.bl b) [] := fun b e => gaveP hl (by rfl) (by rw [e])
  walk_at "pp"
  refine ee_lst ?_
  walk_at "pp"
  refine oo_inL (ys := [.str (Str.ofString "letter"), .str (Str.ofString "figure")]) rfl rfl ?_
  rw [inV2]
  walk_at "pp"
  refine ee_lst ?_
  walk_at "pp"
  refine oo_inL (ys := [.str (Str.ofString "any"), .str (clsOf (cp s))]) rfl rfl ?_
  rw [inV2]
  refine ⟨_, rfl, fun h1 => ?_, fun h1 => ?_⟩
  · exact fin _ (by unfold hOf; rw [h1]; rfl)
  walk_at "pp"
  rw [sm_v]
  refine ⟨fun h3 => ?_, fun h3 => ?_⟩
  · walk_at "pp"
    refine ⟨fun h4 => ?_, fun h4 => ?_⟩
    · exact fin _ (by unfold hOf isInn; rw [h1, h3, h4]; rfl)
    · walk_at "pp"
      rw [sm_v]
      refine ⟨fun h5 => ?_, fun h5 => ?_⟩
      · walk_at "pp"
        walk_at "gp"
        exact fin _ (by unfold hOf isInn; rw [h1, h3, h4, h5]; rfl)
      · walk_at "gp"
        exact fin _ (by unfold hOf isInn; rw [h1, h3, h4, h5]; rfl)
  · walk_at "pp"
    rw [sm_v]
    refine ⟨fun h5 => ?_, fun h5 => ?_⟩
    · walk_at "pp"
      walk_at "gp"
      exact fin _ (by unfold hOf isInn; rw [h1, h3, h5]; rfl)
    · walk_at "gp"
      exact fin _ (by unfold hOf isInn; rw [h1, h3, h5]; rfl)
theorem cut_last (s : Str) : cp (cutS s (some (-1)) none) = (cp s).drop ((cp s).length - 1) := by
  show ((cp s).drop (HT.sIx s.length 0 (some (-1)))).take (s.length - HT.sIx s.length 0 (some (-1))) = _
  have e : HT.sIx s.length 0 (some (-1)) = (cp s).length - 1 := by
    show (if (-1 : Int) < 0 then ((-1 : Int) + (s.length : Int)).toNat else min (-1 : Int).toNat s.length) = _
    rw [if_pos (by decide), len_cp]
    omega
  rw [e, len_cp, List.take_of_length_le (by rw [List.length_drop]; omega)]
theorem prv_cut {L : List Nat} {j : Nat} (hj : j ≤ L.length) : (L.take j).drop ((L.take j).length - 1) = prv L j := by
  rw [List.length_take, Nat.min_eq_left hj]
  unfold prv
  rw [List.drop_take]
abbrev st__law_fits : Stmt := top 55
abbrev nm__law_fits : List Str := ["rule", "text", "at", "end"]
theorem sc__law_fits : FnScope nm__law_fits ["rule", "text", "at"] (defScope st__law_fits) := ⟨rfl, rfl, rfl, by decide +kernel, rfl, by decide +kernel, by decide +kernel⟩
abbrev spLFits (K : PySem.W.Frag) : Sp := ProP K (T := D × Str × Nat) (fun t => [t.1, .str t.2.1, .int (t.2.2 : Int)]) (fun t => Good t.1 ∧ (cp t.2.1).length ≤ 10000 ∧ t.2.2 ≤ (cp t.2.1).length) (fun t r => r = .bl (fitP t.1 (clsOf (prv (cp t.2.1) t.2.2)) ((cp t.2.1).drop t.2.2))) (fun _ _ _ => False)
theorem ok_lfits (F : Fun K "_law_fits" "_law_fits" st__law_fits f fd) (T : Tx P w K mg base a) (c__law_true : CalX P w K mg base 2 "_law_true" ["condition", "sign"] (spTrue K)) : FnOk P w K mg base (L2.CX P w) 3 f fd ["rule", "text", "at"] (spLFits K) := by
  refine F.okX sc__law_fits (fun vs H Q E h => pro_len h fun _ => rfl) (fun cdv A outer s H vs Q E hr h => ⟨_, (pss_cons (ps_set (i := 3) sc__law_fits.nd rfl (by first | exact Or.inl rfl | exact Or.inr rfl) (pe_op (kO K rPlus rfl op_plus) (pv 2) (pe_callB (kC K rLenU rfl call_lenU) (by rfl) T.b_len (by decide +kernel) (pa_cons (pe_ix (kX K rIx rfl ix_seq) (pv 0) pe_int (fun _ _ => rfl)) pa_nil))))
    (pss_one (ps_ret (pe_and (pe_cmpR (kO K rEqU rfl (op_eqU (hu64 hr))) (pe_slice (kS K rSlU rfl sl_U) (pv 1) (po_some (pv 2)) (po_some (pv 3))) (pe_ix (kX K rIx rfl ix_seq) (pv 0) pe_int (fun _ _ => rfl)) (nomark _)) (pe_and (pe_c c__law_true hr (by first | decide | exact Nat.le_refl _) rfl (passes_call (takes_of rfl rfl rfl rfl) (fun _ _ _ _ h => h)) (pa_cons (pe_ix (kX K rIx rfl ix_seq) (pv 0) pe_int (fun _ _ => rfl)) (pa_cons (pe_slice (kS K rSlU rfl sl_U) (pe_slice (kS K rSlU rfl sl_U) (pv 1) po_none (po_some (pv 2))) (po_some (pe_un un_neg pe_int)) po_none) pa_nil))) (pe_one (pe_c c__law_true hr (by first | decide | exact Nat.le_refl _) rfl (passes_call (takes_of rfl rfl rfl rfl) (fun _ _ _ _ h => h)) (pa_cons (pe_ix (kX K rIx rfl ix_seq) (pv 0) pe_int (fun _ _ => rfl)) (pa_cons (pe_slice (kS K rSlU rfl sl_U) (pv 1) (po_some (pv 3)) (po_some (pe_op (kO K rPlus rfl op_plus) (pv 3) pe_int))) pa_nil))))))))), run_body h fun ⟨d, t, j⟩ S ⟨hg, hz, hj⟩ hl hcl wi => ?_⟩)
  have hl : S.A.length = 0 := hl
  have hg : Good d := hg
  have hz : (cp t).length ≤ 10000 := hz
  have hj : j ≤ (cp t).length := hj
  have ht1 := hg.t1
  have fin : ∀ b : Bool, b = fitP d (clsOf (prv (cp t) j)) ((cp t).drop j) → Gave S (fun r μ => μ = [] ∧ r = .bl (fitP d (clsOf (prv (cp t) j)) ((cp t).drop j))) (.bl b) [] := fun b e => gaveP hl (by rfl) (by rw [e])
  have ee : (j : Int) + ((rT d).length : Int) = ((j + tl' d : Nat) : Int) := by rw [len_cp]; rfl
  walk_at "pp"
  refine ix_t hg ?_
  walk_at "pp"
  refine cc_lenS (by rw [len_cp]; exact Nat.le_trans ht1 (by decide)) ?_
  walk_at "pp"
  rw [ee]
  refine ss_str (by rw [len_cp]; omega) ?_
  walk_at "pp"
  refine ix_t hg ?_
  walk_at "pp"
  rw [sm_v]
  have e1 : sm (cutS t (some (j : Int)) (some ((j + tl' d : Nat) : Int))) (rT d) = decide (((cp t).drop j).take (tl' d) = cp (rT d)) := by
    unfold sm
    rw [cutS_nn, Nat.add_sub_cancel_left]
  rw [e1]
  refine ⟨fun h1 => ?_, fun h1 => ?_⟩
  · walk_at "pp"
    refine ee_cz ?_
    walk_at "pp"
    refine ix_x hg ?_
    walk_at "pp"
    refine ss_str (by rw [len_cp]; omega) ?_
    walk_at "pp"
    have e2 : cp (cutS t none (some (j : Int))) = (cp t).take j := cutS_0n t j
    refine ss_str (by rw [len_cp, e2, List.length_take]; omega) ?_
    have e3 : cp (cutS (cutS t none (some (j : Int))) (some (-1)) none) = prv (cp t) j := by
      rw [cut_last, e2, prv_cut hj]
    walk_at "pp"
    refine ⟨(rX d, _), by show (cp (cutS _ _ _)).length ≤ 1; rw [e3]; exact prv_len, rfl, rfl, ?_⟩
    rintro r rfl
    refine ⟨_, rfl, fun h2 => ?_, fun h2 => ?_⟩
    · have h2 : hOf (rX d) (clsOf (prv (cp t) j)) = true := by rw [← e3]; exact h2
      walk_at "pp"
      refine ee_cz ?_
      walk_at "pp"
      refine ix_y hg ?_
      walk_at "pp"
      refine ss_str (by rw [len_cp]; omega) ?_
      have e4 : cp (cutS t (some ((j + tl' d : Nat) : Int)) (some (((j + tl' d : Nat) : Int) + 1))) = (((cp t).drop j).drop (tl' d)).take 1 := by
        have z := cutS_nn t (j + tl' d) (j + tl' d + 1)
        rw [show (((j + tl' d + 1 : Nat) : Int)) = ((j + tl' d : Nat) : Int) + 1 by omega, Nat.add_sub_cancel_left] at z
        rw [z, List.drop_drop]
      walk_at "pp"
      refine ⟨(rY d, _), by show (cp (cutS _ _ _)).length ≤ 1; rw [e4]; exact take1, rfl, rfl, ?_⟩
      rintro r rfl
      refine fin _ ?_
      show hOf (rY d) (clsOf (cp (cutS _ _ _))) = (_ && (_ && _))
      rw [e4, h1, h2]
      rfl
    · have h2 : hOf (rX d) (clsOf (prv (cp t) j)) = false := by rw [← e3]; exact h2
      refine fin _ ?_
      show false = (_ && (_ && _))
      rw [h1, h2]
      rfl
  · refine fin _ ?_
    show false = (_ && (_ && _))
    rw [h1]
    rfl
end


section
variable {P : Program} {w : World} {K : PySem.W.Frag} {mg : Str → Option Value} {base : Heap} {a : Ad} {f : Addr} {fd : FuncData}
theorem best_first {l : List D} {k : Str} {L : List Nat} : ∀ j, j ≤ l.length → match bestN l k L j with
    | none => (l.take j).filter (fun d => fitP d k L) = []
    | some i => (∀ d ∈ (l.take j).filter (fun d => fitP d k L), tl' d ≤ tl' (l.getD i .non)) ∧ ((l.take j).filter (fun d => fitP d k L)).find? (fun d => decide (tl' d = tl' (l.getD i .non))) = some (l.getD i .non)
  | 0, _ => rfl
  | j + 1, hj => by
    have ih := best_first (l := l) (k := k) (L := L) j (by omega)
    have hlt : j < l.length := by omega
    have hd : l[j]? = some l[j] := List.getElem?_eq_getElem hlt
    have ht : (l.take (j + 1)).filter (fun d => fitP d k L) = (l.take j).filter (fun d => fitP d k L) ++ if fitP l[j] k L = true then [l[j]] else [] := by
      rw [List.take_succ, hd, List.filter_append]
      congr 1
      show [l[j]].filter _ = _
      rw [List.filter_cons]
      rfl
    have eb : bestN l k L (j + 1) = if (fitP l[j] k L && (match bestN l k L j with | none => true | some i => decide (tl' (l.getD i .non) < tl' l[j]))) = true then some j else bestN l k L j := by
      show (match l[j]? with | none => bestN l k L j | some d => if (fitP d k L && (match bestN l k L j with | none => true | some i => decide (tl' (l.getD i .non) < tl' d))) = true then some j else bestN l k L j) = _
      rw [hd]
    have hgj : l.getD j .non = l[j] := by rw [List.getD_eq_getElem?_getD, hd]; rfl
    rw [ht, eb]
    cases hf : fitP l[j] k L with
    | false =>
      rw [Bool.false_and, if_neg Bool.false_ne_true, if_neg Bool.false_ne_true, List.append_nil]
      exact ih
    | true =>
      rw [if_pos rfl, Bool.true_and]
      cases hb : bestN l k L j with
      | none =>
        rw [hb] at ih
        rw [if_pos rfl]
        show (∀ d ∈ _, tl' d ≤ tl' (l.getD j .non)) ∧ _
        rw [hgj, show (l.take j).filter (fun d => fitP d k L) = [] from ih, List.nil_append]
        refine ⟨fun d hd => by rw [List.mem_singleton.mp hd]; exact Nat.le_refl _, ?_⟩
        rw [List.find?_cons, decide_eq_true rfl]
      | some i =>
        rw [hb] at ih
        obtain ⟨h1, h2⟩ := ih
        by_cases h : tl' (l.getD i .non) < tl' l[j]
        · have h0 : (match (some i : Option Nat) with | none => true | some i => decide (tl' (l.getD i .non) < tl' l[j])) = true := decide_eq_true h
          rw [if_pos h0]
          show (∀ d ∈ _, tl' d ≤ tl' (l.getD j .non)) ∧ _
          rw [hgj]
          refine ⟨fun d hd => ?_, ?_⟩
          · rcases List.mem_append.mp hd with hd | hd
            · have := h1 d hd
              omega
            · rw [List.mem_singleton.mp hd]
              exact Nat.le_refl _
          · rw [List.find?_append]
            have hn : ((l.take j).filter (fun d => fitP d k L)).find? (fun d => decide (tl' d = tl' l[j])) = none := List.find?_eq_none.mpr fun d hd z => by
              have := h1 d hd
              have z := of_decide_eq_true z
              omega
            rw [hn, List.find?_cons, decide_eq_true rfl]
            rfl
        · have h0 : (match (some i : Option Nat) with | none => true | some i => decide (tl' (l.getD i .non) < tl' l[j])) = false := decide_eq_false h
          rw [if_neg (by rw [h0]; exact Bool.false_ne_true)]
          refine ⟨fun d hd => ?_, ?_⟩
          · rcases List.mem_append.mp hd with hd | hd
            · exact h1 d hd
            · rw [List.mem_singleton.mp hd]
              omega
          · rw [List.find?_append, h2]
            rfl
def takD (l : List D) (L : List Nat) (j : Nat) : D := match takI l L j with
  | none => .non
  | some i => l.getD i .non
abbrev st__law_taken : Stmt := top 56
abbrev nm__law_taken : List Str := ["book", "text", "at", "some", "rule", "longest"]
theorem sc__law_taken : FnScope nm__law_taken ["book", "text", "at"] (defScope st__law_taken) := ⟨rfl, rfl, rfl, by decide +kernel, rfl, by decide +kernel, by decide +kernel⟩
abbrev spLTaken (K : PySem.W.Frag) : Sp := ProP K (T := List D × Str × Nat) (fun t => [.lst t.1, .str t.2.1, .int (t.2.2 : Int)]) (fun t => GoodB t.1 ∧ (cp t.2.1).length ≤ 10000 ∧ t.2.2 ≤ (cp t.2.1).length) (fun t r => r = takD t.1 (cp t.2.1) t.2.2) (fun _ _ _ => False)
theorem ok_ltaken (F : Fun K "_law_taken" "_law_taken" st__law_taken f fd) (T : Tx P w K mg base a) (c__law_fits : CalX P w K mg base 3 "_law_fits" ["rule", "text", "at"] (spLFits K)) : FnOk P w K mg base (L2.CX P w) 4 f fd ["book", "text", "at"] (spLTaken K) := by
  refine F.okX sc__law_taken (fun vs H Q E h => pro_len h fun _ => rfl) (fun cdv A outer s H vs Q E hr h => ⟨_, (pss_cons (ps_setLc (i := 3) (own := [("rule", 4)]) (g := (gName 4)) rfl sc__law_taken.nd rfl rfl (sw_true rfl rfl rfl (by decide +kernel)) (pi_listK (K := K) rfl (pv 0)) (blkOk_by (own := [("rule", 4)]) (N := nm__law_taken) (sc := (defScope st__law_taken)) (by decide +kernel)) (fun _ _ _ _ _ => (pg_name (i := 4) sc__law_taken.nd rfl (by first | exact Or.inl rfl | exact Or.inr rfl))) (fun _ _ _ _ _ => (pts_one (pt_val (pe_c c__law_fits hr (by first | decide | exact Nat.le_refl _) rfl passL (pa_cons (pv 4) (pa_cons (pv 1) (pa_cons (pv 2) pa_nil))))))) (fun _ _ _ _ _ => (pv 4)))
    (pss_cons (ps_set (i := 5) sc__law_taken.nd rfl (by first | exact Or.inl rfl | exact Or.inr rfl) (pe_callB (kC K rMax rfl (cr_max rfl)) (by rfl) T.b_max (by decide +kernel) (pa_cons (pe_op (kO K rPlus rfl op_plus) (pe_lst (pa_cons pe_int pa_nil)) (pe_lc (own := [("rule", 4)]) (tt := tYes) (g := (gName 4)) rfl sc__law_taken.nd (pi_listK (K := K) rfl (pv 3)) (blkOk_by (own := [("rule", 4)]) (N := nm__law_taken) (sc := (defScope st__law_taken)) (by decide +kernel)) (fun _ _ _ _ _ => (pg_name (i := 4) sc__law_taken.nd rfl (by first | exact Or.inl rfl | exact Or.inr rfl))) (fun _ _ _ _ _ => pts_nil) (fun _ _ _ _ _ => (pe_callB (kC K rLenU rfl call_lenU) (by rfl) T.b_len (by decide +kernel) (pa_cons (pe_ix (kX K rIx rfl ix_seq) (pv 4) pe_int (fun _ _ => rfl)) pa_nil))))) pa_nil)))
    (pss_one (ps_ret (pe_ix (kX K rIx rfl ix_seq) (pe_op (kO K rPlus rfl op_plus) (pe_lc (own := [("rule", 4)]) (g := (gName 4)) rfl sc__law_taken.nd (pi_listK (K := K) rfl (pv 3)) (blkOk_by (own := [("rule", 4)]) (N := nm__law_taken) (sc := (defScope st__law_taken)) (by decide +kernel)) (fun _ _ _ _ _ => (pg_name (i := 4) sc__law_taken.nd rfl (by first | exact Or.inl rfl | exact Or.inr rfl))) (fun _ _ _ _ _ => (pts_one (pt_cmpR (kO K rEqU rfl (op_eqU (hu64 hr))) (pe_callB (kC K rLenU rfl call_lenU) (by rfl) T.b_len (by decide +kernel) (pa_cons (pe_ix (kX K rIx rfl ix_seq) (pv 4) pe_int (fun _ _ => rfl)) pa_nil)) (pv 5) (nomark _)))) (fun _ _ _ _ _ => (pv 4))) (pe_lst (pa_cons pe_non pa_nil))) pe_int (fun _ _ => rfl)))))), run_body h fun ⟨l, t, j⟩ S ⟨hg, hz, hj⟩ hl hcl wi => ?_⟩)
  have hl : S.A.length = 0 := hl
  have hg : GoodB l := hg
  have hz : (cp t).length ≤ 10000 := hz
  have hj : j ≤ (cp t).length := hj
  have hlz := hg.1
  obtain ⟨k, hk⟩ : ∃ k, k = clsOf (prv (cp t) j) := ⟨_, rfl⟩
  obtain ⟨L', hL⟩ : ∃ L', L' = (cp t).drop j := ⟨_, rfl⟩
  have bf := best_first (l := l) (k := k) (L := L') l.length (Nat.le_refl _)
  rw [List.take_length] at bf
  have et : takI l (cp t) j = bestN l k L' l.length := by rw [hk, hL]; rfl
  have hfz := List.length_filter_le (fun d => fitP d k L') l
  have hfg : ∀ d ∈ l.filter (fun d => fitP d k L'), Good d := fun d hd => hg.2 d (List.mem_filter.mp hd).1
  walk_at "pp"
  refine ee_lc (ie_list ?_)
  walk_at "pp"
  refine ⟨l, .inl rfl, fun _ h => h, trivial, fun d => fitP d k L', fun d => d, by omega, fun d hd _ => (hg.2 d hd).cl, fun d acc hd => ?_, ?_⟩
  · refine gw_name (by decide) ?_
    walk_at "pp"
    refine ee_cz ?_
    walk_at "pp"
    refine ⟨(d, t, j), ⟨hg.2 d hd, hz, hj⟩, rfl, by show (d.lt 0 && true) = true; rw [(hg.2 d hd).cl]; rfl, ?_⟩
    rintro r rfl
    refine ⟨_, rfl, by rw [hk, hL], rfl, fun _ => ?_⟩
    walk_at "pp"
    exact ⟨rfl, rfl⟩
  rw [List.map_id']
  generalize hF : l.filter (fun d => fitP d k L') = F at *
  walk_at "pp"
  refine ee_lst ?_
  walk_at "pp"
  refine ee_lc (ie_list ?_)
  walk_at "pp"
  refine ⟨F, .inl rfl, fun _ h => h, trivial, fun _ => true, fun d => .int (tl' d : Int), by omega, fun _ _ _ => rfl, fun d acc hd => ?_, ?_⟩
  · refine gw_name (by decide) ?_
    refine et_yes ?_
    refine ⟨rfl, rfl, fun _ => ?_⟩
    walk_at "pp"
    refine ix_t (hfg d hd) ?_
    walk_at "pp"
    refine cc_lenS (by rw [len_cp]; exact Nat.le_trans (hfg d hd).t1 (by decide)) ?_
    refine ⟨?_, rfl⟩
    rw [len_cp]
    rfl
  rw [List.filter_eq_self.mpr fun _ _ => rfl]
  walk_at "pp"
  refine oo_addL (by rw [List.length_map]; show 1 + _ ≤ _; omega) ?_
  have el : ([D.v (V.int 0)] ++ F.map fun d => D.int (tl' d : Int)) = ((0 : Int) :: F.map fun d => (tl' d : Int)).map D.int := by
    rw [List.map_cons, List.map_map]
    rfl
  walk_at "pp"
  rw [el]
  refine cc_maxL (.lst _) (Nat.succ_pos _) fun m hm hmax => ?_
  have hm0 : 0 ≤ m := hmax 0 List.mem_cons_self
  obtain ⟨M, rfl⟩ : ∃ M : Nat, m = (M : Int) := ⟨m.toNat, by omega⟩
  walk_at "pp"
  refine ee_lc (ie_list ?_)
  walk_at "pp"
  refine ⟨F, .inl rfl, fun _ h => h, trivial, fun d => decide (tl' d = M), fun d => d, by omega, fun d hd _ => (hfg d hd).cl, fun d acc hd => ?_, ?_⟩
  · refine gw_name (by decide) ?_
    walk_at "pp"
    refine ix_t (hfg d hd) ?_
    walk_at "pp"
    refine cc_lenS (by rw [len_cp]; exact Nat.le_trans (hfg d hd).t1 (by decide)) ?_
    walk_at "pp"
    refine ⟨?_, rfl, fun _ => ?_⟩
    · rw [len_cp]
      exact decide_eq_decide.mpr ⟨fun h => by injection h with h; exact Int.ofNat.inj h, fun h => by rw [show (cp (rT d)).length = M from h]⟩
    · walk_at "pp"
      exact ⟨rfl, rfl⟩
  rw [List.map_id']
  walk_at "pp"
  refine ee_lst ?_
  walk_at "pp"
  have hfz2 := List.length_filter_le (fun d => decide (tl' d = M)) F
  refine oo_addL (by show _ + 1 ≤ _; omega) ?_
  walk_at "pp"
  cases hb : bestN l k L' l.length with
  | none =>
    rw [hb] at bf
    have hF0 : F = [] := bf
    have e : takD l (cp t) j = .non := by
      unfold takD
      rw [et, hb]
    subst hF0
    refine oo_ixL (d := .non) rfl ?_
    walk_at "gp"
    exact gaveP hl (by rfl) e.symm
  | some i =>
    rw [hb] at bf
    obtain ⟨b1, b2⟩ := bf
    have hgi := good_at hg (bestN_lt hb).2
    have hmF := List.mem_of_find?_eq_some b2
    have e : takD l (cp t) j = l.getD i .non := by
      unfold takD
      rw [et, hb]
    have hM : M = tl' (l.getD i .non) := by
      have h1 : ((tl' (l.getD i .non) : Nat) : Int) ≤ (M : Int) := hmax _ (List.mem_cons_of_mem _ (List.mem_map.mpr ⟨_, hmF, rfl⟩))
      rcases List.mem_cons.mp hm with h | h
      · have : M = 0 := Int.ofNat.inj h
        omega
      · obtain ⟨d, hd, h⟩ := List.mem_map.mp h
        have := b1 d hd
        have h : tl' d = M := Int.ofNat.inj h
        omega
    rw [← hM] at b2
    have hh : (F.filter fun d => decide (tl' d = M)).head? = some (l.getD i .non) := by rw [List.head?_filter]; exact b2
    obtain ⟨rest, hr⟩ : ∃ rest, (F.filter fun d => decide (tl' d = M)) = l.getD i .non :: rest := by
      cases q : (F.filter fun d => decide (tl' d = M)) with
      | nil => rw [q] at hh; cases hh
      | cons x rest =>
        rw [q] at hh
        cases hh
        exact ⟨rest, rfl⟩
    rw [hr]
    refine oo_ixL (d := l.getD i .non) (atI_of (j := 0) rfl rfl) ?_
    walk_at "gp"
    exact gaveP hl hgi.cl e.symm
end


section
variable {P : Program} {w : World} {K : PySem.W.Frag} {mg : Str → Option Value} {base : Heap} {a : Ad} {f : Addr} {fd : FuncData}
abbrev spLLaid (K : PySem.W.Frag) : Sp := Pro K (T := List D × Str) (fun _ => []) (fun t => [.lst t.1, .str t.2]) (fun t => GoodB t.1 ∧ (cp t.2).length ≤ 10000) (fun t r μ => r = .tup [.lst (run t.1 (cp t.2)).cells, .own 0, .own 1] ∧ μ = [.lst (run t.1 (cp t.2)).spans, .lst (run t.1 (cp t.2)).strange]) (fun _ _ _ _ => False)
abbrev st__law_laid_out : Stmt := top 57
abbrev nm__law_laid_out : List Str := ["book", "text", "cells", "spans", "strange", "at", "rule"]
theorem sc__law_laid_out : FnScope nm__law_laid_out ["book", "text"] (defScope st__law_laid_out) := ⟨rfl, rfl, rfl, by decide +kernel, rfl, by decide +kernel, by decide +kernel⟩
theorem ok_llaid (F : Fun K "_law_laid_out" "_law_laid_out" st__law_laid_out f fd) (T : Tx P w K mg base a) (c__law_taken : CalX P w K mg base 4 "_law_taken" ["book", "text", "at"] (spLTaken K)) : FnOk P w K mg base (L2.CX P w) 5 f fd ["book", "text"] (spLLaid K) := by
  refine F.okX sc__law_laid_out (fun vs H Q E h => pro_len h fun _ => rfl) (fun cdv A outer s H vs Q E hr h => ⟨_, (pss_cons (ps_asg (pe_tup (pa_cons (pe_lst pa_nil) (pa_cons (pe_lst pa_nil) (pa_cons (pe_lst pa_nil) (pa_cons pe_int pa_nil))))) (pg_tupK (K := K) rfl rfl (pgs_cons (pg_name (i := 2) sc__law_laid_out.nd rfl (by first | exact Or.inl rfl | exact Or.inr rfl)) (pgs_cons (pg_name (i := 3) sc__law_laid_out.nd rfl (by first | exact Or.inl rfl | exact Or.inr rfl)) (pgs_cons (pg_name (i := 4) sc__law_laid_out.nd rfl (by first | exact Or.inl rfl | exact Or.inr rfl)) (pgs_cons (pg_name (i := 5) sc__law_laid_out.nd rfl (by first | exact Or.inl rfl | exact Or.inr rfl)) pgs_nil))))))
    (pss_cons (ps_while (passes_of rfl) (pt_cmpR op_less (pv 5) (pe_callB (kC K rLenU rfl call_lenU) (by rfl) T.b_len (by decide +kernel) (pa_cons (pv 1) pa_nil)) (nomark _)) (pss_cons (ps_set (i := 6) sc__law_laid_out.nd rfl (by first | exact Or.inl rfl | exact Or.inr rfl) (pe_c c__law_taken hr (by first | decide | exact Nat.le_refl _) rfl (passes_call (takes_of rfl rfl rfl rfl) (fun _ _ _ _ h => h)) (pa_cons (pv 0) (pa_cons (pv 1) (pa_cons (pv 5) pa_nil)))))
    (pss_cons (ps_if (pt_cmpR op_isN (pv 6) pe_non (nomark _)) (pss_cons (ps_expr (pe_bmK (K := K) rfl PySem.F.plainAttrs_list PySem.F.slot_list_append PySem.F.type_list_append mt_append (pv 4) (pa_cons (pv 5) pa_nil)))
    (pss_one (ps_set (i := 6) sc__law_laid_out.nd rfl (by first | exact Or.inl rfl | exact Or.inr rfl) (pe_tup (pa_cons (pe_ix (kX K rIx rfl ix_seq) (pv 1) (pv 5) (fun _ _ => rfl)) (pa_cons (pe_tup (pa_cons pe_int pa_nil)) (pa_cons pe_str (pa_cons pe_str pa_nil)))))))) pss_nil)
    (pss_cons (ps_expr (pe_bmK (K := K) rfl PySem.F.plainAttrs_list PySem.F.slot_list_append PySem.F.type_list_append mt_append (pv 3) (pa_cons (pe_tup (pa_cons (pv 5) (pa_cons (pe_op (kO K rPlus rfl op_plus) (pv 5) (pe_callB (kC K rLenU rfl call_lenU) (by rfl) T.b_len (by decide +kernel) (pa_cons (pe_ix (kX K rIx rfl ix_seq) (pv 6) pe_int (fun _ _ => rfl)) pa_nil))) (pa_cons (pe_callB (kC K rLenU rfl call_lenU) (by rfl) T.b_len (by decide +kernel) (pa_cons (pv 2) pa_nil)) (pa_cons (pe_op (kO K rPlus rfl op_plus) (pe_callB (kC K rLenU rfl call_lenU) (by rfl) T.b_len (by decide +kernel) (pa_cons (pv 2) pa_nil)) (pe_callB (kC K rLenU rfl call_lenU) (by rfl) T.b_len (by decide +kernel) (pa_cons (pe_ix (kX K rIx rfl ix_seq) (pv 6) pe_int (fun _ _ => rfl)) pa_nil))) pa_nil))))) pa_nil)))
    (pss_one (ps_par (i := 2) (j := 5) rfl sc__law_laid_out.nd rfl rfl (by decide) rfl rfl (pa_cons (pe_op (kO K rPlus rfl op_plus) (pv 2) (pe_callTy (kC K rListOf rfl call_listOf) (by rfl) T.b_list (by decide +kernel) (pa_cons (pe_ix (kX K rIx rfl ix_seq) (pv 6) pe_int (fun _ _ => rfl)) pa_nil))) (pa_cons (pe_op (kO K rPlus rfl op_plus) (pv 5) (pe_callB (kC K rLenU rfl call_lenU) (by rfl) T.b_len (by decide +kernel) (pa_cons (pe_ix (kX K rIx rfl ix_seq) (pv 6) pe_int (fun _ _ => rfl)) pa_nil))) pa_nil)) (by rfl)))))))
    (pss_one (ps_ret (pe_tup (pa_cons (pv 2) (pa_cons (pv 3) (pa_cons (pv 4) pa_nil)))))))), run_body h fun ⟨l, t⟩ S ⟨hg, hz⟩ hl hcl wi => ?_⟩)
  have hl : S.A.length = 0 := hl
  have hg : GoodB l := hg
  have hz : (cp t).length ≤ 10000 := hz
  walk_at "pp"
  refine se_asgG ?_
  walk_at "pp"
  refine ee_lst ?_
  walk_at "pp"
  refine ee_open ?_
  walk_at "pp"
  refine ee_open ?_
  walk_at "pp"
  refine ge_four ?_
  walk_at "pp"
  refine se_while (fun m δ μ => ∃ (j : Nat) (x : Option D), j ≤ (cp t).length ∧ m = (cp t).length - (it l (cp t) j).at' ∧ δ = [some (.lst l), some (.str t), some (.lst (it l (cp t) j).cells), some (.own 0), some (.own 1), some (.int ((it l (cp t) j).at' : Int)), x] ∧ μ = [.lst (it l (cp t) j).spans, .lst (it l (cp t) j).strange]) ((cp t).length) ⟨0, none, Nat.zero_le _, rfl, rfl, rfl⟩ ?_
  rintro m δ μ ⟨j, x, hj, rfl, rfl, rfl⟩
  walk_at "pp"
  refine cc_lenS (by rw [len_cp]; omega) ?_
  walk_at "pp"
  have hok := it_ok hg (L := cp t) j
  have h1 := hok.c
  have h2 := hok.s'
  have h3 := hok.o
  refine ⟨fun hb => ?_, fun hb => ?_⟩
  · have hlt : (it l (cp t) j).at' < (cp t).length := by
      have hb := of_decide_eq_true hb
      rw [len_cp] at hb
      omega
    have hj2 := it_lt hg hj hlt
    have es : it l (cp t) (j + 1) = step l (cp t) (it l (cp t) j) := by rw [it_succ, if_pos hlt]
    obtain ⟨hs1, hs2⟩ := step_at hg hlt
    have est : step l (cp t) (it l (cp t) j) = match takI l (cp t) (it l (cp t) j).at' with | none => odd (it l (cp t) j) | some i => adv l (it l (cp t) j) i := rfl
    walk_at "pp"
    refine ee_cz ?_
    walk_at "pp"
    refine ⟨(l, t, (it l (cp t) j).at'), ⟨hg, hz, Nat.le_of_lt hlt⟩, rfl, by show (D.ltL 0 l && true) = true; rw [hg.cl]; rfl, ?_⟩
    rintro r rfl
    have etd : takD l (cp t) (it l (cp t) j).at' = match takI l (cp t) (it l (cp t) j).at' with | none => .non | some i => l.getD i .non := rfl
    dsimp only
    cases hk : takI l (cp t) (it l (cp t) j).at' with
    | none =>
      rw [hk] at est etd
      have etd : takD l (cp t) (it l (cp t) j).at' = .non := etd
      rw [etd]
      have hc : atI t.cps.toList ((it l (cp t) j).at' : Int) = some ((cp t)[(it l (cp t) j).at']) := atI_nat (List.getElem?_eq_getElem hlt)
      walk_at "pp"
      refine ee_bm ?_
      walk_at "pp"
      refine ⟨.lst (.own rfl), ?_⟩
      walk_at "pp"
      refine mm_append rfl (by omega) ?_
      walk_at "pp"
      refine oo_ixS (by rw [len_cp]; omega) hc ?_
      walk_at "pp"
      refine ee_bm ?_
      walk_at "pp"
      refine ⟨.lst (.own rfl), ?_⟩
      walk_at "pp"
      refine oo_ixT (d := .str ⟨#[(cp t)[(it l (cp t) j).at']]⟩) rfl ?_
      walk_at "pp"
      refine cc_lenS (by show 1 ≤ _; decide) ?_
      walk_at "pp"
      refine cc_len (.lst _) ?_
      walk_at "pp"
      refine cc_len (.lst _) ?_
      walk_at "pp"
      refine oo_ixT (d := .tup [.int 63]) rfl ?_
      walk_at "pp"
      refine cc_len (.tup _) ?_
      walk_at "pp"
      refine mm_append rfl (by omega) ?_
      walk_at "pp"
      refine se_par ?_
      walk_at "pp"
      refine oo_ixT (d := .tup [.int 63]) rfl ?_
      walk_at "pp"
      refine cc_list (.tup _) ?_
      refine oo_addL (by show _ + 1 ≤ _; omega) ?_
      walk_at "pp"
      refine oo_ixT (d := .str ⟨#[(cp t)[(it l (cp t) j).at']]⟩) rfl ?_
      walk_at "pp"
      refine cc_lenS (by show 1 ≤ _; decide) ?_
      walk_at "pp"
      refine ⟨(cp t).length - (it l (cp t) (j + 1)).at', by rw [es]; omega, j + 1, some (.tup [.str ⟨#[(cp t)[(it l (cp t) j).at']]⟩, .tup [.int 63], .str (Str.ofString "any"), .str (Str.ofString "any")]), hj2, rfl, ?_, ?_⟩
      · rw [es, est]
        rfl
      · rw [es, est]
        rfl
    | some i =>
      rw [hk] at est etd
      have etd : takD l (cp t) (it l (cp t) j).at' = l.getD i .non := etd
      rw [etd]
      have hi := takI_lt hk
      have hgi := good_at hg hi
      have hc1 := hgi.c1
      have hnn : (l.getD i .non).isNon = false := by rw [hgi.eq]; rfl
      walk_at "pp"
      rw [hnn]
      walk_at "pp"
      refine ee_bm ?_
      walk_at "pp"
      refine ⟨.lst (.own rfl), ?_⟩
      walk_at "pp"
      refine ix_t hgi ?_
      walk_at "pp"
      refine cc_lenS (by rw [len_cp]; exact Nat.le_trans hgi.t1 (by decide)) ?_
      walk_at "pp"
      refine cc_len (.lst _) ?_
      walk_at "pp"
      refine cc_len (.lst _) ?_
      walk_at "pp"
      refine ix_c hgi ?_
      walk_at "pp"
      refine cc_len (.tup _) ?_
      walk_at "pp"
      refine mm_append rfl (by omega) ?_
      walk_at "pp"
      refine se_par ?_
      walk_at "pp"
      refine ix_c hgi ?_
      walk_at "pp"
      refine cc_list (.tup _) ?_
      refine oo_addL (by omega) ?_
      walk_at "pp"
      refine ix_t hgi ?_
      walk_at "pp"
      refine cc_lenS (by rw [len_cp]; exact Nat.le_trans hgi.t1 (by decide)) ?_
      walk_at "pp"
      have el : (((it l (cp t) j).at' : Nat) : Int) + (((rT (l.getD i .non)).length : Nat) : Int) = (((it l (cp t) j).at' + tl' (l.getD i .non) : Nat) : Int) := by
        rw [len_cp]
        rfl
      refine ⟨(cp t).length - (it l (cp t) (j + 1)).at', by rw [es]; omega, j + 1, some (l.getD i .non), hj2, rfl, ?_, ?_⟩
      · rw [es, est, el]
        rfl
      · rw [es, est, el]
        rfl
  · have hge : ¬ (it l (cp t) j).at' < (cp t).length := by
      have hb := of_decide_eq_false hb
      rw [len_cp] at hb
      omega
    have er := it_run hg hge
    walk_at "pp"
    walk_at "gp"
    refine gave_all (by rw [hl]; exact Nat.zero_le _) ?_ ?_ ⟨by rw [← er], by rw [← er]⟩
    · show (D.ltL 2 (it l (cp t) j).cells && (decide (0 < 2) && (decide (1 < 2) && true))) = true
      rw [cells_ok_cl hok]
      rfl
    · show (D.ltL 2 (it l (cp t) j).spans && (D.ltL 2 (it l (cp t) j).strange && true)) = true
      rw [spans_ok_cl hok, odd_ok_cl hok]
      rfl
end


section
variable {P : Program} {w : World} {K : PySem.W.Frag} {mg : Str → Option Value} {base : Heap} {a : Ad} {f : Addr} {fd : FuncData}
/-! ### alike in all -/
def exOk : Nat → D → Bool
  | 0, _ => false
  | _ + 1, .v .non => true
  | _ + 1, .v (.bl _) => true
  | _ + 1, .v (.int _) => true
  | _ + 1, .v (.str _) => true
  | n + 1, .lst l => decide (l.length ≤ 1000000) && l.all (fun x => exOk n x)
  | n + 1, .tup l => decide (l.length ≤ 1000000) && l.all (fun x => exOk n x)
  | _ + 1, .dic [] [] => true
  | _ + 1, _ => false
abbrev spExact (K : PySem.W.Frag) (n : Nat) : Sp := ProP K (T := D) (fun d => [d, d]) (fun d => exOk n d = true) (fun d r => r = .bl true) (fun _ _ _ => False)
theorem exOk_pl {n : Nat} {d : D} (h : exOk n d = true) : d.pl = true := by
  cases n with
  | zero => cases h
  | succ n =>
    cases d with
    | v x => cases x <;> first | rfl | (cases h; done)
    | lst l => rfl
    | rd l => cases h
    | tup l => rfl
    | dic ks l => rfl
    | exc c d => cases h
    | own k => cases h
theorem zip_self : ∀ {l : List D} {x : D}, x ∈ zipD l l → ∃ y ∈ l, x = .tup [y, y]
  | [], _, h => by cases h
  | z :: l, x, h => by
    rcases List.mem_cons.mp (show x ∈ D.tup [z, z] :: zipD l l from h) with e | h
    · exact ⟨z, List.mem_cons_self, e⟩
    · obtain ⟨y, h1, h2⟩ := zip_self h
      exact ⟨y, List.mem_cons_of_mem _ h1, h2⟩
abbrev st__law_exact : Stmt := top 74
abbrev nm__law_exact : List Str := ["mine", "theirs", "key", "is_list", "is_like", "a", "b"]
theorem sc__law_exact : FnScope nm__law_exact ["mine", "theirs"] (defScope st__law_exact) := ⟨rfl, rfl, rfl, by decide +kernel, rfl, by decide +kernel, by decide +kernel⟩
theorem ok_exact (F : Fun K "_law_exact" "_law_exact" st__law_exact f fd) (T : Tx P w K mg base a) (hm : mg "_law_exact" = some (.ref f)) (hk : PySem.W.keepIn K (.ref f) = true) (hb : Binds K fd ["mine", "theirs"] []) :
    ∀ n, FnOk P w K mg base (L2.CX P w) (n + 1) f fd ["mine", "theirs"] (spExact K n)
  | 0 => F.okX sc__law_exact (fun vs H Q E h => pro_len h fun _ => rfl) fun cdv A outer s H vs Q E hr h => by
    obtain ⟨x, _, _, hp, _⟩ := h
    cases hp
  | n + 1 => by
    have c__law_exact : CalX P w K mg base (n + 1) "_law_exact" ["mine", "theirs"] (spExact K n) := ⟨f, fd, ok_exact F T hm hk hb n, hm, hk, hb⟩
    refine F.okX sc__law_exact (fun vs H Q E h => pro_len h fun _ => rfl) (fun cdv A outer s H vs Q E hr h => ⟨_, (pss_cons (ps_if (pt_val (pe_callB (kC K rIsiU rfl call_isU) (by rfl) T.b_isinstance (by decide +kernel) (pa_cons (pv 0) (pa_cons (pe_bltn (v := .ty "dict") (by rfl) T.b_dict (by decide +kernel) rfl) pa_nil)))) (pss_cons (ps_if (PW.pt (pw_or (pt_not (pt_val (pe_callB (kC K rIsiU rfl call_isU) (by rfl) T.b_isinstance (by decide +kernel) (pa_cons (pv 1) (pa_cons (pe_bltn (v := .ty "dict") (by rfl) T.b_dict (by decide +kernel) rfl) pa_nil))))) (pw_or1 (pt_cmpR (kO K rNeU rfl (op_neU (hu64 hr))) (pe_callB (kC K rLenU rfl call_lenU) (by rfl) T.b_len (by decide +kernel) (pa_cons (pv 0) pa_nil)) (pe_callB (kC K rLenU rfl call_lenU) (by rfl) T.b_len (by decide +kernel) (pa_cons (pv 1) pa_nil)) (nomark _))))) (pss_one (ps_ret pe_bl)) pss_nil)
    (pss_one (ps_ret (pe_lock (pe_callB (kC K rAll rfl (cr_all rfl)) (by rfl) T.b_all (by decide +kernel) (pa_cons (pe_lc (own := [("key", 2)]) (tt := tYes) (g := (gName 2)) rfl sc__law_exact.nd (pi_keys (pv 0)) (blkOk_by (own := [("key", 2)]) (N := nm__law_exact) (sc := (defScope st__law_exact)) (by decide +kernel)) (fun _ _ _ _ _ => (pg_name (i := 2) sc__law_exact.nd rfl (by first | exact Or.inl rfl | exact Or.inr rfl))) (fun _ _ _ _ _ => pts_nil) (fun _ _ _ _ _ => (pe_and (pe_cmpR (kO K rInU rfl op_inU) (pv 2) (pv 1) (by with_unfolding_all rfl)) (pe_one (pe_c c__law_exact hr (by first | decide | exact Nat.le_refl _) rfl passL (pa_cons (pe_ix (kX K rIx rfl ix_seq) (pv 0) (pv 2) (fun _ _ => rfl)) (pa_cons (pe_ix (kX K rIx rfl ix_seq) (pv 1) (pv 2) (fun _ _ => rfl)) pa_nil))))))) pa_nil)))))) pss_nil)
    (pss_cons (ps_if (pt_val (pe_callB (kC K rIsiU rfl call_isU) (by rfl) T.b_isinstance (by decide +kernel) (pa_cons (pv 0) (pa_cons (pe_tup (pa_cons (pe_bltn (v := .ty "list") (by rfl) T.b_list (by decide +kernel) rfl) (pa_cons (pe_bltn (v := .ty "tuple") (by rfl) T.b_tuple (by decide +kernel) rfl) pa_nil))) pa_nil)))) (pss_cons (ps_set (i := 3) sc__law_exact.nd rfl (by first | exact Or.inl rfl | exact Or.inr rfl) (pe_cmpR (kO K rEqU rfl (op_eqU (hu64 hr))) (pe_callB (kC K rIsiU rfl call_isU) (by rfl) T.b_isinstance (by decide +kernel) (pa_cons (pv 1) (pa_cons (pe_bltn (v := .ty "list") (by rfl) T.b_list (by decide +kernel) rfl) pa_nil))) (pe_callB (kC K rIsiU rfl call_isU) (by rfl) T.b_isinstance (by decide +kernel) (pa_cons (pv 0) (pa_cons (pe_bltn (v := .ty "list") (by rfl) T.b_list (by decide +kernel) rfl) pa_nil))) (nomark _)))
    (pss_cons (ps_set (i := 4) sc__law_exact.nd rfl (by first | exact Or.inl rfl | exact Or.inr rfl) (pe_and (pv 3) (pe_one (pe_cmpR (kO K rEqU rfl (op_eqU (hu64 hr))) (pe_callB (kC K rIsiU rfl call_isU) (by rfl) T.b_isinstance (by decide +kernel) (pa_cons (pv 1) (pa_cons (pe_bltn (v := .ty "tuple") (by rfl) T.b_tuple (by decide +kernel) rfl) pa_nil))) (pe_callB (kC K rIsiU rfl call_isU) (by rfl) T.b_isinstance (by decide +kernel) (pa_cons (pv 0) (pa_cons (pe_bltn (v := .ty "tuple") (by rfl) T.b_tuple (by decide +kernel) rfl) pa_nil))) (nomark _)))))
    (pss_one (ps_ret (pe_and (pv 4) (pe_and (pe_cmpR (kO K rEqU rfl (op_eqU (hu64 hr))) (pe_callB (kC K rLenU rfl call_lenU) (by rfl) T.b_len (by decide +kernel) (pa_cons (pv 0) pa_nil)) (pe_callB (kC K rLenU rfl call_lenU) (by rfl) T.b_len (by decide +kernel) (pa_cons (pv 1) pa_nil)) (nomark _)) (pe_one (pe_callB (kC K rAll rfl (cr_all rfl)) (by rfl) T.b_all (by decide +kernel) (pa_cons (pe_lc (own := [("a", 5), ("b", 6)]) (tt := tYes) (g := (gTup K 2 (gCons (gName 5) (gCons (gName 6) gNil)))) rfl sc__law_exact.nd (pi_zipAK (K := K) rfl (by rfl) T.b_zip (pa_cons (pv 0) (pa_cons (pv 1) pa_nil))) (blkOk_by (own := [("a", 5), ("b", 6)]) (N := nm__law_exact) (sc := (defScope st__law_exact)) (by decide +kernel)) (fun _ _ _ _ _ => (pg_tupK (K := K) rfl rfl (pgs_cons (pg_name (i := 5) sc__law_exact.nd rfl (by first | exact Or.inl rfl | exact Or.inr rfl)) (pgs_cons (pg_name (i := 6) sc__law_exact.nd rfl (by first | exact Or.inl rfl | exact Or.inr rfl)) pgs_nil)))) (fun _ _ _ _ _ => pts_nil) (fun _ _ _ _ _ => (pe_c c__law_exact hr (by first | decide | exact Nat.le_refl _) rfl passL (pa_cons (pv 5) (pa_cons (pv 6) pa_nil))))) pa_nil))))))))) pss_nil)
    (pss_cons (ps_if (PW.pt (pw_or (pt_val (pe_callB (kC K rIsiU rfl call_isU) (by rfl) T.b_isinstance (by decide +kernel) (pa_cons (pv 1) (pa_cons (pe_tup (pa_cons (pe_bltn (v := .ty "list") (by rfl) T.b_list (by decide +kernel) rfl) (pa_cons (pe_bltn (v := .ty "tuple") (by rfl) T.b_tuple (by decide +kernel) rfl) (pa_cons (pe_bltn (v := .ty "dict") (by rfl) T.b_dict (by decide +kernel) rfl) pa_nil)))) pa_nil)))) (pw_or1 (pt_cmpR (kO K rNeU rfl (op_neU (hu64 hr))) (pe_cmpR op_isN (pv 0) pe_non (nomark _)) (pe_cmpR op_isN (pv 1) pe_non (nomark _)) (nomark _))))) (pss_one (ps_ret pe_bl)) pss_nil)
    (pss_cons (ps_set (i := 4) sc__law_exact.nd rfl (by first | exact Or.inl rfl | exact Or.inr rfl) (pe_and (pe_cmpR (kO K rEqU rfl (op_eqU (hu64 hr))) (pe_callB (kC K rIsiU rfl call_isU) (by rfl) T.b_isinstance (by decide +kernel) (pa_cons (pv 0) (pa_cons (pe_bltn (v := .ty "int") (by rfl) T.b_int (by decide +kernel) rfl) pa_nil))) (pe_callB (kC K rIsiU rfl call_isU) (by rfl) T.b_isinstance (by decide +kernel) (pa_cons (pv 1) (pa_cons (pe_bltn (v := .ty "int") (by rfl) T.b_int (by decide +kernel) rfl) pa_nil))) (nomark _)) (pe_one (pe_cmpR (kO K rEqU rfl (op_eqU (hu64 hr))) (pe_callB (kC K rIsiU rfl call_isU) (by rfl) T.b_isinstance (by decide +kernel) (pa_cons (pv 0) (pa_cons (pe_bltn (v := .ty "str") (by rfl) T.b_str (by decide +kernel) rfl) pa_nil))) (pe_callB (kC K rIsiU rfl call_isU) (by rfl) T.b_isinstance (by decide +kernel) (pa_cons (pv 1) (pa_cons (pe_bltn (v := .ty "str") (by rfl) T.b_str (by decide +kernel) rfl) pa_nil))) (nomark _)))))
    (pss_one (ps_ret (pe_and (pv 4) (pe_and (pe_cmpR (kO K rEqU rfl (op_eqU (hu64 hr))) (pe_callB (kC K rIsiU rfl call_isU) (by rfl) T.b_isinstance (by decide +kernel) (pa_cons (pv 0) (pa_cons (pe_bltn (v := .ty "bool") (by rfl) T.b_bool (by decide +kernel) rfl) pa_nil))) (pe_callB (kC K rIsiU rfl call_isU) (by rfl) T.b_isinstance (by decide +kernel) (pa_cons (pv 1) (pa_cons (pe_bltn (v := .ty "bool") (by rfl) T.b_bool (by decide +kernel) rfl) pa_nil))) (nomark _)) (pe_one (pe_cmpR (kO K rEqU rfl (op_eqU (hu64 hr))) (pv 0) (pv 1) (nomark _))))))))))), run_body h fun d S hp hl hcl wi => ?_⟩)
    have hp : exOk (n + 1) d = true := hp
    have hd0 : d.lt 0 = true := by
      have z : (d.lt S.A.length && (d.lt S.A.length && true)) = true := hcl
      rw [hl] at z
      exact (Bool.and_eq_true_iff.mp z).1
    have hpl := exOk_pl hp
    walk_at "p0"
    have deep : ∀ (l : List D), l.all (fun x => exOk n x) = true → D.ltL 0 l = true → ∀ x ∈ zipD l l, ∃ y, x = .tup [y, y] ∧ exOk n y = true ∧ y.lt 0 = true := fun l h h0 x hx => by
      obtain ⟨y, hy, e⟩ := zip_self hx
      exact ⟨y, e, List.all_eq_true.mp h y hy, D.ltL_all.mp h0 y hy⟩
    have same : ∀ (l : List D), ((zipD l l).filter fun _ => true).map (fun _ => D.bl true) = (List.replicate l.length true).map D.bl := fun l => by
      rw [List.filter_eq_self.mpr fun _ _ => rfl, List.map_const', List.map_replicate, zipD_len, Nat.min_self]
    cases d with
    | v x =>
      cases x with
      | non => walk_at "pp"; walk_at "gp"; refine gaveP hl (by rfl) ?_; rfl
      | bl b => walk_at "pp"; walk_at "gp"; refine gaveP hl (by rfl) ?_; (show D.bl _ = D.bl true); simp
      | int i => walk_at "pp"; walk_at "gp"; refine gaveP hl (by rfl) ?_; (show D.bl _ = D.bl true); simp
      | str s => walk_at "pp"; walk_at "gp"; refine gaveP hl (by rfl) ?_; (show D.bl _ = D.bl true); simp
      | _ => cases hp
    | lst l =>
      rw [show exOk (n + 1) (.lst l) = (decide (l.length ≤ 1000000) && l.all (fun x => exOk n x)) from rfl, Bool.and_eq_true] at hp
      have hz := of_decide_eq_true hp.1
      walk_at "pp"
      refine cc_len (.lst _) ?_
      walk_at "pp"
      refine cc_len (.lst _) ?_
      walk_at "pp"
      refine ⟨fun _ => ?_, fun h => absurd h (by simp)⟩
      walk_at "pp"
      refine ee_lc (ie_zipA ?_)
      walk_at "pp"
      refine ⟨l, l, .inl rfl, fun _ h => h, trivial, fun _ => true, fun _ => .bl true, by rw [zipD_len, Nat.min_self]; omega, fun _ _ _ => rfl, fun x acc hx => ?_, ?_⟩
      · obtain ⟨y, rfl, hy, hy0⟩ := deep l hp.2 hd0 x hx
        refine gw_pair (by decide) (by decide) ?_
        walk_at "pp"
        refine ⟨rfl, rfl, fun _ => ?_⟩
        refine ee_cz ?_
        walk_at "pp"
        exact ⟨y, hy, rfl, by show (y.lt 0 && (y.lt 0 && true)) = true; rw [hy0]; rfl, fun r hr => ⟨hr, rfl⟩⟩
      · rw [same]
        walk_at "pp"
        refine cc_all (.lst _) ?_
        walk_at "gp"; refine gaveP hl (by rfl) ?_; (show D.bl _ = D.bl true); simp
    | tup l =>
      rw [show exOk (n + 1) (.tup l) = (decide (l.length ≤ 1000000) && l.all (fun x => exOk n x)) from rfl, Bool.and_eq_true] at hp
      have hz := of_decide_eq_true hp.1
      walk_at "pp"
      refine cc_len (.tup _) ?_
      walk_at "pp"
      refine cc_len (.tup _) ?_
      walk_at "pp"
      refine ⟨fun _ => ?_, fun h => absurd h (by simp)⟩
      walk_at "pp"
      refine ee_lc (ie_zipA ?_)
      walk_at "pp"
      refine ⟨l, l, .inr rfl, fun _ h => h, trivial, fun _ => true, fun _ => .bl true, by rw [zipD_len, Nat.min_self]; omega, fun _ _ _ => rfl, fun x acc hx => ?_, ?_⟩
      · obtain ⟨y, rfl, hy, hy0⟩ := deep l hp.2 hd0 x hx
        refine gw_pair (by decide) (by decide) ?_
        walk_at "pp"
        refine ⟨rfl, rfl, fun _ => ?_⟩
        refine ee_cz ?_
        walk_at "pp"
        exact ⟨y, hy, rfl, by show (y.lt 0 && (y.lt 0 && true)) = true; rw [hy0]; rfl, fun r hr => ⟨hr, rfl⟩⟩
      · rw [same]
        walk_at "pp"
        refine cc_all (.lst _) ?_
        walk_at "gp"; refine gaveP hl (by rfl) ?_; (show D.bl _ = D.bl true); simp
    | dic ks l =>
      match ks, l, hp with
      | [], [], _ =>
        walk_at "pp"
        refine cc_lenD ?_
        walk_at "pp"
        refine cc_lenD ?_
        walk_at "pp"
        refine ee_lockAll0 rfl ?_
        walk_at "gp"
        exact gaveP hl (by rfl) rfl
    | rd l => cases hp
    | exc c d => cases hp
    | own k => cases hp

/-! ### copied -/
def cpOk : Nat → D → Bool
  | 0, _ => false
  | _ + 1, .v .non => true
  | _ + 1, .v (.bl _) => true
  | _ + 1, .v (.int _) => true
  | _ + 1, .v (.str _) => true
  | n + 1, .lst l => decide (l.length ≤ 1000000) && l.all (fun x => cpOk n x)
  | n + 1, .tup l => decide (l.length ≤ 1000000) && l.all (fun x => cpOk n x)
  | _ + 1, _ => false
abbrev spCopied (K : PySem.W.Frag) (n : Nat) : Sp := ProP K (T := D) (fun d => [d]) (fun d => cpOk n d = true) (fun d r => r = d) (fun _ _ _ => False)
abbrev st__law_copied : Stmt := top 75
abbrev nm__law_copied : List Str := ["thing", "item", "key"]
theorem sc__law_copied : FnScope nm__law_copied ["thing"] (defScope st__law_copied) := ⟨rfl, rfl, rfl, by decide +kernel, rfl, by decide +kernel, by decide +kernel⟩
theorem ok_copied (F : Fun K "_law_copied" "_law_copied" st__law_copied f fd) (T : Tx P w K mg base a) (hm : mg "_law_copied" = some (.ref f)) (hk : PySem.W.keepIn K (.ref f) = true) (hb : Binds K fd ["thing"] []) :
    ∀ n, FnOk P w K mg base (L2.CX P w) (n + 1) f fd ["thing"] (spCopied K n)
  | 0 => F.okX sc__law_copied (fun vs H Q E h => pro_len h fun _ => rfl) fun cdv A outer s H vs Q E hr h => by
    obtain ⟨x, _, _, hp, _⟩ := h
    cases hp
  | n + 1 => by
    have c__law_copied : CalX P w K mg base (n + 1) "_law_copied" ["thing"] (spCopied K n) := ⟨f, fd, ok_copied F T hm hk hb n, hm, hk, hb⟩
    refine F.okX sc__law_copied (fun vs H Q E h => pro_len h fun _ => rfl) (fun cdv A outer s H vs Q E hr h => ⟨_, (pss_cons (ps_if (pt_val (pe_callB (kC K rIsiU rfl call_isU) (by rfl) T.b_isinstance (by decide +kernel) (pa_cons (pv 0) (pa_cons (pe_bltn (v := .ty "list") (by rfl) T.b_list (by decide +kernel) rfl) pa_nil)))) (pss_one (ps_ret (pe_lc (own := [("item", 1)]) (tt := tYes) (g := (gName 1)) rfl sc__law_copied.nd (pi_listK (K := K) rfl (pv 0)) (blkOk_by (own := [("item", 1)]) (N := nm__law_copied) (sc := (defScope st__law_copied)) (by decide +kernel)) (fun _ _ _ _ _ => (pg_name (i := 1) sc__law_copied.nd rfl (by first | exact Or.inl rfl | exact Or.inr rfl))) (fun _ _ _ _ _ => pts_nil) (fun _ _ _ _ _ => (pe_c c__law_copied hr (by first | decide | exact Nat.le_refl _) rfl passL (pa_cons (pv 1) pa_nil)))))) pss_nil)
    (pss_cons (ps_if (pt_val (pe_callB (kC K rIsiU rfl call_isU) (by rfl) T.b_isinstance (by decide +kernel) (pa_cons (pv 0) (pa_cons (pe_bltn (v := .ty "tuple") (by rfl) T.b_tuple (by decide +kernel) rfl) pa_nil)))) (pss_one (ps_ret (pe_callTy (kC K rTupOf rfl call_tupOf) (by rfl) T.b_tuple (by decide +kernel) (pa_cons (pe_lc (own := [("item", 1)]) (tt := tYes) (g := (gName 1)) rfl sc__law_copied.nd (pi_tupK (K := K) rfl (pv 0)) (blkOk_by (own := [("item", 1)]) (N := nm__law_copied) (sc := (defScope st__law_copied)) (by decide +kernel)) (fun _ _ _ _ _ => (pg_name (i := 1) sc__law_copied.nd rfl (by first | exact Or.inl rfl | exact Or.inr rfl))) (fun _ _ _ _ _ => pts_nil) (fun _ _ _ _ _ => (pe_c c__law_copied hr (by first | decide | exact Nat.le_refl _) rfl passL (pa_cons (pv 1) pa_nil)))) pa_nil)))) pss_nil)
    (pss_cons (ps_if (pt_val (pe_callB (kC K rIsiU rfl call_isU) (by rfl) T.b_isinstance (by decide +kernel) (pa_cons (pv 0) (pa_cons (pe_bltn (v := .ty "dict") (by rfl) T.b_dict (by decide +kernel) rfl) pa_nil)))) (pss_one (ps_ret (pe_callTy (call_dictP rfl) (by rfl) T.b_dict (by decide +kernel) (pa_cons (pe_lc (own := [("key", 2)]) (tt := tYes) (g := (gName 2)) rfl sc__law_copied.nd (pi_keys (pv 0)) (blkOk_by (own := [("key", 2)]) (N := nm__law_copied) (sc := (defScope st__law_copied)) (by decide +kernel)) (fun _ _ _ _ _ => (pg_name (i := 2) sc__law_copied.nd rfl (by first | exact Or.inl rfl | exact Or.inr rfl))) (fun _ _ _ _ _ => pts_nil) (fun _ _ _ _ _ => (pe_tup (pa_cons (pv 2) (pa_cons (pe_c c__law_copied hr (by first | decide | exact Nat.le_refl _) rfl passL (pa_cons (pe_ix (kX K rIx rfl ix_seq) (pv 0) (pv 2) (fun _ _ => rfl)) pa_nil)) pa_nil))))) pa_nil)))) pss_nil)
    (pss_one (ps_ret (pv 0)))))), run_body h fun d S hp hl hcl wi => ?_⟩)
    have hp : cpOk (n + 1) d = true := hp
    have hl : S.A.length = 0 := hl
    have hd0 : d.lt 0 = true := by
      have z : (d.lt S.A.length && true) = true := hcl
      rw [hl] at z
      exact (Bool.and_eq_true_iff.mp z).1
    cases d with
    | v x =>
      cases x with
      | non => walk_at "pp"; walk_at "gp"; exact gaveP hl (by rfl) rfl
      | bl b => walk_at "pp"; walk_at "gp"; exact gaveP hl (by rfl) rfl
      | int i => walk_at "pp"; walk_at "gp"; exact gaveP hl (by rfl) rfl
      | str s => walk_at "pp"; walk_at "gp"; exact gaveP hl (by rfl) rfl
      | _ => cases hp
    | lst l =>
      rw [show cpOk (n + 1) (.lst l) = (decide (l.length ≤ 1000000) && l.all (fun x => cpOk n x)) from rfl, Bool.and_eq_true] at hp
      have hz := of_decide_eq_true hp.1
      have hx0 := D.ltL_all.mp (show D.ltL 0 l = true from hd0)
      walk_at "pp"
      refine ee_lc (ie_list ?_)
      walk_at "pp"
      refine ⟨l, .inl rfl, fun _ h => h, trivial, fun _ => true, fun x => x, by omega, fun x hx _ => hx0 x hx, fun x acc hx => ?_, ?_⟩
      · refine gw_name (by decide) ?_
        refine et_yes ?_
        refine ⟨rfl, rfl, fun _ => ?_⟩
        refine ee_cz ?_
        walk_at "pp"
        exact ⟨x, List.all_eq_true.mp hp.2 x hx, rfl, by show (x.lt 0 && true) = true; rw [hx0 x hx]; rfl, fun r hr => ⟨hr, rfl⟩⟩
      · rw [List.filter_eq_self.mpr fun _ _ => rfl, List.map_id']
        walk_at "gp"
        exact gaveP hl hd0 rfl
    | tup l =>
      rw [show cpOk (n + 1) (.tup l) = (decide (l.length ≤ 1000000) && l.all (fun x => cpOk n x)) from rfl, Bool.and_eq_true] at hp
      have hz := of_decide_eq_true hp.1
      have hx0 := D.ltL_all.mp (show D.ltL 0 l = true from hd0)
      walk_at "pp"
      refine ee_lc (ie_tup ?_)
      walk_at "pp"
      refine ⟨fun _ h => h, trivial, fun _ => true, fun x => x, by omega, fun x hx _ => hx0 x hx, fun x acc hx => ?_, ?_⟩
      · refine gw_name (by decide) ?_
        refine et_yes ?_
        refine ⟨rfl, rfl, fun _ => ?_⟩
        refine ee_cz ?_
        walk_at "pp"
        exact ⟨x, List.all_eq_true.mp hp.2 x hx, rfl, by show (x.lt 0 && true) = true; rw [hx0 x hx]; rfl, fun r hr => ⟨hr, rfl⟩⟩
      · rw [List.filter_eq_self.mpr fun _ _ => rfl, List.map_id']
        walk_at "pp"
        refine cc_tuple (.lst _) ?_
        walk_at "gp"
        exact gaveP hl hd0 rfl
    | dic ks l => cases hp
    | rd l => cases hp
    | exc c d => cases hp
    | own k => cases hp
end


section
variable {P : Program} {w : World} {K : PySem.W.Frag} {mg : Str → Option Value} {base : Heap} {a : Ad} {f : Addr} {fd : FuncData}
abbrev spPurse (K : PySem.W.Frag) : Sp := ProN K (T := List Int × Nat) (fun t => [.rd (t.1.map D.int), .int (t.2 : Int)]) (fun t => t.2 ≤ 1000) (fun _ l => PuOk 0 l) (fun _ _ _ => False)
abbrev st__law_purse : Stmt := top 69
abbrev nm__law_purse : List Str := ["script", "at", "seed"]
theorem sc__law_purse : FnScope nm__law_purse ["script", "at"] (defScope st__law_purse) := ⟨rfl, rfl, rfl, by decide +kernel, rfl, by decide +kernel, by decide +kernel⟩
theorem ok_purse (F : Fun K "_law_purse" "_law_purse" st__law_purse f fd) (T : Tx P w K mg base a) : FnOk P w K mg base (L2.CX P w) 1 f fd ["script", "at"] (spPurse K) := by
  refine F.okX sc__law_purse (fun vs H Q E h => pro_len h fun _ => rfl) (fun cdv A outer s H vs Q E hr h => ⟨_, (pss_cons (ps_set (i := 2) sc__law_purse.nd rfl (by first | exact Or.inl rfl | exact Or.inr rfl) (pe_callB (kC K rSum rfl (cr_sum rfl)) (by rfl) T.b_sum (by decide +kernel) (pa_cons (pe_slice (kS K rSlU rfl sl_U) (pv 0) (po_some (pv 1)) (po_some (pe_op (kO K rPlus rfl op_plus) (pv 1) pe_int))) pa_nil)))
    (pss_one (ps_ret (pe_lst (pa_cons (pe_op op_mod (pe_callTy call_int1 (by rfl) T.b_int (by decide +kernel) (pa_cons (pe_callB (call_max2 rfl) (by rfl) T.b_max (by decide +kernel) (pa_cons (pe_op op_sub (pv 2) (pe_op op_powW pe_int pe_int)) (pa_cons pe_int pa_nil))) pa_nil)) (pe_op op_powW (pe_op op_powW pe_int pe_int) pe_int)) (pa_cons (pe_op op_mod (pe_callTy call_int1 (by rfl) T.b_int (by decide +kernel) (pa_cons (pv 2) pa_nil)) pe_int) (pa_cons pe_int (pa_cons (pv 1) pa_nil)))))))), run_body h fun ⟨ns, n⟩ S hn hl hcl wi => ?_⟩)
  have hn : n ≤ 1000 := hn
  walk_at "p0"
  walk_at "pp"
  refine ss_rd ?_
  rw [cut_map]
  generalize ((ns.drop _).take _ : List Int) = ms
  walk_at "pp"
  refine cc_sum (.lst _) ?_
  walk_at "pp"
  refine ee_open ?_
  walk_at "pp"
  refine oo_powW ⟨by decide, by decide +kernel⟩ ?_
  walk_at "pp"
  refine oo_powW ⟨by decide, by decide +kernel⟩ ?_
  walk_at "pp"
  refine oo_powW ⟨by decide, by decide +kernel⟩ ?_
  refine oo_mod (by decide +kernel) ?_
  walk_at "pp"
  refine oo_mod (by decide) ?_
  walk_at "pp"
  have b1 := Int.emod_nonneg ms.sum (show (2147483629 : Int) ≠ 0 by decide)
  have b2 := Int.emod_lt_of_pos ms.sum (show (0 : Int) < 2147483629 by decide)
  walk_at "gp"
  refine gaveN hl (k := 0) rfl (by rfl) ?_
  exact ⟨_, _, _, _, rfl, b1, by omega, by decide, by decide, by omega, by omega⟩
end


section
variable {P : Program} {w : World} {K : PySem.W.Frag} {mg : Str → Option Value} {base : Heap} {a : Ad} {f : Addr} {fd : FuncData}
inductive Pick : D → D → Prop
  | lst {xs : List D} {x : D} : x ∈ xs → Pick (.lst xs) x
  | str {s : Str} {c : Nat} : c ∈ cp s → Pick (.str s) (.str ⟨#[c]⟩)
def PickOk (d : D) : Prop := (∃ xs, d = .lst xs ∧ 0 < xs.length ∧ xs.length ≤ 1000000 ∧ D.ltL 0 xs = true) ∨ (∃ s, d = .str s ∧ 0 < (cp s).length ∧ (cp s).length ≤ 1000000)
abbrev spOneOf (K : PySem.W.Frag) : Sp := Pro K (T := List D × D × Nat) (fun t => [.lst t.1]) (fun t => [.own 0, t.2.1]) (fun t => PuOk t.2.2 t.1 ∧ t.2.2 ≤ 1000000000 ∧ PickOk t.2.1)
  (fun t d μ => Pick t.2.1 d ∧ d.lt 0 = true ∧ ∃ l', μ = [.lst l'] ∧ PuOk (t.2.2 + 1) l') (fun _ _ _ _ => False)
abbrev st__law_one_of : Stmt := top 73
abbrev nm__law_one_of : List Str := ["purse", "some"]
theorem sc__law_one_of : FnScope nm__law_one_of ["purse", "some"] (defScope st__law_one_of) := ⟨rfl, rfl, rfl, by decide +kernel, rfl, by decide +kernel, by decide +kernel⟩
theorem ok_one_of (F : Fun K "_law_one_of" "_law_one_of" st__law_one_of f fd) (T : Tx P w K mg base a) (c__law_draw : CalX P w K mg base 2 "_law_draw" ["purse", "many"] (spDraw K)) : FnOk P w K mg base (L2.CX P w) 3 f fd ["purse", "some"] (spOneOf K) := by
  refine F.okX sc__law_one_of (fun vs H Q E h => pro_len h fun _ => rfl) (fun cdv A outer s H vs Q E hr h => ⟨_, (pss_one (ps_ret (pe_ix (kX K rIx rfl ix_seq) (pv 1) (pe_c c__law_draw hr (by first | decide | exact Nat.le_refl _) rfl (passes_call (takes_of rfl rfl rfl rfl) (fun _ _ _ _ h => h)) (pa_cons (pv 0) (pa_cons (pe_callB (kC K rLenU rfl call_lenU) (by rfl) T.b_len (by decide +kernel) (pa_cons (pv 1) pa_nil)) pa_nil))) (fun _ _ => rfl)))), run_body h fun ⟨l, d, n⟩ S ⟨hp, hn, hd⟩ hl hcl wi => ?_⟩)
  have hp : PuOk n l := hp
  have hn : n ≤ 1000000000 := hn
  have hS : S.A.length = 1 := hl
  walk_at "p0"
  walk_at "pp"
  refine ee_cz1 0 ?_
  walk_at "pp"
  rcases hd with ⟨xs, rfl, h0, h1, hno⟩ | ⟨s, rfl, h0, h1⟩
  · refine cc_len (.lst _) ?_
    walk_at "pp"
    refine ⟨(l, (xs.length : Int), n), l, ⟨hp, by show (0 : Int) < (xs.length : Int); omega, by show (xs.length : Int) ≤ 1000000; omega, hn⟩, rfl, hp.cl, rfl, hand1 rfl, fun d c ⟨v, l', hr, v0, v1, hc, hp'⟩ => ?_⟩
    subst hr
    subst hc
    refine ⟨rfl, l', rfl, hp'.cl, ?_⟩
    have v1 : v < (xs.length : Int) := v1
    have hv : v.toNat < xs.length := by omega
    refine oo_ixL (atI_of (j := v.toNat) (List.getElem?_eq_getElem hv) (by omega)) ?_
    have hm : xs[v.toNat] ∈ xs := List.getElem_mem hv
    have hx := D.ltL_all.mp hno _ hm
    walk_at "gp"
    refine gave1 hS hx hp'.cl ?_
    exact ⟨.lst hm, hx, l', rfl, hp'⟩
  · refine cc_lenS (by rw [len_cp]; omega) ?_
    walk_at "pp"
    have e := len_cp s
    refine ⟨(l, (s.length : Int), n), l, ⟨hp, by show (0 : Int) < (s.length : Int); omega, by show (s.length : Int) ≤ 1000000; omega, hn⟩, rfl, hp.cl, rfl, hand1 rfl, fun d c ⟨v, l', hr, v0, v1, hc, hp'⟩ => ?_⟩
    subst hr
    subst hc
    refine ⟨rfl, l', rfl, hp'.cl, ?_⟩
    have v1 : v < (s.length : Int) := v1
    have hv : v.toNat < (cp s).length := by omega
    refine oo_ixS (by omega) (atI_of (j := v.toNat) (show (cp s)[v.toNat]? = _ from List.getElem?_eq_getElem hv) (by omega)) ?_
    walk_at "gp"
    refine gave1 hS (by rfl) hp'.cl ?_
    exact ⟨.str (List.getElem_mem hv), rfl, l', rfl, hp'⟩
end


section
variable {P : Program} {w : World} {K : PySem.W.Frag} {mg : Str → Option Value} {base : Heap} {a : Ad} {f : Addr} {fd : FuncData}
theorem PuOk.le {n m : Nat} {l : List D} (h : PuOk n l) (hm : n ≤ m) : PuOk m l := by
  obtain ⟨p0, p1, p2, p3, e, h1, h2, h3, h4, h5, h6⟩ := h
  exact ⟨p0, p1, p2, p3, e, h1, h2, h3, by omega, h5, h6⟩
/-- _law_one_of of an open list -/
abbrev spOneOf2 (K : PySem.W.Frag) : Sp := Pro K (T := List D × List D × Nat) (fun t => [.lst t.1, .lst t.2.1]) (fun t => [.own 0, .own 1]) (fun t => PuOk t.2.2 t.1 ∧ t.2.2 ≤ 1000000000 ∧ 0 < t.2.1.length ∧ t.2.1.length ≤ 1000000 ∧ D.ltL 0 t.2.1 = true)
  (fun t d μ => d ∈ t.2.1 ∧ d.lt 0 = true ∧ ∃ l', μ = [.lst l', .lst t.2.1] ∧ PuOk (t.2.2 + 1) l') (fun _ _ _ _ => False)
theorem ok_one_of2 (F : Fun K "_law_one_of" "_law_one_of" st__law_one_of f fd) (T : Tx P w K mg base a) (c__law_draw : CalX P w K mg base 2 "_law_draw" ["purse", "many"] (spDraw K)) : FnOk P w K mg base (L2.CX P w) 3 f fd ["purse", "some"] (spOneOf2 K) := by
  refine F.okX sc__law_one_of (fun vs H Q E h => pro_len h fun _ => rfl) (fun cdv A outer s H vs Q E hr h => ⟨_, (pss_one (ps_ret (pe_ix (kX K rIx rfl ix_seq) (pv 1) (pe_c c__law_draw hr (by first | decide | exact Nat.le_refl _) rfl (passes_call (takes_of rfl rfl rfl rfl) (fun _ _ _ _ h => h)) (pa_cons (pv 0) (pa_cons (pe_callB (kC K rLenU rfl call_lenU) (by rfl) T.b_len (by decide +kernel) (pa_cons (pv 1) pa_nil)) pa_nil))) (fun _ _ => rfl)))), run_body h fun ⟨l, xs, n⟩ S ⟨hp, hn, h0, h1, hno⟩ hl hcl wi => ?_⟩)
  have hp : PuOk n l := hp
  have hn : n ≤ 1000000000 := hn
  have h0 : 0 < xs.length := h0
  have h1 : xs.length ≤ 1000000 := h1
  have hno : D.ltL 0 xs = true := hno
  have hS : S.A.length = 2 := hl
  walk_at "pp"
  refine ee_cz1 0 ?_
  walk_at "pp"
  refine cc_len (.own rfl) ?_
  walk_at "pp"
  refine ⟨(l, (xs.length : Int), n), l, ⟨hp, by show (0 : Int) < (xs.length : Int); omega, by show (xs.length : Int) ≤ 1000000; omega, hn⟩, rfl, hp.cl, rfl, hand1 rfl, fun d c ⟨v, l', hr, v0, v1, hc, hp'⟩ => ?_⟩
  subst hr
  subst hc
  refine ⟨rfl, l', rfl, hp'.cl, ?_⟩
  have v1 : v < (xs.length : Int) := v1
  have hv : v.toNat < xs.length := by omega
  refine oo_ixO (l := xs) rfl (atI_of (j := v.toNat) (List.getElem?_eq_getElem hv) (by omega)) ?_
  have hm : xs[v.toNat] ∈ xs := List.getElem_mem hv
  have hx := D.ltL_all.mp hno _ hm
  walk_at "gp"
  refine gave (D.lt_mono (Nat.zero_le _) hx) ?_ ?_
  · rw [hS]
    show (D.ltL 2 l' && (D.ltL 2 xs && true)) = true
    rw [D.ltL_mono (Nat.zero_le _) hp'.cl, D.ltL_mono (Nat.zero_le _) hno]
    rfl
  · rw [hS]
    exact ⟨hm, hx, l', rfl, hp'⟩
def hands (n : Nat) : List D := (List.range n).map fun j => .own (j + 1)
theorem hands_len {n : Nat} : (hands n).length = n := by unfold hands; rw [List.length_map, List.length_range]
theorem hands_1 {n : Nat} : hands (n + 1) = hands n ++ [.own (n + 1)] := by
  unfold hands
  rw [List.range_succ, List.map_append]
  rfl
theorem hands_lt {n m : Nat} (h : n < m) : D.ltL m (hands n) = true := D.ltL_all.mpr fun x hx => by
  obtain ⟨j, hj, rfl⟩ := List.mem_map.mp hx
  have := List.mem_range.mp hj
  exact decide_eq_true (by omega)
theorem lists_lt {n : Nat} {ls : List (List D)} (h : ∀ l ∈ ls, D.ltL 0 l = true) : cellsLt n (ls.map Cell.lst) = true := by
  show (ls.map Cell.lst).all _ = true
  rw [List.all_eq_true]
  intro c hc
  obtain ⟨l, hl, rfl⟩ := List.mem_map.mp hc
  exact D.ltL_mono (Nat.zero_le _) (h l hl)
abbrev spPurses (K : PySem.W.Frag) : Sp := Pro K (T := List Int × Nat) (fun _ => []) (fun t => [.rd (t.1.map D.int), .int (t.2 : Int)]) (fun t => t.2 ≤ 1000) (fun t d μ => ∃ ls : List (List D), d = .own 0 ∧ μ = .lst (hands ls.length) :: ls.map Cell.lst ∧ ∀ l ∈ ls, PuOk 0 l) (fun _ _ _ _ => False)
abbrev st__law_purses : Stmt := top 72
abbrev nm__law_purses : List Str := ["script", "few", "at"]
theorem sc__law_purses : FnScope nm__law_purses ["script", "few"] (defScope st__law_purses) := ⟨rfl, rfl, rfl, by decide +kernel, rfl, by decide +kernel, by decide +kernel⟩
theorem ok_purses (F : Fun K "_law_purses" "_law_purses" st__law_purses f fd) (T : Tx P w K mg base a) (c__law_purse : CalX P w K mg base 1 "_law_purse" ["script", "at"] (spPurse K)) : FnOk P w K mg base (L2.CX P w) 2 f fd ["script", "few"] (spPurses K) := by
  refine F.okX sc__law_purses (fun vs H Q E h => pro_len h fun _ => rfl) (fun cdv A outer s H vs Q E hr h => ⟨_, (pss_one (ps_ret (pe_lc (own := [("at", 2)]) (tt := tYes) (g := (gName 2)) rfl sc__law_purses.nd (pi_range1 rfl T.b_range (pa_cons (pe_callB (call_max2 rfl) (by rfl) T.b_max (by decide +kernel) (pa_cons pe_int (pa_cons (pe_callB (call_min2 rfl) (by rfl) T.b_min (by decide +kernel) (pa_cons (pv 1) (pa_cons (pe_callB (kC K rLenU rfl call_lenU) (by rfl) T.b_len (by decide +kernel) (pa_cons (pv 0) pa_nil)) pa_nil))) pa_nil))) pa_nil)) (blkOk_by (own := [("at", 2)]) (N := nm__law_purses) (sc := (defScope st__law_purses)) (by decide +kernel)) (fun _ _ _ _ _ => (pg_name (i := 2) sc__law_purses.nd rfl (by first | exact Or.inl rfl | exact Or.inr rfl))) (fun _ _ _ _ _ => pts_nil) (fun _ _ _ _ _ => (pe_c c__law_purse hr (by first | decide | exact Nat.le_refl _) rfl passL (pa_cons (pv 0) (pa_cons (pv 2) pa_nil))))))), run_body h fun ⟨ns, n⟩ S hn hl hcl wi => ?_⟩)
  have hn : n ≤ 1000 := hn
  have hl : S.A.length = 0 := hl
  walk_at "pp"
  refine ee_lcO (ie_rng1 ?_)
  walk_at "pp"
  refine cc_len (.rd _) ?_
  walk_at "pp"
  generalize hz : (if (if (((ns.map D.int).length : Nat) : Int) < (n : Int) then (((ns.map D.int).length : Nat) : Int) else (n : Int)) > 1 then (if (((ns.map D.int).length : Nat) : Int) < (n : Int) then (((ns.map D.int).length : Nat) : Int) else (n : Int)) else 1) = z
  have hz2 : 1 ≤ z ∧ z ≤ 1000 := by
    rw [← hz]
    split <;> split <;> omega
  refine ⟨by omega, by omega, fun i μ => ∃ ls : List (List D), ls.length = i ∧ i ≤ z.toNat ∧ μ = .lst (hands i) :: ls.map Cell.lst ∧ ∀ l ∈ ls, PuOk 0 l, fun _ _ _ => trivial, ⟨[], rfl, Nat.zero_le _, rfl, fun l h => (by cases h)⟩, ?_, ?_⟩
  · rintro i x μ hx ⟨ls, hls, hiz, rfl, hp⟩
    obtain ⟨hi, rfl⟩ := rng_get hx
    refine gw_name (by decide) ?_
    refine et_yes ?_
    refine ⟨fun _ => ?_, fun z => (by cases z)⟩
    refine ee_czN ?_
    walk_at "pp"
    refine ⟨(ns, i), by show i ≤ 1000; omega, by show [D.rd (ns.map D.int), D.int (0 + (i : Int))] = [D.rd (ns.map D.int), D.int (i : Int)]; rw [Int.zero_add], by show (D.ltL 0 (ns.map D.int) && true) = true; rw [D.ltL_all.mpr fun x hx => by obtain ⟨j, _, rfl⟩ := List.mem_map.mp hx; rfl]; rfl, fun l hl2 _ => ?_⟩
    refine ⟨hands i, rfl, by rw [hands_len]; omega, ls ++ [l], by rw [List.length_append, hls]; rfl, by omega, ?_, fun m hm => ?_⟩
    · rw [hands_1]
      simp [hls]
    · rcases List.mem_append.mp hm with hm | hm
      · exact hp m hm
      · rw [List.mem_singleton.mp hm]
        exact hl2
  · rintro μ ⟨ls, hls, hiz, rfl, hp⟩
    rw [rng_len] at hls
    walk_at "gp"
    have hlen : (Cell.lst (hands (rng 0 z.toNat).length) :: ls.map Cell.lst).length = ls.length + 1 := by rw [List.length_cons, List.length_map]
    refine gave_all (by rw [hl]; exact Nat.zero_le _) (by rw [hlen]; show decide (0 < ls.length + 1) = true; exact decide_eq_true (by omega)) ?_ ⟨ls, rfl, by rw [rng_len, hls], hp⟩
    show (D.ltL _ (hands _) && cellsLt _ (ls.map Cell.lst)) = true
    rw [hlen, rng_len, hands_lt (by omega), lists_lt fun l hl => (hp l hl).cl]
    rfl
/-- a def that draws out of the purse, and tells closed data of which Q holds -/
theorem gave_drawn {S : Bs} {P : D → Prop} {n : Nat} {d : D} {l : List D} {ν : List Cell} (hS : S.A.length = 1) (h1 : d.lt 0 = true) (h2 : P d) (h3 : PuOk n l) : Gave S (fun d μ => P d ∧ d.lt 0 = true ∧ ∃ l', μ = [.lst l'] ∧ PuOk n l') d (.lst l :: ν) := gave1 hS h1 h3.cl ⟨h2, h1, l, rfl, h3⟩
abbrev spDrawn (K : PySem.W.Frag) (B : Nat) {T : Type} (arg : T → List D) (pre : T → Prop) (post : T → D → Prop) (c : Nat) : Sp := Pro K (T := List D × Nat × T) (fun t => [.lst t.1]) (fun t => .own 0 :: arg t.2.2) (fun t => PuOk t.2.1 t.1 ∧ t.2.1 ≤ B ∧ pre t.2.2 ∧ D.ltL 0 (arg t.2.2) = true) (fun t d μ => post t.2.2 d ∧ d.lt 0 = true ∧ ∃ l', μ = [.lst l'] ∧ PuOk (t.2.1 + c) l') (fun _ _ _ _ => False)
section
variable {S : Bs} {δ : Sl} {μ : List Cell} {C : D → List Cell → Prop} {ta : TA} {E : XK}
theorem ask_drawn {T : Type} {arg : T → List D} {pre : T → Prop} {post : T → D → Prop} {B c : Nat} (k : Nat) (h : EA K S ta δ μ fun ds μ1 => ∃ (t : T) (l : List D) (n : Nat), ds = .own k :: arg t ∧ μ1[k]? = some (.lst l) ∧ PuOk n l ∧ n ≤ B ∧ pre t ∧ D.ltL 0 (arg t) = true ∧ ∀ d l', post t d → d.lt 0 = true → PuOk (n + c) l' → C d (μ1.set k (.lst l'))) : EE K S (tCall (spDrawn K B arg pre post c) [] E ta) δ μ C :=
  ee_cz1 k fun A G H σ a' Q q => h A G H σ a' Q fun vs ds A1 G1 H1 μ1 m nn r ⟨t, l, n, e1, hk, hp, hn, hpre, hcl, hC⟩ => q vs ds A1 G1 H1 μ1 m nn r (by
    subst e1
    refine ⟨(l, n, t), l, ⟨hp, hn, hpre, hcl⟩, rfl, hp.cl, hk, hand1 hcl, fun d ν ⟨h1, h2, l', h3, h4⟩ => ?_⟩
    exact ⟨h2, l', h3, h4.cl, hC d l' h1 h2 h4⟩)
theorem ask_one (k : Nat) (h : EA K S ta δ μ fun ds μ1 => ∃ (x : D) (l : List D) (n : Nat), ds = [.own k, x] ∧ μ1[k]? = some (.lst l) ∧ PuOk n l ∧ n ≤ 1000000000 ∧ PickOk x ∧ x.lt 0 = true ∧ ∀ d l', Pick x d → d.lt 0 = true → PuOk (n + 1) l' → C d (μ1.set k (.lst l'))) : EE K S (tCall (spOneOf K) [] E ta) δ μ C :=
  ee_cz1 k fun A G H σ a' Q q => h A G H σ a' Q fun vs ds A1 G1 H1 μ1 m nn r ⟨x, l, n, e1, hk, hp, hn, hx, hcl, hC⟩ => q vs ds A1 G1 H1 μ1 m nn r (by
    subst e1
    refine ⟨(l, x, n), l, ⟨hp, hn, hx⟩, rfl, hp.cl, hk, hand1 (by show (x.lt 0 && true) = true; rw [hcl]; rfl), fun d ν ⟨h1, h2, l', h3, h4⟩ => ?_⟩
    exact ⟨h2, l', h3, h4.cl, hC d l' h1 h2 h4⟩)
theorem ask_draw (k : Nat) (h : EA K S ta δ μ fun ds μ1 => ∃ (z : Int) (l : List D) (n : Nat), ds = [.own k, .int z] ∧ μ1[k]? = some (.lst l) ∧ PuOk n l ∧ n ≤ 1000000000 ∧ 0 < z ∧ z ≤ 1000000 ∧ ∀ (v : Nat) l', (v : Int) < z → PuOk (n + 1) l' → C (.int (v : Int)) (μ1.set k (.lst l'))) : EE K S (tCall (spDraw K) [] E ta) δ μ C :=
  ee_cz1 k fun A G H σ a' Q q => h A G H σ a' Q fun vs ds A1 G1 H1 μ1 m nn r ⟨z, l, n, e1, hk, hp, hn, h0, h1, hC⟩ => q vs ds A1 G1 H1 μ1 m nn r (by
    subst e1
    refine ⟨(l, z, n), l, ⟨hp, h0, h1, hn⟩, rfl, hp.cl, hk, hand1 rfl, fun d ν ⟨v, l', hr, v0, v1, hc, hp'⟩ => ?_⟩
    subst hr
    refine ⟨rfl, l', hc, hp'.cl, ?_⟩
    have := hC v.toNat l' (by have v1 : v < z := v1; omega) hp'
    rw [show ((v.toNat : Nat) : Int) = v by omega] at this
    exact this)
end
end


section
variable {P : Program} {w : World} {K : PySem.W.Frag} {mg : Str → Option Value} {base : Heap} {a : Ad} {f : Addr} {fd : FuncData}
/-- [e for .. in ..], each e drawn out of the one open list -/
theorem ee_lcW {S : Bs} {g : TG} {wi : TI} {te : TE} {δ : Sl} {μ : List Cell} {vs : List Nat} {C : D → List Cell → Prop} {n c : Nat} {ρ : List Cell} {Q : D → Prop} (hρ : ∀ m, cellsLt m ρ = true) (hQ : ∀ d, Q d → d.lt 0 = true)
    (h : IE K S wi δ μ fun l P μ1 => P = yes ∧ ∃ l1, μ1 = .lst l1 :: ρ ∧ PuOk n l1 ∧ l.length ≤ 1000000 ∧
      (∀ (i : Nat) x acc l', l[i]? = some x → PuOk (n + c * i) l' → GW K S g vs x (wipeS δ vs) (.lst l' :: (ρ ++ [.lst acc])) fun δ2 μ2 => EE K S te δ2 μ2 fun d μ3 => ∃ l2, μ3 = .lst l2 :: (ρ ++ [.lst acc]) ∧ Q d ∧ PuOk (n + c * (i + 1)) l2) ∧
      ∀ acc l', acc.length = l.length → (∀ d ∈ acc, Q d) → PuOk (n + c * l.length) l' → C (.lst acc) (.lst l' :: ρ)) : EE K S (tLc wi g tYes te vs) δ μ C := by
  refine ee_lcI fun A G H σ a R q => h A G H σ a R fun J l P A1 G1 H1 μ1 m1 n1 gv ⟨eP, l1, e1, hp, hz, it, ie⟩ => q J l P A1 G1 H1 μ1 m1 n1 gv ?_
  subst e1 eP
  refine ⟨fun i acc μ' => i ≤ l.length ∧ ∃ l', μ' = .lst l' :: ρ ∧ PuOk (n + c * i) l' ∧ acc.length = i ∧ ∀ d ∈ acc, Q d, fun _ _ _ _ => trivial, ⟨Nat.zero_le _, l1, rfl, hp, rfl, fun d hd => by cases hd⟩, ?_, ?_, ?_⟩
  · rintro i acc μ' ⟨_, l', rfl, hp', _, hq⟩
    refine ⟨rfl, ?_, D.ltL_all.mpr fun d hd => D.lt_mono (Nat.zero_le _) (hQ d (hq d hd))⟩
    show (D.ltL _ l' && cellsLt _ ρ) = true
    rw [D.ltL_mono (Nat.zero_le _) hp'.cl, hρ]
    rfl
  · rintro i x acc μ' hx ⟨hi, l', rfl, hp', ha, hq⟩
    have hlt := (List.getElem?_eq_some_iff.mp hx).1
    intro A2 G2 H2 σ2 v2 a2 r2 Q2 q2
    refine it i x acc l' hx hp' A2 G2 H2 σ2 v2 a2 r2 Q2 fun A3 G3 H3 σ3 δ3 μ3 a3 n3 hw c3 => q2 A3 G3 H3 σ3 δ3 μ3 a3 n3 hw ?_
    refine et_yes ⟨fun _ => ?_, fun z => (by cases z)⟩
    refine c3.imp fun d μ4 ⟨l2, e2, hd, hp2⟩ => ?_
    subst e2
    refine ⟨.lst l2 :: ρ, rfl, by omega, by omega, l2, rfl, hp2, by rw [List.length_append, ha]; rfl, fun d' hd' => ?_⟩
    rcases List.mem_append.mp hd' with h' | h'
    · exact hq d' h'
    · rw [List.mem_singleton.mp h']
      exact hd
  · rintro acc μ' ⟨_, l', rfl, hp', ha, hq⟩
    exact ie acc l' ha hq hp'

def sg1 (c : Nat) : D := .str ⟨#[c]⟩
def Signs (ss : List Nat) : Prop := 0 < ss.length ∧ ss.length ≤ 6 ∧ ∀ c ∈ ss, okc c = true
theorem sgs_cl {ss : List Nat} {n : Nat} : D.ltL n (ss.map sg1) = true := D.ltL_all.mpr fun x hx => by
  obtain ⟨c, _, rfl⟩ := List.mem_map.mp hx
  rfl
theorem sgs_v {ss : List Nat} : ss.map sg1 = (ss.map fun c => V.str ⟨#[c]⟩).map D.v := by rw [List.map_map]; rfl
theorem sgs_flat {ss : List Nat} : (ss.map fun c => V.str ⟨#[c]⟩).all flatV = true := List.all_eq_true.mpr fun x hx => by
  obtain ⟨c, _, rfl⟩ := List.mem_map.mp hx
  rfl
def poolsD : List D := ["ab", "abc ", "xyzABZ 09", "!\"#$&'()*+,-./:;<=>?\x40[]^_`{|}~ aA0", "qrstuv", "0123456789 .", " a-"].map fun s => D.str (Str.ofString s)
theorem pools_ok : ∀ x ∈ poolsD, ∃ s, x = .str s ∧ 0 < (cp s).length ∧ (cp s).length ≤ 100 ∧ ∀ c ∈ cp s, okc c = true := fun x hx => by
  have key : ∀ s ∈ ["ab", "abc ", "xyzABZ 09", "!\"#$&'()*+,-./:;<=>?\x40[]^_`{|}~ aA0", "qrstuv", "0123456789 .", " a-"].map Str.ofString, decide (0 < (cp s).length) = true ∧ decide ((cp s).length ≤ 100) = true ∧ (cp s).all okc = true := by decide +kernel
  obtain ⟨s, hs, rfl⟩ := List.mem_map.mp hx
  obtain ⟨k1, k2, k3⟩ := key _ (List.mem_map.mpr ⟨s, hs, rfl⟩)
  exact ⟨_, rfl, of_decide_eq_true k1, of_decide_eq_true k2, fun c hc => List.all_eq_true.mp k3 c hc⟩
abbrev spAlpha (K : PySem.W.Frag) : Sp := spDrawn K 200000000 (T := Unit) (fun _ => []) (fun _ => True) (fun _ d => ∃ ss, d = .lst (ss.map sg1) ∧ Signs ss) 100
abbrev st__law_alphabet : Stmt := top 58
abbrev nm__law_alphabet : List Str := ["purse", "pools", "pool", "found", "turn", "sign"]
theorem sc__law_alphabet : FnScope nm__law_alphabet ["purse"] (defScope st__law_alphabet) := ⟨rfl, rfl, rfl, by decide +kernel, rfl, by decide +kernel, by decide +kernel⟩
theorem ok_alphabet (F : Fun K "_law_alphabet" "_law_alphabet" st__law_alphabet f fd) (T : Tx P w K mg base a) (c__law_one_of : CalX P w K mg base 3 "_law_one_of" ["purse", "some"] (spOneOf K)) (c__law_draw : CalX P w K mg base 2 "_law_draw" ["purse", "many"] (spDraw K)) : FnOk P w K mg base (L2.CX P w) 4 f fd ["purse"] (spAlpha K) := by
  refine F.okX sc__law_alphabet (fun vs H Q E h => pro_len h fun _ => rfl) (fun cdv A outer s H vs Q E hr h => ⟨_, (pss_cons (ps_set (i := 1) sc__law_alphabet.nd rfl (by first | exact Or.inl rfl | exact Or.inr rfl) (pe_lst (pa_cons pe_str (pa_cons pe_str (pa_cons pe_str (pa_cons pe_str (pa_cons pe_str (pa_cons pe_str (pa_cons pe_str pa_nil)))))))))
    (pss_cons (ps_set (i := 2) sc__law_alphabet.nd rfl (by first | exact Or.inl rfl | exact Or.inr rfl) (pe_c c__law_one_of hr (by first | decide | exact Nat.le_refl _) rfl (passes_call (takes_of rfl rfl rfl rfl) (fun _ _ _ _ h => h)) (pa_cons (pv 0) (pa_cons (pv 1) pa_nil))))
    (pss_cons (ps_set (i := 3) sc__law_alphabet.nd rfl (by first | exact Or.inl rfl | exact Or.inr rfl) (pe_lst pa_nil))
    (pss_cons (ps_for (passes_of rfl) rfl (pi_range1 rfl T.b_range (pa_cons (pe_op (kO K rPlus rfl op_plus) pe_int (pe_c c__law_draw hr (by first | decide | exact Nat.le_refl _) rfl (passes_call (takes_of rfl rfl rfl rfl) (fun _ _ _ _ h => h)) (pa_cons (pv 0) (pa_cons pe_int pa_nil)))) pa_nil)) (pg_name (i := 4) sc__law_alphabet.nd rfl (by first | exact Or.inl rfl | exact Or.inr rfl))
      (pss_cons (ps_set (i := 5) sc__law_alphabet.nd rfl (by first | exact Or.inl rfl | exact Or.inr rfl) (pe_c c__law_one_of hr (by first | decide | exact Nat.le_refl _) rfl (passes_call (takes_of rfl rfl rfl rfl) (fun _ _ _ _ h => h)) (pa_cons (pv 0) (pa_cons (pv 2) pa_nil))))
    (pss_one (ps_set (i := 3) sc__law_alphabet.nd rfl (by first | exact Or.inl rfl | exact Or.inr rfl) (pe_op (kO K rPlus rfl op_plus) (pv 3) (pe_op op_timesU (pe_lst (pa_cons (pv 5) pa_nil)) (pe_callTy call_int1 (by rfl) T.b_int (by decide +kernel) (pa_cons (pe_cmpR (kO K rNiU rfl op_niU) (pv 5) (pv 3) (by with_unfolding_all rfl)) pa_nil))))))))
    (pss_one (ps_ret (pv 3))))))), run_body h fun ⟨l, n, _⟩ S ⟨hp, hn, _, _⟩ hl hcl wi => ?_⟩)
  have hp : PuOk n l := hp
  have hn : n ≤ 200000000 := hn
  have hS : S.A.length = 1 := hl
  walk_at "pp"
  refine ee_lst ?_
  walk_at "pp"
  refine ask_one 0 ?_
  walk_at "pp"
  refine ⟨.lst poolsD, l, n, rfl, rfl, hp, by omega, .inl ⟨_, rfl, by decide, by decide, rfl⟩, rfl, fun d l1 hpick _ hp1 => ?_⟩
  obtain ⟨s, rfl, s0, s1, hs⟩ : ∃ s, d = .str s ∧ 0 < (cp s).length ∧ (cp s).length ≤ 100 ∧ ∀ c ∈ cp s, okc c = true := by
    cases hpick with
    | lst hm => exact pools_ok _ hm
  walk_at "pp"
  refine ee_lst ?_
  walk_at "pp"
  refine se_for (ie_rng1 ?_)
  walk_at "pp"
  refine ask_draw 0 ?_
  walk_at "pp"
  refine ⟨6, l1, n + 1, rfl, rfl, hp1, by omega, by decide, by decide, fun v l2 hv hp2 => ?_⟩
  walk_at "pp"
  refine ⟨by omega, by omega, ?_⟩
  refine ⟨rfl, fun i δ μ => ∃ (p : List D) (ss : List Nat) (x y : Option D), δ = [some (.own 0), some (.lst poolsD), some (.str s), some (.lst (ss.map sg1)), x, y] ∧ μ = [.lst p] ∧ PuOk (n + 2 + i) p ∧ ss.length ≤ i ∧ (0 < i → 0 < ss.length) ∧ ∀ c ∈ ss, okc c = true, ⟨l2, [], none, none, rfl, rfl, hp2, Nat.le_refl _, fun h => absurd h (Nat.lt_irrefl _), fun c h => (by cases h)⟩, ?_, ?_⟩
  · rintro i x δ μ hi ⟨p, ss, x0, y0, rfl, rfl, hp3, hz, h0, hc⟩
    obtain ⟨hi6, rfl⟩ := rng_get hi
    walk_at "pp"
    refine ask_one 0 ?_
    walk_at "pp"
    refine ⟨.str s, p, n + 2 + i, rfl, rfl, hp3, by omega, .inr ⟨s, rfl, s0, by omega⟩, rfl, fun d l3 hpick _ hp4 => ?_⟩
    obtain ⟨c, rfl, hcs⟩ : ∃ c, d = sg1 c ∧ c ∈ cp s := by
      cases hpick with
      | str hm => exact ⟨_, rfl, hm⟩
    walk_at "pp"
    refine ee_lst ?_
    walk_at "pp"
    have ev := sgs_v (ss := ss)
    rw [ev]
    refine oo_niL (x := .str ⟨#[c]⟩) rfl sgs_flat ?_
    rw [← ev]
    walk_at "pp"
    refine cc_intB ?_
    cases hb : !inV (V.str ⟨#[c]⟩) (ss.map fun c => V.str ⟨#[c]⟩) with
    | true =>
      refine oo_repL (n := 1) (by decide) (Nat.le_of_ble_eq_true rfl) ?_
      walk_at "pp"
      refine oo_addL (by rw [List.length_map]; show ss.length + 1 ≤ _; omega) ?_
      walk_at "pp"
      refine ⟨l3, ss ++ [c], _, _, by rw [List.map_append]; rfl, rfl, hp4, by rw [List.length_append]; show ss.length + 1 ≤ i + 1; omega, fun _ => by rw [List.length_append]; show 0 < ss.length + 1; omega, fun z hz => ?_⟩
      rcases List.mem_append.mp hz with hz | hz
      · exact hc z hz
      · rw [List.mem_singleton.mp hz]
        exact hs c hcs
    | false =>
      refine oo_repL (n := 0) (by decide) (Nat.le_of_ble_eq_true rfl) ?_
      walk_at "pp"
      refine oo_addL (by rw [List.length_map]; show ss.length + 0 ≤ _; omega) ?_
      walk_at "pp"
      have hne : 0 < ss.length := by
        cases ss with
        | nil => cases hb
        | cons _ _ => exact Nat.succ_pos _
      refine ⟨l3, ss, _, _, by rw [show (List.replicate 0 [sg1 c]).flatten = [] from rfl, List.append_nil]; rfl, rfl, hp4, by omega, fun _ => hne, hc⟩
  · rintro δ μ ⟨p, ss, x0, y0, rfl, rfl, hp3, hz, h0, hc⟩
    rw [rng_len] at hp3 hz h0
    walk_at "pp"
    walk_at "gp"
    exact gave_drawn (n := n + 100) hS sgs_cl ⟨ss, rfl, h0 (by omega), by omega, hc⟩ (hp3.le (by omega))
def CellsOk (m : Nat) (d : D) : Prop := ∃ cs, d = .tup cs ∧ 0 < cs.length ∧ cs.length ≤ m ∧ ∀ c ∈ cs, ∃ i : Int, c = .int i ∧ 0 ≤ i ∧ i < 64
abbrev spCellsOf (K : PySem.W.Frag) : Sp := spDrawn K 200000000 (T := Nat) (fun m => [.int (m : Int)]) (fun m => 0 < m ∧ m ≤ 10) (fun m d => CellsOk m d) 100
abbrev st__law_cells_of : Stmt := top 59
abbrev nm__law_cells_of : List Str := ["purse", "most", "wide", "turn"]
theorem sc__law_cells_of : FnScope nm__law_cells_of ["purse", "most"] (defScope st__law_cells_of) := ⟨rfl, rfl, rfl, by decide +kernel, rfl, by decide +kernel, by decide +kernel⟩
theorem ok_cells_of (F : Fun K "_law_cells_of" "_law_cells_of" st__law_cells_of f fd) (T : Tx P w K mg base a) (c__law_one_of : CalX P w K mg base 3 "_law_one_of" ["purse", "some"] (spOneOf K)) (c__law_draw : CalX P w K mg base 2 "_law_draw" ["purse", "many"] (spDraw K)) : FnOk P w K mg base (L2.CX P w) 4 f fd ["purse", "most"] (spCellsOf K) := by
  refine F.okX sc__law_cells_of (fun vs H Q E h => pro_len h fun _ => rfl) (fun cdv A outer s H vs Q E hr h => ⟨_, (pss_cons (ps_set (i := 2) sc__law_cells_of.nd rfl (by first | exact Or.inl rfl | exact Or.inr rfl) (pe_c c__law_one_of hr (by first | decide | exact Nat.le_refl _) rfl (passes_call (takes_of rfl rfl rfl rfl) (fun _ _ _ _ h => h)) (pa_cons (pv 0) (pa_cons (pe_lst (pa_cons pe_int (pa_cons pe_int (pa_cons pe_int pa_nil)))) pa_nil))))
    (pss_one (ps_ret (pe_callTy (kC K rTupOf rfl call_tupOf) (by rfl) T.b_tuple (by decide +kernel) (pa_cons (pe_lc (own := [("turn", 3)]) (tt := tYes) (g := (gName 3)) rfl sc__law_cells_of.nd (pi_range1 rfl T.b_range (pa_cons (pe_op (kO K rPlus rfl op_plus) pe_int (pe_c c__law_draw hr (by first | decide | exact Nat.le_refl _) rfl (passes_call (takes_of rfl rfl rfl rfl) (fun _ _ _ _ h => h)) (pa_cons (pv 0) (pa_cons (pv 1) pa_nil)))) pa_nil)) (blkOk_by (own := [("turn", 3)]) (N := nm__law_cells_of) (sc := (defScope st__law_cells_of)) (by decide +kernel)) (fun _ _ _ _ _ => (pg_name (i := 3) sc__law_cells_of.nd rfl (by first | exact Or.inl rfl | exact Or.inr rfl))) (fun _ _ _ _ _ => pts_nil) (fun _ _ _ _ _ => (pe_ifExp (pt_cmpR (kO K rEqU rfl (op_eqU (hu64 hr))) (pe_c c__law_draw hr (by first | decide | exact Nat.le_refl _) rfl passL (pa_cons (pv 0) (pa_cons pe_int pa_nil))) pe_int (nomark _)) pe_int (pe_c c__law_draw hr (by first | decide | exact Nat.le_refl _) rfl passL (pa_cons (pv 0) (pa_cons (pv 2) pa_nil)))))) pa_nil))))), run_body h fun ⟨l, n, m⟩ S ⟨hp, hn, ⟨hm0, hm1⟩, _⟩ hl hcl wi => ?_⟩)
  have hp : PuOk n l := hp
  have hn : n ≤ 200000000 := hn
  have hm0 : 0 < m := hm0
  have hm1 : m ≤ 10 := hm1
  have hS : S.A.length = 1 := hl
  walk_at "pp"
  refine ask_one 0 ?_
  walk_at "pp"
  refine ee_lst ?_
  walk_at "pp"
  refine ⟨_, l, n, rfl, rfl, hp, by omega, .inl ⟨_, rfl, by decide, by decide, rfl⟩, rfl, fun d l1 hpick _ hp1 => ?_⟩
  obtain ⟨wd, rfl, w0, w1⟩ : ∃ z : Int, d = .int z ∧ 0 < z ∧ z ≤ 64 := by
    have hpick : Pick (.lst [.int 64, .int 4, .int 2]) d := hpick
    cases hpick with
    | lst hm =>
      simp only [List.mem_cons, List.not_mem_nil, or_false] at hm
      rcases hm with rfl | rfl | rfl <;> exact ⟨_, rfl, by decide, by decide⟩
  walk_at "pp"
  refine ee_lcW (n := n + 2) (c := 2) (ρ := []) (Q := fun c => ∃ i : Int, c = .int i ∧ 0 ≤ i ∧ i < 64) (fun _ => rfl) (fun d ⟨i, e, _⟩ => by subst e; rfl) (ie_rng1 ?_)
  walk_at "pp"
  refine ask_draw 0 ?_
  walk_at "pp"
  refine ⟨(m : Int), l1, n + 1, rfl, rfl, hp1, by omega, by omega, by omega, fun v l2 hv hp2 => ?_⟩
  walk_at "pp"
  refine ⟨by omega, by omega, rfl, l2, rfl, hp2, by rw [rng_len]; omega, fun i x acc l3 hx hp3 => ?_, fun acc l3 hlen hq hp3 => ?_⟩
  · have hi := (rng_get hx).1
    refine gw_name (by decide) ?_
    walk_at "pp"
    refine ask_draw 0 ?_
    walk_at "pp"
    refine ⟨9, l3, n + 2 + 2 * i, rfl, rfl, hp3, by omega, by decide, by decide, fun v4 l4 hv4 hp4 => ?_⟩
    walk_at "pp"
    refine ⟨fun hb => ?_, fun hb => ?_⟩
    · walk_at "pp"
      exact ⟨⟨63, rfl, by decide, by decide⟩, hp4.le (by omega)⟩
    · refine ask_draw 0 ?_
      walk_at "pp"
      refine ⟨wd, l4, n + 2 + 2 * i + 1, rfl, rfl, hp4, by omega, w0, by omega, fun v5 l5 hv5 hp5 => ?_⟩
      exact ⟨l5, rfl, ⟨_, rfl, by omega, by omega⟩, hp5.le (by omega)⟩
  · rw [rng_len] at hlen hp3
    walk_at "pp"
    refine cc_tuple (.lst _) ?_
    walk_at "gp"
    refine gave_drawn (n := n + 100) hS ?_ ⟨acc, rfl, by omega, by omega, hq⟩ (hp3.le (by omega))
    show D.ltL 0 acc = true
    exact cells_cl hq
abbrev spCond (K : PySem.W.Frag) : Sp := spDrawn K 200000000 (T := Unit) (fun _ => []) (fun _ => True) (fun _ d => ∃ s, d = .str s ∧ isCond (.str s) = true) 10
def condsD : List D := ["any", "any", "any", "any", "blank", "letter", "figure", "point", "inner", "outer", "edge"].map fun s => D.str (Str.ofString s)
theorem conds_ok : ∀ x ∈ condsD, ∃ s, x = .str s ∧ isCond (.str s) = true := fun x hx => by
  have key : ∀ s ∈ ["any", "any", "any", "any", "blank", "letter", "figure", "point", "inner", "outer", "edge"].map Str.ofString, isCond (.str s) = true := by decide +kernel
  obtain ⟨s, hs, rfl⟩ := List.mem_map.mp hx
  exact ⟨_, rfl, key _ (List.mem_map.mpr ⟨s, hs, rfl⟩)⟩
abbrev st__law_condition : Stmt := top 60
abbrev nm__law_condition : List Str := ["purse", "some"]
theorem sc__law_condition : FnScope nm__law_condition ["purse"] (defScope st__law_condition) := ⟨rfl, rfl, rfl, by decide +kernel, rfl, by decide +kernel, by decide +kernel⟩
theorem ok_condition (F : Fun K "_law_condition" "_law_condition" st__law_condition f fd) (T : Tx P w K mg base a) (c__law_one_of : CalX P w K mg base 3 "_law_one_of" ["purse", "some"] (spOneOf K)) : FnOk P w K mg base (L2.CX P w) 4 f fd ["purse"] (spCond K) := by
  refine F.okX sc__law_condition (fun vs H Q E h => pro_len h fun _ => rfl) (fun cdv A outer s H vs Q E hr h => ⟨_, (pss_cons (ps_set (i := 1) sc__law_condition.nd rfl (by first | exact Or.inl rfl | exact Or.inr rfl) (pe_lst (pa_cons pe_str (pa_cons pe_str (pa_cons pe_str (pa_cons pe_str (pa_cons pe_str (pa_cons pe_str (pa_cons pe_str (pa_cons pe_str (pa_cons pe_str (pa_cons pe_str (pa_cons pe_str pa_nil)))))))))))))
    (pss_one (ps_ret (pe_c c__law_one_of hr (by first | decide | exact Nat.le_refl _) rfl (passes_call (takes_of rfl rfl rfl rfl) (fun _ _ _ _ h => h)) (pa_cons (pv 0) (pa_cons (pv 1) pa_nil)))))), run_body h fun ⟨l, n, _⟩ S ⟨hp, hn, _, _⟩ hl hcl wi => ?_⟩)
  have hp : PuOk n l := hp
  have hn : n ≤ 200000000 := hn
  have hS : S.A.length = 1 := hl
  walk_at "pp"
  refine ee_lst ?_
  walk_at "pp"
  refine ask_one 0 ?_
  walk_at "pp"
  refine ⟨.lst condsD, l, n, rfl, rfl, hp, by omega, .inl ⟨_, rfl, by decide, by decide, rfl⟩, rfl, fun d l1 hpick hd hp1 => ?_⟩
  walk_at "gp"
  refine gave_drawn (n := n + 10) hS hd ?_ (hp1.le (by omega))
  cases hpick with
  | lst hm => exact conds_ok _ hm
end


section
variable {P : Program} {w : World} {K : PySem.W.Frag} {mg : Str → Option Value} {base : Heap} {a : Ad} {f : Addr} {fd : FuncData}
def strOf : D → Str
  | .v (.str s) => s
  | _ => Str.empty
/-- one sign that may be typed -/
def One (x : D) : Prop := ∃ c : Nat, x = sg1 c ∧ okc c = true
theorem One.cl {x : D} (h : One x) : x.lt 0 = true := by
  obtain ⟨c, rfl, _⟩ := h
  rfl
def joinL (l : List D) : Str := Txt.join (Str.ofString "") (l.map strOf)
theorem ones_str {l : List D} (h : ∀ x ∈ l, One x) : l = (l.map strOf).map D.str := by
  rw [List.map_map]
  have e : l.map (D.str ∘ strOf) = l.map id := List.map_congr_left fun x hx => by
    obtain ⟨c, rfl, _⟩ := h x hx
    rfl
  rw [e, List.map_id]
theorem ones_size {l : List D} (h : ∀ x ∈ l, One x) : ((l.map strOf).map (·.length)).sum + (l.map strOf).length * (Str.ofString "").length = l.length := by
  have e : (Str.ofString "").length = 0 := by decide +kernel
  rw [e, Nat.mul_zero, Nat.add_zero]
  induction l with
  | nil => rfl
  | cons x l ih =>
    obtain ⟨c, rfl, _⟩ := h x List.mem_cons_self
    rw [List.map_cons, List.map_cons, List.sum_cons, ih fun y hy => h y (List.mem_cons_of_mem _ hy), List.length_cons]
    show 1 + _ = _
    omega
theorem cp_joinL (l : List D) : cp (joinL l) = ((l.map strOf).map cp).flatten := by
  have e : Str.ofString "" = Str.empty := by decide +kernel
  unfold joinL
  rw [e, join0]
theorem joinL_ok {l : List D} (h : ∀ x ∈ l, One x) : (cp (joinL l)).length = l.length ∧ ∀ c ∈ cp (joinL l), okc c = true := by
  rw [cp_joinL]
  induction l with
  | nil => exact ⟨rfl, fun c h => by cases h⟩
  | cons x l ih =>
    obtain ⟨c, rfl, hc⟩ := h x List.mem_cons_self
    obtain ⟨h1, h2⟩ := ih fun y hy => h y (List.mem_cons_of_mem _ hy)
    rw [List.map_cons, List.map_cons, List.flatten_cons]
    refine ⟨by rw [List.length_append, h1, List.length_cons]; show 1 + _ = _; omega, fun z hz => ?_⟩
    rcases List.mem_append.mp hz with hz | hz
    · rw [List.mem_singleton.mp (show z ∈ [c] from hz)]
      exact hc
    · exact h2 z hz
theorem sgs_one {ss : List Nat} (h : ∀ c ∈ ss, okc c = true) : ∀ x ∈ ss.map sg1, One x := fun x hx => by
  obtain ⟨c, hc, rfl⟩ := List.mem_map.mp hx
  exact ⟨c, rfl, h c hc⟩
/-- a text that may stand in a rule, or be asked -/
def Printed (m : Nat) (s : Str) : Prop := (cp s).length ≤ m ∧ ∀ c ∈ cp s, okc c = true
theorem Printed.is {m : Nat} {s : Str} (h : Printed m s) : isTxt (.str s) = true := List.all_eq_true.mpr h.2
theorem good_of {t x y : Str} {cs : List D} (ht : Printed 100 t) (h0 : 0 < (cp t).length) (hc : CellsOk 100 (.tup cs)) (hx : isCond (.str x) = true) (hy : isCond (.str y) = true) : Good (.tup [.str t, .tup cs, .str x, .str y]) := by
  obtain ⟨cs', e, c0, c1, cc⟩ := hc
  injection e with e
  subst e
  exact ⟨rfl, h0, ht.1, ht.is, c0, c1, cc, hx, hy⟩
theorem CellsOk.le {m n : Nat} {d : D} (h : CellsOk m d) (hm : m ≤ n) : CellsOk n d := by
  obtain ⟨cs, e, h0, h1, hc⟩ := h
  exact ⟨cs, e, h0, by omega, hc⟩
/-- an open list and a list, shut -/
theorem oo_addOL {S : Bs} {μ : List Cell} {C : D → List Cell → Prop} {n : Nat} {l m : List D} (hc : μ[n]? = some (.lst l)) (hz : l.length + m.length ≤ 10000000) (k : C (.lst (l ++ m)) μ) : OO K S (rPlus K) (.own n) (.lst m) μ C := fun A G H u w me r1 r2 Q q => by
  cases r1 with
  | @own _ b hA =>
    obtain ⟨g, xs, hxs, rl⟩ := me.cel n b _ hA hc
    cases r2 with
    | lst h2 s2 => exact .inr (.inr (.inl ⟨_, _, _, _, rfl, rfl, hxs, me.ex _ _ h2, small (by rw [← rl.len, ← s2.len]; exact hz), fun p hp => put_lst me hp (rl.append s2) q k⟩))
/-- books may be compared -/
theorem str_py {m : Nat} {s : Str} (h : Printed m s) : PySem.PyData.canLay0 (.str s) = true := by
  show s.cps.all (fun c => decide (c < 0x110000)) = true
  rw [← Array.all_toList]
  exact List.all_eq_true.mpr fun c hc => decide_eq_true (by
    have := (Bool.and_eq_true_iff.mp (h.2 c hc)).2
    have := of_decide_eq_true this
    omega)
theorem cond_mem {s : Str} (h : isCond (.str s) = true) : s ∈ condS := by
  have h : (condS.map V.str).any (fun y => eqV y (.str s)) = true := h
  obtain ⟨y, hy, e⟩ := List.any_eq_true.mp h
  obtain ⟨t, ht, rfl⟩ := List.mem_map.mp hy
  have e : (t == s) = true := e
  rw [sm_b] at e
  rw [← cp_inj (of_decide_eq_true e)]
  exact ht
theorem cond_lay : ∀ s ∈ condS, PySem.PyData.canLay0 (.str s) = true := by decide +kernel
theorem good_py {d : D} (h : Good d) : ∃ p, D.py d = some p ∧ PySem.PyData.canLay0 p = true ∧ PySem.PyData.depth p = 2 := by
  obtain ⟨ps, h1, h2, h3, _⟩ := intb_py (l := rC d) fun c hc => by obtain ⟨i, rfl, _⟩ := h.cc c hc; exact .inl ⟨i, rfl⟩
  refine ⟨.tuple [.str (rT d), .tuple ps, .str (rX d), .str (rY d)], ?_, ?_, ?_⟩
  · rw [h.eq]
    have e : D.py (.tup (rC d)) = some (.tuple ps) := by
      show (D.pyAll (rC d)).map PyData.tuple = _
      rw [h1]
      rfl
    show (match some (PyData.str (rT d)), (match D.py (.tup (rC d)), some [PyData.str (rX d), .str (rY d)] with | some p, some ps => some (p :: ps) | _, _ => none) with | some p, some ps => some (p :: ps) | _, _ => none).map PyData.tuple = _
    rw [e]
    rfl
  · show (PySem.PyData.canLay0 (.str (rT d)) && (PySem.PyData.canLayAll0 ps && (PySem.PyData.canLay0 (.str (rX d)) && (PySem.PyData.canLay0 (.str (rY d)) && true)))) = true
    rw [str_py (m := 100) ⟨h.t1, fun c hc => List.all_eq_true.mp h.tt c hc⟩, h2, cond_lay _ (cond_mem h.x), cond_lay _ (cond_mem h.y)]
    rfl
  · show max 0 (max (PySem.PyData.depthAll ps + 1) (max 0 (max 0 0))) + 1 = 2
    rw [h3]
    rfl
theorem goods_py : ∀ {l : List D}, (∀ d ∈ l, Good d) → ∃ ps, D.pyAll l = some ps ∧ PySem.PyData.canLayAll0 ps = true ∧ PySem.PyData.depthAll ps ≤ 2 ∧ ps.isEmpty = l.isEmpty
  | [], _ => ⟨[], rfl, rfl, Nat.zero_le _, rfl⟩
  | d :: l, h => by
    obtain ⟨ps, h1, h2, h3, _⟩ := goods_py (l := l) fun x hx => h x (List.mem_cons_of_mem _ hx)
    obtain ⟨p, q1, q2, q3⟩ := good_py (h d List.mem_cons_self)
    refine ⟨p :: ps, ?_, ?_, ?_, rfl⟩
    · show (match D.py d, D.pyAll l with | some p, some ps => some (p :: ps) | _, _ => none) = _
      rw [h1, q1]
    · show (PySem.PyData.canLay0 p && _) = true
      rw [h2, q2]
      rfl
    · show max (PySem.PyData.depth p) _ ≤ 2
      rw [q3]
      omega
theorem oo_neB {S : Bs} {μ : List Cell} {C : D → List Cell → Prop} {n : Nat} {l : List D} (hc : μ[n]? = some (.lst l)) (h : ∀ d ∈ l, Good d) (k : C (.bl (!l.isEmpty)) μ) : OO K S (rNeU K) (.own n) (.lst []) μ C := by
  obtain ⟨ps, h1, h2, h3, h4⟩ := goods_py h
  refine oo_neO (p := .list ps) (q := .list []) hc ?_ rfl ?_ rfl ?_
  · show (D.pyAll l).map PyData.list = _
    rw [h1]
    rfl
  · show (PySem.PyData.canLayAll0 ps && decide (PySem.PyData.depthAll ps + 1 ≤ 64)) = true
    rw [h2, decide_eq_true (by omega)]
    rfl
  · have e : PyData.eqv (.list ps) (.list []) = l.isEmpty := by
      rw [← h4]
      cases ps <;> rfl
    rw [e]
    exact k
mutual
theorem sub_cl {g : Nat → Option (List D)} : ∀ {d : D}, d.lt 0 = true → d.sub g = d
  | .v _, _ => rfl
  | .own k, h => absurd (of_decide_eq_true (show decide (k < 0) = true from h)) (Nat.not_lt_zero k)
  | .lst l, h => congrArg D.lst (subL_cl h)
  | .rd l, h => congrArg D.rd (subL_cl h)
  | .tup l, h => congrArg D.tup (subL_cl h)
  | .dic ks l, h => congrArg (D.dic ks) (subL_cl h)
  | .exc c d, h => congrArg (D.exc c) (sub_cl h)
theorem subL_cl {g : Nat → Option (List D)} : ∀ {l : List D}, D.ltL 0 l = true → D.subL g l = l
  | [], _ => rfl
  | d :: l, h => by
    have h : (D.lt 0 d && D.ltL 0 l) = true := h
    rw [Bool.and_eq_true] at h
    show D.sub g d :: D.subL g l = d :: l
    rw [sub_cl h.1, subL_cl h.2]
end
end


section
variable {P : Program} {w : World} {K : PySem.W.Frag} {mg : Str → Option Value} {base : Heap} {a : Ad} {f : Addr} {fd : FuncData}
theorem cutS_six {s : Str} (n : Nat) : cp (cutS s none (some (n : Int))) = (cp s).take n := cutS_0n s n
theorem ask_one2 {S : Bs} {δ : Sl} {μ : List Cell} {C : D → List Cell → Prop} {ta : TA} {E : XK} (h : EA K S ta δ μ fun ds μ1 => ∃ (xs l : List D) (n : Nat), ds = [.own 0, .own 1] ∧ μ1 = [.lst l, .lst xs] ∧ PuOk n l ∧ n ≤ 1000000000 ∧ 0 < xs.length ∧ xs.length ≤ 1000000 ∧ D.ltL 0 xs = true ∧ ∀ d l', d ∈ xs → d.lt 0 = true → PuOk (n + 1) l' → C d [.lst l', .lst xs]) : EE K S (tCall (spOneOf2 K) [] E ta) δ μ C :=
  ee_callG (CE := fun _ _ _ => False) [0, 1] Wi.none fun A G H σ a' Q q => h A G H σ a' Q fun vs ds A1 G1 H1 μ1 m nn r ⟨xs, l, n, e1, e2, hp, hn, h0, h1, hc, hC⟩ => q vs ds A1 G1 H1 μ1 m nn r (by
    subst e1 e2
    refine ⟨(l, xs, n), ⟨hp, hn, h0, h1, hc⟩, by decide, fun k hk => ?_, rfl, ?_, rfl, rfl, fun d ν n' ⟨h2, h3, l', h4, h5⟩ _ _ _ _ => ?_, fun _ _ _ z _ _ _ => z⟩
    · simp only [List.mem_cons, List.not_mem_nil, or_false] at hk
      rcases hk with rfl | rfl <;> exact Nat.le_of_ble_eq_true rfl
    · show (D.ltL 0 l && (D.ltL 0 xs && true)) = true
      rw [hp.cl, hc]
      rfl
    · have h4 : ν = [.lst l', .lst xs] := h4
      subst h4
      rw [ren_cl h3]
      show C d ([Cell.lst (D.renL _ l'), .lst (D.renL _ xs)] ++ [])
      rw [renL_cl h5.cl, renL_cl hc, List.append_nil]
      exact hC d l' h2 h3 h5)
abbrev spBook (K : PySem.W.Frag) : Sp := spDrawn K 100000000 (T := List Nat × Nat) (fun t => [.lst (t.1.map sg1), .int (t.2 : Int)]) (fun t => Signs t.1 ∧ t.2 ≤ 40) (fun t d => ∃ l, d = .lst l ∧ GoodB l) 100000
abbrev st__law_book : Stmt := top 61
abbrev nm__law_book : List Str := ["purse", "signs", "most", "book", "turn", "text", "spin", "sign"]
theorem sc__law_book : FnScope nm__law_book ["purse", "signs", "most"] (defScope st__law_book) := ⟨rfl, rfl, rfl, by decide +kernel, rfl, by decide +kernel, by decide +kernel⟩
theorem ok_lbook (F : Fun K "_law_book" "_law_book" st__law_book f fd) (T : Tx P w K mg base a) (c__law_one_of : CalX P w K mg base 3 "_law_one_of" ["purse", "some"] (spOneOf K)) (c2__law_one_of : CalX P w K mg base 3 "_law_one_of" ["purse", "some"] (spOneOf2 K)) (c__law_draw : CalX P w K mg base 2 "_law_draw" ["purse", "many"] (spDraw K)) (c__law_condition : CalX P w K mg base 4 "_law_condition" ["purse"] (spCond K)) (c__law_cells_of : CalX P w K mg base 4 "_law_cells_of" ["purse", "most"] (spCellsOf K)) : FnOk P w K mg base (L2.CX P w) 5 f fd ["purse", "signs", "most"] (spBook K) := by
  refine F.okX sc__law_book (fun vs H Q E h => pro_len h fun _ => rfl) (fun cdv A outer s H vs Q E hr h => ⟨_, (pss_cons (ps_set (i := 3) sc__law_book.nd rfl (by first | exact Or.inl rfl | exact Or.inr rfl) (pe_lst pa_nil))
    (pss_cons (ps_for (passes_of rfl) rfl (pi_range1 rfl T.b_range (pa_cons (pe_c c__law_draw hr (by first | decide | exact Nat.le_refl _) rfl (passes_call (takes_of rfl rfl rfl rfl) (fun _ _ _ _ h => h)) (pa_cons (pv 0) (pa_cons (pe_op (kO K rPlus rfl op_plus) (pv 2) pe_int) pa_nil))) pa_nil)) (pg_name (i := 4) sc__law_book.nd rfl (by first | exact Or.inl rfl | exact Or.inr rfl))
      (pss_cons (ps_set (i := 5) sc__law_book.nd rfl (by first | exact Or.inl rfl | exact Or.inr rfl) (pe_joinK (K := K) rfl pe_str (pe_lc (own := [("spin", 6)]) (tt := tYes) (g := (gName 6)) rfl sc__law_book.nd (pi_range1 rfl T.b_range (pa_cons (pe_op (kO K rPlus rfl op_plus) pe_int (pe_c c__law_draw hr (by first | decide | exact Nat.le_refl _) rfl (passes_call (takes_of rfl rfl rfl rfl) (fun _ _ _ _ h => h)) (pa_cons (pv 0) (pa_cons (pe_ix (kX K rIx rfl ix_seq) (pe_lst (pa_cons pe_int (pa_cons pe_int (pa_cons pe_int (pa_cons pe_int pa_nil))))) (pe_c c__law_draw hr (by first | decide | exact Nat.le_refl _) rfl (passes_call (takes_of rfl rfl rfl rfl) (fun _ _ _ _ h => h)) (pa_cons (pv 0) (pa_cons pe_int pa_nil))) (fun _ _ => rfl)) pa_nil)))) pa_nil)) (blkOk_by (own := [("spin", 6)]) (N := nm__law_book) (sc := (defScope st__law_book)) (by decide +kernel)) (fun _ _ _ _ _ => (pg_name (i := 6) sc__law_book.nd rfl (by first | exact Or.inl rfl | exact Or.inr rfl))) (fun _ _ _ _ _ => pts_nil) (fun _ _ _ _ _ => (pe_c c__law_one_of hr (by first | decide | exact Nat.le_refl _) rfl passL (pa_cons (pv 0) (pa_cons (pv 1) pa_nil)))))))
    (pss_cons (ps_if (PW.pt (pw_and (pt_cmpR (kO K rNeU rfl (op_neU (hu64 hr))) (pv 3) (pe_lst pa_nil) (nomark _)) (pw_and1 (pt_cmpR (kO K rEqU rfl (op_eqU (hu64 hr))) (pe_c c__law_draw hr (by first | decide | exact Nat.le_refl _) rfl (passes_call (takes_of rfl rfl rfl rfl) (fun _ _ _ _ h => h)) (pa_cons (pv 0) (pa_cons pe_int pa_nil))) pe_int (nomark _))))) (pss_one (ps_set (i := 5) sc__law_book.nd rfl (by first | exact Or.inl rfl | exact Or.inr rfl) (pe_slice (kS K rSlU rfl sl_U) (pe_op (kO K rPlus rfl op_plus) (pe_ix (kX K rIx rfl ix_seq) (pe_c c2__law_one_of hr (by first | decide | exact Nat.le_refl _) rfl (passes_call (takes_of rfl rfl rfl rfl) (fun _ _ _ _ h => h)) (pa_cons (pv 0) (pa_cons (pv 3) pa_nil))) pe_int (fun _ _ => rfl)) (pv 5)) po_none (po_some pe_int)))) pss_nil)
    (pss_one (ps_expr (pe_bmK (K := K) rfl PySem.F.plainAttrs_list PySem.F.slot_list_append PySem.F.type_list_append mt_append (pv 3) (pa_cons (pe_tup (pa_cons (pv 5) (pa_cons (pe_c c__law_cells_of hr (by first | decide | exact Nat.le_refl _) rfl (passes_call (takes_of rfl rfl rfl rfl) (fun _ _ _ _ h => h)) (pa_cons (pv 0) (pa_cons (pe_ix (kX K rIx rfl ix_seq) (pe_lst (pa_cons pe_int (pa_cons pe_int (pa_cons pe_int pa_nil)))) (pe_c c__law_draw hr (by first | decide | exact Nat.le_refl _) rfl (passes_call (takes_of rfl rfl rfl rfl) (fun _ _ _ _ h => h)) (pa_cons (pv 0) (pa_cons pe_int pa_nil))) (fun _ _ => rfl)) pa_nil))) (pa_cons (pe_c c__law_condition hr (by first | decide | exact Nat.le_refl _) rfl (passes_call (takes_of rfl rfl rfl rfl) (fun _ _ _ _ h => h)) (pa_cons (pv 0) pa_nil)) (pa_cons (pe_c c__law_condition hr (by first | decide | exact Nat.le_refl _) rfl (passes_call (takes_of rfl rfl rfl rfl) (fun _ _ _ _ h => h)) (pa_cons (pv 0) pa_nil)) pa_nil))))) pa_nil)))))))
    (pss_cons (ps_if (pt_cmpR op_gt (pe_c c__law_draw hr (by first | decide | exact Nat.le_refl _) rfl (passes_call (takes_of rfl rfl rfl rfl) (fun _ _ _ _ h => h)) (pa_cons (pv 0) (pa_cons pe_int pa_nil))) pe_int (nomark _)) (pss_one (ps_set (i := 3) sc__law_book.nd rfl (by first | exact Or.inl rfl | exact Or.inr rfl) (pe_slice (kS K rSlU rfl sl_U) (pe_op (kO K rPlus rfl op_plus) (pv 3) (pe_lc (own := [("sign", 7)]) (tt := tYes) (g := (gName 7)) rfl sc__law_book.nd (pi_listK (K := K) rfl (pv 1)) (blkOk_by (own := [("sign", 7)]) (N := nm__law_book) (sc := (defScope st__law_book)) (by decide +kernel)) (fun _ _ _ _ _ => (pg_name (i := 7) sc__law_book.nd rfl (by first | exact Or.inl rfl | exact Or.inr rfl))) (fun _ _ _ _ _ => pts_nil) (fun _ _ _ _ _ => (pe_tup (pa_cons (pv 7) (pa_cons (pe_c c__law_cells_of hr (by first | decide | exact Nat.le_refl _) rfl passL (pa_cons (pv 0) (pa_cons pe_int pa_nil))) (pa_cons pe_str (pa_cons pe_str pa_nil)))))))) po_none (po_some pe_int)))) pss_nil)
    (pss_one (ps_ret (pv 3)))))), run_body h fun ⟨l, n, ss, most⟩ S ⟨hp, hn, ⟨hss, hmost⟩, _⟩ hl hcl wi => ?_⟩)
  have hp : PuOk n l := hp
  have hn : n ≤ 100000000 := hn
  have hss : Signs ss := hss
  have hmost : most ≤ 40 := hmost
  have hS : S.A.length = 1 := hl
  obtain ⟨ss0, ss6, ssc⟩ := hss
  walk_at "pp"
  refine ee_open ?_
  walk_at "pp"
  refine se_for (ie_rng1 ?_)
  walk_at "pp"
  refine ask_draw 0 ?_
  walk_at "pp"
  refine ⟨(most : Int) + 1, l, n, rfl, rfl, hp, by omega, by omega, by omega, fun v l1 hv hp1 => ?_⟩
  walk_at "pp"
  refine ⟨by omega, by omega, ?_⟩
  refine ⟨rfl, fun i δ μ => ∃ (p bk : List D) (x y z w' : Option D), δ = [some (.own 0), some (.lst (ss.map sg1)), some (.int (most : Int)), some (.own 1), x, y, z, w'] ∧ μ = [.lst p, .lst bk] ∧ PuOk (n + 1 + 500 * i) p ∧ bk.length ≤ i ∧ i ≤ v ∧ ∀ d ∈ bk, Good d, ⟨l1, [], none, none, none, none, rfl, rfl, hp1, Nat.le_refl _, Nat.zero_le _, fun d h => (by cases h)⟩, ?_, ?_⟩
  · rintro i x δ μ hi ⟨p, bk, x0, y0, z0, w0, rfl, rfl, hp2, hbk, hiv, hgd⟩
    obtain ⟨hiv2, rfl⟩ := rng_get hi
    have hiv2 : i < v := by omega
    have hbc : D.ltL 0 bk = true := D.ltL_all.mpr fun d hd => (hgd d hd).cl
    walk_at "pp"
    refine ee_m1 ?_
    walk_at "pp"
    refine ee_lcW (n := n + 1 + 500 * i + 2) (c := 1) (ρ := [.lst bk]) (Q := One) (fun m => by show (D.ltL m bk && true) = true; rw [D.ltL_mono (Nat.zero_le _) hbc]; rfl) (fun d h => h.cl) (ie_rng1 ?_)
    walk_at "pp"
    refine ask_draw 0 ?_
    walk_at "pp"
    refine ee_lst ?_
    walk_at "pp"
    refine ask_draw 0 ?_
    walk_at "pp"
    refine ⟨4, p, n + 1 + 500 * i, rfl, rfl, hp2, by omega, by decide, by decide, fun v3 l3 hv3 hp3 => ?_⟩
    obtain ⟨q, hq, q1, q6⟩ : ∃ q : Int, atI [D.int 1, .int 2, .int 3, .int 6] (v3 : Int) = some (.int q) ∧ 1 ≤ q ∧ q ≤ 6 := by
      have : v3 ∈ [0, 1, 2, 3] := by simp; omega
      simp only [List.mem_cons, List.not_mem_nil, or_false] at this
      rcases this with rfl | rfl | rfl | rfl <;> exact ⟨_, rfl, by decide, by decide⟩
    refine oo_ixL hq ?_
    walk_at "pp"
    refine ⟨q, l3, n + 1 + 500 * i + 1, rfl, rfl, hp3, by omega, by omega, by omega, fun v4 l4 hv4 hp4 => ?_⟩
    walk_at "pp"
    refine ⟨by omega, by omega, rfl, l4, rfl, hp4, by rw [rng_len]; omega, fun i2 x2 acc l5 hx2 hp5 => ?_, fun acc l5 hlen hq5 hp5 => ?_⟩
    · have hi2 := (rng_get hx2).1
      refine gw_name (by decide) ?_
      refine ask_one 0 ?_
      walk_at "pp"
      refine ⟨.lst (ss.map sg1), l5, n + 1 + 500 * i + 2 + 1 * i2, rfl, rfl, hp5, by omega, .inl ⟨_, rfl, by rw [List.length_map]; exact ss0, by rw [List.length_map]; omega, sgs_cl⟩, sgs_cl, fun d l6 hpick _ hp6 => ?_⟩
      cases hpick with
      | lst hm => exact ⟨l6, rfl, sgs_one ssc _ hm, hp6⟩
    rw [rng_len] at hlen hp5
    have hlen : acc.length = 1 + v4 := by omega
    have hp5 : PuOk (n + 1 + 500 * i + 20) l5 := hp5.le (by omega)
    obtain ⟨j1, j2⟩ := joinL_ok hq5
    have es := ones_str hq5
    rw [es]
    refine mm_join (.lst _) (by rw [ones_size hq5]; omega) ?_
    have fold : Txt.join (Str.ofString "") (acc.map strOf) = joinL acc := rfl
    rw [fold]
    generalize joinL acc = t at j1 j2
    have hp5' : PuOk (n + 1 + 500 * i + 30) l5 := hp5.le (by omega)
    refine se_seq (se_to (fun δ μ => ∃ (t : Str) (p6 : List D), δ = [some (.own 0), some (.lst (ss.map sg1)), some (.int (most : Int)), some (.own 1), some (.int (0 + (i : Int))), some (.str t), z0, w0] ∧ μ = [.lst p6, .lst bk] ∧ Printed 100 t ∧ 0 < (cp t).length ∧ PuOk (n + 1 + 500 * i + 30) p6) ?_ ?_)
    · walk_at "pp"
      refine ee_lst ?_
      walk_at "pp"
      refine oo_neB rfl hgd ?_
      walk_at "pp"
      refine ⟨fun hb => ?_, fun hb => ?_⟩
      · have hbk0 : 0 < bk.length := by
          cases bk with
          | nil => cases hb
          | cons _ _ => exact Nat.succ_pos _
        walk_at "pp"
        refine ask_draw 0 ?_
        walk_at "pp"
        refine ⟨4, l5, n + 1 + 500 * i + 20, rfl, rfl, hp5, by omega, by decide, by decide, fun v6 l6 hv6 hp6 => ?_⟩
        walk_at "pp"
        refine ⟨fun h2 => ?_, fun h2 => ?_⟩
        · walk_at "pp"
          refine ask_one2 ?_
          walk_at "pp"
          refine ⟨bk, l6, n + 1 + 500 * i + 20 + 1, rfl, rfl, hp6, by omega, hbk0, by omega, hbc, fun d l7 hd _ hp7 => ?_⟩
          have hgd1 := hgd d hd
          have ht1 := hgd1.t1
          have ht0 := hgd1.t0
          walk_at "pp"
          refine ix_t hgd1 ?_
          walk_at "pp"
          refine oo_addS (by rw [len_cp, len_cp]; omega) ?_
          walk_at "pp"
          refine ss_str (by rw [len_cp, cp_app, List.length_append]; omega) ?_
          have ec : cp (cutS (rT d ++ t) none (some (6 : Int))) = ((cp (rT d)) ++ cp t).take 6 := by
            have := cutS_six (s := rT d ++ t) 6
            rw [cp_app] at this
            exact this
          walk_at "pp"
          refine ⟨_, l7, rfl, rfl, ⟨by rw [ec, List.length_take]; omega, fun c hc => ?_⟩, by rw [ec, List.length_take, List.length_append]; omega, hp7.le (by omega)⟩
          rw [ec] at hc
          rcases List.mem_append.mp (List.mem_of_mem_take hc) with hc | hc
          · exact List.all_eq_true.mp hgd1.tt c hc
          · exact j2 c hc
        · walk_at "pp"
          exact ⟨t, l6, rfl, rfl, ⟨by omega, j2⟩, by omega, hp6.le (by omega)⟩
      · walk_at "pp"
        exact ⟨t, l5, rfl, rfl, ⟨by omega, j2⟩, by omega, hp5'⟩
    · rintro δ μ ⟨t, p6, rfl, rfl, ht, h0, hp6⟩
      walk_at "pp"
      refine ee_bm ?_
      walk_at "pp"
      refine ⟨.lst (.own rfl), ?_⟩
      walk_at "pp"
      refine ask_drawn 0 ?_
      walk_at "pp"
      refine ee_lst ?_
      walk_at "pp"
      refine ask_draw 0 ?_
      walk_at "pp"
      refine ⟨3, p6, n + 1 + 500 * i + 30, rfl, rfl, hp6, by omega, by decide, by decide, fun v7 l7 hv7 hp7 => ?_⟩
      obtain ⟨q7, hq7, q71, q76⟩ : ∃ q : Nat, atI [D.int 1, .int 2, .int 6] (v7 : Int) = some (.int (q : Int)) ∧ 0 < q ∧ q ≤ 10 := by
        have : v7 ∈ [0, 1, 2] := by simp; omega
        simp only [List.mem_cons, List.not_mem_nil, or_false] at this
        rcases this with rfl | rfl | rfl
        · exact ⟨1, rfl, by decide, by decide⟩
        · exact ⟨2, rfl, by decide, by decide⟩
        · exact ⟨6, rfl, by decide, by decide⟩
      refine oo_ixL hq7 ?_
      walk_at "pp"
      refine ⟨q7, l7, n + 1 + 500 * i + 30 + 1, rfl, rfl, hp7, by omega, ⟨q71, q76⟩, rfl, fun d8 l8 hd8 _ hp8 => ?_⟩
      obtain ⟨cs, rfl, hcs⟩ : ∃ cs, d8 = .tup cs ∧ CellsOk 100 d8 := by
        obtain ⟨cs, e, h⟩ := hd8
        exact ⟨cs, e, CellsOk.le ⟨cs, e, h⟩ (by omega)⟩
      walk_at "pp"
      refine ask_drawn 0 ?_
      walk_at "pp"
      refine ⟨(), l8, n + 1 + 500 * i + 30 + 1 + 100, rfl, rfl, hp8, by omega, trivial, rfl, fun d9 l9 hd9 _ hp9 => ?_⟩
      obtain ⟨x9, rfl, hx9⟩ := hd9
      walk_at "pp"
      refine ask_drawn 0 ?_
      walk_at "pp"
      refine ⟨(), l9, n + 1 + 500 * i + 30 + 1 + 100 + 10, rfl, rfl, hp9, by omega, trivial, rfl, fun d10 l10 hd10 _ hp10 => ?_⟩
      obtain ⟨y9, rfl, hy9⟩ := hd10
      walk_at "pp"
      refine mm_append (l := bk) rfl (by omega) ?_
      walk_at "pp"
      refine ⟨l10, bk ++ [.tup [.str t, .tup cs, .str x9, .str y9]], _, _, _, _, rfl, rfl, hp10.le (by omega), by rw [List.length_append]; show bk.length + 1 ≤ _; omega, by omega, fun d hd => ?_⟩
      rcases List.mem_append.mp hd with hd | hd
      · exact hgd d hd
      · rw [List.mem_singleton.mp hd]
        exact good_of ht h0 hcs hx9 hy9
  · rintro δ μ ⟨p, bk, x0, y0, z0, w0, rfl, rfl, hp2, hbk, hiv, hgd⟩
    rw [rng_len] at hp2 hbk
    have hbc : D.ltL 0 bk = true := D.ltL_all.mpr fun d hd => (hgd d hd).cl
    have hp3 : PuOk (n + 50000) p := hp2.le (by omega)
    have hbk : bk.length ≤ 40 := by omega
    clear hp2 hiv
    refine se_less (ε := [some (.own 0), some (.lst (ss.map sg1)), none, some (.own 1), none, none, none, none]) (.keep (.keep (.drop (.keep (.drop (.drop (.drop (.drop .nil)))))))) ?_
    refine se_shut 1 (by rw [hS]; exact Nat.le_refl _) rfl ?_
    have e1 : ∀ g, D.subL g (ss.map sg1) = ss.map sg1 := fun g => subL_cl sgs_cl
    have e2 : ∀ g, D.subL g p = p := fun g => subL_cl hp3.cl
    show SE K S _ [some (.own 0), some (.lst (D.subL _ (ss.map sg1))), none, some (.lst bk), none, none, none, none] [.lst (D.subL _ p), .off] _
    rw [e1, e2]
    have hS2 : ∀ (m : Nat) (l2 bk2 : List D), GoodB bk2 → PuOk m l2 → m ≤ n + 100000 → Gave S (fun d μ => (∃ l, d = .lst l ∧ GoodB l) ∧ d.lt 0 = true ∧ ∃ l', μ = [.lst l'] ∧ PuOk (n + 100000) l') (.lst bk2) [.lst l2, .off] := fun m l2 bk2 hg hp hm => gave_drawn (n := n + 100000) (P := fun d => ∃ l, d = .lst l ∧ GoodB l) hS hg.cl ⟨bk2, rfl, hg⟩ (hp.le hm)
    walk_at "pp"
    refine ask_draw 0 ?_
    walk_at "pp"
    refine ⟨4, p, n + 50000, rfl, rfl, hp3, by omega, by decide, by decide, fun v6 l6 hv6 hp6 => ?_⟩
    walk_at "pp"
    refine ⟨fun hb => ?_, fun hb => ?_⟩
    · walk_at "pp"
      refine ee_lcW (n := n + 50001) (c := 200) (ρ := [.off]) (Q := Good) (fun m => rfl) (fun d h => h.cl) (ie_list ?_)
      walk_at "pp"
      refine ⟨ss.map sg1, .inl rfl, rfl, l6, rfl, hp6, by rw [List.length_map]; omega, fun i2 x2 acc l7 hx2 hp7 => ?_, fun acc l7 hlen hq7 hp7 => ?_⟩
      · have hi2 := (List.getElem?_eq_some_iff.mp hx2).1
        rw [List.length_map] at hi2
        obtain ⟨c, hc, rfl⟩ := List.mem_map.mp (List.mem_of_getElem? hx2)
        refine gw_name (by decide) ?_
        walk_at "pp"
        refine ask_drawn 0 ?_
        walk_at "pp"
        refine ⟨2, l7, n + 50001 + 200 * i2, rfl, rfl, hp7, by omega, ⟨by decide, by decide⟩, rfl, fun d8 l8 hd8 _ hp8 => ?_⟩
        obtain ⟨cs, rfl, hcs⟩ : ∃ cs, d8 = .tup cs ∧ CellsOk 100 d8 := by
          obtain ⟨cs, e, h⟩ := hd8
          exact ⟨cs, e, CellsOk.le ⟨cs, e, h⟩ (by decide)⟩
        walk_at "pp"
        refine ⟨?_, hp8.le (by omega)⟩
        exact good_of (t := ⟨#[c]⟩) (x := Str.ofString "any") (y := Str.ofString "any") ⟨by show 1 ≤ 100; decide, fun z hz => by rw [List.mem_singleton.mp (show z ∈ [c] from hz)]; exact ssc c hc⟩ (by show 0 < 1; decide) hcs (by decide +kernel) (by decide +kernel)
      · rw [List.length_map] at hlen hp7
        refine oo_addL (by omega) ?_
        walk_at "pp"
        refine ss_lst ?_
        have ec : cutD (bk ++ acc) none (some (40 : Int)) = (bk ++ acc).take 40 := by
          show ((bk ++ acc).drop 0).take (HT.sIx (bk ++ acc).length (bk ++ acc).length (some (40 : Int)) - 0) = _
          rw [show (40 : Int) = ((40 : Nat) : Int) from rfl, HT.sIx_nat, List.drop_zero, Nat.sub_zero]
          by_cases hj : 40 ≤ (bk ++ acc).length
          · rw [Nat.min_eq_left hj]
          · rw [List.take_of_length_le (by omega), List.take_of_length_le (by omega)]
        walk_at "pp"
        rw [ec]
        walk_at "gp"
        refine hS2 _ _ _ ⟨by rw [List.length_take]; omega, fun d hd => ?_⟩ hp7 (by omega)
        rcases List.mem_append.mp (List.mem_of_mem_take hd) with hd | hd
        · exact hgd d hd
        · exact hq7 d hd
    · walk_at "pp"
      walk_at "gp"
      exact hS2 _ _ _ ⟨by omega, hgd⟩ hp6 (by omega)
end


section
variable {P : Program} {w : World} {K : PySem.W.Frag} {mg : Str → Option Value} {base : Heap} {a : Ad} {f : Addr} {fd : FuncData}
abbrev spTextOf (K : PySem.W.Frag) : Sp := spDrawn K 100000000 (T := List Nat × Nat) (fun t => [.lst (t.1.map sg1), .int (t.2 : Int)]) (fun t => Signs t.1 ∧ t.2 ≤ 100) (fun t d => ∃ s, d = .str s ∧ Printed 100 s) 1000
abbrev st__law_written_text : Stmt := top 62
abbrev nm__law_written_text : List Str := ["purse", "signs", "most", "some", "many", "piece", "turn"]
theorem sc__law_written_text : FnScope nm__law_written_text ["purse", "signs", "most"] (defScope st__law_written_text) := ⟨rfl, rfl, rfl, by decide +kernel, rfl, by decide +kernel, by decide +kernel⟩
theorem ok_written_text (F : Fun K "_law_written_text" "_law_written_text" st__law_written_text f fd) (T : Tx P w K mg base a) (c__law_one_of : CalX P w K mg base 3 "_law_one_of" ["purse", "some"] (spOneOf K)) (c__law_draw : CalX P w K mg base 2 "_law_draw" ["purse", "many"] (spDraw K)) : FnOk P w K mg base (L2.CX P w) 4 f fd ["purse", "signs", "most"] (spTextOf K) := by
  refine F.okX sc__law_written_text (fun vs H Q E h => pro_len h fun _ => rfl) (fun cdv A outer s H vs Q E hr h => ⟨_, (pss_cons (ps_set (i := 3) sc__law_written_text.nd rfl (by first | exact Or.inl rfl | exact Or.inr rfl) (pe_op (kO K rPlus rfl op_plus) (pv 1) (pe_op op_timesU (pe_lst (pa_cons pe_str pa_nil)) (pe_callTy call_int1 (by rfl) T.b_int (by decide +kernel) (pa_cons (pe_cmpR (kO K rEqU rfl (op_eqU (hu64 hr))) (pe_c c__law_draw hr (by first | decide | exact Nat.le_refl _) rfl (passes_call (takes_of rfl rfl rfl rfl) (fun _ _ _ _ h => h)) (pa_cons (pv 0) (pa_cons pe_int pa_nil))) pe_int (nomark _)) pa_nil)))))
    (pss_cons (ps_set (i := 4) sc__law_written_text.nd rfl (by first | exact Or.inl rfl | exact Or.inr rfl) (pe_c c__law_draw hr (by first | decide | exact Nat.le_refl _) rfl (passes_call (takes_of rfl rfl rfl rfl) (fun _ _ _ _ h => h)) (pa_cons (pv 0) (pa_cons (pe_op (kO K rPlus rfl op_plus) (pe_ix (kX K rIx rfl ix_seq) (pe_lst (pa_cons pe_int (pa_cons pe_int (pa_cons (pv 2) pa_nil)))) (pe_c c__law_draw hr (by first | decide | exact Nat.le_refl _) rfl (passes_call (takes_of rfl rfl rfl rfl) (fun _ _ _ _ h => h)) (pa_cons (pv 0) (pa_cons pe_int pa_nil))) (fun _ _ => rfl)) pe_int) pa_nil))))
    (pss_cons (ps_set (i := 5) sc__law_written_text.nd rfl (by first | exact Or.inl rfl | exact Or.inr rfl) (pe_joinK (K := K) rfl pe_str (pe_lc (own := [("turn", 6)]) (tt := tYes) (g := (gName 6)) rfl sc__law_written_text.nd (pi_range1 rfl T.b_range (pa_cons (pe_callB (call_min2 rfl) (by rfl) T.b_min (by decide +kernel) (pa_cons (pv 4) (pa_cons pe_int pa_nil))) pa_nil)) (blkOk_by (own := [("turn", 6)]) (N := nm__law_written_text) (sc := (defScope st__law_written_text)) (by decide +kernel)) (fun _ _ _ _ _ => (pg_name (i := 6) sc__law_written_text.nd rfl (by first | exact Or.inl rfl | exact Or.inr rfl))) (fun _ _ _ _ _ => pts_nil) (fun _ _ _ _ _ => (pe_c c__law_one_of hr (by first | decide | exact Nat.le_refl _) rfl passL (pa_cons (pv 0) (pa_cons (pv 3) pa_nil)))))))
    (pss_one (ps_ret (pe_slice (kS K rSlU rfl sl_U) (pe_op op_timesU (pv 5) (pe_op (kO K rPlus rfl op_plus) pe_int (pe_op op_fdivW (pv 4) (pe_callB (call_max2 rfl) (by rfl) T.b_max (by decide +kernel) (pa_cons pe_int (pa_cons (pe_callB (kC K rLenU rfl call_lenU) (by rfl) T.b_len (by decide +kernel) (pa_cons (pv 5) pa_nil)) pa_nil)))))) po_none (po_some (pv 4)))))))), run_body h fun ⟨l, n, ss, most⟩ S ⟨hp, hn, ⟨hss, hmost⟩, _⟩ hl hcl wi => ?_⟩)
  have hp : PuOk n l := hp
  have hn : n ≤ 100000000 := hn
  have hss : Signs ss := hss
  have hmost : most ≤ 100 := hmost
  have hS : S.A.length = 1 := hl
  obtain ⟨ss0, ss6, ssc⟩ := hss
  refine se_seq (se_to (fun δ μ => ∃ (sm p : List D), δ = [some (.own 0), some (.lst (ss.map sg1)), some (.int (most : Int)), some (.lst sm), none, none, none] ∧ μ = [.lst p] ∧ PuOk (n + 1) p ∧ 0 < sm.length ∧ sm.length ≤ 10 ∧ ∀ x ∈ sm, One x) ?_ ?_)
  · walk_at "pp"
    refine ee_lst ?_
    walk_at "pp"
    refine ask_draw 0 ?_
    walk_at "pp"
    refine ⟨3, l, n, rfl, rfl, hp, by omega, by decide, by decide, fun v l1 hv hp1 => ?_⟩
    walk_at "pp"
    refine cc_intB ?_
    cases hb : decide (V.int (v : Int) = V.int 0) with
    | true =>
      refine oo_repL (n := 1) (by decide) (Nat.le_of_ble_eq_true rfl) ?_
      refine oo_addL (by rw [List.length_map]; show ss.length + 1 ≤ _; omega) ?_
      walk_at "pp"
      refine ⟨ss.map sg1 ++ [sg1 107], l1, rfl, rfl, hp1, by rw [List.length_append]; exact Nat.succ_pos _, by rw [List.length_append, List.length_map]; show ss.length + 1 ≤ 10; omega, fun x hx => ?_⟩
      rcases List.mem_append.mp hx with hx | hx
      · exact sgs_one ssc x hx
      · exact ⟨107, List.mem_singleton.mp hx, by decide⟩
    | false =>
      refine oo_repL (n := 0) (by decide) (Nat.le_of_ble_eq_true rfl) ?_
      refine oo_addL (by rw [List.length_map]; show ss.length + 0 ≤ _; omega) ?_
      walk_at "pp"
      refine ⟨ss.map sg1, l1, by rw [show (List.replicate 0 [D.v (V.str (Str.ofString "k"))]).flatten = [] from rfl, List.append_nil]; rfl, rfl, hp1, by rw [List.length_map]; exact ss0, by rw [List.length_map]; omega, sgs_one ssc⟩
  rintro δ μ ⟨sm, l1, rfl, rfl, hp1, sm0, sm10, smc⟩
  have smcl : D.ltL 0 sm = true := D.ltL_all.mpr fun x hx => (smc x hx).cl
  walk_at "pp"
  refine ask_draw 0 ?_
  walk_at "pp"
  refine ee_lst ?_
  walk_at "pp"
  refine ask_draw 0 ?_
  walk_at "pp"
  refine ⟨3, l1, n + 1, rfl, rfl, hp1, by omega, by decide, by decide, fun v2 l2 hv2 hp2 => ?_⟩
  obtain ⟨q, hq, q0, q1⟩ : ∃ q : Nat, atI [D.int 9, .int 30, .int (most : Int)] (v2 : Int) = some (.int (q : Int)) ∧ 0 ≤ q ∧ q ≤ 100 := by
    have : v2 ∈ [0, 1, 2] := by simp; omega
    simp only [List.mem_cons, List.not_mem_nil, or_false] at this
    rcases this with rfl | rfl | rfl
    · exact ⟨9, rfl, by decide, by decide⟩
    · exact ⟨30, rfl, by decide, by decide⟩
    · exact ⟨most, rfl, by omega, hmost⟩
  refine oo_ixL hq ?_
  walk_at "pp"
  refine ⟨(q : Int) + 1, l2, n + 2, rfl, rfl, hp2, by omega, by omega, by omega, fun many l3 hv3 hp3 => ?_⟩
  have hmany : many ≤ 100 := by omega
  walk_at "pp"
  refine ee_m1 ?_
  walk_at "pp"
  refine ee_lcW (n := n + 3) (c := 1) (ρ := []) (Q := One) (fun m => rfl) (fun d h => h.cl) (ie_rng1 ?_)
  walk_at "pp"
  have em : (if (60 : Int) < (many : Int) then (60 : Int) else (many : Int)) = ((min many 60 : Nat) : Int) := by split <;> omega
  rw [em]
  refine ⟨by omega, by omega, rfl, l3, rfl, hp3, by rw [rng_len]; omega, fun i x acc l4 hx hp4 => ?_, fun acc l4 hlen hq4 hp4 => ?_⟩
  · have hi := (rng_get hx).1
    refine gw_name (by decide) ?_
    refine ask_one 0 ?_
    walk_at "pp"
    refine ⟨.lst sm, l4, n + 3 + 1 * i, rfl, rfl, hp4, by omega, .inl ⟨_, rfl, sm0, by omega, smcl⟩, smcl, fun d l5 hpick _ hp5 => ?_⟩
    cases hpick with
    | lst hm => exact ⟨l5, rfl, smc _ hm, hp5⟩
  rw [rng_len] at hlen hp4
  have hlen : acc.length = min many 60 := by omega
  have hp4 : PuOk (n + 1000) l4 := hp4.le (by omega)
  obtain ⟨j1, j2⟩ := joinL_ok hq4
  have es := ones_str hq4
  rw [es]
  refine mm_join (.lst _) (by rw [ones_size hq4]; omega) ?_
  have fold : Txt.join (Str.ofString "") (acc.map strOf) = joinL acc := rfl
  rw [fold]
  generalize joinL acc = t at j1 j2
  walk_at "pp"
  refine cc_lenS (by rw [len_cp]; omega) ?_
  walk_at "pp"
  have e1 : (if ((t.length : Nat) : Int) > 1 then ((t.length : Nat) : Int) else 1) = ((max 1 (cp t).length : Nat) : Int) := by
    rw [len_cp]
    split <;> omega
  rw [e1]
  refine oo_div (wide_div (by omega) (b := 40) (by omega) (by decide) (by decide)) ?_
  walk_at "pp"
  have e2 : (1 : Int) + (many : Int) / ((max 1 (cp t).length : Nat) : Int) = ((1 + many / max 1 (cp t).length : Nat) : Int) := by
    rw [Int.natCast_add, Int.natCast_ediv]
    rfl
  rw [e2]
  have hd : many / max 1 (cp t).length ≤ many := Nat.div_le_self _ _
  have hm3 : (cp t).length * (1 + many / max 1 (cp t).length) ≤ 10000 := by
    have q1 : max 1 (cp t).length * (many / max 1 (cp t).length) ≤ many := Nat.mul_div_le _ _
    have q2 : (cp t).length * (many / max 1 (cp t).length) ≤ max 1 (cp t).length * (many / max 1 (cp t).length) := Nat.mul_le_mul_right _ (by omega)
    rw [Nat.mul_add]
    omega
  refine oo_mulS (mul_ok (by omega) (by rw [len_cp]; omega)) ?_
  have eml : (cp (Txt.mul t ((1 + many / max 1 (cp t).length : Nat) : Int))) = (List.replicate (1 + many / max 1 (cp t).length) (cp t)).flatten := cp_mul t _
  walk_at "pp"
  refine ss_str (by rw [len_cp, eml, List.length_flatten, List.map_replicate, List.sum_replicate_nat, Nat.mul_comm]; omega) ?_
  walk_at "gp"
  refine gave_drawn (n := n + 1000) hS (by rfl) ⟨_, rfl, ?_, fun c hc => ?_⟩ hp4
  · rw [cutS_0n, List.length_take]
    omega
  · rw [cutS_0n, eml] at hc
    obtain ⟨m, hm, hc⟩ := List.mem_flatten.mp (List.mem_of_mem_take hc)
    rw [(List.mem_replicate.mp hm).2] at hc
    exact j2 c hc
end


section
variable {P : Program} {w : World} {K : PySem.W.Frag} {mg : Str → Option Value} {base : Heap} {a : Ad} {f : Addr} {fd : FuncData}
theorem cutD_0n {l : List D} {j : Nat} : cutD l none (some (j : Int)) = l.take j := by
  show (l.drop 0).take (HT.sIx l.length l.length (some (j : Int)) - 0) = _
  rw [HT.sIx_nat, List.drop_zero, Nat.sub_zero]
  by_cases hj : j ≤ l.length
  · rw [Nat.min_eq_left hj]
  · rw [List.take_of_length_le (by omega), List.take_of_length_le (by omega)]
theorem cutD_n0 {l : List D} {j : Nat} : cutD l (some (j : Int)) none = l.drop j := by
  show (l.drop (HT.sIx l.length 0 (some (j : Int)))).take (l.length - HT.sIx l.length 0 (some (j : Int))) = _
  rw [HT.sIx_nat, List.take_of_length_le (by rw [List.length_drop]; omega)]
  by_cases hi : j ≤ l.length
  · rw [Nat.min_eq_left hi]
  · rw [List.drop_of_length_le (by omega : l.length ≤ j), List.drop_of_length_le (by omega)]
def txtB (x : D) : Bool := x.pl && (match x with | .v (.str s) => decide ((cp s).length ≤ 100000) | _ => true)
def intbB : D → Bool
  | .v (.int _) => true
  | .v (.bl _) => true
  | _ => false
def cellTB (y : D) : Bool := y.pl && (match y with | .tup l => decide (l.length ≤ 100000) && l.all intbB | _ => true)
def rulB (d : D) : Bool := d.lt 0 && (d.pl && (match d with | .tup [x, y, z, w] => txtB x && (cellTB y && (z.pl && w.pl)) | _ => true))
theorem and2 {b c : Bool} (h : (b && c) = true) : b = true ∧ c = true := Bool.and_eq_true_iff.mp h
theorem txtB_pre {x : D} (h : txtB x = true) : TxtPre x := by
  obtain ⟨h1, h2⟩ := and2 h
  exact ⟨h1, fun s e => by subst e; exact of_decide_eq_true h2⟩
theorem rulB_pre {d : D} (h : rulB d = true) : RulPre d := by
  obtain ⟨h1, h⟩ := and2 h
  obtain ⟨h2, h3⟩ := and2 h
  refine ⟨h1, h2, fun x y z w' e => ?_⟩
  subst e
  obtain ⟨q1, q⟩ := and2 h3
  obtain ⟨q2, q⟩ := and2 q
  obtain ⟨q3, q4⟩ := and2 q
  obtain ⟨r1, r2⟩ := and2 q2
  refine ⟨txtB_pre q1, ⟨r1, fun l e => ?_⟩, q3, q4⟩
  subst e
  obtain ⟨s1, s2⟩ := and2 r2
  refine ⟨of_decide_eq_true s1, fun c hc => ?_⟩
  have := List.all_eq_true.mp s2 c hc
  cases c with
  | v x =>
    cases x with
    | int i => exact .inl ⟨i, rfl⟩
    | bl b => exact .inr ⟨b, rfl⟩
    | _ => cases this
  | _ => cases this
theorem cells_ex {l : List D} (h : ∀ c ∈ l, ∃ i : Int, c = .int i ∧ 0 ≤ i ∧ i < 64) {n : Nat} : l.all (fun x => exOk (n + 1) x) = true := List.all_eq_true.mpr fun x hx => by
  obtain ⟨i, rfl, _⟩ := h x hx
  rfl
theorem good_ex {d : D} (h : Good d) {n : Nat} : exOk (n + 3) d = true := by
  rw [h.eq]
  have e : exOk (n + 2) (.tup (rC d)) = true := by
    show (decide ((rC d).length ≤ 1000000) && (rC d).all (fun x => exOk (n + 1) x)) = true
    rw [cells_ex h.cc, decide_eq_true (by have := h.c1; omega)]
    rfl
  show (true && (exOk (n + 2) (.str (rT d)) && (exOk (n + 2) (.tup (rC d)) && (exOk (n + 2) (.str (rX d)) && (exOk (n + 2) (.str (rY d)) && true))))) = true
  rw [e]
  rfl
theorem good_cp {d : D} (h : Good d) {n : Nat} : cpOk (n + 3) d = true := by
  rw [h.eq]
  have e : cpOk (n + 2) (.tup (rC d)) = true := by
    show (decide ((rC d).length ≤ 1000000) && (rC d).all (fun x => cpOk (n + 1) x)) = true
    rw [decide_eq_true (by have := h.c1; omega), Bool.true_and, List.all_eq_true]
    intro x hx
    obtain ⟨i, rfl, _⟩ := h.cc x hx
    rfl
  show (true && (cpOk (n + 2) (.str (rT d)) && (cpOk (n + 2) (.tup (rC d)) && (cpOk (n + 2) (.str (rX d)) && (cpOk (n + 2) (.str (rY d)) && true))))) = true
  rw [e]
  rfl
theorem goods_ex {l : List D} (h : GoodB l) {n : Nat} : exOk (n + 4) (.lst l) = true := by
  show (decide (l.length ≤ 1000000) && l.all (fun x => exOk (n + 3) x)) = true
  rw [decide_eq_true (by have := h.1; omega), Bool.true_and, List.all_eq_true]
  exact fun d hd => good_ex (h.2 d hd)
theorem goods_cp {l : List D} (h : GoodB l) {n : Nat} : cpOk (n + 4) (.lst l) = true := by
  show (decide (l.length ≤ 1000000) && l.all (fun x => cpOk (n + 3) x)) = true
  rw [decide_eq_true (by have := h.1; omega), Bool.true_and, List.all_eq_true]
  exact fun d hd => good_cp (h.2 d hd)
/-- no book, and may be asked -/
structure NoBook (x : D) : Prop where
  b : BokPre x
  no : isBook x = false
  cl : x.lt 0 = true
  ex : exOk 5 x = true
def oddB (r : D) : Bool := rulB r && (!isRule r && exOk 4 r)
theorem bent_no {l : List D} {x : D} {k : Nat} (hg : GoodB l) (hx : oddB x = true) : NoBook (.lst (l.take k ++ [x] ++ l.drop k)) := by
  obtain ⟨h1, h⟩ := and2 hx
  obtain ⟨h2, h3⟩ := and2 h
  have hr := rulB_pre h1
  have hm : ∀ y ∈ l.take k ++ [x] ++ l.drop k, y ∈ l ∨ y = x := fun y hy => by
    rcases List.mem_append.mp hy with hy | hy
    · rcases List.mem_append.mp hy with hy | hy
      · exact .inl (List.mem_of_mem_take hy)
      · exact .inr (List.mem_singleton.mp hy)
    · exact .inl (List.mem_of_mem_drop hy)
  have hlen : (l.take k ++ [x] ++ l.drop k).length ≤ 300 := by
    rw [List.length_append, List.length_append, List.length_take, List.length_drop, List.length_singleton]
    have := hg.1
    omega
  refine ⟨⟨rfl, fun m e => ?_⟩, ?_, D.ltL_all.mpr fun y hy => ?_, ?_⟩
  · injection e with e
    subst e
    refine ⟨by omega, fun r hr2 => ?_⟩
    rcases hm r hr2 with h | rfl
    · exact (hg.2 r h).rul
    · exact hr
  · show (l.take k ++ [x] ++ l.drop k).all isRule = false
    cases q : (l.take k ++ [x] ++ l.drop k).all isRule with
    | false => rfl
    | true =>
      have := List.all_eq_true.mp q x (List.mem_append_left _ (List.mem_append_right _ (List.mem_singleton.mpr rfl)))
      rw [this] at h2
      cases h2
  · rcases hm y hy with h | rfl
    · exact (hg.2 y h).cl
    · exact hr.1
  · show (decide ((l.take k ++ [x] ++ l.drop k).length ≤ 1000000) && (l.take k ++ [x] ++ l.drop k).all (fun x => exOk 4 x)) = true
    rw [decide_eq_true (by omega), Bool.true_and, List.all_eq_true]
    intro y hy
    rcases hm y hy with h | rfl
    · exact good_ex (hg.2 y h)
    · exact h3
theorem tup_no {l : List D} (hg : GoodB l) : NoBook (.tup l) := by
  refine ⟨⟨rfl, fun m e => by cases e⟩, rfl, hg.cl, ?_⟩
  show (decide (l.length ≤ 1000000) && l.all (fun x => exOk 4 x)) = true
  rw [decide_eq_true (by have := hg.1; omega), Bool.true_and, List.all_eq_true]
  exact fun d hd => good_ex (hg.2 d hd)
abbrev spNoBooks (K : PySem.W.Frag) : Sp := spDrawn K 100000000 (T := List D) (fun l => [.lst l]) GoodB (fun _ d => ∃ xs, d = .lst xs ∧ 0 < xs.length ∧ xs.length ≤ 100 ∧ ∀ x ∈ xs, NoBook x) 10
abbrev st__law_no_books : Stmt := top 65
abbrev nm__law_no_books : List Str := ["purse", "book", "rules", "at", "rule"]
theorem sc__law_no_books : FnScope nm__law_no_books ["purse", "book"] (defScope st__law_no_books) := ⟨rfl, rfl, rfl, by decide +kernel, rfl, by decide +kernel, by decide +kernel⟩
theorem ok_no_books (F : Fun K "_law_no_books" "_law_no_books" st__law_no_books f fd) (T : Tx P w K mg base a) (c__law_draw : CalX P w K mg base 2 "_law_draw" ["purse", "many"] (spDraw K)) : FnOk P w K mg base (L2.CX P w) 3 f fd ["purse", "book"] (spNoBooks K) := by
  refine F.okX sc__law_no_books (fun vs H Q E h => pro_len h fun _ => rfl) (fun cdv A outer s H vs Q E hr h => ⟨_, (pss_cons (ps_set (i := 2) sc__law_no_books.nd rfl (by first | exact Or.inl rfl | exact Or.inr rfl) (pe_lst (pa_cons pe_int (pa_cons pe_non (pa_cons (pe_tup (pa_cons pe_str (pa_cons (pe_tup (pa_cons pe_int pa_nil)) (pa_cons pe_str (pa_cons pe_str pa_nil))))) (pa_cons (pe_tup (pa_cons pe_str (pa_cons (pe_tup pa_nil) (pa_cons pe_str (pa_cons pe_str pa_nil))))) (pa_cons (pe_tup (pa_cons pe_str (pa_cons (pe_lst (pa_cons pe_int pa_nil)) (pa_cons pe_str (pa_cons pe_str pa_nil))))) (pa_cons (pe_tup (pa_cons pe_str (pa_cons (pe_tup (pa_cons pe_int pa_nil)) (pa_cons pe_str (pa_cons pe_str pa_nil))))) pa_nil))))))))
    (pss_cons (ps_set (i := 2) sc__law_no_books.nd rfl (by first | exact Or.inl rfl | exact Or.inr rfl) (pe_op (kO K rPlus rfl op_plus) (pv 2) (pe_lst (pa_cons (pe_tup (pa_cons pe_str (pa_cons (pe_tup (pa_cons (pe_un un_neg pe_int) pa_nil)) (pa_cons pe_str (pa_cons pe_str pa_nil))))) (pa_cons (pe_tup (pa_cons pe_str (pa_cons (pe_tup (pa_cons pe_bl pa_nil)) (pa_cons pe_str (pa_cons pe_str pa_nil))))) (pa_cons (pe_tup (pa_cons pe_str (pa_cons (pe_tup (pa_cons pe_int pa_nil)) (pa_cons pe_str pa_nil)))) (pa_cons (pe_tup (pa_cons pe_str (pa_cons (pe_tup (pa_cons pe_int pa_nil)) (pa_cons pe_str (pa_cons pe_str pa_nil))))) pa_nil)))))))
    (pss_cons (ps_set (i := 2) sc__law_no_books.nd rfl (by first | exact Or.inl rfl | exact Or.inr rfl) (pe_op (kO K rPlus rfl op_plus) (pv 2) (pe_lst (pa_cons (pe_lst (pa_cons pe_str (pa_cons (pe_tup (pa_cons pe_int pa_nil)) (pa_cons pe_str (pa_cons pe_str pa_nil))))) (pa_cons (pe_tup (pa_cons pe_str (pa_cons (pe_tup (pa_cons pe_int pa_nil)) (pa_cons pe_non (pa_cons pe_str pa_nil))))) (pa_cons (pe_tup (pa_cons pe_str (pa_cons (pe_tup (pa_cons pe_int pa_nil)) (pa_cons pe_str (pa_cons pe_str pa_nil))))) (pa_cons (pe_tup (pa_cons pe_int (pa_cons (pe_tup (pa_cons pe_int pa_nil)) (pa_cons pe_str (pa_cons pe_str pa_nil))))) pa_nil)))))))
    (pss_cons (ps_set (i := 3) sc__law_no_books.nd rfl (by first | exact Or.inl rfl | exact Or.inr rfl) (pe_c c__law_draw hr (by first | decide | exact Nat.le_refl _) rfl (passes_call (takes_of rfl rfl rfl rfl) (fun _ _ _ _ h => h)) (pa_cons (pv 0) (pa_cons (pe_op (kO K rPlus rfl op_plus) (pe_callB (kC K rLenU rfl call_lenU) (by rfl) T.b_len (by decide +kernel) (pa_cons (pv 1) pa_nil)) pe_int) pa_nil))))
    (pss_one (ps_ret (pe_op (kO K rPlus rfl op_plus) (pe_lc (own := [("rule", 4)]) (tt := tYes) (g := (gName 4)) rfl sc__law_no_books.nd (pi_listK (K := K) rfl (pv 2)) (blkOk_by (own := [("rule", 4)]) (N := nm__law_no_books) (sc := (defScope st__law_no_books)) (by decide +kernel)) (fun _ _ _ _ _ => (pg_name (i := 4) sc__law_no_books.nd rfl (by first | exact Or.inl rfl | exact Or.inr rfl))) (fun _ _ _ _ _ => pts_nil) (fun _ _ _ _ _ => (pe_op (kO K rPlus rfl op_plus) (pe_op (kO K rPlus rfl op_plus) (pe_slice (kS K rSlU rfl sl_U) (pv 1) po_none (po_some (pv 3))) (pe_lst (pa_cons (pv 4) pa_nil))) (pe_slice (kS K rSlU rfl sl_U) (pv 1) (po_some (pv 3)) po_none)))) (pe_lst (pa_cons pe_non (pa_cons (pe_callTy (kC K rTupOf rfl call_tupOf) (by rfl) T.b_tuple (by decide +kernel) (pa_cons (pv 1) pa_nil)) (pa_cons pe_str (pa_cons pe_dnewK pa_nil)))))))))))), run_body h fun ⟨p, n, l⟩ S ⟨hp, hn, hg, _⟩ hl hcl wi => ?_⟩)
  have hp : PuOk n p := hp
  have hn : n ≤ 100000000 := hn
  have hg : GoodB l := hg
  have hlz := hg.1
  have hS : S.A.length = 1 := hl
  walk_at "pp"
  refine ee_lst ?_
  walk_at "pp"
  refine ee_lst ?_
  walk_at "pp"
  refine ee_lst ?_
  walk_at "pp"
  refine oo_addL (Nat.le_of_ble_eq_true rfl) ?_
  walk_at "pp"
  refine ee_lst ?_
  walk_at "pp"
  refine ee_lst ?_
  walk_at "pp"
  refine oo_addL (Nat.le_of_ble_eq_true rfl) ?_
  walk_at "pp"
  refine ask_draw 0 ?_
  walk_at "pp"
  refine cc_len (.lst _) ?_
  walk_at "pp"
  refine ⟨(l.length : Int) + 1, p, n, rfl, rfl, hp, by omega, by omega, by omega, fun k l1 hk hp1 => ?_⟩
  walk_at "pp"
  refine ee_lc (ie_list ?_)
  walk_at "pp"
  refine ⟨_, .inl rfl, fun _ h => h, trivial, fun _ => true, fun x => .lst (l.take k ++ [x] ++ l.drop k), Nat.le_of_ble_eq_true rfl, fun x hx _ => ?_, fun x acc hx => ?_, ?_⟩
  · have hob : oddB x = true := by
      simp only [List.cons_append, List.nil_append, List.mem_cons, List.not_mem_nil, or_false] at hx
      rcases hx with rfl | rfl | rfl | rfl | rfl | rfl | rfl | rfl | rfl | rfl | rfl | rfl | rfl | rfl <;> decide +kernel
    exact D.lt_mono (Nat.zero_le _) (bent_no hg hob).cl
  · refine gw_name (by decide) ?_
    refine et_yes ?_
    refine ⟨rfl, rfl, fun _ => ?_⟩
    walk_at "pp"
    refine ss_lst ?_
    rw [cutD_0n]
    walk_at "pp"
    refine ee_lst ?_
    walk_at "pp"
    refine oo_addL (by rw [List.length_take, List.length_singleton]; omega) ?_
    walk_at "pp"
    refine ss_lst ?_
    rw [cutD_n0]
    refine oo_addL (by show (l.take k ++ [x]).length + (l.drop k).length ≤ _; rw [List.length_append, List.length_take, List.length_drop, List.length_singleton]; omega) ?_
    exact ⟨rfl, rfl⟩
  rw [List.filter_eq_self.mpr fun _ _ => rfl]
  walk_at "pp"
  refine ee_lst ?_
  walk_at "pp"
  refine cc_tuple (.lst _) ?_
  walk_at "pp"
  refine ee_dnew ?_
  walk_at "pp"
  refine oo_addL (by rw [List.length_map]; exact Nat.le_of_ble_eq_true rfl) ?_
  walk_at "gp"
  have fin : ∀ xs : List D, (∀ x ∈ xs, NoBook x) → 0 < xs.length ∧ xs.length ≤ 100 → Gave S (fun d μ => (∃ xs, d = .lst xs ∧ 0 < xs.length ∧ xs.length ≤ 100 ∧ ∀ x ∈ xs, NoBook x) ∧ d.lt 0 = true ∧ ∃ l', μ = [.lst l'] ∧ PuOk (n + 10) l') (.lst xs) [.lst l1] := fun xs h hz => gave_drawn (n := n + 10) (P := fun d => ∃ xs, d = .lst xs ∧ 0 < xs.length ∧ xs.length ≤ 100 ∧ ∀ x ∈ xs, NoBook x) hS (D.ltL_all.mpr fun x hx => (h x hx).cl) ⟨xs, rfl, hz.1, hz.2, h⟩ (hp1.le (by omega))
  refine fin _ (fun x hx => ?_) ⟨by rw [List.length_append]; exact Nat.le_trans (Nat.succ_pos 3) (Nat.le_add_left _ _), by rw [List.length_append, List.length_map]; exact Nat.le_of_ble_eq_true rfl⟩
  rcases List.mem_append.mp hx with hx | hx
  · obtain ⟨y, hy, rfl⟩ := List.mem_map.mp hx
    refine bent_no hg ?_
    simp only [List.cons_append, List.nil_append, List.mem_cons, List.not_mem_nil, or_false] at hy
    rcases hy with rfl | rfl | rfl | rfl | rfl | rfl | rfl | rfl | rfl | rfl | rfl | rfl | rfl | rfl <;> decide +kernel
  · simp only [List.mem_cons, List.not_mem_nil, or_false] at hx
    rcases hx with rfl | rfl | rfl | rfl
    · exact ⟨⟨rfl, fun m e => by cases e⟩, rfl, rfl, rfl⟩
    · exact tup_no hg
    · exact ⟨⟨rfl, fun m e => by cases e⟩, rfl, rfl, rfl⟩
    · exact ⟨⟨rfl, fun m e => by cases e⟩, rfl, rfl, rfl⟩
end


section
variable {P : Program} {w : World} {K : PySem.W.Frag} {mg : Str → Option Value} {base : Heap} {a : Ad} {f : Addr} {fd : FuncData}
/-! spans cover signs and cells -/
structure Cov (s : LS) : Prop where
  r : ∀ x ∈ s.spans, ∃ i j c d : Nat, x = spanD i j c d ∧ i < j ∧ c < d ∧ d ≤ s.cells.length ∧ j ≤ s.at'
  a : ∀ k, k < s.at' → ∃ x ∈ s.spans, inS k x = true
  c : ∀ k, k < s.cells.length → ∃ x ∈ s.spans, inC k x = true
theorem cov_more {s t : LS} (h : Cov s) {p : Nat} {cs : List D} (hp : 0 < p) (hc : 0 < cs.length) (e1 : t.at' = s.at' + p) (e2 : t.cells = s.cells ++ cs) (e3 : t.spans = s.spans ++ [spanD s.at' (s.at' + p) s.cells.length (s.cells.length + cs.length)]) : Cov t := by
  refine ⟨fun x hx => ?_, fun k hk => ?_, fun k hk => ?_⟩
  · rw [e3] at hx
    rw [e1, e2, List.length_append]
    rcases List.mem_append.mp hx with hx | hx
    · obtain ⟨i, j, c, d, e, h1, h2, h3, h4⟩ := h.r x hx
      exact ⟨i, j, c, d, e, h1, h2, by omega, by omega⟩
    · exact ⟨_, _, _, _, List.mem_singleton.mp hx, by omega, by omega, Nat.le_refl _, Nat.le_refl _⟩
  · rw [e1] at hk
    rw [e3]
    by_cases q : k < s.at'
    · obtain ⟨x, h1, h2⟩ := h.a k q
      exact ⟨x, List.mem_append_left _ h1, h2⟩
    · refine ⟨_, List.mem_append_right _ (List.mem_singleton.mpr rfl), ?_⟩
      show (decide (s.at' ≤ k) && decide (k < s.at' + p)) = true
      rw [decide_eq_true (by omega), decide_eq_true hk]
      rfl
  · rw [e2, List.length_append] at hk
    rw [e3]
    by_cases q : k < s.cells.length
    · obtain ⟨x, h1, h2⟩ := h.c k q
      exact ⟨x, List.mem_append_left _ h1, h2⟩
    · refine ⟨_, List.mem_append_right _ (List.mem_singleton.mpr rfl), ?_⟩
      show (decide (s.cells.length ≤ k) && decide (k < s.cells.length + cs.length)) = true
      rw [decide_eq_true (by omega), decide_eq_true hk]
      rfl
theorem it_cov {l : List D} {L : List Nat} (hg : GoodB l) : ∀ j, Cov (it l L j)
  | 0 => ⟨fun x h => (by cases h), fun k h => absurd h (Nat.not_lt_zero k), fun k h => absurd h (Nat.not_lt_zero k)⟩
  | j + 1 => by
    have ih := it_cov (L := L) hg j
    rw [it_succ]
    split
    · unfold step
      cases e : takI l L (it l L j).at' with
      | none => exact cov_more ih (p := 1) (cs := [.int 63]) Nat.one_pos (Nat.succ_pos _) rfl rfl rfl
      | some i =>
        have g := good_at hg (takI_lt e)
        exact cov_more ih (p := tl' (l.getD i .non)) (cs := rC (l.getD i .non)) g.t0 g.c0 rfl rfl rfl
    · exact ih
theorem run_at {l : List D} {L : List Nat} (hg : GoodB l) : (run l L).at' = L.length := by
  have h := it_at hg (L := L) L.length
  rw [Nat.min_self] at h
  exact Nat.le_antisymm h.1 h.2
theorem run_sp {l : List D} {L : List Nat} (hg : GoodB l) (hz : L.length ≤ 10000) : SpOk (run l L).spans := by
  have hok : (run l L).Ok L.length := it_ok hg _
  have hv : Cov (run l L) := it_cov hg _
  have h1 := hok.c
  have h2 := hok.s'
  have h3 := run_at (L := L) hg
  refine ⟨by omega, fun x hx => ?_⟩
  obtain ⟨i, j, c, d, e, q1, q2, q3, q4⟩ := hv.r x hx
  exact ⟨i, j, c, d, e, q1, q2, by omega, by omega⟩
theorem run_sg {l : List D} {L : List Nat} (hg : GoodB l) {k : Nat} (hk : k < L.length) : ∃ x ∈ (run l L).spans, inS k x = true := (it_cov hg _).a k (by rw [show (it l L L.length).at' = L.length from run_at hg]; exact hk)
theorem run_cl {l : List D} {L : List Nat} (hg : GoodB l) {k : Nat} (hk : k < (run l L).cells.length) : ∃ x ∈ (run l L).spans, inC k x = true := (it_cov hg _).c k hk
theorem run_ce {l : List D} {L : List Nat} (hg : GoodB l) (hz : L.length ≤ 10000) : CellL (run l L).cells := by
  have hok : (run l L).Ok L.length := it_ok hg _
  have h1 := hok.c
  exact ⟨by omega, hok.cc⟩
/-! what is told: a thing, or an error with a thing -/
inductive Kd | book | text | count | width | marks
def clsK (a : Ad) : Kd → Addr
  | .book => a.eInvalidBook
  | .text => a.eInvalidText
  | .count => a.eInvalidCount
  | .width => a.eInvalidWidth
  | .marks => a.eInvalidMarks
inductive Out
  | told (d : D)
  | bad (k : Kd) (d : D)
def runOf : D → D → LS
  | .lst l, .v (.str s) => run l (cp s)
  | _, _ => LS.ini
def lenOf : D → Nat
  | .v (.str s) => (cp s).length
  | _ => 0
def laidO (b x : D) (o : Out) : Out := if isBook b = false then .bad .book b else if isTxt x = false then .bad .text x else o
def winsOf (cs : List D) (w : Nat) : List (Nat × Nat) := wins (zc cs) cs.length w
/-! marks -/
def isMark (n : Nat) : D → Bool
  | .tup [.v (.int x), .v (.int y), .v (.int z)] => (decide (0 ≤ x) && (decide (0 ≤ y) && decide (0 ≤ z))) && ((decide (x ≤ y) && decide (y ≤ (n : Int))) && (decide (1 ≤ z) && decide (z ≤ 3)))
  | _ => false
def isMarks (n : Nat) : D → Bool
  | .lst l => l.all (isMark n)
  | _ => false
def cellsN (x : D) : List Nat := List.range' (nI x 2) (nI x 3 - nI x 2)
def overS (m x : D) : Bool := decide (nI x 0 < nI m 1) && decide (nI m 0 < nI x 1)
def markedN (sp : List D) (nc size : Nat) (m : D) : List Nat := if nI m 0 < nI m 1 then (sp.filter (overS m)).flatMap cellsN else if nI m 0 < size then [ledC sp (nI m 0)] else [nc]
def ofK (s : Nat) (m : D) : Bool := decide (nI m 2 = s) || decide (nI m 2 = 3)
def placesN (sp : List D) (nc size : Nat) (ms : List D) (s : Nat) : List Nat := (ms.filter (ofK s)).flatMap (markedN sp nc size)
def baseN (cs : List D) (p : Nat × Nat) (k : Nat) : Nat := if p.1 + k < p.2 then dotN (cs.getD (p.1 + k) .non) else 0
def endN (nc w : Nat) (p : Nat × Nat) : Nat := p.2 + if p.2 = nc ∧ p.2 - p.1 < w then 1 else 0
def addN (sp : List D) (nc size : Nat) (ms : List D) (w : Nat) (p : Nat × Nat) (s by' k : Nat) : Nat := if p.1 + k < endN nc w p ∧ p.1 + k ∈ placesN sp nc size ms s then by' else 0
def shownN (cs sp : List D) (size : Nat) (ms : List D) (w : Nat) (p : Nat × Nat) (k : Nat) : Nat := baseN cs p k + addN sp cs.length size ms w p 1 64 k + addN sp cs.length size ms w p 2 128 k
def lstOf : D → List D
  | .lst l => l
  | _ => []
def winAt (ws : List (Nat × Nat)) (k : Nat) : Nat × Nat := (ws ++ [(0, 0)]).getD k (0, 0)
def ansS (b x wd wn mk : D) : Out := laidO b x (if isCtN 1 wd = false then .bad .width wd else if isInN (max (winsOf (runOf b x).cells (dotN wd)).length 1) wn = false then .bad .count wn else if isMarks (lenOf x) mk = false then .bad .marks mk else .told (.lst (kL (shownN (runOf b x).cells (runOf b x).spans (lenOf x) (lstOf mk) (dotN wd) (winAt (winsOf (runOf b x).cells (dotN wd)) (dotN wn))) (dotN wd))))
theorem laid_in {b x : D} {o : Out} (h1 : isBook b = true) (h2 : isTxt x = true) : laidO b x o = o := by
  unfold laidO
  rw [h1, h2]
  rfl
def Told (o : Out) (d : D) : Prop := o = .told d
def Bad (a : Ad) (o : Out) (c : Addr) (d : D) : Prop := ∃ k, o = .bad k d ∧ c = clsK a k
theorem laid_bad {b x : D} {o : Out} {c : Addr} {d : D} (h : LaidExc a (b, x) c d) : Bad a (laidO b x o) c d := by
  rcases h with ⟨h1, e1, e2⟩ | ⟨h1, h2, e1, e2⟩
  · have h1 : isBook b = false := h1
    exact ⟨.book, by rw [show d = b from e2]; unfold laidO; rw [if_pos h1], e1⟩
  · have h1 : isBook b = true := h1
    have h2 : isTxt x = false := h2
    exact ⟨.text, by rw [show d = x from e2]; unfold laidO; rw [if_neg (by rw [h1]; exact fun z => by cases z), if_pos h2], e1⟩
theorem ask_laidB {S : Bs} {δ : Sl} {μ : List Cell} {C : D → List Cell → Prop} {ta : TA} {E : XK} {CE : Addr → D → List Cell → Prop} {t : D × D} (ht : LaidPre t) (wi : Wi K S E CE) (h : EA K S ta δ μ fun ds μ1 => ds = [t.1, t.2] ∧ (∀ c d, LaidExc a t c d → d.lt 0 = true → CE c d μ1) ∧
    ∀ l s, t.1 = .lst l → t.2 = .str s → GoodB l → isTxt (.str s) = true → (cp s).length ≤ 10000 → C (.tup [.own μ1.length, .own (μ1.length + 1)]) (μ1 ++ three l s)) : EE K S (tCall (spLaid K a (.tup [.own 0, .own 1])) [] E ta) δ μ C :=
  ee_callG [] wi fun A G H σ a' Q q => h A G H σ a' Q fun vs ds A1 G1 H1 μ1 m n r ⟨e, c, c2⟩ => q vs ds A1 G1 H1 μ1 m n r (by
    subst e
    have hcl : D.ltL 0 [t.1, t.2] = true := by show (t.1.lt 0 && (t.2.lt 0 && true)) = true; rw [ht.b0, ht.x0]; rfl
    refine ⟨t, ht, List.nodup_nil, fun k hk => (by cases hk), rfl, rfl, hsL_cl hcl, by rw [renL_cl hcl]; rfl, fun r ν n' ⟨l, s, e1, e2, hg, h1, h2, e3, e4⟩ _ _ _ _ => ?_, fun cc d ν z e1 h1 _ => ?_⟩
    · subst e3 e4
      have hok : (run l (cp s)).Ok (cp s).length := it_ok hg _
      show C (.tup [.own (μ1.length + (0 - 0)), .own (μ1.length + (1 - 0))]) (μ1 ++ [.lst (D.renL _ (run l (cp s)).cells), .lst (D.renL _ (run l (cp s)).spans), .lst (D.renL _ (run l (cp s)).strange)])
      rw [renL_cl (cells_ok_cl hok), renL_cl (spans_ok_cl hok), renL_cl (odd_ok_cl hok)]
      exact c2 l s e1 e2 hg h1 h2
    · have e3 : ν = [] := List.length_eq_zero_iff.mp e1
      subst e3
      have h1 : d.lt 0 = true := h1
      rw [ren_cl h1]
      show CE cc d (μ1 ++ [])
      rw [List.append_nil]
      exact c cc d z h1)
theorem in_int {n : Nat} {d : D} (h : isInN n d = true) : ∃ k : Nat, d = .int (k : Int) ∧ k < n := by
  cases d with
  | v x =>
    cases x with
    | int i =>
      obtain ⟨h1, h2⟩ := Bool.and_eq_true_iff.mp h
      have h1 := of_decide_eq_true h1
      have h2 := of_decide_eq_true h2
      exact ⟨i.toNat, by rw [Int.toNat_of_nonneg h1], by omega⟩
    | _ => cases h
  | _ => cases h
theorem run_sum {l : List D} {L : List Nat} (hg : GoodB l) : ∀ j, ((it l L j).spans.flatMap cellsN).length = (it l L j).cells.length
  | 0 => rfl
  | j + 1 => by
    have ih := run_sum (L := L) hg j
    have more : ∀ (s : LS) (p : Nat) (cs : List D), (s.spans.flatMap cellsN).length = s.cells.length → ((s.spans ++ [spanD s.at' (s.at' + p) s.cells.length (s.cells.length + cs.length)]).flatMap cellsN).length = (s.cells ++ cs).length := fun s p cs h => by
      rw [List.flatMap_append, List.length_append, h, List.length_append]
      have e : ([spanD s.at' (s.at' + p) s.cells.length (s.cells.length + cs.length)].flatMap cellsN).length = cs.length := by
        show (List.range' s.cells.length (s.cells.length + cs.length - s.cells.length) ++ []).length = _
        rw [List.append_nil, List.length_range', Nat.add_sub_cancel_left]
      rw [e]
    rw [it_succ]
    split
    · unfold step
      cases e : takI l L (it l L j).at' with
      | none => exact more _ 1 [.int 63] ih
      | some i => exact more _ (tl' (l.getD i .non)) (rC (l.getD i .non)) ih
    · exact ih
theorem flat_le {α β : Type} {f : α → List β} {p : α → Bool} : ∀ {l : List α}, ((l.filter p).flatMap f).length ≤ (l.flatMap f).length
  | [] => Nat.le_refl _
  | x :: l => by
    have ih := flat_le (f := f) (p := p) (l := l)
    rw [List.flatMap_cons, List.length_append, List.filter_cons]
    split
    · rw [List.flatMap_cons, List.length_append]
      omega
    · omega
theorem inV_nat {k : Nat} : ∀ {L : List Nat}, inV (.int (k : Int)) (L.map fun (i : Nat) => V.int (i : Int)) = decide (k ∈ L)
  | [] => rfl
  | i :: L => by
    have e : inV (.int (k : Int)) ((i :: L).map fun (i : Nat) => V.int (i : Int)) = (((i : Int) == (k : Int)) || inV (.int (k : Int)) (L.map fun (i : Nat) => V.int (i : Int))) := rfl
    rw [e, inV_nat]
    by_cases h : k = i
    · subst h
      simp
    · have h2 : ((i : Int) == (k : Int)) = false := beq_eq_false_iff_ne.mpr fun z => h (by omega)
      rw [h2, Bool.false_or]
      exact decide_eq_decide.mpr (by simp [h])
theorem oo_inN {S : Bs} {μ : List Cell} {C : D → List Cell → Prop} {L : List Nat} {k : Nat} (c : C (.bl (decide (k ∈ L))) μ) : OO K S (rInU K) (.int (k : Int)) (.lst (L.map intD)) μ C := by
  have e : L.map intD = (L.map fun (i : Nat) => V.int (i : Int)).map D.v := by
    rw [List.map_map]
    rfl
  rw [e]
  refine oo_inL rfl (List.all_eq_true.mpr fun x hx => by obtain ⟨i, _, rfl⟩ := List.mem_map.mp hx; rfl) ?_
  rw [inV_nat]
  exact c
theorem rng_nat {q m : Nat} : rng (q : Int) m = (List.range' q m).map intD := by
  unfold rng
  rw [List.range'_eq_map_range, List.map_map]
  refine List.map_congr_left fun i _ => ?_
  show D.int ((q : Int) + (i : Int)) = D.int (((q + i : Nat)) : Int)
  rw [Int.natCast_add]
theorem flat_int {f : D → List Nat} : ∀ {l : List D}, l.flatMap (fun x => (f x).map intD) = (l.flatMap f).map intD
  | [] => rfl
  | x :: l => by rw [List.flatMap_cons, flat_int, List.flatMap_cons, List.map_append]
end


section
variable {P : Program} {w : World} {K : PySem.W.Frag} {mg : Str → Option Value} {base : Heap} {a : Ad} {f : Addr} {fd : FuncData}
def MarkPre (d : D) : Prop := Cl d ∧ ∀ l, d = .tup l → l.length ≤ 1000 ∧ ∀ x ∈ l, x.pl = true
theorem tp3 {d : D} (h : isTp 3 d = true) : ∃ x y z, d = .tup [x, y, z] := by
  cases d with
  | tup l =>
    have h : l.length = 3 := of_decide_eq_true h
    match l, h with
    | [x, y, z], _ => exact ⟨x, y, z, rfl⟩
  | _ => cases h
theorem mark_tp {n : Nat} {d : D} (h : isTp 3 d = false) : isMark n d = false := by
  cases d with
  | tup l =>
    unfold isMark
    split
    · rename_i e
      cases e
      cases h
    · rfl
  | _ => rfl
theorem mark_no {n : Nat} {x y z : D} (h : (isCtN 0 x && (isCtN 0 y && isCtN 0 z)) = false) : isMark n (.tup [x, y, z]) = false := by
  cases x with
  | v x =>
    cases x with
    | int i =>
      cases y with
      | v y =>
        cases y with
        | int j =>
          cases z with
          | v z =>
            cases z with
            | int k =>
              show ((decide (0 ≤ i) && (decide (0 ≤ j) && decide (0 ≤ k))) && _) = false
              rw [show (decide (0 ≤ i) && (decide (0 ≤ j) && decide (0 ≤ k))) = false from h]
              rfl
            | _ => rfl
          | _ => rfl
        | _ => rfl
      | _ => rfl
    | _ => rfl
  | _ => rfl
theorem ct0_nat {d : D} (h : isCtN 0 d = true) : ∃ i : Nat, d = .int (i : Int) := by
  obtain ⟨i, rfl⟩ := ct_int h
  have h : (0 : Int) ≤ i := of_decide_eq_true (show decide (((0 : Nat) : Int) ≤ i) = true from h)
  exact ⟨i.toNat, by rw [Int.toNat_of_nonneg h]⟩
theorem mark_nat {n i j k : Nat} : isMark n (.tup [.int (i : Int), .int (j : Int), .int (k : Int)]) = ((decide (i ≤ j) && decide (j ≤ n)) && (decide (1 ≤ k) && decide (k ≤ 3))) := by
  show ((decide ((0 : Int) ≤ (i : Int)) && (decide ((0 : Int) ≤ (j : Int)) && decide ((0 : Int) ≤ (k : Int)))) && ((decide ((i : Int) ≤ (j : Int)) && decide ((j : Int) ≤ (n : Int))) && (decide ((1 : Int) ≤ (k : Int)) && decide ((k : Int) ≤ 3)))) = _
  rw [decide_eq_true (by omega : (0 : Int) ≤ (i : Int)), decide_eq_true (by omega : (0 : Int) ≤ (j : Int)), decide_eq_true (by omega : (0 : Int) ≤ (k : Int))]
  rw [show decide ((i : Int) ≤ (j : Int)) = decide (i ≤ j) from decide_eq_decide.mpr (by omega), show decide ((j : Int) ≤ (n : Int)) = decide (j ≤ n) from decide_eq_decide.mpr (by omega), show decide ((1 : Int) ≤ (k : Int)) = decide (1 ≤ k) from decide_eq_decide.mpr (by omega), show decide ((k : Int) ≤ 3) = decide (k ≤ 3) from decide_eq_decide.mpr (by omega)]
  rfl
theorem mark_of {n : Nat} {d : D} (h : isMark n d = true) : ∃ i j k : Nat, d = .tup [.int (i : Int), .int (j : Int), .int (k : Int)] ∧ i ≤ j ∧ j ≤ n ∧ 1 ≤ k ∧ k ≤ 3 := by
  cases h3 : isTp 3 d with
  | false => rw [mark_tp h3] at h; cases h
  | true =>
    obtain ⟨x, y, z, rfl⟩ := tp3 h3
    cases hc : (isCtN 0 x && (isCtN 0 y && isCtN 0 z)) with
    | false => rw [mark_no hc] at h; cases h
    | true =>
      obtain ⟨h1, h2⟩ := Bool.and_eq_true_iff.mp hc
      obtain ⟨h2, h4⟩ := Bool.and_eq_true_iff.mp h2
      obtain ⟨i, rfl⟩ := ct0_nat h1
      obtain ⟨j, rfl⟩ := ct0_nat h2
      obtain ⟨k, rfl⟩ := ct0_nat h4
      rw [mark_nat] at h
      simp only [Bool.and_eq_true, decide_eq_true_eq] at h
      exact ⟨i, j, k, rfl, h.1.1, h.1.2, h.2.1, h.2.2⟩
abbrev spMark (K : PySem.W.Frag) : Sp := ProP K (T := D × Nat) (fun t => [t.1, .int (t.2 : Int)]) (fun t => MarkPre t.1) (fun t r => r = .bl (isMark t.2 t.1)) (fun _ _ _ => False)
abbrev st_is_mark_of : Stmt := top 49
abbrev nm_is_mark_of : List Str := ["value", "size", "part"]
theorem sc_is_mark_of : FnScope nm_is_mark_of ["value", "size"] (defScope st_is_mark_of) := ⟨rfl, rfl, rfl, by decide +kernel, rfl, by decide +kernel, by decide +kernel⟩
theorem ok_is_mark_of (F : Fun K "is_mark_of" "is_mark_of" st_is_mark_of f fd) (T : Tx P w K mg base a) (c_is_tuple_of : CalX P w K mg base 1 "is_tuple_of" ["value", "size"] (ProP K (T := D × Nat) (fun t => [t.1, .int (t.2 : Int)]) (fun t => t.1.pl = true) (fun t r => r = .bl (isTp t.2 t.1)) (fun _ _ _ => False))) (cd_is_count : CalD P w K mg base 2 "is_count" ["value", "least"] [.int 0] (spCount K)) : FnOk P w K mg base (L2.CX P w) 3 f fd ["value", "size"] (spMark K) := by
  refine F.okX sc_is_mark_of (fun vs H Q E h => pro_len h fun _ => rfl) (fun cdv A outer s H vs Q E hr h => ⟨_, (pss_cons (ps_if (PW.pt (pw_or (pt_not (pt_val (pe_c c_is_tuple_of hr (by first | decide | exact Nat.le_refl _) rfl (passes_call (takes_of rfl rfl rfl rfl) (fun _ _ _ _ h => h)) (pa_cons (pv 0) (pa_cons pe_int pa_nil))))) (pw_or1 (pt_not (pt_val (pe_callB (kC K rAll rfl (cr_all rfl)) (by rfl) T.b_all (by decide +kernel) (pa_cons (pe_lc (own := [("part", 2)]) (tt := tYes) (g := (gName 2)) rfl sc_is_mark_of.nd (pi_tupK (K := K) rfl (pv 0)) (blkOk_by (own := [("part", 2)]) (N := nm_is_mark_of) (sc := (defScope st_is_mark_of)) (by decide +kernel)) (fun _ _ _ _ _ => (pg_name (i := 2) sc_is_mark_of.nd rfl (by first | exact Or.inl rfl | exact Or.inr rfl))) (fun _ _ _ _ _ => pts_nil) (fun _ _ _ _ _ => (pe_cD cd_is_count hr (by first | decide | exact Nat.le_refl _) rfl passL (pa_cons (pv 2) pa_nil)))) pa_nil))))))) (pss_one (ps_ret pe_bl)) pss_nil)
    (pss_one (ps_ret (pe_and (pe_chain op_leq op_leq (pe_ix (kX K rIx rfl ix_seq) (pv 0) pe_int (fun _ _ => rfl)) (pe_ix (kX K rIx rfl ix_seq) (pv 0) pe_int (fun _ _ => rfl)) (pv 1)) (pe_one (pe_chain op_leq op_leq pe_int (pe_ix (kX K rIx rfl ix_seq) (pv 0) pe_int (fun _ _ => rfl)) pe_int)))))), run_body h fun ⟨d, n⟩ S ⟨⟨hp, h0⟩, hin⟩ hl hcl wi => ?_⟩)
  have hl : S.A.length = 0 := hl
  have hp : d.pl = true := hp
  have h0 : d.lt 0 = true := h0
  walk_at "pp"
  refine ee_cz ?_
  walk_at "pp"
  refine ⟨(d, 3), hp, rfl, by show (d.lt 0 && true) = true; rw [h0]; rfl, ?_⟩
  rintro r rfl
  walk_at "pp"
  refine ⟨fun hb => ?_, fun hb => ?_⟩
  · have hb : isTp 3 d = false := by simpa using hb
    refine ⟨fun _ => ?_, fun z => by cases z⟩
    walk_at "pp"
    walk_at "gp"
    exact gaveP hl (by rfl) (by rw [mark_tp hb])
  obtain ⟨x, y, z, rfl⟩ := tp3 (d := d) (by simpa using hb)
  obtain ⟨_, hin⟩ := hin _ rfl
  have hc0 : ∀ c ∈ [x, y, z], c.lt 0 = true := D.ltL_all.mp (show D.ltL 0 [x, y, z] = true from h0)
  walk_at "pp"
  refine ee_lc (ie_tup ?_)
  walk_at "pp"
  refine ⟨fun _ h => h, trivial, fun _ => true, fun c => .bl (isCtN 0 c), Nat.le_of_ble_eq_true rfl, fun _ _ _ => rfl, fun c acc hc => ?_, ?_⟩
  · refine gw_name (by decide) ?_
    refine et_yes ?_
    refine ⟨rfl, rfl, fun _ => ?_⟩
    refine ee_czD ?_
    walk_at "pp"
    refine ⟨(c, 0), ⟨hin c hc, hc0 c hc⟩, rfl, by show (c.lt 0 && true) = true; rw [hc0 c hc]; rfl, ?_⟩
    rintro r rfl
    exact ⟨rfl, rfl⟩
  walk_at "pp"
  refine cc_all (bs := [isCtN 0 x, isCtN 0 y, isCtN 0 z]) (.lst _) ?_
  rw [show [isCtN 0 x, isCtN 0 y, isCtN 0 z].all id = (isCtN 0 x && (isCtN 0 y && isCtN 0 z)) by simp]
  walk_at "pp"
  refine ⟨fun hc => ?_, fun hc => ?_⟩
  · have hc : (isCtN 0 x && (isCtN 0 y && isCtN 0 z)) = false := by
      revert hc
      cases (isCtN 0 x && (isCtN 0 y && isCtN 0 z)) <;> simp
    walk_at "pp"
    walk_at "gp"
    exact gaveP hl (by rfl) (by rw [mark_no hc])
  have hc : (isCtN 0 x && (isCtN 0 y && isCtN 0 z)) = true := by
    revert hc
    cases (isCtN 0 x && (isCtN 0 y && isCtN 0 z)) <;> simp
  obtain ⟨h1, h2⟩ := Bool.and_eq_true_iff.mp hc
  obtain ⟨h2, h4⟩ := Bool.and_eq_true_iff.mp h2
  obtain ⟨i, rfl⟩ := ct0_nat h1
  obtain ⟨j, rfl⟩ := ct0_nat h2
  obtain ⟨k, rfl⟩ := ct0_nat h4
  have fin : ∀ b : Bool, b = ((decide (i ≤ j) && decide (j ≤ n)) && (decide (1 ≤ k) && decide (k ≤ 3))) → Gave S (fun r μ => μ = [] ∧ r = .bl (isMark n (.tup [.int (i : Int), .int (j : Int), .int (k : Int)]))) (.bl b) [] := fun b e => gaveP hl (by rfl) (by rw [e, mark_nat])
  walk_at "pp"
  refine oo_ixT (d := .int (i : Int)) rfl ?_
  walk_at "pp"
  refine oo_ixT (d := .int (j : Int)) rfl ?_
  walk_at "pp"
  refine ⟨fun hb => ?_, fun hb => ?_⟩
  · have hb : ¬ i ≤ j := by have := of_decide_eq_false hb; omega
    walk_at "pp"
    walk_at "gp"
    exact fin _ (by rw [decide_eq_false hb]; rfl)
  have hij : i ≤ j := by have := of_decide_eq_true hb; omega
  walk_at "pp"
  refine ⟨fun hb => ?_, fun hb => ?_⟩
  · have hjn : j ≤ n := by have := of_decide_eq_true hb; omega
    walk_at "pp"
    refine oo_ixT (d := .int (k : Int)) rfl ?_
    walk_at "pp"
    refine ⟨fun hb => ?_, fun hb => ?_⟩
    · have hb : ¬ 1 ≤ k := by have := of_decide_eq_false hb; omega
      walk_at "pp"
      walk_at "gp"
      exact fin _ (by rw [decide_eq_false hb, decide_eq_true hij, decide_eq_true hjn]; rfl)
    have hk : 1 ≤ k := by have := of_decide_eq_true hb; omega
    walk_at "pp"
    walk_at "gp"
    refine fin _ ?_
    rw [decide_eq_true hk, decide_eq_true hij, decide_eq_true hjn]
    exact decide_eq_decide.mpr (by omega)
  · have hjn : ¬ j ≤ n := by have := of_decide_eq_false hb; omega
    walk_at "pp"
    walk_at "gp"
    exact fin _ (by rw [decide_eq_true hij, decide_eq_false hjn]; rfl)
structure MarkedPre (t : (List D × List D) × Nat × D) : Prop where
  cs : CellL t.1.1
  sp : SpOk t.1.2
  z : (t.1.2.flatMap cellsN).length ≤ 1000000
  a : ∀ k, k < t.2.1 → ∃ x ∈ t.1.2, inS k x = true
  n : t.2.1 ≤ 1000000
  m : isMark t.2.1 t.2.2 = true
theorem ints_cl {L : List Nat} {m : Nat} : D.ltL m (L.map intD) = true := D.ltL_all.mpr fun x hx => by
  obtain ⟨i, _, rfl⟩ := List.mem_map.mp hx
  rfl
theorem cells_mem {x : D} {k : Nat} (h : ∃ i j c d : Nat, x = spanD i j c d ∧ i < j ∧ c < d ∧ d ≤ 10000000 ∧ j ≤ 10000000) : cellsN x = List.range' (nI x 2) (nI x 3 - nI x 2) := rfl
abbrev spMarked (K : PySem.W.Frag) : Sp := ProP K (T := (List D × List D) × Nat × D) (fun t => [.tup [.lst t.1.1, .lst t.1.2], .int (t.2.1 : Int), t.2.2]) MarkedPre (fun t r => r = .lst ((markedN t.1.2 t.1.1.length t.2.1 t.2.2).map intD)) (fun _ _ _ => False)
abbrev st_marked_by : Stmt := top 50
abbrev nm_marked_by : List Str := ["laid", "size", "mark", "cells", "spans", "start", "end", "_", "span", "cell"]
theorem sc_marked_by : FnScope nm_marked_by ["laid", "size", "mark"] (defScope st_marked_by) := ⟨rfl, rfl, rfl, by decide +kernel, rfl, by decide +kernel, by decide +kernel⟩
theorem ok_marked_by (F : Fun K "marked_by" "marked_by" st_marked_by f fd) (T : Tx P w K mg base a) (c_cell_led : CalX P w K mg base 1 "cell_led" ["spans", "sign"] (spLedC K)) : FnOk P w K mg base (L2.CX P w) 2 f fd ["laid", "size", "mark"] (spMarked K) := by
  refine F.okX sc_marked_by (fun vs H Q E h => pro_len h fun _ => rfl) (fun cdv A outer s H vs Q E hr h => ⟨_, (pss_cons (ps_asg (pv 0) (pg_tupK (K := K) rfl rfl (pgs_cons (pg_name (i := 3) sc_marked_by.nd rfl (by first | exact Or.inl rfl | exact Or.inr rfl)) (pgs_cons (pg_name (i := 4) sc_marked_by.nd rfl (by first | exact Or.inl rfl | exact Or.inr rfl)) pgs_nil))))
    (pss_cons (ps_asg (pv 2) (pg_tupK (K := K) rfl rfl (pgs_cons (pg_name (i := 5) sc_marked_by.nd rfl (by first | exact Or.inl rfl | exact Or.inr rfl)) (pgs_cons (pg_name (i := 6) sc_marked_by.nd rfl (by first | exact Or.inl rfl | exact Or.inr rfl)) (pgs_cons (pg_name (i := 7) sc_marked_by.nd rfl (by first | exact Or.inl rfl | exact Or.inr rfl)) pgs_nil)))))
    (pss_cons (ps_if (pt_cmpR op_less (pv 5) (pv 6) (nomark _)) (pss_one (ps_ret (pe_lc2 (own := [("span", 8), ("cell", 9)]) (vs1 := [9]) (tt1 := tYes) (g := (gName 8)) (g1 := (gName 9)) rfl sc_marked_by.nd (pi_listK (K := K) rfl (pv 4)) (blkOk_by (own := [("span", 8), ("cell", 9)]) (N := nm_marked_by) (sc := (defScope st_marked_by)) (by decide +kernel)) (by decide) (fun _ _ _ _ _ => (pg_name (i := 8) sc_marked_by.nd rfl (by first | exact Or.inl rfl | exact Or.inr rfl))) (fun _ _ _ _ _ => (pts_one (PW.pt (pw_and (pt_cmpR op_less (pe_ix (kX K rIx rfl ix_seq) (pv 8) pe_int (fun _ _ => rfl)) (pv 6) (nomark _)) (pw_and1 (pt_cmpR op_less (pv 5) (pe_ix (kX K rIx rfl ix_seq) (pv 8) pe_int (fun _ _ => rfl)) (nomark _))))))) (fun _ _ _ _ _ => (pi_range2 rfl T.b_range (pa_cons (pe_ix (kX K rIx rfl ix_seq) (pv 8) pe_int (fun _ _ => rfl)) (pa_cons (pe_ix (kX K rIx rfl ix_seq) (pv 8) pe_int (fun _ _ => rfl)) pa_nil)))) (fun _ _ _ _ _ => (pg_name (i := 9) sc_marked_by.nd rfl (by first | exact Or.inl rfl | exact Or.inr rfl))) (fun _ _ _ _ _ => pts_nil) (fun _ _ _ _ _ => (pv 9))))) pss_nil)
    (pss_cons (ps_if (pt_cmpR op_less (pv 5) (pv 1) (nomark _)) (pss_one (ps_ret (pe_lst (pa_cons (pe_c c_cell_led hr (by first | decide | exact Nat.le_refl _) rfl (passes_call (takes_of rfl rfl rfl rfl) (fun _ _ _ _ h => h)) (pa_cons (pv 4) (pa_cons (pv 5) pa_nil))) pa_nil)))) pss_nil)
    (pss_one (ps_ret (pe_lst (pa_cons (pe_callB (kC K rLenU rfl call_lenU) (by rfl) T.b_len (by decide +kernel) (pa_cons (pv 3) pa_nil)) pa_nil)))))))), run_body h fun ⟨⟨cs, sp⟩, n, d⟩ S hp hl hcl wi => ?_⟩)
  have hl : S.A.length = 0 := hl
  have hp : MarkedPre ((cs, sp), n, d) := hp
  obtain ⟨h1, hs, hz, ha, hn, hm⟩ := hp
  have hs : SpOk sp := hs
  obtain ⟨i, j, k, rfl, hij, hjn, hk1, hk3⟩ := mark_of hm
  have hjn : j ≤ n := hjn
  have hn : n ≤ 1000000 := hn
  have e0 : nI (.tup [.int (i : Int), .int (j : Int), .int (k : Int)]) 0 = i := Int.toNat_natCast _
  have e1 : nI (.tup [.int (i : Int), .int (j : Int), .int (k : Int)]) 1 = j := Int.toNat_natCast _
  walk_at "pp"
  refine se_asgG ?_
  walk_at "pp"
  refine ge_pair ?_
  walk_at "pp"
  refine se_asgG ?_
  walk_at "pp"
  refine ge_three ?_
  walk_at "pp"
  refine ⟨fun hb => ?_, fun hb => ?_⟩
  · have hb : i < j := by have := of_decide_eq_true hb; omega
    have eN : markedN sp cs.length n (.tup [.int (i : Int), .int (j : Int), .int (k : Int)]) = (sp.filter (overS (.tup [.int (i : Int), .int (j : Int), .int (k : Int)]))).flatMap cellsN := by
      unfold markedN
      rw [e0, e1, if_pos hb]
    walk_at "pp"
    refine ee_lc2A (f := overS (.tup [.int (i : Int), .int (j : Int), .int (k : Int)])) (m := fun x => (cellsN x).map intD) (L := sp) ?_ ?_ (ie_list ?_) (fun x acc hx => ?_) ?_
    · rw [flat_int, List.length_map]
      have := flat_le (f := cellsN) (p := overS (.tup [.int (i : Int), .int (j : Int), .int (k : Int)])) (l := sp)
      have hz : (sp.flatMap cellsN).length ≤ 1000000 := hz
      omega
    · rw [flat_int]
      exact ints_cl
    · walk_at "pp"
      exact ⟨sp, .inl rfl, rfl, rfl, rfl⟩
    · obtain ⟨p, q, c, e, rfl, hpq, hce, he, hq⟩ := hs.s x hx
      have o0 : nI (spanD p q c e) 0 = p := Int.toNat_natCast _
      have o1 : nI (spanD p q c e) 1 = q := Int.toNat_natCast _
      have eo : overS (.tup [.int (i : Int), .int (j : Int), .int (k : Int)]) (spanD p q c e) = (decide (p < j) && decide (i < q)) := by
        unfold overS
        rw [o0, o1, e0, e1]
      have ec : cellsN (spanD p q c e) = List.range' c (e - c) := rfl
      refine gw_name (by decide) ?_
      walk_at "pp"
      refine oo_ixT (d := .int (p : Int)) rfl ?_
      walk_at "pp"
      refine ⟨fun hp => ?_, fun hp => ?_⟩
      · have hp : p < j := by have := of_decide_eq_true hp; omega
        walk_at "pp"
        refine oo_ixT (d := .int (q : Int)) rfl ?_
        walk_at "pp"
        refine ⟨?_, rfl, fun hq => ?_⟩
        · rw [eo, decide_eq_true hp]
          exact decide_eq_decide.mpr (by omega)
        refine ie_rng2 ?_
        walk_at "pp"
        refine oo_ixT (d := .int (c : Int)) rfl ?_
        walk_at "pp"
        refine oo_ixT (d := .int (e : Int)) rfl ?_
        walk_at "pp"
        refine ⟨⟨by omega, by omega, by omega, by omega⟩, ?_⟩
        rw [show ((e : Int) - (c : Int)).toNat = e - c by omega, rng_nat]
        refine ⟨rfl, rfl, rfl, fun y acc' hy => ?_⟩
        refine gw_name (by decide) ?_
        walk_at "pp"
        refine ⟨rfl, rfl, ?_⟩
        walk_at "pp"
        exact ⟨rfl, rfl⟩
      · have hp : ¬ p < j := by have := of_decide_eq_false hp; omega
        refine ⟨?_, rfl, fun z => by cases z⟩
        rw [eo, decide_eq_false hp]
        rfl
    · walk_at "gp"
      rw [flat_int]
      exact gaveP hl (by show D.ltL 0 _ = true; exact ints_cl) (by rw [eN])
  · have hb : ¬ i < j := by have := of_decide_eq_false hb; omega
    walk_at "pp"
    refine ⟨fun hc => ?_, fun hc => ?_⟩
    · have hc : (i : Int) < (n : Int) := of_decide_eq_true hc
      have hc : i < n := by omega
      walk_at "pp"
      refine ee_lst ?_
      walk_at "pp"
      refine ee_cz ?_
      walk_at "pp"
      refine ⟨(sp, i), ⟨hs, ha i hc, by show i ≤ _; omega⟩, rfl, by show (D.ltL 0 sp && (true && true)) = true; rw [hs.cl]; rfl, ?_⟩
      rintro r rfl
      walk_at "pp"
      walk_at "gp"
      refine gaveP hl (by rfl) ?_
      show _ = D.lst ((markedN sp cs.length n _).map intD)
      unfold markedN
      rw [e0, e1, if_neg hb, if_pos hc]
      rfl
    · have hc : ¬ (i : Int) < (n : Int) := of_decide_eq_false hc
      have hc : ¬ i < n := by omega
      walk_at "pp"
      refine ee_lst ?_
      walk_at "pp"
      refine cc_len (.lst _) ?_
      walk_at "pp"
      walk_at "gp"
      refine gaveP hl (by rfl) ?_
      show _ = D.lst ((markedN sp cs.length n _).map intD)
      unfold markedN
      rw [e0, e1, if_neg hb, if_neg hc]
      rfl
end


section
variable {P : Program} {w : World} {K : PySem.W.Frag} {mg : Str → Option Value} {base : Heap} {a : Ad} {f : Addr} {fd : FuncData}
mutual
theorem sb_cl {g : Nat → Option (List D)} : ∀ {d : D}, d.lt 0 = true → d.sub g = d
  | .v _, _ => rfl
  | .own k, h => absurd (of_decide_eq_true (show decide (k < 0) = true from h)) (Nat.not_lt_zero k)
  | .lst l, h => congrArg D.lst (sbL_cl h)
  | .rd l, h => congrArg D.rd (sbL_cl h)
  | .tup l, h => congrArg D.tup (sbL_cl h)
  | .dic ks l, h => congrArg (D.dic ks) (sbL_cl h)
  | .exc c d, h => congrArg (D.exc c) (sb_cl h)
theorem sbL_cl {g : Nat → Option (List D)} : ∀ {l : List D}, D.ltL 0 l = true → D.subL g l = l
  | [], _ => rfl
  | d :: l, h => by
    have h : (D.lt 0 d && D.ltL 0 l) = true := h
    rw [Bool.and_eq_true] at h
    show D.sub g d :: D.subL g l = d :: l
    rw [sb_cl h.1, sbL_cl h.2]
end
def MksPre (d : D) : Prop := Cl d ∧ ∀ l, d = .lst l → l.length ≤ 100 ∧ ∀ m ∈ l, MarkPre m
structure AskS (t : D × D × D × D × D) : Prop where
  l : LaidPre (t.1, t.2.1)
  x : lenOf t.2.1 ≤ 200
  wd : Cl t.2.2.1
  wz : isCtN 1 t.2.2.1 = true → dotN t.2.2.1 ≤ 1000
  wn : Cl t.2.2.2.1
  ms : MksPre t.2.2.2.2
theorem ct_one {d : D} (h : isCtN 1 d = true) : ∃ k : Nat, d = .int (k : Int) ∧ 0 < k := by
  obtain ⟨i, rfl⟩ := ct_int h
  have h : (1 : Int) ≤ i := of_decide_eq_true (show decide (((1 : Nat) : Int) ≤ i) = true from h)
  exact ⟨i.toNat, by rw [Int.toNat_of_nonneg (by omega)], by omega⟩
abbrev spShown (K : PySem.W.Frag) (a : Ad) : Sp := ProP K (T := D × D × D × D × D) (fun t => [t.1, t.2.1, t.2.2.1, t.2.2.2.1, t.2.2.2.2]) AskS (fun t r => Told (ansS t.1 t.2.1 t.2.2.1 t.2.2.2.1 t.2.2.2.2) r) (fun t c d => Bad a (ansS t.1 t.2.1 t.2.2.1 t.2.2.2.1 t.2.2.2.2) c d)
theorem flat_bound {α β : Type} {f : α → List β} {B : Nat} : ∀ {l : List α}, (∀ x ∈ l, (f x).length ≤ B) → (l.flatMap f).length ≤ l.length * B
  | [], _ => Nat.zero_le _
  | x :: l, h => by
    have ih := flat_bound (l := l) fun y hy => h y (List.mem_cons_of_mem _ hy)
    have h1 := h x List.mem_cons_self
    rw [List.flatMap_cons, List.length_append, List.length_cons, Nat.succ_mul]
    omega
theorem marked_len {sp : List D} {nc n : Nat} {m : D} (h : (sp.flatMap cellsN).length ≤ 20000) : (markedN sp nc n m).length ≤ 20001 := by
  have := flat_le (f := cellsN) (p := overS m) (l := sp)
  unfold markedN
  split
  · omega
  · split
    · show 1 ≤ _
      decide
    · show 1 ≤ _
      decide
theorem places_len {sp : List D} {nc n : Nat} {ms : List D} {s : Nat} (h : (sp.flatMap cellsN).length ≤ 20000) (hm : ms.length ≤ 100) : (placesN sp nc n ms s).length ≤ 2000100 := by
  unfold placesN
  have h1 := flat_bound (f := markedN sp nc n) (B := 20001) (l := ms.filter (ofK s)) fun x _ => marked_len h
  have h2 : (ms.filter (ofK s)).length ≤ ms.length := List.length_filter_le _ _
  have h3 : (ms.filter (ofK s)).length * 20001 ≤ 100 * 20001 := Nat.mul_le_mul_right _ (by omega)
  omega
theorem marks_cl {n : Nat} {ms : List D} (h : ms.all (isMark n) = true) {m : Nat} : D.ltL m ms = true := D.ltL_all.mpr fun x hx => by
  obtain ⟨i, j, k, rfl, _⟩ := mark_of (List.all_eq_true.mp h x hx)
  rfl
section
variable {z : Nat → Bool} {n w : Nat}
theorem wN_w (hw : 0 < w) : ∀ j, ∀ p ∈ (wN z n w j).2, p.2 - p.1 ≤ w
  | 0, p, h => by cases h
  | j + 1, p, hp => by
    obtain ⟨h1, _⟩ := wN_ok (z := z) (n := n) hw j
    by_cases h : (wN z n w j).1 < n
    · rw [wN_succ h] at hp
      obtain ⟨q1, q2, q3⟩ := win_ok hw h h1
      rcases List.mem_append.mp hp with hp | hp
      · exact wN_w hw j p hp
      · rw [List.mem_singleton.mp hp]
        show winK z n w _ - _ ≤ w
        unfold topK at q2
        omega
    · have e : wN z n w (j + 1) = wN z n w j := if_neg h
      rw [e] at hp
      exact wN_w hw j p hp
theorem wN_0 (hn : 0 < n) : ∀ j, (wN z n w (j + 1)).2 ≠ []
  | 0 => by
    have h : (wN z n w 0).1 < n := hn
    rw [wN_succ h]
    simp
  | j + 1 => by
    by_cases h : (wN z n w (j + 1)).1 < n
    · rw [wN_succ h]
      simp
    · have e : wN z n w (j + 1 + 1) = wN z n w (j + 1) := if_neg h
      rw [e]
      exact wN_0 hn j
theorem wins_0 (h : wins z n w = []) : n = 0 := by
  cases n with
  | zero => rfl
  | succ n => exact absurd h (wN_0 (Nat.succ_pos _) n)
end
/-- the row while the shapes are added: i of them all, of the next one the first j cells -/
def rowN (cs sp : List D) (size : Nat) (ms : List D) (w : Nat) (p : Nat × Nat) (i : Nat) (k : Nat) : Nat := baseN cs p k + (if 0 < i then addN sp cs.length size ms w p 1 64 k else 0) + (if 1 < i then addN sp cs.length size ms w p 2 128 k else 0)
theorem cutD_nn {l : List D} {i j : Nat} (hi : i ≤ l.length) (hj : j ≤ l.length) : cutD l (some (i : Int)) (some (j : Int)) = (l.drop i).take (j - i) := by
  have e : ∀ k : Nat, k ≤ l.length → ∀ d, HT.sIx l.length d (some (k : Int)) = k := fun k hk d => by
    unfold HT.sIx
    simp only []
    split <;> omega
  unfold cutD
  rw [e i hi, e j hj]
theorem row_0 {cs : List D} {pa pb n : Nat} (hc : CellL cs) (p1 : pa ≤ pb) (p2 : pb ≤ cs.length) (p3 : pb - pa ≤ n) : cutD cs (some (pa : Int)) (some (pb : Int)) ++ (List.replicate (n - (pb - pa)) [D.int 0]).flatten = kL (baseN cs (pa, pb)) n := by
  rw [cutD_nn (by omega) p2]
  refine List.ext_getElem? fun k => ?_
  have hlen : ((cs.drop pa).take (pb - pa)).length = pb - pa := by rw [List.length_take, List.length_drop]; omega
  have hf : (List.replicate (n - (pb - pa)) [D.int 0]).flatten = List.replicate (n - (pb - pa)) (D.int 0) := by
    induction (n - (pb - pa)) with
    | zero => rfl
    | succ m ih => rw [List.replicate_succ, List.flatten_cons, ih]; rfl
  rw [hf]
  by_cases h : k < n
  · rw [kL_at h]
    unfold baseN
    by_cases h2 : k < pb - pa
    · rw [List.getElem?_append_left (by omega), List.getElem?_take_of_lt h2, List.getElem?_drop, if_pos (show pa + k < pb by omega)]
      obtain ⟨i, e, i0, _⟩ := hc.2 _ (List.getElem_mem (show pa + k < cs.length by omega))
      rw [List.getD_eq_getElem?_getD, List.getElem?_eq_getElem (show pa + k < cs.length by omega), e]
      show some (D.int i) = some (D.int ((i.toNat : Nat) : Int))
      rw [Int.toNat_of_nonneg i0]
    · rw [List.getElem?_append_right (by omega), hlen, List.getElem?_replicate, if_pos (by omega), if_neg (show ¬ pa + k < pb by omega)]
      rfl
  · rw [List.getElem?_eq_none (by rw [List.length_append, hlen, List.length_replicate]; omega), List.getElem?_eq_none (by rw [kL_len]; omega)]
theorem inV_2 {k a : Nat} : inV (.int (k : Int)) [.int (a : Int), .int 3] = (decide (k = a) || decide (k = 3)) := by
  show (((a : Int) == (k : Int)) || (((3 : Int) == (k : Int)) || false)) = _
  rw [Bool.or_false]
  congr 1
  · by_cases h : k = a
    · subst h
      simp
    · rw [decide_eq_false h]
      exact beq_eq_false_iff_ne.mpr fun z => h (by omega)
  · by_cases h : k = 3
    · subst h
      simp
    · rw [decide_eq_false h]
      exact beq_eq_false_iff_ne.mpr fun z => h (by omega)
theorem ixN_nat {n j : Nat} (h : j < n) : ixN n (j : Int) = some j := by
  unfold ixN
  rw [if_pos (by omega), if_pos (by omega)]
  rfl
abbrev st_cells_shown : Stmt := top 51
abbrev nm_cells_shown : List Str := ["book", "text", "width", "window", "marks", "laid", "windows", "mark", "first", "last", "row", "end", "shape", "added", "places", "cell", "at"]
theorem sc_cells_shown : FnScope nm_cells_shown ["book", "text", "width", "window", "marks"] (defScope st_cells_shown) := ⟨rfl, rfl, rfl, by decide +kernel, rfl, by decide +kernel, by decide +kernel⟩
theorem ok_cells_shown (F : Fun K "cells_shown" "cells_shown" st_cells_shown f fd) (T : Tx P w K mg base a) (c_laid_cells : CalX P w K mg base 7 "laid_cells" ["book", "text"] (spLaid K a (.tup [.own 0, .own 1]))) (c_check_width : CalX P w K mg base 3 "check_width" ["value"] (spChk K (isCtN 1) a.eInvalidWidth)) (c_windows_made : CalX P w K mg base 2 "windows_made" ["cells", "width"] (spWins K))
    (c_check_count : CalX P w K mg base 3 "check_count" ["value", "least", "below"] (spCheckCount K a)) (c_is_mark_of : CalX P w K mg base 3 "is_mark_of" ["value", "size"] (spMark K)) (c_marked_by : CalX P w K mg base 2 "marked_by" ["laid", "size", "mark"] (spMarked K)) : FnOk P w K mg base (L2.CX P w) 8 f fd ["book", "text", "width", "window", "marks"] (spShown K a) := by
  refine F.okX sc_cells_shown (fun vs H Q E h => pro_len h fun _ => rfl) (fun cdv A outer s H vs Q E hr h => ⟨_, (pss_cons (ps_set (i := 5) sc_cells_shown.nd rfl (by first | exact Or.inl rfl | exact Or.inr rfl) (pe_c c_laid_cells hr (by first | decide | exact Nat.le_refl _) rfl (passes_call (takes_of rfl rfl rfl rfl) (fun _ _ _ _ h => h)) (pa_cons (pv 0) (pa_cons (pv 1) pa_nil))))
    (pss_cons (ps_expr (pe_c c_check_width hr (by first | decide | exact Nat.le_refl _) rfl (passes_call (takes_of rfl rfl rfl rfl) (fun _ _ _ _ h => h)) (pa_cons (pv 2) pa_nil)))
    (pss_cons (ps_set (i := 6) sc_cells_shown.nd rfl (by first | exact Or.inl rfl | exact Or.inr rfl) (pe_c c_windows_made hr (by first | decide | exact Nat.le_refl _) rfl (passes_call (takes_of rfl rfl rfl rfl) (fun _ _ _ _ h => h)) (pa_cons (pe_ix (kX K rIx rfl ix_seq) (pv 5) pe_int (fun _ _ => rfl)) (pa_cons (pv 2) pa_nil))))
    (pss_cons (ps_expr (pe_c c_check_count hr (by first | decide | exact Nat.le_refl _) rfl (passes_call (takes_of rfl rfl rfl rfl) (fun _ _ _ _ h => h)) (pa_cons (pv 3) (pa_cons pe_int (pa_cons (pe_callB (call_max2 rfl) (by rfl) T.b_max (by decide +kernel) (pa_cons (pe_callB (kC K rLenU rfl call_lenU) (by rfl) T.b_len (by decide +kernel) (pa_cons (pv 6) pa_nil)) (pa_cons pe_int pa_nil))) pa_nil)))))
    (pss_cons (ps_if (PW.pt (pw_or (pt_not (pt_val (pe_callB (kC K rIsiU rfl call_isU) (by rfl) T.b_isinstance (by decide +kernel) (pa_cons (pv 4) (pa_cons (pe_bltn (v := .ty "list") (by rfl) T.b_list (by decide +kernel) rfl) pa_nil))))) (pw_or1 (pt_not (pt_val (pe_callB (kC K rAll rfl (cr_all rfl)) (by rfl) T.b_all (by decide +kernel) (pa_cons (pe_lc (own := [("mark", 7)]) (tt := tYes) (g := (gName 7)) rfl sc_cells_shown.nd (pi_listK (K := K) rfl (pv 4)) (blkOk_by (own := [("mark", 7)]) (N := nm_cells_shown) (sc := (defScope st_cells_shown)) (by decide +kernel)) (fun _ _ _ _ _ => (pg_name (i := 7) sc_cells_shown.nd rfl (by first | exact Or.inl rfl | exact Or.inr rfl))) (fun _ _ _ _ _ => pts_nil) (fun _ _ _ _ _ => (pe_c c_is_mark_of hr (by first | decide | exact Nat.le_refl _) rfl passL (pa_cons (pv 7) (pa_cons (pe_callB (kC K rLenU rfl call_lenU) (by rfl) T.b_len (by decide +kernel) (pa_cons (pv 1) pa_nil)) pa_nil))))) pa_nil))))))) (pss_one (ps_raiseC rfl T.e_InvalidMarks hr (by decide) (takes_of rfl rfl rfl rfl) rfl (pa_cons (pv 4) pa_nil))) pss_nil)
    (pss_cons (ps_asg (pe_ix (kX K rIx rfl ix_seq) (pe_op (kO K rPlus rfl op_plus) (pv 6) (pe_lst (pa_cons (pe_tup (pa_cons pe_int (pa_cons pe_int pa_nil))) pa_nil))) (pv 3) (fun _ _ => rfl)) (pg_tupK (K := K) rfl rfl (pgs_cons (pg_name (i := 8) sc_cells_shown.nd rfl (by first | exact Or.inl rfl | exact Or.inr rfl)) (pgs_cons (pg_name (i := 9) sc_cells_shown.nd rfl (by first | exact Or.inl rfl | exact Or.inr rfl)) pgs_nil))))
    (pss_cons (ps_set (i := 10) sc_cells_shown.nd rfl (by first | exact Or.inl rfl | exact Or.inr rfl) (pe_op (kO K rPlus rfl op_plus) (pe_slice (kS K rSlU rfl sl_U) (pe_ix (kX K rIx rfl ix_seq) (pv 5) pe_int (fun _ _ => rfl)) (po_some (pv 8)) (po_some (pv 9))) (pe_op op_timesU (pe_lst (pa_cons pe_int pa_nil)) (pe_op op_sub (pv 2) (pe_op op_sub (pv 9) (pv 8))))))
    (pss_cons (ps_set (i := 11) sc_cells_shown.nd rfl (by first | exact Or.inl rfl | exact Or.inr rfl) (pe_op (kO K rPlus rfl op_plus) (pv 9) (pe_callTy call_int1 (by rfl) T.b_int (by decide +kernel) (pa_cons (pe_and (pe_cmpR (kO K rEqU rfl (op_eqU (hu64 hr))) (pv 9) (pe_callB (kC K rLenU rfl call_lenU) (by rfl) T.b_len (by decide +kernel) (pa_cons (pe_ix (kX K rIx rfl ix_seq) (pv 5) pe_int (fun _ _ => rfl)) pa_nil)) (nomark _)) (pe_one (pe_cmpR op_less (pe_op op_sub (pv 9) (pv 8)) (pv 2) (nomark _)))) pa_nil))))
    (pss_cons (ps_for (passes_of rfl) rfl (pi_tupK (K := K) rfl (pe_tup (pa_cons (pe_tup (pa_cons pe_int (pa_cons pe_int pa_nil))) (pa_cons (pe_tup (pa_cons pe_int (pa_cons pe_int pa_nil))) pa_nil)))) (pg_tupK (K := K) rfl rfl (pgs_cons (pg_name (i := 12) sc_cells_shown.nd rfl (by first | exact Or.inl rfl | exact Or.inr rfl)) (pgs_cons (pg_name (i := 13) sc_cells_shown.nd rfl (by first | exact Or.inl rfl | exact Or.inr rfl)) pgs_nil)))
      (pss_cons (ps_setLc2 (i := 14) (own := [("mark", 7), ("cell", 15)]) (vs1 := [15]) (tt1 := tYes) (g := (gName 7)) (g1 := (gName 15)) rfl sc_cells_shown.nd rfl rfl (sw_true rfl rfl rfl (by decide +kernel)) (pi_listK (K := K) rfl (pv 4)) (blkOk_by (own := [("mark", 7), ("cell", 15)]) (N := nm_cells_shown) (sc := (defScope st_cells_shown)) (by decide +kernel)) (by decide) (fun _ _ _ _ _ => (pg_name (i := 7) sc_cells_shown.nd rfl (by first | exact Or.inl rfl | exact Or.inr rfl))) (fun _ _ _ _ _ => (pts_one (pt_cmpR (kO K rInU rfl op_inU) (pe_ix (kX K rIx rfl ix_seq) (pv 7) pe_int (fun _ _ => rfl)) (pe_tup (pa_cons (pv 12) (pa_cons pe_int pa_nil))) (by with_unfolding_all rfl)))) (fun _ _ _ _ _ => (pi_listK (K := K) rfl (pe_c c_marked_by hr (by first | decide | exact Nat.le_refl _) rfl passL (pa_cons (pv 5) (pa_cons (pe_callB (kC K rLenU rfl call_lenU) (by rfl) T.b_len (by decide +kernel) (pa_cons (pv 1) pa_nil)) (pa_cons (pv 7) pa_nil)))))) (fun _ _ _ _ _ => (pg_name (i := 15) sc_cells_shown.nd rfl (by first | exact Or.inl rfl | exact Or.inr rfl))) (fun _ _ _ _ _ => pts_nil) (fun _ _ _ _ _ => (pv 15)))
    (pss_one (ps_for (passes_of rfl) rfl (pi_range2 rfl T.b_range (pa_cons (pv 8) (pa_cons (pv 11) pa_nil))) (pg_name (i := 16) sc_cells_shown.nd rfl (by first | exact Or.inl rfl | exact Or.inr rfl))
      (pss_one (ps_asg (pe_op (kO K rPlus rfl op_plus) (pe_ix (kX K rIx rfl ix_seq) (pv 10) (pe_op op_sub (pv 16) (pv 8)) (fun _ _ => rfl)) (pe_op op_timesU (pv 13) (pe_callTy call_int1 (by rfl) T.b_int (by decide +kernel) (pa_cons (pe_cmpR (kO K rInU rfl op_inU) (pv 16) (pv 14) (by with_unfolding_all rfl)) pa_nil)))) (pg_sub (pv 10) (pe_op op_sub (pv 16) (pv 8)) pset_list)))))))
    (pss_one (ps_ret (pv 10)))))))))))), run_body h fun ⟨b, x, wd, wn, mk⟩ S hp hl hcl wi => ?_⟩)
  have hl : S.A.length = 0 := hl
  have hp : AskS (b, x, wd, wn, mk) := hp
  have hwd : wd.lt 0 = true := hp.wd.2
  have hwn : wn.lt 0 = true := hp.wn.2
  have hmk : mk.lt 0 = true := hp.ms.1.2
  have hmp : mk.pl = true := hp.ms.1.1
  have hml := hp.ms.2
  walk_at "pp"
  refine ask_laidB (t := (b, x)) hp.l wi ?_
  walk_at "pp"
  refine ⟨rfl, fun c d z h1 => ⟨by rw [hl]; exact h1, by rw [hl]; rfl, laid_bad z⟩, fun l s e1 e2 hg hs hz => ?_⟩
  have e1 : b = .lst l := e1
  have e2 : x = .str s := e2
  subst e1 e2
  have hx2 : (cp s).length ≤ 200 := hp.x
  have hok : (run l (cp s)).Ok (cp s).length := it_ok hg _
  have hsp := run_sp hg hz
  have hce := run_ce hg hz
  have hcz := hok.c
  have hra : ∀ {k}, k < (cp s).length → ∃ x ∈ (run l (cp s)).spans, inS k x = true := fun h => run_sg hg h
  have hfl : ((run l (cp s)).spans.flatMap cellsN).length = (run l (cp s)).cells.length := run_sum hg _
  have ea : ansS (.lst l) (.str s) wd wn mk = if isCtN 1 wd = false then .bad .width wd else if isInN (max (winsOf (run l (cp s)).cells (dotN wd)).length 1) wn = false then .bad .count wn else if isMarks (cp s).length mk = false then .bad .marks mk else .told (.lst (kL (shownN (run l (cp s)).cells (run l (cp s)).spans (cp s).length (lstOf mk) (dotN wd) (winAt (winsOf (run l (cp s)).cells (dotN wd)) (dotN wn))) (dotN wd))) := laid_in hg.is hs
  refine se_shut (l := (run l (cp s)).cells) 0 (by rw [hl]; exact Nat.zero_le _) rfl ?_
  show SE K S _ [some (.lst (D.subL _ l)), some (.str s), some (wd.sub _), some (wn.sub _), some (mk.sub _), some (.tup [.lst (run l (cp s)).cells, .own 1]), none, none, none, none, none, none, none, none, none, none, none] [.off, .lst (D.subL _ (run l (cp s)).spans), .lst (D.subL _ (run l (cp s)).strange)] _
  rw [sbL_cl hg.cl, sb_cl hwd, sb_cl hwn, sb_cl hmk, sbL_cl (spans_ok_cl hok), sbL_cl (odd_ok_cl hok)]
  refine se_shut (l := (run l (cp s)).spans) 1 (by rw [hl]; exact Nat.zero_le _) rfl ?_
  show SE K S _ [some (.lst (D.subL _ l)), some (.str s), some (wd.sub _), some (wn.sub _), some (mk.sub _), some (.tup [.lst (D.subL _ (run l (cp s)).cells), .lst (run l (cp s)).spans]), none, none, none, none, none, none, none, none, none, none, none] [.off, .off, .lst (D.subL _ (run l (cp s)).strange)] _
  rw [sbL_cl hg.cl, sb_cl hwd, sb_cl hwn, sb_cl hmk, sbL_cl (cells_ok_cl hok), sbL_cl (odd_ok_cl hok)]
  have hcc : D.ltL 0 (run l (cp s)).cells = true := cells_ok_cl hok
  generalize hR : run l (cp s) = R at *
  walk_at "pp"
  refine ee_c0 wi ?_
  walk_at "pp"
  refine ⟨wd, hp.wd, rfl, by show (wd.lt 0 && true) = true; rw [hwd]; rfl, fun d ⟨_, hb⟩ _ => ?_, fun c d ⟨h1, h2, h3⟩ _ => ⟨by rw [h3, hl]; exact hwd, by rw [hl]; rfl, .width, by rw [if_pos h1] at ea; rw [show d = wd from h3]; exact ea, h2⟩⟩
  rw [if_neg (by rw [hb]; exact fun z => by cases z)] at ea
  have hwz := hp.wz hb
  obtain ⟨n, rfl, hn⟩ := ct_one hb
  have hwz : n ≤ 1000 := hwz
  rw [show dotN (.int (n : Int)) = n from Int.toNat_natCast _] at ea
  walk_at "pp"
  refine ee_czS ?_
  walk_at "pp"
  refine oo_ixT (d := .lst R.cells) rfl ?_
  walk_at "pp"
  refine ⟨(R.cells, n), ⟨hce, hn, by show n ≤ _; omega⟩, rfl, by show (D.ltL 0 R.cells && (true && true)) = true; rw [hcc]; rfl, ?_⟩
  rintro ws rfl _
  have hww : wins (zc R.cells) R.cells.length n = winsOf R.cells n := rfl
  have hwl : (winsOf R.cells n).length ≤ R.cells.length := (wN_ok (z := zc R.cells) (n := R.cells.length) hn R.cells.length).2.2.2.1
  have hwp : ∀ p ∈ winsOf R.cells n, p.1 < p.2 ∧ p.2 ≤ R.cells.length := (wN_ok (z := zc R.cells) (n := R.cells.length) hn R.cells.length).2.2.2.2
  have hcz2 := hce.1
  have hwd2 : ∀ p ∈ winsOf R.cells n, p.2 - p.1 ≤ n := wN_w hn _
  have hw0 : winsOf R.cells n = [] → R.cells.length = 0 := fun h => wins_0 (w := n) h
  dsimp only
  rw [hww]
  generalize winsOf R.cells n = ws at *
  walk_at "pp"
  refine ee_c0 wi ?_
  walk_at "pp"
  refine cc_len (.lst _) ?_
  walk_at "pp"
  rw [List.length_map]
  rw [show (if (1 : Int) > (ws.length : Int) then (1 : Int) else (ws.length : Int)) = ((max ws.length 1 : Nat) : Int) by split <;> omega]
  walk_at "pp"
  refine ⟨(wn, max ws.length 1), hp.wn, rfl, by show (wn.lt 0 && (true && (true && true))) = true; rw [hwn]; rfl, fun d ⟨_, hb2⟩ _ => ?_, fun c d ⟨h1, h2, h3⟩ _ => ⟨by rw [h3, hl]; exact hwn, by rw [hl]; rfl, .count, by rw [if_pos h1] at ea; rw [show d = wn from h3]; exact ea, h2⟩⟩
  have hb2 : isInN (max ws.length 1) wn = true := hb2
  rw [if_neg (by rw [hb2]; exact fun z => by cases z)] at ea
  obtain ⟨m, rfl, hm⟩ := in_int hb2
  rw [show dotN (.int (m : Int)) = m from Int.toNat_natCast _] at ea
  walk_at "pp"
  refine ⟨fun hb3 => ?_, fun hb3 => ?_⟩
  · have hb3 : mk.is "list" = false := by simpa using hb3
    have hm0 : isMarks (cp s).length mk = false := by
      cases mk with
      | lst l => revert hb3; simp [D.is, D.ty]
      | _ => rfl
    rw [if_pos hm0] at ea
    refine ⟨fun _ => ?_, fun z => by cases z⟩
    refine se_raise wi ?_
    walk_at "pp"
    exact ⟨by rw [hl]; exact hmk, by rw [hl]; rfl, .marks, ea, rfl⟩
  obtain ⟨ms, rfl⟩ := is_lst hmp (by simpa using hb3)
  obtain ⟨hms1, hms2⟩ := hml ms rfl
  walk_at "pp"
  refine ee_lc (ie_list ?_)
  walk_at "pp"
  refine ⟨ms, .inl rfl, fun _ h => h, trivial, fun _ => true, fun c => .bl (isMark (cp s).length c), by omega, fun _ _ _ => rfl, fun c acc hc => ?_, ?_⟩
  · refine gw_name (by decide) ?_
    refine et_yes ?_
    refine ⟨rfl, rfl, fun _ => ?_⟩
    refine ee_cz ?_
    walk_at "pp"
    refine cc_lenS (by rw [len_cp]; omega) ?_
    walk_at "pp"
    rw [len_cp]
    refine ⟨(c, (cp s).length), hms2 c hc, rfl, by show (c.lt 0 && (true && true)) = true; rw [(hms2 c hc).1.2]; rfl, ?_⟩
    rintro r rfl
    exact ⟨rfl, rfl⟩
  rw [show ((ms.filter fun _ => true).map fun c => D.bl (isMark (cp s).length c)) = (ms.map (isMark (cp s).length)).map D.bl by
    rw [List.filter_eq_self.mpr fun _ _ => rfl, List.map_map]
    rfl]
  walk_at "pp"
  refine cc_all (.lst _) ?_
  rw [show (ms.map (isMark (cp s).length)).all id = ms.all (isMark (cp s).length) by rw [List.all_map]; rfl]
  walk_at "pp"
  refine ⟨fun hb4 => ?_, fun hb4 => ?_⟩
  · have hb4 : ms.all (isMark (cp s).length) = false := by simpa using hb4
    rw [if_pos (show isMarks (cp s).length (.lst ms) = false from hb4)] at ea
    refine se_raise wi ?_
    walk_at "pp"
    exact ⟨by rw [hl]; exact hmk, by rw [hl]; rfl, .marks, ea, rfl⟩
  have hb4 : ms.all (isMark (cp s).length) = true := by simpa using hb4
  rw [if_neg (by rw [show isMarks (cp s).length (.lst ms) = true from hb4]; exact fun z => by cases z)] at ea
  have ea : ansS (.lst l) (.str s) (.int (n : Int)) (.int (m : Int)) (.lst ms) = .told (.lst (kL (shownN R.cells R.spans (cp s).length ms n (winAt ws m)) n)) := ea
  have hp0 : (winAt ws m).1 ≤ (winAt ws m).2 ∧ (winAt ws m).2 ≤ R.cells.length ∧ (winAt ws m).2 - (winAt ws m).1 ≤ n ∧ (ws.map winD ++ [D.tup [.int 0, .int 0]])[m]? = some (winD (winAt ws m)) := by
    by_cases h : m < ws.length
    · have e : winAt ws m = ws[m] := by
        unfold winAt
        rw [List.getD_eq_getElem?_getD, List.getElem?_append_left h, List.getElem?_eq_getElem h]
        rfl
      have hq := hwp _ (List.getElem_mem h)
      have hq2 := hwd2 _ (List.getElem_mem h)
      rw [e]
      refine ⟨by omega, hq.2, hq2, ?_⟩
      rw [List.getElem?_append_left (by rw [List.length_map]; exact h), List.getElem?_map, List.getElem?_eq_getElem h]
      rfl
    · have e1 : ws = [] := List.length_eq_zero_iff.mp (by omega)
      subst e1
      have e2 : m = 0 := by
        have : m < max 0 1 := hm
        omega
      subst e2
      exact ⟨Nat.le_refl _, Nat.zero_le _, Nat.zero_le _, rfl⟩
  obtain ⟨p1, p2, p3, p4⟩ := hp0
  walk_at "pp"
  refine se_asgG ?_
  walk_at "pp"
  refine ee_lst ?_
  walk_at "pp"
  refine oo_addL (by rw [List.length_map]; show ws.length + 1 ≤ _; omega) ?_
  walk_at "pp"
  refine oo_ixL (d := winD (winAt ws m)) (atI_of p4 rfl) ?_
  generalize hpw : winAt ws m = pw at *
  obtain ⟨pa, pb⟩ := pw
  refine ge_pair ?_
  walk_at "pp"
  refine oo_ixT (d := .lst R.cells) rfl ?_
  walk_at "pp"
  refine ss_lst ?_
  walk_at "pp"
  refine ee_lst ?_
  walk_at "pp"
  have p1 : pa ≤ pb := p1
  have p2 : pb ≤ R.cells.length := p2
  have p3 : pb - pa ≤ n := p3
  rw [show (n : Int) - ((pb : Int) - (pa : Int)) = ((n - (pb - pa) : Nat) : Int) by omega]
  refine oo_repL (n := n - (pb - pa)) (by omega) (by show 1 * _ ≤ _; omega) ?_
  refine oo_addLO (by rw [cutD_nn (by omega) p2, List.length_take, List.length_flatten, List.map_replicate, List.sum_replicate_nat]; show _ + _ * 1 ≤ _; omega) ?_
  rw [row_0 hce p1 p2 p3]
  refine se_seq (se_asg (ee_op (ee_var rfl ?_)))
  refine ee_cb (ea_cons (ee_val (P := pb = R.cells.length ∧ pb - pa < n) ?_ fun b hb => ?_))
  · walk_at "pp"
    refine oo_ixT (d := .lst R.cells) rfl ?_
    walk_at "pp"
    refine cc_len (.lst _) ?_
    walk_at "pp"
    rw [int_eq]
    refine ⟨fun h => ?_, fun h => ?_⟩
    · have h : (pb : Int) = (R.cells.length : Int) := of_decide_eq_true h
      walk_at "pp"
      exact ⟨rfl, _, rfl, fun h => (by have h : (pb : Int) - (pa : Int) < (n : Int) := of_decide_eq_true h; omega), fun h => decide_eq_true (by show (pb : Int) - (pa : Int) < (n : Int); omega)⟩
    · have h : ¬ (pb : Int) = (R.cells.length : Int) := of_decide_eq_false h
      exact ⟨rfl, _, rfl, fun z => (by cases z), fun z => (by omega)⟩
  walk_at "pp"
  refine cc_intB ?_
  walk_at "pp"
  have een : (pb : Int) + (if b = true then (1 : Int) else 0) = ((endN R.cells.length n (pa, pb) : Nat) : Int) := by
    unfold endN
    show _ = ((pb + (if pb = R.cells.length ∧ pb - pa < n then 1 else 0) : Nat) : Int)
    by_cases h : pb = R.cells.length ∧ pb - pa < n
    · rw [if_pos h, if_pos (hb.mpr h)]
      omega
    · rw [if_neg h, if_neg (fun z => h (hb.mp z))]
      omega
  rw [een]
  have hen : pb ≤ endN R.cells.length n (pa, pb) ∧ endN R.cells.length n (pa, pb) - pa ≤ n ∧ endN R.cells.length n (pa, pb) ≤ pb + 1 := by
    show pb ≤ pb + (if pb = R.cells.length ∧ pb - pa < n then 1 else 0) ∧ pb + (if pb = R.cells.length ∧ pb - pa < n then 1 else 0) - pa ≤ n ∧ pb + (if pb = R.cells.length ∧ pb - pa < n then 1 else 0) ≤ pb + 1
    split <;> omega
  obtain ⟨en1, en2, en3⟩ := hen
  generalize hen : endN R.cells.length n (pa, pb) = en at *
  refine se_for (ie_tup ?_)
  walk_at "pp"
  refine ⟨fun i δ μ => ∃ (x12 x13 x14 x16 : Option D), δ = [some (.lst l), some (.str s), some (.int (n : Int)), some (.int (m : Int)), some (.lst ms), some (.tup [.lst R.cells, .lst R.spans]), some (.lst (ws.map winD)), none, some (.int (pa : Int)), some (.int (pb : Int)), some (.own 3), some (.int (en : Int)), x12, x13, x14, none, x16] ∧ μ = [.off, .off, .lst R.strange, .lst (kL (rowN R.cells R.spans (cp s).length ms n (pa, pb) i) n)], ⟨none, none, none, none, rfl, ?_⟩, ?_, ?_⟩
  · rw [show kL (rowN R.cells R.spans (cp s).length ms n (pa, pb) 0) n = kL (baseN R.cells (pa, pb)) n from kL_ext fun k _ => by unfold rowN; simp]
    rfl
  · rintro i x δ μ hi ⟨x12, x13, x14, x16, rfl, rfl⟩
    obtain ⟨sh, ad, rfl, hrow⟩ : ∃ sh ad : Nat, x = .tup [.int (sh : Int), .int (ad : Int)] ∧ ad ≤ 128 ∧ ∀ k, rowN R.cells R.spans (cp s).length ms n (pa, pb) (i + 1) k = rowN R.cells R.spans (cp s).length ms n (pa, pb) i k + addN R.spans R.cells.length (cp s).length ms n (pa, pb) sh ad k := by
      match i, hi with
      | 0, hi =>
        cases hi
        exact ⟨1, 64, rfl, by decide, fun k => by unfold rowN; simp⟩
      | 1, hi =>
        cases hi
        exact ⟨2, 128, rfl, by decide, fun k => by unfold rowN; simp⟩
      | i + 2, hi => cases hi
    obtain ⟨had, hrow⟩ := hrow
    have hpl := places_len (sp := R.spans) (nc := R.cells.length) (n := (cp s).length) (ms := ms) (s := sh) (by rw [hfl]; omega) hms1
    refine ge_pair ?_
    walk_at "pp"
    refine ee_lc2A (f := ofK sh) (m := fun x => (markedN R.spans R.cells.length (cp s).length x).map intD) (L := ms) ?_ ?_ (ie_list ?_) (fun x acc hx => ?_) ?_
    · rw [flat_int, List.length_map]
      unfold placesN at hpl
      omega
    · rw [flat_int]
      exact ints_cl
    · walk_at "pp"
      exact ⟨ms, .inl rfl, rfl, rfl, rfl⟩
    · have hmx := List.all_eq_true.mp hb4 x hx
      obtain ⟨u, v, k, rfl, huv, hvn, hk1, hk3⟩ := mark_of hmx
      have ek : nI (.tup [.int (u : Int), .int (v : Int), .int (k : Int)]) 2 = k := Int.toNat_natCast _
      refine gw_name (by decide) ?_
      walk_at "pp"
      refine oo_ixT (d := .int (k : Int)) rfl ?_
      walk_at "pp"
      refine oo_inT (ys := [.int (sh : Int), .int 3]) rfl rfl ?_
      walk_at "pp"
      rw [inV_2]
      refine ⟨?_, rfl, fun _ => ?_⟩
      · unfold ofK
        rw [ek]
      refine ie_list ?_
      refine ee_cz ?_
      walk_at "pp"
      refine cc_lenS (by rw [len_cp]; omega) ?_
      walk_at "pp"
      rw [len_cp]
      refine ⟨((R.cells, R.spans), (cp s).length, .tup [.int (u : Int), .int (v : Int), .int (k : Int)]), ⟨hce, hsp, by show (R.spans.flatMap cellsN).length ≤ _; rw [hfl]; omega, fun k h => hra h, by show (cp s).length ≤ _; omega, hmx⟩, rfl, ?_, ?_⟩
      · show ((D.ltL 0 R.cells && (D.ltL 0 R.spans && true)) && (true && (true && true))) = true
        rw [hcc, hsp.cl]
        rfl
      rintro r rfl
      refine ⟨_, .inl rfl, rfl, rfl, rfl, fun y acc' hy => ?_⟩
      refine gw_name (by decide) ?_
      walk_at "pp"
      refine ⟨rfl, rfl, ?_⟩
      walk_at "pp"
      exact ⟨rfl, rfl⟩
    rw [flat_int]
    show SE K S _ _ _ _
    rw [show (ms.filter (ofK sh)).flatMap (fun x => markedN R.spans R.cells.length (cp s).length x) = placesN R.spans R.cells.length (cp s).length ms sh from rfl]
    generalize hP : placesN R.spans R.cells.length (cp s).length ms sh = P at *
    refine se_for (ie_rng2 ?_)
    walk_at "pp"
    rw [show ((en : Int) - (pa : Int)).toNat = en - pa by omega]
    refine ⟨⟨by omega, by omega, by omega, by omega⟩, rfl, fun j δ μ => ∃ x16 : Option D, δ = [some (.lst l), some (.str s), some (.int (n : Int)), some (.int (m : Int)), some (.lst ms), some (.tup [.lst R.cells, .lst R.spans]), some (.lst (ws.map winD)), none, some (.int (pa : Int)), some (.int (pb : Int)), some (.own 3), some (.int (en : Int)), some (.int (sh : Int)), some (.int (ad : Int)), some (.lst (P.map intD)), none, x16] ∧ μ = [.off, .off, .lst R.strange, .lst (kL (fun k => rowN R.cells R.spans (cp s).length ms n (pa, pb) i k + if k < j ∧ pa + k ∈ P then ad else 0) n)], ⟨x16, rfl, ?_⟩, ?_, ?_⟩
    · rw [show kL (fun k => rowN R.cells R.spans (cp s).length ms n (pa, pb) i k + if k < 0 ∧ pa + k ∈ P then ad else 0) n = kL (rowN R.cells R.spans (cp s).length ms n (pa, pb) i) n from kL_ext fun k _ => by simp]
    · rintro j x δ μ hj ⟨y16, rfl, rfl⟩
      obtain ⟨hj2, rfl⟩ := rng_get hj
      have ej : (pa : Int) + (j : Int) - (pa : Int) = (j : Int) := by omega
      walk_at "pp"
      refine se_asgG ?_
      walk_at "pp"
      rw [ej]
      refine oo_ixO rfl (atI_of (kL_at (by omega)) rfl) ?_
      walk_at "pp"
      rw [show (pa : Int) + (j : Int) = ((pa + j : Nat) : Int) by omega]
      refine oo_inN ?_
      walk_at "pp"
      refine cc_intB ?_
      walk_at "pp"
      refine oo_mul (mulW 9 3 (by have : (ad : Int).natAbs = ad := Int.natAbs_natCast _; rw [this]; show ad < 512; omega) (by split <;> decide)) ?_
      walk_at "pp"
      refine ge_setL ?_
      walk_at "pp"
      rw [show ((pa + j : Nat) : Int) - (pa : Int) = (j : Int) by omega]
      refine ⟨3, (j : Int), j, _, rfl, rfl, rfl, ixN_nat (by rw [kL_len]; omega), _, rfl, ?_⟩
      have eset : (kL (fun k => rowN R.cells R.spans (cp s).length ms n (pa, pb) i k + if k < j ∧ pa + k ∈ P then ad else 0) n).set j (.int (((rowN R.cells R.spans (cp s).length ms n (pa, pb) i j + if j < j ∧ pa + j ∈ P then ad else 0 : Nat) : Int) + (ad : Int) * (if decide (pa + j ∈ P) = true then 1 else 0))) = kL (fun k => rowN R.cells R.spans (cp s).length ms n (pa, pb) i k + if k < j + 1 ∧ pa + k ∈ P then ad else 0) n := by
        refine List.ext_getElem? fun k => ?_
        by_cases hk : k < n
        · by_cases hkj : k = j
          · subst hkj
            rw [List.getElem?_set_self (by rw [kL_len]; exact hk), kL_at hk]
            congr 2
            by_cases h : pa + k ∈ P
            · rw [if_neg (fun z => Nat.lt_irrefl _ z.1), if_pos (decide_eq_true h), if_pos ⟨Nat.lt_succ_self _, h⟩]
              all_goals try congr 1
              all_goals try omega
            · rw [if_neg (fun z => h z.2), if_neg (by rw [decide_eq_false h]; exact fun z => by cases z), if_neg (fun z => h z.2)]
              all_goals try congr 1
              all_goals try omega
          · rw [List.getElem?_set_ne (by omega), kL_at hk, kL_at hk]
            by_cases h : pa + k ∈ P
            · by_cases h2 : k < j
              · rw [if_pos ⟨h2, h⟩, if_pos ⟨by omega, h⟩]
              · rw [if_neg (fun z => h2 z.1), if_neg (fun z => by have := z.1; omega)]
            · rw [if_neg (fun z => h z.2), if_neg (fun z => h z.2)]
        · rw [List.getElem?_eq_none (by rw [List.length_set, kL_len]; omega), List.getElem?_eq_none (by rw [kL_len]; omega)]
      rw [← eset]
      rfl
    · rintro δ μ ⟨y16, rfl, rfl⟩
      rw [rng_len]
      refine ⟨some (.int (sh : Int)), some (.int (ad : Int)), some (.lst (P.map intD)), y16, rfl, ?_⟩
      rw [show kL (fun k => rowN R.cells R.spans (cp s).length ms n (pa, pb) i k + if k < en - pa ∧ pa + k ∈ P then ad else 0) n = kL (rowN R.cells R.spans (cp s).length ms n (pa, pb) (i + 1)) n from kL_ext fun k _ => by
        rw [hrow k]
        unfold addN
        rw [hP, hen]
        by_cases h : pa + k ∈ P
        · by_cases h2 : k < en - pa
          · rw [if_pos ⟨h2, h⟩, if_pos ⟨(by show pa + k < en; omega), h⟩]
          · rw [if_neg (fun z => h2 z.1), if_neg (fun z => h2 (by have : pa + k < en := z.1; omega))]
        · rw [if_neg (fun z => h z.2), if_neg (fun z => h z.2)]]
  · rintro δ μ ⟨x12, x13, x14, x16, rfl, rfl⟩
    show SE K S (tRet (tVar 10)) _ _ _
    refine se_shut (l := kL (shownN R.cells R.spans (cp s).length ms n (pa, pb)) n) 3 (by rw [hl]; exact Nat.zero_le _) rfl ?_
    show SE K S _ [some (.lst (D.subL _ l)), some (.str s), some (.int (n : Int)), some (.int (m : Int)), some (.lst (D.subL _ ms)), some (.tup [.lst (D.subL _ R.cells), .lst (D.subL _ R.spans)]), some (.lst (D.subL _ (ws.map winD))), none, some (.int (pa : Int)), some (.int (pb : Int)), some (.lst (kL (shownN R.cells R.spans (cp s).length ms n (pa, pb)) n)), some (.int (en : Int)), _, _, _, none, _] _ _
    walk_at "pp"
    walk_at "gp"
    refine gaveP hl ?_ ea
    exact kL_cl (m := 0)
end


section
variable {P : Program} {w : World} {K : PySem.W.Frag} {mg : Str → Option Value} {base : Heap} {a : Ad} {f : Addr} {fd : FuncData}
def wordK : Kd → D
  | .book => .str (Str.ofString "book")
  | .text => .str (Str.ofString "text")
  | .count => .str (Str.ofString "count")
  | .width => .str (Str.ofString "width")
  | .marks => .str (Str.ofString "marks")
abbrev spDoor (K : PySem.W.Frag) (a : Ad) : Sp := ProP K (T := Kd × D) (fun t => [.exc (clsK a t.1) t.2]) (fun _ => True) (fun t r => r = wordK t.1) (fun _ _ _ => False)
abbrev st__law_door : Stmt := top 63
abbrev nm__law_door : List Str := ["caught", "kinds", "names"]
theorem sc__law_door : FnScope nm__law_door ["caught"] (defScope st__law_door) := ⟨rfl, rfl, rfl, by decide +kernel, rfl, by decide +kernel, by decide +kernel⟩
theorem ok_ldoor (F : Fun K "_law_door" "_law_door" st__law_door f fd) (T : Tx P w K mg base a) : FnOk P w K mg base (L2.CX P w) 1 f fd ["caught"] (spDoor K a) := by
  refine F.okX sc__law_door (fun vs H Q E h => pro_len h fun _ => rfl) (fun cdv A outer s H vs Q E hr h => ⟨_, (pss_cons (ps_set (i := 1) sc__law_door.nd rfl (by first | exact Or.inl rfl | exact Or.inr rfl) (pe_lst (pa_cons (pe_callB (kC K rIsiU rfl call_isU) (by rfl) T.b_isinstance (by decide +kernel) (pa_cons (pv 0) (pa_cons (pe_glob (v := .ref a.eInvalidPage) rfl T.g_InvalidPage rfl) pa_nil))) (pa_cons (pe_callB (kC K rIsiU rfl call_isU) (by rfl) T.b_isinstance (by decide +kernel) (pa_cons (pv 0) (pa_cons (pe_glob (v := .ref a.eInvalidBook) rfl T.g_InvalidBook rfl) pa_nil))) (pa_cons (pe_callB (kC K rIsiU rfl call_isU) (by rfl) T.b_isinstance (by decide +kernel) (pa_cons (pv 0) (pa_cons (pe_glob (v := .ref a.eInvalidText) rfl T.g_InvalidText rfl) pa_nil))) pa_nil)))))
    (pss_cons (ps_set (i := 1) sc__law_door.nd rfl (by first | exact Or.inl rfl | exact Or.inr rfl) (pe_op (kO K rPlus rfl op_plus) (pv 1) (pe_lst (pa_cons (pe_callB (kC K rIsiU rfl call_isU) (by rfl) T.b_isinstance (by decide +kernel) (pa_cons (pv 0) (pa_cons (pe_glob (v := .ref a.eInvalidCells) rfl T.g_InvalidCells rfl) pa_nil))) (pa_cons (pe_callB (kC K rIsiU rfl call_isU) (by rfl) T.b_isinstance (by decide +kernel) (pa_cons (pv 0) (pa_cons (pe_glob (v := .ref a.eInvalidWidth) rfl T.g_InvalidWidth rfl) pa_nil))) (pa_cons (pe_callB (kC K rIsiU rfl call_isU) (by rfl) T.b_isinstance (by decide +kernel) (pa_cons (pv 0) (pa_cons (pe_glob (v := .ref a.eInvalidCount) rfl T.g_InvalidCount rfl) pa_nil))) pa_nil))))))
    (pss_cons (ps_set (i := 1) sc__law_door.nd rfl (by first | exact Or.inl rfl | exact Or.inr rfl) (pe_op (kO K rPlus rfl op_plus) (pv 1) (pe_lst (pa_cons (pe_callB (kC K rIsiU rfl call_isU) (by rfl) T.b_isinstance (by decide +kernel) (pa_cons (pv 0) (pa_cons (pe_glob (v := .ref a.eInvalidKey) rfl T.g_InvalidKey rfl) pa_nil))) (pa_cons (pe_callB (kC K rIsiU rfl call_isU) (by rfl) T.b_isinstance (by decide +kernel) (pa_cons (pv 0) (pa_cons (pe_glob (v := .ref a.eInvalidMarks) rfl T.g_InvalidMarks rfl) pa_nil))) (pa_cons (pe_callB (kC K rIsiU rfl call_isU) (by rfl) T.b_isinstance (by decide +kernel) (pa_cons (pv 0) (pa_cons (pe_glob (v := .ref a.eInvalidStand) rfl T.g_InvalidStand rfl) pa_nil))) pa_nil))))))
    (pss_cons (ps_set (i := 1) sc__law_door.nd rfl (by first | exact Or.inl rfl | exact Or.inr rfl) (pe_op (kO K rPlus rfl op_plus) (pv 1) (pe_lst (pa_cons (pe_callB (kC K rIsiU rfl call_isU) (by rfl) T.b_isinstance (by decide +kernel) (pa_cons (pv 0) (pa_cons (pe_glob (v := .ref a.eInvalidPlace) rfl T.g_InvalidPlace rfl) pa_nil))) (pa_cons (pe_callB (kC K rIsiU rfl call_isU) (by rfl) T.b_isinstance (by decide +kernel) (pa_cons (pv 0) (pa_cons (pe_glob (v := .ref a.eInvalidLine) rfl T.g_InvalidLine rfl) pa_nil))) (pa_cons (pe_callB (kC K rIsiU rfl call_isU) (by rfl) T.b_isinstance (by decide +kernel) (pa_cons (pv 0) (pa_cons (pe_glob (v := .ref a.eInvalidNumber) rfl T.g_InvalidNumber rfl) pa_nil))) pa_nil))))))
    (pss_cons (ps_set (i := 1) sc__law_door.nd rfl (by first | exact Or.inl rfl | exact Or.inr rfl) (pe_op (kO K rPlus rfl op_plus) (pv 1) (pe_lst (pa_cons (pe_callB (kC K rIsiU rfl call_isU) (by rfl) T.b_isinstance (by decide +kernel) (pa_cons (pv 0) (pa_cons (pe_glob (v := .ref a.eNotWritten) rfl T.g_NotWritten rfl) pa_nil))) pa_nil))))
    (pss_cons (ps_set (i := 2) sc__law_door.nd rfl (by first | exact Or.inl rfl | exact Or.inr rfl) (pe_lst (pa_cons pe_str (pa_cons pe_str (pa_cons pe_str (pa_cons pe_str (pa_cons pe_str (pa_cons pe_str (pa_cons pe_str (pa_cons pe_str (pa_cons pe_str (pa_cons pe_str (pa_cons pe_str (pa_cons pe_str (pa_cons pe_str pa_nil)))))))))))))))
    (pss_cons (ps_if (PW.pt (pw_or (pt_cmpR (kO K rNeU rfl (op_neU (hu64 hr))) (pe_bmK (K := K) rfl PySem.F.plainAttrs_list PySem.F.slot_list_count PySem.F.type_list_count (kM K rCntF rfl mt_cntF) (pv 1) (pa_cons pe_bl pa_nil)) pe_int (nomark _)) (pw_or1 (pt_not (pt_val (pe_callB (kC K rIsiU rfl call_isU) (by rfl) T.b_isinstance (by decide +kernel) (pa_cons (pv 0) (pa_cons (pe_bltn (v := .ty "ValueError") (by rfl) T.b_ValueError (by decide +kernel) rfl) pa_nil)))))))) (pss_one (ps_ret pe_str)) pss_nil)
    (pss_one (ps_ret (pe_ix (kX K rIx rfl ix_seq) (pv 2) (pe_bmK (K := K) rfl PySem.F.plainAttrs_list PySem.F.slot_list_index PySem.F.type_list_index (kM K rIndex rfl mt_index) (pv 1) (pa_cons pe_bl pa_nil)) (fun _ _ => rfl))))))))))), run_body h fun ⟨b, d⟩ S _ hl hcl wi => ?_⟩)
  have hl : S.A.length = 0 := hl
  cases b with
  | book =>
    obtain ⟨fI, hI⟩ := T.e_InvalidBook.c
    walk_at "pp"
    refine ee_lst ?_
    walk_at "pp"
    refine cc_isX hI T.k_InvalidBook_InvalidPage ?_
    walk_at "pp"
    refine cc_isX hI T.k_InvalidBook_InvalidBook ?_
    walk_at "pp"
    refine cc_isX hI T.k_InvalidBook_InvalidText ?_
    walk_at "pp"
    refine ee_lst ?_
    walk_at "pp"
    refine cc_isX hI T.k_InvalidBook_InvalidCells ?_
    walk_at "pp"
    refine cc_isX hI T.k_InvalidBook_InvalidWidth ?_
    walk_at "pp"
    refine cc_isX hI T.k_InvalidBook_InvalidCount ?_
    walk_at "pp"
    refine oo_addL (Nat.le_of_ble_eq_true rfl) ?_
    walk_at "pp"
    refine ee_lst ?_
    walk_at "pp"
    refine cc_isX hI T.k_InvalidBook_InvalidKey ?_
    walk_at "pp"
    refine cc_isX hI T.k_InvalidBook_InvalidMarks ?_
    walk_at "pp"
    refine cc_isX hI T.k_InvalidBook_InvalidStand ?_
    walk_at "pp"
    refine oo_addL (Nat.le_of_ble_eq_true rfl) ?_
    walk_at "pp"
    refine ee_lst ?_
    walk_at "pp"
    refine cc_isX hI T.k_InvalidBook_InvalidPlace ?_
    walk_at "pp"
    refine cc_isX hI T.k_InvalidBook_InvalidLine ?_
    walk_at "pp"
    refine cc_isX hI T.k_InvalidBook_InvalidNumber ?_
    walk_at "pp"
    refine oo_addL (Nat.le_of_ble_eq_true rfl) ?_
    walk_at "pp"
    refine ee_lst ?_
    walk_at "pp"
    refine cc_isX hI T.k_InvalidBook_NotWritten ?_
    walk_at "pp"
    refine oo_addL (Nat.le_of_ble_eq_true rfl) ?_
    walk_at "pp"
    refine ee_lst ?_
    walk_at "pp"
    refine ee_bm ?_
    walk_at "pp"
    refine ⟨.lst (.lst _), ?_⟩
    walk_at "pp"
    refine mm_count (ys := [.bl false, .bl true, .bl false, .bl false, .bl false, .bl false, .bl false, .bl false, .bl false, .bl false, .bl false, .bl false, .bl false]) (.lst _) rfl rfl ?_
    walk_at "pp"
    refine cc_isXT hI T.v_InvalidBook ?_
    walk_at "pp"
    refine ee_bm ?_
    walk_at "pp"
    refine ⟨.lst (.lst _), ?_⟩
    walk_at "pp"
    refine mm_index (ys := [.bl false, .bl true, .bl false, .bl false, .bl false, .bl false, .bl false, .bl false, .bl false, .bl false, .bl false, .bl false, .bl false]) (z := .bl true) (j := 1) (.lst _) rfl rfl rfl rfl (fun m z hm hz => ?_) ?_
    · have hm : m ∈ [0] := by
        simp
        omega
      simp only [List.mem_cons, List.not_mem_nil, or_false] at hm
      subst hm
      simp at hz
      subst hz
      rfl
    · refine oo_ixL (d := .str (Str.ofString "book")) rfl ?_
      walk_at "gp"
      exact gaveP hl (by rfl) rfl
  | text =>
    obtain ⟨fI, hI⟩ := T.e_InvalidText.c
    walk_at "pp"
    refine ee_lst ?_
    walk_at "pp"
    refine cc_isX hI T.k_InvalidText_InvalidPage ?_
    walk_at "pp"
    refine cc_isX hI T.k_InvalidText_InvalidBook ?_
    walk_at "pp"
    refine cc_isX hI T.k_InvalidText_InvalidText ?_
    walk_at "pp"
    refine ee_lst ?_
    walk_at "pp"
    refine cc_isX hI T.k_InvalidText_InvalidCells ?_
    walk_at "pp"
    refine cc_isX hI T.k_InvalidText_InvalidWidth ?_
    walk_at "pp"
    refine cc_isX hI T.k_InvalidText_InvalidCount ?_
    walk_at "pp"
    refine oo_addL (Nat.le_of_ble_eq_true rfl) ?_
    walk_at "pp"
    refine ee_lst ?_
    walk_at "pp"
    refine cc_isX hI T.k_InvalidText_InvalidKey ?_
    walk_at "pp"
    refine cc_isX hI T.k_InvalidText_InvalidMarks ?_
    walk_at "pp"
    refine cc_isX hI T.k_InvalidText_InvalidStand ?_
    walk_at "pp"
    refine oo_addL (Nat.le_of_ble_eq_true rfl) ?_
    walk_at "pp"
    refine ee_lst ?_
    walk_at "pp"
    refine cc_isX hI T.k_InvalidText_InvalidPlace ?_
    walk_at "pp"
    refine cc_isX hI T.k_InvalidText_InvalidLine ?_
    walk_at "pp"
    refine cc_isX hI T.k_InvalidText_InvalidNumber ?_
    walk_at "pp"
    refine oo_addL (Nat.le_of_ble_eq_true rfl) ?_
    walk_at "pp"
    refine ee_lst ?_
    walk_at "pp"
    refine cc_isX hI T.k_InvalidText_NotWritten ?_
    walk_at "pp"
    refine oo_addL (Nat.le_of_ble_eq_true rfl) ?_
    walk_at "pp"
    refine ee_lst ?_
    walk_at "pp"
    refine ee_bm ?_
    walk_at "pp"
    refine ⟨.lst (.lst _), ?_⟩
    walk_at "pp"
    refine mm_count (ys := [.bl false, .bl false, .bl true, .bl false, .bl false, .bl false, .bl false, .bl false, .bl false, .bl false, .bl false, .bl false, .bl false]) (.lst _) rfl rfl ?_
    walk_at "pp"
    refine cc_isXT hI T.v_InvalidText ?_
    walk_at "pp"
    refine ee_bm ?_
    walk_at "pp"
    refine ⟨.lst (.lst _), ?_⟩
    walk_at "pp"
    refine mm_index (ys := [.bl false, .bl false, .bl true, .bl false, .bl false, .bl false, .bl false, .bl false, .bl false, .bl false, .bl false, .bl false, .bl false]) (z := .bl true) (j := 2) (.lst _) rfl rfl rfl rfl (fun m z hm hz => ?_) ?_
    · have hm : m ∈ [0, 1] := by
        simp
        omega
      simp only [List.mem_cons, List.not_mem_nil, or_false] at hm
      rcases hm with rfl | rfl <;> (simp at hz; subst hz; rfl)
    · refine oo_ixL (d := .str (Str.ofString "text")) rfl ?_
      walk_at "gp"
      exact gaveP hl (by rfl) rfl
  | count =>
    obtain ⟨fI, hI⟩ := T.e_InvalidCount.c
    walk_at "pp"
    refine ee_lst ?_
    walk_at "pp"
    refine cc_isX hI T.k_InvalidCount_InvalidPage ?_
    walk_at "pp"
    refine cc_isX hI T.k_InvalidCount_InvalidBook ?_
    walk_at "pp"
    refine cc_isX hI T.k_InvalidCount_InvalidText ?_
    walk_at "pp"
    refine ee_lst ?_
    walk_at "pp"
    refine cc_isX hI T.k_InvalidCount_InvalidCells ?_
    walk_at "pp"
    refine cc_isX hI T.k_InvalidCount_InvalidWidth ?_
    walk_at "pp"
    refine cc_isX hI T.k_InvalidCount_InvalidCount ?_
    walk_at "pp"
    refine oo_addL (Nat.le_of_ble_eq_true rfl) ?_
    walk_at "pp"
    refine ee_lst ?_
    walk_at "pp"
    refine cc_isX hI T.k_InvalidCount_InvalidKey ?_
    walk_at "pp"
    refine cc_isX hI T.k_InvalidCount_InvalidMarks ?_
    walk_at "pp"
    refine cc_isX hI T.k_InvalidCount_InvalidStand ?_
    walk_at "pp"
    refine oo_addL (Nat.le_of_ble_eq_true rfl) ?_
    walk_at "pp"
    refine ee_lst ?_
    walk_at "pp"
    refine cc_isX hI T.k_InvalidCount_InvalidPlace ?_
    walk_at "pp"
    refine cc_isX hI T.k_InvalidCount_InvalidLine ?_
    walk_at "pp"
    refine cc_isX hI T.k_InvalidCount_InvalidNumber ?_
    walk_at "pp"
    refine oo_addL (Nat.le_of_ble_eq_true rfl) ?_
    walk_at "pp"
    refine ee_lst ?_
    walk_at "pp"
    refine cc_isX hI T.k_InvalidCount_NotWritten ?_
    walk_at "pp"
    refine oo_addL (Nat.le_of_ble_eq_true rfl) ?_
    walk_at "pp"
    refine ee_lst ?_
    walk_at "pp"
    refine ee_bm ?_
    walk_at "pp"
    refine ⟨.lst (.lst _), ?_⟩
    walk_at "pp"
    refine mm_count (ys := [.bl false, .bl false, .bl false, .bl false, .bl false, .bl true, .bl false, .bl false, .bl false, .bl false, .bl false, .bl false, .bl false]) (.lst _) rfl rfl ?_
    walk_at "pp"
    refine cc_isXT hI T.v_InvalidCount ?_
    walk_at "pp"
    refine ee_bm ?_
    walk_at "pp"
    refine ⟨.lst (.lst _), ?_⟩
    walk_at "pp"
    refine mm_index (ys := [.bl false, .bl false, .bl false, .bl false, .bl false, .bl true, .bl false, .bl false, .bl false, .bl false, .bl false, .bl false, .bl false]) (z := .bl true) (j := 5) (.lst _) rfl rfl rfl rfl (fun m z hm hz => ?_) ?_
    · have hm : m ∈ [0, 1, 2, 3, 4] := by
        simp
        omega
      simp only [List.mem_cons, List.not_mem_nil, or_false] at hm
      rcases hm with rfl | rfl | rfl | rfl | rfl <;> (simp at hz; subst hz; rfl)
    · refine oo_ixL (d := .str (Str.ofString "count")) rfl ?_
      walk_at "gp"
      exact gaveP hl (by rfl) rfl
  | width =>
    obtain ⟨fI, hI⟩ := T.e_InvalidWidth.c
    walk_at "pp"
    refine ee_lst ?_
    walk_at "pp"
    refine cc_isX hI T.k_InvalidWidth_InvalidPage ?_
    walk_at "pp"
    refine cc_isX hI T.k_InvalidWidth_InvalidBook ?_
    walk_at "pp"
    refine cc_isX hI T.k_InvalidWidth_InvalidText ?_
    walk_at "pp"
    refine ee_lst ?_
    walk_at "pp"
    refine cc_isX hI T.k_InvalidWidth_InvalidCells ?_
    walk_at "pp"
    refine cc_isX hI T.k_InvalidWidth_InvalidWidth ?_
    walk_at "pp"
    refine cc_isX hI T.k_InvalidWidth_InvalidCount ?_
    walk_at "pp"
    refine oo_addL (Nat.le_of_ble_eq_true rfl) ?_
    walk_at "pp"
    refine ee_lst ?_
    walk_at "pp"
    refine cc_isX hI T.k_InvalidWidth_InvalidKey ?_
    walk_at "pp"
    refine cc_isX hI T.k_InvalidWidth_InvalidMarks ?_
    walk_at "pp"
    refine cc_isX hI T.k_InvalidWidth_InvalidStand ?_
    walk_at "pp"
    refine oo_addL (Nat.le_of_ble_eq_true rfl) ?_
    walk_at "pp"
    refine ee_lst ?_
    walk_at "pp"
    refine cc_isX hI T.k_InvalidWidth_InvalidPlace ?_
    walk_at "pp"
    refine cc_isX hI T.k_InvalidWidth_InvalidLine ?_
    walk_at "pp"
    refine cc_isX hI T.k_InvalidWidth_InvalidNumber ?_
    walk_at "pp"
    refine oo_addL (Nat.le_of_ble_eq_true rfl) ?_
    walk_at "pp"
    refine ee_lst ?_
    walk_at "pp"
    refine cc_isX hI T.k_InvalidWidth_NotWritten ?_
    walk_at "pp"
    refine oo_addL (Nat.le_of_ble_eq_true rfl) ?_
    walk_at "pp"
    refine ee_lst ?_
    walk_at "pp"
    refine ee_bm ?_
    walk_at "pp"
    refine ⟨.lst (.lst _), ?_⟩
    walk_at "pp"
    refine mm_count (ys := [.bl false, .bl false, .bl false, .bl false, .bl true, .bl false, .bl false, .bl false, .bl false, .bl false, .bl false, .bl false, .bl false]) (.lst _) rfl rfl ?_
    walk_at "pp"
    refine cc_isXT hI T.v_InvalidWidth ?_
    walk_at "pp"
    refine ee_bm ?_
    walk_at "pp"
    refine ⟨.lst (.lst _), ?_⟩
    walk_at "pp"
    refine mm_index (ys := [.bl false, .bl false, .bl false, .bl false, .bl true, .bl false, .bl false, .bl false, .bl false, .bl false, .bl false, .bl false, .bl false]) (z := .bl true) (j := 4) (.lst _) rfl rfl rfl rfl (fun m z hm hz => ?_) ?_
    · have hm : m ∈ [0, 1, 2, 3] := by
        simp
        omega
      simp only [List.mem_cons, List.not_mem_nil, or_false] at hm
      rcases hm with rfl | rfl | rfl | rfl <;> (simp at hz; subst hz; rfl)
    · refine oo_ixL (d := .str (Str.ofString "width")) rfl ?_
      walk_at "gp"
      exact gaveP hl (by rfl) rfl
  | marks =>
    obtain ⟨fI, hI⟩ := T.e_InvalidMarks.c
    walk_at "pp"
    refine ee_lst ?_
    walk_at "pp"
    refine cc_isX hI T.k_InvalidMarks_InvalidPage ?_
    walk_at "pp"
    refine cc_isX hI T.k_InvalidMarks_InvalidBook ?_
    walk_at "pp"
    refine cc_isX hI T.k_InvalidMarks_InvalidText ?_
    walk_at "pp"
    refine ee_lst ?_
    walk_at "pp"
    refine cc_isX hI T.k_InvalidMarks_InvalidCells ?_
    walk_at "pp"
    refine cc_isX hI T.k_InvalidMarks_InvalidWidth ?_
    walk_at "pp"
    refine cc_isX hI T.k_InvalidMarks_InvalidCount ?_
    walk_at "pp"
    refine oo_addL (Nat.le_of_ble_eq_true rfl) ?_
    walk_at "pp"
    refine ee_lst ?_
    walk_at "pp"
    refine cc_isX hI T.k_InvalidMarks_InvalidKey ?_
    walk_at "pp"
    refine cc_isX hI T.k_InvalidMarks_InvalidMarks ?_
    walk_at "pp"
    refine cc_isX hI T.k_InvalidMarks_InvalidStand ?_
    walk_at "pp"
    refine oo_addL (Nat.le_of_ble_eq_true rfl) ?_
    walk_at "pp"
    refine ee_lst ?_
    walk_at "pp"
    refine cc_isX hI T.k_InvalidMarks_InvalidPlace ?_
    walk_at "pp"
    refine cc_isX hI T.k_InvalidMarks_InvalidLine ?_
    walk_at "pp"
    refine cc_isX hI T.k_InvalidMarks_InvalidNumber ?_
    walk_at "pp"
    refine oo_addL (Nat.le_of_ble_eq_true rfl) ?_
    walk_at "pp"
    refine ee_lst ?_
    walk_at "pp"
    refine cc_isX hI T.k_InvalidMarks_NotWritten ?_
    walk_at "pp"
    refine oo_addL (Nat.le_of_ble_eq_true rfl) ?_
    walk_at "pp"
    refine ee_lst ?_
    walk_at "pp"
    refine ee_bm ?_
    walk_at "pp"
    refine ⟨.lst (.lst _), ?_⟩
    walk_at "pp"
    refine mm_count (ys := [.bl false, .bl false, .bl false, .bl false, .bl false, .bl false, .bl false, .bl true, .bl false, .bl false, .bl false, .bl false, .bl false]) (.lst _) rfl rfl ?_
    walk_at "pp"
    refine cc_isXT hI T.v_InvalidMarks ?_
    walk_at "pp"
    refine ee_bm ?_
    walk_at "pp"
    refine ⟨.lst (.lst _), ?_⟩
    walk_at "pp"
    refine mm_index (ys := [.bl false, .bl false, .bl false, .bl false, .bl false, .bl false, .bl false, .bl true, .bl false, .bl false, .bl false, .bl false, .bl false]) (z := .bl true) (j := 7) (.lst _) rfl rfl rfl rfl (fun m z hm hz => ?_) ?_
    · have hm : m ∈ [0, 1, 2, 3, 4, 5, 6] := by
        simp
        omega
      simp only [List.mem_cons, List.not_mem_nil, or_false] at hm
      rcases hm with rfl | rfl | rfl | rfl | rfl | rfl | rfl <;> (simp at hz; subst hz; rfl)
    · refine oo_ixL (d := .str (Str.ofString "marks")) rfl ?_
      walk_at "gp"
      exact gaveP hl (by rfl) rfl
end


section
variable {P : Program} {w : World} {K : PySem.W.Frag} {mg : Str → Option Value} {base : Heap} {a : Ad} {f : Addr} {fd : FuncData}
/-- five things that are asked of -/
abbrev Q5 := D × D × D × D × D
def ansQ (t : Q5) : Out := ansS t.1 t.2.1 t.2.2.1 t.2.2.2.1 t.2.2.2.2
def argsQ (t : Q5) : List D := [t.1, t.2.1, t.2.2.1, t.2.2.2.1, t.2.2.2.2]
def argOf (t : Q5) : List D := [.int 0, .lst (argsQ t)]
theorem AskS.cl {t : Q5} (h : AskS t) : D.ltL 0 (argsQ t) = true := by
  have h1 : t.1.lt 0 = true := h.l.b0
  have h2 : t.2.1.lt 0 = true := h.l.x0
  have h3 : t.2.2.1.lt 0 = true := h.wd.2
  have h4 : t.2.2.2.1.lt 0 = true := h.wn.2
  have h5 : t.2.2.2.2.lt 0 = true := h.ms.1.2
  show (t.1.lt 0 && (t.2.1.lt 0 && (t.2.2.1.lt 0 && (t.2.2.2.1.lt 0 && (t.2.2.2.2.lt 0 && true))))) = true
  rw [h1, h2, h3, h4, h5]
  rfl
theorem AskS.cl2 {t : Q5} (h : AskS t) : D.ltL 0 (argOf t) = true := by
  show (true && (D.ltL 0 (argsQ t) && true)) = true
  rw [h.cl]
  rfl
abbrev spAsked (K : PySem.W.Frag) (a : Ad) : Sp := ProP K (T := Q5) argOf AskS (fun t r => Told (ansQ t) r) (fun t c d => Bad a (ansQ t) c d)
abbrev st__law_asked : Stmt := top 76
abbrev nm__law_asked : List Str := ["way", "args"]
theorem sc__law_asked : FnScope nm__law_asked ["way", "args"] (defScope st__law_asked) := ⟨rfl, rfl, rfl, by decide +kernel, rfl, by decide +kernel, by decide +kernel⟩
theorem ok_lasked (F : Fun K "_law_asked" "_law_asked" st__law_asked f fd) (T : Tx P w K mg base a) (c_cells_shown : CalX P w K mg base 8 "cells_shown" ["book", "text", "width", "window", "marks"] (spShown K a)) : FnOk P w K mg base (L2.CX P w) 9 f fd ["way", "args"] (spAsked K a) := by
  refine F.okX sc__law_asked (fun vs H Q E h => pro_len h fun _ => rfl) (fun cdv A outer s H vs Q E hr h => ⟨_, (pss_one (ps_ret (pe_c c_cells_shown hr (by first | decide | exact Nat.le_refl _) rfl (passes_call (takes_of rfl rfl rfl rfl) (fun _ _ _ _ h => h)) (pa_cons (pe_ix (kX K rIx rfl ix_seq) (pv 1) pe_int (fun _ _ => rfl)) (pa_cons (pe_ix (kX K rIx rfl ix_seq) (pv 1) pe_int (fun _ _ => rfl)) (pa_cons (pe_ix (kX K rIx rfl ix_seq) (pv 1) pe_int (fun _ _ => rfl)) (pa_cons (pe_ix (kX K rIx rfl ix_seq) (pv 1) pe_int (fun _ _ => rfl)) (pa_cons (pe_ix (kX K rIx rfl ix_seq) (pv 1) pe_int (fun _ _ => rfl)) pa_nil)))))))), run_body h fun ⟨b, x, wd, wn, mk⟩ S h hl hcl wi => ?_⟩)
  have hl : S.A.length = 0 := hl
  have h : AskS (b, x, wd, wn, mk) := h
  walk_at "pp"
  refine ee_c0 wi ?_
  walk_at "pp"
  refine oo_ixL (d := b) rfl ?_
  walk_at "pp"
  refine oo_ixL (d := x) rfl ?_
  walk_at "pp"
  refine oo_ixL (d := wd) rfl ?_
  walk_at "pp"
  refine oo_ixL (d := wn) rfl ?_
  walk_at "pp"
  refine oo_ixL (d := mk) rfl ?_
  walk_at "pp"
  refine ⟨(b, x, wd, wn, mk), h, rfl, h.cl, fun d hd hc => ?_, fun c d hd hc => ⟨by rw [hl]; exact hc, by rw [hl]; rfl, hd⟩⟩
  walk_at "gp"
  exact gaveP hl hc hd
def heardO : Out → D
  | .told d => .lst [.str (Str.ofString "told"), d]
  | .bad k d => .lst [wordK k, d]
abbrev spHeard (K : PySem.W.Frag) : Sp := ProP K (T := Q5) argOf AskS (fun t r => r = heardO (ansQ t)) (fun _ _ _ => False)
theorem kind_of (T : Tx P w K mg base a) (k : Kd) : ∃ fI, PySem.W.exmOne K (.ref (clsK a k)) (.ref a.eReadingError) = some true ∧ ErrC K (clsK a k) fI := by
  cases k with
  | book => obtain ⟨fI, hI⟩ := T.e_InvalidBook.c; exact ⟨fI, T.x_InvalidBook, hI⟩
  | text => obtain ⟨fI, hI⟩ := T.e_InvalidText.c; exact ⟨fI, T.x_InvalidText, hI⟩
  | count => obtain ⟨fI, hI⟩ := T.e_InvalidCount.c; exact ⟨fI, T.x_InvalidCount, hI⟩
  | width => obtain ⟨fI, hI⟩ := T.e_InvalidWidth.c; exact ⟨fI, T.x_InvalidWidth, hI⟩
  | marks => obtain ⟨fI, hI⟩ := T.e_InvalidMarks.c; exact ⟨fI, T.x_InvalidMarks, hI⟩
abbrev st__law_heard : Stmt := top 64
abbrev nm__law_heard : List Str := ["way", "args", "caught", "told", "error"]
theorem sc__law_heard : FnScope nm__law_heard ["way", "args"] (defScope st__law_heard) := ⟨rfl, rfl, rfl, by decide +kernel, rfl, by decide +kernel, by decide +kernel⟩
theorem ok_lheard (F : Fun K "_law_heard" "_law_heard" st__law_heard f fd) (T : Tx P w K mg base a) (c__law_asked : CalX P w K mg base 9 "_law_asked" ["way", "args"] (spAsked K a)) (c__law_door : CalX P w K mg base 1 "_law_door" ["caught"] (spDoor K a)) : FnOk P w K mg base (L2.CX P w) 10 f fd ["way", "args"] (spHeard K) := by
  refine F.okX sc__law_heard (fun vs H Q E h => pro_len h fun _ => rfl) (fun cdv A outer s H vs Q E hr h => ⟨_, (pss_cons (ps_asg (pe_tup (pa_cons pe_non (pa_cons pe_non pa_nil))) (pg_tupK (K := K) rfl rfl (pgs_cons (pg_name (i := 2) sc__law_heard.nd rfl (by first | exact Or.inl rfl | exact Or.inr rfl)) (pgs_cons (pg_name (i := 3) sc__law_heard.nd rfl (by first | exact Or.inl rfl | exact Or.inr rfl)) pgs_nil))))
    (pss_cons (ps_tryC (i := 4) T.g_ReadingError sc__law_heard.nd rfl rfl rfl rfl rfl rfl (takes_of rfl rfl rfl rfl) (fun W pn xe tk own => (pss_one (ps_set (i := 3) sc__law_heard.nd rfl (by first | exact Or.inl rfl | exact Or.inr rfl) (pe_cS c__law_asked hr (by first | decide | exact Nat.le_refl _) rfl tk (pa_cons (pv 0) (pa_cons (pv 1) pa_nil)))))) (fun a pn => (pss_one (ps_set (i := 2) sc__law_heard.nd rfl (by first | exact Or.inl rfl | exact Or.inr rfl) (pv 4)))))
    (pss_cons (ps_if (pt_cmpR op_isN (pv 2) pe_non (nomark _)) (pss_one (ps_ret (pe_lst (pa_cons pe_str (pa_cons (pv 3) pa_nil))))) pss_nil)
    (pss_one (ps_ret (pe_lst (pa_cons (pe_c c__law_door hr (by first | decide | exact Nat.le_refl _) rfl (passes_call (takes_of rfl rfl rfl rfl) (fun _ _ _ _ h => h)) (pa_cons (pv 2) pa_nil)) (pa_cons (pe_errVK (K := K) rfl (pv 2)) pa_nil)))))))), run_body h fun t S ht hl hcl wi => ?_⟩)
  have hl : S.A.length = 0 := hl
  have ht : AskS t := ht
  walk_at "pp"
  refine se_asgG ?_
  walk_at "pp"
  refine ge_pair ?_
  walk_at "pp"
  refine se_try (fun δ' c d μ' => δ' = [some (.int 0), some (.lst (argsQ t)), some .non, some .non, none] ∧ Bad a (ansQ t) c d ∧ d.lt 0 = true ∧ μ' = []) (sx_asg (ex_call ?_)) ?_
  · walk_at "pp"
    refine ⟨t, ht, rfl, ht.cl2, fun d z h1 => ?_, fun c d z h1 => ⟨rfl, z, h1, rfl⟩⟩
    have z : ansQ t = .told d := z
    walk_at "pp"
    refine ee_lst ?_
    walk_at "pp"
    walk_at "gp"
    refine gaveP hl ?_ ?_
    · show (true && (d.lt 0 && true)) = true
      rw [h1]
      rfl
    · show _ = heardO (ansQ t)
      rw [z]
      rfl
  rintro δ c d μ ⟨rfl, ⟨k, hk, rfl⟩, hd, rfl⟩
  obtain ⟨fI, he, hI⟩ := kind_of T k
  refine ⟨he, ?_⟩
  walk_at "pp"
  refine ee_lst ?_
  walk_at "pp"
  refine ee_cz ?_
  walk_at "pp"
  refine ⟨(k, d), trivial, rfl, by show (d.lt 0 && true) = true; rw [hd]; rfl, ?_⟩
  rintro r rfl
  walk_at "pp"
  refine ee_errV (fI := fun _ => fI) ?_
  walk_at "pp"
  refine ⟨hI, ?_⟩
  walk_at "pp"
  walk_at "gp"
  refine gaveP hl ?_ ?_
  · show ((wordK k).lt 0 && (d.lt 0 && true)) = true
    rw [hd]
    cases k <;> rfl
  · show _ = heardO (ansQ t)
    rw [hk]
    rfl
end


section
variable {P : Program} {w : World} {K : PySem.W.Frag} {mg : Str → Option Value} {base : Heap} {a : Ad} {f : Addr} {fd : FuncData}
def noCts (n : Nat) : List D := [.int (n : Int), .int ((n : Int) + 1), .int (-1), .bl true, .bl false, .non, .str (Str.ofString "0"), .lst [.int 0], .tup [.int 0], .int (10 ^ 12 - 1)]
abbrev spNoCounts (K : PySem.W.Frag) : Sp := ProP K (T := Nat) (fun n => [.int (n : Int)]) (fun n => n ≤ 10000000) (fun n r => r = .lst (noCts n)) (fun _ _ _ => False)
abbrev st__law_no_counts : Stmt := top 66
abbrev nm__law_no_counts : List Str := ["many"]
theorem sc__law_no_counts : FnScope nm__law_no_counts ["many"] (defScope st__law_no_counts) := ⟨rfl, rfl, rfl, by decide +kernel, rfl, by decide +kernel, by decide +kernel⟩
theorem ok_no_counts (F : Fun K "_law_no_counts" "_law_no_counts" st__law_no_counts f fd) (T : Tx P w K mg base a) : FnOk P w K mg base (L2.CX P w) 1 f fd ["many"] (spNoCounts K) := by
  refine F.okX sc__law_no_counts (fun vs H Q E h => pro_len h fun _ => rfl) (fun cdv A outer s H vs Q E hr h => ⟨_, (pss_one (ps_ret (pe_lst (pa_cons (pv 0) (pa_cons (pe_op (kO K rPlus rfl op_plus) (pv 0) pe_int) (pa_cons (pe_un un_neg pe_int) (pa_cons pe_bl (pa_cons pe_bl (pa_cons pe_non (pa_cons pe_str (pa_cons (pe_lst (pa_cons pe_int pa_nil)) (pa_cons (pe_tup (pa_cons pe_int pa_nil)) (pa_cons (pe_op op_sub (pe_op op_powW pe_int pe_int) pe_int) pa_nil))))))))))))), run_body h fun n S hn hl hcl wi => ?_⟩)
  have hl : S.A.length = 0 := hl
  walk_at "pp"
  refine ee_lst ?_
  walk_at "pp"
  refine ee_lst ?_
  walk_at "pp"
  refine oo_powW ⟨by decide, by decide +kernel⟩ ?_
  walk_at "pp"
  walk_at "gp"
  exact gaveP hl (by rfl) rfl
def fsK (z : Nat → Bool) : Nat → Nat
  | 0 => 0
  | i + 1 => stK z i
theorem kL_succ {g : Nat → Nat} {i : Nat} : kL g (i + 1) = kL g i ++ [.int (g i : Int)] := by
  unfold kL
  rw [List.range_succ, List.map_append]
  rfl
theorem stK_next {z : Nat → Bool} {i : Nat} : stK z i = if z i = false ∧ (i = 0 ∨ z (i - 1) = true) then i else fsK z i := by
  cases i with
  | zero =>
    show 0 = _
    split <;> rfl
  | succ i =>
    show (if (!z (i + 1) && z i) = true then i + 1 else stK z i) = if z (i + 1) = false ∧ (i + 1 = 0 ∨ z (i + 1 - 1) = true) then i + 1 else stK z i
    rw [Nat.add_sub_cancel]
    cases z (i + 1) <;> cases z i <;> simp
theorem oo_neI0 {S : Bs} {μ : List Cell} {C : D → List Cell → Prop} {l : List D} (h : ∀ c ∈ l, IntB c) (k : C (.bl (!l.isEmpty)) μ) : OO K S (rNeU K) (.lst l) (.lst []) μ C := by
  obtain ⟨ps, h1, h2, h3, h4⟩ := intb_py h
  refine oo_neD (p := .list ps) (q := .list []) ?_ rfl ?_ rfl ?_
  · show (D.pyAll l).map PyData.list = _
    rw [h1]
    rfl
  · show (PySem.PyData.canLayAll0 ps && decide (PySem.PyData.depthAll ps + 1 ≤ 64)) = true
    rw [h2, h3]
    rfl
  · have e : PyData.eqv (.list ps) (.list []) = l.isEmpty := by
      rw [← h4]
      cases ps <;> rfl
    rw [e]
    exact k
theorem ne_z {z : Bool} {c : Int} (h : z = decide (c = 0)) : (!decide (V.int c = V.int 0)) = !z := by rw [int_eq, h]
theorem stK_le {z : Nat → Bool} : ∀ i, stK z i ≤ i
  | 0 => Nat.le_refl _
  | i + 1 => by
    have := stK_le (z := z) i
    show (if (!z (i + 1) && z i) = true then i + 1 else stK z i) ≤ i + 1
    split <;> omega
theorem enK_le {z : Nat → Bool} {n f : Nat} (hf : f ≤ n) : f ≤ enK z n f ∧ enK z n f ≤ n := by
  refine ⟨enF_le _ _, ?_⟩
  obtain ⟨e, h1, h2, h3, h4⟩ := run_end (z := z) (n := n) (n - f) f (Nat.le_refl _) hf
  rw [enK_eq h1 h2 (fun j j1 j2 => ⟨by omega, h3 j j1 j2⟩) h4]
  exact h2
/-- the first must -/
theorem must_stop {z : Nat → Bool} {n w q : Nat} : match ((List.range' (q + 1) (topK n w q - q)).filter fun j => decide (kk z n w j = 2)) with
    | [] => stopK z n w q = topK n w q
    | s :: _ => stopK z n w q = s := by
  unfold stopK
  have e := List.head?_filter (p := fun j => decide (kk z n w j = 2)) (l := List.range' (q + 1) (topK n w q - q))
  rw [← e]
  cases (List.range' (q + 1) (topK n w q - q)).filter fun j => decide (kk z n w j = 2) <;> rfl
theorem rng_map {q m : Nat} : rng ((q : Int) + 1) m = (List.range' (q + 1) m).map intD := by
  unfold rng
  rw [List.range'_eq_map_range, List.map_map]
  refine List.map_congr_left fun i _ => ?_
  show D.int ((q : Int) + 1 + (i : Int)) = D.int (((q + 1 + i : Nat)) : Int)
  rw [show (q : Int) + 1 + (i : Int) = ((q + 1 + i : Nat) : Int) by omega]
abbrev st__law_greedy : Stmt := top 67
abbrev nm__law_greedy : List Str := ["cells", "width", "kinds", "first", "at", "begins", "end", "far", "free", "found", "last", "musts", "spot"]
theorem sc__law_greedy : FnScope nm__law_greedy ["cells", "width"] (defScope st__law_greedy) := ⟨rfl, rfl, rfl, by decide +kernel, rfl, by decide +kernel, by decide +kernel⟩
theorem ok_greedy (F : Fun K "_law_greedy" "_law_greedy" st__law_greedy f fd) (T : Tx P w K mg base a) : FnOk P w K mg base (L2.CX P w) 1 f fd ["cells", "width"] (spWins K) := by
  refine F.okX sc__law_greedy (fun vs H Q E h => pro_len h fun _ => rfl) (fun cdv A outer s H vs Q E hr h => ⟨_, (pss_cons (ps_asg (pe_tup (pa_cons (pe_lst pa_nil) (pa_cons pe_int pa_nil))) (pg_tupK (K := K) rfl rfl (pgs_cons (pg_name (i := 2) sc__law_greedy.nd rfl (by first | exact Or.inl rfl | exact Or.inr rfl)) (pgs_cons (pg_name (i := 3) sc__law_greedy.nd rfl (by first | exact Or.inl rfl | exact Or.inr rfl)) pgs_nil))))
    (pss_cons (ps_for (passes_of rfl) rfl (pi_range1 rfl T.b_range (pa_cons (pe_callB (kC K rLenU rfl call_lenU) (by rfl) T.b_len (by decide +kernel) (pa_cons (pv 0) pa_nil)) pa_nil)) (pg_name (i := 4) sc__law_greedy.nd rfl (by first | exact Or.inl rfl | exact Or.inr rfl))
      (pss_cons (ps_set (i := 5) sc__law_greedy.nd rfl (by first | exact Or.inl rfl | exact Or.inr rfl) (pe_and (pe_cmpR (kO K rNeU rfl (op_neU (hu64 hr))) (pe_ix (kX K rIx rfl ix_seq) (pv 0) (pv 4) (fun _ _ => rfl)) pe_int (nomark _)) (pe_one (pe_or (pe_cmpR (kO K rEqU rfl (op_eqU (hu64 hr))) (pv 4) pe_int (nomark _)) (pe_one (pe_cmpR (kO K rEqU rfl (op_eqU (hu64 hr))) (pe_ix (kX K rIx rfl ix_seq) (pv 0) (pe_op op_sub (pv 4) pe_int) (fun _ _ => rfl)) pe_int (nomark _)))))))
    (pss_cons (ps_set (i := 3) sc__law_greedy.nd rfl (by first | exact Or.inl rfl | exact Or.inr rfl) (pe_ifExp (pt_val (pv 5)) (pv 4) (pv 3)))
    (pss_cons (ps_set (i := 6) sc__law_greedy.nd rfl (by first | exact Or.inl rfl | exact Or.inr rfl) (pv 3))
    (pss_cons (ps_while (passes_of rfl) (PW.pt (pw_and (pt_cmpR op_less (pv 6) (pe_callB (kC K rLenU rfl call_lenU) (by rfl) T.b_len (by decide +kernel) (pa_cons (pv 0) pa_nil)) (nomark _)) (pw_and1 (pt_cmpR (kO K rNeU rfl (op_neU (hu64 hr))) (pe_ix (kX K rIx rfl ix_seq) (pv 0) (pv 6) (fun _ _ => rfl)) pe_int (nomark _))))) (pss_one (ps_set (i := 6) sc__law_greedy.nd rfl (by first | exact Or.inl rfl | exact Or.inr rfl) (pe_op (kO K rPlus rfl op_plus) (pv 6) pe_int))))
    (pss_cons (ps_set (i := 7) sc__law_greedy.nd rfl (by first | exact Or.inl rfl | exact Or.inr rfl) (pe_and (pe_cmpR (kO K rNeU rfl (op_neU (hu64 hr))) (pe_ix (kX K rIx rfl ix_seq) (pv 0) (pv 4) (fun _ _ => rfl)) pe_int (nomark _)) (pe_one (pe_cmpR op_gt (pe_op op_sub (pv 6) (pv 3)) (pv 1) (nomark _)))))
    (pss_cons (ps_set (i := 8) sc__law_greedy.nd rfl (by first | exact Or.inl rfl | exact Or.inr rfl) (pe_or (pe_cmpR (kO K rEqU rfl (op_eqU (hu64 hr))) (pv 4) pe_int (nomark _)) (pe_or (pe_cmpR (kO K rEqU rfl (op_eqU (hu64 hr))) (pe_ix (kX K rIx rfl ix_seq) (pv 0) (pe_op op_sub (pv 4) pe_int) (fun _ _ => rfl)) pe_int (nomark _)) (pe_one (pe_cmpR (kO K rEqU rfl (op_eqU (hu64 hr))) (pe_ix (kX K rIx rfl ix_seq) (pv 0) (pv 4) (fun _ _ => rfl)) pe_int (nomark _))))))
    (pss_one (ps_expr (pe_bmK (K := K) rfl PySem.F.plainAttrs_list PySem.F.slot_list_append PySem.F.type_list_append mt_append (pv 2) (pa_cons (pe_ifExp (pt_val (pv 7)) (pe_op op_timesU pe_int (pe_callTy call_int1 (by rfl) T.b_int (by decide +kernel) (pa_cons (pe_cmpR (kO K rEqU rfl (op_eqU (hu64 hr))) (pe_op op_mod (pe_op op_sub (pv 4) (pv 3)) (pv 1)) pe_int (nomark _)) pa_nil))) (pe_callTy call_int1 (by rfl) T.b_int (by decide +kernel) (pa_cons (pv 8) pa_nil))) pa_nil)))))))))))
    (pss_cons (ps_par (i := 9) (j := 4) rfl sc__law_greedy.nd rfl rfl (by decide) rfl rfl (pa_cons (pe_lst pa_nil) (pa_cons pe_int pa_nil)) (by rfl))
    (pss_cons (ps_while (passes_of rfl) (pt_cmpR op_less (pv 4) (pe_callB (kC K rLenU rfl call_lenU) (by rfl) T.b_len (by decide +kernel) (pa_cons (pv 0) pa_nil)) (nomark _)) (pss_cons (ps_set (i := 10) sc__law_greedy.nd rfl (by first | exact Or.inl rfl | exact Or.inr rfl) (pe_callB (call_min2 rfl) (by rfl) T.b_min (by decide +kernel) (pa_cons (pe_op (kO K rPlus rfl op_plus) (pv 4) (pv 1)) (pa_cons (pe_callB (kC K rLenU rfl call_lenU) (by rfl) T.b_len (by decide +kernel) (pa_cons (pv 0) pa_nil)) pa_nil))))
    (pss_cons (ps_setLc (i := 11) (own := [("spot", 12)]) (g := (gName 12)) rfl sc__law_greedy.nd rfl rfl (sw_true rfl rfl rfl (by decide +kernel)) (pi_range2 rfl T.b_range (pa_cons (pe_op (kO K rPlus rfl op_plus) (pv 4) pe_int) (pa_cons (pe_op (kO K rPlus rfl op_plus) (pv 10) pe_int) pa_nil))) (blkOk_by (own := [("spot", 12)]) (N := nm__law_greedy) (sc := (defScope st__law_greedy)) (by decide +kernel)) (fun _ _ _ _ _ => (pg_name (i := 12) sc__law_greedy.nd rfl (by first | exact Or.inl rfl | exact Or.inr rfl))) (fun _ _ _ _ _ => (pts_one (PW.pt (pw_and (pt_cmpR op_less (pv 12) (pe_callB (kC K rLenU rfl call_lenU) (by rfl) T.b_len (by decide +kernel) (pa_cons (pv 0) pa_nil)) (nomark _)) (pw_and1 (pt_cmpR (kO K rEqU rfl (op_eqU (hu64 hr))) (pe_ix (kX K rIx rfl ix_seq) (pv 2) (pv 12) (fun _ _ => rfl)) pe_int (nomark _))))))) (fun _ _ _ _ _ => (pv 12)))
    (pss_cons (ps_set (i := 10) sc__law_greedy.nd rfl (by first | exact Or.inl rfl | exact Or.inr rfl) (pe_ifExp (pt_cmpR (kO K rNeU rfl (op_neU (hu64 hr))) (pv 11) (pe_lst pa_nil) (nomark _)) (pe_ix (kX K rIx rfl ix_seq) (pv 11) pe_int (fun _ _ => rfl)) (pv 10)))
    (pss_cons (ps_while (passes_of rfl) (PW.pt (pw_and (pt_cmpR op_less (pv 10) (pe_callB (kC K rLenU rfl call_lenU) (by rfl) T.b_len (by decide +kernel) (pa_cons (pv 0) pa_nil)) (nomark _)) (pw_and1 (pt_cmpR (kO K rEqU rfl (op_eqU (hu64 hr))) (pe_ix (kX K rIx rfl ix_seq) (pv 2) (pv 10) (fun _ _ => rfl)) pe_int (nomark _))))) (pss_one (ps_set (i := 10) sc__law_greedy.nd rfl (by first | exact Or.inl rfl | exact Or.inr rfl) (pe_op op_sub (pv 10) pe_int))))
    (pss_cons (ps_expr (pe_bmK (K := K) rfl PySem.F.plainAttrs_list PySem.F.slot_list_append PySem.F.type_list_append mt_append (pv 9) (pa_cons (pe_tup (pa_cons (pv 4) (pa_cons (pv 10) pa_nil))) pa_nil)))
    (pss_one (ps_set (i := 4) sc__law_greedy.nd rfl (by first | exact Or.inl rfl | exact Or.inr rfl) (pv 10)))))))))
    (pss_one (ps_ret (pv 9))))))), run_body h fun ⟨l, w⟩ S ⟨hc, h0, hw⟩ hl hcl wi => ?_⟩)
  have hl : S.A.length = 0 := hl
  have hc : CellL l := hc
  have h0 : 0 < w := h0
  have hw : w ≤ 1000000 := hw
  have hz : l.length ≤ 1000000 := hc.1
  generalize hz0 : zc l = z
  walk_at "pp"
  refine se_asgG ?_
  walk_at "pp"
  refine ee_open ?_
  walk_at "pp"
  refine ge_pair ?_
  walk_at "pp"
  refine se_for (ie_rng1 ?_)
  walk_at "pp"
  refine cc_len (.lst _) ?_
  walk_at "pp"
  refine ⟨by show (-1000000000 : Int) ≤ (l.length : Int); omega, by show (l.length : Int) ≤ 1000000000; omega, ?_⟩
  show _ ∧ _
  rw [show ((((l, w).1.length : Nat) : Int)).toNat = l.length from Int.toNat_natCast _]
  refine ⟨rfl, fun i δ μ => ∃ x4 x5 x6 x7 x8 : Option D, δ = [some (.lst l), some (.int (w : Int)), some (.own 0), some (.int ((fsK z i : Nat) : Int)), x4, x5, x6, x7, x8, none, none, none, none] ∧ μ = [.lst (kL (kd z l.length w) i)], ⟨none, none, none, none, none, rfl, rfl⟩, ?_, ?_⟩
  · rintro i x δ μ hi ⟨x4, x5, x6, x7, x8, rfl, rfl⟩
    obtain ⟨hi2, rfl⟩ := rng_get hi
    rw [show (0 : Int) + (i : Int) = ((i : Nat) : Int) by omega]
    obtain ⟨c, hc1, hc2⟩ := hc.at hi2
    rw [hz0] at hc2
    refine ge_name ?_
    refine se_seq (se_asg (ee_val (z i = false ∧ (i = 0 ∨ z (i - 1) = true)) ?_ fun bg hbg => ?_))
    · walk_at "pp"
      refine oo_ixL (atI_of (j := i) hc1 rfl) ?_
      walk_at "pp"
      rw [ne_z hc2]
      refine ⟨fun h1 => ?_, fun h1 => ?_⟩
      · have h1 : z i = false := by simpa using h1
        walk_at "pp"
        rw [int_eq]
        refine ⟨fun h2 => ?_, fun h2 => ?_⟩
        · have h2 := of_decide_eq_true h2
          exact ⟨rfl, _, rfl, fun _ => ⟨h1, .inl (by omega)⟩, fun _ => rfl⟩
        · have h2 := of_decide_eq_false h2
          obtain ⟨c', hc1', hc2'⟩ := hc.at (i := i - 1) (by omega)
          rw [hz0] at hc2'
          walk_at "pp"
          refine oo_ixL (atI_of (j := i - 1) hc1' (by omega)) ?_
          walk_at "pp"
          rw [int_eq, ← hc2']
          refine ⟨rfl, _, rfl, fun h3 => ⟨h1, .inr h3⟩, fun h3 => ?_⟩
          rcases h3.2 with q | q
          · omega
          · exact q
      · have h1 : z i = true := by simpa using h1
        refine ⟨rfl, _, rfl, fun z => (by cases z), fun h3 => ?_⟩
        rw [h1] at h3
        cases h3.1
    refine se_seq (se_to (fun δ μ => δ = [some (.lst l), some (.int (w : Int)), some (.own 0), some (.int ((stK z i : Nat) : Int)), some (.int (i : Int)), some (.bl bg), x6, x7, x8, none, none, none, none] ∧ μ = [.lst (kL (kd z l.length w) i)]) ?_ ?_)
    · walk_at "pp"
      have es := stK_next (z := z) (i := i)
      refine ⟨fun h1 => ?_, fun h1 => ?_⟩
      · rw [if_pos (hbg.mp h1)] at es
        walk_at "pp"
        rw [es]
        subst h1
        exact ⟨rfl, rfl⟩
      · rw [if_neg (fun q => by rw [hbg.mpr q] at h1; cases h1)] at es
        walk_at "pp"
        rw [es]
        subst h1
        exact ⟨rfl, rfl⟩
    rintro δ μ ⟨rfl, rfl⟩
    have hsl := stK_le (z := z) i
    have hen := enK_le (z := z) (n := l.length) (f := stK z i) (by omega)
    walk_at "pp"
    refine se_to (fun δ μ => δ = [some (.lst l), some (.int (w : Int)), some (.own 0), some (.int ((stK z i : Nat) : Int)), some (.int (i : Int)), some (.bl bg), some (.int ((enK z l.length (stK z i) : Nat) : Int)), x7, x8, none, none, none, none] ∧ μ = [.lst (kL (kd z l.length w) i)]) ?_ ?_
    · refine se_while (fun m δ μ => ∃ e : Nat, m = l.length - e ∧ e ≤ l.length ∧ enK z l.length e = enK z l.length (stK z i) ∧ δ = [some (.lst l), some (.int (w : Int)), some (.own 0), some (.int ((stK z i : Nat) : Int)), some (.int (i : Int)), some (.bl bg), some (.int (e : Int)), x7, x8, none, none, none, none] ∧ μ = [.lst (kL (kd z l.length w) i)]) (l.length - stK z i) ⟨stK z i, rfl, by omega, rfl, rfl, rfl⟩ ?_
      rintro m δ μ ⟨e, rfl, he, hee, rfl, rfl⟩
      refine et_by (P := e < l.length ∧ z e = false) ?_ fun b hb => ⟨fun h => ?_, fun h => ?_⟩
      · walk_at "pp"
        refine cc_len (.lst _) ?_
        walk_at "pp"
        refine ⟨fun h1 => ?_, fun h1 => ?_⟩
        · have h1 : (e : Int) < (l.length : Int) := of_decide_eq_true h1
          obtain ⟨c', hc1', hc2'⟩ := hc.at (i := e) (by omega)
          rw [hz0] at hc2'
          walk_at "pp"
          refine oo_ixL (atI_of (j := e) hc1' rfl) ?_
          walk_at "pp"
          rw [ne_z hc2']
          refine ⟨rfl, fun q => ⟨by omega, by simpa using q⟩, fun q => by rw [q.2]; rfl⟩
        · have h1 : ¬ (e : Int) < (l.length : Int) := of_decide_eq_false h1
          exact ⟨rfl, fun q => (by cases q), fun q => (by omega)⟩
      · have hq := hb.mp h
        walk_at "pp"
        refine ⟨l.length - (e + 1), by omega, e + 1, rfl, by omega, ?_, rfl, rfl⟩
        rw [← hee, enK_step (f := e), if_pos hq]
      · have hq : ¬ (e < l.length ∧ z e = false) := fun q => by rw [hb.mpr q] at h; cases h
        rw [enK_step (f := e), if_neg hq] at hee
        rw [← hee]
        exact ⟨rfl, rfl⟩
    rintro δ μ ⟨rfl, rfl⟩
    refine se_seq (se_asg (ee_val (z i = false ∧ w < enK z l.length (stK z i) - stK z i) ?_ fun fa hfa => ?_))
    · walk_at "pp"
      refine oo_ixL (atI_of (j := i) hc1 rfl) ?_
      walk_at "pp"
      rw [ne_z hc2]
      refine ⟨fun h1 => ?_, fun h1 => ?_⟩
      · have h1 : z i = false := by simpa using h1
        walk_at "pp"
        refine ⟨rfl, _, rfl, fun q => ⟨h1, ?_⟩, fun q => ?_⟩
        · have q := of_decide_eq_true q
          omega
        · refine decide_eq_true ?_
          omega
      · have h1 : z i = true := by simpa using h1
        refine ⟨rfl, _, rfl, fun z => (by cases z), fun h3 => ?_⟩
        rw [h1] at h3
        cases h3.1
    refine se_seq (se_asg (ee_val (baseK z i = true) ?_ fun fr hfr => ?_))
    · walk_at "pp"
      rw [int_eq]
      refine ⟨fun h2 => ?_, fun h2 => ?_⟩
      · have h2 := of_decide_eq_true h2
        have h2 : i = 0 := by omega
        subst h2
        exact ⟨rfl, _, rfl, fun _ => rfl, fun _ => rfl⟩
      · have h2 := of_decide_eq_false h2
        obtain ⟨c', hc1', hc2'⟩ := hc.at (i := i - 1) (by omega)
        rw [hz0] at hc2'
        walk_at "pp"
        refine oo_ixL (atI_of (j := i - 1) hc1' (by omega)) ?_
        walk_at "pp"
        rw [int_eq, ← hc2']
        have eb : baseK z i = (z (i - 1) || z i) := by
          unfold baseK
          rw [decide_eq_false (by omega)]
          rfl
        refine ⟨fun h3 => ?_, fun h3 => ?_⟩
        · exact ⟨rfl, _, rfl, fun _ => by rw [eb, h3]; rfl, fun _ => rfl⟩
        · walk_at "pp"
          refine oo_ixL (atI_of (j := i) hc1 rfl) ?_
          walk_at "pp"
          rw [int_eq, ← hc2]
          exact ⟨rfl, _, rfl, fun q => by rw [eb, q, Bool.or_true], fun q => by rw [eb, h3] at q; exact q⟩
    walk_at "pp"
    refine ee_bm ?_
    walk_at "pp"
    refine ⟨.lst (.own rfl), ?_⟩
    have ekd : kd z l.length w i = if fa = true then (if (i - stK z i) % w = 0 then 2 else 0) else (if fr = true then 1 else 0) := by
      unfold kd
      by_cases q : fa = true
      · rw [if_pos (hfa.mp q), if_pos q]
      · rw [if_neg (fun h => q (hfa.mpr h)), if_neg q]
        by_cases q2 : fr = true
        · rw [if_pos (hfr.mp q2), if_pos q2]
        · rw [if_neg (fun h => q2 (hfr.mpr h)), if_neg q2]
    have fin : ∀ k : Int, k = ((kd z l.length w i : Nat) : Int) → kL (kd z l.length w) i ++ [.int k] = kL (kd z l.length w) (i + 1) := fun k e => by rw [kL_succ, e]
    walk_at "pp"
    refine ⟨fun h1 => ?_, fun h1 => ?_⟩
    · have h1 : fa = true := h1
      rw [if_pos h1] at ekd
      walk_at "pp"
      refine oo_mod (by omega) ?_
      walk_at "pp"
      refine cc_intB ?_
      walk_at "pp"
      refine oo_mul (mulW 3 3 (by decide) (by split <;> decide)) ?_
      walk_at "pp"
      refine mm_append rfl (by rw [kL_len]; omega) ?_
      walk_at "pp"
      refine ⟨_, _, _, _, _, rfl, ?_⟩
      refine congrArg (fun q => [Cell.lst q]) (fin _ ?_)
      rw [ekd, int_eq, show ((i : Int) - ((stK z i : Nat) : Int)) % (w : Int) = (((i - stK z i) % w : Nat) : Int) by rw [Int.natCast_emod, Int.natCast_sub hsl]]
      by_cases hm : (i - stK z i) % w = 0
      · rw [hm]
        rfl
      · rw [decide_eq_false (by omega), if_neg hm]
        rfl
    · have h1 : fa = false := h1
      rw [if_neg (by rw [h1]; exact Bool.false_ne_true)] at ekd
      walk_at "pp"
      refine cc_intB ?_
      walk_at "pp"
      refine mm_append rfl (by rw [kL_len]; omega) ?_
      walk_at "pp"
      refine ⟨_, _, _, _, _, rfl, ?_⟩
      refine congrArg (fun q => [Cell.lst q]) (fin _ ?_)
      rw [ekd]
      cases fr <;> rfl
  · rintro δ μ ⟨x4, x5, x6, x7, x8, rfl, rfl⟩
    rw [rng_len]
    walk_at "pp"
    refine se_par ?_
    walk_at "pp"
    refine ee_open ?_
    walk_at "pp"
    refine se_while (fun m δ μ => ∃ (j : Nat) (x3 x5 x6 x7 x8 x10 x11 x12 : Option D), j ≤ l.length ∧ m = l.length - (wN z l.length w j).1 ∧ δ = [some (.lst l), some (.int (w : Int)), some (.own 0), x3, some (.int (((wN z l.length w j).1 : Nat) : Int)), x5, x6, x7, x8, some (.own 1), x10, x11, x12] ∧ μ = [.lst (kL (kd z l.length w) l.length), .lst ((wN z l.length w j).2.map winD)]) l.length ⟨0, _, _, _, _, _, _, _, _, Nat.zero_le _, rfl, rfl, rfl⟩ ?_
    rintro m δ μ ⟨j, x3, x5, x6, x7, x8, x10, x11, x12, hj, rfl, rfl, rfl⟩
    obtain ⟨w1, w2, w3, w4, w5⟩ := wN_ok (z := z) (n := l.length) h0 j
    walk_at "pp"
    refine cc_len (.lst _) ?_
    walk_at "pp"
    refine ⟨fun hb => ?_, fun hb => ?_⟩
    · have hlt : (wN z l.length w j).1 < l.length := by have := of_decide_eq_true hb; omega
      have hj2 := wN_lt h0 hj hlt
      have es := wN_succ (z := z) (n := l.length) (w := w) hlt
      obtain ⟨v1, v2, v3⟩ := win_ok h0 hlt w1
      generalize hA : (wN z l.length w j).1 = q at *
      generalize hB : (wN z l.length w j).2 = fs at *
      have ht : q ≤ topK l.length w q ∧ topK l.length w q ≤ l.length := by unfold topK; omega
      have hstop := stop_le (z := z) (n := l.length) (w := w) (a := q)
      obtain ⟨sj, sj1, sj2, sj3⟩ := stop_part (z := z) h0 hlt w1
      obtain ⟨d1, d2, d3⟩ := down_top (stopK z l.length w q) ⟨sj, sj2, by omega, sj3⟩
      have hkat : ∀ i, i < l.length → (kL (kd z l.length w) l.length)[i]? = some (.int ((kd z l.length w i : Nat) : Int)) := fun i h => kL_at h
      walk_at "pp"
      refine cc_len (.lst _) ?_
      walk_at "pp"
      have et : (if ((l.length : Nat) : Int) < (q : Int) + (w : Int) then ((l.length : Nat) : Int) else (q : Int) + (w : Int)) = ((topK l.length w q : Nat) : Int) := by
        unfold topK
        split <;> omega
      rw [et]
      refine ee_lc (ie_rng2 ?_)
      walk_at "pp"
      refine ⟨⟨by omega, by omega, by omega, by omega⟩, ?_⟩
      rw [show (((topK l.length w q : Nat) : Int) + 1 - ((q : Int) + 1)).toNat = topK l.length w q - q by omega]
      refine ⟨fun _ h => h, trivial, fun x => decide (kk z l.length w (dotN x) = 2), fun x => x, by rw [rng_len]; omega, fun x hx _ => ?_, fun x acc hx => ?_, ?_⟩
      · obtain ⟨i, hi⟩ := List.getElem?_of_mem hx
        obtain ⟨_, rfl⟩ := rng_get hi
        rfl
      · obtain ⟨i, hi⟩ := List.getElem?_of_mem hx
        obtain ⟨hi2, rfl⟩ := rng_get hi
        rw [show (q : Int) + 1 + (i : Int) = ((q + 1 + i : Nat) : Int) by omega]
        refine gw_name (by decide) ?_
        refine et_by (P := kk z l.length w (q + 1 + i) = 2) ?_ fun b hb => ⟨?_, rfl, fun _ => ?_⟩
        · walk_at "pp"
          refine cc_len (.lst _) ?_
          walk_at "pp"
          refine ⟨fun h1 => ?_, fun h1 => ?_⟩
          · have h1 : ((q + 1 + i : Nat) : Int) < (l.length : Int) := of_decide_eq_true h1
            walk_at "pp"
            refine oo_ixO rfl (atI_of (j := q + 1 + i) (hkat _ (by omega)) rfl) ?_
            walk_at "pp"
            rw [int_eq]
            have ek : kk z l.length w (q + 1 + i) = kd z l.length w (q + 1 + i) := if_pos (by omega)
            exact ⟨rfl, fun h => by have h := of_decide_eq_true h; omega, fun h => decide_eq_true (by omega)⟩
          · have h1 : ¬ ((q + 1 + i : Nat) : Int) < (l.length : Int) := of_decide_eq_false h1
            have ek : kk z l.length w (q + 1 + i) = 1 := if_neg (by omega)
            exact ⟨rfl, fun h => (by cases h), fun h => (by omega)⟩
        · show b = decide (kk z l.length w (dotN (.int ((q + 1 + i : Nat) : Int))) = 2)
          rw [show dotN (.int ((q + 1 + i : Nat) : Int)) = q + 1 + i from Int.toNat_natCast _]
          cases b with
          | true => exact (decide_eq_true (hb.mp rfl)).symm
          | false => exact (decide_eq_false fun h => by cases hb.mpr h).symm
        · walk_at "pp"
          exact ⟨rfl, rfl⟩
      have hm := must_stop (z := z) (n := l.length) (w := w) (q := q)
      have ef : ((rng ((q : Int) + 1) (topK l.length w q - q)).filter fun x => decide (kk z l.length w (dotN x) = 2)).map (fun x => x) = ((List.range' (q + 1) (topK l.length w q - q)).filter fun j => decide (kk z l.length w j = 2)).map intD := by
        rw [List.map_id', rng_map, List.filter_map]
        rfl
      rw [ef]
      generalize (List.range' (q + 1) (topK l.length w q - q)).filter (fun j => decide (kk z l.length w j = 2)) = ms at hm
      refine se_seq (se_to (fun δ μ => δ = [some (.lst l), some (.int (w : Int)), some (.own 0), x3, some (.int (q : Int)), x5, x6, x7, x8, some (.own 1), some (.int ((stopK z l.length w q : Nat) : Int)), some (.lst (ms.map intD)), x12] ∧ μ = [.lst (kL (kd z l.length w) l.length), .lst (fs.map winD)]) ?_ ?_)
      · walk_at "pp"
        refine ee_lst ?_
        walk_at "pp"
        refine oo_neI0 (fun c hc => by obtain ⟨i, _, rfl⟩ := List.mem_map.mp hc; exact .inl ⟨_, rfl⟩) ?_
        cases ms with
        | nil =>
          have hm : stopK z l.length w q = topK l.length w q := hm
          walk_at "pp"
          rw [hm]
          exact ⟨rfl, rfl⟩
        | cons s0 ms =>
          have hm : stopK z l.length w q = s0 := hm
          walk_at "pp"
          refine oo_ixL (d := intD s0) (atI_of (j := 0) rfl rfl) ?_
          walk_at "pp"
          rw [hm]
          exact ⟨rfl, rfl⟩
      rintro δ μ ⟨rfl, rfl⟩
      refine se_seq (se_to (fun δ μ => δ = [some (.lst l), some (.int (w : Int)), some (.own 0), x3, some (.int (q : Int)), x5, x6, x7, x8, some (.own 1), some (.int ((winK z l.length w q : Nat) : Int)), some (.lst (ms.map intD)), x12] ∧ μ = [.lst (kL (kd z l.length w) l.length), .lst (fs.map winD)]) ?_ ?_)
      · refine se_while (fun m δ μ => ∃ v : Nat, m = v ∧ winK z l.length w q ≤ v ∧ v ≤ l.length ∧ downK z l.length w v = winK z l.length w q ∧ δ = [some (.lst l), some (.int (w : Int)), some (.own 0), x3, some (.int (q : Int)), x5, x6, x7, x8, some (.own 1), some (.int (v : Int)), some (.lst (ms.map intD)), x12] ∧ μ = [.lst (kL (kd z l.length w) l.length), .lst (fs.map winD)]) (stopK z l.length w q) ⟨_, rfl, d2, by omega, rfl, rfl, rfl⟩ ?_
        rintro v δ μ ⟨_, rfl, hv1, hv2, hv3, rfl, rfl⟩
        refine et_by (P := kk z l.length w v = 0) ?_ fun b hb => ⟨fun h => ?_, fun h => ?_⟩
        · walk_at "pp"
          refine cc_len (.lst _) ?_
          walk_at "pp"
          refine ⟨fun h1 => ?_, fun h1 => ?_⟩
          · have h1 : (v : Int) < (l.length : Int) := of_decide_eq_true h1
            walk_at "pp"
            refine oo_ixO rfl (atI_of (j := v) (hkat _ (by omega)) rfl) ?_
            walk_at "pp"
            rw [int_eq]
            have ek : kk z l.length w v = kd z l.length w v := if_pos (by omega)
            exact ⟨rfl, fun h => by have h := of_decide_eq_true h; omega, fun h => decide_eq_true (by omega)⟩
          · have h1 : ¬ (v : Int) < (l.length : Int) := of_decide_eq_false h1
            have ek : kk z l.length w v = 1 := if_neg (by omega)
            exact ⟨rfl, fun h => (by cases h), fun h => (by omega)⟩
        · have hq := hb.mp h
          have hne : v ≠ winK z l.length w q := fun e => by rw [e] at hq; omega
          obtain ⟨u, rfl⟩ : ∃ u, v = u + 1 := ⟨v - 1, by omega⟩
          have ed : downK z l.length w (u + 1) = downK z l.length w u := if_neg (by omega)
          walk_at "pp"
          refine ⟨u, Nat.lt_succ_self _, u, rfl, by omega, by omega, by rw [← ed]; exact hv3, ?_, rfl⟩
          rw [show ((u + 1 : Nat) : Int) - 1 = (u : Int) by omega]
          rfl
        · have hq : kk z l.length w v ≠ 0 := fun q => by rw [hb.mpr q] at h; cases h
          obtain ⟨u, rfl⟩ : ∃ u, v = u + 1 := ⟨v - 1, by omega⟩
          have ed : downK z l.length w (u + 1) = u + 1 := if_pos (by omega)
          rw [ed] at hv3
          rw [← hv3]
          exact ⟨rfl, rfl⟩
      rintro δ μ ⟨rfl, rfl⟩
      walk_at "pp"
      refine ee_bm ?_
      walk_at "pp"
      refine ⟨.lst (.own rfl), ?_⟩
      walk_at "pp"
      refine mm_append (k := 1) rfl (by rw [List.length_map]; omega) ?_
      walk_at "pp"
      refine ⟨l.length - (wN z l.length w (j + 1)).1, by rw [es]; show l.length - winK z l.length w q < _; omega, j + 1, x3, x5, x6, x7, x8, some (.int ((winK z l.length w q : Nat) : Int)), some (.lst (ms.map intD)), x12, hj2, rfl, ?_, ?_⟩
      rotate_left
      · rw [es]
        show [_, Cell.lst (fs.map winD ++ [winD (q, winK z l.length w q)])] = _
        rw [List.map_append]
        rfl
      · rw [es]
        rfl
    · have hge : ¬ (wN z l.length w j).1 < l.length := by have := of_decide_eq_false hb; omega
      walk_at "pp"
      walk_at "gp"
      refine gaveN hl (k := 1) rfl wins_cl ?_
      rw [wN_end h0 hj hge, hz0]
end


section
variable {P : Program} {w : World} {K : PySem.W.Frag} {mg : Str → Option Value} {base : Heap} {a : Ad} {f : Addr} {fd : FuncData}
structure LMarkPre (t : List D × Nat × Nat × D) : Prop where
  sp : SpOk t.1
  z : (t.1.flatMap cellsN).length ≤ 1000000
  a : ∀ k, k < t.2.1 → ∃ x ∈ t.1, inS k x = true
  n : t.2.1 ≤ 1000000
  m : isMark t.2.1 t.2.2.2 = true
abbrev spLMarked (K : PySem.W.Frag) : Sp := ProP K (T := List D × Nat × Nat × D) (fun t => [.lst t.1, .int (t.2.1 : Int), .int (t.2.2.1 : Int), t.2.2.2]) LMarkPre (fun t r => r = .lst ((markedN t.1 t.2.2.1 t.2.1 t.2.2.2).map intD)) (fun _ _ _ => False)
theorem over_any {i j p q : Nat} (hij : i < j) (hpq : p < q) : (!((List.range' p (q - p)).filter fun k => decide (i ≤ k) && decide (k < j)).isEmpty) = (decide (p < j) && decide (i < q)) := by
  have key : ((List.range' p (q - p)).filter fun k => decide (i ≤ k) && decide (k < j)).isEmpty = true ↔ ¬ (p < j ∧ i < q) := by
    rw [List.isEmpty_iff, List.filter_eq_nil_iff]
    constructor
    · rintro h ⟨h1, h2⟩
      refine h (max i p) (by rw [List.mem_range'_1]; omega) ?_
      rw [decide_eq_true (by omega), decide_eq_true (by omega)]
      rfl
    · rintro h k hk hb
      rw [List.mem_range'_1] at hk
      simp only [Bool.and_eq_true, decide_eq_true_eq] at hb
      exact h (by omega)
  cases hb : (decide (p < j) && decide (i < q)) with
  | true =>
    simp only [Bool.and_eq_true, decide_eq_true_eq] at hb
    rw [Bool.not_eq_true', ← Bool.not_eq_true, key]
    exact fun z => z hb
  | false =>
    rw [Bool.not_eq_false', key]
    intro z
    rw [decide_eq_true z.1, decide_eq_true z.2] at hb
    cases hb
abbrev st__law_marked : Stmt := top 77
abbrev nm__law_marked : List Str := ["spans", "size", "many", "mark", "start", "end", "shape", "some", "span", "sign"]
theorem sc__law_marked : FnScope nm__law_marked ["spans", "size", "many", "mark"] (defScope st__law_marked) := ⟨rfl, rfl, rfl, by decide +kernel, rfl, by decide +kernel, by decide +kernel⟩
theorem ok_lmarked (F : Fun K "_law_marked" "_law_marked" st__law_marked f fd) (T : Tx P w K mg base a) (c__law_led_cell : CalX P w K mg base 1 "_law_led_cell" ["spans", "sign"] (spLedC K)) : FnOk P w K mg base (L2.CX P w) 2 f fd ["spans", "size", "many", "mark"] (spLMarked K) := by
  refine F.okX sc__law_marked (fun vs H Q E h => pro_len h fun _ => rfl) (fun cdv A outer s H vs Q E hr h => ⟨_, (pss_cons (ps_asg (pv 3) (pg_tupK (K := K) rfl rfl (pgs_cons (pg_name (i := 4) sc__law_marked.nd rfl (by first | exact Or.inl rfl | exact Or.inr rfl)) (pgs_cons (pg_name (i := 5) sc__law_marked.nd rfl (by first | exact Or.inl rfl | exact Or.inr rfl)) (pgs_cons (pg_name (i := 6) sc__law_marked.nd rfl (by first | exact Or.inl rfl | exact Or.inr rfl)) pgs_nil)))))
    (pss_cons (ps_if (pt_cmpR op_less (pv 4) (pv 5) (nomark _)) (pss_cons (ps_setLc (i := 7) (own := [("span", 8)]) (g := (gName 8)) rfl sc__law_marked.nd rfl rfl (sw_true rfl rfl rfl (by decide +kernel)) (pi_listK (K := K) rfl (pv 0)) (blkOk_by (own := [("span", 8)]) (N := nm__law_marked) (sc := (defScope st__law_marked)) (by decide +kernel)) (fun _ _ _ _ _ => (pg_name (i := 8) sc__law_marked.nd rfl (by first | exact Or.inl rfl | exact Or.inr rfl))) (fun _ _ _ _ _ => (pts_one (pt_cmpR (kO K rNeU rfl (op_neU (hu64 hr))) (pe_lc (own := [("sign", 9)]) (g := (gName 9)) rfl sc__law_marked.nd (pi_range2 rfl T.b_range (pa_cons (pe_ix (kX K rIx rfl ix_seq) (pv 8) pe_int (fun _ _ => rfl)) (pa_cons (pe_ix (kX K rIx rfl ix_seq) (pv 8) pe_int (fun _ _ => rfl)) pa_nil))) (blkOk_by (own := [("sign", 9)]) (N := nm__law_marked) (sc := (scRel (defScope st__law_marked) (scOf (stE (stB 0 (stB 1 st__law_marked)))))) (by decide +kernel)) (fun _ _ _ _ _ => (pg_name (i := 9) sc__law_marked.nd rfl (by first | exact Or.inl rfl | exact Or.inr rfl))) (fun _ _ _ _ _ => (pts_one (pt_chain op_leq op_less (pv 4) (pv 9) (pv 5)))) (fun _ _ _ _ _ => (pv 9))) (pe_lst pa_nil) (nomark _)))) (fun _ _ _ _ _ => (pv 8)))
    (pss_one (ps_ret (pe_callB (kC K rSumL rfl (cr_sumL rfl)) (by rfl) T.b_sum (by decide +kernel) (pa_cons (pe_lc (own := [("span", 8)]) (tt := tYes) (g := (gName 8)) rfl sc__law_marked.nd (pi_listK (K := K) rfl (pv 7)) (blkOk_by (own := [("span", 8)]) (N := nm__law_marked) (sc := (defScope st__law_marked)) (by decide +kernel)) (fun _ _ _ _ _ => (pg_name (i := 8) sc__law_marked.nd rfl (by first | exact Or.inl rfl | exact Or.inr rfl))) (fun _ _ _ _ _ => pts_nil) (fun _ _ _ _ _ => (pe_listRg rfl (by rfl) T.b_list (prg_2 (by rfl) T.b_range (pe_ix (kX K rIx rfl ix_seq) (pv 8) pe_int (fun _ _ => rfl)) (pe_ix (kX K rIx rfl ix_seq) (pv 8) pe_int (fun _ _ => rfl)))))) (pa_cons (pe_lst pa_nil) pa_nil)))))) pss_nil)
    (pss_one (ps_ret (pe_ifExp (pt_cmpR op_less (pv 4) (pv 1) (nomark _)) (pe_lst (pa_cons (pe_c c__law_led_cell hr (by first | decide | exact Nat.le_refl _) rfl (passes_call (takes_of rfl rfl rfl rfl) (fun _ _ _ _ h => h)) (pa_cons (pv 0) (pa_cons (pv 4) pa_nil))) pa_nil)) (pe_lst (pa_cons (pv 2) pa_nil))))))), run_body h fun ⟨sp, n, nc, d⟩ S hp hl hcl wi => ?_⟩)
  have hl : S.A.length = 0 := hl
  have hp : LMarkPre (sp, n, nc, d) := hp
  obtain ⟨hs, hz, ha, hn, hm⟩ := hp
  have hs : SpOk sp := hs
  have hz : (sp.flatMap cellsN).length ≤ 1000000 := hz
  have hsz := hs.z
  obtain ⟨i, j, k, rfl, hij, hjn, hk1, hk3⟩ := mark_of hm
  have hjn : j ≤ n := hjn
  have hn : n ≤ 1000000 := hn
  have e0 : nI (.tup [.int (i : Int), .int (j : Int), .int (k : Int)]) 0 = i := Int.toNat_natCast _
  have e1 : nI (.tup [.int (i : Int), .int (j : Int), .int (k : Int)]) 1 = j := Int.toNat_natCast _
  walk_at "pp"
  refine se_asgG ?_
  walk_at "pp"
  refine ge_three ?_
  walk_at "pp"
  refine ⟨fun hb => ?_, fun hb => ?_⟩
  · have hb : i < j := by have := of_decide_eq_true hb; omega
    have eN : markedN sp nc n (.tup [.int (i : Int), .int (j : Int), .int (k : Int)]) = (sp.filter (overS (.tup [.int (i : Int), .int (j : Int), .int (k : Int)]))).flatMap cellsN := by
      unfold markedN
      rw [e0, e1, if_pos hb]
    have eo : ∀ x ∈ sp, ∃ p q c e : Nat, x = spanD p q c e ∧ p < q ∧ c < e ∧ e ≤ 10000000 ∧ q ≤ 10000000 ∧ overS (.tup [.int (i : Int), .int (j : Int), .int (k : Int)]) x = (decide (p < j) && decide (i < q)) := fun x hx => by
      obtain ⟨p, q, c, e, rfl, hpq, hce, he, hq⟩ := hs.s x hx
      have o0 : nI (spanD p q c e) 0 = p := Int.toNat_natCast _
      have o1 : nI (spanD p q c e) 1 = q := Int.toNat_natCast _
      refine ⟨p, q, c, e, rfl, hpq, hce, he, hq, ?_⟩
      unfold overS
      rw [o0, o1, e0, e1]
    generalize hM : (D.tup [.int (i : Int), .int (j : Int), .int (k : Int)]) = M at *
    walk_at "pp"
    refine ee_lc (ie_list ?_)
    walk_at "pp"
    refine ⟨sp, .inl rfl, fun _ h => h, trivial, overS M, fun x => x, by omega, fun x hx _ => D.ltL_all.mp hs.cl x hx, fun x acc hx => ?_, ?_⟩
    · obtain ⟨p, q, c, e, rfl, hpq, hce, he, hq, ho⟩ := eo x hx
      refine gw_name (by decide) ?_
      walk_at "pp"
      refine ee_lc (ie_rng2 ?_)
      walk_at "pp"
      refine oo_ixT (d := .int (p : Int)) rfl ?_
      walk_at "pp"
      refine oo_ixT (d := .int (q : Int)) rfl ?_
      walk_at "pp"
      rw [show ((q : Int) - (p : Int)).toNat = q - p by omega]
      refine ⟨⟨by omega, by omega, by omega, by omega⟩, fun _ h => h, trivial, fun y => decide (i ≤ dotN y) && decide (dotN y < j), fun y => y, by rw [rng_len]; omega, fun y hy _ => ?_, fun y acc hy => ?_, ?_⟩
      · rw [rng_nat] at hy
        obtain ⟨u, _, rfl⟩ := List.mem_map.mp hy
        rfl
      · rw [rng_nat] at hy
        obtain ⟨u, _, rfl⟩ := List.mem_map.mp hy
        have eu : dotN (intD u) = u := Int.toNat_natCast _
        refine gw_name (by decide) ?_
        walk_at "pp"
        refine ⟨fun hb => ?_, fun hb => ?_⟩
        · have hb : ¬ (i : Int) ≤ (u : Int) := of_decide_eq_false hb
          refine ⟨_, rfl, ?_, rfl, fun z => by cases z⟩
          show _ = (decide (i ≤ dotN (intD u)) && decide (dotN (intD u) < j))
          rw [eu, decide_eq_false (show ¬ i ≤ u by omega)]
          rfl
        · have hb : (i : Int) ≤ (u : Int) := of_decide_eq_true hb
          walk_at "pp"
          refine ⟨?_, rfl, fun _ => ?_⟩
          · show _ = (decide (i ≤ dotN (intD u)) && decide (dotN (intD u) < j))
            rw [eu, decide_eq_true (show i ≤ u by omega)]
            exact decide_eq_decide.mpr (by omega)
          · walk_at "pp"
            exact ⟨rfl, rfl⟩
      · rw [List.map_id', rng_nat, List.filter_map]
        walk_at "pp"
        refine ee_lst ?_
        walk_at "pp"
        refine oo_neI0 (fun c hc => by obtain ⟨i, _, rfl⟩ := List.mem_map.mp hc; exact .inl ⟨_, rfl⟩) ?_
        walk_at "pp"
        refine ⟨?_, rfl, fun _ => ?_⟩
        · rw [ho, ← over_any hb hpq, List.isEmpty_map]
          rfl
        · walk_at "pp"
          exact ⟨rfl, rfl⟩
    rw [List.map_id']
    walk_at "pp"
    refine ee_lc (ie_list ?_)
    walk_at "pp"
    have hfl2 : (sp.filter (overS M)).length ≤ sp.length := List.length_filter_le _ _
    refine ⟨_, .inl rfl, fun _ h => h, trivial, fun _ => true, fun x => .lst ((cellsN x).map intD), by omega, fun x hx _ => ints_cl, fun x acc hx => ?_, ?_⟩
    · obtain ⟨p, q, c, e, rfl, hpq, hce, he, hq, ho⟩ := eo x (List.mem_filter.mp hx).1
      refine gw_name (by decide) ?_
      refine et_yes ?_
      refine ⟨rfl, rfl, fun _ => ?_⟩
      refine ee_listRg ?_
      walk_at "pp"
      refine oo_ixT (d := .int (c : Int)) rfl ?_
      walk_at "pp"
      refine oo_ixT (d := .int (e : Int)) rfl ?_
      walk_at "pp"
      refine ⟨_, _, rfl, rfl, RgOk.of_le (by omega) (by omega) (by omega) (by omega), ?_⟩
      rw [show ((e : Int) - (c : Int)).toNat = e - c by omega, rng_nat]
      exact ⟨rfl, rfl⟩
    rw [show ((sp.filter (overS M)).filter fun _ => true).map (fun x => D.lst ((cellsN x).map intD)) = ((sp.filter (overS M)).map fun x => (cellsN x).map intD).map D.lst by
      rw [List.filter_eq_self.mpr fun _ _ => rfl, List.map_map]
      rfl]
    walk_at "pp"
    refine ee_lst ?_
    walk_at "pp"
    have efl : ((sp.filter (overS M)).map fun x => (cellsN x).map intD).flatten = ((sp.filter (overS M)).flatMap cellsN).map intD := by
      rw [← List.flatMap_def, flat_int]
    refine cc_sumL ?_ ?_
    · rw [efl, List.length_map]
      have := flat_le (f := cellsN) (p := overS M) (l := sp)
      omega
    rw [efl]
    walk_at "gp"
    exact gaveP hl (by show D.ltL 0 _ = true; exact ints_cl) (by rw [eN])
  · have hb : ¬ i < j := by have := of_decide_eq_false hb; omega
    walk_at "pp"
    refine ⟨fun hc => ?_, fun hc => ?_⟩
    · have hc : (i : Int) < (n : Int) := of_decide_eq_true hc
      have hc : i < n := by omega
      walk_at "pp"
      refine ee_lst ?_
      walk_at "pp"
      refine ee_cz ?_
      walk_at "pp"
      refine ⟨(sp, i), ⟨hs, ha i hc, by show i ≤ _; omega⟩, rfl, by show (D.ltL 0 sp && (true && true)) = true; rw [hs.cl]; rfl, ?_⟩
      rintro r rfl
      walk_at "pp"
      walk_at "gp"
      refine gaveP hl (by rfl) ?_
      show _ = D.lst ((markedN sp nc n _).map intD)
      unfold markedN
      rw [e0, e1, if_neg hb, if_pos hc]
      rfl
    · have hc : ¬ (i : Int) < (n : Int) := of_decide_eq_false hc
      have hc : ¬ i < n := by omega
      walk_at "pp"
      refine ee_lst ?_
      walk_at "pp"
      walk_at "gp"
      refine gaveP hl (by rfl) ?_
      show _ = D.lst ((markedN sp nc n _).map intD)
      unfold markedN
      rw [e0, e1, if_neg hb, if_neg hc]
      rfl
end


section
variable {P : Program} {w : World} {K : PySem.W.Frag} {mg : Str → Option Value} {base : Heap} {a : Ad} {f : Addr} {fd : FuncData}
/-- data that may be compared, at most so deep -/
def Py (k : Nat) (d : D) : Prop := ∃ p, D.py d = some p ∧ PySem.PyData.canLay0 p = true ∧ PySem.PyData.depth p ≤ k
theorem py_all {k : Nat} : ∀ {l : List D}, (∀ c ∈ l, Py k c) → ∃ ps, D.pyAll l = some ps ∧ PySem.PyData.canLayAll0 ps = true ∧ PySem.PyData.depthAll ps ≤ k ∧ ps.isEmpty = l.isEmpty
  | [], _ => ⟨[], rfl, rfl, Nat.zero_le _, rfl⟩
  | c :: l, h => by
    obtain ⟨ps, h1, h2, h3, _⟩ := py_all (l := l) fun x hx => h x (List.mem_cons_of_mem _ hx)
    obtain ⟨p, q1, q2, q3⟩ := h c List.mem_cons_self
    refine ⟨p :: ps, ?_, ?_, ?_, rfl⟩
    · show (match D.py c, D.pyAll l with | some p, some ps => some (p :: ps) | _, _ => none) = _
      rw [h1, q1]
    · show (PySem.PyData.canLay0 p && PySem.PyData.canLayAll0 ps) = true
      rw [q2, h2]
      rfl
    · show max (PySem.PyData.depth p) (PySem.PyData.depthAll ps) ≤ k
      omega
theorem py_int {i : Int} : Py 0 (.int i) := ⟨.int i, rfl, rfl, Nat.le_refl _⟩
theorem py_tup {k : Nat} {l : List D} (h : ∀ c ∈ l, Py k c) : Py (k + 1) (.tup l) := by
  obtain ⟨ps, h1, h2, h3, h4⟩ := py_all h
  refine ⟨.tuple ps, ?_, h2, Nat.succ_le_succ h3⟩
  show (D.pyAll l).map PyData.tuple = _
  rw [h1]
  rfl
theorem py_lst {k : Nat} {l : List D} (h : ∀ c ∈ l, Py k c) : Py (k + 1) (.lst l) := by
  obtain ⟨ps, h1, h2, h3, h4⟩ := py_all h
  refine ⟨.list ps, ?_, h2, Nat.succ_le_succ h3⟩
  show (D.pyAll l).map PyData.list = _
  rw [h1]
  rfl
theorem py_ints {l : List Int} : Py 1 (.tup (l.map D.int)) := py_tup fun c hc => by
  obtain ⟨i, _, rfl⟩ := List.mem_map.mp hc
  exact py_int
theorem oo_nePy0 {S : Bs} {μ : List Cell} {C : D → List Cell → Prop} {l : List D} {k : Nat} (h : ∀ c ∈ l, Py k c) (hk : k ≤ 60) (c : C (.bl (!l.isEmpty)) μ) : OO K S (rNeU K) (.lst l) (.lst []) μ C := by
  obtain ⟨ps, h1, h2, h3, h4⟩ := py_all h
  refine oo_neD (p := .list ps) (q := .list []) ?_ rfl ?_ rfl ?_
  · show (D.pyAll l).map PyData.list = _
    rw [h1]
    rfl
  · show (PySem.PyData.canLayAll0 ps && decide (PySem.PyData.depthAll ps + 1 ≤ 64)) = true
    rw [h2, decide_eq_true (by omega)]
    rfl
  · have e : PyData.eqv (.list ps) (.list []) = l.isEmpty := by
      rw [← h4]
      cases ps <;> rfl
    rw [e]
    exact c
theorem oo_neSelf {S : Bs} {μ : List Cell} {C : D → List Cell → Prop} {d : D} {k : Nat} (h : Py k d) (hk : k ≤ 60) (c : C (.bl false) μ) : OO K S (rNeU K) d d μ C := by
  obtain ⟨p, h1, h2, h3⟩ := h
  have hs : SeqAt.shaped p = true := by
    show (PySem.PyData.canLay0 p && decide (PySem.PyData.depth p ≤ 64)) = true
    rw [h2, decide_eq_true (by omega)]
    rfl
  refine oo_neD h1 h1 hs hs ?_
  rw [PySem.SeqAt.eqv_refl p h2]
  exact c
theorem wins_py {ws : List (Nat × Nat)} : ∀ c ∈ ws.map winD, Py 1 c := fun c hc => by
  obtain ⟨p, _, rfl⟩ := List.mem_map.mp hc
  exact py_ints (l := [(p.1 : Int), (p.2 : Int)])
structure DuePre (t : (List D × List D × List D) × Nat × Nat × Nat × List D) : Prop where
  cs : CellL t.1.1
  z : t.1.1.length ≤ 20000
  sp : SpOk t.1.2.1
  f : (t.1.2.1.flatMap cellsN).length = t.1.1.length
  st : D.ltL 0 t.1.2.2 = true
  n : t.2.1 ≤ 200
  a : ∀ k, k < t.2.1 → ∃ x ∈ t.1.2.1, inS k x = true
  w0 : 0 < t.2.2.1
  wz : t.2.2.1 ≤ 1000
  m : t.2.2.2.1 < max (winsOf t.1.1 t.2.2.1).length 1
  ms : t.2.2.2.2.all (isMark t.2.1) = true
  mz : t.2.2.2.2.length ≤ 100
abbrev spDue (K : PySem.W.Frag) : Sp := ProP K (T := (List D × List D × List D) × Nat × Nat × Nat × List D) (fun t => [.tup [.lst t.1.1, .lst t.1.2.1, .lst t.1.2.2], .int (t.2.1 : Int), .int (t.2.2.1 : Int), .int (t.2.2.2.1 : Int), .lst t.2.2.2.2]) DuePre (fun t r => r = .lst (kL (shownN t.1.1 t.1.2.1 t.2.1 t.2.2.2.2 t.2.2.1 (winAt (winsOf t.1.1 t.2.2.1) t.2.2.2.1)) t.2.2.1)) (fun _ _ _ => False)
theorem win_at {ws : List (Nat × Nat)} {m n nc : Nat} (hm : m < max ws.length 1) (hwp : ∀ p ∈ ws, p.1 < p.2 ∧ p.2 ≤ nc) (hwd : ∀ p ∈ ws, p.2 - p.1 ≤ n) : (winAt ws m).1 ≤ (winAt ws m).2 ∧ (winAt ws m).2 ≤ nc ∧ (winAt ws m).2 - (winAt ws m).1 ≤ n := by
  by_cases h : m < ws.length
  · have e : winAt ws m = ws[m] := by
      unfold winAt
      rw [List.getD_eq_getElem?_getD, List.getElem?_append_left h, List.getElem?_eq_getElem h]
      rfl
    have hq := hwp _ (List.getElem_mem h)
    have hq2 := hwd _ (List.getElem_mem h)
    rw [e]
    exact ⟨by omega, hq.2, hq2⟩
  · have e1 : ws = [] := List.length_eq_zero_iff.mp (by omega)
    subst e1
    have e2 : m = 0 := by
      have : m < max 0 1 := hm
      omega
    subst e2
    exact ⟨Nat.le_refl _, Nat.zero_le _, Nat.zero_le _⟩
theorem in_places {sp : List D} {nc size : Nat} {ms : List D} {s at' : Nat} : (decide (s ∈ (ms.filter fun m => decide (at' ∈ markedN sp nc size m)).map fun m => nI m 2) || decide (3 ∈ (ms.filter fun m => decide (at' ∈ markedN sp nc size m)).map fun m => nI m 2)) = true ↔ at' ∈ placesN sp nc size ms s := by
  unfold placesN
  rw [Bool.or_eq_true, decide_eq_true_eq, decide_eq_true_eq]
  simp only [List.mem_map, List.mem_filter, List.mem_flatMap, decide_eq_true_eq]
  unfold ofK
  constructor
  · rintro (⟨m, ⟨h1, h2⟩, h3⟩ | ⟨m, ⟨h1, h2⟩, h3⟩)
    · exact ⟨m, ⟨h1, by simp [h3]⟩, h2⟩
    · exact ⟨m, ⟨h1, by simp [h3]⟩, h2⟩
  · rintro ⟨m, ⟨h1, h3⟩, h2⟩
    simp only [Bool.or_eq_true, decide_eq_true_eq] at h3
    rcases h3 with h3 | h3
    · exact .inl ⟨m, ⟨h1, h2⟩, h3⟩
    · exact .inr ⟨m, ⟨h1, h2⟩, h3⟩
abbrev st__law_due : Stmt := top 78
abbrev nm__law_due : List Str := ["laid", "size", "width", "window", "marks", "cells", "spans", "strange", "windows", "first", "last", "shown", "key", "at", "number", "some", "mark"]
theorem sc__law_due : FnScope nm__law_due ["laid", "size", "width", "window", "marks"] (defScope st__law_due) := ⟨rfl, rfl, rfl, by decide +kernel, rfl, by decide +kernel, by decide +kernel⟩
theorem ok_ldue (F : Fun K "_law_due" "_law_due" st__law_due f fd) (T : Tx P w K mg base a) (c__law_greedy : CalX P w K mg base 1 "_law_greedy" ["cells", "width"] (spWins K)) (c__law_marked : CalX P w K mg base 2 "_law_marked" ["spans", "size", "many", "mark"] (spLMarked K)) : FnOk P w K mg base (L2.CX P w) 3 f fd ["laid", "size", "width", "window", "marks"] (spDue K) := by
  refine F.okX sc__law_due (fun vs H Q E h => pro_len h fun _ => rfl) (fun cdv A outer s H vs Q E hr h => ⟨_, (pss_cons (ps_asg (pv 0) (pg_tupK (K := K) rfl rfl (pgs_cons (pg_name (i := 5) sc__law_due.nd rfl (by first | exact Or.inl rfl | exact Or.inr rfl)) (pgs_cons (pg_name (i := 6) sc__law_due.nd rfl (by first | exact Or.inl rfl | exact Or.inr rfl)) (pgs_cons (pg_name (i := 7) sc__law_due.nd rfl (by first | exact Or.inl rfl | exact Or.inr rfl)) pgs_nil)))))
    (pss_cons (ps_set (i := 8) sc__law_due.nd rfl (by first | exact Or.inl rfl | exact Or.inr rfl) (pe_c c__law_greedy hr (by first | decide | exact Nat.le_refl _) rfl (passes_call (takes_of rfl rfl rfl rfl) (fun _ _ _ _ h => h)) (pa_cons (pv 5) (pa_cons (pv 2) pa_nil))))
    (pss_cons (ps_asg (pe_ifExp (pt_cmpR (kO K rNeU rfl (op_neU (hu64 hr))) (pv 8) (pe_lst pa_nil) (nomark _)) (pe_ix (kX K rIx rfl ix_seq) (pv 8) (pv 3) (fun _ _ => rfl)) (pe_tup (pa_cons pe_int (pa_cons pe_int pa_nil)))) (pg_tupK (K := K) rfl rfl (pgs_cons (pg_name (i := 9) sc__law_due.nd rfl (by first | exact Or.inl rfl | exact Or.inr rfl)) (pgs_cons (pg_name (i := 10) sc__law_due.nd rfl (by first | exact Or.inl rfl | exact Or.inr rfl)) pgs_nil))))
    (pss_cons (ps_set (i := 11) sc__law_due.nd rfl (by first | exact Or.inl rfl | exact Or.inr rfl) (pe_lst pa_nil))
    (pss_cons (ps_for (passes_of rfl) rfl (pi_range1 rfl T.b_range (pa_cons (pv 2) pa_nil)) (pg_name (i := 12) sc__law_due.nd rfl (by first | exact Or.inl rfl | exact Or.inr rfl))
      (pss_cons (ps_asg (pe_tup (pa_cons (pe_op (kO K rPlus rfl op_plus) (pv 9) (pv 12)) (pa_cons pe_int pa_nil))) (pg_tupK (K := K) rfl rfl (pgs_cons (pg_name (i := 13) sc__law_due.nd rfl (by first | exact Or.inl rfl | exact Or.inr rfl)) (pgs_cons (pg_name (i := 14) sc__law_due.nd rfl (by first | exact Or.inl rfl | exact Or.inr rfl)) pgs_nil))))
    (pss_cons (ps_if (pt_cmpR op_less (pv 13) (pv 10) (nomark _)) (pss_one (ps_set (i := 14) sc__law_due.nd rfl (by first | exact Or.inl rfl | exact Or.inr rfl) (pe_ix (kX K rIx rfl ix_seq) (pv 5) (pv 13) (fun _ _ => rfl)))) pss_nil)
    (pss_cons (ps_if (PW.pt (pw_or (pt_cmpR op_less (pv 13) (pv 10) (nomark _)) (pw_or1 (PW.pt (pw_and (pt_cmpR (kO K rEqU rfl (op_eqU (hu64 hr))) (pv 13) (pv 10) (nomark _)) (pw_and1 (pt_cmpR (kO K rEqU rfl (op_eqU (hu64 hr))) (pv 10) (pe_callB (kC K rLenU rfl call_lenU) (by rfl) T.b_len (by decide +kernel) (pa_cons (pv 5) pa_nil)) (nomark _)))))))) (pss_cons (ps_setLc (i := 15) (own := [("mark", 16)]) (g := (gName 16)) rfl sc__law_due.nd rfl rfl (sw_true rfl rfl rfl (by decide +kernel)) (pi_listK (K := K) rfl (pv 4)) (blkOk_by (own := [("mark", 16)]) (N := nm__law_due) (sc := (defScope st__law_due)) (by decide +kernel)) (fun _ _ _ _ _ => (pg_name (i := 16) sc__law_due.nd rfl (by first | exact Or.inl rfl | exact Or.inr rfl))) (fun _ _ _ _ _ => (pts_one (pt_cmpR (kO K rInU rfl op_inU) (pv 13) (pe_c c__law_marked hr (by first | decide | exact Nat.le_refl _) rfl passL (pa_cons (pv 6) (pa_cons (pv 1) (pa_cons (pe_callB (kC K rLenU rfl call_lenU) (by rfl) T.b_len (by decide +kernel) (pa_cons (pv 5) pa_nil)) (pa_cons (pv 16) pa_nil))))) (by with_unfolding_all rfl)))) (fun _ _ _ _ _ => (pe_ix (kX K rIx rfl ix_seq) (pv 16) pe_int (fun _ _ => rfl))))
    (pss_one (ps_set (i := 14) sc__law_due.nd rfl (by first | exact Or.inl rfl | exact Or.inr rfl) (pe_op (kO K rPlus rfl op_plus) (pe_op (kO K rPlus rfl op_plus) (pv 14) (pe_op op_timesU pe_int (pe_callTy call_int1 (by rfl) T.b_int (by decide +kernel) (pa_cons (pe_or (pe_cmpR (kO K rInU rfl op_inU) pe_int (pv 15) (by with_unfolding_all rfl)) (pe_one (pe_cmpR (kO K rInU rfl op_inU) pe_int (pv 15) (by with_unfolding_all rfl)))) pa_nil)))) (pe_op op_timesU pe_int (pe_callTy call_int1 (by rfl) T.b_int (by decide +kernel) (pa_cons (pe_or (pe_cmpR (kO K rInU rfl op_inU) pe_int (pv 15) (by with_unfolding_all rfl)) (pe_one (pe_cmpR (kO K rInU rfl op_inU) pe_int (pv 15) (by with_unfolding_all rfl)))) pa_nil))))))) pss_nil)
    (pss_one (ps_expr (pe_bmK (K := K) rfl PySem.F.plainAttrs_list PySem.F.slot_list_append PySem.F.type_list_append mt_append (pv 11) (pa_cons (pv 14) pa_nil))))))))
    (pss_one (ps_ret (pv 11)))))))), run_body h fun ⟨⟨cs, sp, st⟩, n, w, m, ms⟩ S hp hl hcl wi => ?_⟩)
  have hl : S.A.length = 0 := hl
  have hp : DuePre ((cs, sp, st), n, w, m, ms) := hp
  obtain ⟨hce, hcz, hsp, hfl, hst, hn, ha, hw0, hwz, hm, hms, hmz⟩ := hp
  have hce : CellL cs := hce
  have hcz : cs.length ≤ 20000 := hcz
  have hsp : SpOk sp := hsp
  have hfl : (sp.flatMap cellsN).length = cs.length := hfl
  have hn : n ≤ 200 := hn
  have hw0 : 0 < w := hw0
  have hwz : w ≤ 1000 := hwz
  have hm : m < max (winsOf cs w).length 1 := hm
  have hms : ms.all (isMark n) = true := hms
  have hmz : ms.length ≤ 100 := hmz
  have hcc : D.ltL 0 cs = true := cells_cl hce.2
  have hwl : (winsOf cs w).length ≤ cs.length := (wN_ok (z := zc cs) (n := cs.length) hw0 cs.length).2.2.2.1
  have hwp : ∀ p ∈ winsOf cs w, p.1 < p.2 ∧ p.2 ≤ cs.length := (wN_ok (z := zc cs) (n := cs.length) hw0 cs.length).2.2.2.2
  have hwd : ∀ p ∈ winsOf cs w, p.2 - p.1 ≤ w := wN_w hw0 _
  obtain ⟨p1, p2, p3⟩ := win_at hm hwp hwd
  walk_at "pp"
  refine se_asgG ?_
  walk_at "pp"
  refine ge_three ?_
  walk_at "pp"
  refine ee_czS ?_
  walk_at "pp"
  refine ⟨(cs, w), ⟨hce, hw0, by show w ≤ _; omega⟩, rfl, by show (D.ltL 0 cs && (true && true)) = true; rw [hcc]; rfl, ?_⟩
  rintro ws rfl _
  dsimp only
  rw [show wins (zc cs) cs.length w = winsOf cs w from rfl]
  generalize winsOf cs w = ws at *
  refine se_seq (se_asgG (EE.imp (C := fun d μ => d = winD (winAt ws m) ∧ μ = []) ?_ ?_))
  · walk_at "pp"
    refine ee_lst ?_
    walk_at "pp"
    refine oo_nePy0 wins_py (by decide) ?_
    rw [List.isEmpty_map]
    walk_at "pp"
    refine ⟨fun hb => ?_, fun hb => ?_⟩
    · have hb : ws ≠ [] := by
        rintro rfl
        cases hb
      have hlen : 0 < ws.length := List.length_pos_iff.mpr hb
      have hm2 : m < ws.length := by omega
      have e : winAt ws m = ws[m] := by
        unfold winAt
        rw [List.getD_eq_getElem?_getD, List.getElem?_append_left hm2, List.getElem?_eq_getElem hm2]
        rfl
      walk_at "pp"
      refine oo_ixL (d := winD (winAt ws m)) (atI_of (j := m) (by rw [List.getElem?_map, List.getElem?_eq_getElem hm2, e]; rfl) rfl) ?_
      exact ⟨rfl, rfl⟩
    · have hb : ws = [] := by
        cases ws with
        | nil => rfl
        | cons x l => cases hb
      subst hb
      have e2 : m = 0 := by
        have : m < max 0 1 := hm
        omega
      subst e2
      walk_at "pp"
      exact ⟨rfl, rfl⟩
  rintro d μ ⟨rfl, rfl⟩
  generalize hpw : winAt ws m = pw at *
  obtain ⟨pa, pb⟩ := pw
  have p1 : pa ≤ pb := p1
  have p2 : pb ≤ cs.length := p2
  have p3 : pb - pa ≤ w := p3
  refine ge_pair ?_
  walk_at "pp"
  refine ee_open ?_
  walk_at "pp"
  refine se_for (ie_rng1 ?_)
  walk_at "pp"
  refine ⟨by omega, by omega, ?_⟩
  rw [Int.toNat_natCast]
  refine ⟨rfl, fun j δ μ => ∃ x12 x13 x14 x15 : Option D, δ = [some (.tup [.lst cs, .lst sp, .lst st]), some (.int (n : Int)), some (.int (w : Int)), some (.int (m : Int)), some (.lst ms), some (.lst cs), some (.lst sp), some (.lst st), some (.lst (ws.map winD)), some (.int (pa : Int)), some (.int (pb : Int)), some (.own 0), x12, x13, x14, x15, none] ∧ μ = [.lst (kL (shownN cs sp n ms w (pa, pb)) j)], ⟨none, none, none, none, rfl, rfl⟩, ?_, ?_⟩
  · rintro j x δ μ hj ⟨x12, x13, x14, x15, rfl, rfl⟩
    obtain ⟨hj2, rfl⟩ := rng_get hj
    rw [show (0 : Int) + (j : Int) = ((j : Nat) : Int) by omega]
    refine ge_name ?_
    refine se_seq (se_asgG ?_)
    walk_at "pp"
    rw [show (pa : Int) + (j : Int) = ((pa + j : Nat) : Int) by omega]
    refine ge_pair ?_
    refine se_seq (se_to (fun δ μ => δ = [some (.tup [.lst cs, .lst sp, .lst st]), some (.int (n : Int)), some (.int (w : Int)), some (.int (m : Int)), some (.lst ms), some (.lst cs), some (.lst sp), some (.lst st), some (.lst (ws.map winD)), some (.int (pa : Int)), some (.int (pb : Int)), some (.own 0), some (.int (j : Int)), some (.int ((pa + j : Nat) : Int)), some (.int ((baseN cs (pa, pb) j : Nat) : Int)), x15, none] ∧ μ = [.lst (kL (shownN cs sp n ms w (pa, pb)) j)]) ?_ ?_)
    · walk_at "pp"
      refine ⟨fun hb => ?_, fun hb => ?_⟩
      · have hb : ((pa + j : Nat) : Int) < (pb : Int) := of_decide_eq_true hb
        have hb : pa + j < pb := by omega
        obtain ⟨i, e, i0, _⟩ := hce.2 _ (List.getElem_mem (show pa + j < cs.length by omega))
        have eb : baseN cs (pa, pb) j = i.toNat := by
          unfold baseN
          rw [if_pos hb, List.getD_eq_getElem?_getD, List.getElem?_eq_getElem (show pa + j < cs.length by omega), e]
          rfl
        walk_at "pp"
        refine oo_ixL (d := .int i) (atI_of (j := pa + j) (by rw [List.getElem?_eq_getElem (show pa + j < cs.length by omega), e]) rfl) ?_
        walk_at "pp"
        rw [eb, Int.toNat_of_nonneg i0]
        exact ⟨rfl, rfl⟩
      · have hb : ¬ ((pa + j : Nat) : Int) < (pb : Int) := of_decide_eq_false hb
        have eb : baseN cs (pa, pb) j = 0 := if_neg (show ¬ pa + j < pb by omega)
        walk_at "pp"
        rw [eb]
        exact ⟨rfl, rfl⟩
    rintro δ μ ⟨rfl, rfl⟩
    refine se_seq (se_to (fun δ μ => ∃ y15 : Option D, δ = [some (.tup [.lst cs, .lst sp, .lst st]), some (.int (n : Int)), some (.int (w : Int)), some (.int (m : Int)), some (.lst ms), some (.lst cs), some (.lst sp), some (.lst st), some (.lst (ws.map winD)), some (.int (pa : Int)), some (.int (pb : Int)), some (.own 0), some (.int (j : Int)), some (.int ((pa + j : Nat) : Int)), some (.int ((shownN cs sp n ms w (pa, pb) j : Nat) : Int)), y15, none] ∧ μ = [.lst (kL (shownN cs sp n ms w (pa, pb)) j)]) ?_ ?_)
    · have eend : endN cs.length w (pa, pb) = pb + if pb = cs.length ∧ pb - pa < w then 1 else 0 := rfl
      refine se_if (et_val (P := pa + j < endN cs.length w (pa, pb)) ?_ fun b hb => ⟨fun h => ?_, fun h => ?_⟩)
      · rw [eend]
        walk_at "pp"
        refine ⟨fun h1 => ?_, fun h1 => ?_⟩
        · have h1 : ((pa + j : Nat) : Int) < (pb : Int) := of_decide_eq_true h1
          exact ⟨rfl, fun _ => by omega, fun _ => rfl⟩
        · have h1 : ¬ ((pa + j : Nat) : Int) < (pb : Int) := of_decide_eq_false h1
          walk_at "pp"
          rw [int_eq]
          refine ⟨fun h2 => ?_, fun h2 => ?_⟩
          · have h2 : ((pa + j : Nat) : Int) = (pb : Int) := of_decide_eq_true h2
            walk_at "pp"
            refine cc_len (.lst _) ?_
            walk_at "pp"
            rw [int_eq]
            refine ⟨rfl, fun h3 => ?_, fun h3 => ?_⟩
            · have h3 : (pb : Int) = (cs.length : Int) := of_decide_eq_true h3
              rw [if_pos ⟨by omega, by omega⟩]
              omega
            · refine decide_eq_true ?_
              show (pb : Int) = (cs.length : Int)
              split at h3 <;> omega
          · have h2 : ¬ ((pa + j : Nat) : Int) = (pb : Int) := of_decide_eq_false h2
            refine ⟨rfl, fun z => (by cases z), fun h3 => ?_⟩
            split at h3 <;> omega
      · have hin := hb.mp h
        have orP : ∀ {δ : Sl} {μ : List Cell} {C : D → List Cell → Prop} (s : Nat) (L : List Nat), δ[15]? = some (some (.lst (L.map intD))) → (∀ b : Bool, (b = true ↔ (decide (s ∈ L) || decide (3 ∈ L)) = true) → C (.bl b) μ) → EE K S (tOrV (tOp (rInU K) (tC (.int (s : Int))) (tVar 15)) (tOp (rInU K) (tC (.int 3)) (tVar 15))) δ μ C := fun s L h k => by
          refine ee_val (P := (decide (s ∈ L) || decide (3 ∈ L)) = true) ?_ k
          refine ee_orV ?_
          refine ee_op (ee_c (ee_var h (oo_inN ?_)))
          refine ⟨_, rfl, fun h1 => ⟨rfl, _, rfl, fun _ => by rw [h1]; rfl, fun _ => rfl⟩, fun h1 => ?_⟩
          refine ee_op (ee_c (ee_var h (oo_inN (k := 3) ?_)))
          refine ⟨rfl, _, rfl, fun h2 => by rw [h2, Bool.or_true], fun h2 => ?_⟩
          rw [h1] at h2
          exact h2
        walk_at "pp"
        refine ee_lc (ie_list ?_)
        walk_at "pp"
        refine ⟨ms, .inl rfl, fun _ h => h, trivial, fun x => decide (pa + j ∈ markedN sp cs.length n x), fun x => .int ((nI x 2 : Nat) : Int), by omega, fun _ _ _ => rfl, fun x acc hx => ?_, ?_⟩
        · have hmx := List.all_eq_true.mp hms x hx
          obtain ⟨u, v, k, rfl, huv, hvn, hk1, hk3⟩ := mark_of hmx
          have ek : nI (.tup [.int (u : Int), .int (v : Int), .int (k : Int)]) 2 = k := Int.toNat_natCast _
          refine gw_name (by decide) ?_
          walk_at "pp"
          refine ee_cz ?_
          walk_at "pp"
          refine cc_len (.lst _) ?_
          walk_at "pp"
          refine ⟨(sp, n, cs.length, .tup [.int (u : Int), .int (v : Int), .int (k : Int)]), ⟨hsp, by show (sp.flatMap cellsN).length ≤ _; omega, ha, by show n ≤ _; omega, hmx⟩, rfl, ?_, ?_⟩
          · show (D.ltL 0 sp && (true && (true && (true && true)))) = true
            rw [hsp.cl]
            rfl
          rintro r rfl
          walk_at "pp"
          refine oo_inN ?_
          walk_at "pp"
          refine ⟨rfl, rfl, fun _ => ?_⟩
          walk_at "pp"
          refine oo_ixT (d := .int (k : Int)) rfl ?_
          refine ⟨?_, rfl⟩
          show _ = D.int ((nI _ 2 : Nat) : Int)
          rw [ek]
        rw [show (ms.filter fun x => decide (pa + j ∈ markedN sp cs.length n x)).map (fun x => D.int ((nI x 2 : Nat) : Int)) = ((ms.filter fun x => decide (pa + j ∈ markedN sp cs.length n x)).map fun m => nI m 2).map intD by
          rw [List.map_map]
          rfl]
        refine se_asg (ee_op (ee_op (ee_var rfl (ee_op (ee_c (ee_cb (ea_cons (orP 1 _ rfl fun b1 hb1 => ?_))))))))
        rw [in_places] at hb1
        walk_at "pp"
        refine cc_intB ?_
        refine oo_mul (mulW 9 3 (by decide) (by split <;> decide)) ?_
        refine oo_add ?_
        refine ee_op (ee_c (ee_cb (ea_cons (orP 2 _ rfl fun b2 hb2 => ?_))))
        rw [in_places] at hb2
        walk_at "pp"
        refine cc_intB ?_
        refine oo_mul (mulW 9 3 (by decide) (by split <;> decide)) ?_
        refine oo_add ?_
        have es : ((baseN cs (pa, pb) j : Nat) : Int) + 64 * (if b1 = true then 1 else 0) + 128 * (if b2 = true then 1 else 0) = ((shownN cs sp n ms w (pa, pb) j : Nat) : Int) := by
          unfold shownN addN
          have q1 : (pa + j < endN cs.length w (pa, pb) ∧ pa + j ∈ placesN sp cs.length n ms 1) ↔ b1 = true := ⟨fun z => hb1.mpr z.2, fun z => ⟨hin, hb1.mp z⟩⟩
          have q2 : (pa + j < endN cs.length w (pa, pb) ∧ pa + j ∈ placesN sp cs.length n ms 2) ↔ b2 = true := ⟨fun z => hb2.mpr z.2, fun z => ⟨hin, hb2.mp z⟩⟩
          cases b1 <;> cases b2 <;> simp only [q1, q2] <;> simp
        rw [es]
        exact ⟨_, rfl, rfl⟩
      · have hin : ¬ pa + j < endN cs.length w (pa, pb) := fun z => by rw [hb.mpr z] at h; cases h
        have es : shownN cs sp n ms w (pa, pb) j = baseN cs (pa, pb) j := by
          unfold shownN addN
          rw [if_neg (fun z => hin z.1), if_neg (fun z => hin z.1)]
          rfl
        walk_at "pp"
        rw [es]
        exact ⟨_, rfl, rfl⟩
    rintro δ μ ⟨y15, rfl, rfl⟩
    walk_at "pp"
    refine ee_bm ?_
    walk_at "pp"
    refine ⟨.lst (.own rfl), ?_⟩
    walk_at "pp"
    refine mm_append (k := 0) rfl (by rw [kL_len]; omega) ?_
    walk_at "pp"
    refine ⟨_, _, _, _, rfl, ?_⟩
    rw [kL_succ]
    rfl
  · rintro δ μ ⟨x12, x13, x14, x15, rfl, rfl⟩
    rw [rng_len]
    show SE K S (tRet (tVar 11)) _ _ _
    refine se_shut (l := kL (shownN cs sp n ms w (pa, pb)) w) 0 (by rw [hl]; exact Nat.zero_le _) rfl ?_
    walk_at "pp"
    walk_at "gp"
    refine gaveP hl ?_ ?_
    · exact kL_cl (m := 0)
    · rfl
end


section
variable {P : Program} {w : World} {K : PySem.W.Frag} {mg : Str → Option Value} {base : Heap} {a : Ad} {f : Addr} {fd : FuncData}
def MarksOk (n : Nat) (d : D) : Prop := ∃ ms, d = .lst ms ∧ ms.all (isMark n) = true ∧ ms.length ≤ 16
abbrev spMarksOf (K : PySem.W.Frag) : Sp := spDrawn K 200000000 (T := Nat) (fun n => [.int (n : Int)]) (fun n => n ≤ 200) (fun n d => MarksOk n d) 100
theorem perm2 {ns : List Int} {n : Nat} (hl : ns.length = 2) (hs : ns.Pairwise (· ≤ ·)) (h : ∀ x ∈ ns, 0 ≤ x ∧ x ≤ (n : Int)) : ∃ i j : Nat, ns = [(i : Int), (j : Int)] ∧ i ≤ j ∧ j ≤ n := by
  match ns, hl with
  | [x, y], _ =>
    have hx := h x (by simp)
    have hy := h y (by simp)
    have hxy : x ≤ y := by
      have := List.pairwise_cons.mp hs
      exact this.1 y (by simp)
    exact ⟨x.toNat, y.toNat, by rw [Int.toNat_of_nonneg hx.1, Int.toNat_of_nonneg hy.1], by omega, by omega⟩
theorem all_snoc {α : Type} {p : α → Bool} {l : List α} {x : α} (h : l.all p = true) (hx : p x = true) : (l ++ [x]).all p = true := by
  rw [List.all_append, h, List.all_cons, hx]
  rfl
abbrev st__law_marks_of : Stmt := top 79
abbrev nm__law_marks_of : List Str := ["purse", "size", "found", "turn", "start", "end", "spin", "way", "ends"]
theorem sc__law_marks_of : FnScope nm__law_marks_of ["purse", "size"] (defScope st__law_marks_of) := ⟨rfl, rfl, rfl, by decide +kernel, rfl, by decide +kernel, by decide +kernel⟩
theorem ok_marks_of (F : Fun K "_law_marks_of" "_law_marks_of" st__law_marks_of f fd) (T : Tx P w K mg base a) (c__law_draw : CalX P w K mg base 2 "_law_draw" ["purse", "many"] (spDraw K)) : FnOk P w K mg base (L2.CX P w) 3 f fd ["purse", "size"] (spMarksOf K) := by
  refine F.okX sc__law_marks_of (fun vs H Q E h => pro_len h fun _ => rfl) (fun cdv A outer s H vs Q E hr h => ⟨_, (pss_cons (ps_set (i := 2) sc__law_marks_of.nd rfl (by first | exact Or.inl rfl | exact Or.inr rfl) (pe_lst pa_nil))
    (pss_cons (ps_for (passes_of rfl) rfl (pi_range1 rfl T.b_range (pa_cons (pe_c c__law_draw hr (by first | decide | exact Nat.le_refl _) rfl (passes_call (takes_of rfl rfl rfl rfl) (fun _ _ _ _ h => h)) (pa_cons (pv 0) (pa_cons pe_int pa_nil))) pa_nil)) (pg_name (i := 3) sc__law_marks_of.nd rfl (by first | exact Or.inl rfl | exact Or.inr rfl))
      (pss_cons (ps_asg (pe_callB (kC K rSortedI rfl cr_sortedI) (by rfl) T.b_sorted (by decide +kernel) (pa_cons (pe_lc (own := [("spin", 6)]) (tt := tYes) (g := (gName 6)) rfl sc__law_marks_of.nd (pi_range1 rfl T.b_range (pa_cons pe_int pa_nil)) (blkOk_by (own := [("spin", 6)]) (N := nm__law_marks_of) (sc := (defScope st__law_marks_of)) (by decide +kernel)) (fun _ _ _ _ _ => (pg_name (i := 6) sc__law_marks_of.nd rfl (by first | exact Or.inl rfl | exact Or.inr rfl))) (fun _ _ _ _ _ => pts_nil) (fun _ _ _ _ _ => (pe_c c__law_draw hr (by first | decide | exact Nat.le_refl _) rfl passL (pa_cons (pv 0) (pa_cons (pe_op (kO K rPlus rfl op_plus) (pv 1) pe_int) pa_nil))))) pa_nil)) (pg_lstK (K := K) rfl rfl (pgs_cons (pg_name (i := 4) sc__law_marks_of.nd rfl (by first | exact Or.inl rfl | exact Or.inr rfl)) (pgs_cons (pg_name (i := 5) sc__law_marks_of.nd rfl (by first | exact Or.inl rfl | exact Or.inr rfl)) pgs_nil))))
    (pss_cons (ps_set (i := 7) sc__law_marks_of.nd rfl (by first | exact Or.inl rfl | exact Or.inr rfl) (pe_c c__law_draw hr (by first | decide | exact Nat.le_refl _) rfl (passes_call (takes_of rfl rfl rfl rfl) (fun _ _ _ _ h => h)) (pa_cons (pv 0) (pa_cons pe_int pa_nil))))
    (pss_cons (ps_set (i := 8) sc__law_marks_of.nd rfl (by first | exact Or.inl rfl | exact Or.inr rfl) (pe_ix (kX K rIx rfl ix_seq) (pe_lst (pa_cons (pe_tup (pa_cons (pv 4) (pa_cons (pv 5) pa_nil))) (pa_cons (pe_tup (pa_cons (pv 4) (pa_cons (pv 4) pa_nil))) (pa_cons (pe_tup (pa_cons (pv 1) (pa_cons (pv 1) pa_nil))) (pa_cons (pe_tup (pa_cons pe_int (pa_cons (pv 1) pa_nil))) (pa_cons (pe_tup (pa_cons (pv 4) (pa_cons (pv 5) pa_nil))) (pa_cons (pe_tup (pa_cons (pv 5) (pa_cons (pv 5) pa_nil))) pa_nil))))))) (pv 7) (fun _ _ => rfl)))
    (pss_one (ps_expr (pe_bmK (K := K) rfl PySem.F.plainAttrs_list PySem.F.slot_list_append PySem.F.type_list_append mt_append (pv 2) (pa_cons (pe_tup (pa_cons (pe_ix (kX K rIx rfl ix_seq) (pv 8) pe_int (fun _ _ => rfl)) (pa_cons (pe_ix (kX K rIx rfl ix_seq) (pv 8) pe_int (fun _ _ => rfl)) (pa_cons (pe_op (kO K rPlus rfl op_plus) pe_int (pe_c c__law_draw hr (by first | decide | exact Nat.le_refl _) rfl (passes_call (takes_of rfl rfl rfl rfl) (fun _ _ _ _ h => h)) (pa_cons (pv 0) (pa_cons pe_int pa_nil)))) pa_nil)))) pa_nil))))))))
    (pss_one (ps_ret (pe_op (kO K rPlus rfl op_plus) (pv 2) (pe_slice (kS K rSlU rfl sl_U) (pv 2) po_none (po_some (pe_c c__law_draw hr (by first | decide | exact Nat.le_refl _) rfl (passes_call (takes_of rfl rfl rfl rfl) (fun _ _ _ _ h => h)) (pa_cons (pv 0) (pa_cons pe_int pa_nil)))))))))), run_body h fun ⟨l, n, z⟩ S ⟨hp, hn, hz, _⟩ hl hcl wi => ?_⟩)
  have hp : PuOk n l := hp
  have hn : n ≤ 200000000 := hn
  have hz : z ≤ 200 := hz
  have hS : S.A.length = 1 := hl
  walk_at "pp"
  refine ee_open ?_
  walk_at "pp"
  refine se_for (ie_rng1 ?_)
  walk_at "pp"
  refine ask_draw 0 ?_
  walk_at "pp"
  refine ⟨9, l, n, rfl, rfl, hp, by omega, by decide, by decide, fun v l1 hv hp1 => ?_⟩
  walk_at "pp"
  refine ⟨by omega, by omega, ?_⟩
  rw [Int.toNat_natCast]
  refine ⟨rfl, fun j δ μ => ∃ (x3 x4 x5 x7 x8 : Option D) (l' ms : List D), δ = [some (.own 0), some (.int (z : Int)), some (.own 1), x3, x4, x5, none, x7, x8] ∧ μ = [.lst l', .lst ms] ∧ PuOk (n + 1 + 10 * j) l' ∧ ms.all (isMark z) = true ∧ ms.length = j, ⟨none, none, none, none, none, l1, [], rfl, rfl, hp1, rfl, rfl⟩, ?_, ?_⟩
  · rintro j x δ μ hj ⟨x3, x4, x5, x7, x8, l', ms, rfl, rfl, hp', hms, hlen⟩
    obtain ⟨hj2, rfl⟩ := rng_get hj
    refine ge_name ?_
    walk_at "pp"
    refine se_asgG ?_
    walk_at "pp"
    refine ee_lcW (n := n + 1 + 10 * j) (c := 1) (ρ := [.lst ms]) (Q := fun d => ∃ i : Nat, d = .int (i : Int) ∧ i ≤ z) (fun m => ?_) (fun d ⟨i, e, _⟩ => by rw [e]; rfl) (ie_rng1 ?_)
    · show (D.ltL m ms && true) = true
      rw [marks_cl hms]
      rfl
    walk_at "pp"
    refine ⟨by decide, by decide, rfl, l', rfl, hp', by decide, fun i x acc l4 hx hp4 => ?_, fun acc l4 hlen2 hq4 hp4 => ?_⟩
    · have hi : i < 2 := (rng_get hx).1
      refine gw_name (by decide) ?_
      walk_at "pp"
      refine ask_draw 0 ?_
      walk_at "pp"
      refine ⟨(z : Int) + 1, l4, _, rfl, rfl, hp4, by omega, by omega, by omega, fun u l5 hu hp5 => ?_⟩
      exact ⟨l5, rfl, ⟨u, rfl, by omega⟩, hp5⟩
    have hlen2 : acc.length = 2 := hlen2
    obtain ⟨ns, e, hns⟩ : ∃ ns : List Int, acc = ns.map D.int ∧ ∀ x ∈ ns, 0 ≤ x ∧ x ≤ (z : Int) := by
      refine ⟨acc.map fun d => ((dotN d : Nat) : Int), ?_, fun x hx => ?_⟩
      · rw [List.map_map]
        conv => lhs; rw [← List.map_id acc]
        refine List.map_congr_left fun d hd => ?_
        obtain ⟨i, rfl, _⟩ := hq4 d hd
        show _ = D.int ((dotN (.int (i : Int)) : Nat) : Int)
        rw [show dotN (.int (i : Int)) = i from Int.toNat_natCast _]
        rfl
      · obtain ⟨d, hd, rfl⟩ := List.mem_map.mp hx
        obtain ⟨i, rfl, hi⟩ := hq4 d hd
        rw [show dotN (.int (i : Int)) = i from Int.toNat_natCast _]
        omega
    subst e
    rw [List.length_map] at hlen2
    walk_at "pp"
    refine cc_sorted (ns := ns) (.lst _) fun ns' hperm hsort => ?_
    obtain ⟨s, e, rfl, hse, hez⟩ := perm2 (n := z) (hperm.length_eq.trans hlen2) hsort fun x hx => hns x (hperm.mem_iff.mp hx)
    refine ge_list2 ?_
    walk_at "pp"
    refine ask_draw 0 ?_
    walk_at "pp"
    refine ⟨6, l4, _, rfl, rfl, hp4, by show n + 1 + 10 * j + 1 * 2 ≤ _; omega, by decide, by decide, fun way l5 hway hp5 => ?_⟩
    walk_at "pp"
    refine ee_lst ?_
    walk_at "pp"
    obtain ⟨i1, i2, hix, h12, h2z⟩ : ∃ i1 i2 : Nat, atI [D.tup [.int (s : Int), .int (e : Int)], .tup [.int (s : Int), .int (s : Int)], .tup [.int (z : Int), .int (z : Int)], .tup [.int 0, .int (z : Int)], .tup [.int (s : Int), .int (e : Int)], .tup [.int (e : Int), .int (e : Int)]] (way : Int) = some (.tup [.int (i1 : Int), .int (i2 : Int)]) ∧ i1 ≤ i2 ∧ i2 ≤ z := by
      have : way ∈ [0, 1, 2, 3, 4, 5] := by simp; omega
      simp only [List.mem_cons, List.not_mem_nil, or_false] at this
      rcases this with rfl | rfl | rfl | rfl | rfl | rfl
      · exact ⟨s, e, rfl, hse, hez⟩
      · exact ⟨s, s, rfl, Nat.le_refl _, by omega⟩
      · exact ⟨z, z, rfl, Nat.le_refl _, Nat.le_refl _⟩
      · exact ⟨0, z, rfl, Nat.zero_le _, Nat.le_refl _⟩
      · exact ⟨s, e, rfl, hse, hez⟩
      · exact ⟨e, e, rfl, Nat.le_refl _, hez⟩
    refine oo_ixL hix ?_
    walk_at "pp"
    refine ee_bm ?_
    walk_at "pp"
    refine ⟨.lst (.own rfl), ?_⟩
    walk_at "pp"
    refine oo_ixT (d := .int (i1 : Int)) rfl ?_
    walk_at "pp"
    refine oo_ixT (d := .int (i2 : Int)) rfl ?_
    walk_at "pp"
    refine ask_draw 0 ?_
    walk_at "pp"
    refine ⟨3, l5, _, rfl, rfl, hp5, by show n + 1 + 10 * j + 1 * 2 + 1 ≤ _; omega, by decide, by decide, fun sh l6 hsh hp6 => ?_⟩
    walk_at "pp"
    refine mm_append (k := 1) rfl (by omega) ?_
    walk_at "pp"
    refine ⟨_, _, _, _, _, l6, ms ++ [.tup [.int (i1 : Int), .int (i2 : Int), .int ((1 + sh : Nat) : Int)]], rfl, ?_, hp6.le (by show n + 1 + 10 * j + 1 * 2 + 1 + 1 ≤ _; omega), all_snoc hms ?_, by rw [List.length_append, hlen]; rfl⟩
    · rw [show (1 : Int) + (sh : Int) = ((1 + sh : Nat) : Int) by omega]
      rfl
    · rw [mark_nat, decide_eq_true h12, decide_eq_true h2z, decide_eq_true (show 1 ≤ 1 + sh by omega), decide_eq_true (show 1 + sh ≤ 3 by omega)]
      rfl
  · rintro δ μ ⟨x3, x4, x5, x7, x8, l', ms, rfl, rfl, hp', hms, hlen⟩
    rw [rng_len] at hlen hp'
    have hv9 : v < 9 := by omega
    have hp'' : PuOk (n + 99) l' := hp'.le (by omega)
    show SE K S (tRet _) _ _ _
    refine se_shut (l := ms) 1 (by rw [hS]; exact Nat.le_refl _) rfl ?_
    show SE K S _ [some (.own 0), some (.int (z : Int)), some (.lst ms), _, _, _, none, _, _] [.lst (D.subL _ l'), .off] _
    rw [sbL_cl hp'.cl]
    walk_at "pp"
    refine ask_draw 0 ?_
    walk_at "pp"
    refine ⟨2, l', n + 99, rfl, rfl, hp'', by omega, by decide, by decide, fun q l2 hq hp2 => ?_⟩
    walk_at "pp"
    refine ss_lst ?_
    rw [cutD_0n]
    have hq2 : q ≤ 1 := by omega
    refine oo_addL (by rw [List.length_take]; omega) ?_
    walk_at "gp"
    have hall : (ms ++ ms.take q).all (isMark z) = true := by
      rw [List.all_append, hms]
      exact List.all_eq_true.mpr fun x hx => List.all_eq_true.mp hms x (List.mem_of_mem_take hx)
    refine gave_drawn (n := n + 100) hS ?_ ⟨_, rfl, hall, ?_⟩ hp2
    · exact marks_cl hall
    · rw [List.length_append, List.length_take]
      omega
end


section
variable {P : Program} {w : World} {K : PySem.W.Frag} {mg : Str → Option Value} {base : Heap} {a : Ad} {f : Addr} {fd : FuncData}
theorem ask_llaidG {S : Bs} {δ : Sl} {μ : List Cell} {C : D → List Cell → Prop} {ta : TA} {E : XK} (h : EA K S ta δ μ fun ds μ1 => ∃ l s, ds = [.lst l, .str s] ∧ GoodB l ∧ (cp s).length ≤ 10000 ∧ C (.tup [.lst (run l (cp s)).cells, .own μ1.length, .own (μ1.length + 1)]) (μ1 ++ [.lst (run l (cp s)).spans, .lst (run l (cp s)).strange])) : EE K S (tCall (spLLaid K) [] E ta) δ μ C :=
  ee_callG (CE := fun _ _ _ => False) [] Wi.none fun A G H σ a' Q q => h A G H σ a' Q fun vs ds A1 G1 H1 μ1 m n r ⟨l, s, e, hg, hz, c⟩ => q vs ds A1 G1 H1 μ1 m n r (by
    subst e
    have hcl : D.ltL 0 [D.lst l, .str s] = true := by show (D.ltL 0 l && (true && true)) = true; rw [hg.cl]; rfl
    have hok : (run l (cp s)).Ok (cp s).length := it_ok hg _
    refine ⟨(l, s), ⟨hg, hz⟩, List.nodup_nil, fun k hk => (by cases hk), rfl, rfl, hsL_cl hcl, by rw [renL_cl hcl]; rfl, fun r ν n' ⟨e1, e2⟩ _ _ _ _ => ?_, fun cc r ν z _ _ _ => z⟩
    subst e1 e2
    show C (.tup [.lst (D.renL _ (run l (cp s)).cells), .own (μ1.length + (0 - 0)), .own (μ1.length + (1 - 0))]) (μ1 ++ [.lst (D.renL _ (run l (cp s)).spans), .lst (D.renL _ (run l (cp s)).strange)])
    rw [renL_cl (cells_ok_cl hok), renL_cl (spans_ok_cl hok), renL_cl (odd_ok_cl hok)]
    exact c)
section
variable {S : Bs} {δ : Sl} {μ : List Cell} {C : D → List Cell → Prop} {ta : TA} {E : XK}
theorem ask_heard (t : Q5) (ht : AskS t) (h : EA K S ta δ μ fun ds μ1 => ds = argOf t ∧ C (heardO (ansQ t)) μ1) : EE K S (tCall (spHeard K) [] E ta) δ μ C :=
  ee_cz fun A G H σ a' Q q => h A G H σ a' Q fun vs ds A1 G1 H1 μ1 m n r ⟨e, c⟩ => q vs ds A1 G1 H1 μ1 m n r ⟨t, ht, e, by rw [e]; exact ht.cl2, fun d hd => by subst hd; exact c⟩
theorem ask_same (t : D) (ht : exOk 7 t = true) (h0 : t.lt 0 = true) (h : EA K S ta δ μ fun ds μ1 => ds = [t, t] ∧ C (.bl true) μ1) : EE K S (tCall (spExact K 7) [] E ta) δ μ C :=
  ee_cz fun A G H σ a' Q q => h A G H σ a' Q fun vs ds A1 G1 H1 μ1 m n r ⟨e, c⟩ => q vs ds A1 G1 H1 μ1 m n r ⟨t, ht, e, by rw [e]; show (t.lt 0 && (t.lt 0 && true)) = true; rw [h0]; rfl, fun d hd => by subst hd; exact c⟩
end
theorem laid_pre {l : List D} {s : Str} (hg : GoodB l) (hs : Printed 10000 s) : LaidPre (.lst l, .str s) := ⟨hg.bok, str_pre hs.1, hg.cl, rfl, fun _ => ⟨l, rfl, hg⟩, fun _ => ⟨s, rfl, hs.1⟩⟩
theorem int_cl {i : Int} : Cl (.int i) := ⟨rfl, rfl⟩
theorem in_nat {k n : Nat} (h : k < n) : isInN n (.int (k : Int)) = true := by
  show (decide ((0 : Int) ≤ (k : Int)) && decide ((k : Int) < (n : Int))) = true
  rw [decide_eq_true (by omega), decide_eq_true (by omega)]
  rfl
theorem dot_nat {k : Nat} : dotN (.int (k : Int)) = k := Int.toNat_natCast _
theorem ct_nat {n : Nat} (h : 0 < n) : isCtN 1 (.int (n : Int)) = true := decide_eq_true (show ((1 : Nat) : Int) ≤ (n : Int) by omega)
theorem mark_pre {n : Nat} {m : D} (h : isMark n m = true) : MarkPre m := by
  obtain ⟨i, j, k, rfl, _⟩ := mark_of h
  refine ⟨⟨rfl, rfl⟩, fun l e => ?_⟩
  cases e
  refine ⟨Nat.le_of_ble_eq_true rfl, fun x hx => ?_⟩
  simp only [List.mem_cons, List.not_mem_nil, or_false] at hx
  rcases hx with rfl | rfl | rfl <;> rfl
theorem marks_pre {n : Nat} {ms : List D} (h : ms.all (isMark n) = true) (hz : ms.length ≤ 100) : MksPre (.lst ms) := ⟨⟨rfl, marks_cl h⟩, fun l e => by
  cases e
  exact ⟨hz, fun m hm => mark_pre (List.all_eq_true.mp h m hm)⟩⟩
theorem marks_py {n : Nat} {ms : List D} (h : ms.all (isMark n) = true) : Py 2 (.lst ms) := py_lst fun m hm => by
  obtain ⟨i, j, k, rfl, _⟩ := mark_of (List.all_eq_true.mp h m hm)
  exact py_ints (l := [(i : Int), (j : Int), (k : Int)])
theorem ansS_ok {l : List D} {s : Str} {n m : Nat} {ms : List D} (hg : GoodB l) (hs : Printed 10000 s) (hn : 0 < n) (hm : m < max (winsOf (run l (cp s)).cells n).length 1) (hms : ms.all (isMark (cp s).length) = true) : ansQ (.lst l, .str s, .int (n : Int), .int (m : Int), .lst ms) = .told (.lst (kL (shownN (run l (cp s)).cells (run l (cp s)).spans (cp s).length ms n (winAt (winsOf (run l (cp s)).cells n) m)) n)) := by
  show ansS (.lst l) (.str s) (.int (n : Int)) (.int (m : Int)) (.lst ms) = _
  unfold ansS
  rw [laid_in hg.is hs.is, if_neg (by rw [ct_nat hn]; exact fun z => by cases z), dot_nat, if_neg (by rw [show isInN (max (winsOf (runOf (.lst l) (.str s)).cells n).length 1) _ = true from in_nat hm]; exact fun z => by cases z), if_neg (by rw [show isMarks (lenOf (.str s)) (.lst ms) = true from hms]; exact fun z => by cases z), dot_nat]
  rfl
theorem places_rep {sp : List D} {nc n s k p : Nat} {ms : List D} : p ∈ placesN sp nc n (List.replicate (k + 1) ms).flatten s ↔ p ∈ placesN sp nc n ms s := by
  unfold placesN
  simp only [List.mem_flatMap, List.mem_filter, List.mem_flatten, List.mem_replicate]
  constructor
  · rintro ⟨m, ⟨⟨l, ⟨_, rfl⟩, h1⟩, h2⟩, h3⟩
    exact ⟨m, ⟨h1, h2⟩, h3⟩
  · rintro ⟨m, ⟨h1, h2⟩, h3⟩
    exact ⟨m, ⟨⟨ms, ⟨Nat.succ_ne_zero _, rfl⟩, h1⟩, h2⟩, h3⟩
theorem shown_rep {cs sp : List D} {n w k : Nat} {ms : List D} {p : Nat × Nat} : shownN cs sp n (List.replicate (k + 1) ms).flatten w p = shownN cs sp n ms w p := by
  funext j
  unfold shownN addN
  simp only [places_rep]
theorem rep_all {k n : Nat} {ms : List D} (h : ms.all (isMark n) = true) : (List.replicate k ms).flatten.all (isMark n) = true := List.all_eq_true.mpr fun x hx => by
  obtain ⟨l, hl, hx⟩ := List.mem_flatten.mp hx
  rw [(List.mem_replicate.mp hl).2] at hx
  exact List.all_eq_true.mp h x hx
theorem ints_ex {l : List D} (hz : l.length ≤ 1000000) (h : ∀ x ∈ l, ∃ i : Int, x = .int i) {n : Nat} : exOk (n + 2) (.lst l) = true := by
  show (decide (l.length ≤ 1000000) && l.all (fun x => exOk (n + 1) x)) = true
  rw [decide_eq_true hz, Bool.true_and, List.all_eq_true]
  intro x hx
  obtain ⟨i, rfl⟩ := h x hx
  rfl
theorem kL_ex {g : Nat → Nat} {w : Nat} (hw : w ≤ 1000) : exOk 7 (.lst [.str (Str.ofString "told"), .lst (kL g w)]) = true := by
  have h : exOk 6 (.lst (kL g w)) = true := ints_ex (n := 4) (by rw [kL_len]; omega) fun x hx => by
    obtain ⟨i, _, rfl⟩ := List.mem_map.mp hx
    exact ⟨_, rfl⟩
  show (true && (true && (exOk 6 (.lst (kL g w)) && true))) = true
  rw [h]
  rfl
theorem kL_cl2 {g : Nat → Nat} {w : Nat} : (D.lst [.str (Str.ofString "told"), .lst (kL g w)]).lt 0 = true := by
  show (true && (D.ltL 0 (kL g w) && true)) = true
  rw [kL_cl]
  rfl
abbrev spShownRight (K : PySem.W.Frag) : Sp := spDrawn K 100000000 (T := List D × Str × Nat) (fun t => [.lst t.1, .str t.2.1, .int (t.2.2 : Int)]) (fun t => GoodB t.1 ∧ Printed 100 t.2.1 ∧ 0 < t.2.2 ∧ t.2.2 ≤ 100) (fun _ d => d = .bl true) 1000
abbrev st__law_shown_right : Stmt := top 80
abbrev nm__law_shown_right : List Str := ["purse", "book", "text", "width", "laid", "many", "kept", "turn", "marks", "window", "handed", "due"]
theorem sc__law_shown_right : FnScope nm__law_shown_right ["purse", "book", "text", "width"] (defScope st__law_shown_right) := ⟨rfl, rfl, rfl, by decide +kernel, rfl, by decide +kernel, by decide +kernel⟩
theorem ok_shown_right (F : Fun K "_law_shown_right" "_law_shown_right" st__law_shown_right f fd) (T : Tx P w K mg base a) (c__law_laid_out : CalX P w K mg base 5 "_law_laid_out" ["book", "text"] (spLLaid K)) (c__law_greedy : CalX P w K mg base 1 "_law_greedy" ["cells", "width"] (spWins K)) (c__law_copied : CalX P w K mg base 5 "_law_copied" ["thing"] (spCopied K 4)) (c__law_marks_of : CalX P w K mg base 3 "_law_marks_of" ["purse", "size"] (spMarksOf K))
    (c__law_due : CalX P w K mg base 3 "_law_due" ["laid", "size", "width", "window", "marks"] (spDue K)) (c__law_exact : CalX P w K mg base 8 "_law_exact" ["mine", "theirs"] (spExact K 7)) (c__law_heard : CalX P w K mg base 10 "_law_heard" ["way", "args"] (spHeard K)) : FnOk P w K mg base (L2.CX P w) 11 f fd ["purse", "book", "text", "width"] (spShownRight K) := by
  refine F.okX sc__law_shown_right (fun vs H Q E h => pro_len h fun _ => rfl) (fun cdv A outer s H vs Q E hr h => ⟨_, (pss_cons (ps_set (i := 4) sc__law_shown_right.nd rfl (by first | exact Or.inl rfl | exact Or.inr rfl) (pe_c c__law_laid_out hr (by first | decide | exact Nat.le_refl _) rfl (passes_call (takes_of rfl rfl rfl rfl) (fun _ _ _ _ h => h)) (pa_cons (pv 1) (pa_cons (pv 2) pa_nil))))
    (pss_cons (ps_par (i := 5) (j := 6) rfl sc__law_shown_right.nd rfl rfl (by decide) rfl rfl (pa_cons (pe_callB (kC K rLenU rfl call_lenU) (by rfl) T.b_len (by decide +kernel) (pa_cons (pe_c c__law_greedy hr (by first | decide | exact Nat.le_refl _) rfl (passes_call (takes_of rfl rfl rfl rfl) (fun _ _ _ _ h => h)) (pa_cons (pe_ix (kX K rIx rfl ix_seq) (pv 4) pe_int (fun _ _ => rfl)) (pa_cons (pv 3) pa_nil))) pa_nil)) (pa_cons (pe_c c__law_copied hr (by first | decide | exact Nat.le_refl _) rfl (passes_call (takes_of rfl rfl rfl rfl) (fun _ _ _ _ h => h)) (pa_cons (pv 1) pa_nil)) pa_nil)) (by rfl))
    (pss_cons (ps_for (passes_of rfl) rfl (pi_range1 rfl T.b_range (pa_cons pe_int pa_nil)) (pg_name (i := 7) sc__law_shown_right.nd rfl (by first | exact Or.inl rfl | exact Or.inr rfl))
      (pss_cons (ps_set (i := 8) sc__law_shown_right.nd rfl (by first | exact Or.inl rfl | exact Or.inr rfl) (pe_c c__law_marks_of hr (by first | decide | exact Nat.le_refl _) rfl (passes_call (takes_of rfl rfl rfl rfl) (fun _ _ _ _ h => h)) (pa_cons (pv 0) (pa_cons (pe_callB (kC K rLenU rfl call_lenU) (by rfl) T.b_len (by decide +kernel) (pa_cons (pv 2) pa_nil)) pa_nil))))
    (pss_one (ps_for (passes_of rfl) rfl (pi_range1 rfl T.b_range (pa_cons (pe_callB (call_max2 rfl) (by rfl) T.b_max (by decide +kernel) (pa_cons pe_int (pa_cons (pv 5) pa_nil))) pa_nil)) (pg_name (i := 9) sc__law_shown_right.nd rfl (by first | exact Or.inl rfl | exact Or.inr rfl))
      (pss_cons (ps_set (i := 10) sc__law_shown_right.nd rfl (by first | exact Or.inl rfl | exact Or.inr rfl) (pe_callTy (kC K rListOf rfl call_listOf) (by rfl) T.b_list (by decide +kernel) (pa_cons (pv 8) pa_nil)))
    (pss_cons (ps_set (i := 11) sc__law_shown_right.nd rfl (by first | exact Or.inl rfl | exact Or.inr rfl) (pe_c c__law_due hr (by first | decide | exact Nat.le_refl _) rfl (passes_call (takes_of rfl rfl rfl rfl) (fun _ _ _ _ h => h)) (pa_cons (pv 4) (pa_cons (pe_callB (kC K rLenU rfl call_lenU) (by rfl) T.b_len (by decide +kernel) (pa_cons (pv 2) pa_nil)) (pa_cons (pv 3) (pa_cons (pv 9) (pa_cons (pv 8) pa_nil)))))))
    (pss_cons (ps_if (PW.pt (pw_or (pt_not (pt_val (pe_c c__law_exact hr (by first | decide | exact Nat.le_refl _) rfl (passes_call (takes_of rfl rfl rfl rfl) (fun _ _ _ _ h => h)) (pa_cons (pe_lst (pa_cons pe_str (pa_cons (pv 11) pa_nil))) (pa_cons (pe_c c__law_heard hr (by first | decide | exact Nat.le_refl _) rfl (passes_call (takes_of rfl rfl rfl rfl) (fun _ _ _ _ h => h)) (pa_cons pe_int (pa_cons (pe_lst (pa_cons (pv 1) (pa_cons (pv 2) (pa_cons (pv 3) (pa_cons (pv 9) (pa_cons (pv 10) pa_nil)))))) pa_nil))) pa_nil))))) (pw_or1 (pt_cmpR (kO K rNeU rfl (op_neU (hu64 hr))) (pv 10) (pv 8) (nomark _))))) (pss_one (ps_ret pe_bl)) pss_nil)
    (pss_one (ps_if (PW.pt (pw_and (pt_cmpR (kO K rEqU rfl (op_eqU (hu64 hr))) (pv 9) pe_int (nomark _)) (pw_and1 (pt_not (pt_val (pe_c c__law_exact hr (by first | decide | exact Nat.le_refl _) rfl (passes_call (takes_of rfl rfl rfl rfl) (fun _ _ _ _ h => h)) (pa_cons (pe_lst (pa_cons pe_str (pa_cons (pv 11) pa_nil))) (pa_cons (pe_c c__law_heard hr (by first | decide | exact Nat.le_refl _) rfl (passes_call (takes_of rfl rfl rfl rfl) (fun _ _ _ _ h => h)) (pa_cons pe_int (pa_cons (pe_lst (pa_cons (pv 1) (pa_cons (pv 2) (pa_cons (pv 3) (pa_cons (pv 9) (pa_cons (pe_op op_timesU (pv 8) (pe_op (kO K rPlus rfl op_plus) pe_int (pe_op op_fdivW pe_int (pe_callB (call_max2 rfl) (by rfl) T.b_max (by decide +kernel) (pa_cons pe_int (pa_cons (pe_callB (kC K rLenU rfl call_lenU) (by rfl) T.b_len (by decide +kernel) (pa_cons (pv 8) pa_nil)) pa_nil)))))) pa_nil)))))) pa_nil))) pa_nil)))))))) (pss_one (ps_ret pe_bl)) pss_nil)))))))))
    (pss_one (ps_ret (pe_c c__law_exact hr (by first | decide | exact Nat.le_refl _) rfl (passes_call (takes_of rfl rfl rfl rfl) (fun _ _ _ _ h => h)) (pa_cons (pv 6) (pa_cons (pv 1) pa_nil)))))))), run_body h fun ⟨p, n, l, s, w⟩ S ⟨hp, hn, ⟨hg, hs, hw, hwz⟩, _⟩ hl hcl wi => ?_⟩)
  have hp : PuOk n p := hp
  have hn : n ≤ 100000000 := hn
  have hg : GoodB l := hg
  have hs : Printed 100 s := hs
  have hw : 0 < w := hw
  have hwz : w ≤ 100 := hwz
  have hS : S.A.length = 1 := hl
  have hs1 : Printed 10000 s := ⟨Nat.le_trans hs.1 (by decide), hs.2⟩
  have hsz := hs.1
  have hok : (run l (cp s)).Ok (cp s).length := it_ok hg _
  have hrc := hok.c
  have hsp := run_sp hg hs1.1
  have hce := run_ce hg hs1.1
  have hfl : ((run l (cp s)).spans.flatMap cellsN).length = (run l (cp s)).cells.length := run_sum hg _
  have hra : ∀ k, k < (cp s).length → ∃ x ∈ (run l (cp s)).spans, inS k x = true := fun k h => run_sg hg h
  have cc0 := cells_ok_cl (n := 0) hok
  have cs0 := spans_ok_cl (n := 0) hok
  have co0 := odd_ok_cl (n := 0) hok
  have hpre := laid_pre hg hs1
  have hans : ∀ m ms, m < max (winsOf (run l (cp s)).cells w).length 1 → ms.all (isMark (cp s).length) = true → ansQ (.lst l, .str s, .int (w : Int), .int (m : Int), .lst ms) = .told (.lst (kL (shownN (run l (cp s)).cells (run l (cp s)).spans (cp s).length ms w (winAt (winsOf (run l (cp s)).cells w) m)) w)) := fun m ms h1 h2 => ansS_ok hg hs1 hw h1 h2
  have hask : ∀ m ms, ms.all (isMark (cp s).length) = true → ms.length ≤ 100 → AskS (.lst l, .str s, .int ((w : Nat) : Int), .int ((m : Nat) : Int), .lst ms) := fun m ms h1 h2 => ⟨hpre, by show (cp s).length ≤ 200; omega, int_cl, fun _ => by rw [dot_nat]; omega, int_cl, marks_pre h1 h2⟩
  walk_at "pp"
  refine ask_llaidG ?_
  walk_at "pp"
  refine ⟨hg, hs1.1, ?_⟩
  generalize hR : run l (cp s) = R at *
  refine se_shut (l := R.spans) 1 (by rw [hS]; exact Nat.le_refl _) rfl ?_
  show SE K S _ [some (.own 0), some (.lst (D.subL _ l)), some (.str s), some (.int (w : Int)), some (.tup [.lst (D.subL _ R.cells), .lst R.spans, .own 2]), none, none, none, none, none, none, none] [.lst (D.subL _ p), .off, .lst (D.subL _ R.strange)] _
  rw [sbL_cl hg.cl, sbL_cl cc0, sbL_cl hp.cl, sbL_cl co0]
  refine se_shut (l := R.strange) 2 (by rw [hS]; decide) rfl ?_
  show SE K S _ [some (.own 0), some (.lst (D.subL _ l)), some (.str s), some (.int (w : Int)), some (.tup [.lst (D.subL _ R.cells), .lst (D.subL _ R.spans), .lst R.strange]), none, none, none, none, none, none, none] [.lst (D.subL _ p), .off, .off] _
  rw [sbL_cl hg.cl, sbL_cl cc0, sbL_cl hp.cl, sbL_cl cs0]
  walk_at "pp"
  refine se_par ?_
  walk_at "pp"
  refine ee_czS ?_
  walk_at "pp"
  refine oo_ixT (d := .lst R.cells) rfl ?_
  walk_at "pp"
  refine ⟨(R.cells, w), ⟨hce, hw, by show w ≤ _; omega⟩, rfl, by show (D.ltL 0 R.cells && (true && true)) = true; rw [cc0]; rfl, ?_⟩
  rintro ws rfl _
  dsimp only
  rw [show wins (zc R.cells) R.cells.length w = winsOf R.cells w from rfl]
  walk_at "pp"
  refine cc_len (.lst _) ?_
  rw [List.length_map]
  walk_at "pp"
  refine ee_cz ?_
  walk_at "pp"
  refine ⟨.lst l, goods_cp (n := 0) hg, rfl, by show (D.ltL 0 l && true) = true; rw [hg.cl]; rfl, ?_⟩
  rintro r rfl
  walk_at "pp"
  have hwl : (winsOf R.cells w).length ≤ R.cells.length := (wN_ok (z := zc R.cells) (n := R.cells.length) hw R.cells.length).2.2.2.1
  refine se_for (ie_rng1 ?_)
  walk_at "pp"
  refine ⟨by decide, by decide, rfl, fun j δ μ => ∃ (x7 x8 x9 x10 x11 : Option D) (l' : List D), δ = [some (.own 0), some (.lst l), some (.str s), some (.int (w : Int)), some (.tup [.lst R.cells, .lst R.spans, .lst R.strange]), some (.int ((winsOf R.cells w).length : Int)), some (.lst l), x7, x8, x9, x10, x11] ∧ μ = [.lst l', .off, .off] ∧ PuOk (n + 100 * j) l', ⟨none, none, none, none, none, p, rfl, rfl, hp⟩, ?_, ?_⟩
  · rintro j x δ μ hj ⟨x7, x8, x9, x10, x11, l', rfl, rfl, hp'⟩
    have hj2 : j < 3 := (rng_get hj).1
    refine ge_name ?_
    walk_at "pp"
    refine ask_drawn 0 ?_
    walk_at "pp"
    refine cc_lenS (by rw [len_cp]; omega) ?_
    walk_at "pp"
    rw [len_cp]
    refine ⟨(cp s).length, l', _, rfl, rfl, hp', by omega, by show (cp s).length ≤ 200; omega, rfl, fun d l2 hd _ hp2 => ?_⟩
    obtain ⟨ms, rfl, hms, hmz⟩ := hd
    have hms : ms.all (isMark (cp s).length) = true := hms
    walk_at "pp"
    refine se_for (ie_rng1 ?_)
    walk_at "pp"
    rw [show (if ((winsOf R.cells w).length : Int) > 1 then ((winsOf R.cells w).length : Int) else 1) = ((max (winsOf R.cells w).length 1 : Nat) : Int) by split <;> omega]
    refine ⟨by omega, by omega, ?_⟩
    rw [Int.toNat_natCast]
    refine ⟨rfl, fun m δ μ => ∃ y7 y9 y10 y11 : Option D, δ = [some (.own 0), some (.lst l), some (.str s), some (.int (w : Int)), some (.tup [.lst R.cells, .lst R.spans, .lst R.strange]), some (.int ((winsOf R.cells w).length : Int)), some (.lst l), y7, some (.lst ms), y9, y10, y11] ∧ μ = [.lst l2, .off, .off], ⟨_, _, _, _, rfl, rfl⟩, ?_, ?_⟩
    · rintro m x δ μ hm ⟨y7, y9, y10, y11, rfl, rfl⟩
      obtain ⟨hm2, rfl⟩ := rng_get hm
      rw [show (0 : Int) + (m : Int) = ((m : Nat) : Int) by omega]
      have hA := hans m ms hm2 hms
      have hQ := hask m ms hms (by omega)
      refine ge_name ?_
      walk_at "pp"
      refine cc_list (.lst _) ?_
      walk_at "pp"
      refine ee_cz ?_
      walk_at "pp"
      refine cc_lenS (by rw [len_cp]; omega) ?_
      walk_at "pp"
      rw [len_cp]
      refine ⟨((R.cells, R.spans, R.strange), (cp s).length, w, m, ms), ⟨hce, by show R.cells.length ≤ _; omega, hsp, hfl, co0, by show (cp s).length ≤ _; omega, hra, hw, by show w ≤ _; omega, hm2, hms, by show ms.length ≤ _; omega⟩, rfl, ?_, ?_⟩
      · show ((D.ltL 0 R.cells && (D.ltL 0 R.spans && (D.ltL 0 R.strange && true))) && (true && (true && (true && (D.ltL 0 ms && true))))) = true
        rw [cc0, cs0, co0, marks_cl hms]
        rfl
      rintro r rfl
      dsimp only
      generalize hD : kL (shownN R.cells R.spans (cp s).length ms w (winAt (winsOf R.cells w) m)) w = due at *
      walk_at "pp"
      refine ask_same (.lst [.str (Str.ofString "told"), .lst due]) ?_ ?_ ?_
      · rw [← hD]
        exact kL_ex (by omega)
      · rw [← hD]
        exact kL_cl2
      walk_at "pp"
      refine ee_lst ?_
      walk_at "pp"
      refine ask_heard (.lst l, .str s, .int (w : Int), .int (m : Int), .lst ms) hQ ?_
      walk_at "pp"
      refine ee_lst ?_
      walk_at "pp"
      refine ⟨rfl, ?_⟩
      rw [hA]
      walk_at "pp"
      refine ⟨rfl, ?_⟩
      walk_at "pp"
      refine oo_neSelf (marks_py hms) (by decide) ?_
      walk_at "pp"
      rw [int_eq]
      refine ⟨fun hb => ?_, fun hb => ?_⟩
      · have hrep : (List.replicate (41 / max ms.length 1 + 1) ms).flatten.length ≤ 100 := by
          rw [List.length_flatten, List.map_replicate, List.sum_replicate_nat, Nat.succ_mul]
          have h1 : 41 / max ms.length 1 * ms.length ≤ 41 / max ms.length 1 * max ms.length 1 := Nat.mul_le_mul_left _ (by omega)
          have h2 := Nat.div_mul_le_self 41 (max ms.length 1)
          omega
        have hR2 := rep_all (k := 41 / max ms.length 1 + 1) hms
        have hA2 := hans m _ hm2 hR2
        have hQ2 := hask m _ hR2 hrep
        rw [shown_rep, hD] at hA2
        walk_at "pp"
        refine ask_same (.lst [.str (Str.ofString "told"), .lst due]) ?_ ?_ ?_
        · rw [← hD]
          exact kL_ex (by omega)
        · rw [← hD]
          exact kL_cl2
        walk_at "pp"
        refine ee_lst ?_
        walk_at "pp"
        refine ask_heard (.lst l, .str s, .int (w : Int), .int (m : Int), .lst (List.replicate (41 / max ms.length 1 + 1) ms).flatten) hQ2 ?_
        walk_at "pp"
        refine ee_lst ?_
        walk_at "pp"
        refine cc_len (.lst _) ?_
        walk_at "pp"
        rw [show (if ((ms.length : Nat) : Int) > 1 then ((ms.length : Nat) : Int) else 1) = ((max ms.length 1 : Nat) : Int) by split <;> omega]
        refine oo_div (wide_div (by omega) (b := 40) (by omega) (by decide) (by decide)) ?_
        walk_at "pp"
        rw [show (1 : Int) + 41 / ((max ms.length 1 : Nat) : Int) = ((41 / max ms.length 1 + 1 : Nat) : Int) by
          rw [Int.natCast_add, Int.natCast_ediv, Int.add_comm]
          rfl]
        have hdl : 41 / max ms.length 1 ≤ 41 := Nat.div_le_self _ _
        have hml : ms.length * (41 / max ms.length 1 + 1) ≤ 16 * 42 := Nat.mul_le_mul (by omega) (by omega)
        refine oo_repL (by omega) (by omega) ?_
        walk_at "pp"
        refine ⟨rfl, ?_⟩
        rw [hA2]
        walk_at "pp"
        refine ⟨rfl, ?_⟩
        walk_at "pp"
        exact ⟨_, _, _, _, rfl, rfl⟩
      · walk_at "pp"
        exact ⟨_, _, _, _, rfl, rfl⟩
    · rintro δ μ ⟨y7, y9, y10, y11, rfl, rfl⟩
      exact ⟨_, _, _, _, _, l2, rfl, rfl, hp2⟩
  · rintro δ μ ⟨x7, x8, x9, x10, x11, l', rfl, rfl, hp'⟩
    walk_at "pp"
    refine ask_same (.lst l) (goods_ex (n := 3) hg) hg.cl ?_
    walk_at "pp"
    refine ⟨rfl, ?_⟩
    walk_at "gp"
    exact gave_drawn (n := n + 1000) hS (by rfl) rfl (hp'.le (by rw [show (rng 0 (3 : Int).toNat).length = 3 from rfl]; omega))
end


section
variable {P : Program} {w : World} {K : PySem.W.Frag} {mg : Str → Option Value} {base : Heap} {a : Ad} {f : Addr} {fd : FuncData}
structure NoText (x : D) : Prop where
  p : TxtPre x
  no : isTxt x = false
  cl : x.lt 0 = true
  ex : exOk 6 x = true
theorem not_okc {s : Str} (h : 9 ∈ cp s) : isTxt (.str s) = false := by
  show (cp s).all okc = false
  cases q : (cp s).all okc with
  | false => rfl
  | true =>
    have := List.all_eq_true.mp q 9 h
    cases this
theorem bad_str {s : Str} (hz : (cp s).length ≤ 100000) (h : 9 ∈ cp s) : NoText (.str s) := ⟨⟨rfl, fun t e => by cases e; exact hz⟩, not_okc h, rfl, rfl⟩
structure OddC (n : Nat) (x : D) : Prop where
  c : Cl x
  no : isInN n x = false
  ex : exOk 6 x = true
theorem noCts_odd {n : Nat} (hn : n ≤ 10000000) : ∀ x ∈ noCts n, OddC n x := by
  intro x hx
  have big : ∀ i : Int, (i < 0 ∨ (n : Int) ≤ i) → OddC n (.int i) := fun i h => by
    refine ⟨⟨rfl, rfl⟩, ?_, rfl⟩
    show (decide (0 ≤ i) && decide (i < (n : Int))) = false
    rcases h with h | h
    · rw [decide_eq_false (by omega)]
      rfl
    · rw [decide_eq_false (p := i < (n : Int)) (by omega), Bool.and_false]
  simp only [noCts, List.mem_cons, List.not_mem_nil, or_false] at hx
  rcases hx with rfl | rfl | rfl | rfl | rfl | rfl | rfl | rfl | rfl | rfl
  · exact big _ (.inr (by omega))
  · exact big _ (.inr (by omega))
  · exact big _ (.inl (by omega))
  · exact ⟨⟨rfl, rfl⟩, rfl, rfl⟩
  · exact ⟨⟨rfl, rfl⟩, rfl, rfl⟩
  · exact ⟨⟨rfl, rfl⟩, rfl, rfl⟩
  · exact ⟨⟨rfl, rfl⟩, rfl, rfl⟩
  · exact ⟨⟨rfl, rfl⟩, rfl, rfl⟩
  · exact ⟨⟨rfl, rfl⟩, rfl, rfl⟩
  · refine big _ (.inr ?_)
    have : (10 : Int) ^ 12 = 1000000000000 := by decide
    omega
theorem pair_ex {s : Str} {x : D} (h : exOk 6 x = true) : exOk 7 (.lst [.str s, x]) = true := by
  show (true && (true && (exOk 6 x && true))) = true
  rw [h]
  rfl
theorem pair_cl {s : Str} {x : D} (h : x.lt 0 = true) : (D.lst [.str s, x]).lt 0 = true := by
  show (true && (x.lt 0 && true)) = true
  rw [h]
  rfl
/-- things that are no marks of a text of n signs -/
structure BadM (n : Nat) (x : D) : Prop where
  p : MarkPre x
  no : isMark n x = false
  ex : exOk 5 x = true
def badsD (n : Nat) : List D := [.tup [.int 0, .int ((n : Int) + 1), .int 1], .tup [.int ((n : Int) + 1), .int ((n : Int) + 1), .int 1], .tup [.int 1, .int 0, .int 1], .tup [.int 0, .int 0, .int 0], .tup [.int 0, .int 0, .int 4], .tup [.int 0, .int 0, .bl true], .tup [.bl true, .int (n : Int), .int 1], .tup [.int 0, .bl false, .int 1]] ++
  [.tup [.int (-1), .int 0, .int 1], .tup [.int 0, .int 0], .tup [.int 0, .int 0, .int 1, .int 1], .lst [.int 0, .int 0, .int 1], .tup [.int 0, .int 0, .non], .tup [.str (Str.ofString "0"), .int 0, .int 1], .non, .int 0]
theorem pre_tup {l : List D} (h : D.ltL 0 l = true) (hl : l.length ≤ 1000) (hp : ∀ x ∈ l, x.pl = true) : MarkPre (.tup l) := ⟨⟨rfl, h⟩, fun m e => by
  cases e
  exact ⟨hl, hp⟩⟩
theorem pre_not {d : D} (h : Cl d) (hn : ∀ l, d ≠ .tup l) : MarkPre d := ⟨h, fun l e => absurd e (hn l)⟩
theorem bads_ok {n : Nat} : ∀ x ∈ badsD n, BadM n x := by
  intro x hx
  have pl3 : ∀ {x y z : D}, x.pl = true → y.pl = true → z.pl = true → ∀ u ∈ [x, y, z], u.pl = true := fun h1 h2 h3 u hu => by
    simp only [List.mem_cons, List.not_mem_nil, or_false] at hu
    rcases hu with rfl | rfl | rfl
    · exact h1
    · exact h2
    · exact h3
  have t3 : ∀ {x y z : V}, (D.v x).pl = true → (D.v y).pl = true → (D.v z).pl = true → MarkPre (.tup [.v x, .v y, .v z]) := fun h1 h2 h3 => pre_tup rfl (Nat.le_of_ble_eq_true rfl) (pl3 h1 h2 h3)
  simp only [badsD, List.cons_append, List.nil_append, List.mem_cons, List.not_mem_nil, or_false] at hx
  rcases hx with rfl | rfl | rfl | rfl | rfl | rfl | rfl | rfl | rfl | rfl | rfl | rfl | rfl | rfl | rfl | rfl
  · refine ⟨t3 rfl rfl rfl, ?_, rfl⟩
    show ((decide ((0 : Int) ≤ 0) && (decide ((0 : Int) ≤ (n : Int) + 1) && decide ((0 : Int) ≤ 1))) && ((decide ((0 : Int) ≤ (n : Int) + 1) && decide ((n : Int) + 1 ≤ (n : Int))) && _)) = false
    rw [decide_eq_false (show ¬ (n : Int) + 1 ≤ (n : Int) by omega)]
    simp
  · refine ⟨t3 rfl rfl rfl, ?_, rfl⟩
    show ((decide ((0 : Int) ≤ (n : Int) + 1) && (decide ((0 : Int) ≤ (n : Int) + 1) && decide ((0 : Int) ≤ 1))) && ((decide ((n : Int) + 1 ≤ (n : Int) + 1) && decide ((n : Int) + 1 ≤ (n : Int))) && _)) = false
    rw [decide_eq_false (show ¬ (n : Int) + 1 ≤ (n : Int) by omega)]
    simp
  · exact ⟨t3 rfl rfl rfl, rfl, rfl⟩
  · refine ⟨t3 rfl rfl rfl, ?_, rfl⟩
    exact (mark_nat (n := n) (i := 0) (j := 0) (k := 0)).trans (by simp)
  · refine ⟨t3 rfl rfl rfl, ?_, rfl⟩
    exact (mark_nat (n := n) (i := 0) (j := 0) (k := 4)).trans (by simp)
  · exact ⟨t3 rfl rfl rfl, rfl, rfl⟩
  · exact ⟨t3 rfl rfl rfl, rfl, rfl⟩
  · exact ⟨t3 rfl rfl rfl, rfl, rfl⟩
  · exact ⟨t3 rfl rfl rfl, rfl, rfl⟩
  · refine ⟨pre_tup rfl (Nat.le_of_ble_eq_true rfl) fun u hu => ?_, rfl, rfl⟩
    simp only [List.mem_cons, List.not_mem_nil, or_false] at hu
    rcases hu with rfl | rfl <;> rfl
  · refine ⟨pre_tup rfl (Nat.le_of_ble_eq_true rfl) fun u hu => ?_, rfl, rfl⟩
    simp only [List.mem_cons, List.not_mem_nil, or_false] at hu
    rcases hu with rfl | rfl | rfl | rfl <;> rfl
  · exact ⟨pre_not ⟨rfl, rfl⟩ (fun l e => by cases e), rfl, rfl⟩
  · exact ⟨t3 rfl rfl rfl, rfl, rfl⟩
  · exact ⟨t3 rfl rfl rfl, rfl, rfl⟩
  · exact ⟨pre_not ⟨rfl, rfl⟩ (fun l e => by cases e), rfl, rfl⟩
  · exact ⟨pre_not ⟨rfl, rfl⟩ (fun l e => by cases e), rfl, rfl⟩
/-- a thing that is no list of marks -/
structure OddM (n : Nat) (x : D) : Prop where
  p : MksPre x
  no : isMarks n x = false
  ex : exOk 6 x = true
theorem mark_ex {n : Nat} {m : D} (h : isMark n m = true) : exOk 5 m = true := by
  obtain ⟨i, j, k, rfl, _⟩ := mark_of h
  rfl
theorem put_odd {n k : Nat} {ms : List D} {x : D} (hx : BadM n x) (hms : ms.all (isMark n) = true) (hz : ms.length ≤ 16) : OddM n (.lst (ms.take k ++ [x] ++ ms.drop k)) := by
  have hmem : ∀ y ∈ ms.take k ++ [x] ++ ms.drop k, y = x ∨ isMark n y = true := fun y hy => by
    rcases List.mem_append.mp hy with hy | hy
    · rcases List.mem_append.mp hy with hy | hy
      · exact .inr (List.all_eq_true.mp hms y (List.mem_of_mem_take hy))
      · exact .inl (List.mem_singleton.mp hy)
    · exact .inr (List.all_eq_true.mp hms y (List.mem_of_mem_drop hy))
  have hlen : (ms.take k ++ [x] ++ ms.drop k).length ≤ 100 := by
    rw [List.length_append, List.length_append, List.length_take, List.length_drop]
    show _ + 1 + _ ≤ 100
    omega
  have hpre : ∀ y ∈ ms.take k ++ [x] ++ ms.drop k, MarkPre y := fun y hy => by
    rcases hmem y hy with rfl | h
    · exact hx.p
    · exact mark_pre h
  refine ⟨⟨⟨rfl, D.ltL_all.mpr fun y hy => (hpre y hy).1.2⟩, fun l e => ?_⟩, ?_, ?_⟩
  · cases e
    exact ⟨hlen, hpre⟩
  · show (ms.take k ++ [x] ++ ms.drop k).all (isMark n) = false
    cases q : (ms.take k ++ [x] ++ ms.drop k).all (isMark n) with
    | false => rfl
    | true =>
      have := List.all_eq_true.mp q x (List.mem_append_left _ (List.mem_append_right _ (List.mem_singleton.mpr rfl)))
      rw [hx.no] at this
      cases this
  · show (decide ((ms.take k ++ [x] ++ ms.drop k).length ≤ 1000000) && (ms.take k ++ [x] ++ ms.drop k).all (fun y => exOk 5 y)) = true
    rw [decide_eq_true (by omega)]
    refine List.all_eq_true.mpr fun y hy => ?_
    rcases hmem y hy with rfl | h
    · exact hx.ex
    · exact mark_ex h
theorem odd_tup {n : Nat} {ms : List D} (hms : ms.all (isMark n) = true) (hz : ms.length ≤ 16) : OddM n (.tup ms) := by
  refine ⟨⟨⟨rfl, marks_cl hms⟩, fun l e => by cases e⟩, rfl, ?_⟩
  show (decide (ms.length ≤ 1000000) && ms.all (fun y => exOk 5 y)) = true
  rw [decide_eq_true (by omega)]
  exact List.all_eq_true.mpr fun y hy => mark_ex (List.all_eq_true.mp hms y hy)
theorem odd_flat {n : Nat} {d : D} (h : Cl d) (hl : ∀ l, d ≠ .lst l) (hi : isMarks n d = false) (he : exOk 6 d = true) : OddM n d := ⟨⟨h, fun l e => absurd e (hl l)⟩, hi, he⟩
theorem non_pre : MksPre .non := ⟨⟨rfl, rfl⟩, fun l e => by cases e⟩
abbrev spRefused (K : PySem.W.Frag) : Sp := spDrawn K 10000000 (T := List D × Str × Nat) (fun t => [.lst t.1, .str t.2.1, .int (t.2.2 : Int)]) (fun t => GoodB t.1 ∧ Printed 100 t.2.1 ∧ 0 < t.2.2 ∧ t.2.2 ≤ 100) (fun _ d => d = .bl true) 1000
abbrev st__law_refused : Stmt := top 81
abbrev nm__law_refused : List Str := ["purse", "book", "text", "width", "size", "good", "many", "bad", "one", "at", "odd", "found"]
theorem sc__law_refused : FnScope nm__law_refused ["purse", "book", "text", "width"] (defScope st__law_refused) := ⟨rfl, rfl, rfl, by decide +kernel, rfl, by decide +kernel, by decide +kernel⟩
theorem ok_refused (F : Fun K "_law_refused" "_law_refused" st__law_refused f fd) (T : Tx P w K mg base a) (c__law_marks_of : CalX P w K mg base 3 "_law_marks_of" ["purse", "size"] (spMarksOf K)) (c__law_greedy : CalX P w K mg base 1 "_law_greedy" ["cells", "width"] (spWins K)) (c__law_laid_out : CalX P w K mg base 5 "_law_laid_out" ["book", "text"] (spLLaid K)) (c__law_draw : CalX P w K mg base 2 "_law_draw" ["purse", "many"] (spDraw K)) (c__law_exact : CalX P w K mg base 8 "_law_exact" ["mine", "theirs"] (spExact K 7))
    (c__law_heard : CalX P w K mg base 10 "_law_heard" ["way", "args"] (spHeard K)) (c__law_no_counts : CalX P w K mg base 1 "_law_no_counts" ["many"] (spNoCounts K)) (c__law_one_of : CalX P w K mg base 3 "_law_one_of" ["purse", "some"] (spOneOf K)) (c__law_no_books : CalX P w K mg base 3 "_law_no_books" ["purse", "book"] (spNoBooks K)) : FnOk P w K mg base (L2.CX P w) 11 f fd ["purse", "book", "text", "width"] (spRefused K) := by
  refine F.okX sc__law_refused (fun vs H Q E h => pro_len h fun _ => rfl) (fun cdv A outer s H vs Q E hr h => ⟨_, (pss_cons (ps_par (i := 4) (j := 5) rfl sc__law_refused.nd rfl rfl (by decide) rfl rfl (pa_cons (pe_callB (kC K rLenU rfl call_lenU) (by rfl) T.b_len (by decide +kernel) (pa_cons (pv 2) pa_nil)) (pa_cons (pe_c c__law_marks_of hr (by first | decide | exact Nat.le_refl _) rfl (passes_call (takes_of rfl rfl rfl rfl) (fun _ _ _ _ h => h)) (pa_cons (pv 0) (pa_cons (pe_callB (kC K rLenU rfl call_lenU) (by rfl) T.b_len (by decide +kernel) (pa_cons (pv 2) pa_nil)) pa_nil))) pa_nil)) (by rfl))
    (pss_cons (ps_set (i := 6) sc__law_refused.nd rfl (by first | exact Or.inl rfl | exact Or.inr rfl) (pe_callB (call_max2 rfl) (by rfl) T.b_max (by decide +kernel) (pa_cons pe_int (pa_cons (pe_callB (kC K rLenU rfl call_lenU) (by rfl) T.b_len (by decide +kernel) (pa_cons (pe_c c__law_greedy hr (by first | decide | exact Nat.le_refl _) rfl (passes_call (takes_of rfl rfl rfl rfl) (fun _ _ _ _ h => h)) (pa_cons (pe_ix (kX K rIx rfl ix_seq) (pe_c c__law_laid_out hr (by first | decide | exact Nat.le_refl _) rfl (passes_call (takes_of rfl rfl rfl rfl) (fun _ _ _ _ h => h)) (pa_cons (pv 1) (pa_cons (pv 2) pa_nil))) pe_int (fun _ _ => rfl)) (pa_cons (pv 3) pa_nil))) pa_nil)) pa_nil))))
    (pss_cons (ps_set (i := 7) sc__law_refused.nd rfl (by first | exact Or.inl rfl | exact Or.inr rfl) (pe_lst (pa_cons (pe_tup (pa_cons pe_int (pa_cons (pe_op (kO K rPlus rfl op_plus) (pv 4) pe_int) (pa_cons pe_int pa_nil)))) (pa_cons (pe_tup (pa_cons (pe_op (kO K rPlus rfl op_plus) (pv 4) pe_int) (pa_cons (pe_op (kO K rPlus rfl op_plus) (pv 4) pe_int) (pa_cons pe_int pa_nil)))) (pa_cons (pe_tup (pa_cons pe_int (pa_cons pe_int (pa_cons pe_int pa_nil)))) (pa_cons (pe_tup (pa_cons pe_int (pa_cons pe_int (pa_cons pe_int pa_nil)))) (pa_cons (pe_tup (pa_cons pe_int (pa_cons pe_int (pa_cons pe_int pa_nil)))) (pa_cons (pe_tup (pa_cons pe_int (pa_cons pe_int (pa_cons pe_bl pa_nil)))) (pa_cons (pe_tup (pa_cons pe_bl (pa_cons (pv 4) (pa_cons pe_int pa_nil)))) (pa_cons (pe_tup (pa_cons pe_int (pa_cons pe_bl (pa_cons pe_int pa_nil)))) pa_nil))))))))))
    (pss_cons (ps_set (i := 7) sc__law_refused.nd rfl (by first | exact Or.inl rfl | exact Or.inr rfl) (pe_op (kO K rPlus rfl op_plus) (pv 7) (pe_lst (pa_cons (pe_tup (pa_cons (pe_un un_neg pe_int) (pa_cons pe_int (pa_cons pe_int pa_nil)))) (pa_cons (pe_tup (pa_cons pe_int (pa_cons pe_int pa_nil))) (pa_cons (pe_tup (pa_cons pe_int (pa_cons pe_int (pa_cons pe_int (pa_cons pe_int pa_nil))))) (pa_cons (pe_lst (pa_cons pe_int (pa_cons pe_int (pa_cons pe_int pa_nil)))) (pa_cons (pe_tup (pa_cons pe_int (pa_cons pe_int (pa_cons pe_non pa_nil)))) (pa_cons (pe_tup (pa_cons pe_str (pa_cons pe_int (pa_cons pe_int pa_nil)))) (pa_cons pe_non (pa_cons pe_int pa_nil)))))))))))
    (pss_cons (ps_for (passes_of rfl) rfl (pi_listK (K := K) rfl (pv 7)) (pg_name (i := 8) sc__law_refused.nd rfl (by first | exact Or.inl rfl | exact Or.inr rfl))
      (pss_cons (ps_set (i := 9) sc__law_refused.nd rfl (by first | exact Or.inl rfl | exact Or.inr rfl) (pe_c c__law_draw hr (by first | decide | exact Nat.le_refl _) rfl (passes_call (takes_of rfl rfl rfl rfl) (fun _ _ _ _ h => h)) (pa_cons (pv 0) (pa_cons (pe_op (kO K rPlus rfl op_plus) (pe_callB (kC K rLenU rfl call_lenU) (by rfl) T.b_len (by decide +kernel) (pa_cons (pv 5) pa_nil)) pe_int) pa_nil))))
    (pss_cons (ps_set (i := 10) sc__law_refused.nd rfl (by first | exact Or.inl rfl | exact Or.inr rfl) (pe_op (kO K rPlus rfl op_plus) (pe_op (kO K rPlus rfl op_plus) (pe_slice (kS K rSlU rfl sl_U) (pv 5) po_none (po_some (pv 9))) (pe_lst (pa_cons (pv 8) pa_nil))) (pe_slice (kS K rSlU rfl sl_U) (pv 5) (po_some (pv 9)) po_none)))
    (pss_one (ps_if (pt_not (pt_val (pe_c c__law_exact hr (by first | decide | exact Nat.le_refl _) rfl (passes_call (takes_of rfl rfl rfl rfl) (fun _ _ _ _ h => h)) (pa_cons (pe_lst (pa_cons pe_str (pa_cons (pv 10) pa_nil))) (pa_cons (pe_c c__law_heard hr (by first | decide | exact Nat.le_refl _) rfl (passes_call (takes_of rfl rfl rfl rfl) (fun _ _ _ _ h => h)) (pa_cons pe_int (pa_cons (pe_lst (pa_cons (pv 1) (pa_cons (pv 2) (pa_cons (pv 3) (pa_cons (pe_op op_sub (pv 6) pe_int) (pa_cons (pv 10) pa_nil)))))) pa_nil))) pa_nil))))) (pss_one (ps_ret pe_bl)) pss_nil)))))
    (pss_cons (ps_for (passes_of rfl) rfl (pi_listK (K := K) rfl (pe_lst (pa_cons pe_non (pa_cons (pe_callTy (kC K rTupOf rfl call_tupOf) (by rfl) T.b_tuple (by decide +kernel) (pa_cons (pv 5) pa_nil)) (pa_cons pe_int (pa_cons pe_str (pa_cons pe_dnewK pa_nil))))))) (pg_name (i := 10) sc__law_refused.nd rfl (by first | exact Or.inl rfl | exact Or.inr rfl))
      (pss_one (ps_if (pt_not (pt_val (pe_c c__law_exact hr (by first | decide | exact Nat.le_refl _) rfl (passes_call (takes_of rfl rfl rfl rfl) (fun _ _ _ _ h => h)) (pa_cons (pe_lst (pa_cons pe_str (pa_cons (pv 10) pa_nil))) (pa_cons (pe_c c__law_heard hr (by first | decide | exact Nat.le_refl _) rfl (passes_call (takes_of rfl rfl rfl rfl) (fun _ _ _ _ h => h)) (pa_cons pe_int (pa_cons (pe_lst (pa_cons (pv 1) (pa_cons (pv 2) (pa_cons (pv 3) (pa_cons pe_int (pa_cons (pv 10) pa_nil)))))) pa_nil))) pa_nil))))) (pss_one (ps_ret pe_bl)) pss_nil)))
    (pss_cons (ps_for (passes_of rfl) rfl (pi_listK (K := K) rfl (pe_c c__law_no_counts hr (by first | decide | exact Nat.le_refl _) rfl (passes_call (takes_of rfl rfl rfl rfl) (fun _ _ _ _ h => h)) (pa_cons (pv 6) pa_nil))) (pg_name (i := 10) sc__law_refused.nd rfl (by first | exact Or.inl rfl | exact Or.inr rfl))
      (pss_one (ps_if (pt_not (pt_val (pe_c c__law_exact hr (by first | decide | exact Nat.le_refl _) rfl (passes_call (takes_of rfl rfl rfl rfl) (fun _ _ _ _ h => h)) (pa_cons (pe_lst (pa_cons pe_str (pa_cons (pv 10) pa_nil))) (pa_cons (pe_c c__law_heard hr (by first | decide | exact Nat.le_refl _) rfl (passes_call (takes_of rfl rfl rfl rfl) (fun _ _ _ _ h => h)) (pa_cons pe_int (pa_cons (pe_lst (pa_cons (pv 1) (pa_cons (pv 2) (pa_cons (pv 3) (pa_cons (pv 10) (pa_cons pe_non pa_nil)))))) pa_nil))) pa_nil))))) (pss_one (ps_ret pe_bl)) pss_nil)))
    (pss_cons (ps_set (i := 10) sc__law_refused.nd rfl (by first | exact Or.inl rfl | exact Or.inr rfl) (pe_c c__law_one_of hr (by first | decide | exact Nat.le_refl _) rfl (passes_call (takes_of rfl rfl rfl rfl) (fun _ _ _ _ h => h)) (pa_cons (pv 0) (pa_cons (pe_c c__law_no_books hr (by first | decide | exact Nat.le_refl _) rfl (passes_call (takes_of rfl rfl rfl rfl) (fun _ _ _ _ h => h)) (pa_cons (pv 0) (pa_cons (pv 1) pa_nil))) pa_nil))))
    (pss_cons (ps_set (i := 11) sc__law_refused.nd rfl (by first | exact Or.inl rfl | exact Or.inr rfl) (pe_lst (pa_cons (pe_c c__law_heard hr (by first | decide | exact Nat.le_refl _) rfl (passes_call (takes_of rfl rfl rfl rfl) (fun _ _ _ _ h => h)) (pa_cons pe_int (pa_cons (pe_lst (pa_cons (pv 10) (pa_cons pe_non (pa_cons pe_non (pa_cons pe_non (pa_cons pe_non pa_nil)))))) pa_nil))) (pa_cons (pe_c c__law_heard hr (by first | decide | exact Nat.le_refl _) rfl (passes_call (takes_of rfl rfl rfl rfl) (fun _ _ _ _ h => h)) (pa_cons pe_int (pa_cons (pe_lst (pa_cons (pv 1) (pa_cons (pe_op (kO K rPlus rfl op_plus) (pv 2) pe_str) (pa_cons pe_non (pa_cons pe_non (pa_cons pe_non pa_nil)))))) pa_nil))) pa_nil))))
    (pss_one (ps_ret (pe_c c__law_exact hr (by first | decide | exact Nat.le_refl _) rfl (passes_call (takes_of rfl rfl rfl rfl) (fun _ _ _ _ h => h)) (pa_cons (pe_lst (pa_cons (pe_lst (pa_cons pe_str (pa_cons (pv 10) pa_nil))) (pa_cons (pe_lst (pa_cons pe_str (pa_cons (pe_op (kO K rPlus rfl op_plus) (pv 2) pe_str) pa_nil))) (pa_cons (pe_lst (pa_cons pe_str (pa_cons pe_int pa_nil))) pa_nil)))) (pa_cons (pe_op (kO K rPlus rfl op_plus) (pv 11) (pe_lst (pa_cons (pe_c c__law_heard hr (by first | decide | exact Nat.le_refl _) rfl (passes_call (takes_of rfl rfl rfl rfl) (fun _ _ _ _ h => h)) (pa_cons pe_int (pa_cons (pe_lst (pa_cons (pv 1) (pa_cons (pv 2) (pa_cons pe_int (pa_cons pe_non (pa_cons pe_non pa_nil)))))) pa_nil))) pa_nil))) pa_nil)))))))))))))), run_body h fun ⟨p, n, l, s, wd⟩ S ⟨hp, hn, ⟨hg, hs, hw, hwz⟩, _⟩ hl hcl wi => ?_⟩)
  have hp : PuOk n p := hp
  have hn : n ≤ 10000000 := hn
  have hg : GoodB l := hg
  have hs : Printed 100 s := hs
  have hw : 0 < wd := hw
  have hwz : wd ≤ 100 := hwz
  have hs1 : Printed 10000 s := ⟨Nat.le_trans hs.1 (by decide), hs.2⟩
  have hsz := hs.1
  have hlen : s.length = (cp s).length := len_cp s
  have hS : S.A.length = 1 := hl
  have hok : (run l (cp s)).Ok (cp s).length := it_ok hg _
  have hrc := hok.c
  have hce := run_ce hg hs1.1
  have cc0 := cells_ok_cl (n := 0) hok
  have hpre := laid_pre hg hs1
  have a0 : ∀ (m : Nat) x, m < max (winsOf (run l (cp s)).cells wd).length 1 → OddM (cp s).length x → ansQ (.lst l, .str s, .int (wd : Int), .int (m : Int), x) = .bad .marks x := fun m x hm h => by
    show ansS (.lst l) (.str s) (.int (wd : Int)) (.int (m : Int)) x = _
    unfold ansS
    rw [laid_in hg.is hs1.is, if_neg (by rw [ct_nat hw]; exact fun z => by cases z), dot_nat, if_neg (by rw [show isInN (max (winsOf (runOf (.lst l) (.str s)).cells wd).length 1) _ = true from in_nat hm]; exact fun z => by cases z), if_pos (show isMarks (lenOf (.str s)) x = false from h.no)]
  have q0 : ∀ (m : Nat) x, OddM (cp s).length x → AskS (.lst l, .str s, .int ((wd : Nat) : Int), .int ((m : Nat) : Int), x) := fun m x h => ⟨hpre, by show (cp s).length ≤ 200; omega, int_cl, fun _ => by rw [dot_nat]; omega, int_cl, h.p⟩
  have a1 : ∀ x, OddC (max (winsOf (run l (cp s)).cells wd).length 1) x → ansQ (.lst l, .str s, .int (wd : Int), x, .non) = .bad .count x := fun x h => by
    show ansS (.lst l) (.str s) (.int (wd : Int)) x .non = _
    unfold ansS
    rw [laid_in hg.is hs1.is, if_neg (by rw [ct_nat hw]; exact fun z => by cases z), dot_nat, if_pos (show isInN (max (winsOf (runOf (.lst l) (.str s)).cells wd).length 1) x = false from h.no)]
  have q1 : ∀ x, OddC (max (winsOf (run l (cp s)).cells wd).length 1) x → AskS (.lst l, .str s, .int ((wd : Nat) : Int), x, .non) := fun x h => ⟨hpre, by show (cp s).length ≤ 200; omega, int_cl, fun _ => by rw [dot_nat]; omega, h.c, non_pre⟩
  have a2 : ansQ (.lst l, .str s, .int 0, .non, .non) = .bad .width (.int 0) := by
    show ansS (.lst l) (.str s) (.int 0) .non .non = _
    unfold ansS
    rw [laid_in hg.is hs1.is]
    rfl
  have q2 : AskS (.lst l, .str s, .int 0, .non, .non) := ⟨hpre, by show (cp s).length ≤ 200; omega, int_cl, fun z => (by cases z), ⟨rfl, rfl⟩, non_pre⟩
  walk_at "pp"
  refine se_par ?_
  walk_at "pp"
  refine cc_lenS (by rw [len_cp]; show (cp s).length ≤ _; omega) ?_
  walk_at "pp"
  refine ask_drawn 0 ?_
  walk_at "pp"
  refine cc_lenS (by rw [len_cp]; show (cp s).length ≤ _; omega) ?_
  walk_at "pp"
  rw [hlen]
  refine ⟨(cp s).length, p, n, rfl, rfl, hp, by omega, by show (cp s).length ≤ 200; omega, rfl, fun d p1 hd _ hp1 => ?_⟩
  obtain ⟨ms, rfl, hms, hmz⟩ := hd
  have hms : ms.all (isMark (cp s).length) = true := hms
  have hmc : D.ltL 0 ms = true := marks_cl hms
  walk_at "pp"
  refine ee_czS ?_
  refine ea_cons (ee_op ?_)
  refine ask_llaidG ?_
  walk_at "pp"
  refine ⟨hg, hs1.1, ?_⟩
  generalize hR : run l (cp s) = R at *
  refine ee_c ?_
  refine oo_ixT (d := .lst R.cells) rfl ?_
  walk_at "pp"
  refine ⟨(R.cells, wd), ⟨hce, hw, by show wd ≤ _; omega⟩, rfl, by show (D.ltL 0 R.cells && (true && true)) = true; rw [cc0]; rfl, ?_⟩
  rintro ws rfl _
  have hwl : (winsOf R.cells wd).length ≤ R.cells.length := (wN_ok (z := zc R.cells) (n := R.cells.length) hw R.cells.length).2.2.2.1
  dsimp only
  rw [show wins (zc R.cells) R.cells.length wd = winsOf R.cells wd from rfl]
  have hcz := hce.1
  walk_at "pp"
  refine cc_len (.lst _) ?_
  rw [List.length_map]
  have hlen2 : (winsOf R.cells wd).length ≤ 1000000 := by omega
  walk_at "pp"
  rw [show (if ((winsOf R.cells wd).length : Int) > 1 then ((winsOf R.cells wd).length : Int) else 1) = ((max (winsOf R.cells wd).length 1 : Nat) : Int) by split <;> omega]
  have hmany : 0 < max (winsOf R.cells wd).length 1 ∧ max (winsOf R.cells wd).length 1 ≤ 1000000 := by omega
  generalize max (winsOf R.cells wd).length 1 = many at *
  walk_at "pp"
  refine ee_lst ?_
  walk_at "pp"
  refine ee_lst ?_
  walk_at "pp"
  refine ee_lst ?_
  walk_at "pp"
  refine oo_addL (by exact Nat.le_of_ble_eq_true rfl) ?_
  show SE K S _ [some (.own 0), some (.lst l), some (.str s), some (.int (wd : Int)), some (.int ((cp s).length : Int)), some (.lst ms), some (.int (many : Int)), some (.lst (badsD (cp s).length)), none, none, none, none] [.lst p1, .lst R.spans, .lst R.strange] _
  have hbl : (badsD (cp s).length).length = 16 := rfl
  have hbo := bads_ok (n := (cp s).length)
  generalize badsD (cp s).length = bads at *
  walk_at "pp"
  refine se_for (ie_list ?_)
  walk_at "pp"
  refine ⟨_, .inl rfl, ?_⟩
  refine ⟨rfl, fun i δ μ => ∃ (x8 x9 x10 : Option D) (p2 : List D), δ = [some (.own 0), some (.lst l), some (.str s), some (.int (wd : Int)), some (.int ((cp s).length : Int)), some (.lst ms), some (.int (many : Int)), some (.lst bads), x8, x9, x10, none] ∧ μ = [.lst p2, .lst R.spans, .lst R.strange] ∧ PuOk (n + 100 + i) p2, ⟨none, none, none, p1, rfl, rfl, hp1⟩, ?_, ?_⟩
  · rintro i x δ μ hi ⟨x8, x9, x10, p2, rfl, rfl, hp2⟩
    have hx := hbo x (List.mem_of_getElem? hi)
    have hi16 := (List.getElem?_eq_some_iff.mp hi).1
    refine ge_name ?_
    walk_at "pp"
    refine ask_draw 0 ?_
    walk_at "pp"
    refine cc_len (.lst _) ?_
    walk_at "pp"
    refine ⟨(ms.length : Int) + 1, p2, _, rfl, rfl, hp2, by omega, by omega, by omega, fun k p3 hk hp3 => ?_⟩
    walk_at "pp"
    refine ss_lst ?_
    rw [cutD_0n]
    walk_at "pp"
    refine ee_lst ?_
    walk_at "pp"
    refine oo_addL (by rw [List.length_take]; show _ + 1 ≤ _; omega) ?_
    walk_at "pp"
    refine ss_lst ?_
    rw [cutD_n0]
    refine oo_addL (by rw [List.length_append, List.length_take, List.length_drop]; show _ + 1 + _ ≤ _; omega) ?_
    have ho := put_odd (k := k) hx hms hmz
    generalize (ms.take k ++ [x] ++ ms.drop k) = odd at *
    have hoc : (D.lst odd).lt 0 = true := ho.p.1.2
    have haa := a0 (many - 1) (.lst odd) (by omega) ho
    have hqq := q0 (many - 1) (.lst odd) ho
    rw [show ((many - 1 : Nat) : Int) = (many : Int) - 1 by omega] at haa hqq
    walk_at "pp"
    refine ask_same (.lst [.str (Str.ofString "marks"), .lst odd]) (pair_ex ho.ex) (pair_cl hoc) ?_
    walk_at "pp"
    refine ee_lst ?_
    walk_at "pp"
    refine ask_heard _ hqq ?_
    walk_at "pp"
    refine ee_lst ?_
    walk_at "pp"
    refine ⟨rfl, ?_⟩
    rw [haa]
    walk_at "pp"
    refine ⟨rfl, ?_⟩
    walk_at "pp"
    refine ⟨_, _, _, p3, rfl, rfl, hp3⟩
  rintro δ μ ⟨x8, x9, x10, p2, rfl, rfl, hp2⟩
  rw [hbl] at hp2
  walk_at "pp"
  refine se_for (ie_list ?_)
  walk_at "pp"
  refine ee_lst ?_
  walk_at "pp"
  refine cc_tuple (.lst _) ?_
  walk_at "pp"
  refine ee_dnew ?_
  walk_at "pp"
  refine ⟨_, .inl rfl, ?_⟩
  refine ⟨rfl, fun i δ μ => ∃ x10 : Option D, δ = [some (.own 0), some (.lst l), some (.str s), some (.int (wd : Int)), some (.int ((cp s).length : Int)), some (.lst ms), some (.int (many : Int)), some (.lst bads), x8, x9, x10, none] ∧ μ = [.lst p2, .lst R.spans, .lst R.strange], ⟨x10, rfl, rfl⟩, ?_, ?_⟩
  · rintro i x δ μ hi ⟨x10, rfl, rfl⟩
    have hx : OddM (cp s).length x := by
      have hm := List.mem_of_getElem? hi
      simp only [List.mem_cons, List.not_mem_nil, or_false] at hm
      rcases hm with rfl | rfl | rfl | rfl | rfl
      · exact odd_flat ⟨rfl, rfl⟩ (fun l e => by cases e) rfl rfl
      · exact odd_tup hms hmz
      · exact odd_flat ⟨rfl, rfl⟩ (fun l e => by cases e) rfl rfl
      · exact odd_flat ⟨rfl, rfl⟩ (fun l e => by cases e) rfl rfl
      · exact odd_flat ⟨rfl, rfl⟩ (fun l e => by cases e) rfl rfl
    have haa := a0 0 x hmany.1 hx
    have hqq := q0 0 x hx
    refine ge_name ?_
    walk_at "pp"
    refine ask_same (.lst [.str (Str.ofString "marks"), x]) (pair_ex hx.ex) (pair_cl hx.p.1.2) ?_
    walk_at "pp"
    refine ee_lst ?_
    walk_at "pp"
    refine ask_heard _ hqq ?_
    walk_at "pp"
    refine ee_lst ?_
    walk_at "pp"
    refine ⟨rfl, ?_⟩
    rw [haa]
    walk_at "pp"
    refine ⟨rfl, ?_⟩
    walk_at "pp"
    exact rfl
  rintro δ μ ⟨x10, rfl, rfl⟩
  walk_at "pp"
  refine se_for (ie_list ?_)
  refine ee_cz ?_
  walk_at "pp"
  refine ⟨many, by show many ≤ 10000000; omega, rfl, rfl, ?_⟩
  rintro d rfl
  refine ⟨_, .inl rfl, ?_⟩
  refine ⟨rfl, fun i δ μ => ∃ x10 : Option D, δ = [some (.own 0), some (.lst l), some (.str s), some (.int (wd : Int)), some (.int ((cp s).length : Int)), some (.lst ms), some (.int (many : Int)), some (.lst bads), x8, x9, x10, none] ∧ μ = [.lst p2, .lst R.spans, .lst R.strange], ⟨x10, rfl, rfl⟩, ?_, ?_⟩
  · rintro i x δ μ hi ⟨x10, rfl, rfl⟩
    have hx := noCts_odd (n := many) (by omega) x (List.mem_of_getElem? hi)
    have haa := a1 x hx
    have hqq := q1 x hx
    refine ge_name ?_
    walk_at "pp"
    refine ask_same (.lst [.str (Str.ofString "count"), x]) (pair_ex hx.ex) (pair_cl hx.c.2) ?_
    walk_at "pp"
    refine ee_lst ?_
    walk_at "pp"
    refine ask_heard _ hqq ?_
    walk_at "pp"
    refine ee_lst ?_
    walk_at "pp"
    refine ⟨rfl, ?_⟩
    rw [haa]
    walk_at "pp"
    refine ⟨rfl, ?_⟩
    walk_at "pp"
    exact rfl
  rintro δ μ ⟨x10, rfl, rfl⟩
  walk_at "pp"
  refine ask_one 0 ?_
  walk_at "pp"
  refine ask_drawn 0 ?_
  walk_at "pp"
  refine ⟨l, p2, _, rfl, rfl, hp2, by omega, hg, by show (D.ltL 0 l && true) = true; rw [hg.cl]; rfl, fun d p3 hd _ hp3 => ?_⟩
  obtain ⟨xs, rfl, hx0, hxz, hxs⟩ := hd
  have hxc : D.ltL 0 xs = true := D.ltL_all.mpr fun x hx => (hxs x hx).cl
  walk_at "pp"
  refine ⟨.lst xs, p3, _, rfl, rfl, hp3, by omega, .inl ⟨_, rfl, hx0, by omega, hxc⟩, hxc, fun d p4 hpick _ hp4 => ?_⟩
  have hd : NoBook d := by
    cases hpick with
    | lst hm => exact hxs _ hm
  have e9 : cp (Str.ofString "\t") = [9] := by decide +kernel
  have hty : NoText (.str (s ++ Str.ofString "\t")) := bad_str (by rw [cp_app, List.length_append, e9]; show (cp s).length + 1 ≤ _; omega) (by rw [cp_app, e9]; exact List.mem_append_right _ List.mem_cons_self)
  have a3 : ansQ (d, .non, .non, .non, .non) = .bad .book d := if_pos hd.no
  have q3 : AskS (d, .non, .non, .non, .non) := ⟨⟨hd.b, ⟨rfl, fun s e => (by cases e)⟩, hd.cl, rfl, fun z => (by rw [show isBook (d, D.non).1 = isBook d from rfl, hd.no] at z; cases z), fun z => (by cases z)⟩, Nat.zero_le _, ⟨rfl, rfl⟩, fun z => (by cases z), ⟨rfl, rfl⟩, non_pre⟩
  have a4 : ansQ (.lst l, .str (s ++ Str.ofString "\t"), .non, .non, .non) = .bad .text (.str (s ++ Str.ofString "\t")) := by
    show laidO _ _ _ = _
    unfold laidO
    rw [if_neg (by rw [hg.is]; exact fun z => by cases z), if_pos hty.no]
  have q4 : AskS (.lst l, .str (s ++ Str.ofString "\t"), .non, .non, .non) := ⟨⟨hg.bok, hty.p, hg.cl, hty.cl, fun _ => ⟨l, rfl, hg⟩, fun z => (by rw [show isTxt (D.lst l, D.str (s ++ Str.ofString "\t")).2 = isTxt (.str (s ++ Str.ofString "\t")) from rfl, hty.no] at z; cases z)⟩, by show (cp (s ++ Str.ofString "\t")).length ≤ 200; rw [cp_app, List.length_append, e9]; show _ + 1 ≤ _; omega, ⟨rfl, rfl⟩, fun z => (by cases z), ⟨rfl, rfl⟩, non_pre⟩
  walk_at "pp"
  refine ee_lst ?_
  walk_at "pp"
  refine ask_heard _ q3 ?_
  walk_at "pp"
  refine ee_lst ?_
  walk_at "pp"
  refine ⟨rfl, ?_⟩
  rw [a3]
  walk_at "pp"
  refine ask_heard _ q4 ?_
  walk_at "pp"
  refine ee_lst ?_
  walk_at "pp"
  refine oo_addS (by rw [hlen]; show (cp s).length + 1 ≤ _; omega) ?_
  walk_at "pp"
  refine ⟨rfl, ?_⟩
  rw [a4]
  walk_at "pp"
  refine ask_same (.lst [.lst [.str (Str.ofString "book"), d], .lst [.str (Str.ofString "text"), .str (s ++ Str.ofString "\t")], .lst [.str (Str.ofString "width"), .int 0]]) ?_ ?_ ?_
  · show (true && ((true && (true && (exOk 5 d && true))) && (true && (true && true)))) = true
    rw [hd.ex]
    rfl
  · show ((true && (d.lt 0 && true)) && (true && (true && true))) = true
    rw [hd.cl]
    rfl
  walk_at "pp"
  refine ee_lst ?_
  walk_at "pp"
  refine ee_lst ?_
  walk_at "pp"
  refine ee_lst ?_
  walk_at "pp"
  refine oo_addS (by rw [hlen]; show (cp s).length + 1 ≤ _; omega) ?_
  walk_at "pp"
  refine ee_lst ?_
  walk_at "pp"
  refine ee_lst ?_
  walk_at "pp"
  refine ask_heard _ q2 ?_
  walk_at "pp"
  refine ee_lst ?_
  walk_at "pp"
  refine ⟨rfl, ?_⟩
  rw [a2]
  walk_at "pp"
  refine oo_addL (by exact Nat.le_of_ble_eq_true rfl) ?_
  walk_at "pp"
  refine ⟨rfl, ?_⟩
  walk_at "pp"
  walk_at "gp"
  exact gave_drawn (n := n + 1000) (P := fun d => d = .bl true) hS (by rfl) rfl (hp4.le (by omega))
end


section
variable {P : Program} {w : World} {K : PySem.W.Frag} {mg : Str → Option Value} {base : Heap} {a : Ad} {f : Addr} {fd : FuncData}
theorem ask_purses {S : Bs} {δ : Sl} {μ : List Cell} {C : D → List Cell → Prop} {ta : TA} {E : XK} (h : EA K S ta δ μ fun ds μ1 => ∃ (ns : List Int) (n : Nat), ds = [.rd (ns.map D.int), .int (n : Int)] ∧ μ1 = [] ∧ n ≤ 1000 ∧ ∀ ls : List (List D), (∀ l ∈ ls, PuOk 0 l) → C (.own 0) (.lst (hands ls.length) :: ls.map Cell.lst)) : EE K S (tCall (spPurses K) [] E ta) δ μ C :=
  ee_callG (CE := fun _ _ _ => False) [] Wi.none fun A G H σ a' Q q => h A G H σ a' Q fun vs ds A1 G1 H1 μ1 m nn r ⟨ns, n, e, e0, hn, hC⟩ => q vs ds A1 G1 H1 μ1 m nn r (by
    subst e e0
    have hcl : D.ltL 0 [D.rd (ns.map D.int), .int (n : Int)] = true := by
      show (D.ltL 0 (ns.map D.int) && (true && true)) = true
      rw [D.ltL_all.mpr fun x hx => by obtain ⟨j, _, rfl⟩ := List.mem_map.mp hx; rfl]
      rfl
    refine ⟨(ns, n), hn, List.nodup_nil, fun k hk => (by cases hk), rfl, rfl, hsL_cl hcl, by rw [renL_cl hcl]; rfl, fun d ν n' ⟨ls, e1, e2, hls⟩ _ _ _ _ => ?_, fun cc r ν z _ _ _ => z⟩
    subst e1 e2
    have hid : ∀ k, back [] 0 k = k := fun k => by
      show (if k < 0 then _ else 0 + (k - 0)) = k
      rw [if_neg (Nat.not_lt_zero k)]
      omega
    have hcr : ∀ c : Cell, c.ren (back [] 0) = c := fun c => by
      cases c with
      | off => rfl
      | lst l => exact congrArg Cell.lst (D.renL_id (p := fun _ => true) (fun k _ => hid k) (D.hsL_true l))
    show C (.own (back [] 0 0)) ([] ++ (Cell.lst (hands ls.length) :: ls.map Cell.lst).map (Cell.ren (back [] 0)))
    rw [hid, List.nil_append, show (Cell.lst (hands ls.length) :: ls.map Cell.lst).map (Cell.ren (back [] 0)) = Cell.lst (hands ls.length) :: ls.map Cell.lst by
      rw [show (Cell.ren (back [] 0)) = id from funext hcr, List.map_id]]
    exact hC ls hls)
section
variable {S : Bs} {δ : Sl} {μ : List Cell} {C : D → List Cell → Prop} {ta : TA} {E : XK}
theorem ask_shown {t : Q5} {r : D} (hp : AskS t) (he : ansQ t = .told r) (h : EA K S ta δ μ fun ds μ1 => ds = argsQ t ∧ C r μ1) : EE K S (tCall (spShown K a) [] E ta) δ μ C :=
  ee_c0 (CE := fun _ _ _ => False) Wi.none fun A G H σ a' Q q => h A G H σ a' Q fun vs ds A1 G1 H1 μ1 m n r' ⟨e, c⟩ => q vs ds A1 G1 H1 μ1 m n r' (by
    subst e
    refine ⟨t, hp, rfl, hp.cl, fun d hd _ => ?_, fun c' d ⟨k, z, _⟩ _ => ?_⟩
    · have hd : ansQ t = .told d := hd
      rw [he] at hd
      cases hd
      exact c
    · have z : ansQ t = .bad k d := z
      rw [he] at z
      cases z)
theorem ask_shownP {t : Q5} {r : D} (hp : AskS t) (he : ansQ t = .told r) (h : EA K S ta δ μ fun ds μ1 => ds.length = 5 ∧ permL [4, 3, 2, 1, 0] ds = argsQ t ∧ C r μ1) : EE K S (tCallP (spShown K a) [4, 3, 2, 1, 0] 5 E ta) δ μ C :=
  ee_callP (CE := fun _ _ _ => False) Wi.none fun A G H σ a' Q q => h A G H σ a' Q fun vs ds A1 G1 H1 μ1 m n r' ⟨e0, e, c⟩ => q vs ds A1 G1 H1 μ1 m n r' (by
    refine ⟨e0, t, hp, e, hp.cl, fun d hd _ => ?_, fun c' d ⟨k, z, _⟩ _ => ?_⟩
    · have hd : ansQ t = .told d := hd
      rw [he] at hd
      cases hd
      exact c
    · have z : ansQ t = .bad k d := z
      rw [he] at z
      cases z)
end
abbrev plainD : List D := [.tup [.str (Str.ofString "a"), .tup [.int 1], .str (Str.ofString "any"), .str (Str.ofString "any")], .tup [.str (Str.ofString "bc"), .tup [.int 2, .int 3, .int 4], .str (Str.ofString "any"), .str (Str.ofString "any")]]
abbrev abc : Str := Str.ofString "abc"
abbrev nilS : Str := Str.ofString ""
theorem plain_good : GoodB plainD := by
  refine ⟨Nat.le_of_ble_eq_true rfl, fun d hd => ?_⟩
  have hd : d ∈ [D.tup [.str (Str.ofString "a"), .tup [.int 1], .str (Str.ofString "any"), .str (Str.ofString "any")], .tup [.str (Str.ofString "bc"), .tup [.int 2, .int 3, .int 4], .str (Str.ofString "any"), .str (Str.ofString "any")]] := hd
  simp only [List.mem_cons, List.not_mem_nil, or_false] at hd
  rcases hd with rfl | rfl
  · refine ⟨rfl, by decide +kernel, by decide +kernel, by decide +kernel, by decide, by decide, fun c hc => ?_, by decide +kernel, by decide +kernel⟩
    have hc : c ∈ [D.int 1] := hc
    simp only [List.mem_cons, List.not_mem_nil, or_false] at hc
    subst hc
    exact ⟨1, rfl, by decide, by decide⟩
  · refine ⟨rfl, by decide +kernel, by decide +kernel, by decide +kernel, by decide, by decide, fun c hc => ?_, by decide +kernel, by decide +kernel⟩
    have hc : c ∈ [D.int 2, .int 3, .int 4] := hc
    simp only [List.mem_cons, List.not_mem_nil, or_false] at hc
    rcases hc with rfl | rfl | rfl
    · exact ⟨2, rfl, by decide, by decide⟩
    · exact ⟨3, rfl, by decide, by decide⟩
    · exact ⟨4, rfl, by decide, by decide⟩
theorem abc_ok : Printed 10000 abc := ⟨by decide +kernel, fun c hc => List.all_eq_true.mp (show (cp abc).all okc = true by decide +kernel) c hc⟩
theorem nil_ok : Printed 10000 nilS := ⟨by decide +kernel, fun c hc => List.all_eq_true.mp (show (cp nilS).all okc = true by decide +kernel) c hc⟩
def dotI : D → Int
  | .v (.int i) => i
  | _ => 0
def tupI : D → List Int
  | .tup l => l.map dotI
  | _ => []
theorem ints_back : ∀ {l : List D}, (∀ x ∈ l, ∃ i : Int, x = .int i) → l = (l.map dotI).map D.int
  | [], _ => rfl
  | x :: l, h => by
    obtain ⟨i, rfl⟩ := h x List.mem_cons_self
    rw [List.map_cons, List.map_cons, ← ints_back fun y hy => h y (List.mem_cons_of_mem _ hy)]
    rfl
theorem spans_back : ∀ {l : List D}, (∀ x ∈ l, ∃ i j c d : Nat, x = spanD i j c d) → l = (l.map tupI).map fun z => D.tup (z.map D.int)
  | [], _ => rfl
  | x :: l, h => by
    obtain ⟨i, j, c, d, rfl⟩ := h x List.mem_cons_self
    rw [List.map_cons, List.map_cons, ← spans_back fun y hy => h y (List.mem_cons_of_mem _ hy)]
    rfl
theorem plain_run : (run plainD (cp abc)).cells.map dotI = [1, 2, 3, 4] ∧ (run plainD (cp abc)).spans.map tupI = [[0, 1, 0, 1], [1, 3, 1, 4]] := by decide +kernel
abbrev plainC : List D := [.int 1, .int 2, .int 3, .int 4]
abbrev plainS : List D := [.tup [.int 0, .int 1, .int 0, .int 1], .tup [.int 1, .int 3, .int 1, .int 4]]
theorem plain_cells : (run plainD (cp abc)).cells = plainC ∧ (run plainD (cp abc)).spans = plainS := by
  have hok : (run plainD (cp abc)).Ok (cp abc).length := it_ok plain_good _
  obtain ⟨h1, h2⟩ := plain_run
  refine ⟨?_, ?_⟩
  · rw [ints_back (l := (run plainD (cp abc)).cells) fun x hx => let ⟨i, e, _⟩ := hok.cc x hx; ⟨i, e⟩, h1]
    rfl
  · rw [spans_back (l := (run plainD (cp abc)).spans) hok.ss, h2]
    rfl
theorem nil_cells : (run plainD (cp nilS)).cells = [] ∧ (run plainD (cp nilS)).spans = [] := by
  rw [show cp nilS = [] by decide +kernel]
  exact ⟨rfl, rfl⟩
theorem plain_wins : winsOf plainC 5 = [(0, 4)] ∧ winsOf plainC 4 = [(0, 4)] ∧ winsOf [] 3 = [] := by decide +kernel
theorem kL_of {g : Nat → Nat} {n : Nat} {L : List Nat} (h : (List.range n).map g = L) : kL g n = L.map intD := by
  rw [← h, List.map_map]
  rfl
abbrev mks1 : List D := [.tup [.int 3, .int 3, .int 2], .tup [.int 1, .int 2, .int 1], .tup [.int 2, .int 2, .int 3]]
abbrev mks2 : List D := [.tup [.int 3, .int 3, .int 2]]
abbrev mks3 : List D := [.tup [.int 0, .int 0, .int 3]]
theorem end_pre {s : Str} {n : Nat} {ms : List D} (hs : Printed 10000 s) (hz : (cp s).length ≤ 200) (hn : n ≤ 1000) (hms : ms.all (isMark (cp s).length) = true) (hm : ms.length ≤ 100) : AskS (.lst plainD, .str s, .int (n : Int), .int ((0 : Nat) : Int), .lst ms) := ⟨laid_pre plain_good hs, hz, int_cl, fun _ => by rw [dot_nat]; exact hn, int_cl, marks_pre hms hm⟩
theorem end1 : AskS (.lst plainD, .str abc, .int 5, .int 0, .lst mks1) ∧ ansQ (.lst plainD, .str abc, .int 5, .int 0, .lst mks1) = .told (.lst [.int 1, .int 66, .int 195, .int 68, .int 128]) := by
  have hm : mks1.all (isMark (cp abc).length) = true := by decide +kernel
  refine ⟨end_pre (n := 5) abc_ok (by decide +kernel) (by decide) hm (by decide), ?_⟩
  have h := ansS_ok (n := 5) (m := 0) plain_good abc_ok (by decide) (by omega) hm
  rw [plain_cells.1, plain_cells.2, plain_wins.1, show (cp abc).length = 3 by decide +kernel, kL_of (L := [1, 66, 195, 68, 128]) (by decide +kernel)] at h
  exact h
theorem end2 : AskS (.lst plainD, .str abc, .int 4, .int 0, .lst mks2) ∧ ansQ (.lst plainD, .str abc, .int 4, .int 0, .lst mks2) = .told (.lst [.int 1, .int 2, .int 3, .int 4]) := by
  have hm : mks2.all (isMark (cp abc).length) = true := by decide +kernel
  refine ⟨end_pre (n := 4) abc_ok (by decide +kernel) (by decide) hm (by decide), ?_⟩
  have h := ansS_ok (n := 4) (m := 0) plain_good abc_ok (by decide) (by omega) hm
  rw [plain_cells.1, plain_cells.2, plain_wins.2.1, show (cp abc).length = 3 by decide +kernel, kL_of (L := [1, 2, 3, 4]) (by decide +kernel)] at h
  exact h
theorem end3 : AskS (.lst plainD, .str nilS, .int 3, .int 0, .lst mks3) ∧ ansQ (.lst plainD, .str nilS, .int 3, .int 0, .lst mks3) = .told (.lst [.int 192, .int 0, .int 0]) := by
  have hm : mks3.all (isMark (cp nilS).length) = true := by decide +kernel
  refine ⟨end_pre (n := 3) nil_ok (by decide +kernel) (by decide) hm (by decide), ?_⟩
  have h := ansS_ok (n := 3) (m := 0) plain_good nil_ok (by decide) (by omega) hm
  rw [nil_cells.1, nil_cells.2, plain_wins.2.2, show (cp nilS).length = 0 by decide +kernel, kL_of (L := [192, 0, 0]) (by decide +kernel)] at h
  exact h
abbrev st_law : Stmt := top 82
abbrev nm_law : List Str := ["script", "purse", "signs", "book", "text", "width", "plain", "found"]
theorem sc_law : FnScope nm_law ["script"] (defScope st_law) := ⟨rfl, rfl, rfl, by decide +kernel, rfl, by decide +kernel, by decide +kernel⟩
theorem ok_law (F : Fun K "law" "law" st_law f fd) (T : Tx P w K mg base a) (c__law_purses : CalX P w K mg base 2 "_law_purses" ["script", "few"] (spPurses K)) (c__law_alphabet : CalX P w K mg base 4 "_law_alphabet" ["purse"] (spAlpha K)) (c__law_book : CalX P w K mg base 5 "_law_book" ["purse", "signs", "most"] (spBook K)) (c__law_one_of : CalX P w K mg base 3 "_law_one_of" ["purse", "some"] (spOneOf K))
    (c__law_written_text : CalX P w K mg base 4 "_law_written_text" ["purse", "signs", "most"] (spTextOf K)) (c__law_draw : CalX P w K mg base 2 "_law_draw" ["purse", "many"] (spDraw K)) (c__law_shown_right : CalX P w K mg base 11 "_law_shown_right" ["purse", "book", "text", "width"] (spShownRight K)) (c__law_refused : CalX P w K mg base 11 "_law_refused" ["purse", "book", "text", "width"] (spRefused K))
    (c_cells_shown : CalX P w K mg base 8 "cells_shown" ["book", "text", "width", "window", "marks"] (spShown K a)) (k_cells_shown_marks_window_width_text_book : CalK P w K mg base 8 "cells_shown" ["book", "text", "width", "window", "marks"] ["marks", "window", "width", "text", "book"] [4, 3, 2, 1, 0] (spShown K a)) (c__law_exact : CalX P w K mg base 8 "_law_exact" ["mine", "theirs"] (spExact K 7)) : FnOk P w K mg base (L2.CX P w) 12 f fd ["script"] (spLaw K) := by
  refine F.okX sc_law (fun vs H Q E h => pro_len h fun _ => rfl) (fun cdv A outer s H vs Q E hr h => ⟨_, (pss_cons (ps_for (passes_of rfl) rfl (pi_listK (K := K) rfl (pe_c c__law_purses hr (by first | decide | exact Nat.le_refl _) rfl (passes_call (takes_of rfl rfl rfl rfl) (fun _ _ _ _ h => h)) (pa_cons (pv 0) (pa_cons pe_int pa_nil)))) (pg_name (i := 1) sc_law.nd rfl (by first | exact Or.inl rfl | exact Or.inr rfl))
      (pss_cons (ps_set (i := 2) sc_law.nd rfl (by first | exact Or.inl rfl | exact Or.inr rfl) (pe_c c__law_alphabet hr (by first | decide | exact Nat.le_refl _) rfl (passes_call (takes_of rfl rfl rfl rfl) (fun _ _ _ _ h => h)) (pa_cons (pv 1) pa_nil)))
    (pss_cons (ps_set (i := 3) sc_law.nd rfl (by first | exact Or.inl rfl | exact Or.inr rfl) (pe_c c__law_book hr (by first | decide | exact Nat.le_refl _) rfl (passes_call (takes_of rfl rfl rfl rfl) (fun _ _ _ _ h => h)) (pa_cons (pv 1) (pa_cons (pv 2) (pa_cons (pe_c c__law_one_of hr (by first | decide | exact Nat.le_refl _) rfl (passes_call (takes_of rfl rfl rfl rfl) (fun _ _ _ _ h => h)) (pa_cons (pv 1) (pa_cons (pe_lst (pa_cons pe_int (pa_cons pe_int (pa_cons pe_int pa_nil)))) pa_nil))) pa_nil)))))
    (pss_cons (ps_par (i := 4) (j := 5) rfl sc_law.nd rfl rfl (by decide) rfl rfl (pa_cons (pe_c c__law_written_text hr (by first | decide | exact Nat.le_refl _) rfl (passes_call (takes_of rfl rfl rfl rfl) (fun _ _ _ _ h => h)) (pa_cons (pv 1) (pa_cons (pv 2) (pa_cons pe_int pa_nil)))) (pa_cons (pe_op (kO K rPlus rfl op_plus) pe_int (pe_c c__law_draw hr (by first | decide | exact Nat.le_refl _) rfl (passes_call (takes_of rfl rfl rfl rfl) (fun _ _ _ _ h => h)) (pa_cons (pv 1) (pa_cons pe_int pa_nil)))) pa_nil)) (by rfl))
    (pss_cons (ps_if (PW.pt (pw_or (pt_not (pt_val (pe_c c__law_shown_right hr (by first | decide | exact Nat.le_refl _) rfl (passes_call (takes_of rfl rfl rfl rfl) (fun _ _ _ _ h => h)) (pa_cons (pv 1) (pa_cons (pv 3) (pa_cons (pv 4) (pa_cons (pv 5) pa_nil))))))) (pw_or1 (pt_not (pt_val (pe_c c__law_shown_right hr (by first | decide | exact Nat.le_refl _) rfl (passes_call (takes_of rfl rfl rfl rfl) (fun _ _ _ _ h => h)) (pa_cons (pv 1) (pa_cons (pv 3) (pa_cons pe_str (pa_cons (pv 5) pa_nil)))))))))) (pss_one (ps_ret pe_bl)) pss_nil)
    (pss_one (ps_if (pt_not (pt_val (pe_c c__law_refused hr (by first | decide | exact Nat.le_refl _) rfl (passes_call (takes_of rfl rfl rfl rfl) (fun _ _ _ _ h => h)) (pa_cons (pv 1) (pa_cons (pv 3) (pa_cons (pv 4) (pa_cons (pv 5) pa_nil))))))) (pss_one (ps_ret pe_bl)) pss_nil)))))))
    (pss_cons (ps_set (i := 6) sc_law.nd rfl (by first | exact Or.inl rfl | exact Or.inr rfl) (pe_lst (pa_cons (pe_tup (pa_cons pe_str (pa_cons (pe_tup (pa_cons pe_int pa_nil)) (pa_cons pe_str (pa_cons pe_str pa_nil))))) (pa_cons (pe_tup (pa_cons pe_str (pa_cons (pe_tup (pa_cons pe_int (pa_cons pe_int (pa_cons pe_int pa_nil)))) (pa_cons pe_str (pa_cons pe_str pa_nil))))) pa_nil))))
    (pss_cons (ps_set (i := 7) sc_law.nd rfl (by first | exact Or.inl rfl | exact Or.inr rfl) (pe_lst (pa_cons (pe_c c_cells_shown hr (by first | decide | exact Nat.le_refl _) rfl (passes_call (takes_of rfl rfl rfl rfl) (fun _ _ _ _ h => h)) (pa_cons (pv 6) (pa_cons pe_str (pa_cons pe_int (pa_cons pe_int (pa_cons (pe_lst (pa_cons (pe_tup (pa_cons pe_int (pa_cons pe_int (pa_cons pe_int pa_nil)))) (pa_cons (pe_tup (pa_cons pe_int (pa_cons pe_int (pa_cons pe_int pa_nil)))) (pa_cons (pe_tup (pa_cons pe_int (pa_cons pe_int (pa_cons pe_int pa_nil)))) pa_nil)))) pa_nil)))))) (pa_cons (pe_c c_cells_shown hr (by first | decide | exact Nat.le_refl _) rfl (passes_call (takes_of rfl rfl rfl rfl) (fun _ _ _ _ h => h)) (pa_cons (pv 6) (pa_cons pe_str (pa_cons pe_int (pa_cons pe_int (pa_cons (pe_lst (pa_cons (pe_tup (pa_cons pe_int (pa_cons pe_int (pa_cons pe_int pa_nil)))) pa_nil)) pa_nil)))))) pa_nil))))
    (pss_cons (ps_expr (pe_bmK (K := K) rfl PySem.F.plainAttrs_list PySem.F.slot_list_append PySem.F.type_list_append mt_append (pv 7) (pa_cons (pe_ck0 (k_cells_shown_marks_window_width_text_book) hr (by first | decide | exact Nat.le_refl _) rfl (passes_call (takes_of rfl rfl rfl rfl) (fun _ _ _ _ h => h)) (pk_cons (pe_lst (pa_cons (pe_tup (pa_cons pe_int (pa_cons pe_int (pa_cons pe_int pa_nil)))) pa_nil)) (pk_cons pe_int (pk_cons pe_int (pk_cons pe_str (pk_cons (pv 6) pk_nil)))))) pa_nil)))
    (pss_one (ps_ret (pe_c c__law_exact hr (by first | decide | exact Nat.le_refl _) rfl (passes_call (takes_of rfl rfl rfl rfl) (fun _ _ _ _ h => h)) (pa_cons (pe_lst (pa_cons (pe_lst (pa_cons pe_int (pa_cons pe_int (pa_cons pe_int (pa_cons pe_int (pa_cons pe_int pa_nil)))))) (pa_cons (pe_lst (pa_cons pe_int (pa_cons pe_int (pa_cons pe_int (pa_cons pe_int pa_nil))))) (pa_cons (pe_lst (pa_cons pe_int (pa_cons pe_int (pa_cons pe_int pa_nil)))) pa_nil)))) (pa_cons (pv 7) pa_nil))))))))), run_body h fun ns S hz hl hcl wi => ?_⟩)
  have hl : S.A.length = 0 := hl
  walk_at "pp"
  refine se_forP (ie_own ?_)
  refine ask_purses ?_
  walk_at "pp"
  refine ⟨rfl, by decide, fun ls hls => ?_⟩
  refine ⟨0, hands ls.length, rfl, rfl, ?_⟩
  refine ⟨fun j δ μ => ∃ (x1 x2 x3 x4 x5 : Option D), δ = [some (.rd (ns.map D.int)), x1, x2, x3, x4, x5, none, none] ∧ μ[0]? = some (.lst (hands ls.length)) ∧ ∀ i, j ≤ i → i < ls.length → ∃ l, μ[i + 1]? = some (.lst l) ∧ PuOk 0 l, ?_, ⟨none, none, none, none, none, rfl, rfl, fun i _ hi => ⟨ls[i], by rw [List.getElem?_cons_succ, List.getElem?_map, List.getElem?_eq_getElem hi]; rfl, hls _ (List.getElem_mem hi)⟩⟩, ?_, ?_⟩
  · rintro j δ μ ⟨x1, x2, x3, x4, x5, _, h0, _⟩
    exact h0
  · rintro j x δ μ hj ⟨x1, x2, x3, x4, x5, rfl, h0, hmu⟩
    have hjl : j < ls.length := by
      have := (List.getElem?_eq_some_iff.mp hj).1
      rw [hands_len] at this
      exact this
    have ex : x = .own (j + 1) := by
      unfold hands at hj
      rw [List.getElem?_map, List.getElem?_range hjl] at hj
      cases hj
      rfl
    subst ex
    obtain ⟨l0, hl0, hp0⟩ := hmu j (Nat.le_refl _) hjl
    have hlt := (List.getElem?_eq_some_iff.mp hl0).1
    have hs1 : ∀ (μ : List Cell) (c : Cell), j + 1 < μ.length → (μ.set (j + 1) c)[j + 1]? = some c := fun μ c h => List.getElem?_set_self h
    have hl1 : ∀ (μ : List Cell) (c : Cell), j + 1 < μ.length → j + 1 < (μ.set (j + 1) c).length := fun μ c h => by rw [List.length_set]; exact h
    walk_at "pp"
    refine ask_drawn (j + 1) ?_
    walk_at "pp"
    refine ⟨(), l0, 0, rfl, hl0, hp0, by decide, trivial, rfl, fun d l1 hd _ hp1 => ?_⟩
    obtain ⟨ss, rfl, hss⟩ := hd
    walk_at "pp"
    refine ask_drawn (j + 1) ?_
    walk_at "pp"
    refine ask_one (j + 1) ?_
    walk_at "pp"
    refine ee_lst ?_
    walk_at "pp"
    refine ⟨_, l1, 0 + 100, rfl, hs1 _ _ hlt, hp1, by decide, .inl ⟨_, rfl, by decide, by decide, rfl⟩, rfl, fun d l2 hpick _ hp2 => ?_⟩
    obtain ⟨q, rfl, hq⟩ : ∃ q : Nat, d = .int (q : Int) ∧ q ≤ 40 := by
      have hpick : Pick (.lst [.int 3, .int 9, .int 20]) d := hpick
      cases hpick with
      | lst hm =>
        simp only [List.mem_cons, List.not_mem_nil, or_false] at hm
        rcases hm with rfl | rfl | rfl
        · exact ⟨3, rfl, by decide⟩
        · exact ⟨9, rfl, by decide⟩
        · exact ⟨20, rfl, by decide⟩
    walk_at "pp"
    refine ⟨(ss, q), l2, 0 + 100 + 1, rfl, hs1 _ _ (hl1 _ _ hlt), hp2, by decide, ⟨hss, hq⟩, by show (D.ltL 0 (ss.map sg1) && true) = true; rw [sgs_cl]; rfl, fun d l3 hd _ hp3 => ?_⟩
    obtain ⟨bk, rfl, hg⟩ := hd
    walk_at "pp"
    refine se_par ?_
    walk_at "pp"
    refine ask_drawn (j + 1) ?_
    walk_at "pp"
    refine ⟨(ss, 30), l3, 0 + 100 + 1 + 100000, rfl, hs1 _ _ (hl1 _ _ (hl1 _ _ hlt)), hp3, by decide, ⟨hss, Nat.le_of_ble_eq_true rfl⟩, by show (D.ltL 0 (ss.map sg1) && true) = true; rw [sgs_cl]; rfl, fun d l4 hd _ hp4 => ?_⟩
    obtain ⟨t, rfl, ht⟩ := hd
    walk_at "pp"
    refine ask_draw (j + 1) ?_
    walk_at "pp"
    refine ⟨12, l4, 0 + 100 + 1 + 100000 + 1000, rfl, hs1 _ _ (hl1 _ _ (hl1 _ _ (hl1 _ _ hlt))), hp4, by decide, by decide, by decide, fun v l5 hv hp5 => ?_⟩
    have ev : (1 : Int) + (v : Int) = ((1 + v : Nat) : Int) := by omega
    have hgcl : ∀ x : Str, D.ltL 0 [D.lst bk, .str x, .int ((1 + v : Nat) : Int)] = true := fun x => by show (D.ltL 0 bk && (true && (true && true))) = true; rw [hg.cl]; rfl
    walk_at "pp"
    rw [ev]
    refine ask_drawn (j + 1) ?_
    walk_at "pp"
    refine ⟨(bk, t, 1 + v), l5, 0 + 100 + 1 + 100000 + 1000 + 1, rfl, hs1 _ _ (hl1 _ _ (hl1 _ _ (hl1 _ _ (hl1 _ _ hlt)))), hp5, by decide, ⟨hg, ht, by show 0 < 1 + v; omega, by show 1 + v ≤ 100; omega⟩, hgcl _, fun d l6 hd _ hp6 => ?_⟩
    subst hd
    walk_at "pp"
    refine ask_drawn (j + 1) ?_
    walk_at "pp"
    refine ⟨(bk, nilS, 1 + v), l6, 0 + 100 + 1 + 100000 + 1000 + 1 + 1000, rfl, hs1 _ _ (hl1 _ _ (hl1 _ _ (hl1 _ _ (hl1 _ _ (hl1 _ _ hlt))))), hp6, by decide, ⟨hg, ⟨show (cp nilS).length ≤ 100 by decide +kernel, nil_ok.2⟩, by show 0 < 1 + v; omega, by show 1 + v ≤ 100; omega⟩, hgcl _, fun d l7 hd _ hp7 => ?_⟩
    subst hd
    walk_at "pp"
    refine ask_drawn (j + 1) ?_
    walk_at "pp"
    refine ⟨(bk, t, 1 + v), l7, 0 + 100 + 1 + 100000 + 1000 + 1 + 1000 + 1000, rfl, hs1 _ _ (hl1 _ _ (hl1 _ _ (hl1 _ _ (hl1 _ _ (hl1 _ _ (hl1 _ _ hlt)))))), hp7, by decide, ⟨hg, ht, by show 0 < 1 + v; omega, by show 1 + v ≤ 100; omega⟩, hgcl _, fun d l8 hd _ hp8 => ?_⟩
    subst hd
    walk_at "pp"
    refine ⟨_, _, _, _, _, rfl, ?_, fun i hi hi2 => ?_⟩
    · rw [List.getElem?_set_ne (by omega), List.getElem?_set_ne (by omega), List.getElem?_set_ne (by omega), List.getElem?_set_ne (by omega), List.getElem?_set_ne (by omega), List.getElem?_set_ne (by omega), List.getElem?_set_ne (by omega), List.getElem?_set_ne (by omega)]
      exact h0
    · obtain ⟨l, h1, h2⟩ := hmu i (by omega) hi2
      refine ⟨l, ?_, h2⟩
      rw [List.getElem?_set_ne (by omega), List.getElem?_set_ne (by omega), List.getElem?_set_ne (by omega), List.getElem?_set_ne (by omega), List.getElem?_set_ne (by omega), List.getElem?_set_ne (by omega), List.getElem?_set_ne (by omega), List.getElem?_set_ne (by omega)]
      exact h1
  · rintro δ μ ⟨x1, x2, x3, x4, x5, rfl, h0, hmu⟩
    walk_at "pp"
    refine ee_lst ?_
    walk_at "pp"
    refine ee_open ?_
    walk_at "pp"
    refine ask_shown end1.1 end1.2 ?_
    walk_at "pp"
    refine ee_lst ?_
    walk_at "pp"
    refine ⟨rfl, ?_⟩
    walk_at "pp"
    refine ask_shown end2.1 end2.2 ?_
    walk_at "pp"
    refine ee_lst ?_
    walk_at "pp"
    refine ⟨rfl, ?_⟩
    walk_at "pp"
    have hk : ∀ c : Cell, (μ ++ [c])[μ.length]? = some c := fun c => by simp
    refine ee_bm ?_
    walk_at "pp"
    refine ⟨.lst (.own (hk _)), ?_⟩
    walk_at "pp"
    refine ask_shownP end3.1 end3.2 ?_
    walk_at "pp"
    refine ee_lst ?_
    walk_at "pp"
    refine ⟨rfl, rfl, ?_⟩
    walk_at "pp"
    refine mm_append (k := μ.length) (hk _) (by exact Nat.le_of_ble_eq_true rfl) ?_
    rw [show ∀ c c' : Cell, (μ ++ [c]).set μ.length c' = μ ++ [c'] from fun c c' => by simp]
    show SE K S (tRet _) _ _ _
    refine se_shut (l := [.lst [.int 1, .int 66, .int 195, .int 68, .int 128], .lst [.int 1, .int 2, .int 3, .int 4], .lst [.int 192, .int 0, .int 0]]) μ.length (by rw [hl]; exact Nat.zero_le _) (hk _) ?_
    walk_at "pp"
    refine ask_same (.lst [.lst [.int 1, .int 66, .int 195, .int 68, .int 128], .lst [.int 1, .int 2, .int 3, .int 4], .lst [.int 192, .int 0, .int 0]]) rfl rfl ?_
    walk_at "pp"
    refine ee_lst ?_
    walk_at "pp"
    refine ee_lst ?_
    walk_at "pp"
    refine ee_lst ?_
    walk_at "pp"
    refine ee_lst ?_
    walk_at "pp"
    refine ⟨?_, ?_⟩
    · show [_, D.sub _ (.own μ.length)] = _
      unfold D.sub
      rw [if_pos rfl]
    walk_at "gp"
    exact gaveP hl (by rfl) rfl
end


abbrev si_InvalidPage : Stmt := inClass (top 2) 0
theorem sci_InvalidPage : FnScope ["self", "value"] ["self", "value"] (defScope si_InvalidPage) := ⟨rfl, rfl, rfl, by decide +kernel, rfl, by decide +kernel, by decide +kernel⟩
abbrev si_InvalidNumber : Stmt := inClass (top 3) 0
theorem sci_InvalidNumber : FnScope ["self", "value"] ["self", "value"] (defScope si_InvalidNumber) := ⟨rfl, rfl, rfl, by decide +kernel, rfl, by decide +kernel, by decide +kernel⟩
abbrev si_InvalidCount : Stmt := inClass (top 4) 0
theorem sci_InvalidCount : FnScope ["self", "value"] ["self", "value"] (defScope si_InvalidCount) := ⟨rfl, rfl, rfl, by decide +kernel, rfl, by decide +kernel, by decide +kernel⟩
abbrev si_InvalidText : Stmt := inClass (top 5) 0
theorem sci_InvalidText : FnScope ["self", "value"] ["self", "value"] (defScope si_InvalidText) := ⟨rfl, rfl, rfl, by decide +kernel, rfl, by decide +kernel, by decide +kernel⟩
abbrev si_InvalidPlace : Stmt := inClass (top 6) 0
theorem sci_InvalidPlace : FnScope ["self", "value"] ["self", "value"] (defScope si_InvalidPlace) := ⟨rfl, rfl, rfl, by decide +kernel, rfl, by decide +kernel, by decide +kernel⟩
abbrev si_InvalidCells : Stmt := inClass (top 7) 0
theorem sci_InvalidCells : FnScope ["self", "value"] ["self", "value"] (defScope si_InvalidCells) := ⟨rfl, rfl, rfl, by decide +kernel, rfl, by decide +kernel, by decide +kernel⟩
abbrev si_InvalidBook : Stmt := inClass (top 8) 0
theorem sci_InvalidBook : FnScope ["self", "value"] ["self", "value"] (defScope si_InvalidBook) := ⟨rfl, rfl, rfl, by decide +kernel, rfl, by decide +kernel, by decide +kernel⟩
abbrev si_InvalidWidth : Stmt := inClass (top 9) 0
theorem sci_InvalidWidth : FnScope ["self", "value"] ["self", "value"] (defScope si_InvalidWidth) := ⟨rfl, rfl, rfl, by decide +kernel, rfl, by decide +kernel, by decide +kernel⟩
abbrev si_InvalidKey : Stmt := inClass (top 10) 0
theorem sci_InvalidKey : FnScope ["self", "value"] ["self", "value"] (defScope si_InvalidKey) := ⟨rfl, rfl, rfl, by decide +kernel, rfl, by decide +kernel, by decide +kernel⟩
abbrev si_InvalidMarks : Stmt := inClass (top 11) 0
theorem sci_InvalidMarks : FnScope ["self", "value"] ["self", "value"] (defScope si_InvalidMarks) := ⟨rfl, rfl, rfl, by decide +kernel, rfl, by decide +kernel, by decide +kernel⟩
abbrev si_InvalidStand : Stmt := inClass (top 12) 0
theorem sci_InvalidStand : FnScope ["self", "value"] ["self", "value"] (defScope si_InvalidStand) := ⟨rfl, rfl, rfl, by decide +kernel, rfl, by decide +kernel, by decide +kernel⟩
abbrev si_InvalidLine : Stmt := inClass (top 13) 0
theorem sci_InvalidLine : FnScope ["self", "value"] ["self", "value"] (defScope si_InvalidLine) := ⟨rfl, rfl, rfl, by decide +kernel, rfl, by decide +kernel, by decide +kernel⟩
abbrev si_NotWritten : Stmt := inClass (top 14) 0
theorem sci_NotWritten : FnScope ["self", "value"] ["self", "value"] (defScope si_NotWritten) := ⟨rfl, rfl, rfl, by decide +kernel, rfl, by decide +kernel, by decide +kernel⟩
/-- a def that is called with keywords alone -/
theorem kbd_mk {K : PySem.W.Frag} {x : Str} {st : Stmt} {f : Addr} {fd : FuncData} {ps ks : List Str} {π : List Nat} (F : Fun K x x st f fd)
    (h : ∀ (kV doc pm : Value) (an : Option Addr) (cdv ct : Value) (ws : List Value), ws.length = ks.length → bindArgs (PySem.W.fnOf x x (defArgs st) (defBody st) (defScope st) .none kV doc pm an cdv ct) ⟨[], ks.zip ws⟩ = pure (ps.zip (permL π ws))) : KBd K fd ps ks π := by
  obtain ⟨oc, od, kV, doc, pm, an, cdv, ct, osl, rfl, lk, hcd⟩ := F.ex
  exact fun s ws hl => .of_eq (h kV doc pm an cdv ct ws hl)
theorem all_ok {P : Program} {w : World} {K : PySem.W.Frag} {h : Heap} {mg : Str → Option Value} {fa : Addr} {eReadingError eInvalidPage eInvalidNumber eInvalidCount eInvalidText eInvalidPlace eInvalidCells eInvalidBook eInvalidWidth eInvalidKey eInvalidMarks eInvalidStand eInvalidLine eNotWritten cCONDITIONS : Addr} {tkNOTHING : Nat} {oCONDITIONS : Obj} {itsCONDITIONS : Array Value} {nCONDITIONS : Nat} {tkSTRANGE : Nat} (X : K.In h) (G : h.Ns mainGlobals mg) (hfa : mg "law" = some (.ref fa))
    (D_is_whole : DefF K mg "is_whole" st_is_whole)
    (D_is_count : DefD K mg "is_count" st_is_count [.int 0])
    (D_is_text : DefF K mg "is_text" st_is_text)
    (D_is_tuple_of : DefF K mg "is_tuple_of" st_is_tuple_of)
    (D_is_one_of : DefF K mg "is_one_of" st_is_one_of)
    (D_check_count : DefD K mg "check_count" st_check_count [.int 0, .non])
    (D_check_text : DefF K mg "check_text" st_check_text)
    (D_is_cell : DefF K mg "is_cell" st_is_cell)
    (D_class_of_sign : DefF K mg "class_of_sign" st_class_of_sign)
    (D_holds_of : DefF K mg "holds_of" st_holds_of)
    (D_holds : DefF K mg "holds" st_holds)
    (D_is_rule : DefF K mg "is_rule" st_is_rule)
    (D_is_book : DefF K mg "is_book" st_is_book)
    (D_check_book : DefF K mg "check_book" st_check_book)
    (D_fits_at : DefF K mg "fits_at" st_fits_at)
    (D_best_of : DefF K mg "best_of" st_best_of)
    (D_near_at : DefF K mg "near_at" st_near_at)
    (D_taken_at : DefF K mg "taken_at" st_taken_at)
    (D_laid_out : DefF K mg "laid_out" st_laid_out)
    (D_laid_cells : DefF K mg "laid_cells" st_laid_cells)
    (D_check_width : DefF K mg "check_width" st_check_width)
    (D_parting_kinds : DefF K mg "parting_kinds" st_parting_kinds)
    (D_windows_made : DefF K mg "windows_made" st_windows_made)
    (D_cell_led : DefF K mg "cell_led" st_cell_led)
    (D_is_mark_of : DefF K mg "is_mark_of" st_is_mark_of)
    (D_marked_by : DefF K mg "marked_by" st_marked_by)
    (D_cells_shown : DefF K mg "cells_shown" st_cells_shown)
    (D__law_class : DefF K mg "_law_class" st__law_class)
    (D__law_true : DefF K mg "_law_true" st__law_true)
    (D__law_fits : DefF K mg "_law_fits" st__law_fits)
    (D__law_taken : DefF K mg "_law_taken" st__law_taken)
    (D__law_laid_out : DefF K mg "_law_laid_out" st__law_laid_out)
    (D__law_alphabet : DefF K mg "_law_alphabet" st__law_alphabet)
    (D__law_cells_of : DefF K mg "_law_cells_of" st__law_cells_of)
    (D__law_condition : DefF K mg "_law_condition" st__law_condition)
    (D__law_book : DefF K mg "_law_book" st__law_book)
    (D__law_written_text : DefF K mg "_law_written_text" st__law_written_text)
    (D__law_door : DefF K mg "_law_door" st__law_door)
    (D__law_heard : DefF K mg "_law_heard" st__law_heard)
    (D__law_no_books : DefF K mg "_law_no_books" st__law_no_books)
    (D__law_no_counts : DefF K mg "_law_no_counts" st__law_no_counts)
    (D__law_greedy : DefF K mg "_law_greedy" st__law_greedy)
    (D__law_led_cell : DefF K mg "_law_led_cell" st__law_led_cell)
    (D__law_purse : DefF K mg "_law_purse" st__law_purse)
    (D__law_mixed : DefF K mg "_law_mixed" st__law_mixed)
    (D__law_draw : DefF K mg "_law_draw" st__law_draw)
    (D__law_purses : DefF K mg "_law_purses" st__law_purses)
    (D__law_one_of : DefF K mg "_law_one_of" st__law_one_of)
    (D__law_exact : DefF K mg "_law_exact" st__law_exact)
    (D__law_copied : DefF K mg "_law_copied" st__law_copied)
    (D__law_asked : DefF K mg "_law_asked" st__law_asked)
    (D__law_marked : DefF K mg "_law_marked" st__law_marked)
    (D__law_due : DefF K mg "_law_due" st__law_due)
    (D__law_marks_of : DefF K mg "_law_marks_of" st__law_marks_of)
    (D__law_shown_right : DefF K mg "_law_shown_right" st__law_shown_right)
    (D__law_refused : DefF K mg "_law_refused" st__law_refused)
    (D_law : DefF K mg "law" st_law)
    (z_isinstance : PySem.W.nsIn K mainGlobals "isinstance" = some none)
    (z_bool : PySem.W.nsIn K mainGlobals "bool" = some none)
    (z_int : PySem.W.nsIn K mainGlobals "int" = some none)
    (z_max : PySem.W.nsIn K mainGlobals "max" = some none)
    (z_all : PySem.W.nsIn K mainGlobals "all" = some none)
    (z_str : PySem.W.nsIn K mainGlobals "str" = some none)
    (z_len : PySem.W.nsIn K mainGlobals "len" = some none)
    (z_tuple : PySem.W.nsIn K mainGlobals "tuple" = some none)
    (z_list : PySem.W.nsIn K mainGlobals "list" = some none)
    (z_enumerate : PySem.W.nsIn K mainGlobals "enumerate" = some none)
    (z_range : PySem.W.nsIn K mainGlobals "range" = some none)
    (z_min : PySem.W.nsIn K mainGlobals "min" = some none)
    (z_ValueError : PySem.W.nsIn K mainGlobals "ValueError" = some none)
    (z_sum : PySem.W.nsIn K mainGlobals "sum" = some none)
    (z_dict : PySem.W.nsIn K mainGlobals "dict" = some none)
    (z_zip : PySem.W.nsIn K mainGlobals "zip" = some none)
    (z_sorted : PySem.W.nsIn K mainGlobals "sorted" = some none)
    (a_ReadingError : PySem.W.nsIn K mainGlobals "ReadingError" = some (some (.ref eReadingError)))
    (a_InvalidPage : PySem.W.nsIn K mainGlobals "InvalidPage" = some (some (.ref eInvalidPage)))
    (a_InvalidNumber : PySem.W.nsIn K mainGlobals "InvalidNumber" = some (some (.ref eInvalidNumber)))
    (a_InvalidCount : PySem.W.nsIn K mainGlobals "InvalidCount" = some (some (.ref eInvalidCount)))
    (a_InvalidText : PySem.W.nsIn K mainGlobals "InvalidText" = some (some (.ref eInvalidText)))
    (a_InvalidPlace : PySem.W.nsIn K mainGlobals "InvalidPlace" = some (some (.ref eInvalidPlace)))
    (a_InvalidCells : PySem.W.nsIn K mainGlobals "InvalidCells" = some (some (.ref eInvalidCells)))
    (a_InvalidBook : PySem.W.nsIn K mainGlobals "InvalidBook" = some (some (.ref eInvalidBook)))
    (a_InvalidWidth : PySem.W.nsIn K mainGlobals "InvalidWidth" = some (some (.ref eInvalidWidth)))
    (a_InvalidKey : PySem.W.nsIn K mainGlobals "InvalidKey" = some (some (.ref eInvalidKey)))
    (a_InvalidMarks : PySem.W.nsIn K mainGlobals "InvalidMarks" = some (some (.ref eInvalidMarks)))
    (a_InvalidStand : PySem.W.nsIn K mainGlobals "InvalidStand" = some (some (.ref eInvalidStand)))
    (a_InvalidLine : PySem.W.nsIn K mainGlobals "InvalidLine" = some (some (.ref eInvalidLine)))
    (a_NotWritten : PySem.W.nsIn K mainGlobals "NotWritten" = some (some (.ref eNotWritten)))
    (E_InvalidPage : ∀ P w base, ErrK P w K mg base "InvalidPage" eInvalidPage)
    (E_InvalidNumber : ∀ P w base, ErrK P w K mg base "InvalidNumber" eInvalidNumber)
    (E_InvalidCount : ∀ P w base, ErrK P w K mg base "InvalidCount" eInvalidCount)
    (E_InvalidText : ∀ P w base, ErrK P w K mg base "InvalidText" eInvalidText)
    (E_InvalidPlace : ∀ P w base, ErrK P w K mg base "InvalidPlace" eInvalidPlace)
    (E_InvalidCells : ∀ P w base, ErrK P w K mg base "InvalidCells" eInvalidCells)
    (E_InvalidBook : ∀ P w base, ErrK P w K mg base "InvalidBook" eInvalidBook)
    (E_InvalidWidth : ∀ P w base, ErrK P w K mg base "InvalidWidth" eInvalidWidth)
    (E_InvalidKey : ∀ P w base, ErrK P w K mg base "InvalidKey" eInvalidKey)
    (E_InvalidMarks : ∀ P w base, ErrK P w K mg base "InvalidMarks" eInvalidMarks)
    (E_InvalidStand : ∀ P w base, ErrK P w K mg base "InvalidStand" eInvalidStand)
    (E_InvalidLine : ∀ P w base, ErrK P w K mg base "InvalidLine" eInvalidLine)
    (E_NotWritten : ∀ P w base, ErrK P w K mg base "NotWritten" eNotWritten)
    (i_InvalidPage : PySem.W.isClsIn K eInvalidPage = true) (t_InvalidPage : PySem.W.typeIn K (.ref eInvalidPage) = some (.type "type"))
    (i_InvalidBook : PySem.W.isClsIn K eInvalidBook = true) (t_InvalidBook : PySem.W.typeIn K (.ref eInvalidBook) = some (.type "type"))
    (i_InvalidText : PySem.W.isClsIn K eInvalidText = true) (t_InvalidText : PySem.W.typeIn K (.ref eInvalidText) = some (.type "type"))
    (i_InvalidCells : PySem.W.isClsIn K eInvalidCells = true) (t_InvalidCells : PySem.W.typeIn K (.ref eInvalidCells) = some (.type "type"))
    (i_InvalidWidth : PySem.W.isClsIn K eInvalidWidth = true) (t_InvalidWidth : PySem.W.typeIn K (.ref eInvalidWidth) = some (.type "type"))
    (i_InvalidCount : PySem.W.isClsIn K eInvalidCount = true) (t_InvalidCount : PySem.W.typeIn K (.ref eInvalidCount) = some (.type "type"))
    (i_InvalidKey : PySem.W.isClsIn K eInvalidKey = true) (t_InvalidKey : PySem.W.typeIn K (.ref eInvalidKey) = some (.type "type"))
    (i_InvalidMarks : PySem.W.isClsIn K eInvalidMarks = true) (t_InvalidMarks : PySem.W.typeIn K (.ref eInvalidMarks) = some (.type "type"))
    (i_InvalidStand : PySem.W.isClsIn K eInvalidStand = true) (t_InvalidStand : PySem.W.typeIn K (.ref eInvalidStand) = some (.type "type"))
    (i_InvalidPlace : PySem.W.isClsIn K eInvalidPlace = true) (t_InvalidPlace : PySem.W.typeIn K (.ref eInvalidPlace) = some (.type "type"))
    (i_InvalidLine : PySem.W.isClsIn K eInvalidLine = true) (t_InvalidLine : PySem.W.typeIn K (.ref eInvalidLine) = some (.type "type"))
    (i_InvalidNumber : PySem.W.isClsIn K eInvalidNumber = true) (t_InvalidNumber : PySem.W.typeIn K (.ref eInvalidNumber) = some (.type "type"))
    (i_NotWritten : PySem.W.isClsIn K eNotWritten = true) (t_NotWritten : PySem.W.typeIn K (.ref eNotWritten) = some (.type "type"))
    (i_ReadingError : PySem.W.isClsIn K eReadingError = true) (t_ReadingError : PySem.W.typeIn K (.ref eReadingError) = some (.type "type"))
    (bR : PySem.W.subIn K (.ref eReadingError) (.type "BaseException") = some true)
    (s_InvalidBook_InvalidPage : PySem.W.subIn K (.ref eInvalidBook) (.ref eInvalidPage) = some false) (n_InvalidBook_InvalidPage : (Value.ref eInvalidBook == Value.ref eInvalidPage) = false)
    (s_InvalidBook_InvalidText : PySem.W.subIn K (.ref eInvalidBook) (.ref eInvalidText) = some false) (n_InvalidBook_InvalidText : (Value.ref eInvalidBook == Value.ref eInvalidText) = false)
    (s_InvalidBook_InvalidCells : PySem.W.subIn K (.ref eInvalidBook) (.ref eInvalidCells) = some false) (n_InvalidBook_InvalidCells : (Value.ref eInvalidBook == Value.ref eInvalidCells) = false)
    (s_InvalidBook_InvalidWidth : PySem.W.subIn K (.ref eInvalidBook) (.ref eInvalidWidth) = some false) (n_InvalidBook_InvalidWidth : (Value.ref eInvalidBook == Value.ref eInvalidWidth) = false)
    (s_InvalidBook_InvalidCount : PySem.W.subIn K (.ref eInvalidBook) (.ref eInvalidCount) = some false) (n_InvalidBook_InvalidCount : (Value.ref eInvalidBook == Value.ref eInvalidCount) = false)
    (s_InvalidBook_InvalidKey : PySem.W.subIn K (.ref eInvalidBook) (.ref eInvalidKey) = some false) (n_InvalidBook_InvalidKey : (Value.ref eInvalidBook == Value.ref eInvalidKey) = false)
    (s_InvalidBook_InvalidMarks : PySem.W.subIn K (.ref eInvalidBook) (.ref eInvalidMarks) = some false) (n_InvalidBook_InvalidMarks : (Value.ref eInvalidBook == Value.ref eInvalidMarks) = false)
    (s_InvalidBook_InvalidStand : PySem.W.subIn K (.ref eInvalidBook) (.ref eInvalidStand) = some false) (n_InvalidBook_InvalidStand : (Value.ref eInvalidBook == Value.ref eInvalidStand) = false)
    (s_InvalidBook_InvalidPlace : PySem.W.subIn K (.ref eInvalidBook) (.ref eInvalidPlace) = some false) (n_InvalidBook_InvalidPlace : (Value.ref eInvalidBook == Value.ref eInvalidPlace) = false)
    (s_InvalidBook_InvalidLine : PySem.W.subIn K (.ref eInvalidBook) (.ref eInvalidLine) = some false) (n_InvalidBook_InvalidLine : (Value.ref eInvalidBook == Value.ref eInvalidLine) = false)
    (s_InvalidBook_InvalidNumber : PySem.W.subIn K (.ref eInvalidBook) (.ref eInvalidNumber) = some false) (n_InvalidBook_InvalidNumber : (Value.ref eInvalidBook == Value.ref eInvalidNumber) = false)
    (s_InvalidBook_NotWritten : PySem.W.subIn K (.ref eInvalidBook) (.ref eNotWritten) = some false) (n_InvalidBook_NotWritten : (Value.ref eInvalidBook == Value.ref eNotWritten) = false)
    (v_InvalidBook : PySem.W.subIn K (.ref eInvalidBook) (.type "ValueError") = some true) (r_InvalidBook : PySem.W.subIn K (.ref eInvalidBook) (.ref eReadingError) = some true)
    (s_InvalidText_InvalidPage : PySem.W.subIn K (.ref eInvalidText) (.ref eInvalidPage) = some false) (n_InvalidText_InvalidPage : (Value.ref eInvalidText == Value.ref eInvalidPage) = false)
    (s_InvalidText_InvalidBook : PySem.W.subIn K (.ref eInvalidText) (.ref eInvalidBook) = some false) (n_InvalidText_InvalidBook : (Value.ref eInvalidText == Value.ref eInvalidBook) = false)
    (s_InvalidText_InvalidCells : PySem.W.subIn K (.ref eInvalidText) (.ref eInvalidCells) = some false) (n_InvalidText_InvalidCells : (Value.ref eInvalidText == Value.ref eInvalidCells) = false)
    (s_InvalidText_InvalidWidth : PySem.W.subIn K (.ref eInvalidText) (.ref eInvalidWidth) = some false) (n_InvalidText_InvalidWidth : (Value.ref eInvalidText == Value.ref eInvalidWidth) = false)
    (s_InvalidText_InvalidCount : PySem.W.subIn K (.ref eInvalidText) (.ref eInvalidCount) = some false) (n_InvalidText_InvalidCount : (Value.ref eInvalidText == Value.ref eInvalidCount) = false)
    (s_InvalidText_InvalidKey : PySem.W.subIn K (.ref eInvalidText) (.ref eInvalidKey) = some false) (n_InvalidText_InvalidKey : (Value.ref eInvalidText == Value.ref eInvalidKey) = false)
    (s_InvalidText_InvalidMarks : PySem.W.subIn K (.ref eInvalidText) (.ref eInvalidMarks) = some false) (n_InvalidText_InvalidMarks : (Value.ref eInvalidText == Value.ref eInvalidMarks) = false)
    (s_InvalidText_InvalidStand : PySem.W.subIn K (.ref eInvalidText) (.ref eInvalidStand) = some false) (n_InvalidText_InvalidStand : (Value.ref eInvalidText == Value.ref eInvalidStand) = false)
    (s_InvalidText_InvalidPlace : PySem.W.subIn K (.ref eInvalidText) (.ref eInvalidPlace) = some false) (n_InvalidText_InvalidPlace : (Value.ref eInvalidText == Value.ref eInvalidPlace) = false)
    (s_InvalidText_InvalidLine : PySem.W.subIn K (.ref eInvalidText) (.ref eInvalidLine) = some false) (n_InvalidText_InvalidLine : (Value.ref eInvalidText == Value.ref eInvalidLine) = false)
    (s_InvalidText_InvalidNumber : PySem.W.subIn K (.ref eInvalidText) (.ref eInvalidNumber) = some false) (n_InvalidText_InvalidNumber : (Value.ref eInvalidText == Value.ref eInvalidNumber) = false)
    (s_InvalidText_NotWritten : PySem.W.subIn K (.ref eInvalidText) (.ref eNotWritten) = some false) (n_InvalidText_NotWritten : (Value.ref eInvalidText == Value.ref eNotWritten) = false)
    (v_InvalidText : PySem.W.subIn K (.ref eInvalidText) (.type "ValueError") = some true) (r_InvalidText : PySem.W.subIn K (.ref eInvalidText) (.ref eReadingError) = some true)
    (s_InvalidCount_InvalidPage : PySem.W.subIn K (.ref eInvalidCount) (.ref eInvalidPage) = some false) (n_InvalidCount_InvalidPage : (Value.ref eInvalidCount == Value.ref eInvalidPage) = false)
    (s_InvalidCount_InvalidBook : PySem.W.subIn K (.ref eInvalidCount) (.ref eInvalidBook) = some false) (n_InvalidCount_InvalidBook : (Value.ref eInvalidCount == Value.ref eInvalidBook) = false)
    (s_InvalidCount_InvalidText : PySem.W.subIn K (.ref eInvalidCount) (.ref eInvalidText) = some false) (n_InvalidCount_InvalidText : (Value.ref eInvalidCount == Value.ref eInvalidText) = false)
    (s_InvalidCount_InvalidCells : PySem.W.subIn K (.ref eInvalidCount) (.ref eInvalidCells) = some false) (n_InvalidCount_InvalidCells : (Value.ref eInvalidCount == Value.ref eInvalidCells) = false)
    (s_InvalidCount_InvalidWidth : PySem.W.subIn K (.ref eInvalidCount) (.ref eInvalidWidth) = some false) (n_InvalidCount_InvalidWidth : (Value.ref eInvalidCount == Value.ref eInvalidWidth) = false)
    (s_InvalidCount_InvalidKey : PySem.W.subIn K (.ref eInvalidCount) (.ref eInvalidKey) = some false) (n_InvalidCount_InvalidKey : (Value.ref eInvalidCount == Value.ref eInvalidKey) = false)
    (s_InvalidCount_InvalidMarks : PySem.W.subIn K (.ref eInvalidCount) (.ref eInvalidMarks) = some false) (n_InvalidCount_InvalidMarks : (Value.ref eInvalidCount == Value.ref eInvalidMarks) = false)
    (s_InvalidCount_InvalidStand : PySem.W.subIn K (.ref eInvalidCount) (.ref eInvalidStand) = some false) (n_InvalidCount_InvalidStand : (Value.ref eInvalidCount == Value.ref eInvalidStand) = false)
    (s_InvalidCount_InvalidPlace : PySem.W.subIn K (.ref eInvalidCount) (.ref eInvalidPlace) = some false) (n_InvalidCount_InvalidPlace : (Value.ref eInvalidCount == Value.ref eInvalidPlace) = false)
    (s_InvalidCount_InvalidLine : PySem.W.subIn K (.ref eInvalidCount) (.ref eInvalidLine) = some false) (n_InvalidCount_InvalidLine : (Value.ref eInvalidCount == Value.ref eInvalidLine) = false)
    (s_InvalidCount_InvalidNumber : PySem.W.subIn K (.ref eInvalidCount) (.ref eInvalidNumber) = some false) (n_InvalidCount_InvalidNumber : (Value.ref eInvalidCount == Value.ref eInvalidNumber) = false)
    (s_InvalidCount_NotWritten : PySem.W.subIn K (.ref eInvalidCount) (.ref eNotWritten) = some false) (n_InvalidCount_NotWritten : (Value.ref eInvalidCount == Value.ref eNotWritten) = false)
    (v_InvalidCount : PySem.W.subIn K (.ref eInvalidCount) (.type "ValueError") = some true) (r_InvalidCount : PySem.W.subIn K (.ref eInvalidCount) (.ref eReadingError) = some true)
    (s_InvalidWidth_InvalidPage : PySem.W.subIn K (.ref eInvalidWidth) (.ref eInvalidPage) = some false) (n_InvalidWidth_InvalidPage : (Value.ref eInvalidWidth == Value.ref eInvalidPage) = false)
    (s_InvalidWidth_InvalidBook : PySem.W.subIn K (.ref eInvalidWidth) (.ref eInvalidBook) = some false) (n_InvalidWidth_InvalidBook : (Value.ref eInvalidWidth == Value.ref eInvalidBook) = false)
    (s_InvalidWidth_InvalidText : PySem.W.subIn K (.ref eInvalidWidth) (.ref eInvalidText) = some false) (n_InvalidWidth_InvalidText : (Value.ref eInvalidWidth == Value.ref eInvalidText) = false)
    (s_InvalidWidth_InvalidCells : PySem.W.subIn K (.ref eInvalidWidth) (.ref eInvalidCells) = some false) (n_InvalidWidth_InvalidCells : (Value.ref eInvalidWidth == Value.ref eInvalidCells) = false)
    (s_InvalidWidth_InvalidCount : PySem.W.subIn K (.ref eInvalidWidth) (.ref eInvalidCount) = some false) (n_InvalidWidth_InvalidCount : (Value.ref eInvalidWidth == Value.ref eInvalidCount) = false)
    (s_InvalidWidth_InvalidKey : PySem.W.subIn K (.ref eInvalidWidth) (.ref eInvalidKey) = some false) (n_InvalidWidth_InvalidKey : (Value.ref eInvalidWidth == Value.ref eInvalidKey) = false)
    (s_InvalidWidth_InvalidMarks : PySem.W.subIn K (.ref eInvalidWidth) (.ref eInvalidMarks) = some false) (n_InvalidWidth_InvalidMarks : (Value.ref eInvalidWidth == Value.ref eInvalidMarks) = false)
    (s_InvalidWidth_InvalidStand : PySem.W.subIn K (.ref eInvalidWidth) (.ref eInvalidStand) = some false) (n_InvalidWidth_InvalidStand : (Value.ref eInvalidWidth == Value.ref eInvalidStand) = false)
    (s_InvalidWidth_InvalidPlace : PySem.W.subIn K (.ref eInvalidWidth) (.ref eInvalidPlace) = some false) (n_InvalidWidth_InvalidPlace : (Value.ref eInvalidWidth == Value.ref eInvalidPlace) = false)
    (s_InvalidWidth_InvalidLine : PySem.W.subIn K (.ref eInvalidWidth) (.ref eInvalidLine) = some false) (n_InvalidWidth_InvalidLine : (Value.ref eInvalidWidth == Value.ref eInvalidLine) = false)
    (s_InvalidWidth_InvalidNumber : PySem.W.subIn K (.ref eInvalidWidth) (.ref eInvalidNumber) = some false) (n_InvalidWidth_InvalidNumber : (Value.ref eInvalidWidth == Value.ref eInvalidNumber) = false)
    (s_InvalidWidth_NotWritten : PySem.W.subIn K (.ref eInvalidWidth) (.ref eNotWritten) = some false) (n_InvalidWidth_NotWritten : (Value.ref eInvalidWidth == Value.ref eNotWritten) = false)
    (v_InvalidWidth : PySem.W.subIn K (.ref eInvalidWidth) (.type "ValueError") = some true) (r_InvalidWidth : PySem.W.subIn K (.ref eInvalidWidth) (.ref eReadingError) = some true)
    (s_InvalidMarks_InvalidPage : PySem.W.subIn K (.ref eInvalidMarks) (.ref eInvalidPage) = some false) (n_InvalidMarks_InvalidPage : (Value.ref eInvalidMarks == Value.ref eInvalidPage) = false)
    (s_InvalidMarks_InvalidBook : PySem.W.subIn K (.ref eInvalidMarks) (.ref eInvalidBook) = some false) (n_InvalidMarks_InvalidBook : (Value.ref eInvalidMarks == Value.ref eInvalidBook) = false)
    (s_InvalidMarks_InvalidText : PySem.W.subIn K (.ref eInvalidMarks) (.ref eInvalidText) = some false) (n_InvalidMarks_InvalidText : (Value.ref eInvalidMarks == Value.ref eInvalidText) = false)
    (s_InvalidMarks_InvalidCells : PySem.W.subIn K (.ref eInvalidMarks) (.ref eInvalidCells) = some false) (n_InvalidMarks_InvalidCells : (Value.ref eInvalidMarks == Value.ref eInvalidCells) = false)
    (s_InvalidMarks_InvalidWidth : PySem.W.subIn K (.ref eInvalidMarks) (.ref eInvalidWidth) = some false) (n_InvalidMarks_InvalidWidth : (Value.ref eInvalidMarks == Value.ref eInvalidWidth) = false)
    (s_InvalidMarks_InvalidCount : PySem.W.subIn K (.ref eInvalidMarks) (.ref eInvalidCount) = some false) (n_InvalidMarks_InvalidCount : (Value.ref eInvalidMarks == Value.ref eInvalidCount) = false)
    (s_InvalidMarks_InvalidKey : PySem.W.subIn K (.ref eInvalidMarks) (.ref eInvalidKey) = some false) (n_InvalidMarks_InvalidKey : (Value.ref eInvalidMarks == Value.ref eInvalidKey) = false)
    (s_InvalidMarks_InvalidStand : PySem.W.subIn K (.ref eInvalidMarks) (.ref eInvalidStand) = some false) (n_InvalidMarks_InvalidStand : (Value.ref eInvalidMarks == Value.ref eInvalidStand) = false)
    (s_InvalidMarks_InvalidPlace : PySem.W.subIn K (.ref eInvalidMarks) (.ref eInvalidPlace) = some false) (n_InvalidMarks_InvalidPlace : (Value.ref eInvalidMarks == Value.ref eInvalidPlace) = false)
    (s_InvalidMarks_InvalidLine : PySem.W.subIn K (.ref eInvalidMarks) (.ref eInvalidLine) = some false) (n_InvalidMarks_InvalidLine : (Value.ref eInvalidMarks == Value.ref eInvalidLine) = false)
    (s_InvalidMarks_InvalidNumber : PySem.W.subIn K (.ref eInvalidMarks) (.ref eInvalidNumber) = some false) (n_InvalidMarks_InvalidNumber : (Value.ref eInvalidMarks == Value.ref eInvalidNumber) = false)
    (s_InvalidMarks_NotWritten : PySem.W.subIn K (.ref eInvalidMarks) (.ref eNotWritten) = some false) (n_InvalidMarks_NotWritten : (Value.ref eInvalidMarks == Value.ref eNotWritten) = false)
    (v_InvalidMarks : PySem.W.subIn K (.ref eInvalidMarks) (.type "ValueError") = some true) (r_InvalidMarks : PySem.W.subIn K (.ref eInvalidMarks) (.ref eReadingError) = some true)
    (a_NOTHING : PySem.W.nsIn K mainGlobals "NOTHING" = some (some (.str (Str.ofString "edge") tkNOTHING)))
    (a_CONDITIONS : PySem.W.nsIn K mainGlobals "CONDITIONS" = some (some (.ref cCONDITIONS))) (l_CONDITIONS : K.lookup cCONDITIONS = some oCONDITIONS) (y_CONDITIONS : oCONDITIONS.cls = .type "tuple") (j_CONDITIONS : oCONDITIONS.data = .seq itsCONDITIONS nCONDITIONS) (w_CONDITIONS : itsCONDITIONS.size ≤ sizeLine) (q_CONDITIONS : Vals [.str (Str.ofString "any"), .str (Str.ofString "blank"), .str (Str.ofString "letter"), .str (Str.ofString "figure"), .str (Str.ofString "point"), .str (Str.ofString "inner"), .str (Str.ofString "outer"), .str (Str.ofString "edge")] itsCONDITIONS.toList)
    (a_STRANGE : PySem.W.nsIn K mainGlobals "STRANGE" = some (some (.int (63) tkSTRANGE))) :
    ∃ fd : FuncData, (∀ (s : Shared) (u : Value), BindsTo s fd ⟨[u], []⟩ [("script", u)]) ∧ ∀ base : Heap, K.In base → base.Ns mainGlobals mg → FnOk P w K mg base (L2.CX P w) 12 fa fd ["script"] (spLaw K) := by
  obtain ⟨f_is_whole, fd_is_whole, F_is_whole, m_is_whole, k_is_whole⟩ := D_is_whole
  have b_is_whole := F_is_whole.binds (ps := ["value"]) fun _ _ _ _ _ _ us hl => match us, hl with | [_], _ => rfl
  obtain ⟨f_is_count, fd_is_count, F_is_count, m_is_count, k_is_count⟩ := D_is_count
  obtain ⟨f_is_text, fd_is_text, F_is_text, m_is_text, k_is_text⟩ := D_is_text
  have b_is_text := F_is_text.binds (ps := ["value"]) fun _ _ _ _ _ _ us hl => match us, hl with | [_], _ => rfl
  obtain ⟨f_is_tuple_of, fd_is_tuple_of, F_is_tuple_of, m_is_tuple_of, k_is_tuple_of⟩ := D_is_tuple_of
  have b_is_tuple_of := F_is_tuple_of.binds (ps := ["value", "size"]) fun _ _ _ _ _ _ us hl => match us, hl with | [_, _], _ => rfl
  obtain ⟨f_is_one_of, fd_is_one_of, F_is_one_of, m_is_one_of, k_is_one_of⟩ := D_is_one_of
  have b_is_one_of := F_is_one_of.binds (ps := ["value", "words"]) fun _ _ _ _ _ _ us hl => match us, hl with | [_, _], _ => rfl
  obtain ⟨f_check_count, fd_check_count, F_check_count, m_check_count, k_check_count⟩ := D_check_count
  obtain ⟨f_check_text, fd_check_text, F_check_text, m_check_text, k_check_text⟩ := D_check_text
  have b_check_text := F_check_text.binds (ps := ["value"]) fun _ _ _ _ _ _ us hl => match us, hl with | [_], _ => rfl
  obtain ⟨f_is_cell, fd_is_cell, F_is_cell, m_is_cell, k_is_cell⟩ := D_is_cell
  have b_is_cell := F_is_cell.binds (ps := ["value"]) fun _ _ _ _ _ _ us hl => match us, hl with | [_], _ => rfl
  obtain ⟨f_class_of_sign, fd_class_of_sign, F_class_of_sign, m_class_of_sign, k_class_of_sign⟩ := D_class_of_sign
  have b_class_of_sign := F_class_of_sign.binds (ps := ["sign"]) fun _ _ _ _ _ _ us hl => match us, hl with | [_], _ => rfl
  obtain ⟨f_holds_of, fd_holds_of, F_holds_of, m_holds_of, k_holds_of⟩ := D_holds_of
  have b_holds_of := F_holds_of.binds (ps := ["condition", "kind"]) fun _ _ _ _ _ _ us hl => match us, hl with | [_, _], _ => rfl
  obtain ⟨f_holds, fd_holds, F_holds, m_holds, k_holds⟩ := D_holds
  have b_holds := F_holds.binds (ps := ["condition", "sign"]) fun _ _ _ _ _ _ us hl => match us, hl with | [_, _], _ => rfl
  obtain ⟨f_is_rule, fd_is_rule, F_is_rule, m_is_rule, k_is_rule⟩ := D_is_rule
  have b_is_rule := F_is_rule.binds (ps := ["value"]) fun _ _ _ _ _ _ us hl => match us, hl with | [_], _ => rfl
  obtain ⟨f_is_book, fd_is_book, F_is_book, m_is_book, k_is_book⟩ := D_is_book
  have b_is_book := F_is_book.binds (ps := ["value"]) fun _ _ _ _ _ _ us hl => match us, hl with | [_], _ => rfl
  obtain ⟨f_check_book, fd_check_book, F_check_book, m_check_book, k_check_book⟩ := D_check_book
  have b_check_book := F_check_book.binds (ps := ["value"]) fun _ _ _ _ _ _ us hl => match us, hl with | [_], _ => rfl
  obtain ⟨f_fits_at, fd_fits_at, F_fits_at, m_fits_at, k_fits_at⟩ := D_fits_at
  have b_fits_at := F_fits_at.binds (ps := ["rule", "near", "signs"]) fun _ _ _ _ _ _ us hl => match us, hl with | [_, _, _], _ => rfl
  obtain ⟨f_best_of, fd_best_of, F_best_of, m_best_of, k_best_of⟩ := D_best_of
  have b_best_of := F_best_of.binds (ps := ["book", "near", "signs"]) fun _ _ _ _ _ _ us hl => match us, hl with | [_, _, _], _ => rfl
  obtain ⟨f_near_at, fd_near_at, F_near_at, m_near_at, k_near_at⟩ := D_near_at
  have b_near_at := F_near_at.binds (ps := ["text", "at"]) fun _ _ _ _ _ _ us hl => match us, hl with | [_, _], _ => rfl
  obtain ⟨f_taken_at, fd_taken_at, F_taken_at, m_taken_at, k_taken_at⟩ := D_taken_at
  have b_taken_at := F_taken_at.binds (ps := ["book", "text", "at"]) fun _ _ _ _ _ _ us hl => match us, hl with | [_, _, _], _ => rfl
  obtain ⟨f_laid_out, fd_laid_out, F_laid_out, m_laid_out, k_laid_out⟩ := D_laid_out
  have b_laid_out := F_laid_out.binds (ps := ["book", "text"]) fun _ _ _ _ _ _ us hl => match us, hl with | [_, _], _ => rfl
  obtain ⟨f_laid_cells, fd_laid_cells, F_laid_cells, m_laid_cells, k_laid_cells⟩ := D_laid_cells
  have b_laid_cells := F_laid_cells.binds (ps := ["book", "text"]) fun _ _ _ _ _ _ us hl => match us, hl with | [_, _], _ => rfl
  obtain ⟨f_check_width, fd_check_width, F_check_width, m_check_width, k_check_width⟩ := D_check_width
  have b_check_width := F_check_width.binds (ps := ["value"]) fun _ _ _ _ _ _ us hl => match us, hl with | [_], _ => rfl
  obtain ⟨f_parting_kinds, fd_parting_kinds, F_parting_kinds, m_parting_kinds, k_parting_kinds⟩ := D_parting_kinds
  have b_parting_kinds := F_parting_kinds.binds (ps := ["cells", "width"]) fun _ _ _ _ _ _ us hl => match us, hl with | [_, _], _ => rfl
  obtain ⟨f_windows_made, fd_windows_made, F_windows_made, m_windows_made, k_windows_made⟩ := D_windows_made
  have b_windows_made := F_windows_made.binds (ps := ["cells", "width"]) fun _ _ _ _ _ _ us hl => match us, hl with | [_, _], _ => rfl
  obtain ⟨f_cell_led, fd_cell_led, F_cell_led, m_cell_led, k_cell_led⟩ := D_cell_led
  have b_cell_led := F_cell_led.binds (ps := ["spans", "sign"]) fun _ _ _ _ _ _ us hl => match us, hl with | [_, _], _ => rfl
  obtain ⟨f_is_mark_of, fd_is_mark_of, F_is_mark_of, m_is_mark_of, k_is_mark_of⟩ := D_is_mark_of
  have b_is_mark_of := F_is_mark_of.binds (ps := ["value", "size"]) fun _ _ _ _ _ _ us hl => match us, hl with | [_, _], _ => rfl
  obtain ⟨f_marked_by, fd_marked_by, F_marked_by, m_marked_by, k_marked_by⟩ := D_marked_by
  have b_marked_by := F_marked_by.binds (ps := ["laid", "size", "mark"]) fun _ _ _ _ _ _ us hl => match us, hl with | [_, _, _], _ => rfl
  obtain ⟨f_cells_shown, fd_cells_shown, F_cells_shown, m_cells_shown, k_cells_shown⟩ := D_cells_shown
  have b_cells_shown := F_cells_shown.binds (ps := ["book", "text", "width", "window", "marks"]) fun _ _ _ _ _ _ us hl => match us, hl with | [_, _, _, _, _], _ => rfl
  obtain ⟨f__law_class, fd__law_class, F__law_class, m__law_class, k__law_class⟩ := D__law_class
  have b__law_class := F__law_class.binds (ps := ["sign"]) fun _ _ _ _ _ _ us hl => match us, hl with | [_], _ => rfl
  obtain ⟨f__law_true, fd__law_true, F__law_true, m__law_true, k__law_true⟩ := D__law_true
  have b__law_true := F__law_true.binds (ps := ["condition", "sign"]) fun _ _ _ _ _ _ us hl => match us, hl with | [_, _], _ => rfl
  obtain ⟨f__law_fits, fd__law_fits, F__law_fits, m__law_fits, k__law_fits⟩ := D__law_fits
  have b__law_fits := F__law_fits.binds (ps := ["rule", "text", "at"]) fun _ _ _ _ _ _ us hl => match us, hl with | [_, _, _], _ => rfl
  obtain ⟨f__law_taken, fd__law_taken, F__law_taken, m__law_taken, k__law_taken⟩ := D__law_taken
  have b__law_taken := F__law_taken.binds (ps := ["book", "text", "at"]) fun _ _ _ _ _ _ us hl => match us, hl with | [_, _, _], _ => rfl
  obtain ⟨f__law_laid_out, fd__law_laid_out, F__law_laid_out, m__law_laid_out, k__law_laid_out⟩ := D__law_laid_out
  have b__law_laid_out := F__law_laid_out.binds (ps := ["book", "text"]) fun _ _ _ _ _ _ us hl => match us, hl with | [_, _], _ => rfl
  obtain ⟨f__law_alphabet, fd__law_alphabet, F__law_alphabet, m__law_alphabet, k__law_alphabet⟩ := D__law_alphabet
  have b__law_alphabet := F__law_alphabet.binds (ps := ["purse"]) fun _ _ _ _ _ _ us hl => match us, hl with | [_], _ => rfl
  obtain ⟨f__law_cells_of, fd__law_cells_of, F__law_cells_of, m__law_cells_of, k__law_cells_of⟩ := D__law_cells_of
  have b__law_cells_of := F__law_cells_of.binds (ps := ["purse", "most"]) fun _ _ _ _ _ _ us hl => match us, hl with | [_, _], _ => rfl
  obtain ⟨f__law_condition, fd__law_condition, F__law_condition, m__law_condition, k__law_condition⟩ := D__law_condition
  have b__law_condition := F__law_condition.binds (ps := ["purse"]) fun _ _ _ _ _ _ us hl => match us, hl with | [_], _ => rfl
  obtain ⟨f__law_book, fd__law_book, F__law_book, m__law_book, k__law_book⟩ := D__law_book
  have b__law_book := F__law_book.binds (ps := ["purse", "signs", "most"]) fun _ _ _ _ _ _ us hl => match us, hl with | [_, _, _], _ => rfl
  obtain ⟨f__law_written_text, fd__law_written_text, F__law_written_text, m__law_written_text, k__law_written_text⟩ := D__law_written_text
  have b__law_written_text := F__law_written_text.binds (ps := ["purse", "signs", "most"]) fun _ _ _ _ _ _ us hl => match us, hl with | [_, _, _], _ => rfl
  obtain ⟨f__law_door, fd__law_door, F__law_door, m__law_door, k__law_door⟩ := D__law_door
  have b__law_door := F__law_door.binds (ps := ["caught"]) fun _ _ _ _ _ _ us hl => match us, hl with | [_], _ => rfl
  obtain ⟨f__law_heard, fd__law_heard, F__law_heard, m__law_heard, k__law_heard⟩ := D__law_heard
  have b__law_heard := F__law_heard.binds (ps := ["way", "args"]) fun _ _ _ _ _ _ us hl => match us, hl with | [_, _], _ => rfl
  obtain ⟨f__law_no_books, fd__law_no_books, F__law_no_books, m__law_no_books, k__law_no_books⟩ := D__law_no_books
  have b__law_no_books := F__law_no_books.binds (ps := ["purse", "book"]) fun _ _ _ _ _ _ us hl => match us, hl with | [_, _], _ => rfl
  obtain ⟨f__law_no_counts, fd__law_no_counts, F__law_no_counts, m__law_no_counts, k__law_no_counts⟩ := D__law_no_counts
  have b__law_no_counts := F__law_no_counts.binds (ps := ["many"]) fun _ _ _ _ _ _ us hl => match us, hl with | [_], _ => rfl
  obtain ⟨f__law_greedy, fd__law_greedy, F__law_greedy, m__law_greedy, k__law_greedy⟩ := D__law_greedy
  have b__law_greedy := F__law_greedy.binds (ps := ["cells", "width"]) fun _ _ _ _ _ _ us hl => match us, hl with | [_, _], _ => rfl
  obtain ⟨f__law_led_cell, fd__law_led_cell, F__law_led_cell, m__law_led_cell, k__law_led_cell⟩ := D__law_led_cell
  have b__law_led_cell := F__law_led_cell.binds (ps := ["spans", "sign"]) fun _ _ _ _ _ _ us hl => match us, hl with | [_, _], _ => rfl
  obtain ⟨f__law_purse, fd__law_purse, F__law_purse, m__law_purse, k__law_purse⟩ := D__law_purse
  have b__law_purse := F__law_purse.binds (ps := ["script", "at"]) fun _ _ _ _ _ _ us hl => match us, hl with | [_, _], _ => rfl
  obtain ⟨f__law_mixed, fd__law_mixed, F__law_mixed, m__law_mixed, k__law_mixed⟩ := D__law_mixed
  have b__law_mixed := F__law_mixed.binds (ps := ["seed", "spin", "at"]) fun _ _ _ _ _ _ us hl => match us, hl with | [_, _, _], _ => rfl
  obtain ⟨f__law_draw, fd__law_draw, F__law_draw, m__law_draw, k__law_draw⟩ := D__law_draw
  have b__law_draw := F__law_draw.binds (ps := ["purse", "many"]) fun _ _ _ _ _ _ us hl => match us, hl with | [_, _], _ => rfl
  obtain ⟨f__law_purses, fd__law_purses, F__law_purses, m__law_purses, k__law_purses⟩ := D__law_purses
  have b__law_purses := F__law_purses.binds (ps := ["script", "few"]) fun _ _ _ _ _ _ us hl => match us, hl with | [_, _], _ => rfl
  obtain ⟨f__law_one_of, fd__law_one_of, F__law_one_of, m__law_one_of, k__law_one_of⟩ := D__law_one_of
  have b__law_one_of := F__law_one_of.binds (ps := ["purse", "some"]) fun _ _ _ _ _ _ us hl => match us, hl with | [_, _], _ => rfl
  obtain ⟨f__law_exact, fd__law_exact, F__law_exact, m__law_exact, k__law_exact⟩ := D__law_exact
  have b__law_exact := F__law_exact.binds (ps := ["mine", "theirs"]) fun _ _ _ _ _ _ us hl => match us, hl with | [_, _], _ => rfl
  obtain ⟨f__law_copied, fd__law_copied, F__law_copied, m__law_copied, k__law_copied⟩ := D__law_copied
  have b__law_copied := F__law_copied.binds (ps := ["thing"]) fun _ _ _ _ _ _ us hl => match us, hl with | [_], _ => rfl
  obtain ⟨f__law_asked, fd__law_asked, F__law_asked, m__law_asked, k__law_asked⟩ := D__law_asked
  have b__law_asked := F__law_asked.binds (ps := ["way", "args"]) fun _ _ _ _ _ _ us hl => match us, hl with | [_, _], _ => rfl
  obtain ⟨f__law_marked, fd__law_marked, F__law_marked, m__law_marked, k__law_marked⟩ := D__law_marked
  have b__law_marked := F__law_marked.binds (ps := ["spans", "size", "many", "mark"]) fun _ _ _ _ _ _ us hl => match us, hl with | [_, _, _, _], _ => rfl
  obtain ⟨f__law_due, fd__law_due, F__law_due, m__law_due, k__law_due⟩ := D__law_due
  have b__law_due := F__law_due.binds (ps := ["laid", "size", "width", "window", "marks"]) fun _ _ _ _ _ _ us hl => match us, hl with | [_, _, _, _, _], _ => rfl
  obtain ⟨f__law_marks_of, fd__law_marks_of, F__law_marks_of, m__law_marks_of, k__law_marks_of⟩ := D__law_marks_of
  have b__law_marks_of := F__law_marks_of.binds (ps := ["purse", "size"]) fun _ _ _ _ _ _ us hl => match us, hl with | [_, _], _ => rfl
  obtain ⟨f__law_shown_right, fd__law_shown_right, F__law_shown_right, m__law_shown_right, k__law_shown_right⟩ := D__law_shown_right
  have b__law_shown_right := F__law_shown_right.binds (ps := ["purse", "book", "text", "width"]) fun _ _ _ _ _ _ us hl => match us, hl with | [_, _, _, _], _ => rfl
  obtain ⟨f__law_refused, fd__law_refused, F__law_refused, m__law_refused, k__law_refused⟩ := D__law_refused
  have b__law_refused := F__law_refused.binds (ps := ["purse", "book", "text", "width"]) fun _ _ _ _ _ _ us hl => match us, hl with | [_, _, _, _], _ => rfl
  obtain ⟨f_law, fd_law, F_law, m_law, k_law⟩ := D_law
  have b_law := F_law.binds (ps := ["script"]) fun _ _ _ _ _ _ us hl => match us, hl with | [_], _ => rfl
  have TT : ∀ base, Tx P w K mg base ⟨eReadingError, eInvalidPage, eInvalidNumber, eInvalidCount, eInvalidText, eInvalidPlace, eInvalidCells, eInvalidBook, eInvalidWidth, eInvalidKey, eInvalidMarks, eInvalidStand, eInvalidLine, eNotWritten, cCONDITIONS⟩ := fun base => { b_isinstance := PySem.W.mg_none_of X G z_isinstance, b_bool := PySem.W.mg_none_of X G z_bool, b_int := PySem.W.mg_none_of X G z_int, b_max := PySem.W.mg_none_of X G z_max, b_all := PySem.W.mg_none_of X G z_all, b_str := PySem.W.mg_none_of X G z_str, b_len := PySem.W.mg_none_of X G z_len, b_tuple := PySem.W.mg_none_of X G z_tuple, b_list := PySem.W.mg_none_of X G z_list, b_enumerate := PySem.W.mg_none_of X G z_enumerate, b_range := PySem.W.mg_none_of X G z_range, b_min := PySem.W.mg_none_of X G z_min, b_ValueError := PySem.W.mg_none_of X G z_ValueError, b_sum := PySem.W.mg_none_of X G z_sum, b_dict := PySem.W.mg_none_of X G z_dict, b_zip := PySem.W.mg_none_of X G z_zip, b_sorted := PySem.W.mg_none_of X G z_sorted, g_ReadingError := PySem.W.mg_of X G a_ReadingError, g_InvalidPage := PySem.W.mg_of X G a_InvalidPage, g_InvalidNumber := PySem.W.mg_of X G a_InvalidNumber, g_InvalidCount := PySem.W.mg_of X G a_InvalidCount, g_InvalidText := PySem.W.mg_of X G a_InvalidText, g_InvalidPlace := PySem.W.mg_of X G a_InvalidPlace, g_InvalidCells := PySem.W.mg_of X G a_InvalidCells, g_InvalidBook := PySem.W.mg_of X G a_InvalidBook, g_InvalidWidth := PySem.W.mg_of X G a_InvalidWidth, g_InvalidKey := PySem.W.mg_of X G a_InvalidKey, g_InvalidMarks := PySem.W.mg_of X G a_InvalidMarks, g_InvalidStand := PySem.W.mg_of X G a_InvalidStand, g_InvalidLine := PySem.W.mg_of X G a_InvalidLine, g_NotWritten := PySem.W.mg_of X G a_NotWritten, e_InvalidPage := E_InvalidPage _ _ base, e_InvalidNumber := E_InvalidNumber _ _ base, e_InvalidCount := E_InvalidCount _ _ base, e_InvalidText := E_InvalidText _ _ base, e_InvalidPlace := E_InvalidPlace _ _ base, e_InvalidCells := E_InvalidCells _ _ base, e_InvalidBook := E_InvalidBook _ _ base, e_InvalidWidth := E_InvalidWidth _ _ base, e_InvalidKey := E_InvalidKey _ _ base, e_InvalidMarks := E_InvalidMarks _ _ base, e_InvalidStand := E_InvalidStand _ _ base, e_InvalidLine := E_InvalidLine _ _ base, e_NotWritten := E_NotWritten _ _ base, k_InvalidBook_InvalidPage := kit_ne n_InvalidBook_InvalidPage i_InvalidPage t_InvalidPage s_InvalidBook_InvalidPage, k_InvalidBook_InvalidBook := kit_self, k_InvalidBook_InvalidText := kit_ne n_InvalidBook_InvalidText i_InvalidText t_InvalidText s_InvalidBook_InvalidText, k_InvalidBook_InvalidCells := kit_ne n_InvalidBook_InvalidCells i_InvalidCells t_InvalidCells s_InvalidBook_InvalidCells, k_InvalidBook_InvalidWidth := kit_ne n_InvalidBook_InvalidWidth i_InvalidWidth t_InvalidWidth s_InvalidBook_InvalidWidth, k_InvalidBook_InvalidCount := kit_ne n_InvalidBook_InvalidCount i_InvalidCount t_InvalidCount s_InvalidBook_InvalidCount, k_InvalidBook_InvalidKey := kit_ne n_InvalidBook_InvalidKey i_InvalidKey t_InvalidKey s_InvalidBook_InvalidKey, k_InvalidBook_InvalidMarks := kit_ne n_InvalidBook_InvalidMarks i_InvalidMarks t_InvalidMarks s_InvalidBook_InvalidMarks, k_InvalidBook_InvalidStand := kit_ne n_InvalidBook_InvalidStand i_InvalidStand t_InvalidStand s_InvalidBook_InvalidStand, k_InvalidBook_InvalidPlace := kit_ne n_InvalidBook_InvalidPlace i_InvalidPlace t_InvalidPlace s_InvalidBook_InvalidPlace, k_InvalidBook_InvalidLine := kit_ne n_InvalidBook_InvalidLine i_InvalidLine t_InvalidLine s_InvalidBook_InvalidLine, k_InvalidBook_InvalidNumber := kit_ne n_InvalidBook_InvalidNumber i_InvalidNumber t_InvalidNumber s_InvalidBook_InvalidNumber, k_InvalidBook_NotWritten := kit_ne n_InvalidBook_NotWritten i_NotWritten t_NotWritten s_InvalidBook_NotWritten, v_InvalidBook := kit_val v_InvalidBook, x_InvalidBook := exm_of bR i_ReadingError t_ReadingError r_InvalidBook, k_InvalidText_InvalidPage := kit_ne n_InvalidText_InvalidPage i_InvalidPage t_InvalidPage s_InvalidText_InvalidPage, k_InvalidText_InvalidBook := kit_ne n_InvalidText_InvalidBook i_InvalidBook t_InvalidBook s_InvalidText_InvalidBook, k_InvalidText_InvalidText := kit_self, k_InvalidText_InvalidCells := kit_ne n_InvalidText_InvalidCells i_InvalidCells t_InvalidCells s_InvalidText_InvalidCells, k_InvalidText_InvalidWidth := kit_ne n_InvalidText_InvalidWidth i_InvalidWidth t_InvalidWidth s_InvalidText_InvalidWidth, k_InvalidText_InvalidCount := kit_ne n_InvalidText_InvalidCount i_InvalidCount t_InvalidCount s_InvalidText_InvalidCount, k_InvalidText_InvalidKey := kit_ne n_InvalidText_InvalidKey i_InvalidKey t_InvalidKey s_InvalidText_InvalidKey, k_InvalidText_InvalidMarks := kit_ne n_InvalidText_InvalidMarks i_InvalidMarks t_InvalidMarks s_InvalidText_InvalidMarks, k_InvalidText_InvalidStand := kit_ne n_InvalidText_InvalidStand i_InvalidStand t_InvalidStand s_InvalidText_InvalidStand, k_InvalidText_InvalidPlace := kit_ne n_InvalidText_InvalidPlace i_InvalidPlace t_InvalidPlace s_InvalidText_InvalidPlace, k_InvalidText_InvalidLine := kit_ne n_InvalidText_InvalidLine i_InvalidLine t_InvalidLine s_InvalidText_InvalidLine, k_InvalidText_InvalidNumber := kit_ne n_InvalidText_InvalidNumber i_InvalidNumber t_InvalidNumber s_InvalidText_InvalidNumber, k_InvalidText_NotWritten := kit_ne n_InvalidText_NotWritten i_NotWritten t_NotWritten s_InvalidText_NotWritten, v_InvalidText := kit_val v_InvalidText, x_InvalidText := exm_of bR i_ReadingError t_ReadingError r_InvalidText, k_InvalidCount_InvalidPage := kit_ne n_InvalidCount_InvalidPage i_InvalidPage t_InvalidPage s_InvalidCount_InvalidPage, k_InvalidCount_InvalidBook := kit_ne n_InvalidCount_InvalidBook i_InvalidBook t_InvalidBook s_InvalidCount_InvalidBook, k_InvalidCount_InvalidText := kit_ne n_InvalidCount_InvalidText i_InvalidText t_InvalidText s_InvalidCount_InvalidText, k_InvalidCount_InvalidCells := kit_ne n_InvalidCount_InvalidCells i_InvalidCells t_InvalidCells s_InvalidCount_InvalidCells, k_InvalidCount_InvalidWidth := kit_ne n_InvalidCount_InvalidWidth i_InvalidWidth t_InvalidWidth s_InvalidCount_InvalidWidth, k_InvalidCount_InvalidCount := kit_self, k_InvalidCount_InvalidKey := kit_ne n_InvalidCount_InvalidKey i_InvalidKey t_InvalidKey s_InvalidCount_InvalidKey, k_InvalidCount_InvalidMarks := kit_ne n_InvalidCount_InvalidMarks i_InvalidMarks t_InvalidMarks s_InvalidCount_InvalidMarks, k_InvalidCount_InvalidStand := kit_ne n_InvalidCount_InvalidStand i_InvalidStand t_InvalidStand s_InvalidCount_InvalidStand, k_InvalidCount_InvalidPlace := kit_ne n_InvalidCount_InvalidPlace i_InvalidPlace t_InvalidPlace s_InvalidCount_InvalidPlace, k_InvalidCount_InvalidLine := kit_ne n_InvalidCount_InvalidLine i_InvalidLine t_InvalidLine s_InvalidCount_InvalidLine, k_InvalidCount_InvalidNumber := kit_ne n_InvalidCount_InvalidNumber i_InvalidNumber t_InvalidNumber s_InvalidCount_InvalidNumber, k_InvalidCount_NotWritten := kit_ne n_InvalidCount_NotWritten i_NotWritten t_NotWritten s_InvalidCount_NotWritten, v_InvalidCount := kit_val v_InvalidCount, x_InvalidCount := exm_of bR i_ReadingError t_ReadingError r_InvalidCount, k_InvalidWidth_InvalidPage := kit_ne n_InvalidWidth_InvalidPage i_InvalidPage t_InvalidPage s_InvalidWidth_InvalidPage, k_InvalidWidth_InvalidBook := kit_ne n_InvalidWidth_InvalidBook i_InvalidBook t_InvalidBook s_InvalidWidth_InvalidBook, k_InvalidWidth_InvalidText := kit_ne n_InvalidWidth_InvalidText i_InvalidText t_InvalidText s_InvalidWidth_InvalidText, k_InvalidWidth_InvalidCells := kit_ne n_InvalidWidth_InvalidCells i_InvalidCells t_InvalidCells s_InvalidWidth_InvalidCells, k_InvalidWidth_InvalidWidth := kit_self, k_InvalidWidth_InvalidCount := kit_ne n_InvalidWidth_InvalidCount i_InvalidCount t_InvalidCount s_InvalidWidth_InvalidCount, k_InvalidWidth_InvalidKey := kit_ne n_InvalidWidth_InvalidKey i_InvalidKey t_InvalidKey s_InvalidWidth_InvalidKey, k_InvalidWidth_InvalidMarks := kit_ne n_InvalidWidth_InvalidMarks i_InvalidMarks t_InvalidMarks s_InvalidWidth_InvalidMarks, k_InvalidWidth_InvalidStand := kit_ne n_InvalidWidth_InvalidStand i_InvalidStand t_InvalidStand s_InvalidWidth_InvalidStand, k_InvalidWidth_InvalidPlace := kit_ne n_InvalidWidth_InvalidPlace i_InvalidPlace t_InvalidPlace s_InvalidWidth_InvalidPlace, k_InvalidWidth_InvalidLine := kit_ne n_InvalidWidth_InvalidLine i_InvalidLine t_InvalidLine s_InvalidWidth_InvalidLine, k_InvalidWidth_InvalidNumber := kit_ne n_InvalidWidth_InvalidNumber i_InvalidNumber t_InvalidNumber s_InvalidWidth_InvalidNumber, k_InvalidWidth_NotWritten := kit_ne n_InvalidWidth_NotWritten i_NotWritten t_NotWritten s_InvalidWidth_NotWritten, v_InvalidWidth := kit_val v_InvalidWidth, x_InvalidWidth := exm_of bR i_ReadingError t_ReadingError r_InvalidWidth, k_InvalidMarks_InvalidPage := kit_ne n_InvalidMarks_InvalidPage i_InvalidPage t_InvalidPage s_InvalidMarks_InvalidPage, k_InvalidMarks_InvalidBook := kit_ne n_InvalidMarks_InvalidBook i_InvalidBook t_InvalidBook s_InvalidMarks_InvalidBook, k_InvalidMarks_InvalidText := kit_ne n_InvalidMarks_InvalidText i_InvalidText t_InvalidText s_InvalidMarks_InvalidText, k_InvalidMarks_InvalidCells := kit_ne n_InvalidMarks_InvalidCells i_InvalidCells t_InvalidCells s_InvalidMarks_InvalidCells, k_InvalidMarks_InvalidWidth := kit_ne n_InvalidMarks_InvalidWidth i_InvalidWidth t_InvalidWidth s_InvalidMarks_InvalidWidth, k_InvalidMarks_InvalidCount := kit_ne n_InvalidMarks_InvalidCount i_InvalidCount t_InvalidCount s_InvalidMarks_InvalidCount, k_InvalidMarks_InvalidKey := kit_ne n_InvalidMarks_InvalidKey i_InvalidKey t_InvalidKey s_InvalidMarks_InvalidKey, k_InvalidMarks_InvalidMarks := kit_self, k_InvalidMarks_InvalidStand := kit_ne n_InvalidMarks_InvalidStand i_InvalidStand t_InvalidStand s_InvalidMarks_InvalidStand, k_InvalidMarks_InvalidPlace := kit_ne n_InvalidMarks_InvalidPlace i_InvalidPlace t_InvalidPlace s_InvalidMarks_InvalidPlace, k_InvalidMarks_InvalidLine := kit_ne n_InvalidMarks_InvalidLine i_InvalidLine t_InvalidLine s_InvalidMarks_InvalidLine, k_InvalidMarks_InvalidNumber := kit_ne n_InvalidMarks_InvalidNumber i_InvalidNumber t_InvalidNumber s_InvalidMarks_InvalidNumber, k_InvalidMarks_NotWritten := kit_ne n_InvalidMarks_NotWritten i_NotWritten t_NotWritten s_InvalidMarks_NotWritten, v_InvalidMarks := kit_val v_InvalidMarks, x_InvalidMarks := exm_of bR i_ReadingError t_ReadingError r_InvalidMarks, g_NOTHING := ⟨_, PySem.W.mg_of X G a_NOTHING⟩, g_CONDITIONS := PySem.W.mg_of X G a_CONDITIONS, t_CONDITIONS := ⟨_, _, _, l_CONDITIONS, y_CONDITIONS, j_CONDITIONS, w_CONDITIONS, q_CONDITIONS⟩, g_STRANGE := ⟨_, PySem.W.mg_of X G a_STRANGE⟩ }
  have ef := m_law.symm.trans hfa
  cases ef
  refine ⟨fd_law, ?_, fun base _ _ => ?_⟩
  · obtain ⟨oc, od, kV, doc, pm, an, cdv, ct, osl, rfl, lk, hcd⟩ := F_law.ex
    exact fun s u => .of_eq rfl
  have T := TT base
  obtain ⟨ds1, hv1, bc1⟩ := F_is_count.binds1 (ps := ["value", "least"]) 1 0 (by simp) rfl (fun _ _ _ _ _ _ _ us its h1 h2 => match us, its, h1, h2 with | [_], [_], _, _ => ⟨_, rfl, rfl⟩)
  obtain ⟨ds2, hv2, b_is_count⟩ := F_is_count.binds1 (ps := ["value", "least"]) 2 1 (by simp) rfl (fun _ _ _ _ _ _ _ us its h1 h2 => match us, its, h1, h2 with | [_, _], [_], _, _ => ⟨_, rfl, rfl⟩)
  cases hv2
  obtain ⟨ds3, hv3, b_check_count⟩ := F_check_count.binds1 (ps := ["value", "least", "below"]) 3 2 (by simp) rfl (fun _ _ _ _ _ _ _ us its h1 h2 => match us, its, h1, h2 with | [_, _, _], [_, _], _, _ => ⟨_, rfl, rfl⟩)
  cases hv3
  have c__law_mixed : CalX P w K mg base 1 "_law_mixed" ["seed", "spin", "at"] _ := ⟨_, _, ok_mixed F__law_mixed T , m__law_mixed, k__law_mixed, b__law_mixed⟩
  have c__law_draw : CalX P w K mg base 2 "_law_draw" ["purse", "many"] _ := ⟨_, _, ok_draw F__law_draw T c__law_mixed, m__law_draw, k__law_draw, b__law_draw⟩
  have c_is_whole : CalX P w K mg base 1 "is_whole" ["value"] _ := ⟨_, _, ok_is_whole F_is_whole T , m_is_whole, k_is_whole, b_is_whole⟩
  have c_is_text : CalX P w K mg base 1 "is_text" ["value"] _ := ⟨_, _, ok_is_text F_is_text T , m_is_text, k_is_text, b_is_text⟩
  have c_is_tuple_of : CalX P w K mg base 1 "is_tuple_of" ["value", "size"] _ := ⟨_, _, ok_is_tuple_of F_is_tuple_of T , m_is_tuple_of, k_is_tuple_of, b_is_tuple_of⟩
  have c_is_one_of : CalX P w K mg base 1 "is_one_of" ["value", "words"] _ := ⟨_, _, ok_is_one_of F_is_one_of T , m_is_one_of, k_is_one_of, b_is_one_of⟩
  have c_is_cell : CalX P w K mg base 2 "is_cell" ["value"] _ := ⟨_, _, ok_is_cell F_is_cell T c_is_whole, m_is_cell, k_is_cell, b_is_cell⟩
  have c_check_text : CalX P w K mg base 3 "check_text" ["value"] _ := ⟨_, _, ok_check_text F_check_text T c_is_text, m_check_text, k_check_text, b_check_text⟩
  have c_class_of_sign : CalX P w K mg base 1 "class_of_sign" ["sign"] _ := ⟨_, _, ok_class_of_sign F_class_of_sign T , m_class_of_sign, k_class_of_sign, b_class_of_sign⟩
  have c_holds_of : CalX P w K mg base 1 "holds_of" ["condition", "kind"] _ := ⟨_, _, ok_holds_of F_holds_of T , m_holds_of, k_holds_of, b_holds_of⟩
  have c_holds : CalX P w K mg base 2 "holds" ["condition", "sign"] _ := ⟨_, _, ok_holds F_holds T c_class_of_sign c_holds_of, m_holds, k_holds, b_holds⟩
  have c_is_rule : CalX P w K mg base 3 "is_rule" ["value"] _ := ⟨_, _, ok_is_rule F_is_rule T c_is_tuple_of c_is_text c_is_cell c_is_one_of, m_is_rule, k_is_rule, b_is_rule⟩
  have c_is_book : CalX P w K mg base 4 "is_book" ["value"] _ := ⟨_, _, ok_is_book F_is_book T c_is_rule, m_is_book, k_is_book, b_is_book⟩
  have c_check_book : CalX P w K mg base 5 "check_book" ["value"] _ := ⟨_, _, ok_check_book F_check_book T c_is_book, m_check_book, k_check_book, b_check_book⟩
  have c_fits_at : CalX P w K mg base 3 "fits_at" ["rule", "near", "signs"] _ := ⟨_, _, ok_fits_at F_fits_at T c_holds_of c_holds, m_fits_at, k_fits_at, b_fits_at⟩
  have c_best_of : CalX P w K mg base 4 "best_of" ["book", "near", "signs"] _ := ⟨_, _, ok_best_of F_best_of T c_fits_at, m_best_of, k_best_of, b_best_of⟩
  have c_near_at : CalX P w K mg base 2 "near_at" ["text", "at"] _ := ⟨_, _, ok_near_at F_near_at T c_class_of_sign, m_near_at, k_near_at, b_near_at⟩
  have c_taken_at : CalX P w K mg base 5 "taken_at" ["book", "text", "at"] _ := ⟨_, _, ok_taken_at F_taken_at T c_best_of c_near_at, m_taken_at, k_taken_at, b_taken_at⟩
  have c_laid_out : CalX P w K mg base 6 "laid_out" ["book", "text"] _ := ⟨_, _, ok_laid_out F_laid_out T c_taken_at, m_laid_out, k_laid_out, b_laid_out⟩
  have c_laid_cells : CalX P w K mg base 7 "laid_cells" ["book", "text"] _ := ⟨_, _, ok_laid_cells F_laid_cells T c_check_book c_check_text c_laid_out, m_laid_cells, k_laid_cells, b_laid_cells⟩
  have c_is_count : CalX P w K mg base 2 "is_count" ["value", "least"] _ := ⟨_, _, ok_is_count F_is_count T c_is_whole, m_is_count, k_is_count, b_is_count⟩
  have cd_is_count : CalD P w K mg base 2 "is_count" ["value", "least"] [.int 0] _ := ⟨_, _, ds1, ok_is_count F_is_count T c_is_whole, m_is_count, k_is_count, hv1, bc1⟩
  have c_check_count : CalX P w K mg base 3 "check_count" ["value", "least", "below"] _ := ⟨_, _, ok_check_count F_check_count T c_is_count, m_check_count, k_check_count, b_check_count⟩
  have c_check_width : CalX P w K mg base 3 "check_width" ["value"] _ := ⟨_, _, ok_check_width F_check_width T c_is_count, m_check_width, k_check_width, b_check_width⟩
  have c_parting_kinds : CalX P w K mg base 1 "parting_kinds" ["cells", "width"] _ := ⟨_, _, ok_parting_kinds F_parting_kinds T , m_parting_kinds, k_parting_kinds, b_parting_kinds⟩
  have c_windows_made : CalX P w K mg base 2 "windows_made" ["cells", "width"] _ := ⟨_, _, ok_windows_made F_windows_made T c_parting_kinds, m_windows_made, k_windows_made, b_windows_made⟩
  have c_cell_led : CalX P w K mg base 1 "cell_led" ["spans", "sign"] _ := ⟨_, _, ok_cell_led F_cell_led T , m_cell_led, k_cell_led, b_cell_led⟩
  have c__law_led_cell : CalX P w K mg base 1 "_law_led_cell" ["spans", "sign"] _ := ⟨_, _, ok_lled_cell F__law_led_cell T , m__law_led_cell, k__law_led_cell, b__law_led_cell⟩
  have c__law_class : CalX P w K mg base 1 "_law_class" ["sign"] _ := ⟨_, _, ok_lclass F__law_class T , m__law_class, k__law_class, b__law_class⟩
  have c__law_true : CalX P w K mg base 2 "_law_true" ["condition", "sign"] _ := ⟨_, _, ok_ltrue F__law_true T c__law_class, m__law_true, k__law_true, b__law_true⟩
  have c__law_fits : CalX P w K mg base 3 "_law_fits" ["rule", "text", "at"] _ := ⟨_, _, ok_lfits F__law_fits T c__law_true, m__law_fits, k__law_fits, b__law_fits⟩
  have c__law_taken : CalX P w K mg base 4 "_law_taken" ["book", "text", "at"] _ := ⟨_, _, ok_ltaken F__law_taken T c__law_fits, m__law_taken, k__law_taken, b__law_taken⟩
  have c__law_laid_out : CalX P w K mg base 5 "_law_laid_out" ["book", "text"] _ := ⟨_, _, ok_llaid F__law_laid_out T c__law_taken, m__law_laid_out, k__law_laid_out, b__law_laid_out⟩
  have c__law_exact : CalX P w K mg base 8 "_law_exact" ["mine", "theirs"] _ := ⟨_, _, ok_exact F__law_exact T m__law_exact k__law_exact b__law_exact 7, m__law_exact, k__law_exact, b__law_exact⟩
  have c__law_copied : CalX P w K mg base 5 "_law_copied" ["thing"] _ := ⟨_, _, ok_copied F__law_copied T m__law_copied k__law_copied b__law_copied 4, m__law_copied, k__law_copied, b__law_copied⟩
  have c__law_purse : CalX P w K mg base 1 "_law_purse" ["script", "at"] _ := ⟨_, _, ok_purse F__law_purse T , m__law_purse, k__law_purse, b__law_purse⟩
  have c__law_one_of : CalX P w K mg base 3 "_law_one_of" ["purse", "some"] _ := ⟨_, _, ok_one_of F__law_one_of T c__law_draw, m__law_one_of, k__law_one_of, b__law_one_of⟩
  have c2__law_one_of : CalX P w K mg base 3 "_law_one_of" ["purse", "some"] _ := ⟨_, _, ok_one_of2 F__law_one_of T c__law_draw, m__law_one_of, k__law_one_of, b__law_one_of⟩
  have c__law_purses : CalX P w K mg base 2 "_law_purses" ["script", "few"] _ := ⟨_, _, ok_purses F__law_purses T c__law_purse, m__law_purses, k__law_purses, b__law_purses⟩
  have c__law_alphabet : CalX P w K mg base 4 "_law_alphabet" ["purse"] _ := ⟨_, _, ok_alphabet F__law_alphabet T c__law_one_of c__law_draw, m__law_alphabet, k__law_alphabet, b__law_alphabet⟩
  have c__law_cells_of : CalX P w K mg base 4 "_law_cells_of" ["purse", "most"] _ := ⟨_, _, ok_cells_of F__law_cells_of T c__law_one_of c__law_draw, m__law_cells_of, k__law_cells_of, b__law_cells_of⟩
  have c__law_condition : CalX P w K mg base 4 "_law_condition" ["purse"] _ := ⟨_, _, ok_condition F__law_condition T c__law_one_of, m__law_condition, k__law_condition, b__law_condition⟩
  have c__law_book : CalX P w K mg base 5 "_law_book" ["purse", "signs", "most"] _ := ⟨_, _, ok_lbook F__law_book T c__law_one_of c2__law_one_of c__law_draw c__law_condition c__law_cells_of, m__law_book, k__law_book, b__law_book⟩
  have c__law_written_text : CalX P w K mg base 4 "_law_written_text" ["purse", "signs", "most"] _ := ⟨_, _, ok_written_text F__law_written_text T c__law_one_of c__law_draw, m__law_written_text, k__law_written_text, b__law_written_text⟩
  have c__law_no_books : CalX P w K mg base 3 "_law_no_books" ["purse", "book"] _ := ⟨_, _, ok_no_books F__law_no_books T c__law_draw, m__law_no_books, k__law_no_books, b__law_no_books⟩
  have c_is_mark_of : CalX P w K mg base 3 "is_mark_of" ["value", "size"] _ := ⟨_, _, ok_is_mark_of F_is_mark_of T c_is_tuple_of cd_is_count, m_is_mark_of, k_is_mark_of, b_is_mark_of⟩
  have c_marked_by : CalX P w K mg base 2 "marked_by" ["laid", "size", "mark"] _ := ⟨_, _, ok_marked_by F_marked_by T c_cell_led, m_marked_by, k_marked_by, b_marked_by⟩
  have c_cells_shown : CalX P w K mg base 8 "cells_shown" ["book", "text", "width", "window", "marks"] _ := ⟨_, _, ok_cells_shown F_cells_shown T c_laid_cells c_check_width c_windows_made c_check_count c_is_mark_of c_marked_by, m_cells_shown, k_cells_shown, b_cells_shown⟩
  have kb_cells_shown_marks_window_width_text_book : KBd K fd_cells_shown ["book", "text", "width", "window", "marks"] ["marks", "window", "width", "text", "book"] [4, 3, 2, 1, 0] := kbd_mk F_cells_shown fun _ _ _ _ _ _ ws hl => match ws, hl with | [_, _, _, _, _], _ => rfl
  have k_cells_shown_marks_window_width_text_book : CalK P w K mg base 8 "cells_shown" ["book", "text", "width", "window", "marks"] ["marks", "window", "width", "text", "book"] [4, 3, 2, 1, 0] _ := ⟨_, _, ok_cells_shown F_cells_shown T c_laid_cells c_check_width c_windows_made c_check_count c_is_mark_of c_marked_by, m_cells_shown, k_cells_shown, kb_cells_shown_marks_window_width_text_book⟩
  have c__law_door : CalX P w K mg base 1 "_law_door" ["caught"] _ := ⟨_, _, ok_ldoor F__law_door T , m__law_door, k__law_door, b__law_door⟩
  have c__law_asked : CalX P w K mg base 9 "_law_asked" ["way", "args"] _ := ⟨_, _, ok_lasked F__law_asked T c_cells_shown, m__law_asked, k__law_asked, b__law_asked⟩
  have c__law_heard : CalX P w K mg base 10 "_law_heard" ["way", "args"] _ := ⟨_, _, ok_lheard F__law_heard T c__law_asked c__law_door, m__law_heard, k__law_heard, b__law_heard⟩
  have c__law_no_counts : CalX P w K mg base 1 "_law_no_counts" ["many"] _ := ⟨_, _, ok_no_counts F__law_no_counts T , m__law_no_counts, k__law_no_counts, b__law_no_counts⟩
  have c__law_greedy : CalX P w K mg base 1 "_law_greedy" ["cells", "width"] _ := ⟨_, _, ok_greedy F__law_greedy T , m__law_greedy, k__law_greedy, b__law_greedy⟩
  have c__law_marked : CalX P w K mg base 2 "_law_marked" ["spans", "size", "many", "mark"] _ := ⟨_, _, ok_lmarked F__law_marked T c__law_led_cell, m__law_marked, k__law_marked, b__law_marked⟩
  have c__law_due : CalX P w K mg base 3 "_law_due" ["laid", "size", "width", "window", "marks"] _ := ⟨_, _, ok_ldue F__law_due T c__law_greedy c__law_marked, m__law_due, k__law_due, b__law_due⟩
  have c__law_marks_of : CalX P w K mg base 3 "_law_marks_of" ["purse", "size"] _ := ⟨_, _, ok_marks_of F__law_marks_of T c__law_draw, m__law_marks_of, k__law_marks_of, b__law_marks_of⟩
  have c__law_shown_right : CalX P w K mg base 11 "_law_shown_right" ["purse", "book", "text", "width"] _ := ⟨_, _, ok_shown_right F__law_shown_right T c__law_laid_out c__law_greedy c__law_copied c__law_marks_of c__law_due c__law_exact c__law_heard, m__law_shown_right, k__law_shown_right, b__law_shown_right⟩
  have c__law_refused : CalX P w K mg base 11 "_law_refused" ["purse", "book", "text", "width"] _ := ⟨_, _, ok_refused F__law_refused T c__law_marks_of c__law_greedy c__law_laid_out c__law_draw c__law_exact c__law_heard c__law_no_counts c__law_one_of c__law_no_books, m__law_refused, k__law_refused, b__law_refused⟩
  exact ok_law F_law T c__law_purses c__law_alphabet c__law_book c__law_one_of c__law_written_text c__law_draw c__law_shown_right c__law_refused c_cells_shown k_cells_shown_marks_window_width_text_book c__law_exact


end PA
open PySem PySem.W PyProof.Rows in
set_option maxRecDepth 100000 in
set_option maxHeartbeats 0 in
theorem PySem.Challenge.cw_heardandfelt_k75_marks_shown_holds : PySem.Challenge.rw_heardandfelt_k75_marks_shown.Holds := by
  w_on; o_law; k_head; (case hw => w_witness2)
  k_fill
  refine PA.walk (l := PySem.Challenge.rw_heardandfelt_k75_marks_shown) (k := 12) rfl rfl ⟨rfl, by decide, by decide⟩ (fun w h Y => PySem.W.kIn_of Y) ?F
  case F =>
    intro w mg fa h KX G hmg
    refine' PA.all_ok KX G hmg ?D_is_whole ?D_is_count ?D_is_text ?D_is_tuple_of ?D_is_one_of ?D_check_count ?D_check_text ?D_is_cell ?D_class_of_sign ?D_holds_of ?D_holds ?D_is_rule ?D_is_book ?D_check_book ?D_fits_at ?D_best_of ?D_near_at ?D_taken_at ?D_laid_out ?D_laid_cells ?D_check_width ?D_parting_kinds ?D_windows_made ?D_cell_led ?D_is_mark_of ?D_marked_by ?D_cells_shown ?D__law_class ?D__law_true ?D__law_fits ?D__law_taken ?D__law_laid_out ?D__law_alphabet ?D__law_cells_of ?D__law_condition ?D__law_book ?D__law_written_text ?D__law_door ?D__law_heard ?D__law_no_books ?D__law_no_counts ?D__law_greedy ?D__law_led_cell ?D__law_purse ?D__law_mixed ?D__law_draw ?D__law_purses ?D__law_one_of ?D__law_exact ?D__law_copied ?D__law_asked ?D__law_marked ?D__law_due ?D__law_marks_of ?D__law_shown_right ?D__law_refused ?D_law ?z_isinstance ?z_bool ?z_int ?z_max ?z_all ?z_str ?z_len ?z_tuple ?z_list ?z_enumerate ?z_range ?z_min ?z_ValueError ?z_sum ?z_dict ?z_zip ?z_sorted ?a_ReadingError ?a_InvalidPage ?a_InvalidNumber ?a_InvalidCount ?a_InvalidText ?a_InvalidPlace ?a_InvalidCells ?a_InvalidBook ?a_InvalidWidth ?a_InvalidKey ?a_InvalidMarks ?a_InvalidStand ?a_InvalidLine ?a_NotWritten ?E_InvalidPage ?E_InvalidNumber ?E_InvalidCount ?E_InvalidText ?E_InvalidPlace ?E_InvalidCells ?E_InvalidBook ?E_InvalidWidth ?E_InvalidKey ?E_InvalidMarks ?E_InvalidStand ?E_InvalidLine ?E_NotWritten ?i_InvalidPage ?t_InvalidPage ?i_InvalidBook ?t_InvalidBook ?i_InvalidText ?t_InvalidText ?i_InvalidCells ?t_InvalidCells ?i_InvalidWidth ?t_InvalidWidth ?i_InvalidCount ?t_InvalidCount ?i_InvalidKey ?t_InvalidKey ?i_InvalidMarks ?t_InvalidMarks ?i_InvalidStand ?t_InvalidStand ?i_InvalidPlace ?t_InvalidPlace ?i_InvalidLine ?t_InvalidLine ?i_InvalidNumber ?t_InvalidNumber ?i_NotWritten ?t_NotWritten ?i_ReadingError ?t_ReadingError ?bR ?s_InvalidBook_InvalidPage ?n_InvalidBook_InvalidPage ?s_InvalidBook_InvalidText ?n_InvalidBook_InvalidText ?s_InvalidBook_InvalidCells ?n_InvalidBook_InvalidCells ?s_InvalidBook_InvalidWidth ?n_InvalidBook_InvalidWidth ?s_InvalidBook_InvalidCount ?n_InvalidBook_InvalidCount ?s_InvalidBook_InvalidKey ?n_InvalidBook_InvalidKey ?s_InvalidBook_InvalidMarks ?n_InvalidBook_InvalidMarks ?s_InvalidBook_InvalidStand ?n_InvalidBook_InvalidStand ?s_InvalidBook_InvalidPlace ?n_InvalidBook_InvalidPlace ?s_InvalidBook_InvalidLine ?n_InvalidBook_InvalidLine ?s_InvalidBook_InvalidNumber ?n_InvalidBook_InvalidNumber ?s_InvalidBook_NotWritten ?n_InvalidBook_NotWritten ?v_InvalidBook ?r_InvalidBook ?s_InvalidText_InvalidPage ?n_InvalidText_InvalidPage ?s_InvalidText_InvalidBook ?n_InvalidText_InvalidBook ?s_InvalidText_InvalidCells ?n_InvalidText_InvalidCells ?s_InvalidText_InvalidWidth ?n_InvalidText_InvalidWidth ?s_InvalidText_InvalidCount ?n_InvalidText_InvalidCount ?s_InvalidText_InvalidKey ?n_InvalidText_InvalidKey ?s_InvalidText_InvalidMarks ?n_InvalidText_InvalidMarks ?s_InvalidText_InvalidStand ?n_InvalidText_InvalidStand ?s_InvalidText_InvalidPlace ?n_InvalidText_InvalidPlace ?s_InvalidText_InvalidLine ?n_InvalidText_InvalidLine ?s_InvalidText_InvalidNumber ?n_InvalidText_InvalidNumber ?s_InvalidText_NotWritten ?n_InvalidText_NotWritten ?v_InvalidText ?r_InvalidText ?s_InvalidCount_InvalidPage ?n_InvalidCount_InvalidPage ?s_InvalidCount_InvalidBook ?n_InvalidCount_InvalidBook ?s_InvalidCount_InvalidText ?n_InvalidCount_InvalidText ?s_InvalidCount_InvalidCells ?n_InvalidCount_InvalidCells ?s_InvalidCount_InvalidWidth ?n_InvalidCount_InvalidWidth ?s_InvalidCount_InvalidKey ?n_InvalidCount_InvalidKey ?s_InvalidCount_InvalidMarks ?n_InvalidCount_InvalidMarks ?s_InvalidCount_InvalidStand ?n_InvalidCount_InvalidStand ?s_InvalidCount_InvalidPlace ?n_InvalidCount_InvalidPlace ?s_InvalidCount_InvalidLine ?n_InvalidCount_InvalidLine ?s_InvalidCount_InvalidNumber ?n_InvalidCount_InvalidNumber ?s_InvalidCount_NotWritten ?n_InvalidCount_NotWritten ?v_InvalidCount ?r_InvalidCount ?s_InvalidWidth_InvalidPage ?n_InvalidWidth_InvalidPage ?s_InvalidWidth_InvalidBook ?n_InvalidWidth_InvalidBook ?s_InvalidWidth_InvalidText ?n_InvalidWidth_InvalidText ?s_InvalidWidth_InvalidCells ?n_InvalidWidth_InvalidCells ?s_InvalidWidth_InvalidCount ?n_InvalidWidth_InvalidCount ?s_InvalidWidth_InvalidKey ?n_InvalidWidth_InvalidKey ?s_InvalidWidth_InvalidMarks ?n_InvalidWidth_InvalidMarks ?s_InvalidWidth_InvalidStand ?n_InvalidWidth_InvalidStand ?s_InvalidWidth_InvalidPlace ?n_InvalidWidth_InvalidPlace ?s_InvalidWidth_InvalidLine ?n_InvalidWidth_InvalidLine ?s_InvalidWidth_InvalidNumber ?n_InvalidWidth_InvalidNumber ?s_InvalidWidth_NotWritten ?n_InvalidWidth_NotWritten ?v_InvalidWidth ?r_InvalidWidth ?s_InvalidMarks_InvalidPage ?n_InvalidMarks_InvalidPage ?s_InvalidMarks_InvalidBook ?n_InvalidMarks_InvalidBook ?s_InvalidMarks_InvalidText ?n_InvalidMarks_InvalidText ?s_InvalidMarks_InvalidCells ?n_InvalidMarks_InvalidCells ?s_InvalidMarks_InvalidWidth ?n_InvalidMarks_InvalidWidth ?s_InvalidMarks_InvalidCount ?n_InvalidMarks_InvalidCount ?s_InvalidMarks_InvalidKey ?n_InvalidMarks_InvalidKey ?s_InvalidMarks_InvalidStand ?n_InvalidMarks_InvalidStand ?s_InvalidMarks_InvalidPlace ?n_InvalidMarks_InvalidPlace ?s_InvalidMarks_InvalidLine ?n_InvalidMarks_InvalidLine ?s_InvalidMarks_InvalidNumber ?n_InvalidMarks_InvalidNumber ?s_InvalidMarks_NotWritten ?n_InvalidMarks_NotWritten ?v_InvalidMarks ?r_InvalidMarks ?a_NOTHING ?a_CONDITIONS ?l_CONDITIONS ?y_CONDITIONS ?j_CONDITIONS ?w_CONDITIONS ?q_CONDITIONS ?a_STRANGE
    (case D_is_whole => refine' PA.def_mk KX G ?a ?l ?c ?k; (case a => k_is); (case l => k_is); (case c => k_is); (case k => k_is))
    (case D_is_count => refine' PA.defD_mk (its := [.int 0 _]) KX G ?a ?l ?c ?k ?lT ?dT ?rT ?hd; (case a => k_is); (case l => k_is); (case c => k_is); (case k => k_is); (case lT => k_is); (case dT => rfl); (case rT => exact .cons ⟨_, rfl⟩ .nil); (case hd => simp))
    (case D_is_text => refine' PA.def_mk KX G ?a ?l ?c ?k; (case a => k_is); (case l => k_is); (case c => k_is); (case k => k_is))
    (case D_is_tuple_of => refine' PA.def_mk KX G ?a ?l ?c ?k; (case a => k_is); (case l => k_is); (case c => k_is); (case k => k_is))
    (case D_is_one_of => refine' PA.def_mk KX G ?a ?l ?c ?k; (case a => k_is); (case l => k_is); (case c => k_is); (case k => k_is))
    (case D_check_count => refine' PA.defD_mk (its := [.int 0 _, .none]) KX G ?a ?l ?c ?k ?lT ?dT ?rT ?hd; (case a => k_is); (case l => k_is); (case c => k_is); (case k => k_is); (case lT => k_is); (case dT => rfl); (case rT => exact .cons ⟨_, rfl⟩ (.cons rfl .nil)); (case hd => simp))
    (case D_check_text => refine' PA.def_mk KX G ?a ?l ?c ?k; (case a => k_is); (case l => k_is); (case c => k_is); (case k => k_is))
    (case D_is_cell => refine' PA.def_mk KX G ?a ?l ?c ?k; (case a => k_is); (case l => k_is); (case c => k_is); (case k => k_is))
    (case D_class_of_sign => refine' PA.def_mk KX G ?a ?l ?c ?k; (case a => k_is); (case l => k_is); (case c => k_is); (case k => k_is))
    (case D_holds_of => refine' PA.def_mk KX G ?a ?l ?c ?k; (case a => k_is); (case l => k_is); (case c => k_is); (case k => k_is))
    (case D_holds => refine' PA.def_mk KX G ?a ?l ?c ?k; (case a => k_is); (case l => k_is); (case c => k_is); (case k => k_is))
    (case D_is_rule => refine' PA.def_mk KX G ?a ?l ?c ?k; (case a => k_is); (case l => k_is); (case c => k_is); (case k => k_is))
    (case D_is_book => refine' PA.def_mk KX G ?a ?l ?c ?k; (case a => k_is); (case l => k_is); (case c => k_is); (case k => k_is))
    (case D_check_book => refine' PA.def_mk KX G ?a ?l ?c ?k; (case a => k_is); (case l => k_is); (case c => k_is); (case k => k_is))
    (case D_fits_at => refine' PA.def_mk KX G ?a ?l ?c ?k; (case a => k_is); (case l => k_is); (case c => k_is); (case k => k_is))
    (case D_best_of => refine' PA.def_mk KX G ?a ?l ?c ?k; (case a => k_is); (case l => k_is); (case c => k_is); (case k => k_is))
    (case D_near_at => refine' PA.def_mk KX G ?a ?l ?c ?k; (case a => k_is); (case l => k_is); (case c => k_is); (case k => k_is))
    (case D_taken_at => refine' PA.def_mk KX G ?a ?l ?c ?k; (case a => k_is); (case l => k_is); (case c => k_is); (case k => k_is))
    (case D_laid_out => refine' PA.def_mk KX G ?a ?l ?c ?k; (case a => k_is); (case l => k_is); (case c => k_is); (case k => k_is))
    (case D_laid_cells => refine' PA.def_mk KX G ?a ?l ?c ?k; (case a => k_is); (case l => k_is); (case c => k_is); (case k => k_is))
    (case D_check_width => refine' PA.def_mk KX G ?a ?l ?c ?k; (case a => k_is); (case l => k_is); (case c => k_is); (case k => k_is))
    (case D_parting_kinds => refine' PA.def_mk KX G ?a ?l ?c ?k; (case a => k_is); (case l => k_is); (case c => k_is); (case k => k_is))
    (case D_windows_made => refine' PA.def_mk KX G ?a ?l ?c ?k; (case a => k_is); (case l => k_is); (case c => k_is); (case k => k_is))
    (case D_cell_led => refine' PA.def_mk KX G ?a ?l ?c ?k; (case a => k_is); (case l => k_is); (case c => k_is); (case k => k_is))
    (case D_is_mark_of => refine' PA.def_mk KX G ?a ?l ?c ?k; (case a => k_is); (case l => k_is); (case c => k_is); (case k => k_is))
    (case D_marked_by => refine' PA.def_mk KX G ?a ?l ?c ?k; (case a => k_is); (case l => k_is); (case c => k_is); (case k => k_is))
    (case D_cells_shown => refine' PA.def_mk KX G ?a ?l ?c ?k; (case a => k_is); (case l => k_is); (case c => k_is); (case k => k_is))
    (case D__law_class => refine' PA.def_mk KX G ?a ?l ?c ?k; (case a => k_is); (case l => k_is); (case c => k_is); (case k => k_is))
    (case D__law_true => refine' PA.def_mk KX G ?a ?l ?c ?k; (case a => k_is); (case l => k_is); (case c => k_is); (case k => k_is))
    (case D__law_fits => refine' PA.def_mk KX G ?a ?l ?c ?k; (case a => k_is); (case l => k_is); (case c => k_is); (case k => k_is))
    (case D__law_taken => refine' PA.def_mk KX G ?a ?l ?c ?k; (case a => k_is); (case l => k_is); (case c => k_is); (case k => k_is))
    (case D__law_laid_out => refine' PA.def_mk KX G ?a ?l ?c ?k; (case a => k_is); (case l => k_is); (case c => k_is); (case k => k_is))
    (case D__law_alphabet => refine' PA.def_mk KX G ?a ?l ?c ?k; (case a => k_is); (case l => k_is); (case c => k_is); (case k => k_is))
    (case D__law_cells_of => refine' PA.def_mk KX G ?a ?l ?c ?k; (case a => k_is); (case l => k_is); (case c => k_is); (case k => k_is))
    (case D__law_condition => refine' PA.def_mk KX G ?a ?l ?c ?k; (case a => k_is); (case l => k_is); (case c => k_is); (case k => k_is))
    (case D__law_book => refine' PA.def_mk KX G ?a ?l ?c ?k; (case a => k_is); (case l => k_is); (case c => k_is); (case k => k_is))
    (case D__law_written_text => refine' PA.def_mk KX G ?a ?l ?c ?k; (case a => k_is); (case l => k_is); (case c => k_is); (case k => k_is))
    (case D__law_door => refine' PA.def_mk KX G ?a ?l ?c ?k; (case a => k_is); (case l => k_is); (case c => k_is); (case k => k_is))
    (case D__law_heard => refine' PA.def_mk KX G ?a ?l ?c ?k; (case a => k_is); (case l => k_is); (case c => k_is); (case k => k_is))
    (case D__law_no_books => refine' PA.def_mk KX G ?a ?l ?c ?k; (case a => k_is); (case l => k_is); (case c => k_is); (case k => k_is))
    (case D__law_no_counts => refine' PA.def_mk KX G ?a ?l ?c ?k; (case a => k_is); (case l => k_is); (case c => k_is); (case k => k_is))
    (case D__law_greedy => refine' PA.def_mk KX G ?a ?l ?c ?k; (case a => k_is); (case l => k_is); (case c => k_is); (case k => k_is))
    (case D__law_led_cell => refine' PA.def_mk KX G ?a ?l ?c ?k; (case a => k_is); (case l => k_is); (case c => k_is); (case k => k_is))
    (case D__law_purse => refine' PA.def_mk KX G ?a ?l ?c ?k; (case a => k_is); (case l => k_is); (case c => k_is); (case k => k_is))
    (case D__law_mixed => refine' PA.def_mk KX G ?a ?l ?c ?k; (case a => k_is); (case l => k_is); (case c => k_is); (case k => k_is))
    (case D__law_draw => refine' PA.def_mk KX G ?a ?l ?c ?k; (case a => k_is); (case l => k_is); (case c => k_is); (case k => k_is))
    (case D__law_purses => refine' PA.def_mk KX G ?a ?l ?c ?k; (case a => k_is); (case l => k_is); (case c => k_is); (case k => k_is))
    (case D__law_one_of => refine' PA.def_mk KX G ?a ?l ?c ?k; (case a => k_is); (case l => k_is); (case c => k_is); (case k => k_is))
    (case D__law_exact => refine' PA.def_mk KX G ?a ?l ?c ?k; (case a => k_is); (case l => k_is); (case c => k_is); (case k => k_is))
    (case D__law_copied => refine' PA.def_mk KX G ?a ?l ?c ?k; (case a => k_is); (case l => k_is); (case c => k_is); (case k => k_is))
    (case D__law_asked => refine' PA.def_mk KX G ?a ?l ?c ?k; (case a => k_is); (case l => k_is); (case c => k_is); (case k => k_is))
    (case D__law_marked => refine' PA.def_mk KX G ?a ?l ?c ?k; (case a => k_is); (case l => k_is); (case c => k_is); (case k => k_is))
    (case D__law_due => refine' PA.def_mk KX G ?a ?l ?c ?k; (case a => k_is); (case l => k_is); (case c => k_is); (case k => k_is))
    (case D__law_marks_of => refine' PA.def_mk KX G ?a ?l ?c ?k; (case a => k_is); (case l => k_is); (case c => k_is); (case k => k_is))
    (case D__law_shown_right => refine' PA.def_mk KX G ?a ?l ?c ?k; (case a => k_is); (case l => k_is); (case c => k_is); (case k => k_is))
    (case D__law_refused => refine' PA.def_mk KX G ?a ?l ?c ?k; (case a => k_is); (case l => k_is); (case c => k_is); (case k => k_is))
    (case D_law => refine' PA.def_mk KX G ?a ?l ?c ?k; (case a => k_is); (case l => k_is); (case c => k_is); (case k => k_is))
    (case z_isinstance => k_is)
    (case z_bool => k_is)
    (case z_int => k_is)
    (case z_max => k_is)
    (case z_all => k_is)
    (case z_str => k_is)
    (case z_len => k_is)
    (case z_tuple => k_is)
    (case z_list => k_is)
    (case z_enumerate => k_is)
    (case z_range => k_is)
    (case z_min => k_is)
    (case z_ValueError => k_is)
    (case z_sum => k_is)
    (case z_dict => k_is)
    (case z_zip => k_is)
    (case z_sorted => k_is)
    (case a_ReadingError => k_is)
    (case a_InvalidPage => k_is)
    (case a_InvalidNumber => k_is)
    (case a_InvalidCount => k_is)
    (case a_InvalidText => k_is)
    (case a_InvalidPlace => k_is)
    (case a_InvalidCells => k_is)
    (case a_InvalidBook => k_is)
    (case a_InvalidWidth => k_is)
    (case a_InvalidKey => k_is)
    (case a_InvalidMarks => k_is)
    (case a_InvalidStand => k_is)
    (case a_InvalidLine => k_is)
    (case a_NotWritten => k_is)
    (case E_InvalidPage => refine' PA.err_mk (st := PA.si_InvalidPage) (qual := "InvalidPage.__init__") ?aC ?xL ?sa ?ga ?gg ?nb ?a1 ?t1 ?l1 ?c1 ?k1 ?lT ?kC ?eC ?tC ?hC ?ha ?hn ?ht ?hm ?hbm ?dT rfl PA.sci_InvalidPage (Or.inl rfl) (Or.inl rfl) (fun _ _ _ _ _ _ _ us its h1 h2 => match us, its, h1, h2 with | [_, _], [_], _, _ => ⟨_, rfl, rfl⟩) KX G; (case aC => k_is); (case xL => k_is); (case sa => k_is); (case ga => k_is); (case gg => k_is); (case nb => k_is); (case a1 => k_is); (case t1 => k_is); (case l1 => k_is); (case c1 => k_is); (case k1 => k_is); (case lT => k_is); (case kC => k_is); (case eC => k_is); (case tC => k_is); (case hC => k_is); (case ha => k_is); (case hn => k_is); (case ht => k_is); (case hm => k_is); (case hbm => decide +kernel); (case dT => rfl))
    (case E_InvalidNumber => refine' PA.err_mk (st := PA.si_InvalidNumber) (qual := "InvalidNumber.__init__") ?aC ?xL ?sa ?ga ?gg ?nb ?a1 ?t1 ?l1 ?c1 ?k1 ?lT ?kC ?eC ?tC ?hC ?ha ?hn ?ht ?hm ?hbm ?dT rfl PA.sci_InvalidNumber (Or.inl rfl) (Or.inl rfl) (fun _ _ _ _ _ _ _ us its h1 h2 => match us, its, h1, h2 with | [_, _], [_], _, _ => ⟨_, rfl, rfl⟩) KX G; (case aC => k_is); (case xL => k_is); (case sa => k_is); (case ga => k_is); (case gg => k_is); (case nb => k_is); (case a1 => k_is); (case t1 => k_is); (case l1 => k_is); (case c1 => k_is); (case k1 => k_is); (case lT => k_is); (case kC => k_is); (case eC => k_is); (case tC => k_is); (case hC => k_is); (case ha => k_is); (case hn => k_is); (case ht => k_is); (case hm => k_is); (case hbm => decide +kernel); (case dT => rfl))
    (case E_InvalidCount => refine' PA.err_mk (st := PA.si_InvalidCount) (qual := "InvalidCount.__init__") ?aC ?xL ?sa ?ga ?gg ?nb ?a1 ?t1 ?l1 ?c1 ?k1 ?lT ?kC ?eC ?tC ?hC ?ha ?hn ?ht ?hm ?hbm ?dT rfl PA.sci_InvalidCount (Or.inl rfl) (Or.inl rfl) (fun _ _ _ _ _ _ _ us its h1 h2 => match us, its, h1, h2 with | [_, _], [_], _, _ => ⟨_, rfl, rfl⟩) KX G; (case aC => k_is); (case xL => k_is); (case sa => k_is); (case ga => k_is); (case gg => k_is); (case nb => k_is); (case a1 => k_is); (case t1 => k_is); (case l1 => k_is); (case c1 => k_is); (case k1 => k_is); (case lT => k_is); (case kC => k_is); (case eC => k_is); (case tC => k_is); (case hC => k_is); (case ha => k_is); (case hn => k_is); (case ht => k_is); (case hm => k_is); (case hbm => decide +kernel); (case dT => rfl))
    (case E_InvalidText => refine' PA.err_mk (st := PA.si_InvalidText) (qual := "InvalidText.__init__") ?aC ?xL ?sa ?ga ?gg ?nb ?a1 ?t1 ?l1 ?c1 ?k1 ?lT ?kC ?eC ?tC ?hC ?ha ?hn ?ht ?hm ?hbm ?dT rfl PA.sci_InvalidText (Or.inl rfl) (Or.inl rfl) (fun _ _ _ _ _ _ _ us its h1 h2 => match us, its, h1, h2 with | [_, _], [_], _, _ => ⟨_, rfl, rfl⟩) KX G; (case aC => k_is); (case xL => k_is); (case sa => k_is); (case ga => k_is); (case gg => k_is); (case nb => k_is); (case a1 => k_is); (case t1 => k_is); (case l1 => k_is); (case c1 => k_is); (case k1 => k_is); (case lT => k_is); (case kC => k_is); (case eC => k_is); (case tC => k_is); (case hC => k_is); (case ha => k_is); (case hn => k_is); (case ht => k_is); (case hm => k_is); (case hbm => decide +kernel); (case dT => rfl))
    (case E_InvalidPlace => refine' PA.err_mk (st := PA.si_InvalidPlace) (qual := "InvalidPlace.__init__") ?aC ?xL ?sa ?ga ?gg ?nb ?a1 ?t1 ?l1 ?c1 ?k1 ?lT ?kC ?eC ?tC ?hC ?ha ?hn ?ht ?hm ?hbm ?dT rfl PA.sci_InvalidPlace (Or.inl rfl) (Or.inl rfl) (fun _ _ _ _ _ _ _ us its h1 h2 => match us, its, h1, h2 with | [_, _], [_], _, _ => ⟨_, rfl, rfl⟩) KX G; (case aC => k_is); (case xL => k_is); (case sa => k_is); (case ga => k_is); (case gg => k_is); (case nb => k_is); (case a1 => k_is); (case t1 => k_is); (case l1 => k_is); (case c1 => k_is); (case k1 => k_is); (case lT => k_is); (case kC => k_is); (case eC => k_is); (case tC => k_is); (case hC => k_is); (case ha => k_is); (case hn => k_is); (case ht => k_is); (case hm => k_is); (case hbm => decide +kernel); (case dT => rfl))
    (case E_InvalidCells => refine' PA.err_mk (st := PA.si_InvalidCells) (qual := "InvalidCells.__init__") ?aC ?xL ?sa ?ga ?gg ?nb ?a1 ?t1 ?l1 ?c1 ?k1 ?lT ?kC ?eC ?tC ?hC ?ha ?hn ?ht ?hm ?hbm ?dT rfl PA.sci_InvalidCells (Or.inl rfl) (Or.inl rfl) (fun _ _ _ _ _ _ _ us its h1 h2 => match us, its, h1, h2 with | [_, _], [_], _, _ => ⟨_, rfl, rfl⟩) KX G; (case aC => k_is); (case xL => k_is); (case sa => k_is); (case ga => k_is); (case gg => k_is); (case nb => k_is); (case a1 => k_is); (case t1 => k_is); (case l1 => k_is); (case c1 => k_is); (case k1 => k_is); (case lT => k_is); (case kC => k_is); (case eC => k_is); (case tC => k_is); (case hC => k_is); (case ha => k_is); (case hn => k_is); (case ht => k_is); (case hm => k_is); (case hbm => decide +kernel); (case dT => rfl))
    (case E_InvalidBook => refine' PA.err_mk (st := PA.si_InvalidBook) (qual := "InvalidBook.__init__") ?aC ?xL ?sa ?ga ?gg ?nb ?a1 ?t1 ?l1 ?c1 ?k1 ?lT ?kC ?eC ?tC ?hC ?ha ?hn ?ht ?hm ?hbm ?dT rfl PA.sci_InvalidBook (Or.inl rfl) (Or.inl rfl) (fun _ _ _ _ _ _ _ us its h1 h2 => match us, its, h1, h2 with | [_, _], [_], _, _ => ⟨_, rfl, rfl⟩) KX G; (case aC => k_is); (case xL => k_is); (case sa => k_is); (case ga => k_is); (case gg => k_is); (case nb => k_is); (case a1 => k_is); (case t1 => k_is); (case l1 => k_is); (case c1 => k_is); (case k1 => k_is); (case lT => k_is); (case kC => k_is); (case eC => k_is); (case tC => k_is); (case hC => k_is); (case ha => k_is); (case hn => k_is); (case ht => k_is); (case hm => k_is); (case hbm => decide +kernel); (case dT => rfl))
    (case E_InvalidWidth => refine' PA.err_mk (st := PA.si_InvalidWidth) (qual := "InvalidWidth.__init__") ?aC ?xL ?sa ?ga ?gg ?nb ?a1 ?t1 ?l1 ?c1 ?k1 ?lT ?kC ?eC ?tC ?hC ?ha ?hn ?ht ?hm ?hbm ?dT rfl PA.sci_InvalidWidth (Or.inl rfl) (Or.inl rfl) (fun _ _ _ _ _ _ _ us its h1 h2 => match us, its, h1, h2 with | [_, _], [_], _, _ => ⟨_, rfl, rfl⟩) KX G; (case aC => k_is); (case xL => k_is); (case sa => k_is); (case ga => k_is); (case gg => k_is); (case nb => k_is); (case a1 => k_is); (case t1 => k_is); (case l1 => k_is); (case c1 => k_is); (case k1 => k_is); (case lT => k_is); (case kC => k_is); (case eC => k_is); (case tC => k_is); (case hC => k_is); (case ha => k_is); (case hn => k_is); (case ht => k_is); (case hm => k_is); (case hbm => decide +kernel); (case dT => rfl))
    (case E_InvalidKey => refine' PA.err_mk (st := PA.si_InvalidKey) (qual := "InvalidKey.__init__") ?aC ?xL ?sa ?ga ?gg ?nb ?a1 ?t1 ?l1 ?c1 ?k1 ?lT ?kC ?eC ?tC ?hC ?ha ?hn ?ht ?hm ?hbm ?dT rfl PA.sci_InvalidKey (Or.inl rfl) (Or.inl rfl) (fun _ _ _ _ _ _ _ us its h1 h2 => match us, its, h1, h2 with | [_, _], [_], _, _ => ⟨_, rfl, rfl⟩) KX G; (case aC => k_is); (case xL => k_is); (case sa => k_is); (case ga => k_is); (case gg => k_is); (case nb => k_is); (case a1 => k_is); (case t1 => k_is); (case l1 => k_is); (case c1 => k_is); (case k1 => k_is); (case lT => k_is); (case kC => k_is); (case eC => k_is); (case tC => k_is); (case hC => k_is); (case ha => k_is); (case hn => k_is); (case ht => k_is); (case hm => k_is); (case hbm => decide +kernel); (case dT => rfl))
    (case E_InvalidMarks => refine' PA.err_mk (st := PA.si_InvalidMarks) (qual := "InvalidMarks.__init__") ?aC ?xL ?sa ?ga ?gg ?nb ?a1 ?t1 ?l1 ?c1 ?k1 ?lT ?kC ?eC ?tC ?hC ?ha ?hn ?ht ?hm ?hbm ?dT rfl PA.sci_InvalidMarks (Or.inl rfl) (Or.inl rfl) (fun _ _ _ _ _ _ _ us its h1 h2 => match us, its, h1, h2 with | [_, _], [_], _, _ => ⟨_, rfl, rfl⟩) KX G; (case aC => k_is); (case xL => k_is); (case sa => k_is); (case ga => k_is); (case gg => k_is); (case nb => k_is); (case a1 => k_is); (case t1 => k_is); (case l1 => k_is); (case c1 => k_is); (case k1 => k_is); (case lT => k_is); (case kC => k_is); (case eC => k_is); (case tC => k_is); (case hC => k_is); (case ha => k_is); (case hn => k_is); (case ht => k_is); (case hm => k_is); (case hbm => decide +kernel); (case dT => rfl))
    (case E_InvalidStand => refine' PA.err_mk (st := PA.si_InvalidStand) (qual := "InvalidStand.__init__") ?aC ?xL ?sa ?ga ?gg ?nb ?a1 ?t1 ?l1 ?c1 ?k1 ?lT ?kC ?eC ?tC ?hC ?ha ?hn ?ht ?hm ?hbm ?dT rfl PA.sci_InvalidStand (Or.inl rfl) (Or.inl rfl) (fun _ _ _ _ _ _ _ us its h1 h2 => match us, its, h1, h2 with | [_, _], [_], _, _ => ⟨_, rfl, rfl⟩) KX G; (case aC => k_is); (case xL => k_is); (case sa => k_is); (case ga => k_is); (case gg => k_is); (case nb => k_is); (case a1 => k_is); (case t1 => k_is); (case l1 => k_is); (case c1 => k_is); (case k1 => k_is); (case lT => k_is); (case kC => k_is); (case eC => k_is); (case tC => k_is); (case hC => k_is); (case ha => k_is); (case hn => k_is); (case ht => k_is); (case hm => k_is); (case hbm => decide +kernel); (case dT => rfl))
    (case E_InvalidLine => refine' PA.err_mk (st := PA.si_InvalidLine) (qual := "InvalidLine.__init__") ?aC ?xL ?sa ?ga ?gg ?nb ?a1 ?t1 ?l1 ?c1 ?k1 ?lT ?kC ?eC ?tC ?hC ?ha ?hn ?ht ?hm ?hbm ?dT rfl PA.sci_InvalidLine (Or.inl rfl) (Or.inl rfl) (fun _ _ _ _ _ _ _ us its h1 h2 => match us, its, h1, h2 with | [_, _], [_], _, _ => ⟨_, rfl, rfl⟩) KX G; (case aC => k_is); (case xL => k_is); (case sa => k_is); (case ga => k_is); (case gg => k_is); (case nb => k_is); (case a1 => k_is); (case t1 => k_is); (case l1 => k_is); (case c1 => k_is); (case k1 => k_is); (case lT => k_is); (case kC => k_is); (case eC => k_is); (case tC => k_is); (case hC => k_is); (case ha => k_is); (case hn => k_is); (case ht => k_is); (case hm => k_is); (case hbm => decide +kernel); (case dT => rfl))
    (case E_NotWritten => refine' PA.err_mk (st := PA.si_NotWritten) (qual := "NotWritten.__init__") ?aC ?xL ?sa ?ga ?gg ?nb ?a1 ?t1 ?l1 ?c1 ?k1 ?lT ?kC ?eC ?tC ?hC ?ha ?hn ?ht ?hm ?hbm ?dT rfl PA.sci_NotWritten (Or.inl rfl) (Or.inl rfl) (fun _ _ _ _ _ _ _ us its h1 h2 => match us, its, h1, h2 with | [_, _], [_], _, _ => ⟨_, rfl, rfl⟩) KX G; (case aC => k_is); (case xL => k_is); (case sa => k_is); (case ga => k_is); (case gg => k_is); (case nb => k_is); (case a1 => k_is); (case t1 => k_is); (case l1 => k_is); (case c1 => k_is); (case k1 => k_is); (case lT => k_is); (case kC => k_is); (case eC => k_is); (case tC => k_is); (case hC => k_is); (case ha => k_is); (case hn => k_is); (case ht => k_is); (case hm => k_is); (case hbm => decide +kernel); (case dT => rfl))
    (case i_InvalidPage => k_is)
    (case t_InvalidPage => k_is)
    (case i_InvalidBook => k_is)
    (case t_InvalidBook => k_is)
    (case i_InvalidText => k_is)
    (case t_InvalidText => k_is)
    (case i_InvalidCells => k_is)
    (case t_InvalidCells => k_is)
    (case i_InvalidWidth => k_is)
    (case t_InvalidWidth => k_is)
    (case i_InvalidCount => k_is)
    (case t_InvalidCount => k_is)
    (case i_InvalidKey => k_is)
    (case t_InvalidKey => k_is)
    (case i_InvalidMarks => k_is)
    (case t_InvalidMarks => k_is)
    (case i_InvalidStand => k_is)
    (case t_InvalidStand => k_is)
    (case i_InvalidPlace => k_is)
    (case t_InvalidPlace => k_is)
    (case i_InvalidLine => k_is)
    (case t_InvalidLine => k_is)
    (case i_InvalidNumber => k_is)
    (case t_InvalidNumber => k_is)
    (case i_NotWritten => k_is)
    (case t_NotWritten => k_is)
    (case i_ReadingError => k_is)
    (case t_ReadingError => k_is)
    (case bR => k_is)
    (case s_InvalidBook_InvalidPage => k_is)
    (case n_InvalidBook_InvalidPage => rfl)
    (case s_InvalidBook_InvalidText => k_is)
    (case n_InvalidBook_InvalidText => rfl)
    (case s_InvalidBook_InvalidCells => k_is)
    (case n_InvalidBook_InvalidCells => rfl)
    (case s_InvalidBook_InvalidWidth => k_is)
    (case n_InvalidBook_InvalidWidth => rfl)
    (case s_InvalidBook_InvalidCount => k_is)
    (case n_InvalidBook_InvalidCount => rfl)
    (case s_InvalidBook_InvalidKey => k_is)
    (case n_InvalidBook_InvalidKey => rfl)
    (case s_InvalidBook_InvalidMarks => k_is)
    (case n_InvalidBook_InvalidMarks => rfl)
    (case s_InvalidBook_InvalidStand => k_is)
    (case n_InvalidBook_InvalidStand => rfl)
    (case s_InvalidBook_InvalidPlace => k_is)
    (case n_InvalidBook_InvalidPlace => rfl)
    (case s_InvalidBook_InvalidLine => k_is)
    (case n_InvalidBook_InvalidLine => rfl)
    (case s_InvalidBook_InvalidNumber => k_is)
    (case n_InvalidBook_InvalidNumber => rfl)
    (case s_InvalidBook_NotWritten => k_is)
    (case n_InvalidBook_NotWritten => rfl)
    (case v_InvalidBook => k_is)
    (case r_InvalidBook => k_is)
    (case s_InvalidText_InvalidPage => k_is)
    (case n_InvalidText_InvalidPage => rfl)
    (case s_InvalidText_InvalidBook => k_is)
    (case n_InvalidText_InvalidBook => rfl)
    (case s_InvalidText_InvalidCells => k_is)
    (case n_InvalidText_InvalidCells => rfl)
    (case s_InvalidText_InvalidWidth => k_is)
    (case n_InvalidText_InvalidWidth => rfl)
    (case s_InvalidText_InvalidCount => k_is)
    (case n_InvalidText_InvalidCount => rfl)
    (case s_InvalidText_InvalidKey => k_is)
    (case n_InvalidText_InvalidKey => rfl)
    (case s_InvalidText_InvalidMarks => k_is)
    (case n_InvalidText_InvalidMarks => rfl)
    (case s_InvalidText_InvalidStand => k_is)
    (case n_InvalidText_InvalidStand => rfl)
    (case s_InvalidText_InvalidPlace => k_is)
    (case n_InvalidText_InvalidPlace => rfl)
    (case s_InvalidText_InvalidLine => k_is)
    (case n_InvalidText_InvalidLine => rfl)
    (case s_InvalidText_InvalidNumber => k_is)
    (case n_InvalidText_InvalidNumber => rfl)
    (case s_InvalidText_NotWritten => k_is)
    (case n_InvalidText_NotWritten => rfl)
    (case v_InvalidText => k_is)
    (case r_InvalidText => k_is)
    (case s_InvalidCount_InvalidPage => k_is)
    (case n_InvalidCount_InvalidPage => rfl)
    (case s_InvalidCount_InvalidBook => k_is)
    (case n_InvalidCount_InvalidBook => rfl)
    (case s_InvalidCount_InvalidText => k_is)
    (case n_InvalidCount_InvalidText => rfl)
    (case s_InvalidCount_InvalidCells => k_is)
    (case n_InvalidCount_InvalidCells => rfl)
    (case s_InvalidCount_InvalidWidth => k_is)
    (case n_InvalidCount_InvalidWidth => rfl)
    (case s_InvalidCount_InvalidKey => k_is)
    (case n_InvalidCount_InvalidKey => rfl)
    (case s_InvalidCount_InvalidMarks => k_is)
    (case n_InvalidCount_InvalidMarks => rfl)
    (case s_InvalidCount_InvalidStand => k_is)
    (case n_InvalidCount_InvalidStand => rfl)
    (case s_InvalidCount_InvalidPlace => k_is)
    (case n_InvalidCount_InvalidPlace => rfl)
    (case s_InvalidCount_InvalidLine => k_is)
    (case n_InvalidCount_InvalidLine => rfl)
    (case s_InvalidCount_InvalidNumber => k_is)
    (case n_InvalidCount_InvalidNumber => rfl)
    (case s_InvalidCount_NotWritten => k_is)
    (case n_InvalidCount_NotWritten => rfl)
    (case v_InvalidCount => k_is)
    (case r_InvalidCount => k_is)
    (case s_InvalidWidth_InvalidPage => k_is)
    (case n_InvalidWidth_InvalidPage => rfl)
    (case s_InvalidWidth_InvalidBook => k_is)
    (case n_InvalidWidth_InvalidBook => rfl)
    (case s_InvalidWidth_InvalidText => k_is)
    (case n_InvalidWidth_InvalidText => rfl)
    (case s_InvalidWidth_InvalidCells => k_is)
    (case n_InvalidWidth_InvalidCells => rfl)
    (case s_InvalidWidth_InvalidCount => k_is)
    (case n_InvalidWidth_InvalidCount => rfl)
    (case s_InvalidWidth_InvalidKey => k_is)
    (case n_InvalidWidth_InvalidKey => rfl)
    (case s_InvalidWidth_InvalidMarks => k_is)
    (case n_InvalidWidth_InvalidMarks => rfl)
    (case s_InvalidWidth_InvalidStand => k_is)
    (case n_InvalidWidth_InvalidStand => rfl)
    (case s_InvalidWidth_InvalidPlace => k_is)
    (case n_InvalidWidth_InvalidPlace => rfl)
    (case s_InvalidWidth_InvalidLine => k_is)
    (case n_InvalidWidth_InvalidLine => rfl)
    (case s_InvalidWidth_InvalidNumber => k_is)
    (case n_InvalidWidth_InvalidNumber => rfl)
    (case s_InvalidWidth_NotWritten => k_is)
    (case n_InvalidWidth_NotWritten => rfl)
    (case v_InvalidWidth => k_is)
    (case r_InvalidWidth => k_is)
    (case s_InvalidMarks_InvalidPage => k_is)
    (case n_InvalidMarks_InvalidPage => rfl)
    (case s_InvalidMarks_InvalidBook => k_is)
    (case n_InvalidMarks_InvalidBook => rfl)
    (case s_InvalidMarks_InvalidText => k_is)
    (case n_InvalidMarks_InvalidText => rfl)
    (case s_InvalidMarks_InvalidCells => k_is)
    (case n_InvalidMarks_InvalidCells => rfl)
    (case s_InvalidMarks_InvalidWidth => k_is)
    (case n_InvalidMarks_InvalidWidth => rfl)
    (case s_InvalidMarks_InvalidCount => k_is)
    (case n_InvalidMarks_InvalidCount => rfl)
    (case s_InvalidMarks_InvalidKey => k_is)
    (case n_InvalidMarks_InvalidKey => rfl)
    (case s_InvalidMarks_InvalidStand => k_is)
    (case n_InvalidMarks_InvalidStand => rfl)
    (case s_InvalidMarks_InvalidPlace => k_is)
    (case n_InvalidMarks_InvalidPlace => rfl)
    (case s_InvalidMarks_InvalidLine => k_is)
    (case n_InvalidMarks_InvalidLine => rfl)
    (case s_InvalidMarks_InvalidNumber => k_is)
    (case n_InvalidMarks_InvalidNumber => rfl)
    (case s_InvalidMarks_NotWritten => k_is)
    (case n_InvalidMarks_NotWritten => rfl)
    (case v_InvalidMarks => k_is)
    (case r_InvalidMarks => k_is)
    (case a_NOTHING => k_is)
    (case a_CONDITIONS => k_is)
    (case l_CONDITIONS => k_is)
    (case y_CONDITIONS => rfl)
    (case j_CONDITIONS => rfl)
    (case w_CONDITIONS => exact Nat.le_of_ble_eq_true rfl)
    (case q_CONDITIONS => exact .cons ⟨_, rfl⟩ (.cons ⟨_, rfl⟩ (.cons ⟨_, rfl⟩ (.cons ⟨_, rfl⟩ (.cons ⟨_, rfl⟩ (.cons ⟨_, rfl⟩ (.cons ⟨_, rfl⟩ (.cons ⟨_, rfl⟩ (.nil)))))))))
    (case a_STRANGE => k_is)

