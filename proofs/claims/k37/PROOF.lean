import PyProof.Rows.All
import Wide.All
import OpenK.AllK
import Wide.FinOn
import HandS.ForMost
import HandS.Exc
import HandS.TryOnly
import HandS.ExcOwn
import HandS.WordsExc
import HandS.ExcInit
import HandS.CallLocal
import HandS.Defaults
import HandS.IsInst
import HandS.Zip
import HandS.ExcField
import KE.KExcIs
import HandS.Style
import HandS.TupAny
import HandS.Wide
import HandS.WideBits
import HandS.StrMore
import HandS.WordsDict
import HandS.DictComp
import HandS.Replace
import HandS.SetFor
import HandS.SortInts
import PyProof.Rows.RuleB_pow
import HandS.Codes
import HandS.Ends
import HandS.Text
import PyProof.AutoSeq1
import PyProof.SumWalkG
import PyProof.Rows.SeqMore
import HandS.Conv
import KE.DataCmp
import PySem.Challenge.RW_heardandfelt_k37_whole_long_talks
set_option Elab.async false
set_option linter.all false
set_option maxRecDepth 100000
set_option maxHeartbeats 2000000
/-! PbBase: data without a heap, states of data, and what readings do to them. -/
namespace PA
open PySem L2

/-- Python data: a value, a list, a list that is read alone, a tuple, a dict, an error with its value; own k: the k-th open list -/
inductive D where
  | v (x : V)
  | lst (l : List D)
  | rd (l : List D)
  | tup (l : List D)
  | dic (ks : List Key) (l : List D)
  | exc (c : Addr) (d : D)
  | own (k : Nat)

abbrev D.int (i : Int) : D := .v (.int i)
abbrev D.bl (b : Bool) : D := .v (.bl b)
abbrev D.str (s : Str) : D := .v (.str s)
abbrev D.non : D := .v .non

/-- heaps: the one stands within the other -/
def Ex (H H' : Hp) : Prop := ∀ a o, H a = some o → H' a = some o
theorem Ex.refl (H : Hp) : Ex H H := fun _ _ h => h
theorem Ex.trans {H H1 H2 : Hp} (a : Ex H H1) (b : Ex H1 H2) : Ex H H2 := fun x o h => b x o (a x o h)
theorem Ex.new {H : Hp} {p : Addr} {o : HO} (h : H p = none) : Ex H (upd H p o) := fun a u e => by
  rw [upd_ne (ne_of_none e h)]
  exact e
theorem Ex.both {G H : Hp} {p : Addr} {o : HO} (e : Ex G H) : Ex (upd G p o) (upd H p o) := fun a u h => by
  by_cases q : a = p
  · subst q
    rw [upd_same] at h ⊢
    exact h
  · rw [upd_ne q] at h ⊢
    exact e a u h
theorem Ex.side {G H : Hp} {p : Addr} {o : HO} (e : Ex G H) (h : G p = none) : Ex G (upd H p o) := fun a u q => by
  rw [upd_ne (ne_of_none q h)]
  exact e a u q
theorem Ex.free {G H : Hp} {p : Addr} (e : Ex G H) (h : H p = none) : G p = none := by
  cases q : G p with
  | none => rfl
  | some o =>
    rw [e p o q] at h
    cases h
theorem ex_rd {H H' : Hp} {a : Addr} {u : HO} (e : Ex H H') (h : Rd H a u) : Rd H' a u := by
  rcases h with h | ⟨o, h⟩
  · exact .inl (e a _ h)
  · exact .inr ⟨o, e a _ h⟩
theorem ex_l {K : PySem.W.Frag} {H H' : Hp} {a : Addr} {xs : List V} (e : Ex H H') (h : SqL K H a xs) : SqL K H' a xs := by
  rcases h with h | h
  · exact .inl (ex_rd e h)
  · exact .inr h
theorem ex_t {K : PySem.W.Frag} {H H' : Hp} {a : Addr} {xs : List V} (e : Ex H H') (h : SqT K H a xs) : SqT K H' a xs := by
  rcases h with h | h
  · exact .inl (ex_rd e h)
  · exact .inr h

/-! ### an error that is kept -/
/-- at e: an error of the class at C with its own dict at dx -/
def exq (e C dx : Addr) : HO := .ext fun h => ∃ (oe : Obj) (vs : Array Value), h.get? e = some oe ∧ oe.cls = .ref C ∧ oe.dict = some dx ∧ oe.data = .fields vs
/-- a tuple of ours, or one of the text's own -/
def TpK (K : PySem.W.Frag) (G : Hp) (a : Addr) (xs : List V) : Prop :=
  G a = some (.tup xs) ∨ ∃ (o : Obj) (its : Array Value) (n : Nat), K.lookup a = some o ∧ o.cls = .type "tuple" ∧ o.data = .seq its n ∧ its.size ≤ sizeLine ∧ Vals xs its.toList
theorem TpK.sq {K : PySem.W.Frag} {G : Hp} {a : Addr} {xs : List V} (h : TpK K G a xs) : SqT K G a xs := by
  rcases h with h | h
  · exact .inl (.inl h)
  · exact .inr h
theorem TpK.mono {K : PySem.W.Frag} {G G' : Hp} {a : Addr} {xs : List V} (e : Ex G G') (h : TpK K G a xs) : TpK K G' a xs := by
  rcases h with h | h
  · exact .inl (e _ _ h)
  · exact .inr h
/-! ### which value bears which data; A: where the open lists stand -/
mutual
inductive Rp (K : PySem.W.Frag) (A : List Addr) (G : Hp) : D → V → Prop
  | v (x : V) : Rp K A G (.v x) x
  | own {k : Nat} {a : Addr} : A[k]? = some a → Rp K A G (.own k) (.ref a)
  | lst {l : List D} {a : Addr} {xs : List V} : G a = some (.lst xs) → RpL K A G l xs → Rp K A G (.lst l) (.ref a)
  | rd {l : List D} {a : Addr} {xs : List V} : SqL K G a xs → RpL K A G l xs → Rp K A G (.rd l) (.ref a)
  | tup {l : List D} {a : Addr} {xs : List V} : TpK K G a xs → RpL K A G l xs → Rp K A G (.tup l) (.ref a)
  | dic {ks : List Key} {l : List D} {a : Addr} {xs : List V} : ks.length = xs.length → G a = some (.dK (ks.zip xs)) → RpL K A G l xs → Rp K A G (.dic ks l) (.ref a)
  | exc {c a dx : Addr} {d : D} {u : V} : G a = some (exq a c dx) → G dx = some (exd dx [(("value" : Str), u)]) → Rp K A G d u → Rp K A G (.exc c d) (.ref a)
inductive RpL (K : PySem.W.Frag) (A : List Addr) (G : Hp) : List D → List V → Prop
  | nil : RpL K A G [] []
  | cons {d : D} {v : V} {l : List D} {xs : List V} : Rp K A G d v → RpL K A G l xs → RpL K A G (d :: l) (v :: xs)
end
/-! all handles in it suit p -/
mutual
def D.hs (p : Nat → Bool) : D → Bool
  | .v _ => true
  | .own k => p k
  | .lst l => D.hsL p l
  | .rd l => D.hsL p l
  | .tup l => D.hsL p l
  | .dic _ l => D.hsL p l
  | .exc _ d => D.hs p d
def D.hsL (p : Nat → Bool) : List D → Bool
  | [] => true
  | d :: l => D.hs p d && D.hsL p l
end
/-- all handles are below n -/
abbrev D.lt (n : Nat) (d : D) : Bool := D.hs (fun k => decide (k < n)) d
abbrev D.ltL (n : Nat) (l : List D) : Bool := D.hsL (fun k => decide (k < n)) l
/-! handles moved -/
mutual
def D.ren (f : Nat → Nat) : D → D
  | .v x => .v x
  | .own k => .own (f k)
  | .lst l => .lst (D.renL f l)
  | .rd l => .rd (D.renL f l)
  | .tup l => .tup (D.renL f l)
  | .dic ks l => .dic ks (D.renL f l)
  | .exc c d => .exc c (D.ren f d)
def D.renL (f : Nat → Nat) : List D → List D
  | [] => []
  | d :: l => D.ren f d :: D.renL f l
end
/-! the open list k read as l -/
mutual
def D.sub (g : Nat → Option (List D)) : D → D
  | .v x => .v x
  | .own k => match g k with
    | some l => .lst l
    | none => .own k
  | .lst l => .lst (D.subL g l)
  | .rd l => .rd (D.subL g l)
  | .tup l => .tup (D.subL g l)
  | .dic ks l => .dic ks (D.subL g l)
  | .exc c d => .exc c (D.sub g d)
def D.subL (g : Nat → Option (List D)) : List D → List D
  | [] => []
  | d :: l => D.sub g d :: D.subL g l
end
section
variable {K : PySem.W.Frag} {G G' : Hp} {A B A' : List Addr}
theorem getE {A B : List Addr} {k : Nat} {a : Addr} (h : A[k]? = some a) : (A ++ B)[k]? = some a := by
  rw [List.getElem?_append_left (List.getElem?_eq_some_iff.mp h).1]
  exact h
mutual
theorem Rp.mono (e : Ex G G') : ∀ {d : D} {x : V}, Rp K A G d x → Rp K (A ++ B) G' d x
  | _, _, .v x => .v x
  | _, _, .own h => .own (getE h)
  | _, _, .lst h r => .lst (e _ _ h) (RpL.mono e r)
  | _, _, .rd h r => .rd (ex_l e h) (RpL.mono e r)
  | _, _, .tup h r => .tup (h.mono e) (RpL.mono e r)
  | _, _, .dic n h r => .dic n (e _ _ h) (RpL.mono e r)
  | _, _, .exc h1 h2 r => .exc (e _ _ h1) (e _ _ h2) (Rp.mono e r)
theorem RpL.mono (e : Ex G G') : ∀ {l : List D} {xs : List V}, RpL K A G l xs → RpL K (A ++ B) G' l xs
  | _, _, .nil => .nil
  | _, _, .cons h r => .cons (Rp.mono e h) (RpL.mono e r)
end
theorem Rp.mono0 (e : Ex G G') {d : D} {x : V} (h : Rp K A G d x) : Rp K A G' d x := by
  have q := Rp.mono (B := []) e h
  rw [List.append_nil] at q
  exact q
theorem RpL.mono0 (e : Ex G G') {d : List D} {x : List V} (h : RpL K A G d x) : RpL K A G' d x := by
  have q := RpL.mono (B := []) e h
  rw [List.append_nil] at q
  exact q
/-! other addresses of the open lists, the same where it matters -/
mutual
theorem Rp.ren {f : Nat → Nat} {p : Nat → Bool} (hf : ∀ k a, p k = true → A[k]? = some a → A'[f k]? = some a) : ∀ {d : D} {x : V}, Rp K A G d x → d.hs p = true → Rp K A' G (d.ren f) x
  | _, _, .v x, _ => .v x
  | _, _, .own h, hl => .own (hf _ _ hl h)
  | _, _, .lst h r, hl => .lst h (RpL.ren hf r hl)
  | _, _, .rd h r, hl => .rd h (RpL.ren hf r hl)
  | _, _, .tup h r, hl => .tup h (RpL.ren hf r hl)
  | _, _, .dic n h r, hl => .dic (n.trans rfl) h (RpL.ren hf r hl)
  | _, _, .exc h1 h2 r, hl => .exc h1 h2 (Rp.ren hf r hl)
theorem RpL.ren {f : Nat → Nat} {p : Nat → Bool} (hf : ∀ k a, p k = true → A[k]? = some a → A'[f k]? = some a) : ∀ {l : List D} {xs : List V}, RpL K A G l xs → D.hsL p l = true → RpL K A' G (D.renL f l) xs
  | _, _, .nil, _ => .nil
  | _, _, .cons (d := d) (l := l) h r, hl => by
    have hl : (D.hs p d && D.hsL p l) = true := hl
    rw [Bool.and_eq_true] at hl
    exact .cons (Rp.ren hf h hl.1) (RpL.ren hf r hl.2)
end
mutual
theorem D.ren_id {f : Nat → Nat} {p : Nat → Bool} (hf : ∀ k, p k = true → f k = k) : ∀ {d : D}, d.hs p = true → d.ren f = d
  | .v _, _ => rfl
  | .own k, h => congrArg D.own (hf k h)
  | .lst l, h => congrArg D.lst (D.renL_id hf h)
  | .rd l, h => congrArg D.rd (D.renL_id hf h)
  | .tup l, h => congrArg D.tup (D.renL_id hf h)
  | .dic ks l, h => congrArg (D.dic ks) (D.renL_id hf h)
  | .exc c d, h => congrArg (D.exc c) (D.ren_id hf h)
theorem D.renL_id {f : Nat → Nat} {p : Nat → Bool} (hf : ∀ k, p k = true → f k = k) : ∀ {l : List D}, D.hsL p l = true → D.renL f l = l
  | [], _ => rfl
  | d :: l, h => by
    have h : (D.hs p d && D.hsL p l) = true := h
    rw [Bool.and_eq_true] at h
    show D.ren f d :: D.renL f l = d :: l
    rw [D.ren_id hf h.1, D.renL_id hf h.2]
end
theorem Rp.keepP {p : Nat → Bool} (hf : ∀ k a, p k = true → A[k]? = some a → A'[k]? = some a) {d : D} {x : V} (h : Rp K A G d x) (hl : d.hs p = true) : Rp K A' G d x := by
  have q := Rp.ren (f := fun k => k) hf h hl
  rw [D.ren_id (fun _ _ => rfl) hl] at q
  exact q
theorem RpL.keepP {p : Nat → Bool} (hf : ∀ k a, p k = true → A[k]? = some a → A'[k]? = some a) {d : List D} {x : List V} (h : RpL K A G d x) (hl : D.hsL p d = true) : RpL K A' G d x := by
  have q := RpL.ren (f := fun k => k) hf h hl
  rw [D.renL_id (fun _ _ => rfl) hl] at q
  exact q
theorem Rp.keep {n : Nat} (hf : ∀ k a, k < n → A[k]? = some a → A'[k]? = some a) {d : D} {x : V} (h : Rp K A G d x) (hl : d.lt n = true) : Rp K A' G d x := h.keepP (fun k a z => hf k a (of_decide_eq_true z)) hl
theorem RpL.keep {n : Nat} (hf : ∀ k a, k < n → A[k]? = some a → A'[k]? = some a) {d : List D} {x : List V} (h : RpL K A G d x) (hl : D.ltL n d = true) : RpL K A' G d x := h.keepP (fun k a z => hf k a (of_decide_eq_true z)) hl
/-- without handles: anywhere -/
theorem Rp.cl {d : D} {x : V} (h : Rp K A G d x) (hl : d.lt 0 = true) : Rp K A' G d x := h.keep (fun k a z => absurd z (Nat.not_lt_zero k)) hl
theorem RpL.cl {d : List D} {x : List V} (h : RpL K A G d x) (hl : D.ltL 0 d = true) : RpL K A' G d x := h.keep (fun k a z => absurd z (Nat.not_lt_zero k)) hl
mutual
theorem D.hs_mono {p q : Nat → Bool} (hp : ∀ k, p k = true → q k = true) : ∀ {d : D}, d.hs p = true → d.hs q = true
  | .v _, _ => rfl
  | .own k, h => hp k h
  | .lst l, h => D.hsL_mono (l := l) hp h
  | .rd l, h => D.hsL_mono (l := l) hp h
  | .tup l, h => D.hsL_mono (l := l) hp h
  | .dic ks l, h => D.hsL_mono (l := l) hp h
  | .exc c d, h => D.hs_mono (d := d) hp h
theorem D.hsL_mono {p q : Nat → Bool} (hp : ∀ k, p k = true → q k = true) : ∀ {l : List D}, D.hsL p l = true → D.hsL q l = true
  | [], _ => rfl
  | d :: l, h => by
    have h : (D.hs p d && D.hsL p l) = true := h
    rw [Bool.and_eq_true] at h
    show (D.hs q d && D.hsL q l) = true
    rw [D.hs_mono hp h.1, D.hsL_mono hp h.2]
    rfl
end
theorem D.lt_mono {n m : Nat} (hm : n ≤ m) {d : D} (h : d.lt n = true) : d.lt m = true := D.hs_mono (fun k z => decide_eq_true (Nat.lt_of_lt_of_le (of_decide_eq_true z) hm)) h
theorem D.ltL_mono {n m : Nat} (hm : n ≤ m) {l : List D} (h : D.ltL n l = true) : D.ltL m l = true := D.hsL_mono (fun k z => decide_eq_true (Nat.lt_of_lt_of_le (of_decide_eq_true z) hm)) h
theorem D.hsL_all {p : Nat → Bool} : ∀ {l : List D}, D.hsL p l = true ↔ ∀ d ∈ l, d.hs p = true
  | [] => ⟨fun _ d h => (by cases h), fun _ => rfl⟩
  | d :: l => by
    show (D.hs p d && D.hsL p l) = true ↔ _
    rw [Bool.and_eq_true, D.hsL_all (l := l)]
    constructor
    · rintro ⟨h1, h2⟩ x hx
      rcases List.mem_cons.mp hx with rfl | hx
      · exact h1
      · exact h2 x hx
    · intro h
      exact ⟨h d List.mem_cons_self, fun x hx => h x (List.mem_cons_of_mem _ hx)⟩
theorem D.ltL_all {n : Nat} {l : List D} : D.ltL n l = true ↔ ∀ d ∈ l, d.lt n = true := D.hsL_all
/-! some open lists read as they stand -/
mutual
theorem Rp.sub {g : Nat → Option (List D)} (e : Ex G G') (hg : ∀ k a l, A[k]? = some a → g k = some l → ∃ xs, G' a = some (.lst xs) ∧ RpL K A G' l xs) : ∀ {d : D} {x : V}, Rp K A G d x → Rp K A G' (d.sub g) x
  | _, _, .v x => .v x
  | _, _, .own (k := k) h => by
    show Rp K A G' (match g k with | some l => .lst l | none => .own k) _
    cases q : g k with
    | none => exact .own h
    | some l =>
      obtain ⟨xs, h1, h2⟩ := hg k _ l h q
      exact .lst h1 h2
  | _, _, .lst h r => .lst (e _ _ h) (RpL.sub e hg r)
  | _, _, .rd h r => .rd (ex_l e h) (RpL.sub e hg r)
  | _, _, .tup h r => .tup (h.mono e) (RpL.sub e hg r)
  | _, _, .dic n h r => .dic n (e _ _ h) (RpL.sub e hg r)
  | _, _, .exc h1 h2 r => .exc (e _ _ h1) (e _ _ h2) (Rp.sub e hg r)
theorem RpL.sub {g : Nat → Option (List D)} (e : Ex G G') (hg : ∀ k a l, A[k]? = some a → g k = some l → ∃ xs, G' a = some (.lst xs) ∧ RpL K A G' l xs) : ∀ {l : List D} {xs : List V}, RpL K A G l xs → RpL K A G' (D.subL g l) xs
  | _, _, .nil => .nil
  | _, _, .cons h r => .cons (Rp.sub e hg h) (RpL.sub e hg r)
end
theorem RpL.len : ∀ {l : List D} {xs : List V}, RpL K A G l xs → l.length = xs.length
  | _, _, .nil => rfl
  | _, _, .cons _ r => congrArg Nat.succ (RpL.len r)
theorem RpL.get : ∀ {l : List D} {xs : List V} {i : Nat} {d : D}, RpL K A G l xs → l[i]? = some d → ∃ x, xs[i]? = some x ∧ Rp K A G d x
  | _, _, _, _, .nil, e => by simp at e
  | _, _, 0, _, .cons h _, e => by simp at e; subst e; exact ⟨_, rfl, h⟩
  | _, _, i + 1, d, .cons _ r, e => by
    obtain ⟨x, h1, h2⟩ := RpL.get (i := i) (d := d) r (by simpa using e)
    exact ⟨x, by simpa using h1, h2⟩
theorem RpL.got : ∀ {l : List D} {xs : List V} {i : Nat} {x : V}, RpL K A G l xs → xs[i]? = some x → ∃ d, l[i]? = some d ∧ Rp K A G d x
  | _, _, _, _, .nil, e => by simp at e
  | _, _, 0, _, .cons h _, e => by simp at e; subst e; exact ⟨_, rfl, h⟩
  | _, _, i + 1, x, .cons _ r, e => by
    obtain ⟨d, h1, h2⟩ := RpL.got (i := i) (x := x) r (by simpa using e)
    exact ⟨d, by simpa using h1, h2⟩
theorem RpL.append : ∀ {l m : List D} {xs ys : List V}, RpL K A G l xs → RpL K A G m ys → RpL K A G (l ++ m) (xs ++ ys)
  | _, _, _, _, .nil, s => s
  | _, _, _, _, .cons h r, s => .cons h (RpL.append r s)
theorem RpL.set {d : D} {x : V} (h : Rp K A G d x) : ∀ {l : List D} {xs : List V} (i : Nat), RpL K A G l xs → RpL K A G (l.set i d) (xs.set i x)
  | _, _, _, .nil => .nil
  | _, _, 0, .cons _ r => .cons h r
  | _, _, i + 1, .cons q r => .cons q (RpL.set h i r)
theorem RpL.drop : ∀ {l : List D} {xs : List V} (n : Nat), RpL K A G l xs → RpL K A G (l.drop n) (xs.drop n)
  | _, _, 0, r => r
  | _, _, _ + 1, .nil => .nil
  | _, _, n + 1, .cons _ r => RpL.drop n r
theorem RpL.take : ∀ {l : List D} {xs : List V} (n : Nat), RpL K A G l xs → RpL K A G (l.take n) (xs.take n)
  | _, _, 0, _ => .nil
  | _, _, _ + 1, .nil => .nil
  | _, _, n + 1, .cons h r => .cons h (RpL.take n r)
theorem RpL.reverse {l : List D} {xs : List V} (r : RpL K A G l xs) : RpL K A G l.reverse xs.reverse := by
  have key : ∀ {l m : List D} {xs ys : List V}, RpL K A G l xs → RpL K A G m ys → RpL K A G (l.reverseAux m) (xs.reverseAux ys) := by
    intro l
    induction l with
    | nil =>
      intro m xs ys h s
      cases h
      exact s
    | cons d l ih =>
      intro m xs ys h s
      cases h with
      | cons h r =>
        have q := ih r (RpL.cons h s)
        exact q
  exact key r .nil
/-- values themselves -/
theorem RpL.vals : ∀ (xs : List V), RpL K A G (xs.map D.v) xs
  | [] => .nil
  | x :: xs => .cons (.v x) (RpL.vals xs)
theorem RpL.of_vals : ∀ {ys xs : List V}, RpL K A G (ys.map D.v) xs → xs = ys
  | [], _, h => by cases h; rfl
  | y :: ys, _, h => by
    cases h with
    | cons h r =>
      cases h
      rw [RpL.of_vals r]
theorem Rp.vOf {x u : V} (h : Rp K A G (.v x) u) : u = x := by cases h; rfl
end

/-! ### states -/
/-- a dict's keys; an instance of the class at c with its own dict at dx: the names of its attributes -/
inductive Tg where
  | dk (ks : List Key)
  | ins (c dx : Addr) (ns : List Str)
def Tg.len : Tg → Nat
  | .dk ks => ks.length
  | .ins _ _ ns => ns.length
def Tg.ho : Tg → List V → HO
  | .dk ks, xs => .dK (ks.zip xs)
  | .ins c dx ns, xs => .ins c dx (ns.zip xs)
/-- an open list; one that is shut -/
inductive Cell where
  | lst (l : List D)
  | gen (t : Tg) (l : List D)
  | off
abbrev Cell.dic (ks : List Key) (l : List D) : Cell := .gen (.dk ks) l
abbrev Cell.obj (c dx : Addr) (ns : List Str) (l : List D) : Cell := .gen (.ins c dx ns) l
def CellAt (K : PySem.W.Frag) (A : List Addr) (G H : Hp) (a : Addr) : Cell → Prop
  | .lst l => G a = none ∧ ∃ xs, H a = some (.lst xs) ∧ RpL K A G l xs
  | .gen t l => G a = none ∧ ∃ xs, t.len = xs.length ∧ H a = some (t.ho xs) ∧ RpL K A G l xs
  | .off => True
abbrev Sl := List (Option D)
/-- the slots -/
inductive En (K : PySem.W.Frag) (A : List Addr) (G : Hp) : Sl → St → Prop
  | nil : En K A G [] []
  | skip {δ : Sl} {σ : St} {o : Option V} : En K A G δ σ → En K A G (none :: δ) (o :: σ)
  | cons {δ : Sl} {σ : St} {d : D} {v : V} : Rp K A G d v → En K A G δ σ → En K A G (some d :: δ) (some v :: σ)
/-- where a def began -/
structure Bs where
  A : List Addr
  G : Hp
  H : Hp
structure Mem (K : PySem.W.Frag) (S : Bs) (A : List Addr) (G H : Hp) (μ : List Cell) : Prop where
  ex : Ex G H
  exG : Ex S.G G
  pre : ∃ B, A = S.A ++ B ∧ ∀ b ∈ B, S.H b = none
  new : ∀ p, G p ≠ none → S.G p ≠ none ∨ S.H p = none
  keep : ∀ a o, a ∉ S.A → S.H a = some o → H a = some o
  cel : ∀ (k : Nat) (a : Addr) (c : Cell), A[k]? = some a → μ[k]? = some c → CellAt K A G H a c
  len : A.length = μ.length
  nd : A.Nodup
  al : ∀ a ∈ A, H a ≠ none
structure At (K : PySem.W.Frag) (S : Bs) (A : List Addr) (G H : Hp) (σ : St) (δ : Sl) (μ : List Cell) : Prop where
  m : Mem K S A G H μ
  env : En K A G δ σ
section
variable {K : PySem.W.Frag} {S : Bs} {A B : List Addr} {G G' H H' : Hp} {σ : St} {δ : Sl} {μ : List Cell}
theorem En.mono (e : Ex G G') : ∀ {δ : Sl} {σ : St}, En K A G δ σ → En K (A ++ B) G' δ σ
  | _, _, .nil => .nil
  | _, _, .skip r => .skip (En.mono e r)
  | _, _, .cons h r => .cons (h.mono e) (En.mono e r)
theorem En.mono0 (e : Ex G G') {δ : Sl} {σ : St} (h : En K A G δ σ) : En K A G' δ σ := by
  have q := En.mono (B := []) e h
  rw [List.append_nil] at q
  exact q
theorem En.get : ∀ {δ : Sl} {σ : St} {i : Nat} {d : D}, En K A G δ σ → δ[i]? = some (some d) → ∃ v, σ[i]? = some (some v) ∧ Rp K A G d v
  | _, _, _, _, .nil, e => by simp at e
  | _, _, 0, _, .skip _, e => by simp at e
  | _, _, 0, _, .cons h _, e => by simp at e; subst e; exact ⟨_, rfl, h⟩
  | _, _, i + 1, d, .skip r, e => by
    obtain ⟨v, h1, h2⟩ := En.get (i := i) (d := d) r (by simpa using e)
    exact ⟨v, by simpa using h1, h2⟩
  | _, _, i + 1, d, .cons _ r, e => by
    obtain ⟨v, h1, h2⟩ := En.get (i := i) (d := d) r (by simpa using e)
    exact ⟨v, by simpa using h1, h2⟩
theorem En.set {d : D} {v : V} (h : Rp K A G d v) : ∀ {δ : Sl} {σ : St} (i : Nat), En K A G δ σ → En K A G (δ.set i (some d)) (σ.set i (some v))
  | _, _, _, .nil => .nil
  | _, _, 0, .skip r => .cons h r
  | _, _, 0, .cons _ r => .cons h r
  | _, _, i + 1, .skip r => .skip (En.set h i r)
  | _, _, i + 1, .cons q r => .cons q (En.set h i r)
theorem En.unset : ∀ {δ : Sl} {σ : St} (i : Nat) (o : Option V), En K A G δ σ → En K A G (δ.set i none) (σ.set i o)
  | _, _, _, _, .nil => .nil
  | _, _, 0, _, .skip r => .skip r
  | _, _, 0, _, .cons _ r => .skip r
  | _, _, i + 1, o, .skip r => .skip (En.unset i o r)
  | _, _, i + 1, o, .cons q r => .cons q (En.unset i o r)
/-- forgetting slots -/
inductive Less : Sl → Sl → Prop
  | nil : Less [] []
  | drop {δ ε : Sl} {o : Option D} : Less δ ε → Less (o :: δ) (none :: ε)
  | keep {δ ε : Sl} {o : Option D} : Less δ ε → Less (o :: δ) (o :: ε)
theorem En.less : ∀ {δ ε : Sl} {σ : St}, En K A G δ σ → Less δ ε → En K A G ε σ
  | _, _, _, .nil, .nil => .nil
  | _, _, _, .skip r, .drop l => .skip (En.less r l)
  | _, _, _, .skip r, .keep l => .skip (En.less r l)
  | _, _, _, .cons _ r, .drop l => .skip (En.less r l)
  | _, _, _, .cons h r, .keep l => .cons h (En.less r l)
theorem Less.refl : ∀ δ : Sl, Less δ δ
  | [] => .nil
  | _ :: δ => .keep (Less.refl δ)

/-- new objects came, nothing else -/
theorem Mem.grow (m : Mem K S A G H μ) (e : Ex G' H') (eG : Ex G G') (eH : Ex H H') (n : ∀ p, G' p ≠ none → G p ≠ none ∨ H p = none) : Mem K S A G' H' μ where
  ex := e
  exG := m.exG.trans eG
  pre := m.pre
  new := fun p hp => by
    rcases n p hp with h | h
    · exact m.new p h
    · by_cases ha : p ∈ S.A
      · obtain ⟨B, hB, _⟩ := m.pre
        exact absurd h (m.al p (by rw [hB]; exact List.mem_append_left _ ha))
      · cases q : S.H p with
        | none => exact .inr rfl
        | some o =>
          rw [m.keep p o ha q] at h
          cases h
  keep := fun a o h1 h2 => eH _ _ (m.keep a o h1 h2)
  cel := fun k a c h1 h2 => by
    have q := m.cel k a c h1 h2
    cases c with
    | off => trivial
    | lst l =>
      obtain ⟨g, xs, hx, r⟩ := q
      refine ⟨?_, xs, eH _ _ hx, r.mono0 eG⟩
      cases z : G' a with
      | none => rfl
      | some o =>
        rcases n a (by rw [z]; exact fun h => nomatch h) with h | h
        · exact absurd g h
        · rw [hx] at h
          cases h
    | gen tg l =>
      obtain ⟨g, xs, hn, hx, r⟩ := q
      refine ⟨?_, xs, hn, eH _ _ hx, r.mono0 eG⟩
      cases z : G' a with
      | none => rfl
      | some o =>
        rcases n a (by rw [z]; exact fun h => nomatch h) with h | h
        · exact absurd g h
        · rw [hx] at h
          cases h
  len := m.len
  nd := m.nd
  al := fun a ha h => by
    cases q : H a with
    | none => exact m.al a ha q
    | some o =>
      rw [eH a o q] at h
      cases h
/-- a new object that is known -/
theorem Mem.laid (m : Mem K S A G H μ) {p : Addr} {o : HO} (hp : H p = none) : Mem K S A (upd G p o) (upd H p o) μ :=
  m.grow (Ex.both m.ex) (Ex.new (m.ex.free hp)) (Ex.new hp) fun q h => by
    by_cases e : q = p
    · exact .inr (by rw [e]; exact hp)
    · rw [upd_ne e] at h
      exact .inl h
/-- a new open list -/
theorem Mem.opened (m : Mem K S A G H μ) {p : Addr} {xs : List V} {l : List D} (hp : H p = none) (r : RpL K A G l xs) : Mem K S (A ++ [p]) G (upd H p (.lst xs)) (μ ++ [.lst l]) where
  ex := m.ex.side (m.ex.free hp)
  exG := m.exG
  pre := by
    obtain ⟨B, hB, hb⟩ := m.pre
    refine ⟨B ++ [p], by rw [hB, List.append_assoc], fun b h => ?_⟩
    rcases List.mem_append.mp h with h | h
    · exact hb b h
    · have e : b = p := by simpa using h
      subst e
      by_cases ha : b ∈ S.A
      · exact absurd hp (m.al b (by rw [hB]; exact List.mem_append_left _ ha))
      · cases q : S.H b with
        | none => rfl
        | some o =>
          rw [m.keep b o ha q] at hp
          cases hp
  new := m.new
  keep := fun a o h1 h2 => by
    have q := m.keep a o h1 h2
    rw [upd_ne (ne_of_none q hp)]
    exact q
  cel := fun k a c h1 h2 => by
    by_cases hk : k < A.length
    · rw [List.getElem?_append_left hk] at h1
      rw [List.getElem?_append_left (by rw [← m.len]; exact hk)] at h2
      have q := m.cel k a c h1 h2
      cases c with
      | off => trivial
      | lst l' =>
        obtain ⟨g, ys, hy, r'⟩ := q
        exact ⟨g, ys, by rw [upd_ne (ne_of_none hy hp)]; exact hy, r'.mono (Ex.refl G)⟩
      | gen tg l' =>
        obtain ⟨g, ys, hn, hy, r'⟩ := q
        exact ⟨g, ys, hn, by rw [upd_ne (ne_of_none hy hp)]; exact hy, r'.mono (Ex.refl G)⟩
    · have e1 : k = A.length := by
        have z := (List.getElem?_eq_some_iff.mp h1).1
        rw [List.length_append, List.length_singleton] at z
        omega
      subst e1
      rw [List.getElem?_append_right (Nat.le_refl _), Nat.sub_self] at h1
      rw [List.getElem?_append_right (by rw [m.len]; exact Nat.le_refl _), m.len, Nat.sub_self] at h2
      cases h1
      cases h2
      exact ⟨m.ex.free hp, xs, upd_same, r.mono (Ex.refl G)⟩
  len := by rw [List.length_append, List.length_append, m.len]; rfl
  nd := by
    refine List.nodup_append.mpr ⟨m.nd, by simp, fun a ha b hb e => ?_⟩
    have e2 : b = p := by simpa using hb
    rw [e, e2] at ha
    exact m.al p ha hp
  al := fun a ha h => by
    rcases List.mem_append.mp ha with ha | ha
    · by_cases e : a = p
      · rw [e] at ha
        exact m.al p ha hp
      · rw [upd_ne e] at h
        exact m.al a ha h
    · have e2 : a = p := by simpa using ha
      rw [e2, upd_same] at h
      cases h
/-- an open list is changed -/
theorem Mem.wrote (m : Mem K S A G H μ) {k : Nat} {a : Addr} {xs : List V} {l l' : List D} (hA : A[k]? = some a) (hc : μ[k]? = some (.lst l)) (r : RpL K A G l' xs) : Mem K S A G (upd H a (.lst xs)) (μ.set k (.lst l')) where
  ex := m.ex.side (m.cel k a _ hA hc).1
  exG := m.exG
  pre := m.pre
  new := m.new
  keep := fun b o h1 h2 => by
    by_cases e : b = a
    · subst e
      obtain ⟨B, hB, hb⟩ := m.pre
      have hm : b ∈ A := List.mem_of_getElem? hA
      rw [hB] at hm
      rcases List.mem_append.mp hm with q | q
      · exact absurd q h1
      · rw [hb b q] at h2
        cases h2
    · rw [upd_ne e]
      exact m.keep b o h1 h2
  cel := fun j b c h1 h2 => by
    by_cases e : j = k
    · subst e
      rw [hA] at h1
      cases h1
      rw [List.getElem?_set_self (List.getElem?_eq_some_iff.mp hc).1] at h2
      cases h2
      exact ⟨(m.cel j a _ hA hc).1, xs, upd_same, r⟩
    · rw [List.getElem?_set_ne (Ne.symm e)] at h2
      have q := m.cel j b c h1 h2
      cases c with
      | off => trivial
      | lst l2 =>
        obtain ⟨g, ys, hy, r'⟩ := q
        refine ⟨g, ys, ?_, r'⟩
        rw [upd_ne (fun z => ?_)]
        · exact hy
        · subst z
          obtain ⟨q1, e1⟩ := List.getElem?_eq_some_iff.mp h1
          obtain ⟨q2, e2⟩ := List.getElem?_eq_some_iff.mp hA
          exact e ((List.getElem_inj m.nd).mp (e1.trans e2.symm))
      | gen tg l2 =>
        obtain ⟨g, ys, hn, hy, r'⟩ := q
        refine ⟨g, ys, hn, ?_, r'⟩
        rw [upd_ne (fun z => ?_)]
        · exact hy
        · subst z
          obtain ⟨q1, e1⟩ := List.getElem?_eq_some_iff.mp h1
          obtain ⟨q2, e2⟩ := List.getElem?_eq_some_iff.mp hA
          exact e ((List.getElem_inj m.nd).mp (e1.trans e2.symm))
  len := by rw [List.length_set]; exact m.len
  nd := m.nd
  al := fun b hb h => by
    by_cases e : b = a
    · rw [e, upd_same] at h
      cases h
    · rw [upd_ne e] at h
      exact m.al b hb h
/-- an open list of one's own is shut: from now on it is plain data -/
theorem Mem.shut (m : Mem K S A G H μ) {k : Nat} {a : Addr} {xs : List V} {l : List D} (hk : S.A.length ≤ k) (hA : A[k]? = some a) (hc : μ[k]? = some (.lst l)) (hx : H a = some (.lst xs)) : Mem K S A (upd G a (.lst xs)) H (μ.set k .off) := by
  have g := (m.cel k a _ hA hc).1
  have eH : Ex (upd G a (.lst xs)) H := fun b o h => by
    by_cases e : b = a
    · rw [e, upd_same] at h
      cases h
      rw [e]
      exact hx
    · rw [upd_ne e] at h
      exact m.ex b o h
  exact {
    ex := eH
    exG := m.exG.trans (Ex.new g)
    pre := m.pre
    new := fun p hp => by
      by_cases e : p = a
      · obtain ⟨B, hB, hb⟩ := m.pre
        refine .inr ?_
        rw [e]
        refine hb a ?_
        rw [hB, List.getElem?_append_right hk] at hA
        exact List.mem_of_getElem? hA
      · rw [upd_ne e] at hp
        exact m.new p hp
    keep := m.keep
    cel := fun j b c h1 h2 => by
      by_cases e : j = k
      · subst e
        rw [List.getElem?_set_self (List.getElem?_eq_some_iff.mp hc).1] at h2
        cases h2
        trivial
      · rw [List.getElem?_set_ne (Ne.symm e)] at h2
        have q := m.cel j b c h1 h2
        cases c with
        | off => trivial
        | lst l2 =>
          obtain ⟨g2, ys, hy, r'⟩ := q
          refine ⟨?_, ys, hy, r'.mono0 (Ex.new g)⟩
          rw [upd_ne (fun z => ?_)]
          · exact g2
          · subst z
            obtain ⟨q1, e1⟩ := List.getElem?_eq_some_iff.mp h1
            obtain ⟨q2, e2⟩ := List.getElem?_eq_some_iff.mp hA
            exact e ((List.getElem_inj m.nd).mp (e1.trans e2.symm))
        | gen tg l2 =>
          obtain ⟨g2, ys, hn, hy, r'⟩ := q
          refine ⟨?_, ys, hn, hy, r'.mono0 (Ex.new g)⟩
          rw [upd_ne (fun z => ?_)]
          · exact g2
          · subst z
            obtain ⟨q1, e1⟩ := List.getElem?_eq_some_iff.mp h1
            obtain ⟨q2, e2⟩ := List.getElem?_eq_some_iff.mp hA
            exact e ((List.getElem_inj m.nd).mp (e1.trans e2.symm))
    len := by rw [List.length_set]; exact m.len
    nd := m.nd
    al := m.al }
end
end PA

set_option Elab.async false
set_option linter.all false
set_option maxRecDepth 100000
set_option maxHeartbeats 2000000
/-! PbRules: what readings do to states of data. -/
namespace PA
open PySem L2

/-- later: more open lists, more known -/
structure Nw (A : List Addr) (G : Hp) (A' : List Addr) (G' : Hp) : Prop where
  pre : ∃ B, A' = A ++ B
  ex : Ex G G'
section
variable {K : PySem.W.Frag} {S : Bs} {A A' A2 : List Addr} {G G' G2 H H' : Hp} {σ : St} {δ : Sl} {μ : List Cell}
theorem Nw.refl : Nw A G A G := ⟨⟨[], (List.append_nil A).symm⟩, Ex.refl G⟩
theorem Nw.of (e : Ex G G') : Nw A G A G' := ⟨⟨[], (List.append_nil A).symm⟩, e⟩
theorem Nw.trans (a : Nw A G A' G') (b : Nw A' G' A2 G2) : Nw A G A2 G2 := by
  obtain ⟨⟨B, hB⟩, e1⟩ := a
  obtain ⟨⟨B', hB'⟩, e2⟩ := b
  exact ⟨⟨B ++ B', by rw [hB', hB, List.append_assoc]⟩, e1.trans e2⟩
theorem Nw.rp (n : Nw A G A' G') {d : D} {x : V} (h : Rp K A G d x) : Rp K A' G' d x := by
  obtain ⟨⟨B, hB⟩, e⟩ := n
  subst hB
  exact h.mono e
theorem Nw.rpl (n : Nw A G A' G') {l : List D} {xs : List V} (h : RpL K A G l xs) : RpL K A' G' l xs := by
  obtain ⟨⟨B, hB⟩, e⟩ := n
  subst hB
  exact h.mono e
theorem Nw.en (n : Nw A G A' G') (h : En K A G δ σ) : En K A' G' δ σ := by
  obtain ⟨⟨B, hB⟩, e⟩ := n
  subst hB
  exact h.mono e
end

/-! ### the judgements -/
def EE (K : PySem.W.Frag) (S : Bs) (te : TE) (δ : Sl) (μ : List Cell) (C : D → List Cell → Prop) : Prop :=
  ∀ A G H σ, At K S A G H σ δ μ → ∀ Q : VK, (∀ v d A' G' H' μ', Mem K S A' G' H' μ' → Nw A G A' G' → Rp K A' G' d v → C d μ' → Q v H') → te σ H Q
def ET (K : PySem.W.Frag) (S : Bs) (t : TT) (δ : Sl) (μ : List Cell) (C : Bool → List Cell → Prop) : Prop :=
  ∀ A G H σ, At K S A G H σ δ μ → ∀ Q : Bool → Hp → Prop, (∀ b A' G' H' μ', Mem K S A' G' H' μ' → Nw A G A' G' → C b μ' → Q b H') → t σ H Q
def EA (K : PySem.W.Frag) (S : Bs) (t : TA) (δ : Sl) (μ : List Cell) (C : List D → List Cell → Prop) : Prop :=
  ∀ A G H σ, At K S A G H σ δ μ → ∀ Q : List V → Hp → Prop, (∀ vs ds A' G' H' μ', Mem K S A' G' H' μ' → Nw A G A' G' → RpL K A' G' ds vs → C ds μ' → Q vs H') → t σ H Q
def EO (K : PySem.W.Frag) (S : Bs) (t : TO) (δ : Sl) (μ : List Cell) (C : Option Int → List Cell → Prop) : Prop :=
  ∀ A G H σ, At K S A G H σ δ μ → ∀ Q : Option Int → Hp → Prop, (∀ o A' G' H' μ', Mem K S A' G' H' μ' → Nw A G A' G' → C o μ' → Q o H') → t σ H Q
/-- two-place operations, one-place ones, calls, methods -/
def OO (K : PySem.W.Frag) (S : Bs) (r : R2) (x y : D) (μ : List Cell) (C : D → List Cell → Prop) : Prop :=
  ∀ A G H u w, Mem K S A G H μ → Rp K A G x u → Rp K A G y w → ∀ Q : VK, (∀ v d A' G' H' μ', Mem K S A' G' H' μ' → Nw A G A' G' → Rp K A' G' d v → C d μ' → Q v H') → r u w H Q
def UU (K : PySem.W.Frag) (S : Bs) (r : V → Hp → VK → Prop) (x : D) (μ : List Cell) (C : D → List Cell → Prop) : Prop :=
  ∀ A G H u, Mem K S A G H μ → Rp K A G x u → ∀ Q : VK, (∀ v d A' G' H' μ', Mem K S A' G' H' μ' → Nw A G A' G' → Rp K A' G' d v → C d μ' → Q v H') → r u H Q
def CC (K : PySem.W.Frag) (S : Bs) (r : List V → Hp → VK → Prop) (ds : List D) (μ : List Cell) (C : D → List Cell → Prop) : Prop :=
  ∀ A G H vs, Mem K S A G H μ → RpL K A G ds vs → ∀ Q : VK, (∀ v d A' G' H' μ', Mem K S A' G' H' μ' → Nw A G A' G' → Rp K A' G' d v → C d μ' → Q v H') → r vs H Q
def MM (K : PySem.W.Frag) (S : Bs) (r : V → List V → Hp → VK → Prop) (x : D) (ds : List D) (μ : List Cell) (C : D → List Cell → Prop) : Prop :=
  ∀ A G H u vs, Mem K S A G H μ → Rp K A G x u → RpL K A G ds vs → ∀ Q : VK, (∀ v d A' G' H' μ', Mem K S A' G' H' μ' → Nw A G A' G' → Rp K A' G' d v → C d μ' → Q v H') → r u vs H Q
/-- where statements go -/
structure Cn where
  nx : Sl → List Cell → Prop
  rt : D → List Cell → Prop
  bk : Sl → List Cell → Prop := fun _ _ => False
  ct : Sl → List Cell → Prop := fun _ _ => False
structure Fi (K : PySem.W.Frag) (S : Bs) (A0 : List Addr) (G0 : Hp) (E : Ends) (C : Cn) : Prop where
  nx : ∀ A G H σ δ μ, At K S A G H σ δ μ → Nw A0 G0 A G → C.nx δ μ → E.nx σ H
  rt : ∀ A G H v d μ, Mem K S A G H μ → Rp K A G d v → C.rt d μ → E.rt v H
  bk : ∀ A G H σ δ μ, At K S A G H σ δ μ → Nw A0 G0 A G → C.bk δ μ → E.bk σ H
  ct : ∀ A G H σ δ μ, At K S A G H σ δ μ → Nw A0 G0 A G → C.ct δ μ → E.ct σ H
def SE (K : PySem.W.Frag) (S : Bs) (t : TS) (δ : Sl) (μ : List Cell) (C : Cn) : Prop :=
  ∀ A G H σ, At K S A G H σ δ μ → ∀ E : Ends, Fi K S A G E C → t E σ H
def GE (K : PySem.W.Frag) (S : Bs) (g : TG) (d : D) (δ : Sl) (μ : List Cell) (C : Sl → List Cell → Prop) : Prop :=
  ∀ A G H σ v, At K S A G H σ δ μ → Rp K A G d v → ∀ Q : St → Hp → Prop, (∀ A' G' H' σ' δ' μ', At K S A' G' H' σ' δ' μ' → Nw A G A' G' → C δ' μ' → Q σ' H') → g v σ H Q

section
variable {K : PySem.W.Frag} {S : Bs} {δ ε : Sl} {μ : List Cell} {ta tb tc te : TE} {t u : TT} {C : D → List Cell → Prop}
/-! ### expressions -/
theorem ee_var {i : Nat} {d : D} (h : δ[i]? = some (some d)) (k : C d μ) : EE K S (tVar i) δ μ C := fun A G H σ a Q q => by
  obtain ⟨v, h1, h2⟩ := a.env.get h
  exact ⟨v, h1, q v d A G H μ a.m Nw.refl h2 k⟩
theorem ee_c {x : V} (k : C (.v x) μ) : EE K S (tC x) δ μ C := fun A G H σ a Q q => q x (.v x) A G H μ a.m Nw.refl (.v x) k
theorem ee_op {r : R2} (h : EE K S ta δ μ fun x μ1 => EE K S tb δ μ1 fun y μ2 => OO K S r x y μ2 C) : EE K S (tOp r ta tb) δ μ C := fun A G H σ a Q q =>
  h A G H σ a _ fun v x A1 G1 H1 μ1 m1 n1 r1 h1 => h1 A1 G1 H1 σ ⟨m1, n1.en a.env⟩ _ fun w y A2 G2 H2 μ2 m2 n2 r2 h2 =>
    h2 A2 G2 H2 v w m2 (n2.rp r1) r2 Q fun z d A3 G3 H3 μ3 m3 n3 r3 c => q z d A3 G3 H3 μ3 m3 ((n1.trans n2).trans n3) r3 c
theorem ee_un {r : V → Hp → VK → Prop} (h : EE K S ta δ μ fun x μ1 => UU K S r x μ1 C) : EE K S (tUn r ta) δ μ C := fun A G H σ a Q q =>
  h A G H σ a _ fun v x A1 G1 H1 μ1 m1 n1 r1 h1 => h1 A1 G1 H1 v m1 r1 Q fun z d A3 G3 H3 μ3 m3 n3 r3 c => q z d A3 G3 H3 μ3 m3 (n1.trans n3) r3 c
theorem ee_cb {r : List V → Hp → VK → Prop} {ts : TA} (h : EA K S ts δ μ fun ds μ1 => CC K S r ds μ1 C) : EE K S (tCB r ts) δ μ C := fun A G H σ a Q q =>
  h A G H σ a _ fun vs ds A1 G1 H1 μ1 m1 n1 r1 h1 => h1 A1 G1 H1 vs m1 r1 Q fun z d A3 G3 H3 μ3 m3 n3 r3 c => q z d A3 G3 H3 μ3 m3 (n1.trans n3) r3 c
theorem ea_nil {C : List D → List Cell → Prop} (k : C [] μ) : EA K S tNil δ μ C := fun A G H σ a Q q => q [] [] A G H μ a.m Nw.refl .nil k
theorem ea_cons {ts : TA} {C : List D → List Cell → Prop} (h : EE K S te δ μ fun x μ1 => EA K S ts δ μ1 fun ds μ2 => C (x :: ds) μ2) : EA K S (tCons te ts) δ μ C := fun A G H σ a Q q =>
  h A G H σ a _ fun v x A1 G1 H1 μ1 m1 n1 r1 h1 => h1 A1 G1 H1 σ ⟨m1, n1.en a.env⟩ _ fun vs ds A2 G2 H2 μ2 m2 n2 r2 c => q (v :: vs) (x :: ds) A2 G2 H2 μ2 m2 (n1.trans n2) (.cons (n2.rp r1) r2) c
theorem small {n : Nat} (h : n ≤ 10000000) : n ≤ sizeLine := Nat.le_trans h (by decide)
theorem smalr {n : Nat} (h : n < 10000000) : n < sizeLine := Nat.lt_of_lt_of_le h (by decide)
theorem ee_tup {ts : TA} (h : EA K S ts δ μ fun ds μ1 => ds.length ≤ 10000000 ∧ C (.tup ds) μ1) : EE K S (tTup ts) δ μ C := fun A G H σ a Q q =>
  h A G H σ a _ fun vs ds A1 G1 H1 μ1 m1 n1 r ⟨hl, c⟩ => by
    refine ⟨small (by rw [← r.len]; exact hl), fun p hp => ?_⟩
    have e := Ex.new (o := .tup vs) (m1.ex.free hp)
    exact q _ _ A1 _ _ μ1 (m1.laid hp) (n1.trans (.of e)) (.tup (.inl upd_same) (r.mono0 e)) c
theorem ee_lst {ts : TA} (h : EA K S ts δ μ fun ds μ1 => ds.length ≤ 10000000 ∧ C (.lst ds) μ1) : EE K S (tLst ts) δ μ C := fun A G H σ a Q q =>
  h A G H σ a _ fun vs ds A1 G1 H1 μ1 m1 n1 r ⟨hl, c⟩ => by
    refine ⟨small (by rw [← r.len]; exact hl), fun p hp => ?_⟩
    have e := Ex.new (o := .lst vs) (m1.ex.free hp)
    exact q _ _ A1 _ _ μ1 (m1.laid hp) (n1.trans (.of e)) (.lst upd_same (r.mono0 e)) c
/-- a list that is to be changed -/
theorem ee_open {ts : TA} (h : EA K S ts δ μ fun ds μ1 => ds.length ≤ 10000000 ∧ C (.own μ1.length) (μ1 ++ [.lst ds])) : EE K S (tLst ts) δ μ C := fun A G H σ a Q q =>
  h A G H σ a _ fun vs ds A1 G1 H1 μ1 m1 n1 r ⟨hl, c⟩ => by
    refine ⟨small (by rw [← r.len]; exact hl), fun p hp => ?_⟩
    refine q _ _ (A1 ++ [p]) G1 _ _ (m1.opened hp r) (n1.trans ⟨⟨[p], rfl⟩, Ex.refl _⟩) (.own ?_) c
    rw [← m1.len, List.getElem?_append_right (Nat.le_refl _), Nat.sub_self]
    rfl
theorem ee_andV (h : EE K S ta δ μ fun x μ1 => ∃ b, x = .bl b ∧ (b = true → EE K S tb δ μ1 C) ∧ (b = false → C (.bl false) μ1)) : EE K S (tAndV ta tb) δ μ C := fun A G H σ a Q q =>
  h A G H σ a _ fun v x A1 G1 H1 μ1 m1 n1 r1 ⟨b, e, h1, h2⟩ => by
    subst e
    have ev := r1.vOf
    subst ev
    refine ⟨b, rfl, ?_⟩
    cases b with
    | true =>
      rw [if_pos rfl]
      exact h1 rfl A1 G1 H1 σ ⟨m1, n1.en a.env⟩ Q fun z d A3 G3 H3 μ3 m3 n3 r3 c => q z d A3 G3 H3 μ3 m3 (n1.trans n3) r3 c
    | false =>
      rw [if_neg Bool.false_ne_true]
      exact q _ _ A1 G1 H1 μ1 m1 n1 r1 (h2 rfl)
theorem ee_orV (h : EE K S ta δ μ fun x μ1 => ∃ b, x = .bl b ∧ (b = true → C (.bl true) μ1) ∧ (b = false → EE K S tb δ μ1 C)) : EE K S (tOrV ta tb) δ μ C := fun A G H σ a Q q =>
  h A G H σ a _ fun v x A1 G1 H1 μ1 m1 n1 r1 ⟨b, e, h1, h2⟩ => by
    subst e
    have ev := r1.vOf
    subst ev
    refine ⟨b, rfl, ?_⟩
    cases b with
    | true =>
      rw [if_pos rfl]
      exact q _ _ A1 G1 H1 μ1 m1 n1 r1 (h1 rfl)
    | false =>
      rw [if_neg Bool.false_ne_true]
      exact h2 rfl A1 G1 H1 σ ⟨m1, n1.en a.env⟩ Q fun z d A3 G3 H3 μ3 m3 n3 r3 c => q z d A3 G3 H3 μ3 m3 (n1.trans n3) r3 c
theorem ee_notV (h : EE K S ta δ μ fun x μ1 => ∃ b, x = .bl b ∧ C (.bl (!b)) μ1) : EE K S (tNotV ta) δ μ C := fun A G H σ a Q q =>
  h A G H σ a _ fun v x A1 G1 H1 μ1 m1 n1 r1 ⟨b, e, h1⟩ => by
    subst e
    have ev := r1.vOf
    subst ev
    exact ⟨b, rfl, q _ _ A1 G1 H1 μ1 m1 n1 (.v _) h1⟩
theorem ee_if (h : ET K S t δ μ fun b μ1 => (b = true → EE K S ta δ μ1 C) ∧ (b = false → EE K S tb δ μ1 C)) : EE K S (tIf t ta tb) δ μ C := fun A G H σ a Q q =>
  h A G H σ a _ fun b A1 G1 H1 μ1 m1 n1 ⟨h1, h2⟩ => by
    cases b with
    | true =>
      rw [if_pos rfl]
      exact h1 rfl A1 G1 H1 σ ⟨m1, n1.en a.env⟩ Q fun z d A3 G3 H3 μ3 m3 n3 r3 c => q z d A3 G3 H3 μ3 m3 (n1.trans n3) r3 c
    | false =>
      rw [if_neg Bool.false_ne_true]
      exact h2 rfl A1 G1 H1 σ ⟨m1, n1.en a.env⟩ Q fun z d A3 G3 H3 μ3 m3 n3 r3 c => q z d A3 G3 H3 μ3 m3 (n1.trans n3) r3 c
theorem ee_chain {r r' : R2} (h : EE K S ta δ μ fun x μ1 => EE K S tb δ μ1 fun y μ2 => OO K S r x y μ2 fun z μ3 => ∃ b, z = .bl b ∧ (b = false → C (.bl false) μ3) ∧ (b = true → EE K S tc δ μ3 fun w μ4 => OO K S r' y w μ4 C)) :
    EE K S (tChain r r' ta tb tc) δ μ C := fun A G H σ a Q q =>
  h A G H σ a _ fun v x A1 G1 H1 μ1 m1 n1 r1 h1 => h1 A1 G1 H1 σ ⟨m1, n1.en a.env⟩ _ fun w y A2 G2 H2 μ2 m2 n2 r2 h2 =>
    h2 A2 G2 H2 v w m2 (n2.rp r1) r2 _ fun z d A3 G3 H3 μ3 m3 n3 r3 ⟨b, e, hf, ht⟩ => by
      subst e
      have ev := r3.vOf
      subst ev
      refine ⟨b, rfl, ?_⟩
      cases b with
      | false =>
        rw [if_neg Bool.false_ne_true]
        exact q _ _ A3 G3 H3 μ3 m3 ((n1.trans n2).trans n3) (.v _) (hf rfl)
      | true =>
        rw [if_pos rfl]
        exact ht rfl A3 G3 H3 σ ⟨m3, ((n1.trans n2).trans n3).en a.env⟩ _ fun w' y' A4 G4 H4 μ4 m4 n4 r4 h4 =>
          h4 A4 G4 H4 w w' m4 ((n3.trans n4).rp r2) r4 Q fun z d A5 G5 H5 μ5 m5 n5 r5 c => q z d A5 G5 H5 μ5 m5 ((((n1.trans n2).trans n3).trans n4).trans n5) r5 c

/-! ### tests -/
section
variable {C : Bool → List Cell → Prop}
theorem et_test (h : EE K S te δ μ fun x μ1 => ∃ b, x = .bl b ∧ C b μ1) : ET K S (tTest te) δ μ C := fun A G H σ a Q q =>
  h A G H σ a _ fun v x A1 G1 H1 μ1 m1 n1 r1 ⟨b, e, c⟩ => by
    subst e
    have ev := r1.vOf
    subst ev
    exact ⟨b, rfl, q b A1 G1 H1 μ1 m1 n1 c⟩
theorem et_B (h : EE K S te δ μ fun x μ1 => ∃ b, x = .bl b ∧ C b μ1) : ET K S (tB te) δ μ C := et_test h
theorem et_yes (k : C true μ) : ET K S tYes δ μ C := fun A G H σ a Q q => q true A G H μ a.m Nw.refl k
theorem et_and (h : ET K S t δ μ fun b μ1 => (b = true → ET K S u δ μ1 C) ∧ (b = false → C false μ1)) : ET K S (tAnd t u) δ μ C := fun A G H σ a Q q =>
  h A G H σ a _ fun b A1 G1 H1 μ1 m1 n1 ⟨h1, h2⟩ => by
    cases b with
    | true =>
      rw [if_pos rfl]
      exact h1 rfl A1 G1 H1 σ ⟨m1, n1.en a.env⟩ Q fun b A3 G3 H3 μ3 m3 n3 c => q b A3 G3 H3 μ3 m3 (n1.trans n3) c
    | false =>
      rw [if_neg Bool.false_ne_true]
      exact q false A1 G1 H1 μ1 m1 n1 (h2 rfl)
theorem et_or (h : ET K S t δ μ fun b μ1 => (b = true → C true μ1) ∧ (b = false → ET K S u δ μ1 C)) : ET K S (tOr t u) δ μ C := fun A G H σ a Q q =>
  h A G H σ a _ fun b A1 G1 H1 μ1 m1 n1 ⟨h1, h2⟩ => by
    cases b with
    | true =>
      rw [if_pos rfl]
      exact q true A1 G1 H1 μ1 m1 n1 (h1 rfl)
    | false =>
      rw [if_neg Bool.false_ne_true]
      exact h2 rfl A1 G1 H1 σ ⟨m1, n1.en a.env⟩ Q fun b A3 G3 H3 μ3 m3 n3 c => q b A3 G3 H3 μ3 m3 (n1.trans n3) c
theorem et_not (h : ET K S t δ μ fun b μ1 => C (!b) μ1) : ET K S (tNot t) δ μ C := fun A G H σ a Q q =>
  h A G H σ a _ fun b A1 G1 H1 μ1 m1 n1 c => q (!b) A1 G1 H1 μ1 m1 n1 c
end

/-! ### statements -/
variable {E : Cn} {ts tu tw : TS} {g : TG}
theorem Fi.at' {A A1 : List Addr} {G G1 : Hp} {F : Ends} {E : Cn} (f : Fi K S A G F E) (n : Nw A G A1 G1) : Fi K S A1 G1 F E :=
  ⟨fun A2 G2 H2 σ2 δ2 μ2 a n2 c => f.nx A2 G2 H2 σ2 δ2 μ2 a (n.trans n2) c, f.rt, fun A2 G2 H2 σ2 δ2 μ2 a n2 c => f.bk A2 G2 H2 σ2 δ2 μ2 a (n.trans n2) c, fun A2 G2 H2 σ2 δ2 μ2 a n2 c => f.ct A2 G2 H2 σ2 δ2 μ2 a (n.trans n2) c⟩
theorem Fi.go {A : List Addr} {G : Hp} {F : Ends} {n : St → Hp → Prop} {m : Sl → List Cell → Prop} {E : Cn} (f : Fi K S A G F E) (h : ∀ A1 G1 H1 σ1 δ1 μ1, At K S A1 G1 H1 σ1 δ1 μ1 → Nw A G A1 G1 → m δ1 μ1 → n σ1 H1) : Fi K S A G { F with nx := n } { E with nx := m } := ⟨h, f.rt, f.bk, f.ct⟩
theorem se_next (k : E.nx δ μ) : SE K S tNext δ μ E := fun A G H σ a F f => f.nx A G H σ δ μ a Nw.refl k
theorem se_seq (h : SE K S ts δ μ { E with nx := fun δ1 μ1 => SE K S tu δ1 μ1 E }) : SE K S (tSeq ts tu) δ μ E := fun A G H σ a F f =>
  h A G H σ a { F with nx := tu F } (f.go fun A1 G1 H1 σ1 δ1 μ1 a1 n1 c => c A1 G1 H1 σ1 a1 F (f.at' n1))
theorem se_asg {i : Nat} (h : EE K S te δ μ fun d μ1 => E.nx (δ.set i (some d)) μ1) : SE K S (tAsg te (gName i)) δ μ E := fun A G H σ a F f =>
  h A G H σ a _ fun v d A1 G1 H1 μ1 m1 n1 r1 c => f.nx A1 G1 H1 _ _ μ1 ⟨m1, En.set r1 i (n1.en a.env)⟩ n1 c
theorem se_asgG (h : EE K S te δ μ fun d μ1 => GE K S g d δ μ1 E.nx) : SE K S (tAsg te g) δ μ E := fun A G H σ a F f =>
  h A G H σ a _ fun v d A1 G1 H1 μ1 m1 n1 r1 c => c A1 G1 H1 σ v ⟨m1, n1.en a.env⟩ r1 _ fun A2 G2 H2 σ2 δ2 μ2 a2 n2 c2 => f.nx A2 G2 H2 σ2 δ2 μ2 a2 (n1.trans n2) c2
theorem se_ret (h : EE K S te δ μ E.rt) : SE K S (tRet te) δ μ E := fun A G H σ a F f =>
  h A G H σ a _ fun v d A1 G1 H1 μ1 m1 n1 r1 c => f.rt A1 G1 H1 v d μ1 m1 r1 c
theorem se_drop (h : EE K S te δ μ fun _ μ1 => E.nx δ μ1) : SE K S (tDrop te) δ μ E := fun A G H σ a F f =>
  h A G H σ a _ fun v d A1 G1 H1 μ1 m1 n1 r1 c => f.nx A1 G1 H1 σ δ μ1 ⟨m1, n1.en a.env⟩ n1 c
theorem se_if (h : ET K S t δ μ fun b μ1 => (b = true → SE K S ts δ μ1 E) ∧ (b = false → SE K S tu δ μ1 E)) : SE K S (tIfS t ts tu) δ μ E := fun A G H σ a F f =>
  h A G H σ a _ fun b A1 G1 H1 μ1 m1 n1 ⟨h1, h2⟩ => by
    cases b with
    | true =>
      rw [if_pos rfl]
      exact h1 rfl A1 G1 H1 σ ⟨m1, n1.en a.env⟩ F (f.at' n1)
    | false =>
      rw [if_neg Bool.false_ne_true]
      exact h2 rfl A1 G1 H1 σ ⟨m1, n1.en a.env⟩ F (f.at' n1)
theorem se_break (k : E.bk δ μ) : SE K S tBreak δ μ E := fun A G H σ a F f => f.bk A G H σ δ μ a Nw.refl k
theorem se_cont (k : E.ct δ μ) : SE K S tCont δ μ E := fun A G H σ a F f => f.ct A G H σ δ μ a Nw.refl k
theorem se_par {i j : Nat} {tz : TA} (h : EA K S tz δ μ fun ds μ1 => ∃ x y, ds = [x, y] ∧ E.nx ((δ.set i (some x)).set j (some y)) μ1) : SE K S (tPar i j tz) δ μ E := fun A G H σ a F f =>
  h A G H σ a _ fun vs ds A1 G1 H1 μ1 m1 n1 r1 ⟨x, y, e, c⟩ => by
    subst e
    cases r1 with
    | cons rx r =>
      cases r with
      | cons ry r =>
        cases r
        exact ⟨_, _, rfl, f.nx A1 G1 H1 _ _ μ1 ⟨m1, En.set ry j (En.set rx i (n1.en a.env))⟩ n1 c⟩
/-- weaker knowledge -/
theorem se_less (l : Less δ ε) (h : SE K S ts ε μ E) : SE K S ts δ μ E := fun A G H σ a F f => h A G H σ ⟨a.m, a.env.less l⟩ F f
/-- consequence -/
theorem EE.imp {C' : D → List Cell → Prop} (h : EE K S te δ μ C) (i : ∀ d μ1, C d μ1 → C' d μ1) : EE K S te δ μ C' := fun A G H σ a Q q =>
  h A G H σ a Q fun v d A1 G1 H1 μ1 m1 n1 r1 c => q v d A1 G1 H1 μ1 m1 n1 r1 (i d μ1 c)
theorem SE.imp {E' : Cn} (h : SE K S ts δ μ E) (i1 : ∀ d m, E.nx d m → E'.nx d m) (i2 : ∀ d m, E.rt d m → E'.rt d m) (i3 : ∀ d m, E.bk d m → E'.bk d m) (i4 : ∀ d m, E.ct d m → E'.ct d m) : SE K S ts δ μ E' := fun A G H σ a F f =>
  h A G H σ a F ⟨fun A G H σ δ μ a n c => f.nx A G H σ δ μ a n (i1 _ _ c), fun A G H v d μ m r c => f.rt A G H v d μ m r (i2 _ _ c), fun A G H σ δ μ a n c => f.bk A G H σ δ μ a n (i3 _ _ c), fun A G H σ δ μ a n c => f.ct A G H σ δ μ a n (i4 _ _ c)⟩

/-! ### targets -/
theorem ge_name {i : Nat} {d : D} {C : Sl → List Cell → Prop} (k : C (δ.set i (some d)) μ) : GE K S (gName i) d δ μ C := fun A G H σ v a r Q q => q A G H _ _ μ ⟨a.m, En.set r i a.env⟩ Nw.refl k
/-- x[i] = d, x an open list -/
theorem ge_setL {to ti : TE} {d : D} {C : Sl → List Cell → Prop} (h : EE K S to δ μ fun x μ1 => EE K S ti δ μ1 fun y μ2 => ∃ k i j l, x = .own k ∧ y = .int i ∧ μ2[k]? = some (.lst l) ∧ ixN l.length i = some j ∧ C δ (μ2.set k (.lst (l.set j d)))) :
    GE K S (gSub to ti rSetL) d δ μ C := fun A G H σ v a r Q q =>
  h A G H σ a _ fun w x A1 G1 H1 μ1 m1 n1 r1 h1 => h1 A1 G1 H1 σ ⟨m1, n1.en a.env⟩ _ fun z y A2 G2 H2 μ2 m2 n2 r2 ⟨k, i, j, l, ex, ey, hc, hj, c⟩ => by
    subst ex ey
    have ev := r2.vOf
    subst ev
    cases r1 with
    | @own _ b hb =>
      have hb2 : A2[k]? = some b := by
        cases (n2.rp (.own hb : Rp K A1 G1 (.own k) (.ref b))) with
        | own h => exact h
      obtain ⟨g, xs, hx, rl⟩ := m2.cel k b _ hb2 hc
      have rd := (n1.trans n2).rp r
      refine ⟨b, xs, i, j, rfl, rfl, hx, by rw [← rl.len]; exact hj, q A2 G2 _ σ δ _ ⟨m2.wrote hb2 hc (rl.set rd j), (n1.trans n2).en a.env⟩ (n1.trans n2) c⟩
end
end PA

set_option Elab.async false
set_option linter.all false
set_option maxRecDepth 100000
set_option maxHeartbeats 2000000
/-! PbLoop: walks, for, while, comprehensions. -/
namespace PA
open PySem L2

/-- J gives the items l -/
def Gives (K : PySem.W.Frag) (S : Bs) (A0 : List Addr) (G0 : Hp) (J : It) (l : List D) (P : List Cell → Prop := fun _ => True) : Prop := ∀ (i : Nat) A G H μ, Mem K S A G H μ → Nw A0 G0 A G → P μ →
  (∀ d, l[i]? = some d → J.go i H ∧ ∀ x H', J.yld i H x H' → ∃ G', Mem K S A G' H' μ ∧ Ex G G' ∧ Rp K A G' d x) ∧ (i = l.length → J.stop i H)
def IE (K : PySem.W.Frag) (S : Bs) (wi : TI) (δ : Sl) (μ : List Cell) (C : List D → (List Cell → Prop) → List Cell → Prop) : Prop :=
  ∀ A G H σ, At K S A G H σ δ μ → ∀ R : It → Hp → Prop, (∀ J l P A' G' H' μ', Mem K S A' G' H' μ' → Nw A G A' G' → Gives K S A' G' J l P → C l P μ' → R J H') → wi σ H R
def yes : List Cell → Prop := fun _ => True
section
variable {K : PySem.W.Frag} {S : Bs} {δ : Sl} {μ : List Cell} {ta tb tc te tl : TE} {C : List D → (List Cell → Prop) → List Cell → Prop}
theorem Nw.lst {A A' : List Addr} {G G' H' : Hp} {a : Addr} {xs : List V} (n : Nw A G A' G') (e : Ex G' H') (h : SqL K G a xs) : SqL K H' a xs := ex_l e (ex_l n.ex h)
theorem gives_list {A0 : List Addr} {G0 : Hp} {a : Addr} {xs : List V} {l : List D} (h : SqL K G0 a xs) (r : RpL K A0 G0 l xs) : Gives K S A0 G0 (Itl K a) l := fun i A G H μ m n _ => by
  have hs := n.lst m.ex h
  refine ⟨fun d hd => ?_, fun e => ⟨xs, hs, by rw [e, r.len]; exact Nat.le_refl _⟩⟩
  obtain ⟨x, hx, rx⟩ := r.get hd
  refine ⟨⟨xs, x, hs, hx⟩, fun y H' ⟨e, hy⟩ => ?_⟩
  subst e
  have z := hy xs hs
  rw [hx] at z
  cases z
  exact ⟨G, m, Ex.refl G, n.rp rx⟩
theorem gives_tup {A0 : List Addr} {G0 : Hp} {a : Addr} {xs : List V} {l : List D} (h : SqT K G0 a xs) (r : RpL K A0 G0 l xs) : Gives K S A0 G0 (Itt K a) l := fun i A G H μ m n _ => by
  have hs := ex_t m.ex (ex_t n.ex h)
  refine ⟨fun d hd => ?_, fun e => ⟨xs, hs, by rw [e, r.len]; exact Nat.le_refl _⟩⟩
  obtain ⟨x, hx, rx⟩ := r.get hd
  refine ⟨⟨xs, x, hs, hx⟩, fun y H' ⟨e, hy⟩ => ?_⟩
  subst e
  have z := hy xs hs
  rw [hx] at z
  cases z
  exact ⟨G, m, Ex.refl G, n.rp rx⟩
theorem lst_sq {G : Hp} {a : Addr} {xs : List V} (h : G a = some (.lst xs)) : SqL K G a xs := .inl (.inl h)
theorem ie_list (h : EE K S tl δ μ fun d μ1 => ∃ l, (d = .lst l ∨ d = .rd l) ∧ C l yes μ1) : IE K S (iList K tl) δ μ C := fun A G H σ a R q =>
  h A G H σ a _ fun v d A1 G1 H1 μ1 m1 n1 r1 ⟨l, e, c⟩ => by
    rcases e with e | e
    · subst e
      cases r1 with
      | lst hs r => exact ⟨_, rfl, ⟨_, ex_l m1.ex (lst_sq hs)⟩, q _ l yes A1 G1 H1 μ1 m1 n1 (gives_list (lst_sq hs) r) c⟩
    · subst e
      cases r1 with
      | rd hs r => exact ⟨_, rfl, ⟨_, ex_l m1.ex hs⟩, q _ l yes A1 G1 H1 μ1 m1 n1 (gives_list hs r) c⟩
theorem ie_tup (h : EE K S tl δ μ fun d μ1 => ∃ l, d = .tup l ∧ C l yes μ1) : IE K S (iTup K tl) δ μ C := fun A G H σ a R q =>
  h A G H σ a _ fun v d A1 G1 H1 μ1 m1 n1 r1 ⟨l, e, c⟩ => by
    subst e
    cases r1 with
    | tup hs r => exact ⟨_, rfl, ⟨_, ex_t m1.ex hs.sq⟩, q _ l yes A1 G1 H1 μ1 m1 n1 (gives_tup hs.sq r) c⟩
/-- lo, lo + 1, .. (n of them) -/
def rng (lo : Int) (n : Nat) : List D := (List.range n).map fun (i : Nat) => D.int (lo + (i : Int))
theorem rng_len {lo : Int} {n : Nat} : (rng lo n).length = n := by unfold rng; rw [List.length_map, List.length_range]
theorem rng_get {lo : Int} {n i : Nat} {d : D} (h : (rng lo n)[i]? = some d) : i < n ∧ d = .int (lo + (i : Int)) := by
  unfold rng at h
  rw [List.getElem?_map] at h
  by_cases hi : i < n
  · rw [List.getElem?_range hi] at h
    cases h
    exact ⟨hi, rfl⟩
  · rw [List.getElem?_eq_none (by rw [List.length_range]; omega)] at h
    cases h
theorem gives_rng {A0 : List Addr} {G0 : Hp} {lo : Int} {n : Nat} : Gives K S A0 G0 (Itr lo n) (rng lo n) := fun i A G H μ m _ _ => by
  refine ⟨fun d hd => ?_, fun e => by rw [e, rng_len]; exact Nat.le_refl _⟩
  obtain ⟨hi, e⟩ := rng_get hd
  refine ⟨hi, fun x H' ⟨e1, e2⟩ => ?_⟩
  subst e1 e2 e
  exact ⟨G, m, Ex.refl G, .v _⟩
theorem ie_rng1 {ts : TA} (h : EA K S ts δ μ fun ds μ1 => ∃ j : Int, ds = [.int j] ∧ -1000000000 ≤ j ∧ j ≤ 1000000000 ∧ C (rng 0 j.toNat) yes μ1) : IE K S (iRng1 ts) δ μ C := fun A G H σ a R q =>
  h A G H σ a _ fun vs ds A1 G1 H1 μ1 m1 n1 r1 ⟨j, e, b1, b2, c⟩ => by
    subst e
    cases r1 with
    | cons rj r =>
      cases r
      have ev := rj.vOf
      subst ev
      exact ⟨j, rfl, by omega, by omega, q _ _ yes A1 G1 H1 μ1 m1 n1 gives_rng c⟩
theorem ie_rng2 {ts : TA} (h : EA K S ts δ μ fun ds μ1 => ∃ i j : Int, ds = [.int i, .int j] ∧ (-1000000000 ≤ i ∧ i ≤ 1000000000 ∧ -1000000000 ≤ j ∧ j ≤ 1000000000) ∧ C (rng i (j - i).toNat) yes μ1) : IE K S (iRng2 ts) δ μ C := fun A G H σ a R q =>
  h A G H σ a _ fun vs ds A1 G1 H1 μ1 m1 n1 r1 ⟨i, j, e, ⟨b1, b2, b3, b4⟩, c⟩ => by
    subst e
    cases r1 with
    | cons ri r =>
      cases r with
      | cons rj r =>
        cases r
        have e1 := ri.vOf
        have e2 := rj.vOf
        subst e1 e2
        exact ⟨i, j, rfl, ⟨by omega, by omega, by omega, by omega⟩, q _ _ yes A1 G1 H1 μ1 m1 n1 gives_rng c⟩
/-- the signs of a text, each a text -/
def signs (s : Str) : List D := s.cps.toList.map fun c => D.str ⟨#[c]⟩
theorem gives_str {A0 : List Addr} {G0 : Hp} {s : Str} : Gives K S A0 G0 (Its s) (signs s) := fun i A G H μ m _ _ => by
  refine ⟨fun d hd => ?_, fun e => by rw [e]; unfold signs; rw [List.length_map]; exact Nat.le_of_eq (by simp)⟩
  unfold signs at hd
  rw [List.getElem?_map] at hd
  cases hc : s.cps.toList[i]? with
  | none =>
    rw [hc] at hd
    cases hd
  | some c =>
    rw [hc] at hd
    cases hd
    have hi : i < s.cps.size := by
      have z := (List.getElem?_eq_some_iff.mp hc).1
      simpa using z
    refine ⟨hi, fun x H' ⟨e1, c', hc', e2⟩ => ?_⟩
    subst e1 e2
    have e3 : s.cps[i]? = some c := by
      rw [← Array.getElem?_toList]
      exact hc
    rw [e3] at hc'
    cases hc'
    exact ⟨G, m, Ex.refl G, .v _⟩
theorem ie_str (h : EE K S tl δ μ fun d μ1 => ∃ s, d = .str s ∧ C (signs s) yes μ1) : IE K S (iStr tl) δ μ C := fun A G H σ a R q =>
  h A G H σ a _ fun v d A1 G1 H1 μ1 m1 n1 r1 ⟨s, e, c⟩ => by
    subst e
    have ev := r1.vOf
    subst ev
    exact ⟨s, rfl, q _ _ yes A1 G1 H1 μ1 m1 n1 gives_str c⟩
/-- pairs, as zip gives them -/
def zipD : List D → List D → List D
  | x :: l, y :: m => .tup [x, y] :: zipD l m
  | _, _ => []
theorem zipD_len : ∀ (l m : List D), (zipD l m).length = min l.length m.length
  | [], m => by simp [zipD]
  | _ :: _, [] => by simp [zipD]
  | x :: l, y :: m => by
    show (zipD l m).length + 1 = _
    rw [zipD_len l m, List.length_cons, List.length_cons]
    omega
theorem zipD_get : ∀ {l m : List D} {i : Nat} {d : D}, (zipD l m)[i]? = some d → ∃ x y, l[i]? = some x ∧ m[i]? = some y ∧ d = .tup [x, y]
  | [], m, i, d, h => by simp [zipD] at h
  | _ :: _, [], i, d, h => by simp [zipD] at h
  | x :: l, y :: m, 0, d, h => by
    have e : D.tup [x, y] = d := by simpa [zipD] using h
    exact ⟨x, y, rfl, rfl, e.symm⟩
  | x :: l, y :: m, i + 1, d, h => by
    obtain ⟨a, b, h1, h2, h3⟩ := zipD_get (l := l) (m := m) (i := i) (d := d) (by simpa [zipD] using h)
    exact ⟨a, b, by simpa using h1, by simpa using h2, h3⟩
theorem pair_new {A : List Addr} {G H : Hp} {T : Addr} {x y : V} {d e : D} (m : Mem K S A G H μ) (hT : H T = none) (rx : Rp K A G d x) (ry : Rp K A G e y) : ∃ G', Mem K S A G' (upd H T (.tup [x, y])) μ ∧ Ex G G' ∧ Rp K A G' (.tup [d, e]) (.ref T) :=
  ⟨_, m.laid hT, Ex.new (m.ex.free hT), .tup (.inl upd_same) (.cons (rx.mono0 (Ex.new (m.ex.free hT))) (.cons (ry.mono0 (Ex.new (m.ex.free hT))) .nil))⟩
theorem gives_zip {A0 : List Addr} {G0 : Hp} {a b : Addr} {xs ys : List V} {l m : List D} (h : SqL K G0 a xs) (r : RpL K A0 G0 l xs) (h' : SqL K G0 b ys) (r' : RpL K A0 G0 m ys) : Gives K S A0 G0 (Itz K a b) (zipD l m) := fun i A G H μ m' n _ => by
  have hs := n.lst m'.ex h
  have hs' := n.lst m'.ex h'
  refine ⟨fun d hd => ?_, fun e => ⟨xs, ys, hs, hs', ?_⟩⟩
  · obtain ⟨x, y, h1, h2, rfl⟩ := zipD_get hd
    obtain ⟨u, hu, ru⟩ := r.get h1
    obtain ⟨w, hw, rw'⟩ := r'.get h2
    refine ⟨⟨xs, ys, u, w, hs, hs', hu, hw⟩, fun z H' ⟨T, u', w', e1, e2, e3, e4, e5⟩ => ?_⟩
    subst e1 e3
    have z1 := e4 xs hs
    have z2 := e5 ys hs'
    rw [hu] at z1
    rw [hw] at z2
    cases z1
    cases z2
    exact pair_new m' e2 (n.rp ru) (n.rp rw')
  · rw [zipD_len, r.len, r'.len] at e
    omega
theorem ie_zip {ts : TA} (h : EA K S ts δ μ fun ds μ1 => ∃ l m, ds = [.lst l, .lst m] ∧ C (zipD l m) yes μ1) : IE K S (iZip K ts) δ μ C := fun A G H σ a R q =>
  h A G H σ a _ fun vs ds A1 G1 H1 μ1 m1 n1 r1 ⟨l, m, e, c⟩ => by
    subst e
    cases r1 with
    | cons ra r =>
      cases r with
      | cons rb r =>
        cases r
        cases ra with
        | lst hs r =>
          cases rb with
          | lst hs' r' => exact ⟨_, _, _, _, rfl, ex_l m1.ex (lst_sq hs), ex_l m1.ex (lst_sq hs'), q _ _ yes A1 G1 H1 μ1 m1 n1 (gives_zip (lst_sq hs) r (lst_sq hs') r') c⟩
theorem gives_zipT {A0 : List Addr} {G0 : Hp} {a b : Addr} {xs ys : List V} {l m : List D} (h : SqT K G0 a xs) (r : RpL K A0 G0 l xs) (h' : SqT K G0 b ys) (r' : RpL K A0 G0 m ys) : Gives K S A0 G0 (RZ.ItzT K a b) (zipD l m) := fun i A G H μ m' n _ => by
  have hs := ex_t m'.ex (ex_t n.ex h)
  have hs' := ex_t m'.ex (ex_t n.ex h')
  refine ⟨fun d hd => ?_, fun e => ⟨xs, ys, hs, hs', ?_⟩⟩
  · obtain ⟨x, y, h1, h2, rfl⟩ := zipD_get hd
    obtain ⟨u, hu, ru⟩ := r.get h1
    obtain ⟨w, hw, rw'⟩ := r'.get h2
    refine ⟨⟨xs, ys, u, w, hs, hs', hu, hw⟩, fun z H' ⟨T, u', w', e1, e2, e3, e4, e5⟩ => ?_⟩
    subst e1 e3
    have z1 := e4 xs hs
    have z2 := e5 ys hs'
    rw [hu] at z1
    rw [hw] at z2
    cases z1
    cases z2
    exact pair_new m' e2 (n.rp ru) (n.rp rw')
  · rw [zipD_len, r.len, r'.len] at e
    omega
/-- zip of two lists or of two tuples -/
theorem ie_zipA {ts : TA} (h : EA K S ts δ μ fun ds μ1 => ∃ l m, (ds = [.lst l, .lst m] ∨ ds = [.tup l, .tup m]) ∧ C (zipD l m) yes μ1) : IE K S (RZ.iZipA K ts) δ μ C := fun A G H σ a R q =>
  h A G H σ a _ fun vs ds A1 G1 H1 μ1 m1 n1 r1 ⟨l, m, e, c⟩ => by
    rcases e with e | e
    · subst e
      cases r1 with
      | cons ra r =>
        cases r with
        | cons rb r =>
          cases r
          cases ra with
          | lst hs r =>
            cases rb with
            | lst hs' r' => exact ⟨_, _, _, _, rfl, .inl ⟨ex_l m1.ex (lst_sq hs), ex_l m1.ex (lst_sq hs'), q _ _ yes A1 G1 H1 μ1 m1 n1 (gives_zip (lst_sq hs) r (lst_sq hs') r') c⟩⟩
    · subst e
      cases r1 with
      | cons ra r =>
        cases r with
        | cons rb r =>
          cases r
          cases ra with
          | tup hs r =>
            cases rb with
            | tup hs' r' => exact ⟨_, _, _, _, rfl, .inr ⟨ex_t m1.ex hs.sq, ex_t m1.ex hs'.sq, q _ _ yes A1 G1 H1 μ1 m1 n1 (gives_zipT hs.sq r hs'.sq r') c⟩⟩
/-- pairs of place and item -/
def enumD (k : Nat) : List D → List D
  | [] => []
  | x :: l => .tup [.int (k : Int), x] :: enumD (k + 1) l
theorem enumD_len : ∀ (k : Nat) (l : List D), (enumD k l).length = l.length
  | _, [] => rfl
  | k, _ :: l => congrArg Nat.succ (enumD_len (k + 1) l)
theorem enumD_get : ∀ {k : Nat} {l : List D} {i : Nat} {d : D}, (enumD k l)[i]? = some d → ∃ x, l[i]? = some x ∧ d = .tup [.int ((k + i : Nat) : Int), x]
  | _, [], _, _, h => by simp [enumD] at h
  | k, x :: l, 0, d, h => by
    have e : D.tup [.int (k : Int), x] = d := by simpa [enumD] using h
    exact ⟨x, rfl, e.symm⟩
  | k, x :: l, i + 1, d, h => by
    obtain ⟨y, h1, h2⟩ := enumD_get (k := k + 1) (l := l) (i := i) (d := d) (by simpa [enumD] using h)
    exact ⟨y, by simpa using h1, by rw [h2, show k + 1 + i = k + (i + 1) by omega]⟩
theorem gives_enum {A0 : List Addr} {G0 : Hp} {a : Addr} {xs : List V} {l : List D} (h : SqL K G0 a xs) (r : RpL K A0 G0 l xs) : Gives K S A0 G0 (Ite K a) (enumD 0 l) := fun i A G H μ m' n _ => by
  have hs := n.lst m'.ex h
  refine ⟨fun d hd => ?_, fun e => ⟨xs, hs, by rw [e, enumD_len, r.len]; exact Nat.le_refl _⟩⟩
  obtain ⟨x, h1, rfl⟩ := enumD_get hd
  obtain ⟨u, hu, ru⟩ := r.get h1
  refine ⟨⟨xs, u, hs, hu⟩, fun z H' ⟨T, u', e1, e2, e3, e4⟩ => ?_⟩
  subst e1 e3
  have z1 := e4 xs hs
  rw [hu] at z1
  cases z1
  have q := pair_new m' e2 (Rp.v (K := K) (A := A) (G := G) (.int (i : Nat))) (n.rp ru)
  rw [Nat.zero_add]
  exact q
theorem ie_enum {ts : TA} (h : EA K S ts δ μ fun ds μ1 => ∃ l, ds = [.lst l] ∧ C (enumD 0 l) yes μ1) : IE K S (iEnum K ts) δ μ C := fun A G H σ a R q =>
  h A G H σ a _ fun vs ds A1 G1 H1 μ1 m1 n1 r1 ⟨l, e, c⟩ => by
    subst e
    cases r1 with
    | cons ra r =>
      cases r
      cases ra with
      | lst hs r => exact ⟨_, _, rfl, ex_l m1.ex (lst_sq hs), q _ _ yes A1 G1 H1 μ1 m1 n1 (gives_enum (lst_sq hs) r) c⟩
theorem gives_rev {A0 : List Addr} {G0 : Hp} {a : Addr} {xs : List V} {l : List D} (h : SqL K G0 a xs) (r : RpL K A0 G0 l xs) : Gives K S A0 G0 (Itv K a xs.length) l.reverse := fun i A G H μ m' n _ => by
  have hs := n.lst m'.ex h
  refine ⟨fun d hd => ?_, fun e => by rw [e, List.length_reverse, r.len]; exact Nat.le_refl _⟩
  have hi : i < l.length := by
    have z := (List.getElem?_eq_some_iff.mp hd).1
    rwa [List.length_reverse] at z
  rw [List.getElem?_reverse hi] at hd
  obtain ⟨u, hu, ru⟩ := r.get hd
  rw [r.len] at hu hi
  refine ⟨⟨hi, xs, u, hs, hu⟩, fun z H' ⟨e1, e2⟩ => ?_⟩
  subst e1
  have z1 := e2 xs hs
  rw [hu] at z1
  cases z1
  exact ⟨G, m', Ex.refl G, n.rp ru⟩
theorem ie_rev {ts : TA} (h : EA K S ts δ μ fun ds μ1 => ∃ l, ds = [.lst l] ∧ C l.reverse yes μ1) : IE K S (iRev K ts) δ μ C := fun A G H σ a R q =>
  h A G H σ a _ fun vs ds A1 G1 H1 μ1 m1 n1 r1 ⟨l, e, c⟩ => by
    subst e
    cases r1 with
    | cons ra r =>
      cases r
      cases ra with
      | lst hs r => exact ⟨_, _, rfl, ex_l m1.ex (lst_sq hs), q _ _ yes A1 G1 H1 μ1 m1 n1 (gives_rev (lst_sq hs) r) c⟩

/-! ### for -/
variable {E : Cn} {g : TG} {tz : TS} {wi : TI} {t : TT}
theorem se_forP (h : IE K S wi δ μ fun l P μ1 => ∃ I : Nat → Sl → List Cell → Prop, (∀ i δ' μ', I i δ' μ' → P μ') ∧ I 0 δ μ1 ∧
      (∀ (i : Nat) x δ' μ', l[i]? = some x → I i δ' μ' → GE K S g x δ' μ' fun δ2 μ2 => SE K S tz δ2 μ2 { nx := I (i + 1), ct := I (i + 1), rt := E.rt, bk := E.nx }) ∧
      ∀ δ' μ', I l.length δ' μ' → E.nx δ' μ') : SE K S (tFor wi g tz) δ μ E := fun A G H σ a F f =>
  h A G H σ a _ fun J l P A1 G1 H1 μ1 m1 n1 gv ⟨I, ip, i0, it, ie⟩ => by
    refine ⟨fun i n σ' H' => n = l.length - i ∧ i ≤ l.length ∧ ∃ A2 G2 δ2 μ2, At K S A2 G2 H' σ' δ2 μ2 ∧ Nw A1 G1 A2 G2 ∧ I i δ2 μ2, ⟨l.length, by omega, Nat.zero_le _, A1, G1, δ, μ1, ⟨m1, n1.en a.env⟩, Nw.refl, i0⟩, ?_⟩
    rintro i n σ' H' ⟨hn, hi, A2, G2, δ2, μ2, a2, n2, w⟩
    obtain ⟨g1, g2⟩ := gv i A2 G2 H' μ2 a2.m n2 (ip i δ2 μ2 w)
    by_cases hlt : i < l.length
    · obtain ⟨x, hx⟩ : ∃ x, l[i]? = some x := ⟨l[i], by simp [hlt]⟩
      obtain ⟨go, yl⟩ := g1 x hx
      refine .inr ⟨go, fun σ3 H3 => ∃ A3 G3 δ3 μ3, At K S A3 G3 H3 σ3 δ3 μ3 ∧ Nw A1 G1 A3 G3 ∧ I (i + 1) δ3 μ3, fun σ3 H3 w3 => ⟨l.length - (i + 1), by omega, rfl, hlt, w3⟩, fun y H3 hy => ?_⟩
      obtain ⟨G3, m3, e3, r3⟩ := yl y H3 hy
      have n3 : Nw A2 G2 A2 G3 := .of e3
      refine it i x δ2 μ2 hx w A2 G3 H3 σ' y ⟨m3, n3.en a2.env⟩ r3 _ fun A4 G4 H4 σ4 δ4 μ4 a4 n4 c => ?_
      refine c A4 G4 H4 σ4 a4 _ ⟨fun A5 G5 H5 σ5 δ5 μ5 a5 n5 c5 => ⟨A5, G5, δ5, μ5, a5, ((n2.trans n3).trans n4).trans n5, c5⟩, f.rt, fun A5 G5 H5 σ5 δ5 μ5 a5 n5 c5 => ?_,
        fun A5 G5 H5 σ5 δ5 μ5 a5 n5 c5 => ⟨A5, G5, δ5, μ5, a5, ((n2.trans n3).trans n4).trans n5, c5⟩⟩
      exact f.nx A5 G5 H5 σ5 δ5 μ5 a5 ((((n1.trans n2).trans n3).trans n4).trans n5) c5
    · have e : i = l.length := by omega
      refine .inl ⟨g2 e, f.nx A2 G2 H' σ' δ2 μ2 a2 (n1.trans n2) (ie δ2 μ2 (by rw [← e]; exact w))⟩
theorem se_for (h : IE K S wi δ μ fun l P μ1 => P = yes ∧ ∃ I : Nat → Sl → List Cell → Prop, I 0 δ μ1 ∧
      (∀ (i : Nat) x δ' μ', l[i]? = some x → I i δ' μ' → GE K S g x δ' μ' fun δ2 μ2 => SE K S tz δ2 μ2 { nx := I (i + 1), ct := I (i + 1), rt := E.rt, bk := E.nx }) ∧
      ∀ δ' μ', I l.length δ' μ' → E.nx δ' μ') : SE K S (tFor wi g tz) δ μ E :=
  se_forP fun A G H σ a R q => h A G H σ a R fun J l P A' G' H' μ' m n gv ⟨e, I, i0, it, ie⟩ => q J l P A' G' H' μ' m n gv ⟨I, fun _ _ _ _ => by rw [e]; exact trivial, i0, it, ie⟩
/-- while, by a word and a number that falls -/
theorem se_while {t : TT} (I : Nat → Sl → List Cell → Prop) (m0 : Nat) (i0 : I m0 δ μ)
    (h : ∀ m δ' μ', I m δ' μ' → ET K S t δ' μ' fun b μ1 => (b = true → SE K S tz δ' μ1 { nx := fun δ2 μ2 => ∃ m', m' < m ∧ I m' δ2 μ2, ct := fun δ2 μ2 => ∃ m', m' < m ∧ I m' δ2 μ2, rt := E.rt, bk := E.nx }) ∧ (b = false → E.nx δ' μ1)) :
    SE K S (tWhile t tz) δ μ E := fun A G H σ a F f => by
  refine ⟨fun m σ' H' => ∃ A2 G2 δ2 μ2, At K S A2 G2 H' σ' δ2 μ2 ∧ Nw A G A2 G2 ∧ I m δ2 μ2, ⟨m0, A, G, δ, μ, a, Nw.refl, i0⟩, ?_⟩
  rintro m σ' H' ⟨A2, G2, δ2, μ2, a2, n2, w⟩
  refine h m δ2 μ2 w A2 G2 H' σ' a2 _ fun b A3 G3 H3 μ3 m3 n3 ⟨h1, h2⟩ => ?_
  cases b with
  | true =>
    rw [if_pos rfl]
    refine ⟨fun σ4 H4 => ∃ m', m' < m ∧ ∃ A4 G4 δ4 μ4, At K S A4 G4 H4 σ4 δ4 μ4 ∧ Nw A G A4 G4 ∧ I m' δ4 μ4, fun σ4 H4 ⟨m', hm, w4⟩ => ⟨m', hm, w4⟩, ?_⟩
    refine h1 rfl A3 G3 H3 σ' ⟨m3, n3.en a2.env⟩ _ ⟨fun A5 G5 H5 σ5 δ5 μ5 a5 n5 ⟨m', hm, c5⟩ => ⟨m', hm, A5, G5, δ5, μ5, a5, (n2.trans n3).trans n5, c5⟩, f.rt, fun A5 G5 H5 σ5 δ5 μ5 a5 n5 c5 => ?_,
      fun A5 G5 H5 σ5 δ5 μ5 a5 n5 ⟨m', hm, c5⟩ => ⟨m', hm, A5, G5, δ5, μ5, a5, (n2.trans n3).trans n5, c5⟩⟩
    exact f.nx A5 G5 H5 σ5 δ5 μ5 a5 ((n2.trans n3).trans n5) c5
  | false =>
    rw [if_neg Bool.false_ne_true]
    exact f.nx A3 G3 H3 σ' δ2 μ3 ⟨m3, n3.en a2.env⟩ (n2.trans n3) (h2 rfl)

/-! ### comprehensions -/
def wipeS (δ : Sl) : List Nat → Sl
  | [] => δ
  | v :: vs => (wipeS δ vs).set v none
theorem wipe_en {A : List Addr} {G : Hp} {δ : Sl} {σ : St} (h : En K A G δ σ) : ∀ vs : List Nat, En K A G (wipeS δ vs) (wipe σ vs)
  | [] => h
  | v :: vs => by
    show En K A G ((wipeS δ vs).set v none) ((wipe σ vs).set v none)
    exact En.unset v none (wipe_en h vs)
theorem wipe_set {σ : St} {i : Nat} {o : Option V} : ∀ vs : List Nat, wipe (σ.set i o) vs = if i ∈ vs then wipe σ vs else (wipe σ vs).set i o
  | [] => by simp [wipe]
  | v :: vs => by
    have ih := wipe_set (σ := σ) (i := i) (o := o) vs
    show (wipe (σ.set i o) vs).set v none = if i ∈ v :: vs then (wipe σ vs).set v none else ((wipe σ vs).set v none).set i o
    rw [ih]
    by_cases e : i = v
    · subst e
      rw [if_pos List.mem_cons_self]
      split
      · rfl
      · rw [List.set_set]
    · by_cases hm : i ∈ vs
      · rw [if_pos hm, if_pos (List.mem_cons_of_mem _ hm)]
      · rw [if_neg hm, if_neg (by simp [e, hm]), List.set_comm _ _ e]
theorem wipe_in {σ : St} {i : Nat} {o : Option V} {vs : List Nat} (h : i ∈ vs) : wipe (σ.set i o) vs = wipe σ vs := by rw [wipe_set, if_pos h]
theorem wipe_twice (σ : St) : ∀ vs : List Nat, wipe (wipe σ vs) vs = wipe σ vs
  | [] => rfl
  | v :: vs => by
    show (wipe ((wipe σ vs).set v none) vs).set v none = (wipe σ vs).set v none
    rw [wipe_set]
    split
    · rw [wipe_twice σ vs]
    · rw [wipe_twice σ vs, List.set_set]
/-- a comprehension's target: it stores at the places vs alone -/
def GW (K : PySem.W.Frag) (S : Bs) (g : TG) (vs : List Nat) (d : D) (δ : Sl) (μ : List Cell) (C : Sl → List Cell → Prop) : Prop :=
  ∀ A G H σ v, At K S A G H σ δ μ → Rp K A G d v → ∀ Q : St → Hp → Prop, (∀ A' G' H' σ' δ' μ', At K S A' G' H' σ' δ' μ' → Nw A G A' G' → wipe σ' vs = wipe σ vs → C δ' μ' → Q σ' H') → g v σ H Q
theorem gw_name {i : Nat} {vs : List Nat} {d : D} {C : Sl → List Cell → Prop} (hi : i ∈ vs) (k : C (δ.set i (some d)) μ) : GW K S (gName i) vs d δ μ C := fun A G H σ v a r Q q =>
  q A G H _ _ μ ⟨a.m, En.set r i a.env⟩ Nw.refl (wipe_in hi) k
theorem gw_pair {i j : Nat} {vs : List Nat} {x y : D} {C : Sl → List Cell → Prop} (hi : i ∈ vs) (hj : j ∈ vs) (k : C ((δ.set i (some x)).set j (some y)) μ) : GW K S (gTup K 2 (gCons (gName i) (gCons (gName j) gNil))) vs (.tup [x, y]) δ μ C := fun A G H σ v a r Q q => by
  cases r with
  | tup hs rl =>
    cases rl with
    | cons rx r =>
      cases r with
      | cons ry r =>
        cases r
        exact ⟨_, _, rfl, ex_t a.m.ex hs.sq, rfl, _, _, rfl, _, _, rfl, rfl, q A G H _ _ μ ⟨a.m, En.set ry j (En.set rx i a.env)⟩ Nw.refl (by rw [wipe_in hj, wipe_in hi]) k⟩
theorem ge_pair {i j : Nat} {x y : D} {C : Sl → List Cell → Prop} (k : C ((δ.set i (some x)).set j (some y)) μ) : GE K S (gTup K 2 (gCons (gName i) (gCons (gName j) gNil))) (.tup [x, y]) δ μ C := fun A G H σ v a r Q q => by
  cases r with
  | tup hs rl =>
    cases rl with
    | cons rx r =>
      cases r with
      | cons ry r =>
        cases r
        exact ⟨_, _, rfl, ex_t a.m.ex hs.sq, rfl, _, _, rfl, _, _, rfl, rfl, q A G H _ _ μ ⟨a.m, En.set ry j (En.set rx i a.env)⟩ Nw.refl k⟩
theorem ge_three {i j n : Nat} {x y z : D} {C : Sl → List Cell → Prop} (k : C (((δ.set i (some x)).set j (some y)).set n (some z)) μ) : GE K S (gTup K 3 (gCons (gName i) (gCons (gName j) (gCons (gName n) gNil)))) (.tup [x, y, z]) δ μ C := fun A G H σ v a r Q q => by
  cases r with
  | tup hs rl =>
    cases rl with
    | cons rx r =>
      cases r with
      | cons ry r =>
        cases r with
        | cons rz r =>
          cases r
          exact ⟨_, _, rfl, ex_t a.m.ex hs.sq, rfl, _, _, rfl, _, _, rfl, _, _, rfl, rfl, q A G H _ _ μ ⟨a.m, En.set rz n (En.set ry j (En.set rx i a.env))⟩ Nw.refl k⟩
theorem ge_four {i j n o : Nat} {x y z w : D} {C : Sl → List Cell → Prop} (k : C ((((δ.set i (some x)).set j (some y)).set n (some z)).set o (some w)) μ) : GE K S (gTup K 4 (gCons (gName i) (gCons (gName j) (gCons (gName n) (gCons (gName o) gNil))))) (.tup [x, y, z, w]) δ μ C := fun A G H σ v a r Q q => by
  cases r with
  | tup hs rl =>
    cases rl with
    | cons rx r =>
      cases r with
      | cons ry r =>
        cases r with
        | cons rz r =>
          cases r with
          | cons rw' r =>
            cases r
            exact ⟨_, _, rfl, ex_t a.m.ex hs.sq, rfl, _, _, rfl, _, _, rfl, _, _, rfl, _, _, rfl, rfl, q A G H _ _ μ ⟨a.m, En.set rw' o (En.set rz n (En.set ry j (En.set rx i a.env)))⟩ Nw.refl k⟩
theorem Nw.wipeE {A A' : List Addr} {G G' : Hp} (n : Nw A G A' G') {δ : Sl} {σ : St} (h : En K A G δ σ) (vs : List Nat) : En K A' G' (wipeS δ vs) (wipe σ vs) := n.en (wipe_en h vs)
/-! content that hangs on the first n open lists alone -/
def Cell.lt (n : Nat) : Cell → Bool
  | .lst l => D.ltL n l
  | .gen _ l => D.ltL n l
  | .off => true
def cellsLt (n : Nat) (μ : List Cell) : Bool := μ.all (Cell.lt n)
theorem cellsLt_at {n : Nat} {μ : List Cell} (h : cellsLt n μ = true) {k : Nat} {c : Cell} (hk : μ[k]? = some c) : c.lt n = true := List.all_eq_true.mp h c (List.mem_of_getElem? hk)
mutual
theorem Rp.scope {A : List Addr} {G : Hp} : ∀ {d : D} {x : V}, Rp K A G d x → d.lt A.length = true
  | _, _, .v x => rfl
  | _, _, .own h => decide_eq_true (List.getElem?_eq_some_iff.mp h).1
  | _, _, .lst h r => RpL.scope r
  | _, _, .rd h r => RpL.scope r
  | _, _, .tup h r => RpL.scope r
  | _, _, .dic n h r => RpL.scope r
  | _, _, .exc (d := d) h1 h2 r => show D.lt A.length d = true from Rp.scope r
theorem RpL.scope {A : List Addr} {G : Hp} : ∀ {l : List D} {xs : List V}, RpL K A G l xs → D.ltL A.length l = true
  | _, _, .nil => rfl
  | _, _, .cons (d := d) (l := l) h r => by
    exact Bool.and_eq_true_iff.mpr ⟨Rp.scope h, RpL.scope r⟩
end
theorem Mem.scope {A : List Addr} {G H : Hp} (m : Mem K S A G H μ) : cellsLt μ.length μ = true := by
  refine List.all_eq_true.mpr fun c hc => ?_
  obtain ⟨k, hk⟩ := List.getElem?_of_mem hc
  have hlt : k < A.length := by rw [m.len]; exact (List.getElem?_eq_some_iff.mp hk).1
  have hA : A[k]? = some A[k] := by simp [hlt]
  have q := m.cel k _ c hA hk
  cases c with
  | off => rfl
  | lst l =>
    obtain ⟨_, xs, _, r⟩ := q
    rw [← m.len]
    exact r.scope
  | gen tg l =>
    obtain ⟨_, xs, _, _, r⟩ := q
    rw [← m.len]
    exact r.scope
/-- the last open list is let go of, shut -/
theorem Mem.popShut {A : List Addr} {G H : Hp} {a : Addr} {l : List D} {μ : List Cell} (hk : S.A.length ≤ A.length) (m : Mem K S (A ++ [a]) G H (μ ++ [.lst l])) (hμ : cellsLt A.length μ = true) (hl : D.ltL A.length l = true) : ∃ xs, H a = some (.lst xs) ∧ G a = none ∧ RpL K A G l xs ∧ Mem K S A (upd G a (.lst xs)) H μ := by
  have hA : (A ++ [a])[A.length]? = some a := by rw [List.getElem?_append_right (Nat.le_refl _), Nat.sub_self]; rfl
  have hlen : A.length = μ.length := by
    have z := m.len
    rw [List.length_append, List.length_append] at z
    simpa using z
  have hc : (μ ++ [Cell.lst l])[A.length]? = some (.lst l) := by rw [hlen, List.getElem?_append_right (Nat.le_refl _), Nat.sub_self]; rfl
  have hf : ∀ k b, k < A.length → (A ++ [a])[k]? = some b → A[k]? = some b := fun k b h1 h2 => by
    rw [List.getElem?_append_left h1] at h2
    exact h2
  obtain ⟨g, xs, hx, r⟩ := m.cel A.length a _ hA hc
  have m2 := m.shut hk hA hc hx
  refine ⟨xs, hx, g, r.keep hf hl, ?_⟩
  exact {
    ex := m2.ex
    exG := m2.exG
    pre := by
      obtain ⟨B, hB, hb⟩ := m2.pre
      have e : A = (A ++ [a]).take A.length := by rw [List.take_append_of_le_length (Nat.le_refl _), List.take_length]
      refine ⟨B.take (A.length - S.A.length), ?_, fun b q => hb b (List.mem_of_mem_take q)⟩
      have e2 : (A ++ [a]).take A.length = S.A ++ B.take (A.length - S.A.length) := by rw [hB, List.take_append, List.take_of_length_le hk]
      exact e.trans e2
    new := m2.new
    keep := m2.keep
    cel := fun k b c h1 h2 => by
      have hk1 := (List.getElem?_eq_some_iff.mp h1).1
      have q := m2.cel k b c (by rw [List.getElem?_append_left hk1]; exact h1) (by
        rw [List.getElem?_set_ne (by omega), List.getElem?_append_left (by rw [← hlen]; exact hk1)]
        exact h2)
      have hcl := cellsLt_at hμ h2
      cases c with
      | off => trivial
      | lst l' =>
        obtain ⟨g', ys, hy, r'⟩ := q
        exact ⟨g', ys, hy, r'.keep hf hcl⟩
      | gen tg l' =>
        obtain ⟨g', ys, hn, hy, r'⟩ := q
        exact ⟨g', ys, hn, hy, r'.keep hf hcl⟩
    len := hlen
    nd := (List.nodup_append.mp m2.nd).1
    al := fun b hb => m2.al b (List.mem_append_left _ hb) }
/-- [e for .. in .. if ..]: by a word over (turn, what it holds so far, the open lists) -/
theorem ee_lcI {vs : List Nat} {C : D → List Cell → Prop} (h : IE K S wi δ μ fun l P μ1 => ∃ I : Nat → List D → List Cell → Prop, (∀ i acc μ', I i acc μ' → P (μ' ++ [.lst acc])) ∧ I 0 [] μ1 ∧ (∀ i acc μ', I i acc μ' → μ'.length = μ1.length ∧ cellsLt μ1.length μ' = true ∧ D.ltL μ1.length acc = true) ∧
      (∀ (i : Nat) x acc μ', l[i]? = some x → I i acc μ' → GW K S g vs x (wipeS δ vs) (μ' ++ [.lst acc]) fun δ2 μ2 => ET K S t δ2 μ2 fun b μ3 =>
        (b = true → EE K S te δ2 μ3 fun d μ4 => ∃ μ5, μ4 = μ5 ++ [.lst acc] ∧ acc.length < 10000000 ∧ I (i + 1) (acc ++ [d]) μ5) ∧ (b = false → ∃ μ5, μ3 = μ5 ++ [.lst acc] ∧ I (i + 1) acc μ5)) ∧
      ∀ acc μ', I l.length acc μ' → C (.lst acc) μ') : EE K S (tLc wi g t te vs) δ μ C := fun A G H σ a Q q =>
  h A G H σ a _ fun J l P A1 G1 H1 μ1 m1 n1 gv ⟨I, ip, i0, il, it, ie⟩ => by
    intro p hp
    have hlen0 : A1.length = μ1.length := m1.len
    refine ⟨fun i n H' => n = l.length - i ∧ i ≤ l.length ∧ ∃ G2 acc μ2, Mem K S (A1 ++ [p]) G2 H' (μ2 ++ [.lst acc]) ∧ Ex G1 G2 ∧ I i acc μ2, ⟨l.length, by omega, Nat.zero_le _, G1, [], μ1, m1.opened hp .nil, Ex.refl _, i0⟩, ?_⟩
    rintro i n H' ⟨hn, hi, G2, acc, μ2, m2, e2, w⟩
    have n2 : Nw A1 G1 (A1 ++ [p]) G2 := ⟨⟨[p], rfl⟩, e2⟩
    obtain ⟨g1, g2⟩ := gv i _ G2 H' _ m2 n2 (ip i acc μ2 w)
    have hS : S.A.length ≤ A1.length := by
      obtain ⟨B, hB, _⟩ := m1.pre
      rw [hB, List.length_append]
      omega
    by_cases hlt : i < l.length
    · obtain ⟨x, hx⟩ : ∃ x, l[i]? = some x := ⟨l[i], by simp [hlt]⟩
      obtain ⟨go, yl⟩ := g1 x hx
      refine .inr ⟨go, fun H3 => ∃ G3 acc3 μ3, Mem K S (A1 ++ [p]) G3 H3 (μ3 ++ [.lst acc3]) ∧ Ex G1 G3 ∧ I (i + 1) acc3 μ3, fun H3 w3 => ⟨l.length - (i + 1), by omega, rfl, hlt, w3⟩, fun y H3 hy => ?_⟩
      obtain ⟨G3, m3, e3, r3⟩ := yl y H3 hy
      have n3 : Nw (A1 ++ [p]) G2 (A1 ++ [p]) G3 := .of e3
      have en3 := ((n1.trans n2).trans n3).wipeE a.env vs
      refine it i x acc μ2 hx w _ G3 H3 _ y ⟨m3, en3⟩ r3 _ fun A4 G4 H4 σ4 δ4 μ4 a4 n4 hw c => ?_
      refine ⟨by rw [hw, wipe_twice], ?_⟩
      have same : ∀ {A5 : List Addr} {G5 H5 : Hp} {acc' : List D} {μ5 : List Cell}, Mem K S A5 G5 H5 (μ5 ++ [.lst acc']) → Nw (A1 ++ [p]) G3 A5 G5 → μ5.length = μ1.length → A5 = A1 ++ [p] := fun {A5 G5 H5 acc' μ5} m5 n5 hl => by
        obtain ⟨⟨B, hB⟩, _⟩ := n5
        have z := m5.len
        rw [hB, List.length_append, List.length_append, List.length_append, hl] at z
        have hb : B.length = 0 := by simp at z; omega
        have hb2 : B = [] := List.length_eq_zero_iff.mp hb
        rw [hB, hb2, List.append_nil]
      refine c A4 G4 H4 σ4 a4 _ fun b A5 G5 H5 μ5 m5 n5 ⟨ht, hf⟩ => ?_
      cases b with
      | true =>
        rw [if_pos rfl]
        refine ht rfl A5 G5 H5 σ4 ⟨m5, n5.en a4.env⟩ _ fun v d A6 G6 H6 μ6 m6 n6 r6 ⟨μ7, e7, hz, w7⟩ => ?_
        subst e7
        have eA := same m6 ((n4.trans n5).trans n6) (il _ _ _ w7).1
        subst eA
        have hA : (A1 ++ [p])[A1.length]? = some p := by rw [List.getElem?_append_right (Nat.le_refl _), Nat.sub_self]; rfl
        have hl7 : A1.length = μ7.length := by rw [hlen0, (il _ _ _ w7).1]
        have hc : (μ7 ++ [Cell.lst acc])[A1.length]? = some (.lst acc) := by rw [hl7, List.getElem?_append_right (Nat.le_refl _), Nat.sub_self]; rfl
        obtain ⟨gp, xs, hxs, rx⟩ := m6.cel A1.length p _ hA hc
        refine ⟨xs, hxs, smalr (by rw [← rx.len]; exact hz), G6, acc ++ [d], μ7, ?_, (((e2.trans e3).trans n4.ex).trans n5.ex).trans n6.ex, w7⟩
        have mw := m6.wrote hA hc (rx.append (.cons r6 .nil))
        have es : (μ7 ++ [Cell.lst acc]).set A1.length (.lst (acc ++ [d])) = μ7 ++ [.lst (acc ++ [d])] := by
          rw [hl7, List.set_append_right _ _ (Nat.le_refl _), Nat.sub_self]
          rfl
        rw [es] at mw
        exact mw
      | false =>
        rw [if_neg Bool.false_ne_true]
        obtain ⟨μ7, e7, w7⟩ := hf rfl
        subst e7
        have eA := same m5 (n4.trans n5) (il _ _ _ w7).1
        subst eA
        exact ⟨G5, acc, μ7, m5, ((e2.trans e3).trans n4.ex).trans n5.ex, w7⟩
    · have e : i = l.length := by omega
      refine .inl ⟨g2 e, ?_⟩
      obtain ⟨w1, w2, w3⟩ := il _ _ _ w
      obtain ⟨xs, hxs, gp, rx, mp⟩ := m2.popShut hS (by rw [hlen0]; exact w2) (by rw [hlen0]; exact w3)
      have ne := Ex.new (o := .lst xs) gp
      exact q (.ref p) (.lst acc) A1 _ H' μ2 mp (n1.trans (.of (e2.trans ne))) (.lst upd_same (rx.mono0 ne)) (ie acc μ2 (by rw [← e]; exact w))
/-- .. whose elements change nothing -/
theorem ee_lc {vs : List Nat} {C : D → List Cell → Prop} (h : IE K S wi δ μ fun l P μ1 => (∀ c, P μ1 → P (μ1 ++ [c])) ∧ P μ1 ∧ ∃ (f : D → Bool) (e : D → D), l.length ≤ 10000000 ∧ (∀ x ∈ l, f x = true → (e x).lt μ1.length = true) ∧
      (∀ x acc, x ∈ l → GW K S g vs x (wipeS δ vs) (μ1 ++ [.lst acc]) fun δ2 μ2 => ET K S t δ2 μ2 fun b μ3 => b = f x ∧ μ3 = μ1 ++ [.lst acc] ∧ (b = true → EE K S te δ2 μ3 fun d μ4 => d = e x ∧ μ4 = μ1 ++ [.lst acc])) ∧
      C (.lst ((l.filter f).map e)) μ1) : EE K S (tLc wi g t te vs) δ μ C := by
  refine ee_lcI fun A G H σ a R q => h A G H σ a R fun J l P A1 G1 H1 μ1 m1 n1 gv ⟨hP, hP1, f, e, hl, hno, ht, c⟩ => q J l P A1 G1 H1 μ1 m1 n1 gv ?_
  refine ⟨fun i acc μ' => μ' = μ1 ∧ acc = ((l.take i).filter f).map e, fun i acc μ' w => by rw [w.1]; exact hP _ hP1, ⟨rfl, by simp⟩, fun i acc μ' w => by
    rw [w.1, w.2]
    refine ⟨rfl, m1.scope, D.ltL_all.mpr fun d hd => ?_⟩
    obtain ⟨x, hx, rfl⟩ := List.mem_map.mp hd
    obtain ⟨hx1, hx2⟩ := List.mem_filter.mp hx
    exact hno x (List.mem_of_mem_take hx1) hx2, fun i x acc μ' hx w => ?_, fun acc μ' w => ?_⟩
  · obtain ⟨rfl, ea⟩ := w
    have hm : x ∈ l := List.mem_of_getElem? hx
    have ht1 : l.take (i + 1) = l.take i ++ [x] := by
      obtain ⟨hi, e1⟩ := List.getElem?_eq_some_iff.mp hx
      rw [List.take_succ, hx]
      rfl
    have hlen : acc.length < 10000000 := by
      have h1 : acc.length ≤ i := by
        rw [ea, List.length_map]
        exact Nat.le_trans (List.length_filter_le _ _) (by rw [List.length_take]; omega)
      have h2 := (List.getElem?_eq_some_iff.mp hx).1
      omega
    intro A2 G2 H2 σ2 v2 a2 r2 Q2 q2
    refine ht x acc hm A2 G2 H2 σ2 v2 a2 r2 Q2 fun A3 G3 H3 σ3 δ3 μ3 a3 n3 hw c3 => q2 A3 G3 H3 σ3 δ3 μ3 a3 n3 hw ?_
    intro A4 G4 H4 σ4 a4 Q4 q4
    refine c3 A4 G4 H4 σ4 a4 Q4 fun b A5 G5 H5 μ5 m5 n5 ⟨eb, em, c5⟩ => q4 b A5 G5 H5 μ5 m5 n5 ⟨fun hb => ?_, fun hb => ?_⟩
    · refine (c5 hb).imp fun d μ6 ⟨ed, e6⟩ => ⟨_, e6, hlen, rfl, ?_⟩
      rw [ea, ht1, List.filter_append, List.map_append, List.filter_cons, if_pos (by rw [← eb]; exact hb), ed]
      rfl
    · refine ⟨_, em, rfl, ?_⟩
      rw [ea, ht1, List.filter_append, List.map_append, List.filter_cons, if_neg (by rw [← eb, hb]; exact Bool.false_ne_true)]
      simp
  · obtain ⟨rfl, ea⟩ := w
    rw [ea, List.take_length]
    exact c
end
end PA

set_option Elab.async false
set_option linter.all false
set_option maxRecDepth 100000
set_option maxHeartbeats 2000000
/-! PbCall: promises over data with open lists, how a def keeps one, how a call uses it. -/
namespace PA
open PySem L2
def Cell.ren (f : Nat → Nat) : Cell → Cell
  | .lst l => .lst (D.renL f l)
  | .gen t l => .gen t (D.renL f l)
  | .off => .off
def Cell.hs (p : Nat → Bool) : Cell → Bool
  | .lst l => D.hsL p l
  | .gen _ l => D.hsL p l
  | .off => true
/-- THE PROMISE: for each t that suits (pre), called with the data arg t while the open lists handed in hold cel t, it ends with post (behind the lists handed in come its new ones), or lets an error out by exc -/
def Pro (K : PySem.W.Frag) {T : Type} (cel : T → List Cell) (arg : T → List D) (pre : T → Prop) (post : T → D → List Cell → Prop) (exc : T → Addr → D → List Cell → Prop) : Sp := fun vs H Q E =>
  ∃ (t : T) (A : List Addr) (G : Hp), pre t ∧ Mem K ⟨A, G, H⟩ A G H (cel t) ∧ RpL K A G (arg t) vs ∧
    (∀ v d B G' H' μ, Mem K ⟨A, G, H⟩ (A ++ B) G' H' μ → Rp K (A ++ B) G' d v → post t d μ → Q v H') ∧
    ∀ c dx u d G' H' μ, Mem K ⟨A, G, H⟩ A G' H' μ → H dx = none → G' dx = none → H' dx = some (.xd [(("value" : Str), u)]) → Rp K A G' d u → exc t c d μ → E (.ref c) (some dx) H'
/-- .. without open lists -/
abbrev ProP (K : PySem.W.Frag) {T : Type} (arg : T → List D) (pre : T → Prop) (post : T → D → Prop) (exc : T → Addr → D → Prop) : Sp :=
  Pro K (fun _ => []) arg pre (fun t d μ => μ = [] ∧ post t d) (fun t c d _ => exc t c d)
/-- .. that gives one new list -/
abbrev ProN (K : PySem.W.Frag) {T : Type} (arg : T → List D) (pre : T → Prop) (post : T → List D → Prop) (exc : T → Addr → D → Prop) : Sp :=
  Pro K (fun _ => []) arg pre (fun t d μ => ∃ l, d = .own 0 ∧ μ = [.lst l] ∧ D.ltL 0 l = true ∧ post t l) (fun t c d _ => exc t c d)
section
variable {K : PySem.W.Frag} {S : Bs} {δ : Sl} {μ ν : List Cell} {A A' B : List Addr} {G H G' H' : Hp}
theorem getD_get {A : List Addr} {k : Nat} (h : k < A.length) : A[k]? = some (A.getD k 0) := by
  rw [List.getD_eq_getElem?_getD, List.getElem?_eq_getElem h]
  rfl
theorem getD_cell {μ : List Cell} {k : Nat} (h : k < μ.length) : μ[k]? = some (μ.getD k .off) := by
  rw [List.getD_eq_getElem?_getD, List.getElem?_eq_getElem h]
  rfl
theorem CellAt.ren {f : Nat → Nat} {p : Nat → Bool} {a : Addr} {c : Cell} (hf : ∀ k a, p k = true → A[k]? = some a → A'[f k]? = some a) (h : CellAt K A G H a c) (hc : c.hs p = true) : CellAt K A' G H a (c.ren f) := by
  cases c with
  | off => trivial
  | lst l =>
    obtain ⟨g, xs, hx, r⟩ := h
    exact ⟨g, xs, hx, r.ren hf hc⟩
  | gen tg l =>
    obtain ⟨g, xs, hn, hx, r⟩ := h
    exact ⟨g, xs, hn, hx, r.ren hf hc⟩
/-! ### letting go -/
def fk (n : Nat) (ks : List Nat) (k : Nat) : Nat := if k < n then k else n + ks.idxOf k
def pk (n : Nat) (ks : List Nat) (k : Nat) : Bool := decide (k < n) || ks.contains k
def kept (n : Nat) (ks : List Nat) (μ : List Cell) : List Cell := (μ.take n ++ ks.map fun k => μ.getD k .off).map (Cell.ren (fk n ks))
theorem fk_at {ks : List Nat} (hks : ∀ k ∈ ks, S.A.length ≤ k ∧ k < A.length) (hA : ∃ B, A = S.A ++ B) : ∀ k a, pk S.A.length ks k = true → A[k]? = some a → (S.A ++ ks.map fun k => A.getD k 0)[fk S.A.length ks k]? = some a := fun k a hp h => by
  obtain ⟨B, hB⟩ := hA
  unfold fk
  by_cases hk : k < S.A.length
  · rw [if_pos hk, List.getElem?_append_left hk]
    rw [hB, List.getElem?_append_left hk] at h
    exact h
  · rw [if_neg hk]
    have hm : k ∈ ks := by
      unfold pk at hp
      rw [decide_eq_false hk, Bool.false_or] at hp
      simpa using hp
    rw [List.getElem?_append_right (by omega), Nat.add_sub_cancel_left, List.getElem?_map, List.getElem?_eq_getElem (List.idxOf_lt_length_of_mem hm)]
    have e : ks[ks.idxOf k]'(List.idxOf_lt_length_of_mem hm) = k := List.getElem_idxOf (List.idxOf_lt_length_of_mem hm)
    rw [e]
    show some (A.getD k 0) = some a
    rw [← getD_get (hks k hm).2, h]
theorem Mem.trim {ks : List Nat} (m : Mem K S A G H μ) (hn : ks.Nodup) (hks : ∀ k ∈ ks, S.A.length ≤ k ∧ k < μ.length) (hc : ∀ c ∈ μ.take S.A.length ++ ks.map (fun k => μ.getD k .off), c.hs (pk S.A.length ks) = true) :
    Mem K S (S.A ++ ks.map fun k => A.getD k 0) G H (kept S.A.length ks μ) := by
  obtain ⟨B, hB, hb⟩ := id m.pre
  have hksA : ∀ k ∈ ks, S.A.length ≤ k ∧ k < A.length := fun k hk => by rw [m.len]; exact hks k hk
  have hf := fk_at hksA ⟨B, hB⟩
  have hnA : S.A.length ≤ A.length := by rw [hB, List.length_append]; omega
  have inB : ∀ k ∈ ks, A.getD k 0 ∈ B := fun k hk => by
    have h1 := getD_get (hksA k hk).2
    have h2 : (S.A ++ B)[k]? = some (A.getD k 0) := by rw [← hB]; exact h1
    rw [List.getElem?_append_right (hksA k hk).1] at h2
    exact List.mem_of_getElem? h2
  exact {
    ex := m.ex
    exG := m.exG
    pre := ⟨_, rfl, fun b hb2 => by
      obtain ⟨k, hk, rfl⟩ := List.mem_map.mp hb2
      exact hb _ (inB k hk)⟩
    new := m.new
    keep := m.keep
    cel := fun k a c h1 h2 => by
      unfold kept at h2
      rw [List.getElem?_map] at h2
      by_cases hk : k < S.A.length
      · rw [List.getElem?_append_left hk] at h1
        have hk2 : k < (μ.take S.A.length).length := by rw [List.length_take, ← m.len]; omega
        rw [List.getElem?_append_left hk2, List.getElem?_take_of_lt hk] at h2
        cases q : μ[k]? with
        | none => rw [q] at h2; cases h2
        | some c0 =>
          rw [q] at h2
          cases h2
          have hm : c0 ∈ μ.take S.A.length := List.mem_of_getElem? (by rw [List.getElem?_take_of_lt hk]; exact q)
          exact (m.cel k a c0 (by rw [hB, List.getElem?_append_left hk]; exact h1) q).ren hf (hc c0 (List.mem_append_left _ hm))
      · have hlt : (μ.take S.A.length).length = S.A.length := by rw [List.length_take, ← m.len]; omega
        rw [List.getElem?_append_right (by omega), List.getElem?_map] at h1
        rw [List.getElem?_append_right (by omega), hlt, List.getElem?_map] at h2
        cases q : ks[k - S.A.length]? with
        | none => rw [q] at h1; cases h1
        | some j =>
          rw [q] at h1 h2
          cases h1
          cases h2
          have hj : j ∈ ks := List.mem_of_getElem? q
          exact (m.cel j _ _ (getD_get (hksA j hj).2) (getD_cell (hks j hj).2)).ren hf (hc _ (List.mem_append_right _ (List.mem_map_of_mem hj)))
    len := by
      unfold kept
      rw [List.length_map, List.length_append, List.length_append, List.length_map, List.length_map, List.length_take, ← m.len]
      omega
    nd := by
      refine List.nodup_append.mpr ⟨?_, ?_, fun a ha b hb2 e => ?_⟩
      · have q := m.nd
        rw [hB] at q
        exact (List.nodup_append.mp q).1
      · refine List.pairwise_map.mpr ?_
        refine List.Pairwise.imp_of_mem (fun {i j} hi hj hij e => hij ?_) hn
        have h1 := getD_get (hksA i hi).2
        have h2 := getD_get (hksA j hj).2
        rw [e, ← h2] at h1
        obtain ⟨p1, e1⟩ := List.getElem?_eq_some_iff.mp (getD_get (hksA i hi).2)
        obtain ⟨p2, e2⟩ := List.getElem?_eq_some_iff.mp (getD_get (hksA j hj).2)
        exact (List.getElem_inj m.nd).mp (e1.trans (e.trans e2.symm))
      · obtain ⟨k, hk, rfl⟩ := List.mem_map.mp hb2
        have q := m.nd
        rw [hB] at q
        exact (List.nodup_append.mp q).2.2 a ha _ (inB k hk) e
    al := fun a ha => by
      refine m.al a ?_
      rcases List.mem_append.mp ha with ha | ha
      · rw [hB]; exact List.mem_append_left _ ha
      · obtain ⟨k, hk, rfl⟩ := List.mem_map.mp ha
        exact List.mem_of_getElem? (getD_get (hksA k hk).2) }
/-- what is wished of an error that leaves -/
def Wi (K : PySem.W.Frag) (S : Bs) (E : XK) (CE : Addr → D → List Cell → Prop) : Prop :=
  ∀ c dx u d A G H μ, Mem K S A G H μ → S.H dx = none → G dx = none → H dx = some (.xd [(("value" : Str), u)]) → Rp K A G d u → CE c d μ → E (.ref c) (some dx) H
theorem Wi.none {E : XK} : Wi K S E (fun _ _ _ => False) := fun _ _ _ _ _ _ _ _ _ _ _ _ _ z => z.elim
/-- how a def begins -/
def startS (N : List Str) (ds : List D) : Sl := ds.map some ++ List.replicate (N.length - ds.length) none
theorem start_en {N : List Str} : ∀ {ds : List D} {vs : List V}, RpL K A G ds vs → En K A G (ds.map some ++ List.replicate (N.length - ds.length) none) (vs.map some ++ List.replicate (N.length - vs.length) none) := by
  have fill : ∀ n : Nat, En K A G (List.replicate n none) (List.replicate n none) := by
    intro n
    induction n with
    | zero => exact .nil
    | succ n ih => exact .skip ih
  have key : ∀ {ds : List D} {vs : List V} (n : Nat), RpL K A G ds vs → En K A G (ds.map some ++ List.replicate n none) (vs.map some ++ List.replicate n none) := by
    intro ds
    induction ds with
    | nil =>
      intro vs n h
      cases h
      exact fill n
    | cons d ds ih =>
      intro vs n h
      cases h with
      | cons h r => exact .cons h (ih n r)
  intro ds vs h
  rw [h.len]
  have := key (N.length - vs.length) h
  exact this
/-- a value given back: ks are the lists of one's own that go with it -/
def Gave (S : Bs) (P : D → List Cell → Prop) (d : D) (μ : List Cell) : Prop :=
  ∃ ks : List Nat, ks.Nodup ∧ (∀ k ∈ ks, S.A.length ≤ k ∧ k < μ.length) ∧ d.hs (pk S.A.length ks) = true ∧ (∀ c ∈ μ.take S.A.length ++ ks.map (fun k => μ.getD k .off), c.hs (pk S.A.length ks) = true) ∧ P (d.ren (fk S.A.length ks)) (kept S.A.length ks μ)
theorem pk_lt {n : Nat} {ks : List Nat} : ∀ k, decide (k < n) = true → pk n ks k = true := fun k h => by
  unfold pk
  rw [h]
  rfl
theorem Cell.hs_mono {p q : Nat → Bool} (hp : ∀ k, p k = true → q k = true) {c : Cell} (h : c.hs p = true) : c.hs q = true := by
  cases c with
  | off => rfl
  | lst l => exact D.hsL_mono hp h
  | gen _ l => exact D.hsL_mono hp h
theorem Cell.lt_hs {n : Nat} {c : Cell} : c.lt n = c.hs fun k => decide (k < n) := by cases c <;> rfl
theorem Cell.ren_id {f : Nat → Nat} {p : Nat → Bool} (hf : ∀ k, p k = true → f k = k) {c : Cell} (h : c.hs p = true) : c.ren f = c := by
  cases c with
  | off => rfl
  | lst l => exact congrArg Cell.lst (D.renL_id hf h)
  | gen tg l => exact congrArg (Cell.gen tg) (D.renL_id hf h)
theorem fk_lt {n : Nat} {ks : List Nat} : ∀ k, decide (k < n) = true → fk n ks k = k := fun k h => if_pos (of_decide_eq_true h)
theorem map_ren {n : Nat} {ks : List Nat} : ∀ {μ : List Cell}, cellsLt n μ = true → μ.map (Cell.ren (fk n ks)) = μ
  | [], _ => rfl
  | c :: μ, h => by
    unfold cellsLt at h
    rw [List.all_cons, Bool.and_eq_true] at h
    rw [List.map_cons, map_ren h.2, Cell.ren_id fk_lt (by rw [← Cell.lt_hs]; exact h.1)]
/-- nothing new goes with it -/
theorem gave {P : D → List Cell → Prop} {d : D} (h1 : d.lt S.A.length = true) (h2 : cellsLt S.A.length (μ.take S.A.length) = true) (h : P d (μ.take S.A.length)) : Gave S P d μ := by
  refine ⟨[], List.nodup_nil, fun k hk => (by cases hk), D.hs_mono pk_lt h1, fun c hc => ?_, ?_⟩
  · rw [List.map_nil, List.append_nil] at hc
    refine Cell.hs_mono pk_lt ?_
    rw [← Cell.lt_hs]
    exact List.all_eq_true.mp h2 c hc
  · rw [D.ren_id fk_lt h1]
    unfold kept
    rw [List.map_nil, List.append_nil, map_ren h2]
    exact h
/-- one new list, given back itself -/
theorem gave_new {P : D → List Cell → Prop} {k : Nat} {l : List D} (h0 : S.A.length ≤ k) (hk : μ[k]? = some (.lst l)) (h1 : D.ltL S.A.length l = true) (h2 : cellsLt S.A.length (μ.take S.A.length) = true) (h : P (.own S.A.length) (μ.take S.A.length ++ [.lst l])) : Gave S P (.own k) μ := by
  have hlt := (List.getElem?_eq_some_iff.mp hk).1
  have hg : μ.getD k .off = .lst l := by
    have q := getD_cell hlt
    rw [hk] at q
    injection q with q
    exact q.symm
  have e : fk S.A.length [k] k = S.A.length := by
    unfold fk
    rw [if_neg (by omega)]
    simp
  refine ⟨[k], by simp, fun j hj => ?_, ?_, fun c hc => ?_, ?_⟩
  · rw [List.mem_singleton.mp hj]
    exact ⟨h0, hlt⟩
  · show pk S.A.length [k] k = true
    unfold pk
    simp
  · rcases List.mem_append.mp hc with hc | hc
    · refine Cell.hs_mono pk_lt ?_
      rw [← Cell.lt_hs]
      exact List.all_eq_true.mp h2 c hc
    · rw [List.map_cons, List.map_nil, hg] at hc
      rw [List.mem_singleton.mp hc]
      exact D.hsL_mono pk_lt h1
  · show P (.own (fk S.A.length [k] k)) _
    rw [e]
    unfold kept
    rw [List.map_cons, List.map_nil, hg, List.map_append, map_ren h2, List.map_cons, List.map_nil, Cell.ren_id fk_lt (by exact h1)]
    exact h
theorem run_body {T : Type} {cel : T → List Cell} {arg : T → List D} {pre : T → Prop} {post : T → D → List Cell → Prop} {exc : T → Addr → D → List Cell → Prop} {N : List Str} {vs : List V} {H : Hp} {Q : VK} {E : XK} {t : TS}
    (h : Pro K cel arg pre post exc vs H Q E)
    (hb : ∀ (x : T) (S : Bs), pre x → S.A.length = (cel x).length → D.ltL S.A.length (arg x) = true → Wi K S E (fun c d μ => d.lt S.A.length = true ∧ cellsLt S.A.length (μ.take S.A.length) = true ∧ exc x c d (μ.take S.A.length)) →
      SE K S t (startS N (arg x)) (cel x) { nx := fun _ μ => Gave S (post x) .non μ, rt := Gave S (post x) }) :
    t { nx := fun _ H' => Q .non H', rt := Q } (start N vs) H := by
  obtain ⟨x, A, G, hp, m, r, q1, q3⟩ := h
  have give : ∀ A' G' H' v d μ', Mem K ⟨A, G, H⟩ A' G' H' μ' → Rp K A' G' d v → Gave ⟨A, G, H⟩ (post x) d μ' → Q v H' := fun A' G' H' v d μ' m' rd ⟨ks, hn, hks, hd, hc, hP⟩ => by
    have hpre : ∃ B, A' = A ++ B := let ⟨B, hB, _⟩ := m'.pre; ⟨B, hB⟩
    exact q1 v _ _ G' H' _ (m'.trim hn hks hc) (rd.ren (fk_at (S := ⟨A, G, H⟩) (fun k hk => by rw [m'.len]; exact hks k hk) hpre) hd) hP
  have e := hb x ⟨A, G, H⟩ hp m.len r.scope (fun c dx u d A' G' H' μ' m' f1 f2 f3 rd ⟨c1, c2, c3⟩ => by
    have hpre : ∃ B, A' = A ++ B := let ⟨B, hB, _⟩ := m'.pre; ⟨B, hB⟩
    have hc : ∀ c ∈ μ'.take A.length ++ ([] : List Nat).map (fun k => μ'.getD k .off), c.hs (pk A.length []) = true := fun c hc => by
      rw [List.map_nil, List.append_nil] at hc
      refine Cell.hs_mono pk_lt ?_
      rw [← Cell.lt_hs]
      exact List.all_eq_true.mp c2 c hc
    have mt := m'.trim (ks := []) List.nodup_nil (fun k hk => (by cases hk)) hc
    have ek : kept A.length [] μ' = μ'.take A.length := by
      unfold kept
      rw [List.map_nil, List.append_nil, map_ren c2]
    rw [List.map_nil, List.append_nil] at mt
    have rd2 := rd.ren (fk_at (S := ⟨A, G, H⟩) (ks := []) (fun k hk => (by cases hk)) hpre) (D.hs_mono pk_lt c1)
    rw [List.map_nil, List.append_nil, D.ren_id fk_lt c1] at rd2
    exact q3 c dx u d G' H' _ (by rw [← ek]; exact mt) f1 f2 f3 rd2 c3)
  refine e A G H _ ⟨m, start_en r⟩ _ ⟨fun A' G' H' σ δ μ' a _ c => give A' G' H' .non .non μ' a.m (.v _) c, fun A' G' H' v d μ' m' rd c => give A' G' H' v d μ' m' rd c, fun _ _ _ _ _ _ _ _ z => z.elim, fun _ _ _ _ _ _ _ _ z => z.elim⟩
theorem pro_len {T : Type} {cel : T → List Cell} {arg : T → List D} {pre : T → Prop} {post : T → D → List Cell → Prop} {exc : T → Addr → D → List Cell → Prop} {vs : List V} {H : Hp} {Q : VK} {E : XK} (h : Pro K cel arg pre post exc vs H Q E) {n : Nat} (hn : ∀ t, (arg t).length = n) : vs.length = n := by
  obtain ⟨t, A, G, hp, m, r, _⟩ := h
  rw [← r.len, hn t]
/-- all of one's own lists go with it -/
theorem gave_all {P : D → List Cell → Prop} {d : D} (h0 : S.A.length ≤ μ.length) (h1 : d.lt μ.length = true) (h2 : cellsLt μ.length μ = true) (h : P d μ) : Gave S P d μ := by
  have hk : ∀ k, k < μ.length → pk S.A.length (List.range' S.A.length (μ.length - S.A.length)) k = true ∧ fk S.A.length (List.range' S.A.length (μ.length - S.A.length)) k = k := fun k hk => by
    unfold pk fk
    by_cases hlt : k < S.A.length
    · rw [if_pos hlt]
      exact ⟨by simp [hlt], rfl⟩
    · rw [if_neg hlt]
      have hm : k ∈ List.range' S.A.length (μ.length - S.A.length) := List.mem_range'_1.mpr ⟨by omega, by omega⟩
      refine ⟨by simp [hm], ?_⟩
      have hi := List.idxOf_lt_length_of_mem hm
      have q : (List.range' S.A.length (μ.length - S.A.length))[(List.range' S.A.length (μ.length - S.A.length)).idxOf k] = k := List.getElem_idxOf hi
      rw [List.getElem_range'] at q
      omega
  have hp : ∀ k, decide (k < μ.length) = true → pk S.A.length (List.range' S.A.length (μ.length - S.A.length)) k = true := fun k z => (hk k (of_decide_eq_true z)).1
  have hf : ∀ k, decide (k < μ.length) = true → fk S.A.length (List.range' S.A.length (μ.length - S.A.length)) k = k := fun k z => (hk k (of_decide_eq_true z)).2
  have eμ : μ.take S.A.length ++ (List.range' S.A.length (μ.length - S.A.length)).map (fun k => μ.getD k .off) = μ := by
    refine List.ext_getElem? fun k => ?_
    by_cases hlt : k < S.A.length
    · rw [List.getElem?_append_left (by rw [List.length_take]; omega), List.getElem?_take_of_lt hlt]
    · have hl : (μ.take S.A.length).length = S.A.length := by rw [List.length_take]; omega
      rw [List.getElem?_append_right (by omega), hl, List.getElem?_map]
      by_cases hk2 : k < μ.length
      · rw [List.getElem?_range' (by omega)]
        show some (μ.getD (S.A.length + 1 * (k - S.A.length)) .off) = _
        rw [show S.A.length + 1 * (k - S.A.length) = k by omega, ← getD_cell hk2]
      · rw [List.getElem?_eq_none (by rw [List.length_range']; omega), List.getElem?_eq_none (by omega)]
        rfl
  refine ⟨List.range' S.A.length (μ.length - S.A.length), List.nodup_range', fun k hm => ?_, D.hs_mono hp h1, fun c hc => ?_, ?_⟩
  · have := List.mem_range'_1.mp hm
    omega
  · rw [eμ] at hc
    refine Cell.hs_mono hp ?_
    rw [← Cell.lt_hs]
    exact List.all_eq_true.mp h2 c hc
  · rw [D.ren_id hf h1]
    unfold kept
    rw [eμ]
    have e : μ.map (Cell.ren (fk S.A.length (List.range' S.A.length (μ.length - S.A.length)))) = μ := by
      refine (List.map_congr_left fun c hc => Cell.ren_id hf (?_ : c.hs (fun k => decide (k < μ.length)) = true)).trans (List.map_id' μ)
      rw [← Cell.lt_hs]
      exact List.all_eq_true.mp h2 c hc
    rw [e]
    exact h
end
end PA

set_option Elab.async false
set_option linter.all false
set_option maxRecDepth 100000
set_option maxHeartbeats 2000000
/-! PbCall2: a call, seen by the caller. -/
namespace PA
open PySem L2
/-- the lists hs get new contents -/
def put : List Nat → List Cell → List Cell → List Cell
  | k :: hs, c :: ν, μ => put hs ν (μ.set k c)
  | _, _, μ => μ
/-- the callee's handles as the caller's: the handed ones hs, then the new ones -/
def back (hs : List Nat) (n : Nat) (j : Nat) : Nat := if j < hs.length then hs.getD j 0 else n + (j - hs.length)
section
variable {K : PySem.W.Frag} {S : Bs} {δ : Sl} {μ ν : List Cell} {A A' B : List Addr} {G H G' H' : Hp}
theorem put_len : ∀ {hs : List Nat} {ν μ : List Cell}, (put hs ν μ).length = μ.length
  | [], _, _ => rfl
  | _ :: _, [], _ => rfl
  | k :: hs, c :: ν, μ => by
    show (put hs ν (μ.set k c)).length = _
    rw [put_len, List.length_set]
theorem put_not : ∀ {hs : List Nat} {ν μ : List Cell} {k : Nat}, k ∉ hs → (put hs ν μ)[k]? = μ[k]?
  | [], _, _, _, _ => rfl
  | _ :: _, [], _, _, _ => rfl
  | j :: hs, c :: ν, μ, k, h => by
    show (put hs ν (μ.set j c))[k]? = _
    rw [put_not (fun z => h (List.mem_cons_of_mem _ z)), List.getElem?_set_ne (fun z => h (by rw [z]; exact List.mem_cons_self))]
theorem put_mem : ∀ {hs : List Nat} {ν μ : List Cell} {k : Nat}, hs.Nodup → (∀ j ∈ hs, j < μ.length) → hs.length ≤ ν.length → k ∈ hs → (put hs ν μ)[k]? = ν[hs.idxOf k]?
  | j :: hs, [], _, _, _, _, hl, _ => by simp at hl
  | j :: hs, c :: ν, μ, k, hn, hlt, hl, hk => by
    show (put hs ν (μ.set j c))[k]? = _
    rw [List.nodup_cons] at hn
    by_cases e : k = j
    · subst e
      rw [put_not hn.1, List.getElem?_set_self (hlt k List.mem_cons_self), List.idxOf_cons_self]
      rfl
    · have hk2 : k ∈ hs := by
        rcases List.mem_cons.mp hk with z | z
        · exact absurd z e
        · exact z
      rw [put_mem hn.2 (fun i hi => by rw [List.length_set]; exact hlt i (List.mem_cons_of_mem _ hi)) (by simpa using hl) hk2, List.idxOf_cons, show (j == k) = false from beq_eq_false_iff_ne.mpr fun z => e z.symm]
      rfl
theorem back_at {hs : List Nat} (hlt : ∀ k ∈ hs, k < A.length) : ∀ j a, (fun _ : Nat => true) j = true → ((hs.map fun k => A.getD k 0) ++ B)[j]? = some a → (A ++ B)[back hs A.length j]? = some a := fun j a _ h => by
  unfold back
  by_cases hj : j < hs.length
  · rw [if_pos hj]
    rw [List.getElem?_append_left (by rw [List.length_map]; exact hj), List.getElem?_map, List.getElem?_eq_getElem hj] at h
    have e : hs.getD j 0 = hs[j] := by
      rw [List.getD_eq_getElem?_getD, List.getElem?_eq_getElem hj]
      rfl
    rw [e]
    have h2 := hlt _ (List.getElem_mem hj)
    rw [List.getElem?_append_left h2, getD_get h2]
    exact h
  · rw [if_neg hj]
    rw [List.getElem?_append_right (by rw [List.length_map]; omega), List.length_map] at h
    rw [List.getElem?_append_right (by omega), Nat.add_sub_cancel_left]
    exact h
theorem D.hs_true : ∀ d : D, d.hs (fun _ => true) = true := fun d => by
  have key : ∀ (d : D), d.hs (fun _ => true) = true := by
    intro d
    exact D.rec (motive_1 := fun d => d.hs (fun _ => true) = true) (motive_2 := fun l => D.hsL (fun _ => true) l = true)
      (fun _ => rfl) (fun _ h => h) (fun _ h => h) (fun _ h => h) (fun _ _ h => h) (fun _ _ h => h) (fun _ => rfl) rfl (fun _ _ h1 h2 => Bool.and_eq_true_iff.mpr ⟨h1, h2⟩) d
  exact key d
theorem D.hsL_true : ∀ l : List D, D.hsL (fun _ => true) l = true := fun l => D.hsL_all.mpr fun d _ => D.hs_true d
theorem Cell.hs_true (c : Cell) : c.hs (fun _ => true) = true := by
  cases c with
  | off => rfl
  | lst l => exact D.hsL_true l
  | gen _ l => exact D.hsL_true l
/-- what stands behind a call, seen by the caller -/
def behindC (hs : List Nat) (n : Nat) (ν μ : List Cell) : List Cell := put hs (ν.map (Cell.ren (back hs n))) μ ++ (ν.drop hs.length).map (Cell.ren (back hs n))
theorem Mem.after {hs : List Nat} (hn : hs.Nodup) (hlt : ∀ k ∈ hs, k < μ.length) (m : Mem K S A G H μ) (f : Mem K ⟨hs.map fun k => A.getD k 0, G, H⟩ ((hs.map fun k => A.getD k 0) ++ B) G' H' ν) :
    Mem K S (A ++ B) G' H' (behindC hs A.length ν μ) := by
  have hltA : ∀ k ∈ hs, k < A.length := fun k hk => by rw [m.len]; exact hlt k hk
  have hνl : ν.length = hs.length + B.length := by
    rw [← f.len, List.length_append, List.length_map]
  have hBn : ∀ b ∈ B, H b = none := fun b hb => by
    obtain ⟨B', hB, h⟩ := f.pre
    have e : B = B' := List.append_cancel_left hB
    exact h b (by rw [← e]; exact hb)
  have inA : ∀ a ∈ (hs.map fun k => A.getD k 0), a ∈ A := fun a ha => by
    obtain ⟨k, hk, rfl⟩ := List.mem_map.mp ha
    exact List.mem_of_getElem? (getD_get (hltA k hk))
  have alive : ∀ a ∈ A, ∃ o, H a = some o := fun a ha => by
    cases q : H a with
    | none => exact absurd q (m.al a ha)
    | some o => exact ⟨o, rfl⟩
  have hren := back_at (B := B) hltA
  exact {
    ex := f.ex
    exG := m.exG.trans f.exG
    pre := by
      obtain ⟨B0, hB0, h0⟩ := m.pre
      refine ⟨B0 ++ B, by rw [hB0, List.append_assoc], fun b hb => ?_⟩
      rcases List.mem_append.mp hb with hb | hb
      · exact h0 b hb
      · have hA : b ∉ A := fun z => by
          obtain ⟨o, ho⟩ := alive b z
          rw [hBn b hb] at ho
          cases ho
        cases q : S.H b with
        | none => rfl
        | some o =>
          by_cases ha : b ∈ S.A
          · exact absurd (by rw [hB0]; exact List.mem_append_left _ ha) hA
          · have z := m.keep b o ha q
            rw [hBn b hb] at z
            cases z
    new := fun p hp => by
      rcases f.new p hp with h | h
      · exact m.new p h
      · have h : H p = none := h
        cases q : S.H p with
        | none => exact .inr rfl
        | some o =>
          by_cases ha : p ∈ S.A
          · obtain ⟨B0, hB0, h0⟩ := m.pre
            exact absurd h (m.al p (by rw [hB0]; exact List.mem_append_left _ ha))
          · rw [m.keep p o ha q] at h
            cases h
    keep := fun a o h1 h2 => by
      refine f.keep a o (fun hm => ?_) (m.keep a o h1 h2)
      have hA := inA a hm
      obtain ⟨B0, hB0, h0⟩ := m.pre
      rw [hB0] at hA
      rcases List.mem_append.mp hA with z | z
      · exact h1 z
      · rw [h0 a z] at h2
        cases h2
    cel := fun k a c h1 h2 => by
      unfold behindC at h2
      by_cases hk : k < A.length
      · rw [List.getElem?_append_left hk] at h1
        rw [List.getElem?_append_left (by rw [put_len, ← m.len]; exact hk)] at h2
        by_cases hm : k ∈ hs
        · rw [put_mem hn hlt (by rw [List.length_map]; omega) hm, List.getElem?_map] at h2
          have hi := List.idxOf_lt_length_of_mem hm
          cases q : ν[hs.idxOf k]? with
          | none => rw [q] at h2; cases h2
          | some c0 =>
            rw [q] at h2
            cases h2
            refine (f.cel (hs.idxOf k) a c0 ?_ q).ren hren (Cell.hs_true c0)
            rw [List.getElem?_append_left (by rw [List.length_map]; exact hi), List.getElem?_map, List.getElem?_eq_getElem hi, List.getElem_idxOf hi]
            show some (A.getD k 0) = _
            rw [← getD_get hk, h1]
        · rw [put_not hm] at h2
          have q := m.cel k a c h1 h2
          cases c with
          | off => trivial
          | lst l =>
            obtain ⟨g, xs, hx, r⟩ := q
            have hna : a ∉ (hs.map fun k => A.getD k 0) := fun z => by
              obtain ⟨j, hj, e⟩ := List.mem_map.mp z
              obtain ⟨p1, e1⟩ := List.getElem?_eq_some_iff.mp (getD_get (hltA j hj))
              obtain ⟨p2, e2⟩ := List.getElem?_eq_some_iff.mp h1
              have ej : j = k := (List.getElem_inj m.nd).mp (e1.trans (e.trans e2.symm))
              exact hm (by rw [← ej]; exact hj)
            refine ⟨?_, xs, f.keep a _ hna hx, r.mono f.exG⟩
            cases z : G' a with
            | none => rfl
            | some o =>
              rcases f.new a (by rw [z]; exact fun h => nomatch h) with y | y
              · exact absurd g y
              · have y : H a = none := y
                rw [hx] at y
                cases y
          | gen tg l =>
            obtain ⟨g, xs, hn, hx, r⟩ := q
            have hna : a ∉ (hs.map fun k => A.getD k 0) := fun z => by
              obtain ⟨j, hj, e⟩ := List.mem_map.mp z
              obtain ⟨p1, e1⟩ := List.getElem?_eq_some_iff.mp (getD_get (hltA j hj))
              obtain ⟨p2, e2⟩ := List.getElem?_eq_some_iff.mp h1
              have ej : j = k := (List.getElem_inj m.nd).mp (e1.trans (e.trans e2.symm))
              exact hm (by rw [← ej]; exact hj)
            refine ⟨?_, xs, hn, f.keep a _ hna hx, r.mono f.exG⟩
            cases z : G' a with
            | none => rfl
            | some o =>
              rcases f.new a (by rw [z]; exact fun h => nomatch h) with y | y
              · exact absurd g y
              · have y : H a = none := y
                rw [hx] at y
                cases y
      · rw [List.getElem?_append_right (by omega)] at h1
        rw [List.getElem?_append_right (by rw [put_len, ← m.len]; omega), put_len, ← m.len, List.getElem?_map, List.getElem?_drop] at h2
        cases q : ν[hs.length + (k - A.length)]? with
        | none => rw [q] at h2; cases h2
        | some c0 =>
          rw [q] at h2
          cases h2
          refine (f.cel _ a c0 ?_ q).ren hren (Cell.hs_true c0)
          rw [List.getElem?_append_right (by rw [List.length_map]; omega), List.length_map, Nat.add_sub_cancel_left]
          exact h1
    len := by
      unfold behindC
      rw [List.length_append, List.length_append, put_len, List.length_map, List.length_drop, ← m.len]
      omega
    nd := by
      have q := f.nd
      refine List.nodup_append.mpr ⟨m.nd, (List.nodup_append.mp q).2.1, fun a ha b hb e => ?_⟩
      obtain ⟨o, ho⟩ := alive a ha
      rw [e, hBn b hb] at ho
      cases ho
    al := fun a ha h => by
      rcases List.mem_append.mp ha with ha | ha
      · by_cases h0 : a ∈ (hs.map fun k => A.getD k 0)
        · exact f.al a (List.mem_append_left _ h0) h
        · obtain ⟨o, ho⟩ := alive a ha
          rw [f.keep a o h0 ho] at h
          cases h
      · exact f.al a (List.mem_append_right _ ha) h }
variable {T : Type} {C : D → List Cell → Prop} {E : XK} {ta : TA} {CE : Addr → D → List Cell → Prop}
/-- the lists handed in, as the callee sees them -/
theorem Mem.hand {hs : List Nat} (hn : hs.Nodup) (hlt : ∀ k ∈ hs, k < μ.length) (m : Mem K S A G H μ) (hc : cellsLt 0 (hs.map fun k => μ.getD k .off) = true) : Mem K ⟨hs.map fun k => A.getD k 0, G, H⟩ (hs.map fun k => A.getD k 0) G H (hs.map fun k => μ.getD k .off) := by
  have hltA : ∀ k ∈ hs, k < A.length := fun k hk => by rw [m.len]; exact hlt k hk
  exact {
    ex := m.ex
    exG := Ex.refl G
    pre := ⟨[], (List.append_nil _).symm, fun _ h => by cases h⟩
    new := fun _ h => .inl h
    keep := fun _ _ _ h => h
    cel := fun j a c h1 h2 => by
      rw [List.getElem?_map] at h1 h2
      cases q : hs[j]? with
      | none => rw [q] at h1; cases h1
      | some k =>
        rw [q] at h1 h2
        cases h1
        cases h2
        have hk : k ∈ hs := List.mem_of_getElem? q
        have z := m.cel k _ _ (getD_get (hltA k hk)) (getD_cell (hlt k hk))
        have hcl : (μ.getD k .off).lt 0 = true := List.all_eq_true.mp hc _ (List.mem_map_of_mem hk)
        have key : ∀ c : Cell, CellAt K A G H (A.getD k 0) c → c.lt 0 = true → CellAt K (hs.map fun k => A.getD k 0) G H (A.getD k 0) c := by
          intro c z hcl
          cases c with
          | off => trivial
          | lst l =>
            obtain ⟨g, xs, hx, r⟩ := z
            exact ⟨g, xs, hx, r.cl hcl⟩
          | gen tg l =>
            obtain ⟨g, xs, hn, hx, r⟩ := z
            exact ⟨g, xs, hn, hx, r.cl hcl⟩
        exact key _ z hcl
    len := by rw [List.length_map, List.length_map]
    nd := by
      refine List.pairwise_map.mpr ?_
      refine List.Pairwise.imp_of_mem (fun {i j} hi hj hij e => hij ?_) hn
      obtain ⟨p1, e1⟩ := List.getElem?_eq_some_iff.mp (getD_get (hltA i hi))
      obtain ⟨p2, e2⟩ := List.getElem?_eq_some_iff.mp (getD_get (hltA j hj))
      exact (List.getElem_inj m.nd).mp (e1.trans (e.trans e2.symm))
    al := fun a ha => by
      obtain ⟨k, hk, rfl⟩ := List.mem_map.mp ha
      exact m.al _ (List.mem_of_getElem? (getD_get (hltA k hk))) }
theorem hand_at {hs : List Nat} (hlt : ∀ k ∈ hs, k < A.length) : ∀ k a, hs.contains k = true → A[k]? = some a → (hs.map fun k => A.getD k 0)[hs.idxOf k]? = some a := fun k a hk h => by
  have hm : k ∈ hs := by simpa using hk
  have hi := List.idxOf_lt_length_of_mem hm
  rw [List.getElem?_map, List.getElem?_eq_getElem hi, List.getElem_idxOf hi]
  show some (A.getD k 0) = _
  rw [← getD_get (hlt k hm), h]
/-- THE RULE for a call: the open lists hs are handed in -/
theorem ee_callG {cel : T → List Cell} {arg : T → List D} {pre : T → Prop} {post : T → D → List Cell → Prop} {exc : T → Addr → D → List Cell → Prop} {dds : List V} (hs : List Nat) (wi : Wi K S E CE)
    (h : EA K S ta δ μ fun ds μ1 => ∃ t : T, pre t ∧ hs.Nodup ∧ (∀ k ∈ hs, k < μ1.length) ∧ cel t = hs.map (fun k => μ1.getD k .off) ∧ cellsLt 0 (cel t) = true ∧ D.hsL (fun k => hs.contains k) ds = true ∧ D.renL (fun k => hs.idxOf k) ds ++ dds.map D.v = arg t ∧
      (∀ d ν n, post t d ν → ν.length = n → d.lt n = true → cellsLt n ν = true → hs.length ≤ n → C (d.ren (back hs μ1.length)) (behindC hs μ1.length ν μ1)) ∧ ∀ c d ν, exc t c d ν → ν.length = hs.length → d.lt hs.length = true → cellsLt hs.length ν = true → CE c (d.ren (back hs μ1.length)) (behindC hs μ1.length ν μ1)) :
    EE K S (tCall (Pro K cel arg pre post exc) dds E ta) δ μ C := fun A G H σ a Q q =>
  h A G H σ a _ fun vs ds A1 G1 H1 μ1 m1 n1 r1 ⟨t, hp, hn, hlt, hcel, hcl, hh, ha, hC, hX⟩ => by
    have hltA : ∀ k ∈ hs, k < A1.length := fun k hk => by rw [m1.len]; exact hlt k hk
    have rd : RpL K (hs.map fun k => A1.getD k 0) G1 (arg t) (vs ++ dds) := by
      rw [← ha]
      exact (r1.ren (hand_at hltA) hh).append (RpL.vals dds)
    have hm := m1.hand hn hlt (by rw [← hcel]; exact hcl)
    rw [← hcel] at hm
    refine ⟨t, _, G1, hp, hm, rd, fun v d B G' H' ν f r c => ?_, fun c dx u d G' H' ν f f1 f2 f3 r c' => ?_⟩
    · have ma := m1.after hn hlt f
      have hl : ν.length = hs.length + B.length := by
        rw [← f.len, List.length_append, List.length_map]
      have hA : (hs.map (fun k => A1.getD k 0) ++ B).length = ν.length := f.len
      refine q v _ (A1 ++ B) G' H' _ ma (n1.trans ⟨⟨B, rfl⟩, f.exG⟩) (r.ren (back_at hltA) (D.hs_true d)) ?_
      rw [m1.len]
      exact hC d ν _ c rfl (by rw [← hA]; exact r.scope) f.scope (by omega)
    · have f' : Mem K ⟨hs.map fun k => A1.getD k 0, G1, H1⟩ ((hs.map fun k => A1.getD k 0) ++ []) G' H' ν := by
        rw [List.append_nil]
        exact f
      have ma := m1.after hn hlt f'
      have hl : ν.length = hs.length := by
        rw [← f.len, List.length_map]
      have r' : Rp K (A1 ++ []) G' (d.ren (back hs A1.length)) u := (by
        have r0 : Rp K ((hs.map fun k => A1.getD k 0) ++ []) G' d u := by
          rw [List.append_nil]
          exact r
        exact r0.ren (back_at hltA) (D.hs_true d))
      have hs0 : S.H dx = none := by
        cases qq : S.H dx with
        | none => rfl
        | some o =>
          by_cases ha' : dx ∈ S.A
          · obtain ⟨B0, hB0, h0⟩ := m1.pre
            exact absurd f1 (m1.al dx (by rw [hB0]; exact List.mem_append_left _ ha'))
          · have z := m1.keep dx o ha' qq
            rw [f1] at z
            cases z
      rw [m1.len] at ma r'
      have hA2 : (hs.map fun k => A1.getD k 0).length = hs.length := List.length_map _
      exact wi c dx u _ _ G' H' _ ma hs0 f2 f3 r' (hX c d ν c' hl (by rw [← hA2]; exact r.scope) (by rw [← hl]; exact f.scope))
theorem ren_cl {d : D} {f : Nat → Nat} (h : d.lt 0 = true) : d.ren f = d := D.ren_id (fun k z => absurd (of_decide_eq_true z) (Nat.not_lt_zero k)) h
theorem renL_cl {l : List D} {f : Nat → Nat} (h : D.ltL 0 l = true) : D.renL f l = l := D.renL_id (fun k z => absurd (of_decide_eq_true z) (Nat.not_lt_zero k)) h
theorem hsL_cl {l : List D} {p : Nat → Bool} (h : D.ltL 0 l = true) : D.hsL p l = true := D.hsL_mono (fun k z => absurd (of_decide_eq_true z) (Nat.not_lt_zero k)) h
/-- a call without open lists that may raise -/
theorem ee_c0 {arg : T → List D} {pre : T → Prop} {post : T → D → Prop} {exc : T → Addr → D → Prop} {dds : List V} (wi : Wi K S E CE)
    (h : EA K S ta δ μ fun ds μ1 => ∃ t : T, pre t ∧ ds ++ dds.map D.v = arg t ∧ D.ltL 0 ds = true ∧ (∀ d, post t d → d.lt 0 = true → C d μ1) ∧ ∀ c d, exc t c d → d.lt 0 = true → CE c d μ1) : EE K S (tCall (ProP K arg pre post exc) dds E ta) δ μ C :=
  ee_callG [] wi fun A G H σ a Q q => h A G H σ a Q fun vs ds A1 G1 H1 μ1 m n r ⟨t, hp, e, hl, hC, hX⟩ => q vs ds A1 G1 H1 μ1 m n r ⟨t, hp, List.nodup_nil, fun k hk => (by cases hk), rfl, rfl, hsL_cl hl, by rw [renL_cl hl]; exact e,
    fun d ν n' ⟨e1, hd⟩ e2 h1 _ _ => by
      subst e1
      subst e2
      have h1 : d.lt 0 = true := h1
      rw [ren_cl h1]
      show C d (μ1 ++ [])
      rw [List.append_nil]
      exact hC d hd h1,
    fun c d ν hd e2 h1 _ => by
      have e3 : ν = [] := List.length_eq_zero_iff.mp e2
      subst e3
      have h1 : d.lt 0 = true := h1
      rw [ren_cl h1]
      show CE c d (μ1 ++ [])
      rw [List.append_nil]
      exact hX c d hd h1⟩
theorem ee_cz {arg : T → List D} {pre : T → Prop} {post : T → D → Prop}
    (h : EA K S ta δ μ fun ds μ1 => ∃ t : T, pre t ∧ ds = arg t ∧ D.ltL 0 ds = true ∧ ∀ d, post t d → C d μ1) : EE K S (tCall (ProP K arg pre post (fun _ _ _ => False)) [] E ta) δ μ C :=
  ee_c0 (CE := fun _ _ _ => False) Wi.none fun A G H σ a Q q => h A G H σ a Q fun vs ds A1 G1 H1 μ1 m n r ⟨t, hp, e, hl, hC⟩ => q vs ds A1 G1 H1 μ1 m n r ⟨t, hp, by rw [List.map_nil, List.append_nil]; exact e, hl, fun d hd _ => hC d hd, fun _ _ z _ => z⟩
/-- .. that gives a new list, which stays open -/
theorem ee_czN {arg : T → List D} {pre : T → Prop} {post : T → List D → Prop}
    (h : EA K S ta δ μ fun ds μ1 => ∃ t : T, pre t ∧ ds = arg t ∧ D.ltL 0 ds = true ∧ ∀ l, post t l → D.ltL 0 l = true → C (.own μ1.length) (μ1 ++ [.lst l])) : EE K S (tCall (ProN K arg pre post (fun _ _ _ => False)) [] E ta) δ μ C :=
  ee_callG (CE := fun _ _ _ => False) [] Wi.none fun A G H σ a Q q => h A G H σ a Q fun vs ds A1 G1 H1 μ1 m n r ⟨t, hp, e, hl, hC⟩ => q vs ds A1 G1 H1 μ1 m n r ⟨t, hp, List.nodup_nil, fun k hk => (by cases hk), rfl, rfl, hsL_cl hl, by rw [renL_cl hl, List.map_nil, List.append_nil]; exact e,
    fun d ν n' ⟨l, e1, e2, hcl, hd⟩ _ _ _ _ => by
      subst e1 e2
      show C (.own (μ1.length + (0 - 0))) (μ1 ++ [.lst (D.renL _ l)])
      rw [renL_cl hcl]
      exact hC l hd hcl,
    fun _ _ _ z _ _ _ => z⟩
/-- the handle of the k-th list becomes the callee's first -/
def Hand (k : Nat) (d e : D) : Prop := (d = .own k ∧ e = .own 0) ∨ (d.lt 0 = true ∧ e = d)
inductive HandL (k : Nat) : List D → List D → Prop
  | nil : HandL k [] []
  | cons {d e : D} {l m : List D} : Hand k d e → HandL k l m → HandL k (d :: l) (e :: m)
theorem HandL.ren {k : Nat} : ∀ {l m : List D}, HandL k l m → D.hsL (fun j => [k].contains j) l = true ∧ D.renL (fun j => [k].idxOf j) l = m
  | _, _, .nil => ⟨rfl, rfl⟩
  | _, _, .cons (d := d) (e := e) (l := l) (m := m) h t => by
    obtain ⟨h1, h2⟩ := HandL.ren t
    have hd : d.hs (fun j => [k].contains j) = true ∧ d.ren (fun j => [k].idxOf j) = e := by
      rcases h with ⟨rfl, rfl⟩ | ⟨hl, rfl⟩
      · exact ⟨by show [k].contains k = true; simp, by show D.own ([k].idxOf k) = _; simp⟩
      · exact ⟨D.hs_mono (fun j z => absurd (of_decide_eq_true z) (Nat.not_lt_zero j)) hl, ren_cl hl⟩
    exact ⟨Bool.and_eq_true_iff.mpr ⟨hd.1, h1⟩, by show D.ren _ d :: D.renL _ l = _; rw [hd.2, h2]⟩
theorem hand1 {k : Nat} {l : List D} (h : D.ltL 0 l = true) : HandL k (.own k :: l) (.own 0 :: l) := by
  refine .cons (.inl ⟨rfl, rfl⟩) ?_
  induction l with
  | nil => exact .nil
  | cons d l ih =>
    have h := Bool.and_eq_true_iff.mp (show (d.lt 0 && D.ltL 0 l) = true from h)
    exact .cons (.inr ⟨h.1, rfl⟩) (ih h.2)
/-- a call that is handed one open list -/
theorem ee_cz1 {cel : T → List Cell} {arg : T → List D} {pre : T → Prop} {post : T → D → List Cell → Prop} (k : Nat)
    (h : EA K S ta δ μ fun ds μ1 => ∃ (t : T) (l : List D), pre t ∧ cel t = [.lst l] ∧ D.ltL 0 l = true ∧ μ1[k]? = some (.lst l) ∧ HandL k ds (arg t) ∧ ∀ d ν, post t d ν → d.lt 0 = true ∧ ∃ l', ν = [.lst l'] ∧ D.ltL 0 l' = true ∧ C d (μ1.set k (.lst l'))) :
    EE K S (tCall (Pro K cel arg pre post (fun _ _ _ _ => False)) [] E ta) δ μ C :=
  ee_callG (CE := fun _ _ _ => False) [k] Wi.none fun A G H σ a Q q => h A G H σ a Q fun vs ds A1 G1 H1 μ1 m n r ⟨t, l, hp, e, hl, hk, hh, hC⟩ => q vs ds A1 G1 H1 μ1 m n r (by
    have hlt := (List.getElem?_eq_some_iff.mp hk).1
    have hg : μ1.getD k .off = .lst l := by
      have z := getD_cell hlt
      rw [hk] at z
      injection z with z
      exact z.symm
    obtain ⟨h1, h2⟩ := hh.ren
    refine ⟨t, hp, by simp, fun j hj => (by rw [List.mem_singleton.mp hj]; exact hlt), by rw [e, List.map_cons, List.map_nil, hg], ?_, h1, by rw [h2, List.map_nil, List.append_nil], fun d ν n' hd _ _ _ _ => ?_, fun _ _ _ z _ _ _ => z⟩
    · rw [e]
      show (D.ltL 0 l && true) = true
      rw [hl]
      rfl
    · obtain ⟨hd0, l', rfl, hl', hc⟩ := hC d ν hd
      rw [ren_cl hd0]
      show C d ((μ1.set k (.lst (D.renL _ l'))) ++ [])
      rw [renL_cl hl', List.append_nil]
      exact hc)
end
end PA

set_option Elab.async false
set_option linter.all false
set_option maxRecDepth 100000
set_option maxHeartbeats 2000000
/-! PbCall3: calls that only read open lists; open lists shut for good. -/
namespace PA
open PySem L2
section
variable {K : PySem.W.Frag} {S : Bs} {δ : Sl} {μ ν : List Cell} {A A' B : List Addr} {G H G' H' : Hp} {T : Type} {C : D → List Cell → Prop} {E : XK} {ta : TA} {CE : Addr → D → List Cell → Prop}
/-- what is known when the open lists are read as they stand -/
def lent (A : List Addr) (G H : Hp) : Hp := fun a => if (A.contains a && (G a).isNone) = true then H a else G a
theorem lent_ex (A : List Addr) (G H : Hp) : Ex G (lent A G H) := fun a o h => by
  unfold lent
  rw [h]
  simp
theorem lent_exH (e : Ex G H) : Ex (lent A G H) H := fun a o h => by
  unfold lent at h
  split at h
  · exact h
  · exact e a o h
theorem lent_at {a : Addr} (ha : a ∈ A) (g : G a = none) : lent A G H a = H a := by
  unfold lent
  rw [g]
  simp [ha]
/-- the contents of the open lists -/
def rdC (μ : List Cell) (k : Nat) : Option (List D) := match μ[k]? with
  | some (.lst l) => some l
  | _ => none
theorem lent_sub (m : Mem K S A G H μ) {ds : List D} {vs : List V} (r : RpL K A G ds vs) : RpL K A (lent A G H) (D.subL (rdC μ) ds) vs := by
  refine RpL.sub (lent_ex A G H) (fun k a l hA hg => ?_) r
  unfold rdC at hg
  split at hg
  · rename_i l' hc
    cases hg
    obtain ⟨g, xs, hx, rl⟩ := m.cel k a _ hA hc
    exact ⟨xs, by rw [lent_at (List.mem_of_getElem? hA) g]; exact hx, rl.mono0 (lent_ex A G H)⟩
  · cases hg
/-- a call that reads the open lists; its answer is a value -/
theorem ee_czB {arg : T → List D} {pre : T → Prop} {post : T → D → Prop}
    (h : EA K S ta δ μ fun ds μ1 => ∃ t : T, pre t ∧ D.subL (rdC μ1) ds = arg t ∧ D.ltL 0 (arg t) = true ∧ ∀ d, post t d → ∃ x, d = .v x ∧ C (.v x) μ1) : EE K S (tCall (ProP K arg pre post (fun _ _ _ => False)) [] E ta) δ μ C := fun A G H σ a Q q =>
  h A G H σ a _ fun vs ds A1 G1 H1 μ1 m1 n1 r1 ⟨t, hp, e, hl, hC⟩ => by
    have r2 := lent_sub m1 r1
    rw [e] at r2
    have rd : RpL K [] (lent A1 G1 H1) (arg t) (vs ++ []) := by
      rw [List.append_nil]
      exact r2.cl hl
    have m0 : Mem K ⟨[], lent A1 G1 H1, H1⟩ [] (lent A1 G1 H1) H1 [] := ⟨lent_exH m1.ex, Ex.refl _, ⟨[], rfl, fun _ h => by cases h⟩, fun _ h => .inl h, fun _ _ _ h => h, fun k a c h _ => by simp at h, rfl, List.nodup_nil, fun _ h => by cases h⟩
    refine ⟨t, [], _, hp, m0, rd, fun v d B G' H' ν f r ⟨eν, c⟩ => ?_, fun _ _ _ _ _ _ _ _ _ _ _ _ z => z.elim⟩
    obtain ⟨x, ed, hc⟩ := hC d c
    subst ed
    have ev := r.vOf
    subst ev
    have kp : ∀ a o, H1 a = some o → H' a = some o := fun a o h => f.keep a o (fun z => by cases z) h
    have mf : Mem K S A1 G1 H' μ1 := {
      ex := (lent_ex A1 G1 H1).trans (f.exG.trans f.ex)
      exG := m1.exG
      pre := m1.pre
      new := m1.new
      keep := fun a o h1 h2 => kp a o (m1.keep a o h1 h2)
      cel := fun k a c h1 h2 => by
        have z := m1.cel k a c h1 h2
        cases c with
        | off => trivial
        | lst l =>
          obtain ⟨g, xs, hx, rl⟩ := z
          exact ⟨g, xs, kp _ _ hx, rl⟩
        | gen tg l =>
          obtain ⟨g, xs, hn, hx, rl⟩ := z
          exact ⟨g, xs, hn, kp _ _ hx, rl⟩
      len := m1.len
      nd := m1.nd
      al := fun a ha h => by
        cases z : H1 a with
        | none => exact m1.al a ha z
        | some o =>
          rw [kp a o z] at h
          cases h }
    exact q _ _ A1 G1 H' μ1 mf n1 (.v _) hc
/-- .. that gives a new list, which is never changed from now on -/
theorem ee_czS {arg : T → List D} {pre : T → Prop} {post : T → List D → Prop}
    (h : EA K S ta δ μ fun ds μ1 => ∃ t : T, pre t ∧ ds = arg t ∧ D.ltL 0 ds = true ∧ ∀ l, post t l → D.ltL 0 l = true → C (.lst l) μ1) : EE K S (tCall (ProN K arg pre post (fun _ _ _ => False)) [] E ta) δ μ C := fun A G H σ a Q q =>
  h A G H σ a _ fun vs ds A1 G1 H1 μ1 m1 n1 r1 ⟨t, hp, e, hl, hC⟩ => by
    have rd : RpL K [] G1 (arg t) (vs ++ []) := by
      rw [List.append_nil, ← e]
      exact r1.cl hl
    have m0 : Mem K ⟨[], G1, H1⟩ [] G1 H1 [] := ⟨m1.ex, Ex.refl _, ⟨[], rfl, fun _ h => by cases h⟩, fun _ h => .inl h, fun _ _ _ h => h, fun k a c h _ => by simp at h, rfl, List.nodup_nil, fun _ h => by cases h⟩
    refine ⟨t, [], G1, hp, m0, rd, fun v d B G' H' ν f r ⟨l, ed, eν, hcl, c⟩ => ?_, fun _ _ _ _ _ _ _ _ _ _ _ _ z => z.elim⟩
    subst ed eν
    cases r with
    | @own _ p hp2 =>
      obtain ⟨g, xs, hx, rl⟩ := f.cel 0 p _ hp2 rfl
      have fs := f.shut (Nat.zero_le _) hp2 rfl hx
      have ft := fs.trim (ks := []) List.nodup_nil (fun k hk => (by cases hk)) (fun c hc => (by cases hc))
      have fa := m1.after (hs := []) (B := []) List.nodup_nil (fun k hk => (by cases hk)) ft
      have eb : behindC [] A1.length (kept 0 [] ([Cell.lst l].set 0 .off)) μ1 = μ1 := by
        show μ1 ++ [] = μ1
        rw [List.append_nil]
      rw [List.append_nil] at fa
      have fa2 : Mem K S A1 (upd G' p (.lst xs)) H' μ1 := by
        rw [← eb]
        exact fa
      have e1 : Ex G' (upd G' p (.lst xs)) := Ex.new g
      exact q _ (.lst l) A1 _ H' μ1 fa2 (n1.trans (.of (f.exG.trans e1))) (.lst upd_same ((rl.cl hcl).mono0 e1)) (hC l c hcl)
def Cell.sub (g : Nat → Option (List D)) : Cell → Cell
  | .lst l => .lst (D.subL g l)
  | .gen t l => .gen t (D.subL g l)
  | .off => .off
/-- an open list of one's own is never changed from now on -/
theorem se_shut {ts : TS} {F0 : Cn} (k : Nat) {l : List D} (hk : S.A.length ≤ k) (hc : μ[k]? = some (.lst l)) (h : SE K S ts (δ.map (·.map (D.sub fun j => if j = k then some l else none))) ((μ.set k .off).map (Cell.sub fun j => if j = k then some l else none)) F0) : SE K S ts δ μ F0 := fun A G H σ a F f => by
  have hlt : k < A.length := by
    rw [a.m.len]
    exact (List.getElem?_eq_some_iff.mp hc).1
  have hA := getD_get hlt
  obtain ⟨g, xs, hx, r⟩ := a.m.cel k _ _ hA hc
  have ms := a.m.shut hk hA hc hx
  have e1 : Ex G (upd G (A.getD k 0) (.lst xs)) := Ex.new g
  have hg : ∀ j b l', A[j]? = some b → (if j = k then some l else none) = some l' → ∃ ys, upd G (A.getD k 0) (.lst xs) b = some (.lst ys) ∧ RpL K A (upd G (A.getD k 0) (.lst xs)) l' ys := fun j b l' h1 h2 => by
    by_cases e : j = k
    · subst e
      rw [if_pos rfl] at h2
      cases h2
      rw [hA] at h1
      cases h1
      exact ⟨xs, upd_same, r.mono0 e1⟩
    · rw [if_neg e] at h2
      cases h2
  have en : ∀ {δ : Sl} {σ : St}, En K A G δ σ → En K A (upd G (A.getD k 0) (.lst xs)) (δ.map (·.map (D.sub fun j => if j = k then some l else none))) σ := by
    intro δ σ h
    induction h with
    | nil => exact .nil
    | skip _ ih => exact .skip ih
    | cons h _ ih => exact .cons (Rp.sub e1 hg h) ih
  have ms2 : Mem K S A (upd G (A.getD k 0) (.lst xs)) H ((μ.set k .off).map (Cell.sub fun j => if j = k then some l else none)) := {
    ex := ms.ex
    exG := ms.exG
    pre := ms.pre
    new := ms.new
    keep := ms.keep
    cel := fun j b c h1 h2 => by
      rw [List.getElem?_map] at h2
      cases q : (μ.set k .off)[j]? with
      | none => rw [q] at h2; cases h2
      | some c0 =>
        rw [q] at h2
        cases h2
        have z := ms.cel j b c0 h1 q
        cases c0 with
        | off => trivial
        | lst l2 =>
          obtain ⟨g2, ys, hy, r2⟩ := z
          exact ⟨g2, ys, hy, RpL.sub (Ex.refl _) hg r2⟩
        | gen tg l2 =>
          obtain ⟨g2, ys, hn, hy, r2⟩ := z
          exact ⟨g2, ys, hn, hy, RpL.sub (Ex.refl _) hg r2⟩
    len := by rw [List.length_map]; exact ms.len
    nd := ms.nd
    al := ms.al }
  exact h A _ H σ ⟨ms2, en a.env⟩ F (f.at' (.of e1))
theorem Mem.freeS (m : Mem K S A G H μ) {p : Addr} (h : H p = none) : S.H p = none ∧ p ∉ A := by
  have hA : p ∉ A := fun z => m.al p z h
  refine ⟨?_, hA⟩
  cases q : S.H p with
  | none => rfl
  | some o =>
    by_cases ha : p ∈ S.A
    · obtain ⟨B, hB, _⟩ := m.pre
      exact absurd (by rw [hB]; exact List.mem_append_left _ ha) hA
    · rw [m.keep p o ha q] at h
      cases h
theorem mem00 (m : Mem K S A G H μ) : Mem K ⟨[], G, H⟩ [] G H [] := ⟨m.ex, Ex.refl _, ⟨[], rfl, fun _ h => by cases h⟩, fun _ h => .inl h, fun _ _ _ h => h, fun k a c h _ => by simp at h, rfl, List.nodup_nil, fun _ h => by cases h⟩
theorem after0 (m : Mem K S A G H μ) (f : Mem K ⟨[], G, H⟩ ([] ++ B) G' H' []) : B = [] ∧ Mem K S A G' H' μ := by
  have hB : B = [] := List.length_eq_zero_iff.mp (by have z := f.len; simpa using z)
  subst hB
  have fa := m.after (hs := []) (B := []) List.nodup_nil (fun k hk => (by cases hk)) f
  have eb : behindC [] A.length [] μ = μ := by
    show μ ++ [] = μ
    rw [List.append_nil]
  rw [List.append_nil, eb] at fa
  exact ⟨rfl, fa⟩
end
end PA

set_option Elab.async false
set_option linter.all false
set_option maxRecDepth 100000
set_option maxHeartbeats 2000000
/-! PbErr: own errors that hold a value: raised, caught and kept, asked for their class and their value. -/
namespace PA
open PySem L2
section
variable {P : Program} {w : World} {H : Hp} {h : Heap} {e C dx : Addr}
theorem exq_ok {oe : Obj} {vs : Array Value} (h1 : h.get? e = some oe) (h2 : oe.cls = .ref C) (h3 : oe.dict = some dx) (h4 : oe.data = .fields vs) : ObjOk P w H h e (exq e C dx) :=
  ⟨⟨oe, vs, h1, h2, h3, h4⟩, ⟨oe, h1⟩, fun g1 g2 z k => by
    obtain ⟨o, us, q1, q⟩ := z
    exact ⟨o, us, k o q1, q⟩⟩
theorem exq_at (ok : HOk P w H h) (q : H e = some (exq e C dx)) : ∃ (oe : Obj) (vs : Array Value), h.get? e = some oe ∧ oe.cls = .ref C ∧ oe.dict = some dx ∧ oe.data = .fields vs := by
  have z : ObjOk P w H h e (.ext fun h => ∃ (oe : Obj) (vs : Array Value), h.get? e = some oe ∧ oe.cls = .ref C ∧ oe.dict = some dx ∧ oe.data = .fields vs) := ok e _ q
  exact z.1
theorem exq_ne {x : Addr} {u : HO} (hu : ∀ φ, u ≠ .ext φ) : exq e C dx ≠ u := fun z => hu _ z.symm
theorem exd_ne {fs : List (Str × V)} {u : HO} (hu : ∀ φ, u ≠ .ext φ) : exd dx fs ≠ u := fun z => hu _ z.symm
end
section
variable {X : Cx} {pins : List (Addr × Obj)} {σ : L2.St} {H : Hp} {s : Shared}
/-- an error that came down, and its dict, are tracked from now on -/
theorem keep_exc {a C dx : Addr} {oe : Obj} {vs : Array Value} {fs : List (Str × V)} (I : Inv X pins σ H s) (ha : s.heap.get? a = some oe) (hc : oe.cls = .ref C) (hd : oe.dict = some dx) (hv : oe.data = .fields vs)
    (h0 : X.s_0.heap.get? a = none) (hH : H a = none) (hx : H dx = some (.xd fs)) (nL : a ≠ X.env.locals) (np : ∀ p ∈ X.pn ++ pins, p.1 ≠ a) :
    Inv X pins σ (upd (upd H dx (exd dx fs)) a (exq a C dx)) s := by
  have ndx : dx ≠ a := ne_of_none hx hH
  have at_ : ∀ {b : Addr}, H b = none → b ≠ a → upd (upd H dx (exd dx fs)) a (exq a C dx) b = none := fun {b} hb hne => by
    have hbd : b ≠ dx := fun z => by
      rw [z, hx] at hb
      cases hb
    rw [upd_ne hne, upd_ne hbd]
    exact hb
  have stay : ∀ {b : Addr} {o : HO}, H b = some o → (∀ f, o ≠ .xd f) → upd (upd H dx (exd dx fs)) a (exq a C dx) b = some o := fun {b o} hb hne => by
    have h1 : b ≠ a := ne_of_none hb hH
    have h2 : b ≠ dx := fun z => by
      rw [z, hx] at hb
      cases hb
      exact hne fs rfl
    rw [upd_ne h1, upd_ne h2]
    exact hb
  refine {
    ok := I.ok
    os := I.os
    bare := I.bare
    base := ⟨I.base.keep, I.base.slot, fun b o e1 e2 e3 => at_ (I.base.free b o e1 e2 e3) (fun z => ?_), I.base.there, fun b xs q => stay (I.base.tups b xs q) (fun f z => by cases z),
      fun b o u q => stay (I.base.frzs b o u q) (fun f z => by cases z), fun b ps q => ?_⟩
    loc := I.loc
    cell := I.cell
    free := at_ I.free (Ne.symm nL)
    freeC := fun x c q => at_ (I.freeC x c q) (fun z => ?_)
    pin := fun p hp => ?_
    hok := ?_
    len := I.len }
  · rw [z, h0] at e1
    cases e1
  · obtain ⟨more, z⟩ := I.base.tbls b ps q
    exact ⟨more, stay z (fun f z => by cases z)⟩
  · obtain ⟨v, o, ho, hod⟩ := I.cell x c q
    rw [z, ha] at ho
    cases ho
    rw [hv] at hod
    cases hod
  · obtain ⟨q1, q2, q3⟩ := I.pin p hp
    exact ⟨q1, at_ q2 (np p hp), q3⟩
  · intro b o hb
    by_cases e1 : b = a
    · subst e1
      rw [upd_same] at hb
      cases hb
      exact exq_ok ha hc hd hv
    · rw [upd_ne e1] at hb
      by_cases e2 : b = dx
      · subst e2
        rw [upd_same] at hb
        cases hb
        have z : ObjOk X.prog X.w H s.heap b (.xd fs) := I.hok b _ hx
        obtain ⟨mA, hn, hr⟩ := z
        exact exd_ok hn hr
      · rw [upd_ne e2] at hb
        exact (I.hok b o hb).stay (fun _ _ _ q => q) (fun c q => stay q (fun f z => by cases z)) fun c xs q => stay q (fun f z => by cases z)
/-- the context of a suite whose error is tracked -/
theorem suite_in (I : Inv X pins σ H s) (a : Addr) : Inv (X.suite a (X.pn ++ pins)) [] σ H s :=
  ⟨I.ok.suite _ _, I.os, I.bare, I.base, I.loc, I.cell, I.free, I.freeC, fun p hp => I.pin p (by rwa [List.append_nil] at hp), I.hok, I.len⟩
theorem suite_out {a : Addr} {pn' : List (Addr × Obj)} (I : Inv (X.suite a (X.pn ++ pins)) pn' σ H s) (ok : X.Ok) : Inv X pins σ H s :=
  ⟨ok, I.os, I.bare, I.base, I.loc, I.cell, I.free, I.freeC, fun p hp => I.pin p (List.mem_append_left _ hp), I.hok, I.len⟩
end
/-- what «except c as n: ts» asks, the error being kept behind it -/
def wHold (K : PySem.W.Frag) (c : Value) (i : Nat) (ts : TS) (Wout : WX) (D : Ends) : WX := fun cls d σ H =>
  ∃ b, PySem.W.exmOne K cls c = some b ∧
    (b = true → ∃ (C dx : Addr) (fs : List (Str × V)), cls = .ref C ∧ d = some dx ∧ H dx = some (.xd fs) ∧ ∀ a, H a = none →
      ts { nx := fun σ' H' => D.nx (σ'.set i none) H', rt := D.rt, bk := fun σ' H' => D.bk (σ'.set i none) H', ct := fun σ' H' => D.ct (σ'.set i none) H' } (σ.set i (some (.ref a))) (upd (upd H dx (exd dx fs)) a (exq a C dx))) ∧
    (b = false → Wout cls d σ H)
section
variable {X : Cx} {x n : Str} {c : Value} {i : Nat} {body suite : List Stmt} {b₀ : Stmt} {np pos pos' : Pos} {tb : WX → TS} {ts : TS} {Wout : WX}
theorem ps_try_hold (hstk : X.stack = X.env :: X.outer) (hfr0 : X.env.frame = some X.env.locals) (hex : X.ex = []) (hN : X.N.Nodup) (hi : X.N[i]? = some n) (hln : X.env.kindOf n = some .local) (hnm : Names X x c) (tk : Takes X Wout)
    (hb : ∀ (W : WX) (pn : List (Addr × Obj)) (xe : Value → Shared → Prop), Takes (X.tr pn xe) W → PassesOwn (model X.prog X.w) X.A X.env xe → PSs (X.tr pn xe) body (tb W))
    (hsu : ∀ (a : Addr) (pn : List (Addr × Obj)), PSs (X.suite a pn) (b₀ :: suite) ts) :
    PS X (.Try body [.ExceptHandler (some (.Name x np)) (some n) (b₀ :: suite) pos'] [] [] pos) (fun D σ H => tb (wHold X.K c i ts Wout D) D σ H) := by
  refine ⟨fun pins s σ H D I h => ?_⟩
  have okX := I.ok
  have frm : X.A.frames = some (X.env :: X.outer) := okX.frames.trans (congrArg some hstk)
  refine wpAny_Try_except ?_
  refine wpAny_mono ((hb (wHold X.K c i ts Wout D) (X.pn ++ pins)
    (fun e s₁ => wpAny (model X.prog X.w) X.A (noteFrame e X.env) (fun _ s₂ => wpAny (model X.prog X.w) X.A (setFlight e none)
      (fun _ s₃ => wpAny (model X.prog X.w) X.A (handleBy e X.env [.ExceptHandler (some (.Name x np)) (some n) (b₀ :: suite) pos']) (SP X pins D) X.xe s₃) X.xe s₂) X.xe s₁)
    (fun u s' air => ?_) PassesOwn.looking).run [] s σ H D (I.toTry _) h) (fun f s1 fin => ?_) (fun e s1 he => he)
  · obtain ⟨a, B, sI, pins', σ', H', cls, d, rfl, JT, nb, up, sky, na, os, ag, b, hb1, yes, no⟩ := air
    have J : Inv X pins σ' H' sI := JT.ofTry okX
    show wpAny (model X.prog X.w) X.A (noteFrame (.ref a) X.env) _ _ _
    refine Sky.land Zc.steady frm hfr0 (hstk ▸ sky) fun h3 fly up3 => ?_
    have J3 : Inv X pins σ' H' { s' with heap := h3 } := J.landed nb fly.1 (up.trans up3) os ag
    obtain ⟨o3, v3, g3, z3, d3⟩ := fly.there
    have off : a ∉ frs (X.env :: X.outer) := fun hm => by
      obtain ⟨_, o', e', nof⟩ := fly.2.2.1.mem hm
      rw [g3] at e'
      cases e'
      exact nof _ d3
    have aL : a ≠ X.env.locals := fun z => off (List.mem_filterMap.mpr ⟨X.env, List.mem_cons_self, by rw [hfr0, z]⟩)
    have aI : sI.heap.get? a = none := by
      cases q : sI.heap.get? a with
      | none => rfl
      | some o =>
        have z := nb a o q (by rw [hstk]; exact off)
        rw [fly.2.1] at z
        cases z
    have a0 : X.s_0.heap.get? a = none := by
      cases q : X.s_0.heap.get? a with
      | none => rfl
      | some o =>
        obtain ⟨o', z⟩ := J.base.there a o q (fun hm => by
          rw [hex] at hm
          cases hm)
        rw [aI] at z
        cases z
    have aP : ∀ p ∈ X.pn ++ pins, p.1 ≠ a := fun p hp z => by
      have q := (J.pin p hp).1
      rw [z, aI] at q
      cases q
    refine wpAny_handleBy_cons (codeAny_handlers_test ?_) (by intro q; cases q)
    have typ : PySem.W.Looks (model X.prog X.w) h3 (typeOf (.ref a)) cls := fun A Q E s k q =>
      wpAny_typeOf_ref (k _ _ g3) (by rw [z3.1]; exact q)
    have look := PySem.W.exm_one (M := model X.prog X.w) J3.kIn typ hb1
    have S3 := suite_in J3 a
    have named : ∀ {Q : Value → Shared → Prop} {E : Value → Shared → Prop}, Q c { s' with heap := h3 } → wpAny (model X.prog X.w) (X.A.mark (some (.ref a))) (eval (.Name x np) X.env) Q E { s' with heap := h3 } := fun {Q E} q => by
      obtain ⟨hg, hdb, hm | ⟨hm, hv, hnn⟩⟩ := hnm
      · exact ld_glob (X := X.suite a (X.pn ++ pins)) S3 hg hm q hdb
      · exact ld_blt (X := X.suite a (X.pn ++ pins)) S3 hg hm hv q hnn hdb
    refine named (look.here ?_)
    cases b with
    | true =>
      refine codeAny_handlers_suite_as ?_
      refine HandSPX.lands_againZ fly fun h4 fl4 up4 => ?_
      have J4 : Inv X pins σ' H' { s' with heap := h4 } := J.landed nb fl4.1 ((up.trans up3).trans up4) os ag
      obtain ⟨o4, v4, g4, z4, d4⟩ := fl4.there
      obtain ⟨C, dx, fs, ec, ed, hx, go⟩ := yes rfl
      have J5 := keep_exc J4 (oe := o4) (vs := v4) g4 (by rw [z4.1, ec]) (by rw [z4.2, ed]) d4 a0 na hx aL aP
      refine store_ok (X := X.suite a (X.pn ++ pins)) (v := .ref a) (suite_in J5 a) hN hi (.inl hln) rfl (fun s5 S5 => ?_) (.inr hln)
      refine wpAny_mono ((hsu a (X.pn ++ pins)).run [] s5 _ _ _ S5 (go a na)) (fun f s6 hf => ?_) (fun _ _ z => False.elim z)
      have over : ∀ {σ6 : L2.St} {H6 : Hp} {Q : Shared → Prop}, Inv (X.suite a (X.pn ++ pins)) [] σ6 H6 s6 → (∀ s7, Inv X pins (σ6.set i none) H6 s7 → Q s7) →
          wpAny (model X.prog X.w) X.A (do bindName X.env n .none; unbindBehindTheSuite X.env n pos') (fun _ s7 => Q s7) X.xe s6 := fun {σ6 H6 Q} S6 hq => gone_ok (suite_out S6 okX) hN hi hln hq
      cases f with
      | next =>
        obtain ⟨σ6, H6, S6, q6⟩ := hf
        exact over S6 fun s7 J7 => ⟨_, _, J7, q6⟩
      | brk =>
        obtain ⟨σ6, H6, S6, q6⟩ := hf
        exact over S6 fun s7 J7 => ⟨_, _, J7, q6⟩
      | cont =>
        obtain ⟨σ6, H6, S6, q6⟩ := hf
        exact over S6 fun s7 J7 => ⟨_, _, J7, q6⟩
      | ret u =>
        obtain ⟨v6, σ6, H6, S6, r6, q6⟩ := hf
        exact over S6 fun s7 J7 => ⟨_, _, _, J7, r6, q6⟩
    | false =>
      show wpAny _ X.A (handleBy (.ref a) X.env []) _ _ _
      refine wpAny_handleBy_nil ?_
      obtain ⟨k1, k2, k3, oe, vs, T, oT, tz, he, hz, hd, h1, hr⟩ := id fly
      unfold PySem.passOn
      refine wpAny_bind (wpAny_field he hd h1 ?_)
      rw [if_neg (show ¬ ((Value.ref T == Value.none) = true) from by simp)]
      have fin : wpAny (model X.prog X.w) X.A (setFlight (.ref a) X.env.frame) (fun _ s4 => wpAny (model X.prog X.w) X.A (throw (.ref a) : Sem Flow) (SP X pins D) X.xe s4) X.xe { s' with heap := h3 } := by
        rw [hfr0]
        refine HandSPX.setFlight_upZ fly fun h4 held up4 => wpAny_throw (tk _ _ ?_)
        exact ⟨a, B, sI, pins, σ', H', cls, d, rfl, J, nb, (up.trans up3).trans up4, .inr (.inr (by rw [hstk]; exact held)), na, os, ag, no rfl⟩
      first
        | exact wpAny_bind (wpAny_pure (wpAny_bind fin))
        | exact wpAny_bind fin
  · cases f with
    | next =>
      obtain ⟨σ', H', J', q⟩ := fin
      exact wpAny_execs_nil ⟨σ', H', J'.ofTry okX, q⟩
    | brk =>
      obtain ⟨σ', H', J', q⟩ := fin
      exact ⟨σ', H', J'.ofTry okX, q⟩
    | cont =>
      obtain ⟨σ', H', J', q⟩ := fin
      exact ⟨σ', H', J'.ofTry okX, q⟩
    | ret u =>
      obtain ⟨v, σ', H', J', r, q⟩ := fin
      exact ⟨v, σ', H', J'.ofTry okX, r, q⟩
end
end PA

set_option Elab.async false
set_option linter.all false
set_option maxRecDepth 100000
set_option maxHeartbeats 2000000
/-! PbErr2: what an own error class with a value must say; raise, .value, isinstance, and these over data. -/
namespace PA
open PySem L2
/-- what the written part says of an own error class at C whose __init__ at fI keeps a value -/
structure ErrC (K : PySem.W.Frag) (C fI : Addr) : Prop where
  ox : OexC K C
  xf : XfC K C
  noV : PySem.W.findIn K (.ref C) "value" = some none
  ini : PySem.W.findIn K (.ref C) "__init__" = some (some (.ref fI))
  tI : PySem.W.typeIn K (.ref fI) = some (.type "function")
  ha : PySem.W.findIn K (.ref C) "__class__" = some (some (.builtin "object.__class__"))
  hn : PySem.W.specialIn K (.builtin "object.__class__") "__get__" = some (some (.builtin "getset_descriptor.__get__"))
  ht : PySem.W.takesIn K (.builtin "object.__class__") = some true
  hm : PySem.W.mroIn K C (.type "object") = some true
/-- the promise of such an __init__ -/
def spErr (C : Addr) : Sp := fun vs H Q _ => ∃ (a : Addr) (u : V), vs = [.ref a, u] ∧ H a = some (exo a C none) ∧
  ∀ dx, H dx = none → dx ≠ a → Q .non (upd (upd H dx (exd dx [(("value" : Str), u)])) a (exo a C (some dx)))
def initBody (q1 q2 q3 q4 : Pos) : List Stmt := [.Assign [.Attribute (.Name "self" q1) "value" q2] (.Name "value" q3) q4]
section
variable {P : Program} {w : World} {K : PySem.W.Frag} {mg : Str → Option Value} {base : Heap} {C fI : Addr} {fd : FuncData}
theorem err_fn {qual : Str} {params : Arguments} {body : List Stmt} {scope : Scope} {q1 q2 q3 q4 : Pos} (F : FunD K "__init__" qual params body scope [.non] [] fI fd) (T : ErrC K C fI) (hb : body = initBody q1 q2 q3 q4)
    (sc : FnScope ["self", "value"] ["self", "value"] scope) (v0 : Vis scope "self") (v1 : Vis scope "value") : FnOk P w K mg base (L2.CX P w) 1 fI fd ["self", "value"] (spErr C) := by
  subst hb
  refine F.ok sc (fun vs H Q E h => ?_) (fun cdv A outer s H vs Q E hr h => ?_)
  · obtain ⟨a, u, rfl, _⟩ := h
    rfl
  · obtain ⟨a, u, rfl, ha, k⟩ := h
    refine ⟨_, pss_one (ps_ost (pe_var (i := 0) rfl v0) (pe_var (i := 1) rfl v1) (by rfl)), ?_⟩
    exact ⟨_, rfl, _, rfl, a, C, rfl, T.ox, T.noV, .inl ⟨ha, fun dx hd ne => k dx hd ne⟩⟩
end
/-- raise C(e) -/
def tRaiseE (C : Addr) (E : XK) (ta : TA) : TS := fun _ σ H => tMkO C (spErr C) [] ta σ H fun cls d H' => E cls d H'
theorem ps_raiseE {X : Cx} {CX : CXT} {C fI : Addr} {fd : FuncData} {ta : TA} {E : XK} {x : Str} {e : Expr} {es : List Expr} {p pos pos2 : Pos} {k : Nat} (hc : X.calm = true) (T : ErrC X.K C fI) (F : FnOk X.prog X.w X.K X.mg X.base CX k fI fd ["self", "value"] (spErr C)) (hr : Room (k + 1) X.A)
    (hb : Binds X.K fd ["self", "value"] []) (hx : Passes CX X (fun _ _ _ => False)) (tk : Takes X (fun cls d _ H => E cls d H)) (hg : Gl X x) (hm : X.mg x = some (.ref C)) (ha : PA X (e :: es) ta)
    (hdb : (x == ("__debug__" : Str)) = false := by decide) (he : starEach (e :: es) X.env = (false, eval e X.env) :: starEach es X.env := by rfl) (hpl : (backTo pos (starEach es X.env)).any (·.1) = false := by rfl) :
    PS X (.Raise (some (.Call (.Name x p) (e :: es) [] pos)) none pos2) (tRaiseE C E ta) :=
  ps_raise hc tk (pmk_oex T.ox T.ini T.tI F hr hb .nil hx hg hm ha hdb he hpl)
/-- e.value, e an error that is kept -/
def tErrV (K : PySem.W.Frag) (te : TE) : TE := fun σ H Q => te σ H fun x H1 => ∃ (a C dx fI : Addr) (v : V), x = .ref a ∧ ErrC K C fI ∧ H1 a = some (exq a C dx) ∧ H1 dx = some (exd dx [(("value" : Str), v)]) ∧ Q v H1
theorem exq_inst {X : Cx} {pins : List (Addr × Obj)} {σ : L2.St} {H : Hp} {s : Shared} {a C dx : Addr} {fs : List (Str × V)} (I : Inv X pins σ H s) (h1 : H a = some (exq a C dx)) (h2 : H dx = some (exd dx fs)) :
    ∃ (oe od : Obj) (mA : Str → Option Value), PySem.W.InstAt s.heap a oe C (some od) ∧ s.heap.get? dx = some od ∧ s.heap.Ns1 dx mA ∧ ∀ f, RelO (fs.lookup f) (mA f) := by
  obtain ⟨oe, vs, g1, g2, g3, g4⟩ := exq_at I.hok h1
  obtain ⟨mA, hns, hr⟩ := exd_at I.hok h2
  obtain ⟨od, ho, hl⟩ := lookIn_ns hns
  exact ⟨oe, od, mA, ⟨g1, g2, by unfold PySem.W.notCls; rw [g4] <;> rfl, by rw [g3]; exact ho⟩, ho, hns, hr⟩
theorem pe_errV {X : Cx} {e : Expr} {te : TE} {pos : Pos} (he : PE X e te) (hb : attributeBase e "value" X.env (eval e X.env) = eval e X.env := by rfl) : PE X (.Attribute e "value" pos) (tErrV X.K te) := by
  refine ⟨fun pins s σ H Q I h => ?_⟩
  refine attr_of hb (thn (he.run pins s σ H _ I h) fun u s1 hh => ?_)
  obtain ⟨x, H1, I1, rx, a, C, dx, fI, v, ex, T, h1, h2, q⟩ := hh
  subst ex
  obtain rfl : u = Value.ref a := rx
  obtain ⟨oe, vs, g1, g2, g3, g4⟩ := exq_at I1.hok h1
  obtain ⟨mA, hns, hr⟩ := exd_at I1.hok h2
  obtain ⟨od, ho, hl⟩ := lookIn_ns hns
  have l : List.lookup ("value" : Str) [(("value" : Str), v)] = some v := by simp [List.lookup]
  obtain ⟨y, hy, ry⟩ := RelO.some_of (v := v) (o := mA "value") (by rw [← l]; exact hr "value")
  have J : PySem.W.InstAt s1.heap a oe C (some od) := ⟨g1, g2, by unfold PySem.W.notCls; rw [g4] <;> rfl, by rw [g3]; exact ho⟩
  exact HandSPX.exc_get I1.kIn J T.xf.ga T.xf.gg T.xf.exC (PySem.W.findObj_own T.xf.hdC T.noV rfl (by rw [hl, hy])) (handed_of ry) ⟨v, H1, I1.tok _, ry, q⟩
/-- isinstance(x, c), x an error that is kept -/
def rIsX (K : PySem.W.Frag) : List V → Hp → VK → Prop := fun xs H Q => ∃ (a C dx fI : Addr) (fs : List (Str × V)) (c : V) (cv : Value) (b : Bool), xs = [.ref a, c] ∧ ClsV c cv ∧ ErrC K C fI ∧ H a = some (exq a C dx) ∧ H dx = some (exd dx fs) ∧ PySem.W.kitOne K (.ref C) cv = some b ∧ Q (.bl b) H
theorem cls_some {K : PySem.W.Frag} {C : Addr} (h : PySem.W.hasDictIn K C = true) : (PySem.W.clsIn K C).isSome = true := by
  obtain ⟨cd, hc, _⟩ := PySem.W.any_some h
  rw [hc]
  rfl
theorem call_isX {X : Cx} : CallR X (.builtin "isinstance") (rIsX X.K) := by
  intro pins s σ H xs us Q I r h
  obtain ⟨a, C, dx, fI, fs, c, cv, b, rfl, k, T, h1, h2, e, q⟩ := h
  obtain ⟨u1, u2, rfl, r1, r2⟩ := vals2 r
  have e2 := k.eq r2
  subst e2
  cases (show u1 = Value.ref a from r1)
  obtain ⟨oe, od, mA, J, _⟩ := exq_inst I h1 h2
  exact PySem.W.kia_one (PySem.W.kitx_exc (cls_some T.xf.hdC) T.xf.ga T.xf.gg T.xf.exC T.ha T.hn T.ht T.hm) I.kIn J e (fun z => nomatch z) fun tk => ⟨.bl b, H, I.kept (t' := tk) fun _ _ z => z, rfl, q⟩

/-! ### over data -/
section
variable {K : PySem.W.Frag} {S : Bs} {δ : Sl} {μ : List Cell} {ta : TA} {te : TE} {E : XK} {CE : Addr → D → List Cell → Prop} {Cn0 : Cn} {C : D → List Cell → Prop}
theorem se_raise {c : Addr} (wi : Wi K S E CE) (h : EA K S ta δ μ fun ds μ1 => ∃ d, ds = [d] ∧ CE c d μ1) : SE K S (tRaiseE c E ta) δ μ Cn0 := fun A G H σ a F f =>
  h A G H σ a _ fun vs ds A1 G1 H1 μ1 m1 n1 r1 ⟨d, e, hc⟩ => by
    subst e
    cases r1 with
    | @cons _ u _ _ rd r =>
      cases r
      refine ⟨(by show 1 ≤ 1000; decide), fun x hx => ⟨x, u, rfl, upd_same, fun dx hd ne => ⟨rfl, dx, _, upd_same, (by rw [upd_ne ne, upd_same]), ?_, ?_⟩⟩⟩
      · rw [upd_ne ne] at hd
        exact hd
      · rw [upd_ne ne] at hd
        have eq : upd (del (upd (upd (upd H1 x (exo x c none)) dx (exd dx [(("value" : Str), u)])) x (exo x c (some dx))) x) dx (.xd [(("value" : Str), u)]) = upd H1 dx (.xd [(("value" : Str), u)]) := by
          funext b
          by_cases e1 : b = dx
          · subst e1
            rw [upd_same, upd_same]
          · rw [upd_ne e1, upd_ne e1]
            by_cases e2 : b = x
            · subst e2
              rw [del_same, hx]
            · rw [del_ne e2, upd_ne e2, upd_ne e1, upd_ne e2]
        rw [eq]
        have gd := m1.ex.free hd
        refine wi c dx u d A1 G1 _ μ1 (m1.grow (m1.ex.side gd) (Ex.refl _) (Ex.new hd) fun p h => .inl h) (m1.freeS hd).1 gd upd_same rd hc
theorem ee_errV {fI : Addr → Addr} (h : EE K S te δ μ fun x μ1 => ∃ c d, x = .exc c d ∧ ErrC K c (fI c) ∧ C d μ1) : EE K S (tErrV K te) δ μ C := fun A G H σ a Q q =>
  h A G H σ a _ fun v x A1 G1 H1 μ1 m1 n1 r1 ⟨c, d, e, T, k⟩ => by
    subst e
    cases r1 with
    | exc h1 h2 r => exact ⟨_, _, _, _, _, rfl, T, m1.ex _ _ h1, m1.ex _ _ h2, q _ d A1 G1 H1 μ1 m1 n1 r k⟩
/-! ### try, over data -/
/-- what an error out of a try's body is let do, at the slots as they stand -/
def WiX (K : PySem.W.Frag) (S : Bs) (W : WX) (A0 : List Addr) (G0 : Hp) (CE : Sl → Addr → D → List Cell → Prop) : Prop :=
  ∀ A G H σ δ μ c dx u d, At K S A G H σ δ μ → Nw A0 G0 A G → S.H dx = none → G dx = none → H dx = some (.xd [(("value" : Str), u)]) → Rp K A G d u → CE δ c d μ → W (.ref c) (some dx) σ H
def EX (K : PySem.W.Frag) (S : Bs) (te : WX → TE) (δ : Sl) (μ : List Cell) (C : D → List Cell → Prop) (CE : Sl → Addr → D → List Cell → Prop) : Prop :=
  ∀ A G H σ, At K S A G H σ δ μ → ∀ W, WiX K S W A G CE → ∀ Q : VK, (∀ v d A' G' H' μ', Mem K S A' G' H' μ' → Nw A G A' G' → Rp K A' G' d v → C d μ' → Q v H') → te W σ H Q
def SX (K : PySem.W.Frag) (S : Bs) (tb : WX → TS) (δ : Sl) (μ : List Cell) (C : Cn) (CE : Sl → Addr → D → List Cell → Prop) : Prop :=
  ∀ A G H σ, At K S A G H σ δ μ → ∀ W (F : Ends), Fi K S A G F C → WiX K S W A G CE → tb W F σ H
theorem WiX.at' {W : WX} {A0 A1 : List Addr} {G0 G1 : Hp} {CE : Sl → Addr → D → List Cell → Prop} (w : WiX K S W A0 G0 CE) (n : Nw A0 G0 A1 G1) : WiX K S W A1 G1 CE :=
  fun A G H σ δ μ c dx u d a n1 h1 h2 h3 h4 h5 => w A G H σ δ μ c dx u d a (n.trans n1) h1 h2 h3 h4 h5
section
variable {CE : Sl → Addr → D → List Cell → Prop}
theorem ex_of (h : EE K S te δ μ C) : EX K S (fun _ => te) δ μ C CE := fun A G H σ a _ _ Q q => h A G H σ a Q q
theorem sx_of {ts : TS} (h : SE K S ts δ μ Cn0) : SX K S (fun _ => ts) δ μ Cn0 CE := fun A G H σ a _ F f _ => h A G H σ a F f
theorem sx_asg {tw : WX → TE} {i : Nat} (h : EX K S tw δ μ (fun d μ1 => Cn0.nx (δ.set i (some d)) μ1) CE) : SX K S (fun W => tAsg (tw W) (gName i)) δ μ Cn0 CE := fun A G H σ a W F f w =>
  h A G H σ a W w _ fun v d A1 G1 H1 μ1 m1 n1 r1 c => f.nx A1 G1 H1 _ _ μ1 ⟨m1, En.set r1 i (n1.en a.env)⟩ n1 c
theorem sx_drop {tw : WX → TE} (h : EX K S tw δ μ (fun _ μ1 => Cn0.nx δ μ1) CE) : SX K S (fun W => tDrop (tw W)) δ μ Cn0 CE := fun A G H σ a W F f w =>
  h A G H σ a W w _ fun v d A1 G1 H1 μ1 m1 n1 r1 c => f.nx A1 G1 H1 σ δ μ1 ⟨m1, n1.en a.env⟩ n1 c
theorem sx_ret {tw : WX → TE} (h : EX K S tw δ μ Cn0.rt CE) : SX K S (fun W => tRet (tw W)) δ μ Cn0 CE := fun A G H σ a W F f w =>
  h A G H σ a W w _ fun v d A1 G1 H1 μ1 m1 n1 r1 c => f.rt A1 G1 H1 v d μ1 m1 r1 c
theorem sx_seq {t1 t2 : WX → TS} (h : SX K S t1 δ μ { Cn0 with nx := fun δ1 μ1 => SX K S t2 δ1 μ1 Cn0 CE } CE) : SX K S (fun W => tSeq (t1 W) (t2 W)) δ μ Cn0 CE := fun A G H σ a W F f w =>
  h A G H σ a W { F with nx := t2 W F } (f.go fun A1 G1 H1 σ1 δ1 μ1 a1 n1 c => c A1 G1 H1 σ1 a1 W F (f.at' n1) (w.at' n1)) w
theorem ex_call {T : Type} {arg : T → List D} {pre : T → Prop} {post : T → D → Prop} {exc : T → Addr → D → Prop}
    (h : EA K S ta δ μ fun ds μ1 => ∃ t : T, pre t ∧ ds = arg t ∧ D.ltL 0 ds = true ∧ (∀ d, post t d → d.lt 0 = true → C d μ1) ∧ ∀ c d, exc t c d → d.lt 0 = true → CE δ c d μ1) : EX K S (fun W => tCallS (ProP K arg pre post exc) (WE W) ta) δ μ C CE := fun A G H σ a W wx Q q =>
  h A G H σ a _ fun vs ds A1 G1 H1 μ1 m1 n1 r1 ⟨t, hp, ed, hl, hc, hx⟩ => by
    subst ed
    have rd : RpL K [] G1 (arg t) vs := r1.cl hl
    have m0 : Mem K ⟨[], G1, H1⟩ [] G1 H1 [] := ⟨m1.ex, Ex.refl _, ⟨[], rfl, fun _ h => by cases h⟩, fun _ h => .inl h, fun _ _ _ h => h, fun k a c h _ => by simp at h, rfl, List.nodup_nil, fun _ h => by cases h⟩
    have beh : ∀ {G' H' : Hp} {B : List Addr}, Mem K ⟨[], G1, H1⟩ ([] ++ B) G' H' [] → B = [] ∧ Mem K S A1 G' H' μ1 := fun {G' H' B} f => by
      have hB : B = [] := List.length_eq_zero_iff.mp (by have z := f.len; simpa using z)
      subst hB
      have fa := m1.after (hs := []) (B := []) List.nodup_nil (fun k hk => (by cases hk)) f
      have eb : behindC [] A1.length [] μ1 = μ1 := by
        show μ1 ++ [] = μ1
        rw [List.append_nil]
      rw [List.append_nil, eb] at fa
      exact ⟨rfl, fa⟩
    refine ⟨t, [], G1, hp, m0, rd, fun v d B G' H' ν f r ⟨e0, c⟩ => ?_, fun c dx u d G' H' ν f f1 f2 f3 r c' => ?_⟩
    · subst e0
      obtain ⟨hB, mb⟩ := beh f
      subst hB
      have hcl : d.lt 0 = true := r.scope
      exact q v d A1 G' H' μ1 mb (n1.trans (.of f.exG)) (r.cl hcl) (hc _ c hcl)
    · have e0 : ν = [] := List.length_eq_zero_iff.mp (by have z := f.len; simpa using z.symm)
      subst e0
      obtain ⟨_, mb⟩ := beh (B := []) f
      have hcl : d.lt 0 = true := r.scope
      have n2 := n1.trans (Nw.of (A := A1) f.exG)
      have hs0 : S.H dx = none := by
        cases qq : S.H dx with
        | none => rfl
        | some o =>
          by_cases ha' : dx ∈ S.A
          · obtain ⟨B0, hB0, h0⟩ := m1.pre
            exact absurd f1 (m1.al dx (by rw [hB0]; exact List.mem_append_left _ ha'))
          · have z := m1.keep dx o ha' qq
            rw [f1] at z
            cases z
      exact wx A1 G' H' σ δ μ1 c dx u d ⟨mb, n2.en a.env⟩ n2 hs0 f2 f3 (r.cl hcl) (hx c d c' hcl)
end
/-- an error's dict is known from now on -/
theorem Mem.dictKnown {A : List Addr} {G H : Hp} {dx : Addr} {u : V} (m : Mem K S A G H μ) (h1 : S.H dx = none) (h2 : G dx = none) (h3 : H dx = some (.xd [(("value" : Str), u)])) :
    Mem K S A (upd G dx (exd dx [(("value" : Str), u)])) (upd H dx (exd dx [(("value" : Str), u)])) μ where
  ex := Ex.both m.ex
  exG := m.exG.trans (Ex.new h2)
  pre := m.pre
  new := fun p hp => by
    by_cases e : p = dx
    · rw [e]
      exact .inr h1
    · rw [upd_ne e] at hp
      exact m.new p hp
  keep := fun a o q1 q2 => by
    have e : a ≠ dx := ne_of_none q2 h1
    rw [upd_ne e]
    exact m.keep a o q1 q2
  cel := fun k a c e1 e2 => by
    have q := m.cel k a c e1 e2
    cases c with
    | off => trivial
    | lst l =>
      obtain ⟨g, ys, hy, r⟩ := q
      have e : a ≠ dx := fun z => by
        rw [z, h3] at hy
        cases hy
      refine ⟨?_, ys, ?_, r.mono0 (Ex.new h2)⟩
      · rw [upd_ne e]
        exact g
      · rw [upd_ne e]
        exact hy
    | gen tg l =>
      obtain ⟨g, ys, hn, hy, r⟩ := q
      have e : a ≠ dx := fun z => by
        rw [z, h3] at hy
        cases tg <;> cases hy
      refine ⟨?_, ys, hn, ?_, r.mono0 (Ex.new h2)⟩
      · rw [upd_ne e]
        exact g
      · rw [upd_ne e]
        exact hy
  len := m.len
  nd := m.nd
  al := fun a ha z => by
    by_cases e : a = dx
    · rw [e, upd_same] at z
      cases z
    · rw [upd_ne e] at z
      exact m.al a ha z
/-- THE RULE for try: tb; except cv as n: ts (n in slot i) -/
theorem se_try {tb : WX → TS} {cv : Value} {i : Nat} {ts : TS} {Wout : WX} {C0 : Cn} (CE : Sl → Addr → D → List Cell → Prop) (hb : SX K S tb δ μ C0 CE)
    (hs : ∀ δ' c d μ', CE δ' c d μ' → PySem.W.exmOne K (.ref c) cv = some true ∧
      SE K S ts (δ'.set i (some (.exc c d))) μ' { nx := fun δ2 μ2 => C0.nx (δ2.set i none) μ2, rt := C0.rt, bk := fun δ2 μ2 => C0.bk (δ2.set i none) μ2, ct := fun δ2 μ2 => C0.ct (δ2.set i none) μ2 }) :
    SE K S (fun D σ H => tb (wHold K cv i ts Wout D) D σ H) δ μ C0 := fun A G H σ a F f => by
  refine hb A G H σ a _ F f fun A1 G1 H1 σ1 δ1 μ1 c dx u d a1 n1 h1 gd hd rd hc => ?_
  obtain ⟨hm, hse⟩ := hs δ1 c d μ1 hc
  refine ⟨true, hm, fun _ => ⟨c, dx, _, rfl, rfl, hd, fun x hx => ?_⟩, fun z => Bool.noConfusion z⟩
  have ne : dx ≠ x := ne_of_none hd hx
  have gx : G1 x = none := a1.m.ex.free hx
  have hx1 : upd H1 dx (exd dx [(("value" : Str), u)]) x = none := by
    rw [upd_ne ne.symm]
    exact hx
  have m2 := (a1.m.dictKnown h1 gd hd).laid (o := exq x c dx) hx1
  have e1 : Ex G1 (upd (upd G1 dx (exd dx [(("value" : Str), u)])) x (exq x c dx)) := (Ex.new gd).trans (Ex.new (by rw [upd_ne ne.symm]; exact gx))
  have rx : Rp K A1 (upd (upd G1 dx (exd dx [(("value" : Str), u)])) x (exq x c dx)) (.exc c d) (.ref x) := .exc upd_same (by rw [upd_ne ne, upd_same]) (rd.mono0 e1)
  have n2 : Nw A1 G1 A1 (upd (upd G1 dx (exd dx [(("value" : Str), u)])) x (exq x c dx)) := .of e1
  refine hse A1 _ _ _ ⟨m2, En.set rx i (n2.en a1.env)⟩ _ ⟨fun A3 G3 H3 σ3 δ3 μ3 a3 n3 c3 => ?_, f.rt, fun A3 G3 H3 σ3 δ3 μ3 a3 n3 c3 => ?_, fun A3 G3 H3 σ3 δ3 μ3 a3 n3 c3 => ?_⟩
  · exact f.nx A3 G3 H3 _ _ μ3 ⟨a3.m, En.unset i none a3.env⟩ ((n1.trans n2).trans n3) c3
  · exact f.bk A3 G3 H3 _ _ μ3 ⟨a3.m, En.unset i none a3.env⟩ ((n1.trans n2).trans n3) c3
  · exact f.ct A3 G3 H3 _ _ μ3 ⟨a3.m, En.unset i none a3.env⟩ ((n1.trans n2).trans n3) c3
end
end PA

set_option Elab.async false
set_option linter.all false
set_option maxRecDepth 100000
set_option maxHeartbeats 2000000
/-! PbOps: operators, items, cuts, calls and methods of the built-ins, over data. -/
namespace PA
open PySem L2
/-! ### one rule a sign -/
section
variable {X : Cx}
def rPlus (K : PySem.W.Frag) : R2 := fun x y H Q => rI0 (fun i j => .int (i + j)) x y H Q ∨
  ((fun x y H (Q : VK) => ∃ i j, x = .str i ∧ y = .str j ∧ i.length + j.length ≤ sizeLine ∧ Q (.str (i ++ j)) H) x y H Q ∨ (rCat x y H Q ∨ rCatA K x y H Q))
theorem op_plus : OpR X (binaryOp .Add) (rPlus X.K) := OpR.or op_add (OpR.or op_add_str (OpR.or op_cat op_catA))
def rLess : R2 := fun x y H Q => rI0 (fun i j => .bl (decide (i < j))) x y H Q ∨ (fun x y H (Q : VK) => ∃ i j, x = .str i ∧ y = .str j ∧ Q (.bl (decide (i.cps.toList < j.cps.toList))) H) x y H Q
theorem op_less : OpR X (compareOp .Lt) rLess := OpR.or op_lt op_lt_str
def rLeq : R2 := fun x y H Q => rI0 (fun i j => .bl (decide (i ≤ j))) x y H Q ∨ (fun x y H (Q : VK) => ∃ i j, x = .str i ∧ y = .str j ∧ Q (.bl (!decide (j.cps.toList < i.cps.toList))) H) x y H Q
theorem op_leq : OpR X (compareOp .LtE) rLeq := OpR.or op_le op_le_str
def rEqU (K : PySem.W.Frag) : R2 := fun x y H Q => rEq x y H Q ∨ (rEqD K x y H Q ∨ rEqDA x y H Q)
theorem op_eqU (hu : X.A.units + 64 < cLine) : OpR X (compareOp .Eq) (rEqU X.K) := OpR.or op_eq (OpR.or (op_eqD hu) (op_eq_dictA (by omega)))
def rNeU (K : PySem.W.Frag) : R2 := fun x y H Q => rNe x y H Q ∨ rNeD K x y H Q
theorem op_neU (hu : X.A.units + 64 < cLine) : OpR X (compareOp .NotEq) (rNeU X.K) := OpR.or op_ne (op_neD hu)
def rInU (K : PySem.W.Frag) : R2 := fun x y H Q => rIn K false x y H Q ∨ (fun x y H (Q : VK) => ∃ (c : Nat) (z : Str), x = .str ⟨#[c]⟩ ∧ y = .str z ∧ Q (.bl (decide (c ∈ z.cps.toList))) H) x y H Q
theorem op_inU : OpR X (compareOp .In) (rInU X.K) := OpR.or op_in_seq op_in_sign
def rNiU (K : PySem.W.Frag) : R2 := fun x y H Q => rIn K true x y H Q ∨ (fun x y H (Q : VK) => ∃ (c : Nat) (z : Str), x = .str ⟨#[c]⟩ ∧ y = .str z ∧ Q (.bl (!decide (c ∈ z.cps.toList))) H) x y H Q
theorem op_niU : OpR X (compareOp .NotIn) (rNiU X.K) := OpR.or op_notIn_seq op_notIn_sign
def rSlU (K : PySem.W.Frag) : V → Option Int → Option Int → Hp → VK → Prop := fun x lo hi H Q => rSlL K x lo hi H Q ∨ (rSlA K x lo hi H Q ∨ rSlS x lo hi H Q)
theorem sl_U : SlR X (rSlU X.K) := SlR.or sl_list (SlR.or sl_tupA sl_str)
def rIsiU (K : PySem.W.Frag) : List V → Hp → VK → Prop := fun xs H Q => rIsi K xs H Q ∨ (rIsiT K xs H Q ∨ (rIsX K xs H Q ∨ rIsiK K xs H Q))
theorem call_isU : CallR X (.builtin "isinstance") (rIsiU X.K) := CallR.or call_isi (CallR.or call_isiT (CallR.or call_isX call_isiK))
end
section
variable {K : PySem.W.Frag} {S : Bs} {δ : Sl} {μ : List Cell} {ta tb te : TE} {C : D → List Cell → Prop}
theorem oo_same {r : R2} {x y z : V} (h : ∀ H (Q : VK), Q z H → r x y H Q) (k : C (.v z) μ) : OO K S r (.v x) (.v y) μ C := fun A G H u w m r1 r2 Q q => by
  have e1 := r1.vOf
  have e2 := r2.vOf
  subst e1 e2
  exact h H Q (q z (.v z) A G H μ m Nw.refl (.v z) k)
theorem oo_add {i j : Int} (k : C (.int (i + j)) μ) : OO K S (rPlus K) (.int i) (.int j) μ C := oo_same (fun _ _ q => .inl ⟨i, j, rfl, rfl, q⟩) k
theorem oo_addS {a b : Str} (hz : a.length + b.length ≤ 10000000) (k : C (.str (a ++ b)) μ) : OO K S (rPlus K) (.str a) (.str b) μ C := oo_same (fun _ _ q => .inr (.inl ⟨a, b, rfl, rfl, small hz, q⟩)) k
theorem put_lst {A : List Addr} {G H : Hp} {p : Addr} {xs : List V} {l : List D} {Q : VK} (m : Mem K S A G H μ) (hp : H p = none) (r : RpL K A G l xs)
    (q : ∀ v d A' G' H' μ', Mem K S A' G' H' μ' → Nw A G A' G' → Rp K A' G' d v → C d μ' → Q v H') (k : C (.lst l) μ) : Q (.ref p) (upd H p (.lst xs)) :=
  q _ _ A _ _ μ (m.laid hp) (.of (Ex.new (m.ex.free hp))) (.lst upd_same (r.mono0 (Ex.new (m.ex.free hp)))) k
theorem put_tup {A : List Addr} {G H : Hp} {p : Addr} {xs : List V} {l : List D} {Q : VK} (m : Mem K S A G H μ) (hp : H p = none) (r : RpL K A G l xs)
    (q : ∀ v d A' G' H' μ', Mem K S A' G' H' μ' → Nw A G A' G' → Rp K A' G' d v → C d μ' → Q v H') (k : C (.tup l) μ) : Q (.ref p) (upd H p (.tup xs)) :=
  q _ _ A _ _ μ (m.laid hp) (.of (Ex.new (m.ex.free hp))) (.tup (.inl upd_same) (r.mono0 (Ex.new (m.ex.free hp)))) k
theorem oo_addL {l m : List D} (hz : l.length + m.length ≤ 10000000) (k : C (.lst (l ++ m)) μ) : OO K S (rPlus K) (.lst l) (.lst m) μ C := fun A G H u w me r1 r2 Q q => by
  cases r1 with
  | lst h1 s1 =>
    cases r2 with
    | lst h2 s2 => exact .inr (.inr (.inl ⟨_, _, _, _, rfl, rfl, me.ex _ _ h1, me.ex _ _ h2, small (by rw [← s1.len, ← s2.len]; exact hz), fun p hp => put_lst me hp (s1.append s2) q k⟩))
theorem oo_addT {l m : List D} (hz : l.length + m.length ≤ 10000000) (k : C (.tup (l ++ m)) μ) : OO K S (rPlus K) (.tup l) (.tup m) μ C := fun A G H u w me r1 r2 Q q => by
  cases r1 with
  | @tup _ a xs h1 s1 =>
    cases r2 with
    | @tup _ b ys h2 s2 =>
      refine .inr (.inr (.inr ⟨_, _, xs, ys, rfl, rfl, ex_t me.ex h1.sq, ex_t me.ex h2.sq, small (by rw [← s1.len, ← s2.len]; exact hz), fun e => ?_, fun n e => ?_, fun n1 n2 p hp => put_tup me hp (s1.append s2) q k⟩))
      · refine q _ _ A G H μ me Nw.refl (.tup h2 ?_) k
        have z := s1.append s2
        rw [e, List.nil_append] at z
        exact z
      · refine q _ _ A G H μ me Nw.refl (.tup h1 ?_) k
        have z := s1.append s2
        rw [e, List.append_nil] at z
        exact z
theorem oo_I0 {g : Int → Int → V} {i j : Int} (k : C (.v (g i j)) μ) : OO K S (rI0 g) (.int i) (.int j) μ C := oo_same (fun _ _ q => ⟨i, j, rfl, rfl, q⟩) k
theorem oo_I {P : Int → Int → Prop} {g : Int → Int → V} {i j : Int} (hp : P i j) (k : C (.v (g i j)) μ) : OO K S (rI P g) (.int i) (.int j) μ C := oo_same (fun _ _ q => ⟨i, j, rfl, rfl, hp, q⟩) k
theorem oo_lt {i j : Int} (k : C (.bl (decide (i < j))) μ) : OO K S rLess (.int i) (.int j) μ C := oo_same (fun _ _ q => .inl ⟨i, j, rfl, rfl, q⟩) k
theorem oo_ltS {a b : Str} (k : C (.bl (decide (a.cps.toList < b.cps.toList))) μ) : OO K S rLess (.str a) (.str b) μ C := oo_same (fun _ _ q => .inr ⟨a, b, rfl, rfl, q⟩) k
theorem oo_le {i j : Int} (k : C (.bl (decide (i ≤ j))) μ) : OO K S rLeq (.int i) (.int j) μ C := oo_same (fun _ _ q => .inl ⟨i, j, rfl, rfl, q⟩) k
theorem oo_leS {a b : Str} (k : C (.bl (!decide (b.cps.toList < a.cps.toList))) μ) : OO K S rLeq (.str a) (.str b) μ C := oo_same (fun _ _ q => .inr ⟨a, b, rfl, rfl, q⟩) k
theorem oo_eq {x y : V} (hs : scal x y = true) (k : C (.bl (decide (x = y))) μ) : OO K S (rEqU K) (.v x) (.v y) μ C := oo_same (fun _ _ q => .inl ⟨hs, q⟩) k
theorem oo_ne {x y : V} (hs : scal x y = true) (k : C (.bl (!decide (x = y))) μ) : OO K S (rNeU K) (.v x) (.v y) μ C := oo_same (fun _ _ q => .inl ⟨hs, q⟩) k
/-! data that may be compared at any depth -/
mutual
def D.py : D → Option PyData
  | .v .non => some .none
  | .v (.bl b) => some (.bool b)
  | .v (.int i) => some (.int i)
  | .v (.str s) => some (.str s)
  | .lst l => (D.pyAll l).map .list
  | .rd l => (D.pyAll l).map .list
  | .tup l => (D.pyAll l).map .tuple
  | _ => none
def D.pyAll : List D → Option (List PyData)
  | [] => some []
  | d :: l => match D.py d, D.pyAll l with
    | some p, some ps => some (p :: ps)
    | _, _ => none
end
mutual
theorem Rp.dp {A : List Addr} {G : Hp} : ∀ {d : D} {x : V} {p : PyData}, Rp K A G d x → D.py d = some p → Dp K G x p
  | _, _, p, .v x, e => by
    cases x with
    | non => cases e; exact .non
    | bl b => cases e; exact .bl b
    | int i => cases e; exact .int i
    | str s => cases e; exact .str s
    | byt b => cases e
    | flt b => cases e
    | ref a => cases e
    | ty n => cases e
  | _, _, p, .lst (l := l) h r, e => by
    have e : (D.pyAll l).map PyData.list = some p := e
    cases q : D.pyAll l with
    | none => rw [q] at e; cases e
    | some ps =>
      rw [q] at e
      cases e
      exact .lst (lst_sq h) (RpL.dp r q)
  | _, _, p, .rd (l := l) h r, e => by
    have e : (D.pyAll l).map PyData.list = some p := e
    cases q : D.pyAll l with
    | none => rw [q] at e; cases e
    | some ps =>
      rw [q] at e
      cases e
      exact .lst h (RpL.dp r q)
  | _, _, p, .tup (l := l) h r, e => by
    have e : (D.pyAll l).map PyData.tuple = some p := e
    cases q : D.pyAll l with
    | none => rw [q] at e; cases e
    | some ps =>
      rw [q] at e
      cases e
      exact .tup h.sq (RpL.dp r q)
theorem RpL.dp {A : List Addr} {G : Hp} : ∀ {l : List D} {xs : List V} {ps : List PyData}, RpL K A G l xs → D.pyAll l = some ps → DpAll K G xs ps
  | _, _, ps, .nil, e => by cases e; exact .nil
  | _, _, ps, .cons (d := d) (l := l) h r, e => by
    have e : (match D.py d, D.pyAll l with | some p, some ps => some (p :: ps) | _, _ => none) = some ps := e
    cases q1 : D.py d with
    | none => rw [q1] at e; cases e
    | some p =>
      cases q2 : D.pyAll l with
      | none => rw [q1, q2] at e; cases e
      | some qs =>
        rw [q1, q2] at e
        cases e
        exact .cons (Rp.dp h q1) (RpL.dp r q2)
end
theorem oo_eqD {x y : D} {p q : PyData} (h1 : D.py x = some p) (h2 : D.py y = some q) (s1 : SeqAt.shaped p = true) (s2 : SeqAt.shaped q = true) (k : C (.bl (PyData.eqv p q)) μ) : OO K S (rEqU K) x y μ C := fun A G H u w m r1 r2 Q qq =>
  .inr (.inl ⟨p, q, (r1.mono0 m.ex).dp h1, (r2.mono0 m.ex).dp h2, s1, s2, qq _ _ A G H μ m Nw.refl (.v _) k⟩)
theorem oo_neD {x y : D} {p q : PyData} (h1 : D.py x = some p) (h2 : D.py y = some q) (s1 : SeqAt.shaped p = true) (s2 : SeqAt.shaped q = true) (k : C (.bl (!PyData.eqv p q)) μ) : OO K S (rNeU K) x y μ C := fun A G H u w m r1 r2 Q qq =>
  .inr ⟨p, q, (r1.mono0 m.ex).dp h1, (r2.mono0 m.ex).dp h2, s1, s2, qq _ _ A G H μ m Nw.refl (.v _) k⟩
/-- x is None -/
def D.isNon : D → Bool
  | .v .non => true
  | _ => false
theorem Rp.isNon {A : List Addr} {G : Hp} {d : D} {x : V} (h : Rp K A G d x) : decide (x = .non) = d.isNon := by
  cases h with
  | v x => cases x <;> rfl
  | own _ => rfl
  | lst _ _ => rfl
  | rd _ _ => rfl
  | tup _ _ => rfl
  | dic _ _ _ => rfl
  | exc _ _ _ => rfl
theorem oo_isN {x : D} (k : C (.bl x.isNon) μ) : OO K S (fun x y H Q => y = .non ∧ Q (.bl (decide (x = .non))) H) x .non μ C := fun A G H u w m r1 r2 Q q => by
  have e2 := r2.vOf
  subst e2
  refine ⟨rfl, ?_⟩
  rw [r1.isNon]
  exact q _ _ A G H μ m Nw.refl (.v _) k
theorem oo_notN {x : D} (k : C (.bl (!x.isNon)) μ) : OO K S (fun x y H Q => y = .non ∧ Q (.bl (!decide (x = .non))) H) x .non μ C := fun A G H u w m r1 r2 Q q => by
  have e2 := r2.vOf
  subst e2
  refine ⟨rfl, ?_⟩
  rw [r1.isNon]
  exact q _ _ A G H μ m Nw.refl (.v _) k
theorem oo_inC {c : Nat} {z : Str} (k : C (.bl (decide (c ∈ z.cps.toList))) μ) : OO K S (rInU K) (.str ⟨#[c]⟩) (.str z) μ C := oo_same (fun _ _ q => .inr ⟨c, z, rfl, rfl, q⟩) k
theorem oo_niC {c : Nat} {z : Str} (k : C (.bl (!decide (c ∈ z.cps.toList))) μ) : OO K S (rNiU K) (.str ⟨#[c]⟩) (.str z) μ C := oo_same (fun _ _ q => .inr ⟨c, z, rfl, rfl, q⟩) k
/-- x in a tuple or a list of flat values -/
theorem oo_inT {x : V} {ys : List V} (hx : flatV x = true) (hy : ys.all flatV = true) (k : C (.bl (inV x ys)) μ) : OO K S (rInU K) (.v x) (.tup (ys.map .v)) μ C := fun A G H u w m r1 r2 Q q => by
  have e1 := r1.vOf
  subst e1
  cases r2 with
  | tup h r =>
    have e2 := RpL.of_vals r
    subst e2
    exact .inl ⟨_, _, rfl, .inr (ex_t m.ex h.sq), hx, hy, q _ _ A G H μ m Nw.refl (.v _) k⟩
theorem oo_inL {x : V} {ys : List V} (hx : flatV x = true) (hy : ys.all flatV = true) (k : C (.bl (inV x ys)) μ) : OO K S (rInU K) (.v x) (.lst (ys.map .v)) μ C := fun A G H u w m r1 r2 Q q => by
  have e1 := r1.vOf
  subst e1
  cases r2 with
  | lst h r =>
    have e2 := RpL.of_vals r
    subst e2
    exact .inl ⟨_, _, rfl, .inl (ex_l m.ex (lst_sq h)), hx, hy, q _ _ A G H μ m Nw.refl (.v _) k⟩

/-! ### items -/
theorem atI_rel {A : List Addr} {G : Hp} {l : List D} {xs : List V} {i : Int} {d : D} (r : RpL K A G l xs) (h : atI l i = some d) : ∃ x, atI xs i = some x ∧ Rp K A G d x := by
  unfold atI at h ⊢
  rw [← r.len]
  cases q : ixN l.length i with
  | none => rw [q] at h; cases h
  | some j =>
    rw [q] at h
    exact r.get h
theorem atI_nat {α : Type} {l : List α} {j : Nat} {d : α} (h : l[j]? = some d) : atI l (j : Int) = some d := by
  have hj := (List.getElem?_eq_some_iff.mp h).1
  unfold atI ixN
  rw [if_pos (by omega), if_pos (by omega)]
  simpa using h
theorem atI_neg {α : Type} {l : List α} {j : Nat} {d : α} (hj : 0 < j) (hl : j ≤ l.length) (h : l[l.length - j]? = some d) : atI l (-(j : Int)) = some d := by
  unfold atI ixN
  rw [if_neg (by omega), if_pos (by omega)]
  show l[(-(j : Int) + (l.length : Int)).toNat]? = some d
  have e : (-(j : Int) + (l.length : Int)).toNat = l.length - j := by omega
  rw [e]
  exact h
theorem oo_ixL {l : List D} {i : Int} {d : D} (h : atI l i = some d) (k : C d μ) : OO K S (rIx K) (.lst l) (.int i) μ C := fun A G H u w m r1 r2 Q q => by
  have e2 := r2.vOf
  subst e2
  cases r1 with
  | lst h1 r =>
    obtain ⟨x, hx, rx⟩ := atI_rel r h
    exact .inl ⟨_, _, i, x, rfl, rfl, lst_sq (m.ex _ _ h1), hx, q x d A G H μ m Nw.refl rx k⟩
theorem oo_ixR {l : List D} {i : Int} {d : D} (h : atI l i = some d) (k : C d μ) : OO K S (rIx K) (.rd l) (.int i) μ C := fun A G H u w m r1 r2 Q q => by
  have e2 := r2.vOf
  subst e2
  cases r1 with
  | rd h1 r =>
    obtain ⟨x, hx, rx⟩ := atI_rel r h
    exact .inl ⟨_, _, i, x, rfl, rfl, ex_l m.ex h1, hx, q x d A G H μ m Nw.refl rx k⟩
theorem oo_ixT {l : List D} {i : Int} {d : D} (h : atI l i = some d) (k : C d μ) : OO K S (rIx K) (.tup l) (.int i) μ C := fun A G H u w m r1 r2 Q q => by
  have e2 := r2.vOf
  subst e2
  cases r1 with
  | tup h1 r =>
    obtain ⟨x, hx, rx⟩ := atI_rel r h
    exact .inr (.inl ⟨_, _, i, x, rfl, rfl, ex_t m.ex h1.sq, hx, q x d A G H μ m Nw.refl rx k⟩)
theorem oo_ixO {n : Nat} {l : List D} {i : Int} {d : D} (hc : μ[n]? = some (.lst l)) (h : atI l i = some d) (k : C d μ) : OO K S (rIx K) (.own n) (.int i) μ C := fun A G H u w m r1 r2 Q q => by
  have e2 := r2.vOf
  subst e2
  cases r1 with
  | own hA =>
    obtain ⟨g, xs, hx, r⟩ := m.cel n _ _ hA hc
    obtain ⟨x, hx2, rx⟩ := atI_rel r h
    exact .inl ⟨_, _, i, x, rfl, rfl, lst_sq hx, hx2, q x d A G H μ m Nw.refl rx k⟩
theorem oo_ixS {s : Str} {i : Int} {c : Nat} (hz : s.length ≤ 10000000) (h : atI s.cps.toList i = some c) (k : C (.str ⟨#[c]⟩) μ) : OO K S (rIx K) (.str s) (.int i) μ C :=
  oo_same (fun _ _ q => .inr (.inr ⟨s, i, c, rfl, rfl, small hz, h, q⟩)) k

/-! ### cuts -/
theorem eo_none {C : Option Int → List Cell → Prop} (k : C none μ) : EO K S tNoPart δ μ C := fun A G H σ a Q q => q none A G H μ a.m Nw.refl k
theorem eo_some {C : Option Int → List Cell → Prop} (h : EE K S te δ μ fun d μ1 => ∃ i, d = .int i ∧ C (some i) μ1) : EO K S (tPart te) δ μ C := fun A G H σ a Q q =>
  h A G H σ a _ fun v d A1 G1 H1 μ1 m1 n1 r1 ⟨i, e, c⟩ => by
    subst e
    have ev := r1.vOf
    subst ev
    exact ⟨i, rfl, q (some i) A1 G1 H1 μ1 m1 n1 c⟩
def SS (K : PySem.W.Frag) (S : Bs) (r : V → Option Int → Option Int → Hp → VK → Prop) (x : D) (lo hi : Option Int) (μ : List Cell) (C : D → List Cell → Prop) : Prop :=
  ∀ A G H u, Mem K S A G H μ → Rp K A G x u → ∀ Q : VK, (∀ v d A' G' H' μ', Mem K S A' G' H' μ' → Nw A G A' G' → Rp K A' G' d v → C d μ' → Q v H') → r u lo hi H Q
theorem ee_sl {r : V → Option Int → Option Int → Hp → VK → Prop} {tl th : TO} (h : EE K S te δ μ fun x μ1 => EO K S tl δ μ1 fun lo μ2 => EO K S th δ μ2 fun hi μ3 => SS K S r x lo hi μ3 C) : EE K S (tSl r te tl th) δ μ C := fun A G H σ a Q q =>
  h A G H σ a _ fun v x A1 G1 H1 μ1 m1 n1 r1 h1 => h1 A1 G1 H1 σ ⟨m1, n1.en a.env⟩ _ fun lo A2 G2 H2 μ2 m2 n2 h2 => h2 A2 G2 H2 σ ⟨m2, (n1.trans n2).en a.env⟩ _ fun hi A3 G3 H3 μ3 m3 n3 h3 =>
    h3 A3 G3 H3 v m3 ((n2.trans n3).rp r1) Q fun z d A4 G4 H4 μ4 m4 n4 r4 c => q z d A4 G4 H4 μ4 m4 (((n1.trans n2).trans n3).trans n4) r4 c
def cutD (l : List D) (lo hi : Option Int) : List D := (l.drop (HT.sIx l.length 0 lo)).take (HT.sIx l.length l.length hi - HT.sIx l.length 0 lo)
theorem cut_rel {A : List Addr} {G : Hp} {l : List D} {xs : List V} (r : RpL K A G l xs) (lo hi : Option Int) : RpL K A G (cutD l lo hi) (cutV xs lo hi) := by
  unfold cutD cutV
  rw [r.len]
  exact (r.drop _).take _
theorem ss_lst {l : List D} {lo hi : Option Int} (k : C (.lst (cutD l lo hi)) μ) : SS K S (rSlU K) (.lst l) lo hi μ C := fun A G H u m r1 Q q => by
  cases r1 with
  | lst h1 r => exact .inl ⟨_, _, rfl, lst_sq (m.ex _ _ h1), fun p hp => put_lst m hp (cut_rel r lo hi) q k⟩
theorem ss_rd {l : List D} {lo hi : Option Int} (k : C (.lst (cutD l lo hi)) μ) : SS K S (rSlU K) (.rd l) lo hi μ C := fun A G H u m r1 Q q => by
  cases r1 with
  | rd h1 r => exact .inl ⟨_, _, rfl, ex_l m.ex h1, fun p hp => put_lst m hp (cut_rel r lo hi) q k⟩
theorem ss_own {n : Nat} {l : List D} {lo hi : Option Int} (hc : μ[n]? = some (.lst l)) (k : C (.lst (cutD l lo hi)) μ) : SS K S (rSlU K) (.own n) lo hi μ C := fun A G H u m r1 Q q => by
  cases r1 with
  | own hA =>
    obtain ⟨g, xs, hx, r⟩ := m.cel n _ _ hA hc
    exact .inl ⟨_, _, rfl, lst_sq hx, fun p hp => put_lst m hp (cut_rel r lo hi) q k⟩
theorem ss_str {s : Str} {lo hi : Option Int} (hz : s.length ≤ 10000000) (k : C (.str (cutS s lo hi)) μ) : SS K S (rSlU K) (.str s) lo hi μ C := fun A G H u m r1 Q q => by
  have e1 := r1.vOf
  subst e1
  exact .inr (.inr ⟨s, rfl, small hz, q _ _ A G H μ m Nw.refl (.v _) k⟩)
theorem cut_all {l : List D} {lo hi : Option Int} (h1 : HT.sIx l.length 0 lo = 0) (h2 : HT.sIx l.length l.length hi = l.length) : cutD l lo hi = l := by
  unfold cutD
  rw [h1, h2]
  simp
theorem ss_tup {l : List D} {lo hi : Option Int} (k : C (.tup (cutD l lo hi)) μ) : SS K S (rSlU K) (.tup l) lo hi μ C := fun A G H u m r1 Q q => by
  cases r1 with
  | @tup _ a xs h1 r =>
    refine .inr (.inl ⟨_, xs, rfl, ex_t m.ex h1.sq, fun ⟨e1, e2⟩ => ?_, fun _ p hp => put_tup m hp (cut_rel r lo hi) q k⟩)
    rw [← r.len] at e1 e2
    refine q _ _ A G H μ m Nw.refl (.tup h1 ?_) k
    rw [cut_all e1 e2]
    exact r
theorem ee_revL (h : EE K S te δ μ fun d μ1 => ∃ l, d = .lst l ∧ C (.lst l.reverse) μ1) : EE K S (tRevL K te) δ μ C := fun A G H σ a Q q =>
  h A G H σ a _ fun v d A1 G1 H1 μ1 m1 n1 r1 ⟨l, e, c⟩ => by
    subst e
    cases r1 with
    | lst h1 r =>
      have e : ∀ {p : Addr} {o : HO}, H1 p = none → Ex G1 (upd G1 p o) := fun hp => Ex.new (m1.ex.free hp)
      exact ⟨_, _, rfl, lst_sq (m1.ex _ _ h1), fun p hp => q _ _ A1 _ _ μ1 (m1.laid hp) (n1.trans (.of (e hp))) (.lst upd_same (r.reverse.mono0 (e hp))) c⟩

/-! ### calls of built-ins -/
theorem cc_one {r : List V → Hp → VK → Prop} {x z : V} (h : ∀ H (Q : VK), Q z H → r [x] H Q) (k : C (.v z) μ) : CC K S r [.v x] μ C := fun A G H vs m r1 Q q => by
  cases r1 with
  | cons r1 rn =>
    cases rn
    have e1 := r1.vOf
    subst e1
    exact h H Q (q z (.v z) A G H μ m Nw.refl (.v z) k)
theorem cc_two {r : List V → Hp → VK → Prop} {x y z : V} (h : ∀ H (Q : VK), Q z H → r [x, y] H Q) (k : C (.v z) μ) : CC K S r [.v x, .v y] μ C := fun A G H vs m r1 Q q => by
  cases r1 with
  | cons r1 rn =>
    cases rn with
    | cons r2 rn =>
      cases rn
      have e1 := r1.vOf
      have e2 := r2.vOf
      subst e1 e2
      exact h H Q (q z (.v z) A G H μ m Nw.refl (.v z) k)
/-- a list or a tuple, or an open list, as a thing to be read -/
inductive SeqD (μ : List Cell) : D → List D → Prop
  | lst (l : List D) : SeqD μ (.lst l) l
  | rd (l : List D) : SeqD μ (.rd l) l
  | tup (l : List D) : SeqD μ (.tup l) l
  | own {n : Nat} {l : List D} (h : μ[n]? = some (.lst l)) : SeqD μ (.own n) l
inductive LstD (μ : List Cell) : D → List D → Prop
  | lst (l : List D) : LstD μ (.lst l) l
  | rd (l : List D) : LstD μ (.rd l) l
  | own {n : Nat} {l : List D} (h : μ[n]? = some (.lst l)) : LstD μ (.own n) l
theorem LstD.at' {A : List Addr} {G H : Hp} {d : D} {l : List D} {x : V} (s : LstD μ d l) (m : Mem K S A G H μ) (r : Rp K A G d x) : ∃ a xs, x = .ref a ∧ SqL K H a xs ∧ RpL K A G l xs := by
  cases s with
  | lst =>
    cases r with
    | lst h rl => exact ⟨_, _, rfl, lst_sq (m.ex _ _ h), rl⟩
  | rd =>
    cases r with
    | rd h rl => exact ⟨_, _, rfl, ex_l m.ex h, rl⟩
  | own h =>
    cases r with
    | own hA =>
      obtain ⟨g, xs, hx, r⟩ := m.cel _ _ _ hA h
      exact ⟨_, xs, rfl, lst_sq hx, r⟩
theorem SeqD.at' {A : List Addr} {G H : Hp} {d : D} {l : List D} {x : V} (s : SeqD μ d l) (m : Mem K S A G H μ) (r : Rp K A G d x) : ∃ a xs, x = .ref a ∧ (SqL K H a xs ∨ SqT K H a xs) ∧ RpL K A G l xs := by
  cases s with
  | lst =>
    obtain ⟨a, xs, e, h, r⟩ := (LstD.lst _).at' m r
    exact ⟨a, xs, e, .inl h, r⟩
  | rd =>
    obtain ⟨a, xs, e, h, r⟩ := (LstD.rd _).at' m r
    exact ⟨a, xs, e, .inl h, r⟩
  | tup =>
    cases r with
    | tup h rl => exact ⟨_, _, rfl, .inr (ex_t m.ex h.sq), rl⟩
  | own h =>
    obtain ⟨a, xs, e, h, r⟩ := (LstD.own h).at' m r
    exact ⟨a, xs, e, .inl h, r⟩
def rLenU (K : PySem.W.Frag) : List V → Hp → VK → Prop := fun xs H Q => (fun xs H (Q : VK) => ∃ p ys, xs = [.ref p] ∧ (SqL K H p ys ∨ SqT K H p ys) ∧ Q (.int ys.length) H) xs H Q ∨
  ((fun xs H (Q : VK) => ∃ z : Str, xs = [.str z] ∧ z.length ≤ sizeLine ∧ Q (.int z.length) H) xs H Q ∨ (fun xs H (Q : VK) => ∃ (a : Addr) (kvs : List (Key × V)), xs = [V.ref a] ∧ H a = some (.dK kvs) ∧ Q (.int kvs.length) H) xs H Q)
theorem call_lenU {X : Cx} : CallR X (.builtin "len") (rLenU X.K) := CallR.or call_len_seq (CallR.or call_len_str call_lenD)
theorem cc_len {d : D} {l : List D} (h : SeqD μ d l) (k : C (.int (l.length : Int)) μ) : CC K S (rLenU K) [d] μ C := fun A G H vs m r1 Q q => by
  cases r1 with
  | cons r1 rn =>
    cases rn
    obtain ⟨a, xs, e, hs, r⟩ := h.at' m r1
    subst e
    refine .inl ⟨a, xs, rfl, hs, ?_⟩
    rw [← r.len]
    exact q _ _ A G H μ m Nw.refl (.v _) k
theorem cc_lenS {s : Str} (hz : s.length ≤ 10000000) (k : C (.int (s.length : Int)) μ) : CC K S (rLenU K) [.str s] μ C := cc_one (fun _ _ q => .inr (.inl ⟨s, rfl, small hz, q⟩)) k
theorem cc_lenD {ks : List Key} {l : List D} (k : C (.int (ks.length : Int)) μ) : CC K S (rLenU K) [.dic ks l] μ C := fun A G H vs m r1 Q q => by
  cases r1 with
  | cons r1 rn =>
    cases rn
    cases r1 with
    | dic n h r =>
      refine .inr (.inr ⟨_, _, rfl, m.ex _ _ h, ?_⟩)
      rw [List.length_zip, ← n, Nat.min_self]
      exact q _ _ A G H μ m Nw.refl (.v _) k
theorem ints_rel {A : List Addr} {G : Hp} {ns : List Int} {xs : List V} (r : RpL K A G (ns.map D.int) xs) : xs = ns.map V.int := by
  have e : ns.map D.int = (ns.map V.int).map D.v := by rw [List.map_map]; rfl
  rw [e] at r
  exact RpL.of_vals r
theorem bls_rel {A : List Addr} {G : Hp} {bs : List Bool} {xs : List V} (r : RpL K A G (bs.map D.bl) xs) : xs = bs.map V.bl := by
  have e : bs.map D.bl = (bs.map V.bl).map D.v := by rw [List.map_map]; rfl
  rw [e] at r
  exact RpL.of_vals r
theorem strs_rel {A : List Addr} {G : Hp} {zs : List Str} {xs : List V} (r : RpL K A G (zs.map D.str) xs) : xs = zs.map V.str := by
  have e : zs.map D.str = (zs.map V.str).map D.v := by rw [List.map_map]; rfl
  rw [e] at r
  exact RpL.of_vals r
theorem cc_sum {d : D} {ns : List Int} (h : LstD μ d (ns.map D.int)) (k : C (.int ns.sum) μ) : CC K S (rSum K) [d] μ C := fun A G H vs m r1 Q q => by
  cases r1 with
  | cons r1 rn =>
    cases rn
    obtain ⟨a, xs, e, hs, r⟩ := h.at' m r1
    subst e
    have e2 := ints_rel r
    subst e2
    exact ⟨a, ns, rfl, hs, q _ _ A G H μ m Nw.refl (.v _) k⟩
theorem cc_all {d : D} {bs : List Bool} (h : LstD μ d (bs.map D.bl)) (k : C (.bl (bs.all id)) μ) : CC K S (rAll K) [d] μ C := fun A G H vs m r1 Q q => by
  cases r1 with
  | cons r1 rn =>
    cases rn
    obtain ⟨a, xs, e, hs, r⟩ := h.at' m r1
    subst e
    have e2 := bls_rel r
    subst e2
    exact ⟨a, bs, rfl, hs, q _ _ A G H μ m Nw.refl (.v _) k⟩
theorem cc_any {d : D} {bs : List Bool} (h : LstD μ d (bs.map D.bl)) (k : C (.bl (bs.any id)) μ) : CC K S (rAny K) [d] μ C := fun A G H vs m r1 Q q => by
  cases r1 with
  | cons r1 rn =>
    cases rn
    obtain ⟨a, xs, e, hs, r⟩ := h.at' m r1
    subst e
    have e2 := bls_rel r
    subst e2
    exact ⟨a, bs, rfl, hs, q _ _ A G H μ m Nw.refl (.v _) k⟩
def rListOf (K : PySem.W.Frag) : List V → Hp → VK → Prop := fun xs H Q => ∃ p ys, xs = [.ref p] ∧ (SqL K H p ys ∨ SqT K H p ys) ∧ ∀ l, H l = none → Q (.ref l) (upd H l (.lst ys))
theorem call_listOf {X : Cx} : CallR X (.type "list") (rListOf X.K) := call_list_of
theorem cc_list {d : D} {l : List D} (h : SeqD μ d l) (k : C (.lst l) μ) : CC K S (rListOf K) [d] μ C := fun A G H vs m r1 Q q => by
  cases r1 with
  | cons r1 rn =>
    cases rn
    obtain ⟨a, xs, e, hs, r⟩ := h.at' m r1
    subst e
    exact ⟨a, xs, rfl, hs, fun p hp => put_lst m hp r q k⟩
/-- list(..), to be changed -/
theorem cc_listO {d : D} {l : List D} (h : SeqD μ d l) (k : C (.own μ.length) (μ ++ [.lst l])) : CC K S (rListOf K) [d] μ C := fun A G H vs m r1 Q q => by
  cases r1 with
  | cons r1 rn =>
    cases rn
    obtain ⟨a, xs, e, hs, r⟩ := h.at' m r1
    subst e
    refine ⟨a, xs, rfl, hs, fun p hp => ?_⟩
    refine q _ _ (A ++ [p]) G _ _ (m.opened hp r) ⟨⟨[p], rfl⟩, Ex.refl _⟩ (.own ?_) k
    rw [← m.len, List.getElem?_append_right (Nat.le_refl _), Nat.sub_self]
    rfl
def rTupOf (K : PySem.W.Frag) : List V → Hp → VK → Prop := fun xs H Q => ∃ p ys, xs = [.ref p] ∧ ((SqL K H p ys ∧ ∀ l, H l = none → Q (.ref l) (upd H l (.tup ys))) ∨ (SqT K H p ys ∧ Q (.ref p) H))
theorem call_tupOf {X : Cx} : CallR X (.type "tuple") (rTupOf X.K) := call_tuple_of
theorem cc_tuple {d : D} {l : List D} (h : LstD μ d l) (k : C (.tup l) μ) : CC K S (rTupOf K) [d] μ C := fun A G H vs m r1 Q q => by
  cases r1 with
  | cons r1 rn =>
    cases rn
    obtain ⟨a, xs, e, hs, r⟩ := h.at' m r1
    subst e
    exact ⟨a, xs, rfl, .inl ⟨hs, fun p hp => put_tup m hp r q k⟩⟩
theorem cc_int {i : Int} (k : C (.int i) μ) : CC K S (fun xs H Q => (∃ i, xs = [.int i] ∧ Q (.int i) H) ∨ ∃ k, xs = [.bl k] ∧ Q (.int (if k then 1 else 0)) H) [.int i] μ C := cc_one (fun _ _ q => .inl ⟨i, rfl, q⟩) k
theorem cc_max {i j : Int} (k : C (.int (if j > i then j else i)) μ) : CC K S (fun xs H Q => ∃ i j, xs = [.int i, .int j] ∧ Q (.int (if j > i then j else i)) H) [.int i, .int j] μ C := cc_two (fun _ _ q => ⟨i, j, rfl, q⟩) k
theorem cc_min {i j : Int} (k : C (.int (if j < i then j else i)) μ) : CC K S (fun xs H Q => ∃ i j, xs = [.int i, .int j] ∧ Q (.int (if j < i then j else i)) H) [.int i, .int j] μ C := cc_two (fun _ _ q => ⟨i, j, rfl, q⟩) k
/-! isinstance -/
def D.ty : D → String
  | .v .non => "NoneType"
  | .v (.bl _) => "bool"
  | .v (.int _) => "int"
  | .v (.str _) => "str"
  | .v (.flt _) => "float"
  | .v (.byt _) => "bytes"
  | .lst _ => "list"
  | .rd _ => "list"
  | .tup _ => "tuple"
  | .dic _ _ => "dict"
  | .own _ => "list"
  | _ => ""
theorem tyX_tup {H : Hp} {a : Addr} {xs : List V} (h : SqT K H a xs) : TyX K H (.ref a) (.type "tuple") := by
  rcases h with (h | ⟨o, h⟩) | ⟨o, its, n, h, hc, _⟩
  · exact .base (.tup h)
  · exact .fTuple h
  · exact .kTuple h hc
theorem tyX_lst {H : Hp} {a : Addr} {xs : List V} (h : SqL K H a xs) : TyX K H (.ref a) (.type "list") := by
  rcases h with (h | ⟨o, h⟩) | ⟨o, its, n, h, hc, _⟩
  · exact .base (.lst h)
  · exact .base (.frz h)
  · exact .kList h hc
theorem Rp.tyX {A : List Addr} {G H : Hp} {d : D} {x : V} (m : Mem K S A G H μ) (r : Rp K A G d x) (ht : d.ty ≠ "") (ho : ∀ n, d = .own n → ∃ l, μ[n]? = some (.lst l)) : TyX K H x (.type d.ty) := by
  cases r with
  | @own n a hA =>
    obtain ⟨l, hl⟩ := ho n rfl
    obtain ⟨g, xs, hx, r⟩ := m.cel n a _ hA hl
    exact .base (.lst hx)
  | v x =>
    cases x with
    | non => exact .base .non
    | bl b => exact .base (.bl b)
    | int i => exact .base (.int i)
    | str s => exact .base (.str s)
    | flt s => exact .base (.flt s)
    | byt s => exact .byt s
    | ref a => exact absurd rfl ht
    | ty n => exact absurd rfl ht
  | lst h r => exact .base (.lst (m.ex _ _ h))
  | rd h r => exact tyX_lst (ex_l m.ex h)
  | tup h r => exact tyX_tup (ex_t m.ex h.sq)
  | dic n h r => exact .base (.dK (m.ex _ _ h))
  | exc h1 h2 r => exact absurd rfl ht
/-- no handle by itself -/
def D.no : D → Bool
  | .own _ => false
  | _ => true
theorem cc_isT {d : D} {n : String} {b : Bool} (hb : kitB d.ty n = some b) (ht : d.ty ≠ "") (hn : d.no = true) (k : C (.bl b) μ) : CC K S (rIsiU K) [d, .v (.ty n)] μ C := fun A G H vs m r1 Q q => by
  cases r1 with
  | cons r1 rn =>
    cases rn with
    | cons r2 rn =>
      cases rn
      have e2 := r2.vOf
      subst e2
      exact .inl ⟨_, _, _, _, b, rfl, .ty n, r1.tyX m ht (fun n e => by rw [e] at hn; cases hn), kit_ty hb, q _ _ A G H μ m Nw.refl (.v _) k⟩
theorem cc_isC {d : D} {c : Addr} {b : Bool} (hb : PySem.W.kitOne K (.type d.ty) (.ref c) = some b) (ht : d.ty ≠ "") (hn : d.no = true) (k : C (.bl b) μ) : CC K S (rIsiU K) [d, .v (.ref c)] μ C := fun A G H vs m r1 Q q => by
  cases r1 with
  | cons r1 rn =>
    cases rn with
    | cons r2 rn =>
      cases rn
      have e2 := r2.vOf
      subst e2
      exact .inl ⟨_, _, _, _, b, rfl, .own c, r1.tyX m ht (fun n e => by rw [e] at hn; cases hn), hb, q _ _ A G H μ m Nw.refl (.v _) k⟩
theorem cc_isX {c e fI : Addr} {d : D} {b : Bool} (T : ErrC K c fI) (hb : PySem.W.kitOne K (.ref c) (.ref e) = some b) (k : C (.bl b) μ) : CC K S (rIsiU K) [.exc c d, .v (.ref e)] μ C := fun A G H vs m r1 Q q => by
  cases r1 with
  | cons r1 rn =>
    cases rn with
    | cons r2 rn =>
      cases rn
      have e2 := r2.vOf
      subst e2
      cases r1 with
      | exc h1 h2 r => exact .inr (.inr (.inl ⟨_, c, _, fI, _, _, _, b, rfl, .own e, T, m.ex _ _ h1, m.ex _ _ h2, hb, q _ _ A G H μ m Nw.refl (.v _) k⟩))
theorem cc_isXT {c fI : Addr} {d : D} {b : Bool} {n : String} (T : ErrC K c fI) (hb : PySem.W.kitOne K (.ref c) (.type n) = some b) (k : C (.bl b) μ) : CC K S (rIsiU K) [.exc c d, .v (.ty n)] μ C := fun A G H vs m r1 Q q => by
  cases r1 with
  | cons r1 rn =>
    cases rn with
    | cons r2 rn =>
      cases rn
      have e2 := r2.vOf
      subst e2
      cases r1 with
      | exc h1 h2 r => exact .inr (.inr (.inl ⟨_, c, _, fI, _, _, _, b, rfl, .ty n, T, m.ex _ _ h1, m.ex _ _ h2, hb, q _ _ A G H μ m Nw.refl (.v _) k⟩))
def kitBs (t : String) : List String → Option Bool
  | [] => some false
  | n :: ns => match kitB t n with
    | some true => some true
    | some false => kitBs t ns
    | none => none
theorem kitAny_of {t : String} : ∀ {ns : List String} {b : Bool}, kitBs t ns = some b → PySem.W.kitAny K (.type t) (ns.map Value.type) = some b
  | [], _, h => by cases h; exact kitAny_nil
  | n :: ns, b, h => by
    unfold kitBs at h
    cases q : kitB t n with
    | none => rw [q] at h; cases h
    | some c =>
      rw [q] at h
      cases c with
      | true =>
        cases h
        exact kitAny_cons (r := true) (kit_ty q) (fun z => Bool.noConfusion z) (fun _ => rfl)
      | false => exact kitAny_cons (kit_ty q) (fun _ => kitAny_of h) (fun z => Bool.noConfusion z)
theorem tys_paired : ∀ ns : List String, Paired ClsV (ns.map V.ty) (ns.map Value.type)
  | [] => .nil
  | n :: ns => .cons (.ty n) (tys_paired ns)
/-- isinstance(x, (int, str, ..)), the tuple made on the way -/
theorem cc_isTs {d : D} {ns : List String} {b : Bool} (hb : kitBs d.ty ns = some b) (ht : d.ty ≠ "") (hn : d.no = true) (k : C (.bl b) μ) : CC K S (rIsiU K) [d, .tup (ns.map fun n => .v (.ty n))] μ C := fun A G H vs m r1 Q q => by
  cases r1 with
  | cons r1 rn =>
    cases rn with
    | cons r2 rn =>
      cases rn
      have hx := r1.tyX m ht (fun n e => by rw [e] at hn; cases hn)
      cases r2 with
      | tup h r =>
        have e : (ns.map fun n => D.v (.ty n)) = (ns.map V.ty).map D.v := by rw [List.map_map]; rfl
        rw [e] at r
        have e2 := RpL.of_vals r
        subst e2
        rcases h with h | ⟨o, its, n, h, hc, hd, hz, hv⟩
        · exact .inr (.inl ⟨_, _, _, _, _, b, rfl, m.ex _ _ h, tys_paired ns, hx, kitAny_of hb, q _ _ A G H μ m Nw.refl (.v _) k⟩)
        · obtain ⟨oc, od, dt, sl⟩ := o
          dsimp only at hc hd
          subst hc hd
          have e3 := ClsV.all (tys_paired ns) hv
          refine .inr (.inr (.inr ⟨_, _, od, ns.map Value.type, n, sl, _, b, rfl, ?_, hx, kitAny_of hb, q _ _ A G H μ m Nw.refl (.v _) k⟩))
          rw [h, ← e3]
end
end PA

set_option Elab.async false
set_option linter.all false
set_option maxRecDepth 100000
set_option maxHeartbeats 2000000
/-! PbMeth: methods of the built-ins, over data. -/
namespace PA
open PySem L2
section
variable {K : PySem.W.Frag} {S : Bs} {δ : Sl} {μ : List Cell} {ta tb te : TE} {ts : TA} {C : D → List Cell → Prop}
/-- whose method it is -/
inductive TyM (μ : List Cell) : String → D → Prop
  | str (s : Str) : TyM μ "str" (.str s)
  | int (i : Int) : TyM μ "int" (.int i)
  | lst {d : D} {l : List D} (h : LstD μ d l) : TyM μ "list" d
  | dic (ks : List Key) (l : List D) : TyM μ "dict" (.dic ks l)
theorem TyM.at' {T : String} {d : D} {A : List Addr} {G H : Hp} {x : V} (t : TyM μ T d) (m : Mem K S A G H μ) (r : Rp K A G d x) : tyV K T x H := by
  cases t with
  | str s => rw [r.vOf]; rfl
  | int i => rw [r.vOf]; rfl
  | lst h =>
    obtain ⟨a, xs, e, hs, _⟩ := h.at' m r
    subst e
    exact .inl ⟨rfl, xs, hs⟩
  | dic ks l =>
    cases r with
    | dic n h r => exact .inr (.inr (.inl ⟨rfl, .inl ⟨_, m.ex _ _ h⟩⟩))
theorem ee_bm {T : String} {r : V → List V → Hp → VK → Prop} (h : EE K S te δ μ fun x μ1 => TyM μ1 T x ∧ EA K S ts δ μ1 fun ds μ2 => MM K S r x ds μ2 C) : EE K S (tBM K T r te ts) δ μ C := fun A G H σ a Q q =>
  h A G H σ a _ fun v x A1 G1 H1 μ1 m1 n1 r1 ⟨t, h1⟩ => ⟨t.at' m1 r1, h1 A1 G1 H1 σ ⟨m1, n1.en a.env⟩ _ fun vs ds A2 G2 H2 μ2 m2 n2 r2 h2 =>
    h2 A2 G2 H2 v vs m2 (n2.rp r1) r2 Q fun z d A3 G3 H3 μ3 m3 n3 r3 c => q z d A3 G3 H3 μ3 m3 ((n1.trans n2).trans n3) r3 c⟩
theorem ee_bm0 {T : String} {r : V → List V → Hp → VK → Prop} (h : EE K S te δ μ fun x μ1 => TyM μ1 T x ∧ MM K S r x [] μ1 C) : EE K S (tBM0 K T r te) δ μ C := fun A G H σ a Q q =>
  h A G H σ a _ fun v x A1 G1 H1 μ1 m1 n1 r1 ⟨t, h1⟩ => ⟨t.at' m1 r1, h1 A1 G1 H1 v [] m1 r1 .nil Q fun z d A3 G3 H3 μ3 m3 n3 r3 c => q z d A3 G3 H3 μ3 m3 (n1.trans n3) r3 c⟩
theorem mm_append {k : Nat} {l : List D} {y : D} (hc : μ[k]? = some (.lst l)) (hz : l.length < 10000000) (c : C .non (μ.set k (.lst (l ++ [y])))) : MM K S rAppend (.own k) [y] μ C := fun A G H u vs m r1 r2 Q q => by
  cases r2 with
  | cons ry rn =>
    cases rn
    cases r1 with
    | own hA =>
      obtain ⟨g, xs, hx, r⟩ := m.cel k _ _ hA hc
      exact ⟨_, xs, _, rfl, rfl, hx, smalr (by rw [← r.len]; exact hz), q _ _ A G _ _ (m.wrote hA hc (r.append (.cons ry .nil))) Nw.refl (.v _) c⟩
theorem mm_extend {k : Nat} {l m' : List D} (hc : μ[k]? = some (.lst l)) (hz : l.length + m'.length ≤ 10000000) (c : C .non (μ.set k (.lst (l ++ m')))) : MM K S rExtend (.own k) [.lst m'] μ C := fun A G H u vs m r1 r2 Q q => by
  cases r2 with
  | cons ry rn =>
    cases rn
    cases r1 with
    | own hA =>
      obtain ⟨g, xs, hx, r⟩ := m.cel k _ _ hA hc
      cases ry with
      | lst h2 s2 => exact ⟨_, _, xs, _, rfl, rfl, hx, m.ex _ _ h2, small (by rw [← r.len, ← s2.len]; exact hz), q _ _ A G _ _ (m.wrote hA hc (r.append s2)) Nw.refl (.v _) c⟩
/-- s.m(t), s.m() of texts -/
theorem ee_m1 {r : V → List V → Hp → VK → Prop} (h : EE K S te δ μ fun x μ1 => ∃ s, x = .str s ∧ EE K S tb δ μ1 fun y μ2 => MM K S r (.str s) [y] μ2 C) : EE K S (tM1 r te tb) δ μ C := fun A G H σ a Q q =>
  h A G H σ a _ fun v x A1 G1 H1 μ1 m1 n1 r1 ⟨s, e, h1⟩ => by
    subst e
    have ev := r1.vOf
    subst ev
    exact ⟨⟨s, rfl⟩, h1 A1 G1 H1 σ ⟨m1, n1.en a.env⟩ _ fun w y A2 G2 H2 μ2 m2 n2 r2 h2 =>
      h2 A2 G2 H2 _ [w] m2 (.v _) (.cons r2 .nil) Q fun z d A3 G3 H3 μ3 m3 n3 r3 c => q z d A3 G3 H3 μ3 m3 ((n1.trans n2).trans n3) r3 c⟩
def rJoin (K : PySem.W.Frag) : V → List V → Hp → VK → Prop := fun x xs H Q => ∃ a p, ∃ ys : List Str, x = .str a ∧ xs = [.ref p] ∧ (SqL K H p (ys.map V.str) ∨ SqT K H p (ys.map V.str)) ∧ (ys.map (·.length)).sum + ys.length * a.length ≤ 16777216 ∧ Q (.str (Txt.join a ys)) H
theorem mm_join {a : Str} {d : D} {ys : List Str} (h : SeqD μ d (ys.map D.str)) (hz : (ys.map (·.length)).sum + ys.length * a.length ≤ 16777216) (c : C (.str (Txt.join a ys)) μ) : MM K S (rJoin K) (.str a) [d] μ C := fun A G H u vs m r1 r2 Q q => by
  cases r2 with
  | cons ry rn =>
    cases rn
    have ev := r1.vOf
    subst ev
    obtain ⟨p, xs, e, hs, r⟩ := h.at' m ry
    subst e
    have e2 := strs_rel r
    subst e2
    exact ⟨a, p, ys, rfl, rfl, hs, hz, q _ _ A G H μ m Nw.refl (.v _) c⟩
theorem mm_vals {r : V → List V → Hp → VK → Prop} {x y z : V} (h : ∀ H (Q : VK), Q z H → r x [y] H Q) (c : C (.v z) μ) : MM K S r (.v x) [.v y] μ C := fun A G H u vs m r1 r2 Q q => by
  cases r2 with
  | cons ry rn =>
    cases rn
    have e1 := r1.vOf
    have e2 := ry.vOf
    subst e1 e2
    exact h H Q (q _ _ A G H μ m Nw.refl (.v _) c)
def rSIndex : V → List V → Hp → VK → Prop := fun x xs H Q => ∃ a b i rest, x = .str a ∧ xs = [.str b] ∧ Builtin.Str.occurrences a b 0 a.length 1 = i :: rest ∧ Q (.int (i : Nat)) H
theorem mm_sindex {a b : Str} {i : Nat} {rest : List Nat} (h : Builtin.Str.occurrences a b 0 a.length 1 = i :: rest) (c : C (.int (i : Int)) μ) : MM K S rSIndex (.str a) [.str b] μ C := mm_vals (fun _ _ q => ⟨a, b, i, rest, rfl, rfl, h, q⟩) c
theorem ee_bits (h : EE K S te δ μ fun x μ1 => ∃ i, x = .int i ∧ C (.int (Builtin.Int.intBits i : Nat)) μ1) : EE K S (tBits te) δ μ C := fun A G H σ a Q q =>
  h A G H σ a _ fun v x A1 G1 H1 μ1 m1 n1 r1 ⟨i, e, c⟩ => by
    subst e
    have ev := r1.vOf
    subst ev
    exact ⟨i, rfl, q _ _ A1 G1 H1 μ1 m1 n1 (.v _) c⟩
end
end PA

set_option Elab.async false
set_option linter.all false
set_option maxRecDepth 100000
set_option maxHeartbeats 2000000
/-! PbTerm: the rules that gen.py prints: calls of the text's own defs by what stands of them, raise, try. -/
namespace PA
open PySem L2
theorem hu64 {k : Nat} {A : Around} (r : Room k A) : A.units + 64 < cLine := by
  have := r.un
  omega
/-- a def of the text that keeps a promise -/
structure CalX (P : Program) (w : World) (K : PySem.W.Frag) (mg : Str → Option Value) (base : Heap) (k : Nat) (x : Str) (ps : List Str) (sp : Sp) : Prop where
  ex : ∃ (f : Addr) (fd : FuncData), FnOk P w K mg base (L2.CX P w) k f fd ps sp ∧ mg x = some (.ref f) ∧ PySem.W.keepIn K (.ref f) = true ∧ Binds K fd ps []
/-- the values by place out of the keywords' -/
def permL {α : Type} (π : List Nat) (ws : List α) : List α := π.filterMap fun i => ws[i]?
theorem permL_vals {zs : List V} {ws : List Value} (r : Vals zs ws) : ∀ π : List Nat, Vals (permL π zs) (permL π ws)
  | [] => .nil
  | i :: π => by
    unfold permL
    rw [List.filterMap_cons, List.filterMap_cons]
    cases e : zs[i]? with
    | none =>
      rw [r.none_of e]
      exact permL_vals r π
    | some z =>
      obtain ⟨u, hu, ru⟩ := r.get e
      rw [hu]
      exact .cons ru (permL_vals r π)
def KBd (K : PySem.W.Frag) (fd : FuncData) (ps ks : List Str) (π : List Nat) : Prop :=
  ∀ (s : Shared) (ws : List Value), ws.length = ks.length → BindsTo s fd ⟨[], ks.zip ws⟩ (ps.zip (permL π ws))
/-- .. called by its parameters' names alone -/
structure CalK (P : Program) (w : World) (K : PySem.W.Frag) (mg : Str → Option Value) (base : Heap) (k : Nat) (x : Str) (ps ks : List Str) (π : List Nat) (sp : Sp) : Prop where
  ex : ∃ (f : Addr) (fd : FuncData), FnOk P w K mg base (L2.CX P w) k f fd ps sp ∧ mg x = some (.ref f) ∧ PySem.W.keepIn K (.ref f) = true ∧ KBd K fd ps ks π
def tCallP (sp : Sp) (π : List Nat) (n : Nat) (E : XK) (tk : TA) : TE := fun σ H Q => tk σ H fun zs H1 => zs.length = n ∧ sp (permL π zs) H1 Q E
section
variable {X : Cx} {k j : Nat} {x : Str} {ps ks : List Str} {π : List Nat} {sp : Sp} {E : XK} {p pos : Pos} {e : Expr} {es : List Expr} {t tk : TA} {kws : List Keyword} {W : WX}
theorem pe_c (c : CalX X.prog X.w X.K X.mg X.base k x ps sp) (hr : Room j X.A) (hj : k ≤ j) (hg : Gl X x) (hx : Passes (L2.CX X.prog X.w) X E) (ha : PA X (e :: es) t) (hdb : (x == ("__debug__" : Str)) = false := by decide)
    (he : starEach (e :: es) X.env = (false, eval e X.env) :: starEach es X.env := by rfl) (hpl : (backTo pos (starEach es X.env)).any (·.1) = false := by rfl) : PE X (.Call (.Name x p) (e :: es) [] pos) (tCall sp [] E t) := by
  obtain ⟨f, fd, F, hm, hk, hb⟩ := c.ex
  exact pe_call F (hr.mono hj) hg hm hk hb .nil hx ha hdb he hpl
theorem pe_c0 (c : CalX X.prog X.w X.K X.mg X.base k x ps sp) (hr : Room j X.A) (hj : k ≤ j) (hg : Gl X x) (hx : Passes (L2.CX X.prog X.w) X E) (hdb : (x == ("__debug__" : Str)) = false := by decide) : PE X (.Call (.Name x p) [] [] pos) (tCall sp [] E tNil) := by
  obtain ⟨f, fd, F, hm, hk, hb⟩ := c.ex
  exact pe_call0 F (hr.mono hj) hg hm hk hb .nil hx hdb
theorem pe_cS (c : CalX X.prog X.w X.K X.mg X.base k x ps sp) (hr : Room j X.A) (hj : k ≤ j) (hg : Gl X x) (tk : Takes X W) (ha : PA X (e :: es) t) (hdb : (x == ("__debug__" : Str)) = false := by decide)
    (he : starEach (e :: es) X.env = (false, eval e X.env) :: starEach es X.env := by rfl) (hpl : (backTo pos (starEach es X.env)).any (·.1) = false := by rfl) : PE X (.Call (.Name x p) (e :: es) [] pos) (tCallS sp (WE W) t) := by
  obtain ⟨f, fd, F, hm, hk, hb⟩ := c.ex
  exact pe_callS F (hr.mono hj) hg hm hk hb (fun σ => passAt tk σ) ha hdb he hpl
theorem pe_ck0 (c : CalK X.prog X.w X.K X.mg X.base k x ps ks π sp) (hr : Room j X.A) (hj : k ≤ j) (hg : Gl X x) (hx : Passes (L2.CX X.prog X.w) X E) (hkw : PK X kws tk) (hall : (backToKw pos (keywordEach kws X.env)).all (·.1.isSome) = true := by rfl)
    (hks : (backToKw pos (keywordEach kws X.env)).filterMap (·.1) = ks := by rfl) (hdb : (x == ("__debug__" : Str)) = false := by decide)
    (hpl : ((backTo pos (starEach [] X.env)).any (·.1) || (backToKw pos (keywordEach kws X.env)).any (·.1.isNone)) = false := by rfl) : PE X (.Call (.Name x p) [] kws pos) (tCallP sp π ks.length E tk) := by
  obtain ⟨f, fd, F, hm, hk, hb⟩ := c.ex
  refine ⟨fun pins s σ H Q I h => ?_⟩
  refine wpAny_Call_Name_kw (ld_glob I hg hm ?_ hdb)
  refine PySem.W.callWith_KW0 (h₀ := X.base) I.ok.mod.kin hk hall ?_ hpl
  refine thn (hkw.run pos pins s σ H _ I h) fun ws s2 ⟨zs, H2, I2, rz, hl, q2⟩ => ⟨I2.kIn, ?_⟩
  rw [hks]
  have r2 := permL_vals rz π
  refine wpAny_call (codeAny_mono (F.run X.A X.stack s2 H2 ⟨[] ++ [], ks.zip ws⟩ (permL π ws) (permL π zs) Q E (hr.mono hj) I2.env0 (hb s2 ws (by rw [← rz.length]; exact hl)) r2 q2) fun r s' hq => ?_)
  cases r with
  | error er => exact hx pins σ H2 s2 er s' I2 hq
  | ok fl =>
    cases fl with
    | ret u => exact I2.after hq
    | next => exact False.elim hq
    | brk => exact False.elim hq
    | cont => exact False.elim hq
/-- a def that a slot holds -/
structure HeldX (P : Program) (w : World) (K : PySem.W.Frag) (mg : Str → Option Value) (base : Heap) (k : Nat) (f : Addr) (sp : Sp) : Prop where
  ex : ∃ (n : Nat) (fd : FuncData) (ps : List Str), n ≤ k ∧ FnOk P w K mg base (L2.CX P w) n f fd ps sp ∧ PySem.W.keepIn K (.ref f) = true ∧ Binds K fd ps []
def tCallA' (i : Nat) (Sg : Addr → Sp → Prop) (E : L2.St → XK) (t : TA) : TE := fun σ H Q => ∃ f sp, σ[i]? = some (some (.ref f)) ∧ Sg f sp ∧ t σ H fun vs H1 => sp vs H1 Q (E σ)
theorem pe_cL {i : Nat} {Sg : Addr → Sp → Prop} (c : ∀ f sp, Sg f sp → HeldX X.prog X.w X.K X.mg X.base k f sp) (hr : Room j X.A) (hj : k ≤ j) (hN : X.N[i]? = some x) (hv : Vis X.env.scope x) (tk : Takes X W) (ha : PA X (e :: es) t) (hdb : (x == ("__debug__" : Str)) = false := by decide)
    (hcd : (x == ("__classdict__" : Str)) = false := by decide) (he : starEach (e :: es) X.env = (false, eval e X.env) :: starEach es X.env := by rfl) (hpl : (backTo pos (starEach es X.env)).any (·.1) = false := by rfl) :
    PE X (.Call (.Name x p) (e :: es) [] pos) (tCallA' i Sg (WE W) t) := by
  refine ⟨fun pins s σ H Q I h => ?_⟩
  obtain ⟨f, sp, hs, hS, ht⟩ := h
  obtain ⟨n, fd, ps, hn, F, hk, hb⟩ := (c f sp hS).ex
  refine wpAny_Call_Name_kw (thn ((pe_var (pos := p) hN hv hdb hcd).run pins s σ H (fun v H1 => v = .ref f ∧ H1 = H) I ⟨.ref f, hs, rfl, rfl⟩) fun u s1 ⟨v, H1, I1, r1, q1⟩ => ?_)
  obtain ⟨rfl, rfl⟩ := q1
  cases r1
  refine PySem.W.callWith_K (h₀ := X.base) I.ok.mod.kin hk (thn (ha.run pos pins s1 σ _ _ I1 ht) fun us s2 ⟨vs, H2, I2, r, q⟩ => ⟨I2.kIn, ?_⟩) he hpl
  exact run_fnS F (hr.mono (Nat.le_trans hn hj)) hb (fun pins H s e s' I c => passAt tk σ pins H s e s' I c) I2 r q
/-- an own error class with its __init__ -/
structure ErrK (P : Program) (w : World) (K : PySem.W.Frag) (mg : Str → Option Value) (base : Heap) (x : Str) (c : Addr) : Prop where
  ex : ∃ (fI : Addr) (fd : FuncData), ErrC K c fI ∧ FnOk P w K mg base (L2.CX P w) 1 fI fd ["self", "value"] (spErr c) ∧ Binds K fd ["self", "value"] []
  g : mg x = some (.ref c)
theorem ErrK.c {P : Program} {w : World} {K : PySem.W.Frag} {mg : Str → Option Value} {base : Heap} {x : Str} {c : Addr} (k : ErrK P w K mg base x c) : ∃ fI, ErrC K c fI := let ⟨fI, _, h, _⟩ := k.ex; ⟨fI, h⟩
theorem ps_raiseC {c : Addr} {pos2 : Pos} (hc : X.calm = true) (k : ErrK X.prog X.w X.K X.mg X.base x c) (hr : Room j X.A) (hj : 2 ≤ j) (tk : Takes X (fun cls d _ H => E cls d H)) (hg : Gl X x) (ha : PA X (e :: es) t) (hdb : (x == ("__debug__" : Str)) = false := by decide)
    (he : starEach (e :: es) X.env = (false, eval e X.env) :: starEach es X.env := by rfl) (hpl : (backTo pos (starEach es X.env)).any (·.1) = false := by rfl) : PS X (.Raise (some (.Call (.Name x p) (e :: es) [] pos)) none pos2) (tRaiseE c E t) := by
  obtain ⟨fI, fd, T, F, hb⟩ := k.ex
  exact ps_raiseE hc T F (hr.mono hj) hb passL tk hg k.g ha hdb he hpl
end
section
variable {X : Cx} {c : Addr} {x n : Str} {i : Nat} {body suite : List Stmt} {b₀ : Stmt} {np pos pos' : Pos} {tb : WX → TS} {ts : TS} {Wout : WX}
theorem ps_tryC (hm : X.mg x = some (.ref c)) (hN : X.N.Nodup) (hg : Gl X x) (hs : X.stack = X.env :: X.outer) (hf : X.env.frame = some X.env.locals) (hex : X.ex = []) (hi : X.N[i]? = some n) (hln : X.env.kindOf n = some .local) (tk : Takes X Wout)
    (hb : ∀ (W : WX) (pn : List (Addr × Obj)) (xe : Value → Shared → Prop), Takes (X.tr pn xe) W → PassesOwn (model X.prog X.w) X.A X.env xe → PSs (X.tr pn xe) body (tb W))
    (hsu : ∀ (a : Addr) (pn : List (Addr × Obj)), PSs (X.suite a pn) (b₀ :: suite) ts) (hdb : (x == ("__debug__" : Str)) = false := by decide) :
    PS X (.Try body [.ExceptHandler (some (.Name x np)) (some n) (b₀ :: suite) pos'] [] [] pos) (fun D σ H => tb (wHold X.K (.ref c) i ts Wout D) D σ H) :=
  ps_try_hold hs hf hex hN hi hln ⟨hg, hdb, .inl hm⟩ tk hb hsu
/-- products: of ints, of a text, of a list -/
def rTimes : R2 := fun x y H Q => rI CMulW (fun i j => .int (i * j)) x y H Q ∨ (rRep x y H Q ∨ (fun x y H (Q : VK) => ∃ (s : Str) (i : Int), x = .str s ∧ y = .int i ∧ MulOk s i ∧ Q (.str (Txt.mul s i)) H) x y H Q)
theorem op_strMul : OpR X (binaryOp .Mult) (fun x y H (Q : VK) => ∃ (s : Str) (i : Int), x = .str s ∧ y = .int i ∧ MulOk s i ∧ Q (.str (Txt.mul s i)) H) := by
  intro pins sh σ H x y u w Q I rx ry h
  obtain ⟨s, i, e1, e2, ok, q⟩ := h
  subst e1 e2
  obtain ⟨t, e⟩ := rx
  obtain ⟨t2, e2⟩ := ry
  subst e e2
  exact SB.mul ok fun t' k => ⟨.str (Txt.mul s i), H, I.tok _, ⟨_, rfl⟩, q⟩
theorem op_timesU : OpR X (binaryOp .Mult) rTimes := OpR.or op_mulW (OpR.or op_rep op_strMul)
end
end PA

set_option Elab.async false
set_option linter.all false
set_option maxRecDepth 100000
set_option maxHeartbeats 2000000
/-! PbStep: calls in short, isinstance of plain data, and the word that takes all plain steps. -/
namespace PA
open PySem L2
/-- plain data at the top -/
def D.pl : D → Bool
  | .v .non => true
  | .v (.bl _) => true
  | .v (.int _) => true
  | .v (.str _) => true
  | .lst _ => true
  | .tup _ => true
  | .dic _ _ => true
  | _ => false
/-- isinstance(d, n) -/
def D.is (d : D) (n : String) : Bool := d.ty == n || (n == "int" && d.ty == "bool")
def isTy (n : String) : Bool := n == "int" || n == "bool" || n == "str" || n == "list" || n == "tuple" || n == "dict"
theorem pl_no {d : D} (h : d.pl = true) : d.no = true := by cases d <;> first | rfl | cases h
theorem kit_all : ∀ t ∈ ["NoneType", "bool", "int", "str", "list", "tuple", "dict"], ∀ n ∈ ["int", "bool", "str", "list", "tuple", "dict"], kitB t n = some (t == n || (n == "int" && t == "bool")) := by decide +kernel
theorem pl_ty {d : D} (h : d.pl = true) : d.ty ∈ ["NoneType", "bool", "int", "str", "list", "tuple", "dict"] := by
  cases d with
  | v x => cases x <;> first | (cases h; done) | (simp [D.ty])
  | lst l => simp [D.ty]
  | rd l => cases h
  | tup l => simp [D.ty]
  | dic ks l => simp [D.ty]
  | exc c d => cases h
  | own k => cases h
theorem isTy_mem {n : String} (h : isTy n = true) : n ∈ ["int", "bool", "str", "list", "tuple", "dict"] := by
  unfold isTy at h
  simp only [Bool.or_eq_true, beq_iff_eq] at h
  simp only [List.mem_cons, List.not_mem_nil, or_false]
  rcases h with ((((h | h) | h) | h) | h) | h <;> simp [h]
theorem pl_kit {d : D} {n : String} (h : d.pl = true) (hn : isTy n = true) : kitB d.ty n = some (d.is n) := kit_all _ (pl_ty h) _ (isTy_mem hn)
theorem pl_ne {d : D} (h : d.pl = true) : d.ty ≠ "" := fun e => by
  have q := pl_ty h
  rw [e] at q
  revert q
  decide
theorem pl_kits {d : D} (h : d.pl = true) : ∀ {ns : List String}, ns.all isTy = true → kitBs d.ty ns = some (ns.any d.is)
  | [], _ => rfl
  | n :: ns, hn => by
    rw [List.all_cons, Bool.and_eq_true] at hn
    unfold kitBs
    rw [pl_kit h hn.1, List.any_cons]
    cases q : d.is n with
    | true => rfl
    | false => exact pl_kits h hn.2
section
variable {K : PySem.W.Frag} {S : Bs} {δ : Sl} {μ : List Cell} {ta tk : TA} {te : TE} {C : D → List Cell → Prop} {E : XK} {CE : Addr → D → List Cell → Prop} {T : Type}
theorem cc_isP {d : D} {n : String} (h : d.pl = true) (k : C (.bl (d.is n)) μ) (hn : isTy n = true := by rfl) : CC K S (rIsiU K) [d, .v (.ty n)] μ C := cc_isT (pl_kit h hn) (pl_ne h) (pl_no h) k
theorem cc_isP2 {d : D} {n m : String} (h : d.pl = true) (k : C (.bl ([n, m].any d.is)) μ) (hn : [n, m].all isTy = true := by rfl) : CC K S (rIsiU K) [d, .tup [.v (.ty n), .v (.ty m)]] μ C := cc_isTs (ns := [n, m]) (pl_kits h hn) (pl_ne h) (pl_no h) k
theorem cc_isP3 {d : D} {n m o : String} (h : d.pl = true) (k : C (.bl ([n, m, o].any d.is)) μ) (hn : [n, m, o].all isTy = true := by rfl) : CC K S (rIsiU K) [d, .tup [.v (.ty n), .v (.ty m), .v (.ty o)]] μ C := cc_isTs (ns := [n, m, o]) (pl_kits h hn) (pl_ne h) (pl_no h) k
/-- .. by the parameters' names -/
theorem ee_callP {arg : T → List D} {pre : T → Prop} {post : T → D → Prop} {exc : T → Addr → D → Prop} {π : List Nat} {n : Nat} (wi : Wi K S E CE)
    (h : EA K S tk δ μ fun ds μ1 => ds.length = n ∧ ∃ t : T, pre t ∧ permL π ds = arg t ∧ D.ltL 0 (arg t) = true ∧ (∀ d, post t d → d.lt 0 = true → C d μ1) ∧ ∀ c d, exc t c d → d.lt 0 = true → CE c d μ1) : EE K S (tCallP (ProP K arg pre post exc) π n E tk) δ μ C := fun A G H σ a Q q =>
  h A G H σ a _ fun vs ds A1 G1 H1 μ1 m1 n1 r1 ⟨hl, t, hp, ed, hcl, hc, hx⟩ => by
    have key : ∀ π : List Nat, RpL K A1 G1 (permL π ds) (permL π vs) := by
      intro π
      induction π with
      | nil => exact .nil
      | cons i π ih =>
        unfold permL
        rw [List.filterMap_cons, List.filterMap_cons]
        cases e : ds[i]? with
        | none =>
          have e2 : vs[i]? = none := by
            rw [List.getElem?_eq_none_iff] at e ⊢
            rw [← r1.len]
            exact e
          rw [e2]
          exact ih
        | some z =>
          obtain ⟨u, hu, ru⟩ := r1.get e
          rw [hu]
          exact .cons ru ih
    refine ⟨by rw [← r1.len]; exact hl, ?_⟩
    have rd : RpL K [] G1 (arg t) (permL π vs) := by
      have z := key π
      rw [ed] at z
      exact z.cl hcl
    refine ⟨t, [], G1, hp, mem00 m1, rd, fun v d B G' H' ν f r ⟨e0, c⟩ => ?_, fun c dx u d G' H' ν f f1 f2 f3 r c' => ?_⟩
    · subst e0
      obtain ⟨hB, mb⟩ := after0 m1 f
      subst hB
      have hd : d.lt 0 = true := r.scope
      exact q v d A1 G' H' μ1 mb (n1.trans (.of f.exG)) (r.cl hd) (hc _ c hd)
    · have e0 : ν = [] := List.length_eq_zero_iff.mp (by have z := f.len; simpa using z.symm)
      subst e0
      obtain ⟨_, mb⟩ := after0 (B := []) m1 f
      have hd : d.lt 0 = true := r.scope
      exact wi c dx u d A1 G' H' μ1 mb (m1.freeS f1).1 f2 f3 (r.cl hd) (hx c d c' hd)
theorem pset_list {X : Cx} : PSet X rSetL := set_list
theorem Less.all (δ : Sl) : Less δ (δ.map fun _ => none) := by
  induction δ with
  | nil => exact .nil
  | cons o δ ih => exact .drop ih
end
end PA

set_option Elab.async false
set_option linter.all false
set_option maxRecDepth 100000
set_option maxHeartbeats 2000000
/-! PbWalk: more rules of operators, in the form in which the walking word takes them. -/
namespace PA
open PySem L2
section
variable {K : PySem.W.Frag} {S : Bs} {δ : Sl} {μ : List Cell} {ta tb te : TE} {C : D → List Cell → Prop}
theorem oo_mul {i j : Int} (h : CMulW i j) (k : C (.int (i * j)) μ) : OO K S rTimes (.int i) (.int j) μ C := oo_same (fun _ _ q => .inl ⟨i, j, rfl, rfl, h, q⟩) k
theorem oo_mulS {s : Str} {j : Int} (h : MulOk s j) (k : C (.str (Txt.mul s j)) μ) : OO K S rTimes (.str s) (.int j) μ C := oo_same (fun _ _ q => .inr (.inr ⟨s, j, rfl, rfl, h, q⟩)) k
theorem oo_mod {i j : Int} (h : 0 < j) (k : C (.int (i % j)) μ) : OO K S (rI (fun _ j => 0 < j) fun i j => .int (i % j)) (.int i) (.int j) μ C := oo_I (g := fun i j => .int (i % j)) h k
theorem oo_div {i j : Int} (h : CDivW i j) (k : C (.int (i / j)) μ) : OO K S (rI CDivW fun i j => .int (i / j)) (.int i) (.int j) μ C := oo_I (g := fun i j => .int (i / j)) h k
theorem oo_pow {i j : Int} (h : CPow i j) (k : C (.int (i ^ j.toNat)) μ) : OO K S (rI CPow fun i j => .int (i ^ j.toNat)) (.int i) (.int j) μ C := oo_I (g := fun i j => .int (i ^ j.toNat)) h k
theorem uu_neg {i : Int} (k : C (.int (-i)) μ) : UU K S (rU fun i => .int (-i)) (.int i) μ C := fun A G H u m r1 Q q => by
  have e1 := r1.vOf
  subst e1
  exact ⟨i, rfl, q _ _ A G H μ m Nw.refl (.v _) k⟩
theorem oo_self {i : D} {r : R2} (h : OO K S r i i μ C) : OO K S r i i μ C := h
/-! list.count of flat values; sorted ints -/
def cntV (y : V) (ys : List V) : Nat := ys.countP fun z => eqV z y
def rCntF (K : PySem.W.Frag) : V → List V → Hp → VK → Prop := fun x xs H Q => ∃ (p : Addr) (ys : List V) (y : V), x = .ref p ∧ xs = [y] ∧ SqL K H p ys ∧ flatV y = true ∧ ys.all flatV = true ∧ Q (.int (cntV y ys : Nat)) H
theorem cnt_vals {y : V} : ∀ {ys : List V} {us : List Value}, Vals ys us → ys.all flatV = true → us.countP (eqU y) = cntV y ys
  | _, _, .nil, _ => rfl
  | z :: ys, u :: us, .cons r t, f => by
    rw [List.all_cons, Bool.and_eq_true] at f
    unfold cntV
    rw [List.countP_cons, List.countP_cons, eqU_of r f.1, cnt_vals t f.2]
    rfl
theorem mt_cntF {X : Cx} : MtR X "list.count" (rCntF X.K) := by
  intro pins s σ H x xs v us Q I rx rxs h
  obtain ⟨p, ys, y, rfl, rfl, hs, fy, fys, q⟩ := h
  cases rx
  obtain ⟨u, rfl, ru⟩ := rxs.one
  obtain ⟨its, rv, ⟨⟨cls, dd, data, sl⟩, n, ho, hc, hdn, hd⟩, hlen⟩ := I.list hs
  simp only at hc hd
  subst hc hd
  refine call_meets PySem.F.slot_list_count ⟨_, ho, rfl⟩ PySem.F.entry_list_count (PySem.F.args_list_count_2 _ _)
    (SeqAt.list_countAt p its.toArray n dd sl u (eqU y)) ⟨ho, fun u' hu' => mem_eqAt ru fy rv fys u' (by simpa using hu'), ?_⟩
  refine ⟨.int (cntV y ys : Nat), H, I.tok _, ⟨s.toks, ?_⟩, q⟩
  show Value.int ((its.toArray.toList.countP (eqU y) : Nat) : Int) s.toks = Value.int ((cntV y ys : Nat) : Int) s.toks
  rw [show its.toArray.toList.countP (eqU y) = cntV y ys from cnt_vals rv fys]
theorem lst_vals {A : List Addr} {G H : Hp} {d : D} {ys : List V} {x : V} (h : LstD μ d (ys.map .v)) (m : Mem K S A G H μ) (r : Rp K A G d x) : ∃ a, x = .ref a ∧ SqL K H a ys := by
  obtain ⟨a, xs, e, hs, rl⟩ := h.at' m r
  have e2 := RpL.of_vals rl
  subst e2
  exact ⟨a, e, hs⟩
theorem mm_count {d : D} {ys : List V} {y : V} (h : LstD μ d (ys.map .v)) (fy : flatV y = true) (fys : ys.all flatV = true) (c : C (.int (cntV y ys : Nat)) μ) : MM K S (rCntF K) d [.v y] μ C := fun A G H u vs m r1 r2 Q q => by
  cases r2 with
  | cons ry rn =>
    cases rn
    have e2 := ry.vOf
    subst e2
    obtain ⟨a, e, hs⟩ := lst_vals h m r1
    subst e
    exact ⟨a, ys, _, rfl, rfl, hs, fy, fys, q _ _ A G H μ m Nw.refl (.v _) c⟩
theorem mm_index {d : D} {ys : List V} {y z : V} {j : Nat} (h : LstD μ d (ys.map .v)) (fy : flatV y = true) (fys : ys.all flatV = true) (hj : ys[j]? = some z) (e : eqV z y = true) (hn : ∀ (m : Nat) (z' : V), m < j → ys[m]? = some z' → eqV z' y = false)
    (c : C (.int (j : Nat)) μ) : MM K S (rIndex K) d [.v y] μ C := fun A G H u vs m r1 r2 Q q => by
  cases r2 with
  | cons ry rn =>
    cases rn
    have e2 := ry.vOf
    subst e2
    obtain ⟨a, e0, hs⟩ := lst_vals h m r1
    subst e0
    exact ⟨a, ys, _, j, z, rfl, rfl, hs, fy, fys, hj, e, hn, q _ _ A G H μ m Nw.refl (.v _) c⟩
theorem cc_sorted {d : D} {ns : List Int} (h : LstD μ d (ns.map D.int)) (c : ∀ ns' : List Int, ns'.Perm ns → ns'.Pairwise (· ≤ ·) → C (.lst (ns'.map D.int)) μ) : CC K S (rSortedI K) [d] μ C := fun A G H vs m r1 Q q => by
  cases r1 with
  | cons r1 rn =>
    cases rn
    obtain ⟨a, xs, e, hs, r⟩ := h.at' m r1
    subst e
    have e2 := ints_rel r
    subst e2
    refine ⟨a, ns, rfl, hs, fun ns' p hp hs hn => ?_⟩
    have e3 : ns'.map D.int = (ns'.map V.int).map D.v := by rw [List.map_map]; rfl
    exact put_lst m hn (by rw [e3]; exact RpL.vals _) q (c ns' hp hs)
theorem ee_czP {T : Type} {tk : TA} {E : XK} {arg : T → List D} {pre : T → Prop} {post : T → D → Prop} {π : List Nat} {n : Nat}
    (h : EA K S tk δ μ fun ds μ1 => ds.length = n ∧ ∃ t : T, pre t ∧ permL π ds = arg t ∧ D.ltL 0 (arg t) = true ∧ ∀ d, post t d → C d μ1) : EE K S (tCallP (ProP K arg pre post (fun _ _ _ => False)) π n E tk) δ μ C :=
  ee_callP (CE := fun _ _ _ => False) Wi.none fun A G H σ a Q q => h A G H σ a Q fun vs ds A1 G1 H1 μ1 m n r ⟨hl, t, hp, e, hn, hc⟩ => q vs ds A1 G1 H1 μ1 m n r ⟨hl, t, hp, e, hn, fun d hd _ => hc d hd, fun _ _ z _ => z⟩
end
end PA

set_option Elab.async false
set_option linter.all false
set_option maxRecDepth 100000
set_option maxHeartbeats 2000000
/-! PbMore: defaults, lists taken apart, plain data by their kinds. -/
namespace PA
open PySem L2
/-- a def that is called with its last parameters left to their defaults -/
structure CalD (P : Program) (w : World) (K : PySem.W.Frag) (mg : Str → Option Value) (base : Heap) (k : Nat) (x : Str) (ps : List Str) (dds : List V) (sp : Sp) : Prop where
  ex : ∃ (f : Addr) (fd : FuncData) (ds : List Value), FnOk P w K mg base (L2.CX P w) k f fd ps sp ∧ mg x = some (.ref f) ∧ PySem.W.keepIn K (.ref f) = true ∧ Vals dds ds ∧ Binds K fd ps ds
section
variable {X : Cx} {k j : Nat} {x : Str} {ps : List Str} {dds : List V} {sp : Sp} {E : XK} {p pos : Pos} {e : Expr} {es : List Expr} {t : TA}
theorem pe_cD (c : CalD X.prog X.w X.K X.mg X.base k x ps dds sp) (hr : Room j X.A) (hj : k ≤ j) (hg : Gl X x) (hx : Passes (L2.CX X.prog X.w) X E) (ha : PA X (e :: es) t) (hdb : (x == ("__debug__" : Str)) = false := by decide)
    (he : starEach (e :: es) X.env = (false, eval e X.env) :: starEach es X.env := by rfl) (hpl : (backTo pos (starEach es X.env)).any (·.1) = false := by rfl) : PE X (.Call (.Name x p) (e :: es) [] pos) (tCall sp dds E t) := by
  obtain ⟨f, fd, ds, F, hm, hk, hv, hb⟩ := c.ex
  exact pe_call F (hr.mono hj) hg hm hk hb hv hx ha hdb he hpl
end
section
variable {K : PySem.W.Frag} {S : Bs} {δ : Sl} {μ : List Cell} {ta tb te : TE} {C : D → List Cell → Prop}
theorem ee_czD {T : Type} {ta : TA} {E : XK} {arg : T → List D} {pre : T → Prop} {post : T → D → Prop} {dds : List V}
    (h : EA K S ta δ μ fun ds μ1 => ∃ t : T, pre t ∧ ds ++ dds.map D.v = arg t ∧ D.ltL 0 ds = true ∧ ∀ d, post t d → C d μ1) : EE K S (tCall (ProP K arg pre post (fun _ _ _ => False)) dds E ta) δ μ C :=
  ee_c0 (CE := fun _ _ _ => False) Wi.none fun A G H σ a Q q => h A G H σ a Q fun vs ds A1 G1 H1 μ1 m n r ⟨t, hp, e, hn, hc⟩ => q vs ds A1 G1 H1 μ1 m n r ⟨t, hp, e, hn, fun d hd _ => hc d hd, fun _ _ z _ => z⟩
theorem ge_list2 {i j : Nat} {x y : D} {C : Sl → List Cell → Prop} (k : C ((δ.set i (some x)).set j (some y)) μ) : GE K S (gLst K 2 (gCons (gName i) (gCons (gName j) gNil))) (.lst [x, y]) δ μ C := fun A G H σ v a r Q q => by
  cases r with
  | lst hs rl =>
    cases rl with
    | cons rx r =>
      cases r with
      | cons ry r =>
        cases r
        exact ⟨_, _, rfl, lst_sq (a.m.ex _ _ hs), rfl, _, _, rfl, _, _, rfl, rfl, q A G H _ _ μ ⟨a.m, En.set ry j (En.set rx i a.env)⟩ Nw.refl k⟩
end
/-- all([.. for k in d]), d an empty dict of ours -/
theorem ee_lockAll0 {i : Nat} {g : TG} {t : TT} {te : TE} {vs : List Nat} {K : PySem.W.Frag} {S : Bs} {δ : Sl} {μ : List Cell} {C : D → List Cell → Prop} (h : δ[i]? = some (some (.dic [] []))) (c : C (.bl true) μ) :
    EE K S (tLockE (tCB (rAll K) (tCons (tLc (iKeys (tVar i)) g t te vs) tNil))) δ μ C := fun A G H σ a Q q => by
  obtain ⟨v, h1, h2⟩ := a.env.get h
  cases h2 with
  | @dic _ _ d xs hl hd r =>
    cases r
    have hH := a.m.ex _ _ hd
    refine ⟨d, _, hH, trivial, fun od => ?_⟩
    refine ⟨_, h1, d, od, rfl, .inl ⟨_, upd_same, fun p hp => ?_⟩⟩
    have npd : d ≠ p := fun e => by
      subst e
      rw [upd_same] at hp
      cases hp
    refine ⟨fun i n H' => i = 0 ∧ H' = upd (upd H d (.frz od (.dK []))) p (.lst []), ⟨0, rfl, rfl⟩, ?_⟩
    rintro i n H' ⟨rfl, rfl⟩
    refine .inl ⟨⟨by rw [upd_ne npd, upd_same]; rfl, Nat.zero_le _⟩, ?_⟩
    refine ⟨p, [], rfl, lst_sq upd_same, by rw [upd_ne npd, upd_same]; rfl, ?_⟩
    have e : upd (upd (upd H d (.frz od (.dK []))) p (.lst [])) d (.dK []) = upd H p (.lst []) := by
      funext b
      by_cases e1 : b = d
      · subst e1
        rw [upd_same, upd_ne npd]
        exact hH.symm
      · rw [upd_ne e1]
        by_cases e2 : b = p
        · subst e2
          rw [upd_same, upd_same]
        · rw [upd_ne e2, upd_ne e1, upd_ne e2]
    have hpH : H p = none := by
      rw [upd_ne npd.symm] at hp
      exact hp
    show Q _ (upd (upd (upd H d (.frz od (.dK []))) p (.lst [])) d (.dK []))
    rw [e]
    exact q _ _ A _ _ μ (a.m.laid (o := .lst []) hpH) (.of (Ex.new (a.m.ex.free hpH))) (.v _) c
def CPowW (i j : Int) : Prop := 0 ≤ j ∧ (Builtin.Int.intBits i : Int) * j ≤ 2 ^ 27
theorem op_powW {X : Cx} : OpR X (binaryOp .Pow) (rI CPowW fun i j => .int (i ^ j.toNat)) := opI fun _ _ _ _ _ _ _ hc q => PyProof.Rows.pow_int hc.1 hc.2 q
theorem oo_powW {K : PySem.W.Frag} {S : Bs} {μ : List Cell} {C : D → List Cell → Prop} {i j : Int} (h : CPowW i j) (k : C (.int (i ^ j.toNat)) μ) : OO K S (rI CPowW fun i j => .int (i ^ j.toNat)) (.int i) (.int j) μ C := oo_I (g := fun i j => .int (i ^ j.toNat)) h k
theorem cut_map {α : Type} (f : α → D) (l : List α) (lo hi : Option Int) : cutD (l.map f) lo hi = ((l.drop (HT.sIx l.length 0 lo)).take (HT.sIx l.length l.length hi - HT.sIx l.length 0 lo)).map f := by
  unfold cutD
  rw [List.length_map, ← List.map_drop, ← List.map_take]
section
variable {K : PySem.W.Frag} {S : Bs} {δ : Sl} {μ : List Cell} {tl te : TE} {wi : TI} {g : TG} {t : TT} {C : D → List Cell → Prop}
/-- an open list is walked: it stands as it is meanwhile -/
theorem ie_own {C : List D → (List Cell → Prop) → List Cell → Prop} (h : EE K S tl δ μ fun d μ1 => ∃ k l, d = .own k ∧ μ1[k]? = some (.lst l) ∧ C l (fun μ' => μ'[k]? = some (.lst l)) μ1) : IE K S (iList K tl) δ μ C := fun A G H σ a R q =>
  h A G H σ a _ fun v d A1 G1 H1 μ1 m1 n1 r1 ⟨k, l, e, hk, c⟩ => by
    subst e
    cases r1 with
    | @own _ b hA =>
      obtain ⟨g0, xs0, hx0, r0⟩ := m1.cel k b _ hA hk
      refine ⟨b, rfl, ⟨xs0, lst_sq hx0⟩, q (Itl K b) l _ A1 G1 H1 μ1 m1 n1 (fun i A2 G2 H2 μ2 m2 n2 hP => ?_) c⟩
      have hA2 : A2[k]? = some b := by
        cases (n2.rp (.own hA : Rp K A1 G1 (.own k) (.ref b))) with
        | own h => exact h
      obtain ⟨g2, xs, hx, r⟩ := m2.cel k b _ hA2 hP
      have hs : SqL K H2 b xs := lst_sq hx
      refine ⟨fun d hd => ?_, fun e => ⟨xs, hs, by rw [e, r.len]; exact Nat.le_refl _⟩⟩
      obtain ⟨x, hx2, rx⟩ := r.get hd
      refine ⟨⟨xs, x, hs, hx2⟩, fun y H' ⟨e, hy⟩ => ?_⟩
      subst e
      have z := hy xs hs
      rw [hx2] at z
      cases z
      exact ⟨G2, m2, Ex.refl _, rx⟩
/-- [e for .. in .. if ..], the list kept open: its place among the open lists is n -/
theorem ee_lcO {vs : List Nat} (h : IE K S wi δ μ fun l P μ1 => ∃ I : Nat → List Cell → Prop, (∀ i μ', I i μ' → P μ') ∧ I 0 (μ1 ++ [.lst []]) ∧
      (∀ (i : Nat) x μ', l[i]? = some x → I i μ' → GW K S g vs x (wipeS δ vs) μ' fun δ2 μ2 => ET K S t δ2 μ2 fun b μ3 =>
        (b = true → EE K S te δ2 μ3 fun d μ4 => ∃ acc, μ4[μ1.length]? = some (.lst acc) ∧ acc.length < 10000000 ∧ I (i + 1) (μ4.set μ1.length (.lst (acc ++ [d])))) ∧ (b = false → I (i + 1) μ3)) ∧
      ∀ μ', I l.length μ' → C (.own μ1.length) μ') : EE K S (tLc wi g t te vs) δ μ C := fun A G H σ a Q q =>
  h A G H σ a _ fun J l P A1 G1 H1 μ1 m1 n1 gv ⟨I, ip, i0, it, ie⟩ => by
    intro p hp
    have hlen0 : A1.length = μ1.length := m1.len
    refine ⟨fun i n H' => n = l.length - i ∧ i ≤ l.length ∧ ∃ (A2 : List Addr) (G2 : Hp) (μ2 : List Cell), Mem K S A2 G2 H' μ2 ∧ Nw (A1 ++ [p]) G1 A2 G2 ∧ I i μ2, ⟨l.length, by omega, Nat.zero_le _, A1 ++ [p], G1, μ1 ++ [.lst []], m1.opened hp .nil, Nw.refl, i0⟩, ?_⟩
    rintro i n H' ⟨hn, hi, A2, G2, μ2, m2, n2, w⟩
    have n12 : Nw A1 G1 A2 G2 := Nw.trans ⟨⟨[p], rfl⟩, Ex.refl _⟩ n2
    have hp2 : ∀ {A3 : List Addr} {G3 : Hp}, Nw A2 G2 A3 G3 → A3[A1.length]? = some p := fun {A3 G3} n3 => by
      obtain ⟨⟨B, hB⟩, _⟩ := n2.trans n3
      rw [hB, List.append_assoc, List.getElem?_append_right (Nat.le_refl _), Nat.sub_self]
      rfl
    obtain ⟨g1, g2⟩ := gv i _ G2 H' _ m2 n12 (ip i μ2 w)
    by_cases hlt : i < l.length
    · obtain ⟨x, hx⟩ : ∃ x, l[i]? = some x := ⟨l[i], by simp [hlt]⟩
      obtain ⟨go, yl⟩ := g1 x hx
      refine .inr ⟨go, fun H3 => ∃ (A3 : List Addr) (G3 : Hp) (μ3 : List Cell), Mem K S A3 G3 H3 μ3 ∧ Nw (A1 ++ [p]) G1 A3 G3 ∧ I (i + 1) μ3, fun H3 w3 => ⟨l.length - (i + 1), by omega, rfl, hlt, w3⟩, fun y H3 hy => ?_⟩
      obtain ⟨G3, m3, e3, r3⟩ := yl y H3 hy
      have n3 : Nw A2 G2 A2 G3 := .of e3
      have en3 := ((n1.trans n12).trans n3).wipeE a.env vs
      refine it i x μ2 hx w A2 G3 H3 _ y ⟨m3, en3⟩ r3 _ fun A4 G4 H4 σ4 δ4 μ4 a4 n4 hw c => ?_
      refine ⟨by rw [hw, wipe_twice], ?_⟩
      refine c A4 G4 H4 σ4 a4 _ fun b A5 G5 H5 μ5 m5 n5 ⟨ht, hf⟩ => ?_
      cases b with
      | true =>
        rw [if_pos rfl]
        refine ht rfl A5 G5 H5 σ4 ⟨m5, n5.en a4.env⟩ _ fun v d A6 G6 H6 μ6 m6 n6 r6 ⟨acc, hacc, hz, w7⟩ => ?_
        have n26 := ((n3.trans n4).trans n5).trans n6
        have hA := hp2 n26
        rw [← hlen0] at hacc w7
        obtain ⟨gp, xs, hxs, rx⟩ := m6.cel A1.length p _ hA hacc
        exact ⟨xs, hxs, smalr (by rw [← rx.len]; exact hz), A6, G6, _, m6.wrote hA hacc (rx.append (.cons r6 .nil)), n2.trans n26, w7⟩
      | false =>
        rw [if_neg Bool.false_ne_true]
        exact ⟨A5, G5, μ5, m5, n2.trans ((n3.trans n4).trans n5), hf rfl⟩
    · have e : i = l.length := by omega
      refine .inl ⟨g2 e, ?_⟩
      have hA := hp2 Nw.refl
      refine q (.ref p) (.own μ1.length) A2 G2 H' μ2 m2 (n1.trans n12) (.own ?_) (ie μ2 (by rw [← e]; exact w))
      rw [← hlen0]
      exact hA
/-- .. whose elements change nothing -/
theorem ee_lcN {vs : List Nat} (h : IE K S wi δ μ fun l P μ1 => (∀ c, P μ1 → P (μ1 ++ [c])) ∧ P μ1 ∧ ∃ (f : D → Bool) (e : D → D), l.length ≤ 10000000 ∧
      (∀ x acc, x ∈ l → GW K S g vs x (wipeS δ vs) (μ1 ++ [.lst acc]) fun δ2 μ2 => ET K S t δ2 μ2 fun b μ3 => b = f x ∧ μ3 = μ1 ++ [.lst acc] ∧ (b = true → EE K S te δ2 μ3 fun d μ4 => d = e x ∧ μ4 = μ1 ++ [.lst acc])) ∧
      C (.own μ1.length) (μ1 ++ [.lst ((l.filter f).map e)])) : EE K S (tLc wi g t te vs) δ μ C := by
  refine ee_lcO fun A G H σ a R q => h A G H σ a R fun J l P A1 G1 H1 μ1 m1 n1 gv ⟨hP, hP1, f, e, hl, ht, c⟩ => q J l P A1 G1 H1 μ1 m1 n1 gv ?_
  refine ⟨fun i μ' => i ≤ l.length ∧ μ' = μ1 ++ [.lst (((l.take i).filter f).map e)], fun i μ' w => by rw [w.2]; exact hP _ hP1, ⟨Nat.zero_le _, by simp⟩, fun i x μ' hx w => ?_, fun μ' w => ?_⟩
  · obtain ⟨hi, rfl⟩ := w
    have hm : x ∈ l := List.mem_of_getElem? hx
    have hil := (List.getElem?_eq_some_iff.mp hx).1
    have ht1 : l.take (i + 1) = l.take i ++ [x] := by
      rw [List.take_succ, hx]
      rfl
    have hlen : (((l.take i).filter f).map e).length < 10000000 := by
      rw [List.length_map]
      have h1 := List.length_filter_le f (l.take i)
      rw [List.length_take] at h1
      omega
    intro A2 G2 H2 σ2 v2 a2 r2 Q2 q2
    refine ht x _ hm A2 G2 H2 σ2 v2 a2 r2 Q2 fun A3 G3 H3 σ3 δ3 μ3 a3 n3 hw c3 => q2 A3 G3 H3 σ3 δ3 μ3 a3 n3 hw ?_
    intro A4 G4 H4 σ4 a4 Q4 q4
    refine c3 A4 G4 H4 σ4 a4 Q4 fun b A5 G5 H5 μ5 m5 n5 ⟨eb, em, c5⟩ => q4 b A5 G5 H5 μ5 m5 n5 ⟨fun hb => ?_, fun hb => ?_⟩
    · refine (c5 hb).imp fun d μ6 ⟨ed, e6⟩ => ⟨_, by rw [e6, List.getElem?_append_right (Nat.le_refl _), Nat.sub_self]; rfl, hlen, hil, ?_⟩
      rw [e6, List.set_append_right _ _ (Nat.le_refl _), Nat.sub_self, ht1, List.filter_append, List.map_append, List.filter_cons, if_pos (by rw [← eb]; exact hb), ed]
      rfl
    · refine ⟨hil, ?_⟩
      rw [em, ht1, List.filter_append, List.map_append, List.filter_cons, if_neg (by rw [← eb, hb]; exact Bool.false_ne_true)]
      simp
  · obtain ⟨_, rfl⟩ := w
    rw [List.take_length]
    exact c
end
/-! plain data by kind -/
theorem is_str {d : D} (h : d.pl = true) (e : d.is "str" = true) : ∃ s, d = .str s := by
  cases d with
  | v x => cases x <;> first | exact ⟨_, rfl⟩ | (revert e; simp [D.is, D.ty]; done) | (cases h; done)
  | lst l => revert e; simp [D.is, D.ty]
  | rd l => cases h
  | tup l => revert e; simp [D.is, D.ty]
  | dic ks l => revert e; simp [D.is, D.ty]
  | exc c d => cases h
  | own k => cases h
theorem is_tup {d : D} (h : d.pl = true) (e : d.is "tuple" = true) : ∃ l, d = .tup l := by
  cases d with
  | v x => cases x <;> first | (revert e; simp [D.is, D.ty]; done) | (cases h; done)
  | lst l => revert e; simp [D.is, D.ty]
  | rd l => cases h
  | tup l => exact ⟨_, rfl⟩
  | dic ks l => revert e; simp [D.is, D.ty]
  | exc c d => cases h
  | own k => cases h
theorem is_lst {d : D} (h : d.pl = true) (e : d.is "list" = true) : ∃ l, d = .lst l := by
  cases d with
  | v x => cases x <;> first | (revert e; simp [D.is, D.ty]; done) | (cases h; done)
  | lst l => exact ⟨_, rfl⟩
  | rd l => cases h
  | tup l => revert e; simp [D.is, D.ty]
  | dic ks l => revert e; simp [D.is, D.ty]
  | exc c d => cases h
  | own k => cases h
/-- a whole number, no truth -/
def isWh : D → Bool
  | .v (.int _) => true
  | _ => false
theorem is_wh {d : D} (h : d.pl = true) : (d.is "int" && !d.is "bool") = isWh d := by
  cases d with
  | v x => cases x <;> first | (simp [D.is, D.ty, isWh]; done) | (cases h; done)
  | lst l => simp [D.is, D.ty, isWh]
  | rd l => cases h
  | tup l => simp [D.is, D.ty, isWh]
  | dic ks l => simp [D.is, D.ty, isWh]
  | exc c d => cases h
  | own k => cases h
theorem wh_int {d : D} (h : isWh d = true) : ∃ i, d = .int i := by
  cases d with
  | v x => cases x <;> first | exact ⟨_, rfl⟩ | (cases h; done)
  | lst l => cases h
  | rd l => cases h
  | tup l => cases h
  | dic ks l => cases h
  | exc c d => cases h
  | own k => cases h
theorem se_to {K : PySem.W.Frag} {S : Bs} {ts : TS} {δ : Sl} {μ : List Cell} {E : Cn} (J : Sl → List Cell → Prop) (h1 : SE K S ts δ μ { E with nx := J }) (h2 : ∀ d m, J d m → E.nx d m) : SE K S ts δ μ E := h1.imp h2 (fun _ _ h => h) (fun _ _ h => h) fun _ _ h => h
theorem ee_dnew {K : PySem.W.Frag} {S : Bs} {δ : Sl} {μ : List Cell} {C : D → List Cell → Prop} (k : C (.dic [] []) μ) : EE K S tDNewK δ μ C := fun A G H σ a Q q p hp => by
  have e := Ex.new (o := .dK []) (a.m.ex.free hp)
  exact q _ _ A _ _ μ (a.m.laid hp) (.of e) (.dic (xs := []) rfl upd_same .nil) k
/-- a truth that is told by P -/
theorem ee_val {K : PySem.W.Frag} {S : Bs} {te : TE} {δ : Sl} {μ : List Cell} {C : D → List Cell → Prop} (P : Prop) (h : EE K S te δ μ fun y μ2 => μ2 = μ ∧ ∃ b : Bool, y = .bl b ∧ (b = true ↔ P)) (k : ∀ b : Bool, (b = true ↔ P) → C (.bl b) μ) : EE K S te δ μ C :=
  h.imp fun y μ2 ⟨e, b, e2, hb⟩ => by
    subst e e2
    exact k b hb
theorem et_val {K : PySem.W.Frag} {S : Bs} {t : TT} {δ : Sl} {μ : List Cell} {C : Bool → List Cell → Prop} (P : Prop) (h : ET K S t δ μ fun b μ2 => μ2 = μ ∧ (b = true ↔ P)) (k : ∀ b : Bool, (b = true ↔ P) → C b μ) : ET K S t δ μ C := fun A G H σ a Q q =>
  h A G H σ a Q fun b A1 G1 H1 μ1 m1 n1 ⟨e, hb⟩ => q b A1 G1 H1 μ1 m1 n1 (by subst e; exact k b hb)
/-! the same rules with the written part named by itself (within a comprehension it must not hang on the context) -/
section
variable {X : Cx} (K : PySem.W.Frag)
theorem kO (r : PySem.W.Frag → R2) {o : Value → Value → Sem Value} (h : X.K = K) (p : OpR X o (r X.K)) : OpR X o (r K) := h ▸ p
theorem kC (r : PySem.W.Frag → List V → Hp → VK → Prop) {v : Value} (h : X.K = K) (p : CallR X v (r X.K)) : CallR X v (r K) := h ▸ p
theorem kX (r : PySem.W.Frag → R2) (h : X.K = K) (p : IxR X (r X.K)) : IxR X (r K) := h ▸ p
theorem kS (r : PySem.W.Frag → V → Option Int → Option Int → Hp → VK → Prop) (h : X.K = K) (p : SlR X (r X.K)) : SlR X (r K) := h ▸ p
theorem kM (r : PySem.W.Frag → V → List V → Hp → VK → Prop) {id : String} (h : X.K = K) (p : MtR X id (r X.K)) : MtR X id (r K) := h ▸ p
end
section
variable {X : Cx} {K : PySem.W.Frag} {te to : TE} {e o : Expr} {es : List Expr} {t ta : TA} {tg : Expr}
theorem pe_bmK {T name id : String} {r : V → List V → Hp → VK → Prop} {apos cpos : Pos} (h : X.K = K) (pa : PlainAttrs T) (slot : Slot T name id) (hty : typeOf (.builtin id) = pure (.type "method_descriptor")) (hm : MtR X id r) (ho : PE X o to) (ha : PA X (e :: es) t)
    (hbase : attributeBase o name X.env (eval o X.env) = eval o X.env := by rfl)
    (hfew : ((backTo cpos (starEach (e :: es) X.env)).all (fun x => !x.1) && (backToKw cpos (keywordEach [] X.env)).all (fun x => x.1.isSome)
      && decide ((e :: es).length + ([] : List Keyword).length + (if ([] : List Keyword).isEmpty then 0 else 1) < 30)) = true := by rfl)
    (hline : (apos.endLine == cpos.line) = true := by rfl) (hs : starEach (e :: es) X.env = (false, eval e X.env) :: starEach es X.env := by rfl) (hplain : (backTo cpos (starEach es X.env)).any (·.1) = false := by rfl) :
    PE X (.Call (.Attribute o name apos) (e :: es) [] cpos) (tBM K T r to t) := h ▸ pe_bm pa slot hty hm ho ha hbase hfew hline hs hplain
theorem pe_revLK {k : Nat} {p1 p2 p3 pos : Pos} (h : X.K = K) (he : PE X e te) : PE X (.Subscript e (.Slice none none (some (.UnaryOp .USub (.Constant (.int 1) k p1) p2)) p3) pos) (tRevL K te) := h ▸ pe_revL he
theorem pe_errVK {pos : Pos} (h : X.K = K) (he : PE X e te) (hb : attributeBase e "value" X.env (eval e X.env) = eval e X.env := by rfl) : PE X (.Attribute e "value" pos) (tErrV K te) := h ▸ pe_errV he hb
theorem pe_joinK {apos pos : Pos} (h : X.K = K) (ho : PE X o to) (he : PE X e te) (hs : starEach [e] X.env = [(false, eval e X.env)] := by rfl) (hbase : attributeBase o "join" X.env (eval o X.env) = eval o X.env := by rfl) (hline : (apos.endLine == pos.line) = true := by rfl) :
    PE X (.Call (.Attribute o "join" apos) [e] [] pos) (tM1 (rJoin K) to te) := h ▸ pe_join ho he hs hbase hline
theorem pi_listK (h : X.K = K) (hl : PE X e te) : PI X tg e (iList K te) := h ▸ pi_list hl
theorem pi_tupK (h : X.K = K) (hl : PE X e te) : PI X tg e (iTup K te) := h ▸ pi_tup hl
theorem pi_revK {p pos : Pos} (h : X.K = K) (hg : Gl X "reversed") (hm : X.mg "reversed" = none) (ha : PA X [e] ta) (hs : starEach [e] X.env = [(false, eval e X.env)] := by rfl) : PI X tg (.Call (.Name "reversed" p) [e] [] pos) (iRev K ta) := h ▸ pi_reversed hg hm ha hs
theorem pi_enumK {p pos tpos : Pos} {elts : List Expr} {kk : Nat} (h : X.K = K) (hg : Gl X "enumerate") (hm : X.mg "enumerate" = none) (ha : PA X [e] ta) (hs : starEach [e] X.env = [(false, eval e X.env)] := by rfl) :
    PI X (.Tuple elts kk tpos) (.Call (.Name "enumerate" p) [e] [] pos) (iEnum K ta) := h ▸ pi_enum hg hm ha hs
theorem pi_zipAK {e2 : Expr} {p pos tpos : Pos} {elts : List Expr} {kk : Nat} (h : X.K = K) (hg : Gl X "zip") (hm : X.mg "zip" = none) (ha : PA X [e, e2] ta)
    (hs : starEach [e, e2] X.env = (false, eval e X.env) :: starEach [e2] X.env := by rfl) (hpl : (backTo pos (starEach [e2] X.env)).any (·.1) = false := by rfl) :
    PI X (.Tuple elts kk tpos) (.Call (.Name "zip" p) [e, e2] [] pos) (RZ.iZipA K ta) := h ▸ RZ.pi_zipA hg hm ha hs hpl
theorem pg_tupK {es : List Expr} {k : Nat} {ts : TGs} {n : Nat} {pos : Pos} (h : X.K = K) (hc : X.calm = true) (hp : PGs X es ts)
    (hn : (assignEach es X.env).length = n := by rfl) (hst : (assignEach es X.env).findIdx? (·.1) = none := by rfl) : PG X (.Tuple es k pos) (gTup K n ts) := h ▸ pg_tup hc hp hn hst
theorem pg_lstK {es : List Expr} {k : Nat} {ts : TGs} {n : Nat} {pos : Pos} (h : X.K = K) (hc : X.calm = true) (hp : PGs X es ts)
    (hn : (assignEach es X.env).length = n := by rfl) (hst : (assignEach es X.env).findIdx? (·.1) = none := by rfl) : PG X (.Tuple es k pos) (gLst K n ts) := h ▸ pg_lst hc hp hn hst
end
/-- a tuple of flat values that the text has written -/
def TupK (K : PySem.W.Frag) (a : Addr) (xs : List V) : Prop := ∃ (o : Obj) (its : Array Value) (n : Nat), K.lookup a = some o ∧ o.cls = .type "tuple" ∧ o.data = .seq its n ∧ its.size ≤ sizeLine ∧ Vals xs its.toList
theorem ee_cT {K : PySem.W.Frag} {S : Bs} {δ : Sl} {μ : List Cell} {C : D → List Cell → Prop} {a : Addr} {xs : List V} (h : TupK K a xs) (k : C (.tup (xs.map D.v)) μ) : EE K S (tC (.ref a)) δ μ C := fun A G H σ at' Q q => q _ (.tup (xs.map D.v)) A G H μ at'.m Nw.refl (.tup (.inr h) (RpL.vals xs)) k
theorem oo_ixK {K : PySem.W.Frag} {S : Bs} {μ : List Cell} {C : D → List Cell → Prop} {a : Addr} {xs : List V} {i : Int} {x : V} (h : TupK K a xs) (hi : atI xs i = some x) (k : C (.v x) μ) : OO K S (rIx K) (.v (.ref a)) (.int i) μ C := fun A G H u w m r1 r2 Q q => by
  have e1 := r1.vOf
  have e2 := r2.vOf
  subst e1 e2
  exact .inr (.inl ⟨_, xs, i, x, rfl, rfl, .inr h, hi, q _ _ A G H μ m Nw.refl (.v _) k⟩)
/-! an argument that is closed data, or the one open list; what it is seen as -/
inductive Arg : D → List Cell → D → Prop
  | cl {d : D} : d.lt 0 = true → Arg d [] d
  | own {l : List D} : D.ltL 0 l = true → Arg (.own 0) [.lst l] (.lst l)
theorem cc_isO {K : PySem.W.Frag} {S : Bs} {μ : List Cell} {C : D → List Cell → Prop} {k : Nat} {l : List D} {n : String} (hc : μ[k]? = some (.lst l)) (hn : isTy n = true) (c : C (.bl ("list" == n)) μ) : CC K S (rIsiU K) [.own k, .v (.ty n)] μ C := fun A G H vs m r1 Q q => by
  cases r1 with
  | cons r1 rn =>
    cases rn with
    | cons r2 rn =>
      cases rn
      have e2 := r2.vOf
      subst e2
      have hk : kitB "list" n = some ("list" == n) := by
        have z := pl_kit (d := .lst []) rfl hn
        rw [show D.ty (.lst []) = "list" from rfl] at z
        rw [z]
        show some ("list" == n || (n == "int" && "list" == "bool")) = _
        simp
      exact .inl ⟨_, _, _, _, _, rfl, .ty n, r1.tyX m (by show "list" ≠ ""; decide) (fun j e => by cases e; exact ⟨l, hc⟩), kit_ty hk, q _ _ A G H μ m Nw.refl (.v _) c⟩
/-! ends of defs, in short -/
section
variable {S : Bs} {μ : List Cell} {d : D}
theorem gaveP {post : D → Prop} (hl : S.A.length = 0) (h1 : d.lt 0 = true) (h : post d) : Gave S (fun d μ => μ = [] ∧ post d) d μ := by
  refine gave (by rw [hl]; exact h1) (by rw [hl]; rfl) ⟨by rw [hl]; rfl, h⟩
theorem gave1 {P : D → List Cell → Prop} {l : List D} {ν : List Cell} (hl : S.A.length = 1) (h1 : d.lt 0 = true) (h2 : D.ltL 0 l = true) (h : P d [.lst l]) : Gave S P d (.lst l :: ν) := by
  refine gave (by rw [hl]; exact D.lt_mono (Nat.zero_le _) h1) (by rw [hl]; show (D.ltL 1 l && true) = true; rw [D.ltL_mono (Nat.zero_le _) h2]; rfl) (by rw [hl]; exact h)
theorem gaveN {post : List D → Prop} {k : Nat} {l : List D} (hl : S.A.length = 0) (hk : μ[k]? = some (.lst l)) (h1 : D.ltL 0 l = true) (h : post l) : Gave S (fun d μ => ∃ l, d = .own 0 ∧ μ = [.lst l] ∧ D.ltL 0 l = true ∧ post l) (.own k) μ := by
  refine gave_new (by rw [hl]; exact Nat.zero_le _) hk (by rw [hl]; exact h1) (by rw [hl]; rfl) ⟨l, by rw [hl], by rw [hl]; rfl, h1, h⟩
end
end PA

set_option Elab.async false
set_option linter.all false
set_option maxRecDepth 100000
set_option maxHeartbeats 2000000
/-! PbText: texts as lists of numbers. -/
namespace PA
open PySem L2
def tx (l : List Nat) : Str := ⟨l.toArray⟩
def cp (s : Str) : List Nat := s.cps.toList
theorem cp_tx (l : List Nat) : cp (tx l) = l := rfl
theorem tx_cp (s : Str) : tx (cp s) = s := rfl
theorem cp_inj {s t : Str} (h : cp s = cp t) : s = t := by rw [← tx_cp s, h, tx_cp]
theorem len_cp (s : Str) : s.length = (cp s).length := by
  show s.cps.size = s.cps.toList.length
  simp
theorem cp_app (s t : Str) : cp (s ++ t) = cp s ++ cp t := by
  show (s.cps ++ t.cps).toList = _
  rw [Array.toList_append]
  rfl
theorem app_tx (a b : List Nat) : tx a ++ tx b = tx (a ++ b) := cp_inj (by rw [cp_app]; rfl)
theorem cutS_nn (s : Str) (i j : Nat) : cp (cutS s (some (i : Int)) (some (j : Int))) = ((cp s).drop i).take (j - i) := by
  show ((cp s).drop (HT.sIx s.length 0 (some (i : Int)))).take (HT.sIx s.length s.length (some (j : Int)) - HT.sIx s.length 0 (some (i : Int))) = _
  rw [HT.sIx_nat, HT.sIx_nat, len_cp]
  generalize cp s = l
  by_cases hi : i ≤ l.length
  · rw [Nat.min_eq_left hi]
    by_cases hj : j ≤ l.length
    · rw [Nat.min_eq_left hj]
    · rw [Nat.min_eq_right (by omega), List.take_of_length_le (by rw [List.length_drop]; omega), List.take_of_length_le (by rw [List.length_drop]; omega)]
  · rw [List.drop_of_length_le (by omega : l.length ≤ i), List.drop_of_length_le (by omega), List.take_nil, List.take_nil]
theorem cutS_n0 (s : Str) (i : Nat) : cp (cutS s (some (i : Int)) none) = (cp s).drop i := by
  show ((cp s).drop (HT.sIx s.length 0 (some (i : Int)))).take (s.length - HT.sIx s.length 0 (some (i : Int))) = _
  rw [HT.sIx_nat, len_cp]
  generalize cp s = l
  rw [List.take_of_length_le (by rw [List.length_drop]; omega)]
  by_cases hi : i ≤ l.length
  · rw [Nat.min_eq_left hi]
  · rw [List.drop_of_length_le (by omega : l.length ≤ i), List.drop_of_length_le (by omega)]
theorem cutS_0n (s : Str) (j : Nat) : cp (cutS s none (some (j : Int))) = (cp s).take j := by
  show ((cp s).drop 0).take (HT.sIx s.length s.length (some (j : Int)) - 0) = _
  rw [HT.sIx_nat, len_cp, List.drop_zero, Nat.sub_zero]
  generalize cp s = l
  by_cases hj : j ≤ l.length
  · rw [Nat.min_eq_left hj]
  · rw [List.take_of_length_le (by omega), List.take_of_length_le (by omega)]
theorem join0 (ys : List Str) : cp (Txt.join Str.empty ys) = (ys.map cp).flatten := by
  rw [TL.join_eq]
  induction ys with
  | nil => rfl
  | cons y ys ih =>
    cases ys with
    | nil =>
      show cp y = _
      simp
    | cons z zs =>
      show cp (y ++ Str.empty ++ Str.join Str.empty (z :: zs)) = _
      rw [cp_app, cp_app, ih]
      simp [cp, Str.empty]
theorem fold_app : ∀ (n : Nat) (x acc : Array Nat), ((List.replicate n x).foldl (· ++ ·) acc).toList = acc.toList ++ (List.replicate n x.toList).flatten
  | 0, x, acc => by simp
  | n + 1, x, acc => by
    rw [List.replicate_succ, List.foldl_cons, fold_app n x (acc ++ x), List.replicate_succ, List.flatten_cons, Array.toList_append, List.append_assoc]
theorem cp_mul (s : Str) (n : Nat) : cp (Txt.mul s (n : Int)) = (List.replicate n (cp s)).flatten := by
  unfold Txt.mul
  by_cases h1 : (n : Int) < 1
  · rw [if_pos h1]
    have : n = 0 := by omega
    subst this
    rfl
  · rw [if_neg h1]
    by_cases h2 : ((n : Int) == 1 || s.length == 0) = true
    · rw [if_pos h2]
      rw [Bool.or_eq_true, beq_iff_eq, beq_iff_eq] at h2
      rcases h2 with h2 | h2
      · have : n = 1 := by omega
        subst this
        simp
      · rw [len_cp] at h2
        have e : cp s = [] := List.length_eq_zero_iff.mp h2
        rw [e]
        simp
    · rw [if_neg h2, Int.toNat_natCast]
      show ((List.replicate n s.cps).foldl (· ++ ·) #[]).toList = _
      rw [fold_app]
      rfl
theorem mul_ok {s : Str} {n : Nat} (h1 : n ≤ 1000000) (h2 : s.length * n ≤ 10000000) : MulOk s (n : Int) := by
  refine ⟨?_, fun h3 h4 => ?_, fun h3 h4 => ?_⟩
  · have a : ¬ ((n : Int) < -(2 ^ 63 : Int)) := by omega
    have b : ¬ ((n : Int) ≥ 2 ^ 63) := by omega
    simp only [a, b, decide_false, Bool.or_false]
  · have hn : 0 < n := by omega
    have q : (1000000 : Int) * 1000000 ≤ (2 ^ 63 - 1) / (n : Int) := by
      rw [Int.le_ediv_iff_mul_le (by omega)]
      have : (1000000 : Int) * 1000000 * n ≤ 1000000 * 1000000 * 1000000 := by omega
      omega
    have hs : s.length ≤ 10000000 := by
      have : s.length * 1 ≤ s.length * n := Nat.mul_le_mul_left _ hn
      omega
    omega
  · rw [Int.toNat_natCast]
    have : s.length * n ≤ sizeLine := small h2
    exact decide_eq_false (by omega)
theorem atI_of {α : Type} {l : List α} {i : Int} {j : Nat} {d : α} (h : l[j]? = some d) (e : i = (j : Int)) : atI l i = some d := by
  rw [e]
  exact atI_nat h
theorem str1 {c d : Nat} : (decide ((V.str ⟨#[c]⟩ : V) = .str ⟨#[d]⟩)) = decide (c = d) := by
  refine decide_eq_decide.mpr ⟨fun h => ?_, fun h => by rw [h]⟩
  injection h with h
  injection h with h
  have e : [c] = [d] := congrArg Array.toList h
  injection e
theorem strE {s t : Str} : (decide ((V.str s : V) = .str t)) = decide (cp s = cp t) := by
  refine decide_eq_decide.mpr ⟨fun h => ?_, fun h => by rw [cp_inj h]⟩
  injection h with h
  rw [h]
end PA

set_option Elab.async false
set_option linter.all false
set_option maxRecDepth 100000
set_option maxHeartbeats 2000000
/-! PbEnd: from what the top has written to the walk's words; the law's end. -/
namespace PA
open PySem L2
/-- a def of the top -/
def DefF (K : PySem.W.Frag) (mg : Str → Option Value) (x : Str) (st : Stmt) : Prop := ∃ (f : Addr) (fd : FuncData), Fun K x x st f fd ∧ mg x = some (.ref f) ∧ PySem.W.keepIn K (.ref f) = true
/-- .. with defaults -/
def DefD (K : PySem.W.Frag) (mg : Str → Option Value) (x : Str) (st : Stmt) (dvs : List V) : Prop := ∃ (f : Addr) (fd : FuncData), FunD K x x (defArgs st) (defBody st) (defScope st) dvs [] f fd ∧ mg x = some (.ref f) ∧ PySem.W.keepIn K (.ref f) = true
section
variable {K : PySem.W.Frag} {h : Heap} {mg : Str → Option Value} {x : Str} {st : Stmt} {f : Addr} {oc : Value} {od an : Option Addr} {osl : Array (Option Value)} {kV doc pm cdv ct : Value}
theorem def_mk (X : K.In h) (G : h.Ns mainGlobals mg) (a : PySem.W.nsIn K mainGlobals x = some (some (.ref f))) (l : K.lookup f = some ⟨oc, od, .func (PySem.W.fnOf x x (defArgs st) (defBody st) (defScope st) .none kV doc pm an cdv ct), osl⟩) (c : PySem.W.codeIn K cdv x = true) (k : PySem.W.keepIn K (.ref f) = true) : DefF K mg x st :=
  ⟨f, _, fun_mk l c k, PySem.W.mg_of X G a, k⟩
theorem defD_mk {T : Addr} {oT : Obj} {its : List Value} {n : Nat} {dvs : List V} (X : K.In h) (G : h.Ns mainGlobals mg) (a : PySem.W.nsIn K mainGlobals x = some (some (.ref f))) (l : K.lookup f = some ⟨oc, od, .func (PySem.W.fnOf x x (defArgs st) (defBody st) (defScope st) (.ref T) kV doc pm an cdv ct), osl⟩) (c : PySem.W.codeIn K cdv x = true) (k : PySem.W.keepIn K (.ref f) = true)
    (lT : K.lookup T = some oT) (dT : oT.data = .seq its.toArray n) (rT : Vals dvs its) (hd : dvs ≠ []) : DefD K mg x st dvs :=
  ⟨f, _, ⟨⟨oc, od, _, kV, doc, pm, an, cdv, ct, osl, rfl, l, c, .inr ⟨hd, T, oT, its, n, rfl, lT, dT, rT⟩, .inl rfl⟩, k⟩, PySem.W.mg_of X G a, k⟩
theorem exm_of {S c : Addr} (h1 : PySem.W.subIn K (.ref S) (.type "BaseException") = some true) (h2 : PySem.W.isClsIn K S = true) (h3 : PySem.W.typeIn K (.ref S) = some (.type "type")) (h4 : PySem.W.subIn K (.ref c) (.ref S) = some true) : PySem.W.exmOne K (.ref c) (.ref S) = some true := by
  have e1 : (PySem.W.subIn K (.ref S) (.type "BaseException") == some true) = true := by rw [h1] <;> rfl
  have e2 : ((PySem.W.clsIn K S).isSome && PySem.W.typeIn K (.ref S) == some (.type "type")) = true := by
    have h2' : (PySem.W.clsIn K S).isSome = true := h2
    rw [h2', h3] <;> rfl
  show (if (PySem.W.subIn K (.ref S) (.type "BaseException") == some true) = true then (if ((PySem.W.clsIn K S).isSome && PySem.W.typeIn K (.ref S) == some (.type "type")) = true then PySem.W.subIn K (.ref c) (.ref S) else none) else none) = some true
  rw [if_pos e1, if_pos e2]
  exact h4
theorem kit_ne {S c : Addr} {b : Bool} (ne : (Value.ref c == Value.ref S) = false) (h2 : PySem.W.isClsIn K S = true) (h3 : PySem.W.typeIn K (.ref S) = some (.type "type")) (h4 : PySem.W.subIn K (.ref c) (.ref S) = some b) : PySem.W.kitOne K (.ref c) (.ref S) = some b := by
  have e2 : ((PySem.W.clsIn K S).isSome && PySem.W.typeIn K (.ref S) == some (.type "type")) = true := by
    have h2' : (PySem.W.clsIn K S).isSome = true := h2
    rw [h2', h3] <;> rfl
  show (if (Value.ref c == Value.ref S) = true then some true else (if ((PySem.W.clsIn K S).isSome && PySem.W.typeIn K (.ref S) == some (.type "type")) = true then PySem.W.subIn K (.ref c) (.ref S) else none)) = some b
  rw [ne, if_neg Bool.false_ne_true, if_pos e2]
  exact h4
theorem kit_self {c : Addr} : PySem.W.kitOne K (.ref c) (.ref c) = some true := by
  unfold PySem.W.kitOne
  rw [if_pos (by simp)]
theorem kit_val {c : Addr} (h : PySem.W.subIn K (.ref c) (.type "ValueError") = some true) : PySem.W.kitOne K (.ref c) (.type "ValueError") = some true := by
  have e : PySem.W.kitMeta "ValueError" = true := by decide +kernel
  have ne : (Value.ref c == Value.type "ValueError") = false := by rfl
  show (if (Value.ref c == Value.type "ValueError") = true then some true else (if PySem.W.kitMeta "ValueError" = true then PySem.W.subIn K (.ref c) (.type "ValueError") else none)) = some true
  rw [ne, if_neg Bool.false_ne_true, if_pos e]
  exact h
/-- an own error class with its __init__(self, value=None) -/
theorem err_mk {C T N : Addr} {qual nm q : Str} {bs bm : List Value} {sn : List Str} {sub : List Value} {ab : Bool} {col : Option Bool} {dd : Option Addr} {m0 m1 m2 m3 m5 : Option Value} {oT : Obj} {n : Nat} {q1 q2 q3 q4 : Pos} (aC : PySem.W.nsIn K mainGlobals x = some (some (.ref C)))
    (xL : K.lookup C = some (excClassObj nm q C N bs bm true sn sub ab col dd m0 m1 m2 m3 m5 "ValueError.__new__")) (sa : PySem.W.findIn K (.ref C) "__setattr__" = some (some (.builtin "object.__setattr__")))
    (ga : PySem.W.findIn K (.ref C) "__getattribute__" = some (some (.builtin "BaseException.__getattribute__"))) (gg : PySem.W.findIn K (.ref C) "__getattr__" = some none) (nb : PySem.W.findIn K (.ref C) "value" = some none)
    (a1 : PySem.W.findIn K (.ref C) "__init__" = some (some (.ref f))) (t1 : PySem.W.typeIn K (.ref f) = some (.type "function"))
    (l1 : K.lookup f = some ⟨oc, od, .func (PySem.W.fnOf "__init__" qual (defArgs st) (defBody st) (defScope st) (.ref T) kV doc pm an cdv ct), osl⟩) (c1 : PySem.W.codeIn K cdv qual = true) (k1 : PySem.W.keepIn K (.ref f) = true) (lT : K.lookup T = some oT)
    (kC : PySem.W.keepIn K (.ref C) = true) (eC : PySem.W.subIn K (.ref C) (.type "BaseException") = some true) (tC : PySem.W.typeIn K (.ref C) = some (.type "type")) (hC : PySem.W.hasDictIn K C = true)
    (ha : PySem.W.findIn K (.ref C) "__class__" = some (some (.builtin "object.__class__"))) (hn : PySem.W.specialIn K (.builtin "object.__class__") "__get__" = some (some (.builtin "getset_descriptor.__get__"))) (ht : PySem.W.takesIn K (.builtin "object.__class__") = some true) (hm : PySem.W.mroIn K C (.type "object") = some true)
    (hbm : PySem.HandSPX.refsVE bm = true) (dT : oT.data = .seq #[.none] n) (hb : defBody st = initBody q1 q2 q3 q4) (sc : FnScope ["self", "value"] ["self", "value"] (defScope st)) (v0 : Vis (defScope st) "self") (v1 : Vis (defScope st) "value")
    (hbind : ∀ (T : Addr) (kV doc pm : Value) (an : Option Addr) (cdv ct : Value) (us its : List Value), us.length = 2 → its.length = 1 →
      ∃ k, bindArgs (PySem.W.fnOf "__init__" qual (defArgs st) (defBody st) (defScope st) (.ref T) kV doc pm an cdv ct) ⟨us, []⟩ = seqItems? (.ref T) >>= k ∧ k (some its.toArray) = pure ((["self", "value"] : List Str).zip (us ++ its.drop 1)))
    (X : K.In h) (G : h.Ns mainGlobals mg) : ∀ P w base, ErrK P w K mg base x C := fun P w base => by
  have F : FunD K "__init__" qual (defArgs st) (defBody st) (defScope st) [.non] [] f _ := ⟨⟨oc, od, _, kV, doc, pm, an, cdv, ct, osl, rfl, l1, c1, .inr ⟨by simp, T, oT, [.none], n, rfl, lT, dT, .cons rfl .nil⟩, .inl rfl⟩, k1⟩
  have E : ErrC K C f := ⟨⟨⟨nm, q, N, bs, bm, sn, sub, ab, col, dd, m0, m1, m2, m3, m5, xL, hbm⟩, sa, eC, tC, kC⟩, ⟨ga, gg, eC, hC⟩, nb, a1, t1, ha, hn, ht, hm⟩
  obtain ⟨ds, hv, hbd⟩ := F.binds1 (ps := ["self", "value"]) 2 1 (by simp) rfl hbind
  cases hv
  exact ⟨⟨f, _, E, err_fn F E hb sc v0 v1, hbd⟩, PySem.W.mg_of X G aC⟩
end
/-- the end: what the law's def promises -/
abbrev spLaw (K : PySem.W.Frag) : Sp := ProP K (T := List Int) (fun ns => [.rd (ns.map D.int)]) (fun ns => ns.length ≤ 63) (fun _ d => d = .bl true) (fun _ _ _ => False)
theorem walk {l : PySem.W.OpenLaw} {k : Nat} {q : Program} {loose : List Str} {XP : (Str → Option Value) → Heap → Prop} {YP : World → Heap → Prop} {d : DefRec} {K : Params → PySem.W.Frag} (hn : l.most = some 63) (hdf : d.params.defaults = []) (hr : Room k callerA)
    (hY : ∀ (w : World) (h : Heap), YP w h → (K w.params).In h)
    (F : ∀ (w : World) (mg : Str → Option Value) (fa : Addr) (h : Heap), (K w.params).In h → h.Ns mainGlobals mg → mg d.name = some (.ref fa) →
      ∃ fd : FuncData, (∀ (s : Shared) (u : Value), BindsTo s fd ⟨[u], []⟩ [("script", u)]) ∧ ∀ base : Heap, (K w.params).In base → base.Ns mainGlobals mg →
        FnOk l.prog w (K w.params) mg base (L2.CX l.prog w) k fa fd ["script"] (spLaw (K w.params))) :
    PySem.W.WalkO q loose XP YP l.row.toRowW d [] (fun f vs => PySem.call f vs) :=
  L2.walk_of (n := 63) (k := k) (x := "script") (CX := fun w => L2.CX l.prog w) (sp := fun w => spLaw (K w.params)) hn (by decide) hdf hr hY F
    (fun w H a ns hl _ hS => by
      have m : Mem (K w.params) ⟨[], H, H⟩ [] H H [] := ⟨Ex.refl _, Ex.refl _, ⟨[], rfl, fun _ h => by cases h⟩, fun _ h => .inl h, fun _ _ _ h => h, fun k a c h _ => by simp at h, rfl, List.nodup_nil, fun _ h => by cases h⟩
      have e : ns.map D.int = (ns.map V.int).map D.v := by rw [List.map_map]; rfl
      refine ⟨ns, [], H, hl, m, .cons (.rd hS (by rw [e]; exact RpL.vals _)) .nil, fun v d B G' H' μ _ r ⟨_, hd⟩ => ?_, fun _ _ _ _ _ _ _ _ _ _ _ _ z => z⟩
      subst hd
      exact r.vOf)
    fun _ H s e s' ⟨_, _, _, _, _, _, _, _, _, _, _, _, z⟩ => z
end PA

set_option Elab.async false
set_option linter.all false
set_option maxRecDepth 100000
set_option maxHeartbeats 2000000
/-! PbNew: more that stays open; keywords; calls of a slot within a try; dicts written out and compared. -/
namespace PA
open PySem L2
section
variable {K : PySem.W.Frag} {S : Bs} {δ : Sl} {μ : List Cell} {ta tb te : TE} {C : D → List Cell → Prop}
theorem put_own {A : List Addr} {G H : Hp} {p : Addr} {xs : List V} {l : List D} {Q : VK} (m : Mem K S A G H μ) (hp : H p = none) (r : RpL K A G l xs)
    (q : ∀ v d A' G' H' μ', Mem K S A' G' H' μ' → Nw A G A' G' → Rp K A' G' d v → C d μ' → Q v H') (k : C (.own μ.length) (μ ++ [.lst l])) : Q (.ref p) (upd H p (.lst xs)) := by
  refine q _ _ (A ++ [p]) G _ _ (m.opened hp r) ⟨⟨[p], rfl⟩, Ex.refl _⟩ (.own ?_) k
  rw [← m.len, List.getElem?_append_right (Nat.le_refl _), Nat.sub_self]
  rfl
/-- x[::-1], kept open -/
theorem ee_revO (h : EE K S te δ μ fun d μ1 => ∃ l, LstD μ1 d l ∧ C (.own μ1.length) (μ1 ++ [.lst l.reverse])) : EE K S (tRevL K te) δ μ C := fun A G H σ a Q q =>
  h A G H σ a _ fun v d A1 G1 H1 μ1 m1 n1 r1 ⟨l, e, c⟩ => by
    obtain ⟨b, xs, ev, hs, r⟩ := e.at' m1 r1
    subst ev
    exact ⟨b, xs, rfl, hs, fun p hp => put_own m1 hp r.reverse (fun v d A' G' H' μ' m n => q v d A' G' H' μ' m (n1.trans n)) c⟩
/-- x + y, kept open -/
theorem oo_addLO {l m : List D} (hz : l.length + m.length ≤ 10000000) (k : C (.own μ.length) (μ ++ [.lst (l ++ m)])) : OO K S (rPlus K) (.lst l) (.lst m) μ C := fun A G H u w me r1 r2 Q q => by
  cases r1 with
  | lst h1 s1 =>
    cases r2 with
    | lst h2 s2 => exact .inr (.inr (.inl ⟨_, _, _, _, rfl, rfl, me.ex _ _ h1, me.ex _ _ h2, small (by rw [← s1.len, ← s2.len]; exact hz), fun p hp => put_own me hp (s1.append s2) q k⟩))
/-- f(x=..): as f(..) -/
theorem ee_kw1 {sp : Sp} {E : XK} (h : EE K S (tCall sp [] E (tCons te tNil)) δ μ C) : EE K S (tCallP sp [0] 1 E (tCons te tNil)) δ μ C := fun A G H σ a Q q => by
  have z := h A G H σ a Q q
  have e : (fun (v : V) (H1 : Hp) => sp ([v] ++ []) H1 Q E) = fun v H1 => [v].length = 1 ∧ sp (permL [0] [v]) H1 Q E := by
    funext v H1
    show sp [v] H1 Q E = (1 = 1 ∧ sp [v] H1 Q E)
    simp
  have z2 : te σ H (fun v H1 => sp ([v] ++ []) H1 Q E) := z
  rw [e] at z2
  exact z2
/-! ### a call out of a slot, within a try -/
theorem ex_callA {ta : TA} {CE : Sl → Addr → D → List Cell → Prop} {T : Type} {cel : T → List Cell} {arg : T → List D} {pre : T → Prop} {post : T → D → List Cell → Prop} {exc : T → Addr → D → List Cell → Prop} {i : Nat} {Sg : Addr → Sp → Prop} {f : Addr} (hs : List Nat) (hi : δ[i]? = some (some (.v (.ref f)))) (hS : Sg f (Pro K cel arg pre post exc))
    (h : EA K S ta δ μ fun ds μ1 => ∃ t : T, pre t ∧ hs.Nodup ∧ (∀ k ∈ hs, k < μ1.length) ∧ cel t = hs.map (fun k => μ1.getD k .off) ∧ cellsLt 0 (cel t) = true ∧ D.hsL (fun k => hs.contains k) ds = true ∧ D.renL (fun k => hs.idxOf k) ds = arg t ∧
      (∀ d ν n, post t d ν → ν.length = n → d.lt n = true → cellsLt n ν = true → hs.length ≤ n → C (d.ren (back hs μ1.length)) (behindC hs μ1.length ν μ1)) ∧ ∀ c d ν, exc t c d ν → ν.length = hs.length → d.lt hs.length = true → cellsLt hs.length ν = true → CE δ c (d.ren (back hs μ1.length)) (behindC hs μ1.length ν μ1)) :
    EX K S (fun W => tCallA' i Sg (WE W) ta) δ μ C CE := fun A G H σ a W wx Q q => by
  obtain ⟨v0, hv0, r0⟩ := a.env.get hi
  have ev := r0.vOf
  subst ev
  refine ⟨f, _, hv0, hS, h A G H σ a _ fun vs ds A1 G1 H1 μ1 m1 n1 r1 ⟨t, hp, hn, hlt, hcel, hcl, hh, ha, hC, hX⟩ => ?_⟩
  have hltA : ∀ k ∈ hs, k < A1.length := fun k hk => by rw [m1.len]; exact hlt k hk
  have rd : RpL K (hs.map fun k => A1.getD k 0) G1 (arg t) vs := by
    rw [← ha]
    exact r1.ren (hand_at hltA) hh
  have hm := m1.hand hn hlt (by rw [← hcel]; exact hcl)
  rw [← hcel] at hm
  refine ⟨t, _, G1, hp, hm, rd, fun v d B G' H' ν f r c => ?_, fun c dx u d G' H' ν f f1 f2 f3 r c' => ?_⟩
  · have ma := m1.after hn hlt f
    have hl : ν.length = hs.length + B.length := by
      rw [← f.len, List.length_append, List.length_map]
    have hA : (hs.map (fun k => A1.getD k 0) ++ B).length = ν.length := f.len
    refine q v _ (A1 ++ B) G' H' _ ma (n1.trans ⟨⟨B, rfl⟩, f.exG⟩) (r.ren (back_at hltA) (D.hs_true d)) ?_
    rw [m1.len]
    exact hC d ν _ c rfl (by rw [← hA]; exact r.scope) f.scope (by omega)
  · have f' : Mem K ⟨hs.map fun k => A1.getD k 0, G1, H1⟩ ((hs.map fun k => A1.getD k 0) ++ []) G' H' ν := by
      rw [List.append_nil]
      exact f
    have ma := m1.after hn hlt f'
    have hl : ν.length = hs.length := by
      rw [← f.len, List.length_map]
    have r' : Rp K (A1 ++ []) G' (d.ren (back hs A1.length)) u := (by
      have r0 : Rp K ((hs.map fun k => A1.getD k 0) ++ []) G' d u := by
        rw [List.append_nil]
        exact r
      exact r0.ren (back_at hltA) (D.hs_true d))
    have hs0 : S.H dx = none := by
      cases qq : S.H dx with
      | none => rfl
      | some o =>
        by_cases ha' : dx ∈ S.A
        · obtain ⟨B0, hB0, h0⟩ := m1.pre
          exact absurd f1 (m1.al dx (by rw [hB0]; exact List.mem_append_left _ ha'))
        · have z := m1.keep dx o ha' qq
          rw [f1] at z
          cases z
    rw [m1.len] at ma r'
    have hA2 : (hs.map fun k => A1.getD k 0).length = hs.length := List.length_map _
    have n2 : Nw A G (A1 ++ []) G' := n1.trans ⟨⟨[], rfl⟩, f.exG⟩
    exact wx _ G' H' σ δ _ c dx u _ ⟨ma, n2.en a.env⟩ n2 hs0 f2 f3 r' (hX c d ν c' hl (by rw [← hA2]; exact r.scope) (by rw [← hl]; exact f.scope))
/-! ### dicts -/
/-- {k: x} -/
theorem ee_disp1 {k : Key} {x : V} (c : C (.dic [k] [.v x]) μ) : EE K S (tDisp [(tC (kV k), tC x)]) δ μ C := fun A G H σ a Q q p hp => by
  refine ⟨upd_same, [(k, x)], rfl, by show 1 ≤ 15; decide, ?_⟩
  have e : upd (upd H p (.dK [])) p (.dK (mergeK [] [(k, x)])) = upd H p (.dK [(k, x)]) := by
    funext b
    by_cases e : b = p
    · subst e
      rw [upd_same, upd_same]
      rfl
    · rw [upd_ne e, upd_ne e, upd_ne e]
  rw [e]
  exact q _ _ A (upd G p (.dK [(k, x)])) _ μ (a.m.laid hp) (.of (Ex.new (a.m.ex.free hp))) (.dic (xs := [x]) rfl upd_same (.cons (.v x) .nil)) c
/-- a dict that is what it is: its values flat, its keys found -/
def DicOk (ks : List Key) (l : List D) : Prop := ∃ vs : List V, l = vs.map D.v ∧ ks.length = vs.length ∧ ∀ p ∈ ks.zip vs, valV (ks.zip vs) p.1 = some p.2 ∧ flatB p.2 = true
theorem oo_eqDic {ks : List Key} {l : List D} (h : DicOk ks l) (k : C (.bl true) μ) : OO K S (rEqU K) (.dic ks l) (.dic ks l) μ C := fun A G H u w m r1 r2 Q q => by
  obtain ⟨vs, rfl, hl, hp⟩ := h
  cases r1 with
  | dic h1 h2 h3 =>
    cases r2 with
    | dic g1 g2 g3 =>
      have e1 := RpL.of_vals h3
      have e2 := RpL.of_vals g3
      subst e1 e2
      exact .inr (.inr ⟨_, _, _, _, rfl, rfl, m.ex _ _ h2, m.ex _ _ g2, rfl, hp, q _ _ A G H μ m Nw.refl (.v _) k⟩)
end
end PA

set_option Elab.async false
set_option linter.all false
set_option maxRecDepth 100000
set_option maxHeartbeats 2000000
/-! PbBook: extend by a tuple, startswith, +=, max of a list, list times int, membership in open lists, open lists compared. -/
open PySem PySem.AutoSeq1 in
set_option maxRecDepth 8000 in
/-- list.extend of any tuple that stands in the heap -/
theorem PA.extend_tup {a b : Addr} {us ws : Array Value} {n m : Nat} {dd : Option Addr} {sl : Array (Option Value)} (door : ¬(!us.isEmpty && Builtin.List.listTooLong (us.size + ws.size)) = true) (z1 : us.size ≤ sizeLine) (z2 : us.size + ws.size ≤ sizeLine + 1) :
    Meets (Builtin.«list.extend» ⟨[.ref a, .ref b], []⟩) (fun _ R s => s.heap.get? a = some ⟨.type "list", none, .seq us n, #[]⟩ ∧
      s.heap.get? b = some ⟨.type "tuple", dd, .seq ws m, sl⟩ ∧ R (.ok (.ret Value.none)) { s with heap := s.heap.update a (Obj.mapSeq (· ++ ws)) }) := by
  refine .of_wp fun prog w A R s h => ?_
  obtain ⟨heap, gens, drawn, toks, osst⟩ := s
  obtain ⟨ha, hb, fin⟩ := h
  have q1 := idx_int
  have q2 := sub_tuple_list
  have q3 := sub_tuple_tuple
  have q4 := sub_list_list
  have q5 := sub_list_tuple
  have zz : (us ++ ws).size ≤ sizeLine + 1 := Array.size_append ▸ z2
  wp_walk using (wpAny_updateSeq ha rfl (hz := z1) (_hz' := zz)), wpAny_loadPart' ha, wpAny_loadPart' hb
  exact ⟨_, rfl, fin⟩
namespace PA
open PySem L2
section
variable {X : Cx}
def rExtT (K : PySem.W.Frag) : V → List V → Hp → VK → Prop := fun x vs H Q => ∃ l b xs zs, x = .ref l ∧ vs = [.ref b] ∧ H l = some (.lst xs) ∧ SqT K H b zs ∧ xs.length + zs.length ≤ sizeLine ∧ Q .non (upd H l (.lst (xs ++ zs)))
theorem mt_extT : MtR X "list.extend" (rExtT X.K) := by
  intro pins s σ H x vs v us Q I rx rv h
  obtain ⟨l, b, xs, zs, rfl, rfl, hH, hB, hz, q⟩ := h
  cases rx
  obtain ⟨u, rfl, ru⟩ := rv.one
  cases ru
  obtain ⟨z, its, n, r, hl, e⟩ := I.lstM hH
  obtain ⟨its2, r2, ⟨⟨cls, dd, data, sl⟩, e2, hc, n2, hd⟩, hl2⟩ := I.tuple hB
  simp only at hc hd
  subst hc hd
  have l2 := r2.length
  have hsz : its.toArray.size + its2.toArray.size ≤ sizeLine := by rw [List.size_toArray, List.size_toArray]; omega
  have hlong : ¬ (!its.toArray.isEmpty && Builtin.List.listTooLong (its.toArray.size + its2.toArray.size)) = true := by
    rw [notLongL hsz, Bool.and_false]
    exact Bool.false_ne_true
  refine call_meets PySem.F.slot_list_extend ⟨_, e, rfl⟩ PySem.F.entry_list_extend (PySem.F.args_list_extend_2 _ _) (PA.extend_tup hlong (by rw [List.size_toArray]; omega) (by omega)) ⟨e, e2, ?_⟩
  refine ⟨.non, _, I.lset (its' := its ++ its2) hH e (by simp) (r.append r2) ?_, rfl, q⟩
  rw [List.length_append]
  omega
def rExtU (K : PySem.W.Frag) : V → List V → Hp → VK → Prop := fun x vs H Q => rExtend x vs H Q ∨ rExtT K x vs H Q
theorem mt_extU : MtR X "list.extend" (rExtU X.K) := MtR.or mt_extend mt_extT
def rStarts : V → List V → Hp → VK → Prop := fun x xs H Q => ∃ a b, x = .str a ∧ xs = [.str b] ∧ Q (.bl (Txt.startswith a b)) H
def rMaxU (K : PySem.W.Frag) : List V → Hp → VK → Prop := rMax K
end
section
variable {K : PySem.W.Frag} {S : Bs} {δ : Sl} {μ : List Cell} {ta tb te : TE} {C : D → List Cell → Prop}
/-- an open list is extended by a tuple -/
theorem mm_extT {k : Nat} {l m' : List D} (hc : μ[k]? = some (.lst l)) (hz : l.length + m'.length ≤ 10000000) (c : C .non (μ.set k (.lst (l ++ m')))) : MM K S (rExtU K) (.own k) [.tup m'] μ C := fun A G H u vs m r1 r2 Q q => by
  cases r1 with
  | @own _ b hA =>
    cases r2 with
    | cons r2 rn =>
      cases rn
      cases r2 with
      | tup h2 s2 =>
        obtain ⟨g, xs, hx, rl⟩ := m.cel k b _ hA hc
        exact .inr ⟨b, _, xs, _, rfl, rfl, hx, ex_t m.ex h2.sq, small (by rw [← rl.len, ← s2.len]; exact hz), q _ .non A G _ _ (m.wrote hA hc (rl.append s2)) Nw.refl (.v _) c⟩
theorem mm_starts {a b : Str} (c : C (.bl (Txt.startswith a b)) μ) : MM K S rStarts (.str a) [.str b] μ C := mm_vals (fun _ _ q => ⟨a, b, rfl, rfl, q⟩) c
/-- x += y, ints -/
theorem se_aug {i : Nat} {x : Int} {E : Cn} (hx : δ[i]? = some (some (.int x))) (h : EE K S te δ μ fun d μ1 => ∃ y : Int, d = .int y ∧ E.nx (δ.set i (some (.int (x + y)))) μ1) : SE K S (tAug i te (ipI fun i j => i + j)) δ μ E := fun A G H σ a F f => by
  obtain ⟨v0, hv0, r0⟩ := a.env.get hx
  have ev := r0.vOf
  subst ev
  refine ⟨_, hv0, h A G H σ a _ fun v d A1 G1 H1 μ1 m1 n1 r1 ⟨y, e, c⟩ => ?_⟩
  subst e
  have ev := r1.vOf
  subst ev
  exact ⟨x, y, rfl, rfl, f.nx A1 G1 H1 _ _ μ1 ⟨m1, En.set (.v _) i (n1.en a.env)⟩ n1 c⟩
/-- max of a list of ints -/
theorem cc_maxL {d : D} {ns : List Int} (h : LstD μ d (ns.map D.int)) (h0 : 0 < ns.length) (k : ∀ m, m ∈ ns → (∀ y ∈ ns, y ≤ m) → C (.int m) μ) : CC K S (rMax K) [d] μ C := fun A G H vs m r1 Q q => by
  cases r1 with
  | cons r1 rn =>
    cases rn
    obtain ⟨a, xs, e, hs, r⟩ := h.at' m r1
    subst e
    have e2 := ints_rel r
    subst e2
    exact ⟨a, ns, rfl, hs, h0, fun z hz hy => q _ _ A G H μ m Nw.refl (.v _) (k z hz hy)⟩
theorem cc_intB {b : Bool} (k : C (.int (if b then 1 else 0)) μ) : CC K S (fun xs H Q => (∃ i, xs = [.int i] ∧ Q (.int i) H) ∨ ∃ k, xs = [.bl k] ∧ Q (.int (if k then 1 else 0)) H) [.bl b] μ C := cc_one (fun _ _ q => .inr ⟨b, rfl, q⟩) k
theorem rep_rel {A : List Addr} {G : Hp} {l : List D} {xs : List V} (r : RpL K A G l xs) : ∀ n : Nat, RpL K A G (List.replicate n l).flatten (List.replicate n xs).flatten
  | 0 => .nil
  | n + 1 => by
    rw [List.replicate_succ, List.replicate_succ, List.flatten_cons, List.flatten_cons]
    exact r.append (rep_rel r n)
/-- l * n -/
theorem oo_repL {l : List D} {n : Nat} (h1 : n ≤ 1000000) (hz : l.length * n ≤ 10000000) (k : C (.lst (List.replicate n l).flatten) μ) : OO K S rTimes (.lst l) (.int (n : Int)) μ C := fun A G H u w m r1 r2 Q q => by
  have e2 := r2.vOf
  subst e2
  cases r1 with
  | lst h1' s1 =>
    refine .inr (.inl ⟨_, _, _, rfl, rfl, m.ex _ _ h1', by omega, by omega, small (by rw [← s1.len, Int.toNat_natCast]; exact hz), fun p hp => by
    rw [Int.toNat_natCast]
    exact put_lst m hp (rep_rel s1 _) q k⟩)
/-- x in, not in an open list of flat values -/
theorem oo_niO {x : V} {n : Nat} {ys : List V} (hc : μ[n]? = some (.lst (ys.map .v))) (hx : flatV x = true) (hy : ys.all flatV = true) (k : C (.bl (!inV x ys)) μ) : OO K S (rNiU K) (.v x) (.own n) μ C := fun A G H u w m r1 r2 Q q => by
  have e1 := r1.vOf
  subst e1
  cases r2 with
  | @own _ b hA =>
    obtain ⟨g, xs, hxs, rl⟩ := m.cel n b _ hA hc
    have e2 := RpL.of_vals rl
    subst e2
    exact .inl ⟨b, _, rfl, .inl (lst_sq hxs), hx, hy, q _ _ A G H μ m Nw.refl (.v _) k⟩
/-- x not in a list of flat values -/
theorem oo_niL {x : V} {ys : List V} (hx : flatV x = true) (hy : ys.all flatV = true) (k : C (.bl (!inV x ys)) μ) : OO K S (rNiU K) (.v x) (.lst (ys.map .v)) μ C := fun A G H u w m r1 r2 Q q => by
  have e1 := r1.vOf
  subst e1
  cases r2 with
  | lst h s =>
    have e2 := RpL.of_vals s
    subst e2
    exact .inl ⟨_, _, rfl, .inl (lst_sq (m.ex _ _ h)), hx, hy, q _ _ A G H μ m Nw.refl (.v _) k⟩
/-- f(x=i, y=j) of two slots, told the other way round -/
theorem ee_kw2 {sp : Sp} {E : XK} {i j : Nat} (h : EE K S (tCall sp [] E (tCons (tVar j) (tCons (tVar i) tNil))) δ μ C) : EE K S (tCallP sp [1, 0] 2 E (tCons (tVar i) (tCons (tVar j) tNil))) δ μ C := fun A G H σ a Q q => by
  obtain ⟨w, hw, v, hv, z⟩ := h A G H σ a Q q
  exact ⟨v, hv, w, hw, rfl, z⟩
/-- an open list compared -/
theorem oo_neO {n : Nat} {l : List D} {y : D} {p q : PyData} (hc : μ[n]? = some (.lst l)) (h1 : D.py (.lst l) = some p) (h2 : D.py y = some q) (s1 : SeqAt.shaped p = true) (s2 : SeqAt.shaped q = true) (k : C (.bl (!PyData.eqv p q)) μ) : OO K S (rNeU K) (.own n) y μ C := fun A G H u w m r1 r2 Q qq => by
  cases r1 with
  | @own _ b hA =>
    obtain ⟨g, xs, hxs, rl⟩ := m.cel n b _ hA hc
    have z : (D.pyAll l).map PyData.list = some p := h1
    cases e : D.pyAll l with
    | none => rw [e] at z; cases z
    | some ps =>
      rw [e] at z
      cases z
      exact .inr ⟨_, q, .lst (lst_sq hxs) ((rl.mono0 m.ex).dp e), (r2.mono0 m.ex).dp h2, s1, s2, qq _ _ A G H μ m Nw.refl (.v _) k⟩
theorem oo_eqO {n : Nat} {l : List D} {y : D} {p q : PyData} (hc : μ[n]? = some (.lst l)) (h1 : D.py (.lst l) = some p) (h2 : D.py y = some q) (s1 : SeqAt.shaped p = true) (s2 : SeqAt.shaped q = true) (k : C (.bl (PyData.eqv p q)) μ) : OO K S (rEqU K) (.own n) y μ C := fun A G H u w m r1 r2 Q qq => by
  cases r1 with
  | @own _ b hA =>
    obtain ⟨g, xs, hxs, rl⟩ := m.cel n b _ hA hc
    have z : (D.pyAll l).map PyData.list = some p := h1
    cases e : D.pyAll l with
    | none => rw [e] at z; cases z
    | some ps =>
      rw [e] at z
      cases z
      exact .inr (.inl ⟨_, q, .lst (lst_sq hxs) ((rl.mono0 m.ex).dp e), (r2.mono0 m.ex).dp h2, s1, s2, qq _ _ A G H μ m Nw.refl (.v _) k⟩)
end
end PA

set_option Elab.async false
set_option linter.all false
set_option maxRecDepth 100000
set_option maxHeartbeats 2000000
/-! PbSlice: x[i:j] = ys, x an open list. -/
namespace PA
open PySem L2
/-- o[lo:hi] = .. -/
def gSlS (to tl th : TE) : TG := fun v σ H Q => to σ H fun x H1 => tl σ H1 fun a H2 => th σ H2 fun c H3 =>
  ∃ (l b : Addr) (xs ys : List V) (i j : Int), x = .ref l ∧ v = .ref b ∧ a = .int i ∧ c = .int j ∧ H3 l = some (.lst xs) ∧ H3 b = some (.lst ys) ∧ l ≠ b ∧ 0 ≤ i ∧ i ≤ j ∧ j ≤ xs.length ∧ xs.length + ys.length ≤ sizeLine ∧ Q σ (upd H3 l (.lst (xs.take i.toNat ++ ys ++ xs.drop j.toNat)))
section
variable {X : Cx}
theorem pg_slS {o lo hi : Expr} {to tl th : TE} {p2 pos : Pos} (ho : PE X o to) (hl : PE X lo tl) (hh : PE X hi th)
    (ha : ∀ v, assign (.Subscript o (.Slice (some lo) (some hi) none p2) pos) X.env v = (do
      let xo ← holding [v] (eval o X.env)
      let xi ← holding [v, xo] (eval (.Slice (some lo) (some hi) none p2) X.env)
      standAt pos
      holding [v, xo, xi] (setItem xo xi v)
      release [xi, v, xo] []) := by intro _; rfl) : PG X (.Subscript o (.Slice (some lo) (some hi) none p2) pos) (gSlS to tl th) := by
  refine ⟨fun pins s σ H v u Q I r h => ?_⟩
  rw [ha]
  refine wpAny_bind (wpAny_holding (thn (ho.run pins s σ H _ I h) fun xo s1 ⟨x, H1, I1, r1, q1⟩ => ?_))
  refine wpAny_bind (wpAny_holding ?_)
  refine wpAny_Slice ?_
  rw [evalPart_some]
  refine thn (hl.run pins s1 σ H1 _ I1 q1) fun vl s2 ⟨a, H2, I2, ra, q2⟩ => ?_
  rw [evalPart_some]
  refine thn (hh.run pins s2 σ H2 _ I2 q2) fun vu s3 ⟨c, H3, I3, rc, q3⟩ => ?_
  obtain ⟨l, b, xs, ys, i, j, rfl, rfl, rfl, rfl, e1, e2, ne, h0, hij, hj, hz, q⟩ := q3
  rw [evalPart_none]
  refine wpAny_pure ?_
  have I4 : Inv X pins σ H3 { s3 with heap := s3.heap.push { cls := .type "slice", data := .fields #[vl, vu, .none] } } := I3.kept (t' := s3.toks) fun b ob q => Heap.get?_push_of_some _ q
  obtain rfl : xo = Value.ref l := r1
  obtain rfl : u = Value.ref b := r
  refine wpAny_bind (wpAny_standAt (wpAny_bind (wpAny_holding ?_)))
  refine set_slice (sl := s3.heap.objs.size) I4 e1 e2 ne (Heap.IsSliceOf.new ..) ra rc h0 hij hj hz fun s5 I5 => ?_
  exact wpAny_release ⟨σ, _, I5, q⟩
section
variable {K : PySem.W.Frag} {S : Bs} {δ : Sl} {μ : List Cell} {to tl th : TE} {C : Sl → List Cell → Prop}
/-- x[i:j] = m, x an open list -/
theorem ge_slS {m : List D} (h : EE K S to δ μ fun x μ1 => EE K S tl δ μ1 fun y μ2 => EE K S th δ μ2 fun z μ3 => ∃ (k i j : Nat) (l : List D), x = .own k ∧ y = .int (i : Int) ∧ z = .int (j : Int) ∧ μ3[k]? = some (.lst l) ∧ i ≤ j ∧ j ≤ l.length ∧ l.length + m.length ≤ 10000000 ∧ C δ (μ3.set k (.lst (l.take i ++ m ++ l.drop j)))) : GE K S (gSlS to tl th) (.lst m) δ μ C := fun A G H σ v a r Q q =>
  h A G H σ a _ fun w1 x A1 G1 H1 μ1 m1 n1 r1 h1 => h1 A1 G1 H1 σ ⟨m1, n1.en a.env⟩ _ fun w2 y A2 G2 H2 μ2 m2 n2 r2 h2 => h2 A2 G2 H2 σ ⟨m2, (n1.trans n2).en a.env⟩ _ fun w3 z A3 G3 H3 μ3 m3 n3 r3 ⟨k, i, j, l, ex, ey, ez, hc, hij, hj, hz, c⟩ => by
    subst ex ey ez
    have ev2 := r2.vOf
    subst ev2
    have ev3 := r3.vOf
    subst ev3
    cases r1 with
    | @own _ b hA =>
      have hA3 : A3[k]? = some b := by
        cases ((n2.trans n3).rp (.own hA : Rp K A1 G1 (.own k) (.ref b))) with
        | own h => exact h
      obtain ⟨g, xs, hx, rl⟩ := m3.cel k b _ hA3 hc
      have nn := (n1.trans n2).trans n3
      cases r with
      | @lst _ a0 ys hg ry =>
        have hg3 := nn.ex _ _ hg
        have ne : b ≠ a0 := fun e => by
          subst e
          rw [g] at hg3
          cases hg3
        have hl := rl.len
        have hl2 := ry.len
        refine ⟨b, a0, xs, ys, (i : Int), (j : Int), rfl, rfl, rfl, rfl, hx, m3.ex _ _ hg3, ne, by omega, by omega, by omega, small (by omega), ?_⟩
        rw [Int.toNat_natCast, Int.toNat_natCast]
        exact q A3 G3 _ σ δ _ ⟨m3.wrote hA3 hc ((((rl.take i)).append (nn.rpl ry)).append (rl.drop j)), nn.en a.env⟩ nn c
end
end
end PA

set_option Elab.async false
set_option linter.all false
set_option maxRecDepth 100000
set_option maxHeartbeats 2000000
/-! PbTwo: [e for .. in .. if .. for .. in .. if ..]. -/
namespace PA
open PySem L2
section
variable {K : PySem.W.Frag} {S : Bs} {δ : Sl} {μ : List Cell} {wi wi1 : TI} {g g1 : TG} {t t1 : TT} {te : TE}
/-- nothing that stood is changed; by what the list holds so far -/
theorem ee_lc2 {vs vs1 : List Nat} {C : D → List Cell → Prop} (h : IE K S wi δ μ fun l P μ1 => P = yes ∧ ∃ I : Nat → List D → Prop, I 0 [] ∧ (∀ i acc, I i acc → D.ltL μ1.length acc = true) ∧
      (∀ (i : Nat) x acc, l[i]? = some x → I i acc → GW K S g vs x (wipeS δ vs) (μ1 ++ [.lst acc]) fun δ2 μ2 => ET K S t δ2 μ2 fun b μ3 => μ3 = μ1 ++ [.lst acc] ∧ (b = false → I (i + 1) acc) ∧ (b = true →
        IE K S wi1 δ2 μ3 fun l1 P1 μ4 => P1 = yes ∧ μ4 = μ1 ++ [.lst acc] ∧ ∃ I1 : Nat → List D → Prop, I1 0 acc ∧
          (∀ (j : Nat) y acc', l1[j]? = some y → I1 j acc' → GW K S g1 vs1 y (wipeS δ2 vs1) (μ1 ++ [.lst acc']) fun δ3 μ5 => ET K S t1 δ3 μ5 fun b μ6 => μ6 = μ1 ++ [.lst acc'] ∧ (b = false → I1 (j + 1) acc') ∧ (b = true → EE K S te δ3 μ6 fun d μ7 => μ7 = μ1 ++ [.lst acc'] ∧ acc'.length < 10000000 ∧ I1 (j + 1) (acc' ++ [d]))) ∧
          ∀ acc', I1 l1.length acc' → I (i + 1) acc')) ∧
      ∀ acc, I l.length acc → C (.lst acc) μ1) : EE K S (tLc2 wi g t wi1 g1 t1 te vs vs1) δ μ C := fun A G H σ a Q q =>
  h A G H σ a _ fun J l P A1 G1 H1 μ1 m1 n1 gv ⟨hP, I, i0, il, it, ie⟩ => by
    subst hP
    intro p hp
    have hlen0 : A1.length = μ1.length := m1.len
    have hA : (A1 ++ [p])[A1.length]? = some p := by rw [List.getElem?_append_right (Nat.le_refl _), Nat.sub_self]; rfl
    have same : ∀ {A5 : List Addr} {G3 G5 H5 : Hp} {acc' : List D}, Mem K S A5 G5 H5 (μ1 ++ [.lst acc']) → Nw (A1 ++ [p]) G3 A5 G5 → A5 = A1 ++ [p] := fun {A5 G3 G5 H5 acc'} m5 n5 => by
      obtain ⟨⟨B, hB⟩, _⟩ := n5
      have z := m5.len
      rw [hB] at z
      simp only [List.length_append, List.length_singleton] at z
      have hb : B.length = 0 := by omega
      have hb2 : B = [] := List.length_eq_zero_iff.mp hb
      rw [hB, hb2, List.append_nil]
    refine ⟨fun i n H' => n = l.length - i ∧ i ≤ l.length ∧ ∃ G2 acc, Mem K S (A1 ++ [p]) G2 H' (μ1 ++ [.lst acc]) ∧ Ex G1 G2 ∧ I i acc, ⟨l.length, by omega, Nat.zero_le _, G1, [], m1.opened hp .nil, Ex.refl _, i0⟩, ?_⟩
    rintro i n H' ⟨hn, hi, G2, acc, m2, e2, w⟩
    have n2 : Nw A1 G1 (A1 ++ [p]) G2 := ⟨⟨[p], rfl⟩, e2⟩
    obtain ⟨g1', g2⟩ := gv i _ G2 H' _ m2 n2 trivial
    have hS : S.A.length ≤ A1.length := by
      obtain ⟨B, hB, _⟩ := m1.pre
      rw [hB, List.length_append]
      omega
    by_cases hlt : i < l.length
    · obtain ⟨x, hx⟩ : ∃ x, l[i]? = some x := ⟨l[i], by simp [hlt]⟩
      obtain ⟨go, yl⟩ := g1' x hx
      refine .inr ⟨go, fun H3 => ∃ G3 acc3, Mem K S (A1 ++ [p]) G3 H3 (μ1 ++ [.lst acc3]) ∧ Ex G1 G3 ∧ I (i + 1) acc3, fun H3 w3 => ⟨l.length - (i + 1), by omega, rfl, hlt, w3⟩, fun y H3 hy => ?_⟩
      obtain ⟨G3, m3, e3, r3⟩ := yl y H3 hy
      have n3 : Nw (A1 ++ [p]) G2 (A1 ++ [p]) G3 := .of e3
      have en3 := ((n1.trans n2).trans n3).wipeE a.env vs
      refine it i x acc hx w _ G3 H3 _ y ⟨m3, en3⟩ r3 _ fun A4 G4 H4 σ4 δ4 μ4 a4 n4 hw c => ?_
      refine ⟨by rw [hw, wipe_twice], ?_⟩
      refine c A4 G4 H4 σ4 a4 _ fun b A5 G5 H5 μ5 m5 n5 ⟨eμ, hf, ht⟩ => ?_
      subst eμ
      have eA := same m5 (n4.trans n5)
      subst eA
      cases b with
      | false =>
        rw [if_neg Bool.false_ne_true]
        exact ⟨G5, acc, m5, ((e2.trans e3).trans n4.ex).trans n5.ex, hf rfl⟩
      | true =>
        rw [if_pos rfl]
        have en5 := n5.en a4.env
        refine ht rfl _ G5 H5 σ4 ⟨m5, en5⟩ _ fun J1 l1 P1 A6 G6 H6 μ6 m6 n6 gv1 ⟨hP1, e6, I1, i10, it1, ie1⟩ => ?_
        subst hP1 e6
        have eA := same m6 n6
        subst eA
        refine ⟨fun j k H' => k = l1.length - j ∧ j ≤ l1.length ∧ ∃ G7 acc', Mem K S (A1 ++ [p]) G7 H' (μ1 ++ [.lst acc']) ∧ Ex G6 G7 ∧ I1 j acc', ⟨l1.length, by omega, Nat.zero_le _, G6, acc, m6, Ex.refl _, i10⟩, ?_⟩
        rintro j k H7 ⟨hk, hj, G7, acc', m7, e7, w7⟩
        obtain ⟨g11, g12⟩ := gv1 j _ G7 H7 _ m7 (.of e7) trivial
        have up : Ex G1 G6 := (((e2.trans e3).trans n4.ex).trans n5.ex).trans n6.ex
        by_cases hlt1 : j < l1.length
        · obtain ⟨y1, hy1⟩ : ∃ y1, l1[j]? = some y1 := ⟨l1[j], by simp [hlt1]⟩
          obtain ⟨go1, yl1⟩ := g11 y1 hy1
          refine .inr ⟨go1, fun H8 => ∃ G8 acc8, Mem K S (A1 ++ [p]) G8 H8 (μ1 ++ [.lst acc8]) ∧ Ex G6 G8 ∧ I1 (j + 1) acc8, fun H8 w8 => ⟨l1.length - (j + 1), by omega, rfl, hlt1, w8⟩, fun z H8 hz => ?_⟩
          obtain ⟨G8, m8, e8, r8⟩ := yl1 z H8 hz
          have n8 : Nw (A1 ++ [p]) G5 (A1 ++ [p]) G8 := n6.trans ((Nw.of e7).trans (.of e8))
          refine it1 j y1 acc' hy1 w7 _ G8 H8 _ z ⟨m8, n8.wipeE en5 vs1⟩ r8 _ fun A9 G9 H9 σ9 δ9 μ9 a9 n9 hw9 c9 => ?_
          refine ⟨by rw [hw9, wipe_twice], ?_⟩
          refine c9 A9 G9 H9 σ9 a9 _ fun b1 A10 G10 H10 μ10 m10 n10 ⟨e10, hf1, ht1⟩ => ?_
          subst e10
          have eA := same m10 (n9.trans n10)
          subst eA
          cases b1 with
          | false =>
            rw [if_neg Bool.false_ne_true]
            exact ⟨G10, acc', m10, ((e7.trans e8).trans n9.ex).trans n10.ex, hf1 rfl⟩
          | true =>
            rw [if_pos rfl]
            refine ht1 rfl _ G10 H10 σ9 ⟨m10, n10.en a9.env⟩ _ fun v d A11 G11 H11 μ11 m11 n11 r11 ⟨e11, hz11, w11⟩ => ?_
            subst e11
            have eA := same m11 n11
            subst eA
            have hcc : (μ1 ++ [Cell.lst acc'])[A1.length]? = some (.lst acc') := by rw [hlen0, List.getElem?_append_right (Nat.le_refl _), Nat.sub_self]; rfl
            obtain ⟨gp, xs, hxs, rx⟩ := m11.cel A1.length p _ hA hcc
            refine ⟨xs, hxs, smalr (by rw [← rx.len]; exact hz11), G11, acc' ++ [d], ?_, (((e7.trans e8).trans n9.ex).trans n10.ex).trans n11.ex, w11⟩
            have mw := m11.wrote hA hcc (rx.append (.cons r11 .nil))
            have es : (μ1 ++ [Cell.lst acc']).set A1.length (.lst (acc' ++ [d])) = μ1 ++ [.lst (acc' ++ [d])] := by
              rw [hlen0, List.set_append_right _ _ (Nat.le_refl _), Nat.sub_self]
              rfl
            rw [es] at mw
            exact mw
        · have e : j = l1.length := by omega
          exact .inl ⟨g12 e, G7, acc', m7, up.trans e7, ie1 acc' (by rw [← e]; exact w7)⟩
    · have e : i = l.length := by omega
      refine .inl ⟨g2 e, ?_⟩
      have w3 := il _ _ w
      obtain ⟨xs, hxs, gp, rx, mp⟩ := m2.popShut hS (by rw [hlen0]; exact m1.scope) (by rw [hlen0]; exact w3)
      have ne := Ex.new (o := .lst xs) gp
      exact q (.ref p) (.lst acc) A1 _ H' μ1 mp (n1.trans (.of (e2.trans ne))) (.lst upd_same (rx.mono0 ne)) (ie acc (by rw [← e]; exact w))
/-- .. all there is of the second walk -/
theorem ee_lc2A {vs vs1 : List Nat} {C : D → List Cell → Prop} {f : D → Bool} {m : D → List D} {L : List D} (hL : ((L.filter f).flatMap m).length < 10000000) (hcl : D.ltL 0 ((L.filter f).flatMap m) = true)
    (h : IE K S wi δ μ fun l P μ1 => l = L ∧ P = yes ∧ μ1 = μ)
    (hb : ∀ x acc, x ∈ L → GW K S g vs x (wipeS δ vs) (μ ++ [.lst acc]) fun δ2 μ2 => ET K S t δ2 μ2 fun b μ3 => b = f x ∧ μ3 = μ ++ [.lst acc] ∧ (b = true →
        IE K S wi1 δ2 μ3 fun l1 P1 μ4 => l1 = m x ∧ P1 = yes ∧ μ4 = μ ++ [.lst acc] ∧
          ∀ y acc', y ∈ l1 → GW K S g1 vs1 y (wipeS δ2 vs1) (μ ++ [.lst acc']) fun δ3 μ5 => ET K S t1 δ3 μ5 fun b μ6 => b = true ∧ μ6 = μ ++ [.lst acc'] ∧ EE K S te δ3 μ6 fun d μ7 => d = y ∧ μ7 = μ ++ [.lst acc']))
    (c : C (.lst ((L.filter f).flatMap m)) μ) : EE K S (tLc2 wi g t wi1 g1 t1 te vs vs1) δ μ C := by
  refine ee_lc2 fun A G H σ a R q => h A G H σ a R fun J l P A1 G1 H1 μ1 m1 n1 gv ⟨el, eP, eμ⟩ => q J l P A1 G1 H1 μ1 m1 n1 gv ?_
  subst el eμ
  have tk : ∀ i x, l[i]? = some x → l.take (i + 1) = l.take i ++ [x] := fun i x hx => by rw [List.take_succ, hx]; rfl
  have sub : ∀ i, D.ltL 0 (((l.take i).filter f).flatMap m) = true := fun i => D.ltL_all.mpr fun d hd => by
    obtain ⟨x, hx, hd⟩ := List.mem_flatMap.mp hd
    obtain ⟨h1, h2⟩ := List.mem_filter.mp hx
    exact D.ltL_all.mp hcl d (List.mem_flatMap.mpr ⟨x, List.mem_filter.mpr ⟨List.mem_of_mem_take h1, h2⟩, hd⟩)
  have len : ∀ i x, l[i]? = some x → f x = true → (((l.take i).filter f).flatMap m).length + (m x).length < 10000000 := fun i x hx hf => by
    obtain ⟨hi, e⟩ := List.getElem?_eq_some_iff.mp hx
    have e1 : l = l.take i ++ x :: l.drop (i + 1) := by
      have z := List.drop_eq_getElem_cons hi
      rw [e] at z
      rw [← z, List.take_append_drop]
    have e2 : (((l.take i).filter f).flatMap m ++ (m x ++ ((l.drop (i + 1)).filter f).flatMap m)) = (l.filter f).flatMap m := by
      have e3 : l.filter f = (l.take i).filter f ++ x :: (l.drop (i + 1)).filter f := by
        have z := congrArg (List.filter f) e1
        rw [List.filter_append, List.filter_cons, hf, if_pos rfl] at z
        exact z
      rw [e3, List.flatMap_append, List.flatMap_cons]
    have e4 := congrArg List.length e2
    rw [List.length_append, List.length_append] at e4
    omega
  refine ⟨eP, fun i acc => acc = ((l.take i).filter f).flatMap m, by simp, fun i acc w => by rw [w]; exact D.ltL_mono (Nat.zero_le _) (sub i), fun i x acc hx w => ?_, fun acc w => by rw [w, List.take_length]; exact c⟩
  subst w
  intro A2 G2 H2 σ2 v2 a2 r2 Q2 q2
  refine hb x _ (List.mem_of_getElem? hx) A2 G2 H2 σ2 v2 a2 r2 Q2 fun A3 G3 H3 σ3 δ3 μ3 a3 n3 hw3 c3 => q2 A3 G3 H3 σ3 δ3 μ3 a3 n3 hw3 ?_
  intro A4 G4 H4 σ4 a4 Q4 q4
  refine c3 A4 G4 H4 σ4 a4 Q4 fun b A5 G5 H5 μ5 m5 n5 ⟨h1, h2, h3⟩ => q4 b A5 G5 H5 μ5 m5 n5 ⟨h2, fun hbf => ?_, fun hbt => ?_⟩
  · show ((l.take i).filter f).flatMap m = ((l.take (i + 1)).filter f).flatMap m
    rw [tk i x hx, List.filter_append, List.filter_cons, ← h1, hbf, if_neg Bool.false_ne_true, List.filter_nil, List.append_nil]
  · have hfx : f x = true := by rw [← h1]; exact hbt
    have ln := len i x hx hfx
    intro A6 G6 H6 σ6 a6 R6 q6
    refine h3 hbt A6 G6 H6 σ6 a6 R6 fun J7 l7 P7 A7 G7 H7 μ7 m7 n7 gv7 ⟨k1, k2, k3, k4⟩ => q6 J7 l7 P7 A7 G7 H7 μ7 m7 n7 gv7 ⟨k2, k3, fun j acc' => acc' = ((l.take i).filter f).flatMap m ++ l7.take j, by show _ = ((l.take i).filter f).flatMap m ++ l7.take 0; rw [List.take_zero, List.append_nil], fun j y acc' hy w' => ?_, fun acc' w' => ?_⟩
    · subst w'
      have ty : l7.take (j + 1) = l7.take j ++ [y] := by rw [List.take_succ, hy]; rfl
      have hj := (List.getElem?_eq_some_iff.mp hy).1
      intro A8 G8 H8 σ8 v8 a8 r8 Q8 q8
      refine k4 y _ (List.mem_of_getElem? hy) A8 G8 H8 σ8 v8 a8 r8 Q8 fun A9 G9 H9 σ9 δ9 μ9 a9 n9 hw9 c9 => q8 A9 G9 H9 σ9 δ9 μ9 a9 n9 hw9 ?_
      intro A10 G10 H10 σ10 a10 Q10 q10
      refine c9 A10 G10 H10 σ10 a10 Q10 fun b A11 G11 H11 μ11 m11 n11 ⟨u1, u2, u3⟩ => q10 b A11 G11 H11 μ11 m11 n11 ⟨u2, fun z => (by rw [u1] at z; cases z), fun _ => u3.imp fun d μ12 ⟨y1, y2⟩ => ⟨y2, ?_, ?_⟩⟩
      · have hlm := congrArg List.length k1
        rw [List.length_append, List.length_take]
        omega
      · show ((l.take i).filter f).flatMap m ++ l7.take j ++ [d] = ((l.take i).filter f).flatMap m ++ l7.take (j + 1)
        rw [y1, ty, List.append_assoc]
    · subst w'
      show ((l.take i).filter f).flatMap m ++ l7.take l7.length = ((l.take (i + 1)).filter f).flatMap m
      rw [List.take_length, k1, tk i x hx, List.filter_append, List.filter_cons, hfx, if_pos rfl, List.filter_nil, List.flatMap_append, List.flatMap_cons, List.flatMap_nil, List.append_nil]
end
end PA

set_option Elab.async false
set_option linter.all false
set_option maxRecDepth 100000
set_option maxHeartbeats 2000000
/-! PbSum: sum(lists, start), list(range(..)). -/
namespace PA
open PySem L2
theorem args_sum2 (a b : Value) : argsOk "sum" ⟨[a, b], []⟩ := by unfold argsOk; kernel_rfl
section
variable {prog : Program} {w : World} {A : Around} {R : Result → Shared → Prop} {I : Addr} {fp wr : List Addr} {n : Nat} {P : Nat → Value → Prop} {St : Nat → Heap → Prop}
theorem add_two {E : Value → Shared → Prop} {s : Shared} {l b : Addr} {vs ws : List Value} {Q : Value → Shared → Prop} (hl : s.heap.IsList l vs.toArray) (hb : s.heap.IsList b ws.toArray) (hsz : vs.length + ws.length ≤ sizeLine)
    (h : Q (.ref s.heap.objs.size) { s with heap := s.heap.push { cls := .type "list", data := .seq (vs ++ ws).toArray } }) : wpAny (model prog w) A (binaryOp .Add (.ref l) (.ref b)) Q E s := by
  obtain ⟨⟨cls, dd, data, sl⟩, ho, hc, n, hd⟩ := id hl
  obtain ⟨⟨cls2, dd2, data2, sl2⟩, ho2, hc2, n2, hd2⟩ := id hb
  simp only at hc hd hc2 hd2
  subst hc hd hc2 hd2
  have e : vs.toArray ++ ws.toArray = (vs ++ ws).toArray := by simp
  refine concat_meets ⟨_, ho, rfl⟩ ⟨_, ho2, rfl⟩ noFill_list_add seq_list_add PySem.F.slot_list_add PySem.F.entry_list_add (PySem.F.args_list_add_2 _ _) (PyProof.Rows.list_addW l b vs.toArray ws.toArray n n2 dd dd2 sl sl2 (by simpa using hsz)) ⟨ho, ho2, ?_⟩
  rw [e]
  exact h
/-- how long the rest is -/
def restLen (its : Nat → List Value) (n : Nat) : Nat → Nat
  | 0 => 0
  | k + 1 => (its (n - (k + 1))).length + restLen its n k
def restAll (its : Nat → List Value) (n : Nat) : Nat → List Value
  | 0 => []
  | k + 1 => its (n - (k + 1)) ++ restAll its n k
theorem sum_loopL (W : Walks prog w A.in1 I fp wr n P St) (S : Addr) (hSf : S ∉ fp) (bs : Nat → Addr) (its : Nat → List Value) (hP : ∀ i v, i < n → P i v → v = .ref (bs i)) (hbs : ∀ i, i < n → bs i ∉ wr ∧ bs i ≠ S) :
    ∀ (k i : Nat) (s : Shared) (T : Addr) (acc : List Value) (c : Nat), n - i = k → i ≤ n → St i s.heap → s.heap.get? S = some { cls := .type "list", dict := none, data := .seq #[.ref T] c, slots := #[] } → s.heap.IsList T acc.toArray → T ∉ wr → T ≠ S →
      (∀ j, j < n → s.heap.IsList (bs j) (its j).toArray) → acc.length + restLen its n k ≤ sizeLine → (∀ b ∈ wr, b < S) →
    (∀ h' tk T', (∀ b o, b ∉ wr → b ≠ S → s.heap.get? b = some o → h'.get? b = some o) → h'.IsList T' (acc ++ restAll its n k).toArray → ((k = 0 ∧ T' = T) ∨ (S < T' ∧ ∃ m, h'.get? T' = some { cls := .type "list", data := .seq (acc ++ restAll its n k).toArray m })) → R (.ok (.ret (.ref T'))) { s with heap := h', toks := tk }) →
    codeAny (model prog w) A (.builtin "sum.loop" ⟨[.ref I, .ref S, rawInt 2, rawInt 0], []⟩) R s := by
  have hSw : S ∉ wr := fun h => hSf (W.sub _ h)
  intro k
  induction k with
  | zero =>
    intro i s T acc c hk hi hst hS hT hTw hTS hl hz hwr hR
    have hin : i = n := by omega
    subst hin
    refine codeAny_builtin F.entry_sum_loop ?_
    rw [Around.under_plainId F.plain_sum_loop _]
    show wpAny _ A.in1 (seqItems? (.ref S) >>= _) _ _ s
    refine wpAny_bind (wpAny_seqItems hS rfl ?_)
    show wpAny _ A.in1 (tryCatch (pyNext (.ref I)) _ >>= _) _ _ s
    refine wpAny_bind (wpAny_tryCatch (W.done s _ _ hst fun h' tk hk' => ?_))
    refine wpAny_pure (hR h' tk T (fun b o hbw _ e => hk' b o hbw e) ?_ (.inl ⟨rfl, rfl⟩))
    show h'.IsList T (acc ++ []).toArray
    rw [List.append_nil]
    obtain ⟨o, e1, e2⟩ := hT
    exact ⟨o, hk' _ _ hTw e1, e2⟩
  | succ k ih =>
    intro i s T acc c hk hi hst hS hT hTw hTS hl hz hwr hR
    have hlt : i < n := by omega
    have hni : n - (k + 1) = i := by omega
    have hz : acc.length + ((its (n - (k + 1))).length + restLen its n k) ≤ sizeLine := hz
    rw [hni] at hz
    refine codeAny_builtin F.entry_sum_loop ?_
    rw [Around.under_plainId F.plain_sum_loop _]
    show wpAny _ A.in1 (seqItems? (.ref S) >>= _) _ _ s
    refine wpAny_bind (wpAny_seqItems hS rfl ?_)
    show wpAny _ A.in1 (tryCatch (pyNext (.ref I)) _ >>= _) _ _ s
    refine wpAny_bind (wpAny_tryCatch (W.item i s _ _ hlt hst fun v h' tk hPv hst' hk' => ?_))
    obtain rfl := hP i v hlt hPv
    have hS' := hk' S _ hSw hS
    have keepL : ∀ {a : Addr} {xs : List Value}, s.heap.IsList a xs.toArray → a ∉ wr → h'.IsList a xs.toArray := fun {a xs} ⟨o, e1, e2⟩ hw => ⟨o, hk' _ _ hw e1, e2⟩
    have hT' := keepL hT hTw
    have hB' := keepL (hl i hlt) (hbs i hlt).1
    show wpAny _ A.in1 ((holding [Value.ref (bs i)] (binaryOp .Add (.ref T) (.ref (bs i)))).attempt >>= _) _ _ _
    refine wpAny_bind (wpAny_attempt (wpAny_holding (add_two hT' hB' (by omega) ?_)))
    have szS : S < h'.objs.size := Heap.lt_size hS'
    have hS1 : (h'.push { cls := .type "list", data := .seq (acc ++ its i).toArray }).get? S = some { cls := .type "list", dict := none, data := .seq #[.ref T] c, slots := #[] } := Heap.get?_push_of_some _ hS'
    show wpAny _ A.in1 (updateSeq S (fun _ => #[.ref h'.objs.size]) >>= _) _ _ _
    refine wpAny_bind ?_
    refine wpAny_updateSeq hS1 rfl ?_
    have hS2 := Heap.get?_update_self (Obj.mapSeq fun _ => #[Value.ref h'.objs.size]) hS1 rfl
    refine wpAny_bind (wpAny_letGo ?_)
    refine wpAny_bind ?_
    have other : ∀ b o, b ≠ S → h'.get? b = some o → ∀ f g : Obj → Obj, (((h'.push { cls := .type "list", data := .seq (acc ++ its i).toArray }).update S f).update S g).get? b = some o := fun b o hb e f g =>
      (Heap.get?_update_other _ _ (Ne.symm hb)).trans ((Heap.get?_update_other _ _ (Ne.symm hb)).trans (Heap.get?_push_of_some _ e))
    refine wpAny_updateSeq hS2 rfl (wpAny_pure ⟨plainId_quiet F.plain_sum_loop _, ih (i + 1) _ h'.objs.size (acc ++ its i) _ (by omega) hlt (W.frame _ _ _ hst' fun b hb o e => other b o (fun h => hSf (by rw [← h]; exact hb)) e _ _) (Heap.get?_update_self _ hS2 rfl) ?_ (fun h => Nat.lt_irrefl _ (Nat.lt_trans (hwr _ h) szS)) (Nat.ne_of_gt szS) (fun j hj => ?_) (by rw [List.length_append]; omega) hwr fun h'' tk'' T'' hk'' hL'' hT'' => ?_⟩)
    · refine ⟨_, (Heap.get?_update_other _ _ (Nat.ne_of_lt szS)).trans ((Heap.get?_update_other _ _ (Nat.ne_of_lt szS)).trans (Heap.get?_push_size _ rfl)), rfl, _, rfl⟩
    · obtain ⟨o, e1, e2⟩ := keepL (hl j hj) (hbs j hj).1
      exact ⟨o, other _ _ (hbs j hj).2 e1 _ _, e2⟩
    · refine hR h'' tk'' T'' (fun b o hbw hbS e => hk'' b o hbw hbS (other b o hbS (hk' b o hbw e) _ _)) ?_ (.inr ?_)
      · show h''.IsList T'' (acc ++ (its (n - (k + 1)) ++ restAll its n k)).toArray
        rw [hni, ← List.append_assoc]
        exact hL''
      · rcases hT'' with ⟨hk0, e⟩ | ⟨e, m, em⟩
        · subst hk0 e
          refine ⟨szS, 0, ?_⟩
          show h''.get? h'.objs.size = some { cls := .type "list", data := .seq (acc ++ (its (n - (0 + 1)) ++ [])).toArray 0 }
          rw [hni, List.append_nil]
          exact hk'' _ _ (fun h => Nat.lt_irrefl _ (Nat.lt_trans (hwr _ h) szS)) (Nat.ne_of_gt szS) ((Heap.get?_update_other _ _ (Nat.ne_of_lt szS)).trans ((Heap.get?_update_other _ _ (Nat.ne_of_lt szS)).trans (Heap.get?_push_size _ rfl)))
        · refine ⟨e, m, ?_⟩
          show h''.get? T'' = some { cls := .type "list", data := .seq (acc ++ (its (n - (k + 1)) ++ restAll its n k)).toArray m }
          rw [hni, ← List.append_assoc]
          exact em
end
section
variable {prog : Program} {w : World} {A : Around} {E : Value → Shared → Prop} {s : Shared}
/-- sum(xs, start): xs a list of lists -/
theorem call_sumL {l b0 : Addr} {bs : List Addr} {its : Nat → List Value} {acc : List Value} {Q : Value → Shared → Prop} (hh : A.handled = none) (hl : s.heap.IsList l (bs.map Value.ref).toArray) (h0 : s.heap.IsList b0 acc.toArray) (hl2 : ∀ i (hi : i < bs.length), s.heap.IsList bs[i] (its i).toArray)
    (hz : acc.length + restLen its bs.length bs.length ≤ sizeLine)
    (h : ∀ h' tk T', (∀ b o, s.heap.get? b = some o → h'.get? b = some o) → h'.IsList T' (acc ++ restAll its bs.length bs.length).toArray → ((bs.length = 0 ∧ T' = b0) ∨ (s.heap.objs.size ≤ T' ∧ ∃ m, h'.get? T' = some { cls := .type "list", data := .seq (acc ++ restAll its bs.length bs.length).toArray m })) → Q (.ref T') { s with heap := h', toks := tk }) :
    wpAny (model prog w) A (call (.builtin "sum") [.ref l, .ref b0]) Q E s := by
  refine call_function_tree F.kind_sum F.plain_sum F.entry_sum (args_sum2 _ _) ?_
  unfold Builtin.«sum»
  simp only [List.length_cons, List.length_nil]
  rw [if_neg (by decide)]
  refine wpAny_bind (wpAny_of_eq (show Builtin.Builtins.bindParams "sum" ["start"] 0 ⟨[.ref b0], []⟩ = pure [some (.ref b0)] from rfl) ?_)
  have hlt : l < s.heap.objs.size := by obtain ⟨_, e, _⟩ := hl; exact Heap.lt_size e
  have hlb : b0 < s.heap.objs.size := by obtain ⟨_, e, _⟩ := h0; exact Heap.lt_size e
  refine wpAny_bind (wpAny_pyIter_list hl ?_)
  generalize hs2 : ({ s with heap := s.heap.push { cls := .type "list_iterator", data := .fields #[.ref l, .int 0 0] } } : Shared) = s2
  have e2 : s2.heap = s.heap.push { cls := .type "list_iterator", data := .fields #[.ref l, .int 0 0] } := by rw [← hs2]
  have k2 : ∀ b o, s.heap.get? b = some o → s2.heap.get? b = some o := fun b o e => by rw [e2]; exact Heap.get?_push_of_some _ e
  have kl : ∀ {a : Addr} {xs : List Value}, s.heap.IsList a xs.toArray → s2.heap.IsList a xs.toArray := fun ⟨o, q1, q2⟩ => ⟨o, k2 _ _ q1, q2⟩
  have z2 : s2.heap.objs.size = s.heap.objs.size + 1 := by rw [e2, Heap.size_push]
  have hit : s2.heap.IsListIter s.heap.objs.size l 0 := by rw [e2]; exact ⟨_, Heap.get?_push_size _ rfl, rfl, rfl⟩
  obtain ⟨⟨cls0, dd0, data0, sl0⟩, ho0, hc0, n0, hd0⟩ := kl h0
  simp only at hc0 hd0
  subst hc0 hd0
  have ht : s2.TypeIs (.ref b0) "list" := ⟨_, ho0, rfl⟩
  refine wpAny_bind (wpAny_pure ?_)
  simp only [List.forIn_cons, List.forIn_nil]
  refine wpAny_bind (wpAny_bind (wpAny_bind (wpAny_isInstance (T := "list") (b := false) ht F.sub_list_str ?_)))
  simp only [Bool.false_eq_true, if_false]
  refine wpAny_pure (wpAny_bind (wpAny_bind (wpAny_isInstance (T := "list") (b := false) ht F.sub_list_bytes ?_)))
  simp only [Bool.false_eq_true, if_false]
  refine wpAny_pure (wpAny_bind (wpAny_bind (wpAny_isInstance (T := "list") (b := false) ht F.sub_list_bytearray ?_)))
  simp only [Bool.false_eq_true, if_false]
  refine wpAny_pure (wpAny_pure ?_)
  refine wpAny_bind (wpAny_newObj_type ?_)
  have W : Walks prog w A.in1 s.heap.objs.size [s.heap.objs.size, l] [s.heap.objs.size] (bs.map Value.ref).toArray.size (fun i v => (bs.map Value.ref).toArray[i]? = some v) (fun i h => h.IsListIter s.heap.objs.size l i ∧ h.IsList l (bs.map Value.ref).toArray) := Walks.list (A := A.in1) hh _ l (Nat.ne_of_lt hlt) _
  have hn : (bs.map Value.ref).toArray.size = bs.length := by simp
  rw [hn] at W
  have hSf : s2.heap.objs.size ∉ [s.heap.objs.size, l] := fun hm => by
    rw [z2] at hm
    rcases List.mem_cons.mp hm with e | hm
    · exact absurd e (Nat.succ_ne_self _)
    · have e := List.mem_singleton.mp hm
      rw [← e] at hlt
      exact absurd (Nat.lt_trans (Nat.lt_succ_self _) hlt) (Nat.lt_irrefl _)
  have lts : ∀ i (hi : i < bs.length), bs[i] < s.heap.objs.size := fun i hi => by obtain ⟨_, e, _⟩ := hl2 i hi; exact Heap.lt_size e
  have gd : ∀ i (hi : i < bs.length), bs.getD i 0 = bs[i] := fun i hi => by rw [List.getD_eq_getElem?_getD, List.getElem?_eq_getElem hi]; rfl
  have wr1 : ∀ {a : Addr}, a < s.heap.objs.size → a ∉ [s.heap.objs.size] := fun h hm => Nat.ne_of_lt h (List.mem_singleton.mp hm)
  have wr2 : ∀ {a : Addr}, a < s.heap.objs.size → a ≠ s2.heap.objs.size := fun h e => by rw [z2] at e; exact Nat.ne_of_lt (Nat.lt_trans h (Nat.lt_succ_self _)) e
  have pk : ∀ b o, s2.heap.get? b = some o → (s2.heap.push { cls := .type "list", data := .seq #[Value.ref b0] }).get? b = some o := fun b o e => Heap.get?_push_of_some _ e
  refine wpAny_pure ⟨plainId_quiet F.plain_sum_loop _, sum_loopL W s2.heap.objs.size hSf (fun i => bs.getD i 0) its (fun i v hi hv => ?_) (fun i hi => ?_) bs.length 0 _ b0 acc 0 (Nat.sub_zero _) (Nat.zero_le _) ?_ (Heap.get?_push_size _ rfl) ⟨_, pk _ _ ho0, rfl, _, rfl⟩ ?_ ?_ (fun j hj => ?_) hz ?_ fun h' tk T' hk hL hT => ?_⟩
  · have hv : (bs.map Value.ref)[i]? = some v := by simpa using hv
    rw [List.getElem?_map, List.getElem?_eq_getElem hi] at hv
    cases hv
    rw [gd i hi]
  · rw [gd i hi]
    exact ⟨wr1 (lts i hi), wr2 (lts i hi)⟩
  · obtain ⟨⟨o1, q1, q2⟩, o2, q3, q4⟩ := (⟨hit, kl hl⟩ : s2.heap.IsListIter s.heap.objs.size l 0 ∧ s2.heap.IsList l (bs.map Value.ref).toArray)
    exact ⟨⟨o1, pk _ _ q1, q2⟩, ⟨o2, pk _ _ q3, q4⟩⟩
  · exact wr1 hlb
  · exact wr2 hlb
  · rw [gd j hj]
    obtain ⟨o, q1, q2⟩ := kl (hl2 j hj)
    exact ⟨o, pk _ _ q1, q2⟩
  · intro b hb
    rw [List.mem_singleton.mp hb, z2]
    exact Nat.lt_succ_self _
  · have kept : ∀ b o, s.heap.get? b = some o → h'.get? b = some o := fun b o e => hk b o (wr1 (Heap.lt_size e)) (wr2 (Heap.lt_size e)) (pk _ _ (k2 _ _ e))
    have hT : (bs.length = 0 ∧ T' = b0) ∨ (s.heap.objs.size ≤ T' ∧ ∃ m, h'.get? T' = some { cls := .type "list", data := .seq (acc ++ restAll its bs.length bs.length).toArray m }) := by
      rcases hT with h | ⟨h, h2⟩
      · exact .inl h
      · have h : s2.heap.objs.size < T' := h
        rw [z2] at h
        exact .inr ⟨Nat.le_of_lt (Nat.lt_trans (Nat.lt_succ_self _) h), h2⟩
    have := h h' tk T' kept hL hT
    rw [← hs2]
    exact this
end
/-- sum(xs, []), xs a list of lists -/
def rSumL (K : PySem.W.Frag) : List V → Hp → VK → Prop := fun vs H Q => ∃ (a b0 : Addr) (cs : List (Addr × List V)), vs = [V.ref a, V.ref b0] ∧ SqL K H a (cs.map fun c => V.ref c.1) ∧ (∀ c ∈ cs, SqL K H c.1 c.2) ∧ SqL K H b0 [] ∧ (cs.flatMap (·.2)).length ≤ sizeLine ∧ (cs = [] → Q (.ref b0) H) ∧ ∀ p, H p = none → Q (.ref p) (upd H p (.lst (cs.flatMap (·.2))))
theorem vals_refs : ∀ {cs : List (Addr × List V)} {its : List Value}, Vals (cs.map fun c => V.ref c.1) its → its = (cs.map (·.1)).map Value.ref
  | [], _, .nil => rfl
  | c :: cs, _, .cons r t => by
    have e : _ = Value.ref c.1 := r
    rw [e, vals_refs t]
    rfl
theorem rest_vals {cs : List (Addr × List V)} {its : Nat → List Value} (h : ∀ i (hi : i < cs.length), Vals cs[i].2 (its i)) : ∀ k, k ≤ cs.length → Vals ((cs.drop (cs.length - k)).flatMap (·.2)) (restAll its cs.length k) ∧ restLen its cs.length k = ((cs.drop (cs.length - k)).flatMap (·.2)).length
  | 0, _ => by
    rw [Nat.sub_zero, List.drop_length]
    exact ⟨.nil, rfl⟩
  | k + 1, hk => by
    obtain ⟨h1, h2⟩ := rest_vals h k (by omega)
    have hi : cs.length - (k + 1) < cs.length := by omega
    have ed : cs.drop (cs.length - (k + 1)) = cs[cs.length - (k + 1)] :: cs.drop (cs.length - k) := by
      rw [List.drop_eq_getElem_cons hi, show cs.length - (k + 1) + 1 = cs.length - k by omega]
    rw [ed, List.flatMap_cons]
    have hv := h _ hi
    refine ⟨hv.append h1, ?_⟩
    show (its (cs.length - (k + 1))).length + restLen its cs.length k = _
    rw [List.length_append, h2, ← hv.length]
theorem cr_sumL {X : Cx} (hc : X.calm = true) : CallR X (.builtin "sum") (rSumL X.K) := by
  intro pins s σ H vs us Q I r h
  obtain ⟨a, b0, cs, rfl, hs, hcs, h0, hz, q0, q⟩ := h
  obtain ⟨ia, ra, la, _⟩ := I.list hs
  obtain ⟨ib, rb, lb, _⟩ := I.list h0
  cases rb
  have ea := vals_refs ra
  subst ea
  have ex : ∀ i : Nat, ∃ ws : List Value, ∀ hi : i < cs.length, Vals cs[i].2 ws ∧ s.heap.IsList cs[i].1 ws.toArray := fun i => by
    by_cases hi : i < cs.length
    · obtain ⟨ws, rw', lw, _⟩ := I.list (hcs _ (List.getElem_mem hi))
      exact ⟨ws, fun _ => ⟨rw', lw.isList⟩⟩
    · exact ⟨[], fun h => absurd h hi⟩
  have hw : ∀ i (hi : i < cs.length), Vals cs[i].2 (Classical.choose (ex i)) ∧ s.heap.IsList cs[i].1 (Classical.choose (ex i)).toArray := fun i hi => Classical.choose_spec (ex i) hi
  obtain ⟨its, hw⟩ : ∃ its : Nat → List Value, ∀ i (hi : i < cs.length), Vals cs[i].2 (its i) ∧ s.heap.IsList cs[i].1 (its i).toArray := ⟨fun i => Classical.choose (ex i), hw⟩
  obtain ⟨rv, rl⟩ := rest_vals (fun i hi => (hw i hi).1) cs.length (Nat.le_refl _)
  rw [Nat.sub_self, List.drop_zero] at rv rl
  have hus : us = [.ref a, .ref b0] := by
    cases r with
    | cons r1 r =>
      cases r with
      | cons r2 r =>
        cases r
        have e1 : _ = Value.ref a := r1
        have e2 : _ = Value.ref b0 := r2
        rw [e1, e2]
  rw [hus]
  have lenm : (cs.map (·.1)).length = cs.length := List.length_map _
  refine call_sumL (bs := cs.map (·.1)) (its := its) (acc := []) (I.ok.hd hc) la.isList lb.isList (fun i hi => ?_) (by rw [lenm, rl, List.length_nil, Nat.zero_add]; exact hz) fun h' tk T' kept hL hT => ?_
  · rw [List.getElem_map]
    exact (hw i (by rw [lenm] at hi; exact hi)).2
  · rw [lenm] at hT
    rcases hT with ⟨h1, h2⟩ | ⟨h1, m, h2⟩
    · subst h2
      have e : cs = [] := List.length_eq_zero_iff.mp h1
      exact ⟨.ref _, H, I.kept kept, rfl, q0 e⟩
    · rw [List.nil_append] at h2
      exact ⟨.ref _, upd H T' (.lst (cs.flatMap (·.2))), I.laid (t' := tk) kept h1 ⟨hz, _, m, rv, h2⟩, rfl, q T' (I.hok.fresh h1)⟩
section
variable {K : PySem.W.Frag} {S : Bs} {δ : Sl} {μ : List Cell} {ta tb te : TE} {C : D → List Cell → Prop}
theorem lists_rel {A : List Addr} {G H : Hp} (e : Ex G H) : ∀ {ls : List (List D)} {xs : List V}, RpL K A G (ls.map D.lst) xs → ∃ cs : List (Addr × List V), xs = cs.map (fun c => V.ref c.1) ∧ (∀ c ∈ cs, SqL K H c.1 c.2) ∧ RpL K A G ls.flatten (cs.flatMap (·.2)) ∧ (ls = [] ↔ cs = [])
  | [], _, .nil => ⟨[], rfl, fun c h => (by cases h), .nil, ⟨fun _ => rfl, fun _ => rfl⟩⟩
  | l :: ls, _, .cons r t => by
    obtain ⟨cs, h1, h2, h3, h4⟩ := lists_rel e t
    subst h1
    cases r with
    | @lst _ a ys hg ry =>
      refine ⟨(a, ys) :: cs, rfl, fun c hc => ?_, ?_, ⟨fun z => (by cases z), fun z => (by cases z)⟩⟩
      · rcases List.mem_cons.mp hc with rfl | hc
        · exact lst_sq (e _ _ hg)
        · exact h2 c hc
      · rw [List.flatten_cons, List.flatMap_cons]
        exact ry.append h3
/-- sum(xs, []), xs closed lists -/
theorem cc_sumL {ls : List (List D)} (hz : ls.flatten.length ≤ 10000000) (k : C (.lst ls.flatten) μ) : CC K S (rSumL K) [.lst (ls.map D.lst), .lst []] μ C := fun A G H vs m r1 Q q => by
  cases r1 with
  | cons r1 rn =>
    cases rn with
    | cons r2 rn =>
      cases rn
      cases r1 with
      | @lst _ a xs hg rx =>
        cases r2 with
        | @lst _ b ys hb ry =>
          cases ry
          obtain ⟨cs, h1, h2, h3, h4⟩ := lists_rel m.ex rx
          subst h1
          refine ⟨a, b, cs, rfl, lst_sq (m.ex _ _ hg), h2, lst_sq (m.ex _ _ hb), small (by rw [← h3.len]; exact hz), fun e => ?_, fun p hp => put_lst m hp h3 q k⟩
          have e1 := h4.mpr e
          subst e1
          exact q _ (.lst []) A G H μ m Nw.refl (.lst hb .nil) k
/-- list(range(i, j)) -/
theorem ee_listRg (h : EE K S ta δ μ fun x μ1 => EE K S tb δ μ1 fun y μ2 => ∃ i j : Int, x = .int i ∧ y = .int j ∧ RgOk i j ∧ C (.lst (rng i (j - i).toNat)) μ2) : EE K S (tLstRg (tRg2 ta tb)) δ μ C := fun A G H σ a Q q =>
  h A G H σ a _ fun v1 x A1 G1 H1 μ1 m1 n1 r1 h1 => h1 A1 G1 H1 σ ⟨m1, n1.en a.env⟩ _ fun v2 y A2 G2 H2 μ2 m2 n2 r2 ⟨i, j, ex, ey, ok, c⟩ => by
    subst ex ey
    have e1 := r1.vOf
    have e2 := r2.vOf
    subst e1 e2
    refine ⟨i, j, rfl, rfl, ok, fun p hp => ?_⟩
    have rr : RpL K A2 G2 (rng i (j - i).toNat) (rgV i j) := by
      have z := RpL.vals (K := K) (A := A2) (G := G2) (rgV i j)
      unfold rgV at z
      rw [List.map_map] at z
      exact z
    exact put_lst m2 hp rr (fun v d A' G' H' μ' m n r c => q v d A' G' H' μ' m ((n1.trans n2).trans n) r c) c
end
/-! ### a way into a def's text -/
def noE : Expr := .Name "" ⟨0, 0, 0, 0⟩
def stE : Stmt → Expr
  | .Assign _ e _ => e
  | .Return (some e) _ => e
  | .Expr e _ => e
  | .If e _ _ _ => e
  | .While e _ _ _ => e
  | .For _ e _ _ _ => e
  | .AugAssign _ _ e _ => e
  | _ => noE
def stB (n : Nat) : Stmt → Stmt
  | .FunctionDef _ _ b _ _ _ _ _ _ _ => b.getD n (.Pass ⟨0, 0, 0, 0⟩)
  | .If _ b _ _ => b.getD n (.Pass ⟨0, 0, 0, 0⟩)
  | .While _ b _ _ => b.getD n (.Pass ⟨0, 0, 0, 0⟩)
  | .For _ _ b _ _ => b.getD n (.Pass ⟨0, 0, 0, 0⟩)
  | .Try b _ _ _ _ => b.getD n (.Pass ⟨0, 0, 0, 0⟩)
  | _ => .Pass ⟨0, 0, 0, 0⟩
def stO (n : Nat) : Stmt → Stmt
  | .If _ _ b _ => b.getD n (.Pass ⟨0, 0, 0, 0⟩)
  | _ => .Pass ⟨0, 0, 0, 0⟩
def exN (n : Nat) : Expr → Expr
  | .BoolOp _ l _ => l.getD n noE
  | .BinOp a _ b _ => if n = 0 then a else b
  | .UnaryOp _ a _ => a
  | .IfExp a b c _ => if n = 0 then a else if n = 1 then b else c
  | .Compare a _ l _ => (a :: l).getD n noE
  | .Call _ l _ _ => l.getD n noE
  | .Subscript a b _ => if n = 0 then a else b
  | .List l _ => l.getD n noE
  | .Tuple l _ _ => l.getD n noE
  | _ => noE
def lcElt : Expr → Expr
  | .ListComp e _ _ _ => e
  | _ => noE
def lcIter (n : Nat) : Expr → Expr
  | .ListComp _ g _ _ => ((g[n]?).map (·.iter)).getD noE
  | _ => noE
def lcIf (n m : Nat) : Expr → Expr
  | .ListComp _ g _ _ => ((g[n]?).map fun c => c.ifs.getD m noE).getD noE
  | _ => noE
def scOf : Expr → Scope
  | .ListComp _ _ s _ => s
  | _ => defScope (.Pass ⟨0, 0, 0, 0⟩)
/-- an inner block's scope as it stands within the outer block: free names that are cells outside are cells -/
def scRel (o s : Scope) : Scope := { s with names := s.names.map fun (n, k) => if (k == .free && o.kind == .function && o.names.lookup n == some .cell) then (n, .cell) else (n, k) }
end PA

set_option Elab.async false
set_option linter.all false
set_option maxRecDepth 100000
set_option maxHeartbeats 2000000
/-! PbMap: two-clause comprehensions whose elements are made; lists compared. -/
namespace PA
open PySem L2
section
variable {K : PySem.W.Frag} {S : Bs} {δ : Sl} {μ : List Cell} {wi wi1 : TI} {g g1 : TG} {t t1 : TT} {te : TE}
/-- [e for .. in .. if .. for .. in ..]: all there is of the second walk, each element made -/
theorem ee_lc2M {vs vs1 : List Nat} {C : D → List Cell → Prop} {f : D → Bool} {m : D → List D} {e : D → D} {L : List D} (hL : ((L.filter f).flatMap m).length < 10000000) (hcl : D.ltL 0 ((L.filter f).flatMap m) = true)
    (h : IE K S wi δ μ fun l P μ1 => l = L ∧ P = yes ∧ μ1 = μ)
    (hb : ∀ x acc, x ∈ L → GW K S g vs x (wipeS δ vs) (μ ++ [.lst acc]) fun δ2 μ2 => ET K S t δ2 μ2 fun b μ3 => b = f x ∧ μ3 = μ ++ [.lst acc] ∧ (b = true →
        IE K S wi1 δ2 μ3 fun l1 P1 μ4 => l1.map e = m x ∧ P1 = yes ∧ μ4 = μ ++ [.lst acc] ∧
          ∀ y acc', y ∈ l1 → GW K S g1 vs1 y (wipeS δ2 vs1) (μ ++ [.lst acc']) fun δ3 μ5 => ET K S t1 δ3 μ5 fun b μ6 => b = true ∧ μ6 = μ ++ [.lst acc'] ∧ EE K S te δ3 μ6 fun d μ7 => d = e y ∧ μ7 = μ ++ [.lst acc']))
    (c : C (.lst ((L.filter f).flatMap m)) μ) : EE K S (tLc2 wi g t wi1 g1 t1 te vs vs1) δ μ C := by
  refine ee_lc2 fun A G H σ a R q => h A G H σ a R fun J l P A1 G1 H1 μ1 m1 n1 gv ⟨el, eP, eμ⟩ => q J l P A1 G1 H1 μ1 m1 n1 gv ?_
  subst el eμ
  have tk : ∀ i x, l[i]? = some x → l.take (i + 1) = l.take i ++ [x] := fun i x hx => by rw [List.take_succ, hx]; rfl
  have sub : ∀ i, D.ltL 0 (((l.take i).filter f).flatMap m) = true := fun i => D.ltL_all.mpr fun d hd => by
    obtain ⟨x, hx, hd⟩ := List.mem_flatMap.mp hd
    obtain ⟨h1, h2⟩ := List.mem_filter.mp hx
    exact D.ltL_all.mp hcl d (List.mem_flatMap.mpr ⟨x, List.mem_filter.mpr ⟨List.mem_of_mem_take h1, h2⟩, hd⟩)
  have len : ∀ i x, l[i]? = some x → f x = true → (((l.take i).filter f).flatMap m).length + (m x).length < 10000000 := fun i x hx hf => by
    obtain ⟨hi, e⟩ := List.getElem?_eq_some_iff.mp hx
    have e1 : l = l.take i ++ x :: l.drop (i + 1) := by
      have z := List.drop_eq_getElem_cons hi
      rw [e] at z
      rw [← z, List.take_append_drop]
    have e2 : (((l.take i).filter f).flatMap m ++ (m x ++ ((l.drop (i + 1)).filter f).flatMap m)) = (l.filter f).flatMap m := by
      have e3 : l.filter f = (l.take i).filter f ++ x :: (l.drop (i + 1)).filter f := by
        have z := congrArg (List.filter f) e1
        rw [List.filter_append, List.filter_cons, hf, if_pos rfl] at z
        exact z
      rw [e3, List.flatMap_append, List.flatMap_cons]
    have e4 := congrArg List.length e2
    rw [List.length_append, List.length_append] at e4
    omega
  refine ⟨eP, fun i acc => acc = ((l.take i).filter f).flatMap m, by simp, fun i acc w => by rw [w]; exact D.ltL_mono (Nat.zero_le _) (sub i), fun i x acc hx w => ?_, fun acc w => by rw [w, List.take_length]; exact c⟩
  subst w
  intro A2 G2 H2 σ2 v2 a2 r2 Q2 q2
  refine hb x _ (List.mem_of_getElem? hx) A2 G2 H2 σ2 v2 a2 r2 Q2 fun A3 G3 H3 σ3 δ3 μ3 a3 n3 hw3 c3 => q2 A3 G3 H3 σ3 δ3 μ3 a3 n3 hw3 ?_
  intro A4 G4 H4 σ4 a4 Q4 q4
  refine c3 A4 G4 H4 σ4 a4 Q4 fun b A5 G5 H5 μ5 m5 n5 ⟨h1, h2, h3⟩ => q4 b A5 G5 H5 μ5 m5 n5 ⟨h2, fun hbf => ?_, fun hbt => ?_⟩
  · show ((l.take i).filter f).flatMap m = ((l.take (i + 1)).filter f).flatMap m
    rw [tk i x hx, List.filter_append, List.filter_cons, ← h1, hbf, if_neg Bool.false_ne_true, List.filter_nil, List.append_nil]
  · have hfx : f x = true := by rw [← h1]; exact hbt
    have ln := len i x hx hfx
    intro A6 G6 H6 σ6 a6 R6 q6
    refine h3 hbt A6 G6 H6 σ6 a6 R6 fun J7 l7 P7 A7 G7 H7 μ7 m7 n7 gv7 ⟨k1, k2, k3, k4⟩ => q6 J7 l7 P7 A7 G7 H7 μ7 m7 n7 gv7 ⟨k2, k3, fun j acc' => acc' = ((l.take i).filter f).flatMap m ++ (l7.take j).map e, by show _ = ((l.take i).filter f).flatMap m ++ (l7.take 0).map e; rw [List.take_zero, List.map_nil, List.append_nil], fun j y acc' hy w' => ?_, fun acc' w' => ?_⟩
    · subst w'
      have ty : (l7.take (j + 1)).map e = (l7.take j).map e ++ [e y] := by rw [List.take_succ, hy, List.map_append]; rfl
      have hj := (List.getElem?_eq_some_iff.mp hy).1
      intro A8 G8 H8 σ8 v8 a8 r8 Q8 q8
      refine k4 y _ (List.mem_of_getElem? hy) A8 G8 H8 σ8 v8 a8 r8 Q8 fun A9 G9 H9 σ9 δ9 μ9 a9 n9 hw9 c9 => q8 A9 G9 H9 σ9 δ9 μ9 a9 n9 hw9 ?_
      intro A10 G10 H10 σ10 a10 Q10 q10
      refine c9 A10 G10 H10 σ10 a10 Q10 fun b A11 G11 H11 μ11 m11 n11 ⟨u1, u2, u3⟩ => q10 b A11 G11 H11 μ11 m11 n11 ⟨u2, fun z => (by rw [u1] at z; cases z), fun _ => u3.imp fun d μ12 ⟨y1, y2⟩ => ⟨y2, ?_, ?_⟩⟩
      · have hlm := congrArg List.length k1
        rw [List.length_map] at hlm
        rw [List.length_append, List.length_map, List.length_take]
        omega
      · show ((l.take i).filter f).flatMap m ++ (l7.take j).map e ++ [d] = ((l.take i).filter f).flatMap m ++ (l7.take (j + 1)).map e
        rw [y1, ty, List.append_assoc]
    · subst w'
      show ((l.take i).filter f).flatMap m ++ (l7.take l7.length).map e = ((l.take (i + 1)).filter f).flatMap m
      rw [List.take_length, k1, tk i x hx, List.filter_append, List.filter_cons, hfx, if_pos rfl, List.filter_nil, List.flatMap_append, List.flatMap_cons, List.flatMap_nil, List.append_nil]
end
/-! ### x > y, data of one kind -/
def rGtD (K : PySem.W.Frag) : R2 := fun x y H Q => ∃ d e, Dp K H x d ∧ Dp K H y e ∧ PySem.W.alike d e = true ∧ d ≠ .none ∧ min d.depth e.depth ≤ 60 ∧ Q (.bl (PySem.W.dataLt e d)) H
theorem op_gtD {X : Cx} (hu : X.A.units + 64 < cLine) : OpR X (compareOp .Gt) (rGtD X.K) := by
  intro pins s σ H x y v u Q I rx ry ⟨d, e, hd, he, ha, hn, hz, q⟩
  obtain ⟨as, r1⟩ := Dp.reads I d x v hd rx
  obtain ⟨bs, r2⟩ := Dp.reads I e y u he ry
  exact PySem.W.gt_data r1 r2 ha hn (by omega) ⟨.bl _, H, I, rfl, q⟩
section
variable {K : PySem.W.Frag} {S : Bs} {μ : List Cell} {C : D → List Cell → Prop}
theorem oo_gtD {x y : D} {p q : PyData} (h1 : D.py x = some p) (h2 : D.py y = some q) (ha : PySem.W.alike p q = true) (hn : p ≠ .none) (hz : min p.depth q.depth ≤ 60) (k : C (.bl (PySem.W.dataLt q p)) μ) : OO K S (rGtD K) x y μ C := fun A G H u w m r1 r2 Q qq =>
  ⟨p, q, (r1.mono0 m.ex).dp h1, (r2.mono0 m.ex).dp h2, ha, hn, hz, qq _ _ A G H μ m Nw.refl (.v _) k⟩
/-- list(range(j)) -/
theorem ee_listRg1 {δ : Sl} {ta : TE} (h : EE K S ta δ μ fun x μ1 => ∃ j : Int, x = .int j ∧ RgOk 0 j ∧ C (.lst (rng 0 j.toNat)) μ1) : EE K S (tLstRg (tRg1 ta)) δ μ C := fun A G H σ a Q q =>
  h A G H σ a _ fun v1 x A1 G1 H1 μ1 m1 n1 r1 ⟨j, ex, ok, c⟩ => by
    subst ex
    have e1 := r1.vOf
    subst e1
    refine ⟨j, rfl, ok, fun p hp => ?_⟩
    have rr : RpL K A1 G1 (rng 0 j.toNat) (rgV 0 j) := by
      have z := RpL.vals (K := K) (A := A1) (G := G1) (rgV 0 j)
      unfold rgV at z
      rw [List.map_map, Int.sub_zero] at z
      unfold rgV
      rw [Int.sub_zero]
      exact z
    exact put_lst m1 hp rr (fun v d A' G' H' μ' m n r c => q v d A' G' H' μ' m (n1.trans n) r c) c
end
end PA

set_option Elab.async false
set_option linter.all false
set_option maxRecDepth 100000
set_option maxHeartbeats 2000000
/-! PbDict: open dicts: made, read, written, asked. -/
namespace PA
open PySem L2
section
variable {K : PySem.W.Frag} {S : Bs} {A : List Addr} {G H : Hp} {μ : List Cell}
/-- a new open thing -/
theorem Mem.openedC (m : Mem K S A G H μ) {p : Addr} {o : HO} {c0 : Cell} (hp : H p = none) (r : CellAt K (A ++ [p]) G (upd H p o) p c0) : Mem K S (A ++ [p]) G (upd H p o) (μ ++ [c0]) where
  ex := m.ex.side (m.ex.free hp)
  exG := m.exG
  pre := by
    obtain ⟨B, hB, hb⟩ := m.pre
    refine ⟨B ++ [p], by rw [hB, List.append_assoc], fun b h => ?_⟩
    rcases List.mem_append.mp h with h | h
    · exact hb b h
    · have e : b = p := by simpa using h
      subst e
      by_cases ha : b ∈ S.A
      · exact absurd hp (m.al b (by rw [hB]; exact List.mem_append_left _ ha))
      · cases q : S.H b with
        | none => rfl
        | some o =>
          rw [m.keep b o ha q] at hp
          cases hp
  new := m.new
  keep := fun a o h1 h2 => by
    have q := m.keep a o h1 h2
    rw [upd_ne (ne_of_none q hp)]
    exact q
  cel := fun k a c h1 h2 => by
    by_cases hk : k < A.length
    · rw [List.getElem?_append_left hk] at h1
      rw [List.getElem?_append_left (by rw [← m.len]; exact hk)] at h2
      have q := m.cel k a c h1 h2
      cases c with
      | off => trivial
      | lst l' =>
        obtain ⟨g, ys, hy, r'⟩ := q
        exact ⟨g, ys, by rw [upd_ne (ne_of_none hy hp)]; exact hy, r'.mono (Ex.refl G)⟩
      | gen tg l' =>
        obtain ⟨g, ys, hn, hy, r'⟩ := q
        exact ⟨g, ys, hn, by rw [upd_ne (ne_of_none hy hp)]; exact hy, r'.mono (Ex.refl G)⟩
    · have e1 : k = A.length := by
        have z := (List.getElem?_eq_some_iff.mp h1).1
        rw [List.length_append, List.length_singleton] at z
        omega
      subst e1
      rw [List.getElem?_append_right (Nat.le_refl _), Nat.sub_self] at h1
      rw [List.getElem?_append_right (by rw [m.len]; exact Nat.le_refl _), m.len, Nat.sub_self] at h2
      cases h1
      cases h2
      exact r
  len := by rw [List.length_append, List.length_append, m.len]; rfl
  nd := by
    refine List.nodup_append.mpr ⟨m.nd, by simp, fun a ha b hb e => ?_⟩
    have e2 : b = p := by simpa using hb
    rw [e, e2] at ha
    exact m.al p ha hp
  al := fun a ha h => by
    rcases List.mem_append.mp ha with ha | ha
    · by_cases e : a = p
      · rw [e] at ha
        exact m.al p ha hp
      · rw [upd_ne e] at h
        exact m.al a ha h
    · have e2 : a = p := by simpa using ha
      rw [e2, upd_same] at h
      cases h
/-- an open thing is changed -/
theorem Mem.wroteC (m : Mem K S A G H μ) {k : Nat} {a : Addr} {ob : HO} {c0 c1 : Cell} (hA : A[k]? = some a) (hc : μ[k]? = some c0) (hg : G a = none) (r : CellAt K A G (upd H a ob) a c1) : Mem K S A G (upd H a ob) (μ.set k c1) where
  ex := m.ex.side hg
  exG := m.exG
  pre := m.pre
  new := m.new
  keep := fun b o h1 h2 => by
    by_cases e : b = a
    · subst e
      obtain ⟨B, hB, hb⟩ := m.pre
      have hm : b ∈ A := List.mem_of_getElem? hA
      rw [hB] at hm
      rcases List.mem_append.mp hm with q | q
      · exact absurd q h1
      · rw [hb b q] at h2
        cases h2
    · rw [upd_ne e]
      exact m.keep b o h1 h2
  cel := fun j b c h1 h2 => by
    by_cases e : j = k
    · subst e
      rw [hA] at h1
      cases h1
      rw [List.getElem?_set_self (List.getElem?_eq_some_iff.mp hc).1] at h2
      cases h2
      exact r
    · rw [List.getElem?_set_ne (Ne.symm e)] at h2
      have q := m.cel j b c h1 h2
      cases c with
      | off => trivial
      | lst l2 =>
        obtain ⟨g, ys, hy, r'⟩ := q
        refine ⟨g, ys, ?_, r'⟩
        rw [upd_ne (fun z => ?_)]
        · exact hy
        · subst z
          obtain ⟨q1, e1⟩ := List.getElem?_eq_some_iff.mp h1
          obtain ⟨q2, e2⟩ := List.getElem?_eq_some_iff.mp hA
          exact e ((List.getElem_inj m.nd).mp (e1.trans e2.symm))
      | gen tg l2 =>
        obtain ⟨g, ys, hn, hy, r'⟩ := q
        refine ⟨g, ys, hn, ?_, r'⟩
        rw [upd_ne (fun z => ?_)]
        · exact hy
        · subst z
          obtain ⟨q1, e1⟩ := List.getElem?_eq_some_iff.mp h1
          obtain ⟨q2, e2⟩ := List.getElem?_eq_some_iff.mp hA
          exact e ((List.getElem_inj m.nd).mp (e1.trans e2.symm))
  len := by rw [List.length_set]; exact m.len
  nd := m.nd
  al := fun b hb h => by
    by_cases e : b = a
    · rw [e, upd_same] at h
      cases h
    · rw [upd_ne e] at h
      exact m.al b hb h
end
/-! ### what stands at a key -/
section
variable {α : Type}
def vAt : List Key → List α → Key → Option α
  | k :: ks, x :: l, j => if k = j then some x else vAt ks l j
  | _, _, _ => none
def vRep : List Key → List α → Key → α → List α
  | k :: ks, x :: l, j, y => (if k = j then y else x) :: vRep ks l j y
  | _, _, _, _ => []
def hasK : List Key → Key → Bool
  | [], _ => false
  | k :: ks, j => if k = j then true else hasK ks j
/-- the keys, the values behind d[j] = y -/
def putKs (ks : List Key) (j : Key) : List Key := if hasK ks j then ks else ks ++ [j]
def putVs (ks : List Key) (l : List α) (j : Key) (y : α) : List α := if hasK ks j then vRep ks l j y else l ++ [y]
theorem vRep_len : ∀ {ks : List Key} {l : List α} {j : Key} {y : α}, ks.length = l.length → (vRep ks l j y).length = l.length
  | [], [], _, _, _ => rfl
  | k :: ks, x :: l, j, y, h => congrArg (· + 1) (vRep_len (Nat.succ.inj h))
  | [], _ :: _, _, _, h => nomatch h
  | _ :: _, [], _, _, h => nomatch h
theorem putD_len {ks : List Key} {l : List α} {j : Key} {y : α} (h : ks.length = l.length) : (putKs ks j).length = (putVs ks l j y).length := by
  unfold putKs putVs
  split
  · rw [vRep_len h, h]
  · rw [List.length_append, List.length_append, h]
    rfl
theorem vAt_has : ∀ {ks : List Key} {l : List α} {j : Key}, ks.length = l.length → (vAt ks l j).isSome = hasK ks j
  | [], [], j, _ => rfl
  | k :: ks, x :: l, j, h => by
    have ih := vAt_has (j := j) (Nat.succ.inj h : ks.length = l.length)
    unfold vAt hasK
    by_cases e : k = j
    · rw [if_pos e, if_pos e]
      rfl
    · rw [if_neg e, if_neg e, ih]
  | [], _ :: _, _, h => nomatch h
  | _ :: _, [], _, h => nomatch h
end
theorem valV_zip : ∀ {ks : List Key} {xs : List V} {j : Key}, valV (ks.zip xs) j = vAt ks xs j
  | [], _, _ => by simp [vAt, valV]
  | _ :: _, [], _ => by simp [vAt, valV]
  | k :: ks, x :: xs, j => by
    show valV ((k, x) :: ks.zip xs) j = if k = j then some x else vAt ks xs j
    by_cases e : k = j
    · rw [if_pos e, valV_pos e]
    · rw [if_neg e, valV_neg e, valV_zip]
theorem rep_zip : ∀ {ks : List Key} {xs : List V} {j : Key} {y : V}, (ks.zip xs).map (fun kv => if kv.1 = j then (kv.1, y) else kv) = ks.zip (vRep ks xs j y)
  | [], _, _, _ => by simp
  | _ :: _, [], _, _ => by simp [vRep]
  | k :: ks, x :: xs, j, y => by
    show (if k = j then (k, y) else (k, x)) :: (ks.zip xs).map _ = (k, if k = j then y else x) :: ks.zip (vRep ks xs j y)
    rw [rep_zip]
    split <;> rfl
theorem any_zip {ks : List Key} {xs : List V} {j : Key} (h : ks.length = xs.length) : ((ks.zip xs).any fun kv => decide (kv.1 = j)) = hasK ks j := by
  rw [valV_any, valV_zip, vAt_has h]
theorem putK_zip {ks : List Key} {xs : List V} {j : Key} {y : V} (h : ks.length = xs.length) : putK (ks.zip xs) j y = (putKs ks j).zip (putVs ks xs j y) := by
  unfold putK putKs putVs
  rw [any_zip h]
  cases hasK ks j with
  | true => exact rep_zip
  | false =>
    show ks.zip xs ++ [(j, y)] = (ks ++ [j]).zip (xs ++ [y])
    rw [List.zip_append h]
    rfl
section
variable {K : PySem.W.Frag} {S : Bs} {A : List Addr} {G H : Hp} {μ : List Cell}
theorem RpL.vAt : ∀ {ks : List Key} {l : List D} {xs : List V} {j : Key}, RpL K A G l xs → match PA.vAt ks l j with
    | some d => ∃ v, PA.vAt ks xs j = some v ∧ Rp K A G d v
    | none => PA.vAt ks xs j = none
  | [], _, _, _, _ => by
    simp [PA.vAt]
  | k :: ks, _, _, j, .nil => by
    simp [PA.vAt]
  | k :: ks, d :: l, x :: xs, j, .cons h r => by
    have ih := RpL.vAt (ks := ks) (j := j) r
    unfold PA.vAt
    by_cases e : k = j
    · rw [if_pos e, if_pos e]
      exact ⟨x, rfl, h⟩
    · rw [if_neg e, if_neg e]
      exact ih
theorem RpL.vRep : ∀ {ks : List Key} {l : List D} {xs : List V} {j : Key} {d : D} {v : V}, RpL K A G l xs → Rp K A G d v → RpL K A G (PA.vRep ks l j d) (PA.vRep ks xs j v)
  | [], _, _, _, _, _, _, _ => by
    unfold PA.vRep
    exact .nil
  | k :: ks, _, _, j, _, _, .nil, _ => by
    unfold PA.vRep
    exact .nil
  | k :: ks, d :: l, x :: xs, j, y, v, .cons h r, hy => by
    unfold PA.vRep
    refine .cons ?_ (RpL.vRep r hy)
    by_cases e : k = j
    · rw [if_pos e, if_pos e]
      exact hy
    · rw [if_neg e, if_neg e]
      exact h
theorem RpL.putVs {ks : List Key} {l : List D} {xs : List V} {j : Key} {d : D} {v : V} (r : RpL K A G l xs) (h : Rp K A G d v) : RpL K A G (PA.putVs ks l j d) (PA.putVs ks xs j v) := by
  unfold PA.putVs
  split
  · exact r.vRep h
  · exact r.append (.cons h .nil)
end
section
variable {K : PySem.W.Frag} {S : Bs} {A : List Addr} {G H : Hp} {δ : Sl} {μ : List Cell} {td ty tv : TE}
inductive DicD (μ : List Cell) : D → List Key → List D → Prop
  | dic (ks : List Key) (l : List D) : DicD μ (.dic ks l) ks l
  | own {n : Nat} {ks : List Key} {l : List D} (h : μ[n]? = some (.dic ks l)) : DicD μ (.own n) ks l
theorem dic_at (m : Mem K S A G H μ) {x : D} {u : V} {ks : List Key} {l : List D} (r : Rp K A G x u) (h : DicD μ x ks l) : ∃ a xs, u = .ref a ∧ ks.length = xs.length ∧ H a = some (.dK (ks.zip xs)) ∧ RpL K A G l xs := by
  cases h with
  | dic =>
    cases r with
    | dic hn hg rl => exact ⟨_, _, rfl, hn, m.ex _ _ hg, rl⟩
  | own h =>
    cases r with
    | @own _ b hA =>
      obtain ⟨_, xs, hn, hx, rl⟩ := m.cel _ b _ hA h
      exact ⟨b, xs, rfl, hn, hx, rl⟩
/-- d[y] -/
theorem ee_dget {C : D → List Cell → Prop} (h : EE K S td δ μ fun x μ1 => EE K S ty δ μ1 fun y μ2 => ∃ ks l k d, DicD μ2 x ks l ∧ y = .v (kV k) ∧ vAt ks l k = some d ∧ C d μ2) : EE K S (tDGet td ty) δ μ C := fun A G H σ a Q q =>
  h A G H σ a _ fun u x A1 G1 H1 μ1 m1 n1 r1 h1 => h1 A1 G1 H1 σ ⟨m1, n1.en a.env⟩ _ fun w y A2 G2 H2 μ2 m2 n2 r2 ⟨ks, l, k, d, hd, ey, hv, c⟩ => by
    subst ey
    have ew := r2.vOf
    subst ew
    obtain ⟨b, xs, rfl, hn, hx, rl⟩ := dic_at m2 (n2.rp r1) hd
    have z := rl.vAt (ks := ks) (j := k)
    rw [hv] at z
    obtain ⟨v, e, r⟩ := z
    have g := DGet.k (k := k) hx
    rw [valV_zip, e] at g
    exact ⟨b, v, rfl, g, q _ _ A2 G2 H2 μ2 m2 (n1.trans n2) r c⟩
theorem vAt_at {ks : List Key} {l : List D} {xs : List V} {k : Key} (hn : ks.length = xs.length) (rl : RpL K A G l xs) : (vAt ks xs k).isSome = hasK ks k := vAt_has hn
/-- y in d -/
theorem ee_din {C : D → List Cell → Prop} (h : EE K S ty δ μ fun y μ1 => EE K S td δ μ1 fun x μ2 => ∃ ks l k, DicD μ2 x ks l ∧ y = .v (kV k) ∧ C (.bl (hasK ks k)) μ2) : EE K S (tDIn ty td) δ μ C := fun A G H σ a Q q =>
  h A G H σ a _ fun w y A1 G1 H1 μ1 m1 n1 r1 h1 => h1 A1 G1 H1 σ ⟨m1, n1.en a.env⟩ _ fun u x A2 G2 H2 μ2 m2 n2 r2 ⟨ks, l, k, hd, ey, c⟩ => by
    subst ey
    have ew := r1.vOf
    subst ew
    obtain ⟨b, xs, rfl, hn, hx, rl⟩ := dic_at m2 r2 hd
    have g := DGet.k (k := k) hx
    refine ⟨b, _, rfl, g, ?_⟩
    rw [valV_zip, vAt_has hn]
    exact q _ _ A2 G2 H2 μ2 m2 (n1.trans n2) (.v _) c
theorem ee_dnotin {C : D → List Cell → Prop} (h : EE K S ty δ μ fun y μ1 => EE K S td δ μ1 fun x μ2 => ∃ ks l k, DicD μ2 x ks l ∧ y = .v (kV k) ∧ C (.bl (!hasK ks k)) μ2) : EE K S (tDNotIn ty td) δ μ C := fun A G H σ a Q q =>
  h A G H σ a _ fun w y A1 G1 H1 μ1 m1 n1 r1 h1 => h1 A1 G1 H1 σ ⟨m1, n1.en a.env⟩ _ fun u x A2 G2 H2 μ2 m2 n2 r2 ⟨ks, l, k, hd, ey, c⟩ => by
    subst ey
    have ew := r1.vOf
    subst ew
    obtain ⟨b, xs, rfl, hn, hx, rl⟩ := dic_at m2 r2 hd
    have g := DGet.k (k := k) hx
    refine ⟨b, _, rfl, g, ?_⟩
    rw [valV_zip, vAt_has hn]
    exact q _ _ A2 G2 H2 μ2 m2 (n1.trans n2) (.v _) c
/-- {} kept open -/
theorem ee_dnewO {C : D → List Cell → Prop} (k : C (.own μ.length) (μ ++ [.dic [] []])) : EE K S tDNewK δ μ C := fun A G H σ a Q q p hp => by
  have m2 := a.m.openedC (c0 := .dic [] []) (o := .dK []) hp ⟨a.m.ex.free hp, [], rfl, upd_same, .nil⟩
  refine q _ _ (A ++ [p]) G _ _ m2 ⟨⟨[p], rfl⟩, Ex.refl G⟩ (.own ?_) k
  rw [← a.m.len, List.getElem?_append_right (Nat.le_refl _), Nat.sub_self]
  rfl
/-- the pairs of a display -/
def EP (K : PySem.W.Frag) (S : Bs) : List (Key × TE) → Sl → List Cell → (List D → List Cell → Prop) → Prop
  | [], _, μ, C => C [] μ
  | (_, te) :: r, δ, μ, C => EE K S te δ μ fun d μ1 => EP K S r δ μ1 fun ds μ2 => C (d :: ds) μ2
def trsOf : List (Key × TE) → List (TE × TE)
  | [] => []
  | (k, te) :: r => (tC (kV k), te) :: trsOf r
theorem ep_run : ∀ {ts : List (Key × TE)} {δ : Sl} {μ : List Cell} {C : List D → List Cell → Prop}, EP K S ts δ μ C → ∀ A G H σ, At K S A G H σ δ μ → ∀ Q : List (V × V) → Hp → Prop,
    (∀ vs ds A' G' H' μ', Mem K S A' G' H' μ' → Nw A G A' G' → RpL K A' G' ds vs → vs.length = ts.length → C ds μ' → Q (((ts.map (·.1)).zip vs).map fun kv => (kV kv.1, kv.2)) H') → tPairs (trsOf ts) σ H Q
  | [], δ, μ, C, h, A, G, H, σ, a, Q, q => q [] [] A G H μ a.m Nw.refl .nil rfl h
  | (k, te) :: r, δ, μ, C, h, A, G, H, σ, a, Q, q => h A G H σ a _ fun v d A1 G1 H1 μ1 m1 n1 r1 h1 => ep_run h1 A1 G1 H1 σ ⟨m1, n1.en a.env⟩ _ fun vs ds A2 G2 H2 μ2 m2 n2 r2 hl c =>
    q (v :: vs) (d :: ds) A2 G2 H2 μ2 m2 (n1.trans n2) (.cons (n2.rp r1) r2) (congrArg (· + 1) hl) c
theorem merge_new : ∀ {more kvs : List (Key × V)}, (more.map (·.1)).Nodup → (∀ k ∈ more.map (·.1), valV kvs k = none) → mergeK kvs more = kvs ++ more
  | [], kvs, _, _ => (List.append_nil _).symm
  | (k, v) :: more, kvs, hn, hk => by
    rw [List.map_cons, List.nodup_cons] at hn
    show mergeK (putK kvs k v) more = _
    rw [putK_new v (hk k List.mem_cons_self), merge_new hn.2 fun j hj => ?_]
    · rw [List.append_assoc]
      rfl
    · rw [valV_snoc k j v kvs (hk k List.mem_cons_self), if_neg (fun e => hn.1 (by rw [← e]; exact hj)), hk j (List.mem_cons_of_mem _ hj)]
/-- {k: v, ..} kept open -/
theorem ee_dispO (ts : List (Key × TE)) {C : D → List Cell → Prop} (hn : (ts.map (·.1)).Nodup) (hz : ts.length ≤ 15) (h : EP K S ts δ (μ ++ [.dic [] []]) fun ds μ' => μ'[μ.length]? = some (.dic [] []) ∧ C (.own μ.length) (μ'.set μ.length (.dic (ts.map (·.1)) ds))) : EE K S (tDisp (trsOf ts)) δ μ C := fun A G H σ a Q q p hp => by
  have m2 := a.m.openedC (c0 := .dic [] []) (o := .dK []) hp ⟨a.m.ex.free hp, [], rfl, upd_same, .nil⟩
  have n2 : Nw A G (A ++ [p]) G := ⟨⟨[p], rfl⟩, Ex.refl G⟩
  refine ep_run h (A ++ [p]) G _ σ ⟨m2, n2.en a.env⟩ _ fun vs ds A3 G3 H3 μ3 m3 n3 r3 hl ⟨hc, c⟩ => ?_
  have hA : A3[μ.length]? = some p := by
    obtain ⟨B, hB⟩ := n3.pre
    rw [hB, List.append_assoc, ← a.m.len, List.getElem?_append_right (Nat.le_refl _), Nat.sub_self]
    rfl
  obtain ⟨g, xs, hx0, hx, rl⟩ := m3.cel _ p _ hA hc
  cases rl
  have hlen : (ts.map (·.1)).length = vs.length := by rw [List.length_map, hl]
  have hmap : ((ts.map (·.1)).zip vs).map (·.1) = ts.map (·.1) := List.map_fst_zip (by omega)
  refine ⟨hx, (ts.map (·.1)).zip vs, rfl, by rw [List.length_zip, List.length_map, hl, Nat.min_self]; exact hz, ?_⟩
  rw [merge_new (by rw [hmap]; exact hn) (fun _ _ => valV_nil), List.nil_append]
  have m4 := m3.wroteC (c1 := .dic (ts.map (·.1)) ds) (ob := .dK ((ts.map (·.1)).zip vs)) hA hc g ⟨g, vs, (by exact hlen), upd_same, r3⟩
  exact q _ _ A3 G3 _ _ m4 (n2.trans n3) (.own hA) c
/-- d[y] = v, d open -/
theorem se_dput {E : Cn} (h : EE K S tv δ μ fun z μ1 => EE K S td δ μ1 fun x μ2 => EE K S ty δ μ2 fun y μ3 => ∃ n ks l k, x = .own n ∧ y = .v (kV k) ∧ μ3[n]? = some (.dic ks l) ∧ ks.length < 10000000 ∧ E.nx δ (μ3.set n (.dic (putKs ks k) (putVs ks l k z)))) : SE K S (sDPut td ty tv) δ μ E := fun A G H σ a F f =>
  h A G H σ a _ fun v z A1 G1 H1 μ1 m1 n1 r1 h1 => h1 A1 G1 H1 σ ⟨m1, n1.en a.env⟩ _ fun u x A2 G2 H2 μ2 m2 n2 r2 h2 => h2 A2 G2 H2 σ ⟨m2, (n1.trans n2).en a.env⟩ _ fun w y A3 G3 H3 μ3 m3 n3 r3 ⟨n, ks, l, k, ex, ey, hc, hz, c⟩ => by
    subst ex ey
    have ew := r3.vOf
    subst ew
    cases r2 with
    | @own _ b hA =>
      have hA3 : A3[n]? = some b := by
        cases (n3.rp (.own hA : Rp K A2 G2 (.own n) (.ref b))) with
        | own h => exact h
      obtain ⟨g, xs, hn, hx, rl⟩ := m3.cel n b _ hA3 hc
      have hn : ks.length = xs.length := hn
      have hx : H3 b = some (.dK (ks.zip xs)) := hx
      have r1' := (n2.trans n3).rp r1
      have hp := DPut.k (k := k) (v := v) hx (small (by rw [List.length_zip, ← hn, Nat.min_self]; exact hz))
      rw [putK_zip hn] at hp
      refine ⟨b, _, rfl, hp, ?_⟩
      exact f.nx A3 G3 _ σ δ _ ⟨m3.wroteC (c1 := .dic (putKs ks k) (putVs ks l k z)) hA3 hc g ⟨g, _, putD_len hn, upd_same, rl.putVs r1'⟩, ((n1.trans n2).trans n3).en a.env⟩ ((n1.trans n2).trans n3) c
/-- l.insert(i, y), l open -/
theorem mm_insert {C : D → List Cell → Prop} {k i : Nat} {l : List D} {y : D} (hc : μ[k]? = some (.lst l)) (hz : l.length < 10000000) (hi : i < 1000000000) (c : C .non (μ.set k (.lst (l.take i ++ [y] ++ l.drop i)))) : MM K S (fun x vs H Q => ∃ (l : Addr) (xs : List V) (i : Int) (y : V), x = .ref l ∧ vs = [.int i, y] ∧ H l = some (.lst xs) ∧ xs.length < sizeLine ∧ 0 ≤ i ∧ i < 2 ^ 63 ∧
    Q .non (upd H l (.lst (xs.take i.toNat ++ [y] ++ xs.drop i.toNat)))) (.own k) [.int (i : Int), y] μ C := fun A G H u vs m r1 r2 Q q => by
  cases r2 with
  | cons ri rn =>
    have ei := ri.vOf
    subst ei
    cases rn with
    | cons ry rn =>
      cases rn
      cases r1 with
      | own hA =>
        obtain ⟨g, xs, hx, r⟩ := m.cel k _ _ hA hc
        refine ⟨_, xs, (i : Int), _, rfl, rfl, hx, smalr (by rw [← r.len]; exact hz), by omega, by omega, ?_⟩
        rw [Int.toNat_natCast]
        exact q _ _ A G _ _ (m.wrote hA hc (((r.take i).append (.cons ry .nil)).append (r.drop i))) Nw.refl (.v _) c
theorem hu1 {k : Nat} {A : Around} (r : Room k A) : A.units + 1 < cLine := by
  have := r.un
  omega
end
end PA

set_option Elab.async false
set_option linter.all false
set_option maxRecDepth 100000
set_option maxHeartbeats 2000000
/-! PbObj: instances: attributes read and stored, methods called, made; calls that hand in open things that hold one another. -/
namespace PA
open PySem L2
section
variable {α : Type}
def fAt : List Str → List α → Str → Option α
  | n :: ns, x :: l, f => if f = n then some x else fAt ns l f
  | _, _, _ => none
def hasF : List Str → Str → Bool
  | [], _ => false
  | n :: ns, f => if n = f then true else hasF ns f
def fRep : List Str → List α → Str → α → List α
  | n :: ns, x :: l, f, y => if n = f then y :: l else x :: fRep ns l f y
  | _, l, _, y => l ++ [y]
def putN (ns : List Str) (f : Str) : List Str := if hasF ns f then ns else ns ++ [f]
end
theorem fAt_zip : ∀ {ns : List Str} {xs : List V} {f : Str}, (ns.zip xs).lookup f = fAt ns xs f
  | [], _, _ => by simp [fAt]
  | _ :: _, [], _ => by simp [fAt]
  | n :: ns, x :: xs, f => by
    show List.lookup f ((n, x) :: ns.zip xs) = if f = n then some x else fAt ns xs f
    by_cases e : f = n
    · subst e
      rw [if_pos rfl]
      simp [List.lookup]
    · rw [if_neg e, List.lookup, show (f == n) = false from beq_eq_false_iff_ne.mpr e]
      exact fAt_zip
theorem putF_zip : ∀ {ns : List Str} {xs : List V} {f : Str} {y : V}, ns.length = xs.length → putF f y (ns.zip xs) = (putN ns f).zip (fRep ns xs f y) ∧ (putN ns f).length = (fRep ns xs f y).length
  | [], [], f, y, _ => by
    refine ⟨?_, rfl⟩
    simp [putF, putN, fRep, hasF]
  | n :: ns, x :: xs, f, y, h => by
    obtain ⟨i1, i2⟩ := putF_zip (ns := ns) (xs := xs) (f := f) (y := y) (Nat.succ.inj h)
    show (if n = f then (n, y) :: ns.zip xs else (n, x) :: putF f y (ns.zip xs)) = _ ∧ _
    by_cases e : n = f
    · subst e
      rw [if_pos rfl]
      have e1 : putN (n :: ns) n = n :: ns := by
        unfold putN hasF
        rw [if_pos rfl, if_pos rfl]
      have e2 : fRep (n :: ns) (x :: xs) n y = y :: xs := if_pos rfl
      rw [e1, e2]
      exact ⟨rfl, h⟩
    · rw [if_neg e, i1]
      have e1 : putN (n :: ns) f = n :: putN ns f := by
        unfold putN
        rw [show hasF (n :: ns) f = hasF ns f from if_neg e]
        split <;> rfl
      have e2 : fRep (n :: ns) (x :: xs) f y = x :: fRep ns xs f y := if_neg e
      rw [e1, e2]
      exact ⟨rfl, congrArg (· + 1) i2⟩
  | [], _ :: _, _, _, h => nomatch h
  | _ :: _, [], _, _, h => nomatch h
section
variable {K : PySem.W.Frag} {A : List Addr} {G : Hp}
theorem RpL.fAt : ∀ {ns : List Str} {l : List D} {xs : List V} {f : Str} {d : D}, RpL K A G l xs → PA.fAt ns l f = some d → ∃ v, PA.fAt ns xs f = some v ∧ Rp K A G d v
  | [], _, _, _, _, _, h => by simp [PA.fAt] at h
  | n :: ns, _, _, f, _, .nil, h => by simp [PA.fAt] at h
  | n :: ns, d :: l, x :: xs, f, d', .cons h r, e => by
    unfold PA.fAt at e ⊢
    by_cases q : f = n
    · rw [if_pos q] at e ⊢
      cases e
      exact ⟨x, rfl, h⟩
    · rw [if_neg q] at e ⊢
      exact RpL.fAt r e
theorem RpL.fNo : ∀ {ns : List Str} {l : List D} {xs : List V} {f : Str}, RpL K A G l xs → PA.fAt ns l f = none → PA.fAt ns xs f = none
  | [], _, _, _, _, _ => by simp [PA.fAt]
  | n :: ns, _, _, f, .nil, h => by simp [PA.fAt]
  | n :: ns, d :: l, x :: xs, f, .cons h r, e => by
    unfold PA.fAt at e ⊢
    by_cases q : f = n
    · rw [if_pos q] at e
      cases e
    · rw [if_neg q] at e ⊢
      exact RpL.fNo r e
theorem RpL.fRep : ∀ {ns : List Str} {l : List D} {xs : List V} {f : Str} {d : D} {v : V}, RpL K A G l xs → Rp K A G d v → RpL K A G (PA.fRep ns l f d) (PA.fRep ns xs f v)
  | [], _, _, _, _, _, r, h => by
    unfold PA.fRep
    exact r.append (.cons h .nil)
  | n :: ns, _, _, f, _, _, .nil, h => by
    unfold PA.fRep
    exact .cons h .nil
  | n :: ns, d :: l, x :: xs, f, y, v, .cons h r, hy => by
    unfold PA.fRep
    by_cases q : n = f
    · rw [if_pos q, if_pos q]
      exact .cons hy r
    · rw [if_neg q, if_neg q]
      exact .cons h (RpL.fRep r hy)
end
section
variable {K : PySem.W.Frag} {S : Bs} {A : List Addr} {G H : Hp} {δ : Sl} {μ ν : List Cell} {te tv : TE} {ta : TA} {C : D → List Cell → Prop} {E : XK} {T : Type} {CE : Addr → D → List Cell → Prop}
theorem ObjAt.at' (m : Mem K S A G H μ) {k : Nat} {u : V} {c dx : Addr} {ns : List Str} {l : List D} (r : Rp K A G (.own k) u) (h : μ[k]? = some (.obj c dx ns l)) : ∃ a xs, A[k]? = some a ∧ u = .ref a ∧ G a = none ∧ ns.length = xs.length ∧ H a = some (.ins c dx (ns.zip xs)) ∧ RpL K A G l xs := by
  cases r with
  | @own _ b hA =>
    obtain ⟨g, xs, hn, hx, rl⟩ := m.cel _ b _ hA h
    exact ⟨b, xs, hA, rfl, g, hn, hx, rl⟩
/-- o.f -/
theorem ee_fld {f : Str} (h : EE K S te δ μ fun x μ1 => ∃ k c dx ns l d, x = .own k ∧ μ1[k]? = some (.obj c dx ns l) ∧ Cls K c ∧ NoAttr K c f ∧ fAt ns l f = some d ∧ C d μ1) : EE K S (tFld K te f) δ μ C := fun A G H σ a Q q =>
  h A G H σ a _ fun u x A1 G1 H1 μ1 m1 n1 r1 ⟨k, c, dx, ns, l, d, ex, hc, cl, na, hf, hC⟩ => by
    subst ex
    obtain ⟨b, xs, hA, rfl, g, hn, hx, rl⟩ := ObjAt.at' m1 r1 hc
    obtain ⟨v, hv, rv⟩ := rl.fAt hf
    exact ⟨b, c, dx, _, v, rfl, hx, cl, na, by rw [fAt_zip]; exact hv, q v d A1 G1 H1 μ1 m1 n1 rv hC⟩
/-- o.f = e -/
theorem se_fld {f : Str} {F0 : Cn} (h : EE K S tv δ μ fun z μ1 => EE K S te δ μ1 fun x μ2 => ∃ k c dx ns l, x = .own k ∧ μ2[k]? = some (.obj c dx ns l) ∧ Cls K c ∧ NoAttr K c f ∧ ns.length < 1000 ∧ F0.nx δ (μ2.set k (.obj c dx (putN ns f) (fRep ns l f z)))) : SE K S (sFld K te tv f) δ μ F0 := fun A G H σ a F fi =>
  h A G H σ a _ fun v z A1 G1 H1 μ1 m1 n1 r1 h1 => h1 A1 G1 H1 σ ⟨m1, n1.en a.env⟩ _ fun u x A2 G2 H2 μ2 m2 n2 r2 ⟨k, c, dx, ns, l, ex, hc, cl, na, hz, hC⟩ => by
    subst ex
    obtain ⟨b, xs, hA, rfl, g, hn, hx, rl⟩ := ObjAt.at' m2 r2 hc
    obtain ⟨e1, e2⟩ := putF_zip (f := f) (y := v) hn
    have r1' := n2.rp r1
    refine ⟨b, c, dx, _, rfl, hx, cl, na, by rw [List.length_zip, ← hn, Nat.min_self]; exact hz, ?_⟩
    rw [e1]
    exact fi.nx A2 G2 _ σ δ _ ⟨m2.wroteC (c1 := .obj c dx (putN ns f) (fRep ns l f z)) hA hc g ⟨g, _, e2, upd_same, rl.fRep r1'⟩, (n1.trans n2).en a.env⟩ (n1.trans n2) hC
/-- o.m(..), o in slot i -/
theorem ee_methV {i k : Nat} {c dx : Addr} {m : Str} {sp : Sp} {dds : List V} {ns : List Str} {l : List D} (hi : δ[i]? = some (some (.own k))) (hc : μ[k]? = some (.obj c dx ns l)) (hno : fAt ns l m = none) (h : EE K S (tCall sp dds E (tCons (tVar i) ta)) δ μ C) : EE K S (tMeth c m sp dds E (tVar i) ta) δ μ C := fun A G H σ a Q q => by
  obtain ⟨v, hv, r⟩ := a.env.get hi
  obtain ⟨b, xs, hA, rfl, g, hn, hx, rl⟩ := ObjAt.at' a.m r hc
  obtain ⟨v2, hv2, z⟩ := h A G H σ a Q q
  rw [hv] at hv2
  cases hv2
  exact ⟨_, hv, b, dx, _, rfl, hx, by rw [fAt_zip]; exact rl.fNo hno, z⟩
/-- open things that hold one another, handed in -/
theorem Mem.handH {hs : List Nat} (hn : hs.Nodup) (hlt : ∀ k ∈ hs, k < μ.length) (m : Mem K S A G H μ) (hc : ∀ k ∈ hs, (μ.getD k .off).hs (fun j => hs.contains j) = true) : Mem K ⟨hs.map fun k => A.getD k 0, G, H⟩ (hs.map fun k => A.getD k 0) G H ((hs.map fun k => μ.getD k .off).map (Cell.ren fun k => hs.idxOf k)) := by
  have hltA : ∀ k ∈ hs, k < A.length := fun k hk => by rw [m.len]; exact hlt k hk
  exact {
    ex := m.ex
    exG := Ex.refl G
    pre := ⟨[], (List.append_nil _).symm, fun _ h => by cases h⟩
    new := fun _ h => .inl h
    keep := fun _ _ _ h => h
    cel := fun j a c h1 h2 => by
      rw [List.getElem?_map] at h1
      rw [List.getElem?_map, List.getElem?_map] at h2
      cases q : hs[j]? with
      | none => rw [q] at h1; cases h1
      | some k =>
        rw [q] at h1 h2
        cases h1
        cases h2
        have hk : k ∈ hs := List.mem_of_getElem? q
        have z := m.cel k _ _ (getD_get (hltA k hk)) (getD_cell (hlt k hk))
        exact CellAt.ren (hand_at hltA) z (hc k hk)
    len := by rw [List.length_map, List.length_map, List.length_map]
    nd := by
      refine List.pairwise_map.mpr ?_
      refine List.Pairwise.imp_of_mem (fun {i j} hi hj hij e => hij ?_) hn
      obtain ⟨p1, e1⟩ := List.getElem?_eq_some_iff.mp (getD_get (hltA i hi))
      obtain ⟨p2, e2⟩ := List.getElem?_eq_some_iff.mp (getD_get (hltA j hj))
      exact (List.getElem_inj m.nd).mp (e1.trans (e.trans e2.symm))
    al := fun a ha => by
      obtain ⟨k, hk, rfl⟩ := List.mem_map.mp ha
      exact m.al _ (List.mem_of_getElem? (getD_get (hltA k hk))) }
/-- THE RULE for a call, the open things hs (which may hold one another) handed in -/
theorem ee_callH {cel : T → List Cell} {arg : T → List D} {pre : T → Prop} {post : T → D → List Cell → Prop} {exc : T → Addr → D → List Cell → Prop} {dds : List V} (hs : List Nat) (wi : Wi K S E CE)
    (h : EA K S ta δ μ fun ds μ1 => ∃ t : T, pre t ∧ hs.Nodup ∧ (∀ k ∈ hs, k < μ1.length) ∧ cel t = (hs.map fun k => μ1.getD k .off).map (Cell.ren fun k => hs.idxOf k) ∧ (∀ k ∈ hs, (μ1.getD k .off).hs (fun j => hs.contains j) = true) ∧ D.hsL (fun k => hs.contains k) ds = true ∧ D.renL (fun k => hs.idxOf k) ds ++ dds.map D.v = arg t ∧
      (∀ d ν n, post t d ν → ν.length = n → d.lt n = true → cellsLt n ν = true → hs.length ≤ n → C (d.ren (back hs μ1.length)) (behindC hs μ1.length ν μ1)) ∧ ∀ c d ν, exc t c d ν → ν.length = hs.length → d.lt hs.length = true → cellsLt hs.length ν = true → CE c (d.ren (back hs μ1.length)) (behindC hs μ1.length ν μ1)) :
    EE K S (tCall (Pro K cel arg pre post exc) dds E ta) δ μ C := fun A G H σ a Q q =>
  h A G H σ a _ fun vs ds A1 G1 H1 μ1 m1 n1 r1 ⟨t, hp, hn, hlt, hcel, hcl, hh, ha, hC, hX⟩ => by
    have hltA : ∀ k ∈ hs, k < A1.length := fun k hk => by rw [m1.len]; exact hlt k hk
    have rd : RpL K (hs.map fun k => A1.getD k 0) G1 (arg t) (vs ++ dds) := by
      rw [← ha]
      exact (r1.ren (hand_at hltA) hh).append (RpL.vals dds)
    have hm := m1.handH hn hlt hcl
    rw [← hcel] at hm
    refine ⟨t, _, G1, hp, hm, rd, fun v d B G' H' ν f r c => ?_, fun c dx u d G' H' ν f f1 f2 f3 r c' => ?_⟩
    · have ma := m1.after hn hlt f
      have hl : ν.length = hs.length + B.length := by
        rw [← f.len, List.length_append, List.length_map]
      have hA : (hs.map (fun k => A1.getD k 0) ++ B).length = ν.length := f.len
      refine q v _ (A1 ++ B) G' H' _ ma (n1.trans ⟨⟨B, rfl⟩, f.exG⟩) (r.ren (back_at hltA) (D.hs_true d)) ?_
      rw [m1.len]
      exact hC d ν _ c rfl (by rw [← hA]; exact r.scope) f.scope (by omega)
    · have f' : Mem K ⟨hs.map fun k => A1.getD k 0, G1, H1⟩ ((hs.map fun k => A1.getD k 0) ++ []) G' H' ν := by
        rw [List.append_nil]
        exact f
      have ma := m1.after hn hlt f'
      have hl : ν.length = hs.length := by
        rw [← f.len, List.length_map]
      have r' : Rp K (A1 ++ []) G' (d.ren (back hs A1.length)) u := (by
        have r0 : Rp K ((hs.map fun k => A1.getD k 0) ++ []) G' d u := by
          rw [List.append_nil]
          exact r
        exact r0.ren (back_at hltA) (D.hs_true d))
      rw [m1.len] at ma r'
      have hA2 : (hs.map fun k => A1.getD k 0).length = hs.length := List.length_map _
      exact wi c dx u _ _ G' H' _ ma (m1.freeS f1).1 f2 f3 r' (hX c d ν c' hl (by rw [← hA2]; exact r.scope) (by rw [← hl]; exact f.scope))
/-- C(), its __init__ by its promise: the new instance is its first open thing -/
theorem ee_make0 {c : Addr} {cel : T → List Cell} {arg : T → List D} {pre : T → Prop} {post : T → D → List Cell → Prop}
    (h : ∀ dx, ∃ t : T, pre t ∧ cel t = [.obj c dx [] []] ∧ arg t = [.own 0] ∧ ∀ d ν, post t d ν → ν ≠ [] → d = .non ∧ C (.own μ.length) (behindC [μ.length] (μ.length + 1) ν (μ ++ [.obj c dx [] []]))) :
    EE K S (tMake c (Pro K cel arg pre post (fun _ _ _ _ => False)) [] E tNil) δ μ C := fun A G H σ a Q q => by
  intro x dx hx hdx ne
  obtain ⟨t, hp, hcel, harg, hC⟩ := h dx
  have m := a.m
  -- the instance's own dict, and the instance
  have m1 : Mem K S A G (upd H dx (.own x)) μ := m.grow (m.ex.side (m.ex.free hdx)) (Ex.refl G) (Ex.new hdx) fun p h => .inl h
  have hx1 : upd H dx (.own x) x = none := by rw [upd_ne ne.symm]; exact hx
  have m2 := m1.openedC (c0 := .obj c dx [] []) (o := .ins c dx []) hx1 ⟨m.ex.free hx, [], rfl, upd_same, .nil⟩
  have hlt : ∀ k ∈ [μ.length], k < (μ ++ [Cell.obj c dx [] []]).length := fun k hk => by
    rw [List.mem_singleton.mp hk, List.length_append]
    exact Nat.lt_succ_self _
  have hA : (A ++ [x])[μ.length]? = some x := by
    rw [← m.len, List.getElem?_append_right (Nat.le_refl _), Nat.sub_self]
    rfl
  have hg : (A ++ [x]).getD μ.length 0 = x := by
    rw [List.getD_eq_getElem?_getD, hA]
    rfl
  have hgc : (μ ++ [Cell.obj c dx [] []]).getD μ.length .off = .obj c dx [] [] := by
    rw [List.getD_eq_getElem?_getD, List.getElem?_append_right (Nat.le_refl _), Nat.sub_self]
    rfl
  have hh := m2.hand (hs := [μ.length]) (by simp) hlt (by rw [List.map_cons, List.map_nil, hgc]; rfl)
  rw [List.map_cons, List.map_nil, List.map_cons, List.map_nil, hg, hgc, ← hcel] at hh
  refine ⟨t, [x], G, hp, hh, by rw [harg]; exact .cons (.own rfl) .nil, fun v d B G' H' ν f r c' => ?_, fun _ _ _ _ _ _ _ _ _ _ _ _ z => z.elim⟩
  have f' : Mem K ⟨[μ.length].map fun k => (A ++ [x]).getD k 0, G, upd (upd H dx (.own x)) x (.ins c dx [])⟩ (([μ.length].map fun k => (A ++ [x]).getD k 0) ++ B) G' H' ν := by
    rw [List.map_cons, List.map_nil, hg]
    exact f
  have ma := m2.after (hs := [μ.length]) (by simp) hlt f'
  have hν : ν ≠ [] := fun e => by
    have z := f.len
    rw [e, List.length_append] at z
    simp at z
  obtain ⟨ed, hc⟩ := hC d ν c' hν
  subst ed
  have ev := r.vOf
  refine ⟨ev, ?_⟩
  rw [List.length_append, List.length_singleton] at ma
  rw [← m.len] at hc
  refine q (.ref x) (.own μ.length) ((A ++ [x]) ++ B) G' H' _ ma ⟨⟨[x] ++ B, by rw [List.append_assoc]⟩, f.exG⟩ (.own ?_) ?_
  · rw [List.getElem?_append_left (List.getElem?_eq_some_iff.mp hA).1]
    exact hA
  · rw [m.len] at hc ⊢
    exact hc
end
end PA

set_option Elab.async false
set_option linter.all false
set_option maxRecDepth 100000
set_option maxHeartbeats 2000000
/-! PbCls: the rules that gen.py prints for classes: methods and makers by what stands of them; text that is never reached. -/
namespace PA
open PySem L2
/-- a method of the class that keeps a promise -/
structure CalM (P : Program) (w : World) (K : PySem.W.Frag) (mg : Str → Option Value) (base : Heap) (k : Nat) (C : Addr) (m : Str) (ps : List Str) (sp : Sp) : Prop where
  cl : Cls K C
  ex : ∃ (f : Addr) (fd : FuncData), FnOk P w K mg base (L2.CX P w) k f fd ps sp ∧ Meth K C m f ∧ Binds K fd ps []
/-- the class, made by its __init__ -/
structure CalI (P : Program) (w : World) (K : PySem.W.Frag) (mg : Str → Option Value) (base : Heap) (k : Nat) (x : Str) (C : Addr) (ps : List Str) (sp : Sp) : Prop where
  ex : ∃ (f : Addr) (fd : FuncData), FnOk P w K mg base (L2.CX P w) k f fd ps sp ∧ Mk K C f ∧ mg x = some (.ref C) ∧ Binds K fd ps []
section
variable {X : Cx} {K : PySem.W.Frag} {k j : Nat} {C : Addr} {m x : Str} {ps : List Str} {sp : Sp} {E : XK} {p pos apos : Pos} {e o : Expr} {es : List Expr} {t : TA} {ta te : TE} {f : Str}
theorem pe_m {pl : Sem Bool} (c : CalM X.prog X.w X.K X.mg X.base k C m ps sp) (hr : Room j X.A) (hj : k ≤ j) (hx : Passes (L2.CX X.prog X.w) X E) (he : PE X o ta) (ha : PA X (e :: es) t)
    (hst : starEach (e :: es) X.env = (false, eval e X.env) :: starEach es X.env := by rfl) (hpl : (backTo pos (starEach es X.env)).any (·.1) = false := by rfl)
    (ht : eval (.Call (.Attribute o m apos) (e :: es) [] pos) X.env = (do
      let ov ← eval o X.env
      standAt apos.atName
      let (f, first) ← holding [ov] (getMethod ov m pl)
      callWith pos f first (backTo pos (starEach (e :: es) X.env)) (backToKw pos (keywordEach [] X.env))) := by rfl) : PE X (.Call (.Attribute o m apos) (e :: es) [] pos) (tMeth C m sp [] E ta t) := by
  obtain ⟨f, fd, F, hm, hb⟩ := c.ex
  exact pe_meth he c.cl hm F (hr.mono hj) hb .nil hx ha hst hpl ht
theorem pe_m0 {pl : Sem Bool} (c : CalM X.prog X.w X.K X.mg X.base k C m ps sp) (hr : Room j X.A) (hj : k ≤ j) (hx : Passes (L2.CX X.prog X.w) X E) (he : PE X o ta)
    (ht : eval (.Call (.Attribute o m apos) [] [] pos) X.env = (do
      let ov ← eval o X.env
      standAt apos.atName
      let (f, first) ← holding [ov] (getMethod ov m pl)
      callWith pos f first (backTo pos (starEach [] X.env)) (backToKw pos (keywordEach [] X.env))) := by rfl) : PE X (.Call (.Attribute o m apos) [] [] pos) (tMeth C m sp [] E ta tNil) := by
  obtain ⟨f, fd, F, hm, hb⟩ := c.ex
  exact pe_meth0 he c.cl hm F (hr.mono hj) hb .nil hx ht
theorem pe_mk0 (c : CalI X.prog X.w X.K X.mg X.base k x C ps sp) (hr : Room j X.A) (hj : k + 1 ≤ j) (hg : Gl X x) (hx : Passes (L2.CX X.prog X.w) X E) (hdb : (x == ("__debug__" : Str)) = false := by decide) : PE X (.Call (.Name x p) [] [] pos) (tMake C sp [] E tNil) := by
  obtain ⟨f, fd, F, hM, hm, hb⟩ := c.ex
  exact pe_make0 hM F (hr.mono hj) hg hm hb .nil hx hdb
theorem pe_fldK (h : X.K = K) (he : PE X e te) (hb : attributeBase e f X.env (eval e X.env) = eval e X.env := by rfl) : PE X (.Attribute e f pos) (tFld K te f) := h ▸ pe_fld he hb
theorem ps_fldK {value : Expr} {pos' : Pos} {tv : TE} (h : X.K = K) (ha : PE X o ta) (hv : PE X value tv) (hs : swapsWith value (some (.Attribute o f pos')) pos.line X.env = pure false := by rfl) : PS X (.Assign [.Attribute o f pos'] value pos) (sFld K ta tv f) := h ▸ ps_fld ha hv hs
theorem pe_never : PE X e (fun _ _ _ => False) := ⟨fun _ _ _ _ _ _ h => h.elim⟩
end
section
variable {K : PySem.W.Frag} {S : Bs} {δ : Sl} {μ : List Cell} {te : TE} {C : D → List Cell → Prop}
def rStrI : List V → Hp → VK → Prop := fun xs H Q => ∃ i : Int, xs = [.int i] ∧ i.natAbs.log2 < 1920 ∧ Q (.str (toString i)) H
theorem call_strI {X : Cx} : CallR X (.type "str") rStrI := call_str_int
end
end PA

set_option Elab.async false
set_option linter.all false
set_option maxRecDepth 100000
set_option maxHeartbeats 4000000
namespace PA
open PySem L2
def top (i : Nat) : Stmt := PySem.Challenge.pw_heardandfelt_k37_whole_long_talks.main.body.getD i (.Pass ⟨0, 0, 0, 0⟩)
structure Ad where
  (eReadingError eInvalidCount eInvalidUtterance eInvalidTag eInvalidLog eSpeaker cEMPTY_1 cEMPTY : Addr)
structure Tx (P : Program) (w : World) (K : PySem.W.Frag) (mg : Str → Option Value) (base : Heap) (a : Ad) : Prop where
  b_int : mg "int" = none
  b_range : mg "range" = none
  b_isinstance : mg "isinstance" = none
  b_bool : mg "bool" = none
  b_max : mg "max" = none
  b_all : mg "all" = none
  b_str : mg "str" = none
  b_len : mg "len" = none
  b_tuple : mg "tuple" = none
  b_list : mg "list" = none
  b_dict : mg "dict" = none
  b_sum : mg "sum" = none
  b_zip : mg "zip" = none
  b_min : mg "min" = none
  b_enumerate : mg "enumerate" = none
  cl_Speaker : Cls K a.eSpeaker
  na_state : NoAttr K a.eSpeaker "state"
  na_deeds : NoAttr K a.eSpeaker "deeds"
  na_heard_units : NoAttr K a.eSpeaker "heard_units"
  na_passed_phrases : NoAttr K a.eSpeaker "passed_phrases"
  g_ReadingError : mg "ReadingError" = some (.ref a.eReadingError)
  e_InvalidCount : ErrK P w K mg base "InvalidCount" a.eInvalidCount
  g_InvalidCount : mg "InvalidCount" = some (.ref a.eInvalidCount)
  e_InvalidUtterance : ErrK P w K mg base "InvalidUtterance" a.eInvalidUtterance
  g_InvalidUtterance : mg "InvalidUtterance" = some (.ref a.eInvalidUtterance)
  e_InvalidTag : ErrK P w K mg base "InvalidTag" a.eInvalidTag
  g_InvalidTag : mg "InvalidTag" = some (.ref a.eInvalidTag)
  e_InvalidLog : ErrK P w K mg base "InvalidLog" a.eInvalidLog
  g_InvalidLog : mg "InvalidLog" = some (.ref a.eInvalidLog)
  g_Speaker : mg "Speaker" = some (.ref a.eSpeaker)
  g_EMPTY : mg "EMPTY" = some (.ref a.cEMPTY)
  t_EMPTY_1 : TupK K a.cEMPTY_1 []
  t_EMPTY : TupK K a.cEMPTY [.non, .ref a.cEMPTY_1, .bl false, .bl false]
local macro_rules | `(tactic| walk_at "p1") => `(tactic| first
  | (with_reducible refine se_seq ?_)
  | (with_reducible refine se_asg ?_)
  | (with_reducible refine se_ret ?_)
  | (with_reducible refine se_drop ?_)
  | (with_reducible refine se_if ?_)
  | (with_reducible refine se_next ?_)
  | ((with_reducible apply ee_var); rfl)
  | (with_reducible refine ee_c ?_)
  | (with_reducible refine ee_op ?_)
  | (with_reducible refine ee_un ?_)
  | (with_reducible refine ee_cb ?_)
  | (with_reducible refine ea_cons ?_)
  | (with_reducible refine ea_nil ?_)
  | (with_reducible refine ee_sl ?_)
  | (with_reducible refine eo_none ?_)
  | (with_reducible refine eo_some ?_)
  | (with_reducible refine et_test ?_)
  | (with_reducible refine et_not ?_)
  | (with_reducible refine et_B ?_)
  | (with_reducible refine et_and ?_)
  | (with_reducible refine et_or ?_)
  | (with_reducible refine et_yes ?_)
  | (with_reducible refine ee_andV ?_)
  | (with_reducible refine ee_orV ?_)
  | (with_reducible refine ee_notV ?_)
  | (with_reducible refine ee_if ?_)
  | (with_reducible refine ee_chain ?_)
  | (with_reducible refine oo_add ?_)
  | (with_reducible refine oo_lt ?_)
  | (with_reducible refine oo_le ?_)
  | (with_reducible refine oo_leS ?_)
  | (with_reducible refine oo_ltS ?_)
  | (with_reducible refine oo_I0 ?_)
  | (with_reducible refine cc_int ?_)
  | (with_reducible refine cc_max ?_)
  | (with_reducible refine cc_min ?_)
  | (with_reducible refine uu_neg ?_)
  | (refine oo_eq (by rfl) ?_)
  | (refine oo_ne (by rfl) ?_)
  | (with_reducible refine oo_isN ?_)
  | (with_reducible refine oo_notN ?_)
  | (refine cc_isP (by first | rfl | assumption) ?_)
  | (refine cc_isP2 (by first | rfl | assumption) ?_)
  | (refine cc_isP3 (by first | rfl | assumption) ?_)
  | (with_reducible refine ge_name ?_)
  | (refine gw_name (by decide) ?_)
  | (refine ee_tup ?_)
  | (refine ⟨_, rfl, ?_⟩)
  | (refine ⟨_, _, rfl, ?_⟩)
  | (refine ⟨(rfl : yes = yes), ?_⟩)
  | (refine ⟨Nat.le_of_ble_eq_true rfl, ?_⟩)
  | (refine ⟨fun _ => ?_, fun h => absurd (show true = false from h) (by decide)⟩)
  | (refine ⟨fun h => absurd (show false = true from h) (by decide), fun _ => ?_⟩)
  | (refine ⟨fun _ => ?_, fun h => absurd (show false = true from h) (by decide)⟩)
  | (refine ⟨fun h => absurd (show true = false from h) (by decide), fun _ => ?_⟩))
local macro_rules | `(tactic| walk_at "pp") => `(tactic| repeat walk_at "p1")
local macro_rules | `(tactic| walk_at "p0") => `(tactic| try dsimp only [cxOf])
local macro_rules | `(tactic| walk_at "gp") => `(tactic| dsimp only)
/-! ### the purse -/
def PuOk (n : Nat) (l : List D) : Prop := ∃ p0 p1 p2 p3 : Int, l = [.int p0, .int p1, .int p2, .int p3] ∧ 0 ≤ p1 ∧ p1 < 2147483648 ∧ 0 ≤ p2 ∧ p2 ≤ n ∧ 0 ≤ p3 ∧ p3 ≤ 1000
theorem PuOk.cl {n : Nat} {l : List D} (h : PuOk n l) : D.ltL 0 l = true := by
  obtain ⟨p0, p1, p2, p3, rfl, _⟩ := h
  rfl
theorem mulW {i j : Int} (a b : Nat) (h1 : i.natAbs < 2 ^ a) (h2 : j.natAbs < 2 ^ b) (h0 : 0 < a := by decide) (h3 : 0 < b := by decide) (h : a + b ≤ 1000000 := by decide) : CMulW i j := wide_mul h1 h2 h0 h3 h
abbrev spMixed (K : PySem.W.Frag) : Sp := ProP K (T := Int × Int × Int) (fun t => [.int t.1, .int t.2.1, .int t.2.2]) (fun t => 0 ≤ t.1 ∧ t.1 < 2147483648 ∧ 0 ≤ t.2.1 ∧ t.2.1 < 1000000003 ∧ 0 ≤ t.2.2 ∧ t.2.2 ≤ 1000) (fun _ d => ∃ v : Int, d = .int v ∧ 0 ≤ v ∧ v < 2147483648) (fun _ _ _ => False)
abbrev st__law_mixed : Stmt := top 38
abbrev nm__law_mixed : List Str := ["seed", "spin", "at", "mixed"]
theorem sc__law_mixed : FnScope nm__law_mixed ["seed", "spin", "at"] (defScope st__law_mixed) := ⟨rfl, rfl, rfl, by decide +kernel, rfl, by decide +kernel, by decide +kernel⟩
theorem ok_mixed {P : Program} {w : World} {K : PySem.W.Frag} {mg : Str → Option Value} {base : Heap} {a : Ad} {f : Addr} {fd : FuncData} (F : Fun K "_law_mixed" "_law_mixed" st__law_mixed f fd) (T : Tx P w K mg base a) : FnOk P w K mg base (L2.CX P w) 1 f fd ["seed", "spin", "at"] (spMixed K) := by
  refine F.okX sc__law_mixed (fun vs H Q E h => pro_len h fun _ => rfl) (fun cdv A outer s H vs Q E hr h => ⟨_, (pss_cons (ps_set (i := 3) sc__law_mixed.nd rfl (by first | exact Or.inl rfl | exact Or.inr rfl) (pe_op (kO K rPlus rfl op_plus) (pe_op op_timesU (pv 0) pe_int) (pe_op op_timesU (pe_op op_timesU pe_int (pv 1)) (pv 1))))
    (pss_cons (ps_set (i := 3) sc__law_mixed.nd rfl (by first | exact Or.inl rfl | exact Or.inr rfl) (pe_op op_mod (pe_callTy call_int1 (by rfl) T.b_int (by decide +kernel) (pa_cons (pe_op (kO K rPlus rfl op_plus) (pe_op (kO K rPlus rfl op_plus) (pv 3) (pe_op op_timesU pe_int (pv 2))) (pv 1)) pa_nil)) pe_int))
    (pss_cons (ps_set (i := 3) sc__law_mixed.nd rfl (by first | exact Or.inl rfl | exact Or.inr rfl) (pe_op op_mod (pe_callTy call_int1 (by rfl) T.b_int (by decide +kernel) (pa_cons (pe_op (kO K rPlus rfl op_plus) (pe_op op_timesU (pv 3) (pv 3)) pe_int) pa_nil)) pe_int))
    (pss_one (ps_ret (pe_op op_mod (pe_callTy call_int1 (by rfl) T.b_int (by decide +kernel) (pa_cons (pe_op op_timesU (pv 3) pe_int) pa_nil)) pe_int)))))), run_body h fun ⟨s, n, at'⟩ S ⟨h1, h2, h3, h4, h5, h6⟩ hl hcl wi => ?_⟩)
  dsimp only at h1 h2 h3 h4 h5 h6
  walk_at "p0"
  have m1 : 0 ≤ n * n ∧ n * n ≤ 1000000003 * 1000000003 := ⟨Int.mul_nonneg h3 h3, Int.mul_le_mul (by omega) (by omega) h3 (by omega)⟩
  walk_at "pp"
  refine oo_mul (mulW 32 40 (by omega) (by decide)) ?_
  walk_at "pp"
  refine oo_mul (mulW 40 32 (by decide) (by omega)) ?_
  walk_at "pp"
  refine oo_mul (mulW 70 32 (by omega) (by omega)) ?_
  walk_at "pp"
  refine oo_mul (mulW 40 32 (by decide) (by omega)) ?_
  walk_at "pp"
  refine oo_mod (by decide) ?_
  walk_at "pp"
  have b1 := Int.emod_nonneg (s * 69069 + 104729 * n * n + 7919 * at' + n) (show (2147483647 : Int) ≠ 0 by decide)
  have b2 := Int.emod_lt_of_pos (s * 69069 + 104729 * n * n + 7919 * at' + n) (show (0 : Int) < 2147483647 by decide)
  refine oo_mul (mulW 32 32 (by omega) (by omega)) ?_
  walk_at "pp"
  refine oo_mod (by decide) ?_
  walk_at "pp"
  generalize (s * 69069 + 104729 * n * n + 7919 * at' + n) % 2147483647 = z
  have b3 := Int.emod_nonneg (z * z + 40503) (show (2147483629 : Int) ≠ 0 by decide)
  have b4 := Int.emod_lt_of_pos (z * z + 40503) (show (0 : Int) < 2147483629 by decide)
  refine oo_mul (mulW 32 32 (by omega) (by omega)) ?_
  walk_at "pp"
  refine oo_mod (by decide) ?_
  walk_at "pp"
  have b5 := Int.emod_nonneg ((z * z + 40503) % 2147483629 * 48271) (show (2147483587 : Int) ≠ 0 by decide)
  have b6 := Int.emod_lt_of_pos ((z * z + 40503) % 2147483629 * 48271) (show (0 : Int) < 2147483587 by decide)
  walk_at "gp"
  refine gaveP hl (by rfl) ?_
  exact ⟨_, rfl, b5, by omega⟩
theorem bits_le {m : Int} (h0 : 0 < m) (h : m ≤ 1000000) : Builtin.Int.intBits m ≤ 27 := by
  have h1 : m.natAbs.log2 < 27 := by
    rw [Nat.log2_lt (by omega)]
    have : (1000000 : Nat) < 2 ^ 27 := by decide
    omega
  unfold Builtin.Int.intBits
  split <;> omega
abbrev spDraw (K : PySem.W.Frag) : Sp := Pro K (T := List D × Int × Nat) (fun t => [.lst t.1]) (fun t => [.own 0, .int t.2.1]) (fun t => PuOk t.2.2 t.1 ∧ 0 < t.2.1 ∧ t.2.1 ≤ 1000000 ∧ t.2.2 ≤ 1000000000)
  (fun t d μ => ∃ (v : Int) (l' : List D), d = .int v ∧ 0 ≤ v ∧ v < t.2.1 ∧ μ = [.lst l'] ∧ PuOk (t.2.2 + 1) l') (fun _ _ _ _ => False)
abbrev st__law_draw : Stmt := top 39
abbrev nm__law_draw : List Str := ["purse", "many", "drawn", "found", "piece"]
theorem sc__law_draw : FnScope nm__law_draw ["purse", "many"] (defScope st__law_draw) := ⟨rfl, rfl, rfl, by decide +kernel, rfl, by decide +kernel, by decide +kernel⟩
theorem ok_draw {P : Program} {w : World} {K : PySem.W.Frag} {mg : Str → Option Value} {base : Heap} {a : Ad} {f : Addr} {fd : FuncData} (F : Fun K "_law_draw" "_law_draw" st__law_draw f fd) (T : Tx P w K mg base a)
    (c__law_mixed : CalX P w K mg base 1 "_law_mixed" ["seed", "spin", "at"] (spMixed K)) : FnOk P w K mg base (L2.CX P w) 2 f fd ["purse", "many"] (spDraw K) := by
  refine F.okX sc__law_draw (fun vs H Q E h => pro_len h fun _ => rfl) (fun cdv A outer s H vs Q E hr h => ⟨_, (pss_cons (ps_if (pt_cmpR op_gt (pe_ix (kX K rIx rfl ix_seq) (pv 0) pe_int (fun _ _ => rfl)) pe_int (nomark _)) (pss_cons (ps_set (i := 2) sc__law_draw.nd rfl (by first | exact Or.inl rfl | exact Or.inr rfl) (pe_op op_mod (pe_callTy call_int1 (by rfl) T.b_int (by decide +kernel) (pa_cons (pe_ix (kX K rIx rfl ix_seq) (pv 0) pe_int (fun _ _ => rfl)) pa_nil)) (pv 1)))
    (pss_cons (ps_asg (pe_op op_fdivW (pe_ix (kX K rIx rfl ix_seq) (pv 0) pe_int (fun _ _ => rfl)) (pv 1)) (pg_sub (pv 0) pe_int pset_list))
    (pss_one (ps_ret (pv 2))))) pss_nil)
    (pss_cons (ps_set (i := 3) sc__law_draw.nd rfl (by first | exact Or.inl rfl | exact Or.inr rfl) pe_int)
    (pss_cons (ps_for (passes_of rfl) rfl (pi_range1 rfl T.b_range (pa_cons (pe_op (kO K rPlus rfl op_plus) pe_int (pe_op op_fdivW (pe_bits (pv 1)) pe_int)) pa_nil)) (pg_name (i := 4) sc__law_draw.nd rfl (by first | exact Or.inl rfl | exact Or.inr rfl))
      (pss_cons (ps_asg (pe_op (kO K rPlus rfl op_plus) (pe_ix (kX K rIx rfl ix_seq) (pv 0) pe_int (fun _ _ => rfl)) pe_int) (pg_sub (pv 0) pe_int pset_list))
    (pss_one (ps_set (i := 3) sc__law_draw.nd rfl (by first | exact Or.inl rfl | exact Or.inr rfl) (pe_op (kO K rPlus rfl op_plus) (pe_op op_timesU (pv 3) pe_int) (pe_c c__law_mixed hr (by first | decide | exact Nat.le_refl _) rfl (passes_call (takes_of rfl rfl rfl rfl) (fun _ _ _ _ h => h)) (pa_cons (pe_ix (kX K rIx rfl ix_seq) (pv 0) pe_int (fun _ _ => rfl)) (pa_cons (pe_ix (kX K rIx rfl ix_seq) (pv 0) pe_int (fun _ _ => rfl)) (pa_cons (pe_ix (kX K rIx rfl ix_seq) (pv 0) pe_int (fun _ _ => rfl)) pa_nil)))))))))
    (pss_one (ps_ret (pe_op op_mod (pe_callTy call_int1 (by rfl) T.b_int (by decide +kernel) (pa_cons (pv 3) pa_nil)) (pv 1))))))), run_body h fun ⟨l, m, n⟩ S ⟨⟨p0, p1, p2, p3, el, h1, h2, h3, h4, h5, h6⟩, hm0, hm1, hn⟩ hl hcl wi => ?_⟩)
  dsimp only at el hm0 hm1 hn h1 h2 h3 h4 h5 h6
  subst el
  have hS : S.A.length = 1 := hl
  walk_at "p0"
  have q : ∀ {d : D} {μ : List Cell} {C : D → List Cell → Prop} {l : List D} {i : Int}, μ[0]? = some (.lst l) → atI l i = some d → C d μ → OO K S (rIx K) (.own 0) (.int i) μ C := fun h1 h2 h3 => oo_ixO h1 h2 h3
  walk_at "pp"
  refine q rfl rfl ?_
  walk_at "pp"
  refine ⟨fun hb => ?_, fun hb => ?_⟩
  · walk_at "pp"
    refine q rfl rfl ?_
    walk_at "pp"
    refine oo_mod hm0 ?_
    walk_at "pp"
    refine se_asgG ?_
    walk_at "pp"
    refine q rfl rfl ?_
    walk_at "pp"
    refine oo_div (wide_div hm0 (b := 40) (by omega) (by decide) (by decide)) ?_
    refine ge_setL ?_
    walk_at "pp"
    refine ⟨0, 0, 0, _, rfl, rfl, rfl, rfl, ?_⟩
    walk_at "pp"
    walk_at "gp"
    refine gave1 hS (by rfl) (by rfl) ?_
    exact ⟨p0 % m, _, rfl, Int.emod_nonneg _ (by omega), Int.emod_lt_of_pos _ hm0, rfl, ⟨p0 / m, p1, p2, p3, rfl, h1, h2, h3, by omega, h5, h6⟩⟩
  · walk_at "pp"
    refine se_for (ie_rng1 ?_)
    walk_at "pp"
    refine ee_bits ?_
    walk_at "pp"
    refine oo_div (wide_div (by decide) (b := 40) (by decide) (by decide) (by decide)) ?_
    walk_at "pp"
    have hbit := bits_le hm0 hm1
    have e1 : (1 + ((Builtin.Int.intBits m : Nat) : Int) / 28) = 1 := by omega
    refine ⟨by rw [e1]; decide, by rw [e1]; decide, ?_⟩
    rw [e1]
    refine ⟨rfl, fun i δ μ => ∃ (fo : Int) (o : Option D) (l' : List D), δ = [some (.own 0), some (.int m), none, some (.int fo), o] ∧ μ = [.lst l'] ∧ 0 ≤ fo ∧ (i = 0 → fo = 0) ∧ PuOk (n + i) l', ⟨0, none, _, rfl, rfl, by decide, fun _ => rfl, ⟨p0, p1, p2, p3, rfl, h1, h2, h3, by omega, h5, h6⟩⟩, ?_, ?_⟩
    · rintro i x δ μ hi ⟨fo, o, l', rfl, rfl, f0, f1, ⟨p0, p1, p2, p3, rfl, h1, h2, h3, h4, h5, h6⟩⟩
      have hi0 : i = 0 := by
        have := (List.getElem?_eq_some_iff.mp hi).1
        have hl1 : (rng 0 (1 : Int).toNat).length = 1 := rfl
        omega
      subst hi0
      have fo0 := f1 rfl
      subst fo0
      walk_at "pp"
      refine se_asgG ?_
      walk_at "pp"
      refine q rfl rfl ?_
      walk_at "pp"
      refine ge_setL ?_
      walk_at "pp"
      refine ⟨0, 2, 2, _, rfl, rfl, rfl, rfl, ?_⟩
      walk_at "pp"
      refine oo_mul (mulW 32 40 (by decide) (by decide)) ?_
      walk_at "pp"
      refine ee_cz ?_
      walk_at "pp"
      refine q rfl rfl ?_
      walk_at "pp"
      refine q rfl rfl ?_
      walk_at "pp"
      refine q rfl rfl ?_
      walk_at "pp"
      refine ⟨(p1, p2 + 1, p3), ⟨h1, h2, by show 0 ≤ p2 + 1; omega, by show p2 + 1 < _; omega, h5, h6⟩, rfl, rfl, ?_⟩
      rintro r ⟨v, rfl, v0, v1⟩
      walk_at "pp"
      exact ⟨_, _, _, rfl, rfl, by omega, fun z => by omega, ⟨p0, p1, p2 + 1, p3, rfl, h1, h2, by omega, by omega, h5, h6⟩⟩
    · rintro δ μ ⟨fo, o, l', rfl, rfl, f0, f1, hp⟩
      walk_at "pp"
      refine oo_mod hm0 ?_
      walk_at "pp"
      walk_at "gp"
      refine gave1 hS (by rfl) hp.cl ?_
      exact ⟨fo % m, _, rfl, Int.emod_nonneg _ (by omega), Int.emod_lt_of_pos _ hm0, rfl, hp⟩


/-! the plain speech: things that stand, deeds, events -/
structure Th where
  say : Nat
  rank : Nat
  phs : List (List Str)
  tag : Str
  ph : Nat
  un : Nat
structure Stt where
  said : Option Th
  wt : List Th
  held : Bool
  stp : Bool
inductive Ev
  | cut (n : Nat) (tag : Str) (ph un : Nat)
  | out (n : Nat) (tag : Str)
  | heard (n : Nat) (tag u : Str)
  | passed (n : Nat) (tag : Str) (ph : Nat)
  | done (n : Nat) (tag : Str)
inductive Deed
  | say (r : Nat) (ps : List (List Str)) (tag : Str)
  | tick (k : Nat)
  | drop (tag : Str)
  | hold
  | go
  | stop
def stand (s : Stt) : List Th := s.said.toList ++ s.wt
def aheadB (t : Th) (c : Bool) (o : Th) : Bool := decide (t.rank < o.rank) || (decide (o.rank = t.rank) && !c)
def putIn (w : List Th) (t : Th) (c : Bool) : List Th := w.filter (aheadB t c) ++ [t] ++ w.drop (w.filter (aheadB t c)).length
def cutOff (s : Stt) : Stt × List Ev := match s.said with
  | none => (s, [])
  | some t => (⟨none, putIn s.wt { t with un := 0 } true, s.held, s.stp⟩, [.cut t.say t.tag t.ph t.un])
def goneB (rs : List Nat) (tag : Option Str) (t : Th) : Bool := decide (t.rank ∈ rs) || (match tag with | none => false | some g => decide (t.tag = g))
def clear (s : Stt) (rs : List Nat) (tag : Option Str) : Stt × List Ev :=
  (⟨s.said.filter fun t => !goneB rs tag t, s.wt.filter fun t => !goneB rs tag t, s.held, s.stp⟩, ((stand s).filter (goneB rs tag)).map fun t => .out t.say t.tag)
def phOf (t : Th) : List Str := t.phs.getD t.ph []
def unitOf (t : Th) : Str := (phOf t).getD t.un (Str.ofString "")
def stepT (t : Th) (w : List Th) : Stt × List Ev :=
  if t.un + 1 < (phOf t).length then (⟨some { t with un := t.un + 1 }, w, false, false⟩, [.heard t.say t.tag (unitOf t)])
  else if t.ph + 1 < t.phs.length then (⟨some { t with ph := t.ph + 1, un := 0 }, w, false, false⟩, [.heard t.say t.tag (unitOf t), .passed t.say t.tag t.ph])
  else (⟨none, w, false, false⟩, [.heard t.say t.tag (unitOf t), .passed t.say t.tag t.ph, .done t.say t.tag])
def tick (s : Stt) : Stt × List Ev := if s.held then ({ s with stp := false }, []) else match stand s with
  | [] => ({ s with stp := false }, [])
  | t :: w => stepT t w
def ticks : Nat → Stt → Stt × List Ev
  | 0, s => (s, [])
  | n + 1, s => ((ticks n (tick s).1).1, (tick s).2 ++ (ticks n (tick s).1).2)
def doDeed (s : Stt) (n : Nat) : Deed → Stt × List Ev
  | .say r ps tag =>
    let a := if r = 3 then clear s [1, 3] none else (s, [])
    let b := if (a.1.said.any fun t => decide (t.rank < r)) = true then cutOff a.1 else (a.1, [])
    (⟨b.1.said, putIn b.1.wt ⟨n, r, ps, tag, 0, 0⟩ false, b.1.held, false⟩, a.2 ++ b.2)
  | .tick k => ({ (ticks k s).1 with stp := false }, (ticks k s).2)
  | .drop tag => clear s [] (some tag)
  | .hold => ({ (cutOff s).1 with held := true }, (cutOff s).2)
  | .go => ({ s with held := false }, [])
  | .stop => ({ (clear s (if s.stp then [1, 2, 3] else [1, 3]) none).1 with stp := true }, (clear s (if s.stp then [1, 2, 3] else [1, 3]) none).2)
def s0 : Stt := ⟨none, [], false, false⟩
/-! what holds throughout -/
def strC (s : Str) : Prop := PySem.PyData.canLay0 (.str s) = true
structure OkT (t : Th) : Prop where
  rk : 1 ≤ t.rank ∧ t.rank ≤ 3
  ne : ∀ p ∈ t.phs, p ≠ []
  ph : t.ph < t.phs.length
  un : t.un < (phOf t).length
  sz : t.phs.flatten.length ≤ 10
  st : (∀ p ∈ t.phs, ∀ u ∈ p, strC u) ∧ strC t.tag
def Sorted (w : List Th) : Prop := w.Pairwise fun x y => y.rank ≤ x.rank
structure Ok (n : Nat) (s : Stt) : Prop where
  all : ∀ t ∈ stand s, OkT t ∧ t.say < n
  nd : ((stand s).map Th.say).Nodup
  so : Sorted s.wt
theorem ahead_mono {t x y : Th} {c : Bool} (h : y.rank ≤ x.rank) (hx : aheadB t c x = false) : aheadB t c y = false := by
  unfold aheadB at *
  rw [Bool.or_eq_false_iff, decide_eq_false_iff_not, Bool.and_eq_false_iff, decide_eq_false_iff_not] at *
  refine ⟨by omega, ?_⟩
  rcases hx.2 with h2 | h2
  · exact .inl (by omega)
  · exact .inr h2
theorem sorted_split {t : Th} {c : Bool} : ∀ {w : List Th}, Sorted w → w.take (w.filter (aheadB t c)).length = w.filter (aheadB t c) ∧ w.drop (w.filter (aheadB t c)).length = w.filter fun x => !aheadB t c x
  | [], _ => ⟨rfl, rfl⟩
  | x :: w, h => by
    have hw : Sorted w := (List.pairwise_cons.mp h).2
    obtain ⟨i1, i2⟩ := sorted_split (t := t) (c := c) hw
    cases q : aheadB t c x with
    | true =>
      rw [List.filter_cons_of_pos q, List.filter_cons_of_neg (by rw [q]; decide)]
      exact ⟨congrArg (x :: ·) i1, i2⟩
    | false =>
      have hall : ∀ y ∈ w, aheadB t c y = false := fun y hy => ahead_mono ((List.pairwise_cons.mp h).1 y hy) q
      rw [List.filter_cons_of_neg (by rw [q]; decide), List.filter_cons_of_pos (by rw [q]; rfl), List.filter_eq_nil_iff.mpr fun y hy => by rw [hall y hy]; decide, List.filter_eq_self.mpr fun y hy => by rw [hall y hy]; rfl]
      exact ⟨rfl, rfl⟩
theorem putIn_eq {w : List Th} {t : Th} {c : Bool} (h : Sorted w) : putIn w t c = w.filter (aheadB t c) ++ t :: w.filter fun x => !aheadB t c x := by
  unfold putIn
  rw [(sorted_split h).2, List.append_assoc]
  rfl
theorem putIn_take {w : List Th} {t : Th} {c : Bool} (h : Sorted w) : w.take (w.filter (aheadB t c)).length ++ [t] ++ w.drop (w.filter (aheadB t c)).length = putIn w t c := by
  unfold putIn
  rw [(sorted_split h).1]
theorem putIn_perm {w : List Th} {t : Th} {c : Bool} (h : Sorted w) : (putIn w t c).Perm (t :: w) := by
  rw [putIn_eq h]
  refine List.perm_middle.trans (List.Perm.cons t ?_)
  exact List.filter_append_perm (aheadB t c) w
theorem putIn_sorted {w : List Th} {t : Th} {c : Bool} (h : Sorted w) : Sorted (putIn w t c) := by
  rw [putIn_eq h]
  refine List.pairwise_append.mpr ⟨h.filter _, List.pairwise_cons.mpr ⟨fun y hy => ?_, h.filter _⟩, fun x hx y hy => ?_⟩
  · have := (List.mem_filter.mp hy).2
    unfold aheadB at this
    simp at this
    omega
  · have hx := (List.mem_filter.mp hx).2
    unfold aheadB at hx
    simp at hx
    rcases List.mem_cons.mp hy with rfl | hy
    · rcases hx with hx | hx
      · omega
      · omega
    · have hy := (List.mem_filter.mp hy).2
      unfold aheadB at hy
      simp at hy
      omega
theorem Ok.said {n : Nat} {s : Stt} (h : Ok n s) {t : Th} (e : s.said = some t) : OkT t ∧ t.say < n := h.all t (by unfold stand; rw [e]; exact List.mem_append_left _ List.mem_cons_self)
theorem okt_reset {t : Th} (h : OkT t) : OkT { t with un := 0 } := ⟨h.rk, h.ne, h.ph, Nat.lt_of_le_of_lt (Nat.zero_le _) h.un, h.sz, h.st⟩
theorem ok_of_perm {n m : Nat} {s s' : Stt} (h : Ok n s) (hm : n ≤ m) (hp : ((stand s').map Th.say).Perm ((stand s).map Th.say)) (ha : ∀ t ∈ stand s', OkT t) (so : Sorted s'.wt) : Ok m s' := by
  refine ⟨fun t ht => ⟨ha t ht, ?_⟩, hp.nodup_iff.mpr h.nd, so⟩
  have : t.say ∈ (stand s).map Th.say := hp.mem_iff.mp (List.mem_map_of_mem ht)
  obtain ⟨u, hu, e⟩ := List.mem_map.mp this
  have := (h.all u hu).2
  omega
theorem cut_stand {s : Stt} {t : Th} (e : s.said = some t) (so : Sorted s.wt) : (stand (cutOff s).1).Perm ({ t with un := 0 } :: s.wt) := by
  unfold cutOff
  rw [e]
  exact putIn_perm so
theorem cut_ok {n : Nat} {s : Stt} (h : Ok n s) : Ok n (cutOff s).1 := by
  cases e : s.said with
  | none =>
    have : cutOff s = (s, []) := by unfold cutOff; rw [e]
    rw [this]
    exact h
  | some t =>
    have hp := cut_stand e h.so
    have hs : stand s = t :: s.wt := by unfold stand; rw [e]; rfl
    refine ok_of_perm h (Nat.le_refl n) ?_ (fun u hu => ?_) ?_
    · rw [hs]
      exact hp.map _
    · rcases List.mem_cons.mp (hp.mem_iff.mp hu) with rfl | hu
      · exact okt_reset (h.said e).1
      · exact (h.all u (by rw [hs]; exact List.mem_cons_of_mem _ hu)).1
    · unfold cutOff
      rw [e]
      exact putIn_sorted h.so
theorem clear_stand {s : Stt} {rs : List Nat} {tag : Option Str} : stand (clear s rs tag).1 = (stand s).filter fun t => !goneB rs tag t := by
  obtain ⟨sd, w, h, st⟩ := s
  show (sd.filter fun t => !goneB rs tag t).toList ++ w.filter _ = (sd.toList ++ w).filter _
  rw [List.filter_append]
  cases sd with
  | none => rfl
  | some t =>
    show (Option.filter _ (some t)).toList ++ _ = List.filter _ [t] ++ _
    cases q : goneB rs tag t with
    | true => simp [Option.filter, q]
    | false => simp [Option.filter, q]
theorem clear_ok {n : Nat} {s : Stt} {rs : List Nat} {tag : Option Str} (h : Ok n s) : Ok n (clear s rs tag).1 := by
  refine ⟨fun t ht => ?_, ?_, ?_⟩
  · rw [clear_stand] at ht
    exact h.all t (List.mem_filter.mp ht).1
  · rw [clear_stand]
    exact h.nd.sublist (List.Sublist.map _ List.filter_sublist)
  · exact h.so.filter _
/-- what is left of a thing -/
def leftU (t : Th) : List Str := (t.phs.drop t.ph).flatten.drop t.un
def unitsOf (s : Stt) : List (Str × Str) := (stand s).flatMap fun t => (leftU t).map fun u => (t.tag, u)


def heardE : List Ev → List (Str × Str)
  | [] => []
  | .heard _ g u :: l => (g, u) :: heardE l
  | _ :: l => heardE l
/-- (say, is it done) -/
def endsE : List Ev → List (Nat × Bool)
  | [] => []
  | .done n _ :: l => (n, true) :: endsE l
  | .out n _ :: l => (n, false) :: endsE l
  | _ :: l => endsE l
theorem endsE_app : ∀ {l m : List Ev}, endsE (l ++ m) = endsE l ++ endsE m
  | [], _ => rfl
  | e :: l, m => by
    cases e with
    | done n g => exact congrArg ((n, true) :: ·) endsE_app
    | out n g => exact congrArg ((n, false) :: ·) endsE_app
    | cut => exact endsE_app (l := l)
    | heard => exact endsE_app (l := l)
    | passed => exact endsE_app (l := l)
theorem heardE_app : ∀ {l m : List Ev}, heardE (l ++ m) = heardE l ++ heardE m
  | [], _ => rfl
  | e :: l, m => by
    cases e with
    | heard n g u => exact congrArg ((g, u) :: ·) heardE_app
    | done n g => exact heardE_app (l := l)
    | out n g => exact heardE_app (l := l)
    | cut => exact heardE_app (l := l)
    | passed => exact heardE_app (l := l)
theorem drop_cons {α : Type} {l : List α} {i : Nat} {d : α} (h : i < l.length) : l.drop i = l.getD i d :: l.drop (i + 1) := by
  rw [List.drop_eq_getElem_cons h, List.getD_eq_getElem?_getD, List.getElem?_eq_getElem h]
  rfl
theorem left_cons {t : Th} (h : OkT t) : leftU t = unitOf t :: ((phOf t).drop (t.un + 1) ++ (t.phs.drop (t.ph + 1)).flatten) := by
  unfold leftU
  rw [drop_cons (d := []) h.ph, List.flatten_cons]
  show (phOf t ++ _).drop t.un = _
  rw [List.drop_append_of_le_length (Nat.le_of_lt h.un)]
  rw [drop_cons (d := Str.ofString "") h.un]
  rfl
theorem left_pos {t : Th} (h : OkT t) : 0 < (leftU t).length := by
  rw [left_cons h]
  exact Nat.succ_pos _
theorem step_spec {t : Th} {w : List Th} (h : OkT t) :
    (∃ t' ev, stepT t w = (⟨some t', w, false, false⟩, ev) ∧ t'.say = t.say ∧ t'.tag = t.tag ∧ OkT t' ∧ leftU t = unitOf t :: leftU t' ∧ heardE ev = [(t.tag, unitOf t)] ∧ endsE ev = []) ∨
    (∃ ev, stepT t w = (⟨none, w, false, false⟩, ev) ∧ leftU t = [unitOf t] ∧ heardE ev = [(t.tag, unitOf t)] ∧ endsE ev = [(t.say, true)]) := by
  unfold stepT
  by_cases h1 : t.un + 1 < (phOf t).length
  · refine .inl ⟨{ t with un := t.un + 1 }, _, if_pos h1, rfl, rfl, ⟨h.rk, h.ne, h.ph, h1, h.sz, h.st⟩, ?_, rfl, rfl⟩
    rw [left_cons h]
    refine congrArg (unitOf t :: ·) ?_
    show _ = (t.phs.drop t.ph).flatten.drop (t.un + 1)
    rw [drop_cons (d := []) h.ph, List.flatten_cons]
    show _ = (phOf t ++ _).drop (t.un + 1)
    rw [List.drop_append_of_le_length (Nat.le_of_lt h1)]
  · have e1 : (phOf t).drop (t.un + 1) = [] := List.drop_eq_nil_of_le (by omega)
    rw [if_neg h1]
    by_cases h2 : t.ph + 1 < t.phs.length
    · refine .inl ⟨{ t with ph := t.ph + 1, un := 0 }, _, if_pos h2, rfl, rfl, ⟨h.rk, h.ne, h2, ?_, h.sz, h.st⟩, ?_, rfl, rfl⟩
      · show 0 < (t.phs.getD (t.ph + 1) []).length
        rw [List.getD_eq_getElem?_getD, List.getElem?_eq_getElem h2]
        exact List.length_pos_iff.mpr (h.ne _ (List.getElem_mem h2))
      · rw [left_cons h, e1]
        rfl
    · refine .inr ⟨_, if_neg h2, ?_, rfl, rfl⟩
      rw [left_cons h, e1, List.drop_eq_nil_of_le (by omega)]
      rfl
/-- nothing is lost -/
def Kept (s s' : Stt) (ev : List Ev) : Prop := ((stand s).map Th.say).Perm ((endsE ev).map (·.1) ++ (stand s').map Th.say)
theorem Kept.refl {s s' : Stt} (h : stand s' = stand s) : Kept s s' [] := by
  unfold Kept
  rw [h]
  exact List.Perm.refl _
theorem Kept.trans {s s1 s2 : Stt} {e1 e2 : List Ev} (h1 : Kept s s1 e1) (h2 : Kept s1 s2 e2) : Kept s s2 (e1 ++ e2) := by
  unfold Kept at *
  rw [endsE_app, List.map_append, List.append_assoc]
  exact h1.trans (h2.append_left _)
theorem kept_cut {s : Stt} (so : Sorted s.wt) : Kept s (cutOff s).1 (cutOff s).2 := by
  cases e : s.said with
  | none =>
    have : cutOff s = (s, []) := by unfold cutOff; rw [e]
    rw [this]
    exact Kept.refl rfl
  | some t =>
    have hp := cut_stand e so
    have hs : stand s = t :: s.wt := by unfold stand; rw [e]; rfl
    have he : endsE (cutOff s).2 = [] := by unfold cutOff; rw [e]; rfl
    unfold Kept
    rw [he, hs]
    exact (hp.map Th.say).symm
theorem endsE_outs : ∀ {l : List Th}, (endsE (l.map fun t => Ev.out t.say t.tag)).map (·.1) = l.map Th.say
  | [] => rfl
  | t :: l => congrArg (t.say :: ·) endsE_outs
theorem kept_clear {s : Stt} {rs : List Nat} {tag : Option Str} : Kept s (clear s rs tag).1 (clear s rs tag).2 := by
  unfold Kept
  rw [clear_stand]
  show List.Perm _ ((endsE (((stand s).filter (goneB rs tag)).map fun t => Ev.out t.say t.tag)).map (·.1) ++ _)
  rw [endsE_outs, ← List.map_append]
  exact ((List.filter_append_perm (goneB rs tag) (stand s)).map _).symm
theorem tick_idle {s : Stt} (h : s.held = true ∨ stand s = []) : tick s = ({ s with stp := false }, []) := by
  unfold tick
  rcases h with h | h
  · rw [if_pos h]
  · rw [h]
    split <;> rfl
theorem tick_go {s : Stt} {t : Th} {w : List Th} (h : s.held = false) (e : stand s = t :: w) : tick s = stepT t w := by
  unfold tick
  rw [if_neg (by rw [h]; decide), e]
theorem so_tail {s : Stt} {t : Th} {w : List Th} (so : Sorted s.wt) (e : stand s = t :: w) : Sorted w := by
  unfold stand at e
  cases q : s.said with
  | none =>
    rw [q] at e
    have e : s.wt = t :: w := e
    rw [e] at so
    exact (List.pairwise_cons.mp so).2
  | some u =>
    rw [q] at e
    have e : u :: s.wt = t :: w := e
    injection e with _ e
    rw [← e]
    exact so
theorem tick_ok {n : Nat} {s : Stt} (h : Ok n s) : Ok n (tick s).1 ∧ Kept s (tick s).1 (tick s).2 := by
  by_cases hh : s.held = true
  · rw [tick_idle (.inl hh)]
    exact ⟨⟨h.all, h.nd, h.so⟩, Kept.refl rfl⟩
  · cases e : stand s with
    | nil =>
      rw [tick_idle (.inr e)]
      exact ⟨⟨h.all, h.nd, h.so⟩, Kept.refl rfl⟩
    | cons t w =>
      rw [tick_go (by simpa using hh) e]
      have ht := h.all t (by rw [e]; exact List.mem_cons_self)
      have hw : ∀ u ∈ w, OkT u ∧ u.say < n := fun u hu => h.all u (by rw [e]; exact List.mem_cons_of_mem _ hu)
      have hnd := h.nd
      rw [e] at hnd
      have so := so_tail h.so e
      rcases step_spec (w := w) ht.1 with ⟨t', ev, e1, e2, e3, e4, _, _, e7⟩ | ⟨ev, e1, _, _, e4⟩
      · rw [e1]
        refine ⟨⟨fun u hu => ?_, ?_, so⟩, ?_⟩
        · rcases List.mem_cons.mp hu with rfl | hu
          · exact ⟨e4, by rw [e2]; exact ht.2⟩
          · exact hw u hu
        · show (t'.say :: w.map Th.say).Nodup
          rw [e2]
          exact hnd
        · unfold Kept
          rw [e7, e]
          show (t.say :: w.map Th.say).Perm (t'.say :: w.map Th.say)
          rw [e2]
      · rw [e1]
        refine ⟨⟨hw, (List.nodup_cons.mp hnd).2, so⟩, ?_⟩
        unfold Kept
        rw [e4, e]
        exact List.Perm.refl _
theorem ticks_ok {n : Nat} : ∀ {k : Nat} {s : Stt}, Ok n s → Ok n (ticks k s).1 ∧ Kept s (ticks k s).1 (ticks k s).2
  | 0, s, h => ⟨h, Kept.refl rfl⟩
  | k + 1, s, h => by
    obtain ⟨h1, h2⟩ := tick_ok h
    obtain ⟨h3, h4⟩ := ticks_ok (k := k) h1
    exact ⟨h3, h2.trans h4⟩
/-- a deed that may stand in a log -/
def PhsOk (ps : List (List Str)) : Prop := ps ≠ [] ∧ (∀ p ∈ ps, p ≠ []) ∧ ps.flatten.length ≤ 10
def DeedOk : Deed → Prop
  | .say r ps g => 1 ≤ r ∧ r ≤ 3 ∧ PhsOk ps ∧ (∀ p ∈ ps, ∀ u ∈ p, strC u) ∧ strC g
  | _ => True
def saysOf (n : Nat) : Deed → List Nat
  | .say _ _ _ => [n]
  | _ => []
theorem say_ok {n : Nat} {s : Stt} {r : Nat} {ps : List (List Str)} {tag : Str} (h : Ok n s) (hd : DeedOk (.say r ps tag)) :
    Ok (n + 1) (doDeed s n (.say r ps tag)).1 ∧ ((n :: (stand s).map Th.say).Perm ((endsE (doDeed s n (.say r ps tag)).2).map (·.1) ++ (stand (doDeed s n (.say r ps tag)).1).map Th.say)) := by
  obtain ⟨hr1, hr2, ⟨hne, hp, hsz⟩, hst⟩ := hd
  obtain ⟨a, ha, hka, hoa⟩ : ∃ a, a = (if r = 3 then clear s [1, 3] none else (s, [])) ∧ Kept s a.1 a.2 ∧ Ok n a.1 := by
    by_cases e : r = 3
    · rw [if_pos e]
      exact ⟨_, rfl, kept_clear, clear_ok h⟩
    · rw [if_neg e]
      exact ⟨_, rfl, Kept.refl rfl, h⟩
  obtain ⟨b, hb, hkb, hob⟩ : ∃ b, b = (if (a.1.said.any fun t => decide (t.rank < r)) = true then cutOff a.1 else (a.1, [])) ∧ Kept a.1 b.1 b.2 ∧ Ok n b.1 := by
    split
    · exact ⟨_, rfl, kept_cut hoa.so, cut_ok hoa⟩
    · exact ⟨_, rfl, Kept.refl rfl, hoa⟩
  have ed : doDeed s n (.say r ps tag) = (⟨b.1.said, putIn b.1.wt ⟨n, r, ps, tag, 0, 0⟩ false, b.1.held, false⟩, a.2 ++ b.2) := by
    rw [hb, ha]
    rfl
  rw [ed]
  have hperm : (b.1.said.toList ++ putIn b.1.wt ⟨n, r, ps, tag, 0, 0⟩ false).Perm ((⟨n, r, ps, tag, 0, 0⟩ : Th) :: stand b.1) := (List.Perm.append_left _ (putIn_perm hob.so)).trans List.perm_middle
  have hps : 0 < ps.length := List.length_pos_iff.mpr hne
  have hok : OkT ⟨n, r, ps, tag, 0, 0⟩ := ⟨⟨hr1, hr2⟩, hp, hps, by
    show 0 < (ps.getD 0 []).length
    rw [List.getD_eq_getElem?_getD, List.getElem?_eq_getElem hps]
    exact List.length_pos_iff.mpr (hp _ (List.getElem_mem hps)), hsz, hst⟩
  have hm := hperm.map Th.say
  refine ⟨⟨fun t ht => ?_, hm.nodup_iff.mpr (List.nodup_cons.mpr ⟨fun z => ?_, hob.nd⟩), putIn_sorted hob.so⟩, ?_⟩
  · rcases List.mem_cons.mp (hperm.mem_iff.mp ht) with rfl | ht
    · exact ⟨hok, Nat.lt_succ_self n⟩
    · exact ⟨(hob.all t ht).1, Nat.lt_succ_of_lt (hob.all t ht).2⟩
  · obtain ⟨u, hu, e⟩ := List.mem_map.mp z
    have := (hob.all u hu).2
    have e : u.say = n := e
    omega
  · have hk := hka.trans hkb
    unfold Kept at hk
    exact ((List.Perm.cons n hk).trans List.perm_middle.symm).trans (List.Perm.append_left _ hm.symm)
theorem deed_ok {n : Nat} {s : Stt} {d : Deed} (h : Ok n s) (hd : DeedOk d) :
    Ok (n + 1) (doDeed s n d).1 ∧ ((saysOf n d ++ (stand s).map Th.say).Perm ((endsE (doDeed s n d).2).map (·.1) ++ (stand (doDeed s n d).1).map Th.say)) := by
  have up : ∀ {s' : Stt}, Ok n s' → Ok (n + 1) s' := fun h => ⟨fun t ht => ⟨(h.all t ht).1, Nat.lt_succ_of_lt (h.all t ht).2⟩, h.nd, h.so⟩
  cases d with
  | say r ps tag => exact say_ok h hd
  | tick k =>
    obtain ⟨h1, h2⟩ := ticks_ok (k := k) h
    exact ⟨⟨(up h1).all, h1.nd, h1.so⟩, h2⟩
  | drop tag => exact ⟨up (clear_ok h), kept_clear⟩
  | hold => exact ⟨⟨(up (cut_ok h)).all, (cut_ok h).nd, (cut_ok h).so⟩, kept_cut h.so⟩
  | go => exact ⟨⟨(up h).all, h.nd, h.so⟩, Kept.refl rfl⟩
  | stop => exact ⟨⟨(up (clear_ok h)).all, (clear_ok h).nd, (clear_ok h).so⟩, kept_clear⟩
/-- a log from place n on -/
def runL : Stt → Nat → List Deed → Stt × List Ev
  | s, _, [] => (s, [])
  | s, n, d :: l => ((runL (doDeed s n d).1 (n + 1) l).1, (doDeed s n d).2 ++ (runL (doDeed s n d).1 (n + 1) l).2)
def placesOf : Nat → List Deed → List Nat
  | _, [] => []
  | n, d :: l => saysOf n d ++ placesOf (n + 1) l
theorem run_ok : ∀ {l : List Deed} {n : Nat} {s : Stt}, Ok n s → (∀ d ∈ l, DeedOk d) → Ok (n + l.length) (runL s n l).1 ∧ ((placesOf n l ++ (stand s).map Th.say).Perm ((endsE (runL s n l).2).map (·.1) ++ (stand (runL s n l).1).map Th.say))
  | [], n, s, h, _ => ⟨h, List.Perm.refl _⟩
  | d :: l, n, s, h, hd => by
    obtain ⟨h1, h2⟩ := deed_ok (d := d) h (hd d List.mem_cons_self)
    obtain ⟨h3, h4⟩ := run_ok (l := l) h1 fun e he => hd e (List.mem_cons_of_mem _ he)
    refine ⟨by rw [List.length_cons, show n + (l.length + 1) = n + 1 + l.length by omega]; exact h3, ?_⟩
    show ((saysOf n d ++ placesOf (n + 1) l) ++ _).Perm ((endsE ((doDeed s n d).2 ++ _)).map (·.1) ++ _)
    rw [endsE_app, List.map_append, List.append_assoc, List.append_assoc]
    refine List.Perm.trans ?_ (List.Perm.append_left _ h4)
    refine List.Perm.trans ?_ (List.perm_append_comm_assoc _ _ _)
    refine List.Perm.trans ?_ (List.Perm.append_left _ h2)
    exact List.perm_append_comm_assoc _ _ _
theorem s0_ok : Ok 0 s0 := ⟨fun t ht => (by cases ht), List.nodup_nil, List.Pairwise.nil⟩
theorem places_lt : ∀ {l : List Deed} {n : Nat}, (placesOf n l).Nodup ∧ ∀ x ∈ placesOf n l, n ≤ x ∧ x < n + l.length
  | [], n => ⟨List.nodup_nil, fun x hx => (by cases hx)⟩
  | d :: l, n => by
    obtain ⟨h1, h2⟩ := places_lt (l := l) (n := n + 1)
    have hs : ∀ x ∈ saysOf n d, x = n := fun x hx => by
      cases d with
      | say r ps g => exact List.mem_singleton.mp hx
      | _ => cases hx
    have hn : (saysOf n d).Nodup := by cases d <;> simp [saysOf]
    refine ⟨List.nodup_append.mpr ⟨hn, h1, fun x hx y hy e => ?_⟩, fun x hx => ?_⟩
    · have := hs x hx
      have := (h2 y hy).1
      omega
    · rw [List.length_cons]
      rcases List.mem_append.mp hx with hx | hx
      · have := hs x hx
        omega
      · have := h2 x hx
        omega
/-- behind a whole log: what ended, what stands -/
theorem log_ok {l : List Deed} (hd : ∀ d ∈ l, DeedOk d) : Ok l.length (runL s0 0 l).1 ∧ ((endsE (runL s0 0 l).2).map (·.1)).Nodup ∧ (∀ x, x ∈ placesOf 0 l ↔ x ∈ (endsE (runL s0 0 l).2).map (·.1) ∨ x ∈ (stand (runL s0 0 l).1).map Th.say) ∧ ∀ x ∈ (endsE (runL s0 0 l).2).map (·.1), x ∉ (stand (runL s0 0 l).1).map Th.say := by
  obtain ⟨h1, h2⟩ := run_ok s0_ok hd
  rw [Nat.zero_add] at h1
  have h2 : (placesOf 0 l).Perm ((endsE (runL s0 0 l).2).map (·.1) ++ (stand (runL s0 0 l).1).map Th.say) := by
    have : placesOf 0 l ++ (stand s0).map Th.say = placesOf 0 l := List.append_nil _
    rw [this] at h2
    exact h2
  have hn := h2.nodup_iff.mp (places_lt (l := l)).1
  obtain ⟨n1, n2, n3⟩ := List.nodup_append.mp hn
  exact ⟨h1, n1, fun x => by rw [h2.mem_iff, List.mem_append], fun x hx hy => n3 x hx x hy rfl⟩


def unitsL (w : List Th) : List (Str × Str) := w.flatMap fun t => (leftU t).map fun u => (t.tag, u)
/-- when each thing is done: (say, ticks) -/
def cums : List Th → Nat → List (Nat × Nat)
  | [], _ => []
  | t :: w, c => (t.say, c + (leftU t).length) :: cums w (c + (leftU t).length)
theorem run_step {n : Nat} {s : Stt} {t : Th} {w : List Th} (h : Ok n s) (hh : s.held = false) (e : stand s = t :: w) :
    (tick s).1.held = false ∧ (tick s).1.stp = false ∧ Ok n (tick s).1 ∧ ∃ u, heardE (tick s).2 = [u] ∧ unitsL (t :: w) = u :: unitsL (stand (tick s).1) ∧
      ((endsE (tick s).2 = [] ∧ ∀ c, cums (t :: w) c = cums (stand (tick s).1) (c + 1)) ∨ (endsE (tick s).2 = [(t.say, true)] ∧ ∀ c, cums (t :: w) c = (t.say, c + 1) :: cums (stand (tick s).1) (c + 1))) := by
  have ho := (tick_ok h).1
  rw [tick_go hh e] at ho ⊢
  have ht := (h.all t (by rw [e]; exact List.mem_cons_self)).1
  rcases step_spec (w := w) ht with ⟨t', ev, e1, e2, e3, e4, e5, e6, e7⟩ | ⟨ev, e1, e5, e6, e7⟩
  · rw [e1] at ho ⊢
    refine ⟨rfl, rfl, ho, (t.tag, unitOf t), e6, ?_, .inl ⟨e7, fun c => ?_⟩⟩
    · show (leftU t).map (fun u => (t.tag, u)) ++ unitsL w = _ :: ((leftU t').map (fun u => (t'.tag, u)) ++ unitsL w)
      rw [e5, e3]
      rfl
    · show (t.say, c + (leftU t).length) :: cums w (c + (leftU t).length) = (t'.say, c + 1 + (leftU t').length) :: cums w (c + 1 + (leftU t').length)
      rw [e5, e2, List.length_cons, show c + ((leftU t').length + 1) = c + 1 + (leftU t').length by omega]
  · rw [e1] at ho ⊢
    refine ⟨rfl, rfl, ho, (t.tag, unitOf t), e6, ?_, .inr ⟨e7, fun c => ?_⟩⟩
    · show (leftU t).map (fun u => (t.tag, u)) ++ unitsL w = _ :: unitsL w
      rw [e5]
      rfl
    · show (t.say, c + (leftU t).length) :: cums w (c + (leftU t).length) = (t.say, c + 1) :: cums w (c + 1)
      rw [e5]
      rfl
theorem left_le {t : Th} (h : OkT t) : (leftU t).length ≤ 10 := by
  have h1 : (t.phs.take t.ph).flatten.length + (t.phs.drop t.ph).flatten.length = t.phs.flatten.length := by
    rw [← List.length_append, ← List.flatten_append, List.take_append_drop]
  have := h.sz
  unfold leftU
  rw [List.length_drop]
  omega
theorem units_le : ∀ {w : List Th}, (∀ t ∈ w, OkT t) → (unitsL w).length ≤ 10 * w.length
  | [], _ => Nat.le_refl _
  | t :: w, h => by
    have ih := units_le (w := w) fun u hu => h u (List.mem_cons_of_mem _ hu)
    have := left_le (h t List.mem_cons_self)
    show ((leftU t).map (fun u => (t.tag, u)) ++ unitsL w).length ≤ 10 * (w.length + 1)
    rw [List.length_append, List.length_map]
    omega
theorem nodup_lt : ∀ {n : Nat} {l : List Nat}, l.Nodup → (∀ x ∈ l, x < n) → l.length ≤ n
  | 0, [], _, _ => Nat.le_refl _
  | 0, x :: l, _, h => absurd (h x List.mem_cons_self) (Nat.not_lt_zero x)
  | n + 1, l, hn, h => by
    have h1 : (l.filter fun x => decide (x ≠ n)).length ≤ n := nodup_lt (hn.filter _) fun x hx => by
      obtain ⟨h1, h2⟩ := List.mem_filter.mp hx
      have := h x h1
      have := of_decide_eq_true h2
      omega
    have h2 : (l.filter fun x => !decide (x ≠ n)).length ≤ 1 := by
      have hq : ∀ x ∈ l.filter (fun x => !decide (x ≠ n)), x = n := fun x hx => by
        have := (List.mem_filter.mp hx).2
        simpa using this
      have hd := hn.filter fun x => !decide (x ≠ n)
      match l.filter (fun x => !decide (x ≠ n)), hq, hd with
      | [], _, _ => exact Nat.zero_le _
      | [_], _, _ => exact Nat.le_refl _
      | x :: y :: r, hq, hd =>
        have e1 := hq x List.mem_cons_self
        have e2 := hq y (List.mem_cons_of_mem _ List.mem_cons_self)
        exact absurd (e1.trans e2.symm) (fun z => (List.nodup_cons.mp hd).1 (by rw [z]; exact List.mem_cons_self))
    have h3 := (List.filter_append_perm (fun x => decide (x ≠ n)) l).length_eq
    rw [List.length_append] at h3
    omega
theorem stand_le {n : Nat} {s : Stt} (h : Ok n s) : (stand s).length ≤ n := by
  have := nodup_lt h.nd fun x hx => by
    obtain ⟨t, ht, rfl⟩ := List.mem_map.mp hx
    exact (h.all t ht).2
  rw [List.length_map] at this
  exact this
/-- the ticks up to the end of x, or of all -/
def leftTo : List Th → Option Nat → Nat → Nat
  | [], _, c => c
  | t :: w, x, c => if some t.say = x then c + (leftU t).length else leftTo w x (c + (leftU t).length)
theorem leftTo_none : ∀ {w : List Th} {c : Nat}, leftTo w none c = c + (unitsL w).length
  | [], c => rfl
  | t :: w, c => by
    show (if some t.say = none then _ else leftTo w none (c + (leftU t).length)) = _
    rw [if_neg (fun z => by cases z), leftTo_none]
    show _ = c + ((leftU t).map (fun u => (t.tag, u)) ++ unitsL w).length
    rw [List.length_append, List.length_map]
    omega
abbrev keyN (n : Nat) : Key := .inl (n : Int)
theorem keyN_inj {n m : Nat} (h : keyN n = keyN m) : n = m := by
  injection h with h
  omega
theorem has_map {α : Type} {n : Nat} : ∀ {l : List (Nat × α)}, hasK (l.map fun p => keyN p.1) (keyN n) = decide (n ∈ l.map (·.1))
  | [] => rfl
  | p :: l => by
    show (if keyN p.1 = keyN n then true else hasK (l.map fun p => keyN p.1) (keyN n)) = _
    by_cases e : p.1 = n
    · rw [if_pos (by rw [e])]
      subst e
      exact (decide_eq_true List.mem_cons_self).symm
    · rw [if_neg (fun z => e (keyN_inj z)), has_map]
      refine decide_eq_decide.mpr ⟨fun h => List.mem_cons_of_mem _ h, fun h => ?_⟩
      rcases List.mem_cons.mp h with h | h
      · exact absurd h.symm e
      · exact h
theorem at_map {α β : Type} {f : Nat × α → β} {n : Nat} : ∀ {l : List (Nat × α)}, vAt (l.map fun p => keyN p.1) (l.map f) (keyN n) = (l.find? fun p => decide (p.1 = n)).map f
  | [] => rfl
  | p :: l => by
    show (if keyN p.1 = keyN n then some (f p) else vAt (l.map fun p => keyN p.1) (l.map f) (keyN n)) = _
    by_cases e : p.1 = n
    · rw [if_pos (by rw [e]), List.find?_cons_of_pos (by rw [e]; exact decide_eq_true rfl)]
      rfl
    · rw [if_neg (fun z => e (keyN_inj z)), List.find?_cons_of_neg (by simpa using e), at_map]
theorem cums_find {x : Nat} : ∀ {w : List Th} {c : Nat}, x ∈ w.map Th.say → ∃ p, (cums w c).find? (fun p => decide (p.1 = x)) = some p ∧ p.2 = leftTo w (some x) c
  | [], c, h => by cases h
  | t :: w, c, h => by
    show ∃ p, ((t.say, c + (leftU t).length) :: cums w (c + (leftU t).length)).find? (fun p => decide (p.1 = x)) = some p ∧ p.2 = if some t.say = some x then c + (leftU t).length else leftTo w (some x) (c + (leftU t).length)
    by_cases e : t.say = x
    · exact ⟨_, List.find?_cons_of_pos (by exact decide_eq_true e), by rw [if_pos (by rw [e])]⟩
    · rw [List.find?_cons_of_neg (by simpa using e), if_neg (fun z => e (by injection z))]
      refine cums_find ?_
      rcases List.mem_cons.mp h with h | h
      · exact absurd h.symm e
      · exact h
theorem cums_keys : ∀ {w : List Th} {c : Nat}, (cums w c).map (·.1) = w.map Th.say
  | [], c => rfl
  | t :: w, c => congrArg (t.say :: ·) cums_keys
/-- the ends of x among the events -/
theorem ends_one {l : List (Nat × Bool)} (hn : (l.map (·.1)).Nodup) {x : Nat} : l.filter (fun p => decide (p.1 = x)) = ((l.find? fun p => decide (p.1 = x)).toList) := by
  induction l with
  | nil => rfl
  | cons p l ih =>
    obtain ⟨h1, h2⟩ := List.nodup_cons.mp hn
    by_cases e : p.1 = x
    · rw [List.filter_cons_of_pos (by exact decide_eq_true e), List.find?_cons_of_pos (by exact decide_eq_true e)]
      refine congrArg (p :: ·) (List.filter_eq_nil_iff.mpr fun q hq z => h1 ?_)
      have z : q.1 = x := of_decide_eq_true z
      show p.1 ∈ l.map (·.1)
      rw [e, ← z]
      exact List.mem_map_of_mem hq
    · rw [List.filter_cons_of_neg (by simpa using e), List.find?_cons_of_neg (by simpa using e), ih h2]


/-! ### doors -/
def okc (c : Nat) : Bool := decide (32 ≤ c) && decide (c ≤ 126)
theorem leS1 {c d : Nat} : (!decide (([d] : List Nat) < [c])) = decide (c ≤ d) := by
  by_cases h : c ≤ d
  · have : ¬ ([d] : List Nat) < [c] := by
      intro z
      cases z with
      | rel q => omega
      | cons q => cases q
    simp [this, h]
  · have : ([d] : List Nat) < [c] := .rel (by omega)
    simp [this, h]
def isTxt : D → Bool
  | .v (.str s) => (cp s).all okc
  | _ => false
def isTp (n : Nat) : D → Bool
  | .tup l => decide (l.length = n)
  | _ => false
def isCell : D → Bool
  | .v (.int i) => decide (0 ≤ i) && decide (i < 64)
  | _ => false
section
variable {P : Program} {w : World} {K : PySem.W.Frag} {mg : Str → Option Value} {base : Heap} {a : Ad} {f : Addr} {fd : FuncData}
abbrev spOf (K : PySem.W.Frag) (pre : D → Prop) (g : D → D) : Sp := ProP K (T := D) (fun d => [d]) pre (fun d r => r = g d) (fun _ _ _ => False)
def TxtPre (d : D) : Prop := d.pl = true ∧ ∀ s, d = .str s → (cp s).length ≤ 100000
abbrev st_is_whole : Stmt := top 8
abbrev nm_is_whole : List Str := ["value"]
theorem sc_is_whole : FnScope nm_is_whole ["value"] (defScope st_is_whole) := ⟨rfl, rfl, rfl, by decide +kernel, rfl, by decide +kernel, by decide +kernel⟩
theorem ok_is_whole (F : Fun K "is_whole" "is_whole" st_is_whole f fd) (T : Tx P w K mg base a) : FnOk P w K mg base (L2.CX P w) 1 f fd ["value"] (spOf K (fun d => d.pl = true) fun d => .bl (isWh d)) := by
  refine F.okX sc_is_whole (fun vs H Q E h => pro_len h fun _ => rfl) (fun cdv A outer s H vs Q E hr h => ⟨_, (pss_one (ps_ret (pe_and (pe_callB (kC K rIsiU rfl call_isU) (by rfl) T.b_isinstance (by decide +kernel) (pa_cons (pv 0) (pa_cons (pe_bltn (v := .ty "int") (by rfl) T.b_int (by decide +kernel) rfl) pa_nil))) (pe_one (pe_not (pe_callB (kC K rIsiU rfl call_isU) (by rfl) T.b_isinstance (by decide +kernel) (pa_cons (pv 0) (pa_cons (pe_bltn (v := .ty "bool") (by rfl) T.b_bool (by decide +kernel) rfl) pa_nil)))))))), run_body h fun d S hp hl hcl wi => ?_⟩)
  have hp : d.pl = true := hp
  walk_at "pp"
  refine ⟨fun hb => ?_, fun hb => ?_⟩
  · walk_at "pp"
    walk_at "gp"
    refine gaveP hl (by rfl) ?_
    show D.bl _ = D.bl (isWh d)
    rw [← is_wh hp, hb]
    rfl
  · walk_at "gp"
    refine gaveP hl (by rfl) ?_
    show D.bl _ = D.bl (isWh d)
    rw [← is_wh hp, hb]
    rfl
abbrev st_is_text : Stmt := top 10
abbrev nm_is_text : List Str := ["value", "sign"]
theorem sc_is_text : FnScope nm_is_text ["value"] (defScope st_is_text) := ⟨rfl, rfl, rfl, by decide +kernel, rfl, by decide +kernel, by decide +kernel⟩
theorem ok_is_text (F : Fun K "is_text" "is_text" st_is_text f fd) (T : Tx P w K mg base a) : FnOk P w K mg base (L2.CX P w) 1 f fd ["value"] (spOf K TxtPre fun d => .bl (isTxt d)) := by
  refine F.okX sc_is_text (fun vs H Q E h => pro_len h fun _ => rfl) (fun cdv A outer s H vs Q E hr h => ⟨_, (pss_one (ps_ret (pe_and (pe_callB (kC K rIsiU rfl call_isU) (by rfl) T.b_isinstance (by decide +kernel) (pa_cons (pv 0) (pa_cons (pe_bltn (v := .ty "str") (by rfl) T.b_str (by decide +kernel) rfl) pa_nil))) (pe_one (pe_callB (kC K rAll rfl (cr_all rfl)) (by rfl) T.b_all (by decide +kernel) (pa_cons (pe_lc (own := [("sign", 1)]) (tt := tYes) (g := (gName 1)) rfl sc_is_text.nd (pi_str (pv 0)) (blkOk_by (own := [("sign", 1)]) (N := nm_is_text) (sc := (defScope st_is_text)) (by decide +kernel)) (fun _ _ _ _ _ => (pg_name (i := 1) sc_is_text.nd rfl (by first | exact Or.inl rfl | exact Or.inr rfl))) (fun _ _ _ _ _ => pts_nil) (fun _ _ _ _ _ => (pe_chain op_leq op_leq pe_str (pv 1) pe_str))) pa_nil)))))), run_body h fun d S ⟨hp, hz⟩ hl hcl wi => ?_⟩)
  have hp : d.pl = true := hp
  have hl : S.A.length = 0 := hl
  walk_at "pp"
  refine ⟨fun hb => ?_, fun hb => ?_⟩
  · obtain ⟨s, rfl⟩ := is_str hp hb
    have lsg : (signs s).length = (cp s).length := by
      unfold signs
      rw [List.length_map]
      rfl
    walk_at "pp"
    refine ee_lc (ie_str ?_)
    walk_at "pp"
    refine ⟨fun _ h => h, trivial, fun _ => true, fun x => match x with | .v (.str s) => .bl ((cp s).all okc) | _ => .bl false, by have := hz s rfl; omega, fun x hx _ => ?_, fun x acc hx => ?_, ?_⟩
    · unfold signs at hx
      obtain ⟨c, hc, rfl⟩ := List.mem_map.mp hx
      rfl
    · unfold signs at hx
      obtain ⟨c, hc, rfl⟩ := List.mem_map.mp hx
      refine gw_name (by decide) ?_
      refine et_yes ?_
      refine ⟨rfl, rfl, fun _ => ?_⟩
      have e32 : (Str.ofString " ").cps.toList = [32] := by decide +kernel
      have e126 : (Str.ofString "~").cps.toList = [126] := by decide +kernel
      have fin : ∀ b : Bool, b = okc c → (.bl b : D) = .bl ((cp ⟨#[c]⟩).all okc) := fun b e => by rw [e]; show D.bl (okc c) = D.bl (okc c && true); rw [Bool.and_true]
      walk_at "pp"
      rw [e32]
      refine ⟨fun h1 => ?_, fun h1 => ?_⟩
      · rw [leS1] at h1
        have h1 : ¬ 32 ≤ c := of_decide_eq_false h1
        refine ⟨fin _ ?_, rfl⟩
        simp [okc, h1]
      · rw [leS1] at h1
        have h1 : 32 ≤ c := of_decide_eq_true h1
        walk_at "pp"
        rw [e126, leS1]
        refine ⟨fin _ ?_, rfl⟩
        simp [okc, h1]
    · have e : (((signs s).filter fun _ => true).map fun x => match x with | .v (.str s) => D.bl ((cp s).all okc) | _ => D.bl false) = ((cp s).map okc).map D.bl := by
        unfold signs
        rw [List.filter_eq_self.mpr fun _ _ => rfl, List.map_map, List.map_map]
        refine List.map_congr_left fun c _ => ?_
        show D.bl (okc c && true) = D.bl (okc c)
        rw [Bool.and_true]
      rw [e]
      walk_at "pp"
      refine cc_all (.lst _) ?_
      walk_at "gp"
      refine gaveP hl (by rfl) ?_
      show D.bl _ = D.bl ((cp s).all okc)
      rw [List.all_map]
      rfl
  · walk_at "gp"
    refine gaveP hl (by rfl) ?_
    cases d with
    | v x => cases x <;> first | rfl | (revert hb; simp [D.is, D.ty])
    | _ => rfl
abbrev st_is_tuple_of : Stmt := top 11
abbrev nm_is_tuple_of : List Str := ["value", "size"]
theorem sc_is_tuple_of : FnScope nm_is_tuple_of ["value", "size"] (defScope st_is_tuple_of) := ⟨rfl, rfl, rfl, by decide +kernel, rfl, by decide +kernel, by decide +kernel⟩
theorem ok_is_tuple_of (F : Fun K "is_tuple_of" "is_tuple_of" st_is_tuple_of f fd) (T : Tx P w K mg base a) : FnOk P w K mg base (L2.CX P w) 1 f fd ["value", "size"] (ProP K (T := D × Nat) (fun t => [t.1, .int (t.2 : Int)]) (fun t => t.1.pl = true) (fun t r => r = .bl (isTp t.2 t.1)) (fun _ _ _ => False)) := by
  refine F.okX sc_is_tuple_of (fun vs H Q E h => pro_len h fun _ => rfl) (fun cdv A outer s H vs Q E hr h => ⟨_, (pss_one (ps_ret (pe_and (pe_callB (kC K rIsiU rfl call_isU) (by rfl) T.b_isinstance (by decide +kernel) (pa_cons (pv 0) (pa_cons (pe_bltn (v := .ty "tuple") (by rfl) T.b_tuple (by decide +kernel) rfl) pa_nil))) (pe_one (pe_cmpR (kO K rEqU rfl (op_eqU (hu64 hr))) (pe_callB (kC K rLenU rfl call_lenU) (by rfl) T.b_len (by decide +kernel) (pa_cons (pv 0) pa_nil)) (pv 1) (nomark _)))))), run_body h fun ⟨d, n⟩ S hp hl hcl wi => ?_⟩)
  have hp : d.pl = true := hp
  have hl : S.A.length = 0 := hl
  walk_at "pp"
  refine ⟨fun hb => ?_, fun hb => ?_⟩
  · obtain ⟨l, rfl⟩ := is_tup hp hb
    walk_at "pp"
    refine cc_len (.tup _) ?_
    walk_at "pp"
    walk_at "gp"
    refine gaveP hl (by rfl) ?_
    show D.bl _ = D.bl (decide (l.length = n))
    exact congrArg D.bl (decide_eq_decide.mpr ⟨fun h => by injection h with h; omega, fun h => by rw [h]⟩)
  · walk_at "gp"
    refine gaveP hl (by rfl) ?_
    cases d with
    | tup l => revert hb; simp [D.is, D.ty]
    | _ => rfl
abbrev spCheck (K : PySem.W.Frag) (pre : D → Prop) (g : D → Bool) (c : Addr) : Sp := ProP K (T := D) (fun d => [d]) pre (fun d r => r = .non ∧ g d = true) (fun d c' v => g d = false ∧ c' = c ∧ v = d)
def isCtN (m : Nat) : D → Bool
  | .v (.int i) => decide ((m : Int) ≤ i)
  | _ => false
def isInN (n : Nat) : D → Bool
  | .v (.int i) => decide (0 ≤ i) && decide (i < (n : Int))
  | _ => false
def Cl (d : D) : Prop := d.pl = true ∧ d.lt 0 = true
abbrev spCount (K : PySem.W.Frag) : Sp := ProP K (T := D × Nat) (fun t => [t.1, .int (t.2 : Int)]) (fun t => Cl t.1) (fun t r => r = .bl (isCtN t.2 t.1)) (fun _ _ _ => False)
theorem notWh {d : D} (h : isWh d = false) : (∀ m, isCtN m d = false) ∧ ∀ n, isInN n d = false := by
  cases d with
  | v x => cases x <;> first | exact ⟨fun _ => rfl, fun _ => rfl⟩ | cases h
  | _ => exact ⟨fun _ => rfl, fun _ => rfl⟩
theorem ct_in {n : Nat} {i : Int} (h : isCtN 0 (.int i) = true) : isInN n (.int i) = decide (i < (n : Int)) := by
  show (decide (0 ≤ i) && decide (i < (n : Int))) = _
  rw [show decide (0 ≤ i) = true from h]
  rfl
theorem not_ct {n : Nat} {d : D} (h : isCtN 0 d = false) : isInN n d = false := by
  cases d with
  | v x =>
    cases x with
    | int i =>
      show (decide (0 ≤ i) && decide (i < (n : Int))) = _
      rw [show decide (0 ≤ i) = false from h]
      rfl
    | _ => rfl
  | _ => rfl
theorem ct_int {m : Nat} {d : D} (h : isCtN m d = true) : ∃ i : Int, d = .int i := by
  cases d with
  | v x => cases x <;> first | exact ⟨_, rfl⟩ | cases h
  | _ => cases h
abbrev st_is_count : Stmt := top 9
abbrev nm_is_count : List Str := ["value", "least"]
theorem sc_is_count : FnScope nm_is_count ["value", "least"] (defScope st_is_count) := ⟨rfl, rfl, rfl, by decide +kernel, rfl, by decide +kernel, by decide +kernel⟩
theorem ok_is_count (F : FunD K "is_count" "is_count" (defArgs st_is_count) (defBody st_is_count) (defScope st_is_count) [.int 0] [] f fd) (T : Tx P w K mg base a) (c_is_whole : CalX P w K mg base 1 "is_whole" ["value"] (spOf K (fun d => d.pl = true) fun d => .bl (isWh d))) : FnOk P w K mg base (L2.CX P w) 2 f fd ["value", "least"] (spCount K) := by
  refine F.ok sc_is_count (fun vs H Q E h => pro_len h fun _ => rfl) (fun cdv A outer s H vs Q E hr h => ⟨_, (pss_one (ps_ret (pe_and (pe_c c_is_whole hr (by first | decide | exact Nat.le_refl _) rfl (passes_call (takes_of rfl rfl rfl rfl) (fun _ _ _ _ h => h)) (pa_cons (pv 0) pa_nil)) (pe_one (pe_cmpR op_ge (pv 0) (pe_callB (call_max2 rfl) (by rfl) T.b_max (by decide +kernel) (pa_cons (pv 1) (pa_cons pe_int pa_nil))) (nomark _)))))), run_body h fun ⟨d, n⟩ S ⟨hp, h0⟩ hl hcl wi => ?_⟩)
  have hl : S.A.length = 0 := hl
  have hp : d.pl = true := hp
  have h0 : d.lt 0 = true := h0
  walk_at "pp"
  refine ee_cz ?_
  walk_at "pp"
  refine ⟨d, hp, rfl, by show (d.lt 0 && true) = true; rw [h0]; rfl, ?_⟩
  rintro r rfl
  refine ⟨_, rfl, fun hb => ?_, fun hb => ?_⟩
  · obtain ⟨i, rfl⟩ := wh_int hb
    walk_at "pp"
    walk_at "gp"
    refine gaveP hl (by rfl) ?_
    show D.bl _ = D.bl (decide ((n : Int) ≤ i))
    congr 2
  · walk_at "gp"
    refine gaveP hl (by rfl) ?_
    show D.bl _ = D.bl _
    rw [(notWh hb).1]
def optB : Option Nat → D
  | some n => .int (n : Int)
  | none => .non
def belB : Option Nat → D → Bool
  | some n, .v (.int i) => decide (i < (n : Int))
  | none, _ => true
  | _, _ => false
def inB (lo : Nat) (hi : Option Nat) (d : D) : Bool := isCtN lo d && belB hi d
end


section
variable {P : Program} {w : World} {K : PySem.W.Frag} {mg : Str → Option Value} {base : Heap} {a : Ad} {f : Addr} {fd : FuncData}
abbrev strD (s : Str) : D := .str s
abbrev phL (p : List Str) : D := .lst (p.map strD)
abbrev phsL (ps : List (List Str)) : D := .lst (ps.map phL)
abbrev utD (r : Nat) (ps : List (List Str)) (tag : Str) : D := .tup [.int (r : Int), phsL ps, .str tag]
def deedD : Deed → D
  | .say r ps tag => .tup [.str (Str.ofString "say"), utD r ps tag]
  | .tick k => .tup [.str (Str.ofString "tick"), .int (k : Int)]
  | .drop tag => .tup [.str (Str.ofString "drop"), .str tag]
  | .hold => .tup [.str (Str.ofString "hold")]
  | .go => .tup [.str (Str.ofString "go_on")]
  | .stop => .tup [.str (Str.ofString "stop")]
theorem strs_cl {m : Nat} {p : List Str} : D.ltL m (p.map strD) = true := D.ltL_all.mpr fun x hx => by
  obtain ⟨s, _, rfl⟩ := List.mem_map.mp hx
  rfl
theorem phs_cl {m : Nat} {ps : List (List Str)} : D.ltL m (ps.map phL) = true := D.ltL_all.mpr fun x hx => by
  obtain ⟨p, _, rfl⟩ := List.mem_map.mp hx
  exact strs_cl
theorem deed_cl {m : Nat} (d : Deed) : (deedD d).lt m = true := by
  cases d with
  | say r ps tag =>
    show (true && ((true && (D.ltL m (ps.map phL) && (true && true))) && true)) = true
    rw [phs_cl]
    rfl
  | _ => rfl
theorem deeds_cl {m : Nat} {l : List Deed} : D.ltL m (l.map deedD) = true := D.ltL_all.mpr fun x hx => by
  obtain ⟨d, _, rfl⟩ := List.mem_map.mp hx
  exact deed_cl d
structure TagOk (s : Str) : Prop where
  t : isTxt (.str s) = true
  p : 0 < s.length
  z : s.length ≤ 1000
structure UttOk (r : Nat) (ps : List (List Str)) (tag : Str) : Prop where
  r1 : 1 ≤ r
  r3 : r ≤ 3
  ok : PhsOk ps
  un : ∀ p ∈ ps, ∀ u ∈ p, TagOk u
  tg : TagOk tag
def DeedV : Deed → Prop
  | .say r ps tag => UttOk r ps tag
  | .tick k => 1 ≤ k ∧ k ≤ 4000
  | .drop tag => TagOk tag
  | _ => True
theorem TagOk.st {s : Str} (h : TagOk s) : strC s := by
  have ht : (cp s).all okc = true := h.t
  show s.cps.all (fun c => decide (c < 0x110000)) = true
  rw [← Array.all_toList]
  exact List.all_eq_true.mpr fun c hc => decide_eq_true (by
    have := (Bool.and_eq_true_iff.mp (List.all_eq_true.mp ht c hc)).2
    have := of_decide_eq_true this
    omega)
theorem DeedV.ok {d : Deed} (h : DeedV d) : DeedOk d := by
  cases d with
  | say r ps tag =>
    have h : UttOk r ps tag := h
    exact ⟨h.r1, h.r3, h.ok, fun p hp u hu => (h.un p hp u hu).st, h.tg.st⟩
  | _ => trivial
theorem len_phs {ps : List (List Str)} (h : PhsOk ps) : ps.length ≤ 10 ∧ ∀ p ∈ ps, p.length ≤ 10 := by
  obtain ⟨_, h1, h2⟩ := h
  have key : ∀ {ps : List (List Str)}, (∀ p ∈ ps, p ≠ []) → ps.length ≤ ps.flatten.length ∧ ∀ p ∈ ps, p.length ≤ ps.flatten.length := by
    intro ps
    induction ps with
    | nil => exact fun _ => ⟨Nat.le_refl _, fun p hp => (by cases hp)⟩
    | cons p ps ih =>
      intro h
      obtain ⟨i1, i2⟩ := ih fun q hq => h q (List.mem_cons_of_mem _ hq)
      have hp := List.length_pos_iff.mpr (h p List.mem_cons_self)
      rw [List.flatten_cons, List.length_append, List.length_cons]
      refine ⟨by omega, fun q hq => ?_⟩
      rcases List.mem_cons.mp hq with rfl | hq
      · omega
      · have := i2 q hq
        omega
  obtain ⟨k1, k2⟩ := key h1
  exact ⟨by omega, fun p hp => by have := k2 p hp; omega⟩
abbrev spSaid (K : PySem.W.Frag) : Sp := ProP K (T := Str × List D × Str × Nat) (fun t => [.tup (.str t.1 :: t.2.1), .str t.2.2.1, .int (t.2.2.2 : Int)]) (fun t => D.ltL 0 t.2.1 = true) (fun t r => r = .bl (decide (t.2.1.length + 1 = t.2.2.2) && decide (V.str t.1 = V.str t.2.2.1))) (fun _ _ _ => False)
abbrev st_is_said : Stmt := top 12
abbrev nm_is_said : List Str := ["value", "word", "size"]
theorem sc_is_said : FnScope nm_is_said ["value", "word", "size"] (defScope st_is_said) := ⟨rfl, rfl, rfl, by decide +kernel, rfl, by decide +kernel, by decide +kernel⟩
theorem ok_is_said (F : Fun K "is_said" "is_said" st_is_said f fd) (T : Tx P w K mg base a) (c_is_tuple_of : CalX P w K mg base 1 "is_tuple_of" ["value", "size"] (ProP K (T := D × Nat) (fun t => [t.1, .int (t.2 : Int)]) (fun t => t.1.pl = true) (fun t r => r = .bl (isTp t.2 t.1)) (fun _ _ _ => False))) : FnOk P w K mg base (L2.CX P w) 2 f fd ["value", "word", "size"] (spSaid K) := by
  refine F.okX sc_is_said (fun vs H Q E h => pro_len h fun _ => rfl) (fun cdv A outer s H vs Q E hr h => ⟨_, (pss_one (ps_ret (pe_and (pe_c c_is_tuple_of hr (by first | decide | exact Nat.le_refl _) rfl (passes_call (takes_of rfl rfl rfl rfl) (fun _ _ _ _ h => h)) (pa_cons (pv 0) (pa_cons (pv 2) pa_nil))) (pe_and (pe_callB (kC K rIsiU rfl call_isU) (by rfl) T.b_isinstance (by decide +kernel) (pa_cons (pe_ix (kX K rIx rfl ix_seq) (pv 0) pe_int (fun _ _ => rfl)) (pa_cons (pe_bltn (v := .ty "str") (by rfl) T.b_str (by decide +kernel) rfl) pa_nil))) (pe_one (pe_cmpR (kO K rEqU rfl (op_eqU (hu64 hr))) (pe_ix (kX K rIx rfl ix_seq) (pv 0) pe_int (fun _ _ => rfl)) (pv 1) (nomark _))))))), run_body h fun ⟨k, l, wd, n⟩ S hc hl hcl wi => ?_⟩)
  have hl : S.A.length = 0 := hl
  have hc : D.ltL 0 l = true := hc
  walk_at "pp"
  refine ee_cz ?_
  walk_at "pp"
  refine ⟨(.tup (.str k :: l), n), rfl, rfl, by show ((true && D.ltL 0 l) && (true && true)) = true; rw [hc]; rfl, ?_⟩
  rintro r rfl
  show ∃ b, D.bl (decide ((D.str k :: l).length = n)) = .bl b ∧ _
  refine ⟨_, rfl, fun hb => ?_, fun hb => ?_⟩
  · walk_at "pp"
    refine oo_ixT (atI_of (j := 0) rfl rfl) ?_
    walk_at "pp"
    refine oo_ixT (atI_of (j := 0) rfl rfl) ?_
    walk_at "pp"
    walk_at "gp"
    refine gaveP hl (by rfl) ?_
    show D.bl _ = D.bl (decide (l.length + 1 = n) && _)
    rw [show decide (l.length + 1 = n) = true from hb]
    rfl
  · walk_at "gp"
    refine gaveP hl (by rfl) ?_
    show D.bl _ = D.bl (decide (l.length + 1 = n) && _)
    rw [show decide (l.length + 1 = n) = false from hb]
    rfl
abbrev spTag (K : PySem.W.Frag) : Sp := ProP K (T := Str) (fun s => [.str s]) TagOk (fun _ r => r = .bl true) (fun _ _ _ => False)
abbrev st_is_tag : Stmt := top 16
abbrev nm_is_tag : List Str := ["value"]
theorem sc_is_tag : FnScope nm_is_tag ["value"] (defScope st_is_tag) := ⟨rfl, rfl, rfl, by decide +kernel, rfl, by decide +kernel, by decide +kernel⟩
theorem ok_is_tag (F : Fun K "is_tag" "is_tag" st_is_tag f fd) (T : Tx P w K mg base a) (c_is_text : CalX P w K mg base 1 "is_text" ["value"] (spOf K TxtPre fun d => .bl (isTxt d))) : FnOk P w K mg base (L2.CX P w) 2 f fd ["value"] (spTag K) := by
  refine F.okX sc_is_tag (fun vs H Q E h => pro_len h fun _ => rfl) (fun cdv A outer s H vs Q E hr h => ⟨_, (pss_one (ps_ret (pe_and (pe_c c_is_text hr (by first | decide | exact Nat.le_refl _) rfl (passes_call (takes_of rfl rfl rfl rfl) (fun _ _ _ _ h => h)) (pa_cons (pv 0) pa_nil)) (pe_one (pe_cmpR op_gt (pe_callB (kC K rLenU rfl call_lenU) (by rfl) T.b_len (by decide +kernel) (pa_cons (pv 0) pa_nil)) pe_int (nomark _)))))), run_body h fun t S ht hl hcl wi => ?_⟩)
  have hl : S.A.length = 0 := hl
  have ht : TagOk t := ht
  have hz := ht.z
  walk_at "pp"
  refine ee_cz ?_
  walk_at "pp"
  refine ⟨.str t, ⟨rfl, fun s e => by cases e; rw [← len_cp]; omega⟩, rfl, rfl, ?_⟩
  rintro r rfl
  refine ⟨true, by show D.bl (isTxt (.str t)) = _; rw [ht.t], fun _ => ?_, fun z => by cases z⟩
  walk_at "pp"
  refine cc_lenS (by omega) ?_
  walk_at "pp"
  walk_at "gp"
  refine gaveP hl (by rfl) ?_
  show D.bl _ = D.bl true
  rw [decide_eq_true (by have := ht.p; omega)]
theorem trues {l : List D} : (l.map fun _ => D.bl true) = (List.replicate l.length true).map D.bl := by
  rw [List.map_replicate, List.map_const']
theorem all_trues {n : Nat} : (List.replicate n true).all id = true := by simp
abbrev spPhrase (K : PySem.W.Frag) : Sp := ProP K (T := List Str) (fun p => [phL p]) (fun p => p ≠ [] ∧ (∀ u ∈ p, TagOk u) ∧ p.length ≤ 10) (fun _ r => r = .bl true) (fun _ _ _ => False)
abbrev st_is_phrase : Stmt := top 17
abbrev nm_is_phrase : List Str := ["value", "unit"]
theorem sc_is_phrase : FnScope nm_is_phrase ["value"] (defScope st_is_phrase) := ⟨rfl, rfl, rfl, by decide +kernel, rfl, by decide +kernel, by decide +kernel⟩
theorem ok_is_phrase (F : Fun K "is_phrase" "is_phrase" st_is_phrase f fd) (T : Tx P w K mg base a) (c_is_tag : CalX P w K mg base 2 "is_tag" ["value"] (spTag K)) : FnOk P w K mg base (L2.CX P w) 3 f fd ["value"] (spPhrase K) := by
  refine F.okX sc_is_phrase (fun vs H Q E h => pro_len h fun _ => rfl) (fun cdv A outer s H vs Q E hr h => ⟨_, (pss_one (ps_ret (pe_and (pe_callB (kC K rIsiU rfl call_isU) (by rfl) T.b_isinstance (by decide +kernel) (pa_cons (pv 0) (pa_cons (pe_bltn (v := .ty "list") (by rfl) T.b_list (by decide +kernel) rfl) pa_nil))) (pe_and (pe_cmpR op_gt (pe_callB (kC K rLenU rfl call_lenU) (by rfl) T.b_len (by decide +kernel) (pa_cons (pv 0) pa_nil)) pe_int (nomark _)) (pe_one (pe_callB (kC K rAll rfl (cr_all rfl)) (by rfl) T.b_all (by decide +kernel) (pa_cons (pe_lc (own := [("unit", 1)]) (tt := tYes) (g := (gName 1)) rfl sc_is_phrase.nd (pi_listK (K := K) rfl (pv 0)) (blkOk_by (own := [("unit", 1)]) (N := nm_is_phrase) (sc := (defScope st_is_phrase)) (by decide +kernel)) (fun _ _ _ _ _ => (pg_name (i := 1) sc_is_phrase.nd rfl (by first | exact Or.inl rfl | exact Or.inr rfl))) (fun _ _ _ _ _ => pts_nil) (fun _ _ _ _ _ => (pe_c c_is_tag hr (by first | decide | exact Nat.le_refl _) rfl passL (pa_cons (pv 1) pa_nil)))) pa_nil))))))), run_body h fun p S ⟨hne, hu, hz⟩ hl hcl wi => ?_⟩)
  have hl : S.A.length = 0 := hl
  have hu : ∀ u ∈ p, TagOk u := hu
  have hz : p.length ≤ 10 := hz
  have hp := List.length_pos_iff.mpr hne
  walk_at "pp"
  refine cc_len (.lst _) ?_
  rw [List.length_map]
  walk_at "pp"
  refine ⟨fun _ => ?_, fun h => absurd (of_decide_eq_false h) (by omega)⟩
  walk_at "pp"
  refine ee_lc (ie_list ?_)
  walk_at "pp"
  refine ⟨_, .inl rfl, fun _ h => h, trivial, fun _ => true, fun _ => .bl true, by rw [List.length_map]; omega, fun _ _ _ => rfl, fun x acc hx => ?_, ?_⟩
  · obtain ⟨u, hu1, rfl⟩ := List.mem_map.mp hx
    refine gw_name (by decide) ?_
    refine et_yes ?_
    refine ⟨rfl, rfl, fun _ => ?_⟩
    refine ee_cz ?_
    walk_at "pp"
    exact ⟨u, hu u hu1, rfl, rfl, fun r hr => ⟨hr, rfl⟩⟩
  rw [List.filter_eq_self.mpr fun _ _ => rfl, trues]
  walk_at "pp"
  refine cc_all (.lst _) ?_
  rw [all_trues]
  walk_at "gp"
  exact gaveP hl (by rfl) rfl
abbrev spUtt (K : PySem.W.Frag) : Sp := ProP K (T := Nat × List (List Str) × Str) (fun t => [utD t.1 t.2.1 t.2.2]) (fun t => UttOk t.1 t.2.1 t.2.2) (fun _ r => r = .bl true) (fun _ _ _ => False)
abbrev st_is_utterance_object : Stmt := top 18
abbrev nm_is_utterance_object : List Str := ["value", "phrase"]
theorem sc_is_utterance_object : FnScope nm_is_utterance_object ["value"] (defScope st_is_utterance_object) := ⟨rfl, rfl, rfl, by decide +kernel, rfl, by decide +kernel, by decide +kernel⟩
theorem ok_is_utt (F : Fun K "is_utterance_object" "is_utterance_object" st_is_utterance_object f fd) (T : Tx P w K mg base a) (c_is_tuple_of : CalX P w K mg base 1 "is_tuple_of" ["value", "size"] (ProP K (T := D × Nat) (fun t => [t.1, .int (t.2 : Int)]) (fun t => t.1.pl = true) (fun t r => r = .bl (isTp t.2 t.1)) (fun _ _ _ => False))) (c_is_whole : CalX P w K mg base 1 "is_whole" ["value"] (spOf K (fun d => d.pl = true) fun d => .bl (isWh d))) (c_is_phrase : CalX P w K mg base 3 "is_phrase" ["value"] (spPhrase K)) (c_is_tag : CalX P w K mg base 2 "is_tag" ["value"] (spTag K)) : FnOk P w K mg base (L2.CX P w) 4 f fd ["value"] (spUtt K) := by
  refine F.okX sc_is_utterance_object (fun vs H Q E h => pro_len h fun _ => rfl) (fun cdv A outer s H vs Q E hr h => ⟨_, (pss_cons (ps_if (PW.pt (pw_or (pt_not (pt_val (pe_c c_is_tuple_of hr (by first | decide | exact Nat.le_refl _) rfl (passes_call (takes_of rfl rfl rfl rfl) (fun _ _ _ _ h => h)) (pa_cons (pv 0) (pa_cons pe_int pa_nil))))) (pw_or (pt_not (pt_val (pe_c c_is_whole hr (by first | decide | exact Nat.le_refl _) rfl (passes_call (takes_of rfl rfl rfl rfl) (fun _ _ _ _ h => h)) (pa_cons (pe_ix (kX K rIx rfl ix_seq) (pv 0) pe_int (fun _ _ => rfl)) pa_nil)))) (pw_or1 (pt_not (pt_chain op_leq op_leq pe_int (pe_ix (kX K rIx rfl ix_seq) (pv 0) pe_int (fun _ _ => rfl)) pe_int)))))) (pss_one (ps_ret pe_bl)) pss_nil)
    (pss_cons (ps_if (PW.pt (pw_or (pt_not (pt_val (pe_callB (kC K rIsiU rfl call_isU) (by rfl) T.b_isinstance (by decide +kernel) (pa_cons (pe_ix (kX K rIx rfl ix_seq) (pv 0) pe_int (fun _ _ => rfl)) (pa_cons (pe_bltn (v := .ty "list") (by rfl) T.b_list (by decide +kernel) rfl) pa_nil))))) (pw_or1 (pt_cmpR (kO K rEqU rfl (op_eqU (hu64 hr))) (pe_callB (kC K rLenU rfl call_lenU) (by rfl) T.b_len (by decide +kernel) (pa_cons (pe_ix (kX K rIx rfl ix_seq) (pv 0) pe_int (fun _ _ => rfl)) pa_nil)) pe_int (nomark _))))) (pss_one (ps_ret pe_bl)) pss_nil)
    (pss_one (ps_ret (pe_and (pe_callB (kC K rAll rfl (cr_all rfl)) (by rfl) T.b_all (by decide +kernel) (pa_cons (pe_lc (own := [("phrase", 1)]) (tt := tYes) (g := (gName 1)) rfl sc_is_utterance_object.nd (pi_listK (K := K) rfl (pe_ix (kX K rIx rfl ix_seq) (pv 0) pe_int (fun _ _ => rfl))) (blkOk_by (own := [("phrase", 1)]) (N := nm_is_utterance_object) (sc := (defScope st_is_utterance_object)) (by decide +kernel)) (fun _ _ _ _ _ => (pg_name (i := 1) sc_is_utterance_object.nd rfl (by first | exact Or.inl rfl | exact Or.inr rfl))) (fun _ _ _ _ _ => pts_nil) (fun _ _ _ _ _ => (pe_c c_is_phrase hr (by first | decide | exact Nat.le_refl _) rfl passL (pa_cons (pv 1) pa_nil)))) pa_nil)) (pe_one (pe_c c_is_tag hr (by first | decide | exact Nat.le_refl _) rfl (passes_call (takes_of rfl rfl rfl rfl) (fun _ _ _ _ h => h)) (pa_cons (pe_ix (kX K rIx rfl ix_seq) (pv 0) pe_int (fun _ _ => rfl)) pa_nil)))))))), run_body h fun ⟨r, ps, tag⟩ S hu hl hcl wi => ?_⟩)
  have hl : S.A.length = 0 := hl
  have hu : UttOk r ps tag := hu
  obtain ⟨l1, l2⟩ := len_phs hu.ok
  have hp0 := List.length_pos_iff.mpr hu.ok.1
  have h1 := hu.r1
  have h3 := hu.r3
  walk_at "pp"
  refine ee_cz ?_
  walk_at "pp"
  refine ⟨(utD r ps tag, 3), rfl, rfl, by show ((true && (D.ltL 0 (ps.map phL) && (true && true))) && (true && true)) = true; rw [phs_cl]; rfl, ?_⟩
  rintro x rfl
  refine ⟨true, rfl, ?_⟩
  walk_at "pp"
  refine ee_cz ?_
  walk_at "pp"
  refine oo_ixT rfl ?_
  walk_at "pp"
  refine ⟨.int (r : Int), rfl, rfl, rfl, ?_⟩
  rintro x rfl
  refine ⟨true, rfl, ?_⟩
  walk_at "pp"
  refine oo_ixT rfl ?_
  walk_at "pp"
  refine ⟨fun h => absurd (of_decide_eq_false h) (by show ¬¬ ((1 : Int) ≤ (r : Int)); omega), fun _ => ?_⟩
  walk_at "pp"
  have e3 : decide ((((r, ps, tag) : Nat × List (List Str) × Str).1 : Int) ≤ 3) = true := decide_eq_true (by show (r : Int) ≤ 3; omega)
  refine ⟨fun z => (by rw [e3] at z; cases z), fun _ => ?_⟩
  walk_at "pp"
  refine oo_ixT rfl ?_
  walk_at "pp"
  refine oo_ixT rfl ?_
  walk_at "pp"
  refine cc_len (.lst _) ?_
  rw [List.length_map]
  walk_at "pp"
  refine ⟨fun h => absurd (of_decide_eq_true h) (fun z => by injection z with z; have z : (ps.length : Int) = 0 := z; omega), fun _ => ?_⟩
  walk_at "pp"
  refine ee_lc (ie_list ?_)
  walk_at "pp"
  refine oo_ixT rfl ?_
  refine ⟨_, .inl rfl, fun _ h => h, trivial, fun _ => true, fun _ => .bl true, by rw [List.length_map]; show ps.length ≤ _; omega, fun _ _ _ => rfl, fun x acc hx => ?_, ?_⟩
  · obtain ⟨p, hp1, rfl⟩ := List.mem_map.mp hx
    have hp1 : p ∈ ps := hp1
    refine gw_name (by decide) ?_
    refine et_yes ?_
    refine ⟨rfl, rfl, fun _ => ?_⟩
    refine ee_cz ?_
    walk_at "pp"
    exact ⟨p, ⟨hu.ok.2.1 p hp1, hu.un p hp1, l2 p hp1⟩, rfl, by show (D.ltL 0 (p.map strD) && true) = true; rw [strs_cl]; rfl, fun r hr => ⟨hr, rfl⟩⟩
  rw [List.filter_eq_self.mpr fun _ _ => rfl, trues]
  walk_at "pp"
  refine cc_all (.lst _) ?_
  rw [all_trues]
  refine ⟨true, rfl, fun _ => ?_, fun z => by cases z⟩
  refine ee_cz ?_
  walk_at "pp"
  refine oo_ixT rfl ?_
  walk_at "pp"
  refine ⟨tag, hu.tg, rfl, rfl, ?_⟩
  rintro x rfl
  walk_at "gp"
  exact gaveP hl (by rfl) rfl
/-- what is_said tells of a deed -/
def kindS : Deed → Str
  | .say _ _ _ => Str.ofString "say"
  | .tick _ => Str.ofString "tick"
  | .drop _ => Str.ofString "drop"
  | .hold => Str.ofString "hold"
  | .go => Str.ofString "go_on"
  | .stop => Str.ofString "stop"
def restD : Deed → List D
  | .say r ps tag => [utD r ps tag]
  | .tick k => [.int (k : Int)]
  | .drop tag => [.str tag]
  | _ => []
theorem deed_eq (d : Deed) : deedD d = .tup (.str (kindS d) :: restD d) := by cases d <;> rfl
theorem rest_cl (d : Deed) : D.ltL 0 (restD d) = true := by
  cases d with
  | say r ps tag =>
    show ((true && (D.ltL 0 (ps.map phL) && (true && true))) && true) = true
    rw [phs_cl]
    rfl
  | _ => rfl
theorem ask_said {S : Bs} {δ : Sl} {μ : List Cell} {C : D → List Cell → Prop} {ta : TA} {E : XK} (d : Deed) (wd : Str) (n : Nat) (b : Bool) (hb : (decide ((restD d).length + 1 = n) && decide (V.str (kindS d) = V.str wd)) = b) (h : EA K S ta δ μ fun ds μ1 => ds = [deedD d, .str wd, .int (n : Int)] ∧ C (.bl b) μ1) : EE K S (tCall (spSaid K) [] E ta) δ μ C :=
  ee_cz fun A G H σ a' Q q => h A G H σ a' Q fun vs ds A1 G1 H1 μ1 m n' r ⟨e, c⟩ => q vs ds A1 G1 H1 μ1 m n' r ⟨(kindS d, restD d, wd, n), rest_cl d, by rw [e, deed_eq], by rw [e]; show ((deedD d).lt 0 && (true && (true && true))) = true; rw [deed_cl]; rfl, fun r' hr => by have hr : r' = .bl (decide ((restD d).length + 1 = n) && decide (V.str (kindS d) = V.str wd)) := hr; rw [hr, hb]; exact c⟩
abbrev spDeed (K : PySem.W.Frag) : Sp := ProP K (T := Deed) (fun d => [deedD d]) DeedV (fun _ r => r = .bl true) (fun _ _ _ => False)
abbrev st_is_deed : Stmt := top 19
abbrev nm_is_deed : List Str := ["value"]
theorem sc_is_deed : FnScope nm_is_deed ["value"] (defScope st_is_deed) := ⟨rfl, rfl, rfl, by decide +kernel, rfl, by decide +kernel, by decide +kernel⟩
theorem ok_is_deed (F : Fun K "is_deed" "is_deed" st_is_deed f fd) (T : Tx P w K mg base a) (c_is_said : CalX P w K mg base 2 "is_said" ["value", "word", "size"] (spSaid K)) (c_is_utterance_object : CalX P w K mg base 4 "is_utterance_object" ["value"] (spUtt K)) (c_is_count : CalX P w K mg base 2 "is_count" ["value", "least"] (spCount K)) (c_is_tag : CalX P w K mg base 2 "is_tag" ["value"] (spTag K)) : FnOk P w K mg base (L2.CX P w) 5 f fd ["value"] (spDeed K) := by
  refine F.okX sc_is_deed (fun vs H Q E h => pro_len h fun _ => rfl) (fun cdv A outer s H vs Q E hr h => ⟨_, (pss_cons (ps_if (pt_val (pe_c c_is_said hr (by first | decide | exact Nat.le_refl _) rfl (passes_call (takes_of rfl rfl rfl rfl) (fun _ _ _ _ h => h)) (pa_cons (pv 0) (pa_cons pe_str (pa_cons pe_int pa_nil))))) (pss_one (ps_ret (pe_c c_is_utterance_object hr (by first | decide | exact Nat.le_refl _) rfl (passes_call (takes_of rfl rfl rfl rfl) (fun _ _ _ _ h => h)) (pa_cons (pe_ix (kX K rIx rfl ix_seq) (pv 0) pe_int (fun _ _ => rfl)) pa_nil)))) pss_nil)
    (pss_cons (ps_if (pt_val (pe_c c_is_said hr (by first | decide | exact Nat.le_refl _) rfl (passes_call (takes_of rfl rfl rfl rfl) (fun _ _ _ _ h => h)) (pa_cons (pv 0) (pa_cons pe_str (pa_cons pe_int pa_nil))))) (pss_one (ps_ret (pe_c c_is_count hr (by first | decide | exact Nat.le_refl _) rfl (passes_call (takes_of rfl rfl rfl rfl) (fun _ _ _ _ h => h)) (pa_cons (pe_ix (kX K rIx rfl ix_seq) (pv 0) pe_int (fun _ _ => rfl)) (pa_cons pe_int pa_nil))))) pss_nil)
    (pss_cons (ps_if (pt_val (pe_c c_is_said hr (by first | decide | exact Nat.le_refl _) rfl (passes_call (takes_of rfl rfl rfl rfl) (fun _ _ _ _ h => h)) (pa_cons (pv 0) (pa_cons pe_str (pa_cons pe_int pa_nil))))) (pss_one (ps_ret (pe_c c_is_tag hr (by first | decide | exact Nat.le_refl _) rfl (passes_call (takes_of rfl rfl rfl rfl) (fun _ _ _ _ h => h)) (pa_cons (pe_ix (kX K rIx rfl ix_seq) (pv 0) pe_int (fun _ _ => rfl)) pa_nil)))) pss_nil)
    (pss_one (ps_ret (pe_or (pe_c c_is_said hr (by first | decide | exact Nat.le_refl _) rfl (passes_call (takes_of rfl rfl rfl rfl) (fun _ _ _ _ h => h)) (pa_cons (pv 0) (pa_cons pe_str (pa_cons pe_int pa_nil)))) (pe_or (pe_c c_is_said hr (by first | decide | exact Nat.le_refl _) rfl (passes_call (takes_of rfl rfl rfl rfl) (fun _ _ _ _ h => h)) (pa_cons (pv 0) (pa_cons pe_str (pa_cons pe_int pa_nil)))) (pe_one (pe_c c_is_said hr (by first | decide | exact Nat.le_refl _) rfl (passes_call (takes_of rfl rfl rfl rfl) (fun _ _ _ _ h => h)) (pa_cons (pv 0) (pa_cons pe_str (pa_cons pe_int pa_nil)))))))))))), run_body h fun d S hd hl hcl wi => ?_⟩)
  have hl : S.A.length = 0 := hl
  have hd : DeedV d := hd
  cases d with
  | say r ps tag =>
    walk_at "pp"
    refine ask_said (.say r ps tag) (Str.ofString "say") 2 true (by show (true && decide (V.str (Str.ofString "say") = V.str (Str.ofString "say"))) = true; decide +kernel) ?_
    walk_at "pp"
    refine ⟨rfl, ?_⟩
    walk_at "pp"
    refine ee_cz ?_
    walk_at "pp"
    refine oo_ixT rfl ?_
    walk_at "pp"
    refine ⟨(r, ps, tag), hd, rfl, by show ((true && (D.ltL 0 (ps.map phL) && (true && true))) && true) = true; rw [phs_cl]; rfl, ?_⟩
    rintro x rfl
    walk_at "gp"
    exact gaveP hl (by rfl) rfl
  | tick k =>
    walk_at "pp"
    refine ask_said (.tick k) (Str.ofString "say") 2 false (by show (true && decide (V.str (Str.ofString "tick") = V.str (Str.ofString "say"))) = false; decide +kernel) ?_
    walk_at "pp"
    refine ⟨rfl, ?_⟩
    walk_at "pp"
    refine ask_said (.tick k) (Str.ofString "tick") 2 true (by show (true && decide (V.str (Str.ofString "tick") = V.str (Str.ofString "tick"))) = true; decide +kernel) ?_
    walk_at "pp"
    refine ⟨rfl, ?_⟩
    have hd : 1 ≤ k ∧ k ≤ 4000 := hd
    walk_at "pp"
    refine ee_cz ?_
    walk_at "pp"
    refine oo_ixT rfl ?_
    walk_at "pp"
    refine ⟨(.int (k : Int), 1), ⟨rfl, rfl⟩, rfl, rfl, ?_⟩
    intro x hx
    have hx : x = .bl true := by
      rw [hx]
      show D.bl (decide (((1 : Nat) : Int) ≤ (k : Int))) = _
      rw [decide_eq_true (show ((1 : Nat) : Int) ≤ (k : Int) by omega)]
    subst hx
    walk_at "gp"
    exact gaveP hl (by rfl) rfl
  | drop tag =>
    walk_at "pp"
    refine ask_said (.drop tag) (Str.ofString "say") 2 false (by show (true && decide (V.str (Str.ofString "drop") = V.str (Str.ofString "say"))) = false; decide +kernel) ?_
    walk_at "pp"
    refine ⟨rfl, ?_⟩
    walk_at "pp"
    refine ask_said (.drop tag) (Str.ofString "tick") 2 false (by show (true && decide (V.str (Str.ofString "drop") = V.str (Str.ofString "tick"))) = false; decide +kernel) ?_
    walk_at "pp"
    refine ⟨rfl, ?_⟩
    walk_at "pp"
    refine ask_said (.drop tag) (Str.ofString "drop") 2 true (by show (true && decide (V.str (Str.ofString "drop") = V.str (Str.ofString "drop"))) = true; decide +kernel) ?_
    walk_at "pp"
    refine ⟨rfl, ?_⟩
    have hd : TagOk tag := hd
    walk_at "pp"
    refine ee_cz ?_
    walk_at "pp"
    refine oo_ixT rfl ?_
    walk_at "pp"
    refine ⟨tag, hd, rfl, rfl, ?_⟩
    rintro x rfl
    walk_at "gp"
    exact gaveP hl (by rfl) rfl
  | hold =>
    walk_at "pp"
    refine ask_said (.hold) (Str.ofString "say") 2 false (by show (false && decide (V.str (Str.ofString "hold") = V.str (Str.ofString "say"))) = false; decide +kernel) ?_
    walk_at "pp"
    refine ⟨rfl, ?_⟩
    walk_at "pp"
    refine ask_said (.hold) (Str.ofString "tick") 2 false (by show (false && decide (V.str (Str.ofString "hold") = V.str (Str.ofString "tick"))) = false; decide +kernel) ?_
    walk_at "pp"
    refine ⟨rfl, ?_⟩
    walk_at "pp"
    refine ask_said (.hold) (Str.ofString "drop") 2 false (by show (false && decide (V.str (Str.ofString "hold") = V.str (Str.ofString "drop"))) = false; decide +kernel) ?_
    walk_at "pp"
    refine ⟨rfl, ?_⟩
    walk_at "pp"
    refine ask_said (.hold) (Str.ofString "hold") 1 true (by show (true && decide (V.str (Str.ofString "hold") = V.str (Str.ofString "hold"))) = true; decide +kernel) ?_
    walk_at "pp"
    refine ⟨rfl, ?_⟩
    walk_at "pp"
    walk_at "gp"
    exact gaveP hl (by rfl) rfl
  | go =>
    walk_at "pp"
    refine ask_said (.go) (Str.ofString "say") 2 false (by show (false && decide (V.str (Str.ofString "go_on") = V.str (Str.ofString "say"))) = false; decide +kernel) ?_
    walk_at "pp"
    refine ⟨rfl, ?_⟩
    walk_at "pp"
    refine ask_said (.go) (Str.ofString "tick") 2 false (by show (false && decide (V.str (Str.ofString "go_on") = V.str (Str.ofString "tick"))) = false; decide +kernel) ?_
    walk_at "pp"
    refine ⟨rfl, ?_⟩
    walk_at "pp"
    refine ask_said (.go) (Str.ofString "drop") 2 false (by show (false && decide (V.str (Str.ofString "go_on") = V.str (Str.ofString "drop"))) = false; decide +kernel) ?_
    walk_at "pp"
    refine ⟨rfl, ?_⟩
    walk_at "pp"
    refine ask_said (.go) (Str.ofString "hold") 1 false (by show (true && decide (V.str (Str.ofString "go_on") = V.str (Str.ofString "hold"))) = false; decide +kernel) ?_
    walk_at "pp"
    refine ⟨rfl, ?_⟩
    walk_at "pp"
    refine ask_said (.go) (Str.ofString "go_on") 1 true (by show (true && decide (V.str (Str.ofString "go_on") = V.str (Str.ofString "go_on"))) = true; decide +kernel) ?_
    walk_at "pp"
    refine ⟨rfl, ?_⟩
    walk_at "pp"
    walk_at "gp"
    exact gaveP hl (by rfl) rfl
  | stop =>
    walk_at "pp"
    refine ask_said (.stop) (Str.ofString "say") 2 false (by show (false && decide (V.str (Str.ofString "stop") = V.str (Str.ofString "say"))) = false; decide +kernel) ?_
    walk_at "pp"
    refine ⟨rfl, ?_⟩
    walk_at "pp"
    refine ask_said (.stop) (Str.ofString "tick") 2 false (by show (false && decide (V.str (Str.ofString "stop") = V.str (Str.ofString "tick"))) = false; decide +kernel) ?_
    walk_at "pp"
    refine ⟨rfl, ?_⟩
    walk_at "pp"
    refine ask_said (.stop) (Str.ofString "drop") 2 false (by show (false && decide (V.str (Str.ofString "stop") = V.str (Str.ofString "drop"))) = false; decide +kernel) ?_
    walk_at "pp"
    refine ⟨rfl, ?_⟩
    walk_at "pp"
    refine ask_said (.stop) (Str.ofString "hold") 1 false (by show (true && decide (V.str (Str.ofString "stop") = V.str (Str.ofString "hold"))) = false; decide +kernel) ?_
    walk_at "pp"
    refine ⟨rfl, ?_⟩
    walk_at "pp"
    refine ask_said (.stop) (Str.ofString "go_on") 1 false (by show (true && decide (V.str (Str.ofString "stop") = V.str (Str.ofString "go_on"))) = false; decide +kernel) ?_
    walk_at "pp"
    refine ⟨rfl, ?_⟩
    walk_at "pp"
    refine ask_said (.stop) (Str.ofString "stop") 1 true (by show (true && decide (V.str (Str.ofString "stop") = V.str (Str.ofString "stop"))) = true; decide +kernel) ?_
    walk_at "pp"
    refine ⟨rfl, ?_⟩
    walk_at "pp"
    walk_at "gp"
    exact gaveP hl (by rfl) rfl
end


theorem cutD_0n {l : List D} {j : Nat} : cutD l none (some (j : Int)) = l.take j := by
  show (l.drop 0).take (HT.sIx l.length l.length (some (j : Int)) - 0) = _
  rw [HT.sIx_nat, List.drop_zero, Nat.sub_zero]
  by_cases hj : j ≤ l.length
  · rw [Nat.min_eq_left hj]
  · rw [List.take_of_length_le (by omega), List.take_of_length_le (by omega)]
theorem cutD_n0 {l : List D} {j : Nat} : cutD l (some (j : Int)) none = l.drop j := by
  show (l.drop (HT.sIx l.length 0 (some (j : Int)))).take (l.length - HT.sIx l.length 0 (some (j : Int))) = _
  rw [HT.sIx_nat, List.take_of_length_le (by rw [List.length_drop]; omega)]
  by_cases hi : j ≤ l.length
  · rw [Nat.min_eq_left hi]
  · rw [List.drop_of_length_le (by omega : l.length ≤ j), List.drop_of_length_le (by omega)]
section
variable {P : Program} {w : World} {K : PySem.W.Frag} {mg : Str → Option Value} {base : Heap} {a : Ad} {f : Addr} {fd : FuncData}
abbrev spLogOk (K : PySem.W.Frag) : Sp := ProP K (T := List Deed) (fun l => [.lst (l.map deedD)]) (fun l => (∀ d ∈ l, DeedV d) ∧ l.length ≤ 1000) (fun _ r => r = .bl true) (fun _ _ _ => False)
abbrev st_is_log_object : Stmt := top 32
abbrev nm_is_log_object : List Str := ["value", "deed"]
theorem sc_is_log_object : FnScope nm_is_log_object ["value"] (defScope st_is_log_object) := ⟨rfl, rfl, rfl, by decide +kernel, rfl, by decide +kernel, by decide +kernel⟩
theorem ok_is_log (F : Fun K "is_log_object" "is_log_object" st_is_log_object f fd) (T : Tx P w K mg base a) (c_is_deed : CalX P w K mg base 5 "is_deed" ["value"] (spDeed K)) : FnOk P w K mg base (L2.CX P w) 6 f fd ["value"] (spLogOk K) := by
  refine F.okX sc_is_log_object (fun vs H Q E h => pro_len h fun _ => rfl) (fun cdv A outer s H vs Q E hr h => ⟨_, (pss_one (ps_ret (pe_and (pe_callB (kC K rIsiU rfl call_isU) (by rfl) T.b_isinstance (by decide +kernel) (pa_cons (pv 0) (pa_cons (pe_bltn (v := .ty "list") (by rfl) T.b_list (by decide +kernel) rfl) pa_nil))) (pe_one (pe_callB (kC K rAll rfl (cr_all rfl)) (by rfl) T.b_all (by decide +kernel) (pa_cons (pe_lc (own := [("deed", 1)]) (tt := tYes) (g := (gName 1)) rfl sc_is_log_object.nd (pi_listK (K := K) rfl (pv 0)) (blkOk_by (own := [("deed", 1)]) (N := nm_is_log_object) (sc := (defScope st_is_log_object)) (by decide +kernel)) (fun _ _ _ _ _ => (pg_name (i := 1) sc_is_log_object.nd rfl (by first | exact Or.inl rfl | exact Or.inr rfl))) (fun _ _ _ _ _ => pts_nil) (fun _ _ _ _ _ => (pe_c c_is_deed hr (by first | decide | exact Nat.le_refl _) rfl passL (pa_cons (pv 1) pa_nil)))) pa_nil)))))), run_body h fun l S ⟨hd, hz⟩ hl hcl wi => ?_⟩)
  have hl : S.A.length = 0 := hl
  have hd : ∀ d ∈ l, DeedV d := hd
  have hz : l.length ≤ 1000 := hz
  walk_at "pp"
  refine ee_lc (ie_list ?_)
  walk_at "pp"
  refine ⟨_, .inl rfl, fun _ h => h, trivial, fun _ => true, fun _ => .bl true, by rw [List.length_map]; omega, fun _ _ _ => rfl, fun x acc hx => ?_, ?_⟩
  · obtain ⟨d, hd1, rfl⟩ := List.mem_map.mp hx
    refine gw_name (by decide) ?_
    refine et_yes ?_
    refine ⟨rfl, rfl, fun _ => ?_⟩
    refine ee_cz ?_
    walk_at "pp"
    exact ⟨d, hd d hd1, rfl, by show ((deedD d).lt 0 && true) = true; rw [deed_cl]; rfl, fun r hr => ⟨hr, rfl⟩⟩
  rw [List.filter_eq_self.mpr fun _ _ => rfl, trues]
  walk_at "pp"
  refine cc_all (.lst _) ?_
  rw [all_trues]
  walk_at "gp"
  exact gaveP hl (by rfl) rfl
abbrev phT (p : List Str) : D := .tup (p.map strD)
def thD (t : Th) : D := .tup [.int (t.say : Int), .int (t.rank : Int), .tup (t.phs.map phT), .str t.tag, .int (t.ph : Int), .int (t.un : Int)]
def saidD : Option Th → D
  | none => .non
  | some t => thD t
def stD (s : Stt) : D := .tup [saidD s.said, .tup (s.wt.map thD), .bl s.held, .bl s.stp]
theorem phsT_cl {m : Nat} {ps : List (List Str)} : D.ltL m (ps.map phT) = true := D.ltL_all.mpr fun x hx => by
  obtain ⟨p, _, rfl⟩ := List.mem_map.mp hx
  exact strs_cl
theorem th_cl {m : Nat} (t : Th) : (thD t).lt m = true := by
  show (true && (true && (D.ltL m (t.phs.map phT) && (true && (true && (true && true)))))) = true
  rw [phsT_cl]
  rfl
theorem ths_cl {m : Nat} {w : List Th} : D.ltL m (w.map thD) = true := D.ltL_all.mpr fun x hx => by
  obtain ⟨t, _, rfl⟩ := List.mem_map.mp hx
  exact th_cl t
theorem said_cl {m : Nat} (o : Option Th) : (saidD o).lt m = true := by
  cases o with
  | none => rfl
  | some t => exact th_cl t
theorem st_cl {m : Nat} (s : Stt) : (stD s).lt m = true := by
  show ((saidD s.said).lt m && (D.ltL m (s.wt.map thD) && (true && (true && true)))) = true
  rw [said_cl, ths_cl]
  rfl
abbrev spStanding (K : PySem.W.Frag) : Sp := ProP K (T := Stt) (fun s => [stD s]) (fun s => s.wt.length ≤ 10000) (fun s r => r = .tup ((stand s).map thD)) (fun _ _ _ => False)
abbrev st_standing : Stmt := top 21
abbrev nm_standing : List Str := ["state"]
theorem sc_standing : FnScope nm_standing ["state"] (defScope st_standing) := ⟨rfl, rfl, rfl, by decide +kernel, rfl, by decide +kernel, by decide +kernel⟩
theorem ok_standing (F : Fun K "standing" "standing" st_standing f fd) (T : Tx P w K mg base a) : FnOk P w K mg base (L2.CX P w) 1 f fd ["state"] (spStanding K) := by
  refine F.okX sc_standing (fun vs H Q E h => pro_len h fun _ => rfl) (fun cdv A outer s H vs Q E hr h => ⟨_, (pss_one (ps_ret (pe_ifExp (pt_cmpR op_isN (pe_ix (kX K rIx rfl ix_seq) (pv 0) pe_int (fun _ _ => rfl)) pe_non (nomark _)) (pe_ix (kX K rIx rfl ix_seq) (pv 0) pe_int (fun _ _ => rfl)) (pe_op (kO K rPlus rfl op_plus) (pe_tup (pa_cons (pe_ix (kX K rIx rfl ix_seq) (pv 0) pe_int (fun _ _ => rfl)) pa_nil)) (pe_ix (kX K rIx rfl ix_seq) (pv 0) pe_int (fun _ _ => rfl)))))), run_body h fun ⟨sd, wt, hh, sp⟩ S hz hl hcl wi => ?_⟩)
  have hl : S.A.length = 0 := hl
  have hz : wt.length ≤ 10000 := hz
  cases sd with
  | none =>
    walk_at "pp"
    refine oo_ixT rfl ?_
    walk_at "pp"
    refine oo_ixT rfl ?_
    walk_at "gp"
    exact gaveP hl (by show D.ltL 0 (wt.map thD) = true; exact ths_cl) rfl
  | some t =>
    walk_at "pp"
    refine oo_ixT rfl ?_
    walk_at "pp"
    refine oo_ixT rfl ?_
    refine ea_nil ?_
    refine ⟨Nat.le_of_ble_eq_true rfl, ?_⟩
    walk_at "pp"
    refine oo_ixT rfl ?_
    refine oo_addT (by rw [List.length_map]; show 1 + wt.length ≤ _; omega) ?_
    walk_at "gp"
    exact gaveP hl (by show D.ltL 0 ((t :: wt).map thD) = true; exact ths_cl) rfl
def rankD : D → Nat
  | .tup (_ :: .v (.int r) :: _) => r.toNat
  | _ => 0
theorem rank_th {t : Th} : rankD (thD t) = t.rank := Int.toNat_natCast _
abbrev spPutIn (K : PySem.W.Frag) : Sp := ProP K (T := List Th × Th × Bool) (fun t => [.tup (t.1.map thD), thD t.2.1, .bl t.2.2]) (fun t => Sorted t.1 ∧ t.1.length ≤ 10000) (fun t r => r = .tup ((putIn t.1 t.2.1 t.2.2).map thD)) (fun _ _ _ => False)
abbrev st_put_in : Stmt := top 22
abbrev nm_put_in : List Str := ["waiting", "thing", "is_cut", "ahead", "other"]
theorem sc_put_in : FnScope nm_put_in ["waiting", "thing", "is_cut"] (defScope st_put_in) := ⟨rfl, rfl, rfl, by decide +kernel, rfl, by decide +kernel, by decide +kernel⟩
theorem ok_put_in (F : Fun K "put_in" "put_in" st_put_in f fd) (T : Tx P w K mg base a) : FnOk P w K mg base (L2.CX P w) 1 f fd ["waiting", "thing", "is_cut"] (spPutIn K) := by
  refine F.okX sc_put_in (fun vs H Q E h => pro_len h fun _ => rfl) (fun cdv A outer s H vs Q E hr h => ⟨_, (pss_cons (ps_setLc (i := 3) (own := [("other", 4)]) (g := (gName 4)) rfl sc_put_in.nd rfl rfl (sw_true rfl rfl rfl (by decide +kernel)) (pi_tupK (K := K) rfl (pv 0)) (blkOk_by (own := [("other", 4)]) (N := nm_put_in) (sc := (defScope st_put_in)) (by decide +kernel)) (fun _ _ _ _ _ => (pg_name (i := 4) sc_put_in.nd rfl (by first | exact Or.inl rfl | exact Or.inr rfl))) (fun _ _ _ _ _ => (pts_one (PW.pt (pw_or (pt_cmpR op_gt (pe_ix (kX K rIx rfl ix_seq) (pv 4) pe_int (fun _ _ => rfl)) (pe_ix (kX K rIx rfl ix_seq) (pv 1) pe_int (fun _ _ => rfl)) (nomark _)) (pw_or1 (PW.pt (pw_and (pt_cmpR (kO K rEqU rfl (op_eqU (hu64 hr))) (pe_ix (kX K rIx rfl ix_seq) (pv 4) pe_int (fun _ _ => rfl)) (pe_ix (kX K rIx rfl ix_seq) (pv 1) pe_int (fun _ _ => rfl)) (nomark _)) (pw_and1 (pt_not (pt_val (pv 2))))))))))) (fun _ _ _ _ _ => (pv 4)))
    (pss_one (ps_ret (pe_op (kO K rPlus rfl op_plus) (pe_op (kO K rPlus rfl op_plus) (pe_slice (kS K rSlU rfl sl_U) (pv 0) po_none (po_some (pe_callB (kC K rLenU rfl call_lenU) (by rfl) T.b_len (by decide +kernel) (pa_cons (pv 3) pa_nil)))) (pe_tup (pa_cons (pv 1) pa_nil))) (pe_slice (kS K rSlU rfl sl_U) (pv 0) (po_some (pe_callB (kC K rLenU rfl call_lenU) (by rfl) T.b_len (by decide +kernel) (pa_cons (pv 3) pa_nil))) po_none))))), run_body h fun ⟨wt, t, c⟩ S ⟨hso, hz⟩ hl hcl wi => ?_⟩)
  have hl : S.A.length = 0 := hl
  have hso : Sorted wt := hso
  have hz : wt.length ≤ 10000 := hz
  walk_at "pp"
  refine ee_lc (ie_tup ?_)
  walk_at "pp"
  refine ⟨fun _ h => h, trivial, fun x => decide (t.rank < rankD x) || (decide (rankD x = t.rank) && !c), fun x => x, by show (wt.map thD).length ≤ _; rw [List.length_map]; omega, fun x hx _ => ?_, fun x acc hx => ?_, ?_⟩
  · obtain ⟨o, _, rfl⟩ := List.mem_map.mp hx
    exact th_cl o
  · obtain ⟨o, _, rfl⟩ := List.mem_map.mp hx
    refine gw_name (by decide) ?_
    walk_at "pp"
    refine oo_ixT rfl ?_
    walk_at "pp"
    refine oo_ixT rfl ?_
    walk_at "pp"
    have er : rankD (thD o) = o.rank := rank_th
    have fin : ∀ b : Bool, b = (decide (t.rank < o.rank) || (decide (o.rank = t.rank) && !c)) → b = (decide (t.rank < rankD (thD o)) || (decide (rankD (thD o) = t.rank) && !c)) := fun b h => by rw [er]; exact h
    refine ⟨fun h => ?_, fun h => ?_⟩
    · have h : (t.rank : Int) < (o.rank : Int) := of_decide_eq_true h
      refine ⟨fin _ (by rw [decide_eq_true (show t.rank < o.rank by omega)]; rfl), rfl, fun _ => ?_⟩
      walk_at "pp"
      exact ⟨rfl, rfl⟩
    · have h : ¬ (t.rank : Int) < (o.rank : Int) := of_decide_eq_false h
      have h1 : decide (t.rank < o.rank) = false := decide_eq_false (by omega)
      walk_at "pp"
      refine oo_ixT rfl ?_
      walk_at "pp"
      refine oo_ixT rfl ?_
      walk_at "pp"
      refine ⟨fun h => ?_, fun h => ?_⟩
      · have h2 : o.rank = t.rank := by
          have h := of_decide_eq_true h
          injection h with h
          have h : (o.rank : Int) = (t.rank : Int) := h
          omega
        walk_at "pp"
        refine ⟨fin _ (by rw [h1, decide_eq_true h2]; simp), rfl, fun _ => ?_⟩
        walk_at "pp"
        exact ⟨rfl, rfl⟩
      · have h2 : decide (o.rank = t.rank) = false := decide_eq_false fun e => of_decide_eq_false h (by show V.int (o.rank : Int) = V.int (t.rank : Int); rw [e])
        refine ⟨fin _ (by rw [h1, h2]; rfl), rfl, fun z => by cases z⟩
  have hf : ((wt.map thD).filter fun x => decide (t.rank < rankD x) || (decide (rankD x = t.rank) && !c)) = (wt.filter (aheadB t c)).map thD := by
    rw [List.filter_map]
    refine congrArg (List.map thD) (List.filter_congr fun o _ => ?_)
    show (decide (t.rank < rankD (thD o)) || (decide (rankD (thD o) = t.rank) && !c)) = _
    rw [rank_th]
    rfl
  rw [List.map_id']
  rw [show ((wt, t, c) : List Th × Th × Bool).1 = wt from rfl, hf]
  have hl1 : (wt.filter (aheadB t c)).length ≤ wt.length := List.length_filter_le _ _
  have ht := putIn_take (t := t) (c := c) hso
  generalize wt.filter (aheadB t c) = ah at *
  walk_at "pp"
  refine cc_len (.lst _) ?_
  rw [List.length_map]
  walk_at "pp"
  refine ss_tup ?_
  rw [cutD_0n]
  walk_at "pp"
  refine oo_addT (by rw [List.length_take, List.length_map]; show _ + 1 ≤ _; omega) ?_
  walk_at "pp"
  refine cc_len (.lst _) ?_
  rw [List.length_map]
  walk_at "pp"
  refine ss_tup ?_
  rw [cutD_n0]
  refine oo_addT (by rw [List.length_append, List.length_take, List.length_drop, List.length_map]; show _ + 1 + _ ≤ _; omega) ?_
  have e : (wt.map thD).take ah.length ++ [thD t] ++ (wt.map thD).drop ah.length = (putIn wt t c).map thD := by
    rw [← ht, List.map_append, List.map_append, List.map_take, List.map_drop]
    rfl
  walk_at "gp"
  refine gaveP hl (d := .tup ((wt.map thD).take ah.length ++ [thD t] ++ (wt.map thD).drop ah.length)) (by rw [e]; show D.ltL 0 ((putIn wt t c).map thD) = true; exact ths_cl) ?_
  show D.tup _ = D.tup _
  rw [e]
end


section
variable {P : Program} {w : World} {K : PySem.W.Frag} {mg : Str → Option Value} {base : Heap} {a : Ad} {f : Addr} {fd : FuncData}
def evD : Ev → D
  | .cut n g p u => .tup [.str (Str.ofString "cut"), .int (n : Int), .str g, .tup [.int (p : Int), .int (u : Int)]]
  | .out n g => .tup [.str (Str.ofString "out"), .int (n : Int), .str g, .non]
  | .heard n g u => .tup [.str (Str.ofString "heard"), .int (n : Int), .str g, .str u]
  | .passed n g p => .tup [.str (Str.ofString "passed"), .int (n : Int), .str g, .int (p : Int)]
  | .done n g => .tup [.str (Str.ofString "done"), .int (n : Int), .str g, .non]
theorem evs_cl {m : Nat} {l : List Ev} : D.ltL m (l.map evD) = true := D.ltL_all.mpr fun x hx => by
  obtain ⟨e, _, rfl⟩ := List.mem_map.mp hx
  cases e <;> rfl
/-- a def that leads a state on and writes down what happened -/
abbrev spTr (K : PySem.W.Frag) {T : Type} (arg : T → List D) (pre : T → Prop) (tr : T → Stt × List Ev) : Sp := Pro K (T := List Ev × T) (fun t => [.lst (t.1.map evD)]) (fun t => arg t.2 ++ [.own 0]) (fun t => t.1.length ≤ 1000000 ∧ pre t.2 ∧ D.ltL 0 (arg t.2) = true) (fun t d μ => d = stD (tr t.2).1 ∧ μ = [.lst ((t.1 ++ (tr t.2).2).map evD)]) (fun _ _ _ _ => False)
theorem hand_last {k : Nat} : ∀ {l : List D}, D.ltL 0 l = true → HandL k (l ++ [.own k]) (l ++ [.own 0])
  | [], _ => .cons (.inl ⟨rfl, rfl⟩) .nil
  | d :: l, h => by
    have h := Bool.and_eq_true_iff.mp (show (d.lt 0 && D.ltL 0 l) = true from h)
    exact .cons (.inr ⟨h.1, rfl⟩) (hand_last h.2)
theorem ask_tr {S : Bs} {δ : Sl} {μ : List Cell} {C : D → List Cell → Prop} {ta : TA} {E : XK} {T : Type} {arg : T → List D} {pre : T → Prop} {tr : T → Stt × List Ev} (k : Nat) (h : EA K S ta δ μ fun ds μ1 => ∃ (t : T) (l : List Ev), ds = arg t ++ [.own k] ∧ μ1[k]? = some (.lst (l.map evD)) ∧ l.length ≤ 1000000 ∧ pre t ∧ D.ltL 0 (arg t) = true ∧ C (stD (tr t).1) (μ1.set k (.lst ((l ++ (tr t).2).map evD)))) : EE K S (tCall (spTr K arg pre tr) [] E ta) δ μ C :=
  ee_cz1 k fun A G H σ a' Q q => h A G H σ a' Q fun vs ds A1 G1 H1 μ1 m nn r ⟨t, l, e1, hk, hz, hp, hcl, hC⟩ => q vs ds A1 G1 H1 μ1 m nn r (by
    subst e1
    refine ⟨(l, t), l.map evD, ⟨hz, hp, hcl⟩, rfl, evs_cl, hk, hand_last hcl, fun d ν ⟨h1, h2⟩ => ?_⟩
    subst h1 h2
    exact ⟨st_cl _, _, rfl, evs_cl, hC⟩)
theorem gave_tr {S : Bs} {s : Stt} {l : List Ev} {ν : List Cell} (hS : S.A.length = 1) : Gave S (fun d μ => d = stD s ∧ μ = [.lst (l.map evD)]) (stD s) (.lst (l.map evD) :: ν) := gave1 hS (st_cl s) evs_cl ⟨rfl, rfl⟩
abbrev spCutOff (K : PySem.W.Frag) : Sp := spTr K (T := Stt) (fun s => [stD s]) (fun s => Sorted s.wt ∧ s.wt.length ≤ 10000) cutOff
abbrev st_cut_off : Stmt := top 23
abbrev nm_cut_off : List Str := ["state", "happened", "said", "waiting", "is_held", "is_stopped"]
theorem sc_cut_off : FnScope nm_cut_off ["state", "happened"] (defScope st_cut_off) := ⟨rfl, rfl, rfl, by decide +kernel, rfl, by decide +kernel, by decide +kernel⟩
theorem ok_cut_off (F : Fun K "cut_off" "cut_off" st_cut_off f fd) (T : Tx P w K mg base a) (c_put_in : CalX P w K mg base 1 "put_in" ["waiting", "thing", "is_cut"] (spPutIn K)) : FnOk P w K mg base (L2.CX P w) 2 f fd ["state", "happened"] (spCutOff K) := by
  refine F.okX sc_cut_off (fun vs H Q E h => pro_len h fun _ => rfl) (fun cdv A outer s H vs Q E hr h => ⟨_, (pss_cons (ps_asg (pv 0) (pg_tupK (K := K) rfl rfl (pgs_cons (pg_name (i := 2) sc_cut_off.nd rfl (by first | exact Or.inl rfl | exact Or.inr rfl)) (pgs_cons (pg_name (i := 3) sc_cut_off.nd rfl (by first | exact Or.inl rfl | exact Or.inr rfl)) (pgs_cons (pg_name (i := 4) sc_cut_off.nd rfl (by first | exact Or.inl rfl | exact Or.inr rfl)) (pgs_cons (pg_name (i := 5) sc_cut_off.nd rfl (by first | exact Or.inl rfl | exact Or.inr rfl)) pgs_nil))))))
    (pss_cons (ps_if (pt_cmpR op_isN (pv 2) pe_non (nomark _)) (pss_one (ps_ret (pv 0))) pss_nil)
    (pss_cons (ps_expr (pe_bmK (K := K) rfl PySem.F.plainAttrs_list PySem.F.slot_list_append PySem.F.type_list_append mt_append (pv 1) (pa_cons (pe_tup (pa_cons pe_str (pa_cons (pe_ix (kX K rIx rfl ix_seq) (pv 2) pe_int (fun _ _ => rfl)) (pa_cons (pe_ix (kX K rIx rfl ix_seq) (pv 2) pe_int (fun _ _ => rfl)) (pa_cons (pe_tup (pa_cons (pe_ix (kX K rIx rfl ix_seq) (pv 2) pe_int (fun _ _ => rfl)) (pa_cons (pe_ix (kX K rIx rfl ix_seq) (pv 2) pe_int (fun _ _ => rfl)) pa_nil))) pa_nil))))) pa_nil)))
    (pss_one (ps_ret (pe_tup (pa_cons pe_non (pa_cons (pe_c c_put_in hr (by first | decide | exact Nat.le_refl _) rfl (passes_call (takes_of rfl rfl rfl rfl) (fun _ _ _ _ h => h)) (pa_cons (pv 3) (pa_cons (pe_op (kO K rPlus rfl op_plus) (pe_slice (kS K rSlU rfl sl_U) (pv 2) po_none (po_some pe_int)) (pe_tup (pa_cons pe_int pa_nil))) (pa_cons pe_bl pa_nil)))) (pa_cons (pv 4) (pa_cons (pv 5) pa_nil)))))))))), run_body h fun ⟨acc, sd, wt, hh, sp⟩ S ⟨hz, ⟨hso, hwz⟩, _⟩ hl hcl wi => ?_⟩)
  have hz : acc.length ≤ 1000000 := hz
  have hso : Sorted wt := hso
  have hwz : wt.length ≤ 10000 := hwz
  have hS : S.A.length = 1 := hl
  walk_at "pp"
  refine se_asgG (ee_var rfl ?_)
  refine ge_four ?_
  show SE K S _ [some (stD ⟨sd, wt, hh, sp⟩), some (.own 0), some (saidD sd), some (.tup (wt.map thD)), some (.bl hh), some (.bl sp)] [.lst (acc.map evD)] _
  cases sd with
  | none =>
    walk_at "pp"
    walk_at "gp"
    have := gave_tr (s := ⟨none, wt, hh, sp⟩) (l := acc ++ []) (ν := []) hS
    rw [List.append_nil] at this
    show Gave S (fun d μ => d = stD ⟨none, wt, hh, sp⟩ ∧ μ = [.lst ((acc ++ []).map evD)]) _ _
    rw [List.append_nil]
    exact this
  | some t =>
    walk_at "pp"
    refine ee_bm ?_
    walk_at "pp"
    refine ⟨.lst (.own rfl), ?_⟩
    walk_at "pp"
    refine oo_ixT rfl ?_
    walk_at "pp"
    refine oo_ixT rfl ?_
    walk_at "pp"
    refine oo_ixT rfl ?_
    walk_at "pp"
    refine oo_ixT rfl ?_
    refine ea_nil ?_
    refine ⟨Nat.le_of_ble_eq_true rfl, ?_⟩
    refine ea_nil ?_
    refine ⟨Nat.le_of_ble_eq_true rfl, ?_⟩
    refine ea_nil ?_
    refine mm_append (l := acc.map evD) rfl (by rw [List.length_map]; omega) ?_
    have e1 : acc.map evD ++ [D.tup [D.str (Str.ofString "cut"), .int (t.say : Int), .str t.tag, .tup [.int (t.ph : Int), .int (t.un : Int)]]] = (acc ++ [Ev.cut t.say t.tag t.ph t.un]).map evD := by rw [List.map_append]; rfl
    show SE K S _ [some (stD ⟨some t, wt, hh, sp⟩), some (.own 0), some (saidD (some t)), some (.tup (wt.map thD)), some (.bl hh), some (.bl sp)] [.lst (acc.map evD ++ [D.tup [D.str (Str.ofString "cut"), .int (t.say : Int), .str t.tag, .tup [.int (t.ph : Int), .int (t.un : Int)]]])] _
    rw [e1]
    walk_at "pp"
    refine ee_cz ?_
    walk_at "pp"
    refine ss_tup ?_
    walk_at "pp"
    refine oo_addT (by exact Nat.le_of_ble_eq_true rfl) ?_
    walk_at "pp"
    refine ⟨(wt, { t with un := 0 }, true), ⟨hso, hwz⟩, rfl, ?_, ?_⟩
    · show (D.ltL 0 (wt.map thD) && ((thD { t with un := 0 }).lt 0 && (true && true))) = true
      rw [ths_cl, th_cl]
      rfl
    rintro d rfl
    walk_at "pp"
    walk_at "gp"
    exact gave_tr (s := ⟨none, putIn wt { t with un := 0 } true, hh, sp⟩) (l := acc ++ [Ev.cut t.say t.tag t.ph t.un]) (ν := []) hS
end


section
variable {P : Program} {w : World} {K : PySem.W.Frag} {mg : Str → Option Value} {base : Heap} {a : Ad} {f : Addr} {fd : FuncData}
abbrev intD (i : Nat) : D := .int (i : Int)
theorem inV_nat {k : Nat} : ∀ {L : List Nat}, inV (.int (k : Int)) (L.map fun (i : Nat) => V.int (i : Int)) = decide (k ∈ L)
  | [] => rfl
  | i :: L => by
    have e : inV (.int (k : Int)) ((i :: L).map fun (i : Nat) => V.int (i : Int)) = (((i : Int) == (k : Int)) || inV (.int (k : Int)) (L.map fun (i : Nat) => V.int (i : Int))) := rfl
    rw [e, inV_nat]
    by_cases h : k = i
    · subst h
      simp
    · have h2 : ((i : Int) == (k : Int)) = false := beq_eq_false_iff_ne.mpr fun z => h (by omega)
      rw [h2, Bool.false_or]
      exact decide_eq_decide.mpr (by simp [h])
theorem ints_v {L : List Nat} : L.map intD = (L.map fun (i : Nat) => V.int (i : Int)).map D.v := by
  rw [List.map_map]
  rfl
theorem oo_inNT {S : Bs} {μ : List Cell} {C : D → List Cell → Prop} {L : List Nat} {k : Nat} (c : C (.bl (decide (k ∈ L))) μ) : OO K S (rInU K) (.int (k : Int)) (.tup (L.map intD)) μ C := by
  rw [ints_v]
  refine oo_inT rfl (List.all_eq_true.mpr fun x hx => by obtain ⟨i, _, rfl⟩ := List.mem_map.mp hx; rfl) ?_
  rw [inV_nat]
  exact c
theorem ints_cl {L : List Nat} {m : Nat} : D.ltL m (L.map intD) = true := D.ltL_all.mpr fun x hx => by
  obtain ⟨i, _, rfl⟩ := List.mem_map.mp hx
  rfl
def tagV : Option Str → V
  | none => .non
  | some g => .str g
theorem gone_eq {rs : List Nat} {tg : Option Str} {t : Th} : goneB rs tg t = (decide (t.rank ∈ rs) || decide (V.str t.tag = tagV tg)) := by
  cases tg with
  | none =>
    show (decide (t.rank ∈ rs) || false) = _
    rw [show decide (V.str t.tag = tagV none) = false from decide_eq_false (fun z => by cases z)]
  | some g =>
    show (decide (t.rank ∈ rs) || decide (t.tag = g)) = _
    rw [show decide (V.str t.tag = tagV (some g)) = decide (t.tag = g) from decide_eq_decide.mpr ⟨fun z => by injection z, fun z => by rw [z]; rfl⟩]
def tagD : D → V
  | .tup (_ :: _ :: _ :: .v x :: _) => x
  | _ => .non
def goneD (rs : List Nat) (tg : Option Str) (x : D) : Bool := decide (rankD x ∈ rs) || decide (tagD x = tagV tg)
theorem goneD_th {rs : List Nat} {tg : Option Str} {t : Th} : goneD rs tg (thD t) = goneB rs tg t := by
  rw [gone_eq]
  show (decide (rankD (thD t) ∈ rs) || decide (V.str t.tag = tagV tg)) = _
  rw [rank_th]
theorem oo_niT {S : Bs} {μ : List Cell} {C : D → List Cell → Prop} {x : V} {ys : List V} (hx : flatV x = true) (hy : ys.all flatV = true) (k : C (.bl (!inV x ys)) μ) : OO K S (rNiU K) (.v x) (.tup (ys.map .v)) μ C := fun A G H u w m r1 r2 Q q => by
  have e1 := r1.vOf
  subst e1
  cases r2 with
  | tup h r =>
    have e2 := RpL.of_vals r
    subst e2
    exact .inl ⟨_, _, rfl, .inr (ex_t m.ex h.sq), hx, hy, q _ _ A G H μ m Nw.refl (.v _) k⟩
theorem oo_niNT {S : Bs} {μ : List Cell} {C : D → List Cell → Prop} {L : List Nat} {k : Nat} (c : C (.bl (!decide (k ∈ L))) μ) : OO K S (rNiU K) (.int (k : Int)) (.tup (L.map intD)) μ C := by
  rw [ints_v]
  refine oo_niT rfl (List.all_eq_true.mpr fun x hx => by obtain ⟨i, _, rfl⟩ := List.mem_map.mp hx; rfl) ?_
  rw [inV_nat]
  exact c
abbrev spCleared (K : PySem.W.Frag) : Sp := spTr K (T := Stt × List Nat × Option Str) (fun t => [stD t.1, .tup (t.2.1.map intD), .v (tagV t.2.2)]) (fun t => t.1.wt.length ≤ 10000) (fun t => clear t.1 t.2.1 t.2.2)
abbrev st_cleared : Stmt := top 24
abbrev nm_cleared : List Str := ["state", "ranks", "tag", "happened", "said", "waiting", "is_held", "is_stopped", "thing", "stays"]
theorem sc_cleared : FnScope nm_cleared ["state", "ranks", "tag", "happened"] (defScope st_cleared) := ⟨rfl, rfl, rfl, by decide +kernel, rfl, by decide +kernel, by decide +kernel⟩
theorem ok_cleared (F : Fun K "cleared" "cleared" st_cleared f fd) (T : Tx P w K mg base a) (c_standing : CalX P w K mg base 1 "standing" ["state"] (spStanding K)) : FnOk P w K mg base (L2.CX P w) 2 f fd ["state", "ranks", "tag", "happened"] (spCleared K) := by
  refine F.okX sc_cleared (fun vs H Q E h => pro_len h fun _ => rfl) (fun cdv A outer s H vs Q E hr h => ⟨_, (pss_cons (ps_asg (pv 0) (pg_tupK (K := K) rfl rfl (pgs_cons (pg_name (i := 4) sc_cleared.nd rfl (by first | exact Or.inl rfl | exact Or.inr rfl)) (pgs_cons (pg_name (i := 5) sc_cleared.nd rfl (by first | exact Or.inl rfl | exact Or.inr rfl)) (pgs_cons (pg_name (i := 6) sc_cleared.nd rfl (by first | exact Or.inl rfl | exact Or.inr rfl)) (pgs_cons (pg_name (i := 7) sc_cleared.nd rfl (by first | exact Or.inl rfl | exact Or.inr rfl)) pgs_nil))))))
    (pss_cons (ps_for (passes_of rfl) rfl (pi_tupK (K := K) rfl (pe_c c_standing hr (by first | decide | exact Nat.le_refl _) rfl (passes_call (takes_of rfl rfl rfl rfl) (fun _ _ _ _ h => h)) (pa_cons (pv 0) pa_nil))) (pg_name (i := 8) sc_cleared.nd rfl (by first | exact Or.inl rfl | exact Or.inr rfl))
      (pss_one (ps_if (PW.pt (pw_or (pt_cmpR (kO K rInU rfl op_inU) (pe_ix (kX K rIx rfl ix_seq) (pv 8) pe_int (fun _ _ => rfl)) (pv 1) (by with_unfolding_all rfl)) (pw_or1 (pt_cmpR (kO K rEqU rfl (op_eqU (hu64 hr))) (pe_ix (kX K rIx rfl ix_seq) (pv 8) pe_int (fun _ _ => rfl)) (pv 2) (nomark _))))) (pss_one (ps_expr (pe_bmK (K := K) rfl PySem.F.plainAttrs_list PySem.F.slot_list_append PySem.F.type_list_append mt_append (pv 3) (pa_cons (pe_tup (pa_cons pe_str (pa_cons (pe_ix (kX K rIx rfl ix_seq) (pv 8) pe_int (fun _ _ => rfl)) (pa_cons (pe_ix (kX K rIx rfl ix_seq) (pv 8) pe_int (fun _ _ => rfl)) (pa_cons pe_non pa_nil))))) pa_nil)))) pss_nil)))
    (pss_cons (ps_if (PW.pt (pw_and (pt_cmpR op_notN (pv 4) pe_non (nomark _)) (pw_and1 (PW.pt (pw_or (pt_cmpR (kO K rInU rfl op_inU) (pe_ix (kX K rIx rfl ix_seq) (pv 4) pe_int (fun _ _ => rfl)) (pv 1) (by with_unfolding_all rfl)) (pw_or1 (pt_cmpR (kO K rEqU rfl (op_eqU (hu64 hr))) (pe_ix (kX K rIx rfl ix_seq) (pv 4) pe_int (fun _ _ => rfl)) (pv 2) (nomark _)))))))) (pss_one (ps_set (i := 4) sc_cleared.nd rfl (by first | exact Or.inl rfl | exact Or.inr rfl) pe_non)) pss_nil)
    (pss_cons (ps_set (i := 9) sc_cleared.nd rfl (by first | exact Or.inl rfl | exact Or.inr rfl) (pe_callTy (kC K rTupOf rfl call_tupOf) (by rfl) T.b_tuple (by decide +kernel) (pa_cons (pe_lc (own := [("thing", 8)]) (g := (gName 8)) rfl sc_cleared.nd (pi_tupK (K := K) rfl (pv 5)) (blkOk_by (own := [("thing", 8)]) (N := nm_cleared) (sc := (defScope st_cleared)) (by decide +kernel)) (fun _ _ _ _ _ => (pg_name (i := 8) sc_cleared.nd rfl (by first | exact Or.inl rfl | exact Or.inr rfl))) (fun _ _ _ _ _ => (pts_one (PW.pt (pw_and (pt_cmpR (kO K rNiU rfl op_niU) (pe_ix (kX K rIx rfl ix_seq) (pv 8) pe_int (fun _ _ => rfl)) (pv 1) (by with_unfolding_all rfl)) (pw_and1 (pt_cmpR (kO K rNeU rfl (op_neU (hu64 hr))) (pe_ix (kX K rIx rfl ix_seq) (pv 8) pe_int (fun _ _ => rfl)) (pv 2) (nomark _))))))) (fun _ _ _ _ _ => (pv 8))) pa_nil)))
    (pss_one (ps_ret (pe_tup (pa_cons (pv 4) (pa_cons (pv 9) (pa_cons (pv 6) (pa_cons (pv 7) pa_nil))))))))))), run_body h fun ⟨acc, ⟨sd, wt, hh, sp⟩, rs, tg⟩ S ⟨hz, hwz, _⟩ hl hcl wi => ?_⟩)
  have hz : acc.length ≤ 1000000 := hz
  have hwz : wt.length ≤ 10000 := hwz
  have hS : S.A.length = 1 := hl
  walk_at "pp"
  refine se_asgG (ee_var rfl ?_)
  refine ge_four ?_
  show SE K S _ [some (stD ⟨sd, wt, hh, sp⟩), some (.tup (rs.map intD)), some (.v (tagV tg)), some (.own 0), some (saidD sd), some (.tup (wt.map thD)), some (.bl hh), some (.bl sp), none, none] [.lst (acc.map evD)] _
  have hst : (stand ⟨sd, wt, hh, sp⟩).length ≤ 10001 := by
    show (sd.toList ++ wt).length ≤ 10001
    rw [List.length_append]
    cases sd with
    | none => show 0 + wt.length ≤ _; omega
    | some t => show 1 + wt.length ≤ _; omega
  walk_at "pp"
  refine se_for (ie_tup ?_)
  refine ee_cz ?_
  walk_at "pp"
  refine ⟨⟨sd, wt, hh, sp⟩, hwz, rfl, by show ((stD ⟨sd, wt, hh, sp⟩).lt 0 && true) = true; rw [st_cl]; rfl, ?_⟩
  rintro d rfl
  refine ⟨_, rfl, ?_⟩
  refine ⟨rfl, fun i δ μ => ∃ x8 : Option D, δ = [some (stD ⟨sd, wt, hh, sp⟩), some (.tup (rs.map intD)), some (.v (tagV tg)), some (.own 0), some (saidD sd), some (.tup (wt.map thD)), some (.bl hh), some (.bl sp), x8, none] ∧ μ = [.lst ((acc ++ (((stand ⟨sd, wt, hh, sp⟩).take i).filter (goneB rs tg)).map fun t => Ev.out t.say t.tag).map evD)], ⟨none, rfl, by show _ = [Cell.lst ((acc ++ []).map evD)]; rw [List.append_nil]⟩, ?_, ?_⟩
  · rintro i x δ μ hi ⟨x8, rfl, rfl⟩
    rw [List.getElem?_map] at hi
    obtain ⟨t, ht, rfl⟩ := Option.map_eq_some_iff.mp hi
    obtain ⟨hil, _⟩ := List.getElem?_eq_some_iff.mp ht
    have htk : (stand ⟨sd, wt, hh, sp⟩).take (i + 1) = (stand ⟨sd, wt, hh, sp⟩).take i ++ [t] := by rw [List.take_succ, ht]; rfl
    have hlen : (((stand ⟨sd, wt, hh, sp⟩).take i).filter (goneB rs tg)).length ≤ 10001 := Nat.le_trans (List.length_filter_le _ _) (by rw [List.length_take]; omega)
    have hyes : goneB rs tg t = true → acc ++ (((stand ⟨sd, wt, hh, sp⟩).take (i + 1)).filter (goneB rs tg)).map (fun t => Ev.out t.say t.tag) = acc ++ (((stand ⟨sd, wt, hh, sp⟩).take i).filter (goneB rs tg)).map (fun t => Ev.out t.say t.tag) ++ [Ev.out t.say t.tag] := fun h => by
      rw [htk, List.filter_append, List.map_append, ← List.append_assoc, List.filter_cons_of_pos h]
      rfl
    have hno : goneB rs tg t = false → acc ++ (((stand ⟨sd, wt, hh, sp⟩).take (i + 1)).filter (goneB rs tg)).map (fun t => Ev.out t.say t.tag) = acc ++ (((stand ⟨sd, wt, hh, sp⟩).take i).filter (goneB rs tg)).map (fun t => Ev.out t.say t.tag) := fun h => by
      rw [htk, List.filter_append, List.map_append, ← List.append_assoc, List.filter_cons_of_neg (by rw [h]; decide)]
      exact List.append_nil _
    have hacl : (acc ++ (((stand ⟨sd, wt, hh, sp⟩).take i).filter (goneB rs tg)).map (fun t => Ev.out t.say t.tag)).length < 10000000 := by rw [List.length_append, List.length_map]; omega
    refine ge_name ?_
    walk_at "pp"
    refine oo_ixT rfl ?_
    walk_at "pp"
    refine oo_inNT ?_
    have app : ∀ {C : D → List Cell → Prop}, C .non [.lst ((acc ++ (((stand ⟨sd, wt, hh, sp⟩).take i).filter (goneB rs tg)).map (fun t => Ev.out t.say t.tag) ++ [Ev.out t.say t.tag]).map evD)] → MM K S rAppend (.own 0) [.tup [.str (Str.ofString "out"), .int (t.say : Int), .str t.tag, .non]] [.lst ((acc ++ (((stand ⟨sd, wt, hh, sp⟩).take i).filter (goneB rs tg)).map (fun t => Ev.out t.say t.tag)).map evD)] C := fun {C} h => by
      refine mm_append rfl (by rw [List.length_map]; exact hacl) ?_
      show C .non [.lst (List.map evD _ ++ [evD (Ev.out t.say t.tag)])]
      rw [← List.map_singleton (f := evD), ← List.map_append]
      exact h
    refine ⟨_, rfl, fun h => ?_, fun h => ?_⟩
    · have hg : goneB rs tg t = true := by rw [gone_eq, h]; rfl
      walk_at "pp"
      refine ee_bm ?_
      walk_at "pp"
      refine ⟨.lst (.own rfl), ?_⟩
      walk_at "pp"
      refine oo_ixT rfl ?_
      walk_at "pp"
      refine oo_ixT rfl ?_
      walk_at "pp"
      refine app ?_
      walk_at "pp"
      rw [hyes hg]
    · walk_at "pp"
      refine oo_ixT rfl ?_
      walk_at "pp"
      refine oo_eq (x := .str t.tag) (y := tagV tg) (by cases tg <;> rfl) ?_
      refine ⟨_, rfl, fun h2 => ?_, fun h2 => ?_⟩
      · have hg : goneB rs tg t = true := by rw [gone_eq, h2, Bool.or_true]
        walk_at "pp"
        refine ee_bm ?_
        walk_at "pp"
        refine ⟨.lst (.own rfl), ?_⟩
        walk_at "pp"
        refine oo_ixT rfl ?_
        walk_at "pp"
        refine oo_ixT rfl ?_
        walk_at "pp"
        refine app ?_
        walk_at "pp"
        rw [hyes hg]
      · have hg : goneB rs tg t = false := by rw [gone_eq, h, h2]; rfl
        walk_at "pp"
        rw [hno hg]
  rintro δ μ ⟨x8, rfl, rfl⟩
  show SE K S _ [some (stD ⟨sd, wt, hh, sp⟩), some (.tup (rs.map intD)), some (.v (tagV tg)), some (.own 0), some (saidD sd), some (.tup (wt.map thD)), some (.bl hh), some (.bl sp), x8, none] [.lst ((acc ++ (((stand ⟨sd, wt, hh, sp⟩).take ((stand ⟨sd, wt, hh, sp⟩).map thD).length).filter (goneB rs tg)).map fun t => Ev.out t.say t.tag).map evD)] _
  rw [List.length_map, List.take_length]
  refine se_seq ?_
  refine se_to (fun δ1 μ1 => δ1 = [some (stD ⟨sd, wt, hh, sp⟩), some (.tup (rs.map intD)), some (.v (tagV tg)), some (.own 0), some (saidD (sd.filter fun t => !goneB rs tg t)), some (.tup (wt.map thD)), some (.bl hh), some (.bl sp), x8, none] ∧ μ1 = [.lst ((acc ++ ((stand ⟨sd, wt, hh, sp⟩).filter (goneB rs tg)).map fun t => Ev.out t.say t.tag).map evD)]) ?_ ?_
  · cases sd with
    | none =>
      walk_at "pp"
      exact ⟨rfl, rfl⟩
    | some t =>
      have hy : goneB rs tg t = true → saidD ((some t).filter fun t => !goneB rs tg t) = .non := fun h => by
        show saidD (Option.filter _ (some t)) = _
        simp [Option.filter, h, saidD]
      have hn : goneB rs tg t = false → saidD ((some t).filter fun t => !goneB rs tg t) = thD t := fun h => by
        show saidD (Option.filter _ (some t)) = _
        simp [Option.filter, h, saidD]
      walk_at "pp"
      refine oo_ixT rfl ?_
      walk_at "pp"
      refine oo_inNT ?_
      refine ⟨_, rfl, fun h => ?_, fun h => ?_⟩
      · have hg : goneB rs tg t = true := by rw [gone_eq, h]; rfl
        walk_at "pp"
        rw [hy hg]
        exact ⟨rfl, rfl⟩
      · walk_at "pp"
        refine oo_ixT rfl ?_
        walk_at "pp"
        refine oo_eq (x := .str t.tag) (y := tagV tg) (by cases tg <;> rfl) ?_
        refine ⟨_, rfl, fun h2 => ?_, fun h2 => ?_⟩
        · have hg : goneB rs tg t = true := by rw [gone_eq, h2, Bool.or_true]
          walk_at "pp"
          rw [hy hg]
          exact ⟨rfl, rfl⟩
        · have hg : goneB rs tg t = false := by rw [gone_eq, h, h2]; rfl
          walk_at "pp"
          rw [hn hg]
          exact ⟨rfl, rfl⟩
  rintro δ1 μ1 ⟨rfl, rfl⟩
  walk_at "pp"
  refine ee_lc (ie_tup ?_)
  walk_at "pp"
  refine ⟨fun _ h => h, trivial, fun x => !goneD rs tg x, fun x => x, by show (wt.map thD).length ≤ _; rw [List.length_map]; omega, fun x hx _ => ?_, fun x acc hx => ?_, ?_⟩
  · obtain ⟨o, _, rfl⟩ := List.mem_map.mp hx
    exact th_cl o
  · obtain ⟨o, _, rfl⟩ := List.mem_map.mp hx
    refine gw_name (by decide) ?_
    walk_at "pp"
    refine oo_ixT rfl ?_
    walk_at "pp"
    refine oo_niNT ?_
    refine ⟨_, rfl, fun h => ?_, fun h => ?_⟩
    · have h : decide (o.rank ∈ rs) = false := by simpa using h
      walk_at "pp"
      refine oo_ixT rfl ?_
      walk_at "pp"
      refine oo_ne (x := .str o.tag) (y := tagV tg) (by cases tg <;> rfl) ?_
      refine ⟨_, rfl, ?_⟩
      refine ⟨?_, rfl, fun _ => ?_⟩
      · show _ = !goneD rs tg (thD o)
        rw [goneD_th, gone_eq, h, Bool.false_or]
      · walk_at "pp"
        exact ⟨rfl, rfl⟩
    · have h : decide (o.rank ∈ rs) = true := by simpa using h
      refine ⟨?_, rfl, fun z => by cases z⟩
      show _ = !goneD rs tg (thD o)
      rw [goneD_th, gone_eq, h]
      rfl
  have hf : ((wt.map thD).filter fun x => !goneD rs tg x).map (fun x => x) = (wt.filter fun t => !goneB rs tg t).map thD := by
    rw [List.map_id', List.filter_map]
    refine congrArg (List.map thD) (List.filter_congr fun o _ => ?_)
    show (!goneD rs tg (thD o)) = _
    rw [goneD_th]
  rw [hf]
  walk_at "pp"
  refine cc_tuple (.lst _) ?_
  walk_at "pp"
  walk_at "gp"
  exact gave_tr (s := (clear ⟨sd, wt, hh, sp⟩ rs tg).1) (l := acc ++ (clear ⟨sd, wt, hh, sp⟩ rs tg).2) (ν := []) hS
end


section
variable {P : Program} {w : World} {K : PySem.W.Frag} {mg : Str → Option Value} {base : Heap} {a : Ad} {f : Addr} {fd : FuncData}
local macro_rules | `(tactic| walk_at "pq") => `(tactic| repeat (first | walk_at "p1" | (refine oo_ixT rfl ?_)))
/-- .. whose events begin with none -/
abbrev spTr0 (K : PySem.W.Frag) {T : Type} (arg : T → List D) (pre : T → Prop) (tr : T → Stt × List Ev) : Sp := Pro K (T := T) (fun _ => [.lst []]) (fun t => arg t ++ [.own 0]) (fun t => pre t ∧ D.ltL 0 (arg t) = true) (fun t d μ => d = stD (tr t).1 ∧ μ = [.lst ((tr t).2.map evD)]) (fun _ _ _ _ => False)
theorem ask_tr0 {S : Bs} {δ : Sl} {μ : List Cell} {C : D → List Cell → Prop} {ta : TA} {E : XK} {T : Type} {arg : T → List D} {pre : T → Prop} {tr : T → Stt × List Ev} (k : Nat) (h : EA K S ta δ μ fun ds μ1 => ∃ t : T, ds = arg t ++ [.own k] ∧ μ1[k]? = some (.lst []) ∧ pre t ∧ D.ltL 0 (arg t) = true ∧ C (stD (tr t).1) (μ1.set k (.lst ((tr t).2.map evD)))) : EE K S (tCall (spTr0 K arg pre tr) [] E ta) δ μ C :=
  ee_cz1 k fun A G H σ a' Q q => h A G H σ a' Q fun vs ds A1 G1 H1 μ1 m nn r ⟨t, e1, hk, hp, hcl, hC⟩ => q vs ds A1 G1 H1 μ1 m nn r (by
    subst e1
    refine ⟨t, [], ⟨hp, hcl⟩, rfl, rfl, hk, hand_last hcl, fun d ν ⟨h1, h2⟩ => ?_⟩
    subst h1 h2
    exact ⟨st_cl _, _, rfl, evs_cl, hC⟩)
theorem intv {i j : Int} : decide (V.int i = V.int j) = decide (i = j) := decide_eq_decide.mpr ⟨fun h => by injection h, fun h => by rw [h]⟩
theorem natv {i j : Nat} : decide (V.int (i : Int) = V.int (j : Int)) = decide (i = j) := by rw [intv]; exact decide_eq_decide.mpr ⟨fun h => by omega, fun h => by omega⟩
def sayA (s : Stt) (r : Nat) : Stt × List Ev := if r = 3 then clear s [1, 3] none else (s, [])
def cutR (s : Stt) (r : Nat) : Stt × List Ev := if (s.said.any fun t => decide (t.rank < r)) = true then cutOff s else (s, [])
theorem doSay {s : Stt} {n r : Nat} {ps : List (List Str)} {tag : Str} : doDeed s n (.say r ps tag) = (⟨(cutR (sayA s r).1 r).1.said, putIn (cutR (sayA s r).1 r).1.wt ⟨n, r, ps, tag, 0, 0⟩ false, (cutR (sayA s r).1 r).1.held, false⟩, (sayA s r).2 ++ (cutR (sayA s r).1 r).2) := rfl
theorem sayA_ok {n r : Nat} {s : Stt} (h : Ok n s) : Ok n (sayA s r).1 := by
  unfold sayA
  split
  · exact clear_ok h
  · exact h
theorem cutR_ok {n r : Nat} {s : Stt} (h : Ok n s) : Ok n (cutR s r).1 := by
  unfold cutR
  split
  · exact cut_ok h
  · exact h
theorem wt_le {n : Nat} {s : Stt} (h : Ok n s) : s.wt.length ≤ n := by
  have := stand_le h
  unfold stand at this
  rw [List.length_append] at this
  omega
theorem cutR_no {n r : Nat} {s : Stt} (h : Ok n s) (hr : r ≤ 1) : cutR s r = (s, []) := by
  unfold cutR
  cases e : s.said with
  | none => rfl
  | some t =>
    have := (h.said e).1.rk.1
    rw [if_neg]
    show ¬ (decide (t.rank < r) = true)
    rw [decide_eq_false (by omega)]
    decide
theorem cutR3 {s : Stt} (h : ∀ t, s.said = some t → t.rank < 3) : cutR s 3 = cutOff s := by
  unfold cutR
  cases e : s.said with
  | none =>
    rw [if_neg (by decide)]
    unfold cutOff
    rw [e]
  | some t =>
    rw [if_pos]
    show decide (t.rank < 3) = true
    exact decide_eq_true (h t e)
def lstT : D → D
  | .lst l => .tup l
  | d => d
abbrev argSay (t : Stt × Nat × Nat × List (List Str) × Str) : List D := [stD t.1, intD t.2.1, utD t.2.2.1 t.2.2.2.1 t.2.2.2.2]
abbrev spSay (K : PySem.W.Frag) : Sp := spTr0 K (T := Stt × Nat × Nat × List (List Str) × Str) argSay (fun t => Ok t.2.1 t.1 ∧ t.2.1 ≤ 9000 ∧ 1 ≤ t.2.2.1 ∧ t.2.2.1 ≤ 3 ∧ PhsOk t.2.2.2.1) (fun t => doDeed t.1 t.2.1 (.say t.2.2.1 t.2.2.2.1 t.2.2.2.2))
abbrev st_after_say : Stmt := top 25
abbrev nm_after_say : List Str := ["state", "say", "utterance", "happened", "rank", "phrases", "tag", "thing", "phrase"]
theorem sc_after_say : FnScope nm_after_say ["state", "say", "utterance", "happened"] (defScope st_after_say) := ⟨rfl, rfl, rfl, by decide +kernel, rfl, by decide +kernel, by decide +kernel⟩
theorem ok_after_say (F : Fun K "after_say" "after_say" st_after_say f fd) (T : Tx P w K mg base a) (c_cut_off : CalX P w K mg base 2 "cut_off" ["state", "happened"] (spCutOff K)) (c_cleared : CalX P w K mg base 2 "cleared" ["state", "ranks", "tag", "happened"] (spCleared K)) (c_put_in : CalX P w K mg base 1 "put_in" ["waiting", "thing", "is_cut"] (spPutIn K)) : FnOk P w K mg base (L2.CX P w) 3 f fd ["state", "say", "utterance", "happened"] (spSay K) := by
  refine F.okX sc_after_say (fun vs H Q E h => pro_len h fun _ => rfl) (fun cdv A outer s H vs Q E hr h => ⟨_, (pss_cons (ps_asg (pv 2) (pg_tupK (K := K) rfl rfl (pgs_cons (pg_name (i := 4) sc_after_say.nd rfl (by first | exact Or.inl rfl | exact Or.inr rfl)) (pgs_cons (pg_name (i := 5) sc_after_say.nd rfl (by first | exact Or.inl rfl | exact Or.inr rfl)) (pgs_cons (pg_name (i := 6) sc_after_say.nd rfl (by first | exact Or.inl rfl | exact Or.inr rfl)) pgs_nil)))))
    (pss_cons (ps_if (PW.pt (pw_and (pt_cmpR (kO K rEqU rfl (op_eqU (hu64 hr))) (pv 4) pe_int (nomark _)) (pw_and (pt_cmpR op_notN (pe_ix (kX K rIx rfl ix_seq) (pv 0) pe_int (fun _ _ => rfl)) pe_non (nomark _)) (pw_and1 (pt_cmpR (kO K rEqU rfl (op_eqU (hu64 hr))) (pe_ix (kX K rIx rfl ix_seq) (pe_ix (kX K rIx rfl ix_seq) (pv 0) pe_int (fun _ _ => rfl)) pe_int (fun _ _ => rfl)) pe_int (nomark _)))))) (pss_one (ps_set (i := 0) sc_after_say.nd rfl (by first | exact Or.inl rfl | exact Or.inr rfl) (pe_c c_cut_off hr (by first | decide | exact Nat.le_refl _) rfl (passes_call (takes_of rfl rfl rfl rfl) (fun _ _ _ _ h => h)) (pa_cons (pv 0) (pa_cons (pv 3) pa_nil))))) pss_nil)
    (pss_cons (ps_if (pt_cmpR (kO K rEqU rfl (op_eqU (hu64 hr))) (pv 4) pe_int (nomark _)) (pss_one (ps_set (i := 0) sc_after_say.nd rfl (by first | exact Or.inl rfl | exact Or.inr rfl) (pe_c c_cut_off hr (by first | decide | exact Nat.le_refl _) rfl (passes_call (takes_of rfl rfl rfl rfl) (fun _ _ _ _ h => h)) (pa_cons (pe_c c_cleared hr (by first | decide | exact Nat.le_refl _) rfl (passes_call (takes_of rfl rfl rfl rfl) (fun _ _ _ _ h => h)) (pa_cons (pv 0) (pa_cons (pe_tup (pa_cons pe_int (pa_cons pe_int pa_nil))) (pa_cons pe_non (pa_cons (pv 3) pa_nil))))) (pa_cons (pv 3) pa_nil))))) pss_nil)
    (pss_cons (ps_set (i := 7) sc_after_say.nd rfl (by first | exact Or.inl rfl | exact Or.inr rfl) (pe_tup (pa_cons (pv 1) (pa_cons (pv 4) (pa_cons (pe_callTy (kC K rTupOf rfl call_tupOf) (by rfl) T.b_tuple (by decide +kernel) (pa_cons (pe_lc (own := [("phrase", 8)]) (tt := tYes) (g := (gName 8)) rfl sc_after_say.nd (pi_listK (K := K) rfl (pv 5)) (blkOk_by (own := [("phrase", 8)]) (N := nm_after_say) (sc := (defScope st_after_say)) (by decide +kernel)) (fun _ _ _ _ _ => (pg_name (i := 8) sc_after_say.nd rfl (by first | exact Or.inl rfl | exact Or.inr rfl))) (fun _ _ _ _ _ => pts_nil) (fun _ _ _ _ _ => (pe_callTy (kC K rTupOf rfl call_tupOf) (by rfl) T.b_tuple (by decide +kernel) (pa_cons (pv 8) pa_nil)))) pa_nil)) (pa_cons (pv 6) (pa_cons pe_int (pa_cons pe_int pa_nil))))))))
    (pss_one (ps_ret (pe_tup (pa_cons (pe_ix (kX K rIx rfl ix_seq) (pv 0) pe_int (fun _ _ => rfl)) (pa_cons (pe_c c_put_in hr (by first | decide | exact Nat.le_refl _) rfl (passes_call (takes_of rfl rfl rfl rfl) (fun _ _ _ _ h => h)) (pa_cons (pe_ix (kX K rIx rfl ix_seq) (pv 0) pe_int (fun _ _ => rfl)) (pa_cons (pv 7) (pa_cons pe_bl pa_nil)))) (pa_cons (pe_ix (kX K rIx rfl ix_seq) (pv 0) pe_int (fun _ _ => rfl)) (pa_cons pe_bl pa_nil))))))))))), run_body h fun ⟨s, n, r, ps, tag⟩ S ⟨⟨hok, hn, hr1, hr3, hps⟩, _⟩ hl hcl wi => ?_⟩)
  have hok : Ok n s := hok
  have hn : n ≤ 9000 := hn
  have hr1 : 1 ≤ r := hr1
  have hr3 : r ≤ 3 := hr3
  have hps : PhsOk ps := hps
  have hS : S.A.length = 1 := hl
  have hwt := wt_le hok
  walk_at "pq"
  refine se_asgG (ee_var rfl ?_)
  refine ge_three ?_
  show SE K S _ [some (stD s), some (intD n), some (utD r ps tag), some (.own 0), some (intD r), some (phsL ps), some (.str tag), none, none] [.lst []] _
  refine se_seq ?_
  refine se_to (fun δ1 μ1 => δ1 = [some (stD (if r = 2 then cutR s 2 else (s, [])).1), some (intD n), some (utD r ps tag), some (.own 0), some (intD r), some (phsL ps), some (.str tag), none, none] ∧ μ1 = [.lst ((if r = 2 then cutR s 2 else (s, [])).2.map evD)]) ?_ ?_
  · by_cases h2 : r = 2
    · subst h2
      rw [if_pos rfl]
      obtain ⟨sd, wt, hh, sp⟩ := s
      cases sd with
      | none =>
        walk_at "pq"
        exact ⟨rfl, rfl⟩
      | some t =>
        have hrk := (hok.said rfl).1.rk.1
        walk_at "pq"
        refine ⟨fun h => ?_, fun h => ?_⟩
        · have h : decide (V.int (t.rank : Int) = V.int ((1 : Nat) : Int)) = true := h
          rw [natv] at h
          have h := of_decide_eq_true h
          have e : cutR ⟨some t, wt, hh, sp⟩ 2 = cutOff ⟨some t, wt, hh, sp⟩ := if_pos (by show decide (t.rank < 2) = true; exact decide_eq_true (by omega))
          rw [e]
          walk_at "pq"
          refine ask_tr 0 ?_
          walk_at "pq"
          exact ⟨⟨some t, wt, hh, sp⟩, [], rfl, rfl, Nat.zero_le _, ⟨hok.so, by show wt.length ≤ _; have : wt.length ≤ n := hwt; omega⟩, by show ((stD _).lt 0 && true) = true; rw [st_cl]; rfl, rfl, rfl⟩
        · have h : decide (V.int (t.rank : Int) = V.int ((1 : Nat) : Int)) = false := h
          rw [natv] at h
          have h := of_decide_eq_false h
          have e : cutR ⟨some t, wt, hh, sp⟩ 2 = (⟨some t, wt, hh, sp⟩, []) := if_neg (by show ¬ (decide (t.rank < 2) = true); rw [decide_eq_false (by omega)]; decide)
          rw [e]
          walk_at "pq"
          exact ⟨rfl, rfl⟩
    · rw [if_neg h2]
      walk_at "pq"
      refine ⟨fun h => ?_, fun h => ?_⟩
      · have h : decide (V.int (r : Int) = V.int ((2 : Nat) : Int)) = true := h
        rw [natv] at h
        exact absurd (of_decide_eq_true h) h2
      · walk_at "pq"
        exact ⟨rfl, rfl⟩
  rintro δ1 μ1 ⟨rfl, rfl⟩
  refine se_seq ?_
  refine se_to (fun δ1 μ1 => δ1 = [some (stD (cutR (sayA s r).1 r).1), some (intD n), some (utD r ps tag), some (.own 0), some (intD r), some (phsL ps), some (.str tag), none, none] ∧ μ1 = [.lst (((sayA s r).2 ++ (cutR (sayA s r).1 r).2).map evD)]) ?_ ?_
  · by_cases h3 : r = 3
    · subst h3
      rw [if_neg (by decide)]
      have ea : sayA s 3 = clear s [1, 3] none := if_pos rfl
      have hoa : Ok n (clear s [1, 3] none).1 := clear_ok hok
      have hwa := wt_le hoa
      have ec : cutR (clear s [1, 3] none).1 3 = cutOff (clear s [1, 3] none).1 := cutR3 fun t e => by
        have hk := (hoa.said e).1.rk
        have hm : t ∈ stand (clear s [1, 3] none).1 := by unfold stand; rw [e]; exact List.mem_append_left _ List.mem_cons_self
        rw [clear_stand] at hm
        have hg := (List.mem_filter.mp hm).2
        unfold goneB at hg
        simp at hg
        omega
      rw [ea, ec]
      walk_at "pq"
      refine ask_tr 0 ?_
      walk_at "pq"
      refine ask_tr 0 ?_
      walk_at "pq"
      refine ⟨(s, [1, 3], none), [], rfl, rfl, Nat.zero_le _, by show s.wt.length ≤ _; omega, by show ((stD s).lt 0 && _) = true; rw [st_cl]; rfl, ?_⟩
      walk_at "pq"
      refine ⟨(clear s [1, 3] none).1, (clear s [1, 3] none).2, rfl, rfl, ?_, ⟨hoa.so, by show (clear s [1, 3] none).1.wt.length ≤ _; omega⟩, by show ((stD _).lt 0 && true) = true; rw [st_cl]; rfl, rfl, rfl⟩
      have h3 := List.length_filter_le (goneB [1, 3] none) (stand s)
      have h4 : (stand s).length ≤ n := stand_le hok
      show (((stand s).filter (goneB [1, 3] none)).map fun t => Ev.out t.say t.tag).length ≤ 1000000
      rw [List.length_map]
      omega
    · have ea : sayA s r = (s, []) := if_neg h3
      have ec : cutR s r = (if r = 2 then cutR s 2 else (s, [])) := by
        by_cases h2 : r = 2
        · rw [if_pos h2, h2]
        · rw [if_neg h2, cutR_no hok (by omega)]
      rw [ea]
      show SE K S _ _ _ { nx := fun δ1 μ1 => δ1 = [some (stD (cutR s r).1), some (intD n), some (utD r ps tag), some (.own 0), some (intD r), some (phsL ps), some (.str tag), none, none] ∧ μ1 = [.lst ((cutR s r).2.map evD)], rt := _ }
      rw [ec]
      walk_at "pq"
      refine ⟨fun h => ?_, fun h => ?_⟩
      · have h : decide (V.int (r : Int) = V.int ((3 : Nat) : Int)) = true := h
        rw [natv] at h
        exact absurd (of_decide_eq_true h) h3
      · walk_at "pq"
        exact ⟨rfl, rfl⟩
  have hob : Ok n (cutR (sayA s r).1 r).1 := cutR_ok (sayA_ok hok)
  have hdo := doSay (s := s) (n := n) (r := r) (ps := ps) (tag := tag)
  show ∀ δ1 μ1, _ → SE K S _ δ1 μ1 { nx := fun _ μ => Gave S (fun d μ => d = stD (doDeed s n (.say r ps tag)).1 ∧ μ = [.lst ((doDeed s n (.say r ps tag)).2.map evD)]) .non μ, rt := Gave S (fun d μ => d = stD (doDeed s n (.say r ps tag)).1 ∧ μ = [.lst ((doDeed s n (.say r ps tag)).2.map evD)]) }
  rw [hdo]
  generalize (sayA s r).2 ++ (cutR (sayA s r).1 r).2 = ev at *
  generalize (cutR (sayA s r).1 r).1 = s2 at *
  obtain ⟨sd2, wt2, hh2, sp2⟩ := s2
  have hw2 : wt2.length ≤ n := wt_le hob
  have hpl := len_phs hps
  rintro δ1 μ1 ⟨rfl, rfl⟩
  walk_at "pq"
  refine ee_lc (ie_list ?_)
  walk_at "pq"
  refine ⟨_, .inl rfl, fun _ h => h, trivial, fun _ => true, lstT, by rw [List.length_map]; have := hpl.1; omega, fun x hx _ => ?_, fun x acc hx => ?_, ?_⟩
  · obtain ⟨p, _, rfl⟩ := List.mem_map.mp hx
    exact strs_cl
  · obtain ⟨p, _, rfl⟩ := List.mem_map.mp hx
    refine gw_name (by decide) ?_
    refine et_yes ?_
    refine ⟨rfl, rfl, fun _ => ?_⟩
    walk_at "pq"
    refine cc_tuple (.lst _) ?_
    exact ⟨rfl, rfl⟩
  have e : ((ps.map phL).filter fun _ => true).map lstT = ps.map phT := by
    rw [List.filter_eq_self.mpr fun _ _ => rfl, List.map_map]
    rfl
  rw [e]
  walk_at "pq"
  refine cc_tuple (.lst _) ?_
  walk_at "pq"
  refine ee_cz ?_
  walk_at "pq"
  refine ⟨(wt2, ⟨n, r, ps, tag, 0, 0⟩, false), ⟨hob.so, by show wt2.length ≤ _; omega⟩, rfl, ?_, ?_⟩
  · show (D.ltL 0 (wt2.map thD) && ((thD ⟨n, r, ps, tag, 0, 0⟩).lt 0 && (true && true))) = true
    rw [ths_cl, th_cl]
    rfl
  rintro d rfl
  walk_at "pq"
  walk_at "gp"
  exact gave_tr (s := ⟨sd2, putIn wt2 ⟨n, r, ps, tag, 0, 0⟩ false, hh2, false⟩) (l := ev) (ν := []) hS
end


section
variable {P : Program} {w : World} {K : PySem.W.Frag} {mg : Str → Option Value} {base : Heap} {a : Ad} {f : Addr} {fd : FuncData}
local macro_rules | `(tactic| walk_at "pq") => `(tactic| repeat (first | walk_at "p1" | (refine oo_ixT rfl ?_)))
theorem ge_six {S : Bs} {δ : Sl} {μ : List Cell} {i j n o p q : Nat} {x y z w u v : D} {C : Sl → List Cell → Prop} (k : C ((((((δ.set i (some x)).set j (some y)).set n (some z)).set o (some w)).set p (some u)).set q (some v)) μ) : GE K S (gTup K 6 (gCons (gName i) (gCons (gName j) (gCons (gName n) (gCons (gName o) (gCons (gName p) (gCons (gName q) gNil))))))) (.tup [x, y, z, w, u, v]) δ μ C := fun A G H σ v0 a r Q qq => by
  cases r with
  | tup hs rl =>
    cases rl with
    | cons rx r =>
      cases r with
      | cons ry r =>
        cases r with
        | cons rz r =>
          cases r with
          | cons rw' r =>
            cases r with
            | cons ru r =>
              cases r with
              | cons rv r =>
                cases r
                exact ⟨_, _, rfl, ex_t a.m.ex hs.sq, rfl, _, _, rfl, _, _, rfl, _, _, rfl, _, _, rfl, _, _, rfl, _, _, rfl, rfl, qq A G H _ _ μ ⟨a.m, En.set rv q (En.set ru p (En.set rw' o (En.set rz n (En.set ry j (En.set rx i a.env)))))⟩ Nw.refl k⟩
theorem mm_ev {S : Bs} {μ : List Cell} {C : D → List Cell → Prop} {k : Nat} {acc : List Ev} (e : Ev) {d : D} (hd : d = evD e) (hc : μ[k]? = some (.lst (acc.map evD))) (hz : acc.length < 10000000) (c : C .non (μ.set k (.lst ((acc ++ [e]).map evD)))) : MM K S rAppend (.own k) [d] μ C := by
  subst hd
  refine mm_append hc (by rw [List.length_map]; exact hz) ?_
  rw [List.map_append] at c
  exact c
theorem ph_at {t : Th} (h : OkT t) : atI (t.phs.map phT) (t.ph : Int) = some (phT (phOf t)) := atI_nat (by
  rw [List.getElem?_map, List.getElem?_eq_getElem h.ph]
  show some (phT _) = some (phT (t.phs.getD t.ph []))
  rw [List.getD_eq_getElem?_getD, List.getElem?_eq_getElem h.ph]
  rfl)
theorem un_at {t : Th} (h : OkT t) : atI ((phOf t).map strD) (t.un : Int) = some (strD (unitOf t)) := atI_nat (by
  rw [List.getElem?_map, List.getElem?_eq_getElem h.un]
  show some (strD _) = some (strD ((phOf t).getD t.un (Str.ofString "")))
  rw [List.getD_eq_getElem?_getD, List.getElem?_eq_getElem h.un]
  rfl)
abbrev spTick (K : PySem.W.Frag) : Sp := spTr K (T := Stt) (fun s => [stD s]) (fun s => ∃ n, Ok n s ∧ n ≤ 9000) tick
abbrev st_after_tick : Stmt := top 26
abbrev nm_after_tick : List Str := ["state", "happened", "said", "waiting", "is_held", "say", "rank", "phrases", "tag", "phrase", "unit"]
theorem sc_after_tick : FnScope nm_after_tick ["state", "happened"] (defScope st_after_tick) := ⟨rfl, rfl, rfl, by decide +kernel, rfl, by decide +kernel, by decide +kernel⟩
theorem ok_after_tick (F : Fun K "after_tick" "after_tick" st_after_tick f fd) (T : Tx P w K mg base a) : FnOk P w K mg base (L2.CX P w) 1 f fd ["state", "happened"] (spTick K) := by
  refine F.okX sc_after_tick (fun vs H Q E h => pro_len h fun _ => rfl) (fun cdv A outer s H vs Q E hr h => ⟨_, (pss_cons (ps_asg (pe_slice (kS K rSlU rfl sl_U) (pv 0) po_none (po_some pe_int)) (pg_tupK (K := K) rfl rfl (pgs_cons (pg_name (i := 2) sc_after_tick.nd rfl (by first | exact Or.inl rfl | exact Or.inr rfl)) (pgs_cons (pg_name (i := 3) sc_after_tick.nd rfl (by first | exact Or.inl rfl | exact Or.inr rfl)) (pgs_cons (pg_name (i := 4) sc_after_tick.nd rfl (by first | exact Or.inl rfl | exact Or.inr rfl)) pgs_nil)))))
    (pss_cons (ps_if (PW.pt (pw_or (pt_val (pv 4)) (pw_or1 (PW.pt (pw_and (pt_cmpR op_isN (pv 2) pe_non (nomark _)) (pw_and1 (pt_cmpR (kO K rEqU rfl (op_eqU (hu64 hr))) (pe_callB (kC K rLenU rfl call_lenU) (by rfl) T.b_len (by decide +kernel) (pa_cons (pv 3) pa_nil)) pe_int (nomark _)))))))) (pss_one (ps_ret (pe_tup (pa_cons (pv 2) (pa_cons (pv 3) (pa_cons (pv 4) (pa_cons pe_bl pa_nil))))))) pss_nil)
    (pss_cons (ps_if (pt_cmpR op_isN (pv 2) pe_non (nomark _)) (pss_one (ps_par (i := 2) (j := 3) rfl sc_after_tick.nd rfl rfl (by decide) rfl rfl (pa_cons (pe_ix (kX K rIx rfl ix_seq) (pv 3) pe_int (fun _ _ => rfl)) (pa_cons (pe_slice (kS K rSlU rfl sl_U) (pv 3) (po_some pe_int) po_none) pa_nil)) (by rfl))) pss_nil)
    (pss_cons (ps_asg (pv 2) (pg_tupK (K := K) rfl rfl (pgs_cons (pg_name (i := 5) sc_after_tick.nd rfl (by first | exact Or.inl rfl | exact Or.inr rfl)) (pgs_cons (pg_name (i := 6) sc_after_tick.nd rfl (by first | exact Or.inl rfl | exact Or.inr rfl)) (pgs_cons (pg_name (i := 7) sc_after_tick.nd rfl (by first | exact Or.inl rfl | exact Or.inr rfl)) (pgs_cons (pg_name (i := 8) sc_after_tick.nd rfl (by first | exact Or.inl rfl | exact Or.inr rfl)) (pgs_cons (pg_name (i := 9) sc_after_tick.nd rfl (by first | exact Or.inl rfl | exact Or.inr rfl)) (pgs_cons (pg_name (i := 10) sc_after_tick.nd rfl (by first | exact Or.inl rfl | exact Or.inr rfl)) pgs_nil))))))))
    (pss_cons (ps_expr (pe_bmK (K := K) rfl PySem.F.plainAttrs_list PySem.F.slot_list_append PySem.F.type_list_append mt_append (pv 1) (pa_cons (pe_tup (pa_cons pe_str (pa_cons (pv 5) (pa_cons (pv 8) (pa_cons (pe_ix (kX K rIx rfl ix_seq) (pe_ix (kX K rIx rfl ix_seq) (pv 7) (pv 9) (fun _ _ => rfl)) (pv 10) (fun _ _ => rfl)) pa_nil))))) pa_nil)))
    (pss_cons (ps_if (pt_cmpR op_less (pe_op (kO K rPlus rfl op_plus) (pv 10) pe_int) (pe_callB (kC K rLenU rfl call_lenU) (by rfl) T.b_len (by decide +kernel) (pa_cons (pe_ix (kX K rIx rfl ix_seq) (pv 7) (pv 9) (fun _ _ => rfl)) pa_nil)) (nomark _)) (pss_one (ps_ret (pe_tup (pa_cons (pe_tup (pa_cons (pv 5) (pa_cons (pv 6) (pa_cons (pv 7) (pa_cons (pv 8) (pa_cons (pv 9) (pa_cons (pe_op (kO K rPlus rfl op_plus) (pv 10) pe_int) pa_nil))))))) (pa_cons (pv 3) (pa_cons (pv 4) (pa_cons pe_bl pa_nil))))))) pss_nil)
    (pss_cons (ps_expr (pe_bmK (K := K) rfl PySem.F.plainAttrs_list PySem.F.slot_list_append PySem.F.type_list_append mt_append (pv 1) (pa_cons (pe_tup (pa_cons pe_str (pa_cons (pv 5) (pa_cons (pv 8) (pa_cons (pv 9) pa_nil))))) pa_nil)))
    (pss_cons (ps_if (pt_cmpR op_less (pe_op (kO K rPlus rfl op_plus) (pv 9) pe_int) (pe_callB (kC K rLenU rfl call_lenU) (by rfl) T.b_len (by decide +kernel) (pa_cons (pv 7) pa_nil)) (nomark _)) (pss_one (ps_ret (pe_tup (pa_cons (pe_tup (pa_cons (pv 5) (pa_cons (pv 6) (pa_cons (pv 7) (pa_cons (pv 8) (pa_cons (pe_op (kO K rPlus rfl op_plus) (pv 9) pe_int) (pa_cons pe_int pa_nil))))))) (pa_cons (pv 3) (pa_cons (pv 4) (pa_cons pe_bl pa_nil))))))) pss_nil)
    (pss_cons (ps_expr (pe_bmK (K := K) rfl PySem.F.plainAttrs_list PySem.F.slot_list_append PySem.F.type_list_append mt_append (pv 1) (pa_cons (pe_tup (pa_cons pe_str (pa_cons (pv 5) (pa_cons (pv 8) (pa_cons pe_non pa_nil))))) pa_nil)))
    (pss_one (ps_ret (pe_tup (pa_cons pe_non (pa_cons (pv 3) (pa_cons (pv 4) (pa_cons pe_bl pa_nil)))))))))))))))), run_body h fun ⟨acc, s⟩ S ⟨hz, ⟨n, hok, hn⟩, _⟩ hl hcl wi => ?_⟩)
  have hz : acc.length ≤ 1000000 := hz
  have hok : Ok n s := hok
  have hS : S.A.length = 1 := hl
  obtain ⟨sd, wt, hh, sp⟩ := s
  have hwt : wt.length ≤ n := wt_le hok
  refine se_seq ?_
  refine se_asgG ?_
  walk_at "pq"
  refine ss_tup ?_
  show GE K S _ (.tup [saidD sd, .tup (wt.map thD), .bl hh]) _ _ _
  refine ge_three ?_
  show SE K S _ [some (stD ⟨sd, wt, hh, sp⟩), some (.own 0), some (saidD sd), some (.tup (wt.map thD)), some (.bl hh), none, none, none, none, none, none] [.lst (acc.map evD)] _
  have idle : tick ⟨sd, wt, hh, sp⟩ = (⟨sd, wt, hh, false⟩, []) → Gave S (fun d μ => d = stD (tick ⟨sd, wt, hh, sp⟩).1 ∧ μ = [.lst ((acc ++ (tick ⟨sd, wt, hh, sp⟩).2).map evD)]) (.tup [saidD sd, .tup (wt.map thD), .bl hh, .bl false]) [.lst (acc.map evD)] := fun h => by
    rw [h]
    have := gave_tr (s := ⟨sd, wt, hh, false⟩) (l := acc ++ []) (ν := []) hS
    rw [List.append_nil] at this ⊢
    exact this
  refine se_seq ?_
  refine se_to (fun δ1 μ1 => (δ1 = [some (stD ⟨sd, wt, hh, sp⟩), some (.own 0), some (saidD sd), some (.tup (wt.map thD)), some (.bl hh), none, none, none, none, none, none] ∧ μ1 = [.lst (acc.map evD)]) ∧ hh = false ∧ stand ⟨sd, wt, hh, sp⟩ ≠ []) ?_ ?_
  · cases hh with
    | true =>
      walk_at "pq"
      walk_at "gp"
      exact idle (tick_idle (.inl rfl))
    | false =>
      cases sd with
      | some t =>
        walk_at "pq"
        exact ⟨⟨rfl, rfl⟩, rfl, fun z => by cases z⟩
      | none =>
        cases wt with
        | nil =>
          walk_at "pq"
          refine cc_len (.tup _) ?_
          walk_at "pq"
          walk_at "gp"
          exact idle (tick_idle (.inr rfl))
        | cons t wt =>
          walk_at "pq"
          refine cc_len (.tup _) ?_
          walk_at "pq"
          exact ⟨⟨rfl, rfl⟩, rfl, fun z => by cases z⟩
  rintro δ1 μ1 ⟨⟨rfl, rfl⟩, rfl, hne⟩
  obtain ⟨t, w, hst⟩ : ∃ t w, stand ⟨sd, wt, false, sp⟩ = t :: w := by
    cases h : stand ⟨sd, wt, false, sp⟩ with
    | nil => exact absurd h hne
    | cons t w => exact ⟨t, w, rfl⟩
  have hot : OkT t := (hok.all t (by rw [hst]; exact List.mem_cons_self)).1
  refine se_seq ?_
  refine se_to (fun δ1 μ1 => δ1 = [some (stD ⟨sd, wt, false, sp⟩), some (.own 0), some (thD t), some (.tup (w.map thD)), some (.bl false), none, none, none, none, none, none] ∧ μ1 = [.lst (acc.map evD)]) ?_ ?_
  · cases sd with
    | some t' =>
      have e : t' :: wt = t :: w := hst
      injection e with e1 e2
      subst e1 e2
      walk_at "pq"
      exact ⟨rfl, rfl⟩
    | none =>
      have e : wt = t :: w := hst
      subst e
      walk_at "pq"
      refine se_par ?_
      walk_at "pq"
      refine oo_ixT (atI_of (j := 0) rfl rfl) ?_
      walk_at "pq"
      refine ss_tup ?_
      rw [show cutD ((t :: w).map thD) (some 1) none = w.map thD from cutD_n0 (j := 1)]
      walk_at "pq"
      exact ⟨rfl, rfl⟩
  have htk := tick_go (s := ⟨sd, wt, false, sp⟩) rfl hst
  show ∀ δ1 μ1, _ → SE K S _ δ1 μ1 { nx := fun _ μ => Gave S (fun d μ => d = stD (tick ⟨sd, wt, false, sp⟩).1 ∧ μ = [.lst ((acc ++ (tick ⟨sd, wt, false, sp⟩).2).map evD)]) .non μ, rt := Gave S (fun d μ => d = stD (tick ⟨sd, wt, false, sp⟩).1 ∧ μ = [.lst ((acc ++ (tick ⟨sd, wt, false, sp⟩).2).map evD)]) }
  rw [htk]
  rintro δ1 μ1 ⟨rfl, rfl⟩
  refine se_seq ?_
  refine se_asgG (ee_var rfl ?_)
  refine ge_six ?_
  show SE K S _ [some (stD ⟨sd, wt, false, sp⟩), some (.own 0), some (thD t), some (.tup (w.map thD)), some (.bl false), some (intD t.say), some (intD t.rank), some (.tup (t.phs.map phT)), some (.str t.tag), some (intD t.ph), some (intD t.un)] [.lst (acc.map evD)] _
  walk_at "pq"
  refine ee_bm ?_
  walk_at "pq"
  refine ⟨.lst (.own rfl), ?_⟩
  walk_at "pq"
  refine oo_ixT (ph_at hot) ?_
  walk_at "pq"
  refine oo_ixT (un_at hot) ?_
  walk_at "pq"
  refine mm_ev (.heard t.say t.tag (unitOf t)) rfl rfl (by omega) ?_
  walk_at "pq"
  refine oo_ixT (ph_at hot) ?_
  walk_at "pq"
  refine cc_len (.tup _) ?_
  rw [List.length_map]
  walk_at "pq"
  unfold stepT
  by_cases h1 : t.un + 1 < (phOf t).length
  · rw [if_pos h1]
    refine ⟨fun _ => ?_, fun h => absurd (of_decide_eq_false h) (by omega)⟩
    walk_at "pq"
    walk_at "gp"
    exact gave_tr (s := ⟨some { t with un := t.un + 1 }, w, false, false⟩) (l := acc ++ [.heard t.say t.tag (unitOf t)]) (ν := []) hS
  rw [if_neg h1]
  refine ⟨fun h => absurd (of_decide_eq_true h) (by omega), fun _ => ?_⟩
  walk_at "pq"
  refine ee_bm ?_
  walk_at "pq"
  refine ⟨.lst (.own rfl), ?_⟩
  walk_at "pq"
  refine mm_ev (.passed t.say t.tag t.ph) rfl rfl (by rw [List.length_append]; show _ + 1 < _; omega) ?_
  walk_at "pq"
  refine cc_len (.tup _) ?_
  rw [List.length_map]
  walk_at "pq"
  by_cases h2 : t.ph + 1 < t.phs.length
  · rw [if_pos h2]
    refine ⟨fun _ => ?_, fun h => absurd (of_decide_eq_false h) (by omega)⟩
    walk_at "pq"
    walk_at "gp"
    have := gave_tr (s := ⟨some { t with ph := t.ph + 1, un := 0 }, w, false, false⟩) (l := acc ++ [.heard t.say t.tag (unitOf t)] ++ [.passed t.say t.tag t.ph]) (ν := []) hS
    rw [List.append_assoc] at this ⊢
    exact this
  rw [if_neg h2]
  refine ⟨fun h => absurd (of_decide_eq_true h) (by omega), fun _ => ?_⟩
  walk_at "pq"
  refine ee_bm ?_
  walk_at "pq"
  refine ⟨.lst (.own rfl), ?_⟩
  walk_at "pq"
  refine mm_ev (.done t.say t.tag) rfl rfl (by rw [List.length_append, List.length_append]; show _ + 1 + 1 < _; omega) ?_
  walk_at "pq"
  walk_at "gp"
  have := gave_tr (s := ⟨none, w, false, false⟩) (l := acc ++ [.heard t.say t.tag (unitOf t)] ++ [.passed t.say t.tag t.ph] ++ [.done t.say t.tag]) (ν := []) hS
  rw [List.append_assoc, List.append_assoc] at this ⊢
  exact this
theorem ticks_succ : ∀ {i : Nat} {s : Stt}, ticks (i + 1) s = ((tick (ticks i s).1).1, (ticks i s).2 ++ (tick (ticks i s).1).2)
  | 0, s => by
    show ((tick s).1, (tick s).2 ++ []) = ((tick s).1, [] ++ (tick s).2)
    rw [List.append_nil, List.nil_append]
  | i + 1, s => by
    have ih := ticks_succ (i := i) (s := (tick s).1)
    show ((ticks (i + 1) (tick s).1).1, (tick s).2 ++ (ticks (i + 1) (tick s).1).2) = ((tick (ticks i (tick s).1).1).1, ((tick s).2 ++ (ticks i (tick s).1).2) ++ (tick (ticks i (tick s).1).1).2)
    rw [ih, List.append_assoc]
def Idle (s : Stt) : Prop := s.held = true ∨ stand s = []
theorem idle_all {i : Nat} {s : Stt} (h : Idle (ticks i s).1) : ∀ j : Nat, ((ticks (i + j) s).1.said = (ticks i s).1.said ∧ (ticks (i + j) s).1.wt = (ticks i s).1.wt ∧ (ticks (i + j) s).1.held = (ticks i s).1.held) ∧ (ticks (i + j) s).2 = (ticks i s).2
  | 0 => ⟨⟨rfl, rfl, rfl⟩, rfl⟩
  | j + 1 => by
    obtain ⟨⟨h1, h2, h3⟩, h4⟩ := idle_all h j
    have hi : Idle (ticks (i + j) s).1 := by
      rcases h with h | h
      · exact .inl (by rw [h3]; exact h)
      · refine .inr ?_
        unfold stand at h ⊢
        rw [h1, h2]
        exact h
    rw [← Nat.add_assoc, ticks_succ, tick_idle hi]
    exact ⟨⟨h1, h2, h3⟩, by rw [List.append_nil]; exact h4⟩
theorem step_len {t : Th} {w : List Th} : (stepT t w).2.length ≤ 3 := by
  unfold stepT
  split
  · show 1 ≤ 3; omega
  · split
    · show 2 ≤ 3; omega
    · show 3 ≤ 3; omega
theorem tick_len {s : Stt} : (tick s).2.length ≤ 3 := by
  unfold tick
  split
  · show 0 ≤ 3; omega
  · split
    · show 0 ≤ 3; omega
    · exact step_len
theorem ticks_len {s : Stt} : ∀ i : Nat, (ticks i s).2.length ≤ 3 * i
  | 0 => Nat.le_refl _
  | i + 1 => by
    have := ticks_len (s := s) i
    have := tick_len (s := (ticks i s).1)
    rw [ticks_succ, List.length_append]
    omega
theorem step_stp {t : Th} {w : List Th} : (stepT t w).1.stp = false := by
  unfold stepT
  split
  · rfl
  · split <;> rfl
theorem tick_stp {s : Stt} : (tick s).1.stp = false := by
  unfold tick
  split
  · rfl
  · split
    · rfl
    · exact step_stp
theorem step_held {t : Th} {w : List Th} : (stepT t w).1.held = false := by
  unfold stepT
  split
  · rfl
  · split <;> rfl
def tickAll (s : Stt) (k : Nat) : Stt × List Ev := ({ (ticks k s).1 with stp := false }, (ticks k s).2)
theorem tickAll_end {s : Stt} {k : Nat} (h : 1 ≤ k) : tickAll s k = ticks k s := by
  obtain ⟨j, rfl⟩ : ∃ j, k = j + 1 := ⟨k - 1, by omega⟩
  have e : (ticks (j + 1) s).1.stp = false := by rw [ticks_succ]; exact tick_stp
  unfold tickAll
  rw [← e]
theorem tickAll_idle {s : Stt} {i k : Nat} (h : Idle (ticks i s).1) (hi : i ≤ k) : tickAll s k = ({ (ticks i s).1 with stp := false }, (ticks i s).2) := by
  obtain ⟨j, rfl⟩ : ∃ j, k = i + j := ⟨k - i, by omega⟩
  obtain ⟨⟨h1, h2, h3⟩, h4⟩ := idle_all h j
  show ((⟨(ticks (i + j) s).1.said, (ticks (i + j) s).1.wt, (ticks (i + j) s).1.held, false⟩ : Stt), (ticks (i + j) s).2) = _
  rw [h1, h2, h3, h4]
abbrev spTicks (K : PySem.W.Frag) : Sp := spTr0 K (T := Stt × Nat) (fun t => [stD t.1, intD t.2]) (fun t => (∃ n, Ok n t.1 ∧ n ≤ 9000) ∧ 1 ≤ t.2 ∧ t.2 ≤ 4000) (fun t => tickAll t.1 t.2)
abbrev st_after_ticks : Stmt := top 27
abbrev nm_after_ticks : List Str := ["state", "many", "happened", "turn"]
theorem sc_after_ticks : FnScope nm_after_ticks ["state", "many", "happened"] (defScope st_after_ticks) := ⟨rfl, rfl, rfl, by decide +kernel, rfl, by decide +kernel, by decide +kernel⟩
theorem ok_after_ticks (F : Fun K "after_ticks" "after_ticks" st_after_ticks f fd) (T : Tx P w K mg base a) (c_after_tick : CalX P w K mg base 1 "after_tick" ["state", "happened"] (spTick K)) : FnOk P w K mg base (L2.CX P w) 2 f fd ["state", "many", "happened"] (spTicks K) := by
  refine F.okX sc_after_ticks (fun vs H Q E h => pro_len h fun _ => rfl) (fun cdv A outer s H vs Q E hr h => ⟨_, (pss_cons (ps_for (passes_of rfl) rfl (pi_range1 rfl T.b_range (pa_cons (pv 1) pa_nil)) (pg_name (i := 3) sc_after_ticks.nd rfl (by first | exact Or.inl rfl | exact Or.inr rfl))
      (pss_cons (ps_if (PW.pt (pw_or (pt_val (pe_ix (kX K rIx rfl ix_seq) (pv 0) pe_int (fun _ _ => rfl))) (pw_or1 (PW.pt (pw_and (pt_cmpR op_isN (pe_ix (kX K rIx rfl ix_seq) (pv 0) pe_int (fun _ _ => rfl)) pe_non (nomark _)) (pw_and1 (pt_cmpR (kO K rEqU rfl (op_eqU (hu64 hr))) (pe_callB (kC K rLenU rfl call_lenU) (by rfl) T.b_len (by decide +kernel) (pa_cons (pe_ix (kX K rIx rfl ix_seq) (pv 0) pe_int (fun _ _ => rfl)) pa_nil)) pe_int (nomark _)))))))) (pss_one (ps_ret (pe_op (kO K rPlus rfl op_plus) (pe_slice (kS K rSlU rfl sl_U) (pv 0) po_none (po_some pe_int)) (pe_tup (pa_cons pe_bl pa_nil))))) pss_nil)
    (pss_one (ps_set (i := 0) sc_after_ticks.nd rfl (by first | exact Or.inl rfl | exact Or.inr rfl) (pe_c c_after_tick hr (by first | decide | exact Nat.le_refl _) rfl (passes_call (takes_of rfl rfl rfl rfl) (fun _ _ _ _ h => h)) (pa_cons (pv 0) (pa_cons (pv 2) pa_nil)))))))
    (pss_one (ps_ret (pv 0)))), run_body h fun ⟨s, k⟩ S ⟨⟨⟨n, hok, hn⟩, hk1, hk⟩, _⟩ hl hcl wi => ?_⟩)
  have hok : Ok n s := hok
  have hk1 : 1 ≤ k := hk1
  have hk : k ≤ 4000 := hk
  have hS : S.A.length = 1 := hl
  show SE K S _ [some (stD s), some (intD k), some (.own 0), none] [.lst []] _
  walk_at "pq"
  refine se_for (ie_rng1 ?_)
  walk_at "pq"
  refine ⟨by omega, by omega, rfl, fun i δ μ => ∃ x3, δ = [some (stD (ticks i s).1), some (intD k), some (.own 0), x3] ∧ μ = [.lst ((ticks i s).2.map evD)], ⟨none, rfl, rfl⟩, ?_, ?_⟩
  · rintro i x δ μ hx ⟨x3, rfl, rfl⟩
    obtain ⟨hi, rfl⟩ := rng_get hx
    have hi : i < k := by rw [Int.toNat_natCast] at hi; exact hi
    have hoi := (ticks_ok (k := i) hok).1
    have hle := ticks_len (s := s) i
    have hid : Idle (ticks i s).1 → tickAll s k = ({ (ticks i s).1 with stp := false }, (ticks i s).2) := fun h => tickAll_idle h (by omega)
    have hsu := ticks_succ (i := i) (s := s)
    generalize ticks i s = ti at *
    obtain ⟨⟨sd, wt, hh, sp⟩, ev⟩ := ti
    refine ge_name ?_
    have idle : Idle ⟨sd, wt, hh, sp⟩ → Gave S (fun d μ => d = stD (tickAll s k).1 ∧ μ = [.lst ((tickAll s k).2.map evD)]) (.tup [saidD sd, .tup (wt.map thD), .bl hh, .bl false]) [.lst (ev.map evD)] := fun h => by
      rw [hid h]
      exact gave_tr (s := ⟨sd, wt, hh, false⟩) (l := ev) (ν := []) hS
    have ask : ∀ {te E}, te = tCall (spTick K) [] E (tCons (tVar 0) (tCons (tVar 2) tNil)) → EE K S te [some (stD ⟨sd, wt, hh, sp⟩), some (intD k), some (.own 0), some (.int (0 + (i : Int)))] [.lst (ev.map evD)] (fun d μ => d = stD (tick ⟨sd, wt, hh, sp⟩).1 ∧ μ = [.lst ((ev ++ (tick ⟨sd, wt, hh, sp⟩).2).map evD)]) := fun {te E} h => by
      subst h
      refine ask_tr 0 ?_
      walk_at "pq"
      exact ⟨⟨sd, wt, hh, sp⟩, ev, rfl, rfl, by show ev.length ≤ _; have : ev.length ≤ 3 * i := hle; omega, ⟨n, hoi, hn⟩, by show ((stD _).lt 0 && true) = true; rw [st_cl]; rfl, rfl, rfl⟩
    cases hh with
    | true =>
      walk_at "pq"
      refine ss_tup ?_
      walk_at "pq"
      refine oo_addT (by exact Nat.le_of_ble_eq_true rfl) ?_
      walk_at "gp"
      exact idle (.inl rfl)
    | false =>
      cases sd with
      | some t =>
        walk_at "pq"
        refine EE.imp (ask rfl) ?_
        rintro d μ ⟨rfl, rfl⟩
        exact ⟨_, by rw [hsu]; rfl, by rw [hsu]⟩
      | none =>
        cases wt with
        | nil =>
          walk_at "pq"
          refine cc_len (.tup _) ?_
          walk_at "pq"
          refine ss_tup ?_
          walk_at "pq"
          refine oo_addT (by exact Nat.le_of_ble_eq_true rfl) ?_
          walk_at "gp"
          exact idle (.inr rfl)
        | cons t wt =>
          walk_at "pq"
          refine cc_len (.tup _) ?_
          walk_at "pq"
          refine EE.imp (ask rfl) ?_
          rintro d μ ⟨rfl, rfl⟩
          exact ⟨_, by rw [hsu]; rfl, by rw [hsu]⟩
  rintro δ μ ⟨x3, rfl, rfl⟩
  rw [rng_len, Int.toNat_natCast]
  walk_at "pq"
  walk_at "gp"
  rw [tickAll_end hk1]
  exact gave_tr (s := (ticks k s).1) (l := (ticks k s).2) (ν := []) hS
end


section
variable {P : Program} {w : World} {K : PySem.W.Frag} {mg : Str → Option Value} {base : Heap} {a : Ad} {f : Addr} {fd : FuncData}
local macro_rules | `(tactic| walk_at "pq") => `(tactic| repeat (first | walk_at "p1" | (refine oo_ixT rfl ?_)))
abbrev argDeed (t : Stt × Nat × Deed) : List D := [stD t.1, intD t.2.1, deedD t.2.2]
abbrev spDo (K : PySem.W.Frag) : Sp := spTr0 K argDeed (fun t => Ok t.2.1 t.1 ∧ t.2.1 ≤ 9000 ∧ DeedV t.2.2) (fun t => doDeed t.1 t.2.1 t.2.2)
abbrev st_after_deed : Stmt := top 28
abbrev nm_after_deed : List Str := ["state", "say", "deed", "happened", "said", "waiting", "is_held", "is_stopped"]
theorem sc_after_deed : FnScope nm_after_deed ["state", "say", "deed", "happened"] (defScope st_after_deed) := ⟨rfl, rfl, rfl, by decide +kernel, rfl, by decide +kernel, by decide +kernel⟩
theorem ok_after_deed (F : Fun K "after_deed" "after_deed" st_after_deed f fd) (T : Tx P w K mg base a) (c_after_say : CalX P w K mg base 3 "after_say" ["state", "say", "utterance", "happened"] (spSay K)) (c_after_ticks : CalX P w K mg base 2 "after_ticks" ["state", "many", "happened"] (spTicks K)) (c_cut_off : CalX P w K mg base 2 "cut_off" ["state", "happened"] (spCutOff K)) (c_cleared : CalX P w K mg base 2 "cleared" ["state", "ranks", "tag", "happened"] (spCleared K)) : FnOk P w K mg base (L2.CX P w) 4 f fd ["state", "say", "deed", "happened"] (spDo K) := by
  refine F.okX sc_after_deed (fun vs H Q E h => pro_len h fun _ => rfl) (fun cdv A outer s H vs Q E hr h => ⟨_, (pss_cons (ps_if (pt_cmpR (kO K rEqU rfl (op_eqU (hu64 hr))) (pe_ix (kX K rIx rfl ix_seq) (pv 2) pe_int (fun _ _ => rfl)) pe_str (nomark _)) (pss_one (ps_ret (pe_c c_after_say hr (by first | decide | exact Nat.le_refl _) rfl (passes_call (takes_of rfl rfl rfl rfl) (fun _ _ _ _ h => h)) (pa_cons (pv 0) (pa_cons (pv 1) (pa_cons (pe_ix (kX K rIx rfl ix_seq) (pv 2) pe_int (fun _ _ => rfl)) (pa_cons (pv 3) pa_nil))))))) pss_nil)
    (pss_cons (ps_if (pt_cmpR (kO K rEqU rfl (op_eqU (hu64 hr))) (pe_ix (kX K rIx rfl ix_seq) (pv 2) pe_int (fun _ _ => rfl)) pe_str (nomark _)) (pss_one (ps_ret (pe_c c_after_ticks hr (by first | decide | exact Nat.le_refl _) rfl (passes_call (takes_of rfl rfl rfl rfl) (fun _ _ _ _ h => h)) (pa_cons (pv 0) (pa_cons (pe_ix (kX K rIx rfl ix_seq) (pv 2) pe_int (fun _ _ => rfl)) (pa_cons (pv 3) pa_nil)))))) pss_nil)
    (pss_cons (ps_if (pt_cmpR (kO K rEqU rfl (op_eqU (hu64 hr))) (pe_ix (kX K rIx rfl ix_seq) (pv 2) pe_int (fun _ _ => rfl)) pe_str (nomark _)) (pss_cons (ps_asg (pe_c c_cut_off hr (by first | decide | exact Nat.le_refl _) rfl (passes_call (takes_of rfl rfl rfl rfl) (fun _ _ _ _ h => h)) (pa_cons (pv 0) (pa_cons (pv 3) pa_nil))) (pg_tupK (K := K) rfl rfl (pgs_cons (pg_name (i := 4) sc_after_deed.nd rfl (by first | exact Or.inl rfl | exact Or.inr rfl)) (pgs_cons (pg_name (i := 5) sc_after_deed.nd rfl (by first | exact Or.inl rfl | exact Or.inr rfl)) (pgs_cons (pg_name (i := 6) sc_after_deed.nd rfl (by first | exact Or.inl rfl | exact Or.inr rfl)) (pgs_cons (pg_name (i := 7) sc_after_deed.nd rfl (by first | exact Or.inl rfl | exact Or.inr rfl)) pgs_nil))))))
    (pss_one (ps_ret (pe_tup (pa_cons (pv 4) (pa_cons (pv 5) (pa_cons pe_bl (pa_cons (pv 7) pa_nil)))))))) pss_nil)
    (pss_cons (ps_if (pt_cmpR (kO K rEqU rfl (op_eqU (hu64 hr))) (pe_ix (kX K rIx rfl ix_seq) (pv 2) pe_int (fun _ _ => rfl)) pe_str (nomark _)) (pss_one (ps_ret (pe_tup (pa_cons (pe_ix (kX K rIx rfl ix_seq) (pv 0) pe_int (fun _ _ => rfl)) (pa_cons (pe_ix (kX K rIx rfl ix_seq) (pv 0) pe_int (fun _ _ => rfl)) (pa_cons pe_bl (pa_cons (pe_ix (kX K rIx rfl ix_seq) (pv 0) pe_int (fun _ _ => rfl)) pa_nil))))))) pss_nil)
    (pss_cons (ps_if (pt_cmpR (kO K rEqU rfl (op_eqU (hu64 hr))) (pe_ix (kX K rIx rfl ix_seq) (pv 2) pe_int (fun _ _ => rfl)) pe_str (nomark _)) (pss_one (ps_ret (pe_c c_cleared hr (by first | decide | exact Nat.le_refl _) rfl (passes_call (takes_of rfl rfl rfl rfl) (fun _ _ _ _ h => h)) (pa_cons (pv 0) (pa_cons (pe_tup pa_nil) (pa_cons (pe_ix (kX K rIx rfl ix_seq) (pv 2) pe_int (fun _ _ => rfl)) (pa_cons (pv 3) pa_nil))))))) pss_nil)
    (pss_cons (ps_set (i := 0) sc_after_deed.nd rfl (by first | exact Or.inl rfl | exact Or.inr rfl) (pe_c c_cleared hr (by first | decide | exact Nat.le_refl _) rfl (passes_call (takes_of rfl rfl rfl rfl) (fun _ _ _ _ h => h)) (pa_cons (pv 0) (pa_cons (pe_ifExp (pt_val (pe_ix (kX K rIx rfl ix_seq) (pv 0) pe_int (fun _ _ => rfl))) (pe_tup (pa_cons pe_int (pa_cons pe_int (pa_cons pe_int pa_nil)))) (pe_tup (pa_cons pe_int (pa_cons pe_int pa_nil)))) (pa_cons pe_non (pa_cons (pv 3) pa_nil))))))
    (pss_one (ps_ret (pe_tup (pa_cons (pe_ix (kX K rIx rfl ix_seq) (pv 0) pe_int (fun _ _ => rfl)) (pa_cons (pe_ix (kX K rIx rfl ix_seq) (pv 0) pe_int (fun _ _ => rfl)) (pa_cons (pe_ix (kX K rIx rfl ix_seq) (pv 0) pe_int (fun _ _ => rfl)) (pa_cons pe_bl pa_nil))))))))))))), run_body h fun ⟨s, n, d⟩ S ⟨⟨hok, hn, hd⟩, _⟩ hl hcl wi => ?_⟩)
  have hok : Ok n s := hok
  have hn : n ≤ 9000 := hn
  have hd : DeedV d := hd
  have hS : S.A.length = 1 := hl
  have hwt := wt_le hok
  have c1 : ((stD s).lt 0 && true) = true := by rw [st_cl]; rfl
  cases d with
  | say r ps tag =>
    have hd : UttOk r ps tag := hd
    walk_at "pq"
    refine ask_tr0 0 ?_
    walk_at "pq"
    refine ⟨(s, n, r, ps, tag), rfl, rfl, ⟨hok, hn, hd.r1, hd.r3, hd.ok⟩, by show ((stD s).lt 0 && (true && ((true && (D.ltL 0 (ps.map phL) && (true && true))) && true))) = true; rw [st_cl, phs_cl]; rfl, ?_⟩
    exact gave_tr (s := (doDeed s n (.say r ps tag)).1) (l := (doDeed s n (.say r ps tag)).2) (ν := []) hS
  | tick k =>
    have hd : 1 ≤ k ∧ k ≤ 4000 := hd
    walk_at "pq"
    refine ask_tr0 0 ?_
    walk_at "pq"
    refine ⟨(s, k), rfl, rfl, ⟨⟨n, hok, hn⟩, hd.1, hd.2⟩, by show ((stD s).lt 0 && (true && true)) = true; rw [st_cl]; rfl, ?_⟩
    exact gave_tr (s := (tickAll s k).1) (l := (tickAll s k).2) (ν := []) hS
  | hold =>
    walk_at "pq"
    refine se_asgG ?_
    refine ask_tr 0 ?_
    walk_at "pq"
    refine ⟨s, [], rfl, rfl, Nat.zero_le _, ⟨hok.so, by omega⟩, c1, ?_⟩
    refine ge_four ?_
    walk_at "pq"
    walk_at "gp"
    exact gave_tr (s := (doDeed s n .hold).1) (l := (doDeed s n .hold).2) (ν := []) hS
  | go =>
    walk_at "pq"
    walk_at "gp"
    exact gave_tr (s := (doDeed s n .go).1) (l := []) (ν := []) hS
  | drop tag =>
    walk_at "pq"
    refine ask_tr 0 ?_
    walk_at "pq"
    refine ⟨(s, [], some tag), [], rfl, rfl, Nat.zero_le _, by show s.wt.length ≤ _; omega, by show ((stD s).lt 0 && (true && (true && true))) = true; rw [st_cl]; rfl, ?_⟩
    exact gave_tr (s := (clear s [] (some tag)).1) (l := (clear s [] (some tag)).2) (ν := []) hS
  | stop =>
    walk_at "pq"
    refine ask_tr 0 ?_
    walk_at "pq"
    obtain ⟨sd, wt, hh, sp⟩ := s
    have hwt : wt.length ≤ n := hwt
    cases sp with
    | true =>
      walk_at "pq"
      refine ⟨(⟨sd, wt, hh, true⟩, [1, 2, 3], none), [], rfl, rfl, Nat.zero_le _, by show wt.length ≤ _; omega, by show ((stD _).lt 0 && _) = true; rw [st_cl]; rfl, ?_⟩
      walk_at "pq"
      walk_at "gp"
      exact gave_tr (s := (doDeed ⟨sd, wt, hh, true⟩ n .stop).1) (l := (doDeed ⟨sd, wt, hh, true⟩ n .stop).2) (ν := []) hS
    | false =>
      walk_at "pq"
      refine ⟨(⟨sd, wt, hh, false⟩, [1, 3], none), [], rfl, rfl, Nat.zero_le _, by show wt.length ≤ _; omega, by show ((stD _).lt 0 && _) = true; rw [st_cl]; rfl, ?_⟩
      walk_at "pq"
      walk_at "gp"
      exact gave_tr (s := (doDeed ⟨sd, wt, hh, false⟩ n .stop).1) (l := (doDeed ⟨sd, wt, hh, false⟩ n .stop).2) (ν := []) hS
end


section
variable {P : Program} {w : World} {K : PySem.W.Frag} {mg : Str → Option Value} {base : Heap} {a : Ad} {f : Addr} {fd : FuncData}
/-! ### told again, alike -/
def sOk : Nat → D → Bool
  | 0, _ => false
  | _ + 1, .v .non => true
  | _ + 1, .v (.bl _) => true
  | _ + 1, .v (.int _) => true
  | _ + 1, .v (.str _) => true
  | n + 1, .lst l => decide (l.length ≤ 1000000) && l.all (sOk n)
  | n + 1, .tup l => decide (l.length ≤ 1000000) && l.all (sOk n)
  | _ + 1, _ => false
theorem sOk_pl {n : Nat} {d : D} (h : sOk n d = true) : d.pl = true := by
  cases n with
  | zero => cases h
  | succ n =>
    cases d with
    | v x => cases x <;> first | rfl | (cases h; done)
    | lst l => rfl
    | rd l => cases h
    | tup l => rfl
    | dic ks l => cases h
    | exc c d => cases h
    | own k => cases h
theorem sOk_lst {n : Nat} {l : List D} : sOk (n + 1) (.lst l) = true ↔ l.length ≤ 1000000 ∧ ∀ d ∈ l, sOk n d = true := by
  show (decide (l.length ≤ 1000000) && l.all (sOk n)) = true ↔ _
  rw [Bool.and_eq_true, decide_eq_true_iff, List.all_eq_true]
theorem sOk_tup {n : Nat} {l : List D} : sOk (n + 1) (.tup l) = true ↔ l.length ≤ 1000000 ∧ ∀ d ∈ l, sOk n d = true := by
  show (decide (l.length ≤ 1000000) && l.all (sOk n)) = true ↔ _
  rw [Bool.and_eq_true, decide_eq_true_iff, List.all_eq_true]
theorem sOk_cl : ∀ {n : Nat} {d : D}, sOk n d = true → d.lt 0 = true
  | 0, _, h => by cases h
  | n + 1, d, h => by
    cases d with
    | v x => rfl
    | lst l => exact D.ltL_all.mpr fun x hx => sOk_cl ((sOk_lst.mp h).2 x hx)
    | rd l => cases h
    | tup l => exact D.ltL_all.mpr fun x hx => sOk_cl ((sOk_tup.mp h).2 x hx)
    | dic ks l => cases h
    | exc c d => cases h
    | own k => cases h
abbrev spPlain (K : PySem.W.Frag) (n : Nat) : Sp := ProP K (T := D) (fun d => [d]) (fun d => sOk n d = true) (fun d r => r = d) (fun _ _ _ => False)
abbrev st__law_plain : Stmt := top 41
abbrev nm__law_plain : List Str := ["thing", "item", "key"]
theorem sc__law_plain : FnScope nm__law_plain ["thing"] (defScope st__law_plain) := ⟨rfl, rfl, rfl, by decide +kernel, rfl, by decide +kernel, by decide +kernel⟩
theorem ok_plain (F : Fun K "_law_plain" "_law_plain" st__law_plain f fd) (T : Tx P w K mg base a) (hm : mg "_law_plain" = some (.ref f)) (hk : PySem.W.keepIn K (.ref f) = true) (hb : Binds K fd ["thing"] []) :
    ∀ n, FnOk P w K mg base (L2.CX P w) (n + 1) f fd ["thing"] (spPlain K n)
  | 0 => F.okX sc__law_plain (fun vs H Q E h => pro_len h fun _ => rfl) fun cdv A outer s H vs Q E hr h => by
    obtain ⟨x, _, _, hp, _⟩ := h
    cases hp
  | n + 1 => by
    have c__law_plain : CalX P w K mg base (n + 1) "_law_plain" ["thing"] (spPlain K n) := ⟨f, fd, ok_plain F T hm hk hb n, hm, hk, hb⟩
    refine F.okX sc__law_plain (fun vs H Q E h => pro_len h fun _ => rfl) (fun cdv A outer s H vs Q E hr h => ⟨_, (pss_cons (ps_if (pt_val (pe_callB (kC K rIsiU rfl call_isU) (by rfl) T.b_isinstance (by decide +kernel) (pa_cons (pv 0) (pa_cons (pe_bltn (v := .ty "list") (by rfl) T.b_list (by decide +kernel) rfl) pa_nil)))) (pss_one (ps_ret (pe_lc (own := [("item", 1)]) (tt := tYes) (g := (gName 1)) rfl sc__law_plain.nd (pi_listK (K := K) rfl (pv 0)) (blkOk_by (own := [("item", 1)]) (N := nm__law_plain) (sc := (defScope st__law_plain)) (by decide +kernel)) (fun _ _ _ _ _ => (pg_name (i := 1) sc__law_plain.nd rfl (by first | exact Or.inl rfl | exact Or.inr rfl))) (fun _ _ _ _ _ => pts_nil) (fun _ _ _ _ _ => (pe_c c__law_plain hr (by first | decide | exact Nat.le_refl _) rfl passL (pa_cons (pv 1) pa_nil)))))) pss_nil)
    (pss_cons (ps_if (pt_val (pe_callB (kC K rIsiU rfl call_isU) (by rfl) T.b_isinstance (by decide +kernel) (pa_cons (pv 0) (pa_cons (pe_bltn (v := .ty "tuple") (by rfl) T.b_tuple (by decide +kernel) rfl) pa_nil)))) (pss_one (ps_ret (pe_callTy (kC K rTupOf rfl call_tupOf) (by rfl) T.b_tuple (by decide +kernel) (pa_cons (pe_lc (own := [("item", 1)]) (tt := tYes) (g := (gName 1)) rfl sc__law_plain.nd (pi_tupK (K := K) rfl (pv 0)) (blkOk_by (own := [("item", 1)]) (N := nm__law_plain) (sc := (defScope st__law_plain)) (by decide +kernel)) (fun _ _ _ _ _ => (pg_name (i := 1) sc__law_plain.nd rfl (by first | exact Or.inl rfl | exact Or.inr rfl))) (fun _ _ _ _ _ => pts_nil) (fun _ _ _ _ _ => (pe_c c__law_plain hr (by first | decide | exact Nat.le_refl _) rfl passL (pa_cons (pv 1) pa_nil)))) pa_nil)))) pss_nil)
    (pss_cons (ps_if (pt_val (pe_callB (kC K rIsiU rfl call_isU) (by rfl) T.b_isinstance (by decide +kernel) (pa_cons (pv 0) (pa_cons (pe_bltn (v := .ty "dict") (by rfl) T.b_dict (by decide +kernel) rfl) pa_nil)))) (pss_one (ps_ret (pe_callTy (call_dictP rfl) (by rfl) T.b_dict (by decide +kernel) (pa_cons (pe_lc (own := [("key", 2)]) (tt := tYes) (g := (gName 2)) rfl sc__law_plain.nd (pi_keys (pv 0)) (blkOk_by (own := [("key", 2)]) (N := nm__law_plain) (sc := (defScope st__law_plain)) (by decide +kernel)) (fun _ _ _ _ _ => (pg_name (i := 2) sc__law_plain.nd rfl (by first | exact Or.inl rfl | exact Or.inr rfl))) (fun _ _ _ _ _ => pts_nil) (fun _ _ _ _ _ => (pe_tup (pa_cons (pv 2) (pa_cons (pe_c c__law_plain hr (by first | decide | exact Nat.le_refl _) rfl passL (pa_cons (pe_ix (kX K rIx rfl ix_seq) (pv 0) (pv 2) (fun _ _ => rfl)) pa_nil)) pa_nil))))) pa_nil)))) pss_nil)
    (pss_one (ps_ret (pv 0)))))), run_body h fun d S hp hl hcl wi => ?_⟩)
    have hp : sOk (n + 1) d = true := hp
    have hpl := sOk_pl hp
    have hd0 := sOk_cl hp
    have hl : S.A.length = 0 := hl
    walk_at "p0"
    have same : ∀ (l : List D), ((l.filter fun _ => true).map fun x => x) = l := fun l => by
      rw [List.filter_eq_self.mpr fun _ _ => rfl, List.map_id']
    cases d with
    | v x =>
      cases x with
      | non => walk_at "pp"; walk_at "gp"; exact gaveP hl hd0 rfl
      | bl b => walk_at "pp"; walk_at "gp"; exact gaveP hl hd0 rfl
      | int i => walk_at "pp"; walk_at "gp"; exact gaveP hl hd0 rfl
      | str s => walk_at "pp"; walk_at "gp"; exact gaveP hl hd0 rfl
      | _ => cases hp
    | lst l =>
      obtain ⟨hz, hall⟩ := sOk_lst.mp hp
      walk_at "pp"
      refine ee_lc (ie_list ?_)
      walk_at "pp"
      refine ⟨l, .inl rfl, fun _ h => h, trivial, fun _ => true, fun x => x, by omega, fun x hx _ => sOk_cl (hall x hx), fun x acc hx => ?_, ?_⟩
      · refine gw_name (by decide) ?_
        walk_at "pp"
        refine ⟨rfl, rfl, fun _ => ?_⟩
        refine ee_cz ?_
        walk_at "pp"
        exact ⟨x, hall x hx, rfl, by show (x.lt 0 && true) = true; rw [sOk_cl (hall x hx)]; rfl, fun r hr => ⟨hr, rfl⟩⟩
      · rw [same]
        walk_at "gp"
        exact gaveP hl hd0 rfl
    | tup l =>
      obtain ⟨hz, hall⟩ := sOk_tup.mp hp
      walk_at "pp"
      refine ee_lc (ie_tup ?_)
      walk_at "pp"
      refine ⟨fun _ h => h, trivial, fun _ => true, fun x => x, by omega, fun x hx _ => sOk_cl (hall x hx), fun x acc hx => ?_, ?_⟩
      · refine gw_name (by decide) ?_
        walk_at "pp"
        refine ⟨rfl, rfl, fun _ => ?_⟩
        refine ee_cz ?_
        walk_at "pp"
        exact ⟨x, hall x hx, rfl, by show (x.lt 0 && true) = true; rw [sOk_cl (hall x hx)]; rfl, fun r hr => ⟨hr, rfl⟩⟩
      · rw [same]
        walk_at "pp"
        refine cc_tuple (.lst _) ?_
        walk_at "gp"
        exact gaveP hl hd0 rfl
    | dic ks l => cases hp
    | rd l => cases hp
    | exc c d => cases hp
    | own k => cases hp
abbrev spSame (K : PySem.W.Frag) (n : Nat) : Sp := ProP K (T := D) (fun d => [d, d]) (fun d => sOk n d = true) (fun _ r => r = .bl true) (fun _ _ _ => False)
theorem zip_self : ∀ {l : List D} {x : D}, x ∈ zipD l l → ∃ y ∈ l, x = .tup [y, y]
  | [], _, h => by cases h
  | z :: l, x, h => by
    rcases List.mem_cons.mp (show x ∈ D.tup [z, z] :: zipD l l from h) with e | h
    · exact ⟨z, List.mem_cons_self, e⟩
    · obtain ⟨y, h1, h2⟩ := zip_self h
      exact ⟨y, List.mem_cons_of_mem _ h1, h2⟩
abbrev st__law_same : Stmt := top 42
abbrev nm__law_same : List Str := ["told", "due", "is_like", "key", "one", "other"]
theorem sc__law_same : FnScope nm__law_same ["told", "due"] (defScope st__law_same) := ⟨rfl, rfl, rfl, by decide +kernel, rfl, by decide +kernel, by decide +kernel⟩
theorem ok_same (F : Fun K "_law_same" "_law_same" st__law_same f fd) (T : Tx P w K mg base a) (hm : mg "_law_same" = some (.ref f)) (hk : PySem.W.keepIn K (.ref f) = true) (hb : Binds K fd ["told", "due"] []) :
    ∀ n, FnOk P w K mg base (L2.CX P w) (n + 1) f fd ["told", "due"] (spSame K n)
  | 0 => F.okX sc__law_same (fun vs H Q E h => pro_len h fun _ => rfl) fun cdv A outer s H vs Q E hr h => by
    obtain ⟨x, _, _, hp, _⟩ := h
    cases hp
  | n + 1 => by
    have c__law_same : CalX P w K mg base (n + 1) "_law_same" ["told", "due"] (spSame K n) := ⟨f, fd, ok_same F T hm hk hb n, hm, hk, hb⟩
    refine F.okX sc__law_same (fun vs H Q E h => pro_len h fun _ => rfl) (fun cdv A outer s H vs Q E hr h => ⟨_, (pss_cons (ps_if (pt_val (pe_callB (kC K rIsiU rfl call_isU) (by rfl) T.b_isinstance (by decide +kernel) (pa_cons (pv 1) (pa_cons (pe_bltn (v := .ty "dict") (by rfl) T.b_dict (by decide +kernel) rfl) pa_nil)))) (pss_cons (ps_set (i := 2) sc__law_same.nd rfl (by first | exact Or.inl rfl | exact Or.inr rfl) (pe_and (pe_callB (kC K rIsiU rfl call_isU) (by rfl) T.b_isinstance (by decide +kernel) (pa_cons (pv 0) (pa_cons (pe_bltn (v := .ty "dict") (by rfl) T.b_dict (by decide +kernel) rfl) pa_nil))) (pe_and (pe_cmpR (kO K rEqU rfl (op_eqU (hu64 hr))) (pe_callB (kC K rLenU rfl call_lenU) (by rfl) T.b_len (by decide +kernel) (pa_cons (pv 0) pa_nil)) (pe_callB (kC K rLenU rfl call_lenU) (by rfl) T.b_len (by decide +kernel) (pa_cons (pv 1) pa_nil)) (nomark _)) (pe_one (pe_callB (kC K rAll rfl (cr_all rfl)) (by rfl) T.b_all (by decide +kernel) (pa_cons (pe_lc (own := [("key", 3)]) (tt := tYes) (g := (gName 3)) rfl sc__law_same.nd (pi_keys (pv 1)) (blkOk_by (own := [("key", 3)]) (N := nm__law_same) (sc := (defScope st__law_same)) (by decide +kernel)) (fun _ _ _ _ _ => (pg_name (i := 3) sc__law_same.nd rfl (by first | exact Or.inl rfl | exact Or.inr rfl))) (fun _ _ _ _ _ => pts_nil) (fun _ _ _ _ _ => (pe_cmpR (kO K rInU rfl op_inU) (pv 3) (pv 0) (by with_unfolding_all rfl)))) pa_nil))))))
    (pss_one (ps_ret (pe_and (pv 2) (pe_one (pe_callB (kC K rAll rfl (cr_all rfl)) (by rfl) T.b_all (by decide +kernel) (pa_cons (pe_lc (own := [("key", 3)]) (tt := tYes) (g := (gName 3)) rfl sc__law_same.nd (pi_keys (pv 1)) (blkOk_by (own := [("key", 3)]) (N := nm__law_same) (sc := (defScope st__law_same)) (by decide +kernel)) (fun _ _ _ _ _ => (pg_name (i := 3) sc__law_same.nd rfl (by first | exact Or.inl rfl | exact Or.inr rfl))) (fun _ _ _ _ _ => pts_nil) (fun _ _ _ _ _ => (pe_c c__law_same hr (by first | decide | exact Nat.le_refl _) rfl passL (pa_cons (pe_ix (kX K rIx rfl ix_seq) (pv 0) (pv 3) (fun _ _ => rfl)) (pa_cons (pe_ix (kX K rIx rfl ix_seq) (pv 1) (pv 3) (fun _ _ => rfl)) pa_nil))))) pa_nil))))))) pss_nil)
    (pss_cons (ps_if (pt_val (pe_callB (kC K rIsiU rfl call_isU) (by rfl) T.b_isinstance (by decide +kernel) (pa_cons (pv 1) (pa_cons (pe_tup (pa_cons (pe_bltn (v := .ty "list") (by rfl) T.b_list (by decide +kernel) rfl) (pa_cons (pe_bltn (v := .ty "tuple") (by rfl) T.b_tuple (by decide +kernel) rfl) pa_nil))) pa_nil)))) (pss_cons (ps_set (i := 2) sc__law_same.nd rfl (by first | exact Or.inl rfl | exact Or.inr rfl) (pe_and (pe_cmpR (kO K rEqU rfl (op_eqU (hu64 hr))) (pe_callB (kC K rIsiU rfl call_isU) (by rfl) T.b_isinstance (by decide +kernel) (pa_cons (pv 0) (pa_cons (pe_bltn (v := .ty "list") (by rfl) T.b_list (by decide +kernel) rfl) pa_nil))) (pe_callB (kC K rIsiU rfl call_isU) (by rfl) T.b_isinstance (by decide +kernel) (pa_cons (pv 1) (pa_cons (pe_bltn (v := .ty "list") (by rfl) T.b_list (by decide +kernel) rfl) pa_nil))) (nomark _)) (pe_one (pe_cmpR (kO K rEqU rfl (op_eqU (hu64 hr))) (pe_callB (kC K rIsiU rfl call_isU) (by rfl) T.b_isinstance (by decide +kernel) (pa_cons (pv 0) (pa_cons (pe_bltn (v := .ty "tuple") (by rfl) T.b_tuple (by decide +kernel) rfl) pa_nil))) (pe_callB (kC K rIsiU rfl call_isU) (by rfl) T.b_isinstance (by decide +kernel) (pa_cons (pv 1) (pa_cons (pe_bltn (v := .ty "tuple") (by rfl) T.b_tuple (by decide +kernel) rfl) pa_nil))) (nomark _)))))
    (pss_one (ps_ret (pe_and (pv 2) (pe_and (pe_cmpR (kO K rEqU rfl (op_eqU (hu64 hr))) (pe_callB (kC K rLenU rfl call_lenU) (by rfl) T.b_len (by decide +kernel) (pa_cons (pv 0) pa_nil)) (pe_callB (kC K rLenU rfl call_lenU) (by rfl) T.b_len (by decide +kernel) (pa_cons (pv 1) pa_nil)) (nomark _)) (pe_one (pe_callB (kC K rAll rfl (cr_all rfl)) (by rfl) T.b_all (by decide +kernel) (pa_cons (pe_lc (own := [("one", 4), ("other", 5)]) (tt := tYes) (g := (gTup K 2 (gCons (gName 4) (gCons (gName 5) gNil)))) rfl sc__law_same.nd (pi_zipAK (K := K) rfl (by rfl) T.b_zip (pa_cons (pv 0) (pa_cons (pv 1) pa_nil))) (blkOk_by (own := [("one", 4), ("other", 5)]) (N := nm__law_same) (sc := (defScope st__law_same)) (by decide +kernel)) (fun _ _ _ _ _ => (pg_tupK (K := K) rfl rfl (pgs_cons (pg_name (i := 4) sc__law_same.nd rfl (by first | exact Or.inl rfl | exact Or.inr rfl)) (pgs_cons (pg_name (i := 5) sc__law_same.nd rfl (by first | exact Or.inl rfl | exact Or.inr rfl)) pgs_nil)))) (fun _ _ _ _ _ => pts_nil) (fun _ _ _ _ _ => (pe_c c__law_same hr (by first | decide | exact Nat.le_refl _) rfl passL (pa_cons (pv 4) (pa_cons (pv 5) pa_nil))))) pa_nil)))))))) pss_nil)
    (pss_cons (ps_if (PW.pt (pw_or (pt_val (pe_callB (kC K rIsiU rfl call_isU) (by rfl) T.b_isinstance (by decide +kernel) (pa_cons (pv 0) (pa_cons (pe_tup (pa_cons (pe_bltn (v := .ty "list") (by rfl) T.b_list (by decide +kernel) rfl) (pa_cons (pe_bltn (v := .ty "tuple") (by rfl) T.b_tuple (by decide +kernel) rfl) (pa_cons (pe_bltn (v := .ty "dict") (by rfl) T.b_dict (by decide +kernel) rfl) pa_nil)))) pa_nil)))) (pw_or1 (pt_cmpR (kO K rNeU rfl (op_neU (hu64 hr))) (pe_cmpR op_isN (pv 0) pe_non (nomark _)) (pe_cmpR op_isN (pv 1) pe_non (nomark _)) (nomark _))))) (pss_one (ps_ret pe_bl)) pss_nil)
    (pss_cons (ps_set (i := 2) sc__law_same.nd rfl (by first | exact Or.inl rfl | exact Or.inr rfl) (pe_and (pe_cmpR (kO K rEqU rfl (op_eqU (hu64 hr))) (pe_callB (kC K rIsiU rfl call_isU) (by rfl) T.b_isinstance (by decide +kernel) (pa_cons (pv 0) (pa_cons (pe_bltn (v := .ty "int") (by rfl) T.b_int (by decide +kernel) rfl) pa_nil))) (pe_callB (kC K rIsiU rfl call_isU) (by rfl) T.b_isinstance (by decide +kernel) (pa_cons (pv 1) (pa_cons (pe_bltn (v := .ty "int") (by rfl) T.b_int (by decide +kernel) rfl) pa_nil))) (nomark _)) (pe_one (pe_cmpR (kO K rEqU rfl (op_eqU (hu64 hr))) (pe_callB (kC K rIsiU rfl call_isU) (by rfl) T.b_isinstance (by decide +kernel) (pa_cons (pv 0) (pa_cons (pe_bltn (v := .ty "str") (by rfl) T.b_str (by decide +kernel) rfl) pa_nil))) (pe_callB (kC K rIsiU rfl call_isU) (by rfl) T.b_isinstance (by decide +kernel) (pa_cons (pv 1) (pa_cons (pe_bltn (v := .ty "str") (by rfl) T.b_str (by decide +kernel) rfl) pa_nil))) (nomark _)))))
    (pss_one (ps_ret (pe_and (pv 2) (pe_and (pe_cmpR (kO K rEqU rfl (op_eqU (hu64 hr))) (pe_callB (kC K rIsiU rfl call_isU) (by rfl) T.b_isinstance (by decide +kernel) (pa_cons (pv 0) (pa_cons (pe_bltn (v := .ty "bool") (by rfl) T.b_bool (by decide +kernel) rfl) pa_nil))) (pe_callB (kC K rIsiU rfl call_isU) (by rfl) T.b_isinstance (by decide +kernel) (pa_cons (pv 1) (pa_cons (pe_bltn (v := .ty "bool") (by rfl) T.b_bool (by decide +kernel) rfl) pa_nil))) (nomark _)) (pe_one (pe_cmpR (kO K rEqU rfl (op_eqU (hu64 hr))) (pv 0) (pv 1) (nomark _))))))))))), run_body h fun d S hp hl hcl wi => ?_⟩)
    have hp : sOk (n + 1) d = true := hp
    have hpl := sOk_pl hp
    have hd0 := sOk_cl hp
    have hl : S.A.length = 0 := hl
    walk_at "p0"
    have same : ∀ (l : List D), ((zipD l l).filter fun _ => true).map (fun _ => D.bl true) = (List.replicate l.length true).map D.bl := fun l => by
      rw [List.filter_eq_self.mpr fun _ _ => rfl, List.map_const', List.map_replicate, zipD_len, Nat.min_self]
    cases d with
    | v x =>
      cases x with
      | non => walk_at "pp"; walk_at "gp"; refine gaveP hl (by rfl) ?_; rfl
      | bl b => walk_at "pp"; walk_at "gp"; refine gaveP hl (by rfl) ?_; (show D.bl _ = D.bl true); simp
      | int i => walk_at "pp"; walk_at "gp"; refine gaveP hl (by rfl) ?_; (show D.bl _ = D.bl true); simp
      | str s => walk_at "pp"; walk_at "gp"; refine gaveP hl (by rfl) ?_; (show D.bl _ = D.bl true); simp
      | _ => cases hp
    | lst l =>
      obtain ⟨hz, hall⟩ := sOk_lst.mp hp
      walk_at "pp"
      refine cc_len (.lst _) ?_
      walk_at "pp"
      refine cc_len (.lst _) ?_
      walk_at "pp"
      refine ⟨fun _ => ?_, fun h => absurd h (by simp)⟩
      walk_at "pp"
      refine ee_lc (ie_zipA ?_)
      walk_at "pp"
      refine ⟨l, l, .inl rfl, fun _ h => h, trivial, fun _ => true, fun _ => .bl true, by rw [zipD_len, Nat.min_self]; omega, fun _ _ _ => rfl, fun x acc hx => ?_, ?_⟩
      · obtain ⟨y, hy, rfl⟩ := zip_self hx
        refine gw_pair (by decide) (by decide) ?_
        walk_at "pp"
        refine ⟨rfl, rfl, fun _ => ?_⟩
        refine ee_cz ?_
        walk_at "pp"
        exact ⟨y, hall y hy, rfl, by show (y.lt 0 && (y.lt 0 && true)) = true; rw [sOk_cl (hall y hy)]; rfl, fun r hr => ⟨hr, rfl⟩⟩
      · rw [same]
        walk_at "pp"
        refine cc_all (.lst _) ?_
        walk_at "gp"; refine gaveP hl (by rfl) ?_; (show D.bl _ = D.bl true); simp
    | tup l =>
      obtain ⟨hz, hall⟩ := sOk_tup.mp hp
      walk_at "pp"
      refine cc_len (.tup _) ?_
      walk_at "pp"
      refine cc_len (.tup _) ?_
      walk_at "pp"
      refine ⟨fun _ => ?_, fun h => absurd h (by simp)⟩
      walk_at "pp"
      refine ee_lc (ie_zipA ?_)
      walk_at "pp"
      refine ⟨l, l, .inr rfl, fun _ h => h, trivial, fun _ => true, fun _ => .bl true, by rw [zipD_len, Nat.min_self]; omega, fun _ _ _ => rfl, fun x acc hx => ?_, ?_⟩
      · obtain ⟨y, hy, rfl⟩ := zip_self hx
        refine gw_pair (by decide) (by decide) ?_
        walk_at "pp"
        refine ⟨rfl, rfl, fun _ => ?_⟩
        refine ee_cz ?_
        walk_at "pp"
        exact ⟨y, hall y hy, rfl, by show (y.lt 0 && (y.lt 0 && true)) = true; rw [sOk_cl (hall y hy)]; rfl, fun r hr => ⟨hr, rfl⟩⟩
      · rw [same]
        walk_at "pp"
        refine cc_all (.lst _) ?_
        walk_at "gp"; refine gaveP hl (by rfl) ?_; (show D.bl _ = D.bl true); simp
    | dic ks l => cases hp
    | rd l => cases hp
    | exc c d => cases hp
    | own k => cases hp
end


section
variable {P : Program} {w : World} {K : PySem.W.Frag} {mg : Str → Option Value} {base : Heap} {a : Ad} {f : Addr} {fd : FuncData}
abbrev spCopied (K : PySem.W.Frag) (n : Nat) : Sp := ProP K (T := D) (fun d => [d]) (fun d => sOk n d = true) (fun d r => r = d) (fun _ _ _ => False)
abbrev st_copied : Stmt := top 13
abbrev nm_copied : List Str := ["thing", "item", "key"]
theorem sc_copied : FnScope nm_copied ["thing"] (defScope st_copied) := ⟨rfl, rfl, rfl, by decide +kernel, rfl, by decide +kernel, by decide +kernel⟩
theorem ok_copied (F : Fun K "copied" "copied" st_copied f fd) (T : Tx P w K mg base a) (hm : mg "copied" = some (.ref f)) (hk : PySem.W.keepIn K (.ref f) = true) (hb : Binds K fd ["thing"] []) :
    ∀ n, FnOk P w K mg base (L2.CX P w) (n + 1) f fd ["thing"] (spCopied K n)
  | 0 => F.okX sc_copied (fun vs H Q E h => pro_len h fun _ => rfl) fun cdv A outer s H vs Q E hr h => by
    obtain ⟨x, _, _, hp, _⟩ := h
    cases hp
  | n + 1 => by
    have c_copied : CalX P w K mg base (n + 1) "copied" ["thing"] (spCopied K n) := ⟨f, fd, ok_copied F T hm hk hb n, hm, hk, hb⟩
    refine F.okX sc_copied (fun vs H Q E h => pro_len h fun _ => rfl) (fun cdv A outer s H vs Q E hr h => ⟨_, (pss_cons (ps_if (pt_val (pe_callB (kC K rIsiU rfl call_isU) (by rfl) T.b_isinstance (by decide +kernel) (pa_cons (pv 0) (pa_cons (pe_bltn (v := .ty "list") (by rfl) T.b_list (by decide +kernel) rfl) pa_nil)))) (pss_one (ps_ret (pe_lc (own := [("item", 1)]) (tt := tYes) (g := (gName 1)) rfl sc_copied.nd (pi_listK (K := K) rfl (pv 0)) (blkOk_by (own := [("item", 1)]) (N := nm_copied) (sc := (defScope st_copied)) (by decide +kernel)) (fun _ _ _ _ _ => (pg_name (i := 1) sc_copied.nd rfl (by first | exact Or.inl rfl | exact Or.inr rfl))) (fun _ _ _ _ _ => pts_nil) (fun _ _ _ _ _ => (pe_c c_copied hr (by first | decide | exact Nat.le_refl _) rfl passL (pa_cons (pv 1) pa_nil)))))) pss_nil)
    (pss_cons (ps_if (pt_val (pe_callB (kC K rIsiU rfl call_isU) (by rfl) T.b_isinstance (by decide +kernel) (pa_cons (pv 0) (pa_cons (pe_bltn (v := .ty "tuple") (by rfl) T.b_tuple (by decide +kernel) rfl) pa_nil)))) (pss_one (ps_ret (pe_callTy (kC K rTupOf rfl call_tupOf) (by rfl) T.b_tuple (by decide +kernel) (pa_cons (pe_lc (own := [("item", 1)]) (tt := tYes) (g := (gName 1)) rfl sc_copied.nd (pi_tupK (K := K) rfl (pv 0)) (blkOk_by (own := [("item", 1)]) (N := nm_copied) (sc := (defScope st_copied)) (by decide +kernel)) (fun _ _ _ _ _ => (pg_name (i := 1) sc_copied.nd rfl (by first | exact Or.inl rfl | exact Or.inr rfl))) (fun _ _ _ _ _ => pts_nil) (fun _ _ _ _ _ => (pe_c c_copied hr (by first | decide | exact Nat.le_refl _) rfl passL (pa_cons (pv 1) pa_nil)))) pa_nil)))) pss_nil)
    (pss_cons (ps_if (pt_val (pe_callB (kC K rIsiU rfl call_isU) (by rfl) T.b_isinstance (by decide +kernel) (pa_cons (pv 0) (pa_cons (pe_bltn (v := .ty "dict") (by rfl) T.b_dict (by decide +kernel) rfl) pa_nil)))) (pss_one (ps_ret pe_never)) pss_nil)
    (pss_one (ps_ret (pv 0)))))), run_body h fun d S hp hl hcl wi => ?_⟩)
    have hp : sOk (n + 1) d = true := hp
    have hpl := sOk_pl hp
    have hd0 := sOk_cl hp
    have hl : S.A.length = 0 := hl
    walk_at "p0"
    have same : ∀ (l : List D), ((l.filter fun _ => true).map fun x => x) = l := fun l => by
      rw [List.filter_eq_self.mpr fun _ _ => rfl, List.map_id']
    cases d with
    | v x =>
      cases x with
      | non => walk_at "pp"; walk_at "gp"; exact gaveP hl hd0 rfl
      | bl b => walk_at "pp"; walk_at "gp"; exact gaveP hl hd0 rfl
      | int i => walk_at "pp"; walk_at "gp"; exact gaveP hl hd0 rfl
      | str s => walk_at "pp"; walk_at "gp"; exact gaveP hl hd0 rfl
      | _ => cases hp
    | lst l =>
      obtain ⟨hz, hall⟩ := sOk_lst.mp hp
      walk_at "pp"
      refine ee_lc (ie_list ?_)
      walk_at "pp"
      refine ⟨l, .inl rfl, fun _ h => h, trivial, fun _ => true, fun x => x, by omega, fun x hx _ => sOk_cl (hall x hx), fun x acc hx => ?_, ?_⟩
      · refine gw_name (by decide) ?_
        walk_at "pp"
        refine ⟨rfl, rfl, fun _ => ?_⟩
        refine ee_cz ?_
        walk_at "pp"
        exact ⟨x, hall x hx, rfl, by show (x.lt 0 && true) = true; rw [sOk_cl (hall x hx)]; rfl, fun r hr => ⟨hr, rfl⟩⟩
      · rw [same]
        walk_at "gp"
        exact gaveP hl hd0 rfl
    | tup l =>
      obtain ⟨hz, hall⟩ := sOk_tup.mp hp
      walk_at "pp"
      refine ee_lc (ie_tup ?_)
      walk_at "pp"
      refine ⟨fun _ h => h, trivial, fun _ => true, fun x => x, by omega, fun x hx _ => sOk_cl (hall x hx), fun x acc hx => ?_, ?_⟩
      · refine gw_name (by decide) ?_
        walk_at "pp"
        refine ⟨rfl, rfl, fun _ => ?_⟩
        refine ee_cz ?_
        walk_at "pp"
        exact ⟨x, hall x hx, rfl, by show (x.lt 0 && true) = true; rw [sOk_cl (hall x hx)]; rfl, fun r hr => ⟨hr, rfl⟩⟩
      · rw [same]
        walk_at "pp"
        refine cc_tuple (.lst _) ?_
        walk_at "gp"
        exact gaveP hl hd0 rfl
    | dic ks l => cases hp
    | rd l => cases hp
    | exc c d => cases hp
    | own k => cases hp
end


/-! the speaker -/
def passedE : List Ev → List (Str × Nat)
  | [] => []
  | .passed _ g p :: l => (g, p) :: passedE l
  | _ :: l => passedE l
structure Spk where
  st : Stt
  ds : List Deed
  hu : List (Str × Str)
  pp : List (Str × Nat)
def sp0 : Spk := ⟨s0, [], [], []⟩
def addD (ds : List Deed) (d : Deed) : List Deed := match ds[ds.length - 1]?, d with
  | some (.tick m), .tick k => ds.set (ds.length - 1) (.tick (m + k))
  | _, d => ds ++ [d]
def doneS (s : Spk) (d : Deed) : Spk := ⟨(doDeed s.st s.ds.length d).1, addD s.ds d, s.hu ++ heardE (doDeed s.st s.ds.length d).2, s.pp ++ passedE (doDeed s.st s.ds.length d).2⟩
def doneH (s : Spk) (d : Deed) : List (Str × Str) := heardE (doDeed s.st s.ds.length d).2
def DeedW : Deed → Prop
  | .say r ps tag => UttOk r ps tag
  | .tick k => 1 ≤ k
  | .drop tag => TagOk tag
  | _ => True
theorem DeedV.w {d : Deed} (h : DeedV d) : DeedW d := by
  cases d with
  | tick k => exact (show 1 ≤ k ∧ k ≤ 4000 from h).1
  | _ => exact h
/-- what holds of a speaker -/
structure SpkOk (s : Spk) : Prop where
  ok : Ok s.ds.length s.st
  n : s.ds.length ≤ 9000
  ds : ∀ d ∈ s.ds, DeedW d
  hu : s.hu.length ≤ 100000
  pp : s.pp.length ≤ 100000
section
variable {P : Program} {w : World} {K : PySem.W.Frag} {mg : Str → Option Value} {base : Heap} {a : Ad} {f : Addr} {fd : FuncData}
local macro_rules | `(tactic| walk_at "pq") => `(tactic| repeat (first | walk_at "p1" | (refine oo_ixT rfl ?_)))
abbrev huD (x : Str × Str) : D := .tup [.str x.1, .str x.2]
abbrev ppD (x : Str × Nat) : D := .tup [.str x.1, .int (x.2 : Int)]
abbrev nsS : List Str := ["state", "deeds", "heard_units", "passed_phrases"]
/-- a speaker as it lies from cell i on -/
def spkC (i : Nat) (c dx : Addr) (s : Spk) : List Cell := [.obj c dx nsS [stD s.st, .own (i + 1), .own (i + 2), .own (i + 3)], .lst (s.ds.map deedD), .lst (s.hu.map huD), .lst (s.pp.map ppD)]
theorem hus_cl {m : Nat} {l : List (Str × Str)} : D.ltL m (l.map huD) = true := D.ltL_all.mpr fun x hx => by
  obtain ⟨d, _, rfl⟩ := List.mem_map.mp hx
  rfl
theorem pps_cl {m : Nat} {l : List (Str × Nat)} : D.ltL m (l.map ppD) = true := D.ltL_all.mpr fun x hx => by
  obtain ⟨d, _, rfl⟩ := List.mem_map.mp hx
  rfl
/-- a def over a speaker (its first argument) and closed things -/
abbrev spOn (K : PySem.W.Frag) (c : Addr) {T : Type} (arg : T → List D) (pre : Spk → T → Prop) (tr : Spk → T → Spk) (res : Spk → T → D) : Sp :=
  Pro K (T := Addr × Spk × T) (fun t => spkC 0 c t.1 t.2.1) (fun t => .own 0 :: arg t.2.2) (fun t => pre t.2.1 t.2.2 ∧ D.ltL 0 (arg t.2.2) = true) (fun t d μ => d = res t.2.1 t.2.2 ∧ d.lt 0 = true ∧ μ = spkC 0 c t.1 (tr t.2.1 t.2.2)) (fun _ _ _ _ => False)
theorem spk_get {l r : List Cell} {k : Nat} {c dx : Addr} {s : Spk} (hk : l.length = k) :
    (l ++ spkC k c dx s ++ r)[k]? = some (.obj c dx nsS [stD s.st, .own (k + 1), .own (k + 2), .own (k + 3)]) ∧ (l ++ spkC k c dx s ++ r)[k + 1]? = some (.lst (s.ds.map deedD)) ∧ (l ++ spkC k c dx s ++ r)[k + 2]? = some (.lst (s.hu.map huD)) ∧ (l ++ spkC k c dx s ++ r)[k + 3]? = some (.lst (s.pp.map ppD)) := by
  subst hk
  have e : ∀ j, (l ++ spkC l.length c dx s ++ r)[l.length + j]? = (spkC l.length c dx s ++ r)[j]? := fun j => by
    rw [List.append_assoc, List.getElem?_append_right (Nat.le_add_right _ _), Nat.add_sub_cancel_left]
  exact ⟨e 0, e 1, e 2, e 3⟩
theorem getDC {μ : List Cell} {k : Nat} {c : Cell} (h : μ[k]? = some c) : μ.getD k .off = c := by
  rw [List.getD_eq_getElem?_getD, h]
  rfl
theorem set_off {l m : List Cell} {j : Nat} {x : Cell} : (l ++ m).set (l.length + j) x = l ++ m.set j x := by
  rw [List.set_append_right _ _ (Nat.le_add_right _ _), Nat.add_sub_cancel_left]
theorem put4 {l r : List Cell} {k : Nat} {a b c d a' b' c' d' : Cell} (hk : l.length = k) : put [k, k + 1, k + 2, k + 3] [a, b, c, d] (l ++ [a', b', c', d'] ++ r) = l ++ [a, b, c, d] ++ r := by
  subst hk
  show (((((l ++ [a', b', c', d']) ++ r).set (l.length + 0) a).set (l.length + 1) b).set (l.length + 2) c).set (l.length + 3) d = _
  rw [List.append_assoc, set_off, set_off, set_off, set_off, List.append_assoc]
  rfl
theorem spk_ren {i : Nat} {c dx : Addr} {s : Spk} {f : Nat → Nat} {j : Nat} (h1 : f (i + 1) = j + 1) (h2 : f (i + 2) = j + 2) (h3 : f (i + 3) = j + 3) : (spkC i c dx s).map (Cell.ren f) = spkC j c dx s := by
  show [Cell.gen _ [(stD s.st).ren f, .own (f (i + 1)), .own (f (i + 2)), .own (f (i + 3))], .lst (D.renL f (s.ds.map deedD)), .lst (D.renL f (s.hu.map huD)), .lst (D.renL f (s.pp.map ppD))] = _
  rw [ren_cl (st_cl s.st), renL_cl deeds_cl, renL_cl hus_cl, renL_cl pps_cl, h1, h2, h3]
  rfl
theorem spk_hs {i : Nat} {c dx : Addr} {s : Spk} {p : Nat → Bool} (h1 : p (i + 1) = true) (h2 : p (i + 2) = true) (h3 : p (i + 3) = true) : ∀ x ∈ spkC i c dx s, x.hs p = true := fun x hx => by
  have hs0 : (stD s.st).hs p = true := D.hs_mono (fun j z => absurd (of_decide_eq_true z) (Nat.not_lt_zero j)) (st_cl s.st)
  rcases List.mem_cons.mp hx with rfl | hx
  · show ((stD s.st).hs p && (p (i + 1) && (p (i + 2) && (p (i + 3) && true)))) = true
    rw [hs0, h1, h2, h3]
    rfl
  rcases List.mem_cons.mp hx with rfl | hx
  · exact hsL_cl deeds_cl
  rcases List.mem_cons.mp hx with rfl | hx
  · exact hsL_cl hus_cl
  rcases List.mem_cons.mp hx with rfl | hx
  · exact hsL_cl pps_cl
  cases hx
/-- .. asked: the speaker at cell k -/
theorem ask_on {S : Bs} {δ : Sl} {μ : List Cell} {C : D → List Cell → Prop} {ta : TA} {E : XK} {c : Addr} {T : Type} {arg : T → List D} {pre : Spk → T → Prop} {tr : Spk → T → Spk} {res : Spk → T → D} (k : Nat)
    (h : EA K S ta δ μ fun ds μ1 => ∃ (t : T) (l r : List Cell) (dx : Addr) (s : Spk), ds = .own k :: arg t ∧ μ1 = l ++ spkC k c dx s ++ r ∧ l.length = k ∧ pre s t ∧ D.ltL 0 (arg t) = true ∧ C (res s t) (l ++ spkC k c dx (tr s t) ++ r)) : EE K S (tCall (spOn K c arg pre tr res) [] E ta) δ μ C :=
  ee_callH (CE := fun _ _ _ => False) [k, k + 1, k + 2, k + 3] Wi.none fun A G H σ a' Q q => h A G H σ a' Q fun vs ds A1 G1 H1 μ1 m nn rr ⟨t, l, r, dx, s, e1, e2, e3, hp, hcl, hC⟩ => q vs ds A1 G1 H1 μ1 m nn rr (by
    subst e1 e2
    obtain ⟨g0, g1, g2, g3⟩ := @spk_get l r k c dx s e3
    have ne : ∀ {i j : Nat}, i < j → (k + i == k + j) = false := fun h => beq_eq_false_iff_ne.mpr (by omega)
    have n01 : (k == k + 1) = false := ne (i := 0) (by decide)
    have n02 : (k == k + 2) = false := ne (i := 0) (by decide)
    have n03 : (k == k + 3) = false := ne (i := 0) (by decide)
    have n12 : (k + 1 == k + 2) = false := ne (by decide)
    have n13 : (k + 1 == k + 3) = false := ne (by decide)
    have n23 : (k + 2 == k + 3) = false := ne (by decide)
    have i0 : [k, k + 1, k + 2, k + 3].idxOf k = 0 := by rw [List.idxOf_cons, beq_self_eq_true]; rfl
    have i1 : [k, k + 1, k + 2, k + 3].idxOf (k + 1) = 1 := by rw [List.idxOf_cons, n01, List.idxOf_cons, beq_self_eq_true]; rfl
    have i2 : [k, k + 1, k + 2, k + 3].idxOf (k + 2) = 2 := by rw [List.idxOf_cons, n02, List.idxOf_cons, n12, List.idxOf_cons, beq_self_eq_true]; rfl
    have i3 : [k, k + 1, k + 2, k + 3].idxOf (k + 3) = 3 := by rw [List.idxOf_cons, n03, List.idxOf_cons, n13, List.idxOf_cons, n23, List.idxOf_cons, beq_self_eq_true]; rfl
    have em : [k, k + 1, k + 2, k + 3].map (fun j => (l ++ spkC k c dx s ++ r).getD j .off) = spkC k c dx s := by
      rw [List.map_cons, List.map_cons, List.map_cons, List.map_cons, List.map_nil, getDC g0, getDC g1, getDC g2, getDC g3]
      rfl
    have hz : (l ++ spkC k c dx s ++ r).length = k + 4 + r.length := by
      rw [List.length_append, List.length_append, e3]
      rfl
    refine ⟨(dx, s, t), ⟨hp, hcl⟩, by simp, fun j hj => ?_, ?_, fun j hj => ?_, ?_, ?_, fun d ν n ⟨h1, h2, h3⟩ _ _ _ _ => ?_, fun _ _ _ z _ _ _ => z⟩
    · rw [hz]
      simp at hj
      omega
    · rw [em]
      exact (spk_ren (j := 0) i1 i2 i3).symm
    · have hm := List.mem_map_of_mem (f := fun j => (l ++ spkC k c dx s ++ r).getD j .off) hj
      rw [em] at hm
      exact spk_hs (by simp) (by simp) (by simp) _ hm
    · show (([k, k + 1, k + 2, k + 3].contains k) && D.hsL _ (arg t)) = true
      rw [hsL_cl hcl]
      simp
    · show D.own ([k, k + 1, k + 2, k + 3].idxOf k) :: D.renL _ (arg t) ++ [] = _
      rw [renL_cl hcl, i0, List.append_nil]
    · have h1 : d = res s t := h1
      have h3 : ν = spkC 0 c dx (tr s t) := h3
      subst h3
      rw [ren_cl h2, h1]
      have eb : (spkC 0 c dx (tr s t)).map (Cell.ren (back [k, k + 1, k + 2, k + 3] (l ++ spkC k c dx s ++ r).length)) = spkC k c dx (tr s t) := spk_ren rfl rfl rfl
      have e : behindC [k, k + 1, k + 2, k + 3] (l ++ spkC k c dx s ++ r).length (spkC 0 c dx (tr s t)) (l ++ spkC k c dx s ++ r) = l ++ spkC k c dx (tr s t) ++ r := by
        show put _ ((spkC 0 c dx (tr s t)).map _) _ ++ [] = _
        rw [eb, List.append_nil]
        exact put4 e3
      rw [e]
      exact hC)
theorem f_none {α : Type} : ∀ {ns : List Str} {l : List α} {m : Str}, hasF ns m = false → fAt ns l m = none
  | [], _, _, _ => by simp [fAt]
  | _ :: _, [], _, _ => by simp [fAt]
  | n :: ns, x :: l, m, h => by
    unfold hasF at h
    by_cases e : n = m
    · rw [if_pos e] at h
      cases h
    · rw [if_neg e] at h
      unfold fAt
      rw [if_neg fun z => e z.symm]
      exact f_none h
/-- .. a method -/
theorem ask_m {S : Bs} {δ : Sl} {μ : List Cell} {C : D → List Cell → Prop} {ta : TA} {E : XK} {c : Addr} {m : Str} {T : Type} {arg : T → List D} {pre : Spk → T → Prop} {tr : Spk → T → Spk} {res : Spk → T → D} {i : Nat} (k : Nat) (l r : List Cell) {dx : Addr} {s : Spk} (hi : δ[i]? = some (some (.own k))) (e : μ = l ++ spkC k c dx s ++ r) (hk : l.length = k) (hno : hasF nsS m = false)
    (h : EA K S ta δ μ fun ds μ1 => ∃ (t : T) (l r : List Cell) (dx : Addr) (s : Spk), ds = arg t ∧ μ1 = l ++ spkC k c dx s ++ r ∧ l.length = k ∧ pre s t ∧ D.ltL 0 (arg t) = true ∧ C (res s t) (l ++ spkC k c dx (tr s t) ++ r)) : EE K S (tMeth c m (spOn K c arg pre tr res) [] E (tVar i) ta) δ μ C := by
  obtain ⟨g0, _⟩ := @spk_get l r k c dx s hk
  rw [← e] at g0
  refine ee_methV hi g0 (f_none hno) (ask_on k (ea_cons (ee_var hi ?_)))
  exact fun A G H σ a Q q => h A G H σ a Q fun vs ds A1 G1 H1 μ1 m nn rr ⟨t, l, r, dx, s, e1, e2⟩ => q vs ds A1 G1 H1 μ1 m nn rr ⟨t, l, r, dx, s, by rw [e1], e2⟩
end


section
variable {P : Program} {w : World} {K : PySem.W.Frag} {mg : Str → Option Value} {base : Heap} {a : Ad} {f : Addr} {fd : FuncData}
local macro_rules | `(tactic| walk_at "pq") => `(tactic| repeat (first | walk_at "p1" | (refine oo_ixT rfl ?_)))
theorem ee_cE {S : Bs} {δ : Sl} {μ : List Cell} {C : D → List Cell → Prop} {c c1 : Addr} (h : TupK K c [.non, .ref c1, .bl false, .bl false]) (h1 : TupK K c1 []) (k : C (stD s0) μ) : EE K S (tC (.ref c)) δ μ C := fun A G H σ at' Q q => q _ (stD s0) A G H μ at'.m Nw.refl (.tup (.inr h) (.cons (.v _) (.cons (.tup (.inr h1) .nil) (.cons (.v _) (.cons (.v _) .nil))))) k
theorem spk_lt {i n : Nat} {c dx : Addr} {s : Spk} (h : i + 3 < n) : cellsLt n (spkC i c dx s) = true := by
  have e1 : (stD s.st).lt n = true := D.lt_mono (Nat.zero_le _) (st_cl _)
  have d1 : decide (i + 1 < n) = true := decide_eq_true (by omega)
  have d2 : decide (i + 2 < n) = true := decide_eq_true (by omega)
  have d3 : decide (i + 3 < n) = true := decide_eq_true (by omega)
  show (((stD s.st).lt n && (decide (i + 1 < n) && (decide (i + 2 < n) && (decide (i + 3 < n) && true)))) && (D.ltL n (s.ds.map deedD) && (D.ltL n (s.hu.map huD) && (D.ltL n (s.pp.map ppD) && true)))) = true
  rw [e1, d1, d2, d3, deeds_cl, hus_cl, pps_cl]
  rfl
theorem ee_fldS {S : Bs} {δ : Sl} {μ : List Cell} {C : D → List Cell → Prop} {i k : Nat} {c dx : Addr} {ns : List Str} {l : List D} {f : Str} {d : D} (hi : δ[i]? = some (some (.own k))) (hc : μ[k]? = some (.obj c dx ns l)) (cl : Cls K c) (na : NoAttr K c f) (hf : fAt ns l f = some d) (q : C d μ) : EE K S (tFld K (tVar i) f) δ μ C := ee_fld (ee_var hi ⟨k, c, dx, ns, l, d, rfl, hc, cl, na, hf, q⟩)
section
variable {α : Type} {a b c d x : α}
theorem f_st : fAt nsS [a, b, c, d] (Str.ofString "state") = some a := rfl
theorem f_ds : fAt nsS [a, b, c, d] (Str.ofString "deeds") = some b := rfl
theorem f_hu : fAt nsS [a, b, c, d] (Str.ofString "heard_units") = some c := rfl
theorem f_pp : fAt nsS [a, b, c, d] (Str.ofString "passed_phrases") = some d := rfl
theorem fr_st : fRep nsS [a, b, c, d] (Str.ofString "state") x = [x, b, c, d] := rfl
theorem pn_st : putN nsS (Str.ofString "state") = nsS := rfl
end
local macro_rules | `(tactic| walk_at "pf") => `(tactic| repeat (first | walk_at "p1" | (with_reducible refine ee_fldS (ns := nsS) (f := Str.ofString "state") (by with_unfolding_all rfl) (by with_unfolding_all rfl) (by assumption) (by assumption) (by with_unfolding_all exact f_st) ?_) | (with_reducible refine ee_fldS (ns := nsS) (f := Str.ofString "deeds") (by with_unfolding_all rfl) (by with_unfolding_all rfl) (by assumption) (by assumption) (by with_unfolding_all exact f_ds) ?_) | (with_reducible refine ee_fldS (ns := nsS) (f := Str.ofString "heard_units") (by with_unfolding_all rfl) (by with_unfolding_all rfl) (by assumption) (by assumption) (by with_unfolding_all exact f_hu) ?_) | (with_reducible refine ee_fldS (ns := nsS) (f := Str.ofString "passed_phrases") (by with_unfolding_all rfl) (by with_unfolding_all rfl) (by assumption) (by assumption) (by with_unfolding_all exact f_pp) ?_) | (refine oo_ixT rfl ?_)))
/-- the speaker made -/
abbrev spInit (K : PySem.W.Frag) (c : Addr) : Sp := Pro K (T := Addr) (fun dx => [.obj c dx [] []]) (fun _ => [.own 0]) (fun _ => True) (fun dx d μ => d = .non ∧ μ = spkC 0 c dx sp0) (fun _ _ _ _ => False)
abbrev st_Speaker___init__ : Stmt := inClass (top 30) 0
abbrev nm_Speaker___init__ : List Str := ["self"]
theorem sc_Speaker___init__ : FnScope nm_Speaker___init__ ["self"] (defScope st_Speaker___init__) := ⟨rfl, rfl, rfl, by decide +kernel, rfl, by decide +kernel, by decide +kernel⟩
theorem ok_init (F : Fun K "__init__" "Speaker.__init__" st_Speaker___init__ f fd) (T : Tx P w K mg base a) : FnOk P w K mg base (L2.CX P w) 1 f fd ["self"] (spInit K a.eSpeaker) := by
  refine F.okX sc_Speaker___init__ (fun vs H Q E h => pro_len h fun _ => rfl) (fun cdv A outer s H vs Q E hr h => ⟨_, (pss_cons (ps_fldK (K := K) rfl (pv 0) (pe_glob (v := .ref a.cEMPTY) rfl T.g_EMPTY rfl))
    (pss_cons (ps_fldK (K := K) rfl (pv 0) (pe_lst pa_nil))
    (pss_cons (ps_fldK (K := K) rfl (pv 0) (pe_lst pa_nil))
    (pss_one (ps_fldK (K := K) rfl (pv 0) (pe_lst pa_nil)))))), run_body h fun dx S _ hl hcl wi => ?_⟩)
  have hS : S.A.length = 1 := hl
  refine se_seq (se_fld ?_)
  refine ee_cE T.t_EMPTY T.t_EMPTY_1 ?_
  refine ee_var rfl ?_
  refine ⟨0, _, _, _, _, rfl, rfl, T.cl_Speaker, T.na_state, by decide, ?_⟩
  show SE K S _ [some (.own 0)] [.obj a.eSpeaker dx ["state"] [stD s0]] _
  refine se_seq (se_fld ?_)
  refine ee_open ?_
  refine ea_nil ?_
  refine ⟨Nat.zero_le _, ?_⟩
  refine ee_var rfl ?_
  refine ⟨0, _, _, _, _, rfl, rfl, T.cl_Speaker, T.na_deeds, by decide, ?_⟩
  show SE K S _ [some (.own 0)] [.obj a.eSpeaker dx ["state", "deeds"] [stD s0, .own 1], .lst []] _
  refine se_seq (se_fld ?_)
  refine ee_open ?_
  refine ea_nil ?_
  refine ⟨Nat.zero_le _, ?_⟩
  refine ee_var rfl ?_
  refine ⟨0, _, _, _, _, rfl, rfl, T.cl_Speaker, T.na_heard_units, by decide, ?_⟩
  show SE K S _ [some (.own 0)] [.obj a.eSpeaker dx ["state", "deeds", "heard_units"] [stD s0, .own 1, .own 2], .lst [], .lst []] _
  refine se_fld ?_
  refine ee_open ?_
  refine ea_nil ?_
  refine ⟨Nat.zero_le _, ?_⟩
  refine ee_var rfl ?_
  refine ⟨0, _, _, _, _, rfl, rfl, T.cl_Speaker, T.na_passed_phrases, by decide, ?_⟩
  walk_at "gp"
  show Gave S _ .non (spkC 0 a.eSpeaker dx sp0)
  exact gave_all (by rw [hS]; exact (show 1 ≤ 4 by decide)) rfl (spk_lt (show 3 < 4 by decide)) ⟨rfl, rfl⟩
/-- a deed done: who speaks it does not matter; what was heard is told -/
abbrev spDone (K : PySem.W.Frag) (c : Addr) : Sp := spOn K c (T := Deed) (fun d => [deedD d]) (fun s d => SpkOk s ∧ DeedV d ∧ s.hu.length ≤ 90000 ∧ s.pp.length ≤ 90000) doneS (fun s d => .lst ((doneH s d).map huD))
def isTk : Deed → Bool
  | .tick _ => true
  | _ => false
theorem kind_tk {d : Deed} : decide (V.str (kindS d) = V.str (Str.ofString "tick")) = isTk d := by
  cases d with
  | say r ps g => show decide (V.str (Str.ofString "say") = V.str (Str.ofString "tick")) = false; decide +kernel
  | tick k => show decide (V.str (Str.ofString "tick") = V.str (Str.ofString "tick")) = true; decide +kernel
  | drop g => show decide (V.str (Str.ofString "drop") = V.str (Str.ofString "tick")) = false; decide +kernel
  | hold => decide +kernel
  | go => decide +kernel
  | stop => decide +kernel
theorem clear_len {n : Nat} {s : Stt} {rs : List Nat} {tg : Option Str} (h : Ok n s) : (clear s rs tg).2.length ≤ n := by
  have h1 := List.length_filter_le (goneB rs tg) (stand s)
  have h2 := stand_le h
  show (((stand s).filter (goneB rs tg)).map fun t => Ev.out t.say t.tag).length ≤ n
  rw [List.length_map]
  omega
theorem cut_len {s : Stt} : (cutOff s).2.length ≤ 1 := by
  unfold cutOff
  split
  · exact Nat.zero_le _
  · exact Nat.le_refl _
theorem do_len {n : Nat} {s : Stt} {d : Deed} (h : Ok n s) (hn : n ≤ 9000) (hd : DeedV d) : (doDeed s n d).2.length ≤ 15000 := by
  cases d with
  | say r ps tag =>
    rw [doSay, List.length_append]
    have h1 : (sayA s r).2.length ≤ n := by
      unfold sayA
      split
      · exact clear_len h
      · exact Nat.zero_le _
    have h2 : ∀ s, (cutR s r).2.length ≤ 1 := fun s => by
      unfold cutR
      split
      · exact cut_len
      · exact Nat.zero_le _
    have := h2 (sayA s r).1
    show (sayA s r).2.length + (cutR (sayA s r).1 r).2.length ≤ 15000
    omega
  | tick k =>
    have hd : 1 ≤ k ∧ k ≤ 4000 := hd
    have := ticks_len (s := s) k
    show (ticks k s).2.length ≤ 15000
    omega
  | drop tag => exact Nat.le_trans (clear_len h) (by omega)
  | hold => exact Nat.le_trans cut_len (by omega)
  | go => exact Nat.zero_le _
  | stop => exact Nat.le_trans (clear_len h) (by omega)
theorem phs_sok {ps : List (List Str)} {n : Nat} (h : PhsOk ps) : sOk (n + 3) (phsL ps) = true := by
  obtain ⟨h1, h2⟩ := len_phs h
  refine sOk_lst.mpr ⟨by rw [List.length_map]; omega, fun x hx => ?_⟩
  obtain ⟨p, hp, rfl⟩ := List.mem_map.mp hx
  refine sOk_lst.mpr ⟨by have := h2 p hp; rw [List.length_map]; omega, fun y hy => ?_⟩
  obtain ⟨u, _, rfl⟩ := List.mem_map.mp hy
  rfl
theorem ut_sok {r : Nat} {ps : List (List Str)} {tag : Str} {n : Nat} (h : PhsOk ps) : sOk (n + 4) (utD r ps tag) = true := by
  refine sOk_tup.mpr ⟨Nat.le_of_ble_eq_true rfl, fun x hx => ?_⟩
  rcases List.mem_cons.mp hx with rfl | hx
  · rfl
  rcases List.mem_cons.mp hx with rfl | hx
  · exact phs_sok h
  rcases List.mem_cons.mp hx with rfl | hx
  · rfl
  cases hx
theorem deed_sok {d : Deed} {n : Nat} (h : DeedW d) : sOk (n + 5) (deedD d) = true := by
  cases d with
  | say r ps tag =>
    have h : UttOk r ps tag := h
    refine sOk_tup.mpr ⟨Nat.le_of_ble_eq_true rfl, fun x hx => ?_⟩
    rcases List.mem_cons.mp hx with rfl | hx
    · rfl
    rcases List.mem_cons.mp hx with rfl | hx
    · exact ut_sok h.ok
    cases hx
  | _ => rfl
def evF (k : String) : D → Bool
  | .tup [.v y, _, _, _] => decide (y = .str (Str.ofString k))
  | _ => false
def evG : D → D
  | .tup [_, _, g, m] => .tup [g, m]
  | d => d
theorem evF_no {k w : String} (h : decide (V.str (Str.ofString w) = V.str (Str.ofString k)) = false) {x y z : D} : ¬ evF k (.tup [.str (Str.ofString w), x, y, z]) = true := by
  show ¬ decide (V.str (Str.ofString w) = V.str (Str.ofString k)) = true
  rw [h]
  decide
theorem evF_yes {k : String} {x y z : D} : evF k (.tup [.str (Str.ofString k), x, y, z]) = true := by
  show decide (V.str (Str.ofString k) = V.str (Str.ofString k)) = true
  exact decide_eq_true rfl
theorem heard_of : ∀ {l : List Ev}, ((l.map evD).filter (evF "heard")).map evG = (heardE l).map huD
  | [] => rfl
  | e :: l => by
    have ih := heard_of (l := l)
    rw [List.map_cons]
    cases e with
    | heard n g u =>
      rw [List.filter_cons_of_pos (show evF "heard" (evD (.heard n g u)) = true from evF_yes)]
      show huD (g, u) :: _ = huD (g, u) :: (heardE l).map huD
      rw [ih]
    | cut n g p u => rw [List.filter_cons_of_neg (show ¬ evF "heard" (evD (.cut n g p u)) = true from evF_no (w := "cut") (by decide +kernel))]; exact ih
    | out n g => rw [List.filter_cons_of_neg (show ¬ evF "heard" (evD (.out n g)) = true from evF_no (w := "out") (by decide +kernel))]; exact ih
    | passed n g p => rw [List.filter_cons_of_neg (show ¬ evF "heard" (evD (.passed n g p)) = true from evF_no (w := "passed") (by decide +kernel))]; exact ih
    | done n g => rw [List.filter_cons_of_neg (show ¬ evF "heard" (evD (.done n g)) = true from evF_no (w := "done") (by decide +kernel))]; exact ih
theorem passed_of : ∀ {l : List Ev}, ((l.map evD).filter (evF "passed")).map evG = (passedE l).map ppD
  | [] => rfl
  | e :: l => by
    have ih := passed_of (l := l)
    rw [List.map_cons]
    cases e with
    | passed n g u =>
      rw [List.filter_cons_of_pos (show evF "passed" (evD (.passed n g u)) = true from evF_yes)]
      show ppD (g, u) :: _ = ppD (g, u) :: (passedE l).map ppD
      rw [ih]
    | cut n g p u => rw [List.filter_cons_of_neg (show ¬ evF "passed" (evD (.cut n g p u)) = true from evF_no (w := "cut") (by decide +kernel))]; exact ih
    | out n g => rw [List.filter_cons_of_neg (show ¬ evF "passed" (evD (.out n g)) = true from evF_no (w := "out") (by decide +kernel))]; exact ih
    | heard n g u => rw [List.filter_cons_of_neg (show ¬ evF "passed" (evD (.heard n g u)) = true from evF_no (w := "heard") (by decide +kernel))]; exact ih
    | done n g => rw [List.filter_cons_of_neg (show ¬ evF "passed" (evD (.done n g)) = true from evF_no (w := "done") (by decide +kernel))]; exact ih
theorem add_no {ds : List Deed} {d : Deed} (h : isTk d = false) : addD ds d = ds ++ [d] := by
  unfold addD
  split
  · cases h
  · rfl
theorem add_no2 {ds : List Deed} {d x : Deed} (hx : ds[ds.length - 1]? = some x) (h : isTk x = false) : addD ds d = ds ++ [d] := by
  unfold addD
  rw [hx]
  cases x with
  | tick m => cases h
  | _ => rfl
theorem add_nil {d : Deed} : addD [] d = [d] := rfl
theorem add_yes {ds : List Deed} {m k : Nat} (hx : ds[ds.length - 1]? = some (.tick m)) : addD ds (.tick k) = ds.set (ds.length - 1) (.tick (m + k)) := by
  unfold addD
  rw [hx]
theorem ix_last {n : Nat} (h : 0 < n) : ixN n (-1) = some (n - 1) := by
  unfold ixN
  rw [if_neg (by decide), if_pos (by omega)]
  congr 1
  omega
theorem at_last {ds : List Deed} {x : Deed} (hx : ds[ds.length - 1]? = some x) : atI (ds.map deedD) (-1) = some (deedD x) := by
  have h := (List.getElem?_eq_some_iff.mp hx).1
  unfold atI
  rw [List.length_map, ix_last (by omega)]
  show (ds.map deedD)[ds.length - 1]? = _
  rw [List.getElem?_map, hx]
  rfl
theorem mm_extU {S : Bs} {μ : List Cell} {C : D → List Cell → Prop} {k : Nat} {l m' : List D} (hc : μ[k]? = some (.lst l)) (hz : l.length + m'.length ≤ 10000000) (c : C .non (μ.set k (.lst (l ++ m')))) : MM K S (rExtU K) (.own k) [.lst m'] μ C := fun A G H u vs m r1 r2 Q q => .inl (mm_extend hc hz c A G H u vs m r1 r2 Q q)
theorem heardE_len : ∀ {l : List Ev}, (heardE l).length ≤ l.length
  | [] => Nat.le_refl _
  | e :: l => by
    have ih := heardE_len (l := l)
    cases e with
    | heard n g u => exact Nat.succ_le_succ ih
    | _ => exact Nat.le_succ_of_le ih
theorem passedE_len : ∀ {l : List Ev}, (passedE l).length ≤ l.length
  | [] => Nat.le_refl _
  | e :: l => by
    have ih := passedE_len (l := l)
    cases e with
    | passed n g u => exact Nat.succ_le_succ ih
    | _ => exact Nat.le_succ_of_le ih
theorem se_mid {S : Bs} {δ : Sl} {μ : List Cell} {ts : TS} {F0 : Cn} (δ' : Sl) (μ' : List Cell) (h : SE K S ts δ μ { nx := fun d m => d = δ' ∧ m = μ', rt := fun _ _ => False }) (q : F0.nx δ' μ') : SE K S ts δ μ F0 :=
  SE.imp h (fun d m ⟨e1, e2⟩ => by rw [e1, e2]; exact q) (fun _ _ z => z.elim) (fun _ _ z => z.elim) (fun _ _ z => z.elim)
theorem gw_four {S : Bs} {δ : Sl} {μ : List Cell} {i j n o : Nat} {vs : List Nat} {x y z w : D} {C : Sl → List Cell → Prop} (hi : i ∈ vs) (hj : j ∈ vs) (hn : n ∈ vs) (ho : o ∈ vs) (k : C ((((δ.set i (some x)).set j (some y)).set n (some z)).set o (some w)) μ) : GW K S (gTup K 4 (gCons (gName i) (gCons (gName j) (gCons (gName n) (gCons (gName o) gNil))))) vs (.tup [x, y, z, w]) δ μ C := fun A G H σ v a r Q q => by
  cases r with
  | tup hs rl =>
    cases rl with
    | cons rx r =>
      cases r with
      | cons ry r =>
        cases r with
        | cons rz r =>
          cases r with
          | cons rw' r =>
            cases r
            exact ⟨_, _, rfl, ex_t a.m.ex hs.sq, rfl, _, _, rfl, _, _, rfl, _, _, rfl, _, _, rfl, rfl, q A G H _ _ μ ⟨a.m, En.set rw' o (En.set rz n (En.set ry j (En.set rx i a.env)))⟩ Nw.refl (by rw [wipe_in ho, wipe_in hn, wipe_in hj, wipe_in hi]) k⟩
abbrev st_Speaker_done : Stmt := inClass (top 30) 1
abbrev nm_Speaker_done : List Str := ["self", "deed", "happened", "heard", "word", "say", "tag", "more"]
theorem sc_Speaker_done : FnScope nm_Speaker_done ["self", "deed"] (defScope st_Speaker_done) := ⟨rfl, rfl, rfl, by decide +kernel, rfl, by decide +kernel, by decide +kernel⟩
theorem ok_done (F : Fun K "done" "Speaker.done" st_Speaker_done f fd) (T : Tx P w K mg base a) (c_after_deed : CalX P w K mg base 4 "after_deed" ["state", "say", "deed", "happened"] (spDo K)) (c_copied : CalX P w K mg base 7 "copied" ["thing"] (spCopied K 6)) : FnOk P w K mg base (L2.CX P w) 8 f fd ["self", "deed"] (spDone K a.eSpeaker) := by
  refine F.okX sc_Speaker_done (fun vs H Q E h => pro_len h fun _ => rfl) (fun cdv A outer s H vs Q E hr h => ⟨_, (pss_cons (ps_set (i := 2) sc_Speaker_done.nd rfl (by first | exact Or.inl rfl | exact Or.inr rfl) (pe_lst pa_nil))
    (pss_cons (ps_fldK (K := K) rfl (pv 0) (pe_c c_after_deed hr (by first | decide | exact Nat.le_refl _) rfl (passes_call (takes_of rfl rfl rfl rfl) (fun _ _ _ _ h => h)) (pa_cons (pe_fldK (K := K) rfl (pv 0)) (pa_cons (pe_callB (kC K rLenU rfl call_lenU) (by rfl) T.b_len (by decide +kernel) (pa_cons (pe_fldK (K := K) rfl (pv 0)) pa_nil)) (pa_cons (pv 1) (pa_cons (pv 2) pa_nil))))))
    (pss_cons (ps_if (PW.pt (pw_and (pt_cmpR (kO K rEqU rfl (op_eqU (hu64 hr))) (pe_ix (kX K rIx rfl ix_seq) (pv 1) pe_int (fun _ _ => rfl)) pe_str (nomark _)) (pw_and (pt_cmpR op_gt (pe_callB (kC K rLenU rfl call_lenU) (by rfl) T.b_len (by decide +kernel) (pa_cons (pe_fldK (K := K) rfl (pv 0)) pa_nil)) pe_int (nomark _)) (pw_and1 (pt_cmpR (kO K rEqU rfl (op_eqU (hu64 hr))) (pe_ix (kX K rIx rfl ix_seq) (pe_ix (kX K rIx rfl ix_seq) (pe_fldK (K := K) rfl (pv 0)) (pe_un un_neg pe_int) (fun _ _ => rfl)) pe_int (fun _ _ => rfl)) pe_str (nomark _)))))) (pss_one (ps_asg (pe_tup (pa_cons pe_str (pa_cons (pe_op (kO K rPlus rfl op_plus) (pe_ix (kX K rIx rfl ix_seq) (pe_ix (kX K rIx rfl ix_seq) (pe_fldK (K := K) rfl (pv 0)) (pe_un un_neg pe_int) (fun _ _ => rfl)) pe_int (fun _ _ => rfl)) (pe_ix (kX K rIx rfl ix_seq) (pv 1) pe_int (fun _ _ => rfl))) pa_nil))) (pg_sub (pe_fldK (K := K) rfl (pv 0)) (pe_un un_neg pe_int) pset_list))) (pss_one (ps_expr (pe_bmK (K := K) rfl PySem.F.plainAttrs_list PySem.F.slot_list_append PySem.F.type_list_append mt_append (pe_fldK (K := K) rfl (pv 0)) (pa_cons (pe_c c_copied hr (by first | decide | exact Nat.le_refl _) rfl (passes_call (takes_of rfl rfl rfl rfl) (fun _ _ _ _ h => h)) (pa_cons (pv 1) pa_nil)) pa_nil)))))
    (pss_cons (ps_setLc (i := 3) (own := [("word", 4), ("say", 5), ("tag", 6), ("more", 7)]) (g := (gTup K 4 (gCons (gName 4) (gCons (gName 5) (gCons (gName 6) (gCons (gName 7) gNil)))))) rfl sc_Speaker_done.nd rfl rfl (sw_true rfl rfl rfl (by decide +kernel)) (pi_listK (K := K) rfl (pv 2)) (blkOk_by (own := [("word", 4), ("say", 5), ("tag", 6), ("more", 7)]) (N := nm_Speaker_done) (sc := (defScope st_Speaker_done)) (by decide +kernel)) (fun _ _ _ _ _ => (pg_tupK (K := K) rfl rfl (pgs_cons (pg_name (i := 4) sc_Speaker_done.nd rfl (by first | exact Or.inl rfl | exact Or.inr rfl)) (pgs_cons (pg_name (i := 5) sc_Speaker_done.nd rfl (by first | exact Or.inl rfl | exact Or.inr rfl)) (pgs_cons (pg_name (i := 6) sc_Speaker_done.nd rfl (by first | exact Or.inl rfl | exact Or.inr rfl)) (pgs_cons (pg_name (i := 7) sc_Speaker_done.nd rfl (by first | exact Or.inl rfl | exact Or.inr rfl)) pgs_nil)))))) (fun _ _ _ _ _ => (pts_one (pt_cmpR (kO K rEqU rfl (op_eqU (hu64 hr))) (pv 4) pe_str (nomark _)))) (fun _ _ _ _ _ => (pe_tup (pa_cons (pv 6) (pa_cons (pv 7) pa_nil)))))
    (pss_cons (ps_expr (pe_bmK (K := K) rfl PySem.F.plainAttrs_list PySem.F.slot_list_extend PySem.F.type_list_extend (kM K rExtU rfl mt_extU) (pe_fldK (K := K) rfl (pv 0)) (pa_cons (pv 3) pa_nil)))
    (pss_cons (ps_expr (pe_bmK (K := K) rfl PySem.F.plainAttrs_list PySem.F.slot_list_extend PySem.F.type_list_extend (kM K rExtU rfl mt_extU) (pe_fldK (K := K) rfl (pv 0)) (pa_cons (pe_lc (own := [("word", 4), ("say", 5), ("tag", 6), ("more", 7)]) (g := (gTup K 4 (gCons (gName 4) (gCons (gName 5) (gCons (gName 6) (gCons (gName 7) gNil)))))) rfl sc_Speaker_done.nd (pi_listK (K := K) rfl (pv 2)) (blkOk_by (own := [("word", 4), ("say", 5), ("tag", 6), ("more", 7)]) (N := nm_Speaker_done) (sc := (defScope st_Speaker_done)) (by decide +kernel)) (fun _ _ _ _ _ => (pg_tupK (K := K) rfl rfl (pgs_cons (pg_name (i := 4) sc_Speaker_done.nd rfl (by first | exact Or.inl rfl | exact Or.inr rfl)) (pgs_cons (pg_name (i := 5) sc_Speaker_done.nd rfl (by first | exact Or.inl rfl | exact Or.inr rfl)) (pgs_cons (pg_name (i := 6) sc_Speaker_done.nd rfl (by first | exact Or.inl rfl | exact Or.inr rfl)) (pgs_cons (pg_name (i := 7) sc_Speaker_done.nd rfl (by first | exact Or.inl rfl | exact Or.inr rfl)) pgs_nil)))))) (fun _ _ _ _ _ => (pts_one (pt_cmpR (kO K rEqU rfl (op_eqU (hu64 hr))) (pv 4) pe_str (nomark _)))) (fun _ _ _ _ _ => (pe_tup (pa_cons (pv 6) (pa_cons (pv 7) pa_nil))))) pa_nil)))
    (pss_one (ps_ret (pv 3))))))))), run_body h fun ⟨dx, s, d⟩ S ⟨⟨hok, hd, hh, hp⟩, _⟩ hl hcl wi => ?_⟩)
  have hok : SpkOk s := hok
  have hd : DeedV d := hd
  have hS : S.A.length = 4 := hl
  have tc := T.cl_Speaker
  have t1 := T.na_state
  have t2 := T.na_deeds
  have t3 := T.na_heard_units
  have t4 := T.na_passed_phrases
  refine se_seq (se_asg ?_)
  refine ee_open ?_
  refine ea_nil ?_
  refine ⟨Nat.zero_le _, ?_⟩
  show SE K S _ [some (.own 0), some (deedD d), some (.own 4), none, none, none, none, none] (spkC 0 a.eSpeaker dx s ++ [.lst []]) _
  refine se_seq (se_fld ?_)
  refine ask_tr0 4 ?_
  walk_at "pf"
  refine cc_len (.own rfl) ?_
  rw [List.length_map]
  walk_at "pf"
  refine ⟨(s.st, s.ds.length, d), rfl, rfl, ⟨hok.ok, hok.n, hd⟩, by show ((stD s.st).lt 0 && (true && ((deedD d).lt 0 && true))) = true; rw [st_cl, deed_cl]; rfl, ?_⟩
  refine ee_var rfl ?_
  refine ⟨0, _, _, _, _, rfl, rfl, T.cl_Speaker, T.na_state, by decide, ?_⟩
  show SE K S _ [some (.own 0), some (deedD d), some (.own 4), none, none, none, none, none] [.obj a.eSpeaker dx nsS [stD (doDeed s.st s.ds.length d).1, .own 1, .own 2, .own 3], .lst (s.ds.map deedD), .lst (s.hu.map huD), .lst (s.pp.map ppD), .lst ((doDeed s.st s.ds.length d).2.map evD)] _
  have hdz : s.ds.length ≤ 9000 := hok.n
  have hap : ∀ {F0 : Cn}, addD s.ds d = s.ds ++ [d] → F0.nx [some (.own 0), some (deedD d), some (.own 4), none, none, none, none, none] [.obj a.eSpeaker dx nsS [stD (doDeed s.st s.ds.length d).1, .own 1, .own 2, .own 3], .lst ((addD s.ds d).map deedD), .lst (s.hu.map huD), .lst (s.pp.map ppD), .lst ((doDeed s.st s.ds.length d).2.map evD)] → EE K S (tBM K "list" rAppend (tFld K (tVar 0) "deeds") (tCons (tCall (spCopied K 6) [] E (tCons (tVar 1) tNil)) tNil)) [some (.own 0), some (deedD d), some (.own 4), none, none, none, none, none] [.obj a.eSpeaker dx nsS [stD (doDeed s.st s.ds.length d).1, .own 1, .own 2, .own 3], .lst (s.ds.map deedD), .lst (s.hu.map huD), .lst (s.pp.map ppD), .lst ((doDeed s.st s.ds.length d).2.map evD)] (fun _ m => F0.nx [some (.own 0), some (deedD d), some (.own 4), none, none, none, none, none] m) := fun e q => by
    refine ee_bm ?_
    walk_at "pf"
    refine ⟨.lst (.own rfl), ?_⟩
    refine ea_cons (ee_cz ?_)
    walk_at "pf"
    refine ⟨deedD d, deed_sok hd.w, rfl, by show ((deedD d).lt 0 && true) = true; rw [deed_cl]; rfl, ?_⟩
    rintro x rfl
    refine ea_nil ?_
    refine mm_append rfl (by rw [List.length_map]; omega) ?_
    rw [e, List.map_append] at q
    exact q
  refine se_seq (se_mid [some (.own 0), some (deedD d), some (.own 4), none, none, none, none, none] [.obj a.eSpeaker dx nsS [stD (doDeed s.st s.ds.length d).1, .own 1, .own 2, .own 3], .lst ((addD s.ds d).map deedD), .lst (s.hu.map huD), .lst (s.pp.map ppD), .lst ((doDeed s.st s.ds.length d).2.map evD)] ?_ ?_)
  · cases d with
    | tick k =>
      refine se_if ?_
      walk_at "pf"
      refine cc_len (.own rfl) ?_
      walk_at "pf"
      refine ⟨fun h0 => ?_, fun h0 => ?_⟩
      · have h0 : 0 < s.ds.length := by
          have := of_decide_eq_true h0
          rw [List.length_map] at this
          omega
        obtain ⟨x, hx⟩ : ∃ x, s.ds[s.ds.length - 1]? = some x := ⟨_, List.getElem?_eq_getElem (by omega)⟩
        walk_at "pf"
        refine oo_ixO rfl (at_last hx) ?_
        cases x with
        | tick m =>
          walk_at "pf"
          refine se_asgG ?_
          walk_at "pf"
          refine oo_ixO rfl (at_last hx) ?_
          walk_at "pf"
          refine ge_setL ?_
          walk_at "pf"
          refine ⟨1, -1, s.ds.length - 1, _, rfl, rfl, rfl, by rw [List.length_map]; exact ix_last h0, rfl, ?_⟩
          have e : deedD (.tick (m + k)) = .tup [.str (Str.ofString "tick"), .int ((m : Int) + (k : Int))] := by
            show D.tup [_, .int ((m + k : Nat) : Int)] = _
            rw [Int.natCast_add]
          rw [add_yes hx, List.map_set, e]
          rfl
        | say r ps g => walk_at "pf"; refine hap (add_no2 hx rfl) ?_; exact ⟨rfl, rfl⟩
        | drop g => walk_at "pf"; refine hap (add_no2 hx rfl) ?_; exact ⟨rfl, rfl⟩
        | hold => walk_at "pf"; refine hap (add_no2 hx rfl) ?_; exact ⟨rfl, rfl⟩
        | go => walk_at "pf"; refine hap (add_no2 hx rfl) ?_; exact ⟨rfl, rfl⟩
        | stop => walk_at "pf"; refine hap (add_no2 hx rfl) ?_; exact ⟨rfl, rfl⟩
      · have h0 : s.ds.length = 0 := by
          have := of_decide_eq_false h0
          rw [List.length_map] at this
          omega
        have h0 := List.length_eq_zero_iff.mp h0
        walk_at "pf"
        refine hap (by rw [h0]; rfl) ?_
        exact ⟨rfl, rfl⟩
    | say r ps g => refine se_if ?_; walk_at "pf"; refine hap (add_no rfl) ?_; exact ⟨rfl, rfl⟩
    | drop g => refine se_if ?_; walk_at "pf"; refine hap (add_no rfl) ?_; exact ⟨rfl, rfl⟩
    | hold => refine se_if ?_; walk_at "pf"; refine hap (add_no rfl) ?_; exact ⟨rfl, rfl⟩
    | go => refine se_if ?_; walk_at "pf"; refine hap (add_no rfl) ?_; exact ⟨rfl, rfl⟩
    | stop => refine se_if ?_; walk_at "pf"; refine hap (add_no rfl) ?_; exact ⟨rfl, rfl⟩
  have hev : (doDeed s.st s.ds.length d).2.length ≤ 100000 := Nat.le_trans (do_len hok.ok hdz hd) (by decide)
  have lc : ∀ {k : String} {x3 : Option D} {C : D → List Cell → Prop} {hu' : List (Str × Str)}, C (.lst ((((doDeed s.st s.ds.length d).2.map evD).filter (evF k)).map evG)) [.obj a.eSpeaker dx nsS [stD (doDeed s.st s.ds.length d).1, .own 1, .own 2, .own 3], .lst ((addD s.ds d).map deedD), .lst (hu'.map huD), .lst (s.pp.map ppD), .lst ((doDeed s.st s.ds.length d).2.map evD)] → EE K S (tLc (iList K (tVar 2)) (gTup K 4 (gCons (gName 4) (gCons (gName 5) (gCons (gName 6) (gCons (gName 7) gNil))))) (tTest (tOp (rEqU K) (tVar 4) (tC (.str (Str.ofString k))))) (tTup (tCons (tVar 6) (tCons (tVar 7) tNil))) [4, 5, 6, 7]) [some (.own 0), some (deedD d), some (.own 4), x3, none, none, none, none] [.obj a.eSpeaker dx nsS [stD (doDeed s.st s.ds.length d).1, .own 1, .own 2, .own 3], .lst ((addD s.ds d).map deedD), .lst (hu'.map huD), .lst (s.pp.map ppD), .lst ((doDeed s.st s.ds.length d).2.map evD)] C := fun {k x3 C hu'} hC => by
    refine ee_lc (ie_own ?_)
    refine ee_var rfl ?_
    refine ⟨4, _, rfl, rfl, fun c h => rfl, rfl, evF k, evG, by rw [List.length_map]; omega, fun x hx _ => ?_, fun x acc hx => ?_, hC⟩
    · obtain ⟨e, _, rfl⟩ := List.mem_map.mp hx
      cases e <;> rfl
    · obtain ⟨e, _, rfl⟩ := List.mem_map.mp hx
      cases e with
      | cut n g p u => refine gw_four (by decide) (by decide) (by decide) (by decide) ?_; walk_at "pq"; refine ⟨rfl, rfl, fun _ => ?_⟩; walk_at "pq"; exact ⟨rfl, rfl⟩
      | out n g => refine gw_four (by decide) (by decide) (by decide) (by decide) ?_; walk_at "pq"; refine ⟨rfl, rfl, fun _ => ?_⟩; walk_at "pq"; exact ⟨rfl, rfl⟩
      | heard n g u => refine gw_four (by decide) (by decide) (by decide) (by decide) ?_; walk_at "pq"; refine ⟨rfl, rfl, fun _ => ?_⟩; walk_at "pq"; exact ⟨rfl, rfl⟩
      | passed n g p => refine gw_four (by decide) (by decide) (by decide) (by decide) ?_; walk_at "pq"; refine ⟨rfl, rfl, fun _ => ?_⟩; walk_at "pq"; exact ⟨rfl, rfl⟩
      | done n g => refine gw_four (by decide) (by decide) (by decide) (by decide) ?_; walk_at "pq"; refine ⟨rfl, rfl, fun _ => ?_⟩; walk_at "pq"; exact ⟨rfl, rfl⟩
  refine se_seq (se_asg (lc (k := "heard") ?_))
  rw [heard_of]
  show SE K S _ [some (.own 0), some (deedD d), some (.own 4), some (.lst ((heardE (doDeed s.st s.ds.length d).2).map huD)), none, none, none, none] [.obj a.eSpeaker dx nsS [stD (doDeed s.st s.ds.length d).1, .own 1, .own 2, .own 3], .lst ((addD s.ds d).map deedD), .lst (s.hu.map huD), .lst (s.pp.map ppD), .lst ((doDeed s.st s.ds.length d).2.map evD)] _
  refine se_seq (se_drop (ee_bm ?_))
  walk_at "pf"
  refine ⟨.lst (.own rfl), ?_⟩
  walk_at "pf"
  have hh : s.hu.length ≤ 90000 := hh
  have hp : s.pp.length ≤ 90000 := hp
  have h1 := @heardE_len (doDeed s.st s.ds.length d).2
  have h2 := @passedE_len (doDeed s.st s.ds.length d).2
  refine mm_extU rfl (by rw [List.length_map, List.length_map]; omega) ?_
  rw [← List.map_append]
  show SE K S _ [some (.own 0), some (deedD d), some (.own 4), some (.lst ((heardE (doDeed s.st s.ds.length d).2).map huD)), none, none, none, none] [.obj a.eSpeaker dx nsS [stD (doDeed s.st s.ds.length d).1, .own 1, .own 2, .own 3], .lst ((addD s.ds d).map deedD), .lst ((s.hu ++ heardE (doDeed s.st s.ds.length d).2).map huD), .lst (s.pp.map ppD), .lst ((doDeed s.st s.ds.length d).2.map evD)] _
  refine se_seq (se_drop (ee_bm ?_))
  walk_at "pf"
  refine ⟨.lst (.own rfl), ?_⟩
  refine ea_cons (lc (k := "passed") ?_)
  rw [passed_of]
  refine ea_nil ?_
  refine mm_extU rfl (by rw [List.length_map, List.length_map]; omega) ?_
  rw [← List.map_append]
  refine se_ret (ee_var rfl ?_)
  have g : Gave S (fun d1 μ => d1 = .lst ((doneH s d).map huD) ∧ d1.lt 0 = true ∧ μ = spkC 0 a.eSpeaker dx (doneS s d)) (.lst ((doneH s d).map huD)) (spkC 0 a.eSpeaker dx (doneS s d) ++ [.lst ((doDeed s.st s.ds.length d).2.map evD)]) := gave (by rw [hS]; exact hus_cl) (by rw [hS]; exact spk_lt (show 3 < 4 by decide)) (by rw [hS]; exact ⟨rfl, hus_cl, rfl⟩)
  exact g
end


section
variable {P : Program} {w : World} {K : PySem.W.Frag} {mg : Str → Option Value} {base : Heap} {a : Ad} {f : Addr} {fd : FuncData}
local macro_rules | `(tactic| walk_at "pf") => `(tactic| repeat (first | walk_at "p1" | (with_reducible refine ee_fldS (ns := nsS) (f := Str.ofString "state") (by with_unfolding_all rfl) (by with_unfolding_all rfl) (by assumption) (by assumption) (by with_unfolding_all exact f_st) ?_) | (with_reducible refine ee_fldS (ns := nsS) (f := Str.ofString "deeds") (by with_unfolding_all rfl) (by with_unfolding_all rfl) (by assumption) (by assumption) (by with_unfolding_all exact f_ds) ?_) | (with_reducible refine ee_fldS (ns := nsS) (f := Str.ofString "heard_units") (by with_unfolding_all rfl) (by with_unfolding_all rfl) (by assumption) (by assumption) (by with_unfolding_all exact f_hu) ?_) | (with_reducible refine ee_fldS (ns := nsS) (f := Str.ofString "passed_phrases") (by with_unfolding_all rfl) (by with_unfolding_all rfl) (by assumption) (by assumption) (by with_unfolding_all exact f_pp) ?_) | (refine oo_ixT rfl ?_)))
def Few (s : Spk) : Prop := s.hu.length ≤ 90000 ∧ s.pp.length ≤ 90000
abbrev clD1 (d : D) : Prop := d.lt 0 = true
theorem ut_cl {r : Nat} {ps : List (List Str)} {g : Str} {m : Nat} : (utD r ps g).lt m = true := by
  show (true && (D.ltL m (ps.map phL) && (true && true))) = true
  rw [phs_cl]
  rfl
abbrev argUt3 (t : Nat × List (List Str) × Str) : List D := [utD t.1 t.2.1 t.2.2]
abbrev sayT (t : Nat × List (List Str) × Str) : Deed := .say t.1 t.2.1 t.2.2
abbrev spSayM (K : PySem.W.Frag) (c : Addr) : Sp := spOn K c argUt3 (fun s t => SpkOk s ∧ UttOk t.1 t.2.1 t.2.2 ∧ Few s) (fun s t => doneS s (sayT t)) (fun _ _ => .non)
theorem deed1_cl {d : Deed} : D.ltL 0 [deedD d] = true := by
  show ((deedD d).lt 0 && true) = true
  rw [deed_cl]
  rfl
/-- what a method of the speaker leaves, when it gives back a closed thing -/
theorem gave_spk {S : Bs} {c dx : Addr} {s : Spk} {d : D} {r : List Cell} (hS : S.A.length = 4) (h : d.lt 0 = true) : Gave S (fun d1 μ => d1 = d ∧ d1.lt 0 = true ∧ μ = spkC 0 c dx s) d (spkC 0 c dx s ++ r) := by
  have e : (spkC 0 c dx s ++ r).take S.A.length = spkC 0 c dx s := by
    rw [hS]
    rfl
  exact gave (D.lt_mono (Nat.zero_le _) h) (by rw [e, hS]; exact spk_lt (show 3 < 4 by decide)) (by rw [e]; exact ⟨rfl, h, rfl⟩)
abbrev st_Speaker_say : Stmt := inClass (top 30) 2
abbrev nm_Speaker_say : List Str := ["self", "utterance"]
theorem sc_Speaker_say : FnScope nm_Speaker_say ["self", "utterance"] (defScope st_Speaker_say) := ⟨rfl, rfl, rfl, by decide +kernel, rfl, by decide +kernel, by decide +kernel⟩
theorem ok_say (F : Fun K "say" "Speaker.say" st_Speaker_say f fd) (T : Tx P w K mg base a) (c_is_utterance_object : CalX P w K mg base 4 "is_utterance_object" ["value"] (spUtt K)) (m_done : CalM P w K mg base 8 a.eSpeaker "done" ["self", "deed"] (spDone K a.eSpeaker)) : FnOk P w K mg base (L2.CX P w) 9 f fd ["self", "utterance"] (spSayM K a.eSpeaker) := by
  refine F.okX sc_Speaker_say (fun vs H Q E h => pro_len h fun _ => rfl) (fun cdv A outer s H vs Q E hr h => ⟨_, (pss_cons (ps_if (pt_not (pt_val (pe_c c_is_utterance_object hr (by first | decide | exact Nat.le_refl _) rfl (passes_call (takes_of rfl rfl rfl rfl) (fun _ _ _ _ h => h)) (pa_cons (pv 1) pa_nil)))) (pss_one (ps_raiseC rfl T.e_InvalidUtterance hr (by decide) (takes_of rfl rfl rfl rfl) rfl (pa_cons (pv 1) pa_nil))) pss_nil)
    (pss_one (ps_expr (pe_m m_done hr (by first | decide | exact Nat.le_refl _) (passes_call (takes_of rfl rfl rfl rfl) (fun _ _ _ _ h => h)) (pv 0) (pa_cons (pe_tup (pa_cons pe_str (pa_cons (pv 1) pa_nil))) pa_nil))))), run_body h fun ⟨dx, s, r, ps, g⟩ S ⟨⟨hok, hu, hf⟩, _⟩ hl hcl wi => ?_⟩)
  have hok : SpkOk s := hok
  have hu : UttOk r ps g := hu
  have hf : Few s := hf
  have hS : S.A.length = 4 := hl
  walk_at "pf"
  refine ee_cz ?_
  walk_at "pf"
  refine ⟨(r, ps, g), hu, rfl, by show ((utD r ps g).lt 0 && true) = true; rw [ut_cl]; rfl, ?_⟩
  rintro d rfl
  walk_at "pf"
  refine ask_m 0 [] [] rfl (List.append_nil _).symm rfl (by decide) ?_
  walk_at "pf"
  refine ⟨.say r ps g, [], [], dx, s, rfl, (List.append_nil _).symm, rfl, ⟨hok, hu, hf.1, hf.2⟩, deed1_cl, ?_⟩
  walk_at "gp"
  exact gave_spk hS rfl
abbrev spTickM (K : PySem.W.Frag) (c : Addr) : Sp := spOn K c (T := Nat) (fun k => [intD k]) (fun s k => SpkOk s ∧ (1 ≤ k ∧ k ≤ 1000) ∧ Few s) (fun s k => doneS s (.tick k)) (fun s k => .lst ((doneH s (.tick k)).map huD))
abbrev st_Speaker_tick : Stmt := inClass (top 30) 3
abbrev nm_Speaker_tick : List Str := ["self", "many"]
theorem sc_Speaker_tick : FnScope nm_Speaker_tick ["self", "many"] (defScope st_Speaker_tick) := ⟨rfl, rfl, rfl, by decide +kernel, rfl, by decide +kernel, by decide +kernel⟩
theorem ok_tickM (F : Fun K "tick" "Speaker.tick" st_Speaker_tick f fd) (T : Tx P w K mg base a) (c_is_count : CalX P w K mg base 2 "is_count" ["value", "least"] (spCount K)) (m_done : CalM P w K mg base 8 a.eSpeaker "done" ["self", "deed"] (spDone K a.eSpeaker)) : FnOk P w K mg base (L2.CX P w) 9 f fd ["self", "many"] (spTickM K a.eSpeaker) := by
  refine F.okX sc_Speaker_tick (fun vs H Q E h => pro_len h fun _ => rfl) (fun cdv A outer s H vs Q E hr h => ⟨_, (pss_cons (ps_if (PW.pt (pw_or (pt_not (pt_val (pe_c c_is_count hr (by first | decide | exact Nat.le_refl _) rfl (passes_call (takes_of rfl rfl rfl rfl) (fun _ _ _ _ h => h)) (pa_cons (pv 1) (pa_cons pe_int pa_nil))))) (pw_or1 (pt_cmpR op_gt (pv 1) pe_int (nomark _))))) (pss_one (ps_raiseC rfl T.e_InvalidCount hr (by decide) (takes_of rfl rfl rfl rfl) rfl (pa_cons (pv 1) pa_nil))) pss_nil)
    (pss_one (ps_ret (pe_m m_done hr (by first | decide | exact Nat.le_refl _) (passes_call (takes_of rfl rfl rfl rfl) (fun _ _ _ _ h => h)) (pv 0) (pa_cons (pe_tup (pa_cons pe_str (pa_cons (pv 1) pa_nil))) pa_nil))))), run_body h fun ⟨dx, s, k⟩ S ⟨⟨hok, hk, hf⟩, _⟩ hl hcl wi => ?_⟩)
  have hok : SpkOk s := hok
  have hk : 1 ≤ k ∧ k ≤ 1000 := hk
  have hf : Few s := hf
  have hS : S.A.length = 4 := hl
  walk_at "pf"
  refine ee_cz ?_
  walk_at "pf"
  refine ⟨(intD k, 1), ⟨rfl, rfl⟩, rfl, rfl, ?_⟩
  rintro d rfl
  have e1 : isCtN 1 (intD k) = true := decide_eq_true (by show (1 : Int) ≤ (k : Int); omega)
  have e2 : decide ((1000 : Int) < (k : Int)) = false := decide_eq_false (by omega)
  walk_at "pf"
  refine ⟨fun h => absurd h (by rw [show isCtN (intD k, 1).2 (intD k, 1).1 = true from e1]; decide), fun _ => ?_⟩
  walk_at "pf"
  refine ⟨fun h => absurd (show decide ((1000 : Int) < (k : Int)) = true from h) (by rw [e2]; decide), fun _ => ?_⟩
  walk_at "pf"
  refine ask_m 0 [] [] rfl (List.append_nil _).symm rfl (by decide) ?_
  walk_at "pf"
  refine ⟨.tick k, [], [], dx, s, rfl, (List.append_nil _).symm, rfl, ⟨hok, ⟨hk.1, Nat.le_trans hk.2 (by decide)⟩, hf.1, hf.2⟩, deed1_cl, ?_⟩
  exact gave_spk hS hus_cl
abbrev spBare (K : PySem.W.Frag) (c : Addr) (pre : Spk → Prop) (tr : Spk → Spk) (res : Spk → D) : Sp := spOn K c (T := Unit) (fun _ => []) (fun s _ => pre s) (fun s _ => tr s) (fun s _ => res s)
abbrev st_Speaker_hold : Stmt := inClass (top 30) 4
abbrev nm_Speaker_hold : List Str := ["self"]
theorem sc_Speaker_hold : FnScope nm_Speaker_hold ["self"] (defScope st_Speaker_hold) := ⟨rfl, rfl, rfl, by decide +kernel, rfl, by decide +kernel, by decide +kernel⟩
theorem ok_hold (F : Fun K "hold" "Speaker.hold" st_Speaker_hold f fd) (T : Tx P w K mg base a) (m_done : CalM P w K mg base 8 a.eSpeaker "done" ["self", "deed"] (spDone K a.eSpeaker)) : FnOk P w K mg base (L2.CX P w) 9 f fd ["self"] (spBare K a.eSpeaker (fun s => SpkOk s ∧ Few s) (fun s => doneS s .hold) fun _ => .non) := by
  refine F.okX sc_Speaker_hold (fun vs H Q E h => pro_len h fun _ => rfl) (fun cdv A outer s H vs Q E hr h => ⟨_, (pss_one (ps_expr (pe_m m_done hr (by first | decide | exact Nat.le_refl _) (passes_call (takes_of rfl rfl rfl rfl) (fun _ _ _ _ h => h)) (pv 0) (pa_cons (pe_tup (pa_cons pe_str pa_nil)) pa_nil)))), run_body h fun ⟨dx, s, _⟩ S ⟨⟨hok, hf⟩, _⟩ hl hcl wi => ?_⟩)
  have hok : SpkOk s := hok
  have hf : Few s := hf
  have hS : S.A.length = 4 := hl
  walk_at "pf"
  refine ask_m 0 [] [] rfl (List.append_nil _).symm rfl (by decide) ?_
  walk_at "pf"
  refine ⟨.hold, [], [], dx, s, rfl, (List.append_nil _).symm, rfl, ⟨hok, trivial, hf.1, hf.2⟩, deed1_cl, ?_⟩
  walk_at "gp"
  exact gave_spk hS rfl
abbrev st_Speaker_go_on : Stmt := inClass (top 30) 5
abbrev nm_Speaker_go_on : List Str := ["self"]
theorem sc_Speaker_go_on : FnScope nm_Speaker_go_on ["self"] (defScope st_Speaker_go_on) := ⟨rfl, rfl, rfl, by decide +kernel, rfl, by decide +kernel, by decide +kernel⟩
theorem ok_go (F : Fun K "go_on" "Speaker.go_on" st_Speaker_go_on f fd) (T : Tx P w K mg base a) (m_done : CalM P w K mg base 8 a.eSpeaker "done" ["self", "deed"] (spDone K a.eSpeaker)) : FnOk P w K mg base (L2.CX P w) 9 f fd ["self"] (spBare K a.eSpeaker (fun s => SpkOk s ∧ Few s) (fun s => doneS s .go) fun _ => .non) := by
  refine F.okX sc_Speaker_go_on (fun vs H Q E h => pro_len h fun _ => rfl) (fun cdv A outer s H vs Q E hr h => ⟨_, (pss_one (ps_expr (pe_m m_done hr (by first | decide | exact Nat.le_refl _) (passes_call (takes_of rfl rfl rfl rfl) (fun _ _ _ _ h => h)) (pv 0) (pa_cons (pe_tup (pa_cons pe_str pa_nil)) pa_nil)))), run_body h fun ⟨dx, s, _⟩ S ⟨⟨hok, hf⟩, _⟩ hl hcl wi => ?_⟩)
  have hok : SpkOk s := hok
  have hf : Few s := hf
  have hS : S.A.length = 4 := hl
  walk_at "pf"
  refine ask_m 0 [] [] rfl (List.append_nil _).symm rfl (by decide) ?_
  walk_at "pf"
  refine ⟨.go, [], [], dx, s, rfl, (List.append_nil _).symm, rfl, ⟨hok, trivial, hf.1, hf.2⟩, deed1_cl, ?_⟩
  walk_at "gp"
  exact gave_spk hS rfl
end


section
variable {P : Program} {w : World} {K : PySem.W.Frag} {mg : Str → Option Value} {base : Heap} {a : Ad} {f : Addr} {fd : FuncData}
local macro_rules | `(tactic| walk_at "pf") => `(tactic| repeat (first | walk_at "p1" | (with_reducible refine ee_fldS (ns := nsS) (f := Str.ofString "state") (by with_unfolding_all rfl) (by with_unfolding_all rfl) (by assumption) (by assumption) (by with_unfolding_all exact f_st) ?_) | (with_reducible refine ee_fldS (ns := nsS) (f := Str.ofString "deeds") (by with_unfolding_all rfl) (by with_unfolding_all rfl) (by assumption) (by assumption) (by with_unfolding_all exact f_ds) ?_) | (with_reducible refine ee_fldS (ns := nsS) (f := Str.ofString "heard_units") (by with_unfolding_all rfl) (by with_unfolding_all rfl) (by assumption) (by assumption) (by with_unfolding_all exact f_hu) ?_) | (with_reducible refine ee_fldS (ns := nsS) (f := Str.ofString "passed_phrases") (by with_unfolding_all rfl) (by with_unfolding_all rfl) (by assumption) (by assumption) (by with_unfolding_all exact f_pp) ?_) | (refine oo_ixT rfl ?_)))
/-- what is said of a thing that stands -/
abbrev spUtOf (K : PySem.W.Frag) : Sp := ProP K (T := Th) (fun t => [thD t]) (fun t => OkT t) (fun t r => r = utD t.rank t.phs t.tag) (fun _ _ _ => False)
def phOfT : D → D
  | .tup l => .lst l
  | d => d
abbrev st_utterance_of : Stmt := top 20
abbrev nm_utterance_of : List Str := ["thing", "phrase"]
theorem sc_utterance_of : FnScope nm_utterance_of ["thing"] (defScope st_utterance_of) := ⟨rfl, rfl, rfl, by decide +kernel, rfl, by decide +kernel, by decide +kernel⟩
theorem ok_utterance_of (F : Fun K "utterance_of" "utterance_of" st_utterance_of f fd) (T : Tx P w K mg base a) : FnOk P w K mg base (L2.CX P w) 1 f fd ["thing"] (spUtOf K) := by
  refine F.okX sc_utterance_of (fun vs H Q E h => pro_len h fun _ => rfl) (fun cdv A outer s H vs Q E hr h => ⟨_, (pss_one (ps_ret (pe_tup (pa_cons (pe_ix (kX K rIx rfl ix_seq) (pv 0) pe_int (fun _ _ => rfl)) (pa_cons (pe_lc (own := [("phrase", 1)]) (tt := tYes) (g := (gName 1)) rfl sc_utterance_of.nd (pi_tupK (K := K) rfl (pe_ix (kX K rIx rfl ix_seq) (pv 0) pe_int (fun _ _ => rfl))) (blkOk_by (own := [("phrase", 1)]) (N := nm_utterance_of) (sc := (defScope st_utterance_of)) (by decide +kernel)) (fun _ _ _ _ _ => (pg_name (i := 1) sc_utterance_of.nd rfl (by first | exact Or.inl rfl | exact Or.inr rfl))) (fun _ _ _ _ _ => pts_nil) (fun _ _ _ _ _ => (pe_callTy (kC K rListOf rfl call_listOf) (by rfl) T.b_list (by decide +kernel) (pa_cons (pv 1) pa_nil)))) (pa_cons (pe_ix (kX K rIx rfl ix_seq) (pv 0) pe_int (fun _ _ => rfl)) pa_nil)))))), run_body h fun t S ht hl hcl wi => ?_⟩)
  have ht : OkT t := ht
  have hl : S.A.length = 0 := hl
  obtain ⟨z1, z2⟩ := len_phs ⟨(by intro e; have := ht.ph; rw [e] at this; exact absurd this (Nat.not_lt_zero _)), ht.ne, ht.sz⟩
  walk_at "pf"
  refine ee_lc (ie_tup ?_)
  walk_at "pf"
  refine ⟨fun _ h => h, trivial, fun _ => true, phOfT, by rw [List.length_map]; omega, fun x hx _ => ?_, fun x acc hx => ?_, ?_⟩
  · obtain ⟨p, _, rfl⟩ := List.mem_map.mp hx
    exact strs_cl
  · obtain ⟨p, hp, rfl⟩ := List.mem_map.mp hx
    refine gw_name (by decide) ?_
    walk_at "pf"
    refine ⟨rfl, rfl, fun _ => ?_⟩
    walk_at "pf"
    exact cc_list (.tup _) ⟨rfl, rfl⟩
  · have e : (((t.phs.map phT).filter fun _ => true).map phOfT) = t.phs.map phL := by
      rw [List.filter_eq_self.mpr fun _ _ => rfl, List.map_map]
      rfl
    rw [e]
    walk_at "pf"
    walk_at "gp"
    exact gaveP hl (by show (true && (D.ltL 0 (t.phs.map phL) && (true && true))) = true; rw [phs_cl]; rfl) rfl
end


section
variable {P : Program} {w : World} {K : PySem.W.Frag} {mg : Str → Option Value} {base : Heap} {a : Ad} {f : Addr} {fd : FuncData}
local macro_rules | `(tactic| walk_at "pf") => `(tactic| repeat (first | walk_at "p1" | (with_reducible refine ee_fldS (ns := nsS) (f := Str.ofString "state") (by with_unfolding_all rfl) (by with_unfolding_all rfl) (by assumption) (by assumption) (by with_unfolding_all exact f_st) ?_) | (with_reducible refine ee_fldS (ns := nsS) (f := Str.ofString "deeds") (by with_unfolding_all rfl) (by with_unfolding_all rfl) (by assumption) (by assumption) (by with_unfolding_all exact f_ds) ?_) | (with_reducible refine ee_fldS (ns := nsS) (f := Str.ofString "heard_units") (by with_unfolding_all rfl) (by with_unfolding_all rfl) (by assumption) (by assumption) (by with_unfolding_all exact f_hu) ?_) | (with_reducible refine ee_fldS (ns := nsS) (f := Str.ofString "passed_phrases") (by with_unfolding_all rfl) (by with_unfolding_all rfl) (by assumption) (by assumption) (by with_unfolding_all exact f_pp) ?_) | (refine oo_ixT rfl ?_)))
abbrev spHeard (K : PySem.W.Frag) (c : Addr) : Sp := spBare K c SpkOk (fun s => s) fun s => .lst (s.hu.map huD)
abbrev st_Speaker_heard : Stmt := inClass (top 30) 11
abbrev nm_Speaker_heard : List Str := ["self"]
theorem sc_Speaker_heard : FnScope nm_Speaker_heard ["self"] (defScope st_Speaker_heard) := ⟨rfl, rfl, rfl, by decide +kernel, rfl, by decide +kernel, by decide +kernel⟩
theorem ok_heardM (F : Fun K "heard" "Speaker.heard" st_Speaker_heard f fd) (T : Tx P w K mg base a) : FnOk P w K mg base (L2.CX P w) 1 f fd ["self"] (spHeard K a.eSpeaker) := by
  refine F.okX sc_Speaker_heard (fun vs H Q E h => pro_len h fun _ => rfl) (fun cdv A outer s H vs Q E hr h => ⟨_, (pss_one (ps_ret (pe_callTy (kC K rListOf rfl call_listOf) (by rfl) T.b_list (by decide +kernel) (pa_cons (pe_fldK (K := K) rfl (pv 0)) pa_nil)))), run_body h fun ⟨dx, s, _⟩ S ⟨hok, _⟩ hl hcl wi => ?_⟩)
  have hS : S.A.length = 4 := hl
  have tc := T.cl_Speaker
  have t3 := T.na_heard_units
  walk_at "pf"
  refine cc_list (.own rfl) ?_
  have g := gave_spk (c := a.eSpeaker) (dx := dx) (s := s) (r := []) hS (d := .lst (s.hu.map huD)) hus_cl
  rw [List.append_nil] at g
  exact g
abbrev spPassed (K : PySem.W.Frag) (c : Addr) : Sp := spBare K c SpkOk (fun s => s) fun s => .lst (s.pp.map ppD)
abbrev st_Speaker_passed : Stmt := inClass (top 30) 12
abbrev nm_Speaker_passed : List Str := ["self"]
theorem sc_Speaker_passed : FnScope nm_Speaker_passed ["self"] (defScope st_Speaker_passed) := ⟨rfl, rfl, rfl, by decide +kernel, rfl, by decide +kernel, by decide +kernel⟩
theorem ok_passedM (F : Fun K "passed" "Speaker.passed" st_Speaker_passed f fd) (T : Tx P w K mg base a) : FnOk P w K mg base (L2.CX P w) 1 f fd ["self"] (spPassed K a.eSpeaker) := by
  refine F.okX sc_Speaker_passed (fun vs H Q E h => pro_len h fun _ => rfl) (fun cdv A outer s H vs Q E hr h => ⟨_, (pss_one (ps_ret (pe_callTy (kC K rListOf rfl call_listOf) (by rfl) T.b_list (by decide +kernel) (pa_cons (pe_fldK (K := K) rfl (pv 0)) pa_nil)))), run_body h fun ⟨dx, s, _⟩ S ⟨hok, _⟩ hl hcl wi => ?_⟩)
  have hS : S.A.length = 4 := hl
  have tc := T.cl_Speaker
  have t3 := T.na_passed_phrases
  walk_at "pf"
  refine cc_list (.own rfl) ?_
  have g := gave_spk (c := a.eSpeaker) (dx := dx) (s := s) (r := []) hS (d := .lst (s.pp.map ppD)) pps_cl
  rw [List.append_nil] at g
  exact g
/-- what is said, and what of it was heard -/
def saidR (s : Spk) : D := match s.st.said with
  | none => .non
  | some t => .tup [utD t.rank t.phs t.tag, .tup [intD t.ph, intD t.un]]
abbrev spSaidM (K : PySem.W.Frag) (c : Addr) : Sp := spBare K c SpkOk (fun s => s) saidR
abbrev st_Speaker_said : Stmt := inClass (top 30) 8
abbrev nm_Speaker_said : List Str := ["self", "thing"]
theorem sc_Speaker_said : FnScope nm_Speaker_said ["self"] (defScope st_Speaker_said) := ⟨rfl, rfl, rfl, by decide +kernel, rfl, by decide +kernel, by decide +kernel⟩
theorem ok_saidM (F : Fun K "said" "Speaker.said" st_Speaker_said f fd) (T : Tx P w K mg base a) (c_utterance_of : CalX P w K mg base 1 "utterance_of" ["thing"] (spUtOf K)) : FnOk P w K mg base (L2.CX P w) 2 f fd ["self"] (spSaidM K a.eSpeaker) := by
  refine F.okX sc_Speaker_said (fun vs H Q E h => pro_len h fun _ => rfl) (fun cdv A outer s H vs Q E hr h => ⟨_, (pss_cons (ps_set (i := 1) sc_Speaker_said.nd rfl (by first | exact Or.inl rfl | exact Or.inr rfl) (pe_ix (kX K rIx rfl ix_seq) (pe_fldK (K := K) rfl (pv 0)) pe_int (fun _ _ => rfl)))
    (pss_one (ps_ret (pe_ifExp (pt_cmpR op_isN (pv 1) pe_non (nomark _)) pe_non (pe_tup (pa_cons (pe_c c_utterance_of hr (by first | decide | exact Nat.le_refl _) rfl (passes_call (takes_of rfl rfl rfl rfl) (fun _ _ _ _ h => h)) (pa_cons (pv 1) pa_nil)) (pa_cons (pe_tup (pa_cons (pe_ix (kX K rIx rfl ix_seq) (pv 1) pe_int (fun _ _ => rfl)) (pa_cons (pe_ix (kX K rIx rfl ix_seq) (pv 1) pe_int (fun _ _ => rfl)) pa_nil))) pa_nil))))))), run_body h fun ⟨dx, ⟨⟨sd, wt, hh, sp⟩, ds, hu, pp⟩, _⟩ S ⟨hok, _⟩ hl hcl wi => ?_⟩)
  have hS : S.A.length = 4 := hl
  have hok : SpkOk ⟨⟨sd, wt, hh, sp⟩, ds, hu, pp⟩ := hok
  have tc := T.cl_Speaker
  have t1 := T.na_state
  cases sd with
  | none =>
    walk_at "pf"
    have g := gave_spk (c := a.eSpeaker) (dx := dx) (s := ⟨⟨none, wt, hh, sp⟩, ds, hu, pp⟩) (r := []) hS (d := .non) rfl
    rw [List.append_nil] at g
    exact g
  | some t =>
    have ht : OkT t := (hok.ok.said rfl).1
    walk_at "pf"
    refine ee_cz ?_
    walk_at "pf"
    refine ⟨t, ht, rfl, by show ((thD t).lt 0 && true) = true; rw [th_cl]; rfl, ?_⟩
    rintro d rfl
    walk_at "pf"
    have g := gave_spk (c := a.eSpeaker) (dx := dx) (s := ⟨⟨some t, wt, hh, sp⟩, ds, hu, pp⟩) (r := []) hS (d := .tup [utD t.rank t.phs t.tag, .tup [intD t.ph, intD t.un]]) (by show ((utD t.rank t.phs t.tag).lt 0 && true) = true; rw [ut_cl]; rfl)
    rw [List.append_nil] at g
    exact g
def waitR (t : Th) : D := .tup [utD t.rank t.phs t.tag, intD t.ph]
abbrev spWaitM (K : PySem.W.Frag) (c : Addr) : Sp := spBare K c SpkOk (fun s => s) fun s => .lst (s.st.wt.map waitR)
theorem wait_cl {m : Nat} {l : List Th} : D.ltL m (l.map waitR) = true := D.ltL_all.mpr fun x hx => by
  obtain ⟨t, _, rfl⟩ := List.mem_map.mp hx
  show ((utD t.rank t.phs t.tag).lt m && (true && true)) = true
  rw [ut_cl]
  rfl
/-- the utterance out of a thing as it lies -/
def waitD : D → D
  | .tup [_, r, .tup ps, g, ph, _] => .tup [.tup [r, .lst (ps.map phOfT), g], ph]
  | d => d
theorem waitD_th {t : Th} : waitD (thD t) = waitR t := by
  show D.tup [D.tup [_, .lst ((t.phs.map phT).map phOfT), _], _] = _
  rw [List.map_map]
  rfl
abbrev st_Speaker_waiting : Stmt := inClass (top 30) 9
abbrev nm_Speaker_waiting : List Str := ["self", "thing"]
theorem sc_Speaker_waiting : FnScope nm_Speaker_waiting ["self"] (defScope st_Speaker_waiting) := ⟨rfl, rfl, rfl, by decide +kernel, rfl, by decide +kernel, by decide +kernel⟩
theorem ok_waitingM (F : Fun K "waiting" "Speaker.waiting" st_Speaker_waiting f fd) (T : Tx P w K mg base a) (c_utterance_of : CalX P w K mg base 1 "utterance_of" ["thing"] (spUtOf K)) : FnOk P w K mg base (L2.CX P w) 2 f fd ["self"] (spWaitM K a.eSpeaker) := by
  refine F.okX sc_Speaker_waiting (fun vs H Q E h => pro_len h fun _ => rfl) (fun cdv A outer s H vs Q E hr h => ⟨_, (pss_one (ps_ret (pe_lc (own := [("thing", 1)]) (tt := tYes) (g := (gName 1)) rfl sc_Speaker_waiting.nd (pi_tupK (K := K) rfl (pe_ix (kX K rIx rfl ix_seq) (pe_fldK (K := K) rfl (pv 0)) pe_int (fun _ _ => rfl))) (blkOk_by (own := [("thing", 1)]) (N := nm_Speaker_waiting) (sc := (defScope st_Speaker_waiting)) (by decide +kernel)) (fun _ _ _ _ _ => (pg_name (i := 1) sc_Speaker_waiting.nd rfl (by first | exact Or.inl rfl | exact Or.inr rfl))) (fun _ _ _ _ _ => pts_nil) (fun _ _ _ _ _ => (pe_tup (pa_cons (pe_c c_utterance_of hr (by first | decide | exact Nat.le_refl _) rfl passL (pa_cons (pv 1) pa_nil)) (pa_cons (pe_ix (kX K rIx rfl ix_seq) (pv 1) pe_int (fun _ _ => rfl)) pa_nil))))))), run_body h fun ⟨dx, s, _⟩ S ⟨hok, _⟩ hl hcl wi => ?_⟩)
  have hS : S.A.length = 4 := hl
  have hok : SpkOk s := hok
  have tc := T.cl_Speaker
  have t1 := T.na_state
  have hw := wt_le hok.ok
  have hn := hok.n
  walk_at "pf"
  refine ee_lc (ie_tup ?_)
  walk_at "pf"
  refine ⟨fun _ h => h, trivial, fun _ => true, waitD, by show (s.st.wt.map thD).length ≤ 10000000; rw [List.length_map]; omega, fun x hx _ => ?_, fun x acc hx => ?_, ?_⟩
  · obtain ⟨t, _, rfl⟩ := List.mem_map.mp hx
    rw [waitD_th]
    exact D.ltL_all.mp (wait_cl (l := [t])) _ (List.mem_map_of_mem List.mem_cons_self)
  · obtain ⟨t, ht, rfl⟩ := List.mem_map.mp hx
    have hot : OkT t := (hok.ok.all t (List.mem_append_right _ ht)).1
    refine gw_name (by decide) ?_
    walk_at "pf"
    refine ⟨rfl, rfl, fun _ => ?_⟩
    walk_at "pf"
    refine ee_cz ?_
    walk_at "pf"
    refine ⟨t, hot, rfl, by show ((thD t).lt 0 && true) = true; rw [th_cl]; rfl, ?_⟩
    rintro d rfl
    walk_at "pf"
    exact ⟨waitD_th.symm, rfl⟩
  · have e : (((s.st.wt.map thD).filter fun _ => true).map waitD) = s.st.wt.map waitR := by
      rw [List.filter_eq_self.mpr fun _ _ => rfl, List.map_map]
      exact List.map_congr_left fun t _ => waitD_th
    rw [e]
    have g := gave_spk (c := a.eSpeaker) (dx := dx) (s := s) (r := []) hS (d := .lst (s.st.wt.map waitR)) wait_cl
    rw [List.append_nil] at g
    exact g
end


section
variable {P : Program} {w : World} {K : PySem.W.Frag} {mg : Str → Option Value} {base : Heap} {a : Ad} {f : Addr} {fd : FuncData}
local macro_rules | `(tactic| walk_at "pf") => `(tactic| repeat (first | walk_at "p1" | (with_reducible refine ee_fldS (ns := nsS) (f := Str.ofString "state") (by with_unfolding_all rfl) (by with_unfolding_all rfl) (by assumption) (by assumption) (by with_unfolding_all exact f_st) ?_) | (with_reducible refine ee_fldS (ns := nsS) (f := Str.ofString "deeds") (by with_unfolding_all rfl) (by with_unfolding_all rfl) (by assumption) (by assumption) (by with_unfolding_all exact f_ds) ?_) | (with_reducible refine ee_fldS (ns := nsS) (f := Str.ofString "heard_units") (by with_unfolding_all rfl) (by with_unfolding_all rfl) (by assumption) (by assumption) (by with_unfolding_all exact f_hu) ?_) | (with_reducible refine ee_fldS (ns := nsS) (f := Str.ofString "passed_phrases") (by with_unfolding_all rfl) (by with_unfolding_all rfl) (by assumption) (by assumption) (by with_unfolding_all exact f_pp) ?_) | (refine oo_ixT rfl ?_)))
/-- an open list of plain things copied -/
abbrev spCopiedO (K : PySem.W.Frag) : Sp := Pro K (T := List D) (fun l => [.lst l]) (fun _ => [.own 0]) (fun l => l.length ≤ 1000000 ∧ ∀ d ∈ l, sOk 6 d = true) (fun l d μ => d = .lst l ∧ μ = [.lst l]) (fun _ _ _ _ => False)
theorem ok_copiedO (F : Fun K "copied" "copied" st_copied f fd) (T : Tx P w K mg base a) (c_copied : CalX P w K mg base 7 "copied" ["thing"] (spCopied K 6)) : FnOk P w K mg base (L2.CX P w) 8 f fd ["thing"] (spCopiedO K) := by
  refine F.okX sc_copied (fun vs H Q E h => pro_len h fun _ => rfl) (fun cdv A outer s H vs Q E hr h => ⟨_, (pss_cons (ps_if (pt_val (pe_callB (kC K rIsiU rfl call_isU) (by rfl) T.b_isinstance (by decide +kernel) (pa_cons (pv 0) (pa_cons (pe_bltn (v := .ty "list") (by rfl) T.b_list (by decide +kernel) rfl) pa_nil)))) (pss_one (ps_ret (pe_lc (own := [("item", 1)]) (tt := tYes) (g := (gName 1)) rfl sc_copied.nd (pi_listK (K := K) rfl (pv 0)) (blkOk_by (own := [("item", 1)]) (N := nm_copied) (sc := (defScope st_copied)) (by decide +kernel)) (fun _ _ _ _ _ => (pg_name (i := 1) sc_copied.nd rfl (by first | exact Or.inl rfl | exact Or.inr rfl))) (fun _ _ _ _ _ => pts_nil) (fun _ _ _ _ _ => (pe_c c_copied hr (by first | decide | exact Nat.le_refl _) rfl passL (pa_cons (pv 1) pa_nil)))))) pss_nil)
    (pss_cons (ps_if (pt_val (pe_callB (kC K rIsiU rfl call_isU) (by rfl) T.b_isinstance (by decide +kernel) (pa_cons (pv 0) (pa_cons (pe_bltn (v := .ty "tuple") (by rfl) T.b_tuple (by decide +kernel) rfl) pa_nil)))) (pss_one (ps_ret (pe_callTy (kC K rTupOf rfl call_tupOf) (by rfl) T.b_tuple (by decide +kernel) (pa_cons (pe_lc (own := [("item", 1)]) (tt := tYes) (g := (gName 1)) rfl sc_copied.nd (pi_tupK (K := K) rfl (pv 0)) (blkOk_by (own := [("item", 1)]) (N := nm_copied) (sc := (defScope st_copied)) (by decide +kernel)) (fun _ _ _ _ _ => (pg_name (i := 1) sc_copied.nd rfl (by first | exact Or.inl rfl | exact Or.inr rfl))) (fun _ _ _ _ _ => pts_nil) (fun _ _ _ _ _ => (pe_c c_copied hr (by first | decide | exact Nat.le_refl _) rfl passL (pa_cons (pv 1) pa_nil)))) pa_nil)))) pss_nil)
    (pss_cons (ps_if (pt_val (pe_callB (kC K rIsiU rfl call_isU) (by rfl) T.b_isinstance (by decide +kernel) (pa_cons (pv 0) (pa_cons (pe_bltn (v := .ty "dict") (by rfl) T.b_dict (by decide +kernel) rfl) pa_nil)))) (pss_one (ps_ret pe_never)) pss_nil)
    (pss_one (ps_ret (pv 0)))))), run_body h fun l S ⟨hz, hall⟩ hl hcl wi => ?_⟩)
  have hz : l.length ≤ 1000000 := hz
  have hall : ∀ d ∈ l, sOk 6 d = true := hall
  have hS : S.A.length = 1 := hl
  have hlc : D.ltL 0 l = true := D.ltL_all.mpr fun x hx => sOk_cl (hall x hx)
  walk_at "pp"
  refine cc_isO rfl rfl ?_
  walk_at "pp"
  refine ee_lc (ie_own ?_)
  walk_at "pp"
  refine ⟨0, l, rfl, rfl, fun c h => rfl, rfl, fun _ => true, fun x => x, by omega, fun x hx _ => D.lt_mono (Nat.zero_le _) (sOk_cl (hall x hx)), fun x acc hx => ?_, ?_⟩
  · refine gw_name (by decide) ?_
    walk_at "pp"
    refine ⟨rfl, rfl, fun _ => ?_⟩
    refine ee_cz ?_
    walk_at "pp"
    exact ⟨x, hall x hx, rfl, by show (x.lt 0 && true) = true; rw [sOk_cl (hall x hx)]; rfl, fun r hr => ⟨hr, rfl⟩⟩
  · rw [List.filter_eq_self.mpr fun _ _ => rfl, List.map_id']
    have g : Gave S (fun d μ => d = .lst l ∧ μ = [.lst l]) (.lst l) [.lst l] := gave1 hS hlc hlc ⟨rfl, rfl⟩
    exact g
theorem ask_copO {S : Bs} {δ : Sl} {μ : List Cell} {C : D → List Cell → Prop} {ta : TA} {E : XK} (k : Nat) (h : EA K S ta δ μ fun ds μ1 => ∃ l : List D, ds = [.own k] ∧ μ1[k]? = some (.lst l) ∧ l.length ≤ 1000000 ∧ (∀ d ∈ l, sOk 6 d = true) ∧ C (.lst l) (μ1.set k (.lst l))) : EE K S (tCall (spCopiedO K) [] E ta) δ μ C :=
  ee_cz1 k fun A G H σ a' Q q => h A G H σ a' Q fun vs ds A1 G1 H1 μ1 m nn r ⟨l, e1, hk, hz, hall, hC⟩ => q vs ds A1 G1 H1 μ1 m nn r (by
    subst e1
    have hlc : D.ltL 0 l = true := D.ltL_all.mpr fun x hx => sOk_cl (hall x hx)
    refine ⟨l, l, ⟨hz, hall⟩, rfl, hlc, hk, hand1 rfl, fun d ν ⟨h1, h2⟩ => ?_⟩
    subst h1 h2
    exact ⟨hlc, _, rfl, hlc, hC⟩)
abbrev spLogM (K : PySem.W.Frag) (c : Addr) : Sp := spBare K c SpkOk (fun s => s) fun s => .lst (s.ds.map deedD)
abbrev st_Speaker_log : Stmt := inClass (top 30) 13
abbrev nm_Speaker_log : List Str := ["self"]
theorem sc_Speaker_log : FnScope nm_Speaker_log ["self"] (defScope st_Speaker_log) := ⟨rfl, rfl, rfl, by decide +kernel, rfl, by decide +kernel, by decide +kernel⟩
theorem ok_logM (F : Fun K "log" "Speaker.log" st_Speaker_log f fd) (T : Tx P w K mg base a) (c_copied : CalX P w K mg base 8 "copied" ["thing"] (spCopiedO K)) : FnOk P w K mg base (L2.CX P w) 9 f fd ["self"] (spLogM K a.eSpeaker) := by
  refine F.okX sc_Speaker_log (fun vs H Q E h => pro_len h fun _ => rfl) (fun cdv A outer s H vs Q E hr h => ⟨_, (pss_one (ps_ret (pe_c c_copied hr (by first | decide | exact Nat.le_refl _) rfl (passes_call (takes_of rfl rfl rfl rfl) (fun _ _ _ _ h => h)) (pa_cons (pe_fldK (K := K) rfl (pv 0)) pa_nil)))), run_body h fun ⟨dx, s, _⟩ S ⟨hok, _⟩ hl hcl wi => ?_⟩)
  have hS : S.A.length = 4 := hl
  have hok : SpkOk s := hok
  have hn := hok.n
  have tc := T.cl_Speaker
  have t3 := T.na_deeds
  refine se_ret (ask_copO 1 ?_)
  walk_at "pf"
  refine ⟨s.ds.map deedD, rfl, rfl, by rw [List.length_map]; omega, fun x hx => ?_, ?_⟩
  · obtain ⟨d, hd, rfl⟩ := List.mem_map.mp hx
    exact deed_sok (hok.ds d hd)
  have g := gave_spk (c := a.eSpeaker) (dx := dx) (s := s) (r := []) hS (d := .lst (s.ds.map deedD)) deeds_cl
  rw [List.append_nil] at g
  exact g
end


/-! what is kept -/
def tkN : Deed → Nat
  | .tick k => k
  | _ => 0
theorem heard_outs {l : List Th} : heardE (l.map fun t => Ev.out t.say t.tag) = [] ∧ passedE (l.map fun t => Ev.out t.say t.tag) = [] := by
  induction l with
  | nil => exact ⟨rfl, rfl⟩
  | cons t l ih => exact ih
theorem passedE_app : ∀ {l m : List Ev}, passedE (l ++ m) = passedE l ++ passedE m
  | [], _ => rfl
  | e :: l, m => by
    cases e with
    | passed n g u => exact congrArg ((g, u) :: ·) passedE_app
    | done n g => exact passedE_app (l := l)
    | out n g => exact passedE_app (l := l)
    | cut => exact passedE_app (l := l)
    | heard => exact passedE_app (l := l)
theorem heard_cut {s : Stt} : heardE (cutOff s).2 = [] ∧ passedE (cutOff s).2 = [] := by
  unfold cutOff
  split <;> exact ⟨rfl, rfl⟩
theorem heard_clear {s : Stt} {rs : List Nat} {g : Option Str} : heardE (clear s rs g).2 = [] ∧ passedE (clear s rs g).2 = [] := heard_outs
theorem heard_step {t : Th} {w : List Th} : (heardE (stepT t w).2).length ≤ 1 ∧ (passedE (stepT t w).2).length ≤ 1 := by
  unfold stepT
  split
  · exact ⟨Nat.le_refl _, Nat.zero_le _⟩
  · split
    · exact ⟨Nat.le_refl _, Nat.le_refl _⟩
    · exact ⟨Nat.le_refl _, Nat.le_refl _⟩
theorem heard_tick {s : Stt} : (heardE (tick s).2).length ≤ 1 ∧ (passedE (tick s).2).length ≤ 1 := by
  unfold tick
  split
  · exact ⟨Nat.zero_le _, Nat.zero_le _⟩
  · split
    · exact ⟨Nat.zero_le _, Nat.zero_le _⟩
    · exact heard_step
theorem heard_ticks : ∀ {k : Nat} {s : Stt}, (heardE (ticks k s).2).length ≤ k ∧ (passedE (ticks k s).2).length ≤ k
  | 0, _ => ⟨Nat.le_refl _, Nat.le_refl _⟩
  | k + 1, s => by
    obtain ⟨h1, h2⟩ := @heard_tick s
    obtain ⟨h3, h4⟩ := heard_ticks (k := k) (s := (tick s).1)
    show (heardE ((tick s).2 ++ (ticks k (tick s).1).2)).length ≤ _ ∧ (passedE ((tick s).2 ++ (ticks k (tick s).1).2)).length ≤ _
    rw [heardE_app, passedE_app, List.length_append, List.length_append]
    omega
theorem heard_do {s : Stt} {n : Nat} {d : Deed} : (heardE (doDeed s n d).2).length ≤ tkN d ∧ (passedE (doDeed s n d).2).length ≤ tkN d := by
  cases d with
  | say r ps g =>
    rw [doSay]
    show (heardE (_ ++ _)).length ≤ 0 ∧ (passedE (_ ++ _)).length ≤ 0
    have h1 : heardE (sayA s r).2 = [] ∧ passedE (sayA s r).2 = [] := by
      unfold sayA
      split
      · exact heard_clear
      · exact ⟨rfl, rfl⟩
    have h2 : ∀ s, heardE (cutR s r).2 = [] ∧ passedE (cutR s r).2 = [] := fun s => by
      unfold cutR
      split
      · exact heard_cut
      · exact ⟨rfl, rfl⟩
    rw [heardE_app, passedE_app, h1.1, h1.2, (h2 _).1, (h2 _).2]
    exact ⟨Nat.le_refl _, Nat.le_refl _⟩
  | tick k => exact heard_ticks
  | drop g => exact ⟨by rw [show (doDeed s n (.drop g)).2 = (clear s [] (some g)).2 from rfl, heard_clear.1]; exact Nat.zero_le _, by rw [show (doDeed s n (.drop g)).2 = (clear s [] (some g)).2 from rfl, heard_clear.2]; exact Nat.zero_le _⟩
  | hold => exact ⟨by rw [show (doDeed s n .hold).2 = (cutOff s).2 from rfl, heard_cut.1]; exact Nat.zero_le _, by rw [show (doDeed s n .hold).2 = (cutOff s).2 from rfl, heard_cut.2]; exact Nat.zero_le _⟩
  | go => exact ⟨Nat.zero_le _, Nat.zero_le _⟩
  | stop =>
    have e : (doDeed s n .stop).2 = (clear s (if s.stp then [1, 2, 3] else [1, 3]) none).2 := rfl
    rw [e, heard_clear.1, heard_clear.2]
    exact ⟨Nat.zero_le _, Nat.zero_le _⟩
/-- .. with bounds: n deeds, t ticks -/
structure SpkB (n t : Nat) (s : Spk) : Prop where
  ok : Ok s.ds.length s.st
  ds : ∀ d ∈ s.ds, DeedW d
  n : s.ds.length ≤ n
  hu : s.hu.length ≤ t
  pp : s.pp.length ≤ t
theorem SpkB.k {n t : Nat} {s : Spk} (h : SpkB n t s) (hn : n ≤ 9000) (ht : t ≤ 90000) : SpkOk s ∧ Few s :=
  ⟨⟨h.ok, Nat.le_trans h.n hn, h.ds, Nat.le_trans h.hu (Nat.le_trans ht (by decide)), Nat.le_trans h.pp (Nat.le_trans ht (by decide))⟩, Nat.le_trans h.hu ht, Nat.le_trans h.pp ht⟩
theorem sp0_b : SpkB 0 0 sp0 := ⟨s0_ok, fun d hd => (by cases hd), Nat.le_refl _, Nat.le_refl _, Nat.le_refl _⟩
theorem ok_up {n m : Nat} {s : Stt} (h : Ok n s) (hm : n ≤ m) : Ok m s := ⟨fun t ht => ⟨(h.all t ht).1, Nat.lt_of_lt_of_le (h.all t ht).2 hm⟩, h.nd, h.so⟩
theorem done_b {n t : Nat} {s : Spk} {d : Deed} (h : SpkB n t s) (hd : DeedV d) : SpkB (n + 1) (t + tkN d) (doneS s d) := by
  obtain ⟨h1, h2⟩ := @heard_do s.st s.ds.length d
  have hn := h.n
  have hu := h.hu
  have hp := h.pp
  have e3 : (doneS s d).hu.length ≤ t + tkN d := by
    show (s.hu ++ _).length ≤ _
    rw [List.length_append]
    omega
  have e4 : (doneS s d).pp.length ≤ t + tkN d := by
    show (s.pp ++ _).length ≤ _
    rw [List.length_append]
    omega
  have put : addD s.ds d = s.ds ++ [d] → SpkB (n + 1) (t + tkN d) (doneS s d) := fun e => by
    have e5 : (doneS s d).ds = s.ds ++ [d] := e
    refine ⟨?_, ?_, ?_, e3, e4⟩
    · rw [e5, List.length_append]
      exact (deed_ok h.ok hd.ok).1
    · rw [e5]
      intro x hx
      rcases List.mem_append.mp hx with hx | hx
      · exact h.ds x hx
      · rw [List.mem_singleton.mp hx]
        exact hd.w
    · rw [e5, List.length_append]
      exact Nat.succ_le_succ hn
  cases d with
  | tick k =>
    by_cases q : ∃ m, s.ds[s.ds.length - 1]? = some (.tick m)
    · obtain ⟨m, hx⟩ := q
      have e5 : (doneS s (.tick k)).ds = s.ds.set (s.ds.length - 1) (.tick (m + k)) := add_yes hx
      refine ⟨?_, ?_, ?_, e3, e4⟩
      · rw [e5, List.length_set]
        have z := (ticks_ok (k := k) h.ok).1
        exact ⟨z.all, z.nd, z.so⟩
      · rw [e5]
        intro x hx
        rcases List.mem_or_eq_of_mem_set hx with hx | hx
        · exact h.ds x hx
        · rw [hx]
          have hd : 1 ≤ k ∧ k ≤ 4000 := hd
          show 1 ≤ m + k
          omega
      · rw [e5, List.length_set]
        omega
    · refine put ?_
      cases hx : s.ds[s.ds.length - 1]? with
      | none =>
        unfold addD
        rw [hx]
      | some x =>
        refine add_no2 hx ?_
        cases x with
        | tick m => exact absurd ⟨m, hx⟩ q
        | _ => rfl
  | say r ps g => exact put (add_no rfl)
  | drop g => exact put (add_no rfl)
  | hold => exact put (add_no rfl)
  | go => exact put (add_no rfl)
  | stop => exact put (add_no rfl)


section
variable {P : Program} {w : World} {K : PySem.W.Frag} {mg : Str → Option Value} {base : Heap} {a : Ad} {f : Addr} {fd : FuncData}
local macro_rules | `(tactic| walk_at "pf") => `(tactic| repeat (first | walk_at "p1" | (with_reducible refine ee_fldS (ns := nsS) (f := Str.ofString "state") (by with_unfolding_all rfl) (by with_unfolding_all rfl) (by assumption) (by assumption) (by with_unfolding_all exact f_st) ?_) | (with_reducible refine ee_fldS (ns := nsS) (f := Str.ofString "deeds") (by with_unfolding_all rfl) (by with_unfolding_all rfl) (by assumption) (by assumption) (by with_unfolding_all exact f_ds) ?_) | (with_reducible refine ee_fldS (ns := nsS) (f := Str.ofString "heard_units") (by with_unfolding_all rfl) (by with_unfolding_all rfl) (by assumption) (by assumption) (by with_unfolding_all exact f_hu) ?_) | (with_reducible refine ee_fldS (ns := nsS) (f := Str.ofString "passed_phrases") (by with_unfolding_all rfl) (by with_unfolding_all rfl) (by assumption) (by assumption) (by with_unfolding_all exact f_pp) ?_) | (refine oo_ixT rfl ?_)))
local macro_rules | `(tactic| walk_at "pq") => `(tactic| repeat (first | walk_at "p1" | (refine oo_ixT rfl ?_)))
theorem ask_new {S : Bs} {δ : Sl} {μ : List Cell} {C : D → List Cell → Prop} {E : XK} {c : Addr} (h : ∀ dx, C (.own μ.length) (μ ++ spkC μ.length c dx sp0)) : EE K S (tMake c (spInit K c) [] E tNil) δ μ C :=
  ee_make0 fun dx => ⟨dx, trivial, rfl, rfl, fun d ν ⟨h1, h2⟩ _ => ⟨h1, by
    subst h2
    have e : (spkC 0 c dx sp0).map (Cell.ren (back [μ.length] (μ.length + 1))) = spkC μ.length c dx sp0 := spk_ren rfl rfl rfl
    have e2 : behindC [μ.length] (μ.length + 1) (spkC 0 c dx sp0) (μ ++ [.obj c dx [] []]) = μ ++ spkC μ.length c dx sp0 := by
      show put [μ.length] ((spkC 0 c dx sp0).map _) (μ ++ [.obj c dx [] []]) ++ ((spkC 0 c dx sp0).map (Cell.ren (back [μ.length] (μ.length + 1)))).drop 1 = _
      rw [e]
      show (μ ++ [Cell.obj c dx [] []]).set (μ.length + 0) _ ++ _ = _
      rw [set_off, List.append_assoc]
      rfl
    rw [e2]
    exact h dx⟩⟩
def LogV (l : List Deed) : Prop := (∀ d ∈ l, DeedV d) ∧ l.length ≤ 1000
abbrev spCkLog (K : PySem.W.Frag) : Sp := ProP K (T := List Deed) (fun l => [.lst (l.map deedD)]) LogV (fun _ r => r = .non) (fun _ _ _ => False)
abbrev st_check_log : Stmt := top 34
abbrev nm_check_log : List Str := ["log"]
theorem sc_check_log : FnScope nm_check_log ["log"] (defScope st_check_log) := ⟨rfl, rfl, rfl, by decide +kernel, rfl, by decide +kernel, by decide +kernel⟩
theorem ok_check_log (F : Fun K "check_log" "check_log" st_check_log f fd) (T : Tx P w K mg base a) (c_is_log_object : CalX P w K mg base 6 "is_log_object" ["value"] (spLogOk K)) : FnOk P w K mg base (L2.CX P w) 7 f fd ["log"] (spCkLog K) := by
  refine F.okX sc_check_log (fun vs H Q E h => pro_len h fun _ => rfl) (fun cdv A outer s H vs Q E hr h => ⟨_, (pss_one (ps_if (pt_not (pt_val (pe_c c_is_log_object hr (by first | decide | exact Nat.le_refl _) rfl (passes_call (takes_of rfl rfl rfl rfl) (fun _ _ _ _ h => h)) (pa_cons (pv 0) pa_nil)))) (pss_one (ps_raiseC rfl T.e_InvalidLog hr (by decide) (takes_of rfl rfl rfl rfl) rfl (pa_cons (pv 0) pa_nil))) pss_nil)), run_body h fun l S hv hl hcl wi => ?_⟩)
  have hv : LogV l := hv
  have hl : S.A.length = 0 := hl
  walk_at "pq"
  refine ee_cz ?_
  walk_at "pq"
  refine ⟨l, hv, rfl, by show (D.ltL 0 (l.map deedD) && true) = true; rw [deeds_cl]; rfl, ?_⟩
  rintro d rfl
  walk_at "pq"
  walk_at "gp"
  exact gaveP hl rfl rfl
def runS (l : List Deed) : Spk := l.foldl doneS sp0
def tksN (l : List Deed) : Nat := (l.map tkN).sum
theorem run_b : ∀ {l : List Deed} {n t : Nat} {s : Spk}, SpkB n t s → (∀ d ∈ l, DeedV d) → SpkB (n + l.length) (t + tksN l) (l.foldl doneS s)
  | [], _, _, _, h, _ => h
  | d :: l, n, t, s, h, hd => by
    have z := run_b (l := l) (done_b h (hd d List.mem_cons_self)) fun e he => hd e (List.mem_cons_of_mem _ he)
    rw [List.length_cons, show n + (l.length + 1) = n + 1 + l.length by omega, show t + tksN (d :: l) = t + tkN d + tksN l by show t + (tkN d + tksN l) = _; omega]
    exact z
theorem runS_snoc {l : List Deed} {i : Nat} {d : Deed} (h : l[i]? = some d) : runS (l.take (i + 1)) = doneS (runS (l.take i)) d := by
  unfold runS
  rw [List.take_succ, h]
  show List.foldl doneS sp0 (_ ++ [d]) = _
  rw [List.foldl_append]
  rfl
theorem tks_take {l : List Deed} : ∀ {i : Nat}, tksN (l.take i) ≤ tksN l := by
  induction l with
  | nil => intro i; simp [tksN]
  | cons d l ih =>
    intro i
    cases i with
    | zero => simp [tksN]
    | succ i =>
      show tkN d + tksN (l.take i) ≤ tkN d + tksN l
      have := ih (i := i)
      omega
abbrev spSpkOf (K : PySem.W.Frag) (c : Addr) : Sp := Pro K (T := List Deed) (fun _ => []) (fun l => [.lst (l.map deedD)]) (fun l => LogV l ∧ tksN l ≤ 90000) (fun l d μ => d = .own 0 ∧ ∃ dx, μ = spkC 0 c dx (runS l)) (fun _ _ _ _ => False)
abbrev st_speaker_of : Stmt := top 35
abbrev nm_speaker_of : List Str := ["log", "speaker", "deed"]
theorem sc_speaker_of : FnScope nm_speaker_of ["log"] (defScope st_speaker_of) := ⟨rfl, rfl, rfl, by decide +kernel, rfl, by decide +kernel, by decide +kernel⟩
theorem ok_speaker_of (F : Fun K "speaker_of" "speaker_of" st_speaker_of f fd) (T : Tx P w K mg base a) (c_check_log : CalX P w K mg base 7 "check_log" ["log"] (spCkLog K)) (i_Speaker : CalI P w K mg base 1 "Speaker" a.eSpeaker ["self"] (spInit K a.eSpeaker)) (m_done : CalM P w K mg base 8 a.eSpeaker "done" ["self", "deed"] (spDone K a.eSpeaker)) : FnOk P w K mg base (L2.CX P w) 9 f fd ["log"] (spSpkOf K a.eSpeaker) := by
  refine F.okX sc_speaker_of (fun vs H Q E h => pro_len h fun _ => rfl) (fun cdv A outer s H vs Q E hr h => ⟨_, (pss_cons (ps_expr (pe_c c_check_log hr (by first | decide | exact Nat.le_refl _) rfl (passes_call (takes_of rfl rfl rfl rfl) (fun _ _ _ _ h => h)) (pa_cons (pv 0) pa_nil)))
    (pss_cons (ps_set (i := 1) sc_speaker_of.nd rfl (by first | exact Or.inl rfl | exact Or.inr rfl) (pe_mk0 i_Speaker hr (by first | decide | exact Nat.le_refl _) rfl (passes_call (takes_of rfl rfl rfl rfl) (fun _ _ _ _ h => h))))
    (pss_cons (ps_for (passes_of rfl) rfl (pi_listK (K := K) rfl (pv 0)) (pg_name (i := 2) sc_speaker_of.nd rfl (by first | exact Or.inl rfl | exact Or.inr rfl))
      (pss_one (ps_expr (pe_m m_done hr (by first | decide | exact Nat.le_refl _) (passes_call (takes_of rfl rfl rfl rfl) (fun _ _ _ _ h => h)) (pv 1) (pa_cons (pv 2) pa_nil)))))
    (pss_one (ps_ret (pv 1)))))), run_body h fun l S ⟨hv, ht⟩ hl hcl wi => ?_⟩)
  have hv : LogV l := hv
  have ht : tksN l ≤ 90000 := ht
  have hS : S.A.length = 0 := hl
  walk_at "pq"
  refine ee_cz ?_
  walk_at "pq"
  refine ⟨l, hv, rfl, by show (D.ltL 0 (l.map deedD) && true) = true; rw [deeds_cl]; rfl, ?_⟩
  rintro d rfl
  walk_at "pq"
  refine ask_new fun dx => ?_
  refine se_seq (se_for (ie_list ?_))
  refine ee_var rfl ?_
  refine ⟨_, .inl rfl, rfl, fun i δ μ => ∃ (dx : Addr) (x2 : Option D), δ = [some (.lst (l.map deedD)), some (.own 0), x2] ∧ μ = spkC 0 a.eSpeaker dx (runS (l.take i)), ⟨dx, none, rfl, rfl⟩, ?_, ?_⟩
  · rintro i x δ μ hx ⟨dx, x2, rfl, rfl⟩
    rw [List.getElem?_map] at hx
    obtain ⟨d, hd, rfl⟩ := Option.map_eq_some_iff.mp hx
    have hi := (List.getElem?_eq_some_iff.mp hd).1
    have b := run_b (l := l.take i) sp0_b fun d h => hv.1 d (List.mem_of_mem_take h)
    have hz := hv.2
    have ht2 := tks_take (l := l) (i := i)
    have e1 : (l.take i).length = i := by rw [List.length_take]; omega
    rw [Nat.zero_add, Nat.zero_add, e1] at b
    obtain ⟨k1, k2⟩ := b.k (by omega) (by omega)
    refine ge_name ?_
    walk_at "pq"
    refine ask_m 0 [] [] rfl (List.append_nil _).symm rfl (by decide) ?_
    walk_at "pq"
    refine ⟨d, [], [], dx, _, rfl, (List.append_nil _).symm, rfl, ⟨k1, hv.1 d (List.mem_of_getElem? hd), k2.1, k2.2⟩, deed1_cl, ?_⟩
    exact ⟨dx, _, rfl, by rw [List.append_nil, runS_snoc hd]; rfl⟩
  · rintro δ μ ⟨dx, x2, rfl, rfl⟩
    rw [List.length_map, List.take_length]
    walk_at "pq"
    have g : Gave S (fun d μ => d = .own 0 ∧ ∃ dx, μ = spkC 0 a.eSpeaker dx (runS l)) (.own 0) (spkC 0 a.eSpeaker dx (runS l)) := gave_all (by rw [hS]; exact Nat.zero_le _) rfl (spk_lt (show 3 < 4 by decide)) ⟨rfl, dx, rfl⟩
    exact g
end


section
variable {P : Program} {w : World} {K : PySem.W.Frag} {mg : Str → Option Value} {base : Heap} {a : Ad} {f : Addr} {fd : FuncData}
abbrev spPurse (K : PySem.W.Frag) : Sp := ProN K (T := List Int × Nat) (fun t => [.rd (t.1.map D.int), .int (t.2 : Int)]) (fun t => t.2 ≤ 1000) (fun _ l => PuOk 0 l) (fun _ _ _ => False)
abbrev st__law_purse : Stmt := top 37
abbrev nm__law_purse : List Str := ["script", "at", "seed"]
theorem sc__law_purse : FnScope nm__law_purse ["script", "at"] (defScope st__law_purse) := ⟨rfl, rfl, rfl, by decide +kernel, rfl, by decide +kernel, by decide +kernel⟩
theorem ok_purse (F : Fun K "_law_purse" "_law_purse" st__law_purse f fd) (T : Tx P w K mg base a) : FnOk P w K mg base (L2.CX P w) 1 f fd ["script", "at"] (spPurse K) := by
  refine F.okX sc__law_purse (fun vs H Q E h => pro_len h fun _ => rfl) (fun cdv A outer s H vs Q E hr h => ⟨_, (pss_cons (ps_set (i := 2) sc__law_purse.nd rfl (by first | exact Or.inl rfl | exact Or.inr rfl) (pe_callB (kC K rSum rfl (cr_sum rfl)) (by rfl) T.b_sum (by decide +kernel) (pa_cons (pe_slice (kS K rSlU rfl sl_U) (pv 0) (po_some (pv 1)) (po_some (pe_op (kO K rPlus rfl op_plus) (pv 1) pe_int))) pa_nil)))
    (pss_one (ps_ret (pe_lst (pa_cons (pe_op op_mod (pe_callTy call_int1 (by rfl) T.b_int (by decide +kernel) (pa_cons (pe_callB (call_max2 rfl) (by rfl) T.b_max (by decide +kernel) (pa_cons (pe_op op_sub (pv 2) (pe_op op_powW pe_int pe_int)) (pa_cons pe_int pa_nil))) pa_nil)) (pe_op op_powW (pe_op op_powW pe_int pe_int) pe_int)) (pa_cons (pe_op op_mod (pe_callTy call_int1 (by rfl) T.b_int (by decide +kernel) (pa_cons (pv 2) pa_nil)) pe_int) (pa_cons pe_int (pa_cons (pv 1) pa_nil)))))))), run_body h fun ⟨ns, n⟩ S hn hl hcl wi => ?_⟩)
  have hn : n ≤ 1000 := hn
  walk_at "p0"
  walk_at "pp"
  refine ss_rd ?_
  rw [cut_map]
  generalize ((ns.drop _).take _ : List Int) = ms
  walk_at "pp"
  refine cc_sum (.lst _) ?_
  walk_at "pp"
  refine ee_open ?_
  walk_at "pp"
  refine oo_powW ⟨by decide, by decide +kernel⟩ ?_
  walk_at "pp"
  refine oo_powW ⟨by decide, by decide +kernel⟩ ?_
  walk_at "pp"
  refine oo_powW ⟨by decide, by decide +kernel⟩ ?_
  refine oo_mod (by decide +kernel) ?_
  walk_at "pp"
  refine oo_mod (by decide) ?_
  walk_at "pp"
  have b1 := Int.emod_nonneg ms.sum (show (2147483629 : Int) ≠ 0 by decide)
  have b2 := Int.emod_lt_of_pos ms.sum (show (0 : Int) < 2147483629 by decide)
  walk_at "gp"
  refine gaveN hl (k := 0) rfl (by rfl) ?_
  exact ⟨_, _, _, _, rfl, b1, by omega, by decide, by decide, by omega, by omega⟩
end


section
variable {P : Program} {w : World} {K : PySem.W.Frag} {mg : Str → Option Value} {base : Heap} {a : Ad} {f : Addr} {fd : FuncData}
inductive Pick : D → D → Prop
  | lst {xs : List D} {x : D} : x ∈ xs → Pick (.lst xs) x
  | str {s : Str} {c : Nat} : c ∈ cp s → Pick (.str s) (.str ⟨#[c]⟩)
def PickOk (d : D) : Prop := (∃ xs, d = .lst xs ∧ 0 < xs.length ∧ xs.length ≤ 1000000 ∧ D.ltL 0 xs = true) ∨ (∃ s, d = .str s ∧ 0 < (cp s).length ∧ (cp s).length ≤ 1000000)
abbrev spOneOf (K : PySem.W.Frag) : Sp := Pro K (T := List D × D × Nat) (fun t => [.lst t.1]) (fun t => [.own 0, t.2.1]) (fun t => PuOk t.2.2 t.1 ∧ t.2.2 ≤ 1000000000 ∧ PickOk t.2.1)
  (fun t d μ => Pick t.2.1 d ∧ d.lt 0 = true ∧ ∃ l', μ = [.lst l'] ∧ PuOk (t.2.2 + 1) l') (fun _ _ _ _ => False)
abbrev st__law_one_of : Stmt := top 40
abbrev nm__law_one_of : List Str := ["purse", "some"]
theorem sc__law_one_of : FnScope nm__law_one_of ["purse", "some"] (defScope st__law_one_of) := ⟨rfl, rfl, rfl, by decide +kernel, rfl, by decide +kernel, by decide +kernel⟩
theorem ok_one_of (F : Fun K "_law_one_of" "_law_one_of" st__law_one_of f fd) (T : Tx P w K mg base a) (c__law_draw : CalX P w K mg base 2 "_law_draw" ["purse", "many"] (spDraw K)) : FnOk P w K mg base (L2.CX P w) 3 f fd ["purse", "some"] (spOneOf K) := by
  refine F.okX sc__law_one_of (fun vs H Q E h => pro_len h fun _ => rfl) (fun cdv A outer s H vs Q E hr h => ⟨_, (pss_one (ps_ret (pe_ix (kX K rIx rfl ix_seq) (pv 1) (pe_c c__law_draw hr (by first | decide | exact Nat.le_refl _) rfl (passes_call (takes_of rfl rfl rfl rfl) (fun _ _ _ _ h => h)) (pa_cons (pv 0) (pa_cons (pe_callB (kC K rLenU rfl call_lenU) (by rfl) T.b_len (by decide +kernel) (pa_cons (pv 1) pa_nil)) pa_nil))) (fun _ _ => rfl)))), run_body h fun ⟨l, d, n⟩ S ⟨hp, hn, hd⟩ hl hcl wi => ?_⟩)
  have hp : PuOk n l := hp
  have hn : n ≤ 1000000000 := hn
  have hS : S.A.length = 1 := hl
  walk_at "p0"
  walk_at "pp"
  refine ee_cz1 0 ?_
  walk_at "pp"
  rcases hd with ⟨xs, rfl, h0, h1, hno⟩ | ⟨s, rfl, h0, h1⟩
  · refine cc_len (.lst _) ?_
    walk_at "pp"
    refine ⟨(l, (xs.length : Int), n), l, ⟨hp, by show (0 : Int) < (xs.length : Int); omega, by show (xs.length : Int) ≤ 1000000; omega, hn⟩, rfl, hp.cl, rfl, hand1 rfl, fun d c ⟨v, l', hr, v0, v1, hc, hp'⟩ => ?_⟩
    subst hr
    subst hc
    refine ⟨rfl, l', rfl, hp'.cl, ?_⟩
    have v1 : v < (xs.length : Int) := v1
    have hv : v.toNat < xs.length := by omega
    refine oo_ixL (atI_of (j := v.toNat) (List.getElem?_eq_getElem hv) (by omega)) ?_
    have hm : xs[v.toNat] ∈ xs := List.getElem_mem hv
    have hx := D.ltL_all.mp hno _ hm
    walk_at "gp"
    refine gave1 hS hx hp'.cl ?_
    exact ⟨.lst hm, hx, l', rfl, hp'⟩
  · refine cc_lenS (by rw [len_cp]; omega) ?_
    walk_at "pp"
    have e := len_cp s
    refine ⟨(l, (s.length : Int), n), l, ⟨hp, by show (0 : Int) < (s.length : Int); omega, by show (s.length : Int) ≤ 1000000; omega, hn⟩, rfl, hp.cl, rfl, hand1 rfl, fun d c ⟨v, l', hr, v0, v1, hc, hp'⟩ => ?_⟩
    subst hr
    subst hc
    refine ⟨rfl, l', rfl, hp'.cl, ?_⟩
    have v1 : v < (s.length : Int) := v1
    have hv : v.toNat < (cp s).length := by omega
    refine oo_ixS (by omega) (atI_of (j := v.toNat) (show (cp s)[v.toNat]? = _ from List.getElem?_eq_getElem hv) (by omega)) ?_
    walk_at "gp"
    refine gave1 hS (by rfl) hp'.cl ?_
    exact ⟨.str (List.getElem_mem hv), rfl, l', rfl, hp'⟩
end


section
variable {P : Program} {w : World} {K : PySem.W.Frag} {mg : Str → Option Value} {base : Heap} {a : Ad} {f : Addr} {fd : FuncData}
local macro_rules | `(tactic| walk_at "pq") => `(tactic| repeat (first | walk_at "p1" | (refine oo_ixT rfl ?_) | (refine oo_ixL rfl ?_)))
theorem PuOk.up {n m : Nat} {l : List D} (h : PuOk n l) (hm : n ≤ m) : PuOk m l := by
  obtain ⟨p0, p1, p2, p3, e, h1, h2, h3, h4, h5, h6⟩ := h
  exact ⟨p0, p1, p2, p3, e, h1, h2, h3, by omega, h5, h6⟩
theorem gave_drawn {S : Bs} {P : D → Prop} {n : Nat} {d : D} {l : List D} {ν : List Cell} (hS : S.A.length = 1) (h1 : d.lt 0 = true) (h2 : P d) (h3 : PuOk n l) : Gave S (fun d μ => P d ∧ d.lt 0 = true ∧ ∃ l', μ = [.lst l'] ∧ PuOk n l') d (.lst l :: ν) := gave1 hS h1 h3.cl ⟨h2, h1, l, rfl, h3⟩
abbrev spDrawn (K : PySem.W.Frag) (B : Nat) {T : Type} (arg : T → List D) (pre : T → Prop) (post : T → D → Prop) (c : Nat) : Sp := Pro K (T := List D × Nat × T) (fun t => [.lst t.1]) (fun t => .own 0 :: arg t.2.2) (fun t => PuOk t.2.1 t.1 ∧ t.2.1 ≤ B ∧ pre t.2.2 ∧ D.ltL 0 (arg t.2.2) = true) (fun t d μ => post t.2.2 d ∧ d.lt 0 = true ∧ ∃ l', μ = [.lst l'] ∧ PuOk (t.2.1 + c) l') (fun _ _ _ _ => False)
section
variable {S : Bs} {δ : Sl} {μ : List Cell} {C : D → List Cell → Prop} {ta : TA} {E : XK}
theorem ask_drawn {T : Type} {arg : T → List D} {pre : T → Prop} {post : T → D → Prop} {B c : Nat} (k : Nat) (h : EA K S ta δ μ fun ds μ1 => ∃ (t : T) (l : List D) (n : Nat), ds = .own k :: arg t ∧ μ1[k]? = some (.lst l) ∧ PuOk n l ∧ n ≤ B ∧ pre t ∧ D.ltL 0 (arg t) = true ∧ ∀ d l', post t d → d.lt 0 = true → PuOk (n + c) l' → C d (μ1.set k (.lst l'))) : EE K S (tCall (spDrawn K B arg pre post c) [] E ta) δ μ C :=
  ee_cz1 k fun A G H σ a' Q q => h A G H σ a' Q fun vs ds A1 G1 H1 μ1 m nn r ⟨t, l, n, e1, hk, hp, hn, hpre, hcl, hC⟩ => q vs ds A1 G1 H1 μ1 m nn r (by
    subst e1
    refine ⟨(l, n, t), l, ⟨hp, hn, hpre, hcl⟩, rfl, hp.cl, hk, hand1 hcl, fun d ν ⟨h1, h2, l', h3, h4⟩ => ?_⟩
    exact ⟨h2, l', h3, h4.cl, hC d l' h1 h2 h4⟩)
theorem ask_one (k : Nat) (h : EA K S ta δ μ fun ds μ1 => ∃ (x : D) (l : List D) (n : Nat), ds = [.own k, x] ∧ μ1[k]? = some (.lst l) ∧ PuOk n l ∧ n ≤ 1000000000 ∧ PickOk x ∧ x.lt 0 = true ∧ ∀ d l', Pick x d → d.lt 0 = true → PuOk (n + 1) l' → C d (μ1.set k (.lst l'))) : EE K S (tCall (spOneOf K) [] E ta) δ μ C :=
  ee_cz1 k fun A G H σ a' Q q => h A G H σ a' Q fun vs ds A1 G1 H1 μ1 m nn r ⟨x, l, n, e1, hk, hp, hn, hx, hcl, hC⟩ => q vs ds A1 G1 H1 μ1 m nn r (by
    subst e1
    refine ⟨(l, x, n), l, ⟨hp, hn, hx⟩, rfl, hp.cl, hk, hand1 (by show (x.lt 0 && true) = true; rw [hcl]; rfl), fun d ν ⟨h1, h2, l', h3, h4⟩ => ?_⟩
    exact ⟨h2, l', h3, h4.cl, hC d l' h1 h2 h4⟩)
theorem ask_draw (k : Nat) (h : EA K S ta δ μ fun ds μ1 => ∃ (z : Int) (l : List D) (n : Nat), ds = [.own k, .int z] ∧ μ1[k]? = some (.lst l) ∧ PuOk n l ∧ n ≤ 1000000000 ∧ 0 < z ∧ z ≤ 1000000 ∧ ∀ (v : Nat) l', (v : Int) < z → PuOk (n + 1) l' → C (.int (v : Int)) (μ1.set k (.lst l'))) : EE K S (tCall (spDraw K) [] E ta) δ μ C :=
  ee_cz1 k fun A G H σ a' Q q => h A G H σ a' Q fun vs ds A1 G1 H1 μ1 m nn r ⟨z, l, n, e1, hk, hp, hn, h0, h1, hC⟩ => q vs ds A1 G1 H1 μ1 m nn r (by
    subst e1
    refine ⟨(l, z, n), l, ⟨hp, h0, h1, hn⟩, rfl, hp.cl, hk, hand1 rfl, fun d ν ⟨v, l', hr, v0, v1, hc, hp'⟩ => ?_⟩
    subst hr
    refine ⟨rfl, l', hc, hp'.cl, ?_⟩
    have := hC v.toNat l' (by have v1 : v < z := v1; omega) hp'
    rw [show ((v.toNat : Nat) : Int) = v by omega] at this
    exact this)
end
def TagD (d : D) : Prop := ∃ u, d = .str u ∧ TagOk u
theorem pick_tag {xs : List D} {d : D} (h : ∀ x ∈ xs, TagD x) (hp : Pick (.lst xs) d) : TagD d := by
  cases hp with
  | lst hm => exact h d hm
abbrev argUnit (us : List D) : List D := [.lst us]
def UnitsOk (us : List D) : Prop := (∀ x ∈ us, TagD x) ∧ 0 < us.length ∧ us.length ≤ 10
theorem UnitsOk.cl {us : List D} (h : UnitsOk us) {m : Nat} : D.ltL m us = true := D.ltL_all.mpr fun x hx => by
  obtain ⟨u, rfl, _⟩ := h.1 x hx
  rfl
abbrev spUnit (K : PySem.W.Frag) : Sp := spDrawn K 900000000 argUnit UnitsOk (fun _ d => TagD d) 2
abbrev st__law_unit : Stmt := top 43
abbrev nm__law_unit : List Str := ["purse", "units"]
theorem sc__law_unit : FnScope nm__law_unit ["purse", "units"] (defScope st__law_unit) := ⟨rfl, rfl, rfl, by decide +kernel, rfl, by decide +kernel, by decide +kernel⟩
theorem ok_unit (F : Fun K "_law_unit" "_law_unit" st__law_unit f fd) (T : Tx P w K mg base a) (c__law_draw : CalX P w K mg base 2 "_law_draw" ["purse", "many"] (spDraw K)) (c__law_one_of : CalX P w K mg base 3 "_law_one_of" ["purse", "some"] (spOneOf K)) : FnOk P w K mg base (L2.CX P w) 4 f fd ["purse", "units"] (spUnit K) := by
  refine F.okX sc__law_unit (fun vs H Q E h => pro_len h fun _ => rfl) (fun cdv A outer s H vs Q E hr h => ⟨_, (pss_cons (ps_if (pt_cmpR op_gt (pe_c c__law_draw hr (by first | decide | exact Nat.le_refl _) rfl (passes_call (takes_of rfl rfl rfl rfl) (fun _ _ _ _ h => h)) (pa_cons (pv 0) (pa_cons pe_int pa_nil))) pe_int (nomark _)) (pss_one (ps_ret (pe_c c__law_one_of hr (by first | decide | exact Nat.le_refl _) rfl (passes_call (takes_of rfl rfl rfl rfl) (fun _ _ _ _ h => h)) (pa_cons (pv 0) (pa_cons (pv 1) pa_nil))))) pss_nil)
    (pss_one (ps_ret (pe_c c__law_one_of hr (by first | decide | exact Nat.le_refl _) rfl (passes_call (takes_of rfl rfl rfl rfl) (fun _ _ _ _ h => h)) (pa_cons (pv 0) (pa_cons (pe_lst (pa_cons pe_str (pa_cons pe_str (pa_cons pe_str (pa_cons pe_str (pa_cons pe_str (pa_cons (pe_op op_timesU pe_str pe_int) pa_nil))))))) pa_nil)))))), run_body h fun ⟨l, n, us⟩ S ⟨hp, hn, hu, _⟩ hl hcl wi => ?_⟩)
  have hp : PuOk n l := hp
  have hn : n ≤ 900000000 := hn
  have hu : UnitsOk us := hu
  have hS : S.A.length = 1 := hl
  walk_at "pq"
  refine ask_draw 0 ?_
  walk_at "pq"
  refine ⟨12, l, n, rfl, rfl, hp, by omega, by decide, by decide, fun v l1 hv hp1 => ?_⟩
  walk_at "pq"
  refine ⟨fun _ => ?_, fun _ => ?_⟩
  · walk_at "pq"
    refine ask_one 0 ?_
    walk_at "pq"
    refine ⟨.lst us, l1, n + 1, rfl, rfl, hp1, by omega, .inl ⟨us, rfl, hu.2.1, by have := hu.2.2; omega, hu.cl⟩, hu.cl, fun d l2 hd hd0 hp2 => ?_⟩
    walk_at "gp"
    exact gave_drawn hS hd0 (pick_tag hu.1 hd) hp2
  · walk_at "pq"
    refine ask_one 0 ?_
    walk_at "pq"
    refine ee_lst ?_
    walk_at "pq"
    refine oo_mulS (mul_ok (n := 40) (by decide) (by decide +kernel)) ?_
    walk_at "pq"
    have key : ∀ x ∈ [D.str (Str.ofString " "), .str (Str.ofString "~"), .str (Str.ofString "say"), .str (Str.ofString "a b"), .str (Str.ofString "'"), .str (Txt.mul (Str.ofString "x") 40)], TagD x := fun x hx => by
      simp only [List.mem_cons, List.not_mem_nil, or_false] at hx
      rcases hx with rfl | rfl | rfl | rfl | rfl | rfl <;> exact ⟨_, rfl, by decide +kernel, by decide +kernel, by decide +kernel⟩
    refine ⟨.lst [D.str (Str.ofString " "), .str (Str.ofString "~"), .str (Str.ofString "say"), .str (Str.ofString "a b"), .str (Str.ofString "'"), .str (Txt.mul (Str.ofString "x") 40)], l1, n + 1, rfl, rfl, hp1, by omega, .inl ⟨_, rfl, by decide, by decide, rfl⟩, rfl, fun d l2 hd hd0 hp2 => ?_⟩
    walk_at "gp"
    exact gave_drawn hS hd0 (pick_tag key hd) hp2
end


section
variable {P : Program} {w : World} {K : PySem.W.Frag} {mg : Str → Option Value} {base : Heap} {a : Ad} {f : Addr} {fd : FuncData}
local macro_rules | `(tactic| walk_at "pq") => `(tactic| repeat (first | walk_at "p1" | (refine oo_ixT rfl ?_) | (refine oo_ixL rfl ?_)))
mutual
theorem sub_cl {g : Nat → Option (List D)} : ∀ {d : D}, d.lt 0 = true → d.sub g = d
  | .v _, _ => rfl
  | .own k, h => absurd (of_decide_eq_true (show decide (k < 0) = true from h)) (Nat.not_lt_zero k)
  | .lst l, h => congrArg D.lst (subL_cl h)
  | .rd l, h => congrArg D.rd (subL_cl h)
  | .tup l, h => congrArg D.tup (subL_cl h)
  | .dic ks l, h => congrArg (D.dic ks) (subL_cl h)
  | .exc c d, h => congrArg (D.exc c) (sub_cl h)
theorem subL_cl {g : Nat → Option (List D)} : ∀ {l : List D}, D.ltL 0 l = true → D.subL g l = l
  | [], _ => rfl
  | d :: l, h => by
    have h : (D.lt 0 d && D.ltL 0 l) = true := h
    rw [Bool.and_eq_true] at h
    show D.sub g d :: D.subL g l = d :: l
    rw [sub_cl h.1, subL_cl h.2]
end
theorem ee_lcW {S : Bs} {g : TG} {wi : TI} {te : TE} {δ : Sl} {μ : List Cell} {vs : List Nat} {C : D → List Cell → Prop} {n c : Nat} {ρ : List Cell} {Q : D → Prop} (hρ : ∀ m, cellsLt m ρ = true) (hQ : ∀ d, Q d → d.lt 0 = true)
    (h : IE K S wi δ μ fun l P μ1 => P = yes ∧ ∃ l1, μ1 = .lst l1 :: ρ ∧ PuOk n l1 ∧ l.length ≤ 1000000 ∧
      (∀ (i : Nat) x acc l', l[i]? = some x → PuOk (n + c * i) l' → GW K S g vs x (wipeS δ vs) (.lst l' :: (ρ ++ [.lst acc])) fun δ2 μ2 => EE K S te δ2 μ2 fun d μ3 => ∃ l2, μ3 = .lst l2 :: (ρ ++ [.lst acc]) ∧ Q d ∧ PuOk (n + c * (i + 1)) l2) ∧
      ∀ acc l', acc.length = l.length → (∀ d ∈ acc, Q d) → PuOk (n + c * l.length) l' → C (.lst acc) (.lst l' :: ρ)) : EE K S (tLc wi g tYes te vs) δ μ C := by
  refine ee_lcI fun A G H σ a R q => h A G H σ a R fun J l P A1 G1 H1 μ1 m1 n1 gv ⟨eP, l1, e1, hp, hz, it, ie⟩ => q J l P A1 G1 H1 μ1 m1 n1 gv ?_
  subst e1 eP
  refine ⟨fun i acc μ' => i ≤ l.length ∧ ∃ l', μ' = .lst l' :: ρ ∧ PuOk (n + c * i) l' ∧ acc.length = i ∧ ∀ d ∈ acc, Q d, fun _ _ _ _ => trivial, ⟨Nat.zero_le _, l1, rfl, hp, rfl, fun d hd => by cases hd⟩, ?_, ?_, ?_⟩
  · rintro i acc μ' ⟨_, l', rfl, hp', _, hq⟩
    refine ⟨rfl, ?_, D.ltL_all.mpr fun d hd => D.lt_mono (Nat.zero_le _) (hQ d (hq d hd))⟩
    show (D.ltL _ l' && cellsLt _ ρ) = true
    rw [D.ltL_mono (Nat.zero_le _) hp'.cl, hρ]
    rfl
  · rintro i x acc μ' hx ⟨hi, l', rfl, hp', ha, hq⟩
    have hlt := (List.getElem?_eq_some_iff.mp hx).1
    intro A2 G2 H2 σ2 v2 a2 r2 Q2 q2
    refine it i x acc l' hx hp' A2 G2 H2 σ2 v2 a2 r2 Q2 fun A3 G3 H3 σ3 δ3 μ3 a3 n3 hw c3 => q2 A3 G3 H3 σ3 δ3 μ3 a3 n3 hw ?_
    refine et_yes ⟨fun _ => ?_, fun z => (by cases z)⟩
    refine c3.imp fun d μ4 ⟨l2, e2, hd, hp2⟩ => ?_
    subst e2
    refine ⟨.lst l2 :: ρ, rfl, by omega, by omega, l2, rfl, hp2, by rw [List.length_append, ha]; rfl, fun d' hd' => ?_⟩
    rcases List.mem_append.mp hd' with h' | h'
    · exact hq d' h'
    · rw [List.mem_singleton.mp h']
      exact hd
  · rintro acc μ' ⟨_, l', rfl, hp', ha, hq⟩
    exact ie acc l' ha hq hp'

abbrev argPh (t : List D × Nat × Nat) : List D := [.lst t.1, intD t.2.1, intD t.2.2]
def PhD (d : D) : Prop := ∃ ps, d = phsL ps ∧ PhsOk ps ∧ ∀ p ∈ ps, ∀ u ∈ p, TagOk u
theorem argPh_cl {us : List D} {m k : Nat} (h : UnitsOk us) : D.ltL 0 (argPh (us, m, k)) = true := by
  show (D.ltL 0 us && (true && (true && true))) = true
  rw [h.cl]
  rfl
abbrev spPhr (K : PySem.W.Frag) : Sp := spDrawn K 800000000 argPh (fun t => UnitsOk t.1 ∧ (1 ≤ t.2.1 ∧ t.2.1 ≤ 4) ∧ 1 ≤ t.2.2 ∧ t.2.2 ≤ 10) (fun _ d => PhD d) 1000
theorem tags_of : ∀ {l : List D}, (∀ d ∈ l, TagD d) → ∃ p : List Str, l = p.map strD ∧ ∀ u ∈ p, TagOk u
  | [], _ => ⟨[], rfl, fun u hu => (by cases hu)⟩
  | d :: l, h => by
    obtain ⟨u, rfl, hu⟩ := h d List.mem_cons_self
    obtain ⟨p, rfl, hp⟩ := tags_of (l := l) fun x hx => h x (List.mem_cons_of_mem _ hx)
    refine ⟨u :: p, rfl, fun v hv => ?_⟩
    rcases List.mem_cons.mp hv with rfl | hv
    · exact hu
    · exact hp v hv
theorem pick_124 {xs : List Nat} {d : D} (hp : Pick (.lst (xs.map intD)) d) : ∃ m ∈ xs, d = intD m := by
  cases hp with
  | lst hm =>
    obtain ⟨m, hm2, rfl⟩ := List.mem_map.mp hm
    exact ⟨m, hm2, rfl⟩
abbrev st__law_phrases : Stmt := top 44
abbrev nm__law_phrases : List Str := ["purse", "units", "many", "most", "found", "left", "spin", "size", "turn"]
theorem sc__law_phrases : FnScope nm__law_phrases ["purse", "units", "many", "most"] (defScope st__law_phrases) := ⟨rfl, rfl, rfl, by decide +kernel, rfl, by decide +kernel, by decide +kernel⟩
theorem ok_phrases (F : Fun K "_law_phrases" "_law_phrases" st__law_phrases f fd) (T : Tx P w K mg base a) (c__law_draw : CalX P w K mg base 2 "_law_draw" ["purse", "many"] (spDraw K)) (c__law_one_of : CalX P w K mg base 3 "_law_one_of" ["purse", "some"] (spOneOf K)) (c__law_unit : CalX P w K mg base 4 "_law_unit" ["purse", "units"] (spUnit K)) : FnOk P w K mg base (L2.CX P w) 5 f fd ["purse", "units", "many", "most"] (spPhr K) := by
  refine F.okX sc__law_phrases (fun vs H Q E h => pro_len h fun _ => rfl) (fun cdv A outer s H vs Q E hr h => ⟨_, (pss_cons (ps_par (i := 4) (j := 5) rfl sc__law_phrases.nd rfl rfl (by decide) rfl rfl (pa_cons (pe_lst pa_nil) (pa_cons (pv 3) pa_nil)) (by rfl))
    (pss_cons (ps_for (passes_of rfl) rfl (pi_range1 rfl T.b_range (pa_cons (pe_op (kO K rPlus rfl op_plus) pe_int (pe_c c__law_draw hr (by first | decide | exact Nat.le_refl _) rfl (passes_call (takes_of rfl rfl rfl rfl) (fun _ _ _ _ h => h)) (pa_cons (pv 0) (pa_cons (pv 2) pa_nil)))) pa_nil)) (pg_name (i := 6) sc__law_phrases.nd rfl (by first | exact Or.inl rfl | exact Or.inr rfl))
      (pss_cons (ps_set (i := 7) sc__law_phrases.nd rfl (by first | exact Or.inl rfl | exact Or.inr rfl) (pe_callB (call_min2 rfl) (by rfl) T.b_min (by decide +kernel) (pa_cons (pv 5) (pa_cons (pe_op (kO K rPlus rfl op_plus) pe_int (pe_c c__law_draw hr (by first | decide | exact Nat.le_refl _) rfl (passes_call (takes_of rfl rfl rfl rfl) (fun _ _ _ _ h => h)) (pa_cons (pv 0) (pa_cons (pe_c c__law_one_of hr (by first | decide | exact Nat.le_refl _) rfl (passes_call (takes_of rfl rfl rfl rfl) (fun _ _ _ _ h => h)) (pa_cons (pv 0) (pa_cons (pe_lst (pa_cons pe_int (pa_cons pe_int (pa_cons pe_int pa_nil)))) pa_nil))) pa_nil)))) pa_nil))))
    (pss_cons (ps_if (pt_cmpR op_gt (pv 7) pe_int (nomark _)) (pss_one (ps_expr (pe_bmK (K := K) rfl PySem.F.plainAttrs_list PySem.F.slot_list_append PySem.F.type_list_append mt_append (pv 4) (pa_cons (pe_lc (own := [("turn", 8)]) (tt := tYes) (g := (gName 8)) rfl sc__law_phrases.nd (pi_range1 rfl T.b_range (pa_cons (pv 7) pa_nil)) (blkOk_by (own := [("turn", 8)]) (N := nm__law_phrases) (sc := (defScope st__law_phrases)) (by decide +kernel)) (fun _ _ _ _ _ => (pg_name (i := 8) sc__law_phrases.nd rfl (by first | exact Or.inl rfl | exact Or.inr rfl))) (fun _ _ _ _ _ => pts_nil) (fun _ _ _ _ _ => (pe_c c__law_unit hr (by first | decide | exact Nat.le_refl _) rfl passL (pa_cons (pv 0) (pa_cons (pv 1) pa_nil))))) pa_nil)))) pss_nil)
    (pss_one (ps_set (i := 5) sc__law_phrases.nd rfl (by first | exact Or.inl rfl | exact Or.inr rfl) (pe_op op_sub (pv 5) (pv 7)))))))
    (pss_one (ps_ret (pv 4))))), run_body h fun ⟨l, n, us, many, most⟩ S ⟨hp, hn, ⟨hu, ⟨hm1, hm4⟩, ht1, ht10⟩, _⟩ hl hcl wi => ?_⟩)
  have hp : PuOk n l := hp
  have hn : n ≤ 800000000 := hn
  have hu : UnitsOk us := hu
  have hm1 : 1 ≤ many := hm1
  have hm4 : many ≤ 4 := hm4
  have ht1 : 1 ≤ most := ht1
  have ht10 : most ≤ 10 := ht10
  have hS : S.A.length = 1 := hl
  refine se_seq (se_par (ea_cons (ee_open (ea_nil ⟨Nat.zero_le _, ?_⟩))))
  walk_at "pq"
  refine se_for (ie_rng1 ?_)
  walk_at "pq"
  refine ask_draw 0 ?_
  walk_at "pq"
  refine ⟨(many : Int), l, n, rfl, rfl, hp, by omega, by omega, by omega, fun v l1 hv hp1 => ?_⟩
  walk_at "pq"
  refine ⟨by omega, by omega, rfl, fun i δ μ => ∃ (x6 x7 x8 : Option D) (l' : List D) (ps : List (List Str)) (left : Nat), δ = [some (.own 0), some (.lst us), some (intD many), some (intD most), some (.own 1), some (intD left), x6, x7, x8] ∧ μ = [.lst l', .lst (ps.map phL)] ∧ PuOk (n + 1 + 30 * i) l' ∧ (∀ p ∈ ps, p ≠ [] ∧ ∀ u ∈ p, TagOk u) ∧ ps.flatten.length + left = most ∧ (0 < i → ps ≠ []) ∧ ps.length ≤ i, ⟨none, none, none, l1, [], most, rfl, rfl, hp1, fun p hp => (by cases hp), by show 0 + most = most; omega, fun h => absurd h (Nat.lt_irrefl 0), Nat.le_refl 0⟩, ?_, ?_⟩
  · rintro i x δ μ hx ⟨x6, x7, x8, l', ps, left, rfl, rfl, hp', hps, hfl, hne, hpl⟩
    obtain ⟨hi, rfl⟩ := rng_get hx
    have hi4 : i < 4 := by
      have : i < (1 + (v : Int)).toNat := hi
      omega
    refine ge_name ?_
    walk_at "pq"
    refine ask_draw 0 ?_
    walk_at "pq"
    refine ask_one 0 ?_
    walk_at "pq"
    refine ee_lst ?_
    walk_at "pq"
    refine ⟨.lst ([1, 2, 4].map intD), l', n + 1 + 30 * i, rfl, rfl, hp', by omega, .inl ⟨_, rfl, by decide, by decide, rfl⟩, rfl, fun d l2 hd hd0 hp2 => ?_⟩
    obtain ⟨z, hz, rfl⟩ := pick_124 hd
    have hz4 : 1 ≤ z ∧ z ≤ 4 := by
      simp only [List.mem_cons, List.not_mem_nil, or_false] at hz
      omega
    walk_at "pq"
    refine ⟨(z : Int), l2, n + 1 + 30 * i + 1, rfl, rfl, hp2, by omega, by omega, by omega, fun v2 l3 hv2 hp3 => ?_⟩
    refine oo_add (ea_nil (cc_min ?_))
    obtain ⟨sz, hsz, hsl, hs0, hs4⟩ : ∃ sz : Nat, (if (1 : Int) + (v2 : Int) < (left : Int) then (1 : Int) + (v2 : Int) else (left : Int)) = (sz : Int) ∧ sz ≤ left ∧ (0 < left → 0 < sz) ∧ sz ≤ 4 := by
      by_cases h : (1 : Int) + (v2 : Int) < (left : Int)
      · exact ⟨1 + v2, by rw [if_pos h]; omega, by omega, fun _ => by omega, by omega⟩
      · exact ⟨left, by rw [if_neg h], Nat.le_refl _, fun h => h, by omega⟩
    rw [hsz]
    have hzero : left = 0 → ps ≠ [] := fun h e => by
      rw [e] at hfl
      have : ([] : List (List Str)).flatten.length = 0 := rfl
      omega
    refine se_seq ?_
    refine se_to (fun δ1 μ1 => ∃ (x8 : Option D) (l4 : List D) (qs : List (List Str)), δ1 = [some (.own 0), some (.lst us), some (intD many), some (intD most), some (.own 1), some (intD left), some (.int (0 + (i : Int))), some (intD sz), x8] ∧ μ1 = [.lst l4, .lst (qs.map phL)] ∧ PuOk (n + 1 + 30 * (i + 1)) l4 ∧ (∀ p ∈ qs, p ≠ [] ∧ ∀ u ∈ p, TagOk u) ∧ qs.flatten.length + (left - sz) = most ∧ qs ≠ [] ∧ qs.length ≤ i + 1) ?_ ?_
    · walk_at "pq"
      refine ⟨fun h => ?_, fun h => ?_⟩
      · have h : (0 : Int) < (sz : Int) := of_decide_eq_true h
        have h0 : 0 < sz := by omega
        walk_at "pq"
        refine ee_bm ?_
        walk_at "pq"
        refine ⟨.lst (.own rfl), ?_⟩
        refine ea_cons ?_
        refine ee_lcW (n := n + 1 + 30 * i + 2) (c := 2) (ρ := [.lst (ps.map phL)]) (Q := TagD) (fun m => by show (D.ltL m (ps.map phL) && true) = true; rw [phs_cl]; rfl) (fun d hd => by obtain ⟨u, rfl, _⟩ := hd; rfl) ?_
        refine ie_rng1 ?_
        walk_at "pq"
        refine ⟨by omega, by omega, rfl, l3, rfl, hp3, by rw [rng_len]; omega, ?_, ?_⟩
        · rintro j y acc l4 hy hp4
          have hj : j < sz := by
            have := (rng_get hy).1
            omega
          refine gw_name (by decide) ?_
          refine ask_drawn 0 ?_
          walk_at "pq"
          refine ⟨us, l4, n + 1 + 30 * i + 2 + 2 * j, rfl, rfl, hp4, by omega, hu, by show (D.ltL 0 us && true) = true; rw [hu.cl]; rfl, fun d l5 hd hd0 hp5 => ?_⟩
          exact ⟨l5, rfl, hd, hp5.up (by omega)⟩
        · rintro acc l4 ha hq hp4
          rw [rng_len, Int.toNat_natCast] at ha hp4
          obtain ⟨p, rfl, hpt⟩ := tags_of hq
          rw [List.length_map] at ha
          walk_at "pq"
          refine mm_append (l := ps.map phL) rfl (by rw [List.length_map]; omega) ?_
          refine ⟨_, l4, ps ++ [p], rfl, by rw [List.map_append]; rfl, hp4.up (by omega), fun q hq => ?_, ?_, by simp, by rw [List.length_append]; show ps.length + 1 ≤ _; omega⟩
          · rcases List.mem_append.mp hq with hq | hq
            · exact hps q hq
            · rw [List.mem_singleton.mp hq]
              exact ⟨fun e => by rw [e] at ha; have : ([] : List Str).length = 0 := rfl; omega, hpt⟩
          · rw [List.flatten_append, List.length_append, show [p].flatten = p by simp, ha]
            omega
      · have h : ¬ (0 : Int) < (sz : Int) := of_decide_eq_false h
        have h0 : left = 0 := Nat.eq_zero_of_not_pos fun z => by have := hs0 z; omega
        walk_at "pq"
        exact ⟨_, l3, ps, rfl, rfl, hp3.up (by omega), hps, by omega, hzero h0, by omega⟩
    rintro δ1 μ1 ⟨x8, l4, qs, rfl, rfl, h1, h2, h3, h4, h5⟩
    walk_at "pq"
    have e : (left : Int) - (sz : Int) = ((left - sz : Nat) : Int) := by omega
    exact ⟨some (.int (0 + (i : Int))), some (intD sz), x8, l4, qs, left - sz, congrArg (fun z => [some (.own 0), some (.lst us), some (intD many), some (intD most), some (.own 1), some (D.int z), some (.int (0 + (i : Int))), some (intD sz), x8]) e, rfl, h1, h2, h3, fun _ => h4, h5⟩
  rintro δ μ ⟨x6, x7, x8, l', ps, left, rfl, rfl, hp', hps, hfl, hne, hpl⟩
  rw [rng_len] at hp' hne
  have hne := hne (by omega)
  have hp2 : PuOk (n + 1000) l' := hp'.up (by omega)
  refine se_shut (l := ps.map phL) 1 (by rw [hS]; exact Nat.le_refl _) rfl ?_
  show SE K S _ [some (.own 0), some (.lst (D.subL _ us)), some (intD many), some (intD most), some (.lst (ps.map phL)), some (intD left), _, _, _] [.lst (D.subL _ l'), .off] _
  rw [subL_cl hp'.cl, subL_cl hu.cl]
  walk_at "pq"
  walk_at "gp"
  exact gave_drawn (n := n + 1000) hS (d := phsL ps) (phs_cl (m := 0)) ⟨ps, rfl, ⟨hne, fun p hp => (hps p hp).1, by omega⟩, fun p hp => (hps p hp).2⟩ hp2
end


section
variable {P : Program} {w : World} {K : PySem.W.Frag} {mg : Str → Option Value} {base : Heap} {a : Ad} {f : Addr} {fd : FuncData}
/-- a def of the law over a purse and a speaker -/
abbrev spWith (K : PySem.W.Frag) (c : Addr) (B : Nat) {T : Type} (arg : T → List D) (pre : Spk → T → Prop) (post : Spk → T → D → Spk → Prop) (q : Nat) : Sp :=
  Pro K (T := List D × Nat × Addr × Spk × T) (fun t => .lst t.1 :: spkC 1 c t.2.2.1 t.2.2.2.1) (fun t => .own 0 :: .own 1 :: arg t.2.2.2.2) (fun t => (PuOk t.2.1 t.1 ∧ t.2.1 ≤ B) ∧ pre t.2.2.2.1 t.2.2.2.2 ∧ D.ltL 0 (arg t.2.2.2.2) = true)
    (fun t d μ => d.lt 0 = true ∧ ∃ (l' : List D) (s' : Spk), PuOk (t.2.1 + q) l' ∧ post t.2.2.2.1 t.2.2.2.2 d s' ∧ μ = .lst l' :: spkC 1 c t.2.2.1 s') (fun _ _ _ _ => False)
theorem ask_with {S : Bs} {δ : Sl} {μ : List Cell} {C : D → List Cell → Prop} {ta : TA} {E : XK} {c : Addr} {B q : Nat} {T : Type} {arg : T → List D} {pre : Spk → T → Prop} {post : Spk → T → D → Spk → Prop} (p k : Nat) (hpk : p < k)
    (h : EA K S ta δ μ fun ds μ1 => ∃ (t : T) (l r : List Cell) (dx : Addr) (s : Spk) (u : List D) (n : Nat), ds = .own p :: .own k :: arg t ∧ μ1 = l ++ spkC k c dx s ++ r ∧ l.length = k ∧ l[p]? = some (.lst u) ∧ (PuOk n u ∧ n ≤ B) ∧ pre s t ∧ D.ltL 0 (arg t) = true ∧ ∀ u' s' d, d.lt 0 = true → PuOk (n + q) u' → post s t d s' → C d (l.set p (.lst u') ++ spkC k c dx s' ++ r)) : EE K S (tCall (spWith K c B arg pre post q) [] E ta) δ μ C :=
  ee_callH (CE := fun _ _ _ => False) [p, k, k + 1, k + 2, k + 3] Wi.none fun A G H σ a' Q q' => h A G H σ a' Q fun vs ds A1 G1 H1 μ1 m nn rr ⟨t, l, r, dx, s, u, n, e1, e2, e3, hu, hpu, hp, hcl, hC⟩ => q' vs ds A1 G1 H1 μ1 m nn rr (by
    subst e1 e2
    obtain ⟨g0, g1, g2, g3⟩ := @spk_get l r k c dx s e3
    have gp : (l ++ spkC k c dx s ++ r)[p]? = some (.lst u) := by
      rw [List.append_assoc, List.getElem?_append_left (by omega)]
      exact hu
    have ne : ∀ {i j : Nat}, i < j → (k + i == k + j) = false := fun h => beq_eq_false_iff_ne.mpr (by omega)
    have np : ∀ {i : Nat}, (p == k + i) = false := beq_eq_false_iff_ne.mpr (by omega)
    have n01 : (k == k + 1) = false := ne (i := 0) (by decide)
    have n02 : (k == k + 2) = false := ne (i := 0) (by decide)
    have n03 : (k == k + 3) = false := ne (i := 0) (by decide)
    have n12 : (k + 1 == k + 2) = false := ne (by decide)
    have n13 : (k + 1 == k + 3) = false := ne (by decide)
    have n23 : (k + 2 == k + 3) = false := ne (by decide)
    have p0 : (p == k) = false := np (i := 0)
    have p1 : (p == k + 1) = false := np
    have p2 : (p == k + 2) = false := np
    have p3 : (p == k + 3) = false := np
    have ip : [p, k, k + 1, k + 2, k + 3].idxOf p = 0 := by rw [List.idxOf_cons, beq_self_eq_true]; rfl
    have i0 : [p, k, k + 1, k + 2, k + 3].idxOf k = 1 := by rw [List.idxOf_cons, p0, List.idxOf_cons, beq_self_eq_true]; rfl
    have i1 : [p, k, k + 1, k + 2, k + 3].idxOf (k + 1) = 2 := by rw [List.idxOf_cons, p1, List.idxOf_cons, n01, List.idxOf_cons, beq_self_eq_true]; rfl
    have i2 : [p, k, k + 1, k + 2, k + 3].idxOf (k + 2) = 3 := by rw [List.idxOf_cons, p2, List.idxOf_cons, n02, List.idxOf_cons, n12, List.idxOf_cons, beq_self_eq_true]; rfl
    have i3 : [p, k, k + 1, k + 2, k + 3].idxOf (k + 3) = 4 := by rw [List.idxOf_cons, p3, List.idxOf_cons, n03, List.idxOf_cons, n13, List.idxOf_cons, n23, List.idxOf_cons, beq_self_eq_true]; rfl
    have em : [p, k, k + 1, k + 2, k + 3].map (fun j => (l ++ spkC k c dx s ++ r).getD j .off) = .lst u :: spkC k c dx s := by
      rw [List.map_cons, List.map_cons, List.map_cons, List.map_cons, List.map_cons, List.map_nil, getDC gp, getDC g0, getDC g1, getDC g2, getDC g3]
      rfl
    have hz : (l ++ spkC k c dx s ++ r).length = k + 4 + r.length := by
      rw [List.length_append, List.length_append, e3]
      rfl
    refine ⟨(u, n, dx, s, t), ⟨hpu, hp, hcl⟩, ?_, fun j hj => ?_, ?_, fun j hj => ?_, ?_, ?_, fun d ν n' ⟨h1, u', s', h2, h3, h4⟩ _ _ _ _ => ?_, fun _ _ _ z _ _ _ => z⟩
    · simp
      omega
    · rw [hz]
      simp at hj
      omega
    · rw [em, List.map_cons, spk_ren (j := 1) i1 i2 i3]
      show _ = Cell.lst (D.renL _ u) :: _
      rw [renL_cl hpu.1.cl]
    · have hm := List.mem_map_of_mem (f := fun j => (l ++ spkC k c dx s ++ r).getD j .off) hj
      rw [em] at hm
      rcases List.mem_cons.mp hm with e | hm
      · rw [e]
        exact hsL_cl hpu.1.cl
      · exact spk_hs (by simp) (by simp) (by simp) _ hm
    · show (([p, k, k + 1, k + 2, k + 3].contains p) && (([p, k, k + 1, k + 2, k + 3].contains k) && D.hsL _ (arg t))) = true
      rw [hsL_cl hcl]
      simp
    · show D.own ([p, k, k + 1, k + 2, k + 3].idxOf p) :: D.own ([p, k, k + 1, k + 2, k + 3].idxOf k) :: D.renL _ (arg t) ++ [] = _
      rw [renL_cl hcl, ip, i0, List.append_nil]
    · have h4 : ν = .lst u' :: spkC 1 c dx s' := h4
      have h2 : PuOk (n + q) u' := h2
      subst h4
      rw [ren_cl h1]
      have eb : (spkC 1 c dx s').map (Cell.ren (back [p, k, k + 1, k + 2, k + 3] (l ++ spkC k c dx s ++ r).length)) = spkC k c dx s' := spk_ren rfl rfl rfl
      have e : behindC [p, k, k + 1, k + 2, k + 3] (l ++ spkC k c dx s ++ r).length (.lst u' :: spkC 1 c dx s') (l ++ spkC k c dx s ++ r) = l.set p (.lst u') ++ spkC k c dx s' ++ r := by
        show put [k, k + 1, k + 2, k + 3] ((spkC 1 c dx s').map _) ((l ++ spkC k c dx s ++ r).set p (.lst (D.renL _ u'))) ++ [] = _
        rw [eb, List.append_nil, renL_cl h2.cl, List.append_assoc, List.set_append_left _ _ (by omega), ← List.append_assoc]
        exact put4 (by rw [List.length_set]; exact e3)
      rw [e]
      exact hC u' s' d h1 h2 h3)
end


/-! ticks in parts -/
theorem ticks_add {b : Nat} : ∀ {a : Nat} {s : Stt}, ticks (a + b) s = ((ticks b (ticks a s).1).1, (ticks a s).2 ++ (ticks b (ticks a s).1).2)
  | 0, s => by rw [Nat.zero_add]; rfl
  | a + 1, s => by
    have ih := ticks_add (a := a) (b := b) (s := (tick s).1)
    rw [show a + 1 + b = (a + b) + 1 by omega]
    show ((ticks (a + b) (tick s).1).1, (tick s).2 ++ (ticks (a + b) (tick s).1).2) = _
    rw [ih]
    show (_, (tick s).2 ++ ((ticks a (tick s).1).2 ++ _)) = (_, ((tick s).2 ++ (ticks a (tick s).1).2) ++ _)
    rw [List.append_assoc]
    rfl
theorem tick1_stp {s : Stt} : (tick s).1.stp = false := by
  unfold tick
  split
  · rfl
  · split
    · rfl
    · unfold stepT
      split
      · rfl
      · split <;> rfl
theorem tickN_stp : ∀ {k : Nat} {s : Stt}, 1 ≤ k → (ticks k s).1.stp = false
  | 0, _, h => absurd h (by decide)
  | 1, s, _ => tick1_stp
  | k + 2, s, _ => by
    show (ticks (k + 1) (tick s).1).1.stp = false
    exact tickN_stp (Nat.le_add_left 1 k)
theorem do_tick {k n : Nat} {s : Stt} (h : 1 ≤ k) : doDeed s n (.tick k) = ticks k s := by
  show ({ (ticks k s).1 with stp := false }, (ticks k s).2) = _
  have e := @tickN_stp k s h
  have e2 : ({ (ticks k s).1 with stp := false } : Stt) = (ticks k s).1 := by
    rw [← e]
  rw [e2]
theorem add_tick {ds : List Deed} {a b : Nat} : addD (addD ds (.tick a)) (.tick b) = addD ds (.tick (a + b)) := by
  by_cases q : ∃ m, ds[ds.length - 1]? = some (.tick m)
  · obtain ⟨m, hx⟩ := q
    have hl := (List.getElem?_eq_some_iff.mp hx).1
    rw [add_yes hx, add_yes hx]
    have h2 : (ds.set (ds.length - 1) (.tick (m + a)))[(ds.set (ds.length - 1) (.tick (m + a))).length - 1]? = some (.tick (m + a)) := by
      rw [List.length_set, List.getElem?_set_self hl]
    rw [add_yes h2, List.length_set, List.set_set, Nat.add_assoc]
  · have no : ∀ k, addD ds (.tick k) = ds ++ [.tick k] := fun k => by
      cases hx : ds[ds.length - 1]? with
      | none =>
        unfold addD
        rw [hx]
      | some x =>
        refine add_no2 hx ?_
        cases x with
        | tick m => exact absurd ⟨m, hx⟩ q
        | _ => rfl
    rw [no, no]
    have h2 : (ds ++ [Deed.tick a])[(ds ++ [Deed.tick a]).length - 1]? = some (.tick a) := by
      rw [List.length_append]
      show (ds ++ [Deed.tick a])[ds.length + 1 - 1]? = _
      rw [Nat.add_sub_cancel, List.getElem?_append_right (Nat.le_refl _), Nat.sub_self]
      rfl
    rw [add_yes h2, List.length_append]
    show (ds ++ [Deed.tick a]).set (ds.length + 1 - 1) _ = _
    rw [Nat.add_sub_cancel, List.set_append_right _ _ (Nat.le_refl _), Nat.sub_self]
    rfl
theorem done_tick {s : Spk} {a b : Nat} (ha : 1 ≤ a) (hb : 1 ≤ b) : doneS (doneS s (.tick a)) (.tick b) = doneS s (.tick (a + b)) ∧ doneH s (.tick a) ++ doneH (doneS s (.tick a)) (.tick b) = doneH s (.tick (a + b)) := by
  have e1 := fun n => @do_tick a n s.st ha
  have e2 := fun n => @do_tick b n (ticks a s.st).1 hb
  have e3 := fun n => @do_tick (a + b) n s.st (by omega)
  have e4 := @ticks_add b a s.st
  constructor
  · unfold doneS
    rw [e1, e3, e4]
    show Spk.mk (doDeed (ticks a s.st).1 _ (.tick b)).1 (addD (addD s.ds _) _) ((s.hu ++ _) ++ heardE (doDeed (ticks a s.st).1 _ (.tick b)).2) ((s.pp ++ _) ++ passedE (doDeed (ticks a s.st).1 _ (.tick b)).2) = _
    rw [e2, add_tick, List.append_assoc, List.append_assoc]
    show Spk.mk _ _ (s.hu ++ (heardE (ticks a s.st).2 ++ heardE (ticks b (ticks a s.st).1).2)) (s.pp ++ (passedE (ticks a s.st).2 ++ passedE (ticks b (ticks a s.st).1).2)) = _
    rw [← heardE_app, ← passedE_app]
  · unfold doneH doneS
    rw [e1, e3, e4]
    show heardE (ticks a s.st).2 ++ heardE (doDeed (ticks a s.st).1 _ (.tick b)).2 = heardE ((ticks a s.st).2 ++ _)
    rw [e2, heardE_app]


section
variable {P : Program} {w : World} {K : PySem.W.Frag} {mg : Str → Option Value} {base : Heap} {a : Ad} {f : Addr} {fd : FuncData}
local macro_rules | `(tactic| walk_at "pf") => `(tactic| repeat (first | walk_at "p1" | (with_reducible refine ee_fldS (ns := nsS) (f := Str.ofString "state") (by with_unfolding_all rfl) (by with_unfolding_all rfl) (by assumption) (by assumption) (by with_unfolding_all exact f_st) ?_) | (with_reducible refine ee_fldS (ns := nsS) (f := Str.ofString "deeds") (by with_unfolding_all rfl) (by with_unfolding_all rfl) (by assumption) (by assumption) (by with_unfolding_all exact f_ds) ?_) | (with_reducible refine ee_fldS (ns := nsS) (f := Str.ofString "heard_units") (by with_unfolding_all rfl) (by with_unfolding_all rfl) (by assumption) (by assumption) (by with_unfolding_all exact f_hu) ?_) | (with_reducible refine ee_fldS (ns := nsS) (f := Str.ofString "passed_phrases") (by with_unfolding_all rfl) (by with_unfolding_all rfl) (by assumption) (by assumption) (by with_unfolding_all exact f_pp) ?_) | (refine oo_ixT rfl ?_)))
local macro_rules | `(tactic| walk_at "pq") => `(tactic| repeat (first | walk_at "p1" | (refine oo_ixT rfl ?_)))
theorem se_par3 {S : Bs} {δ : Sl} {μ : List Cell} {E : Cn} {i j n : Nat} {tz : TA} (h : EA K S tz δ μ fun ds μ1 => ∃ x y z, ds = [x, y, z] ∧ E.nx (((δ.set i (some x)).set j (some y)).set n (some z)) μ1) : SE K S (tPar3 i j n tz) δ μ E := fun A G H σ a F f =>
  h A G H σ a _ fun vs ds A1 G1 H1 μ1 m1 n1 r1 ⟨x, y, z, e, c⟩ => by
    subst e
    cases r1 with
    | cons rx r =>
      cases r with
      | cons ry r =>
        cases r with
        | cons rz r =>
          cases r
          exact ⟨_, _, _, rfl, f.nx A1 G1 H1 _ _ μ1 ⟨m1, En.set rz n (En.set ry j (En.set rx i (n1.en a.env)))⟩ n1 c⟩
def dealtS (s : Spk) (k : Nat) : Spk := if k = 0 then s else doneS s (.tick k)
def dealtH (s : Spk) (k : Nat) : List (Str × Str) := if k = 0 then [] else doneH s (.tick k)
theorem dealt_step {s : Spk} {k p : Nat} (hp : 1 ≤ p) : doneS (dealtS s k) (.tick p) = dealtS s (k + p) ∧ dealtH s k ++ doneH (dealtS s k) (.tick p) = dealtH s (k + p) := by
  unfold dealtS dealtH
  rw [if_neg (by omega : ¬ k + p = 0), if_neg (by omega : ¬ k + p = 0)]
  by_cases h : k = 0
  · subst h
    rw [if_pos rfl, if_pos rfl, Nat.zero_add]
    exact ⟨rfl, rfl⟩
  · rw [if_neg h, if_neg h]
    exact done_tick (by omega) hp
theorem dealt_b {n t : Nat} {s : Spk} {k : Nat} (h : SpkB n t s) (hk : k ≤ 4000) : SpkB (n + 1) (t + k) (dealtS s k) := by
  unfold dealtS
  by_cases e : k = 0
  · rw [if_pos e]
    exact ⟨h.ok, h.ds, Nat.le_succ_of_le h.n, Nat.le_trans h.hu (Nat.le_add_right _ _), Nat.le_trans h.pp (Nat.le_add_right _ _)⟩
  · rw [if_neg e]
    exact done_b (d := .tick k) h (show 1 ≤ k ∧ k ≤ 4000 from ⟨by omega, hk⟩)
abbrev argDealt (t : Nat × Nat × Nat × Bool) : List D := [intD t.2.2.1, .bl t.2.2.2]
abbrev spDealt (K : PySem.W.Frag) (c : Addr) : Sp := spWith K c 900000000 (T := Nat × Nat × Nat × Bool) argDealt (fun s t => SpkB t.1 t.2.1 s ∧ t.1 ≤ 8000 ∧ t.2.1 ≤ 80000 ∧ 1 ≤ t.2.2.1 ∧ t.2.2.1 ≤ 2000) (fun s t d s' => d = .lst ((doneH s (.tick t.2.2.1)).map huD) ∧ s' = doneS s (.tick t.2.2.1)) 20
abbrev st__law_dealt : Stmt := top 45
abbrev nm__law_dealt : List Str := ["purse", "speaker", "many", "is_whole_v", "found", "left", "way", "spin", "part"]
theorem sc__law_dealt : FnScope nm__law_dealt ["purse", "speaker", "many", "is_whole_v"] (defScope st__law_dealt) := ⟨rfl, rfl, rfl, by decide +kernel, rfl, by decide +kernel, by decide +kernel⟩
theorem ok_dealt (F : Fun K "_law_dealt" "_law_dealt" st__law_dealt f fd) (T : Tx P w K mg base a) (c__law_draw : CalX P w K mg base 2 "_law_draw" ["purse", "many"] (spDraw K)) (m_tick : CalM P w K mg base 9 a.eSpeaker "tick" ["self", "many"] (spTickM K a.eSpeaker)) : FnOk P w K mg base (L2.CX P w) 10 f fd ["purse", "speaker", "many", "is_whole_v"] (spDealt K a.eSpeaker) := by
  refine F.okX sc__law_dealt (fun vs H Q E h => pro_len h fun _ => rfl) (fun cdv A outer s H vs Q E hr h => ⟨_, (pss_cons (ps_par3 (i := 4) (j := 5) (l := 6) rfl sc__law_dealt.nd rfl rfl rfl (by decide) (by decide) (by decide) rfl rfl rfl (pa_cons (pe_lst pa_nil) (pa_cons (pv 2) (pa_cons (pe_ifExp (pt_val (pv 3)) pe_int (pe_c c__law_draw hr (by first | decide | exact Nat.le_refl _) rfl (passes_call (takes_of rfl rfl rfl rfl) (fun _ _ _ _ h => h)) (pa_cons (pv 0) (pa_cons pe_int pa_nil)))) pa_nil))) (by rfl))
    (pss_cons (ps_for (passes_of rfl) rfl (pi_range1 rfl T.b_range (pa_cons pe_int pa_nil)) (pg_name (i := 7) sc__law_dealt.nd rfl (by first | exact Or.inl rfl | exact Or.inr rfl))
      (pss_one (ps_if (pt_cmpR op_gt (pv 5) pe_int (nomark _)) (pss_cons (ps_set (i := 8) sc__law_dealt.nd rfl (by first | exact Or.inl rfl | exact Or.inr rfl) (pe_ifExp (PW.pt (pw_or (pt_cmpR (kO K rEqU rfl (op_eqU (hu64 hr))) (pv 6) pe_int (nomark _)) (pw_or1 (pt_cmpR op_gt (pv 7) pe_int (nomark _))))) (pe_callB (call_min2 rfl) (by rfl) T.b_min (by decide +kernel) (pa_cons (pv 5) (pa_cons pe_int pa_nil))) (pe_ifExp (pt_cmpR (kO K rEqU rfl (op_eqU (hu64 hr))) (pv 6) pe_int (nomark _)) pe_int (pe_op (kO K rPlus rfl op_plus) pe_int (pe_c c__law_draw hr (by first | decide | exact Nat.le_refl _) rfl (passes_call (takes_of rfl rfl rfl rfl) (fun _ _ _ _ h => h)) (pa_cons (pv 0) (pa_cons (pe_callB (call_min2 rfl) (by rfl) T.b_min (by decide +kernel) (pa_cons (pv 5) (pa_cons pe_int pa_nil))) pa_nil)))))))
    (pss_cons (ps_set (i := 4) sc__law_dealt.nd rfl (by first | exact Or.inl rfl | exact Or.inr rfl) (pe_op (kO K rPlus rfl op_plus) (pv 4) (pe_m m_tick hr (by first | decide | exact Nat.le_refl _) (passes_call (takes_of rfl rfl rfl rfl) (fun _ _ _ _ h => h)) (pv 1) (pa_cons (pv 8) pa_nil))))
    (pss_one (ps_set (i := 5) sc__law_dealt.nd rfl (by first | exact Or.inl rfl | exact Or.inr rfl) (pe_op op_sub (pv 5) (pv 8)))))) pss_nil)))
    (pss_one (ps_ret (pv 4))))), run_body h fun ⟨u, n, dx, s, nn, tt, many, b⟩ S ⟨⟨hp, hn⟩, ⟨hsp, hnn, htt, hm1, hm2⟩, _⟩ hl hcl wi => ?_⟩)
  have hp : PuOk n u := hp
  have hn : n ≤ 900000000 := hn
  have hsp : SpkB nn tt s := hsp
  have hnn : nn ≤ 8000 := hnn
  have htt : tt ≤ 80000 := htt
  have hm1 : 1 ≤ many := hm1
  have hm2 : many ≤ 2000 := hm2
  have hS : S.A.length = 5 := hl
  refine se_seq (se_par3 ?_)
  refine ea_cons (ee_lst (ea_nil ⟨Nat.zero_le _, ?_⟩))
  refine ea_cons (ee_var rfl ?_)
  refine ea_cons (EE.imp (C := fun d m => ∃ (W : Nat) (u1 : List D), d = intD W ∧ m = .lst u1 :: spkC 1 a.eSpeaker dx s ∧ PuOk (n + 1) u1) ?_ ?_)
  · cases b with
    | true =>
      walk_at "pq"
      exact ⟨0, u, rfl, rfl, hp.up (Nat.le_succ n)⟩
    | false =>
      walk_at "pq"
      refine ask_draw 0 ?_
      walk_at "pq"
      exact ⟨3, u, n, rfl, rfl, hp, by omega, by decide, by decide, fun v u' hv hp' => ⟨v, u', rfl, rfl, hp'⟩⟩
  rintro d μ1 ⟨W, u1, rfl, rfl, hp1⟩
  refine ea_nil ⟨_, _, _, rfl, ?_⟩
  show SE K S _ [some (.own 0), some (.own 1), some (intD many), some (.bl b), some (.lst []), some (intD many), some (intD W), none, none] (.lst u1 :: spkC 1 a.eSpeaker dx s) _
  refine se_seq ?_
  refine se_for (ie_rng1 ?_)
  walk_at "pq"
  refine ⟨by decide, by decide, rfl, fun i δ μ => ∃ (x7 x8 : Option D) (u' : List D) (k left : Nat), δ = [some (.own 0), some (.own 1), some (intD many), some (.bl b), some (.lst ((dealtH s k).map huD)), some (intD left), some (intD W), x7, x8] ∧ μ = .lst u' :: spkC 1 a.eSpeaker dx (dealtS s k) ∧ PuOk (n + 1 + i) u' ∧ k + left = many ∧ (9 ≤ i → left ≤ 1000) ∧ (10 ≤ i → left = 0), ⟨none, none, u1, 0, many, rfl, rfl, hp1, Nat.zero_add _, fun h => absurd h (by decide), fun h => absurd h (by decide)⟩, ?_, ?_⟩
  · rintro i x δ μ hx ⟨x7, x8, u', k, left, rfl, rfl, hp', hk, h9, h10⟩
    obtain ⟨hi, rfl⟩ := rng_get hx
    have hi10 : i < 10 := hi
    refine ge_name ?_
    walk_at "pq"
    refine ⟨fun h => ?_, fun h => ?_⟩
    · have hl : 0 < left := by
        have := of_decide_eq_true h
        omega
      refine se_seq (se_asg (EE.imp (C := fun d m => ∃ (p : Nat) (u2 : List D), d = intD p ∧ m = .lst u2 :: spkC 1 a.eSpeaker dx (dealtS s k) ∧ PuOk (n + 1 + (i + 1)) u2 ∧ 1 ≤ p ∧ p ≤ left ∧ p ≤ 1000 ∧ (8 ≤ i → p = min left 1000)) ?_ ?_))
      · have em : (if (1000 : Int) < (left : Int) then (1000 : Int) else (left : Int)) = ((min left 1000 : Nat) : Int) := by split <;> omega
        walk_at "pq"
        refine ⟨fun hW => ⟨fun _ => ?_, fun h => by cases h⟩, fun hW => ?_⟩
        · walk_at "pq"
          rw [em]
          exact ⟨min left 1000, u', rfl, rfl, hp'.up (by omega), by omega, by omega, by omega, fun _ => rfl⟩
        · walk_at "pq"
          refine ⟨fun h8 => ?_, fun h8 => ?_⟩
          · walk_at "pq"
            rw [em]
            exact ⟨min left 1000, u', rfl, rfl, hp'.up (by omega), by omega, by omega, by omega, fun _ => rfl⟩
          · have h8 := of_decide_eq_false h8
            walk_at "pq"
            refine ⟨fun h1 => ?_, fun h1 => ?_⟩
            · walk_at "pq"
              exact ⟨1, u', rfl, rfl, hp'.up (by omega), by omega, by omega, by omega, fun h => by omega⟩
            · walk_at "pq"
              refine ask_draw 0 ?_
              walk_at "pq"
              rw [em]
              refine ⟨((min left 1000 : Nat) : Int), u', n + 1 + i, rfl, rfl, hp', by omega, by omega, by omega, fun v u3 hv hp3 => ?_⟩
              walk_at "pq"
              exact ⟨1 + v, u3, by show D.int (1 + (v : Int)) = D.int ((1 + v : Nat) : Int); rw [Int.natCast_add]; rfl, rfl, hp3.up (by omega), by omega, by omega, by omega, fun h => by omega⟩
      · rintro d μ1 ⟨p, u2, rfl, rfl, hp2, p1, p2, p3, p4⟩
        have kb := dealt_b hsp (k := k) (by omega)
        obtain ⟨k1, k2⟩ := kb.k (by omega) (by omega)
        obtain ⟨d1, d2⟩ := @dealt_step s k p p1
        refine se_seq (se_asg ?_)
        walk_at "pq"
        refine ask_m 1 [.lst u2] [] rfl (List.append_nil _).symm rfl (by decide) ?_
        walk_at "pq"
        refine ⟨p, [.lst u2], [], dx, _, rfl, (List.append_nil _).symm, rfl, ⟨k1, ⟨p1, p3⟩, k2⟩, rfl, ?_⟩
        have hz1 : (dealtH s k).length ≤ 4000 := by
          unfold dealtH
          split
          · exact Nat.zero_le _
          · exact Nat.le_trans (heard_do (d := .tick k)).1 (show k ≤ 4000 by omega)
        have hz2 : (doneH (dealtS s k) (.tick p)).length ≤ 4000 := Nat.le_trans (heard_do (d := .tick p)).1 (show p ≤ 4000 by omega)
        refine oo_addL (by rw [List.length_map, List.length_map]; omega) ?_
        rw [← List.map_append, d2, d1]
        walk_at "pq"
        refine ⟨some (.int (0 + (i : Int))), some (intD p), u2, k + p, left - p, ?_, rfl, hp2, by omega, fun h => by omega, fun h => by omega⟩
        have e : (left : Int) - (p : Int) = ((left - p : Nat) : Int) := by omega
        rw [e]
        rfl
    · have hl : left = 0 := by
        have := of_decide_eq_false h
        omega
      walk_at "pq"
      exact ⟨_, x8, u', k, left, rfl, rfl, hp'.up (by omega), hk, fun _ => by omega, fun _ => hl⟩
  · rintro δ μ ⟨x7, x8, u', k, left, rfl, rfl, hp', hk, h9, h10⟩
    have hl0 : left = 0 := h10 (Nat.le_refl 10)
    have hp' : PuOk (n + 1 + 10) u' := hp'
    have ek : k = many := by omega
    subst ek
    have e1 : dealtS s k = doneS s (.tick k) := if_neg (by omega)
    have e2 : dealtH s k = doneH s (.tick k) := if_neg (by omega)
    rw [e1, e2]
    walk_at "pq"
    have h0 : (Gave S (fun d μ => d.lt 0 = true ∧ ∃ (l' : List D) (s' : Spk), PuOk (n + 20) l' ∧ (d = .lst ((doneH s (.tick k)).map huD) ∧ s' = doneS s (.tick k)) ∧ μ = .lst l' :: spkC 1 a.eSpeaker dx s') (.lst ((doneH s (.tick k)).map huD)) (.lst u' :: spkC 1 a.eSpeaker dx (doneS s (.tick k)))) := by
      have et : (Cell.lst u' :: spkC 1 a.eSpeaker dx (doneS s (.tick k))).take S.A.length = .lst u' :: spkC 1 a.eSpeaker dx (doneS s (.tick k)) := by
        rw [hS]
        rfl
      refine gave (D.ltL_mono (Nat.zero_le _) hus_cl) ?_ ?_
      · rw [et, hS]
        show (D.ltL 5 u' && cellsLt 5 (spkC 1 a.eSpeaker dx (doneS s (.tick k)))) = true
        rw [D.ltL_mono (Nat.zero_le _) hp'.cl, spk_lt (show 1 + 3 < 5 by decide)]
        rfl
      · rw [et]
        exact ⟨hus_cl, u', _, hp'.up (by omega), ⟨rfl, rfl⟩, rfl⟩
    exact h0
end


section
variable {P : Program} {w : World} {K : PySem.W.Frag} {mg : Str → Option Value} {base : Heap} {a : Ad} {f : Addr} {fd : FuncData}
local macro_rules | `(tactic| walk_at "pq") => `(tactic| repeat (first | walk_at "p1" | (refine oo_ixT rfl ?_)))
def rowG (g : Str) : D → D := fun u => .tup [.str g, u]
abbrev spRow (K : PySem.W.Frag) : Sp := ProP K (T := Str × List Str) (fun t => [.str t.1, .lst (t.2.map strD)]) (fun t => t.2.length ≤ 1000000) (fun t r => r = .lst ((t.2.map fun u => (t.1, u)).map huD)) (fun _ _ _ => False)
abbrev st__law_row : Stmt := top 47
abbrev nm__law_row : List Str := ["tag", "units", "unit"]
theorem sc__law_row : FnScope nm__law_row ["tag", "units"] (defScope st__law_row) := ⟨rfl, rfl, rfl, by decide +kernel, rfl, by decide +kernel, by decide +kernel⟩
theorem ok_row (F : Fun K "_law_row" "_law_row" st__law_row f fd) (T : Tx P w K mg base a) : FnOk P w K mg base (L2.CX P w) 1 f fd ["tag", "units"] (spRow K) := by
  refine F.okX sc__law_row (fun vs H Q E h => pro_len h fun _ => rfl) (fun cdv A outer s H vs Q E hr h => ⟨_, (pss_one (ps_ret (pe_lc (own := [("unit", 2)]) (tt := tYes) (g := (gName 2)) rfl sc__law_row.nd (pi_listK (K := K) rfl (pv 1)) (blkOk_by (own := [("unit", 2)]) (N := nm__law_row) (sc := (defScope st__law_row)) (by decide +kernel)) (fun _ _ _ _ _ => (pg_name (i := 2) sc__law_row.nd rfl (by first | exact Or.inl rfl | exact Or.inr rfl))) (fun _ _ _ _ _ => pts_nil) (fun _ _ _ _ _ => (pe_tup (pa_cons (pv 0) (pa_cons (pv 2) pa_nil))))))), run_body h fun ⟨g, us⟩ S hz hl hcl wi => ?_⟩)
  have hz : us.length ≤ 1000000 := hz
  have hl : S.A.length = 0 := hl
  walk_at "pq"
  refine ee_lc (ie_list ?_)
  walk_at "pq"
  refine ⟨_, .inl rfl, fun _ h => h, trivial, fun _ => true, rowG g, by rw [List.length_map]; omega, fun x hx _ => ?_, fun x acc hx => ?_, ?_⟩
  · obtain ⟨u, _, rfl⟩ := List.mem_map.mp hx
    rfl
  · obtain ⟨u, _, rfl⟩ := List.mem_map.mp hx
    refine gw_name (by decide) ?_
    walk_at "pq"
    refine ⟨rfl, rfl, fun _ => ?_⟩
    walk_at "pq"
    exact ⟨rfl, rfl⟩
  · have e : (((us.map strD).filter fun _ => true).map (rowG g)) = (us.map fun u => (g, u)).map huD := by
      rw [List.filter_eq_self.mpr fun _ _ => rfl, List.map_map, List.map_map]
      rfl
    rw [e]
    exact gaveP (d := .lst ((us.map fun u => (g, u)).map huD)) (post := fun r => r = .lst ((us.map fun u => (g, u)).map huD)) hl hus_cl rfl
end


section
variable {P : Program} {w : World} {K : PySem.W.Frag} {mg : Str → Option Value} {base : Heap} {a : Ad} {f : Addr} {fd : FuncData}
local macro_rules | `(tactic| walk_at "pf") => `(tactic| repeat (first | walk_at "p1" | (with_reducible refine ee_fldS (ns := nsS) (f := Str.ofString "state") (by with_unfolding_all rfl) (by with_unfolding_all rfl) (by assumption) (by assumption) (by with_unfolding_all exact f_st) ?_) | (with_reducible refine ee_fldS (ns := nsS) (f := Str.ofString "deeds") (by with_unfolding_all rfl) (by with_unfolding_all rfl) (by assumption) (by assumption) (by with_unfolding_all exact f_ds) ?_) | (with_reducible refine ee_fldS (ns := nsS) (f := Str.ofString "heard_units") (by with_unfolding_all rfl) (by with_unfolding_all rfl) (by assumption) (by assumption) (by with_unfolding_all exact f_hu) ?_) | (with_reducible refine ee_fldS (ns := nsS) (f := Str.ofString "passed_phrases") (by with_unfolding_all rfl) (by with_unfolding_all rfl) (by assumption) (by assumption) (by with_unfolding_all exact f_pp) ?_) | (refine oo_ixT rfl ?_)))
local macro_rules | `(tactic| walk_at "pq") => `(tactic| repeat (first | walk_at "p1" | (refine oo_ixT rfl ?_)))
theorem ticks_held : ∀ {k : Nat} {s : Stt}, s.held = true → (ticks k s).2 = []
  | 0, _, _ => rfl
  | k + 1, s, h => by
    show (tick s).2 ++ (ticks k (tick s).1).2 = []
    rw [tick_idle (.inl h)]
    exact ticks_held (k := k) h
theorem hold_heard {s : Spk} {k : Nat} : doneH (doneS s .hold) (.tick k) = [] := by
  show heardE (ticks k (doneS s .hold).st).2 = []
  rw [ticks_held (show (doneS s .hold).st.held = true from rfl)]
  rfl
def nowD : Deed := .say 2 [[Str.ofString "now"]] (Str.ofString "n")
def cutS (s : Spk) (k : Nat) : Spk := doneS (doneS (doneS s .hold) (.tick k)) .go
theorem now_ok : UttOk 2 [[Str.ofString "now"]] (Str.ofString "n") := ⟨by decide, by decide, ⟨by simp, fun p hp => by rw [List.mem_singleton.mp hp]; simp, by decide⟩, fun p hp u hu => by
  rw [List.mem_singleton.mp hp] at hu
  rw [List.mem_singleton.mp hu]
  exact ⟨by decide +kernel, by decide +kernel, by decide +kernel⟩, ⟨by decide +kernel, by decide +kernel, by decide +kernel⟩⟩
abbrev spCut (K : PySem.W.Frag) (c : Addr) : Sp := spWith K c 900000000 (T := Nat × Nat × Nat) (fun t => [intD t.2.2]) (fun s t => SpkB t.1 t.2.1 s ∧ t.1 ≤ 8000 ∧ t.2.1 ≤ 80000) (fun s t d s' => (d = .lst [huD (Str.ofString "n", Str.ofString "now")] ∧ s' = doneS s nowD) ∨ (d = .lst [] ∧ ∃ k, 1 ≤ k ∧ k ≤ 3 ∧ s' = cutS s k)) 2
abbrev st__law_one_cut : Stmt := top 46
abbrev nm__law_one_cut : List Str := ["purse", "speaker", "way"]
theorem sc__law_one_cut : FnScope nm__law_one_cut ["purse", "speaker", "way"] (defScope st__law_one_cut) := ⟨rfl, rfl, rfl, by decide +kernel, rfl, by decide +kernel, by decide +kernel⟩
theorem ok_one_cut (F : Fun K "_law_one_cut" "_law_one_cut" st__law_one_cut f fd) (T : Tx P w K mg base a) (c__law_draw : CalX P w K mg base 2 "_law_draw" ["purse", "many"] (spDraw K)) (m_tick : CalM P w K mg base 9 a.eSpeaker "tick" ["self", "many"] (spTickM K a.eSpeaker)) (m_say : CalM P w K mg base 9 a.eSpeaker "say" ["self", "utterance"] (spSayM K a.eSpeaker)) (m_hold : CalM P w K mg base 9 a.eSpeaker "hold" ["self"] (spBare K a.eSpeaker (fun s => SpkOk s ∧ Few s) (fun s => doneS s .hold) fun _ => .non)) (m_go_on : CalM P w K mg base 9 a.eSpeaker "go_on" ["self"] (spBare K a.eSpeaker (fun s => SpkOk s ∧ Few s) (fun s => doneS s .go) fun _ => .non)) : FnOk P w K mg base (L2.CX P w) 10 f fd ["purse", "speaker", "way"] (spCut K a.eSpeaker) := by
  refine F.okX sc__law_one_cut (fun vs H Q E h => pro_len h fun _ => rfl) (fun cdv A outer s H vs Q E hr h => ⟨_, (pss_cons (ps_if (PW.pt (pw_or (pt_cmpR (kO K rEqU rfl (op_eqU (hu64 hr))) (pv 2) pe_int (nomark _)) (pw_or1 (PW.pt (pw_and (pt_cmpR (kO K rEqU rfl (op_eqU (hu64 hr))) (pv 2) pe_int (nomark _)) (pw_and1 (pt_cmpR (kO K rEqU rfl (op_eqU (hu64 hr))) (pe_c c__law_draw hr (by first | decide | exact Nat.le_refl _) rfl (passes_call (takes_of rfl rfl rfl rfl) (fun _ _ _ _ h => h)) (pa_cons (pv 0) (pa_cons pe_int pa_nil))) pe_int (nomark _)))))))) (pss_cons (ps_expr (pe_m m_say hr (by first | decide | exact Nat.le_refl _) (passes_call (takes_of rfl rfl rfl rfl) (fun _ _ _ _ h => h)) (pv 1) (pa_cons (pe_tup (pa_cons pe_int (pa_cons (pe_lst (pa_cons (pe_lst (pa_cons pe_str pa_nil)) pa_nil)) (pa_cons pe_str pa_nil)))) pa_nil)))
    (pss_one (ps_ret (pe_lst (pa_cons (pe_tup (pa_cons pe_str (pa_cons pe_str pa_nil))) pa_nil))))) pss_nil)
    (pss_cons (ps_expr (pe_m0 m_hold hr (by first | decide | exact Nat.le_refl _) (passes_call (takes_of rfl rfl rfl rfl) (fun _ _ _ _ h => h)) (pv 1)))
    (pss_cons (ps_if (pt_cmpR (kO K rNeU rfl (op_neU (hu64 hr))) (pe_m m_tick hr (by first | decide | exact Nat.le_refl _) (passes_call (takes_of rfl rfl rfl rfl) (fun _ _ _ _ h => h)) (pv 1) (pa_cons (pe_op (kO K rPlus rfl op_plus) pe_int (pe_c c__law_draw hr (by first | decide | exact Nat.le_refl _) rfl (passes_call (takes_of rfl rfl rfl rfl) (fun _ _ _ _ h => h)) (pa_cons (pv 0) (pa_cons pe_int pa_nil)))) pa_nil)) (pe_lst pa_nil) (nomark _)) (pss_one (ps_ret (pe_lst (pa_cons (pe_tup (pa_cons pe_str (pa_cons pe_str pa_nil))) pa_nil)))) pss_nil)
    (pss_cons (ps_expr (pe_m0 m_go_on hr (by first | decide | exact Nat.le_refl _) (passes_call (takes_of rfl rfl rfl rfl) (fun _ _ _ _ h => h)) (pv 1)))
    (pss_one (ps_ret (pe_lst pa_nil))))))), run_body h fun ⟨u, n, dx, s, nn, tt, way⟩ S ⟨⟨hp, hn⟩, ⟨hsp, hnn, htt⟩, _⟩ hl hcl wi => ?_⟩)
  have hp : PuOk n u := hp
  have hn : n ≤ 900000000 := hn
  have hsp : SpkB nn tt s := hsp
  have hnn : nn ≤ 8000 := hnn
  have htt : tt ≤ 80000 := htt
  have hS : S.A.length = 5 := hl
  obtain ⟨k1, k2⟩ := hsp.k (by omega) (by omega)
  have ut1_cl : D.ltL 0 [utD 2 [[Str.ofString "now"]] (Str.ofString "n")] = true := by
    show ((utD 2 [[Str.ofString "now"]] (Str.ofString "n")).lt 0 && true) = true
    rw [ut_cl]
    rfl
  have fin : ∀ {d : D} {s' : Spk} {u' : List D}, d.lt 0 = true → PuOk (n + 2) u' → ((d = .lst [huD (Str.ofString "n", Str.ofString "now")] ∧ s' = doneS s nowD) ∨ (d = .lst [] ∧ ∃ k, 1 ≤ k ∧ k ≤ 3 ∧ s' = cutS s k)) → Gave S (fun d μ => d.lt 0 = true ∧ ∃ (l' : List D) (s' : Spk), PuOk (n + 2) l' ∧ ((d = .lst [huD (Str.ofString "n", Str.ofString "now")] ∧ s' = doneS s nowD) ∨ (d = .lst [] ∧ ∃ k, 1 ≤ k ∧ k ≤ 3 ∧ s' = cutS s k)) ∧ μ = .lst l' :: spkC 1 a.eSpeaker dx s') d (.lst u' :: spkC 1 a.eSpeaker dx s') := fun {d s' u'} h1 h2 h3 => by
    have et : (Cell.lst u' :: spkC 1 a.eSpeaker dx s').take S.A.length = .lst u' :: spkC 1 a.eSpeaker dx s' := by
      rw [hS]
      rfl
    refine gave (D.lt_mono (Nat.zero_le _) h1) ?_ ?_
    · rw [et, hS]
      show (D.ltL 5 u' && cellsLt 5 (spkC 1 a.eSpeaker dx s')) = true
      rw [D.ltL_mono (Nat.zero_le _) h2.cl, spk_lt (show 1 + 3 < 5 by decide)]
      rfl
    · rw [et]
      exact ⟨h1, u', s', h2, h3, rfl⟩
  refine se_seq (se_to (fun δ μ => ∃ u1, δ = [some (.own 0), some (.own 1), some (intD way)] ∧ μ = .lst u1 :: spkC 1 a.eSpeaker dx s ∧ PuOk (n + 1) u1) ?_ ?_)
  · walk_at "pq"
    refine ⟨fun hw => ⟨fun _ => ?_, fun h => (by cases h)⟩, fun hw => ?_⟩
    · refine se_seq (se_drop (ask_m 1 [.lst u] [] rfl (List.append_nil _).symm rfl (by decide) ?_))
      walk_at "pq"
      refine ee_lst ?_
      walk_at "pq"
      refine ee_lst ?_
      walk_at "pq"
      refine ⟨(2, [[Str.ofString "now"]], Str.ofString "n"), [.lst u], [], dx, s, rfl, (List.append_nil _).symm, rfl, ⟨k1, now_ok, k2⟩, ut1_cl, ?_⟩
      rw [List.append_nil]
      refine se_ret (ee_lst ?_)
      walk_at "pq"
      exact fin (d := .lst [huD (Str.ofString "n", Str.ofString "now")]) (s' := doneS s nowD) (u' := u) rfl (hp.up (Nat.le_add_right n 2)) (.inl ⟨rfl, rfl⟩)
    · walk_at "pq"
      refine ⟨fun h2 => ?_, fun h2 => ?_⟩
      · walk_at "pq"
        refine ask_draw 0 ?_
        walk_at "pq"
        refine ⟨2, u, n, rfl, rfl, hp, by omega, by decide, by decide, fun v u1 hv hp1 => ?_⟩
        walk_at "pq"
        refine ⟨fun h0 => ?_, fun h0 => ?_⟩
        · refine se_seq (se_drop (ask_m 1 [.lst u1] [] rfl (List.append_nil _).symm rfl (by decide) ?_))
          walk_at "pq"
          refine ee_lst ?_
          walk_at "pq"
          refine ee_lst ?_
          walk_at "pq"
          refine ⟨(2, [[Str.ofString "now"]], Str.ofString "n"), [.lst u1], [], dx, s, rfl, (List.append_nil _).symm, rfl, ⟨k1, now_ok, k2⟩, ut1_cl, ?_⟩
          rw [List.append_nil]
          refine se_ret (ee_lst ?_)
          walk_at "pq"
          exact fin (d := .lst [huD (Str.ofString "n", Str.ofString "now")]) (s' := doneS s nowD) (u' := u1) rfl (hp1.up (Nat.le_succ _)) (.inl ⟨rfl, rfl⟩)
        · walk_at "pq"
          exact ⟨u1, rfl, rfl, hp1⟩
      · walk_at "pq"
        exact ⟨u, rfl, rfl, hp.up (Nat.le_succ n)⟩
  · rintro δ μ ⟨u1, rfl, rfl, hp1⟩
    walk_at "pq"
    refine ask_m 1 [.lst u1] [] rfl (List.append_nil _).symm rfl (by decide) ?_
    refine ea_nil ⟨(), [.lst u1], [], dx, s, rfl, (List.append_nil _).symm, rfl, ⟨k1, k2⟩, rfl, ?_⟩
    rw [List.append_nil]
    have b1 := done_b (d := .hold) hsp trivial
    obtain ⟨k3, k4⟩ := b1.k (by omega) (by show tt + 0 ≤ _; omega)
    walk_at "pq"
    refine ask_m 1 [.lst u1] [] (s := doneS s .hold) (dx := dx) rfl (List.append_nil _).symm rfl (by decide) ?_
    walk_at "pq"
    refine ask_draw 0 ?_
    walk_at "pq"
    refine ⟨3, u1, n + 1, rfl, rfl, hp1, by omega, by decide, by decide, fun v u2 hv hp2 => ?_⟩
    walk_at "pq"
    refine ⟨1 + v, [.lst u2], [], dx, doneS s .hold, by show [D.int (1 + (v : Int))] = [D.int ((1 + v : Nat) : Int)]; rw [Int.natCast_add]; rfl, (List.append_nil _).symm, rfl, ⟨k3, ⟨by omega, by omega⟩, k4⟩, rfl, ?_⟩
    rw [hold_heard, List.append_nil]
    refine ee_lst ?_
    walk_at "pq"
    refine oo_neD (x := .lst []) (y := .lst []) rfl rfl rfl rfl ?_
    refine ⟨false, rfl, fun h => (by cases h), fun _ => ?_⟩
    have b2 := done_b (d := .tick (1 + v)) b1 (show 1 ≤ 1 + v ∧ 1 + v ≤ 4000 by omega)
    obtain ⟨k5, k6⟩ := b2.k (by omega) (by show tt + 0 + (1 + v) ≤ _; omega)
    walk_at "pq"
    refine ask_m 1 [.lst u2] [] (s := doneS (doneS s .hold) (.tick (1 + v))) (dx := dx) rfl (List.append_nil _).symm rfl (by decide) ?_
    refine ea_nil ⟨(), [.lst u2], [], dx, _, rfl, (List.append_nil _).symm, rfl, ⟨k5, k6⟩, rfl, ?_⟩
    rw [List.append_nil]
    walk_at "pq"
    refine ee_lst ?_
    walk_at "pq"
    exact fin (d := .lst []) (s' := cutS s (1 + v)) (u' := u2) rfl hp2 (.inr ⟨rfl, 1 + v, by omega, by omega, rfl⟩)
end


/-! two units, and long silence: what the log told back is about -/
theorem ticks_idle : ∀ {j : Nat} {s : Stt}, stand s = [] → s.stp = false → ticks j s = (s, [])
  | 0, _, _, _ => rfl
  | j + 1, s, h, hs => by
    have e : tick s = (s, []) := by
      rw [tick_idle (.inr h)]
      have : ({ s with stp := false } : Stt) = s := by rw [← hs]
      rw [this]
    show ((ticks j (tick s).1).1, (tick s).2 ++ (ticks j (tick s).1).2) = _
    rw [e]
    show ((ticks j s).1, [] ++ (ticks j s).2) = _
    rw [ticks_idle h hs]
    rfl
def abD : Deed := .say 1 [[Str.ofString "a", Str.ofString "b"]] (Str.ofString "t")
def abS : Spk := doneS sp0 abD
def abH : List (Str × Str) := [(Str.ofString "t", Str.ofString "a"), (Str.ofString "t", Str.ofString "b")]
theorem ab_two : ticks 2 abS.st = (s0, [.heard 0 (Str.ofString "t") (Str.ofString "a"), .heard 0 (Str.ofString "t") (Str.ofString "b"), .passed 0 (Str.ofString "t") 0, .done 0 (Str.ofString "t")]) := rfl
theorem ab_ticks {j : Nat} : ticks (2 + j) abS.st = (s0, [.heard 0 (Str.ofString "t") (Str.ofString "a"), .heard 0 (Str.ofString "t") (Str.ofString "b"), .passed 0 (Str.ofString "t") 0, .done 0 (Str.ofString "t")]) := by
  rw [ticks_add, ab_two]
  show ((ticks j s0).1, _ ++ (ticks j s0).2) = _
  rw [ticks_idle rfl rfl]
  rfl
theorem ab_heard {j : Nat} : doneH abS (.tick (2 + j)) = abH := by
  unfold doneH
  rw [do_tick (by omega), ab_ticks]
  rfl
theorem ab_silent {j k : Nat} (hk : 1 ≤ k) : doneH (doneS abS (.tick (2 + j))) (.tick k) = [] := by
  have e : (doneS abS (.tick (2 + j))).st = s0 := by
    unfold doneS
    rw [do_tick (by omega), ab_ticks]
  unfold doneH
  rw [do_tick hk, e, ticks_idle rfl rfl]
  rfl
/-- told back: the same speaker -/
theorem ab_back {j k : Nat} (hk : 1 ≤ k) : doneS (doneS abS (.tick (2 + j))) (.tick k) = runS [abD, .tick (2 + j + k)] ∧ (runS [abD, .tick (2 + j + k)]).ds = [abD, .tick (2 + j + k)] ∧ (runS [abD, .tick (2 + j + k)]).hu = abH := by
  refine ⟨(done_tick (by omega) hk).1, rfl, ?_⟩
  show abS.hu ++ heardE (doDeed abS.st abS.ds.length (.tick (2 + j + k))).2 = abH
  rw [do_tick (by omega), show 2 + j + k = 2 + (j + k) by omega, ab_ticks]
  rfl


section
variable {P : Program} {w : World} {K : PySem.W.Frag} {mg : Str → Option Value} {base : Heap} {a : Ad} {f : Addr} {fd : FuncData}
local macro_rules | `(tactic| walk_at "pf") => `(tactic| repeat (first | walk_at "p1" | (with_reducible refine ee_fldS (ns := nsS) (f := Str.ofString "state") (by with_unfolding_all rfl) (by with_unfolding_all rfl) (by assumption) (by assumption) (by with_unfolding_all exact f_st) ?_) | (with_reducible refine ee_fldS (ns := nsS) (f := Str.ofString "deeds") (by with_unfolding_all rfl) (by with_unfolding_all rfl) (by assumption) (by assumption) (by with_unfolding_all exact f_ds) ?_) | (with_reducible refine ee_fldS (ns := nsS) (f := Str.ofString "heard_units") (by with_unfolding_all rfl) (by with_unfolding_all rfl) (by assumption) (by assumption) (by with_unfolding_all exact f_hu) ?_) | (with_reducible refine ee_fldS (ns := nsS) (f := Str.ofString "passed_phrases") (by with_unfolding_all rfl) (by with_unfolding_all rfl) (by assumption) (by assumption) (by with_unfolding_all exact f_pp) ?_) | (refine oo_ixT rfl ?_)))
local macro_rules | `(tactic| walk_at "pq") => `(tactic| repeat (first | walk_at "p1" | (refine oo_ixT rfl ?_)))
theorem ask_spkOf {S : Bs} {δ : Sl} {μ : List Cell} {C : D → List Cell → Prop} {ta : TA} {E : XK} {c : Addr} (h : EA K S ta δ μ fun ds μ1 => ∃ l : List Deed, ds = [.lst (l.map deedD)] ∧ LogV l ∧ tksN l ≤ 90000 ∧ ∀ dx, C (.own μ1.length) (μ1 ++ spkC μ1.length c dx (runS l))) : EE K S (tCall (spSpkOf K c) [] E ta) δ μ C :=
  ee_callG (CE := fun _ _ _ => False) [] Wi.none fun A G H σ a Q q => h A G H σ a Q fun vs ds A1 G1 H1 μ1 m n r ⟨l, e, hv, ht, hC⟩ => q vs ds A1 G1 H1 μ1 m n r (by
    subst e
    have hcl : D.ltL 0 [.lst (l.map deedD)] = true := by
      show (D.ltL 0 (l.map deedD) && true) = true
      rw [deeds_cl]
      rfl
    refine ⟨l, ⟨hv, ht⟩, List.nodup_nil, fun k hk => (by cases hk), rfl, rfl, hsL_cl hcl, by rw [renL_cl hcl, List.map_nil, List.append_nil], fun d ν n' ⟨e1, dx, e2⟩ _ _ _ _ => ?_, fun _ _ _ z _ _ _ => z⟩
    have e2 : ν = spkC 0 c dx (runS l) := e2
    subst e1 e2
    have eb : (spkC 0 c dx (runS l)).map (Cell.ren (back [] μ1.length)) = spkC μ1.length c dx (runS l) := spk_ren rfl rfl rfl
    show C (.own (μ1.length + (0 - 0))) (μ1 ++ (spkC 0 c dx (runS l)).map (Cell.ren (back [] μ1.length)))
    rw [eb]
    exact hC dx)
abbrev spBack (K : PySem.W.Frag) : Sp := spDrawn K 800000000 (T := Unit) (fun _ => []) (fun _ => True) (fun _ d => d = .bl true) 1
abbrev st__law_log_back_right : Stmt := top 52
abbrev nm__law_log_back_right : List Str := ["purse", "speaker", "size", "told", "again", "due"]
theorem sc__law_log_back_right : FnScope nm__law_log_back_right ["purse"] (defScope st__law_log_back_right) := ⟨rfl, rfl, rfl, by decide +kernel, rfl, by decide +kernel, by decide +kernel⟩
theorem ok_log_back (F : Fun K "_law_log_back_right" "_law_log_back_right" st__law_log_back_right f fd) (T : Tx P w K mg base a) (c__law_draw : CalX P w K mg base 2 "_law_draw" ["purse", "many"] (spDraw K)) (i_Speaker : CalI P w K mg base 1 "Speaker" a.eSpeaker ["self"] (spInit K a.eSpeaker)) (m_say : CalM P w K mg base 9 a.eSpeaker "say" ["self", "utterance"] (spSayM K a.eSpeaker)) (m_tick : CalM P w K mg base 9 a.eSpeaker "tick" ["self", "many"] (spTickM K a.eSpeaker)) (m_log : CalM P w K mg base 9 a.eSpeaker "log" ["self"] (spLogM K a.eSpeaker)) (m_heard : CalM P w K mg base 1 a.eSpeaker "heard" ["self"] (spHeard K a.eSpeaker)) (c_speaker_of : CalX P w K mg base 9 "speaker_of" ["log"] (spSpkOf K a.eSpeaker)) (c__law_same : CalX P w K mg base 9 "_law_same" ["told", "due"] (spSame K 8)) : FnOk P w K mg base (L2.CX P w) 10 f fd ["purse"] (spBack K) := by
  refine F.okX sc__law_log_back_right (fun vs H Q E h => pro_len h fun _ => rfl) (fun cdv A outer s H vs Q E hr h => ⟨_, (pss_cons (ps_par (i := 1) (j := 2) rfl sc__law_log_back_right.nd rfl rfl (by decide) rfl rfl (pa_cons (pe_mk0 i_Speaker hr (by first | decide | exact Nat.le_refl _) rfl (passes_call (takes_of rfl rfl rfl rfl) (fun _ _ _ _ h => h))) (pa_cons (pe_op (kO K rPlus rfl op_plus) pe_int (pe_c c__law_draw hr (by first | decide | exact Nat.le_refl _) rfl (passes_call (takes_of rfl rfl rfl rfl) (fun _ _ _ _ h => h)) (pa_cons (pv 0) (pa_cons pe_int pa_nil)))) pa_nil)) (by rfl))
    (pss_cons (ps_expr (pe_m m_say hr (by first | decide | exact Nat.le_refl _) (passes_call (takes_of rfl rfl rfl rfl) (fun _ _ _ _ h => h)) (pv 1) (pa_cons (pe_tup (pa_cons pe_int (pa_cons (pe_lst (pa_cons (pe_lst (pa_cons pe_str (pa_cons pe_str pa_nil))) pa_nil)) (pa_cons pe_str pa_nil)))) pa_nil)))
    (pss_cons (ps_set (i := 3) sc__law_log_back_right.nd rfl (by first | exact Or.inl rfl | exact Or.inr rfl) (pe_lst (pa_cons (pe_m m_tick hr (by first | decide | exact Nat.le_refl _) (passes_call (takes_of rfl rfl rfl rfl) (fun _ _ _ _ h => h)) (pv 1) (pa_cons (pv 2) pa_nil)) (pa_cons (pe_m m_tick hr (by first | decide | exact Nat.le_refl _) (passes_call (takes_of rfl rfl rfl rfl) (fun _ _ _ _ h => h)) (pv 1) (pa_cons pe_int pa_nil)) pa_nil))))
    (pss_cons (ps_set (i := 4) sc__law_log_back_right.nd rfl (by first | exact Or.inl rfl | exact Or.inr rfl) (pe_c c_speaker_of hr (by first | decide | exact Nat.le_refl _) rfl (passes_call (takes_of rfl rfl rfl rfl) (fun _ _ _ _ h => h)) (pa_cons (pe_m0 m_log hr (by first | decide | exact Nat.le_refl _) (passes_call (takes_of rfl rfl rfl rfl) (fun _ _ _ _ h => h)) (pv 1)) pa_nil)))
    (pss_cons (ps_set (i := 5) sc__law_log_back_right.nd rfl (by first | exact Or.inl rfl | exact Or.inr rfl) (pe_lst (pa_cons (pe_tup (pa_cons pe_str (pa_cons (pe_tup (pa_cons pe_int (pa_cons (pe_lst (pa_cons (pe_lst (pa_cons pe_str (pa_cons pe_str pa_nil))) pa_nil)) (pa_cons pe_str pa_nil)))) pa_nil))) (pa_cons (pe_tup (pa_cons pe_str (pa_cons (pe_op (kO K rPlus rfl op_plus) (pv 2) pe_int) pa_nil))) pa_nil))))
    (pss_one (ps_ret (pe_c c__law_same hr (by first | decide | exact Nat.le_refl _) rfl (passes_call (takes_of rfl rfl rfl rfl) (fun _ _ _ _ h => h)) (pa_cons (pe_lst (pa_cons (pv 3) (pa_cons (pe_m0 m_log hr (by first | decide | exact Nat.le_refl _) (passes_call (takes_of rfl rfl rfl rfl) (fun _ _ _ _ h => h)) (pv 4)) (pa_cons (pe_m0 m_heard hr (by first | decide | exact Nat.le_refl _) (passes_call (takes_of rfl rfl rfl rfl) (fun _ _ _ _ h => h)) (pv 4)) pa_nil)))) (pa_cons (pe_lst (pa_cons (pe_lst (pa_cons (pe_lst (pa_cons (pe_tup (pa_cons pe_str (pa_cons pe_str pa_nil))) (pa_cons (pe_tup (pa_cons pe_str (pa_cons pe_str pa_nil))) pa_nil))) (pa_cons (pe_lst pa_nil) pa_nil))) (pa_cons (pv 5) (pa_cons (pe_lst (pa_cons (pe_tup (pa_cons pe_str (pa_cons pe_str pa_nil))) (pa_cons (pe_tup (pa_cons pe_str (pa_cons pe_str pa_nil))) pa_nil))) pa_nil)))) pa_nil)))))))))), run_body h fun ⟨u, n, _⟩ S ⟨hp, hn, _⟩ hl hcl wi => ?_⟩)
  have hp : PuOk n u := hp
  have hn : n ≤ 800000000 := hn
  have hS : S.A.length = 1 := hl
  refine se_seq (se_par (ea_cons (ask_new fun dx => ?_)))
  walk_at "pq"
  refine ask_draw 0 ?_
  walk_at "pq"
  refine ⟨400, u, n, rfl, rfl, hp, by omega, by decide, by decide, fun v u1 hv hp1 => ?_⟩
  walk_at "pq"
  have b0 := sp0_b
  obtain ⟨q1, q2⟩ := b0.k (by omega) (by omega)
  have ab_ok : UttOk 1 [[Str.ofString "a", Str.ofString "b"]] (Str.ofString "t") := ⟨by decide, by decide, ⟨by simp, fun p hp => by rw [List.mem_singleton.mp hp]; simp, by decide⟩, fun p hp u hu => by
    rw [List.mem_singleton.mp hp] at hu
    rcases List.mem_cons.mp hu with rfl | hu
    · exact ⟨by decide +kernel, by decide +kernel, by decide +kernel⟩
    · rw [List.mem_singleton.mp hu]
      exact ⟨by decide +kernel, by decide +kernel, by decide +kernel⟩, ⟨by decide +kernel, by decide +kernel, by decide +kernel⟩⟩
  refine ask_m 1 [.lst u1] [] (s := sp0) (dx := dx) rfl (List.append_nil _).symm rfl (by decide) ?_
  walk_at "pq"
  refine ee_lst ?_
  walk_at "pq"
  refine ee_lst ?_
  walk_at "pq"
  refine ⟨(1, [[Str.ofString "a", Str.ofString "b"]], Str.ofString "t"), [.lst u1], [], dx, sp0, rfl, (List.append_nil _).symm, rfl, ⟨q1, ab_ok, q2⟩, by show ((utD _ _ _).lt 0 && true) = true; rw [ut_cl]; rfl, ?_⟩
  rw [List.append_nil]
  have b1 : SpkB (0 + 1) (0 + tkN abD) abS := done_b (d := abD) b0 ab_ok
  obtain ⟨q3, q4⟩ := b1.k (by omega) (by show 0 + 0 ≤ _; omega)
  show SE K S _ [some (.own 0), some (.own 1), some (intD (600 + v)), none, none, none] (.lst u1 :: spkC 1 a.eSpeaker dx abS) _
  refine se_seq (se_asg (ee_lst (ea_cons ?_)))
  refine ask_m 1 [.lst u1] [] (s := abS) (dx := dx) rfl (List.append_nil _).symm rfl (by decide) ?_
  walk_at "pq"
  refine ⟨600 + v, [.lst u1], [], dx, abS, rfl, (List.append_nil _).symm, rfl, ⟨q3, ⟨by omega, by omega⟩, q4⟩, rfl, ?_⟩
  rw [List.append_nil]
  have b2 := done_b (d := .tick (600 + v)) b1 (show 1 ≤ 600 + v ∧ 600 + v ≤ 4000 by omega)
  obtain ⟨q5, q6⟩ := b2.k (by omega) (by show 0 + 0 + (600 + v) ≤ _; omega)
  refine ea_cons ?_
  refine ask_m 1 [.lst u1] [] (s := doneS abS (.tick (600 + v))) (dx := dx) rfl (List.append_nil _).symm rfl (by decide) ?_
  walk_at "pq"
  refine ⟨600, [.lst u1], [], dx, _, rfl, (List.append_nil _).symm, rfl, ⟨q5, ⟨by decide, by decide⟩, q6⟩, rfl, ?_⟩
  rw [List.append_nil]
  have ev : 600 + v = 2 + (598 + v) := by omega
  have hA : doneH abS (.tick (600 + v)) = abH := by rw [ev]; exact ab_heard
  have hB : doneH (doneS abS (.tick (600 + v))) (.tick 600) = [] := by rw [ev]; exact ab_silent (by decide)
  obtain ⟨e1, e2, e3⟩ := @ab_back (598 + v) 600 (by decide)
  rw [← ev] at e1 e2 e3
  rw [hA, hB, e1]
  generalize hL : [abD, Deed.tick (600 + v + 600)] = L at e1 e2 e3 ⊢
  refine ea_nil ⟨by show 2 ≤ 10000000; decide, ?_⟩
  have b3 := done_b (d := .tick 600) b2 (show 1 ≤ 600 ∧ 600 ≤ 4000 by decide)
  rw [e1] at b3
  obtain ⟨q7, q8⟩ := b3.k (by omega) (by show 0 + 0 + (600 + v) + 600 ≤ _; omega)
  have hLV : LogV L := by
    subst hL
    refine ⟨fun d hd => ?_, Nat.le_of_ble_eq_true rfl⟩
    rcases List.mem_cons.mp hd with rfl | hd
    · exact ab_ok
    · rw [List.mem_singleton.mp hd]
      exact (show 1 ≤ 600 + v + 600 ∧ 600 + v + 600 ≤ 4000 by omega)
  have hLT : tksN L ≤ 90000 := by
    subst hL
    show 0 + ((600 + v + 600) + 0) ≤ 90000
    omega
  show SE K S _ [some (.own 0), some (.own 1), some (intD (600 + v)), some (.lst [.lst (abH.map huD), .lst []]), none, none] (.lst u1 :: spkC 1 a.eSpeaker dx (runS L)) _
  refine se_seq (se_asg ?_)
  refine ask_spkOf ?_
  walk_at "pq"
  refine ask_m (c := a.eSpeaker) (m := "log") (T := Unit) (arg := fun _ => []) (pre := fun s _ => SpkOk s) (tr := fun s _ => s) (res := fun s _ => .lst (s.ds.map deedD)) 1 [.lst u1] [] (s := runS L) (dx := dx) rfl (List.append_nil _).symm rfl (by decide) ?_
  refine ea_nil ⟨(), [.lst u1], [], dx, _, rfl, (List.append_nil _).symm, rfl, q7, rfl, ?_⟩
  rw [List.append_nil]
  refine ea_nil ⟨L, by rw [e2], hLV, hLT, fun dx2 => ?_⟩
  show SE K S _ [some (.own 0), some (.own 1), some (intD (600 + v)), some (.lst [.lst (abH.map huD), .lst []]), some (.own 5), none] (.lst u1 :: (spkC 1 a.eSpeaker dx (runS L) ++ spkC 5 a.eSpeaker dx2 (runS L))) _
  refine se_seq (se_asg ?_)
  refine ee_lst ?_
  walk_at "pq"
  refine ee_lst ?_
  walk_at "pq"
  refine ee_lst ?_
  walk_at "pq"
  have eD : D.lst [D.tup [D.str (Str.ofString "say"), D.tup [.int 1, .lst [.lst [.str (Str.ofString "a"), .str (Str.ofString "b")]], .str (Str.ofString "t")]], D.tup [.str (Str.ofString "tick"), .int (((600 + v : Nat) : Int) + 600)]] = .lst (L.map deedD) := by
    rw [← hL, show ((600 + v : Nat) : Int) + 600 = ((600 + v + 600 : Nat) : Int) by omega]
    rfl
  rw [eD]
  have habH : D.lst [.tup [.str (Str.ofString "t"), .str (Str.ofString "a")], .tup [.str (Str.ofString "t"), .str (Str.ofString "b")]] = .lst (abH.map huD) := rfl
  have hDs : ∀ d ∈ L, DeedW d := fun d hd => (hLV.1 d hd).w
  have hLz := hLV.2
  have all : sOk 8 (.lst [.lst [.lst (abH.map huD), .lst []], .lst (L.map deedD), .lst (abH.map huD)]) = true := sOk_lst.mpr ⟨Nat.le_of_ble_eq_true rfl, fun x hx => by
    rcases List.mem_cons.mp hx with rfl | hx
    · rfl
    rcases List.mem_cons.mp hx with rfl | hx
    · refine sOk_lst.mpr ⟨by rw [List.length_map]; omega, fun x hx => ?_⟩
      obtain ⟨d, hd, rfl⟩ := List.mem_map.mp hx
      exact deed_sok (hDs d hd)
    · rw [List.mem_singleton.mp hx]
      rfl⟩
  refine ee_cz ?_
  walk_at "pq"
  refine ee_lst ?_
  walk_at "pq"
  refine ask_m (c := a.eSpeaker) (m := "log") (T := Unit) (arg := fun _ => []) (pre := fun s _ => SpkOk s) (tr := fun s _ => s) (res := fun s _ => .lst (s.ds.map deedD)) 5 (.lst u1 :: spkC 1 a.eSpeaker dx (runS L)) [] (s := runS L) (dx := dx2) rfl (List.append_nil _).symm rfl (by decide) ?_
  refine ea_nil ⟨(), .lst u1 :: spkC 1 a.eSpeaker dx (runS L), [], dx2, _, rfl, (List.append_nil _).symm, rfl, q7, rfl, ?_⟩
  rw [List.append_nil, e2]
  walk_at "pq"
  refine ask_m (c := a.eSpeaker) (m := "heard") (T := Unit) (arg := fun _ => []) (pre := fun s _ => SpkOk s) (tr := fun s _ => s) (res := fun s _ => .lst (s.hu.map huD)) 5 (.lst u1 :: spkC 1 a.eSpeaker dx (runS L)) [] (s := runS L) (dx := dx2) rfl (List.append_nil _).symm rfl (by decide) ?_
  refine ea_nil ⟨(), .lst u1 :: spkC 1 a.eSpeaker dx (runS L), [], dx2, _, rfl, (List.append_nil _).symm, rfl, q7, rfl, ?_⟩
  rw [List.append_nil, e3]
  walk_at "pq"
  refine ee_lst ?_
  walk_at "pq"
  refine ee_lst ?_
  walk_at "pq"
  refine ee_lst ?_
  walk_at "pq"
  refine ee_lst ?_
  walk_at "pq"
  refine ee_lst ?_
  walk_at "pq"
  refine ⟨.lst [.lst [.lst (abH.map huD), .lst []], .lst (L.map deedD), .lst (abH.map huD)], all, rfl, ?_, fun r hr => ?_⟩
  · have h1 : D.lt 0 (.lst [.lst [.lst (abH.map huD), .lst []], .lst (L.map deedD), .lst (abH.map huD)]) = true := sOk_cl all
    show (D.lt 0 (.lst [.lst [.lst (abH.map huD), .lst []], .lst (L.map deedD), .lst (abH.map huD)]) && (D.lt 0 (.lst [.lst [.lst (abH.map huD), .lst []], .lst (L.map deedD), .lst (abH.map huD)]) && true)) = true
    rw [h1]
    rfl
  · have hr : r = .bl true := hr
    subst hr
    walk_at "gp"
    exact gave_drawn (n := n + 1) hS (d := .bl true) rfl rfl hp1
end


/-! through the phrases of what is said -/
abbrev thX (n r : Nat) (phs : List (List Str)) (g : Str) (p u : Nat) : Th := ⟨n, r, phs, g, p, u⟩
abbrev stX (t : Th) (w : List Th) : Stt := ⟨some t, w, false, false⟩
abbrev stN (w : List Th) : Stt := ⟨none, w, false, false⟩
abbrev rowS (g : Str) (l : List Str) : List (Str × Str) := l.map fun u => (g, u)
abbrev rowP (g : Str) (l : List Nat) : List (Str × Nat) := l.map fun p => (g, p)
def nextP (n r : Nat) (phs : List (List Str)) (g : Str) (w : List Th) (q : Nat) : Stt := if q < phs.length then stX (thX n r phs g q 0) w else stN w
theorem ticks_S {k : Nat} {s : Stt} : ticks (k + 1) s = ((ticks k (tick s).1).1, (tick s).2 ++ (ticks k (tick s).1).2) := rfl
theorem step_mid {n r p u : Nat} {phs : List (List Str)} {g : Str} {w : List Th} (h : u + 1 < (phs.getD p []).length) :
    stepT (thX n r phs g p u) w = (stX (thX n r phs g p (u + 1)) w, [.heard n g ((phs.getD p []).getD u (Str.ofString ""))]) := if_pos h
theorem step_end {n r p u : Nat} {phs : List (List Str)} {g : Str} {w : List Th} (h : u + 1 = (phs.getD p []).length) :
    (stepT (thX n r phs g p u) w).1 = nextP n r phs g w (p + 1) ∧ heardE (stepT (thX n r phs g p u) w).2 = [(g, (phs.getD p []).getD u (Str.ofString ""))] ∧ passedE (stepT (thX n r phs g p u) w).2 = [(g, p)] := by
  unfold stepT nextP
  rw [if_neg (show ¬ u + 1 < (phOf (thX n r phs g p u)).length from by show ¬ u + 1 < (phs.getD p []).length; omega)]
  by_cases h2 : p + 1 < phs.length
  · rw [if_pos h2, if_pos h2]
    exact ⟨rfl, rfl, rfl⟩
  · rw [if_neg h2, if_neg h2]
    exact ⟨rfl, rfl, rfl⟩
theorem ph_mid {n r p : Nat} {phs : List (List Str)} {g : Str} {w : List Th} : ∀ {j u : Nat} {s : Stt}, s.held = false → stand s = thX n r phs g p u :: w → u + (j + 1) < (phs.getD p []).length →
    (ticks (j + 1) s).1 = stX (thX n r phs g p (u + (j + 1))) w ∧ heardE (ticks (j + 1) s).2 = rowS g (((phs.getD p []).drop u).take (j + 1)) ∧ passedE (ticks (j + 1) s).2 = []
  | 0, u, s, hh, e, h => by
    rw [ticks_S, tick_go hh e, step_mid h, drop_cons (d := Str.ofString "") (show u < (phs.getD p []).length by omega)]
    exact ⟨rfl, rfl, rfl⟩
  | j + 1, u, s, hh, e, h => by
    rw [ticks_S, tick_go hh e, step_mid (by omega), drop_cons (d := Str.ofString "") (show u < (phs.getD p []).length by omega)]
    obtain ⟨i1, i2, i3⟩ := ph_mid (j := j) (u := u + 1) (s := stX (thX n r phs g p (u + 1)) w) rfl rfl (by omega)
    refine ⟨?_, ?_, ?_⟩
    · rw [show u + (j + 1 + 1) = u + 1 + (j + 1) by omega]
      exact i1
    · show heardE ([_] ++ _) = _
      rw [heardE_app, i2]
      rfl
    · show passedE ([_] ++ _) = _
      rw [passedE_app, i3]
      rfl
theorem ph_end {n r p : Nat} {phs : List (List Str)} {g : Str} {w : List Th} : ∀ {j u : Nat} {s : Stt}, s.held = false → stand s = thX n r phs g p u :: w → u + (j + 1) = (phs.getD p []).length →
    (ticks (j + 1) s).1 = nextP n r phs g w (p + 1) ∧ heardE (ticks (j + 1) s).2 = rowS g ((phs.getD p []).drop u) ∧ passedE (ticks (j + 1) s).2 = [(g, p)]
  | 0, u, s, hh, e, h => by
    obtain ⟨i1, i2, i3⟩ := step_end (n := n) (r := r) (g := g) (w := w) h
    rw [ticks_S, tick_go hh e, drop_cons (d := Str.ofString "") (show u < (phs.getD p []).length by omega), List.drop_eq_nil_of_le (by omega)]
    refine ⟨i1, ?_, ?_⟩
    · show heardE (_ ++ []) = _
      rw [List.append_nil]
      exact i2
    · show passedE (_ ++ []) = _
      rw [List.append_nil]
      exact i3
  | j + 1, u, s, hh, e, h => by
    rw [ticks_S, tick_go hh e, step_mid (by omega), drop_cons (d := Str.ofString "") (show u < (phs.getD p []).length by omega)]
    obtain ⟨i1, i2, i3⟩ := ph_end (j := j) (u := u + 1) (s := stX (thX n r phs g p (u + 1)) w) rfl rfl (by omega)
    refine ⟨i1, ?_, ?_⟩
    · show heardE ([_] ++ _) = _
      rw [heardE_app, i2]
      rfl
    · show passedE ([_] ++ _) = _
      rw [passedE_app, i3]
      rfl
theorem getD_len {phs : List (List Str)} (hne : ∀ q ∈ phs, q ≠ []) {p : Nat} (h : p < phs.length) : 0 < (phs.getD p []).length := by
  rw [List.getD_eq_getElem?_getD, List.getElem?_eq_getElem h]
  exact List.length_pos_iff.mpr (hne _ (List.getElem_mem h))
theorem phs_m {n r : Nat} {phs : List (List Str)} {g : Str} {w : List Th} (hne : ∀ q ∈ phs, q ≠ []) : ∀ {m p : Nat} {s : Stt}, s.held = false → stand s = thX n r phs g p 0 :: w → p + (m + 1) ≤ phs.length →
    (ticks ((phs.drop p).take (m + 1)).flatten.length s).1 = nextP n r phs g w (p + (m + 1)) ∧ heardE (ticks ((phs.drop p).take (m + 1)).flatten.length s).2 = rowS g ((phs.drop p).take (m + 1)).flatten ∧ passedE (ticks ((phs.drop p).take (m + 1)).flatten.length s).2 = rowP g (List.range' p (m + 1))
  | m, p, s, hh, e, h => by
    have hp : p < phs.length := by omega
    have hl := getD_len hne hp
    obtain ⟨j, hj⟩ : ∃ j, (phs.getD p []).length = j + 1 := ⟨(phs.getD p []).length - 1, by omega⟩
    obtain ⟨i1, i2, i3⟩ := ph_end (j := j) (u := 0) (s := s) hh e (by omega)
    rw [← hj] at i1 i2 i3
    have e1 : ((phs.drop p).take (m + 1)).flatten = phs.getD p [] ++ ((phs.drop (p + 1)).take m).flatten := by
      rw [drop_cons (d := []) hp]
      rfl
    rw [e1, List.length_append, ticks_add]
    cases m with
    | zero =>
      have e2 : ((phs.drop (p + 1)).take 0).flatten = [] := rfl
      rw [e2, List.append_nil]
      refine ⟨i1, ?_, ?_⟩
      · show heardE (_ ++ []) = _
        rw [List.append_nil]
        exact i2
      · show passedE (_ ++ []) = _
        rw [List.append_nil]
        exact i3
    | succ m =>
      have hq : p + 1 < phs.length := by omega
      have e2 : nextP n r phs g w (p + 1) = stX (thX n r phs g (p + 1) 0) w := if_pos hq
      rw [e2] at i1
      obtain ⟨k1, k2, k3⟩ := phs_m hne (n := n) (r := r) (g := g) (w := w) (m := m) (p := p + 1) (s := stX (thX n r phs g (p + 1) 0) w) rfl rfl (by omega)
      rw [i1]
      refine ⟨?_, ?_, ?_⟩
      · rw [show p + (m + 1 + 1) = p + 1 + (m + 1) by omega]
        exact k1
      · show heardE (_ ++ _) = _
        rw [heardE_app, i2, k2, List.drop_zero]
        exact List.map_append.symm
      · show passedE (_ ++ _) = _
        rw [passedE_app, i3, k3]
        rfl
/-- to a unit amid a phrase -/
theorem to_unit {n r p u : Nat} {phs : List (List Str)} {g : Str} {w : List Th} {s : Stt} (hne : ∀ q ∈ phs, q ≠ []) (hp : p < phs.length) (h0 : 1 ≤ u) (hu : u < (phs.getD p []).length) (hh : s.held = false) (e : stand s = thX n r phs g 0 0 :: w) :
    (ticks ((phs.take p).flatten ++ (phs.getD p []).take u).length s).1 = stX (thX n r phs g p u) w ∧ heardE (ticks ((phs.take p).flatten ++ (phs.getD p []).take u).length s).2 = rowS g ((phs.take p).flatten ++ (phs.getD p []).take u) ∧ passedE (ticks ((phs.take p).flatten ++ (phs.getD p []).take u).length s).2 = rowP g (List.range p) := by
  have hl : ((phs.getD p []).take u).length = u := by rw [List.length_take]; omega
  obtain ⟨j, rfl⟩ : ∃ j, u = j + 1 := ⟨u - 1, by omega⟩
  cases p with
  | zero =>
    have e1 : (phs.take 0).flatten ++ (phs.getD 0 []).take (j + 1) = (phs.getD 0 []).take (j + 1) := rfl
    rw [e1, hl]
    obtain ⟨i1, i2, i3⟩ := ph_mid (j := j) (u := 0) hh e (by omega)
    rw [Nat.zero_add, List.drop_zero] at *
    exact ⟨i1, i2, i3⟩
  | succ m =>
    rw [List.length_append, hl, ticks_add]
    obtain ⟨k1, k2, k3⟩ := phs_m hne (m := m) (p := 0) hh e (by omega)
    rw [List.drop_zero] at k1 k2 k3
    rw [Nat.zero_add] at k1
    have e2 : nextP n r phs g w (m + 1) = stX (thX n r phs g (m + 1) 0) w := if_pos hp
    rw [k1, e2]
    obtain ⟨i1, i2, i3⟩ := ph_mid (n := n) (r := r) (p := m + 1) (phs := phs) (g := g) (w := w) (j := j) (u := 0) (s := stX (thX n r phs g (m + 1) 0) w) rfl rfl (by omega)
    rw [Nat.zero_add] at i1
    rw [List.drop_zero] at i2
    refine ⟨i1, ?_, ?_⟩
    · show heardE (_ ++ _) = _
      rw [heardE_app, i2, k2]
      exact List.map_append.symm
    · show passedE (_ ++ _) = _
      rw [passedE_app, i3, k3, List.append_nil, ← List.range_eq_range']
/-- from a unit to the end of all -/
theorem from_unit {n r p u : Nat} {phs : List (List Str)} {g : Str} {w : List Th} {s : Stt} (hne : ∀ q ∈ phs, q ≠ []) (hp : p < phs.length) (hu : u < (phs.getD p []).length) (hh : s.held = false) (e : stand s = thX n r phs g p u :: w) :
    (ticks ((phs.getD p []).drop u ++ (phs.drop (p + 1)).flatten).length s).1 = stN w ∧ heardE (ticks ((phs.getD p []).drop u ++ (phs.drop (p + 1)).flatten).length s).2 = rowS g ((phs.getD p []).drop u ++ (phs.drop (p + 1)).flatten) ∧ passedE (ticks ((phs.getD p []).drop u ++ (phs.drop (p + 1)).flatten).length s).2 = rowP g (List.range' p (phs.length - p)) := by
  obtain ⟨j, hj⟩ : ∃ j, u + (j + 1) = (phs.getD p []).length := ⟨(phs.getD p []).length - u - 1, by omega⟩
  obtain ⟨i1, i2, i3⟩ := ph_end hh e hj
  have el : ((phs.getD p []).drop u).length = j + 1 := by rw [List.length_drop]; omega
  rw [List.length_append, el, ticks_add]
  by_cases hq : p + 1 < phs.length
  · have e2 : nextP n r phs g w (p + 1) = stX (thX n r phs g (p + 1) 0) w := if_pos hq
    rw [e2] at i1
    obtain ⟨m, hm⟩ : ∃ m, p + 1 + (m + 1) = phs.length := ⟨phs.length - p - 2, by omega⟩
    obtain ⟨k1, k2, k3⟩ := phs_m hne (n := n) (r := r) (g := g) (w := w) (m := m) (p := p + 1) (s := stX (thX n r phs g (p + 1) 0) w) rfl rfl (by omega)
    have et : (phs.drop (p + 1)).take (m + 1) = phs.drop (p + 1) := List.take_of_length_le (by rw [List.length_drop]; omega)
    rw [et] at k1 k2 k3
    have e3 : nextP n r phs g w (p + 1 + (m + 1)) = stN w := if_neg (by omega)
    rw [e3] at k1
    rw [i1]
    refine ⟨k1, ?_, ?_⟩
    · show heardE (_ ++ _) = _
      rw [heardE_app, i2, k2]
      exact List.map_append.symm
    · show passedE (_ ++ _) = _
      rw [passedE_app, i3, k3, show phs.length - p = (m + 1) + 1 by omega]
      rfl
  · have e2 : nextP n r phs g w (p + 1) = stN w := if_neg hq
    have e3 : (phs.drop (p + 1)).flatten = [] := by rw [List.drop_eq_nil_of_le (by omega)]; rfl
    rw [e2] at i1
    rw [e3, List.append_nil]
    refine ⟨i1, ?_, ?_⟩
    · show heardE (_ ++ []) = _
      rw [List.append_nil]
      exact i2
    · show passedE (_ ++ []) = _
      rw [List.append_nil, show phs.length - p = 1 by omega]
      exact i3
/-- a whole one -/
theorem whole_out {n r : Nat} {phs : List (List Str)} {g : Str} {w : List Th} {s : Stt} (hne : ∀ q ∈ phs, q ≠ []) (h0 : phs ≠ []) (hh : s.held = false) (e : stand s = thX n r phs g 0 0 :: w) :
    (ticks phs.flatten.length s).1 = stN w ∧ heardE (ticks phs.flatten.length s).2 = rowS g phs.flatten ∧ passedE (ticks phs.flatten.length s).2 = rowP g (List.range phs.length) := by
  have hp : 0 < phs.length := List.length_pos_iff.mpr h0
  have z := from_unit hne hp (u := 0) (getD_len hne hp) hh e
  have e1 : (phs.getD 0 []).drop 0 ++ (phs.drop (0 + 1)).flatten = phs.flatten := by
    have := drop_cons (d := []) hp
    rw [List.drop_zero] at this
    conv => rhs; rw [this]
    rfl
  rw [e1, Nat.sub_zero, ← List.range_eq_range'] at z
  exact z
/-- a crowd, from its beginnings -/
def unitsC (w : List Th) : List (Str × Str) := w.flatMap fun t => rowS t.tag t.phs.flatten
def passC (w : List Th) : List (Str × Nat) := w.flatMap fun t => rowP t.tag (List.range t.phs.length)
theorem crowd_out : ∀ {w : List Th} {s : Stt}, s.held = false → stand s = w → (∀ t ∈ w, t.ph = 0 ∧ t.un = 0 ∧ t.phs ≠ [] ∧ ∀ q ∈ t.phs, q ≠ []) →
    (ticks (unitsC w).length s).1.held = false ∧ stand (ticks (unitsC w).length s).1 = [] ∧ heardE (ticks (unitsC w).length s).2 = unitsC w ∧ passedE (ticks (unitsC w).length s).2 = passC w
  | [], s, hh, e, _ => ⟨hh, e, rfl, rfl⟩
  | ⟨n, r, phs, g, p, u⟩ :: w, s, hh, e, h => by
    obtain ⟨h1, h2, h3, h4⟩ := h _ List.mem_cons_self
    have h1 : p = 0 := h1
    have h2 : u = 0 := h2
    subst h1 h2
    obtain ⟨i1, i2, i3⟩ := whole_out h4 h3 hh e
    have e1 : unitsC (⟨n, r, phs, g, 0, 0⟩ :: w) = rowS g phs.flatten ++ unitsC w := rfl
    rw [e1, List.length_append, List.length_map, ticks_add]
    obtain ⟨k1, k2, k3, k4⟩ := crowd_out (w := w) (s := stN w) rfl rfl fun t ht => h t (List.mem_cons_of_mem _ ht)
    rw [i1]
    refine ⟨k1, k2, ?_, ?_⟩
    · show heardE (_ ++ _) = _
      rw [heardE_app, i2, k3]
    · show passedE (_ ++ _) = _
      rw [passedE_app, i3, k4]
      rfl
theorem ticks_silent : ∀ {j : Nat} {s : Stt}, s.held = false → stand s = [] → heardE (ticks j s).2 = [] ∧ passedE (ticks j s).2 = [] ∧ stand (ticks j s).1 = []
  | 0, _, _, h => ⟨rfl, rfl, h⟩
  | j + 1, s, hh, h => by
    rw [ticks_S, tick_idle (.inr h)]
    exact ticks_silent (j := j) (s := { s with stp := false }) hh h


/-! the cuts of a talk -/
theorem ticks_hst : ∀ {k : Nat} {s : Stt}, s.held = true → s.stp = false → ticks k s = (s, [])
  | 0, _, _, _ => rfl
  | k + 1, s, h, h2 => by
    have e : ({ s with stp := false } : Stt) = s := by rw [← h2]
    rw [ticks_S, tick_idle (.inl h), e, ticks_hst h h2]
    rfl
theorem done_st {s : Spk} {d : Deed} {s' : Stt} {ev : List Ev} (e : doDeed s.st s.ds.length d = (s', ev)) : doneS s d = ⟨s', addD s.ds d, s.hu ++ heardE ev, s.pp ++ passedE ev⟩ := by
  unfold doneS
  rw [e]
theorem tick_fx {s : Spk} {k : Nat} {s' : Stt} {h : List (Str × Str)} {q : List (Str × Nat)} (hk : 1 ≤ k) (e1 : (ticks k s.st).1 = s') (e2 : heardE (ticks k s.st).2 = h) (e3 : passedE (ticks k s.st).2 = q) :
    (doneS s (.tick k)).st = s' ∧ doneH s (.tick k) = h ∧ (doneS s (.tick k)).hu = s.hu ++ h ∧ (doneS s (.tick k)).pp = s.pp ++ q := by
  have e := @do_tick k s.ds.length s.st hk
  subst e1 e2 e3
  unfold doneS doneH
  rw [e]
  exact ⟨rfl, rfl, rfl, rfl⟩
theorem say_first {phs : List (List Str)} {r : Nat} {g : Str} (hr : r = 1 ∨ r = 2) : (doneS sp0 (.say r phs g)).st = stN [thX 0 r phs g 0 0] ∧ (doneS sp0 (.say r phs g)).hu = [] ∧ (doneS sp0 (.say r phs g)).pp = [] := by
  rcases hr with rfl | rfl <;> exact ⟨rfl, rfl, rfl⟩
theorem now_st {s : Spk} {phs : List (List Str)} {g : Str} {p u : Nat} (e : s.st = stX (thX 0 1 phs g p u) []) :
    doneS s nowD = ⟨stN [thX s.ds.length 2 [[Str.ofString "now"]] (Str.ofString "n") 0 0, thX 0 1 phs g p 0], addD s.ds nowD, s.hu, s.pp⟩ := by
  have h : doDeed s.st s.ds.length nowD = (stN [thX s.ds.length 2 [[Str.ofString "now"]] (Str.ofString "n") 0 0, thX 0 1 phs g p 0], [.cut 0 g p u]) := by
    rw [e]
    rfl
  rw [done_st h]
  show Spk.mk _ _ (s.hu ++ []) (s.pp ++ []) = _
  rw [List.append_nil, List.append_nil]
theorem cut_st {s : Spk} {phs : List (List Str)} {g : Str} {p u k : Nat} (hk : 1 ≤ k) (e : s.st = stX (thX 0 1 phs g p u) []) :
    (cutS s k).st = stN [thX 0 1 phs g p 0] ∧ (cutS s k).hu = s.hu ∧ (cutS s k).pp = s.pp := by
  have h1 : doneS s .hold = ⟨⟨none, [thX 0 1 phs g p 0], true, false⟩, addD s.ds .hold, s.hu, s.pp⟩ := by
    have h : doDeed s.st s.ds.length .hold = (⟨none, [thX 0 1 phs g p 0], true, false⟩, [.cut 0 g p u]) := by
      rw [e]
      rfl
    rw [done_st h]
    show Spk.mk _ _ (s.hu ++ []) (s.pp ++ []) = _
    rw [List.append_nil, List.append_nil]
  unfold cutS
  rw [h1]
  have et := @ticks_hst k ⟨none, [thX 0 1 phs g p 0], true, false⟩ rfl rfl
  obtain ⟨q1, _, q3, q4⟩ := tick_fx (s := ⟨⟨none, [thX 0 1 phs g p 0], true, false⟩, addD s.ds .hold, s.hu, s.pp⟩) (k := k) hk rfl rfl rfl
  rw [et] at q1 q3 q4
  have q3 : (doneS _ (.tick k)).hu = s.hu ++ [] := q3
  have q4 : (doneS _ (.tick k)).pp = s.pp ++ [] := q4
  rw [List.append_nil] at q3 q4
  refine ⟨?_, ?_, ?_⟩
  · show ({ (doneS _ (.tick k)).st with held := false } : Stt) = _
    rw [q1]
  · show (doneS _ (.tick k)).hu ++ [] = _
    rw [q3, List.append_nil]
  · show (doneS _ (.tick k)).pp ++ [] = _
    rw [q4, List.append_nil]
abbrev nowH : Str × Str := (Str.ofString "n", Str.ofString "now")
def CutTo (s : Spk) (more : List (Str × Str)) (s1 : Spk) : Prop := (more = [nowH] ∧ s1 = doneS s nowD) ∨ (more = [] ∧ ∃ k, 1 ≤ k ∧ k ≤ 3 ∧ s1 = cutS s k)
theorem turn_ok {s s1 : Spk} {more : List (Str × Str)} {phs : List (List Str)} {g : Str} {p u : Nat} (e : s.st = stX (thX 0 1 phs g p u) []) (hc : CutTo s more s1) (h0 : 1 ≤ u) (hu : u < (phs.getD p []).length) :
    s1.st.said = none ∧ (∃ pre, s1.st.wt = pre ++ [thX 0 1 phs g p 0]) ∧ (doneS s1 (.tick (more.length + u))).st = stX (thX 0 1 phs g p u) [] ∧ doneH s1 (.tick (more.length + u)) = more ++ rowS g ((phs.getD p []).take u) ∧
      (doneS s1 (.tick (more.length + u))).hu = s.hu ++ (more ++ rowS g ((phs.getD p []).take u)) ∧ (doneS s1 (.tick (more.length + u))).pp = s.pp ++ List.replicate more.length (Str.ofString "n", 0) := by
  obtain ⟨j, rfl⟩ : ∃ j, u = j + 1 := ⟨u - 1, by omega⟩
  obtain ⟨i1, i2, i3⟩ := ph_mid (n := 0) (r := 1) (p := p) (phs := phs) (g := g) (w := []) (j := j) (u := 0) (s := stN [thX 0 1 phs g p 0]) rfl rfl (by omega)
  rw [Nat.zero_add] at i1
  rw [List.drop_zero] at i2
  rcases hc with ⟨rfl, rfl⟩ | ⟨rfl, k, hk, _, rfl⟩
  · rw [now_st e]
    refine ⟨rfl, ⟨[_], rfl⟩, ?_⟩
    have e1 : [nowH].length + (j + 1) = (j + 1) + 1 := Nat.add_comm 1 (j + 1)
    rw [e1]
    generalize hs : stN [thX s.ds.length 2 [[Str.ofString "now"]] (Str.ofString "n") 0 0, thX 0 1 phs g p 0] = s2
    have et : tick s2 = (stN [thX 0 1 phs g p 0], [.heard s.ds.length (Str.ofString "n") (Str.ofString "now"), .passed s.ds.length (Str.ofString "n") 0, .done s.ds.length (Str.ofString "n")]) := by
      subst hs
      rfl
    refine tick_fx (s := ⟨s2, addD s.ds nowD, s.hu, s.pp⟩) (k := j + 1 + 1) (by omega) ?_ ?_ ?_
    · show (ticks (j + 1 + 1) s2).1 = _
      rw [ticks_S, et]
      exact i1
    · show heardE (ticks (j + 1 + 1) s2).2 = _
      rw [ticks_S, et]
      show heardE (_ ++ _) = _
      rw [heardE_app, i2]
      rfl
    · show passedE (ticks (j + 1 + 1) s2).2 = _
      rw [ticks_S, et]
      show passedE (_ ++ _) = _
      rw [passedE_app, i3]
      rfl
  · obtain ⟨c1, c2, c3⟩ := cut_st hk e
    refine ⟨by rw [c1], ⟨[], by rw [c1]; rfl⟩, ?_⟩
    have e1 : ([] : List (Str × Str)).length + (j + 1) = j + 1 := Nat.zero_add _
    rw [e1, ← c2, ← c3]
    refine tick_fx (s := cutS s k) (k := j + 1) (by omega) ?_ ?_ ?_
    · rw [c1]
      exact i1
    · rw [c1]
      exact i2
    · rw [c1]
      exact i3
theorem talk_begun {phs : List (List Str)} {g : Str} {p u : Nat} (hne : ∀ q ∈ phs, q ≠ []) (hp : p < phs.length) (h0 : 1 ≤ u) (hu : u < (phs.getD p []).length) {N : Nat} (hN : N = ((phs.take p).flatten ++ (phs.getD p []).take u).length) :
    (doneS (doneS sp0 (.say 1 phs g)) (.tick N)).st = stX (thX 0 1 phs g p u) [] ∧ doneH (doneS sp0 (.say 1 phs g)) (.tick N) = rowS g ((phs.take p).flatten ++ (phs.getD p []).take u) ∧
      (doneS (doneS sp0 (.say 1 phs g)) (.tick N)).hu = rowS g ((phs.take p).flatten ++ (phs.getD p []).take u) ∧ (doneS (doneS sp0 (.say 1 phs g)) (.tick N)).pp = rowP g (List.range p) := by
  obtain ⟨a1, a2, a3⟩ := @say_first phs 1 g (.inl rfl)
  have h1 : 1 ≤ N := by
    rw [hN, List.length_append, List.length_take]
    omega
  have hh : (doneS sp0 (.say 1 phs g)).st.held = false := by rw [a1]
  have hs : stand (doneS sp0 (.say 1 phs g)).st = [thX 0 1 phs g 0 0] := by rw [a1]; rfl
  obtain ⟨i1, i2, i3⟩ := to_unit hne hp h0 hu hh hs
  rw [← hN] at i1 i2 i3
  obtain ⟨q1, q2, q3, q4⟩ := tick_fx h1 i1 i2 i3
  rw [a2] at q3
  rw [a3] at q4
  exact ⟨q1, q2, q3, q4⟩
theorem talk_ended {s : Spk} {phs : List (List Str)} {g : Str} {p u : Nat} (e : s.st = stX (thX 0 1 phs g p u) []) (hne : ∀ q ∈ phs, q ≠ []) (hp : p < phs.length) (hu : u < (phs.getD p []).length) {N j : Nat} (hN : N = ((phs.getD p []).drop u ++ (phs.drop (p + 1)).flatten).length) (hj : 1 ≤ j) :
    stand (doneS s (.tick (N + j))).st = [] ∧ doneH s (.tick (N + j)) = rowS g ((phs.getD p []).drop u ++ (phs.drop (p + 1)).flatten) ∧
      (doneS s (.tick (N + j))).hu = s.hu ++ rowS g ((phs.getD p []).drop u ++ (phs.drop (p + 1)).flatten) ∧ (doneS s (.tick (N + j))).pp = s.pp ++ rowP g (List.range' p (phs.length - p)) := by
  have hh : s.st.held = false := by rw [e]
  have hs : stand s.st = [thX 0 1 phs g p u] := by rw [e]; rfl
  obtain ⟨i1, i2, i3⟩ := from_unit hne hp hu hh hs
  rw [← hN] at i1 i2 i3
  obtain ⟨k1, k2, k3⟩ := ticks_silent (j := j) (s := stN []) rfl rfl
  have e1 : ticks (N + j) s.st = ((ticks j (stN [])).1, (ticks N s.st).2 ++ (ticks j (stN [])).2) := by rw [ticks_add, i1]
  obtain ⟨q1, q2, q3, q4⟩ := tick_fx (s := s) (k := N + j) (by omega) rfl rfl rfl
  rw [e1] at q1 q2 q3 q4
  have q2 : _ = heardE (_ ++ _) := q2
  have q3 : _ = s.hu ++ heardE (_ ++ _) := q3
  have q4 : _ = s.pp ++ passedE (_ ++ _) := q4
  rw [heardE_app, k1, i2, List.append_nil] at q2 q3
  rw [passedE_app, k2, i3, List.append_nil] at q4
  exact ⟨by rw [q1]; exact k3, q2, q3, q4⟩
theorem stand_nil {s : Stt} (h : stand s = []) : s.said = none ∧ s.wt = [] := by
  obtain ⟨sd, wt, hh, sp⟩ := s
  cases sd with
  | none => exact ⟨rfl, h⟩
  | some t => cases h
/-! a crowd -/
abbrev Utt := Nat × List (List Str) × Str
abbrev thU (i : Nat) (t : Utt) : Th := thX i t.1 t.2.1 t.2.2 0 0
def thsR (r : Nat) : Nat → List Utt → List Th
  | _, [] => []
  | i, t :: us => if t.1 = r then thU i t :: thsR r (i + 1) us else thsR r (i + 1) us
theorem say_low {s : Spk} {A B : List Th} {t : Utt} (e : s.st = stN (A ++ B)) (hA : ∀ x ∈ A, x.rank = 2) (hB : ∀ x ∈ B, x.rank = 1) (ht : t.1 = 1 ∨ t.1 = 2) :
    doneS s (sayT t) = ⟨stN ((A ++ if t.1 = 2 then [thU s.ds.length t] else []) ++ (B ++ if t.1 = 1 then [thU s.ds.length t] else [])), s.ds ++ [sayT t], s.hu, s.pp⟩ := by
  obtain ⟨r, ps, g⟩ := t
  have hd : addD s.ds (sayT (r, ps, g)) = s.ds ++ [sayT (r, ps, g)] := add_no rfl
  have h : doDeed s.st s.ds.length (sayT (r, ps, g)) = (stN ((A ++ if r = 2 then [thU s.ds.length (r, ps, g)] else []) ++ (B ++ if r = 1 then [thU s.ds.length (r, ps, g)] else [])), []) := by
    rw [e]
    have hr : r = 1 ∨ r = 2 := ht
    rcases hr with rfl | rfl
    · have f1 : (A ++ B).filter (aheadB (thX s.ds.length 1 ps g 0 0) false) = A ++ B := List.filter_eq_self.mpr fun x hx => by
        rcases List.mem_append.mp hx with hx | hx
        · have := hA x hx
          unfold aheadB
          simp [this]
        · have := hB x hx
          unfold aheadB
          simp [this]
      have ep : putIn (A ++ B) (thX s.ds.length 1 ps g 0 0) false = A ++ B ++ [thX s.ds.length 1 ps g 0 0] := by
        unfold putIn
        rw [f1, List.drop_length, List.append_nil]
      show (stN (putIn (A ++ B) (thX s.ds.length 1 ps g 0 0) false), ([] : List Ev)) = (stN ((A ++ []) ++ (B ++ [thX s.ds.length 1 ps g 0 0])), [])
      rw [ep, List.append_nil, List.append_assoc]
    · have f1 : (A ++ B).filter (aheadB (thX s.ds.length 2 ps g 0 0) false) = A := by
        rw [List.filter_append, List.filter_eq_self.mpr fun x hx => by have := hA x hx; unfold aheadB; simp [this], List.filter_eq_nil_iff.mpr fun x hx => by have := hB x hx; unfold aheadB; simp [this], List.append_nil]
      have ep : putIn (A ++ B) (thX s.ds.length 2 ps g 0 0) false = A ++ [thX s.ds.length 2 ps g 0 0] ++ B := by
        unfold putIn
        rw [f1, List.drop_left]
      show (stN (putIn (A ++ B) (thX s.ds.length 2 ps g 0 0) false), ([] : List Ev)) = (stN ((A ++ [thX s.ds.length 2 ps g 0 0]) ++ (B ++ [])), [])
      rw [ep, List.append_nil]
  rw [done_st h, hd]
  show Spk.mk _ _ (s.hu ++ []) (s.pp ++ []) = _
  rw [List.append_nil, List.append_nil]
theorem crowd_st : ∀ {us : List Utt} {s : Spk} {A B : List Th}, s.st = stN (A ++ B) → (∀ x ∈ A, x.rank = 2) → (∀ x ∈ B, x.rank = 1) → (∀ t ∈ us, t.1 = 1 ∨ t.1 = 2) →
    (us.map sayT).foldl doneS s = ⟨stN ((A ++ thsR 2 s.ds.length us) ++ (B ++ thsR 1 s.ds.length us)), s.ds ++ us.map sayT, s.hu, s.pp⟩
  | [], ⟨st, ds, hu, pp⟩, A, B, e, _, _, _ => by
    have e : st = stN (A ++ B) := e
    subst e
    show Spk.mk _ _ _ _ = Spk.mk (stN ((A ++ []) ++ (B ++ []))) (ds ++ []) hu pp
    rw [List.append_nil, List.append_nil, List.append_nil]
  | t :: us, s, A, B, e, hA, hB, hu => by
    have ht := hu t List.mem_cons_self
    have e1 := say_low e hA hB ht
    show (us.map sayT).foldl doneS (doneS s (sayT t)) = _
    rw [e1]
    rw [crowd_st (us := us) (A := A ++ if t.1 = 2 then [thU s.ds.length t] else []) (B := B ++ if t.1 = 1 then [thU s.ds.length t] else []) rfl (fun x hx => ?_) (fun x hx => ?_) fun y hy => hu y (List.mem_cons_of_mem _ hy)]
    · show Spk.mk (stN ((A ++ _ ++ thsR 2 (s.ds ++ [sayT t]).length us) ++ (B ++ _ ++ thsR 1 (s.ds ++ [sayT t]).length us))) (s.ds ++ [sayT t] ++ us.map sayT) s.hu s.pp = _
      have el : (s.ds ++ [sayT t]).length = s.ds.length + 1 := List.length_append
      have f : ∀ r, (if t.1 = r then [thU s.ds.length t] else []) ++ thsR r (s.ds.length + 1) us = thsR r s.ds.length (t :: us) := fun r => by
        show _ = if t.1 = r then _ else _
        split <;> rfl
      have g1 : ∀ (X Y Z : List Th) (r : Nat), X ++ (if t.1 = r then [thU s.ds.length t] else []) ++ thsR r (s.ds.length + 1) us = X ++ thsR r s.ds.length (t :: us) := fun X Y Z r => by rw [List.append_assoc, f]
      rw [el, g1 A A A 2, g1 B B B 1, List.append_assoc s.ds]
      rfl
    · rcases List.mem_append.mp hx with hx | hx
      · exact hA x hx
      · split at hx
        · rename_i h
          rw [List.mem_singleton.mp hx]
          exact h
        · cases hx
    · rcases List.mem_append.mp hx with hx | hx
      · exact hB x hx
      · split at hx
        · rename_i h
          rw [List.mem_singleton.mp hx]
          exact h
        · cases hx
def ofR (r : Nat) (us : List Utt) : List Utt := us.filter fun t => decide (t.1 = r)
theorem thsR_map {β : Type} {f : Th → β} {f2 : Utt → β} (hf : ∀ i t, f (thU i t) = f2 t) {r : Nat} : ∀ {us : List Utt} {i : Nat}, (thsR r i us).map f = (ofR r us).map f2
  | [], _ => rfl
  | t :: us, i => by
    unfold thsR ofR
    by_cases h : t.1 = r
    · rw [if_pos h, List.filter_cons_of_pos (by exact decide_eq_true h), List.map_cons, List.map_cons, hf, thsR_map hf]
      rfl
    · rw [if_neg h, List.filter_cons_of_neg (by simpa using h), thsR_map hf]
      rfl
theorem thsR_mem {r : Nat} : ∀ {us : List Utt} {i : Nat} {x : Th}, x ∈ thsR r i us → ∃ j t, t ∈ us ∧ x = thU j t
  | [], _, _, h => by cases h
  | t :: us, i, x, h => by
    unfold thsR at h
    split at h
    · rcases List.mem_cons.mp h with rfl | h
      · exact ⟨i, t, List.mem_cons_self, rfl⟩
      · obtain ⟨j, y, h1, h2⟩ := thsR_mem h
        exact ⟨j, y, List.mem_cons_of_mem _ h1, h2⟩
    · obtain ⟨j, y, h1, h2⟩ := thsR_mem h
      exact ⟨j, y, List.mem_cons_of_mem _ h1, h2⟩
def rowU (us : List Utt) : List Utt := ofR 2 us ++ ofR 1 us
def unitsU (us : List Utt) : List (Str × Str) := us.flatMap fun t => rowS t.2.2 t.2.1.flatten
def passU (us : List Utt) : List (Str × Nat) := us.flatMap fun t => rowP t.2.2 (List.range t.2.1.length)
theorem flat_map_eq {α β γ : Type} {f : α → List γ} {g : β → List γ} {l : List α} {m : List β} (h : l.map f = m.map g) : l.flatMap f = m.flatMap g := by
  rw [List.flatMap_def, List.flatMap_def, h]
/-- all said -/
theorem crowd_said {us : List Utt} (hu : ∀ t ∈ us, t.1 = 1 ∨ t.1 = 2) :
    ∃ w, runS (us.map sayT) = ⟨stN w, us.map sayT, [], []⟩ ∧ w.map waitR = (rowU us).map (fun t => .tup [utD t.1 t.2.1 t.2.2, .int 0]) ∧ unitsC w = unitsU (rowU us) ∧ passC w = passU (rowU us) ∧ ∀ x ∈ w, ∃ j t, t ∈ us ∧ x = thU j t := by
  have e := crowd_st (us := us) (s := sp0) (A := []) (B := []) rfl (fun x hx => (by cases hx)) (fun x hx => (by cases hx)) hu
  have hm : ∀ {β : Type} {f : Th → β} {f2 : Utt → β}, (∀ i t, f (thU i t) = f2 t) → (thsR 2 0 us ++ thsR 1 0 us).map f = (rowU us).map f2 := fun hf => by
    rw [List.map_append, thsR_map hf, thsR_map hf, ← List.map_append]
    rfl
  refine ⟨thsR 2 0 us ++ thsR 1 0 us, e, hm fun i t => rfl, flat_map_eq (hm fun i t => rfl), flat_map_eq (hm fun i t => rfl), fun x hx => ?_⟩
  rcases List.mem_append.mp hx with hx | hx
  · exact thsR_mem hx
  · exact thsR_mem hx
/-- .. and gone through -/
theorem crowd_told {us : List Utt} (hu : ∀ t ∈ us, (t.1 = 1 ∨ t.1 = 2) ∧ t.2.1 ≠ [] ∧ ∀ q ∈ t.2.1, q ≠ []) (h0 : us ≠ []) {N : Nat} (hN : N = (unitsU (rowU us)).length) {j : Nat} (hj : 1 ≤ j) :
    doneH (runS (us.map sayT)) (.tick (N + j)) = unitsU (rowU us) ∧ (doneS (runS (us.map sayT)) (.tick (N + j))).hu = unitsU (rowU us) ∧ (doneS (runS (us.map sayT)) (.tick (N + j))).pp = passU (rowU us) ∧ (doneS (runS (us.map sayT)) (.tick (N + j))).ds = us.map sayT ++ [.tick (N + j)] := by
  obtain ⟨w, e, _, e2, e3, e4⟩ := crowd_said fun t ht => (hu t ht).1
  obtain ⟨i1, i2, i3, i4⟩ := crowd_out (w := w) (s := stN w) rfl rfl fun x hx => by
    obtain ⟨i, t, ht, rfl⟩ := e4 x hx
    exact ⟨rfl, rfl, (hu t ht).2.1, (hu t ht).2.2⟩
  rw [e2, ← hN] at i1 i2 i3 i4
  rw [e3] at i4
  obtain ⟨k1, k2, k3⟩ := ticks_silent (j := j) i1 i2
  rw [e]
  obtain ⟨_, q2, q3, q4⟩ := tick_fx (s := ⟨stN w, us.map sayT, [], []⟩) (k := N + j) (by omega) rfl rfl rfl
  have et : (ticks (N + j) (stN w)).2 = (ticks N (stN w)).2 ++ (ticks j (ticks N (stN w)).1).2 := by rw [ticks_add]
  have eh : heardE (ticks (N + j) (stN w)).2 = unitsU (rowU us) := by rw [et, heardE_app, k1, i3, List.append_nil]
  have ep : passedE (ticks (N + j) (stN w)).2 = passU (rowU us) := by rw [et, passedE_app, k2, i4, List.append_nil]
  refine ⟨q2.trans eh, q3.trans eh, q4.trans ep, ?_⟩
  obtain ⟨us', t, rfl⟩ : ∃ us' t, us = us' ++ [t] := ⟨us.dropLast, us.getLast h0, (List.dropLast_concat_getLast h0).symm⟩
  show addD ((us' ++ [t]).map sayT) (.tick (N + j)) = _
  rw [List.map_append]
  have hx : (us'.map sayT ++ [t].map sayT)[(us'.map sayT ++ [t].map sayT).length - 1]? = some (sayT t) := by
    rw [List.length_append]
    show (us'.map sayT ++ [sayT t])[(us'.map sayT).length + 1 - 1]? = _
    rw [Nat.add_sub_cancel, List.getElem?_append_right (Nat.le_refl _), Nat.sub_self]
    rfl
  exact add_no2 hx rfl


/-! the keys -/
abbrev pD : Deed := .say 1 [[Str.ofString "p"]] (Str.ofString "p")
abbrev kD (k : Str) : Deed := .say 3 [[k]] (Str.ofString "k")
/-- what is left behind the first unit -/
def restK (row : List (List Str)) : List (List Str) := if (row.getD 0 []).length = 1 then row.drop 1 else row
def behK (n r : Nat) (g : Str) (row : List (List Str)) : List Th := if (row.getD 0 []).length = 1 then (if 1 < row.length then [thX n r row g 1 0] else []) else [thX n r row g 0 0]
theorem first_tick {row : List (List Str)} {g : Str} (hne : ∀ q ∈ row, q ≠ []) (h0 : row ≠ []) :
    doneH (doneS sp0 (.say 2 row g)) (.tick 1) = rowS g ((row.getD 0 []).take 1) ∧ ∃ st, (doneS (doneS sp0 (.say 2 row g)) (.tick 1)).st = st ∧ st.wt = [] ∧ st.held = false ∧ st.stp = false ∧ (st.said.toList.map fun t => { t with un := 0 }) = behK 0 2 g row ∧ ∀ t, st.said = some t → t.rank = 2 := by
  obtain ⟨a1, a2, a3⟩ := @say_first row 2 g (.inr rfl)
  have hp : 0 < row.length := List.length_pos_iff.mpr h0
  have hl := getD_len hne hp
  have hh : (doneS sp0 (.say 2 row g)).st.held = false := by rw [a1]
  have hs : stand (doneS sp0 (.say 2 row g)).st = [thX 0 2 row g 0 0] := by rw [a1]; rfl
  by_cases h1 : (row.getD 0 []).length = 1
  · obtain ⟨i1, i2, i3⟩ := ph_end (j := 0) (u := 0) hh hs (by omega)
    obtain ⟨q1, q2, _, _⟩ := tick_fx (k := 1) (by decide) i1 i2 i3
    have et : (row.getD 0 []).take 1 = (row.getD 0 []).drop 0 := by
      rw [List.drop_zero, List.take_of_length_le (by omega)]
    refine ⟨by rw [et]; exact q2, _, q1, ?_⟩
    unfold nextP behK
    rw [if_pos h1, Nat.zero_add]
    by_cases h2 : 1 < row.length
    · rw [if_pos h2, if_pos h2]
      exact ⟨rfl, rfl, rfl, rfl, fun t ht => by injection ht with ht; rw [← ht]⟩
    · rw [if_neg h2, if_neg h2]
      exact ⟨rfl, rfl, rfl, rfl, fun t ht => by cases ht⟩
  · obtain ⟨i1, i2, i3⟩ := ph_mid (j := 0) (u := 0) hh hs (by omega)
    obtain ⟨q1, q2, _, _⟩ := tick_fx (k := 1) (by decide) i1 i2 i3
    rw [List.drop_zero] at q2
    refine ⟨q2, _, q1, ?_⟩
    unfold behK
    rw [if_neg h1]
    exact ⟨rfl, rfl, rfl, rfl, fun t ht => by injection ht with ht; rw [← ht]⟩
def keyT (n : Nat) (k : Str) : Th := thX n 3 [[k]] (Str.ofString "k") 0 0
theorem say_st {s : Spk} {r : Nat} {ps : List (List Str)} {g : Str} : (doneS s (.say r ps g)).st = ⟨(cutR (sayA s.st r).1 r).1.said, putIn (cutR (sayA s.st r).1 r).1.wt (thX s.ds.length r ps g 0 0) false, (cutR (sayA s.st r).1 r).1.held, false⟩ := by
  show (doDeed s.st s.ds.length (.say r ps g)).1 = _
  rw [doSay]
theorem key_first {s : Spk} {k : Str} {B : List Th} (hw : s.st.wt = []) (hh : s.st.held = false) (hB : (s.st.said.toList.map fun t => { t with un := 0 }) = B) (hr : ∀ t, s.st.said = some t → t.rank = 2) :
    ∃ n, (doneS (doneS s pD) (kD k)).st = stN (keyT n k :: B) := by
  obtain ⟨⟨sd, wt, hd, sp⟩, ds, hu, pp⟩ := s
  have hw : wt = [] := hw
  have hh : hd = false := hh
  subst hw hh
  cases sd with
  | none =>
    have hB : [] = B := hB
    subst hB
    exact ⟨_, rfl⟩
  | some t =>
    obtain ⟨n, r, ps, g, p, u⟩ := t
    have hr : r = 2 := hr _ rfl
    subst hr
    have hB : [thX n 2 ps g p 0] = B := hB
    subst hB
    exact ⟨_, rfl⟩
theorem key_next {s : Spk} {n : Nat} {k k2 : Str} {row : List (List Str)} {m : Nat} {g : Str} (e : s.st = stN (keyT n k :: behK m 2 g row)) : ∃ n, (doneS (doneS s pD) (kD k2)).st = stN (keyT n k2 :: behK m 2 g row) := by
  obtain ⟨st, ds, hu, pp⟩ := s
  have e : st = stN (keyT n k :: behK m 2 g row) := e
  unfold behK at e ⊢
  split at e
  · rename_i h1
    rw [if_pos h1]
    split at e
    · rename_i h2
      rw [if_pos h2]
      subst e
      exact ⟨_, rfl⟩
    · rename_i h2
      rw [if_neg h2]
      subst e
      exact ⟨_, rfl⟩
  · rename_i h1
    rw [if_neg h1]
    subst e
    exact ⟨_, rfl⟩
theorem keys_told {s : Spk} {n m : Nat} {k g : Str} {row : List (List Str)} (hne : ∀ q ∈ row, q ≠ []) (h0 : row ≠ []) (e : s.st = stN (keyT n k :: behK m 2 g row)) {N : Nat} (hN : 1 + row.flatten.length < N) :
    doneH s (.tick N) = (Str.ofString "k", k) :: rowS g (restK row).flatten ∧ stand (doneS s (.tick N)).st = [] := by
  obtain ⟨i1, i2, i3⟩ := whole_out (n := n) (r := 3) (phs := [[k]]) (g := Str.ofString "k") (w := behK m 2 g row) (s := stN (keyT n k :: behK m 2 g row)) (fun q hq => by rw [List.mem_singleton.mp hq]; simp) (by simp) rfl rfl
  have i1 : (ticks 1 (stN (keyT n k :: behK m 2 g row))).1 = _ := i1
  have i2 : heardE (ticks 1 (stN (keyT n k :: behK m 2 g row))).2 = [(Str.ofString "k", k)] := i2
  have hp : 0 < row.length := List.length_pos_iff.mpr h0
  have beh : ∃ M, M ≤ row.flatten.length ∧ (ticks M (stN (behK m 2 g row))).1 = stN [] ∧ heardE (ticks M (stN (behK m 2 g row))).2 = rowS g (restK row).flatten := by
    have split0 := drop_cons (d := []) hp
    rw [List.drop_zero] at split0
    unfold behK restK
    by_cases h1 : (row.getD 0 []).length = 1
    · rw [if_pos h1, if_pos h1]
      by_cases h2 : 1 < row.length
      · rw [if_pos h2]
        have z := from_unit (n := m) (r := 2) (p := 1) (u := 0) (phs := row) (g := g) (w := []) (s := stN [thX m 2 row g 1 0]) hne h2 (getD_len hne h2) rfl rfl
        have e1 : (row.getD 1 []).drop 0 ++ (row.drop (1 + 1)).flatten = (row.drop 1).flatten := by
          rw [List.drop_zero, drop_cons (d := []) h2]
          rfl
        rw [e1] at z
        refine ⟨_, ?_, z.1, z.2.1⟩
        have ef : row.flatten = row.getD 0 [] ++ (row.drop 1).flatten := by
          conv => lhs; rw [split0]
          rfl
        rw [ef, List.length_append]
        omega
      · rw [if_neg h2, List.drop_eq_nil_of_le (by omega)]
        exact ⟨0, Nat.zero_le _, rfl, rfl⟩
    · rw [if_neg h1, if_neg h1]
      have z := whole_out (n := m) (r := 2) (phs := row) (g := g) (w := []) (s := stN [thX m 2 row g 0 0]) hne h0 rfl rfl
      exact ⟨_, Nat.le_refl _, z.1, z.2.1⟩
  obtain ⟨M, hM, m1, m2⟩ := beh
  obtain ⟨j, rfl⟩ : ∃ j, N = (1 + M) + (j + 1) := ⟨N - 1 - M - 1, by omega⟩
  obtain ⟨k1, k2, k3⟩ := ticks_silent (j := j + 1) (s := stN []) rfl rfl
  obtain ⟨q1, q2, _, _⟩ := tick_fx (s := s) (k := (1 + M) + (j + 1)) (by omega) rfl rfl rfl
  have et : ticks ((1 + M) + (j + 1)) s.st = ((ticks (j + 1) (stN [])).1, ((ticks 1 (stN (keyT n k :: behK m 2 g row))).2 ++ (ticks M (stN (behK m 2 g row))).2) ++ (ticks (j + 1) (stN [])).2) := by
    rw [@ticks_add (j + 1) (1 + M) s.st, @ticks_add M 1 s.st, e, i1]
    show ((ticks (j + 1) (ticks M (stN (behK m 2 g row))).1).1, (_ ++ (ticks M (stN (behK m 2 g row))).2) ++ (ticks (j + 1) (ticks M (stN (behK m 2 g row))).1).2) = _
    rw [m1]
  rw [et] at q1 q2
  have q2 : _ = heardE ((_ ++ _) ++ _) := q2
  rw [heardE_app, heardE_app, i2, m2, k1, List.append_nil] at q2
  exact ⟨q2, by rw [q1]; exact k3⟩
/-- tail of the due -/
theorem rest_eq {row : List (List Str)} (h0 : row ≠ []) : (if (row.getD 0 []).length = 1 then row.flatten.drop 1 else row.flatten) = (restK row).flatten := by
  have hp : 0 < row.length := List.length_pos_iff.mpr h0
  unfold restK
  by_cases h1 : (row.getD 0 []).length = 1
  · rw [if_pos h1, if_pos h1]
    have split0 := drop_cons (d := []) hp
    rw [List.drop_zero] at split0
    conv => lhs; rw [split0]
    rw [List.flatten_cons, List.drop_append_of_le_length (by omega), List.drop_eq_nil_of_le (by omega)]
    rfl
  · rw [if_neg h1, if_neg h1]


section
variable {P : Program} {w : World} {K : PySem.W.Frag} {mg : Str → Option Value} {base : Heap} {a : Ad} {f : Addr} {fd : FuncData}
local macro_rules | `(tactic| walk_at "pq") => `(tactic| repeat (first | walk_at "p1" | (refine oo_ixT rfl ?_)))
/-- data that may be compared, at most so deep -/
def Py (k : Nat) (d : D) : Prop := ∃ p, D.py d = some p ∧ PySem.PyData.canLay0 p = true ∧ PySem.PyData.depth p ≤ k
theorem py_all {k : Nat} : ∀ {l : List D}, (∀ c ∈ l, Py k c) → ∃ ps, D.pyAll l = some ps ∧ PySem.PyData.canLayAll0 ps = true ∧ PySem.PyData.depthAll ps ≤ k ∧ ps.isEmpty = l.isEmpty
  | [], _ => ⟨[], rfl, rfl, Nat.zero_le _, rfl⟩
  | c :: l, h => by
    obtain ⟨ps, h1, h2, h3, _⟩ := py_all (l := l) fun x hx => h x (List.mem_cons_of_mem _ hx)
    obtain ⟨p, q1, q2, q3⟩ := h c List.mem_cons_self
    refine ⟨p :: ps, ?_, ?_, ?_, rfl⟩
    · show (match D.py c, D.pyAll l with | some p, some ps => some (p :: ps) | _, _ => none) = _
      rw [h1, q1]
    · show (PySem.PyData.canLay0 p && PySem.PyData.canLayAll0 ps) = true
      rw [q2, h2]
      rfl
    · show max (PySem.PyData.depth p) (PySem.PyData.depthAll ps) ≤ k
      omega
theorem py_int {i : Int} : Py 0 (.int i) := ⟨.int i, rfl, rfl, Nat.le_refl _⟩
theorem py_str {s : Str} (h : strC s) : Py 0 (.str s) := ⟨.str s, rfl, h, Nat.le_refl _⟩
theorem py_lst {k : Nat} {l : List D} (h : ∀ c ∈ l, Py k c) : Py (k + 1) (.lst l) := by
  obtain ⟨ps, h1, h2, h3, h4⟩ := py_all h
  refine ⟨.list ps, ?_, h2, Nat.succ_le_succ h3⟩
  show (D.pyAll l).map PyData.list = _
  rw [h1]
  rfl
theorem py_tup {k : Nat} {l : List D} (h : ∀ c ∈ l, Py k c) : Py (k + 1) (.tup l) := by
  obtain ⟨ps, h1, h2, h3, h4⟩ := py_all h
  refine ⟨.tuple ps, ?_, h2, Nat.succ_le_succ h3⟩
  show (D.pyAll l).map PyData.tuple = _
  rw [h1]
  rfl
theorem oo_eqPy0 {S : Bs} {μ : List Cell} {C : D → List Cell → Prop} {l : List D} {k : Nat} (h : ∀ c ∈ l, Py k c) (hk : k ≤ 60) (c : C (.bl l.isEmpty) μ) : OO K S (rEqU K) (.lst l) (.lst []) μ C := by
  obtain ⟨ps, h1, h2, h3, h4⟩ := py_all h
  refine oo_eqD (p := .list ps) (q := .list []) ?_ rfl ?_ rfl ?_
  · show (D.pyAll l).map PyData.list = _
    rw [h1]
    rfl
  · show (PySem.PyData.canLayAll0 ps && decide (PySem.PyData.depthAll ps + 1 ≤ 64)) = true
    rw [h2, decide_eq_true (by omega)]
    rfl
  · have e : PyData.eqv (.list ps) (.list []) = ps.isEmpty := by cases ps <;> rfl
    rw [e, h4]
    exact c
theorem oo_neSelf {S : Bs} {μ : List Cell} {C : D → List Cell → Prop} {d : D} {k : Nat} (h : Py k d) (hk : k ≤ 60) (c : C (.bl false) μ) : OO K S (rNeU K) d d μ C := by
  obtain ⟨p, h1, h2, h3⟩ := h
  have hs : SeqAt.shaped p = true := by
    show (PySem.PyData.canLay0 p && decide (PySem.PyData.depth p ≤ 64)) = true
    rw [h2, decide_eq_true (by omega)]
    rfl
  refine oo_neD h1 h1 hs hs ?_
  rw [PySem.SeqAt.eqv_refl p h2]
  exact c
theorem ge_lst3 {S : Bs} {δ : Sl} {μ : List Cell} {i j n : Nat} {x y z : D} {C : Sl → List Cell → Prop} (k : C (((δ.set i (some x)).set j (some y)).set n (some z)) μ) : GE K S (gLst K 3 (gCons (gName i) (gCons (gName j) (gCons (gName n) gNil)))) (.lst [x, y, z]) δ μ C := fun A G H σ v0 a r Q qq => by
  cases r with
  | lst hs rl =>
    cases rl with
    | cons rx r =>
      cases r with
      | cons ry r =>
        cases r with
        | cons rz r =>
          cases r
          exact ⟨_, _, rfl, lst_sq (a.m.ex _ _ hs), rfl, _, _, rfl, _, _, rfl, _, _, rfl, rfl, qq A G H _ _ μ ⟨a.m, En.set rz n (En.set ry j (En.set rx i a.env))⟩ Nw.refl k⟩
theorem cc_sumP {S : Bs} {μ : List Cell} {C : D → List Cell → Prop} {ps : List (List Str)} (hz : ps.flatten.length ≤ 10000000) (k : C (.lst (ps.flatten.map strD)) μ) : CC K S (rSumL K) [phsL ps, .lst []] μ C := by
  have e1 : ps.map phL = (ps.map fun p => p.map strD).map D.lst := by rw [List.map_map]; rfl
  have e2 : (ps.map fun p => p.map strD).flatten = ps.flatten.map strD := by rw [List.map_flatten]
  show CC K S (rSumL K) [.lst (ps.map phL), .lst []] μ C
  rw [e1]
  refine cc_sumL (by rw [e2, List.length_map]; exact hz) ?_
  rw [e2]
  exact k
def longF : D → Bool
  | .tup [_, .lst l] => decide ((l.length : Int) > 1)
  | _ => false
def fstT : D → D
  | .tup [x, _] => x
  | d => d
theorem enum_ph {ps : List (List Str)} {x : D} (h : x ∈ enumD 0 (ps.map phL)) : ∃ i q, ps[i]? = some q ∧ x = .tup [intD i, phL q] := by
  obtain ⟨i, hi⟩ := List.mem_iff_getElem?.mp h
  obtain ⟨y, h1, h2⟩ := enumD_get hi
  rw [List.getElem?_map] at h1
  obtain ⟨q, hq, rfl⟩ := Option.map_eq_some_iff.mp h1
  rw [Nat.zero_add] at h2
  exact ⟨i, q, hq, h2⟩
theorem enum_at : ∀ {l : List D} {k i : Nat} {x : D}, l[i]? = some x → D.tup [.int ((k + i : Nat) : Int), x] ∈ enumD k l
  | [], _, i, _, h => by simp at h
  | y :: l, k, 0, x, h => by
    injection h with h
    subst h
    exact List.mem_cons_self
  | y :: l, k, i + 1, x, h => by
    have z := enum_at (l := l) (k := k + 1) (i := i) h
    rw [show k + (i + 1) = k + 1 + i by omega]
    exact List.mem_cons_of_mem _ z
def longL (ps : List (List Str)) : List D := ((enumD 0 (ps.map phL)).filter longF).map fstT
theorem longL_mem {ps : List (List Str)} {y : D} (h : y ∈ longL ps) : ∃ i, y = intD i ∧ i < ps.length ∧ 1 < (ps.getD i []).length := by
  obtain ⟨x, hx, rfl⟩ := List.mem_map.mp h
  obtain ⟨h1, h2⟩ := List.mem_filter.mp hx
  obtain ⟨i, q, hq, rfl⟩ := enum_ph h1
  have h2 : ((q.map strD).length : Int) > 1 := of_decide_eq_true h2
  rw [List.length_map] at h2
  refine ⟨i, rfl, (List.getElem?_eq_some_iff.mp hq).1, ?_⟩
  rw [List.getD_eq_getElem?_getD, hq]
  show 1 < q.length
  omega
theorem longL_nil {ps : List (List Str)} (h : (longL ps).isEmpty = true) : ∀ q ∈ ps, q.length ≤ 1 := fun q hq => by
  obtain ⟨i, hi⟩ := List.mem_iff_getElem?.mp hq
  have hm : D.tup [.int ((0 + i : Nat) : Int), phL q] ∈ enumD 0 (ps.map phL) := enum_at (by rw [List.getElem?_map, hi]; rfl)
  by_cases hz : q.length ≤ 1
  · exact hz
  · have : D.int ((0 + i : Nat) : Int) ∈ longL ps := List.mem_map.mpr ⟨_, List.mem_filter.mpr ⟨hm, decide_eq_true (by rw [List.length_map]; omega)⟩, rfl⟩
    rw [List.isEmpty_iff.mp h] at this
    cases this
theorem short_sum : ∀ {ps : List (List Str)}, (∀ q ∈ ps, q.length ≤ 1) → ps.flatten.length ≤ ps.length
  | [], _ => Nat.le_refl _
  | q :: ps, h => by
    have ih := short_sum (ps := ps) fun x hx => h x (List.mem_cons_of_mem _ hx)
    have := h q List.mem_cons_self
    rw [List.flatten_cons, List.length_append, List.length_cons]
    omega
abbrev TalkD (d : D) : Prop := ∃ (ps : List (List Str)) (p u : Nat), d = .lst [phsL ps, intD p, intD u] ∧ PhsOk ps ∧ (∀ q ∈ ps, ∀ x ∈ q, TagOk x) ∧ p < ps.length ∧ 1 ≤ u ∧ u < (ps.getD p []).length
abbrev spTalk (K : PySem.W.Frag) : Sp := spDrawn K 700000000 (T := Unit) (fun _ => []) (fun _ => True) (fun _ d => TalkD d) 1010
theorem lit_ok {s : String} (h1 : isTxt (.str (Str.ofString s)) = true := by decide +kernel) (h2 : 0 < (Str.ofString s).length := by decide +kernel) (h3 : (Str.ofString s).length ≤ 1000 := by decide +kernel) : TagOk (Str.ofString s) := ⟨h1, h2, h3⟩
theorem units_lit {us : List Str} (h : ∀ u ∈ us, TagOk u) (h0 : 0 < us.length) (h1 : us.length ≤ 10) : UnitsOk (us.map strD) := ⟨fun x hx => by
  obtain ⟨u, hu, rfl⟩ := List.mem_map.mp hx
  exact ⟨u, rfl, h u hu⟩, by rw [List.length_map]; exact h0, by rw [List.length_map]; exact h1⟩
abbrev abS2 : List Str := [Str.ofString "a", Str.ofString "b"]
theorem ab2_ok : ∀ u ∈ abS2, TagOk u := fun u hu => by
  rcases List.mem_cons.mp hu with rfl | hu
  · exact lit_ok
  · rw [List.mem_singleton.mp hu]
    exact lit_ok
theorem abc_ok : ∀ u ∈ [Str.ofString "a", Str.ofString "b", Str.ofString "c"], TagOk u := fun u hu => by
  rcases List.mem_cons.mp hu with rfl | hu
  · exact lit_ok
  rcases List.mem_cons.mp hu with rfl | hu
  · exact lit_ok
  · rw [List.mem_singleton.mp hu]
    exact lit_ok
abbrev st__law_talk : Stmt := top 48
abbrev nm__law_talk : List Str := ["purse", "phrases", "long", "place", "phrase"]
theorem sc__law_talk : FnScope nm__law_talk ["purse"] (defScope st__law_talk) := ⟨rfl, rfl, rfl, by decide +kernel, rfl, by decide +kernel, by decide +kernel⟩
theorem ok_talk (F : Fun K "_law_talk" "_law_talk" st__law_talk f fd) (T : Tx P w K mg base a) (c__law_draw : CalX P w K mg base 2 "_law_draw" ["purse", "many"] (spDraw K)) (c__law_one_of : CalX P w K mg base 3 "_law_one_of" ["purse", "some"] (spOneOf K)) (c__law_phrases : CalX P w K mg base 5 "_law_phrases" ["purse", "units", "many", "most"] (spPhr K)) : FnOk P w K mg base (L2.CX P w) 6 f fd ["purse"] (spTalk K) := by
  refine F.okX sc__law_talk (fun vs H Q E h => pro_len h fun _ => rfl) (fun cdv A outer s H vs Q E hr h => ⟨_, (pss_cons (ps_set (i := 1) sc__law_talk.nd rfl (by first | exact Or.inl rfl | exact Or.inr rfl) (pe_c c__law_phrases hr (by first | decide | exact Nat.le_refl _) rfl (passes_call (takes_of rfl rfl rfl rfl) (fun _ _ _ _ h => h)) (pa_cons (pv 0) (pa_cons (pe_lst (pa_cons pe_str (pa_cons pe_str (pa_cons pe_str pa_nil)))) (pa_cons pe_int (pa_cons pe_int pa_nil))))))
    (pss_cons (ps_setLc (i := 2) (own := [("place", 3), ("phrase", 4)]) (g := (gTup K 2 (gCons (gName 3) (gCons (gName 4) gNil)))) rfl sc__law_talk.nd rfl rfl (sw_true rfl rfl rfl (by decide +kernel)) (pi_enumK (K := K) rfl (by rfl) T.b_enumerate (pa_cons (pv 1) pa_nil)) (blkOk_by (own := [("place", 3), ("phrase", 4)]) (N := nm__law_talk) (sc := (defScope st__law_talk)) (by decide +kernel)) (fun _ _ _ _ _ => (pg_tupK (K := K) rfl rfl (pgs_cons (pg_name (i := 3) sc__law_talk.nd rfl (by first | exact Or.inl rfl | exact Or.inr rfl)) (pgs_cons (pg_name (i := 4) sc__law_talk.nd rfl (by first | exact Or.inl rfl | exact Or.inr rfl)) pgs_nil)))) (fun _ _ _ _ _ => (pts_one (pt_cmpR op_gt (pe_callB (kC K rLenU rfl call_lenU) (by rfl) T.b_len (by decide +kernel) (pa_cons (pv 4) pa_nil)) pe_int (nomark _)))) (fun _ _ _ _ _ => (pv 3)))
    (pss_cons (ps_if (pt_cmpR (kO K rEqU rfl (op_eqU (hu64 hr))) (pv 2) (pe_lst pa_nil) (nomark _)) (pss_cons (ps_set (i := 1) sc__law_talk.nd rfl (by first | exact Or.inl rfl | exact Or.inr rfl) (pe_op (kO K rPlus rfl op_plus) (pe_slice (kS K rSlU rfl sl_U) (pv 1) po_none (po_some pe_int)) (pe_lst (pa_cons (pe_lst (pa_cons pe_str (pa_cons pe_str pa_nil))) pa_nil))))
    (pss_one (ps_set (i := 2) sc__law_talk.nd rfl (by first | exact Or.inl rfl | exact Or.inr rfl) (pe_lst (pa_cons (pe_op op_sub (pe_callB (kC K rLenU rfl call_lenU) (by rfl) T.b_len (by decide +kernel) (pa_cons (pv 1) pa_nil)) pe_int) pa_nil))))) pss_nil)
    (pss_cons (ps_set (i := 3) sc__law_talk.nd rfl (by first | exact Or.inl rfl | exact Or.inr rfl) (pe_c c__law_one_of hr (by first | decide | exact Nat.le_refl _) rfl (passes_call (takes_of rfl rfl rfl rfl) (fun _ _ _ _ h => h)) (pa_cons (pv 0) (pa_cons (pv 2) pa_nil))))
    (pss_one (ps_ret (pe_lst (pa_cons (pv 1) (pa_cons (pv 3) (pa_cons (pe_op (kO K rPlus rfl op_plus) pe_int (pe_c c__law_draw hr (by first | decide | exact Nat.le_refl _) rfl (passes_call (takes_of rfl rfl rfl rfl) (fun _ _ _ _ h => h)) (pa_cons (pv 0) (pa_cons (pe_op op_sub (pe_callB (kC K rLenU rfl call_lenU) (by rfl) T.b_len (by decide +kernel) (pa_cons (pe_ix (kX K rIx rfl ix_seq) (pv 1) (pv 3) (fun _ _ => rfl)) pa_nil)) pe_int) pa_nil)))) pa_nil)))))))))), run_body h fun ⟨l, n, _⟩ S ⟨hp, hn, _, _⟩ hl hcl wi => ?_⟩)
  have hp : PuOk n l := hp
  have hn : n ≤ 700000000 := hn
  have hS : S.A.length = 1 := hl
  refine se_seq (se_asg ?_)
  refine ask_drawn 0 ?_
  walk_at "pq"
  refine ee_lst ?_
  walk_at "pq"
  refine ⟨([Str.ofString "a", Str.ofString "b", Str.ofString "c"].map strD, 4, 10), l, n, rfl, rfl, hp, by omega, ⟨units_lit abc_ok (by decide) (by decide), by decide, by decide⟩, rfl, fun d l1 hd hd0 hp1 => ?_⟩
  obtain ⟨ps, rfl, hps, htg⟩ := hd
  obtain ⟨hne, hnn, hsz⟩ := hps
  have hlp := (len_phs ⟨hne, hnn, hsz⟩).1
  show SE K S _ [some (.own 0), some (phsL ps), none, none, none] [.lst l1] _
  refine se_seq (se_asg ?_)
  refine ee_lc (ie_enum ?_)
  walk_at "pq"
  refine ⟨fun _ h => h, trivial, longF, fstT, by rw [enumD_len, List.length_map]; omega, fun x hx _ => ?_, fun x acc hx => ?_, ?_⟩
  · obtain ⟨i, q, hq, rfl⟩ := enum_ph hx
    rfl
  · obtain ⟨i, q, hq, rfl⟩ := enum_ph hx
    refine gw_pair (by decide) (by decide) ?_
    walk_at "pq"
    refine cc_len (.lst _) ?_
    walk_at "pq"
    refine ⟨rfl, rfl, fun _ => ?_⟩
    walk_at "pq"
    exact ⟨rfl, rfl⟩
  show SE K S _ [some (.own 0), some (phsL ps), some (.lst (longL ps)), none, none] [.lst l1] _
  have hints : ∀ c ∈ longL ps, Py 0 c := fun c hc => by
    obtain ⟨i, rfl, _⟩ := longL_mem hc
    exact py_int
  have lcl : D.ltL 0 (longL ps) = true := D.ltL_all.mpr fun c hc => by
    obtain ⟨i, rfl, _⟩ := longL_mem hc
    rfl
  have llen : (longL ps).length ≤ 1000000 := by
    unfold longL
    have := List.length_filter_le longF (enumD 0 (ps.map phL))
    rw [List.length_map]
    rw [enumD_len, List.length_map] at this
    omega
  refine se_seq (se_to (fun δ μ => ∃ (qs : List (List Str)) (L : List D), δ = [some (.own 0), some (phsL qs), some (.lst L), none, none] ∧ μ = [.lst l1] ∧ PhsOk qs ∧ (∀ q ∈ qs, ∀ x ∈ q, TagOk x) ∧ 0 < L.length ∧ L.length ≤ 1000000 ∧ D.ltL 0 L = true ∧ ∀ y ∈ L, ∃ i, y = intD i ∧ i < qs.length ∧ 1 < (qs.getD i []).length) ?_ ?_)
  · walk_at "pq"
    refine ee_lst ?_
    walk_at "pq"
    refine oo_eqPy0 hints (by decide) ?_
    walk_at "pq"
    refine ⟨fun h => ?_, fun h => ?_⟩
    · have hshort := longL_nil h
      walk_at "pq"
      refine ss_lst ?_
      rw [show (some (3 : Int)) = some ((3 : Nat) : Int) from rfl, cutD_0n, ← List.map_take]
      walk_at "pq"
      refine ee_lst ?_
      walk_at "pq"
      refine ee_lst ?_
      walk_at "pq"
      refine oo_addL (by rw [List.length_map, List.length_take]; show _ + 1 ≤ _; omega) ?_
      rw [show ((ps.take 3).map phL ++ [D.lst [.str (Str.ofString "a"), .str (Str.ofString "b")]]) = (ps.take 3 ++ [abS2]).map phL by rw [List.map_append]; rfl]
      generalize hqs : ps.take 3 ++ [abS2] = qs
      have hql : qs.length = (ps.take 3).length + 1 := by rw [← hqs, List.length_append]; rfl
      have ht3 : (ps.take 3).length ≤ 3 := by rw [List.length_take]; omega
      walk_at "pq"
      refine ee_lst ?_
      walk_at "pq"
      refine cc_len (.lst _) ?_
      walk_at "pq"
      refine ⟨rfl, ⟨?_, ?_, ?_⟩, ?_, Nat.one_pos, by show 1 ≤ 1000000; decide, rfl, fun y hy => ?_⟩
      · rw [← hqs]
        simp
      · rw [← hqs]
        intro q hq
        rcases List.mem_append.mp hq with hq | hq
        · exact hnn q (List.mem_of_mem_take hq)
        · rw [List.mem_singleton.mp hq]
          simp
      · have h3 := short_sum (ps := ps.take 3) fun q hq => hshort q (List.mem_of_mem_take hq)
        rw [← hqs, List.flatten_append, List.length_append]
        show (ps.take 3).flatten.length + 2 ≤ 10
        omega
      · rw [← hqs]
        intro q hq
        rcases List.mem_append.mp hq with hq | hq
        · exact htg q (List.mem_of_mem_take hq)
        · rw [List.mem_singleton.mp hq]
          exact ab2_ok
      · rw [List.mem_singleton.mp hy, List.length_map, show ((qs.length : Int) - 1) = ((qs.length - 1 : Nat) : Int) by omega]
        refine ⟨_, rfl, by omega, ?_⟩
        rw [List.getD_eq_getElem?_getD, ← hqs, List.length_append]
        show 1 < ((ps.take 3 ++ [abS2])[(ps.take 3).length + 1 - 1]?.getD []).length
        rw [Nat.add_sub_cancel, List.getElem?_append_right (Nat.le_refl _), Nat.sub_self]
        exact (show 1 < 2 by decide)
    · walk_at "pq"
      refine ⟨rfl, ⟨hne, hnn, hsz⟩, htg, ?_, llen, lcl, fun y hy => longL_mem hy⟩
      refine List.length_pos_iff.mpr fun e => ?_
      rw [e] at h
      cases h
  · rintro δ μ ⟨qs, L, rfl, rfl, hqs, htq, hL0, hL1, hLc, hLm⟩
    have hlq := (len_phs hqs).1
    have hlq2 := (len_phs hqs).2
    walk_at "pq"
    refine ask_one 0 ?_
    walk_at "pq"
    refine ⟨.lst L, l1, n + 1000, rfl, rfl, hp1, by omega, .inl ⟨_, rfl, hL0, hL1, hLc⟩, hLc, fun d l2 hd hd0 hp2 => ?_⟩
    have hdm : d ∈ L := by cases hd with | lst hm => exact hm
    obtain ⟨p, rfl, hpl, hpu⟩ := hLm d hdm
    have hgq : qs[p]? = some (qs.getD p []) := by rw [List.getD_eq_getElem?_getD, List.getElem?_eq_getElem hpl]; rfl
    have hqm : qs.getD p [] ∈ qs := List.mem_of_getElem? hgq
    have hz := hlq2 _ hqm
    walk_at "pq"
    refine ee_lst ?_
    walk_at "pq"
    refine ask_draw 0 ?_
    walk_at "pq"
    refine oo_ixL (atI_nat (by rw [List.getElem?_map, hgq]; rfl)) ?_
    walk_at "pq"
    refine cc_len (.lst _) ?_
    walk_at "pq"
    rw [List.length_map]
    refine ⟨((qs.getD p []).length : Int) - 1, l2, n + 1000 + 1, rfl, rfl, hp2, by omega, by omega, by omega, fun v l3 hv hp3 => ?_⟩
    walk_at "pq"
    walk_at "gp"
    have hp4 : PuOk (n + 1010) l3 := hp3.up (by omega)
    rw [show (1 : Int) + (v : Int) = ((1 + v : Nat) : Int) by omega]
    exact gave_drawn (n := n + 1010) hS (d := .lst [phsL qs, intD p, intD (1 + v)]) (by show (D.ltL 0 (qs.map phL) && _) = true; rw [phs_cl]; rfl) ⟨qs, p, 1 + v, rfl, hqs, htq, hpl, by omega, by omega⟩ hp4
end


section
variable {P : Program} {w : World} {K : PySem.W.Frag} {mg : Str → Option Value} {base : Heap} {a : Ad} {f : Addr} {fd : FuncData}
/-! asked: a speaker behind a purse -/
section
variable {S : Bs} {δ : Sl} {μ : List Cell} {C : D → List Cell → Prop} {ta : TA} {E : XK} {c dx : Addr} {u : List D} {s : Spk} {i : Nat} {m : Str}
theorem ask_b {pre : Spk → Prop} {tr : Spk → Spk} {res : Spk → D} (hi : δ[i]? = some (some (.own 1))) (hno : hasF nsS m = false) (hp : pre s) (h : C (res s) (.lst u :: spkC 1 c dx (tr s))) : EE K S (tMeth c m (spBare K c pre tr res) [] E (tVar i) tNil) δ (.lst u :: spkC 1 c dx s) C :=
  ask_m 1 [.lst u] [] hi (List.append_nil _).symm rfl hno (ea_nil ⟨(), [.lst u], [], dx, s, rfl, (List.append_nil _).symm, rfl, hp, rfl, by rw [List.append_nil]; exact h⟩)
theorem ask_say {u0 : List D} {s0 : Spk} (hi : δ[i]? = some (some (.own 1))) (h : EA K S ta δ (.lst u0 :: spkC 1 c dx s0) fun ds μ1 => ∃ (r : Nat) (ps : List (List Str)) (g : Str) (u : List D) (s : Spk), ds = [utD r ps g] ∧ μ1 = .lst u :: spkC 1 c dx s ∧ SpkOk s ∧ UttOk r ps g ∧ Few s ∧ C .non (.lst u :: spkC 1 c dx (doneS s (.say r ps g)))) : EE K S (tMeth c (Str.ofString "say") (spSayM K c) [] E (tVar i) ta) δ (.lst u0 :: spkC 1 c dx s0) C :=
  ask_m 1 [.lst u0] [] hi (List.append_nil _).symm rfl (by decide) fun A G H σ a' Q q => h A G H σ a' Q fun vs ds A1 G1 H1 μ1 m nn rr ⟨r, ps, g, u, s, e1, e2, h1, h2, h3, hC⟩ => q vs ds A1 G1 H1 μ1 m nn rr ⟨(r, ps, g), [.lst u], [], dx, s, e1, by rw [e2]; exact (List.append_nil _).symm, rfl, ⟨h1, h2, h3⟩, by show ((utD r ps g).lt 0 && true) = true; rw [ut_cl]; rfl, by rw [List.append_nil]; exact hC⟩
theorem ask_tk {u0 : List D} {s0 : Spk} (hi : δ[i]? = some (some (.own 1))) (h : EA K S ta δ (.lst u0 :: spkC 1 c dx s0) fun ds μ1 => ∃ (k : Nat) (u : List D) (s : Spk), ds = [intD k] ∧ μ1 = .lst u :: spkC 1 c dx s ∧ SpkOk s ∧ (1 ≤ k ∧ k ≤ 1000) ∧ Few s ∧ C (.lst ((doneH s (.tick k)).map huD)) (.lst u :: spkC 1 c dx (doneS s (.tick k)))) : EE K S (tMeth c (Str.ofString "tick") (spTickM K c) [] E (tVar i) ta) δ (.lst u0 :: spkC 1 c dx s0) C :=
  ask_m 1 [.lst u0] [] hi (List.append_nil _).symm rfl (by decide) fun A G H σ a' Q q => h A G H σ a' Q fun vs ds A1 G1 H1 μ1 m nn rr ⟨k, u, s, e1, e2, h1, h2, h3, hC⟩ => q vs ds A1 G1 H1 μ1 m nn rr ⟨k, [.lst u], [], dx, s, e1, by rw [e2]; exact (List.append_nil _).symm, rfl, ⟨h1, h2, h3⟩, rfl, by rw [List.append_nil]; exact hC⟩
theorem ask_dl (h : EA K S ta δ μ fun ds μ1 => ∃ (many : Nat) (b : Bool) (u : List D) (n nn tt : Nat) (s : Spk) (dx : Addr), ds = [.own 0, .own 1, intD many, .bl b] ∧ μ1 = .lst u :: spkC 1 c dx s ∧ PuOk n u ∧ n ≤ 900000000 ∧ SpkB nn tt s ∧ nn ≤ 8000 ∧ tt ≤ 80000 ∧ 1 ≤ many ∧ many ≤ 2000 ∧ ∀ u', PuOk (n + 20) u' → C (.lst ((doneH s (.tick many)).map huD)) (.lst u' :: spkC 1 c dx (doneS s (.tick many)))) : EE K S (tCall (spDealt K c) [] E ta) δ μ C :=
  ask_with 0 1 (by decide) fun A G H σ a' Q q => h A G H σ a' Q fun vs ds A1 G1 H1 μ1 m nn' rr ⟨many, b, u, n, nn, tt, s, dx, e1, e2, h1, h2, h3, h4, h5, h6, h7, hC⟩ => q vs ds A1 G1 H1 μ1 m nn' rr ⟨(nn, tt, many, b), [.lst u], [], dx, s, u, n, e1, by rw [e2]; exact (List.append_nil _).symm, rfl, rfl, ⟨h1, h2⟩, ⟨h3, h4, h5, h6, h7⟩, rfl, fun u' s' d hd hp ⟨e3, e4⟩ => by
    have e3 : d = .lst ((doneH s (.tick many)).map huD) := e3
    have e4 : s' = doneS s (.tick many) := e4
    subst e3 e4
    rw [List.append_nil]
    exact hC u' hp⟩
theorem ask_ct (h : EA K S ta δ μ fun ds μ1 => ∃ (way : Nat) (u : List D) (n nn tt : Nat) (s : Spk) (dx : Addr), ds = [.own 0, .own 1, intD way] ∧ μ1 = .lst u :: spkC 1 c dx s ∧ PuOk n u ∧ n ≤ 900000000 ∧ SpkB nn tt s ∧ nn ≤ 8000 ∧ tt ≤ 80000 ∧ ∀ u' more s', PuOk (n + 2) u' → CutTo s more s' → C (.lst (more.map huD)) (.lst u' :: spkC 1 c dx s')) : EE K S (tCall (spCut K c) [] E ta) δ μ C :=
  ask_with 0 1 (by decide) fun A G H σ a' Q q => h A G H σ a' Q fun vs ds A1 G1 H1 μ1 m nn' rr ⟨way, u, n, nn, tt, s, dx, e1, e2, h1, h2, h3, h4, h5, hC⟩ => q vs ds A1 G1 H1 μ1 m nn' rr ⟨(nn, tt, way), [.lst u], [], dx, s, u, n, e1, by rw [e2]; exact (List.append_nil _).symm, rfl, rfl, ⟨h1, h2⟩, ⟨h3, h4, h5⟩, rfl, fun u' s' d hd hp hpost => by
    rw [List.append_nil]
    rcases hpost with ⟨e3, e4⟩ | ⟨e3, e4⟩
    · subst e3
      exact hC u' [nowH] s' hp (.inl ⟨rfl, e4⟩)
    · subst e3
      exact hC u' [] s' hp (.inr ⟨rfl, e4⟩)⟩
theorem ask_same (h : EA K S ta δ μ fun ds μ1 => ∃ d, ds = [d, d] ∧ sOk 8 d = true ∧ C (.bl true) μ1) : EE K S (tCall (spSame K 8) [] E ta) δ μ C :=
  ee_cz fun A G H σ a' Q q => h A G H σ a' Q fun vs ds A1 G1 H1 μ1 m nn r ⟨d, e, hs, hC⟩ => q vs ds A1 G1 H1 μ1 m nn r ⟨d, hs, e, by rw [e]; show (d.lt 0 && (d.lt 0 && true)) = true; rw [sOk_cl hs]; rfl, fun r hr => by
    subst hr
    exact hC⟩
end
theorem ask_row {S : Bs} {δ : Sl} {μ : List Cell} {C : D → List Cell → Prop} {ta : TA} {E : XK} (h : EA K S ta δ μ fun ds μ1 => ∃ (g : Str) (us : List Str), ds = [.str g, .lst (us.map strD)] ∧ us.length ≤ 1000000 ∧ C (.lst ((rowS g us).map huD)) μ1) : EE K S (tCall (spRow K) [] E ta) δ μ C :=
  ee_cz fun A G H σ a' Q q => h A G H σ a' Q fun vs ds A1 G1 H1 μ1 m nn r ⟨g, us, e, hz, hC⟩ => q vs ds A1 G1 H1 μ1 m nn r ⟨(g, us), hz, e, by
    rw [e]
    show (true && (D.ltL 0 (us.map strD) && true)) = true
    rw [D.ltL_all.mpr fun x hx => by obtain ⟨y, _, rfl⟩ := List.mem_map.mp hx; rfl]
    rfl, fun r hr => by
    have hr : r = .lst ((rowS g us).map huD) := hr
    subst hr
    exact hC⟩
theorem CutTo.b {n t : Nat} {s s' : Spk} {more : List (Str × Str)} (h : CutTo s more s') (hs : SpkB n t s) : SpkB (n + 3) (t + 3) s' := by
  have up : ∀ {n m t q : Nat} {s : Spk}, SpkB n t s → n ≤ m → t ≤ q → SpkB m q s := fun h h1 h2 => ⟨h.ok, h.ds, Nat.le_trans h.n h1, Nat.le_trans h.hu h2, Nat.le_trans h.pp h2⟩
  rcases h with ⟨_, rfl⟩ | ⟨_, k, k1, k3, rfl⟩
  · exact up (done_b (d := nowD) hs now_ok) (by omega) (by show t + 0 ≤ _; omega)
  · have b1 := done_b (d := .hold) hs trivial
    have b2 := done_b (d := .tick k) b1 (show 1 ≤ k ∧ k ≤ 4000 by omega)
    have b3 := done_b (d := .go) b2 trivial
    exact up b3 (by omega) (by show t + 0 + k + 0 ≤ _; omega)
theorem CutTo.len {s s' : Spk} {more : List (Str × Str)} (h : CutTo s more s') : more.length ≤ 1 := by
  rcases h with ⟨rfl, _⟩ | ⟨rfl, _⟩ <;> decide
theorem cutD_last {l : List D} {x : D} : cutD (l ++ [x]) (some (-1)) none = [x] := by
  show ((l ++ [x]).drop (HT.sIx (l ++ [x]).length 0 (some (-1)))).take ((l ++ [x]).length - HT.sIx (l ++ [x]).length 0 (some (-1))) = _
  have e : HT.sIx (l ++ [x]).length 0 (some (-1)) = l.length := by
    show (if (-1 : Int) < 0 then ((-1 : Int) + ((l ++ [x]).length : Int)).toNat else min (-1 : Int).toNat (l ++ [x]).length) = _
    rw [if_pos (by decide), List.length_append]
    show ((-1 : Int) + ((l.length + 1 : Nat) : Int)).toNat = _
    omega
  rw [e, List.drop_left, List.length_append, Nat.add_sub_cancel_left]
  rfl
/-! what is told again -/
theorem hu_sok {n : Nat} {l : List (Str × Str)} (h : l.length ≤ 1000000) : sOk (n + 3) (.lst (l.map huD)) = true := by
  refine sOk_lst.mpr ⟨by rw [List.length_map]; exact h, fun x hx => ?_⟩
  obtain ⟨y, _, rfl⟩ := List.mem_map.mp hx
  rfl
theorem pp_sok {n : Nat} {l : List (Str × Nat)} (h : l.length ≤ 1000000) : sOk (n + 3) (.lst (l.map ppD)) = true := by
  refine sOk_lst.mpr ⟨by rw [List.length_map]; exact h, fun x hx => ?_⟩
  obtain ⟨y, _, rfl⟩ := List.mem_map.mp hx
  rfl
theorem hus_py {l : List (Str × Str)} (h : ∀ x ∈ l, strC x.1 ∧ strC x.2) : Py 2 (.lst (l.map huD)) := py_lst fun x hx => by
  obtain ⟨y, hy, rfl⟩ := List.mem_map.mp hx
  refine py_tup fun z hz => ?_
  rcases List.mem_cons.mp hz with rfl | hz
  · exact py_str (h y hy).1
  · rw [List.mem_singleton.mp hz]
    exact py_str (h y hy).2
theorem SpkB.up {n m t q : Nat} {s : Spk} (h : SpkB n t s) (h1 : n ≤ m) (h2 : t ≤ q) : SpkB m q s := ⟨h.ok, h.ds, Nat.le_trans h.n h1, Nat.le_trans h.hu h2, Nat.le_trans h.pp h2⟩
abbrev tS : Str := Str.ofString "t"
theorem t_ok : TagOk tS := lit_ok
theorem n_ok : TagOk (Str.ofString "n") := lit_ok
theorem now_tok : TagOk (Str.ofString "now") := lit_ok
abbrev spYes (K : PySem.W.Frag) (c : Nat) : Sp := spDrawn K 600000000 (T := Unit) (fun _ => []) (fun _ => True) (fun _ d => d = .bl true) c
theorem rng_nat {q m : Nat} : rng (q : Int) m = (List.range' q m).map intD := by
  unfold rng
  rw [List.range'_eq_map_range, List.map_map]
  refine List.map_congr_left fun i _ => ?_
  show D.int ((q : Int) + (i : Int)) = D.int ((q + i : Nat) : Int)
  rw [Int.natCast_add]
def tagT (g : Str) (x : D) : D := .tup [.str g, x]
theorem rng_row {g : Str} {q m : Nat} : (((rng (q : Int) m).filter fun _ => true).map (tagT g)) = (rowP g (List.range' q m)).map ppD := by
  rw [List.filter_eq_self.mpr fun _ _ => rfl, rng_nat, List.map_map, List.map_map]
  rfl
theorem rep_pp {n : Nat} : (List.replicate n [D.tup [.str (Str.ofString "n"), .int 0]]).flatten = (List.replicate n (Str.ofString "n", 0)).map ppD := by
  induction n with
  | zero => rfl
  | succ n ih =>
    rw [List.replicate_succ, List.replicate_succ, List.flatten_cons, ih]
    rfl
end


section
variable {P : Program} {w : World} {K : PySem.W.Frag} {mg : Str → Option Value} {base : Heap} {a : Ad} {f : Addr} {fd : FuncData}
local macro_rules | `(tactic| walk_at "pq") => `(tactic| repeat (first | walk_at "p1" | (refine oo_ixT rfl ?_)))
abbrev st__law_cut_right : Stmt := top 49
abbrev nm__law_cut_right : List Str := ["purse", "phrases", "place", "unit", "speaker", "way", "many", "due", "told", "passed", "at", "turn", "more", "rest"]
theorem sc__law_cut_right : FnScope nm__law_cut_right ["purse"] (defScope st__law_cut_right) := ⟨rfl, rfl, rfl, by decide +kernel, rfl, by decide +kernel, by decide +kernel⟩
theorem ok_cut_right (F : Fun K "_law_cut_right" "_law_cut_right" st__law_cut_right f fd) (T : Tx P w K mg base a) (c__law_talk : CalX P w K mg base 6 "_law_talk" ["purse"] (spTalk K)) (c__law_draw : CalX P w K mg base 2 "_law_draw" ["purse", "many"] (spDraw K)) (c__law_one_of : CalX P w K mg base 3 "_law_one_of" ["purse", "some"] (spOneOf K)) (c__law_row : CalX P w K mg base 1 "_law_row" ["tag", "units"] (spRow K)) (c__law_dealt : CalX P w K mg base 10 "_law_dealt" ["purse", "speaker", "many", "is_whole_v"] (spDealt K a.eSpeaker)) (c__law_one_cut : CalX P w K mg base 10 "_law_one_cut" ["purse", "speaker", "way"] (spCut K a.eSpeaker)) (i_Speaker : CalI P w K mg base 1 "Speaker" a.eSpeaker ["self"] (spInit K a.eSpeaker)) (m_say : CalM P w K mg base 9 a.eSpeaker "say" ["self", "utterance"] (spSayM K a.eSpeaker)) (m_said : CalM P w K mg base 2 a.eSpeaker "said" ["self"] (spSaidM K a.eSpeaker)) (m_waiting : CalM P w K mg base 2 a.eSpeaker "waiting" ["self"] (spWaitM K a.eSpeaker)) (m_heard : CalM P w K mg base 1 a.eSpeaker "heard" ["self"] (spHeard K a.eSpeaker)) (m_passed : CalM P w K mg base 1 a.eSpeaker "passed" ["self"] (spPassed K a.eSpeaker)) (c__law_same : CalX P w K mg base 9 "_law_same" ["told", "due"] (spSame K 8)) : FnOk P w K mg base (L2.CX P w) 11 f fd ["purse"] (spYes K 3000) := by
  refine F.okX sc__law_cut_right (fun vs H Q E h => pro_len h fun _ => rfl) (fun cdv A outer s H vs Q E hr h => ⟨_, (pss_cons (ps_asg (pe_c c__law_talk hr (by first | decide | exact Nat.le_refl _) rfl (passes_call (takes_of rfl rfl rfl rfl) (fun _ _ _ _ h => h)) (pa_cons (pv 0) pa_nil)) (pg_lstK (K := K) rfl rfl (pgs_cons (pg_name (i := 1) sc__law_cut_right.nd rfl (by first | exact Or.inl rfl | exact Or.inr rfl)) (pgs_cons (pg_name (i := 2) sc__law_cut_right.nd rfl (by first | exact Or.inl rfl | exact Or.inr rfl)) (pgs_cons (pg_name (i := 3) sc__law_cut_right.nd rfl (by first | exact Or.inl rfl | exact Or.inr rfl)) pgs_nil)))))
    (pss_cons (ps_par3 (i := 4) (j := 5) (l := 6) rfl sc__law_cut_right.nd rfl rfl rfl (by decide) (by decide) (by decide) rfl rfl rfl (pa_cons (pe_mk0 i_Speaker hr (by first | decide | exact Nat.le_refl _) rfl (passes_call (takes_of rfl rfl rfl rfl) (fun _ _ _ _ h => h))) (pa_cons (pe_c c__law_draw hr (by first | decide | exact Nat.le_refl _) rfl (passes_call (takes_of rfl rfl rfl rfl) (fun _ _ _ _ h => h)) (pa_cons (pv 0) (pa_cons pe_int pa_nil))) (pa_cons (pe_op (kO K rPlus rfl op_plus) pe_int (pe_c c__law_draw hr (by first | decide | exact Nat.le_refl _) rfl (passes_call (takes_of rfl rfl rfl rfl) (fun _ _ _ _ h => h)) (pa_cons (pv 0) (pa_cons (pe_c c__law_one_of hr (by first | decide | exact Nat.le_refl _) rfl (passes_call (takes_of rfl rfl rfl rfl) (fun _ _ _ _ h => h)) (pa_cons (pv 0) (pa_cons (pe_lst (pa_cons pe_int (pa_cons pe_int pa_nil))) pa_nil))) pa_nil)))) pa_nil))) (by rfl))
    (pss_cons (ps_set (i := 7) sc__law_cut_right.nd rfl (by first | exact Or.inl rfl | exact Or.inr rfl) (pe_c c__law_row hr (by first | decide | exact Nat.le_refl _) rfl (passes_call (takes_of rfl rfl rfl rfl) (fun _ _ _ _ h => h)) (pa_cons pe_str (pa_cons (pe_op (kO K rPlus rfl op_plus) (pe_callB (kC K rSumL rfl (cr_sumL rfl)) (by rfl) T.b_sum (by decide +kernel) (pa_cons (pe_slice (kS K rSlU rfl sl_U) (pv 1) po_none (po_some (pv 2))) (pa_cons (pe_lst pa_nil) pa_nil))) (pe_slice (kS K rSlU rfl sl_U) (pe_ix (kX K rIx rfl ix_seq) (pv 1) (pv 2) (fun _ _ => rfl)) po_none (po_some (pv 3)))) pa_nil))))
    (pss_cons (ps_expr (pe_m m_say hr (by first | decide | exact Nat.le_refl _) (passes_call (takes_of rfl rfl rfl rfl) (fun _ _ _ _ h => h)) (pv 4) (pa_cons (pe_tup (pa_cons pe_int (pa_cons (pv 1) (pa_cons pe_str pa_nil)))) pa_nil)))
    (pss_cons (ps_par (i := 8) (j := 9) rfl sc__law_cut_right.nd rfl rfl (by decide) rfl rfl (pa_cons (pe_c c__law_dealt hr (by first | decide | exact Nat.le_refl _) rfl (passes_call (takes_of rfl rfl rfl rfl) (fun _ _ _ _ h => h)) (pa_cons (pv 0) (pa_cons (pv 4) (pa_cons (pe_callB (kC K rLenU rfl call_lenU) (by rfl) T.b_len (by decide +kernel) (pa_cons (pv 7) pa_nil)) (pa_cons pe_bl pa_nil))))) (pa_cons (pe_lc (own := [("at", 10)]) (tt := tYes) (g := (gName 10)) rfl sc__law_cut_right.nd (pi_range1 rfl T.b_range (pa_cons (pv 2) pa_nil)) (blkOk_by (own := [("at", 10)]) (N := nm__law_cut_right) (sc := (defScope st__law_cut_right)) (by decide +kernel)) (fun _ _ _ _ _ => (pg_name (i := 10) sc__law_cut_right.nd rfl (by first | exact Or.inl rfl | exact Or.inr rfl))) (fun _ _ _ _ _ => pts_nil) (fun _ _ _ _ _ => (pe_tup (pa_cons pe_str (pa_cons (pv 10) pa_nil))))) pa_nil)) (by rfl))
    (pss_cons (ps_for (passes_of rfl) rfl (pi_range1 rfl T.b_range (pa_cons (pv 6) pa_nil)) (pg_name (i := 11) sc__law_cut_right.nd rfl (by first | exact Or.inl rfl | exact Or.inr rfl))
      (pss_cons (ps_set (i := 12) sc__law_cut_right.nd rfl (by first | exact Or.inl rfl | exact Or.inr rfl) (pe_c c__law_one_cut hr (by first | decide | exact Nat.le_refl _) rfl (passes_call (takes_of rfl rfl rfl rfl) (fun _ _ _ _ h => h)) (pa_cons (pv 0) (pa_cons (pv 4) (pa_cons (pv 5) pa_nil)))))
    (pss_cons (ps_if (PW.pt (pw_or (pt_cmpR op_notN (pe_m0 m_said hr (by first | decide | exact Nat.le_refl _) (passes_call (takes_of rfl rfl rfl rfl) (fun _ _ _ _ h => h)) (pv 4)) pe_non (nomark _)) (pw_or1 (pt_not (pt_val (pe_c c__law_same hr (by first | decide | exact Nat.le_refl _) rfl (passes_call (takes_of rfl rfl rfl rfl) (fun _ _ _ _ h => h)) (pa_cons (pe_slice (kS K rSlU rfl sl_U) (pe_m0 m_waiting hr (by first | decide | exact Nat.le_refl _) (passes_call (takes_of rfl rfl rfl rfl) (fun _ _ _ _ h => h)) (pv 4)) (po_some (pe_un un_neg pe_int)) po_none) (pa_cons (pe_lst (pa_cons (pe_tup (pa_cons (pe_tup (pa_cons pe_int (pa_cons (pv 1) (pa_cons pe_str pa_nil)))) (pa_cons (pv 2) pa_nil))) pa_nil)) pa_nil)))))))) (pss_one (ps_ret pe_bl)) pss_nil)
    (pss_cons (ps_set (i := 9) sc__law_cut_right.nd rfl (by first | exact Or.inl rfl | exact Or.inr rfl) (pe_op (kO K rPlus rfl op_plus) (pv 9) (pe_op op_timesU (pe_lst (pa_cons (pe_tup (pa_cons pe_str (pa_cons pe_int pa_nil))) pa_nil)) (pe_callB (kC K rLenU rfl call_lenU) (by rfl) T.b_len (by decide +kernel) (pa_cons (pv 12) pa_nil)))))
    (pss_cons (ps_set (i := 12) sc__law_cut_right.nd rfl (by first | exact Or.inl rfl | exact Or.inr rfl) (pe_op (kO K rPlus rfl op_plus) (pv 12) (pe_c c__law_row hr (by first | decide | exact Nat.le_refl _) rfl (passes_call (takes_of rfl rfl rfl rfl) (fun _ _ _ _ h => h)) (pa_cons pe_str (pa_cons (pe_slice (kS K rSlU rfl sl_U) (pe_ix (kX K rIx rfl ix_seq) (pv 1) (pv 2) (fun _ _ => rfl)) po_none (po_some (pv 3))) pa_nil)))))
    (pss_cons (ps_par (i := 7) (j := 8) rfl sc__law_cut_right.nd rfl rfl (by decide) rfl rfl (pa_cons (pe_op (kO K rPlus rfl op_plus) (pv 7) (pv 12)) (pa_cons (pe_op (kO K rPlus rfl op_plus) (pv 8) (pe_c c__law_dealt hr (by first | decide | exact Nat.le_refl _) rfl (passes_call (takes_of rfl rfl rfl rfl) (fun _ _ _ _ h => h)) (pa_cons (pv 0) (pa_cons (pv 4) (pa_cons (pe_callB (kC K rLenU rfl call_lenU) (by rfl) T.b_len (by decide +kernel) (pa_cons (pv 12) pa_nil)) (pa_cons (pe_cmpR op_gt (pv 6) pe_int (nomark _)) pa_nil)))))) pa_nil)) (by rfl))
    (pss_one (ps_if (PW.pt (pw_or (pt_cmpR (kO K rNeU rfl (op_neU (hu64 hr))) (pv 8) (pv 7) (nomark _)) (pw_or1 (pt_not (pt_val (pe_c c__law_same hr (by first | decide | exact Nat.le_refl _) rfl (passes_call (takes_of rfl rfl rfl rfl) (fun _ _ _ _ h => h)) (pa_cons (pe_m0 m_said hr (by first | decide | exact Nat.le_refl _) (passes_call (takes_of rfl rfl rfl rfl) (fun _ _ _ _ h => h)) (pv 4)) (pa_cons (pe_tup (pa_cons (pe_tup (pa_cons pe_int (pa_cons (pv 1) (pa_cons pe_str pa_nil)))) (pa_cons (pe_tup (pa_cons (pv 2) (pa_cons (pv 3) pa_nil))) pa_nil))) pa_nil)))))))) (pss_one (ps_ret pe_bl)) pss_nil))))))))
    (pss_cons (ps_set (i := 13) sc__law_cut_right.nd rfl (by first | exact Or.inl rfl | exact Or.inr rfl) (pe_c c__law_row hr (by first | decide | exact Nat.le_refl _) rfl (passes_call (takes_of rfl rfl rfl rfl) (fun _ _ _ _ h => h)) (pa_cons pe_str (pa_cons (pe_op (kO K rPlus rfl op_plus) (pe_slice (kS K rSlU rfl sl_U) (pe_ix (kX K rIx rfl ix_seq) (pv 1) (pv 2) (fun _ _ => rfl)) (po_some (pv 3)) po_none) (pe_callB (kC K rSumL rfl (cr_sumL rfl)) (by rfl) T.b_sum (by decide +kernel) (pa_cons (pe_slice (kS K rSlU rfl sl_U) (pv 1) (po_some (pe_op (kO K rPlus rfl op_plus) (pv 2) pe_int)) po_none) (pa_cons (pe_lst pa_nil) pa_nil)))) pa_nil))))
    (pss_cons (ps_set (i := 8) sc__law_cut_right.nd rfl (by first | exact Or.inl rfl | exact Or.inr rfl) (pe_op (kO K rPlus rfl op_plus) (pv 8) (pe_c c__law_dealt hr (by first | decide | exact Nat.le_refl _) rfl (passes_call (takes_of rfl rfl rfl rfl) (fun _ _ _ _ h => h)) (pa_cons (pv 0) (pa_cons (pv 4) (pa_cons (pe_op (kO K rPlus rfl op_plus) (pe_callB (kC K rLenU rfl call_lenU) (by rfl) T.b_len (by decide +kernel) (pa_cons (pv 13) pa_nil)) pe_int) (pa_cons pe_bl pa_nil)))))))
    (pss_cons (ps_set (i := 9) sc__law_cut_right.nd rfl (by first | exact Or.inl rfl | exact Or.inr rfl) (pe_op (kO K rPlus rfl op_plus) (pv 9) (pe_lc (own := [("at", 10)]) (tt := tYes) (g := (gName 10)) rfl sc__law_cut_right.nd (pi_range2 rfl T.b_range (pa_cons (pv 2) (pa_cons (pe_callB (kC K rLenU rfl call_lenU) (by rfl) T.b_len (by decide +kernel) (pa_cons (pv 1) pa_nil)) pa_nil))) (blkOk_by (own := [("at", 10)]) (N := nm__law_cut_right) (sc := (defScope st__law_cut_right)) (by decide +kernel)) (fun _ _ _ _ _ => (pg_name (i := 10) sc__law_cut_right.nd rfl (by first | exact Or.inl rfl | exact Or.inr rfl))) (fun _ _ _ _ _ => pts_nil) (fun _ _ _ _ _ => (pe_tup (pa_cons pe_str (pa_cons (pv 10) pa_nil)))))))
    (pss_cons (ps_if (PW.pt (pw_or (pt_not (pt_val (pe_c c__law_same hr (by first | decide | exact Nat.le_refl _) rfl (passes_call (takes_of rfl rfl rfl rfl) (fun _ _ _ _ h => h)) (pa_cons (pv 8) (pa_cons (pe_op (kO K rPlus rfl op_plus) (pv 7) (pv 13)) pa_nil))))) (pw_or1 (pt_not (pt_val (pe_c c__law_same hr (by first | decide | exact Nat.le_refl _) rfl (passes_call (takes_of rfl rfl rfl rfl) (fun _ _ _ _ h => h)) (pa_cons (pe_m0 m_heard hr (by first | decide | exact Nat.le_refl _) (passes_call (takes_of rfl rfl rfl rfl) (fun _ _ _ _ h => h)) (pv 4)) (pa_cons (pe_op (kO K rPlus rfl op_plus) (pv 7) (pv 13)) pa_nil)))))))) (pss_one (ps_ret pe_bl)) pss_nil)
    (pss_one (ps_ret (pe_and (pe_c c__law_same hr (by first | decide | exact Nat.le_refl _) rfl (passes_call (takes_of rfl rfl rfl rfl) (fun _ _ _ _ h => h)) (pa_cons (pe_m0 m_passed hr (by first | decide | exact Nat.le_refl _) (passes_call (takes_of rfl rfl rfl rfl) (fun _ _ _ _ h => h)) (pv 4)) (pa_cons (pv 9) pa_nil))) (pe_and (pe_cmpR op_isN (pe_m0 m_said hr (by first | decide | exact Nat.le_refl _) (passes_call (takes_of rfl rfl rfl rfl) (fun _ _ _ _ h => h)) (pv 4)) pe_non (nomark _)) (pe_one (pe_cmpR (kO K rEqU rfl (op_eqU (hu64 hr))) (pe_m0 m_waiting hr (by first | decide | exact Nat.le_refl _) (passes_call (takes_of rfl rfl rfl rfl) (fun _ _ _ _ h => h)) (pv 4)) (pe_lst pa_nil) (nomark _))))))))))))))))), run_body h fun ⟨l, n, _⟩ S ⟨hp, hn, _, _⟩ hl hcl wi => ?_⟩)
  have hp : PuOk n l := hp
  have hn : n ≤ 600000000 := hn
  have hS : S.A.length = 1 := hl
  refine se_seq (se_asgG ?_)
  refine ask_drawn 0 ?_
  walk_at "pq"
  refine ⟨(), l, n, rfl, rfl, hp, by omega, trivial, rfl, fun d l1 hd hd0 hp1 => ?_⟩
  obtain ⟨ps, p, u, rfl, hps, htg, hpl, hu1, hu2⟩ := hd
  have hne := hps.2.1
  obtain ⟨hlp, hlq⟩ := len_phs hps
  have hsz := hps.2.2
  have hgq : ps[p]? = some (ps.getD p []) := by rw [List.getD_eq_getElem?_getD, List.getElem?_eq_getElem hpl]; rfl
  have hqm : ps.getD p [] ∈ ps := List.mem_of_getElem? hgq
  have hqz := hlq _ hqm
  have huok : UttOk 1 ps tS := ⟨by decide, by decide, hps, htg, t_ok⟩
  refine ge_lst3 ?_
  refine se_seq (se_par3 ?_)
  refine ea_cons (ask_new fun dx => ?_)
  refine ea_cons (ask_draw 0 ?_)
  walk_at "pq"
  refine ⟨3, l1, n + 1010, rfl, rfl, hp1, by omega, by decide, by decide, fun way l2 hway hp2 => ?_⟩
  walk_at "pq"
  refine ask_draw 0 ?_
  walk_at "pq"
  refine ask_one 0 ?_
  walk_at "pq"
  refine ee_lst ?_
  walk_at "pq"
  refine ⟨.lst ([3, 40].map intD), l2, n + 1010 + 1, rfl, rfl, hp2, by omega, .inl ⟨_, rfl, by decide, by decide, rfl⟩, rfl, fun d l3 hd hd0 hp3 => ?_⟩
  obtain ⟨z, hz, rfl⟩ := pick_124 hd
  have hz4 : 1 ≤ z ∧ z ≤ 40 := by
    simp only [List.mem_cons, List.not_mem_nil, or_false] at hz
    omega
  walk_at "pq"
  refine ⟨(z : Int), l3, n + 1010 + 1 + 1, rfl, rfl, hp3, by omega, by omega, by omega, fun v l4 hv hp4 => ?_⟩
  walk_at "pq"
  rw [show (1 : Int) + (v : Int) = ((1 + v : Nat) : Int) by omega]
  have hmany : 1 + v ≤ 40 := by omega
  generalize 1 + v = many at *
  refine ⟨_, _, _, rfl, ?_⟩
  show SE K S _ [some (.own 0), some (phsL ps), some (intD p), some (intD u), some (.own 1), some (intD way), some (intD many), none, none, none, none, none, none, none] (.lst l4 :: spkC 1 a.eSpeaker dx sp0) _
  have htk : (ps.take p).flatten.length ≤ 10 := by
    have : (ps.take p).flatten.length + (ps.drop p).flatten.length = ps.flatten.length := by
      rw [← List.length_append, ← List.flatten_append, List.take_append_drop]
    omega
  have hdk : (ps.drop (p + 1)).flatten.length ≤ 10 := by
    have : (ps.take (p + 1)).flatten.length + (ps.drop (p + 1)).flatten.length = ps.flatten.length := by
      rw [← List.length_append, ← List.flatten_append, List.take_append_drop]
    omega
  refine se_seq (se_asg ?_)
  refine ask_row ?_
  walk_at "pq"
  refine ss_lst ?_
  rw [cutD_0n, ← List.map_take]
  walk_at "pq"
  refine ee_lst ?_
  walk_at "pq"
  refine cc_sumP (by omega) ?_
  walk_at "pq"
  refine oo_ixL (atI_nat (by rw [List.getElem?_map, hgq]; rfl)) ?_
  walk_at "pq"
  refine ss_lst ?_
  rw [cutD_0n, ← List.map_take]
  refine oo_addL (by rw [List.length_map, List.length_map, List.length_take]; omega) ?_
  rw [← List.map_append]
  walk_at "pq"
  generalize hD : (ps.take p).flatten ++ (ps.getD p []).take u = du0
  have hdz : du0.length ≤ 20 := by rw [← hD, List.length_append, List.length_take]; omega
  have hd1 : 1 ≤ du0.length := by rw [← hD, List.length_append, List.length_take]; omega
  refine ⟨by omega, ?_⟩
  show SE K S _ [some (.own 0), some (phsL ps), some (intD p), some (intD u), some (.own 1), some (intD way), some (intD many), some (.lst ((rowS tS du0).map huD)), none, none, none, none, none, none] (.lst l4 :: spkC 1 a.eSpeaker dx sp0) _
  have b0 := sp0_b
  obtain ⟨k1, k2⟩ := b0.k (by omega) (by omega)
  refine se_seq (se_drop (ask_say rfl ?_))
  walk_at "pq"
  refine ⟨1, ps, tS, l4, sp0, rfl, rfl, k1, huok, k2, ?_⟩
  have b1 : SpkB 1 0 (doneS sp0 (.say 1 ps tS)) := done_b (d := .say 1 ps tS) b0 huok
  refine se_seq (se_par ?_)
  refine ea_cons (ask_dl ?_)
  walk_at "pq"
  refine cc_len (.lst _) ?_
  walk_at "pq"
  rw [List.length_map, List.length_map]
  refine ⟨du0.length, false, l4, n + 1010 + 1 + 1 + 1, 1, 0, _, dx, rfl, rfl, hp4, by omega, b1, by decide, by decide, hd1, by omega, fun l5 hp5 => ?_⟩
  obtain ⟨t1, t2, t3, t4⟩ := talk_begun hne hpl hu1 hu2 (g := tS) (N := du0.length) (by rw [hD])
  rw [hD] at t2 t3
  rw [t2]
  have b2 := done_b (d := .tick du0.length) b1 (show 1 ≤ du0.length ∧ du0.length ≤ 4000 by omega)
  have b2 : SpkB 2 20 _ := b2.up (by decide) (by show 0 + du0.length ≤ 20; omega)
  generalize doneS (doneS sp0 (.say 1 ps tS)) (.tick du0.length) = s2 at *
  refine ea_cons (ee_lc (ie_rng1 ?_))
  walk_at "pq"
  refine ⟨by omega, by omega, fun _ h => h, trivial, fun _ => true, tagT tS, by rw [rng_len, Int.toNat_natCast]; omega, fun x hx _ => ?_, fun x acc hx => ?_, ?_⟩
  · obtain ⟨i, hi⟩ := List.mem_iff_getElem?.mp hx
    obtain ⟨_, rfl⟩ := rng_get hi
    rfl
  · obtain ⟨i, hi⟩ := List.mem_iff_getElem?.mp hx
    obtain ⟨_, rfl⟩ := rng_get hi
    refine gw_name (by decide) ?_
    walk_at "pq"
    refine ⟨rfl, rfl, fun _ => ?_⟩
    walk_at "pq"
    exact ⟨rfl, rfl⟩
  rw [show rng 0 ((p : Int)).toNat = rng ((0 : Nat) : Int) p by rw [Int.toNat_natCast]; rfl, rng_row, ← List.range_eq_range']
  refine ea_nil ⟨_, _, rfl, ?_⟩
  show SE K S _ [some (.own 0), some (phsL ps), some (intD p), some (intD u), some (.own 1), some (intD way), some (intD many), some (.lst ((rowS tS du0).map huD)), some (.lst ((rowS tS du0).map huD)), some (.lst ((rowP tS (List.range p)).map ppD)), none, none, none, none] (.lst l5 :: spkC 1 a.eSpeaker dx s2) _
  have rowOk : ∀ {us : List Str}, (∀ y ∈ us, TagOk y) → ∀ x ∈ rowS tS us, strC x.1 ∧ strC x.2 := fun {us} h x hx => by
    obtain ⟨y, hy, rfl⟩ := List.mem_map.mp hx
    exact ⟨t_ok.st, (h y hy).st⟩
  have hq1 : ∀ y ∈ (ps.getD p []).take u, TagOk y := fun y hy => htg _ hqm y (List.mem_of_mem_take hy)
  have hd3 : ∀ y ∈ du0, TagOk y := fun y hy => by
    rw [← hD] at hy
    rcases List.mem_append.mp hy with hy | hy
    · obtain ⟨q, hq, hy⟩ := List.mem_flatten.mp hy
      exact htg q (List.mem_of_mem_take hq) y hy
    · exact hq1 y hy
  have hw2 : sOk 8 (.tup [utD 1 ps tS, .tup [intD p, intD u]]) = true := sOk_tup.mpr ⟨Nat.le_of_ble_eq_true rfl, fun x hx => by
    rcases List.mem_cons.mp hx with rfl | hx
    · exact ut_sok hps
    · rw [List.mem_singleton.mp hx]
      rfl⟩
  have hw1 : sOk 8 (.lst [waitR (thX 0 1 ps tS p 0)]) = true := sOk_lst.mpr ⟨Nat.le_of_ble_eq_true rfl, fun x hx => by
    rw [List.mem_singleton.mp hx]
    refine sOk_tup.mpr ⟨Nat.le_of_ble_eq_true rfl, fun x hx => ?_⟩
    rcases List.mem_cons.mp hx with rfl | hx
    · exact ut_sok hps
    · rw [List.mem_singleton.mp hx]
      rfl⟩
  refine se_seq ?_
  refine se_for (ie_rng1 ?_)
  walk_at "pq"
  refine ⟨by omega, by omega, rfl, fun i δ μ => ∃ (x11 x12 : Option D) (pu : List D) (s : Spk) (du : List (Str × Str)) (pa : List (Str × Nat)), δ = [some (.own 0), some (phsL ps), some (intD p), some (intD u), some (.own 1), some (intD way), some (intD many), some (.lst (du.map huD)), some (.lst (du.map huD)), some (.lst (pa.map ppD)), none, x11, x12, none] ∧ μ = .lst pu :: spkC 1 a.eSpeaker dx s ∧ PuOk (n + 1033 + 22 * i) pu ∧ SpkB (2 + 4 * i) (20 + 14 * i) s ∧ s.st = stX (thX 0 1 ps tS p u) [] ∧ s.hu = du ∧ s.pp = pa ∧ ∀ x ∈ du, strC x.1 ∧ strC x.2, ⟨none, none, l5, s2, _, _, rfl, rfl, hp5.up (by omega), b2, t1, t3, t4, rowOk hd3⟩, ?_, ?_⟩
  · rintro i x δ μ hx ⟨x11, x12, pu, s, du, pa, rfl, rfl, hpu, hb, hst, hhu, hpp, hok⟩
    obtain ⟨hi, rfl⟩ := rng_get hx
    have hi40 : i < 40 := by omega
    refine ge_name ?_
    refine se_seq (se_asg (ask_ct ?_))
    walk_at "pq"
    refine ⟨way, pu, _, _, _, s, dx, rfl, rfl, hpu, by omega, hb, by omega, by omega, fun l6 more s1 hp6 hc => ?_⟩
    obtain ⟨c1, ⟨pre, c2⟩, c3, c4, c5, c6⟩ := turn_ok hst hc hu1 hu2
    have hml := hc.len
    have b3 := hc.b hb
    obtain ⟨k3, k4⟩ := b3.k (by omega) (by omega)
    have es : saidR s1 = .non := by
      unfold saidR
      rw [c1]
    refine se_seq (se_if ?_)
    refine et_or ?_
    walk_at "pq"
    refine ask_b rfl (by decide) k3 ?_
    rw [es]
    walk_at "pq"
    refine ask_same ?_
    walk_at "pq"
    refine ask_b rfl (by decide) k3 ?_
    walk_at "pq"
    refine ss_lst ?_
    rw [c2, List.map_append, List.map_cons, List.map_nil]
    rw [show (-(1 : Int)) = -1 from rfl, cutD_last]
    walk_at "pq"
    refine ee_lst ?_
    walk_at "pq"
    refine ⟨hw1, ?_⟩
    walk_at "pq"
    refine ee_lst ?_
    walk_at "pq"
    refine cc_len (.lst _) ?_
    walk_at "pq"
    rw [List.length_map]
    refine oo_repL (by omega) (by show 1 * _ ≤ _; omega) ?_
    rw [rep_pp]
    have hpz : pa.length ≤ 1000 := by
      have := hb.pp
      rw [hpp] at this
      omega
    have hdz2 : du.length ≤ 1000 := by
      have := hb.hu
      rw [hhu] at this
      omega
    refine oo_addL (by rw [List.length_map, List.length_map, List.length_replicate]; omega) ?_
    rw [← List.map_append]
    walk_at "pq"
    refine ask_row ?_
    walk_at "pq"
    refine oo_ixL (atI_nat (by rw [List.getElem?_map, hgq]; rfl)) ?_
    walk_at "pq"
    refine ss_lst ?_
    rw [cutD_0n, ← List.map_take]
    walk_at "pq"
    refine ⟨by rw [List.length_take]; omega, ?_⟩
    have hrz : (rowS tS ((ps.getD p []).take u)).length = u := by rw [List.length_map, List.length_take]; omega
    refine oo_addL (by rw [List.length_map, List.length_map, hrz]; omega) ?_
    rw [← List.map_append]
    have hmz : (more ++ rowS tS ((ps.getD p []).take u)).length = more.length + u := by rw [List.length_append, hrz]
    have hmOk : ∀ x ∈ more ++ rowS tS ((ps.getD p []).take u), strC x.1 ∧ strC x.2 := fun x hx => by
      rcases List.mem_append.mp hx with hx | hx
      · rcases hc with ⟨e, _⟩ | ⟨e, _⟩
        · rw [e] at hx
          rw [List.mem_singleton.mp hx]
          exact ⟨n_ok.st, now_tok.st⟩
        · rw [e] at hx
          cases hx
      · exact rowOk hq1 x hx
    rw [← hmz] at c3 c4 c5 c6
    generalize more ++ rowS tS ((ps.getD p []).take u) = mo at *
    walk_at "pq"
    refine se_par ?_
    walk_at "pq"
    refine oo_addL (by rw [List.length_map, List.length_map]; omega) ?_
    rw [← List.map_append]
    walk_at "pq"
    refine ask_dl ?_
    walk_at "pq"
    refine cc_len (.lst _) ?_
    walk_at "pq"
    rw [List.length_map]
    refine ⟨mo.length, _, l6, n + 1033 + 22 * i + 2, _, _, s1, dx, rfl, rfl, hp6, by omega, b3, by omega, by omega, by omega, by omega, fun l7 hp7 => ?_⟩
    rw [c4]
    refine oo_addL (by rw [List.length_map, List.length_map]; omega) ?_
    rw [← List.map_append]
    have b4 := done_b (d := .tick mo.length) b3 (show 1 ≤ mo.length ∧ mo.length ≤ 4000 by omega)
    have b4 : SpkB (2 + 4 * (i + 1)) (20 + 14 * (i + 1)) _ := b4.up (by omega) (by show 20 + 14 * i + 3 + mo.length ≤ _; omega)
    obtain ⟨k5, k6⟩ := b4.k (by omega) (by omega)
    rw [hhu] at c5
    rw [hpp] at c6
    have hok2 : ∀ x ∈ du ++ mo, strC x.1 ∧ strC x.2 := fun x hx => by
      rcases List.mem_append.mp hx with hx | hx
      · exact hok x hx
      · exact hmOk x hx
    generalize doneS s1 (.tick mo.length) = s3 at *
    have es2 : saidR s3 = .tup [utD 1 ps tS, .tup [intD p, intD u]] := by
      unfold saidR
      rw [c3]
    walk_at "pq"
    refine oo_neSelf (hus_py hok2) (by decide) ?_
    walk_at "pq"
    refine ask_same ?_
    walk_at "pq"
    refine ask_b rfl (by decide) k5 ?_
    rw [es2]
    walk_at "pq"
    refine ⟨hw2, ?_⟩
    walk_at "pq"
    exact ⟨_, _, l7, s3, du ++ mo, _, rfl, rfl, hp7.up (by omega), b4, c3, c5, c6, hok2⟩
  · rintro δ μ ⟨x11, x12, pu, s, du, pa, rfl, rfl, hpu, hb, hst, hhu, hpp, hok⟩
    rw [rng_len, Int.toNat_natCast] at hpu hb
    obtain ⟨k1, k2⟩ := hb.k (by omega) (by omega)
    have hpz : pa.length ≤ 1000 := by
      have := hb.pp
      rw [hpp] at this
      omega
    have hdz2 : du.length ≤ 1000 := by
      have := hb.hu
      rw [hhu] at this
      omega
    refine se_seq (se_asg (ask_row ?_))
    walk_at "pq"
    refine oo_ixL (atI_nat (by rw [List.getElem?_map, hgq]; rfl)) ?_
    walk_at "pq"
    refine ss_lst ?_
    rw [cutD_n0, ← List.map_drop]
    walk_at "pq"
    refine ss_lst ?_
    rw [show (p : Int) + 1 = ((p + 1 : Nat) : Int) by omega, cutD_n0, ← List.map_drop]
    walk_at "pq"
    refine ee_lst ?_
    walk_at "pq"
    refine cc_sumP (by omega) ?_
    refine oo_addL (by rw [List.length_map, List.length_map, List.length_drop]; omega) ?_
    rw [← List.map_append]
    walk_at "pq"
    generalize hR : (ps.getD p []).drop u ++ (ps.drop (p + 1)).flatten = re
    have hrz : re.length ≤ 20 := by rw [← hR, List.length_append, List.length_drop]; omega
    obtain ⟨e1, e2, e3, e4⟩ := talk_ended hst hne hpl hu2 (N := re.length) (j := 7) (by rw [hR]) (by decide)
    rw [hR] at e2 e3
    refine ⟨by omega, ?_⟩
    refine se_seq (se_asg ?_)
    walk_at "pq"
    refine ask_dl ?_
    walk_at "pq"
    refine cc_len (.lst _) ?_
    walk_at "pq"
    rw [List.length_map, List.length_map, show (re.length : Int) + 7 = ((re.length + 7 : Nat) : Int) by omega]
    refine ⟨re.length + 7, _, pu, _, _, _, s, dx, rfl, rfl, hpu, by omega, hb, by omega, by omega, by omega, by omega, fun l7 hp7 => ?_⟩
    rw [e2]
    refine oo_addL (by rw [List.length_map, List.length_map, List.length_map]; omega) ?_
    rw [← List.map_append]
    have b4 := done_b (d := .tick (re.length + 7)) hb (show 1 ≤ re.length + 7 ∧ re.length + 7 ≤ 4000 by omega)
    obtain ⟨k5, k6⟩ := b4.k (by omega) (by show _ + (re.length + 7) ≤ _; omega)
    obtain ⟨f1, f2⟩ := stand_nil e1
    rw [hhu] at e3
    rw [hpp] at e4
    generalize doneS s (.tick (re.length + 7)) = s3 at *
    walk_at "pq"
    refine ee_lc (ie_rng2 ?_)
    walk_at "pq"
    refine cc_len (.lst _) ?_
    walk_at "pq"
    rw [List.length_map, show ((ps.length : Int) - (p : Int)).toNat = ps.length - p by omega]
    refine ⟨⟨by omega, by omega, by omega, by omega⟩, fun _ h => h, trivial, fun _ => true, tagT tS, by rw [rng_len]; omega, fun x hx _ => ?_, fun x acc hx => ?_, ?_⟩
    · obtain ⟨i, hi⟩ := List.mem_iff_getElem?.mp hx
      obtain ⟨_, rfl⟩ := rng_get hi
      rfl
    · obtain ⟨i, hi⟩ := List.mem_iff_getElem?.mp hx
      obtain ⟨_, rfl⟩ := rng_get hi
      refine gw_name (by decide) ?_
      walk_at "pq"
      refine ⟨rfl, rfl, fun _ => ?_⟩
      walk_at "pq"
      exact ⟨rfl, rfl⟩
    rw [rng_row]
    have hrp : (rowP tS (List.range' p (ps.length - p))).length ≤ 10 := by rw [List.length_map, List.length_range']; omega
    refine oo_addL (by rw [List.length_map, List.length_map]; omega) ?_
    rw [← List.map_append]
    have hall : (du ++ rowS tS re).length ≤ 1020 := by rw [List.length_append, List.length_map]; omega
    walk_at "pq"
    refine ask_same ?_
    walk_at "pq"
    refine oo_addL (by rw [List.length_map, List.length_map, List.length_map]; omega) ?_
    rw [← List.map_append]
    walk_at "pq"
    refine ⟨hu_sok (by omega), ?_⟩
    walk_at "pq"
    refine ask_same ?_
    walk_at "pq"
    refine ask_b rfl (by decide) k5 ?_
    rw [e3]
    walk_at "pq"
    refine oo_addL (by rw [List.length_map, List.length_map, List.length_map]; omega) ?_
    rw [← List.map_append]
    walk_at "pq"
    refine ⟨hu_sok (by omega), ?_⟩
    walk_at "pq"
    refine ask_same ?_
    walk_at "pq"
    refine ask_b rfl (by decide) k5 ?_
    rw [e4]
    walk_at "pq"
    refine ⟨pp_sok (by rw [List.length_append]; omega), ?_⟩
    walk_at "pq"
    refine ask_b rfl (by decide) k5 ?_
    have es3 : saidR s3 = .non := by
      unfold saidR
      rw [f1]
    rw [es3]
    walk_at "pq"
    refine ask_b rfl (by decide) k5 ?_
    rw [f2]
    walk_at "pq"
    refine ee_lst ?_
    walk_at "pq"
    refine oo_eqPy0 (k := 0) (fun c hc => by cases hc) (by decide) ?_
    walk_at "pq"
    walk_at "gp"
    exact gave_drawn (n := n + 3000) hS (d := .bl true) rfl rfl (hp7.up (by omega))
end


section
variable {P : Program} {w : World} {K : PySem.W.Frag} {mg : Str → Option Value} {base : Heap} {a : Ad} {f : Addr} {fd : FuncData}
local macro_rules | `(tactic| walk_at "pq") => `(tactic| repeat (first | walk_at "p1" | (refine oo_ixT rfl ?_)))
section
variable {S : Bs} {δ : Sl} {μ : List Cell} {C : D → List Cell → Prop} {ta : TA} {E : XK} {c dx : Addr} {u : List D} {s : Spk} {i : Nat} {m : Str} {r : List Cell}
theorem ask_bR {pre : Spk → Prop} {tr : Spk → Spk} {res : Spk → D} (hi : δ[i]? = some (some (.own 1))) (hno : hasF nsS m = false) (hp : pre s) (h : C (res s) (.lst u :: (spkC 1 c dx (tr s) ++ r))) : EE K S (tMeth c m (spBare K c pre tr res) [] E (tVar i) tNil) δ (.lst u :: (spkC 1 c dx s ++ r)) C :=
  ask_m 1 [.lst u] r hi rfl rfl hno (ea_nil ⟨(), [.lst u], r, dx, s, rfl, rfl, rfl, hp, rfl, h⟩)
theorem ask_sayR {u0 : List D} {s0 : Spk} (hi : δ[i]? = some (some (.own 1))) (h : EA K S ta δ (.lst u0 :: (spkC 1 c dx s0 ++ r)) fun ds μ1 => ∃ (k : Nat) (ps : List (List Str)) (g : Str) (u : List D) (s : Spk) (r' : List Cell), ds = [utD k ps g] ∧ μ1 = .lst u :: (spkC 1 c dx s ++ r') ∧ SpkOk s ∧ UttOk k ps g ∧ Few s ∧ C .non (.lst u :: (spkC 1 c dx (doneS s (.say k ps g)) ++ r'))) : EE K S (tMeth c (Str.ofString "say") (spSayM K c) [] E (tVar i) ta) δ (.lst u0 :: (spkC 1 c dx s0 ++ r)) C :=
  ask_m 1 [.lst u0] r hi rfl rfl (by decide) fun A G H σ a' Q q => h A G H σ a' Q fun vs ds A1 G1 H1 μ1 m nn rr ⟨k, ps, g, u, s, r', e1, e2, h1, h2, h3, hC⟩ => q vs ds A1 G1 H1 μ1 m nn rr ⟨(k, ps, g), [.lst u], r', dx, s, e1, e2, rfl, ⟨h1, h2, h3⟩, by show ((utD k ps g).lt 0 && true) = true; rw [ut_cl]; rfl, hC⟩
theorem ask_dlR (h : EA K S ta δ μ fun ds μ1 => ∃ (many : Nat) (b : Bool) (u : List D) (n nn tt : Nat) (s : Spk) (dx : Addr) (r : List Cell), ds = [.own 0, .own 1, intD many, .bl b] ∧ μ1 = .lst u :: (spkC 1 c dx s ++ r) ∧ PuOk n u ∧ n ≤ 900000000 ∧ SpkB nn tt s ∧ nn ≤ 8000 ∧ tt ≤ 80000 ∧ 1 ≤ many ∧ many ≤ 2000 ∧ ∀ u', PuOk (n + 20) u' → C (.lst ((doneH s (.tick many)).map huD)) (.lst u' :: (spkC 1 c dx (doneS s (.tick many)) ++ r))) : EE K S (tCall (spDealt K c) [] E ta) δ μ C :=
  ask_with 0 1 (by decide) fun A G H σ a' Q q => h A G H σ a' Q fun vs ds A1 G1 H1 μ1 m nn' rr ⟨many, b, u, n, nn, tt, s, dx, r, e1, e2, h1, h2, h3, h4, h5, h6, h7, hC⟩ => q vs ds A1 G1 H1 μ1 m nn' rr ⟨(nn, tt, many, b), [.lst u], r, dx, s, u, n, e1, e2, rfl, rfl, ⟨h1, h2⟩, ⟨h3, h4, h5, h6, h7⟩, rfl, fun u' s' d hd hp ⟨e3, e4⟩ => by
    have e3 : d = .lst ((doneH s (.tick many)).map huD) := e3
    have e4 : s' = doneS s (.tick many) := e4
    subst e3 e4
    exact hC u' hp⟩
end
abbrev utU (t : Utt) : D := utD t.1 t.2.1 t.2.2
def rkF (k : Int) : D → Bool
  | .tup (.v x :: _) => decide (x = V.int k)
  | _ => false
def with0 (d : D) : D := .tup [d, .int 0]
def sayW (d : D) : D := .tup [.str (Str.ofString "say"), d]
theorem rk_map {k : Nat} {us : List Utt} : (((us.map utU).filter (rkF (k : Int))).map fun d => d) = (ofR k us).map utU := by
  rw [List.map_id', List.filter_map]
  unfold ofR
  refine congrArg (List.map utU) (List.filter_congr fun t _ => ?_)
  show decide (V.int (t.1 : Int) = V.int (k : Int)) = decide (t.1 = k)
  refine decide_eq_decide.mpr ⟨fun h => ?_, fun h => by rw [h]⟩
  injection h with h
  omega
theorem rowU_mem {us : List Utt} {t : Utt} (h : t ∈ rowU us) : t ∈ us := by
  rcases List.mem_append.mp h with h | h
  · exact (List.mem_filter.mp h).1
  · exact (List.mem_filter.mp h).1
theorem rowU_len : ∀ {us : List Utt}, (rowU us).length ≤ us.length
  | [] => Nat.le_refl _
  | t :: us => by
    have ih := rowU_len (us := us)
    unfold rowU at *
    rw [List.length_append] at *
    unfold ofR at *
    by_cases h2 : t.1 = 2
    · have h1 : ¬ t.1 = 1 := by omega
      rw [List.filter_cons_of_pos (by exact decide_eq_true h2), List.filter_cons_of_neg (by simpa using h1), List.length_cons, List.length_cons]
      omega
    · rw [List.filter_cons_of_neg (by simpa using h2)]
      by_cases h1 : t.1 = 1
      · rw [List.filter_cons_of_pos (by exact decide_eq_true h1), List.length_cons, List.length_cons]
        omega
      · rw [List.filter_cons_of_neg (by simpa using h1), List.length_cons]
        omega
def UOk (t : Utt) : Prop := (t.1 = 1 ∨ t.1 = 2) ∧ UttOk t.1 t.2.1 t.2.2
theorem unitsU_len {us : List Utt} (h : ∀ t ∈ us, UOk t) : (unitsU us).length ≤ 10 * us.length := by
  induction us with
  | nil => exact Nat.le_refl _
  | cons t us ih =>
    have i := ih fun x hx => h x (List.mem_cons_of_mem _ hx)
    have hz := (h t List.mem_cons_self).2.ok.2.2
    show (rowS t.2.2 t.2.1.flatten ++ unitsU us).length ≤ 10 * (us.length + 1)
    rw [List.length_append, List.length_map]
    omega
theorem passU_len {us : List Utt} (h : ∀ t ∈ us, UOk t) : (passU us).length ≤ 10 * us.length := by
  induction us with
  | nil => exact Nat.le_refl _
  | cons t us ih =>
    have i := ih fun x hx => h x (List.mem_cons_of_mem _ hx)
    have hz := (len_phs (h t List.mem_cons_self).2.ok).1
    show (rowP t.2.2 (List.range t.2.1.length) ++ passU us).length ≤ 10 * (us.length + 1)
    rw [List.length_append, List.length_map, List.length_range]
    omega
theorem flatMap_take {α β : Type} {f : α → List β} {l : List α} {i : Nat} {t : α} (h : l[i]? = some t) : (l.take (i + 1)).flatMap f = (l.take i).flatMap f ++ f t := by
  rw [List.take_succ, h, List.flatMap_append]
  show _ ++ (f t ++ []) = _
  rw [List.append_nil]
theorem uts_cl {m : Nat} {us : List Utt} : D.ltL m (us.map utU) = true := D.ltL_all.mpr fun x hx => by
  obtain ⟨t, _, rfl⟩ := List.mem_map.mp hx
  exact ut_cl
theorem runS_app {l : List Deed} {d : Deed} : runS (l ++ [d]) = doneS (runS l) d := by
  unfold runS
  rw [List.foldl_append]
  rfl
theorem tgs_lit : ∀ u ∈ [Str.ofString "t", Str.ofString "w", Str.ofString "u"], TagOk u := fun u hu => by
  rcases List.mem_cons.mp hu with rfl | hu
  · exact lit_ok
  rcases List.mem_cons.mp hu with rfl | hu
  · exact lit_ok
  · rw [List.mem_singleton.mp hu]
    exact lit_ok
abbrev st__law_crowd_right : Stmt := top 50
abbrev nm__law_crowd_right : List Str := ["purse", "speaker", "said", "turn", "utterance", "row", "one", "due", "passed", "at"]
theorem sc__law_crowd_right : FnScope nm__law_crowd_right ["purse"] (defScope st__law_crowd_right) := ⟨rfl, rfl, rfl, by decide +kernel, rfl, by decide +kernel, by decide +kernel⟩
theorem ok_crowd_right (F : Fun K "_law_crowd_right" "_law_crowd_right" st__law_crowd_right f fd) (T : Tx P w K mg base a) (c__law_draw : CalX P w K mg base 2 "_law_draw" ["purse", "many"] (spDraw K)) (c__law_one_of : CalX P w K mg base 3 "_law_one_of" ["purse", "some"] (spOneOf K)) (c__law_phrases : CalX P w K mg base 5 "_law_phrases" ["purse", "units", "many", "most"] (spPhr K)) (c__law_plain : CalX P w K mg base 9 "_law_plain" ["thing"] (spPlain K 8)) (c__law_row : CalX P w K mg base 1 "_law_row" ["tag", "units"] (spRow K)) (c__law_dealt : CalX P w K mg base 10 "_law_dealt" ["purse", "speaker", "many", "is_whole_v"] (spDealt K a.eSpeaker)) (i_Speaker : CalI P w K mg base 1 "Speaker" a.eSpeaker ["self"] (spInit K a.eSpeaker)) (m_say : CalM P w K mg base 9 a.eSpeaker "say" ["self", "utterance"] (spSayM K a.eSpeaker)) (m_waiting : CalM P w K mg base 2 a.eSpeaker "waiting" ["self"] (spWaitM K a.eSpeaker)) (m_heard : CalM P w K mg base 1 a.eSpeaker "heard" ["self"] (spHeard K a.eSpeaker)) (m_log : CalM P w K mg base 9 a.eSpeaker "log" ["self"] (spLogM K a.eSpeaker)) (m_passed : CalM P w K mg base 1 a.eSpeaker "passed" ["self"] (spPassed K a.eSpeaker)) (c__law_same : CalX P w K mg base 9 "_law_same" ["told", "due"] (spSame K 8)) : FnOk P w K mg base (L2.CX P w) 11 f fd ["purse"] (spYes K 170000) := by
  refine F.okX sc__law_crowd_right (fun vs H Q E h => pro_len h fun _ => rfl) (fun cdv A outer s H vs Q E hr h => ⟨_, (pss_cons (ps_par (i := 1) (j := 2) rfl sc__law_crowd_right.nd rfl rfl (by decide) rfl rfl (pa_cons (pe_mk0 i_Speaker hr (by first | decide | exact Nat.le_refl _) rfl (passes_call (takes_of rfl rfl rfl rfl) (fun _ _ _ _ h => h))) (pa_cons (pe_lst pa_nil) pa_nil)) (by rfl))
    (pss_cons (ps_for (passes_of rfl) rfl (pi_range1 rfl T.b_range (pa_cons (pe_op (kO K rPlus rfl op_plus) pe_int (pe_c c__law_draw hr (by first | decide | exact Nat.le_refl _) rfl (passes_call (takes_of rfl rfl rfl rfl) (fun _ _ _ _ h => h)) (pa_cons (pv 0) (pa_cons pe_int pa_nil)))) pa_nil)) (pg_name (i := 3) sc__law_crowd_right.nd rfl (by first | exact Or.inl rfl | exact Or.inr rfl))
      (pss_cons (ps_set (i := 4) sc__law_crowd_right.nd rfl (by first | exact Or.inl rfl | exact Or.inr rfl) (pe_tup (pa_cons (pe_op (kO K rPlus rfl op_plus) pe_int (pe_c c__law_draw hr (by first | decide | exact Nat.le_refl _) rfl (passes_call (takes_of rfl rfl rfl rfl) (fun _ _ _ _ h => h)) (pa_cons (pv 0) (pa_cons pe_int pa_nil)))) (pa_cons (pe_c c__law_phrases hr (by first | decide | exact Nat.le_refl _) rfl (passes_call (takes_of rfl rfl rfl rfl) (fun _ _ _ _ h => h)) (pa_cons (pv 0) (pa_cons (pe_lst (pa_cons pe_str (pa_cons pe_str pa_nil))) (pa_cons pe_int (pa_cons pe_int pa_nil))))) (pa_cons (pe_c c__law_one_of hr (by first | decide | exact Nat.le_refl _) rfl (passes_call (takes_of rfl rfl rfl rfl) (fun _ _ _ _ h => h)) (pa_cons (pv 0) (pa_cons (pe_lst (pa_cons pe_str (pa_cons pe_str (pa_cons pe_str pa_nil)))) pa_nil))) pa_nil)))))
    (pss_cons (ps_expr (pe_m m_say hr (by first | decide | exact Nat.le_refl _) (passes_call (takes_of rfl rfl rfl rfl) (fun _ _ _ _ h => h)) (pv 1) (pa_cons (pe_c c__law_plain hr (by first | decide | exact Nat.le_refl _) rfl (passes_call (takes_of rfl rfl rfl rfl) (fun _ _ _ _ h => h)) (pa_cons (pv 4) pa_nil)) pa_nil)))
    (pss_one (ps_expr (pe_bmK (K := K) rfl PySem.F.plainAttrs_list PySem.F.slot_list_append PySem.F.type_list_append mt_append (pv 2) (pa_cons (pv 4) pa_nil)))))))
    (pss_cons (ps_set (i := 5) sc__law_crowd_right.nd rfl (by first | exact Or.inl rfl | exact Or.inr rfl) (pe_op (kO K rPlus rfl op_plus) (pe_lc (own := [("one", 6)]) (g := (gName 6)) rfl sc__law_crowd_right.nd (pi_listK (K := K) rfl (pv 2)) (blkOk_by (own := [("one", 6)]) (N := nm__law_crowd_right) (sc := (defScope st__law_crowd_right)) (by decide +kernel)) (fun _ _ _ _ _ => (pg_name (i := 6) sc__law_crowd_right.nd rfl (by first | exact Or.inl rfl | exact Or.inr rfl))) (fun _ _ _ _ _ => (pts_one (pt_cmpR (kO K rEqU rfl (op_eqU (hu64 hr))) (pe_ix (kX K rIx rfl ix_seq) (pv 6) pe_int (fun _ _ => rfl)) pe_int (nomark _)))) (fun _ _ _ _ _ => (pv 6))) (pe_lc (own := [("one", 6)]) (g := (gName 6)) rfl sc__law_crowd_right.nd (pi_listK (K := K) rfl (pv 2)) (blkOk_by (own := [("one", 6)]) (N := nm__law_crowd_right) (sc := (defScope st__law_crowd_right)) (by decide +kernel)) (fun _ _ _ _ _ => (pg_name (i := 6) sc__law_crowd_right.nd rfl (by first | exact Or.inl rfl | exact Or.inr rfl))) (fun _ _ _ _ _ => (pts_one (pt_cmpR (kO K rEqU rfl (op_eqU (hu64 hr))) (pe_ix (kX K rIx rfl ix_seq) (pv 6) pe_int (fun _ _ => rfl)) pe_int (nomark _)))) (fun _ _ _ _ _ => (pv 6)))))
    (pss_cons (ps_if (pt_not (pt_val (pe_c c__law_same hr (by first | decide | exact Nat.le_refl _) rfl (passes_call (takes_of rfl rfl rfl rfl) (fun _ _ _ _ h => h)) (pa_cons (pe_m0 m_waiting hr (by first | decide | exact Nat.le_refl _) (passes_call (takes_of rfl rfl rfl rfl) (fun _ _ _ _ h => h)) (pv 1)) (pa_cons (pe_lc (own := [("one", 6)]) (tt := tYes) (g := (gName 6)) rfl sc__law_crowd_right.nd (pi_listK (K := K) rfl (pv 5)) (blkOk_by (own := [("one", 6)]) (N := nm__law_crowd_right) (sc := (defScope st__law_crowd_right)) (by decide +kernel)) (fun _ _ _ _ _ => (pg_name (i := 6) sc__law_crowd_right.nd rfl (by first | exact Or.inl rfl | exact Or.inr rfl))) (fun _ _ _ _ _ => pts_nil) (fun _ _ _ _ _ => (pe_tup (pa_cons (pv 6) (pa_cons pe_int pa_nil))))) pa_nil))))) (pss_one (ps_ret pe_bl)) pss_nil)
    (pss_cons (ps_if (pt_not (pt_val (pe_c c__law_same hr (by first | decide | exact Nat.le_refl _) rfl (passes_call (takes_of rfl rfl rfl rfl) (fun _ _ _ _ h => h)) (pa_cons (pe_m0 m_log hr (by first | decide | exact Nat.le_refl _) (passes_call (takes_of rfl rfl rfl rfl) (fun _ _ _ _ h => h)) (pv 1)) (pa_cons (pe_lc (own := [("one", 6)]) (tt := tYes) (g := (gName 6)) rfl sc__law_crowd_right.nd (pi_listK (K := K) rfl (pv 2)) (blkOk_by (own := [("one", 6)]) (N := nm__law_crowd_right) (sc := (defScope st__law_crowd_right)) (by decide +kernel)) (fun _ _ _ _ _ => (pg_name (i := 6) sc__law_crowd_right.nd rfl (by first | exact Or.inl rfl | exact Or.inr rfl))) (fun _ _ _ _ _ => pts_nil) (fun _ _ _ _ _ => (pe_tup (pa_cons pe_str (pa_cons (pv 6) pa_nil))))) pa_nil))))) (pss_one (ps_ret pe_bl)) pss_nil)
    (pss_cons (ps_par (i := 7) (j := 8) rfl sc__law_crowd_right.nd rfl rfl (by decide) rfl rfl (pa_cons (pe_lst pa_nil) (pa_cons (pe_lst pa_nil) pa_nil)) (by rfl))
    (pss_cons (ps_for (passes_of rfl) rfl (pi_listK (K := K) rfl (pv 5)) (pg_name (i := 6) sc__law_crowd_right.nd rfl (by first | exact Or.inl rfl | exact Or.inr rfl))
      (pss_cons (ps_set (i := 7) sc__law_crowd_right.nd rfl (by first | exact Or.inl rfl | exact Or.inr rfl) (pe_op (kO K rPlus rfl op_plus) (pv 7) (pe_c c__law_row hr (by first | decide | exact Nat.le_refl _) rfl (passes_call (takes_of rfl rfl rfl rfl) (fun _ _ _ _ h => h)) (pa_cons (pe_ix (kX K rIx rfl ix_seq) (pv 6) pe_int (fun _ _ => rfl)) (pa_cons (pe_callB (kC K rSumL rfl (cr_sumL rfl)) (by rfl) T.b_sum (by decide +kernel) (pa_cons (pe_ix (kX K rIx rfl ix_seq) (pv 6) pe_int (fun _ _ => rfl)) (pa_cons (pe_lst pa_nil) pa_nil))) pa_nil)))))
    (pss_one (ps_set (i := 8) sc__law_crowd_right.nd rfl (by first | exact Or.inl rfl | exact Or.inr rfl) (pe_op (kO K rPlus rfl op_plus) (pv 8) (pe_lc (own := [("at", 9)]) (tt := tYes) (g := (gName 9)) rfl sc__law_crowd_right.nd (pi_range1 rfl T.b_range (pa_cons (pe_callB (kC K rLenU rfl call_lenU) (by rfl) T.b_len (by decide +kernel) (pa_cons (pe_ix (kX K rIx rfl ix_seq) (pv 6) pe_int (fun _ _ => rfl)) pa_nil)) pa_nil)) (blkOk_by (own := [("at", 9)]) (N := nm__law_crowd_right) (sc := (defScope st__law_crowd_right)) (by decide +kernel)) (fun _ _ _ _ _ => (pg_name (i := 9) sc__law_crowd_right.nd rfl (by first | exact Or.inl rfl | exact Or.inr rfl))) (fun _ _ _ _ _ => pts_nil) (fun _ _ _ _ _ => (pe_tup (pa_cons (pe_ix (kX K rIx rfl ix_seq) (pv 6) pe_int (fun _ _ => rfl)) (pa_cons (pv 9) pa_nil))))))))))
    (pss_cons (ps_if (PW.pt (pw_or (pt_not (pt_val (pe_c c__law_same hr (by first | decide | exact Nat.le_refl _) rfl (passes_call (takes_of rfl rfl rfl rfl) (fun _ _ _ _ h => h)) (pa_cons (pe_c c__law_dealt hr (by first | decide | exact Nat.le_refl _) rfl (passes_call (takes_of rfl rfl rfl rfl) (fun _ _ _ _ h => h)) (pa_cons (pv 0) (pa_cons (pv 1) (pa_cons (pe_op (kO K rPlus rfl op_plus) (pe_callB (kC K rLenU rfl call_lenU) (by rfl) T.b_len (by decide +kernel) (pa_cons (pv 7) pa_nil)) pe_int) (pa_cons pe_bl pa_nil))))) (pa_cons (pv 7) pa_nil))))) (pw_or1 (pt_not (pt_val (pe_c c__law_same hr (by first | decide | exact Nat.le_refl _) rfl (passes_call (takes_of rfl rfl rfl rfl) (fun _ _ _ _ h => h)) (pa_cons (pe_m0 m_heard hr (by first | decide | exact Nat.le_refl _) (passes_call (takes_of rfl rfl rfl rfl) (fun _ _ _ _ h => h)) (pv 1)) (pa_cons (pv 7) pa_nil)))))))) (pss_one (ps_ret pe_bl)) pss_nil)
    (pss_one (ps_ret (pe_and (pe_c c__law_same hr (by first | decide | exact Nat.le_refl _) rfl (passes_call (takes_of rfl rfl rfl rfl) (fun _ _ _ _ h => h)) (pa_cons (pe_m0 m_passed hr (by first | decide | exact Nat.le_refl _) (passes_call (takes_of rfl rfl rfl rfl) (fun _ _ _ _ h => h)) (pv 1)) (pa_cons (pv 8) pa_nil))) (pe_one (pe_c c__law_same hr (by first | decide | exact Nat.le_refl _) rfl (passes_call (takes_of rfl rfl rfl rfl) (fun _ _ _ _ h => h)) (pa_cons (pe_slice (kS K rSlU rfl sl_U) (pe_m0 m_log hr (by first | decide | exact Nat.le_refl _) (passes_call (takes_of rfl rfl rfl rfl) (fun _ _ _ _ h => h)) (pv 1)) (po_some (pe_callB (kC K rLenU rfl call_lenU) (by rfl) T.b_len (by decide +kernel) (pa_cons (pv 2) pa_nil))) po_none) (pa_cons (pe_lst (pa_cons (pe_tup (pa_cons pe_str (pa_cons (pe_op (kO K rPlus rfl op_plus) (pe_callB (kC K rLenU rfl call_lenU) (by rfl) T.b_len (by decide +kernel) (pa_cons (pv 7) pa_nil)) pe_int) pa_nil))) pa_nil)) pa_nil))))))))))))))), run_body h fun ⟨l, n, _⟩ S ⟨hp, hn, _, _⟩ hl hcl wi => ?_⟩)
  have hp : PuOk n l := hp
  have hn : n ≤ 600000000 := hn
  have hS : S.A.length = 1 := hl
  refine se_seq (se_par ?_)
  refine ea_cons (ask_new fun dx => ?_)
  refine ea_cons (ee_open (ea_nil ⟨Nat.zero_le _, ?_⟩))
  refine ea_nil ⟨_, _, rfl, ?_⟩
  show SE K S _ [some (.own 0), some (.own 1), some (.own 5), none, none, none, none, none, none, none] (.lst l :: (spkC 1 a.eSpeaker dx sp0 ++ [.lst []])) _
  refine se_seq ?_
  refine se_for (ie_rng1 ?_)
  walk_at "pq"
  refine ask_draw 0 ?_
  walk_at "pq"
  refine ⟨141, l, n, rfl, rfl, hp, by omega, by decide, by decide, fun v l1 hv hp1 => ?_⟩
  walk_at "pq"
  rw [show (20 : Int) + (v : Int) = ((20 + v : Nat) : Int) by omega, Int.toNat_natCast]
  have hmany : 20 ≤ 20 + v ∧ 20 + v ≤ 160 := by omega
  generalize 20 + v = many at *
  refine ⟨by omega, by omega, rfl, fun i δ μ => ∃ (x3 x4 : Option D) (pu : List D) (us : List Utt), δ = [some (.own 0), some (.own 1), some (.own 5), x3, x4, none, none, none, none, none] ∧ μ = .lst pu :: (spkC 1 a.eSpeaker dx (runS (us.map sayT)) ++ [.lst (us.map utU)]) ∧ PuOk (n + 1 + 1002 * i) pu ∧ SpkB i 0 (runS (us.map sayT)) ∧ us.length = i ∧ ∀ t ∈ us, UOk t, ⟨none, none, l1, [], rfl, rfl, hp1, sp0_b, rfl, fun t ht => by cases ht⟩, ?_, ?_⟩
  · rintro i x δ μ hx ⟨x3, x4, pu, us, rfl, rfl, hpu, hb, hul, hus⟩
    obtain ⟨hi, rfl⟩ := rng_get hx
    refine ge_name ?_
    refine se_seq (se_asg ?_)
    walk_at "pq"
    refine ask_draw 0 ?_
    walk_at "pq"
    refine ⟨2, pu, _, rfl, rfl, hpu, by omega, by decide, by decide, fun v l1 hv hp1 => ?_⟩
    walk_at "pq"
    refine ask_drawn 0 ?_
    walk_at "pq"
    refine ee_lst ?_
    walk_at "pq"
    refine ⟨(abS2.map strD, 4, 10), l1, _, rfl, rfl, hp1, by omega, ⟨units_lit ab2_ok (by decide) (by decide), by decide, by decide⟩, rfl, fun d l2 hd hd0 hp2 => ?_⟩
    obtain ⟨ps, rfl, hps, htg⟩ := hd
    refine ea_cons (ask_one 0 ?_)
    walk_at "pq"
    refine ee_lst ?_
    walk_at "pq"
    refine ⟨.lst ([Str.ofString "t", Str.ofString "w", Str.ofString "u"].map strD), l2, _, rfl, rfl, hp2, by omega, .inl ⟨_, rfl, by decide, by decide, rfl⟩, rfl, fun d l3 hd hd0 hp3 => ?_⟩
    obtain ⟨g, hg, rfl⟩ : ∃ g ∈ [Str.ofString "t", Str.ofString "w", Str.ofString "u"], d = .str g := by
      cases hd with
      | lst hm =>
        obtain ⟨g, hg, rfl⟩ := List.mem_map.mp hm
        exact ⟨g, hg, rfl⟩
    refine ea_nil ⟨Nat.le_of_ble_eq_true rfl, ?_⟩
    rw [show (1 : Int) + (v : Int) = ((1 + v : Nat) : Int) by omega]
    have htU : UOk (1 + v, ps, g) := ⟨by show 1 + v = 1 ∨ 1 + v = 2; omega, ⟨by show 1 ≤ 1 + v; omega, by show 1 + v ≤ 3; omega, hps, htg, tgs_lit g hg⟩⟩
    show SE K S _ [some (.own 0), some (.own 1), some (.own 5), some (.int (0 + (i : Int))), some (utU (1 + v, ps, g)), none, none, none, none, none] (.lst l3 :: (spkC 1 a.eSpeaker dx (runS (us.map sayT)) ++ [.lst (us.map utU)])) _
    generalize htt : (1 + v, ps, g) = t at htU
    have et : 1 + v = t.1 ∧ ps = t.2.1 ∧ g = t.2.2 := by rw [← htt]; exact ⟨rfl, rfl, rfl⟩
    obtain ⟨k1, k2⟩ := hb.k (by omega) (by omega)
    refine se_seq (se_drop (ask_sayR rfl ?_))
    walk_at "pq"
    refine ee_cz ?_
    walk_at "pq"
    refine ⟨utU t, ut_sok htU.2.ok, rfl, by show ((utU t).lt 0 && true) = true; rw [ut_cl]; rfl, fun r hr => ?_⟩
    have hr : r = utU t := hr
    subst hr
    walk_at "pq"
    refine ⟨t.1, t.2.1, t.2.2, l3, _, _, rfl, rfl, k1, htU.2, k2, ?_⟩
    walk_at "pq"
    refine ee_bm ?_
    walk_at "pq"
    refine ⟨.lst (.own rfl), ?_⟩
    walk_at "pq"
    refine mm_append (l := us.map utU) rfl (by rw [List.length_map]; omega) ?_
    have eS : runS ((us ++ [t]).map sayT) = doneS (runS (us.map sayT)) (.say t.1 t.2.1 t.2.2) := by
      rw [List.map_append]
      exact runS_app
    have b1 : SpkB (i + 1) 0 (doneS (runS (us.map sayT)) (.say t.1 t.2.1 t.2.2)) := done_b (d := .say t.1 t.2.1 t.2.2) hb htU.2
    refine ⟨_, _, l3, us ++ [t], rfl, by rw [eS, List.map_append]; rfl, hp3.up (by omega), by rw [eS]; exact b1, by rw [List.length_append, hul]; rfl, fun y hy => ?_⟩
    rcases List.mem_append.mp hy with hy | hy
    · exact hus y hy
    · rw [List.mem_singleton.mp hy]
      exact htU
  · rintro δ μ ⟨x3, x4, pu, us, rfl, rfl, hpu, hb, hul, hus⟩
    rw [rng_len] at hpu hb hul
    obtain ⟨k1, k2⟩ := hb.k (by omega) (by omega)
    have hr12 : ∀ t ∈ us, t.1 = 1 ∨ t.1 = 2 := fun t ht => (hus t ht).1
    obtain ⟨wt, w1, w2, w3, w4, w5⟩ := crowd_said hr12
    have hu0 : us ≠ [] := fun e => by
      rw [e] at hul
      have : ([] : List Utt).length = 0 := rfl
      omega
    have hro : ∀ t ∈ rowU us, UOk t := fun t ht => hus t (rowU_mem ht)
    have hrl := rowU_len (us := us)
    have hUl := unitsU_len hro
    have hPl := passU_len hro
    obtain ⟨e1, e2, e3, e4⟩ := crowd_told (fun t ht => ⟨hr12 t ht, (hus t ht).2.ok.1, (hus t ht).2.ok.2.1⟩) hu0 (N := (unitsU (rowU us)).length) rfl (j := 100) (by decide)
    have lcRow : ∀ {k : Nat} {kk : Int} {C : D → List Cell → Prop}, kk = (k : Int) → C (.lst ((ofR k us).map utU)) (.lst pu :: (spkC 1 a.eSpeaker dx (runS (us.map sayT)) ++ [.lst (us.map utU)])) → EE K S (tLc (iList K (tVar 2)) (gName 6) (tTest (tOp (rEqU K) (tOp (rIx K) (tVar 6) (tC (.int 0))) (tC (.int kk)))) (tVar 6) [6]) [some (.own 0), some (.own 1), some (.own 5), x3, x4, none, none, none, none, none] (.lst pu :: (spkC 1 a.eSpeaker dx (runS (us.map sayT)) ++ [.lst (us.map utU)])) C := fun {k kk C} hk hC => by
      subst hk
      refine ee_lc (ie_own ?_)
      refine ee_var rfl ?_
      refine ⟨5, _, rfl, rfl, fun c h => rfl, rfl, rkF (k : Int), fun d => d, by rw [List.length_map]; omega, fun x hx _ => ?_, fun x acc hx => ?_, by rw [rk_map]; exact hC⟩
      · obtain ⟨t, _, rfl⟩ := List.mem_map.mp hx
        exact ut_cl
      · obtain ⟨t, _, rfl⟩ := List.mem_map.mp hx
        refine gw_name (by decide) ?_
        walk_at "pq"
        exact ⟨rfl, rfl, fun _ => ee_var rfl ⟨rfl, rfl⟩⟩
    walk_at "pq"
    refine lcRow (k := 2) rfl ?_
    refine lcRow (k := 1) rfl ?_
    have hofz : ∀ k, (ofR k us).length ≤ 160 := fun k => Nat.le_trans (List.length_filter_le _ _) (by omega)
    refine oo_addL (by have := hofz 2; have := hofz 1; rw [List.length_map, List.length_map]; omega) ?_
    rw [← List.map_append]
    show SE K S _ [some (.own 0), some (.own 1), some (.own 5), x3, x4, some (.lst ((rowU us).map utU)), none, none, none, none] (.lst pu :: (spkC 1 a.eSpeaker dx (runS (us.map sayT)) ++ [.lst (us.map utU)])) _
    have hwt : (runS (us.map sayT)).st.wt = wt := by rw [w1]
    have hds : (runS (us.map sayT)).ds = us.map sayT := by rw [w1]
    generalize runS (us.map sayT) = s at *
    walk_at "pq"
    refine ask_same ?_
    refine ea_cons (ask_bR rfl (by decide) k1 ?_)
    rw [hwt, w2]
    refine ea_cons (ee_lc (ie_list ?_))
    walk_at "pq"
    refine ⟨_, .inl rfl, fun _ h => h, trivial, fun _ => true, with0, by rw [List.length_map]; omega, fun x hx _ => ?_, fun x acc hx => ?_, ?_⟩
    · obtain ⟨t, _, rfl⟩ := List.mem_map.mp hx
      show ((utU t).lt _ && (true && true)) = true
      rw [show (utU t).lt _ = true from ut_cl]
      rfl
    · refine gw_name (by decide) ?_
      walk_at "pq"
      refine ⟨rfl, rfl, fun _ => ?_⟩
      walk_at "pq"
      exact ⟨rfl, rfl⟩
    rw [List.filter_eq_self.mpr fun _ _ => rfl, List.map_map]
    refine ea_nil ⟨_, rfl, sOk_lst.mpr ⟨by rw [List.length_map]; omega, fun x hx => ?_⟩, ?_⟩
    · obtain ⟨t, ht, rfl⟩ := List.mem_map.mp hx
      refine sOk_tup.mpr ⟨Nat.le_of_ble_eq_true rfl, fun x hx => ?_⟩
      rcases List.mem_cons.mp hx with rfl | hx
      · exact ut_sok (hro t ht).2.ok
      · rw [List.mem_singleton.mp hx]
        rfl
    walk_at "pq"
    refine ask_same ?_
    refine ea_cons (ask_bR rfl (by decide) k1 ?_)
    rw [hds, List.map_map]
    refine ea_cons (ee_lc (ie_own ?_))
    walk_at "pq"
    refine ⟨5, _, rfl, rfl, fun c h => rfl, rfl, fun _ => true, sayW, by rw [List.length_map]; omega, fun x hx _ => ?_, fun x acc hx => ?_, ?_⟩
    · obtain ⟨t, _, rfl⟩ := List.mem_map.mp hx
      show (true && ((utU t).lt _ && true)) = true
      rw [show (utU t).lt _ = true from ut_cl]
      rfl
    · refine gw_name (by decide) ?_
      walk_at "pq"
      refine ⟨rfl, rfl, fun _ => ?_⟩
      walk_at "pq"
      exact ⟨rfl, rfl⟩
    rw [List.filter_eq_self.mpr fun _ _ => rfl, List.map_map]
    refine ea_nil ⟨_, rfl, sOk_lst.mpr ⟨by rw [List.length_map]; omega, fun x hx => ?_⟩, ?_⟩
    · obtain ⟨t, ht, rfl⟩ := List.mem_map.mp hx
      refine sOk_tup.mpr ⟨Nat.le_of_ble_eq_true rfl, fun x hx => ?_⟩
      rcases List.mem_cons.mp hx with rfl | hx
      · rfl
      · rw [List.mem_singleton.mp hx]
        exact ut_sok (hus t ht).2.ok
    walk_at "pq"
    refine se_par (ea_cons (ee_lst (ea_nil ⟨Nat.zero_le _, ea_cons (ee_lst (ea_nil ⟨Nat.zero_le _, ea_nil ⟨_, _, rfl, ?_⟩⟩))⟩)))
    show SE K S _ [some (.own 0), some (.own 1), some (.own 5), x3, x4, some (.lst ((rowU us).map utU)), none, some (.lst []), some (.lst []), none] (.lst pu :: (spkC 1 a.eSpeaker dx s ++ [.lst (us.map utU)])) _
    refine se_seq (se_for (ie_list ?_))
    refine ee_var rfl ?_
    refine ⟨_, .inl rfl, rfl, fun i δ μ => ∃ x6 : Option D, δ = [some (.own 0), some (.own 1), some (.own 5), x3, x4, some (.lst ((rowU us).map utU)), x6, some (.lst ((unitsU ((rowU us).take i)).map huD)), some (.lst ((passU ((rowU us).take i)).map ppD)), none] ∧ μ = .lst pu :: (spkC 1 a.eSpeaker dx s ++ [.lst (us.map utU)]), ⟨none, rfl, rfl⟩, ?_, ?_⟩
    · rintro i x δ μ hx ⟨x6, rfl, rfl⟩
      rw [List.getElem?_map] at hx
      obtain ⟨t, ht, rfl⟩ := Option.map_eq_some_iff.mp hx
      have hi := (List.getElem?_eq_some_iff.mp ht).1
      have htk : ∀ t ∈ (rowU us).take i, UOk t := fun t ht => hro t (List.mem_of_mem_take ht)
      have hz1 := unitsU_len htk
      have hz2 := passU_len htk
      rw [List.length_take] at hz1 hz2
      have htm : UOk t := hro t (List.mem_of_getElem? ht)
      have hz3 := htm.2.ok.2.2
      have hz4 := (len_phs htm.2.ok).1
      have eu : unitsU ((rowU us).take (i + 1)) = unitsU ((rowU us).take i) ++ rowS t.2.2 t.2.1.flatten := flatMap_take ht
      have ep : passU ((rowU us).take (i + 1)) = passU ((rowU us).take i) ++ rowP t.2.2 (List.range t.2.1.length) := flatMap_take ht
      refine ge_name ?_
      walk_at "pq"
      refine ask_row ?_
      walk_at "pq"
      refine ee_lst ?_
      walk_at "pq"
      refine cc_sumP (by omega) ?_
      walk_at "pq"
      refine ⟨by omega, ?_⟩
      refine oo_addL (by rw [List.length_map, List.length_map, List.length_map]; omega) ?_
      rw [← List.map_append]
      walk_at "pq"
      refine ee_lc (ie_rng1 ?_)
      walk_at "pq"
      refine cc_len (.lst _) ?_
      walk_at "pq"
      rw [List.length_map]
      refine ⟨by omega, by omega, fun _ h => h, trivial, fun _ => true, tagT t.2.2, by rw [rng_len]; omega, fun x hx _ => ?_, fun x acc hx => ?_, ?_⟩
      · obtain ⟨i, hi⟩ := List.mem_iff_getElem?.mp hx
        obtain ⟨_, rfl⟩ := rng_get hi
        rfl
      · obtain ⟨i, hi⟩ := List.mem_iff_getElem?.mp hx
        obtain ⟨_, rfl⟩ := rng_get hi
        refine gw_name (by decide) ?_
        walk_at "pq"
        refine ⟨rfl, rfl, fun _ => ?_⟩
        walk_at "pq"
        exact ⟨rfl, rfl⟩
      rw [show rng 0 ((t.2.1.length : Int)).toNat = rng ((0 : Nat) : Int) t.2.1.length by rw [Int.toNat_natCast]; rfl, rng_row, ← List.range_eq_range']
      refine oo_addL (by rw [List.length_map, List.length_map, List.length_map, List.length_range]; omega) ?_
      rw [← List.map_append, ← eu, ← ep]
      exact ⟨_, rfl, rfl⟩
    · rintro δ μ ⟨x6, rfl, rfl⟩
      rw [List.length_map, List.take_length]
      generalize unitsU (rowU us) = du at *
      generalize passU (rowU us) = pa at *
      walk_at "pq"
      refine ask_same ?_
      walk_at "pq"
      refine ask_dlR ?_
      walk_at "pq"
      refine cc_len (.lst _) ?_
      walk_at "pq"
      rw [List.length_map, show (du.length : Int) + 100 = ((du.length + 100 : Nat) : Int) by omega]
      refine ⟨_, _, pu, _, _, _, s, dx, _, rfl, rfl, hpu, by omega, hb, by omega, by omega, by omega, by omega, fun l2 hp2 => ?_⟩
      rw [e1]
      have b4 := done_b (d := .tick (du.length + 100)) hb (show 1 ≤ du.length + 100 ∧ du.length + 100 ≤ 4000 by omega)
      obtain ⟨k5, k6⟩ := b4.k (by omega) (by show 0 + (du.length + 100) ≤ _; omega)
      generalize doneS s (.tick (du.length + 100)) = s3 at *
      walk_at "pq"
      refine ⟨hu_sok (by omega), ?_⟩
      walk_at "pq"
      refine ask_same ?_
      walk_at "pq"
      refine ask_bR rfl (by decide) k5 ?_
      rw [e2]
      walk_at "pq"
      refine ⟨hu_sok (by omega), ?_⟩
      walk_at "pq"
      refine ask_same ?_
      walk_at "pq"
      refine ask_bR rfl (by decide) k5 ?_
      rw [e3]
      walk_at "pq"
      refine ⟨pp_sok (by omega), ?_⟩
      walk_at "pq"
      refine ask_same ?_
      walk_at "pq"
      refine ask_bR rfl (by decide) k5 ?_
      rw [e4]
      walk_at "pq"
      refine cc_len (.own rfl) ?_
      walk_at "pq"
      refine ss_lst ?_
      rw [List.map_append, cutD_n0, List.length_map, List.drop_left' (by rw [List.length_map, List.length_map])]
      walk_at "pq"
      refine ee_lst ?_
      walk_at "pq"
      refine cc_len (.lst _) ?_
      walk_at "pq"
      rw [List.length_map, show (du.length : Int) + 100 = ((du.length + 100 : Nat) : Int) by omega]
      refine ⟨_, rfl, sOk_lst.mpr ⟨Nat.le_of_ble_eq_true rfl, fun x hx => ?_⟩, ?_⟩
      · rw [List.mem_singleton.mp hx]
        rfl
      · exact gave_drawn (n := n + 170000) hS (d := .bl true) rfl rfl (hp2.up (by omega))
end


section
variable {P : Program} {w : World} {K : PySem.W.Frag} {mg : Str → Option Value} {base : Heap} {a : Ad} {f : Addr} {fd : FuncData}
local macro_rules | `(tactic| walk_at "pq") => `(tactic| repeat (first | walk_at "p1" | (refine oo_ixT rfl ?_)))
theorem cc_strI {S : Bs} {μ : List Cell} {C : D → List Cell → Prop} {i : Int} (h : i.natAbs.log2 < 1920) (k : C (.str (toString i)) μ) : CC K S rStrI [.int i] μ C := cc_one (fun _ _ q => ⟨i, rfl, h, q⟩) k
def keyS (i : Nat) : Str := Str.ofString "k" ++ Str.ofString (toString (i : Int))
theorem keyS_all : ∀ i : Fin 40, isTxt (.str (keyS i.val)) = true ∧ 0 < (keyS i.val).length ∧ (keyS i.val).length ≤ 1000 := by decide +kernel
theorem keyS_ok {i : Nat} (h : i < 40) : TagOk (keyS i) := ⟨(keyS_all ⟨i, h⟩).1, (keyS_all ⟨i, h⟩).2.1, (keyS_all ⟨i, h⟩).2.2⟩
theorem keyS_len : ∀ i : Fin 40, (Str.ofString "k").length + (Str.ofString (toString ((i.val : Nat) : Int))).length ≤ 10000000 := by decide +kernel
theorem log_40 : ∀ i : Fin 40, ((i.val : Nat) : Int).natAbs.log2 < 1920 := by decide +kernel
theorem one_ok {r : Nat} {u g : Str} (h1 : 1 ≤ r) (h3 : r ≤ 3) (hu : TagOk u) (hg : TagOk g) : UttOk r [[u]] g := ⟨h1, h3, ⟨by simp, fun p hp => by rw [List.mem_singleton.mp hp]; simp, by simp⟩, fun p hp x hx => by
  rw [List.mem_singleton.mp hp] at hx
  rw [List.mem_singleton.mp hx]
  exact hu, hg⟩
theorem p_ok : TagOk (Str.ofString "p") := lit_ok
theorem k_ok : TagOk (Str.ofString "k") := lit_ok
def FirstSt (s : Spk) (row : List (List Str)) : Prop := s.st.wt = [] ∧ s.st.held = false ∧ (s.st.said.toList.map fun t => { t with un := 0 }) = behK 0 2 tS row ∧ ∀ t, s.st.said = some t → t.rank = 2
abbrev st__law_keys_right : Stmt := top 51
abbrev nm__law_keys_right : List Str := ["purse", "speaker", "row", "many", "first", "turn", "due"]
theorem sc__law_keys_right : FnScope nm__law_keys_right ["purse"] (defScope st__law_keys_right) := ⟨rfl, rfl, rfl, by decide +kernel, rfl, by decide +kernel, by decide +kernel⟩
theorem ok_keys_right (F : Fun K "_law_keys_right" "_law_keys_right" st__law_keys_right f fd) (T : Tx P w K mg base a) (c__law_draw : CalX P w K mg base 2 "_law_draw" ["purse", "many"] (spDraw K)) (c__law_phrases : CalX P w K mg base 5 "_law_phrases" ["purse", "units", "many", "most"] (spPhr K)) (c__law_row : CalX P w K mg base 1 "_law_row" ["tag", "units"] (spRow K)) (c__law_dealt : CalX P w K mg base 10 "_law_dealt" ["purse", "speaker", "many", "is_whole_v"] (spDealt K a.eSpeaker)) (i_Speaker : CalI P w K mg base 1 "Speaker" a.eSpeaker ["self"] (spInit K a.eSpeaker)) (m_say : CalM P w K mg base 9 a.eSpeaker "say" ["self", "utterance"] (spSayM K a.eSpeaker)) (m_tick : CalM P w K mg base 9 a.eSpeaker "tick" ["self", "many"] (spTickM K a.eSpeaker)) (m_said : CalM P w K mg base 2 a.eSpeaker "said" ["self"] (spSaidM K a.eSpeaker)) (m_waiting : CalM P w K mg base 2 a.eSpeaker "waiting" ["self"] (spWaitM K a.eSpeaker)) (c__law_same : CalX P w K mg base 9 "_law_same" ["told", "due"] (spSame K 8)) : FnOk P w K mg base (L2.CX P w) 11 f fd ["purse"] (spYes K 2000) := by
  refine F.okX sc__law_keys_right (fun vs H Q E h => pro_len h fun _ => rfl) (fun cdv A outer s H vs Q E hr h => ⟨_, (pss_cons (ps_par3 (i := 1) (j := 2) (l := 3) rfl sc__law_keys_right.nd rfl rfl rfl (by decide) (by decide) (by decide) rfl rfl rfl (pa_cons (pe_mk0 i_Speaker hr (by first | decide | exact Nat.le_refl _) rfl (passes_call (takes_of rfl rfl rfl rfl) (fun _ _ _ _ h => h))) (pa_cons (pe_c c__law_phrases hr (by first | decide | exact Nat.le_refl _) rfl (passes_call (takes_of rfl rfl rfl rfl) (fun _ _ _ _ h => h)) (pa_cons (pv 0) (pa_cons (pe_lst (pa_cons pe_str (pa_cons pe_str pa_nil))) (pa_cons pe_int (pa_cons pe_int pa_nil))))) (pa_cons (pe_op (kO K rPlus rfl op_plus) pe_int (pe_c c__law_draw hr (by first | decide | exact Nat.le_refl _) rfl (passes_call (takes_of rfl rfl rfl rfl) (fun _ _ _ _ h => h)) (pa_cons (pv 0) (pa_cons pe_int pa_nil)))) pa_nil))) (by rfl))
    (pss_cons (ps_expr (pe_m m_say hr (by first | decide | exact Nat.le_refl _) (passes_call (takes_of rfl rfl rfl rfl) (fun _ _ _ _ h => h)) (pv 1) (pa_cons (pe_tup (pa_cons pe_int (pa_cons (pv 2) (pa_cons pe_str pa_nil)))) pa_nil)))
    (pss_cons (ps_set (i := 4) sc__law_keys_right.nd rfl (by first | exact Or.inl rfl | exact Or.inr rfl) (pe_m m_tick hr (by first | decide | exact Nat.le_refl _) (passes_call (takes_of rfl rfl rfl rfl) (fun _ _ _ _ h => h)) (pv 1) (pa_cons pe_int pa_nil)))
    (pss_cons (ps_for (passes_of rfl) rfl (pi_range1 rfl T.b_range (pa_cons (pv 3) pa_nil)) (pg_name (i := 5) sc__law_keys_right.nd rfl (by first | exact Or.inl rfl | exact Or.inr rfl))
      (pss_cons (ps_expr (pe_m m_say hr (by first | decide | exact Nat.le_refl _) (passes_call (takes_of rfl rfl rfl rfl) (fun _ _ _ _ h => h)) (pv 1) (pa_cons (pe_tup (pa_cons pe_int (pa_cons (pe_lst (pa_cons (pe_lst (pa_cons pe_str pa_nil)) pa_nil)) (pa_cons pe_str pa_nil)))) pa_nil)))
    (pss_one (ps_expr (pe_m m_say hr (by first | decide | exact Nat.le_refl _) (passes_call (takes_of rfl rfl rfl rfl) (fun _ _ _ _ h => h)) (pv 1) (pa_cons (pe_tup (pa_cons pe_int (pa_cons (pe_lst (pa_cons (pe_lst (pa_cons (pe_op (kO K rPlus rfl op_plus) pe_str (pe_callTy call_strI (by rfl) T.b_str (by decide +kernel) (pa_cons (pv 5) pa_nil))) pa_nil)) pa_nil)) (pa_cons pe_str pa_nil)))) pa_nil))))))
    (pss_cons (ps_set (i := 6) sc__law_keys_right.nd rfl (by first | exact Or.inl rfl | exact Or.inr rfl) (pe_callB (kC K rSumL rfl (cr_sumL rfl)) (by rfl) T.b_sum (by decide +kernel) (pa_cons (pv 2) (pa_cons (pe_lst pa_nil) pa_nil))))
    (pss_cons (ps_if (pt_cmpR (kO K rEqU rfl (op_eqU (hu64 hr))) (pe_callB (kC K rLenU rfl call_lenU) (by rfl) T.b_len (by decide +kernel) (pa_cons (pe_ix (kX K rIx rfl ix_seq) (pv 2) pe_int (fun _ _ => rfl)) pa_nil)) pe_int (nomark _)) (pss_one (ps_set (i := 6) sc__law_keys_right.nd rfl (by first | exact Or.inl rfl | exact Or.inr rfl) (pe_slice (kS K rSlU rfl sl_U) (pv 6) (po_some pe_int) po_none))) pss_nil)
    (pss_cons (ps_set (i := 6) sc__law_keys_right.nd rfl (by first | exact Or.inl rfl | exact Or.inr rfl) (pe_op (kO K rPlus rfl op_plus) (pe_lst (pa_cons (pe_tup (pa_cons pe_str (pa_cons (pe_op (kO K rPlus rfl op_plus) pe_str (pe_callTy call_strI (by rfl) T.b_str (by decide +kernel) (pa_cons (pe_op op_sub (pv 3) pe_int) pa_nil))) pa_nil))) pa_nil)) (pe_c c__law_row hr (by first | decide | exact Nat.le_refl _) rfl (passes_call (takes_of rfl rfl rfl rfl) (fun _ _ _ _ h => h)) (pa_cons pe_str (pa_cons (pv 6) pa_nil)))))
    (pss_cons (ps_if (PW.pt (pw_or (pt_not (pt_val (pe_c c__law_same hr (by first | decide | exact Nat.le_refl _) rfl (passes_call (takes_of rfl rfl rfl rfl) (fun _ _ _ _ h => h)) (pa_cons (pv 4) (pa_cons (pe_c c__law_row hr (by first | decide | exact Nat.le_refl _) rfl (passes_call (takes_of rfl rfl rfl rfl) (fun _ _ _ _ h => h)) (pa_cons pe_str (pa_cons (pe_slice (kS K rSlU rfl sl_U) (pe_ix (kX K rIx rfl ix_seq) (pv 2) pe_int (fun _ _ => rfl)) po_none (po_some pe_int)) pa_nil))) pa_nil))))) (pw_or1 (pt_not (pt_val (pe_c c__law_same hr (by first | decide | exact Nat.le_refl _) rfl (passes_call (takes_of rfl rfl rfl rfl) (fun _ _ _ _ h => h)) (pa_cons (pe_c c__law_dealt hr (by first | decide | exact Nat.le_refl _) rfl (passes_call (takes_of rfl rfl rfl rfl) (fun _ _ _ _ h => h)) (pa_cons (pv 0) (pa_cons (pv 1) (pa_cons pe_int (pa_cons pe_bl pa_nil))))) (pa_cons (pv 6) pa_nil)))))))) (pss_one (ps_ret pe_bl)) pss_nil)
    (pss_one (ps_ret (pe_and (pe_cmpR (kO K rEqU rfl (op_eqU (hu64 hr))) (pe_m0 m_waiting hr (by first | decide | exact Nat.le_refl _) (passes_call (takes_of rfl rfl rfl rfl) (fun _ _ _ _ h => h)) (pv 1)) (pe_lst pa_nil) (nomark _)) (pe_one (pe_cmpR op_isN (pe_m0 m_said hr (by first | decide | exact Nat.le_refl _) (passes_call (takes_of rfl rfl rfl rfl) (fun _ _ _ _ h => h)) (pv 1)) pe_non (nomark _)))))))))))))), run_body h fun ⟨l, n, _⟩ S ⟨hp, hn, _, _⟩ hl hcl wi => ?_⟩)
  have hp : PuOk n l := hp
  have hn : n ≤ 600000000 := hn
  have hS : S.A.length = 1 := hl
  refine se_seq (se_par3 ?_)
  refine ea_cons (ask_new fun dx => ?_)
  refine ea_cons (ask_drawn 0 ?_)
  walk_at "pq"
  refine ee_lst ?_
  walk_at "pq"
  refine ⟨(abS2.map strD, 3, 8), l, n, rfl, rfl, hp, by omega, ⟨units_lit ab2_ok (by decide) (by decide), by decide, by decide⟩, rfl, fun d l1 hd hd0 hp1 => ?_⟩
  obtain ⟨row, rfl, hps, htg⟩ := hd
  obtain ⟨h0, hne, hsz⟩ := hps
  have hpl : 0 < row.length := List.length_pos_iff.mpr h0
  have hlr := len_phs ⟨h0, hne, hsz⟩
  have hgq : row[0]? = some (row.getD 0 []) := by rw [List.getD_eq_getElem?_getD, List.getElem?_eq_getElem hpl]; rfl
  have h00 : atI (row.map phL) (0 : Int) = some (phL (row.getD 0 [])) := atI_nat (j := 0) (by rw [List.getElem?_map, hgq]; rfl)
  have hqm : row.getD 0 [] ∈ row := List.mem_of_getElem? hgq
  have hqz := hlr.2 _ hqm
  have huok : UttOk 2 row tS := ⟨by decide, by decide, ⟨h0, hne, hsz⟩, htg, t_ok⟩
  walk_at "pq"
  refine ask_draw 0 ?_
  walk_at "pq"
  refine ⟨40, l1, n + 1000, rfl, rfl, hp1, by omega, by decide, by decide, fun v l2 hv hp2 => ?_⟩
  walk_at "pq"
  refine ⟨_, _, _, rfl, ?_⟩
  rw [show (1 : Int) + (v : Int) = ((1 + v : Nat) : Int) by omega]
  have hmany : 1 ≤ 1 + v ∧ 1 + v ≤ 40 := by omega
  generalize 1 + v = many at *
  show SE K S _ [some (.own 0), some (.own 1), some (phsL row), some (intD many), none, none, none] (.lst l2 :: spkC 1 a.eSpeaker dx sp0) _
  have b0 := sp0_b
  obtain ⟨k1, k2⟩ := b0.k (by omega) (by omega)
  refine se_seq (se_drop (ask_say rfl ?_))
  walk_at "pq"
  refine ⟨2, row, tS, l2, sp0, rfl, rfl, k1, huok, k2, ?_⟩
  have b1 : SpkB 1 0 (doneS sp0 (.say 2 row tS)) := done_b (d := .say 2 row tS) b0 huok
  obtain ⟨k3, k4⟩ := b1.k (by omega) (by omega)
  refine se_seq (se_asg (ask_tk rfl ?_))
  walk_at "pq"
  refine ⟨1, l2, _, rfl, rfl, k3, by decide, k4, ?_⟩
  have b2 : SpkB 2 1 (doneS (doneS sp0 (.say 2 row tS)) (.tick 1)) := done_b (d := .tick 1) b1 (show 1 ≤ 1 ∧ 1 ≤ 4000 by decide)
  obtain ⟨f1, st, f2, f3, f4, f5, f6, f7⟩ := first_tick (g := tS) hne h0
  rw [f1]
  have hF : FirstSt (doneS (doneS sp0 (.say 2 row tS)) (.tick 1)) row := by
    refine ⟨?_, ?_, ?_, ?_⟩
    · rw [f2]; exact f3
    · rw [f2]; exact f4
    · rw [f2]; exact f6
    · rw [f2]; exact f7
  generalize doneS (doneS sp0 (.say 2 row tS)) (.tick 1) = s2 at *
  show SE K S _ [some (.own 0), some (.own 1), some (phsL row), some (intD many), some (.lst ((rowS tS ((row.getD 0 []).take 1)).map huD)), none, none] (.lst l2 :: spkC 1 a.eSpeaker dx s2) _
  refine se_seq ?_
  refine se_for (ie_rng1 ?_)
  walk_at "pq"
  rw [Int.toNat_natCast]
  refine ⟨by omega, by omega, rfl, fun i δ μ => ∃ (x5 : Option D) (s : Spk), δ = [some (.own 0), some (.own 1), some (phsL row), some (intD many), some (.lst ((rowS tS ((row.getD 0 []).take 1)).map huD)), x5, none] ∧ μ = .lst l2 :: spkC 1 a.eSpeaker dx s ∧ SpkB (2 + 2 * i) 1 s ∧ (i = 0 → FirstSt s row) ∧ (0 < i → ∃ m, s.st = stN (keyT m (keyS (i - 1)) :: behK 0 2 tS row)), ⟨none, s2, rfl, rfl, b2, fun _ => hF, fun h => absurd h (Nat.lt_irrefl 0)⟩, ?_, ?_⟩
  · rintro i x δ μ hx ⟨x5, s, rfl, rfl, hb, h1, h2⟩
    obtain ⟨hi, rfl⟩ := rng_get hx
    rw [Int.zero_add]
    obtain ⟨k5, k6⟩ := hb.k (by omega) (by omega)
    have hpok : UttOk 1 [[Str.ofString "p"]] (Str.ofString "p") := one_ok (by decide) (by decide) p_ok p_ok
    have hkok : UttOk 3 [[keyS i]] (Str.ofString "k") := one_ok (by decide) (by decide) (keyS_ok (by omega)) k_ok
    have b3 : SpkB (2 + 2 * i + 1) 1 (doneS s pD) := done_b (d := pD) hb hpok
    obtain ⟨k7, k8⟩ := b3.k (by omega) (by omega)
    have b4 : SpkB (2 + 2 * i + 1 + 1) 1 (doneS (doneS s pD) (kD (keyS i))) := done_b (d := kD (keyS i)) b3 hkok
    have hnx : ∃ m, (doneS (doneS s pD) (kD (keyS i))).st = stN (keyT m (keyS i) :: behK 0 2 tS row) := by
      by_cases h : i = 0
      · obtain ⟨g1, g2, g3, g4⟩ := h1 h
        exact key_first g1 g2 g3 g4
      · obtain ⟨m, hm⟩ := h2 (by omega)
        exact key_next hm
    refine ge_name ?_
    refine se_seq (se_drop (ask_say rfl ?_))
    walk_at "pq"
    refine ee_lst ?_
    walk_at "pq"
    refine ee_lst ?_
    walk_at "pq"
    refine ⟨1, [[Str.ofString "p"]], Str.ofString "p", l2, s, rfl, rfl, k5, hpok, k6, ?_⟩
    refine se_drop (ask_say rfl ?_)
    walk_at "pq"
    refine ee_lst ?_
    walk_at "pq"
    refine ee_lst ?_
    walk_at "pq"
    refine cc_strI (log_40 ⟨i, by omega⟩) ?_
    refine oo_addS (keyS_len ⟨i, by omega⟩) ?_
    walk_at "pq"
    refine ⟨3, [[keyS i]], Str.ofString "k", l2, doneS s pD, rfl, rfl, k7, hkok, k8, ?_⟩
    exact ⟨_, _, rfl, rfl, b4, fun h => absurd h (Nat.succ_ne_zero i), fun _ => hnx⟩
  · rintro δ μ ⟨x5, s, rfl, rfl, hb, h1, h2⟩
    rw [rng_len] at hb h1 h2
    obtain ⟨m, hst⟩ := h2 (by omega)
    obtain ⟨N, hN⟩ : ∃ N, N = 1000 := ⟨_, rfl⟩
    obtain ⟨e1, e2⟩ := keys_told (N := N) hne h0 hst (by omega)
    obtain ⟨g1, g2⟩ := stand_nil e2
    refine se_seq (se_asg ?_)
    walk_at "pq"
    refine ee_lst ?_
    walk_at "pq"
    refine cc_sumP (by omega) ?_
    have hrest := rest_eq h0
    have hrz : (restK row).flatten.length ≤ 10 := by
      rw [← hrest]
      split
      · rw [List.length_drop]
        omega
      · exact hsz
    refine se_seq (se_to (fun δ μ => δ = [some (.own 0), some (.own 1), some (phsL row), some (intD many), some (.lst ((rowS tS ((row.getD 0 []).take 1)).map huD)), x5, some (.lst ((restK row).flatten.map strD))] ∧ μ = .lst l2 :: spkC 1 a.eSpeaker dx s) ?_ ?_)
    · walk_at "pp"
      refine oo_ixL h00 ?_
      walk_at "pq"
      refine cc_len (.lst _) ?_
      walk_at "pq"
      rw [List.length_map]
      refine ⟨fun h => ?_, fun h => ?_⟩
      · have h := of_decide_eq_true h
        injection h with h
        have h : (row.getD 0 []).length = 1 := by omega
        rw [if_pos h] at hrest
        walk_at "pq"
        refine ss_lst ?_
        rw [show (some (1 : Int)) = some ((1 : Nat) : Int) from rfl, cutD_n0, ← List.map_drop, hrest]
        exact ⟨rfl, rfl⟩
      · have h := of_decide_eq_false h
        have h : ¬ (row.getD 0 []).length = 1 := fun z => h (by rw [z]; rfl)
        rw [if_neg h] at hrest
        walk_at "pq"
        rw [hrest]
        exact ⟨rfl, rfl⟩
    · rintro δ μ ⟨rfl, rfl⟩
      walk_at "pq"
      refine ee_lst ?_
      walk_at "pq"
      rw [show (many : Int) - 1 = ((many - 1 : Nat) : Int) by omega]
      refine cc_strI (log_40 ⟨many - 1, by omega⟩) ?_
      refine oo_addS (keyS_len ⟨many - 1, by omega⟩) ?_
      refine ea_nil ⟨Nat.le_of_ble_eq_true rfl, ?_⟩
      refine ea_nil ⟨Nat.le_of_ble_eq_true rfl, ?_⟩
      refine ask_row ?_
      walk_at "pq"
      refine ⟨by omega, ?_⟩
      refine oo_addL (by rw [List.length_map, List.length_map]; show 1 + _ ≤ _; omega) ?_
      rw [show ([D.tup [D.str (Str.ofString "k"), D.str (Str.ofString "k" ++ Str.ofString (toString ((many - 1 : Nat) : Int)))]] ++ (rowS tS (restK row).flatten).map huD) = ((Str.ofString "k", keyS (many - 1)) :: rowS tS (restK row).flatten).map huD from rfl]
      have hdl : ((Str.ofString "k", keyS (many - 1)) :: rowS tS (restK row).flatten).length ≤ 100 := by rw [List.length_cons, List.length_map]; omega
      generalize (Str.ofString "k", keyS (many - 1)) :: rowS tS (restK row).flatten = du at *
      have b4 := done_b (d := .tick N) hb (show 1 ≤ N ∧ N ≤ 4000 by omega)
      obtain ⟨k5, k6⟩ := b4.k (by omega) (by show 1 + N ≤ _; omega)
      walk_at "pq"
      refine ask_same ?_
      walk_at "pq"
      refine ask_row ?_
      walk_at "pp"
      refine oo_ixL h00 ?_
      walk_at "pq"
      refine ss_lst ?_
      rw [show (some (1 : Int)) = some ((1 : Nat) : Int) from rfl, cutD_0n, ← List.map_take]
      walk_at "pq"
      refine ⟨by rw [List.length_take]; omega, ?_⟩
      walk_at "pq"
      refine ⟨hu_sok (by rw [List.length_map, List.length_take]; omega), ?_⟩
      walk_at "pq"
      refine ask_same ?_
      walk_at "pq"
      refine ask_dl ?_
      walk_at "pq"
      refine ⟨N, _, l2, _, _, _, s, dx, by rw [hN]; rfl, rfl, hp2, by omega, hb, by omega, by omega, by omega, by omega, fun l3 hp3 => ?_⟩
      rw [e1]
      generalize doneS s (.tick N) = s3 at *
      walk_at "pq"
      refine ⟨hu_sok (by omega), ?_⟩
      walk_at "pq"
      refine ask_b rfl (by decide) k5 ?_
      rw [g2]
      walk_at "pq"
      refine ee_lst ?_
      walk_at "pq"
      refine oo_eqPy0 (k := 0) (fun c hc => by cases hc) (by decide) ?_
      walk_at "pq"
      refine ask_b rfl (by decide) k5 ?_
      have es3 : saidR s3 = .non := by
        unfold saidR
        rw [g1]
      rw [es3]
      walk_at "pq"
      walk_at "gp"
      exact gave_drawn (n := n + 2000) hS (d := .bl true) rfl rfl (hp3.up (by omega))
end


section
variable {P : Program} {w : World} {K : PySem.W.Frag} {mg : Str → Option Value} {base : Heap} {a : Ad} {f : Addr} {fd : FuncData}
local macro_rules | `(tactic| walk_at "pq") => `(tactic| repeat (first | walk_at "p1" | (refine oo_ixT rfl ?_)))
abbrev st_law : Stmt := top 53
abbrev nm_law : List Str := ["script", "spot", "purse"]
theorem sc_law : FnScope nm_law ["script"] (defScope st_law) := ⟨rfl, rfl, rfl, by decide +kernel, rfl, by decide +kernel, by decide +kernel⟩
theorem ok_law (F : Fun K "law" "law" st_law f fd) (T : Tx P w K mg base a) (c__law_purse : CalX P w K mg base 1 "_law_purse" ["script", "at"] (spPurse K)) (c__law_log_back_right : CalX P w K mg base 10 "_law_log_back_right" ["purse"] (spBack K)) (c__law_cut_right : CalX P w K mg base 11 "_law_cut_right" ["purse"] (spYes K 3000)) (c__law_crowd_right : CalX P w K mg base 11 "_law_crowd_right" ["purse"] (spYes K 170000)) (c__law_keys_right : CalX P w K mg base 11 "_law_keys_right" ["purse"] (spYes K 2000)) : FnOk P w K mg base (L2.CX P w) 12 f fd ["script"] (spLaw K) := by
  refine F.okX sc_law (fun vs H Q E h => pro_len h fun _ => rfl) (fun cdv A outer s H vs Q E hr h => ⟨_, (pss_cons (ps_for (passes_of rfl) rfl (pi_range1 rfl T.b_range (pa_cons pe_int pa_nil)) (pg_name (i := 1) sc_law.nd rfl (by first | exact Or.inl rfl | exact Or.inr rfl))
      (pss_cons (ps_set (i := 2) sc_law.nd rfl (by first | exact Or.inl rfl | exact Or.inr rfl) (pe_c c__law_purse hr (by first | decide | exact Nat.le_refl _) rfl (passes_call (takes_of rfl rfl rfl rfl) (fun _ _ _ _ h => h)) (pa_cons (pv 0) (pa_cons (pv 1) pa_nil))))
    (pss_one (ps_if (PW.pt (pw_or (pt_not (pt_val (pe_c c__law_log_back_right hr (by first | decide | exact Nat.le_refl _) rfl (passes_call (takes_of rfl rfl rfl rfl) (fun _ _ _ _ h => h)) (pa_cons (pv 2) pa_nil)))) (pw_or (pt_not (pt_val (pe_c c__law_cut_right hr (by first | decide | exact Nat.le_refl _) rfl (passes_call (takes_of rfl rfl rfl rfl) (fun _ _ _ _ h => h)) (pa_cons (pv 2) pa_nil)))) (pw_or (pt_not (pt_val (pe_c c__law_crowd_right hr (by first | decide | exact Nat.le_refl _) rfl (passes_call (takes_of rfl rfl rfl rfl) (fun _ _ _ _ h => h)) (pa_cons (pv 2) pa_nil)))) (pw_or1 (pt_not (pt_val (pe_c c__law_keys_right hr (by first | decide | exact Nat.le_refl _) rfl (passes_call (takes_of rfl rfl rfl rfl) (fun _ _ _ _ h => h)) (pa_cons (pv 2) pa_nil))))))))) (pss_one (ps_ret pe_bl)) pss_nil))))
    (pss_one (ps_ret pe_bl))), run_body h fun ns S hz hl hcl wi => ?_⟩)
  have hl : S.A.length = 0 := hl
  refine se_seq ?_
  refine se_for (ie_rng1 ?_)
  walk_at "pq"
  refine ⟨by decide, by decide, rfl, fun i δ μ => ∃ (x1 x2 : Option D), δ = [some (.rd (ns.map D.int)), x1, x2], ⟨none, none, rfl⟩, ?_, ?_⟩
  · rintro i x δ μ hx ⟨x1, x2, rfl⟩
    obtain ⟨hi, rfl⟩ := rng_get hx
    have hi : i < 2 := hi
    have hlast : ∀ {l : List D}, (μ ++ [Cell.lst l])[μ.length]? = some (.lst l) := fun {l} => by
      rw [List.getElem?_append_right (Nat.le_refl _), Nat.sub_self]
      rfl
    have hset : ∀ {l l2 : List D}, (μ ++ [Cell.lst l]).set μ.length (.lst l2) = μ ++ [.lst l2] := fun {l l2} => by
      rw [List.set_append_right _ _ (Nat.le_refl _), Nat.sub_self]
      rfl
    refine ge_name ?_
    walk_at "pq"
    refine ee_czN ?_
    walk_at "pq"
    refine ⟨(ns, i), by show i ≤ 1000; omega, by show [D.rd (ns.map D.int), D.int (0 + (i : Int))] = [D.rd (ns.map D.int), D.int (i : Int)]; rw [Int.zero_add], by show (D.ltL 0 (ns.map D.int) && true) = true; rw [D.ltL_all.mpr fun x hx => by obtain ⟨j, _, rfl⟩ := List.mem_map.mp hx; rfl]; rfl, fun p hp _ => ?_⟩
    walk_at "pq"
    refine ask_drawn μ.length ?_
    walk_at "pq"
    refine ⟨(), p, 0, rfl, hlast, hp, by decide, trivial, rfl, ?_⟩
    rintro d p1 rfl _ hp1
    rw [hset]
    walk_at "pq"
    refine ask_drawn μ.length ?_
    walk_at "pq"
    refine ⟨(), p1, _, rfl, hlast, hp1, by decide, trivial, rfl, ?_⟩
    rintro d p2 rfl _ hp2
    rw [hset]
    walk_at "pq"
    refine ask_drawn μ.length ?_
    walk_at "pq"
    refine ⟨(), p2, _, rfl, hlast, hp2, by decide, trivial, rfl, ?_⟩
    rintro d p3 rfl _ hp3
    rw [hset]
    walk_at "pq"
    refine ask_drawn μ.length ?_
    walk_at "pq"
    refine ⟨(), p3, _, rfl, hlast, hp3, by decide, trivial, rfl, ?_⟩
    rintro d p4 rfl _ hp4
    rw [hset]
    walk_at "pq"
    exact ⟨_, _, rfl⟩
  rintro δ μ ⟨x1, x2, rfl⟩
  walk_at "pq"
  walk_at "gp"
  exact gaveP hl rfl rfl
end


/-- a method as the top has it -/
def MthF (K : PySem.W.Frag) (C : Addr) (m q : Str) (st : Stmt) : Prop := ∃ (f : Addr) (fd : FuncData), Fun K m q st f fd ∧ Meth K C m f
theorem mth_mk {K : PySem.W.Frag} {C f : Addr} {m q : Str} {st : Stmt} {oc : Value} {od an : Option Addr} {osl : Array (Option Value)} {kV doc pm cdv ct : Value} (a : PySem.W.findIn K (.ref C) m = some (some (.ref f))) (i : PySem.W.isFn K (.ref f) = true) (l : K.lookup f = some ⟨oc, od, .func (PySem.W.fnOf m q (defArgs st) (defBody st) (defScope st) .none kV doc pm an cdv ct), osl⟩) (c : PySem.W.codeIn K cdv q = true) (k : PySem.W.keepIn K (.ref f) = true) : MthF K C m q st :=
  ⟨f, _, fun_mk l c k, a, i, k⟩
abbrev si_InvalidCount : Stmt := inClass (top 3) 0
theorem sci_InvalidCount : FnScope ["self", "value"] ["self", "value"] (defScope si_InvalidCount) := ⟨rfl, rfl, rfl, by decide +kernel, rfl, by decide +kernel, by decide +kernel⟩
abbrev si_InvalidUtterance : Stmt := inClass (top 4) 0
theorem sci_InvalidUtterance : FnScope ["self", "value"] ["self", "value"] (defScope si_InvalidUtterance) := ⟨rfl, rfl, rfl, by decide +kernel, rfl, by decide +kernel, by decide +kernel⟩
abbrev si_InvalidTag : Stmt := inClass (top 5) 0
theorem sci_InvalidTag : FnScope ["self", "value"] ["self", "value"] (defScope si_InvalidTag) := ⟨rfl, rfl, rfl, by decide +kernel, rfl, by decide +kernel, by decide +kernel⟩
abbrev si_InvalidLog : Stmt := inClass (top 6) 0
theorem sci_InvalidLog : FnScope ["self", "value"] ["self", "value"] (defScope si_InvalidLog) := ⟨rfl, rfl, rfl, by decide +kernel, rfl, by decide +kernel, by decide +kernel⟩
/-- a def that is called with keywords alone -/
theorem kbd_mk {K : PySem.W.Frag} {x : Str} {st : Stmt} {f : Addr} {fd : FuncData} {ps ks : List Str} {π : List Nat} (F : Fun K x x st f fd)
    (h : ∀ (kV doc pm : Value) (an : Option Addr) (cdv ct : Value) (ws : List Value), ws.length = ks.length → bindArgs (PySem.W.fnOf x x (defArgs st) (defBody st) (defScope st) .none kV doc pm an cdv ct) ⟨[], ks.zip ws⟩ = pure (ps.zip (permL π ws))) : KBd K fd ps ks π := by
  obtain ⟨oc, od, kV, doc, pm, an, cdv, ct, osl, rfl, lk, hcd⟩ := F.ex
  exact fun s ws hl => .of_eq (h kV doc pm an cdv ct ws hl)
theorem all_ok {P : Program} {w : World} {K : PySem.W.Frag} {h : Heap} {mg : Str → Option Value} {fa : Addr} {eReadingError eInvalidCount eInvalidUtterance eInvalidTag eInvalidLog eSpeaker cEMPTY_1 cEMPTY : Addr} {oEMPTY_1 : Obj} {itsEMPTY_1 : Array Value} {nEMPTY_1 : Nat} {oEMPTY : Obj} {itsEMPTY : Array Value} {nEMPTY : Nat} (X : K.In h) (G : h.Ns mainGlobals mg) (hfa : mg "law" = some (.ref fa))
    (D_is_whole : DefF K mg "is_whole" st_is_whole)
    (D_is_count : DefD K mg "is_count" st_is_count [.int 0])
    (D_is_text : DefF K mg "is_text" st_is_text)
    (D_is_tuple_of : DefF K mg "is_tuple_of" st_is_tuple_of)
    (D_is_said : DefF K mg "is_said" st_is_said)
    (D_copied : DefF K mg "copied" st_copied)
    (D_is_tag : DefF K mg "is_tag" st_is_tag)
    (D_is_phrase : DefF K mg "is_phrase" st_is_phrase)
    (D_is_utterance_object : DefF K mg "is_utterance_object" st_is_utterance_object)
    (D_is_deed : DefF K mg "is_deed" st_is_deed)
    (D_utterance_of : DefF K mg "utterance_of" st_utterance_of)
    (D_standing : DefF K mg "standing" st_standing)
    (D_put_in : DefF K mg "put_in" st_put_in)
    (D_cut_off : DefF K mg "cut_off" st_cut_off)
    (D_cleared : DefF K mg "cleared" st_cleared)
    (D_after_say : DefF K mg "after_say" st_after_say)
    (D_after_tick : DefF K mg "after_tick" st_after_tick)
    (D_after_ticks : DefF K mg "after_ticks" st_after_ticks)
    (D_after_deed : DefF K mg "after_deed" st_after_deed)
    (D_is_log_object : DefF K mg "is_log_object" st_is_log_object)
    (D_check_log : DefF K mg "check_log" st_check_log)
    (D_speaker_of : DefF K mg "speaker_of" st_speaker_of)
    (D__law_purse : DefF K mg "_law_purse" st__law_purse)
    (D__law_mixed : DefF K mg "_law_mixed" st__law_mixed)
    (D__law_draw : DefF K mg "_law_draw" st__law_draw)
    (D__law_one_of : DefF K mg "_law_one_of" st__law_one_of)
    (D__law_plain : DefF K mg "_law_plain" st__law_plain)
    (D__law_same : DefF K mg "_law_same" st__law_same)
    (D__law_unit : DefF K mg "_law_unit" st__law_unit)
    (D__law_phrases : DefF K mg "_law_phrases" st__law_phrases)
    (D__law_dealt : DefF K mg "_law_dealt" st__law_dealt)
    (D__law_one_cut : DefF K mg "_law_one_cut" st__law_one_cut)
    (D__law_row : DefF K mg "_law_row" st__law_row)
    (D__law_talk : DefF K mg "_law_talk" st__law_talk)
    (D__law_cut_right : DefF K mg "_law_cut_right" st__law_cut_right)
    (D__law_crowd_right : DefF K mg "_law_crowd_right" st__law_crowd_right)
    (D__law_keys_right : DefF K mg "_law_keys_right" st__law_keys_right)
    (D__law_log_back_right : DefF K mg "_law_log_back_right" st__law_log_back_right)
    (D_law : DefF K mg "law" st_law)
    (z_isinstance : PySem.W.nsIn K mainGlobals "isinstance" = some none)
    (z_bool : PySem.W.nsIn K mainGlobals "bool" = some none)
    (z_int : PySem.W.nsIn K mainGlobals "int" = some none)
    (z_max : PySem.W.nsIn K mainGlobals "max" = some none)
    (z_all : PySem.W.nsIn K mainGlobals "all" = some none)
    (z_str : PySem.W.nsIn K mainGlobals "str" = some none)
    (z_len : PySem.W.nsIn K mainGlobals "len" = some none)
    (z_tuple : PySem.W.nsIn K mainGlobals "tuple" = some none)
    (z_list : PySem.W.nsIn K mainGlobals "list" = some none)
    (z_dict : PySem.W.nsIn K mainGlobals "dict" = some none)
    (z_range : PySem.W.nsIn K mainGlobals "range" = some none)
    (z_sum : PySem.W.nsIn K mainGlobals "sum" = some none)
    (z_zip : PySem.W.nsIn K mainGlobals "zip" = some none)
    (z_min : PySem.W.nsIn K mainGlobals "min" = some none)
    (z_enumerate : PySem.W.nsIn K mainGlobals "enumerate" = some none)
    (a_ReadingError : PySem.W.nsIn K mainGlobals "ReadingError" = some (some (.ref eReadingError)))
    (a_InvalidCount : PySem.W.nsIn K mainGlobals "InvalidCount" = some (some (.ref eInvalidCount)))
    (a_InvalidUtterance : PySem.W.nsIn K mainGlobals "InvalidUtterance" = some (some (.ref eInvalidUtterance)))
    (a_InvalidTag : PySem.W.nsIn K mainGlobals "InvalidTag" = some (some (.ref eInvalidTag)))
    (a_InvalidLog : PySem.W.nsIn K mainGlobals "InvalidLog" = some (some (.ref eInvalidLog)))
    (a_Speaker : PySem.W.nsIn K mainGlobals "Speaker" = some (some (.ref eSpeaker)))
    (pg_Speaker : PySem.W.plainGet K eSpeaker Str.empty = true)
    (hd_Speaker : PySem.W.hasDictIn K eSpeaker = true)
    (po_Speaker : PySem.W.plainOver K eSpeaker = true)
    (sa_Speaker : PySem.W.findIn K (.ref eSpeaker) "__setattr__" = some (some (.builtin "object.__setattr__")))
    (mk_Speaker : PySem.W.makesIn K eSpeaker = true)
    (kc_Speaker : PySem.W.keepIn K (.ref eSpeaker) = true)
    (na_state : PySem.W.findIn K (.ref eSpeaker) "state" = some none)
    (na_deeds : PySem.W.findIn K (.ref eSpeaker) "deeds" = some none)
    (na_heard_units : PySem.W.findIn K (.ref eSpeaker) "heard_units" = some none)
    (na_passed_phrases : PySem.W.findIn K (.ref eSpeaker) "passed_phrases" = some none)
    (D_Speaker___init__ : MthF K eSpeaker "__init__" "Speaker.__init__" st_Speaker___init__)
    (D_Speaker_done : MthF K eSpeaker "done" "Speaker.done" st_Speaker_done)
    (D_Speaker_say : MthF K eSpeaker "say" "Speaker.say" st_Speaker_say)
    (D_Speaker_tick : MthF K eSpeaker "tick" "Speaker.tick" st_Speaker_tick)
    (D_Speaker_hold : MthF K eSpeaker "hold" "Speaker.hold" st_Speaker_hold)
    (D_Speaker_go_on : MthF K eSpeaker "go_on" "Speaker.go_on" st_Speaker_go_on)
    (D_Speaker_said : MthF K eSpeaker "said" "Speaker.said" st_Speaker_said)
    (D_Speaker_waiting : MthF K eSpeaker "waiting" "Speaker.waiting" st_Speaker_waiting)
    (D_Speaker_heard : MthF K eSpeaker "heard" "Speaker.heard" st_Speaker_heard)
    (D_Speaker_passed : MthF K eSpeaker "passed" "Speaker.passed" st_Speaker_passed)
    (D_Speaker_log : MthF K eSpeaker "log" "Speaker.log" st_Speaker_log)
    (E_InvalidCount : ∀ P w base, ErrK P w K mg base "InvalidCount" eInvalidCount)
    (E_InvalidUtterance : ∀ P w base, ErrK P w K mg base "InvalidUtterance" eInvalidUtterance)
    (E_InvalidTag : ∀ P w base, ErrK P w K mg base "InvalidTag" eInvalidTag)
    (E_InvalidLog : ∀ P w base, ErrK P w K mg base "InvalidLog" eInvalidLog)
    (a_EMPTY : PySem.W.nsIn K mainGlobals "EMPTY" = some (some (.ref cEMPTY)))
    (l_EMPTY_1 : K.lookup cEMPTY_1 = some oEMPTY_1) (y_EMPTY_1 : oEMPTY_1.cls = .type "tuple") (j_EMPTY_1 : oEMPTY_1.data = .seq itsEMPTY_1 nEMPTY_1) (w_EMPTY_1 : itsEMPTY_1.size ≤ sizeLine) (q_EMPTY_1 : Vals [] itsEMPTY_1.toList)
    (l_EMPTY : K.lookup cEMPTY = some oEMPTY) (y_EMPTY : oEMPTY.cls = .type "tuple") (j_EMPTY : oEMPTY.data = .seq itsEMPTY nEMPTY) (w_EMPTY : itsEMPTY.size ≤ sizeLine) (q_EMPTY : Vals [.non, .ref cEMPTY_1, .bl false, .bl false] itsEMPTY.toList) :
    ∃ fd : FuncData, (∀ (s : Shared) (u : Value), BindsTo s fd ⟨[u], []⟩ [("script", u)]) ∧ ∀ base : Heap, K.In base → base.Ns mainGlobals mg → FnOk P w K mg base (L2.CX P w) 12 fa fd ["script"] (spLaw K) := by
  obtain ⟨f_Speaker___init__, fd_Speaker___init__, F_Speaker___init__, M_Speaker___init__⟩ := D_Speaker___init__
  have B_Speaker___init__ := F_Speaker___init__.binds (ps := ["self"]) fun _ _ _ _ _ _ us hl => match us, hl with | [_], _ => rfl
  obtain ⟨f_Speaker_done, fd_Speaker_done, F_Speaker_done, M_Speaker_done⟩ := D_Speaker_done
  have B_Speaker_done := F_Speaker_done.binds (ps := ["self", "deed"]) fun _ _ _ _ _ _ us hl => match us, hl with | [_, _], _ => rfl
  obtain ⟨f_Speaker_say, fd_Speaker_say, F_Speaker_say, M_Speaker_say⟩ := D_Speaker_say
  have B_Speaker_say := F_Speaker_say.binds (ps := ["self", "utterance"]) fun _ _ _ _ _ _ us hl => match us, hl with | [_, _], _ => rfl
  obtain ⟨f_Speaker_tick, fd_Speaker_tick, F_Speaker_tick, M_Speaker_tick⟩ := D_Speaker_tick
  have B_Speaker_tick := F_Speaker_tick.binds (ps := ["self", "many"]) fun _ _ _ _ _ _ us hl => match us, hl with | [_, _], _ => rfl
  obtain ⟨f_Speaker_hold, fd_Speaker_hold, F_Speaker_hold, M_Speaker_hold⟩ := D_Speaker_hold
  have B_Speaker_hold := F_Speaker_hold.binds (ps := ["self"]) fun _ _ _ _ _ _ us hl => match us, hl with | [_], _ => rfl
  obtain ⟨f_Speaker_go_on, fd_Speaker_go_on, F_Speaker_go_on, M_Speaker_go_on⟩ := D_Speaker_go_on
  have B_Speaker_go_on := F_Speaker_go_on.binds (ps := ["self"]) fun _ _ _ _ _ _ us hl => match us, hl with | [_], _ => rfl
  obtain ⟨f_Speaker_said, fd_Speaker_said, F_Speaker_said, M_Speaker_said⟩ := D_Speaker_said
  have B_Speaker_said := F_Speaker_said.binds (ps := ["self"]) fun _ _ _ _ _ _ us hl => match us, hl with | [_], _ => rfl
  obtain ⟨f_Speaker_waiting, fd_Speaker_waiting, F_Speaker_waiting, M_Speaker_waiting⟩ := D_Speaker_waiting
  have B_Speaker_waiting := F_Speaker_waiting.binds (ps := ["self"]) fun _ _ _ _ _ _ us hl => match us, hl with | [_], _ => rfl
  obtain ⟨f_Speaker_heard, fd_Speaker_heard, F_Speaker_heard, M_Speaker_heard⟩ := D_Speaker_heard
  have B_Speaker_heard := F_Speaker_heard.binds (ps := ["self"]) fun _ _ _ _ _ _ us hl => match us, hl with | [_], _ => rfl
  obtain ⟨f_Speaker_passed, fd_Speaker_passed, F_Speaker_passed, M_Speaker_passed⟩ := D_Speaker_passed
  have B_Speaker_passed := F_Speaker_passed.binds (ps := ["self"]) fun _ _ _ _ _ _ us hl => match us, hl with | [_], _ => rfl
  obtain ⟨f_Speaker_log, fd_Speaker_log, F_Speaker_log, M_Speaker_log⟩ := D_Speaker_log
  have B_Speaker_log := F_Speaker_log.binds (ps := ["self"]) fun _ _ _ _ _ _ us hl => match us, hl with | [_], _ => rfl
  obtain ⟨f_is_whole, fd_is_whole, F_is_whole, m_is_whole, k_is_whole⟩ := D_is_whole
  have b_is_whole := F_is_whole.binds (ps := ["value"]) fun _ _ _ _ _ _ us hl => match us, hl with | [_], _ => rfl
  obtain ⟨f_is_count, fd_is_count, F_is_count, m_is_count, k_is_count⟩ := D_is_count
  obtain ⟨f_is_text, fd_is_text, F_is_text, m_is_text, k_is_text⟩ := D_is_text
  have b_is_text := F_is_text.binds (ps := ["value"]) fun _ _ _ _ _ _ us hl => match us, hl with | [_], _ => rfl
  obtain ⟨f_is_tuple_of, fd_is_tuple_of, F_is_tuple_of, m_is_tuple_of, k_is_tuple_of⟩ := D_is_tuple_of
  have b_is_tuple_of := F_is_tuple_of.binds (ps := ["value", "size"]) fun _ _ _ _ _ _ us hl => match us, hl with | [_, _], _ => rfl
  obtain ⟨f_is_said, fd_is_said, F_is_said, m_is_said, k_is_said⟩ := D_is_said
  have b_is_said := F_is_said.binds (ps := ["value", "word", "size"]) fun _ _ _ _ _ _ us hl => match us, hl with | [_, _, _], _ => rfl
  obtain ⟨f_copied, fd_copied, F_copied, m_copied, k_copied⟩ := D_copied
  have b_copied := F_copied.binds (ps := ["thing"]) fun _ _ _ _ _ _ us hl => match us, hl with | [_], _ => rfl
  obtain ⟨f_is_tag, fd_is_tag, F_is_tag, m_is_tag, k_is_tag⟩ := D_is_tag
  have b_is_tag := F_is_tag.binds (ps := ["value"]) fun _ _ _ _ _ _ us hl => match us, hl with | [_], _ => rfl
  obtain ⟨f_is_phrase, fd_is_phrase, F_is_phrase, m_is_phrase, k_is_phrase⟩ := D_is_phrase
  have b_is_phrase := F_is_phrase.binds (ps := ["value"]) fun _ _ _ _ _ _ us hl => match us, hl with | [_], _ => rfl
  obtain ⟨f_is_utterance_object, fd_is_utterance_object, F_is_utterance_object, m_is_utterance_object, k_is_utterance_object⟩ := D_is_utterance_object
  have b_is_utterance_object := F_is_utterance_object.binds (ps := ["value"]) fun _ _ _ _ _ _ us hl => match us, hl with | [_], _ => rfl
  obtain ⟨f_is_deed, fd_is_deed, F_is_deed, m_is_deed, k_is_deed⟩ := D_is_deed
  have b_is_deed := F_is_deed.binds (ps := ["value"]) fun _ _ _ _ _ _ us hl => match us, hl with | [_], _ => rfl
  obtain ⟨f_utterance_of, fd_utterance_of, F_utterance_of, m_utterance_of, k_utterance_of⟩ := D_utterance_of
  have b_utterance_of := F_utterance_of.binds (ps := ["thing"]) fun _ _ _ _ _ _ us hl => match us, hl with | [_], _ => rfl
  obtain ⟨f_standing, fd_standing, F_standing, m_standing, k_standing⟩ := D_standing
  have b_standing := F_standing.binds (ps := ["state"]) fun _ _ _ _ _ _ us hl => match us, hl with | [_], _ => rfl
  obtain ⟨f_put_in, fd_put_in, F_put_in, m_put_in, k_put_in⟩ := D_put_in
  have b_put_in := F_put_in.binds (ps := ["waiting", "thing", "is_cut"]) fun _ _ _ _ _ _ us hl => match us, hl with | [_, _, _], _ => rfl
  obtain ⟨f_cut_off, fd_cut_off, F_cut_off, m_cut_off, k_cut_off⟩ := D_cut_off
  have b_cut_off := F_cut_off.binds (ps := ["state", "happened"]) fun _ _ _ _ _ _ us hl => match us, hl with | [_, _], _ => rfl
  obtain ⟨f_cleared, fd_cleared, F_cleared, m_cleared, k_cleared⟩ := D_cleared
  have b_cleared := F_cleared.binds (ps := ["state", "ranks", "tag", "happened"]) fun _ _ _ _ _ _ us hl => match us, hl with | [_, _, _, _], _ => rfl
  obtain ⟨f_after_say, fd_after_say, F_after_say, m_after_say, k_after_say⟩ := D_after_say
  have b_after_say := F_after_say.binds (ps := ["state", "say", "utterance", "happened"]) fun _ _ _ _ _ _ us hl => match us, hl with | [_, _, _, _], _ => rfl
  obtain ⟨f_after_tick, fd_after_tick, F_after_tick, m_after_tick, k_after_tick⟩ := D_after_tick
  have b_after_tick := F_after_tick.binds (ps := ["state", "happened"]) fun _ _ _ _ _ _ us hl => match us, hl with | [_, _], _ => rfl
  obtain ⟨f_after_ticks, fd_after_ticks, F_after_ticks, m_after_ticks, k_after_ticks⟩ := D_after_ticks
  have b_after_ticks := F_after_ticks.binds (ps := ["state", "many", "happened"]) fun _ _ _ _ _ _ us hl => match us, hl with | [_, _, _], _ => rfl
  obtain ⟨f_after_deed, fd_after_deed, F_after_deed, m_after_deed, k_after_deed⟩ := D_after_deed
  have b_after_deed := F_after_deed.binds (ps := ["state", "say", "deed", "happened"]) fun _ _ _ _ _ _ us hl => match us, hl with | [_, _, _, _], _ => rfl
  obtain ⟨f_is_log_object, fd_is_log_object, F_is_log_object, m_is_log_object, k_is_log_object⟩ := D_is_log_object
  have b_is_log_object := F_is_log_object.binds (ps := ["value"]) fun _ _ _ _ _ _ us hl => match us, hl with | [_], _ => rfl
  obtain ⟨f_check_log, fd_check_log, F_check_log, m_check_log, k_check_log⟩ := D_check_log
  have b_check_log := F_check_log.binds (ps := ["log"]) fun _ _ _ _ _ _ us hl => match us, hl with | [_], _ => rfl
  obtain ⟨f_speaker_of, fd_speaker_of, F_speaker_of, m_speaker_of, k_speaker_of⟩ := D_speaker_of
  have b_speaker_of := F_speaker_of.binds (ps := ["log"]) fun _ _ _ _ _ _ us hl => match us, hl with | [_], _ => rfl
  obtain ⟨f__law_purse, fd__law_purse, F__law_purse, m__law_purse, k__law_purse⟩ := D__law_purse
  have b__law_purse := F__law_purse.binds (ps := ["script", "at"]) fun _ _ _ _ _ _ us hl => match us, hl with | [_, _], _ => rfl
  obtain ⟨f__law_mixed, fd__law_mixed, F__law_mixed, m__law_mixed, k__law_mixed⟩ := D__law_mixed
  have b__law_mixed := F__law_mixed.binds (ps := ["seed", "spin", "at"]) fun _ _ _ _ _ _ us hl => match us, hl with | [_, _, _], _ => rfl
  obtain ⟨f__law_draw, fd__law_draw, F__law_draw, m__law_draw, k__law_draw⟩ := D__law_draw
  have b__law_draw := F__law_draw.binds (ps := ["purse", "many"]) fun _ _ _ _ _ _ us hl => match us, hl with | [_, _], _ => rfl
  obtain ⟨f__law_one_of, fd__law_one_of, F__law_one_of, m__law_one_of, k__law_one_of⟩ := D__law_one_of
  have b__law_one_of := F__law_one_of.binds (ps := ["purse", "some"]) fun _ _ _ _ _ _ us hl => match us, hl with | [_, _], _ => rfl
  obtain ⟨f__law_plain, fd__law_plain, F__law_plain, m__law_plain, k__law_plain⟩ := D__law_plain
  have b__law_plain := F__law_plain.binds (ps := ["thing"]) fun _ _ _ _ _ _ us hl => match us, hl with | [_], _ => rfl
  obtain ⟨f__law_same, fd__law_same, F__law_same, m__law_same, k__law_same⟩ := D__law_same
  have b__law_same := F__law_same.binds (ps := ["told", "due"]) fun _ _ _ _ _ _ us hl => match us, hl with | [_, _], _ => rfl
  obtain ⟨f__law_unit, fd__law_unit, F__law_unit, m__law_unit, k__law_unit⟩ := D__law_unit
  have b__law_unit := F__law_unit.binds (ps := ["purse", "units"]) fun _ _ _ _ _ _ us hl => match us, hl with | [_, _], _ => rfl
  obtain ⟨f__law_phrases, fd__law_phrases, F__law_phrases, m__law_phrases, k__law_phrases⟩ := D__law_phrases
  have b__law_phrases := F__law_phrases.binds (ps := ["purse", "units", "many", "most"]) fun _ _ _ _ _ _ us hl => match us, hl with | [_, _, _, _], _ => rfl
  obtain ⟨f__law_dealt, fd__law_dealt, F__law_dealt, m__law_dealt, k__law_dealt⟩ := D__law_dealt
  have b__law_dealt := F__law_dealt.binds (ps := ["purse", "speaker", "many", "is_whole_v"]) fun _ _ _ _ _ _ us hl => match us, hl with | [_, _, _, _], _ => rfl
  obtain ⟨f__law_one_cut, fd__law_one_cut, F__law_one_cut, m__law_one_cut, k__law_one_cut⟩ := D__law_one_cut
  have b__law_one_cut := F__law_one_cut.binds (ps := ["purse", "speaker", "way"]) fun _ _ _ _ _ _ us hl => match us, hl with | [_, _, _], _ => rfl
  obtain ⟨f__law_row, fd__law_row, F__law_row, m__law_row, k__law_row⟩ := D__law_row
  have b__law_row := F__law_row.binds (ps := ["tag", "units"]) fun _ _ _ _ _ _ us hl => match us, hl with | [_, _], _ => rfl
  obtain ⟨f__law_talk, fd__law_talk, F__law_talk, m__law_talk, k__law_talk⟩ := D__law_talk
  have b__law_talk := F__law_talk.binds (ps := ["purse"]) fun _ _ _ _ _ _ us hl => match us, hl with | [_], _ => rfl
  obtain ⟨f__law_cut_right, fd__law_cut_right, F__law_cut_right, m__law_cut_right, k__law_cut_right⟩ := D__law_cut_right
  have b__law_cut_right := F__law_cut_right.binds (ps := ["purse"]) fun _ _ _ _ _ _ us hl => match us, hl with | [_], _ => rfl
  obtain ⟨f__law_crowd_right, fd__law_crowd_right, F__law_crowd_right, m__law_crowd_right, k__law_crowd_right⟩ := D__law_crowd_right
  have b__law_crowd_right := F__law_crowd_right.binds (ps := ["purse"]) fun _ _ _ _ _ _ us hl => match us, hl with | [_], _ => rfl
  obtain ⟨f__law_keys_right, fd__law_keys_right, F__law_keys_right, m__law_keys_right, k__law_keys_right⟩ := D__law_keys_right
  have b__law_keys_right := F__law_keys_right.binds (ps := ["purse"]) fun _ _ _ _ _ _ us hl => match us, hl with | [_], _ => rfl
  obtain ⟨f__law_log_back_right, fd__law_log_back_right, F__law_log_back_right, m__law_log_back_right, k__law_log_back_right⟩ := D__law_log_back_right
  have b__law_log_back_right := F__law_log_back_right.binds (ps := ["purse"]) fun _ _ _ _ _ _ us hl => match us, hl with | [_], _ => rfl
  obtain ⟨f_law, fd_law, F_law, m_law, k_law⟩ := D_law
  have b_law := F_law.binds (ps := ["script"]) fun _ _ _ _ _ _ us hl => match us, hl with | [_], _ => rfl
  have TT : ∀ base, Tx P w K mg base ⟨eReadingError, eInvalidCount, eInvalidUtterance, eInvalidTag, eInvalidLog, eSpeaker, cEMPTY_1, cEMPTY⟩ := fun base => { b_isinstance := PySem.W.mg_none_of X G z_isinstance, b_bool := PySem.W.mg_none_of X G z_bool, b_int := PySem.W.mg_none_of X G z_int, b_max := PySem.W.mg_none_of X G z_max, b_all := PySem.W.mg_none_of X G z_all, b_str := PySem.W.mg_none_of X G z_str, b_len := PySem.W.mg_none_of X G z_len, b_tuple := PySem.W.mg_none_of X G z_tuple, b_list := PySem.W.mg_none_of X G z_list, b_dict := PySem.W.mg_none_of X G z_dict, b_range := PySem.W.mg_none_of X G z_range, b_sum := PySem.W.mg_none_of X G z_sum, b_zip := PySem.W.mg_none_of X G z_zip, b_min := PySem.W.mg_none_of X G z_min, b_enumerate := PySem.W.mg_none_of X G z_enumerate, g_ReadingError := PySem.W.mg_of X G a_ReadingError, g_InvalidCount := PySem.W.mg_of X G a_InvalidCount, g_InvalidUtterance := PySem.W.mg_of X G a_InvalidUtterance, g_InvalidTag := PySem.W.mg_of X G a_InvalidTag, g_InvalidLog := PySem.W.mg_of X G a_InvalidLog, g_Speaker := PySem.W.mg_of X G a_Speaker, na_state := na_state, na_deeds := na_deeds, na_heard_units := na_heard_units, na_passed_phrases := na_passed_phrases, cl_Speaker := ⟨pg_Speaker, hd_Speaker, po_Speaker, sa_Speaker⟩, e_InvalidCount := E_InvalidCount _ _ base, e_InvalidUtterance := E_InvalidUtterance _ _ base, e_InvalidTag := E_InvalidTag _ _ base, e_InvalidLog := E_InvalidLog _ _ base, g_EMPTY := PySem.W.mg_of X G a_EMPTY, t_EMPTY_1 := ⟨_, _, _, l_EMPTY_1, y_EMPTY_1, j_EMPTY_1, w_EMPTY_1, q_EMPTY_1⟩, t_EMPTY := ⟨_, _, _, l_EMPTY, y_EMPTY, j_EMPTY, w_EMPTY, q_EMPTY⟩ }
  have ef := m_law.symm.trans hfa
  cases ef
  refine ⟨fd_law, ?_, fun base _ _ => ?_⟩
  · obtain ⟨oc, od, kV, doc, pm, an, cdv, ct, osl, rfl, lk, hcd⟩ := F_law.ex
    exact fun s u => .of_eq rfl
  have T := TT base
  obtain ⟨ds2, hv2, b_is_count⟩ := F_is_count.binds1 (ps := ["value", "least"]) 2 1 (by simp) rfl (fun _ _ _ _ _ _ _ us its h1 h2 => match us, its, h1, h2 with | [_, _], [_], _, _ => ⟨_, rfl, rfl⟩)
  cases hv2
  have c__law_mixed : CalX P w K mg base 1 "_law_mixed" ["seed", "spin", "at"] _ := ⟨_, _, ok_mixed F__law_mixed T , m__law_mixed, k__law_mixed, b__law_mixed⟩
  have c__law_draw : CalX P w K mg base 2 "_law_draw" ["purse", "many"] _ := ⟨_, _, ok_draw F__law_draw T c__law_mixed, m__law_draw, k__law_draw, b__law_draw⟩
  have c_is_whole : CalX P w K mg base 1 "is_whole" ["value"] _ := ⟨_, _, ok_is_whole F_is_whole T , m_is_whole, k_is_whole, b_is_whole⟩
  have c_is_text : CalX P w K mg base 1 "is_text" ["value"] _ := ⟨_, _, ok_is_text F_is_text T , m_is_text, k_is_text, b_is_text⟩
  have c_is_tuple_of : CalX P w K mg base 1 "is_tuple_of" ["value", "size"] _ := ⟨_, _, ok_is_tuple_of F_is_tuple_of T , m_is_tuple_of, k_is_tuple_of, b_is_tuple_of⟩
  have c_is_count : CalX P w K mg base 2 "is_count" ["value", "least"] _ := ⟨_, _, ok_is_count F_is_count T c_is_whole, m_is_count, k_is_count, b_is_count⟩
  have c_is_said : CalX P w K mg base 2 "is_said" ["value", "word", "size"] _ := ⟨_, _, ok_is_said F_is_said T c_is_tuple_of, m_is_said, k_is_said, b_is_said⟩
  have c_is_tag : CalX P w K mg base 2 "is_tag" ["value"] _ := ⟨_, _, ok_is_tag F_is_tag T c_is_text, m_is_tag, k_is_tag, b_is_tag⟩
  have c_is_phrase : CalX P w K mg base 3 "is_phrase" ["value"] _ := ⟨_, _, ok_is_phrase F_is_phrase T c_is_tag, m_is_phrase, k_is_phrase, b_is_phrase⟩
  have c_is_utterance_object : CalX P w K mg base 4 "is_utterance_object" ["value"] _ := ⟨_, _, ok_is_utt F_is_utterance_object T c_is_tuple_of c_is_whole c_is_phrase c_is_tag, m_is_utterance_object, k_is_utterance_object, b_is_utterance_object⟩
  have c_is_deed : CalX P w K mg base 5 "is_deed" ["value"] _ := ⟨_, _, ok_is_deed F_is_deed T c_is_said c_is_utterance_object c_is_count c_is_tag, m_is_deed, k_is_deed, b_is_deed⟩
  have c_is_log_object : CalX P w K mg base 6 "is_log_object" ["value"] _ := ⟨_, _, ok_is_log F_is_log_object T c_is_deed, m_is_log_object, k_is_log_object, b_is_log_object⟩
  have c_standing : CalX P w K mg base 1 "standing" ["state"] _ := ⟨_, _, ok_standing F_standing T , m_standing, k_standing, b_standing⟩
  have c_put_in : CalX P w K mg base 1 "put_in" ["waiting", "thing", "is_cut"] _ := ⟨_, _, ok_put_in F_put_in T , m_put_in, k_put_in, b_put_in⟩
  have c_cut_off : CalX P w K mg base 2 "cut_off" ["state", "happened"] _ := ⟨_, _, ok_cut_off F_cut_off T c_put_in, m_cut_off, k_cut_off, b_cut_off⟩
  have c_cleared : CalX P w K mg base 2 "cleared" ["state", "ranks", "tag", "happened"] _ := ⟨_, _, ok_cleared F_cleared T c_standing, m_cleared, k_cleared, b_cleared⟩
  have c_after_say : CalX P w K mg base 3 "after_say" ["state", "say", "utterance", "happened"] _ := ⟨_, _, ok_after_say F_after_say T c_cut_off c_cleared c_put_in, m_after_say, k_after_say, b_after_say⟩
  have c_after_tick : CalX P w K mg base 1 "after_tick" ["state", "happened"] _ := ⟨_, _, ok_after_tick F_after_tick T , m_after_tick, k_after_tick, b_after_tick⟩
  have c_after_ticks : CalX P w K mg base 2 "after_ticks" ["state", "many", "happened"] _ := ⟨_, _, ok_after_ticks F_after_ticks T c_after_tick, m_after_ticks, k_after_ticks, b_after_ticks⟩
  have c_after_deed : CalX P w K mg base 4 "after_deed" ["state", "say", "deed", "happened"] _ := ⟨_, _, ok_after_deed F_after_deed T c_after_say c_after_ticks c_cut_off c_cleared, m_after_deed, k_after_deed, b_after_deed⟩
  have c__law_plain : CalX P w K mg base 9 "_law_plain" ["thing"] _ := ⟨_, _, ok_plain F__law_plain T m__law_plain k__law_plain b__law_plain 8, m__law_plain, k__law_plain, b__law_plain⟩
  have c__law_same : CalX P w K mg base 9 "_law_same" ["told", "due"] _ := ⟨_, _, ok_same F__law_same T m__law_same k__law_same b__law_same 8, m__law_same, k__law_same, b__law_same⟩
  have c_copied : CalX P w K mg base 7 "copied" ["thing"] _ := ⟨_, _, ok_copied F_copied T m_copied k_copied b_copied 6, m_copied, k_copied, b_copied⟩
  have i_Speaker : CalI P w K mg base 1 "Speaker" eSpeaker ["self"] _ := ⟨_, _, ok_init F_Speaker___init__ T , ⟨mk_Speaker, M_Speaker___init__.at_, M_Speaker___init__.fn, kc_Speaker⟩, T.g_Speaker, B_Speaker___init__⟩
  have m_done : CalM P w K mg base 8 eSpeaker "done" ["self", "deed"] _ := ⟨T.cl_Speaker, _, _, ok_done F_Speaker_done T c_after_deed c_copied, M_Speaker_done, B_Speaker_done⟩
  have m_say : CalM P w K mg base 9 eSpeaker "say" ["self", "utterance"] _ := ⟨T.cl_Speaker, _, _, ok_say F_Speaker_say T c_is_utterance_object m_done, M_Speaker_say, B_Speaker_say⟩
  have m_tick : CalM P w K mg base 9 eSpeaker "tick" ["self", "many"] _ := ⟨T.cl_Speaker, _, _, ok_tickM F_Speaker_tick T c_is_count m_done, M_Speaker_tick, B_Speaker_tick⟩
  have m_hold : CalM P w K mg base 9 eSpeaker "hold" ["self"] _ := ⟨T.cl_Speaker, _, _, ok_hold F_Speaker_hold T m_done, M_Speaker_hold, B_Speaker_hold⟩
  have m_go_on : CalM P w K mg base 9 eSpeaker "go_on" ["self"] _ := ⟨T.cl_Speaker, _, _, ok_go F_Speaker_go_on T m_done, M_Speaker_go_on, B_Speaker_go_on⟩
  have c_utterance_of : CalX P w K mg base 1 "utterance_of" ["thing"] _ := ⟨_, _, ok_utterance_of F_utterance_of T , m_utterance_of, k_utterance_of, b_utterance_of⟩
  have m_heard : CalM P w K mg base 1 eSpeaker "heard" ["self"] _ := ⟨T.cl_Speaker, _, _, ok_heardM F_Speaker_heard T , M_Speaker_heard, B_Speaker_heard⟩
  have m_passed : CalM P w K mg base 1 eSpeaker "passed" ["self"] _ := ⟨T.cl_Speaker, _, _, ok_passedM F_Speaker_passed T , M_Speaker_passed, B_Speaker_passed⟩
  have m_said : CalM P w K mg base 2 eSpeaker "said" ["self"] _ := ⟨T.cl_Speaker, _, _, ok_saidM F_Speaker_said T c_utterance_of, M_Speaker_said, B_Speaker_said⟩
  have m_waiting : CalM P w K mg base 2 eSpeaker "waiting" ["self"] _ := ⟨T.cl_Speaker, _, _, ok_waitingM F_Speaker_waiting T c_utterance_of, M_Speaker_waiting, B_Speaker_waiting⟩
  have c2_copied : CalX P w K mg base 8 "copied" ["thing"] _ := ⟨_, _, ok_copiedO F_copied T c_copied, m_copied, k_copied, b_copied⟩
  have m_log : CalM P w K mg base 9 eSpeaker "log" ["self"] _ := ⟨T.cl_Speaker, _, _, ok_logM F_Speaker_log T c2_copied, M_Speaker_log, B_Speaker_log⟩
  have c_check_log : CalX P w K mg base 7 "check_log" ["log"] _ := ⟨_, _, ok_check_log F_check_log T c_is_log_object, m_check_log, k_check_log, b_check_log⟩
  have c_speaker_of : CalX P w K mg base 9 "speaker_of" ["log"] _ := ⟨_, _, ok_speaker_of F_speaker_of T c_check_log i_Speaker m_done, m_speaker_of, k_speaker_of, b_speaker_of⟩
  have c__law_purse : CalX P w K mg base 1 "_law_purse" ["script", "at"] _ := ⟨_, _, ok_purse F__law_purse T , m__law_purse, k__law_purse, b__law_purse⟩
  have c__law_one_of : CalX P w K mg base 3 "_law_one_of" ["purse", "some"] _ := ⟨_, _, ok_one_of F__law_one_of T c__law_draw, m__law_one_of, k__law_one_of, b__law_one_of⟩
  have c__law_unit : CalX P w K mg base 4 "_law_unit" ["purse", "units"] _ := ⟨_, _, ok_unit F__law_unit T c__law_draw c__law_one_of, m__law_unit, k__law_unit, b__law_unit⟩
  have c__law_phrases : CalX P w K mg base 5 "_law_phrases" ["purse", "units", "many", "most"] _ := ⟨_, _, ok_phrases F__law_phrases T c__law_draw c__law_one_of c__law_unit, m__law_phrases, k__law_phrases, b__law_phrases⟩
  have c__law_dealt : CalX P w K mg base 10 "_law_dealt" ["purse", "speaker", "many", "is_whole_v"] _ := ⟨_, _, ok_dealt F__law_dealt T c__law_draw m_tick, m__law_dealt, k__law_dealt, b__law_dealt⟩
  have c__law_row : CalX P w K mg base 1 "_law_row" ["tag", "units"] _ := ⟨_, _, ok_row F__law_row T , m__law_row, k__law_row, b__law_row⟩
  have c__law_one_cut : CalX P w K mg base 10 "_law_one_cut" ["purse", "speaker", "way"] _ := ⟨_, _, ok_one_cut F__law_one_cut T c__law_draw m_tick m_say m_hold m_go_on, m__law_one_cut, k__law_one_cut, b__law_one_cut⟩
  have c__law_log_back_right : CalX P w K mg base 10 "_law_log_back_right" ["purse"] _ := ⟨_, _, ok_log_back F__law_log_back_right T c__law_draw i_Speaker m_say m_tick m_log m_heard c_speaker_of c__law_same, m__law_log_back_right, k__law_log_back_right, b__law_log_back_right⟩
  have c__law_talk : CalX P w K mg base 6 "_law_talk" ["purse"] _ := ⟨_, _, ok_talk F__law_talk T c__law_draw c__law_one_of c__law_phrases, m__law_talk, k__law_talk, b__law_talk⟩
  have c__law_cut_right : CalX P w K mg base 11 "_law_cut_right" ["purse"] _ := ⟨_, _, ok_cut_right F__law_cut_right T c__law_talk c__law_draw c__law_one_of c__law_row c__law_dealt c__law_one_cut i_Speaker m_say m_said m_waiting m_heard m_passed c__law_same, m__law_cut_right, k__law_cut_right, b__law_cut_right⟩
  have c__law_crowd_right : CalX P w K mg base 11 "_law_crowd_right" ["purse"] _ := ⟨_, _, ok_crowd_right F__law_crowd_right T c__law_draw c__law_one_of c__law_phrases c__law_plain c__law_row c__law_dealt i_Speaker m_say m_waiting m_heard m_log m_passed c__law_same, m__law_crowd_right, k__law_crowd_right, b__law_crowd_right⟩
  have c__law_keys_right : CalX P w K mg base 11 "_law_keys_right" ["purse"] _ := ⟨_, _, ok_keys_right F__law_keys_right T c__law_draw c__law_phrases c__law_row c__law_dealt i_Speaker m_say m_tick m_said m_waiting c__law_same, m__law_keys_right, k__law_keys_right, b__law_keys_right⟩
  exact ok_law F_law T c__law_purse c__law_log_back_right c__law_cut_right c__law_crowd_right c__law_keys_right


end PA
open PySem PySem.W PyProof.Rows in
set_option maxRecDepth 100000 in
set_option maxHeartbeats 0 in
theorem PySem.Challenge.cw_heardandfelt_k37_whole_long_talks_holds : PySem.Challenge.rw_heardandfelt_k37_whole_long_talks.Holds := by
  w_on; o_law; k_head; (case hw => w_witness2)
  k_fill
  refine PA.walk (l := PySem.Challenge.rw_heardandfelt_k37_whole_long_talks) (k := 12) rfl rfl ⟨rfl, by decide, by decide⟩ (fun w h Y => PySem.W.kIn_of Y) ?F
  case F =>
    intro w mg fa h KX G hmg
    refine' PA.all_ok KX G hmg ?D_is_whole ?D_is_count ?D_is_text ?D_is_tuple_of ?D_is_said ?D_copied ?D_is_tag ?D_is_phrase ?D_is_utterance_object ?D_is_deed ?D_utterance_of ?D_standing ?D_put_in ?D_cut_off ?D_cleared ?D_after_say ?D_after_tick ?D_after_ticks ?D_after_deed ?D_is_log_object ?D_check_log ?D_speaker_of ?D__law_purse ?D__law_mixed ?D__law_draw ?D__law_one_of ?D__law_plain ?D__law_same ?D__law_unit ?D__law_phrases ?D__law_dealt ?D__law_one_cut ?D__law_row ?D__law_talk ?D__law_cut_right ?D__law_crowd_right ?D__law_keys_right ?D__law_log_back_right ?D_law ?z_isinstance ?z_bool ?z_int ?z_max ?z_all ?z_str ?z_len ?z_tuple ?z_list ?z_dict ?z_range ?z_sum ?z_zip ?z_min ?z_enumerate ?a_ReadingError ?a_InvalidCount ?a_InvalidUtterance ?a_InvalidTag ?a_InvalidLog ?a_Speaker ?pg_Speaker ?hd_Speaker ?po_Speaker ?sa_Speaker ?mk_Speaker ?kc_Speaker ?na_state ?na_deeds ?na_heard_units ?na_passed_phrases ?D_Speaker___init__ ?D_Speaker_done ?D_Speaker_say ?D_Speaker_tick ?D_Speaker_hold ?D_Speaker_go_on ?D_Speaker_said ?D_Speaker_waiting ?D_Speaker_heard ?D_Speaker_passed ?D_Speaker_log ?E_InvalidCount ?E_InvalidUtterance ?E_InvalidTag ?E_InvalidLog ?a_EMPTY ?l_EMPTY_1 ?y_EMPTY_1 ?j_EMPTY_1 ?w_EMPTY_1 ?q_EMPTY_1 ?l_EMPTY ?y_EMPTY ?j_EMPTY ?w_EMPTY ?q_EMPTY
    (case D_is_whole => refine' PA.def_mk KX G ?a ?l ?c ?k; (case a => k_is); (case l => k_is); (case c => k_is); (case k => k_is))
    (case D_is_count => refine' PA.defD_mk (its := [.int 0 _]) KX G ?a ?l ?c ?k ?lT ?dT ?rT ?hd; (case a => k_is); (case l => k_is); (case c => k_is); (case k => k_is); (case lT => k_is); (case dT => rfl); (case rT => exact .cons ⟨_, rfl⟩ .nil); (case hd => simp))
    (case D_is_text => refine' PA.def_mk KX G ?a ?l ?c ?k; (case a => k_is); (case l => k_is); (case c => k_is); (case k => k_is))
    (case D_is_tuple_of => refine' PA.def_mk KX G ?a ?l ?c ?k; (case a => k_is); (case l => k_is); (case c => k_is); (case k => k_is))
    (case D_is_said => refine' PA.def_mk KX G ?a ?l ?c ?k; (case a => k_is); (case l => k_is); (case c => k_is); (case k => k_is))
    (case D_copied => refine' PA.def_mk KX G ?a ?l ?c ?k; (case a => k_is); (case l => k_is); (case c => k_is); (case k => k_is))
    (case D_is_tag => refine' PA.def_mk KX G ?a ?l ?c ?k; (case a => k_is); (case l => k_is); (case c => k_is); (case k => k_is))
    (case D_is_phrase => refine' PA.def_mk KX G ?a ?l ?c ?k; (case a => k_is); (case l => k_is); (case c => k_is); (case k => k_is))
    (case D_is_utterance_object => refine' PA.def_mk KX G ?a ?l ?c ?k; (case a => k_is); (case l => k_is); (case c => k_is); (case k => k_is))
    (case D_is_deed => refine' PA.def_mk KX G ?a ?l ?c ?k; (case a => k_is); (case l => k_is); (case c => k_is); (case k => k_is))
    (case D_utterance_of => refine' PA.def_mk KX G ?a ?l ?c ?k; (case a => k_is); (case l => k_is); (case c => k_is); (case k => k_is))
    (case D_standing => refine' PA.def_mk KX G ?a ?l ?c ?k; (case a => k_is); (case l => k_is); (case c => k_is); (case k => k_is))
    (case D_put_in => refine' PA.def_mk KX G ?a ?l ?c ?k; (case a => k_is); (case l => k_is); (case c => k_is); (case k => k_is))
    (case D_cut_off => refine' PA.def_mk KX G ?a ?l ?c ?k; (case a => k_is); (case l => k_is); (case c => k_is); (case k => k_is))
    (case D_cleared => refine' PA.def_mk KX G ?a ?l ?c ?k; (case a => k_is); (case l => k_is); (case c => k_is); (case k => k_is))
    (case D_after_say => refine' PA.def_mk KX G ?a ?l ?c ?k; (case a => k_is); (case l => k_is); (case c => k_is); (case k => k_is))
    (case D_after_tick => refine' PA.def_mk KX G ?a ?l ?c ?k; (case a => k_is); (case l => k_is); (case c => k_is); (case k => k_is))
    (case D_after_ticks => refine' PA.def_mk KX G ?a ?l ?c ?k; (case a => k_is); (case l => k_is); (case c => k_is); (case k => k_is))
    (case D_after_deed => refine' PA.def_mk KX G ?a ?l ?c ?k; (case a => k_is); (case l => k_is); (case c => k_is); (case k => k_is))
    (case D_is_log_object => refine' PA.def_mk KX G ?a ?l ?c ?k; (case a => k_is); (case l => k_is); (case c => k_is); (case k => k_is))
    (case D_check_log => refine' PA.def_mk KX G ?a ?l ?c ?k; (case a => k_is); (case l => k_is); (case c => k_is); (case k => k_is))
    (case D_speaker_of => refine' PA.def_mk KX G ?a ?l ?c ?k; (case a => k_is); (case l => k_is); (case c => k_is); (case k => k_is))
    (case D__law_purse => refine' PA.def_mk KX G ?a ?l ?c ?k; (case a => k_is); (case l => k_is); (case c => k_is); (case k => k_is))
    (case D__law_mixed => refine' PA.def_mk KX G ?a ?l ?c ?k; (case a => k_is); (case l => k_is); (case c => k_is); (case k => k_is))
    (case D__law_draw => refine' PA.def_mk KX G ?a ?l ?c ?k; (case a => k_is); (case l => k_is); (case c => k_is); (case k => k_is))
    (case D__law_one_of => refine' PA.def_mk KX G ?a ?l ?c ?k; (case a => k_is); (case l => k_is); (case c => k_is); (case k => k_is))
    (case D__law_plain => refine' PA.def_mk KX G ?a ?l ?c ?k; (case a => k_is); (case l => k_is); (case c => k_is); (case k => k_is))
    (case D__law_same => refine' PA.def_mk KX G ?a ?l ?c ?k; (case a => k_is); (case l => k_is); (case c => k_is); (case k => k_is))
    (case D__law_unit => refine' PA.def_mk KX G ?a ?l ?c ?k; (case a => k_is); (case l => k_is); (case c => k_is); (case k => k_is))
    (case D__law_phrases => refine' PA.def_mk KX G ?a ?l ?c ?k; (case a => k_is); (case l => k_is); (case c => k_is); (case k => k_is))
    (case D__law_dealt => refine' PA.def_mk KX G ?a ?l ?c ?k; (case a => k_is); (case l => k_is); (case c => k_is); (case k => k_is))
    (case D__law_one_cut => refine' PA.def_mk KX G ?a ?l ?c ?k; (case a => k_is); (case l => k_is); (case c => k_is); (case k => k_is))
    (case D__law_row => refine' PA.def_mk KX G ?a ?l ?c ?k; (case a => k_is); (case l => k_is); (case c => k_is); (case k => k_is))
    (case D__law_talk => refine' PA.def_mk KX G ?a ?l ?c ?k; (case a => k_is); (case l => k_is); (case c => k_is); (case k => k_is))
    (case D__law_cut_right => refine' PA.def_mk KX G ?a ?l ?c ?k; (case a => k_is); (case l => k_is); (case c => k_is); (case k => k_is))
    (case D__law_crowd_right => refine' PA.def_mk KX G ?a ?l ?c ?k; (case a => k_is); (case l => k_is); (case c => k_is); (case k => k_is))
    (case D__law_keys_right => refine' PA.def_mk KX G ?a ?l ?c ?k; (case a => k_is); (case l => k_is); (case c => k_is); (case k => k_is))
    (case D__law_log_back_right => refine' PA.def_mk KX G ?a ?l ?c ?k; (case a => k_is); (case l => k_is); (case c => k_is); (case k => k_is))
    (case D_law => refine' PA.def_mk KX G ?a ?l ?c ?k; (case a => k_is); (case l => k_is); (case c => k_is); (case k => k_is))
    (case z_isinstance => k_is)
    (case z_bool => k_is)
    (case z_int => k_is)
    (case z_max => k_is)
    (case z_all => k_is)
    (case z_str => k_is)
    (case z_len => k_is)
    (case z_tuple => k_is)
    (case z_list => k_is)
    (case z_dict => k_is)
    (case z_range => k_is)
    (case z_sum => k_is)
    (case z_zip => k_is)
    (case z_min => k_is)
    (case z_enumerate => k_is)
    (case a_ReadingError => k_is)
    (case a_InvalidCount => k_is)
    (case a_InvalidUtterance => k_is)
    (case a_InvalidTag => k_is)
    (case a_InvalidLog => k_is)
    (case a_Speaker => k_is)
    (case pg_Speaker => k_is)
    (case hd_Speaker => k_is)
    (case po_Speaker => k_is)
    (case sa_Speaker => k_is)
    (case mk_Speaker => k_is)
    (case kc_Speaker => k_is)
    (case na_state => k_is)
    (case na_deeds => k_is)
    (case na_heard_units => k_is)
    (case na_passed_phrases => k_is)
    (case D_Speaker___init__ => refine' PA.mth_mk ?a ?i ?l ?c ?k; (case a => k_is); (case i => k_is); (case l => k_is); (case c => k_is); (case k => k_is))
    (case D_Speaker_done => refine' PA.mth_mk ?a ?i ?l ?c ?k; (case a => k_is); (case i => k_is); (case l => k_is); (case c => k_is); (case k => k_is))
    (case D_Speaker_say => refine' PA.mth_mk ?a ?i ?l ?c ?k; (case a => k_is); (case i => k_is); (case l => k_is); (case c => k_is); (case k => k_is))
    (case D_Speaker_tick => refine' PA.mth_mk ?a ?i ?l ?c ?k; (case a => k_is); (case i => k_is); (case l => k_is); (case c => k_is); (case k => k_is))
    (case D_Speaker_hold => refine' PA.mth_mk ?a ?i ?l ?c ?k; (case a => k_is); (case i => k_is); (case l => k_is); (case c => k_is); (case k => k_is))
    (case D_Speaker_go_on => refine' PA.mth_mk ?a ?i ?l ?c ?k; (case a => k_is); (case i => k_is); (case l => k_is); (case c => k_is); (case k => k_is))
    (case D_Speaker_said => refine' PA.mth_mk ?a ?i ?l ?c ?k; (case a => k_is); (case i => k_is); (case l => k_is); (case c => k_is); (case k => k_is))
    (case D_Speaker_waiting => refine' PA.mth_mk ?a ?i ?l ?c ?k; (case a => k_is); (case i => k_is); (case l => k_is); (case c => k_is); (case k => k_is))
    (case D_Speaker_heard => refine' PA.mth_mk ?a ?i ?l ?c ?k; (case a => k_is); (case i => k_is); (case l => k_is); (case c => k_is); (case k => k_is))
    (case D_Speaker_passed => refine' PA.mth_mk ?a ?i ?l ?c ?k; (case a => k_is); (case i => k_is); (case l => k_is); (case c => k_is); (case k => k_is))
    (case D_Speaker_log => refine' PA.mth_mk ?a ?i ?l ?c ?k; (case a => k_is); (case i => k_is); (case l => k_is); (case c => k_is); (case k => k_is))
    (case E_InvalidCount => refine' PA.err_mk (st := PA.si_InvalidCount) (qual := "InvalidCount.__init__") ?aC ?xL ?sa ?ga ?gg ?nb ?a1 ?t1 ?l1 ?c1 ?k1 ?lT ?kC ?eC ?tC ?hC ?ha ?hn ?ht ?hm ?hbm ?dT rfl PA.sci_InvalidCount (Or.inl rfl) (Or.inl rfl) (fun _ _ _ _ _ _ _ us its h1 h2 => match us, its, h1, h2 with | [_, _], [_], _, _ => ⟨_, rfl, rfl⟩) KX G; (case aC => k_is); (case xL => k_is); (case sa => k_is); (case ga => k_is); (case gg => k_is); (case nb => k_is); (case a1 => k_is); (case t1 => k_is); (case l1 => k_is); (case c1 => k_is); (case k1 => k_is); (case lT => k_is); (case kC => k_is); (case eC => k_is); (case tC => k_is); (case hC => k_is); (case ha => k_is); (case hn => k_is); (case ht => k_is); (case hm => k_is); (case hbm => decide +kernel); (case dT => rfl))
    (case E_InvalidUtterance => refine' PA.err_mk (st := PA.si_InvalidUtterance) (qual := "InvalidUtterance.__init__") ?aC ?xL ?sa ?ga ?gg ?nb ?a1 ?t1 ?l1 ?c1 ?k1 ?lT ?kC ?eC ?tC ?hC ?ha ?hn ?ht ?hm ?hbm ?dT rfl PA.sci_InvalidUtterance (Or.inl rfl) (Or.inl rfl) (fun _ _ _ _ _ _ _ us its h1 h2 => match us, its, h1, h2 with | [_, _], [_], _, _ => ⟨_, rfl, rfl⟩) KX G; (case aC => k_is); (case xL => k_is); (case sa => k_is); (case ga => k_is); (case gg => k_is); (case nb => k_is); (case a1 => k_is); (case t1 => k_is); (case l1 => k_is); (case c1 => k_is); (case k1 => k_is); (case lT => k_is); (case kC => k_is); (case eC => k_is); (case tC => k_is); (case hC => k_is); (case ha => k_is); (case hn => k_is); (case ht => k_is); (case hm => k_is); (case hbm => decide +kernel); (case dT => rfl))
    (case E_InvalidTag => refine' PA.err_mk (st := PA.si_InvalidTag) (qual := "InvalidTag.__init__") ?aC ?xL ?sa ?ga ?gg ?nb ?a1 ?t1 ?l1 ?c1 ?k1 ?lT ?kC ?eC ?tC ?hC ?ha ?hn ?ht ?hm ?hbm ?dT rfl PA.sci_InvalidTag (Or.inl rfl) (Or.inl rfl) (fun _ _ _ _ _ _ _ us its h1 h2 => match us, its, h1, h2 with | [_, _], [_], _, _ => ⟨_, rfl, rfl⟩) KX G; (case aC => k_is); (case xL => k_is); (case sa => k_is); (case ga => k_is); (case gg => k_is); (case nb => k_is); (case a1 => k_is); (case t1 => k_is); (case l1 => k_is); (case c1 => k_is); (case k1 => k_is); (case lT => k_is); (case kC => k_is); (case eC => k_is); (case tC => k_is); (case hC => k_is); (case ha => k_is); (case hn => k_is); (case ht => k_is); (case hm => k_is); (case hbm => decide +kernel); (case dT => rfl))
    (case E_InvalidLog => refine' PA.err_mk (st := PA.si_InvalidLog) (qual := "InvalidLog.__init__") ?aC ?xL ?sa ?ga ?gg ?nb ?a1 ?t1 ?l1 ?c1 ?k1 ?lT ?kC ?eC ?tC ?hC ?ha ?hn ?ht ?hm ?hbm ?dT rfl PA.sci_InvalidLog (Or.inl rfl) (Or.inl rfl) (fun _ _ _ _ _ _ _ us its h1 h2 => match us, its, h1, h2 with | [_, _], [_], _, _ => ⟨_, rfl, rfl⟩) KX G; (case aC => k_is); (case xL => k_is); (case sa => k_is); (case ga => k_is); (case gg => k_is); (case nb => k_is); (case a1 => k_is); (case t1 => k_is); (case l1 => k_is); (case c1 => k_is); (case k1 => k_is); (case lT => k_is); (case kC => k_is); (case eC => k_is); (case tC => k_is); (case hC => k_is); (case ha => k_is); (case hn => k_is); (case ht => k_is); (case hm => k_is); (case hbm => decide +kernel); (case dT => rfl))
    (case a_EMPTY => k_is)
    (case l_EMPTY => k_is)
    (case y_EMPTY => rfl)
    (case j_EMPTY => rfl)
    (case w_EMPTY => exact Nat.le_of_ble_eq_true rfl)
    (case q_EMPTY => exact .cons rfl (.cons rfl (.cons rfl (.cons rfl (.nil)))))
    (case l_EMPTY_1 => k_is)
    (case y_EMPTY_1 => rfl)
    (case j_EMPTY_1 => rfl)
    (case w_EMPTY_1 => exact Nat.le_of_ble_eq_true rfl)
    (case q_EMPTY_1 => exact .nil)

