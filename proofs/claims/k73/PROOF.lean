import PyProof.Rows.All
import Wide.All
import OpenK.AllK
import Wide.FinOn
import HandS.ForMost
import HandS.Exc
import HandS.TryOnly
import HandS.ExcOwn
import HandS.WordsExc
import HandS.ExcInit
import HandS.CallLocal
import HandS.Defaults
import HandS.IsInst
import HandS.Zip
import HandS.ExcField
import KE.KExcIs
import HandS.Style
import HandS.TupAny
import HandS.Wide
import HandS.WideBits
import HandS.StrMore
import HandS.WordsDict
import HandS.DictComp
import HandS.Replace
import HandS.SetFor
import HandS.SortInts
import PyProof.Rows.RuleB_pow
import HandS.Codes
import HandS.Ends
import HandS.Text
import PyProof.AutoSeq1
import PyProof.SumWalkG
import PyProof.Rows.SeqMore
import HandS.Conv
import KE.DataCmp
import PySem.Challenge.RW_heardandfelt_k73_whole_windows
set_option Elab.async false
set_option linter.all false
set_option maxRecDepth 100000
set_option maxHeartbeats 2000000
/-! PbBase: data without a heap, states of data, and what readings do to them. -/
namespace PA
open PySem L2

/-- Python data: a value, a list, a list that is read alone, a tuple, a dict, an error with its value; own k: the k-th open list -/
inductive D where
  | v (x : V)
  | lst (l : List D)
  | rd (l : List D)
  | tup (l : List D)
  | dic (ks : List Key) (l : List D)
  | exc (c : Addr) (d : D)
  | own (k : Nat)

abbrev D.int (i : Int) : D := .v (.int i)
abbrev D.bl (b : Bool) : D := .v (.bl b)
abbrev D.str (s : Str) : D := .v (.str s)
abbrev D.non : D := .v .non

/-- heaps: the one stands within the other -/
def Ex (H H' : Hp) : Prop := ∀ a o, H a = some o → H' a = some o
theorem Ex.refl (H : Hp) : Ex H H := fun _ _ h => h
theorem Ex.trans {H H1 H2 : Hp} (a : Ex H H1) (b : Ex H1 H2) : Ex H H2 := fun x o h => b x o (a x o h)
theorem Ex.new {H : Hp} {p : Addr} {o : HO} (h : H p = none) : Ex H (upd H p o) := fun a u e => by
  rw [upd_ne (ne_of_none e h)]
  exact e
theorem Ex.both {G H : Hp} {p : Addr} {o : HO} (e : Ex G H) : Ex (upd G p o) (upd H p o) := fun a u h => by
  by_cases q : a = p
  · subst q
    rw [upd_same] at h ⊢
    exact h
  · rw [upd_ne q] at h ⊢
    exact e a u h
theorem Ex.side {G H : Hp} {p : Addr} {o : HO} (e : Ex G H) (h : G p = none) : Ex G (upd H p o) := fun a u q => by
  rw [upd_ne (ne_of_none q h)]
  exact e a u q
theorem Ex.free {G H : Hp} {p : Addr} (e : Ex G H) (h : H p = none) : G p = none := by
  cases q : G p with
  | none => rfl
  | some o =>
    rw [e p o q] at h
    cases h
theorem ex_rd {H H' : Hp} {a : Addr} {u : HO} (e : Ex H H') (h : Rd H a u) : Rd H' a u := by
  rcases h with h | ⟨o, h⟩
  · exact .inl (e a _ h)
  · exact .inr ⟨o, e a _ h⟩
theorem ex_l {K : PySem.W.Frag} {H H' : Hp} {a : Addr} {xs : List V} (e : Ex H H') (h : SqL K H a xs) : SqL K H' a xs := by
  rcases h with h | h
  · exact .inl (ex_rd e h)
  · exact .inr h
theorem ex_t {K : PySem.W.Frag} {H H' : Hp} {a : Addr} {xs : List V} (e : Ex H H') (h : SqT K H a xs) : SqT K H' a xs := by
  rcases h with h | h
  · exact .inl (ex_rd e h)
  · exact .inr h

/-! ### an error that is kept -/
/-- at e: an error of the class at C with its own dict at dx -/
def exq (e C dx : Addr) : HO := .ext fun h => ∃ (oe : Obj) (vs : Array Value), h.get? e = some oe ∧ oe.cls = .ref C ∧ oe.dict = some dx ∧ oe.data = .fields vs
/-- a tuple of ours, or one of the text's own -/
def TpK (K : PySem.W.Frag) (G : Hp) (a : Addr) (xs : List V) : Prop :=
  G a = some (.tup xs) ∨ ∃ (o : Obj) (its : Array Value) (n : Nat), K.lookup a = some o ∧ o.cls = .type "tuple" ∧ o.data = .seq its n ∧ its.size ≤ sizeLine ∧ Vals xs its.toList
theorem TpK.sq {K : PySem.W.Frag} {G : Hp} {a : Addr} {xs : List V} (h : TpK K G a xs) : SqT K G a xs := by
  rcases h with h | h
  · exact .inl (.inl h)
  · exact .inr h
theorem TpK.mono {K : PySem.W.Frag} {G G' : Hp} {a : Addr} {xs : List V} (e : Ex G G') (h : TpK K G a xs) : TpK K G' a xs := by
  rcases h with h | h
  · exact .inl (e _ _ h)
  · exact .inr h
/-! ### which value bears which data; A: where the open lists stand -/
mutual
inductive Rp (K : PySem.W.Frag) (A : List Addr) (G : Hp) : D → V → Prop
  | v (x : V) : Rp K A G (.v x) x
  | own {k : Nat} {a : Addr} : A[k]? = some a → Rp K A G (.own k) (.ref a)
  | lst {l : List D} {a : Addr} {xs : List V} : G a = some (.lst xs) → RpL K A G l xs → Rp K A G (.lst l) (.ref a)
  | rd {l : List D} {a : Addr} {xs : List V} : SqL K G a xs → RpL K A G l xs → Rp K A G (.rd l) (.ref a)
  | tup {l : List D} {a : Addr} {xs : List V} : TpK K G a xs → RpL K A G l xs → Rp K A G (.tup l) (.ref a)
  | dic {ks : List Key} {l : List D} {a : Addr} {xs : List V} : ks.length = xs.length → G a = some (.dK (ks.zip xs)) → RpL K A G l xs → Rp K A G (.dic ks l) (.ref a)
  | exc {c a dx : Addr} {d : D} {u : V} : G a = some (exq a c dx) → G dx = some (exd dx [(("value" : Str), u)]) → Rp K A G d u → Rp K A G (.exc c d) (.ref a)
inductive RpL (K : PySem.W.Frag) (A : List Addr) (G : Hp) : List D → List V → Prop
  | nil : RpL K A G [] []
  | cons {d : D} {v : V} {l : List D} {xs : List V} : Rp K A G d v → RpL K A G l xs → RpL K A G (d :: l) (v :: xs)
end
/-! all handles in it suit p -/
mutual
def D.hs (p : Nat → Bool) : D → Bool
  | .v _ => true
  | .own k => p k
  | .lst l => D.hsL p l
  | .rd l => D.hsL p l
  | .tup l => D.hsL p l
  | .dic _ l => D.hsL p l
  | .exc _ d => D.hs p d
def D.hsL (p : Nat → Bool) : List D → Bool
  | [] => true
  | d :: l => D.hs p d && D.hsL p l
end
/-- all handles are below n -/
abbrev D.lt (n : Nat) (d : D) : Bool := D.hs (fun k => decide (k < n)) d
abbrev D.ltL (n : Nat) (l : List D) : Bool := D.hsL (fun k => decide (k < n)) l
/-! handles moved -/
mutual
def D.ren (f : Nat → Nat) : D → D
  | .v x => .v x
  | .own k => .own (f k)
  | .lst l => .lst (D.renL f l)
  | .rd l => .rd (D.renL f l)
  | .tup l => .tup (D.renL f l)
  | .dic ks l => .dic ks (D.renL f l)
  | .exc c d => .exc c (D.ren f d)
def D.renL (f : Nat → Nat) : List D → List D
  | [] => []
  | d :: l => D.ren f d :: D.renL f l
end
/-! the open list k read as l -/
mutual
def D.sub (g : Nat → Option (List D)) : D → D
  | .v x => .v x
  | .own k => match g k with
    | some l => .lst l
    | none => .own k
  | .lst l => .lst (D.subL g l)
  | .rd l => .rd (D.subL g l)
  | .tup l => .tup (D.subL g l)
  | .dic ks l => .dic ks (D.subL g l)
  | .exc c d => .exc c (D.sub g d)
def D.subL (g : Nat → Option (List D)) : List D → List D
  | [] => []
  | d :: l => D.sub g d :: D.subL g l
end
section
variable {K : PySem.W.Frag} {G G' : Hp} {A B A' : List Addr}
theorem getE {A B : List Addr} {k : Nat} {a : Addr} (h : A[k]? = some a) : (A ++ B)[k]? = some a := by
  rw [List.getElem?_append_left (List.getElem?_eq_some_iff.mp h).1]
  exact h
mutual
theorem Rp.mono (e : Ex G G') : ∀ {d : D} {x : V}, Rp K A G d x → Rp K (A ++ B) G' d x
  | _, _, .v x => .v x
  | _, _, .own h => .own (getE h)
  | _, _, .lst h r => .lst (e _ _ h) (RpL.mono e r)
  | _, _, .rd h r => .rd (ex_l e h) (RpL.mono e r)
  | _, _, .tup h r => .tup (h.mono e) (RpL.mono e r)
  | _, _, .dic n h r => .dic n (e _ _ h) (RpL.mono e r)
  | _, _, .exc h1 h2 r => .exc (e _ _ h1) (e _ _ h2) (Rp.mono e r)
theorem RpL.mono (e : Ex G G') : ∀ {l : List D} {xs : List V}, RpL K A G l xs → RpL K (A ++ B) G' l xs
  | _, _, .nil => .nil
  | _, _, .cons h r => .cons (Rp.mono e h) (RpL.mono e r)
end
theorem Rp.mono0 (e : Ex G G') {d : D} {x : V} (h : Rp K A G d x) : Rp K A G' d x := by
  have q := Rp.mono (B := []) e h
  rw [List.append_nil] at q
  exact q
theorem RpL.mono0 (e : Ex G G') {d : List D} {x : List V} (h : RpL K A G d x) : RpL K A G' d x := by
  have q := RpL.mono (B := []) e h
  rw [List.append_nil] at q
  exact q
/-! other addresses of the open lists, the same where it matters -/
mutual
theorem Rp.ren {f : Nat → Nat} {p : Nat → Bool} (hf : ∀ k a, p k = true → A[k]? = some a → A'[f k]? = some a) : ∀ {d : D} {x : V}, Rp K A G d x → d.hs p = true → Rp K A' G (d.ren f) x
  | _, _, .v x, _ => .v x
  | _, _, .own h, hl => .own (hf _ _ hl h)
  | _, _, .lst h r, hl => .lst h (RpL.ren hf r hl)
  | _, _, .rd h r, hl => .rd h (RpL.ren hf r hl)
  | _, _, .tup h r, hl => .tup h (RpL.ren hf r hl)
  | _, _, .dic n h r, hl => .dic (n.trans rfl) h (RpL.ren hf r hl)
  | _, _, .exc h1 h2 r, hl => .exc h1 h2 (Rp.ren hf r hl)
theorem RpL.ren {f : Nat → Nat} {p : Nat → Bool} (hf : ∀ k a, p k = true → A[k]? = some a → A'[f k]? = some a) : ∀ {l : List D} {xs : List V}, RpL K A G l xs → D.hsL p l = true → RpL K A' G (D.renL f l) xs
  | _, _, .nil, _ => .nil
  | _, _, .cons (d := d) (l := l) h r, hl => by
    have hl : (D.hs p d && D.hsL p l) = true := hl
    rw [Bool.and_eq_true] at hl
    exact .cons (Rp.ren hf h hl.1) (RpL.ren hf r hl.2)
end
mutual
theorem D.ren_id {f : Nat → Nat} {p : Nat → Bool} (hf : ∀ k, p k = true → f k = k) : ∀ {d : D}, d.hs p = true → d.ren f = d
  | .v _, _ => rfl
  | .own k, h => congrArg D.own (hf k h)
  | .lst l, h => congrArg D.lst (D.renL_id hf h)
  | .rd l, h => congrArg D.rd (D.renL_id hf h)
  | .tup l, h => congrArg D.tup (D.renL_id hf h)
  | .dic ks l, h => congrArg (D.dic ks) (D.renL_id hf h)
  | .exc c d, h => congrArg (D.exc c) (D.ren_id hf h)
theorem D.renL_id {f : Nat → Nat} {p : Nat → Bool} (hf : ∀ k, p k = true → f k = k) : ∀ {l : List D}, D.hsL p l = true → D.renL f l = l
  | [], _ => rfl
  | d :: l, h => by
    have h : (D.hs p d && D.hsL p l) = true := h
    rw [Bool.and_eq_true] at h
    show D.ren f d :: D.renL f l = d :: l
    rw [D.ren_id hf h.1, D.renL_id hf h.2]
end
theorem Rp.keepP {p : Nat → Bool} (hf : ∀ k a, p k = true → A[k]? = some a → A'[k]? = some a) {d : D} {x : V} (h : Rp K A G d x) (hl : d.hs p = true) : Rp K A' G d x := by
  have q := Rp.ren (f := fun k => k) hf h hl
  rw [D.ren_id (fun _ _ => rfl) hl] at q
  exact q
theorem RpL.keepP {p : Nat → Bool} (hf : ∀ k a, p k = true → A[k]? = some a → A'[k]? = some a) {d : List D} {x : List V} (h : RpL K A G d x) (hl : D.hsL p d = true) : RpL K A' G d x := by
  have q := RpL.ren (f := fun k => k) hf h hl
  rw [D.renL_id (fun _ _ => rfl) hl] at q
  exact q
theorem Rp.keep {n : Nat} (hf : ∀ k a, k < n → A[k]? = some a → A'[k]? = some a) {d : D} {x : V} (h : Rp K A G d x) (hl : d.lt n = true) : Rp K A' G d x := h.keepP (fun k a z => hf k a (of_decide_eq_true z)) hl
theorem RpL.keep {n : Nat} (hf : ∀ k a, k < n → A[k]? = some a → A'[k]? = some a) {d : List D} {x : List V} (h : RpL K A G d x) (hl : D.ltL n d = true) : RpL K A' G d x := h.keepP (fun k a z => hf k a (of_decide_eq_true z)) hl
/-- without handles: anywhere -/
theorem Rp.cl {d : D} {x : V} (h : Rp K A G d x) (hl : d.lt 0 = true) : Rp K A' G d x := h.keep (fun k a z => absurd z (Nat.not_lt_zero k)) hl
theorem RpL.cl {d : List D} {x : List V} (h : RpL K A G d x) (hl : D.ltL 0 d = true) : RpL K A' G d x := h.keep (fun k a z => absurd z (Nat.not_lt_zero k)) hl
mutual
theorem D.hs_mono {p q : Nat → Bool} (hp : ∀ k, p k = true → q k = true) : ∀ {d : D}, d.hs p = true → d.hs q = true
  | .v _, _ => rfl
  | .own k, h => hp k h
  | .lst l, h => D.hsL_mono (l := l) hp h
  | .rd l, h => D.hsL_mono (l := l) hp h
  | .tup l, h => D.hsL_mono (l := l) hp h
  | .dic ks l, h => D.hsL_mono (l := l) hp h
  | .exc c d, h => D.hs_mono (d := d) hp h
theorem D.hsL_mono {p q : Nat → Bool} (hp : ∀ k, p k = true → q k = true) : ∀ {l : List D}, D.hsL p l = true → D.hsL q l = true
  | [], _ => rfl
  | d :: l, h => by
    have h : (D.hs p d && D.hsL p l) = true := h
    rw [Bool.and_eq_true] at h
    show (D.hs q d && D.hsL q l) = true
    rw [D.hs_mono hp h.1, D.hsL_mono hp h.2]
    rfl
end
theorem D.lt_mono {n m : Nat} (hm : n ≤ m) {d : D} (h : d.lt n = true) : d.lt m = true := D.hs_mono (fun k z => decide_eq_true (Nat.lt_of_lt_of_le (of_decide_eq_true z) hm)) h
theorem D.ltL_mono {n m : Nat} (hm : n ≤ m) {l : List D} (h : D.ltL n l = true) : D.ltL m l = true := D.hsL_mono (fun k z => decide_eq_true (Nat.lt_of_lt_of_le (of_decide_eq_true z) hm)) h
theorem D.hsL_all {p : Nat → Bool} : ∀ {l : List D}, D.hsL p l = true ↔ ∀ d ∈ l, d.hs p = true
  | [] => ⟨fun _ d h => (by cases h), fun _ => rfl⟩
  | d :: l => by
    show (D.hs p d && D.hsL p l) = true ↔ _
    rw [Bool.and_eq_true, D.hsL_all (l := l)]
    constructor
    · rintro ⟨h1, h2⟩ x hx
      rcases List.mem_cons.mp hx with rfl | hx
      · exact h1
      · exact h2 x hx
    · intro h
      exact ⟨h d List.mem_cons_self, fun x hx => h x (List.mem_cons_of_mem _ hx)⟩
theorem D.ltL_all {n : Nat} {l : List D} : D.ltL n l = true ↔ ∀ d ∈ l, d.lt n = true := D.hsL_all
/-! some open lists read as they stand -/
mutual
theorem Rp.sub {g : Nat → Option (List D)} (e : Ex G G') (hg : ∀ k a l, A[k]? = some a → g k = some l → ∃ xs, G' a = some (.lst xs) ∧ RpL K A G' l xs) : ∀ {d : D} {x : V}, Rp K A G d x → Rp K A G' (d.sub g) x
  | _, _, .v x => .v x
  | _, _, .own (k := k) h => by
    show Rp K A G' (match g k with | some l => .lst l | none => .own k) _
    cases q : g k with
    | none => exact .own h
    | some l =>
      obtain ⟨xs, h1, h2⟩ := hg k _ l h q
      exact .lst h1 h2
  | _, _, .lst h r => .lst (e _ _ h) (RpL.sub e hg r)
  | _, _, .rd h r => .rd (ex_l e h) (RpL.sub e hg r)
  | _, _, .tup h r => .tup (h.mono e) (RpL.sub e hg r)
  | _, _, .dic n h r => .dic n (e _ _ h) (RpL.sub e hg r)
  | _, _, .exc h1 h2 r => .exc (e _ _ h1) (e _ _ h2) (Rp.sub e hg r)
theorem RpL.sub {g : Nat → Option (List D)} (e : Ex G G') (hg : ∀ k a l, A[k]? = some a → g k = some l → ∃ xs, G' a = some (.lst xs) ∧ RpL K A G' l xs) : ∀ {l : List D} {xs : List V}, RpL K A G l xs → RpL K A G' (D.subL g l) xs
  | _, _, .nil => .nil
  | _, _, .cons h r => .cons (Rp.sub e hg h) (RpL.sub e hg r)
end
theorem RpL.len : ∀ {l : List D} {xs : List V}, RpL K A G l xs → l.length = xs.length
  | _, _, .nil => rfl
  | _, _, .cons _ r => congrArg Nat.succ (RpL.len r)
theorem RpL.get : ∀ {l : List D} {xs : List V} {i : Nat} {d : D}, RpL K A G l xs → l[i]? = some d → ∃ x, xs[i]? = some x ∧ Rp K A G d x
  | _, _, _, _, .nil, e => by simp at e
  | _, _, 0, _, .cons h _, e => by simp at e; subst e; exact ⟨_, rfl, h⟩
  | _, _, i + 1, d, .cons _ r, e => by
    obtain ⟨x, h1, h2⟩ := RpL.get (i := i) (d := d) r (by simpa using e)
    exact ⟨x, by simpa using h1, h2⟩
theorem RpL.got : ∀ {l : List D} {xs : List V} {i : Nat} {x : V}, RpL K A G l xs → xs[i]? = some x → ∃ d, l[i]? = some d ∧ Rp K A G d x
  | _, _, _, _, .nil, e => by simp at e
  | _, _, 0, _, .cons h _, e => by simp at e; subst e; exact ⟨_, rfl, h⟩
  | _, _, i + 1, x, .cons _ r, e => by
    obtain ⟨d, h1, h2⟩ := RpL.got (i := i) (x := x) r (by simpa using e)
    exact ⟨d, by simpa using h1, h2⟩
theorem RpL.append : ∀ {l m : List D} {xs ys : List V}, RpL K A G l xs → RpL K A G m ys → RpL K A G (l ++ m) (xs ++ ys)
  | _, _, _, _, .nil, s => s
  | _, _, _, _, .cons h r, s => .cons h (RpL.append r s)
theorem RpL.set {d : D} {x : V} (h : Rp K A G d x) : ∀ {l : List D} {xs : List V} (i : Nat), RpL K A G l xs → RpL K A G (l.set i d) (xs.set i x)
  | _, _, _, .nil => .nil
  | _, _, 0, .cons _ r => .cons h r
  | _, _, i + 1, .cons q r => .cons q (RpL.set h i r)
theorem RpL.drop : ∀ {l : List D} {xs : List V} (n : Nat), RpL K A G l xs → RpL K A G (l.drop n) (xs.drop n)
  | _, _, 0, r => r
  | _, _, _ + 1, .nil => .nil
  | _, _, n + 1, .cons _ r => RpL.drop n r
theorem RpL.take : ∀ {l : List D} {xs : List V} (n : Nat), RpL K A G l xs → RpL K A G (l.take n) (xs.take n)
  | _, _, 0, _ => .nil
  | _, _, _ + 1, .nil => .nil
  | _, _, n + 1, .cons h r => .cons h (RpL.take n r)
theorem RpL.reverse {l : List D} {xs : List V} (r : RpL K A G l xs) : RpL K A G l.reverse xs.reverse := by
  have key : ∀ {l m : List D} {xs ys : List V}, RpL K A G l xs → RpL K A G m ys → RpL K A G (l.reverseAux m) (xs.reverseAux ys) := by
    intro l
    induction l with
    | nil =>
      intro m xs ys h s
      cases h
      exact s
    | cons d l ih =>
      intro m xs ys h s
      cases h with
      | cons h r =>
        have q := ih r (RpL.cons h s)
        exact q
  exact key r .nil
/-- values themselves -/
theorem RpL.vals : ∀ (xs : List V), RpL K A G (xs.map D.v) xs
  | [] => .nil
  | x :: xs => .cons (.v x) (RpL.vals xs)
theorem RpL.of_vals : ∀ {ys xs : List V}, RpL K A G (ys.map D.v) xs → xs = ys
  | [], _, h => by cases h; rfl
  | y :: ys, _, h => by
    cases h with
    | cons h r =>
      cases h
      rw [RpL.of_vals r]
theorem Rp.vOf {x u : V} (h : Rp K A G (.v x) u) : u = x := by cases h; rfl
end

/-! ### states -/
/-- an open list; one that is shut -/
inductive Cell where
  | lst (l : List D)
  | off
def CellAt (K : PySem.W.Frag) (A : List Addr) (G H : Hp) (a : Addr) : Cell → Prop
  | .lst l => G a = none ∧ ∃ xs, H a = some (.lst xs) ∧ RpL K A G l xs
  | .off => True
abbrev Sl := List (Option D)
/-- the slots -/
inductive En (K : PySem.W.Frag) (A : List Addr) (G : Hp) : Sl → St → Prop
  | nil : En K A G [] []
  | skip {δ : Sl} {σ : St} {o : Option V} : En K A G δ σ → En K A G (none :: δ) (o :: σ)
  | cons {δ : Sl} {σ : St} {d : D} {v : V} : Rp K A G d v → En K A G δ σ → En K A G (some d :: δ) (some v :: σ)
/-- where a def began -/
structure Bs where
  A : List Addr
  G : Hp
  H : Hp
structure Mem (K : PySem.W.Frag) (S : Bs) (A : List Addr) (G H : Hp) (μ : List Cell) : Prop where
  ex : Ex G H
  exG : Ex S.G G
  pre : ∃ B, A = S.A ++ B ∧ ∀ b ∈ B, S.H b = none
  new : ∀ p, G p ≠ none → S.G p ≠ none ∨ S.H p = none
  keep : ∀ a o, a ∉ S.A → S.H a = some o → H a = some o
  cel : ∀ (k : Nat) (a : Addr) (c : Cell), A[k]? = some a → μ[k]? = some c → CellAt K A G H a c
  len : A.length = μ.length
  nd : A.Nodup
  al : ∀ a ∈ A, H a ≠ none
structure At (K : PySem.W.Frag) (S : Bs) (A : List Addr) (G H : Hp) (σ : St) (δ : Sl) (μ : List Cell) : Prop where
  m : Mem K S A G H μ
  env : En K A G δ σ
section
variable {K : PySem.W.Frag} {S : Bs} {A B : List Addr} {G G' H H' : Hp} {σ : St} {δ : Sl} {μ : List Cell}
theorem En.mono (e : Ex G G') : ∀ {δ : Sl} {σ : St}, En K A G δ σ → En K (A ++ B) G' δ σ
  | _, _, .nil => .nil
  | _, _, .skip r => .skip (En.mono e r)
  | _, _, .cons h r => .cons (h.mono e) (En.mono e r)
theorem En.mono0 (e : Ex G G') {δ : Sl} {σ : St} (h : En K A G δ σ) : En K A G' δ σ := by
  have q := En.mono (B := []) e h
  rw [List.append_nil] at q
  exact q
theorem En.get : ∀ {δ : Sl} {σ : St} {i : Nat} {d : D}, En K A G δ σ → δ[i]? = some (some d) → ∃ v, σ[i]? = some (some v) ∧ Rp K A G d v
  | _, _, _, _, .nil, e => by simp at e
  | _, _, 0, _, .skip _, e => by simp at e
  | _, _, 0, _, .cons h _, e => by simp at e; subst e; exact ⟨_, rfl, h⟩
  | _, _, i + 1, d, .skip r, e => by
    obtain ⟨v, h1, h2⟩ := En.get (i := i) (d := d) r (by simpa using e)
    exact ⟨v, by simpa using h1, h2⟩
  | _, _, i + 1, d, .cons _ r, e => by
    obtain ⟨v, h1, h2⟩ := En.get (i := i) (d := d) r (by simpa using e)
    exact ⟨v, by simpa using h1, h2⟩
theorem En.set {d : D} {v : V} (h : Rp K A G d v) : ∀ {δ : Sl} {σ : St} (i : Nat), En K A G δ σ → En K A G (δ.set i (some d)) (σ.set i (some v))
  | _, _, _, .nil => .nil
  | _, _, 0, .skip r => .cons h r
  | _, _, 0, .cons _ r => .cons h r
  | _, _, i + 1, .skip r => .skip (En.set h i r)
  | _, _, i + 1, .cons q r => .cons q (En.set h i r)
theorem En.unset : ∀ {δ : Sl} {σ : St} (i : Nat) (o : Option V), En K A G δ σ → En K A G (δ.set i none) (σ.set i o)
  | _, _, _, _, .nil => .nil
  | _, _, 0, _, .skip r => .skip r
  | _, _, 0, _, .cons _ r => .skip r
  | _, _, i + 1, o, .skip r => .skip (En.unset i o r)
  | _, _, i + 1, o, .cons q r => .cons q (En.unset i o r)
/-- forgetting slots -/
inductive Less : Sl → Sl → Prop
  | nil : Less [] []
  | drop {δ ε : Sl} {o : Option D} : Less δ ε → Less (o :: δ) (none :: ε)
  | keep {δ ε : Sl} {o : Option D} : Less δ ε → Less (o :: δ) (o :: ε)
theorem En.less : ∀ {δ ε : Sl} {σ : St}, En K A G δ σ → Less δ ε → En K A G ε σ
  | _, _, _, .nil, .nil => .nil
  | _, _, _, .skip r, .drop l => .skip (En.less r l)
  | _, _, _, .skip r, .keep l => .skip (En.less r l)
  | _, _, _, .cons _ r, .drop l => .skip (En.less r l)
  | _, _, _, .cons h r, .keep l => .cons h (En.less r l)
theorem Less.refl : ∀ δ : Sl, Less δ δ
  | [] => .nil
  | _ :: δ => .keep (Less.refl δ)

/-- new objects came, nothing else -/
theorem Mem.grow (m : Mem K S A G H μ) (e : Ex G' H') (eG : Ex G G') (eH : Ex H H') (n : ∀ p, G' p ≠ none → G p ≠ none ∨ H p = none) : Mem K S A G' H' μ where
  ex := e
  exG := m.exG.trans eG
  pre := m.pre
  new := fun p hp => by
    rcases n p hp with h | h
    · exact m.new p h
    · by_cases ha : p ∈ S.A
      · obtain ⟨B, hB, _⟩ := m.pre
        exact absurd h (m.al p (by rw [hB]; exact List.mem_append_left _ ha))
      · cases q : S.H p with
        | none => exact .inr rfl
        | some o =>
          rw [m.keep p o ha q] at h
          cases h
  keep := fun a o h1 h2 => eH _ _ (m.keep a o h1 h2)
  cel := fun k a c h1 h2 => by
    have q := m.cel k a c h1 h2
    cases c with
    | off => trivial
    | lst l =>
      obtain ⟨g, xs, hx, r⟩ := q
      refine ⟨?_, xs, eH _ _ hx, r.mono0 eG⟩
      cases z : G' a with
      | none => rfl
      | some o =>
        rcases n a (by rw [z]; exact fun h => nomatch h) with h | h
        · exact absurd g h
        · rw [hx] at h
          cases h
  len := m.len
  nd := m.nd
  al := fun a ha h => by
    cases q : H a with
    | none => exact m.al a ha q
    | some o =>
      rw [eH a o q] at h
      cases h
/-- a new object that is known -/
theorem Mem.laid (m : Mem K S A G H μ) {p : Addr} {o : HO} (hp : H p = none) : Mem K S A (upd G p o) (upd H p o) μ :=
  m.grow (Ex.both m.ex) (Ex.new (m.ex.free hp)) (Ex.new hp) fun q h => by
    by_cases e : q = p
    · exact .inr (by rw [e]; exact hp)
    · rw [upd_ne e] at h
      exact .inl h
/-- a new open list -/
theorem Mem.opened (m : Mem K S A G H μ) {p : Addr} {xs : List V} {l : List D} (hp : H p = none) (r : RpL K A G l xs) : Mem K S (A ++ [p]) G (upd H p (.lst xs)) (μ ++ [.lst l]) where
  ex := m.ex.side (m.ex.free hp)
  exG := m.exG
  pre := by
    obtain ⟨B, hB, hb⟩ := m.pre
    refine ⟨B ++ [p], by rw [hB, List.append_assoc], fun b h => ?_⟩
    rcases List.mem_append.mp h with h | h
    · exact hb b h
    · have e : b = p := by simpa using h
      subst e
      by_cases ha : b ∈ S.A
      · exact absurd hp (m.al b (by rw [hB]; exact List.mem_append_left _ ha))
      · cases q : S.H b with
        | none => rfl
        | some o =>
          rw [m.keep b o ha q] at hp
          cases hp
  new := m.new
  keep := fun a o h1 h2 => by
    have q := m.keep a o h1 h2
    rw [upd_ne (ne_of_none q hp)]
    exact q
  cel := fun k a c h1 h2 => by
    by_cases hk : k < A.length
    · rw [List.getElem?_append_left hk] at h1
      rw [List.getElem?_append_left (by rw [← m.len]; exact hk)] at h2
      have q := m.cel k a c h1 h2
      cases c with
      | off => trivial
      | lst l' =>
        obtain ⟨g, ys, hy, r'⟩ := q
        exact ⟨g, ys, by rw [upd_ne (ne_of_none hy hp)]; exact hy, r'.mono (Ex.refl G)⟩
    · have e1 : k = A.length := by
        have z := (List.getElem?_eq_some_iff.mp h1).1
        rw [List.length_append, List.length_singleton] at z
        omega
      subst e1
      rw [List.getElem?_append_right (Nat.le_refl _), Nat.sub_self] at h1
      rw [List.getElem?_append_right (by rw [m.len]; exact Nat.le_refl _), m.len, Nat.sub_self] at h2
      cases h1
      cases h2
      exact ⟨m.ex.free hp, xs, upd_same, r.mono (Ex.refl G)⟩
  len := by rw [List.length_append, List.length_append, m.len]; rfl
  nd := by
    refine List.nodup_append.mpr ⟨m.nd, by simp, fun a ha b hb e => ?_⟩
    have e2 : b = p := by simpa using hb
    rw [e, e2] at ha
    exact m.al p ha hp
  al := fun a ha h => by
    rcases List.mem_append.mp ha with ha | ha
    · by_cases e : a = p
      · rw [e] at ha
        exact m.al p ha hp
      · rw [upd_ne e] at h
        exact m.al a ha h
    · have e2 : a = p := by simpa using ha
      rw [e2, upd_same] at h
      cases h
/-- an open list is changed -/
theorem Mem.wrote (m : Mem K S A G H μ) {k : Nat} {a : Addr} {xs : List V} {l l' : List D} (hA : A[k]? = some a) (hc : μ[k]? = some (.lst l)) (r : RpL K A G l' xs) : Mem K S A G (upd H a (.lst xs)) (μ.set k (.lst l')) where
  ex := m.ex.side (m.cel k a _ hA hc).1
  exG := m.exG
  pre := m.pre
  new := m.new
  keep := fun b o h1 h2 => by
    by_cases e : b = a
    · subst e
      obtain ⟨B, hB, hb⟩ := m.pre
      have hm : b ∈ A := List.mem_of_getElem? hA
      rw [hB] at hm
      rcases List.mem_append.mp hm with q | q
      · exact absurd q h1
      · rw [hb b q] at h2
        cases h2
    · rw [upd_ne e]
      exact m.keep b o h1 h2
  cel := fun j b c h1 h2 => by
    by_cases e : j = k
    · subst e
      rw [hA] at h1
      cases h1
      rw [List.getElem?_set_self (List.getElem?_eq_some_iff.mp hc).1] at h2
      cases h2
      exact ⟨(m.cel j a _ hA hc).1, xs, upd_same, r⟩
    · rw [List.getElem?_set_ne (Ne.symm e)] at h2
      have q := m.cel j b c h1 h2
      cases c with
      | off => trivial
      | lst l2 =>
        obtain ⟨g, ys, hy, r'⟩ := q
        refine ⟨g, ys, ?_, r'⟩
        rw [upd_ne (fun z => ?_)]
        · exact hy
        · subst z
          obtain ⟨q1, e1⟩ := List.getElem?_eq_some_iff.mp h1
          obtain ⟨q2, e2⟩ := List.getElem?_eq_some_iff.mp hA
          exact e ((List.getElem_inj m.nd).mp (e1.trans e2.symm))
  len := by rw [List.length_set]; exact m.len
  nd := m.nd
  al := fun b hb h => by
    by_cases e : b = a
    · rw [e, upd_same] at h
      cases h
    · rw [upd_ne e] at h
      exact m.al b hb h
/-- an open list of one's own is shut: from now on it is plain data -/
theorem Mem.shut (m : Mem K S A G H μ) {k : Nat} {a : Addr} {xs : List V} {l : List D} (hk : S.A.length ≤ k) (hA : A[k]? = some a) (hc : μ[k]? = some (.lst l)) (hx : H a = some (.lst xs)) : Mem K S A (upd G a (.lst xs)) H (μ.set k .off) := by
  have g := (m.cel k a _ hA hc).1
  have eH : Ex (upd G a (.lst xs)) H := fun b o h => by
    by_cases e : b = a
    · rw [e, upd_same] at h
      cases h
      rw [e]
      exact hx
    · rw [upd_ne e] at h
      exact m.ex b o h
  exact {
    ex := eH
    exG := m.exG.trans (Ex.new g)
    pre := m.pre
    new := fun p hp => by
      by_cases e : p = a
      · obtain ⟨B, hB, hb⟩ := m.pre
        refine .inr ?_
        rw [e]
        refine hb a ?_
        rw [hB, List.getElem?_append_right hk] at hA
        exact List.mem_of_getElem? hA
      · rw [upd_ne e] at hp
        exact m.new p hp
    keep := m.keep
    cel := fun j b c h1 h2 => by
      by_cases e : j = k
      · subst e
        rw [List.getElem?_set_self (List.getElem?_eq_some_iff.mp hc).1] at h2
        cases h2
        trivial
      · rw [List.getElem?_set_ne (Ne.symm e)] at h2
        have q := m.cel j b c h1 h2
        cases c with
        | off => trivial
        | lst l2 =>
          obtain ⟨g2, ys, hy, r'⟩ := q
          refine ⟨?_, ys, hy, r'.mono0 (Ex.new g)⟩
          rw [upd_ne (fun z => ?_)]
          · exact g2
          · subst z
            obtain ⟨q1, e1⟩ := List.getElem?_eq_some_iff.mp h1
            obtain ⟨q2, e2⟩ := List.getElem?_eq_some_iff.mp hA
            exact e ((List.getElem_inj m.nd).mp (e1.trans e2.symm))
    len := by rw [List.length_set]; exact m.len
    nd := m.nd
    al := m.al }
end
end PA

set_option Elab.async false
set_option linter.all false
set_option maxRecDepth 100000
set_option maxHeartbeats 2000000
/-! PbRules: what readings do to states of data. -/
namespace PA
open PySem L2

/-- later: more open lists, more known -/
structure Nw (A : List Addr) (G : Hp) (A' : List Addr) (G' : Hp) : Prop where
  pre : ∃ B, A' = A ++ B
  ex : Ex G G'
section
variable {K : PySem.W.Frag} {S : Bs} {A A' A2 : List Addr} {G G' G2 H H' : Hp} {σ : St} {δ : Sl} {μ : List Cell}
theorem Nw.refl : Nw A G A G := ⟨⟨[], (List.append_nil A).symm⟩, Ex.refl G⟩
theorem Nw.of (e : Ex G G') : Nw A G A G' := ⟨⟨[], (List.append_nil A).symm⟩, e⟩
theorem Nw.trans (a : Nw A G A' G') (b : Nw A' G' A2 G2) : Nw A G A2 G2 := by
  obtain ⟨⟨B, hB⟩, e1⟩ := a
  obtain ⟨⟨B', hB'⟩, e2⟩ := b
  exact ⟨⟨B ++ B', by rw [hB', hB, List.append_assoc]⟩, e1.trans e2⟩
theorem Nw.rp (n : Nw A G A' G') {d : D} {x : V} (h : Rp K A G d x) : Rp K A' G' d x := by
  obtain ⟨⟨B, hB⟩, e⟩ := n
  subst hB
  exact h.mono e
theorem Nw.rpl (n : Nw A G A' G') {l : List D} {xs : List V} (h : RpL K A G l xs) : RpL K A' G' l xs := by
  obtain ⟨⟨B, hB⟩, e⟩ := n
  subst hB
  exact h.mono e
theorem Nw.en (n : Nw A G A' G') (h : En K A G δ σ) : En K A' G' δ σ := by
  obtain ⟨⟨B, hB⟩, e⟩ := n
  subst hB
  exact h.mono e
end

/-! ### the judgements -/
def EE (K : PySem.W.Frag) (S : Bs) (te : TE) (δ : Sl) (μ : List Cell) (C : D → List Cell → Prop) : Prop :=
  ∀ A G H σ, At K S A G H σ δ μ → ∀ Q : VK, (∀ v d A' G' H' μ', Mem K S A' G' H' μ' → Nw A G A' G' → Rp K A' G' d v → C d μ' → Q v H') → te σ H Q
def ET (K : PySem.W.Frag) (S : Bs) (t : TT) (δ : Sl) (μ : List Cell) (C : Bool → List Cell → Prop) : Prop :=
  ∀ A G H σ, At K S A G H σ δ μ → ∀ Q : Bool → Hp → Prop, (∀ b A' G' H' μ', Mem K S A' G' H' μ' → Nw A G A' G' → C b μ' → Q b H') → t σ H Q
def EA (K : PySem.W.Frag) (S : Bs) (t : TA) (δ : Sl) (μ : List Cell) (C : List D → List Cell → Prop) : Prop :=
  ∀ A G H σ, At K S A G H σ δ μ → ∀ Q : List V → Hp → Prop, (∀ vs ds A' G' H' μ', Mem K S A' G' H' μ' → Nw A G A' G' → RpL K A' G' ds vs → C ds μ' → Q vs H') → t σ H Q
def EO (K : PySem.W.Frag) (S : Bs) (t : TO) (δ : Sl) (μ : List Cell) (C : Option Int → List Cell → Prop) : Prop :=
  ∀ A G H σ, At K S A G H σ δ μ → ∀ Q : Option Int → Hp → Prop, (∀ o A' G' H' μ', Mem K S A' G' H' μ' → Nw A G A' G' → C o μ' → Q o H') → t σ H Q
/-- two-place operations, one-place ones, calls, methods -/
def OO (K : PySem.W.Frag) (S : Bs) (r : R2) (x y : D) (μ : List Cell) (C : D → List Cell → Prop) : Prop :=
  ∀ A G H u w, Mem K S A G H μ → Rp K A G x u → Rp K A G y w → ∀ Q : VK, (∀ v d A' G' H' μ', Mem K S A' G' H' μ' → Nw A G A' G' → Rp K A' G' d v → C d μ' → Q v H') → r u w H Q
def UU (K : PySem.W.Frag) (S : Bs) (r : V → Hp → VK → Prop) (x : D) (μ : List Cell) (C : D → List Cell → Prop) : Prop :=
  ∀ A G H u, Mem K S A G H μ → Rp K A G x u → ∀ Q : VK, (∀ v d A' G' H' μ', Mem K S A' G' H' μ' → Nw A G A' G' → Rp K A' G' d v → C d μ' → Q v H') → r u H Q
def CC (K : PySem.W.Frag) (S : Bs) (r : List V → Hp → VK → Prop) (ds : List D) (μ : List Cell) (C : D → List Cell → Prop) : Prop :=
  ∀ A G H vs, Mem K S A G H μ → RpL K A G ds vs → ∀ Q : VK, (∀ v d A' G' H' μ', Mem K S A' G' H' μ' → Nw A G A' G' → Rp K A' G' d v → C d μ' → Q v H') → r vs H Q
def MM (K : PySem.W.Frag) (S : Bs) (r : V → List V → Hp → VK → Prop) (x : D) (ds : List D) (μ : List Cell) (C : D → List Cell → Prop) : Prop :=
  ∀ A G H u vs, Mem K S A G H μ → Rp K A G x u → RpL K A G ds vs → ∀ Q : VK, (∀ v d A' G' H' μ', Mem K S A' G' H' μ' → Nw A G A' G' → Rp K A' G' d v → C d μ' → Q v H') → r u vs H Q
/-- where statements go -/
structure Cn where
  nx : Sl → List Cell → Prop
  rt : D → List Cell → Prop
  bk : Sl → List Cell → Prop := fun _ _ => False
  ct : Sl → List Cell → Prop := fun _ _ => False
structure Fi (K : PySem.W.Frag) (S : Bs) (A0 : List Addr) (G0 : Hp) (E : Ends) (C : Cn) : Prop where
  nx : ∀ A G H σ δ μ, At K S A G H σ δ μ → Nw A0 G0 A G → C.nx δ μ → E.nx σ H
  rt : ∀ A G H v d μ, Mem K S A G H μ → Rp K A G d v → C.rt d μ → E.rt v H
  bk : ∀ A G H σ δ μ, At K S A G H σ δ μ → Nw A0 G0 A G → C.bk δ μ → E.bk σ H
  ct : ∀ A G H σ δ μ, At K S A G H σ δ μ → Nw A0 G0 A G → C.ct δ μ → E.ct σ H
def SE (K : PySem.W.Frag) (S : Bs) (t : TS) (δ : Sl) (μ : List Cell) (C : Cn) : Prop :=
  ∀ A G H σ, At K S A G H σ δ μ → ∀ E : Ends, Fi K S A G E C → t E σ H
def GE (K : PySem.W.Frag) (S : Bs) (g : TG) (d : D) (δ : Sl) (μ : List Cell) (C : Sl → List Cell → Prop) : Prop :=
  ∀ A G H σ v, At K S A G H σ δ μ → Rp K A G d v → ∀ Q : St → Hp → Prop, (∀ A' G' H' σ' δ' μ', At K S A' G' H' σ' δ' μ' → Nw A G A' G' → C δ' μ' → Q σ' H') → g v σ H Q

section
variable {K : PySem.W.Frag} {S : Bs} {δ ε : Sl} {μ : List Cell} {ta tb tc te : TE} {t u : TT} {C : D → List Cell → Prop}
/-! ### expressions -/
theorem ee_var {i : Nat} {d : D} (h : δ[i]? = some (some d)) (k : C d μ) : EE K S (tVar i) δ μ C := fun A G H σ a Q q => by
  obtain ⟨v, h1, h2⟩ := a.env.get h
  exact ⟨v, h1, q v d A G H μ a.m Nw.refl h2 k⟩
theorem ee_c {x : V} (k : C (.v x) μ) : EE K S (tC x) δ μ C := fun A G H σ a Q q => q x (.v x) A G H μ a.m Nw.refl (.v x) k
theorem ee_op {r : R2} (h : EE K S ta δ μ fun x μ1 => EE K S tb δ μ1 fun y μ2 => OO K S r x y μ2 C) : EE K S (tOp r ta tb) δ μ C := fun A G H σ a Q q =>
  h A G H σ a _ fun v x A1 G1 H1 μ1 m1 n1 r1 h1 => h1 A1 G1 H1 σ ⟨m1, n1.en a.env⟩ _ fun w y A2 G2 H2 μ2 m2 n2 r2 h2 =>
    h2 A2 G2 H2 v w m2 (n2.rp r1) r2 Q fun z d A3 G3 H3 μ3 m3 n3 r3 c => q z d A3 G3 H3 μ3 m3 ((n1.trans n2).trans n3) r3 c
theorem ee_un {r : V → Hp → VK → Prop} (h : EE K S ta δ μ fun x μ1 => UU K S r x μ1 C) : EE K S (tUn r ta) δ μ C := fun A G H σ a Q q =>
  h A G H σ a _ fun v x A1 G1 H1 μ1 m1 n1 r1 h1 => h1 A1 G1 H1 v m1 r1 Q fun z d A3 G3 H3 μ3 m3 n3 r3 c => q z d A3 G3 H3 μ3 m3 (n1.trans n3) r3 c
theorem ee_cb {r : List V → Hp → VK → Prop} {ts : TA} (h : EA K S ts δ μ fun ds μ1 => CC K S r ds μ1 C) : EE K S (tCB r ts) δ μ C := fun A G H σ a Q q =>
  h A G H σ a _ fun vs ds A1 G1 H1 μ1 m1 n1 r1 h1 => h1 A1 G1 H1 vs m1 r1 Q fun z d A3 G3 H3 μ3 m3 n3 r3 c => q z d A3 G3 H3 μ3 m3 (n1.trans n3) r3 c
theorem ea_nil {C : List D → List Cell → Prop} (k : C [] μ) : EA K S tNil δ μ C := fun A G H σ a Q q => q [] [] A G H μ a.m Nw.refl .nil k
theorem ea_cons {ts : TA} {C : List D → List Cell → Prop} (h : EE K S te δ μ fun x μ1 => EA K S ts δ μ1 fun ds μ2 => C (x :: ds) μ2) : EA K S (tCons te ts) δ μ C := fun A G H σ a Q q =>
  h A G H σ a _ fun v x A1 G1 H1 μ1 m1 n1 r1 h1 => h1 A1 G1 H1 σ ⟨m1, n1.en a.env⟩ _ fun vs ds A2 G2 H2 μ2 m2 n2 r2 c => q (v :: vs) (x :: ds) A2 G2 H2 μ2 m2 (n1.trans n2) (.cons (n2.rp r1) r2) c
theorem small {n : Nat} (h : n ≤ 10000000) : n ≤ sizeLine := Nat.le_trans h (by decide)
theorem smalr {n : Nat} (h : n < 10000000) : n < sizeLine := Nat.lt_of_lt_of_le h (by decide)
theorem ee_tup {ts : TA} (h : EA K S ts δ μ fun ds μ1 => ds.length ≤ 10000000 ∧ C (.tup ds) μ1) : EE K S (tTup ts) δ μ C := fun A G H σ a Q q =>
  h A G H σ a _ fun vs ds A1 G1 H1 μ1 m1 n1 r ⟨hl, c⟩ => by
    refine ⟨small (by rw [← r.len]; exact hl), fun p hp => ?_⟩
    have e := Ex.new (o := .tup vs) (m1.ex.free hp)
    exact q _ _ A1 _ _ μ1 (m1.laid hp) (n1.trans (.of e)) (.tup (.inl upd_same) (r.mono0 e)) c
theorem ee_lst {ts : TA} (h : EA K S ts δ μ fun ds μ1 => ds.length ≤ 10000000 ∧ C (.lst ds) μ1) : EE K S (tLst ts) δ μ C := fun A G H σ a Q q =>
  h A G H σ a _ fun vs ds A1 G1 H1 μ1 m1 n1 r ⟨hl, c⟩ => by
    refine ⟨small (by rw [← r.len]; exact hl), fun p hp => ?_⟩
    have e := Ex.new (o := .lst vs) (m1.ex.free hp)
    exact q _ _ A1 _ _ μ1 (m1.laid hp) (n1.trans (.of e)) (.lst upd_same (r.mono0 e)) c
/-- a list that is to be changed -/
theorem ee_open {ts : TA} (h : EA K S ts δ μ fun ds μ1 => ds.length ≤ 10000000 ∧ C (.own μ1.length) (μ1 ++ [.lst ds])) : EE K S (tLst ts) δ μ C := fun A G H σ a Q q =>
  h A G H σ a _ fun vs ds A1 G1 H1 μ1 m1 n1 r ⟨hl, c⟩ => by
    refine ⟨small (by rw [← r.len]; exact hl), fun p hp => ?_⟩
    refine q _ _ (A1 ++ [p]) G1 _ _ (m1.opened hp r) (n1.trans ⟨⟨[p], rfl⟩, Ex.refl _⟩) (.own ?_) c
    rw [← m1.len, List.getElem?_append_right (Nat.le_refl _), Nat.sub_self]
    rfl
theorem ee_andV (h : EE K S ta δ μ fun x μ1 => ∃ b, x = .bl b ∧ (b = true → EE K S tb δ μ1 C) ∧ (b = false → C (.bl false) μ1)) : EE K S (tAndV ta tb) δ μ C := fun A G H σ a Q q =>
  h A G H σ a _ fun v x A1 G1 H1 μ1 m1 n1 r1 ⟨b, e, h1, h2⟩ => by
    subst e
    have ev := r1.vOf
    subst ev
    refine ⟨b, rfl, ?_⟩
    cases b with
    | true =>
      rw [if_pos rfl]
      exact h1 rfl A1 G1 H1 σ ⟨m1, n1.en a.env⟩ Q fun z d A3 G3 H3 μ3 m3 n3 r3 c => q z d A3 G3 H3 μ3 m3 (n1.trans n3) r3 c
    | false =>
      rw [if_neg Bool.false_ne_true]
      exact q _ _ A1 G1 H1 μ1 m1 n1 r1 (h2 rfl)
theorem ee_orV (h : EE K S ta δ μ fun x μ1 => ∃ b, x = .bl b ∧ (b = true → C (.bl true) μ1) ∧ (b = false → EE K S tb δ μ1 C)) : EE K S (tOrV ta tb) δ μ C := fun A G H σ a Q q =>
  h A G H σ a _ fun v x A1 G1 H1 μ1 m1 n1 r1 ⟨b, e, h1, h2⟩ => by
    subst e
    have ev := r1.vOf
    subst ev
    refine ⟨b, rfl, ?_⟩
    cases b with
    | true =>
      rw [if_pos rfl]
      exact q _ _ A1 G1 H1 μ1 m1 n1 r1 (h1 rfl)
    | false =>
      rw [if_neg Bool.false_ne_true]
      exact h2 rfl A1 G1 H1 σ ⟨m1, n1.en a.env⟩ Q fun z d A3 G3 H3 μ3 m3 n3 r3 c => q z d A3 G3 H3 μ3 m3 (n1.trans n3) r3 c
theorem ee_notV (h : EE K S ta δ μ fun x μ1 => ∃ b, x = .bl b ∧ C (.bl (!b)) μ1) : EE K S (tNotV ta) δ μ C := fun A G H σ a Q q =>
  h A G H σ a _ fun v x A1 G1 H1 μ1 m1 n1 r1 ⟨b, e, h1⟩ => by
    subst e
    have ev := r1.vOf
    subst ev
    exact ⟨b, rfl, q _ _ A1 G1 H1 μ1 m1 n1 (.v _) h1⟩
theorem ee_if (h : ET K S t δ μ fun b μ1 => (b = true → EE K S ta δ μ1 C) ∧ (b = false → EE K S tb δ μ1 C)) : EE K S (tIf t ta tb) δ μ C := fun A G H σ a Q q =>
  h A G H σ a _ fun b A1 G1 H1 μ1 m1 n1 ⟨h1, h2⟩ => by
    cases b with
    | true =>
      rw [if_pos rfl]
      exact h1 rfl A1 G1 H1 σ ⟨m1, n1.en a.env⟩ Q fun z d A3 G3 H3 μ3 m3 n3 r3 c => q z d A3 G3 H3 μ3 m3 (n1.trans n3) r3 c
    | false =>
      rw [if_neg Bool.false_ne_true]
      exact h2 rfl A1 G1 H1 σ ⟨m1, n1.en a.env⟩ Q fun z d A3 G3 H3 μ3 m3 n3 r3 c => q z d A3 G3 H3 μ3 m3 (n1.trans n3) r3 c
theorem ee_chain {r r' : R2} (h : EE K S ta δ μ fun x μ1 => EE K S tb δ μ1 fun y μ2 => OO K S r x y μ2 fun z μ3 => ∃ b, z = .bl b ∧ (b = false → C (.bl false) μ3) ∧ (b = true → EE K S tc δ μ3 fun w μ4 => OO K S r' y w μ4 C)) :
    EE K S (tChain r r' ta tb tc) δ μ C := fun A G H σ a Q q =>
  h A G H σ a _ fun v x A1 G1 H1 μ1 m1 n1 r1 h1 => h1 A1 G1 H1 σ ⟨m1, n1.en a.env⟩ _ fun w y A2 G2 H2 μ2 m2 n2 r2 h2 =>
    h2 A2 G2 H2 v w m2 (n2.rp r1) r2 _ fun z d A3 G3 H3 μ3 m3 n3 r3 ⟨b, e, hf, ht⟩ => by
      subst e
      have ev := r3.vOf
      subst ev
      refine ⟨b, rfl, ?_⟩
      cases b with
      | false =>
        rw [if_neg Bool.false_ne_true]
        exact q _ _ A3 G3 H3 μ3 m3 ((n1.trans n2).trans n3) (.v _) (hf rfl)
      | true =>
        rw [if_pos rfl]
        exact ht rfl A3 G3 H3 σ ⟨m3, ((n1.trans n2).trans n3).en a.env⟩ _ fun w' y' A4 G4 H4 μ4 m4 n4 r4 h4 =>
          h4 A4 G4 H4 w w' m4 ((n3.trans n4).rp r2) r4 Q fun z d A5 G5 H5 μ5 m5 n5 r5 c => q z d A5 G5 H5 μ5 m5 ((((n1.trans n2).trans n3).trans n4).trans n5) r5 c

/-! ### tests -/
section
variable {C : Bool → List Cell → Prop}
theorem et_test (h : EE K S te δ μ fun x μ1 => ∃ b, x = .bl b ∧ C b μ1) : ET K S (tTest te) δ μ C := fun A G H σ a Q q =>
  h A G H σ a _ fun v x A1 G1 H1 μ1 m1 n1 r1 ⟨b, e, c⟩ => by
    subst e
    have ev := r1.vOf
    subst ev
    exact ⟨b, rfl, q b A1 G1 H1 μ1 m1 n1 c⟩
theorem et_B (h : EE K S te δ μ fun x μ1 => ∃ b, x = .bl b ∧ C b μ1) : ET K S (tB te) δ μ C := et_test h
theorem et_yes (k : C true μ) : ET K S tYes δ μ C := fun A G H σ a Q q => q true A G H μ a.m Nw.refl k
theorem et_and (h : ET K S t δ μ fun b μ1 => (b = true → ET K S u δ μ1 C) ∧ (b = false → C false μ1)) : ET K S (tAnd t u) δ μ C := fun A G H σ a Q q =>
  h A G H σ a _ fun b A1 G1 H1 μ1 m1 n1 ⟨h1, h2⟩ => by
    cases b with
    | true =>
      rw [if_pos rfl]
      exact h1 rfl A1 G1 H1 σ ⟨m1, n1.en a.env⟩ Q fun b A3 G3 H3 μ3 m3 n3 c => q b A3 G3 H3 μ3 m3 (n1.trans n3) c
    | false =>
      rw [if_neg Bool.false_ne_true]
      exact q false A1 G1 H1 μ1 m1 n1 (h2 rfl)
theorem et_or (h : ET K S t δ μ fun b μ1 => (b = true → C true μ1) ∧ (b = false → ET K S u δ μ1 C)) : ET K S (tOr t u) δ μ C := fun A G H σ a Q q =>
  h A G H σ a _ fun b A1 G1 H1 μ1 m1 n1 ⟨h1, h2⟩ => by
    cases b with
    | true =>
      rw [if_pos rfl]
      exact q true A1 G1 H1 μ1 m1 n1 (h1 rfl)
    | false =>
      rw [if_neg Bool.false_ne_true]
      exact h2 rfl A1 G1 H1 σ ⟨m1, n1.en a.env⟩ Q fun b A3 G3 H3 μ3 m3 n3 c => q b A3 G3 H3 μ3 m3 (n1.trans n3) c
theorem et_not (h : ET K S t δ μ fun b μ1 => C (!b) μ1) : ET K S (tNot t) δ μ C := fun A G H σ a Q q =>
  h A G H σ a _ fun b A1 G1 H1 μ1 m1 n1 c => q (!b) A1 G1 H1 μ1 m1 n1 c
end

/-! ### statements -/
variable {E : Cn} {ts tu tw : TS} {g : TG}
theorem Fi.at' {A A1 : List Addr} {G G1 : Hp} {F : Ends} {E : Cn} (f : Fi K S A G F E) (n : Nw A G A1 G1) : Fi K S A1 G1 F E :=
  ⟨fun A2 G2 H2 σ2 δ2 μ2 a n2 c => f.nx A2 G2 H2 σ2 δ2 μ2 a (n.trans n2) c, f.rt, fun A2 G2 H2 σ2 δ2 μ2 a n2 c => f.bk A2 G2 H2 σ2 δ2 μ2 a (n.trans n2) c, fun A2 G2 H2 σ2 δ2 μ2 a n2 c => f.ct A2 G2 H2 σ2 δ2 μ2 a (n.trans n2) c⟩
theorem Fi.go {A : List Addr} {G : Hp} {F : Ends} {n : St → Hp → Prop} {m : Sl → List Cell → Prop} {E : Cn} (f : Fi K S A G F E) (h : ∀ A1 G1 H1 σ1 δ1 μ1, At K S A1 G1 H1 σ1 δ1 μ1 → Nw A G A1 G1 → m δ1 μ1 → n σ1 H1) : Fi K S A G { F with nx := n } { E with nx := m } := ⟨h, f.rt, f.bk, f.ct⟩
theorem se_next (k : E.nx δ μ) : SE K S tNext δ μ E := fun A G H σ a F f => f.nx A G H σ δ μ a Nw.refl k
theorem se_seq (h : SE K S ts δ μ { E with nx := fun δ1 μ1 => SE K S tu δ1 μ1 E }) : SE K S (tSeq ts tu) δ μ E := fun A G H σ a F f =>
  h A G H σ a { F with nx := tu F } (f.go fun A1 G1 H1 σ1 δ1 μ1 a1 n1 c => c A1 G1 H1 σ1 a1 F (f.at' n1))
theorem se_asg {i : Nat} (h : EE K S te δ μ fun d μ1 => E.nx (δ.set i (some d)) μ1) : SE K S (tAsg te (gName i)) δ μ E := fun A G H σ a F f =>
  h A G H σ a _ fun v d A1 G1 H1 μ1 m1 n1 r1 c => f.nx A1 G1 H1 _ _ μ1 ⟨m1, En.set r1 i (n1.en a.env)⟩ n1 c
theorem se_asgG (h : EE K S te δ μ fun d μ1 => GE K S g d δ μ1 E.nx) : SE K S (tAsg te g) δ μ E := fun A G H σ a F f =>
  h A G H σ a _ fun v d A1 G1 H1 μ1 m1 n1 r1 c => c A1 G1 H1 σ v ⟨m1, n1.en a.env⟩ r1 _ fun A2 G2 H2 σ2 δ2 μ2 a2 n2 c2 => f.nx A2 G2 H2 σ2 δ2 μ2 a2 (n1.trans n2) c2
theorem se_ret (h : EE K S te δ μ E.rt) : SE K S (tRet te) δ μ E := fun A G H σ a F f =>
  h A G H σ a _ fun v d A1 G1 H1 μ1 m1 n1 r1 c => f.rt A1 G1 H1 v d μ1 m1 r1 c
theorem se_drop (h : EE K S te δ μ fun _ μ1 => E.nx δ μ1) : SE K S (tDrop te) δ μ E := fun A G H σ a F f =>
  h A G H σ a _ fun v d A1 G1 H1 μ1 m1 n1 r1 c => f.nx A1 G1 H1 σ δ μ1 ⟨m1, n1.en a.env⟩ n1 c
theorem se_if (h : ET K S t δ μ fun b μ1 => (b = true → SE K S ts δ μ1 E) ∧ (b = false → SE K S tu δ μ1 E)) : SE K S (tIfS t ts tu) δ μ E := fun A G H σ a F f =>
  h A G H σ a _ fun b A1 G1 H1 μ1 m1 n1 ⟨h1, h2⟩ => by
    cases b with
    | true =>
      rw [if_pos rfl]
      exact h1 rfl A1 G1 H1 σ ⟨m1, n1.en a.env⟩ F (f.at' n1)
    | false =>
      rw [if_neg Bool.false_ne_true]
      exact h2 rfl A1 G1 H1 σ ⟨m1, n1.en a.env⟩ F (f.at' n1)
theorem se_break (k : E.bk δ μ) : SE K S tBreak δ μ E := fun A G H σ a F f => f.bk A G H σ δ μ a Nw.refl k
theorem se_cont (k : E.ct δ μ) : SE K S tCont δ μ E := fun A G H σ a F f => f.ct A G H σ δ μ a Nw.refl k
theorem se_par {i j : Nat} {tz : TA} (h : EA K S tz δ μ fun ds μ1 => ∃ x y, ds = [x, y] ∧ E.nx ((δ.set i (some x)).set j (some y)) μ1) : SE K S (tPar i j tz) δ μ E := fun A G H σ a F f =>
  h A G H σ a _ fun vs ds A1 G1 H1 μ1 m1 n1 r1 ⟨x, y, e, c⟩ => by
    subst e
    cases r1 with
    | cons rx r =>
      cases r with
      | cons ry r =>
        cases r
        exact ⟨_, _, rfl, f.nx A1 G1 H1 _ _ μ1 ⟨m1, En.set ry j (En.set rx i (n1.en a.env))⟩ n1 c⟩
/-- weaker knowledge -/
theorem se_less (l : Less δ ε) (h : SE K S ts ε μ E) : SE K S ts δ μ E := fun A G H σ a F f => h A G H σ ⟨a.m, a.env.less l⟩ F f
/-- consequence -/
theorem EE.imp {C' : D → List Cell → Prop} (h : EE K S te δ μ C) (i : ∀ d μ1, C d μ1 → C' d μ1) : EE K S te δ μ C' := fun A G H σ a Q q =>
  h A G H σ a Q fun v d A1 G1 H1 μ1 m1 n1 r1 c => q v d A1 G1 H1 μ1 m1 n1 r1 (i d μ1 c)
theorem SE.imp {E' : Cn} (h : SE K S ts δ μ E) (i1 : ∀ d m, E.nx d m → E'.nx d m) (i2 : ∀ d m, E.rt d m → E'.rt d m) (i3 : ∀ d m, E.bk d m → E'.bk d m) (i4 : ∀ d m, E.ct d m → E'.ct d m) : SE K S ts δ μ E' := fun A G H σ a F f =>
  h A G H σ a F ⟨fun A G H σ δ μ a n c => f.nx A G H σ δ μ a n (i1 _ _ c), fun A G H v d μ m r c => f.rt A G H v d μ m r (i2 _ _ c), fun A G H σ δ μ a n c => f.bk A G H σ δ μ a n (i3 _ _ c), fun A G H σ δ μ a n c => f.ct A G H σ δ μ a n (i4 _ _ c)⟩

/-! ### targets -/
theorem ge_name {i : Nat} {d : D} {C : Sl → List Cell → Prop} (k : C (δ.set i (some d)) μ) : GE K S (gName i) d δ μ C := fun A G H σ v a r Q q => q A G H _ _ μ ⟨a.m, En.set r i a.env⟩ Nw.refl k
/-- x[i] = d, x an open list -/
theorem ge_setL {to ti : TE} {d : D} {C : Sl → List Cell → Prop} (h : EE K S to δ μ fun x μ1 => EE K S ti δ μ1 fun y μ2 => ∃ k i j l, x = .own k ∧ y = .int i ∧ μ2[k]? = some (.lst l) ∧ ixN l.length i = some j ∧ C δ (μ2.set k (.lst (l.set j d)))) :
    GE K S (gSub to ti rSetL) d δ μ C := fun A G H σ v a r Q q =>
  h A G H σ a _ fun w x A1 G1 H1 μ1 m1 n1 r1 h1 => h1 A1 G1 H1 σ ⟨m1, n1.en a.env⟩ _ fun z y A2 G2 H2 μ2 m2 n2 r2 ⟨k, i, j, l, ex, ey, hc, hj, c⟩ => by
    subst ex ey
    have ev := r2.vOf
    subst ev
    cases r1 with
    | @own _ b hb =>
      have hb2 : A2[k]? = some b := by
        cases (n2.rp (.own hb : Rp K A1 G1 (.own k) (.ref b))) with
        | own h => exact h
      obtain ⟨g, xs, hx, rl⟩ := m2.cel k b _ hb2 hc
      have rd := (n1.trans n2).rp r
      refine ⟨b, xs, i, j, rfl, rfl, hx, by rw [← rl.len]; exact hj, q A2 G2 _ σ δ _ ⟨m2.wrote hb2 hc (rl.set rd j), (n1.trans n2).en a.env⟩ (n1.trans n2) c⟩
end
end PA

set_option Elab.async false
set_option linter.all false
set_option maxRecDepth 100000
set_option maxHeartbeats 2000000
/-! PbLoop: walks, for, while, comprehensions. -/
namespace PA
open PySem L2

/-- J gives the items l -/
def Gives (K : PySem.W.Frag) (S : Bs) (A0 : List Addr) (G0 : Hp) (J : It) (l : List D) (P : List Cell → Prop := fun _ => True) : Prop := ∀ (i : Nat) A G H μ, Mem K S A G H μ → Nw A0 G0 A G → P μ →
  (∀ d, l[i]? = some d → J.go i H ∧ ∀ x H', J.yld i H x H' → ∃ G', Mem K S A G' H' μ ∧ Ex G G' ∧ Rp K A G' d x) ∧ (i = l.length → J.stop i H)
def IE (K : PySem.W.Frag) (S : Bs) (wi : TI) (δ : Sl) (μ : List Cell) (C : List D → (List Cell → Prop) → List Cell → Prop) : Prop :=
  ∀ A G H σ, At K S A G H σ δ μ → ∀ R : It → Hp → Prop, (∀ J l P A' G' H' μ', Mem K S A' G' H' μ' → Nw A G A' G' → Gives K S A' G' J l P → C l P μ' → R J H') → wi σ H R
def yes : List Cell → Prop := fun _ => True
section
variable {K : PySem.W.Frag} {S : Bs} {δ : Sl} {μ : List Cell} {ta tb tc te tl : TE} {C : List D → (List Cell → Prop) → List Cell → Prop}
theorem Nw.lst {A A' : List Addr} {G G' H' : Hp} {a : Addr} {xs : List V} (n : Nw A G A' G') (e : Ex G' H') (h : SqL K G a xs) : SqL K H' a xs := ex_l e (ex_l n.ex h)
theorem gives_list {A0 : List Addr} {G0 : Hp} {a : Addr} {xs : List V} {l : List D} (h : SqL K G0 a xs) (r : RpL K A0 G0 l xs) : Gives K S A0 G0 (Itl K a) l := fun i A G H μ m n _ => by
  have hs := n.lst m.ex h
  refine ⟨fun d hd => ?_, fun e => ⟨xs, hs, by rw [e, r.len]; exact Nat.le_refl _⟩⟩
  obtain ⟨x, hx, rx⟩ := r.get hd
  refine ⟨⟨xs, x, hs, hx⟩, fun y H' ⟨e, hy⟩ => ?_⟩
  subst e
  have z := hy xs hs
  rw [hx] at z
  cases z
  exact ⟨G, m, Ex.refl G, n.rp rx⟩
theorem gives_tup {A0 : List Addr} {G0 : Hp} {a : Addr} {xs : List V} {l : List D} (h : SqT K G0 a xs) (r : RpL K A0 G0 l xs) : Gives K S A0 G0 (Itt K a) l := fun i A G H μ m n _ => by
  have hs := ex_t m.ex (ex_t n.ex h)
  refine ⟨fun d hd => ?_, fun e => ⟨xs, hs, by rw [e, r.len]; exact Nat.le_refl _⟩⟩
  obtain ⟨x, hx, rx⟩ := r.get hd
  refine ⟨⟨xs, x, hs, hx⟩, fun y H' ⟨e, hy⟩ => ?_⟩
  subst e
  have z := hy xs hs
  rw [hx] at z
  cases z
  exact ⟨G, m, Ex.refl G, n.rp rx⟩
theorem lst_sq {G : Hp} {a : Addr} {xs : List V} (h : G a = some (.lst xs)) : SqL K G a xs := .inl (.inl h)
theorem ie_list (h : EE K S tl δ μ fun d μ1 => ∃ l, (d = .lst l ∨ d = .rd l) ∧ C l yes μ1) : IE K S (iList K tl) δ μ C := fun A G H σ a R q =>
  h A G H σ a _ fun v d A1 G1 H1 μ1 m1 n1 r1 ⟨l, e, c⟩ => by
    rcases e with e | e
    · subst e
      cases r1 with
      | lst hs r => exact ⟨_, rfl, ⟨_, ex_l m1.ex (lst_sq hs)⟩, q _ l yes A1 G1 H1 μ1 m1 n1 (gives_list (lst_sq hs) r) c⟩
    · subst e
      cases r1 with
      | rd hs r => exact ⟨_, rfl, ⟨_, ex_l m1.ex hs⟩, q _ l yes A1 G1 H1 μ1 m1 n1 (gives_list hs r) c⟩
theorem ie_tup (h : EE K S tl δ μ fun d μ1 => ∃ l, d = .tup l ∧ C l yes μ1) : IE K S (iTup K tl) δ μ C := fun A G H σ a R q =>
  h A G H σ a _ fun v d A1 G1 H1 μ1 m1 n1 r1 ⟨l, e, c⟩ => by
    subst e
    cases r1 with
    | tup hs r => exact ⟨_, rfl, ⟨_, ex_t m1.ex hs.sq⟩, q _ l yes A1 G1 H1 μ1 m1 n1 (gives_tup hs.sq r) c⟩
/-- lo, lo + 1, .. (n of them) -/
def rng (lo : Int) (n : Nat) : List D := (List.range n).map fun (i : Nat) => D.int (lo + (i : Int))
theorem rng_len {lo : Int} {n : Nat} : (rng lo n).length = n := by unfold rng; rw [List.length_map, List.length_range]
theorem rng_get {lo : Int} {n i : Nat} {d : D} (h : (rng lo n)[i]? = some d) : i < n ∧ d = .int (lo + (i : Int)) := by
  unfold rng at h
  rw [List.getElem?_map] at h
  by_cases hi : i < n
  · rw [List.getElem?_range hi] at h
    cases h
    exact ⟨hi, rfl⟩
  · rw [List.getElem?_eq_none (by rw [List.length_range]; omega)] at h
    cases h
theorem gives_rng {A0 : List Addr} {G0 : Hp} {lo : Int} {n : Nat} : Gives K S A0 G0 (Itr lo n) (rng lo n) := fun i A G H μ m _ _ => by
  refine ⟨fun d hd => ?_, fun e => by rw [e, rng_len]; exact Nat.le_refl _⟩
  obtain ⟨hi, e⟩ := rng_get hd
  refine ⟨hi, fun x H' ⟨e1, e2⟩ => ?_⟩
  subst e1 e2 e
  exact ⟨G, m, Ex.refl G, .v _⟩
theorem ie_rng1 {ts : TA} (h : EA K S ts δ μ fun ds μ1 => ∃ j : Int, ds = [.int j] ∧ -1000000000 ≤ j ∧ j ≤ 1000000000 ∧ C (rng 0 j.toNat) yes μ1) : IE K S (iRng1 ts) δ μ C := fun A G H σ a R q =>
  h A G H σ a _ fun vs ds A1 G1 H1 μ1 m1 n1 r1 ⟨j, e, b1, b2, c⟩ => by
    subst e
    cases r1 with
    | cons rj r =>
      cases r
      have ev := rj.vOf
      subst ev
      exact ⟨j, rfl, by omega, by omega, q _ _ yes A1 G1 H1 μ1 m1 n1 gives_rng c⟩
theorem ie_rng2 {ts : TA} (h : EA K S ts δ μ fun ds μ1 => ∃ i j : Int, ds = [.int i, .int j] ∧ (-1000000000 ≤ i ∧ i ≤ 1000000000 ∧ -1000000000 ≤ j ∧ j ≤ 1000000000) ∧ C (rng i (j - i).toNat) yes μ1) : IE K S (iRng2 ts) δ μ C := fun A G H σ a R q =>
  h A G H σ a _ fun vs ds A1 G1 H1 μ1 m1 n1 r1 ⟨i, j, e, ⟨b1, b2, b3, b4⟩, c⟩ => by
    subst e
    cases r1 with
    | cons ri r =>
      cases r with
      | cons rj r =>
        cases r
        have e1 := ri.vOf
        have e2 := rj.vOf
        subst e1 e2
        exact ⟨i, j, rfl, ⟨by omega, by omega, by omega, by omega⟩, q _ _ yes A1 G1 H1 μ1 m1 n1 gives_rng c⟩
/-- the signs of a text, each a text -/
def signs (s : Str) : List D := s.cps.toList.map fun c => D.str ⟨#[c]⟩
theorem gives_str {A0 : List Addr} {G0 : Hp} {s : Str} : Gives K S A0 G0 (Its s) (signs s) := fun i A G H μ m _ _ => by
  refine ⟨fun d hd => ?_, fun e => by rw [e]; unfold signs; rw [List.length_map]; exact Nat.le_of_eq (by simp)⟩
  unfold signs at hd
  rw [List.getElem?_map] at hd
  cases hc : s.cps.toList[i]? with
  | none =>
    rw [hc] at hd
    cases hd
  | some c =>
    rw [hc] at hd
    cases hd
    have hi : i < s.cps.size := by
      have z := (List.getElem?_eq_some_iff.mp hc).1
      simpa using z
    refine ⟨hi, fun x H' ⟨e1, c', hc', e2⟩ => ?_⟩
    subst e1 e2
    have e3 : s.cps[i]? = some c := by
      rw [← Array.getElem?_toList]
      exact hc
    rw [e3] at hc'
    cases hc'
    exact ⟨G, m, Ex.refl G, .v _⟩
theorem ie_str (h : EE K S tl δ μ fun d μ1 => ∃ s, d = .str s ∧ C (signs s) yes μ1) : IE K S (iStr tl) δ μ C := fun A G H σ a R q =>
  h A G H σ a _ fun v d A1 G1 H1 μ1 m1 n1 r1 ⟨s, e, c⟩ => by
    subst e
    have ev := r1.vOf
    subst ev
    exact ⟨s, rfl, q _ _ yes A1 G1 H1 μ1 m1 n1 gives_str c⟩
/-- pairs, as zip gives them -/
def zipD : List D → List D → List D
  | x :: l, y :: m => .tup [x, y] :: zipD l m
  | _, _ => []
theorem zipD_len : ∀ (l m : List D), (zipD l m).length = min l.length m.length
  | [], m => by simp [zipD]
  | _ :: _, [] => by simp [zipD]
  | x :: l, y :: m => by
    show (zipD l m).length + 1 = _
    rw [zipD_len l m, List.length_cons, List.length_cons]
    omega
theorem zipD_get : ∀ {l m : List D} {i : Nat} {d : D}, (zipD l m)[i]? = some d → ∃ x y, l[i]? = some x ∧ m[i]? = some y ∧ d = .tup [x, y]
  | [], m, i, d, h => by simp [zipD] at h
  | _ :: _, [], i, d, h => by simp [zipD] at h
  | x :: l, y :: m, 0, d, h => by
    have e : D.tup [x, y] = d := by simpa [zipD] using h
    exact ⟨x, y, rfl, rfl, e.symm⟩
  | x :: l, y :: m, i + 1, d, h => by
    obtain ⟨a, b, h1, h2, h3⟩ := zipD_get (l := l) (m := m) (i := i) (d := d) (by simpa [zipD] using h)
    exact ⟨a, b, by simpa using h1, by simpa using h2, h3⟩
theorem pair_new {A : List Addr} {G H : Hp} {T : Addr} {x y : V} {d e : D} (m : Mem K S A G H μ) (hT : H T = none) (rx : Rp K A G d x) (ry : Rp K A G e y) : ∃ G', Mem K S A G' (upd H T (.tup [x, y])) μ ∧ Ex G G' ∧ Rp K A G' (.tup [d, e]) (.ref T) :=
  ⟨_, m.laid hT, Ex.new (m.ex.free hT), .tup (.inl upd_same) (.cons (rx.mono0 (Ex.new (m.ex.free hT))) (.cons (ry.mono0 (Ex.new (m.ex.free hT))) .nil))⟩
theorem gives_zip {A0 : List Addr} {G0 : Hp} {a b : Addr} {xs ys : List V} {l m : List D} (h : SqL K G0 a xs) (r : RpL K A0 G0 l xs) (h' : SqL K G0 b ys) (r' : RpL K A0 G0 m ys) : Gives K S A0 G0 (Itz K a b) (zipD l m) := fun i A G H μ m' n _ => by
  have hs := n.lst m'.ex h
  have hs' := n.lst m'.ex h'
  refine ⟨fun d hd => ?_, fun e => ⟨xs, ys, hs, hs', ?_⟩⟩
  · obtain ⟨x, y, h1, h2, rfl⟩ := zipD_get hd
    obtain ⟨u, hu, ru⟩ := r.get h1
    obtain ⟨w, hw, rw'⟩ := r'.get h2
    refine ⟨⟨xs, ys, u, w, hs, hs', hu, hw⟩, fun z H' ⟨T, u', w', e1, e2, e3, e4, e5⟩ => ?_⟩
    subst e1 e3
    have z1 := e4 xs hs
    have z2 := e5 ys hs'
    rw [hu] at z1
    rw [hw] at z2
    cases z1
    cases z2
    exact pair_new m' e2 (n.rp ru) (n.rp rw')
  · rw [zipD_len, r.len, r'.len] at e
    omega
theorem ie_zip {ts : TA} (h : EA K S ts δ μ fun ds μ1 => ∃ l m, ds = [.lst l, .lst m] ∧ C (zipD l m) yes μ1) : IE K S (iZip K ts) δ μ C := fun A G H σ a R q =>
  h A G H σ a _ fun vs ds A1 G1 H1 μ1 m1 n1 r1 ⟨l, m, e, c⟩ => by
    subst e
    cases r1 with
    | cons ra r =>
      cases r with
      | cons rb r =>
        cases r
        cases ra with
        | lst hs r =>
          cases rb with
          | lst hs' r' => exact ⟨_, _, _, _, rfl, ex_l m1.ex (lst_sq hs), ex_l m1.ex (lst_sq hs'), q _ _ yes A1 G1 H1 μ1 m1 n1 (gives_zip (lst_sq hs) r (lst_sq hs') r') c⟩
theorem gives_zipT {A0 : List Addr} {G0 : Hp} {a b : Addr} {xs ys : List V} {l m : List D} (h : SqT K G0 a xs) (r : RpL K A0 G0 l xs) (h' : SqT K G0 b ys) (r' : RpL K A0 G0 m ys) : Gives K S A0 G0 (RZ.ItzT K a b) (zipD l m) := fun i A G H μ m' n _ => by
  have hs := ex_t m'.ex (ex_t n.ex h)
  have hs' := ex_t m'.ex (ex_t n.ex h')
  refine ⟨fun d hd => ?_, fun e => ⟨xs, ys, hs, hs', ?_⟩⟩
  · obtain ⟨x, y, h1, h2, rfl⟩ := zipD_get hd
    obtain ⟨u, hu, ru⟩ := r.get h1
    obtain ⟨w, hw, rw'⟩ := r'.get h2
    refine ⟨⟨xs, ys, u, w, hs, hs', hu, hw⟩, fun z H' ⟨T, u', w', e1, e2, e3, e4, e5⟩ => ?_⟩
    subst e1 e3
    have z1 := e4 xs hs
    have z2 := e5 ys hs'
    rw [hu] at z1
    rw [hw] at z2
    cases z1
    cases z2
    exact pair_new m' e2 (n.rp ru) (n.rp rw')
  · rw [zipD_len, r.len, r'.len] at e
    omega
/-- zip of two lists or of two tuples -/
theorem ie_zipA {ts : TA} (h : EA K S ts δ μ fun ds μ1 => ∃ l m, (ds = [.lst l, .lst m] ∨ ds = [.tup l, .tup m]) ∧ C (zipD l m) yes μ1) : IE K S (RZ.iZipA K ts) δ μ C := fun A G H σ a R q =>
  h A G H σ a _ fun vs ds A1 G1 H1 μ1 m1 n1 r1 ⟨l, m, e, c⟩ => by
    rcases e with e | e
    · subst e
      cases r1 with
      | cons ra r =>
        cases r with
        | cons rb r =>
          cases r
          cases ra with
          | lst hs r =>
            cases rb with
            | lst hs' r' => exact ⟨_, _, _, _, rfl, .inl ⟨ex_l m1.ex (lst_sq hs), ex_l m1.ex (lst_sq hs'), q _ _ yes A1 G1 H1 μ1 m1 n1 (gives_zip (lst_sq hs) r (lst_sq hs') r') c⟩⟩
    · subst e
      cases r1 with
      | cons ra r =>
        cases r with
        | cons rb r =>
          cases r
          cases ra with
          | tup hs r =>
            cases rb with
            | tup hs' r' => exact ⟨_, _, _, _, rfl, .inr ⟨ex_t m1.ex hs.sq, ex_t m1.ex hs'.sq, q _ _ yes A1 G1 H1 μ1 m1 n1 (gives_zipT hs.sq r hs'.sq r') c⟩⟩
/-- pairs of place and item -/
def enumD (k : Nat) : List D → List D
  | [] => []
  | x :: l => .tup [.int (k : Int), x] :: enumD (k + 1) l
theorem enumD_len : ∀ (k : Nat) (l : List D), (enumD k l).length = l.length
  | _, [] => rfl
  | k, _ :: l => congrArg Nat.succ (enumD_len (k + 1) l)
theorem enumD_get : ∀ {k : Nat} {l : List D} {i : Nat} {d : D}, (enumD k l)[i]? = some d → ∃ x, l[i]? = some x ∧ d = .tup [.int ((k + i : Nat) : Int), x]
  | _, [], _, _, h => by simp [enumD] at h
  | k, x :: l, 0, d, h => by
    have e : D.tup [.int (k : Int), x] = d := by simpa [enumD] using h
    exact ⟨x, rfl, e.symm⟩
  | k, x :: l, i + 1, d, h => by
    obtain ⟨y, h1, h2⟩ := enumD_get (k := k + 1) (l := l) (i := i) (d := d) (by simpa [enumD] using h)
    exact ⟨y, by simpa using h1, by rw [h2, show k + 1 + i = k + (i + 1) by omega]⟩
theorem gives_enum {A0 : List Addr} {G0 : Hp} {a : Addr} {xs : List V} {l : List D} (h : SqL K G0 a xs) (r : RpL K A0 G0 l xs) : Gives K S A0 G0 (Ite K a) (enumD 0 l) := fun i A G H μ m' n _ => by
  have hs := n.lst m'.ex h
  refine ⟨fun d hd => ?_, fun e => ⟨xs, hs, by rw [e, enumD_len, r.len]; exact Nat.le_refl _⟩⟩
  obtain ⟨x, h1, rfl⟩ := enumD_get hd
  obtain ⟨u, hu, ru⟩ := r.get h1
  refine ⟨⟨xs, u, hs, hu⟩, fun z H' ⟨T, u', e1, e2, e3, e4⟩ => ?_⟩
  subst e1 e3
  have z1 := e4 xs hs
  rw [hu] at z1
  cases z1
  have q := pair_new m' e2 (Rp.v (K := K) (A := A) (G := G) (.int (i : Nat))) (n.rp ru)
  rw [Nat.zero_add]
  exact q
theorem ie_enum {ts : TA} (h : EA K S ts δ μ fun ds μ1 => ∃ l, ds = [.lst l] ∧ C (enumD 0 l) yes μ1) : IE K S (iEnum K ts) δ μ C := fun A G H σ a R q =>
  h A G H σ a _ fun vs ds A1 G1 H1 μ1 m1 n1 r1 ⟨l, e, c⟩ => by
    subst e
    cases r1 with
    | cons ra r =>
      cases r
      cases ra with
      | lst hs r => exact ⟨_, _, rfl, ex_l m1.ex (lst_sq hs), q _ _ yes A1 G1 H1 μ1 m1 n1 (gives_enum (lst_sq hs) r) c⟩
theorem gives_rev {A0 : List Addr} {G0 : Hp} {a : Addr} {xs : List V} {l : List D} (h : SqL K G0 a xs) (r : RpL K A0 G0 l xs) : Gives K S A0 G0 (Itv K a xs.length) l.reverse := fun i A G H μ m' n _ => by
  have hs := n.lst m'.ex h
  refine ⟨fun d hd => ?_, fun e => by rw [e, List.length_reverse, r.len]; exact Nat.le_refl _⟩
  have hi : i < l.length := by
    have z := (List.getElem?_eq_some_iff.mp hd).1
    rwa [List.length_reverse] at z
  rw [List.getElem?_reverse hi] at hd
  obtain ⟨u, hu, ru⟩ := r.get hd
  rw [r.len] at hu hi
  refine ⟨⟨hi, xs, u, hs, hu⟩, fun z H' ⟨e1, e2⟩ => ?_⟩
  subst e1
  have z1 := e2 xs hs
  rw [hu] at z1
  cases z1
  exact ⟨G, m', Ex.refl G, n.rp ru⟩
theorem ie_rev {ts : TA} (h : EA K S ts δ μ fun ds μ1 => ∃ l, ds = [.lst l] ∧ C l.reverse yes μ1) : IE K S (iRev K ts) δ μ C := fun A G H σ a R q =>
  h A G H σ a _ fun vs ds A1 G1 H1 μ1 m1 n1 r1 ⟨l, e, c⟩ => by
    subst e
    cases r1 with
    | cons ra r =>
      cases r
      cases ra with
      | lst hs r => exact ⟨_, _, rfl, ex_l m1.ex (lst_sq hs), q _ _ yes A1 G1 H1 μ1 m1 n1 (gives_rev (lst_sq hs) r) c⟩

/-! ### for -/
variable {E : Cn} {g : TG} {tz : TS} {wi : TI} {t : TT}
theorem se_forP (h : IE K S wi δ μ fun l P μ1 => ∃ I : Nat → Sl → List Cell → Prop, (∀ i δ' μ', I i δ' μ' → P μ') ∧ I 0 δ μ1 ∧
      (∀ (i : Nat) x δ' μ', l[i]? = some x → I i δ' μ' → GE K S g x δ' μ' fun δ2 μ2 => SE K S tz δ2 μ2 { nx := I (i + 1), ct := I (i + 1), rt := E.rt, bk := E.nx }) ∧
      ∀ δ' μ', I l.length δ' μ' → E.nx δ' μ') : SE K S (tFor wi g tz) δ μ E := fun A G H σ a F f =>
  h A G H σ a _ fun J l P A1 G1 H1 μ1 m1 n1 gv ⟨I, ip, i0, it, ie⟩ => by
    refine ⟨fun i n σ' H' => n = l.length - i ∧ i ≤ l.length ∧ ∃ A2 G2 δ2 μ2, At K S A2 G2 H' σ' δ2 μ2 ∧ Nw A1 G1 A2 G2 ∧ I i δ2 μ2, ⟨l.length, by omega, Nat.zero_le _, A1, G1, δ, μ1, ⟨m1, n1.en a.env⟩, Nw.refl, i0⟩, ?_⟩
    rintro i n σ' H' ⟨hn, hi, A2, G2, δ2, μ2, a2, n2, w⟩
    obtain ⟨g1, g2⟩ := gv i A2 G2 H' μ2 a2.m n2 (ip i δ2 μ2 w)
    by_cases hlt : i < l.length
    · obtain ⟨x, hx⟩ : ∃ x, l[i]? = some x := ⟨l[i], by simp [hlt]⟩
      obtain ⟨go, yl⟩ := g1 x hx
      refine .inr ⟨go, fun σ3 H3 => ∃ A3 G3 δ3 μ3, At K S A3 G3 H3 σ3 δ3 μ3 ∧ Nw A1 G1 A3 G3 ∧ I (i + 1) δ3 μ3, fun σ3 H3 w3 => ⟨l.length - (i + 1), by omega, rfl, hlt, w3⟩, fun y H3 hy => ?_⟩
      obtain ⟨G3, m3, e3, r3⟩ := yl y H3 hy
      have n3 : Nw A2 G2 A2 G3 := .of e3
      refine it i x δ2 μ2 hx w A2 G3 H3 σ' y ⟨m3, n3.en a2.env⟩ r3 _ fun A4 G4 H4 σ4 δ4 μ4 a4 n4 c => ?_
      refine c A4 G4 H4 σ4 a4 _ ⟨fun A5 G5 H5 σ5 δ5 μ5 a5 n5 c5 => ⟨A5, G5, δ5, μ5, a5, ((n2.trans n3).trans n4).trans n5, c5⟩, f.rt, fun A5 G5 H5 σ5 δ5 μ5 a5 n5 c5 => ?_,
        fun A5 G5 H5 σ5 δ5 μ5 a5 n5 c5 => ⟨A5, G5, δ5, μ5, a5, ((n2.trans n3).trans n4).trans n5, c5⟩⟩
      exact f.nx A5 G5 H5 σ5 δ5 μ5 a5 ((((n1.trans n2).trans n3).trans n4).trans n5) c5
    · have e : i = l.length := by omega
      refine .inl ⟨g2 e, f.nx A2 G2 H' σ' δ2 μ2 a2 (n1.trans n2) (ie δ2 μ2 (by rw [← e]; exact w))⟩
theorem se_for (h : IE K S wi δ μ fun l P μ1 => P = yes ∧ ∃ I : Nat → Sl → List Cell → Prop, I 0 δ μ1 ∧
      (∀ (i : Nat) x δ' μ', l[i]? = some x → I i δ' μ' → GE K S g x δ' μ' fun δ2 μ2 => SE K S tz δ2 μ2 { nx := I (i + 1), ct := I (i + 1), rt := E.rt, bk := E.nx }) ∧
      ∀ δ' μ', I l.length δ' μ' → E.nx δ' μ') : SE K S (tFor wi g tz) δ μ E :=
  se_forP fun A G H σ a R q => h A G H σ a R fun J l P A' G' H' μ' m n gv ⟨e, I, i0, it, ie⟩ => q J l P A' G' H' μ' m n gv ⟨I, fun _ _ _ _ => by rw [e]; exact trivial, i0, it, ie⟩
/-- while, by a word and a number that falls -/
theorem se_while {t : TT} (I : Nat → Sl → List Cell → Prop) (m0 : Nat) (i0 : I m0 δ μ)
    (h : ∀ m δ' μ', I m δ' μ' → ET K S t δ' μ' fun b μ1 => (b = true → SE K S tz δ' μ1 { nx := fun δ2 μ2 => ∃ m', m' < m ∧ I m' δ2 μ2, ct := fun δ2 μ2 => ∃ m', m' < m ∧ I m' δ2 μ2, rt := E.rt, bk := E.nx }) ∧ (b = false → E.nx δ' μ1)) :
    SE K S (tWhile t tz) δ μ E := fun A G H σ a F f => by
  refine ⟨fun m σ' H' => ∃ A2 G2 δ2 μ2, At K S A2 G2 H' σ' δ2 μ2 ∧ Nw A G A2 G2 ∧ I m δ2 μ2, ⟨m0, A, G, δ, μ, a, Nw.refl, i0⟩, ?_⟩
  rintro m σ' H' ⟨A2, G2, δ2, μ2, a2, n2, w⟩
  refine h m δ2 μ2 w A2 G2 H' σ' a2 _ fun b A3 G3 H3 μ3 m3 n3 ⟨h1, h2⟩ => ?_
  cases b with
  | true =>
    rw [if_pos rfl]
    refine ⟨fun σ4 H4 => ∃ m', m' < m ∧ ∃ A4 G4 δ4 μ4, At K S A4 G4 H4 σ4 δ4 μ4 ∧ Nw A G A4 G4 ∧ I m' δ4 μ4, fun σ4 H4 ⟨m', hm, w4⟩ => ⟨m', hm, w4⟩, ?_⟩
    refine h1 rfl A3 G3 H3 σ' ⟨m3, n3.en a2.env⟩ _ ⟨fun A5 G5 H5 σ5 δ5 μ5 a5 n5 ⟨m', hm, c5⟩ => ⟨m', hm, A5, G5, δ5, μ5, a5, (n2.trans n3).trans n5, c5⟩, f.rt, fun A5 G5 H5 σ5 δ5 μ5 a5 n5 c5 => ?_,
      fun A5 G5 H5 σ5 δ5 μ5 a5 n5 ⟨m', hm, c5⟩ => ⟨m', hm, A5, G5, δ5, μ5, a5, (n2.trans n3).trans n5, c5⟩⟩
    exact f.nx A5 G5 H5 σ5 δ5 μ5 a5 ((n2.trans n3).trans n5) c5
  | false =>
    rw [if_neg Bool.false_ne_true]
    exact f.nx A3 G3 H3 σ' δ2 μ3 ⟨m3, n3.en a2.env⟩ (n2.trans n3) (h2 rfl)

/-! ### comprehensions -/
def wipeS (δ : Sl) : List Nat → Sl
  | [] => δ
  | v :: vs => (wipeS δ vs).set v none
theorem wipe_en {A : List Addr} {G : Hp} {δ : Sl} {σ : St} (h : En K A G δ σ) : ∀ vs : List Nat, En K A G (wipeS δ vs) (wipe σ vs)
  | [] => h
  | v :: vs => by
    show En K A G ((wipeS δ vs).set v none) ((wipe σ vs).set v none)
    exact En.unset v none (wipe_en h vs)
theorem wipe_set {σ : St} {i : Nat} {o : Option V} : ∀ vs : List Nat, wipe (σ.set i o) vs = if i ∈ vs then wipe σ vs else (wipe σ vs).set i o
  | [] => by simp [wipe]
  | v :: vs => by
    have ih := wipe_set (σ := σ) (i := i) (o := o) vs
    show (wipe (σ.set i o) vs).set v none = if i ∈ v :: vs then (wipe σ vs).set v none else ((wipe σ vs).set v none).set i o
    rw [ih]
    by_cases e : i = v
    · subst e
      rw [if_pos List.mem_cons_self]
      split
      · rfl
      · rw [List.set_set]
    · by_cases hm : i ∈ vs
      · rw [if_pos hm, if_pos (List.mem_cons_of_mem _ hm)]
      · rw [if_neg hm, if_neg (by simp [e, hm]), List.set_comm _ _ e]
theorem wipe_in {σ : St} {i : Nat} {o : Option V} {vs : List Nat} (h : i ∈ vs) : wipe (σ.set i o) vs = wipe σ vs := by rw [wipe_set, if_pos h]
theorem wipe_twice (σ : St) : ∀ vs : List Nat, wipe (wipe σ vs) vs = wipe σ vs
  | [] => rfl
  | v :: vs => by
    show (wipe ((wipe σ vs).set v none) vs).set v none = (wipe σ vs).set v none
    rw [wipe_set]
    split
    · rw [wipe_twice σ vs]
    · rw [wipe_twice σ vs, List.set_set]
/-- a comprehension's target: it stores at the places vs alone -/
def GW (K : PySem.W.Frag) (S : Bs) (g : TG) (vs : List Nat) (d : D) (δ : Sl) (μ : List Cell) (C : Sl → List Cell → Prop) : Prop :=
  ∀ A G H σ v, At K S A G H σ δ μ → Rp K A G d v → ∀ Q : St → Hp → Prop, (∀ A' G' H' σ' δ' μ', At K S A' G' H' σ' δ' μ' → Nw A G A' G' → wipe σ' vs = wipe σ vs → C δ' μ' → Q σ' H') → g v σ H Q
theorem gw_name {i : Nat} {vs : List Nat} {d : D} {C : Sl → List Cell → Prop} (hi : i ∈ vs) (k : C (δ.set i (some d)) μ) : GW K S (gName i) vs d δ μ C := fun A G H σ v a r Q q =>
  q A G H _ _ μ ⟨a.m, En.set r i a.env⟩ Nw.refl (wipe_in hi) k
theorem gw_pair {i j : Nat} {vs : List Nat} {x y : D} {C : Sl → List Cell → Prop} (hi : i ∈ vs) (hj : j ∈ vs) (k : C ((δ.set i (some x)).set j (some y)) μ) : GW K S (gTup K 2 (gCons (gName i) (gCons (gName j) gNil))) vs (.tup [x, y]) δ μ C := fun A G H σ v a r Q q => by
  cases r with
  | tup hs rl =>
    cases rl with
    | cons rx r =>
      cases r with
      | cons ry r =>
        cases r
        exact ⟨_, _, rfl, ex_t a.m.ex hs.sq, rfl, _, _, rfl, _, _, rfl, rfl, q A G H _ _ μ ⟨a.m, En.set ry j (En.set rx i a.env)⟩ Nw.refl (by rw [wipe_in hj, wipe_in hi]) k⟩
theorem ge_pair {i j : Nat} {x y : D} {C : Sl → List Cell → Prop} (k : C ((δ.set i (some x)).set j (some y)) μ) : GE K S (gTup K 2 (gCons (gName i) (gCons (gName j) gNil))) (.tup [x, y]) δ μ C := fun A G H σ v a r Q q => by
  cases r with
  | tup hs rl =>
    cases rl with
    | cons rx r =>
      cases r with
      | cons ry r =>
        cases r
        exact ⟨_, _, rfl, ex_t a.m.ex hs.sq, rfl, _, _, rfl, _, _, rfl, rfl, q A G H _ _ μ ⟨a.m, En.set ry j (En.set rx i a.env)⟩ Nw.refl k⟩
theorem ge_three {i j n : Nat} {x y z : D} {C : Sl → List Cell → Prop} (k : C (((δ.set i (some x)).set j (some y)).set n (some z)) μ) : GE K S (gTup K 3 (gCons (gName i) (gCons (gName j) (gCons (gName n) gNil)))) (.tup [x, y, z]) δ μ C := fun A G H σ v a r Q q => by
  cases r with
  | tup hs rl =>
    cases rl with
    | cons rx r =>
      cases r with
      | cons ry r =>
        cases r with
        | cons rz r =>
          cases r
          exact ⟨_, _, rfl, ex_t a.m.ex hs.sq, rfl, _, _, rfl, _, _, rfl, _, _, rfl, rfl, q A G H _ _ μ ⟨a.m, En.set rz n (En.set ry j (En.set rx i a.env))⟩ Nw.refl k⟩
theorem ge_four {i j n o : Nat} {x y z w : D} {C : Sl → List Cell → Prop} (k : C ((((δ.set i (some x)).set j (some y)).set n (some z)).set o (some w)) μ) : GE K S (gTup K 4 (gCons (gName i) (gCons (gName j) (gCons (gName n) (gCons (gName o) gNil))))) (.tup [x, y, z, w]) δ μ C := fun A G H σ v a r Q q => by
  cases r with
  | tup hs rl =>
    cases rl with
    | cons rx r =>
      cases r with
      | cons ry r =>
        cases r with
        | cons rz r =>
          cases r with
          | cons rw' r =>
            cases r
            exact ⟨_, _, rfl, ex_t a.m.ex hs.sq, rfl, _, _, rfl, _, _, rfl, _, _, rfl, _, _, rfl, rfl, q A G H _ _ μ ⟨a.m, En.set rw' o (En.set rz n (En.set ry j (En.set rx i a.env)))⟩ Nw.refl k⟩
theorem Nw.wipeE {A A' : List Addr} {G G' : Hp} (n : Nw A G A' G') {δ : Sl} {σ : St} (h : En K A G δ σ) (vs : List Nat) : En K A' G' (wipeS δ vs) (wipe σ vs) := n.en (wipe_en h vs)
/-! content that hangs on the first n open lists alone -/
def Cell.lt (n : Nat) : Cell → Bool
  | .lst l => D.ltL n l
  | .off => true
def cellsLt (n : Nat) (μ : List Cell) : Bool := μ.all (Cell.lt n)
theorem cellsLt_at {n : Nat} {μ : List Cell} (h : cellsLt n μ = true) {k : Nat} {c : Cell} (hk : μ[k]? = some c) : c.lt n = true := List.all_eq_true.mp h c (List.mem_of_getElem? hk)
mutual
theorem Rp.scope {A : List Addr} {G : Hp} : ∀ {d : D} {x : V}, Rp K A G d x → d.lt A.length = true
  | _, _, .v x => rfl
  | _, _, .own h => decide_eq_true (List.getElem?_eq_some_iff.mp h).1
  | _, _, .lst h r => RpL.scope r
  | _, _, .rd h r => RpL.scope r
  | _, _, .tup h r => RpL.scope r
  | _, _, .dic n h r => RpL.scope r
  | _, _, .exc (d := d) h1 h2 r => show D.lt A.length d = true from Rp.scope r
theorem RpL.scope {A : List Addr} {G : Hp} : ∀ {l : List D} {xs : List V}, RpL K A G l xs → D.ltL A.length l = true
  | _, _, .nil => rfl
  | _, _, .cons (d := d) (l := l) h r => by
    exact Bool.and_eq_true_iff.mpr ⟨Rp.scope h, RpL.scope r⟩
end
theorem Mem.scope {A : List Addr} {G H : Hp} (m : Mem K S A G H μ) : cellsLt μ.length μ = true := by
  refine List.all_eq_true.mpr fun c hc => ?_
  obtain ⟨k, hk⟩ := List.getElem?_of_mem hc
  have hlt : k < A.length := by rw [m.len]; exact (List.getElem?_eq_some_iff.mp hk).1
  have hA : A[k]? = some A[k] := by simp [hlt]
  have q := m.cel k _ c hA hk
  cases c with
  | off => rfl
  | lst l =>
    obtain ⟨_, xs, _, r⟩ := q
    rw [← m.len]
    exact r.scope
/-- the last open list is let go of, shut -/
theorem Mem.popShut {A : List Addr} {G H : Hp} {a : Addr} {l : List D} {μ : List Cell} (hk : S.A.length ≤ A.length) (m : Mem K S (A ++ [a]) G H (μ ++ [.lst l])) (hμ : cellsLt A.length μ = true) (hl : D.ltL A.length l = true) : ∃ xs, H a = some (.lst xs) ∧ G a = none ∧ RpL K A G l xs ∧ Mem K S A (upd G a (.lst xs)) H μ := by
  have hA : (A ++ [a])[A.length]? = some a := by rw [List.getElem?_append_right (Nat.le_refl _), Nat.sub_self]; rfl
  have hlen : A.length = μ.length := by
    have z := m.len
    rw [List.length_append, List.length_append] at z
    simpa using z
  have hc : (μ ++ [Cell.lst l])[A.length]? = some (.lst l) := by rw [hlen, List.getElem?_append_right (Nat.le_refl _), Nat.sub_self]; rfl
  have hf : ∀ k b, k < A.length → (A ++ [a])[k]? = some b → A[k]? = some b := fun k b h1 h2 => by
    rw [List.getElem?_append_left h1] at h2
    exact h2
  obtain ⟨g, xs, hx, r⟩ := m.cel A.length a _ hA hc
  have m2 := m.shut hk hA hc hx
  refine ⟨xs, hx, g, r.keep hf hl, ?_⟩
  exact {
    ex := m2.ex
    exG := m2.exG
    pre := by
      obtain ⟨B, hB, hb⟩ := m2.pre
      have e : A = (A ++ [a]).take A.length := by rw [List.take_append_of_le_length (Nat.le_refl _), List.take_length]
      refine ⟨B.take (A.length - S.A.length), ?_, fun b q => hb b (List.mem_of_mem_take q)⟩
      have e2 : (A ++ [a]).take A.length = S.A ++ B.take (A.length - S.A.length) := by rw [hB, List.take_append, List.take_of_length_le hk]
      exact e.trans e2
    new := m2.new
    keep := m2.keep
    cel := fun k b c h1 h2 => by
      have hk1 := (List.getElem?_eq_some_iff.mp h1).1
      have q := m2.cel k b c (by rw [List.getElem?_append_left hk1]; exact h1) (by
        rw [List.getElem?_set_ne (by omega), List.getElem?_append_left (by rw [← hlen]; exact hk1)]
        exact h2)
      have hcl := cellsLt_at hμ h2
      cases c with
      | off => trivial
      | lst l' =>
        obtain ⟨g', ys, hy, r'⟩ := q
        exact ⟨g', ys, hy, r'.keep hf hcl⟩
    len := hlen
    nd := (List.nodup_append.mp m2.nd).1
    al := fun b hb => m2.al b (List.mem_append_left _ hb) }
/-- [e for .. in .. if ..]: by a word over (turn, what it holds so far, the open lists) -/
theorem ee_lcI {vs : List Nat} {C : D → List Cell → Prop} (h : IE K S wi δ μ fun l P μ1 => ∃ I : Nat → List D → List Cell → Prop, (∀ i acc μ', I i acc μ' → P (μ' ++ [.lst acc])) ∧ I 0 [] μ1 ∧ (∀ i acc μ', I i acc μ' → μ'.length = μ1.length ∧ cellsLt μ1.length μ' = true ∧ D.ltL μ1.length acc = true) ∧
      (∀ (i : Nat) x acc μ', l[i]? = some x → I i acc μ' → GW K S g vs x (wipeS δ vs) (μ' ++ [.lst acc]) fun δ2 μ2 => ET K S t δ2 μ2 fun b μ3 =>
        (b = true → EE K S te δ2 μ3 fun d μ4 => ∃ μ5, μ4 = μ5 ++ [.lst acc] ∧ acc.length < 10000000 ∧ I (i + 1) (acc ++ [d]) μ5) ∧ (b = false → ∃ μ5, μ3 = μ5 ++ [.lst acc] ∧ I (i + 1) acc μ5)) ∧
      ∀ acc μ', I l.length acc μ' → C (.lst acc) μ') : EE K S (tLc wi g t te vs) δ μ C := fun A G H σ a Q q =>
  h A G H σ a _ fun J l P A1 G1 H1 μ1 m1 n1 gv ⟨I, ip, i0, il, it, ie⟩ => by
    intro p hp
    have hlen0 : A1.length = μ1.length := m1.len
    refine ⟨fun i n H' => n = l.length - i ∧ i ≤ l.length ∧ ∃ G2 acc μ2, Mem K S (A1 ++ [p]) G2 H' (μ2 ++ [.lst acc]) ∧ Ex G1 G2 ∧ I i acc μ2, ⟨l.length, by omega, Nat.zero_le _, G1, [], μ1, m1.opened hp .nil, Ex.refl _, i0⟩, ?_⟩
    rintro i n H' ⟨hn, hi, G2, acc, μ2, m2, e2, w⟩
    have n2 : Nw A1 G1 (A1 ++ [p]) G2 := ⟨⟨[p], rfl⟩, e2⟩
    obtain ⟨g1, g2⟩ := gv i _ G2 H' _ m2 n2 (ip i acc μ2 w)
    have hS : S.A.length ≤ A1.length := by
      obtain ⟨B, hB, _⟩ := m1.pre
      rw [hB, List.length_append]
      omega
    by_cases hlt : i < l.length
    · obtain ⟨x, hx⟩ : ∃ x, l[i]? = some x := ⟨l[i], by simp [hlt]⟩
      obtain ⟨go, yl⟩ := g1 x hx
      refine .inr ⟨go, fun H3 => ∃ G3 acc3 μ3, Mem K S (A1 ++ [p]) G3 H3 (μ3 ++ [.lst acc3]) ∧ Ex G1 G3 ∧ I (i + 1) acc3 μ3, fun H3 w3 => ⟨l.length - (i + 1), by omega, rfl, hlt, w3⟩, fun y H3 hy => ?_⟩
      obtain ⟨G3, m3, e3, r3⟩ := yl y H3 hy
      have n3 : Nw (A1 ++ [p]) G2 (A1 ++ [p]) G3 := .of e3
      have en3 := ((n1.trans n2).trans n3).wipeE a.env vs
      refine it i x acc μ2 hx w _ G3 H3 _ y ⟨m3, en3⟩ r3 _ fun A4 G4 H4 σ4 δ4 μ4 a4 n4 hw c => ?_
      refine ⟨by rw [hw, wipe_twice], ?_⟩
      have same : ∀ {A5 : List Addr} {G5 H5 : Hp} {acc' : List D} {μ5 : List Cell}, Mem K S A5 G5 H5 (μ5 ++ [.lst acc']) → Nw (A1 ++ [p]) G3 A5 G5 → μ5.length = μ1.length → A5 = A1 ++ [p] := fun {A5 G5 H5 acc' μ5} m5 n5 hl => by
        obtain ⟨⟨B, hB⟩, _⟩ := n5
        have z := m5.len
        rw [hB, List.length_append, List.length_append, List.length_append, hl] at z
        have hb : B.length = 0 := by simp at z; omega
        have hb2 : B = [] := List.length_eq_zero_iff.mp hb
        rw [hB, hb2, List.append_nil]
      refine c A4 G4 H4 σ4 a4 _ fun b A5 G5 H5 μ5 m5 n5 ⟨ht, hf⟩ => ?_
      cases b with
      | true =>
        rw [if_pos rfl]
        refine ht rfl A5 G5 H5 σ4 ⟨m5, n5.en a4.env⟩ _ fun v d A6 G6 H6 μ6 m6 n6 r6 ⟨μ7, e7, hz, w7⟩ => ?_
        subst e7
        have eA := same m6 ((n4.trans n5).trans n6) (il _ _ _ w7).1
        subst eA
        have hA : (A1 ++ [p])[A1.length]? = some p := by rw [List.getElem?_append_right (Nat.le_refl _), Nat.sub_self]; rfl
        have hl7 : A1.length = μ7.length := by rw [hlen0, (il _ _ _ w7).1]
        have hc : (μ7 ++ [Cell.lst acc])[A1.length]? = some (.lst acc) := by rw [hl7, List.getElem?_append_right (Nat.le_refl _), Nat.sub_self]; rfl
        obtain ⟨gp, xs, hxs, rx⟩ := m6.cel A1.length p _ hA hc
        refine ⟨xs, hxs, smalr (by rw [← rx.len]; exact hz), G6, acc ++ [d], μ7, ?_, (((e2.trans e3).trans n4.ex).trans n5.ex).trans n6.ex, w7⟩
        have mw := m6.wrote hA hc (rx.append (.cons r6 .nil))
        have es : (μ7 ++ [Cell.lst acc]).set A1.length (.lst (acc ++ [d])) = μ7 ++ [.lst (acc ++ [d])] := by
          rw [hl7, List.set_append_right _ _ (Nat.le_refl _), Nat.sub_self]
          rfl
        rw [es] at mw
        exact mw
      | false =>
        rw [if_neg Bool.false_ne_true]
        obtain ⟨μ7, e7, w7⟩ := hf rfl
        subst e7
        have eA := same m5 (n4.trans n5) (il _ _ _ w7).1
        subst eA
        exact ⟨G5, acc, μ7, m5, ((e2.trans e3).trans n4.ex).trans n5.ex, w7⟩
    · have e : i = l.length := by omega
      refine .inl ⟨g2 e, ?_⟩
      obtain ⟨w1, w2, w3⟩ := il _ _ _ w
      obtain ⟨xs, hxs, gp, rx, mp⟩ := m2.popShut hS (by rw [hlen0]; exact w2) (by rw [hlen0]; exact w3)
      have ne := Ex.new (o := .lst xs) gp
      exact q (.ref p) (.lst acc) A1 _ H' μ2 mp (n1.trans (.of (e2.trans ne))) (.lst upd_same (rx.mono0 ne)) (ie acc μ2 (by rw [← e]; exact w))
/-- .. whose elements change nothing -/
theorem ee_lc {vs : List Nat} {C : D → List Cell → Prop} (h : IE K S wi δ μ fun l P μ1 => (∀ c, P μ1 → P (μ1 ++ [c])) ∧ P μ1 ∧ ∃ (f : D → Bool) (e : D → D), l.length ≤ 10000000 ∧ (∀ x ∈ l, f x = true → (e x).lt μ1.length = true) ∧
      (∀ x acc, x ∈ l → GW K S g vs x (wipeS δ vs) (μ1 ++ [.lst acc]) fun δ2 μ2 => ET K S t δ2 μ2 fun b μ3 => b = f x ∧ μ3 = μ1 ++ [.lst acc] ∧ (b = true → EE K S te δ2 μ3 fun d μ4 => d = e x ∧ μ4 = μ1 ++ [.lst acc])) ∧
      C (.lst ((l.filter f).map e)) μ1) : EE K S (tLc wi g t te vs) δ μ C := by
  refine ee_lcI fun A G H σ a R q => h A G H σ a R fun J l P A1 G1 H1 μ1 m1 n1 gv ⟨hP, hP1, f, e, hl, hno, ht, c⟩ => q J l P A1 G1 H1 μ1 m1 n1 gv ?_
  refine ⟨fun i acc μ' => μ' = μ1 ∧ acc = ((l.take i).filter f).map e, fun i acc μ' w => by rw [w.1]; exact hP _ hP1, ⟨rfl, by simp⟩, fun i acc μ' w => by
    rw [w.1, w.2]
    refine ⟨rfl, m1.scope, D.ltL_all.mpr fun d hd => ?_⟩
    obtain ⟨x, hx, rfl⟩ := List.mem_map.mp hd
    obtain ⟨hx1, hx2⟩ := List.mem_filter.mp hx
    exact hno x (List.mem_of_mem_take hx1) hx2, fun i x acc μ' hx w => ?_, fun acc μ' w => ?_⟩
  · obtain ⟨rfl, ea⟩ := w
    have hm : x ∈ l := List.mem_of_getElem? hx
    have ht1 : l.take (i + 1) = l.take i ++ [x] := by
      obtain ⟨hi, e1⟩ := List.getElem?_eq_some_iff.mp hx
      rw [List.take_succ, hx]
      rfl
    have hlen : acc.length < 10000000 := by
      have h1 : acc.length ≤ i := by
        rw [ea, List.length_map]
        exact Nat.le_trans (List.length_filter_le _ _) (by rw [List.length_take]; omega)
      have h2 := (List.getElem?_eq_some_iff.mp hx).1
      omega
    intro A2 G2 H2 σ2 v2 a2 r2 Q2 q2
    refine ht x acc hm A2 G2 H2 σ2 v2 a2 r2 Q2 fun A3 G3 H3 σ3 δ3 μ3 a3 n3 hw c3 => q2 A3 G3 H3 σ3 δ3 μ3 a3 n3 hw ?_
    intro A4 G4 H4 σ4 a4 Q4 q4
    refine c3 A4 G4 H4 σ4 a4 Q4 fun b A5 G5 H5 μ5 m5 n5 ⟨eb, em, c5⟩ => q4 b A5 G5 H5 μ5 m5 n5 ⟨fun hb => ?_, fun hb => ?_⟩
    · refine (c5 hb).imp fun d μ6 ⟨ed, e6⟩ => ⟨_, e6, hlen, rfl, ?_⟩
      rw [ea, ht1, List.filter_append, List.map_append, List.filter_cons, if_pos (by rw [← eb]; exact hb), ed]
      rfl
    · refine ⟨_, em, rfl, ?_⟩
      rw [ea, ht1, List.filter_append, List.map_append, List.filter_cons, if_neg (by rw [← eb, hb]; exact Bool.false_ne_true)]
      simp
  · obtain ⟨rfl, ea⟩ := w
    rw [ea, List.take_length]
    exact c
end
end PA

set_option Elab.async false
set_option linter.all false
set_option maxRecDepth 100000
set_option maxHeartbeats 2000000
/-! PbCall: promises over data with open lists, how a def keeps one, how a call uses it. -/
namespace PA
open PySem L2
def Cell.ren (f : Nat → Nat) : Cell → Cell
  | .lst l => .lst (D.renL f l)
  | .off => .off
def Cell.hs (p : Nat → Bool) : Cell → Bool
  | .lst l => D.hsL p l
  | .off => true
/-- THE PROMISE: for each t that suits (pre), called with the data arg t while the open lists handed in hold cel t, it ends with post (behind the lists handed in come its new ones), or lets an error out by exc -/
def Pro (K : PySem.W.Frag) {T : Type} (cel : T → List Cell) (arg : T → List D) (pre : T → Prop) (post : T → D → List Cell → Prop) (exc : T → Addr → D → List Cell → Prop) : Sp := fun vs H Q E =>
  ∃ (t : T) (A : List Addr) (G : Hp), pre t ∧ Mem K ⟨A, G, H⟩ A G H (cel t) ∧ RpL K A G (arg t) vs ∧
    (∀ v d B G' H' μ, Mem K ⟨A, G, H⟩ (A ++ B) G' H' μ → Rp K (A ++ B) G' d v → post t d μ → Q v H') ∧
    ∀ c dx u d G' H' μ, Mem K ⟨A, G, H⟩ A G' H' μ → H dx = none → G' dx = none → H' dx = some (.xd [(("value" : Str), u)]) → Rp K A G' d u → exc t c d μ → E (.ref c) (some dx) H'
/-- .. without open lists -/
abbrev ProP (K : PySem.W.Frag) {T : Type} (arg : T → List D) (pre : T → Prop) (post : T → D → Prop) (exc : T → Addr → D → Prop) : Sp :=
  Pro K (fun _ => []) arg pre (fun t d μ => μ = [] ∧ post t d) (fun t c d _ => exc t c d)
/-- .. that gives one new list -/
abbrev ProN (K : PySem.W.Frag) {T : Type} (arg : T → List D) (pre : T → Prop) (post : T → List D → Prop) (exc : T → Addr → D → Prop) : Sp :=
  Pro K (fun _ => []) arg pre (fun t d μ => ∃ l, d = .own 0 ∧ μ = [.lst l] ∧ D.ltL 0 l = true ∧ post t l) (fun t c d _ => exc t c d)
section
variable {K : PySem.W.Frag} {S : Bs} {δ : Sl} {μ ν : List Cell} {A A' B : List Addr} {G H G' H' : Hp}
theorem getD_get {A : List Addr} {k : Nat} (h : k < A.length) : A[k]? = some (A.getD k 0) := by
  rw [List.getD_eq_getElem?_getD, List.getElem?_eq_getElem h]
  rfl
theorem getD_cell {μ : List Cell} {k : Nat} (h : k < μ.length) : μ[k]? = some (μ.getD k .off) := by
  rw [List.getD_eq_getElem?_getD, List.getElem?_eq_getElem h]
  rfl
theorem CellAt.ren {f : Nat → Nat} {p : Nat → Bool} {a : Addr} {c : Cell} (hf : ∀ k a, p k = true → A[k]? = some a → A'[f k]? = some a) (h : CellAt K A G H a c) (hc : c.hs p = true) : CellAt K A' G H a (c.ren f) := by
  cases c with
  | off => trivial
  | lst l =>
    obtain ⟨g, xs, hx, r⟩ := h
    exact ⟨g, xs, hx, r.ren hf hc⟩
/-! ### letting go -/
def fk (n : Nat) (ks : List Nat) (k : Nat) : Nat := if k < n then k else n + ks.idxOf k
def pk (n : Nat) (ks : List Nat) (k : Nat) : Bool := decide (k < n) || ks.contains k
def kept (n : Nat) (ks : List Nat) (μ : List Cell) : List Cell := (μ.take n ++ ks.map fun k => μ.getD k .off).map (Cell.ren (fk n ks))
theorem fk_at {ks : List Nat} (hks : ∀ k ∈ ks, S.A.length ≤ k ∧ k < A.length) (hA : ∃ B, A = S.A ++ B) : ∀ k a, pk S.A.length ks k = true → A[k]? = some a → (S.A ++ ks.map fun k => A.getD k 0)[fk S.A.length ks k]? = some a := fun k a hp h => by
  obtain ⟨B, hB⟩ := hA
  unfold fk
  by_cases hk : k < S.A.length
  · rw [if_pos hk, List.getElem?_append_left hk]
    rw [hB, List.getElem?_append_left hk] at h
    exact h
  · rw [if_neg hk]
    have hm : k ∈ ks := by
      unfold pk at hp
      rw [decide_eq_false hk, Bool.false_or] at hp
      simpa using hp
    rw [List.getElem?_append_right (by omega), Nat.add_sub_cancel_left, List.getElem?_map, List.getElem?_eq_getElem (List.idxOf_lt_length_of_mem hm)]
    have e : ks[ks.idxOf k]'(List.idxOf_lt_length_of_mem hm) = k := List.getElem_idxOf (List.idxOf_lt_length_of_mem hm)
    rw [e]
    show some (A.getD k 0) = some a
    rw [← getD_get (hks k hm).2, h]
theorem Mem.trim {ks : List Nat} (m : Mem K S A G H μ) (hn : ks.Nodup) (hks : ∀ k ∈ ks, S.A.length ≤ k ∧ k < μ.length) (hc : ∀ c ∈ μ.take S.A.length ++ ks.map (fun k => μ.getD k .off), c.hs (pk S.A.length ks) = true) :
    Mem K S (S.A ++ ks.map fun k => A.getD k 0) G H (kept S.A.length ks μ) := by
  obtain ⟨B, hB, hb⟩ := id m.pre
  have hksA : ∀ k ∈ ks, S.A.length ≤ k ∧ k < A.length := fun k hk => by rw [m.len]; exact hks k hk
  have hf := fk_at hksA ⟨B, hB⟩
  have hnA : S.A.length ≤ A.length := by rw [hB, List.length_append]; omega
  have inB : ∀ k ∈ ks, A.getD k 0 ∈ B := fun k hk => by
    have h1 := getD_get (hksA k hk).2
    have h2 : (S.A ++ B)[k]? = some (A.getD k 0) := by rw [← hB]; exact h1
    rw [List.getElem?_append_right (hksA k hk).1] at h2
    exact List.mem_of_getElem? h2
  exact {
    ex := m.ex
    exG := m.exG
    pre := ⟨_, rfl, fun b hb2 => by
      obtain ⟨k, hk, rfl⟩ := List.mem_map.mp hb2
      exact hb _ (inB k hk)⟩
    new := m.new
    keep := m.keep
    cel := fun k a c h1 h2 => by
      unfold kept at h2
      rw [List.getElem?_map] at h2
      by_cases hk : k < S.A.length
      · rw [List.getElem?_append_left hk] at h1
        have hk2 : k < (μ.take S.A.length).length := by rw [List.length_take, ← m.len]; omega
        rw [List.getElem?_append_left hk2, List.getElem?_take_of_lt hk] at h2
        cases q : μ[k]? with
        | none => rw [q] at h2; cases h2
        | some c0 =>
          rw [q] at h2
          cases h2
          have hm : c0 ∈ μ.take S.A.length := List.mem_of_getElem? (by rw [List.getElem?_take_of_lt hk]; exact q)
          exact (m.cel k a c0 (by rw [hB, List.getElem?_append_left hk]; exact h1) q).ren hf (hc c0 (List.mem_append_left _ hm))
      · have hlt : (μ.take S.A.length).length = S.A.length := by rw [List.length_take, ← m.len]; omega
        rw [List.getElem?_append_right (by omega), List.getElem?_map] at h1
        rw [List.getElem?_append_right (by omega), hlt, List.getElem?_map] at h2
        cases q : ks[k - S.A.length]? with
        | none => rw [q] at h1; cases h1
        | some j =>
          rw [q] at h1 h2
          cases h1
          cases h2
          have hj : j ∈ ks := List.mem_of_getElem? q
          exact (m.cel j _ _ (getD_get (hksA j hj).2) (getD_cell (hks j hj).2)).ren hf (hc _ (List.mem_append_right _ (List.mem_map_of_mem hj)))
    len := by
      unfold kept
      rw [List.length_map, List.length_append, List.length_append, List.length_map, List.length_map, List.length_take, ← m.len]
      omega
    nd := by
      refine List.nodup_append.mpr ⟨?_, ?_, fun a ha b hb2 e => ?_⟩
      · have q := m.nd
        rw [hB] at q
        exact (List.nodup_append.mp q).1
      · refine List.pairwise_map.mpr ?_
        refine List.Pairwise.imp_of_mem (fun {i j} hi hj hij e => hij ?_) hn
        have h1 := getD_get (hksA i hi).2
        have h2 := getD_get (hksA j hj).2
        rw [e, ← h2] at h1
        obtain ⟨p1, e1⟩ := List.getElem?_eq_some_iff.mp (getD_get (hksA i hi).2)
        obtain ⟨p2, e2⟩ := List.getElem?_eq_some_iff.mp (getD_get (hksA j hj).2)
        exact (List.getElem_inj m.nd).mp (e1.trans (e.trans e2.symm))
      · obtain ⟨k, hk, rfl⟩ := List.mem_map.mp hb2
        have q := m.nd
        rw [hB] at q
        exact (List.nodup_append.mp q).2.2 a ha _ (inB k hk) e
    al := fun a ha => by
      refine m.al a ?_
      rcases List.mem_append.mp ha with ha | ha
      · rw [hB]; exact List.mem_append_left _ ha
      · obtain ⟨k, hk, rfl⟩ := List.mem_map.mp ha
        exact List.mem_of_getElem? (getD_get (hksA k hk).2) }
/-- what is wished of an error that leaves -/
def Wi (K : PySem.W.Frag) (S : Bs) (E : XK) (CE : Addr → D → List Cell → Prop) : Prop :=
  ∀ c dx u d A G H μ, Mem K S A G H μ → S.H dx = none → G dx = none → H dx = some (.xd [(("value" : Str), u)]) → Rp K A G d u → CE c d μ → E (.ref c) (some dx) H
theorem Wi.none {E : XK} : Wi K S E (fun _ _ _ => False) := fun _ _ _ _ _ _ _ _ _ _ _ _ _ z => z.elim
/-- how a def begins -/
def startS (N : List Str) (ds : List D) : Sl := ds.map some ++ List.replicate (N.length - ds.length) none
theorem start_en {N : List Str} : ∀ {ds : List D} {vs : List V}, RpL K A G ds vs → En K A G (ds.map some ++ List.replicate (N.length - ds.length) none) (vs.map some ++ List.replicate (N.length - vs.length) none) := by
  have fill : ∀ n : Nat, En K A G (List.replicate n none) (List.replicate n none) := by
    intro n
    induction n with
    | zero => exact .nil
    | succ n ih => exact .skip ih
  have key : ∀ {ds : List D} {vs : List V} (n : Nat), RpL K A G ds vs → En K A G (ds.map some ++ List.replicate n none) (vs.map some ++ List.replicate n none) := by
    intro ds
    induction ds with
    | nil =>
      intro vs n h
      cases h
      exact fill n
    | cons d ds ih =>
      intro vs n h
      cases h with
      | cons h r => exact .cons h (ih n r)
  intro ds vs h
  rw [h.len]
  have := key (N.length - vs.length) h
  exact this
/-- a value given back: ks are the lists of one's own that go with it -/
def Gave (S : Bs) (P : D → List Cell → Prop) (d : D) (μ : List Cell) : Prop :=
  ∃ ks : List Nat, ks.Nodup ∧ (∀ k ∈ ks, S.A.length ≤ k ∧ k < μ.length) ∧ d.hs (pk S.A.length ks) = true ∧ (∀ c ∈ μ.take S.A.length ++ ks.map (fun k => μ.getD k .off), c.hs (pk S.A.length ks) = true) ∧ P (d.ren (fk S.A.length ks)) (kept S.A.length ks μ)
theorem pk_lt {n : Nat} {ks : List Nat} : ∀ k, decide (k < n) = true → pk n ks k = true := fun k h => by
  unfold pk
  rw [h]
  rfl
theorem Cell.hs_mono {p q : Nat → Bool} (hp : ∀ k, p k = true → q k = true) {c : Cell} (h : c.hs p = true) : c.hs q = true := by
  cases c with
  | off => rfl
  | lst l => exact D.hsL_mono hp h
theorem Cell.lt_hs {n : Nat} {c : Cell} : c.lt n = c.hs fun k => decide (k < n) := by cases c <;> rfl
theorem Cell.ren_id {f : Nat → Nat} {p : Nat → Bool} (hf : ∀ k, p k = true → f k = k) {c : Cell} (h : c.hs p = true) : c.ren f = c := by
  cases c with
  | off => rfl
  | lst l => exact congrArg Cell.lst (D.renL_id hf h)
theorem fk_lt {n : Nat} {ks : List Nat} : ∀ k, decide (k < n) = true → fk n ks k = k := fun k h => if_pos (of_decide_eq_true h)
theorem map_ren {n : Nat} {ks : List Nat} : ∀ {μ : List Cell}, cellsLt n μ = true → μ.map (Cell.ren (fk n ks)) = μ
  | [], _ => rfl
  | c :: μ, h => by
    unfold cellsLt at h
    rw [List.all_cons, Bool.and_eq_true] at h
    rw [List.map_cons, map_ren h.2, Cell.ren_id fk_lt (by rw [← Cell.lt_hs]; exact h.1)]
/-- nothing new goes with it -/
theorem gave {P : D → List Cell → Prop} {d : D} (h1 : d.lt S.A.length = true) (h2 : cellsLt S.A.length (μ.take S.A.length) = true) (h : P d (μ.take S.A.length)) : Gave S P d μ := by
  refine ⟨[], List.nodup_nil, fun k hk => (by cases hk), D.hs_mono pk_lt h1, fun c hc => ?_, ?_⟩
  · rw [List.map_nil, List.append_nil] at hc
    refine Cell.hs_mono pk_lt ?_
    rw [← Cell.lt_hs]
    exact List.all_eq_true.mp h2 c hc
  · rw [D.ren_id fk_lt h1]
    unfold kept
    rw [List.map_nil, List.append_nil, map_ren h2]
    exact h
/-- one new list, given back itself -/
theorem gave_new {P : D → List Cell → Prop} {k : Nat} {l : List D} (h0 : S.A.length ≤ k) (hk : μ[k]? = some (.lst l)) (h1 : D.ltL S.A.length l = true) (h2 : cellsLt S.A.length (μ.take S.A.length) = true) (h : P (.own S.A.length) (μ.take S.A.length ++ [.lst l])) : Gave S P (.own k) μ := by
  have hlt := (List.getElem?_eq_some_iff.mp hk).1
  have hg : μ.getD k .off = .lst l := by
    have q := getD_cell hlt
    rw [hk] at q
    injection q with q
    exact q.symm
  have e : fk S.A.length [k] k = S.A.length := by
    unfold fk
    rw [if_neg (by omega)]
    simp
  refine ⟨[k], by simp, fun j hj => ?_, ?_, fun c hc => ?_, ?_⟩
  · rw [List.mem_singleton.mp hj]
    exact ⟨h0, hlt⟩
  · show pk S.A.length [k] k = true
    unfold pk
    simp
  · rcases List.mem_append.mp hc with hc | hc
    · refine Cell.hs_mono pk_lt ?_
      rw [← Cell.lt_hs]
      exact List.all_eq_true.mp h2 c hc
    · rw [List.map_cons, List.map_nil, hg] at hc
      rw [List.mem_singleton.mp hc]
      exact D.hsL_mono pk_lt h1
  · show P (.own (fk S.A.length [k] k)) _
    rw [e]
    unfold kept
    rw [List.map_cons, List.map_nil, hg, List.map_append, map_ren h2, List.map_cons, List.map_nil, Cell.ren_id fk_lt (by exact h1)]
    exact h
theorem run_body {T : Type} {cel : T → List Cell} {arg : T → List D} {pre : T → Prop} {post : T → D → List Cell → Prop} {exc : T → Addr → D → List Cell → Prop} {N : List Str} {vs : List V} {H : Hp} {Q : VK} {E : XK} {t : TS}
    (h : Pro K cel arg pre post exc vs H Q E)
    (hb : ∀ (x : T) (S : Bs), pre x → S.A.length = (cel x).length → D.ltL S.A.length (arg x) = true → Wi K S E (fun c d μ => d.lt S.A.length = true ∧ cellsLt S.A.length (μ.take S.A.length) = true ∧ exc x c d (μ.take S.A.length)) →
      SE K S t (startS N (arg x)) (cel x) { nx := fun _ μ => Gave S (post x) .non μ, rt := Gave S (post x) }) :
    t { nx := fun _ H' => Q .non H', rt := Q } (start N vs) H := by
  obtain ⟨x, A, G, hp, m, r, q1, q3⟩ := h
  have give : ∀ A' G' H' v d μ', Mem K ⟨A, G, H⟩ A' G' H' μ' → Rp K A' G' d v → Gave ⟨A, G, H⟩ (post x) d μ' → Q v H' := fun A' G' H' v d μ' m' rd ⟨ks, hn, hks, hd, hc, hP⟩ => by
    have hpre : ∃ B, A' = A ++ B := let ⟨B, hB, _⟩ := m'.pre; ⟨B, hB⟩
    exact q1 v _ _ G' H' _ (m'.trim hn hks hc) (rd.ren (fk_at (S := ⟨A, G, H⟩) (fun k hk => by rw [m'.len]; exact hks k hk) hpre) hd) hP
  have e := hb x ⟨A, G, H⟩ hp m.len r.scope (fun c dx u d A' G' H' μ' m' f1 f2 f3 rd ⟨c1, c2, c3⟩ => by
    have hpre : ∃ B, A' = A ++ B := let ⟨B, hB, _⟩ := m'.pre; ⟨B, hB⟩
    have hc : ∀ c ∈ μ'.take A.length ++ ([] : List Nat).map (fun k => μ'.getD k .off), c.hs (pk A.length []) = true := fun c hc => by
      rw [List.map_nil, List.append_nil] at hc
      refine Cell.hs_mono pk_lt ?_
      rw [← Cell.lt_hs]
      exact List.all_eq_true.mp c2 c hc
    have mt := m'.trim (ks := []) List.nodup_nil (fun k hk => (by cases hk)) hc
    have ek : kept A.length [] μ' = μ'.take A.length := by
      unfold kept
      rw [List.map_nil, List.append_nil, map_ren c2]
    rw [List.map_nil, List.append_nil] at mt
    have rd2 := rd.ren (fk_at (S := ⟨A, G, H⟩) (ks := []) (fun k hk => (by cases hk)) hpre) (D.hs_mono pk_lt c1)
    rw [List.map_nil, List.append_nil, D.ren_id fk_lt c1] at rd2
    exact q3 c dx u d G' H' _ (by rw [← ek]; exact mt) f1 f2 f3 rd2 c3)
  refine e A G H _ ⟨m, start_en r⟩ _ ⟨fun A' G' H' σ δ μ' a _ c => give A' G' H' .non .non μ' a.m (.v _) c, fun A' G' H' v d μ' m' rd c => give A' G' H' v d μ' m' rd c, fun _ _ _ _ _ _ _ _ z => z.elim, fun _ _ _ _ _ _ _ _ z => z.elim⟩
theorem pro_len {T : Type} {cel : T → List Cell} {arg : T → List D} {pre : T → Prop} {post : T → D → List Cell → Prop} {exc : T → Addr → D → List Cell → Prop} {vs : List V} {H : Hp} {Q : VK} {E : XK} (h : Pro K cel arg pre post exc vs H Q E) {n : Nat} (hn : ∀ t, (arg t).length = n) : vs.length = n := by
  obtain ⟨t, A, G, hp, m, r, _⟩ := h
  rw [← r.len, hn t]
/-- all of one's own lists go with it -/
theorem gave_all {P : D → List Cell → Prop} {d : D} (h0 : S.A.length ≤ μ.length) (h1 : d.lt μ.length = true) (h2 : cellsLt μ.length μ = true) (h : P d μ) : Gave S P d μ := by
  have hk : ∀ k, k < μ.length → pk S.A.length (List.range' S.A.length (μ.length - S.A.length)) k = true ∧ fk S.A.length (List.range' S.A.length (μ.length - S.A.length)) k = k := fun k hk => by
    unfold pk fk
    by_cases hlt : k < S.A.length
    · rw [if_pos hlt]
      exact ⟨by simp [hlt], rfl⟩
    · rw [if_neg hlt]
      have hm : k ∈ List.range' S.A.length (μ.length - S.A.length) := List.mem_range'_1.mpr ⟨by omega, by omega⟩
      refine ⟨by simp [hm], ?_⟩
      have hi := List.idxOf_lt_length_of_mem hm
      have q : (List.range' S.A.length (μ.length - S.A.length))[(List.range' S.A.length (μ.length - S.A.length)).idxOf k] = k := List.getElem_idxOf hi
      rw [List.getElem_range'] at q
      omega
  have hp : ∀ k, decide (k < μ.length) = true → pk S.A.length (List.range' S.A.length (μ.length - S.A.length)) k = true := fun k z => (hk k (of_decide_eq_true z)).1
  have hf : ∀ k, decide (k < μ.length) = true → fk S.A.length (List.range' S.A.length (μ.length - S.A.length)) k = k := fun k z => (hk k (of_decide_eq_true z)).2
  have eμ : μ.take S.A.length ++ (List.range' S.A.length (μ.length - S.A.length)).map (fun k => μ.getD k .off) = μ := by
    refine List.ext_getElem? fun k => ?_
    by_cases hlt : k < S.A.length
    · rw [List.getElem?_append_left (by rw [List.length_take]; omega), List.getElem?_take_of_lt hlt]
    · have hl : (μ.take S.A.length).length = S.A.length := by rw [List.length_take]; omega
      rw [List.getElem?_append_right (by omega), hl, List.getElem?_map]
      by_cases hk2 : k < μ.length
      · rw [List.getElem?_range' (by omega)]
        show some (μ.getD (S.A.length + 1 * (k - S.A.length)) .off) = _
        rw [show S.A.length + 1 * (k - S.A.length) = k by omega, ← getD_cell hk2]
      · rw [List.getElem?_eq_none (by rw [List.length_range']; omega), List.getElem?_eq_none (by omega)]
        rfl
  refine ⟨List.range' S.A.length (μ.length - S.A.length), List.nodup_range', fun k hm => ?_, D.hs_mono hp h1, fun c hc => ?_, ?_⟩
  · have := List.mem_range'_1.mp hm
    omega
  · rw [eμ] at hc
    refine Cell.hs_mono hp ?_
    rw [← Cell.lt_hs]
    exact List.all_eq_true.mp h2 c hc
  · rw [D.ren_id hf h1]
    unfold kept
    rw [eμ]
    have e : μ.map (Cell.ren (fk S.A.length (List.range' S.A.length (μ.length - S.A.length)))) = μ := by
      refine (List.map_congr_left fun c hc => Cell.ren_id hf (?_ : c.hs (fun k => decide (k < μ.length)) = true)).trans (List.map_id' μ)
      rw [← Cell.lt_hs]
      exact List.all_eq_true.mp h2 c hc
    rw [e]
    exact h
end
end PA

set_option Elab.async false
set_option linter.all false
set_option maxRecDepth 100000
set_option maxHeartbeats 2000000
/-! PbCall2: a call, seen by the caller. -/
namespace PA
open PySem L2
/-- the lists hs get new contents -/
def put : List Nat → List Cell → List Cell → List Cell
  | k :: hs, c :: ν, μ => put hs ν (μ.set k c)
  | _, _, μ => μ
/-- the callee's handles as the caller's: the handed ones hs, then the new ones -/
def back (hs : List Nat) (n : Nat) (j : Nat) : Nat := if j < hs.length then hs.getD j 0 else n + (j - hs.length)
section
variable {K : PySem.W.Frag} {S : Bs} {δ : Sl} {μ ν : List Cell} {A A' B : List Addr} {G H G' H' : Hp}
theorem put_len : ∀ {hs : List Nat} {ν μ : List Cell}, (put hs ν μ).length = μ.length
  | [], _, _ => rfl
  | _ :: _, [], _ => rfl
  | k :: hs, c :: ν, μ => by
    show (put hs ν (μ.set k c)).length = _
    rw [put_len, List.length_set]
theorem put_not : ∀ {hs : List Nat} {ν μ : List Cell} {k : Nat}, k ∉ hs → (put hs ν μ)[k]? = μ[k]?
  | [], _, _, _, _ => rfl
  | _ :: _, [], _, _, _ => rfl
  | j :: hs, c :: ν, μ, k, h => by
    show (put hs ν (μ.set j c))[k]? = _
    rw [put_not (fun z => h (List.mem_cons_of_mem _ z)), List.getElem?_set_ne (fun z => h (by rw [z]; exact List.mem_cons_self))]
theorem put_mem : ∀ {hs : List Nat} {ν μ : List Cell} {k : Nat}, hs.Nodup → (∀ j ∈ hs, j < μ.length) → hs.length ≤ ν.length → k ∈ hs → (put hs ν μ)[k]? = ν[hs.idxOf k]?
  | j :: hs, [], _, _, _, _, hl, _ => by simp at hl
  | j :: hs, c :: ν, μ, k, hn, hlt, hl, hk => by
    show (put hs ν (μ.set j c))[k]? = _
    rw [List.nodup_cons] at hn
    by_cases e : k = j
    · subst e
      rw [put_not hn.1, List.getElem?_set_self (hlt k List.mem_cons_self), List.idxOf_cons_self]
      rfl
    · have hk2 : k ∈ hs := by
        rcases List.mem_cons.mp hk with z | z
        · exact absurd z e
        · exact z
      rw [put_mem hn.2 (fun i hi => by rw [List.length_set]; exact hlt i (List.mem_cons_of_mem _ hi)) (by simpa using hl) hk2, List.idxOf_cons, show (j == k) = false from beq_eq_false_iff_ne.mpr fun z => e z.symm]
      rfl
theorem back_at {hs : List Nat} (hlt : ∀ k ∈ hs, k < A.length) : ∀ j a, (fun _ : Nat => true) j = true → ((hs.map fun k => A.getD k 0) ++ B)[j]? = some a → (A ++ B)[back hs A.length j]? = some a := fun j a _ h => by
  unfold back
  by_cases hj : j < hs.length
  · rw [if_pos hj]
    rw [List.getElem?_append_left (by rw [List.length_map]; exact hj), List.getElem?_map, List.getElem?_eq_getElem hj] at h
    have e : hs.getD j 0 = hs[j] := by
      rw [List.getD_eq_getElem?_getD, List.getElem?_eq_getElem hj]
      rfl
    rw [e]
    have h2 := hlt _ (List.getElem_mem hj)
    rw [List.getElem?_append_left h2, getD_get h2]
    exact h
  · rw [if_neg hj]
    rw [List.getElem?_append_right (by rw [List.length_map]; omega), List.length_map] at h
    rw [List.getElem?_append_right (by omega), Nat.add_sub_cancel_left]
    exact h
theorem D.hs_true : ∀ d : D, d.hs (fun _ => true) = true := fun d => by
  have key : ∀ (d : D), d.hs (fun _ => true) = true := by
    intro d
    exact D.rec (motive_1 := fun d => d.hs (fun _ => true) = true) (motive_2 := fun l => D.hsL (fun _ => true) l = true)
      (fun _ => rfl) (fun _ h => h) (fun _ h => h) (fun _ h => h) (fun _ _ h => h) (fun _ _ h => h) (fun _ => rfl) rfl (fun _ _ h1 h2 => Bool.and_eq_true_iff.mpr ⟨h1, h2⟩) d
  exact key d
theorem D.hsL_true : ∀ l : List D, D.hsL (fun _ => true) l = true := fun l => D.hsL_all.mpr fun d _ => D.hs_true d
theorem Cell.hs_true (c : Cell) : c.hs (fun _ => true) = true := by
  cases c with
  | off => rfl
  | lst l => exact D.hsL_true l
/-- what stands behind a call, seen by the caller -/
def behindC (hs : List Nat) (n : Nat) (ν μ : List Cell) : List Cell := put hs (ν.map (Cell.ren (back hs n))) μ ++ (ν.drop hs.length).map (Cell.ren (back hs n))
theorem Mem.after {hs : List Nat} (hn : hs.Nodup) (hlt : ∀ k ∈ hs, k < μ.length) (m : Mem K S A G H μ) (f : Mem K ⟨hs.map fun k => A.getD k 0, G, H⟩ ((hs.map fun k => A.getD k 0) ++ B) G' H' ν) :
    Mem K S (A ++ B) G' H' (behindC hs A.length ν μ) := by
  have hltA : ∀ k ∈ hs, k < A.length := fun k hk => by rw [m.len]; exact hlt k hk
  have hνl : ν.length = hs.length + B.length := by
    rw [← f.len, List.length_append, List.length_map]
  have hBn : ∀ b ∈ B, H b = none := fun b hb => by
    obtain ⟨B', hB, h⟩ := f.pre
    have e : B = B' := List.append_cancel_left hB
    exact h b (by rw [← e]; exact hb)
  have inA : ∀ a ∈ (hs.map fun k => A.getD k 0), a ∈ A := fun a ha => by
    obtain ⟨k, hk, rfl⟩ := List.mem_map.mp ha
    exact List.mem_of_getElem? (getD_get (hltA k hk))
  have alive : ∀ a ∈ A, ∃ o, H a = some o := fun a ha => by
    cases q : H a with
    | none => exact absurd q (m.al a ha)
    | some o => exact ⟨o, rfl⟩
  have hren := back_at (B := B) hltA
  exact {
    ex := f.ex
    exG := m.exG.trans f.exG
    pre := by
      obtain ⟨B0, hB0, h0⟩ := m.pre
      refine ⟨B0 ++ B, by rw [hB0, List.append_assoc], fun b hb => ?_⟩
      rcases List.mem_append.mp hb with hb | hb
      · exact h0 b hb
      · have hA : b ∉ A := fun z => by
          obtain ⟨o, ho⟩ := alive b z
          rw [hBn b hb] at ho
          cases ho
        cases q : S.H b with
        | none => rfl
        | some o =>
          by_cases ha : b ∈ S.A
          · exact absurd (by rw [hB0]; exact List.mem_append_left _ ha) hA
          · have z := m.keep b o ha q
            rw [hBn b hb] at z
            cases z
    new := fun p hp => by
      rcases f.new p hp with h | h
      · exact m.new p h
      · have h : H p = none := h
        cases q : S.H p with
        | none => exact .inr rfl
        | some o =>
          by_cases ha : p ∈ S.A
          · obtain ⟨B0, hB0, h0⟩ := m.pre
            exact absurd h (m.al p (by rw [hB0]; exact List.mem_append_left _ ha))
          · rw [m.keep p o ha q] at h
            cases h
    keep := fun a o h1 h2 => by
      refine f.keep a o (fun hm => ?_) (m.keep a o h1 h2)
      have hA := inA a hm
      obtain ⟨B0, hB0, h0⟩ := m.pre
      rw [hB0] at hA
      rcases List.mem_append.mp hA with z | z
      · exact h1 z
      · rw [h0 a z] at h2
        cases h2
    cel := fun k a c h1 h2 => by
      unfold behindC at h2
      by_cases hk : k < A.length
      · rw [List.getElem?_append_left hk] at h1
        rw [List.getElem?_append_left (by rw [put_len, ← m.len]; exact hk)] at h2
        by_cases hm : k ∈ hs
        · rw [put_mem hn hlt (by rw [List.length_map]; omega) hm, List.getElem?_map] at h2
          have hi := List.idxOf_lt_length_of_mem hm
          cases q : ν[hs.idxOf k]? with
          | none => rw [q] at h2; cases h2
          | some c0 =>
            rw [q] at h2
            cases h2
            refine (f.cel (hs.idxOf k) a c0 ?_ q).ren hren (Cell.hs_true c0)
            rw [List.getElem?_append_left (by rw [List.length_map]; exact hi), List.getElem?_map, List.getElem?_eq_getElem hi, List.getElem_idxOf hi]
            show some (A.getD k 0) = _
            rw [← getD_get hk, h1]
        · rw [put_not hm] at h2
          have q := m.cel k a c h1 h2
          cases c with
          | off => trivial
          | lst l =>
            obtain ⟨g, xs, hx, r⟩ := q
            have hna : a ∉ (hs.map fun k => A.getD k 0) := fun z => by
              obtain ⟨j, hj, e⟩ := List.mem_map.mp z
              obtain ⟨p1, e1⟩ := List.getElem?_eq_some_iff.mp (getD_get (hltA j hj))
              obtain ⟨p2, e2⟩ := List.getElem?_eq_some_iff.mp h1
              have ej : j = k := (List.getElem_inj m.nd).mp (e1.trans (e.trans e2.symm))
              exact hm (by rw [← ej]; exact hj)
            refine ⟨?_, xs, f.keep a _ hna hx, r.mono f.exG⟩
            cases z : G' a with
            | none => rfl
            | some o =>
              rcases f.new a (by rw [z]; exact fun h => nomatch h) with y | y
              · exact absurd g y
              · have y : H a = none := y
                rw [hx] at y
                cases y
      · rw [List.getElem?_append_right (by omega)] at h1
        rw [List.getElem?_append_right (by rw [put_len, ← m.len]; omega), put_len, ← m.len, List.getElem?_map, List.getElem?_drop] at h2
        cases q : ν[hs.length + (k - A.length)]? with
        | none => rw [q] at h2; cases h2
        | some c0 =>
          rw [q] at h2
          cases h2
          refine (f.cel _ a c0 ?_ q).ren hren (Cell.hs_true c0)
          rw [List.getElem?_append_right (by rw [List.length_map]; omega), List.length_map, Nat.add_sub_cancel_left]
          exact h1
    len := by
      unfold behindC
      rw [List.length_append, List.length_append, put_len, List.length_map, List.length_drop, ← m.len]
      omega
    nd := by
      have q := f.nd
      refine List.nodup_append.mpr ⟨m.nd, (List.nodup_append.mp q).2.1, fun a ha b hb e => ?_⟩
      obtain ⟨o, ho⟩ := alive a ha
      rw [e, hBn b hb] at ho
      cases ho
    al := fun a ha h => by
      rcases List.mem_append.mp ha with ha | ha
      · by_cases h0 : a ∈ (hs.map fun k => A.getD k 0)
        · exact f.al a (List.mem_append_left _ h0) h
        · obtain ⟨o, ho⟩ := alive a ha
          rw [f.keep a o h0 ho] at h
          cases h
      · exact f.al a (List.mem_append_right _ ha) h }
variable {T : Type} {C : D → List Cell → Prop} {E : XK} {ta : TA} {CE : Addr → D → List Cell → Prop}
/-- the lists handed in, as the callee sees them -/
theorem Mem.hand {hs : List Nat} (hn : hs.Nodup) (hlt : ∀ k ∈ hs, k < μ.length) (m : Mem K S A G H μ) (hc : cellsLt 0 (hs.map fun k => μ.getD k .off) = true) : Mem K ⟨hs.map fun k => A.getD k 0, G, H⟩ (hs.map fun k => A.getD k 0) G H (hs.map fun k => μ.getD k .off) := by
  have hltA : ∀ k ∈ hs, k < A.length := fun k hk => by rw [m.len]; exact hlt k hk
  exact {
    ex := m.ex
    exG := Ex.refl G
    pre := ⟨[], (List.append_nil _).symm, fun _ h => by cases h⟩
    new := fun _ h => .inl h
    keep := fun _ _ _ h => h
    cel := fun j a c h1 h2 => by
      rw [List.getElem?_map] at h1 h2
      cases q : hs[j]? with
      | none => rw [q] at h1; cases h1
      | some k =>
        rw [q] at h1 h2
        cases h1
        cases h2
        have hk : k ∈ hs := List.mem_of_getElem? q
        have z := m.cel k _ _ (getD_get (hltA k hk)) (getD_cell (hlt k hk))
        have hcl : (μ.getD k .off).lt 0 = true := List.all_eq_true.mp hc _ (List.mem_map_of_mem hk)
        have key : ∀ c : Cell, CellAt K A G H (A.getD k 0) c → c.lt 0 = true → CellAt K (hs.map fun k => A.getD k 0) G H (A.getD k 0) c := by
          intro c z hcl
          cases c with
          | off => trivial
          | lst l =>
            obtain ⟨g, xs, hx, r⟩ := z
            exact ⟨g, xs, hx, r.cl hcl⟩
        exact key _ z hcl
    len := by rw [List.length_map, List.length_map]
    nd := by
      refine List.pairwise_map.mpr ?_
      refine List.Pairwise.imp_of_mem (fun {i j} hi hj hij e => hij ?_) hn
      obtain ⟨p1, e1⟩ := List.getElem?_eq_some_iff.mp (getD_get (hltA i hi))
      obtain ⟨p2, e2⟩ := List.getElem?_eq_some_iff.mp (getD_get (hltA j hj))
      exact (List.getElem_inj m.nd).mp (e1.trans (e.trans e2.symm))
    al := fun a ha => by
      obtain ⟨k, hk, rfl⟩ := List.mem_map.mp ha
      exact m.al _ (List.mem_of_getElem? (getD_get (hltA k hk))) }
theorem hand_at {hs : List Nat} (hlt : ∀ k ∈ hs, k < A.length) : ∀ k a, hs.contains k = true → A[k]? = some a → (hs.map fun k => A.getD k 0)[hs.idxOf k]? = some a := fun k a hk h => by
  have hm : k ∈ hs := by simpa using hk
  have hi := List.idxOf_lt_length_of_mem hm
  rw [List.getElem?_map, List.getElem?_eq_getElem hi, List.getElem_idxOf hi]
  show some (A.getD k 0) = _
  rw [← getD_get (hlt k hm), h]
/-- THE RULE for a call: the open lists hs are handed in -/
theorem ee_callG {cel : T → List Cell} {arg : T → List D} {pre : T → Prop} {post : T → D → List Cell → Prop} {exc : T → Addr → D → List Cell → Prop} {dds : List V} (hs : List Nat) (wi : Wi K S E CE)
    (h : EA K S ta δ μ fun ds μ1 => ∃ t : T, pre t ∧ hs.Nodup ∧ (∀ k ∈ hs, k < μ1.length) ∧ cel t = hs.map (fun k => μ1.getD k .off) ∧ cellsLt 0 (cel t) = true ∧ D.hsL (fun k => hs.contains k) ds = true ∧ D.renL (fun k => hs.idxOf k) ds ++ dds.map D.v = arg t ∧
      (∀ d ν n, post t d ν → ν.length = n → d.lt n = true → cellsLt n ν = true → hs.length ≤ n → C (d.ren (back hs μ1.length)) (behindC hs μ1.length ν μ1)) ∧ ∀ c d ν, exc t c d ν → ν.length = hs.length → d.lt hs.length = true → cellsLt hs.length ν = true → CE c (d.ren (back hs μ1.length)) (behindC hs μ1.length ν μ1)) :
    EE K S (tCall (Pro K cel arg pre post exc) dds E ta) δ μ C := fun A G H σ a Q q =>
  h A G H σ a _ fun vs ds A1 G1 H1 μ1 m1 n1 r1 ⟨t, hp, hn, hlt, hcel, hcl, hh, ha, hC, hX⟩ => by
    have hltA : ∀ k ∈ hs, k < A1.length := fun k hk => by rw [m1.len]; exact hlt k hk
    have rd : RpL K (hs.map fun k => A1.getD k 0) G1 (arg t) (vs ++ dds) := by
      rw [← ha]
      exact (r1.ren (hand_at hltA) hh).append (RpL.vals dds)
    have hm := m1.hand hn hlt (by rw [← hcel]; exact hcl)
    rw [← hcel] at hm
    refine ⟨t, _, G1, hp, hm, rd, fun v d B G' H' ν f r c => ?_, fun c dx u d G' H' ν f f1 f2 f3 r c' => ?_⟩
    · have ma := m1.after hn hlt f
      have hl : ν.length = hs.length + B.length := by
        rw [← f.len, List.length_append, List.length_map]
      have hA : (hs.map (fun k => A1.getD k 0) ++ B).length = ν.length := f.len
      refine q v _ (A1 ++ B) G' H' _ ma (n1.trans ⟨⟨B, rfl⟩, f.exG⟩) (r.ren (back_at hltA) (D.hs_true d)) ?_
      rw [m1.len]
      exact hC d ν _ c rfl (by rw [← hA]; exact r.scope) f.scope (by omega)
    · have f' : Mem K ⟨hs.map fun k => A1.getD k 0, G1, H1⟩ ((hs.map fun k => A1.getD k 0) ++ []) G' H' ν := by
        rw [List.append_nil]
        exact f
      have ma := m1.after hn hlt f'
      have hl : ν.length = hs.length := by
        rw [← f.len, List.length_map]
      have r' : Rp K (A1 ++ []) G' (d.ren (back hs A1.length)) u := (by
        have r0 : Rp K ((hs.map fun k => A1.getD k 0) ++ []) G' d u := by
          rw [List.append_nil]
          exact r
        exact r0.ren (back_at hltA) (D.hs_true d))
      have hs0 : S.H dx = none := by
        cases qq : S.H dx with
        | none => rfl
        | some o =>
          by_cases ha' : dx ∈ S.A
          · obtain ⟨B0, hB0, h0⟩ := m1.pre
            exact absurd f1 (m1.al dx (by rw [hB0]; exact List.mem_append_left _ ha'))
          · have z := m1.keep dx o ha' qq
            rw [f1] at z
            cases z
      rw [m1.len] at ma r'
      have hA2 : (hs.map fun k => A1.getD k 0).length = hs.length := List.length_map _
      exact wi c dx u _ _ G' H' _ ma hs0 f2 f3 r' (hX c d ν c' hl (by rw [← hA2]; exact r.scope) (by rw [← hl]; exact f.scope))
theorem ren_cl {d : D} {f : Nat → Nat} (h : d.lt 0 = true) : d.ren f = d := D.ren_id (fun k z => absurd (of_decide_eq_true z) (Nat.not_lt_zero k)) h
theorem renL_cl {l : List D} {f : Nat → Nat} (h : D.ltL 0 l = true) : D.renL f l = l := D.renL_id (fun k z => absurd (of_decide_eq_true z) (Nat.not_lt_zero k)) h
theorem hsL_cl {l : List D} {p : Nat → Bool} (h : D.ltL 0 l = true) : D.hsL p l = true := D.hsL_mono (fun k z => absurd (of_decide_eq_true z) (Nat.not_lt_zero k)) h
/-- a call without open lists that may raise -/
theorem ee_c0 {arg : T → List D} {pre : T → Prop} {post : T → D → Prop} {exc : T → Addr → D → Prop} {dds : List V} (wi : Wi K S E CE)
    (h : EA K S ta δ μ fun ds μ1 => ∃ t : T, pre t ∧ ds ++ dds.map D.v = arg t ∧ D.ltL 0 ds = true ∧ (∀ d, post t d → d.lt 0 = true → C d μ1) ∧ ∀ c d, exc t c d → d.lt 0 = true → CE c d μ1) : EE K S (tCall (ProP K arg pre post exc) dds E ta) δ μ C :=
  ee_callG [] wi fun A G H σ a Q q => h A G H σ a Q fun vs ds A1 G1 H1 μ1 m n r ⟨t, hp, e, hl, hC, hX⟩ => q vs ds A1 G1 H1 μ1 m n r ⟨t, hp, List.nodup_nil, fun k hk => (by cases hk), rfl, rfl, hsL_cl hl, by rw [renL_cl hl]; exact e,
    fun d ν n' ⟨e1, hd⟩ e2 h1 _ _ => by
      subst e1
      subst e2
      have h1 : d.lt 0 = true := h1
      rw [ren_cl h1]
      show C d (μ1 ++ [])
      rw [List.append_nil]
      exact hC d hd h1,
    fun c d ν hd e2 h1 _ => by
      have e3 : ν = [] := List.length_eq_zero_iff.mp e2
      subst e3
      have h1 : d.lt 0 = true := h1
      rw [ren_cl h1]
      show CE c d (μ1 ++ [])
      rw [List.append_nil]
      exact hX c d hd h1⟩
theorem ee_cz {arg : T → List D} {pre : T → Prop} {post : T → D → Prop}
    (h : EA K S ta δ μ fun ds μ1 => ∃ t : T, pre t ∧ ds = arg t ∧ D.ltL 0 ds = true ∧ ∀ d, post t d → C d μ1) : EE K S (tCall (ProP K arg pre post (fun _ _ _ => False)) [] E ta) δ μ C :=
  ee_c0 (CE := fun _ _ _ => False) Wi.none fun A G H σ a Q q => h A G H σ a Q fun vs ds A1 G1 H1 μ1 m n r ⟨t, hp, e, hl, hC⟩ => q vs ds A1 G1 H1 μ1 m n r ⟨t, hp, by rw [List.map_nil, List.append_nil]; exact e, hl, fun d hd _ => hC d hd, fun _ _ z _ => z⟩
/-- .. that gives a new list, which stays open -/
theorem ee_czN {arg : T → List D} {pre : T → Prop} {post : T → List D → Prop}
    (h : EA K S ta δ μ fun ds μ1 => ∃ t : T, pre t ∧ ds = arg t ∧ D.ltL 0 ds = true ∧ ∀ l, post t l → D.ltL 0 l = true → C (.own μ1.length) (μ1 ++ [.lst l])) : EE K S (tCall (ProN K arg pre post (fun _ _ _ => False)) [] E ta) δ μ C :=
  ee_callG (CE := fun _ _ _ => False) [] Wi.none fun A G H σ a Q q => h A G H σ a Q fun vs ds A1 G1 H1 μ1 m n r ⟨t, hp, e, hl, hC⟩ => q vs ds A1 G1 H1 μ1 m n r ⟨t, hp, List.nodup_nil, fun k hk => (by cases hk), rfl, rfl, hsL_cl hl, by rw [renL_cl hl, List.map_nil, List.append_nil]; exact e,
    fun d ν n' ⟨l, e1, e2, hcl, hd⟩ _ _ _ _ => by
      subst e1 e2
      show C (.own (μ1.length + (0 - 0))) (μ1 ++ [.lst (D.renL _ l)])
      rw [renL_cl hcl]
      exact hC l hd hcl,
    fun _ _ _ z _ _ _ => z⟩
/-- the handle of the k-th list becomes the callee's first -/
def Hand (k : Nat) (d e : D) : Prop := (d = .own k ∧ e = .own 0) ∨ (d.lt 0 = true ∧ e = d)
inductive HandL (k : Nat) : List D → List D → Prop
  | nil : HandL k [] []
  | cons {d e : D} {l m : List D} : Hand k d e → HandL k l m → HandL k (d :: l) (e :: m)
theorem HandL.ren {k : Nat} : ∀ {l m : List D}, HandL k l m → D.hsL (fun j => [k].contains j) l = true ∧ D.renL (fun j => [k].idxOf j) l = m
  | _, _, .nil => ⟨rfl, rfl⟩
  | _, _, .cons (d := d) (e := e) (l := l) (m := m) h t => by
    obtain ⟨h1, h2⟩ := HandL.ren t
    have hd : d.hs (fun j => [k].contains j) = true ∧ d.ren (fun j => [k].idxOf j) = e := by
      rcases h with ⟨rfl, rfl⟩ | ⟨hl, rfl⟩
      · exact ⟨by show [k].contains k = true; simp, by show D.own ([k].idxOf k) = _; simp⟩
      · exact ⟨D.hs_mono (fun j z => absurd (of_decide_eq_true z) (Nat.not_lt_zero j)) hl, ren_cl hl⟩
    exact ⟨Bool.and_eq_true_iff.mpr ⟨hd.1, h1⟩, by show D.ren _ d :: D.renL _ l = _; rw [hd.2, h2]⟩
theorem hand1 {k : Nat} {l : List D} (h : D.ltL 0 l = true) : HandL k (.own k :: l) (.own 0 :: l) := by
  refine .cons (.inl ⟨rfl, rfl⟩) ?_
  induction l with
  | nil => exact .nil
  | cons d l ih =>
    have h := Bool.and_eq_true_iff.mp (show (d.lt 0 && D.ltL 0 l) = true from h)
    exact .cons (.inr ⟨h.1, rfl⟩) (ih h.2)
/-- a call that is handed one open list -/
theorem ee_cz1 {cel : T → List Cell} {arg : T → List D} {pre : T → Prop} {post : T → D → List Cell → Prop} (k : Nat)
    (h : EA K S ta δ μ fun ds μ1 => ∃ (t : T) (l : List D), pre t ∧ cel t = [.lst l] ∧ D.ltL 0 l = true ∧ μ1[k]? = some (.lst l) ∧ HandL k ds (arg t) ∧ ∀ d ν, post t d ν → d.lt 0 = true ∧ ∃ l', ν = [.lst l'] ∧ D.ltL 0 l' = true ∧ C d (μ1.set k (.lst l'))) :
    EE K S (tCall (Pro K cel arg pre post (fun _ _ _ _ => False)) [] E ta) δ μ C :=
  ee_callG (CE := fun _ _ _ => False) [k] Wi.none fun A G H σ a Q q => h A G H σ a Q fun vs ds A1 G1 H1 μ1 m n r ⟨t, l, hp, e, hl, hk, hh, hC⟩ => q vs ds A1 G1 H1 μ1 m n r (by
    have hlt := (List.getElem?_eq_some_iff.mp hk).1
    have hg : μ1.getD k .off = .lst l := by
      have z := getD_cell hlt
      rw [hk] at z
      injection z with z
      exact z.symm
    obtain ⟨h1, h2⟩ := hh.ren
    refine ⟨t, hp, by simp, fun j hj => (by rw [List.mem_singleton.mp hj]; exact hlt), by rw [e, List.map_cons, List.map_nil, hg], ?_, h1, by rw [h2, List.map_nil, List.append_nil], fun d ν n' hd _ _ _ _ => ?_, fun _ _ _ z _ _ _ => z⟩
    · rw [e]
      show (D.ltL 0 l && true) = true
      rw [hl]
      rfl
    · obtain ⟨hd0, l', rfl, hl', hc⟩ := hC d ν hd
      rw [ren_cl hd0]
      show C d ((μ1.set k (.lst (D.renL _ l'))) ++ [])
      rw [renL_cl hl', List.append_nil]
      exact hc)
end
end PA

set_option Elab.async false
set_option linter.all false
set_option maxRecDepth 100000
set_option maxHeartbeats 2000000
/-! PbCall3: calls that only read open lists; open lists shut for good. -/
namespace PA
open PySem L2
section
variable {K : PySem.W.Frag} {S : Bs} {δ : Sl} {μ ν : List Cell} {A A' B : List Addr} {G H G' H' : Hp} {T : Type} {C : D → List Cell → Prop} {E : XK} {ta : TA} {CE : Addr → D → List Cell → Prop}
/-- what is known when the open lists are read as they stand -/
def lent (A : List Addr) (G H : Hp) : Hp := fun a => if (A.contains a && (G a).isNone) = true then H a else G a
theorem lent_ex (A : List Addr) (G H : Hp) : Ex G (lent A G H) := fun a o h => by
  unfold lent
  rw [h]
  simp
theorem lent_exH (e : Ex G H) : Ex (lent A G H) H := fun a o h => by
  unfold lent at h
  split at h
  · exact h
  · exact e a o h
theorem lent_at {a : Addr} (ha : a ∈ A) (g : G a = none) : lent A G H a = H a := by
  unfold lent
  rw [g]
  simp [ha]
/-- the contents of the open lists -/
def rdC (μ : List Cell) (k : Nat) : Option (List D) := match μ[k]? with
  | some (.lst l) => some l
  | _ => none
theorem lent_sub (m : Mem K S A G H μ) {ds : List D} {vs : List V} (r : RpL K A G ds vs) : RpL K A (lent A G H) (D.subL (rdC μ) ds) vs := by
  refine RpL.sub (lent_ex A G H) (fun k a l hA hg => ?_) r
  unfold rdC at hg
  split at hg
  · rename_i l' hc
    cases hg
    obtain ⟨g, xs, hx, rl⟩ := m.cel k a _ hA hc
    exact ⟨xs, by rw [lent_at (List.mem_of_getElem? hA) g]; exact hx, rl.mono0 (lent_ex A G H)⟩
  · cases hg
/-- a call that reads the open lists; its answer is a value -/
theorem ee_czB {arg : T → List D} {pre : T → Prop} {post : T → D → Prop}
    (h : EA K S ta δ μ fun ds μ1 => ∃ t : T, pre t ∧ D.subL (rdC μ1) ds = arg t ∧ D.ltL 0 (arg t) = true ∧ ∀ d, post t d → ∃ x, d = .v x ∧ C (.v x) μ1) : EE K S (tCall (ProP K arg pre post (fun _ _ _ => False)) [] E ta) δ μ C := fun A G H σ a Q q =>
  h A G H σ a _ fun vs ds A1 G1 H1 μ1 m1 n1 r1 ⟨t, hp, e, hl, hC⟩ => by
    have r2 := lent_sub m1 r1
    rw [e] at r2
    have rd : RpL K [] (lent A1 G1 H1) (arg t) (vs ++ []) := by
      rw [List.append_nil]
      exact r2.cl hl
    have m0 : Mem K ⟨[], lent A1 G1 H1, H1⟩ [] (lent A1 G1 H1) H1 [] := ⟨lent_exH m1.ex, Ex.refl _, ⟨[], rfl, fun _ h => by cases h⟩, fun _ h => .inl h, fun _ _ _ h => h, fun k a c h _ => by simp at h, rfl, List.nodup_nil, fun _ h => by cases h⟩
    refine ⟨t, [], _, hp, m0, rd, fun v d B G' H' ν f r ⟨eν, c⟩ => ?_, fun _ _ _ _ _ _ _ _ _ _ _ _ z => z.elim⟩
    obtain ⟨x, ed, hc⟩ := hC d c
    subst ed
    have ev := r.vOf
    subst ev
    have kp : ∀ a o, H1 a = some o → H' a = some o := fun a o h => f.keep a o (fun z => by cases z) h
    have mf : Mem K S A1 G1 H' μ1 := {
      ex := (lent_ex A1 G1 H1).trans (f.exG.trans f.ex)
      exG := m1.exG
      pre := m1.pre
      new := m1.new
      keep := fun a o h1 h2 => kp a o (m1.keep a o h1 h2)
      cel := fun k a c h1 h2 => by
        have z := m1.cel k a c h1 h2
        cases c with
        | off => trivial
        | lst l =>
          obtain ⟨g, xs, hx, rl⟩ := z
          exact ⟨g, xs, kp _ _ hx, rl⟩
      len := m1.len
      nd := m1.nd
      al := fun a ha h => by
        cases z : H1 a with
        | none => exact m1.al a ha z
        | some o =>
          rw [kp a o z] at h
          cases h }
    exact q _ _ A1 G1 H' μ1 mf n1 (.v _) hc
/-- .. that gives a new list, which is never changed from now on -/
theorem ee_czS {arg : T → List D} {pre : T → Prop} {post : T → List D → Prop}
    (h : EA K S ta δ μ fun ds μ1 => ∃ t : T, pre t ∧ ds = arg t ∧ D.ltL 0 ds = true ∧ ∀ l, post t l → D.ltL 0 l = true → C (.lst l) μ1) : EE K S (tCall (ProN K arg pre post (fun _ _ _ => False)) [] E ta) δ μ C := fun A G H σ a Q q =>
  h A G H σ a _ fun vs ds A1 G1 H1 μ1 m1 n1 r1 ⟨t, hp, e, hl, hC⟩ => by
    have rd : RpL K [] G1 (arg t) (vs ++ []) := by
      rw [List.append_nil, ← e]
      exact r1.cl hl
    have m0 : Mem K ⟨[], G1, H1⟩ [] G1 H1 [] := ⟨m1.ex, Ex.refl _, ⟨[], rfl, fun _ h => by cases h⟩, fun _ h => .inl h, fun _ _ _ h => h, fun k a c h _ => by simp at h, rfl, List.nodup_nil, fun _ h => by cases h⟩
    refine ⟨t, [], G1, hp, m0, rd, fun v d B G' H' ν f r ⟨l, ed, eν, hcl, c⟩ => ?_, fun _ _ _ _ _ _ _ _ _ _ _ _ z => z.elim⟩
    subst ed eν
    cases r with
    | @own _ p hp2 =>
      obtain ⟨g, xs, hx, rl⟩ := f.cel 0 p _ hp2 rfl
      have fs := f.shut (Nat.zero_le _) hp2 rfl hx
      have ft := fs.trim (ks := []) List.nodup_nil (fun k hk => (by cases hk)) (fun c hc => (by cases hc))
      have fa := m1.after (hs := []) (B := []) List.nodup_nil (fun k hk => (by cases hk)) ft
      have eb : behindC [] A1.length (kept 0 [] ([Cell.lst l].set 0 .off)) μ1 = μ1 := by
        show μ1 ++ [] = μ1
        rw [List.append_nil]
      rw [List.append_nil] at fa
      have fa2 : Mem K S A1 (upd G' p (.lst xs)) H' μ1 := by
        rw [← eb]
        exact fa
      have e1 : Ex G' (upd G' p (.lst xs)) := Ex.new g
      exact q _ (.lst l) A1 _ H' μ1 fa2 (n1.trans (.of (f.exG.trans e1))) (.lst upd_same ((rl.cl hcl).mono0 e1)) (hC l c hcl)
def Cell.sub (g : Nat → Option (List D)) : Cell → Cell
  | .lst l => .lst (D.subL g l)
  | .off => .off
/-- an open list of one's own is never changed from now on -/
theorem se_shut {ts : TS} {F0 : Cn} (k : Nat) {l : List D} (hk : S.A.length ≤ k) (hc : μ[k]? = some (.lst l)) (h : SE K S ts (δ.map (·.map (D.sub fun j => if j = k then some l else none))) ((μ.set k .off).map (Cell.sub fun j => if j = k then some l else none)) F0) : SE K S ts δ μ F0 := fun A G H σ a F f => by
  have hlt : k < A.length := by
    rw [a.m.len]
    exact (List.getElem?_eq_some_iff.mp hc).1
  have hA := getD_get hlt
  obtain ⟨g, xs, hx, r⟩ := a.m.cel k _ _ hA hc
  have ms := a.m.shut hk hA hc hx
  have e1 : Ex G (upd G (A.getD k 0) (.lst xs)) := Ex.new g
  have hg : ∀ j b l', A[j]? = some b → (if j = k then some l else none) = some l' → ∃ ys, upd G (A.getD k 0) (.lst xs) b = some (.lst ys) ∧ RpL K A (upd G (A.getD k 0) (.lst xs)) l' ys := fun j b l' h1 h2 => by
    by_cases e : j = k
    · subst e
      rw [if_pos rfl] at h2
      cases h2
      rw [hA] at h1
      cases h1
      exact ⟨xs, upd_same, r.mono0 e1⟩
    · rw [if_neg e] at h2
      cases h2
  have en : ∀ {δ : Sl} {σ : St}, En K A G δ σ → En K A (upd G (A.getD k 0) (.lst xs)) (δ.map (·.map (D.sub fun j => if j = k then some l else none))) σ := by
    intro δ σ h
    induction h with
    | nil => exact .nil
    | skip _ ih => exact .skip ih
    | cons h _ ih => exact .cons (Rp.sub e1 hg h) ih
  have ms2 : Mem K S A (upd G (A.getD k 0) (.lst xs)) H ((μ.set k .off).map (Cell.sub fun j => if j = k then some l else none)) := {
    ex := ms.ex
    exG := ms.exG
    pre := ms.pre
    new := ms.new
    keep := ms.keep
    cel := fun j b c h1 h2 => by
      rw [List.getElem?_map] at h2
      cases q : (μ.set k .off)[j]? with
      | none => rw [q] at h2; cases h2
      | some c0 =>
        rw [q] at h2
        cases h2
        have z := ms.cel j b c0 h1 q
        cases c0 with
        | off => trivial
        | lst l2 =>
          obtain ⟨g2, ys, hy, r2⟩ := z
          exact ⟨g2, ys, hy, RpL.sub (Ex.refl _) hg r2⟩
    len := by rw [List.length_map]; exact ms.len
    nd := ms.nd
    al := ms.al }
  exact h A _ H σ ⟨ms2, en a.env⟩ F (f.at' (.of e1))
theorem Mem.freeS (m : Mem K S A G H μ) {p : Addr} (h : H p = none) : S.H p = none ∧ p ∉ A := by
  have hA : p ∉ A := fun z => m.al p z h
  refine ⟨?_, hA⟩
  cases q : S.H p with
  | none => rfl
  | some o =>
    by_cases ha : p ∈ S.A
    · obtain ⟨B, hB, _⟩ := m.pre
      exact absurd (by rw [hB]; exact List.mem_append_left _ ha) hA
    · rw [m.keep p o ha q] at h
      cases h
theorem mem00 (m : Mem K S A G H μ) : Mem K ⟨[], G, H⟩ [] G H [] := ⟨m.ex, Ex.refl _, ⟨[], rfl, fun _ h => by cases h⟩, fun _ h => .inl h, fun _ _ _ h => h, fun k a c h _ => by simp at h, rfl, List.nodup_nil, fun _ h => by cases h⟩
theorem after0 (m : Mem K S A G H μ) (f : Mem K ⟨[], G, H⟩ ([] ++ B) G' H' []) : B = [] ∧ Mem K S A G' H' μ := by
  have hB : B = [] := List.length_eq_zero_iff.mp (by have z := f.len; simpa using z)
  subst hB
  have fa := m.after (hs := []) (B := []) List.nodup_nil (fun k hk => (by cases hk)) f
  have eb : behindC [] A.length [] μ = μ := by
    show μ ++ [] = μ
    rw [List.append_nil]
  rw [List.append_nil, eb] at fa
  exact ⟨rfl, fa⟩
end
end PA

set_option Elab.async false
set_option linter.all false
set_option maxRecDepth 100000
set_option maxHeartbeats 2000000
/-! PbErr: own errors that hold a value: raised, caught and kept, asked for their class and their value. -/
namespace PA
open PySem L2
section
variable {P : Program} {w : World} {H : Hp} {h : Heap} {e C dx : Addr}
theorem exq_ok {oe : Obj} {vs : Array Value} (h1 : h.get? e = some oe) (h2 : oe.cls = .ref C) (h3 : oe.dict = some dx) (h4 : oe.data = .fields vs) : ObjOk P w H h e (exq e C dx) :=
  ⟨⟨oe, vs, h1, h2, h3, h4⟩, ⟨oe, h1⟩, fun g1 g2 z k => by
    obtain ⟨o, us, q1, q⟩ := z
    exact ⟨o, us, k o q1, q⟩⟩
theorem exq_at (ok : HOk P w H h) (q : H e = some (exq e C dx)) : ∃ (oe : Obj) (vs : Array Value), h.get? e = some oe ∧ oe.cls = .ref C ∧ oe.dict = some dx ∧ oe.data = .fields vs := by
  have z : ObjOk P w H h e (.ext fun h => ∃ (oe : Obj) (vs : Array Value), h.get? e = some oe ∧ oe.cls = .ref C ∧ oe.dict = some dx ∧ oe.data = .fields vs) := ok e _ q
  exact z.1
theorem exq_ne {x : Addr} {u : HO} (hu : ∀ φ, u ≠ .ext φ) : exq e C dx ≠ u := fun z => hu _ z.symm
theorem exd_ne {fs : List (Str × V)} {u : HO} (hu : ∀ φ, u ≠ .ext φ) : exd dx fs ≠ u := fun z => hu _ z.symm
end
section
variable {X : Cx} {pins : List (Addr × Obj)} {σ : L2.St} {H : Hp} {s : Shared}
/-- an error that came down, and its dict, are tracked from now on -/
theorem keep_exc {a C dx : Addr} {oe : Obj} {vs : Array Value} {fs : List (Str × V)} (I : Inv X pins σ H s) (ha : s.heap.get? a = some oe) (hc : oe.cls = .ref C) (hd : oe.dict = some dx) (hv : oe.data = .fields vs)
    (h0 : X.s_0.heap.get? a = none) (hH : H a = none) (hx : H dx = some (.xd fs)) (nL : a ≠ X.env.locals) (np : ∀ p ∈ X.pn ++ pins, p.1 ≠ a) :
    Inv X pins σ (upd (upd H dx (exd dx fs)) a (exq a C dx)) s := by
  have ndx : dx ≠ a := ne_of_none hx hH
  have at_ : ∀ {b : Addr}, H b = none → b ≠ a → upd (upd H dx (exd dx fs)) a (exq a C dx) b = none := fun {b} hb hne => by
    have hbd : b ≠ dx := fun z => by
      rw [z, hx] at hb
      cases hb
    rw [upd_ne hne, upd_ne hbd]
    exact hb
  have stay : ∀ {b : Addr} {o : HO}, H b = some o → (∀ f, o ≠ .xd f) → upd (upd H dx (exd dx fs)) a (exq a C dx) b = some o := fun {b o} hb hne => by
    have h1 : b ≠ a := ne_of_none hb hH
    have h2 : b ≠ dx := fun z => by
      rw [z, hx] at hb
      cases hb
      exact hne fs rfl
    rw [upd_ne h1, upd_ne h2]
    exact hb
  refine {
    ok := I.ok
    os := I.os
    bare := I.bare
    base := ⟨I.base.keep, I.base.slot, fun b o e1 e2 e3 => at_ (I.base.free b o e1 e2 e3) (fun z => ?_), I.base.there, fun b xs q => stay (I.base.tups b xs q) (fun f z => by cases z),
      fun b o u q => stay (I.base.frzs b o u q) (fun f z => by cases z), fun b ps q => ?_⟩
    loc := I.loc
    cell := I.cell
    free := at_ I.free (Ne.symm nL)
    freeC := fun x c q => at_ (I.freeC x c q) (fun z => ?_)
    pin := fun p hp => ?_
    hok := ?_
    len := I.len }
  · rw [z, h0] at e1
    cases e1
  · obtain ⟨more, z⟩ := I.base.tbls b ps q
    exact ⟨more, stay z (fun f z => by cases z)⟩
  · obtain ⟨v, o, ho, hod⟩ := I.cell x c q
    rw [z, ha] at ho
    cases ho
    rw [hv] at hod
    cases hod
  · obtain ⟨q1, q2, q3⟩ := I.pin p hp
    exact ⟨q1, at_ q2 (np p hp), q3⟩
  · intro b o hb
    by_cases e1 : b = a
    · subst e1
      rw [upd_same] at hb
      cases hb
      exact exq_ok ha hc hd hv
    · rw [upd_ne e1] at hb
      by_cases e2 : b = dx
      · subst e2
        rw [upd_same] at hb
        cases hb
        have z : ObjOk X.prog X.w H s.heap b (.xd fs) := I.hok b _ hx
        obtain ⟨mA, hn, hr⟩ := z
        exact exd_ok hn hr
      · rw [upd_ne e2] at hb
        exact (I.hok b o hb).stay (fun _ _ _ q => q) (fun c q => stay q (fun f z => by cases z)) fun c xs q => stay q (fun f z => by cases z)
/-- the context of a suite whose error is tracked -/
theorem suite_in (I : Inv X pins σ H s) (a : Addr) : Inv (X.suite a (X.pn ++ pins)) [] σ H s :=
  ⟨I.ok.suite _ _, I.os, I.bare, I.base, I.loc, I.cell, I.free, I.freeC, fun p hp => I.pin p (by rwa [List.append_nil] at hp), I.hok, I.len⟩
theorem suite_out {a : Addr} {pn' : List (Addr × Obj)} (I : Inv (X.suite a (X.pn ++ pins)) pn' σ H s) (ok : X.Ok) : Inv X pins σ H s :=
  ⟨ok, I.os, I.bare, I.base, I.loc, I.cell, I.free, I.freeC, fun p hp => I.pin p (List.mem_append_left _ hp), I.hok, I.len⟩
end
/-- what «except c as n: ts» asks, the error being kept behind it -/
def wHold (K : PySem.W.Frag) (c : Value) (i : Nat) (ts : TS) (Wout : WX) (D : Ends) : WX := fun cls d σ H =>
  ∃ b, PySem.W.exmOne K cls c = some b ∧
    (b = true → ∃ (C dx : Addr) (fs : List (Str × V)), cls = .ref C ∧ d = some dx ∧ H dx = some (.xd fs) ∧ ∀ a, H a = none →
      ts { nx := fun σ' H' => D.nx (σ'.set i none) H', rt := D.rt, bk := fun σ' H' => D.bk (σ'.set i none) H', ct := fun σ' H' => D.ct (σ'.set i none) H' } (σ.set i (some (.ref a))) (upd (upd H dx (exd dx fs)) a (exq a C dx))) ∧
    (b = false → Wout cls d σ H)
section
variable {X : Cx} {x n : Str} {c : Value} {i : Nat} {body suite : List Stmt} {b₀ : Stmt} {np pos pos' : Pos} {tb : WX → TS} {ts : TS} {Wout : WX}
theorem ps_try_hold (hstk : X.stack = X.env :: X.outer) (hfr0 : X.env.frame = some X.env.locals) (hex : X.ex = []) (hN : X.N.Nodup) (hi : X.N[i]? = some n) (hln : X.env.kindOf n = some .local) (hnm : Names X x c) (tk : Takes X Wout)
    (hb : ∀ (W : WX) (pn : List (Addr × Obj)) (xe : Value → Shared → Prop), Takes (X.tr pn xe) W → PassesOwn (model X.prog X.w) X.A X.env xe → PSs (X.tr pn xe) body (tb W))
    (hsu : ∀ (a : Addr) (pn : List (Addr × Obj)), PSs (X.suite a pn) (b₀ :: suite) ts) :
    PS X (.Try body [.ExceptHandler (some (.Name x np)) (some n) (b₀ :: suite) pos'] [] [] pos) (fun D σ H => tb (wHold X.K c i ts Wout D) D σ H) := by
  refine ⟨fun pins s σ H D I h => ?_⟩
  have okX := I.ok
  have frm : X.A.frames = some (X.env :: X.outer) := okX.frames.trans (congrArg some hstk)
  refine wpAny_Try_except ?_
  refine wpAny_mono ((hb (wHold X.K c i ts Wout D) (X.pn ++ pins)
    (fun e s₁ => wpAny (model X.prog X.w) X.A (noteFrame e X.env) (fun _ s₂ => wpAny (model X.prog X.w) X.A (setFlight e none)
      (fun _ s₃ => wpAny (model X.prog X.w) X.A (handleBy e X.env [.ExceptHandler (some (.Name x np)) (some n) (b₀ :: suite) pos']) (SP X pins D) X.xe s₃) X.xe s₂) X.xe s₁)
    (fun u s' air => ?_) PassesOwn.looking).run [] s σ H D (I.toTry _) h) (fun f s1 fin => ?_) (fun e s1 he => he)
  · obtain ⟨a, B, sI, pins', σ', H', cls, d, rfl, JT, nb, up, sky, na, os, ag, b, hb1, yes, no⟩ := air
    have J : Inv X pins σ' H' sI := JT.ofTry okX
    show wpAny (model X.prog X.w) X.A (noteFrame (.ref a) X.env) _ _ _
    refine Sky.land Zc.steady frm hfr0 (hstk ▸ sky) fun h3 fly up3 => ?_
    have J3 : Inv X pins σ' H' { s' with heap := h3 } := J.landed nb fly.1 (up.trans up3) os ag
    obtain ⟨o3, v3, g3, z3, d3⟩ := fly.there
    have off : a ∉ frs (X.env :: X.outer) := fun hm => by
      obtain ⟨_, o', e', nof⟩ := fly.2.2.1.mem hm
      rw [g3] at e'
      cases e'
      exact nof _ d3
    have aL : a ≠ X.env.locals := fun z => off (List.mem_filterMap.mpr ⟨X.env, List.mem_cons_self, by rw [hfr0, z]⟩)
    have aI : sI.heap.get? a = none := by
      cases q : sI.heap.get? a with
      | none => rfl
      | some o =>
        have z := nb a o q (by rw [hstk]; exact off)
        rw [fly.2.1] at z
        cases z
    have a0 : X.s_0.heap.get? a = none := by
      cases q : X.s_0.heap.get? a with
      | none => rfl
      | some o =>
        obtain ⟨o', z⟩ := J.base.there a o q (fun hm => by
          rw [hex] at hm
          cases hm)
        rw [aI] at z
        cases z
    have aP : ∀ p ∈ X.pn ++ pins, p.1 ≠ a := fun p hp z => by
      have q := (J.pin p hp).1
      rw [z, aI] at q
      cases q
    refine wpAny_handleBy_cons (codeAny_handlers_test ?_) (by intro q; cases q)
    have typ : PySem.W.Looks (model X.prog X.w) h3 (typeOf (.ref a)) cls := fun A Q E s k q =>
      wpAny_typeOf_ref (k _ _ g3) (by rw [z3.1]; exact q)
    have look := PySem.W.exm_one (M := model X.prog X.w) J3.kIn typ hb1
    have S3 := suite_in J3 a
    have named : ∀ {Q : Value → Shared → Prop} {E : Value → Shared → Prop}, Q c { s' with heap := h3 } → wpAny (model X.prog X.w) (X.A.mark (some (.ref a))) (eval (.Name x np) X.env) Q E { s' with heap := h3 } := fun {Q E} q => by
      obtain ⟨hg, hdb, hm | ⟨hm, hv, hnn⟩⟩ := hnm
      · exact ld_glob (X := X.suite a (X.pn ++ pins)) S3 hg hm q hdb
      · exact ld_blt (X := X.suite a (X.pn ++ pins)) S3 hg hm hv q hnn hdb
    refine named (look.here ?_)
    cases b with
    | true =>
      refine codeAny_handlers_suite_as ?_
      refine HandSPX.lands_againZ fly fun h4 fl4 up4 => ?_
      have J4 : Inv X pins σ' H' { s' with heap := h4 } := J.landed nb fl4.1 ((up.trans up3).trans up4) os ag
      obtain ⟨o4, v4, g4, z4, d4⟩ := fl4.there
      obtain ⟨C, dx, fs, ec, ed, hx, go⟩ := yes rfl
      have J5 := keep_exc J4 (oe := o4) (vs := v4) g4 (by rw [z4.1, ec]) (by rw [z4.2, ed]) d4 a0 na hx aL aP
      refine store_ok (X := X.suite a (X.pn ++ pins)) (v := .ref a) (suite_in J5 a) hN hi (.inl hln) rfl (fun s5 S5 => ?_) (.inr hln)
      refine wpAny_mono ((hsu a (X.pn ++ pins)).run [] s5 _ _ _ S5 (go a na)) (fun f s6 hf => ?_) (fun _ _ z => False.elim z)
      have over : ∀ {σ6 : L2.St} {H6 : Hp} {Q : Shared → Prop}, Inv (X.suite a (X.pn ++ pins)) [] σ6 H6 s6 → (∀ s7, Inv X pins (σ6.set i none) H6 s7 → Q s7) →
          wpAny (model X.prog X.w) X.A (do bindName X.env n .none; unbindBehindTheSuite X.env n pos') (fun _ s7 => Q s7) X.xe s6 := fun {σ6 H6 Q} S6 hq => gone_ok (suite_out S6 okX) hN hi hln hq
      cases f with
      | next =>
        obtain ⟨σ6, H6, S6, q6⟩ := hf
        exact over S6 fun s7 J7 => ⟨_, _, J7, q6⟩
      | brk =>
        obtain ⟨σ6, H6, S6, q6⟩ := hf
        exact over S6 fun s7 J7 => ⟨_, _, J7, q6⟩
      | cont =>
        obtain ⟨σ6, H6, S6, q6⟩ := hf
        exact over S6 fun s7 J7 => ⟨_, _, J7, q6⟩
      | ret u =>
        obtain ⟨v6, σ6, H6, S6, r6, q6⟩ := hf
        exact over S6 fun s7 J7 => ⟨_, _, _, J7, r6, q6⟩
    | false =>
      show wpAny _ X.A (handleBy (.ref a) X.env []) _ _ _
      refine wpAny_handleBy_nil ?_
      obtain ⟨k1, k2, k3, oe, vs, T, oT, tz, he, hz, hd, h1, hr⟩ := id fly
      unfold PySem.passOn
      refine wpAny_bind (wpAny_field he hd h1 ?_)
      rw [if_neg (show ¬ ((Value.ref T == Value.none) = true) from by simp)]
      have fin : wpAny (model X.prog X.w) X.A (setFlight (.ref a) X.env.frame) (fun _ s4 => wpAny (model X.prog X.w) X.A (throw (.ref a) : Sem Flow) (SP X pins D) X.xe s4) X.xe { s' with heap := h3 } := by
        rw [hfr0]
        refine HandSPX.setFlight_upZ fly fun h4 held up4 => wpAny_throw (tk _ _ ?_)
        exact ⟨a, B, sI, pins, σ', H', cls, d, rfl, J, nb, (up.trans up3).trans up4, .inr (.inr (by rw [hstk]; exact held)), na, os, ag, no rfl⟩
      first
        | exact wpAny_bind (wpAny_pure (wpAny_bind fin))
        | exact wpAny_bind fin
  · cases f with
    | next =>
      obtain ⟨σ', H', J', q⟩ := fin
      exact wpAny_execs_nil ⟨σ', H', J'.ofTry okX, q⟩
    | brk =>
      obtain ⟨σ', H', J', q⟩ := fin
      exact ⟨σ', H', J'.ofTry okX, q⟩
    | cont =>
      obtain ⟨σ', H', J', q⟩ := fin
      exact ⟨σ', H', J'.ofTry okX, q⟩
    | ret u =>
      obtain ⟨v, σ', H', J', r, q⟩ := fin
      exact ⟨v, σ', H', J'.ofTry okX, r, q⟩
end
end PA

set_option Elab.async false
set_option linter.all false
set_option maxRecDepth 100000
set_option maxHeartbeats 2000000
/-! PbErr2: what an own error class with a value must say; raise, .value, isinstance, and these over data. -/
namespace PA
open PySem L2
/-- what the written part says of an own error class at C whose __init__ at fI keeps a value -/
structure ErrC (K : PySem.W.Frag) (C fI : Addr) : Prop where
  ox : OexC K C
  xf : XfC K C
  noV : PySem.W.findIn K (.ref C) "value" = some none
  ini : PySem.W.findIn K (.ref C) "__init__" = some (some (.ref fI))
  tI : PySem.W.typeIn K (.ref fI) = some (.type "function")
  ha : PySem.W.findIn K (.ref C) "__class__" = some (some (.builtin "object.__class__"))
  hn : PySem.W.specialIn K (.builtin "object.__class__") "__get__" = some (some (.builtin "getset_descriptor.__get__"))
  ht : PySem.W.takesIn K (.builtin "object.__class__") = some true
  hm : PySem.W.mroIn K C (.type "object") = some true
/-- the promise of such an __init__ -/
def spErr (C : Addr) : Sp := fun vs H Q _ => ∃ (a : Addr) (u : V), vs = [.ref a, u] ∧ H a = some (exo a C none) ∧
  ∀ dx, H dx = none → dx ≠ a → Q .non (upd (upd H dx (exd dx [(("value" : Str), u)])) a (exo a C (some dx)))
def initBody (q1 q2 q3 q4 : Pos) : List Stmt := [.Assign [.Attribute (.Name "self" q1) "value" q2] (.Name "value" q3) q4]
section
variable {P : Program} {w : World} {K : PySem.W.Frag} {mg : Str → Option Value} {base : Heap} {C fI : Addr} {fd : FuncData}
theorem err_fn {qual : Str} {params : Arguments} {body : List Stmt} {scope : Scope} {q1 q2 q3 q4 : Pos} (F : FunD K "__init__" qual params body scope [.non] [] fI fd) (T : ErrC K C fI) (hb : body = initBody q1 q2 q3 q4)
    (sc : FnScope ["self", "value"] ["self", "value"] scope) (v0 : Vis scope "self") (v1 : Vis scope "value") : FnOk P w K mg base (L2.CX P w) 1 fI fd ["self", "value"] (spErr C) := by
  subst hb
  refine F.ok sc (fun vs H Q E h => ?_) (fun cdv A outer s H vs Q E hr h => ?_)
  · obtain ⟨a, u, rfl, _⟩ := h
    rfl
  · obtain ⟨a, u, rfl, ha, k⟩ := h
    refine ⟨_, pss_one (ps_ost (pe_var (i := 0) rfl v0) (pe_var (i := 1) rfl v1) (by rfl)), ?_⟩
    exact ⟨_, rfl, _, rfl, a, C, rfl, T.ox, T.noV, .inl ⟨ha, fun dx hd ne => k dx hd ne⟩⟩
end
/-- raise C(e) -/
def tRaiseE (C : Addr) (E : XK) (ta : TA) : TS := fun _ σ H => tMkO C (spErr C) [] ta σ H fun cls d H' => E cls d H'
theorem ps_raiseE {X : Cx} {CX : CXT} {C fI : Addr} {fd : FuncData} {ta : TA} {E : XK} {x : Str} {e : Expr} {es : List Expr} {p pos pos2 : Pos} {k : Nat} (hc : X.calm = true) (T : ErrC X.K C fI) (F : FnOk X.prog X.w X.K X.mg X.base CX k fI fd ["self", "value"] (spErr C)) (hr : Room (k + 1) X.A)
    (hb : Binds X.K fd ["self", "value"] []) (hx : Passes CX X (fun _ _ _ => False)) (tk : Takes X (fun cls d _ H => E cls d H)) (hg : Gl X x) (hm : X.mg x = some (.ref C)) (ha : PA X (e :: es) ta)
    (hdb : (x == ("__debug__" : Str)) = false := by decide) (he : starEach (e :: es) X.env = (false, eval e X.env) :: starEach es X.env := by rfl) (hpl : (backTo pos (starEach es X.env)).any (·.1) = false := by rfl) :
    PS X (.Raise (some (.Call (.Name x p) (e :: es) [] pos)) none pos2) (tRaiseE C E ta) :=
  ps_raise hc tk (pmk_oex T.ox T.ini T.tI F hr hb .nil hx hg hm ha hdb he hpl)
/-- e.value, e an error that is kept -/
def tErrV (K : PySem.W.Frag) (te : TE) : TE := fun σ H Q => te σ H fun x H1 => ∃ (a C dx fI : Addr) (v : V), x = .ref a ∧ ErrC K C fI ∧ H1 a = some (exq a C dx) ∧ H1 dx = some (exd dx [(("value" : Str), v)]) ∧ Q v H1
theorem exq_inst {X : Cx} {pins : List (Addr × Obj)} {σ : L2.St} {H : Hp} {s : Shared} {a C dx : Addr} {fs : List (Str × V)} (I : Inv X pins σ H s) (h1 : H a = some (exq a C dx)) (h2 : H dx = some (exd dx fs)) :
    ∃ (oe od : Obj) (mA : Str → Option Value), PySem.W.InstAt s.heap a oe C (some od) ∧ s.heap.get? dx = some od ∧ s.heap.Ns1 dx mA ∧ ∀ f, RelO (fs.lookup f) (mA f) := by
  obtain ⟨oe, vs, g1, g2, g3, g4⟩ := exq_at I.hok h1
  obtain ⟨mA, hns, hr⟩ := exd_at I.hok h2
  obtain ⟨od, ho, hl⟩ := lookIn_ns hns
  exact ⟨oe, od, mA, ⟨g1, g2, by unfold PySem.W.notCls; rw [g4] <;> rfl, by rw [g3]; exact ho⟩, ho, hns, hr⟩
theorem pe_errV {X : Cx} {e : Expr} {te : TE} {pos : Pos} (he : PE X e te) (hb : attributeBase e "value" X.env (eval e X.env) = eval e X.env := by rfl) : PE X (.Attribute e "value" pos) (tErrV X.K te) := by
  refine ⟨fun pins s σ H Q I h => ?_⟩
  refine attr_of hb (thn (he.run pins s σ H _ I h) fun u s1 hh => ?_)
  obtain ⟨x, H1, I1, rx, a, C, dx, fI, v, ex, T, h1, h2, q⟩ := hh
  subst ex
  obtain rfl : u = Value.ref a := rx
  obtain ⟨oe, vs, g1, g2, g3, g4⟩ := exq_at I1.hok h1
  obtain ⟨mA, hns, hr⟩ := exd_at I1.hok h2
  obtain ⟨od, ho, hl⟩ := lookIn_ns hns
  have l : List.lookup ("value" : Str) [(("value" : Str), v)] = some v := by simp [List.lookup]
  obtain ⟨y, hy, ry⟩ := RelO.some_of (v := v) (o := mA "value") (by rw [← l]; exact hr "value")
  have J : PySem.W.InstAt s1.heap a oe C (some od) := ⟨g1, g2, by unfold PySem.W.notCls; rw [g4] <;> rfl, by rw [g3]; exact ho⟩
  exact HandSPX.exc_get I1.kIn J T.xf.ga T.xf.gg T.xf.exC (PySem.W.findObj_own T.xf.hdC T.noV rfl (by rw [hl, hy])) (handed_of ry) ⟨v, H1, I1.tok _, ry, q⟩
/-- isinstance(x, c), x an error that is kept -/
def rIsX (K : PySem.W.Frag) : List V → Hp → VK → Prop := fun xs H Q => ∃ (a C dx fI : Addr) (fs : List (Str × V)) (c : V) (cv : Value) (b : Bool), xs = [.ref a, c] ∧ ClsV c cv ∧ ErrC K C fI ∧ H a = some (exq a C dx) ∧ H dx = some (exd dx fs) ∧ PySem.W.kitOne K (.ref C) cv = some b ∧ Q (.bl b) H
theorem cls_some {K : PySem.W.Frag} {C : Addr} (h : PySem.W.hasDictIn K C = true) : (PySem.W.clsIn K C).isSome = true := by
  obtain ⟨cd, hc, _⟩ := PySem.W.any_some h
  rw [hc]
  rfl
theorem call_isX {X : Cx} : CallR X (.builtin "isinstance") (rIsX X.K) := by
  intro pins s σ H xs us Q I r h
  obtain ⟨a, C, dx, fI, fs, c, cv, b, rfl, k, T, h1, h2, e, q⟩ := h
  obtain ⟨u1, u2, rfl, r1, r2⟩ := vals2 r
  have e2 := k.eq r2
  subst e2
  cases (show u1 = Value.ref a from r1)
  obtain ⟨oe, od, mA, J, _⟩ := exq_inst I h1 h2
  exact PySem.W.kia_one (PySem.W.kitx_exc (cls_some T.xf.hdC) T.xf.ga T.xf.gg T.xf.exC T.ha T.hn T.ht T.hm) I.kIn J e (fun z => nomatch z) fun tk => ⟨.bl b, H, I.kept (t' := tk) fun _ _ z => z, rfl, q⟩

/-! ### over data -/
section
variable {K : PySem.W.Frag} {S : Bs} {δ : Sl} {μ : List Cell} {ta : TA} {te : TE} {E : XK} {CE : Addr → D → List Cell → Prop} {Cn0 : Cn} {C : D → List Cell → Prop}
theorem se_raise {c : Addr} (wi : Wi K S E CE) (h : EA K S ta δ μ fun ds μ1 => ∃ d, ds = [d] ∧ CE c d μ1) : SE K S (tRaiseE c E ta) δ μ Cn0 := fun A G H σ a F f =>
  h A G H σ a _ fun vs ds A1 G1 H1 μ1 m1 n1 r1 ⟨d, e, hc⟩ => by
    subst e
    cases r1 with
    | @cons _ u _ _ rd r =>
      cases r
      refine ⟨(by show 1 ≤ 1000; decide), fun x hx => ⟨x, u, rfl, upd_same, fun dx hd ne => ⟨rfl, dx, _, upd_same, (by rw [upd_ne ne, upd_same]), ?_, ?_⟩⟩⟩
      · rw [upd_ne ne] at hd
        exact hd
      · rw [upd_ne ne] at hd
        have eq : upd (del (upd (upd (upd H1 x (exo x c none)) dx (exd dx [(("value" : Str), u)])) x (exo x c (some dx))) x) dx (.xd [(("value" : Str), u)]) = upd H1 dx (.xd [(("value" : Str), u)]) := by
          funext b
          by_cases e1 : b = dx
          · subst e1
            rw [upd_same, upd_same]
          · rw [upd_ne e1, upd_ne e1]
            by_cases e2 : b = x
            · subst e2
              rw [del_same, hx]
            · rw [del_ne e2, upd_ne e2, upd_ne e1, upd_ne e2]
        rw [eq]
        have gd := m1.ex.free hd
        refine wi c dx u d A1 G1 _ μ1 (m1.grow (m1.ex.side gd) (Ex.refl _) (Ex.new hd) fun p h => .inl h) (m1.freeS hd).1 gd upd_same rd hc
theorem ee_errV {fI : Addr → Addr} (h : EE K S te δ μ fun x μ1 => ∃ c d, x = .exc c d ∧ ErrC K c (fI c) ∧ C d μ1) : EE K S (tErrV K te) δ μ C := fun A G H σ a Q q =>
  h A G H σ a _ fun v x A1 G1 H1 μ1 m1 n1 r1 ⟨c, d, e, T, k⟩ => by
    subst e
    cases r1 with
    | exc h1 h2 r => exact ⟨_, _, _, _, _, rfl, T, m1.ex _ _ h1, m1.ex _ _ h2, q _ d A1 G1 H1 μ1 m1 n1 r k⟩
/-! ### try, over data -/
/-- what an error out of a try's body is let do, at the slots as they stand -/
def WiX (K : PySem.W.Frag) (S : Bs) (W : WX) (A0 : List Addr) (G0 : Hp) (CE : Sl → Addr → D → List Cell → Prop) : Prop :=
  ∀ A G H σ δ μ c dx u d, At K S A G H σ δ μ → Nw A0 G0 A G → S.H dx = none → G dx = none → H dx = some (.xd [(("value" : Str), u)]) → Rp K A G d u → CE δ c d μ → W (.ref c) (some dx) σ H
def EX (K : PySem.W.Frag) (S : Bs) (te : WX → TE) (δ : Sl) (μ : List Cell) (C : D → List Cell → Prop) (CE : Sl → Addr → D → List Cell → Prop) : Prop :=
  ∀ A G H σ, At K S A G H σ δ μ → ∀ W, WiX K S W A G CE → ∀ Q : VK, (∀ v d A' G' H' μ', Mem K S A' G' H' μ' → Nw A G A' G' → Rp K A' G' d v → C d μ' → Q v H') → te W σ H Q
def SX (K : PySem.W.Frag) (S : Bs) (tb : WX → TS) (δ : Sl) (μ : List Cell) (C : Cn) (CE : Sl → Addr → D → List Cell → Prop) : Prop :=
  ∀ A G H σ, At K S A G H σ δ μ → ∀ W (F : Ends), Fi K S A G F C → WiX K S W A G CE → tb W F σ H
theorem WiX.at' {W : WX} {A0 A1 : List Addr} {G0 G1 : Hp} {CE : Sl → Addr → D → List Cell → Prop} (w : WiX K S W A0 G0 CE) (n : Nw A0 G0 A1 G1) : WiX K S W A1 G1 CE :=
  fun A G H σ δ μ c dx u d a n1 h1 h2 h3 h4 h5 => w A G H σ δ μ c dx u d a (n.trans n1) h1 h2 h3 h4 h5
section
variable {CE : Sl → Addr → D → List Cell → Prop}
theorem ex_of (h : EE K S te δ μ C) : EX K S (fun _ => te) δ μ C CE := fun A G H σ a _ _ Q q => h A G H σ a Q q
theorem sx_of {ts : TS} (h : SE K S ts δ μ Cn0) : SX K S (fun _ => ts) δ μ Cn0 CE := fun A G H σ a _ F f _ => h A G H σ a F f
theorem sx_asg {tw : WX → TE} {i : Nat} (h : EX K S tw δ μ (fun d μ1 => Cn0.nx (δ.set i (some d)) μ1) CE) : SX K S (fun W => tAsg (tw W) (gName i)) δ μ Cn0 CE := fun A G H σ a W F f w =>
  h A G H σ a W w _ fun v d A1 G1 H1 μ1 m1 n1 r1 c => f.nx A1 G1 H1 _ _ μ1 ⟨m1, En.set r1 i (n1.en a.env)⟩ n1 c
theorem sx_drop {tw : WX → TE} (h : EX K S tw δ μ (fun _ μ1 => Cn0.nx δ μ1) CE) : SX K S (fun W => tDrop (tw W)) δ μ Cn0 CE := fun A G H σ a W F f w =>
  h A G H σ a W w _ fun v d A1 G1 H1 μ1 m1 n1 r1 c => f.nx A1 G1 H1 σ δ μ1 ⟨m1, n1.en a.env⟩ n1 c
theorem sx_ret {tw : WX → TE} (h : EX K S tw δ μ Cn0.rt CE) : SX K S (fun W => tRet (tw W)) δ μ Cn0 CE := fun A G H σ a W F f w =>
  h A G H σ a W w _ fun v d A1 G1 H1 μ1 m1 n1 r1 c => f.rt A1 G1 H1 v d μ1 m1 r1 c
theorem sx_seq {t1 t2 : WX → TS} (h : SX K S t1 δ μ { Cn0 with nx := fun δ1 μ1 => SX K S t2 δ1 μ1 Cn0 CE } CE) : SX K S (fun W => tSeq (t1 W) (t2 W)) δ μ Cn0 CE := fun A G H σ a W F f w =>
  h A G H σ a W { F with nx := t2 W F } (f.go fun A1 G1 H1 σ1 δ1 μ1 a1 n1 c => c A1 G1 H1 σ1 a1 W F (f.at' n1) (w.at' n1)) w
theorem ex_call {T : Type} {arg : T → List D} {pre : T → Prop} {post : T → D → Prop} {exc : T → Addr → D → Prop}
    (h : EA K S ta δ μ fun ds μ1 => ∃ t : T, pre t ∧ ds = arg t ∧ D.ltL 0 ds = true ∧ (∀ d, post t d → d.lt 0 = true → C d μ1) ∧ ∀ c d, exc t c d → d.lt 0 = true → CE δ c d μ1) : EX K S (fun W => tCallS (ProP K arg pre post exc) (WE W) ta) δ μ C CE := fun A G H σ a W wx Q q =>
  h A G H σ a _ fun vs ds A1 G1 H1 μ1 m1 n1 r1 ⟨t, hp, ed, hl, hc, hx⟩ => by
    subst ed
    have rd : RpL K [] G1 (arg t) vs := r1.cl hl
    have m0 : Mem K ⟨[], G1, H1⟩ [] G1 H1 [] := ⟨m1.ex, Ex.refl _, ⟨[], rfl, fun _ h => by cases h⟩, fun _ h => .inl h, fun _ _ _ h => h, fun k a c h _ => by simp at h, rfl, List.nodup_nil, fun _ h => by cases h⟩
    have beh : ∀ {G' H' : Hp} {B : List Addr}, Mem K ⟨[], G1, H1⟩ ([] ++ B) G' H' [] → B = [] ∧ Mem K S A1 G' H' μ1 := fun {G' H' B} f => by
      have hB : B = [] := List.length_eq_zero_iff.mp (by have z := f.len; simpa using z)
      subst hB
      have fa := m1.after (hs := []) (B := []) List.nodup_nil (fun k hk => (by cases hk)) f
      have eb : behindC [] A1.length [] μ1 = μ1 := by
        show μ1 ++ [] = μ1
        rw [List.append_nil]
      rw [List.append_nil, eb] at fa
      exact ⟨rfl, fa⟩
    refine ⟨t, [], G1, hp, m0, rd, fun v d B G' H' ν f r ⟨e0, c⟩ => ?_, fun c dx u d G' H' ν f f1 f2 f3 r c' => ?_⟩
    · subst e0
      obtain ⟨hB, mb⟩ := beh f
      subst hB
      have hcl : d.lt 0 = true := r.scope
      exact q v d A1 G' H' μ1 mb (n1.trans (.of f.exG)) (r.cl hcl) (hc _ c hcl)
    · have e0 : ν = [] := List.length_eq_zero_iff.mp (by have z := f.len; simpa using z.symm)
      subst e0
      obtain ⟨_, mb⟩ := beh (B := []) f
      have hcl : d.lt 0 = true := r.scope
      have n2 := n1.trans (Nw.of (A := A1) f.exG)
      have hs0 : S.H dx = none := by
        cases qq : S.H dx with
        | none => rfl
        | some o =>
          by_cases ha' : dx ∈ S.A
          · obtain ⟨B0, hB0, h0⟩ := m1.pre
            exact absurd f1 (m1.al dx (by rw [hB0]; exact List.mem_append_left _ ha'))
          · have z := m1.keep dx o ha' qq
            rw [f1] at z
            cases z
      exact wx A1 G' H' σ δ μ1 c dx u d ⟨mb, n2.en a.env⟩ n2 hs0 f2 f3 (r.cl hcl) (hx c d c' hcl)
end
/-- an error's dict is known from now on -/
theorem Mem.dictKnown {A : List Addr} {G H : Hp} {dx : Addr} {u : V} (m : Mem K S A G H μ) (h1 : S.H dx = none) (h2 : G dx = none) (h3 : H dx = some (.xd [(("value" : Str), u)])) :
    Mem K S A (upd G dx (exd dx [(("value" : Str), u)])) (upd H dx (exd dx [(("value" : Str), u)])) μ where
  ex := Ex.both m.ex
  exG := m.exG.trans (Ex.new h2)
  pre := m.pre
  new := fun p hp => by
    by_cases e : p = dx
    · rw [e]
      exact .inr h1
    · rw [upd_ne e] at hp
      exact m.new p hp
  keep := fun a o q1 q2 => by
    have e : a ≠ dx := ne_of_none q2 h1
    rw [upd_ne e]
    exact m.keep a o q1 q2
  cel := fun k a c e1 e2 => by
    have q := m.cel k a c e1 e2
    cases c with
    | off => trivial
    | lst l =>
      obtain ⟨g, ys, hy, r⟩ := q
      have e : a ≠ dx := fun z => by
        rw [z, h3] at hy
        cases hy
      refine ⟨?_, ys, ?_, r.mono0 (Ex.new h2)⟩
      · rw [upd_ne e]
        exact g
      · rw [upd_ne e]
        exact hy
  len := m.len
  nd := m.nd
  al := fun a ha z => by
    by_cases e : a = dx
    · rw [e, upd_same] at z
      cases z
    · rw [upd_ne e] at z
      exact m.al a ha z
/-- THE RULE for try: tb; except cv as n: ts (n in slot i) -/
theorem se_try {tb : WX → TS} {cv : Value} {i : Nat} {ts : TS} {Wout : WX} {C0 : Cn} (CE : Sl → Addr → D → List Cell → Prop) (hb : SX K S tb δ μ C0 CE)
    (hs : ∀ δ' c d μ', CE δ' c d μ' → PySem.W.exmOne K (.ref c) cv = some true ∧
      SE K S ts (δ'.set i (some (.exc c d))) μ' { nx := fun δ2 μ2 => C0.nx (δ2.set i none) μ2, rt := C0.rt, bk := fun δ2 μ2 => C0.bk (δ2.set i none) μ2, ct := fun δ2 μ2 => C0.ct (δ2.set i none) μ2 }) :
    SE K S (fun D σ H => tb (wHold K cv i ts Wout D) D σ H) δ μ C0 := fun A G H σ a F f => by
  refine hb A G H σ a _ F f fun A1 G1 H1 σ1 δ1 μ1 c dx u d a1 n1 h1 gd hd rd hc => ?_
  obtain ⟨hm, hse⟩ := hs δ1 c d μ1 hc
  refine ⟨true, hm, fun _ => ⟨c, dx, _, rfl, rfl, hd, fun x hx => ?_⟩, fun z => Bool.noConfusion z⟩
  have ne : dx ≠ x := ne_of_none hd hx
  have gx : G1 x = none := a1.m.ex.free hx
  have hx1 : upd H1 dx (exd dx [(("value" : Str), u)]) x = none := by
    rw [upd_ne ne.symm]
    exact hx
  have m2 := (a1.m.dictKnown h1 gd hd).laid (o := exq x c dx) hx1
  have e1 : Ex G1 (upd (upd G1 dx (exd dx [(("value" : Str), u)])) x (exq x c dx)) := (Ex.new gd).trans (Ex.new (by rw [upd_ne ne.symm]; exact gx))
  have rx : Rp K A1 (upd (upd G1 dx (exd dx [(("value" : Str), u)])) x (exq x c dx)) (.exc c d) (.ref x) := .exc upd_same (by rw [upd_ne ne, upd_same]) (rd.mono0 e1)
  have n2 : Nw A1 G1 A1 (upd (upd G1 dx (exd dx [(("value" : Str), u)])) x (exq x c dx)) := .of e1
  refine hse A1 _ _ _ ⟨m2, En.set rx i (n2.en a1.env)⟩ _ ⟨fun A3 G3 H3 σ3 δ3 μ3 a3 n3 c3 => ?_, f.rt, fun A3 G3 H3 σ3 δ3 μ3 a3 n3 c3 => ?_, fun A3 G3 H3 σ3 δ3 μ3 a3 n3 c3 => ?_⟩
  · exact f.nx A3 G3 H3 _ _ μ3 ⟨a3.m, En.unset i none a3.env⟩ ((n1.trans n2).trans n3) c3
  · exact f.bk A3 G3 H3 _ _ μ3 ⟨a3.m, En.unset i none a3.env⟩ ((n1.trans n2).trans n3) c3
  · exact f.ct A3 G3 H3 _ _ μ3 ⟨a3.m, En.unset i none a3.env⟩ ((n1.trans n2).trans n3) c3
end
end PA

set_option Elab.async false
set_option linter.all false
set_option maxRecDepth 100000
set_option maxHeartbeats 2000000
/-! PbOps: operators, items, cuts, calls and methods of the built-ins, over data. -/
namespace PA
open PySem L2
/-! ### one rule a sign -/
section
variable {X : Cx}
def rPlus (K : PySem.W.Frag) : R2 := fun x y H Q => rI0 (fun i j => .int (i + j)) x y H Q ∨
  ((fun x y H (Q : VK) => ∃ i j, x = .str i ∧ y = .str j ∧ i.length + j.length ≤ sizeLine ∧ Q (.str (i ++ j)) H) x y H Q ∨ (rCat x y H Q ∨ rCatA K x y H Q))
theorem op_plus : OpR X (binaryOp .Add) (rPlus X.K) := OpR.or op_add (OpR.or op_add_str (OpR.or op_cat op_catA))
def rLess : R2 := fun x y H Q => rI0 (fun i j => .bl (decide (i < j))) x y H Q ∨ (fun x y H (Q : VK) => ∃ i j, x = .str i ∧ y = .str j ∧ Q (.bl (decide (i.cps.toList < j.cps.toList))) H) x y H Q
theorem op_less : OpR X (compareOp .Lt) rLess := OpR.or op_lt op_lt_str
def rLeq : R2 := fun x y H Q => rI0 (fun i j => .bl (decide (i ≤ j))) x y H Q ∨ (fun x y H (Q : VK) => ∃ i j, x = .str i ∧ y = .str j ∧ Q (.bl (!decide (j.cps.toList < i.cps.toList))) H) x y H Q
theorem op_leq : OpR X (compareOp .LtE) rLeq := OpR.or op_le op_le_str
def rEqU (K : PySem.W.Frag) : R2 := fun x y H Q => rEq x y H Q ∨ (rEqD K x y H Q ∨ rEqDA x y H Q)
theorem op_eqU (hu : X.A.units + 64 < cLine) : OpR X (compareOp .Eq) (rEqU X.K) := OpR.or op_eq (OpR.or (op_eqD hu) (op_eq_dictA (by omega)))
def rNeU (K : PySem.W.Frag) : R2 := fun x y H Q => rNe x y H Q ∨ rNeD K x y H Q
theorem op_neU (hu : X.A.units + 64 < cLine) : OpR X (compareOp .NotEq) (rNeU X.K) := OpR.or op_ne (op_neD hu)
def rInU (K : PySem.W.Frag) : R2 := fun x y H Q => rIn K false x y H Q ∨ (fun x y H (Q : VK) => ∃ (c : Nat) (z : Str), x = .str ⟨#[c]⟩ ∧ y = .str z ∧ Q (.bl (decide (c ∈ z.cps.toList))) H) x y H Q
theorem op_inU : OpR X (compareOp .In) (rInU X.K) := OpR.or op_in_seq op_in_sign
def rNiU (K : PySem.W.Frag) : R2 := fun x y H Q => rIn K true x y H Q ∨ (fun x y H (Q : VK) => ∃ (c : Nat) (z : Str), x = .str ⟨#[c]⟩ ∧ y = .str z ∧ Q (.bl (!decide (c ∈ z.cps.toList))) H) x y H Q
theorem op_niU : OpR X (compareOp .NotIn) (rNiU X.K) := OpR.or op_notIn_seq op_notIn_sign
def rSlU (K : PySem.W.Frag) : V → Option Int → Option Int → Hp → VK → Prop := fun x lo hi H Q => rSlL K x lo hi H Q ∨ (rSlA K x lo hi H Q ∨ rSlS x lo hi H Q)
theorem sl_U : SlR X (rSlU X.K) := SlR.or sl_list (SlR.or sl_tupA sl_str)
def rIsiU (K : PySem.W.Frag) : List V → Hp → VK → Prop := fun xs H Q => rIsi K xs H Q ∨ (rIsiT K xs H Q ∨ (rIsX K xs H Q ∨ rIsiK K xs H Q))
theorem call_isU : CallR X (.builtin "isinstance") (rIsiU X.K) := CallR.or call_isi (CallR.or call_isiT (CallR.or call_isX call_isiK))
end
section
variable {K : PySem.W.Frag} {S : Bs} {δ : Sl} {μ : List Cell} {ta tb te : TE} {C : D → List Cell → Prop}
theorem oo_same {r : R2} {x y z : V} (h : ∀ H (Q : VK), Q z H → r x y H Q) (k : C (.v z) μ) : OO K S r (.v x) (.v y) μ C := fun A G H u w m r1 r2 Q q => by
  have e1 := r1.vOf
  have e2 := r2.vOf
  subst e1 e2
  exact h H Q (q z (.v z) A G H μ m Nw.refl (.v z) k)
theorem oo_add {i j : Int} (k : C (.int (i + j)) μ) : OO K S (rPlus K) (.int i) (.int j) μ C := oo_same (fun _ _ q => .inl ⟨i, j, rfl, rfl, q⟩) k
theorem oo_addS {a b : Str} (hz : a.length + b.length ≤ 10000000) (k : C (.str (a ++ b)) μ) : OO K S (rPlus K) (.str a) (.str b) μ C := oo_same (fun _ _ q => .inr (.inl ⟨a, b, rfl, rfl, small hz, q⟩)) k
theorem put_lst {A : List Addr} {G H : Hp} {p : Addr} {xs : List V} {l : List D} {Q : VK} (m : Mem K S A G H μ) (hp : H p = none) (r : RpL K A G l xs)
    (q : ∀ v d A' G' H' μ', Mem K S A' G' H' μ' → Nw A G A' G' → Rp K A' G' d v → C d μ' → Q v H') (k : C (.lst l) μ) : Q (.ref p) (upd H p (.lst xs)) :=
  q _ _ A _ _ μ (m.laid hp) (.of (Ex.new (m.ex.free hp))) (.lst upd_same (r.mono0 (Ex.new (m.ex.free hp)))) k
theorem put_tup {A : List Addr} {G H : Hp} {p : Addr} {xs : List V} {l : List D} {Q : VK} (m : Mem K S A G H μ) (hp : H p = none) (r : RpL K A G l xs)
    (q : ∀ v d A' G' H' μ', Mem K S A' G' H' μ' → Nw A G A' G' → Rp K A' G' d v → C d μ' → Q v H') (k : C (.tup l) μ) : Q (.ref p) (upd H p (.tup xs)) :=
  q _ _ A _ _ μ (m.laid hp) (.of (Ex.new (m.ex.free hp))) (.tup (.inl upd_same) (r.mono0 (Ex.new (m.ex.free hp)))) k
theorem oo_addL {l m : List D} (hz : l.length + m.length ≤ 10000000) (k : C (.lst (l ++ m)) μ) : OO K S (rPlus K) (.lst l) (.lst m) μ C := fun A G H u w me r1 r2 Q q => by
  cases r1 with
  | lst h1 s1 =>
    cases r2 with
    | lst h2 s2 => exact .inr (.inr (.inl ⟨_, _, _, _, rfl, rfl, me.ex _ _ h1, me.ex _ _ h2, small (by rw [← s1.len, ← s2.len]; exact hz), fun p hp => put_lst me hp (s1.append s2) q k⟩))
theorem oo_addT {l m : List D} (hz : l.length + m.length ≤ 10000000) (k : C (.tup (l ++ m)) μ) : OO K S (rPlus K) (.tup l) (.tup m) μ C := fun A G H u w me r1 r2 Q q => by
  cases r1 with
  | @tup _ a xs h1 s1 =>
    cases r2 with
    | @tup _ b ys h2 s2 =>
      refine .inr (.inr (.inr ⟨_, _, xs, ys, rfl, rfl, ex_t me.ex h1.sq, ex_t me.ex h2.sq, small (by rw [← s1.len, ← s2.len]; exact hz), fun e => ?_, fun n e => ?_, fun n1 n2 p hp => put_tup me hp (s1.append s2) q k⟩))
      · refine q _ _ A G H μ me Nw.refl (.tup h2 ?_) k
        have z := s1.append s2
        rw [e, List.nil_append] at z
        exact z
      · refine q _ _ A G H μ me Nw.refl (.tup h1 ?_) k
        have z := s1.append s2
        rw [e, List.append_nil] at z
        exact z
theorem oo_I0 {g : Int → Int → V} {i j : Int} (k : C (.v (g i j)) μ) : OO K S (rI0 g) (.int i) (.int j) μ C := oo_same (fun _ _ q => ⟨i, j, rfl, rfl, q⟩) k
theorem oo_I {P : Int → Int → Prop} {g : Int → Int → V} {i j : Int} (hp : P i j) (k : C (.v (g i j)) μ) : OO K S (rI P g) (.int i) (.int j) μ C := oo_same (fun _ _ q => ⟨i, j, rfl, rfl, hp, q⟩) k
theorem oo_lt {i j : Int} (k : C (.bl (decide (i < j))) μ) : OO K S rLess (.int i) (.int j) μ C := oo_same (fun _ _ q => .inl ⟨i, j, rfl, rfl, q⟩) k
theorem oo_ltS {a b : Str} (k : C (.bl (decide (a.cps.toList < b.cps.toList))) μ) : OO K S rLess (.str a) (.str b) μ C := oo_same (fun _ _ q => .inr ⟨a, b, rfl, rfl, q⟩) k
theorem oo_le {i j : Int} (k : C (.bl (decide (i ≤ j))) μ) : OO K S rLeq (.int i) (.int j) μ C := oo_same (fun _ _ q => .inl ⟨i, j, rfl, rfl, q⟩) k
theorem oo_leS {a b : Str} (k : C (.bl (!decide (b.cps.toList < a.cps.toList))) μ) : OO K S rLeq (.str a) (.str b) μ C := oo_same (fun _ _ q => .inr ⟨a, b, rfl, rfl, q⟩) k
theorem oo_eq {x y : V} (hs : scal x y = true) (k : C (.bl (decide (x = y))) μ) : OO K S (rEqU K) (.v x) (.v y) μ C := oo_same (fun _ _ q => .inl ⟨hs, q⟩) k
theorem oo_ne {x y : V} (hs : scal x y = true) (k : C (.bl (!decide (x = y))) μ) : OO K S (rNeU K) (.v x) (.v y) μ C := oo_same (fun _ _ q => .inl ⟨hs, q⟩) k
/-! data that may be compared at any depth -/
mutual
def D.py : D → Option PyData
  | .v .non => some .none
  | .v (.bl b) => some (.bool b)
  | .v (.int i) => some (.int i)
  | .v (.str s) => some (.str s)
  | .lst l => (D.pyAll l).map .list
  | .rd l => (D.pyAll l).map .list
  | .tup l => (D.pyAll l).map .tuple
  | _ => none
def D.pyAll : List D → Option (List PyData)
  | [] => some []
  | d :: l => match D.py d, D.pyAll l with
    | some p, some ps => some (p :: ps)
    | _, _ => none
end
mutual
theorem Rp.dp {A : List Addr} {G : Hp} : ∀ {d : D} {x : V} {p : PyData}, Rp K A G d x → D.py d = some p → Dp K G x p
  | _, _, p, .v x, e => by
    cases x with
    | non => cases e; exact .non
    | bl b => cases e; exact .bl b
    | int i => cases e; exact .int i
    | str s => cases e; exact .str s
    | byt b => cases e
    | flt b => cases e
    | ref a => cases e
    | ty n => cases e
  | _, _, p, .lst (l := l) h r, e => by
    have e : (D.pyAll l).map PyData.list = some p := e
    cases q : D.pyAll l with
    | none => rw [q] at e; cases e
    | some ps =>
      rw [q] at e
      cases e
      exact .lst (lst_sq h) (RpL.dp r q)
  | _, _, p, .rd (l := l) h r, e => by
    have e : (D.pyAll l).map PyData.list = some p := e
    cases q : D.pyAll l with
    | none => rw [q] at e; cases e
    | some ps =>
      rw [q] at e
      cases e
      exact .lst h (RpL.dp r q)
  | _, _, p, .tup (l := l) h r, e => by
    have e : (D.pyAll l).map PyData.tuple = some p := e
    cases q : D.pyAll l with
    | none => rw [q] at e; cases e
    | some ps =>
      rw [q] at e
      cases e
      exact .tup h.sq (RpL.dp r q)
theorem RpL.dp {A : List Addr} {G : Hp} : ∀ {l : List D} {xs : List V} {ps : List PyData}, RpL K A G l xs → D.pyAll l = some ps → DpAll K G xs ps
  | _, _, ps, .nil, e => by cases e; exact .nil
  | _, _, ps, .cons (d := d) (l := l) h r, e => by
    have e : (match D.py d, D.pyAll l with | some p, some ps => some (p :: ps) | _, _ => none) = some ps := e
    cases q1 : D.py d with
    | none => rw [q1] at e; cases e
    | some p =>
      cases q2 : D.pyAll l with
      | none => rw [q1, q2] at e; cases e
      | some qs =>
        rw [q1, q2] at e
        cases e
        exact .cons (Rp.dp h q1) (RpL.dp r q2)
end
theorem oo_eqD {x y : D} {p q : PyData} (h1 : D.py x = some p) (h2 : D.py y = some q) (s1 : SeqAt.shaped p = true) (s2 : SeqAt.shaped q = true) (k : C (.bl (PyData.eqv p q)) μ) : OO K S (rEqU K) x y μ C := fun A G H u w m r1 r2 Q qq =>
  .inr (.inl ⟨p, q, (r1.mono0 m.ex).dp h1, (r2.mono0 m.ex).dp h2, s1, s2, qq _ _ A G H μ m Nw.refl (.v _) k⟩)
theorem oo_neD {x y : D} {p q : PyData} (h1 : D.py x = some p) (h2 : D.py y = some q) (s1 : SeqAt.shaped p = true) (s2 : SeqAt.shaped q = true) (k : C (.bl (!PyData.eqv p q)) μ) : OO K S (rNeU K) x y μ C := fun A G H u w m r1 r2 Q qq =>
  .inr ⟨p, q, (r1.mono0 m.ex).dp h1, (r2.mono0 m.ex).dp h2, s1, s2, qq _ _ A G H μ m Nw.refl (.v _) k⟩
/-- x is None -/
def D.isNon : D → Bool
  | .v .non => true
  | _ => false
theorem Rp.isNon {A : List Addr} {G : Hp} {d : D} {x : V} (h : Rp K A G d x) : decide (x = .non) = d.isNon := by
  cases h with
  | v x => cases x <;> rfl
  | own _ => rfl
  | lst _ _ => rfl
  | rd _ _ => rfl
  | tup _ _ => rfl
  | dic _ _ _ => rfl
  | exc _ _ _ => rfl
theorem oo_isN {x : D} (k : C (.bl x.isNon) μ) : OO K S (fun x y H Q => y = .non ∧ Q (.bl (decide (x = .non))) H) x .non μ C := fun A G H u w m r1 r2 Q q => by
  have e2 := r2.vOf
  subst e2
  refine ⟨rfl, ?_⟩
  rw [r1.isNon]
  exact q _ _ A G H μ m Nw.refl (.v _) k
theorem oo_notN {x : D} (k : C (.bl (!x.isNon)) μ) : OO K S (fun x y H Q => y = .non ∧ Q (.bl (!decide (x = .non))) H) x .non μ C := fun A G H u w m r1 r2 Q q => by
  have e2 := r2.vOf
  subst e2
  refine ⟨rfl, ?_⟩
  rw [r1.isNon]
  exact q _ _ A G H μ m Nw.refl (.v _) k
theorem oo_inC {c : Nat} {z : Str} (k : C (.bl (decide (c ∈ z.cps.toList))) μ) : OO K S (rInU K) (.str ⟨#[c]⟩) (.str z) μ C := oo_same (fun _ _ q => .inr ⟨c, z, rfl, rfl, q⟩) k
theorem oo_niC {c : Nat} {z : Str} (k : C (.bl (!decide (c ∈ z.cps.toList))) μ) : OO K S (rNiU K) (.str ⟨#[c]⟩) (.str z) μ C := oo_same (fun _ _ q => .inr ⟨c, z, rfl, rfl, q⟩) k
/-- x in a tuple or a list of flat values -/
theorem oo_inT {x : V} {ys : List V} (hx : flatV x = true) (hy : ys.all flatV = true) (k : C (.bl (inV x ys)) μ) : OO K S (rInU K) (.v x) (.tup (ys.map .v)) μ C := fun A G H u w m r1 r2 Q q => by
  have e1 := r1.vOf
  subst e1
  cases r2 with
  | tup h r =>
    have e2 := RpL.of_vals r
    subst e2
    exact .inl ⟨_, _, rfl, .inr (ex_t m.ex h.sq), hx, hy, q _ _ A G H μ m Nw.refl (.v _) k⟩
theorem oo_inL {x : V} {ys : List V} (hx : flatV x = true) (hy : ys.all flatV = true) (k : C (.bl (inV x ys)) μ) : OO K S (rInU K) (.v x) (.lst (ys.map .v)) μ C := fun A G H u w m r1 r2 Q q => by
  have e1 := r1.vOf
  subst e1
  cases r2 with
  | lst h r =>
    have e2 := RpL.of_vals r
    subst e2
    exact .inl ⟨_, _, rfl, .inl (ex_l m.ex (lst_sq h)), hx, hy, q _ _ A G H μ m Nw.refl (.v _) k⟩

/-! ### items -/
theorem atI_rel {A : List Addr} {G : Hp} {l : List D} {xs : List V} {i : Int} {d : D} (r : RpL K A G l xs) (h : atI l i = some d) : ∃ x, atI xs i = some x ∧ Rp K A G d x := by
  unfold atI at h ⊢
  rw [← r.len]
  cases q : ixN l.length i with
  | none => rw [q] at h; cases h
  | some j =>
    rw [q] at h
    exact r.get h
theorem atI_nat {α : Type} {l : List α} {j : Nat} {d : α} (h : l[j]? = some d) : atI l (j : Int) = some d := by
  have hj := (List.getElem?_eq_some_iff.mp h).1
  unfold atI ixN
  rw [if_pos (by omega), if_pos (by omega)]
  simpa using h
theorem atI_neg {α : Type} {l : List α} {j : Nat} {d : α} (hj : 0 < j) (hl : j ≤ l.length) (h : l[l.length - j]? = some d) : atI l (-(j : Int)) = some d := by
  unfold atI ixN
  rw [if_neg (by omega), if_pos (by omega)]
  show l[(-(j : Int) + (l.length : Int)).toNat]? = some d
  have e : (-(j : Int) + (l.length : Int)).toNat = l.length - j := by omega
  rw [e]
  exact h
theorem oo_ixL {l : List D} {i : Int} {d : D} (h : atI l i = some d) (k : C d μ) : OO K S (rIx K) (.lst l) (.int i) μ C := fun A G H u w m r1 r2 Q q => by
  have e2 := r2.vOf
  subst e2
  cases r1 with
  | lst h1 r =>
    obtain ⟨x, hx, rx⟩ := atI_rel r h
    exact .inl ⟨_, _, i, x, rfl, rfl, lst_sq (m.ex _ _ h1), hx, q x d A G H μ m Nw.refl rx k⟩
theorem oo_ixR {l : List D} {i : Int} {d : D} (h : atI l i = some d) (k : C d μ) : OO K S (rIx K) (.rd l) (.int i) μ C := fun A G H u w m r1 r2 Q q => by
  have e2 := r2.vOf
  subst e2
  cases r1 with
  | rd h1 r =>
    obtain ⟨x, hx, rx⟩ := atI_rel r h
    exact .inl ⟨_, _, i, x, rfl, rfl, ex_l m.ex h1, hx, q x d A G H μ m Nw.refl rx k⟩
theorem oo_ixT {l : List D} {i : Int} {d : D} (h : atI l i = some d) (k : C d μ) : OO K S (rIx K) (.tup l) (.int i) μ C := fun A G H u w m r1 r2 Q q => by
  have e2 := r2.vOf
  subst e2
  cases r1 with
  | tup h1 r =>
    obtain ⟨x, hx, rx⟩ := atI_rel r h
    exact .inr (.inl ⟨_, _, i, x, rfl, rfl, ex_t m.ex h1.sq, hx, q x d A G H μ m Nw.refl rx k⟩)
theorem oo_ixO {n : Nat} {l : List D} {i : Int} {d : D} (hc : μ[n]? = some (.lst l)) (h : atI l i = some d) (k : C d μ) : OO K S (rIx K) (.own n) (.int i) μ C := fun A G H u w m r1 r2 Q q => by
  have e2 := r2.vOf
  subst e2
  cases r1 with
  | own hA =>
    obtain ⟨g, xs, hx, r⟩ := m.cel n _ _ hA hc
    obtain ⟨x, hx2, rx⟩ := atI_rel r h
    exact .inl ⟨_, _, i, x, rfl, rfl, lst_sq hx, hx2, q x d A G H μ m Nw.refl rx k⟩
theorem oo_ixS {s : Str} {i : Int} {c : Nat} (hz : s.length ≤ 10000000) (h : atI s.cps.toList i = some c) (k : C (.str ⟨#[c]⟩) μ) : OO K S (rIx K) (.str s) (.int i) μ C :=
  oo_same (fun _ _ q => .inr (.inr ⟨s, i, c, rfl, rfl, small hz, h, q⟩)) k

/-! ### cuts -/
theorem eo_none {C : Option Int → List Cell → Prop} (k : C none μ) : EO K S tNoPart δ μ C := fun A G H σ a Q q => q none A G H μ a.m Nw.refl k
theorem eo_some {C : Option Int → List Cell → Prop} (h : EE K S te δ μ fun d μ1 => ∃ i, d = .int i ∧ C (some i) μ1) : EO K S (tPart te) δ μ C := fun A G H σ a Q q =>
  h A G H σ a _ fun v d A1 G1 H1 μ1 m1 n1 r1 ⟨i, e, c⟩ => by
    subst e
    have ev := r1.vOf
    subst ev
    exact ⟨i, rfl, q (some i) A1 G1 H1 μ1 m1 n1 c⟩
def SS (K : PySem.W.Frag) (S : Bs) (r : V → Option Int → Option Int → Hp → VK → Prop) (x : D) (lo hi : Option Int) (μ : List Cell) (C : D → List Cell → Prop) : Prop :=
  ∀ A G H u, Mem K S A G H μ → Rp K A G x u → ∀ Q : VK, (∀ v d A' G' H' μ', Mem K S A' G' H' μ' → Nw A G A' G' → Rp K A' G' d v → C d μ' → Q v H') → r u lo hi H Q
theorem ee_sl {r : V → Option Int → Option Int → Hp → VK → Prop} {tl th : TO} (h : EE K S te δ μ fun x μ1 => EO K S tl δ μ1 fun lo μ2 => EO K S th δ μ2 fun hi μ3 => SS K S r x lo hi μ3 C) : EE K S (tSl r te tl th) δ μ C := fun A G H σ a Q q =>
  h A G H σ a _ fun v x A1 G1 H1 μ1 m1 n1 r1 h1 => h1 A1 G1 H1 σ ⟨m1, n1.en a.env⟩ _ fun lo A2 G2 H2 μ2 m2 n2 h2 => h2 A2 G2 H2 σ ⟨m2, (n1.trans n2).en a.env⟩ _ fun hi A3 G3 H3 μ3 m3 n3 h3 =>
    h3 A3 G3 H3 v m3 ((n2.trans n3).rp r1) Q fun z d A4 G4 H4 μ4 m4 n4 r4 c => q z d A4 G4 H4 μ4 m4 (((n1.trans n2).trans n3).trans n4) r4 c
def cutD (l : List D) (lo hi : Option Int) : List D := (l.drop (HT.sIx l.length 0 lo)).take (HT.sIx l.length l.length hi - HT.sIx l.length 0 lo)
theorem cut_rel {A : List Addr} {G : Hp} {l : List D} {xs : List V} (r : RpL K A G l xs) (lo hi : Option Int) : RpL K A G (cutD l lo hi) (cutV xs lo hi) := by
  unfold cutD cutV
  rw [r.len]
  exact (r.drop _).take _
theorem ss_lst {l : List D} {lo hi : Option Int} (k : C (.lst (cutD l lo hi)) μ) : SS K S (rSlU K) (.lst l) lo hi μ C := fun A G H u m r1 Q q => by
  cases r1 with
  | lst h1 r => exact .inl ⟨_, _, rfl, lst_sq (m.ex _ _ h1), fun p hp => put_lst m hp (cut_rel r lo hi) q k⟩
theorem ss_rd {l : List D} {lo hi : Option Int} (k : C (.lst (cutD l lo hi)) μ) : SS K S (rSlU K) (.rd l) lo hi μ C := fun A G H u m r1 Q q => by
  cases r1 with
  | rd h1 r => exact .inl ⟨_, _, rfl, ex_l m.ex h1, fun p hp => put_lst m hp (cut_rel r lo hi) q k⟩
theorem ss_own {n : Nat} {l : List D} {lo hi : Option Int} (hc : μ[n]? = some (.lst l)) (k : C (.lst (cutD l lo hi)) μ) : SS K S (rSlU K) (.own n) lo hi μ C := fun A G H u m r1 Q q => by
  cases r1 with
  | own hA =>
    obtain ⟨g, xs, hx, r⟩ := m.cel n _ _ hA hc
    exact .inl ⟨_, _, rfl, lst_sq hx, fun p hp => put_lst m hp (cut_rel r lo hi) q k⟩
theorem ss_str {s : Str} {lo hi : Option Int} (hz : s.length ≤ 10000000) (k : C (.str (cutS s lo hi)) μ) : SS K S (rSlU K) (.str s) lo hi μ C := fun A G H u m r1 Q q => by
  have e1 := r1.vOf
  subst e1
  exact .inr (.inr ⟨s, rfl, small hz, q _ _ A G H μ m Nw.refl (.v _) k⟩)
theorem cut_all {l : List D} {lo hi : Option Int} (h1 : HT.sIx l.length 0 lo = 0) (h2 : HT.sIx l.length l.length hi = l.length) : cutD l lo hi = l := by
  unfold cutD
  rw [h1, h2]
  simp
theorem ss_tup {l : List D} {lo hi : Option Int} (k : C (.tup (cutD l lo hi)) μ) : SS K S (rSlU K) (.tup l) lo hi μ C := fun A G H u m r1 Q q => by
  cases r1 with
  | @tup _ a xs h1 r =>
    refine .inr (.inl ⟨_, xs, rfl, ex_t m.ex h1.sq, fun ⟨e1, e2⟩ => ?_, fun _ p hp => put_tup m hp (cut_rel r lo hi) q k⟩)
    rw [← r.len] at e1 e2
    refine q _ _ A G H μ m Nw.refl (.tup h1 ?_) k
    rw [cut_all e1 e2]
    exact r
theorem ee_revL (h : EE K S te δ μ fun d μ1 => ∃ l, d = .lst l ∧ C (.lst l.reverse) μ1) : EE K S (tRevL K te) δ μ C := fun A G H σ a Q q =>
  h A G H σ a _ fun v d A1 G1 H1 μ1 m1 n1 r1 ⟨l, e, c⟩ => by
    subst e
    cases r1 with
    | lst h1 r =>
      have e : ∀ {p : Addr} {o : HO}, H1 p = none → Ex G1 (upd G1 p o) := fun hp => Ex.new (m1.ex.free hp)
      exact ⟨_, _, rfl, lst_sq (m1.ex _ _ h1), fun p hp => q _ _ A1 _ _ μ1 (m1.laid hp) (n1.trans (.of (e hp))) (.lst upd_same (r.reverse.mono0 (e hp))) c⟩

/-! ### calls of built-ins -/
theorem cc_one {r : List V → Hp → VK → Prop} {x z : V} (h : ∀ H (Q : VK), Q z H → r [x] H Q) (k : C (.v z) μ) : CC K S r [.v x] μ C := fun A G H vs m r1 Q q => by
  cases r1 with
  | cons r1 rn =>
    cases rn
    have e1 := r1.vOf
    subst e1
    exact h H Q (q z (.v z) A G H μ m Nw.refl (.v z) k)
theorem cc_two {r : List V → Hp → VK → Prop} {x y z : V} (h : ∀ H (Q : VK), Q z H → r [x, y] H Q) (k : C (.v z) μ) : CC K S r [.v x, .v y] μ C := fun A G H vs m r1 Q q => by
  cases r1 with
  | cons r1 rn =>
    cases rn with
    | cons r2 rn =>
      cases rn
      have e1 := r1.vOf
      have e2 := r2.vOf
      subst e1 e2
      exact h H Q (q z (.v z) A G H μ m Nw.refl (.v z) k)
/-- a list or a tuple, or an open list, as a thing to be read -/
inductive SeqD (μ : List Cell) : D → List D → Prop
  | lst (l : List D) : SeqD μ (.lst l) l
  | rd (l : List D) : SeqD μ (.rd l) l
  | tup (l : List D) : SeqD μ (.tup l) l
  | own {n : Nat} {l : List D} (h : μ[n]? = some (.lst l)) : SeqD μ (.own n) l
inductive LstD (μ : List Cell) : D → List D → Prop
  | lst (l : List D) : LstD μ (.lst l) l
  | rd (l : List D) : LstD μ (.rd l) l
  | own {n : Nat} {l : List D} (h : μ[n]? = some (.lst l)) : LstD μ (.own n) l
theorem LstD.at' {A : List Addr} {G H : Hp} {d : D} {l : List D} {x : V} (s : LstD μ d l) (m : Mem K S A G H μ) (r : Rp K A G d x) : ∃ a xs, x = .ref a ∧ SqL K H a xs ∧ RpL K A G l xs := by
  cases s with
  | lst =>
    cases r with
    | lst h rl => exact ⟨_, _, rfl, lst_sq (m.ex _ _ h), rl⟩
  | rd =>
    cases r with
    | rd h rl => exact ⟨_, _, rfl, ex_l m.ex h, rl⟩
  | own h =>
    cases r with
    | own hA =>
      obtain ⟨g, xs, hx, r⟩ := m.cel _ _ _ hA h
      exact ⟨_, xs, rfl, lst_sq hx, r⟩
theorem SeqD.at' {A : List Addr} {G H : Hp} {d : D} {l : List D} {x : V} (s : SeqD μ d l) (m : Mem K S A G H μ) (r : Rp K A G d x) : ∃ a xs, x = .ref a ∧ (SqL K H a xs ∨ SqT K H a xs) ∧ RpL K A G l xs := by
  cases s with
  | lst =>
    obtain ⟨a, xs, e, h, r⟩ := (LstD.lst _).at' m r
    exact ⟨a, xs, e, .inl h, r⟩
  | rd =>
    obtain ⟨a, xs, e, h, r⟩ := (LstD.rd _).at' m r
    exact ⟨a, xs, e, .inl h, r⟩
  | tup =>
    cases r with
    | tup h rl => exact ⟨_, _, rfl, .inr (ex_t m.ex h.sq), rl⟩
  | own h =>
    obtain ⟨a, xs, e, h, r⟩ := (LstD.own h).at' m r
    exact ⟨a, xs, e, .inl h, r⟩
def rLenU (K : PySem.W.Frag) : List V → Hp → VK → Prop := fun xs H Q => (fun xs H (Q : VK) => ∃ p ys, xs = [.ref p] ∧ (SqL K H p ys ∨ SqT K H p ys) ∧ Q (.int ys.length) H) xs H Q ∨
  ((fun xs H (Q : VK) => ∃ z : Str, xs = [.str z] ∧ z.length ≤ sizeLine ∧ Q (.int z.length) H) xs H Q ∨ (fun xs H (Q : VK) => ∃ (a : Addr) (kvs : List (Key × V)), xs = [V.ref a] ∧ H a = some (.dK kvs) ∧ Q (.int kvs.length) H) xs H Q)
theorem call_lenU {X : Cx} : CallR X (.builtin "len") (rLenU X.K) := CallR.or call_len_seq (CallR.or call_len_str call_lenD)
theorem cc_len {d : D} {l : List D} (h : SeqD μ d l) (k : C (.int (l.length : Int)) μ) : CC K S (rLenU K) [d] μ C := fun A G H vs m r1 Q q => by
  cases r1 with
  | cons r1 rn =>
    cases rn
    obtain ⟨a, xs, e, hs, r⟩ := h.at' m r1
    subst e
    refine .inl ⟨a, xs, rfl, hs, ?_⟩
    rw [← r.len]
    exact q _ _ A G H μ m Nw.refl (.v _) k
theorem cc_lenS {s : Str} (hz : s.length ≤ 10000000) (k : C (.int (s.length : Int)) μ) : CC K S (rLenU K) [.str s] μ C := cc_one (fun _ _ q => .inr (.inl ⟨s, rfl, small hz, q⟩)) k
theorem cc_lenD {ks : List Key} {l : List D} (k : C (.int (ks.length : Int)) μ) : CC K S (rLenU K) [.dic ks l] μ C := fun A G H vs m r1 Q q => by
  cases r1 with
  | cons r1 rn =>
    cases rn
    cases r1 with
    | dic n h r =>
      refine .inr (.inr ⟨_, _, rfl, m.ex _ _ h, ?_⟩)
      rw [List.length_zip, ← n, Nat.min_self]
      exact q _ _ A G H μ m Nw.refl (.v _) k
theorem ints_rel {A : List Addr} {G : Hp} {ns : List Int} {xs : List V} (r : RpL K A G (ns.map D.int) xs) : xs = ns.map V.int := by
  have e : ns.map D.int = (ns.map V.int).map D.v := by rw [List.map_map]; rfl
  rw [e] at r
  exact RpL.of_vals r
theorem bls_rel {A : List Addr} {G : Hp} {bs : List Bool} {xs : List V} (r : RpL K A G (bs.map D.bl) xs) : xs = bs.map V.bl := by
  have e : bs.map D.bl = (bs.map V.bl).map D.v := by rw [List.map_map]; rfl
  rw [e] at r
  exact RpL.of_vals r
theorem strs_rel {A : List Addr} {G : Hp} {zs : List Str} {xs : List V} (r : RpL K A G (zs.map D.str) xs) : xs = zs.map V.str := by
  have e : zs.map D.str = (zs.map V.str).map D.v := by rw [List.map_map]; rfl
  rw [e] at r
  exact RpL.of_vals r
theorem cc_sum {d : D} {ns : List Int} (h : LstD μ d (ns.map D.int)) (k : C (.int ns.sum) μ) : CC K S (rSum K) [d] μ C := fun A G H vs m r1 Q q => by
  cases r1 with
  | cons r1 rn =>
    cases rn
    obtain ⟨a, xs, e, hs, r⟩ := h.at' m r1
    subst e
    have e2 := ints_rel r
    subst e2
    exact ⟨a, ns, rfl, hs, q _ _ A G H μ m Nw.refl (.v _) k⟩
theorem cc_all {d : D} {bs : List Bool} (h : LstD μ d (bs.map D.bl)) (k : C (.bl (bs.all id)) μ) : CC K S (rAll K) [d] μ C := fun A G H vs m r1 Q q => by
  cases r1 with
  | cons r1 rn =>
    cases rn
    obtain ⟨a, xs, e, hs, r⟩ := h.at' m r1
    subst e
    have e2 := bls_rel r
    subst e2
    exact ⟨a, bs, rfl, hs, q _ _ A G H μ m Nw.refl (.v _) k⟩
theorem cc_any {d : D} {bs : List Bool} (h : LstD μ d (bs.map D.bl)) (k : C (.bl (bs.any id)) μ) : CC K S (rAny K) [d] μ C := fun A G H vs m r1 Q q => by
  cases r1 with
  | cons r1 rn =>
    cases rn
    obtain ⟨a, xs, e, hs, r⟩ := h.at' m r1
    subst e
    have e2 := bls_rel r
    subst e2
    exact ⟨a, bs, rfl, hs, q _ _ A G H μ m Nw.refl (.v _) k⟩
def rListOf (K : PySem.W.Frag) : List V → Hp → VK → Prop := fun xs H Q => ∃ p ys, xs = [.ref p] ∧ (SqL K H p ys ∨ SqT K H p ys) ∧ ∀ l, H l = none → Q (.ref l) (upd H l (.lst ys))
theorem call_listOf {X : Cx} : CallR X (.type "list") (rListOf X.K) := call_list_of
theorem cc_list {d : D} {l : List D} (h : SeqD μ d l) (k : C (.lst l) μ) : CC K S (rListOf K) [d] μ C := fun A G H vs m r1 Q q => by
  cases r1 with
  | cons r1 rn =>
    cases rn
    obtain ⟨a, xs, e, hs, r⟩ := h.at' m r1
    subst e
    exact ⟨a, xs, rfl, hs, fun p hp => put_lst m hp r q k⟩
/-- list(..), to be changed -/
theorem cc_listO {d : D} {l : List D} (h : SeqD μ d l) (k : C (.own μ.length) (μ ++ [.lst l])) : CC K S (rListOf K) [d] μ C := fun A G H vs m r1 Q q => by
  cases r1 with
  | cons r1 rn =>
    cases rn
    obtain ⟨a, xs, e, hs, r⟩ := h.at' m r1
    subst e
    refine ⟨a, xs, rfl, hs, fun p hp => ?_⟩
    refine q _ _ (A ++ [p]) G _ _ (m.opened hp r) ⟨⟨[p], rfl⟩, Ex.refl _⟩ (.own ?_) k
    rw [← m.len, List.getElem?_append_right (Nat.le_refl _), Nat.sub_self]
    rfl
def rTupOf (K : PySem.W.Frag) : List V → Hp → VK → Prop := fun xs H Q => ∃ p ys, xs = [.ref p] ∧ ((SqL K H p ys ∧ ∀ l, H l = none → Q (.ref l) (upd H l (.tup ys))) ∨ (SqT K H p ys ∧ Q (.ref p) H))
theorem call_tupOf {X : Cx} : CallR X (.type "tuple") (rTupOf X.K) := call_tuple_of
theorem cc_tuple {d : D} {l : List D} (h : LstD μ d l) (k : C (.tup l) μ) : CC K S (rTupOf K) [d] μ C := fun A G H vs m r1 Q q => by
  cases r1 with
  | cons r1 rn =>
    cases rn
    obtain ⟨a, xs, e, hs, r⟩ := h.at' m r1
    subst e
    exact ⟨a, xs, rfl, .inl ⟨hs, fun p hp => put_tup m hp r q k⟩⟩
theorem cc_int {i : Int} (k : C (.int i) μ) : CC K S (fun xs H Q => (∃ i, xs = [.int i] ∧ Q (.int i) H) ∨ ∃ k, xs = [.bl k] ∧ Q (.int (if k then 1 else 0)) H) [.int i] μ C := cc_one (fun _ _ q => .inl ⟨i, rfl, q⟩) k
theorem cc_max {i j : Int} (k : C (.int (if j > i then j else i)) μ) : CC K S (fun xs H Q => ∃ i j, xs = [.int i, .int j] ∧ Q (.int (if j > i then j else i)) H) [.int i, .int j] μ C := cc_two (fun _ _ q => ⟨i, j, rfl, q⟩) k
theorem cc_min {i j : Int} (k : C (.int (if j < i then j else i)) μ) : CC K S (fun xs H Q => ∃ i j, xs = [.int i, .int j] ∧ Q (.int (if j < i then j else i)) H) [.int i, .int j] μ C := cc_two (fun _ _ q => ⟨i, j, rfl, q⟩) k
/-! isinstance -/
def D.ty : D → String
  | .v .non => "NoneType"
  | .v (.bl _) => "bool"
  | .v (.int _) => "int"
  | .v (.str _) => "str"
  | .v (.flt _) => "float"
  | .v (.byt _) => "bytes"
  | .lst _ => "list"
  | .rd _ => "list"
  | .tup _ => "tuple"
  | .dic _ _ => "dict"
  | .own _ => "list"
  | _ => ""
theorem tyX_tup {H : Hp} {a : Addr} {xs : List V} (h : SqT K H a xs) : TyX K H (.ref a) (.type "tuple") := by
  rcases h with (h | ⟨o, h⟩) | ⟨o, its, n, h, hc, _⟩
  · exact .base (.tup h)
  · exact .fTuple h
  · exact .kTuple h hc
theorem tyX_lst {H : Hp} {a : Addr} {xs : List V} (h : SqL K H a xs) : TyX K H (.ref a) (.type "list") := by
  rcases h with (h | ⟨o, h⟩) | ⟨o, its, n, h, hc, _⟩
  · exact .base (.lst h)
  · exact .base (.frz h)
  · exact .kList h hc
theorem Rp.tyX {A : List Addr} {G H : Hp} {d : D} {x : V} (m : Mem K S A G H μ) (r : Rp K A G d x) (ht : d.ty ≠ "") (ho : ∀ n, d = .own n → ∃ l, μ[n]? = some (.lst l)) : TyX K H x (.type d.ty) := by
  cases r with
  | @own n a hA =>
    obtain ⟨l, hl⟩ := ho n rfl
    obtain ⟨g, xs, hx, r⟩ := m.cel n a _ hA hl
    exact .base (.lst hx)
  | v x =>
    cases x with
    | non => exact .base .non
    | bl b => exact .base (.bl b)
    | int i => exact .base (.int i)
    | str s => exact .base (.str s)
    | flt s => exact .base (.flt s)
    | byt s => exact .byt s
    | ref a => exact absurd rfl ht
    | ty n => exact absurd rfl ht
  | lst h r => exact .base (.lst (m.ex _ _ h))
  | rd h r => exact tyX_lst (ex_l m.ex h)
  | tup h r => exact tyX_tup (ex_t m.ex h.sq)
  | dic n h r => exact .base (.dK (m.ex _ _ h))
  | exc h1 h2 r => exact absurd rfl ht
/-- no handle by itself -/
def D.no : D → Bool
  | .own _ => false
  | _ => true
theorem cc_isT {d : D} {n : String} {b : Bool} (hb : kitB d.ty n = some b) (ht : d.ty ≠ "") (hn : d.no = true) (k : C (.bl b) μ) : CC K S (rIsiU K) [d, .v (.ty n)] μ C := fun A G H vs m r1 Q q => by
  cases r1 with
  | cons r1 rn =>
    cases rn with
    | cons r2 rn =>
      cases rn
      have e2 := r2.vOf
      subst e2
      exact .inl ⟨_, _, _, _, b, rfl, .ty n, r1.tyX m ht (fun n e => by rw [e] at hn; cases hn), kit_ty hb, q _ _ A G H μ m Nw.refl (.v _) k⟩
theorem cc_isC {d : D} {c : Addr} {b : Bool} (hb : PySem.W.kitOne K (.type d.ty) (.ref c) = some b) (ht : d.ty ≠ "") (hn : d.no = true) (k : C (.bl b) μ) : CC K S (rIsiU K) [d, .v (.ref c)] μ C := fun A G H vs m r1 Q q => by
  cases r1 with
  | cons r1 rn =>
    cases rn with
    | cons r2 rn =>
      cases rn
      have e2 := r2.vOf
      subst e2
      exact .inl ⟨_, _, _, _, b, rfl, .own c, r1.tyX m ht (fun n e => by rw [e] at hn; cases hn), hb, q _ _ A G H μ m Nw.refl (.v _) k⟩
theorem cc_isX {c e fI : Addr} {d : D} {b : Bool} (T : ErrC K c fI) (hb : PySem.W.kitOne K (.ref c) (.ref e) = some b) (k : C (.bl b) μ) : CC K S (rIsiU K) [.exc c d, .v (.ref e)] μ C := fun A G H vs m r1 Q q => by
  cases r1 with
  | cons r1 rn =>
    cases rn with
    | cons r2 rn =>
      cases rn
      have e2 := r2.vOf
      subst e2
      cases r1 with
      | exc h1 h2 r => exact .inr (.inr (.inl ⟨_, c, _, fI, _, _, _, b, rfl, .own e, T, m.ex _ _ h1, m.ex _ _ h2, hb, q _ _ A G H μ m Nw.refl (.v _) k⟩))
theorem cc_isXT {c fI : Addr} {d : D} {b : Bool} {n : String} (T : ErrC K c fI) (hb : PySem.W.kitOne K (.ref c) (.type n) = some b) (k : C (.bl b) μ) : CC K S (rIsiU K) [.exc c d, .v (.ty n)] μ C := fun A G H vs m r1 Q q => by
  cases r1 with
  | cons r1 rn =>
    cases rn with
    | cons r2 rn =>
      cases rn
      have e2 := r2.vOf
      subst e2
      cases r1 with
      | exc h1 h2 r => exact .inr (.inr (.inl ⟨_, c, _, fI, _, _, _, b, rfl, .ty n, T, m.ex _ _ h1, m.ex _ _ h2, hb, q _ _ A G H μ m Nw.refl (.v _) k⟩))
def kitBs (t : String) : List String → Option Bool
  | [] => some false
  | n :: ns => match kitB t n with
    | some true => some true
    | some false => kitBs t ns
    | none => none
theorem kitAny_of {t : String} : ∀ {ns : List String} {b : Bool}, kitBs t ns = some b → PySem.W.kitAny K (.type t) (ns.map Value.type) = some b
  | [], _, h => by cases h; exact kitAny_nil
  | n :: ns, b, h => by
    unfold kitBs at h
    cases q : kitB t n with
    | none => rw [q] at h; cases h
    | some c =>
      rw [q] at h
      cases c with
      | true =>
        cases h
        exact kitAny_cons (r := true) (kit_ty q) (fun z => Bool.noConfusion z) (fun _ => rfl)
      | false => exact kitAny_cons (kit_ty q) (fun _ => kitAny_of h) (fun z => Bool.noConfusion z)
theorem tys_paired : ∀ ns : List String, Paired ClsV (ns.map V.ty) (ns.map Value.type)
  | [] => .nil
  | n :: ns => .cons (.ty n) (tys_paired ns)
/-- isinstance(x, (int, str, ..)), the tuple made on the way -/
theorem cc_isTs {d : D} {ns : List String} {b : Bool} (hb : kitBs d.ty ns = some b) (ht : d.ty ≠ "") (hn : d.no = true) (k : C (.bl b) μ) : CC K S (rIsiU K) [d, .tup (ns.map fun n => .v (.ty n))] μ C := fun A G H vs m r1 Q q => by
  cases r1 with
  | cons r1 rn =>
    cases rn with
    | cons r2 rn =>
      cases rn
      have hx := r1.tyX m ht (fun n e => by rw [e] at hn; cases hn)
      cases r2 with
      | tup h r =>
        have e : (ns.map fun n => D.v (.ty n)) = (ns.map V.ty).map D.v := by rw [List.map_map]; rfl
        rw [e] at r
        have e2 := RpL.of_vals r
        subst e2
        rcases h with h | ⟨o, its, n, h, hc, hd, hz, hv⟩
        · exact .inr (.inl ⟨_, _, _, _, _, b, rfl, m.ex _ _ h, tys_paired ns, hx, kitAny_of hb, q _ _ A G H μ m Nw.refl (.v _) k⟩)
        · obtain ⟨oc, od, dt, sl⟩ := o
          dsimp only at hc hd
          subst hc hd
          have e3 := ClsV.all (tys_paired ns) hv
          refine .inr (.inr (.inr ⟨_, _, od, ns.map Value.type, n, sl, _, b, rfl, ?_, hx, kitAny_of hb, q _ _ A G H μ m Nw.refl (.v _) k⟩))
          rw [h, ← e3]
end
end PA

set_option Elab.async false
set_option linter.all false
set_option maxRecDepth 100000
set_option maxHeartbeats 2000000
/-! PbMeth: methods of the built-ins, over data. -/
namespace PA
open PySem L2
section
variable {K : PySem.W.Frag} {S : Bs} {δ : Sl} {μ : List Cell} {ta tb te : TE} {ts : TA} {C : D → List Cell → Prop}
/-- whose method it is -/
inductive TyM (μ : List Cell) : String → D → Prop
  | str (s : Str) : TyM μ "str" (.str s)
  | int (i : Int) : TyM μ "int" (.int i)
  | lst {d : D} {l : List D} (h : LstD μ d l) : TyM μ "list" d
  | dic (ks : List Key) (l : List D) : TyM μ "dict" (.dic ks l)
theorem TyM.at' {T : String} {d : D} {A : List Addr} {G H : Hp} {x : V} (t : TyM μ T d) (m : Mem K S A G H μ) (r : Rp K A G d x) : tyV K T x H := by
  cases t with
  | str s => rw [r.vOf]; rfl
  | int i => rw [r.vOf]; rfl
  | lst h =>
    obtain ⟨a, xs, e, hs, _⟩ := h.at' m r
    subst e
    exact .inl ⟨rfl, xs, hs⟩
  | dic ks l =>
    cases r with
    | dic n h r => exact .inr (.inr (.inl ⟨rfl, .inl ⟨_, m.ex _ _ h⟩⟩))
theorem ee_bm {T : String} {r : V → List V → Hp → VK → Prop} (h : EE K S te δ μ fun x μ1 => TyM μ1 T x ∧ EA K S ts δ μ1 fun ds μ2 => MM K S r x ds μ2 C) : EE K S (tBM K T r te ts) δ μ C := fun A G H σ a Q q =>
  h A G H σ a _ fun v x A1 G1 H1 μ1 m1 n1 r1 ⟨t, h1⟩ => ⟨t.at' m1 r1, h1 A1 G1 H1 σ ⟨m1, n1.en a.env⟩ _ fun vs ds A2 G2 H2 μ2 m2 n2 r2 h2 =>
    h2 A2 G2 H2 v vs m2 (n2.rp r1) r2 Q fun z d A3 G3 H3 μ3 m3 n3 r3 c => q z d A3 G3 H3 μ3 m3 ((n1.trans n2).trans n3) r3 c⟩
theorem ee_bm0 {T : String} {r : V → List V → Hp → VK → Prop} (h : EE K S te δ μ fun x μ1 => TyM μ1 T x ∧ MM K S r x [] μ1 C) : EE K S (tBM0 K T r te) δ μ C := fun A G H σ a Q q =>
  h A G H σ a _ fun v x A1 G1 H1 μ1 m1 n1 r1 ⟨t, h1⟩ => ⟨t.at' m1 r1, h1 A1 G1 H1 v [] m1 r1 .nil Q fun z d A3 G3 H3 μ3 m3 n3 r3 c => q z d A3 G3 H3 μ3 m3 (n1.trans n3) r3 c⟩
theorem mm_append {k : Nat} {l : List D} {y : D} (hc : μ[k]? = some (.lst l)) (hz : l.length < 10000000) (c : C .non (μ.set k (.lst (l ++ [y])))) : MM K S rAppend (.own k) [y] μ C := fun A G H u vs m r1 r2 Q q => by
  cases r2 with
  | cons ry rn =>
    cases rn
    cases r1 with
    | own hA =>
      obtain ⟨g, xs, hx, r⟩ := m.cel k _ _ hA hc
      exact ⟨_, xs, _, rfl, rfl, hx, smalr (by rw [← r.len]; exact hz), q _ _ A G _ _ (m.wrote hA hc (r.append (.cons ry .nil))) Nw.refl (.v _) c⟩
theorem mm_extend {k : Nat} {l m' : List D} (hc : μ[k]? = some (.lst l)) (hz : l.length + m'.length ≤ 10000000) (c : C .non (μ.set k (.lst (l ++ m')))) : MM K S rExtend (.own k) [.lst m'] μ C := fun A G H u vs m r1 r2 Q q => by
  cases r2 with
  | cons ry rn =>
    cases rn
    cases r1 with
    | own hA =>
      obtain ⟨g, xs, hx, r⟩ := m.cel k _ _ hA hc
      cases ry with
      | lst h2 s2 => exact ⟨_, _, xs, _, rfl, rfl, hx, m.ex _ _ h2, small (by rw [← r.len, ← s2.len]; exact hz), q _ _ A G _ _ (m.wrote hA hc (r.append s2)) Nw.refl (.v _) c⟩
/-- s.m(t), s.m() of texts -/
theorem ee_m1 {r : V → List V → Hp → VK → Prop} (h : EE K S te δ μ fun x μ1 => ∃ s, x = .str s ∧ EE K S tb δ μ1 fun y μ2 => MM K S r (.str s) [y] μ2 C) : EE K S (tM1 r te tb) δ μ C := fun A G H σ a Q q =>
  h A G H σ a _ fun v x A1 G1 H1 μ1 m1 n1 r1 ⟨s, e, h1⟩ => by
    subst e
    have ev := r1.vOf
    subst ev
    exact ⟨⟨s, rfl⟩, h1 A1 G1 H1 σ ⟨m1, n1.en a.env⟩ _ fun w y A2 G2 H2 μ2 m2 n2 r2 h2 =>
      h2 A2 G2 H2 _ [w] m2 (.v _) (.cons r2 .nil) Q fun z d A3 G3 H3 μ3 m3 n3 r3 c => q z d A3 G3 H3 μ3 m3 ((n1.trans n2).trans n3) r3 c⟩
def rJoin (K : PySem.W.Frag) : V → List V → Hp → VK → Prop := fun x xs H Q => ∃ a p, ∃ ys : List Str, x = .str a ∧ xs = [.ref p] ∧ (SqL K H p (ys.map V.str) ∨ SqT K H p (ys.map V.str)) ∧ (ys.map (·.length)).sum + ys.length * a.length ≤ 16777216 ∧ Q (.str (Txt.join a ys)) H
theorem mm_join {a : Str} {d : D} {ys : List Str} (h : SeqD μ d (ys.map D.str)) (hz : (ys.map (·.length)).sum + ys.length * a.length ≤ 16777216) (c : C (.str (Txt.join a ys)) μ) : MM K S (rJoin K) (.str a) [d] μ C := fun A G H u vs m r1 r2 Q q => by
  cases r2 with
  | cons ry rn =>
    cases rn
    have ev := r1.vOf
    subst ev
    obtain ⟨p, xs, e, hs, r⟩ := h.at' m ry
    subst e
    have e2 := strs_rel r
    subst e2
    exact ⟨a, p, ys, rfl, rfl, hs, hz, q _ _ A G H μ m Nw.refl (.v _) c⟩
theorem mm_vals {r : V → List V → Hp → VK → Prop} {x y z : V} (h : ∀ H (Q : VK), Q z H → r x [y] H Q) (c : C (.v z) μ) : MM K S r (.v x) [.v y] μ C := fun A G H u vs m r1 r2 Q q => by
  cases r2 with
  | cons ry rn =>
    cases rn
    have e1 := r1.vOf
    have e2 := ry.vOf
    subst e1 e2
    exact h H Q (q _ _ A G H μ m Nw.refl (.v _) c)
def rSIndex : V → List V → Hp → VK → Prop := fun x xs H Q => ∃ a b i rest, x = .str a ∧ xs = [.str b] ∧ Builtin.Str.occurrences a b 0 a.length 1 = i :: rest ∧ Q (.int (i : Nat)) H
theorem mm_sindex {a b : Str} {i : Nat} {rest : List Nat} (h : Builtin.Str.occurrences a b 0 a.length 1 = i :: rest) (c : C (.int (i : Int)) μ) : MM K S rSIndex (.str a) [.str b] μ C := mm_vals (fun _ _ q => ⟨a, b, i, rest, rfl, rfl, h, q⟩) c
theorem ee_bits (h : EE K S te δ μ fun x μ1 => ∃ i, x = .int i ∧ C (.int (Builtin.Int.intBits i : Nat)) μ1) : EE K S (tBits te) δ μ C := fun A G H σ a Q q =>
  h A G H σ a _ fun v x A1 G1 H1 μ1 m1 n1 r1 ⟨i, e, c⟩ => by
    subst e
    have ev := r1.vOf
    subst ev
    exact ⟨i, rfl, q _ _ A1 G1 H1 μ1 m1 n1 (.v _) c⟩
end
end PA

set_option Elab.async false
set_option linter.all false
set_option maxRecDepth 100000
set_option maxHeartbeats 2000000
/-! PbTerm: the rules that gen.py prints: calls of the text's own defs by what stands of them, raise, try. -/
namespace PA
open PySem L2
theorem hu64 {k : Nat} {A : Around} (r : Room k A) : A.units + 64 < cLine := by
  have := r.un
  omega
/-- a def of the text that keeps a promise -/
structure CalX (P : Program) (w : World) (K : PySem.W.Frag) (mg : Str → Option Value) (base : Heap) (k : Nat) (x : Str) (ps : List Str) (sp : Sp) : Prop where
  ex : ∃ (f : Addr) (fd : FuncData), FnOk P w K mg base (L2.CX P w) k f fd ps sp ∧ mg x = some (.ref f) ∧ PySem.W.keepIn K (.ref f) = true ∧ Binds K fd ps []
/-- the values by place out of the keywords' -/
def permL {α : Type} (π : List Nat) (ws : List α) : List α := π.filterMap fun i => ws[i]?
theorem permL_vals {zs : List V} {ws : List Value} (r : Vals zs ws) : ∀ π : List Nat, Vals (permL π zs) (permL π ws)
  | [] => .nil
  | i :: π => by
    unfold permL
    rw [List.filterMap_cons, List.filterMap_cons]
    cases e : zs[i]? with
    | none =>
      rw [r.none_of e]
      exact permL_vals r π
    | some z =>
      obtain ⟨u, hu, ru⟩ := r.get e
      rw [hu]
      exact .cons ru (permL_vals r π)
def KBd (K : PySem.W.Frag) (fd : FuncData) (ps ks : List Str) (π : List Nat) : Prop :=
  ∀ (s : Shared) (ws : List Value), ws.length = ks.length → BindsTo s fd ⟨[], ks.zip ws⟩ (ps.zip (permL π ws))
/-- .. called by its parameters' names alone -/
structure CalK (P : Program) (w : World) (K : PySem.W.Frag) (mg : Str → Option Value) (base : Heap) (k : Nat) (x : Str) (ps ks : List Str) (π : List Nat) (sp : Sp) : Prop where
  ex : ∃ (f : Addr) (fd : FuncData), FnOk P w K mg base (L2.CX P w) k f fd ps sp ∧ mg x = some (.ref f) ∧ PySem.W.keepIn K (.ref f) = true ∧ KBd K fd ps ks π
def tCallP (sp : Sp) (π : List Nat) (n : Nat) (E : XK) (tk : TA) : TE := fun σ H Q => tk σ H fun zs H1 => zs.length = n ∧ sp (permL π zs) H1 Q E
section
variable {X : Cx} {k j : Nat} {x : Str} {ps ks : List Str} {π : List Nat} {sp : Sp} {E : XK} {p pos : Pos} {e : Expr} {es : List Expr} {t tk : TA} {kws : List Keyword} {W : WX}
theorem pe_c (c : CalX X.prog X.w X.K X.mg X.base k x ps sp) (hr : Room j X.A) (hj : k ≤ j) (hg : Gl X x) (hx : Passes (L2.CX X.prog X.w) X E) (ha : PA X (e :: es) t) (hdb : (x == ("__debug__" : Str)) = false := by decide)
    (he : starEach (e :: es) X.env = (false, eval e X.env) :: starEach es X.env := by rfl) (hpl : (backTo pos (starEach es X.env)).any (·.1) = false := by rfl) : PE X (.Call (.Name x p) (e :: es) [] pos) (tCall sp [] E t) := by
  obtain ⟨f, fd, F, hm, hk, hb⟩ := c.ex
  exact pe_call F (hr.mono hj) hg hm hk hb .nil hx ha hdb he hpl
theorem pe_c0 (c : CalX X.prog X.w X.K X.mg X.base k x ps sp) (hr : Room j X.A) (hj : k ≤ j) (hg : Gl X x) (hx : Passes (L2.CX X.prog X.w) X E) (hdb : (x == ("__debug__" : Str)) = false := by decide) : PE X (.Call (.Name x p) [] [] pos) (tCall sp [] E tNil) := by
  obtain ⟨f, fd, F, hm, hk, hb⟩ := c.ex
  exact pe_call0 F (hr.mono hj) hg hm hk hb .nil hx hdb
theorem pe_cS (c : CalX X.prog X.w X.K X.mg X.base k x ps sp) (hr : Room j X.A) (hj : k ≤ j) (hg : Gl X x) (tk : Takes X W) (ha : PA X (e :: es) t) (hdb : (x == ("__debug__" : Str)) = false := by decide)
    (he : starEach (e :: es) X.env = (false, eval e X.env) :: starEach es X.env := by rfl) (hpl : (backTo pos (starEach es X.env)).any (·.1) = false := by rfl) : PE X (.Call (.Name x p) (e :: es) [] pos) (tCallS sp (WE W) t) := by
  obtain ⟨f, fd, F, hm, hk, hb⟩ := c.ex
  exact pe_callS F (hr.mono hj) hg hm hk hb (fun σ => passAt tk σ) ha hdb he hpl
theorem pe_ck0 (c : CalK X.prog X.w X.K X.mg X.base k x ps ks π sp) (hr : Room j X.A) (hj : k ≤ j) (hg : Gl X x) (hx : Passes (L2.CX X.prog X.w) X E) (hkw : PK X kws tk) (hall : (backToKw pos (keywordEach kws X.env)).all (·.1.isSome) = true := by rfl)
    (hks : (backToKw pos (keywordEach kws X.env)).filterMap (·.1) = ks := by rfl) (hdb : (x == ("__debug__" : Str)) = false := by decide)
    (hpl : ((backTo pos (starEach [] X.env)).any (·.1) || (backToKw pos (keywordEach kws X.env)).any (·.1.isNone)) = false := by rfl) : PE X (.Call (.Name x p) [] kws pos) (tCallP sp π ks.length E tk) := by
  obtain ⟨f, fd, F, hm, hk, hb⟩ := c.ex
  refine ⟨fun pins s σ H Q I h => ?_⟩
  refine wpAny_Call_Name_kw (ld_glob I hg hm ?_ hdb)
  refine PySem.W.callWith_KW0 (h₀ := X.base) I.ok.mod.kin hk hall ?_ hpl
  refine thn (hkw.run pos pins s σ H _ I h) fun ws s2 ⟨zs, H2, I2, rz, hl, q2⟩ => ⟨I2.kIn, ?_⟩
  rw [hks]
  have r2 := permL_vals rz π
  refine wpAny_call (codeAny_mono (F.run X.A X.stack s2 H2 ⟨[] ++ [], ks.zip ws⟩ (permL π ws) (permL π zs) Q E (hr.mono hj) I2.env0 (hb s2 ws (by rw [← rz.length]; exact hl)) r2 q2) fun r s' hq => ?_)
  cases r with
  | error er => exact hx pins σ H2 s2 er s' I2 hq
  | ok fl =>
    cases fl with
    | ret u => exact I2.after hq
    | next => exact False.elim hq
    | brk => exact False.elim hq
    | cont => exact False.elim hq
/-- a def that a slot holds -/
structure HeldX (P : Program) (w : World) (K : PySem.W.Frag) (mg : Str → Option Value) (base : Heap) (k : Nat) (f : Addr) (sp : Sp) : Prop where
  ex : ∃ (n : Nat) (fd : FuncData) (ps : List Str), n ≤ k ∧ FnOk P w K mg base (L2.CX P w) n f fd ps sp ∧ PySem.W.keepIn K (.ref f) = true ∧ Binds K fd ps []
def tCallA' (i : Nat) (Sg : Addr → Sp → Prop) (E : L2.St → XK) (t : TA) : TE := fun σ H Q => ∃ f sp, σ[i]? = some (some (.ref f)) ∧ Sg f sp ∧ t σ H fun vs H1 => sp vs H1 Q (E σ)
theorem pe_cL {i : Nat} {Sg : Addr → Sp → Prop} (c : ∀ f sp, Sg f sp → HeldX X.prog X.w X.K X.mg X.base k f sp) (hr : Room j X.A) (hj : k ≤ j) (hN : X.N[i]? = some x) (hv : Vis X.env.scope x) (tk : Takes X W) (ha : PA X (e :: es) t) (hdb : (x == ("__debug__" : Str)) = false := by decide)
    (hcd : (x == ("__classdict__" : Str)) = false := by decide) (he : starEach (e :: es) X.env = (false, eval e X.env) :: starEach es X.env := by rfl) (hpl : (backTo pos (starEach es X.env)).any (·.1) = false := by rfl) :
    PE X (.Call (.Name x p) (e :: es) [] pos) (tCallA' i Sg (WE W) t) := by
  refine ⟨fun pins s σ H Q I h => ?_⟩
  obtain ⟨f, sp, hs, hS, ht⟩ := h
  obtain ⟨n, fd, ps, hn, F, hk, hb⟩ := (c f sp hS).ex
  refine wpAny_Call_Name_kw (thn ((pe_var (pos := p) hN hv hdb hcd).run pins s σ H (fun v H1 => v = .ref f ∧ H1 = H) I ⟨.ref f, hs, rfl, rfl⟩) fun u s1 ⟨v, H1, I1, r1, q1⟩ => ?_)
  obtain ⟨rfl, rfl⟩ := q1
  cases r1
  refine PySem.W.callWith_K (h₀ := X.base) I.ok.mod.kin hk (thn (ha.run pos pins s1 σ _ _ I1 ht) fun us s2 ⟨vs, H2, I2, r, q⟩ => ⟨I2.kIn, ?_⟩) he hpl
  exact run_fnS F (hr.mono (Nat.le_trans hn hj)) hb (fun pins H s e s' I c => passAt tk σ pins H s e s' I c) I2 r q
/-- an own error class with its __init__ -/
structure ErrK (P : Program) (w : World) (K : PySem.W.Frag) (mg : Str → Option Value) (base : Heap) (x : Str) (c : Addr) : Prop where
  ex : ∃ (fI : Addr) (fd : FuncData), ErrC K c fI ∧ FnOk P w K mg base (L2.CX P w) 1 fI fd ["self", "value"] (spErr c) ∧ Binds K fd ["self", "value"] []
  g : mg x = some (.ref c)
theorem ErrK.c {P : Program} {w : World} {K : PySem.W.Frag} {mg : Str → Option Value} {base : Heap} {x : Str} {c : Addr} (k : ErrK P w K mg base x c) : ∃ fI, ErrC K c fI := let ⟨fI, _, h, _⟩ := k.ex; ⟨fI, h⟩
theorem ps_raiseC {c : Addr} {pos2 : Pos} (hc : X.calm = true) (k : ErrK X.prog X.w X.K X.mg X.base x c) (hr : Room j X.A) (hj : 2 ≤ j) (tk : Takes X (fun cls d _ H => E cls d H)) (hg : Gl X x) (ha : PA X (e :: es) t) (hdb : (x == ("__debug__" : Str)) = false := by decide)
    (he : starEach (e :: es) X.env = (false, eval e X.env) :: starEach es X.env := by rfl) (hpl : (backTo pos (starEach es X.env)).any (·.1) = false := by rfl) : PS X (.Raise (some (.Call (.Name x p) (e :: es) [] pos)) none pos2) (tRaiseE c E t) := by
  obtain ⟨fI, fd, T, F, hb⟩ := k.ex
  exact ps_raiseE hc T F (hr.mono hj) hb passL tk hg k.g ha hdb he hpl
end
section
variable {X : Cx} {c : Addr} {x n : Str} {i : Nat} {body suite : List Stmt} {b₀ : Stmt} {np pos pos' : Pos} {tb : WX → TS} {ts : TS} {Wout : WX}
theorem ps_tryC (hm : X.mg x = some (.ref c)) (hN : X.N.Nodup) (hg : Gl X x) (hs : X.stack = X.env :: X.outer) (hf : X.env.frame = some X.env.locals) (hex : X.ex = []) (hi : X.N[i]? = some n) (hln : X.env.kindOf n = some .local) (tk : Takes X Wout)
    (hb : ∀ (W : WX) (pn : List (Addr × Obj)) (xe : Value → Shared → Prop), Takes (X.tr pn xe) W → PassesOwn (model X.prog X.w) X.A X.env xe → PSs (X.tr pn xe) body (tb W))
    (hsu : ∀ (a : Addr) (pn : List (Addr × Obj)), PSs (X.suite a pn) (b₀ :: suite) ts) (hdb : (x == ("__debug__" : Str)) = false := by decide) :
    PS X (.Try body [.ExceptHandler (some (.Name x np)) (some n) (b₀ :: suite) pos'] [] [] pos) (fun D σ H => tb (wHold X.K (.ref c) i ts Wout D) D σ H) :=
  ps_try_hold hs hf hex hN hi hln ⟨hg, hdb, .inl hm⟩ tk hb hsu
/-- products: of ints, of a text, of a list -/
def rTimes : R2 := fun x y H Q => rI CMulW (fun i j => .int (i * j)) x y H Q ∨ (rRep x y H Q ∨ (fun x y H (Q : VK) => ∃ (s : Str) (i : Int), x = .str s ∧ y = .int i ∧ MulOk s i ∧ Q (.str (Txt.mul s i)) H) x y H Q)
theorem op_strMul : OpR X (binaryOp .Mult) (fun x y H (Q : VK) => ∃ (s : Str) (i : Int), x = .str s ∧ y = .int i ∧ MulOk s i ∧ Q (.str (Txt.mul s i)) H) := by
  intro pins sh σ H x y u w Q I rx ry h
  obtain ⟨s, i, e1, e2, ok, q⟩ := h
  subst e1 e2
  obtain ⟨t, e⟩ := rx
  obtain ⟨t2, e2⟩ := ry
  subst e e2
  exact SB.mul ok fun t' k => ⟨.str (Txt.mul s i), H, I.tok _, ⟨_, rfl⟩, q⟩
theorem op_timesU : OpR X (binaryOp .Mult) rTimes := OpR.or op_mulW (OpR.or op_rep op_strMul)
end
end PA

set_option Elab.async false
set_option linter.all false
set_option maxRecDepth 100000
set_option maxHeartbeats 2000000
/-! PbStep: calls in short, isinstance of plain data, and the word that takes all plain steps. -/
namespace PA
open PySem L2
/-- plain data at the top -/
def D.pl : D → Bool
  | .v .non => true
  | .v (.bl _) => true
  | .v (.int _) => true
  | .v (.str _) => true
  | .lst _ => true
  | .tup _ => true
  | .dic _ _ => true
  | _ => false
/-- isinstance(d, n) -/
def D.is (d : D) (n : String) : Bool := d.ty == n || (n == "int" && d.ty == "bool")
def isTy (n : String) : Bool := n == "int" || n == "bool" || n == "str" || n == "list" || n == "tuple" || n == "dict"
theorem pl_no {d : D} (h : d.pl = true) : d.no = true := by cases d <;> first | rfl | cases h
theorem kit_all : ∀ t ∈ ["NoneType", "bool", "int", "str", "list", "tuple", "dict"], ∀ n ∈ ["int", "bool", "str", "list", "tuple", "dict"], kitB t n = some (t == n || (n == "int" && t == "bool")) := by decide +kernel
theorem pl_ty {d : D} (h : d.pl = true) : d.ty ∈ ["NoneType", "bool", "int", "str", "list", "tuple", "dict"] := by
  cases d with
  | v x => cases x <;> first | (cases h; done) | (simp [D.ty])
  | lst l => simp [D.ty]
  | rd l => cases h
  | tup l => simp [D.ty]
  | dic ks l => simp [D.ty]
  | exc c d => cases h
  | own k => cases h
theorem isTy_mem {n : String} (h : isTy n = true) : n ∈ ["int", "bool", "str", "list", "tuple", "dict"] := by
  unfold isTy at h
  simp only [Bool.or_eq_true, beq_iff_eq] at h
  simp only [List.mem_cons, List.not_mem_nil, or_false]
  rcases h with ((((h | h) | h) | h) | h) | h <;> simp [h]
theorem pl_kit {d : D} {n : String} (h : d.pl = true) (hn : isTy n = true) : kitB d.ty n = some (d.is n) := kit_all _ (pl_ty h) _ (isTy_mem hn)
theorem pl_ne {d : D} (h : d.pl = true) : d.ty ≠ "" := fun e => by
  have q := pl_ty h
  rw [e] at q
  revert q
  decide
theorem pl_kits {d : D} (h : d.pl = true) : ∀ {ns : List String}, ns.all isTy = true → kitBs d.ty ns = some (ns.any d.is)
  | [], _ => rfl
  | n :: ns, hn => by
    rw [List.all_cons, Bool.and_eq_true] at hn
    unfold kitBs
    rw [pl_kit h hn.1, List.any_cons]
    cases q : d.is n with
    | true => rfl
    | false => exact pl_kits h hn.2
section
variable {K : PySem.W.Frag} {S : Bs} {δ : Sl} {μ : List Cell} {ta tk : TA} {te : TE} {C : D → List Cell → Prop} {E : XK} {CE : Addr → D → List Cell → Prop} {T : Type}
theorem cc_isP {d : D} {n : String} (h : d.pl = true) (k : C (.bl (d.is n)) μ) (hn : isTy n = true := by rfl) : CC K S (rIsiU K) [d, .v (.ty n)] μ C := cc_isT (pl_kit h hn) (pl_ne h) (pl_no h) k
theorem cc_isP2 {d : D} {n m : String} (h : d.pl = true) (k : C (.bl ([n, m].any d.is)) μ) (hn : [n, m].all isTy = true := by rfl) : CC K S (rIsiU K) [d, .tup [.v (.ty n), .v (.ty m)]] μ C := cc_isTs (ns := [n, m]) (pl_kits h hn) (pl_ne h) (pl_no h) k
theorem cc_isP3 {d : D} {n m o : String} (h : d.pl = true) (k : C (.bl ([n, m, o].any d.is)) μ) (hn : [n, m, o].all isTy = true := by rfl) : CC K S (rIsiU K) [d, .tup [.v (.ty n), .v (.ty m), .v (.ty o)]] μ C := cc_isTs (ns := [n, m, o]) (pl_kits h hn) (pl_ne h) (pl_no h) k
/-- .. by the parameters' names -/
theorem ee_callP {arg : T → List D} {pre : T → Prop} {post : T → D → Prop} {exc : T → Addr → D → Prop} {π : List Nat} {n : Nat} (wi : Wi K S E CE)
    (h : EA K S tk δ μ fun ds μ1 => ds.length = n ∧ ∃ t : T, pre t ∧ permL π ds = arg t ∧ D.ltL 0 (arg t) = true ∧ (∀ d, post t d → d.lt 0 = true → C d μ1) ∧ ∀ c d, exc t c d → d.lt 0 = true → CE c d μ1) : EE K S (tCallP (ProP K arg pre post exc) π n E tk) δ μ C := fun A G H σ a Q q =>
  h A G H σ a _ fun vs ds A1 G1 H1 μ1 m1 n1 r1 ⟨hl, t, hp, ed, hcl, hc, hx⟩ => by
    have key : ∀ π : List Nat, RpL K A1 G1 (permL π ds) (permL π vs) := by
      intro π
      induction π with
      | nil => exact .nil
      | cons i π ih =>
        unfold permL
        rw [List.filterMap_cons, List.filterMap_cons]
        cases e : ds[i]? with
        | none =>
          have e2 : vs[i]? = none := by
            rw [List.getElem?_eq_none_iff] at e ⊢
            rw [← r1.len]
            exact e
          rw [e2]
          exact ih
        | some z =>
          obtain ⟨u, hu, ru⟩ := r1.get e
          rw [hu]
          exact .cons ru ih
    refine ⟨by rw [← r1.len]; exact hl, ?_⟩
    have rd : RpL K [] G1 (arg t) (permL π vs) := by
      have z := key π
      rw [ed] at z
      exact z.cl hcl
    refine ⟨t, [], G1, hp, mem00 m1, rd, fun v d B G' H' ν f r ⟨e0, c⟩ => ?_, fun c dx u d G' H' ν f f1 f2 f3 r c' => ?_⟩
    · subst e0
      obtain ⟨hB, mb⟩ := after0 m1 f
      subst hB
      have hd : d.lt 0 = true := r.scope
      exact q v d A1 G' H' μ1 mb (n1.trans (.of f.exG)) (r.cl hd) (hc _ c hd)
    · have e0 : ν = [] := List.length_eq_zero_iff.mp (by have z := f.len; simpa using z.symm)
      subst e0
      obtain ⟨_, mb⟩ := after0 (B := []) m1 f
      have hd : d.lt 0 = true := r.scope
      exact wi c dx u d A1 G' H' μ1 mb (m1.freeS f1).1 f2 f3 (r.cl hd) (hx c d c' hd)
theorem pset_list {X : Cx} : PSet X rSetL := set_list
theorem Less.all (δ : Sl) : Less δ (δ.map fun _ => none) := by
  induction δ with
  | nil => exact .nil
  | cons o δ ih => exact .drop ih
end
end PA

set_option Elab.async false
set_option linter.all false
set_option maxRecDepth 100000
set_option maxHeartbeats 2000000
/-! PbWalk: more rules of operators, in the form in which the walking word takes them. -/
namespace PA
open PySem L2
section
variable {K : PySem.W.Frag} {S : Bs} {δ : Sl} {μ : List Cell} {ta tb te : TE} {C : D → List Cell → Prop}
theorem oo_mul {i j : Int} (h : CMulW i j) (k : C (.int (i * j)) μ) : OO K S rTimes (.int i) (.int j) μ C := oo_same (fun _ _ q => .inl ⟨i, j, rfl, rfl, h, q⟩) k
theorem oo_mulS {s : Str} {j : Int} (h : MulOk s j) (k : C (.str (Txt.mul s j)) μ) : OO K S rTimes (.str s) (.int j) μ C := oo_same (fun _ _ q => .inr (.inr ⟨s, j, rfl, rfl, h, q⟩)) k
theorem oo_mod {i j : Int} (h : 0 < j) (k : C (.int (i % j)) μ) : OO K S (rI (fun _ j => 0 < j) fun i j => .int (i % j)) (.int i) (.int j) μ C := oo_I (g := fun i j => .int (i % j)) h k
theorem oo_div {i j : Int} (h : CDivW i j) (k : C (.int (i / j)) μ) : OO K S (rI CDivW fun i j => .int (i / j)) (.int i) (.int j) μ C := oo_I (g := fun i j => .int (i / j)) h k
theorem oo_pow {i j : Int} (h : CPow i j) (k : C (.int (i ^ j.toNat)) μ) : OO K S (rI CPow fun i j => .int (i ^ j.toNat)) (.int i) (.int j) μ C := oo_I (g := fun i j => .int (i ^ j.toNat)) h k
theorem uu_neg {i : Int} (k : C (.int (-i)) μ) : UU K S (rU fun i => .int (-i)) (.int i) μ C := fun A G H u m r1 Q q => by
  have e1 := r1.vOf
  subst e1
  exact ⟨i, rfl, q _ _ A G H μ m Nw.refl (.v _) k⟩
theorem oo_self {i : D} {r : R2} (h : OO K S r i i μ C) : OO K S r i i μ C := h
/-! list.count of flat values; sorted ints -/
def cntV (y : V) (ys : List V) : Nat := ys.countP fun z => eqV z y
def rCntF (K : PySem.W.Frag) : V → List V → Hp → VK → Prop := fun x xs H Q => ∃ (p : Addr) (ys : List V) (y : V), x = .ref p ∧ xs = [y] ∧ SqL K H p ys ∧ flatV y = true ∧ ys.all flatV = true ∧ Q (.int (cntV y ys : Nat)) H
theorem cnt_vals {y : V} : ∀ {ys : List V} {us : List Value}, Vals ys us → ys.all flatV = true → us.countP (eqU y) = cntV y ys
  | _, _, .nil, _ => rfl
  | z :: ys, u :: us, .cons r t, f => by
    rw [List.all_cons, Bool.and_eq_true] at f
    unfold cntV
    rw [List.countP_cons, List.countP_cons, eqU_of r f.1, cnt_vals t f.2]
    rfl
theorem mt_cntF {X : Cx} : MtR X "list.count" (rCntF X.K) := by
  intro pins s σ H x xs v us Q I rx rxs h
  obtain ⟨p, ys, y, rfl, rfl, hs, fy, fys, q⟩ := h
  cases rx
  obtain ⟨u, rfl, ru⟩ := rxs.one
  obtain ⟨its, rv, ⟨⟨cls, dd, data, sl⟩, n, ho, hc, hdn, hd⟩, hlen⟩ := I.list hs
  simp only at hc hd
  subst hc hd
  refine call_meets PySem.F.slot_list_count ⟨_, ho, rfl⟩ PySem.F.entry_list_count (PySem.F.args_list_count_2 _ _)
    (SeqAt.list_countAt p its.toArray n dd sl u (eqU y)) ⟨ho, fun u' hu' => mem_eqAt ru fy rv fys u' (by simpa using hu'), ?_⟩
  refine ⟨.int (cntV y ys : Nat), H, I.tok _, ⟨s.toks, ?_⟩, q⟩
  show Value.int ((its.toArray.toList.countP (eqU y) : Nat) : Int) s.toks = Value.int ((cntV y ys : Nat) : Int) s.toks
  rw [show its.toArray.toList.countP (eqU y) = cntV y ys from cnt_vals rv fys]
theorem lst_vals {A : List Addr} {G H : Hp} {d : D} {ys : List V} {x : V} (h : LstD μ d (ys.map .v)) (m : Mem K S A G H μ) (r : Rp K A G d x) : ∃ a, x = .ref a ∧ SqL K H a ys := by
  obtain ⟨a, xs, e, hs, rl⟩ := h.at' m r
  have e2 := RpL.of_vals rl
  subst e2
  exact ⟨a, e, hs⟩
theorem mm_count {d : D} {ys : List V} {y : V} (h : LstD μ d (ys.map .v)) (fy : flatV y = true) (fys : ys.all flatV = true) (c : C (.int (cntV y ys : Nat)) μ) : MM K S (rCntF K) d [.v y] μ C := fun A G H u vs m r1 r2 Q q => by
  cases r2 with
  | cons ry rn =>
    cases rn
    have e2 := ry.vOf
    subst e2
    obtain ⟨a, e, hs⟩ := lst_vals h m r1
    subst e
    exact ⟨a, ys, _, rfl, rfl, hs, fy, fys, q _ _ A G H μ m Nw.refl (.v _) c⟩
theorem mm_index {d : D} {ys : List V} {y z : V} {j : Nat} (h : LstD μ d (ys.map .v)) (fy : flatV y = true) (fys : ys.all flatV = true) (hj : ys[j]? = some z) (e : eqV z y = true) (hn : ∀ (m : Nat) (z' : V), m < j → ys[m]? = some z' → eqV z' y = false)
    (c : C (.int (j : Nat)) μ) : MM K S (rIndex K) d [.v y] μ C := fun A G H u vs m r1 r2 Q q => by
  cases r2 with
  | cons ry rn =>
    cases rn
    have e2 := ry.vOf
    subst e2
    obtain ⟨a, e0, hs⟩ := lst_vals h m r1
    subst e0
    exact ⟨a, ys, _, j, z, rfl, rfl, hs, fy, fys, hj, e, hn, q _ _ A G H μ m Nw.refl (.v _) c⟩
theorem cc_sorted {d : D} {ns : List Int} (h : LstD μ d (ns.map D.int)) (c : ∀ ns' : List Int, ns'.Perm ns → ns'.Pairwise (· ≤ ·) → C (.lst (ns'.map D.int)) μ) : CC K S (rSortedI K) [d] μ C := fun A G H vs m r1 Q q => by
  cases r1 with
  | cons r1 rn =>
    cases rn
    obtain ⟨a, xs, e, hs, r⟩ := h.at' m r1
    subst e
    have e2 := ints_rel r
    subst e2
    refine ⟨a, ns, rfl, hs, fun ns' p hp hs hn => ?_⟩
    have e3 : ns'.map D.int = (ns'.map V.int).map D.v := by rw [List.map_map]; rfl
    exact put_lst m hn (by rw [e3]; exact RpL.vals _) q (c ns' hp hs)
theorem ee_czP {T : Type} {tk : TA} {E : XK} {arg : T → List D} {pre : T → Prop} {post : T → D → Prop} {π : List Nat} {n : Nat}
    (h : EA K S tk δ μ fun ds μ1 => ds.length = n ∧ ∃ t : T, pre t ∧ permL π ds = arg t ∧ D.ltL 0 (arg t) = true ∧ ∀ d, post t d → C d μ1) : EE K S (tCallP (ProP K arg pre post (fun _ _ _ => False)) π n E tk) δ μ C :=
  ee_callP (CE := fun _ _ _ => False) Wi.none fun A G H σ a Q q => h A G H σ a Q fun vs ds A1 G1 H1 μ1 m n r ⟨hl, t, hp, e, hn, hc⟩ => q vs ds A1 G1 H1 μ1 m n r ⟨hl, t, hp, e, hn, fun d hd _ => hc d hd, fun _ _ z _ => z⟩
end
end PA

set_option Elab.async false
set_option linter.all false
set_option maxRecDepth 100000
set_option maxHeartbeats 2000000
/-! PbMore: defaults, lists taken apart, plain data by their kinds. -/
namespace PA
open PySem L2
/-- a def that is called with its last parameters left to their defaults -/
structure CalD (P : Program) (w : World) (K : PySem.W.Frag) (mg : Str → Option Value) (base : Heap) (k : Nat) (x : Str) (ps : List Str) (dds : List V) (sp : Sp) : Prop where
  ex : ∃ (f : Addr) (fd : FuncData) (ds : List Value), FnOk P w K mg base (L2.CX P w) k f fd ps sp ∧ mg x = some (.ref f) ∧ PySem.W.keepIn K (.ref f) = true ∧ Vals dds ds ∧ Binds K fd ps ds
section
variable {X : Cx} {k j : Nat} {x : Str} {ps : List Str} {dds : List V} {sp : Sp} {E : XK} {p pos : Pos} {e : Expr} {es : List Expr} {t : TA}
theorem pe_cD (c : CalD X.prog X.w X.K X.mg X.base k x ps dds sp) (hr : Room j X.A) (hj : k ≤ j) (hg : Gl X x) (hx : Passes (L2.CX X.prog X.w) X E) (ha : PA X (e :: es) t) (hdb : (x == ("__debug__" : Str)) = false := by decide)
    (he : starEach (e :: es) X.env = (false, eval e X.env) :: starEach es X.env := by rfl) (hpl : (backTo pos (starEach es X.env)).any (·.1) = false := by rfl) : PE X (.Call (.Name x p) (e :: es) [] pos) (tCall sp dds E t) := by
  obtain ⟨f, fd, ds, F, hm, hk, hv, hb⟩ := c.ex
  exact pe_call F (hr.mono hj) hg hm hk hb hv hx ha hdb he hpl
end
section
variable {K : PySem.W.Frag} {S : Bs} {δ : Sl} {μ : List Cell} {ta tb te : TE} {C : D → List Cell → Prop}
theorem ee_czD {T : Type} {ta : TA} {E : XK} {arg : T → List D} {pre : T → Prop} {post : T → D → Prop} {dds : List V}
    (h : EA K S ta δ μ fun ds μ1 => ∃ t : T, pre t ∧ ds ++ dds.map D.v = arg t ∧ D.ltL 0 ds = true ∧ ∀ d, post t d → C d μ1) : EE K S (tCall (ProP K arg pre post (fun _ _ _ => False)) dds E ta) δ μ C :=
  ee_c0 (CE := fun _ _ _ => False) Wi.none fun A G H σ a Q q => h A G H σ a Q fun vs ds A1 G1 H1 μ1 m n r ⟨t, hp, e, hn, hc⟩ => q vs ds A1 G1 H1 μ1 m n r ⟨t, hp, e, hn, fun d hd _ => hc d hd, fun _ _ z _ => z⟩
theorem ge_list2 {i j : Nat} {x y : D} {C : Sl → List Cell → Prop} (k : C ((δ.set i (some x)).set j (some y)) μ) : GE K S (gLst K 2 (gCons (gName i) (gCons (gName j) gNil))) (.lst [x, y]) δ μ C := fun A G H σ v a r Q q => by
  cases r with
  | lst hs rl =>
    cases rl with
    | cons rx r =>
      cases r with
      | cons ry r =>
        cases r
        exact ⟨_, _, rfl, lst_sq (a.m.ex _ _ hs), rfl, _, _, rfl, _, _, rfl, rfl, q A G H _ _ μ ⟨a.m, En.set ry j (En.set rx i a.env)⟩ Nw.refl k⟩
end
/-- all([.. for k in d]), d an empty dict of ours -/
theorem ee_lockAll0 {i : Nat} {g : TG} {t : TT} {te : TE} {vs : List Nat} {K : PySem.W.Frag} {S : Bs} {δ : Sl} {μ : List Cell} {C : D → List Cell → Prop} (h : δ[i]? = some (some (.dic [] []))) (c : C (.bl true) μ) :
    EE K S (tLockE (tCB (rAll K) (tCons (tLc (iKeys (tVar i)) g t te vs) tNil))) δ μ C := fun A G H σ a Q q => by
  obtain ⟨v, h1, h2⟩ := a.env.get h
  cases h2 with
  | @dic _ _ d xs hl hd r =>
    cases r
    have hH := a.m.ex _ _ hd
    refine ⟨d, _, hH, trivial, fun od => ?_⟩
    refine ⟨_, h1, d, od, rfl, .inl ⟨_, upd_same, fun p hp => ?_⟩⟩
    have npd : d ≠ p := fun e => by
      subst e
      rw [upd_same] at hp
      cases hp
    refine ⟨fun i n H' => i = 0 ∧ H' = upd (upd H d (.frz od (.dK []))) p (.lst []), ⟨0, rfl, rfl⟩, ?_⟩
    rintro i n H' ⟨rfl, rfl⟩
    refine .inl ⟨⟨by rw [upd_ne npd, upd_same]; rfl, Nat.zero_le _⟩, ?_⟩
    refine ⟨p, [], rfl, lst_sq upd_same, by rw [upd_ne npd, upd_same]; rfl, ?_⟩
    have e : upd (upd (upd H d (.frz od (.dK []))) p (.lst [])) d (.dK []) = upd H p (.lst []) := by
      funext b
      by_cases e1 : b = d
      · subst e1
        rw [upd_same, upd_ne npd]
        exact hH.symm
      · rw [upd_ne e1]
        by_cases e2 : b = p
        · subst e2
          rw [upd_same, upd_same]
        · rw [upd_ne e2, upd_ne e1, upd_ne e2]
    have hpH : H p = none := by
      rw [upd_ne npd.symm] at hp
      exact hp
    show Q _ (upd (upd (upd H d (.frz od (.dK []))) p (.lst [])) d (.dK []))
    rw [e]
    exact q _ _ A _ _ μ (a.m.laid (o := .lst []) hpH) (.of (Ex.new (a.m.ex.free hpH))) (.v _) c
def CPowW (i j : Int) : Prop := 0 ≤ j ∧ (Builtin.Int.intBits i : Int) * j ≤ 2 ^ 27
theorem op_powW {X : Cx} : OpR X (binaryOp .Pow) (rI CPowW fun i j => .int (i ^ j.toNat)) := opI fun _ _ _ _ _ _ _ hc q => PyProof.Rows.pow_int hc.1 hc.2 q
theorem oo_powW {K : PySem.W.Frag} {S : Bs} {μ : List Cell} {C : D → List Cell → Prop} {i j : Int} (h : CPowW i j) (k : C (.int (i ^ j.toNat)) μ) : OO K S (rI CPowW fun i j => .int (i ^ j.toNat)) (.int i) (.int j) μ C := oo_I (g := fun i j => .int (i ^ j.toNat)) h k
theorem cut_map {α : Type} (f : α → D) (l : List α) (lo hi : Option Int) : cutD (l.map f) lo hi = ((l.drop (HT.sIx l.length 0 lo)).take (HT.sIx l.length l.length hi - HT.sIx l.length 0 lo)).map f := by
  unfold cutD
  rw [List.length_map, ← List.map_drop, ← List.map_take]
section
variable {K : PySem.W.Frag} {S : Bs} {δ : Sl} {μ : List Cell} {tl te : TE} {wi : TI} {g : TG} {t : TT} {C : D → List Cell → Prop}
/-- an open list is walked: it stands as it is meanwhile -/
theorem ie_own {C : List D → (List Cell → Prop) → List Cell → Prop} (h : EE K S tl δ μ fun d μ1 => ∃ k l, d = .own k ∧ μ1[k]? = some (.lst l) ∧ C l (fun μ' => μ'[k]? = some (.lst l)) μ1) : IE K S (iList K tl) δ μ C := fun A G H σ a R q =>
  h A G H σ a _ fun v d A1 G1 H1 μ1 m1 n1 r1 ⟨k, l, e, hk, c⟩ => by
    subst e
    cases r1 with
    | @own _ b hA =>
      obtain ⟨g0, xs0, hx0, r0⟩ := m1.cel k b _ hA hk
      refine ⟨b, rfl, ⟨xs0, lst_sq hx0⟩, q (Itl K b) l _ A1 G1 H1 μ1 m1 n1 (fun i A2 G2 H2 μ2 m2 n2 hP => ?_) c⟩
      have hA2 : A2[k]? = some b := by
        cases (n2.rp (.own hA : Rp K A1 G1 (.own k) (.ref b))) with
        | own h => exact h
      obtain ⟨g2, xs, hx, r⟩ := m2.cel k b _ hA2 hP
      have hs : SqL K H2 b xs := lst_sq hx
      refine ⟨fun d hd => ?_, fun e => ⟨xs, hs, by rw [e, r.len]; exact Nat.le_refl _⟩⟩
      obtain ⟨x, hx2, rx⟩ := r.get hd
      refine ⟨⟨xs, x, hs, hx2⟩, fun y H' ⟨e, hy⟩ => ?_⟩
      subst e
      have z := hy xs hs
      rw [hx2] at z
      cases z
      exact ⟨G2, m2, Ex.refl _, rx⟩
/-- [e for .. in .. if ..], the list kept open: its place among the open lists is n -/
theorem ee_lcO {vs : List Nat} (h : IE K S wi δ μ fun l P μ1 => ∃ I : Nat → List Cell → Prop, (∀ i μ', I i μ' → P μ') ∧ I 0 (μ1 ++ [.lst []]) ∧
      (∀ (i : Nat) x μ', l[i]? = some x → I i μ' → GW K S g vs x (wipeS δ vs) μ' fun δ2 μ2 => ET K S t δ2 μ2 fun b μ3 =>
        (b = true → EE K S te δ2 μ3 fun d μ4 => ∃ acc, μ4[μ1.length]? = some (.lst acc) ∧ acc.length < 10000000 ∧ I (i + 1) (μ4.set μ1.length (.lst (acc ++ [d])))) ∧ (b = false → I (i + 1) μ3)) ∧
      ∀ μ', I l.length μ' → C (.own μ1.length) μ') : EE K S (tLc wi g t te vs) δ μ C := fun A G H σ a Q q =>
  h A G H σ a _ fun J l P A1 G1 H1 μ1 m1 n1 gv ⟨I, ip, i0, it, ie⟩ => by
    intro p hp
    have hlen0 : A1.length = μ1.length := m1.len
    refine ⟨fun i n H' => n = l.length - i ∧ i ≤ l.length ∧ ∃ (A2 : List Addr) (G2 : Hp) (μ2 : List Cell), Mem K S A2 G2 H' μ2 ∧ Nw (A1 ++ [p]) G1 A2 G2 ∧ I i μ2, ⟨l.length, by omega, Nat.zero_le _, A1 ++ [p], G1, μ1 ++ [.lst []], m1.opened hp .nil, Nw.refl, i0⟩, ?_⟩
    rintro i n H' ⟨hn, hi, A2, G2, μ2, m2, n2, w⟩
    have n12 : Nw A1 G1 A2 G2 := Nw.trans ⟨⟨[p], rfl⟩, Ex.refl _⟩ n2
    have hp2 : ∀ {A3 : List Addr} {G3 : Hp}, Nw A2 G2 A3 G3 → A3[A1.length]? = some p := fun {A3 G3} n3 => by
      obtain ⟨⟨B, hB⟩, _⟩ := n2.trans n3
      rw [hB, List.append_assoc, List.getElem?_append_right (Nat.le_refl _), Nat.sub_self]
      rfl
    obtain ⟨g1, g2⟩ := gv i _ G2 H' _ m2 n12 (ip i μ2 w)
    by_cases hlt : i < l.length
    · obtain ⟨x, hx⟩ : ∃ x, l[i]? = some x := ⟨l[i], by simp [hlt]⟩
      obtain ⟨go, yl⟩ := g1 x hx
      refine .inr ⟨go, fun H3 => ∃ (A3 : List Addr) (G3 : Hp) (μ3 : List Cell), Mem K S A3 G3 H3 μ3 ∧ Nw (A1 ++ [p]) G1 A3 G3 ∧ I (i + 1) μ3, fun H3 w3 => ⟨l.length - (i + 1), by omega, rfl, hlt, w3⟩, fun y H3 hy => ?_⟩
      obtain ⟨G3, m3, e3, r3⟩ := yl y H3 hy
      have n3 : Nw A2 G2 A2 G3 := .of e3
      have en3 := ((n1.trans n12).trans n3).wipeE a.env vs
      refine it i x μ2 hx w A2 G3 H3 _ y ⟨m3, en3⟩ r3 _ fun A4 G4 H4 σ4 δ4 μ4 a4 n4 hw c => ?_
      refine ⟨by rw [hw, wipe_twice], ?_⟩
      refine c A4 G4 H4 σ4 a4 _ fun b A5 G5 H5 μ5 m5 n5 ⟨ht, hf⟩ => ?_
      cases b with
      | true =>
        rw [if_pos rfl]
        refine ht rfl A5 G5 H5 σ4 ⟨m5, n5.en a4.env⟩ _ fun v d A6 G6 H6 μ6 m6 n6 r6 ⟨acc, hacc, hz, w7⟩ => ?_
        have n26 := ((n3.trans n4).trans n5).trans n6
        have hA := hp2 n26
        rw [← hlen0] at hacc w7
        obtain ⟨gp, xs, hxs, rx⟩ := m6.cel A1.length p _ hA hacc
        exact ⟨xs, hxs, smalr (by rw [← rx.len]; exact hz), A6, G6, _, m6.wrote hA hacc (rx.append (.cons r6 .nil)), n2.trans n26, w7⟩
      | false =>
        rw [if_neg Bool.false_ne_true]
        exact ⟨A5, G5, μ5, m5, n2.trans ((n3.trans n4).trans n5), hf rfl⟩
    · have e : i = l.length := by omega
      refine .inl ⟨g2 e, ?_⟩
      have hA := hp2 Nw.refl
      refine q (.ref p) (.own μ1.length) A2 G2 H' μ2 m2 (n1.trans n12) (.own ?_) (ie μ2 (by rw [← e]; exact w))
      rw [← hlen0]
      exact hA
/-- .. whose elements change nothing -/
theorem ee_lcN {vs : List Nat} (h : IE K S wi δ μ fun l P μ1 => (∀ c, P μ1 → P (μ1 ++ [c])) ∧ P μ1 ∧ ∃ (f : D → Bool) (e : D → D), l.length ≤ 10000000 ∧
      (∀ x acc, x ∈ l → GW K S g vs x (wipeS δ vs) (μ1 ++ [.lst acc]) fun δ2 μ2 => ET K S t δ2 μ2 fun b μ3 => b = f x ∧ μ3 = μ1 ++ [.lst acc] ∧ (b = true → EE K S te δ2 μ3 fun d μ4 => d = e x ∧ μ4 = μ1 ++ [.lst acc])) ∧
      C (.own μ1.length) (μ1 ++ [.lst ((l.filter f).map e)])) : EE K S (tLc wi g t te vs) δ μ C := by
  refine ee_lcO fun A G H σ a R q => h A G H σ a R fun J l P A1 G1 H1 μ1 m1 n1 gv ⟨hP, hP1, f, e, hl, ht, c⟩ => q J l P A1 G1 H1 μ1 m1 n1 gv ?_
  refine ⟨fun i μ' => i ≤ l.length ∧ μ' = μ1 ++ [.lst (((l.take i).filter f).map e)], fun i μ' w => by rw [w.2]; exact hP _ hP1, ⟨Nat.zero_le _, by simp⟩, fun i x μ' hx w => ?_, fun μ' w => ?_⟩
  · obtain ⟨hi, rfl⟩ := w
    have hm : x ∈ l := List.mem_of_getElem? hx
    have hil := (List.getElem?_eq_some_iff.mp hx).1
    have ht1 : l.take (i + 1) = l.take i ++ [x] := by
      rw [List.take_succ, hx]
      rfl
    have hlen : (((l.take i).filter f).map e).length < 10000000 := by
      rw [List.length_map]
      have h1 := List.length_filter_le f (l.take i)
      rw [List.length_take] at h1
      omega
    intro A2 G2 H2 σ2 v2 a2 r2 Q2 q2
    refine ht x _ hm A2 G2 H2 σ2 v2 a2 r2 Q2 fun A3 G3 H3 σ3 δ3 μ3 a3 n3 hw c3 => q2 A3 G3 H3 σ3 δ3 μ3 a3 n3 hw ?_
    intro A4 G4 H4 σ4 a4 Q4 q4
    refine c3 A4 G4 H4 σ4 a4 Q4 fun b A5 G5 H5 μ5 m5 n5 ⟨eb, em, c5⟩ => q4 b A5 G5 H5 μ5 m5 n5 ⟨fun hb => ?_, fun hb => ?_⟩
    · refine (c5 hb).imp fun d μ6 ⟨ed, e6⟩ => ⟨_, by rw [e6, List.getElem?_append_right (Nat.le_refl _), Nat.sub_self]; rfl, hlen, hil, ?_⟩
      rw [e6, List.set_append_right _ _ (Nat.le_refl _), Nat.sub_self, ht1, List.filter_append, List.map_append, List.filter_cons, if_pos (by rw [← eb]; exact hb), ed]
      rfl
    · refine ⟨hil, ?_⟩
      rw [em, ht1, List.filter_append, List.map_append, List.filter_cons, if_neg (by rw [← eb, hb]; exact Bool.false_ne_true)]
      simp
  · obtain ⟨_, rfl⟩ := w
    rw [List.take_length]
    exact c
end
/-! plain data by kind -/
theorem is_str {d : D} (h : d.pl = true) (e : d.is "str" = true) : ∃ s, d = .str s := by
  cases d with
  | v x => cases x <;> first | exact ⟨_, rfl⟩ | (revert e; simp [D.is, D.ty]; done) | (cases h; done)
  | lst l => revert e; simp [D.is, D.ty]
  | rd l => cases h
  | tup l => revert e; simp [D.is, D.ty]
  | dic ks l => revert e; simp [D.is, D.ty]
  | exc c d => cases h
  | own k => cases h
theorem is_tup {d : D} (h : d.pl = true) (e : d.is "tuple" = true) : ∃ l, d = .tup l := by
  cases d with
  | v x => cases x <;> first | (revert e; simp [D.is, D.ty]; done) | (cases h; done)
  | lst l => revert e; simp [D.is, D.ty]
  | rd l => cases h
  | tup l => exact ⟨_, rfl⟩
  | dic ks l => revert e; simp [D.is, D.ty]
  | exc c d => cases h
  | own k => cases h
theorem is_lst {d : D} (h : d.pl = true) (e : d.is "list" = true) : ∃ l, d = .lst l := by
  cases d with
  | v x => cases x <;> first | (revert e; simp [D.is, D.ty]; done) | (cases h; done)
  | lst l => exact ⟨_, rfl⟩
  | rd l => cases h
  | tup l => revert e; simp [D.is, D.ty]
  | dic ks l => revert e; simp [D.is, D.ty]
  | exc c d => cases h
  | own k => cases h
/-- a whole number, no truth -/
def isWh : D → Bool
  | .v (.int _) => true
  | _ => false
theorem is_wh {d : D} (h : d.pl = true) : (d.is "int" && !d.is "bool") = isWh d := by
  cases d with
  | v x => cases x <;> first | (simp [D.is, D.ty, isWh]; done) | (cases h; done)
  | lst l => simp [D.is, D.ty, isWh]
  | rd l => cases h
  | tup l => simp [D.is, D.ty, isWh]
  | dic ks l => simp [D.is, D.ty, isWh]
  | exc c d => cases h
  | own k => cases h
theorem wh_int {d : D} (h : isWh d = true) : ∃ i, d = .int i := by
  cases d with
  | v x => cases x <;> first | exact ⟨_, rfl⟩ | (cases h; done)
  | lst l => cases h
  | rd l => cases h
  | tup l => cases h
  | dic ks l => cases h
  | exc c d => cases h
  | own k => cases h
theorem se_to {K : PySem.W.Frag} {S : Bs} {ts : TS} {δ : Sl} {μ : List Cell} {E : Cn} (J : Sl → List Cell → Prop) (h1 : SE K S ts δ μ { E with nx := J }) (h2 : ∀ d m, J d m → E.nx d m) : SE K S ts δ μ E := h1.imp h2 (fun _ _ h => h) (fun _ _ h => h) fun _ _ h => h
theorem ee_dnew {K : PySem.W.Frag} {S : Bs} {δ : Sl} {μ : List Cell} {C : D → List Cell → Prop} (k : C (.dic [] []) μ) : EE K S tDNewK δ μ C := fun A G H σ a Q q p hp => by
  have e := Ex.new (o := .dK []) (a.m.ex.free hp)
  exact q _ _ A _ _ μ (a.m.laid hp) (.of e) (.dic (xs := []) rfl upd_same .nil) k
/-- a truth that is told by P -/
theorem ee_val {K : PySem.W.Frag} {S : Bs} {te : TE} {δ : Sl} {μ : List Cell} {C : D → List Cell → Prop} (P : Prop) (h : EE K S te δ μ fun y μ2 => μ2 = μ ∧ ∃ b : Bool, y = .bl b ∧ (b = true ↔ P)) (k : ∀ b : Bool, (b = true ↔ P) → C (.bl b) μ) : EE K S te δ μ C :=
  h.imp fun y μ2 ⟨e, b, e2, hb⟩ => by
    subst e e2
    exact k b hb
theorem et_val {K : PySem.W.Frag} {S : Bs} {t : TT} {δ : Sl} {μ : List Cell} {C : Bool → List Cell → Prop} (P : Prop) (h : ET K S t δ μ fun b μ2 => μ2 = μ ∧ (b = true ↔ P)) (k : ∀ b : Bool, (b = true ↔ P) → C b μ) : ET K S t δ μ C := fun A G H σ a Q q =>
  h A G H σ a Q fun b A1 G1 H1 μ1 m1 n1 ⟨e, hb⟩ => q b A1 G1 H1 μ1 m1 n1 (by subst e; exact k b hb)
/-! the same rules with the written part named by itself (within a comprehension it must not hang on the context) -/
section
variable {X : Cx} (K : PySem.W.Frag)
theorem kO (r : PySem.W.Frag → R2) {o : Value → Value → Sem Value} (h : X.K = K) (p : OpR X o (r X.K)) : OpR X o (r K) := h ▸ p
theorem kC (r : PySem.W.Frag → List V → Hp → VK → Prop) {v : Value} (h : X.K = K) (p : CallR X v (r X.K)) : CallR X v (r K) := h ▸ p
theorem kX (r : PySem.W.Frag → R2) (h : X.K = K) (p : IxR X (r X.K)) : IxR X (r K) := h ▸ p
theorem kS (r : PySem.W.Frag → V → Option Int → Option Int → Hp → VK → Prop) (h : X.K = K) (p : SlR X (r X.K)) : SlR X (r K) := h ▸ p
theorem kM (r : PySem.W.Frag → V → List V → Hp → VK → Prop) {id : String} (h : X.K = K) (p : MtR X id (r X.K)) : MtR X id (r K) := h ▸ p
end
section
variable {X : Cx} {K : PySem.W.Frag} {te to : TE} {e o : Expr} {es : List Expr} {t ta : TA} {tg : Expr}
theorem pe_bmK {T name id : String} {r : V → List V → Hp → VK → Prop} {apos cpos : Pos} (h : X.K = K) (pa : PlainAttrs T) (slot : Slot T name id) (hty : typeOf (.builtin id) = pure (.type "method_descriptor")) (hm : MtR X id r) (ho : PE X o to) (ha : PA X (e :: es) t)
    (hbase : attributeBase o name X.env (eval o X.env) = eval o X.env := by rfl)
    (hfew : ((backTo cpos (starEach (e :: es) X.env)).all (fun x => !x.1) && (backToKw cpos (keywordEach [] X.env)).all (fun x => x.1.isSome)
      && decide ((e :: es).length + ([] : List Keyword).length + (if ([] : List Keyword).isEmpty then 0 else 1) < 30)) = true := by rfl)
    (hline : (apos.endLine == cpos.line) = true := by rfl) (hs : starEach (e :: es) X.env = (false, eval e X.env) :: starEach es X.env := by rfl) (hplain : (backTo cpos (starEach es X.env)).any (·.1) = false := by rfl) :
    PE X (.Call (.Attribute o name apos) (e :: es) [] cpos) (tBM K T r to t) := h ▸ pe_bm pa slot hty hm ho ha hbase hfew hline hs hplain
theorem pe_revLK {k : Nat} {p1 p2 p3 pos : Pos} (h : X.K = K) (he : PE X e te) : PE X (.Subscript e (.Slice none none (some (.UnaryOp .USub (.Constant (.int 1) k p1) p2)) p3) pos) (tRevL K te) := h ▸ pe_revL he
theorem pe_errVK {pos : Pos} (h : X.K = K) (he : PE X e te) (hb : attributeBase e "value" X.env (eval e X.env) = eval e X.env := by rfl) : PE X (.Attribute e "value" pos) (tErrV K te) := h ▸ pe_errV he hb
theorem pe_joinK {apos pos : Pos} (h : X.K = K) (ho : PE X o to) (he : PE X e te) (hs : starEach [e] X.env = [(false, eval e X.env)] := by rfl) (hbase : attributeBase o "join" X.env (eval o X.env) = eval o X.env := by rfl) (hline : (apos.endLine == pos.line) = true := by rfl) :
    PE X (.Call (.Attribute o "join" apos) [e] [] pos) (tM1 (rJoin K) to te) := h ▸ pe_join ho he hs hbase hline
theorem pi_listK (h : X.K = K) (hl : PE X e te) : PI X tg e (iList K te) := h ▸ pi_list hl
theorem pi_tupK (h : X.K = K) (hl : PE X e te) : PI X tg e (iTup K te) := h ▸ pi_tup hl
theorem pi_revK {p pos : Pos} (h : X.K = K) (hg : Gl X "reversed") (hm : X.mg "reversed" = none) (ha : PA X [e] ta) (hs : starEach [e] X.env = [(false, eval e X.env)] := by rfl) : PI X tg (.Call (.Name "reversed" p) [e] [] pos) (iRev K ta) := h ▸ pi_reversed hg hm ha hs
theorem pi_enumK {p pos tpos : Pos} {elts : List Expr} {kk : Nat} (h : X.K = K) (hg : Gl X "enumerate") (hm : X.mg "enumerate" = none) (ha : PA X [e] ta) (hs : starEach [e] X.env = [(false, eval e X.env)] := by rfl) :
    PI X (.Tuple elts kk tpos) (.Call (.Name "enumerate" p) [e] [] pos) (iEnum K ta) := h ▸ pi_enum hg hm ha hs
theorem pi_zipAK {e2 : Expr} {p pos tpos : Pos} {elts : List Expr} {kk : Nat} (h : X.K = K) (hg : Gl X "zip") (hm : X.mg "zip" = none) (ha : PA X [e, e2] ta)
    (hs : starEach [e, e2] X.env = (false, eval e X.env) :: starEach [e2] X.env := by rfl) (hpl : (backTo pos (starEach [e2] X.env)).any (·.1) = false := by rfl) :
    PI X (.Tuple elts kk tpos) (.Call (.Name "zip" p) [e, e2] [] pos) (RZ.iZipA K ta) := h ▸ RZ.pi_zipA hg hm ha hs hpl
theorem pg_tupK {es : List Expr} {k : Nat} {ts : TGs} {n : Nat} {pos : Pos} (h : X.K = K) (hc : X.calm = true) (hp : PGs X es ts)
    (hn : (assignEach es X.env).length = n := by rfl) (hst : (assignEach es X.env).findIdx? (·.1) = none := by rfl) : PG X (.Tuple es k pos) (gTup K n ts) := h ▸ pg_tup hc hp hn hst
theorem pg_lstK {es : List Expr} {k : Nat} {ts : TGs} {n : Nat} {pos : Pos} (h : X.K = K) (hc : X.calm = true) (hp : PGs X es ts)
    (hn : (assignEach es X.env).length = n := by rfl) (hst : (assignEach es X.env).findIdx? (·.1) = none := by rfl) : PG X (.Tuple es k pos) (gLst K n ts) := h ▸ pg_lst hc hp hn hst
end
/-- a tuple of flat values that the text has written -/
def TupK (K : PySem.W.Frag) (a : Addr) (xs : List V) : Prop := ∃ (o : Obj) (its : Array Value) (n : Nat), K.lookup a = some o ∧ o.cls = .type "tuple" ∧ o.data = .seq its n ∧ its.size ≤ sizeLine ∧ Vals xs its.toList
theorem ee_cT {K : PySem.W.Frag} {S : Bs} {δ : Sl} {μ : List Cell} {C : D → List Cell → Prop} {a : Addr} {xs : List V} (h : TupK K a xs) (k : C (.tup (xs.map D.v)) μ) : EE K S (tC (.ref a)) δ μ C := fun A G H σ at' Q q => q _ (.tup (xs.map D.v)) A G H μ at'.m Nw.refl (.tup (.inr h) (RpL.vals xs)) k
theorem oo_ixK {K : PySem.W.Frag} {S : Bs} {μ : List Cell} {C : D → List Cell → Prop} {a : Addr} {xs : List V} {i : Int} {x : V} (h : TupK K a xs) (hi : atI xs i = some x) (k : C (.v x) μ) : OO K S (rIx K) (.v (.ref a)) (.int i) μ C := fun A G H u w m r1 r2 Q q => by
  have e1 := r1.vOf
  have e2 := r2.vOf
  subst e1 e2
  exact .inr (.inl ⟨_, xs, i, x, rfl, rfl, .inr h, hi, q _ _ A G H μ m Nw.refl (.v _) k⟩)
/-! an argument that is closed data, or the one open list; what it is seen as -/
inductive Arg : D → List Cell → D → Prop
  | cl {d : D} : d.lt 0 = true → Arg d [] d
  | own {l : List D} : D.ltL 0 l = true → Arg (.own 0) [.lst l] (.lst l)
theorem cc_isO {K : PySem.W.Frag} {S : Bs} {μ : List Cell} {C : D → List Cell → Prop} {k : Nat} {l : List D} {n : String} (hc : μ[k]? = some (.lst l)) (hn : isTy n = true) (c : C (.bl ("list" == n)) μ) : CC K S (rIsiU K) [.own k, .v (.ty n)] μ C := fun A G H vs m r1 Q q => by
  cases r1 with
  | cons r1 rn =>
    cases rn with
    | cons r2 rn =>
      cases rn
      have e2 := r2.vOf
      subst e2
      have hk : kitB "list" n = some ("list" == n) := by
        have z := pl_kit (d := .lst []) rfl hn
        rw [show D.ty (.lst []) = "list" from rfl] at z
        rw [z]
        show some ("list" == n || (n == "int" && "list" == "bool")) = _
        simp
      exact .inl ⟨_, _, _, _, _, rfl, .ty n, r1.tyX m (by show "list" ≠ ""; decide) (fun j e => by cases e; exact ⟨l, hc⟩), kit_ty hk, q _ _ A G H μ m Nw.refl (.v _) c⟩
/-! ends of defs, in short -/
section
variable {S : Bs} {μ : List Cell} {d : D}
theorem gaveP {post : D → Prop} (hl : S.A.length = 0) (h1 : d.lt 0 = true) (h : post d) : Gave S (fun d μ => μ = [] ∧ post d) d μ := by
  refine gave (by rw [hl]; exact h1) (by rw [hl]; rfl) ⟨by rw [hl]; rfl, h⟩
theorem gave1 {P : D → List Cell → Prop} {l : List D} {ν : List Cell} (hl : S.A.length = 1) (h1 : d.lt 0 = true) (h2 : D.ltL 0 l = true) (h : P d [.lst l]) : Gave S P d (.lst l :: ν) := by
  refine gave (by rw [hl]; exact D.lt_mono (Nat.zero_le _) h1) (by rw [hl]; show (D.ltL 1 l && true) = true; rw [D.ltL_mono (Nat.zero_le _) h2]; rfl) (by rw [hl]; exact h)
theorem gaveN {post : List D → Prop} {k : Nat} {l : List D} (hl : S.A.length = 0) (hk : μ[k]? = some (.lst l)) (h1 : D.ltL 0 l = true) (h : post l) : Gave S (fun d μ => ∃ l, d = .own 0 ∧ μ = [.lst l] ∧ D.ltL 0 l = true ∧ post l) (.own k) μ := by
  refine gave_new (by rw [hl]; exact Nat.zero_le _) hk (by rw [hl]; exact h1) (by rw [hl]; rfl) ⟨l, by rw [hl], by rw [hl]; rfl, h1, h⟩
end
end PA

set_option Elab.async false
set_option linter.all false
set_option maxRecDepth 100000
set_option maxHeartbeats 2000000
/-! PbText: texts as lists of numbers. -/
namespace PA
open PySem L2
def tx (l : List Nat) : Str := ⟨l.toArray⟩
def cp (s : Str) : List Nat := s.cps.toList
theorem cp_tx (l : List Nat) : cp (tx l) = l := rfl
theorem tx_cp (s : Str) : tx (cp s) = s := rfl
theorem cp_inj {s t : Str} (h : cp s = cp t) : s = t := by rw [← tx_cp s, h, tx_cp]
theorem len_cp (s : Str) : s.length = (cp s).length := by
  show s.cps.size = s.cps.toList.length
  simp
theorem cp_app (s t : Str) : cp (s ++ t) = cp s ++ cp t := by
  show (s.cps ++ t.cps).toList = _
  rw [Array.toList_append]
  rfl
theorem app_tx (a b : List Nat) : tx a ++ tx b = tx (a ++ b) := cp_inj (by rw [cp_app]; rfl)
theorem cutS_nn (s : Str) (i j : Nat) : cp (cutS s (some (i : Int)) (some (j : Int))) = ((cp s).drop i).take (j - i) := by
  show ((cp s).drop (HT.sIx s.length 0 (some (i : Int)))).take (HT.sIx s.length s.length (some (j : Int)) - HT.sIx s.length 0 (some (i : Int))) = _
  rw [HT.sIx_nat, HT.sIx_nat, len_cp]
  generalize cp s = l
  by_cases hi : i ≤ l.length
  · rw [Nat.min_eq_left hi]
    by_cases hj : j ≤ l.length
    · rw [Nat.min_eq_left hj]
    · rw [Nat.min_eq_right (by omega), List.take_of_length_le (by rw [List.length_drop]; omega), List.take_of_length_le (by rw [List.length_drop]; omega)]
  · rw [List.drop_of_length_le (by omega : l.length ≤ i), List.drop_of_length_le (by omega), List.take_nil, List.take_nil]
theorem cutS_n0 (s : Str) (i : Nat) : cp (cutS s (some (i : Int)) none) = (cp s).drop i := by
  show ((cp s).drop (HT.sIx s.length 0 (some (i : Int)))).take (s.length - HT.sIx s.length 0 (some (i : Int))) = _
  rw [HT.sIx_nat, len_cp]
  generalize cp s = l
  rw [List.take_of_length_le (by rw [List.length_drop]; omega)]
  by_cases hi : i ≤ l.length
  · rw [Nat.min_eq_left hi]
  · rw [List.drop_of_length_le (by omega : l.length ≤ i), List.drop_of_length_le (by omega)]
theorem cutS_0n (s : Str) (j : Nat) : cp (cutS s none (some (j : Int))) = (cp s).take j := by
  show ((cp s).drop 0).take (HT.sIx s.length s.length (some (j : Int)) - 0) = _
  rw [HT.sIx_nat, len_cp, List.drop_zero, Nat.sub_zero]
  generalize cp s = l
  by_cases hj : j ≤ l.length
  · rw [Nat.min_eq_left hj]
  · rw [List.take_of_length_le (by omega), List.take_of_length_le (by omega)]
theorem join0 (ys : List Str) : cp (Txt.join Str.empty ys) = (ys.map cp).flatten := by
  rw [TL.join_eq]
  induction ys with
  | nil => rfl
  | cons y ys ih =>
    cases ys with
    | nil =>
      show cp y = _
      simp
    | cons z zs =>
      show cp (y ++ Str.empty ++ Str.join Str.empty (z :: zs)) = _
      rw [cp_app, cp_app, ih]
      simp [cp, Str.empty]
theorem fold_app : ∀ (n : Nat) (x acc : Array Nat), ((List.replicate n x).foldl (· ++ ·) acc).toList = acc.toList ++ (List.replicate n x.toList).flatten
  | 0, x, acc => by simp
  | n + 1, x, acc => by
    rw [List.replicate_succ, List.foldl_cons, fold_app n x (acc ++ x), List.replicate_succ, List.flatten_cons, Array.toList_append, List.append_assoc]
theorem cp_mul (s : Str) (n : Nat) : cp (Txt.mul s (n : Int)) = (List.replicate n (cp s)).flatten := by
  unfold Txt.mul
  by_cases h1 : (n : Int) < 1
  · rw [if_pos h1]
    have : n = 0 := by omega
    subst this
    rfl
  · rw [if_neg h1]
    by_cases h2 : ((n : Int) == 1 || s.length == 0) = true
    · rw [if_pos h2]
      rw [Bool.or_eq_true, beq_iff_eq, beq_iff_eq] at h2
      rcases h2 with h2 | h2
      · have : n = 1 := by omega
        subst this
        simp
      · rw [len_cp] at h2
        have e : cp s = [] := List.length_eq_zero_iff.mp h2
        rw [e]
        simp
    · rw [if_neg h2, Int.toNat_natCast]
      show ((List.replicate n s.cps).foldl (· ++ ·) #[]).toList = _
      rw [fold_app]
      rfl
theorem mul_ok {s : Str} {n : Nat} (h1 : n ≤ 1000000) (h2 : s.length * n ≤ 10000000) : MulOk s (n : Int) := by
  refine ⟨?_, fun h3 h4 => ?_, fun h3 h4 => ?_⟩
  · have a : ¬ ((n : Int) < -(2 ^ 63 : Int)) := by omega
    have b : ¬ ((n : Int) ≥ 2 ^ 63) := by omega
    simp only [a, b, decide_false, Bool.or_false]
  · have hn : 0 < n := by omega
    have q : (1000000 : Int) * 1000000 ≤ (2 ^ 63 - 1) / (n : Int) := by
      rw [Int.le_ediv_iff_mul_le (by omega)]
      have : (1000000 : Int) * 1000000 * n ≤ 1000000 * 1000000 * 1000000 := by omega
      omega
    have hs : s.length ≤ 10000000 := by
      have : s.length * 1 ≤ s.length * n := Nat.mul_le_mul_left _ hn
      omega
    omega
  · rw [Int.toNat_natCast]
    have : s.length * n ≤ sizeLine := small h2
    exact decide_eq_false (by omega)
theorem atI_of {α : Type} {l : List α} {i : Int} {j : Nat} {d : α} (h : l[j]? = some d) (e : i = (j : Int)) : atI l i = some d := by
  rw [e]
  exact atI_nat h
theorem str1 {c d : Nat} : (decide ((V.str ⟨#[c]⟩ : V) = .str ⟨#[d]⟩)) = decide (c = d) := by
  refine decide_eq_decide.mpr ⟨fun h => ?_, fun h => by rw [h]⟩
  injection h with h
  injection h with h
  have e : [c] = [d] := congrArg Array.toList h
  injection e
theorem strE {s t : Str} : (decide ((V.str s : V) = .str t)) = decide (cp s = cp t) := by
  refine decide_eq_decide.mpr ⟨fun h => ?_, fun h => by rw [cp_inj h]⟩
  injection h with h
  rw [h]
end PA

set_option Elab.async false
set_option linter.all false
set_option maxRecDepth 100000
set_option maxHeartbeats 2000000
/-! PbEnd: from what the top has written to the walk's words; the law's end. -/
namespace PA
open PySem L2
/-- a def of the top -/
def DefF (K : PySem.W.Frag) (mg : Str → Option Value) (x : Str) (st : Stmt) : Prop := ∃ (f : Addr) (fd : FuncData), Fun K x x st f fd ∧ mg x = some (.ref f) ∧ PySem.W.keepIn K (.ref f) = true
/-- .. with defaults -/
def DefD (K : PySem.W.Frag) (mg : Str → Option Value) (x : Str) (st : Stmt) (dvs : List V) : Prop := ∃ (f : Addr) (fd : FuncData), FunD K x x (defArgs st) (defBody st) (defScope st) dvs [] f fd ∧ mg x = some (.ref f) ∧ PySem.W.keepIn K (.ref f) = true
section
variable {K : PySem.W.Frag} {h : Heap} {mg : Str → Option Value} {x : Str} {st : Stmt} {f : Addr} {oc : Value} {od an : Option Addr} {osl : Array (Option Value)} {kV doc pm cdv ct : Value}
theorem def_mk (X : K.In h) (G : h.Ns mainGlobals mg) (a : PySem.W.nsIn K mainGlobals x = some (some (.ref f))) (l : K.lookup f = some ⟨oc, od, .func (PySem.W.fnOf x x (defArgs st) (defBody st) (defScope st) .none kV doc pm an cdv ct), osl⟩) (c : PySem.W.codeIn K cdv x = true) (k : PySem.W.keepIn K (.ref f) = true) : DefF K mg x st :=
  ⟨f, _, fun_mk l c k, PySem.W.mg_of X G a, k⟩
theorem defD_mk {T : Addr} {oT : Obj} {its : List Value} {n : Nat} {dvs : List V} (X : K.In h) (G : h.Ns mainGlobals mg) (a : PySem.W.nsIn K mainGlobals x = some (some (.ref f))) (l : K.lookup f = some ⟨oc, od, .func (PySem.W.fnOf x x (defArgs st) (defBody st) (defScope st) (.ref T) kV doc pm an cdv ct), osl⟩) (c : PySem.W.codeIn K cdv x = true) (k : PySem.W.keepIn K (.ref f) = true)
    (lT : K.lookup T = some oT) (dT : oT.data = .seq its.toArray n) (rT : Vals dvs its) (hd : dvs ≠ []) : DefD K mg x st dvs :=
  ⟨f, _, ⟨⟨oc, od, _, kV, doc, pm, an, cdv, ct, osl, rfl, l, c, .inr ⟨hd, T, oT, its, n, rfl, lT, dT, rT⟩, .inl rfl⟩, k⟩, PySem.W.mg_of X G a, k⟩
theorem exm_of {S c : Addr} (h1 : PySem.W.subIn K (.ref S) (.type "BaseException") = some true) (h2 : PySem.W.isClsIn K S = true) (h3 : PySem.W.typeIn K (.ref S) = some (.type "type")) (h4 : PySem.W.subIn K (.ref c) (.ref S) = some true) : PySem.W.exmOne K (.ref c) (.ref S) = some true := by
  have e1 : (PySem.W.subIn K (.ref S) (.type "BaseException") == some true) = true := by rw [h1] <;> rfl
  have e2 : ((PySem.W.clsIn K S).isSome && PySem.W.typeIn K (.ref S) == some (.type "type")) = true := by
    have h2' : (PySem.W.clsIn K S).isSome = true := h2
    rw [h2', h3] <;> rfl
  show (if (PySem.W.subIn K (.ref S) (.type "BaseException") == some true) = true then (if ((PySem.W.clsIn K S).isSome && PySem.W.typeIn K (.ref S) == some (.type "type")) = true then PySem.W.subIn K (.ref c) (.ref S) else none) else none) = some true
  rw [if_pos e1, if_pos e2]
  exact h4
theorem kit_ne {S c : Addr} {b : Bool} (ne : (Value.ref c == Value.ref S) = false) (h2 : PySem.W.isClsIn K S = true) (h3 : PySem.W.typeIn K (.ref S) = some (.type "type")) (h4 : PySem.W.subIn K (.ref c) (.ref S) = some b) : PySem.W.kitOne K (.ref c) (.ref S) = some b := by
  have e2 : ((PySem.W.clsIn K S).isSome && PySem.W.typeIn K (.ref S) == some (.type "type")) = true := by
    have h2' : (PySem.W.clsIn K S).isSome = true := h2
    rw [h2', h3] <;> rfl
  show (if (Value.ref c == Value.ref S) = true then some true else (if ((PySem.W.clsIn K S).isSome && PySem.W.typeIn K (.ref S) == some (.type "type")) = true then PySem.W.subIn K (.ref c) (.ref S) else none)) = some b
  rw [ne, if_neg Bool.false_ne_true, if_pos e2]
  exact h4
theorem kit_self {c : Addr} : PySem.W.kitOne K (.ref c) (.ref c) = some true := by
  unfold PySem.W.kitOne
  rw [if_pos (by simp)]
theorem kit_val {c : Addr} (h : PySem.W.subIn K (.ref c) (.type "ValueError") = some true) : PySem.W.kitOne K (.ref c) (.type "ValueError") = some true := by
  have e : PySem.W.kitMeta "ValueError" = true := by decide +kernel
  have ne : (Value.ref c == Value.type "ValueError") = false := by rfl
  show (if (Value.ref c == Value.type "ValueError") = true then some true else (if PySem.W.kitMeta "ValueError" = true then PySem.W.subIn K (.ref c) (.type "ValueError") else none)) = some true
  rw [ne, if_neg Bool.false_ne_true, if_pos e]
  exact h
/-- an own error class with its __init__(self, value=None) -/
theorem err_mk {C T N : Addr} {qual nm q : Str} {bs bm : List Value} {sn : List Str} {sub : List Value} {ab : Bool} {col : Option Bool} {dd : Option Addr} {m0 m1 m2 m3 m5 : Option Value} {oT : Obj} {n : Nat} {q1 q2 q3 q4 : Pos} (aC : PySem.W.nsIn K mainGlobals x = some (some (.ref C)))
    (xL : K.lookup C = some (excClassObj nm q C N bs bm true sn sub ab col dd m0 m1 m2 m3 m5 "ValueError.__new__")) (sa : PySem.W.findIn K (.ref C) "__setattr__" = some (some (.builtin "object.__setattr__")))
    (ga : PySem.W.findIn K (.ref C) "__getattribute__" = some (some (.builtin "BaseException.__getattribute__"))) (gg : PySem.W.findIn K (.ref C) "__getattr__" = some none) (nb : PySem.W.findIn K (.ref C) "value" = some none)
    (a1 : PySem.W.findIn K (.ref C) "__init__" = some (some (.ref f))) (t1 : PySem.W.typeIn K (.ref f) = some (.type "function"))
    (l1 : K.lookup f = some ⟨oc, od, .func (PySem.W.fnOf "__init__" qual (defArgs st) (defBody st) (defScope st) (.ref T) kV doc pm an cdv ct), osl⟩) (c1 : PySem.W.codeIn K cdv qual = true) (k1 : PySem.W.keepIn K (.ref f) = true) (lT : K.lookup T = some oT)
    (kC : PySem.W.keepIn K (.ref C) = true) (eC : PySem.W.subIn K (.ref C) (.type "BaseException") = some true) (tC : PySem.W.typeIn K (.ref C) = some (.type "type")) (hC : PySem.W.hasDictIn K C = true)
    (ha : PySem.W.findIn K (.ref C) "__class__" = some (some (.builtin "object.__class__"))) (hn : PySem.W.specialIn K (.builtin "object.__class__") "__get__" = some (some (.builtin "getset_descriptor.__get__"))) (ht : PySem.W.takesIn K (.builtin "object.__class__") = some true) (hm : PySem.W.mroIn K C (.type "object") = some true)
    (hbm : PySem.HandSPX.refsVE bm = true) (dT : oT.data = .seq #[.none] n) (hb : defBody st = initBody q1 q2 q3 q4) (sc : FnScope ["self", "value"] ["self", "value"] (defScope st)) (v0 : Vis (defScope st) "self") (v1 : Vis (defScope st) "value")
    (hbind : ∀ (T : Addr) (kV doc pm : Value) (an : Option Addr) (cdv ct : Value) (us its : List Value), us.length = 2 → its.length = 1 →
      ∃ k, bindArgs (PySem.W.fnOf "__init__" qual (defArgs st) (defBody st) (defScope st) (.ref T) kV doc pm an cdv ct) ⟨us, []⟩ = seqItems? (.ref T) >>= k ∧ k (some its.toArray) = pure ((["self", "value"] : List Str).zip (us ++ its.drop 1)))
    (X : K.In h) (G : h.Ns mainGlobals mg) : ∀ P w base, ErrK P w K mg base x C := fun P w base => by
  have F : FunD K "__init__" qual (defArgs st) (defBody st) (defScope st) [.non] [] f _ := ⟨⟨oc, od, _, kV, doc, pm, an, cdv, ct, osl, rfl, l1, c1, .inr ⟨by simp, T, oT, [.none], n, rfl, lT, dT, .cons rfl .nil⟩, .inl rfl⟩, k1⟩
  have E : ErrC K C f := ⟨⟨⟨nm, q, N, bs, bm, sn, sub, ab, col, dd, m0, m1, m2, m3, m5, xL, hbm⟩, sa, eC, tC, kC⟩, ⟨ga, gg, eC, hC⟩, nb, a1, t1, ha, hn, ht, hm⟩
  obtain ⟨ds, hv, hbd⟩ := F.binds1 (ps := ["self", "value"]) 2 1 (by simp) rfl hbind
  cases hv
  exact ⟨⟨f, _, E, err_fn F E hb sc v0 v1, hbd⟩, PySem.W.mg_of X G aC⟩
end
/-- the end: what the law's def promises -/
abbrev spLaw (K : PySem.W.Frag) : Sp := ProP K (T := List Int) (fun ns => [.rd (ns.map D.int)]) (fun ns => ns.length ≤ 63) (fun _ d => d = .bl true) (fun _ _ _ => False)
theorem walk {l : PySem.W.OpenLaw} {k : Nat} {q : Program} {loose : List Str} {XP : (Str → Option Value) → Heap → Prop} {YP : World → Heap → Prop} {d : DefRec} {K : Params → PySem.W.Frag} (hn : l.most = some 63) (hdf : d.params.defaults = []) (hr : Room k callerA)
    (hY : ∀ (w : World) (h : Heap), YP w h → (K w.params).In h)
    (F : ∀ (w : World) (mg : Str → Option Value) (fa : Addr) (h : Heap), (K w.params).In h → h.Ns mainGlobals mg → mg d.name = some (.ref fa) →
      ∃ fd : FuncData, (∀ (s : Shared) (u : Value), BindsTo s fd ⟨[u], []⟩ [("script", u)]) ∧ ∀ base : Heap, (K w.params).In base → base.Ns mainGlobals mg →
        FnOk l.prog w (K w.params) mg base (L2.CX l.prog w) k fa fd ["script"] (spLaw (K w.params))) :
    PySem.W.WalkO q loose XP YP l.row.toRowW d [] (fun f vs => PySem.call f vs) :=
  L2.walk_of (n := 63) (k := k) (x := "script") (CX := fun w => L2.CX l.prog w) (sp := fun w => spLaw (K w.params)) hn (by decide) hdf hr hY F
    (fun w H a ns hl _ hS => by
      have m : Mem (K w.params) ⟨[], H, H⟩ [] H H [] := ⟨Ex.refl _, Ex.refl _, ⟨[], rfl, fun _ h => by cases h⟩, fun _ h => .inl h, fun _ _ _ h => h, fun k a c h _ => by simp at h, rfl, List.nodup_nil, fun _ h => by cases h⟩
      have e : ns.map D.int = (ns.map V.int).map D.v := by rw [List.map_map]; rfl
      refine ⟨ns, [], H, hl, m, .cons (.rd hS (by rw [e]; exact RpL.vals _)) .nil, fun v d B G' H' μ _ r ⟨_, hd⟩ => ?_, fun _ _ _ _ _ _ _ _ _ _ _ _ z => z⟩
      subst hd
      exact r.vOf)
    fun _ H s e s' ⟨_, _, _, _, _, _, _, _, _, _, _, _, z⟩ => z
end PA

set_option Elab.async false
set_option linter.all false
set_option maxRecDepth 100000
set_option maxHeartbeats 2000000
/-! PbNew: more that stays open; keywords; calls of a slot within a try; dicts written out and compared. -/
namespace PA
open PySem L2
section
variable {K : PySem.W.Frag} {S : Bs} {δ : Sl} {μ : List Cell} {ta tb te : TE} {C : D → List Cell → Prop}
theorem put_own {A : List Addr} {G H : Hp} {p : Addr} {xs : List V} {l : List D} {Q : VK} (m : Mem K S A G H μ) (hp : H p = none) (r : RpL K A G l xs)
    (q : ∀ v d A' G' H' μ', Mem K S A' G' H' μ' → Nw A G A' G' → Rp K A' G' d v → C d μ' → Q v H') (k : C (.own μ.length) (μ ++ [.lst l])) : Q (.ref p) (upd H p (.lst xs)) := by
  refine q _ _ (A ++ [p]) G _ _ (m.opened hp r) ⟨⟨[p], rfl⟩, Ex.refl _⟩ (.own ?_) k
  rw [← m.len, List.getElem?_append_right (Nat.le_refl _), Nat.sub_self]
  rfl
/-- x[::-1], kept open -/
theorem ee_revO (h : EE K S te δ μ fun d μ1 => ∃ l, LstD μ1 d l ∧ C (.own μ1.length) (μ1 ++ [.lst l.reverse])) : EE K S (tRevL K te) δ μ C := fun A G H σ a Q q =>
  h A G H σ a _ fun v d A1 G1 H1 μ1 m1 n1 r1 ⟨l, e, c⟩ => by
    obtain ⟨b, xs, ev, hs, r⟩ := e.at' m1 r1
    subst ev
    exact ⟨b, xs, rfl, hs, fun p hp => put_own m1 hp r.reverse (fun v d A' G' H' μ' m n => q v d A' G' H' μ' m (n1.trans n)) c⟩
/-- x + y, kept open -/
theorem oo_addLO {l m : List D} (hz : l.length + m.length ≤ 10000000) (k : C (.own μ.length) (μ ++ [.lst (l ++ m)])) : OO K S (rPlus K) (.lst l) (.lst m) μ C := fun A G H u w me r1 r2 Q q => by
  cases r1 with
  | lst h1 s1 =>
    cases r2 with
    | lst h2 s2 => exact .inr (.inr (.inl ⟨_, _, _, _, rfl, rfl, me.ex _ _ h1, me.ex _ _ h2, small (by rw [← s1.len, ← s2.len]; exact hz), fun p hp => put_own me hp (s1.append s2) q k⟩))
/-- f(x=..): as f(..) -/
theorem ee_kw1 {sp : Sp} {E : XK} (h : EE K S (tCall sp [] E (tCons te tNil)) δ μ C) : EE K S (tCallP sp [0] 1 E (tCons te tNil)) δ μ C := fun A G H σ a Q q => by
  have z := h A G H σ a Q q
  have e : (fun (v : V) (H1 : Hp) => sp ([v] ++ []) H1 Q E) = fun v H1 => [v].length = 1 ∧ sp (permL [0] [v]) H1 Q E := by
    funext v H1
    show sp [v] H1 Q E = (1 = 1 ∧ sp [v] H1 Q E)
    simp
  have z2 : te σ H (fun v H1 => sp ([v] ++ []) H1 Q E) := z
  rw [e] at z2
  exact z2
/-! ### a call out of a slot, within a try -/
theorem ex_callA {ta : TA} {CE : Sl → Addr → D → List Cell → Prop} {T : Type} {cel : T → List Cell} {arg : T → List D} {pre : T → Prop} {post : T → D → List Cell → Prop} {exc : T → Addr → D → List Cell → Prop} {i : Nat} {Sg : Addr → Sp → Prop} {f : Addr} (hs : List Nat) (hi : δ[i]? = some (some (.v (.ref f)))) (hS : Sg f (Pro K cel arg pre post exc))
    (h : EA K S ta δ μ fun ds μ1 => ∃ t : T, pre t ∧ hs.Nodup ∧ (∀ k ∈ hs, k < μ1.length) ∧ cel t = hs.map (fun k => μ1.getD k .off) ∧ cellsLt 0 (cel t) = true ∧ D.hsL (fun k => hs.contains k) ds = true ∧ D.renL (fun k => hs.idxOf k) ds = arg t ∧
      (∀ d ν n, post t d ν → ν.length = n → d.lt n = true → cellsLt n ν = true → hs.length ≤ n → C (d.ren (back hs μ1.length)) (behindC hs μ1.length ν μ1)) ∧ ∀ c d ν, exc t c d ν → ν.length = hs.length → d.lt hs.length = true → cellsLt hs.length ν = true → CE δ c (d.ren (back hs μ1.length)) (behindC hs μ1.length ν μ1)) :
    EX K S (fun W => tCallA' i Sg (WE W) ta) δ μ C CE := fun A G H σ a W wx Q q => by
  obtain ⟨v0, hv0, r0⟩ := a.env.get hi
  have ev := r0.vOf
  subst ev
  refine ⟨f, _, hv0, hS, h A G H σ a _ fun vs ds A1 G1 H1 μ1 m1 n1 r1 ⟨t, hp, hn, hlt, hcel, hcl, hh, ha, hC, hX⟩ => ?_⟩
  have hltA : ∀ k ∈ hs, k < A1.length := fun k hk => by rw [m1.len]; exact hlt k hk
  have rd : RpL K (hs.map fun k => A1.getD k 0) G1 (arg t) vs := by
    rw [← ha]
    exact r1.ren (hand_at hltA) hh
  have hm := m1.hand hn hlt (by rw [← hcel]; exact hcl)
  rw [← hcel] at hm
  refine ⟨t, _, G1, hp, hm, rd, fun v d B G' H' ν f r c => ?_, fun c dx u d G' H' ν f f1 f2 f3 r c' => ?_⟩
  · have ma := m1.after hn hlt f
    have hl : ν.length = hs.length + B.length := by
      rw [← f.len, List.length_append, List.length_map]
    have hA : (hs.map (fun k => A1.getD k 0) ++ B).length = ν.length := f.len
    refine q v _ (A1 ++ B) G' H' _ ma (n1.trans ⟨⟨B, rfl⟩, f.exG⟩) (r.ren (back_at hltA) (D.hs_true d)) ?_
    rw [m1.len]
    exact hC d ν _ c rfl (by rw [← hA]; exact r.scope) f.scope (by omega)
  · have f' : Mem K ⟨hs.map fun k => A1.getD k 0, G1, H1⟩ ((hs.map fun k => A1.getD k 0) ++ []) G' H' ν := by
      rw [List.append_nil]
      exact f
    have ma := m1.after hn hlt f'
    have hl : ν.length = hs.length := by
      rw [← f.len, List.length_map]
    have r' : Rp K (A1 ++ []) G' (d.ren (back hs A1.length)) u := (by
      have r0 : Rp K ((hs.map fun k => A1.getD k 0) ++ []) G' d u := by
        rw [List.append_nil]
        exact r
      exact r0.ren (back_at hltA) (D.hs_true d))
    have hs0 : S.H dx = none := by
      cases qq : S.H dx with
      | none => rfl
      | some o =>
        by_cases ha' : dx ∈ S.A
        · obtain ⟨B0, hB0, h0⟩ := m1.pre
          exact absurd f1 (m1.al dx (by rw [hB0]; exact List.mem_append_left _ ha'))
        · have z := m1.keep dx o ha' qq
          rw [f1] at z
          cases z
    rw [m1.len] at ma r'
    have hA2 : (hs.map fun k => A1.getD k 0).length = hs.length := List.length_map _
    have n2 : Nw A G (A1 ++ []) G' := n1.trans ⟨⟨[], rfl⟩, f.exG⟩
    exact wx _ G' H' σ δ _ c dx u _ ⟨ma, n2.en a.env⟩ n2 hs0 f2 f3 r' (hX c d ν c' hl (by rw [← hA2]; exact r.scope) (by rw [← hl]; exact f.scope))
/-! ### dicts -/
/-- {k: x} -/
theorem ee_disp1 {k : Key} {x : V} (c : C (.dic [k] [.v x]) μ) : EE K S (tDisp [(tC (kV k), tC x)]) δ μ C := fun A G H σ a Q q p hp => by
  refine ⟨upd_same, [(k, x)], rfl, by show 1 ≤ 15; decide, ?_⟩
  have e : upd (upd H p (.dK [])) p (.dK (mergeK [] [(k, x)])) = upd H p (.dK [(k, x)]) := by
    funext b
    by_cases e : b = p
    · subst e
      rw [upd_same, upd_same]
      rfl
    · rw [upd_ne e, upd_ne e, upd_ne e]
  rw [e]
  exact q _ _ A (upd G p (.dK [(k, x)])) _ μ (a.m.laid hp) (.of (Ex.new (a.m.ex.free hp))) (.dic (xs := [x]) rfl upd_same (.cons (.v x) .nil)) c
/-- a dict that is what it is: its values flat, its keys found -/
def DicOk (ks : List Key) (l : List D) : Prop := ∃ vs : List V, l = vs.map D.v ∧ ks.length = vs.length ∧ ∀ p ∈ ks.zip vs, valV (ks.zip vs) p.1 = some p.2 ∧ flatB p.2 = true
theorem oo_eqDic {ks : List Key} {l : List D} (h : DicOk ks l) (k : C (.bl true) μ) : OO K S (rEqU K) (.dic ks l) (.dic ks l) μ C := fun A G H u w m r1 r2 Q q => by
  obtain ⟨vs, rfl, hl, hp⟩ := h
  cases r1 with
  | dic h1 h2 h3 =>
    cases r2 with
    | dic g1 g2 g3 =>
      have e1 := RpL.of_vals h3
      have e2 := RpL.of_vals g3
      subst e1 e2
      exact .inr (.inr ⟨_, _, _, _, rfl, rfl, m.ex _ _ h2, m.ex _ _ g2, rfl, hp, q _ _ A G H μ m Nw.refl (.v _) k⟩)
end
end PA

set_option Elab.async false
set_option linter.all false
set_option maxRecDepth 100000
set_option maxHeartbeats 2000000
/-! PbBook: extend by a tuple, startswith, +=, max of a list, list times int, membership in open lists, open lists compared. -/
open PySem PySem.AutoSeq1 in
set_option maxRecDepth 8000 in
/-- list.extend of any tuple that stands in the heap -/
theorem PA.extend_tup {a b : Addr} {us ws : Array Value} {n m : Nat} {dd : Option Addr} {sl : Array (Option Value)} (door : ¬(!us.isEmpty && Builtin.List.listTooLong (us.size + ws.size)) = true) (z1 : us.size ≤ sizeLine) (z2 : us.size + ws.size ≤ sizeLine + 1) :
    Meets (Builtin.«list.extend» ⟨[.ref a, .ref b], []⟩) (fun _ R s => s.heap.get? a = some ⟨.type "list", none, .seq us n, #[]⟩ ∧
      s.heap.get? b = some ⟨.type "tuple", dd, .seq ws m, sl⟩ ∧ R (.ok (.ret Value.none)) { s with heap := s.heap.update a (Obj.mapSeq (· ++ ws)) }) := by
  refine .of_wp fun prog w A R s h => ?_
  obtain ⟨heap, gens, drawn, toks, osst⟩ := s
  obtain ⟨ha, hb, fin⟩ := h
  have q1 := idx_int
  have q2 := sub_tuple_list
  have q3 := sub_tuple_tuple
  have q4 := sub_list_list
  have q5 := sub_list_tuple
  have zz : (us ++ ws).size ≤ sizeLine + 1 := Array.size_append ▸ z2
  wp_walk using (wpAny_updateSeq ha rfl (hz := z1) (_hz' := zz)), wpAny_loadPart' ha, wpAny_loadPart' hb
  exact ⟨_, rfl, fin⟩
namespace PA
open PySem L2
section
variable {X : Cx}
def rExtT (K : PySem.W.Frag) : V → List V → Hp → VK → Prop := fun x vs H Q => ∃ l b xs zs, x = .ref l ∧ vs = [.ref b] ∧ H l = some (.lst xs) ∧ SqT K H b zs ∧ xs.length + zs.length ≤ sizeLine ∧ Q .non (upd H l (.lst (xs ++ zs)))
theorem mt_extT : MtR X "list.extend" (rExtT X.K) := by
  intro pins s σ H x vs v us Q I rx rv h
  obtain ⟨l, b, xs, zs, rfl, rfl, hH, hB, hz, q⟩ := h
  cases rx
  obtain ⟨u, rfl, ru⟩ := rv.one
  cases ru
  obtain ⟨z, its, n, r, hl, e⟩ := I.lstM hH
  obtain ⟨its2, r2, ⟨⟨cls, dd, data, sl⟩, e2, hc, n2, hd⟩, hl2⟩ := I.tuple hB
  simp only at hc hd
  subst hc hd
  have l2 := r2.length
  have hsz : its.toArray.size + its2.toArray.size ≤ sizeLine := by rw [List.size_toArray, List.size_toArray]; omega
  have hlong : ¬ (!its.toArray.isEmpty && Builtin.List.listTooLong (its.toArray.size + its2.toArray.size)) = true := by
    rw [notLongL hsz, Bool.and_false]
    exact Bool.false_ne_true
  refine call_meets PySem.F.slot_list_extend ⟨_, e, rfl⟩ PySem.F.entry_list_extend (PySem.F.args_list_extend_2 _ _) (PA.extend_tup hlong (by rw [List.size_toArray]; omega) (by omega)) ⟨e, e2, ?_⟩
  refine ⟨.non, _, I.lset (its' := its ++ its2) hH e (by simp) (r.append r2) ?_, rfl, q⟩
  rw [List.length_append]
  omega
def rExtU (K : PySem.W.Frag) : V → List V → Hp → VK → Prop := fun x vs H Q => rExtend x vs H Q ∨ rExtT K x vs H Q
theorem mt_extU : MtR X "list.extend" (rExtU X.K) := MtR.or mt_extend mt_extT
def rStarts : V → List V → Hp → VK → Prop := fun x xs H Q => ∃ a b, x = .str a ∧ xs = [.str b] ∧ Q (.bl (Txt.startswith a b)) H
def rMaxU (K : PySem.W.Frag) : List V → Hp → VK → Prop := rMax K
end
section
variable {K : PySem.W.Frag} {S : Bs} {δ : Sl} {μ : List Cell} {ta tb te : TE} {C : D → List Cell → Prop}
/-- an open list is extended by a tuple -/
theorem mm_extT {k : Nat} {l m' : List D} (hc : μ[k]? = some (.lst l)) (hz : l.length + m'.length ≤ 10000000) (c : C .non (μ.set k (.lst (l ++ m')))) : MM K S (rExtU K) (.own k) [.tup m'] μ C := fun A G H u vs m r1 r2 Q q => by
  cases r1 with
  | @own _ b hA =>
    cases r2 with
    | cons r2 rn =>
      cases rn
      cases r2 with
      | tup h2 s2 =>
        obtain ⟨g, xs, hx, rl⟩ := m.cel k b _ hA hc
        exact .inr ⟨b, _, xs, _, rfl, rfl, hx, ex_t m.ex h2.sq, small (by rw [← rl.len, ← s2.len]; exact hz), q _ .non A G _ _ (m.wrote hA hc (rl.append s2)) Nw.refl (.v _) c⟩
theorem mm_starts {a b : Str} (c : C (.bl (Txt.startswith a b)) μ) : MM K S rStarts (.str a) [.str b] μ C := mm_vals (fun _ _ q => ⟨a, b, rfl, rfl, q⟩) c
/-- x += y, ints -/
theorem se_aug {i : Nat} {x : Int} {E : Cn} (hx : δ[i]? = some (some (.int x))) (h : EE K S te δ μ fun d μ1 => ∃ y : Int, d = .int y ∧ E.nx (δ.set i (some (.int (x + y)))) μ1) : SE K S (tAug i te (ipI fun i j => i + j)) δ μ E := fun A G H σ a F f => by
  obtain ⟨v0, hv0, r0⟩ := a.env.get hx
  have ev := r0.vOf
  subst ev
  refine ⟨_, hv0, h A G H σ a _ fun v d A1 G1 H1 μ1 m1 n1 r1 ⟨y, e, c⟩ => ?_⟩
  subst e
  have ev := r1.vOf
  subst ev
  exact ⟨x, y, rfl, rfl, f.nx A1 G1 H1 _ _ μ1 ⟨m1, En.set (.v _) i (n1.en a.env)⟩ n1 c⟩
/-- max of a list of ints -/
theorem cc_maxL {d : D} {ns : List Int} (h : LstD μ d (ns.map D.int)) (h0 : 0 < ns.length) (k : ∀ m, m ∈ ns → (∀ y ∈ ns, y ≤ m) → C (.int m) μ) : CC K S (rMax K) [d] μ C := fun A G H vs m r1 Q q => by
  cases r1 with
  | cons r1 rn =>
    cases rn
    obtain ⟨a, xs, e, hs, r⟩ := h.at' m r1
    subst e
    have e2 := ints_rel r
    subst e2
    exact ⟨a, ns, rfl, hs, h0, fun z hz hy => q _ _ A G H μ m Nw.refl (.v _) (k z hz hy)⟩
theorem cc_intB {b : Bool} (k : C (.int (if b then 1 else 0)) μ) : CC K S (fun xs H Q => (∃ i, xs = [.int i] ∧ Q (.int i) H) ∨ ∃ k, xs = [.bl k] ∧ Q (.int (if k then 1 else 0)) H) [.bl b] μ C := cc_one (fun _ _ q => .inr ⟨b, rfl, q⟩) k
theorem rep_rel {A : List Addr} {G : Hp} {l : List D} {xs : List V} (r : RpL K A G l xs) : ∀ n : Nat, RpL K A G (List.replicate n l).flatten (List.replicate n xs).flatten
  | 0 => .nil
  | n + 1 => by
    rw [List.replicate_succ, List.replicate_succ, List.flatten_cons, List.flatten_cons]
    exact r.append (rep_rel r n)
/-- l * n -/
theorem oo_repL {l : List D} {n : Nat} (h1 : n ≤ 1000000) (hz : l.length * n ≤ 10000000) (k : C (.lst (List.replicate n l).flatten) μ) : OO K S rTimes (.lst l) (.int (n : Int)) μ C := fun A G H u w m r1 r2 Q q => by
  have e2 := r2.vOf
  subst e2
  cases r1 with
  | lst h1' s1 =>
    refine .inr (.inl ⟨_, _, _, rfl, rfl, m.ex _ _ h1', by omega, by omega, small (by rw [← s1.len, Int.toNat_natCast]; exact hz), fun p hp => by
    rw [Int.toNat_natCast]
    exact put_lst m hp (rep_rel s1 _) q k⟩)
/-- x in, not in an open list of flat values -/
theorem oo_niO {x : V} {n : Nat} {ys : List V} (hc : μ[n]? = some (.lst (ys.map .v))) (hx : flatV x = true) (hy : ys.all flatV = true) (k : C (.bl (!inV x ys)) μ) : OO K S (rNiU K) (.v x) (.own n) μ C := fun A G H u w m r1 r2 Q q => by
  have e1 := r1.vOf
  subst e1
  cases r2 with
  | @own _ b hA =>
    obtain ⟨g, xs, hxs, rl⟩ := m.cel n b _ hA hc
    have e2 := RpL.of_vals rl
    subst e2
    exact .inl ⟨b, _, rfl, .inl (lst_sq hxs), hx, hy, q _ _ A G H μ m Nw.refl (.v _) k⟩
/-- x not in a list of flat values -/
theorem oo_niL {x : V} {ys : List V} (hx : flatV x = true) (hy : ys.all flatV = true) (k : C (.bl (!inV x ys)) μ) : OO K S (rNiU K) (.v x) (.lst (ys.map .v)) μ C := fun A G H u w m r1 r2 Q q => by
  have e1 := r1.vOf
  subst e1
  cases r2 with
  | lst h s =>
    have e2 := RpL.of_vals s
    subst e2
    exact .inl ⟨_, _, rfl, .inl (lst_sq (m.ex _ _ h)), hx, hy, q _ _ A G H μ m Nw.refl (.v _) k⟩
/-- f(x=i, y=j) of two slots, told the other way round -/
theorem ee_kw2 {sp : Sp} {E : XK} {i j : Nat} (h : EE K S (tCall sp [] E (tCons (tVar j) (tCons (tVar i) tNil))) δ μ C) : EE K S (tCallP sp [1, 0] 2 E (tCons (tVar i) (tCons (tVar j) tNil))) δ μ C := fun A G H σ a Q q => by
  obtain ⟨w, hw, v, hv, z⟩ := h A G H σ a Q q
  exact ⟨v, hv, w, hw, rfl, z⟩
/-- an open list compared -/
theorem oo_neO {n : Nat} {l : List D} {y : D} {p q : PyData} (hc : μ[n]? = some (.lst l)) (h1 : D.py (.lst l) = some p) (h2 : D.py y = some q) (s1 : SeqAt.shaped p = true) (s2 : SeqAt.shaped q = true) (k : C (.bl (!PyData.eqv p q)) μ) : OO K S (rNeU K) (.own n) y μ C := fun A G H u w m r1 r2 Q qq => by
  cases r1 with
  | @own _ b hA =>
    obtain ⟨g, xs, hxs, rl⟩ := m.cel n b _ hA hc
    have z : (D.pyAll l).map PyData.list = some p := h1
    cases e : D.pyAll l with
    | none => rw [e] at z; cases z
    | some ps =>
      rw [e] at z
      cases z
      exact .inr ⟨_, q, .lst (lst_sq hxs) ((rl.mono0 m.ex).dp e), (r2.mono0 m.ex).dp h2, s1, s2, qq _ _ A G H μ m Nw.refl (.v _) k⟩
theorem oo_eqO {n : Nat} {l : List D} {y : D} {p q : PyData} (hc : μ[n]? = some (.lst l)) (h1 : D.py (.lst l) = some p) (h2 : D.py y = some q) (s1 : SeqAt.shaped p = true) (s2 : SeqAt.shaped q = true) (k : C (.bl (PyData.eqv p q)) μ) : OO K S (rEqU K) (.own n) y μ C := fun A G H u w m r1 r2 Q qq => by
  cases r1 with
  | @own _ b hA =>
    obtain ⟨g, xs, hxs, rl⟩ := m.cel n b _ hA hc
    have z : (D.pyAll l).map PyData.list = some p := h1
    cases e : D.pyAll l with
    | none => rw [e] at z; cases z
    | some ps =>
      rw [e] at z
      cases z
      exact .inr (.inl ⟨_, q, .lst (lst_sq hxs) ((rl.mono0 m.ex).dp e), (r2.mono0 m.ex).dp h2, s1, s2, qq _ _ A G H μ m Nw.refl (.v _) k⟩)
end
end PA

set_option Elab.async false
set_option linter.all false
set_option maxRecDepth 100000
set_option maxHeartbeats 2000000
/-! PbSlice: x[i:j] = ys, x an open list. -/
namespace PA
open PySem L2
/-- o[lo:hi] = .. -/
def gSlS (to tl th : TE) : TG := fun v σ H Q => to σ H fun x H1 => tl σ H1 fun a H2 => th σ H2 fun c H3 =>
  ∃ (l b : Addr) (xs ys : List V) (i j : Int), x = .ref l ∧ v = .ref b ∧ a = .int i ∧ c = .int j ∧ H3 l = some (.lst xs) ∧ H3 b = some (.lst ys) ∧ l ≠ b ∧ 0 ≤ i ∧ i ≤ j ∧ j ≤ xs.length ∧ xs.length + ys.length ≤ sizeLine ∧ Q σ (upd H3 l (.lst (xs.take i.toNat ++ ys ++ xs.drop j.toNat)))
section
variable {X : Cx}
theorem pg_slS {o lo hi : Expr} {to tl th : TE} {p2 pos : Pos} (ho : PE X o to) (hl : PE X lo tl) (hh : PE X hi th)
    (ha : ∀ v, assign (.Subscript o (.Slice (some lo) (some hi) none p2) pos) X.env v = (do
      let xo ← holding [v] (eval o X.env)
      let xi ← holding [v, xo] (eval (.Slice (some lo) (some hi) none p2) X.env)
      standAt pos
      holding [v, xo, xi] (setItem xo xi v)
      release [xi, v, xo] []) := by intro _; rfl) : PG X (.Subscript o (.Slice (some lo) (some hi) none p2) pos) (gSlS to tl th) := by
  refine ⟨fun pins s σ H v u Q I r h => ?_⟩
  rw [ha]
  refine wpAny_bind (wpAny_holding (thn (ho.run pins s σ H _ I h) fun xo s1 ⟨x, H1, I1, r1, q1⟩ => ?_))
  refine wpAny_bind (wpAny_holding ?_)
  refine wpAny_Slice ?_
  rw [evalPart_some]
  refine thn (hl.run pins s1 σ H1 _ I1 q1) fun vl s2 ⟨a, H2, I2, ra, q2⟩ => ?_
  rw [evalPart_some]
  refine thn (hh.run pins s2 σ H2 _ I2 q2) fun vu s3 ⟨c, H3, I3, rc, q3⟩ => ?_
  obtain ⟨l, b, xs, ys, i, j, rfl, rfl, rfl, rfl, e1, e2, ne, h0, hij, hj, hz, q⟩ := q3
  rw [evalPart_none]
  refine wpAny_pure ?_
  have I4 : Inv X pins σ H3 { s3 with heap := s3.heap.push { cls := .type "slice", data := .fields #[vl, vu, .none] } } := I3.kept (t' := s3.toks) fun b ob q => Heap.get?_push_of_some _ q
  obtain rfl : xo = Value.ref l := r1
  obtain rfl : u = Value.ref b := r
  refine wpAny_bind (wpAny_standAt (wpAny_bind (wpAny_holding ?_)))
  refine set_slice (sl := s3.heap.objs.size) I4 e1 e2 ne (Heap.IsSliceOf.new ..) ra rc h0 hij hj hz fun s5 I5 => ?_
  exact wpAny_release ⟨σ, _, I5, q⟩
section
variable {K : PySem.W.Frag} {S : Bs} {δ : Sl} {μ : List Cell} {to tl th : TE} {C : Sl → List Cell → Prop}
/-- x[i:j] = m, x an open list -/
theorem ge_slS {m : List D} (h : EE K S to δ μ fun x μ1 => EE K S tl δ μ1 fun y μ2 => EE K S th δ μ2 fun z μ3 => ∃ (k i j : Nat) (l : List D), x = .own k ∧ y = .int (i : Int) ∧ z = .int (j : Int) ∧ μ3[k]? = some (.lst l) ∧ i ≤ j ∧ j ≤ l.length ∧ l.length + m.length ≤ 10000000 ∧ C δ (μ3.set k (.lst (l.take i ++ m ++ l.drop j)))) : GE K S (gSlS to tl th) (.lst m) δ μ C := fun A G H σ v a r Q q =>
  h A G H σ a _ fun w1 x A1 G1 H1 μ1 m1 n1 r1 h1 => h1 A1 G1 H1 σ ⟨m1, n1.en a.env⟩ _ fun w2 y A2 G2 H2 μ2 m2 n2 r2 h2 => h2 A2 G2 H2 σ ⟨m2, (n1.trans n2).en a.env⟩ _ fun w3 z A3 G3 H3 μ3 m3 n3 r3 ⟨k, i, j, l, ex, ey, ez, hc, hij, hj, hz, c⟩ => by
    subst ex ey ez
    have ev2 := r2.vOf
    subst ev2
    have ev3 := r3.vOf
    subst ev3
    cases r1 with
    | @own _ b hA =>
      have hA3 : A3[k]? = some b := by
        cases ((n2.trans n3).rp (.own hA : Rp K A1 G1 (.own k) (.ref b))) with
        | own h => exact h
      obtain ⟨g, xs, hx, rl⟩ := m3.cel k b _ hA3 hc
      have nn := (n1.trans n2).trans n3
      cases r with
      | @lst _ a0 ys hg ry =>
        have hg3 := nn.ex _ _ hg
        have ne : b ≠ a0 := fun e => by
          subst e
          rw [g] at hg3
          cases hg3
        have hl := rl.len
        have hl2 := ry.len
        refine ⟨b, a0, xs, ys, (i : Int), (j : Int), rfl, rfl, rfl, rfl, hx, m3.ex _ _ hg3, ne, by omega, by omega, by omega, small (by omega), ?_⟩
        rw [Int.toNat_natCast, Int.toNat_natCast]
        exact q A3 G3 _ σ δ _ ⟨m3.wrote hA3 hc ((((rl.take i)).append (nn.rpl ry)).append (rl.drop j)), nn.en a.env⟩ nn c
end
end
end PA

set_option Elab.async false
set_option linter.all false
set_option maxRecDepth 100000
set_option maxHeartbeats 2000000
/-! PbTwo: [e for .. in .. if .. for .. in .. if ..]. -/
namespace PA
open PySem L2
section
variable {K : PySem.W.Frag} {S : Bs} {δ : Sl} {μ : List Cell} {wi wi1 : TI} {g g1 : TG} {t t1 : TT} {te : TE}
/-- nothing that stood is changed; by what the list holds so far -/
theorem ee_lc2 {vs vs1 : List Nat} {C : D → List Cell → Prop} (h : IE K S wi δ μ fun l P μ1 => P = yes ∧ ∃ I : Nat → List D → Prop, I 0 [] ∧ (∀ i acc, I i acc → D.ltL μ1.length acc = true) ∧
      (∀ (i : Nat) x acc, l[i]? = some x → I i acc → GW K S g vs x (wipeS δ vs) (μ1 ++ [.lst acc]) fun δ2 μ2 => ET K S t δ2 μ2 fun b μ3 => μ3 = μ1 ++ [.lst acc] ∧ (b = false → I (i + 1) acc) ∧ (b = true →
        IE K S wi1 δ2 μ3 fun l1 P1 μ4 => P1 = yes ∧ μ4 = μ1 ++ [.lst acc] ∧ ∃ I1 : Nat → List D → Prop, I1 0 acc ∧
          (∀ (j : Nat) y acc', l1[j]? = some y → I1 j acc' → GW K S g1 vs1 y (wipeS δ2 vs1) (μ1 ++ [.lst acc']) fun δ3 μ5 => ET K S t1 δ3 μ5 fun b μ6 => μ6 = μ1 ++ [.lst acc'] ∧ (b = false → I1 (j + 1) acc') ∧ (b = true → EE K S te δ3 μ6 fun d μ7 => μ7 = μ1 ++ [.lst acc'] ∧ acc'.length < 10000000 ∧ I1 (j + 1) (acc' ++ [d]))) ∧
          ∀ acc', I1 l1.length acc' → I (i + 1) acc')) ∧
      ∀ acc, I l.length acc → C (.lst acc) μ1) : EE K S (tLc2 wi g t wi1 g1 t1 te vs vs1) δ μ C := fun A G H σ a Q q =>
  h A G H σ a _ fun J l P A1 G1 H1 μ1 m1 n1 gv ⟨hP, I, i0, il, it, ie⟩ => by
    subst hP
    intro p hp
    have hlen0 : A1.length = μ1.length := m1.len
    have hA : (A1 ++ [p])[A1.length]? = some p := by rw [List.getElem?_append_right (Nat.le_refl _), Nat.sub_self]; rfl
    have same : ∀ {A5 : List Addr} {G3 G5 H5 : Hp} {acc' : List D}, Mem K S A5 G5 H5 (μ1 ++ [.lst acc']) → Nw (A1 ++ [p]) G3 A5 G5 → A5 = A1 ++ [p] := fun {A5 G3 G5 H5 acc'} m5 n5 => by
      obtain ⟨⟨B, hB⟩, _⟩ := n5
      have z := m5.len
      rw [hB] at z
      simp only [List.length_append, List.length_singleton] at z
      have hb : B.length = 0 := by omega
      have hb2 : B = [] := List.length_eq_zero_iff.mp hb
      rw [hB, hb2, List.append_nil]
    refine ⟨fun i n H' => n = l.length - i ∧ i ≤ l.length ∧ ∃ G2 acc, Mem K S (A1 ++ [p]) G2 H' (μ1 ++ [.lst acc]) ∧ Ex G1 G2 ∧ I i acc, ⟨l.length, by omega, Nat.zero_le _, G1, [], m1.opened hp .nil, Ex.refl _, i0⟩, ?_⟩
    rintro i n H' ⟨hn, hi, G2, acc, m2, e2, w⟩
    have n2 : Nw A1 G1 (A1 ++ [p]) G2 := ⟨⟨[p], rfl⟩, e2⟩
    obtain ⟨g1', g2⟩ := gv i _ G2 H' _ m2 n2 trivial
    have hS : S.A.length ≤ A1.length := by
      obtain ⟨B, hB, _⟩ := m1.pre
      rw [hB, List.length_append]
      omega
    by_cases hlt : i < l.length
    · obtain ⟨x, hx⟩ : ∃ x, l[i]? = some x := ⟨l[i], by simp [hlt]⟩
      obtain ⟨go, yl⟩ := g1' x hx
      refine .inr ⟨go, fun H3 => ∃ G3 acc3, Mem K S (A1 ++ [p]) G3 H3 (μ1 ++ [.lst acc3]) ∧ Ex G1 G3 ∧ I (i + 1) acc3, fun H3 w3 => ⟨l.length - (i + 1), by omega, rfl, hlt, w3⟩, fun y H3 hy => ?_⟩
      obtain ⟨G3, m3, e3, r3⟩ := yl y H3 hy
      have n3 : Nw (A1 ++ [p]) G2 (A1 ++ [p]) G3 := .of e3
      have en3 := ((n1.trans n2).trans n3).wipeE a.env vs
      refine it i x acc hx w _ G3 H3 _ y ⟨m3, en3⟩ r3 _ fun A4 G4 H4 σ4 δ4 μ4 a4 n4 hw c => ?_
      refine ⟨by rw [hw, wipe_twice], ?_⟩
      refine c A4 G4 H4 σ4 a4 _ fun b A5 G5 H5 μ5 m5 n5 ⟨eμ, hf, ht⟩ => ?_
      subst eμ
      have eA := same m5 (n4.trans n5)
      subst eA
      cases b with
      | false =>
        rw [if_neg Bool.false_ne_true]
        exact ⟨G5, acc, m5, ((e2.trans e3).trans n4.ex).trans n5.ex, hf rfl⟩
      | true =>
        rw [if_pos rfl]
        have en5 := n5.en a4.env
        refine ht rfl _ G5 H5 σ4 ⟨m5, en5⟩ _ fun J1 l1 P1 A6 G6 H6 μ6 m6 n6 gv1 ⟨hP1, e6, I1, i10, it1, ie1⟩ => ?_
        subst hP1 e6
        have eA := same m6 n6
        subst eA
        refine ⟨fun j k H' => k = l1.length - j ∧ j ≤ l1.length ∧ ∃ G7 acc', Mem K S (A1 ++ [p]) G7 H' (μ1 ++ [.lst acc']) ∧ Ex G6 G7 ∧ I1 j acc', ⟨l1.length, by omega, Nat.zero_le _, G6, acc, m6, Ex.refl _, i10⟩, ?_⟩
        rintro j k H7 ⟨hk, hj, G7, acc', m7, e7, w7⟩
        obtain ⟨g11, g12⟩ := gv1 j _ G7 H7 _ m7 (.of e7) trivial
        have up : Ex G1 G6 := (((e2.trans e3).trans n4.ex).trans n5.ex).trans n6.ex
        by_cases hlt1 : j < l1.length
        · obtain ⟨y1, hy1⟩ : ∃ y1, l1[j]? = some y1 := ⟨l1[j], by simp [hlt1]⟩
          obtain ⟨go1, yl1⟩ := g11 y1 hy1
          refine .inr ⟨go1, fun H8 => ∃ G8 acc8, Mem K S (A1 ++ [p]) G8 H8 (μ1 ++ [.lst acc8]) ∧ Ex G6 G8 ∧ I1 (j + 1) acc8, fun H8 w8 => ⟨l1.length - (j + 1), by omega, rfl, hlt1, w8⟩, fun z H8 hz => ?_⟩
          obtain ⟨G8, m8, e8, r8⟩ := yl1 z H8 hz
          have n8 : Nw (A1 ++ [p]) G5 (A1 ++ [p]) G8 := n6.trans ((Nw.of e7).trans (.of e8))
          refine it1 j y1 acc' hy1 w7 _ G8 H8 _ z ⟨m8, n8.wipeE en5 vs1⟩ r8 _ fun A9 G9 H9 σ9 δ9 μ9 a9 n9 hw9 c9 => ?_
          refine ⟨by rw [hw9, wipe_twice], ?_⟩
          refine c9 A9 G9 H9 σ9 a9 _ fun b1 A10 G10 H10 μ10 m10 n10 ⟨e10, hf1, ht1⟩ => ?_
          subst e10
          have eA := same m10 (n9.trans n10)
          subst eA
          cases b1 with
          | false =>
            rw [if_neg Bool.false_ne_true]
            exact ⟨G10, acc', m10, ((e7.trans e8).trans n9.ex).trans n10.ex, hf1 rfl⟩
          | true =>
            rw [if_pos rfl]
            refine ht1 rfl _ G10 H10 σ9 ⟨m10, n10.en a9.env⟩ _ fun v d A11 G11 H11 μ11 m11 n11 r11 ⟨e11, hz11, w11⟩ => ?_
            subst e11
            have eA := same m11 n11
            subst eA
            have hcc : (μ1 ++ [Cell.lst acc'])[A1.length]? = some (.lst acc') := by rw [hlen0, List.getElem?_append_right (Nat.le_refl _), Nat.sub_self]; rfl
            obtain ⟨gp, xs, hxs, rx⟩ := m11.cel A1.length p _ hA hcc
            refine ⟨xs, hxs, smalr (by rw [← rx.len]; exact hz11), G11, acc' ++ [d], ?_, (((e7.trans e8).trans n9.ex).trans n10.ex).trans n11.ex, w11⟩
            have mw := m11.wrote hA hcc (rx.append (.cons r11 .nil))
            have es : (μ1 ++ [Cell.lst acc']).set A1.length (.lst (acc' ++ [d])) = μ1 ++ [.lst (acc' ++ [d])] := by
              rw [hlen0, List.set_append_right _ _ (Nat.le_refl _), Nat.sub_self]
              rfl
            rw [es] at mw
            exact mw
        · have e : j = l1.length := by omega
          exact .inl ⟨g12 e, G7, acc', m7, up.trans e7, ie1 acc' (by rw [← e]; exact w7)⟩
    · have e : i = l.length := by omega
      refine .inl ⟨g2 e, ?_⟩
      have w3 := il _ _ w
      obtain ⟨xs, hxs, gp, rx, mp⟩ := m2.popShut hS (by rw [hlen0]; exact m1.scope) (by rw [hlen0]; exact w3)
      have ne := Ex.new (o := .lst xs) gp
      exact q (.ref p) (.lst acc) A1 _ H' μ1 mp (n1.trans (.of (e2.trans ne))) (.lst upd_same (rx.mono0 ne)) (ie acc (by rw [← e]; exact w))
/-- .. all there is of the second walk -/
theorem ee_lc2A {vs vs1 : List Nat} {C : D → List Cell → Prop} {f : D → Bool} {m : D → List D} {L : List D} (hL : ((L.filter f).flatMap m).length < 10000000) (hcl : D.ltL 0 ((L.filter f).flatMap m) = true)
    (h : IE K S wi δ μ fun l P μ1 => l = L ∧ P = yes ∧ μ1 = μ)
    (hb : ∀ x acc, x ∈ L → GW K S g vs x (wipeS δ vs) (μ ++ [.lst acc]) fun δ2 μ2 => ET K S t δ2 μ2 fun b μ3 => b = f x ∧ μ3 = μ ++ [.lst acc] ∧ (b = true →
        IE K S wi1 δ2 μ3 fun l1 P1 μ4 => l1 = m x ∧ P1 = yes ∧ μ4 = μ ++ [.lst acc] ∧
          ∀ y acc', y ∈ l1 → GW K S g1 vs1 y (wipeS δ2 vs1) (μ ++ [.lst acc']) fun δ3 μ5 => ET K S t1 δ3 μ5 fun b μ6 => b = true ∧ μ6 = μ ++ [.lst acc'] ∧ EE K S te δ3 μ6 fun d μ7 => d = y ∧ μ7 = μ ++ [.lst acc']))
    (c : C (.lst ((L.filter f).flatMap m)) μ) : EE K S (tLc2 wi g t wi1 g1 t1 te vs vs1) δ μ C := by
  refine ee_lc2 fun A G H σ a R q => h A G H σ a R fun J l P A1 G1 H1 μ1 m1 n1 gv ⟨el, eP, eμ⟩ => q J l P A1 G1 H1 μ1 m1 n1 gv ?_
  subst el eμ
  have tk : ∀ i x, l[i]? = some x → l.take (i + 1) = l.take i ++ [x] := fun i x hx => by rw [List.take_succ, hx]; rfl
  have sub : ∀ i, D.ltL 0 (((l.take i).filter f).flatMap m) = true := fun i => D.ltL_all.mpr fun d hd => by
    obtain ⟨x, hx, hd⟩ := List.mem_flatMap.mp hd
    obtain ⟨h1, h2⟩ := List.mem_filter.mp hx
    exact D.ltL_all.mp hcl d (List.mem_flatMap.mpr ⟨x, List.mem_filter.mpr ⟨List.mem_of_mem_take h1, h2⟩, hd⟩)
  have len : ∀ i x, l[i]? = some x → f x = true → (((l.take i).filter f).flatMap m).length + (m x).length < 10000000 := fun i x hx hf => by
    obtain ⟨hi, e⟩ := List.getElem?_eq_some_iff.mp hx
    have e1 : l = l.take i ++ x :: l.drop (i + 1) := by
      have z := List.drop_eq_getElem_cons hi
      rw [e] at z
      rw [← z, List.take_append_drop]
    have e2 : (((l.take i).filter f).flatMap m ++ (m x ++ ((l.drop (i + 1)).filter f).flatMap m)) = (l.filter f).flatMap m := by
      have e3 : l.filter f = (l.take i).filter f ++ x :: (l.drop (i + 1)).filter f := by
        have z := congrArg (List.filter f) e1
        rw [List.filter_append, List.filter_cons, hf, if_pos rfl] at z
        exact z
      rw [e3, List.flatMap_append, List.flatMap_cons]
    have e4 := congrArg List.length e2
    rw [List.length_append, List.length_append] at e4
    omega
  refine ⟨eP, fun i acc => acc = ((l.take i).filter f).flatMap m, by simp, fun i acc w => by rw [w]; exact D.ltL_mono (Nat.zero_le _) (sub i), fun i x acc hx w => ?_, fun acc w => by rw [w, List.take_length]; exact c⟩
  subst w
  intro A2 G2 H2 σ2 v2 a2 r2 Q2 q2
  refine hb x _ (List.mem_of_getElem? hx) A2 G2 H2 σ2 v2 a2 r2 Q2 fun A3 G3 H3 σ3 δ3 μ3 a3 n3 hw3 c3 => q2 A3 G3 H3 σ3 δ3 μ3 a3 n3 hw3 ?_
  intro A4 G4 H4 σ4 a4 Q4 q4
  refine c3 A4 G4 H4 σ4 a4 Q4 fun b A5 G5 H5 μ5 m5 n5 ⟨h1, h2, h3⟩ => q4 b A5 G5 H5 μ5 m5 n5 ⟨h2, fun hbf => ?_, fun hbt => ?_⟩
  · show ((l.take i).filter f).flatMap m = ((l.take (i + 1)).filter f).flatMap m
    rw [tk i x hx, List.filter_append, List.filter_cons, ← h1, hbf, if_neg Bool.false_ne_true, List.filter_nil, List.append_nil]
  · have hfx : f x = true := by rw [← h1]; exact hbt
    have ln := len i x hx hfx
    intro A6 G6 H6 σ6 a6 R6 q6
    refine h3 hbt A6 G6 H6 σ6 a6 R6 fun J7 l7 P7 A7 G7 H7 μ7 m7 n7 gv7 ⟨k1, k2, k3, k4⟩ => q6 J7 l7 P7 A7 G7 H7 μ7 m7 n7 gv7 ⟨k2, k3, fun j acc' => acc' = ((l.take i).filter f).flatMap m ++ l7.take j, by show _ = ((l.take i).filter f).flatMap m ++ l7.take 0; rw [List.take_zero, List.append_nil], fun j y acc' hy w' => ?_, fun acc' w' => ?_⟩
    · subst w'
      have ty : l7.take (j + 1) = l7.take j ++ [y] := by rw [List.take_succ, hy]; rfl
      have hj := (List.getElem?_eq_some_iff.mp hy).1
      intro A8 G8 H8 σ8 v8 a8 r8 Q8 q8
      refine k4 y _ (List.mem_of_getElem? hy) A8 G8 H8 σ8 v8 a8 r8 Q8 fun A9 G9 H9 σ9 δ9 μ9 a9 n9 hw9 c9 => q8 A9 G9 H9 σ9 δ9 μ9 a9 n9 hw9 ?_
      intro A10 G10 H10 σ10 a10 Q10 q10
      refine c9 A10 G10 H10 σ10 a10 Q10 fun b A11 G11 H11 μ11 m11 n11 ⟨u1, u2, u3⟩ => q10 b A11 G11 H11 μ11 m11 n11 ⟨u2, fun z => (by rw [u1] at z; cases z), fun _ => u3.imp fun d μ12 ⟨y1, y2⟩ => ⟨y2, ?_, ?_⟩⟩
      · have hlm := congrArg List.length k1
        rw [List.length_append, List.length_take]
        omega
      · show ((l.take i).filter f).flatMap m ++ l7.take j ++ [d] = ((l.take i).filter f).flatMap m ++ l7.take (j + 1)
        rw [y1, ty, List.append_assoc]
    · subst w'
      show ((l.take i).filter f).flatMap m ++ l7.take l7.length = ((l.take (i + 1)).filter f).flatMap m
      rw [List.take_length, k1, tk i x hx, List.filter_append, List.filter_cons, hfx, if_pos rfl, List.filter_nil, List.flatMap_append, List.flatMap_cons, List.flatMap_nil, List.append_nil]
end
end PA

set_option Elab.async false
set_option linter.all false
set_option maxRecDepth 100000
set_option maxHeartbeats 2000000
/-! PbSum: sum(lists, start), list(range(..)). -/
namespace PA
open PySem L2
theorem args_sum2 (a b : Value) : argsOk "sum" ⟨[a, b], []⟩ := by unfold argsOk; kernel_rfl
section
variable {prog : Program} {w : World} {A : Around} {R : Result → Shared → Prop} {I : Addr} {fp wr : List Addr} {n : Nat} {P : Nat → Value → Prop} {St : Nat → Heap → Prop}
theorem add_two {E : Value → Shared → Prop} {s : Shared} {l b : Addr} {vs ws : List Value} {Q : Value → Shared → Prop} (hl : s.heap.IsList l vs.toArray) (hb : s.heap.IsList b ws.toArray) (hsz : vs.length + ws.length ≤ sizeLine)
    (h : Q (.ref s.heap.objs.size) { s with heap := s.heap.push { cls := .type "list", data := .seq (vs ++ ws).toArray } }) : wpAny (model prog w) A (binaryOp .Add (.ref l) (.ref b)) Q E s := by
  obtain ⟨⟨cls, dd, data, sl⟩, ho, hc, n, hd⟩ := id hl
  obtain ⟨⟨cls2, dd2, data2, sl2⟩, ho2, hc2, n2, hd2⟩ := id hb
  simp only at hc hd hc2 hd2
  subst hc hd hc2 hd2
  have e : vs.toArray ++ ws.toArray = (vs ++ ws).toArray := by simp
  refine concat_meets ⟨_, ho, rfl⟩ ⟨_, ho2, rfl⟩ noFill_list_add seq_list_add PySem.F.slot_list_add PySem.F.entry_list_add (PySem.F.args_list_add_2 _ _) (PyProof.Rows.list_addW l b vs.toArray ws.toArray n n2 dd dd2 sl sl2 (by simpa using hsz)) ⟨ho, ho2, ?_⟩
  rw [e]
  exact h
/-- how long the rest is -/
def restLen (its : Nat → List Value) (n : Nat) : Nat → Nat
  | 0 => 0
  | k + 1 => (its (n - (k + 1))).length + restLen its n k
def restAll (its : Nat → List Value) (n : Nat) : Nat → List Value
  | 0 => []
  | k + 1 => its (n - (k + 1)) ++ restAll its n k
theorem sum_loopL (W : Walks prog w A.in1 I fp wr n P St) (S : Addr) (hSf : S ∉ fp) (bs : Nat → Addr) (its : Nat → List Value) (hP : ∀ i v, i < n → P i v → v = .ref (bs i)) (hbs : ∀ i, i < n → bs i ∉ wr ∧ bs i ≠ S) :
    ∀ (k i : Nat) (s : Shared) (T : Addr) (acc : List Value) (c : Nat), n - i = k → i ≤ n → St i s.heap → s.heap.get? S = some { cls := .type "list", dict := none, data := .seq #[.ref T] c, slots := #[] } → s.heap.IsList T acc.toArray → T ∉ wr → T ≠ S →
      (∀ j, j < n → s.heap.IsList (bs j) (its j).toArray) → acc.length + restLen its n k ≤ sizeLine → (∀ b ∈ wr, b < S) →
    (∀ h' tk T', (∀ b o, b ∉ wr → b ≠ S → s.heap.get? b = some o → h'.get? b = some o) → h'.IsList T' (acc ++ restAll its n k).toArray → ((k = 0 ∧ T' = T) ∨ (S < T' ∧ ∃ m, h'.get? T' = some { cls := .type "list", data := .seq (acc ++ restAll its n k).toArray m })) → R (.ok (.ret (.ref T'))) { s with heap := h', toks := tk }) →
    codeAny (model prog w) A (.builtin "sum.loop" ⟨[.ref I, .ref S, rawInt 2, rawInt 0], []⟩) R s := by
  have hSw : S ∉ wr := fun h => hSf (W.sub _ h)
  intro k
  induction k with
  | zero =>
    intro i s T acc c hk hi hst hS hT hTw hTS hl hz hwr hR
    have hin : i = n := by omega
    subst hin
    refine codeAny_builtin F.entry_sum_loop ?_
    rw [Around.under_plainId F.plain_sum_loop _]
    show wpAny _ A.in1 (seqItems? (.ref S) >>= _) _ _ s
    refine wpAny_bind (wpAny_seqItems hS rfl ?_)
    show wpAny _ A.in1 (tryCatch (pyNext (.ref I)) _ >>= _) _ _ s
    refine wpAny_bind (wpAny_tryCatch (W.done s _ _ hst fun h' tk hk' => ?_))
    refine wpAny_pure (hR h' tk T (fun b o hbw _ e => hk' b o hbw e) ?_ (.inl ⟨rfl, rfl⟩))
    show h'.IsList T (acc ++ []).toArray
    rw [List.append_nil]
    obtain ⟨o, e1, e2⟩ := hT
    exact ⟨o, hk' _ _ hTw e1, e2⟩
  | succ k ih =>
    intro i s T acc c hk hi hst hS hT hTw hTS hl hz hwr hR
    have hlt : i < n := by omega
    have hni : n - (k + 1) = i := by omega
    have hz : acc.length + ((its (n - (k + 1))).length + restLen its n k) ≤ sizeLine := hz
    rw [hni] at hz
    refine codeAny_builtin F.entry_sum_loop ?_
    rw [Around.under_plainId F.plain_sum_loop _]
    show wpAny _ A.in1 (seqItems? (.ref S) >>= _) _ _ s
    refine wpAny_bind (wpAny_seqItems hS rfl ?_)
    show wpAny _ A.in1 (tryCatch (pyNext (.ref I)) _ >>= _) _ _ s
    refine wpAny_bind (wpAny_tryCatch (W.item i s _ _ hlt hst fun v h' tk hPv hst' hk' => ?_))
    obtain rfl := hP i v hlt hPv
    have hS' := hk' S _ hSw hS
    have keepL : ∀ {a : Addr} {xs : List Value}, s.heap.IsList a xs.toArray → a ∉ wr → h'.IsList a xs.toArray := fun {a xs} ⟨o, e1, e2⟩ hw => ⟨o, hk' _ _ hw e1, e2⟩
    have hT' := keepL hT hTw
    have hB' := keepL (hl i hlt) (hbs i hlt).1
    show wpAny _ A.in1 ((holding [Value.ref (bs i)] (binaryOp .Add (.ref T) (.ref (bs i)))).attempt >>= _) _ _ _
    refine wpAny_bind (wpAny_attempt (wpAny_holding (add_two hT' hB' (by omega) ?_)))
    have szS : S < h'.objs.size := Heap.lt_size hS'
    have hS1 : (h'.push { cls := .type "list", data := .seq (acc ++ its i).toArray }).get? S = some { cls := .type "list", dict := none, data := .seq #[.ref T] c, slots := #[] } := Heap.get?_push_of_some _ hS'
    show wpAny _ A.in1 (updateSeq S (fun _ => #[.ref h'.objs.size]) >>= _) _ _ _
    refine wpAny_bind ?_
    refine wpAny_updateSeq hS1 rfl ?_
    have hS2 := Heap.get?_update_self (Obj.mapSeq fun _ => #[Value.ref h'.objs.size]) hS1 rfl
    refine wpAny_bind (wpAny_letGo ?_)
    refine wpAny_bind ?_
    have other : ∀ b o, b ≠ S → h'.get? b = some o → ∀ f g : Obj → Obj, (((h'.push { cls := .type "list", data := .seq (acc ++ its i).toArray }).update S f).update S g).get? b = some o := fun b o hb e f g =>
      (Heap.get?_update_other _ _ (Ne.symm hb)).trans ((Heap.get?_update_other _ _ (Ne.symm hb)).trans (Heap.get?_push_of_some _ e))
    refine wpAny_updateSeq hS2 rfl (wpAny_pure ⟨plainId_quiet F.plain_sum_loop _, ih (i + 1) _ h'.objs.size (acc ++ its i) _ (by omega) hlt (W.frame _ _ _ hst' fun b hb o e => other b o (fun h => hSf (by rw [← h]; exact hb)) e _ _) (Heap.get?_update_self _ hS2 rfl) ?_ (fun h => Nat.lt_irrefl _ (Nat.lt_trans (hwr _ h) szS)) (Nat.ne_of_gt szS) (fun j hj => ?_) (by rw [List.length_append]; omega) hwr fun h'' tk'' T'' hk'' hL'' hT'' => ?_⟩)
    · refine ⟨_, (Heap.get?_update_other _ _ (Nat.ne_of_lt szS)).trans ((Heap.get?_update_other _ _ (Nat.ne_of_lt szS)).trans (Heap.get?_push_size _ rfl)), rfl, _, rfl⟩
    · obtain ⟨o, e1, e2⟩ := keepL (hl j hj) (hbs j hj).1
      exact ⟨o, other _ _ (hbs j hj).2 e1 _ _, e2⟩
    · refine hR h'' tk'' T'' (fun b o hbw hbS e => hk'' b o hbw hbS (other b o hbS (hk' b o hbw e) _ _)) ?_ (.inr ?_)
      · show h''.IsList T'' (acc ++ (its (n - (k + 1)) ++ restAll its n k)).toArray
        rw [hni, ← List.append_assoc]
        exact hL''
      · rcases hT'' with ⟨hk0, e⟩ | ⟨e, m, em⟩
        · subst hk0 e
          refine ⟨szS, 0, ?_⟩
          show h''.get? h'.objs.size = some { cls := .type "list", data := .seq (acc ++ (its (n - (0 + 1)) ++ [])).toArray 0 }
          rw [hni, List.append_nil]
          exact hk'' _ _ (fun h => Nat.lt_irrefl _ (Nat.lt_trans (hwr _ h) szS)) (Nat.ne_of_gt szS) ((Heap.get?_update_other _ _ (Nat.ne_of_lt szS)).trans ((Heap.get?_update_other _ _ (Nat.ne_of_lt szS)).trans (Heap.get?_push_size _ rfl)))
        · refine ⟨e, m, ?_⟩
          show h''.get? T'' = some { cls := .type "list", data := .seq (acc ++ (its (n - (k + 1)) ++ restAll its n k)).toArray m }
          rw [hni, ← List.append_assoc]
          exact em
end
section
variable {prog : Program} {w : World} {A : Around} {E : Value → Shared → Prop} {s : Shared}
/-- sum(xs, start): xs a list of lists -/
theorem call_sumL {l b0 : Addr} {bs : List Addr} {its : Nat → List Value} {acc : List Value} {Q : Value → Shared → Prop} (hh : A.handled = none) (hl : s.heap.IsList l (bs.map Value.ref).toArray) (h0 : s.heap.IsList b0 acc.toArray) (hl2 : ∀ i (hi : i < bs.length), s.heap.IsList bs[i] (its i).toArray)
    (hz : acc.length + restLen its bs.length bs.length ≤ sizeLine)
    (h : ∀ h' tk T', (∀ b o, s.heap.get? b = some o → h'.get? b = some o) → h'.IsList T' (acc ++ restAll its bs.length bs.length).toArray → ((bs.length = 0 ∧ T' = b0) ∨ (s.heap.objs.size ≤ T' ∧ ∃ m, h'.get? T' = some { cls := .type "list", data := .seq (acc ++ restAll its bs.length bs.length).toArray m })) → Q (.ref T') { s with heap := h', toks := tk }) :
    wpAny (model prog w) A (call (.builtin "sum") [.ref l, .ref b0]) Q E s := by
  refine call_function_tree F.kind_sum F.plain_sum F.entry_sum (args_sum2 _ _) ?_
  unfold Builtin.«sum»
  simp only [List.length_cons, List.length_nil]
  rw [if_neg (by decide)]
  refine wpAny_bind (wpAny_of_eq (show Builtin.Builtins.bindParams "sum" ["start"] 0 ⟨[.ref b0], []⟩ = pure [some (.ref b0)] from rfl) ?_)
  have hlt : l < s.heap.objs.size := by obtain ⟨_, e, _⟩ := hl; exact Heap.lt_size e
  have hlb : b0 < s.heap.objs.size := by obtain ⟨_, e, _⟩ := h0; exact Heap.lt_size e
  refine wpAny_bind (wpAny_pyIter_list hl ?_)
  generalize hs2 : ({ s with heap := s.heap.push { cls := .type "list_iterator", data := .fields #[.ref l, .int 0 0] } } : Shared) = s2
  have e2 : s2.heap = s.heap.push { cls := .type "list_iterator", data := .fields #[.ref l, .int 0 0] } := by rw [← hs2]
  have k2 : ∀ b o, s.heap.get? b = some o → s2.heap.get? b = some o := fun b o e => by rw [e2]; exact Heap.get?_push_of_some _ e
  have kl : ∀ {a : Addr} {xs : List Value}, s.heap.IsList a xs.toArray → s2.heap.IsList a xs.toArray := fun ⟨o, q1, q2⟩ => ⟨o, k2 _ _ q1, q2⟩
  have z2 : s2.heap.objs.size = s.heap.objs.size + 1 := by rw [e2, Heap.size_push]
  have hit : s2.heap.IsListIter s.heap.objs.size l 0 := by rw [e2]; exact ⟨_, Heap.get?_push_size _ rfl, rfl, rfl⟩
  obtain ⟨⟨cls0, dd0, data0, sl0⟩, ho0, hc0, n0, hd0⟩ := kl h0
  simp only at hc0 hd0
  subst hc0 hd0
  have ht : s2.TypeIs (.ref b0) "list" := ⟨_, ho0, rfl⟩
  refine wpAny_bind (wpAny_pure ?_)
  simp only [List.forIn_cons, List.forIn_nil]
  refine wpAny_bind (wpAny_bind (wpAny_bind (wpAny_isInstance (T := "list") (b := false) ht F.sub_list_str ?_)))
  simp only [Bool.false_eq_true, if_false]
  refine wpAny_pure (wpAny_bind (wpAny_bind (wpAny_isInstance (T := "list") (b := false) ht F.sub_list_bytes ?_)))
  simp only [Bool.false_eq_true, if_false]
  refine wpAny_pure (wpAny_bind (wpAny_bind (wpAny_isInstance (T := "list") (b := false) ht F.sub_list_bytearray ?_)))
  simp only [Bool.false_eq_true, if_false]
  refine wpAny_pure (wpAny_pure ?_)
  refine wpAny_bind (wpAny_newObj_type ?_)
  have W : Walks prog w A.in1 s.heap.objs.size [s.heap.objs.size, l] [s.heap.objs.size] (bs.map Value.ref).toArray.size (fun i v => (bs.map Value.ref).toArray[i]? = some v) (fun i h => h.IsListIter s.heap.objs.size l i ∧ h.IsList l (bs.map Value.ref).toArray) := Walks.list (A := A.in1) hh _ l (Nat.ne_of_lt hlt) _
  have hn : (bs.map Value.ref).toArray.size = bs.length := by simp
  rw [hn] at W
  have hSf : s2.heap.objs.size ∉ [s.heap.objs.size, l] := fun hm => by
    rw [z2] at hm
    rcases List.mem_cons.mp hm with e | hm
    · exact absurd e (Nat.succ_ne_self _)
    · have e := List.mem_singleton.mp hm
      rw [← e] at hlt
      exact absurd (Nat.lt_trans (Nat.lt_succ_self _) hlt) (Nat.lt_irrefl _)
  have lts : ∀ i (hi : i < bs.length), bs[i] < s.heap.objs.size := fun i hi => by obtain ⟨_, e, _⟩ := hl2 i hi; exact Heap.lt_size e
  have gd : ∀ i (hi : i < bs.length), bs.getD i 0 = bs[i] := fun i hi => by rw [List.getD_eq_getElem?_getD, List.getElem?_eq_getElem hi]; rfl
  have wr1 : ∀ {a : Addr}, a < s.heap.objs.size → a ∉ [s.heap.objs.size] := fun h hm => Nat.ne_of_lt h (List.mem_singleton.mp hm)
  have wr2 : ∀ {a : Addr}, a < s.heap.objs.size → a ≠ s2.heap.objs.size := fun h e => by rw [z2] at e; exact Nat.ne_of_lt (Nat.lt_trans h (Nat.lt_succ_self _)) e
  have pk : ∀ b o, s2.heap.get? b = some o → (s2.heap.push { cls := .type "list", data := .seq #[Value.ref b0] }).get? b = some o := fun b o e => Heap.get?_push_of_some _ e
  refine wpAny_pure ⟨plainId_quiet F.plain_sum_loop _, sum_loopL W s2.heap.objs.size hSf (fun i => bs.getD i 0) its (fun i v hi hv => ?_) (fun i hi => ?_) bs.length 0 _ b0 acc 0 (Nat.sub_zero _) (Nat.zero_le _) ?_ (Heap.get?_push_size _ rfl) ⟨_, pk _ _ ho0, rfl, _, rfl⟩ ?_ ?_ (fun j hj => ?_) hz ?_ fun h' tk T' hk hL hT => ?_⟩
  · have hv : (bs.map Value.ref)[i]? = some v := by simpa using hv
    rw [List.getElem?_map, List.getElem?_eq_getElem hi] at hv
    cases hv
    rw [gd i hi]
  · rw [gd i hi]
    exact ⟨wr1 (lts i hi), wr2 (lts i hi)⟩
  · obtain ⟨⟨o1, q1, q2⟩, o2, q3, q4⟩ := (⟨hit, kl hl⟩ : s2.heap.IsListIter s.heap.objs.size l 0 ∧ s2.heap.IsList l (bs.map Value.ref).toArray)
    exact ⟨⟨o1, pk _ _ q1, q2⟩, ⟨o2, pk _ _ q3, q4⟩⟩
  · exact wr1 hlb
  · exact wr2 hlb
  · rw [gd j hj]
    obtain ⟨o, q1, q2⟩ := kl (hl2 j hj)
    exact ⟨o, pk _ _ q1, q2⟩
  · intro b hb
    rw [List.mem_singleton.mp hb, z2]
    exact Nat.lt_succ_self _
  · have kept : ∀ b o, s.heap.get? b = some o → h'.get? b = some o := fun b o e => hk b o (wr1 (Heap.lt_size e)) (wr2 (Heap.lt_size e)) (pk _ _ (k2 _ _ e))
    have hT : (bs.length = 0 ∧ T' = b0) ∨ (s.heap.objs.size ≤ T' ∧ ∃ m, h'.get? T' = some { cls := .type "list", data := .seq (acc ++ restAll its bs.length bs.length).toArray m }) := by
      rcases hT with h | ⟨h, h2⟩
      · exact .inl h
      · have h : s2.heap.objs.size < T' := h
        rw [z2] at h
        exact .inr ⟨Nat.le_of_lt (Nat.lt_trans (Nat.lt_succ_self _) h), h2⟩
    have := h h' tk T' kept hL hT
    rw [← hs2]
    exact this
end
/-- sum(xs, []), xs a list of lists -/
def rSumL (K : PySem.W.Frag) : List V → Hp → VK → Prop := fun vs H Q => ∃ (a b0 : Addr) (cs : List (Addr × List V)), vs = [V.ref a, V.ref b0] ∧ SqL K H a (cs.map fun c => V.ref c.1) ∧ (∀ c ∈ cs, SqL K H c.1 c.2) ∧ SqL K H b0 [] ∧ (cs.flatMap (·.2)).length ≤ sizeLine ∧ (cs = [] → Q (.ref b0) H) ∧ ∀ p, H p = none → Q (.ref p) (upd H p (.lst (cs.flatMap (·.2))))
theorem vals_refs : ∀ {cs : List (Addr × List V)} {its : List Value}, Vals (cs.map fun c => V.ref c.1) its → its = (cs.map (·.1)).map Value.ref
  | [], _, .nil => rfl
  | c :: cs, _, .cons r t => by
    have e : _ = Value.ref c.1 := r
    rw [e, vals_refs t]
    rfl
theorem rest_vals {cs : List (Addr × List V)} {its : Nat → List Value} (h : ∀ i (hi : i < cs.length), Vals cs[i].2 (its i)) : ∀ k, k ≤ cs.length → Vals ((cs.drop (cs.length - k)).flatMap (·.2)) (restAll its cs.length k) ∧ restLen its cs.length k = ((cs.drop (cs.length - k)).flatMap (·.2)).length
  | 0, _ => by
    rw [Nat.sub_zero, List.drop_length]
    exact ⟨.nil, rfl⟩
  | k + 1, hk => by
    obtain ⟨h1, h2⟩ := rest_vals h k (by omega)
    have hi : cs.length - (k + 1) < cs.length := by omega
    have ed : cs.drop (cs.length - (k + 1)) = cs[cs.length - (k + 1)] :: cs.drop (cs.length - k) := by
      rw [List.drop_eq_getElem_cons hi, show cs.length - (k + 1) + 1 = cs.length - k by omega]
    rw [ed, List.flatMap_cons]
    have hv := h _ hi
    refine ⟨hv.append h1, ?_⟩
    show (its (cs.length - (k + 1))).length + restLen its cs.length k = _
    rw [List.length_append, h2, ← hv.length]
theorem cr_sumL {X : Cx} (hc : X.calm = true) : CallR X (.builtin "sum") (rSumL X.K) := by
  intro pins s σ H vs us Q I r h
  obtain ⟨a, b0, cs, rfl, hs, hcs, h0, hz, q0, q⟩ := h
  obtain ⟨ia, ra, la, _⟩ := I.list hs
  obtain ⟨ib, rb, lb, _⟩ := I.list h0
  cases rb
  have ea := vals_refs ra
  subst ea
  have ex : ∀ i : Nat, ∃ ws : List Value, ∀ hi : i < cs.length, Vals cs[i].2 ws ∧ s.heap.IsList cs[i].1 ws.toArray := fun i => by
    by_cases hi : i < cs.length
    · obtain ⟨ws, rw', lw, _⟩ := I.list (hcs _ (List.getElem_mem hi))
      exact ⟨ws, fun _ => ⟨rw', lw.isList⟩⟩
    · exact ⟨[], fun h => absurd h hi⟩
  have hw : ∀ i (hi : i < cs.length), Vals cs[i].2 (Classical.choose (ex i)) ∧ s.heap.IsList cs[i].1 (Classical.choose (ex i)).toArray := fun i hi => Classical.choose_spec (ex i) hi
  obtain ⟨its, hw⟩ : ∃ its : Nat → List Value, ∀ i (hi : i < cs.length), Vals cs[i].2 (its i) ∧ s.heap.IsList cs[i].1 (its i).toArray := ⟨fun i => Classical.choose (ex i), hw⟩
  obtain ⟨rv, rl⟩ := rest_vals (fun i hi => (hw i hi).1) cs.length (Nat.le_refl _)
  rw [Nat.sub_self, List.drop_zero] at rv rl
  have hus : us = [.ref a, .ref b0] := by
    cases r with
    | cons r1 r =>
      cases r with
      | cons r2 r =>
        cases r
        have e1 : _ = Value.ref a := r1
        have e2 : _ = Value.ref b0 := r2
        rw [e1, e2]
  rw [hus]
  have lenm : (cs.map (·.1)).length = cs.length := List.length_map _
  refine call_sumL (bs := cs.map (·.1)) (its := its) (acc := []) (I.ok.hd hc) la.isList lb.isList (fun i hi => ?_) (by rw [lenm, rl, List.length_nil, Nat.zero_add]; exact hz) fun h' tk T' kept hL hT => ?_
  · rw [List.getElem_map]
    exact (hw i (by rw [lenm] at hi; exact hi)).2
  · rw [lenm] at hT
    rcases hT with ⟨h1, h2⟩ | ⟨h1, m, h2⟩
    · subst h2
      have e : cs = [] := List.length_eq_zero_iff.mp h1
      exact ⟨.ref _, H, I.kept kept, rfl, q0 e⟩
    · rw [List.nil_append] at h2
      exact ⟨.ref _, upd H T' (.lst (cs.flatMap (·.2))), I.laid (t' := tk) kept h1 ⟨hz, _, m, rv, h2⟩, rfl, q T' (I.hok.fresh h1)⟩
section
variable {K : PySem.W.Frag} {S : Bs} {δ : Sl} {μ : List Cell} {ta tb te : TE} {C : D → List Cell → Prop}
theorem lists_rel {A : List Addr} {G H : Hp} (e : Ex G H) : ∀ {ls : List (List D)} {xs : List V}, RpL K A G (ls.map D.lst) xs → ∃ cs : List (Addr × List V), xs = cs.map (fun c => V.ref c.1) ∧ (∀ c ∈ cs, SqL K H c.1 c.2) ∧ RpL K A G ls.flatten (cs.flatMap (·.2)) ∧ (ls = [] ↔ cs = [])
  | [], _, .nil => ⟨[], rfl, fun c h => (by cases h), .nil, ⟨fun _ => rfl, fun _ => rfl⟩⟩
  | l :: ls, _, .cons r t => by
    obtain ⟨cs, h1, h2, h3, h4⟩ := lists_rel e t
    subst h1
    cases r with
    | @lst _ a ys hg ry =>
      refine ⟨(a, ys) :: cs, rfl, fun c hc => ?_, ?_, ⟨fun z => (by cases z), fun z => (by cases z)⟩⟩
      · rcases List.mem_cons.mp hc with rfl | hc
        · exact lst_sq (e _ _ hg)
        · exact h2 c hc
      · rw [List.flatten_cons, List.flatMap_cons]
        exact ry.append h3
/-- sum(xs, []), xs closed lists -/
theorem cc_sumL {ls : List (List D)} (hz : ls.flatten.length ≤ 10000000) (k : C (.lst ls.flatten) μ) : CC K S (rSumL K) [.lst (ls.map D.lst), .lst []] μ C := fun A G H vs m r1 Q q => by
  cases r1 with
  | cons r1 rn =>
    cases rn with
    | cons r2 rn =>
      cases rn
      cases r1 with
      | @lst _ a xs hg rx =>
        cases r2 with
        | @lst _ b ys hb ry =>
          cases ry
          obtain ⟨cs, h1, h2, h3, h4⟩ := lists_rel m.ex rx
          subst h1
          refine ⟨a, b, cs, rfl, lst_sq (m.ex _ _ hg), h2, lst_sq (m.ex _ _ hb), small (by rw [← h3.len]; exact hz), fun e => ?_, fun p hp => put_lst m hp h3 q k⟩
          have e1 := h4.mpr e
          subst e1
          exact q _ (.lst []) A G H μ m Nw.refl (.lst hb .nil) k
/-- list(range(i, j)) -/
theorem ee_listRg (h : EE K S ta δ μ fun x μ1 => EE K S tb δ μ1 fun y μ2 => ∃ i j : Int, x = .int i ∧ y = .int j ∧ RgOk i j ∧ C (.lst (rng i (j - i).toNat)) μ2) : EE K S (tLstRg (tRg2 ta tb)) δ μ C := fun A G H σ a Q q =>
  h A G H σ a _ fun v1 x A1 G1 H1 μ1 m1 n1 r1 h1 => h1 A1 G1 H1 σ ⟨m1, n1.en a.env⟩ _ fun v2 y A2 G2 H2 μ2 m2 n2 r2 ⟨i, j, ex, ey, ok, c⟩ => by
    subst ex ey
    have e1 := r1.vOf
    have e2 := r2.vOf
    subst e1 e2
    refine ⟨i, j, rfl, rfl, ok, fun p hp => ?_⟩
    have rr : RpL K A2 G2 (rng i (j - i).toNat) (rgV i j) := by
      have z := RpL.vals (K := K) (A := A2) (G := G2) (rgV i j)
      unfold rgV at z
      rw [List.map_map] at z
      exact z
    exact put_lst m2 hp rr (fun v d A' G' H' μ' m n r c => q v d A' G' H' μ' m ((n1.trans n2).trans n) r c) c
end
/-! ### a way into a def's text -/
def noE : Expr := .Name "" ⟨0, 0, 0, 0⟩
def stE : Stmt → Expr
  | .Assign _ e _ => e
  | .Return (some e) _ => e
  | .Expr e _ => e
  | .If e _ _ _ => e
  | .While e _ _ _ => e
  | .For _ e _ _ _ => e
  | .AugAssign _ _ e _ => e
  | _ => noE
def stB (n : Nat) : Stmt → Stmt
  | .FunctionDef _ _ b _ _ _ _ _ _ _ => b.getD n (.Pass ⟨0, 0, 0, 0⟩)
  | .If _ b _ _ => b.getD n (.Pass ⟨0, 0, 0, 0⟩)
  | .While _ b _ _ => b.getD n (.Pass ⟨0, 0, 0, 0⟩)
  | .For _ _ b _ _ => b.getD n (.Pass ⟨0, 0, 0, 0⟩)
  | .Try b _ _ _ _ => b.getD n (.Pass ⟨0, 0, 0, 0⟩)
  | _ => .Pass ⟨0, 0, 0, 0⟩
def stO (n : Nat) : Stmt → Stmt
  | .If _ _ b _ => b.getD n (.Pass ⟨0, 0, 0, 0⟩)
  | _ => .Pass ⟨0, 0, 0, 0⟩
def exN (n : Nat) : Expr → Expr
  | .BoolOp _ l _ => l.getD n noE
  | .BinOp a _ b _ => if n = 0 then a else b
  | .UnaryOp _ a _ => a
  | .IfExp a b c _ => if n = 0 then a else if n = 1 then b else c
  | .Compare a _ l _ => (a :: l).getD n noE
  | .Call _ l _ _ => l.getD n noE
  | .Subscript a b _ => if n = 0 then a else b
  | .List l _ => l.getD n noE
  | .Tuple l _ _ => l.getD n noE
  | _ => noE
def lcElt : Expr → Expr
  | .ListComp e _ _ _ => e
  | _ => noE
def lcIter (n : Nat) : Expr → Expr
  | .ListComp _ g _ _ => ((g[n]?).map (·.iter)).getD noE
  | _ => noE
def lcIf (n m : Nat) : Expr → Expr
  | .ListComp _ g _ _ => ((g[n]?).map fun c => c.ifs.getD m noE).getD noE
  | _ => noE
def scOf : Expr → Scope
  | .ListComp _ _ s _ => s
  | _ => defScope (.Pass ⟨0, 0, 0, 0⟩)
/-- an inner block's scope as it stands within the outer block: free names that are cells outside are cells -/
def scRel (o s : Scope) : Scope := { s with names := s.names.map fun (n, k) => if (k == .free && o.kind == .function && o.names.lookup n == some .cell) then (n, .cell) else (n, k) }
end PA

set_option Elab.async false
set_option linter.all false
set_option maxRecDepth 100000
set_option maxHeartbeats 2000000
/-! PbMap: two-clause comprehensions whose elements are made; lists compared. -/
namespace PA
open PySem L2
section
variable {K : PySem.W.Frag} {S : Bs} {δ : Sl} {μ : List Cell} {wi wi1 : TI} {g g1 : TG} {t t1 : TT} {te : TE}
/-- [e for .. in .. if .. for .. in ..]: all there is of the second walk, each element made -/
theorem ee_lc2M {vs vs1 : List Nat} {C : D → List Cell → Prop} {f : D → Bool} {m : D → List D} {e : D → D} {L : List D} (hL : ((L.filter f).flatMap m).length < 10000000) (hcl : D.ltL 0 ((L.filter f).flatMap m) = true)
    (h : IE K S wi δ μ fun l P μ1 => l = L ∧ P = yes ∧ μ1 = μ)
    (hb : ∀ x acc, x ∈ L → GW K S g vs x (wipeS δ vs) (μ ++ [.lst acc]) fun δ2 μ2 => ET K S t δ2 μ2 fun b μ3 => b = f x ∧ μ3 = μ ++ [.lst acc] ∧ (b = true →
        IE K S wi1 δ2 μ3 fun l1 P1 μ4 => l1.map e = m x ∧ P1 = yes ∧ μ4 = μ ++ [.lst acc] ∧
          ∀ y acc', y ∈ l1 → GW K S g1 vs1 y (wipeS δ2 vs1) (μ ++ [.lst acc']) fun δ3 μ5 => ET K S t1 δ3 μ5 fun b μ6 => b = true ∧ μ6 = μ ++ [.lst acc'] ∧ EE K S te δ3 μ6 fun d μ7 => d = e y ∧ μ7 = μ ++ [.lst acc']))
    (c : C (.lst ((L.filter f).flatMap m)) μ) : EE K S (tLc2 wi g t wi1 g1 t1 te vs vs1) δ μ C := by
  refine ee_lc2 fun A G H σ a R q => h A G H σ a R fun J l P A1 G1 H1 μ1 m1 n1 gv ⟨el, eP, eμ⟩ => q J l P A1 G1 H1 μ1 m1 n1 gv ?_
  subst el eμ
  have tk : ∀ i x, l[i]? = some x → l.take (i + 1) = l.take i ++ [x] := fun i x hx => by rw [List.take_succ, hx]; rfl
  have sub : ∀ i, D.ltL 0 (((l.take i).filter f).flatMap m) = true := fun i => D.ltL_all.mpr fun d hd => by
    obtain ⟨x, hx, hd⟩ := List.mem_flatMap.mp hd
    obtain ⟨h1, h2⟩ := List.mem_filter.mp hx
    exact D.ltL_all.mp hcl d (List.mem_flatMap.mpr ⟨x, List.mem_filter.mpr ⟨List.mem_of_mem_take h1, h2⟩, hd⟩)
  have len : ∀ i x, l[i]? = some x → f x = true → (((l.take i).filter f).flatMap m).length + (m x).length < 10000000 := fun i x hx hf => by
    obtain ⟨hi, e⟩ := List.getElem?_eq_some_iff.mp hx
    have e1 : l = l.take i ++ x :: l.drop (i + 1) := by
      have z := List.drop_eq_getElem_cons hi
      rw [e] at z
      rw [← z, List.take_append_drop]
    have e2 : (((l.take i).filter f).flatMap m ++ (m x ++ ((l.drop (i + 1)).filter f).flatMap m)) = (l.filter f).flatMap m := by
      have e3 : l.filter f = (l.take i).filter f ++ x :: (l.drop (i + 1)).filter f := by
        have z := congrArg (List.filter f) e1
        rw [List.filter_append, List.filter_cons, hf, if_pos rfl] at z
        exact z
      rw [e3, List.flatMap_append, List.flatMap_cons]
    have e4 := congrArg List.length e2
    rw [List.length_append, List.length_append] at e4
    omega
  refine ⟨eP, fun i acc => acc = ((l.take i).filter f).flatMap m, by simp, fun i acc w => by rw [w]; exact D.ltL_mono (Nat.zero_le _) (sub i), fun i x acc hx w => ?_, fun acc w => by rw [w, List.take_length]; exact c⟩
  subst w
  intro A2 G2 H2 σ2 v2 a2 r2 Q2 q2
  refine hb x _ (List.mem_of_getElem? hx) A2 G2 H2 σ2 v2 a2 r2 Q2 fun A3 G3 H3 σ3 δ3 μ3 a3 n3 hw3 c3 => q2 A3 G3 H3 σ3 δ3 μ3 a3 n3 hw3 ?_
  intro A4 G4 H4 σ4 a4 Q4 q4
  refine c3 A4 G4 H4 σ4 a4 Q4 fun b A5 G5 H5 μ5 m5 n5 ⟨h1, h2, h3⟩ => q4 b A5 G5 H5 μ5 m5 n5 ⟨h2, fun hbf => ?_, fun hbt => ?_⟩
  · show ((l.take i).filter f).flatMap m = ((l.take (i + 1)).filter f).flatMap m
    rw [tk i x hx, List.filter_append, List.filter_cons, ← h1, hbf, if_neg Bool.false_ne_true, List.filter_nil, List.append_nil]
  · have hfx : f x = true := by rw [← h1]; exact hbt
    have ln := len i x hx hfx
    intro A6 G6 H6 σ6 a6 R6 q6
    refine h3 hbt A6 G6 H6 σ6 a6 R6 fun J7 l7 P7 A7 G7 H7 μ7 m7 n7 gv7 ⟨k1, k2, k3, k4⟩ => q6 J7 l7 P7 A7 G7 H7 μ7 m7 n7 gv7 ⟨k2, k3, fun j acc' => acc' = ((l.take i).filter f).flatMap m ++ (l7.take j).map e, by show _ = ((l.take i).filter f).flatMap m ++ (l7.take 0).map e; rw [List.take_zero, List.map_nil, List.append_nil], fun j y acc' hy w' => ?_, fun acc' w' => ?_⟩
    · subst w'
      have ty : (l7.take (j + 1)).map e = (l7.take j).map e ++ [e y] := by rw [List.take_succ, hy, List.map_append]; rfl
      have hj := (List.getElem?_eq_some_iff.mp hy).1
      intro A8 G8 H8 σ8 v8 a8 r8 Q8 q8
      refine k4 y _ (List.mem_of_getElem? hy) A8 G8 H8 σ8 v8 a8 r8 Q8 fun A9 G9 H9 σ9 δ9 μ9 a9 n9 hw9 c9 => q8 A9 G9 H9 σ9 δ9 μ9 a9 n9 hw9 ?_
      intro A10 G10 H10 σ10 a10 Q10 q10
      refine c9 A10 G10 H10 σ10 a10 Q10 fun b A11 G11 H11 μ11 m11 n11 ⟨u1, u2, u3⟩ => q10 b A11 G11 H11 μ11 m11 n11 ⟨u2, fun z => (by rw [u1] at z; cases z), fun _ => u3.imp fun d μ12 ⟨y1, y2⟩ => ⟨y2, ?_, ?_⟩⟩
      · have hlm := congrArg List.length k1
        rw [List.length_map] at hlm
        rw [List.length_append, List.length_map, List.length_take]
        omega
      · show ((l.take i).filter f).flatMap m ++ (l7.take j).map e ++ [d] = ((l.take i).filter f).flatMap m ++ (l7.take (j + 1)).map e
        rw [y1, ty, List.append_assoc]
    · subst w'
      show ((l.take i).filter f).flatMap m ++ (l7.take l7.length).map e = ((l.take (i + 1)).filter f).flatMap m
      rw [List.take_length, k1, tk i x hx, List.filter_append, List.filter_cons, hfx, if_pos rfl, List.filter_nil, List.flatMap_append, List.flatMap_cons, List.flatMap_nil, List.append_nil]
end
/-! ### x > y, data of one kind -/
def rGtD (K : PySem.W.Frag) : R2 := fun x y H Q => ∃ d e, Dp K H x d ∧ Dp K H y e ∧ PySem.W.alike d e = true ∧ d ≠ .none ∧ min d.depth e.depth ≤ 60 ∧ Q (.bl (PySem.W.dataLt e d)) H
theorem op_gtD {X : Cx} (hu : X.A.units + 64 < cLine) : OpR X (compareOp .Gt) (rGtD X.K) := by
  intro pins s σ H x y v u Q I rx ry ⟨d, e, hd, he, ha, hn, hz, q⟩
  obtain ⟨as, r1⟩ := Dp.reads I d x v hd rx
  obtain ⟨bs, r2⟩ := Dp.reads I e y u he ry
  exact PySem.W.gt_data r1 r2 ha hn (by omega) ⟨.bl _, H, I, rfl, q⟩
section
variable {K : PySem.W.Frag} {S : Bs} {μ : List Cell} {C : D → List Cell → Prop}
theorem oo_gtD {x y : D} {p q : PyData} (h1 : D.py x = some p) (h2 : D.py y = some q) (ha : PySem.W.alike p q = true) (hn : p ≠ .none) (hz : min p.depth q.depth ≤ 60) (k : C (.bl (PySem.W.dataLt q p)) μ) : OO K S (rGtD K) x y μ C := fun A G H u w m r1 r2 Q qq =>
  ⟨p, q, (r1.mono0 m.ex).dp h1, (r2.mono0 m.ex).dp h2, ha, hn, hz, qq _ _ A G H μ m Nw.refl (.v _) k⟩
/-- list(range(j)) -/
theorem ee_listRg1 {δ : Sl} {ta : TE} (h : EE K S ta δ μ fun x μ1 => ∃ j : Int, x = .int j ∧ RgOk 0 j ∧ C (.lst (rng 0 j.toNat)) μ1) : EE K S (tLstRg (tRg1 ta)) δ μ C := fun A G H σ a Q q =>
  h A G H σ a _ fun v1 x A1 G1 H1 μ1 m1 n1 r1 ⟨j, ex, ok, c⟩ => by
    subst ex
    have e1 := r1.vOf
    subst e1
    refine ⟨j, rfl, ok, fun p hp => ?_⟩
    have rr : RpL K A1 G1 (rng 0 j.toNat) (rgV 0 j) := by
      have z := RpL.vals (K := K) (A := A1) (G := G1) (rgV 0 j)
      unfold rgV at z
      rw [List.map_map, Int.sub_zero] at z
      unfold rgV
      rw [Int.sub_zero]
      exact z
    exact put_lst m1 hp rr (fun v d A' G' H' μ' m n r c => q v d A' G' H' μ' m (n1.trans n) r c) c
end
end PA

set_option Elab.async false
set_option linter.all false
set_option maxRecDepth 100000
set_option maxHeartbeats 4000000
namespace PA
open PySem L2
def top (i : Nat) : Stmt := PySem.Challenge.pw_heardandfelt_k73_whole_windows.main.body.getD i (.Pass ⟨0, 0, 0, 0⟩)
structure Ad where
  (eReadingError eInvalidPage eInvalidNumber eInvalidCount eInvalidText eInvalidPlace eInvalidCells eInvalidBook eInvalidWidth eInvalidKey eInvalidMarks eInvalidStand eInvalidLine eNotWritten : Addr)
structure Tx (P : Program) (w : World) (K : PySem.W.Frag) (mg : Str → Option Value) (base : Heap) (a : Ad) : Prop where
  b_int : mg "int" = none
  b_range : mg "range" = none
  b_isinstance : mg "isinstance" = none
  b_bool : mg "bool" = none
  b_max : mg "max" = none
  b_len : mg "len" = none
  b_tuple : mg "tuple" = none
  b_all : mg "all" = none
  b_list : mg "list" = none
  b_min : mg "min" = none
  b_enumerate : mg "enumerate" = none
  b_ValueError : mg "ValueError" = none
  b_sum : mg "sum" = none
  b_dict : mg "dict" = none
  b_zip : mg "zip" = none
  b_str : mg "str" = none
  b_sorted : mg "sorted" = none
  g_ReadingError : mg "ReadingError" = some (.ref a.eReadingError)
  e_InvalidPage : ErrK P w K mg base "InvalidPage" a.eInvalidPage
  g_InvalidPage : mg "InvalidPage" = some (.ref a.eInvalidPage)
  e_InvalidNumber : ErrK P w K mg base "InvalidNumber" a.eInvalidNumber
  g_InvalidNumber : mg "InvalidNumber" = some (.ref a.eInvalidNumber)
  e_InvalidCount : ErrK P w K mg base "InvalidCount" a.eInvalidCount
  g_InvalidCount : mg "InvalidCount" = some (.ref a.eInvalidCount)
  e_InvalidText : ErrK P w K mg base "InvalidText" a.eInvalidText
  g_InvalidText : mg "InvalidText" = some (.ref a.eInvalidText)
  e_InvalidPlace : ErrK P w K mg base "InvalidPlace" a.eInvalidPlace
  g_InvalidPlace : mg "InvalidPlace" = some (.ref a.eInvalidPlace)
  e_InvalidCells : ErrK P w K mg base "InvalidCells" a.eInvalidCells
  g_InvalidCells : mg "InvalidCells" = some (.ref a.eInvalidCells)
  e_InvalidBook : ErrK P w K mg base "InvalidBook" a.eInvalidBook
  g_InvalidBook : mg "InvalidBook" = some (.ref a.eInvalidBook)
  e_InvalidWidth : ErrK P w K mg base "InvalidWidth" a.eInvalidWidth
  g_InvalidWidth : mg "InvalidWidth" = some (.ref a.eInvalidWidth)
  e_InvalidKey : ErrK P w K mg base "InvalidKey" a.eInvalidKey
  g_InvalidKey : mg "InvalidKey" = some (.ref a.eInvalidKey)
  e_InvalidMarks : ErrK P w K mg base "InvalidMarks" a.eInvalidMarks
  g_InvalidMarks : mg "InvalidMarks" = some (.ref a.eInvalidMarks)
  e_InvalidStand : ErrK P w K mg base "InvalidStand" a.eInvalidStand
  g_InvalidStand : mg "InvalidStand" = some (.ref a.eInvalidStand)
  e_InvalidLine : ErrK P w K mg base "InvalidLine" a.eInvalidLine
  g_InvalidLine : mg "InvalidLine" = some (.ref a.eInvalidLine)
  e_NotWritten : ErrK P w K mg base "NotWritten" a.eNotWritten
  g_NotWritten : mg "NotWritten" = some (.ref a.eNotWritten)
  k_InvalidCells_InvalidPage : PySem.W.kitOne K (.ref a.eInvalidCells) (.ref a.eInvalidPage) = some false
  k_InvalidCells_InvalidBook : PySem.W.kitOne K (.ref a.eInvalidCells) (.ref a.eInvalidBook) = some false
  k_InvalidCells_InvalidText : PySem.W.kitOne K (.ref a.eInvalidCells) (.ref a.eInvalidText) = some false
  k_InvalidCells_InvalidCells : PySem.W.kitOne K (.ref a.eInvalidCells) (.ref a.eInvalidCells) = some true
  k_InvalidCells_InvalidWidth : PySem.W.kitOne K (.ref a.eInvalidCells) (.ref a.eInvalidWidth) = some false
  k_InvalidCells_InvalidCount : PySem.W.kitOne K (.ref a.eInvalidCells) (.ref a.eInvalidCount) = some false
  k_InvalidCells_InvalidKey : PySem.W.kitOne K (.ref a.eInvalidCells) (.ref a.eInvalidKey) = some false
  k_InvalidCells_InvalidMarks : PySem.W.kitOne K (.ref a.eInvalidCells) (.ref a.eInvalidMarks) = some false
  k_InvalidCells_InvalidStand : PySem.W.kitOne K (.ref a.eInvalidCells) (.ref a.eInvalidStand) = some false
  k_InvalidCells_InvalidPlace : PySem.W.kitOne K (.ref a.eInvalidCells) (.ref a.eInvalidPlace) = some false
  k_InvalidCells_InvalidLine : PySem.W.kitOne K (.ref a.eInvalidCells) (.ref a.eInvalidLine) = some false
  k_InvalidCells_InvalidNumber : PySem.W.kitOne K (.ref a.eInvalidCells) (.ref a.eInvalidNumber) = some false
  k_InvalidCells_NotWritten : PySem.W.kitOne K (.ref a.eInvalidCells) (.ref a.eNotWritten) = some false
  v_InvalidCells : PySem.W.kitOne K (.ref a.eInvalidCells) (.type "ValueError") = some true
  x_InvalidCells : PySem.W.exmOne K (.ref a.eInvalidCells) (.ref a.eReadingError) = some true
  k_InvalidWidth_InvalidPage : PySem.W.kitOne K (.ref a.eInvalidWidth) (.ref a.eInvalidPage) = some false
  k_InvalidWidth_InvalidBook : PySem.W.kitOne K (.ref a.eInvalidWidth) (.ref a.eInvalidBook) = some false
  k_InvalidWidth_InvalidText : PySem.W.kitOne K (.ref a.eInvalidWidth) (.ref a.eInvalidText) = some false
  k_InvalidWidth_InvalidCells : PySem.W.kitOne K (.ref a.eInvalidWidth) (.ref a.eInvalidCells) = some false
  k_InvalidWidth_InvalidWidth : PySem.W.kitOne K (.ref a.eInvalidWidth) (.ref a.eInvalidWidth) = some true
  k_InvalidWidth_InvalidCount : PySem.W.kitOne K (.ref a.eInvalidWidth) (.ref a.eInvalidCount) = some false
  k_InvalidWidth_InvalidKey : PySem.W.kitOne K (.ref a.eInvalidWidth) (.ref a.eInvalidKey) = some false
  k_InvalidWidth_InvalidMarks : PySem.W.kitOne K (.ref a.eInvalidWidth) (.ref a.eInvalidMarks) = some false
  k_InvalidWidth_InvalidStand : PySem.W.kitOne K (.ref a.eInvalidWidth) (.ref a.eInvalidStand) = some false
  k_InvalidWidth_InvalidPlace : PySem.W.kitOne K (.ref a.eInvalidWidth) (.ref a.eInvalidPlace) = some false
  k_InvalidWidth_InvalidLine : PySem.W.kitOne K (.ref a.eInvalidWidth) (.ref a.eInvalidLine) = some false
  k_InvalidWidth_InvalidNumber : PySem.W.kitOne K (.ref a.eInvalidWidth) (.ref a.eInvalidNumber) = some false
  k_InvalidWidth_NotWritten : PySem.W.kitOne K (.ref a.eInvalidWidth) (.ref a.eNotWritten) = some false
  v_InvalidWidth : PySem.W.kitOne K (.ref a.eInvalidWidth) (.type "ValueError") = some true
  x_InvalidWidth : PySem.W.exmOne K (.ref a.eInvalidWidth) (.ref a.eReadingError) = some true
  k_InvalidCount_InvalidPage : PySem.W.kitOne K (.ref a.eInvalidCount) (.ref a.eInvalidPage) = some false
  k_InvalidCount_InvalidBook : PySem.W.kitOne K (.ref a.eInvalidCount) (.ref a.eInvalidBook) = some false
  k_InvalidCount_InvalidText : PySem.W.kitOne K (.ref a.eInvalidCount) (.ref a.eInvalidText) = some false
  k_InvalidCount_InvalidCells : PySem.W.kitOne K (.ref a.eInvalidCount) (.ref a.eInvalidCells) = some false
  k_InvalidCount_InvalidWidth : PySem.W.kitOne K (.ref a.eInvalidCount) (.ref a.eInvalidWidth) = some false
  k_InvalidCount_InvalidCount : PySem.W.kitOne K (.ref a.eInvalidCount) (.ref a.eInvalidCount) = some true
  k_InvalidCount_InvalidKey : PySem.W.kitOne K (.ref a.eInvalidCount) (.ref a.eInvalidKey) = some false
  k_InvalidCount_InvalidMarks : PySem.W.kitOne K (.ref a.eInvalidCount) (.ref a.eInvalidMarks) = some false
  k_InvalidCount_InvalidStand : PySem.W.kitOne K (.ref a.eInvalidCount) (.ref a.eInvalidStand) = some false
  k_InvalidCount_InvalidPlace : PySem.W.kitOne K (.ref a.eInvalidCount) (.ref a.eInvalidPlace) = some false
  k_InvalidCount_InvalidLine : PySem.W.kitOne K (.ref a.eInvalidCount) (.ref a.eInvalidLine) = some false
  k_InvalidCount_InvalidNumber : PySem.W.kitOne K (.ref a.eInvalidCount) (.ref a.eInvalidNumber) = some false
  k_InvalidCount_NotWritten : PySem.W.kitOne K (.ref a.eInvalidCount) (.ref a.eNotWritten) = some false
  v_InvalidCount : PySem.W.kitOne K (.ref a.eInvalidCount) (.type "ValueError") = some true
  x_InvalidCount : PySem.W.exmOne K (.ref a.eInvalidCount) (.ref a.eReadingError) = some true
local macro_rules | `(tactic| walk_at "p1") => `(tactic| first
  | (with_reducible refine se_seq ?_)
  | (with_reducible refine se_asg ?_)
  | (with_reducible refine se_ret ?_)
  | (with_reducible refine se_drop ?_)
  | (with_reducible refine se_if ?_)
  | (with_reducible refine se_next ?_)
  | ((with_reducible apply ee_var); rfl)
  | (with_reducible refine ee_c ?_)
  | (with_reducible refine ee_op ?_)
  | (with_reducible refine ee_un ?_)
  | (with_reducible refine ee_cb ?_)
  | (with_reducible refine ea_cons ?_)
  | (with_reducible refine ea_nil ?_)
  | (with_reducible refine ee_sl ?_)
  | (with_reducible refine eo_none ?_)
  | (with_reducible refine eo_some ?_)
  | (with_reducible refine et_test ?_)
  | (with_reducible refine et_not ?_)
  | (with_reducible refine et_B ?_)
  | (with_reducible refine et_and ?_)
  | (with_reducible refine et_or ?_)
  | (with_reducible refine et_yes ?_)
  | (with_reducible refine ee_andV ?_)
  | (with_reducible refine ee_orV ?_)
  | (with_reducible refine ee_notV ?_)
  | (with_reducible refine ee_if ?_)
  | (with_reducible refine ee_chain ?_)
  | (with_reducible refine oo_add ?_)
  | (with_reducible refine oo_lt ?_)
  | (with_reducible refine oo_le ?_)
  | (with_reducible refine oo_leS ?_)
  | (with_reducible refine oo_ltS ?_)
  | (with_reducible refine oo_I0 ?_)
  | (with_reducible refine cc_int ?_)
  | (with_reducible refine cc_max ?_)
  | (with_reducible refine cc_min ?_)
  | (with_reducible refine uu_neg ?_)
  | (refine oo_eq (by rfl) ?_)
  | (refine oo_ne (by rfl) ?_)
  | (with_reducible refine oo_isN ?_)
  | (with_reducible refine oo_notN ?_)
  | (refine cc_isP (by first | rfl | assumption) ?_)
  | (refine cc_isP2 (by first | rfl | assumption) ?_)
  | (refine cc_isP3 (by first | rfl | assumption) ?_)
  | (with_reducible refine ge_name ?_)
  | (refine gw_name (by decide) ?_)
  | (refine ee_tup ?_)
  | (refine ⟨_, rfl, ?_⟩)
  | (refine ⟨_, _, rfl, ?_⟩)
  | (refine ⟨(rfl : yes = yes), ?_⟩)
  | (refine ⟨Nat.le_of_ble_eq_true rfl, ?_⟩)
  | (refine ⟨fun _ => ?_, fun h => absurd (show true = false from h) (by decide)⟩)
  | (refine ⟨fun h => absurd (show false = true from h) (by decide), fun _ => ?_⟩)
  | (refine ⟨fun _ => ?_, fun h => absurd (show false = true from h) (by decide)⟩)
  | (refine ⟨fun h => absurd (show true = false from h) (by decide), fun _ => ?_⟩))
local macro_rules | `(tactic| walk_at "pp") => `(tactic| repeat walk_at "p1")
local macro_rules | `(tactic| walk_at "p0") => `(tactic| try dsimp only [cxOf])
local macro_rules | `(tactic| walk_at "gp") => `(tactic| dsimp only)
/-! ### the purse -/
def PuOk (n : Nat) (l : List D) : Prop := ∃ p0 p1 p2 p3 : Int, l = [.int p0, .int p1, .int p2, .int p3] ∧ 0 ≤ p1 ∧ p1 < 2147483648 ∧ 0 ≤ p2 ∧ p2 ≤ n ∧ 0 ≤ p3 ∧ p3 ≤ 1000
theorem PuOk.cl {n : Nat} {l : List D} (h : PuOk n l) : D.ltL 0 l = true := by
  obtain ⟨p0, p1, p2, p3, rfl, _⟩ := h
  rfl
theorem mulW {i j : Int} (a b : Nat) (h1 : i.natAbs < 2 ^ a) (h2 : j.natAbs < 2 ^ b) (h0 : 0 < a := by decide) (h3 : 0 < b := by decide) (h : a + b ≤ 1000000 := by decide) : CMulW i j := wide_mul h1 h2 h0 h3 h
abbrev spMixed (K : PySem.W.Frag) : Sp := ProP K (T := Int × Int × Int) (fun t => [.int t.1, .int t.2.1, .int t.2.2]) (fun t => 0 ≤ t.1 ∧ t.1 < 2147483648 ∧ 0 ≤ t.2.1 ∧ t.2.1 < 1000000003 ∧ 0 ≤ t.2.2 ∧ t.2.2 ≤ 1000) (fun _ d => ∃ v : Int, d = .int v ∧ 0 ≤ v ∧ v < 2147483648) (fun _ _ _ => False)
abbrev st__law_mixed : Stmt := top 39
abbrev nm__law_mixed : List Str := ["seed", "spin", "at", "mixed"]
theorem sc__law_mixed : FnScope nm__law_mixed ["seed", "spin", "at"] (defScope st__law_mixed) := ⟨rfl, rfl, rfl, by decide +kernel, rfl, by decide +kernel, by decide +kernel⟩
theorem ok_mixed {P : Program} {w : World} {K : PySem.W.Frag} {mg : Str → Option Value} {base : Heap} {a : Ad} {f : Addr} {fd : FuncData} (F : Fun K "_law_mixed" "_law_mixed" st__law_mixed f fd) (T : Tx P w K mg base a) : FnOk P w K mg base (L2.CX P w) 1 f fd ["seed", "spin", "at"] (spMixed K) := by
  refine F.okX sc__law_mixed (fun vs H Q E h => pro_len h fun _ => rfl) (fun cdv A outer s H vs Q E hr h => ⟨_, (pss_cons (ps_set (i := 3) sc__law_mixed.nd rfl (by first | exact Or.inl rfl | exact Or.inr rfl) (pe_op (kO K rPlus rfl op_plus) (pe_op op_timesU (pv 0) pe_int) (pe_op op_timesU (pe_op op_timesU pe_int (pv 1)) (pv 1))))
    (pss_cons (ps_set (i := 3) sc__law_mixed.nd rfl (by first | exact Or.inl rfl | exact Or.inr rfl) (pe_op op_mod (pe_callTy call_int1 (by rfl) T.b_int (by decide +kernel) (pa_cons (pe_op (kO K rPlus rfl op_plus) (pe_op (kO K rPlus rfl op_plus) (pv 3) (pe_op op_timesU pe_int (pv 2))) (pv 1)) pa_nil)) pe_int))
    (pss_cons (ps_set (i := 3) sc__law_mixed.nd rfl (by first | exact Or.inl rfl | exact Or.inr rfl) (pe_op op_mod (pe_callTy call_int1 (by rfl) T.b_int (by decide +kernel) (pa_cons (pe_op (kO K rPlus rfl op_plus) (pe_op op_timesU (pv 3) (pv 3)) pe_int) pa_nil)) pe_int))
    (pss_one (ps_ret (pe_op op_mod (pe_callTy call_int1 (by rfl) T.b_int (by decide +kernel) (pa_cons (pe_op op_timesU (pv 3) pe_int) pa_nil)) pe_int)))))), run_body h fun ⟨s, n, at'⟩ S ⟨h1, h2, h3, h4, h5, h6⟩ hl hcl wi => ?_⟩)
  dsimp only at h1 h2 h3 h4 h5 h6
  walk_at "p0"
  have m1 : 0 ≤ n * n ∧ n * n ≤ 1000000003 * 1000000003 := ⟨Int.mul_nonneg h3 h3, Int.mul_le_mul (by omega) (by omega) h3 (by omega)⟩
  walk_at "pp"
  refine oo_mul (mulW 32 40 (by omega) (by decide)) ?_
  walk_at "pp"
  refine oo_mul (mulW 40 32 (by decide) (by omega)) ?_
  walk_at "pp"
  refine oo_mul (mulW 70 32 (by omega) (by omega)) ?_
  walk_at "pp"
  refine oo_mul (mulW 40 32 (by decide) (by omega)) ?_
  walk_at "pp"
  refine oo_mod (by decide) ?_
  walk_at "pp"
  have b1 := Int.emod_nonneg (s * 69069 + 104729 * n * n + 7919 * at' + n) (show (2147483647 : Int) ≠ 0 by decide)
  have b2 := Int.emod_lt_of_pos (s * 69069 + 104729 * n * n + 7919 * at' + n) (show (0 : Int) < 2147483647 by decide)
  refine oo_mul (mulW 32 32 (by omega) (by omega)) ?_
  walk_at "pp"
  refine oo_mod (by decide) ?_
  walk_at "pp"
  generalize (s * 69069 + 104729 * n * n + 7919 * at' + n) % 2147483647 = z
  have b3 := Int.emod_nonneg (z * z + 40503) (show (2147483629 : Int) ≠ 0 by decide)
  have b4 := Int.emod_lt_of_pos (z * z + 40503) (show (0 : Int) < 2147483629 by decide)
  refine oo_mul (mulW 32 32 (by omega) (by omega)) ?_
  walk_at "pp"
  refine oo_mod (by decide) ?_
  walk_at "pp"
  have b5 := Int.emod_nonneg ((z * z + 40503) % 2147483629 * 48271) (show (2147483587 : Int) ≠ 0 by decide)
  have b6 := Int.emod_lt_of_pos ((z * z + 40503) % 2147483629 * 48271) (show (0 : Int) < 2147483587 by decide)
  walk_at "gp"
  refine gaveP hl (by rfl) ?_
  exact ⟨_, rfl, b5, by omega⟩
theorem bits_le {m : Int} (h0 : 0 < m) (h : m ≤ 1000000) : Builtin.Int.intBits m ≤ 27 := by
  have h1 : m.natAbs.log2 < 27 := by
    rw [Nat.log2_lt (by omega)]
    have : (1000000 : Nat) < 2 ^ 27 := by decide
    omega
  unfold Builtin.Int.intBits
  split <;> omega
abbrev spDraw (K : PySem.W.Frag) : Sp := Pro K (T := List D × Int × Nat) (fun t => [.lst t.1]) (fun t => [.own 0, .int t.2.1]) (fun t => PuOk t.2.2 t.1 ∧ 0 < t.2.1 ∧ t.2.1 ≤ 1000000 ∧ t.2.2 ≤ 1000000000)
  (fun t d μ => ∃ (v : Int) (l' : List D), d = .int v ∧ 0 ≤ v ∧ v < t.2.1 ∧ μ = [.lst l'] ∧ PuOk (t.2.2 + 1) l') (fun _ _ _ _ => False)
abbrev st__law_draw : Stmt := top 40
abbrev nm__law_draw : List Str := ["purse", "many", "drawn", "found", "piece"]
theorem sc__law_draw : FnScope nm__law_draw ["purse", "many"] (defScope st__law_draw) := ⟨rfl, rfl, rfl, by decide +kernel, rfl, by decide +kernel, by decide +kernel⟩
theorem ok_draw {P : Program} {w : World} {K : PySem.W.Frag} {mg : Str → Option Value} {base : Heap} {a : Ad} {f : Addr} {fd : FuncData} (F : Fun K "_law_draw" "_law_draw" st__law_draw f fd) (T : Tx P w K mg base a)
    (c__law_mixed : CalX P w K mg base 1 "_law_mixed" ["seed", "spin", "at"] (spMixed K)) : FnOk P w K mg base (L2.CX P w) 2 f fd ["purse", "many"] (spDraw K) := by
  refine F.okX sc__law_draw (fun vs H Q E h => pro_len h fun _ => rfl) (fun cdv A outer s H vs Q E hr h => ⟨_, (pss_cons (ps_if (pt_cmpR op_gt (pe_ix (kX K rIx rfl ix_seq) (pv 0) pe_int (fun _ _ => rfl)) pe_int (nomark _)) (pss_cons (ps_set (i := 2) sc__law_draw.nd rfl (by first | exact Or.inl rfl | exact Or.inr rfl) (pe_op op_mod (pe_callTy call_int1 (by rfl) T.b_int (by decide +kernel) (pa_cons (pe_ix (kX K rIx rfl ix_seq) (pv 0) pe_int (fun _ _ => rfl)) pa_nil)) (pv 1)))
    (pss_cons (ps_asg (pe_op op_fdivW (pe_ix (kX K rIx rfl ix_seq) (pv 0) pe_int (fun _ _ => rfl)) (pv 1)) (pg_sub (pv 0) pe_int pset_list))
    (pss_one (ps_ret (pv 2))))) pss_nil)
    (pss_cons (ps_set (i := 3) sc__law_draw.nd rfl (by first | exact Or.inl rfl | exact Or.inr rfl) pe_int)
    (pss_cons (ps_for (passes_of rfl) rfl (pi_range1 rfl T.b_range (pa_cons (pe_op (kO K rPlus rfl op_plus) pe_int (pe_op op_fdivW (pe_bits (pv 1)) pe_int)) pa_nil)) (pg_name (i := 4) sc__law_draw.nd rfl (by first | exact Or.inl rfl | exact Or.inr rfl))
      (pss_cons (ps_asg (pe_op (kO K rPlus rfl op_plus) (pe_ix (kX K rIx rfl ix_seq) (pv 0) pe_int (fun _ _ => rfl)) pe_int) (pg_sub (pv 0) pe_int pset_list))
    (pss_one (ps_set (i := 3) sc__law_draw.nd rfl (by first | exact Or.inl rfl | exact Or.inr rfl) (pe_op (kO K rPlus rfl op_plus) (pe_op op_timesU (pv 3) pe_int) (pe_c c__law_mixed hr (by first | decide | exact Nat.le_refl _) rfl (passes_call (takes_of rfl rfl rfl rfl) (fun _ _ _ _ h => h)) (pa_cons (pe_ix (kX K rIx rfl ix_seq) (pv 0) pe_int (fun _ _ => rfl)) (pa_cons (pe_ix (kX K rIx rfl ix_seq) (pv 0) pe_int (fun _ _ => rfl)) (pa_cons (pe_ix (kX K rIx rfl ix_seq) (pv 0) pe_int (fun _ _ => rfl)) pa_nil)))))))))
    (pss_one (ps_ret (pe_op op_mod (pe_callTy call_int1 (by rfl) T.b_int (by decide +kernel) (pa_cons (pv 3) pa_nil)) (pv 1))))))), run_body h fun ⟨l, m, n⟩ S ⟨⟨p0, p1, p2, p3, el, h1, h2, h3, h4, h5, h6⟩, hm0, hm1, hn⟩ hl hcl wi => ?_⟩)
  dsimp only at el hm0 hm1 hn h1 h2 h3 h4 h5 h6
  subst el
  have hS : S.A.length = 1 := hl
  walk_at "p0"
  have q : ∀ {d : D} {μ : List Cell} {C : D → List Cell → Prop} {l : List D} {i : Int}, μ[0]? = some (.lst l) → atI l i = some d → C d μ → OO K S (rIx K) (.own 0) (.int i) μ C := fun h1 h2 h3 => oo_ixO h1 h2 h3
  walk_at "pp"
  refine q rfl rfl ?_
  walk_at "pp"
  refine ⟨fun hb => ?_, fun hb => ?_⟩
  · walk_at "pp"
    refine q rfl rfl ?_
    walk_at "pp"
    refine oo_mod hm0 ?_
    walk_at "pp"
    refine se_asgG ?_
    walk_at "pp"
    refine q rfl rfl ?_
    walk_at "pp"
    refine oo_div (wide_div hm0 (b := 40) (by omega) (by decide) (by decide)) ?_
    refine ge_setL ?_
    walk_at "pp"
    refine ⟨0, 0, 0, _, rfl, rfl, rfl, rfl, ?_⟩
    walk_at "pp"
    walk_at "gp"
    refine gave1 hS (by rfl) (by rfl) ?_
    exact ⟨p0 % m, _, rfl, Int.emod_nonneg _ (by omega), Int.emod_lt_of_pos _ hm0, rfl, ⟨p0 / m, p1, p2, p3, rfl, h1, h2, h3, by omega, h5, h6⟩⟩
  · walk_at "pp"
    refine se_for (ie_rng1 ?_)
    walk_at "pp"
    refine ee_bits ?_
    walk_at "pp"
    refine oo_div (wide_div (by decide) (b := 40) (by decide) (by decide) (by decide)) ?_
    walk_at "pp"
    have hbit := bits_le hm0 hm1
    have e1 : (1 + ((Builtin.Int.intBits m : Nat) : Int) / 28) = 1 := by omega
    refine ⟨by rw [e1]; decide, by rw [e1]; decide, ?_⟩
    rw [e1]
    refine ⟨rfl, fun i δ μ => ∃ (fo : Int) (o : Option D) (l' : List D), δ = [some (.own 0), some (.int m), none, some (.int fo), o] ∧ μ = [.lst l'] ∧ 0 ≤ fo ∧ (i = 0 → fo = 0) ∧ PuOk (n + i) l', ⟨0, none, _, rfl, rfl, by decide, fun _ => rfl, ⟨p0, p1, p2, p3, rfl, h1, h2, h3, by omega, h5, h6⟩⟩, ?_, ?_⟩
    · rintro i x δ μ hi ⟨fo, o, l', rfl, rfl, f0, f1, ⟨p0, p1, p2, p3, rfl, h1, h2, h3, h4, h5, h6⟩⟩
      have hi0 : i = 0 := by
        have := (List.getElem?_eq_some_iff.mp hi).1
        have hl1 : (rng 0 (1 : Int).toNat).length = 1 := rfl
        omega
      subst hi0
      have fo0 := f1 rfl
      subst fo0
      walk_at "pp"
      refine se_asgG ?_
      walk_at "pp"
      refine q rfl rfl ?_
      walk_at "pp"
      refine ge_setL ?_
      walk_at "pp"
      refine ⟨0, 2, 2, _, rfl, rfl, rfl, rfl, ?_⟩
      walk_at "pp"
      refine oo_mul (mulW 32 40 (by decide) (by decide)) ?_
      walk_at "pp"
      refine ee_cz ?_
      walk_at "pp"
      refine q rfl rfl ?_
      walk_at "pp"
      refine q rfl rfl ?_
      walk_at "pp"
      refine q rfl rfl ?_
      walk_at "pp"
      refine ⟨(p1, p2 + 1, p3), ⟨h1, h2, by show 0 ≤ p2 + 1; omega, by show p2 + 1 < _; omega, h5, h6⟩, rfl, rfl, ?_⟩
      rintro r ⟨v, rfl, v0, v1⟩
      walk_at "pp"
      exact ⟨_, _, _, rfl, rfl, by omega, fun z => by omega, ⟨p0, p1, p2 + 1, p3, rfl, h1, h2, by omega, by omega, h5, h6⟩⟩
    · rintro δ μ ⟨fo, o, l', rfl, rfl, f0, f1, hp⟩
      walk_at "pp"
      refine oo_mod hm0 ?_
      walk_at "pp"
      walk_at "gp"
      refine gave1 hS (by rfl) hp.cl ?_
      exact ⟨fo % m, _, rfl, Int.emod_nonneg _ (by omega), Int.emod_lt_of_pos _ hm0, rfl, hp⟩


def isTp (n : Nat) : D → Bool
  | .tup l => decide (l.length = n)
  | _ => false
def isCell : D → Bool
  | .v (.int i) => decide (0 ≤ i) && decide (i < 64)
  | _ => false
section
variable {P : Program} {w : World} {K : PySem.W.Frag} {mg : Str → Option Value} {base : Heap} {a : Ad} {f : Addr} {fd : FuncData}
abbrev spOf (K : PySem.W.Frag) (pre : D → Prop) (g : D → D) : Sp := ProP K (T := D) (fun d => [d]) pre (fun d r => r = g d) (fun _ _ _ => False)
abbrev st_is_whole : Stmt := top 16
abbrev nm_is_whole : List Str := ["value"]
theorem sc_is_whole : FnScope nm_is_whole ["value"] (defScope st_is_whole) := ⟨rfl, rfl, rfl, by decide +kernel, rfl, by decide +kernel, by decide +kernel⟩
theorem ok_is_whole (F : Fun K "is_whole" "is_whole" st_is_whole f fd) (T : Tx P w K mg base a) : FnOk P w K mg base (L2.CX P w) 1 f fd ["value"] (spOf K (fun d => d.pl = true) fun d => .bl (isWh d)) := by
  refine F.okX sc_is_whole (fun vs H Q E h => pro_len h fun _ => rfl) (fun cdv A outer s H vs Q E hr h => ⟨_, (pss_one (ps_ret (pe_and (pe_callB (kC K rIsiU rfl call_isU) (by rfl) T.b_isinstance (by decide +kernel) (pa_cons (pv 0) (pa_cons (pe_bltn (v := .ty "int") (by rfl) T.b_int (by decide +kernel) rfl) pa_nil))) (pe_one (pe_not (pe_callB (kC K rIsiU rfl call_isU) (by rfl) T.b_isinstance (by decide +kernel) (pa_cons (pv 0) (pa_cons (pe_bltn (v := .ty "bool") (by rfl) T.b_bool (by decide +kernel) rfl) pa_nil)))))))), run_body h fun d S hp hl hcl wi => ?_⟩)
  have hp : d.pl = true := hp
  walk_at "pp"
  refine ⟨fun hb => ?_, fun hb => ?_⟩
  · walk_at "pp"
    walk_at "gp"
    refine gaveP hl (by rfl) ?_
    show D.bl _ = D.bl (isWh d)
    rw [← is_wh hp, hb]
    rfl
  · walk_at "gp"
    refine gaveP hl (by rfl) ?_
    show D.bl _ = D.bl (isWh d)
    rw [← is_wh hp, hb]
    rfl
abbrev st_is_tuple_of : Stmt := top 18
abbrev nm_is_tuple_of : List Str := ["value", "size"]
theorem sc_is_tuple_of : FnScope nm_is_tuple_of ["value", "size"] (defScope st_is_tuple_of) := ⟨rfl, rfl, rfl, by decide +kernel, rfl, by decide +kernel, by decide +kernel⟩
theorem ok_is_tuple_of (F : Fun K "is_tuple_of" "is_tuple_of" st_is_tuple_of f fd) (T : Tx P w K mg base a) : FnOk P w K mg base (L2.CX P w) 1 f fd ["value", "size"] (ProP K (T := D × Nat) (fun t => [t.1, .int (t.2 : Int)]) (fun t => t.1.pl = true) (fun t r => r = .bl (isTp t.2 t.1)) (fun _ _ _ => False)) := by
  refine F.okX sc_is_tuple_of (fun vs H Q E h => pro_len h fun _ => rfl) (fun cdv A outer s H vs Q E hr h => ⟨_, (pss_one (ps_ret (pe_and (pe_callB (kC K rIsiU rfl call_isU) (by rfl) T.b_isinstance (by decide +kernel) (pa_cons (pv 0) (pa_cons (pe_bltn (v := .ty "tuple") (by rfl) T.b_tuple (by decide +kernel) rfl) pa_nil))) (pe_one (pe_cmpR (kO K rEqU rfl (op_eqU (hu64 hr))) (pe_callB (kC K rLenU rfl call_lenU) (by rfl) T.b_len (by decide +kernel) (pa_cons (pv 0) pa_nil)) (pv 1) (nomark _)))))), run_body h fun ⟨d, n⟩ S hp hl hcl wi => ?_⟩)
  have hp : d.pl = true := hp
  have hl : S.A.length = 0 := hl
  walk_at "pp"
  refine ⟨fun hb => ?_, fun hb => ?_⟩
  · obtain ⟨l, rfl⟩ := is_tup hp hb
    walk_at "pp"
    refine cc_len (.tup _) ?_
    walk_at "pp"
    walk_at "gp"
    refine gaveP hl (by rfl) ?_
    show D.bl _ = D.bl (decide (l.length = n))
    exact congrArg D.bl (decide_eq_decide.mpr ⟨fun h => by injection h with h; omega, fun h => by rw [h]⟩)
  · walk_at "gp"
    refine gaveP hl (by rfl) ?_
    cases d with
    | tup l => revert hb; simp [D.is, D.ty]
    | _ => rfl
abbrev st_is_cell : Stmt := top 21
abbrev nm_is_cell : List Str := ["value"]
theorem sc_is_cell : FnScope nm_is_cell ["value"] (defScope st_is_cell) := ⟨rfl, rfl, rfl, by decide +kernel, rfl, by decide +kernel, by decide +kernel⟩
theorem ok_is_cell (F : Fun K "is_cell" "is_cell" st_is_cell f fd) (T : Tx P w K mg base a) (c_is_whole : CalX P w K mg base 1 "is_whole" ["value"] (spOf K (fun d => d.pl = true) fun d => .bl (isWh d))) : FnOk P w K mg base (L2.CX P w) 2 f fd ["value"] (spOf K (fun d => d.pl = true) fun d => .bl (isCell d)) := by
  refine F.okX sc_is_cell (fun vs H Q E h => pro_len h fun _ => rfl) (fun cdv A outer s H vs Q E hr h => ⟨_, (pss_one (ps_ret (pe_and (pe_c c_is_whole hr (by first | decide | exact Nat.le_refl _) rfl (passes_call (takes_of rfl rfl rfl rfl) (fun _ _ _ _ h => h)) (pa_cons (pv 0) pa_nil)) (pe_one (pe_chain op_leq op_less pe_int (pv 0) pe_int))))), run_body h fun d S hp hl hcl wi => ?_⟩)
  have hp : d.pl = true := hp
  have hl : S.A.length = 0 := hl
  have hd0 : D.ltL 0 [d] = true := by rw [hl] at hcl; exact hcl
  walk_at "pp"
  refine ee_cz ?_
  walk_at "pp"
  refine ⟨d, hp, rfl, hd0, ?_⟩
  rintro r rfl
  refine ⟨_, rfl, fun hb => ?_, fun hb => ?_⟩
  · obtain ⟨i, rfl⟩ := wh_int hb
    walk_at "pp"
    refine ⟨fun h1 => ?_, fun h1 => ?_⟩
    · walk_at "gp"
      refine gaveP hl (by rfl) ?_
      show D.bl false = D.bl (decide (0 ≤ i) && decide (i < 64))
      rw [h1]
      rfl
    · walk_at "pp"
      walk_at "gp"
      refine gaveP hl (by rfl) ?_
      show D.bl _ = D.bl (decide (0 ≤ i) && decide (i < 64))
      rw [h1]
      rfl
  · walk_at "gp"
    refine gaveP hl (by rfl) ?_
    cases d with
    | v x => cases x <;> first | rfl | cases hb
    | _ => rfl
abbrev spCheck (K : PySem.W.Frag) (pre : D → Prop) (g : D → Bool) (c : Addr) : Sp := ProP K (T := D) (fun d => [d]) pre (fun d r => r = .non ∧ g d = true) (fun d c' v => g d = false ∧ c' = c ∧ v = d)
def isCtN (m : Nat) : D → Bool
  | .v (.int i) => decide ((m : Int) ≤ i)
  | _ => false
def isInN (n : Nat) : D → Bool
  | .v (.int i) => decide (0 ≤ i) && decide (i < (n : Int))
  | _ => false
def Cl (d : D) : Prop := d.pl = true ∧ d.lt 0 = true
abbrev spCount (K : PySem.W.Frag) : Sp := ProP K (T := D × Nat) (fun t => [t.1, .int (t.2 : Int)]) (fun t => Cl t.1) (fun t r => r = .bl (isCtN t.2 t.1)) (fun _ _ _ => False)
theorem notWh {d : D} (h : isWh d = false) : (∀ m, isCtN m d = false) ∧ ∀ n, isInN n d = false := by
  cases d with
  | v x => cases x <;> first | exact ⟨fun _ => rfl, fun _ => rfl⟩ | cases h
  | _ => exact ⟨fun _ => rfl, fun _ => rfl⟩
theorem ct_in {n : Nat} {i : Int} (h : isCtN 0 (.int i) = true) : isInN n (.int i) = decide (i < (n : Int)) := by
  show (decide (0 ≤ i) && decide (i < (n : Int))) = _
  rw [show decide (0 ≤ i) = true from h]
  rfl
theorem not_ct {n : Nat} {d : D} (h : isCtN 0 d = false) : isInN n d = false := by
  cases d with
  | v x =>
    cases x with
    | int i =>
      show (decide (0 ≤ i) && decide (i < (n : Int))) = _
      rw [show decide (0 ≤ i) = false from h]
      rfl
    | _ => rfl
  | _ => rfl
theorem ct_int {m : Nat} {d : D} (h : isCtN m d = true) : ∃ i : Int, d = .int i := by
  cases d with
  | v x => cases x <;> first | exact ⟨_, rfl⟩ | cases h
  | _ => cases h
abbrev st_is_count : Stmt := top 17
abbrev nm_is_count : List Str := ["value", "least"]
theorem sc_is_count : FnScope nm_is_count ["value", "least"] (defScope st_is_count) := ⟨rfl, rfl, rfl, by decide +kernel, rfl, by decide +kernel, by decide +kernel⟩
theorem ok_is_count (F : FunD K "is_count" "is_count" (defArgs st_is_count) (defBody st_is_count) (defScope st_is_count) [.int 0] [] f fd) (T : Tx P w K mg base a) (c_is_whole : CalX P w K mg base 1 "is_whole" ["value"] (spOf K (fun d => d.pl = true) fun d => .bl (isWh d))) : FnOk P w K mg base (L2.CX P w) 2 f fd ["value", "least"] (spCount K) := by
  refine F.ok sc_is_count (fun vs H Q E h => pro_len h fun _ => rfl) (fun cdv A outer s H vs Q E hr h => ⟨_, (pss_one (ps_ret (pe_and (pe_c c_is_whole hr (by first | decide | exact Nat.le_refl _) rfl (passes_call (takes_of rfl rfl rfl rfl) (fun _ _ _ _ h => h)) (pa_cons (pv 0) pa_nil)) (pe_one (pe_cmpR op_ge (pv 0) (pe_callB (call_max2 rfl) (by rfl) T.b_max (by decide +kernel) (pa_cons (pv 1) (pa_cons pe_int pa_nil))) (nomark _)))))), run_body h fun ⟨d, n⟩ S ⟨hp, h0⟩ hl hcl wi => ?_⟩)
  have hl : S.A.length = 0 := hl
  have hp : d.pl = true := hp
  have h0 : d.lt 0 = true := h0
  walk_at "pp"
  refine ee_cz ?_
  walk_at "pp"
  refine ⟨d, hp, rfl, by show (d.lt 0 && true) = true; rw [h0]; rfl, ?_⟩
  rintro r rfl
  refine ⟨_, rfl, fun hb => ?_, fun hb => ?_⟩
  · obtain ⟨i, rfl⟩ := wh_int hb
    walk_at "pp"
    walk_at "gp"
    refine gaveP hl (by rfl) ?_
    show D.bl _ = D.bl (decide ((n : Int) ≤ i))
    congr 2
  · walk_at "gp"
    refine gaveP hl (by rfl) ?_
    show D.bl _ = D.bl _
    rw [(notWh hb).1]
abbrev spChk (K : PySem.W.Frag) (g : D → Bool) (c : Addr) : Sp := spCheck K Cl g c
abbrev st_check_width : Stmt := top 25
abbrev nm_check_width : List Str := ["value"]
theorem sc_check_width : FnScope nm_check_width ["value"] (defScope st_check_width) := ⟨rfl, rfl, rfl, by decide +kernel, rfl, by decide +kernel, by decide +kernel⟩
theorem ok_check_width (F : Fun K "check_width" "check_width" st_check_width f fd) (T : Tx P w K mg base a) (c_is_count : CalX P w K mg base 2 "is_count" ["value", "least"] (spCount K)) : FnOk P w K mg base (L2.CX P w) 3 f fd ["value"] (spChk K (isCtN 1) a.eInvalidWidth) := by
  refine F.okX sc_check_width (fun vs H Q E h => pro_len h fun _ => rfl) (fun cdv A outer s H vs Q E hr h => ⟨_, (pss_one (ps_if (pt_not (pt_val (pe_c c_is_count hr (by first | decide | exact Nat.le_refl _) rfl (passes_call (takes_of rfl rfl rfl rfl) (fun _ _ _ _ h => h)) (pa_cons (pv 0) (pa_cons pe_int pa_nil))))) (pss_one (ps_raiseC rfl T.e_InvalidWidth hr (by decide) (takes_of rfl rfl rfl rfl) rfl (pa_cons (pv 0) pa_nil))) pss_nil)), run_body h fun d S ⟨hp, h0⟩ hl hcl wi => ?_⟩)
  have hl : S.A.length = 0 := hl
  have hp : d.pl = true := hp
  have h0 : d.lt 0 = true := h0
  walk_at "pp"
  refine ee_cz ?_
  walk_at "pp"
  refine ⟨(d, 1), ⟨hp, h0⟩, rfl, by show (d.lt 0 && (true && true)) = true; rw [h0]; rfl, ?_⟩
  rintro r rfl
  walk_at "pp"
  refine ⟨fun hb => ?_, fun hb => ?_⟩
  · refine se_raise wi ?_
    walk_at "pp"
    exact ⟨by rw [hl]; exact h0, by rw [hl]; rfl, by simpa using hb, rfl, rfl⟩
  · walk_at "pp"
    walk_at "gp"
    exact gaveP hl (by rfl) ⟨rfl, by simpa using hb⟩
theorem ct_one {d : D} (h : isCtN 1 d = true) : ∃ k : Nat, d = .int (k : Int) ∧ 0 < k := by
  obtain ⟨i, rfl⟩ := ct_int h
  have h : (1 : Int) ≤ i := of_decide_eq_true (show decide (((1 : Nat) : Int) ≤ i) = true from h)
  exact ⟨i.toNat, by rw [Int.toNat_of_nonneg (by omega)], by omega⟩
def isCells : D → Bool
  | .lst l => l.all isCell
  | _ => false
def CsPre (d : D) : Prop := Cl d ∧ ∀ l, d = .lst l → l.length ≤ 1000000 ∧ ∀ x ∈ l, x.pl = true
abbrev st_is_cells : Stmt := top 22
abbrev nm_is_cells : List Str := ["value", "cell"]
theorem sc_is_cells : FnScope nm_is_cells ["value"] (defScope st_is_cells) := ⟨rfl, rfl, rfl, by decide +kernel, rfl, by decide +kernel, by decide +kernel⟩
theorem ok_is_cells (F : Fun K "is_cells" "is_cells" st_is_cells f fd) (T : Tx P w K mg base a) (c_is_cell : CalX P w K mg base 2 "is_cell" ["value"] (spOf K (fun d => d.pl = true) fun d => .bl (isCell d))) : FnOk P w K mg base (L2.CX P w) 3 f fd ["value"] (spOf K CsPre fun d => .bl (isCells d)) := by
  refine F.okX sc_is_cells (fun vs H Q E h => pro_len h fun _ => rfl) (fun cdv A outer s H vs Q E hr h => ⟨_, (pss_one (ps_ret (pe_and (pe_callB (kC K rIsiU rfl call_isU) (by rfl) T.b_isinstance (by decide +kernel) (pa_cons (pv 0) (pa_cons (pe_bltn (v := .ty "list") (by rfl) T.b_list (by decide +kernel) rfl) pa_nil))) (pe_one (pe_callB (kC K rAll rfl (cr_all rfl)) (by rfl) T.b_all (by decide +kernel) (pa_cons (pe_lc (own := [("cell", 1)]) (tt := tYes) (g := (gName 1)) rfl sc_is_cells.nd (pi_listK (K := K) rfl (pv 0)) (blkOk_by (own := [("cell", 1)]) (N := nm_is_cells) (sc := (defScope st_is_cells)) (by decide +kernel)) (fun _ _ _ _ _ => (pg_name (i := 1) sc_is_cells.nd rfl (by first | exact Or.inl rfl | exact Or.inr rfl))) (fun _ _ _ _ _ => pts_nil) (fun _ _ _ _ _ => (pe_c c_is_cell hr (by first | decide | exact Nat.le_refl _) rfl passL (pa_cons (pv 1) pa_nil)))) pa_nil)))))), run_body h fun d S ⟨⟨hp, h0⟩, hin⟩ hl hcl wi => ?_⟩)
  have hl : S.A.length = 0 := hl
  have hp : d.pl = true := hp
  have h0 : d.lt 0 = true := h0
  walk_at "pp"
  refine ⟨fun hb => ?_, fun hb => ?_⟩
  · obtain ⟨l, rfl⟩ := is_lst hp hb
    obtain ⟨hz, hpl⟩ := hin l rfl
    have hcl0 : ∀ x ∈ l, x.lt 0 = true := D.ltL_all.mp (show D.ltL 0 l = true from h0)
    walk_at "pp"
    refine ee_lc (ie_list ?_)
    walk_at "pp"
    refine ⟨l, .inl rfl, fun _ h => h, trivial, fun _ => true, fun x => .bl (isCell x), by omega, fun _ _ _ => rfl, fun x acc hx => ?_, ?_⟩
    · refine gw_name (by decide) ?_
      refine et_yes ?_
      refine ⟨rfl, rfl, fun _ => ?_⟩
      refine ee_cz ?_
      walk_at "pp"
      refine ⟨x, hpl x hx, rfl, by show (x.lt 0 && true) = true; rw [hcl0 x hx]; rfl, ?_⟩
      rintro r rfl
      exact ⟨rfl, rfl⟩
    rw [show ((l.filter fun _ => true).map fun x => D.bl (isCell x)) = (l.map isCell).map D.bl by
      rw [List.filter_eq_self.mpr fun _ _ => rfl, List.map_map]
      rfl]
    walk_at "pp"
    refine cc_all (.lst _) ?_
    rw [show (l.map isCell).all id = l.all isCell by rw [List.all_map]; rfl]
    walk_at "gp"
    exact gaveP hl (by rfl) rfl
  · walk_at "gp"
    refine gaveP hl (by rfl) ?_
    cases d with
    | lst l => revert hb; simp [D.is, D.ty]
    | _ => rfl
abbrev st_check_cells : Stmt := top 23
abbrev nm_check_cells : List Str := ["value"]
theorem sc_check_cells : FnScope nm_check_cells ["value"] (defScope st_check_cells) := ⟨rfl, rfl, rfl, by decide +kernel, rfl, by decide +kernel, by decide +kernel⟩
theorem ok_check_cells (F : Fun K "check_cells" "check_cells" st_check_cells f fd) (T : Tx P w K mg base a) (c_is_cells : CalX P w K mg base 3 "is_cells" ["value"] (spOf K CsPre fun d => .bl (isCells d))) : FnOk P w K mg base (L2.CX P w) 4 f fd ["value"] (spCheck K CsPre isCells a.eInvalidCells) := by
  refine F.okX sc_check_cells (fun vs H Q E h => pro_len h fun _ => rfl) (fun cdv A outer s H vs Q E hr h => ⟨_, (pss_one (ps_if (pt_not (pt_val (pe_c c_is_cells hr (by first | decide | exact Nat.le_refl _) rfl (passes_call (takes_of rfl rfl rfl rfl) (fun _ _ _ _ h => h)) (pa_cons (pv 0) pa_nil)))) (pss_one (ps_raiseC rfl T.e_InvalidCells hr (by decide) (takes_of rfl rfl rfl rfl) rfl (pa_cons (pv 0) pa_nil))) pss_nil)), run_body h fun d S hp hl hcl wi => ?_⟩)
  have hl : S.A.length = 0 := hl
  have hd0 : D.ltL 0 [d] = true := by rw [hl] at hcl; exact hcl
  walk_at "pp"
  refine ee_cz ?_
  walk_at "pp"
  refine ⟨d, hp, rfl, hd0, ?_⟩
  rintro r rfl
  walk_at "pp"
  refine ⟨fun hb => ?_, fun hb => ?_⟩
  · refine se_raise wi ?_
    walk_at "pp"
    refine ⟨by rw [hl]; exact (Bool.and_eq_true_iff.mp hd0).1, by rw [hl]; rfl, by simpa using hb, rfl, rfl⟩
  · walk_at "pp"
    walk_at "gp"
    exact gaveP hl (by rfl) ⟨rfl, by simpa using hb⟩
def optB : Option Nat → D
  | some n => .int (n : Int)
  | none => .non
def belB : Option Nat → D → Bool
  | some n, .v (.int i) => decide (i < (n : Int))
  | none, _ => true
  | _, _ => false
def inB (lo : Nat) (hi : Option Nat) (d : D) : Bool := isCtN lo d && belB hi d
abbrev spCheckCount (K : PySem.W.Frag) (a : Ad) : Sp := ProP K (T := D × Nat × Option Nat) (fun t => [t.1, .int (t.2.1 : Int), optB t.2.2]) (fun t => Cl t.1) (fun t r => r = .non ∧ inB t.2.1 t.2.2 t.1 = true) (fun t c v => inB t.2.1 t.2.2 t.1 = false ∧ c = a.eInvalidCount ∧ v = t.1)
abbrev st_check_count : Stmt := top 19
abbrev nm_check_count : List Str := ["value", "least", "below"]
theorem sc_check_count : FnScope nm_check_count ["value", "least", "below"] (defScope st_check_count) := ⟨rfl, rfl, rfl, by decide +kernel, rfl, by decide +kernel, by decide +kernel⟩
theorem ok_check_count (F : FunD K "check_count" "check_count" (defArgs st_check_count) (defBody st_check_count) (defScope st_check_count) [.int 0, .non] [] f fd) (T : Tx P w K mg base a) (c_is_count : CalX P w K mg base 2 "is_count" ["value", "least"] (spCount K)) : FnOk P w K mg base (L2.CX P w) 3 f fd ["value", "least", "below"] (spCheckCount K a) := by
  refine F.ok sc_check_count (fun vs H Q E h => pro_len h fun _ => rfl) (fun cdv A outer s H vs Q E hr h => ⟨_, (pss_one (ps_if (PW.pt (pw_or (pt_not (pt_val (pe_c c_is_count hr (by first | decide | exact Nat.le_refl _) rfl (passes_call (takes_of rfl rfl rfl rfl) (fun _ _ _ _ h => h)) (pa_cons (pv 0) (pa_cons (pv 1) pa_nil))))) (pw_or1 (PW.pt (pw_and (pt_cmpR op_notN (pv 2) pe_non (nomark _)) (pw_and1 (pt_cmpR op_ge (pv 0) (pv 2) (nomark _)))))))) (pss_one (ps_raiseC rfl T.e_InvalidCount hr (by decide) (takes_of rfl rfl rfl rfl) rfl (pa_cons (pv 0) pa_nil))) pss_nil)), run_body h fun ⟨d, lo, hi⟩ S ⟨hp, h0⟩ hl hcl wi => ?_⟩)
  have hl : S.A.length = 0 := hl
  have hp : d.pl = true := hp
  have h0 : d.lt 0 = true := h0
  walk_at "pp"
  refine ee_cz ?_
  walk_at "pp"
  refine ⟨(d, lo), ⟨hp, h0⟩, rfl, by show (d.lt 0 && (true && true)) = true; rw [h0]; rfl, ?_⟩
  rintro r rfl
  walk_at "pp"
  refine ⟨fun hb => ?_, fun hb => ?_⟩
  · have hb : isCtN lo d = false := by simpa using hb
    refine ⟨fun _ => ?_, fun z => by cases z⟩
    refine se_raise wi ?_
    walk_at "pp"
    exact ⟨by rw [hl]; exact h0, by rw [hl]; rfl, by show (isCtN lo d && _) = false; rw [hb]; rfl, rfl, rfl⟩
  · have hb : isCtN lo d = true := by simpa using hb
    obtain ⟨i, rfl⟩ := ct_int hb
    cases hi with
    | none =>
      walk_at "pp"
      walk_at "gp"
      exact gaveP hl (by rfl) ⟨rfl, by show (isCtN lo (.int i) && _) = true; rw [hb]; rfl⟩
    | some n =>
      walk_at "pp"
      show OO K S _ (.int i) (.int (n : Int)) _ _
      walk_at "pp"
      refine ⟨fun hc => ?_, fun hc => ?_⟩
      · refine se_raise wi ?_
        walk_at "pp"
        have hc : (n : Int) ≤ i := of_decide_eq_true hc
        refine ⟨by rw [hl]; exact h0, by rw [hl]; rfl, ?_, rfl, rfl⟩
        show (isCtN lo (.int i) && decide (i < (n : Int))) = false
        rw [decide_eq_false (by omega), Bool.and_false]
      · have hc : ¬ (n : Int) ≤ i := of_decide_eq_false hc
        walk_at "pp"
        walk_at "gp"
        refine gaveP hl (by rfl) ⟨rfl, ?_⟩
        show (isCtN lo (.int i) && decide (i < (n : Int))) = true
        rw [hb, decide_eq_true (by omega)]
        rfl
end


section
variable {P : Program} {w : World} {K : PySem.W.Frag} {mg : Str → Option Value} {base : Heap} {a : Ad} {f : Addr} {fd : FuncData}
abbrev intD (i : Nat) : D := .int (i : Int)
def IntB (c : D) : Prop := (∃ i : Int, c = .int i) ∨ ∃ b : Bool, c = .bl b
theorem IntB.pl {c : D} (h : IntB c) : c.pl = true := by
  rcases h with ⟨i, rfl⟩ | ⟨b, rfl⟩ <;> rfl
theorem IntB.cl {c : D} (h : IntB c) : c.lt 0 = true := by
  rcases h with ⟨i, rfl⟩ | ⟨b, rfl⟩ <;> rfl
theorem intb_py : ∀ {l : List D}, (∀ c ∈ l, IntB c) → ∃ ps, D.pyAll l = some ps ∧ PySem.PyData.canLayAll0 ps = true ∧ PySem.PyData.depthAll ps = 0 ∧ ps.isEmpty = l.isEmpty
  | [], _ => ⟨[], rfl, rfl, rfl, rfl⟩
  | c :: l, h => by
    obtain ⟨ps, h1, h2, h3, _⟩ := intb_py (l := l) fun x hx => h x (List.mem_cons_of_mem _ hx)
    rcases h c List.mem_cons_self with ⟨i, rfl⟩ | ⟨b, rfl⟩
    · refine ⟨.int i :: ps, ?_, ?_, ?_, rfl⟩
      · show (match D.py (.int i), D.pyAll l with | some p, some ps => some (p :: ps) | _, _ => none) = _
        rw [h1]
        rfl
      · show (true && _) = true
        rw [h2]
        rfl
      · show max 0 _ = 0
        rw [h3]
        rfl
    · refine ⟨.bool b :: ps, ?_, ?_, ?_, rfl⟩
      · show (match D.py (.bl b), D.pyAll l with | some p, some ps => some (p :: ps) | _, _ => none) = _
        rw [h1]
        rfl
      · show (true && _) = true
        rw [h2]
        rfl
      · show max 0 _ = 0
        rw [h3]
        rfl
theorem cells_cl {l : List D} (h : ∀ c ∈ l, ∃ i : Int, c = .int i ∧ 0 ≤ i ∧ i < 64) {n : Nat} : D.ltL n l = true := D.ltL_all.mpr fun x hx => by
  obtain ⟨i, rfl, _⟩ := h x hx
  rfl
end


/-! ### windows, plainly: z i: cell i is empty; n cells; w wide -/
section
variable (z : Nat → Bool) (n w : Nat)
def baseK (i : Nat) : Bool := decide (i = 0) || (z (i - 1) || z i)
def stK : Nat → Nat
  | 0 => 0
  | i + 1 => if (!z (i + 1) && z i) = true then i + 1 else stK i
def enF : Nat → Nat → Nat
  | 0, f => f
  | k + 1, f => if f < n ∧ z f = false then enF k (f + 1) else f
def enK (f : Nat) : Nat := enF z n (n - f) f
def kd (i : Nat) : Nat := if z i = false ∧ w < enK z n (stK z i) - stK z i then (if (i - stK z i) % w = 0 then 2 else 0) else (if baseK z i = true then 1 else 0)
def frK : Nat → Nat
  | 0 => 0
  | a + 1 => if n ≤ a ∨ z a = true then a + 1 else frK a
/-- the kinds as the lib has them when it stands at a -/
def kdAt (a i : Nat) : Nat := if i < frK z n a then kd z n w i else (if baseK z i = true then 1 else 0)
def kk (i : Nat) : Nat := if i < n then kd z n w i else 1
def downK : Nat → Nat
  | 0 => 0
  | j + 1 => if 0 < kk z n w (j + 1) then j + 1 else downK j
def topK (a : Nat) : Nat := min (a + w) n
def stopK (a : Nat) : Nat := ((List.range' (a + 1) (topK n w a - a)).find? fun j => decide (kk z n w j = 2)).getD (topK n w a)
def winK (a : Nat) : Nat := downK z n w (stopK z n w a)
end
section
variable {z : Nat → Bool} {n w : Nat}
theorem enF_eq : ∀ (k f e : Nat), e - f ≤ k → f ≤ e → (∀ j, f ≤ j → j < e → j < n ∧ z j = false) → ¬ (e < n ∧ z e = false) → enF z n k f = e
  | 0, f, e, hk, hf, _, _ => by
    show f = e
    omega
  | k + 1, f, e, hk, hf, h1, h2 => by
    show (if f < n ∧ z f = false then enF z n k (f + 1) else f) = e
    by_cases he : f = e
    · subst he
      rw [if_neg h2]
    · rw [if_pos (h1 f (Nat.le_refl _) (by omega))]
      exact enF_eq k (f + 1) e (by omega) (by omega) (fun j hj1 hj2 => h1 j (by omega) hj2) h2
theorem enK_eq {f e : Nat} (hf : f ≤ e) (he : e ≤ n) (h1 : ∀ j, f ≤ j → j < e → j < n ∧ z j = false) (h2 : ¬ (e < n ∧ z e = false)) : enK z n f = e := enF_eq _ f e (by omega) hf h1 h2
/-- the law's way to the end -/
theorem enF_le : ∀ (k f : Nat), f ≤ enF z n k f
  | 0, f => Nat.le_refl _
  | k + 1, f => by
    show f ≤ if f < n ∧ z f = false then enF z n k (f + 1) else f
    split
    · have := enF_le k (f + 1)
      omega
    · exact Nat.le_refl _
theorem enK_step {f : Nat} : enK z n f = if f < n ∧ z f = false then enK z n (f + 1) else f := by
  by_cases h : f < n
  · show enF z n (n - f) f = _
    rw [show n - f = (n - (f + 1)) + 1 by omega]
    rfl
  · rw [if_neg (fun q => h q.1)]
    show enF z n (n - f) f = f
    rw [show n - f = 0 by omega]
    rfl
theorem fr_facts : ∀ a, a ≤ n → frK z n a ≤ a ∧ (∀ j, frK z n a ≤ j → j < a → z j = false) ∧ (frK z n a = 0 ∨ z (frK z n a - 1) = true)
  | 0, _ => ⟨Nat.le_refl _, fun j _ hj => absurd hj (Nat.not_lt_zero j), .inl rfl⟩
  | a + 1, ha => by
    obtain ⟨h1, h2, h3⟩ := fr_facts a (by omega)
    show (if n ≤ a ∨ z a = true then a + 1 else frK z n a) ≤ a + 1 ∧ (∀ j, (if n ≤ a ∨ z a = true then a + 1 else frK z n a) ≤ j → j < a + 1 → z j = false) ∧ ((if n ≤ a ∨ z a = true then a + 1 else frK z n a) = 0 ∨ z ((if n ≤ a ∨ z a = true then a + 1 else frK z n a) - 1) = true)
    by_cases h : z a = true
    · rw [if_pos (.inr h)]
      exact ⟨Nat.le_refl _, fun j q1 q2 => by omega, .inr h⟩
    · have hz : z a = false := by cases q : z a with
        | false => rfl
        | true => exact absurd q h
      rw [if_neg (by rintro (q | q); omega; exact h q)]
      refine ⟨by omega, fun j q1 q2 => ?_, h3⟩
      by_cases e : j = a
      · rw [e]
        exact hz
      · exact h2 j q1 (by omega)
theorem st_fr {a : Nat} (ha : a ≤ n) : ∀ i, frK z n a ≤ i → i < a → stK z i = frK z n a
  | 0, h1, h2 => by
    show 0 = _
    omega
  | i + 1, h1, h2 => by
    obtain ⟨q1, q2, q3⟩ := fr_facts (z := z) a ha
    show (if (!z (i + 1) && z i) = true then i + 1 else stK z i) = _
    have hz : z (i + 1) = false := q2 (i + 1) h1 h2
    by_cases e : frK z n a = i + 1
    · rcases q3 with q3 | q3
      · omega
      · rw [e, Nat.add_sub_cancel] at q3
        rw [hz, q3, if_pos (show (!false && true) = true from rfl), e]
    · have hzi : z i = false := q2 i (by omega) (by omega)
      rw [hz, hzi, if_neg (by decide)]
      exact st_fr ha i (by omega) (by omega)
/-- a step of the lib's -/
theorem kdAt_in {a i : Nat} (ha : a ≤ n) (hs : n ≤ a ∨ z a = true) (h1 : frK z n a ≤ i) (h2 : i < a) : kd z n w i = if w < a - frK z n a then (if (i - frK z n a) % w = 0 then 2 else 0) else (if baseK z i = true then 1 else 0) := by
  obtain ⟨q1, q2, q3⟩ := fr_facts (z := z) a ha
  have e1 := st_fr ha i h1 h2
  have e2 : enK z n (frK z n a) = a := enK_eq q1 ha (fun j j1 j2 => ⟨by omega, q2 j j1 j2⟩) (by
    rintro ⟨p1, p2⟩
    rcases hs with hs | hs
    · omega
    · rw [hs] at p2
      cases p2)
  unfold kd
  rw [e1, e2]
  by_cases h : w < a - frK z n a
  · rw [if_pos ⟨q2 i h1 h2, h⟩, if_pos h]
  · rw [if_neg (fun q => h q.2), if_neg h]
theorem kd_zero {i : Nat} (h : z i = true) : kd z n w i = 1 := by
  unfold kd baseK
  rw [if_neg (fun q => by rw [h] at q; cases q.1), h]
  simp
theorem kdAt_0 {i : Nat} : kdAt z n w 0 i = if baseK z i = true then 1 else 0 := if_neg (Nat.not_lt_zero i)
theorem kdAt_skip {a i : Nat} (hs : ¬ (n ≤ a ∨ z a = true)) : kdAt z n w (a + 1) i = kdAt z n w a i := by
  unfold kdAt
  rw [show frK z n (a + 1) = frK z n a from if_neg hs]
theorem kdAt_step {a i : Nat} (ha : a ≤ n) (hi : i < n) (hs : n ≤ a ∨ z a = true) : kdAt z n w (a + 1) i = if frK z n a ≤ i ∧ i < a ∧ w < a - frK z n a then (if (i - frK z n a) % w = 0 then 2 else 0) else kdAt z n w a i := by
  unfold kdAt
  rw [show frK z n (a + 1) = a + 1 from if_pos hs]
  by_cases h1 : i < frK z n a
  · have := (fr_facts (z := z) a ha).1
    rw [if_pos (by omega), if_neg (by omega), if_pos h1]
  · by_cases h2 : i < a
    · rw [if_pos (by omega), kdAt_in ha hs (by omega) h2, if_neg h1]
      by_cases h3 : w < a - frK z n a
      · rw [if_pos h3, if_pos (show frK z n a ≤ i ∧ i < a ∧ w < a - frK z n a from ⟨by omega, h2, h3⟩)]
      · rw [if_neg h3, if_neg (show ¬ (frK z n a ≤ i ∧ i < a ∧ w < a - frK z n a) from fun q => h3 q.2.2)]
    · rw [if_neg (show ¬ (frK z n a ≤ i ∧ i < a ∧ w < a - frK z n a) from fun q => h2 q.2.1), if_neg h1]
      by_cases h3 : i = a
      · subst h3
        have hz : z i = true := by
          rcases hs with hs | hs
          · omega
          · exact hs
        rw [if_pos (Nat.lt_succ_self _), kd_zero hz]
        unfold baseK
        rw [hz]
        simp
      · rw [if_neg (by omega)]
theorem kdAt_end {i : Nat} (hi : i < n) : kdAt z n w (n + 1) i = kd z n w i := by
  unfold kdAt
  rw [show frK z n (n + 1) = n + 1 from if_pos (.inl (Nat.le_refl _)), if_pos (by omega)]
/-- a part point lies behind each one, near enough -/
theorem word_of : ∀ i, z i = false → ∃ f, f ≤ i ∧ stK z i = f ∧ (∀ j, f ≤ j → j ≤ i → z j = false) ∧ (f = 0 ∨ z (f - 1) = true)
  | 0, h => ⟨0, Nat.le_refl _, rfl, fun j _ h2 => by rw [Nat.le_zero.mp h2]; exact h, .inl rfl⟩
  | i + 1, h => by
    have e : stK z (i + 1) = if (!z (i + 1) && z i) = true then i + 1 else stK z i := rfl
    cases hz : z i with
    | true =>
      rw [h, hz, if_pos (show (!false && true) = true from rfl)] at e
      exact ⟨i + 1, Nat.le_refl _, e, fun j h1 h2 => by rw [show j = i + 1 by omega]; exact h, .inr hz⟩
    | false =>
      rw [h, hz, if_neg (by decide)] at e
      obtain ⟨f, h1, h2, h3, h4⟩ := word_of i hz
      refine ⟨f, by omega, by rw [e, h2], fun j j1 j2 => ?_, h4⟩
      by_cases q : j = i + 1
      · rw [q]
        exact h
      · exact h3 j j1 (by omega)
theorem run_end : ∀ (k f : Nat), n - f ≤ k → f ≤ n → ∃ e, f ≤ e ∧ e ≤ n ∧ (∀ j, f ≤ j → j < e → z j = false) ∧ ¬ (e < n ∧ z e = false)
  | 0, f, hk, hf => ⟨f, Nat.le_refl _, hf, fun j h1 h2 => absurd h2 (by omega), fun q => by omega⟩
  | k + 1, f, hk, hf => by
    by_cases h : f < n ∧ z f = false
    · obtain ⟨e, h1, h2, h3, h4⟩ := run_end k (f + 1) (by omega) (by omega)
      refine ⟨e, by omega, h2, fun j j1 j2 => ?_, h4⟩
      by_cases q : j = f
      · rw [q]
        exact h.2
      · exact h3 j (by omega) j2
    · exact ⟨f, Nat.le_refl _, hf, fun j h1 h2 => absurd h2 (by omega), h⟩
theorem next_part (hw : 0 < w) {a : Nat} (ha : a < n) (hk : 0 < kk z n w a) : ∃ j, a < j ∧ j ≤ topK n w a ∧ 0 < kk z n w j := by
  unfold topK
  by_cases hn : n ≤ a + w
  · refine ⟨n, ha, by omega, ?_⟩
    unfold kk
    rw [if_neg (Nat.lt_irrefl _)]
    exact Nat.zero_lt_one
  have kkl : ∀ {j}, j < n → kk z n w j = kd z n w j := fun h => if_pos h
  rw [kkl ha] at hk
  cases hz : z a with
  | true =>
    refine ⟨a + 1, Nat.lt_succ_self _, by omega, ?_⟩
    rw [kkl (by omega)]
    cases hz1 : z (a + 1) with
    | true =>
      rw [kd_zero hz1]
      exact Nat.zero_lt_one
    | false =>
      unfold kd
      have e : stK z (a + 1) = a + 1 := by
        show (if (!z (a + 1) && z a) = true then a + 1 else stK z a) = a + 1
        rw [hz, hz1, if_pos (show (!false && true) = true from rfl)]
      rw [e, Nat.sub_self, Nat.zero_mod]
      split
      · rw [if_pos rfl]
        decide
      · unfold baseK
        rw [Nat.add_sub_cancel, hz]
        simp
  | false =>
    obtain ⟨f, f1, f2, f3, f4⟩ := word_of a hz
    obtain ⟨e, e1, e2, e3, e4⟩ := run_end (z := z) (n := n) n a (by omega) (by omega)
    have ee : enK z n f = e := enK_eq (by omega) e2 (fun j j1 j2 => ⟨by omega, by
      by_cases q : j ≤ a
      · exact f3 j j1 q
      · exact e3 j (by omega) j2⟩) e4
    have hae : a < e := by
      by_cases q : a = e
      · subst q
        exact absurd ⟨ha, hz⟩ e4
      · omega
    by_cases hl : w < e - f
    · have hm : (a - f) % w = 0 := by
        unfold kd at hk
        rw [f2, ee, if_pos ⟨hz, hl⟩] at hk
        by_cases q : (a - f) % w = 0
        · exact q
        · rw [if_neg q] at hk
          exact absurd hk (Nat.lt_irrefl _)
      by_cases hq : a + w < e
      · refine ⟨a + w, by omega, by omega, ?_⟩
        rw [kkl (by omega)]
        have hz2 : z (a + w) = false := e3 (a + w) (by omega) hq
        obtain ⟨g, g1, g2, g3, g4⟩ := word_of (a + w) hz2
        have hgf : g = f := by
          by_cases q : g < f
          · rcases f4 with f4 | f4
            · omega
            · have := g3 (f - 1) (by omega) (by omega)
              rw [this] at f4
              cases f4
          · by_cases q2 : f < g
            · rcases g4 with g4 | g4
              · omega
              · have : z (g - 1) = false := by
                  by_cases q3 : g - 1 ≤ a
                  · exact f3 (g - 1) (by omega) q3
                  · exact e3 (g - 1) (by omega) (by omega)
                rw [this] at g4
                cases g4
            · omega
        unfold kd
        rw [g2, hgf, ee, if_pos ⟨hz2, hl⟩, show a + w - f = (a - f) + w by omega, Nat.add_mod_right, hm, if_pos rfl]
        decide
      · refine ⟨e, hae, by omega, ?_⟩
        rw [kkl (by omega)]
        have : z e = true := by cases q : z e with
          | true => rfl
          | false => exact absurd ⟨by omega, q⟩ e4
        rw [kd_zero this]
        exact Nat.zero_lt_one
    · have haf : a = f := by
        unfold kd at hk
        rw [f2, ee, if_neg (fun q => hl q.2)] at hk
        by_cases q : a = f
        · exact q
        · have hb : baseK z a = false := by
            unfold baseK
            rw [f3 (a - 1) (by omega) (by omega), hz, decide_eq_false (by omega)]
            rfl
          rw [hb] at hk
          exact absurd hk (by decide)
      refine ⟨e, hae, by omega, ?_⟩
      rw [kkl (by omega)]
      have : z e = true := by cases q : z e with
        | true => rfl
        | false => exact absurd ⟨by omega, q⟩ e4
      rw [kd_zero this]
      exact Nat.zero_lt_one
theorem down_top : ∀ m, (∃ j, j ≤ m ∧ 0 < j ∧ 0 < kk z n w j) → 0 < kk z n w (downK z n w m) ∧ downK z n w m ≤ m ∧ ∀ j, 0 < j → j ≤ m → 0 < kk z n w j → j ≤ downK z n w m
  | 0, ⟨j, h1, h2, _⟩ => by omega
  | m + 1, ⟨j, h1, h2, h3⟩ => by
    show 0 < kk z n w (if 0 < kk z n w (m + 1) then m + 1 else downK z n w m) ∧ (if 0 < kk z n w (m + 1) then m + 1 else downK z n w m) ≤ m + 1 ∧ ∀ j, 0 < j → j ≤ m + 1 → 0 < kk z n w j → j ≤ if 0 < kk z n w (m + 1) then m + 1 else downK z n w m
    by_cases h : 0 < kk z n w (m + 1)
    · rw [if_pos h]
      exact ⟨h, Nat.le_refl _, fun j _ hj _ => hj⟩
    · rw [if_neg h]
      have hj : j ≤ m := by
        by_cases q : j = m + 1
        · subst q
          exact absurd h3 h
        · omega
      obtain ⟨q1, q2, q3⟩ := down_top m ⟨j, hj, h2, h3⟩
      refine ⟨q1, by omega, fun i i1 i2 i3 => ?_⟩
      by_cases q : i = m + 1
      · subst q
        exact absurd i3 h
      · exact q3 i i1 (by omega) i3
end


section
variable {z : Nat → Bool} {n w : Nat}
theorem rng_at {a m i : Nat} (hi : i < m) : (List.range' (a + 1) m)[i]'(by rw [List.length_range']; exact hi) = a + 1 + i := by
  rw [List.getElem_range']
  omega
theorem stop_some {a s : Nat} (h1 : a < s) (h2 : s ≤ topK n w a) (h3 : kk z n w s = 2) (h4 : ∀ j, a < j → j < s → kk z n w j ≠ 2) : stopK z n w a = s := by
  unfold stopK
  have e : (List.range' (a + 1) (topK n w a - a)).find? (fun j => decide (kk z n w j = 2)) = some s := by
    rw [List.find?_eq_some_iff_getElem]
    refine ⟨decide_eq_true h3, s - (a + 1), by rw [List.length_range']; omega, by rw [rng_at (by omega)]; omega, fun j hj => ?_⟩
    rw [rng_at (by omega), decide_eq_false (h4 _ (by omega) (by omega))]
    rfl
  rw [e]
  rfl
theorem stop_none {a : Nat} (h : ∀ j, a < j → j ≤ topK n w a → kk z n w j ≠ 2) : stopK z n w a = topK n w a := by
  unfold stopK
  have e : (List.range' (a + 1) (topK n w a - a)).find? (fun j => decide (kk z n w j = 2)) = none := by
    rw [List.find?_eq_none]
    intro x hx
    obtain ⟨i, hi, e⟩ := List.getElem_of_mem hx
    rw [List.length_range'] at hi
    rw [rng_at hi] at e
    rw [decide_eq_false (h x (by omega) (by omega))]
    exact Bool.false_ne_true
  rw [e]
  rfl
theorem stop_cases {a : Nat} (hs : topK n w a = topK n w a) : (∃ s, a < s ∧ s ≤ topK n w a ∧ kk z n w s = 2 ∧ (∀ j, a < j → j < s → kk z n w j ≠ 2)) ∨ ∀ j, a < j → j ≤ topK n w a → kk z n w j ≠ 2 := by
  have q : ∀ m, (∃ s, a < s ∧ s ≤ a + m ∧ kk z n w s = 2 ∧ (∀ j, a < j → j < s → kk z n w j ≠ 2)) ∨ ∀ j, a < j → j ≤ a + m → kk z n w j ≠ 2 := by
    intro m
    induction m with
    | zero => exact .inr fun j h1 h2 => by omega
    | succ m ih =>
      rcases ih with ⟨s, h1, h2, h3⟩ | h
      · exact .inl ⟨s, h1, by omega, h3⟩
      · by_cases e : kk z n w (a + m + 1) = 2
        · exact .inl ⟨a + m + 1, by omega, by omega, e, fun j h1 h2 => h j h1 (by omega)⟩
        · refine .inr fun j h1 h2 => ?_
          by_cases e2 : j = a + m + 1
          · rw [e2]
            exact e
          · exact h j h1 (by omega)
  rcases q (topK n w a - a) with ⟨s, h1, h2, h3⟩ | h
  · exact .inl ⟨s, h1, by omega, h3⟩
  · exact .inr fun j h1 h2 => h j h1 (by omega)
theorem stop_le {a : Nat} : stopK z n w a ≤ topK n w a := by
  rcases stop_cases (z := z) (n := n) (w := w) (a := a) rfl with ⟨s, h1, h2, h3, h4⟩ | h
  · rw [stop_some h1 h2 h3 h4]
    exact h2
  · rw [stop_none h]
    exact Nat.le_refl _
theorem stop_part (hw : 0 < w) {a : Nat} (ha : a < n) (hk : 0 < kk z n w a) : ∃ j, a < j ∧ j ≤ stopK z n w a ∧ 0 < kk z n w j := by
  rcases stop_cases (z := z) (n := n) (w := w) (a := a) rfl with ⟨s, h1, h2, h3, h4⟩ | h
  · exact ⟨s, h1, by rw [stop_some h1 h2 h3 h4]; exact Nat.le_refl _, by rw [h3]; decide⟩
  · rw [stop_none h]
    exact next_part hw ha hk
theorem win_ok (hw : 0 < w) {a : Nat} (ha : a < n) (hk : 0 < kk z n w a) : a < winK z n w a ∧ winK z n w a ≤ topK n w a ∧ 0 < kk z n w (winK z n w a) := by
  obtain ⟨j, h1, h2, h3⟩ := stop_part hw ha hk
  obtain ⟨q1, q2, q3⟩ := down_top (stopK z n w a) ⟨j, h2, by omega, h3⟩
  have := q3 j (by omega) h2 h3
  have := stop_le (z := z) (n := n) (w := w) (a := a)
  exact ⟨by unfold winK; omega, by unfold winK; omega, q1⟩
/-- the lib's last one, having looked at i of them -/
def lastL (z : Nat → Bool) (n w a : Nat) : Nat → Nat
  | 0 => a + 1
  | i + 1 => if 0 < kk z n w (a + 1 + i) then a + 1 + i else lastL z n w a i
theorem last_down {a : Nat} : ∀ i, (∃ j, a < j ∧ j ≤ a + i ∧ 0 < kk z n w j) → lastL z n w a i = downK z n w (a + i)
  | 0, ⟨j, h1, h2, _⟩ => by omega
  | i + 1, ⟨j, h1, h2, h3⟩ => by
    show (if 0 < kk z n w (a + 1 + i) then a + 1 + i else lastL z n w a i) = if 0 < kk z n w (a + i + 1) then a + i + 1 else downK z n w (a + i)
    rw [show a + 1 + i = a + i + 1 by omega]
    by_cases h : 0 < kk z n w (a + i + 1)
    · rw [if_pos h, if_pos h]
    · rw [if_neg h, if_neg h]
      refine last_down i ⟨j, h1, ?_, h3⟩
      by_cases e : j = a + i + 1
      · subst e
        exact absurd h3 h
      · omega
/-- the windows, one by one -/
def wN (z : Nat → Bool) (n w : Nat) : Nat → Nat × List (Nat × Nat)
  | 0 => (0, [])
  | j + 1 => if (wN z n w j).1 < n then (winK z n w (wN z n w j).1, (wN z n w j).2 ++ [((wN z n w j).1, winK z n w (wN z n w j).1)]) else wN z n w j
def wins (z : Nat → Bool) (n w : Nat) : List (Nat × Nat) := (wN z n w n).2
theorem wN_succ {j : Nat} (h : (wN z n w j).1 < n) : wN z n w (j + 1) = (winK z n w (wN z n w j).1, (wN z n w j).2 ++ [((wN z n w j).1, winK z n w (wN z n w j).1)]) := if_pos h
theorem kk_0 (hw : 0 < w) : 0 < kk z n w 0 := by
  unfold kk
  split
  · unfold kd
    split
    · rw [show stK z 0 = 0 from rfl, Nat.sub_self, Nat.zero_mod, if_pos rfl]
      decide
    · exact Nat.zero_lt_one
  · exact Nat.zero_lt_one
theorem wN_ok (hw : 0 < w) : ∀ j, 0 < kk z n w (wN z n w j).1 ∧ (wN z n w j).1 ≤ n ∧ min j n ≤ (wN z n w j).1 ∧ (wN z n w j).2.length ≤ j ∧ ∀ p ∈ (wN z n w j).2, p.1 < p.2 ∧ p.2 ≤ n
  | 0 => ⟨kk_0 hw, Nat.zero_le _, by show min 0 n ≤ 0; omega, Nat.le_refl _, fun p h => (by cases h)⟩
  | j + 1 => by
    obtain ⟨h1, h2, h3, h4, h5⟩ := wN_ok hw j
    by_cases h : (wN z n w j).1 < n
    · rw [wN_succ h]
      obtain ⟨q1, q2, q3⟩ := win_ok hw h h1
      have : topK n w (wN z n w j).1 ≤ n := by unfold topK; omega
      refine ⟨q3, by show winK z n w _ ≤ n; omega, by show min (j + 1) n ≤ winK z n w _; omega, by rw [List.length_append]; show _ + 1 ≤ j + 1; omega, fun p hp => ?_⟩
      rcases List.mem_append.mp hp with hp | hp
      · exact h5 p hp
      · rw [List.mem_singleton.mp hp]
        exact ⟨q1, by show winK z n w _ ≤ n; omega⟩
    · have e : wN z n w (j + 1) = wN z n w j := if_neg h
      rw [e]
      exact ⟨h1, h2, by omega, by omega, h5⟩
theorem wN_stay {j : Nat} (h : ¬ (wN z n w j).1 < n) : ∀ m, wN z n w (j + m) = wN z n w j
  | 0 => rfl
  | m + 1 => by
    show wN z n w (j + m + 1) = _
    have ih := wN_stay h m
    rw [show wN z n w (j + m + 1) = wN z n w (j + m) from if_neg (by rw [ih]; exact h), ih]
theorem wN_end (hw : 0 < w) {j : Nat} (hj : j ≤ n) (h : ¬ (wN z n w j).1 < n) : (wN z n w j).2 = wins z n w := by
  have := wN_stay h (n - j)
  rw [show j + (n - j) = n by omega] at this
  unfold wins
  rw [this]
theorem wN_lt (hw : 0 < w) {j : Nat} (hj : j ≤ n) (h : (wN z n w j).1 < n) : j < n := by
  have := (wN_ok (z := z) (n := n) hw j).2.2.1
  omega
end


section
variable {P : Program} {w : World} {K : PySem.W.Frag} {mg : Str → Option Value} {base : Heap} {a : Ad} {f : Addr} {fd : FuncData}
def dotN : D → Nat
  | .v (.int i) => i.toNat
  | _ => 0
def zc (l : List D) (i : Nat) : Bool := match l[i]? with
  | some (.v (.int j)) => decide (j = 0)
  | _ => false
def kL (g : Nat → Nat) (n : Nat) : List D := (List.range n).map fun i => D.int (g i : Int)
theorem kL_len {g : Nat → Nat} {n : Nat} : (kL g n).length = n := by unfold kL; rw [List.length_map, List.length_range]
theorem kL_at {g : Nat → Nat} {n i : Nat} (h : i < n) : (kL g n)[i]? = some (.int (g i : Int)) := by
  unfold kL
  rw [List.getElem?_map, List.getElem?_range h]
  rfl
theorem kL_cl {g : Nat → Nat} {n m : Nat} : D.ltL m (kL g n) = true := D.ltL_all.mpr fun x hx => by
  obtain ⟨i, _, rfl⟩ := List.mem_map.mp hx
  rfl
theorem kL_ext {g h : Nat → Nat} {n : Nat} (e : ∀ i, i < n → g i = h i) : kL g n = kL h n := List.map_congr_left fun i hi => by rw [e i (List.mem_range.mp hi)]
theorem kL_slice {g g' h : Nat → Nat} {n f i : Nat} (hf : f ≤ i) (hi : i ≤ n) (e1 : ∀ j, f ≤ j → j < i → g' j = h (j - f)) (e2 : ∀ j, j < f ∨ i ≤ j → j < n → g' j = g j) : (kL g n).take f ++ kL h (i - f) ++ (kL g n).drop i = kL g' n := by
  refine List.ext_getElem? fun j => ?_
  by_cases hj : j < n
  · rw [kL_at hj]
    by_cases h1 : j < f
    · rw [List.append_assoc, List.getElem?_append_left (by rw [List.length_take, kL_len]; omega), List.getElem?_take_of_lt h1, kL_at hj, e2 j (.inl h1) hj]
    · by_cases h2 : j < i
      · rw [List.getElem?_append_left (by rw [List.length_append, List.length_take, kL_len, kL_len]; omega), List.getElem?_append_right (by rw [List.length_take, kL_len]; omega), List.length_take, kL_len, Nat.min_eq_left (by omega), kL_at (by omega), e1 j (by omega) h2]
      · rw [List.getElem?_append_right (by rw [List.length_append, List.length_take, kL_len, kL_len]; omega), List.length_append, List.length_take, kL_len, kL_len, Nat.min_eq_left (by omega), List.getElem?_drop, show i + (j - (f + (i - f))) = j by omega, kL_at hj, e2 j (.inr (by omega)) hj]
  · rw [List.getElem?_eq_none (by rw [List.length_append, List.length_append, List.length_take, List.length_drop, kL_len, kL_len]; omega), List.getElem?_eq_none (by rw [kL_len]; omega)]
def CellL (l : List D) : Prop := l.length ≤ 1000000 ∧ ∀ c ∈ l, ∃ i : Int, c = .int i ∧ 0 ≤ i ∧ i < 64
theorem CellL.at {l : List D} (h : CellL l) {i : Nat} (hi : i < l.length) : ∃ j : Int, l[i]? = some (.int j) ∧ zc l i = decide (j = 0) := by
  obtain ⟨j, e, _⟩ := h.2 _ (List.getElem_mem hi)
  have e2 : l[i]? = some (.int j) := by rw [List.getElem?_eq_getElem hi, e]
  refine ⟨j, e2, ?_⟩
  unfold zc
  rw [e2]
theorem int_eq {i j : Int} : decide (V.int i = V.int j) = decide (i = j) := decide_eq_decide.mpr ⟨fun h => by injection h, fun h => by rw [h]⟩
theorem et_by {S : Bs} {δ : Sl} {μ : List Cell} {t : TT} {C : Bool → List Cell → Prop} (P : Prop) (h : ET K S t δ μ fun b μ2 => μ2 = μ ∧ (b = true ↔ P)) (k : ∀ b : Bool, (b = true ↔ P) → C b μ) : ET K S t δ μ C := fun A G H σ a Q q =>
  h A G H σ a Q fun b A1 G1 H1 μ1 m n ⟨e, hb⟩ => q b A1 G1 H1 μ1 m n (by rw [e]; exact k b hb)
abbrev spKinds (K : PySem.W.Frag) : Sp := ProN K (T := List D × Nat) (fun t => [.lst t.1, .int (t.2 : Int)]) (fun t => CellL t.1 ∧ 0 < t.2 ∧ t.2 ≤ 1000000) (fun t l => l = kL (kd (zc t.1) t.1.length t.2) t.1.length) (fun _ _ _ => False)
abbrev st_parting_kinds : Stmt := top 26
abbrev nm_parting_kinds : List Str := ["cells", "width", "kinds", "at", "first", "k"]
theorem sc_parting_kinds : FnScope nm_parting_kinds ["cells", "width"] (defScope st_parting_kinds) := ⟨rfl, rfl, rfl, by decide +kernel, rfl, by decide +kernel, by decide +kernel⟩
theorem ok_parting_kinds (F : Fun K "parting_kinds" "parting_kinds" st_parting_kinds f fd) (T : Tx P w K mg base a) : FnOk P w K mg base (L2.CX P w) 1 f fd ["cells", "width"] (spKinds K) := by
  refine F.okX sc_parting_kinds (fun vs H Q E h => pro_len h fun _ => rfl) (fun cdv A outer s H vs Q E hr h => ⟨_, (pss_cons (ps_setLc (i := 2) (own := [("at", 3)]) (tt := tYes) (g := (gName 3)) rfl sc_parting_kinds.nd rfl rfl (sw_true rfl rfl rfl (by decide +kernel)) (pi_range1 rfl T.b_range (pa_cons (pe_callB (kC K rLenU rfl call_lenU) (by rfl) T.b_len (by decide +kernel) (pa_cons (pv 0) pa_nil)) pa_nil)) (blkOk_by (own := [("at", 3)]) (N := nm_parting_kinds) (sc := (defScope st_parting_kinds)) (by decide +kernel)) (fun _ _ _ _ _ => (pg_name (i := 3) sc_parting_kinds.nd rfl (by first | exact Or.inl rfl | exact Or.inr rfl))) (fun _ _ _ _ _ => pts_nil) (fun _ _ _ _ _ => (pe_callTy call_int1 (by rfl) T.b_int (by decide +kernel) (pa_cons (pe_or (pe_cmpR (kO K rEqU rfl (op_eqU (hu64 hr))) (pv 3) pe_int (nomark _)) (pe_or (pe_cmpR (kO K rEqU rfl (op_eqU (hu64 hr))) (pe_ix (kX K rIx rfl ix_seq) (pv 0) (pe_op op_sub (pv 3) pe_int) (fun _ _ => rfl)) pe_int (nomark _)) (pe_one (pe_cmpR (kO K rEqU rfl (op_eqU (hu64 hr))) (pe_ix (kX K rIx rfl ix_seq) (pv 0) (pv 3) (fun _ _ => rfl)) pe_int (nomark _))))) pa_nil))))
    (pss_cons (ps_set (i := 4) sc_parting_kinds.nd rfl (by first | exact Or.inl rfl | exact Or.inr rfl) pe_int)
    (pss_cons (ps_for (passes_of rfl) rfl (pi_range1 rfl T.b_range (pa_cons (pe_op (kO K rPlus rfl op_plus) (pe_callB (kC K rLenU rfl call_lenU) (by rfl) T.b_len (by decide +kernel) (pa_cons (pv 0) pa_nil)) pe_int) pa_nil)) (pg_name (i := 3) sc_parting_kinds.nd rfl (by first | exact Or.inl rfl | exact Or.inr rfl))
      (pss_one (ps_if (PW.pt (pw_or (pt_cmpR (kO K rEqU rfl (op_eqU (hu64 hr))) (pv 3) (pe_callB (kC K rLenU rfl call_lenU) (by rfl) T.b_len (by decide +kernel) (pa_cons (pv 0) pa_nil)) (nomark _)) (pw_or1 (pt_cmpR (kO K rEqU rfl (op_eqU (hu64 hr))) (pe_ix (kX K rIx rfl ix_seq) (pv 0) (pv 3) (fun _ _ => rfl)) pe_int (nomark _))))) (pss_cons (ps_if (pt_cmpR op_gt (pe_op op_sub (pv 3) (pv 4)) (pv 1) (nomark _)) (pss_one (ps_asg (pe_lc (own := [("k", 5)]) (tt := tYes) (g := (gName 5)) rfl sc_parting_kinds.nd (pi_range1 rfl T.b_range (pa_cons (pe_op op_sub (pv 3) (pv 4)) pa_nil)) (blkOk_by (own := [("k", 5)]) (N := nm_parting_kinds) (sc := (defScope st_parting_kinds)) (by decide +kernel)) (fun _ _ _ _ _ => (pg_name (i := 5) sc_parting_kinds.nd rfl (by first | exact Or.inl rfl | exact Or.inr rfl))) (fun _ _ _ _ _ => pts_nil) (fun _ _ _ _ _ => (pe_op op_timesU pe_int (pe_callTy call_int1 (by rfl) T.b_int (by decide +kernel) (pa_cons (pe_cmpR (kO K rEqU rfl (op_eqU (hu64 hr))) (pe_op op_mod (pv 5) (pv 1)) pe_int (nomark _)) pa_nil))))) (pg_slS (pv 2) (pv 4) (pv 3)))) pss_nil)
    (pss_one (ps_set (i := 4) sc_parting_kinds.nd rfl (by first | exact Or.inl rfl | exact Or.inr rfl) (pe_op (kO K rPlus rfl op_plus) (pv 3) pe_int)))) pss_nil)))
    (pss_one (ps_ret (pv 2)))))), run_body h fun ⟨l, w⟩ S ⟨hc, h0, hw⟩ hl hcl wi => ?_⟩)
  have hl : S.A.length = 0 := hl
  have hc : CellL l := hc
  have h0 : 0 < w := h0
  have hz := hc.1
  generalize hz0 : zc l = z
  walk_at "pp"
  refine ee_lcN (ie_rng1 ?_)
  walk_at "pp"
  refine cc_len (.lst _) ?_
  walk_at "pp"
  have en : ((l.length : Nat) : Int).toNat = l.length := Int.toNat_natCast _
  have hz : l.length ≤ 1000000 := hz
  refine ⟨by show (-1000000000 : Int) ≤ (l.length : Int); omega, by show (l.length : Int) ≤ 1000000000; omega, ?_⟩
  show _ ∧ _ ∧ _
  rw [show ((((l, w).1.length : Nat) : Int)).toNat = l.length from Int.toNat_natCast _]
  refine ⟨fun _ h => h, trivial, fun _ => true, fun x => .int ((if baseK z (dotN x) = true then 1 else 0 : Nat) : Int), by rw [rng_len]; omega, fun x acc hx => ?_, ?_⟩
  · obtain ⟨i, hi⟩ := List.getElem?_of_mem hx
    obtain ⟨hi2, rfl⟩ := rng_get hi
    refine gw_name (by decide) ?_
    refine et_yes ?_
    refine ⟨rfl, rfl, fun _ => ?_⟩
    have fin : ∀ b : Bool, b = baseK z i → (if b = true then 1 else 0 : Int) = ((if baseK z (0 + (i : Int)).toNat = true then 1 else 0 : Nat) : Int) := fun b e => by
      rw [show (0 + (i : Int)).toNat = i by omega, ← e]
      cases b <;> rfl
    obtain ⟨c, hc1, hc2⟩ := hc.at hi2
    rw [hz0] at hc2
    walk_at "pp"
    rw [int_eq]
    refine ⟨fun h1 => ?_, fun h1 => ?_⟩
    · have h1 := of_decide_eq_true h1
      walk_at "pp"
      refine cc_intB ?_
      refine ⟨congrArg D.int (fin _ ?_), rfl⟩
      have : i = 0 := by omega
      subst this
      rfl
    · have h1 := of_decide_eq_false h1
      obtain ⟨c', hc1', hc2'⟩ := hc.at (i := i - 1) (by omega)
      rw [hz0] at hc2'
      walk_at "pp"
      refine oo_ixL (atI_of (j := i - 1) hc1' (by omega)) ?_
      walk_at "pp"
      rw [int_eq]
      refine ⟨fun h2 => ?_, fun h2 => ?_⟩
      · walk_at "pp"
        refine cc_intB ?_
        refine ⟨congrArg D.int (fin _ ?_), rfl⟩
        unfold baseK
        rw [hc2', h2]
        simp
      · walk_at "pp"
        refine oo_ixL (atI_of (j := i) hc1 (by omega)) ?_
        walk_at "pp"
        rw [int_eq]
        walk_at "pp"
        refine cc_intB ?_
        refine ⟨congrArg D.int (fin _ ?_), rfl⟩
        unfold baseK
        rw [hc2', h2, ← hc2, decide_eq_false (by omega)]
        rfl
  have ek : ((rng 0 l.length).filter fun _ => true).map (fun x => D.int ((if baseK z (dotN x) = true then 1 else 0 : Nat) : Int)) = kL (kdAt z l.length w 0) l.length := by
    rw [List.filter_eq_self.mpr fun _ _ => rfl]
    unfold rng kL
    rw [List.map_map]
    refine List.map_congr_left fun i _ => ?_
    show D.int ((if baseK z (0 + (i : Int)).toNat = true then 1 else 0 : Nat) : Int) = _
    rw [show (0 + (i : Int)).toNat = i by omega, kdAt_0]
  rw [ek]
  walk_at "pp"
  refine se_for (ie_rng1 ?_)
  walk_at "pp"
  refine cc_len (.lst _) ?_
  walk_at "pp"
  refine ⟨by show (-1000000000 : Int) ≤ (l.length : Int) + 1; omega, by show (l.length : Int) + 1 ≤ 1000000000; omega, ?_⟩
  show _ ∧ _
  rw [show ((((l, w).1.length : Nat) : Int) + 1).toNat = l.length + 1 by show ((l.length : Int) + 1).toNat = _; omega]
  refine ⟨rfl, fun i δ μ => ∃ (x3 x5 : Option D), δ = [some (.lst l), some (.int (w : Int)), some (.own 0), x3, some (.int ((frK z l.length i : Nat) : Int)), x5] ∧ μ = [.lst (kL (kdAt z l.length w i) l.length)], ⟨none, none, rfl, rfl⟩, ?_, ?_⟩
  · rintro i x δ μ hi ⟨x3, x5, rfl, rfl⟩
    obtain ⟨hi2, rfl⟩ := rng_get hi
    have hil : i ≤ l.length := by omega
    have hfr := fr_facts (z := z) (n := l.length) i hil
    refine ge_name ?_
    refine se_if (et_by (P := l.length ≤ i ∨ z i = true) ?_ fun b hb => ⟨fun h => ?_, fun h => ?_⟩)
    · walk_at "pp"
      refine cc_len (.lst _) ?_
      walk_at "pp"
      rw [int_eq]
      refine ⟨fun h1 => ?_, fun h1 => ?_⟩
      · have h1 := of_decide_eq_true h1
        exact ⟨rfl, fun _ => .inl (by show l.length ≤ i; have h1 : (0 + (i : Int)) = (l.length : Int) := h1; omega), fun _ => rfl⟩
      · have h1 : ¬ (0 + (i : Int)) = (l.length : Int) := of_decide_eq_false h1
        have hlt : i < l.length := by omega
        obtain ⟨c, hc1, hc2⟩ := hc.at hlt
        rw [hz0] at hc2
        walk_at "pp"
        refine oo_ixL (atI_of (j := i) hc1 (by omega)) ?_
        walk_at "pp"
        rw [int_eq, ← hc2]
        refine ⟨rfl, fun q => .inr q, fun q => ?_⟩
        rcases q with q | q
        · omega
        · exact q
    · have hs := hb.mp h
      refine se_seq (se_to (fun δ μ => ∃ x5, δ = [some (.lst l), some (.int (w : Int)), some (.own 0), some (.int (0 + (i : Int))), some (.int ((frK z l.length i : Nat) : Int)), x5] ∧ μ = [.lst (kL (kdAt z l.length w (i + 1)) l.length)]) ?_ ?_)
      · walk_at "pp"
        refine ⟨fun h2 => ?_, fun h2 => ?_⟩
        · have h2 := of_decide_eq_true h2
          refine se_asgG ?_
          refine ee_lc (ie_rng1 ?_)
          walk_at "pp"
          refine ⟨by omega, by omega, fun _ h => h, trivial, fun _ => true, fun x => .int ((if dotN x % w = 0 then 2 else 0 : Nat) : Int), by rw [rng_len]; omega, fun _ _ _ => rfl, fun x acc hx => ?_, ?_⟩
          · obtain ⟨k, hk⟩ := List.getElem?_of_mem hx
            obtain ⟨hk2, rfl⟩ := rng_get hk
            refine gw_name (by decide) ?_
            refine et_yes ?_
            refine ⟨rfl, rfl, fun _ => ?_⟩
            walk_at "pp"
            refine oo_mod (by omega) ?_
            walk_at "pp"
            refine cc_intB ?_
            walk_at "pp"
            refine oo_mul (mulW 3 3 (by decide) (by split <;> decide)) ?_
            refine ⟨congrArg D.int ?_, rfl⟩
            have ed : (decide (V.int ((0 + (k : Int)) % (w : Int)) = V.int 0)) = decide (k % w = 0) := by
              rw [int_eq, show (0 + (k : Int)) % (w : Int) = ((k % w : Nat) : Int) by rw [Int.zero_add]; exact (Int.natCast_emod k w).symm]
              exact decide_eq_decide.mpr ⟨fun h => by omega, fun h => by rw [h]; rfl⟩
            rw [ed]
            show (2 : Int) * _ = ((if (0 + (k : Int)).toNat % w = 0 then 2 else 0 : Nat) : Int)
            rw [show (0 + (k : Int)).toNat = k by omega]
            by_cases hm : k % w = 0
            · rw [decide_eq_true hm, if_pos hm]
              rfl
            · rw [decide_eq_false hm, if_neg hm]
              rfl
          · have em : (0 + (i : Int) - ((frK z l.length i : Nat) : Int)).toNat = i - frK z l.length i := by omega
            rw [em]
            have er : ((rng 0 (i - frK z l.length i)).filter fun _ => true).map (fun x => D.int ((if dotN x % w = 0 then 2 else 0 : Nat) : Int)) = kL (fun k => if k % w = 0 then 2 else 0) (i - frK z l.length i) := by
              rw [List.filter_eq_self.mpr fun _ _ => rfl]
              unfold rng kL
              rw [List.map_map]
              refine List.map_congr_left fun k _ => ?_
              show D.int ((if (0 + (k : Int)).toNat % w = 0 then 2 else 0 : Nat) : Int) = _
              rw [show (0 + (k : Int)).toNat = k by omega]
            rw [er]
            refine ge_slS ?_
            walk_at "pp"
            refine ⟨0, frK z l.length i, i, _, rfl, rfl, by rw [Int.zero_add], rfl, hfr.1, by rw [kL_len]; exact hil, by rw [kL_len, kL_len]; omega, ?_⟩
            refine ⟨x5, rfl, ?_⟩
            refine congrArg (fun q => [Cell.lst q]) (kL_slice hfr.1 hil (fun j j1 j2 => ?_) fun j j1 j2 => ?_)
            · rw [kdAt_step hil (by omega) hs, if_pos ⟨j1, j2, by omega⟩]
            · rw [kdAt_step hil j2 hs, if_neg (by omega)]
        · have h2 := of_decide_eq_false h2
          walk_at "pp"
          refine congrArg (fun q => [Cell.lst q]) (kL_ext fun j hj => ?_)
          rw [kdAt_step hil hj hs, if_neg (by omega)]
      · rintro δ μ ⟨x5, rfl, rfl⟩
        walk_at "pp"
        refine ⟨some (.int (0 + (i : Int))), x5, ?_, rfl⟩
        rw [show frK z l.length (i + 1) = i + 1 from if_pos hs, show (((i + 1 : Nat) : Int)) = 0 + (i : Int) + 1 by omega]
        rfl
    · have hs : ¬ (l.length ≤ i ∨ z i = true) := fun q => by rw [hb.mpr q] at h; cases h
      walk_at "pp"
      refine ⟨some (.int (0 + (i : Int))), x5, ?_, ?_⟩
      · rw [show frK z l.length (i + 1) = frK z l.length i from if_neg hs]
        rfl
      · exact congrArg (fun q => [Cell.lst q]) (kL_ext fun j hj => (kdAt_skip hs).symm)
  · rintro δ μ ⟨x3, x5, rfl, rfl⟩
    rw [rng_len]
    walk_at "pp"
    walk_at "gp"
    refine gaveN hl (k := 0) rfl kL_cl ?_
    exact kL_ext fun i hi => by rw [hz0]; exact kdAt_end hi
end


section
variable {P : Program} {w : World} {K : PySem.W.Frag} {mg : Str → Option Value} {base : Heap} {a : Ad} {f : Addr} {fd : FuncData}
def winD (p : Nat × Nat) : D := .tup [.int (p.1 : Int), .int (p.2 : Int)]
theorem wins_cl {l : List (Nat × Nat)} {m : Nat} : D.ltL m (l.map winD) = true := D.ltL_all.mpr fun x hx => by
  obtain ⟨i, _, rfl⟩ := List.mem_map.mp hx
  rfl
theorem kL_more {z : Nat → Bool} {n w : Nat} : kL (kd z n w) n ++ [.int 1] = kL (kk z n w) (n + 1) := by
  refine List.ext_getElem? fun i => ?_
  by_cases h : i < n
  · rw [List.getElem?_append_left (by rw [kL_len]; exact h), kL_at h, kL_at (by omega)]
    unfold kk
    rw [if_pos h]
  · by_cases h1 : i = n
    · subst h1
      rw [List.getElem?_append_right (by rw [kL_len]; omega), kL_len, Nat.sub_self, kL_at (Nat.lt_succ_self _)]
      unfold kk
      rw [if_neg h]
      rfl
    · rw [List.getElem?_eq_none (by rw [List.length_append, kL_len]; show n + 1 ≤ i; omega), List.getElem?_eq_none (by rw [kL_len]; omega)]
theorem winK_stop {z : Nat → Bool} {n w a s : Nat} (h1 : a < s) (h2 : s ≤ topK n w a) (h3 : kk z n w s = 2) (h4 : ∀ j, a < j → j < s → kk z n w j ≠ 2) : winK z n w a = s := by
  unfold winK
  rw [stop_some h1 h2 h3 h4]
  cases s with
  | zero => omega
  | succ s =>
    show (if 0 < kk z n w (s + 1) then s + 1 else downK z n w s) = s + 1
    rw [if_pos (by omega)]
theorem winK_none {z : Nat → Bool} {n w a : Nat} (hw : 0 < w) (ha : a < n) (hk : 0 < kk z n w a) (h : ∀ j, a < j → j ≤ topK n w a → kk z n w j ≠ 2) : winK z n w a = lastL z n w a (topK n w a - a) := by
  have ht : a ≤ topK n w a := by unfold topK; omega
  obtain ⟨j, h1, h2, h3⟩ := next_part hw ha hk
  rw [last_down _ ⟨j, h1, by omega, h3⟩, show a + (topK n w a - a) = topK n w a by omega]
  unfold winK
  rw [stop_none h]
abbrev spWins (K : PySem.W.Frag) : Sp := ProN K (T := List D × Nat) (fun t => [.lst t.1, .int (t.2 : Int)]) (fun t => CellL t.1 ∧ 0 < t.2 ∧ t.2 ≤ 1000000) (fun t l => l = (wins (zc t.1) t.1.length t.2).map winD) (fun _ _ _ => False)
abbrev st_windows_made : Stmt := top 27
abbrev nm_windows_made : List Str := ["cells", "width", "kinds", "found", "at", "last", "late"]
theorem sc_windows_made : FnScope nm_windows_made ["cells", "width"] (defScope st_windows_made) := ⟨rfl, rfl, rfl, by decide +kernel, rfl, by decide +kernel, by decide +kernel⟩
theorem ok_windows_made (F : Fun K "windows_made" "windows_made" st_windows_made f fd) (T : Tx P w K mg base a) (c_parting_kinds : CalX P w K mg base 1 "parting_kinds" ["cells", "width"] (spKinds K)) : FnOk P w K mg base (L2.CX P w) 2 f fd ["cells", "width"] (spWins K) := by
  refine F.okX sc_windows_made (fun vs H Q E h => pro_len h fun _ => rfl) (fun cdv A outer s H vs Q E hr h => ⟨_, (pss_cons (ps_set (i := 2) sc_windows_made.nd rfl (by first | exact Or.inl rfl | exact Or.inr rfl) (pe_op (kO K rPlus rfl op_plus) (pe_c c_parting_kinds hr (by first | decide | exact Nat.le_refl _) rfl (passes_call (takes_of rfl rfl rfl rfl) (fun _ _ _ _ h => h)) (pa_cons (pv 0) (pa_cons (pv 1) pa_nil))) (pe_lst (pa_cons pe_int pa_nil))))
    (pss_cons (ps_set (i := 3) sc_windows_made.nd rfl (by first | exact Or.inl rfl | exact Or.inr rfl) (pe_lst pa_nil))
    (pss_cons (ps_set (i := 4) sc_windows_made.nd rfl (by first | exact Or.inl rfl | exact Or.inr rfl) pe_int)
    (pss_cons (ps_while (passes_of rfl) (pt_cmpR op_less (pv 4) (pe_callB (kC K rLenU rfl call_lenU) (by rfl) T.b_len (by decide +kernel) (pa_cons (pv 0) pa_nil)) (nomark _)) (pss_cons (ps_set (i := 5) sc_windows_made.nd rfl (by first | exact Or.inl rfl | exact Or.inr rfl) (pe_op (kO K rPlus rfl op_plus) (pv 4) pe_int))
    (pss_cons (ps_for (passes_of rfl) rfl (pi_range2 rfl T.b_range (pa_cons (pe_op (kO K rPlus rfl op_plus) (pv 4) pe_int) (pa_cons (pe_op (kO K rPlus rfl op_plus) (pe_callB (call_min2 rfl) (by rfl) T.b_min (by decide +kernel) (pa_cons (pe_op (kO K rPlus rfl op_plus) (pv 4) (pv 1)) (pa_cons (pe_callB (kC K rLenU rfl call_lenU) (by rfl) T.b_len (by decide +kernel) (pa_cons (pv 0) pa_nil)) pa_nil))) pe_int) pa_nil))) (pg_name (i := 6) sc_windows_made.nd rfl (by first | exact Or.inl rfl | exact Or.inr rfl))
      (pss_cons (ps_if (pt_cmpR op_gt (pe_ix (kX K rIx rfl ix_seq) (pv 2) (pv 6) (fun _ _ => rfl)) pe_int (nomark _)) (pss_one (ps_set (i := 5) sc_windows_made.nd rfl (by first | exact Or.inl rfl | exact Or.inr rfl) (pv 6))) pss_nil)
    (pss_one (ps_if (pt_cmpR (kO K rEqU rfl (op_eqU (hu64 hr))) (pe_ix (kX K rIx rfl ix_seq) (pv 2) (pv 6) (fun _ _ => rfl)) pe_int (nomark _)) (pss_one ps_break) pss_nil))))
    (pss_cons (ps_expr (pe_bmK (K := K) rfl PySem.F.plainAttrs_list PySem.F.slot_list_append PySem.F.type_list_append mt_append (pv 3) (pa_cons (pe_tup (pa_cons (pv 4) (pa_cons (pv 5) pa_nil))) pa_nil)))
    (pss_one (ps_set (i := 4) sc_windows_made.nd rfl (by first | exact Or.inl rfl | exact Or.inr rfl) (pv 5)))))))
    (pss_one (ps_ret (pv 3))))))), run_body h fun ⟨l, w⟩ S ⟨hc, h0, hw⟩ hl hcl wi => ?_⟩)
  have hl : S.A.length = 0 := hl
  have hc : CellL l := hc
  have h0 : 0 < w := h0
  have hw : w ≤ 1000000 := hw
  have hz : l.length ≤ 1000000 := hc.1
  have hcl0 : D.ltL 0 l = true := cells_cl hc.2
  generalize hz0 : zc l = z
  walk_at "pp"
  refine ee_czS ?_
  walk_at "pp"
  refine ⟨(l, w), ⟨hc, h0, hw⟩, rfl, by show (D.ltL 0 l && (true && true)) = true; rw [hcl0]; rfl, ?_⟩
  rintro ks rfl _
  rw [hz0]
  walk_at "pp"
  refine ee_lst ?_
  walk_at "pp"
  refine oo_addL (by rw [kL_len]; show l.length + 1 ≤ 10000000; omega) ?_
  rw [kL_more]
  walk_at "pp"
  refine ee_open ?_
  walk_at "pp"
  refine se_while (fun m δ μ => ∃ (j : Nat) (x5 x6 : Option D), j ≤ l.length ∧ m = l.length - (wN z l.length w j).1 ∧ δ = [some (.lst l), some (.int (w : Int)), some (.lst (kL (kk z l.length w) (l.length + 1))), some (.own 0), some (.int (((wN z l.length w j).1 : Nat) : Int)), x5, x6] ∧ μ = [.lst ((wN z l.length w j).2.map winD)]) l.length ⟨0, none, none, Nat.zero_le _, rfl, rfl, rfl⟩ ?_
  rintro m δ μ ⟨j, x5, x6, hj, rfl, rfl, rfl⟩
  obtain ⟨w1, w2, w3, w4, w5⟩ := wN_ok (z := z) (n := l.length) h0 j
  walk_at "pp"
  refine cc_len (.lst _) ?_
  walk_at "pp"
  refine ⟨fun hb => ?_, fun hb => ?_⟩
  · have hlt : (wN z l.length w j).1 < l.length := by have := of_decide_eq_true hb; omega
    have hj2 := wN_lt h0 hj hlt
    have es := wN_succ (z := z) (n := l.length) (w := w) hlt
    obtain ⟨v1, v2, v3⟩ := win_ok h0 hlt w1
    generalize hA : (wN z l.length w j).1 = q at *
    generalize hB : (wN z l.length w j).2 = fs at *
    walk_at "pp"
    refine se_to (fun δ μ => ∃ x6, δ = [some (.lst l), some (.int (w : Int)), some (.lst (kL (kk z l.length w) (l.length + 1))), some (.own 0), some (.int (q : Int)), some (.int ((winK z l.length w q : Nat) : Int)), x6] ∧ μ = [.lst (fs.map winD)]) ?_ ?_
    · refine se_for (ie_rng2 ?_)
      walk_at "pp"
      refine cc_len (.lst _) ?_
      walk_at "pp"
      have et : (if ((l.length : Nat) : Int) < (q : Int) + (w : Int) then ((l.length : Nat) : Int) else (q : Int) + (w : Int)) = ((topK l.length w q : Nat) : Int) := by
        unfold topK
        split <;> omega
      have ht : q ≤ topK l.length w q ∧ topK l.length w q ≤ l.length := by unfold topK; omega
      rw [et]
      refine ⟨⟨by omega, by omega, by omega, by omega⟩, ?_⟩
      rw [show (((topK l.length w q : Nat) : Int) + 1 - ((q : Int) + 1)).toNat = topK l.length w q - q by omega]
      refine ⟨rfl, fun i δ μ => ∃ x6, δ = [some (.lst l), some (.int (w : Int)), some (.lst (kL (kk z l.length w) (l.length + 1))), some (.own 0), some (.int (q : Int)), some (.int ((lastL z l.length w q i : Nat) : Int)), x6] ∧ μ = [.lst (fs.map winD)] ∧ ∀ s, q < s → s ≤ q + i → kk z l.length w s ≠ 2, ⟨x6, by rw [show lastL z l.length w q 0 = q + 1 from rfl]; rfl, rfl, fun s s1 s2 => by omega⟩, ?_, ?_⟩
      · rintro i x δ μ hi ⟨x6, rfl, rfl, hno⟩
        obtain ⟨hi2, rfl⟩ := rng_get hi
        have hat : (q : Int) + 1 + (i : Int) = ((q + 1 + i : Nat) : Int) := by omega
        have hk : (kL (kk z l.length w) (l.length + 1))[q + 1 + i]? = some (.int ((kk z l.length w (q + 1 + i) : Nat) : Int)) := kL_at (by omega)
        rw [hat]
        have el : lastL z l.length w q (i + 1) = if 0 < kk z l.length w (q + 1 + i) then q + 1 + i else lastL z l.length w q i := rfl
        refine ge_name ?_
        refine se_seq (se_to (fun δ μ => δ = [some (.lst l), some (.int (w : Int)), some (.lst (kL (kk z l.length w) (l.length + 1))), some (.own 0), some (.int (q : Int)), some (.int ((lastL z l.length w q (i + 1) : Nat) : Int)), some (.int ((q + 1 + i : Nat) : Int))] ∧ μ = [.lst (fs.map winD)]) ?_ ?_)
        · walk_at "pp"
          refine oo_ixL (atI_of (j := q + 1 + i) hk rfl) ?_
          walk_at "pp"
          rw [el]
          refine ⟨fun h1 => ?_, fun h1 => ?_⟩
          · have h1 := of_decide_eq_true h1
            walk_at "pp"
            rw [if_pos (by omega)]
            exact ⟨rfl, rfl⟩
          · have h1 := of_decide_eq_false h1
            walk_at "pp"
            rw [if_neg (by omega)]
            exact ⟨rfl, rfl⟩
        · rintro δ μ ⟨rfl, rfl⟩
          walk_at "pp"
          refine oo_ixL (atI_of (j := q + 1 + i) hk rfl) ?_
          walk_at "pp"
          rw [int_eq]
          refine ⟨fun h1 => ?_, fun h1 => ?_⟩
          · have h1 := of_decide_eq_true h1
            refine se_break ?_
            have h2 : kk z l.length w (q + 1 + i) = 2 := by omega
            have e2 : winK z l.length w q = q + 1 + i := winK_stop (by omega) (by omega) h2 fun s s1 s2 => hno s s1 (by omega)
            refine ⟨some (.int ((q + 1 + i : Nat) : Int)), ?_, rfl⟩
            rw [e2, el, if_pos (by omega)]
          · have h1 := of_decide_eq_false h1
            walk_at "pp"
            refine ⟨rfl, fun s s1 s2 => ?_⟩
            by_cases e : s = q + 1 + i
            · subst e
              omega
            · exact hno s s1 (by omega)
      · rintro δ μ ⟨x6, rfl, rfl, hno⟩
        rw [rng_len] at hno ⊢
        have e2 : winK z l.length w q = lastL z l.length w q (topK l.length w q - q) := winK_none h0 hlt w1 fun s s1 s2 => hno s s1 (by omega)
        rw [← e2]
        exact ⟨x6, rfl, rfl⟩
    · rintro δ μ ⟨x6, rfl, rfl⟩
      walk_at "pp"
      refine ee_bm ?_
      walk_at "pp"
      refine ⟨.lst (.own rfl), ?_⟩
      walk_at "pp"
      refine mm_append rfl (by rw [List.length_map]; omega) ?_
      walk_at "pp"
      refine ⟨l.length - (wN z l.length w (j + 1)).1, by rw [es]; show l.length - winK z l.length w q < _; omega, j + 1, some (.int ((winK z l.length w q : Nat) : Int)), x6, hj2, rfl, ?_, ?_⟩
      · rw [es]
        rfl
      · rw [es]
        show [Cell.lst (fs.map winD ++ [winD (q, winK z l.length w q)])] = _
        rw [List.map_append]
        rfl
  · have hge : ¬ (wN z l.length w j).1 < l.length := by have := of_decide_eq_false hb; omega
    walk_at "pp"
    walk_at "gp"
    refine gaveN hl (k := 0) rfl wins_cl ?_
    rw [wN_end h0 hj hge, hz0]
end


section
/-- windows side by side from a to b, none empty, none longer than w -/
def chain (b w : Nat) : Nat → List (Nat × Nat) → Bool
  | a, [] => decide (a = b)
  | a, p :: l => (decide (p.1 = a) && (decide (p.1 < p.2) && decide (p.2 ≤ p.1 + w))) && chain b w p.2 l
def brk (z : Nat → Bool) (n w : Nat) (l : List (Nat × Nat)) : Bool := chain n w 0 l && (l.all (fun p => decide (0 < kk z n w p.1)) && (List.range n).all fun i => !decide (kk z n w i = 2) || decide (i ∈ l.map (·.1)))
/-- the list's lasts are greater -/
def gtB : List Nat → List Nat → Bool
  | [], _ => false
  | _ :: _, [] => true
  | x :: xs, y :: ys => if x = y then gtB xs ys else decide (y < x)
variable {z : Nat → Bool} {n w : Nat}
theorem chain_cons {b a : Nat} {p : Nat × Nat} {l : List (Nat × Nat)} : chain b w a (p :: l) = true ↔ p.1 = a ∧ p.1 < p.2 ∧ p.2 ≤ p.1 + w ∧ chain b w p.2 l = true := by
  show ((decide (p.1 = a) && (decide (p.1 < p.2) && decide (p.2 ≤ p.1 + w))) && chain b w p.2 l) = true ↔ _
  simp only [Bool.and_eq_true, decide_eq_true_eq]
  exact ⟨fun h => ⟨h.1.1, h.1.2.1, h.1.2.2, h.2⟩, fun h => ⟨⟨h.1, h.2.1, h.2.2.1⟩, h.2.2.2⟩⟩
theorem chain_snoc {b c : Nat} : ∀ {l : List (Nat × Nat)} {a : Nat}, chain b w a l = true → b < c → c ≤ b + w → chain c w a (l ++ [(b, c)]) = true
  | [], a, h, h1, h2 => by
    have h : a = b := of_decide_eq_true h
    subst h
    exact chain_cons.mpr ⟨rfl, h1, h2, decide_eq_true rfl⟩
  | p :: l, a, h, h1, h2 => by
    obtain ⟨q1, q2, q3, q4⟩ := chain_cons.mp h
    exact chain_cons.mpr ⟨q1, q2, q3, chain_snoc q4 h1 h2⟩
theorem chain_le {b : Nat} : ∀ {l : List (Nat × Nat)} {a : Nat}, chain b w a l = true → a ≤ b ∧ ∀ p ∈ l, a ≤ p.1 ∧ p.1 < p.2 ∧ p.2 ≤ b ∧ p.2 ≤ p.1 + w
  | [], a, h => by
    have h : a = b := of_decide_eq_true h
    exact ⟨by omega, fun p hp => by cases hp⟩
  | p :: l, a, h => by
    obtain ⟨q1, q2, q3, q4⟩ := chain_cons.mp h
    obtain ⟨i1, i2⟩ := chain_le q4
    refine ⟨by omega, fun q hq => ?_⟩
    rcases List.mem_cons.mp hq with rfl | hq
    · exact ⟨by omega, q2, i1, q3⟩
    · obtain ⟨j1, j2, j3, j4⟩ := i2 q hq
      exact ⟨by omega, j2, j3, j4⟩
theorem chain_len {b : Nat} : ∀ {l : List (Nat × Nat)} {a : Nat}, chain b w a l = true → l.length ≤ b - a
  | [], a, _ => Nat.zero_le _
  | p :: l, a, h => by
    obtain ⟨q1, q2, q3, q4⟩ := chain_cons.mp h
    have := chain_len q4
    have := (chain_le q4).1
    show l.length + 1 ≤ b - a
    omega
/-- where one stands among the windows -/
theorem chain_at {b i : Nat} : ∀ {l : List (Nat × Nat)} {a : Nat}, chain b w a l = true → a ≤ i → i < b → ∃ p ∈ l, p.1 ≤ i ∧ i < p.2
  | [], a, h, h1, h2 => by
    have h : a = b := of_decide_eq_true h
    omega
  | p :: l, a, h, h1, h2 => by
    obtain ⟨q1, q2, q3, q4⟩ := chain_cons.mp h
    by_cases q : i < p.2
    · exact ⟨p, List.mem_cons_self, by omega, q⟩
    · obtain ⟨r, hr, hr2⟩ := chain_at q4 (by omega) h2
      exact ⟨r, List.mem_cons_of_mem _ hr, hr2⟩
/-- no window begins within another one -/
theorem chain_in {b i : Nat} : ∀ {l : List (Nat × Nat)} {a : Nat}, chain b w a l = true → ∀ p ∈ l, p.1 < i → i < p.2 → i ∉ l.map (·.1)
  | [], _, _, p, hp, _, _ => by cases hp
  | q :: l, a, h, p, hp, h1, h2 => by
    obtain ⟨q1, q2, q3, q4⟩ := chain_cons.mp h
    obtain ⟨i1, i2⟩ := chain_le q4
    rw [List.map_cons, List.mem_cons]
    rintro (e | hi)
    · rcases List.mem_cons.mp hp with rfl | hp
      · omega
      · have := (i2 p hp).1
        omega
    · rcases List.mem_cons.mp hp with rfl | hp
      · obtain ⟨r, hr, e⟩ := List.mem_map.mp hi
        have e : r.1 = i := e
        have := (i2 r hr).1
        omega
      · exact chain_in q4 p hp h1 h2 hi
/-- a window ends where another one begins, or at the end -/
theorem chain_next {b : Nat} : ∀ {l : List (Nat × Nat)} {a : Nat}, chain b w a l = true → ∀ p ∈ l, p.2 = b ∨ p.2 ∈ l.map (·.1)
  | [], _, _, p, hp => by cases hp
  | q :: l, a, h, p, hp => by
    obtain ⟨q1, q2, q3, q4⟩ := chain_cons.mp h
    rcases List.mem_cons.mp hp with rfl | hp
    · cases l with
      | nil => exact .inl (of_decide_eq_true q4)
      | cons r l => exact .inr (by rw [List.map_cons, List.map_cons]; exact List.mem_cons_of_mem _ (by rw [(chain_cons.mp q4).1]; exact List.mem_cons_self))
    · rcases chain_next q4 p hp with e | e
      · exact .inl e
      · exact .inr (List.mem_cons_of_mem _ e)
theorem no_must {a i : Nat} (h1 : a < i) (h2 : i < winK z n w a) (hw : 0 < w) (ha : a < n) (hk : 0 < kk z n w a) : kk z n w i ≠ 2 := by
  obtain ⟨j, j1, j2, j3⟩ := stop_part hw ha hk
  obtain ⟨q1, q2, q3⟩ := down_top (z := z) (n := n) (w := w) (stopK z n w a) ⟨j, j2, by omega, j3⟩
  have q2 : winK z n w a ≤ stopK z n w a := q2
  have ht := stop_le (z := z) (n := n) (w := w) (a := a)
  rcases stop_cases (z := z) (n := n) (w := w) (a := a) rfl with ⟨s, s1, s2, s3, s4⟩ | h
  · rw [stop_some s1 s2 s3 s4] at q2
    exact s4 i h1 (by omega)
  · exact h i h1 (by omega)
/-- the window is as long as can be -/
theorem win_far {a e : Nat} (hw : 0 < w) (ha : a < n) (hk : 0 < kk z n w a) (h1 : a < e) (h2 : e ≤ topK n w a) (h3 : 0 < kk z n w e) (h4 : ∀ i, a < i → i < e → kk z n w i ≠ 2) : e ≤ winK z n w a := by
  have hs : e ≤ stopK z n w a := by
    rcases stop_cases (z := z) (n := n) (w := w) (a := a) rfl with ⟨s, s1, s2, s3, s4⟩ | h
    · rw [stop_some s1 s2 s3 s4]
      by_cases q : e ≤ s
      · exact q
      · exact absurd s3 (h4 s s1 (by omega))
    · rw [stop_none h]
      exact h2
  obtain ⟨q1, q2, q3⟩ := down_top (z := z) (n := n) (w := w) (stopK z n w a) ⟨e, hs, by omega, h3⟩
  exact q3 e (by omega) hs h3
theorem wN_chain (hw : 0 < w) : ∀ j, chain (wN z n w j).1 w 0 (wN z n w j).2 = true ∧ (∀ p ∈ (wN z n w j).2, p.2 = winK z n w p.1 ∧ p.1 < n ∧ 0 < kk z n w p.1)
  | 0 => ⟨rfl, fun p hp => by cases hp⟩
  | j + 1 => by
    obtain ⟨i1, i2⟩ := wN_chain hw j
    by_cases h : (wN z n w j).1 < n
    · obtain ⟨k1, _⟩ := wN_ok (z := z) (n := n) hw j
      obtain ⟨q1, q2, q3⟩ := win_ok hw h k1
      rw [wN_succ h]
      refine ⟨chain_snoc i1 q1 (by unfold topK at q2; omega), fun p hp => ?_⟩
      rcases List.mem_append.mp hp with hp | hp
      · exact i2 p hp
      · rw [List.mem_singleton.mp hp]
        exact ⟨rfl, h, k1⟩
    · have e : wN z n w (j + 1) = wN z n w j := if_neg h
      rw [e]
      exact ⟨i1, i2⟩
theorem wins_chain (hw : 0 < w) : chain n w 0 (wins z n w) = true ∧ (∀ p ∈ wins z n w, p.2 = winK z n w p.1 ∧ p.1 < n ∧ 0 < kk z n w p.1) := by
  obtain ⟨i1, i2⟩ := wN_chain (z := z) (n := n) hw n
  have h := wN_ok (z := z) (n := n) hw n
  have e : (wN z n w n).1 = n := by
    have := h.2.1
    have := h.2.2.1
    omega
  rw [e] at i1
  exact ⟨i1, i2⟩
theorem wins_brk (hw : 0 < w) : brk z n w (wins z n w) = true := by
  obtain ⟨h1, h2⟩ := wins_chain (z := z) (n := n) hw
  unfold brk
  rw [h1, Bool.true_and, Bool.and_eq_true]
  refine ⟨List.all_eq_true.mpr fun p hp => decide_eq_true (h2 p hp).2.2, List.all_eq_true.mpr fun i hi => ?_⟩
  have hi := List.mem_range.mp hi
  by_cases hk : kk z n w i = 2
  · obtain ⟨p, hp, p1, p2⟩ := chain_at h1 (Nat.zero_le i) hi
    obtain ⟨e, hpn, hpk⟩ := h2 p hp
    rw [decide_eq_true hk, Bool.not_true, Bool.false_or]
    refine decide_eq_true ?_
    by_cases q : p.1 = i
    · rw [← q]
      exact List.mem_map_of_mem hp
    · exact absurd hk (no_must (by omega) (by omega) hw hpn hpk)
  · rw [decide_eq_false hk]
    rfl
theorem ahead (hw : 0 < w) : ∀ (G l : List (Nat × Nat)) (a b : Nat), a ≤ b → 0 < kk z n w b → chain n w b G = true → (∀ p ∈ G, p.2 = winK z n w p.1 ∧ p.1 < n ∧ 0 < kk z n w p.1) → chain n w a l = true → (∀ p ∈ l, 0 < kk z n w p.2 ∧ ∀ i, p.1 < i → i < p.2 → kk z n w i ≠ 2) →
    G.length ≤ l.length ∧ (a = b → gtB (l.map (·.2)) (G.map (·.2)) = false)
  | [], l, a, b, hab, _, hG, _, hl, _ => by
    have hG : b = n := of_decide_eq_true hG
    refine ⟨Nat.zero_le _, fun e => ?_⟩
    cases l with
    | nil => rfl
    | cons q l =>
      obtain ⟨q1, q2, q3, q4⟩ := chain_cons.mp hl
      have := (chain_le q4).1
      omega
  | p :: G, [], a, b, hab, _, hG, _, hl, _ => by
    have hl : a = n := of_decide_eq_true hl
    obtain ⟨q1, q2, q3, q4⟩ := chain_cons.mp hG
    have := (chain_le q4).1
    omega
  | p :: G, q :: l, a, b, hab, hkb, hG, hg, hl, hm => by
    obtain ⟨p1, p2, p3, p4⟩ := chain_cons.mp hG
    obtain ⟨q1, q2, q3, q4⟩ := chain_cons.mp hl
    obtain ⟨g1, g2, g3⟩ := hg p List.mem_cons_self
    obtain ⟨m1, m2⟩ := hm q List.mem_cons_self
    have hqn := (chain_le q4).1
    rw [p1] at g1 g2
    have hle : q.2 ≤ p.2 := by
      by_cases h : q.2 ≤ b
      · omega
      · rw [g1]
        exact win_far hw g2 hkb (by omega) (by unfold topK; omega) m1 fun i i1 i2 => m2 i (by omega) i2
    have hk2 : 0 < kk z n w p.2 := by
      rw [g1]
      exact (win_ok hw g2 hkb).2.2
    obtain ⟨r1, r2⟩ := ahead hw G l q.2 p.2 hle hk2 p4 (fun x hx => hg x (List.mem_cons_of_mem _ hx)) q4 fun x hx => hm x (List.mem_cons_of_mem _ hx)
    refine ⟨Nat.succ_le_succ r1, fun e => ?_⟩
    show (if q.2 = p.2 then gtB (l.map (·.2)) (G.map (·.2)) else decide (p.2 < q.2)) = false
    split
    · exact r2 (by assumption)
    · exact decide_eq_false (by omega)
theorem best (hw : 0 < w) {l : List (Nat × Nat)} (h : brk z n w l = true) : (wins z n w).length ≤ l.length ∧ gtB (l.map (·.2)) ((wins z n w).map (·.2)) = false := by
  obtain ⟨h1, h2⟩ := Bool.and_eq_true_iff.mp h
  obtain ⟨h2, h3⟩ := Bool.and_eq_true_iff.mp h2
  obtain ⟨w1, w2⟩ := wins_chain (z := z) (n := n) hw
  have hk0 := kk_0 (z := z) (n := n) hw
  have kn : kk z n w n = 1 := if_neg (Nat.lt_irrefl _)
  obtain ⟨r1, r2⟩ := ahead hw (wins z n w) l 0 0 (Nat.le_refl _) hk0 w1 w2 h1 fun p hp => by
    have hp2 := (chain_le h1).2 p hp
    refine ⟨?_, fun i i1 i2 hi => ?_⟩
    · rcases chain_next h1 p hp with e | e
      · rw [e, kn]
        decide
      · obtain ⟨r, hr, e⟩ := List.mem_map.mp e
        rw [← e]
        exact of_decide_eq_true (List.all_eq_true.mp h2 r hr)
    · have h := List.all_eq_true.mp h3 i (List.mem_range.mpr (by omega))
      rw [decide_eq_true hi, Bool.not_true, Bool.false_or] at h
      exact chain_in h1 p hp i1 i2 (of_decide_eq_true h)
  exact ⟨r1, r2 rfl⟩
theorem enK_le2 {f : Nat} (hf : f ≤ n) : enK z n f ≤ n := by
  obtain ⟨e, h1, h2, h3, h4⟩ := run_end (z := z) (n := n) (n - f) f (Nat.le_refl _) hf
  rw [enK_eq h1 h2 (fun j j1 j2 => ⟨by omega, h3 j j1 j2⟩) h4]
  exact h2
/-- one window of all cells -/
theorem wins_wide (hn : 0 < n) : (wins z n n).length ≤ 1 := by
  have h : brk z n n [(0, n)] = true := by
    have hno : ∀ i, kk z n n i ≠ 2 := fun i hi => by
      unfold kk at hi
      split at hi
      · unfold kd at hi
        split at hi
        · rename_i hin hq
          obtain ⟨f, f1, f2, f3, f4⟩ := word_of i hq.1
          have := enK_le2 (z := z) (n := n) (f := stK z i) (by omega)
          omega
        · split at hi <;> cases hi
      · cases hi
    unfold brk
    rw [show chain n n 0 [(0, n)] = true from chain_cons.mpr ⟨rfl, hn, by show n ≤ 0 + n; omega, decide_eq_true rfl⟩]
    refine Bool.and_eq_true_iff.mpr ⟨rfl, Bool.and_eq_true_iff.mpr ⟨?_, List.all_eq_true.mpr fun i _ => by rw [decide_eq_false (hno i)]; rfl⟩⟩
    show (decide (0 < kk z n n 0) && true) = true
    rw [decide_eq_true (kk_0 hn)]
    rfl
  exact (best hn h).1
/-- the least width -/
def lwid (z : Nat → Bool) (n m : Nat) : Nat := ((((List.range n).map fun i => i + 1).find? fun w => decide ((wins z n w).length ≤ m)).getD 1)
end


section
variable {P : Program} {w : World} {K : PySem.W.Frag} {mg : Str → Option Value} {base : Heap} {a : Ad} {f : Addr} {fd : FuncData}
inductive Kd | cells | width | count
def clsK (a : Ad) : Kd → Addr
  | .cells => a.eInvalidCells
  | .width => a.eInvalidWidth
  | .count => a.eInvalidCount
inductive Out
  | told (d : D)
  | bad (k : Kd) (d : D)
def Told (o : Out) (d : D) : Prop := o = .told d
def Bad (a : Ad) (o : Out) (c : Addr) (d : D) : Prop := ∃ k, o = .bad k d ∧ c = clsK a k
def lstOf : D → List D
  | .lst l => l
  | _ => []
def nI (d : D) (k : Nat) : Nat := match d with
  | .tup l => dotN (l.getD k .non)
  | _ => 0
def winsOf (cs : List D) (w : Nat) : List (Nat × Nat) := wins (zc cs) cs.length w
def cO (c : D) (o : Out) : Out := if isCells c = false then .bad .cells c else o
def cwO (c wd : D) (o : Out) : Out := cO c (if isCtN 1 wd = false then .bad .width wd else o)
def isPr : D → Bool
  | .tup [x, y] => isCtN 0 x && isCtN 0 y
  | _ => false
def prN (d : D) : Nat × Nat := (nI d 0, nI d 1)
def isBr (cs : List D) (w : Nat) : D → Bool
  | .lst l => l.all isPr && brk (zc cs) cs.length w (l.map prN)
  | _ => false
def idxW (ws : List (Nat × Nat)) (at' : Nat) : Nat := ws.findIdx fun p => decide (p.1 ≤ at') && decide (at' < p.2)
def ansW0 (c wd : D) : Out := cwO c wd (.told (.lst ((winsOf (lstOf c) (dotN wd)).map winD)))
def ansW1 (c wd v : D) : Out := cwO c wd (.told (.bl (isBr (lstOf c) (dotN wd) v)))
def ansW2 (c wd g : D) : Out := cwO c wd (if inB 0 (some (lstOf c).length) g = false then .bad .count g else .told (.int ((idxW (winsOf (lstOf c) (dotN wd)) (dotN g) : Nat) : Int)))
def ansW3 (c m : D) : Out := cO c (if inB 1 none m = false then .bad .count m else .told (.int ((lwid (zc (lstOf c)) (lstOf c).length (dotN m) : Nat) : Int)))
def WdPre (d : D) : Prop := Cl d ∧ (isCtN 1 d = true → dotN d ≤ 1000000)
theorem cells_ce {c : D} (hp : CsPre c) (h : isCells c = true) : ∃ l, c = .lst l ∧ CellL l := by
  cases c with
  | lst l =>
    refine ⟨l, rfl, (hp.2 l rfl).1, fun x hx => ?_⟩
    have hx := List.all_eq_true.mp (show l.all isCell = true from h) x hx
    cases x with
    | v x =>
      cases x with
      | int i =>
        obtain ⟨h1, h2⟩ := Bool.and_eq_true_iff.mp (show (decide (0 ≤ i) && decide (i < 64)) = true from hx)
        exact ⟨i, rfl, of_decide_eq_true h1, of_decide_eq_true h2⟩
      | _ => cases hx
    | _ => cases hx
  | _ => cases h
theorem cells_is {l : List D} (h : CellL l) : isCells (.lst l) = true := List.all_eq_true.mpr fun x hx => by
  obtain ⟨i, rfl, h1, h2⟩ := h.2 x hx
  show (decide (0 ≤ i) && decide (i < 64)) = true
  rw [decide_eq_true h1, decide_eq_true h2]
  rfl
theorem cO_in {l : List D} {o : Out} (h : CellL l) : cO (.lst l) o = o := if_neg (by rw [cells_is h]; exact fun z => by cases z)
theorem ask_cs {S : Bs} {δ : Sl} {μ : List Cell} {C : D → List Cell → Prop} {ta : TA} {E : XK} {CE : Addr → D → List Cell → Prop} {c : D} (hp : CsPre c) (wi : Wi K S E CE) (h : EA K S ta δ μ fun ds μ1 => ds = [c] ∧ (∀ o, c.lt 0 = true → isCells c = false → Bad a (cO c o) a.eInvalidCells c → CE a.eInvalidCells c μ1) ∧ ∀ l, c = .lst l → CellL l → C .non μ1) : EE K S (tCall (spCheck K CsPre isCells a.eInvalidCells) [] E ta) δ μ C :=
  ee_c0 wi fun A G H σ a' Q q => h A G H σ a' Q fun vs ds A1 G1 H1 μ1 m n r ⟨e, c1, c2⟩ => q vs ds A1 G1 H1 μ1 m n r (by
    subst e
    refine ⟨c, hp, rfl, by show (c.lt 0 && true) = true; rw [hp.1.2]; rfl, fun d ⟨h1, h2⟩ _ => ?_, fun cc d ⟨h1, h2, h3⟩ h4 => ?_⟩
    · obtain ⟨l, e, hc⟩ := cells_ce hp h2
      subst h1
      exact c2 l e hc
    · subst h2 h3
      exact c1 (.told .non) h4 h1 ⟨.cells, if_pos h1, rfl⟩)
abbrev spWinsOf (K : PySem.W.Frag) (a : Ad) : Sp := ProP K (T := D × D) (fun t => [t.1, t.2]) (fun t => CsPre t.1 ∧ WdPre t.2) (fun t r => Told (ansW0 t.1 t.2) r) (fun t c d => Bad a (ansW0 t.1 t.2) c d)
abbrev st_windows_of : Stmt := top 28
abbrev nm_windows_of : List Str := ["cells", "width"]
theorem sc_windows_of : FnScope nm_windows_of ["cells", "width"] (defScope st_windows_of) := ⟨rfl, rfl, rfl, by decide +kernel, rfl, by decide +kernel, by decide +kernel⟩
theorem ok_windows_of (F : Fun K "windows_of" "windows_of" st_windows_of f fd) (T : Tx P w K mg base a) (c_check_cells : CalX P w K mg base 4 "check_cells" ["value"] (spCheck K CsPre isCells a.eInvalidCells)) (c_check_width : CalX P w K mg base 3 "check_width" ["value"] (spChk K (isCtN 1) a.eInvalidWidth)) (c_windows_made : CalX P w K mg base 2 "windows_made" ["cells", "width"] (spWins K)) : FnOk P w K mg base (L2.CX P w) 5 f fd ["cells", "width"] (spWinsOf K a) := by
  refine F.okX sc_windows_of (fun vs H Q E h => pro_len h fun _ => rfl) (fun cdv A outer s H vs Q E hr h => ⟨_, (pss_cons (ps_expr (pe_c c_check_cells hr (by first | decide | exact Nat.le_refl _) rfl (passes_call (takes_of rfl rfl rfl rfl) (fun _ _ _ _ h => h)) (pa_cons (pv 0) pa_nil)))
    (pss_cons (ps_expr (pe_c c_check_width hr (by first | decide | exact Nat.le_refl _) rfl (passes_call (takes_of rfl rfl rfl rfl) (fun _ _ _ _ h => h)) (pa_cons (pv 1) pa_nil)))
    (pss_one (ps_ret (pe_c c_windows_made hr (by first | decide | exact Nat.le_refl _) rfl (passes_call (takes_of rfl rfl rfl rfl) (fun _ _ _ _ h => h)) (pa_cons (pv 0) (pa_cons (pv 1) pa_nil))))))), run_body h fun ⟨c, wd⟩ S ⟨hc, hw⟩ hl hcl wi => ?_⟩)
  have hl : S.A.length = 0 := hl
  have hc : CsPre c := hc
  have hw : WdPre wd := hw
  have hc0 : c.lt 0 = true := hc.1.2
  have hw0 : wd.lt 0 = true := hw.1.2
  walk_at "pp"
  refine ask_cs hc wi ?_
  walk_at "pp"
  refine ⟨rfl, fun o h1 h2 h3 => ⟨by rw [hl]; exact h1, by rw [hl]; rfl, .cells, if_pos h2, rfl⟩, fun l e hl' => ?_⟩
  subst e
  have ea : ansW0 (.lst l) wd = if isCtN 1 wd = false then .bad .width wd else .told (.lst ((winsOf l (dotN wd)).map winD)) := cO_in hl'
  have hcc : D.ltL 0 l = true := cells_cl hl'.2
  walk_at "pp"
  refine ee_c0 wi ?_
  walk_at "pp"
  refine ⟨wd, hw.1, rfl, by show (wd.lt 0 && true) = true; rw [hw0]; rfl, fun d ⟨_, hb⟩ _ => ?_, fun c d ⟨h1, h2, h3⟩ _ => ⟨by rw [h3, hl]; exact hw0, by rw [hl]; rfl, .width, by rw [if_pos h1] at ea; rw [show d = wd from h3]; exact ea, h2⟩⟩
  rw [if_neg (by rw [hb]; exact fun z => by cases z)] at ea
  have hwz := hw.2 hb
  obtain ⟨n, rfl, hn⟩ := ct_one hb
  have hwz : n ≤ 1000000 := hwz
  rw [show dotN (.int (n : Int)) = n from Int.toNat_natCast _] at ea
  walk_at "pp"
  refine ee_czS ?_
  walk_at "pp"
  refine ⟨(l, n), ⟨hl', hn, hwz⟩, rfl, by show (D.ltL 0 l && (true && true)) = true; rw [hcc]; rfl, ?_⟩
  rintro ws rfl _
  walk_at "gp"
  refine gaveP hl ?_ ea
  exact wins_cl (m := 0)
abbrev spWinsN (K : PySem.W.Frag) : Sp := ProN K (T := List D × Nat) (fun t => [.lst t.1, .int (t.2 : Int)]) (fun t => CellL t.1 ∧ 0 < t.2 ∧ t.2 ≤ 1000000) (fun t l => l = (winsOf t.1 t.2).map winD) (fun _ _ _ => False)
theorem ok_windows_of2 (F : Fun K "windows_of" "windows_of" st_windows_of f fd) (T : Tx P w K mg base a) (c_check_cells : CalX P w K mg base 4 "check_cells" ["value"] (spCheck K CsPre isCells a.eInvalidCells)) (c_check_width : CalX P w K mg base 3 "check_width" ["value"] (spChk K (isCtN 1) a.eInvalidWidth)) (c_windows_made : CalX P w K mg base 2 "windows_made" ["cells", "width"] (spWins K)) : FnOk P w K mg base (L2.CX P w) 5 f fd ["cells", "width"] (spWinsN K) := by
  refine F.okX sc_windows_of (fun vs H Q E h => pro_len h fun _ => rfl) (fun cdv A outer s H vs Q E hr h => ⟨_, (pss_cons (ps_expr (pe_c c_check_cells hr (by first | decide | exact Nat.le_refl _) rfl (passes_call (takes_of rfl rfl rfl rfl) (fun _ _ _ _ h => h)) (pa_cons (pv 0) pa_nil)))
    (pss_cons (ps_expr (pe_c c_check_width hr (by first | decide | exact Nat.le_refl _) rfl (passes_call (takes_of rfl rfl rfl rfl) (fun _ _ _ _ h => h)) (pa_cons (pv 1) pa_nil)))
    (pss_one (ps_ret (pe_c c_windows_made hr (by first | decide | exact Nat.le_refl _) rfl (passes_call (takes_of rfl rfl rfl rfl) (fun _ _ _ _ h => h)) (pa_cons (pv 0) (pa_cons (pv 1) pa_nil))))))), run_body h fun ⟨l, n⟩ S ⟨hc, hn, hwz⟩ hl hcl wi => ?_⟩)
  have hl : S.A.length = 0 := hl
  have hc : CellL l := hc
  have hn : 0 < n := hn
  have hwz : n ≤ 1000000 := hwz
  have hcc : D.ltL 0 l = true := cells_cl hc.2
  walk_at "pp"
  refine ask_cs (a := a) (c := .lst l) ⟨⟨rfl, hcc⟩, fun m e => ?_⟩ wi ?_
  · cases e
    exact ⟨hc.1, fun x hx => by obtain ⟨i, rfl, _⟩ := hc.2 x hx; rfl⟩
  walk_at "pp"
  refine ⟨rfl, fun o h1 h2 h3 => ?_, fun l' e hl' => ?_⟩
  · rw [cells_is hc] at h2
    cases h2
  walk_at "pp"
  refine ee_c0 wi ?_
  walk_at "pp"
  have hct : isCtN 1 (.int (n : Int)) = true := decide_eq_true (show ((1 : Nat) : Int) ≤ (n : Int) by omega)
  refine ⟨.int (n : Int), ⟨rfl, rfl⟩, rfl, rfl, fun d ⟨_, hb⟩ _ => ?_, fun c d ⟨h1, h2, h3⟩ _ => ?_⟩
  · walk_at "pp"
    refine ee_czN ?_
    walk_at "pp"
    refine ⟨(l, n), ⟨hc, hn, hwz⟩, rfl, by show (D.ltL 0 l && (true && true)) = true; rw [hcc]; rfl, ?_⟩
    rintro ws rfl _
    walk_at "gp"
    exact gaveN hl (k := 0) rfl wins_cl rfl
  · rw [hct] at h1
    cases h1
abbrev spWindowWith (K : PySem.W.Frag) : Sp := ProP K (T := List (Nat × Nat) × Nat) (fun t => [.lst (t.1.map winD), .int (t.2 : Int)]) (fun t => t.1.length ≤ 1000000 ∧ ∃ p ∈ t.1, p.1 ≤ t.2 ∧ t.2 < p.2) (fun t r => r = .int ((idxW t.1 t.2 : Nat) : Int)) (fun _ _ _ => False)
theorem idx_at {ws : List (Nat × Nat)} {g : Nat} (h : ∃ p ∈ ws, p.1 ≤ g ∧ g < p.2) : ∃ p, ws[idxW ws g]? = some p ∧ (decide (p.1 ≤ g) && decide (g < p.2)) = true ∧ ∀ m q, m < idxW ws g → ws[m]? = some q → (decide (q.1 ≤ g) && decide (g < q.2)) = false := by
  obtain ⟨p, hp, h1, h2⟩ := h
  have hlt : idxW ws g < ws.length := List.findIdx_lt_length_of_exists ⟨p, hp, by rw [decide_eq_true h1, decide_eq_true h2]; rfl⟩
  refine ⟨ws[idxW ws g], List.getElem?_eq_getElem hlt, List.findIdx_getElem (w := hlt), fun m q hm hq => ?_⟩
  obtain ⟨hml, e⟩ := List.getElem?_eq_some_iff.mp hq
  have := List.not_of_lt_findIdx hm
  rw [e] at this
  simpa using this
abbrev st_window_with : Stmt := top 30
abbrev nm_window_with : List Str := ["windows", "at", "first", "last"]
theorem sc_window_with : FnScope nm_window_with ["windows", "at"] (defScope st_window_with) := ⟨rfl, rfl, rfl, by decide +kernel, rfl, by decide +kernel, by decide +kernel⟩
theorem ok_window_with (F : Fun K "window_with" "window_with" st_window_with f fd) (T : Tx P w K mg base a) : FnOk P w K mg base (L2.CX P w) 1 f fd ["windows", "at"] (spWindowWith K) := by
  refine F.okX sc_window_with (fun vs H Q E h => pro_len h fun _ => rfl) (fun cdv A outer s H vs Q E hr h => ⟨_, (pss_one (ps_ret (pe_bmK (K := K) rfl PySem.F.plainAttrs_list PySem.F.slot_list_index PySem.F.type_list_index (kM K rIndex rfl mt_index) (pe_lc (own := [("first", 2), ("last", 3)]) (tt := tYes) (g := (gTup K 2 (gCons (gName 2) (gCons (gName 3) gNil)))) rfl sc_window_with.nd (pi_listK (K := K) rfl (pv 0)) (blkOk_by (own := [("first", 2), ("last", 3)]) (N := nm_window_with) (sc := (defScope st_window_with)) (by decide +kernel)) (fun _ _ _ _ _ => (pg_tupK (K := K) rfl rfl (pgs_cons (pg_name (i := 2) sc_window_with.nd rfl (by first | exact Or.inl rfl | exact Or.inr rfl)) (pgs_cons (pg_name (i := 3) sc_window_with.nd rfl (by first | exact Or.inl rfl | exact Or.inr rfl)) pgs_nil)))) (fun _ _ _ _ _ => pts_nil) (fun _ _ _ _ _ => (pe_chain op_leq op_less (pv 2) (pv 1) (pv 3)))) (pa_cons pe_bl pa_nil)))), run_body h fun ⟨ws, g⟩ S ⟨hz, hx⟩ hl hcl wi => ?_⟩)
  have hl : S.A.length = 0 := hl
  have hz : ws.length ≤ 1000000 := hz
  obtain ⟨p, h1, h2, h3⟩ := idx_at hx
  walk_at "pp"
  refine ee_bm ?_
  refine ee_lc (ie_list ?_)
  walk_at "pp"
  refine ⟨_, .inl rfl, fun _ h => h, trivial, fun _ => true, fun x => .bl (decide (nI x 0 ≤ g) && decide (g < nI x 1)), by rw [List.length_map]; omega, fun _ _ _ => rfl, fun x acc hx => ?_, ?_⟩
  · obtain ⟨⟨u, v⟩, _, rfl⟩ := List.mem_map.mp hx
    have e0 : nI (winD (u, v)) 0 = u := Int.toNat_natCast _
    have e1 : nI (winD (u, v)) 1 = v := Int.toNat_natCast _
    refine gw_pair (by decide) (by decide) ?_
    refine et_yes ?_
    refine ⟨rfl, rfl, fun _ => ?_⟩
    walk_at "pp"
    refine ⟨fun hb => ?_, fun hb => ?_⟩
    · have hb : ¬ (u : Int) ≤ (g : Int) := of_decide_eq_false hb
      refine ⟨?_, rfl⟩
      show _ = D.bl (decide (nI (winD (u, v)) 0 ≤ g) && _)
      rw [e0, decide_eq_false (by omega)]
      rfl
    · have hb : (u : Int) ≤ (g : Int) := of_decide_eq_true hb
      walk_at "pp"
      refine ⟨?_, rfl⟩
      show _ = D.bl (decide (nI (winD (u, v)) 0 ≤ g) && decide (g < nI (winD (u, v)) 1))
      rw [e0, e1, decide_eq_true (show u ≤ g by omega)]
      exact congrArg D.bl (decide_eq_decide.mpr (by omega))
  rw [show (((ws.map winD).filter fun _ => true).map fun x => D.bl (decide (nI x 0 ≤ g) && decide (g < nI x 1))) = (ws.map fun q => V.bl (decide (q.1 ≤ g) && decide (g < q.2))).map D.v by
    rw [List.filter_eq_self.mpr fun _ _ => rfl, List.map_map, List.map_map]
    refine List.map_congr_left fun q _ => ?_
    show D.bl (decide (((q.1 : Nat) : Int).toNat ≤ g) && decide (g < ((q.2 : Nat) : Int).toNat)) = _
    rw [Int.toNat_natCast, Int.toNat_natCast]
    rfl]
  walk_at "pp"
  refine ⟨.lst (.lst _), ?_⟩
  walk_at "pp"
  refine mm_index (z := .bl true) (j := idxW ws g) (.lst _) rfl (List.all_eq_true.mpr fun x hx => by obtain ⟨q, _, rfl⟩ := List.mem_map.mp hx; rfl) (by rw [List.getElem?_map, h1]; exact congrArg (fun b => some (V.bl b)) h2) rfl (fun m z' hm hz' => ?_) ?_
  · rw [List.getElem?_map] at hz'
    obtain ⟨q, hq, rfl⟩ := Option.map_eq_some_iff.mp hz'
    rw [h3 m q hm hq]
    rfl
  · walk_at "gp"
    exact gaveP hl (by rfl) rfl
end


section
variable {P : Program} {w : World} {K : PySem.W.Frag} {mg : Str → Option Value} {base : Heap} {a : Ad} {f : Addr} {fd : FuncData}
theorem in_int {n : Nat} {d : D} (h : inB 0 (some n) d = true) : ∃ k : Nat, d = .int (k : Int) ∧ k < n := by
  obtain ⟨h1, h2⟩ := Bool.and_eq_true_iff.mp h
  obtain ⟨i, rfl⟩ := ct_int h1
  have h1 : (0 : Int) ≤ i := of_decide_eq_true (show decide (((0 : Nat) : Int) ≤ i) = true from h1)
  have h2 : i < (n : Int) := of_decide_eq_true h2
  exact ⟨i.toNat, by rw [Int.toNat_of_nonneg h1], by omega⟩
theorem wins_at {l : List D} {w g : Nat} (hw : 0 < w) (hg : g < l.length) : ∃ p ∈ winsOf l w, p.1 ≤ g ∧ g < p.2 := chain_at (wins_chain (z := zc l) (n := l.length) hw).1 (Nat.zero_le _) hg
theorem wins_len {l : List D} {w : Nat} (hw : 0 < w) : (winsOf l w).length ≤ l.length := by
  have := chain_len (wins_chain (z := zc l) (n := l.length) hw).1
  exact this
abbrev spWindowAt (K : PySem.W.Frag) (a : Ad) : Sp := ProP K (T := D × D × D) (fun t => [t.1, t.2.1, t.2.2]) (fun t => CsPre t.1 ∧ WdPre t.2.1 ∧ Cl t.2.2) (fun t r => Told (ansW2 t.1 t.2.1 t.2.2) r) (fun t c d => Bad a (ansW2 t.1 t.2.1 t.2.2) c d)
abbrev st_window_at : Stmt := top 31
abbrev nm_window_at : List Str := ["cells", "width", "at"]
theorem sc_window_at : FnScope nm_window_at ["cells", "width", "at"] (defScope st_window_at) := ⟨rfl, rfl, rfl, by decide +kernel, rfl, by decide +kernel, by decide +kernel⟩
theorem ok_window_at (F : Fun K "window_at" "window_at" st_window_at f fd) (T : Tx P w K mg base a) (c_check_cells : CalX P w K mg base 4 "check_cells" ["value"] (spCheck K CsPre isCells a.eInvalidCells)) (c_check_width : CalX P w K mg base 3 "check_width" ["value"] (spChk K (isCtN 1) a.eInvalidWidth)) (c_check_count : CalX P w K mg base 3 "check_count" ["value", "least", "below"] (spCheckCount K a)) (c_windows_made : CalX P w K mg base 2 "windows_made" ["cells", "width"] (spWins K))
    (c_window_with : CalX P w K mg base 1 "window_with" ["windows", "at"] (spWindowWith K)) : FnOk P w K mg base (L2.CX P w) 5 f fd ["cells", "width", "at"] (spWindowAt K a) := by
  refine F.okX sc_window_at (fun vs H Q E h => pro_len h fun _ => rfl) (fun cdv A outer s H vs Q E hr h => ⟨_, (pss_cons (ps_expr (pe_c c_check_cells hr (by first | decide | exact Nat.le_refl _) rfl (passes_call (takes_of rfl rfl rfl rfl) (fun _ _ _ _ h => h)) (pa_cons (pv 0) pa_nil)))
    (pss_cons (ps_expr (pe_c c_check_width hr (by first | decide | exact Nat.le_refl _) rfl (passes_call (takes_of rfl rfl rfl rfl) (fun _ _ _ _ h => h)) (pa_cons (pv 1) pa_nil)))
    (pss_cons (ps_expr (pe_c c_check_count hr (by first | decide | exact Nat.le_refl _) rfl (passes_call (takes_of rfl rfl rfl rfl) (fun _ _ _ _ h => h)) (pa_cons (pv 2) (pa_cons pe_int (pa_cons (pe_callB (kC K rLenU rfl call_lenU) (by rfl) T.b_len (by decide +kernel) (pa_cons (pv 0) pa_nil)) pa_nil)))))
    (pss_one (ps_ret (pe_c c_window_with hr (by first | decide | exact Nat.le_refl _) rfl (passes_call (takes_of rfl rfl rfl rfl) (fun _ _ _ _ h => h)) (pa_cons (pe_c c_windows_made hr (by first | decide | exact Nat.le_refl _) rfl (passes_call (takes_of rfl rfl rfl rfl) (fun _ _ _ _ h => h)) (pa_cons (pv 0) (pa_cons (pv 1) pa_nil))) (pa_cons (pv 2) pa_nil)))))))), run_body h fun ⟨c, wd, g⟩ S ⟨hc, hw, hg⟩ hl hcl wi => ?_⟩)
  have hl : S.A.length = 0 := hl
  have hc : CsPre c := hc
  have hw : WdPre wd := hw
  have hg : Cl g := hg
  have hw0 : wd.lt 0 = true := hw.1.2
  have hg0 : g.lt 0 = true := hg.2
  walk_at "pp"
  refine ask_cs hc wi ?_
  walk_at "pp"
  refine ⟨rfl, fun o h1 h2 h3 => ⟨by rw [hl]; exact h1, by rw [hl]; rfl, .cells, if_pos h2, rfl⟩, fun l e hl' => ?_⟩
  subst e
  have ea : ansW2 (.lst l) wd g = if isCtN 1 wd = false then .bad .width wd else if inB 0 (some l.length) g = false then .bad .count g else .told (.int ((idxW (winsOf l (dotN wd)) (dotN g) : Nat) : Int)) := cO_in hl'
  have hcc : D.ltL 0 l = true := cells_cl hl'.2
  have hlz := hl'.1
  walk_at "pp"
  refine ee_c0 wi ?_
  walk_at "pp"
  refine ⟨wd, hw.1, rfl, by show (wd.lt 0 && true) = true; rw [hw0]; rfl, fun d ⟨_, hb⟩ _ => ?_, fun c d ⟨h1, h2, h3⟩ _ => ⟨by rw [h3, hl]; exact hw0, by rw [hl]; rfl, .width, by rw [if_pos h1] at ea; rw [show d = wd from h3]; exact ea, h2⟩⟩
  rw [if_neg (by rw [hb]; exact fun z => by cases z)] at ea
  have hwz := hw.2 hb
  obtain ⟨n, rfl, hn⟩ := ct_one hb
  have hwz : n ≤ 1000000 := hwz
  rw [show dotN (.int (n : Int)) = n from Int.toNat_natCast _] at ea
  walk_at "pp"
  refine ee_c0 wi ?_
  walk_at "pp"
  refine cc_len (.lst _) ?_
  walk_at "pp"
  refine ⟨(g, 0, some l.length), hg, rfl, by show (g.lt 0 && (true && (true && true))) = true; rw [hg0]; rfl, fun d ⟨_, hb2⟩ _ => ?_, fun c d ⟨h1, h2, h3⟩ _ => ⟨by rw [h3, hl]; exact hg0, by rw [hl]; rfl, .count, by rw [if_pos h1] at ea; rw [show d = g from h3]; exact ea, h2⟩⟩
  have hb2 : inB 0 (some l.length) g = true := hb2
  rw [if_neg (by rw [hb2]; exact fun z => by cases z)] at ea
  obtain ⟨k, rfl, hk⟩ := in_int hb2
  rw [show dotN (.int (k : Int)) = k from Int.toNat_natCast _] at ea
  walk_at "pp"
  refine ee_cz ?_
  walk_at "pp"
  refine ee_czS ?_
  walk_at "pp"
  refine ⟨(l, n), ⟨hl', hn, hwz⟩, rfl, by show (D.ltL 0 l && (true && true)) = true; rw [hcc]; rfl, ?_⟩
  rintro ws rfl _
  walk_at "pp"
  have hwl := wins_len (l := l) hn
  refine ⟨(winsOf l n, k), ⟨by show (winsOf l n).length ≤ _; omega, wins_at hn hk⟩, rfl, ?_, ?_⟩
  · show (D.ltL 0 ((winsOf l n).map winD) && (true && true)) = true
    rw [wins_cl]
    rfl
  rintro r rfl
  walk_at "gp"
  exact gaveP hl (by rfl) ea
def LwPre (m : D) : Prop := Cl m
theorem lw_first {z : Nat → Bool} {n m v : Nat} (hv : v < n) (h : (wins z n (v + 1)).length ≤ m) (h2 : ∀ u, u < v → ¬ (wins z n (u + 1)).length ≤ m) : lwid z n m = v + 1 := by
  unfold lwid
  have e : ((List.range n).map fun i => i + 1).find? (fun w => decide ((wins z n w).length ≤ m)) = some (v + 1) := by
    rw [List.find?_eq_some_iff_getElem]
    refine ⟨decide_eq_true h, v, by rw [List.length_map, List.length_range]; exact hv, by rw [List.getElem_map, List.getElem_range], fun j hj => ?_⟩
    rw [List.getElem_map, List.getElem_range, decide_eq_false (h2 j hj)]
    rfl
  rw [e]
  rfl
theorem lw_nil {z : Nat → Bool} {m : Nat} : lwid z 0 m = 1 := rfl
theorem one_int {d : D} (h : inB 1 none d = true) : ∃ k : Nat, d = .int (k : Int) ∧ 0 < k := ct_one (Bool.and_eq_true_iff.mp h).1
abbrev spLeast (K : PySem.W.Frag) (a : Ad) : Sp := ProP K (T := D × D) (fun t => [t.1, t.2]) (fun t => CsPre t.1 ∧ Cl t.2) (fun t r => Told (ansW3 t.1 t.2) r) (fun t c d => Bad a (ansW3 t.1 t.2) c d)
abbrev st_least_width : Stmt := top 32
abbrev nm_least_width : List Str := ["cells", "many", "width"]
theorem sc_least_width : FnScope nm_least_width ["cells", "many"] (defScope st_least_width) := ⟨rfl, rfl, rfl, by decide +kernel, rfl, by decide +kernel, by decide +kernel⟩
theorem ok_least_width (F : Fun K "least_width" "least_width" st_least_width f fd) (T : Tx P w K mg base a) (c_check_cells : CalX P w K mg base 4 "check_cells" ["value"] (spCheck K CsPre isCells a.eInvalidCells)) (cd_check_count : CalD P w K mg base 3 "check_count" ["value", "least", "below"] [.non] (spCheckCount K a)) (c_windows_made : CalX P w K mg base 2 "windows_made" ["cells", "width"] (spWins K)) : FnOk P w K mg base (L2.CX P w) 5 f fd ["cells", "many"] (spLeast K a) := by
  refine F.okX sc_least_width (fun vs H Q E h => pro_len h fun _ => rfl) (fun cdv A outer s H vs Q E hr h => ⟨_, (pss_cons (ps_expr (pe_c c_check_cells hr (by first | decide | exact Nat.le_refl _) rfl (passes_call (takes_of rfl rfl rfl rfl) (fun _ _ _ _ h => h)) (pa_cons (pv 0) pa_nil)))
    (pss_cons (ps_expr (pe_cD cd_check_count hr (by first | decide | exact Nat.le_refl _) rfl (passes_call (takes_of rfl rfl rfl rfl) (fun _ _ _ _ h => h)) (pa_cons (pv 1) (pa_cons pe_int pa_nil))))
    (pss_cons (ps_set (i := 2) sc_least_width.nd rfl (by first | exact Or.inl rfl | exact Or.inr rfl) pe_int)
    (pss_cons (ps_while (passes_of rfl) (pt_cmpR op_gt (pe_callB (kC K rLenU rfl call_lenU) (by rfl) T.b_len (by decide +kernel) (pa_cons (pe_c c_windows_made hr (by first | decide | exact Nat.le_refl _) rfl (passes_call (takes_of rfl rfl rfl rfl) (fun _ _ _ _ h => h)) (pa_cons (pv 0) (pa_cons (pv 2) pa_nil))) pa_nil)) (pv 1) (nomark _)) (pss_one (ps_set (i := 2) sc_least_width.nd rfl (by first | exact Or.inl rfl | exact Or.inr rfl) (pe_op (kO K rPlus rfl op_plus) (pv 2) pe_int))))
    (pss_one (ps_ret (pv 2))))))), run_body h fun ⟨c, g⟩ S ⟨hc, hg⟩ hl hcl wi => ?_⟩)
  have hl : S.A.length = 0 := hl
  have hc : CsPre c := hc
  have hg : Cl g := hg
  have hg0 : g.lt 0 = true := hg.2
  walk_at "pp"
  refine ask_cs hc wi ?_
  walk_at "pp"
  refine ⟨rfl, fun o h1 h2 h3 => ⟨by rw [hl]; exact h1, by rw [hl]; rfl, .cells, if_pos h2, rfl⟩, fun l e hl' => ?_⟩
  subst e
  have ea : ansW3 (.lst l) g = if inB 1 none g = false then .bad .count g else .told (.int ((lwid (zc l) l.length (dotN g) : Nat) : Int)) := cO_in hl'
  have hcc : D.ltL 0 l = true := cells_cl hl'.2
  have hlz := hl'.1
  walk_at "pp"
  refine ee_c0 wi ?_
  walk_at "pp"
  refine ⟨(g, 1, none), hg, rfl, by show (g.lt 0 && (true && true)) = true; rw [hg0]; rfl, fun d ⟨_, hb2⟩ _ => ?_, fun c d ⟨h1, h2, h3⟩ _ => ⟨by rw [h3, hl]; exact hg0, by rw [hl]; rfl, .count, by rw [if_pos h1] at ea; rw [show d = g from h3]; exact ea, h2⟩⟩
  have hb2 : inB 1 none g = true := hb2
  rw [if_neg (by rw [hb2]; exact fun z => by cases z)] at ea
  obtain ⟨m, rfl, hm⟩ := one_int hb2
  rw [show dotN (.int (m : Int)) = m from Int.toNat_natCast _] at ea
  walk_at "pp"
  refine se_while (fun q δ μ => ∃ v : Nat, q = l.length - v ∧ δ = [some (.lst l), some (.int (m : Int)), some (.int ((v + 1 : Nat) : Int))] ∧ μ = [] ∧ v ≤ l.length ∧ (v = l.length → l.length = 0) ∧ ∀ u, u < v → ¬ (winsOf l (u + 1)).length ≤ m) l.length ⟨0, rfl, rfl, rfl, Nat.zero_le _, fun h => h.symm, fun u hu => absurd hu (Nat.not_lt_zero u)⟩ ?_
  rintro q δ μ ⟨v, rfl, rfl, rfl, hv, hv0, hu⟩
  have hwl := wins_len (l := l) (w := v + 1) (Nat.succ_pos v)
  walk_at "pp"
  refine ee_czS ?_
  walk_at "pp"
  refine ⟨(l, v + 1), ⟨hl', Nat.succ_pos v, by
    show v + 1 ≤ 1000000
    rcases Nat.lt_or_ge v l.length with h | h
    · omega
    · have := hv0 (by omega)
      omega⟩, rfl, by show (D.ltL 0 l && (true && true)) = true; rw [hcc]; rfl, ?_⟩
  rintro ws rfl _
  walk_at "pp"
  refine cc_len (.lst _) ?_
  rw [List.length_map]
  walk_at "pp"
  refine ⟨fun hb => ?_, fun hb => ?_⟩
  · have hb : (m : Int) < ((winsOf l (v + 1)).length : Int) := of_decide_eq_true hb
    have hv2 : v < l.length := by omega
    walk_at "pp"
    refine ⟨l.length - (v + 1), by omega, v + 1, rfl, ?_, rfl, by omega, fun h => ?_, fun u hu2 => ?_⟩
    · rw [show ((v + 1 : Nat) : Int) + 1 = ((v + 1 + 1 : Nat) : Int) by omega]
      rfl
    · exfalso
      rw [h] at hb
      have := wins_wide (z := zc l) (n := l.length) (by omega)
      have : (winsOf l l.length).length ≤ 1 := this
      omega
    · by_cases e : u = v
      · subst e
        omega
      · exact hu u (by omega)
  · have hb : ¬ (m : Int) < ((winsOf l (v + 1)).length : Int) := of_decide_eq_false hb
    have er : lwid (zc l) l.length m = v + 1 := by
      by_cases h0 : l.length = 0
      · rw [h0, lw_nil]
        omega
      · have hv2 : v < l.length := by
          rcases Nat.lt_or_ge v l.length with h | h
          · exact h
          · exact absurd (hv0 (by omega)) h0
        exact lw_first hv2 (by show (winsOf l (v + 1)).length ≤ m; omega) fun u hu2 => hu u hu2
    rw [er] at ea
    walk_at "pp"
    walk_at "gp"
    exact gaveP hl (by rfl) ea
end


section
variable {P : Program} {w : World} {K : PySem.W.Frag} {mg : Str → Option Value} {base : Heap} {a : Ad} {f : Addr} {fd : FuncData}
theorem chain_parts {n w : Nat} : ∀ {ps : List (Nat × Nat)} {a : Nat}, chain n w a ps = true ↔ ps.map (·.1) = (a :: ps.map (·.2)).dropLast ∧ (a :: ps.map (·.2)).getLast? = some n ∧ ∀ p ∈ ps, p.1 < p.2 ∧ p.2 ≤ p.1 + w
  | [], a => by
    show decide (a = n) = true ↔ [] = [] ∧ some a = some n ∧ _
    simp
  | p :: ps, a => by
    rw [chain_cons, chain_parts (ps := ps)]
    have e1 : (a :: (p :: ps).map (·.2)).dropLast = a :: (p.2 :: ps.map (·.2)).dropLast := rfl
    have e2 : (a :: (p :: ps).map (·.2)).getLast? = (p.2 :: ps.map (·.2)).getLast? := by
      rw [List.map_cons, List.getLast?_cons_cons]
    rw [e1, e2, List.map_cons]
    constructor
    · rintro ⟨h1, h2, h3, h4, h5, h6⟩
      refine ⟨by rw [h1, h4], h5, fun q hq => ?_⟩
      rcases List.mem_cons.mp hq with rfl | hq
      · exact ⟨h2, h3⟩
      · exact h6 q hq
    · rintro ⟨h1, h2, h3⟩
      obtain ⟨q1, q2⟩ := List.cons.inj h1
      obtain ⟨r1, r2⟩ := h3 p List.mem_cons_self
      exact ⟨q1, r1, r2, q2, h2, fun q hq => h3 q (List.mem_cons_of_mem _ hq)⟩
theorem pyAll_ints : ∀ {L : List Nat}, D.pyAll (L.map intD) = some (L.map fun (i : Nat) => PyData.int (i : Int))
  | [] => rfl
  | i :: L => by
    show (match D.py (intD i), D.pyAll (L.map intD) with | some p, some ps => some (p :: ps) | _, _ => none) = _
    rw [pyAll_ints]
    rfl
theorem lay_ints : ∀ {L : List Nat}, PySem.PyData.canLayAll0 (L.map fun (i : Nat) => PyData.int (i : Int)) = true ∧ PySem.PyData.depthAll (L.map fun (i : Nat) => PyData.int (i : Int)) = 0
  | [] => ⟨rfl, rfl⟩
  | i :: L => by
    obtain ⟨h1, h2⟩ := lay_ints (L := L)
    refine ⟨?_, ?_⟩
    · show (true && _) = true
      rw [h1]
      rfl
    · show max 0 _ = 0
      rw [h2]
      rfl
theorem eqv_ints : ∀ {L M : List Nat}, PyData.eqvAll (L.map fun (i : Nat) => PyData.int (i : Int)) (M.map fun (i : Nat) => PyData.int (i : Int)) = decide (L = M)
  | [], [] => by simp [PyData.eqvAll]
  | [], _ :: _ => by simp [PyData.eqvAll]
  | _ :: _, [] => by simp [PyData.eqvAll]
  | i :: L, j :: M => by
    show (((i : Int) == (j : Int)) && PyData.eqvAll (L.map fun (i : Nat) => PyData.int (i : Int)) (M.map fun (i : Nat) => PyData.int (i : Int))) = _
    rw [eqv_ints]
    by_cases h : i = j
    · subst h
      simp
    · rw [beq_eq_false_iff_ne.mpr (fun z => h (by omega) : (i : Int) ≠ (j : Int))]
      simp [h]
theorem oo_neInts {S : Bs} {μ : List Cell} {C : D → List Cell → Prop} {L M : List Nat} (k : C (.bl (!decide (L = M))) μ) : OO K S (rNeU K) (.lst (L.map intD)) (.lst (M.map intD)) μ C := by
  have sh : ∀ {L : List Nat}, SeqAt.shaped (.list (L.map fun (i : Nat) => PyData.int (i : Int))) = true := fun {L} => by
    show (PySem.PyData.canLayAll0 _ && decide (PySem.PyData.depthAll _ + 1 ≤ 64)) = true
    rw [lay_ints.1, lay_ints.2]
    rfl
  have py : ∀ {L : List Nat}, D.py (.lst (L.map intD)) = some (.list (L.map fun (i : Nat) => PyData.int (i : Int))) := fun {L} => by
    show (D.pyAll (L.map intD)).map PyData.list = _
    rw [pyAll_ints]
    rfl
  refine oo_neD py py sh sh ?_
  show C (.bl (!PyData.eqvAll _ _)) μ
  rw [eqv_ints]
  exact k
theorem flat_bound {α β : Type} {f : α → List β} {B : Nat} : ∀ {l : List α}, (∀ x ∈ l, (f x).length ≤ B) → (l.flatMap f).length ≤ l.length * B
  | [], _ => Nat.zero_le _
  | x :: l, h => by
    have ih := flat_bound (l := l) fun y hy => h y (List.mem_cons_of_mem _ hy)
    have h1 := h x List.mem_cons_self
    rw [List.flatMap_cons, List.length_append, List.length_cons, Nat.succ_mul]
    omega
def tupB (x : D) : List Bool := match x with
  | .tup m => m.map (isCtN 0)
  | _ => []
theorem tup_all : ∀ {vs : List D}, vs.all (isTp 2) = true → (vs.flatMap tupB).all id = vs.all isPr
  | [], _ => rfl
  | x :: vs, h => by
    obtain ⟨h1, h2⟩ := Bool.and_eq_true_iff.mp (show (isTp 2 x && vs.all (isTp 2)) = true from h)
    rw [List.flatMap_cons, List.all_append, tup_all h2]
    cases x with
    | tup l =>
      have h1 : l.length = 2 := of_decide_eq_true h1
      match l, h1 with
      | [p, q], _ =>
        show ((isCtN 0 p && (isCtN 0 q && true)) && _) = ((isCtN 0 p && isCtN 0 q) && _)
        rw [Bool.and_true]
    | _ => cases h1
theorem cutD_last {x : D} {l : List D} : cutD (x :: l) none (some (-1)) = (x :: l).dropLast := by
  have e : HT.sIx (x :: l).length (x :: l).length (some (-1)) = (x :: l).length - 1 := by
    unfold HT.sIx
    simp only [List.length_cons]
    split <;> omega
  show ((x :: l).drop 0).take (HT.sIx (x :: l).length (x :: l).length (some (-1)) - 0) = _
  rw [e, List.drop_zero, Nat.sub_zero, List.dropLast_eq_take]
theorem inV_nat {k : Nat} : ∀ {L : List Nat}, inV (.int (k : Int)) (L.map fun (i : Nat) => V.int (i : Int)) = decide (k ∈ L)
  | [] => rfl
  | i :: L => by
    have e : inV (.int (k : Int)) ((i :: L).map fun (i : Nat) => V.int (i : Int)) = (((i : Int) == (k : Int)) || inV (.int (k : Int)) (L.map fun (i : Nat) => V.int (i : Int))) := rfl
    rw [e, inV_nat]
    by_cases h : k = i
    · subst h
      simp
    · have h2 : ((i : Int) == (k : Int)) = false := beq_eq_false_iff_ne.mpr fun z => h (by omega)
      rw [h2, Bool.false_or]
      exact decide_eq_decide.mpr (by simp [h])
theorem oo_inN {S : Bs} {μ : List Cell} {C : D → List Cell → Prop} {L : List Nat} {k : Nat} (c : C (.bl (decide (k ∈ L))) μ) : OO K S (rInU K) (.int (k : Int)) (.lst (L.map intD)) μ C := by
  have e : L.map intD = (L.map fun (i : Nat) => V.int (i : Int)).map D.v := by
    rw [List.map_map]
    rfl
  rw [e]
  refine oo_inL rfl (List.all_eq_true.mpr fun x hx => by obtain ⟨i, _, rfl⟩ := List.mem_map.mp hx; rfl) ?_
  rw [inV_nat]
  exact c
theorem enum_get : ∀ {l : List D} {k i : Nat}, (enumD k l)[i]? = l[i]?.map fun d => .tup [.int ((k + i : Nat) : Int), d]
  | [], _, _ => by simp [enumD]
  | x :: l, k, 0 => rfl
  | x :: l, k, i + 1 => by
    show (enumD (k + 1) l)[i]? = l[i]?.map _
    rw [enum_get, show k + 1 + i = k + (i + 1) by omega]
theorem enum_kL {g : Nat → Nat} {m : Nat} : enumD 0 (kL g m) = (List.range m).map fun (i : Nat) => D.tup [.int (i : Int), .int ((g i : Nat) : Int)] := by
  refine List.ext_getElem? fun i => ?_
  rw [enum_get, List.getElem?_map]
  by_cases h : i < m
  · rw [kL_at h, List.getElem?_range h, Nat.zero_add]
    rfl
  · rw [List.getElem?_eq_none (by rw [kL_len]; omega), List.getElem?_eq_none (by rw [List.length_range]; omega)]
    rfl
theorem enum_all {g : Nat → Nat} {m : Nat} {p : Nat → Bool} : (((List.range m).map fun (i : Nat) => D.tup [.int (i : Int), .int ((g i : Nat) : Int)]).filter fun x => decide (nI x 1 = 2)).map (fun x => D.bl (p (nI x 0))) = (((List.range m).filter fun i => decide (g i = 2)).map p).map D.bl := by
  rw [List.filter_map, List.map_map, List.map_map]
  have e1 : ((fun x => decide (nI x 1 = 2)) ∘ fun (i : Nat) => D.tup [.int (i : Int), .int ((g i : Nat) : Int)]) = fun i => decide (g i = 2) := by
    funext i
    show decide (((g i : Nat) : Int).toNat = 2) = _
    rw [Int.toNat_natCast]
  rw [e1]
  refine List.map_congr_left fun i _ => ?_
  show D.bl (p (((i : Nat) : Int).toNat)) = _
  rw [Int.toNat_natCast]
  rfl
theorem all_cong {α : Type} {p q : α → Bool} : ∀ {l : List α}, (∀ x ∈ l, p x = q x) → l.all p = l.all q
  | [], _ => rfl
  | x :: l, h => by
    rw [List.all_cons, List.all_cons, h x List.mem_cons_self, all_cong fun y hy => h y (List.mem_cons_of_mem _ hy)]
def BrPre (v : D) : Prop := Cl v ∧ ∀ l, v = .lst l → l.length ≤ 100000 ∧ ∀ x ∈ l, x.pl = true ∧ ∀ m, x = .tup m → ∀ y ∈ m, y.pl = true
theorem tp2 {d : D} (h : isTp 2 d = true) : ∃ x y, d = .tup [x, y] := by
  cases d with
  | tup l =>
    have h : l.length = 2 := of_decide_eq_true h
    match l, h with
    | [x, y], _ => exact ⟨x, y, rfl⟩
  | _ => cases h
theorem pr_tp {d : D} (h : isTp 2 d = false) : isPr d = false := by
  cases d with
  | tup l =>
    unfold isPr
    split
    · rename_i e
      cases e
      cases h
    · rfl
  | _ => rfl
theorem pr_eq {d : D} (h : isPr d = true) : d = winD (prN d) := by
  cases h2 : isTp 2 d with
  | false => rw [pr_tp h2] at h; cases h
  | true =>
    obtain ⟨x, y, rfl⟩ := tp2 h2
    obtain ⟨h1, h3⟩ := Bool.and_eq_true_iff.mp (show (isCtN 0 x && isCtN 0 y) = true from h)
    have nat : ∀ {d : D}, isCtN 0 d = true → ∃ i : Nat, d = .int (i : Int) := fun h => by
      obtain ⟨i, rfl⟩ := ct_int h
      have h : (0 : Int) ≤ i := of_decide_eq_true (show decide (((0 : Nat) : Int) ≤ i) = true from h)
      exact ⟨i.toNat, by rw [Int.toNat_of_nonneg h]⟩
    obtain ⟨i, rfl⟩ := nat h1
    obtain ⟨j, rfl⟩ := nat h3
    show _ = D.tup [.int ((((i : Nat) : Int).toNat : Nat) : Int), .int ((((j : Nat) : Int).toNat : Nat) : Int)]
    rw [Int.toNat_natCast, Int.toNat_natCast]
theorem pr_win {p : Nat × Nat} : isPr (winD p) = true ∧ prN (winD p) = p := by
  refine ⟨?_, ?_⟩
  · show (decide ((0 : Int) ≤ (p.1 : Int)) && decide ((0 : Int) ≤ (p.2 : Int))) = true
    rw [decide_eq_true (by omega), decide_eq_true (by omega)]
    rfl
  · show (((p.1 : Nat) : Int).toNat, ((p.2 : Nat) : Int).toNat) = p
    rw [Int.toNat_natCast, Int.toNat_natCast]
theorem prs_eq : ∀ {l : List D}, l.all isPr = true → l = (l.map prN).map winD
  | [], _ => rfl
  | d :: l, h => by
    obtain ⟨h1, h2⟩ := Bool.and_eq_true_iff.mp (show (isPr d && l.all isPr) = true from h)
    rw [List.map_cons, List.map_cons, ← prs_eq h2, ← pr_eq h1]
theorem isBr_wins {cs : List D} {w : Nat} {ps : List (Nat × Nat)} : isBr cs w (.lst (ps.map winD)) = brk (zc cs) cs.length w ps := by
  show ((ps.map winD).all isPr && brk (zc cs) cs.length w ((ps.map winD).map prN)) = _
  rw [show (ps.map winD).all isPr = true from List.all_eq_true.mpr fun x hx => by obtain ⟨p, _, rfl⟩ := List.mem_map.mp hx; exact pr_win.1, show (ps.map winD).map prN = ps by
    rw [List.map_map]
    conv => rhs; rw [← List.map_id ps]
    exact List.map_congr_left fun p _ => pr_win.2]
  rfl
abbrev spBreaking (K : PySem.W.Frag) (a : Ad) : Sp := ProP K (T := D × D × D) (fun t => [t.1, t.2.1, t.2.2]) (fun t => CsPre t.1 ∧ WdPre t.2.1 ∧ BrPre t.2.2) (fun t r => Told (ansW1 t.1 t.2.1 t.2.2) r) (fun t c d => Bad a (ansW1 t.1 t.2.1 t.2.2) c d)
abbrev st_is_breaking : Stmt := top 29
abbrev nm_is_breaking : List Str := ["cells", "width", "value", "one", "at", "kinds", "ends", "_", "last", "first", "begun", "kind"]
theorem sc_is_breaking : FnScope nm_is_breaking ["cells", "width", "value"] (defScope st_is_breaking) := ⟨rfl, rfl, rfl, by decide +kernel, rfl, by decide +kernel, by decide +kernel⟩
theorem ok_is_breaking (F : Fun K "is_breaking" "is_breaking" st_is_breaking f fd) (T : Tx P w K mg base a) (c_check_cells : CalX P w K mg base 4 "check_cells" ["value"] (spCheck K CsPre isCells a.eInvalidCells)) (c_check_width : CalX P w K mg base 3 "check_width" ["value"] (spChk K (isCtN 1) a.eInvalidWidth)) (c_is_tuple_of : CalX P w K mg base 1 "is_tuple_of" ["value", "size"] (ProP K (T := D × Nat) (fun t => [t.1, .int (t.2 : Int)]) (fun t => t.1.pl = true) (fun t r => r = .bl (isTp t.2 t.1)) (fun _ _ _ => False)))
    (cd_is_count : CalD P w K mg base 2 "is_count" ["value", "least"] [.int 0] (spCount K)) (c_parting_kinds : CalX P w K mg base 1 "parting_kinds" ["cells", "width"] (spKinds K)) : FnOk P w K mg base (L2.CX P w) 5 f fd ["cells", "width", "value"] (spBreaking K a) := by
  refine F.okX sc_is_breaking (fun vs H Q E h => pro_len h fun _ => rfl) (fun cdv A outer s H vs Q E hr h => ⟨_, (pss_cons (ps_expr (pe_c c_check_cells hr (by first | decide | exact Nat.le_refl _) rfl (passes_call (takes_of rfl rfl rfl rfl) (fun _ _ _ _ h => h)) (pa_cons (pv 0) pa_nil)))
    (pss_cons (ps_expr (pe_c c_check_width hr (by first | decide | exact Nat.le_refl _) rfl (passes_call (takes_of rfl rfl rfl rfl) (fun _ _ _ _ h => h)) (pa_cons (pv 1) pa_nil)))
    (pss_cons (ps_if (PW.pt (pw_or (pt_not (pt_val (pe_callB (kC K rIsiU rfl call_isU) (by rfl) T.b_isinstance (by decide +kernel) (pa_cons (pv 2) (pa_cons (pe_bltn (v := .ty "list") (by rfl) T.b_list (by decide +kernel) rfl) pa_nil))))) (pw_or1 (pt_not (pt_val (pe_callB (kC K rAll rfl (cr_all rfl)) (by rfl) T.b_all (by decide +kernel) (pa_cons (pe_lc (own := [("one", 3)]) (tt := tYes) (g := (gName 3)) rfl sc_is_breaking.nd (pi_listK (K := K) rfl (pv 2)) (blkOk_by (own := [("one", 3)]) (N := nm_is_breaking) (sc := (defScope st_is_breaking)) (by decide +kernel)) (fun _ _ _ _ _ => (pg_name (i := 3) sc_is_breaking.nd rfl (by first | exact Or.inl rfl | exact Or.inr rfl))) (fun _ _ _ _ _ => pts_nil) (fun _ _ _ _ _ => (pe_c c_is_tuple_of hr (by first | decide | exact Nat.le_refl _) rfl passL (pa_cons (pv 3) (pa_cons pe_int pa_nil))))) pa_nil))))))) (pss_one (ps_ret pe_bl)) pss_nil)
    (pss_cons (ps_if (pt_not (pt_val (pe_callB (kC K rAll rfl (cr_all rfl)) (by rfl) T.b_all (by decide +kernel) (pa_cons (pe_lc2 (own := [("one", 3), ("at", 4)]) (vs1 := [4]) (tt := tYes) (tt1 := tYes) (g := (gName 3)) (g1 := (gName 4)) rfl sc_is_breaking.nd (pi_listK (K := K) rfl (pv 2)) (blkOk_by (own := [("one", 3), ("at", 4)]) (N := nm_is_breaking) (sc := (defScope st_is_breaking)) (by decide +kernel)) (by decide) (fun _ _ _ _ _ => (pg_name (i := 3) sc_is_breaking.nd rfl (by first | exact Or.inl rfl | exact Or.inr rfl))) (fun _ _ _ _ _ => pts_nil) (fun _ _ _ _ _ => (pi_tupK (K := K) rfl (pv 3))) (fun _ _ _ _ _ => (pg_name (i := 4) sc_is_breaking.nd rfl (by first | exact Or.inl rfl | exact Or.inr rfl))) (fun _ _ _ _ _ => pts_nil) (fun _ _ _ _ _ => (pe_cD cd_is_count hr (by first | decide | exact Nat.le_refl _) rfl passL (pa_cons (pv 4) pa_nil)))) pa_nil)))) (pss_one (ps_ret pe_bl)) pss_nil)
    (pss_cons (ps_set (i := 5) sc_is_breaking.nd rfl (by first | exact Or.inl rfl | exact Or.inr rfl) (pe_c c_parting_kinds hr (by first | decide | exact Nat.le_refl _) rfl (passes_call (takes_of rfl rfl rfl rfl) (fun _ _ _ _ h => h)) (pa_cons (pv 0) (pa_cons (pv 1) pa_nil))))
    (pss_cons (ps_set (i := 6) sc_is_breaking.nd rfl (by first | exact Or.inl rfl | exact Or.inr rfl) (pe_op (kO K rPlus rfl op_plus) (pe_lst (pa_cons pe_int pa_nil)) (pe_lc (own := [("_", 7), ("last", 8)]) (tt := tYes) (g := (gTup K 2 (gCons (gName 7) (gCons (gName 8) gNil)))) rfl sc_is_breaking.nd (pi_listK (K := K) rfl (pv 2)) (blkOk_by (own := [("_", 7), ("last", 8)]) (N := nm_is_breaking) (sc := (defScope st_is_breaking)) (by decide +kernel)) (fun _ _ _ _ _ => (pg_tupK (K := K) rfl rfl (pgs_cons (pg_name (i := 7) sc_is_breaking.nd rfl (by first | exact Or.inl rfl | exact Or.inr rfl)) (pgs_cons (pg_name (i := 8) sc_is_breaking.nd rfl (by first | exact Or.inl rfl | exact Or.inr rfl)) pgs_nil)))) (fun _ _ _ _ _ => pts_nil) (fun _ _ _ _ _ => (pv 8)))))
    (pss_cons (ps_if (PW.pt (pw_or (pt_cmpR (kO K rNeU rfl (op_neU (hu64 hr))) (pe_lc (own := [("first", 9), ("_", 7)]) (tt := tYes) (g := (gTup K 2 (gCons (gName 9) (gCons (gName 7) gNil)))) rfl sc_is_breaking.nd (pi_listK (K := K) rfl (pv 2)) (blkOk_by (own := [("first", 9), ("_", 7)]) (N := nm_is_breaking) (sc := (defScope st_is_breaking)) (by decide +kernel)) (fun _ _ _ _ _ => (pg_tupK (K := K) rfl rfl (pgs_cons (pg_name (i := 9) sc_is_breaking.nd rfl (by first | exact Or.inl rfl | exact Or.inr rfl)) (pgs_cons (pg_name (i := 7) sc_is_breaking.nd rfl (by first | exact Or.inl rfl | exact Or.inr rfl)) pgs_nil)))) (fun _ _ _ _ _ => pts_nil) (fun _ _ _ _ _ => (pv 9))) (pe_slice (kS K rSlU rfl sl_U) (pv 6) po_none (po_some (pe_un un_neg pe_int))) (nomark _)) (pw_or1 (pt_cmpR (kO K rNeU rfl (op_neU (hu64 hr))) (pe_ix (kX K rIx rfl ix_seq) (pv 6) (pe_un un_neg pe_int) (fun _ _ => rfl)) (pe_callB (kC K rLenU rfl call_lenU) (by rfl) T.b_len (by decide +kernel) (pa_cons (pv 0) pa_nil)) (nomark _))))) (pss_one (ps_ret pe_bl)) pss_nil)
    (pss_cons (ps_if (pt_not (pt_val (pe_callB (kC K rAll rfl (cr_all rfl)) (by rfl) T.b_all (by decide +kernel) (pa_cons (pe_lc (own := [("first", 9), ("last", 8)]) (tt := tYes) (g := (gTup K 2 (gCons (gName 9) (gCons (gName 8) gNil)))) rfl sc_is_breaking.nd (pi_listK (K := K) rfl (pv 2)) (blkOk_by (own := [("first", 9), ("last", 8)]) (N := nm_is_breaking) (sc := (defScope st_is_breaking)) (by decide +kernel)) (fun _ _ _ _ _ => (pg_tupK (K := K) rfl rfl (pgs_cons (pg_name (i := 9) sc_is_breaking.nd rfl (by first | exact Or.inl rfl | exact Or.inr rfl)) (pgs_cons (pg_name (i := 8) sc_is_breaking.nd rfl (by first | exact Or.inl rfl | exact Or.inr rfl)) pgs_nil)))) (fun _ _ _ _ _ => pts_nil) (fun _ _ _ _ _ => (pe_chain op_less op_leq pe_int (pe_op op_sub (pv 8) (pv 9)) (pv 1)))) pa_nil)))) (pss_one (ps_ret pe_bl)) pss_nil)
    (pss_cons (ps_set (i := 10) sc_is_breaking.nd rfl (by first | exact Or.inl rfl | exact Or.inr rfl) (pe_lc (own := [("first", 9), ("_", 7)]) (tt := tYes) (g := (gTup K 2 (gCons (gName 9) (gCons (gName 7) gNil)))) rfl sc_is_breaking.nd (pi_listK (K := K) rfl (pv 2)) (blkOk_by (own := [("first", 9), ("_", 7)]) (N := nm_is_breaking) (sc := (defScope st_is_breaking)) (by decide +kernel)) (fun _ _ _ _ _ => (pg_tupK (K := K) rfl rfl (pgs_cons (pg_name (i := 9) sc_is_breaking.nd rfl (by first | exact Or.inl rfl | exact Or.inr rfl)) (pgs_cons (pg_name (i := 7) sc_is_breaking.nd rfl (by first | exact Or.inl rfl | exact Or.inr rfl)) pgs_nil)))) (fun _ _ _ _ _ => pts_nil) (fun _ _ _ _ _ => (pv 9))))
    (pss_one (ps_ret (pe_and (pe_callB (kC K rAll rfl (cr_all rfl)) (by rfl) T.b_all (by decide +kernel) (pa_cons (pe_lc (own := [("at", 4)]) (tt := tYes) (g := (gName 4)) rfl sc_is_breaking.nd (pi_listK (K := K) rfl (pv 10)) (blkOk_by (own := [("at", 4)]) (N := nm_is_breaking) (sc := (defScope st_is_breaking)) (by decide +kernel)) (fun _ _ _ _ _ => (pg_name (i := 4) sc_is_breaking.nd rfl (by first | exact Or.inl rfl | exact Or.inr rfl))) (fun _ _ _ _ _ => pts_nil) (fun _ _ _ _ _ => (pe_cmpR op_gt (pe_ix (kX K rIx rfl ix_seq) (pv 5) (pv 4) (fun _ _ => rfl)) pe_int (nomark _)))) pa_nil)) (pe_one (pe_callB (kC K rAll rfl (cr_all rfl)) (by rfl) T.b_all (by decide +kernel) (pa_cons (pe_lc (own := [("at", 4), ("kind", 11)]) (g := (gTup K 2 (gCons (gName 4) (gCons (gName 11) gNil)))) rfl sc_is_breaking.nd (pi_enumK (K := K) rfl (by rfl) T.b_enumerate (pa_cons (pv 5) pa_nil)) (blkOk_by (own := [("at", 4), ("kind", 11)]) (N := nm_is_breaking) (sc := (defScope st_is_breaking)) (by decide +kernel)) (fun _ _ _ _ _ => (pg_tupK (K := K) rfl rfl (pgs_cons (pg_name (i := 4) sc_is_breaking.nd rfl (by first | exact Or.inl rfl | exact Or.inr rfl)) (pgs_cons (pg_name (i := 11) sc_is_breaking.nd rfl (by first | exact Or.inl rfl | exact Or.inr rfl)) pgs_nil)))) (fun _ _ _ _ _ => (pts_one (pt_cmpR (kO K rEqU rfl (op_eqU (hu64 hr))) (pv 11) pe_int (nomark _)))) (fun _ _ _ _ _ => (pe_cmpR (kO K rInU rfl op_inU) (pv 4) (pv 10) (by with_unfolding_all rfl)))) pa_nil))))))))))))))), run_body h fun ⟨c, wd, v⟩ S ⟨hc, hw, hv⟩ hl hcl wi => ?_⟩)
  have hl : S.A.length = 0 := hl
  have hc : CsPre c := hc
  have hw : WdPre wd := hw
  have hv : BrPre v := hv
  have hw0 : wd.lt 0 = true := hw.1.2
  have hv0 : v.lt 0 = true := hv.1.2
  have hvp : v.pl = true := hv.1.1
  walk_at "pp"
  refine ask_cs hc wi ?_
  walk_at "pp"
  refine ⟨rfl, fun o h1 h2 h3 => ⟨by rw [hl]; exact h1, by rw [hl]; rfl, .cells, if_pos h2, rfl⟩, fun l e hl' => ?_⟩
  subst e
  have ea : ansW1 (.lst l) wd v = if isCtN 1 wd = false then .bad .width wd else .told (.bl (isBr l (dotN wd) v)) := cO_in hl'
  have hcc : D.ltL 0 l = true := cells_cl hl'.2
  have hlz := hl'.1
  walk_at "pp"
  refine ee_c0 wi ?_
  walk_at "pp"
  refine ⟨wd, hw.1, rfl, by show (wd.lt 0 && true) = true; rw [hw0]; rfl, fun d ⟨_, hb⟩ _ => ?_, fun c d ⟨h1, h2, h3⟩ _ => ⟨by rw [h3, hl]; exact hw0, by rw [hl]; rfl, .width, by rw [if_pos h1] at ea; rw [show d = wd from h3]; exact ea, h2⟩⟩
  rw [if_neg (by rw [hb]; exact fun z => by cases z)] at ea
  have hwz := hw.2 hb
  obtain ⟨n, rfl, hn⟩ := ct_one hb
  have hwz : n ≤ 1000000 := hwz
  rw [show dotN (.int (n : Int)) = n from Int.toNat_natCast _] at ea
  have fin : ∀ b : Bool, b = isBr l n v → Gave S (fun r μ => μ = [] ∧ ansW1 (.lst l) (.int (n : Int)) v = .told r) (.bl b) [] := fun b e => gaveP hl (by rfl) (by rw [e]; exact ea)
  walk_at "pp"
  refine ⟨fun hb3 => ?_, fun hb3 => ?_⟩
  · have hb3 : v.is "list" = false := by simpa using hb3
    refine ⟨fun _ => ?_, fun z => by cases z⟩
    walk_at "pp"
    walk_at "gp"
    refine fin _ ?_
    cases v with
    | lst l => revert hb3; simp [D.is, D.ty]
    | _ => rfl
  obtain ⟨vs, rfl⟩ := is_lst hvp (by simpa using hb3)
  obtain ⟨hvz, hve⟩ := hv.2 vs rfl
  have hvc : ∀ x ∈ vs, x.lt 0 = true := D.ltL_all.mp (show D.ltL 0 vs = true from hv0)
  walk_at "pp"
  refine ee_lc (ie_list ?_)
  walk_at "pp"
  refine ⟨vs, .inl rfl, fun _ h => h, trivial, fun _ => true, fun x => .bl (isTp 2 x), by omega, fun _ _ _ => rfl, fun x acc hx => ?_, ?_⟩
  · refine gw_name (by decide) ?_
    refine et_yes ?_
    refine ⟨rfl, rfl, fun _ => ?_⟩
    refine ee_cz ?_
    walk_at "pp"
    refine ⟨(x, 2), (hve x hx).1, rfl, by show (x.lt 0 && (true && true)) = true; rw [hvc x hx]; rfl, ?_⟩
    rintro r rfl
    exact ⟨rfl, rfl⟩
  rw [show ((vs.filter fun _ => true).map fun x => D.bl (isTp 2 x)) = (vs.map (isTp 2)).map D.bl by
    rw [List.filter_eq_self.mpr fun _ _ => rfl, List.map_map]
    rfl]
  walk_at "pp"
  refine cc_all (.lst _) ?_
  rw [show (vs.map (isTp 2)).all id = vs.all (isTp 2) by rw [List.all_map]; rfl]
  walk_at "pp"
  refine ⟨fun hb4 => ?_, fun hb4 => ?_⟩
  · have hb4 : vs.all (isTp 2) = false := by simpa using hb4
    walk_at "pp"
    walk_at "gp"
    refine fin _ ?_
    show false = (vs.all isPr && _)
    cases hq : vs.all isPr with
    | false => rfl
    | true =>
      have : vs.all (isTp 2) = true := List.all_eq_true.mpr fun x hx => by
        cases h : isTp 2 x with
        | true => rfl
        | false =>
          have := List.all_eq_true.mp hq x hx
          rw [pr_tp h] at this
          cases this
      rw [hb4] at this
      cases this
  have hb4 : vs.all (isTp 2) = true := by simpa using hb4
  walk_at "pp"
  have hvt : ∀ x ∈ vs, ∃ p q, x = .tup [p, q] := fun x hx => tp2 (List.all_eq_true.mp hb4 x hx)
  refine ee_lc2M (f := fun _ => true) (m := fun x => (tupB x).map D.bl) (e := fun y => .bl (isCtN 0 y)) (L := vs) ?_ ?_ (ie_list ?_) (fun x acc hx => ?_) ?_
  · have h := flat_bound (f := fun x => (tupB x).map D.bl) (B := 2) (l := vs) fun x hx => by
      obtain ⟨p, q, rfl⟩ := hvt x hx
      exact Nat.le_refl _
    rw [List.filter_eq_self.mpr fun _ _ => rfl]
    omega
  · refine D.ltL_all.mpr fun x hx => ?_
    obtain ⟨y, _, hy⟩ := List.mem_flatMap.mp hx
    obtain ⟨b, _, rfl⟩ := List.mem_map.mp hy
    rfl
  · walk_at "pp"
    exact ⟨vs, .inl rfl, rfl, rfl, rfl⟩
  · obtain ⟨p, q, rfl⟩ := hvt x hx
    refine gw_name (by decide) ?_
    refine et_yes ?_
    refine ⟨rfl, rfl, fun _ => ?_⟩
    refine ie_tup ?_
    walk_at "pp"
    refine ⟨rfl, rfl, rfl, fun y acc' hy => ?_⟩
    have hy1 : y.pl = true := (hve _ hx).2 _ rfl y hy
    have hy2 : y.lt 0 = true := D.ltL_all.mp (show D.ltL 0 [p, q] = true from hvc _ hx) y hy
    refine gw_name (by decide) ?_
    refine et_yes ?_
    refine ⟨rfl, rfl, ?_⟩
    refine ee_czD ?_
    walk_at "pp"
    refine ⟨(y, 0), ⟨hy1, hy2⟩, rfl, by show (y.lt 0 && true) = true; rw [hy2]; rfl, ?_⟩
    rintro r rfl
    exact ⟨rfl, rfl⟩
  rw [show ((vs.filter fun _ => true).flatMap fun x => (tupB x).map D.bl) = (vs.flatMap tupB).map D.bl by
    rw [List.filter_eq_self.mpr fun _ _ => rfl, List.map_flatMap]]
  walk_at "pp"
  refine cc_all (.lst _) ?_
  rw [tup_all hb4]
  walk_at "pp"
  refine ⟨fun hb5 => ?_, fun hb5 => ?_⟩
  · have hb5 : vs.all isPr = false := by simpa using hb5
    walk_at "pp"
    walk_at "gp"
    refine fin _ ?_
    show false = (vs.all isPr && _)
    rw [hb5]
    rfl
  have hb5 : vs.all isPr = true := by simpa using hb5
  obtain ⟨ps, rfl⟩ : ∃ ps : List (Nat × Nat), vs = ps.map winD := ⟨_, prs_eq hb5⟩
  rw [List.length_map] at hvz
  have fin : ∀ b : Bool, b = brk (zc l) l.length n ps → Gave S (fun r μ => μ = [] ∧ ansW1 (.lst l) (.int (n : Int)) (.lst (ps.map winD)) = .told r) (.bl b) [] := fun b e => fin b (by rw [e, isBr_wins])
  have hwin : ∀ x ∈ ps.map winD, ∃ u v : Nat, x = .tup [.int (u : Int), .int (v : Int)] ∧ nI x 0 = u ∧ nI x 1 = v := fun x hx => by
    obtain ⟨⟨u, v⟩, _, rfl⟩ := List.mem_map.mp hx
    exact ⟨u, v, rfl, Int.toNat_natCast _, Int.toNat_natCast _⟩
  have e0 : (ps.map winD).map (fun x => D.int ((nI x 0 : Nat) : Int)) = (ps.map (·.1)).map intD := by
    rw [List.map_map, List.map_map]
    refine List.map_congr_left fun p _ => ?_
    show D.int ((((p.1 : Nat) : Int).toNat : Nat) : Int) = _
    rw [Int.toNat_natCast]
    rfl
  have e1 : (ps.map winD).map (fun x => D.int ((nI x 1 : Nat) : Int)) = (ps.map (·.2)).map intD := by
    rw [List.map_map, List.map_map]
    refine List.map_congr_left fun p _ => ?_
    show D.int ((((p.2 : Nat) : Int).toNat : Nat) : Int) = _
    rw [Int.toNat_natCast]
    rfl
  walk_at "pp"
  refine ee_czS ?_
  walk_at "pp"
  refine ⟨(l, n), ⟨hl', hn, hwz⟩, rfl, by show (D.ltL 0 l && (true && true)) = true; rw [hcc]; rfl, ?_⟩
  rintro ks rfl _
  dsimp only
  walk_at "pp"
  refine ee_lst ?_
  walk_at "pp"
  refine ee_lc (ie_list ?_)
  walk_at "pp"
  refine ⟨_, .inl rfl, fun _ h => h, trivial, fun _ => true, fun x => .int ((nI x 1 : Nat) : Int), by rw [List.length_map]; omega, fun _ _ _ => rfl, fun x acc hx => ?_, ?_⟩
  · obtain ⟨u, v, rfl, q0, q1⟩ := hwin x hx
    refine gw_pair (by decide) (by decide) ?_
    refine et_yes ?_
    refine ⟨rfl, rfl, fun _ => ?_⟩
    walk_at "pp"
    refine ⟨?_, rfl⟩
    show _ = D.int ((nI _ 1 : Nat) : Int)
    rw [q1]
  rw [List.filter_eq_self.mpr fun _ _ => rfl, e1]
  refine oo_addL (by rw [List.length_map, List.length_map]; show 1 + _ ≤ _; omega) ?_
  show SE K S _ [some (.lst l), some (.int (n : Int)), some (.lst (ps.map winD)), none, none, some (.lst (kL (kd (zc l) l.length n) l.length)), some (.lst ((0 :: ps.map (·.2)).map intD)), none, none, none, none, none] [] _
  refine se_seq (se_if (et_val (P := ¬ (ps.map (·.1) = (0 :: ps.map (·.2)).dropLast ∧ (0 :: ps.map (·.2)).getLast? = some l.length)) ?_ fun b hb => ⟨fun h => ?_, fun h => ?_⟩))
  · walk_at "pp"
    refine ee_lc (ie_list ?_)
    walk_at "pp"
    refine ⟨_, .inl rfl, fun _ h => h, trivial, fun _ => true, fun x => .int ((nI x 0 : Nat) : Int), by rw [List.length_map]; omega, fun _ _ _ => rfl, fun x acc hx => ?_, ?_⟩
    · obtain ⟨u, v, rfl, q0, q1⟩ := hwin x hx
      refine gw_pair (by decide) (by decide) ?_
      refine et_yes ?_
      refine ⟨rfl, rfl, fun _ => ?_⟩
      walk_at "pp"
      refine ⟨?_, rfl⟩
      show _ = D.int ((nI _ 0 : Nat) : Int)
      rw [q0]
    rw [List.filter_eq_self.mpr fun _ _ => rfl, e0]
    walk_at "pp"
    refine ss_lst ?_
    rw [show cutD ((0 :: ps.map (·.2)).map intD) none (some (-1)) = ((0 :: ps.map (·.2)).dropLast).map intD by rw [List.map_cons, cutD_last, ← List.map_cons, List.map_dropLast]]
    refine oo_neInts ?_
    obtain ⟨e, he⟩ : ∃ e, (0 :: ps.map (·.2)).getLast? = some e := ⟨_, List.getLast?_eq_some_getLast (List.cons_ne_nil _ _)⟩
    walk_at "pp"
    refine ⟨fun h1 => ?_, fun h1 => ?_⟩
    · have h1 : ¬ ps.map (·.1) = (0 :: ps.map (·.2)).dropLast := by simpa using h1
      exact ⟨rfl, fun _ z => h1 z.1, fun _ => rfl⟩
    · have h1 : ps.map (·.1) = (0 :: ps.map (·.2)).dropLast := by simpa using h1
      walk_at "pp"
      refine oo_ixL (d := intD e) (atI_neg (j := 1) (by decide) (by rw [List.length_map]; exact Nat.succ_le_succ (Nat.zero_le _)) ?_) ?_
      · rw [List.getElem?_map, List.length_map, ← List.getLast?_eq_getElem?, he]
        rfl
      walk_at "pp"
      refine cc_len (.lst _) ?_
      walk_at "pp"
      rw [int_eq]
      refine ⟨rfl, fun h2 => ?_, fun h2 => ?_⟩
      · have h2 : ¬ (e : Int) = (l.length : Int) := by simpa using h2
        rintro ⟨_, z⟩
        rw [he] at z
        cases z
        exact h2 rfl
      · by_cases q : (e : Int) = (l.length : Int)
        · exfalso
          refine h2 ⟨h1, ?_⟩
          rw [he, show e = l.length by omega]
        · simp [q]
  · have hP := hb.mp h
    walk_at "pp"
    walk_at "gp"
    refine fin _ ?_
    unfold brk
    rw [show chain l.length n 0 ps = false from by
      cases q : chain l.length n 0 ps with
      | false => rfl
      | true =>
        have := chain_parts.mp q
        exact absurd ⟨this.1, this.2.1⟩ hP]
    rfl
  have hP : ps.map (·.1) = (0 :: ps.map (·.2)).dropLast ∧ (0 :: ps.map (·.2)).getLast? = some l.length := Classical.not_not.mp fun z => by rw [hb.mpr z] at h; cases h
  walk_at "pp"
  refine ee_lc (ie_list ?_)
  walk_at "pp"
  refine ⟨_, .inl rfl, fun _ h => h, trivial, fun _ => true, fun x => .bl (decide (nI x 0 < nI x 1) && decide (nI x 1 ≤ nI x 0 + n)), by rw [List.length_map]; omega, fun _ _ _ => rfl, fun x acc hx => ?_, ?_⟩
  · obtain ⟨u, v, rfl, q0, q1⟩ := hwin x hx
    refine gw_pair (by decide) (by decide) ?_
    refine et_yes ?_
    refine ⟨rfl, rfl, fun _ => ?_⟩
    walk_at "pp"
    refine ⟨fun hb => ?_, fun hb => ?_⟩
    · have hb : ¬ (0 : Int) < (v : Int) - (u : Int) := of_decide_eq_false hb
      refine ⟨?_, rfl⟩
      show _ = D.bl (decide (nI _ 0 < nI _ 1) && _)
      rw [q0, q1, decide_eq_false (by omega)]
      rfl
    · have hb : (0 : Int) < (v : Int) - (u : Int) := of_decide_eq_true hb
      walk_at "pp"
      refine ⟨?_, rfl⟩
      show _ = D.bl (decide (nI _ 0 < nI _ 1) && decide (nI _ 1 ≤ nI _ 0 + n))
      rw [q0, q1, decide_eq_true (show u < v by omega)]
      exact congrArg D.bl (decide_eq_decide.mpr (by omega))
  rw [show (((ps.map winD).filter fun _ => true).map fun x => D.bl (decide (nI x 0 < nI x 1) && decide (nI x 1 ≤ nI x 0 + n))) = (ps.map fun p => decide (p.1 < p.2) && decide (p.2 ≤ p.1 + n)).map D.bl by
    rw [List.filter_eq_self.mpr fun _ _ => rfl, List.map_map, List.map_map]
    refine List.map_congr_left fun p _ => ?_
    show D.bl (decide (((p.1 : Nat) : Int).toNat < ((p.2 : Nat) : Int).toNat) && decide (((p.2 : Nat) : Int).toNat ≤ ((p.1 : Nat) : Int).toNat + n)) = _
    rw [Int.toNat_natCast, Int.toNat_natCast]
    rfl]
  walk_at "pp"
  refine cc_all (.lst _) ?_
  rw [show (ps.map fun p => decide (p.1 < p.2) && decide (p.2 ≤ p.1 + n)).all id = ps.all (fun p => decide (p.1 < p.2) && decide (p.2 ≤ p.1 + n)) by rw [List.all_map]; rfl]
  walk_at "pp"
  refine ⟨fun hb6 => ?_, fun hb6 => ?_⟩
  · have hb6 : ps.all (fun p => decide (p.1 < p.2) && decide (p.2 ≤ p.1 + n)) = false := by simpa using hb6
    walk_at "pp"
    walk_at "gp"
    refine fin _ ?_
    unfold brk
    rw [show chain l.length n 0 ps = false from by
      cases q : chain l.length n 0 ps with
      | false => rfl
      | true =>
        have hq := (chain_parts.mp q).2.2
        have : ps.all (fun p => decide (p.1 < p.2) && decide (p.2 ≤ p.1 + n)) = true := List.all_eq_true.mpr fun p hp => by
          rw [decide_eq_true (hq p hp).1, decide_eq_true (hq p hp).2]
          rfl
        rw [hb6] at this
        cases this]
    rfl
  have hb6 : ps.all (fun p => decide (p.1 < p.2) && decide (p.2 ≤ p.1 + n)) = true := by simpa using hb6
  have hch : chain l.length n 0 ps = true := chain_parts.mpr ⟨hP.1, hP.2, fun p hp => by
    obtain ⟨h1, h2⟩ := Bool.and_eq_true_iff.mp (List.all_eq_true.mp hb6 p hp)
    exact ⟨of_decide_eq_true h1, of_decide_eq_true h2⟩⟩
  have hbn : ∀ i ∈ ps.map (·.1), i < l.length := fun i hi => by
    obtain ⟨p, hp, rfl⟩ := List.mem_map.mp hi
    have := (chain_le hch).2 p hp
    show p.1 < l.length
    omega
  have fin : ∀ b : Bool, b = (ps.all (fun p => decide (0 < kk (zc l) l.length n p.1)) && (List.range l.length).all fun i => !decide (kk (zc l) l.length n i = 2) || decide (i ∈ ps.map (·.1))) → Gave S (fun r μ => μ = [] ∧ ansW1 (.lst l) (.int (n : Int)) (.lst (ps.map winD)) = .told r) (.bl b) [] := fun b e => fin b (by unfold brk; rw [hch, e]; rfl)
  have hkk : ∀ i, i < l.length → kd (zc l) l.length n i = kk (zc l) l.length n i := fun i hi => (if_pos hi).symm
  walk_at "pp"
  refine ee_lc (ie_list ?_)
  walk_at "pp"
  refine ⟨_, .inl rfl, fun _ h => h, trivial, fun _ => true, fun x => .int ((nI x 0 : Nat) : Int), by rw [List.length_map]; omega, fun _ _ _ => rfl, fun x acc hx => ?_, ?_⟩
  · obtain ⟨u, v, rfl, q0, q1⟩ := hwin x hx
    refine gw_pair (by decide) (by decide) ?_
    refine et_yes ?_
    refine ⟨rfl, rfl, fun _ => ?_⟩
    walk_at "pp"
    refine ⟨?_, rfl⟩
    show _ = D.int ((nI _ 0 : Nat) : Int)
    rw [q0]
  rw [List.filter_eq_self.mpr fun _ _ => rfl, e0]
  have hpl : (ps.map (·.1)).length ≤ 100000 := by rw [List.length_map]; exact hvz
  rw [show ps.all (fun p => decide (0 < kk (zc l) l.length n p.1)) = (ps.map (·.1)).all (fun i => decide (0 < kk (zc l) l.length n i)) by rw [List.all_map]; rfl] at fin
  generalize ps.map (·.1) = bg at *
  walk_at "pp"
  refine ee_lc (ie_list ?_)
  walk_at "pp"
  refine ⟨_, .inl rfl, fun _ h => h, trivial, fun _ => true, fun x => .bl (decide (0 < kk (zc l) l.length n (dotN x))), by rw [List.length_map]; omega, fun _ _ _ => rfl, fun x acc hx => ?_, ?_⟩
  · obtain ⟨i, hi, rfl⟩ := List.mem_map.mp hx
    have hin := hbn i hi
    refine gw_name (by decide) ?_
    refine et_yes ?_
    refine ⟨rfl, rfl, fun _ => ?_⟩
    walk_at "pp"
    refine oo_ixL (atI_of (kL_at hin) rfl) ?_
    walk_at "pp"
    refine ⟨?_, rfl⟩
    show _ = D.bl (decide (0 < kk (zc l) l.length n (((i : Nat) : Int).toNat)))
    rw [Int.toNat_natCast, ← hkk i hin]
    exact congrArg D.bl (decide_eq_decide.mpr (by omega))
  rw [show (((bg.map intD).filter fun _ => true).map fun x => D.bl (decide (0 < kk (zc l) l.length n (dotN x)))) = (bg.map fun i => decide (0 < kk (zc l) l.length n i)).map D.bl by
    rw [List.filter_eq_self.mpr fun _ _ => rfl, List.map_map, List.map_map]
    refine List.map_congr_left fun i _ => ?_
    show D.bl (decide (0 < kk (zc l) l.length n (((i : Nat) : Int).toNat))) = _
    rw [Int.toNat_natCast]
    rfl]
  walk_at "pp"
  refine cc_all (.lst _) ?_
  rw [show (bg.map fun i => decide (0 < kk (zc l) l.length n i)).all id = bg.all (fun i => decide (0 < kk (zc l) l.length n i)) by rw [List.all_map]; rfl]
  walk_at "pp"
  refine ⟨fun hb7 => ?_, fun hb7 => ?_⟩
  · rw [hb7] at fin
    refine ee_cb ?_
    refine ea_cons ?_
    refine ee_lc (ie_enum ?_)
    walk_at "pp"
    rw [enum_kL]
    refine ⟨fun _ h => h, trivial, fun x => decide (nI x 1 = 2), fun x => .bl (decide (nI x 0 ∈ bg)), by rw [List.length_map, List.length_range]; omega, fun _ _ _ => rfl, fun x acc hx => ?_, ?_⟩
    · obtain ⟨i, hi, rfl⟩ := List.mem_map.mp hx
      have q0 : nI (.tup [.int (i : Int), .int ((kd (zc l) l.length n i : Nat) : Int)]) 0 = i := Int.toNat_natCast _
      have q1 : nI (.tup [.int (i : Int), .int ((kd (zc l) l.length n i : Nat) : Int)]) 1 = kd (zc l) l.length n i := Int.toNat_natCast _
      refine gw_pair (by decide) (by decide) ?_
      walk_at "pp"
      rw [int_eq]
      refine ⟨?_, rfl, fun _ => ?_⟩
      · show _ = decide (nI _ 1 = 2)
        rw [q1]
        exact decide_eq_decide.mpr (by omega)
      · walk_at "pp"
        refine oo_inN ?_
        refine ⟨?_, rfl⟩
        show _ = D.bl (decide (nI _ 0 ∈ bg))
        rw [q0]
    walk_at "pp"
    rw [enum_all (g := kd (zc l) l.length n) (p := fun i => decide (i ∈ bg))]
    refine cc_all (.lst _) ?_
    walk_at "gp"
    refine fin _ ?_
    rw [Bool.true_and, List.all_map, List.all_filter]
    refine all_cong fun i hi => ?_
    rw [hkk i (List.mem_range.mp hi)]
    rfl
  · walk_at "gp"
    refine fin _ ?_
    rw [hb7]
    rfl
end


section
variable {P : Program} {w : World} {K : PySem.W.Frag} {mg : Str → Option Value} {base : Heap} {a : Ad} {f : Addr} {fd : FuncData}
/-! ### alike in all -/
def exOk : Nat → D → Bool
  | 0, _ => false
  | _ + 1, .v .non => true
  | _ + 1, .v (.bl _) => true
  | _ + 1, .v (.int _) => true
  | _ + 1, .v (.str _) => true
  | n + 1, .lst l => decide (l.length ≤ 1000000) && l.all (fun x => exOk n x)
  | n + 1, .tup l => decide (l.length ≤ 1000000) && l.all (fun x => exOk n x)
  | _ + 1, .dic [] [] => true
  | _ + 1, _ => false
abbrev spExact (K : PySem.W.Frag) (n : Nat) : Sp := ProP K (T := D) (fun d => [d, d]) (fun d => exOk n d = true) (fun d r => r = .bl true) (fun _ _ _ => False)
theorem exOk_pl {n : Nat} {d : D} (h : exOk n d = true) : d.pl = true := by
  cases n with
  | zero => cases h
  | succ n =>
    cases d with
    | v x => cases x <;> first | rfl | (cases h; done)
    | lst l => rfl
    | rd l => cases h
    | tup l => rfl
    | dic ks l => rfl
    | exc c d => cases h
    | own k => cases h
theorem zip_self : ∀ {l : List D} {x : D}, x ∈ zipD l l → ∃ y ∈ l, x = .tup [y, y]
  | [], _, h => by cases h
  | z :: l, x, h => by
    rcases List.mem_cons.mp (show x ∈ D.tup [z, z] :: zipD l l from h) with e | h
    · exact ⟨z, List.mem_cons_self, e⟩
    · obtain ⟨y, h1, h2⟩ := zip_self h
      exact ⟨y, List.mem_cons_of_mem _ h1, h2⟩
abbrev st__law_exact : Stmt := top 43
abbrev nm__law_exact : List Str := ["mine", "theirs", "key", "is_list", "is_like", "a", "b"]
theorem sc__law_exact : FnScope nm__law_exact ["mine", "theirs"] (defScope st__law_exact) := ⟨rfl, rfl, rfl, by decide +kernel, rfl, by decide +kernel, by decide +kernel⟩
theorem ok_exact (F : Fun K "_law_exact" "_law_exact" st__law_exact f fd) (T : Tx P w K mg base a) (hm : mg "_law_exact" = some (.ref f)) (hk : PySem.W.keepIn K (.ref f) = true) (hb : Binds K fd ["mine", "theirs"] []) :
    ∀ n, FnOk P w K mg base (L2.CX P w) (n + 1) f fd ["mine", "theirs"] (spExact K n)
  | 0 => F.okX sc__law_exact (fun vs H Q E h => pro_len h fun _ => rfl) fun cdv A outer s H vs Q E hr h => by
    obtain ⟨x, _, _, hp, _⟩ := h
    cases hp
  | n + 1 => by
    have c__law_exact : CalX P w K mg base (n + 1) "_law_exact" ["mine", "theirs"] (spExact K n) := ⟨f, fd, ok_exact F T hm hk hb n, hm, hk, hb⟩
    refine F.okX sc__law_exact (fun vs H Q E h => pro_len h fun _ => rfl) (fun cdv A outer s H vs Q E hr h => ⟨_, (pss_cons (ps_if (pt_val (pe_callB (kC K rIsiU rfl call_isU) (by rfl) T.b_isinstance (by decide +kernel) (pa_cons (pv 0) (pa_cons (pe_bltn (v := .ty "dict") (by rfl) T.b_dict (by decide +kernel) rfl) pa_nil)))) (pss_cons (ps_if (PW.pt (pw_or (pt_not (pt_val (pe_callB (kC K rIsiU rfl call_isU) (by rfl) T.b_isinstance (by decide +kernel) (pa_cons (pv 1) (pa_cons (pe_bltn (v := .ty "dict") (by rfl) T.b_dict (by decide +kernel) rfl) pa_nil))))) (pw_or1 (pt_cmpR (kO K rNeU rfl (op_neU (hu64 hr))) (pe_callB (kC K rLenU rfl call_lenU) (by rfl) T.b_len (by decide +kernel) (pa_cons (pv 0) pa_nil)) (pe_callB (kC K rLenU rfl call_lenU) (by rfl) T.b_len (by decide +kernel) (pa_cons (pv 1) pa_nil)) (nomark _))))) (pss_one (ps_ret pe_bl)) pss_nil)
    (pss_one (ps_ret (pe_lock (pe_callB (kC K rAll rfl (cr_all rfl)) (by rfl) T.b_all (by decide +kernel) (pa_cons (pe_lc (own := [("key", 2)]) (tt := tYes) (g := (gName 2)) rfl sc__law_exact.nd (pi_keys (pv 0)) (blkOk_by (own := [("key", 2)]) (N := nm__law_exact) (sc := (defScope st__law_exact)) (by decide +kernel)) (fun _ _ _ _ _ => (pg_name (i := 2) sc__law_exact.nd rfl (by first | exact Or.inl rfl | exact Or.inr rfl))) (fun _ _ _ _ _ => pts_nil) (fun _ _ _ _ _ => (pe_and (pe_cmpR (kO K rInU rfl op_inU) (pv 2) (pv 1) (by with_unfolding_all rfl)) (pe_one (pe_c c__law_exact hr (by first | decide | exact Nat.le_refl _) rfl passL (pa_cons (pe_ix (kX K rIx rfl ix_seq) (pv 0) (pv 2) (fun _ _ => rfl)) (pa_cons (pe_ix (kX K rIx rfl ix_seq) (pv 1) (pv 2) (fun _ _ => rfl)) pa_nil))))))) pa_nil)))))) pss_nil)
    (pss_cons (ps_if (pt_val (pe_callB (kC K rIsiU rfl call_isU) (by rfl) T.b_isinstance (by decide +kernel) (pa_cons (pv 0) (pa_cons (pe_tup (pa_cons (pe_bltn (v := .ty "list") (by rfl) T.b_list (by decide +kernel) rfl) (pa_cons (pe_bltn (v := .ty "tuple") (by rfl) T.b_tuple (by decide +kernel) rfl) pa_nil))) pa_nil)))) (pss_cons (ps_set (i := 3) sc__law_exact.nd rfl (by first | exact Or.inl rfl | exact Or.inr rfl) (pe_cmpR (kO K rEqU rfl (op_eqU (hu64 hr))) (pe_callB (kC K rIsiU rfl call_isU) (by rfl) T.b_isinstance (by decide +kernel) (pa_cons (pv 1) (pa_cons (pe_bltn (v := .ty "list") (by rfl) T.b_list (by decide +kernel) rfl) pa_nil))) (pe_callB (kC K rIsiU rfl call_isU) (by rfl) T.b_isinstance (by decide +kernel) (pa_cons (pv 0) (pa_cons (pe_bltn (v := .ty "list") (by rfl) T.b_list (by decide +kernel) rfl) pa_nil))) (nomark _)))
    (pss_cons (ps_set (i := 4) sc__law_exact.nd rfl (by first | exact Or.inl rfl | exact Or.inr rfl) (pe_and (pv 3) (pe_one (pe_cmpR (kO K rEqU rfl (op_eqU (hu64 hr))) (pe_callB (kC K rIsiU rfl call_isU) (by rfl) T.b_isinstance (by decide +kernel) (pa_cons (pv 1) (pa_cons (pe_bltn (v := .ty "tuple") (by rfl) T.b_tuple (by decide +kernel) rfl) pa_nil))) (pe_callB (kC K rIsiU rfl call_isU) (by rfl) T.b_isinstance (by decide +kernel) (pa_cons (pv 0) (pa_cons (pe_bltn (v := .ty "tuple") (by rfl) T.b_tuple (by decide +kernel) rfl) pa_nil))) (nomark _)))))
    (pss_one (ps_ret (pe_and (pv 4) (pe_and (pe_cmpR (kO K rEqU rfl (op_eqU (hu64 hr))) (pe_callB (kC K rLenU rfl call_lenU) (by rfl) T.b_len (by decide +kernel) (pa_cons (pv 0) pa_nil)) (pe_callB (kC K rLenU rfl call_lenU) (by rfl) T.b_len (by decide +kernel) (pa_cons (pv 1) pa_nil)) (nomark _)) (pe_one (pe_callB (kC K rAll rfl (cr_all rfl)) (by rfl) T.b_all (by decide +kernel) (pa_cons (pe_lc (own := [("a", 5), ("b", 6)]) (tt := tYes) (g := (gTup K 2 (gCons (gName 5) (gCons (gName 6) gNil)))) rfl sc__law_exact.nd (pi_zipAK (K := K) rfl (by rfl) T.b_zip (pa_cons (pv 0) (pa_cons (pv 1) pa_nil))) (blkOk_by (own := [("a", 5), ("b", 6)]) (N := nm__law_exact) (sc := (defScope st__law_exact)) (by decide +kernel)) (fun _ _ _ _ _ => (pg_tupK (K := K) rfl rfl (pgs_cons (pg_name (i := 5) sc__law_exact.nd rfl (by first | exact Or.inl rfl | exact Or.inr rfl)) (pgs_cons (pg_name (i := 6) sc__law_exact.nd rfl (by first | exact Or.inl rfl | exact Or.inr rfl)) pgs_nil)))) (fun _ _ _ _ _ => pts_nil) (fun _ _ _ _ _ => (pe_c c__law_exact hr (by first | decide | exact Nat.le_refl _) rfl passL (pa_cons (pv 5) (pa_cons (pv 6) pa_nil))))) pa_nil))))))))) pss_nil)
    (pss_cons (ps_if (PW.pt (pw_or (pt_val (pe_callB (kC K rIsiU rfl call_isU) (by rfl) T.b_isinstance (by decide +kernel) (pa_cons (pv 1) (pa_cons (pe_tup (pa_cons (pe_bltn (v := .ty "list") (by rfl) T.b_list (by decide +kernel) rfl) (pa_cons (pe_bltn (v := .ty "tuple") (by rfl) T.b_tuple (by decide +kernel) rfl) (pa_cons (pe_bltn (v := .ty "dict") (by rfl) T.b_dict (by decide +kernel) rfl) pa_nil)))) pa_nil)))) (pw_or1 (pt_cmpR (kO K rNeU rfl (op_neU (hu64 hr))) (pe_cmpR op_isN (pv 0) pe_non (nomark _)) (pe_cmpR op_isN (pv 1) pe_non (nomark _)) (nomark _))))) (pss_one (ps_ret pe_bl)) pss_nil)
    (pss_cons (ps_set (i := 4) sc__law_exact.nd rfl (by first | exact Or.inl rfl | exact Or.inr rfl) (pe_and (pe_cmpR (kO K rEqU rfl (op_eqU (hu64 hr))) (pe_callB (kC K rIsiU rfl call_isU) (by rfl) T.b_isinstance (by decide +kernel) (pa_cons (pv 0) (pa_cons (pe_bltn (v := .ty "int") (by rfl) T.b_int (by decide +kernel) rfl) pa_nil))) (pe_callB (kC K rIsiU rfl call_isU) (by rfl) T.b_isinstance (by decide +kernel) (pa_cons (pv 1) (pa_cons (pe_bltn (v := .ty "int") (by rfl) T.b_int (by decide +kernel) rfl) pa_nil))) (nomark _)) (pe_one (pe_cmpR (kO K rEqU rfl (op_eqU (hu64 hr))) (pe_callB (kC K rIsiU rfl call_isU) (by rfl) T.b_isinstance (by decide +kernel) (pa_cons (pv 0) (pa_cons (pe_bltn (v := .ty "str") (by rfl) T.b_str (by decide +kernel) rfl) pa_nil))) (pe_callB (kC K rIsiU rfl call_isU) (by rfl) T.b_isinstance (by decide +kernel) (pa_cons (pv 1) (pa_cons (pe_bltn (v := .ty "str") (by rfl) T.b_str (by decide +kernel) rfl) pa_nil))) (nomark _)))))
    (pss_one (ps_ret (pe_and (pv 4) (pe_and (pe_cmpR (kO K rEqU rfl (op_eqU (hu64 hr))) (pe_callB (kC K rIsiU rfl call_isU) (by rfl) T.b_isinstance (by decide +kernel) (pa_cons (pv 0) (pa_cons (pe_bltn (v := .ty "bool") (by rfl) T.b_bool (by decide +kernel) rfl) pa_nil))) (pe_callB (kC K rIsiU rfl call_isU) (by rfl) T.b_isinstance (by decide +kernel) (pa_cons (pv 1) (pa_cons (pe_bltn (v := .ty "bool") (by rfl) T.b_bool (by decide +kernel) rfl) pa_nil))) (nomark _)) (pe_one (pe_cmpR (kO K rEqU rfl (op_eqU (hu64 hr))) (pv 0) (pv 1) (nomark _))))))))))), run_body h fun d S hp hl hcl wi => ?_⟩)
    have hp : exOk (n + 1) d = true := hp
    have hd0 : d.lt 0 = true := by
      have z : (d.lt S.A.length && (d.lt S.A.length && true)) = true := hcl
      rw [hl] at z
      exact (Bool.and_eq_true_iff.mp z).1
    have hpl := exOk_pl hp
    walk_at "p0"
    have deep : ∀ (l : List D), l.all (fun x => exOk n x) = true → D.ltL 0 l = true → ∀ x ∈ zipD l l, ∃ y, x = .tup [y, y] ∧ exOk n y = true ∧ y.lt 0 = true := fun l h h0 x hx => by
      obtain ⟨y, hy, e⟩ := zip_self hx
      exact ⟨y, e, List.all_eq_true.mp h y hy, D.ltL_all.mp h0 y hy⟩
    have same : ∀ (l : List D), ((zipD l l).filter fun _ => true).map (fun _ => D.bl true) = (List.replicate l.length true).map D.bl := fun l => by
      rw [List.filter_eq_self.mpr fun _ _ => rfl, List.map_const', List.map_replicate, zipD_len, Nat.min_self]
    cases d with
    | v x =>
      cases x with
      | non => walk_at "pp"; walk_at "gp"; refine gaveP hl (by rfl) ?_; rfl
      | bl b => walk_at "pp"; walk_at "gp"; refine gaveP hl (by rfl) ?_; (show D.bl _ = D.bl true); simp
      | int i => walk_at "pp"; walk_at "gp"; refine gaveP hl (by rfl) ?_; (show D.bl _ = D.bl true); simp
      | str s => walk_at "pp"; walk_at "gp"; refine gaveP hl (by rfl) ?_; (show D.bl _ = D.bl true); simp
      | _ => cases hp
    | lst l =>
      rw [show exOk (n + 1) (.lst l) = (decide (l.length ≤ 1000000) && l.all (fun x => exOk n x)) from rfl, Bool.and_eq_true] at hp
      have hz := of_decide_eq_true hp.1
      walk_at "pp"
      refine cc_len (.lst _) ?_
      walk_at "pp"
      refine cc_len (.lst _) ?_
      walk_at "pp"
      refine ⟨fun _ => ?_, fun h => absurd h (by simp)⟩
      walk_at "pp"
      refine ee_lc (ie_zipA ?_)
      walk_at "pp"
      refine ⟨l, l, .inl rfl, fun _ h => h, trivial, fun _ => true, fun _ => .bl true, by rw [zipD_len, Nat.min_self]; omega, fun _ _ _ => rfl, fun x acc hx => ?_, ?_⟩
      · obtain ⟨y, rfl, hy, hy0⟩ := deep l hp.2 hd0 x hx
        refine gw_pair (by decide) (by decide) ?_
        walk_at "pp"
        refine ⟨rfl, rfl, fun _ => ?_⟩
        refine ee_cz ?_
        walk_at "pp"
        exact ⟨y, hy, rfl, by show (y.lt 0 && (y.lt 0 && true)) = true; rw [hy0]; rfl, fun r hr => ⟨hr, rfl⟩⟩
      · rw [same]
        walk_at "pp"
        refine cc_all (.lst _) ?_
        walk_at "gp"; refine gaveP hl (by rfl) ?_; (show D.bl _ = D.bl true); simp
    | tup l =>
      rw [show exOk (n + 1) (.tup l) = (decide (l.length ≤ 1000000) && l.all (fun x => exOk n x)) from rfl, Bool.and_eq_true] at hp
      have hz := of_decide_eq_true hp.1
      walk_at "pp"
      refine cc_len (.tup _) ?_
      walk_at "pp"
      refine cc_len (.tup _) ?_
      walk_at "pp"
      refine ⟨fun _ => ?_, fun h => absurd h (by simp)⟩
      walk_at "pp"
      refine ee_lc (ie_zipA ?_)
      walk_at "pp"
      refine ⟨l, l, .inr rfl, fun _ h => h, trivial, fun _ => true, fun _ => .bl true, by rw [zipD_len, Nat.min_self]; omega, fun _ _ _ => rfl, fun x acc hx => ?_, ?_⟩
      · obtain ⟨y, rfl, hy, hy0⟩ := deep l hp.2 hd0 x hx
        refine gw_pair (by decide) (by decide) ?_
        walk_at "pp"
        refine ⟨rfl, rfl, fun _ => ?_⟩
        refine ee_cz ?_
        walk_at "pp"
        exact ⟨y, hy, rfl, by show (y.lt 0 && (y.lt 0 && true)) = true; rw [hy0]; rfl, fun r hr => ⟨hr, rfl⟩⟩
      · rw [same]
        walk_at "pp"
        refine cc_all (.lst _) ?_
        walk_at "gp"; refine gaveP hl (by rfl) ?_; (show D.bl _ = D.bl true); simp
    | dic ks l =>
      match ks, l, hp with
      | [], [], _ =>
        walk_at "pp"
        refine cc_lenD ?_
        walk_at "pp"
        refine cc_lenD ?_
        walk_at "pp"
        refine ee_lockAll0 rfl ?_
        walk_at "gp"
        exact gaveP hl (by rfl) rfl
    | rd l => cases hp
    | exc c d => cases hp
    | own k => cases hp

/-! ### copied -/
end


section
variable {P : Program} {w : World} {K : PySem.W.Frag} {mg : Str → Option Value} {base : Heap} {a : Ad} {f : Addr} {fd : FuncData}
abbrev spPurse (K : PySem.W.Frag) : Sp := ProN K (T := List Int × Nat) (fun t => [.rd (t.1.map D.int), .int (t.2 : Int)]) (fun t => t.2 ≤ 1000) (fun _ l => PuOk 0 l) (fun _ _ _ => False)
abbrev st__law_purse : Stmt := top 38
abbrev nm__law_purse : List Str := ["script", "at", "seed"]
theorem sc__law_purse : FnScope nm__law_purse ["script", "at"] (defScope st__law_purse) := ⟨rfl, rfl, rfl, by decide +kernel, rfl, by decide +kernel, by decide +kernel⟩
theorem ok_purse (F : Fun K "_law_purse" "_law_purse" st__law_purse f fd) (T : Tx P w K mg base a) : FnOk P w K mg base (L2.CX P w) 1 f fd ["script", "at"] (spPurse K) := by
  refine F.okX sc__law_purse (fun vs H Q E h => pro_len h fun _ => rfl) (fun cdv A outer s H vs Q E hr h => ⟨_, (pss_cons (ps_set (i := 2) sc__law_purse.nd rfl (by first | exact Or.inl rfl | exact Or.inr rfl) (pe_callB (kC K rSum rfl (cr_sum rfl)) (by rfl) T.b_sum (by decide +kernel) (pa_cons (pe_slice (kS K rSlU rfl sl_U) (pv 0) (po_some (pv 1)) (po_some (pe_op (kO K rPlus rfl op_plus) (pv 1) pe_int))) pa_nil)))
    (pss_one (ps_ret (pe_lst (pa_cons (pe_op op_mod (pe_callTy call_int1 (by rfl) T.b_int (by decide +kernel) (pa_cons (pe_callB (call_max2 rfl) (by rfl) T.b_max (by decide +kernel) (pa_cons (pe_op op_sub (pv 2) (pe_op op_powW pe_int pe_int)) (pa_cons pe_int pa_nil))) pa_nil)) (pe_op op_powW (pe_op op_powW pe_int pe_int) pe_int)) (pa_cons (pe_op op_mod (pe_callTy call_int1 (by rfl) T.b_int (by decide +kernel) (pa_cons (pv 2) pa_nil)) pe_int) (pa_cons pe_int (pa_cons (pv 1) pa_nil)))))))), run_body h fun ⟨ns, n⟩ S hn hl hcl wi => ?_⟩)
  have hn : n ≤ 1000 := hn
  walk_at "p0"
  walk_at "pp"
  refine ss_rd ?_
  rw [cut_map]
  generalize ((ns.drop _).take _ : List Int) = ms
  walk_at "pp"
  refine cc_sum (.lst _) ?_
  walk_at "pp"
  refine ee_open ?_
  walk_at "pp"
  refine oo_powW ⟨by decide, by decide +kernel⟩ ?_
  walk_at "pp"
  refine oo_powW ⟨by decide, by decide +kernel⟩ ?_
  walk_at "pp"
  refine oo_powW ⟨by decide, by decide +kernel⟩ ?_
  refine oo_mod (by decide +kernel) ?_
  walk_at "pp"
  refine oo_mod (by decide) ?_
  walk_at "pp"
  have b1 := Int.emod_nonneg ms.sum (show (2147483629 : Int) ≠ 0 by decide)
  have b2 := Int.emod_lt_of_pos ms.sum (show (0 : Int) < 2147483629 by decide)
  walk_at "gp"
  refine gaveN hl (k := 0) rfl (by rfl) ?_
  exact ⟨_, _, _, _, rfl, b1, by omega, by decide, by decide, by omega, by omega⟩
end


section
variable {P : Program} {w : World} {K : PySem.W.Frag} {mg : Str → Option Value} {base : Heap} {a : Ad} {f : Addr} {fd : FuncData}
inductive Pick : D → D → Prop
  | lst {xs : List D} {x : D} : x ∈ xs → Pick (.lst xs) x
  | str {s : Str} {c : Nat} : c ∈ cp s → Pick (.str s) (.str ⟨#[c]⟩)
def PickOk (d : D) : Prop := (∃ xs, d = .lst xs ∧ 0 < xs.length ∧ xs.length ≤ 1000000 ∧ D.ltL 0 xs = true) ∨ (∃ s, d = .str s ∧ 0 < (cp s).length ∧ (cp s).length ≤ 1000000)
abbrev spOneOf (K : PySem.W.Frag) : Sp := Pro K (T := List D × D × Nat) (fun t => [.lst t.1]) (fun t => [.own 0, t.2.1]) (fun t => PuOk t.2.2 t.1 ∧ t.2.2 ≤ 1000000000 ∧ PickOk t.2.1)
  (fun t d μ => Pick t.2.1 d ∧ d.lt 0 = true ∧ ∃ l', μ = [.lst l'] ∧ PuOk (t.2.2 + 1) l') (fun _ _ _ _ => False)
abbrev st__law_one_of : Stmt := top 42
abbrev nm__law_one_of : List Str := ["purse", "some"]
theorem sc__law_one_of : FnScope nm__law_one_of ["purse", "some"] (defScope st__law_one_of) := ⟨rfl, rfl, rfl, by decide +kernel, rfl, by decide +kernel, by decide +kernel⟩
theorem ok_one_of (F : Fun K "_law_one_of" "_law_one_of" st__law_one_of f fd) (T : Tx P w K mg base a) (c__law_draw : CalX P w K mg base 2 "_law_draw" ["purse", "many"] (spDraw K)) : FnOk P w K mg base (L2.CX P w) 3 f fd ["purse", "some"] (spOneOf K) := by
  refine F.okX sc__law_one_of (fun vs H Q E h => pro_len h fun _ => rfl) (fun cdv A outer s H vs Q E hr h => ⟨_, (pss_one (ps_ret (pe_ix (kX K rIx rfl ix_seq) (pv 1) (pe_c c__law_draw hr (by first | decide | exact Nat.le_refl _) rfl (passes_call (takes_of rfl rfl rfl rfl) (fun _ _ _ _ h => h)) (pa_cons (pv 0) (pa_cons (pe_callB (kC K rLenU rfl call_lenU) (by rfl) T.b_len (by decide +kernel) (pa_cons (pv 1) pa_nil)) pa_nil))) (fun _ _ => rfl)))), run_body h fun ⟨l, d, n⟩ S ⟨hp, hn, hd⟩ hl hcl wi => ?_⟩)
  have hp : PuOk n l := hp
  have hn : n ≤ 1000000000 := hn
  have hS : S.A.length = 1 := hl
  walk_at "p0"
  walk_at "pp"
  refine ee_cz1 0 ?_
  walk_at "pp"
  rcases hd with ⟨xs, rfl, h0, h1, hno⟩ | ⟨s, rfl, h0, h1⟩
  · refine cc_len (.lst _) ?_
    walk_at "pp"
    refine ⟨(l, (xs.length : Int), n), l, ⟨hp, by show (0 : Int) < (xs.length : Int); omega, by show (xs.length : Int) ≤ 1000000; omega, hn⟩, rfl, hp.cl, rfl, hand1 rfl, fun d c ⟨v, l', hr, v0, v1, hc, hp'⟩ => ?_⟩
    subst hr
    subst hc
    refine ⟨rfl, l', rfl, hp'.cl, ?_⟩
    have v1 : v < (xs.length : Int) := v1
    have hv : v.toNat < xs.length := by omega
    refine oo_ixL (atI_of (j := v.toNat) (List.getElem?_eq_getElem hv) (by omega)) ?_
    have hm : xs[v.toNat] ∈ xs := List.getElem_mem hv
    have hx := D.ltL_all.mp hno _ hm
    walk_at "gp"
    refine gave1 hS hx hp'.cl ?_
    exact ⟨.lst hm, hx, l', rfl, hp'⟩
  · refine cc_lenS (by rw [len_cp]; omega) ?_
    walk_at "pp"
    have e := len_cp s
    refine ⟨(l, (s.length : Int), n), l, ⟨hp, by show (0 : Int) < (s.length : Int); omega, by show (s.length : Int) ≤ 1000000; omega, hn⟩, rfl, hp.cl, rfl, hand1 rfl, fun d c ⟨v, l', hr, v0, v1, hc, hp'⟩ => ?_⟩
    subst hr
    subst hc
    refine ⟨rfl, l', rfl, hp'.cl, ?_⟩
    have v1 : v < (s.length : Int) := v1
    have hv : v.toNat < (cp s).length := by omega
    refine oo_ixS (by omega) (atI_of (j := v.toNat) (show (cp s)[v.toNat]? = _ from List.getElem?_eq_getElem hv) (by omega)) ?_
    walk_at "gp"
    refine gave1 hS (by rfl) hp'.cl ?_
    exact ⟨.str (List.getElem_mem hv), rfl, l', rfl, hp'⟩
end


section
variable {P : Program} {w : World} {K : PySem.W.Frag} {mg : Str → Option Value} {base : Heap} {a : Ad} {f : Addr} {fd : FuncData}
def wordK : Kd → D
  | .cells => .str (Str.ofString "cells")
  | .width => .str (Str.ofString "width")
  | .count => .str (Str.ofString "count")
abbrev spDoor (K : PySem.W.Frag) (a : Ad) : Sp := ProP K (T := Kd × D) (fun t => [.exc (clsK a t.1) t.2]) (fun _ => True) (fun t r => r = wordK t.1) (fun _ _ _ => False)
abbrev st__law_door : Stmt := top 34
abbrev nm__law_door : List Str := ["caught", "kinds", "names"]
theorem sc__law_door : FnScope nm__law_door ["caught"] (defScope st__law_door) := ⟨rfl, rfl, rfl, by decide +kernel, rfl, by decide +kernel, by decide +kernel⟩
theorem ok_ldoor (F : Fun K "_law_door" "_law_door" st__law_door f fd) (T : Tx P w K mg base a) : FnOk P w K mg base (L2.CX P w) 1 f fd ["caught"] (spDoor K a) := by
  refine F.okX sc__law_door (fun vs H Q E h => pro_len h fun _ => rfl) (fun cdv A outer s H vs Q E hr h => ⟨_, (pss_cons (ps_set (i := 1) sc__law_door.nd rfl (by first | exact Or.inl rfl | exact Or.inr rfl) (pe_lst (pa_cons (pe_callB (kC K rIsiU rfl call_isU) (by rfl) T.b_isinstance (by decide +kernel) (pa_cons (pv 0) (pa_cons (pe_glob (v := .ref a.eInvalidPage) rfl T.g_InvalidPage rfl) pa_nil))) (pa_cons (pe_callB (kC K rIsiU rfl call_isU) (by rfl) T.b_isinstance (by decide +kernel) (pa_cons (pv 0) (pa_cons (pe_glob (v := .ref a.eInvalidBook) rfl T.g_InvalidBook rfl) pa_nil))) (pa_cons (pe_callB (kC K rIsiU rfl call_isU) (by rfl) T.b_isinstance (by decide +kernel) (pa_cons (pv 0) (pa_cons (pe_glob (v := .ref a.eInvalidText) rfl T.g_InvalidText rfl) pa_nil))) pa_nil)))))
    (pss_cons (ps_set (i := 1) sc__law_door.nd rfl (by first | exact Or.inl rfl | exact Or.inr rfl) (pe_op (kO K rPlus rfl op_plus) (pv 1) (pe_lst (pa_cons (pe_callB (kC K rIsiU rfl call_isU) (by rfl) T.b_isinstance (by decide +kernel) (pa_cons (pv 0) (pa_cons (pe_glob (v := .ref a.eInvalidCells) rfl T.g_InvalidCells rfl) pa_nil))) (pa_cons (pe_callB (kC K rIsiU rfl call_isU) (by rfl) T.b_isinstance (by decide +kernel) (pa_cons (pv 0) (pa_cons (pe_glob (v := .ref a.eInvalidWidth) rfl T.g_InvalidWidth rfl) pa_nil))) (pa_cons (pe_callB (kC K rIsiU rfl call_isU) (by rfl) T.b_isinstance (by decide +kernel) (pa_cons (pv 0) (pa_cons (pe_glob (v := .ref a.eInvalidCount) rfl T.g_InvalidCount rfl) pa_nil))) pa_nil))))))
    (pss_cons (ps_set (i := 1) sc__law_door.nd rfl (by first | exact Or.inl rfl | exact Or.inr rfl) (pe_op (kO K rPlus rfl op_plus) (pv 1) (pe_lst (pa_cons (pe_callB (kC K rIsiU rfl call_isU) (by rfl) T.b_isinstance (by decide +kernel) (pa_cons (pv 0) (pa_cons (pe_glob (v := .ref a.eInvalidKey) rfl T.g_InvalidKey rfl) pa_nil))) (pa_cons (pe_callB (kC K rIsiU rfl call_isU) (by rfl) T.b_isinstance (by decide +kernel) (pa_cons (pv 0) (pa_cons (pe_glob (v := .ref a.eInvalidMarks) rfl T.g_InvalidMarks rfl) pa_nil))) (pa_cons (pe_callB (kC K rIsiU rfl call_isU) (by rfl) T.b_isinstance (by decide +kernel) (pa_cons (pv 0) (pa_cons (pe_glob (v := .ref a.eInvalidStand) rfl T.g_InvalidStand rfl) pa_nil))) pa_nil))))))
    (pss_cons (ps_set (i := 1) sc__law_door.nd rfl (by first | exact Or.inl rfl | exact Or.inr rfl) (pe_op (kO K rPlus rfl op_plus) (pv 1) (pe_lst (pa_cons (pe_callB (kC K rIsiU rfl call_isU) (by rfl) T.b_isinstance (by decide +kernel) (pa_cons (pv 0) (pa_cons (pe_glob (v := .ref a.eInvalidPlace) rfl T.g_InvalidPlace rfl) pa_nil))) (pa_cons (pe_callB (kC K rIsiU rfl call_isU) (by rfl) T.b_isinstance (by decide +kernel) (pa_cons (pv 0) (pa_cons (pe_glob (v := .ref a.eInvalidLine) rfl T.g_InvalidLine rfl) pa_nil))) (pa_cons (pe_callB (kC K rIsiU rfl call_isU) (by rfl) T.b_isinstance (by decide +kernel) (pa_cons (pv 0) (pa_cons (pe_glob (v := .ref a.eInvalidNumber) rfl T.g_InvalidNumber rfl) pa_nil))) pa_nil))))))
    (pss_cons (ps_set (i := 1) sc__law_door.nd rfl (by first | exact Or.inl rfl | exact Or.inr rfl) (pe_op (kO K rPlus rfl op_plus) (pv 1) (pe_lst (pa_cons (pe_callB (kC K rIsiU rfl call_isU) (by rfl) T.b_isinstance (by decide +kernel) (pa_cons (pv 0) (pa_cons (pe_glob (v := .ref a.eNotWritten) rfl T.g_NotWritten rfl) pa_nil))) pa_nil))))
    (pss_cons (ps_set (i := 2) sc__law_door.nd rfl (by first | exact Or.inl rfl | exact Or.inr rfl) (pe_lst (pa_cons pe_str (pa_cons pe_str (pa_cons pe_str (pa_cons pe_str (pa_cons pe_str (pa_cons pe_str (pa_cons pe_str (pa_cons pe_str (pa_cons pe_str (pa_cons pe_str (pa_cons pe_str (pa_cons pe_str (pa_cons pe_str pa_nil)))))))))))))))
    (pss_cons (ps_if (PW.pt (pw_or (pt_cmpR (kO K rNeU rfl (op_neU (hu64 hr))) (pe_bmK (K := K) rfl PySem.F.plainAttrs_list PySem.F.slot_list_count PySem.F.type_list_count (kM K rCntF rfl mt_cntF) (pv 1) (pa_cons pe_bl pa_nil)) pe_int (nomark _)) (pw_or1 (pt_not (pt_val (pe_callB (kC K rIsiU rfl call_isU) (by rfl) T.b_isinstance (by decide +kernel) (pa_cons (pv 0) (pa_cons (pe_bltn (v := .ty "ValueError") (by rfl) T.b_ValueError (by decide +kernel) rfl) pa_nil)))))))) (pss_one (ps_ret pe_str)) pss_nil)
    (pss_one (ps_ret (pe_ix (kX K rIx rfl ix_seq) (pv 2) (pe_bmK (K := K) rfl PySem.F.plainAttrs_list PySem.F.slot_list_index PySem.F.type_list_index (kM K rIndex rfl mt_index) (pv 1) (pa_cons pe_bl pa_nil)) (fun _ _ => rfl))))))))))), run_body h fun ⟨b, d⟩ S _ hl hcl wi => ?_⟩)
  have hl : S.A.length = 0 := hl
  cases b with
  | cells =>
    obtain ⟨fI, hI⟩ := T.e_InvalidCells.c
    walk_at "pp"
    refine ee_lst ?_
    walk_at "pp"
    refine cc_isX hI T.k_InvalidCells_InvalidPage ?_
    walk_at "pp"
    refine cc_isX hI T.k_InvalidCells_InvalidBook ?_
    walk_at "pp"
    refine cc_isX hI T.k_InvalidCells_InvalidText ?_
    walk_at "pp"
    refine ee_lst ?_
    walk_at "pp"
    refine cc_isX hI T.k_InvalidCells_InvalidCells ?_
    walk_at "pp"
    refine cc_isX hI T.k_InvalidCells_InvalidWidth ?_
    walk_at "pp"
    refine cc_isX hI T.k_InvalidCells_InvalidCount ?_
    walk_at "pp"
    refine oo_addL (Nat.le_of_ble_eq_true rfl) ?_
    walk_at "pp"
    refine ee_lst ?_
    walk_at "pp"
    refine cc_isX hI T.k_InvalidCells_InvalidKey ?_
    walk_at "pp"
    refine cc_isX hI T.k_InvalidCells_InvalidMarks ?_
    walk_at "pp"
    refine cc_isX hI T.k_InvalidCells_InvalidStand ?_
    walk_at "pp"
    refine oo_addL (Nat.le_of_ble_eq_true rfl) ?_
    walk_at "pp"
    refine ee_lst ?_
    walk_at "pp"
    refine cc_isX hI T.k_InvalidCells_InvalidPlace ?_
    walk_at "pp"
    refine cc_isX hI T.k_InvalidCells_InvalidLine ?_
    walk_at "pp"
    refine cc_isX hI T.k_InvalidCells_InvalidNumber ?_
    walk_at "pp"
    refine oo_addL (Nat.le_of_ble_eq_true rfl) ?_
    walk_at "pp"
    refine ee_lst ?_
    walk_at "pp"
    refine cc_isX hI T.k_InvalidCells_NotWritten ?_
    walk_at "pp"
    refine oo_addL (Nat.le_of_ble_eq_true rfl) ?_
    walk_at "pp"
    refine ee_lst ?_
    walk_at "pp"
    refine ee_bm ?_
    walk_at "pp"
    refine ⟨.lst (.lst _), ?_⟩
    walk_at "pp"
    refine mm_count (ys := [.bl false, .bl false, .bl false, .bl true, .bl false, .bl false, .bl false, .bl false, .bl false, .bl false, .bl false, .bl false, .bl false]) (.lst _) rfl rfl ?_
    walk_at "pp"
    refine cc_isXT hI T.v_InvalidCells ?_
    walk_at "pp"
    refine ee_bm ?_
    walk_at "pp"
    refine ⟨.lst (.lst _), ?_⟩
    walk_at "pp"
    refine mm_index (ys := [.bl false, .bl false, .bl false, .bl true, .bl false, .bl false, .bl false, .bl false, .bl false, .bl false, .bl false, .bl false, .bl false]) (z := .bl true) (j := 3) (.lst _) rfl rfl rfl rfl (fun m z hm hz => ?_) ?_
    · have hm : m ∈ [0, 1, 2] := by
        simp
        omega
      simp only [List.mem_cons, List.not_mem_nil, or_false] at hm
      rcases hm with rfl | rfl | rfl <;> (simp at hz; subst hz; rfl)
    · refine oo_ixL (d := .str (Str.ofString "cells")) rfl ?_
      walk_at "gp"
      exact gaveP hl (by rfl) rfl
  | width =>
    obtain ⟨fI, hI⟩ := T.e_InvalidWidth.c
    walk_at "pp"
    refine ee_lst ?_
    walk_at "pp"
    refine cc_isX hI T.k_InvalidWidth_InvalidPage ?_
    walk_at "pp"
    refine cc_isX hI T.k_InvalidWidth_InvalidBook ?_
    walk_at "pp"
    refine cc_isX hI T.k_InvalidWidth_InvalidText ?_
    walk_at "pp"
    refine ee_lst ?_
    walk_at "pp"
    refine cc_isX hI T.k_InvalidWidth_InvalidCells ?_
    walk_at "pp"
    refine cc_isX hI T.k_InvalidWidth_InvalidWidth ?_
    walk_at "pp"
    refine cc_isX hI T.k_InvalidWidth_InvalidCount ?_
    walk_at "pp"
    refine oo_addL (Nat.le_of_ble_eq_true rfl) ?_
    walk_at "pp"
    refine ee_lst ?_
    walk_at "pp"
    refine cc_isX hI T.k_InvalidWidth_InvalidKey ?_
    walk_at "pp"
    refine cc_isX hI T.k_InvalidWidth_InvalidMarks ?_
    walk_at "pp"
    refine cc_isX hI T.k_InvalidWidth_InvalidStand ?_
    walk_at "pp"
    refine oo_addL (Nat.le_of_ble_eq_true rfl) ?_
    walk_at "pp"
    refine ee_lst ?_
    walk_at "pp"
    refine cc_isX hI T.k_InvalidWidth_InvalidPlace ?_
    walk_at "pp"
    refine cc_isX hI T.k_InvalidWidth_InvalidLine ?_
    walk_at "pp"
    refine cc_isX hI T.k_InvalidWidth_InvalidNumber ?_
    walk_at "pp"
    refine oo_addL (Nat.le_of_ble_eq_true rfl) ?_
    walk_at "pp"
    refine ee_lst ?_
    walk_at "pp"
    refine cc_isX hI T.k_InvalidWidth_NotWritten ?_
    walk_at "pp"
    refine oo_addL (Nat.le_of_ble_eq_true rfl) ?_
    walk_at "pp"
    refine ee_lst ?_
    walk_at "pp"
    refine ee_bm ?_
    walk_at "pp"
    refine ⟨.lst (.lst _), ?_⟩
    walk_at "pp"
    refine mm_count (ys := [.bl false, .bl false, .bl false, .bl false, .bl true, .bl false, .bl false, .bl false, .bl false, .bl false, .bl false, .bl false, .bl false]) (.lst _) rfl rfl ?_
    walk_at "pp"
    refine cc_isXT hI T.v_InvalidWidth ?_
    walk_at "pp"
    refine ee_bm ?_
    walk_at "pp"
    refine ⟨.lst (.lst _), ?_⟩
    walk_at "pp"
    refine mm_index (ys := [.bl false, .bl false, .bl false, .bl false, .bl true, .bl false, .bl false, .bl false, .bl false, .bl false, .bl false, .bl false, .bl false]) (z := .bl true) (j := 4) (.lst _) rfl rfl rfl rfl (fun m z hm hz => ?_) ?_
    · have hm : m ∈ [0, 1, 2, 3] := by
        simp
        omega
      simp only [List.mem_cons, List.not_mem_nil, or_false] at hm
      rcases hm with rfl | rfl | rfl | rfl <;> (simp at hz; subst hz; rfl)
    · refine oo_ixL (d := .str (Str.ofString "width")) rfl ?_
      walk_at "gp"
      exact gaveP hl (by rfl) rfl
  | count =>
    obtain ⟨fI, hI⟩ := T.e_InvalidCount.c
    walk_at "pp"
    refine ee_lst ?_
    walk_at "pp"
    refine cc_isX hI T.k_InvalidCount_InvalidPage ?_
    walk_at "pp"
    refine cc_isX hI T.k_InvalidCount_InvalidBook ?_
    walk_at "pp"
    refine cc_isX hI T.k_InvalidCount_InvalidText ?_
    walk_at "pp"
    refine ee_lst ?_
    walk_at "pp"
    refine cc_isX hI T.k_InvalidCount_InvalidCells ?_
    walk_at "pp"
    refine cc_isX hI T.k_InvalidCount_InvalidWidth ?_
    walk_at "pp"
    refine cc_isX hI T.k_InvalidCount_InvalidCount ?_
    walk_at "pp"
    refine oo_addL (Nat.le_of_ble_eq_true rfl) ?_
    walk_at "pp"
    refine ee_lst ?_
    walk_at "pp"
    refine cc_isX hI T.k_InvalidCount_InvalidKey ?_
    walk_at "pp"
    refine cc_isX hI T.k_InvalidCount_InvalidMarks ?_
    walk_at "pp"
    refine cc_isX hI T.k_InvalidCount_InvalidStand ?_
    walk_at "pp"
    refine oo_addL (Nat.le_of_ble_eq_true rfl) ?_
    walk_at "pp"
    refine ee_lst ?_
    walk_at "pp"
    refine cc_isX hI T.k_InvalidCount_InvalidPlace ?_
    walk_at "pp"
    refine cc_isX hI T.k_InvalidCount_InvalidLine ?_
    walk_at "pp"
    refine cc_isX hI T.k_InvalidCount_InvalidNumber ?_
    walk_at "pp"
    refine oo_addL (Nat.le_of_ble_eq_true rfl) ?_
    walk_at "pp"
    refine ee_lst ?_
    walk_at "pp"
    refine cc_isX hI T.k_InvalidCount_NotWritten ?_
    walk_at "pp"
    refine oo_addL (Nat.le_of_ble_eq_true rfl) ?_
    walk_at "pp"
    refine ee_lst ?_
    walk_at "pp"
    refine ee_bm ?_
    walk_at "pp"
    refine ⟨.lst (.lst _), ?_⟩
    walk_at "pp"
    refine mm_count (ys := [.bl false, .bl false, .bl false, .bl false, .bl false, .bl true, .bl false, .bl false, .bl false, .bl false, .bl false, .bl false, .bl false]) (.lst _) rfl rfl ?_
    walk_at "pp"
    refine cc_isXT hI T.v_InvalidCount ?_
    walk_at "pp"
    refine ee_bm ?_
    walk_at "pp"
    refine ⟨.lst (.lst _), ?_⟩
    walk_at "pp"
    refine mm_index (ys := [.bl false, .bl false, .bl false, .bl false, .bl false, .bl true, .bl false, .bl false, .bl false, .bl false, .bl false, .bl false, .bl false]) (z := .bl true) (j := 5) (.lst _) rfl rfl rfl rfl (fun m z hm hz => ?_) ?_
    · have hm : m ∈ [0, 1, 2, 3, 4] := by
        simp
        omega
      simp only [List.mem_cons, List.not_mem_nil, or_false] at hm
      rcases hm with rfl | rfl | rfl | rfl | rfl <;> (simp at hz; subst hz; rfl)
    · refine oo_ixL (d := .str (Str.ofString "count")) rfl ?_
      walk_at "gp"
      exact gaveP hl (by rfl) rfl
end


section
variable {P : Program} {w : World} {K : PySem.W.Frag} {mg : Str → Option Value} {base : Heap} {a : Ad} {f : Addr} {fd : FuncData}
def noCts (n : Nat) : List D := [.int (n : Int), .int ((n : Int) + 1), .int (-1), .bl true, .bl false, .non, .str (Str.ofString "0"), .lst [.int 0], .tup [.int 0], .int (10 ^ 12 - 1)]
abbrev spNoCounts (K : PySem.W.Frag) : Sp := ProP K (T := Nat) (fun n => [.int (n : Int)]) (fun n => n ≤ 10000000) (fun n r => r = .lst (noCts n)) (fun _ _ _ => False)
abbrev st__law_no_counts : Stmt := top 36
abbrev nm__law_no_counts : List Str := ["many"]
theorem sc__law_no_counts : FnScope nm__law_no_counts ["many"] (defScope st__law_no_counts) := ⟨rfl, rfl, rfl, by decide +kernel, rfl, by decide +kernel, by decide +kernel⟩
theorem ok_no_counts (F : Fun K "_law_no_counts" "_law_no_counts" st__law_no_counts f fd) (T : Tx P w K mg base a) : FnOk P w K mg base (L2.CX P w) 1 f fd ["many"] (spNoCounts K) := by
  refine F.okX sc__law_no_counts (fun vs H Q E h => pro_len h fun _ => rfl) (fun cdv A outer s H vs Q E hr h => ⟨_, (pss_one (ps_ret (pe_lst (pa_cons (pv 0) (pa_cons (pe_op (kO K rPlus rfl op_plus) (pv 0) pe_int) (pa_cons (pe_un un_neg pe_int) (pa_cons pe_bl (pa_cons pe_bl (pa_cons pe_non (pa_cons pe_str (pa_cons (pe_lst (pa_cons pe_int pa_nil)) (pa_cons (pe_tup (pa_cons pe_int pa_nil)) (pa_cons (pe_op op_sub (pe_op op_powW pe_int pe_int) pe_int) pa_nil))))))))))))), run_body h fun n S hn hl hcl wi => ?_⟩)
  have hl : S.A.length = 0 := hl
  walk_at "pp"
  refine ee_lst ?_
  walk_at "pp"
  refine ee_lst ?_
  walk_at "pp"
  refine oo_powW ⟨by decide, by decide +kernel⟩ ?_
  walk_at "pp"
  walk_at "gp"
  exact gaveP hl (by rfl) rfl
def fsK (z : Nat → Bool) : Nat → Nat
  | 0 => 0
  | i + 1 => stK z i
theorem kL_succ {g : Nat → Nat} {i : Nat} : kL g (i + 1) = kL g i ++ [.int (g i : Int)] := by
  unfold kL
  rw [List.range_succ, List.map_append]
  rfl
theorem stK_next {z : Nat → Bool} {i : Nat} : stK z i = if z i = false ∧ (i = 0 ∨ z (i - 1) = true) then i else fsK z i := by
  cases i with
  | zero =>
    show 0 = _
    split <;> rfl
  | succ i =>
    show (if (!z (i + 1) && z i) = true then i + 1 else stK z i) = if z (i + 1) = false ∧ (i + 1 = 0 ∨ z (i + 1 - 1) = true) then i + 1 else stK z i
    rw [Nat.add_sub_cancel]
    cases z (i + 1) <;> cases z i <;> simp
theorem oo_neI0 {S : Bs} {μ : List Cell} {C : D → List Cell → Prop} {l : List D} (h : ∀ c ∈ l, IntB c) (k : C (.bl (!l.isEmpty)) μ) : OO K S (rNeU K) (.lst l) (.lst []) μ C := by
  obtain ⟨ps, h1, h2, h3, h4⟩ := intb_py h
  refine oo_neD (p := .list ps) (q := .list []) ?_ rfl ?_ rfl ?_
  · show (D.pyAll l).map PyData.list = _
    rw [h1]
    rfl
  · show (PySem.PyData.canLayAll0 ps && decide (PySem.PyData.depthAll ps + 1 ≤ 64)) = true
    rw [h2, h3]
    rfl
  · have e : PyData.eqv (.list ps) (.list []) = l.isEmpty := by
      rw [← h4]
      cases ps <;> rfl
    rw [e]
    exact k
theorem ne_z {z : Bool} {c : Int} (h : z = decide (c = 0)) : (!decide (V.int c = V.int 0)) = !z := by rw [int_eq, h]
theorem stK_le {z : Nat → Bool} : ∀ i, stK z i ≤ i
  | 0 => Nat.le_refl _
  | i + 1 => by
    have := stK_le (z := z) i
    show (if (!z (i + 1) && z i) = true then i + 1 else stK z i) ≤ i + 1
    split <;> omega
theorem enK_le {z : Nat → Bool} {n f : Nat} (hf : f ≤ n) : f ≤ enK z n f ∧ enK z n f ≤ n := by
  refine ⟨enF_le _ _, ?_⟩
  obtain ⟨e, h1, h2, h3, h4⟩ := run_end (z := z) (n := n) (n - f) f (Nat.le_refl _) hf
  rw [enK_eq h1 h2 (fun j j1 j2 => ⟨by omega, h3 j j1 j2⟩) h4]
  exact h2
/-- the first must -/
theorem must_stop {z : Nat → Bool} {n w q : Nat} : match ((List.range' (q + 1) (topK n w q - q)).filter fun j => decide (kk z n w j = 2)) with
    | [] => stopK z n w q = topK n w q
    | s :: _ => stopK z n w q = s := by
  unfold stopK
  have e := List.head?_filter (p := fun j => decide (kk z n w j = 2)) (l := List.range' (q + 1) (topK n w q - q))
  rw [← e]
  cases (List.range' (q + 1) (topK n w q - q)).filter fun j => decide (kk z n w j = 2) <;> rfl
theorem rng_map {q m : Nat} : rng ((q : Int) + 1) m = (List.range' (q + 1) m).map intD := by
  unfold rng
  rw [List.range'_eq_map_range, List.map_map]
  refine List.map_congr_left fun i _ => ?_
  show D.int ((q : Int) + 1 + (i : Int)) = D.int (((q + 1 + i : Nat)) : Int)
  rw [show (q : Int) + 1 + (i : Int) = ((q + 1 + i : Nat) : Int) by omega]
abbrev st__law_greedy : Stmt := top 37
abbrev nm__law_greedy : List Str := ["cells", "width", "kinds", "first", "at", "begins", "end", "far", "free", "found", "last", "musts", "spot"]
theorem sc__law_greedy : FnScope nm__law_greedy ["cells", "width"] (defScope st__law_greedy) := ⟨rfl, rfl, rfl, by decide +kernel, rfl, by decide +kernel, by decide +kernel⟩
theorem ok_greedy (F : Fun K "_law_greedy" "_law_greedy" st__law_greedy f fd) (T : Tx P w K mg base a) : FnOk P w K mg base (L2.CX P w) 1 f fd ["cells", "width"] (spWins K) := by
  refine F.okX sc__law_greedy (fun vs H Q E h => pro_len h fun _ => rfl) (fun cdv A outer s H vs Q E hr h => ⟨_, (pss_cons (ps_asg (pe_tup (pa_cons (pe_lst pa_nil) (pa_cons pe_int pa_nil))) (pg_tupK (K := K) rfl rfl (pgs_cons (pg_name (i := 2) sc__law_greedy.nd rfl (by first | exact Or.inl rfl | exact Or.inr rfl)) (pgs_cons (pg_name (i := 3) sc__law_greedy.nd rfl (by first | exact Or.inl rfl | exact Or.inr rfl)) pgs_nil))))
    (pss_cons (ps_for (passes_of rfl) rfl (pi_range1 rfl T.b_range (pa_cons (pe_callB (kC K rLenU rfl call_lenU) (by rfl) T.b_len (by decide +kernel) (pa_cons (pv 0) pa_nil)) pa_nil)) (pg_name (i := 4) sc__law_greedy.nd rfl (by first | exact Or.inl rfl | exact Or.inr rfl))
      (pss_cons (ps_set (i := 5) sc__law_greedy.nd rfl (by first | exact Or.inl rfl | exact Or.inr rfl) (pe_and (pe_cmpR (kO K rNeU rfl (op_neU (hu64 hr))) (pe_ix (kX K rIx rfl ix_seq) (pv 0) (pv 4) (fun _ _ => rfl)) pe_int (nomark _)) (pe_one (pe_or (pe_cmpR (kO K rEqU rfl (op_eqU (hu64 hr))) (pv 4) pe_int (nomark _)) (pe_one (pe_cmpR (kO K rEqU rfl (op_eqU (hu64 hr))) (pe_ix (kX K rIx rfl ix_seq) (pv 0) (pe_op op_sub (pv 4) pe_int) (fun _ _ => rfl)) pe_int (nomark _)))))))
    (pss_cons (ps_set (i := 3) sc__law_greedy.nd rfl (by first | exact Or.inl rfl | exact Or.inr rfl) (pe_ifExp (pt_val (pv 5)) (pv 4) (pv 3)))
    (pss_cons (ps_set (i := 6) sc__law_greedy.nd rfl (by first | exact Or.inl rfl | exact Or.inr rfl) (pv 3))
    (pss_cons (ps_while (passes_of rfl) (PW.pt (pw_and (pt_cmpR op_less (pv 6) (pe_callB (kC K rLenU rfl call_lenU) (by rfl) T.b_len (by decide +kernel) (pa_cons (pv 0) pa_nil)) (nomark _)) (pw_and1 (pt_cmpR (kO K rNeU rfl (op_neU (hu64 hr))) (pe_ix (kX K rIx rfl ix_seq) (pv 0) (pv 6) (fun _ _ => rfl)) pe_int (nomark _))))) (pss_one (ps_set (i := 6) sc__law_greedy.nd rfl (by first | exact Or.inl rfl | exact Or.inr rfl) (pe_op (kO K rPlus rfl op_plus) (pv 6) pe_int))))
    (pss_cons (ps_set (i := 7) sc__law_greedy.nd rfl (by first | exact Or.inl rfl | exact Or.inr rfl) (pe_and (pe_cmpR (kO K rNeU rfl (op_neU (hu64 hr))) (pe_ix (kX K rIx rfl ix_seq) (pv 0) (pv 4) (fun _ _ => rfl)) pe_int (nomark _)) (pe_one (pe_cmpR op_gt (pe_op op_sub (pv 6) (pv 3)) (pv 1) (nomark _)))))
    (pss_cons (ps_set (i := 8) sc__law_greedy.nd rfl (by first | exact Or.inl rfl | exact Or.inr rfl) (pe_or (pe_cmpR (kO K rEqU rfl (op_eqU (hu64 hr))) (pv 4) pe_int (nomark _)) (pe_or (pe_cmpR (kO K rEqU rfl (op_eqU (hu64 hr))) (pe_ix (kX K rIx rfl ix_seq) (pv 0) (pe_op op_sub (pv 4) pe_int) (fun _ _ => rfl)) pe_int (nomark _)) (pe_one (pe_cmpR (kO K rEqU rfl (op_eqU (hu64 hr))) (pe_ix (kX K rIx rfl ix_seq) (pv 0) (pv 4) (fun _ _ => rfl)) pe_int (nomark _))))))
    (pss_one (ps_expr (pe_bmK (K := K) rfl PySem.F.plainAttrs_list PySem.F.slot_list_append PySem.F.type_list_append mt_append (pv 2) (pa_cons (pe_ifExp (pt_val (pv 7)) (pe_op op_timesU pe_int (pe_callTy call_int1 (by rfl) T.b_int (by decide +kernel) (pa_cons (pe_cmpR (kO K rEqU rfl (op_eqU (hu64 hr))) (pe_op op_mod (pe_op op_sub (pv 4) (pv 3)) (pv 1)) pe_int (nomark _)) pa_nil))) (pe_callTy call_int1 (by rfl) T.b_int (by decide +kernel) (pa_cons (pv 8) pa_nil))) pa_nil)))))))))))
    (pss_cons (ps_par (i := 9) (j := 4) rfl sc__law_greedy.nd rfl rfl (by decide) rfl rfl (pa_cons (pe_lst pa_nil) (pa_cons pe_int pa_nil)) (by rfl))
    (pss_cons (ps_while (passes_of rfl) (pt_cmpR op_less (pv 4) (pe_callB (kC K rLenU rfl call_lenU) (by rfl) T.b_len (by decide +kernel) (pa_cons (pv 0) pa_nil)) (nomark _)) (pss_cons (ps_set (i := 10) sc__law_greedy.nd rfl (by first | exact Or.inl rfl | exact Or.inr rfl) (pe_callB (call_min2 rfl) (by rfl) T.b_min (by decide +kernel) (pa_cons (pe_op (kO K rPlus rfl op_plus) (pv 4) (pv 1)) (pa_cons (pe_callB (kC K rLenU rfl call_lenU) (by rfl) T.b_len (by decide +kernel) (pa_cons (pv 0) pa_nil)) pa_nil))))
    (pss_cons (ps_setLc (i := 11) (own := [("spot", 12)]) (g := (gName 12)) rfl sc__law_greedy.nd rfl rfl (sw_true rfl rfl rfl (by decide +kernel)) (pi_range2 rfl T.b_range (pa_cons (pe_op (kO K rPlus rfl op_plus) (pv 4) pe_int) (pa_cons (pe_op (kO K rPlus rfl op_plus) (pv 10) pe_int) pa_nil))) (blkOk_by (own := [("spot", 12)]) (N := nm__law_greedy) (sc := (defScope st__law_greedy)) (by decide +kernel)) (fun _ _ _ _ _ => (pg_name (i := 12) sc__law_greedy.nd rfl (by first | exact Or.inl rfl | exact Or.inr rfl))) (fun _ _ _ _ _ => (pts_one (PW.pt (pw_and (pt_cmpR op_less (pv 12) (pe_callB (kC K rLenU rfl call_lenU) (by rfl) T.b_len (by decide +kernel) (pa_cons (pv 0) pa_nil)) (nomark _)) (pw_and1 (pt_cmpR (kO K rEqU rfl (op_eqU (hu64 hr))) (pe_ix (kX K rIx rfl ix_seq) (pv 2) (pv 12) (fun _ _ => rfl)) pe_int (nomark _))))))) (fun _ _ _ _ _ => (pv 12)))
    (pss_cons (ps_set (i := 10) sc__law_greedy.nd rfl (by first | exact Or.inl rfl | exact Or.inr rfl) (pe_ifExp (pt_cmpR (kO K rNeU rfl (op_neU (hu64 hr))) (pv 11) (pe_lst pa_nil) (nomark _)) (pe_ix (kX K rIx rfl ix_seq) (pv 11) pe_int (fun _ _ => rfl)) (pv 10)))
    (pss_cons (ps_while (passes_of rfl) (PW.pt (pw_and (pt_cmpR op_less (pv 10) (pe_callB (kC K rLenU rfl call_lenU) (by rfl) T.b_len (by decide +kernel) (pa_cons (pv 0) pa_nil)) (nomark _)) (pw_and1 (pt_cmpR (kO K rEqU rfl (op_eqU (hu64 hr))) (pe_ix (kX K rIx rfl ix_seq) (pv 2) (pv 10) (fun _ _ => rfl)) pe_int (nomark _))))) (pss_one (ps_set (i := 10) sc__law_greedy.nd rfl (by first | exact Or.inl rfl | exact Or.inr rfl) (pe_op op_sub (pv 10) pe_int))))
    (pss_cons (ps_expr (pe_bmK (K := K) rfl PySem.F.plainAttrs_list PySem.F.slot_list_append PySem.F.type_list_append mt_append (pv 9) (pa_cons (pe_tup (pa_cons (pv 4) (pa_cons (pv 10) pa_nil))) pa_nil)))
    (pss_one (ps_set (i := 4) sc__law_greedy.nd rfl (by first | exact Or.inl rfl | exact Or.inr rfl) (pv 10)))))))))
    (pss_one (ps_ret (pv 9))))))), run_body h fun ⟨l, w⟩ S ⟨hc, h0, hw⟩ hl hcl wi => ?_⟩)
  have hl : S.A.length = 0 := hl
  have hc : CellL l := hc
  have h0 : 0 < w := h0
  have hw : w ≤ 1000000 := hw
  have hz : l.length ≤ 1000000 := hc.1
  generalize hz0 : zc l = z
  walk_at "pp"
  refine se_asgG ?_
  walk_at "pp"
  refine ee_open ?_
  walk_at "pp"
  refine ge_pair ?_
  walk_at "pp"
  refine se_for (ie_rng1 ?_)
  walk_at "pp"
  refine cc_len (.lst _) ?_
  walk_at "pp"
  refine ⟨by show (-1000000000 : Int) ≤ (l.length : Int); omega, by show (l.length : Int) ≤ 1000000000; omega, ?_⟩
  show _ ∧ _
  rw [show ((((l, w).1.length : Nat) : Int)).toNat = l.length from Int.toNat_natCast _]
  refine ⟨rfl, fun i δ μ => ∃ x4 x5 x6 x7 x8 : Option D, δ = [some (.lst l), some (.int (w : Int)), some (.own 0), some (.int ((fsK z i : Nat) : Int)), x4, x5, x6, x7, x8, none, none, none, none] ∧ μ = [.lst (kL (kd z l.length w) i)], ⟨none, none, none, none, none, rfl, rfl⟩, ?_, ?_⟩
  · rintro i x δ μ hi ⟨x4, x5, x6, x7, x8, rfl, rfl⟩
    obtain ⟨hi2, rfl⟩ := rng_get hi
    rw [show (0 : Int) + (i : Int) = ((i : Nat) : Int) by omega]
    obtain ⟨c, hc1, hc2⟩ := hc.at hi2
    rw [hz0] at hc2
    refine ge_name ?_
    refine se_seq (se_asg (ee_val (z i = false ∧ (i = 0 ∨ z (i - 1) = true)) ?_ fun bg hbg => ?_))
    · walk_at "pp"
      refine oo_ixL (atI_of (j := i) hc1 rfl) ?_
      walk_at "pp"
      rw [ne_z hc2]
      refine ⟨fun h1 => ?_, fun h1 => ?_⟩
      · have h1 : z i = false := by simpa using h1
        walk_at "pp"
        rw [int_eq]
        refine ⟨fun h2 => ?_, fun h2 => ?_⟩
        · have h2 := of_decide_eq_true h2
          exact ⟨rfl, _, rfl, fun _ => ⟨h1, .inl (by omega)⟩, fun _ => rfl⟩
        · have h2 := of_decide_eq_false h2
          obtain ⟨c', hc1', hc2'⟩ := hc.at (i := i - 1) (by omega)
          rw [hz0] at hc2'
          walk_at "pp"
          refine oo_ixL (atI_of (j := i - 1) hc1' (by omega)) ?_
          walk_at "pp"
          rw [int_eq, ← hc2']
          refine ⟨rfl, _, rfl, fun h3 => ⟨h1, .inr h3⟩, fun h3 => ?_⟩
          rcases h3.2 with q | q
          · omega
          · exact q
      · have h1 : z i = true := by simpa using h1
        refine ⟨rfl, _, rfl, fun z => (by cases z), fun h3 => ?_⟩
        rw [h1] at h3
        cases h3.1
    refine se_seq (se_to (fun δ μ => δ = [some (.lst l), some (.int (w : Int)), some (.own 0), some (.int ((stK z i : Nat) : Int)), some (.int (i : Int)), some (.bl bg), x6, x7, x8, none, none, none, none] ∧ μ = [.lst (kL (kd z l.length w) i)]) ?_ ?_)
    · walk_at "pp"
      have es := stK_next (z := z) (i := i)
      refine ⟨fun h1 => ?_, fun h1 => ?_⟩
      · rw [if_pos (hbg.mp h1)] at es
        walk_at "pp"
        rw [es]
        subst h1
        exact ⟨rfl, rfl⟩
      · rw [if_neg (fun q => by rw [hbg.mpr q] at h1; cases h1)] at es
        walk_at "pp"
        rw [es]
        subst h1
        exact ⟨rfl, rfl⟩
    rintro δ μ ⟨rfl, rfl⟩
    have hsl := stK_le (z := z) i
    have hen := enK_le (z := z) (n := l.length) (f := stK z i) (by omega)
    walk_at "pp"
    refine se_to (fun δ μ => δ = [some (.lst l), some (.int (w : Int)), some (.own 0), some (.int ((stK z i : Nat) : Int)), some (.int (i : Int)), some (.bl bg), some (.int ((enK z l.length (stK z i) : Nat) : Int)), x7, x8, none, none, none, none] ∧ μ = [.lst (kL (kd z l.length w) i)]) ?_ ?_
    · refine se_while (fun m δ μ => ∃ e : Nat, m = l.length - e ∧ e ≤ l.length ∧ enK z l.length e = enK z l.length (stK z i) ∧ δ = [some (.lst l), some (.int (w : Int)), some (.own 0), some (.int ((stK z i : Nat) : Int)), some (.int (i : Int)), some (.bl bg), some (.int (e : Int)), x7, x8, none, none, none, none] ∧ μ = [.lst (kL (kd z l.length w) i)]) (l.length - stK z i) ⟨stK z i, rfl, by omega, rfl, rfl, rfl⟩ ?_
      rintro m δ μ ⟨e, rfl, he, hee, rfl, rfl⟩
      refine et_by (P := e < l.length ∧ z e = false) ?_ fun b hb => ⟨fun h => ?_, fun h => ?_⟩
      · walk_at "pp"
        refine cc_len (.lst _) ?_
        walk_at "pp"
        refine ⟨fun h1 => ?_, fun h1 => ?_⟩
        · have h1 : (e : Int) < (l.length : Int) := of_decide_eq_true h1
          obtain ⟨c', hc1', hc2'⟩ := hc.at (i := e) (by omega)
          rw [hz0] at hc2'
          walk_at "pp"
          refine oo_ixL (atI_of (j := e) hc1' rfl) ?_
          walk_at "pp"
          rw [ne_z hc2']
          refine ⟨rfl, fun q => ⟨by omega, by simpa using q⟩, fun q => by rw [q.2]; rfl⟩
        · have h1 : ¬ (e : Int) < (l.length : Int) := of_decide_eq_false h1
          exact ⟨rfl, fun q => (by cases q), fun q => (by omega)⟩
      · have hq := hb.mp h
        walk_at "pp"
        refine ⟨l.length - (e + 1), by omega, e + 1, rfl, by omega, ?_, rfl, rfl⟩
        rw [← hee, enK_step (f := e), if_pos hq]
      · have hq : ¬ (e < l.length ∧ z e = false) := fun q => by rw [hb.mpr q] at h; cases h
        rw [enK_step (f := e), if_neg hq] at hee
        rw [← hee]
        exact ⟨rfl, rfl⟩
    rintro δ μ ⟨rfl, rfl⟩
    refine se_seq (se_asg (ee_val (z i = false ∧ w < enK z l.length (stK z i) - stK z i) ?_ fun fa hfa => ?_))
    · walk_at "pp"
      refine oo_ixL (atI_of (j := i) hc1 rfl) ?_
      walk_at "pp"
      rw [ne_z hc2]
      refine ⟨fun h1 => ?_, fun h1 => ?_⟩
      · have h1 : z i = false := by simpa using h1
        walk_at "pp"
        refine ⟨rfl, _, rfl, fun q => ⟨h1, ?_⟩, fun q => ?_⟩
        · have q := of_decide_eq_true q
          omega
        · refine decide_eq_true ?_
          omega
      · have h1 : z i = true := by simpa using h1
        refine ⟨rfl, _, rfl, fun z => (by cases z), fun h3 => ?_⟩
        rw [h1] at h3
        cases h3.1
    refine se_seq (se_asg (ee_val (baseK z i = true) ?_ fun fr hfr => ?_))
    · walk_at "pp"
      rw [int_eq]
      refine ⟨fun h2 => ?_, fun h2 => ?_⟩
      · have h2 := of_decide_eq_true h2
        have h2 : i = 0 := by omega
        subst h2
        exact ⟨rfl, _, rfl, fun _ => rfl, fun _ => rfl⟩
      · have h2 := of_decide_eq_false h2
        obtain ⟨c', hc1', hc2'⟩ := hc.at (i := i - 1) (by omega)
        rw [hz0] at hc2'
        walk_at "pp"
        refine oo_ixL (atI_of (j := i - 1) hc1' (by omega)) ?_
        walk_at "pp"
        rw [int_eq, ← hc2']
        have eb : baseK z i = (z (i - 1) || z i) := by
          unfold baseK
          rw [decide_eq_false (by omega)]
          rfl
        refine ⟨fun h3 => ?_, fun h3 => ?_⟩
        · exact ⟨rfl, _, rfl, fun _ => by rw [eb, h3]; rfl, fun _ => rfl⟩
        · walk_at "pp"
          refine oo_ixL (atI_of (j := i) hc1 rfl) ?_
          walk_at "pp"
          rw [int_eq, ← hc2]
          exact ⟨rfl, _, rfl, fun q => by rw [eb, q, Bool.or_true], fun q => by rw [eb, h3] at q; exact q⟩
    walk_at "pp"
    refine ee_bm ?_
    walk_at "pp"
    refine ⟨.lst (.own rfl), ?_⟩
    have ekd : kd z l.length w i = if fa = true then (if (i - stK z i) % w = 0 then 2 else 0) else (if fr = true then 1 else 0) := by
      unfold kd
      by_cases q : fa = true
      · rw [if_pos (hfa.mp q), if_pos q]
      · rw [if_neg (fun h => q (hfa.mpr h)), if_neg q]
        by_cases q2 : fr = true
        · rw [if_pos (hfr.mp q2), if_pos q2]
        · rw [if_neg (fun h => q2 (hfr.mpr h)), if_neg q2]
    have fin : ∀ k : Int, k = ((kd z l.length w i : Nat) : Int) → kL (kd z l.length w) i ++ [.int k] = kL (kd z l.length w) (i + 1) := fun k e => by rw [kL_succ, e]
    walk_at "pp"
    refine ⟨fun h1 => ?_, fun h1 => ?_⟩
    · have h1 : fa = true := h1
      rw [if_pos h1] at ekd
      walk_at "pp"
      refine oo_mod (by omega) ?_
      walk_at "pp"
      refine cc_intB ?_
      walk_at "pp"
      refine oo_mul (mulW 3 3 (by decide) (by split <;> decide)) ?_
      walk_at "pp"
      refine mm_append rfl (by rw [kL_len]; omega) ?_
      walk_at "pp"
      refine ⟨_, _, _, _, _, rfl, ?_⟩
      refine congrArg (fun q => [Cell.lst q]) (fin _ ?_)
      rw [ekd, int_eq, show ((i : Int) - ((stK z i : Nat) : Int)) % (w : Int) = (((i - stK z i) % w : Nat) : Int) by rw [Int.natCast_emod, Int.natCast_sub hsl]]
      by_cases hm : (i - stK z i) % w = 0
      · rw [hm]
        rfl
      · rw [decide_eq_false (by omega), if_neg hm]
        rfl
    · have h1 : fa = false := h1
      rw [if_neg (by rw [h1]; exact Bool.false_ne_true)] at ekd
      walk_at "pp"
      refine cc_intB ?_
      walk_at "pp"
      refine mm_append rfl (by rw [kL_len]; omega) ?_
      walk_at "pp"
      refine ⟨_, _, _, _, _, rfl, ?_⟩
      refine congrArg (fun q => [Cell.lst q]) (fin _ ?_)
      rw [ekd]
      cases fr <;> rfl
  · rintro δ μ ⟨x4, x5, x6, x7, x8, rfl, rfl⟩
    rw [rng_len]
    walk_at "pp"
    refine se_par ?_
    walk_at "pp"
    refine ee_open ?_
    walk_at "pp"
    refine se_while (fun m δ μ => ∃ (j : Nat) (x3 x5 x6 x7 x8 x10 x11 x12 : Option D), j ≤ l.length ∧ m = l.length - (wN z l.length w j).1 ∧ δ = [some (.lst l), some (.int (w : Int)), some (.own 0), x3, some (.int (((wN z l.length w j).1 : Nat) : Int)), x5, x6, x7, x8, some (.own 1), x10, x11, x12] ∧ μ = [.lst (kL (kd z l.length w) l.length), .lst ((wN z l.length w j).2.map winD)]) l.length ⟨0, _, _, _, _, _, _, _, _, Nat.zero_le _, rfl, rfl, rfl⟩ ?_
    rintro m δ μ ⟨j, x3, x5, x6, x7, x8, x10, x11, x12, hj, rfl, rfl, rfl⟩
    obtain ⟨w1, w2, w3, w4, w5⟩ := wN_ok (z := z) (n := l.length) h0 j
    walk_at "pp"
    refine cc_len (.lst _) ?_
    walk_at "pp"
    refine ⟨fun hb => ?_, fun hb => ?_⟩
    · have hlt : (wN z l.length w j).1 < l.length := by have := of_decide_eq_true hb; omega
      have hj2 := wN_lt h0 hj hlt
      have es := wN_succ (z := z) (n := l.length) (w := w) hlt
      obtain ⟨v1, v2, v3⟩ := win_ok h0 hlt w1
      generalize hA : (wN z l.length w j).1 = q at *
      generalize hB : (wN z l.length w j).2 = fs at *
      have ht : q ≤ topK l.length w q ∧ topK l.length w q ≤ l.length := by unfold topK; omega
      have hstop := stop_le (z := z) (n := l.length) (w := w) (a := q)
      obtain ⟨sj, sj1, sj2, sj3⟩ := stop_part (z := z) h0 hlt w1
      obtain ⟨d1, d2, d3⟩ := down_top (stopK z l.length w q) ⟨sj, sj2, by omega, sj3⟩
      have hkat : ∀ i, i < l.length → (kL (kd z l.length w) l.length)[i]? = some (.int ((kd z l.length w i : Nat) : Int)) := fun i h => kL_at h
      walk_at "pp"
      refine cc_len (.lst _) ?_
      walk_at "pp"
      have et : (if ((l.length : Nat) : Int) < (q : Int) + (w : Int) then ((l.length : Nat) : Int) else (q : Int) + (w : Int)) = ((topK l.length w q : Nat) : Int) := by
        unfold topK
        split <;> omega
      rw [et]
      refine ee_lc (ie_rng2 ?_)
      walk_at "pp"
      refine ⟨⟨by omega, by omega, by omega, by omega⟩, ?_⟩
      rw [show (((topK l.length w q : Nat) : Int) + 1 - ((q : Int) + 1)).toNat = topK l.length w q - q by omega]
      refine ⟨fun _ h => h, trivial, fun x => decide (kk z l.length w (dotN x) = 2), fun x => x, by rw [rng_len]; omega, fun x hx _ => ?_, fun x acc hx => ?_, ?_⟩
      · obtain ⟨i, hi⟩ := List.getElem?_of_mem hx
        obtain ⟨_, rfl⟩ := rng_get hi
        rfl
      · obtain ⟨i, hi⟩ := List.getElem?_of_mem hx
        obtain ⟨hi2, rfl⟩ := rng_get hi
        rw [show (q : Int) + 1 + (i : Int) = ((q + 1 + i : Nat) : Int) by omega]
        refine gw_name (by decide) ?_
        refine et_by (P := kk z l.length w (q + 1 + i) = 2) ?_ fun b hb => ⟨?_, rfl, fun _ => ?_⟩
        · walk_at "pp"
          refine cc_len (.lst _) ?_
          walk_at "pp"
          refine ⟨fun h1 => ?_, fun h1 => ?_⟩
          · have h1 : ((q + 1 + i : Nat) : Int) < (l.length : Int) := of_decide_eq_true h1
            walk_at "pp"
            refine oo_ixO rfl (atI_of (j := q + 1 + i) (hkat _ (by omega)) rfl) ?_
            walk_at "pp"
            rw [int_eq]
            have ek : kk z l.length w (q + 1 + i) = kd z l.length w (q + 1 + i) := if_pos (by omega)
            exact ⟨rfl, fun h => by have h := of_decide_eq_true h; omega, fun h => decide_eq_true (by omega)⟩
          · have h1 : ¬ ((q + 1 + i : Nat) : Int) < (l.length : Int) := of_decide_eq_false h1
            have ek : kk z l.length w (q + 1 + i) = 1 := if_neg (by omega)
            exact ⟨rfl, fun h => (by cases h), fun h => (by omega)⟩
        · show b = decide (kk z l.length w (dotN (.int ((q + 1 + i : Nat) : Int))) = 2)
          rw [show dotN (.int ((q + 1 + i : Nat) : Int)) = q + 1 + i from Int.toNat_natCast _]
          cases b with
          | true => exact (decide_eq_true (hb.mp rfl)).symm
          | false => exact (decide_eq_false fun h => by cases hb.mpr h).symm
        · walk_at "pp"
          exact ⟨rfl, rfl⟩
      have hm := must_stop (z := z) (n := l.length) (w := w) (q := q)
      have ef : ((rng ((q : Int) + 1) (topK l.length w q - q)).filter fun x => decide (kk z l.length w (dotN x) = 2)).map (fun x => x) = ((List.range' (q + 1) (topK l.length w q - q)).filter fun j => decide (kk z l.length w j = 2)).map intD := by
        rw [List.map_id', rng_map, List.filter_map]
        rfl
      rw [ef]
      generalize (List.range' (q + 1) (topK l.length w q - q)).filter (fun j => decide (kk z l.length w j = 2)) = ms at hm
      refine se_seq (se_to (fun δ μ => δ = [some (.lst l), some (.int (w : Int)), some (.own 0), x3, some (.int (q : Int)), x5, x6, x7, x8, some (.own 1), some (.int ((stopK z l.length w q : Nat) : Int)), some (.lst (ms.map intD)), x12] ∧ μ = [.lst (kL (kd z l.length w) l.length), .lst (fs.map winD)]) ?_ ?_)
      · walk_at "pp"
        refine ee_lst ?_
        walk_at "pp"
        refine oo_neI0 (fun c hc => by obtain ⟨i, _, rfl⟩ := List.mem_map.mp hc; exact .inl ⟨_, rfl⟩) ?_
        cases ms with
        | nil =>
          have hm : stopK z l.length w q = topK l.length w q := hm
          walk_at "pp"
          rw [hm]
          exact ⟨rfl, rfl⟩
        | cons s0 ms =>
          have hm : stopK z l.length w q = s0 := hm
          walk_at "pp"
          refine oo_ixL (d := intD s0) (atI_of (j := 0) rfl rfl) ?_
          walk_at "pp"
          rw [hm]
          exact ⟨rfl, rfl⟩
      rintro δ μ ⟨rfl, rfl⟩
      refine se_seq (se_to (fun δ μ => δ = [some (.lst l), some (.int (w : Int)), some (.own 0), x3, some (.int (q : Int)), x5, x6, x7, x8, some (.own 1), some (.int ((winK z l.length w q : Nat) : Int)), some (.lst (ms.map intD)), x12] ∧ μ = [.lst (kL (kd z l.length w) l.length), .lst (fs.map winD)]) ?_ ?_)
      · refine se_while (fun m δ μ => ∃ v : Nat, m = v ∧ winK z l.length w q ≤ v ∧ v ≤ l.length ∧ downK z l.length w v = winK z l.length w q ∧ δ = [some (.lst l), some (.int (w : Int)), some (.own 0), x3, some (.int (q : Int)), x5, x6, x7, x8, some (.own 1), some (.int (v : Int)), some (.lst (ms.map intD)), x12] ∧ μ = [.lst (kL (kd z l.length w) l.length), .lst (fs.map winD)]) (stopK z l.length w q) ⟨_, rfl, d2, by omega, rfl, rfl, rfl⟩ ?_
        rintro v δ μ ⟨_, rfl, hv1, hv2, hv3, rfl, rfl⟩
        refine et_by (P := kk z l.length w v = 0) ?_ fun b hb => ⟨fun h => ?_, fun h => ?_⟩
        · walk_at "pp"
          refine cc_len (.lst _) ?_
          walk_at "pp"
          refine ⟨fun h1 => ?_, fun h1 => ?_⟩
          · have h1 : (v : Int) < (l.length : Int) := of_decide_eq_true h1
            walk_at "pp"
            refine oo_ixO rfl (atI_of (j := v) (hkat _ (by omega)) rfl) ?_
            walk_at "pp"
            rw [int_eq]
            have ek : kk z l.length w v = kd z l.length w v := if_pos (by omega)
            exact ⟨rfl, fun h => by have h := of_decide_eq_true h; omega, fun h => decide_eq_true (by omega)⟩
          · have h1 : ¬ (v : Int) < (l.length : Int) := of_decide_eq_false h1
            have ek : kk z l.length w v = 1 := if_neg (by omega)
            exact ⟨rfl, fun h => (by cases h), fun h => (by omega)⟩
        · have hq := hb.mp h
          have hne : v ≠ winK z l.length w q := fun e => by rw [e] at hq; omega
          obtain ⟨u, rfl⟩ : ∃ u, v = u + 1 := ⟨v - 1, by omega⟩
          have ed : downK z l.length w (u + 1) = downK z l.length w u := if_neg (by omega)
          walk_at "pp"
          refine ⟨u, Nat.lt_succ_self _, u, rfl, by omega, by omega, by rw [← ed]; exact hv3, ?_, rfl⟩
          rw [show ((u + 1 : Nat) : Int) - 1 = (u : Int) by omega]
          rfl
        · have hq : kk z l.length w v ≠ 0 := fun q => by rw [hb.mpr q] at h; cases h
          obtain ⟨u, rfl⟩ : ∃ u, v = u + 1 := ⟨v - 1, by omega⟩
          have ed : downK z l.length w (u + 1) = u + 1 := if_pos (by omega)
          rw [ed] at hv3
          rw [← hv3]
          exact ⟨rfl, rfl⟩
      rintro δ μ ⟨rfl, rfl⟩
      walk_at "pp"
      refine ee_bm ?_
      walk_at "pp"
      refine ⟨.lst (.own rfl), ?_⟩
      walk_at "pp"
      refine mm_append (k := 1) rfl (by rw [List.length_map]; omega) ?_
      walk_at "pp"
      refine ⟨l.length - (wN z l.length w (j + 1)).1, by rw [es]; show l.length - winK z l.length w q < _; omega, j + 1, x3, x5, x6, x7, x8, some (.int ((winK z l.length w q : Nat) : Int)), some (.lst (ms.map intD)), x12, hj2, rfl, ?_, ?_⟩
      rotate_left
      · rw [es]
        show [_, Cell.lst (fs.map winD ++ [winD (q, winK z l.length w q)])] = _
        rw [List.map_append]
        rfl
      · rw [es]
        rfl
    · have hge : ¬ (wN z l.length w j).1 < l.length := by have := of_decide_eq_false hb; omega
      walk_at "pp"
      walk_at "gp"
      refine gaveN hl (k := 1) rfl wins_cl ?_
      rw [wN_end h0 hj hge, hz0]
end


section
variable {P : Program} {w : World} {K : PySem.W.Frag} {mg : Str → Option Value} {base : Heap} {a : Ad} {f : Addr} {fd : FuncData}
abbrev Q4 := Nat × D × D × D
def ansQ (t : Q4) : Out := match t.1 with
  | 0 => ansW0 t.2.1 t.2.2.1
  | 1 => ansW1 t.2.1 t.2.2.1 t.2.2.2
  | 2 => ansW2 t.2.1 t.2.2.1 t.2.2.2
  | _ => ansW3 t.2.1 t.2.2.2
structure Asks (t : Q4) : Prop where
  way : t.1 < 4
  c : CsPre t.2.1
  wd : WdPre t.2.2.1
  g : Cl t.2.2.2
  br : t.1 = 1 → BrPre t.2.2.2
def argsQ (t : Q4) : List D := [t.2.1, t.2.2.1, t.2.2.2]
def argOf (t : Q4) : List D := [.int (t.1 : Int), .lst (argsQ t)]
theorem Asks.cl {t : Q4} (h : Asks t) : D.ltL 0 (argsQ t) = true := by
  have h1 : t.2.1.lt 0 = true := h.c.1.2
  have h2 : t.2.2.1.lt 0 = true := h.wd.1.2
  have h3 : t.2.2.2.lt 0 = true := h.g.2
  show (t.2.1.lt 0 && (t.2.2.1.lt 0 && (t.2.2.2.lt 0 && true))) = true
  rw [h1, h2, h3]
  rfl
theorem Asks.cl2 {t : Q4} (h : Asks t) : D.ltL 0 (argOf t) = true := by
  show (true && (D.ltL 0 (argsQ t) && true)) = true
  rw [h.cl]
  rfl
abbrev spAsked (K : PySem.W.Frag) (a : Ad) : Sp := ProP K (T := Q4) argOf Asks (fun t r => Told (ansQ t) r) (fun t c d => Bad a (ansQ t) c d)
abbrev st__law_asked : Stmt := top 47
abbrev nm__law_asked : List Str := ["way", "args"]
theorem sc__law_asked : FnScope nm__law_asked ["way", "args"] (defScope st__law_asked) := ⟨rfl, rfl, rfl, by decide +kernel, rfl, by decide +kernel, by decide +kernel⟩
theorem ok_lasked (F : Fun K "_law_asked" "_law_asked" st__law_asked f fd) (T : Tx P w K mg base a) (c_windows_of : CalX P w K mg base 5 "windows_of" ["cells", "width"] (spWinsOf K a)) (c_is_breaking : CalX P w K mg base 5 "is_breaking" ["cells", "width", "value"] (spBreaking K a)) (c_window_at : CalX P w K mg base 5 "window_at" ["cells", "width", "at"] (spWindowAt K a)) (c_least_width : CalX P w K mg base 5 "least_width" ["cells", "many"] (spLeast K a)) : FnOk P w K mg base (L2.CX P w) 6 f fd ["way", "args"] (spAsked K a) := by
  refine F.okX sc__law_asked (fun vs H Q E h => pro_len h fun _ => rfl) (fun cdv A outer s H vs Q E hr h => ⟨_, (pss_cons (ps_if (pt_cmpR (kO K rEqU rfl (op_eqU (hu64 hr))) (pv 0) pe_int (nomark _)) (pss_one (ps_ret (pe_c c_windows_of hr (by first | decide | exact Nat.le_refl _) rfl (passes_call (takes_of rfl rfl rfl rfl) (fun _ _ _ _ h => h)) (pa_cons (pe_ix (kX K rIx rfl ix_seq) (pv 1) pe_int (fun _ _ => rfl)) (pa_cons (pe_ix (kX K rIx rfl ix_seq) (pv 1) pe_int (fun _ _ => rfl)) pa_nil))))) pss_nil)
    (pss_cons (ps_if (pt_cmpR (kO K rEqU rfl (op_eqU (hu64 hr))) (pv 0) pe_int (nomark _)) (pss_one (ps_ret (pe_c c_is_breaking hr (by first | decide | exact Nat.le_refl _) rfl (passes_call (takes_of rfl rfl rfl rfl) (fun _ _ _ _ h => h)) (pa_cons (pe_ix (kX K rIx rfl ix_seq) (pv 1) pe_int (fun _ _ => rfl)) (pa_cons (pe_ix (kX K rIx rfl ix_seq) (pv 1) pe_int (fun _ _ => rfl)) (pa_cons (pe_ix (kX K rIx rfl ix_seq) (pv 1) pe_int (fun _ _ => rfl)) pa_nil)))))) pss_nil)
    (pss_one (ps_ret (pe_ifExp (pt_cmpR (kO K rEqU rfl (op_eqU (hu64 hr))) (pv 0) pe_int (nomark _)) (pe_c c_window_at hr (by first | decide | exact Nat.le_refl _) rfl (passes_call (takes_of rfl rfl rfl rfl) (fun _ _ _ _ h => h)) (pa_cons (pe_ix (kX K rIx rfl ix_seq) (pv 1) pe_int (fun _ _ => rfl)) (pa_cons (pe_ix (kX K rIx rfl ix_seq) (pv 1) pe_int (fun _ _ => rfl)) (pa_cons (pe_ix (kX K rIx rfl ix_seq) (pv 1) pe_int (fun _ _ => rfl)) pa_nil)))) (pe_c c_least_width hr (by first | decide | exact Nat.le_refl _) rfl (passes_call (takes_of rfl rfl rfl rfl) (fun _ _ _ _ h => h)) (pa_cons (pe_ix (kX K rIx rfl ix_seq) (pv 1) pe_int (fun _ _ => rfl)) (pa_cons (pe_ix (kX K rIx rfl ix_seq) (pv 1) pe_int (fun _ _ => rfl)) pa_nil)))))))), run_body h fun ⟨y, c, wd, g⟩ S h hl hcl wi => ?_⟩)
  have hl : S.A.length = 0 := hl
  have h : Asks (y, c, wd, g) := h
  have hy : y < 4 := h.way
  have hc0 : c.lt 0 = true := h.c.1.2
  have hw0 : wd.lt 0 = true := h.wd.1.2
  have hg0 : g.lt 0 = true := h.g.2
  have hy4 : y = 0 ∨ y = 1 ∨ y = 2 ∨ y = 3 := by omega
  rcases hy4 with rfl | rfl | rfl | rfl
  · walk_at "pp"
    refine ee_c0 wi ?_
    walk_at "pp"
    refine oo_ixL (d := c) rfl ?_
    walk_at "pp"
    refine oo_ixL (d := wd) rfl ?_
    walk_at "pp"
    refine ⟨(c, wd), ⟨h.c, h.wd⟩, rfl, by show (c.lt 0 && (wd.lt 0 && true)) = true; rw [hc0, hw0]; rfl, fun d hd hc => ?_, fun c d hd hc => ⟨by rw [hl]; exact hc, by rw [hl]; rfl, hd⟩⟩
    walk_at "gp"
    exact gaveP hl hc hd
  · walk_at "pp"
    refine ee_c0 wi ?_
    walk_at "pp"
    refine oo_ixL (d := c) rfl ?_
    walk_at "pp"
    refine oo_ixL (d := wd) rfl ?_
    walk_at "pp"
    refine oo_ixL (d := g) rfl ?_
    walk_at "pp"
    refine ⟨(c, wd, g), ⟨h.c, h.wd, h.br rfl⟩, rfl, by show (c.lt 0 && (wd.lt 0 && (g.lt 0 && true))) = true; rw [hc0, hw0, hg0]; rfl, fun d hd hc => ?_, fun c d hd hc => ⟨by rw [hl]; exact hc, by rw [hl]; rfl, hd⟩⟩
    walk_at "gp"
    exact gaveP hl hc hd
  · walk_at "pp"
    refine ee_c0 wi ?_
    walk_at "pp"
    refine oo_ixL (d := c) rfl ?_
    walk_at "pp"
    refine oo_ixL (d := wd) rfl ?_
    walk_at "pp"
    refine oo_ixL (d := g) rfl ?_
    walk_at "pp"
    refine ⟨(c, wd, g), ⟨h.c, h.wd, h.g⟩, rfl, by show (c.lt 0 && (wd.lt 0 && (g.lt 0 && true))) = true; rw [hc0, hw0, hg0]; rfl, fun d hd hc => ?_, fun c d hd hc => ⟨by rw [hl]; exact hc, by rw [hl]; rfl, hd⟩⟩
    walk_at "gp"
    exact gaveP hl hc hd
  · walk_at "pp"
    refine ee_c0 wi ?_
    walk_at "pp"
    refine oo_ixL (d := c) rfl ?_
    walk_at "pp"
    refine oo_ixL (d := g) rfl ?_
    walk_at "pp"
    refine ⟨(c, g), ⟨h.c, h.g⟩, rfl, by show (c.lt 0 && (g.lt 0 && true)) = true; rw [hc0, hg0]; rfl, fun d hd hc => ?_, fun c d hd hc => ⟨by rw [hl]; exact hc, by rw [hl]; rfl, hd⟩⟩
    walk_at "gp"
    exact gaveP hl hc hd
def heardO : Out → D
  | .told d => .lst [.str (Str.ofString "told"), d]
  | .bad k d => .lst [wordK k, d]
abbrev spHeard (K : PySem.W.Frag) : Sp := ProP K (T := Q4) argOf Asks (fun t r => r = heardO (ansQ t)) (fun _ _ _ => False)
theorem kind_of (T : Tx P w K mg base a) (k : Kd) : ∃ fI, PySem.W.exmOne K (.ref (clsK a k)) (.ref a.eReadingError) = some true ∧ ErrC K (clsK a k) fI := by
  cases k with
  | cells => obtain ⟨fI, hI⟩ := T.e_InvalidCells.c; exact ⟨fI, T.x_InvalidCells, hI⟩
  | count => obtain ⟨fI, hI⟩ := T.e_InvalidCount.c; exact ⟨fI, T.x_InvalidCount, hI⟩
  | width => obtain ⟨fI, hI⟩ := T.e_InvalidWidth.c; exact ⟨fI, T.x_InvalidWidth, hI⟩
abbrev st__law_heard : Stmt := top 35
abbrev nm__law_heard : List Str := ["way", "args", "caught", "told", "error"]
theorem sc__law_heard : FnScope nm__law_heard ["way", "args"] (defScope st__law_heard) := ⟨rfl, rfl, rfl, by decide +kernel, rfl, by decide +kernel, by decide +kernel⟩
theorem ok_lheard (F : Fun K "_law_heard" "_law_heard" st__law_heard f fd) (T : Tx P w K mg base a) (c__law_asked : CalX P w K mg base 6 "_law_asked" ["way", "args"] (spAsked K a)) (c__law_door : CalX P w K mg base 1 "_law_door" ["caught"] (spDoor K a)) : FnOk P w K mg base (L2.CX P w) 7 f fd ["way", "args"] (spHeard K) := by
  refine F.okX sc__law_heard (fun vs H Q E h => pro_len h fun _ => rfl) (fun cdv A outer s H vs Q E hr h => ⟨_, (pss_cons (ps_asg (pe_tup (pa_cons pe_non (pa_cons pe_non pa_nil))) (pg_tupK (K := K) rfl rfl (pgs_cons (pg_name (i := 2) sc__law_heard.nd rfl (by first | exact Or.inl rfl | exact Or.inr rfl)) (pgs_cons (pg_name (i := 3) sc__law_heard.nd rfl (by first | exact Or.inl rfl | exact Or.inr rfl)) pgs_nil))))
    (pss_cons (ps_tryC (i := 4) T.g_ReadingError sc__law_heard.nd rfl rfl rfl rfl rfl rfl (takes_of rfl rfl rfl rfl) (fun W pn xe tk own => (pss_one (ps_set (i := 3) sc__law_heard.nd rfl (by first | exact Or.inl rfl | exact Or.inr rfl) (pe_cS c__law_asked hr (by first | decide | exact Nat.le_refl _) rfl tk (pa_cons (pv 0) (pa_cons (pv 1) pa_nil)))))) (fun a pn => (pss_one (ps_set (i := 2) sc__law_heard.nd rfl (by first | exact Or.inl rfl | exact Or.inr rfl) (pv 4)))))
    (pss_cons (ps_if (pt_cmpR op_isN (pv 2) pe_non (nomark _)) (pss_one (ps_ret (pe_lst (pa_cons pe_str (pa_cons (pv 3) pa_nil))))) pss_nil)
    (pss_one (ps_ret (pe_lst (pa_cons (pe_c c__law_door hr (by first | decide | exact Nat.le_refl _) rfl (passes_call (takes_of rfl rfl rfl rfl) (fun _ _ _ _ h => h)) (pa_cons (pv 2) pa_nil)) (pa_cons (pe_errVK (K := K) rfl (pv 2)) pa_nil)))))))), run_body h fun t S ht hl hcl wi => ?_⟩)
  have hl : S.A.length = 0 := hl
  have ht : Asks t := ht
  walk_at "pp"
  refine se_asgG ?_
  walk_at "pp"
  refine ge_pair ?_
  walk_at "pp"
  refine se_try (fun δ' c d μ' => δ' = [some (.int (t.1 : Int)), some (.lst (argsQ t)), some .non, some .non, none] ∧ Bad a (ansQ t) c d ∧ d.lt 0 = true ∧ μ' = []) (sx_asg (ex_call ?_)) ?_
  · walk_at "pp"
    refine ⟨t, ht, rfl, ht.cl2, fun d z h1 => ?_, fun c d z h1 => ⟨rfl, z, h1, rfl⟩⟩
    have z : ansQ t = .told d := z
    walk_at "pp"
    refine ee_lst ?_
    walk_at "pp"
    walk_at "gp"
    refine gaveP hl ?_ ?_
    · show (true && (d.lt 0 && true)) = true
      rw [h1]
      rfl
    · show _ = heardO (ansQ t)
      rw [z]
      rfl
  rintro δ c d μ ⟨rfl, ⟨k, hk, rfl⟩, hd, rfl⟩
  obtain ⟨fI, he, hI⟩ := kind_of T k
  refine ⟨he, ?_⟩
  walk_at "pp"
  refine ee_lst ?_
  walk_at "pp"
  refine ee_cz ?_
  walk_at "pp"
  refine ⟨(k, d), trivial, rfl, by show (d.lt 0 && true) = true; rw [hd]; rfl, ?_⟩
  rintro r rfl
  walk_at "pp"
  refine ee_errV (fI := fun _ => fI) ?_
  walk_at "pp"
  refine ⟨hI, ?_⟩
  walk_at "pp"
  walk_at "gp"
  refine gaveP hl ?_ ?_
  · show ((wordK k).lt 0 && (d.lt 0 && true)) = true
    rw [hd]
    cases k <;> rfl
  · show _ = heardO (ansQ t)
    rw [hk]
    rfl
end


section
variable {P : Program} {w : World} {K : PySem.W.Frag} {mg : Str → Option Value} {base : Heap} {a : Ad} {f : Addr} {fd : FuncData}
mutual
theorem sb_cl {g : Nat → Option (List D)} : ∀ {d : D}, d.lt 0 = true → d.sub g = d
  | .v _, _ => rfl
  | .own k, h => absurd (of_decide_eq_true (show decide (k < 0) = true from h)) (Nat.not_lt_zero k)
  | .lst l, h => congrArg D.lst (sbL_cl h)
  | .rd l, h => congrArg D.rd (sbL_cl h)
  | .tup l, h => congrArg D.tup (sbL_cl h)
  | .dic ks l, h => congrArg (D.dic ks) (sbL_cl h)
  | .exc c d, h => congrArg (D.exc c) (sb_cl h)
theorem sbL_cl {g : Nat → Option (List D)} : ∀ {l : List D}, D.ltL 0 l = true → D.subL g l = l
  | [], _ => rfl
  | d :: l, h => by
    have h : (D.lt 0 d && D.ltL 0 l) = true := h
    rw [Bool.and_eq_true] at h
    show D.sub g d :: D.subL g l = d :: l
    rw [sb_cl h.1, sbL_cl h.2]
end
section
variable {z : Nat → Bool} {n w : Nat}
def bgK (z : Nat → Bool) (i : Nat) : Nat := if z i = true then i else stK z i
theorem en_st {i : Nat} (hi : i < n) (h : z i = false) : enK z n (stK z i) = enK z n i := by
  obtain ⟨f, f1, f2, f3, f4⟩ := word_of i h
  obtain ⟨e, h1, h2, h3, h4⟩ := run_end (z := z) (n := n) (n - i) i (Nat.le_refl _) (by omega)
  rw [f2, enK_eq h1 h2 (fun j j1 j2 => ⟨by omega, h3 j j1 j2⟩) h4, enK_eq (f := f) (by omega) h2 (fun j j1 j2 => ⟨by omega, ?_⟩) h4]
  by_cases q : j ≤ i
  · exact f3 j j1 q
  · exact h3 j (by omega) j2
theorem bg_le {i : Nat} : bgK z i ≤ i := by
  unfold bgK
  split
  · exact Nat.le_refl _
  · exact stK_le i
theorem must_iff {i : Nat} (hi : i < n) : (z i = false ∧ w < enK z n i - bgK z i ∧ (i - bgK z i) % w = 0) ↔ kk z n w i = 2 := by
  have e1 : kk z n w i = kd z n w i := if_pos hi
  rw [e1]
  unfold kd
  cases hz : z i with
  | true =>
    rw [if_neg (fun q => by cases q.1)]
    constructor
    · rintro ⟨q, _⟩
      cases q
    · intro q
      split at q <;> cases q
  | false =>
    have e2 : bgK z i = stK z i := if_neg (by rw [hz]; exact Bool.false_ne_true)
    rw [e2, en_st hi hz]
    by_cases h : w < enK z n i - stK z i
    · rw [if_pos ⟨rfl, h⟩]
      by_cases h2 : (i - stK z i) % w = 0
      · rw [if_pos h2]
        exact ⟨fun _ => rfl, fun _ => ⟨rfl, h, h2⟩⟩
      · rw [if_neg h2]
        exact ⟨fun q => absurd q.2.2 h2, fun q => by cases q⟩
    · rw [if_neg (fun q => h q.2)]
      constructor
      · rintro ⟨_, q, _⟩
        exact absurd q h
      · intro q
        split at q <;> cases q
theorem may_iff {i : Nat} (hw : 0 < w) (hi : i < n) (h1 : 1 ≤ i) : (z i = true ∨ z (i - 1) = true ∨ kk z n w i = 2) ↔ 0 < kk z n w i := by
  have e1 : kk z n w i = kd z n w i := if_pos hi
  rw [e1]
  cases hz : z i with
  | true =>
    rw [kd_zero hz]
    exact ⟨fun _ => Nat.one_pos, fun _ => .inl rfl⟩
  | false =>
    cases hp : z (i - 1) with
    | true =>
      refine ⟨fun _ => ?_, fun _ => .inr (.inl rfl)⟩
      have es : stK z i = i := by
        obtain ⟨j, rfl⟩ : ∃ j, i = j + 1 := ⟨i - 1, by omega⟩
        have hp : z j = true := hp
        show (if (!z (j + 1) && z j) = true then j + 1 else stK z j) = j + 1
        rw [hz, hp]
        rfl
      unfold kd
      split
      · rw [es, Nat.sub_self, Nat.zero_mod, if_pos rfl]
        decide
      · rw [show baseK z i = true from by unfold baseK; rw [hp]; simp]
        decide
    | false =>
      constructor
      · rintro (q | q | q)
        · cases q
        · cases q
        · rw [q]
          decide
      · intro q
        refine .inr (.inr ?_)
        unfold kd at q ⊢
        split at q
        · rename_i h
          rw [if_pos h]
          split at q
          · rename_i h2
            rw [if_pos h2]
          · cases q
        · rename_i h
          have hb : baseK z i = false := by
            unfold baseK
            rw [hp, hz, decide_eq_false (by omega)]
            rfl
          rw [hb] at q
          cases q
end
theorem oo_niN {S : Bs} {μ : List Cell} {C : D → List Cell → Prop} {L : List Nat} {k : Nat} (c : C (.bl (!decide (k ∈ L))) μ) : OO K S (rNiU K) (.int (k : Int)) (.lst (L.map intD)) μ C := by
  have e : L.map intD = (L.map fun (i : Nat) => V.int (i : Int)).map D.v := by
    rw [List.map_map]
    rfl
  rw [e]
  refine oo_niL rfl (List.all_eq_true.mpr fun x hx => by obtain ⟨i, _, rfl⟩ := List.mem_map.mp hx; rfl) ?_
  rw [inV_nat]
  exact c
abbrev spLBreaking (K : PySem.W.Frag) : Sp := ProP K (T := List D × Nat × List (Nat × Nat)) (fun t => [.lst t.1, .int (t.2.1 : Int), .lst (t.2.2.map winD)]) (fun t => CellL t.1 ∧ 0 < t.2.1 ∧ t.2.2.length ≤ 1000000) (fun t r => r = .bl (brk (zc t.1) t.1.length t.2.1 t.2.2)) (fun _ _ _ => False)
abbrev st__law_is_breaking : Stmt := top 46
abbrev nm__law_is_breaking : List Str := ["cells", "width", "windows", "at", "begun", "first", "last", "must", "may"]
theorem sc__law_is_breaking : FnScope nm__law_is_breaking ["cells", "width", "windows"] (defScope st__law_is_breaking) := ⟨rfl, rfl, rfl, by decide +kernel, rfl, by decide +kernel, by decide +kernel⟩
theorem ok_lbreaking (F : Fun K "_law_is_breaking" "_law_is_breaking" st__law_is_breaking f fd) (T : Tx P w K mg base a) : FnOk P w K mg base (L2.CX P w) 1 f fd ["cells", "width", "windows"] (spLBreaking K) := by
  refine F.okX sc__law_is_breaking (fun vs H Q E h => pro_len h fun _ => rfl) (fun cdv A outer s H vs Q E hr h => ⟨_, (pss_cons (ps_par (i := 3) (j := 4) rfl sc__law_is_breaking.nd rfl rfl (by decide) rfl rfl (pa_cons pe_int (pa_cons (pe_lst pa_nil) pa_nil)) (by rfl))
    (pss_cons (ps_for (passes_of rfl) rfl (pi_listK (K := K) rfl (pv 2)) (pg_tupK (K := K) rfl rfl (pgs_cons (pg_name (i := 5) sc__law_is_breaking.nd rfl (by first | exact Or.inl rfl | exact Or.inr rfl)) (pgs_cons (pg_name (i := 6) sc__law_is_breaking.nd rfl (by first | exact Or.inl rfl | exact Or.inr rfl)) pgs_nil)))
      (pss_cons (ps_if (PW.pt (pw_or (pt_cmpR (kO K rNeU rfl (op_neU (hu64 hr))) (pv 5) (pv 3) (nomark _)) (pw_or1 (pt_not (pt_chain op_less op_leq (pv 5) (pv 6) (pe_op (kO K rPlus rfl op_plus) (pv 5) (pv 1))))))) (pss_one (ps_ret pe_bl)) pss_nil)
    (pss_cons (ps_expr (pe_bmK (K := K) rfl PySem.F.plainAttrs_list PySem.F.slot_list_append PySem.F.type_list_append mt_append (pv 4) (pa_cons (pv 5) pa_nil)))
    (pss_one (ps_set (i := 3) sc__law_is_breaking.nd rfl (by first | exact Or.inl rfl | exact Or.inr rfl) (pv 6))))))
    (pss_cons (ps_if (pt_cmpR (kO K rNeU rfl (op_neU (hu64 hr))) (pv 3) (pe_callB (kC K rLenU rfl call_lenU) (by rfl) T.b_len (by decide +kernel) (pa_cons (pv 0) pa_nil)) (nomark _)) (pss_one (ps_ret pe_bl)) pss_nil)
    (pss_cons (ps_for (passes_of rfl) rfl (pi_range2 rfl T.b_range (pa_cons pe_int (pa_cons (pe_callB (kC K rLenU rfl call_lenU) (by rfl) T.b_len (by decide +kernel) (pa_cons (pv 0) pa_nil)) pa_nil))) (pg_name (i := 3) sc__law_is_breaking.nd rfl (by first | exact Or.inl rfl | exact Or.inr rfl))
      (pss_cons (ps_par (i := 5) (j := 6) rfl sc__law_is_breaking.nd rfl rfl (by decide) rfl rfl (pa_cons (pv 3) (pa_cons (pv 3) pa_nil)) (by rfl))
    (pss_cons (ps_while (passes_of rfl) (PW.pt (pw_and (pt_cmpR op_gt (pv 5) pe_int (nomark _)) (pw_and (pt_cmpR (kO K rNeU rfl (op_neU (hu64 hr))) (pe_ix (kX K rIx rfl ix_seq) (pv 0) (pe_op op_sub (pv 5) pe_int) (fun _ _ => rfl)) pe_int (nomark _)) (pw_and1 (pt_cmpR (kO K rNeU rfl (op_neU (hu64 hr))) (pe_ix (kX K rIx rfl ix_seq) (pv 0) (pv 3) (fun _ _ => rfl)) pe_int (nomark _)))))) (pss_one (ps_set (i := 5) sc__law_is_breaking.nd rfl (by first | exact Or.inl rfl | exact Or.inr rfl) (pe_op op_sub (pv 5) pe_int))))
    (pss_cons (ps_while (passes_of rfl) (PW.pt (pw_and (pt_cmpR op_less (pv 6) (pe_callB (kC K rLenU rfl call_lenU) (by rfl) T.b_len (by decide +kernel) (pa_cons (pv 0) pa_nil)) (nomark _)) (pw_and1 (pt_cmpR (kO K rNeU rfl (op_neU (hu64 hr))) (pe_ix (kX K rIx rfl ix_seq) (pv 0) (pv 6) (fun _ _ => rfl)) pe_int (nomark _))))) (pss_one (ps_set (i := 6) sc__law_is_breaking.nd rfl (by first | exact Or.inl rfl | exact Or.inr rfl) (pe_op (kO K rPlus rfl op_plus) (pv 6) pe_int))))
    (pss_cons (ps_set (i := 7) sc__law_is_breaking.nd rfl (by first | exact Or.inl rfl | exact Or.inr rfl) (pe_and (pe_cmpR (kO K rNeU rfl (op_neU (hu64 hr))) (pe_ix (kX K rIx rfl ix_seq) (pv 0) (pv 3) (fun _ _ => rfl)) pe_int (nomark _)) (pe_and (pe_cmpR op_gt (pe_op op_sub (pv 6) (pv 5)) (pv 1) (nomark _)) (pe_one (pe_cmpR (kO K rEqU rfl (op_eqU (hu64 hr))) (pe_op op_mod (pe_op op_sub (pv 3) (pv 5)) (pv 1)) pe_int (nomark _))))))
    (pss_cons (ps_set (i := 8) sc__law_is_breaking.nd rfl (by first | exact Or.inl rfl | exact Or.inr rfl) (pe_or (pe_cmpR (kO K rEqU rfl (op_eqU (hu64 hr))) (pe_ix (kX K rIx rfl ix_seq) (pv 0) (pv 3) (fun _ _ => rfl)) pe_int (nomark _)) (pe_or (pe_cmpR (kO K rEqU rfl (op_eqU (hu64 hr))) (pe_ix (kX K rIx rfl ix_seq) (pv 0) (pe_op op_sub (pv 3) pe_int) (fun _ _ => rfl)) pe_int (nomark _)) (pe_one (pv 7)))))
    (pss_one (ps_if (PW.pt (pw_or (PW.pt (pw_and (pt_val (pv 7)) (pw_and1 (pt_cmpR (kO K rNiU rfl op_niU) (pv 3) (pv 4) (by with_unfolding_all rfl))))) (pw_or1 (PW.pt (pw_and (pt_cmpR (kO K rInU rfl op_inU) (pv 3) (pv 4) (by with_unfolding_all rfl)) (pw_and1 (pt_not (pt_val (pv 8))))))))) (pss_one (ps_ret pe_bl)) pss_nil))))))))
    (pss_one (ps_ret pe_bl)))))), run_body h fun ⟨l, w, ps⟩ S ⟨hc, h0, hpz⟩ hl hcl wi => ?_⟩)
  have hl : S.A.length = 0 := hl
  have hc : CellL l := hc
  have h0 : 0 < w := h0
  have hpz : ps.length ≤ 1000000 := hpz
  have hz : l.length ≤ 1000000 := hc.1
  have hcc : D.ltL 0 l = true := cells_cl hc.2
  generalize hz0 : zc l = z
  have fin : ∀ b : Bool, ∀ ν : List Cell, b = brk z l.length w ps → Gave S (fun r μ => μ = [] ∧ r = .bl (brk (zc l) l.length w ps)) (.bl b) ν := fun b ν e => gaveP hl (by rfl) (by rw [e, hz0])
  have no : ∀ (ν : List Cell), chain l.length w 0 ps = false → Gave S (fun r μ => μ = [] ∧ r = .bl (brk (zc l) l.length w ps)) (.bl false) ν := fun ν e => fin _ ν (by unfold brk; rw [e]; rfl)
  walk_at "pp"
  refine se_par ?_
  walk_at "pp"
  refine ee_open ?_
  walk_at "pp"
  refine se_for (ie_list ?_)
  walk_at "pp"
  refine ⟨_, .inl rfl, ?_⟩
  refine ⟨rfl, fun i δ μ => ∃ (at' : Nat) (x5 x6 : Option D), δ = [some (.lst l), some (.int (w : Int)), some (.lst (ps.map winD)), some (.int (at' : Int)), some (.own 0), x5, x6, none, none] ∧ μ = [.lst (((ps.take i).map (·.1)).map intD)] ∧ chain l.length w 0 ps = chain l.length w at' (ps.drop i), ⟨0, none, none, rfl, rfl, rfl⟩, ?_, ?_⟩
  · rintro i x δ μ hi ⟨at', x5, x6, rfl, rfl, hch⟩
    rw [List.getElem?_map] at hi
    obtain ⟨⟨u, v⟩, hp, rfl⟩ := Option.map_eq_some_iff.mp hi
    obtain ⟨hil, hpe⟩ := List.getElem?_eq_some_iff.mp hp
    have hd : ps.drop i = (u, v) :: ps.drop (i + 1) := by rw [List.drop_eq_getElem_cons hil, hpe]
    have ht : ps.take (i + 1) = ps.take i ++ [(u, v)] := by rw [List.take_succ, hp]; rfl
    rw [hd] at hch
    have hch2 : chain l.length w 0 ps = ((decide (u = at') && (decide (u < v) && decide (v ≤ u + w))) && chain l.length w v (ps.drop (i + 1))) := hch
    refine ge_pair ?_
    walk_at "pp"
    rw [int_eq]
    refine ⟨fun h1 => ?_, fun h1 => ?_⟩
    · have h1 : ¬ (u : Int) = (at' : Int) := by simpa using h1
      refine ⟨fun _ => ?_, fun z => by cases z⟩
      walk_at "pp"
      walk_at "gp"
      refine no _ ?_
      rw [hch2, decide_eq_false (by omega)]
      rfl
    have h1 : (u : Int) = (at' : Int) := by simpa using h1
    have h1 : u = at' := by omega
    walk_at "pp"
    refine ⟨fun h2 => ?_, fun h2 => ?_⟩
    · have h2 : ¬ (u : Int) < (v : Int) := of_decide_eq_false h2
      walk_at "pp"
      walk_at "gp"
      refine no _ ?_
      rw [hch2, decide_eq_false (show ¬ u < v by omega)]
      simp
    have h2 : (u : Int) < (v : Int) := of_decide_eq_true h2
    walk_at "pp"
    refine ⟨fun h3 => ?_, fun h3 => ?_⟩
    · have h3 : ¬ (v : Int) ≤ (u : Int) + (w : Int) := by simpa using h3
      walk_at "pp"
      walk_at "gp"
      refine no _ ?_
      rw [hch2, decide_eq_false (show ¬ v ≤ u + w by omega)]
      simp
    have h3 : (v : Int) ≤ (u : Int) + (w : Int) := by simpa using h3
    walk_at "pp"
    refine ee_bm ?_
    walk_at "pp"
    refine ⟨.lst (.own rfl), ?_⟩
    walk_at "pp"
    refine mm_append (k := 0) rfl (by rw [List.length_map, List.length_map, List.length_take]; omega) ?_
    walk_at "pp"
    refine ⟨v, _, _, rfl, ?_, ?_⟩
    · rw [ht, List.map_append, List.map_append]
      rfl
    · rw [hch2, decide_eq_true h1, decide_eq_true (show u < v by omega), decide_eq_true (show v ≤ u + w by omega)]
      rfl
  rintro δ μ ⟨at', x5, x6, rfl, rfl, hch⟩
  rw [List.length_map, List.drop_length] at hch
  rw [List.length_map, List.take_length]
  have hch : chain l.length w 0 ps = decide (at' = l.length) := hch
  walk_at "pp"
  refine cc_len (.lst _) ?_
  walk_at "pp"
  rw [int_eq]
  refine ⟨fun h1 => ?_, fun h1 => ?_⟩
  · have h1 : ¬ (at' : Int) = (l.length : Int) := by simpa using h1
    walk_at "pp"
    walk_at "gp"
    refine no _ ?_
    rw [hch, decide_eq_false (by omega)]
  have h1 : (at' : Int) = (l.length : Int) := by simpa using h1
  have hch : chain l.length w 0 ps = true := by rw [hch, decide_eq_true (by omega)]
  have hbn : ∀ i ∈ ps.map (·.1), i < l.length := fun i hi => by
    obtain ⟨p, hp, rfl⟩ := List.mem_map.mp hi
    have := (chain_le hch).2 p hp
    show p.1 < l.length
    omega
  have h0b : 0 < l.length → 0 ∈ ps.map (·.1) := fun hn => by
    obtain ⟨p, hp, q1, q2⟩ := chain_at hch (Nat.le_refl 0) hn
    exact List.mem_map.mpr ⟨p, hp, by omega⟩
  have ebrk : brk z l.length w ps = ((ps.map (·.1)).all (fun i => decide (0 < kk z l.length w i)) && (List.range l.length).all fun i => !decide (kk z l.length w i = 2) || decide (i ∈ ps.map (·.1))) := by
    unfold brk
    rw [hch, Bool.true_and, List.all_map]
    rfl
  generalize hbg : ps.map (·.1) = bg at *
  refine se_shut (l := bg.map intD) 0 (by rw [hl]; exact Nat.zero_le _) rfl ?_
  show SE K S _ [some (.lst (D.subL _ l)), some (.int (w : Int)), some (.lst (D.subL _ (ps.map winD))), some (.int (at' : Int)), some (.lst (bg.map intD)), _, _, none, none] [.off] _
  rw [sbL_cl hcc, sbL_cl wins_cl]
  walk_at "pp"
  refine se_for (ie_rng2 ?_)
  walk_at "pp"
  refine cc_len (.lst _) ?_
  walk_at "pp"
  refine ⟨⟨by decide, by decide, by omega, by omega⟩, ?_⟩
  rw [show ((l.length : Int) - 1).toNat = l.length - 1 by omega]
  refine ⟨rfl, fun i δ μ => ∃ (y3 : Nat) (y5 y6 y7 y8 : Option D), δ = [some (.lst l), some (.int (w : Int)), some (.lst (ps.map winD)), some (.int (y3 : Int)), some (.lst (bg.map intD)), y5, y6, y7, y8] ∧ μ = [.off] ∧ ∀ k, 1 ≤ k → k < 1 + i → (kk z l.length w k = 2 → k ∈ bg) ∧ (k ∈ bg → 0 < kk z l.length w k), ⟨at', _, _, none, none, rfl, rfl, fun k h1 h2 => by omega⟩, ?_, ?_⟩
  · rintro i x δ μ hi ⟨y3, y5, y6, y7, y8, rfl, rfl, hall⟩
    obtain ⟨hi2, rfl⟩ := rng_get hi
    obtain ⟨k, hk⟩ : ∃ k, k = 1 + i := ⟨_, rfl⟩
    rw [show (1 : Int) + (i : Int) = ((k : Nat) : Int) by omega]
    have hk1 : 1 ≤ k := by omega
    have hkn : k < l.length := by omega
    obtain ⟨ck, hck1, hck2⟩ := hc.at hkn
    obtain ⟨cj, hcj1, hcj2⟩ := hc.at (i := k - 1) (by omega)
    rw [hz0] at hck2 hcj2
    refine ge_name ?_
    refine se_seq (se_par ?_)
    walk_at "pp"
    refine se_to (fun δ μ => δ = [some (.lst l), some (.int (w : Int)), some (.lst (ps.map winD)), some (.int (k : Int)), some (.lst (bg.map intD)), some (.int ((bgK z k : Nat) : Int)), some (.int (k : Int)), y7, y8] ∧ μ = [.off]) ?_ ?_
    · refine se_while (fun m δ μ => ∃ f : Nat, m = f ∧ bgK z k ≤ f ∧ f ≤ k ∧ δ = [some (.lst l), some (.int (w : Int)), some (.lst (ps.map winD)), some (.int (k : Int)), some (.lst (bg.map intD)), some (.int (f : Int)), some (.int (k : Int)), y7, y8] ∧ μ = [.off]) k ⟨k, rfl, bg_le, Nat.le_refl _, rfl, rfl⟩ ?_
      rintro m δ μ ⟨f, hm, hf1, hf2, rfl, rfl⟩
      have hT : z k = true → bgK z k = k := fun h => if_pos h
      have hF : z k = false → (∀ j, bgK z k ≤ j → j ≤ k → z j = false) ∧ (bgK z k = 0 ∨ z (bgK z k - 1) = true) := fun h => by
        have e : bgK z k = stK z k := if_neg (by rw [h]; exact Bool.false_ne_true)
        obtain ⟨f, f1, f2, f3, f4⟩ := word_of k h
        rw [e, f2]
        exact ⟨f3, f4⟩
      refine et_by (P := bgK z k < f) ?_ fun b hb => ⟨fun h => ?_, fun h => ?_⟩
      · walk_at "pp"
        refine ⟨fun q1 => ?_, fun q1 => ?_⟩
        · have q1 : (0 : Int) < (f : Int) := of_decide_eq_true q1
          obtain ⟨cf, hcf1, hcf2⟩ := hc.at (i := f - 1) (by omega)
          rw [hz0] at hcf2
          walk_at "pp"
          refine oo_ixL (atI_of (j := f - 1) hcf1 (by omega)) ?_
          walk_at "pp"
          rw [ne_z hcf2]
          refine ⟨fun q2 => ?_, fun q2 => ?_⟩
          · have q2 : z (f - 1) = false := by simpa using q2
            walk_at "pp"
            refine oo_ixL (atI_of (j := k) hck1 rfl) ?_
            walk_at "pp"
            rw [ne_z hck2]
            refine ⟨rfl, fun q3 => ?_, fun q3 => ?_⟩
            · have q3 : z k = false := by simpa using q3
              obtain ⟨r1, r2⟩ := hF q3
              rcases Nat.lt_or_ge (bgK z k) f with h | h
              · exact h
              · have : bgK z k = f := by omega
                rw [this] at r2
                rcases r2 with r2 | r2
                · omega
                · rw [q2] at r2
                  cases r2
            · cases hzk : z k with
              | false => rfl
              | true =>
                have := hT hzk
                omega
          · have q2 : z (f - 1) = true := by simpa using q2
            refine ⟨rfl, fun z => (by cases z), fun q3 => ?_⟩
            cases hzk : z k with
            | false =>
              have := (hF hzk).1 (f - 1) (by omega) (by omega)
              rw [q2] at this
              cases this
            | true =>
              have := hT hzk
              omega
        · have q1 : ¬ (0 : Int) < (f : Int) := of_decide_eq_false q1
          exact ⟨rfl, fun z => (by cases z), fun q3 => by omega⟩
      · have hq := hb.mp h
        walk_at "pp"
        refine ⟨f - 1, by omega, f - 1, rfl, by omega, by omega, ?_, rfl⟩
        rw [show (f : Int) - 1 = ((f - 1 : Nat) : Int) by omega]
        rfl
      · have hq : ¬ bgK z k < f := fun q => by rw [hb.mpr q] at h; cases h
        rw [show bgK z k = f by omega]
        exact ⟨rfl, rfl⟩
    rintro δ μ ⟨rfl, rfl⟩
    refine se_seq (se_to (fun δ μ => δ = [some (.lst l), some (.int (w : Int)), some (.lst (ps.map winD)), some (.int (k : Int)), some (.lst (bg.map intD)), some (.int ((bgK z k : Nat) : Int)), some (.int ((enK z l.length k : Nat) : Int)), y7, y8] ∧ μ = [.off]) ?_ ?_)
    · refine se_while (fun m δ μ => ∃ e : Nat, m = l.length - e ∧ e ≤ l.length ∧ enK z l.length e = enK z l.length k ∧ δ = [some (.lst l), some (.int (w : Int)), some (.lst (ps.map winD)), some (.int (k : Int)), some (.lst (bg.map intD)), some (.int ((bgK z k : Nat) : Int)), some (.int (e : Int)), y7, y8] ∧ μ = [.off]) (l.length - k) ⟨k, rfl, by omega, rfl, rfl, rfl⟩ ?_
      rintro m δ μ ⟨e, rfl, he, hee, rfl, rfl⟩
      refine et_by (P := e < l.length ∧ z e = false) ?_ fun b hb => ⟨fun h => ?_, fun h => ?_⟩
      · walk_at "pp"
        refine cc_len (.lst _) ?_
        walk_at "pp"
        refine ⟨fun h1 => ?_, fun h1 => ?_⟩
        · have h1 : (e : Int) < (l.length : Int) := of_decide_eq_true h1
          obtain ⟨c', hc1', hc2'⟩ := hc.at (i := e) (by omega)
          rw [hz0] at hc2'
          walk_at "pp"
          refine oo_ixL (atI_of (j := e) hc1' rfl) ?_
          walk_at "pp"
          rw [ne_z hc2']
          refine ⟨rfl, fun q => ⟨by omega, by simpa using q⟩, fun q => by rw [q.2]; rfl⟩
        · have h1 : ¬ (e : Int) < (l.length : Int) := of_decide_eq_false h1
          exact ⟨rfl, fun q => (by cases q), fun q => (by omega)⟩
      · have hq := hb.mp h
        walk_at "pp"
        refine ⟨l.length - (e + 1), by omega, e + 1, rfl, by omega, ?_, rfl, rfl⟩
        rw [← hee, enK_step (f := e), if_pos hq]
      · have hq : ¬ (e < l.length ∧ z e = false) := fun q => by rw [hb.mpr q] at h; cases h
        rw [enK_step (f := e), if_neg hq] at hee
        rw [← hee]
        exact ⟨rfl, rfl⟩
    rintro δ μ ⟨rfl, rfl⟩
    have hen := enK_le (z := z) (n := l.length) (f := k) (by omega)
    have hbl := bg_le (z := z) (i := k)
    refine se_seq (se_asg (ee_val (kk z l.length w k = 2) ?_ fun bm hbm => ?_))
    · rw [← must_iff hkn]
      walk_at "pp"
      refine oo_ixL (atI_of (j := k) hck1 rfl) ?_
      walk_at "pp"
      rw [ne_z hck2]
      refine ⟨fun h1 => ?_, fun h1 => ?_⟩
      · have h1 : z k = false := by simpa using h1
        walk_at "pp"
        refine ⟨fun h2 => ?_, fun h2 => ?_⟩
        · have h2 : (w : Int) < ((enK z l.length k : Nat) : Int) - ((bgK z k : Nat) : Int) := of_decide_eq_true h2
          walk_at "pp"
          refine oo_mod (by omega) ?_
          walk_at "pp"
          rw [int_eq, show ((k : Int) - ((bgK z k : Nat) : Int)) % (w : Int) = (((k - bgK z k) % w : Nat) : Int) by rw [Int.natCast_emod, Int.natCast_sub hbl]]
          refine ⟨rfl, _, rfl, fun q => ⟨h1, by omega, ?_⟩, fun q => ?_⟩
          · have q := of_decide_eq_true q
            omega
          · refine decide_eq_true ?_
            omega
        · have h2 : ¬ (w : Int) < ((enK z l.length k : Nat) : Int) - ((bgK z k : Nat) : Int) := of_decide_eq_false h2
          refine ⟨rfl, _, rfl, fun z => (by cases z), fun q => ?_⟩
          omega
      · have h1 : z k = true := by simpa using h1
        refine ⟨rfl, _, rfl, fun z => (by cases z), fun q => ?_⟩
        rw [h1] at q
        cases q.1
    refine se_seq (se_asg (ee_val (0 < kk z l.length w k) ?_ fun bn hbn' => ?_))
    · rw [← may_iff h0 hkn hk1]
      walk_at "pp"
      refine oo_ixL (atI_of (j := k) hck1 rfl) ?_
      walk_at "pp"
      rw [int_eq, ← hck2]
      refine ⟨fun h1 => ⟨rfl, _, rfl, fun _ => .inl h1, fun _ => rfl⟩, fun h1 => ?_⟩
      walk_at "pp"
      refine oo_ixL (atI_of (j := k - 1) hcj1 (by omega)) ?_
      walk_at "pp"
      rw [int_eq, ← hcj2]
      refine ⟨fun h2 => ⟨rfl, _, rfl, fun _ => .inr (.inl h2), fun _ => rfl⟩, fun h2 => ?_⟩
      walk_at "pp"
      refine ⟨rfl, _, rfl, fun q => .inr (.inr (hbm.mp q)), fun q => ?_⟩
      rcases q with q | q | q
      · rw [h1] at q
        cases q
      · rw [h2] at q
        cases q
      · exact hbm.mpr q
    refine se_if (et_val (¬ ((kk z l.length w k = 2 → k ∈ bg) ∧ (k ∈ bg → 0 < kk z l.length w k))) ?_ fun b hb => ⟨fun h => ?_, fun h => ?_⟩)
    · walk_at "pp"
      refine ⟨fun h1 => ?_, fun h1 => ?_⟩
      · have hm2 := hbm.mp h1
        walk_at "pp"
        refine oo_niN ?_
        walk_at "pp"
        refine ⟨fun h2 => ?_, fun h2 => ?_⟩
        · have h2 : k ∉ bg := by simpa using h2
          exact ⟨rfl, fun _ q => h2 (q.1 hm2), fun _ => rfl⟩
        · have h2 : k ∈ bg := by simpa using h2
          walk_at "pp"
          refine oo_inN ?_
          walk_at "pp"
          refine ⟨fun h3 => ?_, fun h3 => ?_⟩
          · walk_at "pp"
            refine ⟨rfl, fun h4 q => ?_, fun h4 => ?_⟩
            · have := hbn'.mpr (q.2 h2)
              rw [this] at h4
              cases h4
            · cases bn with
              | false => rfl
              | true => exact absurd ⟨fun _ => h2, fun _ => hbn'.mp rfl⟩ h4
          · have h3 : k ∉ bg := by simpa using h3
            exact absurd h2 h3
      · have hm2 : ¬ kk z l.length w k = 2 := fun q => by rw [hbm.mpr q] at h1; cases h1
        walk_at "pp"
        refine oo_inN ?_
        walk_at "pp"
        refine ⟨fun h3 => ?_, fun h3 => ?_⟩
        · have h2 : k ∈ bg := by simpa using h3
          walk_at "pp"
          refine ⟨rfl, fun h4 q => ?_, fun h4 => ?_⟩
          · have := hbn'.mpr (q.2 h2)
            rw [this] at h4
            cases h4
          · cases bn with
            | false => rfl
            | true => exact absurd ⟨fun q => absurd q hm2, fun _ => hbn'.mp rfl⟩ h4
        · have h3 : k ∉ bg := by simpa using h3
          exact ⟨rfl, fun z => (by cases z), fun q => absurd ⟨fun r => absurd r hm2, fun r => absurd r h3⟩ q⟩
    · have hq := hb.mp h
      walk_at "pp"
      walk_at "gp"
      refine fin _ _ ?_
      rw [ebrk]
      refine (Bool.eq_false_iff.mpr fun q => hq ?_).symm
      obtain ⟨q1, q2⟩ := Bool.and_eq_true_iff.mp q
      refine ⟨fun r => ?_, fun r => of_decide_eq_true (List.all_eq_true.mp q1 k r)⟩
      have := List.all_eq_true.mp q2 k (List.mem_range.mpr hkn)
      rw [decide_eq_true r, Bool.not_true, Bool.false_or] at this
      exact of_decide_eq_true this
    · have hq : (kk z l.length w k = 2 → k ∈ bg) ∧ (k ∈ bg → 0 < kk z l.length w k) := Classical.not_not.mp fun q => by rw [hb.mpr q] at h; cases h
      walk_at "pp"
      refine ⟨k, _, _, _, _, rfl, rfl, fun j j1 j2 => ?_⟩
      by_cases e : j = k
      · rw [e]
        exact hq
      · exact hall j j1 (by omega)
  · rintro δ μ ⟨y3, y5, y6, y7, y8, rfl, rfl, hall⟩
    rw [rng_len] at hall
    walk_at "pp"
    walk_at "gp"
    refine fin _ _ ?_
    have hk0 := kk_0 (z := z) (n := l.length) h0
    rw [ebrk]
    refine (Bool.and_eq_true_iff.mpr ⟨List.all_eq_true.mpr fun i hi => decide_eq_true ?_, List.all_eq_true.mpr fun i hi => ?_⟩).symm
    · by_cases e : i = 0
      · rw [e]
        exact hk0
      · exact (hall i (by omega) (by have := hbn i hi; omega)).2 hi
    · have hi := List.mem_range.mp hi
      by_cases hk : kk z l.length w i = 2
      · rw [decide_eq_true hk, Bool.not_true, Bool.false_or]
        refine decide_eq_true ?_
        by_cases e : i = 0
        · rw [e]
          exact h0b (by omega)
        · exact (hall i (by omega) (by omega)).1 hk
      · rw [decide_eq_false hk]
        rfl
end


section
variable {P : Program} {w : World} {K : PySem.W.Frag} {mg : Str → Option Value} {base : Heap} {a : Ad} {f : Addr} {fd : FuncData}
theorem PuOk.le {n m : Nat} {l : List D} (h : PuOk n l) (hm : n ≤ m) : PuOk m l := by
  obtain ⟨p0, p1, p2, p3, e, h1, h2, h3, h4, h5, h6⟩ := h
  exact ⟨p0, p1, p2, p3, e, h1, h2, h3, by omega, h5, h6⟩
/-- _law_one_of of an open list -/
theorem gave_drawn {S : Bs} {P : D → Prop} {n : Nat} {d : D} {l : List D} {ν : List Cell} (hS : S.A.length = 1) (h1 : d.lt 0 = true) (h2 : P d) (h3 : PuOk n l) : Gave S (fun d μ => P d ∧ d.lt 0 = true ∧ ∃ l', μ = [.lst l'] ∧ PuOk n l') d (.lst l :: ν) := gave1 hS h1 h3.cl ⟨h2, h1, l, rfl, h3⟩
abbrev spDrawn (K : PySem.W.Frag) (B : Nat) {T : Type} (arg : T → List D) (pre : T → Prop) (post : T → D → Prop) (c : Nat) : Sp := Pro K (T := List D × Nat × T) (fun t => [.lst t.1]) (fun t => .own 0 :: arg t.2.2) (fun t => PuOk t.2.1 t.1 ∧ t.2.1 ≤ B ∧ pre t.2.2 ∧ D.ltL 0 (arg t.2.2) = true) (fun t d μ => post t.2.2 d ∧ d.lt 0 = true ∧ ∃ l', μ = [.lst l'] ∧ PuOk (t.2.1 + c) l') (fun _ _ _ _ => False)
section
variable {S : Bs} {δ : Sl} {μ : List Cell} {C : D → List Cell → Prop} {ta : TA} {E : XK}
theorem ask_drawn {T : Type} {arg : T → List D} {pre : T → Prop} {post : T → D → Prop} {B c : Nat} (k : Nat) (h : EA K S ta δ μ fun ds μ1 => ∃ (t : T) (l : List D) (n : Nat), ds = .own k :: arg t ∧ μ1[k]? = some (.lst l) ∧ PuOk n l ∧ n ≤ B ∧ pre t ∧ D.ltL 0 (arg t) = true ∧ ∀ d l', post t d → d.lt 0 = true → PuOk (n + c) l' → C d (μ1.set k (.lst l'))) : EE K S (tCall (spDrawn K B arg pre post c) [] E ta) δ μ C :=
  ee_cz1 k fun A G H σ a' Q q => h A G H σ a' Q fun vs ds A1 G1 H1 μ1 m nn r ⟨t, l, n, e1, hk, hp, hn, hpre, hcl, hC⟩ => q vs ds A1 G1 H1 μ1 m nn r (by
    subst e1
    refine ⟨(l, n, t), l, ⟨hp, hn, hpre, hcl⟩, rfl, hp.cl, hk, hand1 hcl, fun d ν ⟨h1, h2, l', h3, h4⟩ => ?_⟩
    exact ⟨h2, l', h3, h4.cl, hC d l' h1 h2 h4⟩)
theorem ask_one (k : Nat) (h : EA K S ta δ μ fun ds μ1 => ∃ (x : D) (l : List D) (n : Nat), ds = [.own k, x] ∧ μ1[k]? = some (.lst l) ∧ PuOk n l ∧ n ≤ 1000000000 ∧ PickOk x ∧ x.lt 0 = true ∧ ∀ d l', Pick x d → d.lt 0 = true → PuOk (n + 1) l' → C d (μ1.set k (.lst l'))) : EE K S (tCall (spOneOf K) [] E ta) δ μ C :=
  ee_cz1 k fun A G H σ a' Q q => h A G H σ a' Q fun vs ds A1 G1 H1 μ1 m nn r ⟨x, l, n, e1, hk, hp, hn, hx, hcl, hC⟩ => q vs ds A1 G1 H1 μ1 m nn r (by
    subst e1
    refine ⟨(l, x, n), l, ⟨hp, hn, hx⟩, rfl, hp.cl, hk, hand1 (by show (x.lt 0 && true) = true; rw [hcl]; rfl), fun d ν ⟨h1, h2, l', h3, h4⟩ => ?_⟩
    exact ⟨h2, l', h3, h4.cl, hC d l' h1 h2 h4⟩)
theorem ask_draw (k : Nat) (h : EA K S ta δ μ fun ds μ1 => ∃ (z : Int) (l : List D) (n : Nat), ds = [.own k, .int z] ∧ μ1[k]? = some (.lst l) ∧ PuOk n l ∧ n ≤ 1000000000 ∧ 0 < z ∧ z ≤ 1000000 ∧ ∀ (v : Nat) l', (v : Int) < z → PuOk (n + 1) l' → C (.int (v : Int)) (μ1.set k (.lst l'))) : EE K S (tCall (spDraw K) [] E ta) δ μ C :=
  ee_cz1 k fun A G H σ a' Q q => h A G H σ a' Q fun vs ds A1 G1 H1 μ1 m nn r ⟨z, l, n, e1, hk, hp, hn, h0, h1, hC⟩ => q vs ds A1 G1 H1 μ1 m nn r (by
    subst e1
    refine ⟨(l, z, n), l, ⟨hp, h0, h1, hn⟩, rfl, hp.cl, hk, hand1 rfl, fun d ν ⟨v, l', hr, v0, v1, hc, hp'⟩ => ?_⟩
    subst hr
    refine ⟨rfl, l', hc, hp'.cl, ?_⟩
    have := hC v.toNat l' (by have v1 : v < z := v1; omega) hp'
    rw [show ((v.toNat : Nat) : Int) = v by omega] at this
    exact this)
end
theorem ee_lcW {S : Bs} {g : TG} {wi : TI} {te : TE} {δ : Sl} {μ : List Cell} {vs : List Nat} {C : D → List Cell → Prop} {n c : Nat} {ρ : List Cell} {Q : D → Prop} (hρ : ∀ m, cellsLt m ρ = true) (hQ : ∀ d, Q d → d.lt 0 = true)
    (h : IE K S wi δ μ fun l P μ1 => P = yes ∧ ∃ l1, μ1 = .lst l1 :: ρ ∧ PuOk n l1 ∧ l.length ≤ 1000000 ∧
      (∀ (i : Nat) x acc l', l[i]? = some x → PuOk (n + c * i) l' → GW K S g vs x (wipeS δ vs) (.lst l' :: (ρ ++ [.lst acc])) fun δ2 μ2 => EE K S te δ2 μ2 fun d μ3 => ∃ l2, μ3 = .lst l2 :: (ρ ++ [.lst acc]) ∧ Q d ∧ PuOk (n + c * (i + 1)) l2) ∧
      ∀ acc l', acc.length = l.length → (∀ d ∈ acc, Q d) → PuOk (n + c * l.length) l' → C (.lst acc) (.lst l' :: ρ)) : EE K S (tLc wi g tYes te vs) δ μ C := by
  refine ee_lcI fun A G H σ a R q => h A G H σ a R fun J l P A1 G1 H1 μ1 m1 n1 gv ⟨eP, l1, e1, hp, hz, it, ie⟩ => q J l P A1 G1 H1 μ1 m1 n1 gv ?_
  subst e1 eP
  refine ⟨fun i acc μ' => i ≤ l.length ∧ ∃ l', μ' = .lst l' :: ρ ∧ PuOk (n + c * i) l' ∧ acc.length = i ∧ ∀ d ∈ acc, Q d, fun _ _ _ _ => trivial, ⟨Nat.zero_le _, l1, rfl, hp, rfl, fun d hd => by cases hd⟩, ?_, ?_, ?_⟩
  · rintro i acc μ' ⟨_, l', rfl, hp', _, hq⟩
    refine ⟨rfl, ?_, D.ltL_all.mpr fun d hd => D.lt_mono (Nat.zero_le _) (hQ d (hq d hd))⟩
    show (D.ltL _ l' && cellsLt _ ρ) = true
    rw [D.ltL_mono (Nat.zero_le _) hp'.cl, hρ]
    rfl
  · rintro i x acc μ' hx ⟨hi, l', rfl, hp', ha, hq⟩
    have hlt := (List.getElem?_eq_some_iff.mp hx).1
    intro A2 G2 H2 σ2 v2 a2 r2 Q2 q2
    refine it i x acc l' hx hp' A2 G2 H2 σ2 v2 a2 r2 Q2 fun A3 G3 H3 σ3 δ3 μ3 a3 n3 hw c3 => q2 A3 G3 H3 σ3 δ3 μ3 a3 n3 hw ?_
    refine et_yes ⟨fun _ => ?_, fun z => (by cases z)⟩
    refine c3.imp fun d μ4 ⟨l2, e2, hd, hp2⟩ => ?_
    subst e2
    refine ⟨.lst l2 :: ρ, rfl, by omega, by omega, l2, rfl, hp2, by rw [List.length_append, ha]; rfl, fun d' hd' => ?_⟩
    rcases List.mem_append.mp hd' with h' | h'
    · exact hq d' h'
    · rw [List.mem_singleton.mp h']
      exact hd
  · rintro acc μ' ⟨_, l', rfl, hp', ha, hq⟩
    exact ie acc l' ha hq hp'

theorem cutD_0n {l : List D} {j : Nat} : cutD l none (some (j : Int)) = l.take j := by
  show (l.drop 0).take (HT.sIx l.length l.length (some (j : Int)) - 0) = _
  rw [HT.sIx_nat, List.drop_zero, Nat.sub_zero]
  by_cases hj : j ≤ l.length
  · rw [Nat.min_eq_left hj]
  · rw [List.take_of_length_le (by omega), List.take_of_length_le (by omega)]
theorem cutD_n0 {l : List D} {j : Nat} : cutD l (some (j : Int)) none = l.drop j := by
  show (l.drop (HT.sIx l.length 0 (some (j : Int)))).take (l.length - HT.sIx l.length 0 (some (j : Int))) = _
  rw [HT.sIx_nat, List.take_of_length_le (by rw [List.length_drop]; omega)]
  by_cases hi : j ≤ l.length
  · rw [Nat.min_eq_left hi]
  · rw [List.drop_of_length_le (by omega : l.length ≤ j), List.drop_of_length_le (by omega)]
theorem rng_nat {q m : Nat} : rng (q : Int) m = (List.range' q m).map intD := by
  unfold rng
  rw [List.range'_eq_map_range, List.map_map]
  refine List.map_congr_left fun i _ => ?_
  show D.int ((q : Int) + (i : Int)) = D.int (((q + i : Nat)) : Int)
  rw [Int.natCast_add]
def SomeOk (n : Nat) (d : D) : Prop := ∃ L : List Nat, d = .lst (L.map intD) ∧ (∀ i ∈ L, i < n) ∧ L.length ≤ 100
theorem ints_cl {L : List Nat} {m : Nat} : D.ltL m (L.map intD) = true := D.ltL_all.mpr fun x hx => by
  obtain ⟨i, _, rfl⟩ := List.mem_map.mp hx
  rfl
abbrev spSome (K : PySem.W.Frag) : Sp := spDrawn K 200000000 (T := Nat) (fun n => [.int (n : Int), .int 20]) (fun n => n ≤ 1000000) (fun n d => SomeOk n d) 100
abbrev st__law_some : Stmt := top 44
abbrev nm__law_some : List Str := ["purse", "many", "most", "turn"]
theorem sc__law_some : FnScope nm__law_some ["purse", "many", "most"] (defScope st__law_some) := ⟨rfl, rfl, rfl, by decide +kernel, rfl, by decide +kernel, by decide +kernel⟩
theorem ok_some (F : Fun K "_law_some" "_law_some" st__law_some f fd) (T : Tx P w K mg base a) (c__law_draw : CalX P w K mg base 2 "_law_draw" ["purse", "many"] (spDraw K)) : FnOk P w K mg base (L2.CX P w) 3 f fd ["purse", "many", "most"] (spSome K) := by
  refine F.okX sc__law_some (fun vs H Q E h => pro_len h fun _ => rfl) (fun cdv A outer s H vs Q E hr h => ⟨_, (pss_cons (ps_if (pt_cmpR op_leq (pv 1) (pv 2) (nomark _)) (pss_one (ps_ret (pe_listRg rfl (by rfl) T.b_list (prg_1 (by rfl) T.b_range (pv 1))))) pss_nil)
    (pss_one (ps_ret (pe_callB (kC K rSortedI rfl cr_sortedI) (by rfl) T.b_sorted (by decide +kernel) (pa_cons (pe_op (kO K rPlus rfl op_plus) (pe_lst (pa_cons pe_int (pa_cons (pe_op op_sub (pv 1) pe_int) pa_nil))) (pe_lc (own := [("turn", 3)]) (tt := tYes) (g := (gName 3)) rfl sc__law_some.nd (pi_range1 rfl T.b_range (pa_cons (pe_op op_sub (pv 2) pe_int) pa_nil)) (blkOk_by (own := [("turn", 3)]) (N := nm__law_some) (sc := (defScope st__law_some)) (by decide +kernel)) (fun _ _ _ _ _ => (pg_name (i := 3) sc__law_some.nd rfl (by first | exact Or.inl rfl | exact Or.inr rfl))) (fun _ _ _ _ _ => pts_nil) (fun _ _ _ _ _ => (pe_c c__law_draw hr (by first | decide | exact Nat.le_refl _) rfl passL (pa_cons (pv 0) (pa_cons (pv 1) pa_nil)))))) pa_nil))))), run_body h fun ⟨l, n, z⟩ S ⟨hp, hn, hz, _⟩ hl hcl wi => ?_⟩)
  have hp : PuOk n l := hp
  have hn : n ≤ 200000000 := hn
  have hz : z ≤ 1000000 := hz
  have hS : S.A.length = 1 := hl
  walk_at "pp"
  refine ⟨fun hb => ?_, fun hb => ?_⟩
  · have hb : (z : Int) ≤ 20 := of_decide_eq_true hb
    walk_at "pp"
    refine ee_listRg1 ?_
    walk_at "pp"
    refine ⟨RgOk.of_le (by omega) (by omega) (by omega) (by omega), ?_⟩
    rw [Int.toNat_natCast, show (rng 0 z) = (List.range' 0 z).map intD from rng_nat (q := 0)]
    walk_at "gp"
    refine gave_drawn (n := n + 100) hS ?_ ⟨_, rfl, fun i hi => ?_, ?_⟩ (hp.le (by omega))
    · exact ints_cl
    · rw [List.mem_range'_1] at hi
      omega
    · rw [List.length_range']
      omega
  · have hb : ¬ (z : Int) ≤ 20 := of_decide_eq_false hb
    walk_at "pp"
    refine ee_lst ?_
    walk_at "pp"
    refine ee_lcW (n := n) (c := 1) (ρ := []) (Q := fun d => ∃ i : Nat, d = .int (i : Int) ∧ i < z) (fun m => rfl) (fun d ⟨i, e, _⟩ => by rw [e]; rfl) (ie_rng1 ?_)
    walk_at "pp"
    refine ⟨by decide, by decide, rfl, l, rfl, hp, by decide, fun i x acc l4 hx hp4 => ?_, fun acc l4 hlen hq4 hp4 => ?_⟩
    · have hi : i < 18 := (rng_get hx).1
      refine gw_name (by decide) ?_
      walk_at "pp"
      refine ask_draw 0 ?_
      walk_at "pp"
      refine ⟨(z : Int), l4, _, rfl, rfl, hp4, by omega, by omega, by omega, fun u l5 hu hp5 => ?_⟩
      exact ⟨l5, rfl, ⟨u, rfl, by omega⟩, hp5⟩
    have hlen : acc.length = 18 := hlen
    obtain ⟨ns, e, hns⟩ : ∃ ns : List Int, acc = ns.map D.int ∧ ∀ x ∈ ns, 0 ≤ x ∧ x < (z : Int) := by
      refine ⟨acc.map fun d => ((dotN d : Nat) : Int), ?_, fun x hx => ?_⟩
      · rw [List.map_map]
        conv => lhs; rw [← List.map_id acc]
        refine List.map_congr_left fun d hd => ?_
        obtain ⟨i, rfl, _⟩ := hq4 d hd
        show _ = D.int ((dotN (.int (i : Int)) : Nat) : Int)
        rw [show dotN (.int (i : Int)) = i from Int.toNat_natCast _]
        rfl
      · obtain ⟨d, hd, rfl⟩ := List.mem_map.mp hx
        obtain ⟨i, rfl, hi⟩ := hq4 d hd
        rw [show dotN (.int (i : Int)) = i from Int.toNat_natCast _]
        omega
    subst e
    rw [List.length_map] at hlen
    refine oo_addL (by rw [List.length_map]; show 2 + _ ≤ _; omega) ?_
    walk_at "pp"
    refine cc_sorted (ns := 0 :: ((z : Int) - 1) :: ns) (.lst _) fun ns' hperm hsort => ?_
    walk_at "gp"
    have hall : ∀ x ∈ ns', 0 ≤ x ∧ x < (z : Int) := fun x hx => by
      rcases List.mem_cons.mp (hperm.mem_iff.mp hx) with rfl | hx
      · omega
      · rcases List.mem_cons.mp hx with rfl | hx
        · omega
        · exact hns x hx
    refine gave_drawn (n := n + 100) hS ?_ ⟨ns'.map Int.toNat, ?_, fun i hi => ?_, ?_⟩ (hp4.le (by rw [rng_len]; show n + 1 * 18 ≤ _; omega))
    · exact D.ltL_all.mpr fun x hx => by
        obtain ⟨i, _, rfl⟩ := List.mem_map.mp hx
        rfl
    · rw [List.map_map]
      refine congrArg D.lst (List.map_congr_left fun x hx => ?_)
      show D.int x = D.int ((x.toNat : Nat) : Int)
      rw [Int.toNat_of_nonneg (hall x hx).1]
    · obtain ⟨x, hx, rfl⟩ := List.mem_map.mp hi
      have := hall x hx
      omega
    · rw [List.length_map, hperm.length_eq]
      show ns.length + 1 + 1 ≤ 100
      omega
end


section
variable {P : Program} {w : World} {K : PySem.W.Frag} {mg : Str → Option Value} {base : Heap} {a : Ad} {f : Addr} {fd : FuncData}
def IsC (d : D) : Prop := ∃ i : Int, d = .int i ∧ 0 ≤ i ∧ i < 64
theorem IsC.b {d : D} (h : IsC d) : IntB d := let ⟨i, e, _⟩ := h; .inl ⟨i, e⟩
theorem isc_cl {l : List D} (h : ∀ c ∈ l, IsC c) {m : Nat} : D.ltL m l = true := cells_cl h
def RowOk (n : Nat) (d : D) : Prop := ∃ l, d = .lst l ∧ (∀ c ∈ l, IsC c) ∧ l.length ≤ n
abbrev spRow (K : PySem.W.Frag) : Sp := spDrawn K 200000000 (T := Nat × Nat) (fun t => [.int (t.1 : Int), .int (t.2 : Int)]) (fun t => t.1 ≤ 600 ∧ 0 < t.2 ∧ t.2 ≤ 80) (fun t d => RowOk t.1 d) 1000000
theorem isc_app {l m : List D} (h1 : ∀ c ∈ l, IsC c) (h2 : ∀ c ∈ m, IsC c) : ∀ c ∈ l ++ m, IsC c := fun c hc => by
  rcases List.mem_append.mp hc with hc | hc
  · exact h1 c hc
  · exact h2 c hc
theorem isc_rep {n : Nat} : (∀ c ∈ (List.replicate n [D.int 0]).flatten, IsC c) ∧ (List.replicate n [D.int 0]).flatten.length = n := by
  refine ⟨fun c hc => ?_, by rw [List.length_flatten, List.map_replicate, List.sum_replicate_nat]; exact Nat.mul_one n⟩
  obtain ⟨l, hl, hc⟩ := List.mem_flatten.mp hc
  rw [(List.mem_replicate.mp hl).2] at hc
  rw [List.mem_singleton.mp hc]
  exact ⟨0, rfl, by decide, by decide⟩
abbrev st__law_row : Stmt := top 45
abbrev nm__law_row : List Str := ["purse", "most", "width", "found", "wide", "turn"]
theorem sc__law_row : FnScope nm__law_row ["purse", "most", "width"] (defScope st__law_row) := ⟨rfl, rfl, rfl, by decide +kernel, rfl, by decide +kernel, by decide +kernel⟩
theorem ok_row (F : Fun K "_law_row" "_law_row" st__law_row f fd) (T : Tx P w K mg base a) (c__law_one_of : CalX P w K mg base 3 "_law_one_of" ["purse", "some"] (spOneOf K)) (c__law_draw : CalX P w K mg base 2 "_law_draw" ["purse", "many"] (spDraw K)) : FnOk P w K mg base (L2.CX P w) 4 f fd ["purse", "most", "width"] (spRow K) := by
  refine F.okX sc__law_row (fun vs H Q E h => pro_len h fun _ => rfl) (fun cdv A outer s H vs Q E hr h => ⟨_, (pss_cons (ps_set (i := 3) sc__law_row.nd rfl (by first | exact Or.inl rfl | exact Or.inr rfl) (pe_op op_timesU (pe_lst (pa_cons pe_int pa_nil)) (pe_c c__law_one_of hr (by first | decide | exact Nat.le_refl _) rfl (passes_call (takes_of rfl rfl rfl rfl) (fun _ _ _ _ h => h)) (pa_cons (pv 0) (pa_cons (pe_lst (pa_cons pe_int (pa_cons pe_int (pa_cons pe_int (pa_cons pe_int (pa_cons (pe_op (kO K rPlus rfl op_plus) (pv 2) pe_int) pa_nil)))))) pa_nil)))))
    (pss_cons (ps_while (passes_of rfl) (PW.pt (pw_and (pt_cmpR op_less (pe_callB (kC K rLenU rfl call_lenU) (by rfl) T.b_len (by decide +kernel) (pa_cons (pv 3) pa_nil)) (pv 1) (nomark _)) (pw_and1 (pt_cmpR op_gt (pe_c c__law_draw hr (by first | decide | exact Nat.le_refl _) rfl (passes_call (takes_of rfl rfl rfl rfl) (fun _ _ _ _ h => h)) (pa_cons (pv 0) (pa_cons pe_int pa_nil))) pe_int (nomark _))))) (pss_cons (ps_set (i := 4) sc__law_row.nd rfl (by first | exact Or.inl rfl | exact Or.inr rfl) (pe_c c__law_one_of hr (by first | decide | exact Nat.le_refl _) rfl (passes_call (takes_of rfl rfl rfl rfl) (fun _ _ _ _ h => h)) (pa_cons (pv 0) (pa_cons (pe_lst (pa_cons pe_int (pa_cons pe_int (pa_cons pe_int (pa_cons (pe_callB (call_max2 rfl) (by rfl) T.b_max (by decide +kernel) (pa_cons pe_int (pa_cons (pe_op op_sub (pv 2) pe_int) pa_nil))) (pa_cons (pv 2) (pa_cons (pe_op (kO K rPlus rfl op_plus) (pv 2) pe_int) (pa_cons (pe_op op_timesU pe_int (pv 2)) (pa_cons (pe_op (kO K rPlus rfl op_plus) (pe_op op_timesU pe_int (pv 2)) pe_int) (pa_cons pe_int pa_nil)))))))))) pa_nil))))
    (pss_one (ps_set (i := 3) sc__law_row.nd rfl (by first | exact Or.inl rfl | exact Or.inr rfl) (pe_op (kO K rPlus rfl op_plus) (pe_op (kO K rPlus rfl op_plus) (pv 3) (pe_lc (own := [("turn", 5)]) (tt := tYes) (g := (gName 5)) rfl sc__law_row.nd (pi_range1 rfl T.b_range (pa_cons (pv 4) pa_nil)) (blkOk_by (own := [("turn", 5)]) (N := nm__law_row) (sc := (defScope st__law_row)) (by decide +kernel)) (fun _ _ _ _ _ => (pg_name (i := 5) sc__law_row.nd rfl (by first | exact Or.inl rfl | exact Or.inr rfl))) (fun _ _ _ _ _ => pts_nil) (fun _ _ _ _ _ => (pe_op (kO K rPlus rfl op_plus) pe_int (pe_c c__law_draw hr (by first | decide | exact Nat.le_refl _) rfl passL (pa_cons (pv 0) (pa_cons pe_int pa_nil))))))) (pe_op op_timesU (pe_lst (pa_cons pe_int pa_nil)) (pe_c c__law_one_of hr (by first | decide | exact Nat.le_refl _) rfl (passes_call (takes_of rfl rfl rfl rfl) (fun _ _ _ _ h => h)) (pa_cons (pv 0) (pa_cons (pe_lst (pa_cons pe_int (pa_cons pe_int (pa_cons pe_int (pa_cons pe_int (pa_cons pe_int (pa_cons (pv 2) pa_nil))))))) pa_nil)))))))))
    (pss_cons (ps_set (i := 3) sc__law_row.nd rfl (by first | exact Or.inl rfl | exact Or.inr rfl) (pe_slice (kS K rSlU rfl sl_U) (pv 3) po_none (po_some (pv 1))))
    (pss_one (ps_ret (pe_ifExp (pt_cmpR (kO K rNeU rfl (op_neU (hu64 hr))) (pv 3) (pe_lst pa_nil) (nomark _)) (pe_slice (kS K rSlU rfl sl_U) (pv 3) po_none (po_some (pe_op op_sub (pe_callB (kC K rLenU rfl call_lenU) (by rfl) T.b_len (by decide +kernel) (pa_cons (pv 3) pa_nil)) (pe_c c__law_draw hr (by first | decide | exact Nat.le_refl _) rfl (passes_call (takes_of rfl rfl rfl rfl) (fun _ _ _ _ h => h)) (pa_cons (pv 0) (pa_cons pe_int pa_nil)))))) (pv 3))))))), run_body h fun ⟨l, n, most, wd⟩ S ⟨hp, hn, ⟨hm, hw, hwz⟩, _⟩ hl hcl wi => ?_⟩)
  have hp : PuOk n l := hp
  have hn : n ≤ 200000000 := hn
  have hm : most ≤ 600 := hm
  have hw : 0 < wd := hw
  have hwz : wd ≤ 80 := hwz
  have hS : S.A.length = 1 := hl
  walk_at "pp"
  refine ee_lst ?_
  walk_at "pp"
  refine ask_one 0 ?_
  walk_at "pp"
  refine ee_lst ?_
  walk_at "pp"
  refine ⟨_, l, n, rfl, rfl, hp, by omega, .inl ⟨_, rfl, Nat.succ_pos _, by exact Nat.le_of_ble_eq_true rfl, rfl⟩, rfl, fun d l1 hpick _ hp1 => ?_⟩
  obtain ⟨q, rfl, hq⟩ : ∃ q : Nat, d = .int (q : Int) ∧ q ≤ 81 := by
    cases hpick with
    | lst hm =>
      simp only [List.mem_cons, List.not_mem_nil, or_false] at hm
      rcases hm with rfl | rfl | rfl | rfl | rfl
      · exact ⟨0, rfl, by decide⟩
      · exact ⟨0, rfl, by decide⟩
      · exact ⟨1, rfl, by decide⟩
      · exact ⟨2, rfl, by decide⟩
      · exact ⟨wd + 1, rfl, by omega⟩
  obtain ⟨r1, r2⟩ := isc_rep (n := q)
  refine oo_repL (by omega) (by show 1 * q ≤ _; omega) ?_
  generalize (List.replicate q [D.int 0]).flatten = cs at *
  refine se_seq (se_to (fun δ μ => ∃ (x4 : Option D) (cs p : List D), δ = [some (.own 0), some (.int (most : Int)), some (.int (wd : Int)), some (.lst cs), x4, none] ∧ μ = [.lst p] ∧ PuOk (n + 900000 + 100000 - 10) p ∧ (∀ c ∈ cs, IsC c) ∧ cs.length ≤ 1000) ?_ ?_)
  · refine se_while (fun m δ μ => ∃ (x4 : Option D) (cs p : List D), m = most - cs.length ∧ δ = [some (.own 0), some (.int (most : Int)), some (.int (wd : Int)), some (.lst cs), x4, none] ∧ μ = [.lst p] ∧ PuOk (n + 1 + 900 * cs.length) p ∧ (∀ c ∈ cs, IsC c) ∧ cs.length ≤ 1000) (most - cs.length) ⟨none, cs, l1, rfl, rfl, rfl, hp1.le (by omega), r1, by omega⟩ ?_
    clear r1 r2 hp1
    rintro m δ μ ⟨x4, cs, p, rfl, rfl, rfl, hp1, hcs, hcz⟩
    walk_at "pp"
    refine cc_len (.lst _) ?_
    walk_at "pp"
    refine ⟨fun h1 => ?_, fun h1 => ?_⟩
    · have h1 : (cs.length : Int) < (most : Int) := of_decide_eq_true h1
      walk_at "pp"
      refine ask_draw 0 ?_
      walk_at "pp"
      refine ⟨12, p, _, rfl, rfl, hp1, by omega, by decide, by decide, fun v p1 hv hp2 => ?_⟩
      walk_at "pp"
      refine ⟨fun h2 => ?_, fun h2 => ?_⟩
      · walk_at "pp"
        refine ask_one 0 ?_
        walk_at "pp"
        refine ee_lst ?_
        walk_at "pp"
        refine oo_mul (mulW 3 10 (by decide) (by have : (wd : Int).natAbs = wd := Int.natAbs_natCast _; rw [this]; show wd < 1024; omega)) ?_
        walk_at "pp"
        refine oo_mul (mulW 3 10 (by decide) (by have : (wd : Int).natAbs = wd := Int.natAbs_natCast _; rw [this]; show wd < 1024; omega)) ?_
        walk_at "pp"
        refine ⟨_, p1, _, rfl, rfl, hp2, by omega, .inl ⟨_, rfl, Nat.succ_pos _, by exact Nat.le_of_ble_eq_true rfl, rfl⟩, rfl, fun d p2 hpick _ hp3 => ?_⟩
        obtain ⟨q, rfl, hq⟩ : ∃ q : Nat, d = .int (q : Int) ∧ q ≤ 161 := by
          cases hpick with
          | lst hm =>
            simp only [List.mem_cons, List.not_mem_nil, or_false] at hm
            rcases hm with rfl | rfl | rfl | rfl | rfl | rfl | rfl | rfl | rfl
            · exact ⟨1, rfl, by decide⟩
            · exact ⟨2, rfl, by decide⟩
            · exact ⟨3, rfl, by decide⟩
            · exact ⟨max (wd - 1) 1, by congr 2; split <;> omega, by omega⟩
            · exact ⟨wd, rfl, by omega⟩
            · exact ⟨wd + 1, rfl, by omega⟩
            · exact ⟨2 * wd, by congr 2, by omega⟩
            · exact ⟨2 * wd + 1, by congr 2, by omega⟩
            · exact ⟨5, rfl, by decide⟩
        walk_at "pp"
        refine ee_lcW (n := n + 1 + 900 * cs.length + 1 + 1) (c := 1) (ρ := []) (Q := IsC) (fun m => rfl) (fun d ⟨i, e, _⟩ => by rw [e]; rfl) (ie_rng1 ?_)
        walk_at "pp"
        refine ⟨by omega, by omega, rfl, p2, rfl, hp3, by rw [rng_len]; omega, fun i x acc l4 hx hp4 => ?_, fun acc l4 hlen hq4 hp4 => ?_⟩
        · have hi := (rng_get hx).1
          refine gw_name (by decide) ?_
          walk_at "pp"
          refine ask_draw 0 ?_
          walk_at "pp"
          refine ⟨63, l4, _, rfl, rfl, hp4, by omega, by decide, by decide, fun u l5 hu hp5 => ?_⟩
          walk_at "pp"
          exact ⟨⟨1 + (u : Int), rfl, by omega, by omega⟩, hp5⟩
        rw [rng_len, Int.toNat_natCast] at hlen hp4
        refine oo_addL (by omega) ?_
        walk_at "pp"
        refine ee_lst ?_
        walk_at "pp"
        refine ask_one 0 ?_
        walk_at "pp"
        refine ee_lst ?_
        walk_at "pp"
        refine ⟨_, l4, _, rfl, rfl, hp4, by omega, .inl ⟨_, rfl, Nat.succ_pos _, by exact Nat.le_of_ble_eq_true rfl, rfl⟩, rfl, fun d p3 hpick _ hp5 => ?_⟩
        obtain ⟨r, rfl, hr1, hr2⟩ : ∃ r : Nat, d = .int (r : Int) ∧ 1 ≤ r ∧ r ≤ 80 := by
          cases hpick with
          | lst hm =>
            simp only [List.mem_cons, List.not_mem_nil, or_false] at hm
            rcases hm with rfl | rfl | rfl | rfl | rfl | rfl
            · exact ⟨1, rfl, by decide, by decide⟩
            · exact ⟨1, rfl, by decide, by decide⟩
            · exact ⟨1, rfl, by decide, by decide⟩
            · exact ⟨2, rfl, by decide, by decide⟩
            · exact ⟨3, rfl, by decide, by decide⟩
            · exact ⟨wd, rfl, hw, hwz⟩
        obtain ⟨r1, r2⟩ := isc_rep (n := r)
        refine oo_repL (by omega) (by show 1 * r ≤ _; omega) ?_
        generalize (List.replicate r [D.int 0]).flatten = zs at *
        refine oo_addL (by rw [List.length_append]; omega) ?_
        walk_at "pp"
        refine ⟨most - (cs ++ acc ++ zs).length, by rw [List.length_append, List.length_append]; omega, _, cs ++ acc ++ zs, p3, rfl, rfl, rfl, hp5.le (by rw [List.length_append, List.length_append]; omega), isc_app (isc_app hcs hq4) r1, by rw [List.length_append, List.length_append]; omega⟩
      · exact ⟨_, cs, p1, rfl, rfl, hp2.le (by omega), hcs, hcz⟩
    · walk_at "pp"
      exact ⟨_, cs, p, rfl, rfl, hp1.le (by omega), hcs, hcz⟩
  rintro δ μ ⟨x4, cs, p, rfl, rfl, hp1, hcs, hcz⟩
  walk_at "pp"
  refine ss_lst ?_
  rw [cutD_0n]
  have hct : ∀ c ∈ cs.take most, IsC c := fun c hc => hcs c (List.mem_of_mem_take hc)
  have hctl : (cs.take most).length ≤ most := by rw [List.length_take]; omega
  generalize cs.take most = cs at *
  walk_at "pp"
  refine ee_lst ?_
  walk_at "pp"
  refine oo_neI0 (fun c hc => (hct c hc).b) ?_
  walk_at "pp"
  refine ⟨fun hb => ?_, fun hb => ?_⟩
  · have hb : cs ≠ [] := by
      rintro rfl
      cases hb
    have hpos : 0 < cs.length := List.length_pos_iff.mpr hb
    walk_at "pp"
    refine cc_len (.lst _) ?_
    walk_at "pp"
    refine ask_draw 0 ?_
    walk_at "pp"
    refine ⟨2, p, _, rfl, rfl, hp1, by omega, by decide, by decide, fun v p1 hv hp2 => ?_⟩
    walk_at "pp"
    rw [show (cs.length : Int) - (v : Int) = ((cs.length - v : Nat) : Int) by omega]
    refine ss_lst ?_
    rw [cutD_0n]
    walk_at "gp"
    refine gave_drawn (n := n + 1000000) hS ?_ ⟨_, rfl, fun c hc => hct c (List.mem_of_mem_take hc), by rw [List.length_take]; show _ ≤ most; omega⟩ (hp2.le (by omega))
    exact isc_cl fun c hc => hct c (List.mem_of_mem_take hc)
  · walk_at "pp"
    walk_at "gp"
    refine gave_drawn (n := n + 1000000) hS ?_ ⟨_, rfl, hct, hctl⟩ (hp1.le (by omega))
    exact isc_cl hct
end


section
variable {P : Program} {w : World} {K : PySem.W.Frag} {mg : Str → Option Value} {base : Heap} {a : Ad} {f : Addr} {fd : FuncData}
def PairsOk (n : Nat) (d : D) : Prop := ∃ ps : List (Nat × Nat), d = .lst (ps.map winD) ∧ ps.length ≤ n ∧ (0 < n → 0 < ps.length)
abbrev spDrawnBr (K : PySem.W.Frag) : Sp := spDrawn K 200000000 (T := List D × Nat) (fun t => [.lst t.1, .int (t.2 : Int)]) (fun t => CellL t.1 ∧ t.1.length ≤ 600 ∧ 0 < t.2 ∧ t.2 ≤ 80) (fun t d => PairsOk t.1.length d) 1000
abbrev st__law_drawn_breaking : Stmt := top 48
abbrev nm__law_drawn_breaking : List Str := ["purse", "cells", "width", "found", "at", "ends", "last"]
theorem sc__law_drawn_breaking : FnScope nm__law_drawn_breaking ["purse", "cells", "width"] (defScope st__law_drawn_breaking) := ⟨rfl, rfl, rfl, by decide +kernel, rfl, by decide +kernel, by decide +kernel⟩
theorem ok_drawn_br (F : Fun K "_law_drawn_breaking" "_law_drawn_breaking" st__law_drawn_breaking f fd) (T : Tx P w K mg base a) (c__law_one_of : CalX P w K mg base 3 "_law_one_of" ["purse", "some"] (spOneOf K)) : FnOk P w K mg base (L2.CX P w) 4 f fd ["purse", "cells", "width"] (spDrawnBr K) := by
  refine F.okX sc__law_drawn_breaking (fun vs H Q E h => pro_len h fun _ => rfl) (fun cdv A outer s H vs Q E hr h => ⟨_, (pss_cons (ps_par (i := 3) (j := 4) rfl sc__law_drawn_breaking.nd rfl rfl (by decide) rfl rfl (pa_cons (pe_lst pa_nil) (pa_cons pe_int pa_nil)) (by rfl))
    (pss_cons (ps_while (passes_of rfl) (pt_cmpR op_less (pv 4) (pe_callB (kC K rLenU rfl call_lenU) (by rfl) T.b_len (by decide +kernel) (pa_cons (pv 1) pa_nil)) (nomark _)) (pss_cons (ps_setLc (i := 5) (own := [("last", 6)]) (g := (gName 6)) rfl sc__law_drawn_breaking.nd rfl rfl (sw_true rfl rfl rfl (by decide +kernel)) (pi_range2 rfl T.b_range (pa_cons (pe_op (kO K rPlus rfl op_plus) (pv 4) pe_int) (pa_cons (pe_op (kO K rPlus rfl op_plus) (pe_callB (call_min2 rfl) (by rfl) T.b_min (by decide +kernel) (pa_cons (pe_op (kO K rPlus rfl op_plus) (pv 4) (pv 2)) (pa_cons (pe_callB (kC K rLenU rfl call_lenU) (by rfl) T.b_len (by decide +kernel) (pa_cons (pv 1) pa_nil)) pa_nil))) pe_int) pa_nil))) (blkOk_by (own := [("last", 6)]) (N := nm__law_drawn_breaking) (sc := (defScope st__law_drawn_breaking)) (by decide +kernel)) (fun _ _ _ _ _ => (pg_name (i := 6) sc__law_drawn_breaking.nd rfl (by first | exact Or.inl rfl | exact Or.inr rfl))) (fun _ _ _ _ _ => (pts_one (PW.pt (pw_or (pt_cmpR (kO K rEqU rfl (op_eqU (hu64 hr))) (pv 6) (pe_callB (kC K rLenU rfl call_lenU) (by rfl) T.b_len (by decide +kernel) (pa_cons (pv 1) pa_nil)) (nomark _)) (pw_or (pt_cmpR (kO K rEqU rfl (op_eqU (hu64 hr))) (pe_ix (kX K rIx rfl ix_seq) (pv 1) (pe_op op_sub (pv 6) pe_int) (fun _ _ => rfl)) pe_int (nomark _)) (pw_or1 (pt_cmpR (kO K rEqU rfl (op_eqU (hu64 hr))) (pe_ix (kX K rIx rfl ix_seq) (pv 1) (pv 6) (fun _ _ => rfl)) pe_int (nomark _)))))))) (fun _ _ _ _ _ => (pv 6)))
    (pss_cons (ps_set (i := 6) sc__law_drawn_breaking.nd rfl (by first | exact Or.inl rfl | exact Or.inr rfl) (pe_ifExp (pt_cmpR (kO K rNeU rfl (op_neU (hu64 hr))) (pv 5) (pe_lst pa_nil) (nomark _)) (pe_c c__law_one_of hr (by first | decide | exact Nat.le_refl _) rfl (passes_call (takes_of rfl rfl rfl rfl) (fun _ _ _ _ h => h)) (pa_cons (pv 0) (pa_cons (pv 5) pa_nil))) (pe_callB (call_min2 rfl) (by rfl) T.b_min (by decide +kernel) (pa_cons (pe_op (kO K rPlus rfl op_plus) (pv 4) (pv 2)) (pa_cons (pe_callB (kC K rLenU rfl call_lenU) (by rfl) T.b_len (by decide +kernel) (pa_cons (pv 1) pa_nil)) pa_nil)))))
    (pss_cons (ps_expr (pe_bmK (K := K) rfl PySem.F.plainAttrs_list PySem.F.slot_list_append PySem.F.type_list_append mt_append (pv 3) (pa_cons (pe_tup (pa_cons (pv 4) (pa_cons (pv 6) pa_nil))) pa_nil)))
    (pss_one (ps_set (i := 4) sc__law_drawn_breaking.nd rfl (by first | exact Or.inl rfl | exact Or.inr rfl) (pv 6)))))))
    (pss_one (ps_ret (pv 3))))), run_body h fun ⟨p, n, l, wd⟩ S ⟨hp, hn, ⟨hc, hlz, hw, hwz⟩, _⟩ hl hcl wi => ?_⟩)
  have hp : PuOk n p := hp
  have hn : n ≤ 200000000 := hn
  have hc : CellL l := hc
  have hlz : l.length ≤ 600 := hlz
  have hw : 0 < wd := hw
  have hwz : wd ≤ 80 := hwz
  have hS : S.A.length = 1 := hl
  have hcc : D.ltL 0 l = true := cells_cl hc.2
  generalize hz0 : zc l = z
  walk_at "pp"
  refine se_par ?_
  walk_at "pp"
  refine ee_open ?_
  walk_at "pp"
  refine se_to (fun δ μ => ∃ (ps : List (Nat × Nat)) (x4 x5 x6 : Option D) (p : List D), δ = [some (.own 0), some (.lst l), some (.int (wd : Int)), some (.own 1), x4, x5, x6] ∧ μ = [.lst p, .lst (ps.map winD)] ∧ PuOk (n + 1000) p ∧ ps.length ≤ l.length ∧ (0 < l.length → 0 < ps.length)) ?_ ?_
  · refine se_while (fun m δ μ => ∃ (ps : List (Nat × Nat)) (at' : Nat) (x5 x6 : Option D) (p : List D), m = l.length - at' ∧ δ = [some (.own 0), some (.lst l), some (.int (wd : Int)), some (.own 1), some (.int (at' : Int)), x5, x6] ∧ μ = [.lst p, .lst (ps.map winD)] ∧ PuOk (n + ps.length) p ∧ ps.length ≤ at' ∧ at' ≤ l.length ∧ (0 < at' → 0 < ps.length)) l.length ⟨[], 0, none, none, p, rfl, rfl, rfl, hp, Nat.le_refl _, Nat.zero_le _, fun h => h⟩ ?_
    clear hp
    rintro m δ μ ⟨ps, at', x5, x6, p, rfl, rfl, rfl, hp, hpa, hal, hp0⟩
    walk_at "pp"
    refine cc_len (.lst _) ?_
    walk_at "pp"
    refine ⟨fun hb => ?_, fun hb => ?_⟩
    · have hb : (at' : Int) < (l.length : Int) := of_decide_eq_true hb
      have hb : at' < l.length := by omega
      walk_at "pp"
      refine ee_lc (ie_rng2 ?_)
      walk_at "pp"
      refine cc_len (.lst _) ?_
      walk_at "pp"
      rw [show (if (l.length : Int) < (at' : Int) + (wd : Int) then (l.length : Int) else (at' : Int) + (wd : Int)) = ((min (at' + wd) l.length : Nat) : Int) by split <;> omega]
      have ht1 : at' + 1 ≤ min (at' + wd) l.length := by omega
      have ht2 : min (at' + wd) l.length ≤ l.length := by omega
      generalize htop : min (at' + wd) l.length = top at *
      rw [show ((top : Int) + 1 - ((at' : Int) + 1)).toNat = top - at' by omega, show (at' : Int) + 1 = ((at' + 1 : Nat) : Int) by omega, rng_nat]
      refine ⟨⟨by omega, by omega, by omega, by omega⟩, fun _ h => h, trivial, fun x => decide (dotN x = l.length) || (z (dotN x - 1) || z (dotN x)), fun x => x, by rw [List.length_map, List.length_range']; omega, fun x hx _ => ?_, fun x acc hx => ?_, ?_⟩
      · obtain ⟨i, _, rfl⟩ := List.mem_map.mp hx
        rfl
      · obtain ⟨i, hi, rfl⟩ := List.mem_map.mp hx
        rw [List.mem_range'_1] at hi
        have ei : dotN (intD i) = i := Int.toNat_natCast _
        obtain ⟨cj, hcj1, hcj2⟩ := hc.at (i := i - 1) (by omega)
        rw [hz0] at hcj2
        refine gw_name (by decide) ?_
        have e0 : (decide (dotN (intD i) = l.length) || (z (dotN (intD i) - 1) || z (dotN (intD i)))) = (decide (i = l.length) || (z (i - 1) || z i)) := by rw [ei]
        walk_at "pp"
        refine cc_len (.lst _) ?_
        walk_at "pp"
        rw [int_eq]
        refine ⟨fun h1 => ?_, fun h1 => ?_⟩
        · have h1 : (i : Int) = (l.length : Int) := of_decide_eq_true h1
          refine ⟨?_, rfl, fun _ => ?_⟩
          · show _ = (decide (dotN (intD i) = l.length) || _)
            rw [ei, decide_eq_true (by omega)]
            rfl
          · walk_at "pp"
            exact ⟨rfl, rfl⟩
        · have h1 : ¬ (i : Int) = (l.length : Int) := of_decide_eq_false h1
          obtain ⟨ck, hck1, hck2⟩ := hc.at (i := i) (by omega)
          rw [hz0] at hck2
          have e1 : (decide (i = l.length) || (z (i - 1) || z i)) = (z (i - 1) || z i) := by rw [decide_eq_false (by omega)]; rfl
          walk_at "pp"
          refine oo_ixL (atI_of (j := i - 1) hcj1 (by omega)) ?_
          walk_at "pp"
          rw [int_eq, ← hcj2]
          refine ⟨fun h2 => ?_, fun h2 => ?_⟩
          · refine ⟨e0.trans (e1.trans (by rw [h2]; rfl)) |>.symm, rfl, fun _ => ?_⟩
            walk_at "pp"
            exact ⟨rfl, rfl⟩
          · walk_at "pp"
            refine oo_ixL (atI_of (j := i) hck1 rfl) ?_
            walk_at "pp"
            rw [int_eq, ← hck2]
            refine ⟨e0.trans (e1.trans (by rw [h2]; rfl)) |>.symm, rfl, fun _ => ?_⟩
            walk_at "pp"
            exact ⟨rfl, rfl⟩
      rw [List.map_id', List.filter_map]
      have hes : ∀ e ∈ (List.range' (at' + 1) (top - at')).filter ((fun x => decide (dotN x = l.length) || (z (dotN x - 1) || z (dotN x))) ∘ fun (i : Nat) => intD i), at' < e ∧ e ≤ top := fun e he => by
        have := List.mem_range'_1.mp (List.mem_filter.mp he).1
        omega
      have hez : ((List.range' (at' + 1) (top - at')).filter ((fun x => decide (dotN x = l.length) || (z (dotN x - 1) || z (dotN x))) ∘ fun (i : Nat) => intD i)).length ≤ 600 := by
        refine Nat.le_trans (List.length_filter_le _ _) ?_
        rw [List.length_range']
        omega
      generalize (List.range' (at' + 1) (top - at')).filter ((fun x => decide (dotN x = l.length) || (z (dotN x - 1) || z (dotN x))) ∘ fun (i : Nat) => intD i) = es at *
      refine se_seq (se_asg (EE.imp (C := fun d μ => ∃ (e : Nat) (p' : List D), d = .int (e : Int) ∧ μ = [.lst p', .lst (ps.map winD)] ∧ at' < e ∧ e ≤ top ∧ PuOk (n + ps.length + 1) p') ?_ ?_))
      · walk_at "pp"
        refine ee_lst ?_
        walk_at "pp"
        refine oo_neI0 (fun c hc => by obtain ⟨i, _, rfl⟩ := List.mem_map.mp hc; exact .inl ⟨_, rfl⟩) ?_
        walk_at "pp"
        refine ⟨fun hb => ?_, fun hb => ?_⟩
        · have hpos : 0 < es.length := by
            cases es with
            | nil => cases hb
            | cons x l => exact Nat.succ_pos _
          walk_at "pp"
          refine ask_one 0 ?_
          walk_at "pp"
          refine ⟨_, p, _, rfl, rfl, hp, by omega, .inl ⟨_, rfl, by rw [List.length_map]; exact hpos, by rw [List.length_map]; omega, ints_cl⟩, ints_cl (m := 0), fun d l' hpick _ hp1 => ?_⟩
          cases hpick with
          | lst hm =>
            obtain ⟨e, he, rfl⟩ := List.mem_map.mp hm
            exact ⟨e, l', rfl, rfl, (hes e he).1, (hes e he).2, hp1⟩
        · walk_at "pp"
          refine cc_len (.lst _) ?_
          walk_at "pp"
          refine ⟨top, p, ?_, rfl, by omega, Nat.le_refl _, hp.le (by omega)⟩
          rw [← htop]
          congr 2
          split <;> omega
      rintro d μ ⟨e, p', rfl, rfl, he1, he2, hp'⟩
      walk_at "pp"
      refine ee_bm ?_
      walk_at "pp"
      refine ⟨.lst (.own rfl), ?_⟩
      walk_at "pp"
      refine mm_append (k := 1) rfl (by rw [List.length_map]; omega) ?_
      walk_at "pp"
      refine ⟨l.length - e, by omega, ps ++ [(at', e)], e, _, _, p', rfl, rfl, ?_, by rw [List.length_append]; exact hp', by rw [List.length_append]; show ps.length + 1 ≤ e; omega, by omega, fun _ => by rw [List.length_append]; exact Nat.succ_pos _⟩
      rw [List.map_append]
      rfl
    · have hb : ¬ (at' : Int) < (l.length : Int) := of_decide_eq_false hb
      exact ⟨ps, _, x5, x6, p, rfl, rfl, hp.le (by omega), by omega, fun h => hp0 (by omega)⟩
  rintro δ μ ⟨ps, x4, x5, x6, p, rfl, rfl, hp, hz1, hz2⟩
  show SE K S (tRet _) _ _ _
  refine se_shut (l := ps.map winD) 1 (by rw [hS]; exact Nat.le_refl _) rfl ?_
  show SE K S _ [some (.own 0), some (.lst (D.subL _ l)), some (.int (wd : Int)), some (.lst (ps.map winD)), _, _, _] [.lst (D.subL _ p), .off] _
  rw [sbL_cl hp.cl]
  walk_at "pp"
  walk_at "gp"
  refine gave_drawn (n := n + 1000) hS ?_ ⟨ps, rfl, hz1, hz2⟩ hp
  exact wins_cl (m := 0)
end


section
variable {P : Program} {w : World} {K : PySem.W.Frag} {mg : Str → Option Value} {base : Heap} {a : Ad} {f : Addr} {fd : FuncData}
/-- data that may be compared, at most so deep -/
def Py (k : Nat) (d : D) : Prop := ∃ p, D.py d = some p ∧ PySem.PyData.canLay0 p = true ∧ PySem.PyData.depth p ≤ k
theorem py_all {k : Nat} : ∀ {l : List D}, (∀ c ∈ l, Py k c) → ∃ ps, D.pyAll l = some ps ∧ PySem.PyData.canLayAll0 ps = true ∧ PySem.PyData.depthAll ps ≤ k ∧ ps.isEmpty = l.isEmpty
  | [], _ => ⟨[], rfl, rfl, Nat.zero_le _, rfl⟩
  | c :: l, h => by
    obtain ⟨ps, h1, h2, h3, _⟩ := py_all (l := l) fun x hx => h x (List.mem_cons_of_mem _ hx)
    obtain ⟨p, q1, q2, q3⟩ := h c List.mem_cons_self
    refine ⟨p :: ps, ?_, ?_, ?_, rfl⟩
    · show (match D.py c, D.pyAll l with | some p, some ps => some (p :: ps) | _, _ => none) = _
      rw [h1, q1]
    · show (PySem.PyData.canLay0 p && PySem.PyData.canLayAll0 ps) = true
      rw [q2, h2]
      rfl
    · show max (PySem.PyData.depth p) (PySem.PyData.depthAll ps) ≤ k
      omega
theorem py_int {i : Int} : Py 0 (.int i) := ⟨.int i, rfl, rfl, Nat.le_refl _⟩
theorem py_tup {k : Nat} {l : List D} (h : ∀ c ∈ l, Py k c) : Py (k + 1) (.tup l) := by
  obtain ⟨ps, h1, h2, h3, h4⟩ := py_all h
  refine ⟨.tuple ps, ?_, h2, Nat.succ_le_succ h3⟩
  show (D.pyAll l).map PyData.tuple = _
  rw [h1]
  rfl
theorem py_lst {k : Nat} {l : List D} (h : ∀ c ∈ l, Py k c) : Py (k + 1) (.lst l) := by
  obtain ⟨ps, h1, h2, h3, h4⟩ := py_all h
  refine ⟨.list ps, ?_, h2, Nat.succ_le_succ h3⟩
  show (D.pyAll l).map PyData.list = _
  rw [h1]
  rfl
theorem py_ints {l : List Int} : Py 1 (.tup (l.map D.int)) := py_tup fun c hc => by
  obtain ⟨i, _, rfl⟩ := List.mem_map.mp hc
  exact py_int
theorem oo_nePy0 {S : Bs} {μ : List Cell} {C : D → List Cell → Prop} {l : List D} {k : Nat} (h : ∀ c ∈ l, Py k c) (hk : k ≤ 60) (c : C (.bl (!l.isEmpty)) μ) : OO K S (rNeU K) (.lst l) (.lst []) μ C := by
  obtain ⟨ps, h1, h2, h3, h4⟩ := py_all h
  refine oo_neD (p := .list ps) (q := .list []) ?_ rfl ?_ rfl ?_
  · show (D.pyAll l).map PyData.list = _
    rw [h1]
    rfl
  · show (PySem.PyData.canLayAll0 ps && decide (PySem.PyData.depthAll ps + 1 ≤ 64)) = true
    rw [h2, decide_eq_true (by omega)]
    rfl
  · have e : PyData.eqv (.list ps) (.list []) = l.isEmpty := by
      rw [← h4]
      cases ps <;> rfl
    rw [e]
    exact c
theorem oo_neSelf {S : Bs} {μ : List Cell} {C : D → List Cell → Prop} {d : D} {k : Nat} (h : Py k d) (hk : k ≤ 60) (c : C (.bl false) μ) : OO K S (rNeU K) d d μ C := by
  obtain ⟨p, h1, h2, h3⟩ := h
  have hs : SeqAt.shaped p = true := by
    show (PySem.PyData.canLay0 p && decide (PySem.PyData.depth p ≤ 64)) = true
    rw [h2, decide_eq_true (by omega)]
    rfl
  refine oo_neD h1 h1 hs hs ?_
  rw [PySem.SeqAt.eqv_refl p h2]
  exact c
theorem wins_py {ws : List (Nat × Nat)} : ∀ c ∈ ws.map winD, Py 1 c := fun c hc => by
  obtain ⟨p, _, rfl⟩ := List.mem_map.mp hc
  exact py_ints (l := [(p.1 : Int), (p.2 : Int)])
theorem oo_eqPy0 {S : Bs} {μ : List Cell} {C : D → List Cell → Prop} {l : List D} {k : Nat} (h : ∀ c ∈ l, Py k c) (hk : k ≤ 60) (c : C (.bl l.isEmpty) μ) : OO K S (rEqU K) (.lst l) (.lst []) μ C := by
  obtain ⟨ps, h1, h2, h3, h4⟩ := py_all h
  refine oo_eqD (p := .list ps) (q := .list []) ?_ rfl ?_ rfl ?_
  · show (D.pyAll l).map PyData.list = _
    rw [h1]
    rfl
  · show (PySem.PyData.canLayAll0 ps && decide (PySem.PyData.depthAll ps + 1 ≤ 64)) = true
    rw [h2, decide_eq_true (by omega)]
    rfl
  · have e : PyData.eqv (.list ps) (.list []) = l.isEmpty := by
      rw [← h4]
      cases ps <;> rfl
    rw [e]
    exact c
theorem gw_nest {S : Bs} {δ : Sl} {μ : List Cell} {i j k : Nat} {vs : List Nat} {x y u : D} {C : Sl → List Cell → Prop} (hi : i ∈ vs) (hj : j ∈ vs) (hk : k ∈ vs) (c : C (((δ.set i (some x)).set j (some y)).set k (some u)) μ) : GW K S (gTup K 2 (gCons (gName i) (gCons (gTup K 2 (gCons (gName j) (gCons (gName k) gNil))) gNil))) vs (.tup [x, .tup [y, u]]) δ μ C := fun A G H σ v a r Q q => by
  cases r with
  | tup hs rl =>
    cases rl with
    | cons rx r =>
      cases r with
      | cons ry r =>
        cases r
        cases ry with
        | tup hs2 rl2 =>
          cases rl2 with
          | cons ry r2 =>
            cases r2 with
            | cons ru r2 =>
              cases r2
              refine ⟨_, _, rfl, ex_t a.m.ex hs.sq, rfl, _, _, rfl, _, _, rfl, ⟨_, _, rfl, ex_t a.m.ex hs2.sq, rfl, _, _, rfl, _, _, rfl, rfl, rfl, q A G H _ _ μ ⟨a.m, En.set ru k (En.set ry j (En.set rx i a.env))⟩ Nw.refl (by rw [wipe_in hk, wipe_in hj, wipe_in hi]) c⟩⟩
/-! ### pairs of whole numbers -/
def IP (d : D) : Prop := ∃ i j : Int, d = .tup [.int i, .int j]
theorem ip_py {d : D} (h : IP d) : Py 1 d := by
  obtain ⟨i, j, rfl⟩ := h
  exact py_ints (l := [i, j])
theorem ip_cl {l : List D} (h : ∀ x ∈ l, IP x) {m : Nat} : D.ltL m l = true := D.ltL_all.mpr fun x hx => by
  obtain ⟨i, j, rfl⟩ := h x hx
  rfl
theorem ip_app {l m : List D} (h1 : ∀ c ∈ l, IP c) (h2 : ∀ c ∈ m, IP c) : ∀ c ∈ l ++ m, IP c := fun c hc => by
  rcases List.mem_append.mp hc with hc | hc
  · exact h1 c hc
  · exact h2 c hc
theorem ip_one {i j : Int} : ∀ c ∈ [D.tup [.int i, .int j]], IP c := fun c hc => by
  rw [List.mem_singleton.mp hc]
  exact ⟨i, j, rfl⟩
theorem ip_two {i j k m : Int} : ∀ c ∈ [D.tup [.int i, .int j], .tup [.int k, .int m]], IP c := fun c hc => by
  simp only [List.mem_cons, List.not_mem_nil, or_false] at hc
  rcases hc with rfl | rfl
  · exact ⟨i, j, rfl⟩
  · exact ⟨k, m, rfl⟩
def SL (d : D) : Prop := ∃ L, d = .lst L ∧ (∀ x ∈ L, IP x) ∧ L.length ≤ 5000
theorem SL.cl {d : D} (h : SL d) : d.lt 0 = true := by
  obtain ⟨L, rfl, h1, _⟩ := h
  exact ip_cl (m := 0) h1
theorem sl_cl {l : List D} (h : ∀ x ∈ l, SL x) : D.ltL 0 l = true := D.ltL_all.mpr fun x hx => (h x hx).cl
def iI (d : D) (k : Nat) : Int := match d with
  | .tup l => match l.getD k .non with
    | .v (.int i) => i
    | _ => 0
  | _ => 0
def negP (d : D) : Bool := decide (iI d 0 < 0) || decide (iI d 1 < 0)
def okL (d : D) : Bool := ((lstOf d).filter negP).isEmpty
theorem ok_wins {d : D} (h : SL d) (h2 : okL d = true) : ∃ q : List (Nat × Nat), d = .lst (q.map winD) ∧ q.length ≤ 5000 := by
  obtain ⟨L, rfl, h1, hz⟩ := h
  have h2 : (L.filter negP).isEmpty = true := h2
  rw [List.isEmpty_iff, List.filter_eq_nil_iff] at h2
  refine ⟨L.map prN, ?_, by rw [List.length_map]; exact hz⟩
  rw [← prs_eq]
  refine List.all_eq_true.mpr fun x hx => ?_
  obtain ⟨i, j, rfl⟩ := h1 x hx
  have := h2 _ hx
  have h3 : ¬ (decide (i < 0) || decide (j < 0)) = true := this
  simp only [Bool.or_eq_true, decide_eq_true_eq, not_or] at h3
  show (decide (((0 : Nat) : Int) ≤ i) && decide (((0 : Nat) : Int) ≤ j)) = true
  rw [decide_eq_true (by omega), decide_eq_true (by omega)]
  rfl
def BentOk (d : D) : Prop := ∃ Ls : List (List (Nat × Nat)), d = .lst (Ls.map fun q => .lst (q.map winD)) ∧ Ls.length ≤ 10 ∧ ∀ q ∈ Ls, q.length ≤ 5000
theorem bents_ok : ∀ {l : List D}, (∀ x ∈ l, SL x ∧ okL x = true) → ∃ Ls : List (List (Nat × Nat)), l = Ls.map (fun q => .lst (q.map winD)) ∧ Ls.length = l.length ∧ ∀ q ∈ Ls, q.length ≤ 5000
  | [], _ => ⟨[], rfl, rfl, fun q hq => by cases hq⟩
  | x :: l, h => by
    obtain ⟨Ls, h1, h2, h3⟩ := bents_ok (l := l) fun y hy => h y (List.mem_cons_of_mem _ hy)
    obtain ⟨q, q1, q2⟩ := ok_wins (h x List.mem_cons_self).1 (h x List.mem_cons_self).2
    refine ⟨q :: Ls, by rw [h1, q1]; rfl, by rw [List.length_cons, List.length_cons, h2], fun r hr => ?_⟩
    rcases List.mem_cons.mp hr with rfl | hr
    · exact q2
    · exact h3 r hr
def bumpA : D → D
  | .tup [.v (.int k), .tup [.v (.int i), .v (.int j)]] => .tup [.int (i + (if decide (V.int k = V.int 0) = true then 1 else 0)), .int j]
  | _ => .non
def bumpS : D → D
  | .tup [.v (.int k), .tup [.v (.int i), .v (.int j)]] => .tup [.int (i - (if decide (V.int k = V.int 0) = true then 1 else 0)), .int j]
  | _ => .non
theorem enum_ip : ∀ {l : List D} {k : Nat}, (∀ x ∈ l, IP x) → ∀ x ∈ enumD k l, ∃ (m i j : Int), x = .tup [.int m, .tup [.int i, .int j]]
  | [], _, _, x, hx => by cases hx
  | d :: l, k, h, x, hx => by
    rcases List.mem_cons.mp hx with rfl | hx
    · obtain ⟨i, j, rfl⟩ := h d List.mem_cons_self
      exact ⟨_, i, j, rfl⟩
    · exact enum_ip (fun y hy => h y (List.mem_cons_of_mem _ hy)) x hx
abbrev spBent (K : PySem.W.Frag) : Sp := spDrawn K 200000000 (T := List (Nat × Nat)) (fun ps => [.lst (ps.map winD)]) (fun ps => 0 < ps.length ∧ ps.length ≤ 600) (fun _ d => BentOk d) 10
abbrev st__law_bent : Stmt := top 49
abbrev nm__law_bent : List Str := ["purse", "windows", "at", "first", "last", "late", "some", "k", "one", "two", "bent"]
theorem sc__law_bent : FnScope nm__law_bent ["purse", "windows"] (defScope st__law_bent) := ⟨rfl, rfl, rfl, by decide +kernel, rfl, by decide +kernel, by decide +kernel⟩
theorem ok_bent (F : Fun K "_law_bent" "_law_bent" st__law_bent f fd) (T : Tx P w K mg base a) (c__law_draw : CalX P w K mg base 2 "_law_draw" ["purse", "many"] (spDraw K)) : FnOk P w K mg base (L2.CX P w) 3 f fd ["purse", "windows"] (spBent K) := by
  refine F.okX sc__law_bent (fun vs H Q E h => pro_len h fun _ => rfl) (fun cdv A outer s H vs Q E hr h => ⟨_, (pss_cons (ps_set (i := 2) sc__law_bent.nd rfl (by first | exact Or.inl rfl | exact Or.inr rfl) (pe_c c__law_draw hr (by first | decide | exact Nat.le_refl _) rfl (passes_call (takes_of rfl rfl rfl rfl) (fun _ _ _ _ h => h)) (pa_cons (pv 0) (pa_cons (pe_callB (kC K rLenU rfl call_lenU) (by rfl) T.b_len (by decide +kernel) (pa_cons (pv 1) pa_nil)) pa_nil))))
    (pss_cons (ps_asg (pe_ix (kX K rIx rfl ix_seq) (pv 1) (pv 2) (fun _ _ => rfl)) (pg_tupK (K := K) rfl rfl (pgs_cons (pg_name (i := 3) sc__law_bent.nd rfl (by first | exact Or.inl rfl | exact Or.inr rfl)) (pgs_cons (pg_name (i := 4) sc__law_bent.nd rfl (by first | exact Or.inl rfl | exact Or.inr rfl)) pgs_nil))))
    (pss_cons (ps_set (i := 5) sc__law_bent.nd rfl (by first | exact Or.inl rfl | exact Or.inr rfl) (pe_slice (kS K rSlU rfl sl_U) (pv 1) (po_some (pe_op (kO K rPlus rfl op_plus) (pv 2) pe_int)) po_none))
    (pss_cons (ps_set (i := 6) sc__law_bent.nd rfl (by first | exact Or.inl rfl | exact Or.inr rfl) (pe_lst (pa_cons (pe_op (kO K rPlus rfl op_plus) (pe_op (kO K rPlus rfl op_plus) (pe_slice (kS K rSlU rfl sl_U) (pv 1) po_none (po_some (pv 2))) (pe_lst (pa_cons (pe_tup (pa_cons (pv 3) (pa_cons (pe_op (kO K rPlus rfl op_plus) (pv 4) pe_int) pa_nil))) pa_nil))) (pe_lc (own := [("k", 7), ("one", 8), ("two", 9)]) (tt := tYes) (g := (gTup K 2 (gCons (gName 7) (gCons (gTup K 2 (gCons (gName 8) (gCons (gName 9) gNil))) gNil)))) rfl sc__law_bent.nd (pi_enumK (K := K) rfl (by rfl) T.b_enumerate (pa_cons (pv 5) pa_nil)) (blkOk_by (own := [("k", 7), ("one", 8), ("two", 9)]) (N := nm__law_bent) (sc := (defScope st__law_bent)) (by decide +kernel)) (fun _ _ _ _ _ => (pg_tupK (K := K) rfl rfl (pgs_cons (pg_name (i := 7) sc__law_bent.nd rfl (by first | exact Or.inl rfl | exact Or.inr rfl)) (pgs_cons (pg_tupK (K := K) rfl rfl (pgs_cons (pg_name (i := 8) sc__law_bent.nd rfl (by first | exact Or.inl rfl | exact Or.inr rfl)) (pgs_cons (pg_name (i := 9) sc__law_bent.nd rfl (by first | exact Or.inl rfl | exact Or.inr rfl)) pgs_nil))) pgs_nil)))) (fun _ _ _ _ _ => pts_nil) (fun _ _ _ _ _ => (pe_tup (pa_cons (pe_op (kO K rPlus rfl op_plus) (pv 8) (pe_callTy call_int1 (by rfl) T.b_int (by decide +kernel) (pa_cons (pe_cmpR (kO K rEqU rfl (op_eqU (hu64 hr))) (pv 7) pe_int (nomark _)) pa_nil))) (pa_cons (pv 9) pa_nil)))))) pa_nil)))
    (pss_cons (ps_expr (pe_bmK (K := K) rfl PySem.F.plainAttrs_list PySem.F.slot_list_append PySem.F.type_list_append mt_append (pv 6) (pa_cons (pe_op (kO K rPlus rfl op_plus) (pe_op (kO K rPlus rfl op_plus) (pe_slice (kS K rSlU rfl sl_U) (pv 1) po_none (po_some (pv 2))) (pe_lst (pa_cons (pe_tup (pa_cons (pv 3) (pa_cons (pe_op op_sub (pv 4) pe_int) pa_nil))) pa_nil))) (pe_lc (own := [("k", 7), ("one", 8), ("two", 9)]) (tt := tYes) (g := (gTup K 2 (gCons (gName 7) (gCons (gTup K 2 (gCons (gName 8) (gCons (gName 9) gNil))) gNil)))) rfl sc__law_bent.nd (pi_enumK (K := K) rfl (by rfl) T.b_enumerate (pa_cons (pv 5) pa_nil)) (blkOk_by (own := [("k", 7), ("one", 8), ("two", 9)]) (N := nm__law_bent) (sc := (defScope st__law_bent)) (by decide +kernel)) (fun _ _ _ _ _ => (pg_tupK (K := K) rfl rfl (pgs_cons (pg_name (i := 7) sc__law_bent.nd rfl (by first | exact Or.inl rfl | exact Or.inr rfl)) (pgs_cons (pg_tupK (K := K) rfl rfl (pgs_cons (pg_name (i := 8) sc__law_bent.nd rfl (by first | exact Or.inl rfl | exact Or.inr rfl)) (pgs_cons (pg_name (i := 9) sc__law_bent.nd rfl (by first | exact Or.inl rfl | exact Or.inr rfl)) pgs_nil))) pgs_nil)))) (fun _ _ _ _ _ => pts_nil) (fun _ _ _ _ _ => (pe_tup (pa_cons (pe_op op_sub (pv 8) (pe_callTy call_int1 (by rfl) T.b_int (by decide +kernel) (pa_cons (pe_cmpR (kO K rEqU rfl (op_eqU (hu64 hr))) (pv 7) pe_int (nomark _)) pa_nil))) (pa_cons (pv 9) pa_nil)))))) pa_nil)))
    (pss_cons (ps_set (i := 6) sc__law_bent.nd rfl (by first | exact Or.inl rfl | exact Or.inr rfl) (pe_op (kO K rPlus rfl op_plus) (pv 6) (pe_lst (pa_cons (pe_op (kO K rPlus rfl op_plus) (pe_slice (kS K rSlU rfl sl_U) (pv 1) po_none (po_some (pv 2))) (pv 5)) (pa_cons (pe_op (kO K rPlus rfl op_plus) (pe_op (kO K rPlus rfl op_plus) (pe_slice (kS K rSlU rfl sl_U) (pv 1) po_none (po_some (pv 2))) (pe_lst (pa_cons (pe_tup (pa_cons (pv 3) (pa_cons (pv 3) pa_nil))) (pa_cons (pe_tup (pa_cons (pv 3) (pa_cons (pv 4) pa_nil))) pa_nil)))) (pv 5)) (pa_cons (pe_op (kO K rPlus rfl op_plus) (pv 1) (pe_lst (pa_cons (pe_tup (pa_cons (pe_ix (kX K rIx rfl ix_seq) (pe_ix (kX K rIx rfl ix_seq) (pv 1) (pe_un un_neg pe_int) (fun _ _ => rfl)) pe_int (fun _ _ => rfl)) (pa_cons (pe_op (kO K rPlus rfl op_plus) (pe_ix (kX K rIx rfl ix_seq) (pe_ix (kX K rIx rfl ix_seq) (pv 1) (pe_un un_neg pe_int) (fun _ _ => rfl)) pe_int (fun _ _ => rfl)) pe_int) pa_nil))) pa_nil))) pa_nil))))))
    (pss_cons (ps_expr (pe_bmK (K := K) rfl PySem.F.plainAttrs_list PySem.F.slot_list_append PySem.F.type_list_append mt_append (pv 6) (pa_cons (pe_ifExp (pt_cmpR (kO K rNeU rfl (op_neU (hu64 hr))) (pv 5) (pe_lst pa_nil) (nomark _)) (pe_op (kO K rPlus rfl op_plus) (pe_op (kO K rPlus rfl op_plus) (pe_slice (kS K rSlU rfl sl_U) (pv 1) po_none (po_some (pv 2))) (pe_lst (pa_cons (pe_tup (pa_cons (pv 3) (pa_cons (pe_ix (kX K rIx rfl ix_seq) (pe_ix (kX K rIx rfl ix_seq) (pv 5) pe_int (fun _ _ => rfl)) pe_int (fun _ _ => rfl)) pa_nil))) pa_nil))) (pe_slice (kS K rSlU rfl sl_U) (pv 5) (po_some pe_int) po_none)) (pe_op (kO K rPlus rfl op_plus) (pe_slice (kS K rSlU rfl sl_U) (pv 1) po_none (po_some (pv 2))) (pe_lst (pa_cons (pe_tup (pa_cons (pv 3) (pa_cons (pe_op op_sub (pv 4) pe_int) pa_nil))) pa_nil)))) pa_nil)))
    (pss_cons (ps_expr (pe_bmK (K := K) rfl PySem.F.plainAttrs_list PySem.F.slot_list_append PySem.F.type_list_append mt_append (pv 6) (pa_cons (pe_op (kO K rPlus rfl op_plus) (pe_op (kO K rPlus rfl op_plus) (pe_slice (kS K rSlU rfl sl_U) (pv 1) po_none (po_some (pv 2))) (pe_lst (pa_cons (pe_tup (pa_cons (pv 3) (pa_cons (pe_op (kO K rPlus rfl op_plus) (pv 3) pe_int) pa_nil))) (pa_cons (pe_tup (pa_cons (pe_op (kO K rPlus rfl op_plus) (pv 3) pe_int) (pa_cons (pv 4) pa_nil))) pa_nil)))) (pv 5)) pa_nil)))
    (pss_one (ps_ret (pe_lc (own := [("bent", 10)]) (g := (gName 10)) rfl sc__law_bent.nd (pi_listK (K := K) rfl (pv 6)) (blkOk_by (own := [("bent", 10)]) (N := nm__law_bent) (sc := (defScope st__law_bent)) (by decide +kernel)) (fun _ _ _ _ _ => (pg_name (i := 10) sc__law_bent.nd rfl (by first | exact Or.inl rfl | exact Or.inr rfl))) (fun _ _ _ _ _ => (pts_one (pt_cmpR (kO K rEqU rfl (op_eqU (hu64 hr))) (pe_lc (own := [("one", 8)]) (g := (gName 8)) rfl sc__law_bent.nd (pi_listK (K := K) rfl (pv 10)) (blkOk_by (own := [("one", 8)]) (N := nm__law_bent) (sc := (scRel (defScope st__law_bent) (scOf (stE (stB 8 st__law_bent))))) (by decide +kernel)) (fun _ _ _ _ _ => (pg_name (i := 8) sc__law_bent.nd rfl (by first | exact Or.inl rfl | exact Or.inr rfl))) (fun _ _ _ _ _ => (pts_one (PW.pt (pw_or (pt_cmpR op_less (pe_ix (kX K rIx rfl ix_seq) (pv 8) pe_int (fun _ _ => rfl)) pe_int (nomark _)) (pw_or1 (pt_cmpR op_less (pe_ix (kX K rIx rfl ix_seq) (pv 8) pe_int (fun _ _ => rfl)) pe_int (nomark _))))))) (fun _ _ _ _ _ => (pv 8))) (pe_lst pa_nil) (nomark _)))) (fun _ _ _ _ _ => (pv 10))))))))))))), run_body h fun ⟨p, n, ps⟩ S ⟨hp, hn, ⟨h0, hz⟩, _⟩ hl hcl wi => ?_⟩)
  have hp : PuOk n p := hp
  have hn : n ≤ 200000000 := hn
  have h0 : 0 < ps.length := h0
  have hz : ps.length ≤ 600 := hz
  have hS : S.A.length = 1 := hl
  have hW : ∀ x ∈ ps.map winD, IP x := fun x hx => by
    obtain ⟨q, _, rfl⟩ := List.mem_map.mp hx
    exact ⟨_, _, rfl⟩
  have hWz : (ps.map winD).length ≤ 600 := by rw [List.length_map]; exact hz
  have hWl : (ps.map winD).length = ps.length := List.length_map _
  walk_at "pp"
  refine ask_draw 0 ?_
  walk_at "pp"
  refine cc_len (.lst _) ?_
  walk_at "pp"
  refine ⟨(ps.map winD).length, p, n, rfl, rfl, hp, by omega, by omega, by omega, fun at' p1 hat hp1 => ?_⟩
  have hat : at' < ps.length := by omega
  obtain ⟨⟨u, v⟩, huv⟩ : ∃ q, ps[at']? = some q := ⟨_, List.getElem?_eq_getElem hat⟩
  have hlastq : ∃ q, ps[ps.length - 1]? = some q := ⟨_, List.getElem?_eq_getElem (by omega)⟩
  obtain ⟨⟨u2, v2⟩, huv2⟩ := hlastq
  have hu : (ps.map winD)[at']? = some (.tup [.int (u : Int), .int (v : Int)]) := by
    rw [List.getElem?_map, huv]
    rfl
  have hu2 : (ps.map winD)[(ps.map winD).length - 1]? = some (.tup [.int (u2 : Int), .int (v2 : Int)]) := by
    rw [List.getElem?_map, hWl, huv2]
    rfl
  clear huv huv2 hcl
  dsimp only
  generalize ps.map winD = W at *
  have hT : ∀ x ∈ W.take at', IP x := fun x hx => hW x (List.mem_of_mem_take hx)
  have hL : ∀ x ∈ W.drop (at' + 1), IP x := fun x hx => hW x (List.mem_of_mem_drop hx)
  have hTz : (W.take at').length ≤ 600 := by rw [List.length_take]; omega
  have hLz : (W.drop (at' + 1)).length ≤ 600 := by rw [List.length_drop]; omega
  refine se_seq (se_asgG ?_)
  walk_at "pp"
  refine oo_ixL (atI_of hu rfl) ?_
  refine ge_pair ?_
  walk_at "pp"
  rw [show (at' : Int) + 1 = ((at' + 1 : Nat) : Int) by omega]
  refine ss_lst ?_
  rw [cutD_n0]
  generalize W.drop (at' + 1) = late at *
  walk_at "pp"
  refine ee_open ?_
  walk_at "pp"
  refine ss_lst ?_
  rw [cutD_0n]
  generalize hTT : W.take at' = Tk at *
  walk_at "pp"
  refine ee_lst ?_
  walk_at "pp"
  refine oo_addL (by show _ + 1 ≤ _; omega) ?_
  refine ee_lc (ie_enum ?_)
  walk_at "pp"
  refine ⟨fun _ h => h, trivial, fun _ => true, bumpA, by rw [enumD_len]; omega, fun x hx _ => ?_, fun x acc hx => ?_, ?_⟩
  · obtain ⟨k, i, j, rfl⟩ := enum_ip hL x hx
    rfl
  · obtain ⟨k, i, j, rfl⟩ := enum_ip hL x hx
    refine gw_nest (by decide) (by decide) (by decide) ?_
    refine et_yes ?_
    refine ⟨rfl, rfl, fun _ => ?_⟩
    walk_at "pp"
    refine cc_intB ?_
    walk_at "pp"
    exact ⟨rfl, rfl⟩
  rw [List.filter_eq_self.mpr fun _ _ => rfl]
  have hbumpA : ∀ x ∈ (enumD 0 late).map bumpA, IP x := fun x hx => by
    obtain ⟨y, hy, rfl⟩ := List.mem_map.mp hx
    obtain ⟨k, i, j, rfl⟩ := enum_ip hL y hy
    exact ⟨_, _, rfl⟩
  have zbumpA : ((enumD 0 late).map bumpA).length ≤ 600 := by rw [List.length_map, enumD_len]; exact hLz
  generalize (enumD 0 late).map bumpA = lbumpA at *
  refine oo_addL (by rw [List.length_append]; show _ + 1 + _ ≤ _; omega) ?_
  walk_at "pp"
  refine ee_bm ?_
  walk_at "pp"
  refine ⟨.lst (.own rfl), ?_⟩
  walk_at "pp"
  refine ss_lst ?_
  rw [cutD_0n, hTT]
  walk_at "pp"
  refine ee_lst ?_
  walk_at "pp"
  refine oo_addL (by show _ + 1 ≤ _; omega) ?_
  refine ee_lc (ie_enum ?_)
  walk_at "pp"
  refine ⟨fun _ h => h, trivial, fun _ => true, bumpS, by rw [enumD_len]; omega, fun x hx _ => ?_, fun x acc hx => ?_, ?_⟩
  · obtain ⟨k, i, j, rfl⟩ := enum_ip hL x hx
    rfl
  · obtain ⟨k, i, j, rfl⟩ := enum_ip hL x hx
    refine gw_nest (by decide) (by decide) (by decide) ?_
    refine et_yes ?_
    refine ⟨rfl, rfl, fun _ => ?_⟩
    walk_at "pp"
    refine cc_intB ?_
    walk_at "pp"
    exact ⟨rfl, rfl⟩
  rw [List.filter_eq_self.mpr fun _ _ => rfl]
  have hbumpS : ∀ x ∈ (enumD 0 late).map bumpS, IP x := fun x hx => by
    obtain ⟨y, hy, rfl⟩ := List.mem_map.mp hx
    obtain ⟨k, i, j, rfl⟩ := enum_ip hL y hy
    exact ⟨_, _, rfl⟩
  have zbumpS : ((enumD 0 late).map bumpS).length ≤ 600 := by rw [List.length_map, enumD_len]; exact hLz
  generalize (enumD 0 late).map bumpS = lbumpS at *
  refine oo_addL (by rw [List.length_append]; show _ + 1 + _ ≤ _; omega) ?_
  walk_at "pp"
  refine mm_append (k := 1) rfl (by exact Nat.le_of_ble_eq_true rfl) ?_
  have hS1 : SL (.lst (Tk ++ [.tup [.int (u : Int), .int ((v : Int) + 1)]] ++ lbumpA)) := ⟨_, rfl, ip_app (ip_app hT ip_one) hbumpA, by rw [List.length_append, List.length_append]; show _ + 1 + _ ≤ _; omega⟩
  have hS2 : SL (.lst (Tk ++ [.tup [.int (u : Int), .int ((v : Int) - 1)]] ++ lbumpS)) := ⟨_, rfl, ip_app (ip_app hT ip_one) hbumpS, by rw [List.length_append, List.length_append]; show _ + 1 + _ ≤ _; omega⟩
  obtain ⟨d1, e1⟩ : ∃ d, d = D.lst (Tk ++ [.tup [.int (u : Int), .int ((v : Int) + 1)]] ++ lbumpA) := ⟨_, rfl⟩
  obtain ⟨d2, e2⟩ : ∃ d, d = D.lst (Tk ++ [.tup [.int (u : Int), .int ((v : Int) - 1)]] ++ lbumpS) := ⟨_, rfl⟩
  rw [← e1] at hS1 ⊢
  rw [← e2] at hS2 ⊢
  clear e1 e2 hbumpA hbumpS zbumpA zbumpS
  refine se_shut (l := [d1] ++ [d2]) 1 (by rw [hS]; exact Nat.le_refl _) rfl ?_
  show SE K S _ [some (.own 0), some (.lst (D.subL _ W)), some (.int (at' : Int)), some (.int (u : Int)), some (.int (v : Int)), some (.lst (D.subL _ late)), some (.lst ([d1] ++ [d2])), none, none, none, none] [.lst (D.subL _ p1), .off] _
  rw [sbL_cl (ip_cl hW), sbL_cl (ip_cl hL), sbL_cl hp1.cl]
  walk_at "pp"
  refine ee_lst ?_
  walk_at "pp"
  refine ss_lst ?_
  rw [cutD_0n, hTT]
  walk_at "pp"
  refine oo_addL (by omega) ?_
  walk_at "pp"
  refine ss_lst ?_
  rw [cutD_0n, hTT]
  walk_at "pp"
  refine ee_lst ?_
  walk_at "pp"
  refine oo_addL (by show _ + 2 ≤ _; omega) ?_
  walk_at "pp"
  refine oo_addL (by rw [List.length_append]; show _ + 2 + _ ≤ _; omega) ?_
  walk_at "pp"
  refine ee_lst ?_
  walk_at "pp"
  refine oo_ixL (d := .tup [.int (u2 : Int), .int (v2 : Int)]) (atI_neg (j := 1) (by decide) (by omega) hu2) ?_
  walk_at "pp"
  refine oo_ixT (d := .int (v2 : Int)) rfl ?_
  walk_at "pp"
  refine oo_ixL (d := .tup [.int (u2 : Int), .int (v2 : Int)]) (atI_neg (j := 1) (by decide) (by omega) hu2) ?_
  walk_at "pp"
  refine oo_ixT (d := .int (v2 : Int)) rfl ?_
  walk_at "pp"
  refine oo_addL (by show _ + 1 ≤ _; omega) ?_
  walk_at "pp"
  refine oo_addLO (by exact Nat.le_of_ble_eq_true rfl) ?_
  have hS3 : SL (.lst (Tk ++ late)) := ⟨_, rfl, ip_app hT hL, by rw [List.length_append]; omega⟩
  have hS4 : SL (.lst (Tk ++ [.tup [.int (u : Int), .int (u : Int)], .tup [.int (u : Int), .int (v : Int)]] ++ late)) := ⟨_, rfl, ip_app (ip_app hT ip_two) hL, by rw [List.length_append, List.length_append]; show _ + 2 + _ ≤ _; omega⟩
  have hS5 : SL (.lst (W ++ [.tup [.int (v2 : Int), .int ((v2 : Int) + 1)]])) := ⟨_, rfl, ip_app hW ip_one, by rw [List.length_append]; show _ + 1 ≤ _; omega⟩
  obtain ⟨d3, e3⟩ : ∃ d, d = D.lst (Tk ++ late) := ⟨_, rfl⟩
  obtain ⟨d4, e4⟩ : ∃ d, d = D.lst (Tk ++ [.tup [.int (u : Int), .int (u : Int)], .tup [.int (u : Int), .int (v : Int)]] ++ late) := ⟨_, rfl⟩
  obtain ⟨d5, e5⟩ : ∃ d, d = D.lst (W ++ [.tup [.int (v2 : Int), .int ((v2 : Int) + 1)]]) := ⟨_, rfl⟩
  rw [← e3] at hS3 ⊢
  rw [← e4] at hS4 ⊢
  rw [← e5] at hS5 ⊢
  clear e3 e4 e5
  walk_at "pp"
  refine ee_bm ?_
  walk_at "pp"
  refine ⟨.lst (.own rfl), ?_⟩
  refine ea_cons (EE.imp (C := fun d μ => SL d ∧ μ = [.lst p1, .off, .lst ([d1] ++ [d2] ++ [d3, d4, d5])]) ?_ ?_)
  · walk_at "pp"
    refine ee_lst ?_
    walk_at "pp"
    refine oo_nePy0 (fun c hc => ip_py (hL c hc)) (by decide) ?_
    walk_at "pp"
    refine ⟨fun hb => ?_, fun hb => ?_⟩
    · cases late with
      | nil => cases hb
      | cons q late =>
        obtain ⟨qi, qj, rfl⟩ := hL _ List.mem_cons_self
        walk_at "pp"
        refine ss_lst ?_
        rw [cutD_0n, hTT]
        walk_at "pp"
        refine ee_lst ?_
        walk_at "pp"
        refine oo_ixL (d := .tup [.int qi, .int qj]) (atI_of (j := 0) rfl rfl) ?_
        walk_at "pp"
        refine oo_ixT (d := .int qj) rfl ?_
        walk_at "pp"
        refine oo_addL (by show _ + 1 ≤ _; omega) ?_
        walk_at "pp"
        refine ss_lst ?_
        rw [show (1 : Int) = ((1 : Nat) : Int) from rfl, cutD_n0]
        have hq : ∀ x ∈ (D.tup [.int qi, .int qj] :: late).drop 1, IP x := fun x hx => hL x (List.mem_of_mem_drop hx)
        have hqz : ((D.tup [.int qi, .int qj] :: late).drop 1).length ≤ 600 := by rw [List.length_drop]; omega
        refine oo_addL (by rw [List.length_append]; show _ + 1 + _ ≤ _; omega) ?_
        exact ⟨⟨_, rfl, ip_app (ip_app hT ip_one) hq, by rw [List.length_append, List.length_append]; show _ + 1 + _ ≤ _; omega⟩, rfl⟩
    · walk_at "pp"
      refine ss_lst ?_
      rw [cutD_0n, hTT]
      walk_at "pp"
      refine ee_lst ?_
      walk_at "pp"
      refine oo_addL (by show _ + 1 ≤ _; omega) ?_
      exact ⟨⟨_, rfl, ip_app hT ip_one, by rw [List.length_append]; show _ + 1 ≤ _; omega⟩, rfl⟩
  rintro d6 μ ⟨hS6, rfl⟩
  walk_at "pp"
  refine mm_append (k := 2) rfl (by exact Nat.le_of_ble_eq_true rfl) ?_
  walk_at "pp"
  refine ee_bm ?_
  walk_at "pp"
  refine ⟨.lst (.own rfl), ?_⟩
  walk_at "pp"
  refine ss_lst ?_
  rw [cutD_0n, hTT]
  walk_at "pp"
  refine ee_lst ?_
  walk_at "pp"
  refine oo_addL (by show _ + 2 ≤ _; omega) ?_
  walk_at "pp"
  refine oo_addL (by rw [List.length_append]; show _ + 2 + _ ≤ _; omega) ?_
  have hS7 : SL (.lst (Tk ++ [.tup [.int (u : Int), .int ((u : Int) + 1)], .tup [.int ((u : Int) + 1), .int (v : Int)]] ++ late)) := ⟨_, rfl, ip_app (ip_app hT ip_two) hL, by rw [List.length_append, List.length_append]; show _ + 2 + _ ≤ _; omega⟩
  obtain ⟨d7, e7⟩ : ∃ d, d = D.lst (Tk ++ [.tup [.int (u : Int), .int ((u : Int) + 1)], .tup [.int ((u : Int) + 1), .int (v : Int)]] ++ late) := ⟨_, rfl⟩
  rw [← e7] at hS7 ⊢
  clear e7
  walk_at "pp"
  refine mm_append (k := 2) rfl (by exact Nat.le_of_ble_eq_true rfl) ?_
  have hall : ∀ x ∈ [d1, d2, d3, d4, d5, d6, d7], SL x := fun x hx => by
    simp only [List.mem_cons, List.not_mem_nil, or_false] at hx
    rcases hx with rfl | rfl | rfl | rfl | rfl | rfl | rfl <;> assumption
  refine se_shut (l := [d1, d2, d3, d4, d5, d6, d7]) 2 (by rw [hS]; decide) rfl ?_
  show SE K S _ [some (.own 0), some (.lst (D.subL _ W)), some (.int (at' : Int)), some (.int (u : Int)), some (.int (v : Int)), some (.lst (D.subL _ late)), some (.lst [d1, d2, d3, d4, d5, d6, d7]), none, none, none, none] [.lst (D.subL _ p1), .off, .off] _
  rw [sbL_cl (ip_cl hW), sbL_cl (ip_cl hL), sbL_cl hp1.cl]
  have hlen7 : [d1, d2, d3, d4, d5, d6, d7].length = 7 := rfl
  generalize [d1, d2, d3, d4, d5, d6, d7] = all at *
  walk_at "pp"
  refine ee_lc (ie_list ?_)
  walk_at "pp"
  refine ⟨_, .inl rfl, fun _ h => h, trivial, okL, fun x => x, by omega, fun x hx _ => D.lt_mono (Nat.zero_le _) (hall x hx).cl, fun x acc hx => ?_, ?_⟩
  · obtain ⟨L, rfl, h1, hLz2⟩ := hall x hx
    refine gw_name (by decide) ?_
    walk_at "pp"
    refine ee_lc (ie_list ?_)
    walk_at "pp"
    refine ⟨L, .inl rfl, fun _ h => h, trivial, negP, fun y => y, by omega, fun y hy _ => ?_, fun y acc hy => ?_, ?_⟩
    · obtain ⟨i, j, rfl⟩ := h1 y hy
      rfl
    · obtain ⟨i, j, rfl⟩ := h1 y hy
      have en : negP (.tup [.int i, .int j]) = (decide (i < 0) || decide (j < 0)) := rfl
      refine gw_name (by decide) ?_
      walk_at "pp"
      refine oo_ixT (d := .int i) rfl ?_
      walk_at "pp"
      refine ⟨fun hb => ?_, fun hb => ?_⟩
      · refine ⟨by rw [en, hb]; rfl, rfl, fun _ => ?_⟩
        walk_at "pp"
        exact ⟨rfl, rfl⟩
      · walk_at "pp"
        refine oo_ixT (d := .int j) rfl ?_
        walk_at "pp"
        refine ⟨by rw [en, hb]; rfl, rfl, fun _ => ?_⟩
        walk_at "pp"
        exact ⟨rfl, rfl⟩
    · rw [List.map_id']
      walk_at "pp"
      refine ee_lst ?_
      walk_at "pp"
      refine oo_eqPy0 (fun c hc => ip_py (h1 c (List.mem_filter.mp hc).1)) (by decide) ?_
      walk_at "pp"
      refine ⟨rfl, rfl, fun _ => ?_⟩
      walk_at "pp"
      exact ⟨rfl, rfl⟩
  rw [List.map_id']
  obtain ⟨Ls, b1, b2, b3⟩ := bents_ok (l := all.filter okL) fun x hx => ⟨hall x (List.mem_filter.mp hx).1, (List.mem_filter.mp hx).2⟩
  walk_at "gp"
  refine gave_drawn (n := n + 10) hS ?_ ⟨Ls, congrArg D.lst b1, by rw [b2]; exact Nat.le_trans (List.length_filter_le _ _) (by omega), b3⟩ (hp1.le (by omega))
  exact sl_cl fun x hx => hall x (List.mem_filter.mp hx).1
end


section
variable {P : Program} {w : World} {K : PySem.W.Frag} {mg : Str → Option Value} {base : Heap} {a : Ad} {f : Addr} {fd : FuncData}
section
variable {S : Bs} {δ : Sl} {μ : List Cell} {C : D → List Cell → Prop} {ta : TA} {E : XK}
theorem ask_heard (t : Q4) (ht : Asks t) (h : EA K S ta δ μ fun ds μ1 => ds = argOf t ∧ C (heardO (ansQ t)) μ1) : EE K S (tCall (spHeard K) [] E ta) δ μ C :=
  ee_cz fun A G H σ a' Q q => h A G H σ a' Q fun vs ds A1 G1 H1 μ1 m n r ⟨e, c⟩ => q vs ds A1 G1 H1 μ1 m n r ⟨t, ht, e, by rw [e]; exact ht.cl2, fun d hd => by subst hd; exact c⟩
theorem ask_same (t : D) (ht : exOk 7 t = true) (h0 : t.lt 0 = true) (h : EA K S ta δ μ fun ds μ1 => ds = [t, t] ∧ C (.bl true) μ1) : EE K S (tCall (spExact K 7) [] E ta) δ μ C :=
  ee_cz fun A G H σ a' Q q => h A G H σ a' Q fun vs ds A1 G1 H1 μ1 m n r ⟨e, c⟩ => q vs ds A1 G1 H1 μ1 m n r ⟨t, ht, e, by rw [e]; show (t.lt 0 && (t.lt 0 && true)) = true; rw [h0]; rfl, fun d hd => by subst hd; exact c⟩
end
theorem int_cl {i : Int} : Cl (.int i) := ⟨rfl, rfl⟩
theorem dot_nat {k : Nat} : dotN (.int (k : Int)) = k := Int.toNat_natCast _
theorem ct_nat {n : Nat} (h : 0 < n) : isCtN 1 (.int (n : Int)) = true := decide_eq_true (show ((1 : Nat) : Int) ≤ (n : Int) by omega)
theorem cells_pre {l : List D} (h : CellL l) : CsPre (.lst l) := ⟨⟨rfl, cells_cl h.2⟩, fun m e => by
  cases e
  exact ⟨h.1, fun x hx => by obtain ⟨i, rfl, _⟩ := h.2 x hx; rfl⟩⟩
theorem wd_pre {n : Nat} (h : n ≤ 1000000) : WdPre (.int (n : Int)) := ⟨int_cl, fun _ => by rw [dot_nat]; exact h⟩
/-- what may lie in a list that is asked for a breaking -/
def BrE (x : D) : Prop := x.pl = true ∧ x.lt 0 = true ∧ ∀ m, x = .tup m → ∀ y ∈ m, y.pl = true
theorem br_pre {L : List D} (h : ∀ x ∈ L, BrE x) (hz : L.length ≤ 100000) : BrPre (.lst L) := ⟨⟨rfl, D.ltL_all.mpr fun x hx => (h x hx).2.1⟩, fun l e => by
  cases e
  exact ⟨hz, fun x hx => ⟨(h x hx).1, (h x hx).2.2⟩⟩⟩
theorem bre_win {p : Nat × Nat} : BrE (winD p) := ⟨rfl, rfl, fun m e y hy => by
  cases e
  simp only [List.mem_cons, List.not_mem_nil, or_false] at hy
  rcases hy with rfl | rfl <;> rfl⟩
theorem bre_wins {ps : List (Nat × Nat)} : ∀ x ∈ ps.map winD, BrE x := fun x hx => by
  obtain ⟨p, _, rfl⟩ := List.mem_map.mp hx
  exact bre_win
theorem bre_flat {x : D} (h1 : x.pl = true) (h2 : x.lt 0 = true) (h3 : ∀ m, x ≠ .tup m) : BrE x := ⟨h1, h2, fun m e => absurd e (h3 m)⟩
theorem br_no {L : List D} {x : D} (hx : x ∈ L) (h : isPr x = false) {cs : List D} {w : Nat} : isBr cs w (.lst L) = false := by
  show (L.all isPr && _) = false
  cases q : L.all isPr with
  | false => rfl
  | true =>
    have := List.all_eq_true.mp q x hx
    rw [h] at this
    cases this
/-- no breaking, whatever the cells -/
structure OddB (x : D) : Prop where
  p : BrPre x
  no : ∀ cs w, isBr cs w x = false
theorem odd_flat {x : D} (h : Cl x) (hl : ∀ l, x ≠ .lst l) : OddB x := ⟨⟨h, fun l e => absurd e (hl l)⟩, fun cs w => by
  cases x with
  | lst l => exact absurd rfl (hl l)
  | _ => rfl⟩
theorem odd_lst {L : List D} {x : D} (h : ∀ x ∈ L, BrE x) (hz : L.length ≤ 100000) (hx : x ∈ L) (hn : isPr x = false) : OddB (.lst L) := ⟨br_pre h hz, fun cs w => br_no hx hn⟩
theorem bre_app {l m : List D} (h1 : ∀ c ∈ l, BrE c) (h2 : ∀ c ∈ m, BrE c) : ∀ c ∈ l ++ m, BrE c := fun c hc => by
  rcases List.mem_append.mp hc with hc | hc
  · exact h1 c hc
  · exact h2 c hc
theorem bre_one {x : D} (h : BrE x) : ∀ c ∈ [x], BrE c := fun c hc => by
  rw [List.mem_singleton.mp hc]
  exact h
theorem ans1_ok {l : List D} {n : Nat} {v : D} (hc : CellL l) (hn : 0 < n) : ansQ (1, .lst l, .int (n : Int), v) = .told (.bl (isBr l n v)) := by
  show ansW1 (.lst l) (.int (n : Int)) v = _
  unfold ansW1 cwO
  rw [cO_in hc, if_neg (by rw [ct_nat hn]; exact fun z => by cases z), dot_nat]
  rfl
theorem asks1 {l : List D} {n : Nat} {v : D} (hc : CellL l) (hz : n ≤ 1000000) (hv : BrPre v) : Asks (1, .lst l, .int (n : Int), v)   := ⟨show (1 : Nat) < 4 by decide, cells_pre hc, wd_pre hz, hv.1, fun _ => hv⟩
def Wl (d : D) : Prop := ∃ q : List (Nat × Nat), d = .lst (q.map winD) ∧ q.length ≤ 5000
theorem Wl.cl {d : D} (h : Wl d) : d.lt 0 = true := by
  obtain ⟨q, rfl, _⟩ := h
  exact wins_cl (m := 0)
theorem wl_cl {l : List D} (h : ∀ x ∈ l, Wl x) : D.ltL 0 l = true := D.ltL_all.mpr fun x hx => (h x hx).cl
theorem bent_wl {d : D} (h : BentOk d) : ∃ l, d = .lst l ∧ (∀ x ∈ l, Wl x) ∧ l.length ≤ 10 := by
  obtain ⟨Ls, rfl, h1, h2⟩ := h
  refine ⟨_, rfl, fun x hx => ?_, by rw [List.length_map]; exact h1⟩
  obtain ⟨q, hq, rfl⟩ := List.mem_map.mp hx
  exact ⟨q, rfl, h2 q hq⟩
theorem wins_pos {l : List D} {w : Nat} (hw : 0 < w) (h : 0 < l.length) : 0 < (winsOf l w).length := by
  obtain ⟨p, hp, _⟩ := wins_at (l := l) (g := 0) hw h
  exact List.length_pos_of_mem hp
def asL : D → D
  | .tup m => .lst m
  | _ => .non
theorem last9 {ws : List (Nat × Nat)} (hz : ws.length ≤ 600) : OddB (.lst ((ws.map winD).map asL ++ (List.replicate (if ws.isEmpty = true then 1 else 0) [D.lst [.int 0, .int 1]]).flatten)) := by
  have h1 : ∀ x ∈ (ws.map winD).map asL, BrE x := fun x hx => by
    obtain ⟨y, hy, rfl⟩ := List.mem_map.mp hx
    obtain ⟨q, _, rfl⟩ := List.mem_map.mp hy
    exact bre_flat rfl rfl fun m e => by cases e
  cases ws with
  | nil => exact odd_lst (x := .lst [.int 0, .int 1]) (fun x hx => by
      have hx : x ∈ [D.lst [.int 0, .int 1]] := hx
      rw [List.mem_singleton.mp hx]
      exact bre_flat rfl rfl fun m e => by cases e) (by decide) (show _ ∈ [D.lst [.int 0, .int 1]] from List.mem_cons_self) rfl
  | cons q ws =>
    refine odd_lst (x := asL (winD q)) (bre_app h1 fun x hx => by cases hx) ?_ (List.mem_append_left _ List.mem_cons_self) rfl
    show ((winD q :: ws.map winD).map asL ++ []).length ≤ 100000
    rw [List.append_nil, List.length_map, List.length_cons, List.length_map]
    have : ws.length + 1 ≤ 600 := hz
    omega
abbrev spJudged (K : PySem.W.Frag) : Sp := spDrawn K 100000000 (T := List D × Nat) (fun t => [.lst t.1, .int (t.2 : Int)]) (fun t => CellL t.1 ∧ t.1.length ≤ 600 ∧ 0 < t.2 ∧ t.2 ≤ 80) (fun _ d => d = .bl true) 2000
abbrev st__law_judged : Stmt := top 50
abbrev nm__law_judged : List Str := ["purse", "cells", "width", "good", "bent", "windows", "best", "odds", "one", "odd"]
theorem sc__law_judged : FnScope nm__law_judged ["purse", "cells", "width"] (defScope st__law_judged) := ⟨rfl, rfl, rfl, by decide +kernel, rfl, by decide +kernel, by decide +kernel⟩
theorem ok_judged (F : Fun K "_law_judged" "_law_judged" st__law_judged f fd) (T : Tx P w K mg base a) (c__law_greedy : CalX P w K mg base 1 "_law_greedy" ["cells", "width"] (spWins K)) (c__law_drawn_breaking : CalX P w K mg base 4 "_law_drawn_breaking" ["purse", "cells", "width"] (spDrawnBr K)) (c__law_bent : CalX P w K mg base 3 "_law_bent" ["purse", "windows"] (spBent K)) (c__law_exact : CalX P w K mg base 8 "_law_exact" ["mine", "theirs"] (spExact K 7))
    (c__law_is_breaking : CalX P w K mg base 1 "_law_is_breaking" ["cells", "width", "windows"] (spLBreaking K)) (c__law_heard : CalX P w K mg base 7 "_law_heard" ["way", "args"] (spHeard K)) : FnOk P w K mg base (L2.CX P w) 9 f fd ["purse", "cells", "width"] (spJudged K) := by
  refine F.okX sc__law_judged (fun vs H Q E h => pro_len h fun _ => rfl) (fun cdv A outer s H vs Q E hr h => ⟨_, (pss_cons (ps_set (i := 3) sc__law_judged.nd rfl (by first | exact Or.inl rfl | exact Or.inr rfl) (pe_lst (pa_cons (pe_c c__law_greedy hr (by first | decide | exact Nat.le_refl _) rfl (passes_call (takes_of rfl rfl rfl rfl) (fun _ _ _ _ h => h)) (pa_cons (pv 1) (pa_cons (pv 2) pa_nil))) (pa_cons (pe_c c__law_drawn_breaking hr (by first | decide | exact Nat.le_refl _) rfl (passes_call (takes_of rfl rfl rfl rfl) (fun _ _ _ _ h => h)) (pa_cons (pv 0) (pa_cons (pv 1) (pa_cons (pv 2) pa_nil)))) pa_nil))))
    (pss_cons (ps_set (i := 4) sc__law_judged.nd rfl (by first | exact Or.inl rfl | exact Or.inr rfl) (pe_ifExp (pt_cmpR (kO K rNeU rfl (op_neU (hu64 hr))) (pv 1) (pe_lst pa_nil) (nomark _)) (pe_op (kO K rPlus rfl op_plus) (pe_c c__law_bent hr (by first | decide | exact Nat.le_refl _) rfl (passes_call (takes_of rfl rfl rfl rfl) (fun _ _ _ _ h => h)) (pa_cons (pv 0) (pa_cons (pe_ix (kX K rIx rfl ix_seq) (pv 3) pe_int (fun _ _ => rfl)) pa_nil))) (pe_c c__law_bent hr (by first | decide | exact Nat.le_refl _) rfl (passes_call (takes_of rfl rfl rfl rfl) (fun _ _ _ _ h => h)) (pa_cons (pv 0) (pa_cons (pe_ix (kX K rIx rfl ix_seq) (pv 3) pe_int (fun _ _ => rfl)) pa_nil)))) (pe_lst (pa_cons (pe_lst (pa_cons (pe_tup (pa_cons pe_int (pa_cons pe_int pa_nil))) pa_nil)) pa_nil))))
    (pss_cons (ps_for (passes_of rfl) rfl (pi_listK (K := K) rfl (pe_op (kO K rPlus rfl op_plus) (pv 3) (pv 4))) (pg_name (i := 5) sc__law_judged.nd rfl (by first | exact Or.inl rfl | exact Or.inr rfl))
      (pss_one (ps_if (pt_not (pt_val (pe_c c__law_exact hr (by first | decide | exact Nat.le_refl _) rfl (passes_call (takes_of rfl rfl rfl rfl) (fun _ _ _ _ h => h)) (pa_cons (pe_lst (pa_cons pe_str (pa_cons (pe_c c__law_is_breaking hr (by first | decide | exact Nat.le_refl _) rfl (passes_call (takes_of rfl rfl rfl rfl) (fun _ _ _ _ h => h)) (pa_cons (pv 1) (pa_cons (pv 2) (pa_cons (pv 5) pa_nil)))) pa_nil))) (pa_cons (pe_c c__law_heard hr (by first | decide | exact Nat.le_refl _) rfl (passes_call (takes_of rfl rfl rfl rfl) (fun _ _ _ _ h => h)) (pa_cons pe_int (pa_cons (pe_lst (pa_cons (pv 1) (pa_cons (pv 2) (pa_cons (pv 5) pa_nil)))) pa_nil))) pa_nil))))) (pss_one (ps_ret pe_bl)) pss_nil)))
    (pss_cons (ps_set (i := 6) sc__law_judged.nd rfl (by first | exact Or.inl rfl | exact Or.inr rfl) (pe_ix (kX K rIx rfl ix_seq) (pv 3) pe_int (fun _ _ => rfl)))
    (pss_cons (ps_set (i := 7) sc__law_judged.nd rfl (by first | exact Or.inl rfl | exact Or.inr rfl) (pe_lst (pa_cons pe_non (pa_cons (pe_callTy (kC K rTupOf rfl call_tupOf) (by rfl) T.b_tuple (by decide +kernel) (pa_cons (pv 6) pa_nil)) (pa_cons pe_int (pa_cons pe_str (pa_cons pe_dnewK (pa_cons (pe_op (kO K rPlus rfl op_plus) (pv 6) (pe_lst (pa_cons pe_non pa_nil))) (pa_cons (pe_op (kO K rPlus rfl op_plus) (pv 6) (pe_lst (pa_cons (pe_tup (pa_cons pe_int pa_nil)) pa_nil))) (pa_cons (pe_op (kO K rPlus rfl op_plus) (pv 6) (pe_lst (pa_cons pe_int pa_nil))) (pa_cons (pe_op (kO K rPlus rfl op_plus) (pe_lc (own := [("one", 8)]) (tt := tYes) (g := (gName 8)) rfl sc__law_judged.nd (pi_listK (K := K) rfl (pv 6)) (blkOk_by (own := [("one", 8)]) (N := nm__law_judged) (sc := (defScope st__law_judged)) (by decide +kernel)) (fun _ _ _ _ _ => (pg_name (i := 8) sc__law_judged.nd rfl (by first | exact Or.inl rfl | exact Or.inr rfl))) (fun _ _ _ _ _ => pts_nil) (fun _ _ _ _ _ => (pe_callTy (kC K rListOf rfl call_listOf) (by rfl) T.b_list (by decide +kernel) (pa_cons (pv 8) pa_nil)))) (pe_op op_timesU (pe_lst (pa_cons (pe_lst (pa_cons pe_int (pa_cons pe_int pa_nil))) pa_nil)) (pe_callTy call_int1 (by rfl) T.b_int (by decide +kernel) (pa_cons (pe_cmpR (kO K rEqU rfl (op_eqU (hu64 hr))) (pv 6) (pe_lst pa_nil) (nomark _)) pa_nil)))) pa_nil)))))))))))
    (pss_cons (ps_if (pt_cmpR (kO K rNeU rfl (op_neU (hu64 hr))) (pv 6) (pe_lst pa_nil) (nomark _)) (pss_one (ps_set (i := 7) sc__law_judged.nd rfl (by first | exact Or.inl rfl | exact Or.inr rfl) (pe_op (kO K rPlus rfl op_plus) (pv 7) (pe_lst (pa_cons (pe_op (kO K rPlus rfl op_plus) (pe_slice (kS K rSlU rfl sl_U) (pv 6) po_none (po_some (pe_un un_neg pe_int))) (pe_lst (pa_cons (pe_op (kO K rPlus rfl op_plus) (pe_ix (kX K rIx rfl ix_seq) (pv 6) (pe_un un_neg pe_int) (fun _ _ => rfl)) (pe_tup (pa_cons pe_int pa_nil))) pa_nil))) (pa_cons (pe_op (kO K rPlus rfl op_plus) (pe_lst (pa_cons (pe_tup (pa_cons pe_bl (pa_cons (pe_ix (kX K rIx rfl ix_seq) (pe_ix (kX K rIx rfl ix_seq) (pv 6) pe_int (fun _ _ => rfl)) pe_int (fun _ _ => rfl)) pa_nil))) pa_nil)) (pe_slice (kS K rSlU rfl sl_U) (pv 6) (po_some pe_int) po_none)) (pa_cons (pe_op (kO K rPlus rfl op_plus) (pe_slice (kS K rSlU rfl sl_U) (pv 6) po_none (po_some (pe_un un_neg pe_int))) (pe_lst (pa_cons (pe_tup (pa_cons (pe_ix (kX K rIx rfl ix_seq) (pe_ix (kX K rIx rfl ix_seq) (pv 6) (pe_un un_neg pe_int) (fun _ _ => rfl)) pe_int (fun _ _ => rfl)) (pa_cons pe_non pa_nil))) pa_nil))) pa_nil))))))) pss_nil)
    (pss_cons (ps_for (passes_of rfl) rfl (pi_listK (K := K) rfl (pv 7)) (pg_name (i := 9) sc__law_judged.nd rfl (by first | exact Or.inl rfl | exact Or.inr rfl))
      (pss_one (ps_if (pt_not (pt_val (pe_c c__law_exact hr (by first | decide | exact Nat.le_refl _) rfl (passes_call (takes_of rfl rfl rfl rfl) (fun _ _ _ _ h => h)) (pa_cons (pe_lst (pa_cons pe_str (pa_cons pe_bl pa_nil))) (pa_cons (pe_c c__law_heard hr (by first | decide | exact Nat.le_refl _) rfl (passes_call (takes_of rfl rfl rfl rfl) (fun _ _ _ _ h => h)) (pa_cons pe_int (pa_cons (pe_lst (pa_cons (pv 1) (pa_cons (pv 2) (pa_cons (pv 9) pa_nil)))) pa_nil))) pa_nil))))) (pss_one (ps_ret pe_bl)) pss_nil)))
    (pss_one (ps_ret pe_bl))))))))), run_body h fun ⟨p, n, l, wd⟩ S ⟨hp, hn, ⟨hc, hlz, hw, hwz⟩, _⟩ hl hcl wi => ?_⟩)
  have hp : PuOk n p := hp
  have hn : n ≤ 100000000 := hn
  have hc : CellL l := hc
  have hlz : l.length ≤ 600 := hlz
  have hw : 0 < wd := hw
  have hwz : wd ≤ 80 := hwz
  have hS : S.A.length = 1 := hl
  have hcc : D.ltL 0 l = true := cells_cl hc.2
  have hwl := wins_len (l := l) hw
  walk_at "pp"
  refine ee_lst ?_
  walk_at "pp"
  refine ee_czS ?_
  walk_at "pp"
  refine ⟨(l, wd), ⟨hc, hw, by show wd ≤ _; omega⟩, rfl, by show (D.ltL 0 l && (true && true)) = true; rw [hcc]; rfl, ?_⟩
  rintro ws rfl _
  dsimp only
  rw [show wins (zc l) l.length wd = winsOf l wd from rfl]
  walk_at "pp"
  refine ask_drawn 0 ?_
  walk_at "pp"
  refine ⟨(l, wd), p, n, rfl, rfl, hp, by omega, ⟨hc, hlz, hw, hwz⟩, by show (D.ltL 0 l && (true && true)) = true; rw [hcc]; rfl, fun d p1 hd _ hp1 => ?_⟩
  obtain ⟨ps, rfl, hps1, hps2⟩ := hd
  have hps1 : ps.length ≤ l.length := hps1
  have hps2 : 0 < l.length → 0 < ps.length := hps2
  refine ea_nil ?_
  refine ⟨Nat.le_of_ble_eq_true rfl, ?_⟩
  refine se_seq (se_asg (EE.imp (C := fun d μ => ∃ (bs p' : List D), d = .lst bs ∧ (∀ x ∈ bs, Wl x) ∧ bs.length ≤ 20 ∧ μ = [.lst p'] ∧ PuOk (n + 2000) p') ?_ ?_))
  · walk_at "pp"
    refine ee_lst ?_
    walk_at "pp"
    refine oo_neI0 (fun c hcm => by obtain ⟨i, rfl, _⟩ := hc.2 c hcm; exact .inl ⟨_, rfl⟩) ?_
    walk_at "pp"
    refine ⟨fun hb => ?_, fun hb => ?_⟩
    · have hpos : 0 < l.length := by
        cases l with
        | nil => cases hb
        | cons x l => exact Nat.succ_pos _
      walk_at "pp"
      refine ask_drawn 0 ?_
      walk_at "pp"
      refine oo_ixL (d := .lst ((winsOf l wd).map winD)) rfl ?_
      walk_at "pp"
      refine ⟨winsOf l wd, p1, _, rfl, rfl, hp1, by omega, ⟨wins_pos hw hpos, by omega⟩, by show (D.ltL 0 ((winsOf l wd).map winD) && true) = true; rw [wins_cl]; rfl, fun d p2 hd _ hp2 => ?_⟩
      obtain ⟨b1, rfl, hb1, hz1⟩ := bent_wl hd
      walk_at "pp"
      refine ask_drawn 0 ?_
      walk_at "pp"
      refine oo_ixL (d := .lst (ps.map winD)) rfl ?_
      walk_at "pp"
      refine ⟨ps, p2, _, rfl, rfl, hp2, by omega, ⟨hps2 hpos, by omega⟩, by show (D.ltL 0 (ps.map winD) && true) = true; rw [wins_cl]; rfl, fun d p3 hd _ hp3 => ?_⟩
      obtain ⟨b2, rfl, hb2, hz2⟩ := bent_wl hd
      refine oo_addL (by omega) ?_
      refine ⟨b1 ++ b2, p3, rfl, fun x hx => ?_, by rw [List.length_append]; omega, rfl, hp3.le (by omega)⟩
      rcases List.mem_append.mp hx with hx | hx
      · exact hb1 x hx
      · exact hb2 x hx
    · walk_at "pp"
      refine ee_lst ?_
      walk_at "pp"
      refine ee_lst ?_
      walk_at "pp"
      refine ⟨[.lst [.tup [.int 0, .int 0]]], p1, rfl, fun x hx => ?_, by decide, rfl, hp1.le (by omega)⟩
      rw [List.mem_singleton.mp hx]
      exact ⟨[(0, 0)], rfl, by decide⟩
  rintro d μ ⟨bs, p2, rfl, hbs, hbz, rfl, hp2⟩
  walk_at "pp"
  refine se_for (ie_list ?_)
  walk_at "pp"
  refine oo_addL (by show 2 + _ ≤ _; omega) ?_
  refine ⟨_, .inl rfl, ?_⟩
  refine ⟨rfl, fun i δ μ => ∃ x5 : Option D, δ = [some (.own 0), some (.lst l), some (.int (wd : Int)), some (.lst [.lst ((winsOf l wd).map winD), .lst (ps.map winD)]), some (.lst bs), x5, none, none, none, none] ∧ μ = [.lst p2], ⟨none, rfl, rfl⟩, ?_, ?_⟩
  · rintro i x δ μ hi ⟨x5, rfl, rfl⟩
    have hx : Wl x := by
      rcases List.mem_append.mp (List.mem_of_getElem? hi) with h | h
      · simp only [List.mem_cons, List.not_mem_nil, or_false] at h
        rcases h with rfl | rfl
        · exact ⟨_, rfl, by omega⟩
        · exact ⟨_, rfl, by omega⟩
      · exact hbs x h
    obtain ⟨q, rfl, hqz⟩ := hx
    refine ge_name ?_
    walk_at "pp"
    refine ask_same (.lst [.str (Str.ofString "told"), .bl (brk (zc l) l.length wd q)]) rfl rfl ?_
    walk_at "pp"
    refine ee_lst ?_
    walk_at "pp"
    refine ee_cz ?_
    walk_at "pp"
    refine ⟨(l, wd, q), ⟨hc, hw, by show q.length ≤ _; omega⟩, rfl, ?_, ?_⟩
    · show (D.ltL 0 l && (true && (D.ltL 0 (q.map winD) && true))) = true
      rw [hcc, wins_cl]
      rfl
    rintro r rfl
    walk_at "pp"
    refine ask_heard (1, .lst l, .int (wd : Int), .lst (q.map winD)) (asks1 hc (by omega) (br_pre bre_wins (by rw [List.length_map]; omega))) ?_
    walk_at "pp"
    refine ee_lst ?_
    walk_at "pp"
    refine ⟨rfl, ?_⟩
    rw [ans1_ok hc hw, isBr_wins]
    walk_at "pp"
    refine ⟨rfl, ?_⟩
    walk_at "pp"
    exact rfl
  rintro δ μ ⟨x5, rfl, rfl⟩
  walk_at "pp"
  refine oo_ixL (d := .lst ((winsOf l wd).map winD)) rfl ?_
  generalize hws : winsOf l wd = ws at *
  have hwz2 : (ws.map winD).length ≤ 600 := by rw [List.length_map]; omega
  have hBw : ∀ x ∈ ws.map winD, BrE x := bre_wins
  refine se_seq (se_asg (EE.imp (C := fun d μ => ∃ os, d = .lst os ∧ (∀ x ∈ os, OddB x) ∧ os.length ≤ 10 ∧ μ = [.lst p2]) ?_ ?_))
  · walk_at "pp"
    refine ee_lst ?_
    walk_at "pp"
    refine cc_tuple (.lst _) ?_
    walk_at "pp"
    refine ee_dnew ?_
    walk_at "pp"
    refine ee_lst ?_
    walk_at "pp"
    refine oo_addL (by show _ + 1 ≤ _; omega) ?_
    walk_at "pp"
    refine ee_lst ?_
    walk_at "pp"
    refine oo_addL (by show _ + 1 ≤ _; omega) ?_
    walk_at "pp"
    refine ee_lst ?_
    walk_at "pp"
    refine oo_addL (by show _ + 1 ≤ _; omega) ?_
    walk_at "pp"
    refine ee_lc (ie_list ?_)
    walk_at "pp"
    refine ⟨_, .inl rfl, fun _ h => h, trivial, fun _ => true, asL, by omega, fun x hx _ => ?_, fun x acc hx => ?_, ?_⟩
    · obtain ⟨q, _, rfl⟩ := List.mem_map.mp hx
      rfl
    · obtain ⟨q, _, rfl⟩ := List.mem_map.mp hx
      refine gw_name (by decide) ?_
      refine et_yes ?_
      refine ⟨rfl, rfl, fun _ => ?_⟩
      walk_at "pp"
      refine cc_list (.tup _) ?_
      exact ⟨rfl, rfl⟩
    rw [List.filter_eq_self.mpr fun _ _ => rfl]
    walk_at "pp"
    refine ee_lst ?_
    walk_at "pp"
    refine ee_lst ?_
    walk_at "pp"
    refine ee_lst ?_
    walk_at "pp"
    refine oo_eqPy0 wins_py (by decide) ?_
    rw [List.isEmpty_map]
    walk_at "pp"
    refine cc_intB ?_
    rw [show (if ws.isEmpty = true then (1 : Int) else 0) = ((if ws.isEmpty = true then 1 else 0 : Nat) : Int) by split <;> rfl]
    refine oo_repL (by split <;> decide) (by split <;> decide) ?_
    have h9 := last9 (ws := ws) (by omega)
    refine oo_addL (by rw [List.length_map, List.length_flatten, List.map_replicate, List.sum_replicate_nat]; show _ + _ * 1 ≤ _; split <;> omega) ?_
    walk_at "pp"
    refine ⟨fun x hx => ?_, by exact Nat.le_of_ble_eq_true rfl, rfl⟩
    simp only [List.mem_cons, List.not_mem_nil, or_false] at hx
    have hbW : ∀ {y : D}, BrE y → ∀ c ∈ ws.map winD ++ [y], BrE c := fun h => bre_app hBw (bre_one h)
    have hzW : ∀ {y : D}, (ws.map winD ++ [y]).length ≤ 100000 := fun {y} => by rw [List.length_append]; show _ + 1 ≤ _; omega
    have hmW : ∀ {y : D}, y ∈ ws.map winD ++ [y] := List.mem_append_right _ List.mem_cons_self
    rcases hx with rfl | rfl | rfl | rfl | rfl | rfl | rfl | rfl | rfl
    · exact odd_flat ⟨rfl, rfl⟩ fun l e => by cases e
    · exact odd_flat ⟨rfl, wins_cl (m := 0)⟩ fun l e => by cases e
    · exact odd_flat ⟨rfl, rfl⟩ fun l e => by cases e
    · exact odd_flat ⟨rfl, rfl⟩ fun l e => by cases e
    · exact odd_flat ⟨rfl, rfl⟩ fun l e => by cases e
    · exact odd_lst (hbW (bre_flat rfl rfl fun m e => by cases e)) hzW hmW rfl
    · exact odd_lst (hbW ⟨rfl, rfl, fun m e y hy => by cases e; rw [List.mem_singleton.mp hy]; rfl⟩) hzW hmW rfl
    · exact odd_lst (hbW (bre_flat rfl rfl fun m e => by cases e)) hzW hmW rfl
    · exact h9
  rintro d μ ⟨os, rfl, hos, hoz, rfl⟩
  refine se_seq (se_to (fun δ μ => ∃ os : List D, δ = [some (.own 0), some (.lst l), some (.int (wd : Int)), some (.lst [.lst (ws.map winD), .lst (ps.map winD)]), some (.lst bs), x5, some (.lst (ws.map winD)), some (.lst os), none, none] ∧ μ = [.lst p2] ∧ (∀ x ∈ os, OddB x) ∧ os.length ≤ 20) ?_ ?_)
  · walk_at "pp"
    refine ee_lst ?_
    walk_at "pp"
    refine oo_nePy0 wins_py (by decide) ?_
    rw [List.isEmpty_map]
    walk_at "pp"
    refine ⟨fun hb => ?_, fun hb => ?_⟩
    · have hne : ws ≠ [] := by
        rintro rfl
        cases hb
      obtain ⟨q0, ws', e⟩ := List.exists_cons_of_ne_nil hne
      have eW : ws.map winD = winD q0 :: ws'.map winD := by rw [e]; rfl
      obtain ⟨qz, hqz⟩ : ∃ q, (winD q0 :: ws'.map winD).getLast? = some (winD q) := by
        rw [List.getLast?_eq_some_getLast (List.cons_ne_nil _ _)]
        obtain ⟨q, _, e⟩ := List.mem_map.mp (show (winD q0 :: ws'.map winD).getLast (List.cons_ne_nil _ _) ∈ ws.map winD by rw [eW]; exact List.getLast_mem _)
        exact ⟨q, by rw [e]⟩
      have hlast : (winD q0 :: ws'.map winD)[(winD q0 :: ws'.map winD).length - 1]? = some (winD qz) := by rw [← List.getLast?_eq_getElem?]; exact hqz
      have hdl : ∀ x ∈ (winD q0 :: ws'.map winD).dropLast, BrE x := fun x hx => hBw x (by rw [eW]; exact List.dropLast_subset _ hx)
      have hdz : (winD q0 :: ws'.map winD).dropLast.length ≤ 600 := by rw [List.length_dropLast, ← eW]; omega
      have htl : ∀ x ∈ (winD q0 :: ws'.map winD).drop 1, BrE x := fun x hx => hBw x (by rw [eW]; exact List.mem_of_mem_drop hx)
      have htz : ((winD q0 :: ws'.map winD).drop 1).length ≤ 600 := by rw [List.length_drop, ← eW]; omega
      obtain ⟨qa, qb⟩ := qz
      obtain ⟨qc, qd⟩ := q0
      walk_at "pp"
      refine ee_lst ?_
      walk_at "pp"
      refine ss_lst ?_
      rw [eW, cutD_last]
      walk_at "pp"
      refine ee_lst ?_
      walk_at "pp"
      refine oo_ixL (atI_neg (j := 1) (by decide) (Nat.succ_le_succ (Nat.zero_le _)) hlast) ?_
      walk_at "pp"
      refine oo_addT (by exact Nat.le_of_ble_eq_true rfl) ?_
      walk_at "pp"
      refine oo_addL (by show _ + 1 ≤ _; omega) ?_
      walk_at "pp"
      refine ee_lst ?_
      walk_at "pp"
      refine oo_ixL (d := winD (qc, qd)) (atI_of (j := 0) rfl rfl) ?_
      walk_at "pp"
      refine oo_ixT (d := .int (qd : Int)) rfl ?_
      walk_at "pp"
      refine ss_lst ?_
      rw [show ∀ L : List D, cutD L (some 1) none = L.drop 1 from fun L => cutD_n0 (j := 1)]
      refine oo_addL (by show 1 + _ ≤ _; omega) ?_
      walk_at "pp"
      refine ss_lst ?_
      rw [cutD_last]
      walk_at "pp"
      refine ee_lst ?_
      walk_at "pp"
      refine oo_ixL (atI_neg (j := 1) (by decide) (Nat.succ_le_succ (Nat.zero_le _)) hlast) ?_
      walk_at "pp"
      refine oo_ixT (d := .int (qa : Int)) rfl ?_
      walk_at "pp"
      refine oo_addL (by show _ + 1 ≤ _; omega) ?_
      walk_at "pp"
      refine oo_addL (by show _ + 3 ≤ _; omega) ?_
      walk_at "pp"
      refine ⟨rfl, fun x hx => ?_, by rw [List.length_append]; show _ + 3 ≤ _; omega⟩
      rcases List.mem_append.mp hx with hx | hx
      · exact hos x hx
      · have hz1 : ∀ {y : D}, ((winD (qc, qd) :: ws'.map winD).dropLast ++ [y]).length ≤ 100000 := fun {y} => by rw [List.length_append]; show _ + 1 ≤ _; omega
        simp only [List.mem_cons, List.not_mem_nil, or_false] at hx
        rcases hx with rfl | rfl | rfl
        · exact odd_lst (bre_app hdl (bre_one ⟨rfl, rfl, fun m e y hy => by cases e; simp only [List.cons_append, List.nil_append, List.mem_cons, List.not_mem_nil, or_false] at hy; rcases hy with rfl | rfl | rfl <;> rfl⟩)) hz1 (List.mem_append_right _ List.mem_cons_self) rfl
        · exact odd_lst (bre_app (bre_one ⟨rfl, rfl, fun m e y hy => by cases e; simp only [List.mem_cons, List.not_mem_nil, or_false] at hy; rcases hy with rfl | rfl <;> rfl⟩) htl) (by rw [List.length_append]; show 1 + _ ≤ _; omega) (List.mem_append_left _ List.mem_cons_self) rfl
        · exact odd_lst (bre_app hdl (bre_one ⟨rfl, rfl, fun m e y hy => by cases e; simp only [List.mem_cons, List.not_mem_nil, or_false] at hy; rcases hy with rfl | rfl <;> rfl⟩)) hz1 (List.mem_append_right _ List.mem_cons_self) (by show (isCtN 0 (.int (qa : Int)) && isCtN 0 .non) = false; exact Bool.and_false _)
    · walk_at "pp"
      exact ⟨rfl, hos, by omega⟩
  rintro δ μ ⟨os, rfl, rfl, hos, hoz⟩
  walk_at "pp"
  refine se_for (ie_list ?_)
  walk_at "pp"
  refine ⟨_, .inl rfl, ?_⟩
  refine ⟨rfl, fun i δ μ => ∃ x9 : Option D, δ = [some (.own 0), some (.lst l), some (.int (wd : Int)), some (.lst [.lst (ws.map winD), .lst (ps.map winD)]), some (.lst bs), x5, some (.lst (ws.map winD)), some (.lst os), none, x9] ∧ μ = [.lst p2], ⟨none, rfl, rfl⟩, ?_, ?_⟩
  · rintro i x δ μ hi ⟨x9, rfl, rfl⟩
    have hx := hos x (List.mem_of_getElem? hi)
    refine ge_name ?_
    walk_at "pp"
    refine ask_same (.lst [.str (Str.ofString "told"), .bl false]) rfl rfl ?_
    walk_at "pp"
    refine ee_lst ?_
    walk_at "pp"
    refine ask_heard (1, .lst l, .int (wd : Int), x) (asks1 hc (by omega) hx.p) ?_
    walk_at "pp"
    refine ee_lst ?_
    walk_at "pp"
    refine ⟨rfl, ?_⟩
    rw [ans1_ok hc hw, hx.no]
    walk_at "pp"
    refine ⟨rfl, ?_⟩
    walk_at "pp"
    exact rfl
  rintro δ μ ⟨x9, rfl, rfl⟩
  walk_at "pp"
  walk_at "gp"
  exact gave_drawn (n := n + 2000) (P := fun d => d = .bl true) hS (by rfl) rfl hp2
end


section
variable {P : Program} {w : World} {K : PySem.W.Frag} {mg : Str → Option Value} {base : Heap} {a : Ad} {f : Addr} {fd : FuncData}
theorem toks_ints : ∀ {L M : List Nat}, PyProof.Rows.lexLt PyProof.Rows.itemOrd (PySem.W.keyToksAll (M.map fun (i : Nat) => PyData.int (i : Int))) (PySem.W.keyToksAll (L.map fun (i : Nat) => PyData.int (i : Int))) = gtB L M
  | [], [] => rfl
  | [], y :: M => rfl
  | x :: L, [] => rfl
  | x :: L, y :: M => by
    have ih := toks_ints (L := L) (M := M)
    show PyProof.Rows.lexLt PyProof.Rows.itemOrd (.inl 1 :: .inl (y : Int) :: PySem.W.keyToksAll (M.map fun (i : Nat) => PyData.int (i : Int))) (.inl 1 :: .inl (x : Int) :: PySem.W.keyToksAll (L.map fun (i : Nat) => PyData.int (i : Int))) = if x = y then gtB L M else decide (y < x)
    rw [PyProof.Rows.lex_self (O := PyProof.Rows.itemOrd)]
    by_cases h : x = y
    · subst h
      rw [PyProof.Rows.lex_self (O := PyProof.Rows.itemOrd), if_pos rfl, ih]
    · rw [PyProof.Rows.lex_diff (O := PyProof.Rows.itemOrd) (fun e => h (by injection e with e; omega)), if_neg h]
      show decide ((y : Int) < (x : Int)) = _
      exact decide_eq_decide.mpr (by omega)
theorem alike_ints : ∀ {L M : List Nat}, PySem.W.alikeAll (L.map fun (i : Nat) => PyData.int (i : Int)) (M.map fun (i : Nat) => PyData.int (i : Int)) = true
  | [], _ => by cases ‹List Nat› <;> rfl
  | _ :: _, [] => rfl
  | x :: L, y :: M => by
    show (true && PySem.W.alikeAll _ _) = true
    rw [alike_ints]
    rfl
theorem oo_gtInts {S : Bs} {μ : List Cell} {C : D → List Cell → Prop} {L M : List Nat} (k : C (.bl (gtB L M)) μ) : OO K S (rGtD K) (.lst (L.map intD)) (.lst (M.map intD)) μ C := by
  have py : ∀ {L : List Nat}, D.py (.lst (L.map intD)) = some (.list (L.map fun (i : Nat) => PyData.int (i : Int))) := fun {L} => by
    show (D.pyAll (L.map intD)).map PyData.list = _
    rw [pyAll_ints]
    rfl
  refine oo_gtD py py alike_ints (fun z => by cases z) ?_ ?_
  · show min (PySem.PyData.depthAll _ + 1) (PySem.PyData.depthAll _ + 1) ≤ 60
    rw [lay_ints.2, lay_ints.2]
    decide
  · show C (.bl (PyProof.Rows.lexLt PyProof.Rows.itemOrd (PySem.W.keyToksAll _) (PySem.W.keyToksAll _))) μ
    rw [toks_ints]
    exact k
theorem oo_shl {S : Bs} {μ : List Cell} {C : D → List Cell → Prop} {i j : Int} (h : CPow i j) (k : C (.int (i * 2 ^ j.toNat)) μ) : OO K S (rI CPow fun i j => .int (i * 2 ^ j.toNat)) (.int i) (.int j) μ C := oo_I (g := fun i j => .int (i * 2 ^ j.toNat)) h k
theorem oo_shr {S : Bs} {μ : List Cell} {C : D → List Cell → Prop} {i j : Int} (h : 0 ≤ j) (k : C (.int (i / 2 ^ j.toNat)) μ) : OO K S (rI (fun _ j => 0 ≤ j) fun i j => .int (i / 2 ^ j.toNat)) (.int i) (.int j) μ C := oo_I (g := fun i j => .int (i / 2 ^ j.toNat)) h k
theorem oo_odd {S : Bs} {μ : List Cell} {C : D → List Cell → Prop} {n : Nat} (k : C (.int ((n % 2 : Nat) : Int)) μ) : OO K S (fun x y H (Q : VK) => ∃ n : Nat, x = .int (n : Int) ∧ y = .int 1 ∧ Q (.int ((n % 2 : Nat) : Int)) H) (.int (n : Int)) (.int 1) μ C := oo_same (fun _ _ q => ⟨n, rfl, rfl, q⟩) k
theorem zip_wins : ∀ {L M : List Nat}, zipD (L.map intD) (M.map intD) = (L.zip M).map winD
  | [], _ => rfl
  | _ :: _, [] => rfl
  | x :: L, y :: M => by
    show .tup [intD x, intD y] :: zipD (L.map intD) (M.map intD) = _
    rw [zip_wins]
    rfl
theorem rep_ints {n m : Nat} : (List.replicate n [D.int (m : Int)]).flatten = (List.replicate n m).map intD := by
  induction n with
  | zero => rfl
  | succ n ih =>
    rw [List.replicate_succ, List.flatten_cons, ih]
    rfl
theorem lasts {ps : List (Nat × Nat)} : (((ps.map winD).filter fun _ => true).map fun x => intD (nI x 1)) = (ps.map (·.2)).map intD := by
  rw [List.filter_eq_self.mpr fun _ _ => rfl, List.map_map, List.map_map]
  rfl
abbrev spFirst (K : PySem.W.Frag) : Sp := ProP K (T := List D × Nat) (fun t => [.lst t.1, .int (t.2 : Int)]) (fun t => CellL t.1 ∧ t.1.length ≤ 8 ∧ 0 < t.2 ∧ t.2 ≤ 80) (fun _ d => d = .bl true) (fun _ _ _ => False)
abbrev st__law_first_of_all : Stmt := top 51
abbrev nm__law_first_of_all : List Str := ["cells", "width", "best", "pick", "ends", "at", "windows", "one", "other", "first", "last"]
theorem sc__law_first_of_all : FnScope nm__law_first_of_all ["cells", "width"] (defScope st__law_first_of_all) := ⟨rfl, rfl, rfl, by decide +kernel, rfl, by decide +kernel, by decide +kernel⟩
theorem ok_first (F : Fun K "_law_first_of_all" "_law_first_of_all" st__law_first_of_all f fd) (T : Tx P w K mg base a) (c__law_greedy : CalX P w K mg base 1 "_law_greedy" ["cells", "width"] (spWins K)) (c__law_is_breaking : CalX P w K mg base 1 "_law_is_breaking" ["cells", "width", "windows"] (spLBreaking K)) : FnOk P w K mg base (L2.CX P w) 2 f fd ["cells", "width"] (spFirst K) := by
  refine F.okX sc__law_first_of_all (fun vs H Q E h => pro_len h fun _ => rfl) (fun cdv A outer s H vs Q E hr h => ⟨_, (pss_cons (ps_set (i := 2) sc__law_first_of_all.nd rfl (by first | exact Or.inl rfl | exact Or.inr rfl) (pe_c c__law_greedy hr (by first | decide | exact Nat.le_refl _) rfl (passes_call (takes_of rfl rfl rfl rfl) (fun _ _ _ _ h => h)) (pa_cons (pv 0) (pa_cons (pv 1) pa_nil))))
    (pss_cons (ps_for (passes_of rfl) rfl (pi_range1 rfl T.b_range (pa_cons (pe_op op_shl pe_int (pe_callB (call_max2 rfl) (by rfl) T.b_max (by decide +kernel) (pa_cons pe_int (pa_cons (pe_op op_sub (pe_callB (kC K rLenU rfl call_lenU) (by rfl) T.b_len (by decide +kernel) (pa_cons (pv 0) pa_nil)) pe_int) pa_nil)))) pa_nil)) (pg_name (i := 3) sc__law_first_of_all.nd rfl (by first | exact Or.inl rfl | exact Or.inr rfl))
      (pss_cons (ps_set (i := 4) sc__law_first_of_all.nd rfl (by first | exact Or.inl rfl | exact Or.inr rfl) (pe_op (kO K rPlus rfl op_plus) (pe_op (kO K rPlus rfl op_plus) (pe_lst (pa_cons pe_int pa_nil)) (pe_lc (own := [("at", 5)]) (g := (gName 5)) rfl sc__law_first_of_all.nd (pi_range2 rfl T.b_range (pa_cons pe_int (pa_cons (pe_callB (kC K rLenU rfl call_lenU) (by rfl) T.b_len (by decide +kernel) (pa_cons (pv 0) pa_nil)) pa_nil))) (blkOk_by (own := [("at", 5)]) (N := nm__law_first_of_all) (sc := (defScope st__law_first_of_all)) (by decide +kernel)) (fun _ _ _ _ _ => (pg_name (i := 5) sc__law_first_of_all.nd rfl (by first | exact Or.inl rfl | exact Or.inr rfl))) (fun _ _ _ _ _ => (pts_one (pt_cmpR (kO K rEqU rfl (op_eqU (hu64 hr))) (pe_op op_odd (pe_op op_shr (pv 3) (pe_op op_sub (pv 5) pe_int)) pe_int) pe_int (nomark _)))) (fun _ _ _ _ _ => (pv 5)))) (pe_op op_timesU (pe_lst (pa_cons (pe_callB (kC K rLenU rfl call_lenU) (by rfl) T.b_len (by decide +kernel) (pa_cons (pv 0) pa_nil)) pa_nil)) (pe_callTy call_int1 (by rfl) T.b_int (by decide +kernel) (pa_cons (pe_cmpR (kO K rNeU rfl (op_neU (hu64 hr))) (pv 0) (pe_lst pa_nil) (nomark _)) pa_nil)))))
    (pss_cons (ps_setLc (i := 6) (own := [("one", 7), ("other", 8)]) (tt := tYes) (g := (gTup K 2 (gCons (gName 7) (gCons (gName 8) gNil)))) rfl sc__law_first_of_all.nd rfl rfl (sw_true rfl rfl rfl (by decide +kernel)) (pi_zipAK (K := K) rfl (by rfl) T.b_zip (pa_cons (pv 4) (pa_cons (pe_slice (kS K rSlU rfl sl_U) (pv 4) (po_some pe_int) po_none) pa_nil))) (blkOk_by (own := [("one", 7), ("other", 8)]) (N := nm__law_first_of_all) (sc := (defScope st__law_first_of_all)) (by decide +kernel)) (fun _ _ _ _ _ => (pg_tupK (K := K) rfl rfl (pgs_cons (pg_name (i := 7) sc__law_first_of_all.nd rfl (by first | exact Or.inl rfl | exact Or.inr rfl)) (pgs_cons (pg_name (i := 8) sc__law_first_of_all.nd rfl (by first | exact Or.inl rfl | exact Or.inr rfl)) pgs_nil)))) (fun _ _ _ _ _ => pts_nil) (fun _ _ _ _ _ => (pe_tup (pa_cons (pv 7) (pa_cons (pv 8) pa_nil)))))
    (pss_one (ps_if (pt_val (pe_c c__law_is_breaking hr (by first | decide | exact Nat.le_refl _) rfl (passes_call (takes_of rfl rfl rfl rfl) (fun _ _ _ _ h => h)) (pa_cons (pv 0) (pa_cons (pv 1) (pa_cons (pv 6) pa_nil))))) (pss_one (ps_if (PW.pt (pw_or (pt_cmpR op_less (pe_callB (kC K rLenU rfl call_lenU) (by rfl) T.b_len (by decide +kernel) (pa_cons (pv 6) pa_nil)) (pe_callB (kC K rLenU rfl call_lenU) (by rfl) T.b_len (by decide +kernel) (pa_cons (pv 2) pa_nil)) (nomark _)) (pw_or1 (pt_cmpR (kO K rGtD rfl (op_gtD (hu64 hr))) (pe_lc (own := [("first", 9), ("last", 10)]) (tt := tYes) (g := (gTup K 2 (gCons (gName 9) (gCons (gName 10) gNil)))) rfl sc__law_first_of_all.nd (pi_listK (K := K) rfl (pv 6)) (blkOk_by (own := [("first", 9), ("last", 10)]) (N := nm__law_first_of_all) (sc := (defScope st__law_first_of_all)) (by decide +kernel)) (fun _ _ _ _ _ => (pg_tupK (K := K) rfl rfl (pgs_cons (pg_name (i := 9) sc__law_first_of_all.nd rfl (by first | exact Or.inl rfl | exact Or.inr rfl)) (pgs_cons (pg_name (i := 10) sc__law_first_of_all.nd rfl (by first | exact Or.inl rfl | exact Or.inr rfl)) pgs_nil)))) (fun _ _ _ _ _ => pts_nil) (fun _ _ _ _ _ => (pv 10))) (pe_lc (own := [("first", 9), ("last", 10)]) (tt := tYes) (g := (gTup K 2 (gCons (gName 9) (gCons (gName 10) gNil)))) rfl sc__law_first_of_all.nd (pi_listK (K := K) rfl (pv 2)) (blkOk_by (own := [("first", 9), ("last", 10)]) (N := nm__law_first_of_all) (sc := (defScope st__law_first_of_all)) (by decide +kernel)) (fun _ _ _ _ _ => (pg_tupK (K := K) rfl rfl (pgs_cons (pg_name (i := 9) sc__law_first_of_all.nd rfl (by first | exact Or.inl rfl | exact Or.inr rfl)) (pgs_cons (pg_name (i := 10) sc__law_first_of_all.nd rfl (by first | exact Or.inl rfl | exact Or.inr rfl)) pgs_nil)))) (fun _ _ _ _ _ => pts_nil) (fun _ _ _ _ _ => (pv 10))) (nomark _))))) (pss_one (ps_ret pe_bl)) pss_nil)) pss_nil)))))
    (pss_one (ps_ret pe_bl)))), run_body h fun ⟨l, wd⟩ S ⟨hc, hlz, hw, hwz⟩ hl hcl wi => ?_⟩)
  have hl : S.A.length = 0 := hl
  have hc : CellL l := hc
  have hlz : l.length ≤ 8 := hlz
  have hw : 0 < wd := hw
  have hwz : wd ≤ 80 := hwz
  have hcc : D.ltL 0 l = true := cells_cl hc.2
  have hwl := wins_len (l := l) hw
  have hI : ∀ c ∈ l, IntB c := fun c hcm => by
    obtain ⟨i, rfl, _⟩ := hc.2 c hcm
    exact .inl ⟨_, rfl⟩
  walk_at "pp"
  refine ee_czS ?_
  walk_at "pp"
  refine ⟨(l, wd), ⟨hc, hw, by show wd ≤ _; omega⟩, rfl, by show (D.ltL 0 l && (true && true)) = true; rw [hcc]; rfl, ?_⟩
  rintro ws rfl _
  dsimp only
  rw [show wins (zc l) l.length wd = winsOf l wd from rfl]
  walk_at "pp"
  refine se_for (ie_rng1 ?_)
  walk_at "pp"
  refine cc_len (.lst _) ?_
  walk_at "pp"
  rw [show (if (l.length : Int) - 1 > 0 then (l.length : Int) - 1 else 0) = ((l.length - 1 : Nat) : Int) by split <;> omega]
  refine oo_shl ⟨by omega, by omega, by decide⟩ ?_
  rw [Int.toNat_natCast, show (1 : Int) * 2 ^ (l.length - 1) = ((2 ^ (l.length - 1) : Nat) : Int) by rw [Int.one_mul, Int.natCast_pow]; rfl]
  have h2 : 2 ^ (l.length - 1) ≤ 2 ^ 7 := Nat.pow_le_pow_right (by decide) (by omega)
  have h3 : (2 : Nat) ^ 7 = 128 := by decide
  generalize 2 ^ (l.length - 1) = pw at *
  walk_at "pp"
  refine ⟨by omega, by omega, ?_⟩
  rw [Int.toNat_natCast]
  refine ⟨rfl, fun i δ μ => ∃ x3 x4 x6 : Option D, δ = [some (.lst l), some (.int (wd : Int)), some (.lst ((winsOf l wd).map winD)), x3, x4, none, x6, none, none, none, none] ∧ μ = [], ⟨none, none, none, rfl, rfl⟩, ?_, ?_⟩
  · rintro i x δ μ hi ⟨x3, x4, x6, rfl, rfl⟩
    obtain ⟨hi2, rfl⟩ := rng_get hi
    rw [show (0 : Int) + (i : Int) = ((i : Nat) : Int) by omega]
    refine ge_name ?_
    refine se_seq (se_asg (EE.imp (C := fun d μ => ∃ es : List Nat, d = .lst (es.map intD) ∧ es.length ≤ 10 ∧ μ = []) ?_ ?_))
    · walk_at "pp"
      refine ee_lst ?_
      walk_at "pp"
      refine ee_lc (ie_rng2 ?_)
      walk_at "pp"
      refine cc_len (.lst _) ?_
      walk_at "pp"
      refine ⟨⟨by decide, by decide, by omega, by omega⟩, fun _ h => h, trivial, fun x => decide ((i / 2 ^ (dotN x - 1)) % 2 = 1), fun x => x, by rw [rng_len]; omega, fun x hx _ => ?_, fun x acc hx => ?_, ?_⟩
      · obtain ⟨j, hj⟩ := List.getElem?_of_mem hx
        obtain ⟨_, rfl⟩ := rng_get hj
        rfl
      · obtain ⟨j, hj⟩ := List.getElem?_of_mem hx
        obtain ⟨hj2, rfl⟩ := rng_get hj
        refine gw_name (by decide) ?_
        walk_at "pp"
        refine oo_shr (by omega) ?_
        rw [show (1 : Int) + (j : Int) - 1 = ((j : Nat) : Int) by omega, Int.toNat_natCast, show (i : Int) / 2 ^ j = ((i / 2 ^ j : Nat) : Int) by rw [Int.natCast_ediv, Int.natCast_pow]; rfl]
        walk_at "pp"
        refine oo_odd ?_
        walk_at "pp"
        rw [int_eq]
        refine ⟨?_, rfl, fun _ => ?_⟩
        · show _ = decide ((i / 2 ^ (dotN (.int ((1 : Int) + (j : Int))) - 1)) % 2 = 1)
          rw [show dotN (.int ((1 : Int) + (j : Int))) - 1 = j by show ((1 : Int) + (j : Int)).toNat - 1 = j; omega]
          exact decide_eq_decide.mpr (by omega)
        · walk_at "pp"
          exact ⟨rfl, rfl⟩
      rw [List.map_id', show (1 : Int) = ((1 : Nat) : Int) from rfl, rng_nat, List.filter_map]
      have hfl := List.length_filter_le ((fun x => decide ((i / 2 ^ (dotN x - 1)) % 2 = 1)) ∘ intD) (List.range' 1 (((l.length : Int) - ((1 : Nat) : Int)).toNat))
      rw [List.length_range'] at hfl
      generalize List.filter ((fun x => decide ((i / 2 ^ (dotN x - 1)) % 2 = 1)) ∘ intD) (List.range' 1 (((l.length : Int) - ((1 : Nat) : Int)).toNat)) = mids at *
      refine oo_addL (by rw [List.length_map]; show 1 + _ ≤ _; omega) ?_
      walk_at "pp"
      refine ee_lst ?_
      walk_at "pp"
      refine cc_len (.lst _) ?_
      walk_at "pp"
      refine ee_lst ?_
      walk_at "pp"
      refine oo_neI0 hI ?_
      walk_at "pp"
      refine cc_intB ?_
      rw [show (if (!l.isEmpty) = true then (1 : Int) else 0) = ((if l.isEmpty then 0 else 1 : Nat) : Int) by cases l.isEmpty <;> rfl]
      have hb1 : (if l.isEmpty then 0 else 1 : Nat) ≤ 1 := by split <;> omega
      generalize (if l.isEmpty then 0 else 1 : Nat) = rp at *
      walk_at "pp"
      refine oo_repL (by omega) (by show 1 * rp ≤ _; omega) ?_
      walk_at "pp"
      rw [rep_ints]
      refine oo_addL (by rw [List.length_append, List.length_map, List.length_map, List.length_replicate]; show 1 + _ + _ ≤ _; omega) ?_
      refine ⟨[0] ++ mids ++ List.replicate rp l.length, ?_, ?_, rfl⟩
      · rw [List.map_append, List.map_append]
        rfl
      · rw [List.length_append, List.length_append, List.length_replicate]
        show 1 + _ + _ ≤ _
        omega
    rintro d μ ⟨es, rfl, hes, rfl⟩
    refine se_seq (se_asg (EE.imp (C := fun d μ => d = .lst ((es.zip (es.drop 1)).map winD) ∧ μ = []) ?_ ?_))
    · refine ee_lc (ie_zipA ?_)
      walk_at "pp"
      refine ss_lst ?_
      rw [show (1 : Int) = ((1 : Nat) : Int) from rfl, cutD_n0, ← List.map_drop]
      walk_at "pp"
      refine ⟨_, _, .inl rfl, fun _ h => h, trivial, fun _ => true, fun x => x, by rw [zip_wins, List.length_map, List.length_zip, List.length_drop]; omega, fun x hx _ => by rw [zip_wins] at hx; obtain ⟨⟨u, v⟩, _, rfl⟩ := List.mem_map.mp hx; rfl, fun x acc hx => ?_, ?_⟩
      · rw [zip_wins] at hx
        obtain ⟨⟨u, v⟩, _, rfl⟩ := List.mem_map.mp hx
        refine gw_pair (by decide) (by decide) ?_
        walk_at "pp"
        refine ⟨rfl, rfl, fun _ => ?_⟩
        walk_at "pp"
        exact ⟨rfl, rfl⟩
      · rw [zip_wins, List.map_id', List.filter_eq_self.mpr fun _ _ => rfl]
        exact ⟨rfl, rfl⟩
    rintro d μ ⟨rfl, rfl⟩
    have hps : (es.zip (es.drop 1)).length ≤ 10 := by rw [List.length_zip, List.length_drop]; omega
    generalize es.zip (es.drop 1) = ps at *
    walk_at "pp"
    refine ee_cz ?_
    walk_at "pp"
    refine ⟨(l, wd, ps), ⟨hc, hw, by show ps.length ≤ _; omega⟩, rfl, by show (D.ltL 0 l && (true && (D.ltL 0 (ps.map winD) && true))) = true; rw [hcc, wins_cl]; rfl, ?_⟩
    rintro r ⟨rfl, _⟩
    dsimp only
    cases hbr : brk (zc l) l.length wd ps with
    | false =>
      walk_at "pp"
      exact ⟨_, _, _, rfl, rfl⟩
    | true =>
      have hbest := best hw hbr
      walk_at "pp"
      refine cc_len (.lst _) ?_
      walk_at "pp"
      refine cc_len (.lst _) ?_
      walk_at "pp"
      have hge : (wins (zc l) l.length wd).length ≤ ps.length := hbest.1
      rw [List.length_map, List.length_map, decide_eq_false (by show ¬ ((ps.length : Int) < ((wins (zc l) l.length wd).length : Int)); omega)]
      refine ⟨fun h => absurd h (by decide), fun _ => ?_⟩
      walk_at "pp"
      refine ee_lc (ie_list ?_)
      walk_at "pp"
      refine ⟨_, .inl rfl, fun _ h => h, trivial, fun _ => true, fun x => intD (nI x 1), by rw [List.length_map]; omega, fun _ _ _ => rfl, fun x acc hx => ?_, ?_⟩
      · obtain ⟨⟨u, v⟩, _, rfl⟩ := List.mem_map.mp hx
        refine gw_pair (by decide) (by decide) ?_
        refine et_yes ?_
        refine ⟨rfl, rfl, fun _ => ?_⟩
        walk_at "pp"
        exact ⟨rfl, rfl⟩
      rw [lasts]
      walk_at "pp"
      refine ee_lc (ie_list ?_)
      walk_at "pp"
      refine ⟨_, .inl rfl, fun _ h => h, trivial, fun _ => true, fun x => intD (nI x 1), by rw [List.length_map]; omega, fun _ _ _ => rfl, fun x acc hx => ?_, ?_⟩
      · obtain ⟨⟨u, v⟩, _, rfl⟩ := List.mem_map.mp hx
        refine gw_pair (by decide) (by decide) ?_
        refine et_yes ?_
        refine ⟨rfl, rfl, fun _ => ?_⟩
        walk_at "pp"
        exact ⟨rfl, rfl⟩
      rw [lasts]
      walk_at "pp"
      refine oo_gtInts ?_
      rw [show gtB (ps.map (·.2)) ((winsOf l wd).map (·.2)) = false from hbest.2]
      refine ⟨false, rfl, fun h => absurd h (by decide), fun _ => ?_⟩
      walk_at "pp"
      exact ⟨_, _, _, rfl, rfl⟩
  · rintro δ μ ⟨x3, x4, x6, rfl, rfl⟩
    walk_at "pp"
    walk_at "gp"
    exact gaveP hl (by rfl) rfl
end


section
variable {P : Program} {w : World} {K : PySem.W.Frag} {mg : Str → Option Value} {base : Heap} {a : Ad} {f : Addr} {fd : FuncData}
section
variable {S : Bs} {δ : Sl} {μ : List Cell} {C : D → List Cell → Prop} {ta : TA} {E : XK}
theorem ask_exact (h : EA K S ta δ μ fun ds μ1 => ∃ (x y t : D), ds = [x, y] ∧ x.sub (rdC μ1) = t ∧ y.sub (rdC μ1) = t ∧ exOk 7 t = true ∧ t.lt 0 = true ∧ C (.bl true) μ1) : EE K S (tCall (spExact K 7) [] E ta) δ μ C :=
  ee_czB fun A G H σ a' Q q => h A G H σ a' Q fun vs ds A1 G1 H1 μ1 m n r ⟨x, y, t, e, h1, h2, h3, h4, c⟩ => q vs ds A1 G1 H1 μ1 m n r (by
    subst e
    refine ⟨t, h3, ?_, by show (t.lt 0 && (t.lt 0 && true)) = true; rw [h4]; rfl, fun d hd => by subst hd; exact ⟨_, rfl, c⟩⟩
    show [x.sub (rdC μ1), y.sub (rdC μ1)] = [t, t]
    rw [h1, h2])
theorem ask_told {T : Type} {arg : T → List D} {pre : T → Prop} {ans : T → Out} (t : T) (r : D) (hp : pre t) (he : ans t = .told r) (hcl : D.ltL 0 (arg t) = true) (h : EA K S ta δ μ fun ds μ1 => ds = arg t ∧ C r μ1) : EE K S (tCall (ProP K arg pre (fun t r => Told (ans t) r) (fun t c d => Bad a (ans t) c d)) [] E ta) δ μ C :=
  ee_c0 (CE := fun _ _ _ => False) Wi.none fun A G H σ a' Q q => h A G H σ a' Q fun vs ds A1 G1 H1 μ1 m n r' ⟨e, c⟩ => q vs ds A1 G1 H1 μ1 m n r' (by
    subst e
    refine ⟨t, hp, List.append_nil _, hcl, fun d hd _ => ?_, fun c' d ⟨k, z, _⟩ _ => ?_⟩
    · have hd : ans t = .told d := hd
      rw [he] at hd
      cases hd
      exact c
    · have z : ans t = .bad k d := z
      rw [he] at z
      cases z)
theorem ask_toldP {T : Type} {arg : T → List D} {pre : T → Prop} {ans : T → Out} {π : List Nat} {n : Nat} (t : T) (r : D) (hp : pre t) (he : ans t = .told r) (hcl : D.ltL 0 (arg t) = true) (h : EA K S ta δ μ fun ds μ1 => ds.length = n ∧ permL π ds = arg t ∧ C r μ1) : EE K S (tCallP (ProP K arg pre (fun t r => Told (ans t) r) (fun t c d => Bad a (ans t) c d)) π n E ta) δ μ C :=
  ee_callP (CE := fun _ _ _ => False) Wi.none fun A G H σ a' Q q => h A G H σ a' Q fun vs ds A1 G1 H1 μ1 m n r' ⟨e0, e, c⟩ => q vs ds A1 G1 H1 μ1 m n r' (by
    refine ⟨e0, t, hp, e, hcl, fun d hd _ => ?_, fun c' d ⟨k, z, _⟩ _ => ?_⟩
    · have hd : ans t = .told d := hd
      rw [he] at hd
      cases hd
      exact c
    · have z : ans t = .bad k d := z
      rw [he] at z
      cases z)
end
mutual
theorem sub_cl {g : Nat → Option (List D)} : ∀ {d : D}, d.lt 0 = true → d.sub g = d
  | .v _, _ => rfl
  | .own k, h => absurd (of_decide_eq_true (show decide (k < 0) = true from h)) (Nat.not_lt_zero k)
  | .lst l, h => congrArg D.lst (subL_cl h)
  | .rd l, h => congrArg D.rd (subL_cl h)
  | .tup l, h => congrArg D.tup (subL_cl h)
  | .dic ks l, h => congrArg (D.dic ks) (subL_cl h)
  | .exc c d, h => congrArg (D.exc c) (sub_cl h)
theorem subL_cl {g : Nat → Option (List D)} : ∀ {l : List D}, D.ltL 0 l = true → D.subL g l = l
  | [], _ => rfl
  | d :: l, h => by
    have h : (D.lt 0 d && D.ltL 0 l) = true := h
    rw [Bool.and_eq_true] at h
    show D.sub g d :: D.subL g l = d :: l
    rw [sub_cl h.1, subL_cl h.2]
end
theorem own_sub {μ : List Cell} {k : Nat} {l : List D} (hk : μ[k]? = some (.lst l)) : (D.own k).sub (rdC μ) = .lst l := by
  show (match rdC μ k with | some l => D.lst l | none => .own k) = .lst l
  unfold rdC
  rw [hk]
theorem wins_ex {ws : List (Nat × Nat)} (hz : ws.length ≤ 1000000) {n : Nat} : exOk (n + 3) (.lst (ws.map winD)) = true := by
  show (decide ((ws.map winD).length ≤ 1000000) && (ws.map winD).all (fun x => exOk (n + 2) x)) = true
  rw [List.length_map, decide_eq_true hz, Bool.true_and, List.all_eq_true]
  intro x hx
  obtain ⟨p, _, rfl⟩ := List.mem_map.mp hx
  rfl
theorem cl_py {l : List D} (hc : CellL l) : Py 1 (.lst l) := py_lst fun c hcm => by
  obtain ⟨i, rfl, _⟩ := hc.2 c hcm
  exact py_int
theorem in_nat {n g : Nat} (h : g < n) : inB 0 (some n) (.int (g : Int)) = true := by
  show (decide (((0 : Nat) : Int) ≤ (g : Int)) && decide ((g : Int) < (n : Int))) = true
  rw [decide_eq_true (by omega), decide_eq_true (by omega)]
  rfl
theorem in_one {m : Nat} (h : 0 < m) : inB 1 none (.int (m : Int)) = true := by
  show (decide (((1 : Nat) : Int) ≤ (m : Int)) && true) = true
  rw [decide_eq_true (by omega)]
  rfl
theorem ans0_ok {l : List D} {n : Nat} (hc : CellL l) (hn : 0 < n) : ansW0 (.lst l) (.int (n : Int)) = .told (.lst ((winsOf l n).map winD)) := by
  unfold ansW0 cwO
  rw [cO_in hc, if_neg (by rw [ct_nat hn]; exact fun z => by cases z), dot_nat]
  rfl
theorem ans2_ok {l : List D} {n g : Nat} (hc : CellL l) (hn : 0 < n) (hg : g < l.length) : ansW2 (.lst l) (.int (n : Int)) (.int (g : Int)) = .told (.int ((idxW (winsOf l n) g : Nat) : Int)) := by
  unfold ansW2 cwO
  rw [cO_in hc, if_neg (by rw [ct_nat hn]; exact fun z => by cases z), if_neg (by rw [show lstOf (.lst l) = l from rfl, in_nat hg]; exact fun z => by cases z), dot_nat, dot_nat]
  rfl
theorem ans3_ok {l : List D} {m : Nat} (hc : CellL l) (hm : 0 < m) : ansW3 (.lst l) (.int (m : Int)) = .told (.int ((lwid (zc l) l.length m : Nat) : Int)) := by
  unfold ansW3
  rw [cO_in hc, if_neg (by rw [in_one hm]; exact fun z => by cases z), dot_nat]
  rfl
theorem asks2 {l : List D} {n g : Nat} (hc : CellL l) (hz : n ≤ 1000000) : Asks (2, .lst l, .int (n : Int), .int (g : Int)) := ⟨show (2 : Nat) < 4 by decide, cells_pre hc, wd_pre hz, int_cl, fun h => absurd h (by show ¬ (2 : Nat) = 1; decide)⟩
theorem asks3 {l : List D} {n g : Nat} (hc : CellL l) (hz : n ≤ 1000000) : Asks (3, .lst l, .int (n : Int), .int (g : Int)) := ⟨show (3 : Nat) < 4 by decide, cells_pre hc, wd_pre hz, int_cl, fun h => absurd h (by show ¬ (3 : Nat) = 1; decide)⟩
theorem least_first {z : Nat → Bool} {n m : Nat} : ∃ t, ((List.range' 1 n).filter fun w => decide ((wins z n w).length ≤ m)).take 1 ++ [1] = lwid z n m :: t := by
  have e : (List.range n).map (fun i => i + 1) = List.range' 1 n := by
    rw [List.range'_eq_map_range]
    exact List.map_congr_left fun i _ => by omega
  unfold lwid
  rw [e, ← List.head?_filter]
  cases (List.range' 1 n).filter fun w => decide ((wins z n w).length ≤ m) with
  | nil => exact ⟨[], rfl⟩
  | cons x t => exact ⟨[1], rfl⟩
abbrev spRight (K : PySem.W.Frag) : Sp := spDrawn K 100000000 (T := List D × Nat) (fun t => [.lst t.1, .int (t.2 : Int)]) (fun t => CellL t.1 ∧ t.1.length ≤ 600 ∧ 0 < t.2 ∧ t.2 ≤ 80) (fun _ d => d = .bl true) 2000
abbrev st__law_right : Stmt := top 52
abbrev nm__law_right : List Str := ["purse", "cells", "width", "due", "handed", "turn", "told", "at", "window", "first", "last", "many", "least", "wide"]
theorem sc__law_right : FnScope nm__law_right ["purse", "cells", "width"] (defScope st__law_right) := ⟨rfl, rfl, rfl, by decide +kernel, rfl, by decide +kernel, by decide +kernel⟩
theorem ok_right (F : Fun K "_law_right" "_law_right" st__law_right f fd) (T : Tx P w K mg base a) (c__law_greedy : CalX P w K mg base 1 "_law_greedy" ["cells", "width"] (spWins K)) (c2_windows_of : CalX P w K mg base 5 "windows_of" ["cells", "width"] (spWinsN K)) (k_windows_of_width_cells : CalK P w K mg base 5 "windows_of" ["cells", "width"] ["width", "cells"] [1, 0] (spWinsN K)) (c__law_exact : CalX P w K mg base 8 "_law_exact" ["mine", "theirs"] (spExact K 7)) (c__law_some : CalX P w K mg base 3 "_law_some" ["purse", "many", "most"] (spSome K)) (c__law_heard : CalX P w K mg base 7 "_law_heard" ["way", "args"] (spHeard K))
    (k_window_at_at_width_cells : CalK P w K mg base 5 "window_at" ["cells", "width", "at"] ["at", "width", "cells"] [2, 1, 0] (spWindowAt K a)) (k_least_width_many_cells : CalK P w K mg base 5 "least_width" ["cells", "many"] ["many", "cells"] [1, 0] (spLeast K a)) (k_is_breaking_value_width_cells : CalK P w K mg base 5 "is_breaking" ["cells", "width", "value"] ["value", "width", "cells"] [2, 1, 0] (spBreaking K a)) : FnOk P w K mg base (L2.CX P w) 9 f fd ["purse", "cells", "width"] (spRight K) := by
  refine F.okX sc__law_right (fun vs H Q E h => pro_len h fun _ => rfl) (fun cdv A outer s H vs Q E hr h => ⟨_, (pss_cons (ps_par (i := 3) (j := 4) rfl sc__law_right.nd rfl rfl (by decide) rfl rfl (pa_cons (pe_c c__law_greedy hr (by first | decide | exact Nat.le_refl _) rfl (passes_call (takes_of rfl rfl rfl rfl) (fun _ _ _ _ h => h)) (pa_cons (pv 1) (pa_cons (pv 2) pa_nil))) (pa_cons (pe_callTy (kC K rListOf rfl call_listOf) (by rfl) T.b_list (by decide +kernel) (pa_cons (pv 1) pa_nil)) pa_nil)) (by rfl))
    (pss_cons (ps_for (passes_of rfl) rfl (pi_range1 rfl T.b_range (pa_cons pe_int pa_nil)) (pg_name (i := 5) sc__law_right.nd rfl (by first | exact Or.inl rfl | exact Or.inr rfl))
      (pss_cons (ps_set (i := 6) sc__law_right.nd rfl (by first | exact Or.inl rfl | exact Or.inr rfl) (pe_ifExp (pt_cmpR (kO K rEqU rfl (op_eqU (hu64 hr))) (pv 5) pe_int (nomark _)) (pe_c c2_windows_of hr (by first | decide | exact Nat.le_refl _) rfl (passes_call (takes_of rfl rfl rfl rfl) (fun _ _ _ _ h => h)) (pa_cons (pv 4) (pa_cons (pv 2) pa_nil))) (pe_ck0 (k_windows_of_width_cells) hr (by first | decide | exact Nat.le_refl _) rfl (passes_call (takes_of rfl rfl rfl rfl) (fun _ _ _ _ h => h)) (pk_cons (pv 2) (pk_cons (pv 4) pk_nil)))))
    (pss_cons (ps_if (PW.pt (pw_or (pt_not (pt_val (pe_c c__law_exact hr (by first | decide | exact Nat.le_refl _) rfl (passes_call (takes_of rfl rfl rfl rfl) (fun _ _ _ _ h => h)) (pa_cons (pv 3) (pa_cons (pv 6) pa_nil))))) (pw_or1 (pt_cmpR (kO K rNeU rfl (op_neU (hu64 hr))) (pv 4) (pv 1) (nomark _))))) (pss_one (ps_ret pe_bl)) pss_nil)
    (pss_one (ps_expr (pe_bmK (K := K) rfl PySem.F.plainAttrs_list PySem.F.slot_list_append PySem.F.type_list_append mt_append (pv 6) (pa_cons (pe_tup (pa_cons pe_int (pa_cons pe_int pa_nil))) pa_nil)))))))
    (pss_cons (ps_for (passes_of rfl) rfl (pi_listK (K := K) rfl (pe_c c__law_some hr (by first | decide | exact Nat.le_refl _) rfl (passes_call (takes_of rfl rfl rfl rfl) (fun _ _ _ _ h => h)) (pa_cons (pv 0) (pa_cons (pe_callB (kC K rLenU rfl call_lenU) (by rfl) T.b_len (by decide +kernel) (pa_cons (pv 1) pa_nil)) (pa_cons pe_int pa_nil))))) (pg_name (i := 7) sc__law_right.nd rfl (by first | exact Or.inl rfl | exact Or.inr rfl))
      (pss_cons (ps_set (i := 8) sc__law_right.nd rfl (by first | exact Or.inl rfl | exact Or.inr rfl) (pe_bmK (K := K) rfl PySem.F.plainAttrs_list PySem.F.slot_list_index PySem.F.type_list_index (kM K rIndex rfl mt_index) (pe_lc (own := [("first", 9), ("last", 10)]) (tt := tYes) (g := (gTup K 2 (gCons (gName 9) (gCons (gName 10) gNil)))) rfl sc__law_right.nd (pi_listK (K := K) rfl (pv 3)) (blkOk_by (own := [("first", 9), ("last", 10)]) (N := nm__law_right) (sc := (defScope st__law_right)) (by decide +kernel)) (fun _ _ _ _ _ => (pg_tupK (K := K) rfl rfl (pgs_cons (pg_name (i := 9) sc__law_right.nd rfl (by first | exact Or.inl rfl | exact Or.inr rfl)) (pgs_cons (pg_name (i := 10) sc__law_right.nd rfl (by first | exact Or.inl rfl | exact Or.inr rfl)) pgs_nil)))) (fun _ _ _ _ _ => pts_nil) (fun _ _ _ _ _ => (pe_chain op_leq op_less (pv 9) (pv 7) (pv 10)))) (pa_cons pe_bl pa_nil)))
    (pss_one (ps_if (PW.pt (pw_or (pt_not (pt_val (pe_c c__law_exact hr (by first | decide | exact Nat.le_refl _) rfl (passes_call (takes_of rfl rfl rfl rfl) (fun _ _ _ _ h => h)) (pa_cons (pe_lst (pa_cons pe_str (pa_cons (pv 8) pa_nil))) (pa_cons (pe_c c__law_heard hr (by first | decide | exact Nat.le_refl _) rfl (passes_call (takes_of rfl rfl rfl rfl) (fun _ _ _ _ h => h)) (pa_cons pe_int (pa_cons (pe_lst (pa_cons (pv 1) (pa_cons (pv 2) (pa_cons (pv 7) pa_nil)))) pa_nil))) pa_nil))))) (pw_or1 (pt_not (pt_val (pe_c c__law_exact hr (by first | decide | exact Nat.le_refl _) rfl (passes_call (takes_of rfl rfl rfl rfl) (fun _ _ _ _ h => h)) (pa_cons (pv 8) (pa_cons (pe_ck0 (k_window_at_at_width_cells) hr (by first | decide | exact Nat.le_refl _) rfl (passes_call (takes_of rfl rfl rfl rfl) (fun _ _ _ _ h => h)) (pk_cons (pv 7) (pk_cons (pv 2) (pk_cons (pv 1) pk_nil)))) pa_nil)))))))) (pss_one (ps_ret pe_bl)) pss_nil))))
    (pss_cons (ps_for (passes_of rfl) rfl (pi_listK (K := K) rfl (pe_slice (kS K rSlU rfl sl_U) (pe_lst (pa_cons pe_int (pa_cons (pe_op (kO K rPlus rfl op_plus) (pe_callB (kC K rLenU rfl call_lenU) (by rfl) T.b_len (by decide +kernel) (pa_cons (pv 3) pa_nil)) pe_int) (pa_cons (pe_callB (call_max2 rfl) (by rfl) T.b_max (by decide +kernel) (pa_cons pe_int (pa_cons (pe_callB (kC K rLenU rfl call_lenU) (by rfl) T.b_len (by decide +kernel) (pa_cons (pv 3) pa_nil)) pa_nil))) (pa_cons (pe_callB (call_max2 rfl) (by rfl) T.b_max (by decide +kernel) (pa_cons pe_int (pa_cons (pe_op op_fdivW (pe_callB (kC K rLenU rfl call_lenU) (by rfl) T.b_len (by decide +kernel) (pa_cons (pv 3) pa_nil)) pe_int) pa_nil))) pa_nil))))) po_none (po_some (pe_ifExp (pt_cmpR op_gt (pe_callB (kC K rLenU rfl call_lenU) (by rfl) T.b_len (by decide +kernel) (pa_cons (pv 1) pa_nil)) pe_int (nomark _)) pe_int pe_int)))) (pg_name (i := 11) sc__law_right.nd rfl (by first | exact Or.inl rfl | exact Or.inr rfl))
      (pss_cons (ps_set (i := 12) sc__law_right.nd rfl (by first | exact Or.inl rfl | exact Or.inr rfl) (pe_ifExp (pt_cmpR op_less (pe_callB (kC K rLenU rfl call_lenU) (by rfl) T.b_len (by decide +kernel) (pa_cons (pv 1) pa_nil)) pe_int (nomark _)) (pe_slice (kS K rSlU rfl sl_U) (pe_lc (own := [("wide", 13)]) (g := (gName 13)) rfl sc__law_right.nd (pi_range2 rfl T.b_range (pa_cons pe_int (pa_cons (pe_op (kO K rPlus rfl op_plus) (pe_callB (kC K rLenU rfl call_lenU) (by rfl) T.b_len (by decide +kernel) (pa_cons (pv 1) pa_nil)) pe_int) pa_nil))) (blkOk_by (own := [("wide", 13)]) (N := nm__law_right) (sc := (defScope st__law_right)) (by decide +kernel)) (fun _ _ _ _ _ => (pg_name (i := 13) sc__law_right.nd rfl (by first | exact Or.inl rfl | exact Or.inr rfl))) (fun _ _ _ _ _ => (pts_one (pt_cmpR op_leq (pe_callB (kC K rLenU rfl call_lenU) (by rfl) T.b_len (by decide +kernel) (pa_cons (pe_c c__law_greedy hr (by first | decide | exact Nat.le_refl _) rfl passL (pa_cons (pv 1) (pa_cons (pv 13) pa_nil))) pa_nil)) (pv 11) (nomark _)))) (fun _ _ _ _ _ => (pv 13))) po_none (po_some pe_int)) (pe_lst pa_nil)))
    (pss_cons (ps_if (PW.pt (pw_and (pt_cmpR op_less (pe_callB (kC K rLenU rfl call_lenU) (by rfl) T.b_len (by decide +kernel) (pa_cons (pv 1) pa_nil)) pe_int (nomark _)) (pw_and1 (pt_not (pt_val (pe_c c__law_exact hr (by first | decide | exact Nat.le_refl _) rfl (passes_call (takes_of rfl rfl rfl rfl) (fun _ _ _ _ h => h)) (pa_cons (pe_lst (pa_cons pe_str (pa_cons (pe_ix (kX K rIx rfl ix_seq) (pe_op (kO K rPlus rfl op_plus) (pv 12) (pe_lst (pa_cons pe_int pa_nil))) pe_int (fun _ _ => rfl)) pa_nil))) (pa_cons (pe_c c__law_heard hr (by first | decide | exact Nat.le_refl _) rfl (passes_call (takes_of rfl rfl rfl rfl) (fun _ _ _ _ h => h)) (pa_cons pe_int (pa_cons (pe_lst (pa_cons (pv 1) (pa_cons (pv 2) (pa_cons (pv 11) pa_nil)))) pa_nil))) pa_nil)))))))) (pss_one (ps_ret pe_bl)) pss_nil)
    (pss_one (ps_if (PW.pt (pw_and (pt_cmpR op_less (pe_callB (kC K rLenU rfl call_lenU) (by rfl) T.b_len (by decide +kernel) (pa_cons (pv 1) pa_nil)) pe_int (nomark _)) (pw_and1 (pt_not (pt_val (pe_c c__law_exact hr (by first | decide | exact Nat.le_refl _) rfl (passes_call (takes_of rfl rfl rfl rfl) (fun _ _ _ _ h => h)) (pa_cons (pe_lst (pa_cons (pe_ix (kX K rIx rfl ix_seq) (pe_op (kO K rPlus rfl op_plus) (pv 12) (pe_lst (pa_cons pe_int pa_nil))) pe_int (fun _ _ => rfl)) (pa_cons pe_bl pa_nil))) (pa_cons (pe_lst (pa_cons (pe_ck0 (k_least_width_many_cells) hr (by first | decide | exact Nat.le_refl _) rfl (passes_call (takes_of rfl rfl rfl rfl) (fun _ _ _ _ h => h)) (pk_cons (pv 11) (pk_cons (pv 1) pk_nil))) (pa_cons (pe_ck0 (k_is_breaking_value_width_cells) hr (by first | decide | exact Nat.le_refl _) rfl (passes_call (takes_of rfl rfl rfl rfl) (fun _ _ _ _ h => h)) (pk_cons (pe_callTy (kC K rListOf rfl call_listOf) (by rfl) T.b_list (by decide +kernel) (pa_cons (pv 3) pa_nil)) (pk_cons (pv 2) (pk_cons (pv 1) pk_nil)))) pa_nil))) pa_nil)))))))) (pss_one (ps_ret pe_bl)) pss_nil)))))
    (pss_one (ps_ret pe_bl)))))), run_body h fun ⟨p, n, l, wd⟩ S ⟨hp, hn, ⟨hc, hlz, hw, hwz⟩, _⟩ hl hcl wi => ?_⟩)
  have hp : PuOk n p := hp
  have hn : n ≤ 100000000 := hn
  have hc : CellL l := hc
  have hlz : l.length ≤ 600 := hlz
  have hw : 0 < wd := hw
  have hwz : wd ≤ 80 := hwz
  have hS : S.A.length = 1 := hl
  have hcc : D.ltL 0 l = true := cells_cl hc.2
  have hwl := wins_len (l := l) hw
  have hI : ∀ c ∈ l, IntB c := fun c hcm => by
    obtain ⟨i, rfl, _⟩ := hc.2 c hcm
    exact .inl ⟨_, rfl⟩
  walk_at "pp"
  refine se_par ?_
  walk_at "pp"
  refine ee_czS ?_
  walk_at "pp"
  refine ⟨(l, wd), ⟨hc, hw, by show wd ≤ _; omega⟩, rfl, by show (D.ltL 0 l && (true && true)) = true; rw [hcc]; rfl, ?_⟩
  rintro ws rfl _
  dsimp only
  rw [show wins (zc l) l.length wd = winsOf l wd from rfl]
  walk_at "pp"
  refine cc_list (.lst _) ?_
  refine ea_nil ?_
  refine ⟨_, _, rfl, ?_⟩
  have hwe : exOk 7 (.lst ((winsOf l wd).map winD)) = true := wins_ex (by omega)
  have hwc : (D.lst ((winsOf l wd).map winD)).lt 0 = true := wins_cl (m := 0)
  generalize hws : winsOf l wd = ws at *
  refine se_seq (se_for (ie_rng1 ?_))
  walk_at "pp"
  refine ⟨by decide, by decide, ?_⟩
  refine ⟨rfl, fun i δ μ => ∃ (x5 x6 : Option D) (rest : List Cell), δ = [some (.own 0), some (.lst l), some (.int (wd : Int)), some (.lst (ws.map winD)), some (.lst l), x5, x6, none, none, none, none, none, none, none] ∧ μ = .lst p :: rest, ⟨none, none, [], rfl, rfl⟩, ?_, ?_⟩
  · rintro i x δ μ hi ⟨x5, x6, rest, rfl, rfl⟩
    obtain ⟨hi2, rfl⟩ := rng_get hi
    refine ge_name ?_
    refine se_seq (se_asg (EE.imp (C := fun d μ' => d = .own (rest.length + 1) ∧ μ' = .lst p :: (rest ++ [.lst (ws.map winD)])) ?_ ?_))
    · walk_at "pp"
      refine ⟨fun _ => ?_, fun _ => ?_⟩
      · walk_at "pp"
        refine ee_czN ?_
        walk_at "pp"
        refine ⟨(l, wd), ⟨hc, hw, by show wd ≤ _; omega⟩, rfl, by show (D.ltL 0 l && (true && true)) = true; rw [hcc]; rfl, ?_⟩
        rintro v rfl _
        dsimp only
        rw [hws]
        exact ⟨rfl, rfl⟩
      · walk_at "pp"
        refine ee_kw2 (ee_czN ?_)
        walk_at "pp"
        refine ⟨(l, wd), ⟨hc, hw, by show wd ≤ _; omega⟩, rfl, by show (D.ltL 0 l && (true && true)) = true; rw [hcc]; rfl, ?_⟩
        rintro v rfl _
        dsimp only
        rw [hws]
        exact ⟨rfl, rfl⟩
    rintro d μ ⟨rfl, rfl⟩
    have ht : (Cell.lst p :: (rest ++ [.lst (ws.map winD)]))[rest.length + 1]? = some (.lst (ws.map winD)) := by simp
    walk_at "pp"
    refine ask_exact ?_
    walk_at "pp"
    refine ⟨_, _, .lst (ws.map winD), rfl, by rw [sub_cl hwc], own_sub ht, hwe, hwc, ?_⟩
    walk_at "pp"
    refine oo_neSelf (cl_py hc) (by decide) ?_
    refine ⟨false, rfl, fun h => absurd h (by decide), fun _ => ?_⟩
    walk_at "pp"
    refine ee_bm ?_
    walk_at "pp"
    refine ⟨.lst (.own ht), ?_⟩
    walk_at "pp"
    refine mm_append (k := rest.length + 1) ht (by rw [List.length_map]; omega) ?_
    walk_at "pp"
    exact ⟨_, _, rest ++ [.lst (ws.map winD ++ [winD (0, 0)])], rfl, by simp; rfl⟩
  rintro δ μ ⟨x5, x6, rest, rfl, rfl⟩
  refine se_seq (se_for (ie_list ?_))
  walk_at "pp"
  refine ask_drawn 0 ?_
  walk_at "pp"
  refine cc_len (.lst _) ?_
  walk_at "pp"
  refine ⟨l.length, p, n, rfl, rfl, hp, by omega, by show l.length ≤ _; omega, rfl, fun d p1 hd _ hp1 => ?_⟩
  obtain ⟨L, rfl, hL, hLz⟩ := hd
  have hL : ∀ i ∈ L, i < l.length := hL
  refine ⟨_, .inl rfl, ?_⟩
  refine ⟨rfl, fun i δ μ => ∃ (x7 x8 : Option D), δ = [some (.own 0), some (.lst l), some (.int (wd : Int)), some (.lst (ws.map winD)), some (.lst l), x5, x6, x7, x8, none, none, none, none, none] ∧ μ = .lst p1 :: rest, ⟨none, none, rfl, rfl⟩, ?_, ?_⟩
  · rintro i x δ μ hi ⟨x7, x8, rfl, rfl⟩
    rw [List.getElem?_map] at hi
    obtain ⟨g, hg, rfl⟩ := Option.map_eq_some_iff.mp hi
    have hg := hL g (List.mem_of_getElem? hg)
    have hgx := wins_at (l := l) (w := wd) hw hg
    have ha2 := ans2_ok (g := g) hc hw hg
    rw [hws] at hgx ha2
    obtain ⟨pw, h1, h2, h3⟩ := idx_at hgx
    refine ge_name ?_
    walk_at "pp"
    refine ee_bm ?_
    refine ee_lc (ie_list ?_)
    walk_at "pp"
    refine ⟨_, .inl rfl, fun _ h => h, trivial, fun _ => true, fun x => .bl (decide (nI x 0 ≤ g) && decide (g < nI x 1)), by rw [List.length_map]; omega, fun _ _ _ => rfl, fun x acc hx => ?_, ?_⟩
    · obtain ⟨⟨u, v⟩, _, rfl⟩ := List.mem_map.mp hx
      have e0 : nI (winD (u, v)) 0 = u := Int.toNat_natCast _
      have e1 : nI (winD (u, v)) 1 = v := Int.toNat_natCast _
      refine gw_pair (by decide) (by decide) ?_
      refine et_yes ?_
      refine ⟨rfl, rfl, fun _ => ?_⟩
      walk_at "pp"
      refine ⟨fun hb => ?_, fun hb => ?_⟩
      · have hb : ¬ (u : Int) ≤ (g : Int) := of_decide_eq_false hb
        refine ⟨?_, rfl⟩
        show _ = D.bl (decide (nI (winD (u, v)) 0 ≤ g) && _)
        rw [e0, decide_eq_false (by omega)]
        rfl
      · have hb : (u : Int) ≤ (g : Int) := of_decide_eq_true hb
        walk_at "pp"
        refine ⟨?_, rfl⟩
        show _ = D.bl (decide (nI (winD (u, v)) 0 ≤ g) && decide (g < nI (winD (u, v)) 1))
        rw [e0, e1, decide_eq_true (show u ≤ g by omega)]
        exact congrArg D.bl (decide_eq_decide.mpr (by omega))
    rw [show (((ws.map winD).filter fun _ => true).map fun x => D.bl (decide (nI x 0 ≤ g) && decide (g < nI x 1))) = (ws.map fun q => V.bl (decide (q.1 ≤ g) && decide (g < q.2))).map D.v by
      rw [List.filter_eq_self.mpr fun _ _ => rfl, List.map_map, List.map_map]
      refine List.map_congr_left fun q _ => ?_
      show D.bl (decide (((q.1 : Nat) : Int).toNat ≤ g) && decide (g < ((q.2 : Nat) : Int).toNat)) = _
      rw [Int.toNat_natCast, Int.toNat_natCast]
      rfl]
    walk_at "pp"
    refine ⟨.lst (.lst _), ?_⟩
    walk_at "pp"
    refine mm_index (z := .bl true) (j := idxW ws g) (.lst _) rfl (List.all_eq_true.mpr fun x hx => by obtain ⟨q, _, rfl⟩ := List.mem_map.mp hx; rfl) (by rw [List.getElem?_map, h1]; exact congrArg (fun b => some (V.bl b)) h2) rfl (fun m z' hm hz' => ?_) ?_
    · rw [List.getElem?_map] at hz'
      obtain ⟨q, hq, rfl⟩ := Option.map_eq_some_iff.mp hz'
      rw [h3 m q hm hq]
      rfl
    walk_at "pp"
    refine ask_same (.lst [.str (Str.ofString "told"), .int ((idxW ws g : Nat) : Int)]) rfl rfl ?_
    walk_at "pp"
    refine ee_lst ?_
    walk_at "pp"
    refine ask_heard (2, .lst l, .int (wd : Int), .int (g : Int)) (asks2 hc (by omega)) ?_
    walk_at "pp"
    refine ee_lst ?_
    walk_at "pp"
    refine ⟨rfl, ?_⟩
    rw [show ansQ (2, .lst l, .int (wd : Int), .int (g : Int)) = _ from ha2]
    walk_at "pp"
    refine ⟨rfl, ?_⟩
    walk_at "pp"
    refine ask_same (.int ((idxW ws g : Nat) : Int)) rfl rfl ?_
    walk_at "pp"
    refine ask_toldP (ans := fun t : D × D × D => ansW2 t.1 t.2.1 t.2.2) (.lst l, .int (wd : Int), .int (g : Int)) _ ⟨cells_pre hc, wd_pre (by omega), int_cl⟩ ha2 (by show (D.ltL 0 l && (true && (true && true))) = true; rw [hcc]; rfl) ?_
    walk_at "pp"
    refine ⟨rfl, rfl, ?_⟩
    walk_at "pp"
    refine ⟨rfl, ?_⟩
    walk_at "pp"
    rfl
  rintro δ μ ⟨x7, x8, rfl, rfl⟩
  have hn1 : (ws.length : Int) / 2 = ((ws.length / 2 : Nat) : Int) := by omega
  refine se_seq (se_for (ie_list ?_))
  refine EE.imp (C := fun d μ => ∃ M : List Nat, d = .lst (M.map intD) ∧ (∀ m ∈ M, 0 < m ∧ m ≤ 1000) ∧ M.length ≤ 4 ∧ μ = .lst p1 :: rest) ?_ ?_
  · walk_at "pp"
    refine ee_lst ?_
    walk_at "pp"
    refine cc_len (.lst _) ?_
    walk_at "pp"
    refine cc_len (.lst _) ?_
    walk_at "pp"
    refine cc_len (.lst _) ?_
    walk_at "pp"
    rw [List.length_map]
    refine oo_div ⟨by omega, by decide⟩ ?_
    rw [hn1]
    have fin : ∀ (j : Nat) (ν : List Cell), ν = Cell.lst p1 :: rest → ∃ M : List Nat, D.lst (cutD (D.int 1 :: D.int ((ws.length : Int) + 1) :: D.int (if (ws.length : Int) > 1 then (ws.length : Int) else 1) :: D.int (if ((ws.length / 2 : Nat) : Int) > 1 then ((ws.length / 2 : Nat) : Int) else 1) :: []) none (some (j : Int))) = .lst (M.map intD) ∧ (∀ m ∈ M, 0 < m ∧ m ≤ 1000) ∧ M.length ≤ 4 ∧ ν = Cell.lst p1 :: rest := fun j ν e => by
      refine ⟨[1, ws.length + 1, if ws.length > 1 then ws.length else 1, if ws.length / 2 > 1 then ws.length / 2 else 1].take j, ?_, fun m hm => ?_, ?_, e⟩
      · rw [cutD_0n, List.map_take]
        refine congrArg (fun l => D.lst (List.take j l)) ?_
        show [_, _, _, _] = [D.int ((1 : Nat) : Int), D.int ((ws.length + 1 : Nat) : Int), D.int ((if ws.length > 1 then ws.length else 1 : Nat) : Int), D.int ((if ws.length / 2 > 1 then ws.length / 2 else 1 : Nat) : Int)]
        have e1 : (if (ws.length : Int) > 1 then (ws.length : Int) else 1) = ((if ws.length > 1 then ws.length else 1 : Nat) : Int) := by split <;> split <;> omega
        have e2 : (if ((ws.length / 2 : Nat) : Int) > 1 then ((ws.length / 2 : Nat) : Int) else 1) = ((if ws.length / 2 > 1 then ws.length / 2 else 1 : Nat) : Int) := by split <;> split <;> omega
        rw [e1, e2]
        rfl
      · have hm := List.mem_of_mem_take hm
        simp only [List.mem_cons, List.not_mem_nil, or_false] at hm
        rcases hm with rfl | rfl | rfl | rfl
        · omega
        · omega
        · split <;> omega
        · split <;> omega
      · rw [List.length_take]
        exact Nat.min_le_right _ _
    walk_at "pp"
    refine cc_len (.lst _) ?_
    walk_at "pp"
    refine ⟨fun _ => ?_, fun _ => ?_⟩
    · walk_at "pp"
      refine ss_lst (fin 2 _ rfl)
    · walk_at "pp"
      refine ss_lst (fin 4 _ rfl)
  rintro d μ ⟨M, rfl, hM, hMz, rfl⟩
  refine ⟨_, .inl rfl, ?_⟩
  refine ⟨rfl, fun i δ μ => ∃ (x9 x10 x11 : Option D), δ = [some (.own 0), some (.lst l), some (.int (wd : Int)), some (.lst (ws.map winD)), some (.lst l), x5, x6, x7, x8, none, none, x9, x10, x11] ∧ μ = .lst p1 :: rest, ⟨none, none, none, rfl, rfl⟩, ?_, ?_⟩
  · rintro i x δ μ hi ⟨x9, x10, x11, rfl, rfl⟩
    rw [List.getElem?_map] at hi
    obtain ⟨m, hm, rfl⟩ := Option.map_eq_some_iff.mp hi
    obtain ⟨hm0, hmz⟩ := hM m (List.mem_of_getElem? hm)
    have ha3 := ans3_ok (m := m) hc hm0
    refine ge_name ?_
    by_cases hlen : l.length < 99
    · obtain ⟨t, het⟩ := least_first (z := zc l) (n := l.length) (m := m)
      generalize hk : ((List.range' 1 l.length).filter fun w => decide ((wins (zc l) l.length w).length ≤ m)).take 1 = K1 at *
      have hk1 : K1.length ≤ 1 := by rw [← hk, List.length_take]; exact Nat.min_le_left _ _
      generalize hlw : lwid (zc l) l.length m = lw at *
      refine se_seq (se_asg (EE.imp (C := fun d μ => d = .lst (K1.map intD) ∧ μ = .lst p1 :: rest) ?_ ?_))
      · walk_at "pp"
        refine cc_len (.lst _) ?_
        walk_at "pp"
        refine ⟨fun _ => ?_, fun h => absurd h (by rw [decide_eq_true (by omega)]; decide)⟩
        walk_at "pp"
        refine ee_lc (ie_rng2 ?_)
        walk_at "pp"
        refine cc_len (.lst _) ?_
        walk_at "pp"
        refine ⟨⟨by decide, by decide, by omega, by omega⟩, fun _ h => h, trivial, fun x => decide ((wins (zc l) l.length (dotN x)).length ≤ m), fun x => x, by rw [rng_len]; omega, fun x hx _ => ?_, fun x acc hx => ?_, ?_⟩
        · obtain ⟨j, hj⟩ := List.getElem?_of_mem hx
          obtain ⟨_, rfl⟩ := rng_get hj
          rfl
        · obtain ⟨j, hj⟩ := List.getElem?_of_mem hx
          obtain ⟨hj2, rfl⟩ := rng_get hj
          rw [show (1 : Int) + (j : Int) = ((j + 1 : Nat) : Int) by omega]
          refine gw_name (by decide) ?_
          walk_at "pp"
          refine ee_czS ?_
          walk_at "pp"
          refine ⟨(l, j + 1), ⟨hc, Nat.succ_pos j, by show j + 1 ≤ _; omega⟩, rfl, by show (D.ltL 0 l && (true && true)) = true; rw [hcc]; rfl, ?_⟩
          rintro v rfl _
          dsimp only
          walk_at "pp"
          refine cc_len (.lst _) ?_
          rw [List.length_map]
          walk_at "pp"
          refine ⟨?_, rfl, fun _ => ?_⟩
          · show _ = decide ((wins (zc l) l.length (dotN (.int ((j + 1 : Nat) : Int)))).length ≤ m)
            rw [dot_nat]
            exact decide_eq_decide.mpr (by omega)
          · walk_at "pp"
            exact ⟨rfl, rfl⟩
        walk_at "pp"
        refine ss_lst ?_
        rw [List.map_id', show (1 : Int) = ((1 : Nat) : Int) from rfl, cutD_0n, rng_nat, show ((l.length : Int) + ((1 : Nat) : Int) - ((1 : Nat) : Int)).toNat = l.length by omega, List.filter_map, ← List.map_take]
        rw [show ((fun x => decide ((wins (zc l) l.length (dotN x)).length ≤ m)) ∘ intD) = fun w => decide ((wins (zc l) l.length w).length ≤ m) from funext fun w => by
          show decide ((wins (zc l) l.length (dotN (.int (w : Int)))).length ≤ m) = _
          rw [dot_nat], hk]
        exact ⟨rfl, rfl⟩
      rintro d μ ⟨rfl, rfl⟩
      have hix : ∀ {C : D → List Cell → Prop} {ν : List Cell}, C (.int (lw : Int)) ν → OO K S (rIx K) (.lst (K1.map intD ++ [.int 1])) (.int 0) ν C := fun c => by
        rw [show K1.map intD ++ [D.int 1] = (lw :: t).map intD by rw [← het, List.map_append]; rfl]
        exact oo_ixL (atI_of (j := 0) rfl rfl) c
      walk_at "pp"
      refine cc_len (.lst _) ?_
      walk_at "pp"
      refine ⟨fun _ => ?_, fun h => absurd h (by rw [decide_eq_true (by omega)]; decide)⟩
      walk_at "pp"
      refine ask_same (.lst [.str (Str.ofString "told"), .int (lw : Int)]) rfl rfl ?_
      walk_at "pp"
      refine ee_lst ?_
      walk_at "pp"
      refine ee_lst ?_
      walk_at "pp"
      refine oo_addL (by rw [List.length_map]; show _ + 1 ≤ _; omega) ?_
      walk_at "pp"
      refine hix ?_
      refine ea_nil ?_
      refine ⟨Nat.le_of_ble_eq_true rfl, ?_⟩
      walk_at "pp"
      refine ask_heard (3, .lst l, .int (wd : Int), .int (m : Int)) (asks3 hc (by omega)) ?_
      walk_at "pp"
      refine ee_lst ?_
      walk_at "pp"
      refine ⟨rfl, ?_⟩
      rw [show ansQ (3, .lst l, .int (wd : Int), .int (m : Int)) = _ from ha3]
      walk_at "pp"
      refine ⟨rfl, ?_⟩
      walk_at "pp"
      refine cc_len (.lst _) ?_
      walk_at "pp"
      refine ⟨fun _ => ?_, fun h => absurd h (by rw [decide_eq_true (by omega)]; decide)⟩
      walk_at "pp"
      refine ask_same (.lst [.int (lw : Int), .bl true]) rfl rfl ?_
      walk_at "pp"
      refine ee_lst ?_
      walk_at "pp"
      refine ee_lst ?_
      walk_at "pp"
      refine oo_addL (by rw [List.length_map]; show _ + 1 ≤ _; omega) ?_
      walk_at "pp"
      refine hix ?_
      refine ea_cons ?_
      walk_at "pp"
      refine ee_lst ?_
      walk_at "pp"
      refine ask_toldP (ans := fun t : D × D => ansW3 t.1 t.2) (.lst l, .int (m : Int)) _ ⟨cells_pre hc, int_cl⟩ ha3 (by show (D.ltL 0 l && (true && true)) = true; rw [hcc]; rfl) ?_
      walk_at "pp"
      refine ⟨rfl, rfl, ?_⟩
      walk_at "pp"
      refine ask_toldP (ans := fun t : D × D × D => ansW1 t.1 t.2.1 t.2.2) (.lst l, .int (wd : Int), .lst (ws.map winD)) (.bl true) ⟨cells_pre hc, wd_pre (by omega), br_pre bre_wins (by rw [List.length_map]; omega)⟩ ?_ ?_ ?_
      · show ansQ (1, .lst l, .int (wd : Int), .lst (ws.map winD)) = _
        rw [ans1_ok hc hw, isBr_wins, ← hws]
        exact congrArg (fun b => Out.told (.bl b)) (wins_brk hw)
      · show (D.ltL 0 l && (true && (D.ltL 0 (ws.map winD) && true))) = true
        rw [hcc, wins_cl]
        rfl
      walk_at "pp"
      refine cc_list (.lst _) ?_
      walk_at "pp"
      refine ⟨rfl, rfl, ?_⟩
      walk_at "pp"
      refine ⟨rfl, ?_⟩
      walk_at "pp"
      exact ⟨_, _, _, rfl, rfl⟩
    · refine se_seq (se_asg (EE.imp (C := fun d μ => d = .lst [] ∧ μ = .lst p1 :: rest) ?_ ?_))
      · walk_at "pp"
        refine cc_len (.lst _) ?_
        walk_at "pp"
        refine ⟨fun h => absurd (of_decide_eq_true h) (by omega), fun _ => ?_⟩
        walk_at "pp"
        refine ee_lst ?_
        walk_at "pp"
        exact ⟨rfl, rfl⟩
      rintro d μ ⟨rfl, rfl⟩
      walk_at "pp"
      refine cc_len (.lst _) ?_
      walk_at "pp"
      refine ⟨fun h => absurd (of_decide_eq_true h) (by omega), fun _ => ?_⟩
      walk_at "pp"
      refine cc_len (.lst _) ?_
      walk_at "pp"
      refine ⟨fun h => absurd (of_decide_eq_true h) (by omega), fun _ => ?_⟩
      walk_at "pp"
      exact ⟨_, _, _, rfl, rfl⟩
  rintro δ μ ⟨x9, x10, x11, rfl, rfl⟩
  walk_at "pp"
  walk_at "gp"
  exact gave_drawn (n := n + 2000) hS (by rfl) rfl (hp1.le (by omega))
end


section
variable {P : Program} {w : World} {K : PySem.W.Frag} {mg : Str → Option Value} {base : Heap} {a : Ad} {f : Addr} {fd : FuncData}
theorem lwid_ok {z : Nat → Bool} {n m : Nat} (hm : 0 < m) : (wins z n (lwid z n m)).length ≤ m ∧ 0 < lwid z n m ∧ lwid z n m ≤ n + 1 := by
  unfold lwid
  cases h : ((List.range n).map fun i => i + 1).find? fun w => decide ((wins z n w).length ≤ m) with
  | some w =>
    have h1 := List.find?_some h
    have h2 := List.mem_of_find?_eq_some h
    obtain ⟨i, hi, rfl⟩ := List.mem_map.mp h2
    have hi := List.mem_range.mp hi
    show (wins z n (i + 1)).length ≤ m ∧ 0 < i + 1 ∧ i + 1 ≤ n + 1
    exact ⟨of_decide_eq_true h1, by omega, by omega⟩
  | none =>
    show (wins z n 1).length ≤ m ∧ 0 < 1 ∧ 1 ≤ n + 1
    have h1 := List.find?_eq_none.mp h
    cases n with
    | zero =>
      have := chain_len (wins_chain (z := z) (n := 0) (w := 1) (by decide)).1
      exact ⟨by omega, by decide, by omega⟩
    | succ n =>
      have h2 := h1 (n + 1) (List.mem_map.mpr ⟨n, List.mem_range.mpr (Nat.lt_succ_self n), rfl⟩)
      have h3 := wins_wide (z := z) (n := n + 1) (Nat.succ_pos n)
      exact absurd (decide_eq_true (by omega)) h2
abbrev spAgain (K : PySem.W.Frag) : Sp := ProP K (T := List D) (fun t => [.lst t]) (fun t => CellL t ∧ t.length ≤ 1000) (fun _ d => d = .bl true) (fun _ _ _ => False)
abbrev st__law_told_again : Stmt := top 53
abbrev nm__law_told_again : List Str := ["cells", "wide", "due"]
theorem sc__law_told_again : FnScope nm__law_told_again ["cells"] (defScope st__law_told_again) := ⟨rfl, rfl, rfl, by decide +kernel, rfl, by decide +kernel, by decide +kernel⟩
theorem ok_told_again (F : Fun K "_law_told_again" "_law_told_again" st__law_told_again f fd) (T : Tx P w K mg base a) (c_least_width : CalX P w K mg base 5 "least_width" ["cells", "many"] (spLeast K a)) (c__law_greedy : CalX P w K mg base 1 "_law_greedy" ["cells", "width"] (spWins K)) (c__law_exact : CalX P w K mg base 8 "_law_exact" ["mine", "theirs"] (spExact K 7)) (c_windows_of : CalX P w K mg base 5 "windows_of" ["cells", "width"] (spWinsOf K a)) (c_is_breaking : CalX P w K mg base 5 "is_breaking" ["cells", "width", "value"] (spBreaking K a)) : FnOk P w K mg base (L2.CX P w) 9 f fd ["cells"] (spAgain K) := by
  refine F.okX sc__law_told_again (fun vs H Q E h => pro_len h fun _ => rfl) (fun cdv A outer s H vs Q E hr h => ⟨_, (pss_cons (ps_set (i := 1) sc__law_told_again.nd rfl (by first | exact Or.inl rfl | exact Or.inr rfl) (pe_c c_least_width hr (by first | decide | exact Nat.le_refl _) rfl (passes_call (takes_of rfl rfl rfl rfl) (fun _ _ _ _ h => h)) (pa_cons (pv 0) (pa_cons pe_int pa_nil))))
    (pss_cons (ps_set (i := 2) sc__law_told_again.nd rfl (by first | exact Or.inl rfl | exact Or.inr rfl) (pe_c c__law_greedy hr (by first | decide | exact Nat.le_refl _) rfl (passes_call (takes_of rfl rfl rfl rfl) (fun _ _ _ _ h => h)) (pa_cons (pv 0) (pa_cons (pv 1) pa_nil))))
    (pss_one (ps_ret (pe_and (pe_cmpR op_less (pe_callB (kC K rLenU rfl call_lenU) (by rfl) T.b_len (by decide +kernel) (pa_cons (pv 2) pa_nil)) pe_int (nomark _)) (pe_one (pe_c c__law_exact hr (by first | decide | exact Nat.le_refl _) rfl (passes_call (takes_of rfl rfl rfl rfl) (fun _ _ _ _ h => h)) (pa_cons (pe_lst (pa_cons (pv 2) (pa_cons pe_bl pa_nil))) (pa_cons (pe_lst (pa_cons (pe_c c_windows_of hr (by first | decide | exact Nat.le_refl _) rfl (passes_call (takes_of rfl rfl rfl rfl) (fun _ _ _ _ h => h)) (pa_cons (pv 0) (pa_cons (pv 1) pa_nil))) (pa_cons (pe_c c_is_breaking hr (by first | decide | exact Nat.le_refl _) rfl (passes_call (takes_of rfl rfl rfl rfl) (fun _ _ _ _ h => h)) (pa_cons (pv 0) (pa_cons (pv 1) (pa_cons (pv 2) pa_nil)))) pa_nil))) pa_nil))))))))), run_body h fun l S ⟨hc, hlz⟩ hl hcl wi => ?_⟩)
  have hl : S.A.length = 0 := hl
  have hc : CellL l := hc
  have hlz : l.length ≤ 1000 := hlz
  have hcc : D.ltL 0 l = true := cells_cl hc.2
  obtain ⟨w1, w2, w3⟩ := lwid_ok (z := zc l) (n := l.length) (m := 1) (by decide)
  have ha3 := ans3_ok (m := 1) hc (by decide)
  generalize lwid (zc l) l.length 1 = n at *
  have hw1 : (winsOf l n).length ≤ 1 := w1
  walk_at "pp"
  refine ask_told (ans := fun t : D × D => ansW3 t.1 t.2) (.lst l, .int ((1 : Nat) : Int)) _ ⟨cells_pre hc, int_cl⟩ ha3 (by show (D.ltL 0 l && (true && true)) = true; rw [hcc]; rfl) ?_
  walk_at "pp"
  refine ⟨rfl, ?_⟩
  walk_at "pp"
  refine ee_czS ?_
  walk_at "pp"
  refine ⟨(l, n), ⟨hc, w2, by show n ≤ _; omega⟩, rfl, by show (D.ltL 0 l && (true && true)) = true; rw [hcc]; rfl, ?_⟩
  rintro ws rfl _
  dsimp only
  rw [show wins (zc l) l.length n = winsOf l n from rfl]
  walk_at "pp"
  refine cc_len (.lst _) ?_
  rw [List.length_map]
  have ha0 := ans0_ok hc w2
  have ha1 : ansQ (1, .lst l, .int (n : Int), .lst ((winsOf l n).map winD)) = .told (.bl true) := by
    rw [ans1_ok hc w2, isBr_wins]
    exact congrArg (fun b => Out.told (.bl b)) (wins_brk w2)
  have hwc : (D.lst ((winsOf l n).map winD)).lt 0 = true := wins_cl (m := 0)
  generalize winsOf l n = ws at *
  walk_at "pp"
  refine ⟨fun _ => ?_, fun h => absurd (of_decide_eq_false h) (by omega)⟩
  walk_at "pp"
  refine ask_same (.lst [.lst (ws.map winD), .bl true]) ?_ ?_ ?_
  · show (true && (exOk 6 (.lst (ws.map winD)) && (true && true))) = true
    rw [wins_ex (by omega)]
    rfl
  · show ((D.lst (ws.map winD)).lt 0 && (true && true)) = true
    rw [hwc]
    rfl
  walk_at "pp"
  refine ee_lst ?_
  walk_at "pp"
  refine ee_lst ?_
  walk_at "pp"
  refine ask_told (ans := fun t : D × D => ansW0 t.1 t.2) (.lst l, .int (n : Int)) _ ⟨cells_pre hc, wd_pre (by omega)⟩ ha0 (by show (D.ltL 0 l && (true && true)) = true; rw [hcc]; rfl) ?_
  walk_at "pp"
  refine ⟨rfl, ?_⟩
  walk_at "pp"
  refine ask_told (ans := fun t : D × D × D => ansW1 t.1 t.2.1 t.2.2) (.lst l, .int (n : Int), .lst (ws.map winD)) (.bl true) ⟨cells_pre hc, wd_pre (by omega), br_pre bre_wins (by rw [List.length_map]; omega)⟩ ha1 ?_ ?_
  · show (D.ltL 0 l && (true && (D.ltL 0 (ws.map winD) && true))) = true
    rw [hcc, wins_cl]
    rfl
  walk_at "pp"
  refine ⟨rfl, ?_⟩
  walk_at "pp"
  refine ⟨rfl, ?_⟩
  walk_at "gp"
  exact gaveP hl (by rfl) rfl
end


section
variable {P : Program} {w : World} {K : PySem.W.Frag} {mg : Str → Option Value} {base : Heap} {a : Ad} {f : Addr} {fd : FuncData}
/-- a thing that is no list of cells -/
structure OddL (x : D) : Prop where
  p : CsPre x
  no : isCells x = false
  ex : exOk 5 x = true
structure OddW (x : D) : Prop where
  c : Cl x
  no : isCtN 1 x = false
  ex : exOk 5 x = true
structure OddC (n : Nat) (x : D) : Prop where
  c : Cl x
  no : inB 0 (some n) x = false
  ex : exOk 6 x = true
theorem noCts_odd {n : Nat} (hn : n ≤ 10000000) : ∀ x ∈ noCts n, OddC n x := by
  intro x hx
  have big : ∀ i : Int, (i < 0 ∨ (n : Int) ≤ i) → OddC n (.int i) := fun i h => by
    refine ⟨⟨rfl, rfl⟩, ?_, rfl⟩
    show (decide (((0 : Nat) : Int) ≤ i) && decide (i < (n : Int))) = false
    rcases h with h | h
    · rw [decide_eq_false (by omega)]
      rfl
    · rw [decide_eq_false (p := i < (n : Int)) (by omega), Bool.and_false]
  simp only [noCts, List.mem_cons, List.not_mem_nil, or_false] at hx
  rcases hx with rfl | rfl | rfl | rfl | rfl | rfl | rfl | rfl | rfl | rfl
  · exact big _ (.inr (by omega))
  · exact big _ (.inr (by omega))
  · exact big _ (.inl (by omega))
  · exact ⟨⟨rfl, rfl⟩, rfl, rfl⟩
  · exact ⟨⟨rfl, rfl⟩, rfl, rfl⟩
  · exact ⟨⟨rfl, rfl⟩, rfl, rfl⟩
  · exact ⟨⟨rfl, rfl⟩, rfl, rfl⟩
  · exact ⟨⟨rfl, rfl⟩, rfl, rfl⟩
  · exact ⟨⟨rfl, rfl⟩, rfl, rfl⟩
  · refine big _ (.inr ?_)
    have : (10 : Int) ^ 12 = 1000000000000 := by decide
    omega
theorem pair_ex {n : Nat} {s : Str} {x : D} (h : exOk (n + 1) x = true) : exOk (n + 2) (.lst [.str s, x]) = true := by
  show (true && (true && (exOk (n + 1) x && true))) = true
  rw [h]
  rfl
theorem pair_cl {s : Str} {x : D} (h : x.lt 0 = true) : (D.lst [.str s, x]).lt 0 = true := by
  show (true && (x.lt 0 && true)) = true
  rw [h]
  rfl
theorem oddL_flat {d : D} (h : Cl d) (hl : ∀ l, d ≠ .lst l) (hi : isCells d = false) (he : exOk 5 d = true) : OddL d := ⟨⟨h, fun l e => absurd e (hl l)⟩, hi, he⟩
/-- cells, and one thing among them that is none -/
theorem oddL_app {L : List D} {x : D} (hL : ∀ y ∈ L, ∃ v : V, y = .v v ∧ (D.v v).pl = true ∧ exOk 4 (.v v) = true) (hx : x ∈ L) (hno : isCell x = false) (hz : L.length ≤ 1000) : OddL (.lst L) := by
  refine ⟨⟨⟨rfl, D.ltL_all.mpr fun y hy => ?_⟩, fun l e => ?_⟩, ?_, ?_⟩
  · obtain ⟨v, rfl, h, _⟩ := hL y hy
    rfl
  · cases e
    exact ⟨by omega, fun y hy => by obtain ⟨v, rfl, h, _⟩ := hL y hy; exact h⟩
  · show L.all isCell = false
    cases q : L.all isCell with
    | false => rfl
    | true =>
      have := List.all_eq_true.mp q x hx
      rw [hno] at this
      cases this
  · show (decide (L.length ≤ 1000000) && L.all (fun y => exOk 4 y)) = true
    rw [decide_eq_true (by omega)]
    exact List.all_eq_true.mpr fun y hy => by obtain ⟨v, rfl, _, h⟩ := hL y hy; exact h
theorem cell_v {l : List D} (hc : CellL l) : ∀ y ∈ l, ∃ v : V, y = .v v ∧ (D.v v).pl = true ∧ exOk 4 (.v v) = true := fun y hy => by
  obtain ⟨i, rfl, _⟩ := hc.2 y hy
  exact ⟨.int i, rfl, rfl, rfl⟩
theorem v_app {L M : List D} {p : D → Prop} (h1 : ∀ y ∈ L, p y) (h2 : ∀ y ∈ M, p y) : ∀ y ∈ L ++ M, p y := fun y hy => by
  rcases List.mem_append.mp hy with hy | hy
  · exact h1 y hy
  · exact h2 y hy
theorem v_one {v : V} (h1 : (D.v v).pl = true) (h2 : exOk 4 (.v v) = true) : ∀ y ∈ [D.v v], ∃ v : V, y = .v v ∧ (D.v v).pl = true ∧ exOk 4 (.v v) = true := fun y hy => by
  rw [List.mem_singleton] at hy
  subst hy
  exact ⟨v, rfl, h1, h2⟩
theorem non_br : BrPre .non := ⟨⟨rfl, rfl⟩, fun l e => by cases e⟩
theorem non_wd : WdPre .non := ⟨⟨rfl, rfl⟩, fun z => by cases z⟩
theorem asksL {x : D} (hx : OddL x) {k : Nat} (hk : k < 4) : Asks (k, x, .non, .non) := ⟨hk, hx.p, non_wd, ⟨rfl, rfl⟩, fun _ => non_br⟩
theorem asksW {l : List D} {x : D} (hc : CellL l) (hx : OddW x) {k : Nat} (hk : k < 3) : Asks (k, .lst l, x, .non) := ⟨Nat.lt_succ_of_lt hk, cells_pre hc, ⟨hx.c, fun z => by rw [hx.no] at z; cases z⟩, ⟨rfl, rfl⟩, fun _ => non_br⟩
theorem asksC {l : List D} {x : D} {n k : Nat} (hc : CellL l) (hz : n ≤ 1000000) (hx : Cl x) (hk : k < 4) (h1 : k ≠ 1) : Asks (k, .lst l, .int (n : Int), x) := ⟨hk, cells_pre hc, wd_pre hz, hx, fun h => absurd h h1⟩
theorem ansL {x y u : D} (h : isCells x = false) : ∀ k, k < 4 → ansQ (k, x, y, u) = .bad .cells x
  | 0, _ => if_pos h
  | 1, _ => if_pos h
  | 2, _ => if_pos h
  | 3, _ => if_pos h
  | k + 4, hk => absurd hk (by omega)
theorem ansW {l : List D} {x u : D} (hc : CellL l) (h : isCtN 1 x = false) : ∀ k, k < 3 → ansQ (k, .lst l, x, u) = .bad .width x
  | 0, _ => (cO_in hc).trans (if_pos h)
  | 1, _ => (cO_in hc).trans (if_pos h)
  | 2, _ => (cO_in hc).trans (if_pos h)
  | k + 3, hk => absurd hk (by omega)
theorem ansC2 {l : List D} {x : D} {n : Nat} (hc : CellL l) (hn : 0 < n) (h : inB 0 (some l.length) x = false) : ansQ (2, .lst l, .int (n : Int), x) = .bad .count x := by
  show ansW2 (.lst l) (.int (n : Int)) x = _
  unfold ansW2 cwO
  rw [cO_in hc, if_neg (by rw [ct_nat hn]; exact fun z => by cases z)]
  exact if_pos h
theorem ansC3 {l : List D} {x y : D} (hc : CellL l) (h : inB 1 none x = false) : ansQ (3, .lst l, y, x) = .bad .count x := by
  show ansW3 (.lst l) x = _
  unfold ansW3
  rw [cO_in hc]
  exact if_pos h
abbrev spRefused (K : PySem.W.Frag) : Sp := ProP K (T := List D × Nat) (fun t => [.lst t.1, .int (t.2 : Int)]) (fun t => CellL t.1 ∧ t.1.length ≤ 100 ∧ 0 < t.2 ∧ t.2 ≤ 80) (fun _ d => d = .bl true) (fun _ _ _ => False)
abbrev st__law_refused : Stmt := top 54
abbrev nm__law_refused : List Str := ["cells", "width", "odd", "way"]
theorem sc__law_refused : FnScope nm__law_refused ["cells", "width"] (defScope st__law_refused) := ⟨rfl, rfl, rfl, by decide +kernel, rfl, by decide +kernel, by decide +kernel⟩
theorem ok_refused (F : Fun K "_law_refused" "_law_refused" st__law_refused f fd) (T : Tx P w K mg base a) (c__law_exact : CalX P w K mg base 8 "_law_exact" ["mine", "theirs"] (spExact K 7))
    (c__law_heard : CalX P w K mg base 7 "_law_heard" ["way", "args"] (spHeard K)) (c__law_no_counts : CalX P w K mg base 1 "_law_no_counts" ["many"] (spNoCounts K)) : FnOk P w K mg base (L2.CX P w) 9 f fd ["cells", "width"] (spRefused K) := by
  refine F.okX sc__law_refused (fun vs H Q E h => pro_len h fun _ => rfl) (fun cdv A outer s H vs Q E hr h => ⟨_, (pss_cons (ps_for (passes_of rfl) rfl (pi_listK (K := K) rfl (pe_lst (pa_cons pe_non (pa_cons (pe_callTy (kC K rTupOf rfl call_tupOf) (by rfl) T.b_tuple (by decide +kernel) (pa_cons (pv 0) pa_nil)) (pa_cons (pe_op (kO K rPlus rfl op_plus) (pv 0) (pe_lst (pa_cons pe_int pa_nil))) (pa_cons (pe_op (kO K rPlus rfl op_plus) (pe_lst (pa_cons (pe_un un_neg pe_int) pa_nil)) (pv 0)) (pa_cons (pe_op (kO K rPlus rfl op_plus) (pv 0) (pe_lst (pa_cons pe_bl pa_nil))) (pa_cons (pe_lst (pa_cons pe_non pa_nil)) (pa_cons pe_str (pa_cons pe_int (pa_cons (pe_op (kO K rPlus rfl op_plus) (pv 0) (pe_lst (pa_cons pe_str pa_nil))) pa_nil))))))))))) (pg_name (i := 2) sc__law_refused.nd rfl (by first | exact Or.inl rfl | exact Or.inr rfl))
      (pss_one (ps_if (pt_not (pt_val (pe_c c__law_exact hr (by first | decide | exact Nat.le_refl _) rfl (passes_call (takes_of rfl rfl rfl rfl) (fun _ _ _ _ h => h)) (pa_cons (pe_op op_timesU (pe_lst (pa_cons (pe_lst (pa_cons pe_str (pa_cons (pv 2) pa_nil))) pa_nil)) pe_int) (pa_cons (pe_lc (own := [("way", 3)]) (tt := tYes) (g := (gName 3)) rfl sc__law_refused.nd (pi_range1 rfl T.b_range (pa_cons pe_int pa_nil)) (blkOk_by (own := [("way", 3)]) (N := nm__law_refused) (sc := (defScope st__law_refused)) (by decide +kernel)) (fun _ _ _ _ _ => (pg_name (i := 3) sc__law_refused.nd rfl (by first | exact Or.inl rfl | exact Or.inr rfl))) (fun _ _ _ _ _ => pts_nil) (fun _ _ _ _ _ => (pe_c c__law_heard hr (by first | decide | exact Nat.le_refl _) rfl passL (pa_cons (pv 3) (pa_cons (pe_lst (pa_cons (pv 2) (pa_cons pe_non (pa_cons pe_non pa_nil)))) pa_nil))))) pa_nil))))) (pss_one (ps_ret pe_bl)) pss_nil)))
    (pss_cons (ps_for (passes_of rfl) rfl (pi_listK (K := K) rfl (pe_lst (pa_cons pe_int (pa_cons (pe_un un_neg pe_int) (pa_cons pe_bl (pa_cons pe_bl (pa_cons pe_non (pa_cons pe_str (pa_cons (pe_lst (pa_cons pe_int pa_nil)) (pa_cons (pe_op op_sub pe_int (pe_op op_powW pe_int pe_int)) pa_nil)))))))))) (pg_name (i := 2) sc__law_refused.nd rfl (by first | exact Or.inl rfl | exact Or.inr rfl))
      (pss_one (ps_if (pt_not (pt_val (pe_c c__law_exact hr (by first | decide | exact Nat.le_refl _) rfl (passes_call (takes_of rfl rfl rfl rfl) (fun _ _ _ _ h => h)) (pa_cons (pe_op op_timesU (pe_lst (pa_cons (pe_lst (pa_cons pe_str (pa_cons (pv 2) pa_nil))) pa_nil)) pe_int) (pa_cons (pe_lc (own := [("way", 3)]) (tt := tYes) (g := (gName 3)) rfl sc__law_refused.nd (pi_range1 rfl T.b_range (pa_cons pe_int pa_nil)) (blkOk_by (own := [("way", 3)]) (N := nm__law_refused) (sc := (defScope st__law_refused)) (by decide +kernel)) (fun _ _ _ _ _ => (pg_name (i := 3) sc__law_refused.nd rfl (by first | exact Or.inl rfl | exact Or.inr rfl))) (fun _ _ _ _ _ => pts_nil) (fun _ _ _ _ _ => (pe_c c__law_heard hr (by first | decide | exact Nat.le_refl _) rfl passL (pa_cons (pv 3) (pa_cons (pe_lst (pa_cons (pv 0) (pa_cons (pv 2) (pa_cons pe_non pa_nil)))) pa_nil))))) pa_nil))))) (pss_one (ps_ret pe_bl)) pss_nil)))
    (pss_cons (ps_for (passes_of rfl) rfl (pi_listK (K := K) rfl (pe_c c__law_no_counts hr (by first | decide | exact Nat.le_refl _) rfl (passes_call (takes_of rfl rfl rfl rfl) (fun _ _ _ _ h => h)) (pa_cons (pe_callB (kC K rLenU rfl call_lenU) (by rfl) T.b_len (by decide +kernel) (pa_cons (pv 0) pa_nil)) pa_nil))) (pg_name (i := 2) sc__law_refused.nd rfl (by first | exact Or.inl rfl | exact Or.inr rfl))
      (pss_one (ps_if (pt_not (pt_val (pe_c c__law_exact hr (by first | decide | exact Nat.le_refl _) rfl (passes_call (takes_of rfl rfl rfl rfl) (fun _ _ _ _ h => h)) (pa_cons (pe_lst (pa_cons pe_str (pa_cons (pv 2) pa_nil))) (pa_cons (pe_c c__law_heard hr (by first | decide | exact Nat.le_refl _) rfl (passes_call (takes_of rfl rfl rfl rfl) (fun _ _ _ _ h => h)) (pa_cons pe_int (pa_cons (pe_lst (pa_cons (pv 0) (pa_cons (pv 1) (pa_cons (pv 2) pa_nil)))) pa_nil))) pa_nil))))) (pss_one (ps_ret pe_bl)) pss_nil)))
    (pss_cons (ps_for (passes_of rfl) rfl (pi_listK (K := K) rfl (pe_lst (pa_cons pe_int (pa_cons (pe_un un_neg pe_int) (pa_cons pe_bl (pa_cons pe_non (pa_cons pe_str (pa_cons (pe_lst (pa_cons pe_int pa_nil)) pa_nil)))))))) (pg_name (i := 2) sc__law_refused.nd rfl (by first | exact Or.inl rfl | exact Or.inr rfl))
      (pss_one (ps_if (pt_not (pt_val (pe_c c__law_exact hr (by first | decide | exact Nat.le_refl _) rfl (passes_call (takes_of rfl rfl rfl rfl) (fun _ _ _ _ h => h)) (pa_cons (pe_lst (pa_cons pe_str (pa_cons (pv 2) pa_nil))) (pa_cons (pe_c c__law_heard hr (by first | decide | exact Nat.le_refl _) rfl (passes_call (takes_of rfl rfl rfl rfl) (fun _ _ _ _ h => h)) (pa_cons pe_int (pa_cons (pe_lst (pa_cons (pv 0) (pa_cons (pv 1) (pa_cons (pv 2) pa_nil)))) pa_nil))) pa_nil))))) (pss_one (ps_ret pe_bl)) pss_nil)))
    (pss_one (ps_ret pe_bl)))))), run_body h fun ⟨l, wd⟩ S ⟨hc, hlz, hw, hwz⟩ hl hcl wi => ?_⟩)
  have hl : S.A.length = 0 := hl
  have hc : CellL l := hc
  have hlz : l.length ≤ 100 := hlz
  have hw : 0 < wd := hw
  have hwz : wd ≤ 80 := hwz
  have hcc : D.ltL 0 l = true := cells_cl hc.2
  have hcv := cell_v hc
  walk_at "pp"
  refine se_for (ie_list ?_)
  walk_at "pp"
  refine ee_lst ?_
  walk_at "pp"
  refine cc_tuple (.lst _) ?_
  walk_at "pp"
  refine ee_lst ?_
  walk_at "pp"
  refine oo_addL (by show l.length + 1 ≤ _; omega) ?_
  walk_at "pp"
  refine ee_lst ?_
  walk_at "pp"
  refine oo_addL (by show 1 + l.length ≤ _; omega) ?_
  walk_at "pp"
  refine ee_lst ?_
  walk_at "pp"
  refine oo_addL (by show l.length + 1 ≤ _; omega) ?_
  walk_at "pp"
  refine ee_lst ?_
  walk_at "pp"
  refine ee_lst ?_
  walk_at "pp"
  refine oo_addL (by show l.length + 1 ≤ _; omega) ?_
  walk_at "pp"
  refine ⟨_, .inl rfl, ?_⟩
  refine ⟨rfl, fun i δ μ => ∃ x2 x3 : Option D, δ = [some (.lst l), some (.int (wd : Int)), x2, x3] ∧ μ = [], ⟨none, none, rfl, rfl⟩, ?_, ?_⟩
  · rintro i x δ μ hi ⟨x2, x3, rfl, rfl⟩
    have hx : OddL x := by
      have hm := List.mem_of_getElem? hi
      simp only [List.mem_cons, List.not_mem_nil, or_false] at hm
      rcases hm with rfl | rfl | rfl | rfl | rfl | rfl | rfl | rfl | rfl
      · exact oddL_flat ⟨rfl, rfl⟩ (fun l e => by cases e) rfl rfl
      · refine oddL_flat ⟨rfl, hcc⟩ (fun l e => by cases e) rfl ?_
        show (decide (l.length ≤ 1000000) && l.all (fun y => exOk 4 y)) = true
        rw [decide_eq_true (by omega)]
        exact List.all_eq_true.mpr fun y hy => by obtain ⟨v, rfl, _, h⟩ := hcv y hy; exact h
      · exact oddL_app (x := .int 64) (v_app hcv (v_one rfl rfl)) (List.mem_append_right _ List.mem_cons_self) (by decide +kernel) (by rw [List.length_append]; show _ + 1 ≤ _; omega)
      · exact oddL_app (x := .int (-1)) (v_app (v_one rfl rfl) hcv) (List.mem_append_left _ List.mem_cons_self) (by decide +kernel) (by rw [List.length_append]; show 1 + _ ≤ _; omega)
      · exact oddL_app (x := .bl true) (v_app hcv (v_one rfl rfl)) (List.mem_append_right _ List.mem_cons_self) rfl (by rw [List.length_append]; show _ + 1 ≤ _; omega)
      · exact oddL_app (x := .non) (v_one rfl rfl) List.mem_cons_self rfl (by decide)
      · exact oddL_flat ⟨rfl, rfl⟩ (fun l e => by cases e) rfl rfl
      · exact oddL_flat ⟨rfl, rfl⟩ (fun l e => by cases e) rfl rfl
      · exact oddL_app (x := .str (Str.ofString "1")) (v_app hcv (v_one rfl rfl)) (List.mem_append_right _ List.mem_cons_self) rfl (by rw [List.length_append]; show _ + 1 ≤ _; omega)
    have hxc : x.lt 0 = true := hx.p.1.2
    refine ge_name ?_
    walk_at "pp"
    have hpe := pair_ex (s := Str.ofString "cells") (show exOk (4 + 1) x = true from hx.ex)
    have hpc := pair_cl (s := Str.ofString "cells") hxc
    refine ask_same (.lst (List.replicate 4 [D.lst [.str (Str.ofString "cells"), x]]).flatten) ?_ ?_ ?_
    · show (true && (exOk 6 _ && (exOk 6 _ && (exOk 6 _ && (exOk 6 _ && true))))) = true
      rw [hpe]
      rfl
    · show (D.lt 0 _ && (D.lt 0 _ && (D.lt 0 _ && (D.lt 0 _ && true)))) = true
      rw [hpc]
      rfl
    walk_at "pp"
    refine ee_lst ?_
    walk_at "pp"
    refine ee_lst ?_
    walk_at "pp"
    refine oo_repL (n := 4) (by decide) (by exact Nat.le_of_ble_eq_true rfl) ?_
    walk_at "pp"
    refine ee_lc (ie_rng1 ?_)
    walk_at "pp"
    refine ⟨by decide, by decide, fun _ h => h, trivial, fun _ => true, fun _ => .lst [.str (Str.ofString "cells"), x], by decide, fun _ _ _ => hpc, fun y acc hy => ?_, ?_⟩
    · obtain ⟨k, hk⟩ := List.getElem?_of_mem hy
      obtain ⟨hk4, rfl⟩ := rng_get hk
      have hk4 : k < 4 := hk4
      rw [show (0 : Int) + (k : Int) = ((k : Nat) : Int) by omega]
      refine gw_name (by decide) ?_
      refine et_yes ?_
      refine ⟨rfl, rfl, fun _ => ?_⟩
      refine ask_heard _ (asksL hx hk4) ?_
      walk_at "pp"
      refine ee_lst ?_
      walk_at "pp"
      refine ⟨rfl, ?_⟩
      rw [ansL hx.no k hk4]
      exact ⟨rfl, rfl⟩
    walk_at "pp"
    refine ⟨rfl, ?_⟩
    walk_at "pp"
    first | rfl | exact ⟨_, _, rfl, rfl⟩
  rintro δ μ ⟨x2, x3, rfl, rfl⟩
  walk_at "pp"
  refine se_for (ie_list ?_)
  walk_at "pp"
  refine ee_lst ?_
  walk_at "pp"
  refine ee_lst ?_
  walk_at "pp"
  refine oo_powW ⟨by decide, by decide +kernel⟩ ?_
  walk_at "pp"
  refine ⟨_, .inl rfl, ?_⟩
  refine ⟨rfl, fun i δ μ => ∃ x2 x3 : Option D, δ = [some (.lst l), some (.int (wd : Int)), x2, x3] ∧ μ = [], ⟨x2, x3, rfl, rfl⟩, ?_, ?_⟩
  · rintro i x δ μ hi ⟨x2, x3, rfl, rfl⟩
    have hx : OddW x := by
      have hm := List.mem_of_getElem? hi
      simp only [List.mem_cons, List.not_mem_nil, or_false] at hm
      rcases hm with rfl | rfl | rfl | rfl | rfl | rfl | rfl | rfl
      · exact ⟨⟨rfl, rfl⟩, rfl, rfl⟩
      · exact ⟨⟨rfl, rfl⟩, rfl, rfl⟩
      · exact ⟨⟨rfl, rfl⟩, rfl, rfl⟩
      · exact ⟨⟨rfl, rfl⟩, rfl, rfl⟩
      · exact ⟨⟨rfl, rfl⟩, rfl, rfl⟩
      · exact ⟨⟨rfl, rfl⟩, rfl, rfl⟩
      · exact ⟨⟨rfl, rfl⟩, rfl, rfl⟩
      · exact ⟨⟨rfl, rfl⟩, by decide +kernel, rfl⟩
    have hxc : x.lt 0 = true := hx.c.2
    refine ge_name ?_
    walk_at "pp"
    have hpe := pair_ex (s := Str.ofString "width") (show exOk (4 + 1) x = true from hx.ex)
    have hpc := pair_cl (s := Str.ofString "width") hxc
    refine ask_same (.lst (List.replicate 3 [D.lst [.str (Str.ofString "width"), x]]).flatten) ?_ ?_ ?_
    · show (true && (exOk 6 _ && (exOk 6 _ && (exOk 6 _ && true)))) = true
      rw [hpe]
      rfl
    · show (D.lt 0 _ && (D.lt 0 _ && (D.lt 0 _ && true))) = true
      rw [hpc]
      rfl
    walk_at "pp"
    refine ee_lst ?_
    walk_at "pp"
    refine ee_lst ?_
    walk_at "pp"
    refine oo_repL (n := 3) (by decide) (by exact Nat.le_of_ble_eq_true rfl) ?_
    walk_at "pp"
    refine ee_lc (ie_rng1 ?_)
    walk_at "pp"
    refine ⟨by decide, by decide, fun _ h => h, trivial, fun _ => true, fun _ => .lst [.str (Str.ofString "width"), x], by decide, fun _ _ _ => hpc, fun y acc hy => ?_, ?_⟩
    · obtain ⟨k, hk⟩ := List.getElem?_of_mem hy
      obtain ⟨hk4, rfl⟩ := rng_get hk
      have hk4 : k < 3 := hk4
      rw [show (0 : Int) + (k : Int) = ((k : Nat) : Int) by omega]
      refine gw_name (by decide) ?_
      refine et_yes ?_
      refine ⟨rfl, rfl, fun _ => ?_⟩
      refine ask_heard _ (asksW hc hx hk4) ?_
      walk_at "pp"
      refine ee_lst ?_
      walk_at "pp"
      refine ⟨rfl, ?_⟩
      rw [ansW hc hx.no k hk4]
      exact ⟨rfl, rfl⟩
    walk_at "pp"
    refine ⟨rfl, ?_⟩
    walk_at "pp"
    first | rfl | exact ⟨_, _, rfl, rfl⟩
  rintro δ μ ⟨x2, x3, rfl, rfl⟩
  walk_at "pp"
  refine se_for (ie_list ?_)
  refine ee_cz ?_
  walk_at "pp"
  refine cc_len (.lst _) ?_
  walk_at "pp"
  refine ⟨l.length, by show l.length ≤ 10000000; omega, rfl, rfl, ?_⟩
  rintro d rfl
  refine ⟨_, .inl rfl, ?_⟩
  refine ⟨rfl, fun i δ μ => ∃ x2 x3 : Option D, δ = [some (.lst l), some (.int (wd : Int)), x2, x3] ∧ μ = [], ⟨x2, x3, rfl, rfl⟩, ?_, ?_⟩
  · rintro i x δ μ hi ⟨x2, x3, rfl, rfl⟩
    have hx := noCts_odd (n := l.length) (by omega) x (List.mem_of_getElem? hi)
    refine ge_name ?_
    walk_at "pp"
    refine ask_same (.lst [.str (Str.ofString "count"), x]) (pair_ex hx.ex) (pair_cl hx.c.2) ?_
    walk_at "pp"
    refine ee_lst ?_
    walk_at "pp"
    refine ask_heard _ (asksC (k := 2) hc (show wd ≤ _ by omega) hx.c (by decide) (by decide)) ?_
    walk_at "pp"
    refine ee_lst ?_
    walk_at "pp"
    refine ⟨rfl, ?_⟩
    rw [ansC2 hc hw hx.no]
    walk_at "pp"
    refine ⟨rfl, ?_⟩
    walk_at "pp"
    first | rfl | exact ⟨_, _, rfl, rfl⟩
  rintro δ μ ⟨x2, x3, rfl, rfl⟩
  walk_at "pp"
  refine se_for (ie_list ?_)
  walk_at "pp"
  refine ee_lst ?_
  walk_at "pp"
  refine ee_lst ?_
  walk_at "pp"
  refine ⟨_, .inl rfl, ?_⟩
  refine ⟨rfl, fun i δ μ => ∃ x2 x3 : Option D, δ = [some (.lst l), some (.int (wd : Int)), x2, x3] ∧ μ = [], ⟨x2, x3, rfl, rfl⟩, ?_, ?_⟩
  · rintro i x δ μ hi ⟨x2, x3, rfl, rfl⟩
    have hx : Cl x ∧ inB 1 none x = false ∧ exOk 6 x = true := by
      have hm := List.mem_of_getElem? hi
      simp only [List.mem_cons, List.not_mem_nil, or_false] at hm
      rcases hm with rfl | rfl | rfl | rfl | rfl | rfl
      · exact ⟨⟨rfl, rfl⟩, rfl, rfl⟩
      · exact ⟨⟨rfl, rfl⟩, rfl, rfl⟩
      · exact ⟨⟨rfl, rfl⟩, rfl, rfl⟩
      · exact ⟨⟨rfl, rfl⟩, rfl, rfl⟩
      · exact ⟨⟨rfl, rfl⟩, rfl, rfl⟩
      · exact ⟨⟨rfl, rfl⟩, rfl, rfl⟩
    obtain ⟨hxc, hxn, hxe⟩ := hx
    refine ge_name ?_
    walk_at "pp"
    refine ask_same (.lst [.str (Str.ofString "count"), x]) (pair_ex hxe) (pair_cl hxc.2) ?_
    walk_at "pp"
    refine ee_lst ?_
    walk_at "pp"
    refine ask_heard _ (asksC (k := 3) hc (show wd ≤ _ by omega) hxc (by decide) (by decide)) ?_
    walk_at "pp"
    refine ee_lst ?_
    walk_at "pp"
    refine ⟨rfl, ?_⟩
    rw [ansC3 hc hxn]
    walk_at "pp"
    refine ⟨rfl, ?_⟩
    walk_at "pp"
    first | rfl | exact ⟨_, _, rfl, rfl⟩
  rintro δ μ ⟨x2, x3, rfl, rfl⟩
  walk_at "pp"
  walk_at "gp"
  exact gaveP hl (by rfl) rfl
end


section
variable {P : Program} {w : World} {K : PySem.W.Frag} {mg : Str → Option Value} {base : Heap} {a : Ad} {f : Addr} {fd : FuncData}
def hands (n : Nat) : List D := (List.range n).map fun j => .own (j + 1)
theorem hands_len {n : Nat} : (hands n).length = n := by unfold hands; rw [List.length_map, List.length_range]
theorem hands_1 {n : Nat} : hands (n + 1) = hands n ++ [.own (n + 1)] := by
  unfold hands
  rw [List.range_succ, List.map_append]
  rfl
theorem hands_lt {n m : Nat} (h : n < m) : D.ltL m (hands n) = true := D.ltL_all.mpr fun x hx => by
  obtain ⟨j, hj, rfl⟩ := List.mem_map.mp hx
  have := List.mem_range.mp hj
  exact decide_eq_true (by omega)
theorem lists_lt {n : Nat} {ls : List (List D)} (h : ∀ l ∈ ls, D.ltL 0 l = true) : cellsLt n (ls.map Cell.lst) = true := by
  show (ls.map Cell.lst).all _ = true
  rw [List.all_eq_true]
  intro c hc
  obtain ⟨l, hl, rfl⟩ := List.mem_map.mp hc
  exact D.ltL_mono (Nat.zero_le _) (h l hl)
abbrev spPurses (K : PySem.W.Frag) : Sp := Pro K (T := List Int × Nat) (fun _ => []) (fun t => [.rd (t.1.map D.int), .int (t.2 : Int)]) (fun t => t.2 ≤ 1000) (fun t d μ => ∃ ls : List (List D), d = .own 0 ∧ μ = .lst (hands ls.length) :: ls.map Cell.lst ∧ 0 < ls.length ∧ ∀ l ∈ ls, PuOk 0 l) (fun _ _ _ _ => False)
abbrev st__law_purses : Stmt := top 41
abbrev nm__law_purses : List Str := ["script", "few", "at"]
theorem sc__law_purses : FnScope nm__law_purses ["script", "few"] (defScope st__law_purses) := ⟨rfl, rfl, rfl, by decide +kernel, rfl, by decide +kernel, by decide +kernel⟩
theorem ok_purses (F : Fun K "_law_purses" "_law_purses" st__law_purses f fd) (T : Tx P w K mg base a) (c__law_purse : CalX P w K mg base 1 "_law_purse" ["script", "at"] (spPurse K)) : FnOk P w K mg base (L2.CX P w) 2 f fd ["script", "few"] (spPurses K) := by
  refine F.okX sc__law_purses (fun vs H Q E h => pro_len h fun _ => rfl) (fun cdv A outer s H vs Q E hr h => ⟨_, (pss_one (ps_ret (pe_lc (own := [("at", 2)]) (tt := tYes) (g := (gName 2)) rfl sc__law_purses.nd (pi_range1 rfl T.b_range (pa_cons (pe_callB (call_max2 rfl) (by rfl) T.b_max (by decide +kernel) (pa_cons pe_int (pa_cons (pe_callB (call_min2 rfl) (by rfl) T.b_min (by decide +kernel) (pa_cons (pv 1) (pa_cons (pe_callB (kC K rLenU rfl call_lenU) (by rfl) T.b_len (by decide +kernel) (pa_cons (pv 0) pa_nil)) pa_nil))) pa_nil))) pa_nil)) (blkOk_by (own := [("at", 2)]) (N := nm__law_purses) (sc := (defScope st__law_purses)) (by decide +kernel)) (fun _ _ _ _ _ => (pg_name (i := 2) sc__law_purses.nd rfl (by first | exact Or.inl rfl | exact Or.inr rfl))) (fun _ _ _ _ _ => pts_nil) (fun _ _ _ _ _ => (pe_c c__law_purse hr (by first | decide | exact Nat.le_refl _) rfl passL (pa_cons (pv 0) (pa_cons (pv 2) pa_nil))))))), run_body h fun ⟨ns, n⟩ S hn hl hcl wi => ?_⟩)
  have hn : n ≤ 1000 := hn
  have hl : S.A.length = 0 := hl
  walk_at "pp"
  refine ee_lcO (ie_rng1 ?_)
  walk_at "pp"
  refine cc_len (.rd _) ?_
  walk_at "pp"
  generalize hz : (if (if (((ns.map D.int).length : Nat) : Int) < (n : Int) then (((ns.map D.int).length : Nat) : Int) else (n : Int)) > 1 then (if (((ns.map D.int).length : Nat) : Int) < (n : Int) then (((ns.map D.int).length : Nat) : Int) else (n : Int)) else 1) = z
  have hz2 : 1 ≤ z ∧ z ≤ 1000 := by
    rw [← hz]
    split <;> split <;> omega
  refine ⟨by omega, by omega, fun i μ => ∃ ls : List (List D), ls.length = i ∧ i ≤ z.toNat ∧ μ = .lst (hands i) :: ls.map Cell.lst ∧ ∀ l ∈ ls, PuOk 0 l, fun _ _ _ => trivial, ⟨[], rfl, Nat.zero_le _, rfl, fun l h => (by cases h)⟩, ?_, ?_⟩
  · rintro i x μ hx ⟨ls, hls, hiz, rfl, hp⟩
    obtain ⟨hi, rfl⟩ := rng_get hx
    refine gw_name (by decide) ?_
    refine et_yes ?_
    refine ⟨fun _ => ?_, fun z => (by cases z)⟩
    refine ee_czN ?_
    walk_at "pp"
    refine ⟨(ns, i), by show i ≤ 1000; omega, by show [D.rd (ns.map D.int), D.int (0 + (i : Int))] = [D.rd (ns.map D.int), D.int (i : Int)]; rw [Int.zero_add], by show (D.ltL 0 (ns.map D.int) && true) = true; rw [D.ltL_all.mpr fun x hx => by obtain ⟨j, _, rfl⟩ := List.mem_map.mp hx; rfl]; rfl, fun l hl2 _ => ?_⟩
    refine ⟨hands i, rfl, by rw [hands_len]; omega, ls ++ [l], by rw [List.length_append, hls]; rfl, by omega, ?_, fun m hm => ?_⟩
    · rw [hands_1]
      simp [hls]
    · rcases List.mem_append.mp hm with hm | hm
      · exact hp m hm
      · rw [List.mem_singleton.mp hm]
        exact hl2
  · rintro μ ⟨ls, hls, hiz, rfl, hp⟩
    rw [rng_len] at hls
    walk_at "gp"
    have hlen : (Cell.lst (hands (rng 0 z.toNat).length) :: ls.map Cell.lst).length = ls.length + 1 := by rw [List.length_cons, List.length_map]
    refine gave_all (by rw [hl]; exact Nat.zero_le _) (by rw [hlen]; show decide (0 < ls.length + 1) = true; exact decide_eq_true (by omega)) ?_ ⟨ls, rfl, by rw [rng_len, hls], by omega, hp⟩
    show (D.ltL _ (hands _) && cellsLt _ (ls.map Cell.lst)) = true
    rw [hlen, rng_len, hands_lt (by omega), lists_lt fun l hl => (hp l hl).cl]
    rfl
theorem ask_purses {S : Bs} {δ : Sl} {μ : List Cell} {C : D → List Cell → Prop} {ta : TA} {E : XK} (h : EA K S ta δ μ fun ds μ1 => ∃ (ns : List Int) (n : Nat), ds = [.rd (ns.map D.int), .int (n : Int)] ∧ μ1 = [] ∧ n ≤ 1000 ∧ ∀ ls : List (List D), 0 < ls.length → (∀ l ∈ ls, PuOk 0 l) → C (.own 0) (.lst (hands ls.length) :: ls.map Cell.lst)) : EE K S (tCall (spPurses K) [] E ta) δ μ C :=
  ee_callG (CE := fun _ _ _ => False) [] Wi.none fun A G H σ a' Q q => h A G H σ a' Q fun vs ds A1 G1 H1 μ1 m nn r ⟨ns, n, e, e0, hn, hC⟩ => q vs ds A1 G1 H1 μ1 m nn r (by
    subst e e0
    have hcl : D.ltL 0 [D.rd (ns.map D.int), .int (n : Int)] = true := by
      show (D.ltL 0 (ns.map D.int) && (true && true)) = true
      rw [D.ltL_all.mpr fun x hx => by obtain ⟨j, _, rfl⟩ := List.mem_map.mp hx; rfl]
      rfl
    refine ⟨(ns, n), hn, List.nodup_nil, fun k hk => (by cases hk), rfl, rfl, hsL_cl hcl, by rw [renL_cl hcl]; rfl, fun d ν n' ⟨ls, e1, e2, hls0, hls⟩ _ _ _ _ => ?_, fun cc r ν z _ _ _ => z⟩
    subst e1 e2
    have hid : ∀ k, back [] 0 k = k := fun k => by
      show (if k < 0 then _ else 0 + (k - 0)) = k
      rw [if_neg (Nat.not_lt_zero k)]
      omega
    have hcr : ∀ c : Cell, c.ren (back [] 0) = c := fun c => by
      cases c with
      | off => rfl
      | lst l => exact congrArg Cell.lst (D.renL_id (p := fun _ => true) (fun k _ => hid k) (D.hsL_true l))
    show C (.own (back [] 0 0)) ([] ++ (Cell.lst (hands ls.length) :: ls.map Cell.lst).map (Cell.ren (back [] 0)))
    rw [hid, List.nil_append, show (Cell.lst (hands ls.length) :: ls.map Cell.lst).map (Cell.ren (back [] 0)) = Cell.lst (hands ls.length) :: ls.map Cell.lst by
      rw [show (Cell.ren (back [] 0)) = id from funext hcr, List.map_id]]
    exact hC ls hls0 hls)
theorem rep_all {L : List D} {p : D → Prop} (h : ∀ x ∈ L, p x) {n : Nat} : (∀ x ∈ (List.replicate n L).flatten, p x) ∧ (List.replicate n L).flatten.length = n * L.length := by
  induction n with
  | zero => exact ⟨fun x hx => (by cases hx), (Nat.zero_mul _).symm⟩
  | succ n ih =>
    rw [List.replicate_succ, List.flatten_cons, List.length_append, ih.2, Nat.succ_mul]
    refine ⟨fun x hx => ?_, Nat.add_comm _ _⟩
    rcases List.mem_append.mp hx with hx | hx
    · exact h x hx
    · exact ih.1 x hx
abbrev st_law : Stmt := top 55
abbrev nm_law : List Str := ["script", "purse", "width", "cells", "few"]
theorem sc_law : FnScope nm_law ["script"] (defScope st_law) := ⟨rfl, rfl, rfl, by decide +kernel, rfl, by decide +kernel, by decide +kernel⟩
theorem ok_law (F : Fun K "law" "law" st_law f fd) (T : Tx P w K mg base a) (c__law_purses : CalX P w K mg base 2 "_law_purses" ["script", "few"] (spPurses K)) (c__law_draw : CalX P w K mg base 2 "_law_draw" ["purse", "many"] (spDraw K)) (c__law_one_of : CalX P w K mg base 3 "_law_one_of" ["purse", "some"] (spOneOf K)) (c__law_row : CalX P w K mg base 4 "_law_row" ["purse", "most", "width"] (spRow K)) (c__law_right : CalX P w K mg base 9 "_law_right" ["purse", "cells", "width"] (spRight K)) (c__law_judged : CalX P w K mg base 9 "_law_judged" ["purse", "cells", "width"] (spJudged K)) (c__law_told_again : CalX P w K mg base 9 "_law_told_again" ["cells"] (spAgain K))
    (c__law_greedy : CalX P w K mg base 1 "_law_greedy" ["cells", "width"] (spWins K)) (c_windows_of : CalX P w K mg base 5 "windows_of" ["cells", "width"] (spWinsOf K a)) (c__law_exact : CalX P w K mg base 8 "_law_exact" ["mine", "theirs"] (spExact K 7)) (c__law_first_of_all : CalX P w K mg base 2 "_law_first_of_all" ["cells", "width"] (spFirst K)) (c__law_refused : CalX P w K mg base 9 "_law_refused" ["cells", "width"] (spRefused K)) : FnOk P w K mg base (L2.CX P w) 10 f fd ["script"] (spLaw K) := by
  refine F.okX sc_law (fun vs H Q E h => pro_len h fun _ => rfl) (fun cdv A outer s H vs Q E hr h => ⟨_, (pss_cons (ps_for (passes_of rfl) rfl (pi_listK (K := K) rfl (pe_c c__law_purses hr (by first | decide | exact Nat.le_refl _) rfl (passes_call (takes_of rfl rfl rfl rfl) (fun _ _ _ _ h => h)) (pa_cons (pv 0) (pa_cons pe_int pa_nil)))) (pg_name (i := 1) sc_law.nd rfl (by first | exact Or.inl rfl | exact Or.inr rfl))
      (pss_cons (ps_set (i := 2) sc_law.nd rfl (by first | exact Or.inl rfl | exact Or.inr rfl) (pe_op (kO K rPlus rfl op_plus) pe_int (pe_c c__law_draw hr (by first | decide | exact Nat.le_refl _) rfl (passes_call (takes_of rfl rfl rfl rfl) (fun _ _ _ _ h => h)) (pa_cons (pv 1) (pa_cons (pe_c c__law_one_of hr (by first | decide | exact Nat.le_refl _) rfl (passes_call (takes_of rfl rfl rfl rfl) (fun _ _ _ _ h => h)) (pa_cons (pv 1) (pa_cons (pe_lst (pa_cons pe_int (pa_cons pe_int (pa_cons pe_int (pa_cons pe_int pa_nil))))) pa_nil))) pa_nil)))))
    (pss_cons (ps_set (i := 3) sc_law.nd rfl (by first | exact Or.inl rfl | exact Or.inr rfl) (pe_c c__law_row hr (by first | decide | exact Nat.le_refl _) rfl (passes_call (takes_of rfl rfl rfl rfl) (fun _ _ _ _ h => h)) (pa_cons (pv 1) (pa_cons (pe_ifExp (pt_cmpR (kO K rEqU rfl (op_eqU (hu64 hr))) (pe_c c__law_draw hr (by first | decide | exact Nat.le_refl _) rfl (passes_call (takes_of rfl rfl rfl rfl) (fun _ _ _ _ h => h)) (pa_cons (pv 1) (pa_cons pe_int pa_nil))) pe_int (nomark _)) pe_int pe_int) (pa_cons (pv 2) pa_nil)))))
    (pss_cons (ps_if (PW.pt (pw_or (pt_not (pt_val (pe_c c__law_right hr (by first | decide | exact Nat.le_refl _) rfl (passes_call (takes_of rfl rfl rfl rfl) (fun _ _ _ _ h => h)) (pa_cons (pv 1) (pa_cons (pv 3) (pa_cons (pv 2) pa_nil)))))) (pw_or1 (pt_not (pt_val (pe_c c__law_judged hr (by first | decide | exact Nat.le_refl _) rfl (passes_call (takes_of rfl rfl rfl rfl) (fun _ _ _ _ h => h)) (pa_cons (pv 1) (pa_cons (pv 3) (pa_cons (pv 2) pa_nil))))))))) (pss_one (ps_ret pe_bl)) pss_nil)
    (pss_cons (ps_if (PW.pt (pw_or (pt_not (pt_val (pe_c c__law_told_again hr (by first | decide | exact Nat.le_refl _) rfl (passes_call (takes_of rfl rfl rfl rfl) (fun _ _ _ _ h => h)) (pa_cons (pv 3) pa_nil)))) (pw_or1 (pt_not (pt_val (pe_c c__law_told_again hr (by first | decide | exact Nat.le_refl _) rfl (passes_call (takes_of rfl rfl rfl rfl) (fun _ _ _ _ h => h)) (pa_cons (pe_op op_timesU (pe_op (kO K rPlus rfl op_plus) (pe_slice (kS K rSlU rfl sl_U) (pv 3) po_none (po_some pe_int)) (pe_lst (pa_cons pe_int (pa_cons pe_int pa_nil)))) (pe_op (kO K rPlus rfl op_plus) pe_int (pe_op op_fdivW pe_int (pe_op (kO K rPlus rfl op_plus) pe_int (pe_callB (kC K rLenU rfl call_lenU) (by rfl) T.b_len (by decide +kernel) (pa_cons (pe_slice (kS K rSlU rfl sl_U) (pv 3) po_none (po_some pe_int)) pa_nil)))))) pa_nil))))))) (pss_one (ps_ret pe_bl)) pss_nil)
    (pss_cons (ps_set (i := 4) sc_law.nd rfl (by first | exact Or.inl rfl | exact Or.inr rfl) (pe_c c__law_row hr (by first | decide | exact Nat.le_refl _) rfl (passes_call (takes_of rfl rfl rfl rfl) (fun _ _ _ _ h => h)) (pa_cons (pv 1) (pa_cons pe_int (pa_cons (pe_op (kO K rPlus rfl op_plus) pe_int (pe_op op_mod (pv 2) pe_int)) pa_nil)))))
    (pss_one (ps_if (PW.pt (pw_or (pt_not (pt_val (pe_c c__law_exact hr (by first | decide | exact Nat.le_refl _) rfl (passes_call (takes_of rfl rfl rfl rfl) (fun _ _ _ _ h => h)) (pa_cons (pe_c c__law_greedy hr (by first | decide | exact Nat.le_refl _) rfl (passes_call (takes_of rfl rfl rfl rfl) (fun _ _ _ _ h => h)) (pa_cons (pv 4) (pa_cons (pe_op (kO K rPlus rfl op_plus) pe_int (pe_op op_mod (pv 2) pe_int)) pa_nil))) (pa_cons (pe_c c_windows_of hr (by first | decide | exact Nat.le_refl _) rfl (passes_call (takes_of rfl rfl rfl rfl) (fun _ _ _ _ h => h)) (pa_cons (pv 4) (pa_cons (pe_op (kO K rPlus rfl op_plus) pe_int (pe_op op_mod (pv 2) pe_int)) pa_nil))) pa_nil))))) (pw_or1 (pt_not (pt_val (pe_c c__law_first_of_all hr (by first | decide | exact Nat.le_refl _) rfl (passes_call (takes_of rfl rfl rfl rfl) (fun _ _ _ _ h => h)) (pa_cons (pv 4) (pa_cons (pe_op (kO K rPlus rfl op_plus) pe_int (pe_op op_mod (pv 2) pe_int)) pa_nil)))))))) (pss_one (ps_ret pe_bl)) pss_nil))))))))
    (pss_one (ps_ret (pe_c c__law_refused hr (by first | decide | exact Nat.le_refl _) rfl (passes_call (takes_of rfl rfl rfl rfl) (fun _ _ _ _ h => h)) (pa_cons (pe_slice (kS K rSlU rfl sl_U) (pv 3) po_none (po_some pe_int)) (pa_cons (pv 2) pa_nil)))))), run_body h fun ns S hz hl hcl wi => ?_⟩)
  have hl : S.A.length = 0 := hl
  walk_at "pp"
  refine se_forP (ie_own ?_)
  refine ask_purses ?_
  walk_at "pp"
  refine ⟨rfl, by decide, fun ls hls0 hls => ?_⟩
  refine ⟨0, hands ls.length, rfl, rfl, ?_⟩
  refine ⟨fun j δ μ => ∃ (x1 x2 x3 x4 : Option D), δ = [some (.rd (ns.map D.int)), x1, x2, x3, x4] ∧ μ[0]? = some (.lst (hands ls.length)) ∧ (∀ i, j ≤ i → i < ls.length → ∃ l, μ[i + 1]? = some (.lst l) ∧ PuOk 0 l) ∧ (0 < j → ∃ (wd : Nat) (l : List D), x2 = some (.int (wd : Int)) ∧ 0 < wd ∧ wd ≤ 80 ∧ x3 = some (.lst l) ∧ CellL l), ?_, ⟨none, none, none, none, rfl, rfl, fun i _ hi => ⟨ls[i], by rw [List.getElem?_cons_succ, List.getElem?_map, List.getElem?_eq_getElem hi]; rfl, hls _ (List.getElem_mem hi)⟩, fun h => absurd h (Nat.lt_irrefl 0)⟩, ?_, ?_⟩
  · rintro j δ μ ⟨x1, x2, x3, x4, _, h0, _⟩
    exact h0
  · rintro j x δ μ hj ⟨x1, x2, x3, x4, rfl, h0, hmu, _⟩
    have hjl : j < ls.length := by
      have := (List.getElem?_eq_some_iff.mp hj).1
      rw [hands_len] at this
      exact this
    have ex : x = .own (j + 1) := by
      unfold hands at hj
      rw [List.getElem?_map, List.getElem?_range hjl] at hj
      cases hj
      rfl
    subst ex
    obtain ⟨l0, hl0, hp0⟩ := hmu j (Nat.le_refl _) hjl
    have hlt := (List.getElem?_eq_some_iff.mp hl0).1
    have hs1 : ∀ (μ : List Cell) (c : Cell), j + 1 < μ.length → (μ.set (j + 1) c)[j + 1]? = some c := fun μ c h => List.getElem?_set_self h
    have hl1 : ∀ (μ : List Cell) (c : Cell), j + 1 < μ.length → j + 1 < (μ.set (j + 1) c).length := fun μ c h => by rw [List.length_set]; exact h
    walk_at "pp"
    refine ask_draw (j + 1) ?_
    walk_at "pp"
    refine ask_one (j + 1) ?_
    walk_at "pp"
    refine ee_lst ?_
    walk_at "pp"
    refine ⟨_, l0, 0, rfl, hl0, hp0, by decide, .inl ⟨_, rfl, by decide, by decide, rfl⟩, rfl, fun d l1 hpick _ hp1 => ?_⟩
    obtain ⟨q, rfl, hq0, hq⟩ : ∃ q : Nat, d = .int (q : Int) ∧ 0 < q ∧ q ≤ 80 := by
      have hpick : Pick (.lst [.int 3, .int 6, .int 12, .int 80]) d := hpick
      cases hpick with
      | lst hm =>
        simp only [List.mem_cons, List.not_mem_nil, or_false] at hm
        rcases hm with rfl | rfl | rfl | rfl
        · exact ⟨3, rfl, by decide, by decide⟩
        · exact ⟨6, rfl, by decide, by decide⟩
        · exact ⟨12, rfl, by decide, by decide⟩
        · exact ⟨80, rfl, by decide, by decide⟩
    walk_at "pp"
    refine ⟨(q : Int), l1, 0 + 1, rfl, hs1 _ _ hlt, hp1, by decide, by omega, by omega, fun v l2 hv hp2 => ?_⟩
    have ev : (1 : Int) + (v : Int) = ((1 + v : Nat) : Int) := by omega
    walk_at "pp"
    rw [ev]
    have hw0 : 0 < 1 + v := by omega
    have hwz : 1 + v ≤ 80 := by omega
    generalize 1 + v = wd at *
    let M : List Cell → List D → Nat → Prop := fun μ p n => μ[0]? = some (.lst (hands ls.length)) ∧ μ[j + 1]? = some (.lst p) ∧ PuOk n p ∧ ∀ i, j + 1 ≤ i → i < ls.length → ∃ l, μ[i + 1]? = some (.lst l) ∧ PuOk 0 l
    have step : ∀ {μ : List Cell} {p p' : List D} {n n' : Nat}, M μ p n → PuOk n' p' → M (μ.set (j + 1) (.lst p')) p' n' := fun {μ p p' n n'} ⟨h1, h2, _, h4⟩ h => by
      have hlt := (List.getElem?_eq_some_iff.mp h2).1
      refine ⟨by rw [List.getElem?_set_ne (by omega)]; exact h1, hs1 _ _ hlt, h, fun i hi hi2 => ?_⟩
      rw [List.getElem?_set_ne (by omega)]
      exact h4 i hi hi2
    have m0 : M μ l0 0 := ⟨h0, hl0, hp0, fun i hi hi2 => hmu i (by omega) hi2⟩
    have m2 := step (step m0 hp1) hp2
    generalize (μ.set (j + 1) (Cell.lst l1)).set (j + 1) (Cell.lst l2) = μ at *
    refine EE.imp (C := fun d μ' => ∃ (l p' : List D), d = .lst l ∧ CellL l ∧ l.length ≤ 600 ∧ M μ' p' 1000010) ?_ ?_
    · have fin : ∀ (n : Nat) (d : D) (ν : List Cell), n ≤ 600 → RowOk n d → ∃ l, d = .lst l ∧ CellL l ∧ l.length ≤ 600 := fun n d ν hn ⟨l, e, h1, h2⟩ => ⟨l, e, ⟨by omega, h1⟩, by omega⟩
      refine ask_drawn (j + 1) ?_
      walk_at "pp"
      refine ask_draw (j + 1) ?_
      walk_at "pp"
      refine ⟨16, l2, _, rfl, m2.2.1, m2.2.2.1, by decide, by decide, by decide, fun u l3 hu hp3 => ?_⟩
      have m3 := step m2 hp3
      generalize μ.set (j + 1) (Cell.lst l3) = μ at *
      walk_at "pp"
      refine ⟨fun _ => ?_, fun _ => ?_⟩
      · walk_at "pp"
        refine ⟨(600, wd), l3, _, rfl, m3.2.1, m3.2.2.1, by decide, ⟨Nat.le_of_ble_eq_true rfl, hw0, hwz⟩, rfl, fun d l4 hd _ hp4 => ?_⟩
        obtain ⟨l, e1, e2, e3⟩ := fin 600 d μ (by decide) hd
        exact ⟨l, l4, e1, e2, e3, step m3 (hp4.le (by decide))⟩
      · walk_at "pp"
        refine ⟨(40, wd), l3, _, rfl, m3.2.1, m3.2.2.1, by decide, ⟨Nat.le_of_ble_eq_true rfl, hw0, hwz⟩, rfl, fun d l4 hd _ hp4 => ?_⟩
        obtain ⟨l, e1, e2, e3⟩ := fin 40 d μ (by decide) hd
        exact ⟨l, l4, e1, e2, e3, step m3 (hp4.le (by decide))⟩
    rintro d μ ⟨l, p3, rfl, hc, hlz, m3⟩
    have hcc : D.ltL 0 l = true := cells_cl hc.2
    walk_at "pp"
    refine ask_drawn (j + 1) ?_
    walk_at "pp"
    refine ⟨(l, wd), p3, _, rfl, m3.2.1, m3.2.2.1, by decide, ⟨hc, hlz, hw0, hwz⟩, by show (D.ltL 0 l && (true && true)) = true; rw [hcc]; rfl, fun d p4 hd _ hp4 => ?_⟩
    subst hd
    have m4 := step m3 hp4
    generalize μ.set (j + 1) (Cell.lst p4) = μ at *
    walk_at "pp"
    refine ask_drawn (j + 1) ?_
    walk_at "pp"
    refine ⟨(l, wd), p4, _, rfl, m4.2.1, m4.2.2.1, by decide, ⟨hc, hlz, hw0, hwz⟩, by show (D.ltL 0 l && (true && true)) = true; rw [hcc]; rfl, fun d p5 hd _ hp5 => ?_⟩
    subst hd
    have m5 := step m4 hp5
    generalize μ.set (j + 1) (Cell.lst p5) = μ at *
    walk_at "pp"
    refine ee_cz ?_
    walk_at "pp"
    refine ⟨l, ⟨hc, by omega⟩, rfl, by show (D.ltL 0 l && true) = true; rw [hcc]; rfl, ?_⟩
    rintro d rfl
    walk_at "pp"
    refine ee_cz ?_
    walk_at "pp"
    have e40 : cutD l none (some (40 : Int)) = l.take 40 := cutD_0n (j := 40)
    refine ss_lst ?_
    rw [e40]
    have hk40 : (l.take 40).length ≤ 40 := by rw [List.length_take]; exact Nat.min_le_left _ _
    have hkc : ∀ c ∈ l.take 40, IsC c := fun c hcm => hc.2 c (List.mem_of_mem_take hcm)
    generalize l.take 40 = k40 at *
    walk_at "pp"
    refine ee_lst ?_
    walk_at "pp"
    refine oo_addL (by show k40.length + 2 ≤ _; omega) ?_
    walk_at "pp"
    refine ss_lst ?_
    rw [e40]
    walk_at "pp"
    refine cc_len (.lst _) ?_
    walk_at "pp"
    rw [show (2 : Int) + (k40.length : Int) = ((2 + k40.length : Nat) : Int) by omega]
    refine oo_div ⟨by omega, by show Nat.log2 (2 + k40.length) < 9000; have := Nat.log2_le_self (2 + k40.length); omega⟩ ?_
    walk_at "pp"
    rw [show (1 : Int) + 90 / ((2 + k40.length : Nat) : Int) = ((1 + 90 / (2 + k40.length) : Nat) : Int) by rw [show (90 : Int) / ((2 + k40.length : Nat) : Int) = ((90 / (2 + k40.length) : Nat) : Int) from (Int.natCast_ediv 90 (2 + k40.length)).symm]; rfl]
    have hq := Nat.mul_div_le 90 (2 + k40.length)
    have hq2 : 90 / (2 + k40.length) ≤ 90 := Nat.div_le_self _ _
    generalize 90 / (2 + k40.length) = qq at *
    have hkc2 : ∀ c ∈ k40 ++ [D.int 7, D.int 0], IsC c := fun c hcm => by
      rcases List.mem_append.mp hcm with hcm | hcm
      · exact hkc c hcm
      · simp only [List.mem_cons, List.not_mem_nil, or_false] at hcm
        rcases hcm with rfl | rfl
        · exact ⟨7, rfl, by decide, by decide⟩
        · exact ⟨0, rfl, by decide, by decide⟩
    obtain ⟨hr1, hr2⟩ := rep_all hkc2 (n := 1 + qq)
    have hr3 : (1 + qq) * (k40 ++ [D.int 7, D.int 0]).length ≤ 200 := by
      rw [List.length_append]
      show (1 + qq) * (k40.length + 2) ≤ 200
      rw [Nat.add_mul, Nat.one_mul, Nat.mul_comm, Nat.add_comm k40.length 2]
      omega
    refine oo_repL (n := 1 + qq) (by omega) (by rw [Nat.mul_comm]; show (1 + qq) * (k40 ++ [D.int 7, D.int 0]).length ≤ _; omega) ?_
    walk_at "pp"
    refine ⟨(List.replicate (1 + qq) (k40 ++ [D.int 7, D.int 0])).flatten, ⟨⟨by omega, hr1⟩, by omega⟩, rfl, by show (D.ltL 0 _ && true) = true; rw [isc_cl hr1]; rfl, ?_⟩
    rintro d rfl
    walk_at "pp"
    refine EE.imp (C := fun d μ' => ∃ (lf p' : List D), d = .lst lf ∧ CellL lf ∧ lf.length ≤ 8 ∧ M μ' p' 2100010) ?_ ?_
    · refine ask_drawn (j + 1) ?_
      walk_at "pp"
      refine oo_mod (by decide) ?_
      have e4 : (1 : Int) + (wd : Int) % 4 = ((1 + wd % 4 : Nat) : Int) := by omega
      walk_at "pp"
      rw [e4]
      refine ⟨(8, 1 + wd % 4), p5, _, rfl, m5.2.1, m5.2.2.1, by decide, ⟨by show 8 ≤ 600; decide, by show 0 < 1 + wd % 4; omega, by show 1 + wd % 4 ≤ 80; omega⟩, rfl, fun d l4 hd _ hp4 => ?_⟩
      obtain ⟨lf, e1, e2, e3⟩ := hd
      have e3 : lf.length ≤ 8 := e3
      exact ⟨lf, l4, e1, ⟨by omega, e2⟩, e3, step m5 (hp4.le (by decide))⟩
    rintro d μ ⟨lf, p6, rfl, hf, hfz, m6⟩
    have hfc : D.ltL 0 lf = true := cells_cl hf.2
    have e4 : (1 : Int) + (wd : Int) % 4 = ((1 + wd % 4 : Nat) : Int) := by omega
    have hv0 : 0 < 1 + wd % 4 := by omega
    have hvz : 1 + wd % 4 ≤ 80 := by omega
    generalize 1 + wd % 4 = vd at *
    have ha0 := ans0_ok hf hv0
    have hwl := wins_len (l := lf) hv0
    walk_at "pp"
    refine ask_same (.lst ((winsOf lf vd).map winD)) (wins_ex (by omega)) (wins_cl (m := 0)) ?_
    walk_at "pp"
    refine ee_czS ?_
    walk_at "pp"
    refine oo_mod (by decide) ?_
    walk_at "pp"
    rw [e4]
    refine ⟨(lf, vd), ⟨hf, hv0, by show vd ≤ _; omega⟩, rfl, by show (D.ltL 0 lf && (true && true)) = true; rw [hfc]; rfl, ?_⟩
    rintro u rfl _
    walk_at "pp"
    refine ask_told (ans := fun t : D × D => ansW0 t.1 t.2) (.lst lf, .int (vd : Int)) _ ⟨cells_pre hf, wd_pre (by omega)⟩ ha0 (by show (D.ltL 0 lf && (true && true)) = true; rw [hfc]; rfl) ?_
    walk_at "pp"
    refine oo_mod (by decide) ?_
    walk_at "pp"
    rw [e4]
    refine ⟨rfl, ?_⟩
    walk_at "pp"
    refine ⟨rfl, ?_⟩
    walk_at "pp"
    refine ee_cz ?_
    walk_at "pp"
    refine oo_mod (by decide) ?_
    walk_at "pp"
    rw [e4]
    refine ⟨(lf, vd), ⟨hf, hfz, hv0, hvz⟩, rfl, by show (D.ltL 0 lf && (true && true)) = true; rw [hfc]; rfl, ?_⟩
    rintro u rfl
    walk_at "pp"
    refine ⟨_, _, _, _, rfl, m6.1, m6.2.2.2, fun _ => ⟨wd, l, rfl, hw0, hwz, rfl, hc⟩⟩
  · rintro δ μ ⟨x1, x2, x3, x4, rfl, h0, hmu, hb⟩
    obtain ⟨wd, l, rfl, hw, hwz, rfl, hc⟩ := hb (by rw [hands_len]; exact hls0)
    walk_at "pp"
    refine ee_cz ?_
    walk_at "pp"
    refine ss_lst ?_
    rw [show cutD l none (some (30 : Int)) = l.take 30 from cutD_0n (j := 30)]
    walk_at "pp"
    have hk30 : (l.take 30).length ≤ 30 := by rw [List.length_take]; exact Nat.min_le_left _ _
    have hkc : CellL (l.take 30) := ⟨by omega, fun c hcm => hc.2 c (List.mem_of_mem_take hcm)⟩
    refine ⟨(l.take 30, wd), ⟨hkc, by show (l.take 30).length ≤ 100; omega, hw, hwz⟩, rfl, by show (D.ltL 0 (l.take 30) && (true && true)) = true; rw [cells_cl hkc.2]; rfl, ?_⟩
    rintro u rfl
    walk_at "gp"
    exact gaveP hl (by rfl) rfl
end


abbrev si_InvalidPage : Stmt := inClass (top 2) 0
theorem sci_InvalidPage : FnScope ["self", "value"] ["self", "value"] (defScope si_InvalidPage) := ⟨rfl, rfl, rfl, by decide +kernel, rfl, by decide +kernel, by decide +kernel⟩
abbrev si_InvalidNumber : Stmt := inClass (top 3) 0
theorem sci_InvalidNumber : FnScope ["self", "value"] ["self", "value"] (defScope si_InvalidNumber) := ⟨rfl, rfl, rfl, by decide +kernel, rfl, by decide +kernel, by decide +kernel⟩
abbrev si_InvalidCount : Stmt := inClass (top 4) 0
theorem sci_InvalidCount : FnScope ["self", "value"] ["self", "value"] (defScope si_InvalidCount) := ⟨rfl, rfl, rfl, by decide +kernel, rfl, by decide +kernel, by decide +kernel⟩
abbrev si_InvalidText : Stmt := inClass (top 5) 0
theorem sci_InvalidText : FnScope ["self", "value"] ["self", "value"] (defScope si_InvalidText) := ⟨rfl, rfl, rfl, by decide +kernel, rfl, by decide +kernel, by decide +kernel⟩
abbrev si_InvalidPlace : Stmt := inClass (top 6) 0
theorem sci_InvalidPlace : FnScope ["self", "value"] ["self", "value"] (defScope si_InvalidPlace) := ⟨rfl, rfl, rfl, by decide +kernel, rfl, by decide +kernel, by decide +kernel⟩
abbrev si_InvalidCells : Stmt := inClass (top 7) 0
theorem sci_InvalidCells : FnScope ["self", "value"] ["self", "value"] (defScope si_InvalidCells) := ⟨rfl, rfl, rfl, by decide +kernel, rfl, by decide +kernel, by decide +kernel⟩
abbrev si_InvalidBook : Stmt := inClass (top 8) 0
theorem sci_InvalidBook : FnScope ["self", "value"] ["self", "value"] (defScope si_InvalidBook) := ⟨rfl, rfl, rfl, by decide +kernel, rfl, by decide +kernel, by decide +kernel⟩
abbrev si_InvalidWidth : Stmt := inClass (top 9) 0
theorem sci_InvalidWidth : FnScope ["self", "value"] ["self", "value"] (defScope si_InvalidWidth) := ⟨rfl, rfl, rfl, by decide +kernel, rfl, by decide +kernel, by decide +kernel⟩
abbrev si_InvalidKey : Stmt := inClass (top 10) 0
theorem sci_InvalidKey : FnScope ["self", "value"] ["self", "value"] (defScope si_InvalidKey) := ⟨rfl, rfl, rfl, by decide +kernel, rfl, by decide +kernel, by decide +kernel⟩
abbrev si_InvalidMarks : Stmt := inClass (top 11) 0
theorem sci_InvalidMarks : FnScope ["self", "value"] ["self", "value"] (defScope si_InvalidMarks) := ⟨rfl, rfl, rfl, by decide +kernel, rfl, by decide +kernel, by decide +kernel⟩
abbrev si_InvalidStand : Stmt := inClass (top 12) 0
theorem sci_InvalidStand : FnScope ["self", "value"] ["self", "value"] (defScope si_InvalidStand) := ⟨rfl, rfl, rfl, by decide +kernel, rfl, by decide +kernel, by decide +kernel⟩
abbrev si_InvalidLine : Stmt := inClass (top 13) 0
theorem sci_InvalidLine : FnScope ["self", "value"] ["self", "value"] (defScope si_InvalidLine) := ⟨rfl, rfl, rfl, by decide +kernel, rfl, by decide +kernel, by decide +kernel⟩
abbrev si_NotWritten : Stmt := inClass (top 14) 0
theorem sci_NotWritten : FnScope ["self", "value"] ["self", "value"] (defScope si_NotWritten) := ⟨rfl, rfl, rfl, by decide +kernel, rfl, by decide +kernel, by decide +kernel⟩
/-- a def that is called with keywords alone -/
theorem kbd_mk {K : PySem.W.Frag} {x : Str} {st : Stmt} {f : Addr} {fd : FuncData} {ps ks : List Str} {π : List Nat} (F : Fun K x x st f fd)
    (h : ∀ (kV doc pm : Value) (an : Option Addr) (cdv ct : Value) (ws : List Value), ws.length = ks.length → bindArgs (PySem.W.fnOf x x (defArgs st) (defBody st) (defScope st) .none kV doc pm an cdv ct) ⟨[], ks.zip ws⟩ = pure (ps.zip (permL π ws))) : KBd K fd ps ks π := by
  obtain ⟨oc, od, kV, doc, pm, an, cdv, ct, osl, rfl, lk, hcd⟩ := F.ex
  exact fun s ws hl => .of_eq (h kV doc pm an cdv ct ws hl)
theorem all_ok {P : Program} {w : World} {K : PySem.W.Frag} {h : Heap} {mg : Str → Option Value} {fa : Addr} {eReadingError eInvalidPage eInvalidNumber eInvalidCount eInvalidText eInvalidPlace eInvalidCells eInvalidBook eInvalidWidth eInvalidKey eInvalidMarks eInvalidStand eInvalidLine eNotWritten : Addr} (X : K.In h) (G : h.Ns mainGlobals mg) (hfa : mg "law" = some (.ref fa))
    (D_is_whole : DefF K mg "is_whole" st_is_whole)
    (D_is_count : DefD K mg "is_count" st_is_count [.int 0])
    (D_is_tuple_of : DefF K mg "is_tuple_of" st_is_tuple_of)
    (D_check_count : DefD K mg "check_count" st_check_count [.int 0, .non])
    (D_is_cell : DefF K mg "is_cell" st_is_cell)
    (D_is_cells : DefF K mg "is_cells" st_is_cells)
    (D_check_cells : DefF K mg "check_cells" st_check_cells)
    (D_check_width : DefF K mg "check_width" st_check_width)
    (D_parting_kinds : DefF K mg "parting_kinds" st_parting_kinds)
    (D_windows_made : DefF K mg "windows_made" st_windows_made)
    (D_windows_of : DefF K mg "windows_of" st_windows_of)
    (D_is_breaking : DefF K mg "is_breaking" st_is_breaking)
    (D_window_with : DefF K mg "window_with" st_window_with)
    (D_window_at : DefF K mg "window_at" st_window_at)
    (D_least_width : DefF K mg "least_width" st_least_width)
    (D__law_door : DefF K mg "_law_door" st__law_door)
    (D__law_heard : DefF K mg "_law_heard" st__law_heard)
    (D__law_no_counts : DefF K mg "_law_no_counts" st__law_no_counts)
    (D__law_greedy : DefF K mg "_law_greedy" st__law_greedy)
    (D__law_purse : DefF K mg "_law_purse" st__law_purse)
    (D__law_mixed : DefF K mg "_law_mixed" st__law_mixed)
    (D__law_draw : DefF K mg "_law_draw" st__law_draw)
    (D__law_purses : DefF K mg "_law_purses" st__law_purses)
    (D__law_one_of : DefF K mg "_law_one_of" st__law_one_of)
    (D__law_exact : DefF K mg "_law_exact" st__law_exact)
    (D__law_some : DefF K mg "_law_some" st__law_some)
    (D__law_row : DefF K mg "_law_row" st__law_row)
    (D__law_is_breaking : DefF K mg "_law_is_breaking" st__law_is_breaking)
    (D__law_asked : DefF K mg "_law_asked" st__law_asked)
    (D__law_drawn_breaking : DefF K mg "_law_drawn_breaking" st__law_drawn_breaking)
    (D__law_bent : DefF K mg "_law_bent" st__law_bent)
    (D__law_judged : DefF K mg "_law_judged" st__law_judged)
    (D__law_first_of_all : DefF K mg "_law_first_of_all" st__law_first_of_all)
    (D__law_right : DefF K mg "_law_right" st__law_right)
    (D__law_told_again : DefF K mg "_law_told_again" st__law_told_again)
    (D__law_refused : DefF K mg "_law_refused" st__law_refused)
    (D_law : DefF K mg "law" st_law)
    (z_isinstance : PySem.W.nsIn K mainGlobals "isinstance" = some none)
    (z_bool : PySem.W.nsIn K mainGlobals "bool" = some none)
    (z_int : PySem.W.nsIn K mainGlobals "int" = some none)
    (z_max : PySem.W.nsIn K mainGlobals "max" = some none)
    (z_len : PySem.W.nsIn K mainGlobals "len" = some none)
    (z_tuple : PySem.W.nsIn K mainGlobals "tuple" = some none)
    (z_all : PySem.W.nsIn K mainGlobals "all" = some none)
    (z_list : PySem.W.nsIn K mainGlobals "list" = some none)
    (z_range : PySem.W.nsIn K mainGlobals "range" = some none)
    (z_min : PySem.W.nsIn K mainGlobals "min" = some none)
    (z_enumerate : PySem.W.nsIn K mainGlobals "enumerate" = some none)
    (z_ValueError : PySem.W.nsIn K mainGlobals "ValueError" = some none)
    (z_sum : PySem.W.nsIn K mainGlobals "sum" = some none)
    (z_dict : PySem.W.nsIn K mainGlobals "dict" = some none)
    (z_zip : PySem.W.nsIn K mainGlobals "zip" = some none)
    (z_str : PySem.W.nsIn K mainGlobals "str" = some none)
    (z_sorted : PySem.W.nsIn K mainGlobals "sorted" = some none)
    (a_ReadingError : PySem.W.nsIn K mainGlobals "ReadingError" = some (some (.ref eReadingError)))
    (a_InvalidPage : PySem.W.nsIn K mainGlobals "InvalidPage" = some (some (.ref eInvalidPage)))
    (a_InvalidNumber : PySem.W.nsIn K mainGlobals "InvalidNumber" = some (some (.ref eInvalidNumber)))
    (a_InvalidCount : PySem.W.nsIn K mainGlobals "InvalidCount" = some (some (.ref eInvalidCount)))
    (a_InvalidText : PySem.W.nsIn K mainGlobals "InvalidText" = some (some (.ref eInvalidText)))
    (a_InvalidPlace : PySem.W.nsIn K mainGlobals "InvalidPlace" = some (some (.ref eInvalidPlace)))
    (a_InvalidCells : PySem.W.nsIn K mainGlobals "InvalidCells" = some (some (.ref eInvalidCells)))
    (a_InvalidBook : PySem.W.nsIn K mainGlobals "InvalidBook" = some (some (.ref eInvalidBook)))
    (a_InvalidWidth : PySem.W.nsIn K mainGlobals "InvalidWidth" = some (some (.ref eInvalidWidth)))
    (a_InvalidKey : PySem.W.nsIn K mainGlobals "InvalidKey" = some (some (.ref eInvalidKey)))
    (a_InvalidMarks : PySem.W.nsIn K mainGlobals "InvalidMarks" = some (some (.ref eInvalidMarks)))
    (a_InvalidStand : PySem.W.nsIn K mainGlobals "InvalidStand" = some (some (.ref eInvalidStand)))
    (a_InvalidLine : PySem.W.nsIn K mainGlobals "InvalidLine" = some (some (.ref eInvalidLine)))
    (a_NotWritten : PySem.W.nsIn K mainGlobals "NotWritten" = some (some (.ref eNotWritten)))
    (E_InvalidPage : ∀ P w base, ErrK P w K mg base "InvalidPage" eInvalidPage)
    (E_InvalidNumber : ∀ P w base, ErrK P w K mg base "InvalidNumber" eInvalidNumber)
    (E_InvalidCount : ∀ P w base, ErrK P w K mg base "InvalidCount" eInvalidCount)
    (E_InvalidText : ∀ P w base, ErrK P w K mg base "InvalidText" eInvalidText)
    (E_InvalidPlace : ∀ P w base, ErrK P w K mg base "InvalidPlace" eInvalidPlace)
    (E_InvalidCells : ∀ P w base, ErrK P w K mg base "InvalidCells" eInvalidCells)
    (E_InvalidBook : ∀ P w base, ErrK P w K mg base "InvalidBook" eInvalidBook)
    (E_InvalidWidth : ∀ P w base, ErrK P w K mg base "InvalidWidth" eInvalidWidth)
    (E_InvalidKey : ∀ P w base, ErrK P w K mg base "InvalidKey" eInvalidKey)
    (E_InvalidMarks : ∀ P w base, ErrK P w K mg base "InvalidMarks" eInvalidMarks)
    (E_InvalidStand : ∀ P w base, ErrK P w K mg base "InvalidStand" eInvalidStand)
    (E_InvalidLine : ∀ P w base, ErrK P w K mg base "InvalidLine" eInvalidLine)
    (E_NotWritten : ∀ P w base, ErrK P w K mg base "NotWritten" eNotWritten)
    (i_InvalidPage : PySem.W.isClsIn K eInvalidPage = true) (t_InvalidPage : PySem.W.typeIn K (.ref eInvalidPage) = some (.type "type"))
    (i_InvalidBook : PySem.W.isClsIn K eInvalidBook = true) (t_InvalidBook : PySem.W.typeIn K (.ref eInvalidBook) = some (.type "type"))
    (i_InvalidText : PySem.W.isClsIn K eInvalidText = true) (t_InvalidText : PySem.W.typeIn K (.ref eInvalidText) = some (.type "type"))
    (i_InvalidCells : PySem.W.isClsIn K eInvalidCells = true) (t_InvalidCells : PySem.W.typeIn K (.ref eInvalidCells) = some (.type "type"))
    (i_InvalidWidth : PySem.W.isClsIn K eInvalidWidth = true) (t_InvalidWidth : PySem.W.typeIn K (.ref eInvalidWidth) = some (.type "type"))
    (i_InvalidCount : PySem.W.isClsIn K eInvalidCount = true) (t_InvalidCount : PySem.W.typeIn K (.ref eInvalidCount) = some (.type "type"))
    (i_InvalidKey : PySem.W.isClsIn K eInvalidKey = true) (t_InvalidKey : PySem.W.typeIn K (.ref eInvalidKey) = some (.type "type"))
    (i_InvalidMarks : PySem.W.isClsIn K eInvalidMarks = true) (t_InvalidMarks : PySem.W.typeIn K (.ref eInvalidMarks) = some (.type "type"))
    (i_InvalidStand : PySem.W.isClsIn K eInvalidStand = true) (t_InvalidStand : PySem.W.typeIn K (.ref eInvalidStand) = some (.type "type"))
    (i_InvalidPlace : PySem.W.isClsIn K eInvalidPlace = true) (t_InvalidPlace : PySem.W.typeIn K (.ref eInvalidPlace) = some (.type "type"))
    (i_InvalidLine : PySem.W.isClsIn K eInvalidLine = true) (t_InvalidLine : PySem.W.typeIn K (.ref eInvalidLine) = some (.type "type"))
    (i_InvalidNumber : PySem.W.isClsIn K eInvalidNumber = true) (t_InvalidNumber : PySem.W.typeIn K (.ref eInvalidNumber) = some (.type "type"))
    (i_NotWritten : PySem.W.isClsIn K eNotWritten = true) (t_NotWritten : PySem.W.typeIn K (.ref eNotWritten) = some (.type "type"))
    (i_ReadingError : PySem.W.isClsIn K eReadingError = true) (t_ReadingError : PySem.W.typeIn K (.ref eReadingError) = some (.type "type"))
    (bR : PySem.W.subIn K (.ref eReadingError) (.type "BaseException") = some true)
    (s_InvalidCells_InvalidPage : PySem.W.subIn K (.ref eInvalidCells) (.ref eInvalidPage) = some false) (n_InvalidCells_InvalidPage : (Value.ref eInvalidCells == Value.ref eInvalidPage) = false)
    (s_InvalidCells_InvalidBook : PySem.W.subIn K (.ref eInvalidCells) (.ref eInvalidBook) = some false) (n_InvalidCells_InvalidBook : (Value.ref eInvalidCells == Value.ref eInvalidBook) = false)
    (s_InvalidCells_InvalidText : PySem.W.subIn K (.ref eInvalidCells) (.ref eInvalidText) = some false) (n_InvalidCells_InvalidText : (Value.ref eInvalidCells == Value.ref eInvalidText) = false)
    (s_InvalidCells_InvalidWidth : PySem.W.subIn K (.ref eInvalidCells) (.ref eInvalidWidth) = some false) (n_InvalidCells_InvalidWidth : (Value.ref eInvalidCells == Value.ref eInvalidWidth) = false)
    (s_InvalidCells_InvalidCount : PySem.W.subIn K (.ref eInvalidCells) (.ref eInvalidCount) = some false) (n_InvalidCells_InvalidCount : (Value.ref eInvalidCells == Value.ref eInvalidCount) = false)
    (s_InvalidCells_InvalidKey : PySem.W.subIn K (.ref eInvalidCells) (.ref eInvalidKey) = some false) (n_InvalidCells_InvalidKey : (Value.ref eInvalidCells == Value.ref eInvalidKey) = false)
    (s_InvalidCells_InvalidMarks : PySem.W.subIn K (.ref eInvalidCells) (.ref eInvalidMarks) = some false) (n_InvalidCells_InvalidMarks : (Value.ref eInvalidCells == Value.ref eInvalidMarks) = false)
    (s_InvalidCells_InvalidStand : PySem.W.subIn K (.ref eInvalidCells) (.ref eInvalidStand) = some false) (n_InvalidCells_InvalidStand : (Value.ref eInvalidCells == Value.ref eInvalidStand) = false)
    (s_InvalidCells_InvalidPlace : PySem.W.subIn K (.ref eInvalidCells) (.ref eInvalidPlace) = some false) (n_InvalidCells_InvalidPlace : (Value.ref eInvalidCells == Value.ref eInvalidPlace) = false)
    (s_InvalidCells_InvalidLine : PySem.W.subIn K (.ref eInvalidCells) (.ref eInvalidLine) = some false) (n_InvalidCells_InvalidLine : (Value.ref eInvalidCells == Value.ref eInvalidLine) = false)
    (s_InvalidCells_InvalidNumber : PySem.W.subIn K (.ref eInvalidCells) (.ref eInvalidNumber) = some false) (n_InvalidCells_InvalidNumber : (Value.ref eInvalidCells == Value.ref eInvalidNumber) = false)
    (s_InvalidCells_NotWritten : PySem.W.subIn K (.ref eInvalidCells) (.ref eNotWritten) = some false) (n_InvalidCells_NotWritten : (Value.ref eInvalidCells == Value.ref eNotWritten) = false)
    (v_InvalidCells : PySem.W.subIn K (.ref eInvalidCells) (.type "ValueError") = some true) (r_InvalidCells : PySem.W.subIn K (.ref eInvalidCells) (.ref eReadingError) = some true)
    (s_InvalidWidth_InvalidPage : PySem.W.subIn K (.ref eInvalidWidth) (.ref eInvalidPage) = some false) (n_InvalidWidth_InvalidPage : (Value.ref eInvalidWidth == Value.ref eInvalidPage) = false)
    (s_InvalidWidth_InvalidBook : PySem.W.subIn K (.ref eInvalidWidth) (.ref eInvalidBook) = some false) (n_InvalidWidth_InvalidBook : (Value.ref eInvalidWidth == Value.ref eInvalidBook) = false)
    (s_InvalidWidth_InvalidText : PySem.W.subIn K (.ref eInvalidWidth) (.ref eInvalidText) = some false) (n_InvalidWidth_InvalidText : (Value.ref eInvalidWidth == Value.ref eInvalidText) = false)
    (s_InvalidWidth_InvalidCells : PySem.W.subIn K (.ref eInvalidWidth) (.ref eInvalidCells) = some false) (n_InvalidWidth_InvalidCells : (Value.ref eInvalidWidth == Value.ref eInvalidCells) = false)
    (s_InvalidWidth_InvalidCount : PySem.W.subIn K (.ref eInvalidWidth) (.ref eInvalidCount) = some false) (n_InvalidWidth_InvalidCount : (Value.ref eInvalidWidth == Value.ref eInvalidCount) = false)
    (s_InvalidWidth_InvalidKey : PySem.W.subIn K (.ref eInvalidWidth) (.ref eInvalidKey) = some false) (n_InvalidWidth_InvalidKey : (Value.ref eInvalidWidth == Value.ref eInvalidKey) = false)
    (s_InvalidWidth_InvalidMarks : PySem.W.subIn K (.ref eInvalidWidth) (.ref eInvalidMarks) = some false) (n_InvalidWidth_InvalidMarks : (Value.ref eInvalidWidth == Value.ref eInvalidMarks) = false)
    (s_InvalidWidth_InvalidStand : PySem.W.subIn K (.ref eInvalidWidth) (.ref eInvalidStand) = some false) (n_InvalidWidth_InvalidStand : (Value.ref eInvalidWidth == Value.ref eInvalidStand) = false)
    (s_InvalidWidth_InvalidPlace : PySem.W.subIn K (.ref eInvalidWidth) (.ref eInvalidPlace) = some false) (n_InvalidWidth_InvalidPlace : (Value.ref eInvalidWidth == Value.ref eInvalidPlace) = false)
    (s_InvalidWidth_InvalidLine : PySem.W.subIn K (.ref eInvalidWidth) (.ref eInvalidLine) = some false) (n_InvalidWidth_InvalidLine : (Value.ref eInvalidWidth == Value.ref eInvalidLine) = false)
    (s_InvalidWidth_InvalidNumber : PySem.W.subIn K (.ref eInvalidWidth) (.ref eInvalidNumber) = some false) (n_InvalidWidth_InvalidNumber : (Value.ref eInvalidWidth == Value.ref eInvalidNumber) = false)
    (s_InvalidWidth_NotWritten : PySem.W.subIn K (.ref eInvalidWidth) (.ref eNotWritten) = some false) (n_InvalidWidth_NotWritten : (Value.ref eInvalidWidth == Value.ref eNotWritten) = false)
    (v_InvalidWidth : PySem.W.subIn K (.ref eInvalidWidth) (.type "ValueError") = some true) (r_InvalidWidth : PySem.W.subIn K (.ref eInvalidWidth) (.ref eReadingError) = some true)
    (s_InvalidCount_InvalidPage : PySem.W.subIn K (.ref eInvalidCount) (.ref eInvalidPage) = some false) (n_InvalidCount_InvalidPage : (Value.ref eInvalidCount == Value.ref eInvalidPage) = false)
    (s_InvalidCount_InvalidBook : PySem.W.subIn K (.ref eInvalidCount) (.ref eInvalidBook) = some false) (n_InvalidCount_InvalidBook : (Value.ref eInvalidCount == Value.ref eInvalidBook) = false)
    (s_InvalidCount_InvalidText : PySem.W.subIn K (.ref eInvalidCount) (.ref eInvalidText) = some false) (n_InvalidCount_InvalidText : (Value.ref eInvalidCount == Value.ref eInvalidText) = false)
    (s_InvalidCount_InvalidCells : PySem.W.subIn K (.ref eInvalidCount) (.ref eInvalidCells) = some false) (n_InvalidCount_InvalidCells : (Value.ref eInvalidCount == Value.ref eInvalidCells) = false)
    (s_InvalidCount_InvalidWidth : PySem.W.subIn K (.ref eInvalidCount) (.ref eInvalidWidth) = some false) (n_InvalidCount_InvalidWidth : (Value.ref eInvalidCount == Value.ref eInvalidWidth) = false)
    (s_InvalidCount_InvalidKey : PySem.W.subIn K (.ref eInvalidCount) (.ref eInvalidKey) = some false) (n_InvalidCount_InvalidKey : (Value.ref eInvalidCount == Value.ref eInvalidKey) = false)
    (s_InvalidCount_InvalidMarks : PySem.W.subIn K (.ref eInvalidCount) (.ref eInvalidMarks) = some false) (n_InvalidCount_InvalidMarks : (Value.ref eInvalidCount == Value.ref eInvalidMarks) = false)
    (s_InvalidCount_InvalidStand : PySem.W.subIn K (.ref eInvalidCount) (.ref eInvalidStand) = some false) (n_InvalidCount_InvalidStand : (Value.ref eInvalidCount == Value.ref eInvalidStand) = false)
    (s_InvalidCount_InvalidPlace : PySem.W.subIn K (.ref eInvalidCount) (.ref eInvalidPlace) = some false) (n_InvalidCount_InvalidPlace : (Value.ref eInvalidCount == Value.ref eInvalidPlace) = false)
    (s_InvalidCount_InvalidLine : PySem.W.subIn K (.ref eInvalidCount) (.ref eInvalidLine) = some false) (n_InvalidCount_InvalidLine : (Value.ref eInvalidCount == Value.ref eInvalidLine) = false)
    (s_InvalidCount_InvalidNumber : PySem.W.subIn K (.ref eInvalidCount) (.ref eInvalidNumber) = some false) (n_InvalidCount_InvalidNumber : (Value.ref eInvalidCount == Value.ref eInvalidNumber) = false)
    (s_InvalidCount_NotWritten : PySem.W.subIn K (.ref eInvalidCount) (.ref eNotWritten) = some false) (n_InvalidCount_NotWritten : (Value.ref eInvalidCount == Value.ref eNotWritten) = false)
    (v_InvalidCount : PySem.W.subIn K (.ref eInvalidCount) (.type "ValueError") = some true) (r_InvalidCount : PySem.W.subIn K (.ref eInvalidCount) (.ref eReadingError) = some true) :
    ∃ fd : FuncData, (∀ (s : Shared) (u : Value), BindsTo s fd ⟨[u], []⟩ [("script", u)]) ∧ ∀ base : Heap, K.In base → base.Ns mainGlobals mg → FnOk P w K mg base (L2.CX P w) 10 fa fd ["script"] (spLaw K) := by
  obtain ⟨f_is_whole, fd_is_whole, F_is_whole, m_is_whole, k_is_whole⟩ := D_is_whole
  have b_is_whole := F_is_whole.binds (ps := ["value"]) fun _ _ _ _ _ _ us hl => match us, hl with | [_], _ => rfl
  obtain ⟨f_is_count, fd_is_count, F_is_count, m_is_count, k_is_count⟩ := D_is_count
  obtain ⟨f_is_tuple_of, fd_is_tuple_of, F_is_tuple_of, m_is_tuple_of, k_is_tuple_of⟩ := D_is_tuple_of
  have b_is_tuple_of := F_is_tuple_of.binds (ps := ["value", "size"]) fun _ _ _ _ _ _ us hl => match us, hl with | [_, _], _ => rfl
  obtain ⟨f_check_count, fd_check_count, F_check_count, m_check_count, k_check_count⟩ := D_check_count
  obtain ⟨f_is_cell, fd_is_cell, F_is_cell, m_is_cell, k_is_cell⟩ := D_is_cell
  have b_is_cell := F_is_cell.binds (ps := ["value"]) fun _ _ _ _ _ _ us hl => match us, hl with | [_], _ => rfl
  obtain ⟨f_is_cells, fd_is_cells, F_is_cells, m_is_cells, k_is_cells⟩ := D_is_cells
  have b_is_cells := F_is_cells.binds (ps := ["value"]) fun _ _ _ _ _ _ us hl => match us, hl with | [_], _ => rfl
  obtain ⟨f_check_cells, fd_check_cells, F_check_cells, m_check_cells, k_check_cells⟩ := D_check_cells
  have b_check_cells := F_check_cells.binds (ps := ["value"]) fun _ _ _ _ _ _ us hl => match us, hl with | [_], _ => rfl
  obtain ⟨f_check_width, fd_check_width, F_check_width, m_check_width, k_check_width⟩ := D_check_width
  have b_check_width := F_check_width.binds (ps := ["value"]) fun _ _ _ _ _ _ us hl => match us, hl with | [_], _ => rfl
  obtain ⟨f_parting_kinds, fd_parting_kinds, F_parting_kinds, m_parting_kinds, k_parting_kinds⟩ := D_parting_kinds
  have b_parting_kinds := F_parting_kinds.binds (ps := ["cells", "width"]) fun _ _ _ _ _ _ us hl => match us, hl with | [_, _], _ => rfl
  obtain ⟨f_windows_made, fd_windows_made, F_windows_made, m_windows_made, k_windows_made⟩ := D_windows_made
  have b_windows_made := F_windows_made.binds (ps := ["cells", "width"]) fun _ _ _ _ _ _ us hl => match us, hl with | [_, _], _ => rfl
  obtain ⟨f_windows_of, fd_windows_of, F_windows_of, m_windows_of, k_windows_of⟩ := D_windows_of
  have b_windows_of := F_windows_of.binds (ps := ["cells", "width"]) fun _ _ _ _ _ _ us hl => match us, hl with | [_, _], _ => rfl
  obtain ⟨f_is_breaking, fd_is_breaking, F_is_breaking, m_is_breaking, k_is_breaking⟩ := D_is_breaking
  have b_is_breaking := F_is_breaking.binds (ps := ["cells", "width", "value"]) fun _ _ _ _ _ _ us hl => match us, hl with | [_, _, _], _ => rfl
  obtain ⟨f_window_with, fd_window_with, F_window_with, m_window_with, k_window_with⟩ := D_window_with
  have b_window_with := F_window_with.binds (ps := ["windows", "at"]) fun _ _ _ _ _ _ us hl => match us, hl with | [_, _], _ => rfl
  obtain ⟨f_window_at, fd_window_at, F_window_at, m_window_at, k_window_at⟩ := D_window_at
  have b_window_at := F_window_at.binds (ps := ["cells", "width", "at"]) fun _ _ _ _ _ _ us hl => match us, hl with | [_, _, _], _ => rfl
  obtain ⟨f_least_width, fd_least_width, F_least_width, m_least_width, k_least_width⟩ := D_least_width
  have b_least_width := F_least_width.binds (ps := ["cells", "many"]) fun _ _ _ _ _ _ us hl => match us, hl with | [_, _], _ => rfl
  obtain ⟨f__law_door, fd__law_door, F__law_door, m__law_door, k__law_door⟩ := D__law_door
  have b__law_door := F__law_door.binds (ps := ["caught"]) fun _ _ _ _ _ _ us hl => match us, hl with | [_], _ => rfl
  obtain ⟨f__law_heard, fd__law_heard, F__law_heard, m__law_heard, k__law_heard⟩ := D__law_heard
  have b__law_heard := F__law_heard.binds (ps := ["way", "args"]) fun _ _ _ _ _ _ us hl => match us, hl with | [_, _], _ => rfl
  obtain ⟨f__law_no_counts, fd__law_no_counts, F__law_no_counts, m__law_no_counts, k__law_no_counts⟩ := D__law_no_counts
  have b__law_no_counts := F__law_no_counts.binds (ps := ["many"]) fun _ _ _ _ _ _ us hl => match us, hl with | [_], _ => rfl
  obtain ⟨f__law_greedy, fd__law_greedy, F__law_greedy, m__law_greedy, k__law_greedy⟩ := D__law_greedy
  have b__law_greedy := F__law_greedy.binds (ps := ["cells", "width"]) fun _ _ _ _ _ _ us hl => match us, hl with | [_, _], _ => rfl
  obtain ⟨f__law_purse, fd__law_purse, F__law_purse, m__law_purse, k__law_purse⟩ := D__law_purse
  have b__law_purse := F__law_purse.binds (ps := ["script", "at"]) fun _ _ _ _ _ _ us hl => match us, hl with | [_, _], _ => rfl
  obtain ⟨f__law_mixed, fd__law_mixed, F__law_mixed, m__law_mixed, k__law_mixed⟩ := D__law_mixed
  have b__law_mixed := F__law_mixed.binds (ps := ["seed", "spin", "at"]) fun _ _ _ _ _ _ us hl => match us, hl with | [_, _, _], _ => rfl
  obtain ⟨f__law_draw, fd__law_draw, F__law_draw, m__law_draw, k__law_draw⟩ := D__law_draw
  have b__law_draw := F__law_draw.binds (ps := ["purse", "many"]) fun _ _ _ _ _ _ us hl => match us, hl with | [_, _], _ => rfl
  obtain ⟨f__law_purses, fd__law_purses, F__law_purses, m__law_purses, k__law_purses⟩ := D__law_purses
  have b__law_purses := F__law_purses.binds (ps := ["script", "few"]) fun _ _ _ _ _ _ us hl => match us, hl with | [_, _], _ => rfl
  obtain ⟨f__law_one_of, fd__law_one_of, F__law_one_of, m__law_one_of, k__law_one_of⟩ := D__law_one_of
  have b__law_one_of := F__law_one_of.binds (ps := ["purse", "some"]) fun _ _ _ _ _ _ us hl => match us, hl with | [_, _], _ => rfl
  obtain ⟨f__law_exact, fd__law_exact, F__law_exact, m__law_exact, k__law_exact⟩ := D__law_exact
  have b__law_exact := F__law_exact.binds (ps := ["mine", "theirs"]) fun _ _ _ _ _ _ us hl => match us, hl with | [_, _], _ => rfl
  obtain ⟨f__law_some, fd__law_some, F__law_some, m__law_some, k__law_some⟩ := D__law_some
  have b__law_some := F__law_some.binds (ps := ["purse", "many", "most"]) fun _ _ _ _ _ _ us hl => match us, hl with | [_, _, _], _ => rfl
  obtain ⟨f__law_row, fd__law_row, F__law_row, m__law_row, k__law_row⟩ := D__law_row
  have b__law_row := F__law_row.binds (ps := ["purse", "most", "width"]) fun _ _ _ _ _ _ us hl => match us, hl with | [_, _, _], _ => rfl
  obtain ⟨f__law_is_breaking, fd__law_is_breaking, F__law_is_breaking, m__law_is_breaking, k__law_is_breaking⟩ := D__law_is_breaking
  have b__law_is_breaking := F__law_is_breaking.binds (ps := ["cells", "width", "windows"]) fun _ _ _ _ _ _ us hl => match us, hl with | [_, _, _], _ => rfl
  obtain ⟨f__law_asked, fd__law_asked, F__law_asked, m__law_asked, k__law_asked⟩ := D__law_asked
  have b__law_asked := F__law_asked.binds (ps := ["way", "args"]) fun _ _ _ _ _ _ us hl => match us, hl with | [_, _], _ => rfl
  obtain ⟨f__law_drawn_breaking, fd__law_drawn_breaking, F__law_drawn_breaking, m__law_drawn_breaking, k__law_drawn_breaking⟩ := D__law_drawn_breaking
  have b__law_drawn_breaking := F__law_drawn_breaking.binds (ps := ["purse", "cells", "width"]) fun _ _ _ _ _ _ us hl => match us, hl with | [_, _, _], _ => rfl
  obtain ⟨f__law_bent, fd__law_bent, F__law_bent, m__law_bent, k__law_bent⟩ := D__law_bent
  have b__law_bent := F__law_bent.binds (ps := ["purse", "windows"]) fun _ _ _ _ _ _ us hl => match us, hl with | [_, _], _ => rfl
  obtain ⟨f__law_judged, fd__law_judged, F__law_judged, m__law_judged, k__law_judged⟩ := D__law_judged
  have b__law_judged := F__law_judged.binds (ps := ["purse", "cells", "width"]) fun _ _ _ _ _ _ us hl => match us, hl with | [_, _, _], _ => rfl
  obtain ⟨f__law_first_of_all, fd__law_first_of_all, F__law_first_of_all, m__law_first_of_all, k__law_first_of_all⟩ := D__law_first_of_all
  have b__law_first_of_all := F__law_first_of_all.binds (ps := ["cells", "width"]) fun _ _ _ _ _ _ us hl => match us, hl with | [_, _], _ => rfl
  obtain ⟨f__law_right, fd__law_right, F__law_right, m__law_right, k__law_right⟩ := D__law_right
  have b__law_right := F__law_right.binds (ps := ["purse", "cells", "width"]) fun _ _ _ _ _ _ us hl => match us, hl with | [_, _, _], _ => rfl
  obtain ⟨f__law_told_again, fd__law_told_again, F__law_told_again, m__law_told_again, k__law_told_again⟩ := D__law_told_again
  have b__law_told_again := F__law_told_again.binds (ps := ["cells"]) fun _ _ _ _ _ _ us hl => match us, hl with | [_], _ => rfl
  obtain ⟨f__law_refused, fd__law_refused, F__law_refused, m__law_refused, k__law_refused⟩ := D__law_refused
  have b__law_refused := F__law_refused.binds (ps := ["cells", "width"]) fun _ _ _ _ _ _ us hl => match us, hl with | [_, _], _ => rfl
  obtain ⟨f_law, fd_law, F_law, m_law, k_law⟩ := D_law
  have b_law := F_law.binds (ps := ["script"]) fun _ _ _ _ _ _ us hl => match us, hl with | [_], _ => rfl
  have TT : ∀ base, Tx P w K mg base ⟨eReadingError, eInvalidPage, eInvalidNumber, eInvalidCount, eInvalidText, eInvalidPlace, eInvalidCells, eInvalidBook, eInvalidWidth, eInvalidKey, eInvalidMarks, eInvalidStand, eInvalidLine, eNotWritten⟩ := fun base => { b_isinstance := PySem.W.mg_none_of X G z_isinstance, b_bool := PySem.W.mg_none_of X G z_bool, b_int := PySem.W.mg_none_of X G z_int, b_max := PySem.W.mg_none_of X G z_max, b_len := PySem.W.mg_none_of X G z_len, b_tuple := PySem.W.mg_none_of X G z_tuple, b_all := PySem.W.mg_none_of X G z_all, b_list := PySem.W.mg_none_of X G z_list, b_range := PySem.W.mg_none_of X G z_range, b_min := PySem.W.mg_none_of X G z_min, b_enumerate := PySem.W.mg_none_of X G z_enumerate, b_ValueError := PySem.W.mg_none_of X G z_ValueError, b_sum := PySem.W.mg_none_of X G z_sum, b_dict := PySem.W.mg_none_of X G z_dict, b_zip := PySem.W.mg_none_of X G z_zip, b_str := PySem.W.mg_none_of X G z_str, b_sorted := PySem.W.mg_none_of X G z_sorted, g_ReadingError := PySem.W.mg_of X G a_ReadingError, g_InvalidPage := PySem.W.mg_of X G a_InvalidPage, g_InvalidNumber := PySem.W.mg_of X G a_InvalidNumber, g_InvalidCount := PySem.W.mg_of X G a_InvalidCount, g_InvalidText := PySem.W.mg_of X G a_InvalidText, g_InvalidPlace := PySem.W.mg_of X G a_InvalidPlace, g_InvalidCells := PySem.W.mg_of X G a_InvalidCells, g_InvalidBook := PySem.W.mg_of X G a_InvalidBook, g_InvalidWidth := PySem.W.mg_of X G a_InvalidWidth, g_InvalidKey := PySem.W.mg_of X G a_InvalidKey, g_InvalidMarks := PySem.W.mg_of X G a_InvalidMarks, g_InvalidStand := PySem.W.mg_of X G a_InvalidStand, g_InvalidLine := PySem.W.mg_of X G a_InvalidLine, g_NotWritten := PySem.W.mg_of X G a_NotWritten, e_InvalidPage := E_InvalidPage _ _ base, e_InvalidNumber := E_InvalidNumber _ _ base, e_InvalidCount := E_InvalidCount _ _ base, e_InvalidText := E_InvalidText _ _ base, e_InvalidPlace := E_InvalidPlace _ _ base, e_InvalidCells := E_InvalidCells _ _ base, e_InvalidBook := E_InvalidBook _ _ base, e_InvalidWidth := E_InvalidWidth _ _ base, e_InvalidKey := E_InvalidKey _ _ base, e_InvalidMarks := E_InvalidMarks _ _ base, e_InvalidStand := E_InvalidStand _ _ base, e_InvalidLine := E_InvalidLine _ _ base, e_NotWritten := E_NotWritten _ _ base, k_InvalidCells_InvalidPage := kit_ne n_InvalidCells_InvalidPage i_InvalidPage t_InvalidPage s_InvalidCells_InvalidPage, k_InvalidCells_InvalidBook := kit_ne n_InvalidCells_InvalidBook i_InvalidBook t_InvalidBook s_InvalidCells_InvalidBook, k_InvalidCells_InvalidText := kit_ne n_InvalidCells_InvalidText i_InvalidText t_InvalidText s_InvalidCells_InvalidText, k_InvalidCells_InvalidCells := kit_self, k_InvalidCells_InvalidWidth := kit_ne n_InvalidCells_InvalidWidth i_InvalidWidth t_InvalidWidth s_InvalidCells_InvalidWidth, k_InvalidCells_InvalidCount := kit_ne n_InvalidCells_InvalidCount i_InvalidCount t_InvalidCount s_InvalidCells_InvalidCount, k_InvalidCells_InvalidKey := kit_ne n_InvalidCells_InvalidKey i_InvalidKey t_InvalidKey s_InvalidCells_InvalidKey, k_InvalidCells_InvalidMarks := kit_ne n_InvalidCells_InvalidMarks i_InvalidMarks t_InvalidMarks s_InvalidCells_InvalidMarks, k_InvalidCells_InvalidStand := kit_ne n_InvalidCells_InvalidStand i_InvalidStand t_InvalidStand s_InvalidCells_InvalidStand, k_InvalidCells_InvalidPlace := kit_ne n_InvalidCells_InvalidPlace i_InvalidPlace t_InvalidPlace s_InvalidCells_InvalidPlace, k_InvalidCells_InvalidLine := kit_ne n_InvalidCells_InvalidLine i_InvalidLine t_InvalidLine s_InvalidCells_InvalidLine, k_InvalidCells_InvalidNumber := kit_ne n_InvalidCells_InvalidNumber i_InvalidNumber t_InvalidNumber s_InvalidCells_InvalidNumber, k_InvalidCells_NotWritten := kit_ne n_InvalidCells_NotWritten i_NotWritten t_NotWritten s_InvalidCells_NotWritten, v_InvalidCells := kit_val v_InvalidCells, x_InvalidCells := exm_of bR i_ReadingError t_ReadingError r_InvalidCells, k_InvalidWidth_InvalidPage := kit_ne n_InvalidWidth_InvalidPage i_InvalidPage t_InvalidPage s_InvalidWidth_InvalidPage, k_InvalidWidth_InvalidBook := kit_ne n_InvalidWidth_InvalidBook i_InvalidBook t_InvalidBook s_InvalidWidth_InvalidBook, k_InvalidWidth_InvalidText := kit_ne n_InvalidWidth_InvalidText i_InvalidText t_InvalidText s_InvalidWidth_InvalidText, k_InvalidWidth_InvalidCells := kit_ne n_InvalidWidth_InvalidCells i_InvalidCells t_InvalidCells s_InvalidWidth_InvalidCells, k_InvalidWidth_InvalidWidth := kit_self, k_InvalidWidth_InvalidCount := kit_ne n_InvalidWidth_InvalidCount i_InvalidCount t_InvalidCount s_InvalidWidth_InvalidCount, k_InvalidWidth_InvalidKey := kit_ne n_InvalidWidth_InvalidKey i_InvalidKey t_InvalidKey s_InvalidWidth_InvalidKey, k_InvalidWidth_InvalidMarks := kit_ne n_InvalidWidth_InvalidMarks i_InvalidMarks t_InvalidMarks s_InvalidWidth_InvalidMarks, k_InvalidWidth_InvalidStand := kit_ne n_InvalidWidth_InvalidStand i_InvalidStand t_InvalidStand s_InvalidWidth_InvalidStand, k_InvalidWidth_InvalidPlace := kit_ne n_InvalidWidth_InvalidPlace i_InvalidPlace t_InvalidPlace s_InvalidWidth_InvalidPlace, k_InvalidWidth_InvalidLine := kit_ne n_InvalidWidth_InvalidLine i_InvalidLine t_InvalidLine s_InvalidWidth_InvalidLine, k_InvalidWidth_InvalidNumber := kit_ne n_InvalidWidth_InvalidNumber i_InvalidNumber t_InvalidNumber s_InvalidWidth_InvalidNumber, k_InvalidWidth_NotWritten := kit_ne n_InvalidWidth_NotWritten i_NotWritten t_NotWritten s_InvalidWidth_NotWritten, v_InvalidWidth := kit_val v_InvalidWidth, x_InvalidWidth := exm_of bR i_ReadingError t_ReadingError r_InvalidWidth, k_InvalidCount_InvalidPage := kit_ne n_InvalidCount_InvalidPage i_InvalidPage t_InvalidPage s_InvalidCount_InvalidPage, k_InvalidCount_InvalidBook := kit_ne n_InvalidCount_InvalidBook i_InvalidBook t_InvalidBook s_InvalidCount_InvalidBook, k_InvalidCount_InvalidText := kit_ne n_InvalidCount_InvalidText i_InvalidText t_InvalidText s_InvalidCount_InvalidText, k_InvalidCount_InvalidCells := kit_ne n_InvalidCount_InvalidCells i_InvalidCells t_InvalidCells s_InvalidCount_InvalidCells, k_InvalidCount_InvalidWidth := kit_ne n_InvalidCount_InvalidWidth i_InvalidWidth t_InvalidWidth s_InvalidCount_InvalidWidth, k_InvalidCount_InvalidCount := kit_self, k_InvalidCount_InvalidKey := kit_ne n_InvalidCount_InvalidKey i_InvalidKey t_InvalidKey s_InvalidCount_InvalidKey, k_InvalidCount_InvalidMarks := kit_ne n_InvalidCount_InvalidMarks i_InvalidMarks t_InvalidMarks s_InvalidCount_InvalidMarks, k_InvalidCount_InvalidStand := kit_ne n_InvalidCount_InvalidStand i_InvalidStand t_InvalidStand s_InvalidCount_InvalidStand, k_InvalidCount_InvalidPlace := kit_ne n_InvalidCount_InvalidPlace i_InvalidPlace t_InvalidPlace s_InvalidCount_InvalidPlace, k_InvalidCount_InvalidLine := kit_ne n_InvalidCount_InvalidLine i_InvalidLine t_InvalidLine s_InvalidCount_InvalidLine, k_InvalidCount_InvalidNumber := kit_ne n_InvalidCount_InvalidNumber i_InvalidNumber t_InvalidNumber s_InvalidCount_InvalidNumber, k_InvalidCount_NotWritten := kit_ne n_InvalidCount_NotWritten i_NotWritten t_NotWritten s_InvalidCount_NotWritten, v_InvalidCount := kit_val v_InvalidCount, x_InvalidCount := exm_of bR i_ReadingError t_ReadingError r_InvalidCount }
  have ef := m_law.symm.trans hfa
  cases ef
  refine ⟨fd_law, ?_, fun base _ _ => ?_⟩
  · obtain ⟨oc, od, kV, doc, pm, an, cdv, ct, osl, rfl, lk, hcd⟩ := F_law.ex
    exact fun s u => .of_eq rfl
  have T := TT base
  obtain ⟨ds1, hv1, bc1⟩ := F_is_count.binds1 (ps := ["value", "least"]) 1 0 (by simp) rfl (fun _ _ _ _ _ _ _ us its h1 h2 => match us, its, h1, h2 with | [_], [_], _, _ => ⟨_, rfl, rfl⟩)
  obtain ⟨ds2, hv2, b_is_count⟩ := F_is_count.binds1 (ps := ["value", "least"]) 2 1 (by simp) rfl (fun _ _ _ _ _ _ _ us its h1 h2 => match us, its, h1, h2 with | [_, _], [_], _, _ => ⟨_, rfl, rfl⟩)
  cases hv2
  obtain ⟨ds3, hv3, b_check_count⟩ := F_check_count.binds1 (ps := ["value", "least", "below"]) 3 2 (by simp) rfl (fun _ _ _ _ _ _ _ us its h1 h2 => match us, its, h1, h2 with | [_, _, _], [_, _], _, _ => ⟨_, rfl, rfl⟩)
  cases hv3
  obtain ⟨ds4, hv4, bc4⟩ := F_check_count.binds1 (ps := ["value", "least", "below"]) 2 1 (by simp) rfl (fun _ _ _ _ _ _ _ us its h1 h2 => match us, its, h1, h2 with | [_, _], [_, _], _, _ => ⟨_, rfl, rfl⟩)
  have c__law_mixed : CalX P w K mg base 1 "_law_mixed" ["seed", "spin", "at"] _ := ⟨_, _, ok_mixed F__law_mixed T , m__law_mixed, k__law_mixed, b__law_mixed⟩
  have c__law_draw : CalX P w K mg base 2 "_law_draw" ["purse", "many"] _ := ⟨_, _, ok_draw F__law_draw T c__law_mixed, m__law_draw, k__law_draw, b__law_draw⟩
  have c_is_whole : CalX P w K mg base 1 "is_whole" ["value"] _ := ⟨_, _, ok_is_whole F_is_whole T , m_is_whole, k_is_whole, b_is_whole⟩
  have c_is_tuple_of : CalX P w K mg base 1 "is_tuple_of" ["value", "size"] _ := ⟨_, _, ok_is_tuple_of F_is_tuple_of T , m_is_tuple_of, k_is_tuple_of, b_is_tuple_of⟩
  have c_is_cell : CalX P w K mg base 2 "is_cell" ["value"] _ := ⟨_, _, ok_is_cell F_is_cell T c_is_whole, m_is_cell, k_is_cell, b_is_cell⟩
  have c_is_count : CalX P w K mg base 2 "is_count" ["value", "least"] _ := ⟨_, _, ok_is_count F_is_count T c_is_whole, m_is_count, k_is_count, b_is_count⟩
  have cd_is_count : CalD P w K mg base 2 "is_count" ["value", "least"] [.int 0] _ := ⟨_, _, ds1, ok_is_count F_is_count T c_is_whole, m_is_count, k_is_count, hv1, bc1⟩
  have c_check_width : CalX P w K mg base 3 "check_width" ["value"] _ := ⟨_, _, ok_check_width F_check_width T c_is_count, m_check_width, k_check_width, b_check_width⟩
  have c_is_cells : CalX P w K mg base 3 "is_cells" ["value"] _ := ⟨_, _, ok_is_cells F_is_cells T c_is_cell, m_is_cells, k_is_cells, b_is_cells⟩
  have c_check_cells : CalX P w K mg base 4 "check_cells" ["value"] _ := ⟨_, _, ok_check_cells F_check_cells T c_is_cells, m_check_cells, k_check_cells, b_check_cells⟩
  have c_check_count : CalX P w K mg base 3 "check_count" ["value", "least", "below"] _ := ⟨_, _, ok_check_count F_check_count T c_is_count, m_check_count, k_check_count, b_check_count⟩
  have cd_check_count : CalD P w K mg base 3 "check_count" ["value", "least", "below"] [.non] _ := ⟨_, _, ds4, ok_check_count F_check_count T c_is_count, m_check_count, k_check_count, hv4, bc4⟩
  have c_parting_kinds : CalX P w K mg base 1 "parting_kinds" ["cells", "width"] _ := ⟨_, _, ok_parting_kinds F_parting_kinds T , m_parting_kinds, k_parting_kinds, b_parting_kinds⟩
  have c_windows_made : CalX P w K mg base 2 "windows_made" ["cells", "width"] _ := ⟨_, _, ok_windows_made F_windows_made T c_parting_kinds, m_windows_made, k_windows_made, b_windows_made⟩
  have c_windows_of : CalX P w K mg base 5 "windows_of" ["cells", "width"] _ := ⟨_, _, ok_windows_of F_windows_of T c_check_cells c_check_width c_windows_made, m_windows_of, k_windows_of, b_windows_of⟩
  have kb_windows_of_width_cells : KBd K fd_windows_of ["cells", "width"] ["width", "cells"] [1, 0] := kbd_mk F_windows_of fun _ _ _ _ _ _ ws hl => match ws, hl with | [_, _], _ => rfl
  have k_windows_of_width_cells : CalK P w K mg base 5 "windows_of" ["cells", "width"] ["width", "cells"] [1, 0] _ := ⟨_, _, ok_windows_of F_windows_of T c_check_cells c_check_width c_windows_made, m_windows_of, k_windows_of, kb_windows_of_width_cells⟩
  have c2_windows_of : CalX P w K mg base 5 "windows_of" ["cells", "width"] _ := ⟨_, _, ok_windows_of2 F_windows_of T c_check_cells c_check_width c_windows_made, m_windows_of, k_windows_of, b_windows_of⟩
  have kb_windows_of_width_cells : KBd K fd_windows_of ["cells", "width"] ["width", "cells"] [1, 0] := kbd_mk F_windows_of fun _ _ _ _ _ _ ws hl => match ws, hl with | [_, _], _ => rfl
  have k_windows_of_width_cells : CalK P w K mg base 5 "windows_of" ["cells", "width"] ["width", "cells"] [1, 0] _ := ⟨_, _, ok_windows_of2 F_windows_of T c_check_cells c_check_width c_windows_made, m_windows_of, k_windows_of, kb_windows_of_width_cells⟩
  have c_window_with : CalX P w K mg base 1 "window_with" ["windows", "at"] _ := ⟨_, _, ok_window_with F_window_with T , m_window_with, k_window_with, b_window_with⟩
  have c_window_at : CalX P w K mg base 5 "window_at" ["cells", "width", "at"] _ := ⟨_, _, ok_window_at F_window_at T c_check_cells c_check_width c_check_count c_windows_made c_window_with, m_window_at, k_window_at, b_window_at⟩
  have kb_window_at_at_width_cells : KBd K fd_window_at ["cells", "width", "at"] ["at", "width", "cells"] [2, 1, 0] := kbd_mk F_window_at fun _ _ _ _ _ _ ws hl => match ws, hl with | [_, _, _], _ => rfl
  have k_window_at_at_width_cells : CalK P w K mg base 5 "window_at" ["cells", "width", "at"] ["at", "width", "cells"] [2, 1, 0] _ := ⟨_, _, ok_window_at F_window_at T c_check_cells c_check_width c_check_count c_windows_made c_window_with, m_window_at, k_window_at, kb_window_at_at_width_cells⟩
  have c_least_width : CalX P w K mg base 5 "least_width" ["cells", "many"] _ := ⟨_, _, ok_least_width F_least_width T c_check_cells cd_check_count c_windows_made, m_least_width, k_least_width, b_least_width⟩
  have kb_least_width_many_cells : KBd K fd_least_width ["cells", "many"] ["many", "cells"] [1, 0] := kbd_mk F_least_width fun _ _ _ _ _ _ ws hl => match ws, hl with | [_, _], _ => rfl
  have k_least_width_many_cells : CalK P w K mg base 5 "least_width" ["cells", "many"] ["many", "cells"] [1, 0] _ := ⟨_, _, ok_least_width F_least_width T c_check_cells cd_check_count c_windows_made, m_least_width, k_least_width, kb_least_width_many_cells⟩
  have c_is_breaking : CalX P w K mg base 5 "is_breaking" ["cells", "width", "value"] _ := ⟨_, _, ok_is_breaking F_is_breaking T c_check_cells c_check_width c_is_tuple_of cd_is_count c_parting_kinds, m_is_breaking, k_is_breaking, b_is_breaking⟩
  have kb_is_breaking_value_width_cells : KBd K fd_is_breaking ["cells", "width", "value"] ["value", "width", "cells"] [2, 1, 0] := kbd_mk F_is_breaking fun _ _ _ _ _ _ ws hl => match ws, hl with | [_, _, _], _ => rfl
  have k_is_breaking_value_width_cells : CalK P w K mg base 5 "is_breaking" ["cells", "width", "value"] ["value", "width", "cells"] [2, 1, 0] _ := ⟨_, _, ok_is_breaking F_is_breaking T c_check_cells c_check_width c_is_tuple_of cd_is_count c_parting_kinds, m_is_breaking, k_is_breaking, kb_is_breaking_value_width_cells⟩
  have c__law_exact : CalX P w K mg base 8 "_law_exact" ["mine", "theirs"] _ := ⟨_, _, ok_exact F__law_exact T m__law_exact k__law_exact b__law_exact 7, m__law_exact, k__law_exact, b__law_exact⟩
  have c__law_purse : CalX P w K mg base 1 "_law_purse" ["script", "at"] _ := ⟨_, _, ok_purse F__law_purse T , m__law_purse, k__law_purse, b__law_purse⟩
  have c__law_one_of : CalX P w K mg base 3 "_law_one_of" ["purse", "some"] _ := ⟨_, _, ok_one_of F__law_one_of T c__law_draw, m__law_one_of, k__law_one_of, b__law_one_of⟩
  have c__law_door : CalX P w K mg base 1 "_law_door" ["caught"] _ := ⟨_, _, ok_ldoor F__law_door T , m__law_door, k__law_door, b__law_door⟩
  have c__law_no_counts : CalX P w K mg base 1 "_law_no_counts" ["many"] _ := ⟨_, _, ok_no_counts F__law_no_counts T , m__law_no_counts, k__law_no_counts, b__law_no_counts⟩
  have c__law_greedy : CalX P w K mg base 1 "_law_greedy" ["cells", "width"] _ := ⟨_, _, ok_greedy F__law_greedy T , m__law_greedy, k__law_greedy, b__law_greedy⟩
  have c__law_asked : CalX P w K mg base 6 "_law_asked" ["way", "args"] _ := ⟨_, _, ok_lasked F__law_asked T c_windows_of c_is_breaking c_window_at c_least_width, m__law_asked, k__law_asked, b__law_asked⟩
  have c__law_heard : CalX P w K mg base 7 "_law_heard" ["way", "args"] _ := ⟨_, _, ok_lheard F__law_heard T c__law_asked c__law_door, m__law_heard, k__law_heard, b__law_heard⟩
  have c__law_is_breaking : CalX P w K mg base 1 "_law_is_breaking" ["cells", "width", "windows"] _ := ⟨_, _, ok_lbreaking F__law_is_breaking T , m__law_is_breaking, k__law_is_breaking, b__law_is_breaking⟩
  have c__law_some : CalX P w K mg base 3 "_law_some" ["purse", "many", "most"] _ := ⟨_, _, ok_some F__law_some T c__law_draw, m__law_some, k__law_some, b__law_some⟩
  have c__law_row : CalX P w K mg base 4 "_law_row" ["purse", "most", "width"] _ := ⟨_, _, ok_row F__law_row T c__law_one_of c__law_draw, m__law_row, k__law_row, b__law_row⟩
  have c__law_drawn_breaking : CalX P w K mg base 4 "_law_drawn_breaking" ["purse", "cells", "width"] _ := ⟨_, _, ok_drawn_br F__law_drawn_breaking T c__law_one_of, m__law_drawn_breaking, k__law_drawn_breaking, b__law_drawn_breaking⟩
  have c__law_bent : CalX P w K mg base 3 "_law_bent" ["purse", "windows"] _ := ⟨_, _, ok_bent F__law_bent T c__law_draw, m__law_bent, k__law_bent, b__law_bent⟩
  have c__law_judged : CalX P w K mg base 9 "_law_judged" ["purse", "cells", "width"] _ := ⟨_, _, ok_judged F__law_judged T c__law_greedy c__law_drawn_breaking c__law_bent c__law_exact c__law_is_breaking c__law_heard, m__law_judged, k__law_judged, b__law_judged⟩
  have c__law_first_of_all : CalX P w K mg base 2 "_law_first_of_all" ["cells", "width"] _ := ⟨_, _, ok_first F__law_first_of_all T c__law_greedy c__law_is_breaking, m__law_first_of_all, k__law_first_of_all, b__law_first_of_all⟩
  have c__law_right : CalX P w K mg base 9 "_law_right" ["purse", "cells", "width"] _ := ⟨_, _, ok_right F__law_right T c__law_greedy c2_windows_of k_windows_of_width_cells c__law_exact c__law_some c__law_heard k_window_at_at_width_cells k_least_width_many_cells k_is_breaking_value_width_cells, m__law_right, k__law_right, b__law_right⟩
  have c__law_told_again : CalX P w K mg base 9 "_law_told_again" ["cells"] _ := ⟨_, _, ok_told_again F__law_told_again T c_least_width c__law_greedy c__law_exact c_windows_of c_is_breaking, m__law_told_again, k__law_told_again, b__law_told_again⟩
  have c__law_refused : CalX P w K mg base 9 "_law_refused" ["cells", "width"] _ := ⟨_, _, ok_refused F__law_refused T c__law_exact c__law_heard c__law_no_counts, m__law_refused, k__law_refused, b__law_refused⟩
  have c__law_purses : CalX P w K mg base 2 "_law_purses" ["script", "few"] _ := ⟨_, _, ok_purses F__law_purses T c__law_purse, m__law_purses, k__law_purses, b__law_purses⟩
  exact ok_law F_law T c__law_purses c__law_draw c__law_one_of c__law_row c__law_right c__law_judged c__law_told_again c__law_greedy c_windows_of c__law_exact c__law_first_of_all c__law_refused


end PA
open PySem PySem.W PyProof.Rows in
set_option maxRecDepth 100000 in
set_option maxHeartbeats 0 in
theorem PySem.Challenge.cw_heardandfelt_k73_whole_windows_holds : PySem.Challenge.rw_heardandfelt_k73_whole_windows.Holds := by
  w_on; o_law; k_head; (case hw => w_witness2)
  k_fill
  refine PA.walk (l := PySem.Challenge.rw_heardandfelt_k73_whole_windows) (k := 10) rfl rfl ⟨rfl, by decide, by decide⟩ (fun w h Y => PySem.W.kIn_of Y) ?F
  case F =>
    intro w mg fa h KX G hmg
    refine' PA.all_ok KX G hmg ?D_is_whole ?D_is_count ?D_is_tuple_of ?D_check_count ?D_is_cell ?D_is_cells ?D_check_cells ?D_check_width ?D_parting_kinds ?D_windows_made ?D_windows_of ?D_is_breaking ?D_window_with ?D_window_at ?D_least_width ?D__law_door ?D__law_heard ?D__law_no_counts ?D__law_greedy ?D__law_purse ?D__law_mixed ?D__law_draw ?D__law_purses ?D__law_one_of ?D__law_exact ?D__law_some ?D__law_row ?D__law_is_breaking ?D__law_asked ?D__law_drawn_breaking ?D__law_bent ?D__law_judged ?D__law_first_of_all ?D__law_right ?D__law_told_again ?D__law_refused ?D_law ?z_isinstance ?z_bool ?z_int ?z_max ?z_len ?z_tuple ?z_all ?z_list ?z_range ?z_min ?z_enumerate ?z_ValueError ?z_sum ?z_dict ?z_zip ?z_str ?z_sorted ?a_ReadingError ?a_InvalidPage ?a_InvalidNumber ?a_InvalidCount ?a_InvalidText ?a_InvalidPlace ?a_InvalidCells ?a_InvalidBook ?a_InvalidWidth ?a_InvalidKey ?a_InvalidMarks ?a_InvalidStand ?a_InvalidLine ?a_NotWritten ?E_InvalidPage ?E_InvalidNumber ?E_InvalidCount ?E_InvalidText ?E_InvalidPlace ?E_InvalidCells ?E_InvalidBook ?E_InvalidWidth ?E_InvalidKey ?E_InvalidMarks ?E_InvalidStand ?E_InvalidLine ?E_NotWritten ?i_InvalidPage ?t_InvalidPage ?i_InvalidBook ?t_InvalidBook ?i_InvalidText ?t_InvalidText ?i_InvalidCells ?t_InvalidCells ?i_InvalidWidth ?t_InvalidWidth ?i_InvalidCount ?t_InvalidCount ?i_InvalidKey ?t_InvalidKey ?i_InvalidMarks ?t_InvalidMarks ?i_InvalidStand ?t_InvalidStand ?i_InvalidPlace ?t_InvalidPlace ?i_InvalidLine ?t_InvalidLine ?i_InvalidNumber ?t_InvalidNumber ?i_NotWritten ?t_NotWritten ?i_ReadingError ?t_ReadingError ?bR ?s_InvalidCells_InvalidPage ?n_InvalidCells_InvalidPage ?s_InvalidCells_InvalidBook ?n_InvalidCells_InvalidBook ?s_InvalidCells_InvalidText ?n_InvalidCells_InvalidText ?s_InvalidCells_InvalidWidth ?n_InvalidCells_InvalidWidth ?s_InvalidCells_InvalidCount ?n_InvalidCells_InvalidCount ?s_InvalidCells_InvalidKey ?n_InvalidCells_InvalidKey ?s_InvalidCells_InvalidMarks ?n_InvalidCells_InvalidMarks ?s_InvalidCells_InvalidStand ?n_InvalidCells_InvalidStand ?s_InvalidCells_InvalidPlace ?n_InvalidCells_InvalidPlace ?s_InvalidCells_InvalidLine ?n_InvalidCells_InvalidLine ?s_InvalidCells_InvalidNumber ?n_InvalidCells_InvalidNumber ?s_InvalidCells_NotWritten ?n_InvalidCells_NotWritten ?v_InvalidCells ?r_InvalidCells ?s_InvalidWidth_InvalidPage ?n_InvalidWidth_InvalidPage ?s_InvalidWidth_InvalidBook ?n_InvalidWidth_InvalidBook ?s_InvalidWidth_InvalidText ?n_InvalidWidth_InvalidText ?s_InvalidWidth_InvalidCells ?n_InvalidWidth_InvalidCells ?s_InvalidWidth_InvalidCount ?n_InvalidWidth_InvalidCount ?s_InvalidWidth_InvalidKey ?n_InvalidWidth_InvalidKey ?s_InvalidWidth_InvalidMarks ?n_InvalidWidth_InvalidMarks ?s_InvalidWidth_InvalidStand ?n_InvalidWidth_InvalidStand ?s_InvalidWidth_InvalidPlace ?n_InvalidWidth_InvalidPlace ?s_InvalidWidth_InvalidLine ?n_InvalidWidth_InvalidLine ?s_InvalidWidth_InvalidNumber ?n_InvalidWidth_InvalidNumber ?s_InvalidWidth_NotWritten ?n_InvalidWidth_NotWritten ?v_InvalidWidth ?r_InvalidWidth ?s_InvalidCount_InvalidPage ?n_InvalidCount_InvalidPage ?s_InvalidCount_InvalidBook ?n_InvalidCount_InvalidBook ?s_InvalidCount_InvalidText ?n_InvalidCount_InvalidText ?s_InvalidCount_InvalidCells ?n_InvalidCount_InvalidCells ?s_InvalidCount_InvalidWidth ?n_InvalidCount_InvalidWidth ?s_InvalidCount_InvalidKey ?n_InvalidCount_InvalidKey ?s_InvalidCount_InvalidMarks ?n_InvalidCount_InvalidMarks ?s_InvalidCount_InvalidStand ?n_InvalidCount_InvalidStand ?s_InvalidCount_InvalidPlace ?n_InvalidCount_InvalidPlace ?s_InvalidCount_InvalidLine ?n_InvalidCount_InvalidLine ?s_InvalidCount_InvalidNumber ?n_InvalidCount_InvalidNumber ?s_InvalidCount_NotWritten ?n_InvalidCount_NotWritten ?v_InvalidCount ?r_InvalidCount
    (case D_is_whole => refine' PA.def_mk KX G ?a ?l ?c ?k; (case a => k_is); (case l => k_is); (case c => k_is); (case k => k_is))
    (case D_is_count => refine' PA.defD_mk (its := [.int 0 _]) KX G ?a ?l ?c ?k ?lT ?dT ?rT ?hd; (case a => k_is); (case l => k_is); (case c => k_is); (case k => k_is); (case lT => k_is); (case dT => rfl); (case rT => exact .cons ⟨_, rfl⟩ .nil); (case hd => simp))
    (case D_is_tuple_of => refine' PA.def_mk KX G ?a ?l ?c ?k; (case a => k_is); (case l => k_is); (case c => k_is); (case k => k_is))
    (case D_check_count => refine' PA.defD_mk (its := [.int 0 _, .none]) KX G ?a ?l ?c ?k ?lT ?dT ?rT ?hd; (case a => k_is); (case l => k_is); (case c => k_is); (case k => k_is); (case lT => k_is); (case dT => rfl); (case rT => exact .cons ⟨_, rfl⟩ (.cons rfl .nil)); (case hd => simp))
    (case D_is_cell => refine' PA.def_mk KX G ?a ?l ?c ?k; (case a => k_is); (case l => k_is); (case c => k_is); (case k => k_is))
    (case D_is_cells => refine' PA.def_mk KX G ?a ?l ?c ?k; (case a => k_is); (case l => k_is); (case c => k_is); (case k => k_is))
    (case D_check_cells => refine' PA.def_mk KX G ?a ?l ?c ?k; (case a => k_is); (case l => k_is); (case c => k_is); (case k => k_is))
    (case D_check_width => refine' PA.def_mk KX G ?a ?l ?c ?k; (case a => k_is); (case l => k_is); (case c => k_is); (case k => k_is))
    (case D_parting_kinds => refine' PA.def_mk KX G ?a ?l ?c ?k; (case a => k_is); (case l => k_is); (case c => k_is); (case k => k_is))
    (case D_windows_made => refine' PA.def_mk KX G ?a ?l ?c ?k; (case a => k_is); (case l => k_is); (case c => k_is); (case k => k_is))
    (case D_windows_of => refine' PA.def_mk KX G ?a ?l ?c ?k; (case a => k_is); (case l => k_is); (case c => k_is); (case k => k_is))
    (case D_is_breaking => refine' PA.def_mk KX G ?a ?l ?c ?k; (case a => k_is); (case l => k_is); (case c => k_is); (case k => k_is))
    (case D_window_with => refine' PA.def_mk KX G ?a ?l ?c ?k; (case a => k_is); (case l => k_is); (case c => k_is); (case k => k_is))
    (case D_window_at => refine' PA.def_mk KX G ?a ?l ?c ?k; (case a => k_is); (case l => k_is); (case c => k_is); (case k => k_is))
    (case D_least_width => refine' PA.def_mk KX G ?a ?l ?c ?k; (case a => k_is); (case l => k_is); (case c => k_is); (case k => k_is))
    (case D__law_door => refine' PA.def_mk KX G ?a ?l ?c ?k; (case a => k_is); (case l => k_is); (case c => k_is); (case k => k_is))
    (case D__law_heard => refine' PA.def_mk KX G ?a ?l ?c ?k; (case a => k_is); (case l => k_is); (case c => k_is); (case k => k_is))
    (case D__law_no_counts => refine' PA.def_mk KX G ?a ?l ?c ?k; (case a => k_is); (case l => k_is); (case c => k_is); (case k => k_is))
    (case D__law_greedy => refine' PA.def_mk KX G ?a ?l ?c ?k; (case a => k_is); (case l => k_is); (case c => k_is); (case k => k_is))
    (case D__law_purse => refine' PA.def_mk KX G ?a ?l ?c ?k; (case a => k_is); (case l => k_is); (case c => k_is); (case k => k_is))
    (case D__law_mixed => refine' PA.def_mk KX G ?a ?l ?c ?k; (case a => k_is); (case l => k_is); (case c => k_is); (case k => k_is))
    (case D__law_draw => refine' PA.def_mk KX G ?a ?l ?c ?k; (case a => k_is); (case l => k_is); (case c => k_is); (case k => k_is))
    (case D__law_purses => refine' PA.def_mk KX G ?a ?l ?c ?k; (case a => k_is); (case l => k_is); (case c => k_is); (case k => k_is))
    (case D__law_one_of => refine' PA.def_mk KX G ?a ?l ?c ?k; (case a => k_is); (case l => k_is); (case c => k_is); (case k => k_is))
    (case D__law_exact => refine' PA.def_mk KX G ?a ?l ?c ?k; (case a => k_is); (case l => k_is); (case c => k_is); (case k => k_is))
    (case D__law_some => refine' PA.def_mk KX G ?a ?l ?c ?k; (case a => k_is); (case l => k_is); (case c => k_is); (case k => k_is))
    (case D__law_row => refine' PA.def_mk KX G ?a ?l ?c ?k; (case a => k_is); (case l => k_is); (case c => k_is); (case k => k_is))
    (case D__law_is_breaking => refine' PA.def_mk KX G ?a ?l ?c ?k; (case a => k_is); (case l => k_is); (case c => k_is); (case k => k_is))
    (case D__law_asked => refine' PA.def_mk KX G ?a ?l ?c ?k; (case a => k_is); (case l => k_is); (case c => k_is); (case k => k_is))
    (case D__law_drawn_breaking => refine' PA.def_mk KX G ?a ?l ?c ?k; (case a => k_is); (case l => k_is); (case c => k_is); (case k => k_is))
    (case D__law_bent => refine' PA.def_mk KX G ?a ?l ?c ?k; (case a => k_is); (case l => k_is); (case c => k_is); (case k => k_is))
    (case D__law_judged => refine' PA.def_mk KX G ?a ?l ?c ?k; (case a => k_is); (case l => k_is); (case c => k_is); (case k => k_is))
    (case D__law_first_of_all => refine' PA.def_mk KX G ?a ?l ?c ?k; (case a => k_is); (case l => k_is); (case c => k_is); (case k => k_is))
    (case D__law_right => refine' PA.def_mk KX G ?a ?l ?c ?k; (case a => k_is); (case l => k_is); (case c => k_is); (case k => k_is))
    (case D__law_told_again => refine' PA.def_mk KX G ?a ?l ?c ?k; (case a => k_is); (case l => k_is); (case c => k_is); (case k => k_is))
    (case D__law_refused => refine' PA.def_mk KX G ?a ?l ?c ?k; (case a => k_is); (case l => k_is); (case c => k_is); (case k => k_is))
    (case D_law => refine' PA.def_mk KX G ?a ?l ?c ?k; (case a => k_is); (case l => k_is); (case c => k_is); (case k => k_is))
    (case z_isinstance => k_is)
    (case z_bool => k_is)
    (case z_int => k_is)
    (case z_max => k_is)
    (case z_len => k_is)
    (case z_tuple => k_is)
    (case z_all => k_is)
    (case z_list => k_is)
    (case z_range => k_is)
    (case z_min => k_is)
    (case z_enumerate => k_is)
    (case z_ValueError => k_is)
    (case z_sum => k_is)
    (case z_dict => k_is)
    (case z_zip => k_is)
    (case z_str => k_is)
    (case z_sorted => k_is)
    (case a_ReadingError => k_is)
    (case a_InvalidPage => k_is)
    (case a_InvalidNumber => k_is)
    (case a_InvalidCount => k_is)
    (case a_InvalidText => k_is)
    (case a_InvalidPlace => k_is)
    (case a_InvalidCells => k_is)
    (case a_InvalidBook => k_is)
    (case a_InvalidWidth => k_is)
    (case a_InvalidKey => k_is)
    (case a_InvalidMarks => k_is)
    (case a_InvalidStand => k_is)
    (case a_InvalidLine => k_is)
    (case a_NotWritten => k_is)
    (case E_InvalidPage => refine' PA.err_mk (st := PA.si_InvalidPage) (qual := "InvalidPage.__init__") ?aC ?xL ?sa ?ga ?gg ?nb ?a1 ?t1 ?l1 ?c1 ?k1 ?lT ?kC ?eC ?tC ?hC ?ha ?hn ?ht ?hm ?hbm ?dT rfl PA.sci_InvalidPage (Or.inl rfl) (Or.inl rfl) (fun _ _ _ _ _ _ _ us its h1 h2 => match us, its, h1, h2 with | [_, _], [_], _, _ => ⟨_, rfl, rfl⟩) KX G; (case aC => k_is); (case xL => k_is); (case sa => k_is); (case ga => k_is); (case gg => k_is); (case nb => k_is); (case a1 => k_is); (case t1 => k_is); (case l1 => k_is); (case c1 => k_is); (case k1 => k_is); (case lT => k_is); (case kC => k_is); (case eC => k_is); (case tC => k_is); (case hC => k_is); (case ha => k_is); (case hn => k_is); (case ht => k_is); (case hm => k_is); (case hbm => decide +kernel); (case dT => rfl))
    (case E_InvalidNumber => refine' PA.err_mk (st := PA.si_InvalidNumber) (qual := "InvalidNumber.__init__") ?aC ?xL ?sa ?ga ?gg ?nb ?a1 ?t1 ?l1 ?c1 ?k1 ?lT ?kC ?eC ?tC ?hC ?ha ?hn ?ht ?hm ?hbm ?dT rfl PA.sci_InvalidNumber (Or.inl rfl) (Or.inl rfl) (fun _ _ _ _ _ _ _ us its h1 h2 => match us, its, h1, h2 with | [_, _], [_], _, _ => ⟨_, rfl, rfl⟩) KX G; (case aC => k_is); (case xL => k_is); (case sa => k_is); (case ga => k_is); (case gg => k_is); (case nb => k_is); (case a1 => k_is); (case t1 => k_is); (case l1 => k_is); (case c1 => k_is); (case k1 => k_is); (case lT => k_is); (case kC => k_is); (case eC => k_is); (case tC => k_is); (case hC => k_is); (case ha => k_is); (case hn => k_is); (case ht => k_is); (case hm => k_is); (case hbm => decide +kernel); (case dT => rfl))
    (case E_InvalidCount => refine' PA.err_mk (st := PA.si_InvalidCount) (qual := "InvalidCount.__init__") ?aC ?xL ?sa ?ga ?gg ?nb ?a1 ?t1 ?l1 ?c1 ?k1 ?lT ?kC ?eC ?tC ?hC ?ha ?hn ?ht ?hm ?hbm ?dT rfl PA.sci_InvalidCount (Or.inl rfl) (Or.inl rfl) (fun _ _ _ _ _ _ _ us its h1 h2 => match us, its, h1, h2 with | [_, _], [_], _, _ => ⟨_, rfl, rfl⟩) KX G; (case aC => k_is); (case xL => k_is); (case sa => k_is); (case ga => k_is); (case gg => k_is); (case nb => k_is); (case a1 => k_is); (case t1 => k_is); (case l1 => k_is); (case c1 => k_is); (case k1 => k_is); (case lT => k_is); (case kC => k_is); (case eC => k_is); (case tC => k_is); (case hC => k_is); (case ha => k_is); (case hn => k_is); (case ht => k_is); (case hm => k_is); (case hbm => decide +kernel); (case dT => rfl))
    (case E_InvalidText => refine' PA.err_mk (st := PA.si_InvalidText) (qual := "InvalidText.__init__") ?aC ?xL ?sa ?ga ?gg ?nb ?a1 ?t1 ?l1 ?c1 ?k1 ?lT ?kC ?eC ?tC ?hC ?ha ?hn ?ht ?hm ?hbm ?dT rfl PA.sci_InvalidText (Or.inl rfl) (Or.inl rfl) (fun _ _ _ _ _ _ _ us its h1 h2 => match us, its, h1, h2 with | [_, _], [_], _, _ => ⟨_, rfl, rfl⟩) KX G; (case aC => k_is); (case xL => k_is); (case sa => k_is); (case ga => k_is); (case gg => k_is); (case nb => k_is); (case a1 => k_is); (case t1 => k_is); (case l1 => k_is); (case c1 => k_is); (case k1 => k_is); (case lT => k_is); (case kC => k_is); (case eC => k_is); (case tC => k_is); (case hC => k_is); (case ha => k_is); (case hn => k_is); (case ht => k_is); (case hm => k_is); (case hbm => decide +kernel); (case dT => rfl))
    (case E_InvalidPlace => refine' PA.err_mk (st := PA.si_InvalidPlace) (qual := "InvalidPlace.__init__") ?aC ?xL ?sa ?ga ?gg ?nb ?a1 ?t1 ?l1 ?c1 ?k1 ?lT ?kC ?eC ?tC ?hC ?ha ?hn ?ht ?hm ?hbm ?dT rfl PA.sci_InvalidPlace (Or.inl rfl) (Or.inl rfl) (fun _ _ _ _ _ _ _ us its h1 h2 => match us, its, h1, h2 with | [_, _], [_], _, _ => ⟨_, rfl, rfl⟩) KX G; (case aC => k_is); (case xL => k_is); (case sa => k_is); (case ga => k_is); (case gg => k_is); (case nb => k_is); (case a1 => k_is); (case t1 => k_is); (case l1 => k_is); (case c1 => k_is); (case k1 => k_is); (case lT => k_is); (case kC => k_is); (case eC => k_is); (case tC => k_is); (case hC => k_is); (case ha => k_is); (case hn => k_is); (case ht => k_is); (case hm => k_is); (case hbm => decide +kernel); (case dT => rfl))
    (case E_InvalidCells => refine' PA.err_mk (st := PA.si_InvalidCells) (qual := "InvalidCells.__init__") ?aC ?xL ?sa ?ga ?gg ?nb ?a1 ?t1 ?l1 ?c1 ?k1 ?lT ?kC ?eC ?tC ?hC ?ha ?hn ?ht ?hm ?hbm ?dT rfl PA.sci_InvalidCells (Or.inl rfl) (Or.inl rfl) (fun _ _ _ _ _ _ _ us its h1 h2 => match us, its, h1, h2 with | [_, _], [_], _, _ => ⟨_, rfl, rfl⟩) KX G; (case aC => k_is); (case xL => k_is); (case sa => k_is); (case ga => k_is); (case gg => k_is); (case nb => k_is); (case a1 => k_is); (case t1 => k_is); (case l1 => k_is); (case c1 => k_is); (case k1 => k_is); (case lT => k_is); (case kC => k_is); (case eC => k_is); (case tC => k_is); (case hC => k_is); (case ha => k_is); (case hn => k_is); (case ht => k_is); (case hm => k_is); (case hbm => decide +kernel); (case dT => rfl))
    (case E_InvalidBook => refine' PA.err_mk (st := PA.si_InvalidBook) (qual := "InvalidBook.__init__") ?aC ?xL ?sa ?ga ?gg ?nb ?a1 ?t1 ?l1 ?c1 ?k1 ?lT ?kC ?eC ?tC ?hC ?ha ?hn ?ht ?hm ?hbm ?dT rfl PA.sci_InvalidBook (Or.inl rfl) (Or.inl rfl) (fun _ _ _ _ _ _ _ us its h1 h2 => match us, its, h1, h2 with | [_, _], [_], _, _ => ⟨_, rfl, rfl⟩) KX G; (case aC => k_is); (case xL => k_is); (case sa => k_is); (case ga => k_is); (case gg => k_is); (case nb => k_is); (case a1 => k_is); (case t1 => k_is); (case l1 => k_is); (case c1 => k_is); (case k1 => k_is); (case lT => k_is); (case kC => k_is); (case eC => k_is); (case tC => k_is); (case hC => k_is); (case ha => k_is); (case hn => k_is); (case ht => k_is); (case hm => k_is); (case hbm => decide +kernel); (case dT => rfl))
    (case E_InvalidWidth => refine' PA.err_mk (st := PA.si_InvalidWidth) (qual := "InvalidWidth.__init__") ?aC ?xL ?sa ?ga ?gg ?nb ?a1 ?t1 ?l1 ?c1 ?k1 ?lT ?kC ?eC ?tC ?hC ?ha ?hn ?ht ?hm ?hbm ?dT rfl PA.sci_InvalidWidth (Or.inl rfl) (Or.inl rfl) (fun _ _ _ _ _ _ _ us its h1 h2 => match us, its, h1, h2 with | [_, _], [_], _, _ => ⟨_, rfl, rfl⟩) KX G; (case aC => k_is); (case xL => k_is); (case sa => k_is); (case ga => k_is); (case gg => k_is); (case nb => k_is); (case a1 => k_is); (case t1 => k_is); (case l1 => k_is); (case c1 => k_is); (case k1 => k_is); (case lT => k_is); (case kC => k_is); (case eC => k_is); (case tC => k_is); (case hC => k_is); (case ha => k_is); (case hn => k_is); (case ht => k_is); (case hm => k_is); (case hbm => decide +kernel); (case dT => rfl))
    (case E_InvalidKey => refine' PA.err_mk (st := PA.si_InvalidKey) (qual := "InvalidKey.__init__") ?aC ?xL ?sa ?ga ?gg ?nb ?a1 ?t1 ?l1 ?c1 ?k1 ?lT ?kC ?eC ?tC ?hC ?ha ?hn ?ht ?hm ?hbm ?dT rfl PA.sci_InvalidKey (Or.inl rfl) (Or.inl rfl) (fun _ _ _ _ _ _ _ us its h1 h2 => match us, its, h1, h2 with | [_, _], [_], _, _ => ⟨_, rfl, rfl⟩) KX G; (case aC => k_is); (case xL => k_is); (case sa => k_is); (case ga => k_is); (case gg => k_is); (case nb => k_is); (case a1 => k_is); (case t1 => k_is); (case l1 => k_is); (case c1 => k_is); (case k1 => k_is); (case lT => k_is); (case kC => k_is); (case eC => k_is); (case tC => k_is); (case hC => k_is); (case ha => k_is); (case hn => k_is); (case ht => k_is); (case hm => k_is); (case hbm => decide +kernel); (case dT => rfl))
    (case E_InvalidMarks => refine' PA.err_mk (st := PA.si_InvalidMarks) (qual := "InvalidMarks.__init__") ?aC ?xL ?sa ?ga ?gg ?nb ?a1 ?t1 ?l1 ?c1 ?k1 ?lT ?kC ?eC ?tC ?hC ?ha ?hn ?ht ?hm ?hbm ?dT rfl PA.sci_InvalidMarks (Or.inl rfl) (Or.inl rfl) (fun _ _ _ _ _ _ _ us its h1 h2 => match us, its, h1, h2 with | [_, _], [_], _, _ => ⟨_, rfl, rfl⟩) KX G; (case aC => k_is); (case xL => k_is); (case sa => k_is); (case ga => k_is); (case gg => k_is); (case nb => k_is); (case a1 => k_is); (case t1 => k_is); (case l1 => k_is); (case c1 => k_is); (case k1 => k_is); (case lT => k_is); (case kC => k_is); (case eC => k_is); (case tC => k_is); (case hC => k_is); (case ha => k_is); (case hn => k_is); (case ht => k_is); (case hm => k_is); (case hbm => decide +kernel); (case dT => rfl))
    (case E_InvalidStand => refine' PA.err_mk (st := PA.si_InvalidStand) (qual := "InvalidStand.__init__") ?aC ?xL ?sa ?ga ?gg ?nb ?a1 ?t1 ?l1 ?c1 ?k1 ?lT ?kC ?eC ?tC ?hC ?ha ?hn ?ht ?hm ?hbm ?dT rfl PA.sci_InvalidStand (Or.inl rfl) (Or.inl rfl) (fun _ _ _ _ _ _ _ us its h1 h2 => match us, its, h1, h2 with | [_, _], [_], _, _ => ⟨_, rfl, rfl⟩) KX G; (case aC => k_is); (case xL => k_is); (case sa => k_is); (case ga => k_is); (case gg => k_is); (case nb => k_is); (case a1 => k_is); (case t1 => k_is); (case l1 => k_is); (case c1 => k_is); (case k1 => k_is); (case lT => k_is); (case kC => k_is); (case eC => k_is); (case tC => k_is); (case hC => k_is); (case ha => k_is); (case hn => k_is); (case ht => k_is); (case hm => k_is); (case hbm => decide +kernel); (case dT => rfl))
    (case E_InvalidLine => refine' PA.err_mk (st := PA.si_InvalidLine) (qual := "InvalidLine.__init__") ?aC ?xL ?sa ?ga ?gg ?nb ?a1 ?t1 ?l1 ?c1 ?k1 ?lT ?kC ?eC ?tC ?hC ?ha ?hn ?ht ?hm ?hbm ?dT rfl PA.sci_InvalidLine (Or.inl rfl) (Or.inl rfl) (fun _ _ _ _ _ _ _ us its h1 h2 => match us, its, h1, h2 with | [_, _], [_], _, _ => ⟨_, rfl, rfl⟩) KX G; (case aC => k_is); (case xL => k_is); (case sa => k_is); (case ga => k_is); (case gg => k_is); (case nb => k_is); (case a1 => k_is); (case t1 => k_is); (case l1 => k_is); (case c1 => k_is); (case k1 => k_is); (case lT => k_is); (case kC => k_is); (case eC => k_is); (case tC => k_is); (case hC => k_is); (case ha => k_is); (case hn => k_is); (case ht => k_is); (case hm => k_is); (case hbm => decide +kernel); (case dT => rfl))
    (case E_NotWritten => refine' PA.err_mk (st := PA.si_NotWritten) (qual := "NotWritten.__init__") ?aC ?xL ?sa ?ga ?gg ?nb ?a1 ?t1 ?l1 ?c1 ?k1 ?lT ?kC ?eC ?tC ?hC ?ha ?hn ?ht ?hm ?hbm ?dT rfl PA.sci_NotWritten (Or.inl rfl) (Or.inl rfl) (fun _ _ _ _ _ _ _ us its h1 h2 => match us, its, h1, h2 with | [_, _], [_], _, _ => ⟨_, rfl, rfl⟩) KX G; (case aC => k_is); (case xL => k_is); (case sa => k_is); (case ga => k_is); (case gg => k_is); (case nb => k_is); (case a1 => k_is); (case t1 => k_is); (case l1 => k_is); (case c1 => k_is); (case k1 => k_is); (case lT => k_is); (case kC => k_is); (case eC => k_is); (case tC => k_is); (case hC => k_is); (case ha => k_is); (case hn => k_is); (case ht => k_is); (case hm => k_is); (case hbm => decide +kernel); (case dT => rfl))
    (case i_InvalidPage => k_is)
    (case t_InvalidPage => k_is)
    (case i_InvalidBook => k_is)
    (case t_InvalidBook => k_is)
    (case i_InvalidText => k_is)
    (case t_InvalidText => k_is)
    (case i_InvalidCells => k_is)
    (case t_InvalidCells => k_is)
    (case i_InvalidWidth => k_is)
    (case t_InvalidWidth => k_is)
    (case i_InvalidCount => k_is)
    (case t_InvalidCount => k_is)
    (case i_InvalidKey => k_is)
    (case t_InvalidKey => k_is)
    (case i_InvalidMarks => k_is)
    (case t_InvalidMarks => k_is)
    (case i_InvalidStand => k_is)
    (case t_InvalidStand => k_is)
    (case i_InvalidPlace => k_is)
    (case t_InvalidPlace => k_is)
    (case i_InvalidLine => k_is)
    (case t_InvalidLine => k_is)
    (case i_InvalidNumber => k_is)
    (case t_InvalidNumber => k_is)
    (case i_NotWritten => k_is)
    (case t_NotWritten => k_is)
    (case i_ReadingError => k_is)
    (case t_ReadingError => k_is)
    (case bR => k_is)
    (case s_InvalidCells_InvalidPage => k_is)
    (case n_InvalidCells_InvalidPage => rfl)
    (case s_InvalidCells_InvalidBook => k_is)
    (case n_InvalidCells_InvalidBook => rfl)
    (case s_InvalidCells_InvalidText => k_is)
    (case n_InvalidCells_InvalidText => rfl)
    (case s_InvalidCells_InvalidWidth => k_is)
    (case n_InvalidCells_InvalidWidth => rfl)
    (case s_InvalidCells_InvalidCount => k_is)
    (case n_InvalidCells_InvalidCount => rfl)
    (case s_InvalidCells_InvalidKey => k_is)
    (case n_InvalidCells_InvalidKey => rfl)
    (case s_InvalidCells_InvalidMarks => k_is)
    (case n_InvalidCells_InvalidMarks => rfl)
    (case s_InvalidCells_InvalidStand => k_is)
    (case n_InvalidCells_InvalidStand => rfl)
    (case s_InvalidCells_InvalidPlace => k_is)
    (case n_InvalidCells_InvalidPlace => rfl)
    (case s_InvalidCells_InvalidLine => k_is)
    (case n_InvalidCells_InvalidLine => rfl)
    (case s_InvalidCells_InvalidNumber => k_is)
    (case n_InvalidCells_InvalidNumber => rfl)
    (case s_InvalidCells_NotWritten => k_is)
    (case n_InvalidCells_NotWritten => rfl)
    (case v_InvalidCells => k_is)
    (case r_InvalidCells => k_is)
    (case s_InvalidWidth_InvalidPage => k_is)
    (case n_InvalidWidth_InvalidPage => rfl)
    (case s_InvalidWidth_InvalidBook => k_is)
    (case n_InvalidWidth_InvalidBook => rfl)
    (case s_InvalidWidth_InvalidText => k_is)
    (case n_InvalidWidth_InvalidText => rfl)
    (case s_InvalidWidth_InvalidCells => k_is)
    (case n_InvalidWidth_InvalidCells => rfl)
    (case s_InvalidWidth_InvalidCount => k_is)
    (case n_InvalidWidth_InvalidCount => rfl)
    (case s_InvalidWidth_InvalidKey => k_is)
    (case n_InvalidWidth_InvalidKey => rfl)
    (case s_InvalidWidth_InvalidMarks => k_is)
    (case n_InvalidWidth_InvalidMarks => rfl)
    (case s_InvalidWidth_InvalidStand => k_is)
    (case n_InvalidWidth_InvalidStand => rfl)
    (case s_InvalidWidth_InvalidPlace => k_is)
    (case n_InvalidWidth_InvalidPlace => rfl)
    (case s_InvalidWidth_InvalidLine => k_is)
    (case n_InvalidWidth_InvalidLine => rfl)
    (case s_InvalidWidth_InvalidNumber => k_is)
    (case n_InvalidWidth_InvalidNumber => rfl)
    (case s_InvalidWidth_NotWritten => k_is)
    (case n_InvalidWidth_NotWritten => rfl)
    (case v_InvalidWidth => k_is)
    (case r_InvalidWidth => k_is)
    (case s_InvalidCount_InvalidPage => k_is)
    (case n_InvalidCount_InvalidPage => rfl)
    (case s_InvalidCount_InvalidBook => k_is)
    (case n_InvalidCount_InvalidBook => rfl)
    (case s_InvalidCount_InvalidText => k_is)
    (case n_InvalidCount_InvalidText => rfl)
    (case s_InvalidCount_InvalidCells => k_is)
    (case n_InvalidCount_InvalidCells => rfl)
    (case s_InvalidCount_InvalidWidth => k_is)
    (case n_InvalidCount_InvalidWidth => rfl)
    (case s_InvalidCount_InvalidKey => k_is)
    (case n_InvalidCount_InvalidKey => rfl)
    (case s_InvalidCount_InvalidMarks => k_is)
    (case n_InvalidCount_InvalidMarks => rfl)
    (case s_InvalidCount_InvalidStand => k_is)
    (case n_InvalidCount_InvalidStand => rfl)
    (case s_InvalidCount_InvalidPlace => k_is)
    (case n_InvalidCount_InvalidPlace => rfl)
    (case s_InvalidCount_InvalidLine => k_is)
    (case n_InvalidCount_InvalidLine => rfl)
    (case s_InvalidCount_InvalidNumber => k_is)
    (case n_InvalidCount_InvalidNumber => rfl)
    (case s_InvalidCount_NotWritten => k_is)
    (case n_InvalidCount_NotWritten => rfl)
    (case v_InvalidCount => k_is)
    (case r_InvalidCount => k_is)

