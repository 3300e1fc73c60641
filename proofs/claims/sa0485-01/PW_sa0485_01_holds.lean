import PyProof.Rows.All
import Wide.All
import OpenK.AllK
import Wide.FinOn
import Lean
import PySem.Challenge.RW_sa0485_01
set_option Elab.async false
set_option tactic.hygienic false
set_option genSizeOf false
set_option linter.all false
set_option maxHeartbeats 8000000
set_option maxRecDepth 100000
open PySem PySem.W PyProof.Rows
namespace Mine
/-! I1 -/
section
/-! ## the shown text tells the datum -/
noncomputable def plC (c : Nat) : Bool := decide (c < 123) && ((48 ≤ c && c ≤ 57) || (65 ≤ c && c ≤ 90) || (97 ≤ c && c ≤ 122) || c == 46 || c == 39)
noncomputable def plS (x : Str) : Bool := x.cps.toList.all plC
theorem plC_repr : ∀ c, c < 123 → plC c = true → (Builtin.Str.reprChar 34 c = [c]) ∧ (c ≠ 39 → Builtin.Str.reprChar 39 c = [c]) ∧ c ≠ 34 := by decide +kernel
theorem foldl_one (q : Nat) : ∀ (l : List Nat) (acc : Array Nat), (∀ c ∈ l, Builtin.Str.reprChar q c = [c]) → (l.foldl (fun out c => out ++ (Builtin.Str.reprChar q c).toArray) acc).toList = acc.toList ++ l
  | [], acc, _ => by simp
  | c :: l, acc, h => by
    rw [List.foldl_cons, foldl_one q l _ fun d hd => h d (by simp [hd]), h c (by simp)]
    simp
theorem plS_c {x : Str} (h : plS x = true) {c : Nat} (m : c ∈ x.cps.toList) : plC c = true ∧ c < 123 := by
  have := List.all_eq_true.mp h c m
  exact ⟨this, by unfold plC at this; simp only [Bool.and_eq_true, decide_eq_true_eq] at this; exact this.1⟩
noncomputable def qOf (x : Str) : Nat := if x.cps.toList.contains 39 then 34 else 39
theorem repr_list {x : Str} (h : plS x = true) : (reprText x).cps.toList = qOf x :: x.cps.toList ++ [qOf x] := by
  have hq : reprQuote x = qOf x := by
    unfold reprQuote qOf
    have h34 : x.cps.contains 34 = false := by
      cases e : x.cps.contains 34 with
      | false => rfl
      | true =>
        have m : 34 ∈ x.cps.toList := by simpa using e
        obtain ⟨h1, h2⟩ := plS_c h m
        exact absurd rfl (plC_repr 34 h2 h1).2.2
    rw [h34]
    simp
  unfold reprText
  rw [hq]
  rw [Array.toList_push, ← Array.foldl_toList, foldl_one]
  · simp
  intro c hc
  obtain ⟨h1, h2⟩ := plS_c h hc
  have := plC_repr c h2 h1
  unfold qOf
  split
  · exact this.1
  · rename_i hn
    exact this.2.1 fun e => hn (by rw [← e]; simpa using hc)
theorem qOf_not {x : Str} (h : plS x = true) : qOf x ∉ x.cps.toList := by
  unfold qOf
  split
  · intro m
    obtain ⟨h1, h2⟩ := plS_c h m
    exact absurd rfl (plC_repr 34 h2 h1).2.2
  · rename_i hn
    simpa using hn
/-- a list up to a sign that is not in it -/
theorem upto_sign {q : Nat} : ∀ {a b : List Nat} {r s : List Nat}, q ∉ a → q ∉ b → a ++ q :: r = b ++ q :: s → a = b ∧ r = s
  | [], [], _, _, _, _, e => by simp at e; exact ⟨rfl, e⟩
  | [], c :: b, _, _, _, h, e => by simp at e; exact absurd e.1 (by intro e; exact h (by simp [e]))
  | c :: a, [], _, _, h, _, e => by simp at e; exact absurd e.1 (by intro e; exact h (by simp [e]))
  | c :: a, d :: b, r, s, ha, hb, e => by
    simp only [List.cons_append, List.cons.injEq] at e
    simp only [List.mem_cons, not_or] at ha hb
    obtain ⟨h1, h2⟩ := upto_sign ha.2 hb.2 e.2
    exact ⟨by rw [e.1, h1], h2⟩
noncomputable def sh (x : PyData) : List Nat := (PyData.shown x).cps.toList
/-- what may stand behind a shown datum -/
noncomputable def Ends : List Nat → Prop
  | [] => True
  | c :: _ => c = 44 ∨ c = 41
noncomputable def digit (c : Nat) : Bool := 48 ≤ c && c ≤ 57
theorem sh_int (n : Nat) : sh (.int n) = (Nat.toDigits 10 n).map Char.toNat := KIN.signs_num n
theorem digits_all (n : Nat) : ((Nat.toDigits 10 n).map Char.toNat).all digit = true := by
  rw [List.all_eq_true]
  intro c hc
  obtain ⟨d, hd, rfl⟩ := List.mem_map.mp hc
  have := Nat.isDigit_of_mem_toDigits (by decide) (by decide) hd
  simp only [Char.isDigit, Bool.and_eq_true, decide_eq_true_eq] at this
  obtain ⟨h1, h2⟩ := this
  have h1 : (48 : UInt32).toNat ≤ d.val.toNat := h1
  have h2 : d.val.toNat ≤ (57 : UInt32).toNat := h2
  have e1 : (48 : UInt32).toNat = 48 := rfl
  have e2 : (57 : UInt32).toNat = 57 := rfl
  have e3 : d.toNat = d.val.toNat := rfl
  ((try dsimp only [digit]) <;> simp only [Bool.and_eq_true, decide_eq_true_eq])
  lia
theorem digits_inj {m n : Nat} (h : (Nat.toDigits 10 m).map Char.toNat = (Nat.toDigits 10 n).map Char.toNat) : m = n := by
  have : Nat.toDigits 10 m = Nat.toDigits 10 n := (List.map_inj_right fun a b e => Char.toNat_inj.mp e).mp h
  have h2 := congrArg (fun l => Nat.ofDigitChars 10 l 0) this
  simpa [Nat.ofDigitChars_ten_toDigits] using h2
theorem takeW {l r : List Nat} (h : l.all digit = true) (hr : Ends r) : (l ++ r).takeWhile digit = l := by
  induction l with
  | nil =>
    cases r with
    | nil => rfl
    | cons c r => rcases hr with rfl | rfl <;> rfl
  | cons c l ih =>
    simp only [List.all_cons, Bool.and_eq_true] at h
    rw [List.cons_append, List.takeWhile_cons, h.1]
    simp [ih h.2]
theorem int_inj {m n : Nat} {r s : List Nat} (hr : Ends r) (hs : Ends s) (e : sh (.int m) ++ r = sh (.int n) ++ s) : m = n ∧ r = s := by
  rw [sh_int, sh_int] at e
  have h1 := takeW (digits_all m) hr
  rw [e, takeW (digits_all n) hs] at h1
  refine ⟨digits_inj h1.symm, ?_⟩
  rw [h1] at e
  exact List.append_cancel_left e
/-- plain data -/
noncomputable def plD : PyData → Bool
  | .str x => plS x
  | .int i => decide (0 ≤ i)
  | .none => true
  | .bool _ => true
  | .tuple xs => plDs xs
  | _ => false
where plDs : List PyData → Bool
  | [] => true
  | x :: xs => plD x && plDs xs
/-- a tuple's text behind its first item -/
noncomputable def tl (b : Bool) : List PyData → List Nat
  | [] => if b then [44, 41] else [41]
  | x :: xs => [44, 32] ++ sh x ++ tl false xs
theorem join_list : ∀ (x : PyData) (xs : List PyData), (Str.join (Str.ofString ", ") (PyData.shownAll (x :: xs))).cps.toList ++ [41] = sh x ++ tl false xs
  | x, [] => rfl
  | x, y :: ys => by
    have ih := join_list y ys
    show (PyData.shown x ++ Str.ofString ", " ++ Str.join (Str.ofString ", ") (PyData.shownAll (y :: ys))).cps.toList ++ [41] = _
    have : ∀ a b : Str, (a ++ b).cps.toList = a.cps.toList ++ b.cps.toList := fun a b => Array.toList_append
    rw [this, this, List.append_assoc, ih]
    have e : (Str.ofString ", ").cps.toList = [44, 32] := by decide +kernel
    rw [e]
    ((try dsimp only [tl, sh]) <;> simp)
theorem sh_tuple0 : sh (.tuple []) = [40, 41] := by decide +kernel
theorem sh_tuple (x : PyData) (xs : List PyData) : sh (.tuple (x :: xs)) = 40 :: sh x ++ tl xs.isEmpty xs := by
  have hap : ∀ a b : Str, (a ++ b).cps.toList = a.cps.toList ++ b.cps.toList := fun a b => Array.toList_append
  have e0 : (Str.ofString "(").cps.toList = [40] := by decide +kernel
  have e1 : (Str.ofString ",)").cps.toList = [44, 41] := by decide +kernel
  have e2 : (Str.ofString ")").cps.toList = [41] := by decide +kernel
  unfold sh
  show (tupleText (PyData.shownAll (x :: xs))).cps.toList = _
  unfold tupleText
  rw [hap, hap, e0, PyData.shownAll_length]
  cases xs with
  | nil =>
    have : ((if ([x].length == 1) = true then ",)" else ")" : String) : Str) = Str.ofString ",)" := rfl
    rw [this, e1]
    show [40] ++ (PyData.shown x).cps.toList ++ [44, 41] = _
    ((try dsimp only [tl]) <;> simp)
  | cons y ys =>
    have : ((if ((x :: y :: ys).length == 1) = true then ",)" else ")" : String) : Str) = Str.ofString ")" := by
      rw [if_neg (by simp)]
    rw [this, e2, List.append_assoc, join_list x (y :: ys)]
    ((try dsimp only [tl, sh]) <;> simp)
theorem sh_str {x : Str} (h : plS x = true) : sh (.str x) = qOf x :: x.cps.toList ++ [qOf x] := repr_list h
theorem qOf_or (x : Str) : qOf x = 34 ∨ qOf x = 39 := by unfold qOf; split <;> simp
theorem sh_none : sh .none = [78, 111, 110, 101] := by decide +kernel
theorem sh_true : sh (.bool true) = [84, 114, 117, 101] := by decide +kernel
theorem sh_false : sh (.bool false) = [70, 97, 108, 115, 101] := by decide +kernel
/-- the class of the first sign -/
noncomputable def clsOf (c : Nat) : Nat := if digit c then 1 else if c = 34 ∨ c = 39 then 2 else if c = 40 then 3 else if c = 78 then 4 else if c = 84 then 5 else if c = 70 then 6 else 0
noncomputable def kindOf : PyData → Nat
  | .int _ => 1
  | .str _ => 2
  | .tuple _ => 3
  | .none => 4
  | .bool true => 5
  | .bool false => 6
  | _ => 7
theorem sh_head {x : PyData} (h : plD x = true) : ∃ c r, sh x = c :: r ∧ clsOf c = kindOf x ∧ c ≠ 41 ∧ c ≠ 44 := by
  match x, h with
  | .none, _ => exact ⟨_, _, sh_none, by decide, by decide, by decide⟩
  | .bool true, _ => exact ⟨_, _, sh_true, by decide, by decide, by decide⟩
  | .bool false, _ => exact ⟨_, _, sh_false, by decide, by decide, by decide⟩
  | .int i, h =>
    ((try dsimp only [plD] at h) <;> simp only [decide_eq_true_eq] at h)
    obtain ⟨n, rfl⟩ := Int.eq_ofNat_of_zero_le h
    have h1 := digits_all n
    have h2 : (Nat.toDigits 10 n).map Char.toNat ≠ [] := by simp [Nat.toDigits_ne_nil]
    cases e : (Nat.toDigits 10 n).map Char.toNat with
    | nil => exact absurd e h2
    | cons c r =>
      rw [e] at h1
      simp only [List.all_cons, Bool.and_eq_true] at h1
      have hd : digit c = true := h1.1
      refine ⟨c, r, (sh_int n).trans e, by ((try dsimp only [clsOf, kindOf]) <;> simp [hd]), ?_, ?_⟩ <;> (rintro rfl; ((try dsimp only [digit] at hd) <;> simp at hd))
  | .str x, h =>
    refine ⟨_, _, sh_str h, ?_, ?_, ?_⟩
    · rcases qOf_or x with e | e <;> rw [e] <;> rfl
    · rcases qOf_or x with e | e <;> rw [e] <;> decide
    · rcases qOf_or x with e | e <;> rw [e] <;> decide
  | .tuple [], _ => exact ⟨_, _, sh_tuple0, by decide, by decide, by decide⟩
  | .tuple (x :: xs), _ => exact ⟨_, _, sh_tuple x xs, rfl, by decide, by decide⟩
theorem ends_tl (b : Bool) (xs : List PyData) (r : List Nat) : Ends (tl b xs ++ r) := by
  cases xs with
  | nil => cases b <;> ((try dsimp only [tl, Ends]) <;> simp)
  | cons x xs => ((try dsimp only [tl, Ends]) <;> simp)
theorem ko1 {y : PyData} (h : kindOf y = 1) : ∃ j, y = .int j := by
  cases y with
  | int j => exact ⟨j, rfl⟩
  | bool b => cases b <;> exact absurd h (Nat.ne_of_beq_eq_false rfl)
  | _ => exact absurd h (Nat.ne_of_beq_eq_false rfl)
theorem ko2 {y : PyData} (h : kindOf y = 2) : ∃ a, y = .str a := by
  cases y with
  | str a => exact ⟨a, rfl⟩
  | bool b => cases b <;> exact absurd h (Nat.ne_of_beq_eq_false rfl)
  | _ => exact absurd h (Nat.ne_of_beq_eq_false rfl)
theorem ko3 {y : PyData} (h : kindOf y = 3) : ∃ xs, y = .tuple xs := by
  cases y with
  | tuple xs => exact ⟨xs, rfl⟩
  | bool b => cases b <;> exact absurd h (Nat.ne_of_beq_eq_false rfl)
  | _ => exact absurd h (Nat.ne_of_beq_eq_false rfl)
theorem ko4 {y : PyData} (h : kindOf y = 4) : y = .none := by
  cases y with
  | none => rfl
  | bool b => cases b <;> exact absurd h (Nat.ne_of_beq_eq_false rfl)
  | _ => exact absurd h (Nat.ne_of_beq_eq_false rfl)
theorem ko5 {y : PyData} {b : Bool} (h : kindOf y = kindOf (.bool b)) : y = .bool b := by
  cases y with
  | bool c => cases b <;> cases c <;> first | rfl | exact absurd h (Nat.ne_of_beq_eq_false rfl)
  | _ => cases b <;> exact absurd h (Nat.ne_of_beq_eq_false rfl)
theorem sh_kind {x y : PyData} {r s : List Nat} (hx : plD x = true) (hy : plD y = true) (e : sh x ++ r = sh y ++ s) : kindOf y = kindOf x := by
  obtain ⟨c, r', e1, e2, _⟩ := sh_head hx
  obtain ⟨d, s', e3, e4, _⟩ := sh_head hy
  rw [e1, e3] at e
  simp only [List.cons_append, List.cons.injEq] at e
  rw [← e2, ← e4, e.1]
mutual
theorem sh_inj : ∀ (x y : PyData) {r s : List Nat}, plD x = true → plD y = true → Ends r → Ends s → sh x ++ r = sh y ++ s → x = y ∧ r = s
  | .none, y, r, s, hx, hy, _, _, e => by
    obtain rfl := ko4 (sh_kind hx hy e)
    exact ⟨rfl, List.append_cancel_left e⟩
  | .bool b, y, r, s, hx, hy, _, _, e => by
    obtain rfl := ko5 (sh_kind hx hy e)
    exact ⟨rfl, List.append_cancel_left e⟩
  | .int i, y, r, s, hx, hy, hr, hs, e => by
    obtain ⟨j, rfl⟩ := ko1 (sh_kind hx hy e)
    have hx := of_decide_eq_true hx
    have hy := of_decide_eq_true hy
    obtain ⟨m, rfl⟩ := Int.eq_ofNat_of_zero_le hx
    obtain ⟨n, rfl⟩ := Int.eq_ofNat_of_zero_le hy
    obtain ⟨rfl, h⟩ := int_inj hr hs e
    exact ⟨rfl, h⟩
  | .str a, y, r, s, hx, hy, hr, hs, e => by
    obtain ⟨b, rfl⟩ := ko2 (sh_kind hx hy e)
    rw [sh_str hx, sh_str hy] at e
    simp only [List.cons_append, List.append_assoc, List.cons.injEq, List.nil_append] at e
    obtain ⟨eq, e⟩ := e
    have ha := qOf_not hx
    have hb := qOf_not hy
    rw [← eq] at hb e
    obtain ⟨h1, h2⟩ := upto_sign ha hb e
    refine ⟨?_, h2⟩
    cases a; cases b
    simp only [PyData.str.injEq, Str.mk.injEq]
    exact Array.toList_inj.mp h1
  | .tuple [], y, r, s, hx, hy, _, _, e => by
    obtain ⟨ys, rfl⟩ := ko3 (sh_kind hx hy e)
    cases ys with
    | nil => exact ⟨rfl, List.append_cancel_left e⟩
    | cons y ys =>
      rw [sh_tuple0, sh_tuple] at e
      have hy := Bool.and_eq_true_iff.mp hy
      obtain ⟨d, s', e3, _, e4, _⟩ := sh_head hy.1
      rw [e3] at e
      simp only [List.cons_append, List.nil_append, List.cons.injEq, true_and] at e
      exact absurd e.1.symm e4
  | .tuple (x :: xs), y, r, s, hx, hy, hr, hs, e => by
    obtain ⟨ys, rfl⟩ := ko3 (sh_kind hx hy e)
    cases ys with
    | nil =>
      rw [sh_tuple0, sh_tuple] at e
      have hx := Bool.and_eq_true_iff.mp hx
      obtain ⟨d, s', e3, _, e4, _⟩ := sh_head hx.1
      rw [e3] at e
      simp only [List.cons_append, List.nil_append, List.cons.injEq, true_and] at e
      exact absurd e.1 e4
    | cons y ys =>
      rw [sh_tuple, sh_tuple] at e
      have hx := Bool.and_eq_true_iff.mp hx
      have hy := Bool.and_eq_true_iff.mp hy
      simp only [List.cons_append, List.append_assoc, List.cons.injEq, true_and] at e
      obtain ⟨h1, e2⟩ := sh_inj x y hx.1 hy.1 (ends_tl _ _ _) (ends_tl _ _ _) e
      obtain ⟨h2, e3⟩ := tl_inj xs ys hx.2 hy.2 (b := xs.isEmpty) (b' := ys.isEmpty) (fun h => h) hr hs e2
      exact ⟨by rw [h1, h2], e3⟩
  | .list _, _, _, _, hx, _, _, _, _ => Bool.noConfusion (show false = true from hx)
  | .dict _, _, _, _, hx, _, _, _, _ => Bool.noConfusion (show false = true from hx)
theorem tl_inj : ∀ (xs ys : List PyData) {r s : List Nat} {b b' : Bool}, plD.plDs xs = true → plD.plDs ys = true → (xs.isEmpty = ys.isEmpty → b = b') → Ends r → Ends s → tl b xs ++ r = tl b' ys ++ s → xs = ys ∧ r = s
  | [], [], r, s, b, b', _, _, hb, _, _, e => by
    have := hb rfl
    subst this
    exact ⟨rfl, List.append_cancel_left e⟩
  | [], y :: ys, r, s, b, b', _, _, _, hr, _, e => by
    cases b
    · ((try dsimp only [tl] at e) <;> simp at e)
    · ((try dsimp only [tl] at e) <;> simp at e)
  | x :: xs, [], r, s, b, b', _, _, _, _, _, e => by
    cases b'
    · ((try dsimp only [tl] at e) <;> simp at e)
    · ((try dsimp only [tl] at e) <;> simp at e)
  | x :: xs, y :: ys, r, s, b, b', hx, hy, _, hr, hs, e => by
    have hx := Bool.and_eq_true_iff.mp hx
    have hy := Bool.and_eq_true_iff.mp hy
    ((try dsimp only [tl] at e) <;> simp only [List.cons_append, List.append_assoc, List.cons.injEq, true_and, List.nil_append] at e)
    obtain ⟨rfl, e2⟩ := sh_inj x y hx.1 hy.1 (ends_tl _ _ _) (ends_tl _ _ _) e
    obtain ⟨rfl, e3⟩ := tl_inj xs ys hx.2 hy.2 (fun ζ => rfl) hr hs e2
    exact ⟨rfl, e3⟩
end
theorem shown_inj {x y : PyData} (hx : plD x = true) (hy : plD y = true) (e : PyData.shown x = PyData.shown y) : x = y :=
  (sh_inj x y (r := []) (s := []) hx hy trivial trivial (by ((try dsimp only [sh]) <;> simp [e]))).1
end
/-! K0 -/
section
/-- kinds, as the text builds them -/
inductive Kd where
  | var (x : Str)
  | name (x : Str) (ps : List Kd)
  | tup (p : Kd)
  | tupv (p r : Kd)
  | uni (ps : List Kd)
  | all (x : Str) (lo up bd : Kd)
  | typeof (k : Kd)
  | bottom
  deriving Inhabited
mutual
noncomputable def Kd.dat : Kd → PyData
  | .var x => .tuple [.str (Str.ofString "var"), .str x]
  | .name x ps => .tuple [.str (Str.ofString "name"), .str x, .tuple (Kd.dats ps)]
  | .tup p => .tuple [.str (Str.ofString "tuple"), .tuple [p.dat], .none]
  | .tupv p r => .tuple [.str (Str.ofString "tuple"), .tuple [p.dat], r.dat]
  | .uni ps => .tuple [.str (Str.ofString "union"), .tuple (Kd.dats ps)]
  | .all x lo up bd => .tuple [.str (Str.ofString "all"), .str x, lo.dat, up.dat, bd.dat]
  | .typeof k => .tuple [.str (Str.ofString "typeof"), k.dat]
  | .bottom => .tuple [.str (Str.ofString "bottom")]
noncomputable def Kd.dats : List Kd → List PyData
  | [] => []
  | k :: ks => k.dat :: Kd.dats ks
end
theorem Kd.dats_eq : ∀ ks : List Kd, Kd.dats ks = ks.map Kd.dat
  | [] => rfl
  | k :: ks => congrArg (k.dat :: ·) (Kd.dats_eq ks)
theorem Kd.dats_length (ks : List Kd) : (Kd.dats ks).length = ks.length := by rw [Kd.dats_eq]; simp
noncomputable def Kd.parts : Kd → List Kd
  | .var _ => []
  | .name _ ps => ps
  | .tup p => [p]
  | .tupv p r => [p, r]
  | .uni ps => ps
  | .all _ lo up bd => [lo, up, bd]
  | .typeof k => [k]
  | .bottom => []
mutual
noncomputable def Kd.sz : Kd → Nat
  | .var _ => 1
  | .name _ ps => 1 + Kd.szs ps
  | .tup p => 1 + p.sz
  | .tupv p r => 1 + p.sz + r.sz
  | .uni ps => 1 + Kd.szs ps
  | .all _ lo up bd => 1 + lo.sz + up.sz + bd.sz
  | .typeof k => 1 + k.sz
  | .bottom => 1
noncomputable def Kd.szs : List Kd → Nat
  | [] => 0
  | k :: ks => k.sz + Kd.szs ks
end
theorem Kd.sz_pos (k : Kd) : 1 ≤ k.sz := by cases k <;> dsimp only [Kd.sz] <;> lia
theorem Kd.szs_length : ∀ ks : List Kd, ks.length ≤ Kd.szs ks
  | [] => Nat.le_refl _
  | k :: ks => by have := Kd.szs_length ks; have := k.sz_pos; dsimp only [Kd.szs, List.length_cons]; lia
theorem Kd.szs_mem : ∀ {ks : List Kd} {k : Kd}, k ∈ ks → k.sz ≤ Kd.szs ks
  | q :: ks, k, m => by
    rcases List.mem_cons.mp m with rfl | m
    · dsimp only [Kd.szs]; lia
    · have := Kd.szs_mem m; dsimp only [Kd.szs]; lia
theorem Kd.szs_append : ∀ ks ls : List Kd, Kd.szs (ks ++ ls) = Kd.szs ks + Kd.szs ls
  | [], ls => by ((try dsimp only [Kd.szs]) <;> simp)
  | k :: ks, ls => by show k.sz + Kd.szs (ks ++ ls) = k.sz + Kd.szs ks + Kd.szs ls; rw [Kd.szs_append ks ls]; lia
theorem Kd.szs_parts (k : Kd) : Kd.szs k.parts < k.sz := by cases k <;> ((try dsimp only [Kd.parts, Kd.szs, Kd.sz]) <;> simp) <;> lia
theorem Kd.szs_perm {ks ls : List Kd} (h : ks.Perm ls) : Kd.szs ks = Kd.szs ls := by
  induction h with
  | nil => rfl
  | cons x _ ih => ((try dsimp only [Kd.szs]) <;> simp only [ih])
  | swap x y l => dsimp only [Kd.szs]; lia
  | trans _ _ a b => exact a.trans b
end
/-! H -/
section
noncomputable def stm (i : Nat) : Stmt := PySem.Challenge.pw_sa0485_01.main.body.getD i (.Pass ⟨0, 0, 0, 0⟩)
noncomputable def mth (i : Nat) : Stmt := match stm 3 with
  | .ClassDef _ _ _ b .. => b.getD i (.Pass ⟨0, 0, 0, 0⟩)
  | s => s
/-- a function as its def leaves it -/
noncomputable def fnO (q : Str) (m : Value) (c : Nat) (s : Stmt) : Obj := match s with
  | .FunctionDef nm ps b _ _ _ sc _ _ _ => { cls := .type "function", data := .func { name := nm, qualname := q, params := ps, body := .stmts b, scope := sc, globals := 3, closure := [], defaults := .none, kwdefaults := .none, pyModule := m, code := .ref c } }
  | _ => { cls := .none, data := .seq #[] }
noncomputable def orN (b : Bool) (a : Nat) : Value := match b with
  | true => .ref a
  | false => .none
/-- its code object -/
noncomputable def cdO (nm q : Str) (t u c a : Nat) (ln ac : Int) (w : Bool) : Obj :=
  { cls := .type "code", data := .fields #[.str nm t, .str q (t + 1), .str (Str.ofString "/claim/cut.py") (t + 2), .int ln 0, .int ac 0, .int 0 0, .int 0 0, .int 3 0, .ref a, .bool true, .int 181 0, .ref (a + 1), .none, orN w (a + 2), orN w (a + 3), .ref (c - 1), .int (u - 1) 0, .int ln 0, .str (Str.ofString "/claim/cut.py") u] }
noncomputable def tpO (vs : List Value) : Obj := { cls := .type "tuple", data := .seq vs.toArray }
noncomputable def mo (b : Bool) : Value := match b with
  | true => .str (Str.ofString "methodrows.kind_terms") 187
  | false => .str (Str.ofString "law_sa0485_01") 338
noncomputable def ent (P : Params) (k : String) (t : Nat) (v : Value) : DictEntry := { hash := PyData.keyHash P (Str.ofString k), key := .str (Str.ofString k) t, val := v }
/-- what the walks need of the heap behind the top -/
noncomputable def hpK (P : Params) : Frag := [
  (3, { cls := .type "dict", data := .dict #[ent P "__name__" 165 (.str (Str.ofString "law_sa0485_01") 338), ent P "__doc__" 166 .none, ent P "__package__" 167 .none, ent P "__loader__" 168 (.builtin "__main__.__loader__#opaque"), ent P "__spec__" 169 .none, ent P "__annotations__" 170 (.ref 6), ent P "__builtins__" 171 (.ref 4), ent P "__file__" 173 (.str (Str.ofString "/claim/cut.py") 172), ent P "__cached__" 174 .none, ent P "ANY" 191 (.ref 16), ent P "BOTTOM" 193 (.ref 17), ent P "Supply" 229 (.ref 41), ent P "union_of" 239 (.ref 52), ent P "parts_of_kind" 247 (.ref 59), ent P "rebuilt_kind" 257 (.ref 66), ent P "substituted" 263 (.ref 71), ent P "substituted_binder" 269 (.ref 76), ent P "free_vars" 275 (.ref 81), ent P "renamed" 281 (.ref 86), ent P "shown_name" 288 (.ref 93), ent P "binder_text" 294 (.ref 98), ent P "bound_text" 303 (.ref 105), ent P "written_kind" 309 (.ref 110), ent P "kind_text" 316 (.ref 117), ent P "kind_key" 323 (.ref 124), ent P "same_but_names" 331 (.ref 131), ent P "placed" 337 (.ref 136), ent P "_law_flask" 348 (.ref 143), ent P "_law_sip" 357 (.ref 150), ent P "_law_kind" 363 (.ref 155), ent P "_law_form" 369 (.ref 160), ent P "_law_joined" 375 (.ref 165), ent P "_law_free" 381 (.ref 170), ent P "_law_binders" 387 (.ref 175), ent P "_law_once" 393 (.ref 180), ent P "_law_kind_right" 405 (.ref 187), ent P "law" 418 (.ref 194)] 37 }),
  (15, tpO []),
  (16, tpO [.str (Str.ofString "name") 189, .str (Str.ofString "Any") 190, .ref 15]),
  (17, tpO [.str (Str.ofString "bottom") 192]),
  (30, cdO (Str.ofString "__init__") (Str.ofString "Supply.__init__") 206 211 30 25 6 1 true),
  (31, fnO (Str.ofString "Supply.__init__") (mo true) 30 (mth 0)),
  (37, cdO (Str.ofString "next") (Str.ofString "Supply.next") 213 219 37 32 9 2 true),
  (38, fnO (Str.ofString "Supply.next") (mo true) 37 (mth 1)),
  (39, tpO [.str (Str.ofString "many") 221]),
  (40, { cls := .type "dict", data := .dict #[ent P "__module__" 201 (mo true), ent P "__firstlineno__" 205 (.int 4 204), ent P "__init__" 212 (.ref 31), ent P "next" 220 (.ref 38), ent P "__static_attributes__" 222 (.ref 39), ent P "__dict__" 224 (.ref 42), ent P "__weakref__" 226 (.ref 43), ent P "__doc__" 227 .none] 4 }),
  (41, { cls := .type "type", data := .cls { name := Str.ofString "Supply", bases := [.type "object"], mro := [.ref 41, .type "object"], ns := 40, qualname := Str.ofString "Supply" }, slots := #[none, none, some (.str (Str.ofString "Supply") 194), some (.str (Str.ofString "Supply") 202), some (.builtin "object.__new__"), some (.bool true)] }),
  (42, { cls := .type "getset_descriptor", data := .fields #[.str (Str.ofString "__dict__") 223, .ref 41, .builtin "function.__dict__", .builtin "function.__dict__#set"] }),
  (43, { cls := .type "getset_descriptor", data := .fields #[.str (Str.ofString "__weakref__") 225, .ref 41, .builtin "ExceptionGroup.__weakref__", .none] }),
  (51, cdO (Str.ofString "union_of") (Str.ofString "union_of") 230 238 51 46 12 1 true),
  (52, fnO (Str.ofString "union_of") (mo true) 51 (stm 4)),
  (58, cdO (Str.ofString "parts_of_kind") (Str.ofString "parts_of_kind") 240 246 58 53 25 1 true),
  (59, fnO (Str.ofString "parts_of_kind") (mo true) 58 (stm 5)),
  (65, cdO (Str.ofString "rebuilt_kind") (Str.ofString "rebuilt_kind") 248 256 65 60 36 2 true),
  (66, fnO (Str.ofString "rebuilt_kind") (mo true) 65 (stm 6)),
  (70, cdO (Str.ofString "substituted") (Str.ofString "substituted") 258 262 70 67 48 2 false),
  (71, fnO (Str.ofString "substituted") (mo true) 70 (stm 7)),
  (75, cdO (Str.ofString "substituted_binder") (Str.ofString "substituted_binder") 264 268 75 72 55 2 false),
  (76, fnO (Str.ofString "substituted_binder") (mo true) 75 (stm 8)),
  (80, cdO (Str.ofString "free_vars") (Str.ofString "free_vars") 270 274 80 77 66 1 false),
  (81, fnO (Str.ofString "free_vars") (mo true) 80 (stm 9)),
  (85, cdO (Str.ofString "renamed") (Str.ofString "renamed") 276 280 85 82 79 2 false),
  (86, fnO (Str.ofString "renamed") (mo true) 85 (stm 10)),
  (92, cdO (Str.ofString "shown_name") (Str.ofString "shown_name") 282 287 92 87 87 1 true),
  (93, fnO (Str.ofString "shown_name") (mo true) 92 (stm 11)),
  (97, cdO (Str.ofString "binder_text") (Str.ofString "binder_text") 289 293 97 94 89 2 false),
  (98, fnO (Str.ofString "binder_text") (mo true) 97 (stm 12)),
  (104, cdO (Str.ofString "bound_text") (Str.ofString "bound_text") 295 302 104 99 95 2 true),
  (105, fnO (Str.ofString "bound_text") (mo true) 104 (stm 13)),
  (109, cdO (Str.ofString "written_kind") (Str.ofString "written_kind") 304 308 109 106 98 2 false),
  (110, fnO (Str.ofString "written_kind") (mo true) 109 (stm 14)),
  (116, cdO (Str.ofString "kind_text") (Str.ofString "kind_text") 310 315 116 111 118 1 true),
  (117, fnO (Str.ofString "kind_text") (mo true) 116 (stm 15)),
  (123, cdO (Str.ofString "kind_key") (Str.ofString "kind_key") 317 322 123 118 120 1 true),
  (124, fnO (Str.ofString "kind_key") (mo true) 123 (stm 16)),
  (130, cdO (Str.ofString "same_but_names") (Str.ofString "same_but_names") 324 330 130 125 122 2 true),
  (131, fnO (Str.ofString "same_but_names") (mo true) 130 (stm 17)),
  (135, cdO (Str.ofString "placed") (Str.ofString "placed") 332 336 135 132 124 2 false),
  (136, fnO (Str.ofString "placed") (mo true) 135 (stm 18)),
  (142, cdO (Str.ofString "_law_flask") (Str.ofString "_law_flask") 340 347 142 137 136 2 true),
  (143, fnO (Str.ofString "_law_flask") (mo false) 142 (stm 20)),
  (149, cdO (Str.ofString "_law_sip") (Str.ofString "_law_sip") 349 356 149 144 139 2 true),
  (150, fnO (Str.ofString "_law_sip") (mo false) 149 (stm 21)),
  (154, cdO (Str.ofString "_law_kind") (Str.ofString "_law_kind") 358 362 154 151 144 3 false),
  (155, fnO (Str.ofString "_law_kind") (mo false) 154 (stm 22)),
  (159, cdO (Str.ofString "_law_form") (Str.ofString "_law_form") 364 368 159 156 162 3 false),
  (160, fnO (Str.ofString "_law_form") (mo false) 159 (stm 23)),
  (164, cdO (Str.ofString "_law_joined") (Str.ofString "_law_joined") 370 374 164 161 178 1 false),
  (165, fnO (Str.ofString "_law_joined") (mo false) 164 (stm 24)),
  (169, cdO (Str.ofString "_law_free") (Str.ofString "_law_free") 376 380 169 166 186 1 false),
  (170, fnO (Str.ofString "_law_free") (mo false) 169 (stm 25)),
  (174, cdO (Str.ofString "_law_binders") (Str.ofString "_law_binders") 382 386 174 171 192 1 false),
  (175, fnO (Str.ofString "_law_binders") (mo false) 174 (stm 26)),
  (179, cdO (Str.ofString "_law_once") (Str.ofString "_law_once") 388 392 179 176 202 1 false),
  (180, fnO (Str.ofString "_law_once") (mo false) 179 (stm 27)),
  (186, cdO (Str.ofString "_law_kind_right") (Str.ofString "_law_kind_right") 394 404 186 181 204 2 true),
  (187, fnO (Str.ofString "_law_kind_right") (mo false) 186 (stm 28)),
  (193, cdO (Str.ofString "law") (Str.ofString "law") 406 417 193 188 213 1 true),
  (194, fnO (Str.ofString "law") (mo false) 193 (stm 29))]
noncomputable def adrs : List Nat := [3, 15, 16, 17, 30, 31, 37, 38, 39, 40, 41, 42, 43, 51, 52, 58, 59, 65, 66, 70, 71, 75, 76, 80, 81, 85, 86, 92, 93, 97, 98, 104, 105, 109, 110, 116, 117, 123, 124, 130, 131, 135, 136, 142, 143, 149, 150, 154, 155, 159, 160, 164, 165, 169, 170, 174, 175, 179, 180, 186, 187, 193, 194]
noncomputable def view : Program := { PySem.Challenge.pw_sa0485_01 with main := { PySem.Challenge.pw_sa0485_01.main with body := (PySem.Challenge.pw_sa0485_01.main.body.eraseIdx 19).eraseIdx 0 } }
theorem adrs_eq (P : Params) : adrs = (hpK P).map (·.1) := rfl
theorem looks : looksOpen PySem.Challenge.rw_sa0485_01.row.prog = true := by
  delta looksOpen
  try rw [PySem.W.Fast.te8326940854005059898]
  try rw [PySem.W.Fast.te17119622794617984870]
  try rw [PySem.W.Fast.te8377067652309620493]
  exact look_both (look_both (look_both (look_both (by decide +kernel) (by decide +kernel)) (by decide +kernel)) (by decide +kernel)) (by decide +kernel)
theorem said : PySem.Challenge.rw_sa0485_01.wellSaid = true := by
  delta OpenLaw.wellSaid OpenRow.wellSaid OpenRow.partSaid
  rw [looks]
  try rw [PySem.W.Fast.te8326940854005059898]
  try rw [PySem.W.Fast.te17119622794617984870]
  try rw [PySem.W.Fast.named_eq]
  decide +kernel
/-- the whole top, run once by the kernel -/
theorem left : LeftO PySem.Challenge.rw_sa0485_01.prog view [] (fun s => xlAt view [] s && recOk (RowW.records PySem.Challenge.rw_sa0485_01.row.toRowW) s) (Hook.obs (kHook hpK adrs adrs_eq)) (Hook.val (kHook hpK adrs adrs_eq)) 2140 := by
  intro w
  delta openEnds fencedOpening topFrom
  try rw [PySem.W.Fast.te14082659384304107361]
  try rw [PySem.W.Fast.te14364793385576792824]
  try rw [PySem.W.Fast.te4187177175401517315]
  kernel_rfl
end
/-! L1 -/
section
noncomputable abbrev Keep (h h' : Heap) : Prop := ∀ b o, h.get? b = some o → h'.get? b = some o
noncomputable def Ext (X : List Addr) (h h' : Heap) : Prop := ∀ b o, h.get? b = some o → b ∉ X → h'.get? b = some o
/-- objects that no step of the text changes -/
theorem lenOne {α : Type} {vs : List α} (h : vs.length = 1) : ∃ a, vs = [a] := by
  cases vs with
  | nil => cases h
  | cons a vs => cases vs with
    | nil => exact ⟨a, rfl⟩
    | cons b vs => simp at h
theorem lenTwo {α : Type} {vs : List α} (h : vs.length = 2) : ∃ a b, vs = [a, b] := by
  cases vs with
  | nil => cases h
  | cons a vs =>
    obtain ⟨b, rfl⟩ := lenOne (vs := vs) (by simpa using h)
    exact ⟨a, b, rfl⟩
theorem lenThree {α : Type} {vs : List α} (h : vs.length = 3) : ∃ a b c, vs = [a, b, c] := by
  cases vs with
  | nil => cases h
  | cons a vs =>
    obtain ⟨b, c, rfl⟩ := lenTwo (vs := vs) (by simpa using h)
    exact ⟨a, b, c, rfl⟩
theorem arrTwo {α : Type} {vs : Array α} (h : vs.size = 2) : ∃ u w, vs = #[u, w] := by
  obtain ⟨l⟩ := vs
  obtain ⟨u, w, rfl⟩ := lenTwo (vs := l) h
  exact ⟨u, w, rfl⟩
noncomputable def Fixed (o : Obj) : Prop := (o.cls = .type "tuple" ∧ ∃ vs n, o.data = .seq vs n) ∨ o.data = .plain
noncomputable def TKeep (h h' : Heap) : Prop := ∀ b o, h.get? b = some o → Fixed o → h'.get? b = some o
theorem TKeep.refl (h : Heap) : TKeep h h := fun ζ ζ e ζ => e
theorem TKeep.trans {h1 h2 h3 : Heap} (a : TKeep h1 h2) (b : TKeep h2 h3) : TKeep h1 h3 := fun x o e c => b x o (a x o e c) c
theorem TKeep.of_keep {h h' : Heap} (k : Keep h h') : TKeep h h' := fun b o e ζ => k b o e
theorem Ext.of_keep {h h' : Heap} (X : List Addr) (k : Keep h h') : Ext X h h' := fun b o e ζ => k b o e
theorem Ext.keep {h h' : Heap} (k : Ext [] h h') : Keep h h' := fun b o e => k b o e (by simp)
theorem Ext.mono {X Y : List Addr} {h h' : Heap} (k : Ext X h h') (s : ∀ a ∈ X, a ∈ Y) : Ext Y h h' := fun b o e n => k b o e fun m => n (s b m)
theorem Ext.of_sameBut {a : Addr} {h h' : Heap} (k : Heap.SameBut a h h') : Ext [a] h h' := fun b o e n => (k.2 b (by simpa using n)).trans e
theorem keep_push (h : Heap) (o : Obj) : Keep h (h.push o) := fun ζ ζ e => Heap.get?_push_of_some _ e
/-- immutable data -/
noncomputable abbrev D (h : Heap) (v : Value) (x : PyData) : Prop := Reads h v x []
noncomputable abbrev Ds (h : Heap) (vs : List Value) (xs : List PyData) : Prop := ReadsAll h vs xs []
theorem reads_mono {h h' : Heap} (k : TKeep h h') {v : Value} {x : PyData} {as : List Addr} (r : Reads h v x as) : as = [] → Reads h' v x [] :=
  Reads.rec (motive_1 := fun v x as ζ => as = [] → Reads h' v x []) (motive_2 := fun vs xs as ζ => as = [] → ReadsAll h' vs xs [])
    (fun ζ => .none) (fun b ζ => .bool b) (fun i t ζ => .int i t) (fun x t ζ => .str x t) (fun ζ ζ ζ ζ ζ e => nomatch e)
    (fun a b c ζ ih e => .tuple (k _ _ a (.inl ⟨b, _, _, c⟩)) b c (ih e)) (fun ζ ζ ζ ζ ζ ζ ζ e => nomatch e)
    (fun ζ => .nil) (fun ζ ζ i1 i2 e => .cons (as := []) (bs := []) (i1 (List.append_eq_nil_iff.mp e).1) (i2 (List.append_eq_nil_iff.mp e).2)) r
theorem readsAll_mono {h h' : Heap} (k : TKeep h h') {vs : List Value} {xs : List PyData} {as : List Addr} (r : ReadsAll h vs xs as) (e : as = []) : ReadsAll h' vs xs [] := by
  induction vs generalizing xs as with
  | nil => cases r; exact .nil
  | cons v vs ih =>
    cases r with
    | cons a b => exact .cons (as := []) (bs := []) (reads_mono k a (List.append_eq_nil_iff.mp e).1) (ih b (List.append_eq_nil_iff.mp e).2)
theorem D.mono {h h' : Heap} {v : Value} {x : PyData} (d : D h v x) (k : TKeep h h') : D h' v x := reads_mono k d rfl
theorem Ds.mono {h h' : Heap} {vs : List Value} {xs : List PyData} (d : Ds h vs xs) (k : TKeep h h') : Ds h' vs xs := readsAll_mono k d rfl
theorem readsAll_cons {h : Heap} {vs : List Value} {xs : List PyData} {as : List Addr} {v : Value} {x : PyData} (r : ReadsAll h (v :: vs) (x :: xs) as) (e : as = []) : D h v x ∧ Ds h vs xs := by
  cases r with
  | cons a b =>
    obtain ⟨rfl, rfl⟩ := List.append_eq_nil_iff.mp e
    exact ⟨a, b⟩
theorem Ds.cons_iff {h : Heap} {v : Value} {vs : List Value} {x : PyData} {xs : List PyData} : Ds h (v :: vs) (x :: xs) ↔ D h v x ∧ Ds h vs xs :=
  ⟨fun d => readsAll_cons d rfl, fun ⟨a, b⟩ => .cons (as := []) (bs := []) a b⟩
theorem readsAll_nil {h : Heap} {vs : List Value} {as : List Addr} (r : ReadsAll h vs [] as) : vs = [] := by cases r; rfl
theorem readsAll_nil' {h : Heap} {xs : List PyData} {as : List Addr} (r : ReadsAll h [] xs as) : xs = [] := by cases r; rfl
theorem Ds.nil_iff {h : Heap} {vs : List Value} : Ds h vs [] ↔ vs = [] := ⟨readsAll_nil, by rintro rfl; exact .nil⟩
theorem Ds.nil_iff' {h : Heap} {xs : List PyData} : Ds h [] xs ↔ xs = [] := ⟨readsAll_nil', by rintro rfl; exact .nil⟩
theorem Ds.length {h : Heap} {vs : List Value} {xs : List PyData} (d : Ds h vs xs) : vs.length = xs.length := by
  induction vs generalizing xs with
  | nil => cases xs with
    | nil => rfl
    | cons x xs => exact absurd (Ds.nil_iff'.mp d) (by simp)
  | cons v vs ih => cases xs with
    | nil => exact absurd (Ds.nil_iff.mp d) (by simp)
    | cons x xs => simp [ih (Ds.cons_iff.mp d).2]
theorem Ds.get {h : Heap} {vs : List Value} {xs : List PyData} (d : Ds h vs xs) {i : Nat} {x : PyData} (e : xs[i]? = some x) : ∃ v, vs[i]? = some v ∧ D h v x := by
  induction vs generalizing xs i with
  | nil => have := Ds.nil_iff'.mp d; subst this; simp at e
  | cons v vs ih => cases xs with
    | nil => simp at e
    | cons y xs =>
      obtain ⟨a, b⟩ := Ds.cons_iff.mp d
      cases i with
      | zero => simp at e; subst e; exact ⟨v, rfl, a⟩
      | succ i => simp at e; simpa using ih b e
theorem Ds.get' {h : Heap} {vs : List Value} {xs : List PyData} (d : Ds h vs xs) {i : Nat} {v : Value} (e : vs[i]? = some v) : ∃ x, xs[i]? = some x ∧ D h v x := by
  have hl := d.length
  have hi : i < xs.length := by
    have := (List.getElem?_eq_some_iff.mp e).1
    lia
  obtain ⟨v', e', dd⟩ := d.get (List.getElem?_eq_getElem hi)
  rw [e] at e'; cases e'
  exact ⟨_, List.getElem?_eq_getElem hi, dd⟩
theorem Ds.append {h : Heap} {vs ws : List Value} {xs ys : List PyData} (d : Ds h vs xs) (e : Ds h ws ys) : Ds h (vs ++ ws) (xs ++ ys) := by
  induction vs generalizing xs with
  | nil => have := Ds.nil_iff'.mp d; subst this; exact e
  | cons v vs ih => cases xs with
    | nil => exact absurd (Ds.nil_iff.mp d) (by simp)
    | cons x xs =>
      obtain ⟨a, b⟩ := Ds.cons_iff.mp d
      exact Ds.cons_iff.mpr ⟨a, ih b⟩
theorem Ds.one {h : Heap} {v : Value} {x : PyData} (d : D h v x) : Ds h [v] [x] := Ds.cons_iff.mpr ⟨d, .nil⟩
theorem Ds.take {h : Heap} {vs : List Value} {xs : List PyData} (d : Ds h vs xs) (n : Nat) : Ds h (vs.take n) (xs.take n) := by
  induction vs generalizing xs n with
  | nil => have := Ds.nil_iff'.mp d; subst this; simpa using d
  | cons v vs ih => cases xs with
    | nil => exact absurd (Ds.nil_iff.mp d) (by simp)
    | cons x xs =>
      obtain ⟨a, b⟩ := Ds.cons_iff.mp d
      cases n with
      | zero => exact .nil
      | succ n => simpa using Ds.cons_iff.mpr ⟨a, ih b n⟩
theorem Ds.drop {h : Heap} {vs : List Value} {xs : List PyData} (d : Ds h vs xs) (n : Nat) : Ds h (vs.drop n) (xs.drop n) := by
  induction vs generalizing xs n with
  | nil => have := Ds.nil_iff'.mp d; subst this; simpa using d
  | cons v vs ih => cases xs with
    | nil => exact absurd (Ds.nil_iff.mp d) (by simp)
    | cons x xs =>
      obtain ⟨a, b⟩ := Ds.cons_iff.mp d
      cases n with
      | zero => simpa using d
      | succ n => simpa using ih b n
theorem Ds.reverse {h : Heap} {vs : List Value} {xs : List PyData} (d : Ds h vs xs) : Ds h vs.reverse xs.reverse := by
  induction vs generalizing xs with
  | nil => have := Ds.nil_iff'.mp d; subst this; exact .nil
  | cons v vs ih => cases xs with
    | nil => exact absurd (Ds.nil_iff.mp d) (by simp)
    | cons x xs =>
      obtain ⟨a, b⟩ := Ds.cons_iff.mp d
      simpa using (ih b).append (.one a)
theorem D.str_inv {h : Heap} {v : Value} {x : Str} (d : D h v (.str x)) : ∃ t, v = .str x t := by cases d; exact ⟨_, rfl⟩
theorem D.int_inv {h : Heap} {v : Value} {x : Int} (d : D h v (.int x)) : ∃ t, v = .int x t := by cases d; exact ⟨_, rfl⟩
theorem D.bool_inv {h : Heap} {v : Value} {x : Bool} (d : D h v (.bool x)) : v = .bool x := by cases d; rfl
theorem D.none_inv {h : Heap} {v : Value} (d : D h v .none) : v = .none := by cases d; rfl
theorem D.tuple_inv {h : Heap} {v : Value} {xs : List PyData} (d : D h v (.tuple xs)) :
    ∃ a o vs n, v = .ref a ∧ h.get? a = some o ∧ o.cls = .type "tuple" ∧ o.data = .seq vs n ∧ Ds h vs.toList xs := by
  cases d with
  | tuple a b c e => exact ⟨_, _, _, _, rfl, a, b, c, e⟩
theorem D.mkTuple {h : Heap} {a : Addr} {vs : List Value} {xs : List PyData} (e : h.get? a = some { cls := .type "tuple", data := .seq vs.toArray }) (d : Ds h vs xs) : D h (.ref a) (.tuple xs) :=
  .tuple e rfl rfl (by simpa using d)
set_option genInjectivity false in
/-- the fixed surroundings: the program, the world, the written part, and the heap that the call of the law found -/
structure Gx where
  prog : Program
  w : World
  K : Frag
  p : Program
  loose : List Str
  mean : ExcName → Option Value
  mg : Str → Option Value
  mb : Str → Option Value
  hb : Heap
  /-- an object above the modules' table -/
  hi : ∃ b o, sysModules < b ∧ hb.get? b = some o
noncomputable abbrev Gx.M (g : Gx) : Model := model g.prog g.w
structure Gd (g : Gx) : Prop where
  K : g.K.In g.hb
  T : Top g.p g.loose g.mean g.mg g.mb g.hb
/-- what a variable holds: data, a list or dict by its number, an object whose dict has a number, a value -/
inductive Sl where
  | dat (x : PyData)
  | obj (i : Nat)
  | ins (C : Addr) (i : Nat)
  | val (x : Value)
noncomputable def Sl.Is (h : Heap) (as : List Addr) (v : Value) : Sl → Prop
  | .dat x => D h v x
  | .obj i => ∃ a, as[i]? = some a ∧ v = .ref a
  | .ins C i => ∃ a d, as[i]? = some d ∧ v = .ref a ∧ h.get? a = some { cls := .ref C, dict := some d, data := .plain }
  | .val x => v = x
theorem getElem?_app {as nw : List Addr} {i : Nat} {a : Addr} (e : as[i]? = some a) : (as ++ nw)[i]? = some a := by
  rw [List.getElem?_append_left (List.getElem?_eq_some_iff.mp e).1]; exact e
theorem Sl.Is.up {h h' : Heap} {as : List Addr} {v : Value} {sl : Sl} (x : sl.Is h as v) (k : TKeep h h') (nw : List Addr) : sl.Is h' (as ++ nw) v := by
  cases sl with
  | dat x' => exact D.mono x k
  | obj i => obtain ⟨a, e, r⟩ := x; exact ⟨a, getElem?_app e, r⟩
  | ins C i => obtain ⟨a, d, e, r, f⟩ := x; exact ⟨a, d, getElem?_app e, r, k _ _ f (.inr rfl)⟩
  | val y => exact x
inductive Ob where
  | list (xs : List PyData)
  | dict (es : List (Str × PyData))
  | sup (n : Option Nat)
/-- the entries of an object that counts -/
noncomputable def SupE : Option Nat → List DictEntry → Prop
  | none, es => es = []
  | some n, es => ∃ hs t u, es = [⟨hs, .str (Str.ofString "many") t, .int (n : Int) u⟩]
noncomputable def Ob.At (g : Gx) (h : Heap) (a : Addr) : Ob → Prop
  | .list xs => ∃ vs n, h.get? a = some (listOf vs n) ∧ Ds h vs.toList xs
  | .dict es => ∃ kvs : List (Str × Value), (h.DictOf (strKind g.prog g.w) a kvs ∧ a ≠ sysModules) ∧ kvs.map (·.1) = es.map (·.1) ∧ Ds h (kvs.map (·.2)) (es.map (·.2))
  | .sup n => ∃ es m, h.get? a = some (dictOf es m) ∧ SupE n es
theorem dictOf_keeps {prog : Program} {w : World} {h h' : Heap} {a : Addr} {kvs : List (Str × Value)} (x : h.DictOf (strKind prog w) a kvs) (k : ∀ o, h.get? a = some o → h'.get? a = some o) : h'.DictOf (strKind prog w) a kvs :=
  let ⟨o, es, ep, ho, r⟩ := x; ⟨o, es, ep, k _ ho, r⟩
theorem not_fixed {o : Obj} {t : String} (h1 : o.cls = .type t) (h2 : t ≠ "tuple") (h3 : o.data ≠ .plain) : ¬ Fixed o := by
  rintro (⟨c, _⟩ | c)
  · rw [h1] at c; injection c with c; exact h2 c
  · exact h3 c
theorem Ob.At.get {g : Gx} {h : Heap} {a : Addr} {o : Ob} (x : o.At g h a) : ∃ ob, h.get? a = some ob ∧ ¬ Fixed ob ∧ (∀ v, ob.data ≠ .cell v) := by
  cases o with
  | list xs => obtain ⟨vs, n, e, _⟩ := x; exact ⟨_, e, not_fixed (t := "list") rfl (by decide) (by intro c; cases c), (by intro v c; cases c)⟩
  | dict es =>
    obtain ⟨kvs, ⟨⟨o, es', ep, ho, hx, hd, _⟩, _⟩, _⟩ := x
    refine ⟨o, ho, not_fixed (t := "dict") hx.1 (by decide) (by intro c; rw [hd] at c; cases c), ?_⟩
    intro v c; rw [hd] at c; cases c
  | sup n => obtain ⟨es, m, e, _⟩ := x; exact ⟨_, e, not_fixed (t := "dict") rfl (by decide) (by intro c; cases c), (by intro v c; cases c)⟩
theorem Ob.At.keep {g : Gx} {h h' : Heap} {a : Addr} {o : Ob} (x : o.At g h a) (t : TKeep h h') (k : ∀ ob, h.get? a = some ob → h'.get? a = some ob) : o.At g h' a := by
  cases o with
  | list xs => obtain ⟨vs, n, e, d⟩ := x; exact ⟨vs, n, k _ e, d.mono t⟩
  | dict es => obtain ⟨kvs, ⟨e, ne⟩, q, d⟩ := x; exact ⟨kvs, ⟨dictOf_keeps e k, ne⟩, q, d.mono t⟩
  | sup n => obtain ⟨es, m, e, r⟩ := x; exact ⟨es, m, k _ e, r⟩
inductive Obs (g : Gx) (h : Heap) : List Addr → List Ob → Prop
  | nil : Obs g h [] []
  | cons {a : Addr} {o : Ob} {as : List Addr} {os : List Ob} : o.At g h a → Obs g h as os → Obs g h (a :: as) (o :: os)
theorem Obs.length {g : Gx} {h : Heap} {as : List Addr} {os : List Ob} (H : Obs g h as os) : as.length = os.length := by
  induction H with
  | nil => rfl
  | cons _ _ ih => exact congrArg Nat.succ ih
theorem Obs.both {g : Gx} {h : Heap} {as : List Addr} {os : List Ob} (H : Obs g h as os) : ∀ (i : Nat) (a : Addr) (o : Ob), as[i]? = some a → os[i]? = some o → o.At g h a := by
  induction H with
  | nil => intro i a o e; cases e
  | cons x _ ih =>
    intro i a o e1 e2
    cases i with
    | zero => cases e1; cases e2; exact x
    | succ i => exact ih i a o e1 e2
theorem Obs.get {g : Gx} {h : Heap} {as : List Addr} {os : List Ob} (H : Obs g h as os) {i : Nat} {a : Addr} (e : as[i]? = some a) : ∃ o, os[i]? = some o ∧ o.At g h a := by
  have hl : i < os.length := H.length ▸ (List.getElem?_eq_some_iff.mp e).1
  exact ⟨os[i], List.getElem?_eq_getElem hl, H.both i a _ e (List.getElem?_eq_getElem hl)⟩
theorem Obs.get' {g : Gx} {h : Heap} {as : List Addr} {os : List Ob} (H : Obs g h as os) {i : Nat} {o : Ob} (e : os[i]? = some o) : ∃ a, as[i]? = some a ∧ o.At g h a := by
  have hl : i < as.length := H.length ▸ (List.getElem?_eq_some_iff.mp e).1
  exact ⟨as[i], List.getElem?_eq_getElem hl, H.both i _ o (List.getElem?_eq_getElem hl) e⟩
theorem Obs.mk {g : Gx} {h : Heap} : ∀ {as : List Addr} {os : List Ob}, as.length = os.length → (∀ (i : Nat) (a : Addr) (o : Ob), as[i]? = some a → os[i]? = some o → o.At g h a) → Obs g h as os
  | [], [], _, _ => .nil
  | [], _ :: _, e, _ => by simp at e
  | _ :: _, [], e, _ => by simp at e
  | a :: as, o :: os, e, f => .cons (f 0 a o rfl rfl) (Obs.mk (by simpa using e) fun i a' o' h1 h2 => f (i + 1) a' o' (by simpa using h1) (by simpa using h2))
noncomputable def Same (s s' : Shared) : Prop := ∃ h tk, s' = { s with heap := h, toks := tk }
theorem Same.refl (s : Shared) : Same s s := ⟨s.heap, s.toks, rfl⟩
theorem Same.trans {a b c : Shared} : Same a b → Same b c → Same a c := by
  rintro ⟨h, t, rfl⟩ ⟨h', t', rfl⟩; exact ⟨h', t', rfl⟩
theorem Same.mk (s : Shared) (h : Heap) (t : Nat) : Same s { s with heap := h, toks := t } := ⟨h, t, rfl⟩
/-- a name of the frame and its value -/
noncomputable def Look (env : Env) (h : Heap) (x : Str) (v : Value) : Prop :=
  (env.kindOf x = some .local ∧ ∃ m, h.Ns env.locals m ∧ m x = some v) ∨
  ((env.kindOf x = some .cell ∨ env.kindOf x = some .free) ∧ ∃ c, env.cells.lookup x = some c ∧ h.IsCell c (some v))
set_option genInjectivity false in
structure Cx where
  g : Gx
  A : Around
  env : Env
  s₀ : Shared
  n₀ : Nat
  mu : List Nat
  X : List Addr
  /-- objects that no step may touch (the iterators of the loops around) -/
  pr : List (Addr × Obj) := []
  /-- may the frame write its cells -/
  wc : Bool := true
structure Fm (c : Cx) (as : List Addr) (st : List (Str × Sl)) (ob : List Ob) (s : Shared) : Prop where
  same : Same c.s₀ s
  base : Keep c.g.hb s.heap
  ext : Ext c.X c.s₀.heap s.heap
  xin : ∀ a ∈ c.X, a ∈ as
  nd : as.Nodup
  own : ∀ (i : Nat) (a : Addr), as[i]? = some a → (c.n₀ ≤ i ∨ i ∈ c.mu) → c.s₀.heap.get? a = none ∨ a ∈ c.X
  afr : ∀ (i : Nat) (a : Addr), as[i]? = some a → c.n₀ ≤ i → c.s₀.heap.get? a = none
  hbn : ∀ a ∈ as, c.g.hb.get? a = none
  obs : Obs c.g s.heap as ob
  ns : ∃ m, s.heap.Ns c.env.locals m
  lap : c.env.locals ∉ as
  lhb : c.g.hb.get? c.env.locals = none
  lfr : c.s₀.heap.get? c.env.locals = none
  cis : ∀ x a, c.env.cells.lookup x = some a → ∃ v, s.heap.IsCell a v
  cap : ∀ x y a, c.env.cells.lookup x = some a → c.env.cells.lookup y = some a → x = y
  cfr : c.wc = true → ∀ x a, c.env.cells.lookup x = some a → c.s₀.heap.get? a = none
  chb : ∀ x a, c.env.cells.lookup x = some a → c.g.hb.get? a = none
  vars : ∀ x sl, st.lookup x = some sl → ∃ v, Look c.env s.heap x v ∧ sl.Is s.heap as v
  kind : c.env.scope.kind = .function
  par : ∀ (i : Nat) (a : Addr), as[i]? = some a → i < c.n₀ → (∃ o, c.s₀.heap.get? a = some o) ∧ (i ∉ c.mu → a ∉ c.X)
  npl : c.n₀ ≤ as.length
  prk : ∀ p ∈ c.pr, s.heap.get? p.1 = some p.2
  pra : ∀ p ∈ c.pr, p.1 ∉ as
  prl : ∀ p ∈ c.pr, p.1 ≠ c.env.locals
  prc : ∀ p ∈ c.pr, ∀ x, c.env.cells.lookup x ≠ some p.1
section
variable {c : Cx} {as : List Addr} {st : List (Str × Sl)} {ob : List Ob} {s s' : Shared}
theorem isCell_not {h : Heap} {a : Addr} {v : Option Value} (x : h.IsCell a v) {g : Gx} {o : Ob} (y : o.At g h a) : False := by
  obtain ⟨ob, e, _, n⟩ := y.get
  obtain ⟨ob', e', d⟩ := x
  rw [e] at e'; cases e'
  exact n _ d
theorem Fm.cas (F : Fm c as st ob s) {x : Str} {a : Addr} (e : c.env.cells.lookup x = some a) : a ∉ as := by
  intro m
  obtain ⟨v, hv⟩ := F.cis x a e
  obtain ⟨i, hi⟩ := List.getElem?_of_mem m
  obtain ⟨o, _, ho⟩ := F.obs.get hi
  exact isCell_not hv ho
theorem Fm.tkeep (F : Fm c as st ob s) {Y : List Addr} (hx : Ext Y s.heap s'.heap) (hY : ∀ a ∈ Y, a ∈ as) : TKeep s.heap s'.heap := by
  intro b o e f
  refine hx b o e fun m => ?_
  obtain ⟨i, hi⟩ := List.getElem?_of_mem (hY b m)
  obtain ⟨o', _, ho⟩ := F.obs.get hi
  obtain ⟨ob, e', n, _⟩ := ho.get
  rw [e] at e'; cases e'
  exact n f
theorem look_keep {env : Env} {h h' : Heap} {x : Str} {v : Value} (L : Look env h x v) (kl : ∀ o, h.get? env.locals = some o → h'.get? env.locals = some o)
    (kc : ∀ y a, env.cells.lookup y = some a → ∀ o, h.get? a = some o → h'.get? a = some o) : Look env h' x v := by
  rcases L with ⟨k, m, ⟨o, es, ep, ho, r⟩, e⟩ | ⟨k, a, e, o, ho, d⟩
  · exact .inl ⟨k, m, ⟨o, es, ep, kl _ ho, r⟩, e⟩
  · exact .inr ⟨k, a, e, o, kc _ _ e _ ho, d⟩
/-- the general step: only objects of the ledger change -/
theorem Fm.step (F : Fm c as st ob s) {Y : List Addr} {ob' : List Ob} (hs : Same s s') (hx : Ext Y s.heap s'.heap)
    (hY : ∀ a ∈ Y, a ∈ as ∧ (c.s₀.heap.get? a = none ∨ a ∈ c.X)) (ho : Obs c.g s'.heap as ob') : Fm c as st ob' s' := by
  have hT := F.tkeep hx fun a m => (hY a m).1
  have kl : ∀ o, s.heap.get? c.env.locals = some o → s'.heap.get? c.env.locals = some o := fun o e => hx _ _ e fun m => F.lap (hY _ m).1
  have kc : ∀ y a, c.env.cells.lookup y = some a → ∀ o, s.heap.get? a = some o → s'.heap.get? a = some o := fun y a e o e' => hx _ _ e' fun m => F.cas e (hY _ m).1
  refine { same := F.same.trans hs, base := fun b o e => hx b o (F.base b o e) fun m => ?_, ext := fun b o e n => hx b o (F.ext b o e n) fun m => ?_, xin := F.xin, nd := F.nd, own := F.own, afr := F.afr, hbn := F.hbn, obs := ho, ns := ?_, lap := F.lap, lhb := F.lhb, lfr := F.lfr, cis := ?_, cap := F.cap, cfr := F.cfr, chb := F.chb, vars := ?_, kind := F.kind, par := F.par, npl := F.npl, prk := fun p m => hx _ _ (F.prk p m) fun q => F.pra p m (hY _ q).1, pra := F.pra, prl := F.prl, prc := F.prc }
  · rw [F.hbn b (hY b m).1] at e; cases e
  · rcases (hY b m).2 with h | h
    · rw [h] at e; cases e
    · exact n h
  · obtain ⟨m, o, es, ep, h1, r⟩ := F.ns
    exact ⟨m, o, es, ep, kl _ h1, r⟩
  · intro x a e
    obtain ⟨v, o, h1, r⟩ := F.cis x a e
    exact ⟨v, o, kc _ _ e _ h1, r⟩
  · intro x sl e
    obtain ⟨v, h1, h2⟩ := F.vars x sl e
    exact ⟨v, look_keep h1 kl kc, by simpa using h2.up hT []⟩
theorem Fm.grow (F : Fm c as st ob s) (hs : Same s s') (hx : Keep s.heap s'.heap) : Fm c as st ob s' := by
  refine F.step (Y := []) hs (Ext.of_keep _ hx) (fun a m => by simp at m) ?_
  refine Obs.mk F.obs.length fun i a o h1 h2 => ?_
  obtain ⟨o', h3, h4⟩ := F.obs.get h1
  rw [h2] at h3; cases h3
  exact h4.keep (TKeep.of_keep hx) fun ob e => hx _ _ e
theorem Fm.toks (F : Fm c as st ob s) (t : Nat) : Fm c as st ob { s with toks := t } :=
  F.grow ⟨s.heap, t, rfl⟩ (fun ζ ζ e => e)
/-- a new object joins the ledger -/
theorem Fm.old (F : Fm c as st ob s) {a : Addr} (ha : s.heap.get? a = none) : c.s₀.heap.get? a = none := by
  cases q : c.s₀.heap.get? a with
  | none => rfl
  | some o =>
    by_cases hX : a ∈ c.X
    · obtain ⟨i, hi⟩ := List.getElem?_of_mem (F.xin a hX)
      obtain ⟨o', _, h⟩ := F.obs.get hi
      obtain ⟨ob, e, _⟩ := h.get
      rw [ha] at e; cases e
    · rw [F.ext a o q hX] at ha; cases ha
theorem Fm.alloc (F : Fm c as st ob s) {a : Addr} {o : Ob} (hs : Same s s') (hx : Keep s.heap s'.heap) (ha : s.heap.get? a = none) (ho : o.At c.g s'.heap a) :
    Fm c (as ++ [a]) st (ob ++ [o]) s' := by
  have F' := F.grow hs hx
  have hna : a ∉ as := fun m => by
    obtain ⟨i, hi⟩ := List.getElem?_of_mem m
    obtain ⟨o', _, h⟩ := F.obs.get hi
    obtain ⟨ob, e, _⟩ := h.get
    rw [ha] at e; cases e
  have key : ∀ (i : Nat) (b : Addr), (as ++ [a])[i]? = some b → as[i]? = some b ∨ (i = as.length ∧ b = a) := by
    intro i b e
    by_cases hi : i < as.length
    · rw [List.getElem?_append_left hi] at e; exact .inl e
    · rw [List.getElem?_append_right (by lia)] at e
      have : i - as.length = 0 := by
        have := (List.getElem?_eq_some_iff.mp e).1
        simp at this; lia
      rw [this] at e; simp at e
      exact .inr ⟨by lia, e.symm⟩
  have hpa : ∀ p ∈ c.pr, p.1 ∉ as ++ [a] := fun p m q => by
    rcases List.mem_append.mp q with q | q
    · exact F.pra p m q
    · simp at q
      have := F.prk p m
      rw [q, ha] at this; cases this
  refine { F' with xin := fun x m => List.mem_append.mpr (.inl (F.xin x m)), nd := ?_, own := ?_, afr := ?_, hbn := ?_, obs := ?_, lap := ?_, vars := ?_, par := ?_, npl := Nat.le_trans F.npl (by simp), pra := hpa }
  · exact List.nodup_append.mpr ⟨F.nd, by simp, fun x hx y hy => by simp at hy; subst hy; exact fun e => hna (e ▸ hx)⟩
  · intro i b e hh
    rcases key i b e with e | ⟨_, rfl⟩
    · exact F.own i b e hh
    · exact .inl (F.old ha)
  · intro i b e hh
    rcases key i b e with e | ⟨_, rfl⟩
    · exact F.afr i b e hh
    · exact F.old ha
  · intro b m
    rcases List.mem_append.mp m with m | m
    · exact F.hbn b m
    · simp at m; subst m
      cases q : c.g.hb.get? b with
      | none => rfl
      | some o' => rw [F.base b o' q] at ha; cases ha
  · refine Obs.mk (by simp [F.obs.length]) fun i b o' h1 h2 => ?_
    rcases key i b h1 with e | ⟨hi, rfl⟩
    · have hl : i < ob.length := by rw [← F.obs.length]; exact (List.getElem?_eq_some_iff.mp e).1
      rw [List.getElem?_append_left hl] at h2
      obtain ⟨o'', h3, h4⟩ := F'.obs.get e
      rw [h2] at h3; cases h3; exact h4
    · subst hi
      rw [List.getElem?_append_right (by rw [F.obs.length]; exact Nat.le_refl _), F.obs.length] at h2
      simp at h2; subst h2; exact ho
  · intro m
    rcases List.mem_append.mp m with m | m
    · exact F.lap m
    · simp at m
      obtain ⟨_, o', _, _, h1, _⟩ := F.ns
      rw [m, ha] at h1; cases h1
  · intro x sl e
    obtain ⟨v, h1, h2⟩ := F'.vars x sl e
    exact ⟨v, h1, h2.up (TKeep.refl _) _⟩
  · intro i b e hi
    rcases key i b e with e | ⟨hh, _⟩
    · exact F.par i b e hi
    · have := F.npl; lia
theorem ns_not_fixed {h : Heap} {a : Addr} {m : Str → Option Value} (x : h.Ns a m) {o : Obj} (e : h.get? a = some o) : ¬ Fixed o := by
  obtain ⟨o', es, ep, ho, hd, _⟩ := x
  rw [e] at ho; cases ho
  rintro (⟨_, _, _, c⟩ | c) <;> rw [hd] at c <;> cases c
theorem ns_not_cell {h : Heap} {a : Addr} {m : Str → Option Value} {v : Option Value} (x : h.Ns a m) (y : h.IsCell a v) : False := by
  obtain ⟨o', es, ep, ho, hd, _⟩ := x
  obtain ⟨o, e, d⟩ := y
  rw [e] at ho; cases ho
  rw [hd] at d; cases d
theorem cell_not_fixed {h : Heap} {a : Addr} {v : Option Value} (x : h.IsCell a v) {o : Obj} (e : h.get? a = some o) : ¬ Fixed o := by
  obtain ⟨o', ho, hd⟩ := x
  rw [e] at ho; cases ho
  rintro (⟨_, _, _, c⟩ | c) <;> rw [hd] at c <;> cases c
theorem tkeep_but {a : Addr} {h h' : Heap} (k : Heap.SameBut a h h') (n : ∀ o, h.get? a = some o → ¬ Fixed o) : TKeep h h' := fun b o e f => by
  by_cases hb : b = a
  · subst hb; exact absurd f (n o e)
  · exact (k.2 b hb).trans e
theorem Obs.keepBut {g : Gx} {h h' : Heap} {as : List Addr} {os : List Ob} (x : Obs g h as os) {a : Addr} (na : a ∉ as) (k : Heap.SameBut a h h') (t : TKeep h h') : Obs g h' as os :=
  Obs.mk x.length fun i b o h1 h2 => by
    obtain ⟨o', h3, h4⟩ := x.get h1
    rw [h2] at h3; cases h3
    exact h4.keep t fun ob e => (k.2 b fun e' => na (e' ▸ List.mem_of_getElem? h1)).trans e
theorem Fm.setLocal (F : Fm c as st ob s) {x : Str} {v : Value} {sl : Sl} {h' : Heap} {m : Str → Option Value} (hk : c.env.kindOf x = some .local) (hm : s.heap.Ns c.env.locals m)
    (hn : h'.Ns c.env.locals (fun y => if y = x then some v else m y)) (hs : Heap.SameBut c.env.locals s.heap h') (hv : sl.Is s.heap as v) (t : Nat) :
    Fm c as ((x, sl) :: st) ob { s with heap := h', toks := t } ∧ TKeep s.heap h' := by
  have hT : TKeep s.heap h' := tkeep_but hs fun o e => ns_not_fixed hm e
  have kc : ∀ y a, c.env.cells.lookup y = some a → a ≠ c.env.locals := fun y a e e' => by
    obtain ⟨v', hv'⟩ := F.cis y a e
    exact ns_not_cell hm (e' ▸ hv')
  refine ⟨{ same := F.same.trans ⟨h', t, rfl⟩, base := fun b o e => ?_, ext := fun b o e n => ?_, xin := F.xin, nd := F.nd, own := F.own, afr := F.afr, hbn := F.hbn, obs := F.obs.keepBut F.lap hs hT, ns := ⟨_, hn⟩, lap := F.lap, lhb := F.lhb, lfr := F.lfr, cis := ?_, cap := F.cap, cfr := F.cfr, chb := F.chb, vars := ?_, kind := F.kind, par := F.par, npl := F.npl, prk := fun p m => (hs.2 _ (F.prl p m)).trans (F.prk p m), pra := F.pra, prl := F.prl, prc := F.prc }, hT⟩
  · exact (hs.2 b (by rintro rfl; rw [F.lhb] at e; cases e)).trans (F.base b o e)
  · exact (hs.2 b (by rintro rfl; rw [F.lfr] at e; cases e)).trans (F.ext b o e n)
  · intro y a e
    obtain ⟨v', o, h1, r⟩ := F.cis y a e
    exact ⟨v', o, (hs.2 a (kc y a e)).trans h1, r⟩
  · intro y sl' e
    rw [List.lookup_cons] at e
    by_cases hy : y = x
    · subst hy
      simp at e; subst e
      exact ⟨v, .inl ⟨hk, _, hn, by simp⟩, by simpa using hv.up hT []⟩
    · have : (y == x) = false := by simpa using hy
      rw [this] at e
      obtain ⟨v', h1, h2⟩ := F.vars y sl' e
      refine ⟨v', ?_, by simpa using h2.up hT []⟩
      rcases h1 with ⟨k, m', hm', e'⟩ | ⟨k, a, e1, o, ho, d⟩
      · exact .inl ⟨k, _, hn, by simp [hy, ← Heap.Ns.agree hm' hm, e']⟩
      · exact .inr ⟨k, a, e1, o, (hs.2 a (kc y a e1)).trans ho, d⟩
theorem Fm.setCell (F : Fm c as st ob s) {x : Str} {v : Value} {sl : Sl} {h' : Heap} {a : Addr} (hw : c.wc = true) (hk : c.env.kindOf x = some .cell) (ha : c.env.cells.lookup x = some a)
    (hn : h'.IsCell a (some v)) (hs : Heap.SameBut a s.heap h') (hv : sl.Is s.heap as v) (t : Nat) :
    Fm c as ((x, sl) :: st) ob { s with heap := h', toks := t } ∧ TKeep s.heap h' := by
  obtain ⟨v₀, hv₀⟩ := F.cis x a ha
  have hT : TKeep s.heap h' := tkeep_but hs fun o e => cell_not_fixed hv₀ e
  have hl : c.env.locals ≠ a := fun e => by
    obtain ⟨m, hm⟩ := F.ns
    exact ns_not_cell hm (e ▸ hv₀)
  refine ⟨{ same := F.same.trans ⟨h', t, rfl⟩, base := fun b o e => ?_, ext := fun b o e n => ?_, xin := F.xin, nd := F.nd, own := F.own, afr := F.afr, hbn := F.hbn, obs := F.obs.keepBut (F.cas ha) hs hT, ns := ?_, lap := F.lap, lhb := F.lhb, lfr := F.lfr, cis := ?_, cap := F.cap, cfr := F.cfr, chb := F.chb, vars := ?_, kind := F.kind, par := F.par, npl := F.npl, prk := fun p m => (hs.2 _ fun q => F.prc p m x (by rw [q]; exact ha)).trans (F.prk p m), pra := F.pra, prl := F.prl, prc := F.prc }, hT⟩
  · exact (hs.2 b (by rintro rfl; rw [F.chb _ _ ha] at e; cases e)).trans (F.base b o e)
  · exact (hs.2 b (by rintro rfl; rw [F.cfr hw _ _ ha] at e; cases e)).trans (F.ext b o e n)
  · obtain ⟨m, o, es, ep, h1, r⟩ := F.ns
    exact ⟨m, o, es, ep, (hs.2 _ hl).trans h1, r⟩
  · intro y b e
    by_cases hb : b = a
    · subst hb; exact ⟨_, hn⟩
    · obtain ⟨v', o, h1, r⟩ := F.cis y b e
      exact ⟨v', o, (hs.2 b hb).trans h1, r⟩
  · intro y sl' e
    rw [List.lookup_cons] at e
    by_cases hy : y = x
    · subst hy
      simp at e; subst e
      exact ⟨v, .inr ⟨.inl hk, a, ha, hn⟩, by simpa using hv.up hT []⟩
    · have : (y == x) = false := by simpa using hy
      rw [this] at e
      obtain ⟨v', h1, h2⟩ := F.vars y sl' e
      refine ⟨v', ?_, by simpa using h2.up hT []⟩
      rcases h1 with ⟨k, m', ⟨o, es, ep, h3, r⟩, e'⟩ | ⟨k, b, e1, o, ho, d⟩
      · exact .inl ⟨k, m', ⟨o, es, ep, (hs.2 _ hl).trans h3, r⟩, e'⟩
      · refine .inr ⟨k, b, e1, o, (hs.2 b fun hb => hy (F.cap y x a (hb ▸ e1) ha)).trans ho, d⟩
/-! ## the judgements -/
/-- after a value: the state, the value, what the text's frame keeps -/
inductive Pv (c : Cx) (as : List Addr) (st : List (Str × Sl)) (h : Heap) (K : Sl → List Ob → Prop) (v : Value) (s' : Shared) : Prop
  | mk (sl : Sl) (ob' : List Ob) (nw : List Addr) (F : Fm c (as ++ nw) st ob' s') (i : sl.Is s'.heap (as ++ nw) v) (t : TKeep h s'.heap) (k : K sl ob')
structure Ev (c : Cx) (e : Expr) (st : List (Str × Sl)) (ob : List Ob) (K : Sl → List Ob → Prop) : Prop where
  run : ∀ as s, Fm c as st ob s → wpAny c.g.M c.A (eval e c.env) (Pv c as st s.heap K) (fun ζ ζ => False) s
structure O1 (c : Cx) (t : Value → Sem Value) (a : Sl) (st : List (Str × Sl)) (ob : List Ob) (K : Sl → List Ob → Prop) : Prop where
  run : ∀ as s va, Fm c as st ob s → a.Is s.heap as va → wpAny c.g.M c.A (t va) (Pv c as st s.heap K) (fun ζ ζ => False) s
structure O2 (c : Cx) (t : Value → Value → Sem Value) (a b : Sl) (st : List (Str × Sl)) (ob : List Ob) (K : Sl → List Ob → Prop) : Prop where
  run : ∀ as s va vb, Fm c as st ob s → a.Is s.heap as va → b.Is s.heap as vb → wpAny c.g.M c.A (t va vb) (Pv c as st s.heap K) (fun ζ ζ => False) s
/-- the truth of a test -/
inductive Pt (c : Cx) (as : List Addr) (st : List (Str × Sl)) (h : Heap) (K : Bool → List Ob → Prop) (b : Bool) (s' : Shared) : Prop
  | mk (ob' : List Ob) (nw : List Addr) (F : Fm c (as ++ nw) st ob' s') (t : TKeep h s'.heap) (k : K b ob')
structure Et (c : Cx) (e : Expr) (st : List (Str × Sl)) (ob : List Ob) (K : Bool → List Ob → Prop) : Prop where
  run : ∀ as s, Fm c as st ob s → wpAny c.g.M c.A (isTrue e c.env (eval e c.env)) (Pt c as st s.heap K) (fun ζ ζ => False) s
inductive Fl where
  | nx
  | rt (x : Sl)
noncomputable def Fl.Is (h : Heap) (as : List Addr) (f : Flow) : Fl → Prop
  | .nx => f = .next
  | .rt x => ∃ v, f = .ret v ∧ x.Is h as v
inductive Px (c : Cx) (as : List Addr) (h : Heap) (K : Fl → List (Str × Sl) → List Ob → Prop) (f : Flow) (s' : Shared) : Prop
  | mk (fl : Fl) (st' : List (Str × Sl)) (ob' : List Ob) (nw : List Addr) (F : Fm c (as ++ nw) st' ob' s') (i : fl.Is s'.heap (as ++ nw) f) (t : TKeep h s'.heap) (k : K fl st' ob')
structure Ex (c : Cx) (e : Stmt) (st : List (Str × Sl)) (ob : List Ob) (K : Fl → List (Str × Sl) → List Ob → Prop) : Prop where
  run : ∀ as s, Fm c as st ob s → wpAny c.g.M c.A (exec e c.env) (Px c as s.heap K) (fun ζ ζ => False) s
structure Exs (c : Cx) (e : List Stmt) (st : List (Str × Sl)) (ob : List Ob) (K : Fl → List (Str × Sl) → List Ob → Prop) : Prop where
  run : ∀ as s, Fm c as st ob s → wpAny c.g.M c.A (execs e c.env) (Px c as s.heap K) (fun ζ ζ => False) s
theorem Pv.of (F : Fm c as st ob s') {h : Heap} {sl : Sl} {v : Value} {K : Sl → List Ob → Prop} (hv : sl.Is s'.heap as v) (t : TKeep h s'.heap) (k : K sl ob) : Pv c as st h K v s' :=
  ⟨sl, ob, [], by simpa using F, by simpa using hv, t, k⟩
section rules
variable {e l r : Expr} {p : Pos} {K : Sl → List Ob → Prop}
theorem Ev.name {x : Str} {sl : Sl} (hx : st.lookup x = some sl) (k : K sl ob) (hd : (x == ("__debug__" : Str)) = false := by decide) (hn : (x == ("__classdict__" : Str)) = false := by decide) : Ev c (.Name x p) st ob K := by
  refine ⟨fun as s F => ?_⟩
  obtain ⟨v, h1, h2⟩ := F.vars x sl hx
  refine wpAny_Name ?_ hd
  rcases h1 with ⟨hk, m, hm, e⟩ | ⟨hk, a, e, hc⟩
  · exact wpAny_loadName_local F.kind hk hm e (Pv.of F h2 (TKeep.refl _) k)
  · rcases hk with hk | hk
    · exact wpAny_loadName_cell F.kind hk e hc (Pv.of F h2 (TKeep.refl _) k)
    · exact wpAny_loadName_free F.kind hk e hc (Pv.of F h2 (TKeep.refl _) k) hn
theorem Ev.strC {x : Str} {kd : Nat} (k : K (.dat (.str x)) ob) : Ev c (.Constant (.str x) kd p) st ob K := by
  refine ⟨fun as s F => ?_⟩
  exact Calls.Constant_str (Pv.of (sl := .dat (.str x)) (F.toks _) (Reads.str _ _) (TKeep.refl _) k)
theorem Ev.intC {x : Int} {kd : Nat} (k : K (.dat (.int x)) ob) : Ev c (.Constant (.int x) kd p) st ob K := by
  refine ⟨fun as s F => ?_⟩
  exact wpAny_Constant_int (Pv.of (sl := .dat (.int x)) (F.toks _) (Reads.int _ _) (TKeep.refl _) k)
theorem Ev.noneC {kd : Nat} (k : K (.dat .none) ob) : Ev c (.Constant .none kd p) st ob K := by
  refine ⟨fun as s F => ?_⟩
  exact wpAny_Constant_none (Pv.of (sl := .dat .none) F Reads.none (TKeep.refl _) k)
theorem Ev.boolC {b : Bool} {kd : Nat} (k : K (.dat (.bool b)) ob) : Ev c (.Constant (.bool b) kd p) st ob K := by
  refine ⟨fun as s F => ?_⟩
  exact wpAny_Constant_bool (Pv.of (sl := .dat (.bool b)) F (Reads.bool b) (TKeep.refl _) k)
noncomputable abbrev Bin2 (c : Cx) (t : Value → Value → Sem Value) (st : List (Str × Sl)) (K : Sl → List Ob → Prop) (a b : Sl) (ob2 : List Ob) : Prop := O2 c t a b st ob2 K
noncomputable abbrev Bin1 (c : Cx) (t : Value → Value → Sem Value) (st : List (Str × Sl)) (K : Sl → List Ob → Prop) (r : Expr) (a : Sl) (ob1 : List Ob) : Prop := Ev c r st ob1 (Bin2 c t st K a)
theorem O2.of_Ev {t : Value → Value → Sem Value} {T : Sem Value}
    (hT : ∀ {M : Model} {A : Around} {E : Value → Shared → Prop} {s : Shared} {Q : Value → Shared → Prop}, wpAny M A (eval l c.env) (fun a s₁ => wpAny M A (eval r c.env) (fun b s₂ => wpAny M A (t a b) Q E s₂) E s₁) E s → wpAny M A T Q E s)
    (h : Ev c l st ob (Bin1 c t st K r)) (F : Fm c as st ob s) : wpAny c.g.M c.A T (Pv c as st s.heap K) (fun ζ ζ => False) s := by
  refine hT (wpAny_mono (h.run as s F) ?_ fun ζ ζ x => x)
  rintro v1 s1 ⟨a, ob1, n1, F1, h1, t1, k1⟩
  refine wpAny_mono (k1.run _ s1 F1) ?_ fun ζ ζ x => x
  rintro v2 s2 ⟨b, ob2, n2, F2, h2, t2, k2⟩
  refine wpAny_mono (k2.run _ s2 v1 v2 F2 (h1.up t2 _) h2) ?_ fun ζ ζ x => x
  rintro v3 s3 ⟨d, ob3, n3, F3, h3, t3, k3⟩
  exact ⟨d, ob3, n1 ++ n2 ++ n3, by simpa [List.append_assoc] using F3, by simpa [List.append_assoc] using h3, (t1.trans t2).trans t3, k3⟩
theorem Ev.bin {op : Operator} (h : Ev c l st ob (Bin1 c (binaryOp op) st K r)) : Ev c (.BinOp l op r p) st ob K :=
  ⟨fun ζ ζ F => O2.of_Ev (fun x => wpAny_BinOp x) h F⟩
theorem Ev.cmp {op : CmpOp} (h : Ev c l st ob (Bin1 c (compareOp op) st K r)) (hm : behindInMarks op r = false := by with_unfolding_all rfl) : Ev c (.Compare l [op] [r] p) st ob K :=
  ⟨fun ζ ζ F => O2.of_Ev (fun x => wpAny_Compare1 x hm) h F⟩
theorem Ev.sub (h : Ev c l st ob (Bin1 c (subscriptTail l r) st K r)) : Ev c (.Subscript l r p) st ob K :=
  ⟨fun ζ ζ F => O2.of_Ev (fun x => Subscript_ x) h F⟩
end rules
end
end
/-! L2 -/
section
section
variable {c : Cx} {as : List Addr} {st : List (Str × Sl)} {ob : List Ob} {s s' : Shared} {p : Pos} {e l r : Expr} {K : Sl → List Ob → Prop}
/-! ### statements -/
theorem Exs.nil {K : Fl → List (Str × Sl) → List Ob → Prop} (k : K .nx st ob) : Exs c [] st ob K := ⟨fun ζ ζ F =>
  wpAny_execs_nil ⟨.nx, st, ob, [], by simpa using F, rfl, TKeep.refl _, k⟩⟩
noncomputable def thenDo (c : Cx) (rest : List Stmt) (K : Fl → List (Str × Sl) → List Ob → Prop) (f : Fl) (st : List (Str × Sl)) (ob : List Ob) : Prop :=
  match f with
  | .nx => Exs c rest st ob K
  | .rt x => K (.rt x) st ob
theorem Exs.cons {t : Stmt} {rest : List Stmt} {K : Fl → List (Str × Sl) → List Ob → Prop} (h : Ex c t st ob (thenDo c rest K)) : Exs c (t :: rest) st ob K := by
  refine ⟨fun as s F => ?_⟩
  refine wpAny_execs_cons (wpAny_mono (h.run as s F) ?_ fun ζ ζ x => x)
  rintro f s1 ⟨fl, st1, ob1, n1, F1, h1, t1, k1⟩
  cases fl with
  | nx =>
    rw [show f = .next from h1]
    refine wpAny_mono (k1.run _ s1 F1) ?_ fun ζ ζ x => x
    rintro f2 s2 ⟨fl2, st2, ob2, n2, F2, h2, t2, k2⟩
    exact ⟨fl2, st2, ob2, n1 ++ n2, by simpa [List.append_assoc] using F2, by simpa [List.append_assoc] using h2, t1.trans t2, k2⟩
  | rt x =>
    obtain ⟨v, rfl, hv⟩ := h1
    exact ⟨.rt x, st1, ob1, n1, F1, ⟨v, rfl, hv⟩, t1, k1⟩
noncomputable abbrev IteX (c : Cx) (st : List (Str × Sl)) (K : Fl → List (Str × Sl) → List Ob → Prop) (body orelse : List Stmt) (b : Bool) (ob1 : List Ob) : Prop := if b = true then Exs c body st ob1 K else Exs c orelse st ob1 K
theorem Ex.ite {test : Expr} {body orelse : List Stmt} {K : Fl → List (Str × Sl) → List Ob → Prop}
    (h : Et c test st ob (IteX c st K body orelse)) : Ex c (.If test body orelse p) st ob K := by
  refine ⟨fun as s F => ?_⟩
  refine wpAny_If (wpAny_mono (h.run as s F) ?_ fun ζ ζ x => x)
  rintro b s1 ⟨ob1, n1, F1, t1, k1⟩
  have fin : ∀ ss, Exs c ss st ob1 K → wpAny c.g.M c.A (execs ss c.env) (Px c as s.heap K) (fun ζ ζ => False) s1 := fun ss k => by
    refine wpAny_mono (k.run _ s1 F1) ?_ fun ζ ζ x => x
    rintro f2 s2 ⟨fl2, st2, ob2, n2, F2, h2, t2, k2⟩
    exact ⟨fl2, st2, ob2, n1 ++ n2, by simpa [List.append_assoc] using F2, by simpa [List.append_assoc] using h2, t1.trans t2, k2⟩
  cases b with
  | true => rw [if_pos rfl]; exact fin _ k1
  | false => rw [if_neg (by simp)]; exact fin _ k1
noncomputable abbrev RetK (st : List (Str × Sl)) (K : Fl → List (Str × Sl) → List Ob → Prop) (v : Sl) (ob1 : List Ob) : Prop := K (.rt v) st ob1
theorem Ex.ret {K : Fl → List (Str × Sl) → List Ob → Prop} (h : Ev c e st ob (RetK st K)) : Ex c (.Return (some e) p) st ob K := by
  refine ⟨fun as s F => ?_⟩
  refine wpAny_Return_some (wpAny_mono (h.run as s F) ?_ fun ζ ζ x => x)
  rintro v s1 ⟨sl, ob1, n1, F1, h1, t1, k1⟩
  exact ⟨.rt sl, st, ob1, n1, F1, ⟨v, rfl, h1⟩, t1, k1⟩
/-- storing a value under a name -/
theorem store {x : Str} {v : Value} {sl : Sl} {Q : Unit → Shared → Prop} {E : Value → Shared → Prop} (F : Fm c as st ob s) (hv : sl.Is s.heap as v)
    (hk : (c.env.kindOf x = some .local ∨ (c.wc = true ∧ c.env.kindOf x = some .cell ∧ (c.env.cells.lookup x).isSome = true)))
    (h : ∀ s', Fm c as ((x, sl) :: st) ob s' → TKeep s.heap s'.heap → Q () s') : wpAny c.g.M c.A (storeName c.env x v) Q E s := by
  rcases hk with hk | ⟨hw, hk, hc⟩
  · obtain ⟨m, hm⟩ := F.ns
    refine wpAny_storeName_local hk hm (fun h' hn hs => ?_) (by rw [F.kind]; rfl)
    obtain ⟨F', t⟩ := F.setLocal hk hm hn hs hv (s.toks + 1)
    exact h _ F' t
  · obtain ⟨a, ha⟩ := Option.isSome_iff_exists.mp hc
    obtain ⟨v₀, hv₀⟩ := F.cis x a ha
    refine wpAny_storeName_cell F.kind hk ha hv₀ fun h' hn hs => ?_
    obtain ⟨F', t⟩ := F.setCell hw hk ha hn hs hv s.toks
    exact h _ F' t
noncomputable def Stores (c : Cx) (x : Str) : Prop := c.env.kindOf x = some .local ∨ (c.wc = true ∧ c.env.kindOf x = some .cell ∧ (c.env.cells.lookup x).isSome = true)
noncomputable abbrev AsgK (st : List (Str × Sl)) (K : Fl → List (Str × Sl) → List Ob → Prop) (x : Str) (v : Sl) (ob1 : List Ob) : Prop := K .nx ((x, v) :: st) ob1
theorem Ex.assign {x : Str} {p' : Pos} {K : Fl → List (Str × Sl) → List Ob → Prop} (h : Ev c e st ob (AsgK st K x))
    (hk : Stores c x) (hw : swapsWith e (some (.Name x p')) p.line c.env = pure false) : Ex c (.Assign [.Name x p'] e p) st ob K := by
  refine ⟨fun as s F => ?_⟩
  refine wpAny_Assign_Name (wpAny_mono (h.run as s F) ?_ fun ζ ζ x => x) hw
  rintro v s1 ⟨sl, ob1, n1, F1, h1, t1, k1⟩
  exact store F1 h1 hk fun s2 F2 t2 => ⟨.nx, _, ob1, n1, F2, rfl, t1.trans t2, k1⟩
/-! ### tests -/
inductive BoolK (K : Bool → List Ob → Prop) (v : Sl) (ob3 : List Ob) : Prop
  | mk (t : Bool) (e : v = .dat (.bool t)) (k : K t ob3)
theorem Et.cmp {op : CmpOp} {K : Bool → List Ob → Prop} (h : Ev c l st ob (Bin1 c (compareOp op) st (BoolK K) r))
    (hm : behindInMarks op r = false := by with_unfolding_all rfl) : Et c (.Compare l [op] [r] p) st ob K := by
  refine ⟨fun as s F => ?_⟩
  refine wpAny_isTrue_Compare1 ?_ hm
  refine wpAny_mono (h.run as s F) ?_ fun ζ ζ x => x
  rintro v1 s1 ⟨a, ob1, n1, F1, h1, t1, k1⟩
  refine wpAny_mono (k1.run _ s1 F1) ?_ fun ζ ζ x => x
  rintro v2 s2 ⟨b, ob2, n2, F2, h2, t2, k2⟩
  refine wpAny_mono (k2.run _ s2 v1 v2 F2 (h1.up t2 _) h2) ?_ fun ζ ζ x => x
  rintro v3 s3 ⟨d, ob3, n3, F3, h3, t3, t, rfl, k3⟩
  rw [D.bool_inv h3]
  exact wpAny_truthy_bool ⟨ob3, n1 ++ n2 ++ n3, by simpa [List.append_assoc] using F3, (t1.trans t2).trans t3, k3⟩
noncomputable abbrev NotK (K : Bool → List Ob → Prop) (b : Bool) (ob1 : List Ob) : Prop := K (!b) ob1
theorem Et.not {K : Bool → List Ob → Prop} (h : Et c e st ob (NotK K)) : Et c (.UnaryOp .Not e p) st ob K := by
  refine ⟨fun as s F => ?_⟩
  refine wpAny_isTrue_Not (wpAny_mono (h.run as s F) ?_ fun ζ ζ x => x)
  rintro b s1 ⟨ob1, n1, F1, t1, k1⟩
  exact ⟨ob1, n1, F1, t1, k1⟩
noncomputable abbrev OrK (c : Cx) (st : List (Str × Sl)) (K : Bool → List Ob → Prop) (r : Expr) (b : Bool) (ob1 : List Ob) : Prop := if b = true then K true ob1 else Et c r st ob1 K
theorem Et.or {K : Bool → List Ob → Prop} (h : Et c l st ob (OrK c st K r)) : Et c (.BoolOp .Or [l, r] p) st ob K := by
  refine ⟨fun as s F => ?_⟩
  refine wpAny_isTrue_BoolOp (wpAny_allTrue_Or_cons (wpAny_mono (h.run as s F) ?_ fun ζ ζ x => x))
  rintro b s1 ⟨ob1, n1, F1, t1, k1⟩
  cases b with
  | true => rw [if_pos rfl]; exact ⟨ob1, n1, F1, t1, k1⟩
  | false =>
    change Et c r st ob1 K at k1
    rw [if_neg (by simp)]
    refine wpAny_allTrue_Or_cons (wpAny_mono (k1.run _ s1 F1) ?_ fun ζ ζ x => x)
    rintro b s2 ⟨ob2, n2, F2, t2, k2⟩
    have fin : Pt c as st s.heap K b s2 := ⟨ob2, n1 ++ n2, by simpa [List.append_assoc] using F2, t1.trans t2, k2⟩
    cases b with
    | true => rw [if_pos rfl]; exact fin
    | false => rw [if_neg (by simp)]; exact wpAny_allTrue_Or_nil fin
noncomputable abbrev AndK (c : Cx) (st : List (Str × Sl)) (K : Bool → List Ob → Prop) (r : Expr) (b : Bool) (ob1 : List Ob) : Prop := if b = true then Et c r st ob1 K else K false ob1
theorem Et.and {K : Bool → List Ob → Prop} (h : Et c l st ob (AndK c st K r)) : Et c (.BoolOp .And [l, r] p) st ob K := by
  refine ⟨fun as s F => ?_⟩
  refine wpAny_isTrue_BoolOp (wpAny_allTrue_And_cons (wpAny_mono (h.run as s F) ?_ fun ζ ζ x => x))
  rintro b s1 ⟨ob1, n1, F1, t1, k1⟩
  cases b with
  | false => rw [if_neg (by simp)]; exact ⟨ob1, n1, F1, t1, k1⟩
  | true =>
    change Et c r st ob1 K at k1
    rw [if_pos rfl]
    refine wpAny_allTrue_And_cons (wpAny_mono (k1.run _ s1 F1) ?_ fun ζ ζ x => x)
    rintro b s2 ⟨ob2, n2, F2, t2, k2⟩
    have fin : Pt c as st s.heap K b s2 := ⟨ob2, n1 ++ n2, by simpa [List.append_assoc] using F2, t1.trans t2, k2⟩
    cases b with
    | true => rw [if_pos rfl]; exact wpAny_allTrue_And_nil fin
    | false => rw [if_neg (by simp)]; exact fin
/-- a test that is a bool's expression -/
theorem Et.plain {K : Bool → List Ob → Prop} (h : Ev c e st ob (BoolK K))
    (hp : ∀ whole, isTrue e c.env whole = do { let v ← whole; standAt (Expr.pos e); holding [v] (truthy v) } := by intro _; with_unfolding_all rfl) : Et c e st ob K := by
  refine ⟨fun as s F => ?_⟩
  refine isTrue_plain (wpAny_mono (h.run as s F) ?_ fun ζ ζ x => x) (hp _)
  rintro v s1 ⟨sl, ob1, n1, F1, h1, t1, t, rfl, k1⟩
  rw [D.bool_inv h1]
  exact wpAny_truthy_bool ⟨ob1, n1, F1, t1, k1⟩
noncomputable abbrev IteE (c : Cx) (st : List (Str × Sl)) (K : Sl → List Ob → Prop) (l r : Expr) (b : Bool) (ob1 : List Ob) : Prop := if b = true then Ev c l st ob1 K else Ev c r st ob1 K
theorem Ev.ite {test : Expr} (h : Et c test st ob (IteE c st K l r)) : Ev c (.IfExp test l r p) st ob K := by
  refine ⟨fun as s F => ?_⟩
  refine wpAny_IfExp (wpAny_mono (h.run as s F) ?_ fun ζ ζ x => x)
  rintro b s1 ⟨ob1, n1, F1, t1, k1⟩
  have fin : ∀ ss, Ev c ss st ob1 K → wpAny c.g.M c.A (eval ss c.env) (Pv c as st s.heap K) (fun ζ ζ => False) s1 := fun ss k => by
    refine wpAny_mono (k.run _ s1 F1) ?_ fun ζ ζ x => x
    rintro f2 s2 ⟨fl2, ob2, n2, F2, h2, t2, k2⟩
    exact ⟨fl2, ob2, n1 ++ n2, by simpa [List.append_assoc] using F2, by simpa [List.append_assoc] using h2, t1.trans t2, k2⟩
  cases b with
  | true => rw [if_pos rfl]; exact fin _ k1
  | false => rw [if_neg (by simp)]; exact fin _ k1
/-! ### global names -/
theorem Ev.glob {x : Str} {v : Value} (G : Gd c.g) (hg : c.env.globals = mainGlobals) (hx : c.env.kindOf x = some .globalImplicit) (e : nsIn c.g.K mainGlobals x = some (some v)) (k : K (.val v) ob)
    (hd : (x == ("__debug__" : Str)) = false := by decide) : Ev c (.Name x p) st ob K := by
  refine ⟨fun as s F => ?_⟩
  refine Calls.Name_function_global F.kind hx (Calls.loadGlobal_global (env := c.env) (by rw [hg]; exact G.T.g.keeps F.base) (mg_of G.K G.T.g e) ?_) hd
  exact Pv.of (sl := .val v) F rfl (TKeep.refl _) k
theorem Ev.boot {x : Str} {v : Value} (G : Gd c.g) (hg : c.env.globals = mainGlobals) (hb : c.env.builtins = builtinsNs) (hx : c.env.kindOf x = some .globalImplicit) (e : nsIn c.g.K mainGlobals x = some none) (hv : bootBuiltins x = some v) (hn : x ≠ "__name__") (k : K (.val v) ob)
    (hd : (x == ("__debug__" : Str)) = false := by decide) : Ev c (.Name x p) st ob K := by
  refine ⟨fun as s F => ?_⟩
  refine Calls.Name_function_global F.kind hx (Calls.loadGlobal_builtin (env := c.env) (by rw [hg]; exact G.T.g.keeps F.base) (mg_none_of G.K G.T.g e) (by rw [hb]; exact G.T.b.keeps F.base) ((G.T.builtins x hn).trans hv) ?_) hd
  exact Pv.of (sl := .val v) F rfl (TKeep.refl _) k
/-- a datum of the top that the written part holds -/
theorem Ev.globD {x : Str} {v : Value} {d : PyData} (G : Gd c.g) (hg : c.env.globals = mainGlobals) (hx : c.env.kindOf x = some .globalImplicit) (e : nsIn c.g.K mainGlobals x = some (some v)) (hd' : ∀ h, c.g.K.In h → D h v d) (k : K (.dat d) ob)
    (hd : (x == ("__debug__" : Str)) = false := by decide) : Ev c (.Name x p) st ob K := by
  refine ⟨fun as s F => ?_⟩
  refine Calls.Name_function_global F.kind hx (Calls.loadGlobal_global (env := c.env) (by rw [hg]; exact G.T.g.keeps F.base) (mg_of G.K G.T.g e) ?_) hd
  exact Pv.of (sl := .dat d) F (hd' _ fun a o e => F.base _ _ (G.K a o e)) (TKeep.refl _) k
/-! ### displays -/
noncomputable def EvsF (c : Cx) : List Expr → List (Str × Sl) → List Ob → (List Sl → List Ob → Prop) → Prop
  | [], _, ob, K => K [] ob
  | e :: es, st, ob, K => Ev c e st ob fun v ob1 => EvsF c es st ob1 fun vs ob2 => K (v :: vs) ob2
structure Evs (c : Cx) (es : List Expr) (st : List (Str × Sl)) (ob : List Ob) (K : List Sl → List Ob → Prop) : Prop where
  run : EvsF c es st ob K
noncomputable abbrev Cons2 (K : List Sl → List Ob → Prop) (v : Sl) (vs : List Sl) (ob2 : List Ob) : Prop := K (v :: vs) ob2
noncomputable abbrev Cons1 (c : Cx) (st : List (Str × Sl)) (K : List Sl → List Ob → Prop) (es : List Expr) (v : Sl) (ob1 : List Ob) : Prop := Evs c es st ob1 (Cons2 K v)
theorem Evs.nil {K : List Sl → List Ob → Prop} (k : K [] ob) : Evs c [] st ob K := ⟨k⟩
theorem Ev.mono {K' : Sl → List Ob → Prop} (h : Ev c e st ob K) (f : ∀ a b, K a b → K' a b) : Ev c e st ob K' :=
  ⟨fun as s F => wpAny_mono (h.run as s F) (fun ζ ζ ⟨sl, ob', nw, a, b, t, k⟩ => ⟨sl, ob', nw, a, b, t, f _ _ k⟩) fun ζ ζ x => x⟩
theorem Evs.cons {es : List Expr} {K : List Sl → List Ob → Prop} (h : Ev c e st ob (Cons1 c st K es)) : Evs c (e :: es) st ob K := ⟨h.mono fun ζ ζ x => x.run⟩
inductive All2 {α β : Type} (R : α → β → Prop) : List α → List β → Prop
  | nil : All2 R [] []
  | cons {a : α} {b : β} {as : List α} {bs : List β} : R a b → All2 R as bs → All2 R (a :: as) (b :: bs)
theorem All2.imp {α β : Type} {R S : α → β → Prop} (f : ∀ a b, R a b → S a b) {l : List α} {m : List β} (h : All2 R l m) : All2 S l m := by
  induction h with
  | nil => exact .nil
  | cons h _ ih => exact .cons (f _ _ h) ih
/-- the trees of a display's items, the positions stood at -/
noncomputable def Items (c : Cx) (es : List Expr) (ts : List (Bool × Sem Value)) : Prop :=
  All2 (fun e t => t.1 = false ∧ ∀ {M : Model} {A : Around} {E : Value → Shared → Prop} {s : Shared} {Q : Value → Shared → Prop}, wpAny M A (eval e c.env) Q E s → wpAny M A t.2 Q E s) es ts
inductive Pes (c : Cx) (as : List Addr) (st : List (Str × Sl)) (h : Heap) (K : List Sl → List Ob → Prop) (vs : List Value) (s' : Shared) : Prop
  | mk (sls : List Sl) (ob' : List Ob) (nw : List Addr) (F : Fm c (as ++ nw) st ob' s') (i : All2 (fun v sl => Sl.Is s'.heap (as ++ nw) v sl) vs sls) (t : TKeep h s'.heap) (k : K sls ob')
theorem EvsF.go {es : List Expr} {ts : List (Bool × Sem Value)} (hi : Items c es ts) {K : List Sl → List Ob → Prop} {ob : List Ob} (h : EvsF c es st ob K) (F : Fm c as st ob s) :
    wpAny c.g.M c.A (spliced ts) (Pes c as st s.heap K) (fun ζ ζ => False) s := by
  induction hi generalizing K ob as s with
  | nil => exact Calls.spliced_nil ⟨[], ob, [], by simpa using F, .nil, TKeep.refl _, h⟩
  | @cons e t es ts he _ ih =>
    obtain ⟨b, t⟩ := t
    obtain ⟨rfl, he⟩ := he
    refine Calls.spliced_cons (he (wpAny_mono (h.run as s F) ?_ fun ζ ζ x => x))
    rintro v s1 ⟨sl, ob1, n1, F1, h1, t1, k1⟩
    refine wpAny_mono (ih k1 F1) ?_ fun ζ ζ x => x
    rintro vs s2 ⟨sls, ob2, n2, F2, h2, t2, k2⟩
    exact ⟨sl :: sls, ob2, n1 ++ n2, by simpa [List.append_assoc] using F2, .cons (by simpa [List.append_assoc] using h1.up t2 n2) (by simpa [List.append_assoc] using h2), t1.trans t2, k2⟩
noncomputable def plainE : Expr → Bool
  | .Starred .. => false
  | _ => true
theorem items_starEach : ∀ (es : List Expr), es.all plainE = true → Items c es (starEach es c.env)
  | [], _ => .nil
  | e :: es, h => by
    simp only [List.all_cons, Bool.and_eq_true] at h
    have ih := items_starEach es h.2
    have : starEach (e :: es) c.env = (false, eval e c.env) :: starEach es c.env := by
      cases e <;> first | rfl | (((try dsimp only [plainE] at h) <;> simp at h))
    rw [this]
    exact .cons ⟨rfl, fun x => x⟩ ih
theorem items_back {es : List Expr} {ts : List (Bool × Sem Value)} (h : Items c es ts) (p : Pos) : Items c es (backTo p ts) := by
  unfold backTo
  induction h with
  | nil => exact .nil
  | @cons e t es ts he _ ih =>
    obtain ⟨b, t⟩ := t
    obtain ⟨rfl, he⟩ := he
    exact .cons ⟨rfl, fun x => by simpa using he x⟩ ih
theorem items_of {es : List Expr} (h : es.all plainE = true) (p : Pos) : Items c es (backTo p (starEach es c.env)) := items_back (items_starEach es h) p
noncomputable def consO (x : PyData) : Option (List PyData) → Option (List PyData)
  | some ys => some (x :: ys)
  | none => none
theorem consO_some {x : PyData} {o : Option (List PyData)} {xs : List PyData} (e : consO x o = some xs) : ∃ ys, o = some ys ∧ x :: ys = xs := by
  cases o with
  | none => cases e
  | some ys => cases e; exact ⟨ys, rfl, rfl⟩
noncomputable def datsOf : List Sl → Option (List PyData)
  | [] => some []
  | .dat x :: r => consO x (datsOf r)
  | _ :: _ => none
theorem ds_of_all2 {h : Heap} {as : List Addr} {vs : List Value} {sls : List Sl} {xs : List PyData} (H : All2 (fun v sl => Sl.Is h as v sl) vs sls) (e : datsOf sls = some xs) : Ds h vs xs := by
  induction H generalizing xs with
  | nil => cases e; exact .nil
  | @cons v sl vs sls a _ ih =>
    cases sl with
    | dat x =>
      obtain ⟨ys, e1, rfl⟩ := consO_some e
      exact Ds.cons_iff.mpr ⟨a, ih e1⟩
    | obj _ => cases e
    | ins _ _ => cases e
    | val _ => cases e
theorem size_push (h : Heap) (o : Obj) : h.objs.size ≤ (h.push o).objs.size := by rw [Heap.size_push]; exact Nat.le_succ _
theorem newTuple_F {vs : List Value} {xs : List PyData} {h : Heap} (F : Fm c as st ob s) (d : Ds s.heap vs xs) (t : TKeep h s.heap) (hl : vs.length ≤ sizeLine) (k : K (.dat (.tuple xs)) ob) : wpAny c.g.M c.A (newTuple vs) (Pv c as st h K) (fun ζ ζ => False) s := by
  refine wpAny_newObj_type ?_ (by show vs.toArray.size ≤ sizeLine; rw [List.size_toArray]; exact hl)
  have kp := keep_push s.heap { cls := .type "tuple", data := .seq vs.toArray }
  exact Pv.of (sl := .dat (.tuple xs)) (F.grow ⟨_, s.toks, rfl⟩ kp) (D.mkTuple (Heap.get?_push_size _ rfl) (d.mono (TKeep.of_keep kp))) (t.trans (TKeep.of_keep kp)) k
theorem newList_F {vs : List Value} {xs : List PyData} {h : Heap} (F : Fm c as st ob s) (d : Ds s.heap vs xs) (t : TKeep h s.heap) (hl : vs.length ≤ sizeLine) (k : K (.obj ob.length) (ob ++ [.list xs])) : wpAny c.g.M c.A (newList vs) (Pv c as st h K) (fun ζ ζ => False) s := by
  refine wpAny_newObj_type ?_ (by show vs.toArray.size ≤ sizeLine; rw [List.size_toArray]; exact hl)
  have kp := keep_push s.heap { cls := .type "list", data := .seq vs.toArray }
  have F' := F.alloc (s' := { s with heap := s.heap.push { cls := .type "list", data := .seq vs.toArray } }) (a := s.heap.objs.size) (o := .list xs) ⟨_, s.toks, rfl⟩ kp (new_of_ge (Nat.le_refl _))
    ⟨vs.toArray, 0, Heap.get?_push_size _ rfl, by simpa using d.mono (TKeep.of_keep kp)⟩
  exact ⟨.obj ob.length, ob ++ [.list xs], [s.heap.objs.size], F', ⟨_, by rw [← F.obs.length]; simp, rfl⟩, t.trans (TKeep.of_keep kp), k⟩
theorem datsOf_length : ∀ {sls : List Sl} {xs : List PyData}, datsOf sls = some xs → sls.length = xs.length
  | [], _, e => by cases e; rfl
  | .dat x :: r, xs, e => by
    obtain ⟨ys, e1, rfl⟩ := consO_some e
    simp [datsOf_length e1]
  | .obj _ :: _, _, e => by cases e
  | .ins _ _ :: _, _, e => by cases e
  | .val _ :: _, _, e => by cases e
theorem All2.length {α β : Type} {R : α → β → Prop} : ∀ {l : List α} {m : List β}, All2 R l m → l.length = m.length
  | _, _, .nil => rfl
  | _, _, .cons _ t => by simp [t.length]
inductive TupK (K : Sl → List Ob → Prop) (sls : List Sl) (ob1 : List Ob) : Prop
  | mk (xs : List PyData) (e : datsOf sls = some xs) (hl : xs.length ≤ 1000) (k : K (.dat (.tuple xs)) ob1)
inductive LstK (K : Sl → List Ob → Prop) (sls : List Sl) (ob1 : List Ob) : Prop
  | mk (xs : List PyData) (e : datsOf sls = some xs) (hl : xs.length ≤ 1000) (k : K (.obj ob1.length) (ob1 ++ [.list xs]))
theorem Ev.tup {es : List Expr} {kd : Nat} (he : es.all plainE = true) (h : Evs c es st ob (TupK K)) : Ev c (.Tuple es kd p) st ob K := by
  refine ⟨fun as s F => ?_⟩
  refine Tuple_ (wpAny_mono (EvsF.go (items_of he p) h.run F) ?_ fun ζ ζ x => x)
  rintro vs s1 ⟨sls, ob1, n1, F1, h1, t1, xs, hx, hlen, k1⟩
  have d := ds_of_all2 h1 hx
  refine wpAny_mono (newTuple_F F1 d t1 (by rw [d.length]; exact Nat.le_trans hlen (by decide)) k1) ?_ fun ζ ζ x => x
  rintro v s2 ⟨sl, ob2, n2, F2, h2, t2, k2⟩
  exact ⟨sl, ob2, n1 ++ n2, by simpa [List.append_assoc] using F2, by simpa [List.append_assoc] using h2, t2, k2⟩
theorem Ev.lst {es : List Expr} (he : es.all plainE = true) (h : Evs c es st ob (LstK K)) : Ev c (.List es p) st ob K := by
  refine ⟨fun as s F => ?_⟩
  refine List_ (wpAny_mono (EvsF.go (items_of he p) h.run F) ?_ fun ζ ζ x => x)
  rintro vs s1 ⟨sls, ob1, n1, F1, h1, t1, xs, hx, hlen, k1⟩
  have d := ds_of_all2 h1 hx
  refine wpAny_mono (newList_F F1 d t1 (by rw [d.length]; exact Nat.le_trans hlen (by decide)) k1) ?_ fun ζ ζ x => x
  rintro v s2 ⟨sl, ob2, n2, F2, h2, t2, k2⟩
  exact ⟨sl, ob2, n1 ++ n2, by simpa [List.append_assoc] using F2, by simpa [List.append_assoc] using h2, t2, k2⟩
end
end
/-! L3 -/
section
structure Ok (A : Around) (n : Nat) : Prop where
  hd : A.handled = none
  gd : A.guards = some []
  dp : A.depth + n < recursionLimit
  un : A.units + 8 * n + 200 < cLine
inductive Rs where
  | dat (x : PyData)
  | new (o : Ob)
noncomputable def Rs.Is (g : Gx) (h h' : Heap) (v : Value) : Rs → Prop
  | .dat x => D h' v x
  | .new o => ∃ a, v = .ref a ∧ h.get? a = none ∧ o.At g h' a
noncomputable def pick (as : List Addr) (mu : List Nat) : List Addr := mu.filterMap (as[·]?)
noncomputable abbrev RetD (x : PyData) (os : List Ob) (r : Rs) (ob' : List Ob) : Prop := r = .dat x ∧ ob' = os
noncomputable abbrev RetN (o : Ob) (os : List Ob) (r : Rs) (ob' : List Ob) : Prop := r = .new o ∧ ob' = os
inductive Pc (g : Gx) (as : List Addr) (mu : List Nat) (s : Shared) (K : Rs → List Ob → Prop) (v : Value) (s' : Shared) : Prop
  | mk (r : Rs) (ob' : List Ob) (sm : Same s s') (x : Ext (pick as mu) s.heap s'.heap) (o : Obs g s'.heap as ob') (i : r.Is g s.heap s'.heap v) (k : K r ob')
/-- the contract of a call: what it finds, how deep it goes, what it gives back -/
noncomputable def Call (g : Gx) (f : Value) (args : List Sl) (ob : List Ob) (mu : List Nat) (n : Nat) (K : Rs → List Ob → Prop) : Prop :=
  ∀ A as s vs, Ok A n → Keep g.hb s.heap → as.Nodup → (∀ a ∈ as, g.hb.get? a = none) → Obs g s.heap as ob → All2 (fun v sl => Sl.Is s.heap as v sl) vs args →
    wpAny g.M A (call f vs) (Pc g as mu s K) (fun ζ ζ => False) s
/-- the same, of the call's code -/
noncomputable def CallC (g : Gx) (f : Value) (args : List Sl) (ob : List Ob) (mu : List Nat) (n : Nat) (K : Rs → List Ob → Prop) : Prop :=
  ∀ A as s vs, Ok A n → Keep g.hb s.heap → as.Nodup → (∀ a ∈ as, g.hb.get? a = none) → Obs g s.heap as ob → All2 (fun v sl => Sl.Is s.heap as v sl) vs args →
    codeAny g.M A (.call f ⟨vs, []⟩) (fun r s' => match r with
      | .ok (.ret v) => Pc g as mu s K v s'
      | .ok _ => False
      | .error _ => False) s
theorem CallC.call {g : Gx} {f : Value} {args : List Sl} {ob : List Ob} {mu : List Nat} {n : Nat} {K : Rs → List Ob → Prop} (h : CallC g f args ob mu n K) : Call g f args ob mu n K :=
  fun A as s vs h1 h2 h3 h4 h5 h6 => wpAny_call (h A as s vs h1 h2 h3 h4 h5 h6)
noncomputable def Fin (n₀ : Nat) (K : Rs → List Ob → Prop) (fl : Fl) (_ : List (Str × Sl)) (ob' : List Ob) : Prop :=
  match fl with
  | .nx => K (.dat .none) (ob'.take n₀)
  | .rt (.dat x) => K (.dat x) (ob'.take n₀)
  | .rt (.obj i) => n₀ ≤ i ∧ ∃ o, ob'[i]? = some o ∧ K (.new o) (ob'.take n₀)
  | .rt _ => False
structure Kn (c : Cx) (scope : Scope) : Prop where
  kd : ∀ x, c.env.kindOf x = scope.names.lookup x
  gl : c.env.globals = mainGlobals
  bt : c.env.builtins = builtinsNs
  cl : ∀ x, scope.names.lookup x = some .cell → (c.env.cells.lookup x).isSome = true
  sk : c.env.scope.kind = .function
  sc : c.env.scope = scope
theorem Kn.stores {c : Cx} {scope : Scope} (k : Kn c scope) {x : Str} (h : scope.names.lookup x = some .local ∨ (c.wc = true ∧ scope.names.lookup x = some .cell)) : Stores c x :=
  h.elim (fun h => .inl ((k.kd x).trans h)) fun h => .inr ⟨h.1, (k.kd x).trans h.2, k.cl x h.2⟩
theorem Kn.glob {c : Cx} {scope : Scope} (k : Kn c scope) {x : Str} (h : scope.names.lookup x = some .globalImplicit) : c.env.kindOf x = some .globalImplicit := (k.kd x).trans h
noncomputable def fdOf (K : Frag) (f : Addr) : FuncData := match K.lookup f with
  | some ⟨_, _, .func fd, _⟩ => fd
  | _ => default
noncomputable def bodyOf (K : Frag) (f : Addr) : List Stmt := match (fdOf K f).body with
  | .stmts b => b
  | _ => []
noncomputable def scopeOf (K : Frag) (f : Addr) : Scope := (fdOf K f).scope
theorem lookup_mem {α : Type} : ∀ {l : List (Str × α)} {x : Str} {v : α}, (l.map (·.1)).Nodup → (x, v) ∈ l → l.lookup x = some v
  | (k, u) :: r, x, v, nd, m => by
    rw [List.lookup_cons]
    simp only [List.map_cons, List.nodup_cons] at nd
    rcases List.mem_cons.mp m with e | m
    · cases e; simp
    · have : (x == k) = false := by
        simp only [beq_eq_false_iff_ne, ne_eq]
        intro e
        exact nd.1 (e ▸ List.mem_map.mpr ⟨(x, v), m, rfl⟩)
      rw [this]; exact lookup_mem nd.2 m
theorem bindL_keep (kindOf : Str → Option NameKind) : ∀ (l : List (Str × Value)) (m : Str → Option Value) (x : Str), x ∉ l.map (·.1) → bindL kindOf l m x = m x
  | [], _, _, _ => rfl
  | (n, v) :: r, m, x, h => by
    simp only [List.map_cons, List.mem_cons, not_or] at h
    unfold bindL
    rw [bindL_keep kindOf r _ x h.2]
    split
    · simp [h.1]
    · rfl
theorem bindL_mem (kindOf : Str → Option NameKind) {l : List (Str × Value)} {x : Str} {v : Value} : ∀ {m : Str → Option Value}, (l.map (·.1)).Nodup → (x, v) ∈ l → kindOf x = some .local → bindL kindOf l m x = some v := by
  induction l with
  | nil => intro m _ hm; cases hm
  | cons p r ih =>
    obtain ⟨n, u⟩ := p
    intro m nd hm hk
    simp only [List.map_cons, List.nodup_cons] at nd
    unfold bindL
    rcases List.mem_cons.mp hm with e | hm
    · obtain ⟨rfl, rfl⟩ := Prod.mk.inj e
      rw [bindL_keep kindOf r _ _ nd.1, if_pos hk]; simp
    · exact ih nd.2 hm hk
theorem bindC_keep (kindOf : Str → Option NameKind) : ∀ (l : List (Str × Value)) (m : Str → Option Value) (x : Str), x ∉ l.map (·.1) → bindC kindOf l m x = m x
  | [], _, _, _ => rfl
  | (n, v) :: r, m, x, h => by
    simp only [List.map_cons, List.mem_cons, not_or] at h
    unfold bindC
    rw [bindC_keep kindOf r _ x h.2]
    split
    · rfl
    · simp [h.1]
theorem bindC_mem (kindOf : Str → Option NameKind) : ∀ {l : List (Str × Value)} {m : Str → Option Value} {x : Str} {v : Value}, (l.map (·.1)).Nodup → (x, v) ∈ l → kindOf x ≠ some .local → bindC kindOf l m x = some v
  | (n, u) :: r, m, x, v, nd, hm, hk => by
    simp only [List.map_cons, List.nodup_cons] at nd
    unfold bindC
    rcases List.mem_cons.mp hm with e | hm
    · obtain ⟨rfl, rfl⟩ := Prod.mk.inj e
      rw [bindC_keep kindOf r _ _ nd.1, if_neg hk]; simp
    · exact bindC_mem kindOf nd.2 hm hk
theorem zip_lookup : ∀ {names : List Str} {vs : List Value} {sls : List Sl} {R : Value → Sl → Prop} {x : Str} {sl : Sl}, All2 R vs sls → (names.zip sls).lookup x = some sl → ∃ v, (x, v) ∈ names.zip vs ∧ R v sl
  | [], _, _, _, _, _, _, e => by simp at e
  | _ :: _, _, _, _, _, _, .nil, e => by simp at e
  | n :: ns, _, _, R, x, sl, .cons (a := v) (b := s) (as := vs) (bs := ss) h t, e => by
    dsimp only [List.zip_cons_cons, List.lookup_cons] at e
    cases hx : x == n with
    | true =>
      rw [hx] at e; simp at e; subst e
      have : x = n := by simpa using hx
      subst this
      exact ⟨v, by simp, h⟩
    | false =>
      rw [hx] at e
      obtain ⟨u, hu, hr⟩ := zip_lookup t e
      exact ⟨u, by simp [hu], hr⟩
theorem nodup_zip {names : List Str} {vs : List Value} (h : names.Nodup) : ((names.zip vs).map (·.1)).Nodup := by
  have : (names.zip vs).map (·.1) = names.take (min names.length vs.length) := by
    induction names generalizing vs with
    | nil => simp
    | cons a r ih => cases vs with
      | nil => simp
      | cons v vs => simp [ih (List.nodup_cons.mp h).2, Nat.succ_min_succ]
  rw [this]
  exact h.sublist (List.take_sublist _ _)
theorem Ok.deeper {A : Around} {n : Nat} (h : Ok A (n + 1)) (env : Env) : Ok (A.deeper env) n := by
  refine ⟨h.hd, h.gd, ?_, ?_⟩
  · have := h.dp
    show A.depth + 1 + n < _
    lia
  · have := h.un
    show A.units + 3 + 8 * n + 200 < _
    lia
/-- entering a def -/
theorem CallC.body {g : Gx} (G : Gd g) {f : Addr} {names : List Str} {args : List Sl} {ob : List Ob} {mu : List Nat} {n : Nat} {K : Rs → List Ob → Prop} {oc : Value} {od : Option Addr} {osl : Array (Option Value)} {fd : FuncData} {b : List Stmt}
    (ho : g.K.lookup f = some ⟨oc, od, .func fd, osl⟩) (hb : fd.body = .stmts b) (hcd : codeIn g.K fd.code fd.qualname = true) (hclo : fd.closure = []) (hco : fd.scope.isCoroutine = false) (hgen : fd.scope.isGenerator = false) (hk : fd.scope.kind = .function)
    (hgl : fd.globals = mainGlobals) (hbt : fd.builtins = builtinsNs)
    (hbind : ∀ vs : List Value, vs.length = args.length → bindArgs fd ⟨vs, []⟩ = pure (names.zip vs)) (hnd : names.Nodup)
    (hkd : ∀ m, ∀ x ∈ names, fd.scope.names.lookup x = some .local ∨ (fd.scope.names.lookup x = some .cell ∧ ((cellsFrom m fd.scope.names []).lookup x).isSome = true))
    (hcl : ∀ m x, fd.scope.names.lookup x = some .cell → ((cellsFrom m fd.scope.names []).lookup x).isSome = true)
    (h : ∀ c : Cx, c.g = g → Ok c.A n → Kn c fd.scope → c.wc = true → c.n₀ = ob.length → c.mu = mu → Exs c b (names.zip args) ob (Fin ob.length K)) : CallC g (.ref f) args ob mu (n + 1) K := by
  intro A as s vs hA hkeep hasn hahb hobs hargs
  have hlv : vs.length = args.length := hargs.length
  refine (codeAny_call_cells (fd := fd) (body := b) (binds := names.zip vs) (by have := hA.dp; lia) (hkeep _ _ (G.K _ _ ho)) rfl (G.T.nolimit.keeps hkeep) (codeRec_of (K := g.K) (fun a o e => hkeep _ _ (G.K a o e)) hcd) hb (hbind vs hlv) hclo ?_ ?_ hco hgen hk)
  · intro x hx
    exact hkd _ x.1 (List.of_mem_zip (a := x.1) (b := x.2) hx).1
  intro s₁ x
  let c : Cx := { g := g, A := A.deeper (callEnvC fd s.heap.objs.size f), env := callEnvC fd s.heap.objs.size f, s₀ := s, n₀ := ob.length, mu := mu, X := pick as mu }
  have hkof : ∀ y, c.env.kindOf y = fd.scope.names.lookup y := fun y => rfl
  have hT : TKeep s.heap s₁.heap := TKeep.of_keep x.toInCall.keep
  have hmem : ∀ y a, c.env.cells.lookup y = some a → s.heap.objs.size < a := fun y a e => x.above y a (mem_of_lookup e)
  have F : Fm c as (names.zip args) ob s₁ := {
    same := by obtain ⟨hh, tk, e⟩ := x.toInCall.same; exact ⟨hh, tk, e⟩
    base := fun b o e => x.toInCall.keep b o (hkeep b o e)
    ext := Ext.of_keep _ x.toInCall.keep
    xin := fun a m => by
      obtain ⟨i, _, hi⟩ := List.mem_filterMap.mp m
      exact List.mem_of_getElem? hi
    nd := hasn
    own := fun i a e hh => by
      refine .inr ?_
      have hi : i < as.length := (List.getElem?_eq_some_iff.mp e).1
      rcases hh with hh | hh
      · rw [hobs.length] at hi; exact absurd hh (Nat.not_le.mpr hi)
      · exact List.mem_filterMap.mpr ⟨i, hh, e⟩
    afr := fun i a e hh => by
      have hi : i < as.length := (List.getElem?_eq_some_iff.mp e).1
      rw [hobs.length] at hi; exact absurd hh (Nat.not_le.mpr hi)
    hbn := hahb
    obs := Obs.mk hobs.length fun i a o h1 h2 => by
      obtain ⟨o', h3, h4⟩ := hobs.get h1
      rw [h2] at h3; cases h3
      exact h4.keep hT fun ob e => x.toInCall.keep _ _ e
    ns := ⟨_, x.toInCall.ns⟩
    lap := fun m => by
      obtain ⟨i, hi⟩ := List.getElem?_of_mem m
      obtain ⟨o', _, hh⟩ := hobs.get hi
      obtain ⟨o2, e, _⟩ := hh.get
      exact Nat.lt_irrefl _ (Heap.lt_size e)
    lhb := by
      cases q : g.hb.get? s.heap.objs.size with
      | none => exact q
      | some o => exact absurd (Heap.lt_size (hkeep _ _ q)) (Nat.lt_irrefl _)
    lfr := new_of_ge (Nat.le_refl _)
    cis := fun y a e => ⟨_, x.cell y a e⟩
    cap := fun y z a e1 e2 => by
      have := x.apart
      exact name_of_addr this (mem_of_lookup e1) (mem_of_lookup e2)
    cfr := fun ζ y a e => new_of_ge (Nat.le_of_lt (hmem y a e))
    chb := fun y a e => by
      cases q : g.hb.get? a with
      | none => rfl
      | some o => exact absurd (Nat.lt_trans (hmem y a e) (Heap.lt_size (hkeep _ _ q))) (Nat.lt_irrefl _)
    vars := fun y sl e => by
      obtain ⟨v, hv, hs⟩ := zip_lookup hargs e
      refine ⟨v, ?_, by simpa using Sl.Is.up hs hT []⟩
      have hy := (List.of_mem_zip hv).1
      have ndz := nodup_zip (vs := vs) hnd
      rcases hkd (s.heap.objs.size + 1) y hy with hl | ⟨hl, hc⟩
      · exact .inl ⟨(hkof y).trans hl, _, x.toInCall.ns, bindL_mem _ ndz hv ((hkof y).trans hl)⟩
      · obtain ⟨a, ha⟩ := Option.isSome_iff_exists.mp hc
        refine .inr ⟨.inl ((hkof y).trans hl), a, ha, ?_⟩
        have := x.cell y a ha
        rw [bindC_mem _ ndz hv (by rw [hkof y, hl]; simp)] at this
        exact this
    kind := hk
    par := fun i a e hi => by
      obtain ⟨o, _, hh⟩ := hobs.get e
      obtain ⟨ob', e', _⟩ := hh.get
      refine ⟨⟨ob', e'⟩, fun hmu hX => ?_⟩
      obtain ⟨j, hj, hja⟩ := List.mem_filterMap.mp hX
      have := (List.getElem?_inj (List.getElem?_eq_some_iff.mp hja).1 hasn).mp (hja.trans e.symm)
      exact hmu (this ▸ hj)
    npl := by show ob.length ≤ as.length; rw [hobs.length]; exact Nat.le_refl _
    prk := fun p m => by cases m
    pra := fun p m => by cases m
    prl := fun p m => by cases m
    prc := fun p m => by cases m }
  have kn : Kn c fd.scope := ⟨fun ζ => rfl, hgl, hbt, fun y hy => hcl _ y hy, hk, rfl⟩
  refine wpAny_mono ((h c rfl (hA.deeper _) kn rfl rfl rfl).run as s₁ F) ?_ fun ζ ζ x => x.elim
  rintro fl s' ⟨fl', st', ob', nw, F', hfl, tk, k⟩
  have hpre : as.length = ob.length := hobs.length
  have hobs' : Obs g s'.heap as (ob'.take ob.length) := by
    refine Obs.mk ?_ fun i a o h1 h2 => ?_
    · have := F'.obs.length
      simp only [List.length_append] at this
      rw [List.length_take]; lia
    · obtain ⟨o', h3, h4⟩ := F'.obs.get (getElem?_app h1)
      have hi : i < as.length := (List.getElem?_eq_some_iff.mp h1).1
      rw [List.getElem?_take, if_pos (by lia)] at h2
      rw [h2] at h3; cases h3; exact h4
  have hsame : Same s s' := F'.same
  cases fl' with
  | nx =>
    rw [show fl = .next from hfl]
    exact ⟨.dat .none, _, hsame, F'.ext, hobs', .none, k⟩
  | rt sl =>
    obtain ⟨v, rfl, hv⟩ := hfl
    cases sl with
    | dat y => exact ⟨.dat y, _, hsame, F'.ext, hobs', hv, k⟩
    | obj i =>
      obtain ⟨hi, o, e, k⟩ := k
      obtain ⟨a, ha, rfl⟩ := hv
      obtain ⟨o', h3, h4⟩ := F'.obs.get ha
      rw [e] at h3; cases h3
      refine ⟨.new o, _, hsame, F'.ext, hobs', ⟨a, rfl, ?_, h4⟩, k⟩
      have := F'.afr i a ha hi
      exact this
    | ins C i => exact k.elim
    | val y => exact k.elim
theorem Call.body {g : Gx} (G : Gd g) {f : Addr} {names : List Str} {args : List Sl} {ob : List Ob} {mu : List Nat} {n : Nat} {K : Rs → List Ob → Prop} {oc : Value} {od : Option Addr} {osl : Array (Option Value)} {fd : FuncData} {b : List Stmt}
    (ho : g.K.lookup f = some ⟨oc, od, .func fd, osl⟩) (hb : fd.body = .stmts b) (hcd : codeIn g.K fd.code fd.qualname = true) (hclo : fd.closure = []) (hco : fd.scope.isCoroutine = false) (hgen : fd.scope.isGenerator = false) (hk : fd.scope.kind = .function)
    (hgl : fd.globals = mainGlobals) (hbt : fd.builtins = builtinsNs)
    (hbind : ∀ vs : List Value, vs.length = args.length → bindArgs fd ⟨vs, []⟩ = pure (names.zip vs)) (hnd : names.Nodup)
    (hkd : ∀ m, ∀ x ∈ names, fd.scope.names.lookup x = some .local ∨ (fd.scope.names.lookup x = some .cell ∧ ((cellsFrom m fd.scope.names []).lookup x).isSome = true))
    (hcl : ∀ m x, fd.scope.names.lookup x = some .cell → ((cellsFrom m fd.scope.names []).lookup x).isSome = true)
    (h : ∀ c : Cx, c.g = g → Ok c.A n → Kn c fd.scope → c.wc = true → c.n₀ = ob.length → c.mu = mu → Exs c b (names.zip args) ob (Fin ob.length K)) : Call g (.ref f) args ob mu (n + 1) K :=
  (CallC.body G ho hb hcd hclo hco hgen hk hgl hbt hbind hnd hkd hcl h).call
end
/-! L4 -/
section
section
variable {c : Cx} {as : List Addr} {st : List (Str × Sl)} {ob : List Ob} {s s' : Shared} {p : Pos} {e l r : Expr} {K : Sl → List Ob → Prop}
theorem Fm.alive (F : Fm c as st ob s) {a : Addr} (m : a ∈ as) : s.heap.get? a ≠ none := by
  obtain ⟨i, hi⟩ := List.getElem?_of_mem m
  obtain ⟨o, _, h⟩ := F.obs.get hi
  obtain ⟨ob, e, _⟩ := h.get
  rw [e]; simp
/-- an object that stands already joins the ledger -/
theorem Fm.join (F : Fm c as st ob s) {a : Addr} {o : Ob} (ha : c.s₀.heap.get? a = none) (na : a ∉ as) (hb : c.g.hb.get? a = none) (hl : a ≠ c.env.locals) (hp : ∀ p ∈ c.pr, p.1 ≠ a) (ho : o.At c.g s.heap a) : Fm c (as ++ [a]) st (ob ++ [o]) s := by
  have key : ∀ (i : Nat) (b : Addr), (as ++ [a])[i]? = some b → as[i]? = some b ∨ (i = as.length ∧ b = a) := by
    intro i b e
    by_cases hi : i < as.length
    · rw [List.getElem?_append_left hi] at e; exact .inl e
    · rw [List.getElem?_append_right (by lia)] at e
      have : i - as.length = 0 := by
        have := (List.getElem?_eq_some_iff.mp e).1
        simp at this; lia
      rw [this] at e; simp at e
      exact .inr ⟨by lia, e.symm⟩
  refine { F with xin := fun x m => List.mem_append.mpr (.inl (F.xin x m)), nd := ?_, own := ?_, afr := ?_, hbn := ?_, obs := ?_, lap := ?_, vars := ?_, par := ?_, npl := Nat.le_trans F.npl (by simp), pra := fun p m q => (List.mem_append.mp q).elim (F.pra p m) fun q => hp p m (by simpa using q) }
  · exact List.nodup_append.mpr ⟨F.nd, by simp, fun x hx y hy => by simp at hy; subst hy; exact fun e => na (e ▸ hx)⟩
  · intro i b e hh
    rcases key i b e with e | ⟨_, rfl⟩
    · exact F.own i b e hh
    · exact .inl ha
  · intro i b e hh
    rcases key i b e with e | ⟨_, rfl⟩
    · exact F.afr i b e hh
    · exact ha
  · intro b m
    rcases List.mem_append.mp m with m | m
    · exact F.hbn b m
    · simp at m; subst m; exact hb
  · refine Obs.mk (by simp [F.obs.length]) fun i b o' h1 h2 => ?_
    rcases key i b h1 with e | ⟨hi, rfl⟩
    · have hl : i < ob.length := by rw [← F.obs.length]; exact (List.getElem?_eq_some_iff.mp e).1
      rw [List.getElem?_append_left hl] at h2
      obtain ⟨o'', h3, h4⟩ := F.obs.get e
      rw [h2] at h3; cases h3; exact h4
    · subst hi
      rw [List.getElem?_append_right (by rw [F.obs.length]; exact Nat.le_refl _), F.obs.length] at h2
      simp at h2; subst h2; exact ho
  · intro m
    rcases List.mem_append.mp m with m | m
    · exact F.lap m
    · simp at m; exact hl m.symm
  · intro x sl e
    obtain ⟨v, h1, h2⟩ := F.vars x sl e
    exact ⟨v, h1, h2.up (TKeep.refl _) _⟩
  · intro i b e hi
    rcases key i b e with e | ⟨hh, _⟩
    · exact F.par i b e hi
    · have := F.npl; lia
noncomputable def upd (ob : List Ob) : List Nat → List Ob → List Ob
  | i :: hs, o :: os => upd (ob.set i o) hs os
  | _, _ => ob
theorem upd_length (ob : List Ob) : ∀ (hs : List Nat) (os : List Ob), (upd ob hs os).length = ob.length := by
  intro hs os
  induction hs generalizing ob os with
  | nil => cases os <;> rfl
  | cons i hs ih => cases os with
    | nil => ((try dsimp only [upd]) <;> simp)
    | cons o os => ((try dsimp only [upd]) <;> simp [ih])
theorem upd_off (ob : List Ob) : ∀ (hs : List Nat) (os : List Ob) (i : Nat), i ∉ hs → (upd ob hs os)[i]? = ob[i]? := by
  intro hs os
  induction hs generalizing ob os with
  | nil => intros; cases os <;> rfl
  | cons j hs ih => cases os with
    | nil => intros; ((try dsimp only [upd]) <;> simp)
    | cons o os =>
      intro i hi
      simp only [List.mem_cons, not_or] at hi
      dsimp only [upd]; rw [ih _ _ _ hi.2, List.getElem?_set_ne (Ne.symm hi.1)]
theorem upd_on (ob : List Ob) : ∀ (hs : List Nat) (os : List Ob) (j i : Nat), hs.Nodup → hs.length = os.length → hs[j]? = some i → i < ob.length → (upd ob hs os)[i]? = os[j]? := by
  intro hs os
  induction hs generalizing ob os with
  | nil => intro j i _ _ h; simp at h
  | cons k hs ih => cases os with
    | nil => intro j i _ hl; simp at hl
    | cons o os =>
      intro j i nd hl hj hi
      simp only [List.nodup_cons] at nd
      cases j with
      | zero =>
        simp at hj; subst hj
        dsimp only [upd]; rw [upd_off _ _ _ _ nd.1]
        simp [hi]
      | succ j =>
        dsimp only [List.getElem?_cons_succ] at hj ⊢
        dsimp only [upd]
        exact ih _ _ j i nd.2 (by simpa using hl) hj (by simpa using hi)
noncomputable def tr (hs : List Nat) : Sl → Option Sl
  | .obj j => (hs[j]?).map .obj
  | .ins C j => (hs[j]?).map (.ins C)
  | x => some x
noncomputable def slotOf (ob : List Ob) : Rs → Sl × List Ob
  | .dat x => (.dat x, ob)
  | .new o => (.obj ob.length, ob ++ [o])
noncomputable def at? (ob : List Ob) (hs : List Nat) : List (Option Ob) := hs.map (ob[·]?)
theorem upd_self : ∀ (hs : List Nat) (os : List Ob) {ob : List Ob}, at? ob hs = os.map some → upd ob hs os = ob
  | [], os, _, _ => by cases os <;> rfl
  | i :: hs, [], _, _ => rfl
  | i :: hs, o :: os, ob, h => by
    have h1 : ob[i]? = some o := (List.cons.inj h).1
    have h2 : ob.set i o = ob := by
      refine List.ext_getElem? fun j => ?_
      rw [List.getElem?_set]
      split
      · rename_i e
        subst e
        rw [h1, if_pos (List.getElem?_eq_some_iff.mp h1).1]
      · rfl
    show upd (ob.set i o) hs os = ob
    rw [h2]
    exact upd_self hs os (List.cons.inj h).2
/-- a call of something with a contract -/
theorem Fm.call {f : Value} {args sls : List Sl} {obc : List Ob} {mu : List Nat} {n : Nat} {Kc : Rs → List Ob → Prop} (hs : List Nat) {vs : List Value} {h : Heap}
    (F : Fm c as st ob s) (C : Call c.g f args obc mu n Kc) (hA : Ok c.A n) (t : TKeep h s.heap) (hv : All2 (fun v sl => Sl.Is s.heap as v sl) vs sls)
    (hargs : args.map (tr hs) = sls.map some) (hob : at? ob hs = obc.map some) (hnd : hs.Nodup) (hmu : ∀ i ∈ mu, ∀ j, hs[i]? = some j → c.n₀ ≤ j ∨ j ∈ c.mu)
    (k : ∀ r ob', ob'.length = obc.length → Kc r ob' → K (slotOf (upd ob hs ob') r).1 (slotOf (upd ob hs ob') r).2) :
    wpAny c.g.M c.A (call f vs) (Pv c as st h K) (fun ζ ζ => False) s := by
  have hlen : hs.length = obc.length := by have := congrArg List.length hob; simpa [at?] using this
  have hin : ∀ (j i : Nat), hs[j]? = some i → ∃ o a, ob[i]? = some o ∧ obc[j]? = some o ∧ as[i]? = some a ∧ o.At c.g s.heap a := by
    intro j i hj
    have e1 : (at? ob hs)[j]? = some (ob[i]?) := by ((try dsimp only [at?]) <;> simp [hj])
    rw [hob, List.getElem?_map] at e1
    obtain ⟨o, ho, e2⟩ := Option.map_eq_some_iff.mp e1
    obtain ⟨a, ha, hat⟩ := F.obs.get' e2.symm
    exact ⟨o, a, e2.symm, ho, ha, hat⟩
  let asc := hs.map fun i => (as[i]?).getD 0
  have hasc : ∀ (j i : Nat) (a : Addr), hs[j]? = some i → as[i]? = some a → asc[j]? = some a := by
    intro j i a h1 h2
    simp [asc, h1, h2]
  have hasc' : ∀ (j : Nat) (a : Addr), asc[j]? = some a → ∃ i, hs[j]? = some i ∧ as[i]? = some a := by
    intro j a h1
    simp only [asc, List.getElem?_map, Option.map_eq_some_iff] at h1
    obtain ⟨i, hi, e⟩ := h1
    obtain ⟨o, b, _, _, hb, _⟩ := hin j i hi
    rw [hb] at e; simp at e; subst e
    exact ⟨i, hi, hb⟩
  have hsub : ∀ a ∈ asc, a ∈ as := by
    intro a m
    obtain ⟨j, hj⟩ := List.getElem?_of_mem m
    obtain ⟨i, _, hi⟩ := hasc' j a hj
    exact List.mem_of_getElem? hi
  have hndc : asc.Nodup := by
    refine List.pairwise_iff_getElem.mpr fun x y hx hy hxy e => ?_
    have h1 : asc[x]? = some asc[x] := List.getElem?_eq_getElem hx
    have h2 : asc[y]? = some asc[x] := by rw [e]; exact List.getElem?_eq_getElem hy
    obtain ⟨i, hi, hai⟩ := hasc' _ _ h1
    obtain ⟨j, hj, haj⟩ := hasc' _ _ h2
    have hij : i = j := (List.getElem?_inj (List.getElem?_eq_some_iff.mp hai).1 F.nd).mp (hai.trans haj.symm)
    subst hij
    have := (List.getElem?_inj (List.getElem?_eq_some_iff.mp hi).1 hnd).mp (hi.trans hj.symm)
    lia
  have hobc : Obs c.g s.heap asc obc := by
    refine Obs.mk (by simp [asc, hlen]) fun j a o h1 h2 => ?_
    obtain ⟨i, hi, hai⟩ := hasc' j a h1
    obtain ⟨o', b, _, h3, h4, h5⟩ := hin j i hi
    rw [h2] at h3; cases h3
    rw [hai] at h4; cases h4
    exact h5
  have hargs' : All2 (fun v sl => Sl.Is s.heap asc v sl) vs args := by
    clear C
    induction hv generalizing args with
    | nil => cases args with
      | nil => exact .nil
      | cons => simp at hargs
    | @cons v sl vs sls hv _ ih => cases args with
      | nil => simp at hargs
      | cons a args =>
        simp only [List.map_cons, List.cons.injEq] at hargs
        refine .cons ?_ (ih hargs.2)
        cases a with
        | dat x => ((try dsimp only [tr] at hargs) <;> simp only [Option.some.injEq] at hargs); rw [← hargs.1] at hv; exact hv
        | val x => ((try dsimp only [tr] at hargs) <;> simp only [Option.some.injEq] at hargs); rw [← hargs.1] at hv; exact hv
        | obj j =>
          ((try dsimp only [tr] at hargs) <;> simp only [Option.map_eq_some_iff] at hargs)
          obtain ⟨⟨i, hi, rfl⟩, _⟩ := hargs
          obtain ⟨a, ha, rfl⟩ := hv
          exact ⟨a, hasc j i a hi ha, rfl⟩
        | ins C j =>
          ((try dsimp only [tr] at hargs) <;> simp only [Option.map_eq_some_iff] at hargs)
          obtain ⟨⟨i, hi, rfl⟩, _⟩ := hargs
          obtain ⟨a, d, ha, rfl, hd⟩ := hv
          exact ⟨a, d, hasc j i d hi ha, rfl, hd⟩
  refine wpAny_mono (C c.A asc s vs hA F.base hndc (fun a m => F.hbn a (hsub a m)) hobc hargs') ?_ fun ζ ζ x => x.elim
  rintro v s' ⟨r, ob', hsame, hext, hobs', hr, kc⟩
  have hlen' : ob'.length = obc.length := by rw [← hobs'.length, hobc.length]
  have hY : ∀ a ∈ pick asc mu, a ∈ as ∧ (c.s₀.heap.get? a = none ∨ a ∈ c.X) := by
    intro a m
    obtain ⟨i, hi, ha⟩ := List.mem_filterMap.mp m
    obtain ⟨j, hj, haj⟩ := hasc' i a ha
    exact ⟨List.mem_of_getElem? haj, F.own j a haj (hmu i hi j hj)⟩
  have hYs : ∀ a ∈ pick asc mu, a ∈ asc := fun a m => by
    obtain ⟨i, _, ha⟩ := List.mem_filterMap.mp m
    exact List.mem_of_getElem? ha
  have hT := F.tkeep hext fun a m => (hY a m).1
  have F' : Fm c as st (upd ob hs ob') s' := by
    refine F.step hsame hext hY (Obs.mk ?_ fun i a o h1 h2 => ?_)
    · rw [upd_length]; exact F.obs.length
    · by_cases hi : i ∈ hs
      · obtain ⟨j, hj⟩ := List.getElem?_of_mem hi
        have hib : i < ob.length := by rw [← F.obs.length]; exact (List.getElem?_eq_some_iff.mp h1).1
        rw [upd_on ob hs ob' j i hnd (by rw [hlen, hlen']) hj hib] at h2
        obtain ⟨o', h3, h4⟩ := hobs'.get (hasc j i a hj h1)
        rw [h2] at h3; cases h3; exact h4
      · rw [upd_off _ _ _ _ hi] at h2
        obtain ⟨o', h3, h4⟩ := F.obs.get h1
        rw [h2] at h3; cases h3
        refine h4.keep hT fun ob e => hext _ _ e fun m => ?_
        obtain ⟨j, hj⟩ := List.getElem?_of_mem (hYs _ m)
        obtain ⟨i', hi', hai'⟩ := hasc' j a hj
        have hij : i' = i := (List.getElem?_inj (List.getElem?_eq_some_iff.mp hai').1 F.nd).mp (hai'.trans h1.symm)
        exact hi (hij ▸ List.mem_of_getElem? hi')
  have kk := k r ob' hlen' kc
  cases r with
  | dat x => exact Pv.of (sl := .dat x) F' hr (t.trans hT) kk
  | new o =>
    obtain ⟨a, rfl, ha, hat⟩ := hr
    have hna : a ∉ as := fun m => F.alive m ha
    have hnl : a ≠ c.env.locals := by
      rintro rfl
      obtain ⟨_, o', _, _, h1, _⟩ := F.ns
      rw [ha] at h1; cases h1
    have hnb : c.g.hb.get? a = none := by
      cases q : c.g.hb.get? a with
      | none => rfl
      | some o' => rw [F.base _ _ q] at ha; cases ha
    exact ⟨_, _, [a], F'.join (F.old ha) hna hnb hnl (fun p m q => by have := F.prk p m; rw [q, ha] at this; cases this) hat, (show Sl.Is _ _ _ (.obj _) from ⟨a, by simp [upd_length, ← F.obs.length], rfl⟩), t.trans hT, kk⟩
end
end
/-! L5 -/
section
section
variable {c : Cx} {as : List Addr} {st : List (Str × Sl)} {ob : List Ob} {s s' : Shared} {p : Pos} {e l r : Expr} {K : Sl → List Ob → Prop}
structure On (c : Cx) (t : List Value → Sem Value) (sls : List Sl) (st : List (Str × Sl)) (ob : List Ob) (K : Sl → List Ob → Prop) : Prop where
  run : ∀ as s vs h, Fm c as st ob s → All2 (fun v sl => Sl.Is s.heap as v sl) vs sls → TKeep h s.heap → wpAny c.g.M c.A (t vs) (Pv c as st h K) (fun ζ ζ => False) s
theorem On.callC {f : Value} {args sls : List Sl} {obc : List Ob} {mu : List Nat} {n : Nat} {Kc : Rs → List Ob → Prop} (hs : List Nat) (C : Call c.g f args obc mu n Kc) (hA : Ok c.A n)
    (hargs : args.map (tr hs) = sls.map some) (hob : at? ob hs = obc.map some) (hnd : hs.Nodup) (hmu : ∀ i ∈ mu, ∀ j, hs[i]? = some j → c.n₀ ≤ j ∨ j ∈ c.mu)
    (k : ∀ r ob', ob'.length = obc.length → Kc r ob' → K (slotOf (upd ob hs ob') r).1 (slotOf (upd ob hs ob') r).2) : On c (fun vs => call f vs) sls st ob K :=
  ⟨fun ζ ζ ζ ζ F hv t => F.call hs C hA t hv hargs hob hnd hmu k⟩
/-- the same, of a call that leaves all as it was -/
theorem On.callZ {f : Value} {args sls : List Sl} {obc : List Ob} {mu : List Nat} {n : Nat} {x : PyData} (hs : List Nat) (C : Call c.g f args obc mu n (RetD x obc)) (hA : Ok c.A n)
    (hargs : args.map (tr hs) = sls.map some) (hob : at? ob hs = obc.map some) (hnd : hs.Nodup) (hmu : ∀ i ∈ mu, ∀ j, hs[i]? = some j → c.n₀ ≤ j ∨ j ∈ c.mu) (k : K (.dat x) ob) : On c (fun vs => call f vs) sls st ob K :=
  On.callC hs C hA hargs hob hnd hmu fun r ob' ζ h => by
    obtain ⟨rfl, rfl⟩ := h
    rw [upd_self hs _ hob]
    exact k
theorem items_plain {es : List Expr} {ts : List (Bool × Sem Value)} (h : Items c es ts) : ts.any (·.1) = false := by
  induction h with
  | nil => rfl
  | cons h _ ih => simp [h.1, ih]
theorem evalArgs_items {M : Model} {A : Around} {E : Value → Shared → Prop} {f : Value} {es : List Expr} {ts : List (Bool × Sem Value)} {Q : Args → Shared → Prop} (h : Items c es ts) (k : wpAny M A (spliced ts) (fun vs s' => Q ⟨vs, []⟩ s') E s) :
    wpAny M A (evalArgs f true ts []) Q E s := by
  cases h with
  | nil =>
    unfold evalArgs
    show wpAny M A (spliced [] >>= _) Q E s
    refine wpAny_bind (wpAny_mono k (fun vs s' h' => ?_) fun ζ ζ x => x)
    refine wpAny_bind (wpAny_pure ?_)
    refine wpAny_holding ?_
    exact wpAny_bind (wpAny_pure (wpAny_bind (wpAny_pure (wpAny_pure h'))))
  | @cons e t es ts h hr =>
    obtain ⟨b, t⟩ := t
    obtain ⟨rfl, _⟩ := h
    exact Calls.evalArgs_plain k
theorem nil_kw (env : Env) (pos : Pos) : backToKw pos (keywordEach [] env) = [] := rfl
noncomputable abbrev CallK (c : Cx) (st : List (Str × Sl)) (K : Sl → List Ob → Prop) (f : List Value → Sem Value) (sls : List Sl) (ob1 : List Ob) : Prop := On c f sls st ob1 K
/-- a call of one of the text's own defs by its name -/
theorem Ev.callF {x : Str} {np : Pos} {f : Addr} {es : List Expr} {scope : Scope} (G : Gd c.g) (kn : Kn c scope) (hx : scope.names.lookup x = some .globalImplicit) (e : nsIn c.g.K mainGlobals x = some (some (.ref f)))
    (hk : keepIn c.g.K (.ref f) = true) (he : es.all plainE = true) (h : Evs c es st ob (CallK c st K (fun vs => call (.ref f) vs))) (hd : (x == ("__debug__" : Str)) = false := by decide) : Ev c (.Call (.Name x np) es [] p) st ob K := by
  refine ⟨fun as s F => ?_⟩
  refine wpAny_Call_ofName ?_
  refine Calls.Name_function_global F.kind (kn.glob hx) (Calls.loadGlobal_global (env := c.env) (by rw [kn.gl]; exact G.T.g.keeps F.base) (mg_of G.K G.T.g e) ?_) hd
  rw [nil_kw]
  have hi := items_of (c := c) he p
  refine callWith_of (P := c.g.K.In) (by rw [items_plain hi]; rfl) (keeps_K hk) (evalArgs_items hi (wpAny_mono (EvsF.go hi h.run F) ?_ fun ζ ζ x => x))
  rintro vs s1 ⟨sls, ob1, n1, F1, h1, t1, k1⟩
  refine ⟨fun a o e => F1.base _ _ (G.K a o e), ?_⟩
  refine wpAny_mono (k1.run _ s1 vs s.heap F1 h1 t1) ?_ fun ζ ζ x => x
  rintro v s2 ⟨sl, ob2, n2, F2, h2, t2, k2⟩
  exact ⟨sl, ob2, n1 ++ n2, by simpa [List.append_assoc] using F2, by simpa [List.append_assoc] using h2, t2, k2⟩
/-- a call of a built-in by its name -/
theorem Ev.callB {x : Str} {np : Pos} {id : String} {es : List Expr} {scope : Scope} (G : Gd c.g) (kn : Kn c scope) (hx : scope.names.lookup x = some .globalImplicit) (e : nsIn c.g.K mainGlobals x = some none) (hv : bootBuiltins x = some (.builtin id)) (hn : x ≠ "__name__")
    (he : es.all plainE = true) (h : Evs c es st ob (CallK c st K (fun vs => call (.builtin id) vs))) (hd : (x == ("__debug__" : Str)) = false := by decide) : Ev c (.Call (.Name x np) es [] p) st ob K := by
  refine ⟨fun as s F => ?_⟩
  refine wpAny_Call_ofName ?_
  refine Calls.Name_function_global F.kind (kn.glob hx) (Calls.loadGlobal_builtin (env := c.env) (by rw [kn.gl]; exact G.T.g.keeps F.base) (mg_none_of G.K G.T.g e) (by rw [kn.bt]; exact G.T.b.keeps F.base) ((G.T.builtins x hn).trans hv) ?_) hd
  rw [nil_kw]
  have hi := items_of (c := c) he p
  refine Calls.callWith_builtin (items_plain hi) (evalArgs_items hi (wpAny_mono (EvsF.go hi h.run F) ?_ fun ζ ζ x => x))
  rintro vs s1 ⟨sls, ob1, n1, F1, h1, t1, k1⟩
  refine wpAny_mono (k1.run _ s1 vs s.heap F1 h1 t1) ?_ fun ζ ζ x => x
  rintro v s2 ⟨sl, ob2, n2, F2, h2, t2, k2⟩
  exact ⟨sl, ob2, n1 ++ n2, by simpa [List.append_assoc] using F2, by simpa [List.append_assoc] using h2, t2, k2⟩
/-- a call of a built-in type by its name -/
theorem callWith_type {M : Model} {A : Around} {E : Value → Shared → Prop} {s : Shared} {pos : Pos} {T : String} {args : List (Bool × Sem Value)} {Q : Value → Shared → Prop} (hplain : args.any (·.1) = false)
    (h : wpAny M A (evalArgs (.type T) true args []) (fun a s₁ => wpAny M A (call (.type T) a.pos a.kw) Q E s₁) E s) :
    wpAny M A (callWith pos (.type T) [] args []) Q E s := by
  unfold callWith
  refine wpAny_bind (wpAny_holding (wpAny_mono h (fun a s₁ h₁ => wpAny_bind (wpAny_standAt ?_)) fun ζ ζ x => x))
  simp only [hplain, List.any_nil, Bool.or_false]
  refine wpAny_bind (wpAny_pure ?_)
  exact wpAny_bind (wpAny_mono h₁ (fun r s₂ hr => wpAny_bind (wpAny_holding (wpAny_point (wpAny_pure hr)))) fun ζ ζ x => x)
theorem Ev.callT {x : Str} {np : Pos} {T : String} {es : List Expr} {scope : Scope} (G : Gd c.g) (kn : Kn c scope) (hx : scope.names.lookup x = some .globalImplicit) (e : nsIn c.g.K mainGlobals x = some none) (hv : bootBuiltins x = some (.type T)) (hn : x ≠ "__name__")
    (he : es.all plainE = true) (h : Evs c es st ob (CallK c st K (fun vs => call (.type T) vs))) (hd : (x == ("__debug__" : Str)) = false := by decide) : Ev c (.Call (.Name x np) es [] p) st ob K := by
  refine ⟨fun as s F => ?_⟩
  refine wpAny_Call_ofName ?_
  refine Calls.Name_function_global F.kind (kn.glob hx) (Calls.loadGlobal_builtin (env := c.env) (by rw [kn.gl]; exact G.T.g.keeps F.base) (mg_none_of G.K G.T.g e) (by rw [kn.bt]; exact G.T.b.keeps F.base) ((G.T.builtins x hn).trans hv) ?_) hd
  rw [nil_kw]
  have hi := items_of (c := c) he p
  refine callWith_type (items_plain hi) (evalArgs_items hi (wpAny_mono (EvsF.go hi h.run F) ?_ fun ζ ζ x => x))
  rintro vs s1 ⟨sls, ob1, n1, F1, h1, t1, k1⟩
  refine wpAny_mono (k1.run _ s1 vs s.heap F1 h1 t1) ?_ fun ζ ζ x => x
  rintro v s2 ⟨sl, ob2, n2, F2, h2, t2, k2⟩
  exact ⟨sl, ob2, n1 ++ n2, by simpa [List.append_assoc] using F2, by simpa [List.append_assoc] using h2, t2, k2⟩
/-! ### the type of what a slot holds -/
noncomputable def tyOf (ob : List Ob) : Sl → Option String
  | .dat (.str _) => some "str"
  | .dat (.int _) => some "int"
  | .dat (.tuple _) => some "tuple"
  | .obj i => match ob[i]? with
    | some (.list _) => some "list"
    | some (.dict _) => some "dict"
    | _ => none
  | _ => none
theorem Fm.objAt (F : Fm c as st ob s) {i : Nat} {o : Ob} {v : Value} (e : ob[i]? = some o) (h : Sl.Is s.heap as v (.obj i)) : ∃ a, as[i]? = some a ∧ v = .ref a ∧ o.At c.g s.heap a := by
  obtain ⟨a, ha, rfl⟩ := h
  obtain ⟨o', h1, h2⟩ := F.obs.get ha
  rw [e] at h1; cases h1
  exact ⟨a, ha, rfl, h2⟩
theorem tyOf_is (F : Fm c as st ob s) {sl : Sl} {v : Value} {T : String} (e : tyOf ob sl = some T) (h : sl.Is s.heap as v) : s.TypeIs v T ∧ ∀ a, v = .ref a → T ≠ "tuple" → ∃ o, s.heap.get? a = some o ∧ o.dict = none := by
  cases sl with
  | dat x => cases x with
    | str y => cases e; obtain ⟨t, rfl⟩ := D.str_inv h; exact ⟨typeIs_str _ _ _, fun a q => by cases q⟩
    | int y => cases e; obtain ⟨t, rfl⟩ := D.int_inv h; exact ⟨typeIs_int _ _ _, fun a q => by cases q⟩
    | tuple xs => cases e; obtain ⟨a, o, vs, n, rfl, ho, hc, _⟩ := D.tuple_inv h; exact ⟨⟨o, ho, hc⟩, fun ζ ζ q => (q rfl).elim⟩
    | _ => cases e
  | obj i =>
    dsimp only [tyOf] at e
    cases q : ob[i]? with
    | none => rw [q] at e; cases e
    | some o =>
      rw [q] at e
      obtain ⟨a, _, rfl, hat⟩ := F.objAt q h
      cases o with
      | list xs => cases e; obtain ⟨vs, n, e1, _⟩ := hat; exact ⟨⟨_, e1, rfl⟩, fun b hb ζ => by cases hb; exact ⟨_, e1, rfl⟩⟩
      | dict es => cases e; obtain ⟨kvs, ⟨⟨o, es', ep, ho, hx, _⟩, _⟩, _⟩ := hat; exact ⟨⟨o, ho, hx.1⟩, fun b hb ζ => by cases hb; exact ⟨o, ho, hx.2.1⟩⟩
      | sup n => cases e
  | ins C i => cases e
  | val y => cases e
noncomputable abbrev Meth2 (c : Cx) (st : List (Str × Sl)) (K : Sl → List Ob → Prop) (f : List Value → Sem Value) (a : Sl) (sls : List Sl) (ob2 : List Ob) : Prop := On c f (a :: sls) st ob2 K
noncomputable abbrev Meth1 (c : Cx) (st : List (Str × Sl)) (K : Sl → List Ob → Prop) (f : List Value → Sem Value) (T : String) (es : List Expr) (a : Sl) (ob1 : List Ob) : Prop := tyOf ob1 a = some T ∧ Evs c es st ob1 (Meth2 c st K f a)
/-- a method of a built-in type -/
theorem Ev.meth {o : Expr} {name : Str} {apos : Pos} {es : List Expr} {T id : String} (slot : Slot T name id) (pa : PlainAttrs T) (ht : typeOf (.builtin id) = pure (.type "method_descriptor")) (hT : T ≠ "tuple") (he : es.all plainE = true)
    (h : Ev c o st ob (Meth1 c st K (fun vs => call (.builtin id) vs) T es))
    (hb : attributeBase o name c.env (eval o c.env) = eval o c.env) (hf : es.length < 30)
    (hl : (Pos.endLine apos == Pos.line p) = true) : Ev c (.Call (.Attribute o name apos) es [] p) st ob K := by
  refine ⟨fun as s F => ?_⟩
  have hi := items_of (c := c) he p
  refine wpAny_Call_method hb ?_ hl pa slot ht (wpAny_mono (h.run as s F) ?_ fun ζ ζ x => x)
  · rw [nil_kw]
    have : ((backTo p (starEach es c.env)).all fun x => !x.1) = true := by
      have := items_plain hi
      rw [List.any_eq_false] at this
      exact List.all_eq_true.mpr fun x hx => by simpa using this x hx
    rw [this]
    simpa using hf
  rintro ov s1 ⟨a, ob1, n1, F1, h1, t1, ha, k1⟩
  obtain ⟨h3, h4⟩ := tyOf_is F1 ha h1
  refine ⟨h3, fun b hb' => h4 b hb' hT, ?_⟩
  refine Calls.callWith_builtin (items_plain hi) (evalArgs_items hi (wpAny_mono (EvsF.go hi k1.run F1) ?_ fun ζ ζ x => x))
  rintro vs s2 ⟨sls, ob2, n2, F2, h2, t2, k2⟩
  refine wpAny_mono (k2.run _ s2 (ov :: vs) s.heap F2 (.cons (h1.up t2 _) h2) (t1.trans t2)) ?_ fun ζ ζ x => x
  rintro v s3 ⟨sl, ob3, n3, F3, h3, t3, k3⟩
  exact ⟨sl, ob3, n1 ++ n2 ++ n3, by simpa [List.append_assoc] using F3, by simpa [List.append_assoc] using h3, t3, k3⟩
end
end
/-! L6 -/
section
section
variable {c : Cx} {as : List Addr} {st : List (Str × Sl)} {ob : List Ob} {s s' : Shared} {p : Pos} {e l r : Expr} {K : Sl → List Ob → Prop}
theorem subscripted_ops (slice : Expr) (o i : Value) : ∃ ops, subscripted slice false o i = operate ops (getItem o i) := by
  cases slice with
  | Slice a b d q => cases d <;> exact ⟨_, rfl⟩
  | _ => exact ⟨_, rfl⟩
theorem subTail {prog : Program} {w : World} {A : Around} {E : Value → Shared → Prop} {s : Shared} {value slice : Expr} {o i : Value} {T id : String} {Q : Value → Shared → Prop} (hT : s.TypeIs o T)
    (hl : typeLookup (.type T) "__getitem__" = pure (some (.builtin id))) (h : wpAny (model prog w) A (getItem o i) Q E s) :
    wpAny (model prog w) A (subscriptTail value slice o i) Q E s := by
  unfold subscriptTail
  refine wpAny_bind ?_
  rw [getitemInPython_of_ne hT.not_modules]
  refine wpAny_bind (wpAny_specialOf hT hl ?_)
  obtain ⟨ops, hs⟩ := subscripted_ops slice o i
  have fin : wpAny (model prog w) A (subscripted slice false o i) (fun r s₃ => wpAny (model prog w) A (letTemporaryGo value o r >>= fun ζ => pure r) Q E s₃) E s := by
    rw [hs]
    exact wpAny_operating (wpAny_mono h (fun r s₃ h₃ => wpAny_bind (wpAny_letTemporaryGo (wpAny_pure h₃))) fun ζ ζ x => x)
  exact wpAny_pure (wpAny_bind fin)
/-- a step that only makes things -/
theorem Pv.grow {h : Heap} {sl : Sl} {v : Value} (F : Fm c as st ob s) (hs : Same s s') (k : Keep s.heap s'.heap) (t : TKeep h s.heap) (hv : sl.Is s'.heap as v) (kk : K sl ob) : Pv c as st h K v s' :=
  Pv.of (F.grow hs k) hv (t.trans (TKeep.of_keep k)) kk
/-- a step that makes a list -/
theorem Pv.made {h : Heap} {o : Ob} {a : Addr} (F : Fm c as st ob s) (hs : Same s s') (k : Keep s.heap s'.heap) (t : TKeep h s.heap) (ha : s.heap.get? a = none) (ho : o.At c.g s'.heap a) (kk : K (.obj ob.length) (ob ++ [o])) : Pv c as st h K (.ref a) s' :=
  ⟨.obj ob.length, ob ++ [o], [a], F.alloc hs k ha ho, ⟨a, by rw [← F.obs.length]; simp, rfl⟩, t.trans (TKeep.of_keep k), kk⟩
theorem fresh_size (h : Heap) : h.get? h.objs.size = none := new_of_ge (Nat.le_refl _)
theorem listAt {g : Gx} {h : Heap} {a : Addr} {vs : Array Value} {n : Nat} {xs : List PyData} (e : h.get? a = some (listOf vs n)) (d : Ds h vs.toList xs) : (Ob.list xs).At g h a := ⟨vs, n, e, d⟩
/-- a step that changes an object of the ledger -/
theorem Fm.change (F : Fm c as st ob s) {i : Nat} {a : Addr} {o' : Ob} (hs : Same s s') (hi : as[i]? = some a) (hm : c.n₀ ≤ i ∨ i ∈ c.mu) (hx : Heap.SameBut a s.heap s'.heap) (ho : TKeep s.heap s'.heap → o'.At c.g s'.heap a) :
    Fm c as st (ob.set i o') s' ∧ TKeep s.heap s'.heap := by
  have hT : TKeep s.heap s'.heap := F.tkeep (Ext.of_sameBut hx) fun b m => by simp at m; subst m; exact List.mem_of_getElem? hi
  refine ⟨F.step (Y := [a]) hs (Ext.of_sameBut hx) (fun b m => ?_) (Obs.mk (by simp [F.obs.length]) fun j b o h1 h2 => ?_), hT⟩
  · simp at m; subst m; exact ⟨List.mem_of_getElem? hi, F.own i b hi hm⟩
  · by_cases hj : j = i
    · subst hj
      have hl : j < ob.length := by rw [← F.obs.length]; exact (List.getElem?_eq_some_iff.mp hi).1
      rw [hi] at h1; cases h1
      simp [hl] at h2; subst h2
      exact ho hT
    · rw [List.getElem?_set_ne (Ne.symm hj)] at h2
      obtain ⟨o, h3, h4⟩ := F.obs.get h1
      rw [h2] at h3; cases h3
      refine h4.keep hT fun ob e => (hx.2 b fun hb => hj ?_).trans e
      subst hb
      exact (List.getElem?_inj (List.getElem?_eq_some_iff.mp h1).1 F.nd).mp (h1.trans hi.symm)
/-! ### subscripts -/
theorem O2.subTup {xs : List PyData} {k : Int} {x : PyData} {value slice : Expr} {j : Nat} (hlo : -2 ^ 63 ≤ k) (hhi : k < 2 ^ 63) (hj : seqIndex? k xs.length = some j) (hx : xs[j]? = some x) (kk : K (.dat x) ob) :
    O2 c (subscriptTail value slice) (.dat (.tuple xs)) (.dat (.int k)) st ob K := by
  refine ⟨fun as s va vb F ha hb => ?_⟩
  obtain ⟨a, o, vs, n, rfl, ho, hc, hd, d⟩ := D.tuple_inv ha
  obtain ⟨t, rfl⟩ := D.int_inv hb
  obtain ⟨v, hv, dv⟩ := d.get hx
  have hT : IsTup s.heap a vs := ⟨o, ho, hc, n, hd⟩
  have hl : xs.length = vs.size := by have := d.length; simpa using this.symm
  refine subTail hT.typeIs PySem.F.slot_tuple_getitem.lookup (getItem_tuple hT hlo hhi (by rw [← hl]; exact hj) (by simpa using hv) ?_)
  exact Pv.of (sl := .dat x) F dv (TKeep.refl _) kk
theorem O2.subList {i : Nat} {xs : List PyData} {k : Int} {x : PyData} {value slice : Expr} (ho : ob[i]? = some (.list xs)) (h0 : 0 ≤ k) (hhi : k < 2 ^ 63) (hx : xs[k.toNat]? = some x) (kk : K (.dat x) ob) :
    O2 c (subscriptTail value slice) (.obj i) (.dat (.int k)) st ob K := by
  refine ⟨fun as s va vb F ha hb => ?_⟩
  obtain ⟨a, hai, rfl, vs, n, e, d⟩ := F.objAt ho ha
  obtain ⟨t, rfl⟩ := D.int_inv hb
  obtain ⟨v, hv, dv⟩ := d.get hx
  have hl : s.heap.IsList a vs := ⟨_, e, rfl, n, rfl⟩
  refine subTail hl.typeIs PySem.F.slot_list_getitem.lookup (wpAny_getItem_list hl h0 hhi (by simpa using hv) ?_)
  exact Pv.of (sl := .dat x) F dv (TKeep.refl _) kk
theorem O2.subListLast {i : Nat} {xs : List PyData} {x : PyData} {value slice : Expr} (ho : ob[i]? = some (.list xs)) (hx : xs.getLast? = some x) (kk : K (.dat x) ob) :
    O2 c (subscriptTail value slice) (.obj i) (.dat (.int (-1))) st ob K := by
  refine ⟨fun as s va vb F ha hb => ?_⟩
  obtain ⟨a, hai, rfl, vs, n, e, d⟩ := F.objAt ho ha
  obtain ⟨t, rfl⟩ := D.int_inv hb
  have hlen := d.length
  rw [List.getLast?_eq_getElem?] at hx
  obtain ⟨v, hv, dv⟩ := d.get hx
  have hpos : xs.length - 1 < xs.length := (List.getElem?_eq_some_iff.mp hx).1
  have hsz : vs.size = xs.length := by simpa using hlen
  have hl : s.heap.IsList a vs := ⟨_, e, rfl, n, rfl⟩
  refine subTail hl.typeIs PySem.F.slot_list_getitem.lookup (wpAny_getItem_list_neg hl (by decide) (by rw [hsz]; lia) (by decide) (x := v) ?_ ?_)
  · rw [show ((-1 : Int) + (vs.size : Int)).toNat = xs.length - 1 by rw [hsz]; lia]
    simpa using hv
  · exact Pv.of (sl := .dat x) F dv (TKeep.refl _) kk
/-! ### equality and membership -/
theorem O2.eqS {x y : Str} (kk : K (.dat (.bool (decide (x = y)))) ob) : O2 c (compareOp .Eq) (.dat (.str x)) (.dat (.str y)) st ob K := by
  refine ⟨fun as s va vb F ha hb => ?_⟩
  obtain ⟨t, rfl⟩ := D.str_inv ha
  obtain ⟨u, rfl⟩ := D.str_inv hb
  refine eq_str ?_
  rw [show (x == y) = decide (x = y) by cases h : decide (x = y) <;> simp_all]
  exact Pv.of (sl := .dat (.bool _)) F (Reads.bool _) (TKeep.refl _) kk
theorem O2.neS {x y : Str} (kk : K (.dat (.bool (!decide (x = y)))) ob) (hu : Ok c.A 0) (hx : PyData.strOk x = true) (hy : PyData.strOk y = true) : O2 c (compareOp .NotEq) (.dat (.str x)) (.dat (.str y)) st ob K := by
  refine ⟨fun as s va vb F ha hb => ?_⟩
  refine ne_dataH ha hb (by simp [SeqAt.shaped, PyData.canLay0, PyData.depth, hx]) (by simp [SeqAt.shaped, PyData.canLay0, PyData.depth, hy]) (by have := hu.un; lia) ?_
  have : PyData.eqv (.str x) (.str y) = decide (x = y) := by rw [Bool.eq_iff_iff]; simp [PyData.eqv]
  rw [this]
  exact Pv.of (sl := .dat (.bool _)) F (Reads.bool _) (TKeep.refl _) kk
theorem O2.eqI {x y : Int} (kk : K (.dat (.bool (decide (x = y)))) ob) : O2 c (compareOp .Eq) (.dat (.int x)) (.dat (.int y)) st ob K := by
  refine ⟨fun as s va vb F ha hb => ?_⟩
  obtain ⟨t, rfl⟩ := D.int_inv ha
  obtain ⟨u, rfl⟩ := D.int_inv hb
  refine eq_int ?_
  rw [show (x == y) = decide (x = y) by cases h : decide (x = y) <;> simp_all]
  exact Pv.of (sl := .dat (.bool _)) F (Reads.bool _) (TKeep.refl _) kk
/-- data that is told apart by its form: texts, ints, None and tuples -/
noncomputable def okD : PyData → Bool
  | .str x => PyData.strOk x
  | .int _ => true
  | .none => true
  | .tuple xs => okDs xs
  | _ => false
where okDs : List PyData → Bool
  | [] => true
  | x :: xs => okD x && okDs xs
mutual
theorem okD_lay : ∀ (x : PyData), okD x = true → x.canLay0 = true
  | .str x, h => h
  | .int _, _ => rfl
  | .none, _ => rfl
  | .tuple xs, h => okDs_lay xs h
  | .bool _, h => (Bool.false_ne_true h).elim
  | .list _, h => (Bool.false_ne_true h).elim
  | .dict _, h => (Bool.false_ne_true h).elim
theorem okDs_lay : ∀ (xs : List PyData), okD.okDs xs = true → PyData.canLayAll0 xs = true
  | [], _ => rfl
  | x :: xs, h => by
    have h := Bool.and_eq_true_iff.mp h
    exact Bool.and_eq_true_iff.mpr ⟨okD_lay x h.1, okDs_lay xs h.2⟩
end
mutual
theorem okD_eqv : ∀ (x y : PyData), okD x = true → okD y = true → (PyData.eqv x y = true ↔ x = y)
  | .str x, y, _, hy => by
    cases y with
    | str y => rw [PyData.str.injEq]; exact decide_eq_true_iff
    | _ => first | exact (Bool.false_ne_true hy).elim | exact ⟨fun h => (Bool.false_ne_true h).elim, fun h => nomatch h⟩
  | .int x, y, _, hy => by
    cases y with
    | int y => rw [PyData.int.injEq]; exact decide_eq_true_iff
    | _ => first | exact (Bool.false_ne_true hy).elim | exact ⟨fun h => (Bool.false_ne_true h).elim, fun h => nomatch h⟩
  | .none, y, _, hy => by
    cases y with
    | none => exact ⟨fun ζ => rfl, fun ζ => rfl⟩
    | _ => first | exact (Bool.false_ne_true hy).elim | exact ⟨fun h => (Bool.false_ne_true h).elim, fun h => nomatch h⟩
  | .tuple xs, y, hx, hy => by
    cases y with
    | tuple ys => rw [PyData.tuple.injEq]; exact okDs_eqv xs ys hx hy
    | _ => first | exact (Bool.false_ne_true hy).elim | exact ⟨fun h => (Bool.false_ne_true h).elim, fun h => nomatch h⟩
  | .bool _, _, h, _ => (Bool.false_ne_true h).elim
  | .list _, _, h, _ => (Bool.false_ne_true h).elim
  | .dict _, _, h, _ => (Bool.false_ne_true h).elim
theorem okDs_eqv : ∀ (xs ys : List PyData), okD.okDs xs = true → okD.okDs ys = true → (PyData.eqvAll xs ys = true ↔ xs = ys)
  | [], [], _, _ => ⟨fun ζ => rfl, fun ζ => rfl⟩
  | [], _ :: _, _, _ => ⟨fun h => (Bool.false_ne_true h).elim, fun h => nomatch h⟩
  | x :: xs, ys, hx, hy => by
    cases ys with
    | nil => exact ⟨fun h => (Bool.false_ne_true h).elim, fun h => nomatch h⟩
    | cons y ys =>
      have hx := Bool.and_eq_true_iff.mp hx
      have hy := Bool.and_eq_true_iff.mp hy
      rw [List.cons.injEq, ← okD_eqv x y hx.1 hy.1, ← okDs_eqv xs ys hx.2 hy.2]; exact Bool.and_eq_true_iff
end
theorem okD_eqv' [DecidableEq PyData] {x y : PyData} (hx : okD x = true) (hy : okD y = true) : PyData.eqv x y = decide (x = y) := by
  cases h : PyData.eqv x y with
  | true => simp [(okD_eqv x y hx hy).mp h]
  | false =>
    have : x ≠ y := fun e => by rw [(okD_eqv x y hx hy).mpr e] at h; cases h
    simp [this]
theorem okDs_mem {xs : List PyData} (h : okD.okDs xs = true) : ∀ x ∈ xs, okD x = true := by
  induction xs with
  | nil => intro x m; simp at m
  | cons y ys ih =>
    have h := Bool.and_eq_true_iff.mp h
    intro x m
    rcases List.mem_cons.mp m with rfl | m
    · exact h.1
    · exact ih h.2 x m
theorem okDs_of {xs : List PyData} (h : ∀ x ∈ xs, okD x = true) : okD.okDs xs = true := by
  induction xs with
  | nil => rfl
  | cons y ys ih => exact Bool.and_eq_true_iff.mpr ⟨h y (by simp), ih fun x m => h x (by simp [m])⟩
theorem okDs_any [DecidableEq PyData] {xs : List PyData} {d : PyData} (h : okD.okDs xs = true) (hd : okD d = true) : (xs.any fun y => PyData.eqv y d) = decide (d ∈ xs) := by
  induction xs with
  | nil => simp
  | cons y ys ih =>
    have h := Bool.and_eq_true_iff.mp h
    simp only [List.any_cons, ih h.2, okD_eqv' h.1 hd, List.mem_cons]
    by_cases e : d = y
    · subst e; simp
    · have e' : ¬ y = d := fun x => e x.symm
      simp [e, e']
open Classical in
theorem O2.eqD {x y : PyData} (hu : Ok c.A 0) (hx : okD x = true) (hy : okD y = true) (dx : x.depth ≤ 64) (dy : y.depth ≤ 64) (kk : K (.dat (.bool (decide (x = y)))) ob) : O2 c (compareOp .Eq) (.dat x) (.dat y) st ob K := by
  refine ⟨fun as s va vb F ha hb => ?_⟩
  refine eq_dataH ha hb (by simp [SeqAt.shaped, okD_lay x hx, dx]) (by simp [SeqAt.shaped, okD_lay y hy, dy]) (by have := hu.un; lia) ?_
  rw [okD_eqv' hx hy]
  exact Pv.of (sl := .dat (.bool _)) F (Reads.bool _) (TKeep.refl _) kk
open Classical in
theorem O2.neD {x y : PyData} (hu : Ok c.A 0) (hx : okD x = true) (hy : okD y = true) (dx : x.depth ≤ 64) (dy : y.depth ≤ 64) (kk : K (.dat (.bool (!decide (x = y)))) ob) : O2 c (compareOp .NotEq) (.dat x) (.dat y) st ob K := by
  refine ⟨fun as s va vb F ha hb => ?_⟩
  refine ne_dataH ha hb (by simp [SeqAt.shaped, okD_lay x hx, dx]) (by simp [SeqAt.shaped, okD_lay y hy, dy]) (by have := hu.un; lia) ?_
  rw [okD_eqv' hx hy]
  exact Pv.of (sl := .dat (.bool _)) F (Reads.bool _) (TKeep.refl _) kk
theorem readsL {h : Heap} {a : Addr} {vs : Array Value} {n : Nat} {xs : List PyData} (e : h.get? a = some (listOf vs n)) (d : Ds h vs.toList xs) : Reads h (.ref a) (.list xs) [a] := .list e rfl rfl d
theorem depthAll_le {xs : List PyData} {n : Nat} (h : ∀ x ∈ xs, x.depth ≤ n) : PyData.depthAll xs ≤ n := by
  induction xs with
  | nil => simp [PyData.depthAll]
  | cons x xs ih =>
    dsimp only [PyData.depthAll]
    exact Nat.max_le.mpr ⟨h x (by simp), ih fun y m => h y (by simp [m])⟩
theorem shapedL {xs : List PyData} (h : okD.okDs xs = true) (hd : ∀ x ∈ xs, x.depth ≤ 60) : SeqAt.shaped (.list xs) = true := by
  have := depthAll_le hd
  simp only [SeqAt.shaped, PyData.canLay0, okDs_lay xs h, PyData.depth, Bool.true_and]
  exact decide_eq_true (by lia)
open Classical in
theorem O2.eqL {i j : Nat} {xs ys : List PyData} (hi : ob[i]? = some (.list xs)) (hj : ob[j]? = some (.list ys)) (hu : Ok c.A 0) (hx : okD.okDs xs = true) (hy : okD.okDs ys = true) (dx : ∀ x ∈ xs, x.depth ≤ 60) (dy : ∀ x ∈ ys, x.depth ≤ 60)
    (kk : K (.dat (.bool (decide (xs = ys)))) ob) : O2 c (compareOp .Eq) (.obj i) (.obj j) st ob K := by
  refine ⟨fun as s va vb F ha hb => ?_⟩
  obtain ⟨a, _, rfl, vs, n, e, d⟩ := F.objAt hi ha
  obtain ⟨b, _, rfl, ws, m, e', d'⟩ := F.objAt hj hb
  refine eq_dataH (readsL e d) (readsL e' d') (shapedL hx dx) (shapedL hy dy) (by have := hu.un; lia) ?_
  have : PyData.eqv (.list xs) (.list ys) = decide (xs = ys) := by
    have q := okDs_eqv xs ys hx hy
    simp only [PyData.eqv]
    cases h : PyData.eqvAll xs ys with
    | true => simp [q.mp h]
    | false =>
      have : xs ≠ ys := fun e => by rw [q.mpr e] at h; cases h
      simp [this]
  rw [this]
  exact Pv.of (sl := .dat (.bool _)) F (Reads.bool _) (TKeep.refl _) kk
open Classical in
theorem O2.neL {i j : Nat} {xs ys : List PyData} (hi : ob[i]? = some (.list xs)) (hj : ob[j]? = some (.list ys)) (hu : Ok c.A 0) (hx : okD.okDs xs = true) (hy : okD.okDs ys = true) (dx : ∀ x ∈ xs, x.depth ≤ 60) (dy : ∀ x ∈ ys, x.depth ≤ 60)
    (kk : K (.dat (.bool (!decide (xs = ys)))) ob) : O2 c (compareOp .NotEq) (.obj i) (.obj j) st ob K := by
  refine ⟨fun as s va vb F ha hb => ?_⟩
  obtain ⟨a, _, rfl, vs, n, e, d⟩ := F.objAt hi ha
  obtain ⟨b, _, rfl, ws, m, e', d'⟩ := F.objAt hj hb
  refine ne_dataH (readsL e d) (readsL e' d') (shapedL hx dx) (shapedL hy dy) (by have := hu.un; lia) ?_
  have : PyData.eqv (.list xs) (.list ys) = decide (xs = ys) := by
    have q := okDs_eqv xs ys hx hy
    simp only [PyData.eqv]
    cases h : PyData.eqvAll xs ys with
    | true => simp [q.mp h]
    | false =>
      have : xs ≠ ys := fun e => by rw [q.mpr e] at h; cases h
      simp [this]
  rw [this]
  exact Pv.of (sl := .dat (.bool _)) F (Reads.bool _) (TKeep.refl _) kk
open Classical in
theorem O2.inL {i : Nat} {xs : List PyData} {x : PyData} (hi : ob[i]? = some (.list xs)) (hu : Ok c.A 0) (hxs : okD.okDs xs = true) (hx : okD x = true) (dx : x.depth ≤ 64) (kk : K (.dat (.bool (decide (x ∈ xs)))) ob) : O2 c (compareOp .In) (.dat x) (.obj i) st ob K := by
  refine ⟨fun as s va vb F ha hb => ?_⟩
  obtain ⟨a, _, rfl, vs, n, e, d⟩ := F.objAt hi hb
  refine SeqAt.in_list_reads (readsL e d) ha (okDs_lay xs hxs) (okD_lay x hx) (by have := hu.un; have := Nat.min_le_right (PyData.depthAll xs) x.depth; lia) ?_
  rw [okDs_any hxs hx]
  exact Pv.of (sl := .dat (.bool _)) F (Reads.bool _) (TKeep.refl _) kk
open Classical in
theorem O2.niL {i : Nat} {xs : List PyData} {x : PyData} (hi : ob[i]? = some (.list xs)) (hu : Ok c.A 0) (hxs : okD.okDs xs = true) (hx : okD x = true) (dx : x.depth ≤ 64) (kk : K (.dat (.bool (!decide (x ∈ xs)))) ob) : O2 c (compareOp .NotIn) (.dat x) (.obj i) st ob K := by
  refine ⟨fun as s va vb F ha hb => ?_⟩
  obtain ⟨a, _, rfl, vs, n, e, d⟩ := F.objAt hi hb
  refine SeqAt.notIn_list_reads (readsL e d) ha (okDs_lay xs hxs) (okD_lay x hx) (by have := hu.un; have := Nat.min_le_right (PyData.depthAll xs) x.depth; lia) ?_
  rw [okDs_any hxs hx]
  exact Pv.of (sl := .dat (.bool _)) F (Reads.bool _) (TKeep.refl _) kk
open Classical in
theorem O2.inT {xs : List PyData} {x : PyData} (hu : Ok c.A 0) (hxs : okD.okDs xs = true) (hx : okD x = true) (dx : x.depth ≤ 64) (kk : K (.dat (.bool (decide (x ∈ xs)))) ob) : O2 c (compareOp .In) (.dat x) (.dat (.tuple xs)) st ob K := by
  refine ⟨fun as s va vb F ha hb => ?_⟩
  refine SeqAt.in_tuple_reads hb ha (okDs_lay xs hxs) (okD_lay x hx) (by have := hu.un; have := Nat.min_le_right (PyData.depthAll xs) x.depth; lia) ?_
  rw [okDs_any hxs hx]
  exact Pv.of (sl := .dat (.bool _)) F (Reads.bool _) (TKeep.refl _) kk
open Classical in
theorem O2.niT {xs : List PyData} {x : PyData} (hu : Ok c.A 0) (hxs : okD.okDs xs = true) (hx : okD x = true) (dx : x.depth ≤ 64) (kk : K (.dat (.bool (!decide (x ∈ xs)))) ob) : O2 c (compareOp .NotIn) (.dat x) (.dat (.tuple xs)) st ob K := by
  refine ⟨fun as s va vb F ha hb => ?_⟩
  refine SeqAt.notIn_tuple_reads hb ha (okDs_lay xs hxs) (okD_lay x hx) (by have := hu.un; have := Nat.min_le_right (PyData.depthAll xs) x.depth; lia) ?_
  rw [okDs_any hxs hx]
  exact Pv.of (sl := .dat (.bool _)) F (Reads.bool _) (TKeep.refl _) kk
end
end
/-! L7 -/
section
section
variable {c : Cx} {as : List Addr} {st : List (Str × Sl)} {ob : List Ob} {s s' : Shared} {p : Pos} {e l r : Expr} {K : Sl → List Ob → Prop}
theorem all2_one {R : Value → Sl → Prop} {vs : List Value} {a : Sl} (h : All2 R vs [a]) : ∃ v, vs = [v] ∧ R v a := by
  cases h with
  | cons h t => cases t; exact ⟨_, rfl, h⟩
theorem all2_two {R : Value → Sl → Prop} {vs : List Value} {a b : Sl} (h : All2 R vs [a, b]) : ∃ v w, vs = [v, w] ∧ R v a ∧ R w b := by
  cases h with
  | cons h t => obtain ⟨w, rfl, hw⟩ := all2_one t; exact ⟨_, w, rfl, h, hw⟩
theorem all2_three {R : Value → Sl → Prop} {vs : List Value} {a b d : Sl} (h : All2 R vs [a, b, d]) : ∃ u v w, vs = [u, v, w] ∧ R u a ∧ R v b ∧ R w d := by
  cases h with
  | cons h t => obtain ⟨v, w, rfl, hv, hw⟩ := all2_two t; exact ⟨_, v, w, rfl, h, hv, hw⟩
theorem isTup_of {h : Heap} {v : Value} {xs : List PyData} (d : D h v (.tuple xs)) : ∃ a vs, v = .ref a ∧ IsTup h a vs ∧ Ds h vs.toList xs ∧ vs.size = xs.length := by
  obtain ⟨a, o, vs, n, rfl, ho, hc, hd, d⟩ := D.tuple_inv d
  exact ⟨a, vs, rfl, ⟨o, ho, hc, n, hd⟩, d, by have := d.length; simpa using this⟩
theorem On.lenT {xs : List PyData} (hl : xs.length ≤ 1000) (kk : K (.dat (.int xs.length)) ob) : On c (fun vs => call (.builtin "len") vs) [.dat (.tuple xs)] st ob K := by
  refine ⟨fun as s vs h F hv t => ?_⟩
  replace hv := all2_one hv
  obtain ⟨v, rfl, hv⟩ := hv
  obtain ⟨a, vs, rfl, hT, d, hs⟩ := isTup_of hv
  refine len_tuple hT (by rw [hs]; lia) ?_
  rw [hs]
  exact Pv.of (sl := .dat (.int xs.length)) (F.toks _) (Reads.int _ _) t kk
theorem On.lenL {i : Nat} {xs : List PyData} (hi : ob[i]? = some (.list xs)) (hl : xs.length ≤ 1000) (kk : K (.dat (.int xs.length)) ob) : On c (fun vs => call (.builtin "len") vs) [.obj i] st ob K := by
  refine ⟨fun as s vs h F hv t => ?_⟩
  replace hv := all2_one hv
  obtain ⟨v, rfl, hv⟩ := hv
  obtain ⟨a, _, rfl, vs, n, e, d⟩ := F.objAt hi hv
  have hs : vs.size = xs.length := by have := d.length; simpa using this
  refine Calls.call_len_list ⟨_, e, rfl, n, rfl⟩ (by rw [hs]; lia) ?_
  rw [hs]
  exact Pv.of (sl := .dat (.int xs.length)) (F.toks _) (Reads.int _ _) t kk
theorem On.listT {xs : List PyData} (hl : xs.length ≤ 1000) (kk : K (.obj ob.length) (ob ++ [.list xs])) : On c (fun vs => call (.type "list") vs) [.dat (.tuple xs)] st ob K := by
  refine ⟨fun as s vs h F hv t => ?_⟩
  replace hv := all2_one hv
  obtain ⟨v, rfl, hv⟩ := hv
  obtain ⟨a, vs, rfl, ⟨o, ho, hc, n, hd⟩, d, hs⟩ := isTup_of hv
  refine call_list_seq a (.inr rfl) ho hc hd (fun h' c' hk hD => ?_) (by rw [hs]; exact Nat.le_trans hl (by decide))
  exact Pv.made F ⟨h', s.toks, rfl⟩ hk t (fresh_size _) (listAt hD (d.mono (TKeep.of_keep hk))) kk
theorem On.listL {i : Nat} {xs : List PyData} (hi : ob[i]? = some (.list xs)) (hl : xs.length ≤ 1000) (kk : K (.obj ob.length) (ob ++ [.list xs])) : On c (fun vs => call (.type "list") vs) [.obj i] st ob K := by
  refine ⟨fun as s vs h F hv t => ?_⟩
  replace hv := all2_one hv
  obtain ⟨v, rfl, hv⟩ := hv
  obtain ⟨a, _, rfl, vs, n, e, d⟩ := F.objAt hi hv
  have hs : vs.size = xs.length := by have := d.length; simpa using this
  refine call_list_seq a (.inl rfl) e rfl rfl (fun h' c' hk hD => ?_) (by rw [hs]; exact Nat.le_trans hl (by decide))
  exact Pv.made F ⟨h', s.toks, rfl⟩ hk t (fresh_size _) (listAt hD (d.mono (TKeep.of_keep hk))) kk
theorem On.tupleL {i : Nat} {xs : List PyData} (hi : ob[i]? = some (.list xs)) (hl : xs.length ≤ 1000) (kk : K (.dat (.tuple xs)) ob) : On c (fun vs => call (.type "tuple") vs) [.obj i] st ob K := by
  refine ⟨fun as s vs h F hv t => ?_⟩
  replace hv := all2_one hv
  obtain ⟨v, rfl, hv⟩ := hv
  obtain ⟨a, _, rfl, vs, n, e, d⟩ := F.objAt hi hv
  have hs : vs.size = xs.length := by have := d.length; simpa using this
  refine call_tuple_list ⟨_, e, rfl, n, rfl⟩ (fun h' hk => ?_) (by rw [hs]; exact Nat.le_trans hl (by decide))
  have hk2 : Keep s.heap (h'.push { cls := .type "tuple", data := .seq vs }) := fun b o e => Heap.get?_push_of_some _ (hk b o e)
  exact Pv.grow (sl := .dat (.tuple xs)) F ⟨_, s.toks, rfl⟩ hk2 t (D.mkTuple (vs := vs.toList) (by simpa using Heap.get?_push_size h' rfl) (d.mono (TKeep.of_keep hk2))) kk
/-! ### changes of a list -/
theorem On.append {i : Nat} {xs : List PyData} {x : PyData} (hi : ob[i]? = some (.list xs)) (hm : c.n₀ ≤ i ∨ i ∈ c.mu) (hl : xs.length ≤ 1000) (kk : K (.dat .none) (ob.set i (.list (xs ++ [x])))) :
    On c (fun vs => call (.builtin "list.append") vs) [.obj i, .dat x] st ob K := by
  refine ⟨fun as s vs h F hv t => ?_⟩
  replace hv := all2_two hv
  obtain ⟨v, w, rfl, hv, hw⟩ := hv
  obtain ⟨a, ha, rfl, vs, n, e, d⟩ := F.objAt hi hv
  have hs : vs.size = xs.length := by have := d.length; simpa using this
  refine call_meets PySem.F.slot_list_append ⟨_, e, rfl⟩ PySem.F.entry_list_append (PySem.F.args_list_append_2 _ _) (PySem.list_append a vs n w (by rw [hs]; exact Nat.le_trans hl (by decide))) ⟨e, ?_⟩
  obtain ⟨F', t'⟩ := F.change (s' := { s with heap := s.heap.update a (Obj.mapSeq fun y => y.push w), toks := s.toks }) (o' := .list (xs ++ [x])) ⟨_, s.toks, rfl⟩ ha hm (Heap.SameBut.update ..) fun tt =>
    ⟨_, _, IsL.update e _, by simpa using (d.mono tt).append (.one (D.mono hw tt))⟩
  exact Pv.of (sl := .dat .none) F' Reads.none (t.trans t') kk
theorem On.pop {i : Nat} {xs : List PyData} {x : PyData} (hi : ob[i]? = some (.list (xs ++ [x]))) (hm : c.n₀ ≤ i ∨ i ∈ c.mu) (hl : xs.length ≤ 1000) (kk : K (.dat x) (ob.set i (.list xs))) :
    On c (fun vs => call (.builtin "list.pop") vs) [.obj i] st ob K := by
  refine ⟨fun as s vs h F hv t => ?_⟩
  replace hv := all2_one hv
  obtain ⟨v, rfl, hv⟩ := hv
  obtain ⟨a, ha, rfl, vs, n, e, d⟩ := F.objAt hi hv
  have hlen := d.length
  have hs : vs.size = xs.length + 1 := by simpa using hlen
  obtain ⟨y, hy, dy⟩ := d.get (i := xs.length) (x := x) (by simp)
  refine call_meets PySem.F.slot_list_pop ⟨_, e, rfl⟩ PySem.F.entry_list_pop (PySem.F.args_list_pop_1 _) (MeetsSeq.list_pop_last a vs n y (by rw [hs]; simpa using hy) (by rw [hs]; have : sizeLine = 2 ^ 24 := rfl; lia)) ⟨e, ?_⟩
  obtain ⟨F', t'⟩ := F.change (s' := { s with heap := s.heap.update a (Obj.mapSeq fun ys => ys.eraseIdxIfInBounds (vs.size - 1)), toks := s.toks }) (o' := .list xs) ⟨_, s.toks, rfl⟩ ha hm (Heap.SameBut.update ..) fun tt => by
    refine ⟨_, _, IsL.update e _, ?_⟩
    have : (vs.eraseIdxIfInBounds (vs.size - 1)).toList = vs.toList.take xs.length := by
      rw [Array.eraseIdxIfInBounds_eq, dif_pos (by lia)]
      rw [Array.toList_eraseIdx, hs, Nat.add_sub_cancel]
      rw [List.eraseIdx_eq_take_drop_succ]
      simp [hs]
    rw [this]
    simpa using (d.mono tt).take xs.length
  exact Pv.of (sl := .dat x) F' (D.mono dy t') (t.trans t') kk
theorem On.extendL {i j : Nat} {xs ys : List PyData} (hi : ob[i]? = some (.list xs)) (hj : ob[j]? = some (.list ys)) (hm : c.n₀ ≤ i ∨ i ∈ c.mu) (hl : xs.length + ys.length ≤ 1000) (kk : K (.dat .none) (ob.set i (.list (xs ++ ys)))) :
    On c (fun vs => call (.builtin "list.extend") vs) [.obj i, .obj j] st ob K := by
  refine ⟨fun as s vs h F hv t => ?_⟩
  replace hv := all2_two hv
  obtain ⟨v, w, rfl, hv, hw⟩ := hv
  obtain ⟨a, ha, rfl, vs, n, e, d⟩ := F.objAt hi hv
  obtain ⟨b, hb, rfl, ws, m, e', d'⟩ := F.objAt hj hw
  have hs : vs.size = xs.length := by have := d.length; simpa using this
  have hs' : ws.size = ys.length := by have := d'.length; simpa using this
  refine call_meets PySem.F.slot_list_extend ⟨_, e, rfl⟩ PySem.F.entry_list_extend (PySem.F.args_list_extend_2 _ _) (AutoSeq1.list_extend_list_list_0 a vs n b ws m ?_ (by rw [hs]; have : sizeLine = 2 ^ 24 := rfl; lia) (by rw [hs, hs']; have : sizeLine = 2 ^ 24 := rfl; lia)) ⟨e, e', ?_⟩
  · have : Builtin.List.listTooLong (vs.size + ws.size) = false := by
      rw [hs, hs']; simp [Builtin.List.listTooLong, sizeLine]; lia
    rw [this]; simp
  obtain ⟨F', t'⟩ := F.change (s' := { s with heap := s.heap.update a (Obj.mapSeq fun y => y ++ ws), toks := s.toks }) (o' := .list (xs ++ ys)) ⟨_, s.toks, rfl⟩ ha hm (Heap.SameBut.update ..) fun tt =>
    ⟨_, _, IsL.update e _, by simpa using (d.mono tt).append (d'.mono tt)⟩
  exact Pv.of (sl := .dat .none) F' Reads.none (t.trans t') kk
/-! ### sums -/
theorem O2.addS {x y : Str} (hl : x.length + y.length ≤ sizeLine) (kk : K (.dat (.str (x ++ y))) ob) : O2 c (binaryOp .Add) (.dat (.str x)) (.dat (.str y)) st ob K := by
  refine ⟨fun as s va vb F ha hb => ?_⟩
  obtain ⟨t, rfl⟩ := D.str_inv ha
  obtain ⟨u, rfl⟩ := D.str_inv hb
  exact add_str (fun t' tk => Pv.of (sl := .dat (.str (x ++ y))) (F.toks tk) (Reads.str _ _) (TKeep.refl _) kk) hl
theorem O2.addI {x y : Int} (kk : K (.dat (.int (x + y))) ob) : O2 c (binaryOp .Add) (.dat (.int x)) (.dat (.int y)) st ob K := by
  refine ⟨fun as s va vb F ha hb => ?_⟩
  obtain ⟨t, rfl⟩ := D.int_inv ha
  obtain ⟨u, rfl⟩ := D.int_inv hb
  exact add_int (Pv.of (sl := .dat (.int (x + y))) (F.toks _) (Reads.int _ _) (TKeep.refl _) kk)
theorem O2.mulI {x y : Int} (hm : IntMulOk x y) (kk : K (.dat (.int (x * y))) ob) : O2 c (binaryOp .Mult) (.dat (.int x)) (.dat (.int y)) st ob K := by
  refine ⟨fun as s va vb F ha hb => ?_⟩
  obtain ⟨t, rfl⟩ := D.int_inv ha
  obtain ⟨u, rfl⟩ := D.int_inv hb
  exact mul_int (Pv.of (sl := .dat (.int (x * y))) (F.toks _) (Reads.int _ _) (TKeep.refl _) kk) hm
theorem O2.divI {x y : Int} (hy : y ≠ 0) (hp : Builtin.divisionGoesByPylong x y = false) (kk : K (.dat (.int (Int.fdiv x y))) ob) : O2 c (binaryOp .FloorDiv) (.dat (.int x)) (.dat (.int y)) st ob K := by
  refine ⟨fun as s va vb F ha hb => ?_⟩
  obtain ⟨t, rfl⟩ := D.int_inv ha
  obtain ⟨u, rfl⟩ := D.int_inv hb
  exact floordiv_int hy (Pv.of (sl := .dat (.int (Int.fdiv x y))) (F.toks _) (Reads.int _ _) (TKeep.refl _) kk) (.inl hp)
theorem O2.modI {x y : Int} (hy : y ≠ 0) (kk : K (.dat (.int (Int.fmod x y))) ob) : O2 c (binaryOp .Mod) (.dat (.int x)) (.dat (.int y)) st ob K := by
  refine ⟨fun as s va vb F ha hb => ?_⟩
  obtain ⟨t, rfl⟩ := D.int_inv ha
  obtain ⟨u, rfl⟩ := D.int_inv hb
  exact mod_int' hy (Pv.of (sl := .dat (.int (Int.fmod x y))) (F.toks _) (Reads.int _ _) (TKeep.refl _) kk)
theorem O2.addL {i j : Nat} {xs ys : List PyData} (hi : ob[i]? = some (.list xs)) (hj : ob[j]? = some (.list ys)) (hl : xs.length + ys.length ≤ 1000) (kk : K (.obj ob.length) (ob ++ [.list (xs ++ ys)])) :
    O2 c (binaryOp .Add) (.obj i) (.obj j) st ob K := by
  refine ⟨fun as s va vb F ha hb => ?_⟩
  obtain ⟨a, _, rfl, vs, n, e, d⟩ := F.objAt hi ha
  obtain ⟨b, _, rfl, ws, m, e', d'⟩ := F.objAt hj hb
  have hs : vs.size = xs.length := by have := d.length; simpa using this
  have hs' : ws.size = ys.length := by have := d'.length; simpa using this
  refine P.add_list e e' ?_ (by rw [hs, hs']; have : sizeLine = 2 ^ 24 := rfl; lia)
  have kp := keep_push s.heap { cls := .type "list", data := .seq (vs ++ ws) }
  exact Pv.made F ⟨_, s.toks, rfl⟩ kp (TKeep.refl _) (fresh_size _) (listAt (Heap.get?_push_size _ rfl) (by simpa using (d.append d').mono (TKeep.of_keep kp))) kk
theorem O2.addT {xs ys : List PyData} (hl : xs.length + ys.length ≤ 1000) (kk : K (.dat (.tuple (xs ++ ys))) ob) : O2 c (binaryOp .Add) (.dat (.tuple xs)) (.dat (.tuple ys)) st ob K := by
  refine ⟨fun as s va vb F ha hb => ?_⟩
  obtain ⟨a, o, vs, n, rfl, ho, hc, hd, d⟩ := D.tuple_inv ha
  obtain ⟨b, o2, ws, m, rfl, ho2, hc2, hd2, d'⟩ := D.tuple_inv hb
  have hs : vs.size = xs.length := by have := d.length; simpa using this
  have hs' : ws.size = ys.length := by have := d'.length; simpa using this
  obtain ⟨cls, dd, data, sl⟩ := o
  obtain ⟨cls2, dd2, data2, sl2⟩ := o2
  simp only at hc hd hc2 hd2
  subst hc hd hc2 hd2
  by_cases hv : vs.isEmpty = true
  · have hx : xs = [] := by
      have : vs.size = 0 := by simpa using hv
      exact List.length_eq_zero_iff.mp (by lia)
    refine concat_meets ⟨_, ho, rfl⟩ ⟨_, ho2, rfl⟩ noFill_tuple_add seq_tuple_add PySem.F.slot_tuple_add PySem.F.entry_tuple_add (PySem.F.args_tuple_add_2 _ _)
      (tuple_addW0 a b vs ws n m dd dd2 sl sl2 hv) ⟨ho, ho2, ?_⟩
    exact Pv.of (sl := .dat (.tuple (xs ++ ys))) F (by subst hx; exact hb) (TKeep.refl _) kk
  · by_cases hw : ws.isEmpty = true
    · have hx : ys = [] := by
        have : ws.size = 0 := by simpa using hw
        exact List.length_eq_zero_iff.mp (by lia)
      refine concat_meets ⟨_, ho, rfl⟩ ⟨_, ho2, rfl⟩ noFill_tuple_add seq_tuple_add PySem.F.slot_tuple_add PySem.F.entry_tuple_add (PySem.F.args_tuple_add_2 _ _)
        (tuple_addW1 a b vs ws n m dd dd2 sl sl2 hv hw) ⟨ho, ho2, ?_⟩
      exact Pv.of (sl := .dat (.tuple (xs ++ ys))) F (by subst hx; simpa using ha) (TKeep.refl _) kk
    · refine concat_meets ⟨_, ho, rfl⟩ ⟨_, ho2, rfl⟩ noFill_tuple_add seq_tuple_add PySem.F.slot_tuple_add PySem.F.entry_tuple_add (PySem.F.args_tuple_add_2 _ _)
        (tuple_addW2 a b vs ws n m dd dd2 sl sl2 hv hw (by rw [hs, hs']; have : sizeLine = 2 ^ 24 := rfl; lia)) ⟨ho, ho2, ?_⟩
      have kp := keep_push s.heap { cls := .type "tuple", data := .seq (vs ++ ws) }
      exact Pv.grow (sl := .dat (.tuple (xs ++ ys))) F ⟨_, s.toks, rfl⟩ kp (TKeep.refl _) (D.mkTuple (vs := vs.toList ++ ws.toList) (by have := Heap.get?_push_size s.heap (o := { cls := .type "tuple", data := .seq (vs ++ ws) }) rfl; rw [this]; simp) ((d.append d').mono (TKeep.of_keep kp))) kk
end
end
/-! S1 -/
section
/-! ## the sort's questions, answered by keys -/
noncomputable def goT {α : Type} (lt : Nat → Nat → Bool) : KasT α → α
  | .ret a => a
  | .ask i j k => goT lt (k (lt i j))
theorem goT_bind {α β : Type} (lt : Nat → Nat → Bool) (f : α → KasT β) : ∀ t : KasT α, goT lt (t.bind f) = goT lt (f (goT lt t))
  | .ret _ => rfl
  | .ask i j k => goT_bind lt f (k (lt i j))
section
variable {O : KeyOrd} (key : Nat → O.α)
noncomputable def kv (p : Array Nat) (i : Nat) : O.α := key (p.getD i 0)
noncomputable abbrev ltK (i j : Nat) : Bool := O.blt (key i) (key j)
noncomputable def Srt (p : Array Nat) (k : Nat) : Prop := ∀ i j, i ≤ j → j < k → O.kle (kv key p i) (kv key p j)
noncomputable def Non (p : Array Nat) (k : Nat) : Prop := ∀ i j, i ≤ j → j < k → O.kle (kv key p j) (kv key p i)
variable {key}
theorem getD_eq (p : Array Nat) (i : Nat) : p.getD i 0 = (p[i]?).getD 0 := by
  rw [Array.getD_eq_getD_getElem?]
theorem kv_rev {p : Array Nat} {i j : Nat} (hj : j ≤ p.size) (k : Nat) : kv key (kas_rev p i j) k = if i ≤ k ∧ k < j then kv key p (i + j - 1 - k) else kv key p k := by
  ((try dsimp only [kv]) <;> simp only [kas_rev, getD_eq])
  rw [getElem?_mirror_all hj]
  split <;> rfl
theorem kv_bubble {p : Array Nat} {src d : Nat} (hs : src < p.size) (hd : d ≤ src) (k : Nat) :
    kv key (bubble p src d) k = if k = src - d then kv key p src else if src - d < k ∧ k ≤ src then kv key p (k - 1) else kv key p k := by
  ((try dsimp only [kv]) <;> simp only [getD_eq])
  rw [getElem?_bubble hs d hd]
  split
  · rfl
  · split <;> rfl
theorem kv_rev_same {p : Array Nat} {i j : Nat} (hj : j ≤ p.size) (he : ∀ k, i ≤ k → k < j → kv key p k = kv key p (j - 1)) (k : Nat) : kv key (kas_rev p i j) k = kv key p k := by
  rw [kv_rev hj]
  split
  · rw [he _ (by lia) (by lia), he k (by lia) (by lia)]
  · rfl
theorem rev_perm (p : Array Nat) (i j : Nat) : (kas_rev p i j).Perm p := mirror_perm _ _ _ _
theorem rev_size (p : Array Nat) (i j : Nat) : (kas_rev p i j).size = p.size := kas_rev_size i j
theorem Srt.snoc {p : Array Nat} {x : Nat} (hs : Srt key p x) (h : x = 0 ∨ O.kle (kv key p (x - 1)) (kv key p x)) : Srt key p (x + 1) := by
  intro i j hij hj
  by_cases hjx : j < x
  · exact hs i j hij hjx
  · obtain rfl : j = x := by lia
    by_cases hi : i = j
    · subst hi; exact KeyOrd.kle_refl _
    · rcases h with h | h
      · lia
      · exact KeyOrd.kle_trans (hs i (j - 1) (by lia) (by lia)) h
theorem Non.snoc {p : Array Nat} {x : Nat} (hs : Non key p x) (h : x = 0 ∨ O.kle (kv key p x) (kv key p (x - 1))) : Non key p (x + 1) := by
  intro i j hij hj
  by_cases hjx : j < x
  · exact hs i j hij hjx
  · obtain rfl : j = x := by lia
    by_cases hi : i = j
    · subst hi; exact KeyOrd.kle_refl _
    · rcases h with h | h
      · lia
      · exact KeyOrd.kle_trans h (hs i (j - 1) (by lia) (by lia))
theorem asc_go (p : Array Nat) : ∀ (f n : Nat), 1 ≤ n → Srt key p n → ∃ m, goT (ltK key) (kas_asc p f n) = m ∧ n ≤ m ∧ m ≤ n + f ∧ Srt key p m ∧ (m = n + f ∨ O.klt (kv key p m) (kv key p (m - 1)))
  | 0, n, h1, hs => ⟨n, rfl, Nat.le_refl _, Nat.le_refl _, hs, .inl rfl⟩
  | f + 1, n, h1, hs => by
    dsimp only [kas_asc, goT]
    cases hc : ltK key (p.getD n 0) (p.getD (n - 1) 0) with
    | true => exact ⟨n, rfl, Nat.le_refl _, by lia, hs, .inr hc⟩
    | false =>
      obtain ⟨m, e, a, b, cc, d⟩ := asc_go p f (n + 1) (by lia) (hs.snoc (.inr hc))
      exact ⟨m, e, by lia, by lia, cc, d.imp (fun e => by lia) id⟩
theorem desc_go : ∀ (f : Nat) (p : Array Nat) (n q : Nat), 1 ≤ n → n + f ≤ p.size → Non key p n → q + 1 ≤ n → (∀ i, n - (q + 1) ≤ i → i < n → kv key p i = kv key p (n - 1)) →
    ∃ r, goT (ltK key) (kas_desc f p n q) = r ∧ r.1.Perm p ∧ n ≤ r.2.1 ∧ r.2.1 ≤ n + f ∧ Non key r.1 r.2.1 ∧ r.2.2 + 1 ≤ r.2.1 ∧ (∀ i, r.2.1 - (r.2.2 + 1) ≤ i → i < r.2.1 → kv key r.1 i = kv key r.1 (r.2.1 - 1))
  | 0, p, n, q, h1, hz, hs, hq, he => ⟨_, rfl, Array.Perm.refl _, Nat.le_refl _, Nat.le_refl _, hs, hq, he⟩
  | f + 1, p, n, q, h1, hz, hs, hq, he => by
    dsimp only [kas_desc, goT]
    cases hc : ltK key (p.getD n 0) (p.getD (n - 1) 0) with
    | true =>
      rw [if_pos rfl]
      have hN : Non key p (n + 1) := hs.snoc (.inr (KeyOrd.kle_of_klt hc))
      by_cases hq0 : q > 0
      · rw [if_pos hq0]
        have hsame := kv_rev_same (key := key) (p := p) (i := n - (q + 1)) (j := n) (by lia) he
        obtain ⟨r, e, a, b, c', d, g, k⟩ := desc_go f (kas_rev p (n - (q + 1)) n) (n + 1) 0 (by lia) (by rw [rev_size]; lia)
          (fun i j hij hj => by rw [hsame, hsame]; exact hN i j hij hj) (by lia) (fun i h2 h3 => by congr 1; lia)
        exact ⟨r, e, a.trans (rev_perm _ _ _), by lia, by lia, d, g, k⟩
      · rw [if_neg hq0]
        obtain ⟨r, e, a, b, c', d, g, k⟩ := desc_go f p (n + 1) 0 (by lia) (by lia) hN (by lia) (fun i h2 h3 => by congr 1; lia)
        exact ⟨r, e, a, by lia, by lia, d, g, k⟩
    | false =>
      rw [if_neg (by simp)]; dsimp only [goT]
      cases hd : ltK key (p.getD (n - 1) 0) (p.getD n 0) with
      | true => exact ⟨(p, n, q), rfl, Array.Perm.refl _, Nat.le_refl _, by show n ≤ n + (f + 1); lia, hs, hq, he⟩
      | false =>
        rw [if_neg (by simp)]
        have heq : kv key p n = kv key p (n - 1) := KeyOrd.kle_antisymm hd hc
        obtain ⟨r, e, a, b, c', d, g, k⟩ := desc_go f p (n + 1) (q + 1) (by lia) (by lia) (hs.snoc (.inr (by rw [heq]; exact KeyOrd.kle_refl _))) (by lia) (fun i h2 h3 => by
          rw [Nat.add_sub_cancel]
          by_cases hi : i = n
          · subst hi; rfl
          · rw [heq]; exact he i (by lia) (by lia))
        exact ⟨r, e, a, by lia, by lia, d, g, k⟩
theorem tail3_go {n nrem : Nat} {p : Array Nat} (h1 : 1 ≤ n) (hn : n ≤ nrem) (hz : nrem ≤ p.size) (hs : Non key p n) :
    ∃ r, goT (ltK key) (kas_tail3 n nrem p) = r ∧ 1 ≤ r.1 ∧ r.1 ≤ nrem ∧ r.2.Perm p ∧ Srt key r.2 r.1 := by
  unfold kas_tail3
  rw [goT_bind]
  have hS : Srt key (kas_rev p 0 n) n := by
    intro i j hij hj
    rw [kv_rev (by lia), kv_rev (by lia), if_pos (by lia), if_pos (by lia)]
    exact hs _ _ (by lia) (by lia)
  obtain ⟨m, e, a, b, c', d⟩ := asc_go (key := key) (kas_rev p 0 n) (nrem - n) n h1 hS
  rw [e]
  exact ⟨_, rfl, by show 1 ≤ m; lia, by show m ≤ nrem; lia, rev_perm _ _ _, c'⟩
theorem descPart_go {n nrem : Nat} {p : Array Nat} (hn : n + 1 ≤ nrem) (hz : nrem ≤ p.size) (hs : Non key p (n + 1)) :
    ∃ r, goT (ltK key) (kas_descPart n nrem p) = r ∧ 1 ≤ r.1 ∧ r.1 ≤ nrem ∧ r.2.Perm p ∧ Srt key r.2 r.1 := by
  unfold kas_descPart
  rw [goT_bind]
  obtain ⟨r, e, a, b, c', d, g, k⟩ := desc_go (key := key) (nrem - (n + 1)) p (n + 1) 0 (by lia) (by lia) hs (by lia) (fun i h2 h3 => by congr 1; lia)
  rw [e]
  have hsz : r.1.size = p.size := a.size_eq
  by_cases hq : r.2.2 > 0
  · rw [if_pos hq]
    have hsame := kv_rev_same (key := key) (p := r.1) (i := r.2.1 - (r.2.2 + 1)) (j := r.2.1) (by lia) k
    obtain ⟨t, e', h1, h2, h3, h4⟩ := tail3_go (key := key) (n := r.2.1) (nrem := nrem) (p := kas_rev r.1 (r.2.1 - (r.2.2 + 1)) r.2.1) (by lia) (by lia) (by rw [rev_size]; lia) (fun i j hij hj => by rw [hsame, hsame]; exact d i j hij hj)
    exact ⟨t, e', h1, h2, (h3.trans (rev_perm _ _ _)).trans a, h4⟩
  · rw [if_neg hq]
    obtain ⟨t, e', h1, h2, h3, h4⟩ := tail3_go (key := key) (n := r.2.1) (nrem := nrem) (p := r.1) (by lia) (by lia) (by lia) d
    exact ⟨t, e', h1, h2, h3.trans a, h4⟩
theorem count_go {nrem : Nat} {p : Array Nat} (h1 : 1 ≤ nrem) (hz : nrem ≤ p.size) : ∃ r, goT (ltK key) (kas_count nrem p) = r ∧ 1 ≤ r.1 ∧ r.1 ≤ nrem ∧ r.2.Perm p ∧ Srt key r.2 r.1 := by
  unfold kas_count
  rw [goT_bind]
  obtain ⟨n, e, a, b, hs, hor⟩ := asc_go (key := key) p (nrem - 1) 1 (Nat.le_refl _) (fun i j hij hj => by
    obtain rfl : i = j := by lia
    exact KeyOrd.kle_refl _)
  rw [e]
  by_cases hn : n = nrem
  · rw [if_pos (by simpa using hn)]
    exact ⟨_, rfl, by show 1 ≤ n; lia, by show n ≤ nrem; lia, Array.Perm.refl _, hs⟩
  · rw [if_neg (by simpa using hn)]
    have hlt : O.klt (kv key p n) (kv key p (n - 1)) := hor.resolve_left (by lia)
    by_cases hg : n > 1
    · rw [if_pos hg]; dsimp only [goT]
      cases hc : ltK key (p.getD 0 0) (p.getD (n - 1) 0) with
      | true => exact ⟨_, rfl, by show 1 ≤ n; lia, by show n ≤ nrem; lia, Array.Perm.refl _, hs⟩
      | false =>
        rw [if_neg (by simp)]
        have hall : ∀ k, 0 ≤ k → k < n → kv key p k = kv key p (n - 1) := fun k ζ hk => KeyOrd.kle_antisymm (hs k (n - 1) (by lia) (by lia)) (KeyOrd.kle_trans hc (hs 0 k (by lia) hk))
        have hsame := kv_rev_same (key := key) (p := p) (i := 0) (j := n) (by lia) hall
        obtain ⟨t, e', h2, h3, h4, h5⟩ := descPart_go (key := key) (n := n) (nrem := nrem) (p := kas_rev p 0 n) (by lia) (by rw [rev_size]; lia) (fun i j hij hj => by
          rw [hsame, hsame]
          by_cases hjn : j < n
          · rw [hall i (by lia) (by lia), hall j (by lia) hjn]; exact KeyOrd.kle_refl _
          · obtain rfl : j = n := by lia
            by_cases hi : i = j
            · subst hi; exact KeyOrd.kle_refl _
            · rw [hall i (by lia) (by lia)]; exact KeyOrd.kle_of_klt hlt)
        exact ⟨t, e', h2, h3, h4.trans (rev_perm _ _ _), h5⟩
    · rw [if_neg hg]
      obtain rfl : n = 1 := by lia
      refine descPart_go (key := key) (by lia) hz fun i j hij hj => ?_
      by_cases hi : i = j
      · subst hi; exact KeyOrd.kle_refl _
      · obtain rfl : i = 0 := by lia
        obtain rfl : j = 1 := by lia
        exact KeyOrd.kle_of_klt hlt
theorem place_go (p : Array Nat) (k : Nat) (hs : Srt key p k) : ∀ (f l r : Nat), l ≤ r → r ≤ k → r - l ≤ f → (∀ i, i < l → O.kle (kv key p i) (kv key p k)) → (∀ i, r ≤ i → i < k → O.klt (kv key p k) (kv key p i)) →
    ∃ m, goT (ltK key) (kas_place p k f l r) = m ∧ m ≤ k ∧ (∀ i, i < m → O.kle (kv key p i) (kv key p k)) ∧ (∀ i, m ≤ i → i < k → O.klt (kv key p k) (kv key p i))
  | 0, l, r, h1, h2, h3, h4, h5 => by
    obtain rfl : l = r := by lia
    exact ⟨l, rfl, h2, h4, h5⟩
  | f + 1, l, r, h1, h2, h3, h4, h5 => by
    rw [kas_place]
    by_cases hge : l ≥ r
    · rw [if_pos hge]
      obtain rfl : l = r := by lia
      exact ⟨l, rfl, h2, h4, h5⟩
    · rw [if_neg hge]; dsimp only [goT]
      have h6 : l ≤ (l + r) / 2 := by clear h3 h4 h5 h2; lia
      have h7 : (l + r) / 2 < r := by clear h3 h4 h5 h2; lia
      generalize (l + r) / 2 = m at h6 h7 ⊢
      cases hc : ltK key (p.getD k 0) (p.getD m 0) with
      | true =>
        rw [if_pos rfl]
        exact place_go p k hs f l m h6 (by lia) (by lia) h4 fun i a b => KeyOrd.klt_of_klt_of_kle hc (hs _ _ a b)
      | false =>
        rw [if_neg (by simp)]
        exact place_go p k hs f (m + 1) r h7 h2 (by lia) (fun i a => KeyOrd.kle_trans (hs i m (by lia) (by lia)) hc) h5
theorem bin_go : ∀ (f : Nat) (p : Array Nat) (k : Nat), k + f ≤ p.size → Srt key p k → ∃ r, goT (ltK key) (kas_bin f p k) = r ∧ r.Perm p ∧ Srt key r (k + f)
  | 0, p, k, _, hs => ⟨p, rfl, Array.Perm.refl _, hs⟩
  | f + 1, p, k, hz, hs => by
    dsimp only [kas_bin]; rw [goT_bind]
    obtain ⟨l, e, hl, hlo, hhi⟩ := place_go p k hs k 0 k (Nat.zero_le _) (Nat.le_refl _) (by lia) (fun i h => by lia) (fun i a b => by lia)
    rw [e]
    obtain ⟨r, e', a, b⟩ := bin_go f (bubble p k (k - l)) (k + 1) (by rw [(bubble_perm _ _ _).size_eq]; lia) (by
      intro i j hij hj
      rw [kv_bubble (by lia) (by lia), kv_bubble (by lia) (by lia), show k - (k - l) = l by lia]
      repeat' split
      all_goals first
        | (exfalso; lia)
        | exact KeyOrd.kle_refl _
        | exact hlo _ (by lia)
        | exact KeyOrd.kle_of_klt (hhi _ (by lia) (by lia))
        | exact hs _ _ (by lia) (by lia))
    exact ⟨r, e', a.trans (bubble_perm _ _ _), by rwa [show k + (f + 1) = k + 1 + f by lia]⟩
theorem sort_go {n : Nat} (h1 : 1 ≤ n) : ∃ r, goT (ltK key) (kas_sort n) = r ∧ r.Perm (List.toArray (List.range n)) ∧ Srt key r n := by
  unfold kas_sort
  rw [goT_bind]
  obtain ⟨r, e, a, b, c', d⟩ := count_go (key := key) (p := List.toArray (List.range n)) h1 (by simp)
  rw [e]
  by_cases hlt : r.1 < n
  · rw [if_pos hlt]
    have hsz : r.2.size = n := by rw [c'.size_eq]; simp
    obtain ⟨t, e', h2, h3⟩ := bin_go (key := key) (n - max r.1 1) r.2 (max r.1 1) (by lia) (by rwa [show max r.1 1 = r.1 by lia])
    exact ⟨t, e', h2.trans c', by rwa [show max r.1 1 + (n - max r.1 1) = n by lia] at h3⟩
  · rw [if_neg hlt]
    obtain hn : r.1 = n := by lia
    exact ⟨_, rfl, c', by rw [← hn]; exact d⟩
end
end
/-! S1b -/
section
/-! ## the sort's questions are asked of items that are there -/
noncomputable def InR {α : Type} (n : Nat) (P : α → Prop) : KasT α → Prop
  | .ret a => P a
  | .ask i j k => i < n ∧ j < n ∧ ∀ b, InR n P (k b)
theorem InR.bind {α β : Type} {n : Nat} {P : α → Prop} {R : β → Prop} {f : α → KasT β} (hf : ∀ a, P a → InR n R (f a)) : ∀ {t : KasT α}, InR n P t → InR n R (t.bind f)
  | .ret a, h => hf a h
  | .ask _ _ _, h => ⟨h.1, h.2.1, fun b => InR.bind hf (h.2.2 b)⟩
noncomputable def Bd (n : Nat) (p : Array Nat) : Prop := 0 < n ∧ ∀ x ∈ p, x < n
theorem Bd.perm {n : Nat} {p q : Array Nat} (h : Bd n p) (e : q.Perm p) : Bd n q := ⟨h.1, fun x m => h.2 x (e.mem_iff.mp m)⟩
theorem Bd.get {n : Nat} {p : Array Nat} (h : Bd n p) (i : Nat) : p.getD i 0 < n := by
  rw [getD_eq]
  cases q : p[i]? with
  | none => exact h.1
  | some x => exact h.2 x (Array.mem_of_getElem? q)
section
variable {n : Nat}
theorem asc_in {p : Array Nat} (h : Bd n p) : ∀ (f k : Nat), InR n (fun ζ => True) (kas_asc p f k)
  | 0, _ => trivial
  | f + 1, k => ⟨h.get _, h.get _, fun b => by
    cases b with
    | true => exact trivial
    | false => exact asc_in h f (k + 1)⟩
theorem desc_in : ∀ (f : Nat) (p : Array Nat) (k q : Nat), Bd n p → InR n (fun r => Bd n r.1) (kas_desc f p k q)
  | 0, p, _, _, h => h
  | f + 1, p, k, q, h => by
    refine ⟨h.get _, h.get _, fun b => ?_⟩
    cases b with
    | true =>
      show InR n _ (if q > 0 then _ else _)
      split
      · exact desc_in f _ _ _ (h.perm (rev_perm _ _ _))
      · exact desc_in f _ _ _ h
    | false =>
      refine ⟨h.get _, h.get _, fun b => ?_⟩
      cases b with
      | true => exact h
      | false => exact desc_in f _ _ _ h
theorem tail3_in {p : Array Nat} (h : Bd n p) (a b : Nat) : InR n (fun r => Bd n r.2) (kas_tail3 a b p) := by
  unfold kas_tail3
  refine InR.bind (P := fun ζ => True) (fun m ζ => ?_) (asc_in (h.perm (rev_perm _ _ _)) _ _)
  exact h.perm (rev_perm p 0 a)
theorem descPart_in {p : Array Nat} (h : Bd n p) (a b : Nat) : InR n (fun r => Bd n r.2) (kas_descPart a b p) := by
  unfold kas_descPart
  refine InR.bind (fun r hr => ?_) (desc_in _ _ _ _ h)
  split
  · exact tail3_in (hr.perm (rev_perm _ _ _)) _ _
  · exact tail3_in hr _ _
theorem count_in {p : Array Nat} (h : Bd n p) (b : Nat) : InR n (fun r => Bd n r.2) (kas_count b p) := by
  unfold kas_count
  refine InR.bind (fun m ζ => ?_) (asc_in h _ _)
  split
  · exact h
  · split
    · refine ⟨h.get _, h.get _, fun c => ?_⟩
      cases c with
      | true => exact h
      | false => exact descPart_in (h.perm (rev_perm _ _ _)) _ _
    · exact descPart_in h _ _
theorem place_in {p : Array Nat} (h : Bd n p) (k : Nat) : ∀ (f l r : Nat), InR n (fun ζ => True) (kas_place p k f l r)
  | 0, _, _ => trivial
  | f + 1, l, r => by
    rw [kas_place]
    split
    · trivial
    · refine ⟨h.get _, h.get _, fun c => ?_⟩
      cases c with
      | true => exact place_in h k f _ _
      | false => exact place_in h k f _ _
theorem bin_in : ∀ (f : Nat) (p : Array Nat) (k : Nat), Bd n p → InR n (fun ζ => True) (kas_bin f p k)
  | 0, _, _, _ => trivial
  | f + 1, p, k, h => by
    dsimp only [kas_bin]
    exact InR.bind (fun l ζ => bin_in f _ _ (h.perm (bubble_perm _ _ _))) (place_in h k _ _ _)
theorem sort_in (h : 0 < n) : InR n (fun ζ => True) (kas_sort n) := by
  unfold kas_sort
  refine InR.bind (fun r hr => ?_) (count_in (p := List.toArray (List.range n)) ⟨h, fun x m => by simpa using m⟩ _)
  split
  · exact bin_in _ _ _ hr
  · trivial
end
end
/-! S2 -/
section
/-! ## ledgers of all that stands -/
noncomputable def allBut (h : Heap) (X : List Addr) : List (Addr × Obj) := (List.range h.objs.size).filterMap fun a => if a ∈ X then none else (h.get? a).map fun o => (a, o)
theorem mem_allBut {h : Heap} {X : List Addr} {a : Addr} {o : Obj} : (a, o) ∈ allBut h X ↔ a ∉ X ∧ h.get? a = some o := by
  unfold allBut
  rw [List.mem_filterMap]
  constructor
  · rintro ⟨b, _, hb⟩
    split at hb
    · cases hb
    · rename_i hx
      obtain ⟨o', ho, e⟩ := Option.map_eq_some_iff.mp hb
      cases e
      exact ⟨hx, ho⟩
  · rintro ⟨hx, ho⟩
    exact ⟨a, List.mem_range.mpr (Heap.lt_size ho), by rw [if_neg hx, ho]; rfl⟩
theorem fr0 {h : Heap} {L : Addr} {m : Str → Option Value} (n : h.Ns L m) : Fr {} L h m := ⟨n, fun b o e => by simp [Heap.get?] at e, Nat.zero_le _⟩
theorem none0 (a : Addr) : ({} : Heap).get? a = none := by simp [Heap.get?]
theorem news0 {h : Heap} {L : Addr} {X : List Addr} : News {} L h (allBut h (L :: X)) := fun p hp => by
  obtain ⟨a, o⟩ := p
  obtain ⟨h1, h2⟩ := mem_allBut.mp hp
  exact ⟨h2, fun e => h1 (by simp at e; simp [e]), none0 _⟩
section
variable {c : Cx} {as : List Addr} {st : List (Str × Sl)} {ob : List Ob} {s s' : Shared} {p : Pos} {e l r : Expr} {K : Sl → List Ob → Prop}
/-- all but the frame's own dict stands, and that says what it said -/
theorem Fm.growL (F : Fm c as st ob s) {m : Str → Option Value} (hsm : Same s s') (hk : ∀ b o, s.heap.get? b = some o → b ≠ c.env.locals → s'.heap.get? b = some o) (hm : s.heap.Ns c.env.locals m) (hn : s'.heap.Ns c.env.locals m) :
    Fm c as st ob s' ∧ TKeep s.heap s'.heap := by
  have hT : TKeep s.heap s'.heap := fun b o e f => hk b o e (by rintro rfl; exact ns_not_fixed hm e f)
  have kc : ∀ y a, c.env.cells.lookup y = some a → a ≠ c.env.locals := fun y a e e' => by
    obtain ⟨v', hv'⟩ := F.cis y a e
    exact ns_not_cell hm (e' ▸ hv')
  refine ⟨{ same := F.same.trans hsm, base := fun b o e => ?_, ext := fun b o e n => ?_, xin := F.xin, nd := F.nd, own := F.own, afr := F.afr, hbn := F.hbn, obs := Obs.mk F.obs.length fun i a o h1 h2 => ?_, ns := ⟨_, hn⟩, lap := F.lap, lhb := F.lhb, lfr := F.lfr, cis := ?_, cap := F.cap, cfr := F.cfr, chb := F.chb, vars := ?_, kind := F.kind, par := F.par, npl := F.npl, prk := fun p m => hk _ _ (F.prk p m) (F.prl p m), pra := F.pra, prl := F.prl, prc := F.prc }, hT⟩
  · exact hk b o (F.base b o e) (by rintro rfl; rw [F.lhb] at e; cases e)
  · exact hk b o (F.ext b o e n) (by rintro rfl; rw [F.lfr] at e; cases e)
  · obtain ⟨o', h3, h4⟩ := F.obs.get h1
    rw [h2] at h3; cases h3
    exact h4.keep hT fun ob e => hk _ _ e fun hb => F.lap (hb ▸ List.mem_of_getElem? h1)
  · intro y a e
    obtain ⟨v', o, h1, r⟩ := F.cis y a e
    exact ⟨v', o, hk _ _ h1 (kc y a e), r⟩
  · intro y sl' e
    obtain ⟨v', h1, h2⟩ := F.vars y sl' e
    refine ⟨v', ?_, by simpa using h2.up hT []⟩
    rcases h1 with ⟨k, m', hm', e'⟩ | ⟨k, a, e1, o, ho, d⟩
    · exact .inl ⟨k, m, hn, by rw [← Heap.Ns.agree hm' hm, e']⟩
    · exact .inr ⟨k, a, e1, o, hk _ _ ho (kc y a e1), d⟩
theorem Ok.in2 {A : Around} {n : Nat} (h : Ok A (n + 1)) : Ok A.in1.in1 n := by
  refine ⟨h.hd, h.gd, ?_, ?_⟩
  · have := h.dp; show A.depth + n < _; lia
  · have := h.un; show A.units + 1 + 1 + 8 * n + 200 < _; lia
set_option genInjectivity false in
/-- how keys are told apart: the sort's kind and its comparisons -/
structure KeyCmp (g : Gx) (A : Around) (ks : List PyData) (O : KeyOrd) (ko : PyData → O.α) where
  kind : SortKind
  asks : ∀ (s : Shared) (vs : List Value) (Q : SortKind → Shared → Prop), Ds s.heap vs ks → Q kind s → wpAny g.M A (keyKind' vs.toArray) Q (fun ζ ζ => False) s
  less : ∀ (s : Shared) (x y : PyData) (u v : Value) (Q : Bool → Shared → Prop), x ∈ ks → y ∈ ks → D s.heap u x → D s.heap v y → (∀ tk, Q (O.blt (ko x) (ko y)) { s with toks := tk }) → wpAny g.M A (keyLt' kind u v) Q (fun ζ ζ => False) s
theorem goT_wp {g : Gx} {A : Around} {ks : List PyData} {O : KeyOrd} {ko : PyData → O.α} (C : KeyCmp g A ks O ko) {vs : List Value} {α : Type} {G : α → Shared → Prop} {P : α → Prop} :
    ∀ (t : KasT α) (s : Shared), InR ks.length P t → Ds s.heap vs ks → (∀ tk, G (goT (ltK (O := O) fun i => ko (ks.getD i .none)) t) { s with toks := tk }) → t.kasWp (kas_ask g.prog g.w A C.kind vs) G s
  | .ret a, s, _, _, h => h s.toks
  | .ask i j k, s, hi, d, h => by
    have gx : ∀ q, q < ks.length → ∃ v, vs.getD q Value.none = v ∧ D s.heap v (ks.getD q .none) ∧ ks.getD q .none ∈ ks := fun q hq => by
      have e : ks[q]? = some (ks.getD q .none) := by simp [List.getD_eq_getElem?_getD, hq]
      obtain ⟨v, hv, dv⟩ := d.get e
      refine ⟨v, by simp [List.getD_eq_getElem?_getD, hv], dv, List.mem_of_getElem? e⟩
    obtain ⟨u, hu, du, mu⟩ := gx i hi.1
    obtain ⟨v, hv, dv, mv⟩ := gx j hi.2.1
    show wpAny (model g.prog g.w) A (keyLt' C.kind (vs.getD i Value.none) (vs.getD j Value.none)) _ _ s
    rw [hu, hv]
    refine C.less s _ _ u v _ mu mv du dv fun tk => ?_
    exact goT_wp C (k _) { s with toks := tk } (hi.2.2 _) d fun tk' => h tk'
theorem ds_map_getD {h : Heap} {vs : List Value} {xs : List PyData} (d : Ds h vs xs) : ∀ p : List Nat, (∀ i ∈ p, i < xs.length) → Ds h (p.map fun i => vs.getD i Value.none) (p.map fun i => xs.getD i .none)
  | [], _ => .nil
  | i :: p, hp => by
    have hi := hp i (by simp)
    have e : xs[i]? = some (xs.getD i .none) := by simp [List.getD_eq_getElem?_getD, hi]
    obtain ⟨v, hv, dv⟩ := d.get e
    refine Ds.cons_iff.mpr ⟨?_, ds_map_getD d p fun j hj => hp j (by simp [hj])⟩
    have : vs.getD i Value.none = v := by simp [List.getD_eq_getElem?_getD, hv]
    show D h (vs.getD i Value.none) (xs.getD i .none)
    rw [this]; exact dv
/-- the state while the keys are taken -/
structure SrtSt (g : Gx) (h0 : Heap) (L : Addr) (m : Str → Option Value) (kS D : Addr) (e1 : Nat) (ks : List Value) (kd : List PyData) (e : Nat) (h : Heap) : Prop where
  ns : h.Ns L m
  ko : h.get? kS = some (seqObj "list" (List.toArray ks) e)
  kL : kS ≠ L
  dO : h.get? D = some (seqObj "list" #[] e1)
  dL : D ≠ L
  dk : D ≠ kS
  st : ∀ b o, h0.get? b = some o → b ≠ L → h.get? b = some o
  ds : Ds h ks kd
theorem tkeep_st {h0 h : Heap} {L : Addr} {m : Str → Option Value} (n : h0.Ns L m) (st : ∀ b o, h0.get? b = some o → b ≠ L → h.get? b = some o) : TKeep h0 h := fun b o e f => st b o e (by rintro rfl; exact ns_not_fixed n e f)
theorem keys_go {g : Gx} {A : Around} {n : Nat} {f : Value} {key : PyData → PyData} {xs : List PyData} {s : Shared} {L : Addr} {m : Str → Option Value} {kS D : Addr} {e1 : Nat} {Fin : List Value → Nat → Shared → Prop}
    (hA : Ok A n) (hhb : ∀ b o, g.hb.get? b = some o → s.heap.get? b = some o) (hL : g.hb.get? L = none) (hn : s.heap.Ns L m) (hkd : s.heap.get? kS = none ∧ s.heap.get? D = none)
    (hkey : ∀ x ∈ xs, Call g f [.dat x] [] [] n (fun r ζ => r = .dat (key x))) :
    ∀ (r : List Value) (xr : List PyData) (ks : List Value) (kd : List PyData) (e : Nat) (s' : Shared), Ds s.heap r xr → (∀ x ∈ xr, x ∈ xs) → Same s s' → SrtSt g s.heap L m kS D e1 ks kd e s'.heap →
      (∀ ks' e' s', Same s s' → SrtSt g s.heap L m kS D e1 ks' (kd ++ xr.map key) e' s'.heap → Fin ks' e' s') → KatKeys g.prog g.w A {} L m kS f Fin r ks e s'
  | [], xr, ks, kd, e, s', d, hx, hs, S, k => by
    obtain rfl := Ds.nil_iff'.mp d
    exact k ks e s' hs (by simpa using S)
  | v :: r, [], ks, kd, e, s', d, hx, hs, S, k => absurd (Ds.nil_iff.mp d) (by simp)
  | v :: r, x :: xr, ks, kd, e, s', d, hx, hs, S, k => by
    obtain ⟨dv, dr⟩ := Ds.cons_iff.mp d
    have tk0 := tkeep_st hn S.st
    have hkeep : Keep g.hb s'.heap := fun b o q => S.st b o (hhb b o q) (by rintro rfl; rw [hL] at q; cases q)
    refine KatKeys.cons (wpAny_mono (hkey x (hx x (by simp)) A [] s' [v] hA hkeep (by simp) (by simp) .nil (.cons (dv.mono tk0) .nil)) ?_ fun ζ ζ x => x)
    rintro kv s2 ⟨r', ob', hsame, hext, _, hr, rfl⟩
    have K2 : Keep s'.heap s2.heap := hext.keep
    have dkv : Mine.D s2.heap kv (key x) := hr
    have hk2 := K2 _ _ S.ko
    refine KatBack.intro (news := (kS, seqObj "list" (List.toArray ks) e) :: allBut s2.heap [L, kS]) (fr0 (Heap.Ns.at' S.ns fun o q => K2 _ _ q)) ?_ (.head ?_) ?_
    · intro p hp
      rcases List.mem_cons.mp hp with rfl | hp
      · exact ⟨hk2, S.kL, none0 _⟩
      · obtain ⟨a, o⟩ := p
        obtain ⟨h1, h2⟩ := mem_allBut.mp hp
        exact ⟨h2, fun e => h1 (by simp at e; simp [e]), none0 _⟩
    · rintro ⟨a, o⟩ hp rfl
      exact (mem_allBut.mp hp).1 (by simp)
    intro h' c' F' N'
    have st2 : ∀ b o, s2.heap.get? b = some o → b ≠ L → b ≠ kS → h'.get? b = some o := fun b o q n1 n2 => (N' (b, o) (List.mem_cons_of_mem _ (mem_allBut.mpr ⟨by simp [n1, n2], q⟩))).1
    have hns2 : s2.heap.Ns L m := Heap.Ns.at' S.ns fun o q => K2 _ _ q
    have tk2 : TKeep s2.heap h' := fun b o q fx => by
      refine st2 b o q (by rintro rfl; exact ns_not_fixed hns2 q fx) ?_
      rintro rfl
      rw [hk2] at q; cases q
      exact not_fixed (t := "list") rfl (by decide) (by intro c; cases c) fx
    refine keys_go (e1 := e1) hA hhb hL hn hkd hkey r xr (ks ++ [kv]) (kd ++ [key x]) c' { s2 with heap := h' } dr (fun y hy => hx y (by simp [hy])) (hs.trans (hsame.trans ⟨h', s2.toks, rfl⟩)) ?_ ?_
    · exact { ns := F'.ns, ko := (N' _ (List.mem_cons_self)).1, kL := S.kL, dO := st2 _ _ (K2 _ _ S.dO) S.dL S.dk, dL := S.dL, dk := S.dk,
              st := fun b o q nb => st2 b o (K2 _ _ (S.st b o q nb)) nb (by rintro rfl; rw [hkd.1] at q; cases q),
              ds := (((S.ds.mono (TKeep.of_keep K2)).append (.one dkv)).mono tk2) }
    · intro ks' e' s3 hs3 S3
      exact k ks' e' s3 hs3 (by simpa [List.append_assoc] using S3)
theorem sort_tail {xs : List PyData} {f : Value} {n : Nat} {key : PyData → PyData} {O : KeyOrd} {ko : PyData → O.α} {vs : Array Value} {h : Heap} {m : Str → Option Value} (h2 : 2 ≤ xs.length) (h64 : xs.length < 64) (hA : Ok c.A (n + 1))
    (hkey : ∀ x ∈ xs, Call c.g f [.dat x] [] [] n (fun r ζ => r = .dat (key x))) (C : KeyCmp c.g c.A.in1.in1 (xs.map key) O ko)
    (k : ∀ ys : List PyData, ys.Perm xs → ys.Pairwise (fun a b => O.kle (ko (key a)) (ko (key b))) → K (.obj ob.length) (ob ++ [.list ys]))
    (F : Fm c as st ob s) (hm : s.heap.Ns c.env.locals m) (d : Ds s.heap vs.toList xs) (t : TKeep h s.heap) :
    ∀ D kS e1 h', Fr {} c.env.locals h' m → News {} c.env.locals h' ((kS, seqObj "list" #[] 0) :: (D, seqObj "list" #[] e1) :: allBut s.heap [c.env.locals]) → D < kS → (∀ q ∈ allBut s.heap [c.env.locals], q.1 < D) →
      KatKeys c.g.prog c.g.w c.A.in1.in1 {} c.env.locals m kS f (fun ks e s' => wpAny (model c.g.prog c.g.w) c.A.in1.in1 (keyKind' (List.toArray ks)) (fun κ s'' => (kas_sort vs.toList.length).kasWp (kas_ask c.g.prog c.g.w c.A.in1.in1 κ (katRev false ks)) (fun p s3 => KatFin {} c.env.locals m kS D ks e e1 (katRev false (p.toList.map fun i => (katRev false vs.toList).getD i Value.none)) (fun s4 => Pv c as st h K (.ref D) s4) s3) s'') (fun ζ ζ => False) s') vs.toList [] 0 { s with heap := h' } := by
  have hlen : vs.toList.length = xs.length := d.length
  intro Da kS e1 h' F' N' l0 l1
  have nk := N' (kS, seqObj "list" #[] 0) (by simp)
  have nd := N' (Da, seqObj "list" #[] e1) (by simp)
  have old : ∀ q, (q = Da ∨ q = kS) → q ≠ c.env.locals → s.heap.get? q = none := fun q hq hqL => by
    cases hh : s.heap.get? q with
    | none => rfl
    | some o =>
      have := l1 (q, o) (mem_allBut.mpr ⟨by simpa using hqL, hh⟩)
      rcases hq with rfl | rfl
      · exact absurd this (Nat.lt_irrefl _)
      · exact absurd (Nat.lt_trans l0 this) (Nat.lt_irrefl _)
  have hDn := old Da (.inl rfl) nd.2.1
  have hkn := old kS (.inr rfl) nk.2.1
  have S0 : SrtSt c.g s.heap c.env.locals m kS Da e1 [] [] 0 h' := { ns := F'.ns, ko := nk.1, kL := nk.2.1, dO := nd.1, dL := nd.2.1, dk := Nat.ne_of_lt l0, st := fun b o q nb => (N' (b, o) (by simp [mem_allBut, nb, q])).1, ds := .nil }
  refine keys_go (g := c.g) (xs := xs) (s := s) hA.in2 F.base F.lhb hm ⟨hkn, hDn⟩ hkey vs.toList xs [] [] 0 _ d (fun x hx => hx) ⟨h', s.toks, rfl⟩ S0 ?_
  intro ks e' s2 hs2 S2
  rw [List.nil_append] at S2
  refine C.asks s2 ks _ S2.ds ?_
  rw [hlen]
  have hkl : (xs.map key).length = xs.length := by simp
  obtain ⟨pr, hpr, hperm, hsrt⟩ := sort_go (O := O) (key := fun i => ko ((xs.map key).getD i .none)) (n := xs.length) (by lia)
  refine goT_wp (vs := katRev false ks) (P := fun ζ => True) C _ _ (by rw [hkl]; exact sort_in (by lia)) S2.ds fun tk => ?_
  rw [hpr]
  have hDa2 := S2.dO
  refine KatFin.intro (news := (kS, seqObj "list" (List.toArray ks) e') :: allBut s2.heap [c.env.locals, kS]) (fr0 S2.ns) ?_ (.head ?_) ?_
  · intro p hp
    rcases List.mem_cons.mp hp with rfl | hp
    · exact ⟨S2.ko, S2.kL, none0 _⟩
    · obtain ⟨a, o⟩ := p
      obtain ⟨h1, h2⟩ := mem_allBut.mp hp
      exact ⟨h2, fun e => h1 (by simp at e; simp [e]), none0 _⟩
  · rintro ⟨a, o⟩ hp rfl
    exact (mem_allBut.mp hp).1 (by simp)
  intro h3 c3 F3 N3
  have st3 : ∀ b o, s2.heap.get? b = some o → b ≠ c.env.locals → b ≠ kS → h3.get? b = some o := fun b o q n1 n2 => (N3 (b, o) (List.mem_cons_of_mem _ (mem_allBut.mpr ⟨by simp [n1, n2], q⟩))).1
  refine KasFin.intro (news := (Da, seqObj "list" #[] e1) :: allBut h3 [c.env.locals, Da]) (fr0 F3.ns) ?_ (.head ?_) ?_
  · intro p hp
    rcases List.mem_cons.mp hp with rfl | hp
    · exact ⟨st3 _ _ S2.dO S2.dL S2.dk, S2.dL, none0 _⟩
    · obtain ⟨a, o⟩ := p
      obtain ⟨h1, h2⟩ := mem_allBut.mp hp
      exact ⟨h2, fun e => h1 (by simp at e; simp [e]), none0 _⟩
  · rintro ⟨a, o⟩ hp rfl
    exact (mem_allBut.mp hp).1 (by simp)
  intro h4 c4 F4 N4
  have st4 : ∀ b o, s.heap.get? b = some o → b ≠ c.env.locals → h4.get? b = some o := fun b o q nb => by
    refine (N4 (b, o) (List.mem_cons_of_mem _ (mem_allBut.mpr ⟨?_, st3 b o (S2.st b o q nb) nb ?_⟩))).1
    · simp only [List.mem_cons, List.not_mem_nil, or_false, not_or]
      exact ⟨nb, by rintro rfl; rw [hDn] at q; cases q⟩
    · rintro rfl; rw [hkn] at q; cases q
  obtain ⟨F5, t5⟩ := F.growL (s' := { s2 with heap := h4, toks := tk }) (hs2.trans ⟨h4, tk, rfl⟩) st4 hm F4.ns
  have hperm' : pr.toList.Perm (List.range xs.length) := by simpa using hperm.toList
  have hlt : ∀ i ∈ pr.toList, i < xs.length := fun i hi => by simpa using hperm'.mem_iff.mp hi
  have hD4 : h4.get? Da = some (PySem.W.listOf (List.toArray (pr.toList.map fun i => vs.toList.getD i Value.none)) c4) := (N4 _ List.mem_cons_self).1
  have hout : (Ob.list (pr.toList.map fun i => xs.getD i .none)).At c.g h4 Da := ⟨_, _, hD4, by simpa using ds_map_getD (d.mono t5) pr.toList hlt⟩
  have hna : Da ∉ as := fun q => F.alive q hDn
  have hnb : c.g.hb.get? Da = none := by
    cases q : c.g.hb.get? Da with
    | none => rfl
    | some o' => rw [F.base _ _ q] at hDn; cases hDn
  have hP : (pr.toList.map fun i => xs.getD i .none).Perm xs := by
    have e1 : (List.range xs.length).map (fun i => xs.getD i .none) = xs := by
      refine List.ext_getElem (by simp) fun i h1 h2 => ?_
      simp [List.getD_eq_getElem?_getD, h2]
    have := hperm'.map fun i => xs.getD i PyData.none
    rwa [e1] at this
  refine ⟨_, _, [Da], F5.join (F.old hDn) hna hnb S2.dL (fun p m q => by have := F.prk p m; rw [q, hDn] at this; cases this) hout, (show Sl.Is _ _ _ (.obj ob.length) from ⟨Da, by rw [← F.obs.length]; simp, rfl⟩), t.trans t5, k _ hP ?_⟩
  rw [List.pairwise_iff_getElem]
  intro p q hp hq hpq
  simp only [List.length_map, Array.length_toList] at hp hq
  have hsz : pr.size = xs.length := by rw [hperm.size_eq]; simp
  have := hsrt p q (by lia) (by lia)
  have kve : ∀ z (hz : z < pr.size), kv (O := O) (fun i => ko ((xs.map key).getD i .none)) pr z = ko (key (xs.getD pr[z] .none)) := fun z hz => by
    have h1 := hlt pr[z] (by simp)
    ((try dsimp only [kv]) <;> simp [getD_eq, hz, List.getD_eq_getElem?_getD, h1])
  rw [kve p hp, kve q hq] at this
  simpa using this
/-- sorted, with a key -/
theorem On.sortK {i : Nat} {xs : List PyData} {f : Value} {n : Nat} {key : PyData → PyData} {O : KeyOrd} {ko : PyData → O.α} (hi : ob[i]? = some (.list xs)) (h2 : 2 ≤ xs.length) (h64 : xs.length < 64) (hA : Ok c.A (n + 1))
    (ht : ∀ x, Builtin.«list.sort» ⟨[.ref x], [(Str.ofString "key", f)]⟩ = ksk_tree x f false)
    (hkey : ∀ x ∈ xs, Call c.g f [.dat x] [] [] n (fun r ζ => r = .dat (key x))) (C : KeyCmp c.g c.A.in1.in1 (xs.map key) O ko)
    (k : ∀ ys : List PyData, ys.Perm xs → ys.Pairwise (fun a b => O.kle (ko (key a)) (ko (key b))) → K (.obj ob.length) (ob ++ [.list ys])) :
    On c (fun vs => call (.builtin "sorted") vs [(Str.ofString "key", f)]) [.obj i] st ob K := by
  refine ⟨fun as s vs h F hv t => ?_⟩
  replace hv := all2_one hv
  obtain ⟨v, rfl, hv⟩ := hv
  obtain ⟨a, ha, rfl, vs, n', e, d⟩ := F.objAt hi hv
  obtain ⟨m, hm⟩ := F.ns
  have hlen : vs.toList.length = xs.length := d.length
  have hl : s.heap.IsList a vs.toList.toArray := ⟨_, e, rfl, n', by simp [PySem.W.listOf]⟩
  have hLs : s.heap.get? c.env.locals ≠ none := by
    obtain ⟨o, _, _, ho, _⟩ := hm
    rw [ho]; simp
  refine kat_sortedK (h₀ := {}) (L := c.env.locals) (m := m) (news := allBut s.heap [c.env.locals]) (b := false) (fr0 hm) (news0 (X := [])) hl (by rw [hlen]; exact h2) (by rw [hlen]; exact h64) (ksk_s1 _ _) (fun x => ksk_l1 _ _) ht (sort_tail h2 h64 hA hkey C k F hm d t)
end
end
/-! S3 -/
section
/-! ## orders of keys -/
noncomputable def lexO (A B : KeyOrd) : KeyOrd where
  α := A.α × B.α
  blt x y := A.blt x.1 y.1 || (!A.blt y.1 x.1 && B.blt x.2 y.2)
  irrefl a := by simp [A.irrefl, B.irrefl]
  trans a b c h1 h2 := by
    simp only [Bool.or_eq_true, Bool.and_eq_true, Bool.not_eq_true'] at h1 h2 ⊢
    rcases h1 with h1 | ⟨h1, h1'⟩
    · rcases h2 with h2 | ⟨h2, h2'⟩
      · exact .inl (A.trans _ _ _ h1 h2)
      · rcases A.negTrans _ c.1 _ h1 with h | h
        · exact .inl h
        · rw [h] at h2; cases h2
    · rcases h2 with h2 | ⟨h2, h2'⟩
      · rcases A.negTrans _ a.1 _ h2 with h | h
        · rw [h] at h1; cases h1
        · exact .inl h
      · refine .inr ⟨?_, B.trans _ _ _ h1' h2'⟩
        cases hc : A.blt c.1 a.1 with
        | false => rfl
        | true => rcases A.negTrans _ b.1 _ hc with h | h
                  · rw [h] at h2; cases h2
                  · rw [h] at h1; cases h1
  negTrans a b c h := by
    simp only [Bool.or_eq_true, Bool.and_eq_true, Bool.not_eq_true'] at h ⊢
    cases h1 : A.blt a.1 b.1 with
    | true => exact .inl (.inl rfl)
    | false =>
      cases h2 : A.blt b.1 c.1 with
      | true => exact .inr (.inl rfl)
      | false =>
        rcases h with h | ⟨h, h'⟩
        · rcases A.negTrans _ b.1 _ h with q | q
          · rw [q] at h1; cases h1
          · rw [q] at h2; cases h2
        · have q1 : A.blt b.1 a.1 = false := by
            cases q : A.blt b.1 a.1 with
            | false => rfl
            | true => rcases A.negTrans _ c.1 _ q with r | r
                      · rw [r] at h2; cases h2
                      · rw [r] at h; cases h
          have q2 : A.blt c.1 b.1 = false := by
            cases q : A.blt c.1 b.1 with
            | false => rfl
            | true => rcases A.negTrans _ a.1 _ q with r | r
                      · rw [r] at h; cases h
                      · rw [r] at h1; cases h1
          rcases B.negTrans _ b.2 _ h' with r | r
          · exact .inl (.inr ⟨q1, r⟩)
          · exact .inr (.inr ⟨q2, r⟩)
  total a b h1 h2 := by
    simp only [Bool.or_eq_false_iff, Bool.and_eq_false_iff, Bool.not_eq_false'] at h1 h2
    have e1 := A.total _ _ h1.1 h2.1
    have e2 : B.blt a.2 b.2 = false := by
      rcases h1.2 with q | q
      · rw [h2.1] at q; cases q
      · exact q
    have e3 : B.blt b.2 a.2 = false := by
      rcases h2.2 with q | q
      · rw [h1.1] at q; cases q
      · exact q
    exact Prod.ext e1 (B.total _ _ e2 e3)
noncomputable abbrev strO : KeyOrd := PyProof.Rows.strKind.toKeyOrd
noncomputable abbrev triO : KeyOrd := lexO strO (lexO strO strO)
noncomputable def cpsOf : PyData → List Nat
  | .str x => x.cps.toList
  | _ => []
noncomputable def triOf : PyData → List Nat × List Nat × List Nat
  | .tuple [a, b, c] => (cpsOf a, cpsOf b, cpsOf c)
  | _ => ([], [], [])
theorem looks_str {M : Model} {h : Heap} (x : Str) (t : Tok) : Looks M h (typeOf (.str x t)) (.type "str") := .now
noncomputable def keyStr (g : Gx) (A : Around) (ks : List PyData) (h2 : 2 ≤ ks.length) (hk : ∀ x ∈ ks, ∃ y, x = .str y) : KeyCmp g A ks strO cpsOf where
  kind := oneType'
  asks s vs Q d k := by
    refine kas_kind (T := .type "str") (by rw [d.length]; exact h2) (fun v hv => ?_) rfl rfl k
    obtain ⟨i, hi⟩ := List.getElem?_of_mem hv
    obtain ⟨x, hx, dx⟩ := d.get' hi
    obtain ⟨y, rfl⟩ := hk x (List.mem_of_getElem? hx)
    obtain ⟨t, rfl⟩ := D.str_inv dx
    exact looks_str _ _
  less s x y u v Q hx hy du dv k := by
    obtain ⟨a, rfl⟩ := hk x hx
    obtain ⟨b, rfl⟩ := hk y hy
    obtain ⟨t, rfl⟩ := D.str_inv du
    obtain ⟨t', rfl⟩ := D.str_inv dv
    exact kas_lt_str (k s.toks)
theorem ds_three {h : Heap} {vs : Array Value} {a b c : Str} (d : Ds h vs.toList [.str a, .str b, .str c]) : ∃ t u v, vs = #[.str a t, .str b u, .str c v] := by
  obtain ⟨l⟩ := vs
  obtain ⟨x, y, z, rfl⟩ := lenThree (vs := l) (by simpa using d.length)
  · skip
    obtain ⟨d1, d⟩ := Ds.cons_iff.mp d
    obtain ⟨d2, d⟩ := Ds.cons_iff.mp d
    obtain ⟨d3, d⟩ := Ds.cons_iff.mp d
    obtain ⟨t, rfl⟩ := D.str_inv d1
    obtain ⟨u, rfl⟩ := D.str_inv d2
    obtain ⟨v, rfl⟩ := D.str_inv d3
    exact ⟨t, u, v, rfl⟩
theorem katTups_of {h : Heap} : ∀ {vs : List Value} {ks : List PyData}, Ds h vs ks → (∀ x ∈ ks, ∃ a b c, x = .tuple [.str a, .str b, .str c]) → ∃ fs, KatTups h vs fs ∧ fs.length = vs.length ∧ ∀ v ∈ fs, ∃ x t, v = .str x t
  | [], ks, _, _ => ⟨[], .nil, rfl, by simp⟩
  | v :: vs, [], d, _ => absurd (Ds.nil_iff.mp d) (by simp)
  | v :: vs, x :: ks, d, hk => by
    obtain ⟨d1, d2⟩ := Ds.cons_iff.mp d
    obtain ⟨fs, h1, h2, h3⟩ := katTups_of d2 fun y hy => hk y (by simp [hy])
    obtain ⟨a, b, c, rfl⟩ := hk x (by simp)
    obtain ⟨ad, o, ws, n, rfl, ho, hc, hd, dd⟩ := D.tuple_inv d1
    obtain ⟨t, u, v, rfl⟩ := ds_three dd
    refine ⟨.str a t :: fs, .cons ho hc hd rfl h1, by simp [h2], ?_⟩
    intro v hv
    rcases List.mem_cons.mp hv with rfl | hv
    · exact ⟨_, _, rfl⟩
    · exact h3 v hv
noncomputable def keyTri (g : Gx) (A : Around) (ks : List PyData) (h2 : 2 ≤ ks.length) (hk : ∀ x ∈ ks, ∃ a b c, x = .tuple [.str a, .str b, .str c]) : KeyCmp g A ks triO triOf where
  kind := tuples' true
  asks s vs Q d k := by
    obtain ⟨fs, h1, h3, h4⟩ := katTups_of d hk
    have hl := d.length
    refine kat_kind (fs := fs) (T := .type "str") h1 (by lia) (fun v hv => ?_) rfl k
    obtain ⟨x, t, rfl⟩ := h4 v hv
    exact looks_str _ _
  less s x y u v Q hx hy du dv k := by
    obtain ⟨a, b, c, rfl⟩ := hk x hx
    obtain ⟨a', b', c', rfl⟩ := hk y hy
    obtain ⟨ad, o, ws, n, rfl, ho, hc, hd, dd⟩ := D.tuple_inv du
    obtain ⟨ad', o', ws', n', rfl, ho', hc', hd', dd'⟩ := D.tuple_inv dv
    obtain ⟨t1, t2, t3, rfl⟩ := ds_three dd
    obtain ⟨u1, u2, u3, rfl⟩ := ds_three dd'
    have k := k s.toks
    refine kat_lt ho hd ho' hd' ?_
    have lt1 : ∀ p q : Str, p ≠ q → strO.blt p.cps.toList q.cps.toList = true ∨ strO.blt q.cps.toList p.cps.toList = true := fun p q hpq => by
      cases h1 : strO.blt p.cps.toList q.cps.toList with
      | true => exact .inl rfl
      | false => cases h2 : strO.blt q.cps.toList p.cps.toList with
        | true => exact .inr rfl
        | false => exact absurd (str_of_list (strO.total _ _ h1 h2)) hpq
    have step : ∀ p q : Str, p ≠ q → ∀ B : Bool, (strO.blt p.cps.toList q.cps.toList || (!strO.blt q.cps.toList p.cps.toList && B)) = decide (p.cps.toList < q.cps.toList) := fun p q hpq B => by
      have e : strO.blt p.cps.toList q.cps.toList = decide (p.cps.toList < q.cps.toList) := rfl
      rw [← e]
      rcases lt1 p q hpq with h | h
      · rw [h]; rfl
      · rw [h]; simp
    show KatLex _ _ _ _ _ _ [(.str a t1, .str a' u1), (.str b t2, .str b' u2), (.str c t3, .str c' u3)] 0 s
    refine kat_cons (wpAny_eqBool_str (kat_go (fun h => ?_) fun h => ?_))
    · obtain rfl : a = a' := by simpa using h
      refine kat_yes (kat_cons (wpAny_eqBool_str (kat_go (fun h => ?_) fun h => ?_)))
      · obtain rfl : b = b' := by simpa using h
        refine kat_yes (kat_cons (wpAny_eqBool_str (kat_go (fun h => ?_) fun h => ?_)))
        · obtain rfl : c = c' := by simpa using h
          refine kat_yes (kat_nil ?_)
          have : triO.blt (triOf (.tuple [.str a, .str b, .str c])) (triOf (.tuple [.str a, .str b, .str c])) = false := triO.irrefl _
          rw [this] at k
          simpa using k
        · refine kat_no (kat_one _ _ (lt_str ?_))
          have hc : c ≠ c' := by simpa using h
          have : triO.blt (triOf (.tuple [.str a, .str b, .str c])) (triOf (.tuple [.str a, .str b, .str c'])) = decide (c.cps.toList < c'.cps.toList) := by
            show (strO.blt a.cps.toList a.cps.toList || (!strO.blt a.cps.toList a.cps.toList && (strO.blt b.cps.toList b.cps.toList || (!strO.blt b.cps.toList b.cps.toList && strO.blt c.cps.toList c'.cps.toList)))) = _
            rw [strO.irrefl, strO.irrefl]; rfl
          rw [this] at k
          exact k
      · refine kat_no (kat_one _ _ (lt_str ?_))
        have hb : b ≠ b' := by simpa using h
        have : triO.blt (triOf (.tuple [.str a, .str b, .str c])) (triOf (.tuple [.str a, .str b', .str c'])) = decide (b.cps.toList < b'.cps.toList) := by
          rw [← step b b' hb (strO.blt c.cps.toList c'.cps.toList)]
          show (strO.blt a.cps.toList a.cps.toList || (!strO.blt a.cps.toList a.cps.toList && _)) = _
          rw [strO.irrefl]; rfl
        rw [this] at k
        exact k
    · refine kat_no (oneLt_str ?_)
      have ha : a ≠ a' := by simpa using h
      have : triO.blt (triOf (.tuple [.str a, .str b, .str c])) (triOf (.tuple [.str a', .str b', .str c'])) = decide (a.cps.toList < a'.cps.toList) := by
        rw [← step a a' ha ((lexO strO strO).blt (b.cps.toList, c.cps.toList) (b'.cps.toList, c'.cps.toList))]
        rfl
      rw [this] at k
      exact k
/-! ## data that may be shown, sorted and compared with itself: texts, ints, None, bools and tuples -/
noncomputable def okB : PyData → Bool
  | .str x => PyData.strOk x
  | .int i => decide (i.natAbs < 10 ^ 100)
  | .none => true
  | .bool _ => true
  | .tuple xs => okBs xs
  | _ => false
where okBs : List PyData → Bool
  | [] => true
  | x :: xs => okB x && okBs xs
theorem log_small {n : Nat} (h : n < 10 ^ 100) : n.log2 < 1920 := by
  by_cases h0 : n = 0
  · subst h0; decide
  · exact (Nat.log2_lt h0).mpr (Nat.lt_trans h (by decide))
mutual
theorem okB_show : ∀ (x : PyData), okB x = true → x.showable = true ∧ x.hasDict = false
  | .str x, h => ⟨rfl, rfl⟩
  | .int i, h => ⟨decide_eq_true (log_small (of_decide_eq_true h)), rfl⟩
  | .none, _ => ⟨rfl, rfl⟩
  | .tuple xs, h => okBs_show xs h
  | .bool _, h => ⟨rfl, rfl⟩
  | .list _, h => (Bool.false_ne_true h).elim
  | .dict _, h => (Bool.false_ne_true h).elim
theorem okBs_show : ∀ (xs : List PyData), okB.okBs xs = true → PyData.showableAll xs = true ∧ PyData.hasDictAll xs = false
  | [], _ => ⟨rfl, rfl⟩
  | x :: xs, h => by
    have h := Bool.and_eq_true_iff.mp h
    have h1 := okB_show x h.1
    have h2 := okBs_show xs h.2
    exact ⟨Bool.and_eq_true_iff.mpr ⟨h1.1, h2.1⟩, Bool.or_eq_false_iff.mpr ⟨h1.2, h2.2⟩⟩
theorem okB_lay : ∀ (x : PyData), okB x = true → x.canLay0 = true
  | .str x, h => h
  | .int _, _ => rfl
  | .none, _ => rfl
  | .bool _, _ => rfl
  | .tuple xs, h => okBs_lay xs h
  | .list _, h => (Bool.false_ne_true h).elim
  | .dict _, h => (Bool.false_ne_true h).elim
theorem okBs_lay : ∀ (xs : List PyData), okB.okBs xs = true → PyData.canLayAll0 xs = true
  | [], _ => rfl
  | x :: xs, h => by
    have h := Bool.and_eq_true_iff.mp h
    exact Bool.and_eq_true_iff.mpr ⟨okB_lay x h.1, okBs_lay xs h.2⟩
theorem okB_eqv : ∀ (x : PyData), okB x = true → PyData.eqv x x = true
  | .str x, h => by simp [PyData.eqv]
  | .int _, _ => by simp [PyData.eqv]
  | .none, _ => by simp [PyData.eqv]
  | .bool _, _ => by simp [PyData.eqv]
  | .tuple xs, h => okBs_eqv xs h
  | .list _, h => (Bool.false_ne_true h).elim
  | .dict _, h => (Bool.false_ne_true h).elim
theorem okBs_eqv : ∀ (xs : List PyData), okB.okBs xs = true → PyData.eqvAll xs xs = true
  | [], _ => rfl
  | x :: xs, h => by
    have h := Bool.and_eq_true_iff.mp h
    exact Bool.and_eq_true_iff.mpr ⟨okB_eqv x h.1, okBs_eqv xs h.2⟩
end
/-- repr as a contract -/
theorem Call.repr {g : Gx} {xs : List PyData} (h : okB (.tuple xs) = true) (hd : PyData.depth (.tuple xs) ≤ 60) (hl : (PyData.shown (.tuple xs)).length ≤ sizeLine) :
    Call g (.builtin "repr") [.dat (.tuple xs)] [] [] 0 (fun r ob' => r = .dat (.str (PyData.shown (.tuple xs))) ∧ ob' = []) := by
  intro A as s vs hA hk nd hb hobs hargs
  obtain ⟨v, rfl, hv⟩ := all2_one hargs
  obtain ⟨a, o, ws, n, rfl, _⟩ := D.tuple_inv hv
  have hs := okB_show _ h
  refine repr_of_reads' (h₀ := s.heap) hv hs.1 (by rw [hs.2]; intro q; cases q) hA.gd (by have := hA.un; lia) (fun ζ ζ e => e) (fun h' u tk hk' => ?_) hl
  cases hobs with
  | nil => exact ⟨.dat (.str _), [], ⟨h', tk, rfl⟩, Ext.of_keep _ hk', .nil, Reads.str _ _, rfl, rfl⟩
end
/-! R1 -/
section
/-! ## slices -/
noncomputable def EvO (c : Cx) (e : Option Expr) (st : List (Str × Sl)) (ob : List Ob) (K : Sl → List Ob → Prop) : Prop :=
  match e with
  | none => K (.dat .none) ob
  | some e => Ev c e st ob K
structure EvP (c : Cx) (e : Option Expr) (st : List (Str × Sl)) (ob : List Ob) (K : Sl → List Ob → Prop) : Prop where
  run : EvO c e st ob K
noncomputable def OptI : Option Int → Sl
  | none => .dat .none
  | some i => .dat (.int i)
theorem optI_part {h : Heap} {as : List Addr} {v : Value} : ∀ {o : Option Int}, (OptI o).Is h as v → IsPart v o
  | none, d => by
    have : v = .none := D.none_inv d
    subst this; exact .none
  | some i, d => by
    obtain ⟨t, rfl⟩ := D.int_inv (show D h v (.int i) from d)
    exact .int _ _
section
variable {c : Cx} {as : List Addr} {st : List (Str × Sl)} {ob : List Ob} {s s' : Shared} {p : Pos} {e l r : Expr} {K : Sl → List Ob → Prop}
theorem EvP.none (k : K (.dat .none) ob) : EvP c none st ob K := ⟨k⟩
theorem EvP.some (k : Ev c e st ob K) : EvP c (some e) st ob K := ⟨k⟩
theorem EvP.go {e : Option Expr} {K : Sl → List Ob → Prop} (h : EvP c e st ob K) (F : Fm c as st ob s) : wpAny c.g.M c.A (evalPart e c.env) (Pv c as st s.heap K) (fun ζ ζ => False) s := by
  cases e with
  | none => exact wpAny_pure (Pv.of (sl := .dat .none) F Reads.none (TKeep.refl _) h.run)
  | some e => exact Ev.run h.run as s F
structure SlO (c : Cx) (value slice : Expr) (a x y z : Sl) (st : List (Str × Sl)) (ob : List Ob) (K : Sl → List Ob → Prop) : Prop where
  run : ∀ as s va vx vy vz sl, Fm c as st ob s → a.Is s.heap as va → x.Is s.heap as vx → y.Is s.heap as vy → z.Is s.heap as vz → s.heap.IsSliceOf sl vx vy vz →
    wpAny c.g.M c.A (subscriptTail value slice va (.ref sl)) (Pv c as st s.heap K) (fun ζ ζ => False) s
noncomputable abbrev Sl4 (c : Cx) (st : List (Str × Sl)) (K : Sl → List Ob → Prop) (l sn : Expr) (a x y z : Sl) (ob4 : List Ob) : Prop := SlO c l sn a x y z st ob4 K
noncomputable abbrev Sl3 (c : Cx) (st : List (Str × Sl)) (K : Sl → List Ob → Prop) (l sn : Expr) (sp : Option Expr) (a x y : Sl) (ob3 : List Ob) : Prop := EvP c sp st ob3 (Sl4 c st K l sn a x y)
noncomputable abbrev Sl2 (c : Cx) (st : List (Str × Sl)) (K : Sl → List Ob → Prop) (l sn : Expr) (up sp : Option Expr) (a x : Sl) (ob2 : List Ob) : Prop := EvP c up st ob2 (Sl3 c st K l sn sp a x)
noncomputable abbrev Sl1 (c : Cx) (st : List (Str × Sl)) (K : Sl → List Ob → Prop) (l sn : Expr) (lo up sp : Option Expr) (a : Sl) (ob1 : List Ob) : Prop := EvP c lo st ob1 (Sl2 c st K l sn up sp a)
theorem Ev.slice {lo up sp : Option Expr} {p' : Pos} (h : Ev c l st ob (Sl1 c st K l (.Slice lo up sp p') lo up sp)) :
    Ev c (.Subscript l (.Slice lo up sp p') p) st ob K := by
  refine ⟨fun as s F => Subscript_ (wpAny_mono (h.run as s F) ?_ fun ζ ζ x => x)⟩
  rintro v1 s1 ⟨a, ob1, n1, F1, h1, t1, k1⟩
  refine wpAny_Slice (wpAny_mono (k1.go F1) ?_ fun ζ ζ x => x)
  rintro v2 s2 ⟨x, ob2, n2, F2, h2, t2, k2⟩
  refine wpAny_mono (k2.go F2) ?_ fun ζ ζ x => x
  rintro v3 s3 ⟨y, ob3, n3, F3, h3, t3, k3⟩
  refine wpAny_mono (k3.go F3) ?_ fun ζ ζ x => x
  rintro v4 s4 ⟨z, ob4, n4, F4, h4, t4, k4⟩
  have kp := keep_push s4.heap { cls := .type "slice", data := .fields #[v2, v3, v4] }
  have tp := TKeep.of_keep kp
  have F5 := F4.grow (s' := { s4 with heap := s4.heap.push { cls := .type "slice", data := .fields #[v2, v3, v4] } }) ⟨_, s4.toks, rfl⟩ kp
  have up : ∀ {sl : Sl} {v : Value} {as'}, sl.Is s4.heap as' v → sl.Is (s4.heap.push { cls := .type "slice", data := .fields #[v2, v3, v4] }) as' v := fun q => by simpa using q.up tp []
  refine wpAny_mono (k4.run _ _ v1 v2 v3 v4 _ F5 (up (by simpa [List.append_assoc] using ((h1.up t2 n2).up t3 n3).up t4 n4)) (up (by simpa [List.append_assoc] using (h2.up t3 n3).up t4 n4)) (up (by simpa [List.append_assoc] using h3.up t4 n4)) (up h4) (Heap.IsSliceOf.new ..)) ?_ fun ζ ζ x => x
  rintro v s6 ⟨d, ob6, n6, F6, h6, t6, k6⟩
  exact ⟨d, ob6, n1 ++ n2 ++ n3 ++ n4 ++ n6, by simpa [List.append_assoc] using F6, by simpa [List.append_assoc] using h6, ((((t1.trans t2).trans t3).trans t4).trans tp).trans t6, k6⟩
theorem SlO.list {i : Nat} {xs : List PyData} {value slice : Expr} {lo hi sp : Option Int} (f : List PyData → List PyData) (fv : List Value → List Value) (ho : ob[i]? = some (.list xs)) (hl : xs.length ≤ 1000) (h0 : sp ≠ some 0)
    (hf : ∀ vs : Array Value, vs.size = xs.length → slicePick vs lo hi sp = (fv vs.toList).toArray) (hd : ∀ h vs, Ds h vs xs → Ds h (fv vs) (f xs)) (kk : K (.obj ob.length) (ob ++ [.list (f xs)])) :
    SlO c value slice (.obj i) (OptI lo) (OptI hi) (OptI sp) st ob K := by
  refine ⟨fun as s va vx vy vz sl F ha hx hy hz hsl => ?_⟩
  obtain ⟨a, hai, rfl, vs, n, e, d⟩ := F.objAt ho ha
  have hs : vs.size = xs.length := by have := d.length; simpa using this
  have hL : s.heap.IsList a vs := ⟨_, e, rfl, n, rfl⟩
  refine subTail hL.typeIs PySem.F.slot_list_getitem.lookup (wpAny_getItem_list_slice hL hsl (optI_part hx) (optI_part hy) (optI_part hz) h0 ?_ (by rw [hs]; exact Nat.le_trans hl (by decide)))
  rw [hf vs hs]
  have kp := keep_push s.heap { cls := .type "list", data := .seq (fv vs.toList).toArray }
  exact Pv.made F ⟨_, s.toks, rfl⟩ kp (TKeep.refl _) (fresh_size _) (listAt (Heap.get?_push_size _ rfl) (by simpa using (hd _ _ d).mono (TKeep.of_keep kp))) kk
theorem SlO.listRev {i : Nat} {xs : List PyData} {value slice : Expr} (ho : ob[i]? = some (.list xs)) (hl : xs.length ≤ 1000) (kk : K (.obj ob.length) (ob ++ [.list xs.reverse])) : SlO c value slice (.obj i) (.dat .none) (.dat .none) (.dat (.int (-1))) st ob K :=
  SlO.list (lo := none) (hi := none) (sp := some (-1)) List.reverse List.reverse ho hl (by simp) (fun vs ζ => krv_pick vs) (fun ζ ζ d => d.reverse) kk
theorem SlO.listTake {i : Nat} {xs : List PyData} {k : Nat} {value slice : Expr} (ho : ob[i]? = some (.list xs)) (hl : xs.length ≤ 1000) (kk : K (.obj ob.length) (ob ++ [.list (xs.take k)])) : SlO c value slice (.obj i) (.dat .none) (.dat (.int k)) (.dat .none) st ob K :=
  SlO.list (lo := none) (hi := some k) (sp := none) (List.take k) (List.take k) ho hl (by simp) (fun vs ζ => slicePick_upto' vs k) (fun ζ ζ d => d.take k) kk
theorem slicePart_of {prog : Program} {w : World} {A : Around} {E : Value → Shared → Prop} {v : Value} {o : Option Int} {Q : Option Int → Shared → Prop} (p : IsPart v o) (h : Q o s) : wpAny (model prog w) A (Builtin.Slice.slicePartIndex v) Q E s := by
  cases p with
  | none => exact slicePart_none h
  | int i u => exact slicePart_int h
theorem sliceApplied_of {prog : Program} {w : World} {A : Around} {E : Value → Shared → Prop} {sl : Addr} {n : Nat} {vl vu vs : Value} {lo hi st : Option Int} {l0 l1 : Int} {cnt : Nat} {Q : Int × Int × Nat → Shared → Prop} (hs : s.heap.IsSliceOf sl vl vu vs) (pl : IsPart vl lo) (pu : IsPart vu hi) (ps : IsPart vs st) (h0 : st ≠ some 0)
    (e1 : Builtin.Slice.sliceAdjust lo hi (st.getD 1) n = (l0, l1)) (e2 : Builtin.Slice.slicePlaces l0 l1 (st.getD 1) = cnt) (h : Q (l0, st.getD 1, cnt) s) :
    wpAny (model prog w) A (Builtin.Slice.sliceApplied (.ref sl) (pure (n : Int))) Q E s := by
  obtain ⟨os, hos, hcs, hds⟩ := id hs
  unfold Builtin.Slice.sliceApplied Builtin.Slice.sliceFields
  refine wpAny_bind (wpAny_bind (wpAny_field hos hds (x := vl) rfl (wpAny_bind (wpAny_field hos hds (x := vu) rfl (wpAny_bind (wpAny_field hos hds (x := vs) rfl (wpAny_pure ?_)))))))
  refine wpAny_bind (slicePart_of ps ?_)
  have hne : ¬ ((st.getD 1 == 0) = true) := by
    cases st with
    | none => decide
    | some i => intro q; exact h0 (by simpa using q)
  show wpAny _ _ (if (st.getD 1 == 0) = true then _ else _) _ _ s
  rw [if_neg hne]
  refine wpAny_bind (slicePart_of pl (wpAny_bind (slicePart_of pu (wpAny_bind (wpAny_pure ?_)))))
  show wpAny _ _ (match Builtin.Slice.sliceAdjust lo hi (st.getD 1) (n : Int) with | (lo', hi') => pure (lo', st.getD 1, Builtin.Slice.slicePlaces lo' hi' (st.getD 1))) _ _ s
  rw [e1]
  show wpAny _ _ (pure (l0, st.getD 1, Builtin.Slice.slicePlaces l0 l1 (st.getD 1))) _ _ s
  rw [e2]
  exact wpAny_pure h
theorem getItem_tupS {prog : Program} {w : World} {A : Around} {E : Value → Shared → Prop} {t sl : Addr} {items : Array Value} {vl vu vs : Value} {lo hi st : Option Int} {l0 l1 : Int} {cnt : Nat} {out : List Value} {Q : Value → Shared → Prop} (ht : IsTup s.heap t items) (hs : s.heap.IsSliceOf sl vl vu vs) (pl : IsPart vl lo) (pu : IsPart vu hi) (ps : IsPart vs st) (h0 : st ≠ some 0)
    (e1 : Builtin.Slice.sliceAdjust lo hi (st.getD 1) items.size = (l0, l1)) (e2 : Builtin.Slice.slicePlaces l0 l1 (st.getD 1) = cnt)
    (e3 : ((List.range cnt).filterMap fun (k : Nat) => items[(l0 + (k : Int) * st.getD 1).toNat]?) = out)
    (h1 : (l0 == 0 && st.getD 1 == 1 && cnt == items.size) = true → Q (.ref t) s)
    (h2 : Q (.ref s.heap.objs.size) { s with heap := s.heap.push { cls := .type "tuple", data := .seq out.toArray } })
    (hsz : out.length ≤ sizeLine) : wpAny (model prog w) A (getItem (.ref t) (.ref sl)) Q E s := by
  obtain ⟨os, hos, hcs, hds⟩ := id hs
  have hTs : s.TypeIs (.ref sl) "slice" := ⟨os, hos, hcs⟩
  unfold getItem
  try with_reducible refine wpAny_holding ?_
  first | refine wpAny_bind (wpAny_pure ?_) | skip
  refine wpAny_bind (wpAny_sequenceKey ht.typeIs (by decide) ?_)
  refine wpAny_bind (wpAny_callSpecial?_slot (name := Str.ofString "__getitem__") ht.typeIs slot_tuple_getitem
    (wpAny_call_entry slot_tuple_getitem ht.typeIs entry_tuple_getitem ?_ (args_tuple_getitem _ _)))
  show wpAny _ _ (Builtin.Tuple.tupleItemsOf (.ref t) >>= _) _ _ s
  refine wpAny_bind (tupleItemsOf_ ht ?_)
  refine wpAny_bind (wpAny_typeOf hTs ?_)
  rw [if_pos (by decide)]
  refine wpAny_bind (sliceApplied_of hs pl pu ps h0 e1 e2 ?_)
  show wpAny _ _ (if (l0 == 0 && st.getD 1 == 1 && cnt == items.size) = true then _ else _) _ _ s
  by_cases hb : (l0 == 0 && st.getD 1 == 1 && cnt == items.size) = true
  · rw [if_pos hb]
    refine wpAny_bind (m := Builtin.Tuple.tupleIsExact _) ?_
    unfold Builtin.Tuple.tupleIsExact
    refine wpAny_bind (wpAny_typeOf ht.typeIs (wpAny_pure ?_))
    rw [if_pos (by rfl)]
    refine wpAny_bind (wpAny_rule ?_)
    exact wpAny_bind (wpAny_pure (wpAny_pure ⟨_, rfl, wpAny_pure (h1 hb)⟩))
  · rw [if_neg hb]
    dsimp only
    rw [e3]
    first
      | exact wpAny_bind (m := Builtin.Tuple.tupleExact _) (wpAny_newObj_type (wpAny_pure ⟨_, rfl, wpAny_pure h2⟩) hsz)
      | exact wpAny_bind (m := Builtin.Tuple.tupleExact _) (wpAny_newObj_type (wpAny_bind (wpAny_pure (wpAny_pure ⟨_, rfl, wpAny_pure h2⟩))) hsz)
      | exact wpAny_bind (wpAny_bind (m := Builtin.Tuple.tupleExact _) (wpAny_newObj_type (wpAny_pure (wpAny_pure ⟨_, rfl, wpAny_pure h2⟩)) hsz))
      | exact wpAny_bind (wpAny_bind (m := Builtin.Tuple.tupleExact _) (wpAny_newObj_type (wpAny_pure ⟨_, rfl, wpAny_pure h2⟩) hsz))
theorem SlO.tuple {xs : List PyData} {value slice : Expr} {lo hi sp : Option Int} (f : List PyData → List PyData) (fv : List Value → List Value) (hl : xs.length ≤ 1000) (h0 : sp ≠ some 0) (l0 l1 : Int) (cnt : Nat)
    (e1 : Builtin.Slice.sliceAdjust lo hi (sp.getD 1) xs.length = (l0, l1)) (e2 : Builtin.Slice.slicePlaces l0 l1 (sp.getD 1) = cnt)
    (hf : ∀ vs : Array Value, vs.size = xs.length → ((List.range cnt).filterMap fun (k : Nat) => vs[(l0 + (k : Int) * sp.getD 1).toNat]?) = fv vs.toList)
    (hw : (l0 == 0 && sp.getD 1 == 1 && cnt == xs.length) = true → f xs = xs) (hd : ∀ h vs, Ds h vs xs → Ds h (fv vs) (f xs)) (hfl : (f xs).length ≤ 1000) (kk : K (.dat (.tuple (f xs))) ob) :
    SlO c value slice (.dat (.tuple xs)) (OptI lo) (OptI hi) (OptI sp) st ob K := by
  refine ⟨fun as s va vx vy vz sl F ha hx hy hz hsl => ?_⟩
  obtain ⟨a, vs, rfl, hT, d, hs⟩ := isTup_of ha
  have dd := hd _ _ d
  refine subTail hT.typeIs PySem.F.slot_tuple_getitem.lookup (getItem_tupS hT hsl (optI_part hx) (optI_part hy) (optI_part hz) h0 (by rw [hs]; exact e1) e2 (hf vs hs) (fun q => ?_) ?_ (by rw [dd.length]; exact Nat.le_trans hfl (by decide)))
  · exact Pv.of (sl := .dat (.tuple (f xs))) F (by rw [hw (by rwa [hs] at q)]; exact ha) (TKeep.refl _) kk
  · have kp := keep_push s.heap { cls := .type "tuple", data := .seq (fv vs.toList).toArray }
    exact Pv.grow (sl := .dat (.tuple (f xs))) F ⟨_, s.toks, rfl⟩ kp (TKeep.refl _) (D.mkTuple (vs := fv vs.toList) (Heap.get?_push_size _ rfl) (dd.mono (TKeep.of_keep kp))) kk
theorem SlO.tupRev {xs : List PyData} {value slice : Expr} (hl : xs.length ≤ 1000) (kk : K (.dat (.tuple xs.reverse)) ob) : SlO c value slice (.dat (.tuple xs)) (.dat .none) (.dat .none) (.dat (.int (-1))) st ob K := by
  refine SlO.tuple (lo := none) (hi := none) (sp := some (-1)) List.reverse List.reverse hl (by simp) ((xs.length : Int) - 1) (-1) xs.length rfl ?_ (fun vs hs => ?_) (by simp) (fun ζ ζ d => d.reverse) (by simpa using hl) kk
  · unfold Builtin.Slice.slicePlaces
    dsimp only [Option.getD_some]
    rw [if_neg (by decide)]
    by_cases h : xs.length = 0
    · rw [if_neg (by lia), h]; rfl
    · rw [if_pos (by lia), show (- -1 : Int) = 1 by decide, Int.ediv_one]; lia
  · have : (fun (k : Nat) => vs[((xs.length : Int) - 1 + (k : Int) * (some (-1 : Int)).getD 1).toNat]?) = fun k : Nat => vs[xs.length - 1 - k]? := by
      funext k
      congr 1
      dsimp only [Option.getD_some]
      lia
    rw [this]
    have h2 : (List.range xs.length).filterMap (fun k : Nat => vs[xs.length - 1 - k]?) = ((List.range xs.length).map (fun k => xs.length - 1 - k)).filterMap (fun k => vs[k]?) := by
      rw [List.filterMap_map]; rfl
    rw [h2, krv_range, List.filterMap_reverse, ← hs, krv_all]
theorem SlO.tupTake {xs : List PyData} {n : Nat} {value slice : Expr} (hl : xs.length ≤ 1000) (kk : K (.dat (.tuple (xs.take n))) ob) : SlO c value slice (.dat (.tuple xs)) (.dat .none) (.dat (.int n)) (.dat .none) st ob K := by
  refine SlO.tuple (lo := none) (hi := some n) (sp := none) (List.take n) (List.take n) hl (by simp) 0 (min n xs.length : Nat) (min n xs.length) ?_ ?_ (fun vs hs => ?_) (fun q => ?_) (fun ζ ζ d => d.take n) (by simp; lia) kk
  · unfold Builtin.Slice.sliceAdjust
    dsimp only [Option.getD_none]
    have h1 : ¬ ((1 : Int) < 0) := by lia
    have h2 : ¬ ((n : Int) < 0) := by lia
    simp only [h1, h2, if_false]
    congr 1
    lia
  · unfold Builtin.Slice.slicePlaces
    simp only [Option.getD_none, show (1 : Int) > 0 by decide, if_true, Int.ediv_one]
    split <;> lia
  · have : (fun (k : Nat) => vs[((0 : Int) + (k : Int) * (none : Option Int).getD 1).toNat]?) = fun k : Nat => vs[0 + k]? := by
      funext k
      congr 1
      dsimp only [Option.getD_none]
      lia
    rw [this]
    have := pick_run vs 0 (min n xs.length)
    rw [List.filterMap_map] at this
    have e2 : ((fun x => vs[x]?) ∘ fun x => 0 + x) = fun k => vs[0 + k]? := rfl
    rw [e2] at this
    rw [this, List.drop_zero, ← hs]
    by_cases h : n ≤ vs.size
    · rw [Nat.min_eq_left h]
    · rw [Nat.min_eq_right (by lia), List.take_of_length_le (by simp), List.take_of_length_le (by simp; lia)]
  · simp only [Option.getD_none, Bool.and_eq_true, beq_iff_eq] at q
    exact List.take_of_length_le (by lia)
theorem five {vs : Array Value} {n : Nat} (h : vs.size = n) (hn : n = 5) : ∃ a b c d e, vs = #[a, b, c, d, e] := by
  obtain ⟨l⟩ := vs
  match l, h with
  | [a, b, c, d, e], _ => exact ⟨a, b, c, d, e, rfl⟩
  | [], h => simp at h; lia
  | [_], h => simp at h; lia
  | [_, _], h => simp at h; lia
  | [_, _, _], h => simp at h; lia
  | [_, _, _, _], h => simp at h; lia
  | _ :: _ :: _ :: _ :: _ :: _ :: r, h => simp at h; lia
theorem SlO.tup24 {x1 x2 x3 x4 x5 : PyData} {value slice : Expr} (kk : K (.dat (.tuple [x3, x4])) ob) : SlO c value slice (.dat (.tuple [x1, x2, x3, x4, x5])) (.dat (.int 2)) (.dat (.int 4)) (.dat .none) st ob K := by
  refine SlO.tuple (lo := some 2) (hi := some 4) (sp := none) (fun l => (l.drop 2).take 2) (fun l => (l.drop 2).take 2) (by simp) (by simp) 2 4 2 rfl rfl (fun vs hs => ?_) (by simp) (fun ζ ζ d => (d.drop 2).take 2) (by simp) kk
  obtain ⟨a, b, c, d, e, rfl⟩ := five hs rfl
  rfl
theorem SlO.tup2 {x1 x2 x3 x4 x5 : PyData} {value slice : Expr} (kk : K (.dat (.tuple [x3, x4, x5])) ob) : SlO c value slice (.dat (.tuple [x1, x2, x3, x4, x5])) (.dat (.int 2)) (.dat .none) (.dat .none) st ob K := by
  refine SlO.tuple (lo := some 2) (hi := none) (sp := none) (fun l => l.drop 2) (fun l => l.drop 2) (by simp) (by simp) 2 5 3 rfl rfl (fun vs hs => ?_) (by simp) (fun ζ ζ d => d.drop 2) (by simp) kk
  obtain ⟨a, b, c, d, e, rfl⟩ := five hs rfl
  rfl
end
end
/-! R2 -/
section
/-! ## what a loop walks over -/
theorem walks_tup {prog : Program} {w : World} {A : Around} (hh : A.handled = none) (I ax : Addr) (hne : ax ≠ I) (items : Array Value) :
    Walks prog w A I [I, ax] [I] items.size (fun i v => items[i]? = some v) (fun i h => IsTupIter h I ax i ∧ IsTup h ax items) where
  sub := fun b hb => by simp at hb; simp [hb]
  frame := fun ζ ζ ζ st hk => ⟨let ⟨o, e, r⟩ := st.1; ⟨o, hk I (by simp) o e, r⟩, let ⟨o, e, r⟩ := st.2; ⟨o, hk ax (by simp) o e, r⟩⟩
  item := fun i s Q E hi st hQ => by
    refine next_tuple_item st.1 st.2 (x := items[i]) (by simp [hi]) fun h' hit' hs' => ?_
    exact hQ _ h' s.toks (by simp [hi]) ⟨hit', let ⟨o, e, r⟩ := st.2; ⟨o, (hs'.2 ax hne).trans e, r⟩⟩ fun b o hb e => hs'.extBut b o (fun h => hb (by simp [h])) e
  done := fun s Q E st hQ => next_tuple_end hh st.1 st.2 (by simp) fun h' he' => hQ h' s.toks fun b o hb e => he' b o (fun h => hb (by simp [h])) e
  self := fun ζ s Q E st hQ => by
    have hit := st.1
    refine wpAny_pyIter_slot hit.typeIs F.slot_tuple_iterator_iter (wpAny_call_entry F.slot_tuple_iterator_iter hit.typeIs F.entry_tuple_iterator_iter ?_ (F.args_tuple_iterator_iter_1 _))
    show wpAny _ _ (ret (.ref I)) _ _ s
    exact wpAny_pure ⟨_, rfl, "tuple_iterator", _, hit.typeIs, F.slot_tuple_iterator_next.lookup, hQ⟩
inductive ItAt (c : Cx) (target : Expr) (as : List Addr) (st : List (Str × Sl)) (h : Heap) (K : List PyData → List Nat → List Ob → Prop) (it : Value) (s₂ : Shared) : Prop
  | mk (s₁ : Shared) (n1 : List Addr) (ob1 : List Ob) (I : Addr) (fp wr : List Addr) (P Md : Nat → Value → Heap → Prop) (St : Nat → Heap → Prop) (xs : List PyData) (fz : List Nat)
    (e : it = .ref I) (F : Fm c (as ++ n1) st ob1 s₁) (tk : TKeep h s₁.heap) (sm : Same s₁ s₂) (kp : Keep s₁.heap s₂.heap) (kt : KTurns c.g.prog c.g.w c.A target I fp wr xs.length P Md St) (h0 : St 0 s₂.heap) (hfp : ∀ b ∈ fp, b < s₂.heap.objs.size)
    (hwr : ∀ b ∈ wr, s₁.heap.get? b = none) (hnf : ∀ i h, St i h → ∀ b ∈ wr, ∃ o, h.get? b = some o ∧ ¬ Fixed o) (hfc : ∀ b ∈ fp, b ∈ wr ∨ (∃ o, s₁.heap.get? b = some o ∧ Fixed o) ∨ ∃ j ∈ fz, (as ++ n1)[j]? = some b)
    (hrd : ∀ i v h' x, TKeep s₂.heap h' → P i v h' → xs[i]? = some x → D h' v x) (hse : ∀ (s : Shared) (Q : Value → Shared → Prop) (E : Value → Shared → Prop), St 0 s.heap → Q (.ref I) s → wpAny c.g.M c.A (pyIter (.ref I)) Q E s)
    (hl : xs.length ≤ 1000) (k : K xs fz ob1)
structure It (c : Cx) (iter target : Expr) (st : List (Str × Sl)) (ob : List Ob) (K : List PyData → List Nat → List Ob → Prop) : Prop where
  run : ∀ as s, Fm c as st ob s → wpAny c.g.M c.A (eval iter c.env) (fun xv s' => wpAny c.g.M c.A (pyIter xv) (ItAt c target as st s.heap K) (fun ζ ζ => False) s') (fun ζ ζ => False) s
section
variable {c : Cx} {as : List Addr} {st : List (Str × Sl)} {ob : List Ob} {s s' : Shared} {p : Pos} {e iter : Expr} {x : Str} {px : Pos} {K : List PyData → List Nat → List Ob → Prop}
theorem fields_not_fixed {h : Heap} {a : Addr} {o : Obj} {t : String} {fs : Array Value} (h1 : o.cls = .type t) (h2 : t ≠ "tuple") (h3 : o.data = .fields fs) : ¬ Fixed o := not_fixed h1 h2 (by rw [h3]; intro q; cases q)
structure OnI (c : Cx) (T : String) (target : Expr) (sls : List Sl) (st : List (Str × Sl)) (ob : List Ob) (K : List PyData → List Nat → List Ob → Prop) : Prop where
  run : ∀ as s vs h, Fm c as st ob s → All2 (fun v sl => Sl.Is s.heap as v sl) vs sls → TKeep h s.heap →
    wpAny c.g.M c.A (call (.type T) vs) (fun xv s' => wpAny c.g.M c.A (pyIter xv) (ItAt c target as st h K) (fun ζ ζ => False) s') (fun ζ ζ => False) s
inductive ItLK (K : List PyData → List Nat → List Ob → Prop) (a : Sl) (ob1 : List Ob) : Prop
  | mk (i : Nat) (xs : List PyData) (e : a = .obj i) (h : ob1[i]? = some (.list xs)) (hl : xs.length ≤ 1000) (k : K xs [i] ob1)
inductive ItTK (K : List PyData → List Nat → List Ob → Prop) (a : Sl) (ob1 : List Ob) : Prop
  | mk (xs : List PyData) (e : a = .dat (.tuple xs)) (hl : xs.length ≤ 1000) (k : K xs [] ob1)
inductive ItDK (K : List PyData → List Nat → List Ob → Prop) (a : Sl) (ob1 : List Ob) : Prop
  | mk (i : Nat) (es : List (Str × PyData)) (e : a = .obj i) (h : ob1[i]? = some (.dict es)) (hl : es.length ≤ 1000) (k : K (es.map fun p => .str p.1) [i] ob1)
noncomputable abbrev ItCK (c : Cx) (st : List (Str × Sl)) (K : List PyData → List Nat → List Ob → Prop) (T : String) (target : Expr) (sls : List Sl) (ob1 : List Ob) : Prop := OnI c T target sls st ob1 K
theorem ItAt.push {target : Expr} {h : Heap} {n1 : List Addr} {ob1 : List Ob} {o : Obj} {ax : Addr} {P Md : Nat → Value → Heap → Prop} {St : Nat → Heap → Prop} {xs : List PyData} {fz : List Nat} (F : Fm c (as ++ n1) st ob1 s) (t : TKeep h s.heap) (hlt : ax < s.heap.objs.size)
    (kt : KTurns c.g.prog c.g.w c.A target s.heap.objs.size [s.heap.objs.size, ax] [s.heap.objs.size] xs.length P Md St) (h0 : St 0 (s.heap.push o)) (hnf : ∀ i h, St i h → ∃ o, h.get? s.heap.objs.size = some o ∧ ¬ Fixed o)
    (hfx : (∃ o, s.heap.get? ax = some o ∧ Fixed o) ∨ ∃ j ∈ fz, (as ++ n1)[j]? = some ax) (hrd : ∀ i v h' x, TKeep (s.heap.push o) h' → P i v h' → xs[i]? = some x → D h' v x)
    (hse : ∀ (s' : Shared) (Q : Value → Shared → Prop) (E : Value → Shared → Prop), St 0 s'.heap → Q (.ref s.heap.objs.size) s' → wpAny c.g.M c.A (pyIter (.ref s.heap.objs.size)) Q E s') (hl : xs.length ≤ 1000) (k : K xs fz ob1) :
    ItAt c target as st h K (.ref s.heap.objs.size) { s with heap := s.heap.push o } := by
  refine ⟨s, n1, ob1, _, _, _, P, Md, St, xs, fz, rfl, F, t, ⟨_, s.toks, rfl⟩, keep_push s.heap o, kt, h0, ?_, ?_, ?_, ?_, hrd, hse, hl, k⟩
  · intro b hb
    rw [Heap.size_push]
    simp at hb
    rcases hb with rfl | rfl
    · exact Nat.lt_succ_self _
    · exact Nat.lt_succ_of_lt hlt
  · intro b hb; simp at hb; subst hb; exact fresh_size _
  · intro j h st b hb
    simp at hb; subst hb
    exact hnf j h st
  · intro b hb
    simp at hb
    rcases hb with rfl | rfl
    · exact .inl (by simp)
    · exact .inr hfx
theorem It.list (hh : c.A.handled = none) (h : Ev c iter st ob (ItLK K)) : It c iter (.Name x px) st ob K := by
  refine ⟨fun as s F => wpAny_mono (h.run as s F) ?_ fun ζ ζ x => x⟩
  rintro xv s1 ⟨a, ob1, n1, F1, h1, t1, i, xs, rfl, hi, hl, k1⟩
  obtain ⟨ax, hax, rfl, vs, n, e, d⟩ := F1.objAt hi h1
  have hs : vs.size = xs.length := by have := d.length; simpa using this
  have hL : s1.heap.IsList ax vs := ⟨_, e, rfl, n, rfl⟩
  have hlt := Heap.lt_size e
  refine wpAny_pyIter_list hL ?_
  have kp := keep_push s1.heap { cls := .type "list_iterator", data := .fields #[.ref ax, .int 0 0] }
  have W := Walks.list (prog := c.g.prog) (w := c.g.w) hh s1.heap.objs.size ax (Nat.ne_of_lt hlt) vs
  rw [hs] at W
  refine ItAt.push F1 t1 hlt (KTurns.ofWalks W fun i v s Q E st q => wpAny_pure q) ⟨⟨_, Heap.get?_push_size _ rfl, rfl, rfl⟩, hL.push _⟩ ?_ (.inr ⟨i, by simp, hax⟩) ?_ (fun s Q E st q => W.self 0 s Q E st q) hl k1
  · rintro j h ⟨⟨o, e, hc, hd⟩, _⟩
    exact ⟨o, e, fields_not_fixed (h := h) (a := 0) hc (by decide) hd⟩
  · intro j v h' x tk hP hx
    obtain ⟨x', hx', dx⟩ := d.get' (by simpa using hP)
    rw [hx] at hx'; cases hx'
    exact (dx.mono (TKeep.of_keep kp)).mono tk
theorem It.tuple (hh : c.A.handled = none) (h : Ev c iter st ob (ItTK K)) : It c iter (.Name x px) st ob K := by
  refine ⟨fun as s F => wpAny_mono (h.run as s F) ?_ fun ζ ζ x => x⟩
  rintro xv s1 ⟨a, ob1, n1, F1, h1, t1, xs, rfl, hl, k1⟩
  obtain ⟨ax, vs, rfl, hT, d, hs⟩ := isTup_of h1
  obtain ⟨o, ho, hc, n, hd⟩ := id hT
  have hlt := Heap.lt_size ho
  refine iter_tuple hT ?_
  have kp := keep_push s1.heap { cls := .type "tuple_iterator", data := .fields #[.ref ax, .int 0 0] }
  have W := walks_tup (prog := c.g.prog) (w := c.g.w) hh s1.heap.objs.size ax (Nat.ne_of_lt hlt) vs
  rw [hs] at W
  refine ItAt.push F1 t1 hlt (KTurns.ofWalks W fun i v s Q E st q => wpAny_pure q) ⟨⟨_, Heap.get?_push_size _ rfl, rfl, rfl⟩, ⟨o, kp _ _ ho, hc, n, hd⟩⟩ ?_ (.inl ⟨o, ho, .inl ⟨hc, _, _, hd⟩⟩) ?_ (fun s Q E st q => W.self 0 s Q E st q) hl k1
  · rintro j h ⟨⟨o, e, hc, hd⟩, _⟩
    exact ⟨o, e, fields_not_fixed (h := h) (a := 0) hc (by decide) hd⟩
  · intro j v h' x tk hP hx
    obtain ⟨x', hx', dx⟩ := d.get' (by simpa using hP)
    rw [hx] at hx'; cases hx'
    exact (dx.mono (TKeep.of_keep kp)).mono tk
theorem It.dict (hh : c.A.handled = none) (G : Gd c.g) (h : Ev c iter st ob (ItDK K)) : It c iter (.Name x px) st ob K := by
  refine ⟨fun as s F => wpAny_mono (h.run as s F) ?_ fun ζ ζ x => x⟩
  rintro xv s1 ⟨a, ob1, n1, F1, h1, t1, i, es, rfl, hi, hl, k1⟩
  obtain ⟨ax, hax, rfl, kvs, ⟨hD, hne⟩, hk, d⟩ := F1.objAt hi h1
  have hl2 : kvs.length = es.length := by have := congrArg List.length hk; simpa using this
  obtain ⟨o, es', ep, ho, rest⟩ := id hD
  have hDA : s1.heap.DictAt (strKind c.g.prog c.g.w) ax kvs ep := ⟨o, es', ho, rest⟩
  have hlt := Heap.lt_size ho
  have hns : (ax == sysModules) = false := by simpa using hne
  refine wpAny_pyIter_dict hns hDA ?_
  have kp := keep_push s1.heap { cls := .type "dict_keyiterator", data := .fields #[.ref ax, .int 0 0, .int kvs.length 0, .int ep 0] }
  have W := Walks.dictKeys (knd := strKind c.g.prog c.g.w) hh s1.heap.objs.size ax (Nat.ne_of_lt hlt) kvs ep
  have hlx : (es.map fun p => PyData.str p.1).length = kvs.length := by simp [hl2]
  have KT := KTurns.ofWalks (target := .Name x px) W fun i v s Q E st q => wpAny_pure q
  rw [← hlx] at KT
  refine ItAt.push (xs := es.map fun p => .str p.1) F1 t1 hlt KT ?_ ?_ (.inr ⟨i, by simp, hax⟩) ?_ (fun s Q E st q => ?_) (by simpa using hl) k1
  · rw [hlx]; exact ⟨⟨_, Heap.get?_push_size _ rfl, rfl, rfl⟩, hDA.at' fun o e => kp _ _ e⟩
  · rintro j h ⟨⟨o, e, hc, hd⟩, _⟩
    exact ⟨o, e, fields_not_fixed (h := h) (a := 0) hc (by decide) hd⟩
  · rintro j v h' x tk ⟨k, y, hk1, hk2⟩ hx
    have hj : (kvs.map (·.1))[j]? = some k := by rw [List.getElem?_map, hk1]; rfl
    rw [hk, List.getElem?_map] at hj
    rw [List.getElem?_map] at hx
    cases q : es[j]? with
    | none => rw [q] at hx; cases hx
    | some pp =>
      rw [q] at hj hx
      simp only [Option.map_some, Option.some.injEq] at hj hx
      subst hj; subst hx
      exact PyProof.V.reads_key_str _ _ hk2
  · rw [hlx] at st; exact W.self 0 s Q E st q
theorem ItAt.pre {target : Expr} {h : Heap} {n1 : List Addr} {it : Value} (x : ItAt c target (as ++ n1) st h K it s) : ItAt c target as st h K it s := by
  obtain ⟨s₁, n2, ob1, I, fp, wr, P, Md, St, xs, fz, r1, F, a1, a2, a3, a4, a5, a6, a7, a8, a9, b1, b2, b3, b4⟩ := x
  rw [List.append_assoc] at F a9
  exact ⟨s₁, n1 ++ n2, ob1, I, fp, wr, P, Md, St, xs, fz, r1, F, a1, a2, a3, a4, a5, a6, a7, a8, a9, b1, b2, b3, b4⟩
theorem It.callT {f : Str} {np : Pos} {T : String} {es : List Expr} {scope : Scope} {target : Expr} (G : Gd c.g) (kn : Kn c scope) (hx : scope.names.lookup f = some .globalImplicit) (e : nsIn c.g.K mainGlobals f = some none) (hv : bootBuiltins f = some (.type T)) (hn : f ≠ "__name__")
    (he : es.all plainE = true) (h : Evs c es st ob (ItCK c st K T target)) (hd : (f == ("__debug__" : Str)) = false := by decide) : It c (.Call (.Name f np) es [] p) target st ob K := by
  refine ⟨fun as s F => ?_⟩
  refine wpAny_Call_ofName ?_
  refine Calls.Name_function_global F.kind (kn.glob hx) (Calls.loadGlobal_builtin (env := c.env) (by rw [kn.gl]; exact G.T.g.keeps F.base) (mg_none_of G.K G.T.g e) (by rw [kn.bt]; exact G.T.b.keeps F.base) ((G.T.builtins f hn).trans hv) ?_) hd
  rw [nil_kw]
  have hi := items_of (c := c) he p
  refine callWith_type (items_plain hi) (evalArgs_items hi (wpAny_mono (EvsF.go hi h.run F) ?_ fun ζ ζ x => x))
  rintro vs s1 ⟨sls, ob1, n1, F1, h1, t1, k1⟩
  exact wpAny_mono (k1.run _ s1 vs s.heap F1 h1 t1) (fun v s2 h2 => wpAny_mono h2 (fun ζ ζ q => q.pre) fun ζ ζ x => x) fun ζ ζ x => x
noncomputable def upto (n : Nat) : List PyData := (List.range n).map fun i : Nat => .int (i : Int)
theorem OnI.range {n : Nat} (hh : c.A.handled = none) (hn : n ≤ 1000) (k : K (upto n) [] ob) : OnI c "range" (.Name x px) [.dat (.int n)] st ob K := by
  refine ⟨fun as s vs h F hv t => ?_⟩
  replace hv := all2_one hv
  obtain ⟨v, rfl, hv⟩ := hv
  obtain ⟨u, rfl⟩ := D.int_inv hv
  refine call_range_1 ?_
  have kp := keep_push s.heap { cls := .type "range", data := .fields #[.int 0 s.toks, .int n u, .int 1 (s.toks + 1)] }
  have F1 := F.grow (s' := { s with heap := s.heap.push { cls := .type "range", data := .fields #[.int 0 s.toks, .int n u, .int 1 (s.toks + 1)] }, toks := s.toks + 1 + 1 }) ⟨_, _, rfl⟩ kp
  have hsz : Builtin.Range.rangeSize 0 n 1 = (n : Int) := by rw [rangeSize_one]; split <;> lia
  refine wpAny_pyIter_range (a := 0) (b := n) (c := 1) (Heap.get?_push_size _ rfl) (small_one (by lia) (by lia) (by lia) (by lia)) ?_
  rw [hsz]
  generalize hs1 : ({ s with heap := s.heap.push { cls := .type "range", data := .fields #[.int 0 s.toks, .int n u, .int 1 (s.toks + 1)] }, toks := s.toks + 1 + 1 } : Shared) = s1 at F1 ⊢
  have hhp : s1.heap = s.heap.push { cls := .type "range", data := .fields #[.int 0 s.toks, .int n u, .int 1 (s.toks + 1)] } := by rw [← hs1]
  have kp2 := keep_push s1.heap { cls := .type "range_iterator", data := .fields #[rawInt 0, rawInt n, rawInt 1] }
  have W := PyProof.Rows.LCg.range_walks (prog := c.g.prog) (w := c.g.w) (A := c.A) (I := s1.heap.objs.size) hh 0 n
  have KT := KTurns.ofWalks (target := .Name x px) W fun i v s Q E st q => wpAny_pure q
  have hlx : (upto n).length = n := by ((try dsimp only [upto]) <;> simp)
  rw [← hlx] at KT
  refine ⟨s1, [], ob, _, _, _, _, _, _, upto n, [], rfl, by simpa using F1, t.trans (TKeep.of_keep (by rw [hhp]; exact kp)), ⟨_, s1.toks, rfl⟩, kp2, KT, ?_, ?_, ?_, ?_, ?_, ?_, fun s Q E st q => ?_, by rw [hlx]; exact hn, k⟩
  · rw [hlx]
    show IsRangeIter _ _ ((0 : Int) + ((0 : Nat) : Int) * 1) ((n : Int) - ((0 : Nat) : Int)) 1
    simpa using Heap.get?_push_size s1.heap (o := { cls := .type "range_iterator", data := .fields #[rawInt 0, rawInt n, rawInt 1] }) rfl
  · intro b hb
    rw [Heap.size_push]
    simp at hb
    subst hb
    exact Nat.lt_succ_self _
  · intro b hb; simp at hb; subst hb; exact fresh_size _
  · intro j h st b hb
    simp at hb; subst hb
    have st' : h.get? s1.heap.objs.size = some _ := st
    exact ⟨_, st', fields_not_fixed (h := h) (a := 0) rfl (by decide) rfl⟩
  · intro b hb
    exact .inl hb
  · rintro j v h' x tk ⟨u', rfl⟩ hx
    ((try dsimp only [upto] at hx) <;> simp only [List.getElem?_map, Option.map_eq_some_iff] at hx)
    obtain ⟨i, hi, rfl⟩ := hx
    have : i = j := by
      have := List.getElem?_eq_some_iff.mp hi
      obtain ⟨_, h⟩ := this
      simpa using h.symm
    subst this
    simpa using Reads.int (h := h') (0 + (i : Int)) u'
  · rw [hlx] at st; exact W.self 0 s Q E st q
noncomputable def enumD (xs : List PyData) : List PyData := (List.range xs.length).zipWith (fun (i : Nat) x => .tuple [.int (i : Int), x]) xs
theorem enumD_length (xs : List PyData) : (enumD xs).length = xs.length := by ((try dsimp only [enumD]) <;> simp)
theorem OnI.enum {i : Nat} {xs : List PyData} {elts : List Expr} {kk : Nat} {tp : Pos} (hh : c.A.handled = none) (hi : ob[i]? = some (.list xs)) (hl : xs.length ≤ 1000) (k : K (enumD xs) [i] ob) : OnI c "enumerate" (.Tuple elts kk tp) [.obj i] st ob K := by
  refine ⟨fun as s vs h F hv t => ?_⟩
  replace hv := all2_one hv
  obtain ⟨v, rfl, hv⟩ := hv
  obtain ⟨ax, hax, rfl, vs, n, e, d⟩ := F.objAt hi hv
  have hs : vs.size = xs.length := by have := d.length; simpa using this
  have hL : s.heap.IsList ax vs := ⟨_, e, rfl, n, rfl⟩
  have hlt := Heap.lt_size e
  refine call_enumerate_list hL fun h' he hit hz hk => ?_
  have W := (WalksT.enumerate (prog := c.g.prog) (w := c.g.w) hh (s.heap.objs.size + 1) s.heap.objs.size ax (Nat.ne_of_gt (Nat.lt_succ_self _)) (Nat.ne_of_lt (Nat.lt_succ_of_lt hlt)) (Nat.ne_of_lt hlt) vs)
  refine W.self 0 _ _ _ ⟨⟨_, he⟩, hit, ⟨_, hk _ _ e, rfl, n, rfl⟩⟩ ?_
  have KT := KTurns.ofWalksU (elts := elts) (k := kk) (pos := tp) W.toU
  rw [hs, ← enumD_length] at KT
  refine ⟨s, [], ob, _, _, _, _, _, _, enumD xs, [i], rfl, by simpa using F, t, ⟨h', s.toks, rfl⟩, hk, KT, ?_, ?_, ?_, ?_, ?_, ?_, fun s Q E st q => W.self 0 s Q E st q, by rw [enumD_length]; exact hl, k⟩
  · exact ⟨⟨_, he⟩, hit, ⟨_, hk _ _ e, rfl, n, rfl⟩⟩
  · intro b hb
    show b < h'.objs.size
    rw [hz]
    simp at hb
    rcases hb with rfl | rfl | rfl
    · exact Nat.lt_succ_self _
    · exact Nat.lt_succ_of_lt (Nat.lt_succ_self _)
    · exact Nat.lt_succ_of_lt (Nat.lt_succ_of_lt hlt)
  · intro b hb
    simp at hb
    refine new_of_ge ?_
    rcases hb with rfl | rfl
    · exact Nat.le_succ _
    · exact Nat.le_refl _
  · rintro j h ⟨⟨old, he⟩, ⟨o, e, hc, hd⟩, _⟩ b hb
    simp at hb
    rcases hb with rfl | rfl
    · have he' : h.get? _ = some _ := he
      exact ⟨_, he', fields_not_fixed (h := h) (a := 0) rfl (by decide) rfl⟩
    · exact ⟨o, e, fields_not_fixed (h := h) (a := 0) hc (by decide) hd⟩
  · intro b hb
    simp at hb
    rcases hb with rfl | rfl | rfl
    · exact .inl (by simp)
    · exact .inl (by simp)
    · exact .inr (.inr ⟨i, by simp, by simpa using hax⟩)
  · rintro j v h'' x tk ⟨T, vals, rfl, ⟨u, y, hy, rfl⟩, ⟨o, e1, hc, hd⟩⟩ hx
    obtain ⟨y', hy', dy⟩ := d.get' (i := j) (v := y) (by simpa using hy)
    have hj : j < xs.length := (List.getElem?_eq_some_iff.mp hy').1
    have : x = .tuple [.int j, y'] := by
      have h1 : (enumD xs)[j]? = some (.tuple [.int j, y']) := by
        ((try dsimp only [enumD]) <;> simp only [List.getElem?_zipWith, hy'])
        simp [hj]
      rw [h1] at hx; exact (Option.some.inj hx).symm
    subst this
    have dy'' : D h'' y y' := (D.mono dy (TKeep.of_keep hk)).mono tk
    obtain ⟨nn, hd⟩ := hd
    exact .tuple e1 hc hd (show Ds h'' #[Value.int (j : Int) u, y].toList _ from Ds.cons_iff.mpr ⟨Reads.int _ _, .one dy''⟩)
end
end
/-! R3 -/
section
section
variable {c : Cx} {as : List Addr} {st : List (Str × Sl)} {ob : List Ob} {s s' : Shared} {p : Pos} {e iter : Expr} {x : Str} {px : Pos}
/-! ## weakenings of a frame's state -/
noncomputable def Sl.Below (n : Nat) : Sl → Prop
  | .obj i => i < n
  | .ins _ i => i < n
  | _ => True
theorem Sl.Is.cut {h : Heap} {as nw : List Addr} {v : Value} {sl : Sl} (x : sl.Is h (as ++ nw) v) (b : sl.Below as.length) : sl.Is h as v := by
  cases sl with
  | dat x' => exact x
  | val y => exact x
  | obj i => obtain ⟨a, e, r⟩ := x; exact ⟨a, by rwa [List.getElem?_append_left b] at e, r⟩
  | ins C i => obtain ⟨a, d, e, r⟩ := x; exact ⟨a, d, by rwa [List.getElem?_append_left b] at e, r⟩
theorem Sl.Is.below {h : Heap} {as : List Addr} {v : Value} {sl : Sl} (x : sl.Is h as v) : sl.Below as.length := by
  cases sl with
  | dat x' => trivial
  | val y => trivial
  | obj i => obtain ⟨a, e, _⟩ := x; exact (List.getElem?_eq_some_iff.mp e).1
  | ins C i => obtain ⟨a, d, e, _⟩ := x; exact (List.getElem?_eq_some_iff.mp e).1
theorem Fm.sub {st' : List (Str × Sl)} (F : Fm c as st ob s) (h : ∀ x sl, st'.lookup x = some sl → st.lookup x = some sl) : Fm c as st' ob s :=
  { F with vars := fun x sl e => F.vars x sl (h x sl e) }
theorem Fm.cut {nw : List Addr} {ob' obG : List Ob} {st' : List (Str × Sl)} (F : Fm c (as ++ nw) st ob s) (hl : ob'.length = as.length) (hob : ob = ob' ++ obG) (hn : c.n₀ ≤ as.length) (hX : ∀ a ∈ c.X, a ∈ as)
    (h : ∀ x sl, st'.lookup x = some sl → st.lookup x = some sl ∧ sl.Below as.length) : Fm c as st' ob' s where
  same := F.same
  base := F.base
  ext := F.ext
  xin := hX
  nd := (List.nodup_append.mp F.nd).1
  own := fun i a e hh => F.own i a (getElem?_app e) hh
  afr := fun i a e hh => F.afr i a (getElem?_app e) hh
  hbn := fun a m => F.hbn a (List.mem_append_left _ m)
  obs := Obs.mk hl.symm fun i a o h1 h2 => by
    obtain ⟨o', h3, h4⟩ := F.obs.get (getElem?_app h1)
    have hi : i < ob'.length := by rw [hl]; exact (List.getElem?_eq_some_iff.mp h1).1
    rw [hob, List.getElem?_append_left hi, h2] at h3
    cases h3; exact h4
  ns := F.ns
  lap := fun m => F.lap (List.mem_append_left _ m)
  lhb := F.lhb
  lfr := F.lfr
  cis := F.cis
  cap := F.cap
  cfr := F.cfr
  chb := F.chb
  vars := fun x sl e => by
    obtain ⟨h1, h2⟩ := h x sl e
    obtain ⟨v, hv, hs⟩ := F.vars x sl h1
    exact ⟨v, hv, hs.cut h2⟩
  kind := F.kind
  par := fun i a e hh => F.par i a (getElem?_app e) hh
  npl := hn
  prk := F.prk
  pra := fun p m q => F.pra p m (List.mem_append_left _ q)
  prl := F.prl
  prc := F.prc
/-- objects that are nobody's change -/
theorem Fm.foreign {wr : List Addr} (F : Fm c as st ob s) (hs : Same s s') (hk : ∀ b o, b ∉ wr → s.heap.get? b = some o → s'.heap.get? b = some o) (hT : TKeep s.heap s'.heap)
    (h0 : ∀ b ∈ wr, c.s₀.heap.get? b = none ∧ b ∉ as ∧ b ≠ c.env.locals ∧ (∀ x, c.env.cells.lookup x ≠ some b) ∧ c.g.hb.get? b = none ∧ ∀ p ∈ c.pr, p.1 ≠ b) : Fm c as st ob s' := by
  have kl : ∀ o, s.heap.get? c.env.locals = some o → s'.heap.get? c.env.locals = some o := fun o e => hk _ _ (fun m => (h0 _ m).2.2.1 rfl) e
  have kc : ∀ y a, c.env.cells.lookup y = some a → ∀ o, s.heap.get? a = some o → s'.heap.get? a = some o := fun y a e o e' => hk _ _ (fun m => (h0 _ m).2.2.2.1 y e) e'
  exact { F with
    same := F.same.trans hs
    base := fun b o e => hk b o (fun m => by rw [(h0 b m).2.2.2.2.1] at e; cases e) (F.base b o e)
    ext := fun b o e n => hk b o (fun m => by rw [(h0 b m).1] at e; cases e) (F.ext b o e n)
    obs := Obs.mk F.obs.length fun i a o h1 h2 => by
      obtain ⟨o', h3, h4⟩ := F.obs.get h1
      rw [h2] at h3; cases h3
      exact h4.keep hT fun ob e => hk _ _ (fun m => (h0 _ m).2.1 (List.mem_of_getElem? h1)) e
    ns := by
      obtain ⟨m, o, es, ep, h1, r⟩ := F.ns
      exact ⟨m, o, es, ep, kl _ h1, r⟩
    cis := fun x a e => by
      obtain ⟨v, o, h1, r⟩ := F.cis x a e
      exact ⟨v, o, kc _ _ e _ h1, r⟩
    vars := fun x sl e => by
      obtain ⟨v, h1, h2⟩ := F.vars x sl e
      exact ⟨v, look_keep h1 kl kc, by simpa using h2.up hT []⟩
    prk := fun p m => hk _ _ (fun q => (h0 _ q).2.2.2.2.2 p m rfl) (F.prk p m) }
noncomputable def prOf (wr : List Addr) (h : Heap) : List (Addr × Obj) := wr.filterMap fun b => (h.get? b).map fun o => (b, o)
theorem mem_prOf {wr : List Addr} {h : Heap} {p : Addr × Obj} : p ∈ prOf wr h ↔ p.1 ∈ wr ∧ h.get? p.1 = some p.2 := by
  unfold prOf
  rw [List.mem_filterMap]
  constructor
  · rintro ⟨b, hb, e⟩
    obtain ⟨o, ho, rfl⟩ := Option.map_eq_some_iff.mp e
    exact ⟨hb, ho⟩
  · rintro ⟨hb, e⟩
    exact ⟨p.1, hb, by rw [e]; rfl⟩
/-- the frame within a turn of a loop: the loop's own objects may not be touched -/
noncomputable def Cx.guard (c : Cx) (wr : List Addr) (h : Heap) : Cx := { c with pr := prOf wr h ++ c.pr }
theorem Fm.guarded {wr : List Addr} (F : Fm c as st ob s) (h0 : ∀ b ∈ wr, b ∉ as ∧ b ≠ c.env.locals ∧ ∀ x, c.env.cells.lookup x ≠ some b) : Fm (c.guard wr s.heap) as st ob s :=
  { same := F.same, base := F.base, ext := F.ext, xin := F.xin, nd := F.nd, own := F.own, afr := F.afr, hbn := F.hbn, obs := F.obs, ns := F.ns, lap := F.lap, lhb := F.lhb, lfr := F.lfr, cis := F.cis, cap := F.cap, cfr := F.cfr, chb := F.chb, vars := F.vars, kind := F.kind, par := F.par, npl := F.npl,
    prk := fun p m => (List.mem_append.mp m).elim (fun m => (mem_prOf.mp m).2) (F.prk p)
    pra := fun p m => (List.mem_append.mp m).elim (fun m => (h0 _ (mem_prOf.mp m).1).1) (F.pra p)
    prl := fun p m => (List.mem_append.mp m).elim (fun m => (h0 _ (mem_prOf.mp m).1).2.1) (F.prl p)
    prc := fun p m => (List.mem_append.mp m).elim (fun m => (h0 _ (mem_prOf.mp m).1).2.2) (F.prc p) }
theorem Fm.unguard {wr : List Addr} {h : Heap} (F : Fm (c.guard wr h) as st ob s) : Fm c as st ob s :=
  { same := F.same, base := F.base, ext := F.ext, xin := F.xin, nd := F.nd, own := F.own, afr := F.afr, hbn := F.hbn, obs := F.obs, ns := F.ns, lap := F.lap, lhb := F.lhb, lfr := F.lfr, cis := F.cis, cap := F.cap, cfr := F.cfr, chb := F.chb, vars := F.vars, kind := F.kind, par := F.par, npl := F.npl,
    prk := fun p m => F.prk p (List.mem_append_right _ m)
    pra := fun p m => F.pra p (List.mem_append_right _ m)
    prl := fun p m => F.prl p (List.mem_append_right _ m)
    prc := fun p m => F.prc p (List.mem_append_right _ m) }
/-! ## the targets of a loop -/
structure Asg (c : Cx) (target : Expr) (d : PyData) (bs : List (Str × Sl)) : Prop where
  run : ∀ as st ob s v (Q : Unit → Shared → Prop) (E : Value → Shared → Prop), Fm c as st ob s → D s.heap v d → (∀ s', Fm c as (bs ++ st) ob s' → TKeep s.heap s'.heap → Q () s') → wpAny c.g.M c.A (assign target c.env v) Q E s
theorem Asg.name {d : PyData} (hk : Stores c x) : Asg c (.Name x px) d [(x, .dat d)] :=
  ⟨fun ζ ζ ζ ζ ζ ζ ζ F hv k => wpAny_assign_Name (store F (sl := .dat d) hv hk fun s' F' t => k s' F' t)⟩
theorem Asg.pair {y : Str} {py tp : Pos} {k : Nat} {a b : PyData} (hh : c.A.handled = none) (hx : Stores c x) (hy : Stores c y) : Asg c (.Tuple [.Name x px, .Name y py] k tp) (.tuple [a, b]) [(y, .dat b), (x, .dat a)] := by
  refine ⟨fun as st ob s v Q E F hv k => ?_⟩
  obtain ⟨t, vs, rfl, hT, d, hs⟩ := isTup_of hv
  obtain ⟨u, w, rfl⟩ := arrTwo hs
  obtain ⟨du, d2⟩ := Ds.cons_iff.mp d
  obtain ⟨dw, _⟩ := Ds.cons_iff.mp d2
  refine assign_Tuple_tuple hh hT rfl rfl fun h' he => ?_
  have kp : Keep s.heap h' := fun b o e => he b o (Nat.ne_of_lt (Heap.lt_size e)) e
  have F1 := F.grow (s' := { s with heap := h' }) ⟨h', s.toks, rfl⟩ kp
  refine assignInOrder_cons (wpAny_assign_Name (store F1 (sl := .dat a) (D.mono du (TKeep.of_keep kp)) hx fun s2 F2 t2 => ?_))
  refine assignInOrder_cons (wpAny_assign_Name (store F2 (sl := .dat b) ((D.mono dw (TKeep.of_keep kp)).mono t2) hy fun s3 F3 t3 => ?_))
  exact assignInOrder_nil (k s3 F3 (((TKeep.of_keep kp).trans t2).trans t3))
/-! ## one turn -/
structure Wlk (c : Cx) (target : Expr) (I : Addr) (fp wr : List Addr) (P Md : Nat → Value → Heap → Prop) (St : Nat → Heap → Prop) (xs : List PyData) (h₁ h₂ : Heap) : Prop where
  kt : KTurns c.g.prog c.g.w c.A target I fp wr xs.length P Md St
  t12 : TKeep h₁ h₂
  nf : ∀ i h, St i h → ∀ b ∈ wr, ∃ o, h.get? b = some o ∧ ¬ Fixed o
  fpc : ∀ b ∈ fp, b ∈ wr ∨ (∃ o, h₁.get? b = some o ∧ Fixed o) ∨ (∃ o, c.s₀.heap.get? b = some o ∧ b ∉ c.X) ∨ ∃ o, (b, o) ∈ c.pr
  rd : ∀ i v h' x, TKeep h₂ h' → P i v h' → xs[i]? = some x → D h' v x
  wrc : ∀ b ∈ wr, c.s₀.heap.get? b = none ∧ b ≠ c.env.locals ∧ (∀ x, c.env.cells.lookup x ≠ some b) ∧ c.g.hb.get? b = none ∧ ∀ p ∈ c.pr, p.1 ≠ b
theorem Wlk.turn {target : Expr} {I : Addr} {fp wr : List Addr} {P Md : Nat → Value → Heap → Prop} {St : Nat → Heap → Prop} {xs : List PyData} {h₁ h₂ : Heap} (W : Wlk c target I fp wr P Md St xs h₁ h₂) (F : Fm c as st ob s) (hw : ∀ b ∈ wr, b ∉ as) {i : Nat} (hi : i ≤ xs.length) (hst : St i s.heap) (tk : TKeep h₂ s.heap)
    {Qe : Shared → Prop} {Qb : Value → Shared → Prop} {E : Value → Shared → Prop}
    (hend : i = xs.length → ∀ s', Fm c as st ob s' → TKeep s.heap s'.heap → Qe s')
    (hbody : ∀ x, xs[i]? = some x → ∀ v s', Fm (c.guard wr s'.heap) as st ob s' → D s'.heap v x → TKeep s.heap s'.heap →
      (∀ s'' as2 st2 ob2, Fm (c.guard wr s'.heap) as2 st2 ob2 s'' → TKeep s'.heap s''.heap → St (i + 1) s''.heap ∧ Fm c as2 st2 ob2 s'' ∧ ∀ b ∈ wr, b ∉ as2) → Qb v s') :
    wpAny c.g.M c.A (pyNext (.ref I)) (fun r s' => match r with | none => Qe s' | some v => wpAny c.g.M c.A (letOwnedTupleGo target (.ref I) v) (fun ζ s'' => Qb v s'') E s') E s := by
  have tkw : ∀ h', (∀ b o, b ∉ wr → s.heap.get? b = some o → h'.get? b = some o) → TKeep s.heap h' := fun h' hk b o e f => hk b o (fun m => by
    obtain ⟨o', e', n⟩ := W.nf i _ hst b m
    rw [e] at e'; cases e'
    exact n f) e
  have h0 : ∀ b ∈ wr, c.s₀.heap.get? b = none ∧ b ∉ as ∧ b ≠ c.env.locals ∧ (∀ x, c.env.cells.lookup x ≠ some b) ∧ c.g.hb.get? b = none ∧ ∀ p ∈ c.pr, p.1 ≠ b := fun b m => ⟨(W.wrc b m).1, hw b m, (W.wrc b m).2⟩
  rcases Nat.lt_or_ge i xs.length with hlt | hge
  · obtain ⟨x, hx⟩ : ∃ x, xs[i]? = some x := ⟨xs[i], by simp [hlt]⟩
    refine W.kt.item i s _ _ hlt hst fun v h' tk1 hm hk => ?_
    refine W.kt.go i v _ _ _ hm fun h'' hP hst' hk' => ?_
    have hkk : ∀ b o, b ∉ wr → s.heap.get? b = some o → h''.get? b = some o := fun b o n e => hk' b o n (hk b o n e)
    have tk2 := tkw _ hkk
    have F2 := F.foreign (s' := { s with heap := h'', toks := tk1 }) ⟨h'', tk1, rfl⟩ hkk tk2 h0
    refine hbody x hx v _ (F2.guarded fun b m => ⟨hw b m, (W.wrc b m).2.1, (W.wrc b m).2.2.1⟩) (W.rd i v _ x (tk.trans tk2) hP hx) tk2 fun s'' as2 st2 ob2 F3 t3 => ?_
    have alive : ∀ b ∈ wr, ∃ o, h''.get? b = some o := fun b m => let ⟨o, e, _⟩ := W.nf _ _ hst' b m; ⟨o, e⟩
    refine ⟨W.kt.frame _ _ _ hst' fun b m o e => ?_, F3.unguard, fun b m => ?_⟩
    · rcases W.fpc b m with h | ⟨o', e', f⟩ | ⟨o', e', n⟩ | ⟨o', hp⟩
      · exact F3.prk (b, o) (List.mem_append_left _ (mem_prOf.mpr ⟨h, e⟩))
      · have e2 := (tk.trans tk2) b o' (W.t12 b o' e' f) f
        have e : h''.get? b = some o := e
        rw [show ({ s with heap := h'', toks := tk1 } : Shared).heap.get? b = h''.get? b from rfl, e] at e2
        cases e2
        exact t3 b _ e f
      · have e1 := F2.ext b o' e' n
        have e2 := F3.ext b o' e' n
        have e : h''.get? b = some o := e
        rw [show ({ s with heap := h'', toks := tk1 } : Shared).heap.get? b = h''.get? b from rfl, e] at e1
        cases e1
        exact e2
      · have e1 := F2.prk _ hp
        have e : h''.get? b = some o := e
        rw [show ({ s with heap := h'', toks := tk1 } : Shared).heap.get? (b, o').1 = h''.get? b from rfl, e] at e1
        cases e1
        exact F3.prk _ (List.mem_append_right _ hp)
    · obtain ⟨o, e⟩ := alive b m
      exact F3.pra (b, o) (List.mem_append_left _ (mem_prOf.mpr ⟨m, e⟩))
  · obtain rfl : i = xs.length := Nat.le_antisymm hi hge
    refine W.kt.done s _ _ hst fun h' tk1 hk => ?_
    exact hend rfl _ (F.foreign (s' := { s with heap := h', toks := tk1 }) ⟨h', tk1, rfl⟩ hk (tkw _ hk) h0) (tkw _ hk)
end
end
/-! R4 -/
section
/-! ## comprehensions -/
theorem closure_go (env : Env) : ∀ (names : List (Str × NameKind)) (acc : List (Str × Addr)), (∀ y ∈ names, y.2 = .free → (env.cells.lookup y.1).isSome = true) →
    ∃ cl, (forIn names acc (fun (y : Str × NameKind) (cs : List (Str × Addr)) => if (y.2 == NameKind.free) = true then (do let a ← cellOf env y.1; pure (ForInStep.yield ((y.1, a) :: cs))) else pure (ForInStep.yield cs) : _) : Sem (List (Str × Addr))) = pure cl ∧
      (∀ x a, (x, a) ∈ cl → (x, a) ∈ acc ∨ env.cells.lookup x = some a) ∧ (∀ p ∈ acc, p ∈ cl) ∧ (∀ y ∈ names, y.2 = .free → ∃ a, (y.1, a) ∈ cl)
  | [], acc, _ => ⟨acc, by simp, fun x a h => .inl h, fun p h => h, by simp⟩
  | (n, k) :: r, acc, h => by
    rw [List.forIn_cons]
    by_cases hk : k = .free
    · subst hk
      obtain ⟨a, ha⟩ := Option.isSome_iff_exists.mp (h (n, .free) (by simp) rfl)
      obtain ⟨cl, e, h1, h2, h3⟩ := closure_go env r ((n, a) :: acc) fun y hy => h y (by simp [hy])
      refine ⟨cl, ?_, fun x b hb => ?_, fun p hp => h2 p (by simp [hp]), fun y hy hf => ?_⟩
      · have : cellOf env n = pure a := by unfold cellOf; rw [ha]
        simp only [beq_self_eq_true, if_true, this, pure_bind]
        exact e
      · rcases h1 x b hb with q | q
        · rcases List.mem_cons.mp q with q | q
          · cases q; exact .inr ha
          · exact .inl q
        · exact .inr q
      · rcases List.mem_cons.mp hy with rfl | hy
        · exact ⟨a, h2 _ (by simp)⟩
        · exact h3 y hy hf
    · obtain ⟨cl, e, h1, h2, h3⟩ := closure_go env r acc fun y hy => h y (by simp [hy])
      refine ⟨cl, ?_, h1, h2, fun y hy hf => ?_⟩
      · have : (k == NameKind.free) = false := by simpa using hk
        simp only [this, Bool.false_eq_true, if_false, pure_bind]
        exact e
      · rcases List.mem_cons.mp hy with rfl | hy
        · exact absurd hf hk
        · exact h3 y hy hf
theorem mem_lookup_some {α : Type} : ∀ {l : List (Str × α)} {x : Str} {v : α}, (x, v) ∈ l → ∃ v', l.lookup x = some v' ∧ (x, v') ∈ l
  | (k, u) :: r, x, v, m => by
    rw [List.lookup_cons]
    by_cases hx : x = k
    · subst hx; exact ⟨u, by simp, by simp⟩
    · have : (x == k) = false := by simpa using hx
      rw [this]
      rcases List.mem_cons.mp m with e | m
      · cases e; exact absurd rfl hx
      · obtain ⟨v', h1, h2⟩ := mem_lookup_some m
        exact ⟨v', h1, by simp [h2]⟩
theorem closure_some {scope : Scope} {env : Env} (h : ∀ y ∈ scope.names, y.2 = .free → (env.cells.lookup y.1).isSome = true) :
    ∃ cl, closureFor scope env = pure cl ∧ (∀ x a, cl.lookup x = some a → env.cells.lookup x = some a) ∧ (∀ y ∈ scope.names, y.2 = .free → (cl.lookup y.1).isSome = true) := by
  obtain ⟨cl, e, h1, _, h3⟩ := closure_go env scope.names [] h
  refine ⟨cl, ?_, fun x a q => ?_, fun y hy hf => ?_⟩
  · unfold closureFor
    exact (bind_pure _).trans e
  · rcases h1 x a (mem_of_lookup q) with q | q
    · cases q
    · exact q
  · obtain ⟨a, ha⟩ := h3 y hy hf
    obtain ⟨v, hv, _⟩ := mem_lookup_some ha
    rw [hv]; rfl
noncomputable def relab (scope scope0 : Scope) : Scope := { scope with names := scope.names.map fun (n, k) => if (k == .free && scope0.names.lookup n == some .cell) then (n, .cell) else (n, k) }
theorem relabel_eq {c : Cx} {scope scope0 : Scope} (kn : Kn c scope0) : relabel scope c.env = relab scope scope0 := by
  unfold relabel relab
  congr 1
  refine List.map_congr_left fun y ζ => ?_
  obtain ⟨n, k⟩ := y
  have h1 : c.env.scope.kind = .function := kn.sk
  simp only [h1, kn.kd n]
  simp
end
/-! R5 -/
section
structure Inner (c c' : Cx) (scope : Scope) (mu : List Nat) (n : Nat) : Prop where
  g : c'.g = c.g
  A : c'.A = c.A
  kn : Kn c' scope
  n₀ : c'.n₀ = n
  mu : c'.mu = mu
/-- the tests of a clause: none or one -/
structure Tst (c : Cx) (ifs : List Expr) (st : List (Str × Sl)) (ob : List Ob) (K : Bool → List Ob → Prop) : Prop where
  run : match ifs with
    | [] => K true ob
    | [t] => Et c t st ob K
    | _ => False
theorem Tst.none {c : Cx} {st : List (Str × Sl)} {ob : List Ob} {K : Bool → List Ob → Prop} (h : K true ob) : Tst c [] st ob K := ⟨h⟩
theorem Tst.one {c : Cx} {t : Expr} {st : List (Str × Sl)} {ob : List Ob} {K : Bool → List Ob → Prop} (h : Et c t st ob K) : Tst c [t] st ob K := ⟨h⟩
theorem Tst.go {c : Cx} {as : List Addr} {s : Shared} {ifs : List Expr} {st : List (Str × Sl)} {ob : List Ob} {K : Bool → List Ob → Prop} {E : Value → Shared → Prop} (h : Tst c ifs st ob K) (F : Fm c as st ob s) :
    wpAny c.g.M c.A (forIn ifs true fun e r => if r = true then do let ok ← isTrue e c.env (eval e c.env); pure (ForInStep.yield ok) else pure (ForInStep.yield r)) (Pt c as st s.heap K) E s := by
  match ifs, h with
  | [], ⟨h⟩ => exact wpAny_tests_nil ⟨ob, [], by simpa using F, TKeep.refl _, h⟩
  | [t], ⟨h⟩ => exact wpAny_tests_one (wpAny_mono (Et.run h as s F) (fun ζ ζ x => x) fun ζ ζ x => x.elim)
  | _ :: _ :: _, ⟨h⟩ => exact h.elim
inductive Pz (c : Cx) (as : List Addr) (st : List (Str × Sl)) (h : Heap) (K : List PyData → List Ob → Prop) (s' : Shared) : Prop
  | mk (zs : List PyData) (st' : List (Str × Sl)) (ob' : List Ob) (nw : List Addr) (F : Fm c (as ++ nw) st' ob' s') (l : ∀ x sl, st.lookup x = some sl → st'.lookup x = some sl) (t : TKeep h s'.heap) (k : K zs ob')
/-- what a turn adds to the list that is made, whose number is n -/
structure Emit (c : Cx) (emit : Env → Value → Sem Unit) (n : Nat) (st : List (Str × Sl)) (ob : List Ob) (K : List PyData → List Ob → Prop) : Prop where
  run : ∀ as s D, Fm c as st ob s → as[n]? = some D → wpAny c.g.M c.A (emit c.env (.ref D)) (fun ζ s' => Pz c as st s.heap K s') (fun ζ ζ => False) s
noncomputable abbrev TurnE (n : Nat) (T : List PyData → List Ob → Prop) (ys zs : List PyData) (ob3 : List Ob) : Prop := ∃ obM' g, ob3 = (obM' ++ [.list (ys ++ zs)]) ++ g ∧ obM'.length = n ∧ T (ys ++ zs) obM'
noncomputable abbrev TurnK (c' : Cx) (emit : Env → Value → Sem Unit) (n : Nat) (st : List (Str × Sl)) (T : List PyData → List Ob → Prop) (ys : List PyData) (b : Bool) (ob2 : List Ob) : Prop := if b = true then Emit c' emit n st ob2 (TurnE n T ys) else ∃ obM' g, ob2 = (obM' ++ [.list ys]) ++ g ∧ obM'.length = n ∧ T ys obM'
noncomputable def Turns (P : Cx → Prop) (emit : Env → Value → Sem Unit) (ifs : List Expr) (bd : PyData → List (Str × Sl)) (fst : List (Str × Sl)) (n : Nat) (K : List PyData → List Ob → Prop) : List PyData → List PyData → List Ob → Prop
  | [], ys, obM => K ys obM
  | x :: xs, ys, obM => ∀ c', P c' → Tst c' ifs (bd x ++ fst) (obM ++ [.list ys]) (TurnK c' emit n (bd x ++ fst) (Turns P emit ifs bd fst n K xs) ys)
theorem set_mid {α : Type} (l g : List α) (a b : α) : ((l ++ [a]) ++ g).set l.length b = (l ++ [b]) ++ g := by
  simp [List.set_append]
section
variable {c : Cx} {as : List Addr} {st : List (Str × Sl)} {ob : List Ob} {s s' : Shared}
/-- the turns of a comprehension's first clause -/
noncomputable def TurnWp (M : Model) (A : Around) (R : Result → Shared → Prop) (target : Expr) (ifs : List Expr) (emit : Env → Value → Sem Unit) (env : Env) (it acc : Value) (I : Shared → Prop) (s : Shared) : Prop :=
  wpAny M A (pyNext it) (fun r s₁ => match r with
      | none => R (.ok .next) s₁
      | some v => wpAny M A (letOwnedTupleGo target it v) (fun ζ s₁' => wpAny M A (assign target env v) (fun ζ s₂ =>
          wpAny M A (forIn ifs true fun c r => if r = true then do let ok ← isTrue c env (eval c env); pure (ForInStep.yield ok) else pure (ForInStep.yield r)) (fun ok s₃ =>
            if ok = true then wpAny M A (emit env acc) (fun ζ s₅ => I s₅) (fun ζ ζ => False) s₃
            else I s₃) (fun ζ ζ => False) s₂) (fun ζ ζ => False) s₁') (fun ζ ζ => False) s₁) (fun ζ ζ => False) s
noncomputable def LoopOk (M : Model) (A : Around) (e target : Expr) (ifs : List Expr) (emit : Env → Value → Sem Unit) : Prop :=
  ∀ (R : Result → Shared → Prop) (s : Shared) (it acc : Value) (env : Env) (I : Nat → Shared → Prop), (∀ n s, I n s → TurnWp M A R target ifs emit env it acc (fun s' => ∃ m, m < n ∧ I m s') s) → ∀ n, I n s → codeAny M A (.compLoop e 0 it acc env) R s
noncomputable def emit1 (elt : Expr) (env : Env) (acc : Value) : Sem Unit := do let _ ← call (.builtin "list.append") [acc, ← eval elt env]
theorem loopOk_one {prog : Program} {w : World} {A : Around} {elt target iter : Expr} {ifs : List Expr} {scope : Scope} {pos : Pos} : LoopOk (model prog w) A (.ListComp elt [⟨target, iter, ifs, 0⟩] scope pos) target ifs (emit1 elt) := by
  intro R s it acc env I turn n h
  refine codeAny_loop rfl I (fun n s hI => ?_) n h
  show wpAny _ A ((compTurn (.ListComp elt [⟨target, iter, ifs, 0⟩] scope pos) 0 it acc env).onRaise (fun x => do noteFrame x env; theTreesLotGoes x)) _ _ s
  refine wpAny_noted ?_
  rw [compTurn_list]
  refine wpAny_bind (wpAny_standAt (wpAny_bind (wpAny_mono (turn n s hI) (fun r s₁ h₁ => ?_) fun ζ ζ h' => h'.elim)))
  cases r with
  | none => exact wpAny_pure h₁
  | some v =>
    refine wpAny_bind (wpAny_mono h₁ (fun ζ s₁' h₁' => ?_) fun ζ ζ h' => h'.elim)
    refine wpAny_bind (wpAny_mono h₁' (fun ζ s₂ h₂ => wpAny_bind (wpAny_mono h₂ (fun ok s₃ h₃ => ?_) fun ζ ζ h' => h'.elim)) fun ζ ζ h' => h'.elim)
    cases ok with
    | false => exact wpAny_pure ⟨rfl, h₃⟩
    | true => exact wpAny_bind (wpAny_mono h₃ (fun x s₄ h₄ => wpAny_pure ⟨rfl, h₄⟩) fun ζ ζ h' => h'.elim)
inductive OneQ (n : Nat) (K : List PyData → List Ob → Prop) (v : Sl) (ob3 : List Ob) : Prop
  | mk (y : PyData) (ys : List PyData) (obM' g : List Ob) (e : v = .dat y) (e2 : ob3 = (obM' ++ [.list ys]) ++ g) (hl : obM'.length = n) (hy : ys.length ≤ 1000) (k : K [y] ((obM' ++ [.list (ys ++ [y])]) ++ g))
theorem Emit.one {n : Nat} {elt : Expr} {K : List PyData → List Ob → Prop} (hn : c.n₀ ≤ n) (h : Ev c elt st ob (OneQ n K)) : Emit c (emit1 elt) n st ob K := by
  refine ⟨fun as s D F hD => ?_⟩
  refine wpAny_bind (wpAny_mono (h.run as s F) (fun y s7 h7 => ?_) fun ζ ζ x => x)
  obtain ⟨sl7, ob7, nw7, F7, hsl7, t7, yd, ys, obM', g, rfl, e7, hl7, hy, k⟩ := h7
  subst e7
  refine wpAny_bind (wpAny_mono ((On.append (i := obM'.length) (xs := ys) (x := yd) (K := fun ζ ob8 => ob8 = ((obM' ++ [Ob.list ys]) ++ g).set obM'.length (Ob.list (ys ++ [yd]))) (by simp [List.append_assoc]) (.inl (by lia)) hy rfl).run _ s7 [.ref D, y] s7.heap F7 (.cons ⟨D, by rw [hl7]; exact getElem?_app hD, rfl⟩ (.cons hsl7 .nil)) (TKeep.refl _)) (fun v s8 h8 => ?_) fun ζ ζ x => x)
  obtain ⟨sl8, ob8, nw8, F8, _, t8, rfl⟩ := h8
  rw [set_mid] at F8
  exact wpAny_pure ⟨[yd], st, _, nw7 ++ nw8, by simpa [List.append_assoc] using F8, fun ζ ζ e => e, t7.trans t8, k⟩
/-- the inner frame of a comprehension -/
noncomputable def Cx.comp (c : Cx) (scope : Scope) (cl : List (Str × Addr)) (C : Addr) (s₁ : Shared) (n : Nat) (mu : List Nat) (as : List Addr) : Cx :=
  { g := c.g, A := c.A, env := compEnvC scope cl C c.env, s₀ := s₁, n₀ := n, mu := mu, X := pick as mu, pr := c.pr, wc := false }
theorem pick_not {as : List Addr} (nd : as.Nodup) {mu : List Nat} {i : Nat} {a : Addr} (e : as[i]? = some a) (h : i ∉ mu) : a ∉ pick as mu := fun hX => by
  obtain ⟨j, hj, hja⟩ := List.mem_filterMap.mp hX
  have := (List.getElem?_inj (List.getElem?_eq_some_iff.mp hja).1 nd).mp (hja.trans e.symm)
  exact h (this ▸ hj)
theorem pick_sub {as : List Addr} {mu : List Nat} {a : Addr} (h : a ∈ pick as mu) : ∃ i ∈ mu, as[i]? = some a := by
  obtain ⟨j, hj, hja⟩ := List.mem_filterMap.mp h
  exact ⟨j, hj, hja⟩
theorem pick_in {as : List Addr} {mu : List Nat} {i : Nat} {a : Addr} (h : i ∈ mu) (e : as[i]? = some a) : a ∈ pick as mu := List.mem_filterMap.mpr ⟨i, h, e⟩
theorem Fm.alive' (F : Fm c as st ob s) {a : Addr} (m : a ∈ as) : ∃ o, s.heap.get? a = some o := by
  cases q : s.heap.get? a with
  | none => exact absurd q (F.alive m)
  | some o => exact ⟨o, rfl⟩
theorem Fm.inner {scope scope0 : Scope} {cl : List (Str × Addr)} {C D : Addr} {s₄ : Shared} {mu : List Nat} {fst : List (Str × Sl)} (F : Fm c as st ob s) (kn : Kn c scope0) (hkind : scope.kind = .function)
    (hfree : ∀ y ∈ scope.names, y.2 = .free → scope0.names.lookup y.1 = some .cell) (hcl1 : ∀ x a, cl.lookup x = some a → c.env.cells.lookup x = some a) (hcl2 : ∀ y ∈ scope.names, y.2 = .free → (cl.lookup y.1).isSome = true)
    (hfst : ∀ x sl, fst.lookup x = some sl → st.lookup x = some sl ∧ (relab scope scope0).names.lookup x = some .cell ∧ (x, NameKind.free) ∈ scope.names)
    (hs : Same s s₄) (hk : Keep s.heap s₄.heap) (hC : s.heap.get? C = none) (hD : s.heap.get? D = none) (hCD : C ≠ D) (hD4 : (Ob.list []).At c.g s₄.heap D) (hC4 : ∃ m, s₄.heap.Ns C m) :
    Fm (c.comp scope cl C s ob.length mu as) (as ++ [D]) fst (ob ++ [.list []]) s₄ := by
  have hlen : as.length = ob.length := F.obs.length
  have none_hb : ∀ a, s.heap.get? a = none → c.g.hb.get? a = none := fun a e => by
    cases q : c.g.hb.get? a with
    | none => rfl
    | some o => rw [F.base a o q] at e; cases e
  have nin : ∀ a, s.heap.get? a = none → a ∉ as := fun a e m => F.alive m e
  have key : ∀ (i : Nat) (b : Addr), (as ++ [D])[i]? = some b → as[i]? = some b ∨ (i = as.length ∧ b = D) := by
    intro i b e
    by_cases hi : i < as.length
    · rw [List.getElem?_append_left hi] at e; exact .inl e
    · rw [List.getElem?_append_right (by lia)] at e
      have : i - as.length = 0 := by
        have := (List.getElem?_eq_some_iff.mp e).1
        simp at this; lia
      rw [this] at e; simp at e
      exact .inr ⟨by lia, e.symm⟩
  exact {
    same := hs
    base := fun b o e => hk b o (F.base b o e)
    ext := Ext.of_keep _ hk
    xin := fun a m => by
      obtain ⟨i, _, e⟩ := pick_sub m
      exact List.mem_append_left _ (List.mem_of_getElem? e)
    nd := List.nodup_append.mpr ⟨F.nd, by simp, fun x hx y hy => by simp at hy; subst hy; exact fun e => nin _ hD (e ▸ hx)⟩
    own := fun i a e hh => by
      rcases key i a e with e' | ⟨_, rfl⟩
      · rcases hh with hh | hh
        · have := (List.getElem?_eq_some_iff.mp e').1
          have hh : ob.length ≤ i := hh
          lia
        · exact .inr (pick_in hh e')
      · exact .inl hD
    afr := fun i a e hh => by
      rcases key i a e with e' | ⟨_, rfl⟩
      · have := (List.getElem?_eq_some_iff.mp e').1
        have hh : ob.length ≤ i := hh
        lia
      · exact hD
    hbn := fun a m => by
      rcases List.mem_append.mp m with m | m
      · exact F.hbn a m
      · simp at m; subst m; exact none_hb _ hD
    obs := Obs.mk (by simp [hlen]) fun i a o h1 h2 => by
      rcases key i a h1 with e | ⟨hi, rfl⟩
      · have hl : i < ob.length := by rw [← hlen]; exact (List.getElem?_eq_some_iff.mp e).1
        rw [List.getElem?_append_left hl] at h2
        obtain ⟨o'', h3, h4⟩ := F.obs.get e
        rw [h2] at h3; cases h3
        exact h4.keep (TKeep.of_keep hk) fun ob e => hk _ _ e
      · subst hi
        rw [List.getElem?_append_right (by rw [hlen]; exact Nat.le_refl _), hlen] at h2
        simp at h2; subst h2; exact hD4
    ns := hC4
    lap := fun m => by
      rcases List.mem_append.mp m with m | m
      · exact nin _ hC m
      · simp at m; exact hCD m
    lhb := none_hb _ hC
    lfr := hC
    cis := fun x a e => by
      obtain ⟨v, o, h1, r⟩ := F.cis x a (hcl1 x a e)
      exact ⟨v, o, hk _ _ h1, r⟩
    cap := fun x y a e1 e2 => F.cap x y a (hcl1 _ _ e1) (hcl1 _ _ e2)
    cfr := fun q => by cases q
    chb := fun x a e => F.chb x a (hcl1 _ _ e)
    vars := fun x sl e => by
      obtain ⟨h1, h2, h3⟩ := hfst x sl e
      obtain ⟨v, hv, hsl⟩ := F.vars x sl h1
      refine ⟨v, ?_, hsl.up (TKeep.of_keep hk) _⟩
      have hx : c.env.kindOf x = some .cell := (kn.kd x).trans (hfree _ h3 rfl)
      rcases hv with ⟨hk', _⟩ | ⟨_, a, ha, o, ho, hd⟩
      · rw [hx] at hk'; cases hk'
      · obtain ⟨a', ha'⟩ := Option.isSome_iff_exists.mp (hcl2 _ h3 rfl)
        have := hcl1 _ _ ha'
        rw [ha] at this; cases this
        refine .inr ⟨.inl ?_, a, ha', o, hk _ _ ho, hd⟩
        show (relabel scope c.env).names.lookup x = _
        rw [relabel_eq kn]; exact h2
    kind := by show (relabel scope c.env).kind = _; simpa [relabel] using hkind
    par := fun i a e hi => by
      rcases key i a e with e' | ⟨hh, _⟩
      · exact ⟨F.alive' (List.mem_of_getElem? e'), fun hm => pick_not F.nd e' hm⟩
      · have hi : i < ob.length := hi
        lia
    npl := by show ob.length ≤ (as ++ [D]).length; simp; lia
    prk := fun p m => hk _ _ (F.prk p m)
    pra := fun p m q => by
      rcases List.mem_append.mp q with q | q
      · exact F.pra p m q
      · simp at q
        have := F.prk p m
        rw [q, hD] at this; cases this
    prl := fun p m q => by
      have := F.prk p m
      rw [q] at this
      rw [show s.heap.get? (c.comp scope cl C s ob.length mu as).env.locals = s.heap.get? C from rfl, hC] at this; cases this
    prc := fun p m x q => F.prc p m x (hcl1 _ _ q) }
theorem Kn.comp {scope scope0 : Scope} {cl : List (Str × Addr)} {C : Addr} {s₁ : Shared} {n : Nat} {mu : List Nat} (kn : Kn c scope0) (hkind : scope.kind = .function) (hcell : ∀ y ∈ scope.names, y.2 ≠ .cell)
    (hcl2 : ∀ y ∈ scope.names, y.2 = .free → (cl.lookup y.1).isSome = true) : Kn (c.comp scope cl C s₁ n mu as) (relab scope scope0) where
  kd := fun x => by
    show (relabel scope c.env).names.lookup x = _
    rw [relabel_eq kn]
  gl := kn.gl
  bt := kn.bt
  cl := fun x e => by
    have hm := mem_of_lookup e
    obtain ⟨y, hy, e'⟩ := List.mem_map.mp hm
    obtain ⟨n, k⟩ := y
    simp only at e'
    split at e'
    · rename_i hc
      simp only [Bool.and_eq_true, beq_iff_eq] at hc
      simp only [Prod.mk.injEq] at e'
      exact e'.1 ▸ hcl2 (n, k) hy hc.1
    · simp only [Prod.mk.injEq] at e'
      exact absurd e'.2 (hcell _ hy)
  sk := by show (relabel scope c.env).kind = _; simpa [relabel] using hkind
  sc := by show relabel scope c.env = _; rw [relabel_eq kn]
theorem Kn.guard {scope : Scope} (kn : Kn c scope) (wr : List Addr) (h : Heap) : Kn (c.guard wr h) scope := ⟨kn.kd, kn.gl, kn.bt, kn.cl, kn.sk, kn.sc⟩
end
end
/-! R6 -/
section
section
variable {c : Cx} {as : List Addr} {st : List (Str × Sl)} {ob : List Ob} {s s' : Shared}
inductive CEnd (c : Cx) (as : List Addr) (st : List (Str × Sl)) (h : Heap) (K : Sl → List Ob → Prop) (D C : Addr) (s' : Shared) : Prop
  | mk (n1 : List Addr) (obM : List Ob) (i : Nat) (F : Fm c (as ++ n1) st obM s') (hd : (as ++ n1)[i]? = some D) (t : TKeep h s'.heap) (hm : ∃ m, s'.heap.Ns C m)
    (hf : c.s₀.heap.get? C = none ∧ C ∉ as ++ n1 ∧ C ≠ c.env.locals ∧ (∀ x, c.env.cells.lookup x ≠ some C) ∧ c.g.hb.get? C = none ∧ ∀ p ∈ c.pr, p.1 ≠ C) (k : K (.obj i) obM)
inductive CompQ (c : Cx) (emit : Env → Value → Sem Unit) (target : Expr) (ifs : List Expr) (scope scope0 : Scope) (fst : List (Str × Sl)) (K : Sl → List Ob → Prop) (xs : List PyData) (fz : List Nat) (ob1 : List Ob) : Prop
  | mk (mu : List Nat) (bd : PyData → List (Str × Sl)) (h1 : ∀ i ∈ mu, c.n₀ ≤ i ∨ i ∈ c.mu) (h2 : ∀ j ∈ fz, j ∉ mu) (h3 : ∀ c', Inner c c' (relab scope scope0) mu ob1.length → ∀ x ∈ xs, Asg c' target x (bd x)) (h4 : ∀ x ∈ xs, ∀ p ∈ bd x, fst.lookup p.1 = none)
      (h5 : Turns (fun c' => Inner c c' (relab scope scope0) mu ob1.length) emit ifs bd fst ob1.length (fun ys obM => K (.obj ob1.length) (obM ++ [.list ys])) xs [] ob1)
inductive CompI (c : Cx) (as : List Addr) (fst : List (Str × Sl)) (n len : Nat) (St : Nat → Heap → Prop) (h : Heap) (T : Nat → List PyData → List Ob → Prop) (k : Nat) (s' : Shared) : Prop
  | mk (i : Nat) (ys : List PyData) (obM : List Ob) (e : k = len + 1 - i) (hi : i ≤ len) (ho : obM.length = n) (F : Fm c as fst (obM ++ [.list ys]) s') (st : St i s'.heap) (t : TKeep h s'.heap) (k : T i ys obM)
theorem last_get {α : Type} (l : List α) (a : α) : (l ++ [a])[l.length]? = some a := by simp
theorem lookup_app {l fst : List (Str × Sl)} (h : ∀ p ∈ l, fst.lookup p.1 = none) {x : Str} {sl : Sl} (e : fst.lookup x = some sl) : (l ++ fst).lookup x = some sl := by
  induction l with
  | nil => exact e
  | cons p l ih =>
    obtain ⟨n, v⟩ := p
    rw [List.cons_append, List.lookup_cons]
    have hn := h (n, v) (by simp)
    have : (x == n) = false := by
      simp only [beq_eq_false_iff_ne, ne_eq]
      rintro rfl
      rw [e] at hn; cases hn
    rw [this]
    exact ih fun q hq => h q (by simp [hq])
/-- all that is fresh is nobody's -/
theorem Fm.fresh (F : Fm c as st ob s) {a : Addr} (h : s.heap.get? a = none) : c.s₀.heap.get? a = none ∧ a ∉ as ∧ a ≠ c.env.locals ∧ (∀ x, c.env.cells.lookup x ≠ some a) ∧ c.g.hb.get? a = none ∧ ∀ p ∈ c.pr, p.1 ≠ a := by
  refine ⟨F.old h, fun m => F.alive m h, ?_, fun x e => ?_, ?_, fun p m q => ?_⟩
  · rintro rfl
    obtain ⟨_, o, _, _, h1, _⟩ := F.ns
    rw [h] at h1; cases h1
  · obtain ⟨_, o, h1, _⟩ := F.cis x a e
    rw [h] at h1; cases h1
  · cases q : c.g.hb.get? a with
    | none => rfl
    | some o => rw [F.base a o q] at h; cases h
  · have := F.prk p m
    rw [q, h] at this; cases this
theorem comp_core {e target iter : Expr} {emit : Env → Value → Sem Unit} {ifs : List Expr} {scope scope0 : Scope} {fst : List (Str × Sl)} {K : Sl → List Ob → Prop} {RR : Value → Addr → Result → Shared → Prop} (hloop : LoopOk c.g.M c.A e target ifs emit) (hstart : ∀ (R : Result → Shared → Prop) (s : Shared) (it acc : Value) (env : Env), codeAny c.g.M c.A (.compLoop e 0 it acc env) R s → wpAny c.g.M c.A (pyIter it) (fun it' s' => codeAny c.g.M c.A (.compLoop e 0 it' acc env) R s') (fun ζ ζ => False) s → codeAny c.g.M c.A (.compStart e 0 it acc env) R s)
    (kn : Kn c scope0) (hh : c.A.handled = none) (hkind : scope.kind = .function) (hcell : ∀ y ∈ scope.names, y.2 ≠ .cell)
    (hfree : ∀ y ∈ scope.names, y.2 = .free → scope0.names.lookup y.1 = some .cell)
    (hfst : ∀ x sl, fst.lookup x = some sl → st.lookup x = some sl ∧ (relab scope scope0).names.lookup x = some .cell ∧ (x, NameKind.free) ∈ scope.names)
    (F : Fm c as st ob s)
    (h : It c iter target st ob (CompQ c emit target ifs scope scope0 fst K))
    (hRR : ∀ D C s', CEnd c as st s.heap K D C s' → RR (.ref D) C (.ok .next) s') :
    ∃ cl, closureFor scope c.env = pure cl ∧ wpAny c.g.M c.A (eval iter c.env) (fun xv s₁ => wpAny c.g.M c.A (pyIter xv) (fun it s₂ => wpAny c.g.M c.A (newList []) (fun acc s₃ =>
      wpAny c.g.M c.A (newFunctionEnv scope c.env.globals cl [] c.env.qual none .none (some c.env)) (fun cenv s₄ =>
        codeAny c.g.M c.A (.compStart e 0 it acc { cenv with scope := relabel scope c.env }) (RR acc cenv.locals) s₄) (fun ζ ζ => False) s₃) (fun ζ ζ => False) s₂) (fun ζ ζ => False) s₁) (fun ζ ζ => False) s := by
  obtain ⟨cl, hclos, hcl1, hcl2⟩ := closure_some (scope := scope) (env := c.env) fun y hy hf => kn.cl _ (hfree y hy hf)
  refine ⟨cl, hclos, wpAny_mono (h.run as s F) (fun xv s1' h1 => wpAny_mono h1 (fun it s₂ h2 => ?_) fun ζ ζ x => x) fun ζ ζ x => x⟩
  obtain ⟨s₁, n1, ob1, I, fp, wr, P, Md, St, xs, fz, rfl, F1, t1, hsame, hkeep, KT, hst, hfp, hwr0, hnf, hfpc, hrd, hself, hlen, mu, bd, hmu, hfz, hasg, hbd, hturns⟩ := h2
  refine wpAny_newObj_type (wpAny_newFunctionEnv hcell (by intro y hy; simp at hy) (fun h₁ hns₁ hsb₁ => ?_) hkind)
  dsimp only at hns₁ hsb₁ ⊢
  generalize hH2 : s₂.heap.push { cls := .type "list", dict := none, data := .seq ([] : List Value).toArray } = H2 at hns₁ hsb₁ ⊢
  have hC : H2.objs.size = s₂.heap.objs.size + 1 := by rw [← hH2, Heap.size_push]
  have hDC : s₂.heap.objs.size ≠ H2.objs.size := by rw [hC]; exact Nat.ne_of_lt (Nat.lt_succ_self _)
  have below : ∀ b, b < s₂.heap.objs.size → b ≠ H2.objs.size ∧ b ≠ s₂.heap.objs.size := fun b hb => ⟨by rw [hC]; exact Nat.ne_of_lt (Nat.lt_succ_of_lt hb), Nat.ne_of_lt hb⟩
  have old : ∀ b o, s₂.heap.get? b = some o → h₁.get? b = some o := fun b o e => hsb₁.extBut b o (below b (Heap.lt_size e)).1 (Heap.get?_push_of_some _ (hH2 ▸ Heap.get?_push_of_some _ e))
  have hacc : h₁.get? s₂.heap.objs.size = some { cls := .type "list", data := .seq #[] } := hsb₁.extBut _ _ hDC (Heap.get?_push_of_some _ (hH2 ▸ Heap.get?_push_size _ rfl))
  have none1 : ∀ a, s₂.heap.objs.size ≤ a → s₁.heap.get? a = none := fun a ha => by
    cases e : s₁.heap.get? a with
    | none => rfl
    | some o' => exact absurd (Heap.lt_size (hkeep _ _ e)) (Nat.not_lt.mpr ha)
  have hD1 := none1 s₂.heap.objs.size (Nat.le_refl _)
  have hC1 := none1 H2.objs.size (by rw [hC]; exact Nat.le_succ _)
  have hk14 : Keep s₁.heap h₁ := fun b o e => old b o (hkeep b o e)
  have hla : (as ++ n1).length = ob1.length := F1.obs.length
  have hla' : as.length + n1.length = ob1.length := by simpa using hla
  generalize hs4 : ({ s₂ with heap := h₁, toks := s₂.toks + ([] : List (Str × Value)).length } : Shared) = s₄
  have hh4 : s₄.heap = h₁ := by rw [← hs4]
  have FI : Fm (c.comp scope cl H2.objs.size s₁ ob1.length mu (as ++ n1)) (as ++ n1 ++ [s₂.heap.objs.size]) fst (ob1 ++ [.list []]) s₄ := by
    refine F1.inner kn hkind hfree hcl1 hcl2 hfst (hsame.trans ⟨h₁, _, hs4.symm⟩) (by rw [hh4]; exact hk14) hC1 hD1 hDC.symm ?_ ⟨_, by rw [hh4]; exact hns₁⟩
    rw [hh4]
    exact ⟨#[], 0, hacc, .nil⟩
  have W : Wlk (c.comp scope cl H2.objs.size s₁ ob1.length mu (as ++ n1)) target I fp wr P Md St xs s₁.heap s₂.heap := {
    kt := KT
    t12 := TKeep.of_keep hkeep
    nf := hnf
    fpc := fun b hb => by
      rcases hfpc b hb with h | h | ⟨j, hj, e⟩
      · exact .inl h
      · exact .inr (.inl h)
      · exact .inr (.inr (.inl ⟨(F1.alive' (List.mem_of_getElem? e)).choose, (F1.alive' (List.mem_of_getElem? e)).choose_spec, pick_not F1.nd e (hfz j hj)⟩))
    rd := hrd
    wrc := fun b hb => by
      have hf := F1.fresh (hwr0 b hb)
      refine ⟨hwr0 b hb, (below b (hfp b (KT.sub b hb))).1, fun x e => hf.2.2.2.1 x (hcl1 x b e), hf.2.2.2.2.1, hf.2.2.2.2.2⟩ }
  have hw : ∀ b ∈ wr, b ∉ as ++ n1 ++ [s₂.heap.objs.size] := fun b hb m => by
    rcases List.mem_append.mp m with m | m
    · exact (F1.fresh (hwr0 b hb)).2.1 m
    · simp at m
      exact (below b (hfp b (KT.sub b hb))).2 m
  have hinn : ∀ wr h, Inner c ((c.comp scope cl H2.objs.size s₁ ob1.length mu (as ++ n1)).guard wr h) (relab scope scope0) mu ob1.length := fun wr h =>
    ⟨rfl, rfl, Kn.guard (Kn.comp kn hkind hcell hcl2) wr h, rfl, rfl⟩
  have loop : codeAny c.g.M c.A (.compLoop e 0 (.ref I) (.ref s₂.heap.objs.size) (compEnvC scope cl H2.objs.size c.env)) (RR (.ref s₂.heap.objs.size) H2.objs.size) s₄ := by
    refine hloop _ _ _ _ _ (CompI (c.comp scope cl H2.objs.size s₁ ob1.length mu (as ++ n1)) (as ++ n1 ++ [s₂.heap.objs.size]) fst ob1.length xs.length St s₂.heap (fun i => Turns (fun c' => Inner c c' (relab scope scope0) mu ob1.length) emit ifs bd fst ob1.length (fun ys obM => K (.obj ob1.length) (obM ++ [.list ys])) (xs.drop i))) ?_ (xs.length + 1)
      ⟨0, [], ob1, rfl, Nat.zero_le _, rfl, FI, ?_, ?_, hturns⟩
    · rintro k s' ⟨i, ys, obM, rfl, hi, hoM, F', hst', tk', T⟩
      refine W.turn F' hw hi hst' tk' (Qe := RR (.ref s₂.heap.objs.size) H2.objs.size (.ok .next)) (Qb := fun v s₁' => wpAny c.g.M c.A (assign target (compEnvC scope cl H2.objs.size c.env) v) _ _ s₁') (fun hi' s3 F3 t3 => ?_) fun x hx v s3 F3 dv t3 hback => ?_
      · subst hi'
        rw [List.drop_length] at T
        have hX : Ext (pick (as ++ n1) mu) s₁.heap s3.heap := F3.ext
        have F4 : Fm c (as ++ n1) st obM s3 := by
          refine F1.step (Y := pick (as ++ n1) mu) F3.same hX (fun a m => ?_) (Obs.mk (hla.trans hoM.symm) fun i a o h1 h2 => ?_)
          · obtain ⟨i, hi, e⟩ := pick_sub m
            exact ⟨List.mem_of_getElem? e, F1.own i a e (hmu i hi)⟩
          · obtain ⟨o', h3, h4⟩ := F3.obs.get (getElem?_app h1)
            have hi : i < obM.length := (List.getElem?_eq_some_iff.mp h2).1
            rw [List.getElem?_append_left hi, h2] at h3
            cases h3; exact h4
        have hDf := F1.fresh hD1
        have hCf := F1.fresh hC1
        have hat : (Ob.list ys).At c.g s3.heap s₂.heap.objs.size := by
          obtain ⟨o', h3, h4⟩ := F3.obs.get (i := obM.length) (a := s₂.heap.objs.size) (by rw [hoM, ← hla]; exact last_get _ _)
          simp at h3; subst h3; exact h4
        have F5 := F4.join hDf.1 hDf.2.1 hDf.2.2.2.2.1 hDf.2.2.1 hDf.2.2.2.2.2 hat
        refine hRR _ _ _ ⟨n1 ++ [s₂.heap.objs.size], obM ++ [.list ys], obM.length, by rw [← List.append_assoc]; exact F5, by rw [← List.append_assoc, hoM, ← hla]; exact last_get _ _, t1.trans ((TKeep.of_keep hkeep).trans (tk'.trans t3)), F3.ns, ⟨hCf.1, fun m => ?_, hCf.2.2⟩, by rw [hoM]; exact T⟩
        rw [← List.append_assoc] at m
        rcases List.mem_append.mp m with m | m
        · exact hCf.2.1 m
        · simp at m; exact hDC m.symm
      · have hlt : i < xs.length := (List.getElem?_eq_some_iff.mp hx).1
        have hd : xs.drop i = x :: xs.drop (i + 1) := by
          rw [List.drop_eq_getElem_cons hlt]
          congr 1
          exact (List.getElem?_eq_some_iff.mp hx).2
        rw [hd] at T
        have T' := T _ (hinn wr s3.heap)
        refine (hasg _ (hinn wr s3.heap) x (List.mem_of_getElem? hx)).run _ _ _ _ _ _ _ F3 dv fun s5 F5 t5 => ?_
        refine wpAny_mono (T'.go F5) (fun b s6 h6 => ?_) fun ζ ζ x => x
        obtain ⟨ob6, nw6, F6, t6, T6⟩ := h6
        have fin : ∀ (ys' : List PyData) (obM' g : List Ob) (nw : List Addr) (st7 : List (Str × Sl)) (ob7 : List Ob) (s7 : Shared), Fm ((c.comp scope cl H2.objs.size s₁ ob1.length mu (as ++ n1)).guard wr s3.heap) (as ++ n1 ++ [s₂.heap.objs.size] ++ nw) st7 ob7 s7 → ob7 = (obM' ++ [.list ys']) ++ g → obM'.length = ob1.length →
            TKeep s3.heap s7.heap → (∀ x sl, fst.lookup x = some sl → st7.lookup x = some sl) → Turns (fun c' => Inner c c' (relab scope scope0) mu ob1.length) emit ifs bd fst ob1.length (fun ys obM => K (.obj ob1.length) (obM ++ [.list ys])) (xs.drop (i + 1)) ys' obM' →
            ∃ m, m < xs.length + 1 - i ∧ CompI (c.comp scope cl H2.objs.size s₁ ob1.length mu (as ++ n1)) (as ++ n1 ++ [s₂.heap.objs.size]) fst ob1.length xs.length St s₂.heap (fun i => Turns (fun c' => Inner c c' (relab scope scope0) mu ob1.length) emit ifs bd fst ob1.length (fun ys obM => K (.obj ob1.length) (obM ++ [.list ys])) (xs.drop i)) m s7 := by
          intro ys' obM' g nw st7 ob7 s7 F7 e7 hl7 t7 hst7 T7
          have F8 := Fm.cut (ob' := obM' ++ [.list ys']) (obG := g) (st' := fst) F7 (by simp [hl7]; lia) e7 (by show ob1.length ≤ _; simp; lia) (fun a m => by
            obtain ⟨j, _, e⟩ := pick_sub (show a ∈ pick (as ++ n1) mu from m)
            exact List.mem_append_left _ (List.mem_of_getElem? e)) (fun x sl e => ⟨hst7 x sl e, by
              obtain ⟨v, _, hsl⟩ := FI.vars x sl e
              exact hsl.below⟩)
          obtain ⟨h1, h2, _⟩ := hback _ _ _ _ F8 t7
          exact ⟨xs.length + 1 - (i + 1), by lia, i + 1, ys', obM', rfl, hlt, hl7, h2, h1, tk'.trans (t3.trans t7), T7⟩
        have hsub : ∀ x' sl, fst.lookup x' = some sl → (bd x ++ fst).lookup x' = some sl := fun x' sl e => lookup_app (hbd x (List.mem_of_getElem? hx)) e
        cases b with
        | false =>
          rw [if_neg (by simp)]
          obtain ⟨obM', g, e6, hl6, T7⟩ := T6
          exact fin ys obM' g nw6 _ _ s6 F6 e6 hl6 (t5.trans t6) hsub T7
        | true =>
          rw [if_pos rfl]
          have T6 : Emit _ _ _ _ _ _ := T6
          refine wpAny_mono (T6.run _ s6 s₂.heap.objs.size F6 (by rw [← hla, List.append_assoc (as ++ n1), List.getElem?_append_right (Nat.le_refl _)]; simp)) (fun ζ s7 h7 => ?_) fun ζ ζ x => x
          obtain ⟨zs, st7, ob7, nw7, F7, hst7, t7, obM', g, e7, hl7, T7⟩ := h7
          rw [List.append_assoc (as ++ n1 ++ [s₂.heap.objs.size])] at F7
          exact fin (ys ++ zs) obM' g (nw6 ++ nw7) _ _ s7 F7 e7 hl7 ((t5.trans t6).trans t7) (fun x sl q => hst7 x sl (hsub x sl q)) T7
    · rw [hh4]
      exact KT.frame _ _ _ hst fun b ζ o e => old b o e
    · rw [hh4]; exact TKeep.of_keep old
  subst hs4
  exact hstart _ _ _ _ _ loop (hself _ _ _ (KT.frame _ _ _ hst fun b ζ o e => old b o e) loop)
end
end
/-! R8 -/
section
noncomputable def emit2 (elt t0 i0 t1 i1 : Expr) (ifs0 : List Expr) (scope : Scope) (pos : Pos) (env : Env) (acc : Value) : Sem Unit := do
  let x ← eval i1 env
  standAt i1.pos
  let x ← foldedSetIterable i1 env x
  let _ ← runOwn (.compStart (.ListComp elt [⟨t0, i0, ifs0, 0⟩, ⟨t1, i1, [], 0⟩] scope pos) 1 (← holding [x] (pyIter x)) acc env) env
theorem compTurn_two0 (elt t0 i0 t1 i1 : Expr) (ifs0 : List Expr) (scope : Scope) (pos : Pos) (it acc : Value) (env : Env) :
    compTurn (.ListComp elt [⟨t0, i0, ifs0, 0⟩, ⟨t1, i1, [], 0⟩] scope pos) 0 it acc env = (do
      standAt i0.pos
      match ← pyNext it with
      | none => pure (.done .next)
      | some v =>
        letOwnedTupleGo t0 it v
        assign t0 env v
        let mut ok := true
        for c in ifs0 do
          if ok then ok ← isTrue c env (eval c env)
        if ok then
          let x ← eval i1 env
          standAt i1.pos
          let x ← foldedSetIterable i1 env x
          let _ ← runOwn (.compStart (.ListComp elt [⟨t0, i0, ifs0, 0⟩, ⟨t1, i1, [], 0⟩] scope pos) 1 (← holding [x] (pyIter x)) acc env) env
        again (.compLoop (.ListComp elt [⟨t0, i0, ifs0, 0⟩, ⟨t1, i1, [], 0⟩] scope pos) 0 it acc env)) := by rfl
theorem compTurn_two1 (elt t0 i0 t1 i1 : Expr) (ifs0 : List Expr) (scope : Scope) (pos : Pos) (it acc : Value) (env : Env) :
    compTurn (.ListComp elt [⟨t0, i0, ifs0, 0⟩, ⟨t1, i1, [], 0⟩] scope pos) 1 it acc env = (standAt i1.pos >>= fun ζ => pyNext it >>= fun r => match r with
      | none => pure (.done .next)
      | some v => letOwnedTupleGo t1 it v >>= fun ζ => assign t1 env v >>= fun ζ =>
        (eval elt env >>= fun x => call (.builtin "list.append") [acc, x] >>= fun ζ => pure ()) >>= fun ζ =>
          again (.compLoop (.ListComp elt [⟨t0, i0, ifs0, 0⟩, ⟨t1, i1, [], 0⟩] scope pos) 1 it acc env)) := by rfl
section
variable {c : Cx} {as : List Addr} {st : List (Str × Sl)} {ob : List Ob} {s s' : Shared}
theorem loopOk_two {prog : Program} {w : World} {A : Around} {elt t0 i0 t1 i1 : Expr} {ifs0 : List Expr} {scope : Scope} {pos : Pos} :
    LoopOk (model prog w) A (.ListComp elt [⟨t0, i0, ifs0, 0⟩, ⟨t1, i1, [], 0⟩] scope pos) t0 ifs0 (emit2 elt t0 i0 t1 i1 ifs0 scope pos) := by
  intro R s it acc env I turn n h
  refine codeAny_loop rfl I (fun n s hI => ?_) n h
  show wpAny _ A ((compTurn (.ListComp elt [⟨t0, i0, ifs0, 0⟩, ⟨t1, i1, [], 0⟩] scope pos) 0 it acc env).onRaise (fun x => do noteFrame x env; theTreesLotGoes x)) _ _ s
  refine wpAny_noted ?_
  rw [compTurn_two0]
  refine wpAny_bind (wpAny_standAt (wpAny_bind (wpAny_mono (turn n s hI) (fun r s₁ h₁ => ?_) fun ζ ζ h' => h'.elim)))
  cases r with
  | none => exact wpAny_pure h₁
  | some v =>
    refine wpAny_bind (wpAny_mono h₁ (fun ζ s₁' h₁' => ?_) fun ζ ζ h' => h'.elim)
    refine wpAny_bind (wpAny_mono h₁' (fun ζ s₂ h₂ => wpAny_bind (wpAny_mono h₂ (fun ok s₃ h₃ => ?_) fun ζ ζ h' => h'.elim)) fun ζ ζ h' => h'.elim)
    cases ok with
    | false => exact wpAny_pure ⟨rfl, h₃⟩
    | true =>
      have h₃' : wpAny (model prog w) A (emit2 elt t0 i0 t1 i1 ifs0 scope pos env acc) (fun ζ s₅ => ∃ m, m < n ∧ I m s₅) (fun ζ ζ => False) s₃ := h₃
      suffices hh : ∀ (Q : PySem.Fin → Shared → Prop) (E : Value → Shared → Prop), (∀ s₄, (∃ m, m < n ∧ I m s₄) → Q (.again (.compLoop (.ListComp elt [⟨t0, i0, ifs0, 0⟩, ⟨t1, i1, [], 0⟩] scope pos) 0 it acc env)) s₄) →
          wpAny (model prog w) A (emit2 elt t0 i0 t1 i1 ifs0 scope pos env acc >>= fun ζ => again (.compLoop (.ListComp elt [⟨t0, i0, ifs0, 0⟩, ⟨t1, i1, [], 0⟩] scope pos) 0 it acc env)) Q E s₃ by
        have := hh (fun fin s' => match fin with
          | PySem.Fin.done f => R (.ok f) s'
          | PySem.Fin.again c' => c' = (Code.compLoop (.ListComp elt [⟨t0, i0, ifs0, 0⟩, ⟨t1, i1, [], 0⟩] scope pos) 0 it acc env) ∧ ∃ m, m < n ∧ I m s') (notedBy (model prog w) A env fun e s' => R (.error e) s') fun s₄ h₄ => ⟨rfl, h₄⟩
        ((try dsimp only [emit2] at this) <;> simp only [bind_assoc, pure_bind] at this)
        exact this
      intro Q E hq
      exact wpAny_bind (wpAny_mono h₃' (fun x s₄ h₄ => wpAny_pure (hq s₄ h₄)) fun ζ ζ h' => h'.elim)
theorem compLoop1_go {prog : Program} {w : World} {A : Around} {R : Result → Shared → Prop} {s : Shared} {elt t0 i0 t1 i1 : Expr} {ifs0 : List Expr} {scope : Scope} {pos : Pos} {it acc : Value} {env : Env} (I : Nat → Shared → Prop)
    (turn : ∀ n s, I n s → wpAny (model prog w) A (pyNext it) (fun r s₁ => match r with
      | none => R (.ok .next) s₁
      | some v => wpAny (model prog w) A (letOwnedTupleGo t1 it v) (fun ζ s₁' => wpAny (model prog w) A (assign t1 env v) (fun ζ s₂ => wpAny (model prog w) A (eval elt env) (fun x s₄ =>
              wpAny (model prog w) A (call (.builtin "list.append") [acc, x]) (fun ζ s₅ => ∃ m, m < n ∧ I m s₅) (fun ζ ζ => False) s₄) (fun ζ ζ => False) s₂) (fun ζ ζ => False) s₁') (fun ζ ζ => False) s₁) (fun ζ ζ => False) s)
    (n : Nat) (h : I n s) : codeAny (model prog w) A (.compLoop (.ListComp elt [⟨t0, i0, ifs0, 0⟩, ⟨t1, i1, [], 0⟩] scope pos) 1 it acc env) R s := by
  refine codeAny_loop rfl I (fun n s hI => ?_) n h
  show wpAny _ A ((compTurn (.ListComp elt [⟨t0, i0, ifs0, 0⟩, ⟨t1, i1, [], 0⟩] scope pos) 1 it acc env).onRaise (fun x => do noteFrame x env; theTreesLotGoes x)) _ _ s
  refine wpAny_noted ?_
  rw [compTurn_two1]
  refine wpAny_bind (wpAny_standAt (wpAny_bind (wpAny_mono (turn n s hI) (fun r s₁ h₁ => ?_) fun ζ ζ h' => h'.elim)))
  cases r with
  | none => exact wpAny_pure h₁
  | some v =>
    refine wpAny_bind (wpAny_mono h₁ (fun ζ s₁' h₁' => ?_) fun ζ ζ h' => h'.elim)
    exact wpAny_bind (wpAny_mono h₁' (fun ζ s₂ h₂ => wpAny_bind (wpAny_bind (wpAny_mono h₂ (fun x s₃ h₃ => wpAny_bind (wpAny_mono h₃
      (fun ζ s₄ h₄ => wpAny_pure (wpAny_pure ⟨rfl, h₄⟩)) fun ζ ζ h' => h'.elim)) fun ζ ζ h' => h'.elim))) fun ζ ζ h' => h'.elim)
theorem compStart1 {prog : Program} {w : World} {A : Around} {R : Result → Shared → Prop} {s : Shared} {elt t0 i0 t1 i1 : Expr} {ifs0 : List Expr} {scope : Scope} {pos : Pos} {it acc : Value} {env : Env}
    (h0 : codeAny (model prog w) A (.compLoop (.ListComp elt [⟨t0, i0, ifs0, 0⟩, ⟨t1, i1, [], 0⟩] scope pos) 1 it acc env) R s)
    (h : wpAny (model prog w) A (pyIter it) (fun it' s' => codeAny (model prog w) A (.compLoop (.ListComp elt [⟨t0, i0, ifs0, 0⟩, ⟨t1, i1, [], 0⟩] scope pos) 1 it' acc env) R s')
      (notedBy (model prog w) A env fun x s' => R (.error x) s') s) :
    codeAny (model prog w) A (.compStart (.ListComp elt [⟨t0, i0, ifs0, 0⟩, ⟨t1, i1, [], 0⟩] scope pos) 1 it acc env) R s := by
  refine codeAny_of_tree ?_
  show wpAny _ _ ((compStart (.ListComp elt [⟨t0, i0, ifs0, 0⟩, ⟨t1, i1, [], 0⟩] scope pos) 1 it acc env).onRaise (fun x => do noteFrame x env; standAt theWindowsPlace)) _ _ s
  refine wpAny_notedAt ?_
  unfold compStart
  show wpAny _ _ (ask >>= _) _ _ s
  refine wpAny_bind (wpAny_askSetting (wpAny_ite ?_))
  split
  · first
      | exact wpAny_bind (wpAny_pure (wpAny_pure (And.intro rfl h0)))
      | exact wpAny_pure (And.intro rfl h0)
  · first
      | exact wpAny_bind (wpAny_rule (wpAny_bind (wpAny_standAt (wpAny_bind (wpAny_mono h (fun it' s' h' => wpAny_pure (And.intro rfl h')) fun ζ ζ x => x)))))
      | (refine wpAny_bind (wpAny_rule ?_); show wpAny _ _ (standAt i1.pos >>= _) _ _ s; exact wpAny_bind (wpAny_standAt (wpAny_bind (wpAny_mono h (fun it' s' h' => wpAny_pure (And.intro rfl h')) fun ζ ζ x => x))))
inductive TwoI (c : Cx) (as : List Addr) (st : List (Str × Sl)) (f : Nat → List Ob) (len : Nat) (St : Nat → Heap → Prop) (h : Heap) (k : Nat) (s' : Shared) : Prop
  | mk (i : Nat) (e : k = len + 1 - i) (hi : i ≤ len) (F : Fm c as st (f i) s') (st : St i s'.heap) (t : TKeep h s'.heap)
inductive TwoQ (n : Nat) (ob : List Ob) (K : List PyData → List Ob → Prop) (xs1 : List PyData) (fz1 : List Nat) (ob3 : List Ob) : Prop
  | mk (ys : List PyData) (obM' g g2 : List Ob) (e : ob3 = ((obM' ++ [.list ys]) ++ g) ++ g2) (hl : obM'.length = n) (hg : n + 1 + g.length = ob.length) (hf : ∀ j ∈ fz1, ob.length ≤ j) (hy : ys.length + xs1.length ≤ 1000) (k : K xs1 ((obM' ++ [.list (ys ++ xs1)]) ++ g))
theorem Emit.two {n : Nat} {y : Str} {py py' : Pos} {t0 i0 i1 : Expr} {ifs0 : List Expr} {scope : Scope} {pos : Pos} {K : List PyData → List Ob → Prop} (hn : c.n₀ ≤ n) (hs : ∀ x, foldedSetIterable i1 c.env x = pure x) (hy : Stores c y) (hd1 : (y == ("__debug__" : Str)) = false) (hd2 : (y == ("__classdict__" : Str)) = false)
    (hst : st.lookup y = none)
    (h : It c i1 (.Name y py) st ob (TwoQ n ob K)) :
    Emit c (emit2 (.Name y py') t0 i0 (.Name y py) i1 ifs0 scope pos) n st ob K := by
  refine ⟨fun as s D F hD => ?_⟩
  unfold emit2
  refine wpAny_bind (wpAny_mono (h.run as s F) (fun xv s1' h1 => wpAny_bind (wpAny_standAt (wpAny_bind (wpAny_of_eq (hs xv) (wpAny_bind (wpAny_holding (wpAny_mono h1 (fun it s₂ h2 => ?_) fun ζ ζ x => x))))))) fun ζ ζ x => x)
  obtain ⟨s₁, n1, ob1, I, fp, wr, P, Md, St, xs, fz, rfl, F1, t1, hsame, hkeep, KT, hst0, hfp, hwr0, hnf, hfpc, hrd, hself, hlen, ys, obM', g, g2, e3, hl, hlg, hfz, hyl, k⟩ := h2
  have hla : as.length = ob.length := F.obs.length
  have FC : Fm c as st ((obM' ++ [.list ys]) ++ g) s₁ := F1.cut (by simp [hl]; lia) e3 F.npl F.xin fun x sl e => ⟨e, by
    obtain ⟨v, _, hsl⟩ := F.vars x sl e
    exact hsl.below⟩
  have F2 := FC.grow hsame hkeep
  have hgx : ∀ b ∈ fz.filterMap ((as ++ n1)[·]?), b ∉ as ∧ b ≠ c.env.locals ∧ (∀ x, c.env.cells.lookup x ≠ some b) ∧ ∃ o, s₁.heap.get? b = some o := fun b hb => by
    obtain ⟨j, hj, e⟩ := List.mem_filterMap.mp hb
    have hm := List.mem_of_getElem? e
    refine ⟨fun ha => ?_, fun q => F1.lap (q ▸ hm), fun x q => F1.cas q hm, F1.alive' hm⟩
    obtain ⟨i, hi⟩ := List.getElem?_of_mem ha
    have hil := (List.getElem?_eq_some_iff.mp hi).1
    have := (List.getElem?_inj (List.getElem?_eq_some_iff.mp e).1 F1.nd).mp (e.trans (getElem?_app hi).symm)
    have := hfz j hj
    lia
  have F3 := F2.guarded (wr := fz.filterMap ((as ++ n1)[·]?)) fun b hb => ⟨(hgx b hb).1, (hgx b hb).2.1, (hgx b hb).2.2.1⟩
  have W : Wlk (c.guard (fz.filterMap ((as ++ n1)[·]?)) s₂.heap) (.Name y py) I fp wr P Md St xs s₁.heap s₂.heap := {
    kt := KT
    t12 := TKeep.of_keep hkeep
    nf := hnf
    fpc := fun b hb => by
      rcases hfpc b hb with h | h | ⟨j, hj, e⟩
      · exact .inl h
      · exact .inr (.inl h)
      · have hb : b ∈ fz.filterMap ((as ++ n1)[·]?) := List.mem_filterMap.mpr ⟨j, hj, e⟩
        obtain ⟨o, ho⟩ := (hgx b hb).2.2.2
        exact .inr (.inr (.inr ⟨o, List.mem_append_left _ (mem_prOf.mpr ⟨hb, hkeep _ _ ho⟩)⟩))
    rd := hrd
    wrc := fun b hb => by
      have hf := F1.fresh (hwr0 b hb)
      refine ⟨hf.1, hf.2.2.1, hf.2.2.2.1, hf.2.2.2.2.1, fun p hp => ?_⟩
      rcases List.mem_append.mp hp with hp | hp
      · rintro rfl
        obtain ⟨h1, _⟩ := mem_prOf.mp hp
        obtain ⟨o, ho⟩ := (hgx _ h1).2.2.2
        rw [hwr0 _ hb] at ho; cases ho
      · exact hf.2.2.2.2.2 p hp }
  have hw : ∀ b ∈ wr, b ∉ as := fun b hb m => (F1.fresh (hwr0 b hb)).2.1 (List.mem_append_left _ m)
  have loop : codeAny c.g.M c.A (.compLoop (.ListComp (.Name y py') [⟨t0, i0, ifs0, 0⟩, ⟨.Name y py, i1, [], 0⟩] scope pos) 1 (.ref I) (.ref D) c.env) (fun r s' => match r with
      | .ok _ => Pz c as st s.heap K s'
      | .error e => cameBackBy c.g.M c.A c.env (fun ζ ζ => False) e s') s₂ := by
    refine compLoop1_go (TwoI (c.guard (fz.filterMap ((as ++ n1)[·]?)) s₂.heap) as st (fun i => (obM' ++ [.list (ys ++ xs.take i)]) ++ g) xs.length St s₂.heap) ?_ (xs.length + 1)
      ⟨0, rfl, Nat.zero_le _, by simpa using F3, hst0, TKeep.refl _⟩
    rintro k s' ⟨i, rfl, hi, F', hst', tk'⟩
    refine W.turn F' hw hi hst' tk' (Qe := fun s3 => Pz c as st s.heap K s3) (Qb := fun v s₁' => wpAny c.g.M c.A (assign (.Name y py) c.env v) _ _ s₁') (fun hi' s3 F3 t3 => ?_) fun x hx v s3 F3 dv t3 hback => ?_
    · subst hi'
      rw [List.take_length] at F3
      exact ⟨xs, st, _, [], by simpa using F3.unguard, fun ζ ζ e => e, (t1.trans (TKeep.of_keep hkeep)).trans (tk'.trans t3), k⟩
    · have hlt : i < xs.length := (List.getElem?_eq_some_iff.mp hx).1
      refine (Asg.name (c := (c.guard (fz.filterMap ((as ++ n1)[·]?)) s₂.heap).guard wr s3.heap) (d := x) hy).run _ _ _ _ _ _ _ F3 dv fun s5 F5 t5 => ?_
      refine wpAny_mono ((Ev.name (c := (c.guard (fz.filterMap ((as ++ n1)[·]?)) s₂.heap).guard wr s3.heap) (K := fun sl ob6 => sl = .dat x ∧ ob6 = ((obM' ++ [Ob.list (ys ++ xs.take i)]) ++ g)) (x := y) (sl := .dat x) (p := py') (by simp) ⟨rfl, rfl⟩ hd1 hd2).run _ s5 F5) (fun v2 s6 h6 => ?_) fun ζ ζ x => x
      obtain ⟨sl6, ob6, n6, F6, hsl6, t6, rfl, rfl⟩ := h6
      refine wpAny_mono ((On.append (c := (c.guard (fz.filterMap ((as ++ n1)[·]?)) s₂.heap).guard wr s3.heap) (i := obM'.length) (xs := ys ++ xs.take i) (x := x) (K := fun ζ ob8 => ob8 = ((obM' ++ [Ob.list (ys ++ xs.take i)]) ++ g).set obM'.length (Ob.list ((ys ++ xs.take i) ++ [x]))) (by simp [List.append_assoc]) (.inl (by rw [hl]; exact hn)) (by simp; lia) rfl).run _ s6 [.ref D, v2] s6.heap F6 (.cons ⟨D, by rw [hl]; exact getElem?_app hD, rfl⟩ (.cons hsl6 .nil)) (TKeep.refl _)) (fun v s8 h8 => ?_) fun ζ ζ x => x
      obtain ⟨sl8, ob8, nw8, F8, _, t8, rfl⟩ := h8
      rw [set_mid, List.append_assoc as] at F8
      have F9 := F8.cut (ob' := (obM' ++ [Ob.list ((ys ++ xs.take i) ++ [x])]) ++ g) (obG := []) (st' := st) (by simp [hl]; lia) (by simp) F.npl F.xin fun x' sl e => ⟨by
        rw [List.cons_append, List.nil_append, List.lookup_cons]
        have : (x' == y) = false := by
          simp only [beq_eq_false_iff_ne, ne_eq]
          rintro rfl
          rw [hst] at e; cases e
        rw [this]; exact e, by
        obtain ⟨v, _, hsl⟩ := F.vars x' sl e
        exact hsl.below⟩
      obtain ⟨h1, h2, _⟩ := hback _ _ _ _ F9 ((t5.trans t6).trans t8)
      refine ⟨xs.length + 1 - (i + 1), by lia, i + 1, rfl, hlt, ?_, h1, tk'.trans (t3.trans ((t5.trans t6).trans t8))⟩
      have : xs.take (i + 1) = xs.take i ++ [x] := by rw [List.take_add_one, hx]; rfl
      rw [this, ← List.append_assoc]; exact h2
  refine wpAny_bind (wpAny_mono (wpAny_runOwn (Q := fun ζ s' => Pz c as st s.heap K s') (E := fun ζ ζ => False) ?_) (fun ζ s' hq => wpAny_pure hq) fun ζ ζ x => x)
  exact compStart1 loop (hself _ _ _ hst0 loop)
end
end
/-! R7 -/
section
section
variable {c : Cx} {as : List Addr} {st : List (Str × Sl)} {ob : List Ob} {s s' : Shared}
theorem CEnd.close {h h' : Heap} {K : Sl → List Ob → Prop} {D C : Addr} (x : CEnd c as st h K D C s) (hs : Heap.SameBut C s.heap h') : Pv c as st h K (.ref D) { s with heap := h' } := by
  obtain ⟨n1, obM, i, F, hD, t, ⟨m, hm⟩, hf, k⟩ := x
  have tk : TKeep s.heap h' := tkeep_but hs fun o e => ns_not_fixed hm e
  have F' := F.foreign (wr := [C]) (s' := { s with heap := h' }) ⟨h', s.toks, rfl⟩ (fun b o n e => (hs.2 b (by simpa using n)).trans e) tk (fun b m => by simp at m; subst m; exact hf)
  exact ⟨.obj i, obM, n1, F', ⟨D, hD, rfl⟩, t.trans tk, k⟩
noncomputable def CompOk (c : Cx) (emit : Env → Value → Sem Unit) (iter target : Expr) (ifs : List Expr) (scope scope0 : Scope) (fst : List (Str × Sl)) (st : List (Str × Sl)) (ob : List Ob) (K : Sl → List Ob → Prop) : Prop :=
  It c iter target st ob (CompQ c emit target ifs scope scope0 fst K)
structure CompSc (scope scope0 : Scope) : Prop where
  kind : scope.kind = .function
  cell : ∀ y ∈ scope.names, y.2 ≠ .cell
  names : ∀ y ∈ scope.names, y.2 = .local → scope.names.lookup y.1 = some .local
  free : ∀ y ∈ scope.names, y.2 = .free → scope0.names.lookup y.1 = some .cell
noncomputable def compSc (scope scope0 : Scope) : Bool :=
  scope.kind == .function && scope.names.all fun y => y.2 != .cell && (y.2 != .local || scope.names.lookup y.1 == some .local) && (y.2 != .free || scope0.names.lookup y.1 == some .cell)
theorem CompSc.of {scope scope0 : Scope} (h : compSc scope scope0 = true) : CompSc scope scope0 := by
  ((try dsimp only [compSc] at h) <;> simp only [Bool.and_eq_true, List.all_eq_true, beq_iff_eq, Bool.or_eq_true, bne_iff_ne] at h)
  exact ⟨h.1, fun y hy => (h.2 y hy).1.1, fun y hy e => (h.2 y hy).1.2.resolve_left (fun n => n e), fun y hy e => (h.2 y hy).2.resolve_left (fun n => n e)⟩
noncomputable def fstOk (fst st : List (Str × Sl)) (scope scope0 : Scope) : Prop := ∀ p ∈ fst, st.lookup p.1 = some p.2 ∧ (relab scope scope0).names.lookup p.1 = some .cell ∧ (p.1, NameKind.free) ∈ scope.names
theorem fstOk.look {fst : List (Str × Sl)} {scope scope0 : Scope} (h : fstOk fst st scope scope0) : ∀ x sl, fst.lookup x = some sl → st.lookup x = some sl ∧ (relab scope scope0).names.lookup x = some .cell ∧ (x, NameKind.free) ∈ scope.names := fun x sl e => h (x, sl) (mem_of_lookup e)
/-- a comprehension with one clause -/
theorem Ev.comp {elt iter target : Expr} {gs : List Comprehension} {emit : Env → Value → Sem Unit} {ifs : List Expr} {scope scope0 : Scope} {pos : Pos} {K : Sl → List Ob → Prop} (fst : List (Str × Sl)) (hloop : LoopOk c.g.M c.A (.ListComp elt (⟨target, iter, ifs, 0⟩ :: gs) scope pos) target ifs emit) (kn : Kn c scope0) (hh : c.A.handled = none) (hsc : compSc scope scope0 = true) (hfst : fstOk fst st scope scope0)
    (hs : ∀ x, foldedSetIterable iter c.env x = pure x) (h : CompOk c emit iter target ifs scope scope0 fst st ob K) : Ev c (.ListComp elt (⟨target, iter, ifs, 0⟩ :: gs) scope pos) st ob K := by
  have S := CompSc.of hsc
  refine ⟨fun as s F => ?_⟩
  obtain ⟨cl, hcl, hw⟩ := comp_core (RR := fun acc C => compPost c.g.M c.A (fun ζ ζ => False) none (Pv c as st s.heap K) acc C) (e := .ListComp elt (⟨target, iter, ifs, 0⟩ :: gs) scope pos) hloop (fun R s it acc env h0 h1 => codeAny_compStart_list h0 (wpAny_mono h1 (fun ζ ζ x => x) fun ζ ζ x => x.elim)) kn hh S.kind S.cell S.free hfst.look F h (fun D C s' x => by
    obtain ⟨_, _, _, _, _, _, hm, _⟩ := id x
    obtain ⟨m, hm⟩ := hm
    exact ⟨m, hm, fun h' hs' => x.close hs'⟩)
  rw [eval_ListComp]
  exact wpAny_comprehension_free (use := none) rfl hs hcl S.kind S.names hw
/-- an assignment of a comprehension -/
theorem Ex.assignComp {elt iter target : Expr} {gs : List Comprehension} {emit : Env → Value → Sem Unit} {ifs : List Expr} {scope scope0 : Scope} {pos py spos : Pos} {y : Str} {K : Fl → List (Str × Sl) → List Ob → Prop} (fst : List (Str × Sl)) (hloop : LoopOk c.g.M c.A (.ListComp elt (⟨target, iter, ifs, 0⟩ :: gs) scope pos) target ifs emit) (kn : Kn c scope0) (hh : c.A.handled = none) (hsc : compSc scope scope0 = true) (hfst : fstOk fst st scope scope0)
    (hs : ∀ x, foldedSetIterable iter c.env x = pure x) (hk : Stores c y) (hsw : swapsWith (.ListComp elt (⟨target, iter, ifs, 0⟩ :: gs) scope pos) (some (.Name y py)) spos.line c.env = pure true)
    (h : CompOk c emit iter target ifs scope scope0 fst st ob (AsgK st K y)) : Ex c (.Assign [.Name y py] (.ListComp elt (⟨target, iter, ifs, 0⟩ :: gs) scope pos) spos) st ob K := by
  have S := CompSc.of hsc
  refine ⟨fun as s F => ?_⟩
  rw [exec_Assign_Name_used _ _ _ _ hsw]
  refine wpAny_bind (wpAny_standAt (wpAny_bind ?_))
  show wpAny _ c.A (do let _ ← comprehension (.ListComp elt (⟨target, iter, ifs, 0⟩ :: gs) scope pos) scope c.env _ (newList []) false (eval iter c.env) (some (PySem.assign (.Name y py) c.env))) _ _ s
  obtain ⟨cl, hcl, hw⟩ := comp_core (target := target) (iter := iter) (ifs := ifs) (K := fun v ob1 => K .nx ((y, v) :: st) ob1) (RR := fun acc C => compPost c.g.M c.A (fun ζ ζ => False) (some (PySem.assign (.Name y py) c.env)) (fun ζ s' => Px c as s.heap K .next s') acc C) (e := .ListComp elt (⟨target, iter, ifs, 0⟩ :: gs) scope pos) hloop (fun R s it acc env h0 h1 => codeAny_compStart_list h0 (wpAny_mono h1 (fun ζ ζ x => x) fun ζ ζ x => x.elim)) kn hh S.kind S.cell S.free hfst.look F h (fun D C s' x => by
    obtain ⟨n1, obM, i, F1, hD, t, ⟨m, hm⟩, hf, k⟩ := x
    show wpAny _ c.A (PySem.assign (.Name y py) c.env (.ref D)) _ _ _
    have FG := F1.guarded (wr := [C]) (fun b m => by simp at m; subst m; exact ⟨hf.2.1, hf.2.2.1, hf.2.2.2.1⟩)
    refine wpAny_assign_Name (store (c := c.guard [C] s'.heap) FG (sl := .obj i) ⟨D, hD, rfl⟩ hk fun s2 F2 t2 => ?_)
    obtain ⟨o, _, _, ho, _⟩ := id hm
    have hC : s2.heap.get? C = some o := F2.prk (C, o) (List.mem_append_left _ (mem_prOf.mpr ⟨by simp, ho⟩))
    have hm2 : s2.heap.Ns C m := Heap.Ns.at' hm fun o' e => by rw [ho] at e; cases e; exact hC
    refine ⟨m, hm2, fun h' hs' => ?_⟩
    have tk : TKeep s2.heap h' := tkeep_but hs' fun o e => ns_not_fixed hm2 e
    have F3 := F2.unguard.foreign (wr := [C]) (s' := { s2 with heap := h' }) ⟨h', s2.toks, rfl⟩ (fun b o n e => (hs'.2 b (by simpa using n)).trans e) tk (fun b m => by simp at m; subst m; exact hf)
    exact ⟨.nx, _, obM, n1, F3, rfl, (t.trans t2).trans tk, k⟩)
  exact wpAny_bind (wpAny_mono (wpAny_comprehension_free (use := some (PySem.assign (.Name y py) c.env)) (Q := fun ζ s' => Px c as s.heap K .next s') rfl hs hcl S.kind S.names hw) (fun ζ s' hq => wpAny_pure (wpAny_pure hq)) fun ζ ζ e => e)
/-! ## for and while -/
/-- what the state after a turn is cut down to -/
inductive Wk (n : Nat) (st2 : List (Str × Sl)) (ob2 : List Ob) (st' : List (Str × Sl)) (ob' : List Ob) : Prop
  | mk (h1 : n ≤ ob'.length) (h2 : ∃ g, ob2 = ob' ++ g) (h3 : ∀ p ∈ st', st2.lookup p.1 = some p.2 ∧ p.2.Below ob'.length)
theorem Fm.weak {nw : List Addr} {st2 st' : List (Str × Sl)} {ob2 ob' : List Ob} (F : Fm c (as ++ nw) st2 ob2 s) (hn : c.n₀ ≤ as.length) (hX : ∀ a ∈ c.X, a ∈ as) (h : Wk as.length st2 ob2 st' ob') : ∃ nw', Fm c (as ++ nw') st' ob' s := by
  obtain ⟨h1, ⟨g, e⟩, h3⟩ := h
  have hl : ob'.length ≤ (as ++ nw).length := by rw [F.obs.length, e]; simp
  have hsp : as ++ nw = (as ++ nw.take (ob'.length - as.length)) ++ nw.drop (ob'.length - as.length) := by simp
  have hlen : (as ++ nw.take (ob'.length - as.length)).length = ob'.length := by
    rw [List.length_append, List.length_take]
    rw [List.length_append] at hl
    lia
  rw [hsp] at F
  exact ⟨_, F.cut hlen.symm e (Nat.le_trans hn (by rw [List.length_append]; lia)) (fun a m => List.mem_append_left _ (hX a m)) fun x sl q => by
    obtain ⟨a, b⟩ := h3 (x, sl) (mem_of_lookup q)
    exact ⟨a, by rw [hlen]; exact b⟩⟩
inductive WhI (c : Cx) (as : List Addr) (h : Heap) (I : Nat → List (Str × Sl) → List Ob → Prop) (n : Nat) (s' : Shared) : Prop
  | mk (nw : List Addr) (st1 : List (Str × Sl)) (ob1 : List Ob) (F : Fm c (as ++ nw) st1 ob1 s') (t : TKeep h s'.heap) (i : I n st1 ob1)
inductive ForI (c : Cx) (as : List Addr) (len : Nat) (wr : List Addr) (St : Nat → Heap → Prop) (h h2 : Heap) (T : Nat → List (Str × Sl) → List Ob → Prop) (k : Nat) (s' : Shared) : Prop
  | mk (i : Nat) (nw : List Addr) (st2 : List (Str × Sl)) (ob2 : List Ob) (e : k = len + 1 - i) (hi : i ≤ len) (F : Fm c (as ++ nw) st2 ob2 s') (w : ∀ b ∈ wr, b ∉ as ++ nw) (st : St i s'.heap) (t1 : TKeep h s'.heap) (t2 : TKeep h2 s'.heap) (k : T i st2 ob2)
noncomputable def WhN (n len : Nat) (I : Nat → List (Str × Sl) → List Ob → Prop) (K : Fl → List (Str × Sl) → List Ob → Prop) (fl : Fl) (st3 : List (Str × Sl)) (ob3 : List Ob) : Prop := match fl with
  | .nx => ∃ m st' ob', m < n ∧ Wk len st3 ob3 st' ob' ∧ I m st' ob'
  | .rt x => K (.rt x) st3 ob3
noncomputable abbrev WhT (c : Cx) (st1 : List (Str × Sl)) (K K' : Fl → List (Str × Sl) → List Ob → Prop) (body : List Stmt) (b : Bool) (ob2 : List Ob) : Prop := if b = true then Exs c body st1 ob2 K' else K .nx st1 ob2
theorem Ex.while {test : Expr} {body : List Stmt} {pos : Pos} {K : Fl → List (Str × Sl) → List Ob → Prop} (I : Nat → List (Str × Sl) → List Ob → Prop) (n : Nat) (h0 : I n st ob)
    (turn : ∀ n st1 ob1, ob.length ≤ ob1.length → I n st1 ob1 → Et c test st1 ob1 (WhT c st1 K (WhN n ob1.length I K) body)) :
    Ex c (.While test body [] pos) st ob K := by
  refine ⟨fun as s F => wpAny_While ?_⟩
  refine codeAny_whileLoop (WhI c as s.heap I) ?_ n ⟨[], st, ob, by simpa using F, TKeep.refl _, h0⟩
  rintro n s1 ⟨nw, st1, ob1, F1, t1, hI⟩
  have hle : ob.length ≤ ob1.length := by
    have := F.obs.length
    have := F1.obs.length
    simp at this; lia
  refine wpAny_mono ((turn n st1 ob1 hle hI).run _ s1 F1) ?_ fun ζ ζ x => x.elim
  rintro b s2 ⟨ob2, n2, F2, t2, k2⟩
  cases b with
  | false =>
    have k2 : K .nx st1 ob2 := k2
    simp only [Bool.false_eq_true, if_false]
    exact wpAny_execs_nil ⟨.nx, st1, ob2, nw ++ n2, by simpa [List.append_assoc] using F2, rfl, t1.trans t2, k2⟩
  | true =>
    have k2 : Exs c body st1 ob2 (WhN n ob1.length I K) := k2
    simp only [if_true]
    refine wpAny_mono (k2.run _ s2 F2) ?_ fun ζ ζ x => x.elim
    rintro f s3 ⟨fl, st3, ob3, n3, F3, hfl, t3, k3⟩
    cases fl with
    | nx =>
      rw [show f = .next from hfl]
      obtain ⟨m, st', ob', hm, hwk, hI'⟩ := k3
      rw [List.append_assoc] at F3
      have hnp := F1.npl
      obtain ⟨nw', F4⟩ := F3.weak hnp F1.xin (by rw [F1.obs.length]; exact hwk)
      exact ⟨m, hm, nw ++ nw', st', ob', by simpa [List.append_assoc] using F4, (t1.trans t2).trans t3, hI'⟩
    | rt x =>
      obtain ⟨v, rfl, hv⟩ := hfl
      exact ⟨.rt x, st3, ob3, nw ++ n2 ++ n3, by simpa [List.append_assoc] using F3, ⟨v, rfl, by simpa [List.append_assoc] using hv⟩, (t1.trans t2).trans t3, k3⟩
structure SameCx (c c' : Cx) : Prop where
  g : c'.g = c.g
  A : c'.A = c.A
  kn : ∀ scope, Kn c scope → Kn c' scope
  n₀ : c'.n₀ = c.n₀
  mu : c'.mu = c.mu
  wc : c'.wc = c.wc
noncomputable def NxK (n : Nat) (I : List (Str × Sl) → List Ob → Prop) (K : Fl → List (Str × Sl) → List Ob → Prop) (fl : Fl) (st3 : List (Str × Sl)) (ob3 : List Ob) : Prop := match fl with
  | .nx => ∃ st' ob', Wk n st3 ob3 st' ob' ∧ I st' ob'
  | .rt x => K (.rt x) st3 ob3
noncomputable def ForTurns (c : Cx) (body : List Stmt) (bd : PyData → List (Str × Sl)) (K : Fl → List (Str × Sl) → List Ob → Prop) : List PyData → List (Str × Sl) → List Ob → Prop
  | [], st, ob => K .nx st ob
  | x :: xs, st, ob => ∀ c', SameCx c c' → Exs c' body (bd x ++ st) ob (NxK ob.length (ForTurns c body bd K xs) K)
inductive ForQ (c : Cx) (target : Expr) (body : List Stmt) (st : List (Str × Sl)) (K : Fl → List (Str × Sl) → List Ob → Prop) (xs : List PyData) (fz : List Nat) (ob1 : List Ob) : Prop
  | mk (bd : PyData → List (Str × Sl)) (h1 : ∀ j ∈ fz, j < c.n₀ ∧ j ∉ c.mu) (h2 : ∀ c', SameCx c c' → ∀ x ∈ xs, Asg c' target x (bd x)) (h3 : ForTurns c body bd K xs st ob1)
theorem Ex.for {target iter : Expr} {body : List Stmt} {pos : Pos} {K : Fl → List (Str × Sl) → List Ob → Prop} (hs : ∀ x, foldedSetIterable iter c.env x = pure x)
    (h : It c iter target st ob (ForQ c target body st K)) :
    Ex c (.For target iter body [] pos) st ob K := by
  refine ⟨fun as s F => wpAny_For (wpAny_mono (h.run as s F) (fun xv s1' h1 => wpAny_mono h1 (fun it s₂ h2 => ?_) fun ζ ζ x => x) fun ζ ζ x => x) hs⟩
  obtain ⟨s₁, n1, ob1, I, fp, wr, P, Md, St, xs, fz, rfl, F1, t1, hsame, hkeep, KT, hst, hfp, hwr0, hnf, hfpc, hrd, hself, hlen, bd, hfz, hasg, hturns⟩ := h2
  have F2 := F1.grow hsame hkeep
  have W : Wlk c target I fp wr P Md St xs s₁.heap s₂.heap := {
    kt := KT
    t12 := TKeep.of_keep hkeep
    nf := hnf
    fpc := fun b hb => by
      rcases hfpc b hb with h | h | ⟨j, hj, e⟩
      · exact .inl h
      · exact .inr (.inl h)
      · obtain ⟨h1, h2⟩ := hfz j hj
        obtain ⟨⟨o, ho⟩, h3⟩ := F1.par j b e h1
        exact .inr (.inr (.inl ⟨o, ho, h3 h2⟩))
    rd := hrd
    wrc := fun b hb => by
      have hf := F1.fresh (hwr0 b hb)
      exact ⟨hf.1, hf.2.2⟩ }
  refine codeAny_forLoop_any (ForI c as xs.length wr St s.heap s₂.heap (fun i => ForTurns c body bd K (xs.drop i))) ?_ (xs.length + 1)
    ⟨0, n1, st, ob1, rfl, Nat.zero_le _, F2, fun b hb => (F1.fresh (hwr0 b hb)).2.1, hst, t1.trans (TKeep.of_keep hkeep), TKeep.refl _, hturns⟩
  rintro k s' ⟨i, nw, st2, ob2, rfl, hi, F', hw, hst', tks, tk', T⟩
  refine wpAny_mono (W.turn F' hw hi hst' tk' (E := fun ζ ζ => False) (Qe := fun s3 => Px c as s.heap K .next s3) (Qb := fun v s₁' => wpAny c.g.M c.A (PySem.assign target c.env v) (fun ζ s5 => wpAny c.g.M c.A (execs body c.env) (fun f s6 => match f with
      | .next | .cont => ∃ m, m < xs.length + 1 - i ∧ ForI c as xs.length wr St s.heap s₂.heap (fun i => ForTurns c body bd K (xs.drop i)) m s6
      | .brk => False
      | .ret v => Px c as s.heap K (.ret v) s6) (fun ζ ζ => False) s5) (fun ζ ζ => False) s₁') (fun hi' s3 F3 t3 => ?_) fun x hx v s3 F3 dv t3 hback => ?_) (fun r s3 h3 => ?_) fun ζ ζ x => x.elim
  · subst hi'
    rw [List.drop_length] at T
    exact ⟨.nx, st2, ob2, nw, F3, rfl, tks.trans t3, T⟩
  · have hlt : i < xs.length := (List.getElem?_eq_some_iff.mp hx).1
    have hd : xs.drop i = x :: xs.drop (i + 1) := by
      rw [List.drop_eq_getElem_cons hlt]
      congr 1
      exact (List.getElem?_eq_some_iff.mp hx).2
    rw [hd] at T
    have hsc : SameCx c (c.guard wr s3.heap) := ⟨rfl, rfl, fun ζ kn => Kn.guard kn wr s3.heap, rfl, rfl, rfl⟩
    refine (hasg _ hsc x (List.mem_of_getElem? hx)).run _ _ _ _ _ _ _ F3 dv fun s5 F5 t5 => ?_
    refine wpAny_mono ((T _ hsc).run _ s5 F5) ?_ fun ζ ζ x => x
    rintro f s6 ⟨fl, st6, ob6, n6, F6, hfl, t6, k6⟩
    cases fl with
    | nx =>
      rw [show f = .next from hfl]
      obtain ⟨st', ob', hwk, T'⟩ := k6
      obtain ⟨nw', F7⟩ := F6.weak F5.npl F5.xin (by rw [F5.obs.length]; exact hwk)
      rw [List.append_assoc] at F7
      obtain ⟨h1, h2, h3⟩ := hback _ _ _ _ F7 (t5.trans t6)
      exact ⟨xs.length + 1 - (i + 1), by lia, i + 1, nw ++ nw', st', ob', rfl, hlt, h2, h3, h1, tks.trans (t3.trans (t5.trans t6)), tk'.trans (t3.trans (t5.trans t6)), T'⟩
    | rt y =>
      obtain ⟨v, rfl, hv⟩ := hfl
      rw [List.append_assoc] at F6 hv
      exact ⟨.rt y, st6, ob6, nw ++ n6, F6.unguard, ⟨v, rfl, hv⟩, tks.trans (t3.trans (t5.trans t6)), k6⟩
  · cases r with
    | none => exact wpAny_execs_nil h3
    | some v =>
      refine wpAny_mono h3 (fun ζ s4 h4 => wpAny_mono h4 (fun ζ s5 h5 => wpAny_mono h5 (fun f s6 h6 => ?_) fun ζ ζ x => x.elim) fun ζ ζ x => x.elim) fun ζ ζ x => x.elim
      cases f with
      | next => exact h6
      | cont => exact h6
      | brk => exact h6.elim
      | ret v => exact h6
end
end
/-! R9 -/
section
section
open PySem.F
theorem list_extend_tupG (l : Addr) (items : Array Value) (n : Nat) (b : Addr) (items2 : Array Value) (n2 : Nat) (dd : Option Addr) (sl : Array (Option Value)) (hs0 : ¬(!items.isEmpty && Builtin.List.listTooLong (items.size + items2.size)) = true) (hs1 : items.size ≤ sizeLine) (hs2 : items.size + items2.size ≤ sizeLine + 1) :
    Meets (Builtin.«list.extend» ⟨[.ref l, .ref b], []⟩) (fun ζ R s => s.heap.get? l = some { cls := .type "list", dict := none, data := .seq items n, slots := #[] } ∧ s.heap.get? b = some { cls := .type "tuple", dict := dd, data := .seq items2 n2, slots := sl } ∧ R (.ok (.ret Value.none)) { s with heap := s.heap.update l (Obj.mapSeq fun x => x ++ items2), toks := s.toks }) :=
  .of_wp fun prog w A R s h => by
    obtain ⟨hp, g, d, tk, os⟩ := s; obtain ⟨hl, hb, h⟩ := h; have f1 := AutoSeq1.idx_int; have f2 := AutoSeq1.sub_tuple_tuple; have f3 := AutoSeq1.sub_list_list; have f4 := AutoSeq1.sub_tuple_list; have f5 := AutoSeq1.sub_list_tuple
    have hz' : (items ++ items2).size ≤ sizeLine + 1 := by rw [Array.size_append]; exact hs2
    wp_walk using (wpAny_updateSeq hl rfl (hz := hs1) (_hz' := hz')), AutoSeq1.wpAny_loadPart' hl, AutoSeq1.wpAny_loadPart' hb; exact ⟨_, rfl, h⟩
end
section
variable {c : Cx} {as : List Addr} {st : List (Str × Sl)} {ob : List Ob} {s s' : Shared} {p : Pos} {e l r : Expr} {K : Sl → List Ob → Prop}
theorem On.extendT {i : Nat} {xs ys : List PyData} (hi : ob[i]? = some (.list xs)) (hm : c.n₀ ≤ i ∨ i ∈ c.mu) (hl : xs.length + ys.length ≤ 1000) (kk : K (.dat .none) (ob.set i (.list (xs ++ ys)))) :
    On c (fun vs => call (.builtin "list.extend") vs) [.obj i, .dat (.tuple ys)] st ob K := by
  refine ⟨fun as s vs h F hv t => ?_⟩
  replace hv := all2_two hv
  obtain ⟨v, w, rfl, hv, hw⟩ := hv
  obtain ⟨a, ha, rfl, vs, n, e, d⟩ := F.objAt hi hv
  obtain ⟨b, ob', ws, m, rfl, hb, hc, hd, d'⟩ := D.tuple_inv hw
  have hs : vs.size = xs.length := by have := d.length; simpa using this
  have hs' : ws.size = ys.length := by have := d'.length; simpa using this
  have hd0 : ob'.data = .seq ws m := hd
  obtain ⟨cls, dd, data, sl⟩ := ob'
  simp only at hc hd
  subst hc hd
  refine call_meets PySem.F.slot_list_extend ⟨_, e, rfl⟩ PySem.F.entry_list_extend (PySem.F.args_list_extend_2 _ _) (list_extend_tupG a vs n b ws m dd sl ?_ (by rw [hs]; have : sizeLine = 2 ^ 24 := rfl; lia) (by rw [hs, hs']; have : sizeLine = 2 ^ 24 := rfl; lia)) ⟨e, hb, ?_⟩
  · have : Builtin.List.listTooLong (vs.size + ws.size) = false := by
      rw [hs, hs']; simp [Builtin.List.listTooLong, sizeLine]; lia
    rw [this]; simp
  obtain ⟨F', t'⟩ := F.change (s' := { s with heap := s.heap.update a (Obj.mapSeq fun y => y ++ ws), toks := s.toks }) (o' := .list (xs ++ ys)) ⟨_, s.toks, rfl⟩ ha hm (Heap.SameBut.update ..) fun tt =>
    ⟨_, _, IsL.update e _, by simpa using (d.mono tt).append (d'.mono tt)⟩
  exact Pv.of (sl := .dat .none) F' Reads.none (t.trans t') kk
/-- a statement that is an expression -/
theorem Ex.expr {K : Fl → List (Str × Sl) → List Ob → Prop} (h : Ev c e st ob fun ζ ob1 => K .nx st ob1) (hs : swapsWith e none p.line c.env = pure false) : Ex c (.Expr e p) st ob K := by
  refine ⟨fun as s F => wpAny_Expr_any (wpAny_mono (h.run as s F) ?_ fun ζ ζ x => x) ?_ hs⟩
  · rintro v s1 ⟨sl, ob1, n1, F1, h1, t1, k1⟩
    exact ⟨.nx, st, ob1, n1, F1, rfl, t1, k1⟩
  · unfold interactive
    rw [F.kind]; rfl
theorem Ev.neg {n : Int} {kd : Nat} {p' : Pos} (k : K (.dat (.int (-n))) ob) : Ev c (.UnaryOp .USub (.Constant (.int n) kd p') p) st ob K := by
  refine ⟨fun as s F => wpAny_UnaryOp (wpAny_Constant_int ?_)⟩
  exact PyProof.Rows.neg_int (Pv.of (sl := .dat (.int (-n))) ((F.toks _).toks _) (Reads.int _ _) (TKeep.refl _) k)
/-! ### keyword calls -/
theorem Ev.callKw {x kn' : Str} {np kp : Pos} {id : String} {kv : Expr} {scope : Scope} (G : Gd c.g) (kn : Kn c scope) (hx : scope.names.lookup x = some .globalImplicit) (hg : nsIn c.g.K mainGlobals x = some none) (hv : bootBuiltins x = some (.builtin id)) (hn : x ≠ "__name__")
    (hp : plainE e = true)
    (h : Ev c e st ob fun a ob1 => Ev c kv st ob1 fun b ob2 => ∃ f, b = .val f ∧ On c (fun vs => call (.builtin id) vs [(kn', f)]) [a] st ob2 K) (hd : (x == ("__debug__" : Str)) = false := by decide) :
    Ev c (.Call (.Name x np) [e] [⟨some kn', kv, kp⟩] p) st ob K := by
  refine ⟨fun as s F => ?_⟩
  refine wpAny_Call_ofName ?_
  refine Calls.Name_function_global F.kind (kn.glob hx) (Calls.loadGlobal_builtin (env := c.env) (by rw [kn.gl]; exact G.T.g.keeps F.base) (mg_none_of G.K G.T.g hg) (by rw [kn.bt]; exact G.T.b.keeps F.base) ((G.T.builtins x hn).trans hv) ?_) hd
  have hi := items_of (c := c) (es := [e]) (by simpa using hp) p
  refine callWith_builtin_kwB (items_plain hi) rfl ?_
  have hev : EvsF c [e] st ob (fun sls ob1 => ∃ a, sls = [a] ∧ Ev c kv st ob1 fun b ob2 => ∃ f, b = .val f ∧ On c (fun vs => call (.builtin id) vs [(kn', f)]) [a] st ob2 K) := h.mono fun a ob1 q => ⟨a, rfl, q⟩
  have hgo := EvsF.go hi hev F
  generalize backTo p (starEach [e] c.env) = ts at hi hgo ⊢
  cases hi with
  | @cons _ t _ ts ht hr =>
    obtain ⟨b, t⟩ := t
    obtain ⟨hb, _⟩ := ht
    obtain rfl : b = false := hb
    refine evalArgs_kwB rfl (wpAny_mono hgo ?_ fun ζ ζ x => x)
    rintro vs s1 ⟨sls, ob1, n1, F1, h1, t1, a, rfl, k1⟩
    obtain ⟨v, rfl, hv1⟩ := all2_one h1
    refine kws_cons (wpAny_mono (k1.run _ s1 F1) ?_ fun ζ ζ x => x)
    rintro v2 s2 ⟨sl2, ob2, n2, F2, h2, t2, f, rfl, k2⟩
    refine kws_nil ?_
    rw [show v2 = f from h2]
    refine wpAny_mono (k2.run _ s2 [v] s.heap F2 (.cons (hv1.up t2 _) .nil) (t1.trans t2)) ?_ fun ζ ζ x => x
    rintro v3 s3 ⟨sl, ob3, n3, F3, h3, t3, k3⟩
    exact ⟨sl, ob3, n1 ++ n2 ++ n3, by simpa [List.append_assoc] using F3, by simpa [List.append_assoc] using h3, t3, k3⟩
theorem strsAre_of {h : Heap} : ∀ {vs : List Value} {ss : List Str}, Ds h vs (ss.map .str) → StrsAre vs ss
  | [], [], _ => .nil
  | [], s :: ss, d => absurd (Ds.nil_iff'.mp d) (by simp)
  | v :: vs, [], d => absurd (Ds.nil_iff.mp d) (by simp)
  | v :: vs, s :: ss, d => by
    obtain ⟨d1, d2⟩ := Ds.cons_iff.mp d
    obtain ⟨t, rfl⟩ := D.str_inv d1
    exact .cons s t (strsAre_of d2)
/-- sorted, of texts -/
theorem On.sortS {i : Nat} {ss : List Str} (hi : ob[i]? = some (.list (ss.map .str))) (h64 : ss.length < 64) (kk : ∀ ss', ss'.Perm ss → sortedS ss' = true → K (.obj ob.length) (ob ++ [.list (ss'.map .str)])) : On c (fun vs => call (.builtin "sorted") vs) [.obj i] st ob K := by
  refine ⟨fun as s vs h F hv t => ?_⟩
  replace hv := all2_one hv
  obtain ⟨v, rfl, hv⟩ := hv
  obtain ⟨a, ha, rfl, vs, n, e, d⟩ := F.objAt hi hv
  have hS := strsAre_of d
  have hl : s.heap.IsList a vs.toList.toArray := ⟨_, e, rfl, n, by simp⟩
  refine sorted_strs hl hS (by rw [d.length]; simpa using h64) fun out ss' h1 h2 h3 => ?_
  obtain ⟨ee, hee⟩ := sortedAll_at s.heap vs.toList out
  have kp : Keep s.heap (sortedAll s.heap vs.toList out) := fun b o q => sortedAll_old q
  exact Pv.made F ⟨_, s.toks, rfl⟩ kp t (new_of_ge (Nat.le_succ _)) (listAt hee (h1.reads _)) (kk ss' h2 h3)
/-! ### two names at once -/
theorem swap_env {ts : List Expr} {v : Expr} {env env' : Env} (h : env.scope = env'.scope) : swappedStores ts v env = swappedStores ts v env' := by
  cases env; cases env'; simp only at h; subst h; rfl
theorem swapW_env {v : Expr} {t : Option Expr} {n : Nat} {env env' : Env} (h : env.scope = env'.scope) : swapsWith v t n env = swapsWith v t n env' := by
  cases env; cases env'; simp only at h; subst h; rfl
noncomputable def envS (scope : Scope) : Env := { scope, locals := 0, globals := 0, cells := [] }
theorem Kn.swap {scope : Scope} (kn : Kn c scope) (ts : List Expr) (v : Expr) : swappedStores ts v c.env = swappedStores ts v (envS scope) := swap_env kn.sc
theorem Kn.swapW {scope : Scope} (kn : Kn c scope) (v : Expr) (t : Option Expr) (n : Nat) : swapsWith v t n c.env = swapsWith v t n (envS scope) := swapW_env kn.sc
theorem tup_two {vs : List Value} {h : Heap} : IsTup (h.push { cls := .type "tuple", data := .seq vs.toArray }) h.objs.size vs.toArray := ⟨_, Heap.get?_push_size _ rfl, rfl, 0, rfl⟩
/-- `x, y = (a, b)`, stored last first -/
theorem Ex.twoS {scope : Scope} {x y : Str} {px py tp vp : Pos} {k k' : Nat} {K : Fl → List (Str × Sl) → List Ob → Prop} (kn : Kn c scope) (hh : c.A.handled = none) (hp : plainE l = true ∧ plainE r = true) (hx : Stores c x) (hy : Stores c y)
    (hw : swappedStores [.Tuple [.Name x px, .Name y py] k tp] (.Tuple [l, r] k' vp) (envS scope) = pure (some [x, y]))
    (h : Ev c l st ob fun a ob1 => Ev c r st ob1 fun b ob2 => K .nx ((x, a) :: (y, b) :: st) ob2) : Ex c (.Assign [.Tuple [.Name x px, .Name y py] k tp] (.Tuple [l, r] k' vp) p) st ob K := by
  refine ⟨fun as s F => Assign_Tuple_swapped (names := [x, y]) (Tuple_ ?_) rfl ((kn.swap _ _).trans hw)⟩
  have hev : EvsF c [l, r] st ob (fun sls ob1 => ∃ a b, sls = [a, b] ∧ K .nx ((x, a) :: (y, b) :: st) ob1) := h.mono fun a ob1 q => q.mono fun b ob2 q => ⟨a, b, rfl, q⟩
  refine wpAny_mono (EvsF.go (items_of (c := c) (es := [l, r]) (by simp [hp]) vp) hev F) ?_ fun ζ ζ x => x
  rintro vs s1 ⟨sls, ob1, n1, F1, h1, t1, a, b, rfl, k1⟩
  obtain ⟨v, w, rfl, hv, hw2⟩ := all2_two h1
  refine wpAny_newObj_type ?_ (by show [v, w].toArray.size ≤ sizeLine; simp [sizeLine])
  have kp := keep_push s1.heap { cls := .type "tuple", data := .seq [v, w].toArray }
  refine unpackItems_tuple (items := [v, w].toArray) hh tup_two fun h' he => ?_
  have kp2 : Keep s1.heap h' := fun b o e => he b o (Nat.ne_of_lt (Heap.lt_size (kp b o e))) (kp b o e)
  have F2 := F1.grow (s' := { s1 with heap := h' }) ⟨h', s1.toks, rfl⟩ kp2
  have tk := TKeep.of_keep kp2
  refine assignInOrder_cons (bindName_ (store F2 (sl := b) (by simpa using hw2.up tk []) hy fun s3 F3 t3 => ?_))
  refine assignInOrder_cons (bindName_ (store F3 (sl := a) (by simpa using (hv.up tk []).up t3 []) hx fun s4 F4 t4 => ?_))
  exact assignInOrder_nil ⟨.nx, _, ob1, n1, F4, rfl, t1.trans (tk.trans (t3.trans t4)), k1⟩
/-- `x, y = e`, where e gives a tuple -/
theorem Ex.unpackT {scope : Scope} {x y : Str} {px py tp : Pos} {k : Nat} {K : Fl → List (Str × Sl) → List Ob → Prop} (kn : Kn c scope) (hh : c.A.handled = none) (hx : Stores c x) (hy : Stores c y)
    (hs : swapsWithSole [.Tuple [.Name x px, .Name y py] k tp] e p.line c.env = pure false) (hw : swappedStores [.Tuple [.Name x px, .Name y py] k tp] e (envS scope) = pure none)
    (h : Ev c e st ob fun v ob1 => ∃ a b, v = .dat (.tuple [a, b]) ∧ K .nx ((y, .dat b) :: (x, .dat a) :: st) ob1) : Ex c (.Assign [.Tuple [.Name x px, .Name y py] k tp] e p) st ob K := by
  refine ⟨fun as s F => Assign_Tuple (wpAny_mono (h.run as s F) ?_ fun ζ ζ x => x) hs ((kn.swap _ _).trans hw)⟩
  rintro v s1 ⟨sl, ob1, n1, F1, h1, t1, a, b, rfl, k1⟩
  exact (Asg.pair hh hx hy).run _ _ _ _ _ _ _ F1 h1 fun s2 F2 t2 => ⟨.nx, _, ob1, n1, F2, rfl, t1.trans t2, k1⟩
/-! ### items of a list are set -/
theorem fits_nat {j : Nat} (h : (j : Int) < 9223372036854775808) : Builtin.List.listFitsIndex (j : Int) = true := fitsIndex_of (Int.natCast_nonneg j) (by lia)
theorem setItemL {prog : Program} {w : World} {A : Around} {E : Value → Shared → Prop} {s : Shared} {l : Addr} {items : Array Value} {n : Nat} {j : Nat} {k : Int} {t : Tok} {v : Value} {Q : Unit → Shared → Prop} (ho : s.heap.get? l = some (PySem.W.listOf items n))
    (hk : k = (j : Int)) (hfit : (j : Int) < 9223372036854775808) (hj : j < items.size)
    (hQ : Q () { s with heap := s.heap.update l (Obj.mapSeq (·.setIfInBounds j v)) }) :
    wpAny (model prog w) A (setItem (.ref l) (.int k t) v) Q E s := by
  have hl : s.heap.IsList l items := ⟨_, ho, rfl, n, rfl⟩
  unfold setItem
  try with_reducible refine wpAny_holding ?_
  first | refine wpAny_bind (wpAny_pure ?_) | skip
  refine wpAny_bind (wpAny_sequenceKey hl.typeIs (by decide) ?_)
  refine wpAny_bind (wpAny_callSpecial?_slot (name := Str.ofString "__setitem__") hl.typeIs slot_list_setitem
    (wpAny_call_entry slot_list_setitem hl.typeIs entry_list_setitem ?_ (args_list_setitem _ _ _)))
  show wpAny _ _ (Builtin.List.listSubscript? (.int k t) >>= _) _ _ s
  refine wpAny_bind (wpAny_listSubscript_int (by rw [hk]; exact fits_nat hfit) ?_)
  subst hk
  have hx' : items[j]? = some items[j] := Array.getElem?_eq_getElem hj
  clear hfit
  show wpAny _ _ ((seqItemAt l j >>= fun r => pure (r.map (j, ·))) >>= _) _ _ s
  refine wpAny_bind (wpAny_bind (wpAny_seqItemAt ho rfl (wpAny_pure ?_)))
  rw [hx']
  show wpAny _ _ (setSeqItemAt l j v >>= _) _ _ s
  refine wpAny_bind (wpAny_setSeqItemAt ho rfl ?_)
  first
    | exact wpAny_bind (wpAny_pure (wpAny_pure ⟨.none, rfl, wpAny_pure hQ⟩))
    | exact wpAny_pure ⟨.none, rfl, wpAny_pure hQ⟩
theorem setItemLast {prog : Program} {w : World} {A : Around} {E : Value → Shared → Prop} {s : Shared} {l : Addr} {items : Array Value} {n : Nat} {t : Tok} {v : Value} {Q : Unit → Shared → Prop} (ho : s.heap.get? l = some (PySem.W.listOf items n))
    (hj : 0 < items.size)
    (hQ : Q () { s with heap := s.heap.update l (Obj.mapSeq (·.setIfInBounds (items.size - 1) v)) }) :
    wpAny (model prog w) A (setItem (.ref l) (.int (-1) t) v) Q E s := by
  have hl : s.heap.IsList l items := ⟨_, ho, rfl, n, rfl⟩
  unfold setItem
  try with_reducible refine wpAny_holding ?_
  first | refine wpAny_bind (wpAny_pure ?_) | skip
  refine wpAny_bind (wpAny_sequenceKey hl.typeIs (by decide) ?_)
  refine wpAny_bind (wpAny_callSpecial?_slot (name := Str.ofString "__setitem__") hl.typeIs slot_list_setitem
    (wpAny_call_entry slot_list_setitem hl.typeIs entry_list_setitem ?_ (args_list_setitem _ _ _)))
  show wpAny _ _ (Builtin.List.listSubscript? (.int (-1) t) >>= _) _ _ s
  refine wpAny_bind (wpAny_listSubscript_int (by decide) ?_)
  show wpAny _ _ ((Builtin.List.listItems (.ref l) >>= fun xs => pure ((seqIndex? (-1) xs.size).bind fun j => xs[j]?.map (j, ·))) >>= _) _ _ s
  refine wpAny_bind (wpAny_bind (listItems_at ho rfl (wpAny_pure ?_)))
  have h1 : seqIndex? (-1) items.size = some (items.size - 1) := by
    unfold seqIndex?
    simp only [show ((-1 : Int) < 0) by decide, if_true]
    have a : (0 : Int) ≤ -1 + (items.size : Int) := by lia
    have b : (-1 : Int) + (items.size : Int) < (items.size : Int) := by lia
    simp only [a, b, decide_true, Bool.and_self, if_true]
    congr 1; lia
  have hx' : items[items.size - 1]? = some items[items.size - 1] := Array.getElem?_eq_getElem (by lia)
  rw [h1]
  simp only [Option.bind_some, hx', Option.map_some]
  show wpAny _ _ (setSeqItemAt l (items.size - 1) v >>= _) _ _ s
  refine wpAny_bind (wpAny_setSeqItemAt ho rfl ?_)
  first
    | exact wpAny_bind (wpAny_pure (wpAny_pure ⟨.none, rfl, wpAny_pure hQ⟩))
    | exact wpAny_pure ⟨.none, rfl, wpAny_pure hQ⟩
theorem Ds.set {h : Heap} {vs : List Value} {xs : List PyData} (d : Ds h vs xs) {v : Value} {x : PyData} (dv : D h v x) (j : Nat) : Ds h (vs.set j v) (xs.set j x) := by
  induction vs generalizing xs j with
  | nil => have := Ds.nil_iff'.mp d; subst this; simpa using d
  | cons a vs ih => cases xs with
    | nil => exact absurd (Ds.nil_iff.mp d) (by simp)
    | cons b xs =>
      obtain ⟨h1, h2⟩ := Ds.cons_iff.mp d
      cases j with
      | zero => exact Ds.cons_iff.mpr ⟨dv, h2⟩
      | succ j => exact Ds.cons_iff.mpr ⟨h1, ih h2 j⟩
noncomputable abbrev Tri2 (c : Cx) (st : List (Str × Sl)) (Q : Sl → Sl → Sl → List Ob → Prop) (i : Expr) (v a : Sl) (ob2 : List Ob) : Prop := Ev c i st ob2 (Q v a)
noncomputable abbrev Tri1 (c : Cx) (st : List (Str × Sl)) (Q : Sl → Sl → Sl → List Ob → Prop) (o i : Expr) (v : Sl) (ob1 : List Ob) : Prop := Ev c o st ob1 (Tri2 c st Q i v)
inductive SetL (c : Cx) (st : List (Str × Sl)) (K : Fl → List (Str × Sl) → List Ob → Prop) (v a k : Sl) (ob3 : List Ob) : Prop
  | mk (x : PyData) (q : Nat) (xs : List PyData) (j : Nat) (e1 : v = .dat x) (e2 : a = .obj q) (hq : ob3[q]? = some (.list xs)) (hm : c.n₀ ≤ q ∨ q ∈ c.mu) (hl : xs.length ≤ 1000) (hj : j < xs.length) (hk : k = .dat (.int (j : Nat)) ∨ (k = .dat (.int (-1)) ∧ j = xs.length - 1)) (k : K .nx st (ob3.set q (.list (xs.set j x))))
/-- `o[j] = e`, a list's item -/
theorem Ex.setItem {o i : Expr} {p' : Pos} {K : Fl → List (Str × Sl) → List Ob → Prop}
    (h : Ev c e st ob (Tri1 c st (SetL c st K) o i))
    (hs : swapsWith e (some (.Subscript o i p')) p.line c.env = pure false) : Ex c (.Assign [.Subscript o i p'] e p) st ob K := by
  refine ⟨fun as s F => wpAny_Assign_Subscript (wpAny_mono (h.run as s F) ?_ fun ζ ζ x => x) hs⟩
  rintro v1 s1 ⟨sl1, ob1, n1, F1, h1, t1, k1⟩
  refine wpAny_mono (k1.run _ s1 F1) ?_ fun ζ ζ x => x
  rintro v2 s2 ⟨sl2, ob2, n2, F2, h2, t2, k2⟩
  refine wpAny_mono (k2.run _ s2 F2) ?_ fun ζ ζ x => x
  rintro v3 s3 ⟨sl3, ob3, n3, F3, h3, t3, x, q, xs, j, rfl, rfl, hq, hm, hl, hj, hk, k⟩
  have h1' := (h1.up t2 n2).up t3 n3
  obtain ⟨a, ha, rfl, vs, n, e', d⟩ := F3.objAt hq (by simpa [List.append_assoc] using h2.up t3 n3)
  have hsz : vs.size = xs.length := by have := d.length; simpa using this
  have fin : ∀ u, u = j → Px c as s.heap K .next { s3 with heap := s3.heap.update a (Obj.mapSeq (·.setIfInBounds u v1)) } := by
    rintro u rfl
    obtain ⟨F', t'⟩ := F3.change (s' := { s3 with heap := s3.heap.update a (Obj.mapSeq (·.setIfInBounds u v1)), toks := s3.toks }) (o' := .list (xs.set u x)) ⟨_, s3.toks, rfl⟩ ha hm (Heap.SameBut.update ..) fun tt =>
      ⟨_, _, IsL.update e' _, by simpa using (d.mono tt).set (D.mono h1' tt) u⟩
    exact ⟨.nx, st, _, n1 ++ n2 ++ n3, by simpa [List.append_assoc] using F', rfl, ((t1.trans t2).trans t3).trans t', k⟩
  rcases hk with rfl | ⟨rfl, rfl⟩
  · obtain ⟨u, rfl⟩ := D.int_inv h3
    exact setItemL e' rfl (by lia) (by lia) (fin j rfl)
  · obtain ⟨u, rfl⟩ := D.int_inv h3
    exact setItemLast e' (by lia) (fin _ (by rw [hsz]))
end
end
/-! R10 -/
section
section
variable {c : Cx} {as : List Addr} {st : List (Str × Sl)} {ob : List Ob} {s s' : Shared} {p : Pos} {e l r : Expr} {K : Sl → List Ob → Prop}
/-! ## dicts -/
noncomputable abbrev sK (g : Gx) : PySem.KeyKind g.prog g.w Str := PySem.strKind g.prog g.w
theorem sK_is (g : Gx) (k : Str) (t : Tok) : (sK g).is k (.str k t) = true := by ((try dsimp only [sK]) <;> simp [PySem.strKind, Value.isStrOf])
theorem not_mods {a : Addr} (h : a ≠ sysModules) : (a == sysModules) = false := by
  simpa using h
theorem Fm.new_ne (F : Fm c as st ob s) : s.heap.objs.size ≠ sysModules := by
  obtain ⟨b, o, h1, h2⟩ := c.g.hi
  intro e
  have h3 : b < s.heap.objs.size := Heap.lt_size (F.base _ _ h2)
  rw [e] at h3
  exact Nat.lt_irrefl _ (Nat.lt_trans h1 h3)
theorem valueAt_cons (k' : Str) (v : Value) (kvs : List (Str × Value)) (k : Str) : valueAt ((k', v) :: kvs) k = if k' = k then some v else valueAt kvs k := by
  unfold valueAt
  rw [List.find?_cons]
  by_cases h : k' = k
  · simp [h]
  · simp [h]
theorem look_none {kvs : List (Str × Value)} {es : List (Str × PyData)} (hk : kvs.map (·.1) = es.map (·.1)) {k : Str} (h : es.lookup k = none) : valueAt kvs k = none := by
  induction kvs generalizing es with
  | nil => rfl
  | cons p kvs ih => cases es with
    | nil => simp at hk
    | cons q es =>
      obtain ⟨k1, v⟩ := p
      obtain ⟨k2, x⟩ := q
      simp only [List.map_cons, List.cons.injEq] at hk
      obtain ⟨rfl, hk⟩ := hk
      rw [List.lookup_cons] at h
      rw [valueAt_cons]
      by_cases hq : k1 = k
      · subst hq; simp at h
      · have : (k == k1) = false := by simp only [beq_eq_false_iff_ne, ne_eq]; exact fun q => hq q.symm
        rw [this] at h
        rw [if_neg hq]; exact ih hk h
theorem look_some {h : Heap} {kvs : List (Str × Value)} {es : List (Str × PyData)} (hk : kvs.map (·.1) = es.map (·.1)) (d : Ds h (kvs.map (·.2)) (es.map (·.2))) {k : Str} {x : PyData} (hx : es.lookup k = some x) : ∃ v, valueAt kvs k = some v ∧ D h v x := by
  induction kvs generalizing es with
  | nil => cases es with
    | nil => simp at hx
    | cons q es => simp at hk
  | cons p kvs ih => cases es with
    | nil => simp at hk
    | cons q es =>
      obtain ⟨k1, v⟩ := p
      obtain ⟨k2, y⟩ := q
      simp only [List.map_cons, List.cons.injEq] at hk
      obtain ⟨rfl, hk⟩ := hk
      obtain ⟨d1, d2⟩ := Ds.cons_iff.mp d
      rw [List.lookup_cons] at hx
      rw [valueAt_cons]
      by_cases hq : k1 = k
      · subst hq
        simp at hx; subst hx
        exact ⟨v, by simp, d1⟩
      · have : (k == k1) = false := by simp only [beq_eq_false_iff_ne, ne_eq]; exact fun q => hq q.symm
        rw [this] at hx
        rw [if_neg hq]; exact ih hk d2 hx
theorem ds_pairs {h : Heap} {kvs : List (Str × Value)} {es : List (Str × PyData)} (hk : kvs.map (·.1) = es.map (·.1)) (d : Ds h (kvs.map (·.2)) (es.map (·.2))) (f : Str → Bool) :
    (kvs.filter fun p => f p.1).map (·.1) = (es.filter fun p => f p.1).map (·.1) ∧ Ds h ((kvs.filter fun p => f p.1).map (·.2)) ((es.filter fun p => f p.1).map (·.2)) := by
  induction kvs generalizing es with
  | nil => cases es with
    | nil => exact ⟨rfl, .nil⟩
    | cons q es => simp at hk
  | cons p kvs ih => cases es with
    | nil => simp at hk
    | cons q es =>
      obtain ⟨k1, v⟩ := p
      obtain ⟨k2, y⟩ := q
      simp only [List.map_cons, List.cons.injEq] at hk
      obtain ⟨rfl, hk⟩ := hk
      obtain ⟨d1, d2⟩ := Ds.cons_iff.mp d
      obtain ⟨h1, h2⟩ := ih hk d2
      by_cases hf : f k1 = true
      · simp only [List.filter_cons, hf, if_true, List.map_cons]
        exact ⟨by rw [h1], Ds.cons_iff.mpr ⟨d1, h2⟩⟩
      · simp only [List.filter_cons, hf, if_false, Bool.false_eq_true]
        exact ⟨h1, h2⟩
theorem On.dictGet {i : Nat} {es : List (Str × PyData)} {k : Str} {x : PyData} (G : Gd c.g) (hi : ob[i]? = some (.dict es)) (kk : K (.dat ((es.lookup k).getD x)) ob) : On c (fun vs => call (.builtin "dict.get") vs) [.obj i, .dat (.str k), .dat x] st ob K := by
  refine ⟨fun as s vs h F hv t => ?_⟩
  replace hv := all2_three hv
  obtain ⟨u, v, w, rfl, hu, hv, hw⟩ := hv
  obtain ⟨a, ha, rfl, kvs, ⟨hD, hne⟩, hk, d⟩ := F.objAt hi hu
  obtain ⟨tk, rfl⟩ := D.str_inv hv
  refine call_meetsIn PySem.F.slot_dict_get hD.typeIs PySem.F.entry_dict_get (PySem.F.args_dict_get_3 _ _ _) (meets_dict_get_default (sK c.g) a (sK_is c.g k tk) (not_mods hne) w) ⟨_, hD.mapOf, ?_⟩
  have F' := F.toks (s.toks + 1)
  cases q : es.lookup k with
  | none =>
    rw [look_none hk q]
    rw [q] at kk
    exact Pv.of (sl := .dat x) F' hw t kk
  | some y =>
    obtain ⟨v, hv, dv⟩ := look_some hk d q
    rw [hv]
    rw [q] at kk
    exact Pv.of (sl := .dat y) F' dv t kk
theorem On.dictPop {i : Nat} {es : List (Str × PyData)} {k : Str} {x : PyData} (G : Gd c.g) (hi : ob[i]? = some (.dict es)) (hm : c.n₀ ≤ i ∨ i ∈ c.mu) (hl : es.length ≤ 1000) (kk : ∀ y, K (.dat y) (ob.set i (.dict (es.filter fun p => decide (p.1 ≠ k))))) :
    On c (fun vs => call (.builtin "dict.pop") vs) [.obj i, .dat (.str k), .dat x] st ob K := by
  refine ⟨fun as s vs h F hv t => ?_⟩
  replace hv := all2_three hv
  obtain ⟨u, v, w, rfl, hu, hv, hw⟩ := hv
  obtain ⟨a, ha, rfl, kvs, ⟨hD, hne⟩, hk, d⟩ := F.objAt hi hu
  obtain ⟨tk, rfl⟩ := D.str_inv hv
  have hlen : kvs.length = es.length := by have := congrArg List.length hk; simpa using this
  cases q : es.lookup k with
  | none =>
    have hv0 := look_none hk q
    refine call_meetsIn PySem.F.slot_dict_pop hD.typeIs PySem.F.entry_dict_pop (PySem.F.args_dict_pop_3 _ _ _) (meets_dict_pop_default (sK c.g) a (sK_is c.g k tk) (not_mods hne) rfl w) ⟨kvs, hD, hv0, ?_⟩
    have e0 : (es.filter fun p => decide (p.1 ≠ k)) = es := by
      refine List.filter_eq_self.mpr fun p hp => ?_
      simp only [decide_eq_true_eq]
      rintro rfl
      obtain ⟨k', y⟩ := p
      obtain ⟨v', hv', _⟩ := mem_lookup_some hp
      rw [q] at hv'; cases hv'
    have e1 : ob.set i (.dict es) = ob := by
      have hib := (List.getElem?_eq_some_iff.mp hi).1
      refine List.ext_getElem? fun j => ?_
      by_cases hj : i = j
      · subst hj; rw [List.getElem?_set_self hib, hi]
      · rw [List.getElem?_set_ne hj]
    have := kk x
    rw [e0, e1] at this
    exact Pv.of (sl := .dat x) (F.toks (s.toks + 1)) hw t this
  | some y =>
    obtain ⟨v, hv, dv⟩ := look_some hk d q
    refine call_meetsIn PySem.F.slot_dict_pop hD.typeIs PySem.F.entry_dict_pop (PySem.F.args_dict_pop_3 _ _ _) (meets_dict_pop_there (sK c.g) a (sK_is c.g k tk) [w] (.inr ⟨w, rfl⟩) rfl) ⟨kvs, v, hD, by rw [hlen]; exact Nat.le_trans hl (by decide), hv, fun h' hD' hs' => ?_⟩
    have hw' : PySem.without kvs k = kvs.filter fun p => decide (p.1 ≠ k) := rfl
    obtain ⟨F', t'⟩ := F.change (s' := { s with heap := h', toks := s.toks + 1 }) (o' := .dict (es.filter fun p => decide (p.1 ≠ k))) ⟨h', _, rfl⟩ ha hm hs' fun tt => by
      obtain ⟨h1, h2⟩ := ds_pairs hk d (fun x => decide (x ≠ k))
      exact ⟨_, ⟨hD', hne⟩, h1, h2.mono tt⟩
    exact Pv.of (sl := .dat y) F' (D.mono dv t') (t.trans t') (kk y)
theorem O2.inDict {i : Nat} {es : List (Str × PyData)} {k : Str} (G : Gd c.g) (hi : ob[i]? = some (.dict es)) (kk : K (.dat (.bool (es.lookup k).isSome)) ob) : O2 c (compareOp .In) (.dat (.str k)) (.obj i) st ob K := by
  refine ⟨fun as s va vb F ha hb => ?_⟩
  obtain ⟨a, haa, rfl, kvs, ⟨hD, hne⟩, hk, d⟩ := F.objAt hi hb
  obtain ⟨tk, rfl⟩ := D.str_inv ha
  refine wpAny_in_of (sK_is c.g k tk) (not_mods hne) hD.mapOf ?_
  have : (valueAt kvs k).isSome = (es.lookup k).isSome := by
    cases q : es.lookup k with
    | none => rw [look_none hk q]; rfl
    | some y =>
      obtain ⟨v, hv, _⟩ := look_some hk d q
      rw [hv]; rfl
  rw [this]
  exact Pv.of (sl := .dat (.bool _)) (F.toks _) (Reads.bool _) (TKeep.refl _) kk
theorem O2.subDict {i : Nat} {es : List (Str × PyData)} {k : Str} {x : PyData} {value slice : Expr} (hi : ob[i]? = some (.dict es)) (hx : es.lookup k = some x) (kk : K (.dat x) ob) : O2 c (subscriptTail value slice) (.obj i) (.dat (.str k)) st ob K := by
  refine ⟨fun as s va vb F ha hb => ?_⟩
  obtain ⟨a, haa, rfl, kvs, ⟨hD, hne⟩, hk, d⟩ := F.objAt hi ha
  obtain ⟨tk, rfl⟩ := D.str_inv hb
  obtain ⟨v, hv, dv⟩ := look_some hk d hx
  refine subTail hD.typeIs PySem.slot_dict_getitem.lookup (wpAny_getItem_of (sK_is c.g k tk) hD.mapOf hv ?_)
  exact Pv.of (sl := .dat x) (F.toks _) dv (TKeep.refl _) kk
theorem On.dictOf {i : Nat} {es : List (Str × PyData)} (G : Gd c.g) (hi : ob[i]? = some (.dict es)) (hl : es.length ≤ 1000) (kk : K (.obj ob.length) (ob ++ [.dict es])) : On c (fun vs => call (.type "dict") vs) [.obj i] st ob K := by
  refine ⟨fun as s vs h F hv t => ?_⟩
  replace hv := all2_one hv
  obtain ⟨v, rfl, hv⟩ := hv
  obtain ⟨a, ha, rfl, kvs, ⟨hD, hne⟩, hk, d⟩ := F.objAt hi hv
  have hlen : kvs.length = es.length := by have := congrArg List.length hk; simpa using this
  refine PySem.kt_call_dict (not_mods hne) hD (by rw [hlen]; exact Nat.le_trans hl (by decide)) fun h' hD' hs' => ?_
  have kp : Keep s.heap h' := fun b o q => (hs'.2 b (Nat.ne_of_lt (Heap.lt_size q))).trans (Heap.get?_push_of_some _ q)
  exact Pv.made (o := .dict es) F ⟨h', s.toks, rfl⟩ kp t (fresh_size _) ⟨kvs, ⟨hD', F.new_ne⟩, hk, d.mono (TKeep.of_keep kp)⟩ kk
inductive SetD (c : Cx) (st : List (Str × Sl)) (K : Fl → List (Str × Sl) → List Ob → Prop) (v a k : Sl) (ob3 : List Ob) : Prop
  | mk (x : PyData) (q : Nat) (es : List (Str × PyData)) (ks : Str) (e1 : v = .dat x) (e2 : a = .obj q) (e3 : k = .dat (.str ks)) (hq : ob3[q]? = some (.dict es)) (hm : c.n₀ ≤ q ∨ q ∈ c.mu) (hl : es.length ≤ 1000) (hn : es.lookup ks = none) (k : K .nx st (ob3.set q (.dict (es ++ [(ks, x)]))))
/-- `d[k] = e`, with a new key -/
theorem Ex.setDict {o i : Expr} {p' : Pos} {K : Fl → List (Str × Sl) → List Ob → Prop}
    (h : Ev c e st ob (Tri1 c st (SetD c st K) o i))
    (hs : swapsWith e (some (.Subscript o i p')) p.line c.env = pure false) : Ex c (.Assign [.Subscript o i p'] e p) st ob K := by
  refine ⟨fun as s F => wpAny_Assign_Subscript (wpAny_mono (h.run as s F) ?_ fun ζ ζ x => x) hs⟩
  rintro v1 s1 ⟨sl1, ob1, n1, F1, h1, t1, k1⟩
  refine wpAny_mono (k1.run _ s1 F1) ?_ fun ζ ζ x => x
  rintro v2 s2 ⟨sl2, ob2, n2, F2, h2, t2, k2⟩
  refine wpAny_mono (k2.run _ s2 F2) ?_ fun ζ ζ x => x
  rintro v3 s3 ⟨sl3, ob3, n3, F3, h3, t3, x, q, es, ks, rfl, rfl, rfl, hq, hm, hl, hn, k⟩
  have h1' := (h1.up t2 n2).up t3 n3
  obtain ⟨a, ha, rfl, kvs, ⟨hD, hne⟩, hk, d⟩ := F3.objAt hq (by simpa [List.append_assoc] using h2.up t3 n3)
  obtain ⟨tk, rfl⟩ := D.str_inv h3
  have hlen : kvs.length = es.length := by have := congrArg List.length hk; simpa using this
  refine wpAny_setItem_pairs (sK_is c.g ks tk) hD (fun h' hD' hs' => ?_) (by rw [hlen]; exact Nat.le_trans hl (by decide))
  have hst : PySem.stored kvs ks v1 = kvs ++ [(ks, v1)] := by
    unfold PySem.stored
    rw [if_neg]
    rw [List.any_eq_true]
    rintro ⟨⟨k', v'⟩, hm', he⟩
    have he : k' = ks := by simpa using he
    subst he
    have : k' ∈ es.map (·.1) := hk ▸ List.mem_map.mpr ⟨(k', v'), hm', rfl⟩
    obtain ⟨⟨k2, y⟩, hy, rfl⟩ := List.mem_map.mp this
    obtain ⟨v'', hv'', _⟩ := mem_lookup_some hy
    rw [hn] at hv''; cases hv''
  rw [hst] at hD'
  obtain ⟨F', t'⟩ := F3.change (s' := { s3 with heap := h', toks := s3.toks + 1 }) (o' := .dict (es ++ [(ks, x)])) ⟨h', _, rfl⟩ ha hm hs' fun tt => by
    refine ⟨_, ⟨hD', hne⟩, by simp [hk], ?_⟩
    simp only [List.map_append, List.map_cons, List.map_nil]
    exact (d.mono tt).append (.one (D.mono h1' tt))
  exact ⟨.nx, st, _, n1 ++ n2 ++ n3, by simpa [List.append_assoc] using F', rfl, ((t1.trans t2).trans t3).trans t', k⟩
/-! ### displays of dicts -/
noncomputable def EvDF (c : Cx) : List Expr → List Expr → List (Str × Sl) → List Ob → (List (Str × PyData) → List Ob → Prop) → Prop
  | [], [], _, ob, K => K [] ob
  | k :: ks, v :: vs, st, ob, K => Ev c k st ob fun a ob1 => ∃ x, a = .dat (.str x) ∧ Ev c v st ob1 fun b ob2 => ∃ y, b = .dat y ∧ EvDF c ks vs st ob2 fun es ob3 => K ((x, y) :: es) ob3
  | _, _, _, _, _ => False
inductive Pd (c : Cx) (as : List Addr) (st : List (Str × Sl)) (h : Heap) (K : List (Str × PyData) → List Ob → Prop) (ps : List (Value × Value)) (s' : Shared) : Prop
  | mk (es : List (Str × PyData)) (ob' : List Ob) (nw : List Addr) (F : Fm c (as ++ nw) st ob' s') (t : TKeep h s'.heap) (k : K es ob') (kvs : List (Str × Value)) (hc : Carries (sK c.g) ps kvs) (hk : kvs.map (·.1) = es.map (·.1)) (d : Ds s'.heap (kvs.map (·.2)) (es.map (·.2)))
theorem EvDF.go {ks vs : List Expr} {pos : Pos} {K : List (Str × PyData) → List Ob → Prop} (h : EvDF c ks vs st ob K) (F : Fm c as st ob s) :
    wpAny c.g.M c.A (evalPairs (pairTrees (ks.map some) vs c.env pos)) (Pd c as st s.heap K) (fun ζ ζ => False) s := by
  induction ks generalizing vs ob as s K with
  | nil => cases vs with
    | nil => exact evalPairs_nil ⟨[], ob, [], by simpa using F, TKeep.refl _, h, [], trivial, rfl, .nil⟩
    | cons v vs => exact h.elim
  | cons k ks ih => cases vs with
    | nil => exact h.elim
    | cons v vs =>
      refine evalPairs_cons (wpAny_mono (Ev.run h as s F) ?_ fun ζ ζ x => x)
      rintro kv s1 ⟨sl1, ob1, n1, F1, h1, t1, x, rfl, k1⟩
      refine wpAny_bind (wpAny_mono (k1.run _ s1 F1) ?_ fun ζ ζ x => x)
      rintro vv s2 ⟨sl2, ob2, n2, F2, h2, t2, y, rfl, k2⟩
      refine wpAny_bind (wpAny_standAt (wpAny_pure ?_))
      refine wpAny_mono (ih k2 F2) ?_ fun ζ ζ x => x
      rintro ps s3 ⟨es, ob3, n3, F3, t3, k3, kvs, hc, hk, d⟩
      obtain ⟨t, rfl⟩ := D.str_inv h1
      exact ⟨(x, y) :: es, ob3, n1 ++ n2 ++ n3, by simpa [List.append_assoc] using F3, (t1.trans t2).trans t3, k3, (x, vv) :: kvs, ⟨sK_is c.g x t, rfl, hc⟩, by simp [hk], Ds.cons_iff.mpr ⟨D.mono h2 t3, d⟩⟩
theorem Ev.dict {ks vs : List Expr} (hne : ks ≠ []) (hl : ks.length = vs.length) (h15 : ks.length ≤ 15) (h : EvDF c ks vs st (ob ++ [.dict []]) fun es ob1 => (es.map (·.1)).Nodup ∧ ob1[ob.length]? = some (.dict []) ∧ K (.obj ob.length) (ob1.set ob.length (.dict es)))
    (h0 : c.n₀ ≤ ob.length) : Ev c (.Dict (ks.map some) vs p) st ob K := by
  refine ⟨fun as s F => ?_⟩
  have hlen := F.obs.length
  refine wpAny_Dict_walk (knd := sK c.g) (by simp) (by simpa using hl) (by simpa using hne) (by simpa using h15) ?_
  have kp := keep_push s.heap { cls := .type "dict", data := .dict #[] }
  have F1 := F.alloc (s' := { s with heap := s.heap.push { cls := .type "dict", data := .dict #[] } }) (o := .dict []) ⟨_, s.toks, rfl⟩ kp (fresh_size _) ⟨[], ⟨Heap.DictOf.new s.heap, F.new_ne⟩, rfl, .nil⟩
  refine wpAny_mono (EvDF.go h F1) ?_ fun ζ ζ x => x
  rintro ps s1 ⟨es, ob1, nw, F2, t2, ⟨hnd, hob, k⟩, kvs, hc, hk, d⟩
  have hD : (as ++ [s.heap.objs.size] ++ nw)[ob.length]? = some s.heap.objs.size := by
    rw [List.append_assoc, List.getElem?_append_right (by lia)]
    simp [hlen]
  obtain ⟨o', ho', hat⟩ := F2.obs.get hD
  rw [hob] at ho'; cases ho'
  obtain ⟨kvs0, ⟨hD0, hne0⟩, hk0, _⟩ := hat
  have : kvs0 = [] := by cases kvs0 with
    | nil => rfl
    | cons => simp at hk0
  subst this
  refine ⟨kvs, hc, hD0, fun h' hD' hs' => ?_⟩
  rw [merged_nil_of_nodup _ (by rw [hk]; exact hnd)] at hD'
  obtain ⟨F', t'⟩ := F2.change (s' := { s1 with heap := h', toks := s1.toks + ps.length }) (o' := .dict es) ⟨h', _, rfl⟩ hD (.inl h0) hs' fun tt => ⟨kvs, ⟨hD', hne0⟩, hk, d.mono tt⟩
  exact ⟨.obj ob.length, _, [s.heap.objs.size] ++ nw, by simpa [List.append_assoc] using F', ⟨_, by simpa [List.append_assoc] using hD, rfl⟩, ((TKeep.of_keep kp).trans t2).trans t', k⟩
theorem Ev.dict0 (k : K (.obj ob.length) (ob ++ [.dict []])) : Ev c (.Dict [] [] p) st ob K := by
  refine ⟨fun as s F => wpAny_Dict_empty ?_⟩
  have kp := keep_push s.heap { cls := .type "dict", data := .dict #[] }
  exact Pv.made (o := .dict []) F ⟨_, s.toks, rfl⟩ kp (TKeep.refl _) (fresh_size _) ⟨[], ⟨Heap.DictOf.new s.heap, F.new_ne⟩, rfl, .nil⟩ k
end
end
/-! R11 -/
section
section
variable {c : Cx} {as : List Addr} {st : List (Str × Sl)} {ob : List Ob} {s s' : Shared} {p : Pos} {e l r : Expr} {K : Sl → List Ob → Prop}
noncomputable def natS (n : Nat) : Str := Str.ofString (toString (n : Int))
theorem On.strI {n : Nat} (hn : n < 1000000) (kk : K (.dat (.str (natS n))) ob) : On c (fun vs => call (.type "str") vs) [.dat (.int n)] st ob K := by
  refine ⟨fun as s vs h F hv t => ?_⟩
  replace hv := all2_one hv
  obtain ⟨v, rfl, hv⟩ := hv
  obtain ⟨u, rfl⟩ := D.int_inv hv
  refine str_of_int_fit (N := 1000000) (by rw [if_neg (by lia)]; lia) (by decide) fun ζ => ?_
  exact Pv.of (sl := .dat (.str (natS n))) (F.toks _) (Reads.str _ _) t kk
theorem On.absI {n : Int} (kk : K (.dat (.int (n.natAbs : Int))) ob) : On c (fun vs => call (.builtin "abs") vs) [.dat (.int n)] st ob K := by
  refine ⟨fun as s vs h F hv t => ?_⟩
  replace hv := all2_one hv
  obtain ⟨v, rfl, hv⟩ := hv
  obtain ⟨u, rfl⟩ := D.int_inv hv
  refine call_abs_int fun u' tk => ?_
  have : (if n < 0 then -n else n) = (n.natAbs : Int) := by split <;> lia
  rw [this]
  exact Pv.of (sl := .dat (.int _)) (F.toks _) (Reads.int _ _) t kk
theorem On.minI {m n : Int} (hh : c.A.handled = none) (kk : K (.dat (.int (min m n))) ob) : On c (fun vs => call (.builtin "min") vs) [.dat (.int m), .dat (.int n)] st ob K := by
  refine ⟨fun as s vs h F hv t => ?_⟩
  replace hv := all2_two hv
  obtain ⟨v, w, rfl, hv, hw⟩ := hv
  obtain ⟨u, rfl⟩ := D.int_inv hv
  obtain ⟨u', rfl⟩ := D.int_inv hw
  refine min_two_ints hh fun h' tk hk => ?_
  have kp : Keep s.heap h' := hk
  by_cases hc : n < m
  · rw [if_pos hc]
    rw [show min m n = n by lia] at kk
    exact Pv.grow (sl := .dat (.int n)) F ⟨h', tk, rfl⟩ kp t (Reads.int _ _) kk
  · rw [if_neg hc]
    rw [show min m n = m by lia] at kk
    exact Pv.grow (sl := .dat (.int m)) F ⟨h', tk, rfl⟩ kp t (Reads.int _ _) kk
theorem On.maxI {m n : Int} (hh : c.A.handled = none) (kk : K (.dat (.int (max m n))) ob) : On c (fun vs => call (.builtin "max") vs) [.dat (.int m), .dat (.int n)] st ob K := by
  refine ⟨fun as s vs h F hv t => ?_⟩
  replace hv := all2_two hv
  obtain ⟨v, w, rfl, hv, hw⟩ := hv
  obtain ⟨u, rfl⟩ := D.int_inv hv
  obtain ⟨u', rfl⟩ := D.int_inv hw
  refine max_two_ints hh fun h' tk hk => ?_
  have kp : Keep s.heap h' := hk
  by_cases hc : n > m
  · rw [if_pos hc]
    rw [show max m n = n by lia] at kk
    exact Pv.grow (sl := .dat (.int n)) F ⟨h', tk, rfl⟩ kp t (Reads.int _ _) kk
  · rw [if_neg hc]
    rw [show max m n = m by lia] at kk
    exact Pv.grow (sl := .dat (.int m)) F ⟨h', tk, rfl⟩ kp t (Reads.int _ _) kk
/-- ', '.join(list) -/
theorem On.join {i : Nat} {x : Str} {ys : List Str} (hi : ob[i]? = some (.list (ys.map .str))) (hx : x.length ≤ 64) (hl : (ys.map (·.length)).sum + ys.length * 64 ≤ 16777216) (kk : K (.dat (.str (Txt.join x ys))) ob) :
    On c (fun vs => call (.builtin "str.join") vs) [.dat (.str x), .obj i] st ob K := by
  refine ⟨fun as s vs h F hv t => ?_⟩
  replace hv := all2_two hv
  obtain ⟨v, w, rfl, hv, hw⟩ := hv
  obtain ⟨u, rfl⟩ := D.str_inv hv
  obtain ⟨a, ha, rfl, vs, n, e, d⟩ := F.objAt hi hw
  refine join_listC ⟨_, e, rfl, n, rfl⟩ (strsAre_of d) hx hl fun t' k => ?_
  exact Pv.of (sl := .dat (.str _)) (F.toks _) (Reads.str _ _) t kk
/-- list.index of a text -/
theorem On.index {i j : Nat} {xs : List Str} {x : Str} (hi : ob[i]? = some (.list (xs.map .str))) (hl : xs.length ≤ 1000) (hj : xs.idxOf x = j) (hx : x ∈ xs) (kk : K (.dat (.int j)) ob) : On c (fun vs => call (.builtin "list.index") vs) [.obj i, .dat (.str x)] st ob K := by
  refine ⟨fun as s vs h F hv t => ?_⟩
  replace hv := all2_two hv
  obtain ⟨v, w, rfl, hv, hw⟩ := hv
  obtain ⟨u, rfl⟩ := D.str_inv hw
  obtain ⟨a, ha, rfl, vs, n, e, d⟩ := F.objAt hi hv
  have hs : vs.size = xs.length := by have := d.length; simpa using this
  have hjl : j < xs.length := by rw [← hj]; exact List.idxOf_lt_length_iff.mpr hx
  have at' : ∀ m (hm : m < vs.size), ∃ t', vs[m] = .str (xs[m]'(by lia)) t' := fun m hm => by
    obtain ⟨y, hy, dy⟩ := d.get' (i := m) (v := vs[m]) (by simp [hm])
    have : y = .str (xs[m]'(by lia)) := by
      simp only [List.getElem?_map, Option.map_eq_some_iff] at hy
      obtain ⟨z, hz, rfl⟩ := hy
      rw [(List.getElem?_eq_some_iff.mp hz).2]
    subst this
    exact D.str_inv dy
  let eq : Value → Bool := fun v => match v with | .str y _ => decide (y = x) | _ => false
  refine call_meets PySem.F.slot_list_index ⟨_, e, rfl⟩ PySem.F.entry_list_index (PySem.F.args_list_index_2 _ _) (MeetsSeq.list_index a vs n (.str x u) eq ?_ j (by lia) (by lia) ?_ ?_) ⟨e, ?_⟩
  · intro y hy
    obtain ⟨m, hm, rfl⟩ := Array.mem_iff_getElem.mp hy
    obtain ⟨t', ht⟩ := at' m hm
    rw [ht]
    exact fun ζ ζ ζ ζ ζ ζ q => wpAny_eqBool_str q
  · obtain ⟨t', ht⟩ := at' j (by lia)
    rw [ht]
    subst hj
    simp [eq, List.getElem_idxOf]
  · intro m hm hmj
    obtain ⟨t', ht⟩ := at' m hm
    rw [ht]
    have : xs[m]'(by lia) ≠ x := by
      intro q
      have := List.not_of_lt_findIdx (p := (· == x)) (xs := xs) (i := m) (by show m < xs.idxOf x; lia)
      simp [q] at this
    simpa [eq] using this
  · exact Pv.of (sl := .dat (.int j)) (F.toks _) (Reads.int _ _) t kk
end
end
/-! R12 -/
section
section
variable {c : Cx} {as : List Addr} {st : List (Str × Sl)} {ob : List Ob} {s s' : Shared} {p : Pos} {e l r : Expr} {K : Sl → List Ob → Prop}
noncomputable def isTupD : PyData → Bool
  | .tuple _ => true
  | _ => false
theorem On.isTup {x : PyData} (hx : okD x = true) (kk : K (.dat (.bool (isTupD x))) ob) : On c (fun vs => call (.builtin "isinstance") vs) [.dat x, .val (.type "tuple")] st ob K := by
  refine ⟨fun as s vs h F hv t => ?_⟩
  replace hv := all2_two hv
  obtain ⟨v, w, rfl, hv, rfl⟩ := hv
  have F' := F.toks (s.toks + 1)
  have fin : ∀ tk, isTupD x = false → Pv c as st h K (.bool false) { s with toks := tk } := fun tk q => by
    rw [q] at kk
    exact Pv.of (sl := .dat (.bool false)) (F.toks tk) (Reads.bool _) t kk
  cases x with
  | str y =>
    obtain ⟨u, rfl⟩ := D.str_inv hv
    exact call_isinstance_of (isinstance_nested_false_str rfl meta_tuple sub_str_tuple (fin _ rfl))
  | int y =>
    obtain ⟨u, rfl⟩ := D.int_inv hv
    exact call_isinstance_of (isinstance_nested_false_int rfl meta_tuple sub_int_tuple (fin _ rfl))
  | none =>
    rw [D.none_inv hv]
    exact call_isinstance_of (isinstance_nested_false_none rfl meta_tuple sub_NoneType_tuple (fin _ rfl))
  | tuple xs =>
    obtain ⟨a, vs, rfl, hT, _⟩ := isTup_of hv
    exact call_isinstance_yes hT.typeIs meta_tuple AutoSeq1.sub_tuple_tuple (Pv.of (sl := .dat (.bool true)) F (Reads.bool _) t kk)
  | bool b => ((try dsimp only [okD] at hx) <;> simp at hx)
  | list b => ((try dsimp only [okD] at hx) <;> simp at hx)
  | dict b => ((try dsimp only [okD] at hx) <;> simp at hx)
/-! ### x.split('.')[0] -/
noncomputable def dotS : Str := Str.ofString "."
noncomputable def headOf (x : Str) : Str := ((Txt.split x dotS)[0]?).getD x
theorem split_pos (x y : Str) : 0 < (Txt.split x y).length := by
  unfold Txt.split
  split
  · simp
  · split
    · simp
    · rw [length_partsBetween]; lia
theorem headOf_get (x : Str) : (Txt.split x dotS)[0]? = some (headOf x) := by
  unfold headOf
  rw [List.getElem?_eq_getElem (split_pos x dotS)]; rfl
theorem Ev.splitHead {o : Expr} {apos p1 p2 p3 : Pos} {kd kd' : Nat} {x : Str}
    (h : Ev c o st ob fun a ob1 => a = .dat (.str x) ∧ x.length ≤ 1000000 ∧ K (.dat (.str (headOf x))) ob1)
    (hb : attributeBase o (Str.ofString "split") c.env (eval o c.env) = eval o c.env) (hl : (Pos.endLine apos == Pos.line p2) = true) :
    Ev c (.Subscript (.Call (.Attribute o (Str.ofString "split") apos) [.Constant (.str dotS) kd p1] [] p2) (.Constant (.int 0) kd' p3) p) st ob K := by
  refine ⟨fun as s F => Subscript_ ?_⟩
  have he : [Expr.Constant (.str dotS) kd p1].all plainE = true := rfl
  have hi := items_of (c := c) he p2
  refine wpAny_Call_method hb ?_ hl PySem.F.plainAttrs_str PySem.F.slot_str_split PySem.F.type_str_split (wpAny_mono (h.run as s F) ?_ fun ζ ζ x => x)
  · rw [nil_kw]
    have : ((backTo p2 (starEach [Expr.Constant (.str dotS) kd p1] c.env)).all fun x => !x.1) = true := by
      have := items_plain hi
      rw [List.any_eq_false] at this
      exact List.all_eq_true.mpr fun x hx => by simpa using this x hx
    rw [this]
    rfl
  rintro ov s1 ⟨a, ob1, n1, F1, h1, t1, rfl, hx, k1⟩
  obtain ⟨tx, rfl⟩ := D.str_inv h1
  refine ⟨typeIs_str _ _ _, (fun ζ e => nomatch e), ?_⟩
  have hev : EvsF c [Expr.Constant (.str dotS) kd p1] st ob1 (fun sls ob2 => sls = [.dat (.str dotS)] ∧ ob2 = ob1) := (Ev.strC (K := fun sl ob2 => sl = .dat (.str dotS) ∧ ob2 = ob1) ⟨rfl, rfl⟩).mono fun a b q => by
    obtain ⟨rfl, rfl⟩ := q
    exact ⟨rfl, rfl⟩
  refine Calls.callWith_builtin (items_plain hi) (evalArgs_items hi (wpAny_mono (EvsF.go hi hev F1) ?_ fun ζ ζ x => x))
  rintro vs s2 ⟨sls, ob2, n2, F2, h2, t2, rfl, rfl⟩
  obtain ⟨v, rfl, hv⟩ := all2_one h2
  obtain ⟨ty, rfl⟩ := D.str_inv hv
  refine SCH.split1 (P := fun hh => Keep s2.heap hh) (fun hh o q b o' e => Heap.get?_push_of_some _ (q b o' e)) (fun ζ ζ e => e) rfl (fun Dl l h' k hl' hP hL => ?_) (Nat.le_trans hx (by decide)) ?_
  · have F3 := F2.grow (s' := { s2 with heap := h', toks := k }) ⟨h', k, rfl⟩ hP
    refine wpAny_Constant_int ?_
    have hz : (strValues l).toArray[0]? = some (.str (headOf x) ((l[0]?.map (·.2)).getD 0)) := by
      have h0 := headOf_get x
      rw [← hl', List.getElem?_map] at h0
      cases q : l[0]? with
      | none => rw [q] at h0; cases h0
      | some pr =>
        rw [q] at h0
        simp only [Option.map_some, Option.some.injEq] at h0
        cases l with
        | nil => simp at q
        | cons a r =>
          simp at q; subst q
          obtain ⟨w, tw⟩ := a
          simp at h0; subst h0
          simp [strValues]
    refine subTail (T := "list") hL.typeIs PySem.F.slot_list_getitem.lookup (wpAny_getItem_list hL (by decide) (by decide) hz ?_)
    exact ⟨.dat (.str (headOf x)), ob2, n1 ++ n2, by simpa [List.append_assoc] using F3.toks _, Reads.str _ _, (t1.trans t2).trans (TKeep.of_keep hP), k1⟩
  · rw [length_partsBetween]
    have := StrLaws.occ_length_le x dotS 0 x.length (x.length + 1)
    have : sizeLine = 2 ^ 24 := rfl
    lia
end
end
/-! P0 -/
section
structure Gs (g : Gx) : Prop extends Gd g where
  hK : g.K = hpK g.w.params
  prog : g.prog = PySem.Challenge.rw_sa0485_01.row.prog
noncomputable def anyD : PyData := .tuple [.str (Str.ofString "name"), .str (Str.ofString "Any"), .tuple []]
noncomputable def botD : PyData := .tuple [.str (Str.ofString "bottom")]
theorem D.any {g : Gx} (G : Gs g) {h : Heap} (kh : g.K.In h) : D h (.ref 16) anyD := by
  have e1 : g.K.lookup 16 = some { cls := .type "tuple", data := .seq #[.str (Str.ofString "name") 189, .str (Str.ofString "Any") 190, .ref 15] } := by rw [G.hK]; rfl
  have e2 : g.K.lookup 15 = some { cls := .type "tuple", data := .seq #[] } := by rw [G.hK]; rfl
  exact D.mkTuple (vs := [.str (Str.ofString "name") 189, .str (Str.ofString "Any") 190, .ref 15]) (kh _ _ e1) (Ds.cons_iff.mpr ⟨Reads.str _ _, Ds.cons_iff.mpr ⟨Reads.str _ _, .one (D.mkTuple (vs := []) (kh _ _ e2) .nil)⟩⟩)
theorem D.bot {g : Gx} (G : Gs g) {h : Heap} (kh : g.K.In h) : D h (.ref 17) botD := by
  have e1 : g.K.lookup 17 = some { cls := .type "tuple", data := .seq #[.str (Str.ofString "bottom") 192] } := by rw [G.hK]; rfl
  exact D.mkTuple (vs := [.str (Str.ofString "bottom") 192]) (kh _ _ e1) (.one (Reads.str _ _))
theorem fdOf_spec {K : Frag} {f : Addr} (h : fnIn K f = true) : ∃ oc od osl, K.lookup f = some ⟨oc, od, .func (fdOf K f), osl⟩ := by
  unfold fnIn at h
  unfold fdOf
  split at h
  · rename_i q; rw [q]; exact ⟨_, _, _, rfl⟩
  · cases h
theorem CallC.enter {g : Gx} (G : Gs g) {f : Addr} {names : List Str} {args : List Sl} {ob : List Ob} {mu : List Nat} {n : Nat} {K : Rs → List Ob → Prop}
    (hf : ∀ P, fnIn (hpK P) f = true) (hcd : ∀ P, codeIn (hpK P) (fdOf (hpK P) f).code (fdOf (hpK P) f).qualname = true)
    (hok : ∀ P, (fdOf (hpK P) f).closure = [] ∧ (fdOf (hpK P) f).scope.isCoroutine = false ∧ (fdOf (hpK P) f).scope.isGenerator = false ∧ (fdOf (hpK P) f).scope.kind = .function ∧ (fdOf (hpK P) f).globals = mainGlobals ∧ (fdOf (hpK P) f).builtins = builtinsNs)
    (b : List Stmt) (scope : Scope) (hb : ∀ P, (fdOf (hpK P) f).body = .stmts b) (hs : ∀ P, (fdOf (hpK P) f).scope = scope)
    (hbind : ∀ P, ∀ vs : List Value, vs.length = args.length → bindArgs (fdOf (hpK P) f) ⟨vs, []⟩ = pure (names.zip vs)) (hnd : names.Nodup)
    (hkd : (names.all fun x => scope.names.lookup x == some .local || scope.names.lookup x == some .cell) = true)
    (h : ∀ c : Cx, c.g = g → Ok c.A n → Kn c scope → c.wc = true → c.n₀ = ob.length → c.mu = mu → Exs c b (names.zip args) ob (Fin ob.length K)) : CallC g (.ref f) args ob mu (n + 1) K := by
  obtain ⟨oc, od, osl, ho⟩ := fdOf_spec (hf g.w.params)
  obtain ⟨h1, h2, h3, h4, h5, h6⟩ := hok g.w.params
  have hs' := hs g.w.params
  refine CallC.body (fd := fdOf (hpK g.w.params) f) (b := b) G.toGd (by rw [G.hK]; exact ho) (hb _) (by rw [G.hK]; exact hcd _) h1 h2 h3 h4 h5 h6 (hbind _) hnd ?_ ?_ ?_
  · rw [hs']
    intro m x hx
    have := List.all_eq_true.mp hkd x hx
    rcases Bool.or_eq_true_iff.mp this with q | q
    · exact .inl (beq_iff_eq.mp q)
    · exact .inr ⟨beq_iff_eq.mp q, cellsFrom_some scope.names m [] (.inl (beq_iff_eq.mp q))⟩
  · rw [hs']
    intro m x hx
    exact cellsFrom_some scope.names m [] (.inl hx)
  · rw [hs']; exact h
/-- entering a def of the text -/
theorem Call.enter {g : Gx} (G : Gs g) {f : Addr} {names : List Str} {args : List Sl} {ob : List Ob} {mu : List Nat} {n : Nat} {K : Rs → List Ob → Prop}
    (hf : ∀ P, fnIn (hpK P) f = true) (hcd : ∀ P, codeIn (hpK P) (fdOf (hpK P) f).code (fdOf (hpK P) f).qualname = true)
    (hok : ∀ P, (fdOf (hpK P) f).closure = [] ∧ (fdOf (hpK P) f).scope.isCoroutine = false ∧ (fdOf (hpK P) f).scope.isGenerator = false ∧ (fdOf (hpK P) f).scope.kind = .function ∧ (fdOf (hpK P) f).globals = mainGlobals ∧ (fdOf (hpK P) f).builtins = builtinsNs)
    (b : List Stmt) (scope : Scope) (hb : ∀ P, (fdOf (hpK P) f).body = .stmts b) (hs : ∀ P, (fdOf (hpK P) f).scope = scope)
    (hbind : ∀ P, ∀ vs : List Value, vs.length = args.length → bindArgs (fdOf (hpK P) f) ⟨vs, []⟩ = pure (names.zip vs)) (hnd : names.Nodup)
    (hkd : (names.all fun x => scope.names.lookup x == some .local || scope.names.lookup x == some .cell) = true)
    (h : ∀ c : Cx, c.g = g → Ok c.A n → Kn c scope → c.wc = true → c.n₀ = ob.length → c.mu = mu → Exs c b (names.zip args) ob (Fin ob.length K)) : Call g (.ref f) args ob mu (n + 1) K :=
  (CallC.enter G hf hcd hok b scope hb hs hbind hnd hkd h).call
section
variable {c : Cx} {st : List (Str × Sl)} {ob : List Ob} {p : Pos} {e l r : Expr} {es : List Expr}
theorem O2.isNone {K : Sl → List Ob → Prop} (k : K (.dat (.bool true)) ob) : O2 c (compareOp .Is) (.dat .none) (.dat .none) st ob K := by
  refine ⟨fun as s va vb F ha hb => ?_⟩
  rw [D.none_inv ha, D.none_inv hb]
  exact wpAny_is_plain rfl (Pv.of (sl := .dat (.bool true)) F (Reads.bool _) (TKeep.refl _) k)
theorem O2.isNoneT {xs : List PyData} {K : Sl → List Ob → Prop} (k : K (.dat (.bool false)) ob) : O2 c (compareOp .Is) (.dat (.tuple xs)) (.dat .none) st ob K := by
  refine ⟨fun as s va vb F ha hb => ?_⟩
  obtain ⟨a, o, vs, n, rfl, _⟩ := D.tuple_inv ha
  rw [D.none_inv hb]
  exact wpAny_is_plain rfl (Pv.of (sl := .dat (.bool false)) F (Reads.bool _) (TKeep.refl _) k)
theorem Ev.any {K : Sl → List Ob → Prop} {scope : Scope} (G : Gs c.g) (kn : Kn c scope) (hx : scope.names.lookup (Str.ofString "ANY") = some .globalImplicit) (k : K (.dat anyD) ob) : Ev c (.Name (Str.ofString "ANY") p) st ob K :=
  Ev.globD (v := .ref 16) G.toGd kn.gl (kn.glob hx) (by rw [G.hK]; rfl) (fun ζ kh => D.any G kh) k
theorem Ev.bot {K : Sl → List Ob → Prop} {scope : Scope} (G : Gs c.g) (kn : Kn c scope) (hx : scope.names.lookup (Str.ofString "BOTTOM") = some .globalImplicit) (k : K (.dat botD) ob) : Ev c (.Name (Str.ofString "BOTTOM") p) st ob K :=
  Ev.globD (v := .ref 17) G.toGd kn.gl (kn.glob hx) (by rw [G.hK]; rfl) (fun ζ kh => D.bot G kh) k
theorem O2.isNoneK {k : Kd} {K : Sl → List Ob → Prop} (h : K (.dat (.bool false)) ob) : O2 c (compareOp .Is) (.dat k.dat) (.dat .none) st ob K := by
  cases k <;> dsimp only [Kd.dat] <;> exact O2.isNoneT h
theorem Ok.le {A : Around} {m n : Nat} (h : Ok A n) (hm : m ≤ n) : Ok A m := ⟨h.hd, h.gd, by have := h.dp; lia, by have := h.un; lia⟩
theorem Call.le {g : Gx} {f : Value} {args : List Sl} {ob : List Ob} {mu : List Nat} {m n : Nat} {K : Rs → List Ob → Prop} (h : Call g f args ob mu m K) (hm : m ≤ n) : Call g f args ob mu n K :=
  fun A as s vs hA => h A as s vs (hA.le hm)
theorem Call.mono {g : Gx} {f : Value} {args : List Sl} {ob : List Ob} {mu : List Nat} {n : Nat} {K K' : Rs → List Ob → Prop} (h : Call g f args ob mu n K) (hk : ∀ r ob', K r ob' → K' r ob') : Call g f args ob mu n K' :=
  fun A as s vs hA h1 h2 h3 h4 h5 => wpAny_mono (h A as s vs hA h1 h2 h3 h4 h5) (fun ζ ζ ⟨r, ob', a, b, c, d, k⟩ => ⟨r, ob', a, b, c, d, hk r ob' k⟩) fun ζ ζ x => x
/-- a contract with data alone -/
theorem On.callD {K : Sl → List Ob → Prop} {f : Value} {sls : List Sl} {n : Nat} {Kc : Rs → List Ob → Prop} (C : Call c.g f sls [] [] n Kc) (hA : Ok c.A n) (hd : ∀ sl ∈ sls, ∃ x, sl = .dat x) (k : ∀ r, Kc r [] → K (slotOf ob r).1 (slotOf ob r).2) : On c (fun vs => call f vs) sls st ob K := by
  refine On.callC (args := sls) [] C hA ?_ rfl (by simp) (by simp) fun r ob' hl hk => ?_
  · refine List.map_congr_left fun sl hs => ?_
    obtain ⟨x, rfl⟩ := hd sl hs
    rfl
  · obtain rfl : ob' = [] := List.length_eq_zero_iff.mp hl
    exact k r hk
theorem On.callDZ {K : Sl → List Ob → Prop} {f : Value} {sls : List Sl} {n : Nat} {x : PyData} (C : Call c.g f sls [] [] n (RetD x [])) (hA : Ok c.A n) (hd : ∀ sl ∈ sls, ∃ x, sl = .dat x) (k : K (.dat x) ob) : On c (fun vs => call f vs) sls st ob K :=
  On.callD C hA hd fun r h => by
    obtain ⟨rfl, _⟩ := h
    exact k
theorem Ex.assignV {x : Str} {p' : Pos} {n : PyData} {K : Fl → List (Str × Sl) → List Ob → Prop} (h : Ev c e st ob fun v ob1 => v = .dat n ∧ ob1 = ob) (hk : Stores c x) (hw : swapsWith e (some (.Name x p')) p.line c.env = pure false) (k : K .nx ((x, .dat n) :: st) ob) : Ex c (.Assign [.Name x p'] e p) st ob K :=
  Ex.assign (h.mono fun v ob1 q => by obtain ⟨rfl, rfl⟩ := q; exact k) hk hw
theorem ite_t {a b : Prop} {q : Bool} (hq : q = true) (h : a) : if q = true then a else b := by rw [if_pos hq]; exact h
theorem ite_f {a b : Prop} {q : Bool} (hq : q = false) (h : b) : if q = true then a else b := by rw [if_neg (by rw [hq]; simp)]; exact h
theorem ifT {p : Prop} [Decidable p] {a b : Prop} (hp : p) (h : a) : if p then a else b := KBc.ite_yes hp h
theorem ifF {p : Prop} [Decidable p] {a b : Prop} (hp : ¬p) (h : b) : if p then a else b := PySem.W.ite_neg hp h
theorem ifS {q : Bool} {a b : Prop} (h1 : q = true → a) (h2 : ¬q = true → b) : if q = true then a else b := by
  by_cases h : q = true
  · rw [if_pos h]; exact h1 h
  · rw [if_neg h]; exact h2 h
/-- calls, what the heap holds of them looked up -/
theorem Ev.gF {x : Str} {np : Pos} {f : Addr} {es : List Expr} {scope : Scope} {K : Sl → List Ob → Prop} (G : Gs c.g) (kn : Kn c scope) (hx : scope.names.lookup x = some .globalImplicit) (e : ∀ P, nsIn (hpK P) mainGlobals x = some (some (.ref f))) (hk : ∀ P, keepIn (hpK P) (.ref f) = true) (he : es.all plainE = true) (h : Evs c es st ob (CallK c st K (fun vs => call (.ref f) vs))) (hd : (x == ("__debug__" : Str)) = false := by decide) : Ev c (.Call (.Name x np) es [] p) st ob K :=
  Ev.callF G.toGd kn hx (by rw [G.hK]; exact e _) (by rw [G.hK]; exact hk _) he h hd
theorem Ev.gB {x : Str} {np : Pos} {id : String} {es : List Expr} {scope : Scope} {K : Sl → List Ob → Prop} (G : Gs c.g) (kn : Kn c scope) (hx : scope.names.lookup x = some .globalImplicit) (e : ∀ P, nsIn (hpK P) mainGlobals x = some none) (hv : bootBuiltins x = some (.builtin id)) (hn : x ≠ "__name__") (he : es.all plainE = true) (h : Evs c es st ob (CallK c st K (fun vs => call (.builtin id) vs))) (hd : (x == ("__debug__" : Str)) = false := by decide) : Ev c (.Call (.Name x np) es [] p) st ob K :=
  Ev.callB G.toGd kn hx (by rw [G.hK]; exact e _) hv hn he h hd
theorem Ev.gT {x : Str} {np : Pos} {T : String} {es : List Expr} {scope : Scope} {K : Sl → List Ob → Prop} (G : Gs c.g) (kn : Kn c scope) (hx : scope.names.lookup x = some .globalImplicit) (e : ∀ P, nsIn (hpK P) mainGlobals x = some none) (hv : bootBuiltins x = some (.type T)) (hn : x ≠ "__name__") (he : es.all plainE = true) (h : Evs c es st ob (CallK c st K (fun vs => call (.type T) vs))) (hd : (x == ("__debug__" : Str)) = false := by decide) : Ev c (.Call (.Name x np) es [] p) st ob K :=
  Ev.callT G.toGd kn hx (by rw [G.hK]; exact e _) hv hn he h hd
theorem szs {a b : Nat} (h : Nat.ble a b = true) : a ≤ b := Nat.le_of_ble_eq_true h
theorem thenDo.nx {rest : List Stmt} {K : Fl → List (Str × Sl) → List Ob → Prop} (h : Exs c rest st ob K) : thenDo c rest K .nx st ob := h
theorem thenDo.rt {rest : List Stmt} {x : Sl} {K : Fl → List (Str × Sl) → List Ob → Prop} (h : K (.rt x) st ob) : thenDo c rest K (.rt x) st ob := h
end
end
/-! K1 -/
section
mutual
noncomputable def Kd.ht : Kd → Nat
  | .var _ => 1
  | .name _ ps => 1 + Kd.hts ps
  | .tup p => 1 + p.ht
  | .tupv p r => 1 + max p.ht r.ht
  | .uni ps => 1 + Kd.hts ps
  | .all _ lo up bd => 1 + max lo.ht (max up.ht bd.ht)
  | .typeof k => 1 + k.ht
  | .bottom => 1
noncomputable def Kd.hts : List Kd → Nat
  | [] => 0
  | k :: ks => max k.ht (Kd.hts ks)
end
/-- names that may stand in a kind -/
noncomputable def nmOk (x : Str) : Bool := PyData.strOk x && (decide (x.length ≤ 300) && plS x)
mutual
noncomputable def Kd.ok : Kd → Bool
  | .var x => nmOk x
  | .name x ps => nmOk x && Kd.oks ps
  | .tup p => p.ok
  | .tupv p r => p.ok && r.ok
  | .uni ps => Kd.oks ps
  | .all x lo up bd => nmOk x && lo.ok && up.ok && bd.ok
  | .typeof k => k.ok
  | .bottom => true
noncomputable def Kd.oks : List Kd → Bool
  | [] => true
  | k :: ks => k.ok && Kd.oks ks
end
theorem Kd.ht_pos (k : Kd) : 1 ≤ k.ht := by cases k <;> dsimp only [Kd.ht] <;> lia
theorem Kd.hts_mem : ∀ {ks : List Kd} {k : Kd}, k ∈ ks → k.ht ≤ Kd.hts ks
  | q :: ks, k, m => by
    rcases List.mem_cons.mp m with rfl | m
    · dsimp only [Kd.hts]; lia
    · have := Kd.hts_mem m; dsimp only [Kd.hts]; lia
theorem Kd.oks_mem : ∀ {ks : List Kd} {k : Kd}, k ∈ ks → Kd.oks ks = true → k.ok = true
  | q :: ks, k, m, h => by
    (dsimp only [Kd.oks] at h <;> try simp only [Bool.and_eq_true] at h)
    rcases List.mem_cons.mp m with rfl | m
    · exact h.1
    · exact Kd.oks_mem m h.2
theorem Kd.oks_of : ∀ {ks : List Kd}, (∀ k ∈ ks, k.ok = true) → Kd.oks ks = true
  | [], _ => rfl
  | k :: ks, h => by show (k.ok && Kd.oks ks) = true; rw [h k (by simp), Kd.oks_of fun q m => h q (List.mem_cons_of_mem _ m)]; rfl
theorem Kd.hts_le : ∀ {ks : List Kd} {n : Nat}, (∀ k ∈ ks, k.ht ≤ n) → Kd.hts ks ≤ n
  | [], _, _ => Nat.zero_le _
  | k :: ks, n, h => by dsimp only [Kd.hts]; exact Nat.max_le.mpr ⟨h k (by simp), Kd.hts_le fun q m => h q (List.mem_cons_of_mem _ m)⟩
theorem Kd.parts_ht {k p : Kd} (h : p ∈ k.parts) : p.ht < k.ht := by
  cases k <;> (dsimp only [Kd.parts] at h <;> try simp only [List.mem_cons, List.not_mem_nil, or_false] at h) <;> dsimp only [Kd.ht]
  · have := Kd.hts_mem h; lia
  · subst h; lia
  · rcases h with rfl | rfl <;> lia
  · have := Kd.hts_mem h; lia
  · rcases h with rfl | rfl | rfl <;> lia
  · subst h; lia
theorem Kd.parts_ok {k p : Kd} (h : p ∈ k.parts) (hk : k.ok = true) : p.ok = true := by
  cases k <;> (dsimp only [Kd.parts] at h <;> try simp only [List.mem_cons, List.not_mem_nil, or_false] at h) <;> (dsimp only [Kd.ok] at hk <;> try simp only [Bool.and_eq_true] at hk)
  · exact Kd.oks_mem h hk.2
  · subst h; exact hk
  · rcases h with rfl | rfl
    · exact hk.1
    · exact hk.2
  · exact Kd.oks_mem h hk
  · rcases h with rfl | rfl | rfl
    · exact hk.1.1.2
    · exact hk.1.2
    · exact hk.2
  · subst h; exact hk
theorem Kd.parts_sz {k p : Kd} (h : p ∈ k.parts) : p.sz < k.sz := Nat.lt_of_le_of_lt (Kd.szs_mem h) (Kd.szs_parts k)
/-- kinds that the text's functions can take -/
structure Kd.Fit (k : Kd) : Prop where
  ok : k.ok = true
  ht : k.ht ≤ 20
  sz : k.sz ≤ 100
theorem Kd.Fit.part {k p : Kd} (h : k.Fit) (m : p ∈ k.parts) : p.Fit := ⟨Kd.parts_ok m h.ok, Nat.le_trans (Nat.le_of_lt (Kd.parts_ht m)) h.ht, Nat.le_trans (Nat.le_of_lt (Kd.parts_sz m)) h.sz⟩
theorem an {a b : Bool} (h : a = true) (k : b = true) : (a && b) = true := look_both h k
mutual
theorem Kd.okD : ∀ k : Kd, k.ok = true → Mine.okD k.dat = true
  | .var x, h => an (by decide +kernel) (an (Bool.and_eq_true_iff.mp h).1 rfl)
  | .name x ps, h => by
    have h := Bool.and_eq_true_iff.mp h
    exact an (by decide +kernel) (an (Bool.and_eq_true_iff.mp h.1).1 (an (Kd.okDs ps h.2) rfl))
  | .tup p, h => an (by decide +kernel) (an (an (Kd.okD p h) rfl) (an rfl rfl))
  | .tupv p r, h => by
    have h := Bool.and_eq_true_iff.mp h
    exact an (by decide +kernel) (an (an (Kd.okD p h.1) rfl) (an (Kd.okD r h.2) rfl))
  | .uni ps, h => an (by decide +kernel) (an (Kd.okDs ps h) rfl)
  | .all x lo up bd, h => by
    have h := Bool.and_eq_true_iff.mp h
    have k := Bool.and_eq_true_iff.mp h.1
    have j := Bool.and_eq_true_iff.mp k.1
    exact an (by decide +kernel) (an (Bool.and_eq_true_iff.mp j.1).1 (an (Kd.okD lo j.2) (an (Kd.okD up k.2) (an (Kd.okD bd h.2) rfl))))
  | .typeof k, h => an (by decide +kernel) (an (Kd.okD k h) rfl)
  | .bottom, _ => by decide +kernel
theorem Kd.okDs : ∀ ks : List Kd, Kd.oks ks = true → Mine.okD.okDs (Kd.dats ks) = true
  | [], _ => rfl
  | k :: ks, h => by
    have h := Bool.and_eq_true_iff.mp h
    exact an (Kd.okD k h.1) (Kd.okDs ks h.2)
end
noncomputable def Kd.cl : Kd → Nat
  | .var _ => 0
  | .name _ _ => 1
  | .tup _ => 2
  | .tupv _ _ => 3
  | .uni _ => 4
  | .all _ _ _ _ => 5
  | .typeof _ => 6
  | .bottom => 7
theorem Kd.of0 {k : Kd} (h : k.cl = 0) : ∃ x, k = .var x := by
  cases k with
  | var x => exact ⟨x, rfl⟩
  | _ => exact absurd h (Nat.ne_of_beq_eq_false rfl)
theorem Kd.of1 {k : Kd} (h : k.cl = 1) : ∃ x ps, k = .name x ps := by
  cases k with
  | name x ps => exact ⟨x, ps, rfl⟩
  | _ => exact absurd h (Nat.ne_of_beq_eq_false rfl)
theorem Kd.of2 {k : Kd} (h : k.cl = 2) : ∃ p, k = .tup p := by
  cases k with
  | tup p => exact ⟨p, rfl⟩
  | _ => exact absurd h (Nat.ne_of_beq_eq_false rfl)
theorem Kd.of3 {k : Kd} (h : k.cl = 3) : ∃ p q, k = .tupv p q := by
  cases k with
  | tupv p q => exact ⟨p, q, rfl⟩
  | _ => exact absurd h (Nat.ne_of_beq_eq_false rfl)
theorem Kd.of4 {k : Kd} (h : k.cl = 4) : ∃ ps, k = .uni ps := by
  cases k with
  | uni ps => exact ⟨ps, rfl⟩
  | _ => exact absurd h (Nat.ne_of_beq_eq_false rfl)
theorem Kd.of5 {k : Kd} (h : k.cl = 5) : ∃ x a b d, k = .all x a b d := by
  cases k with
  | all x a b d => exact ⟨x, a, b, d, rfl⟩
  | _ => exact absurd h (Nat.ne_of_beq_eq_false rfl)
theorem Kd.of6 {k : Kd} (h : k.cl = 6) : ∃ p, k = .typeof p := by
  cases k with
  | typeof p => exact ⟨p, rfl⟩
  | _ => exact absurd h (Nat.ne_of_beq_eq_false rfl)
theorem Kd.of7 {k : Kd} (h : k.cl = 7) : k = .bottom := by
  cases k with
  | bottom => rfl
  | _ => exact absurd h (Nat.ne_of_beq_eq_false rfl)
theorem mxk {a b A B m c : Nat} (h1 : a ≤ m * A + c) (h2 : b ≤ m * B + c) : max a b ≤ m * max A B + c :=
  Nat.max_le.mpr ⟨Nat.le_trans h1 (Nat.add_le_add_right (Nat.mul_le_mul_left m (Nat.le_max_left A B)) c), Nat.le_trans h2 (Nat.add_le_add_right (Nat.mul_le_mul_left m (Nat.le_max_right A B)) c)⟩
theorem mxh {a b A B c : Nat} (h1 : a ≤ A + c) (h2 : b ≤ B + c) : max a b ≤ max A B + c :=
  Nat.max_le.mpr ⟨Nat.le_trans h1 (Nat.add_le_add_right (Nat.le_max_left A B) c), Nat.le_trans h2 (Nat.add_le_add_right (Nat.le_max_right A B) c)⟩
theorem mxm {a b A B : Nat} (h1 : a ≤ A) (h2 : b ≤ B) : max a b ≤ max A B := mxh (c := 0) h1 h2
theorem mxs {X M k : Nat} (h : X ≤ 2 * M + k) : X + 1 ≤ 2 * (1 + M) + k := by lia
theorem mxs2 {X M k : Nat} (h : X ≤ 2 * M + k) : X + 1 + 1 ≤ 2 * (1 + M) + k := by lia
theorem mx1 {X M k : Nat} (h : X ≤ M + k) : 1 + X ≤ 1 + M + k := by lia
theorem mxt {p r P R k : Nat} (h1 : p ≤ 2 * P + k) (h2 : r ≤ 2 * R + k) : max (p + 1) r + 1 ≤ 2 * (1 + max P R) + k := by
  have := mxk (c := k + 1) (Nat.succ_le_succ h1) (Nat.le_succ_of_le h2)
  generalize max (p + 1) r = X at this ⊢
  generalize max P R = M at this ⊢
  lia
theorem mx2l (A B : Nat) : A ≤ max A B ∧ B ≤ max A B := ⟨Nat.le_max_left _ _, Nat.le_max_right _ _⟩
theorem mx3l (A B C : Nat) : A ≤ max A (max B C) ∧ B ≤ max A (max B C) ∧ C ≤ max A (max B C) :=
  ⟨Nat.le_max_left _ _, Nat.le_trans (Nat.le_max_left _ _) (Nat.le_max_right _ _), Nat.le_trans (Nat.le_max_right _ _) (Nat.le_max_right _ _)⟩
mutual
theorem Kd.depth_le : ∀ k : Kd, k.dat.depth ≤ 2 * k.ht
  | .var x => by ((try dsimp only [Kd.dat, Kd.ht]) <;> simp [PyData.depth, PyData.depthAll])
  | .name x ps => by have := Kd.depths_le ps; dsimp only [Kd.dat, Kd.ht, PyData.depth, PyData.depthAll]; lia
  | .tup p => by have := Kd.depth_le p; dsimp only [Kd.dat, Kd.ht, PyData.depth, PyData.depthAll]; lia
  | .tupv p r => by ((try dsimp only [Kd.dat, Kd.ht]) <;> simp only [PyData.depth, PyData.depthAll, Nat.zero_max, Nat.max_zero]); exact mxt (k := 0) (Kd.depth_le p) (Kd.depth_le r)
  | .uni ps => by have := Kd.depths_le ps; dsimp only [Kd.dat, Kd.ht, PyData.depth, PyData.depthAll]; lia
  | .all x lo up bd => by ((try dsimp only [Kd.dat, Kd.ht]) <;> simp only [PyData.depth, PyData.depthAll, Nat.zero_max, Nat.max_zero]); exact mxs (k := 0) (mxk (c := 0) (Kd.depth_le lo) (mxk (c := 0) (Kd.depth_le up) (Kd.depth_le bd)))
  | .typeof k => by have := Kd.depth_le k; dsimp only [Kd.dat, Kd.ht, PyData.depth, PyData.depthAll]; lia
  | .bottom => by ((try dsimp only [Kd.dat, Kd.ht]) <;> simp [PyData.depth, PyData.depthAll])
theorem Kd.depths_le : ∀ ks : List Kd, PyData.depthAll (Kd.dats ks) ≤ 2 * Kd.hts ks
  | [] => by ((try dsimp only [Kd.dats]) <;> simp [PyData.depthAll])
  | k :: ks => mxk (c := 0) (Kd.depth_le k) (Kd.depths_le ks)
end
theorem Kd.Fit.depth {k : Kd} (h : k.Fit) : k.dat.depth ≤ 60 := by have := Kd.depth_le k; have := h.ht; lia
noncomputable def clD : PyData → Nat
  | .tuple (.str w :: r) => if w = Str.ofString "var" then 0 else if w = Str.ofString "name" then 1 else if w = Str.ofString "tuple" then (match r with
      | [_, .none] => 2
      | _ => 3) else if w = Str.ofString "union" then 4 else if w = Str.ofString "all" then 5 else if w = Str.ofString "typeof" then 6 else 7
  | _ => 7
theorem clD_dat (k : Kd) : clD k.dat = k.cl := by
  cases k with
  | tupv p q => cases q <;> rfl
  | _ => rfl
theorem dat_cl {a b : Kd} (h : a.dat = b.dat) : b.cl = a.cl := (clD_dat b).symm.trans ((congrArg clD h.symm).trans (clD_dat a))
mutual
theorem Kd.dat_inj : ∀ a b : Kd, a.dat = b.dat → a = b
  | .var x, b, h => by
    obtain ⟨y, rfl⟩ := Kd.of0 (dat_cl h)
    ((try dsimp only [Kd.dat] at h) <;> simp only [PyData.tuple.injEq, List.cons.injEq, PyData.str.injEq] at h)
    rw [h.2.1]
  | .name x ps, b, h => by
    obtain ⟨y, qs, rfl⟩ := Kd.of1 (dat_cl h)
    ((try dsimp only [Kd.dat] at h) <;> simp only [PyData.tuple.injEq, List.cons.injEq, PyData.str.injEq] at h)
    rw [h.2.1, Kd.dats_inj ps _ h.2.2.1]
  | .tup p, b, h => by
    obtain ⟨q, rfl⟩ := Kd.of2 (dat_cl h)
    ((try dsimp only [Kd.dat] at h) <;> simp only [PyData.tuple.injEq, List.cons.injEq] at h)
    rw [Kd.dat_inj p _ h.2.1.1]
  | .tupv p r, b, h => by
    obtain ⟨q, t, rfl⟩ := Kd.of3 (dat_cl h)
    ((try dsimp only [Kd.dat] at h) <;> simp only [PyData.tuple.injEq, List.cons.injEq] at h)
    rw [Kd.dat_inj p _ h.2.1.1, Kd.dat_inj r _ h.2.2.1]
  | .uni ps, b, h => by
    obtain ⟨qs, rfl⟩ := Kd.of4 (dat_cl h)
    ((try dsimp only [Kd.dat] at h) <;> simp only [PyData.tuple.injEq, List.cons.injEq] at h)
    rw [Kd.dats_inj ps _ h.2.1]
  | .all x lo up bd, b, h => by
    obtain ⟨y, a1, a2, a3, rfl⟩ := Kd.of5 (dat_cl h)
    ((try dsimp only [Kd.dat] at h) <;> simp only [PyData.tuple.injEq, List.cons.injEq, PyData.str.injEq] at h)
    rw [h.2.1, Kd.dat_inj lo _ h.2.2.1, Kd.dat_inj up _ h.2.2.2.1, Kd.dat_inj bd _ h.2.2.2.2.1]
  | .typeof k, b, h => by
    obtain ⟨q, rfl⟩ := Kd.of6 (dat_cl h)
    ((try dsimp only [Kd.dat] at h) <;> simp only [PyData.tuple.injEq, List.cons.injEq] at h)
    rw [Kd.dat_inj k _ h.2.1]
  | .bottom, b, h => (Kd.of7 (dat_cl h)).symm
theorem Kd.dats_inj : ∀ as bs : List Kd, Kd.dats as = Kd.dats bs → as = bs
  | [], [], _ => rfl
  | [], b :: bs, h => by ((try dsimp only [Kd.dats] at h) <;> simp at h)
  | a :: as, [], h => by ((try dsimp only [Kd.dats] at h) <;> simp at h)
  | a :: as, b :: bs, h => by
    ((try dsimp only [Kd.dats] at h) <;> simp only [List.cons.injEq] at h)
    rw [Kd.dat_inj a b h.1, Kd.dats_inj as bs h.2]
end
end
/-! R13 -/
section
section
variable {c : Cx} {as : List Addr} {st : List (Str × Sl)} {ob : List Ob} {s s' : Shared} {p : Pos} {e l r : Expr} {K : Sl → List Ob → Prop}
/-- `x, y = e`, where e gives a list of two -/
theorem Ex.unpackL {scope : Scope} {x y : Str} {px py tp : Pos} {k : Nat} {K : Fl → List (Str × Sl) → List Ob → Prop} (kn : Kn c scope) (hh : c.A.handled = none) (hx : Stores c x) (hy : Stores c y)
    (hs : swapsWithSole [.Tuple [.Name x px, .Name y py] k tp] e p.line c.env = pure false) (hw : swappedStores [.Tuple [.Name x px, .Name y py] k tp] e (envS scope) = pure none)
    (h : Ev c e st ob fun v ob1 => ∃ i a b, v = .obj i ∧ ob1[i]? = some (.list [a, b]) ∧ K .nx ((y, .dat b) :: (x, .dat a) :: st) ob1) : Ex c (.Assign [.Tuple [.Name x px, .Name y py] k tp] e p) st ob K := by
  refine ⟨fun as s F => Assign_Tuple (wpAny_mono (h.run as s F) ?_ fun ζ ζ x => x) hs ((kn.swap _ _).trans hw)⟩
  rintro v s1 ⟨sl, ob1, n1, F1, h1, t1, i, a, b, rfl, hi, k1⟩
  obtain ⟨q, hq, rfl, vs, n, e', d⟩ := F1.objAt hi h1
  obtain ⟨u, w, rfl⟩ := arrTwo (vs := vs) (by simpa using d.length)
  obtain ⟨du, d2⟩ := Ds.cons_iff.mp d
  obtain ⟨dw, _⟩ := Ds.cons_iff.mp d2
  have hL : s1.heap.IsList q #[u, w] := ⟨_, e', rfl, n, rfl⟩
  rw [assign_Tuple]
  refine wpAny_bind (wpAny_standAt ?_)
  unfold unpack
  have hn : (assignEach [.Name x px, .Name y py] c.env).length = (#[u, w] : Array Value).size := rfl
  have hst : (assignEach [.Name x px, .Name y py] c.env).findIdx? (·.1) = none := rfl
  rw [hn, hst]
  refine wpAny_bind (wpAny_holding (kun_itemsOf hh hL fun h' he => ?_))
  have kp : Keep s1.heap h' := fun b o e => he b o (Nat.ne_of_lt (Heap.lt_size e)) e
  have F2 := F1.grow (s' := { s1 with heap := h' }) ⟨h', s1.toks, rfl⟩ kp
  refine assignInOrder_cons (wpAny_assign_Name (store F2 (sl := .dat a) (D.mono du (TKeep.of_keep kp)) hx fun s2 F3 t3 => ?_))
  refine assignInOrder_cons (wpAny_assign_Name (store F3 (sl := .dat b) ((D.mono dw (TKeep.of_keep kp)).mono t3) hy fun s3 F4 t4 => ?_))
  exact assignInOrder_nil ⟨.nx, _, ob1, n1, F4, rfl, t1.trans ((TKeep.of_keep kp).trans (t3.trans t4)), k1⟩
noncomputable abbrev MapA (x : PyData) (o : List Ob) (v : Sl) (ob3 : List Ob) : Prop := ∃ g, v = .dat x ∧ ob3 = o ++ g
/-- a comprehension that maps -/
theorem Turns.mapA {α : Type} {P : Cx → Prop} {elt : Expr} {bd : PyData → List (Str × Sl)} {fst : List (Str × Sl)} {n : Nat} {K : List PyData → List Ob → Prop} {obM : List Ob} (d f : α → PyData) (hn : obM.length = n) (hP : ∀ c', P c' → c'.n₀ ≤ n) :
    ∀ (l : List α) (ys : List PyData), ys.length + l.length ≤ 1000 →
      (∀ a ∈ l, ∀ c' ys, P c' → Ev c' elt (bd (d a) ++ fst) (obM ++ [.list ys]) (MapA (f a) (obM ++ [.list ys]))) → K (ys ++ l.map f) obM → Turns P (emit1 elt) [] bd fst n K (l.map d) ys obM
  | [], ys, _, _, k => (show K ys obM by simpa using k)
  | a :: l, ys, hl, h, k => fun c' hc => Tst.none (by
    show Emit _ _ _ _ _ _
    refine Emit.one (hP c' hc) ((h a (by simp) c' ys hc).mono fun v ob3 hv => ?_)
    obtain ⟨g, rfl, rfl⟩ := hv
    refine ⟨f a, ys, obM, g, rfl, rfl, hn, by simp at hl; lia, obM, g, by simp, hn, ?_⟩
    exact Turns.mapA d f hn hP l (ys ++ [f a]) (by simp at hl ⊢; lia) (fun b hb => h b (List.mem_cons_of_mem _ hb)) (by simpa using k))
noncomputable def Kd.word : Kd → Str
  | .var _ => Str.ofString "var"
  | .name _ _ => Str.ofString "name"
  | .tup _ => Str.ofString "tuple"
  | .tupv _ _ => Str.ofString "tuple"
  | .uni _ => Str.ofString "union"
  | .all _ _ _ _ => Str.ofString "all"
  | .typeof _ => Str.ofString "typeof"
  | .bottom => Str.ofString "bottom"
theorem O2.subK0 {k : Kd} {value slice : Expr} (kk : K (.dat (.str k.word)) ob) : O2 c (subscriptTail value slice) (.dat k.dat) (.dat (.int 0)) st ob K := by
  cases k <;> dsimp only [Kd.dat] <;> exact O2.subTup (by decide) (by decide) rfl rfl kk
theorem O2.nisNone (kk : K (.dat (.bool false)) ob) : O2 c (compareOp .IsNot) (.dat .none) (.dat .none) st ob K := by
  refine ⟨fun as s va vb F ha hb => ?_⟩
  rw [D.none_inv ha, D.none_inv hb]
  exact wpAny_isNot_plain rfl (Pv.of (sl := .dat (.bool false)) F (Reads.bool _) (TKeep.refl _) kk)
theorem O2.nisK {k : Kd} (kk : K (.dat (.bool true)) ob) : O2 c (compareOp .IsNot) (.dat k.dat) (.dat .none) st ob K := by
  have : ∃ xs, k.dat = .tuple xs := by cases k <;> exact ⟨_, rfl⟩
  obtain ⟨xs, hxs⟩ := this
  rw [hxs]
  refine ⟨fun as s va vb F ha hb => ?_⟩
  obtain ⟨a, o, vs, n, rfl, _⟩ := D.tuple_inv ha
  rw [D.none_inv hb]
  exact wpAny_isNot_plain rfl (Pv.of (sl := .dat (.bool true)) F (Reads.bool _) (TKeep.refl _) kk)
noncomputable def strIn (x : Str) : List PyData → Bool
  | [] => false
  | .str y :: r => decide (x = y) || strIn x r
  | _ :: r => strIn x r
noncomputable def allS : List PyData → Bool
  | [] => true
  | .str y :: r => PyData.strOk y && allS r
  | _ :: _ => false
theorem strIn_iff (x : Str) : ∀ xs : List PyData, allS xs = true → (strIn x xs = true ↔ PyData.str x ∈ xs)
  | [], _ => ⟨fun h => (Bool.false_ne_true h).elim, fun h => (List.not_mem_nil h).elim⟩
  | .str y :: r, h => by
    have h := Bool.and_eq_true_iff.mp h
    rw [List.mem_cons, ← strIn_iff x r h.2, PyData.str.injEq, ← decide_eq_true_iff (p := x = y)]; exact Bool.or_eq_true_iff
  | .int _ :: r, h => (Bool.false_ne_true h).elim
  | .none :: r, h => (Bool.false_ne_true h).elim
  | .bool _ :: r, h => (Bool.false_ne_true h).elim
  | .tuple _ :: r, h => (Bool.false_ne_true h).elim
  | .list _ :: r, h => (Bool.false_ne_true h).elim
  | .dict _ :: r, h => (Bool.false_ne_true h).elim
theorem allS_ok : ∀ xs : List PyData, allS xs = true → okD.okDs xs = true
  | [], _ => rfl
  | .str y :: r, h => by
    have h := Bool.and_eq_true_iff.mp h
    exact Bool.and_eq_true_iff.mpr ⟨h.1, allS_ok r h.2⟩
  | .int _ :: r, h => (Bool.false_ne_true h).elim
  | .none :: r, h => (Bool.false_ne_true h).elim
  | .bool _ :: r, h => (Bool.false_ne_true h).elim
  | .tuple _ :: r, h => (Bool.false_ne_true h).elim
  | .list _ :: r, h => (Bool.false_ne_true h).elim
  | .dict _ :: r, h => (Bool.false_ne_true h).elim
theorem O2.inTS {x : Str} {xs : List PyData} (hu : Ok c.A 0) (hx : PyData.strOk x = true) (hxs : allS xs = true) (kk : K (.dat (.bool (strIn x xs))) ob) : O2 c (compareOp .In) (.dat (.str x)) (.dat (.tuple xs)) st ob K := by
  have key : ∀ b : Bool, (b = true ↔ PyData.str x ∈ xs) → K (.dat (.bool b)) ob := fun b hb => by
    have : b = strIn x xs := by rw [Bool.eq_iff_iff]; exact hb.trans (strIn_iff x xs hxs).symm
    rw [this]; exact kk
  exact O2.inT hu (allS_ok _ hxs) (by (dsimp only [okD] at hx ⊢ <;> simpa using hx)) (by simp [PyData.depth]) (key _ (by simp))
end
end
/-! K2 -/
section
/-! ## the texts of kinds -/
noncomputable abbrev so (s : String) : Str := Str.ofString s
noncomputable def bnd (t : Str) : Kd → Str
  | .all .. => (so "(" ++ t) ++ so ")"
  | _ => t
open Classical in
noncomputable def bdTxt (w : Bool) (x : Str) (lo up : Kd) (tl tu : Str) : Str :=
  let n := if w = true then x else headOf x
  if lo.dat = botD then (if up.dat = anyD then n else (n ++ so "<:") ++ tu)
  else (if up.dat = anyD then (n ++ so ">:") ++ tl else (((tl ++ so "<:") ++ n) ++ so "<:") ++ tu)
mutual
noncomputable def wr (w : Bool) : Kd → Str
  | .var x => if w = true then x else headOf x
  | .name x ps => x ++ (if ps = [] then so "" else (so "{" ++ Txt.join (so ", ") (wrs w ps)) ++ so "}")
  | .tup p => (so "Tuple{" ++ Txt.join (so ", ") [wr w p]) ++ so "}"
  | .tupv p r => (so "Tuple{" ++ Txt.join (so ", ") [wr w p, (so "Vararg{" ++ wr w r) ++ so "}"]) ++ so "}"
  | .uni ps => (so "Union{" ++ Txt.join (so ", ") (wrs w ps)) ++ so "}"
  | .all x lo up bd => (wr w bd ++ so " where ") ++ bdTxt w x lo up (bnd (wr w lo) lo) (bnd (wr w up) up)
  | .typeof k => (so "Type{" ++ wr w k) ++ so "}"
  | .bottom => so "Union{}"
noncomputable def wrs (w : Bool) : List Kd → List Str
  | [] => []
  | k :: ks => wr w k :: wrs w ks
end
theorem wrs_eq (w : Bool) : ∀ ks : List Kd, wrs w ks = ks.map (wr w)
  | [] => rfl
  | k :: ks => congrArg (wr w k :: ·) (wrs_eq w ks)
theorem headOf_len (x : Str) : (headOf x).length ≤ x.length := by
  rcases split_head x dotS (by decide +kernel) (headOf x) (headOf_get x) with ⟨h, _⟩ | ⟨i, h, _⟩
  · rw [h]; exact Nat.le_refl _
  · rw [h]
    show (x.cps.extract 0 i).size ≤ x.cps.size
    simp
    lia
theorem nmOk_len {x : Str} (h : nmOk x = true) : x.length ≤ 300 := by
  ((try dsimp only [nmOk] at h) <;> simp only [Bool.and_eq_true, decide_eq_true_eq] at h)
  exact h.2.1
theorem nmOk_pl {x : Str} (h : nmOk x = true) : plS x = true := by
  ((try dsimp only [nmOk] at h) <;> simp only [Bool.and_eq_true] at h)
  exact h.2.2
theorem so_len : (so "(").length = 1 ∧ (so ")").length = 1 ∧ (so "<:").length = 2 ∧ (so ">:").length = 2 ∧ (so "{").length = 1 ∧ (so "}").length = 1 ∧ (so "Tuple{").length = 6 ∧ (so "Vararg{").length = 7 ∧ (so "Union{").length = 6 ∧ (so " where ").length = 7 ∧ (so "Type{").length = 5 ∧ (so "Union{}").length = 7 ∧ (so ", ").length = 2 ∧ (so "").length = 0 := by decide +kernel
theorem bnd_len (t : Str) (k : Kd) : (bnd t k).length ≤ t.length + 2 := by
  have := so_len
  cases k <;> (dsimp only [bnd] <;> try simp only [strLen_append]) <;> lia
theorem bdTxt_len {w : Bool} {x : Str} {lo up : Kd} {tl tu : Str} (hx : x.length ≤ 300) : (bdTxt w x lo up tl tu).length ≤ 310 + tl.length + tu.length := by
  have := so_len
  have hn : (if w = true then x else headOf x).length ≤ 300 := by
    split
    · exact hx
    · exact Nat.le_trans (headOf_len x) hx
  unfold bdTxt
  dsimp only
  generalize (if w = true then x else headOf x) = n at hn ⊢
  repeat' split
  all_goals (first | lia | (simp only [strLen_append]; lia))
theorem join_len (ys : List Str) : (Txt.join (so ", ") ys).length ≤ (ys.map (·.length)).sum + ys.length * 2 := by
  have hs : (so ", ").length = 2 := by decide +kernel
  cases ys with
  | nil => exact Nat.zero_le _
  | cons y ys =>
    show (((y :: ys).drop 1).foldl (fun acc p => acc ++ (so ", ").cps ++ p.cps) y.cps).size ≤ _
    rw [size_gluedFold, hs]
    simp only [List.drop_succ_cons, List.drop_zero, List.map_cons, List.sum_cons, List.length_cons]
    show y.length + _ + _ ≤ _
    lia
mutual
theorem wr_len (w : Bool) : ∀ k : Kd, k.ok = true → (wr w k).length + 10 ≤ 700 * k.sz
  | .var x, h => by
    have := nmOk_len (x := x) (by (dsimp only [Kd.ok] at h ⊢ <;> simpa using h))
    have := headOf_len x
    dsimp only [wr, Kd.sz]; split <;> lia
  | .name x ps, h => by
    ((try dsimp only [Kd.ok] at h) <;> simp only [Bool.and_eq_true] at h)
    have := nmOk_len h.1
    have := wrs_len w ps h.2
    have := join_len (wrs w ps)
    have := so_len
    have hl : (wrs w ps).length = ps.length := by rw [wrs_eq]; simp
    have := Kd.szs_length ps
    ((try dsimp only [wr, Kd.sz]) <;> simp only [strLen_append])
    split
    · lia
    · simp only [strLen_append]; lia
  | .tup p, h => by
    have := wr_len w p h
    have := join_len [wr w p]
    have := so_len
    simp only [List.map_cons, List.map_nil, List.sum_cons, List.sum_nil, List.length_cons, List.length_nil] at *
    ((try dsimp only [wr, Kd.sz]) <;> simp only [strLen_append]); lia
  | .tupv p r, h => by
    ((try dsimp only [Kd.ok] at h) <;> simp only [Bool.and_eq_true] at h)
    have := wr_len w p h.1
    have := wr_len w r h.2
    have := join_len [wr w p, (so "Vararg{" ++ wr w r) ++ so "}"]
    have := so_len
    simp only [List.map_cons, List.map_nil, List.sum_cons, List.sum_nil, List.length_cons, List.length_nil, strLen_append] at *
    ((try dsimp only [wr, Kd.sz]) <;> simp only [strLen_append]); lia
  | .uni ps, h => by
    have := wrs_len w ps h
    have := join_len (wrs w ps)
    have := so_len
    have hl : (wrs w ps).length = ps.length := by rw [wrs_eq]; simp
    have := Kd.szs_length ps
    ((try dsimp only [wr, Kd.sz]) <;> simp only [strLen_append]); lia
  | .all x lo up bd, h => by
    ((try dsimp only [Kd.ok] at h) <;> simp only [Bool.and_eq_true] at h)
    have hx := nmOk_len h.1.1.1
    have := wr_len w lo h.1.1.2
    have := wr_len w up h.1.2
    have := wr_len w bd h.2
    have := bnd_len (wr w lo) lo
    have := bnd_len (wr w up) up
    have := bdTxt_len (w := w) (lo := lo) (up := up) (tl := bnd (wr w lo) lo) (tu := bnd (wr w up) up) hx
    have := so_len
    ((try dsimp only [wr, Kd.sz]) <;> simp only [strLen_append]); lia
  | .typeof k, h => by
    have := wr_len w k h
    have := so_len
    ((try dsimp only [wr, Kd.sz]) <;> simp only [strLen_append]); lia
  | .bottom, _ => by
    have := so_len
    dsimp only [wr, Kd.sz]; lia
theorem wrs_len (w : Bool) : ∀ ks : List Kd, Kd.oks ks = true → ((wrs w ks).map (·.length)).sum + 10 * ks.length ≤ 700 * Kd.szs ks
  | [], _ => by ((try dsimp only [wrs]) <;> simp)
  | k :: ks, h => by
    ((try dsimp only [Kd.oks] at h) <;> simp only [Bool.and_eq_true] at h)
    have := wr_len w k h.1
    have := wrs_len w ks h.2
    ((try dsimp only [wrs, Kd.szs]) <;> simp only [List.map_cons, List.sum_cons, List.length_cons]); lia
end
/-! ### the texts hold characters -/
theorem sok_iff {x : Str} : PyData.strOk x = true ↔ ∀ c ∈ x.cps, c < 0x110000 := by
  unfold PyData.strOk
  rw [Array.all_eq_true']
  simp
theorem sok_app {a b : Str} (ha : PyData.strOk a = true) (hb : PyData.strOk b = true) : PyData.strOk (a ++ b) = true := by
  rw [sok_iff] at *
  intro c hc
  have hc : c ∈ a.cps ++ b.cps := hc
  rcases Array.mem_append.mp hc with h | h
  · exact ha c h
  · exact hb c h
theorem glue_ok {g : Str} (hg : PyData.strOk g = true) : ∀ (l : List Str) (acc : Array Nat), (∀ x ∈ l, PyData.strOk x = true) → (∀ c ∈ acc, c < 0x110000) → ∀ c ∈ l.foldl (fun acc p => acc ++ g.cps ++ p.cps) acc, c < 0x110000
  | [], acc, _, ha => ha
  | x :: l, acc, h, ha => by
    rw [List.foldl_cons]
    refine glue_ok hg l _ (fun y hy => h y (by simp [hy])) fun c hc => ?_
    rcases Array.mem_append.mp hc with hc | hc
    · rcases Array.mem_append.mp hc with hc | hc
      · exact ha c hc
      · exact sok_iff.mp hg c hc
    · exact sok_iff.mp (h x (by simp)) c hc
theorem sok_join {ys : List Str} (h : ∀ y ∈ ys, PyData.strOk y = true) : PyData.strOk (Txt.join (so ", ") ys) = true := by
  rw [sok_iff]
  cases ys with
  | nil => intro c hc; exact absurd hc (by show c ∉ (#[] : Array Nat); simp)
  | cons y ys => exact glue_ok (by decide +kernel) ys y.cps (fun x hx => h x (by simp [hx])) (sok_iff.mp (h y (by simp)))
theorem headOf_ok {x : Str} (h : PyData.strOk x = true) : PyData.strOk (headOf x) = true := by
  rcases split_head x dotS (by decide +kernel) (headOf x) (headOf_get x) with ⟨e, _⟩ | ⟨i, e, _⟩
  · rw [e]; exact h
  · rw [e, sok_iff]
    intro c hc
    have hc : c ∈ x.cps.extract 0 i := hc
    obtain ⟨j, hj, rfl⟩ := Array.mem_iff_getElem.mp hc
    rw [Array.getElem_extract]
    exact sok_iff.mp h _ (Array.getElem_mem _)
theorem lits_ok : PyData.strOk (so "(") = true ∧ PyData.strOk (so ")") = true ∧ PyData.strOk (so "<:") = true ∧ PyData.strOk (so ">:") = true ∧ PyData.strOk (so "{") = true ∧ PyData.strOk (so "}") = true ∧ PyData.strOk (so "Tuple{") = true ∧ PyData.strOk (so "Vararg{") = true ∧ PyData.strOk (so "Union{") = true ∧ PyData.strOk (so " where ") = true ∧ PyData.strOk (so "Type{") = true ∧ PyData.strOk (so "Union{}") = true ∧ PyData.strOk (so "") = true := by decide +kernel
theorem nmOk_ok {x : Str} (h : nmOk x = true) : PyData.strOk x = true := by
  ((try dsimp only [nmOk] at h) <;> simp only [Bool.and_eq_true] at h)
  exact h.1
mutual
theorem wr_ok (w : Bool) : ∀ k : Kd, k.ok = true → PyData.strOk (wr w k) = true
  | .var x, h => by
    have hx := nmOk_ok (x := x) (by (dsimp only [Kd.ok] at h ⊢ <;> simpa using h))
    dsimp only [wr]
    split
    · exact hx
    · exact headOf_ok hx
  | .name x ps, h => by
    ((try dsimp only [Kd.ok] at h) <;> simp only [Bool.and_eq_true] at h)
    obtain ⟨_, _, _, _, l5, l6, _, _, _, _, _, _, l13⟩ := lits_ok
    dsimp only [wr]
    refine sok_app (nmOk_ok h.1) ?_
    split
    · exact l13
    · exact sok_app (sok_app l5 (sok_join (wrs_ok w ps h.2))) l6
  | .tup p, h => by
    obtain ⟨_, _, _, _, l5, l6, l7, _⟩ := lits_ok
    dsimp only [wr]
    exact sok_app (sok_app l7 (sok_join fun y hy => by simp at hy; subst hy; exact wr_ok w p h)) l6
  | .tupv p r, h => by
    ((try dsimp only [Kd.ok] at h) <;> simp only [Bool.and_eq_true] at h)
    obtain ⟨_, _, _, _, l5, l6, l7, l8, _⟩ := lits_ok
    dsimp only [wr]
    refine sok_app (sok_app l7 (sok_join fun y hy => ?_)) l6
    simp at hy
    rcases hy with rfl | rfl
    · exact wr_ok w p h.1
    · exact sok_app (sok_app l8 (wr_ok w r h.2)) l6
  | .uni ps, h => by
    obtain ⟨_, _, _, _, l5, l6, l7, l8, l9, _⟩ := lits_ok
    dsimp only [wr]
    exact sok_app (sok_app l9 (sok_join (wrs_ok w ps h))) l6
  | .all x lo up bd, h => by
    ((try dsimp only [Kd.ok] at h) <;> simp only [Bool.and_eq_true] at h)
    obtain ⟨l1, l2, l3, l4, l5, l6, l7, l8, l9, l10, _⟩ := lits_ok
    have hb : ∀ (t : Str) (k : Kd), PyData.strOk t = true → PyData.strOk (bnd t k) = true := fun t k ht => by
      cases k <;> first | exact ht | exact sok_app (sok_app l1 ht) l2
    have hn : PyData.strOk (if w = true then x else headOf x) = true := by
      split
      · exact nmOk_ok h.1.1.1
      · exact headOf_ok (nmOk_ok h.1.1.1)
    have h1 := hb _ lo (wr_ok w lo h.1.1.2)
    have h2 := hb _ up (wr_ok w up h.1.2)
    dsimp only [wr, bdTxt]
    generalize (if w = true then x else headOf x) = n at hn
    refine sok_app (sok_app (wr_ok w bd h.2) l10) ?_
    repeat' split
    · exact hn
    · exact sok_app (sok_app hn l3) h2
    · exact sok_app (sok_app hn l4) h1
    · exact sok_app (sok_app (sok_app (sok_app h1 l3) hn) l3) h2
  | .typeof k, h => by
    obtain ⟨l1, l2, l3, l4, l5, l6, l7, l8, l9, l10, l11, _⟩ := lits_ok
    dsimp only [wr]
    exact sok_app (sok_app l11 (wr_ok w k h)) l6
  | .bottom, _ => by dsimp only [wr]; decide +kernel
theorem wrs_ok (w : Bool) : ∀ ks : List Kd, Kd.oks ks = true → ∀ y ∈ wrs w ks, PyData.strOk y = true
  | [], _ => by ((try dsimp only [wrs]) <;> simp)
  | k :: ks, h => by
    ((try dsimp only [Kd.oks] at h) <;> simp only [Bool.and_eq_true] at h)
    intro y hy
    ((try dsimp only [wrs] at hy) <;> simp only [List.mem_cons] at hy)
    rcases hy with rfl | hy
    · exact wr_ok w k h.1
    · exact wrs_ok w ks h.2 y hy
end
end
/-! K3 -/
section
/-! ## how long the repr of data is -/
mutual
noncomputable def wt : PyData → Nat
  | .str x => 10 * x.length + 4
  | .int i => (Str.ofString (toString i)).length
  | .none => 4
  | .bool _ => 5
  | .tuple xs => 3 + wts xs
  | _ => 0
noncomputable def wts : List PyData → Nat
  | [] => 0
  | x :: xs => 2 + wt x + wts xs
end
theorem joinS_len : ∀ ts : List Str, (Str.join ", " ts).length ≤ (ts.map fun t => 2 + t.length).sum
  | [] => Nat.zero_le _
  | [x] => by show x.length ≤ _; simp
  | x :: y :: r => by
    have ih := joinS_len (y :: r)
    show ((x ++ (", " : Str)) ++ Str.join ", " (y :: r)).length ≤ _
    rw [strLen_append, strLen_append]
    have e2 : ((", " : String) : Str).length = 2 := rfl
    simp only [List.map_cons, List.sum_cons] at ih ⊢
    rw [e2]
    lia
theorem reprS_len {x : Str} (h : PyData.strOk x = true) : (reprText x).length ≤ 10 * x.length + 2 :=
  StrLaws.reprText_len x fun c hc => Nat.lt_trans (sok_iff.mp h c (by simpa using hc)) (by decide)
mutual
theorem shown_len : ∀ x : PyData, okB x = true → (PyData.shown x).length ≤ wt x
  | .str x, h => by
    have := reprS_len (x := x) (by (dsimp only [okB] at h ⊢ <;> simpa using h))
    ((try dsimp only [wt]) <;> simp only [PyData.shown]); lia
  | .int i, _ => by ((try dsimp only [wt]) <;> simp only [PyData.shown]); exact Nat.le_refl _
  | .none, _ => by ((try dsimp only [wt]) <;> simp only [PyData.shown]); decide
  | .bool b, _ => by cases b <;> ((try dsimp only [wt]) <;> simp only [PyData.shown]) <;> decide
  | .tuple xs, h => by
    have ih := showns_len xs (by (dsimp only [okB] at h ⊢ <;> simpa using h))
    have hj := joinS_len (PyData.shownAll xs)
    ((try dsimp only [wt]) <;> simp only [PyData.shown])
    show ((("(" : Str) ++ Str.join ", " (PyData.shownAll xs)) ++ (if (PyData.shownAll xs).length == 1 then ",)" else ")" : String)).length ≤ _
    rw [strLen_append, strLen_append]
    have e1 : ((("(" : String)) : Str).length = 1 := rfl
    have e2 : (((if (PyData.shownAll xs).length == 1 then ",)" else ")" : String)) : Str).length ≤ 2 := by split <;> decide
    rw [e1]
    lia
  | .list _, h => by ((try dsimp only [okB] at h) <;> simp at h)
  | .dict _, h => by ((try dsimp only [okB] at h) <;> simp at h)
theorem showns_len : ∀ xs : List PyData, okB.okBs xs = true → ((PyData.shownAll xs).map fun t => 2 + t.length).sum ≤ wts xs
  | [], _ => by ((try dsimp only [wts]) <;> simp [PyData.shownAll])
  | x :: xs, h => by
    have h := Bool.and_eq_true_iff.mp h
    have h1 := shown_len x h.1
    have h2 := showns_len xs h.2
    ((try dsimp only [wts]) <;> simp only [PyData.shownAll, List.map_cons, List.sum_cons]); lia
end
theorem words_len : (so "var").length = 3 ∧ (so "name").length = 4 ∧ (so "tuple").length = 5 ∧ (so "union").length = 5 ∧ (so "all").length = 3 ∧ (so "typeof").length = 6 ∧ (so "bottom").length = 6 := by decide +kernel
mutual
theorem Kd.wt_le : ∀ k : Kd, k.ok = true → wt k.dat + 2 ≤ 4000 * k.sz
  | .var x, h => by
    have := nmOk_len (x := x) (by (dsimp only [Kd.ok] at h ⊢ <;> simpa using h))
    have := words_len
    dsimp only [Kd.dat, wt, wts, Kd.sz]; dsimp only [so] at this; lia
  | .name x ps, h => by
    ((try dsimp only [Kd.ok] at h) <;> simp only [Bool.and_eq_true] at h)
    have := nmOk_len h.1
    have := words_len
    have := Kd.wts_le ps h.2
    dsimp only [Kd.dat, wt, wts, Kd.sz]; dsimp only [so] at *; lia
  | .tup p, h => by
    have := words_len
    have := Kd.wt_le p h
    dsimp only [Kd.dat, wt, wts, Kd.sz]; dsimp only [so] at *; lia
  | .tupv p r, h => by
    ((try dsimp only [Kd.ok] at h) <;> simp only [Bool.and_eq_true] at h)
    have := words_len
    have := Kd.wt_le p h.1
    have := Kd.wt_le r h.2
    dsimp only [Kd.dat, wt, wts, Kd.sz]; dsimp only [so] at *; lia
  | .uni ps, h => by
    have := words_len
    have := Kd.wts_le ps h
    dsimp only [Kd.dat, wt, wts, Kd.sz]; dsimp only [so] at *; lia
  | .all x lo up bd, h => by
    ((try dsimp only [Kd.ok] at h) <;> simp only [Bool.and_eq_true] at h)
    have := nmOk_len h.1.1.1
    have := words_len
    have := Kd.wt_le lo h.1.1.2
    have := Kd.wt_le up h.1.2
    have := Kd.wt_le bd h.2
    dsimp only [Kd.dat, wt, wts, Kd.sz]; dsimp only [so] at *; lia
  | .typeof k, h => by
    have := words_len
    have := Kd.wt_le k h
    dsimp only [Kd.dat, wt, wts, Kd.sz]; dsimp only [so] at *; lia
  | .bottom, _ => by
    have := words_len
    dsimp only [Kd.dat, wt, wts, Kd.sz]; dsimp only [so] at *; lia
theorem Kd.wts_le : ∀ ks : List Kd, Kd.oks ks = true → wts (Kd.dats ks) ≤ 4000 * Kd.szs ks
  | [], _ => by ((try dsimp only [Kd.dats, wts]) <;> simp)
  | k :: ks, h => by
    ((try dsimp only [Kd.oks] at h) <;> simp only [Bool.and_eq_true] at h)
    have h1 := Kd.wt_le k h.1
    have h2 := Kd.wts_le ks h.2
    have := k.sz_pos
    dsimp only [Kd.dats, wts, Kd.szs]; lia
end
mutual
theorem Kd.okB : ∀ k : Kd, k.ok = true → Mine.okB k.dat = true
  | .var x, h => an (by decide +kernel) (an (Bool.and_eq_true_iff.mp h).1 rfl)
  | .name x ps, h => by
    have h := Bool.and_eq_true_iff.mp h
    exact an (by decide +kernel) (an (Bool.and_eq_true_iff.mp h.1).1 (an (Kd.okBs ps h.2) rfl))
  | .tup p, h => an (by decide +kernel) (an (an (Kd.okB p h) rfl) (an rfl rfl))
  | .tupv p r, h => by
    have h := Bool.and_eq_true_iff.mp h
    exact an (by decide +kernel) (an (an (Kd.okB p h.1) rfl) (an (Kd.okB r h.2) rfl))
  | .uni ps, h => an (by decide +kernel) (an (Kd.okBs ps h) rfl)
  | .all x lo up bd, h => by
    have h := Bool.and_eq_true_iff.mp h
    have k := Bool.and_eq_true_iff.mp h.1
    have j := Bool.and_eq_true_iff.mp k.1
    exact an (by decide +kernel) (an (Bool.and_eq_true_iff.mp j.1).1 (an (Kd.okB lo j.2) (an (Kd.okB up k.2) (an (Kd.okB bd h.2) rfl))))
  | .typeof k, h => an (by decide +kernel) (an (Kd.okB k h) rfl)
  | .bottom, _ => by decide +kernel
theorem Kd.okBs : ∀ ks : List Kd, Kd.oks ks = true → Mine.okB.okBs (Kd.dats ks) = true
  | [], _ => rfl
  | k :: ks, h => by
    have h := Bool.and_eq_true_iff.mp h
    exact an (Kd.okB k h.1) (Kd.okBs ks h.2)
end
mutual
theorem Kd.plD : ∀ k : Kd, k.ok = true → Mine.plD k.dat = true
  | .var x, h => an (nmOk_pl h) rfl
  | .name x ps, h => by
    have h := Bool.and_eq_true_iff.mp h
    exact an (nmOk_pl h.1) (an (Kd.plDs ps h.2) rfl)
  | .tup p, h => an (an (Kd.plD p h) rfl) (an rfl rfl)
  | .tupv p r, h => by
    have h := Bool.and_eq_true_iff.mp h
    exact an (an (Kd.plD p h.1) rfl) (an (Kd.plD r h.2) rfl)
  | .uni ps, h => an (Kd.plDs ps h) rfl
  | .all x lo up bd, h => by
    have h := Bool.and_eq_true_iff.mp h
    have k := Bool.and_eq_true_iff.mp h.1
    have j := Bool.and_eq_true_iff.mp k.1
    exact an (nmOk_pl j.1) (an (Kd.plD lo j.2) (an (Kd.plD up k.2) (an (Kd.plD bd h.2) rfl)))
  | .typeof k, h => an (Kd.plD k h) rfl
  | .bottom, _ => by decide +kernel
theorem Kd.plDs : ∀ ks : List Kd, Kd.oks ks = true → Mine.plD.plDs (Kd.dats ks) = true
  | [], _ => rfl
  | k :: ks, h => by
    have h := Bool.and_eq_true_iff.mp h
    exact an (Kd.plD k h.1) (Kd.plDs ks h.2)
end
theorem Call.reprK {g : Gx} {k : Kd} (h : k.Fit) : Call g (.builtin "repr") [.dat k.dat] [] [] 0 (RetD (.str k.dat.shown) []) := by
  have hb := Kd.okB k h.ok
  have hd := h.depth
  have hl : k.dat.shown.length ≤ sizeLine := by
    have := shown_len _ hb
    have := Kd.wt_le k h.ok
    have := h.sz
    have : sizeLine = 16777216 := rfl
    lia
  have : ∃ xs, k.dat = .tuple xs := by cases k <;> exact ⟨_, rfl⟩
  obtain ⟨xs, hxs⟩ := this
  rw [hxs] at hb hd hl ⊢
  exact Call.repr hb hd hl
/-- what kinds are sorted by -/
noncomputable def keyD (k : Kd) : PyData := .tuple [.str (wr false k), .str (wr true k), .str k.dat.shown]
end
/-! K4 -/
section
/-! ## unions -/
noncomputable def anyK : Kd := .name (so "Any") []
theorem anyK_dat : anyK.dat = anyD := rfl
theorem bot_dat : Kd.bottom.dat = botD := rfl
mutual
noncomputable def flat : Kd → List Kd
  | .uni ps => flats ps
  | .bottom => []
  | .var x => [.var x]
  | .name x ps => [.name x ps]
  | .tup p => [.tup p]
  | .tupv p r => [.tupv p r]
  | .all x lo up bd => [.all x lo up bd]
  | .typeof k => [.typeof k]
noncomputable def flats : List Kd → List Kd
  | [] => []
  | k :: ks => flat k ++ flats ks
end
theorem flats_append : ∀ as bs : List Kd, flats (as ++ bs) = flats as ++ flats bs
  | [], _ => rfl
  | a :: as, bs => by show flat a ++ flats (as ++ bs) = flat a ++ flats as ++ flats bs; rw [flats_append as bs, List.append_assoc]
noncomputable def isUni : Kd → Bool
  | .uni _ => true
  | _ => false
theorem isUni_inv {k : Kd} (h : isUni k = true) : ∃ ps, k = .uni ps := by
  cases k with
  | uni ps => exact ⟨ps, rfl⟩
  | _ => exact Bool.noConfusion (show false = true from h)
theorem flat_other {k : Kd} (h1 : isUni k = false) (h2 : k ≠ .bottom) : flat k = [k] := by
  cases k with
  | uni ps => exact (Bool.false_ne_true h1.symm).elim
  | bottom => exact absurd rfl h2
  | _ => rfl
open Classical in
noncomputable def addN (acc : List Kd) (k : Kd) : List Kd := if k ∈ acc then acc else acc ++ [k]
noncomputable def dd (acc l : List Kd) : List Kd := l.foldl addN acc
theorem dd_nil (acc : List Kd) : dd acc [] = acc := rfl
theorem dd_cons (acc : List Kd) (k : Kd) (l : List Kd) : dd acc (k :: l) = dd (addN acc k) l := rfl
theorem dd_append (acc l m : List Kd) : dd acc (l ++ m) = dd (dd acc l) m := by ((try dsimp only [dd]) <;> simp)
theorem addN_mem {acc : List Kd} {k q : Kd} : q ∈ addN acc k ↔ q ∈ acc ∨ q = k := by
  unfold addN
  split
  · rename_i h
    constructor
    · exact .inl
    · rintro (h' | rfl)
      · exact h'
      · exact h
  · simp
theorem dd_mem {q : Kd} : ∀ {l acc : List Kd}, q ∈ dd acc l ↔ q ∈ acc ∨ q ∈ l
  | [], acc => by simp [dd_nil]
  | k :: l, acc => by rw [dd_cons, dd_mem, addN_mem]; simp [or_assoc]
theorem addN_nodup {acc : List Kd} (h : acc.Nodup) (k : Kd) : (addN acc k).Nodup := by
  unfold addN
  split
  · exact h
  · rename_i hk
    exact List.nodup_append.mpr ⟨h, by simp, fun x hx y hy => by simp at hy; subst hy; exact fun e => hk (e ▸ hx)⟩
theorem dd_nodup : ∀ {l acc : List Kd}, acc.Nodup → (dd acc l).Nodup
  | [], _, h => h
  | k :: l, _, h => dd_nodup (l := l) (addN_nodup h k)
theorem addN_length (acc : List Kd) (k : Kd) : (addN acc k).length ≤ acc.length + 1 := by
  unfold addN; split <;> simp
theorem dd_length : ∀ (l acc : List Kd), (dd acc l).length ≤ acc.length + l.length
  | [], acc => Nat.le_refl _
  | k :: l, acc => by
    have := dd_length l (addN acc k)
    have := addN_length acc k
    rw [dd_cons, List.length_cons]; lia
mutual
theorem flat_szs : ∀ k : Kd, Kd.szs (flat k) ≤ k.sz
  | .uni ps => by have := flats_szs ps; dsimp only [flat, Kd.sz]; lia
  | .bottom => by ((try dsimp only [flat, Kd.szs]) <;> simp)
  | .var x => by ((try dsimp only [flat, Kd.szs]) <;> simp)
  | .name x ps => by ((try dsimp only [flat, Kd.szs]) <;> simp)
  | .tup p => by ((try dsimp only [flat, Kd.szs]) <;> simp)
  | .tupv p r => by ((try dsimp only [flat, Kd.szs]) <;> simp)
  | .all x lo up bd => by ((try dsimp only [flat, Kd.szs]) <;> simp)
  | .typeof k => by ((try dsimp only [flat, Kd.szs]) <;> simp)
theorem flats_szs : ∀ ks : List Kd, Kd.szs (flats ks) ≤ Kd.szs ks
  | [] => Nat.le_refl _
  | k :: ks => by have := flat_szs k; have := flats_szs ks; ((try dsimp only [flats, Kd.szs]) <;> simp only [Kd.szs_append]); lia
end
theorem flats_length (ks : List Kd) : (flats ks).length ≤ Kd.szs ks := Nat.le_trans (Kd.szs_length _) (flats_szs ks)
mutual
theorem flat_part : ∀ k : Kd, ∀ q ∈ flat k, q.ht ≤ k.ht ∧ (k.ok = true → q.ok = true) ∧ isUni q = false ∧ q ≠ .bottom
  | .uni ps, q, h => by
    obtain ⟨a, b, c⟩ := flats_part ps q h
    exact ⟨by dsimp only [Kd.ht]; lia, fun h => b (by (dsimp only [Kd.ok] at h ⊢ <;> simpa using h)), c⟩
  | .bottom, q, h => by ((try dsimp only [flat] at h) <;> simp at h)
  | .var x, q, h => by ((try dsimp only [flat] at h) <;> simp only [List.mem_singleton] at h); subst h; exact ⟨Nat.le_refl _, id, rfl, by simp⟩
  | .name x ps, q, h => by ((try dsimp only [flat] at h) <;> simp only [List.mem_singleton] at h); subst h; exact ⟨Nat.le_refl _, id, rfl, by simp⟩
  | .tup p, q, h => by ((try dsimp only [flat] at h) <;> simp only [List.mem_singleton] at h); subst h; exact ⟨Nat.le_refl _, id, rfl, by simp⟩
  | .tupv p r, q, h => by ((try dsimp only [flat] at h) <;> simp only [List.mem_singleton] at h); subst h; exact ⟨Nat.le_refl _, id, rfl, by simp⟩
  | .all x lo up bd, q, h => by ((try dsimp only [flat] at h) <;> simp only [List.mem_singleton] at h); subst h; exact ⟨Nat.le_refl _, id, rfl, by simp⟩
  | .typeof k, q, h => by ((try dsimp only [flat] at h) <;> simp only [List.mem_singleton] at h); subst h; exact ⟨Nat.le_refl _, id, rfl, by simp⟩
theorem flats_part : ∀ ks : List Kd, ∀ q ∈ flats ks, q.ht ≤ Kd.hts ks ∧ (Kd.oks ks = true → q.ok = true) ∧ isUni q = false ∧ q ≠ .bottom
  | k :: ks, q, h => by
    rcases List.mem_append.mp h with h | h
    · obtain ⟨a, b, c⟩ := flat_part k q h
      exact ⟨by dsimp only [Kd.hts]; lia, fun h => by ((try dsimp only [Kd.oks] at h) <;> simp only [Bool.and_eq_true] at h); exact b h.1, c⟩
    · obtain ⟨a, b, c⟩ := flats_part ks q h
      exact ⟨by dsimp only [Kd.hts]; lia, fun h => by ((try dsimp only [Kd.oks] at h) <;> simp only [Bool.and_eq_true] at h); exact b h.2, c⟩
end
noncomputable def keyLe (a b : Kd) : Bool := !triO.blt (triOf (keyD b)) (triOf (keyD a))
noncomputable def srtK (l : List Kd) : List Kd := l.mergeSort keyLe
theorem srtK_perm (l : List Kd) : (srtK l).Perm l := List.mergeSort_perm l _
open Classical in
noncomputable def unionF (f : List Kd) : Kd :=
  if anyK ∈ f then anyK else match f with
    | [] => .bottom
    | [k] => k
    | f => .uni (srtK f)
noncomputable def unionOf (ks : List Kd) : Kd := unionF (dd [] (flats ks))
open Classical in
/-- the key of a datum -/
noncomputable def keyOf (x : PyData) : PyData := if h : ∃ k : Kd, k.dat = x then keyD h.choose else .none
theorem keyOf_dat (k : Kd) : keyOf k.dat = keyD k := by
  unfold keyOf
  have h : ∃ q : Kd, q.dat = k.dat := ⟨k, rfl⟩
  rw [dif_pos h, Kd.dat_inj _ _ h.choose_spec]
theorem kle_pre {O : KeyOrd} {α : Type} (f : α → O.α) : (∀ a b c : α, (!O.blt (f b) (f a)) = true → (!O.blt (f c) (f b)) = true → (!O.blt (f c) (f a)) = true) ∧ ∀ a b : α, ((!O.blt (f b) (f a)) || (!O.blt (f a) (f b))) = true := by
  constructor
  · intro a b c h1 h2
    simp only [Bool.not_eq_true'] at h1 h2 ⊢
    cases e : O.blt (f c) (f a) with
    | false => rfl
    | true =>
      rcases O.negTrans _ (f b) _ e with h | h
      · rw [h] at h2; cases h2
      · rw [h] at h1; cases h1
  · intro a b
    cases e : O.blt (f b) (f a) with
    | false => rfl
    | true =>
      cases e2 : O.blt (f a) (f b) with
      | false => rfl
      | true =>
        have := O.trans _ _ _ e e2
        rw [O.irrefl] at this; cases this
theorem keyLe_anti {a b : Kd} (ha : a.ok = true) (hb : b.ok = true) (h1 : keyLe a b = true) (h2 : keyLe b a = true) : a = b := by
  ((try dsimp only [keyLe] at h1 h2) <;> simp only [Bool.not_eq_true'] at h1 h2)
  have h := triO.total _ _ h2 h1
  have h3 : cpsOf (.str a.dat.shown) = cpsOf (.str b.dat.shown) := by
    have := congrArg (fun x => x.2.2) h
    exact this
  exact Kd.dat_inj _ _ (shown_inj (Kd.plD a ha) (Kd.plD b hb) (str_of_list h3))
theorem srtK_pairwise (l : List Kd) : (srtK l).Pairwise (fun a b => keyLe a b = true) :=
  have h := kle_pre (O := triO) fun k : Kd => triOf (keyD k)
  List.pairwise_mergeSort h.1 h.2 l
theorem srtK_unique {l ys : List Kd} (hp : ys.Perm l) (ho : ∀ k ∈ l, k.ok = true) (hs : ys.Pairwise (fun a b => triO.kle (triOf (keyD a)) (triOf (keyD b)))) : ys = srtK l := by
  refine List.Perm.eq_of_pairwise (le := fun a b => keyLe a b = true) ?_ ?_ (srtK_pairwise l) (hp.trans (srtK_perm l).symm)
  · intro a b ma mb h1 h2
    exact keyLe_anti (ho a (hp.mem_iff.mp ma)) (ho b ((srtK_perm l).mem_iff.mp mb)) h1 h2
  · refine hs.imp fun {a b} h => ?_
    have h : triO.blt (triOf (keyD b)) (triOf (keyD a)) = false := h
    ((try dsimp only [keyLe]) <;> simp only [h, Bool.not_false])
theorem srtK_perm_eq {l m : List Kd} (h : l.Perm m) (ho : ∀ k ∈ l, k.ok = true) : srtK l = srtK m := by
  refine srtK_unique ((srtK_perm l).trans h) (fun k hk => ho k (h.mem_iff.mpr hk)) ((srtK_pairwise l).imp fun {a b} h => ?_)
  show triO.blt (triOf (keyD b)) (triOf (keyD a)) = false
  (dsimp only [keyLe] at h ⊢ <;> simpa using h)
theorem srtK_idem (l : List Kd) : srtK (srtK l) = srtK l := List.mergeSort_of_pairwise (srtK_pairwise l)
theorem ys_dat {l : List Kd} {ys : List PyData} (h : ys.Perm (l.map Kd.dat)) : ∃ zs : List Kd, ys = zs.map Kd.dat ∧ zs.Perm l := by
  obtain ⟨zs, h1, h2⟩ : ∃ zs : List Kd, zs.Perm l ∧ zs.map Kd.dat = ys := by
    have := h.symm
    clear h
    generalize hm : l.map Kd.dat = m at this
    induction this generalizing l with
    | nil => exact ⟨l, List.Perm.refl _, hm⟩
    | cons x _ ih =>
      cases l with
      | nil => simp at hm
      | cons a l =>
        simp only [List.map_cons, List.cons.injEq] at hm
        obtain ⟨zs, h1, h2⟩ := ih hm.2
        exact ⟨a :: zs, h1.cons a, by simp [hm.1, h2]⟩
    | swap x y m =>
      match l, hm with
      | a :: b :: l, hm =>
        simp only [List.map_cons, List.cons.injEq] at hm
        exact ⟨b :: a :: l, List.Perm.swap _ _ _, by simp [hm]⟩
    | trans _ _ ih1 ih2 =>
      obtain ⟨zs, h1, h2⟩ := ih1 hm
      obtain ⟨ws, h3, h4⟩ := ih2 h2
      exact ⟨ws, h3.trans h1, h4⟩
  exact ⟨zs, h2.symm, h1⟩
end
/-! K5 -/
section
/-! ## free names -/
mutual
noncomputable def FreeIn (x : Str) : Kd → Prop
  | .var y => x = y
  | .name _ ps => FreesIn x ps
  | .tup p => FreeIn x p
  | .tupv p r => FreeIn x p ∨ FreeIn x r
  | .uni ps => FreesIn x ps
  | .all y lo up bd => FreeIn x lo ∨ FreeIn x up ∨ (FreeIn x bd ∧ x ≠ y)
  | .typeof k => FreeIn x k
  | .bottom => False
noncomputable def FreesIn (x : Str) : List Kd → Prop
  | [] => False
  | k :: ks => FreeIn x k ∨ FreesIn x ks
end
theorem freesIn_iff {x : Str} : ∀ {ks : List Kd}, FreesIn x ks ↔ ∃ k ∈ ks, FreeIn x k
  | [] => by ((try dsimp only [FreesIn]) <;> simp)
  | k :: ks => by ((try dsimp only [FreesIn]) <;> simp [freesIn_iff (ks := ks)])
noncomputable def isVar : Kd → Bool
  | .var _ => true
  | _ => false
noncomputable def isAll : Kd → Bool
  | .all .. => true
  | _ => false
theorem isVar_inv {k : Kd} (h : isVar k = true) : ∃ x, k = .var x := by
  cases k with
  | var x => exact ⟨x, rfl⟩
  | _ => exact Bool.noConfusion (show false = true from h)
theorem isAll_inv {k : Kd} (h : isAll k = true) : ∃ x lo up bd, k = .all x lo up bd := by
  cases k with
  | all x lo up bd => exact ⟨x, lo, up, bd, rfl⟩
  | _ => exact Bool.noConfusion (show false = true from h)
theorem free_parts {x : Str} {k : Kd} (h1 : isVar k = false) (h2 : isAll k = false) : FreeIn x k ↔ ∃ p ∈ k.parts, FreeIn x p := by
  cases k with
  | var y => exact (Bool.false_ne_true h1.symm).elim
  | all y lo up bd => exact (Bool.false_ne_true h2.symm).elim
  | name y ps => exact freesIn_iff
  | uni ps => exact freesIn_iff
  | bottom => exact ⟨fun h => h.elim, fun ⟨_, m, _⟩ => nomatch m⟩
  | tupv p r => show FreeIn x p ∨ FreeIn x r ↔ ∃ q ∈ [p, r], FreeIn x q; simp
  | tup p => show FreeIn x p ↔ ∃ q ∈ [p], FreeIn x q; simp
  | typeof p => show FreeIn x p ↔ ∃ q ∈ [p], FreeIn x q; simp
mutual
theorem free_ok {x : Str} : ∀ k : Kd, FreeIn x k → k.ok = true → nmOk x = true
  | .var y, h, ho => by dsimp only [FreeIn] at h; subst h; exact ho
  | .name _ ps, h, ho => by ((try dsimp only [Kd.ok] at ho) <;> simp only [Bool.and_eq_true] at ho); exact frees_ok ps h ho.2
  | .tup p, h, ho => free_ok p h ho
  | .tupv p r, h, ho => by
    ((try dsimp only [Kd.ok] at ho) <;> simp only [Bool.and_eq_true] at ho)
    rcases h with h | h
    · exact free_ok p h ho.1
    · exact free_ok r h ho.2
  | .uni ps, h, ho => frees_ok ps h ho
  | .all y lo up bd, h, ho => by
    ((try dsimp only [Kd.ok] at ho) <;> simp only [Bool.and_eq_true] at ho)
    rcases h with h | h | h
    · exact free_ok lo h ho.1.1.2
    · exact free_ok up h ho.1.2
    · exact free_ok bd h.1 ho.2
  | .typeof k, h, ho => free_ok k h ho
  | .bottom, h, _ => h.elim
theorem frees_ok {x : Str} : ∀ ks : List Kd, FreesIn x ks → Kd.oks ks = true → nmOk x = true
  | [], h, _ => h.elim
  | k :: ks, h, ho => by
    ((try dsimp only [Kd.oks] at ho) <;> simp only [Bool.and_eq_true] at ho)
    rcases h with h | h
    · exact free_ok k h ho.1
    · exact frees_ok ks h ho.2
end
end
/-! K6 -/
section
/-! ## putting in -/
noncomputable abbrev Tab := List (Str × Kd)
noncomputable def Tab.dats (t : Tab) : List (Str × PyData) := t.map fun p => (p.1, p.2.dat)
noncomputable def Tab.drop (t : Tab) (x : Str) : Tab := t.filter fun p => decide (p.1 ≠ x)
theorem dats_lookup (t : Tab) (x : Str) : t.dats.lookup x = (t.lookup x).map Kd.dat := by
  induction t with
  | nil => rfl
  | cons p t ih =>
    obtain ⟨y, k⟩ := p
    ((try dsimp only [Tab.dats] at ih ⊢) <;> simp only [List.map_cons, List.lookup_cons] at ih ⊢)
    cases x == y <;> simp [ih]
theorem dats_drop (t : Tab) (x : Str) : (t.drop x).dats = t.dats.filter fun p => decide (p.1 ≠ x) := by
  ((try dsimp only [Tab.drop, Tab.dats]) <;> simp [List.filter_map, Function.comp_def])
theorem drop_lookup (t : Tab) (x y : Str) : (t.drop x).lookup y = if y = x then none else t.lookup y := by
  induction t with
  | nil => ((try dsimp only [Tab.drop]) <;> simp)
  | cons p t ih =>
    obtain ⟨z, k⟩ := p
    unfold Tab.drop at ih ⊢
    by_cases hz : z = x
    · subst hz
      rw [List.filter_cons_of_neg (by simp), ih, List.lookup_cons]
      by_cases hy : y = z
      · simp [hy]
      · have : (y == z) = false := by simpa using hy
        rw [this]
    · rw [List.filter_cons_of_pos (by simpa using hz), List.lookup_cons, List.lookup_cons, ih]
      by_cases hy : y = z
      · subst hy; simp [hz]
      · have : (y == z) = false := by simpa using hy
        rw [this]
/-- a name that stands free in what is put into bd -/
noncomputable def Used (t : Tab) (x : Str) (bd : Kd) (y : Str) : Prop := ∃ z k, FreeIn z bd ∧ z ≠ x ∧ t.lookup z = some k ∧ FreeIn y k
open Classical in
/-- the table under a binder -/
noncomputable def inTab (t : Tab) (x y : Str) (bd : Kd) : Tab := if Used t x bd x then t.drop x ++ [(x, .var y)] else t.drop x
noncomputable def NewNm (t : Tab) (x y : Str) (bd : Kd) : Prop := (¬ Used t x bd x ∧ y = x) ∨ (Used t x bd x ∧ ¬ Used t x bd y ∧ ¬ FreeIn y bd ∧ nmOk y = true)
/-- a union's parts put together again (the program leaves a union with no part alone) -/
noncomputable def uniOf (qs : List Kd) : Kd := if qs.isEmpty then .uni [] else unionOf qs
mutual
noncomputable def SubR : Tab → Kd → Kd → Prop
  | t, .var x, r => r = (t.lookup x).getD (.var x)
  | t, .name x ps, r => ∃ qs, SubRs t ps qs ∧ r = .name x qs
  | t, .tup p, r => ∃ q, SubR t p q ∧ r = .tup q
  | t, .tupv p1 p2, r => ∃ q1 q2, SubR t p1 q1 ∧ SubR t p2 q2 ∧ r = .tupv q1 q2
  | t, .uni ps, r => ∃ qs, SubRs t ps qs ∧ r = uniOf qs
  | t, .all x lo up bd, r => ∃ lo' up' y bd', SubR t lo lo' ∧ SubR t up up' ∧ NewNm t x y bd ∧ SubR (inTab t x y bd) bd bd' ∧ r = .all y lo' up' bd'
  | t, .typeof p, r => ∃ q, SubR t p q ∧ r = .typeof q
  | _, .bottom, r => r = .bottom
noncomputable def SubRs : Tab → List Kd → List Kd → Prop
  | _, [], qs => qs = []
  | t, k :: ks, qs => ∃ q qs', SubR t k q ∧ SubRs t ks qs' ∧ qs = q :: qs'
end
theorem subRs_all2 {t : Tab} : ∀ {ks qs : List Kd}, SubRs t ks qs ↔ All2 (SubR t) ks qs
  | [], qs => by
    constructor
    · rintro rfl; exact .nil
    · intro h; cases h; rfl
  | k :: ks, qs => by
    constructor
    · rintro ⟨q, qs', h1, h2, rfl⟩
      exact .cons h1 (subRs_all2.mp h2)
    · intro h
      cases h with
      | cons h1 h2 => exact ⟨_, _, h1, subRs_all2.mpr h2, rfl⟩
theorem subRs_length {t : Tab} {ks qs : List Kd} (h : SubRs t ks qs) : qs.length = ks.length := (subRs_all2.mp h).length.symm
theorem nodup_sub_len {α : Type} [DecidableEq α] : ∀ {l m : List α}, l.Nodup → (∀ x ∈ l, x ∈ m) → l.length ≤ m.length
  | [], _, _, _ => Nat.zero_le _
  | x :: l, m, hn, hs => by
    simp only [List.nodup_cons] at hn
    have hx := hs x (by simp)
    have := nodup_sub_len (l := l) (m := m.erase x) hn.2 fun y hy => (List.mem_erase_of_ne (fun e : y = x => hn.1 (e ▸ hy))).mpr (hs y (by simp [hy]))
    rw [List.length_erase_of_mem hx] at this
    have := List.length_pos_of_mem hx
    rw [List.length_cons]; lia
/-! ### sizes -/
structure TabOk (t : Tab) (S H : Nat) : Prop where
  ok : ∀ p ∈ t, nmOk p.1 = true ∧ p.2.ok = true ∧ p.2.sz ≤ S ∧ p.2.ht ≤ H
  s1 : 1 ≤ S
  h1 : 1 ≤ H
theorem TabOk.look {t : Tab} {S H : Nat} (h : TabOk t S H) {x : Str} {k : Kd} (e : t.lookup x = some k) : k.ok = true ∧ k.sz ≤ S ∧ k.ht ≤ H := (h.ok _ (mem_of_lookup e)).2
theorem TabOk.inTab {t : Tab} {S H : Nat} (h : TabOk t S H) {x y : Str} {bd : Kd} (hx : nmOk x = true) (hy : nmOk y = true) : TabOk (inTab t x y bd) S H := by
  refine ⟨fun p hp => ?_, h.s1, h.h1⟩
  unfold Mine.inTab at hp
  have hd : ∀ p ∈ t.drop x, nmOk p.1 = true ∧ p.2.ok = true ∧ p.2.sz ≤ S ∧ p.2.ht ≤ H := fun p hp => h.ok p (List.mem_filter.mp hp).1
  split at hp
  · rcases List.mem_append.mp hp with hp | hp
    · exact hd p hp
    · simp at hp; subst hp
      exact ⟨hx, by (dsimp only [Kd.ok] at hy ⊢ <;> simpa using hy), by dsimp only [Kd.sz]; simpa using h.s1, by dsimp only [Kd.ht]; simpa using h.h1⟩
  · exact hd p hp
theorem NewNm.ok {t : Tab} {x y : Str} {bd : Kd} (h : NewNm t x y bd) (hx : nmOk x = true) : nmOk y = true := by
  rcases h with ⟨_, rfl⟩ | ⟨_, _, _, h⟩
  · exact hx
  · exact h
theorem unionOf_sz (ks : List Kd) : (unionOf ks).sz ≤ 1 + Kd.szs ks := by
  have hp := flats_szs ks
  have hd : ∀ (l acc : List Kd), Kd.szs (dd acc l) ≤ Kd.szs acc + Kd.szs l := by
    intro l
    induction l with
    | nil => intro acc; exact Nat.le_refl _
    | cons k l ih =>
      intro acc
      have := ih (addN acc k)
      have h2 : Kd.szs (addN acc k) ≤ Kd.szs acc + k.sz := by
        unfold addN; split
        · lia
        · rw [Kd.szs_append]; ((try dsimp only [Kd.szs]) <;> simp)
      rw [dd_cons]; dsimp only [Kd.szs]; lia
  have := hd (flats ks) []
  dsimp only [Kd.szs] at this
  unfold unionOf unionF
  split
  · ((try dsimp only [anyK, Kd.sz, Kd.szs]) <;> simp)
  · split
    · ((try dsimp only [Kd.sz]) <;> simp)
    · rename_i k e
      rw [e] at this; dsimp only [Kd.szs] at this; lia
    · show 1 + Kd.szs (srtK _) ≤ _; rw [Kd.szs_perm (srtK_perm _)]; lia
theorem unionOf_all {P : Kd → Prop} {ks : List Kd} (hf : ∀ q ∈ flats ks, P q) (hu : ∀ l : List Kd, (∀ q ∈ l, P q) → P (.uni l)) (ha : P anyK) (hb : P .bottom) : P (unionOf ks) := by
  have hm : ∀ q ∈ dd [] (flats ks), P q := fun q hq => hf q (by simpa [dd_mem] using hq)
  unfold unionOf unionF
  split
  · exact ha
  · split
    · exact hb
    · rename_i k e
      exact hm k (by rw [e]; simp)
    · exact hu _ fun q hq => hm q ((srtK_perm _).mem_iff.mp hq)
theorem unionOf_ok {ks : List Kd} (h : Kd.oks ks = true) : (unionOf ks).ok = true :=
  unionOf_all (P := fun k => k.ok = true) (fun q hq => (flats_part ks q hq).2.1 h) (fun l hl => Kd.oks_of hl) (by decide +kernel) rfl
theorem unionOf_ht (ks : List Kd) : (unionOf ks).ht ≤ 1 + Kd.hts ks :=
  have key : (unionOf ks).ht ≤ Kd.hts ks ∨ (unionOf ks).ht ≤ 1 + Kd.hts ks ∨ (unionOf ks).ht ≤ 1 := by
    have hm : ∀ q ∈ dd [] (flats ks), q.ht ≤ Kd.hts ks := fun q hq => (flats_part ks q (by simpa [dd_mem] using hq)).1
    unfold unionOf unionF
    split
    · exact .inr (.inr (by ((try dsimp only [anyK, Kd.ht, Kd.hts]) <;> simp)))
    · split
      · exact .inr (.inr (by ((try dsimp only [Kd.ht]) <;> simp)))
      · rename_i k e
        exact .inl (hm k (by rw [e]; simp))
      · refine .inr (.inl ?_)
        have := Kd.hts_le (ks := srtK (dd [] (flats ks))) (n := Kd.hts ks) fun q hq => hm q ((srtK_perm _).mem_iff.mp hq)
        dsimp only [Kd.ht]; lia
  by lia
mutual
theorem subR_fit {S H : Nat} : ∀ (k : Kd) {t : Tab} {r : Kd}, TabOk t S H → k.ok = true → SubR t k r → r.ok = true ∧ r.sz ≤ k.sz * S ∧ r.ht ≤ k.ht + H
  | .var x, t, r, ht, hk, h => by
    dsimp only [SubR] at h
    subst h
    cases e : t.lookup x with
    | none => exact ⟨hk, by dsimp only [Option.getD_none, Kd.sz]; simpa using ht.s1, by dsimp only [Option.getD_none]; exact Nat.le_add_right _ _⟩
    | some q =>
      obtain ⟨a, b, c⟩ := ht.look e
      exact ⟨a, by (dsimp only [Kd.sz] at b ⊢ <;> simpa using b), by dsimp only [Kd.ht, Option.getD_some]; lia⟩
  | .name x ps, t, r, ht, hk, h => by
    obtain ⟨qs, hq, rfl⟩ := h
    ((try dsimp only [Kd.ok] at hk) <;> simp only [Bool.and_eq_true] at hk)
    obtain ⟨a, b, c⟩ := subRs_fit ps ht hk.2 hq
    have := ht.s1
    refine ⟨by ((try dsimp only [Kd.ok]) <;> simp [hk.1, a]), ?_, by dsimp only [Kd.ht]; lia⟩
    ((try dsimp only [Kd.sz]) <;> simp only [Nat.add_mul]); lia
  | .tup p, t, r, ht, hk, h => by
    obtain ⟨q, hq, rfl⟩ := h
    obtain ⟨a, b, c⟩ := subR_fit p ht hk hq
    have := ht.s1
    refine ⟨a, ?_, by dsimp only [Kd.ht]; lia⟩
    ((try dsimp only [Kd.sz]) <;> simp only [Nat.add_mul]); lia
  | .tupv p1 p2, t, r, ht, hk, h => by
    obtain ⟨q1, q2, h1, h2, rfl⟩ := h
    ((try dsimp only [Kd.ok] at hk) <;> simp only [Bool.and_eq_true] at hk)
    obtain ⟨a, b, c⟩ := subR_fit p1 ht hk.1 h1
    obtain ⟨a', b', c'⟩ := subR_fit p2 ht hk.2 h2
    have := ht.s1
    refine ⟨by ((try dsimp only [Kd.ok]) <;> simp [a, a']), ?_, mx1 (mxh c c')⟩
    ((try dsimp only [Kd.sz]) <;> simp only [Nat.add_mul]); lia
  | .uni ps, t, r, ht, hk, h => by
    obtain ⟨qs, hq, rfl⟩ := h
    obtain ⟨a, b, c⟩ := subRs_fit ps ht (by (dsimp only [Kd.ok] at hk ⊢ <;> simpa using hk)) hq
    have := ht.s1
    have h1 := unionOf_sz qs
    have h2 := unionOf_ht qs
    unfold uniOf
    split
    · refine ⟨rfl, ?_, by dsimp only [Kd.ht, Kd.hts]; lia⟩
      ((try dsimp only [Kd.sz, Kd.szs]) <;> simp only [Nat.add_mul]); lia
    · refine ⟨unionOf_ok a, ?_, by dsimp only [Kd.ht]; lia⟩
      ((try dsimp only [Kd.sz]) <;> simp only [Nat.add_mul]); lia
  | .all x lo up bd, t, r, ht, hk, h => by
    obtain ⟨lo', up', y, bd', h1, h2, h3, h4, rfl⟩ := h
    ((try dsimp only [Kd.ok] at hk) <;> simp only [Bool.and_eq_true] at hk)
    have hy := h3.ok hk.1.1.1
    obtain ⟨a, b, c⟩ := subR_fit lo ht hk.1.1.2 h1
    obtain ⟨a', b', c'⟩ := subR_fit up ht hk.1.2 h2
    obtain ⟨a'', b'', c''⟩ := subR_fit bd (ht.inTab hk.1.1.1 hy) hk.2 h4
    have := ht.s1
    refine ⟨by ((try dsimp only [Kd.ok]) <;> simp [hy, a, a', a'']), ?_, mx1 (mxh c (mxh c' c''))⟩
    ((try dsimp only [Kd.sz]) <;> simp only [Nat.add_mul]); lia
  | .typeof p, t, r, ht, hk, h => by
    obtain ⟨q, hq, rfl⟩ := h
    obtain ⟨a, b, c⟩ := subR_fit p ht hk hq
    have := ht.s1
    refine ⟨a, ?_, by dsimp only [Kd.ht]; lia⟩
    ((try dsimp only [Kd.sz]) <;> simp only [Nat.add_mul]); lia
  | .bottom, t, r, ht, _, h => by
    dsimp only [SubR] at h
    subst h
    have := ht.s1
    exact ⟨rfl, by (dsimp only [Kd.sz] at this ⊢ <;> simpa using this), by ((try dsimp only [Kd.ht]) <;> simp)⟩
theorem subRs_fit {S H : Nat} : ∀ (ks : List Kd) {t : Tab} {qs : List Kd}, TabOk t S H → Kd.oks ks = true → SubRs t ks qs → Kd.oks qs = true ∧ Kd.szs qs ≤ Kd.szs ks * S ∧ Kd.hts qs ≤ Kd.hts ks + H
  | [], t, qs, ht, _, h => by
    dsimp only [SubRs] at h
    subst h
    exact ⟨rfl, by ((try dsimp only [Kd.szs]) <;> simp), by ((try dsimp only [Kd.hts]) <;> simp)⟩
  | k :: ks, t, qs, ht, hk, h => by
    obtain ⟨q, qs', h1, h2, rfl⟩ := h
    ((try dsimp only [Kd.oks] at hk) <;> simp only [Bool.and_eq_true] at hk)
    obtain ⟨a, b, c⟩ := subR_fit k ht hk.1 h1
    obtain ⟨a', b', c'⟩ := subRs_fit ks ht hk.2 h2
    refine ⟨by ((try dsimp only [Kd.oks]) <;> simp [a, a']), ?_, mxh c c'⟩
    ((try dsimp only [Kd.szs]) <;> simp only [Nat.add_mul]); lia
end
end
/-! R14 -/
section
noncomputable abbrev MapQ (R : PyData → Prop) (o : List Ob) (v : Sl) (ob3 : List Ob) : Prop := ∃ y g, v = .dat y ∧ R y ∧ ob3 = o ++ g
/-- a comprehension that maps, in a relation -/
theorem Turns.mapR {α : Type} {P : Cx → Prop} {elt : Expr} {bd : PyData → List (Str × Sl)} {fst : List (Str × Sl)} {n : Nat} {K : List PyData → List Ob → Prop} {obM : List Ob} (d : α → PyData) (R : α → PyData → Prop) (hn : obM.length = n) (hP : ∀ c', P c' → c'.n₀ ≤ n) :
    ∀ (l : List α) (ys : List PyData), ys.length + l.length ≤ 1000 →
      (∀ a ∈ l, ∀ c' ys, P c' → Ev c' elt (bd (d a) ++ fst) (obM ++ [.list ys]) (MapQ (R a) (obM ++ [.list ys]))) → (∀ zs, All2 R l zs → K (ys ++ zs) obM) → Turns P (emit1 elt) [] bd fst n K (l.map d) ys obM
  | [], ys, _, _, k => (show K ys obM by simpa using k [] .nil)
  | a :: l, ys, hl, h, k => fun c' hc => Tst.none (by
    show Emit _ _ _ _ _ _
    refine Emit.one (hP c' hc) ((h a (by simp) c' ys hc).mono fun v ob3 hv => ?_)
    obtain ⟨y, g, rfl, hr, rfl⟩ := hv
    refine ⟨y, ys, obM, g, rfl, rfl, hn, by simp at hl; lia, obM, g, by simp, hn, ?_⟩
    exact Turns.mapR d R hn hP l (ys ++ [y]) (by simp at hl ⊢; lia) (fun b hb => h b (List.mem_cons_of_mem _ hb)) fun zs hz => by simpa using k (y :: zs) (.cons hr hz))
theorem all2_map {α β γ : Type} {R : α → β → Prop} {f : β → γ} {l : List α} {zs : List γ} (h : All2 (fun a z => ∃ b, z = f b ∧ R a b) l zs) : ∃ bs, zs = bs.map f ∧ All2 R l bs := by
  induction h with
  | nil => exact ⟨[], rfl, .nil⟩
  | cons h1 _ ih =>
    obtain ⟨b, rfl, hb⟩ := h1
    obtain ⟨bs, rfl, hbs⟩ := ih
    exact ⟨b :: bs, rfl, .cons hb hbs⟩
theorem Tst.mono {c : Cx} {ifs : List Expr} {st : List (Str × Sl)} {ob : List Ob} {K K' : Bool → List Ob → Prop} (h : Tst c ifs st ob K) (f : ∀ b ob', K b ob' → K' b ob') : Tst c ifs st ob K' := by
  match ifs, h with
  | [], ⟨h⟩ => exact ⟨f _ _ h⟩
  | [t], ⟨h⟩ =>
    refine ⟨⟨fun as s F => wpAny_mono (Et.run h as s F) ?_ fun ζ ζ x => x⟩⟩
    rintro b s1 ⟨ob1, nw, F1, t1, k1⟩
    exact ⟨ob1, nw, F1, t1, f _ _ k1⟩
  | _ :: _ :: _, ⟨h⟩ => exact h.elim
theorem Emit.mono {c : Cx} {emit : Env → Value → Sem Unit} {n : Nat} {st : List (Str × Sl)} {ob : List Ob} {K K' : List PyData → List Ob → Prop} (h : Emit c emit n st ob K) (f : ∀ zs ob', K zs ob' → K' zs ob') : Emit c emit n st ob K' := by
  refine ⟨fun as s D F hD => wpAny_mono (h.run as s D F hD) ?_ fun ζ ζ x => x⟩
  rintro _ s1 ⟨zs, st', ob1, nw, F1, e, t1, k1⟩
  exact ⟨zs, st', ob1, nw, F1, e, t1, f _ _ k1⟩
theorem Ex.mono {c : Cx} {e : Stmt} {st : List (Str × Sl)} {ob : List Ob} {K K' : Fl → List (Str × Sl) → List Ob → Prop} (h : Ex c e st ob K) (f : ∀ fl st' ob', K fl st' ob' → K' fl st' ob') : Ex c e st ob K' := by
  refine ⟨fun as s F => wpAny_mono (h.run as s F) ?_ fun ζ ζ x => x⟩
  rintro fw s1 ⟨fl, st', ob1, nw, F1, e, t1, k1⟩
  exact ⟨fl, st', ob1, nw, F1, e, t1, f _ _ _ k1⟩
/-- a comprehension whose turns give lists -/
theorem Turns.flatR {α : Type} {P : Cx → Prop} {emit : Env → Value → Sem Unit} {ifs : List Expr} {bd : PyData → List (Str × Sl)} {fst : List (Str × Sl)} {n : Nat} {K : List PyData → List Ob → Prop} {obM : List Ob} (d : α → PyData) (R : α → List PyData → Prop) (L : Nat) (hn : obM.length = n) :
    ∀ (l : List α) (ys : List PyData), ys.length + l.length * L ≤ 1000 →
      (∀ a ∈ l, ∀ c' ys, P c' → ys.length + L ≤ 1000 → Tst c' ifs (bd (d a) ++ fst) (obM ++ [.list ys]) fun b ob2 =>
        if b = true then Emit c' emit n (bd (d a) ++ fst) ob2 fun zs ob3 => R a zs ∧ zs.length ≤ L ∧ ∃ g, ob3 = (obM ++ [.list (ys ++ zs)]) ++ g else R a [] ∧ ∃ g, ob2 = (obM ++ [.list ys]) ++ g) →
      (∀ zss, All2 R l zss → K (ys ++ zss.flatten) obM) → Turns P emit ifs bd fst n K (l.map d) ys obM
  | [], ys, _, _, k => (show K ys obM by simpa using k [] .nil)
  | a :: l, ys, hl, h, k => fun c' hc => by
    have hl' : ys.length + (l.length + 1) * L ≤ 1000 := hl
    rw [Nat.add_mul] at hl'
    refine (h a (by simp) c' ys hc (by lia)).mono fun b ob2 hb => ?_
    cases b with
    | false =>
      rw [if_neg (by simp)] at hb
      obtain ⟨hr, g, rfl⟩ := hb
      exact ⟨obM, g, rfl, hn, Turns.flatR d R L hn l ys (by lia) (fun b hb => h b (List.mem_cons_of_mem _ hb)) fun zss hz => by simpa using k ([] :: zss) (.cons hr hz)⟩
    | true =>
      rw [if_pos rfl] at hb; show Emit _ _ _ _ _ _
      refine hb.mono fun zs ob3 hz => ?_
      obtain ⟨hr, hzl, g, rfl⟩ := hz
      exact ⟨obM, g, rfl, hn, Turns.flatR d R L hn l (ys ++ zs) (by rw [List.length_append]; lia) (fun b hb => h b (List.mem_cons_of_mem _ hb)) fun zss hz => by simpa using k (zs :: zss) (.cons hr hz)⟩
end
/-! K7 -/
section
mutual
noncomputable def Kd.shrt : Kd → Bool
  | .var _ => true
  | .name _ ps => shrts ps
  | .tup p => p.shrt
  | .tupv p q => p.shrt && q.shrt
  | .uni ps => shrts ps
  | .all x lo up bd => decide (x.length ≤ 100) && lo.shrt && up.shrt && bd.shrt
  | .typeof p => p.shrt
  | .bottom => true
noncomputable def Kd.shrts : List Kd → Bool
  | [] => true
  | k :: ks => k.shrt && shrts ks
end
theorem shrts_mem {ks : List Kd} (h : Kd.shrts ks = true) {p : Kd} (m : p ∈ ks) : p.shrt = true := by
  induction ks with
  | nil => cases m
  | cons k ks ih =>
    ((try dsimp only [Kd.shrts] at h) <;> simp only [Bool.and_eq_true] at h)
    rcases List.mem_cons.mp m with rfl | m
    · exact h.1
    · exact ih h.2 m
theorem shrt_part {k p : Kd} (m : p ∈ k.parts) (h : k.shrt = true) : p.shrt = true := by
  cases k with
  | var x => ((try dsimp only [Kd.parts] at m) <;> simp at m)
  | bottom => ((try dsimp only [Kd.parts] at m) <;> simp at m)
  | name x ps => exact shrts_mem (by (dsimp only [Kd.shrt] at h ⊢ <;> simpa using h)) (by (dsimp only [Kd.parts] at m ⊢ <;> simpa using m))
  | uni ps => exact shrts_mem (by (dsimp only [Kd.shrt] at h ⊢ <;> simpa using h)) (by (dsimp only [Kd.parts] at m ⊢ <;> simpa using m))
  | tup q => ((try dsimp only [Kd.parts] at m) <;> simp at m); subst m; (dsimp only [Kd.shrt] at h ⊢ <;> simpa using h)
  | typeof q => ((try dsimp only [Kd.parts] at m) <;> simp at m); subst m; (dsimp only [Kd.shrt] at h ⊢ <;> simpa using h)
  | tupv q r =>
    ((try dsimp only [Kd.shrt] at h) <;> simp only [Bool.and_eq_true] at h)
    ((try dsimp only [Kd.parts] at m) <;> simp at m)
    rcases m with rfl | rfl
    · exact h.1
    · exact h.2
  | all x lo up bd =>
    ((try dsimp only [Kd.shrt] at h) <;> simp only [Bool.and_eq_true] at h)
    ((try dsimp only [Kd.parts] at m) <;> simp at m)
    rcases m with rfl | rfl | rfl
    · exact h.1.1.2
    · exact h.1.2
    · exact h.2
/-- a name with primes -/
noncomputable def prm (x : Str) : Nat → Str
  | 0 => x
  | j + 1 => prm x j ++ Str.ofString "'"
theorem prm_length (x : Str) : ∀ j, (prm x j).length = x.length + j
  | 0 => rfl
  | j + 1 => by
    show (prm x j ++ Str.ofString "'").length = _
    have h1 : (Str.ofString "'").length = 1 := by decide +kernel
    rw [strLen_append, prm_length x j, h1]; lia
theorem prm_ok (x : Str) (h : nmOk x = true) (hx : x.length ≤ 100) : ∀ j, j ≤ 200 → nmOk (prm x j) = true := by
  intro j hj
  have hl := prm_length x j
  have h1 : ∀ j, PyData.strOk (prm x j) = true := fun j => by
    induction j with
    | zero => exact nmOk_ok h
    | succ j ih => exact sok_app ih (by decide +kernel)
  have h2 : ∀ j, plS (prm x j) = true := fun j => by
    induction j with
    | zero => exact nmOk_pl h
    | succ j ih =>
      have e : (Str.ofString "'").cps.toList = [39] := by decide +kernel
      show ((prm x j ++ Str.ofString "'").cps.toList).all plC = true
      have : (prm x j ++ Str.ofString "'").cps.toList = (prm x j).cps.toList ++ (Str.ofString "'").cps.toList := Array.toList_append
      rw [this, e, List.all_append]
      dsimp only [plS] at ih
      rw [ih]; decide
  ((try dsimp only [nmOk]) <;> simp only [Bool.and_eq_true, decide_eq_true_eq])
  exact ⟨h1 j, by lia, h2 j⟩
theorem prm_bound {x : Str} {l : List Str} {j : Nat} (h : ∀ i, i < j → prm x i ∈ l) : j ≤ l.length := by
  have h1 : ((List.range j).map (prm x)).Nodup := by
    refine List.pairwise_map.mpr (List.nodup_range.imp fun {a b} hab e => hab ?_)
    have := congrArg Str.length e
    rw [prm_length, prm_length] at this; lia
  have := nodup_sub_len h1 (m := l) fun y hy => by
    obtain ⟨i, hi, rfl⟩ := List.mem_map.mp hy
    exact h i (List.mem_range.mp hi)
  simpa using this
noncomputable def UsedR (t : Tab) (bd : Kd) (p : Str × Kd) (zs : List PyData) : Prop := ∃ ns : List Str, zs = ns.map .str ∧ ns.length ≤ 4 ∧ ∀ y, y ∈ ns ↔ (FreeIn p.1 bd ∧ ∃ k, t.lookup p.1 = some k ∧ FreeIn y k)
theorem used_all {t : Tab} {bd : Kd} {l : Tab} {zss : List (List PyData)} (h : All2 (UsedR t bd) l zss) : ∃ us : List Str, zss.flatten = us.map .str ∧ us.length ≤ 4 * l.length ∧ ∀ y, y ∈ us ↔ ∃ p ∈ l, FreeIn p.1 bd ∧ ∃ k, t.lookup p.1 = some k ∧ FreeIn y k := by
  induction h with
  | nil => exact ⟨[], rfl, by simp, by simp⟩
  | cons h1 _ ih =>
    obtain ⟨ns, rfl, hn, hm⟩ := h1
    obtain ⟨us, e, hu, hum⟩ := ih
    refine ⟨ns ++ us, by simp [e], by simp only [List.length_append, List.length_cons]; lia, fun y => ?_⟩
    simp only [List.mem_append, hm, hum, List.mem_cons, exists_eq_or_imp]
theorem used_drop {t : Tab} {x : Str} {bd : Kd} {y : Str} : (∃ p ∈ t.drop x, FreeIn p.1 bd ∧ ∃ k, (t.drop x).lookup p.1 = some k ∧ FreeIn y k) ↔ Used t x bd y := by
  constructor
  · rintro ⟨p, _, h1, k, hk, h2⟩
    rw [drop_lookup] at hk
    split at hk
    · cases hk
    · rename_i hne
      exact ⟨p.1, k, h1, hne, hk, h2⟩
  · rintro ⟨z, k, h1, hne, hk, h2⟩
    have : (t.drop x).lookup z = some k := by rw [drop_lookup, if_neg hne]; exact hk
    exact ⟨(z, k), mem_of_lookup this, h1, k, this, h2⟩
theorem drop_len (t : Tab) (x : Str) : (t.drop x).length ≤ t.length := List.length_filter_le _ _
end
/-! F1 -/
section
/-! ## sorting data by its shown text -/
noncomputable def shLe (a b : PyData) : Bool := !strO.blt (cpsOf (.str b.shown)) (cpsOf (.str a.shown))
noncomputable def srtD (l : List PyData) : List PyData := l.mergeSort shLe
theorem srtD_perm (l : List PyData) : (srtD l).Perm l := List.mergeSort_perm l _
theorem shLe_anti {a b : PyData} (ha : plD a = true) (hb : plD b = true) (h1 : shLe a b = true) (h2 : shLe b a = true) : a = b := by
  ((try dsimp only [shLe] at h1 h2) <;> simp only [Bool.not_eq_true'] at h1 h2)
  exact shown_inj ha hb (str_of_list (strO.total _ _ h2 h1))
theorem srtD_pairwise (l : List PyData) : (srtD l).Pairwise (fun a b => shLe a b = true) :=
  have h := kle_pre (O := strO) fun x : PyData => cpsOf (.str x.shown)
  List.pairwise_mergeSort h.1 h.2 l
theorem srtD_unique {l ys : List PyData} (hp : ys.Perm l) (ho : ∀ k ∈ l, plD k = true) (hs : ys.Pairwise (fun a b => strO.kle (cpsOf (.str a.shown)) (cpsOf (.str b.shown)))) : ys = srtD l := by
  refine List.Perm.eq_of_pairwise (le := fun a b => shLe a b = true) ?_ ?_ (srtD_pairwise l) (hp.trans (srtD_perm l).symm)
  · intro a b ma mb h1 h2
    exact shLe_anti (ho a (hp.mem_iff.mp ma)) (ho b ((srtD_perm l).mem_iff.mp mb)) h1 h2
  · refine hs.imp fun {a b} h => ?_
    have h : strO.blt (cpsOf (.str b.shown)) (cpsOf (.str a.shown)) = false := h
    show (!strO.blt (cpsOf (.str b.shown)) (cpsOf (.str a.shown))) = true
    rw [h]; rfl
theorem srtD_perm_eq {l m : List PyData} (h : l.Perm m) (ho : ∀ k ∈ l, plD k = true) : srtD l = srtD m := by
  refine srtD_unique ((srtD_perm l).trans h) (fun k hk => ho k (h.mem_iff.mpr hk)) ((srtD_pairwise l).imp fun {a b} h => ?_)
  show strO.blt (cpsOf (.str b.shown)) (cpsOf (.str a.shown)) = false
  (dsimp only [shLe] at h ⊢ <;> simpa using h)
/-! ## forms -/
inductive Fo where
  | bnd (i : Nat)
  | fre (x : Str)
  | name (x : Str) (ps : List Fo)
  | tup (p : Fo)
  | tupv (p r : Fo)
  | uni (ps : List Fo)
  | all (lo up bd : Fo)
  | typeof (k : Fo)
  | bottom
  deriving Inhabited
mutual
noncomputable def Fo.dat : Fo → PyData
  | .bnd i => .tuple [.str (so "bound"), .int (i : Int)]
  | .fre x => .tuple [.str (so "free"), .str x]
  | .name x ps => .tuple [.str (so "name"), .str x, .tuple (Fo.dats ps)]
  | .tup p => .tuple [.str (so "tuple"), .tuple [p.dat], .none]
  | .tupv p r => .tuple [.str (so "tuple"), .tuple [p.dat], r.dat]
  | .uni ps => .tuple [.str (so "union"), .tuple (Fo.dats ps)]
  | .all lo up bd => .tuple [.str (so "all"), lo.dat, up.dat, bd.dat]
  | .typeof k => .tuple [.str (so "typeof"), k.dat]
  | .bottom => .tuple [.str (so "bottom")]
noncomputable def Fo.dats : List Fo → List PyData
  | [] => []
  | k :: ks => k.dat :: Fo.dats ks
end
theorem Fo.dats_eq : ∀ ks : List Fo, Fo.dats ks = ks.map Fo.dat
  | [] => rfl
  | k :: ks => congrArg (k.dat :: ·) (Fo.dats_eq ks)
theorem so_words : so "bound" ≠ so "free" ∧ so "bound" ≠ so "name" ∧ so "bound" ≠ so "tuple" ∧ so "bound" ≠ so "union" ∧ so "bound" ≠ so "all" ∧ so "bound" ≠ so "typeof" ∧ so "bound" ≠ so "bottom" ∧
    so "free" ≠ so "name" ∧ so "free" ≠ so "tuple" ∧ so "free" ≠ so "union" ∧ so "free" ≠ so "all" ∧ so "free" ≠ so "typeof" ∧ so "free" ≠ so "bottom" ∧
    so "name" ≠ so "tuple" ∧ so "name" ≠ so "union" ∧ so "name" ≠ so "all" ∧ so "name" ≠ so "typeof" ∧ so "name" ≠ so "bottom" ∧
    so "tuple" ≠ so "union" ∧ so "tuple" ≠ so "all" ∧ so "tuple" ≠ so "typeof" ∧ so "tuple" ≠ so "bottom" ∧
    so "union" ≠ so "all" ∧ so "union" ≠ so "typeof" ∧ so "union" ≠ so "bottom" ∧ so "all" ≠ so "typeof" ∧ so "all" ≠ so "bottom" ∧ so "typeof" ≠ so "bottom" := by decide +kernel
/-- the word a form opens with -/
noncomputable def Fo.word : Fo → Nat
  | .bnd _ => 0
  | .fre _ => 1
  | .name .. => 2
  | .tup _ => 3
  | .tupv .. => 3
  | .uni _ => 4
  | .all .. => 5
  | .typeof _ => 6
  | .bottom => 7
noncomputable def wordAt : Nat → Str
  | 0 => so "bound"
  | 1 => so "free"
  | 2 => so "name"
  | 3 => so "tuple"
  | 4 => so "union"
  | 5 => so "all"
  | 6 => so "typeof"
  | _ => so "bottom"
theorem wordAt_inj : ∀ i, i < 8 → ∀ j, j < 8 → wordAt i = wordAt j → i = j := by decide +kernel
theorem Fo.word_lt (f : Fo) : f.word < 8 := by cases f <;> ((try dsimp only [Fo.word]) <;> simp)
theorem Fo.dat_word (f : Fo) : ∃ r, f.dat = .tuple (.str (wordAt f.word) :: r) := by cases f <;> exact ⟨_, rfl⟩
theorem Fo.word_of {f g : Fo} (h : f.dat = g.dat) : f.word = g.word := by
  obtain ⟨r, hr⟩ := f.dat_word
  obtain ⟨s, hs⟩ := g.dat_word
  rw [hr, hs] at h
  simp only [PyData.tuple.injEq, List.cons.injEq, PyData.str.injEq] at h
  exact wordAt_inj _ f.word_lt _ g.word_lt h.1
theorem Fo.dat_not_none (f : Fo) : f.dat ≠ .none := by
  obtain ⟨r, hr⟩ := f.dat_word
  rw [hr]; simp
theorem Fo.w0 {k : Fo} (h : k.word = 0) : ∃ x, k = .bnd x := by
  cases k with
  | bnd x => exact ⟨x, rfl⟩
  | _ => exact absurd h (Nat.ne_of_beq_eq_false rfl)
theorem Fo.w1 {k : Fo} (h : k.word = 1) : ∃ x, k = .fre x := by
  cases k with
  | fre x => exact ⟨x, rfl⟩
  | _ => exact absurd h (Nat.ne_of_beq_eq_false rfl)
theorem Fo.w2 {k : Fo} (h : k.word = 2) : ∃ x ps, k = .name x ps := by
  cases k with
  | name x ps => exact ⟨x, ps, rfl⟩
  | _ => exact absurd h (Nat.ne_of_beq_eq_false rfl)
theorem Fo.w4 {k : Fo} (h : k.word = 4) : ∃ ps, k = .uni ps := by
  cases k with
  | uni ps => exact ⟨ps, rfl⟩
  | _ => exact absurd h (Nat.ne_of_beq_eq_false rfl)
theorem Fo.w5 {k : Fo} (h : k.word = 5) : ∃ a b d, k = .all a b d := by
  cases k with
  | all a b d => exact ⟨a, b, d, rfl⟩
  | _ => exact absurd h (Nat.ne_of_beq_eq_false rfl)
theorem Fo.w6 {k : Fo} (h : k.word = 6) : ∃ p, k = .typeof p := by
  cases k with
  | typeof p => exact ⟨p, rfl⟩
  | _ => exact absurd h (Nat.ne_of_beq_eq_false rfl)
theorem Fo.w3 {k : Fo} (h : k.word = 3) : (∃ p, k = .tup p) ∨ ∃ p r, k = .tupv p r := by
  cases k with
  | tup p => exact .inl ⟨p, rfl⟩
  | tupv p r => exact .inr ⟨p, r, rfl⟩
  | _ => exact absurd h (Nat.ne_of_beq_eq_false rfl)
theorem Fo.w7 {k : Fo} (h : k.word = 7) : k = .bottom := by
  cases k with
  | bottom => rfl
  | _ => exact absurd h (Nat.ne_of_beq_eq_false rfl)
mutual
theorem Fo.dat_inj : ∀ f g : Fo, f.dat = g.dat → f = g
  | .bnd i, g, h => by
    obtain ⟨j, rfl⟩ := Fo.w0 (Fo.word_of h).symm
    ((try dsimp only [Fo.dat] at h) <;> simp only [PyData.tuple.injEq, List.cons.injEq, PyData.int.injEq] at h)
    rw [Int.ofNat.inj h.2.1]
  | .fre x, g, h => by
    obtain ⟨y, rfl⟩ := Fo.w1 (Fo.word_of h).symm
    ((try dsimp only [Fo.dat] at h) <;> simp only [PyData.tuple.injEq, List.cons.injEq, PyData.str.injEq] at h)
    rw [h.2.1]
  | .name x ps, g, h => by
    obtain ⟨y, qs, rfl⟩ := Fo.w2 (Fo.word_of h).symm
    ((try dsimp only [Fo.dat] at h) <;> simp only [PyData.tuple.injEq, List.cons.injEq, PyData.str.injEq] at h)
    rw [h.2.1, Fo.dats_inj ps qs h.2.2.1]
  | .tup p, g, h => by
    rcases Fo.w3 (Fo.word_of h).symm with ⟨q, rfl⟩ | ⟨q, s, rfl⟩
    · ((try dsimp only [Fo.dat] at h) <;> simp only [PyData.tuple.injEq, List.cons.injEq] at h)
      rw [Fo.dat_inj p q h.2.1.1]
    · ((try dsimp only [Fo.dat] at h) <;> simp only [PyData.tuple.injEq, List.cons.injEq] at h)
      exact absurd h.2.2.1.symm s.dat_not_none
  | .tupv p r, g, h => by
    rcases Fo.w3 (Fo.word_of h).symm with ⟨q, rfl⟩ | ⟨q, s, rfl⟩
    · ((try dsimp only [Fo.dat] at h) <;> simp only [PyData.tuple.injEq, List.cons.injEq] at h)
      exact absurd h.2.2.1 r.dat_not_none
    · ((try dsimp only [Fo.dat] at h) <;> simp only [PyData.tuple.injEq, List.cons.injEq] at h)
      rw [Fo.dat_inj p q h.2.1.1, Fo.dat_inj r s h.2.2.1]
  | .uni ps, g, h => by
    obtain ⟨qs, rfl⟩ := Fo.w4 (Fo.word_of h).symm
    ((try dsimp only [Fo.dat] at h) <;> simp only [PyData.tuple.injEq, List.cons.injEq] at h)
    rw [Fo.dats_inj ps qs h.2.1]
  | .all a b c, g, h => by
    obtain ⟨a', b', c', rfl⟩ := Fo.w5 (Fo.word_of h).symm
    ((try dsimp only [Fo.dat] at h) <;> simp only [PyData.tuple.injEq, List.cons.injEq] at h)
    rw [Fo.dat_inj a a' h.2.1, Fo.dat_inj b b' h.2.2.1, Fo.dat_inj c c' h.2.2.2.1]
  | .typeof p, g, h => by
    obtain ⟨q, rfl⟩ := Fo.w6 (Fo.word_of h).symm
    ((try dsimp only [Fo.dat] at h) <;> simp only [PyData.tuple.injEq, List.cons.injEq] at h)
    rw [Fo.dat_inj p q h.2.1]
  | .bottom, g, h => (Fo.w7 (Fo.word_of h).symm).symm
theorem Fo.dats_inj : ∀ fs gs : List Fo, Fo.dats fs = Fo.dats gs → fs = gs
  | [], [], _ => rfl
  | [], g :: gs, h => by ((try dsimp only [Fo.dats] at h) <;> simp at h)
  | f :: fs, [], h => by ((try dsimp only [Fo.dats] at h) <;> simp at h)
  | f :: fs, g :: gs, h => by
    ((try dsimp only [Fo.dats] at h) <;> simp only [List.cons.injEq] at h)
    rw [Fo.dat_inj f g h.1, Fo.dats_inj fs gs h.2]
end
mutual
noncomputable def Fo.ok : Fo → Bool
  | .bnd _ => true
  | .fre x => nmOk x
  | .name x ps => nmOk x && Fo.oks ps
  | .tup p => p.ok
  | .tupv p r => p.ok && r.ok
  | .uni ps => Fo.oks ps
  | .all lo up bd => lo.ok && up.ok && bd.ok
  | .typeof k => k.ok
  | .bottom => true
noncomputable def Fo.oks : List Fo → Bool
  | [] => true
  | k :: ks => k.ok && Fo.oks ks
end
theorem Fo.oks_mem : ∀ {ks : List Fo} {k : Fo}, k ∈ ks → Fo.oks ks = true → k.ok = true
  | q :: ks, k, m, h => by
    ((try dsimp only [Fo.oks] at h) <;> simp only [Bool.and_eq_true] at h)
    rcases List.mem_cons.mp m with rfl | m
    · exact h.1
    · exact Fo.oks_mem m h.2
theorem Fo.oks_of : ∀ {ks : List Fo}, (∀ k ∈ ks, k.ok = true) → Fo.oks ks = true
  | [], _ => rfl
  | k :: ks, h => an (h k (by simp)) (Fo.oks_of fun q m => h q (List.mem_cons_of_mem _ m))
theorem plW : plS (so "bound") = true ∧ plS (so "free") = true ∧ plS (so "name") = true ∧ plS (so "tuple") = true ∧ plS (so "union") = true ∧ plS (so "all") = true ∧ plS (so "typeof") = true ∧ plS (so "bottom") = true ∧ plS (so "var") = true := by decide +kernel
mutual
theorem Fo.plD : ∀ f : Fo, f.ok = true → Mine.plD f.dat = true
  | .bnd i, _ => an (decide_eq_true (Int.natCast_nonneg i)) rfl
  | .fre x, h => an (nmOk_pl h) rfl
  | .name x ps, h => by have h := Bool.and_eq_true_iff.mp h; exact an (nmOk_pl h.1) (an (Fo.plDs ps h.2) rfl)
  | .tup p, h => an (an (Fo.plD p h) rfl) rfl
  | .tupv p r, h => by have h := Bool.and_eq_true_iff.mp h; exact an (an (Fo.plD p h.1) rfl) (an (Fo.plD r h.2) rfl)
  | .uni ps, h => an (Fo.plDs ps h) rfl
  | .all a b c, h => by have h := Bool.and_eq_true_iff.mp h; have k := Bool.and_eq_true_iff.mp h.1; exact an (Fo.plD a k.1) (an (Fo.plD b k.2) (an (Fo.plD c h.2) rfl))
  | .typeof p, h => an (Fo.plD p h) rfl
  | .bottom, _ => by decide +kernel
theorem Fo.plDs : ∀ fs : List Fo, Fo.oks fs = true → Mine.plD.plDs (Fo.dats fs) = true
  | [], _ => rfl
  | f :: fs, h => by have h := Bool.and_eq_true_iff.mp h; exact an (Fo.plD f h.1) (Fo.plDs fs h.2)
end
/-! ### sets of forms -/
noncomputable def foLe (a b : Fo) : Bool := shLe a.dat b.dat
noncomputable def srtF (l : List Fo) : List Fo := l.mergeSort foLe
theorem srtF_perm (l : List Fo) : (srtF l).Perm l := List.mergeSort_perm l _
theorem foLe_anti {a b : Fo} (ha : a.ok = true) (hb : b.ok = true) (h1 : foLe a b = true) (h2 : foLe b a = true) : a = b :=
  Fo.dat_inj _ _ (shLe_anti (Fo.plD a ha) (Fo.plD b hb) h1 h2)
theorem srtF_pairwise (l : List Fo) : (srtF l).Pairwise (fun a b => foLe a b = true) :=
  have h := kle_pre (O := strO) fun x : Fo => cpsOf (.str x.dat.shown)
  List.pairwise_mergeSort h.1 h.2 l
theorem srtF_unique {l ys : List Fo} (hp : ys.Perm l) (ho : ∀ k ∈ l, k.ok = true) (hs : ys.Pairwise (fun a b => strO.kle (cpsOf (.str a.dat.shown)) (cpsOf (.str b.dat.shown)))) : ys = srtF l := by
  refine List.Perm.eq_of_pairwise (le := fun a b => foLe a b = true) ?_ ?_ (srtF_pairwise l) (hp.trans (srtF_perm l).symm)
  · intro a b ma mb h1 h2
    exact foLe_anti (ho a (hp.mem_iff.mp ma)) (ho b ((srtF_perm l).mem_iff.mp mb)) h1 h2
  · refine hs.imp fun {a b} h => ?_
    have h : strO.blt (cpsOf (.str b.dat.shown)) (cpsOf (.str a.dat.shown)) = false := h
    show (!strO.blt (cpsOf (.str b.dat.shown)) (cpsOf (.str a.dat.shown))) = true
    rw [h]; rfl
theorem srtF_perm_eq {l m : List Fo} (h : l.Perm m) (ho : ∀ k ∈ l, k.ok = true) : srtF l = srtF m := by
  refine srtF_unique ((srtF_perm l).trans h) (fun k hk => ho k (h.mem_iff.mpr hk)) ((srtF_pairwise l).imp fun {a b} h => ?_)
  show strO.blt (cpsOf (.str b.dat.shown)) (cpsOf (.str a.dat.shown)) = false
  (dsimp only [foLe, shLe] at h ⊢ <;> simpa using h)
open Classical in
/-- what a form brings into a union -/
noncomputable def flF (f : Fo) : List Fo := (match f with
  | .uni ps => ps
  | f => [f]).filter fun g => decide (g ≠ Fo.bottom)
open Classical in
noncomputable def addF (acc : List Fo) (k : Fo) : List Fo := if k ∈ acc then acc else acc ++ [k]
noncomputable def ddF (acc l : List Fo) : List Fo := l.foldl addF acc
theorem addF_mem {acc : List Fo} {k q : Fo} : q ∈ addF acc k ↔ q ∈ acc ∨ q = k := by
  unfold addF
  split
  · rename_i h
    exact ⟨.inl, fun h' => h'.elim id fun e => e ▸ h⟩
  · simp
theorem ddF_mem {q : Fo} : ∀ {l acc : List Fo}, q ∈ ddF acc l ↔ q ∈ acc ∨ q ∈ l
  | [], acc => by ((try dsimp only [ddF]) <;> simp)
  | k :: l, acc => by
    show q ∈ ddF (addF acc k) l ↔ _
    rw [ddF_mem, addF_mem]; simp [or_assoc]
theorem addF_nodup {acc : List Fo} (h : acc.Nodup) (k : Fo) : (addF acc k).Nodup := by
  unfold addF
  split
  · exact h
  · rename_i hk
    exact List.nodup_append.mpr ⟨h, by simp, fun x hx y hy => by simp at hy; subst hy; exact fun e => hk (e ▸ hx)⟩
theorem ddF_nodup : ∀ {l acc : List Fo}, acc.Nodup → (ddF acc l).Nodup
  | [], _, h => h
  | k :: l, _, h => ddF_nodup (l := l) (addF_nodup h k)
noncomputable def anyF : Fo := .name (so "Any") []
open Classical in
noncomputable def jnF (some : List Fo) : Fo := if anyF ∈ some then anyF else match some with
  | [k] => k
  | l => .uni (srtF l)
noncomputable def joined (fs : List Fo) : Fo := jnF (ddF [] (fs.flatMap flF))
theorem perm_of_nodup {α : Type} : ∀ {l m : List α}, l.Nodup → m.Nodup → (∀ x, x ∈ l ↔ x ∈ m) → l.Perm m
  | [], m, _, _, h => by
    cases m with
    | nil => exact .refl _
    | cons y m => exact absurd ((h y).mpr (by simp)) (by simp)
  | x :: l, m, hl, hm, h => by
    have hx : x ∈ m := (h x).mp (by simp)
    obtain ⟨m1, m2, rfl⟩ := List.append_of_mem hx
    have hp : (m1 ++ x :: m2).Perm (x :: (m1 ++ m2)) := List.perm_middle
    have hm' := hp.nodup_iff.mp hm
    refine ((perm_of_nodup (List.nodup_cons.mp hl).2 (List.nodup_cons.mp hm').2 fun y => ?_).cons x).trans hp.symm
    have hy := h y
    rw [hp.mem_iff] at hy
    simp only [List.mem_cons] at hy
    constructor
    · intro m
      rcases hy.mp (.inr m) with rfl | h'
      · exact absurd m (List.nodup_cons.mp hl).1
      · exact h'
    · intro m
      rcases hy.mpr (.inr m) with rfl | h'
      · exact absurd m (List.nodup_cons.mp hm').1
      · exact h'
theorem jnF_set {l m : List Fo} (hl : l.Nodup) (hm : m.Nodup) (h : ∀ x, x ∈ l ↔ x ∈ m) (ho : ∀ k ∈ l, k.ok = true) : jnF l = jnF m := by
  have hp := perm_of_nodup hl hm h
  unfold jnF
  by_cases ha : anyF ∈ l
  · rw [if_pos ha, if_pos ((h _).mp ha)]
  · rw [if_neg ha, if_neg fun q => ha ((h _).mpr q)]
    match l, m, hp with
    | [], m, hp => rw [List.nil_perm.mp hp]
    | [k], m, hp => rw [List.singleton_perm.mp hp]
    | k1 :: k2 :: l, [], hp => exact absurd hp.length_eq (by simp)
    | k1 :: k2 :: l, [k], hp => exact absurd hp.length_eq (by simp)
    | k1 :: k2 :: l, q1 :: q2 :: m, hp =>
      show Fo.uni (srtF (k1 :: k2 :: l)) = Fo.uni (srtF (q1 :: q2 :: m))
      rw [srtF_perm_eq hp ho]
theorem joined_set {fs gs : List Fo} (h : ∀ x, x ∈ fs.flatMap flF ↔ x ∈ gs.flatMap flF) (ho : ∀ k ∈ fs.flatMap flF, k.ok = true) : joined fs = joined gs := by
  unfold joined
  refine jnF_set (ddF_nodup (by simp)) (ddF_nodup (by simp)) (fun x => ?_) fun k hk => ho k ?_
  · rw [ddF_mem, ddF_mem]; simpa using h x
  · rw [ddF_mem] at hk; simpa using hk
end
/-! F2 -/
section
/-! ## what a kind tells -/
inductive Bv where
  | b (i : Nat)
  | c (f : Fo)
noncomputable def Bv.fo : Bv → Fo
  | .b i => .bnd i
  | .c f => f
noncomputable def Bv.sft : Bv → Bv
  | .b i => .b (i + 1)
  | .c f => .c f
noncomputable def upE (ρ : Str → Bv) (x : Str) : Str → Bv := fun z => if z = x then .b 0 else (ρ z).sft
mutual
noncomputable def Fk : Kd → (Str → Bv) → Fo
  | .var x, ρ => (ρ x).fo
  | .name x ps, ρ => .name x (Fks ps ρ)
  | .tup p, ρ => .tup (Fk p ρ)
  | .tupv p r, ρ => .tupv (Fk p ρ) (Fk r ρ)
  | .uni ps, ρ => joined (Fks ps ρ)
  | .all x lo up bd, ρ => .all (Fk lo ρ) (Fk up ρ) (Fk bd (upE ρ x))
  | .typeof k, ρ => .typeof (Fk k ρ)
  | .bottom, _ => .bottom
noncomputable def Fks : List Kd → (Str → Bv) → List Fo
  | [], _ => []
  | k :: ks, ρ => Fk k ρ :: Fks ks ρ
end
theorem Fks_eq (ρ : Str → Bv) : ∀ ks : List Kd, Fks ks ρ = ks.map fun k => Fk k ρ
  | [] => rfl
  | k :: ks => congrArg (Fk k ρ :: ·) (Fks_eq ρ ks)
mutual
theorem Fk_agree : ∀ (k : Kd) {ρ σ : Str → Bv}, (∀ x, FreeIn x k → ρ x = σ x) → Fk k ρ = Fk k σ
  | .var x, ρ, σ, h => by dsimp only [Fk]; rw [h x rfl]
  | .name x ps, ρ, σ, h => by dsimp only [Fk]; rw [Fks_agree ps h]
  | .tup p, ρ, σ, h => by dsimp only [Fk]; rw [Fk_agree p h]
  | .tupv p r, ρ, σ, h => by dsimp only [Fk]; rw [Fk_agree p fun x hx => h x (.inl hx), Fk_agree r fun x hx => h x (.inr hx)]
  | .uni ps, ρ, σ, h => by dsimp only [Fk]; rw [Fks_agree ps h]
  | .all x lo up bd, ρ, σ, h => by
    dsimp only [Fk]
    rw [Fk_agree lo fun x hx => h x (.inl hx), Fk_agree up fun x hx => h x (.inr (.inl hx)), Fk_agree bd (σ := upE σ x) fun y hy => ?_]
    unfold upE
    by_cases e : y = x
    · simp [e]
    · rw [if_neg e, if_neg e, h y (.inr (.inr ⟨hy, e⟩))]
  | .typeof k, ρ, σ, h => by dsimp only [Fk]; rw [Fk_agree k h]
  | .bottom, _, _, _ => rfl
theorem Fks_agree : ∀ (ks : List Kd) {ρ σ : Str → Bv}, (∀ x, FreesIn x ks → ρ x = σ x) → Fks ks ρ = Fks ks σ
  | [], _, _, _ => rfl
  | k :: ks, ρ, σ, h => by dsimp only [Fks]; rw [Fk_agree k fun x hx => h x (.inl hx), Fks_agree ks fun x hx => h x (.inr hx)]
end
/-! ### kinds in their own order -/
mutual
noncomputable def Can : Kd → Prop
  | .var _ => True
  | .name _ ps => Cans ps
  | .tup p => Can p
  | .tupv p r => Can p ∧ Can r
  | .uni ps => Cans ps ∧ ps.Nodup ∧ (∀ p ∈ ps, isUni p = false ∧ p ≠ anyK) ∧ 2 ≤ ps.length ∧ srtK ps = ps
  | .all _ lo up bd => (lo = .bottom ∨ Can lo) ∧ Can up ∧ Can bd
  | .typeof k => Can k
  | .bottom => False
noncomputable def Cans : List Kd → Prop
  | [] => True
  | k :: ks => Can k ∧ Cans ks
end
theorem cans_iff : ∀ {ks : List Kd}, Cans ks ↔ ∀ k ∈ ks, Can k
  | [] => by ((try dsimp only [Cans]) <;> simp)
  | k :: ks => by ((try dsimp only [Cans]) <;> simp [cans_iff (ks := ks)])
theorem can_nb {k : Kd} (h : Can k) : k ≠ .bottom := by rintro rfl; exact h
theorem flats_self : ∀ {ps : List Kd}, (∀ p ∈ ps, isUni p = false ∧ p ≠ .bottom) → flats ps = ps
  | [], _ => rfl
  | p :: ps, h => by
    dsimp only [flats]; rw [flat_other (h p (by simp)).1 (h p (by simp)).2, flats_self fun q hq => h q (List.mem_cons_of_mem _ hq)]; rfl
theorem flat_uni {ps : List Kd} (h : Can (.uni ps)) : flat (.uni ps) = ps := by
  obtain ⟨h1, _, h3, _⟩ := h
  show flats ps = ps
  exact flats_self fun p hp => ⟨(h3 p hp).1, can_nb (cans_iff.mp h1 p hp)⟩
theorem flat_can {k : Kd} (h : Can k) : flat k ≠ [] ∧ ∀ q ∈ flat k, Can q ∧ isUni q = false := by
  by_cases hu : isUni k = true
  · cases k with
    | uni ps =>
      rw [flat_uni h]
      obtain ⟨h1, _, h3, h4, _⟩ := h
      refine ⟨fun e => by rw [e] at h4; simp at h4, fun q hq => ⟨cans_iff.mp h1 q hq, (h3 q hq).1⟩⟩
    | _ => ((try dsimp only [isUni] at hu) <;> simp at hu)
  · rw [flat_other (by simpa using hu) (can_nb h)]
    refine ⟨by simp, fun q hq => ?_⟩
    simp at hq; subst hq
    exact ⟨h, by simpa using hu⟩
theorem flats_mem {ks : List Kd} {q : Kd} : q ∈ flats ks ↔ ∃ k ∈ ks, q ∈ flat k := by
  induction ks with
  | nil => ((try dsimp only [flats]) <;> simp)
  | cons k ks ih => ((try dsimp only [flats]) <;> simp [ih])
theorem flats_can {ks : List Kd} (h : Cans ks) : ∀ q ∈ flats ks, Can q ∧ isUni q = false := fun q hq => by
  obtain ⟨k, hk, hq⟩ := flats_mem.mp hq
  exact (flat_can (cans_iff.mp h k hk)).2 q hq
theorem flats_ne {ks : List Kd} (h : Cans ks) (hn : ks ≠ []) : flats ks ≠ [] := by
  cases ks with
  | nil => exact absurd rfl hn
  | cons k ks =>
    dsimp only [flats]
    intro e
    exact (flat_can (cans_iff.mp h k (by simp))).1 (List.append_eq_nil_iff.mp e).1
set_option tactic.hygienic true in
/-- the shapes of a union -/
theorem unionOf_cases {ks : List Kd} (h : Cans ks) (hn : ks ≠ []) (P : Kd → Prop)
    (h1 : anyK ∈ dd [] (flats ks) → P anyK) (h2 : ∀ k, dd [] (flats ks) = [k] → k ≠ anyK → P k)
    (h3 : anyK ∉ dd [] (flats ks) → 2 ≤ (dd [] (flats ks)).length → P (.uni (srtK (dd [] (flats ks))))) : P (unionOf ks) := by
  unfold unionOf unionF
  split
  · rename_i ha; exact h1 ha
  · rename_i ha
    split
    · rename_i e
      obtain ⟨q, hq⟩ := List.exists_mem_of_ne_nil _ (flats_ne h hn)
      have : q ∈ dd [] (flats ks) := by rw [dd_mem]; exact .inr hq
      rw [e] at this; cases this
    · rename_i k e
      exact h2 k e fun ek => ha (by rw [e, ek]; simp)
    · rename_i hne1 hne2
      refine h3 ha ?_
      match e : dd [] (flats ks) with
      | [] => exact absurd e hne1
      | [k] => exact absurd e (hne2 k)
      | _ :: _ :: _ => simp
theorem anyK_can : Can anyK := by ((try dsimp only [anyK, Can, Cans]) <;> simp)
theorem unionOf_can {ks : List Kd} (h : Cans ks) (hn : ks ≠ []) : Can (unionOf ks) := by
  have hm : ∀ q ∈ dd [] (flats ks), Can q ∧ isUni q = false := fun q hq => flats_can h q (by simpa [dd_mem] using hq)
  refine unionOf_cases h hn Can (fun ζ => anyK_can) (fun k e ζ => (hm k (by rw [e]; simp)).1) fun ha hl => ?_
  have hp := srtK_perm (dd [] (flats ks))
  refine ⟨cans_iff.mpr fun k hk => (hm k (hp.mem_iff.mp hk)).1, hp.nodup_iff.mpr (dd_nodup (by simp)), fun p hp' => ⟨(hm p (hp.mem_iff.mp hp')).2, fun e => ha (e ▸ hp.mem_iff.mp hp')⟩, ?_, srtK_idem _⟩
  rw [hp.length_eq]; exact hl
/-! ### the union's form -/
noncomputable def Smp (ρ : Str → Bv) : Prop := ∀ z, (∃ i, ρ z = .b i) ∨ ρ z = .c (.fre z)
theorem Smp.up {ρ : Str → Bv} (h : Smp ρ) (x : Str) : Smp (upE ρ x) := fun z => by
  unfold upE
  split
  · exact .inl ⟨0, rfl⟩
  · rcases h z with ⟨i, e⟩ | e
    · exact .inl ⟨i + 1, by rw [e]; rfl⟩
    · exact .inr (by rw [e]; rfl)
theorem joined_ok {fs : List Fo} (h : ∀ f ∈ fs, f.ok = true) : (joined fs).ok = true := by
  have h1 : ∀ g ∈ ddF [] (fs.flatMap flF), g.ok = true := fun g hg => by
    rw [ddF_mem] at hg
    obtain ⟨f, hf, hg⟩ := List.mem_flatMap.mp (by simpa using hg)
    have := h f hf
    unfold flF at hg
    have hg := (List.mem_filter.mp hg).1
    split at hg
    · dsimp only [Fo.ok] at this; exact Fo.oks_mem hg this
    · simp at hg; subst hg; exact this
  unfold joined jnF
  split
  · decide +kernel
  · split
    · rename_i k e; exact h1 k (by rw [e]; simp)
    · dsimp only [Fo.ok]; exact Fo.oks_of fun g hg => h1 g ((srtF_perm _).mem_iff.mp hg)
mutual
theorem Fk_ok : ∀ (k : Kd) {ρ : Str → Bv}, k.ok = true → (∀ x, FreeIn x k → (ρ x).fo.ok = true) → (Fk k ρ).ok = true
  | .var x, ρ, _, h => h x rfl
  | .name x ps, ρ, hk, h => by have hk := Bool.and_eq_true_iff.mp hk; exact an hk.1 (Fks_ok ps hk.2 h)
  | .tup p, ρ, hk, h => Fk_ok p hk h
  | .tupv p r, ρ, hk, h => by
    ((try dsimp only [Kd.ok] at hk) <;> simp only [Bool.and_eq_true] at hk)
    exact an (Fk_ok p hk.1 fun x hx => h x (.inl hx)) (Fk_ok r hk.2 fun x hx => h x (.inr hx))
  | .uni ps, ρ, hk, h => by dsimp only [Kd.ok] at hk; dsimp only [Fk]; exact joined_ok fun f hf => Fo.oks_mem hf (Fks_ok ps hk h)
  | .all x lo up bd, ρ, hk, h => by
    ((try dsimp only [Kd.ok] at hk) <;> simp only [Bool.and_eq_true] at hk)
    have := Fk_ok bd (ρ := upE ρ x) hk.2 fun y hy => by
      unfold upE
      by_cases e : y = x
      · rw [if_pos e]; dsimp only [Bv.fo, Fo.ok]
      · rw [if_neg e]
        have := h y (.inr (.inr ⟨hy, e⟩))
        cases q : ρ y with
        | b i => rfl
        | c f => rw [q] at this; exact this
    exact an (an (Fk_ok lo hk.1.1.2 fun x hx => h x (.inl hx)) (Fk_ok up hk.1.2 fun x hx => h x (.inr (.inl hx)))) this
  | .typeof k, ρ, hk, h => Fk_ok k hk h
  | .bottom, _, _, _ => rfl
theorem Fks_ok : ∀ (ks : List Kd) {ρ : Str → Bv}, Kd.oks ks = true → (∀ x, FreesIn x ks → (ρ x).fo.ok = true) → Fo.oks (Fks ks ρ) = true
  | [], _, _, _ => rfl
  | k :: ks, ρ, hk, h => by
    ((try dsimp only [Kd.oks] at hk) <;> simp only [Bool.and_eq_true] at hk)
    ((try dsimp only [Fks, Fo.oks]) <;> simp [Fk_ok k hk.1 fun x hx => h x (.inl hx), Fks_ok ks hk.2 fun x hx => h x (.inr hx)])
end
theorem Fk_ok_smp {k : Kd} {ρ : Str → Bv} (hk : k.ok = true) (h : Smp ρ) : (Fk k ρ).ok = true := Fk_ok k hk fun x hx => by
  rcases h x with ⟨i, e⟩ | e
  · rw [e]; rfl
  · rw [e]; exact free_ok k hx hk
theorem Fk_head {d : Kd} {ρ : Str → Bv} (hc : Can d) (hu : isUni d = false) (h : Smp ρ) : flF (Fk d ρ) = [Fk d ρ] ∧ (Fk d ρ = anyF ↔ d = anyK) := by
  cases d with
  | var x =>
    dsimp only [Fk]
    rcases h x with ⟨i, e⟩ | e
    · rw [e]; ((try dsimp only [Bv.fo, flF, anyF, anyK]) <;> simp)
    · rw [e]; ((try dsimp only [Bv.fo, flF, anyF, anyK]) <;> simp)
  | name x ps =>
    refine ⟨by ((try dsimp only [Fk, flF]) <;> simp), ?_⟩
    ((try dsimp only [Fk, anyF, anyK]) <;> simp only [Fo.name.injEq, Kd.name.injEq])
    cases ps <;> ((try dsimp only [Fks]) <;> simp)
  | tup p => ((try dsimp only [Fk, flF, anyF, anyK]) <;> simp)
  | tupv p r => ((try dsimp only [Fk, flF, anyF, anyK]) <;> simp)
  | uni ps => ((try dsimp only [isUni] at hu) <;> simp at hu)
  | all x lo up bd => ((try dsimp only [Fk, flF, anyF, anyK]) <;> simp)
  | typeof k => ((try dsimp only [Fk, flF, anyF, anyK]) <;> simp)
  | bottom => exact hc.elim
set_option tactic.hygienic true in
/-- what a joined list brings into a union -/
theorem flF_joined {gs : List Fo} (h : ∀ g ∈ gs, flF g = [g] ∧ g ≠ anyF) (x : Fo) : x ∈ flF (joined gs) ↔ x ∈ gs := by
  have hb : ∀ g ∈ gs, g ≠ .bottom := fun g hg e => by
    have := (h g hg).1
    rw [e] at this
    ((try dsimp only [flF] at this) <;> simp at this)
  have hf : gs.flatMap flF = gs := by
    clear hb
    induction gs with
    | nil => rfl
    | cons g gs ih => rw [List.flatMap_cons, (h g (by simp)).1, ih fun q hq => h q (List.mem_cons_of_mem _ hq)]; rfl
  have hm : ∀ x, x ∈ ddF [] gs ↔ x ∈ gs := fun x => by rw [ddF_mem]; simp
  unfold joined jnF
  rw [hf, if_neg fun q => (h _ ((hm _).mp q)).2 rfl]
  split
  · rename_i k e
    have hk : k ∈ gs := (hm k).mp (by rw [e]; simp)
    rw [(h k hk).1, ← hm x, e]
  · unfold flF
    rw [List.mem_filter]
    show x ∈ srtF _ ∧ _ ↔ _
    rw [(srtF_perm _).mem_iff, hm]
    constructor
    · exact fun q => q.1
    · exact fun q => ⟨q, by simpa using hb x q⟩
theorem flF_kind {q : Kd} {ρ : Str → Bv} (hc : Can q) (h : Smp ρ) (x : Fo) : x ∈ flF (Fk q ρ) ↔ ∃ d ∈ flat q, x = Fk d ρ := by
  by_cases hu : isUni q = true
  · cases q with
    | uni ps =>
      rw [flat_uni hc]
      obtain ⟨h1, _, h3, _⟩ := hc
      dsimp only [Fk]
      rw [flF_joined, Fks_eq]
      · simp [eq_comm]
      · intro g hg
        rw [Fks_eq] at hg
        obtain ⟨p, hp, rfl⟩ := List.mem_map.mp hg
        have := Fk_head (cans_iff.mp h1 p hp) (h3 p hp).1 h
        exact ⟨this.1, fun e => (h3 p hp).2 (this.2.mp e)⟩
    | _ => ((try dsimp only [isUni] at hu) <;> simp at hu)
  · have hu : isUni q = false := by simpa using hu
    rw [flat_other hu (can_nb hc), (Fk_head hc hu h).1]
    simp
theorem flF_kinds {qs : List Kd} {ρ : Str → Bv} (hc : Cans qs) (h : Smp ρ) (x : Fo) : x ∈ (Fks qs ρ).flatMap flF ↔ ∃ d ∈ flats qs, x = Fk d ρ := by
  rw [List.mem_flatMap, Fks_eq]
  constructor
  · rintro ⟨f, hf, hx⟩
    obtain ⟨q, hq, rfl⟩ := List.mem_map.mp hf
    obtain ⟨d, hd, e⟩ := (flF_kind (cans_iff.mp hc q hq) h x).mp hx
    exact ⟨d, flats_mem.mpr ⟨q, hq, hd⟩, e⟩
  · rintro ⟨d, hd, e⟩
    obtain ⟨q, hq, hd⟩ := flats_mem.mp hd
    exact ⟨_, List.mem_map.mpr ⟨q, hq, rfl⟩, (flF_kind (cans_iff.mp hc q hq) h x).mpr ⟨d, hd, e⟩⟩
theorem Fk_union {qs : List Kd} {ρ : Str → Bv} (hc : Cans qs) (hn : qs ≠ []) (ho : Kd.oks qs = true) (h : Smp ρ) : Fk (unionOf qs) ρ = joined (Fks qs ρ) := by
  have hd : ∀ q, q ∈ dd [] (flats qs) ↔ q ∈ flats qs := fun q => by rw [dd_mem]; simp
  have hS := flF_kinds hc h
  have hm : ∀ x, x ∈ ddF [] ((Fks qs ρ).flatMap flF) ↔ ∃ d ∈ dd [] (flats qs), x = Fk d ρ := fun x => by
    rw [ddF_mem]
    simp only [List.not_mem_nil, false_or, hS, hd]
  have hcd : ∀ d ∈ dd [] (flats qs), Can d ∧ isUni d = false := fun d q => flats_can hc d ((hd d).mp q)
  refine unionOf_cases hc hn (fun k => Fk k ρ = joined (Fks qs ρ)) (fun ha => ?_) (fun k e hk => ?_) fun ha hl => ?_
  · have : Fk anyK ρ = anyF := rfl
    rw [this]
    unfold joined jnF
    rw [if_pos ((hm _).mpr ⟨anyK, ha, this.symm⟩)]
  · have hs : ∀ x, x ∈ ddF [] ((Fks qs ρ).flatMap flF) ↔ x ∈ [Fk k ρ] := fun x => by rw [hm, e]; simp
    have hkc := hcd k (by rw [e]; simp)
    have hp := perm_of_nodup (ddF_nodup (by simp)) (by simp) hs
    have hp' := List.perm_singleton.mp hp
    unfold joined jnF
    rw [hp', if_neg]
    simp only [List.mem_singleton]
    exact fun q => hk ((Fk_head hkc.1 hkc.2 h).2.mp q.symm)
  · have hcs : Cans (srtK (dd [] (flats qs))) := cans_iff.mpr fun k hk => (hcd k ((srtK_perm _).mem_iff.mp hk)).1
    have hfs : flats (srtK (dd [] (flats qs))) = srtK (dd [] (flats qs)) := flats_self fun p hp => by
      have := hcd p ((srtK_perm _).mem_iff.mp hp)
      exact ⟨this.2, can_nb this.1⟩
    dsimp only [Fk]
    refine joined_set (fun x => ?_) fun g hg => ?_
    · rw [flF_kinds hcs h, hfs, hS]
      simp only [(srtK_perm _).mem_iff, hd]
    · obtain ⟨d, hd', rfl⟩ := (flF_kinds hcs h g).mp hg
      rw [hfs] at hd'
      have hd2 := (hd d).mp ((srtK_perm _).mem_iff.mp hd')
      exact Fk_ok_smp ((flats_part qs d hd2).2.1 ho) h
end
/-! F3 -/
section
/-! ## putting in, seen in the forms -/
noncomputable def TabCan (t : Tab) : Prop := ∀ p ∈ t, Can p.2
theorem TabCan.look {t : Tab} (h : TabCan t) {x : Str} {k : Kd} (e : t.lookup x = some k) : Can k := h _ (mem_of_lookup e)
theorem TabCan.inTab {t : Tab} (h : TabCan t) {x y : Str} {bd : Kd} : TabCan (inTab t x y bd) := fun p hp => by
  unfold Mine.inTab at hp
  have hd : ∀ p ∈ t.drop x, Can p.2 := fun p hp => h p (List.mem_filter.mp hp).1
  split at hp
  · rcases List.mem_append.mp hp with hp | hp
    · exact hd p hp
    · simp at hp; subst hp; exact trivial
  · exact hd p hp
theorem uniOf_ne {qs : List Kd} (h : qs ≠ []) : uniOf qs = unionOf qs := by
  unfold uniOf
  rw [if_neg (by simpa using h)]
mutual
theorem subR_can : ∀ (k : Kd) {t : Tab} {r : Kd}, TabCan t → Can k → SubR t k r → Can r
  | .var x, t, r, ht, _, h => by
    dsimp only [SubR] at h; subst h
    cases e : t.lookup x with
    | none => exact trivial
    | some q => exact ht.look e
  | .name x ps, t, r, ht, hk, h => by obtain ⟨qs, hq, rfl⟩ := h; exact subRs_can ps ht hk hq
  | .tup p, t, r, ht, hk, h => by obtain ⟨q, hq, rfl⟩ := h; have := subR_can p ht hk hq; exact this
  | .tupv p1 p2, t, r, ht, hk, h => by obtain ⟨q1, q2, h1, h2, rfl⟩ := h; exact ⟨subR_can p1 ht hk.1 h1, subR_can p2 ht hk.2 h2⟩
  | .uni ps, t, r, ht, hk, h => by
    obtain ⟨qs, hq, rfl⟩ := h
    obtain ⟨h1, _, _, h4, _⟩ := hk
    have hn : qs ≠ [] := by
      have := subRs_length hq
      rintro rfl
      simp at this; lia
    rw [uniOf_ne hn]
    exact unionOf_can (subRs_can ps ht h1 hq) hn
  | .all x lo up bd, t, r, ht, hk, h => by
    obtain ⟨lo', up', y, bd', h1, h2, h3, h4, rfl⟩ := h
    obtain ⟨a, b, c⟩ := hk
    refine ⟨?_, subR_can up ht b h2, subR_can bd ht.inTab c h4⟩
    rcases a with rfl | a
    · exact .inl h1
    · exact .inr (subR_can lo ht a h1)
  | .typeof p, t, r, ht, hk, h => by obtain ⟨q, hq, rfl⟩ := h; have := subR_can p ht hk hq; exact this
  | .bottom, _, _, _, hk, _ => hk.elim
theorem subRs_can : ∀ (ks : List Kd) {t : Tab} {qs : List Kd}, TabCan t → Cans ks → SubRs t ks qs → Cans qs
  | [], _, _, _, _, h => by dsimp only [SubRs] at h; subst h; exact trivial
  | k :: ks, t, qs, ht, hk, h => by
    obtain ⟨q, qs', h1, h2, rfl⟩ := h
    exact ⟨subR_can k ht hk.1 h1, subRs_can ks ht hk.2 h2⟩
end
noncomputable def vE (q : Kd) (ρ : Str → Bv) : Bv := match q with
  | .var w => ρ w
  | q => .c (Fk q ρ)
theorem vE_fo (q : Kd) (ρ : Str → Bv) : (vE q ρ).fo = Fk q ρ := by cases q <;> rfl
noncomputable def cmpE (ρ : Str → Bv) (t : Tab) : Str → Bv := fun z => match t.lookup z with
  | none => ρ z
  | some q => vE q ρ
noncomputable def Hy (t : Tab) (k : Kd) (ρ : Str → Bv) : Prop := ∀ z q, FreeIn z k → t.lookup z = some q → (∃ w, q = .var w) ∨ ∀ y, FreeIn y q → ∃ f, ρ y = .c f
theorem lookup_append {α : Type} (l m : List (Str × α)) (x : Str) : (l ++ m).lookup x = (l.lookup x).or (m.lookup x) := by
  induction l with
  | nil => rfl
  | cons p l ih =>
    obtain ⟨k, v⟩ := p
    rw [List.cons_append, List.lookup_cons, List.lookup_cons]
    cases x == k <;> simp [ih]
theorem inTab_lookup {t : Tab} {x y : Str} {bd : Kd} (z : Str) (hz : z ≠ x) : (inTab t x y bd).lookup z = t.lookup z := by
  have e : (z == x) = false := by simpa using hz
  unfold inTab
  split
  · rw [lookup_append, drop_lookup, if_neg hz]
    have : List.lookup z [(x, Kd.var y)] = none := by rw [List.lookup_cons, e]; rfl
    rw [this, Option.or_none]
  · rw [drop_lookup, if_neg hz]
theorem inTab_self {t : Tab} {x y : Str} {bd : Kd} : (Used t x bd x → (inTab t x y bd).lookup x = some (.var y)) ∧ (¬ Used t x bd x → (inTab t x y bd).lookup x = none) := by
  unfold inTab
  constructor
  · intro h
    rw [if_pos h, lookup_append, drop_lookup, if_pos rfl]
    simp
  · intro h
    rw [if_neg h, drop_lookup, if_pos rfl]
theorem NewNm.unused {t : Tab} {x y : Str} {bd : Kd} (h : NewNm t x y bd) : ¬ Used t x bd y := by
  rcases h with ⟨h, rfl⟩ | ⟨_, h, _⟩ <;> exact h
theorem NewNm.apart {t : Tab} {x y z : Str} {bd : Kd} (h : NewNm t x y bd) (hz : FreeIn z bd) (hx : z ≠ x) : z ≠ y := by
  rcases h with ⟨_, rfl⟩ | ⟨_, _, h, _⟩
  · exact hx
  · rintro rfl; exact h hz
mutual
theorem subR_form {S H : Nat} : ∀ (k : Kd) {t : Tab} {r : Kd} {ρ : Str → Bv}, TabOk t S H → TabCan t → k.ok = true → (k = .bottom ∨ Can k) → Smp ρ → Hy t k ρ → SubR t k r → Fk r ρ = Fk k (cmpE ρ t)
  | .var x, t, r, ρ, ht, hc, hk, hn, hs, hy, h => by
    dsimp only [SubR] at h
    subst h
    dsimp only [Fk, cmpE]
    cases e : t.lookup x with
    | none => rfl
    | some q => exact (vE_fo q ρ).symm
  | .name x ps, t, r, ρ, ht, hc, hk, hn, hs, hy, h => by
    obtain ⟨qs, hq, rfl⟩ := h
    ((try dsimp only [Kd.ok] at hk) <;> simp only [Bool.and_eq_true] at hk)
    dsimp only [Fk]
    rw [subRs_form ps ht hc hk.2 (by (dsimp only [Can] at hn ⊢ <;> simpa using hn)) hs hy hq]
  | .tup p, t, r, ρ, ht, hc, hk, hn, hs, hy, h => by
    obtain ⟨q, hq, rfl⟩ := h
    dsimp only [Fk]
    rw [subR_form p ht hc hk (.inr (by (dsimp only [Can] at hn ⊢ <;> simpa using hn))) hs hy hq]
  | .tupv p1 p2, t, r, ρ, ht, hc, hk, hn, hs, hy, h => by
    obtain ⟨q1, q2, h1, h2, rfl⟩ := h
    ((try dsimp only [Kd.ok] at hk) <;> simp only [Bool.and_eq_true] at hk)
    have hn : Can p1 ∧ Can p2 := by (dsimp only [Can] at hn ⊢ <;> simpa using hn)
    dsimp only [Fk]
    rw [subR_form p1 ht hc hk.1 (.inr hn.1) hs (fun z q hz => hy z q (.inl hz)) h1, subR_form p2 ht hc hk.2 (.inr hn.2) hs (fun z q hz => hy z q (.inr hz)) h2]
  | .uni ps, t, r, ρ, ht, hc, hk, hn, hs, hy, h => by
    obtain ⟨qs, hq, rfl⟩ := h
    dsimp only [Kd.ok] at hk
    have hcu : Can (.uni ps) := by simpa using hn
    obtain ⟨h1, _, _, h4, _⟩ := hcu
    have hne : qs ≠ [] := by
      have := subRs_length hq
      rintro rfl
      simp at this; lia
    rw [uniOf_ne hne, Fk_union (subRs_can ps hc h1 hq) hne (subRs_fit ps ht hk hq).1 hs]
    dsimp only [Fk]
    rw [subRs_form ps ht hc hk h1 hs hy hq]
  | .all x lo up bd, t, r, ρ, ht, hc, hk, hn, hs, hy, h => by
    obtain ⟨lo', up', y, bd', h1, h2, h3, h4, rfl⟩ := h
    ((try dsimp only [Kd.ok] at hk) <;> simp only [Bool.and_eq_true] at hk)
    have hca : Can (.all x lo up bd) := by simpa using hn
    obtain ⟨a, b, c⟩ := hca
    have hyn := h3.ok hk.1.1.1
    dsimp only [Fk]
    rw [subR_form lo ht hc hk.1.1.2 a hs (fun z q hz => hy z q (.inl hz)) h1, subR_form up ht hc hk.1.2 (.inr b) hs (fun z q hz => hy z q (.inr (.inl hz))) h2]
    have apart : ∀ z q, FreeIn z bd → z ≠ x → t.lookup z = some q → ∀ w, FreeIn w q → w ≠ y := fun z q hz hx e w hw => by
      rintro rfl
      exact h3.unused ⟨z, q, hz, hx, e, hw⟩
    rw [subR_form bd (ρ := upE ρ y) (ht.inTab hk.1.1.1 hyn) hc.inTab hk.2 (.inr c) (hs.up y) (fun z q hz e => ?_) h4]
    · congr 1
      refine Fk_agree bd fun z hz => ?_
      by_cases hx : z = x
      · subst hx
        unfold cmpE
        by_cases hu : Used t z bd z
        · rw [inTab_self.1 hu]
          ((try dsimp only [vE, upE]) <;> simp)
        · rw [inTab_self.2 hu]
          rcases h3 with ⟨_, rfl⟩ | ⟨h, _⟩
          · ((try dsimp only [upE]) <;> simp)
          · exact absurd h hu
      · have hy' := h3.apart hz hx
        show (match (inTab t x y bd).lookup z with | none => upE ρ y z | some q => vE q (upE ρ y)) = if z = x then .b 0 else (match t.lookup z with | none => ρ z | some q => vE q ρ).sft
        rw [inTab_lookup z hx, if_neg hx]
        cases e : t.lookup z with
        | none => ((try dsimp only [upE]) <;> simp only [if_neg hy'])
        | some q =>
          have hap := apart z q hz hx e
          rcases hy z q (.inr (.inr ⟨hz, hx⟩)) e with ⟨w, rfl⟩ | hcl
          · dsimp only [vE, upE]
            rw [if_neg (hap w rfl)]
          · have hF : Fk q (upE ρ y) = Fk q ρ := Fk_agree q fun w hw => by
              obtain ⟨f, hf⟩ := hcl w hw
              unfold upE
              rw [if_neg (hap w hw), hf]; rfl
            show vE q (upE ρ y) = (vE q ρ).sft
            cases q with
            | var w =>
              dsimp only [vE, upE]
              rw [if_neg (hap w rfl)]
            | _ => dsimp only [vE]; rw [hF]; rfl
    · by_cases hx : z = x
      · subst hx
        by_cases hu : Used t z bd z
        · rw [inTab_self.1 hu] at e; cases e; exact .inl ⟨y, rfl⟩
        · rw [inTab_self.2 hu] at e; cases e
      · rw [inTab_lookup z hx] at e
        rcases hy z q (.inr (.inr ⟨hz, hx⟩)) e with h | hcl
        · exact .inl h
        · refine .inr fun w hw => ?_
          obtain ⟨f, hf⟩ := hcl w hw
          refine ⟨f, ?_⟩
          unfold upE
          rw [if_neg (apart z q hz hx e w hw), hf]; rfl
  | .typeof p, t, r, ρ, ht, hc, hk, hn, hs, hy, h => by
    obtain ⟨q, hq, rfl⟩ := h
    dsimp only [Fk]
    rw [subR_form p ht hc hk (.inr (by (dsimp only [Can] at hn ⊢ <;> simpa using hn))) hs hy hq]
  | .bottom, t, r, ρ, _, _, _, _, _, _, h => by
    dsimp only [SubR] at h
    subst h; rfl
theorem subRs_form {S H : Nat} : ∀ (ks : List Kd) {t : Tab} {qs : List Kd} {ρ : Str → Bv}, TabOk t S H → TabCan t → Kd.oks ks = true → Cans ks → Smp ρ → (∀ z q, FreesIn z ks → t.lookup z = some q → (∃ w, q = .var w) ∨ ∀ y, FreeIn y q → ∃ f, ρ y = .c f) → SubRs t ks qs → Fks qs ρ = Fks ks (cmpE ρ t)
  | [], t, qs, ρ, _, _, _, _, _, _, h => by
    dsimp only [SubRs] at h
    subst h; rfl
  | k :: ks, t, qs, ρ, ht, hc, hk, hn, hs, hy, h => by
    obtain ⟨q, qs', h1, h2, rfl⟩ := h
    ((try dsimp only [Kd.oks] at hk) <;> simp only [Bool.and_eq_true] at hk)
    dsimp only [Fks]
    rw [subR_form k ht hc hk.1 (.inr hn.1) hs (fun z q hz => hy z q (.inl hz)) h1, subRs_form ks ht hc hk.2 hn.2 hs (fun z q hz => hy z q (.inr hz)) h2]
end
/-- all names free, none bound -/
noncomputable def ρ0 : Str → Bv := fun z => .c (.fre z)
theorem ρ0_smp : Smp ρ0 := fun ζ => .inr rfl
theorem subR_form0 {S H : Nat} {k r : Kd} {t : Tab} (ht : TabOk t S H) (hc : TabCan t) (hk : k.ok = true) (hn : Can k) (h : SubR t k r) : Fk r ρ0 = Fk k (cmpE ρ0 t) :=
  subR_form k ht hc hk (.inr hn) ρ0_smp (fun ζ ζ ζ ζ => .inr fun ζ ζ => ⟨_, rfl⟩) h
end
/-! F4 -/
section
/-! ## binders' names; one name for another -/
mutual
noncomputable def Bn : Kd → List Str
  | .var _ => []
  | .name _ ps => Bns ps
  | .tup p => Bn p
  | .tupv p r => Bn p ++ Bn r
  | .uni ps => Bns ps
  | .all x lo up bd => x :: (Bn lo ++ (Bn up ++ Bn bd))
  | .typeof k => Bn k
  | .bottom => []
noncomputable def Bns : List Kd → List Str
  | [] => []
  | k :: ks => Bn k ++ Bns ks
end
theorem Bns_eq : ∀ ks : List Kd, Bns ks = ks.flatMap Bn
  | [] => rfl
  | k :: ks => congrArg (Bn k ++ ·) (Bns_eq ks)
theorem Bns_append (ks ls : List Kd) : Bns (ks ++ ls) = Bns ks ++ Bns ls := by simp [Bns_eq]
theorem dd_self : ∀ {l acc : List Kd}, (acc ++ l).Nodup → dd acc l = acc ++ l
  | [], acc, _ => by simp [dd_nil]
  | k :: l, acc, h => by
    have hk : k ∉ acc := fun m => by
      have := List.nodup_append.mp h
      exact this.2.2 k m k (by simp) rfl
    rw [dd_cons]
    have e : addN acc k = acc ++ [k] := by unfold addN; rw [if_neg hk]
    rw [e, dd_self (by simpa using h)]; simp
/-- lists that a union takes as they are -/
structure Flat (qs : List Kd) : Prop where
  nd : qs.Nodup
  nu : ∀ p ∈ qs, isUni p = false ∧ p ≠ anyK
  nb : ∀ p ∈ qs, p ≠ .bottom
  l2 : 2 ≤ qs.length
theorem Flat.dd {qs : List Kd} (h : Flat qs) : dd [] (flats qs) = qs := by
  rw [flats_self fun p hp => ⟨(h.nu p hp).1, h.nb p hp⟩, dd_self (by simpa using h.nd)]; rfl
theorem Flat.union {qs : List Kd} (h : Flat qs) : unionOf qs = .uni (srtK qs) := by
  unfold unionOf unionF
  rw [h.dd, if_neg fun m => (h.nu _ m).2 rfl]
  have := h.l2
  match qs with
  | [] => simp at this
  | [_] => simp at this
  | _ :: _ :: _ => rfl
theorem Flat.of_can {ps : List Kd} (h : Can (.uni ps)) : Flat ps := by
  obtain ⟨h1, h2, h3, h4, _⟩ := h
  exact ⟨h2, h3, fun p hp => can_nb (cans_iff.mp h1 p hp), h4⟩
theorem union_self {ps : List Kd} (h : Can (.uni ps)) : unionOf ps = .uni ps := by
  rw [(Flat.of_can h).union, h.2.2.2.2]
theorem Flat.ne {qs : List Kd} (h : Flat qs) : qs ≠ [] := by
  rintro rfl
  exact absurd h.l2 (by simp)
/-! ### an empty table -/
theorem used_nil {x y : Str} {bd : Kd} : ¬ Used [] x bd y := by
  rintro ⟨z, k, _, _, h, _⟩
  simp at h
theorem inTab_nil {x y : Str} {bd : Kd} : inTab [] x y bd = [] := by
  unfold inTab
  rw [if_neg used_nil]; rfl
mutual
theorem sub0 : ∀ (k : Kd) {r : Kd}, (k = .bottom ∨ Can k) → SubR [] k r → r = k
  | .var x, r, _, h => by (dsimp only [SubR] at h ⊢ <;> simpa using h)
  | .name x ps, r, hc, h => by obtain ⟨qs, hq, rfl⟩ := h; rw [subs0 ps (by (dsimp only [Can] at hc ⊢ <;> simpa using hc)) hq]
  | .tup p, r, hc, h => by obtain ⟨q, hq, rfl⟩ := h; rw [sub0 p (.inr (by (dsimp only [Can] at hc ⊢ <;> simpa using hc))) hq]
  | .tupv p1 p2, r, hc, h => by
    obtain ⟨q1, q2, h1, h2, rfl⟩ := h
    have hc : Can p1 ∧ Can p2 := by (dsimp only [Can] at hc ⊢ <;> simpa using hc)
    rw [sub0 p1 (.inr hc.1) h1, sub0 p2 (.inr hc.2) h2]
  | .uni ps, r, hc, h => by
    obtain ⟨qs, hq, rfl⟩ := h
    have hu : Can (.uni ps) := by simpa using hc
    rw [subs0 ps hu.1 hq, uniOf_ne (Flat.of_can hu).ne, union_self hu]
  | .all x lo up bd, r, hc, h => by
    obtain ⟨lo', up', y, bd', h1, h2, h3, h4, rfl⟩ := h
    have hu : Can (.all x lo up bd) := by simpa using hc
    rw [inTab_nil] at h4
    rw [sub0 lo hu.1 h1, sub0 up (.inr hu.2.1) h2, sub0 bd (.inr hu.2.2) h4]
    rcases h3 with ⟨_, rfl⟩ | ⟨h, _⟩
    · rfl
    · exact absurd h used_nil
  | .typeof p, r, hc, h => by obtain ⟨q, hq, rfl⟩ := h; rw [sub0 p (.inr (by (dsimp only [Can] at hc ⊢ <;> simpa using hc))) hq]
  | .bottom, r, _, h => by (dsimp only [SubR] at h ⊢ <;> simpa using h)
theorem subs0 : ∀ (ks : List Kd) {qs : List Kd}, Cans ks → SubRs [] ks qs → qs = ks
  | [], qs, _, h => by (dsimp only [SubRs] at h ⊢ <;> simpa using h)
  | k :: ks, qs, hc, h => by
    obtain ⟨q, qs', h1, h2, rfl⟩ := h
    rw [sub0 k (.inr hc.1) h1, subs0 ks hc.2 h2]
end
/-! ### one name for another that stands nowhere -/
structure Cl (y : Str) (k : Kd) : Prop where
  can : k = .bottom ∨ Can k
  nb : y ∉ Bn k
  nf : ¬ FreeIn y k
theorem Bns_mem {ks : List Kd} {k : Kd} {y : Str} (h : k ∈ ks) (m : y ∈ Bn k) : y ∈ Bns ks := by rw [Bns_eq]; exact List.mem_flatMap.mpr ⟨k, h, m⟩
theorem Cl.parts {y : Str} {k : Kd} (h : Cl y k) : ∀ p ∈ k.parts, Cl y p := by
  intro p hp
  obtain ⟨hc, hb, hf⟩ := h
  cases k with
  | var x => ((try dsimp only [Kd.parts] at hp) <;> simp at hp)
  | bottom => ((try dsimp only [Kd.parts] at hp) <;> simp at hp)
  | name x ps =>
    dsimp only [Kd.parts] at hp
    have hc : Cans ps := by (dsimp only [Can] at hc ⊢ <;> simpa using hc)
    exact ⟨.inr (cans_iff.mp hc p hp), fun m => hb (Bns_mem hp m), fun m => hf (freesIn_iff.mpr ⟨p, hp, m⟩)⟩
  | uni ps =>
    dsimp only [Kd.parts] at hp
    have hc : Can (.uni ps) := by simpa using hc
    exact ⟨.inr (cans_iff.mp hc.1 p hp), fun m => hb (Bns_mem hp m), fun m => hf (freesIn_iff.mpr ⟨p, hp, m⟩)⟩
  | tup q => ((try dsimp only [Kd.parts] at hp) <;> simp only [List.mem_singleton] at hp); subst hp; exact ⟨.inr (by (dsimp only [Can] at hc ⊢ <;> simpa using hc)), hb, hf⟩
  | typeof q => ((try dsimp only [Kd.parts] at hp) <;> simp only [List.mem_singleton] at hp); subst hp; exact ⟨.inr (by (dsimp only [Can] at hc ⊢ <;> simpa using hc)), hb, hf⟩
  | tupv q r =>
    have hc : Can q ∧ Can r := by (dsimp only [Can] at hc ⊢ <;> simpa using hc)
    ((try dsimp only [Bn] at hb) <;> simp only [List.mem_append, not_or] at hb)
    ((try dsimp only [FreeIn] at hf) <;> simp only [not_or] at hf)
    ((try dsimp only [Kd.parts] at hp) <;> simp only [List.mem_cons, List.not_mem_nil, or_false] at hp)
    rcases hp with rfl | rfl
    · exact ⟨.inr hc.1, hb.1, hf.1⟩
    · exact ⟨.inr hc.2, hb.2, hf.2⟩
  | all x lo up bd =>
    have hc : Can (.all x lo up bd) := by simpa using hc
    ((try dsimp only [Bn] at hb) <;> simp only [List.mem_cons, List.mem_append, not_or] at hb)
    ((try dsimp only [FreeIn] at hf) <;> simp only [not_or, not_and, Decidable.not_not] at hf)
    ((try dsimp only [Kd.parts] at hp) <;> simp only [List.mem_cons, List.not_mem_nil, or_false] at hp)
    rcases hp with rfl | rfl | rfl
    · exact ⟨hc.1, hb.2.1, hf.1⟩
    · exact ⟨.inr hc.2.1, hb.2.2.1, hf.2.1⟩
    · exact ⟨.inr hc.2.2, hb.2.2.2, fun m => hb.1 (hf.2.2 m)⟩
noncomputable abbrev one (x y : Str) : Tab := [(x, .var y)]
theorem one_lookup (x y z : Str) : (one x y).lookup z = if z = x then some (.var y) else none := by
  by_cases h : z = x
  · subst h; ((try dsimp only [one]) <;> simp)
  · have e : (z == x) = false := by simpa using h
    rw [if_neg h, one, List.lookup_cons, e]; rfl
theorem one_used {x y z : Str} {bd : Kd} (h : z ≠ y) : ¬ Used (one x y) z bd z := by
  rintro ⟨w, k, _, _, e, hf⟩
  rw [one_lookup] at e
  split at e
  · cases e; exact h hf
  · cases e
theorem one_all {x y z : Str} {lo up bd r : Kd} (hz : z ≠ y) (h : SubR (one x y) (.all z lo up bd) r) :
    ∃ lo' up' bd', SubR (one x y) lo lo' ∧ SubR (one x y) up up' ∧ SubR (if z = x then [] else one x y) bd bd' ∧ r = .all z lo' up' bd' := by
  obtain ⟨lo', up', y', bd', h1, h2, h3, h4, rfl⟩ := h
  have hu := one_used (x := x) (bd := bd) hz
  have e : y' = z := by
    rcases h3 with ⟨_, e⟩ | ⟨h, _⟩
    · exact e
    · exact absurd h hu
  subst e
  refine ⟨lo', up', bd', h1, h2, ?_, rfl⟩
  unfold inTab at h4
  rw [if_neg hu] at h4
  have : (one x y).drop y' = if y' = x then [] else one x y := by
    unfold Tab.drop one
    by_cases e : y' = x
    · simp [e]
    · rw [if_neg e, List.filter_cons_of_pos (by simpa using Ne.symm e)]; rfl
  rwa [Tab.drop, ← Tab.drop, this] at h4
/-- what a name put in keeps -/
theorem one_shape {x y : Str} {k r : Kd} (hu : isUni k = false) (hb : k ≠ .bottom) (h : SubR (one x y) k r) : isUni r = false ∧ (r = anyK → k = anyK) ∧ r ≠ .bottom := by
  cases k with
  | var z =>
    dsimp only [SubR] at h; subst h
    rw [one_lookup]
    split <;> ((try dsimp only [isUni, anyK]) <;> simp)
  | name z ps =>
    obtain ⟨qs, hq, rfl⟩ := h
    refine ⟨rfl, fun e => ?_, by simp⟩
    ((try dsimp only [anyK] at e ⊢) <;> simp only [Kd.name.injEq] at e ⊢)
    obtain ⟨rfl, rfl⟩ := e
    have := subRs_length hq
    exact ⟨rfl, List.length_eq_zero_iff.mp (by simpa using this.symm)⟩
  | tup p => obtain ⟨q, _, rfl⟩ := h; ((try dsimp only [isUni, anyK]) <;> simp)
  | tupv p r => obtain ⟨q, _, _, _, rfl⟩ := h; ((try dsimp only [isUni, anyK]) <;> simp)
  | uni ps => ((try dsimp only [isUni] at hu) <;> simp at hu)
  | all z lo up bd => obtain ⟨_, _, _, _, _, _, _, _, rfl⟩ := h; ((try dsimp only [isUni, anyK]) <;> simp)
  | typeof p => obtain ⟨q, _, rfl⟩ := h; ((try dsimp only [isUni, anyK]) <;> simp)
  | bottom => exact absurd rfl hb
theorem all2_inj {α β : Type} {R : α → β → Prop} {l m : List α} {zs : List β} (h1 : All2 R l zs) : All2 R m zs → (∀ a ∈ l, ∀ b ∈ m, ∀ z, R a z → R b z → a = b) → l = m := by
  induction h1 generalizing m with
  | nil => intro h2 _; cases h2; rfl
  | cons h1 _ ih =>
    intro h2 h
    cases h2 with
    | cons h2 t2 =>
      rw [h _ (by simp) _ (by simp) _ h1 h2, ih t2 fun a ha b hb => h a (List.mem_cons_of_mem _ ha) b (List.mem_cons_of_mem _ hb)]
theorem all2_mem {α β : Type} {R : α → β → Prop} {l : List α} {zs : List β} (h : All2 R l zs) {z : β} (m : z ∈ zs) : ∃ a ∈ l, R a z := by
  induction h with
  | nil => cases m
  | cons h1 _ ih =>
    rcases List.mem_cons.mp m with rfl | m
    · exact ⟨_, by simp, h1⟩
    · obtain ⟨a, ha, hr⟩ := ih m
      exact ⟨a, List.mem_cons_of_mem _ ha, hr⟩
theorem all2_nodup {α β : Type} {R : α → β → Prop} {l : List α} {zs : List β} (h : All2 R l zs) (hn : l.Nodup) (hi : ∀ a ∈ l, ∀ b ∈ l, ∀ z, R a z → R b z → a = b) : zs.Nodup := by
  induction h with
  | nil => simp
  | @cons a z l zs h1 t ih =>
    obtain ⟨n1, n2⟩ := List.nodup_cons.mp hn
    refine List.nodup_cons.mpr ⟨fun m => ?_, ih n2 fun a ha b hb => hi a (List.mem_cons_of_mem _ ha) b (List.mem_cons_of_mem _ hb)⟩
    obtain ⟨b, hb, hr⟩ := all2_mem t m
    rw [hi a (by simp) b (List.mem_cons_of_mem _ hb) z h1 hr] at n1
    exact n1 hb
/-- two lists that stand for lists equal but for their order -/
theorem all2_perm {α β : Type} {R : α → β → Prop} : ∀ {l : List α} {zs ws : List β}, zs.Perm ws → All2 R l zs → ∃ l', l'.Perm l ∧ All2 R l' ws := by
  intro l zs ws hp
  induction hp generalizing l with
  | nil => intro h; cases h; exact ⟨[], .refl _, .nil⟩
  | cons z _ ih =>
    intro h
    cases h with
    | cons h1 t =>
      obtain ⟨l', hl, h'⟩ := ih t
      exact ⟨_ :: l', hl.cons _, .cons h1 h'⟩
  | swap y z w =>
    intro h
    cases h with
    | cons h1 t => cases t with
      | cons h2 t => exact ⟨_ :: _ :: _, .swap _ _ _, .cons h2 (.cons h1 t)⟩
  | trans _ _ ih1 ih2 =>
    intro h
    obtain ⟨l', h1, h2⟩ := ih1 h
    obtain ⟨l'', h3, h4⟩ := ih2 h2
    exact ⟨l'', h3.trans h1, h4⟩
theorem one_flat {x y : Str} {ps qs : List Kd} (hc : Can (.uni ps)) (hq : All2 (SubR (one x y)) ps qs) (hi : ∀ a ∈ ps, ∀ b ∈ ps, ∀ z, SubR (one x y) a z → SubR (one x y) b z → a = b) : Flat qs := by
  have hf := Flat.of_can hc
  have key : ∀ q ∈ qs, (isUni q = false ∧ q ≠ anyK) ∧ q ≠ .bottom := fun q hq' => by
    obtain ⟨p, hp, hr⟩ := all2_mem hq hq'
    have := one_shape (hf.nu p hp).1 (hf.nb p hp) hr
    exact ⟨⟨this.1, fun e => (hf.nu p hp).2 (this.2.1 e)⟩, this.2.2⟩
  refine ⟨all2_nodup hq hf.nd hi, fun q h => (key q h).1, fun q h => (key q h).2, ?_⟩
  rw [← hq.length]; exact hf.l2
theorem sub_cl {x y : Str} {k r : Kd} (hu : isUni k = false) (h : SubR (one x y) k r) : r.cl = k.cl := by
  cases k with
  | uni ps => exact Bool.noConfusion (show true = false from hu)
  | var z => dsimp only [SubR] at h; rw [one_lookup] at h; subst h; split <;> rfl
  | bottom => dsimp only [SubR] at h; subst h; rfl
  | all w lo up bd => obtain ⟨_, _, _, _, _, _, _, _, rfl⟩ := h; rfl
  | name w ps => obtain ⟨_, _, rfl⟩ := h; rfl
  | tup p => obtain ⟨_, _, rfl⟩ := h; rfl
  | typeof p => obtain ⟨_, _, rfl⟩ := h; rfl
  | tupv p q => obtain ⟨_, _, _, _, rfl⟩ := h; rfl
theorem one_inj {x y : Str} : ∀ (n : Nat) (k k' r : Kd), k.sz ≤ n → k'.sz ≤ n → Cl y k → Cl y k' → k.ok = true → k'.ok = true → SubR (one x y) k r → SubR (one x y) k' r → k = k'
  | 0, k, _, _, hn, _, _, _, _, _, _, _ => by have := k.sz_pos; lia
  | n + 1, k, k', r, hn, hn', c, c', ho, ho', h, h' => by
    have ih : ∀ p ∈ k.parts, ∀ p' ∈ k'.parts, ∀ q, SubR (one x y) p q → SubR (one x y) p' q → p = p' := fun p hp p' hp' q h1 h2 =>
      one_inj n p p' q (by have := Kd.parts_sz hp; lia) (by have := Kd.parts_sz hp'; lia) (c.parts p hp) (c'.parts p' hp') (Kd.parts_ok hp ho) (Kd.parts_ok hp' ho') h1 h2
    have flat : ∀ (ps qs : List Kd), (Kd.uni ps).sz ≤ n + 1 → Cl y (.uni ps) → (Kd.uni ps).ok = true → SubRs (one x y) ps qs → Flat qs := fun ps qs hn c ho hq =>
      one_flat (by simpa using c.can) (subRs_all2.mp hq) fun a ha b hb z h1 h2 => one_inj n a b z (by have := Kd.parts_sz (k := .uni ps) ha; lia) (by have := Kd.parts_sz (k := .uni ps) hb; lia) (c.parts a ha) (c.parts b hb) (Kd.parts_ok (k := .uni ps) ha ho) (Kd.parts_ok (k := .uni ps) hb ho) h1 h2
    have shape : ∀ (k : Kd), k.sz ≤ n + 1 → Cl y k → k.ok = true → SubR (one x y) k r → isUni r = isUni k := fun k hn c ho h => by
      by_cases hk : isUni k = true
      · cases k with
        | uni ps =>
          obtain ⟨qs, hq, rfl⟩ := h
          have hF := flat ps qs hn c ho hq
          rw [uniOf_ne hF.ne, hF.union]; rfl
        | _ => ((try dsimp only [isUni] at hk) <;> simp at hk)
      · have hk : isUni k = false := by simpa using hk
        rw [hk]
        by_cases hb : k = .bottom
        · subst hb; dsimp only [SubR] at h; subst h; rfl
        · exact (one_shape hk hb h).1
    have hs := (shape k hn c ho h).symm.trans (shape k' hn' c' ho' h')
    cases k with
    | uni ps =>
      obtain ⟨ps', rfl⟩ := isUni_inv hs.symm
      obtain ⟨qs, hq, rfl⟩ := h
      obtain ⟨qs', hq', e⟩ := h'
      have hF := flat ps qs hn c ho hq
      have hF' := flat ps' qs' hn' c' ho' hq'
      rw [uniOf_ne hF.ne, hF.union, uniOf_ne hF'.ne, hF'.union] at e
      simp only [Kd.uni.injEq] at e
      have hp : qs.Perm qs' := (srtK_perm qs).symm.trans (e ▸ srtK_perm qs')
      obtain ⟨l, hl, h2⟩ := all2_perm hp (subRs_all2.mp hq)
      have := all2_inj h2 (subRs_all2.mp hq') fun a ha b hb z h1 h2 => ih a (hl.mem_iff.mp ha) b hb z h1 h2
      subst this
      have hc : Can (.uni ps) := by simpa using c.can
      have hc' : Can (.uni l) := by simpa using c'.can
      have := srtK_perm_eq hl.symm fun k hk => Kd.oks_mem hk (by (dsimp only [Kd.ok] at ho ⊢ <;> simpa using ho))
      rw [hc.2.2.2.2, hc'.2.2.2.2] at this
      rw [this]
    | var z =>
      obtain ⟨w, rfl⟩ := Kd.of0 ((sub_cl hs.symm h').symm.trans (sub_cl rfl h))
      dsimp only [SubR] at h
      rw [one_lookup] at h
      dsimp only [SubR] at h'
      rw [one_lookup] at h'
      rw [h] at h'
      have hz : z ≠ y := fun e => c.nf e.symm
      have hw : w ≠ y := fun e => c'.nf e.symm
      clear ih flat shape hs ho ho' hn hn' c c'
      by_cases h1 : z = x <;> by_cases h2 : w = x <;> simp_all
    | bottom =>
      have hk' := Kd.of7 ((sub_cl hs.symm h').symm.trans (sub_cl rfl h))
      subst hk'
      rfl
    | name z ps =>
      obtain ⟨w, ps', rfl⟩ := Kd.of1 ((sub_cl hs.symm h').symm.trans (sub_cl rfl h))
      obtain ⟨qs, hq, rfl⟩ := h
      obtain ⟨qs', hq', e⟩ := h'
      simp only [Kd.name.injEq] at e
      obtain ⟨rfl, rfl⟩ := e
      rw [all2_inj (subRs_all2.mp hq) (subRs_all2.mp hq') ih]
    | tup p =>
      obtain ⟨p', rfl⟩ := Kd.of2 ((sub_cl hs.symm h').symm.trans (sub_cl rfl h))
      obtain ⟨q, hq, rfl⟩ := h
      obtain ⟨q', hq', e⟩ := h'
      cases e
      rw [ih p (by ((try dsimp only [Kd.parts]) <;> simp)) p' (by ((try dsimp only [Kd.parts]) <;> simp)) _ hq hq']
    | typeof p =>
      obtain ⟨p', rfl⟩ := Kd.of6 ((sub_cl hs.symm h').symm.trans (sub_cl rfl h))
      obtain ⟨q, hq, rfl⟩ := h
      obtain ⟨q', hq', e⟩ := h'
      cases e
      rw [ih p (by ((try dsimp only [Kd.parts]) <;> simp)) p' (by ((try dsimp only [Kd.parts]) <;> simp)) _ hq hq']
    | tupv p1 p2 =>
      obtain ⟨p1', p2', rfl⟩ := Kd.of3 ((sub_cl hs.symm h').symm.trans (sub_cl rfl h))
      obtain ⟨q1, q2, h1, h2, rfl⟩ := h
      obtain ⟨q1', q2', h1', h2', e⟩ := h'
      cases e
      rw [ih p1 (by ((try dsimp only [Kd.parts]) <;> simp)) p1' (by ((try dsimp only [Kd.parts]) <;> simp)) _ h1 h1', ih p2 (by ((try dsimp only [Kd.parts]) <;> simp)) p2' (by ((try dsimp only [Kd.parts]) <;> simp)) _ h2 h2']
    | all z lo up bd =>
      obtain ⟨w, lo', up', bd', rfl⟩ := Kd.of5 ((sub_cl hs.symm h').symm.trans (sub_cl rfl h))
      have hz : z ≠ y := fun e => c.nb (by ((try dsimp only [Bn]) <;> simp [e]))
      obtain ⟨lo1, up1, bd1, h1, h2, h3, rfl⟩ := one_all hz h
      have hw : w ≠ y := fun e => c'.nb (by ((try dsimp only [Bn]) <;> simp [e]))
      obtain ⟨lo2, up2, bd2, h1', h2', h3', e⟩ := one_all hw h'
      simp only [Kd.all.injEq] at e
      obtain ⟨rfl, rfl, rfl, rfl⟩ := e
      have hb : bd = bd' := by
        by_cases hx : z = x
        · rw [if_pos hx] at h3 h3'
          have e1 := sub0 bd (c.parts bd (by ((try dsimp only [Kd.parts]) <;> simp))).can h3
          have e2 := sub0 bd' (c'.parts bd' (by ((try dsimp only [Kd.parts]) <;> simp))).can h3'
          rw [← e1, ← e2]
        · rw [if_neg hx] at h3 h3'
          exact ih bd (by ((try dsimp only [Kd.parts]) <;> simp)) bd' (by ((try dsimp only [Kd.parts]) <;> simp)) _ h3 h3'
      rw [ih lo (by ((try dsimp only [Kd.parts]) <;> simp)) lo' (by ((try dsimp only [Kd.parts]) <;> simp)) _ h1 h1', ih up (by ((try dsimp only [Kd.parts]) <;> simp)) up' (by ((try dsimp only [Kd.parts]) <;> simp)) _ h2 h2', hb]
end
/-! F5 -/
section
/-! ## kinds with their bound names as numbers -/
noncomputable def upP (ρ : Str → Option Nat) (x : Str) : Str → Option Nat := fun z => if z = x then some 0 else (ρ z).map (· + 1)
mutual
noncomputable def PV : Kd → (Str → Option Nat) → PyData
  | .var x, ρ => match ρ x with
    | some i => .tuple [.str (so "var"), .int (i : Int)]
    | none => .tuple [.str (so "var"), .str x]
  | .name x ps, ρ => .tuple [.str (so "name"), .str x, .tuple (PVs ps ρ)]
  | .tup p, ρ => .tuple [.str (so "tuple"), .tuple [PV p ρ], .bool true]
  | .tupv p r, ρ => .tuple [.str (so "tuple"), .tuple [PV p ρ, PV r ρ], .bool false]
  | .uni ps, ρ => .tuple [.str (so "union"), .tuple (srtD (PVs ps ρ))]
  | .all x lo up bd, ρ => .tuple [.str (so "all"), PV lo ρ, PV up ρ, PV bd (upP ρ x)]
  | .typeof k, ρ => .tuple [.str (so "typeof"), PV k ρ]
  | .bottom, _ => .tuple [.str (so "bottom")]
noncomputable def PVs : List Kd → (Str → Option Nat) → List PyData
  | [], _ => []
  | k :: ks, ρ => PV k ρ :: PVs ks ρ
end
theorem PVs_eq (ρ : Str → Option Nat) : ∀ ks : List Kd, PVs ks ρ = ks.map fun k => PV k ρ
  | [] => rfl
  | k :: ks => congrArg (PV k ρ :: ·) (PVs_eq ρ ks)
theorem plDs_iff : ∀ {xs : List PyData}, plD.plDs xs = true ↔ ∀ x ∈ xs, plD x = true
  | [] => ⟨fun ζ x m => (List.not_mem_nil m).elim, fun ζ => rfl⟩
  | x :: xs => by dsimp only [plD.plDs]; simp [plDs_iff (xs := xs)]
mutual
theorem PV_pl : ∀ (k : Kd) {ρ : Str → Option Nat}, k.ok = true → plD (PV k ρ) = true
  | .var x, ρ, h => by
    dsimp only [PV]
    split
    · exact an (decide_eq_true (Int.natCast_nonneg i)) rfl
    · exact an (nmOk_pl h) rfl
  | .name x ps, ρ, h => by have h := Bool.and_eq_true_iff.mp h; exact an (nmOk_pl h.1) (an (PVs_pl ps h.2) rfl)
  | .tup p, ρ, h => an (an (PV_pl p h) rfl) rfl
  | .tupv p r, ρ, h => by have h := Bool.and_eq_true_iff.mp h; exact an (an (PV_pl p h.1) (an (PV_pl r h.2) rfl)) rfl
  | .uni ps, ρ, h => by
    dsimp only [Kd.ok] at h
    have h1 := plDs_iff.mp (PVs_pl ps (ρ := ρ) h)
    have : plD.plDs (srtD (PVs ps ρ)) = true := plDs_iff.mpr fun x hx => h1 x ((srtD_perm _).mem_iff.mp hx)
    exact an this rfl
  | .all x lo up bd, ρ, h => by have h := Bool.and_eq_true_iff.mp h; have k := Bool.and_eq_true_iff.mp h.1; have j := Bool.and_eq_true_iff.mp k.1; exact an (PV_pl lo j.2) (an (PV_pl up k.2) (an (PV_pl bd h.2) rfl))
  | .typeof k, ρ, h => an (PV_pl k h) rfl
  | .bottom, _, _ => by show plD (.tuple [.str (so "bottom")]) = true; decide +kernel
theorem PVs_pl : ∀ (ks : List Kd) {ρ : Str → Option Nat}, Kd.oks ks = true → plD.plDs (PVs ks ρ) = true
  | [], _, _ => rfl
  | k :: ks, ρ, h => by have h := Bool.and_eq_true_iff.mp h; exact an (PV_pl k h.1) (PVs_pl ks h.2)
end
mutual
theorem PV_agree : ∀ (k : Kd) {ρ σ : Str → Option Nat}, (∀ x, FreeIn x k → ρ x = σ x) → PV k ρ = PV k σ
  | .var x, ρ, σ, h => by dsimp only [PV]; rw [h x rfl]
  | .name x ps, ρ, σ, h => by dsimp only [PV]; rw [PVs_agree ps h]
  | .tup p, ρ, σ, h => by dsimp only [PV]; rw [PV_agree p h]
  | .tupv p r, ρ, σ, h => by dsimp only [PV]; rw [PV_agree p fun x hx => h x (.inl hx), PV_agree r fun x hx => h x (.inr hx)]
  | .uni ps, ρ, σ, h => by dsimp only [PV]; rw [PVs_agree ps h]
  | .all x lo up bd, ρ, σ, h => by
    dsimp only [PV]
    rw [PV_agree lo fun x hx => h x (.inl hx), PV_agree up fun x hx => h x (.inr (.inl hx)), PV_agree bd (σ := upP σ x) fun y hy => ?_]
    unfold upP
    by_cases e : y = x
    · simp [e]
    · rw [if_neg e, if_neg e, h y (.inr (.inr ⟨hy, e⟩))]
  | .typeof k, ρ, σ, h => by dsimp only [PV]; rw [PV_agree k h]
  | .bottom, _, _, _ => rfl
theorem PVs_agree : ∀ (ks : List Kd) {ρ σ : Str → Option Nat}, (∀ x, FreesIn x ks → ρ x = σ x) → PVs ks ρ = PVs ks σ
  | [], _, _, _ => rfl
  | k :: ks, ρ, σ, h => by dsimp only [PVs]; rw [PV_agree k fun x hx => h x (.inl hx), PVs_agree ks fun x hx => h x (.inr hx)]
end
theorem PVs_srt {ps qs : List Kd} {ρ : Str → Option Nat} (h : ps.Perm qs) (ho : Kd.oks ps = true) : srtD (PVs ps ρ) = srtD (PVs qs ρ) := by
  rw [PVs_eq, PVs_eq]
  refine srtD_perm_eq (h.map _) fun x hx => ?_
  obtain ⟨k, hk, rfl⟩ := List.mem_map.mp hx
  exact PV_pl k (Kd.oks_mem hk ho)
theorem Bns_perm {ps qs : List Kd} (h : ps.Perm qs) : (Bns ps).Perm (Bns qs) := by
  rw [Bns_eq, Bns_eq]
  exact h.flatMap_right _
/-- a union's images, taken together -/
theorem one_uni {x y : Str} {ps qs : List Kd} (c : Cl y (.uni ps)) (ho : (Kd.uni ps).ok = true) (hq : SubRs (one x y) ps qs) : Flat qs ∧ uniOf qs = .uni (srtK qs) := by
  have hF : Flat qs := one_flat (by simpa using c.can) (subRs_all2.mp hq) fun a ha b hb z h1 h2 =>
    one_inj (max a.sz b.sz) a b z (Nat.le_max_left _ _) (Nat.le_max_right _ _) (c.parts a ha) (c.parts b hb) (Kd.parts_ok (k := .uni ps) ha ho) (Kd.parts_ok (k := .uni ps) hb ho) h1 h2
  exact ⟨hF, by rw [uniOf_ne hF.ne, hF.union]⟩
theorem one_ok {x y : Str} {k r : Kd} (hx : nmOk x = true) (hy : nmOk y = true) (hk : k.ok = true) (h : SubR (one x y) k r) : r.ok = true ∧ r.sz ≤ k.sz := by
  have ht : TabOk (one x y) 1 1 := ⟨fun p hp => by simp at hp; subst hp; exact ⟨hx, hy, Nat.le_refl _, Nat.le_refl _⟩, Nat.le_refl _, Nat.le_refl _⟩
  have := subR_fit k ht hk h
  exact ⟨this.1, by simpa using this.2.1⟩
mutual
theorem one_pv {x y : Str} (hx : nmOk x = true) (hy : nmOk y = true) : ∀ (k : Kd) {r : Kd} {ρ : Str → Option Nat}, Cl y k → k.ok = true → (∃ i, ρ y = some i) → SubR (one x y) k r →
    PV r ρ = PV k (fun z => if z = x then ρ y else ρ z) ∧ (Bn r).Perm (Bn k) ∧ r.ht ≤ k.ht
  | .var z, r, ρ, c, hk, ⟨i, hi⟩, h => by
    dsimp only [SubR] at h
    rw [one_lookup] at h
    subst h
    by_cases e : z = x
    · subst e
      simp only [↓reduceIte, Option.getD_some]; dsimp only [PV, Bn, Kd.ht]; simp [hi]
    · simp only [e, ↓reduceIte, Option.getD_none]; dsimp only [PV, Bn]; simp [e]
  | .name z ps, r, ρ, c, hk, hi, h => by
    obtain ⟨qs, hq, rfl⟩ := h
    dsimp only [Kd.ok] at hk; simp only [Bool.and_eq_true] at hk
    obtain ⟨h1, h2, h3⟩ := ones_pv hx hy ps (fun p hp => c.parts p hp) hk.2 hi hq
    refine ⟨by dsimp only [PV]; rw [h1], h2, by dsimp only [Kd.ht]; lia⟩
  | .tup p, r, ρ, c, hk, hi, h => by
    obtain ⟨q, hq, rfl⟩ := h
    obtain ⟨h1, h2, h3⟩ := one_pv hx hy p (c.parts p (by simp [Kd.parts])) hk hi hq
    refine ⟨by dsimp only [PV]; rw [h1], h2, by dsimp only [Kd.ht]; lia⟩
  | .tupv p1 p2, r, ρ, c, hk, hi, h => by
    obtain ⟨q1, q2, ha, hb, rfl⟩ := h
    dsimp only [Kd.ok] at hk; simp only [Bool.and_eq_true] at hk
    obtain ⟨h1, h2, h3⟩ := one_pv hx hy p1 (c.parts p1 (by simp [Kd.parts])) hk.1 hi ha
    obtain ⟨h4, h5, h6⟩ := one_pv hx hy p2 (c.parts p2 (by simp [Kd.parts])) hk.2 hi hb
    refine ⟨by dsimp only [PV]; rw [h1, h4], h2.append h5, Nat.add_le_add_left (mxm h3 h6) 1⟩
  | .uni ps, r, ρ, c, hk, hi, h => by
    obtain ⟨qs, hq, rfl⟩ := h
    obtain ⟨hF, e⟩ := one_uni c hk hq
    have hk' : Kd.oks ps = true := by dsimp only [Kd.ok] at hk; simpa using hk
    obtain ⟨h1, h2, h3⟩ := ones_pv hx hy ps (fun p hp => c.parts p hp) hk' hi hq
    have ht : TabOk (one x y) 1 1 := ⟨fun p hp => by simp at hp; subst hp; exact ⟨hx, hy, Nat.le_refl _, Nat.le_refl _⟩, Nat.le_refl _, Nat.le_refl _⟩
    have hqo := (subRs_fit ps ht hk' hq).1
    rw [e]
    refine ⟨?_, (Bns_perm (srtK_perm qs)).trans h2, ?_⟩
    · dsimp only [PV]
      rw [← PVs_srt (srtK_perm qs).symm hqo, h1]
    · have := Kd.hts_le (ks := srtK qs) (n := Kd.hts qs) fun q hq => Kd.hts_mem ((srtK_perm qs).mem_iff.mp hq)
      dsimp only [Kd.ht]; lia
  | .all z lo up bd, r, ρ, c, hk, ⟨i, hi⟩, h => by
    have hz : z ≠ y := fun e => c.nb (by dsimp only [Bn]; simp [e])
    obtain ⟨lo', up', bd', h1, h2, h3, rfl⟩ := one_all hz h
    dsimp only [Kd.ok] at hk; simp only [Bool.and_eq_true] at hk
    obtain ⟨a1, a2, a3⟩ := one_pv hx hy lo (c.parts lo (by simp [Kd.parts])) hk.1.1.2 ⟨i, hi⟩ h1
    obtain ⟨b1, b2, b3⟩ := one_pv hx hy up (c.parts up (by simp [Kd.parts])) hk.1.2 ⟨i, hi⟩ h2
    have cb := c.parts bd (by simp [Kd.parts])
    have key : PV bd' (upP ρ z) = PV bd (upP (fun w => if w = x then ρ y else ρ w) z) ∧ (Bn bd').Perm (Bn bd) ∧ bd'.ht ≤ bd.ht := by
      by_cases e : z = x
      · subst e
        rw [if_pos rfl] at h3
        rw [sub0 bd cb.can h3]
        refine ⟨PV_agree bd fun w ζ => ?_, .refl _, Nat.le_refl _⟩
        unfold upP
        by_cases ew : w = z
        · simp [ew]
        · simp [ew]
      · rw [if_neg e] at h3
        have hzy : y ≠ z := Ne.symm hz
        obtain ⟨c1, c2, c3⟩ := one_pv hx hy bd (ρ := upP ρ z) cb hk.2 ⟨i + 1, by unfold upP; rw [if_neg hzy, hi]; rfl⟩ h3
        refine ⟨c1.trans (PV_agree bd fun w ζ => ?_), c2, c3⟩
        unfold upP
        by_cases ew : w = x
        · subst ew
          simp [hzy, Ne.symm e]
        · simp [ew]
    refine ⟨by dsimp only [PV]; rw [a1, b1, key.1], ?_, Nat.add_le_add_left (mxm a3 (mxm b3 key.2.2)) 1⟩
    exact List.Perm.cons z (a2.append (b2.append key.2.1))
  | .typeof p, r, ρ, c, hk, hi, h => by
    obtain ⟨q, hq, rfl⟩ := h
    obtain ⟨h1, h2, h3⟩ := one_pv hx hy p (c.parts p (by simp [Kd.parts])) hk hi hq
    refine ⟨by dsimp only [PV]; rw [h1], h2, by dsimp only [Kd.ht]; lia⟩
  | .bottom, r, ρ, _, _, _, h => by
    dsimp only [SubR] at h
    subst h
    exact ⟨rfl, .refl _, Nat.le_refl _⟩
theorem ones_pv {x y : Str} (hx : nmOk x = true) (hy : nmOk y = true) : ∀ (ks : List Kd) {qs : List Kd} {ρ : Str → Option Nat}, (∀ p ∈ ks, Cl y p) → Kd.oks ks = true → (∃ i, ρ y = some i) → SubRs (one x y) ks qs →
    PVs qs ρ = PVs ks (fun z => if z = x then ρ y else ρ z) ∧ (Bns qs).Perm (Bns ks) ∧ Kd.hts qs ≤ Kd.hts ks
  | [], qs, ρ, _, _, _, h => by
    dsimp only [SubRs] at h
    subst h
    exact ⟨rfl, .refl _, Nat.le_refl _⟩
  | k :: ks, qs, ρ, c, hk, hi, h => by
    obtain ⟨q, qs', h1, h2, rfl⟩ := h
    dsimp only [Kd.oks] at hk; simp only [Bool.and_eq_true] at hk
    obtain ⟨a1, a2, a3⟩ := one_pv hx hy k (c k (by simp)) hk.1 hi h1
    obtain ⟨b1, b2, b3⟩ := ones_pv hx hy ks (fun p hp => c p (List.mem_cons_of_mem _ hp)) hk.2 hi h2
    refine ⟨by dsimp only [PVs]; rw [a1, b1], a2.append b2, by dsimp only [Kd.hts]; lia⟩
end
end
/-! F6 -/
section
/-! ## fresh names -/
noncomputable def nm (x : Str) (m : Nat) : Str := headOf x ++ so "." ++ natS m
theorem natS_list (n : Nat) : (natS n).cps.toList = (Nat.toDigits 10 n).map Char.toNat := KIN.signs_num n
theorem dot_list : (so ".").cps.toList = [46] := by decide +kernel
theorem nm_list (x : Str) (m : Nat) : (nm x m).cps.toList = (headOf x).cps.toList ++ 46 :: (Nat.toDigits 10 m).map Char.toNat := by
  unfold nm
  rw [cps_toList_append, cps_toList_append, natS_list, dot_list]
  simp
theorem not_dot (n : Nat) : 46 ∉ (Nat.toDigits 10 n).map Char.toNat := fun m => by
  have := List.all_eq_true.mp (digits_all n) 46 m
  ((try dsimp only [digit] at this) <;> simp at this)
theorem nm_inj {x y : Str} {m n : Nat} (h : nm x m = nm y n) : m = n := by
  have h1 := congrArg (fun s => s.cps.toList.reverse) h
  simp only [nm_list, List.reverse_append, List.reverse_cons, List.append_assoc, List.singleton_append] at h1
  have := (upto_sign (by simpa using not_dot m) (by simpa using not_dot n) h1).1
  exact digits_inj (List.reverse_inj.mp this)
theorem natS_len {n : Nat} (h : n < 1000000) : (natS n).length ≤ 6 := by
  have h1 : (natS n).length = (natS n).cps.toList.length := by simp [Str.length]
  rw [h1, natS_list, List.length_map]
  exact (Nat.length_toDigits_le_iff (by decide) (by decide)).mpr h
theorem nm_len {x : Str} {m : Nat} (h : m < 1000000) : (nm x m).length ≤ x.length + 7 := by
  unfold nm
  rw [strLen_append, strLen_append]
  have h1 : (so ".").length = 1 := by decide +kernel
  have := natS_len h
  have := headOf_len x
  lia
theorem plS_app {x y : Str} (h1 : plS x = true) (h2 : plS y = true) : plS (x ++ y) = true := by
  unfold plS at *
  rw [cps_toList_append, List.all_append, h1, h2]; rfl
theorem headOf_pl {x : Str} (h : plS x = true) : plS (headOf x) = true := by
  rcases split_head x dotS (by decide +kernel) (headOf x) (headOf_get x) with ⟨e, _⟩ | ⟨i, e, _⟩
  · rw [e]; exact h
  · rw [e]
    refine List.all_eq_true.mpr fun c hc => List.all_eq_true.mp h c ?_
    have hc : c ∈ (x.cps.extract 0 i).toList := hc
    exact List.mem_of_mem_take (i := i) (by simpa using hc)
theorem natS_pl (n : Nat) : plS (natS n) = true := by
  unfold plS
  rw [natS_list]
  refine List.all_eq_true.mpr fun c hc => ?_
  have := List.all_eq_true.mp (digits_all n) c hc
  ((try dsimp only [digit] at this) <;> simp only [Bool.and_eq_true, decide_eq_true_eq] at this)
  unfold plC
  simp only [Bool.and_eq_true, Bool.or_eq_true, decide_eq_true_eq]
  lia
theorem pl_sok {x : Str} (h : plS x = true) : PyData.strOk x = true := by
  rw [sok_iff]
  intro c hc
  have := (plS_c h (c := c) (by simpa using hc)).2
  lia
theorem nm_ok {x : Str} {m : Nat} (hx : nmOk x = true) (hl : x.length ≤ 100) (hm : m < 1000000) : nmOk (nm x m) = true := by
  have hp : plS (nm x m) = true := plS_app (plS_app (headOf_pl (nmOk_pl hx)) (by decide +kernel)) (natS_pl m)
  have := nm_len (x := x) hm
  ((try dsimp only [nmOk]) <;> simp only [Bool.and_eq_true, decide_eq_true_eq])
  exact ⟨pl_sok hp, by lia, hp⟩
/-! ## renaming -/
mutual
noncomputable def RenR : Kd → Kd → Nat → Nat → Prop
  | .var x, r, n, n' => r = .var x ∧ n' = n
  | .name x ps, r, n, n' => ∃ qs, RenRs ps qs n n' ∧ r = .name x qs
  | .tup p, r, n, n' => ∃ q, RenR p q n n' ∧ r = .tup q
  | .tupv p1 p2, r, n, n' => ∃ q1 q2 m, RenR p1 q1 n m ∧ RenR p2 q2 m n' ∧ r = .tupv q1 q2
  | .uni ps, r, n, n' => ∃ qs, RenRs ps qs n n' ∧ r = uniOf qs
  | .all x lo up bd, r, n, n' => ∃ lo' up' bd1 bd' n1 n2 n3, RenR lo lo' n n1 ∧ RenR up up' n1 n2 ∧ RenR bd bd1 n2 n3 ∧ n3 < n' ∧ n' ≤ n3 + bd1.sz + 1 ∧ ¬ FreeIn (nm x n') bd1 ∧ SubR (one x (nm x n')) bd1 bd' ∧ r = .all (nm x n') lo' up' bd'
  | .typeof p, r, n, n' => ∃ q, RenR p q n n' ∧ r = .typeof q
  | .bottom, r, n, n' => r = .bottom ∧ n' = n
noncomputable def RenRs : List Kd → List Kd → Nat → Nat → Prop
  | [], qs, n, n' => qs = [] ∧ n' = n
  | k :: ks, qs, n, n' => ∃ q qs' m, RenR k q n m ∧ RenRs ks qs' m n' ∧ qs = q :: qs'
end
noncomputable def Rng (l : List Str) (n n' : Nat) : Prop := ∀ b ∈ l, ∃ z m, n < m ∧ m ≤ n' ∧ b = nm z m ∧ z.length ≤ 50
theorem Rng.mono {l : List Str} {n n' a b : Nat} (h : Rng l n n') (h1 : a ≤ n) (h2 : n' ≤ b) : Rng l a b := fun x hx => by
  obtain ⟨z, m, a1, a2, r⟩ := h x hx
  exact ⟨z, m, by lia, by lia, r⟩
theorem Rng.apart {l l' : List Str} {a b c d : Nat} (h : Rng l a b) (h' : Rng l' c d) (hb : b ≤ c) : ∀ x ∈ l, x ∉ l' := fun x hx hx' => by
  obtain ⟨z, m, a1, a2, e, _⟩ := h x hx
  obtain ⟨z', m', b1, b2, e', _⟩ := h' x hx'
  have := nm_inj (e.symm.trans e')
  lia
theorem Rng.app {l l' : List Str} {a b c : Nat} (h : Rng l a b) (h' : Rng l' b c) (h1 : a ≤ b) (h2 : b ≤ c) : Rng (l ++ l') a c := fun x hx => by
  rcases List.mem_append.mp hx with hx | hx
  · exact h.mono (Nat.le_refl _) h2 x hx
  · exact h'.mono h1 (Nat.le_refl _) x hx
theorem Rng.nodup {l l' : List Str} {a b c : Nat} (h : Rng l a b) (h' : Rng l' b c) (n1 : l.Nodup) (n2 : l'.Nodup) : (l ++ l').Nodup :=
  List.nodup_append.mpr ⟨n1, n2, fun x hx y hy e => h.apart h' (Nat.le_refl _) x hx (e ▸ hy)⟩
/-- what a kind and what it is renamed to share -/
structure RenP (k r : Kd) (n n' : Nat) : Prop where
  can : r = .bottom ∨ Can r
  bot : r = .bottom → k = .bottom
  bot' : k = .bottom → r = .bottom
  ok : r.ok = true
  sz : r.sz ≤ k.sz
  ht : r.ht ≤ k.ht
  le : n ≤ n'
  up : n' ≤ n + 101 * k.sz
  rng : Rng (Bn r) n n'
  nd : (Bn r).Nodup
  nob : Bn k = [] → r = k
  nob' : Bn r = [] → Bn k = []
  pv : ∀ ρ, PV r ρ = PV k ρ
  fk : ∀ ρ, Smp ρ → Fk r ρ = Fk k ρ
  uni : isUni r = isUni k
  any : r = anyK → k = anyK
structure RenPs (ks rs : List Kd) (n n' : Nat) : Prop where
  can : Cans rs
  len : rs.length = ks.length
  ok : Kd.oks rs = true
  sz : Kd.szs rs ≤ Kd.szs ks
  ht : Kd.hts rs ≤ Kd.hts ks
  le : n ≤ n'
  up : n' ≤ n + 101 * Kd.szs ks
  rng : Rng (Bns rs) n n'
  nd : (Bns rs).Nodup
  nob : Bns ks = [] → rs = ks
  nob' : Bns rs = [] → Bns ks = []
  pv : ∀ ρ, PVs rs ρ = PVs ks ρ
  fk : ∀ ρ, Smp ρ → Fks rs ρ = Fks ks ρ
  /-- images are apart -/
  nodup : ks.Nodup → rs.Nodup
  one : ∀ r ∈ rs, ∃ k ∈ ks, ∃ a b, n ≤ a ∧ b ≤ n' ∧ RenP k r a b
/-- what is asked of a kind to be renamed -/
structure RenI (k : Kd) : Prop where
  can : k = .bottom ∨ Can k
  ok : k.ok = true
  sz : k.sz ≤ 100
  sh : ∀ b ∈ Bn k, b.length ≤ 50
set_option tactic.hygienic true in
theorem RenI.part {k p : Kd} (h : RenI k) (hp : p ∈ k.parts) : RenI p := by
  have hs := Kd.parts_sz hp
  have h3 := h.sz
  have hb : ∀ b ∈ Bn p, b ∈ Bn k := by
    cases k <;> (dsimp only [Kd.parts] at hp <;> try simp only [List.mem_cons, List.not_mem_nil, or_false] at hp)
    · exact fun b hb => Bns_mem hp hb
    · subst hp; exact fun b hb => hb
    · rcases hp with rfl | rfl <;> (intro b hb; ((try dsimp only [Bn]) <;> simp [hb]))
    · exact fun b hb => Bns_mem hp hb
    · rcases hp with rfl | rfl | rfl <;> (intro b hb; ((try dsimp only [Bn]) <;> simp [hb]))
    · subst hp; exact fun b hb => hb
  refine ⟨?_, Kd.parts_ok hp h.ok, by lia, fun b hb' => h.sh b (hb b hb')⟩
  have hc := h.can
  cases k <;> (dsimp only [Kd.parts] at hp <;> try simp only [List.mem_cons, List.not_mem_nil, or_false] at hp)
  · exact .inr (cans_iff.mp (hc.resolve_left nofun) p hp)
  · subst hp; exact .inr (hc.resolve_left nofun)
  · rename_i p1 p2
    have hc : Can p1 ∧ Can p2 := hc.resolve_left nofun
    rcases hp with rfl | rfl
    · exact .inr hc.1
    · exact .inr hc.2
  · rename_i ps
    have hc : Can (.uni ps) := hc.resolve_left nofun
    exact .inr (cans_iff.mp hc.1 p hp)
  · rename_i x lo up bd
    have hc := hc.resolve_left nofun
    rcases hp with rfl | rfl | rfl
    · exact hc.1
    · exact .inr hc.2.1
    · exact .inr hc.2.2
  · subst hp; exact .inr (hc.resolve_left nofun)
mutual
theorem ren_main : ∀ (k : Kd) {r : Kd} {n n' : Nat}, RenI k → n + 101 * k.sz < 1000000 → RenR k r n n' → RenP k r n n'
  | .var x, r, n, n', hi, hn, h => by
    obtain ⟨rfl, rfl⟩ := h
    exact ⟨.inr trivial, id, id, hi.ok, Nat.le_refl _, Nat.le_refl _, Nat.le_refl _, by lia, by intro b hb; ((try dsimp only [Bn] at hb) <;> simp at hb), by ((try dsimp only [Bn]) <;> simp), fun ζ => rfl, id, fun ζ => rfl, fun ζ ζ => rfl, rfl, id⟩
  | .bottom, r, n, n', hi, hn, h => by
    obtain ⟨rfl, rfl⟩ := h
    exact ⟨.inl rfl, id, id, hi.ok, Nat.le_refl _, Nat.le_refl _, Nat.le_refl _, by lia, by intro b hb; ((try dsimp only [Bn] at hb) <;> simp at hb), by ((try dsimp only [Bn]) <;> simp), fun ζ => rfl, id, fun ζ => rfl, fun ζ ζ => rfl, rfl, id⟩
  | .name x ps, r, n, n', hi, hn, h => by
    obtain ⟨qs, hq, rfl⟩ := h
    have hok := hi.ok
    ((try dsimp only [Kd.ok] at hok) <;> simp only [Bool.and_eq_true] at hok)
    dsimp only [Kd.sz] at hn
    have R := rens_main ps (fun p hp => hi.part hp) (hi.can.resolve_left nofun) (by lia) hq
    have h1 := R.sz
    have h2 := R.ht
    have h3 := R.up
    refine ⟨.inr R.can, fun e => (by cases e), fun e => (by cases e), by ((try dsimp only [Kd.ok]) <;> simp [hok.1, R.ok]), by dsimp only [Kd.sz]; lia, by dsimp only [Kd.ht]; lia, R.le, by dsimp only [Kd.sz]; lia, R.rng, R.nd, fun e => by rw [R.nob e], R.nob', fun ρ => by dsimp only [PV]; rw [R.pv], fun ρ hs => by dsimp only [Fk]; rw [R.fk ρ hs], rfl, fun e => ?_⟩
    ((try dsimp only [anyK] at e ⊢) <;> simp only [Kd.name.injEq] at e ⊢)
    obtain ⟨rfl, rfl⟩ := e
    exact ⟨rfl, List.length_eq_zero_iff.mp R.len.symm⟩
  | .tup p, r, n, n', hi, hn, h => by
    obtain ⟨q, hq, rfl⟩ := h
    dsimp only [Kd.sz] at hn
    have R := ren_main p (hi.part (by ((try dsimp only [Kd.parts]) <;> simp))) (by lia) hq
    have hc : Can p := hi.can.resolve_left nofun
    have hcq : Can q := R.can.elim (fun e => absurd (R.bot e) (can_nb hc)) id
    have h1 := R.sz
    have h2 := R.ht
    have h3 := R.up
    exact ⟨.inr hcq, fun e => (by cases e), fun e => (by cases e), R.ok, by dsimp only [Kd.sz]; lia, by dsimp only [Kd.ht]; lia, R.le, by dsimp only [Kd.sz]; lia, R.rng, R.nd, fun e => by rw [R.nob e], R.nob', fun ρ => by dsimp only [PV]; rw [R.pv], fun ρ hs => by dsimp only [Fk]; rw [R.fk ρ hs], rfl, fun e => (by cases e)⟩
  | .typeof p, r, n, n', hi, hn, h => by
    obtain ⟨q, hq, rfl⟩ := h
    dsimp only [Kd.sz] at hn
    have R := ren_main p (hi.part (by ((try dsimp only [Kd.parts]) <;> simp))) (by lia) hq
    have hc : Can p := hi.can.resolve_left nofun
    have hcq : Can q := R.can.elim (fun e => absurd (R.bot e) (can_nb hc)) id
    have h1 := R.sz
    have h2 := R.ht
    have h3 := R.up
    exact ⟨.inr hcq, fun e => (by cases e), fun e => (by cases e), R.ok, by dsimp only [Kd.sz]; lia, by dsimp only [Kd.ht]; lia, R.le, by dsimp only [Kd.sz]; lia, R.rng, R.nd, fun e => by rw [R.nob e], R.nob', fun ρ => by dsimp only [PV]; rw [R.pv], fun ρ hs => by dsimp only [Fk]; rw [R.fk ρ hs], rfl, fun e => (by cases e)⟩
  | .tupv p1 p2, r, n, n', hi, hn, h => by
    obtain ⟨q1, q2, m, ha, hb, rfl⟩ := h
    dsimp only [Kd.sz] at hn
    have R := ren_main p1 (hi.part (by ((try dsimp only [Kd.parts]) <;> simp))) (by lia) ha
    have hu := R.up
    have T := ren_main p2 (hi.part (by ((try dsimp only [Kd.parts]) <;> simp))) (by lia) hb
    have hc : Can p1 ∧ Can p2 := hi.can.resolve_left nofun
    have hc1 : Can q1 := R.can.elim (fun e => absurd (R.bot e) (can_nb hc.1)) id
    have hc2 : Can q2 := T.can.elim (fun e => absurd (T.bot e) (can_nb hc.2)) id
    have h1 := R.sz
    have h2 := R.ht
    have h4 := T.sz
    have h5 := T.ht
    have h6 := T.up
    have hle := R.le
    have hle' := T.le
    refine ⟨.inr ⟨hc1, hc2⟩, fun e => (by cases e), fun e => (by cases e), by ((try dsimp only [Kd.ok]) <;> simp [R.ok, T.ok]), by dsimp only [Kd.sz]; lia, Nat.add_le_add_left (mxm h2 h5) 1, by lia, by dsimp only [Kd.sz]; lia, R.rng.app T.rng hle hle', R.rng.nodup T.rng R.nd T.nd, fun e => ?_, fun e => ?_, fun ρ => by dsimp only [PV]; rw [R.pv, T.pv], fun ρ hs => by dsimp only [Fk]; rw [R.fk ρ hs, T.fk ρ hs], rfl, fun e => (by cases e)⟩
    · ((try dsimp only [Bn] at e) <;> simp only [List.append_eq_nil_iff] at e)
      rw [R.nob e.1, T.nob e.2]
    · ((try dsimp only [Bn] at e) <;> simp only [List.append_eq_nil_iff] at e)
      ((try dsimp only [Bn]) <;> simp [R.nob' e.1, T.nob' e.2])
  | .uni ps, r, n, n', hi, hn, h => by
    obtain ⟨qs, hq, rfl⟩ := h
    have hok := hi.ok
    dsimp only [Kd.ok] at hok
    dsimp only [Kd.sz] at hn
    have hcu : Can (.uni ps) := hi.can.resolve_left nofun
    have R := rens_main ps (fun p hp => hi.part hp) hcu.1 (by lia) hq
    have hf := Flat.of_can hcu
    have hF : Flat qs := by
      refine ⟨R.nodup hf.nd, fun q hqm => ?_, fun q hqm e => ?_, by rw [R.len]; exact hf.l2⟩
      · obtain ⟨p, hp, a, b, _, _, P⟩ := R.one q hqm
        exact ⟨P.uni.trans (hf.nu p hp).1, fun e => (hf.nu p hp).2 (P.any e)⟩
      · obtain ⟨p, hp, a, b, _, _, P⟩ := R.one q hqm
        exact hf.nb p hp (P.bot e)
    have e : uniOf qs = .uni (srtK qs) := by rw [uniOf_ne hF.ne, hF.union]
    have hcan : Can (.uni (srtK qs)) := by
      rw [← hF.union]; exact unionOf_can R.can hF.ne
    have hp := srtK_perm qs
    have hbn := Bns_perm hp
    have h1 := R.sz
    have h2 := R.ht
    have h3 := R.up
    have hszs := Kd.szs_perm hp
    have hhts := Kd.hts_le (ks := srtK qs) (n := Kd.hts qs) fun q hq => Kd.hts_mem (hp.mem_iff.mp hq)
    have hoks : Kd.oks (srtK qs) = true := Kd.oks_of fun q hq => Kd.oks_mem (hp.mem_iff.mp hq) R.ok
    rw [e]
    refine ⟨.inr hcan, fun e => (by cases e), fun e => (by cases e), hoks, by dsimp only [Kd.sz]; lia, by dsimp only [Kd.ht]; lia, R.le, by dsimp only [Kd.sz]; lia, fun b hb => R.rng b (hbn.mem_iff.mp hb), hbn.nodup_iff.mpr R.nd, fun eb => ?_, fun eb => ?_, fun ρ => ?_, fun ρ hs => ?_, rfl, fun e => (by cases e)⟩
    · rw [R.nob eb, hcu.2.2.2.2]
    · refine R.nob' ?_
      have : Bns (srtK qs) = [] := eb
      rw [this] at hbn
      exact List.nil_perm.mp hbn
    · dsimp only [PV]
      rw [← PVs_srt hp.symm R.ok, R.pv]
    · rw [← hF.union, Fk_union R.can hF.ne R.ok hs, R.fk ρ hs]; rfl
  | .all x lo up bd, r, n, n', hi, hn, h => by
    obtain ⟨lo', up', bd1, bd', n1, n2, n3, ha, hb, hd, hlt, hle, hfr, hsub, rfl⟩ := h
    have hok := hi.ok
    ((try dsimp only [Kd.ok] at hok) <;> simp only [Bool.and_eq_true] at hok)
    have hsz := hi.sz
    dsimp only [Kd.sz] at hn hsz
    have hcu := hi.can.resolve_left nofun
    have A := ren_main lo (hi.part (by ((try dsimp only [Kd.parts]) <;> simp))) (by lia) ha
    have hAu := A.up
    have B := ren_main up (hi.part (by ((try dsimp only [Kd.parts]) <;> simp))) (by lia) hb
    have hBu := B.up
    have D := ren_main bd (hi.part (by ((try dsimp only [Kd.parts]) <;> simp))) (by lia) hd
    have hDu := D.up
    have hDs := D.sz
    have hAs := A.sz
    have hBs := B.sz
    have hAl := A.le
    have hBl := B.le
    have hDl := D.le
    have hAh := A.ht
    have hBh := B.ht
    have hDh := D.ht
    have hcb : Can up' := B.can.elim (fun e => absurd (B.bot e) (can_nb hcu.2.1)) id
    have hcd : Can bd1 := D.can.elim (fun e => absurd (D.bot e) (can_nb hcu.2.2)) id
    have hxl : x.length ≤ 50 := hi.sh x (by ((try dsimp only [Bn]) <;> simp))
    have hy : nmOk (nm x n') = true := nm_ok hok.1.1.1 (by lia) (by lia)
    have hnb : nm x n' ∉ Bn bd1 := fun m => by
      obtain ⟨z, j, h1, h2, e, _⟩ := D.rng _ m
      have := nm_inj e
      lia
    have hcl : Cl (nm x n') bd1 := ⟨.inr hcd, hnb, hfr⟩
    have hone := one_ok hok.1.1.1 hy D.ok hsub
    have hpv := fun (ρ : Str → Option Nat) (hρ : ∃ i, ρ (nm x n') = some i) => one_pv hok.1.1.1 hy bd1 hcl D.ok hρ hsub
    have hpm := (hpv (fun ζ => some 0) ⟨0, rfl⟩).2
    have hpt := hpm.2
    have hrngd : Rng (Bn bd') n2 n3 := fun b hb => D.rng b (hpm.1.mem_iff.mp hb)
    have hndd : (Bn bd').Nodup := hpm.1.nodup_iff.mpr D.nd
    have hTc : TabCan (one x (nm x n')) := fun p hp => by simp at hp; subst hp; exact trivial
    have hTo : TabOk (one x (nm x n')) 1 1 := ⟨fun p hp => by simp at hp; subst hp; exact ⟨hok.1.1.1, hy, Nat.le_refl _, Nat.le_refl _⟩, Nat.le_refl _, Nat.le_refl _⟩
    have hlo : lo' = .bottom ∨ Can lo' := A.can
    have hup' : Rng (Bn up' ++ Bn bd') n1 n3 := B.rng.app hrngd hBl hDl
    have hall : Rng (Bn lo' ++ (Bn up' ++ Bn bd')) n n3 := A.rng.app hup' hAl (by lia)
    refine ⟨.inr ⟨hlo, hcb, subR_can bd1 hTc hcd hsub⟩, fun e => (by cases e), fun e => (by cases e), by ((try dsimp only [Kd.ok]) <;> simp [hy, A.ok, B.ok, hone.1]), by dsimp only [Kd.sz]; lia, Nat.add_le_add_left (mxm hAh (mxm hBh (Nat.le_trans hpt hDh))) 1, by lia, by dsimp only [Kd.sz]; lia, ?_, ?_, fun e => (by ((try dsimp only [Bn] at e) <;> simp at e)), fun e => (by ((try dsimp only [Bn] at e) <;> simp at e)), fun ρ => ?_, fun ρ hs => ?_, rfl, fun e => (by cases e)⟩
    · intro b hb
      rcases List.mem_cons.mp hb with rfl | hb
      · exact ⟨x, n', by lia, Nat.le_refl _, rfl, hxl⟩
      · exact hall.mono (Nat.le_refl _) (by lia) b hb
    · refine List.nodup_cons.mpr ⟨fun m => ?_, A.rng.nodup hup' A.nd (B.rng.nodup hrngd B.nd hndd)⟩
      obtain ⟨z, j, h1, h2, e, _⟩ := hall _ m
      have := nm_inj e
      lia
    · dsimp only [PV]
      rw [A.pv, B.pv, (hpv (upP ρ (nm x n')) ⟨0, by ((try dsimp only [upP]) <;> simp)⟩).1, ← D.pv]
      congr 4
      refine congrArg (fun d => [d]) (PV_agree bd1 fun z hz => ?_)
      have hzy : z ≠ nm x n' := fun e => hfr (e ▸ hz)
      unfold upP
      by_cases e : z = x
      · simp [e]
      · simp [e, hzy]
    · dsimp only [Fk]
      rw [A.fk ρ hs, B.fk ρ hs, subR_form bd1 hTo hTc D.ok (.inr hcd) (hs.up _) (fun z q ζ e => ?_) hsub, ← D.fk _ (hs.up x)]
      · congr 1
        refine Fk_agree bd1 fun z hz => ?_
        have hzy : z ≠ nm x n' := fun e => hfr (e ▸ hz)
        unfold cmpE
        rw [one_lookup]
        by_cases e : z = x
        · ((try dsimp only [vE, upE]) <;> simp [e])
        · ((try dsimp only [upE]) <;> simp [e, hzy])
      · rw [one_lookup] at e
        split at e
        · cases e; exact .inl ⟨_, rfl⟩
        · cases e
theorem rens_main : ∀ (ks : List Kd) {rs : List Kd} {n n' : Nat}, (∀ k ∈ ks, RenI k) → Cans ks → n + 101 * Kd.szs ks < 1000000 → RenRs ks rs n n' → RenPs ks rs n n'
  | [], rs, n, n', _, _, hn, h => by
    obtain ⟨rfl, rfl⟩ := h
    exact ⟨trivial, rfl, rfl, Nat.le_refl _, Nat.le_refl _, Nat.le_refl _, by lia, by intro b hb; ((try dsimp only [Bns] at hb) <;> simp at hb), by ((try dsimp only [Bns]) <;> simp), fun ζ => rfl, fun ζ => rfl, fun ζ => rfl, fun ζ ζ => rfl, id, by simp⟩
  | k :: ks, rs, n, n', hi, hc, hn, h => by
    obtain ⟨q, qs, m, h1, h2, rfl⟩ := h
    dsimp only [Kd.szs] at hn
    have R := ren_main k (hi k (by simp)) (by lia) h1
    have hu := R.up
    have T := rens_main ks (fun p hp => hi p (List.mem_cons_of_mem _ hp)) hc.2 (by lia) h2
    have hcq : Can q := R.can.elim (fun e => absurd (R.bot e) (can_nb hc.1)) id
    have a1 := R.sz
    have a2 := R.ht
    have a3 := T.sz
    have a4 := T.ht
    have a5 := T.up
    have a6 := R.le
    have a7 := T.le
    refine ⟨⟨hcq, T.can⟩, by simp [T.len], by ((try dsimp only [Kd.oks]) <;> simp [R.ok, T.ok]), by dsimp only [Kd.szs]; lia, by dsimp only [Kd.hts]; lia, by lia, by dsimp only [Kd.szs]; lia, R.rng.app T.rng a6 a7, R.rng.nodup T.rng R.nd T.nd, fun e => ?_, fun e => ?_, fun ρ => by dsimp only [PVs]; rw [R.pv, T.pv], fun ρ hs => by dsimp only [Fks]; rw [R.fk ρ hs, T.fk ρ hs], fun hnd => ?_, fun r hr => ?_⟩
    · ((try dsimp only [Bns] at e) <;> simp only [List.append_eq_nil_iff] at e)
      rw [R.nob e.1, T.nob e.2]
    · ((try dsimp only [Bns] at e) <;> simp only [List.append_eq_nil_iff] at e)
      ((try dsimp only [Bns]) <;> simp [R.nob' e.1, T.nob' e.2])
    · obtain ⟨n1, n2⟩ := List.nodup_cons.mp hnd
      refine List.nodup_cons.mpr ⟨fun mem => ?_, T.nodup n2⟩
      obtain ⟨k2, hk2, a, b, ha, hb, P⟩ := T.one q mem
      have hemp : Bn q = [] := by
        cases e : Bn q with
        | nil => rfl
        | cons b l =>
          have h1 := R.rng.apart P.rng ha b (by rw [e]; simp)
          exact absurd (by rw [e]; simp) h1
      have e1 := R.nob (R.nob' hemp)
      have e2 := P.nob (P.nob' hemp)
      rw [e1] at e2
      exact n1 (e2 ▸ hk2)
    · rcases List.mem_cons.mp hr with rfl | hr
      · exact ⟨k, by simp, n, m, Nat.le_refl _, a7, R⟩
      · obtain ⟨k2, hk2, a, b, ha, hb, P⟩ := T.one r hr
        exact ⟨k2, List.mem_cons_of_mem _ hk2, a, b, by lia, hb, P⟩
end
end
/-! F7 -/
section
/-! ## free names in forms; sorted names -/
mutual
noncomputable def LF : Fo → List Str
  | .bnd _ => []
  | .fre x => [x]
  | .name _ ps => LFs ps
  | .tup p => LF p
  | .tupv p r => LF p ++ LF r
  | .uni ps => LFs ps
  | .all lo up bd => LF lo ++ (LF up ++ LF bd)
  | .typeof k => LF k
  | .bottom => []
noncomputable def LFs : List Fo → List Str
  | [] => []
  | k :: ks => LF k ++ LFs ks
end
theorem LFs_mem {y : Str} : ∀ {fs : List Fo}, y ∈ LFs fs ↔ ∃ f ∈ fs, y ∈ LF f
  | [] => by ((try dsimp only [LFs]) <;> simp)
  | f :: fs => by ((try dsimp only [LFs]) <;> simp [LFs_mem (fs := fs)])
set_option tactic.hygienic true in
theorem LF_joined {gs : List Fo} (h : ∀ g ∈ gs, flF g = [g] ∧ g ≠ anyF) (y : Str) : y ∈ LF (joined gs) ↔ ∃ g ∈ gs, y ∈ LF g := by
  have hf : gs.flatMap flF = gs := by
    induction gs with
    | nil => rfl
    | cons g gs ih => rw [List.flatMap_cons, (h g (by simp)).1, ih fun q hq => h q (List.mem_cons_of_mem _ hq)]; rfl
  have hm : ∀ x, x ∈ ddF [] gs ↔ x ∈ gs := fun x => by rw [ddF_mem]; simp
  unfold joined jnF
  rw [hf, if_neg fun q => (h _ ((hm _).mp q)).2 rfl]
  split
  · rename_i k e
    constructor
    · exact fun hy => ⟨k, (hm k).mp (by rw [e]; simp), hy⟩
    · rintro ⟨g, hg, hy⟩
      have := (hm g).mpr hg
      rw [e] at this
      simp at this; subst this; exact hy
  · ((try dsimp only [LF]) <;> simp only [LFs_mem, (srtF_perm _).mem_iff, hm])
mutual
theorem LF_kind : ∀ (k : Kd) {ρ : Str → Bv}, (k = .bottom ∨ Can k) → Smp ρ → ∀ y, y ∈ LF (Fk k ρ) ↔ FreeIn y k ∧ ρ y = .c (.fre y)
  | .var x, ρ, _, hs, y => by
    dsimp only [Fk, FreeIn]
    rcases hs x with ⟨i, e⟩ | e
    · rw [e]
      ((try dsimp only [Bv.fo, LF]) <;> simp only [List.not_mem_nil, false_iff, not_and])
      rintro rfl h
      rw [e] at h; cases h
    · rw [e]
      ((try dsimp only [Bv.fo, LF]) <;> simp only [List.mem_singleton])
      constructor
      · rintro rfl; exact ⟨rfl, e⟩
      · exact fun h => h.1
  | .name x ps, ρ, hc, hs, y => by dsimp only [Fk, LF, FreeIn]; exact LFs_kind ps (hc.resolve_left nofun) hs y
  | .tup p, ρ, hc, hs, y => by dsimp only [Fk, LF, FreeIn]; exact LF_kind p (.inr (hc.resolve_left nofun)) hs y
  | .tupv p r, ρ, hc, hs, y => by
    have hc : Can p ∧ Can r := hc.resolve_left nofun
    ((try dsimp only [Fk, LF, FreeIn]) <;> simp only [List.mem_append, LF_kind p (.inr hc.1) hs y, LF_kind r (.inr hc.2) hs y])
    constructor
    · rintro (h | h)
      · exact ⟨.inl h.1, h.2⟩
      · exact ⟨.inr h.1, h.2⟩
    · rintro ⟨h | h, h2⟩
      · exact .inl ⟨h, h2⟩
      · exact .inr ⟨h, h2⟩
  | .uni ps, ρ, hc, hs, y => by
    have hc : Can (.uni ps) := by simpa using hc
    dsimp only [Fk, FreeIn]
    rw [LF_joined, ← LFs_mem]
    · exact LFs_kind ps hc.1 hs y
    · intro g hg
      rw [Fks_eq] at hg
      obtain ⟨p, hp, rfl⟩ := List.mem_map.mp hg
      have := Fk_head (cans_iff.mp hc.1 p hp) (hc.2.2.1 p hp).1 hs
      exact ⟨this.1, fun e => (hc.2.2.1 p hp).2 (this.2.mp e)⟩
  | .all x lo up bd, ρ, hc, hs, y => by
    have hc : Can (.all x lo up bd) := by simpa using hc
    ((try dsimp only [Fk, LF, FreeIn]) <;> simp only [List.mem_append, LF_kind lo hc.1 hs y, LF_kind up (.inr hc.2.1) hs y, LF_kind bd (.inr hc.2.2) (hs.up x) y])
    have hu : upE ρ x y = .c (.fre y) ↔ y ≠ x ∧ ρ y = .c (.fre y) := by
      unfold upE
      by_cases e : y = x
      · simp [e]
      · rw [if_neg e]
        rcases hs y with ⟨i, ei⟩ | ei
        · rw [ei]; ((try dsimp only [Bv.sft]) <;> simp)
        · rw [ei]; ((try dsimp only [Bv.sft]) <;> simp [e])
    rw [hu]
    constructor
    · rintro (h | h | h)
      · exact ⟨.inl h.1, h.2⟩
      · exact ⟨.inr (.inl h.1), h.2⟩
      · exact ⟨.inr (.inr ⟨h.1, h.2.1⟩), h.2.2⟩
    · rintro ⟨h | h | h, h2⟩
      · exact .inl ⟨h, h2⟩
      · exact .inr (.inl ⟨h, h2⟩)
      · exact .inr (.inr ⟨h.1, h.2, h2⟩)
  | .typeof p, ρ, hc, hs, y => by dsimp only [Fk, LF, FreeIn]; exact LF_kind p (.inr (hc.resolve_left nofun)) hs y
  | .bottom, ρ, _, _, y => by ((try dsimp only [Fk, LF, FreeIn]) <;> simp)
theorem LFs_kind : ∀ (ks : List Kd) {ρ : Str → Bv}, Cans ks → Smp ρ → ∀ y, y ∈ LFs (Fks ks ρ) ↔ FreesIn y ks ∧ ρ y = .c (.fre y)
  | [], ρ, _, _, y => by ((try dsimp only [Fks, LFs, FreesIn]) <;> simp)
  | k :: ks, ρ, hc, hs, y => by
    ((try dsimp only [Fks, LFs, FreesIn]) <;> simp only [List.mem_append, LF_kind k (.inr hc.1) hs y, LFs_kind ks hc.2 hs y])
    constructor
    · rintro (h | h)
      · exact ⟨.inl h.1, h.2⟩
      · exact ⟨.inr h.1, h.2⟩
    · rintro ⟨h | h, h2⟩
      · exact .inl ⟨h, h2⟩
      · exact .inr ⟨h, h2⟩
end
theorem LF_kind0 {k : Kd} (hc : Can k) (y : Str) : y ∈ LF (Fk k ρ0) ↔ FreeIn y k := by
  rw [LF_kind k (.inr hc) ρ0_smp y]
  ((try dsimp only [ρ0]) <;> simp)
/-! ### names in order -/
theorem risingS_go : ∀ {l : List Str} {p : Str}, risingS p l = true → (∀ x ∈ l, strO.blt x.cps.toList p.cps.toList = false) ∧ l.Pairwise (fun a b => strO.blt b.cps.toList a.cps.toList = false)
  | [], _, _ => ⟨by simp, .nil⟩
  | x :: l, p, h => by
    simp only [risingS, Bool.and_eq_true, Bool.not_eq_true', ltCps_eq] at h
    obtain ⟨h1, h2⟩ := risingS_go h.2
    have h0 : strO.blt x.cps.toList p.cps.toList = false := h.1
    refine ⟨fun y hy => ?_, List.pairwise_cons.mpr ⟨h1, h2⟩⟩
    rcases List.mem_cons.mp hy with rfl | hy
    · exact h0
    · have := h1 y hy
      cases e : strO.blt y.cps.toList p.cps.toList with
      | false => rfl
      | true =>
        rcases strO.negTrans _ x.cps.toList _ e with q | q
        · rw [q] at this; cases this
        · rw [q] at h0; cases h0
theorem sortedS_pairwise {l : List Str} (h : sortedS l = true) : l.Pairwise (fun a b => strO.blt b.cps.toList a.cps.toList = false) := by
  cases l with
  | nil => exact .nil
  | cons x l => exact List.pairwise_cons.mpr (risingS_go h)
theorem sortedS_eq {l m : List Str} (h1 : sortedS l = true) (h2 : sortedS m = true) (hp : l.Perm m) : l = m := by
  refine List.Perm.eq_of_pairwise (le := fun a b => strO.blt b.cps.toList a.cps.toList = false) ?_ (sortedS_pairwise h1) (sortedS_pairwise h2) hp
  intro a b _ _ ha hb
  exact str_of_list (strO.total _ _ hb ha)
/-- names, each once, in the order of their first places -/
noncomputable def onceL (acc l : List Str) : List Str := l.foldl (fun acc x => if x ∈ acc then acc else acc ++ [x]) acc
theorem onceL_mem {y : Str} : ∀ {l acc : List Str}, y ∈ onceL acc l ↔ y ∈ acc ∨ y ∈ l
  | [], acc => by ((try dsimp only [onceL]) <;> simp)
  | x :: l, acc => by
    show y ∈ onceL (if x ∈ acc then acc else acc ++ [x]) l ↔ _
    rw [onceL_mem]
    split
    · rename_i h
      constructor
      · rintro (h' | h')
        · exact .inl h'
        · exact .inr (List.mem_cons_of_mem _ h')
      · rintro (h' | h')
        · exact .inl h'
        · rcases List.mem_cons.mp h' with rfl | h'
          · exact .inl h
          · exact .inr h'
    · simp [or_assoc]
theorem onceL_nodup : ∀ {l acc : List Str}, acc.Nodup → (onceL acc l).Nodup
  | [], _, h => h
  | x :: l, acc, h => by
    show (onceL (if x ∈ acc then acc else acc ++ [x]) l).Nodup
    refine onceL_nodup ?_
    split
    · exact h
    · rename_i hx
      exact List.nodup_append.mpr ⟨h, by simp, fun a ha b hb => by simp at hb; subst hb; exact fun e => hx (e ▸ ha)⟩
end
/-! F8 -/
section
/-! ## how large forms are -/
mutual
noncomputable def Fo.sz : Fo → Nat
  | .bnd _ => 1
  | .fre _ => 1
  | .name _ ps => 1 + Fo.szs ps
  | .tup p => 1 + p.sz
  | .tupv p r => 1 + p.sz + r.sz
  | .uni ps => 1 + Fo.szs ps
  | .all a b c => 1 + a.sz + b.sz + c.sz
  | .typeof k => 1 + k.sz
  | .bottom => 1
noncomputable def Fo.szs : List Fo → Nat
  | [] => 0
  | k :: ks => k.sz + Fo.szs ks
end
mutual
noncomputable def Fo.ht : Fo → Nat
  | .bnd _ => 1
  | .fre _ => 1
  | .name _ ps => 1 + Fo.hts ps
  | .tup p => 1 + p.ht
  | .tupv p r => 1 + max p.ht r.ht
  | .uni ps => 1 + Fo.hts ps
  | .all a b c => 1 + max a.ht (max b.ht c.ht)
  | .typeof k => 1 + k.ht
  | .bottom => 1
noncomputable def Fo.hts : List Fo → Nat
  | [] => 0
  | k :: ks => max k.ht (Fo.hts ks)
end
/- names as they may stand, indices below a thousand -/
mutual
noncomputable def Fo.good : Fo → Bool
  | .bnd i => decide (i < 1000)
  | .fre x => nmOk x
  | .name x ps => nmOk x && Fo.goods ps
  | .tup p => p.good
  | .tupv p r => p.good && r.good
  | .uni ps => Fo.goods ps
  | .all lo up bd => lo.good && up.good && bd.good
  | .typeof k => k.good
  | .bottom => true
noncomputable def Fo.goods : List Fo → Bool
  | [] => true
  | k :: ks => k.good && Fo.goods ks
end
theorem Fo.sz_pos (f : Fo) : 1 ≤ f.sz := by cases f <;> dsimp only [Fo.sz] <;> lia
theorem Fo.ht_pos (f : Fo) : 1 ≤ f.ht := by cases f <;> dsimp only [Fo.ht] <;> lia
theorem Fo.goods_iff : ∀ {ks : List Fo}, Fo.goods ks = true ↔ ∀ k ∈ ks, k.good = true
  | [] => by ((try dsimp only [Fo.goods]) <;> simp)
  | k :: ks => by ((try dsimp only [Fo.goods]) <;> simp [Fo.goods_iff (ks := ks)])
theorem Fo.szs_mem : ∀ {ks : List Fo} {k : Fo}, k ∈ ks → k.sz ≤ Fo.szs ks
  | q :: ks, k, m => by
    rcases List.mem_cons.mp m with rfl | m
    · dsimp only [Fo.szs]; lia
    · have := Fo.szs_mem m; dsimp only [Fo.szs]; lia
theorem Fo.szs_append : ∀ ks ls : List Fo, Fo.szs (ks ++ ls) = Fo.szs ks + Fo.szs ls
  | [], ls => by ((try dsimp only [Fo.szs]) <;> simp)
  | k :: ks, ls => by dsimp only [List.cons_append, Fo.szs]; rw [Fo.szs_append ks ls]; lia
theorem Fo.szs_perm {ks ls : List Fo} (h : ks.Perm ls) : Fo.szs ks = Fo.szs ls := by
  induction h with
  | nil => rfl
  | cons x _ ih => ((try dsimp only [Fo.szs]) <;> simp only [ih])
  | swap x y l => dsimp only [Fo.szs]; lia
  | trans _ _ a b => exact a.trans b
theorem Fo.szs_length : ∀ ks : List Fo, ks.length ≤ Fo.szs ks
  | [] => Nat.le_refl _
  | k :: ks => by have := Fo.szs_length ks; have := k.sz_pos; dsimp only [Fo.szs, List.length_cons]; lia
theorem Fo.szs_filter (p : Fo → Bool) : ∀ ks : List Fo, Fo.szs (ks.filter p) ≤ Fo.szs ks
  | [] => Nat.le_refl _
  | k :: ks => by
    have := Fo.szs_filter p ks
    rw [List.filter_cons]
    split <;> dsimp only [Fo.szs] <;> lia
theorem Fo.hts_mem : ∀ {ks : List Fo} {k : Fo}, k ∈ ks → k.ht ≤ Fo.hts ks
  | q :: ks, k, m => by
    rcases List.mem_cons.mp m with rfl | m
    · dsimp only [Fo.hts]; lia
    · have := Fo.hts_mem m; dsimp only [Fo.hts]; lia
theorem Fo.hts_le : ∀ {ks : List Fo} {n : Nat}, (∀ k ∈ ks, k.ht ≤ n) → Fo.hts ks ≤ n
  | [], _, _ => Nat.zero_le _
  | k :: ks, n, h => by dsimp only [Fo.hts]; exact Nat.max_le.mpr ⟨h k (by simp), Fo.hts_le fun q m => h q (List.mem_cons_of_mem _ m)⟩
theorem flF_szs (f : Fo) : Fo.szs (flF f) ≤ f.sz := by
  unfold flF
  refine Nat.le_trans (Fo.szs_filter _ _) ?_
  split
  · dsimp only [Fo.sz]; lia
  · ((try dsimp only [Fo.szs]) <;> simp)
theorem flFs_szs : ∀ fs : List Fo, Fo.szs (fs.flatMap flF) ≤ Fo.szs fs
  | [] => Nat.le_refl _
  | f :: fs => by
    have := flF_szs f
    have := flFs_szs fs
    rw [List.flatMap_cons, Fo.szs_append]
    dsimp only [Fo.szs]; lia
theorem flF_mem {f g : Fo} (h : g ∈ flF f) : g.ht ≤ f.ht ∧ (f.good = true → g.good = true) := by
  unfold flF at h
  have h := (List.mem_filter.mp h).1
  split at h
  · have := Fo.hts_mem h
    refine ⟨by dsimp only [Fo.ht]; lia, fun hg => Fo.goods_iff.mp (by (dsimp only [Fo.good] at hg ⊢ <;> simpa using hg)) g h⟩
  · simp at h; subst h; exact ⟨Nat.le_refl _, id⟩
theorem ddF_szs : ∀ (l acc : List Fo), Fo.szs (ddF acc l) ≤ Fo.szs acc + Fo.szs l
  | [], acc => Nat.le_refl _
  | k :: l, acc => by
    have := ddF_szs l (addF acc k)
    have h2 : Fo.szs (addF acc k) ≤ Fo.szs acc + k.sz := by
      unfold addF; split
      · lia
      · rw [Fo.szs_append]; ((try dsimp only [Fo.szs]) <;> simp)
    show Fo.szs (ddF (addF acc k) l) ≤ _
    dsimp only [Fo.szs]; lia
theorem joined_facts (fs : List Fo) : (joined fs).sz ≤ 1 + Fo.szs fs ∧ (joined fs).ht ≤ 1 + Fo.hts fs ∧ (Fo.goods fs = true → (joined fs).good = true) := by
  have h1 := ddF_szs (fs.flatMap flF) []
  have h2 := flFs_szs fs
  dsimp only [Fo.szs] at h1
  have hm : ∀ g ∈ ddF [] (fs.flatMap flF), g.ht ≤ Fo.hts fs ∧ (Fo.goods fs = true → g.good = true) := fun g hg => by
    rw [ddF_mem] at hg
    obtain ⟨f, hf, hg⟩ := List.mem_flatMap.mp (by simpa using hg)
    have := flF_mem hg
    have := Fo.hts_mem hf
    exact ⟨by lia, fun h => (flF_mem hg).2 (Fo.goods_iff.mp h f hf)⟩
  unfold joined jnF
  split
  · exact ⟨by ((try dsimp only [anyF, Fo.sz, Fo.szs]) <;> simp), by ((try dsimp only [anyF, Fo.ht, Fo.hts]) <;> simp), fun ζ => by decide +kernel⟩
  · split
    · rename_i k e
      have := hm k (by rw [e]; simp)
      rw [e] at h1; dsimp only [Fo.szs] at h1
      exact ⟨by lia, by lia, this.2⟩
    · refine ⟨by show 1 + Fo.szs (srtF _) ≤ _; rw [Fo.szs_perm (srtF_perm _)]; lia, ?_, fun h => ?_⟩
      · have := Fo.hts_le (ks := srtF (ddF [] (fs.flatMap flF))) (n := Fo.hts fs) fun q hq => (hm q ((srtF_perm _).mem_iff.mp hq)).1
        dsimp only [Fo.ht]; lia
      · dsimp only [Fo.good]
        exact Fo.goods_iff.mpr fun q hq => (hm q ((srtF_perm _).mem_iff.mp hq)).2 h
/-- what an environment may give -/
noncomputable def Env1 (ρ : Str → Bv) (S H h : Nat) : Prop := ∀ x, match ρ x with
  | .b i => i + h ≤ 1000
  | .c f => f.sz ≤ S ∧ f.ht ≤ H ∧ (nmOk x = true → f.good = true)
theorem Env1.up {ρ : Str → Bv} {S H h : Nat} (e : Env1 ρ S H (h + 1)) (x : Str) (hh : h + 1 ≤ 1000) : Env1 (upE ρ x) S H h := fun z => by
  unfold upE
  have := e z
  by_cases q : z = x
  · simp [q]; lia
  · rw [if_neg q]
    cases r : ρ z with
    | b i => rw [r] at this; dsimp only [Bv.sft]; lia
    | c f => rw [r] at this; exact this
theorem Env1.le {ρ : Str → Bv} {S H h h' : Nat} (e : Env1 ρ S H h) (hh : h' ≤ h) : Env1 ρ S H h' := fun z => by
  have := e z
  cases r : ρ z with
  | b i => rw [r] at this; simp only at this ⊢; lia
  | c f => rw [r] at this; exact this
mutual
theorem Fk_facts {S H : Nat} (hS : 1 ≤ S) (hH : 1 ≤ H) : ∀ (k : Kd) {ρ : Str → Bv}, k.ok = true → k.ht ≤ 999 → Env1 ρ S H k.ht → (Fk k ρ).sz ≤ k.sz * S ∧ (Fk k ρ).ht ≤ k.ht + H ∧ (Fk k ρ).good = true
  | .var x, ρ, hk, hh, he => by
    have := he x
    dsimp only [Kd.ok] at hk
    dsimp only [Kd.ht] at this
    dsimp only [Fk, Kd.sz, Kd.ht]
    cases r : ρ x with
    | b i => rw [r] at this; dsimp only [Bv.fo, Fo.sz, Fo.ht, Fo.good]; simp only at this; exact ⟨by lia, by lia, by simp; lia⟩
    | c f => rw [r] at this; dsimp only [Bv.fo]; exact ⟨by lia, by lia, this.2.2 hk⟩
  | .name x ps, ρ, hk, hh, he => by
    ((try dsimp only [Kd.ok] at hk) <;> simp only [Bool.and_eq_true] at hk)
    dsimp only [Kd.ht] at hh he
    obtain ⟨a, b, c⟩ := Fks_facts hS hH ps hk.2 (by lia) (he.le (by lia))
    ((try dsimp only [Fk, Fo.sz, Fo.ht, Fo.good, Kd.sz, Kd.ht]) <;> simp only [Nat.add_mul, hk.1, c])
    exact ⟨by lia, by lia, by trivial⟩
  | .tup p, ρ, hk, hh, he => by
    dsimp only [Kd.ok] at hk
    dsimp only [Kd.ht] at hh he
    obtain ⟨a, b, c⟩ := Fk_facts hS hH p hk (by lia) (he.le (by lia))
    ((try dsimp only [Fk, Fo.sz, Fo.ht, Fo.good, Kd.sz, Kd.ht]) <;> simp only [Nat.add_mul, c])
    exact ⟨by lia, by lia, by trivial⟩
  | .tupv p r, ρ, hk, hh, he => by
    ((try dsimp only [Kd.ok] at hk) <;> simp only [Bool.and_eq_true] at hk)
    dsimp only [Kd.ht] at hh he
    obtain ⟨m1, m2⟩ := mx2l p.ht r.ht
    generalize max p.ht r.ht = M at hh he m1 m2
    obtain ⟨a, b, c⟩ := Fk_facts hS hH p hk.1 (by lia) (he.le (by lia))
    obtain ⟨a', b', c'⟩ := Fk_facts hS hH r hk.2 (by lia) (he.le (by lia))
    ((try dsimp only [Fk, Fo.sz, Fo.ht, Fo.good, Kd.sz, Kd.ht]) <;> simp only [Nat.add_mul, c, c'])
    exact ⟨by clear m1 m2 hh he b b'; lia, mx1 (mxh b b'), by trivial⟩
  | .uni ps, ρ, hk, hh, he => by
    dsimp only [Kd.ok] at hk
    dsimp only [Kd.ht] at hh he
    obtain ⟨a, b, c⟩ := Fks_facts hS hH ps hk (by lia) (he.le (by lia))
    obtain ⟨a', b', c'⟩ := joined_facts (Fks ps ρ)
    ((try dsimp only [Fk, Kd.sz, Kd.ht]) <;> simp only [Nat.add_mul])
    exact ⟨by lia, by lia, c' c⟩
  | .all x lo up bd, ρ, hk, hh, he => by
    ((try dsimp only [Kd.ok] at hk) <;> simp only [Bool.and_eq_true] at hk)
    dsimp only [Kd.ht] at hh he
    obtain ⟨m1, m2, m3⟩ := mx3l lo.ht up.ht bd.ht
    generalize max lo.ht (max up.ht bd.ht) = M at hh he m1 m2 m3
    obtain ⟨a1, b1, c1⟩ := Fk_facts hS hH lo hk.1.1.2 (by lia) (he.le (by lia))
    obtain ⟨a2, b2, c2⟩ := Fk_facts hS hH up hk.1.2 (by lia) (he.le (by lia))
    obtain ⟨a3, b3, c3⟩ := Fk_facts hS hH bd (ρ := upE ρ x) hk.2 (by lia) ((he.le (h' := bd.ht + 1) (by lia)).up x (by lia))
    ((try dsimp only [Fk, Fo.sz, Fo.ht, Fo.good, Kd.sz, Kd.ht]) <;> simp only [Nat.add_mul, c1, c2, c3])
    exact ⟨by clear m1 m2 m3 hh he b1 b2 b3; lia, mx1 (mxh b1 (mxh b2 b3)), by trivial⟩
  | .typeof p, ρ, hk, hh, he => by
    dsimp only [Kd.ok] at hk
    dsimp only [Kd.ht] at hh he
    obtain ⟨a, b, c⟩ := Fk_facts hS hH p hk (by lia) (he.le (by lia))
    ((try dsimp only [Fk, Fo.sz, Fo.ht, Fo.good, Kd.sz, Kd.ht]) <;> simp only [Nat.add_mul, c])
    exact ⟨by lia, by lia, by trivial⟩
  | .bottom, ρ, _, _, _ => by dsimp only [Fk, Fo.sz, Fo.ht, Fo.good, Kd.sz, Kd.ht]; exact ⟨by lia, by lia, by trivial⟩
theorem Fks_facts {S H : Nat} (hS : 1 ≤ S) (hH : 1 ≤ H) : ∀ (ks : List Kd) {ρ : Str → Bv}, Kd.oks ks = true → Kd.hts ks ≤ 999 → Env1 ρ S H (Kd.hts ks) → Fo.szs (Fks ks ρ) ≤ Kd.szs ks * S ∧ Fo.hts (Fks ks ρ) ≤ Kd.hts ks + H ∧ Fo.goods (Fks ks ρ) = true
  | [], ρ, _, _, _ => by ((try dsimp only [Fks, Fo.szs, Fo.hts, Fo.goods]) <;> simp)
  | k :: ks, ρ, hk, hh, he => by
    ((try dsimp only [Kd.oks] at hk) <;> simp only [Bool.and_eq_true] at hk)
    dsimp only [Kd.hts] at hh he
    obtain ⟨m1, m2⟩ := mx2l k.ht (Kd.hts ks)
    generalize max k.ht (Kd.hts ks) = M at hh he m1 m2
    obtain ⟨a, b, c⟩ := Fk_facts hS hH k hk.1 (by lia) (he.le (by lia))
    obtain ⟨a', b', c'⟩ := Fks_facts hS hH ks hk.2 (by lia) (he.le (by lia))
    ((try dsimp only [Fks, Fo.szs, Fo.hts, Fo.goods, Kd.szs, Kd.hts]) <;> simp only [Nat.add_mul, c, c'])
    exact ⟨by clear m1 m2 hh he b b'; lia, mxh b b', by trivial⟩
end
/-! ### their data -/
theorem okW : PyData.strOk (so "bound") = true ∧ PyData.strOk (so "free") = true ∧ PyData.strOk (so "name") = true ∧ PyData.strOk (so "tuple") = true ∧ PyData.strOk (so "union") = true ∧ PyData.strOk (so "all") = true ∧ PyData.strOk (so "typeof") = true ∧ PyData.strOk (so "bottom") = true ∧ PyData.strOk (so "var") = true := by decide +kernel
theorem wordLen : (so "bound").length = 5 ∧ (so "free").length = 4 ∧ (so "name").length = 4 ∧ (so "tuple").length = 5 ∧ (so "union").length = 5 ∧ (so "all").length = 3 ∧ (so "typeof").length = 6 ∧ (so "bottom").length = 6 ∧ (so "var").length = 3 := by decide +kernel
theorem small_int {i : Nat} (h : i < 1000) : (i : Int).natAbs < 10 ^ 100 := Nat.lt_trans (show (i : Int).natAbs < 1000 by lia) (by decide)
theorem wt_int {i : Nat} (h : i < 1000) : wt (.int (i : Int)) ≤ 6 := natS_len (Nat.lt_trans h (by decide))
structure Dat (x : PyData) (sz ht : Nat) : Prop where
  b : okB x = true
  w : wt x + 2 ≤ 4000 * sz
  d : x.depth ≤ 2 * ht + 1
mutual
theorem Fo.facts : ∀ f : Fo, f.good = true → Dat f.dat f.sz f.ht ∧ okD f.dat = true
  | .bnd i, h => by
    ((try dsimp only [Fo.good] at h) <;> simp only [decide_eq_true_eq] at h)
    have h1 := small_int h
    have h2 := wt_int h
    have := wordLen
    refine ⟨⟨an (by decide +kernel) (an (decide_eq_true h1) rfl), by dsimp only [Fo.dat, wt, wts, Fo.sz] at h2 ⊢; lia, by dsimp only [Fo.dat, PyData.depth, PyData.depthAll]; simp⟩, an (by decide +kernel) (an rfl rfl)⟩
  | .fre x, h => by
    dsimp only [Fo.good] at h
    have h1 := nmOk_ok h
    have h2 := nmOk_len h
    have := wordLen
    refine ⟨⟨an (by decide +kernel) (an h1 rfl), by dsimp only [Fo.dat, wt, wts, Fo.sz]; lia, by dsimp only [Fo.dat, PyData.depth, PyData.depthAll]; simp⟩, an (by decide +kernel) (an h1 rfl)⟩
  | .name x ps, h => by
    ((try dsimp only [Fo.good] at h) <;> simp only [Bool.and_eq_true] at h)
    have h1 := nmOk_ok h.1
    have h2 := nmOk_len h.1
    have := wordLen
    obtain ⟨a, b, c, d⟩ := Fo.factss ps h.2
    refine ⟨⟨an (by decide +kernel) (an h1 (an a rfl)), by dsimp only [Fo.dat, wt, wts, Fo.sz]; lia, by dsimp only [Fo.dat, PyData.depth, PyData.depthAll, Fo.ht]; lia⟩, an (by decide +kernel) (an h1 (an d rfl))⟩
  | .tup p, h => by
    dsimp only [Fo.good] at h
    have := wordLen
    obtain ⟨⟨a, b, c⟩, d⟩ := Fo.facts p h
    refine ⟨⟨an (by decide +kernel) (an (an a rfl) rfl), by dsimp only [Fo.dat, wt, wts, Fo.sz]; lia, by dsimp only [Fo.dat, PyData.depth, PyData.depthAll, Fo.ht]; lia⟩, an (by decide +kernel) (an (an d rfl) rfl)⟩
  | .tupv p r, h => by
    ((try dsimp only [Fo.good] at h) <;> simp only [Bool.and_eq_true] at h)
    have := wordLen
    obtain ⟨⟨a, b, c⟩, d⟩ := Fo.facts p h.1
    obtain ⟨⟨a', b', c'⟩, d'⟩ := Fo.facts r h.2
    refine ⟨⟨an (by decide +kernel) (an (an a rfl) (an a' rfl)), by dsimp only [Fo.dat, wt, wts, Fo.sz]; lia, by dsimp only [Fo.dat, PyData.depth, PyData.depthAll, Fo.ht]; simp only [Nat.zero_max, Nat.max_zero]; exact mxt c c'⟩, an (by decide +kernel) (an (an d rfl) (an d' rfl))⟩
  | .uni ps, h => by
    dsimp only [Fo.good] at h
    have := wordLen
    obtain ⟨a, b, c, d⟩ := Fo.factss ps h
    refine ⟨⟨an (by decide +kernel) (an a rfl), by dsimp only [Fo.dat, wt, wts, Fo.sz]; lia, by dsimp only [Fo.dat, PyData.depth, PyData.depthAll, Fo.ht]; lia⟩, an (by decide +kernel) (an d rfl)⟩
  | .all p q r, h => by
    ((try dsimp only [Fo.good] at h) <;> simp only [Bool.and_eq_true] at h)
    have := wordLen
    obtain ⟨⟨a, b, c⟩, d⟩ := Fo.facts p h.1.1
    obtain ⟨⟨a', b', c'⟩, d'⟩ := Fo.facts q h.1.2
    obtain ⟨⟨a'', b'', c''⟩, d''⟩ := Fo.facts r h.2
    refine ⟨⟨an (by decide +kernel) (an a (an a' (an a'' rfl))), by dsimp only [Fo.dat, wt, wts, Fo.sz]; lia, by dsimp only [Fo.dat, PyData.depth, PyData.depthAll, Fo.ht]; simp only [Nat.zero_max, Nat.max_zero]; exact mxs (mxk c (mxk c' c''))⟩, an (by decide +kernel) (an d (an d' (an d'' rfl)))⟩
  | .typeof p, h => by
    dsimp only [Fo.good] at h
    have := wordLen
    obtain ⟨⟨a, b, c⟩, d⟩ := Fo.facts p h
    refine ⟨⟨an (by decide +kernel) (an a rfl), by dsimp only [Fo.dat, wt, wts, Fo.sz]; lia, by dsimp only [Fo.dat, PyData.depth, PyData.depthAll, Fo.ht]; lia⟩, an (by decide +kernel) (an d rfl)⟩
  | .bottom, _ => by
    have := wordLen
    refine ⟨⟨by decide +kernel, by dsimp only [Fo.dat, wt, wts, Fo.sz]; lia, by dsimp only [Fo.dat, PyData.depth, PyData.depthAll]; simp⟩, by decide +kernel⟩
theorem Fo.factss : ∀ fs : List Fo, Fo.goods fs = true → okB.okBs (Fo.dats fs) = true ∧ wts (Fo.dats fs) ≤ 4000 * Fo.szs fs ∧ PyData.depthAll (Fo.dats fs) ≤ 2 * Fo.hts fs + 1 ∧ okD.okDs (Fo.dats fs) = true
  | [], _ => ⟨rfl, Nat.zero_le _, Nat.zero_le _, rfl⟩
  | f :: fs, h => by
    ((try dsimp only [Fo.goods] at h) <;> simp only [Bool.and_eq_true] at h)
    obtain ⟨⟨a, b, c⟩, d⟩ := Fo.facts f h.1
    obtain ⟨a', b', c', d'⟩ := Fo.factss fs h.2
    have := f.sz_pos
    refine ⟨an a a', by dsimp only [Fo.dats, wts, Fo.szs]; lia, mxk c c', an d d'⟩
end
end
/-! F9 -/
section
mutual
theorem shrt_of : ∀ k : Kd, (∀ b ∈ Bn k, b.length ≤ 100) → k.shrt = true
  | .var _, _ => rfl
  | .name _ ps, h => by dsimp only [Kd.shrt]; exact shrts_of ps h
  | .tup p, h => by dsimp only [Kd.shrt]; exact shrt_of p h
  | .tupv p q, h => by ((try dsimp only [Kd.shrt]) <;> simp only [shrt_of p fun b hb => h b (List.mem_append_left _ hb), shrt_of q fun b hb => h b (List.mem_append_right _ hb)]); rfl
  | .uni ps, h => by dsimp only [Kd.shrt]; exact shrts_of ps h
  | .all x lo up bd, h => by
    ((try dsimp only [Kd.shrt]) <;> simp only [shrt_of lo fun b hb => h b (by dsimp only [Bn]; simp [hb]), shrt_of up fun b hb => h b (by dsimp only [Bn]; simp [hb]), shrt_of bd fun b hb => h b (by dsimp only [Bn]; simp [hb])])
    simpa using h x (by ((try dsimp only [Bn]) <;> simp))
  | .typeof p, h => by dsimp only [Kd.shrt]; exact shrt_of p h
  | .bottom, _ => rfl
theorem shrts_of : ∀ ks : List Kd, (∀ b ∈ Bns ks, b.length ≤ 100) → Kd.shrts ks = true
  | [], _ => rfl
  | k :: ks, h => by ((try dsimp only [Kd.shrts]) <;> simp only [shrt_of k fun b hb => h b (List.mem_append_left _ hb), shrts_of ks fun b hb => h b (List.mem_append_right _ hb)]); rfl
end
/-! ## data of numbered kinds -/
theorem depthAll_perm {l m : List PyData} (h : l.Perm m) : PyData.depthAll l = PyData.depthAll m := by
  induction h with
  | nil => rfl
  | cons x _ ih => simp only [PyData.depthAll, ih]
  | swap x y l => exact Nat.max_left_comm _ _ _
  | trans _ _ a b => exact a.trans b
theorem wts_perm {l m : List PyData} (h : l.Perm m) : wts l = wts m := by
  induction h with
  | nil => rfl
  | cons x _ ih => ((try dsimp only [wts]) <;> simp only [ih])
  | swap x y l => dsimp only [wts]; lia
  | trans _ _ a b => exact a.trans b
theorem okBs_iff : ∀ {xs : List PyData}, okB.okBs xs = true ↔ ∀ x ∈ xs, okB x = true
  | [] => ⟨fun ζ x m => (List.not_mem_nil m).elim, fun ζ => rfl⟩
  | x :: xs => by dsimp only [okB.okBs]; simp [okBs_iff (xs := xs)]
noncomputable def Env2 (ρ : Str → Option Nat) (h : Nat) : Prop := ∀ x i, ρ x = some i → i + h ≤ 1000
theorem Env2.up {ρ : Str → Option Nat} {h : Nat} (e : Env2 ρ (h + 1)) (x : Str) (hh : h + 1 ≤ 1000) : Env2 (upP ρ x) h := fun z i q => by
  unfold upP at q
  by_cases r : z = x
  · simp [r] at q; lia
  · rw [if_neg r] at q
    obtain ⟨j, hj, rfl⟩ := Option.map_eq_some_iff.mp q
    have := e z j hj
    lia
theorem Env2.le {ρ : Str → Option Nat} {h h' : Nat} (e : Env2 ρ h) (hh : h' ≤ h) : Env2 ρ h' := fun z i q => by have := e z i q; lia
mutual
theorem PV_facts : ∀ (k : Kd) {ρ : Str → Option Nat}, k.ok = true → k.ht ≤ 999 → Env2 ρ k.ht → Dat (PV k ρ) k.sz k.ht
  | .var x, ρ, hk, hh, he => by
    have := wordLen
    dsimp only [Kd.ok] at hk
    dsimp only [PV]
    cases r : ρ x with
    | some i =>
      have hi := he x i r
      dsimp only [Kd.ht] at hi
      have h1 := small_int (i := i) (by lia)
      have h2 := wt_int (i := i) (by lia)
      exact ⟨an (by decide +kernel) (an (decide_eq_true h1) rfl), by dsimp only [wt, wts, Kd.sz] at h2 ⊢; lia, by dsimp only [PyData.depth, PyData.depthAll]; simp⟩
    | none =>
      have h2 := nmOk_len hk
      exact ⟨an (by decide +kernel) (an (nmOk_ok hk) rfl), by dsimp only [wt, wts, Kd.sz]; lia, by dsimp only [PyData.depth, PyData.depthAll]; simp⟩
  | .name x ps, ρ, hk, hh, he => by
    have := wordLen
    ((try dsimp only [Kd.ok] at hk) <;> simp only [Bool.and_eq_true] at hk)
    dsimp only [Kd.ht] at hh he
    obtain ⟨a, b, c⟩ := PVs_facts ps hk.2 (by lia) (he.le (by lia))
    have h2 := nmOk_len hk.1
    exact ⟨an (by decide +kernel) (an (nmOk_ok hk.1) (an a rfl)), by dsimp only [PV, wt, wts, Kd.sz]; lia, by dsimp only [PV, PyData.depth, PyData.depthAll, Kd.ht]; lia⟩
  | .tup p, ρ, hk, hh, he => by
    have := wordLen
    dsimp only [Kd.ok] at hk
    dsimp only [Kd.ht] at hh he
    obtain ⟨a, b, c⟩ := PV_facts p hk (by lia) (he.le (by lia))
    exact ⟨an (by decide +kernel) (an (an a rfl) rfl), by dsimp only [PV, wt, wts, Kd.sz]; lia, by dsimp only [PV, PyData.depth, PyData.depthAll, Kd.ht]; lia⟩
  | .tupv p q, ρ, hk, hh, he => by
    have := wordLen
    ((try dsimp only [Kd.ok] at hk) <;> simp only [Bool.and_eq_true] at hk)
    dsimp only [Kd.ht] at hh he
    obtain ⟨m1, m2⟩ := mx2l p.ht q.ht
    generalize max p.ht q.ht = M at hh he m1 m2
    obtain ⟨a, b, c⟩ := PV_facts p hk.1 (by lia) (he.le (by lia))
    obtain ⟨a', b', c'⟩ := PV_facts q hk.2 (by lia) (he.le (by lia))
    exact ⟨an (by decide +kernel) (an (an a (an a' rfl)) rfl), by clear hh he m1 m2 c c'; dsimp only [PV, wt, wts, Kd.sz]; lia, by dsimp only [PV, PyData.depth, PyData.depthAll, Kd.ht]; simp only [Nat.zero_max, Nat.max_zero]; exact mxs2 (mxk c c')⟩
  | .uni ps, ρ, hk, hh, he => by
    have := wordLen
    dsimp only [Kd.ok] at hk
    dsimp only [Kd.ht] at hh he
    obtain ⟨a, b, c⟩ := PVs_facts ps hk (by lia) (he.le (by lia))
    have hp := srtD_perm (PVs ps ρ)
    have h1 := wts_perm hp
    have h2 := depthAll_perm hp
    have h3 : okB.okBs (srtD (PVs ps ρ)) = true := okBs_iff.mpr fun x hx => okBs_iff.mp a x (hp.mem_iff.mp hx)
    exact ⟨an (by decide +kernel) (an h3 rfl), by dsimp only [PV, wt, wts, Kd.sz]; lia, by dsimp only [PV, PyData.depth, PyData.depthAll, Kd.ht]; lia⟩
  | .all x lo up bd, ρ, hk, hh, he => by
    have := wordLen
    ((try dsimp only [Kd.ok] at hk) <;> simp only [Bool.and_eq_true] at hk)
    dsimp only [Kd.ht] at hh he
    obtain ⟨m1, m2, m3⟩ := mx3l lo.ht up.ht bd.ht
    generalize max lo.ht (max up.ht bd.ht) = M at hh he m1 m2 m3
    obtain ⟨a, b, c⟩ := PV_facts lo hk.1.1.2 (by lia) (he.le (by lia))
    obtain ⟨a', b', c'⟩ := PV_facts up hk.1.2 (by lia) (he.le (by lia))
    obtain ⟨a'', b'', c''⟩ := PV_facts bd (ρ := upP ρ x) hk.2 (by lia) ((he.le (h' := bd.ht + 1) (by lia)).up x (by lia))
    exact ⟨an (by decide +kernel) (an a (an a' (an a'' rfl))), by clear hh he m1 m2 m3 c c' c''; dsimp only [PV, wt, wts, Kd.sz]; lia, by dsimp only [PV, PyData.depth, PyData.depthAll, Kd.ht]; simp only [Nat.zero_max, Nat.max_zero]; exact mxs (mxk c (mxk c' c''))⟩
  | .typeof p, ρ, hk, hh, he => by
    have := wordLen
    dsimp only [Kd.ok] at hk
    dsimp only [Kd.ht] at hh he
    obtain ⟨a, b, c⟩ := PV_facts p hk (by lia) (he.le (by lia))
    exact ⟨an (by decide +kernel) (an a rfl), by dsimp only [PV, wt, wts, Kd.sz]; lia, by dsimp only [PV, PyData.depth, PyData.depthAll, Kd.ht]; lia⟩
  | .bottom, ρ, _, _, _ => by
    have := wordLen
    exact ⟨by show okB (.tuple [.str (so "bottom")]) = true; decide +kernel, by dsimp only [PV, wt, wts, Kd.sz]; lia, by dsimp only [PV, PyData.depth, PyData.depthAll]; simp⟩
theorem PVs_facts : ∀ (ks : List Kd) {ρ : Str → Option Nat}, Kd.oks ks = true → Kd.hts ks ≤ 999 → Env2 ρ (Kd.hts ks) → okB.okBs (PVs ks ρ) = true ∧ wts (PVs ks ρ) ≤ 4000 * Kd.szs ks ∧ PyData.depthAll (PVs ks ρ) ≤ 2 * Kd.hts ks + 1
  | [], ρ, _, _, _ => ⟨rfl, Nat.zero_le _, Nat.zero_le _⟩
  | k :: ks, ρ, hk, hh, he => by
    ((try dsimp only [Kd.oks] at hk) <;> simp only [Bool.and_eq_true] at hk)
    dsimp only [Kd.hts] at hh he
    obtain ⟨m1, m2⟩ := mx2l k.ht (Kd.hts ks)
    generalize max k.ht (Kd.hts ks) = M at hh he m1 m2
    obtain ⟨a, b, c⟩ := PV_facts k hk.1 (by lia) (he.le (by lia))
    obtain ⟨a', b', c'⟩ := PVs_facts ks hk.2 (by lia) (he.le (by lia))
    have := k.sz_pos
    exact ⟨an a a', by clear hh he m1 m2 c c'; dsimp only [PVs, wts, Kd.szs]; lia, mxk c c'⟩
end
/-- the names above, innermost first -/
noncomputable def ixP (bs : List Str) : Str → Option Nat := fun z => if z ∈ bs then some (bs.idxOf z) else none
theorem ixP_up (bs : List Str) (x : Str) : upP (ixP bs) x = ixP (x :: bs) := by
  funext z
  unfold upP ixP
  by_cases e : z = x
  · subst e; simp
  · rw [if_neg e]
    by_cases h : z ∈ bs
    · rw [if_pos h, if_pos (List.mem_cons_of_mem _ h), List.idxOf_cons]
      have : (x == z) = false := by simpa using Ne.symm e
      simp [this]
    · rw [if_neg h, if_neg (by simp [e, h])]; rfl
theorem ixP_env {bs : List Str} {h : Nat} (hb : bs.length + h ≤ 1000) : Env2 (ixP bs) h := fun z i q => by
  unfold ixP at q
  split at q
  · rename_i hz
    simp only [Option.some.injEq] at q
    have := List.idxOf_lt_length_of_mem hz
    lia
  · cases q
end
/-! R15 -/
section
/-! ## an object that counts -/
section
variable {c : Cx} {as : List Addr} {st : List (Str × Sl)} {ob : List Ob} {s s' : Shared} {p : Pos} {e l r : Expr} {K : Sl → List Ob → Prop}
noncomputable abbrev manyS : Str := Str.ofString "many"
theorem Gs.at (G : Gs c.g) (F : Fm c as st ob s) : c.g.K.In s.heap := fun a o e => F.base _ _ (G.toGd.K a o e)
theorem Fm.sup (F : Fm c as st ob s) {i : Nat} {n : Option Nat} {v : Value} (h : Sl.Is s.heap as v (.ins 41 i)) (hi : ob[i]? = some (.sup n)) :
    ∃ a d es m, as[i]? = some d ∧ v = .ref a ∧ s.heap.get? a = some { cls := .ref 41, dict := some d, data := .plain } ∧ s.heap.get? d = some (dictOf es m) ∧ SupE n es ∧ InstAt s.heap a { cls := .ref 41, dict := some d, data := .plain } 41 (some (dictOf es m)) := by
  obtain ⟨a, d, hd, rfl, ha⟩ := h
  obtain ⟨o', ho', hat⟩ := F.obs.get hd
  rw [hi] at ho'; cases ho'
  obtain ⟨es, m, hes, hE⟩ := hat
  exact ⟨a, d, es, m, hd, rfl, ha, hes, hE, ⟨ha, rfl, rfl, hes⟩⟩
/-- `self.many` -/
theorem Ev.getSup {x : Str} {xp : Pos} {i n : Nat} (G : Gs c.g) (hx : st.lookup x = some (.ins 41 i)) (hi : ob[i]? = some (.sup (some n))) (k : K (.dat (.int n)) ob)
    (hd : (x == ("__debug__" : Str)) = false := by decide) (hn : (x == ("__classdict__" : Str)) = false := by decide) : Ev c (.Attribute (.Name x xp) manyS p) st ob K := by
  refine ⟨fun as s F => Attribute_name (wpAny_mono ((Ev.name (K := fun a ob1 => a = .ins 41 i ∧ ob1 = ob) hx ⟨rfl, rfl⟩ hd hn).run as s F) ?_ fun ζ ζ x => x)⟩
  rintro v s1 ⟨sl, ob1, n1, F1, h1, t1, rfl, rfl⟩
  obtain ⟨a, d, es, m, hd', rfl, ha, hes, ⟨hs, t, u, rfl⟩, I⟩ := F1.sup h1 hi
  refine get_value (G.at F1) I (by rw [G.hK]; rfl) (findObj_own (attr := none) (by rw [G.hK]; rfl) (by rw [G.hK]; rfl) rfl (v := .int (n : Int) u) ?_) rfl ?_
  · rw [lookIn_dict]; simp [getL, Value.isStr]
  · exact ⟨.dat (.int n), ob1, n1, F1.toks _, Reads.int _ _, t1, k⟩
theorem supE_look {n : Option Nat} {es : List DictEntry} (h : SupE n es) (m : Nat) : (lookIn (Str.ofString "next") (dictOf es m)) = some none := by
  cases n with
  | none => rw [show es = [] from h]; rfl
  | some n =>
    obtain ⟨hs, t, u, rfl⟩ := h
    rw [lookIn_dict]
    have hne : (Str.ofString "many" == Str.ofString "next") = false := by decide +kernel
    simp only [getL, List.find?_cons, Value.isStr, hne, List.find?_nil, List.any_cons, DictEntry.refKey, List.any_nil, Bool.or_false]
    rfl
theorem supE_put {n : Option Nat} {es : List DictEntry} (h : SupE n es) (hsh : Int) (t : Tok) (q : Nat) (u : Tok) : SupE (some q) (putL manyS hsh (.str manyS t) (.int (q : Int) u) es) := by
  cases n with
  | none => rw [show es = [] from h]; exact ⟨hsh, t, u, rfl⟩
  | some n =>
    obtain ⟨hs, t', u', rfl⟩ := h
    exact ⟨hs, t', u, by simp [putL, Value.isStr]⟩
theorem supE_len {n : Option Nat} {es : List DictEntry} (h : SupE n es) : es.length ≤ 1 := by
  cases n with
  | none => rw [show es = [] from h]; simp
  | some n => obtain ⟨_, _, _, rfl⟩ := h; simp
theorem supE_new {n : Option Nat} {es : List DictEntry} (h : SupE n es) : (!es.toArray.any (·.key.isStr manyS) && es.toArray.any (·.refKey)) = false := by
  cases n with
  | none => rw [show es = [] from h]; simp
  | some n => obtain ⟨_, _, _, rfl⟩ := h; simp [DictEntry.refKey]
/-- `self.many = ..` -/
theorem Ex.setSup {x : Str} {xp p' : Pos} {i : Nat} {n : Option Nat} {K : Fl → List (Str × Sl) → List Ob → Prop} (G : Gs c.g) (hx : st.lookup x = some (.ins 41 i)) (hm : c.n₀ ≤ i ∨ i ∈ c.mu)
    (h : Ev c e st ob fun v ob1 => ∃ q : Nat, v = .dat (.int q) ∧ ob1[i]? = some (.sup n) ∧ K .nx st (ob1.set i (.sup (some q))))
    (hs : swapsWith e (some (.Attribute (.Name x xp) manyS p')) p.line c.env = pure false)
    (hd : (x == ("__debug__" : Str)) = false := by decide) (hn : (x == ("__classdict__" : Str)) = false := by decide) : Ex c (.Assign [.Attribute (.Name x xp) manyS p'] e p) st ob K := by
  refine ⟨fun as s F => plainObj_wpAny_Assign_Attribute (wpAny_mono (h.run as s F) ?_ fun ζ ζ x => x) hs⟩
  rintro v s1 ⟨sl, ob1, n1, F1, h1, t1, q, rfl, hi, k⟩
  refine wpAny_mono ((Ev.name (K := fun a ob2 => a = .ins 41 i ∧ ob2 = ob1) hx ⟨rfl, rfl⟩ hd hn).run _ s1 F1) ?_ fun ζ ζ x => x
  rintro ov s2 ⟨sl2, ob2, n2, F2, h2, t2, rfl, rfl⟩
  obtain ⟨u, rfl⟩ := D.int_inv (h1.up t2 n2)
  obtain ⟨a, d, es, m, hd', rfl, ha, hes, hE, I⟩ := F2.sup h2 hi
  have X := G.at F2
  refine set_plain X I (by rw [G.hK]; rfl) ?_
  refine osa_open (s := { s2 with toks := s2.toks + 1 }) X I (by rw [G.hK]; rfl) (r := none) (by rw [G.hK]; rfl) fun b => ?_
  have hcd : hasDictIn c.g.K 41 = true := by rw [G.hK]; rfl
  obtain ⟨cd, hc, hcd⟩ := any_some hcd
  refine wpAny_bind (wpAny_pure (wpAny_bind (wpAny_bind (wpAny_loadPart ha (wpAny_bind (looks_clsIn X hc _ _ _ _ (fun ζ ζ e => e) ?_))))))
  rw [hcd]
  refine wpAny_pure (a := some d) (wpAny_bind (wpAny_pure (wpAny_bind ?_)))
  unfold nsSet
  refine wpAny_bind (wpAny_bind (wpAny_askSetting (wpAny_pure (wpAny_bind (wpAny_mkText (wpAny_bind (wpAny_loadPart hes ?_)))))))
  show wpAny _ _ (if aRefKeyMayBeTheName manyS es.toArray = true then _ else _) _ _ _
  rw [aRefKeyMayBeTheName_at, supE_new hE]
  refine wpAny_updatePart hes ?_
  generalize (if manyS.cps.isEmpty = true then (0 : Int) else _) = hsh
  have hu : (s2.heap.update d (Obj.putName manyS hsh (Value.str manyS (s2.toks + 1)) (.int (q : Int) u))).get? d = some (dictOf (putL manyS hsh (.str manyS (s2.toks + 1)) (.int (q : Int) u) es) (putN manyS es m)) := by
    rw [Heap.get?_update_self _ hes (by rw [putName_dict]; rfl), putName_dict]
  have hE' := supE_put hE hsh (s2.toks + 1) q u
  have hl := supE_len hE'
  refine wpAny_bind (wpAny_lookBehind hu (pastItsLine_dict (by rw [List.size_toArray, sizeLine_eq]; lia)) ?_)
  refine wpAny_pure ?_
  show Px c as s.heap K .next _
  obtain ⟨F3, t3⟩ := F2.change (s' := { s2 with heap := s2.heap.update d (Obj.putName manyS hsh (Value.str manyS (s2.toks + 1)) (.int (q : Int) u)), toks := s2.toks + 2 }) (o' := .sup (some q)) ⟨_, _, rfl⟩ hd' hm
    (Heap.SameBut.update _ _ _) (fun ζ => ⟨_, _, hu, hE'⟩)
  exact ⟨.nx, st, _, n1 ++ n2, by simpa [List.append_assoc] using F3, rfl, (t1.trans t2).trans t3, k⟩
/-- a method of the object -/
theorem Ev.methSup {x : Str} {xp apos : Pos} {e1 : Expr} {i : Nat} {n : Option Nat} {pl : Sem Bool} (G : Gs c.g) (hx : st.lookup x = some (.ins 41 i)) (hi : ob[i]? = some (.sup n)) (h1 : plainE e1 = true)
    (h : Ev c e1 st ob fun v ob1 => On c (fun vs => call (.ref 38) vs) [.ins 41 i, v] st ob1 K)
    (he : eval (.Call (.Attribute (.Name x xp) (Str.ofString "next") apos) [e1] [] p) c.env = (do
      let ov ← eval (.Name x xp) c.env
      standAt apos.atName
      let (f, first) ← holding [ov] (getMethod ov (Str.ofString "next") pl)
      callWith p f first (backTo p (starEach [e1] c.env)) (backToKw p (keywordEach [] c.env))))
    (hd : (x == ("__debug__" : Str)) = false := by decide) (hn : (x == ("__classdict__" : Str)) = false := by decide) : Ev c (.Call (.Attribute (.Name x xp) (Str.ofString "next") apos) [e1] [] p) st ob K := by
  refine ⟨fun as s F => methodCall_KW (wpAny_mono ((Ev.name (K := fun a ob1 => a = .ins 41 i ∧ ob1 = ob) hx ⟨rfl, rfl⟩ hd hn).run as s F) ?_ fun ζ ζ x => x) he⟩
  rintro v s1 ⟨sl, ob1, n1, F1, h2, t1, rfl, rfl⟩
  obtain ⟨a, d, es, m, hd', rfl, ha, hes, hE, I⟩ := F1.sup h2 hi
  have X := G.at F1
  have hg : plainGet c.g.K 41 (Str.ofString "next") = true := by rw [G.hK]; rfl
  refine method_fn (f := 38) X I (plainGet_of hg).1 (plainGet_of hg).2 (by rw [G.hK]; rfl) (by rw [G.hK]; rfl) (by show (lookIn _ _).map _ = _; rw [supE_look hE m]; rfl) ?_
  rw [nil_kw]
  have hall : [e1].all plainE = true := by simp [h1]
  have hit := items_of (c := c) hall p
  refine callWith_of (P := c.g.K.In) (by rw [items_plain hit]; rfl) (keeps_K (by rw [G.hK]; rfl)) (evalArgs_items hit (wpAny_mono (EvsF.go hit (K := fun sls ob2 => On c (fun vs => call (.ref 38) vs) (.ins 41 i :: sls) st ob2 K) h F1) ?_ fun ζ ζ x => x))
  rintro vs s2 ⟨sls, ob2, n2, F2, h3, t2, k2⟩
  refine ⟨G.at F2, ?_⟩
  refine wpAny_mono (k2.run _ s2 (.ref a :: vs) s.heap F2 (.cons (h2.up t2 _) h3) (t1.trans t2)) ?_ fun ζ ζ x => x
  rintro v s3 ⟨sl, ob3, n3, F3, h4, t3, k3⟩
  exact ⟨sl, ob3, n1 ++ n2 ++ n3, by simpa [List.append_assoc] using F3, by simpa [List.append_assoc] using h4, t3, k3⟩
/-- `Supply()` -/
theorem Ev.newSup {x : Str} {np : Pos} {scope : Scope} (G : Gs c.g) (kn : Kn c scope) (hA : Ok c.A 2) (hx : scope.names.lookup x = some .globalImplicit) (e : nsIn c.g.K mainGlobals x = some (some (.ref 41)))
    (C : CallC c.g (.ref 31) [.ins 41 0] [.sup none] [0] 1 (RetD .none [.sup (some 0)])) (k : K (.ins 41 ob.length) (ob ++ [.sup (some 0)]))
    (hd : (x == ("__debug__" : Str)) = false := by decide) : Ev c (.Call (.Name x np) [] [] p) st ob K := by
  refine ⟨fun as s F => ?_⟩
  refine wpAny_Call_ofName ?_
  refine Calls.Name_function_global F.kind (kn.glob hx) (Calls.loadGlobal_global (env := c.env) (by rw [kn.gl]; exact G.toGd.T.g.keeps F.base) (mg_of G.toGd.K G.toGd.T.g e) ?_) hd
  rw [nil_kw]
  have hit := items_of (c := c) (es := []) rfl p
  refine callWith_of (P := c.g.K.In) (by rw [items_plain hit]; rfl) (keeps_K (by rw [G.hK]; rfl)) (evalArgs_items hit (wpAny_mono (EvsF.go hit (K := fun sls ob2 => sls = [] ∧ ob2 = ob) (show EvsF c [] st ob (fun sls ob2 => sls = [] ∧ ob2 = ob) from ⟨rfl, rfl⟩) F) ?_ fun ζ ζ x => x))
  rintro vs s1 ⟨sls, ob1, n1, F1, h1, t1, rfl, rfl⟩
  cases h1
  have X := G.at F1
  refine ⟨X, ?_⟩
  show wpAny _ _ (call (.ref 41) [] []) _ _ _
  obtain ⟨hh, gg, dd, tt, os⟩ := s1
  refine wpAny_call (make_core (makes_of X (by rw [G.hK]; rfl)) (looks_findIn (name := Str.ofString "__init__") X (r := some (.ref 31)) (by rw [G.hK]; rfl)) (fun self => bind_fn X self (by rw [G.hK]; rfl)) (.inl rfl) ?_)
  have kp1 := keep_push hh emptyDict
  have kp2 := keep_push (hh.push emptyDict) (instObj 41 hh.objs.size)
  have kp : Keep hh ((hh.push emptyDict).push (instObj 41 hh.objs.size)) := fun b o q => kp2 b o (kp1 b o q)
  have hd1 : ((hh.push emptyDict).push (instObj 41 hh.objs.size)).get? hh.objs.size = some emptyDict := kp2 _ _ (Heap.get?_push_size _ rfl)
  have hx1 : ((hh.push emptyDict).push (instObj 41 hh.objs.size)).get? (hh.objs.size + 1) = some (instObj 41 hh.objs.size) := by
    have := Heap.get?_push_size (hh.push emptyDict) (o := instObj 41 hh.objs.size) rfl
    rwa [Heap.size_push] at this
  have hnb : c.g.hb.get? hh.objs.size = none := by
    cases q : c.g.hb.get? hh.objs.size with
    | none => rfl
    | some o => exact absurd (Heap.lt_size (F1.base _ _ q)) (Nat.lt_irrefl _)
  have hat : (Ob.sup none).At c.g ((hh.push emptyDict).push (instObj 41 hh.objs.size)) hh.objs.size := ⟨[], 0, hd1, rfl⟩
  refine codeAny_mono (C _ [hh.objs.size] ⟨(hh.push emptyDict).push (instObj 41 hh.objs.size), gg, dd, tt, os⟩ [.ref (hh.objs.size + 1)] ?_ (fun b o q => kp b o (F1.base b o q)) (by simp) (by simpa using hnb) (.cons hat .nil) (.cons ⟨_, _, rfl, rfl, hx1⟩ .nil)) ?_
  · have h1 : (Code.builtin "type.__call__" ⟨[.ref 41], []⟩).weight = 1 := by decide +kernel
    have h2 : (Code.builtin "type.__call__" ⟨[.ref 41], []⟩).cUnits = 1 := by decide +kernel
    have h3 : (Code.builtin "type.__call__" ⟨[.ref 41], []⟩).guards = [] := by decide +kernel
    refine ⟨hA.hd, ?_, ?_, ?_⟩
    · unfold Around.under
      simp only [h3, pushGuards]
      exact hA.gd
    · have := hA.dp
      show c.A.depth + Code.weight _ + 1 < _
      rw [h1]; lia
    · have := hA.un
      show c.A.units + Code.cUnits _ + 8 * 1 + 200 < _
      rw [h2]; lia
  · rintro r s' hr
    match r, hr with
    | .ok (.ret v), hr =>
      obtain ⟨r, ob', hsame, hext, hobs, hr, rfl, rfl⟩ := hr
      rw [D.none_inv hr]
      refine ⟨rfl, ?_⟩
      have hkeep : Keep hh s'.heap := fun b o q => by
        refine hext b o (kp b o q) fun m => ?_
        ((try dsimp only [pick] at m) <;> simp at m)
        subst m
        exact absurd (Heap.lt_size q) (Nat.lt_irrefl _)
      cases hobs with
      | cons hat' _ =>
        have hs' : Same ⟨hh, gg, dd, tt, os⟩ s' := (show Same ⟨hh, gg, dd, tt, os⟩ ⟨(hh.push emptyDict).push (instObj 41 hh.objs.size), gg, dd, tt, os⟩ from ⟨_, tt, rfl⟩).trans hsame
        have F2 := F1.alloc (a := hh.objs.size) hs' hkeep (new_of_ge (Nat.le_refl _)) hat'
        have hinst : s'.heap.get? (hh.objs.size + 1) = some (instObj 41 hh.objs.size) := hext _ _ hx1 fun m => by
          ((try dsimp only [pick] at m) <;> simp at m)
        refine ⟨.ins 41 ob1.length, ob1 ++ [.sup (some 0)], n1 ++ [hh.objs.size], by simpa [List.append_assoc] using F2, ⟨_, _, ?_, rfl, hinst⟩, t1.trans (TKeep.of_keep hkeep), k⟩
        have := F1.obs.length
        rw [← List.append_assoc, ← this]; simp
end
end
/-! R16 -/
section
/-- lists that stand for each other, a state running through -/
inductive AllT {α β σ : Type} (R : α → β → σ → σ → Prop) : List α → List β → σ → σ → Prop
  | nil {s : σ} : AllT R [] [] s s
  | cons {a : α} {b : β} {as : List α} {bs : List β} {s s' s'' : σ} : R a b s s' → AllT R as bs s' s'' → AllT R (a :: as) (b :: bs) s s''
theorem AllT.length {α β σ : Type} {R : α → β → σ → σ → Prop} {l : List α} {m : List β} {s s' : σ} (h : AllT R l m s s') : l.length = m.length := by
  induction h with
  | nil => rfl
  | cons _ _ ih => simp [ih]
theorem allT_map {α β γ σ : Type} {R : α → β → σ → σ → Prop} {f : β → γ} {l : List α} {zs : List γ} {s s' : σ} (h : AllT (fun a z s s' => ∃ b, z = f b ∧ R a b s s') l zs s s') : ∃ bs, zs = bs.map f ∧ AllT R l bs s s' := by
  induction h with
  | nil => exact ⟨[], rfl, .nil⟩
  | cons h1 _ ih =>
    obtain ⟨b, rfl, hb⟩ := h1
    obtain ⟨bs, rfl, hbs⟩ := ih
    exact ⟨b :: bs, rfl, .cons hb hbs⟩
noncomputable abbrev ThrQ {σ : Type} (R : PyData → σ → Prop) (f : σ → List Ob) (I : σ → Prop) (ys : List PyData) (v : Sl) (ob3 : List Ob) : Prop := ∃ y s' g, v = .dat y ∧ R y s' ∧ I s' ∧ ob3 = (f s' ++ [.list ys]) ++ g
/-- a comprehension that maps, its turns changing the objects -/
theorem Turns.thr {α σ : Type} {P : Cx → Prop} {elt : Expr} {bd : PyData → List (Str × Sl)} {fst : List (Str × Sl)} {n : Nat} {K : List PyData → List Ob → Prop} (d : α → PyData) (R : α → PyData → σ → σ → Prop) (f : σ → List Ob) (I : σ → List α → Prop) (hn : ∀ s, (f s).length = n) (hP : ∀ c', P c' → c'.n₀ ≤ n)
    (h : ∀ a l s c' ys, I s (a :: l) → P c' → Ev c' elt (bd (d a) ++ fst) (f s ++ [.list ys]) (ThrQ (fun y s' => R a y s s') f (fun s' => I s' l) ys)) :
    ∀ (l : List α) (s : σ) (ys : List PyData), ys.length + l.length ≤ 1000 → I s l → (∀ zs s', AllT R l zs s s' → K (ys ++ zs) (f s')) → Turns P (emit1 elt) [] bd fst n K (l.map d) ys (f s)
  | [], s, ys, _, _, k => (show K ys (f s) by simpa using k [] s .nil)
  | a :: l, s, ys, hl, hI, k => fun c' hc => Tst.none (by
    show Emit _ _ _ _ _ _
    refine Emit.one (hP c' hc) ((h a l s c' ys hI hc).mono fun v ob3 hv => ?_)
    obtain ⟨y, s', g, rfl, hr, hI', rfl⟩ := hv
    refine ⟨y, ys, f s', g, rfl, rfl, hn s', by simp at hl; lia, f s', g, by simp, hn s', ?_⟩
    exact Turns.thr d R f I hn hP h l s' (ys ++ [y]) (by simp at hl ⊢; lia) hI' fun zs s'' hz => by simpa using k (y :: zs) s'' (.cons hr hz))
end
/-! R17 -/
section
open PySem.F in
theorem collect_tup {prog : Program} {w : World} {A : Around} {E : Value → Shared → Prop} {s : Shared} {l : Addr} {vs : List Value} {Q : List Value → Shared → Prop} (hl : IsTup s.heap l vs.toArray) (hsz : vs.length ≤ sizeLine)
    (h : Q vs { s with heap := (s.heap.push (seqObj "list" #[] 0)).update s.heap.objs.size (Obj.mapSeq (· ++ vs.toArray)) }) : wpAny (model prog w) A (collect (.ref l)) Q E s := by
  obtain ⟨o, ho, hc, n, hd⟩ := id hl
  have hnew := Heap.get?_push_size s.heap (o := seqObj "list" #[] 0) rfl
  unfold collect
  refine wpAny_bind (wpAny_runValue (codeAny_builtin entry_proto_collect' ?_))
  show wpAny _ _ (newList [] >>= fun d => again (.builtin "list.__iadd__" ⟨[d, .ref l], []⟩)) _ _ s
  refine wpAny_bind (wpAny_newList (wpAny_pure ⟨Code.quiet_builtin _ (by decide +kernel), codeAny_builtin entry_list_iadd' ?_⟩))
  show wpAny _ _ (Builtin.List.listExtendWith (.ref s.heap.objs.size) (.ref l) (.ref s.heap.objs.size)) _ _ { s with heap := s.heap.push (seqObj "list" #[] 0) }
  have ho' : (s.heap.push (seqObj "list" #[] 0)).get? l = some o := Heap.get?_push_of_some _ ho
  unfold Builtin.List.listExtendWith
  refine wpAny_bind (wpAny_typeOf (T := "tuple") ⟨o, ho', hc⟩ ?_)
  have ht : (Value.type "tuple" == Value.type "tuple") = true := by rfl
  rw [if_pos (by rw [ht]; simp)]
  refine wpAny_bind (listItems_at ho' hd (wpAny_bind (listItems_at (xs := #[]) (n := 0) hnew rfl ?_)))
  rw [if_neg (by simp)]
  refine wpAny_bind (listUpdate_at (xs := #[]) (n := 0) hnew rfl (wpAny_pure ?_) (Nat.zero_le _) (by show (#[] ++ vs.toArray).size ≤ sizeLine + 1; simp only [Array.size_append, List.size_toArray, List.length_nil]; lia))
  refine wpAny_bind (wpAny_load (get?_update_seq hnew _) ?_)
  show wpAny _ _ (pure ((#[] : Array Value) ++ vs.toArray).toList) Q E _
  have e : ((#[] : Array Value) ++ vs.toArray).toList = vs := by simp
  rw [e]
  exact wpAny_pure h
section
variable {prog : Program} {w : World} {A : Around} {E : Value → Shared → Prop} {s : Shared} {h₀ : Heap} {L : Addr} {m : Str → Option Value} {news : List (Addr × Obj)} {vs : List Value}
/-- sorted of a tuple: its items are laid into a list, which is sorted -/
theorem tup_sortedK {l : Addr} {b : Bool} {f : Value} {kw : List (Str × Value)} {Q : Value → Shared → Prop} (F : Fr h₀ L s.heap m) (N : News h₀ L s.heap news) (hl : IsTup s.heap l vs.toArray) (h2 : 2 ≤ vs.length) (h64 : vs.length < 64)
    (ha1 : argsOk "sorted" ⟨[.ref l], kw⟩) (ha2 : ∀ x, argsOk "list.sort" ⟨[.ref x], kw⟩) (ht : ∀ x, Builtin.«list.sort» ⟨[.ref x], kw⟩ = ksk_tree x f b)
    (h : ∀ D kS e1 h', Fr h₀ L h' m → News h₀ L h' ((kS, seqObj "list" #[] 0) :: (D, seqObj "list" #[] e1) :: news) → D < kS → (∀ q ∈ news, q.1 < D) →
      KatKeys prog w A.in1.in1 h₀ L m kS f (fun ks e s' => wpAny (model prog w) A.in1.in1 (keyKind' (List.toArray ks)) (fun κ s'' => (kas_sort vs.length).kasWp (kas_ask prog w A.in1.in1 κ (katRev b ks)) (fun p s3 => KatFin h₀ L m kS D ks e e1 (katRev b (p.toList.map fun i => (katRev b vs).getD i Value.none)) (fun s4 => Q (.ref D) s4) s3) s'') (fun ζ ζ => False) s') vs [] 0 { s with heap := h' }) :
    wpAny (model prog w) A (call (.builtin "sorted") [.ref l] kw) Q E s := by
  have line : sizeLine = 16777216 := rfl
  have hL : L < s.heap.objs.size := F.ns.lt
  -- the heap with the list laid
  generalize hH : ((s.heap.push (seqObj "list" #[] 0)).update s.heap.objs.size (Obj.mapSeq (· ++ vs.toArray))) = H
  have hHs : H.objs.size = s.heap.objs.size + 1 := by rw [← hH, Heap.size_update, size_push']
  have hnew : (H.push (seqObj "list" vs.toArray 0)).get? (s.heap.objs.size + 1) = some (seqObj "list" vs.toArray 0) := by
    have := Heap.get?_push_size H (o := seqObj "list" vs.toArray 0) rfl
    rwa [hHs] at this
  have old : ∀ b o, s.heap.get? b = some o → (H.push (seqObj "list" vs.toArray 0)).get? b = some o := fun b o q => by
    have hlt : b < s.heap.objs.size := Heap.lt_size q
    rw [Heap.get?_push_ne _ _ _ (by rw [hHs]; exact Nat.ne_of_lt (Nat.lt_succ_of_lt hlt)), ← hH, Heap.get?_update_ne _ _ _ _ (Nat.ne_of_lt hlt), Heap.get?_push_ne _ _ _ (Nat.ne_of_lt hlt)]
    exact q
  refine call_function_entry_kw kind_sorted plain_sorted entry_sorted ha1 ?_
  unfold Builtin.«sorted»
  refine wpAny_bind (m := checkCount "sorted" 1 1 _) (wpAny_pure ?_)
  refine wpAny_bind (collect_tup hl (by lia) ?_)
  rw [hH]
  refine wpAny_bind (wpAny_newList ?_ (by lia))
  show wpAny _ _ _ _ _ { s with heap := H.push (seqObj "list" vs.toArray 0) }
  rw [hHs]
  refine wpAny_bind (wpAny_holding (wpAny_call_entry_kw slot_list_sort ⟨_, hnew, rfl⟩ entry_list_sort ?body (ha2 _)))
  case body =>
    show wpAny (model prog w) A.in1.in1 (Builtin.«list.sort» ⟨[.ref (s.heap.objs.size + 1)], kw⟩) _ _ _
    rw [ht]
    refine kat_keyed (s := { s with heap := H.push (seqObj "list" vs.toArray 0) }) (F.kept old) (N.grown old) hnew (Nat.ne_of_gt (Nat.lt_succ_of_lt hL)) (Heap.get?_none_of_le (Nat.le_trans F.above (Nat.le_succ_of_le (Nat.le_of_lt hL))))
      (fun p hp => Nat.ne_of_lt (Nat.lt_succ_of_lt (Heap.lt_size (N p hp).1))) h2 h64 fun kS e1 h' F' N' l0 l1 => ?_
    refine kat_keys_mono (h _ kS e1 h' F' N' l0 fun q hq => Nat.lt_succ_of_lt (Heap.lt_size (N q hq).1)) fun ks e s' hl' hd => ?_
    have hkl : ks.length = vs.length := by simpa using hl'
    refine wpAny_mono hd (fun κ s'' hk => ?_) fun ζ ζ x => x
    rw [kat_ask_eq (vs := katRev b vs) (by rw [kat_len, kat_len, hkl])] at hk ⊢
    exact kas_wp_mono hk fun p s3 hk' => hk'.mono fun s4 hq => ⟨_, rfl, wpAny_pure ⟨_, rfl, hq⟩⟩
end
section
variable {c : Cx} {as : List Addr} {st : List (Str × Sl)} {ob : List Ob} {s s' : Shared} {p : Pos} {e l r : Expr} {K : Sl → List Ob → Prop}
/-- a tuple sorted, with a key -/
theorem On.sortKT {xs : List PyData} {f : Value} {n : Nat} {key : PyData → PyData} {O : KeyOrd} {ko : PyData → O.α} (h2 : 2 ≤ xs.length) (h64 : xs.length < 64) (hA : Ok c.A (n + 1))
    (ht : ∀ x, Builtin.«list.sort» ⟨[.ref x], [(Str.ofString "key", f)]⟩ = ksk_tree x f false)
    (hkey : ∀ x ∈ xs, Call c.g f [.dat x] [] [] n (fun r ζ => r = .dat (key x))) (C : KeyCmp c.g c.A.in1.in1 (xs.map key) O ko)
    (k : ∀ ys : List PyData, ys.Perm xs → ys.Pairwise (fun a b => O.kle (ko (key a)) (ko (key b))) → K (.obj ob.length) (ob ++ [.list ys])) :
    On c (fun vs => call (.builtin "sorted") vs [(Str.ofString "key", f)]) [.dat (.tuple xs)] st ob K := by
  refine ⟨fun as s vs h F hv t => ?_⟩
  replace hv := all2_one hv
  obtain ⟨v, rfl, hv⟩ := hv
  obtain ⟨a, o, vs, n', rfl, e, hcls, hdat, d⟩ := D.tuple_inv hv
  obtain ⟨m, hm⟩ := F.ns
  have hlen : vs.toList.length = xs.length := d.length
  have hl : IsTup s.heap a vs.toList.toArray := ⟨_, e, hcls, n', by simpa using hdat⟩
  have hLs : s.heap.get? c.env.locals ≠ none := by
    obtain ⟨o, _, _, ho, _⟩ := hm
    rw [ho]; simp
  refine tup_sortedK (h₀ := {}) (L := c.env.locals) (m := m) (news := allBut s.heap [c.env.locals]) (b := false) (fr0 hm) (news0 (X := [])) hl (by rw [hlen]; exact h2) (by rw [hlen]; exact h64) (ksk_s1 _ _) (fun x => ksk_l1 _ _) ht (sort_tail h2 h64 hA hkey C k F hm d t)
end
end
/-! R18 -/
section
section
variable {c : Cx} {as : List Addr} {st : List (Str × Sl)} {ob : List Ob} {s s' : Shared} {p : Pos} {e l r : Expr} {K : Sl → List Ob → Prop}
theorem isList_keep {h h' : Heap} {a : Addr} {vs : Array Value} (k : Keep h h') (x : h.IsList a vs) : h'.IsList a vs := by
  obtain ⟨o, ho, r⟩ := x
  exact ⟨o, k _ _ ho, r⟩
/-- a list of the surroundings -/
theorem On.lenV {a : Addr} {vs : Array Value} (hl : c.g.hb.IsList a vs) (hn : vs.size ≤ 1000) (kk : K (.dat (.int vs.size)) ob) : On c (fun vs => call (.builtin "len") vs) [.val (.ref a)] st ob K := by
  refine ⟨fun as s ws h F hv t => ?_⟩
  replace hv := all2_one hv
  obtain ⟨v, rfl, rfl⟩ := hv
  refine Calls.call_len_list (isList_keep F.base hl) (by lia) ?_
  exact Pv.of (sl := .dat (.int vs.size)) (F.toks _) (Reads.int _ _) t kk
theorem O2.subV {a : Addr} {vs : Array Value} {k i : Int} {t : Tok} {value slice : Expr} (hl : c.g.hb.IsList a vs) (h0 : 0 ≤ k) (hhi : k < 2 ^ 63) (hx : vs[k.toNat]? = some (.int i t)) (kk : K (.dat (.int i)) ob) :
    O2 c (subscriptTail value slice) (.val (.ref a)) (.dat (.int k)) st ob K := by
  refine ⟨fun as s va vb F ha hb => ?_⟩
  obtain rfl : va = .ref a := ha
  obtain ⟨u, rfl⟩ := D.int_inv hb
  have hl' := isList_keep F.base hl
  refine subTail hl'.typeIs PySem.F.slot_list_getitem.lookup (wpAny_getItem_list hl' h0 hhi hx ?_)
  exact Pv.of (sl := .dat (.int i)) F (Reads.int _ _) (TKeep.refl _) kk
theorem O2.powI {a n : Int} (hn : 0 ≤ n) (hn2 : n ≤ 1000000) (ha : a.natAbs < 2 ^ 64) (kk : K (.dat (.int (a ^ n.toNat))) ob) : O2 c (binaryOp .Pow) (.dat (.int a)) (.dat (.int n)) st ob K := by
  refine ⟨fun as s va vb F ha' hb => ?_⟩
  obtain ⟨t, rfl⟩ := D.int_inv ha'
  obtain ⟨u, rfl⟩ := D.int_inv hb
  exact pow_int_small hn hn2 ha (Pv.of (sl := .dat (.int (a ^ n.toNat))) (F.toks _) (Reads.int _ _) (TKeep.refl _) kk)
theorem O2.ltI {x y : Int} (kk : K (.dat (.bool (decide (x < y)))) ob) : O2 c (compareOp .Lt) (.dat (.int x)) (.dat (.int y)) st ob K := by
  refine ⟨fun as s va vb F ha hb => ?_⟩
  obtain ⟨t, rfl⟩ := D.int_inv ha
  obtain ⟨u, rfl⟩ := D.int_inv hb
  exact lt_int (Pv.of (sl := .dat (.bool _)) F (Reads.bool _) (TKeep.refl _) kk)
theorem O2.gtI {x y : Int} (kk : K (.dat (.bool (decide (x > y)))) ob) : O2 c (compareOp .Gt) (.dat (.int x)) (.dat (.int y)) st ob K := by
  refine ⟨fun as s va vb F ha hb => ?_⟩
  obtain ⟨t, rfl⟩ := D.int_inv ha
  obtain ⟨u, rfl⟩ := D.int_inv hb
  exact gt_int (Pv.of (sl := .dat (.bool _)) F (Reads.bool _) (TKeep.refl _) kk)
theorem O2.subI {x y : Int} (kk : K (.dat (.int (x - y))) ob) : O2 c (binaryOp .Sub) (.dat (.int x)) (.dat (.int y)) st ob K := by
  refine ⟨fun as s va vb F ha hb => ?_⟩
  obtain ⟨t, rfl⟩ := D.int_inv ha
  obtain ⟨u, rfl⟩ := D.int_inv hb
  exact sub_int (Pv.of (sl := .dat (.int (x - y))) (F.toks _) (Reads.int _ _) (TKeep.refl _) kk)
/-- `l and r`, as a value -/
theorem Ev.and (h : Ev c l st ob fun a ob1 => ∃ b, a = .dat (.bool b) ∧ if b = true then Ev c r st ob1 K else K (.dat (.bool false)) ob1) : Ev c (.BoolOp .And [l, r] p) st ob K := by
  refine ⟨fun as s F => BoolOp_and (wpAny_mono (h.run as s F) ?_ fun ζ ζ x => x)⟩
  rintro v s1 ⟨sl, ob1, n1, F1, h1, t1, b, rfl, k1⟩
  rw [D.bool_inv h1]
  refine wpAny_truthy_bool ?_
  cases b with
  | false =>
    rw [if_neg (by simp)] at k1
    exact ⟨.dat (.bool false), ob1, n1, F1, Reads.bool _, t1, k1⟩
  | true =>
    rw [if_pos rfl] at k1
    refine BoolOp_one (wpAny_mono (k1.run _ s1 F1) ?_ fun ζ ζ x => x)
    rintro w s2 ⟨sl2, ob2, n2, F2, h2, t2, k2⟩
    exact ⟨sl2, ob2, n1 ++ n2, by simpa [List.append_assoc] using F2, by simpa [List.append_assoc] using h2, t1.trans t2, k2⟩
/-- a datum is equal to itself -/
theorem O2.eqR {x : PyData} (hu : Ok c.A 0) (hx : okB x = true) (dx : x.depth ≤ 64) (kk : K (.dat (.bool true)) ob) : O2 c (compareOp .Eq) (.dat x) (.dat x) st ob K := by
  refine ⟨fun as s va vb F ha hb => ?_⟩
  refine eq_dataH ha hb (by simp [SeqAt.shaped, okB_lay x hx, dx]) (by simp [SeqAt.shaped, okB_lay x hx, dx]) (by have := hu.un; lia) ?_
  rw [okB_eqv x hx]
  exact Pv.of (sl := .dat (.bool _)) F (Reads.bool _) (TKeep.refl _) kk
end
end
/-! R19 -/
section
/-- a comprehension with one test -/
theorem Turns.filtM {α : Type} {P : Cx → Prop} {elt t : Expr} {bd : PyData → List (Str × Sl)} {fst : List (Str × Sl)} {n : Nat} {K : List PyData → List Ob → Prop} {obM : List Ob} (d o : α → PyData) (keep : α → Bool) (hn : obM.length = n) (hP : ∀ c', P c' → c'.n₀ ≤ n) :
    ∀ (l : List α) (ys : List PyData), ys.length + l.length ≤ 1000 →
      (∀ a ∈ l, ∀ c' ys, P c' → Et c' t (bd (d a) ++ fst) (obM ++ [.list ys]) fun b ob2 => b = keep a ∧ ∃ g, ob2 = (obM ++ [.list ys]) ++ g ∧ (b = true → Ev c' elt (bd (d a) ++ fst) ((obM ++ [.list ys]) ++ g) fun v ob3 => v = .dat (o a) ∧ ob3 = (obM ++ [.list ys]) ++ g)) →
      K (ys ++ (l.filter keep).map o) obM → Turns P (emit1 elt) [t] bd fst n K (l.map d) ys obM
  | [], ys, _, _, k => (show K ys obM by simpa using k)
  | a :: l, ys, hl, h, k => fun c' hc => (Tst.one (h a (by simp) c' ys hc)).mono fun b ob2 hb => by
    obtain ⟨rfl, g, rfl, he⟩ := hb
    cases hk : keep a with
    | true =>
      show Emit _ _ _ _ _ _
      refine Emit.one (hP c' hc) ((he hk).mono fun v ob3 hv => ?_)
      obtain ⟨rfl, rfl⟩ := hv
      refine ⟨o a, ys, obM, g, rfl, rfl, hn, by simp at hl; lia, obM, g, by simp, hn, ?_⟩
      exact Turns.filtM d o keep hn hP l (ys ++ [o a]) (by simp at hl ⊢; lia) (fun b hb => h b (List.mem_cons_of_mem _ hb)) (by rw [List.filter_cons_of_pos hk] at k; simpa using k)
    | false =>
      refine ⟨obM, g, rfl, hn, ?_⟩
      exact Turns.filtM d o keep hn hP l ys (by simp at hl; lia) (fun b hb => h b (List.mem_cons_of_mem _ hb)) (by rw [List.filter_cons_of_neg (by simp [hk])] at k; exact k)
/-- a comprehension whose turns give lists, each known -/
theorem Turns.flatM {α : Type} {P : Cx → Prop} {emit : Env → Value → Sem Unit} {bd : PyData → List (Str × Sl)} {fst : List (Str × Sl)} {n : Nat} {K : List PyData → List Ob → Prop} {obM : List Ob} (d : α → PyData) (f : α → List PyData) (hn : obM.length = n) :
    ∀ (l : List α) (ys : List PyData), ys.length + (l.flatMap f).length ≤ 1000 →
      (∀ a ∈ l, ∀ c' ys, P c' → ys.length + (f a).length ≤ 1000 → Emit c' emit n (bd (d a) ++ fst) (obM ++ [.list ys]) fun zs ob3 => zs = f a ∧ ∃ g, ob3 = (obM ++ [.list (ys ++ f a)]) ++ g) →
      K (ys ++ l.flatMap f) obM → Turns P emit [] bd fst n K (l.map d) ys obM
  | [], ys, _, _, k => (show K ys obM by simpa using k)
  | a :: l, ys, hl, h, k => fun c' hc => Tst.none (by
    have hl' : ys.length + ((f a).length + (l.flatMap f).length) ≤ 1000 := by rw [List.flatMap_cons, List.length_append] at hl; exact hl
    show Emit _ _ _ _ _ _
    refine (h a (by simp) c' ys hc (by lia)).mono fun zs ob3 hz => ?_
    obtain ⟨rfl, g, rfl⟩ := hz
    refine ⟨obM, g, rfl, hn, Turns.flatM d f hn l (ys ++ f a) (by rw [List.length_append]; lia) (fun b hb => h b (List.mem_cons_of_mem _ hb)) ?_⟩
    rw [List.flatMap_cons, ← List.append_assoc] at k
    exact k)
/-- a loop by what holds between its turns -/
theorem ForTurns.inv {α : Type} {c : Cx} {body : List Stmt} {bd : PyData → List (Str × Sl)} {K : Fl → List (Str × Sl) → List Ob → Prop} (d : α → PyData) (I : List α → List (Str × Sl) → List Ob → Prop)
    (h : ∀ a rest st ob c', I (a :: rest) st ob → SameCx c c' → Exs c' body (bd (d a) ++ st) ob (NxK ob.length (I rest) K))
    (k : ∀ st ob, I [] st ob → K .nx st ob) : ∀ (l : List α) st ob, I l st ob → ForTurns c body bd K (l.map d) st ob
  | [], st, ob, hi => k st ob hi
  | a :: l, st, ob, hi => fun c' hc => by
    refine ⟨fun as s F => wpAny_mono ((h a l st ob c' hi hc).run as s F) ?_ fun ζ ζ x => x⟩
    rintro fw s1 ⟨fl, st', ob1, nw, F1, e, t1, k1⟩
    refine ⟨fl, st', ob1, nw, F1, e, t1, ?_⟩
    cases fl with
    | nx =>
      obtain ⟨st2, ob2, hw, hi2⟩ := k1
      exact ⟨st2, ob2, hw, ForTurns.inv d I h k l st2 ob2 hi2⟩
    | rt x => exact k1
/-- what stands in a list for the first time -/
theorem firsts_go {α : Type} {f : List α → α → List α} (h1 : ∀ acc x, x ∈ acc → f acc x = acc) (h2 : ∀ acc x, x ∉ acc → f acc x = acc ++ [x]) (hm : ∀ (l acc : List α) x, x ∈ l.foldl f acc ↔ x ∈ acc ∨ x ∈ l) (l : List α) (p : α × Nat → Bool) (hp : ∀ x i, p (x, i) = true ↔ x ∉ l.take i) :
    ∀ (rest pre : List α), l = pre ++ rest → l.foldl f [] = pre.foldl f [] ++ ((rest.zipIdx pre.length).filter p).map (·.1)
  | [], pre, e => by rw [e]; simp
  | x :: rest, pre, e => by
    have ih := firsts_go h1 h2 hm l p hp rest (pre ++ [x]) (by rw [e]; simp)
    rw [ih, List.foldl_append, List.foldl_cons, List.foldl_nil, List.zipIdx_cons]
    have ht : l.take pre.length = pre := by rw [e]; simp
    have hx : p (x, pre.length) = true ↔ x ∉ pre := by rw [hp, ht]
    by_cases hm' : x ∈ pre
    · rw [h1 _ _ ((hm pre [] x).mpr (.inr hm')), List.filter_cons_of_neg (by rw [hx]; simpa using hm')]
      simp
    · rw [h2 _ _ fun q => hm' (((hm pre [] x).mp q).elim (fun h => by cases h) id), List.filter_cons_of_pos (hx.mpr hm')]
      simp
theorem firsts {α : Type} {f : List α → α → List α} (h1 : ∀ acc x, x ∈ acc → f acc x = acc) (h2 : ∀ acc x, x ∉ acc → f acc x = acc ++ [x]) (hm : ∀ (l acc : List α) x, x ∈ l.foldl f acc ↔ x ∈ acc ∨ x ∈ l) (l : List α) (p : α × Nat → Bool) (hp : ∀ x i, p (x, i) = true ↔ x ∉ l.take i) :
    ((l.zipIdx).filter p).map (·.1) = l.foldl f [] := by
  have := firsts_go h1 h2 hm l p hp l [] rfl
  simpa using this.symm
theorem enumD_map {α : Type} (d : α → PyData) (l : List α) : enumD (l.map d) = l.zipIdx.map fun p => .tuple [.int (p.2 : Int), d p.1] := by
  unfold enumD
  refine List.ext_getElem (by simp) fun i h1 h2 => ?_
  simp
end
/-! F10 -/
section
theorem ddF_firsts (l : List Fo) (p : Fo × Nat → Bool) (hp : ∀ x i, p (x, i) = true ↔ x ∉ l.take i) : ((l.zipIdx).filter p).map (·.1) = ddF [] l :=
  firsts (f := addF) (fun acc x h => by unfold addF; rw [if_pos h]) (fun acc x h => by unfold addF; rw [if_neg h]) (fun l acc x => ddF_mem) l p hp
theorem onceL_firsts (l : List Str) (p : Str × Nat → Bool) (hp : ∀ x i, p (x, i) = true ↔ x ∉ l.take i) : ((l.zipIdx).filter p).map (·.1) = onceL [] l :=
  firsts (fun acc x h => by rw [if_pos h]) (fun acc x h => by rw [if_neg h]) (fun l acc x => onceL_mem) l p hp
mutual
theorem good_ok : ∀ f : Fo, f.good = true → f.ok = true
  | .bnd _, _ => rfl
  | .fre _, h => h
  | .name _ ps, h => by ((try dsimp only [Fo.good] at h) <;> simp only [Bool.and_eq_true] at h); ((try dsimp only [Fo.ok]) <;> simp [h.1, goods_ok ps h.2])
  | .tup p, h => by dsimp only [Fo.good] at h; exact good_ok p h
  | .tupv p r, h => by ((try dsimp only [Fo.good] at h) <;> simp only [Bool.and_eq_true] at h); ((try dsimp only [Fo.ok]) <;> simp [good_ok p h.1, good_ok r h.2])
  | .uni ps, h => by dsimp only [Fo.good] at h; exact goods_ok ps h
  | .all a b c, h => by ((try dsimp only [Fo.good] at h) <;> simp only [Bool.and_eq_true] at h); ((try dsimp only [Fo.ok]) <;> simp [good_ok a h.1.1, good_ok b h.1.2, good_ok c h.2])
  | .typeof p, h => by dsimp only [Fo.good] at h; exact good_ok p h
  | .bottom, _ => rfl
theorem goods_ok : ∀ fs : List Fo, Fo.goods fs = true → Fo.oks fs = true
  | [], _ => rfl
  | f :: fs, h => by ((try dsimp only [Fo.goods] at h) <;> simp only [Bool.and_eq_true] at h); ((try dsimp only [Fo.oks]) <;> simp [good_ok f h.1, goods_ok fs h.2])
end
theorem perm_map_inv {α β : Type} (d : α → β) {l : List α} {ys : List β} (h : ys.Perm (l.map d)) : ∃ zs : List α, ys = zs.map d ∧ zs.Perm l := by
  have hq := h.symm
  clear h
  suffices ∃ zs : List α, zs.map d = ys ∧ l.Perm zs by
    obtain ⟨zs, h1, h2⟩ := this
    exact ⟨zs, h1.symm, h2.symm⟩
  generalize hm : l.map d = m at hq
  induction hq generalizing l with
  | nil => exact ⟨l, hm, .refl _⟩
  | cons x _ ih =>
    cases l with
    | nil => simp at hm
    | cons a l =>
      simp only [List.map_cons, List.cons.injEq] at hm
      obtain ⟨zs, h1, h2⟩ := ih hm.2
      exact ⟨a :: zs, by simp [hm.1, h1], h2.cons a⟩
  | swap x y m =>
    match l, hm with
    | a :: b :: l, hm =>
      simp only [List.map_cons, List.cons.injEq] at hm
      exact ⟨b :: a :: l, by simp [hm], .swap _ _ _⟩
  | trans _ _ ih1 ih2 =>
    obtain ⟨zs, h1, h2⟩ := ih1 hm
    obtain ⟨ws, h3, h4⟩ := ih2 h1
    exact ⟨ws, h3, h2.trans h4⟩
end
/-! F11 -/
section
/-! ## forms with names above and a table -/
noncomputable def envL (names : List Str) (t : Tab) : Str → Bv := fun z => if z ∈ names then .b (names.idxOf z) else match t.lookup z with
  | some q => .c (Fk q ρ0)
  | none => .c (.fre z)
theorem envL_up (names : List Str) (t : Tab) (x : Str) : upE (envL names t) x = envL (x :: names) t := by
  funext z
  unfold upE envL
  by_cases e : z = x
  · subst e; simp
  · rw [if_neg e]
    by_cases h : z ∈ names
    · rw [if_pos h, if_pos (List.mem_cons_of_mem _ h), List.idxOf_cons]
      have : (x == z) = false := by simpa using Ne.symm e
      ((try dsimp only [Bv.sft]) <;> simp [this])
    · rw [if_neg h, if_neg (by simp [e, h])]
      cases t.lookup z <;> rfl
theorem envL_nil : envL [] [] = ρ0 := by funext z; ((try dsimp only [envL, ρ0]) <;> simp)
theorem envL_cmp (t : Tab) : envL [] t = cmpE ρ0 t := by
  funext z
  ((try dsimp only [envL, cmpE]) <;> simp only [List.not_mem_nil, if_false])
  cases t.lookup z with
  | none => rfl
  | some q => cases q <;> rfl
/-- forms as they come: a union has parts, no union and no bottom among them -/
noncomputable def Cf (f : Fo) : Prop := f ≠ .bottom ∧ ∀ ps, f = .uni ps → ps ≠ [] ∧ ∀ p ∈ ps, p ≠ .bottom ∧ ∀ qs, p ≠ .uni qs
theorem Cf.flF {f : Fo} (h : Cf f) : flF f ≠ [] ∧ ∀ g ∈ flF f, g ≠ .bottom ∧ ∀ qs, g ≠ .uni qs := by
  by_cases hu : ∃ ps, f = .uni ps
  · obtain ⟨ps, rfl⟩ := hu
    obtain ⟨h1, h2⟩ := h.2 ps rfl
    have e : Mine.flF (.uni ps) = ps := by
      unfold Mine.flF
      exact List.filter_eq_self.mpr fun p hp => by simpa using (h2 p hp).1
    rw [e]
    exact ⟨h1, h2⟩
  · have e : Mine.flF f = [f] := by
      have := h.1
      cases f <;> first | (exfalso; exact hu ⟨_, rfl⟩) | simp_all [Mine.flF]
    rw [e]
    refine ⟨by simp, fun g hg => ?_⟩
    simp at hg; subst hg
    exact ⟨h.1, fun qs q => hu ⟨qs, q⟩⟩
theorem cf_joined {fs : List Fo} (h : ∀ f ∈ fs, Cf f) (hn : fs ≠ []) : fs.flatMap flF ≠ [] ∧ Cf (joined fs) := by
  have hne : fs.flatMap flF ≠ [] := by
    cases fs with
    | nil => exact absurd rfl hn
    | cons f fs =>
      rw [List.flatMap_cons]
      intro e
      exact (h f (by simp)).flF.1 (List.append_eq_nil_iff.mp e).1
  have hm : ∀ g ∈ ddF [] (fs.flatMap flF), g ≠ .bottom ∧ ∀ qs, g ≠ .uni qs := fun g hg => by
    rw [ddF_mem] at hg
    obtain ⟨f, hf, hg⟩ := List.mem_flatMap.mp (by simpa using hg)
    exact (h f hf).flF.2 g hg
  have hdn : ddF [] (fs.flatMap flF) ≠ [] := by
    obtain ⟨q, hq⟩ := List.exists_mem_of_ne_nil _ hne
    have : q ∈ ddF [] (fs.flatMap flF) := by rw [ddF_mem]; exact .inr hq
    intro e
    rw [e] at this; cases this
  refine ⟨hne, ?_⟩
  unfold joined jnF
  split
  · exact ⟨by ((try dsimp only [anyF]) <;> simp), fun ps e => by ((try dsimp only [anyF] at e) <;> simp at e)⟩
  · split
    · rename_i k e
      have := hm k (by rw [e]; simp)
      exact ⟨this.1, fun ps q => absurd q (this.2 ps)⟩
    · refine ⟨by simp, fun ps e => ?_⟩
      simp only [Fo.uni.injEq] at e
      subst e
      refine ⟨fun e => ?_, fun p hp => hm p ((srtF_perm _).mem_iff.mp hp)⟩
      have := (srtF_perm (ddF [] (fs.flatMap flF)))
      rw [e] at this
      exact hdn (List.nil_perm.mp this)
mutual
theorem cf_kind : ∀ (k : Kd) {ρ : Str → Bv}, Can k → (∀ x, FreeIn x k → Cf (ρ x).fo) → Cf (Fk k ρ)
  | .var x, ρ, _, h => h x rfl
  | .name x ps, ρ, _, _ => ⟨by ((try dsimp only [Fk]) <;> simp), fun ps e => by ((try dsimp only [Fk] at e) <;> simp at e)⟩
  | .tup p, ρ, _, _ => ⟨by ((try dsimp only [Fk]) <;> simp), fun ps e => by ((try dsimp only [Fk] at e) <;> simp at e)⟩
  | .tupv p r, ρ, _, _ => ⟨by ((try dsimp only [Fk]) <;> simp), fun ps e => by ((try dsimp only [Fk] at e) <;> simp at e)⟩
  | .uni ps, ρ, hc, h => by
    dsimp only [Fk]
    refine (cf_joined (cf_kinds ps hc.1 h) fun e => ?_).2
    have : ps = [] := by
      rw [Fks_eq] at e
      exact List.map_eq_nil_iff.mp e
    have h2 := hc.2.2.2.1
    rw [this] at h2; simp at h2
  | .all x lo up bd, ρ, _, _ => ⟨by ((try dsimp only [Fk]) <;> simp), fun ps e => by ((try dsimp only [Fk] at e) <;> simp at e)⟩
  | .typeof p, ρ, _, _ => ⟨by ((try dsimp only [Fk]) <;> simp), fun ps e => by ((try dsimp only [Fk] at e) <;> simp at e)⟩
  | .bottom, _, hc, _ => hc.elim
theorem cf_kinds : ∀ (ks : List Kd) {ρ : Str → Bv}, Cans ks → (∀ x, FreesIn x ks → Cf (ρ x).fo) → ∀ f ∈ Fks ks ρ, Cf f
  | [], _, _, _, f, hf => by ((try dsimp only [Fks] at hf) <;> simp at hf)
  | k :: ks, ρ, hc, h, f, hf => by
    rcases List.mem_cons.mp hf with rfl | hf
    · exact cf_kind k hc.1 fun x hx => h x (.inl hx)
    · exact cf_kinds ks hc.2 (fun x hx => h x (.inr hx)) f hf
end
/-- tables as the law has them -/
structure TabL (t : Tab) (S H : Nat) : Prop where
  look : ∀ x q, t.lookup x = some q → q.ok = true ∧ Can q ∧ q.sz ≤ S ∧ q.ht ≤ H
  s1 : 1 ≤ S
  h1 : 1 ≤ H
  hh : H ≤ 100
theorem cf_env {names : List Str} {t : Tab} {S H : Nat} (ht : TabL t S H) (x : Str) : Cf (envL names t x).fo := by
  unfold envL
  split
  · exact ⟨by ((try dsimp only [Bv.fo]) <;> simp), fun ps e => by ((try dsimp only [Bv.fo] at e) <;> simp at e)⟩
  · split
    · rename_i q e
      exact cf_kind q (ht.look x q e).2.1 fun z ζ => ⟨by ((try dsimp only [Bv.fo, ρ0]) <;> simp), fun ps e => by ((try dsimp only [Bv.fo, ρ0] at e) <;> simp at e)⟩
    · exact ⟨by ((try dsimp only [Bv.fo]) <;> simp), fun ps e => by ((try dsimp only [Bv.fo] at e) <;> simp at e)⟩
theorem env1_ρ0 (h : Nat) : Env1 ρ0 1 1 h := fun x => ⟨Nat.le_refl _, Nat.le_refl _, fun h => by (dsimp only [Fo.good] at h ⊢ <;> simpa using h)⟩
theorem env1_L {names : List Str} {t : Tab} {S H h : Nat} (ht : TabL t S H) (hl : names.length + h ≤ 1000) : Env1 (envL names t) S (H + 1) h := fun x => by
  unfold envL
  by_cases hx : x ∈ names
  · rw [if_pos hx]
    have := List.idxOf_lt_length_of_mem hx
    show names.idxOf x + h ≤ 1000
    lia
  · rw [if_neg hx]
    cases e : t.lookup x with
    | none => exact ⟨ht.s1, by show 1 ≤ H + 1; lia, fun h => by (dsimp only [Fo.good] at h ⊢ <;> simpa using h)⟩
    | some q =>
      obtain ⟨a, b, c, d⟩ := ht.look x q e
      have hh := ht.hh
      obtain ⟨f1, f2, f3⟩ := Fk_facts (Nat.le_refl 1) (Nat.le_refl 1) q (ρ := ρ0) a (by lia) (env1_ρ0 _)
      exact ⟨by simp at f1; show (Fk q ρ0).sz ≤ S; lia, by show (Fk q ρ0).ht ≤ H + 1; lia, fun ζ => f3⟩
end
/-! F12 -/
section
/-! ## free names, read off the data of a form -/
noncomputable def isFr : List PyData → Bool
  | .str w :: _ => decide (w = so "free")
  | _ => false
noncomputable def frNm : List PyData → List Str
  | [_, .str x] => [x]
  | _ => []
mutual
noncomputable def lf : PyData → List Str
  | .tuple xs => if isFr xs = true then frNm xs else lfs xs
  | _ => []
noncomputable def lfs : List PyData → List Str
  | [] => []
  | x :: xs => lf x ++ lfs xs
end
theorem lfs_eq : ∀ xs : List PyData, lfs xs = xs.flatMap lf
  | [] => rfl
  | x :: xs => by dsimp only [lfs]; rw [lfs_eq xs]; rfl
mutual
/-- data that _law_free reads -/
noncomputable def wff : PyData → Bool
  | .tuple xs => if isFr xs = true then (match xs with | [_, .str x] => nmOk x | _ => false) else wffs xs
  | .str x => PyData.strOk x
  | .int _ => true
  | .none => true
  | _ => false
noncomputable def wffs : List PyData → Bool
  | [] => true
  | x :: xs => wff x && wffs xs
end
theorem wffs_iff : ∀ {xs : List PyData}, wffs xs = true ↔ ∀ x ∈ xs, wff x = true
  | [] => by ((try dsimp only [wffs]) <;> simp)
  | x :: xs => by ((try dsimp only [wffs]) <;> simp [wffs_iff (xs := xs)])
theorem isFr_word {w : Str} {r : List PyData} : isFr (.str w :: r) = decide (w = so "free") := rfl
theorem isFr_dats (fs : List Fo) : isFr (Fo.dats fs) = false := by
  cases fs with
  | nil => rfl
  | cons f fs =>
    obtain ⟨r, hr⟩ := f.dat_word
    ((try dsimp only [Fo.dats]) <;> simp only [hr]); rfl
theorem isFr_one (f : Fo) : isFr [f.dat] = false := by
  obtain ⟨r, hr⟩ := f.dat_word
  rw [hr]; rfl
theorem not_free (i : Nat) (hi : i < 8) (h : i ≠ 1) : decide (wordAt i = so "free") = false := by
  rw [decide_eq_false_iff_not]
  exact fun e => h (wordAt_inj i hi 1 (by decide) e)
theorem fre_free : decide (so "free" = so "free") = true := by simp
mutual
theorem lf_fo : ∀ f : Fo, f.good = true → lf f.dat = LF f ∧ wff f.dat = true
  | .bnd i, _ => by
    have h0 : isFr [.str (so "bound"), .int (i : Int)] = false := not_free 0 (by decide) (by decide)
    ((try dsimp only [Fo.dat, lf, lfs, wff, wffs, LF]) <;> simp [h0, okW])
  | .fre x, h => by
    have h0 : isFr [.str (so "free"), .str x] = true := by ((try dsimp only [isFr]) <;> simp)
    dsimp only [Fo.good] at h
    ((try dsimp only [Fo.dat, lf, wff, LF, frNm]) <;> simp [h0, h])
  | .name x ps, h => by
    ((try dsimp only [Fo.good] at h) <;> simp only [Bool.and_eq_true] at h)
    have h0 : isFr [.str (so "name"), .str x, .tuple (Fo.dats ps)] = false := not_free 2 (by decide) (by decide)
    obtain ⟨a, b⟩ := lfs_fo ps h.2
    ((try dsimp only [Fo.dat, lf, lfs, wff, wffs, LF]) <;> simp [h0, isFr_dats, a, b, okW, nmOk_ok h.1])
  | .tup p, h => by
    dsimp only [Fo.good] at h
    have h0 : isFr [.str (so "tuple"), .tuple [p.dat], .none] = false := not_free 3 (by decide) (by decide)
    obtain ⟨a, b⟩ := lf_fo p h
    ((try dsimp only [Fo.dat, lf, lfs, wff, wffs, LF]) <;> simp [h0, isFr_one, a, b, okW])
  | .tupv p r, h => by
    ((try dsimp only [Fo.good] at h) <;> simp only [Bool.and_eq_true] at h)
    have h0 : isFr [.str (so "tuple"), .tuple [p.dat], r.dat] = false := not_free 3 (by decide) (by decide)
    obtain ⟨a, b⟩ := lf_fo p h.1
    obtain ⟨a', b'⟩ := lf_fo r h.2
    ((try dsimp only [Fo.dat, lf, lfs, wff, wffs, LF]) <;> simp [h0, isFr_one, a, b, a', b', okW])
  | .uni ps, h => by
    dsimp only [Fo.good] at h
    have h0 : isFr [.str (so "union"), .tuple (Fo.dats ps)] = false := not_free 4 (by decide) (by decide)
    obtain ⟨a, b⟩ := lfs_fo ps h
    ((try dsimp only [Fo.dat, lf, lfs, wff, wffs, LF]) <;> simp [h0, isFr_dats, a, b, okW])
  | .all p q r, h => by
    ((try dsimp only [Fo.good] at h) <;> simp only [Bool.and_eq_true] at h)
    have h0 : isFr [.str (so "all"), p.dat, q.dat, r.dat] = false := not_free 5 (by decide) (by decide)
    obtain ⟨a, b⟩ := lf_fo p h.1.1
    obtain ⟨a', b'⟩ := lf_fo q h.1.2
    obtain ⟨a'', b''⟩ := lf_fo r h.2
    ((try dsimp only [Fo.dat, lf, lfs, wff, wffs, LF]) <;> simp [h0, a, b, a', b', a'', b'', okW])
  | .typeof p, h => by
    dsimp only [Fo.good] at h
    have h0 : isFr [.str (so "typeof"), p.dat] = false := not_free 6 (by decide) (by decide)
    obtain ⟨a, b⟩ := lf_fo p h
    ((try dsimp only [Fo.dat, lf, lfs, wff, wffs, LF]) <;> simp [h0, a, b, okW])
  | .bottom, _ => by
    have h0 : isFr [.str (so "bottom")] = false := not_free 7 (by decide) (by decide)
    ((try dsimp only [Fo.dat, lf, lfs, wff, wffs, LF]) <;> simp [h0, okW])
theorem lfs_fo : ∀ fs : List Fo, Fo.goods fs = true → lfs (Fo.dats fs) = LFs fs ∧ wffs (Fo.dats fs) = true
  | [], _ => by ((try dsimp only [Fo.dats, lfs, wffs, LFs]) <;> simp)
  | f :: fs, h => by
    ((try dsimp only [Fo.goods] at h) <;> simp only [Bool.and_eq_true] at h)
    obtain ⟨a, b⟩ := lf_fo f h.1
    obtain ⟨a', b'⟩ := lfs_fo fs h.2
    ((try dsimp only [Fo.dats, lfs, wffs, LFs]) <;> simp [a, b, a', b'])
end
theorem isFr_cons {xs : List PyData} (h : isFr xs = true) : ∃ r, xs = .str (so "free") :: r := by
  cases xs with
  | nil => exact Bool.noConfusion (show false = true from h)
  | cons x r => cases x with
    | str w => exact ⟨r, by rw [show w = so "free" from of_decide_eq_true h]⟩
    | _ => exact Bool.noConfusion (show false = true from h)
theorem wff_fr {xs : List PyData} (hf : isFr xs = true) (h : wff (.tuple xs) = true) : ∃ y, xs = [.str (so "free"), .str y] ∧ nmOk y = true := by
  obtain ⟨r, rfl⟩ := isFr_cons hf
  dsimp only [wff] at h
  rw [if_pos hf] at h
  cases r with
  | nil => exact Bool.noConfusion (show false = true from h)
  | cons z r => cases r with
    | nil => cases z with
      | str y => exact ⟨y, rfl, h⟩
      | _ => exact Bool.noConfusion (show false = true from h)
    | cons _ _ => cases z <;> exact Bool.noConfusion (show false = true from h)
mutual
theorem wff_okD : ∀ x : PyData, wff x = true → okD x = true
  | .tuple xs, h => by
    by_cases hf : isFr xs = true
    · obtain ⟨y, rfl, hy⟩ := wff_fr hf h
      dsimp only [okD, okD.okDs]; simp [okW, nmOk_ok hy]
    · dsimp only [wff] at h
      rw [if_neg hf] at h
      exact wffs_okD xs h
  | .str x, h => by (dsimp only [wff, okD] at h ⊢ <;> simpa using h)
  | .int _, _ => rfl
  | .none, _ => rfl
  | .bool _, h => by ((try dsimp only [wff] at h) <;> simp at h)
  | .list _, h => by ((try dsimp only [wff] at h) <;> simp at h)
  | .dict _, h => by ((try dsimp only [wff] at h) <;> simp at h)
theorem wffs_okD : ∀ xs : List PyData, wffs xs = true → okD.okDs xs = true
  | [], _ => rfl
  | x :: xs, h => by
    ((try dsimp only [wffs] at h) <;> simp only [Bool.and_eq_true] at h)
    simp [okD.okDs, wff_okD x h.1, wffs_okD xs h.2]
end
mutual
theorem LF_len : ∀ f : Fo, (LF f).length ≤ f.sz
  | .bnd _ => by ((try dsimp only [LF]) <;> simp)
  | .fre _ => by ((try dsimp only [LF, Fo.sz]) <;> simp)
  | .name _ ps => by have := LFs_len ps; dsimp only [LF, Fo.sz]; lia
  | .tup p => by have := LF_len p; dsimp only [LF, Fo.sz]; lia
  | .tupv p r => by have := LF_len p; have := LF_len r; ((try dsimp only [LF, Fo.sz]) <;> simp only [List.length_append]); lia
  | .uni ps => by have := LFs_len ps; dsimp only [LF, Fo.sz]; lia
  | .all a b c => by have := LF_len a; have := LF_len b; have := LF_len c; ((try dsimp only [LF, Fo.sz]) <;> simp only [List.length_append]); lia
  | .typeof p => by have := LF_len p; dsimp only [LF, Fo.sz]; lia
  | .bottom => by ((try dsimp only [LF]) <;> simp)
theorem LFs_len : ∀ fs : List Fo, (LFs fs).length ≤ Fo.szs fs
  | [] => by ((try dsimp only [LFs]) <;> simp)
  | f :: fs => by have := LF_len f; have := LFs_len fs; ((try dsimp only [LFs, Fo.szs]) <;> simp only [List.length_append]); lia
end
mutual
theorem LF_ok : ∀ f : Fo, f.good = true → ∀ x ∈ LF f, nmOk x = true
  | .bnd _, _, x, h => by ((try dsimp only [LF] at h) <;> simp at h)
  | .fre y, hg, x, h => by ((try dsimp only [LF] at h) <;> simp at h); subst h; exact hg
  | .name _ ps, hg, x, h => by ((try dsimp only [Fo.good] at hg) <;> simp only [Bool.and_eq_true] at hg); exact LFs_ok ps hg.2 x h
  | .tup p, hg, x, h => by dsimp only [Fo.good] at hg; exact LF_ok p hg x h
  | .tupv p r, hg, x, h => by
    ((try dsimp only [Fo.good] at hg) <;> simp only [Bool.and_eq_true] at hg)
    rcases List.mem_append.mp h with h | h
    · exact LF_ok p hg.1 x h
    · exact LF_ok r hg.2 x h
  | .uni ps, hg, x, h => by dsimp only [Fo.good] at hg; exact LFs_ok ps hg x h
  | .all a b c, hg, x, h => by
    ((try dsimp only [Fo.good] at hg) <;> simp only [Bool.and_eq_true] at hg)
    rcases List.mem_append.mp h with h | h
    · exact LF_ok a hg.1.1 x h
    · rcases List.mem_append.mp h with h | h
      · exact LF_ok b hg.1.2 x h
      · exact LF_ok c hg.2 x h
  | .typeof p, hg, x, h => by dsimp only [Fo.good] at hg; exact LF_ok p hg x h
  | .bottom, _, x, h => by ((try dsimp only [LF] at h) <;> simp at h)
theorem LFs_ok : ∀ fs : List Fo, Fo.goods fs = true → ∀ x ∈ LFs fs, nmOk x = true
  | [], _, x, h => by ((try dsimp only [LFs] at h) <;> simp at h)
  | f :: fs, hg, x, h => by
    ((try dsimp only [Fo.goods] at hg) <;> simp only [Bool.and_eq_true] at hg)
    rcases List.mem_append.mp h with h | h
    · exact LF_ok f hg.1 x h
    · exact LFs_ok fs hg.2 x h
end
mutual
theorem Bn_len : ∀ k : Kd, (Bn k).length ≤ k.sz
  | .var _ => by ((try dsimp only [Bn]) <;> simp)
  | .name _ ps => by have := Bns_len ps; dsimp only [Bn, Kd.sz]; lia
  | .tup p => by have := Bn_len p; dsimp only [Bn, Kd.sz]; lia
  | .tupv p r => by have := Bn_len p; have := Bn_len r; ((try dsimp only [Bn, Kd.sz]) <;> simp only [List.length_append]); lia
  | .uni ps => by have := Bns_len ps; dsimp only [Bn, Kd.sz]; lia
  | .all x a b c => by have := Bn_len a; have := Bn_len b; have := Bn_len c; ((try dsimp only [Bn, Kd.sz]) <;> simp only [List.length_append, List.length_cons]); lia
  | .typeof p => by have := Bn_len p; dsimp only [Bn, Kd.sz]; lia
  | .bottom => by ((try dsimp only [Bn]) <;> simp)
theorem Bns_len : ∀ ks : List Kd, (Bns ks).length ≤ Kd.szs ks
  | [] => by ((try dsimp only [Bns]) <;> simp)
  | k :: ks => by have := Bn_len k; have := Bns_len ks; ((try dsimp only [Bns, Kd.szs]) <;> simp only [List.length_append]); lia
end
mutual
theorem Bn_ok : ∀ k : Kd, k.ok = true → ∀ x ∈ Bn k, nmOk x = true
  | .var _, _, x, h => by ((try dsimp only [Bn] at h) <;> simp at h)
  | .name _ ps, hk, x, h => by ((try dsimp only [Kd.ok] at hk) <;> simp only [Bool.and_eq_true] at hk); exact Bns_ok ps hk.2 x h
  | .tup p, hk, x, h => by dsimp only [Kd.ok] at hk; exact Bn_ok p hk x h
  | .tupv p r, hk, x, h => by
    ((try dsimp only [Kd.ok] at hk) <;> simp only [Bool.and_eq_true] at hk)
    rcases List.mem_append.mp h with h | h
    · exact Bn_ok p hk.1 x h
    · exact Bn_ok r hk.2 x h
  | .uni ps, hk, x, h => by dsimp only [Kd.ok] at hk; exact Bns_ok ps hk x h
  | .all y a b c, hk, x, h => by
    ((try dsimp only [Kd.ok] at hk) <;> simp only [Bool.and_eq_true] at hk)
    rcases List.mem_cons.mp h with rfl | h
    · exact hk.1.1.1
    rcases List.mem_append.mp h with h | h
    · exact Bn_ok a hk.1.1.2 x h
    · rcases List.mem_append.mp h with h | h
      · exact Bn_ok b hk.1.2 x h
      · exact Bn_ok c hk.2 x h
  | .typeof p, hk, x, h => by dsimp only [Kd.ok] at hk; exact Bn_ok p hk x h
  | .bottom, _, x, h => by ((try dsimp only [Bn] at h) <;> simp at h)
theorem Bns_ok : ∀ ks : List Kd, Kd.oks ks = true → ∀ x ∈ Bns ks, nmOk x = true
  | [], _, x, h => by ((try dsimp only [Bns] at h) <;> simp at h)
  | k :: ks, hk, x, h => by
    ((try dsimp only [Kd.oks] at hk) <;> simp only [Bool.and_eq_true] at hk)
    rcases List.mem_append.mp h with h | h
    · exact Bn_ok k hk.1 x h
    · exact Bns_ok ks hk.2 x h
end
end
/-! P1 -/
section
theorem parts_spec {g : Gx} (G : Gs g) (k : Kd) (hk : k.sz ≤ 100) : Call g (.ref 59) [.dat k.dat] [] [] 3 (RetN (.list (k.parts.map Kd.dat)) []) := by
  refine Call.enter G (fun ζ => rfl) (fun ζ => rfl) (fun ζ => ⟨rfl, rfl, rfl, rfl, rfl, rfl⟩) _ _ (fun ζ => rfl) (fun ζ => rfl) (names := [Str.ofString "kind"]) ?_ (by decide) rfl ?_
  · intro P vs h
    obtain ⟨a, rfl⟩ := lenOne h
    rfl
  intro c hg hA kn hw h0 hmu
  subst hg
  have hp : k.parts.length ≤ 100 := by have := Kd.szs_length k.parts; have := Kd.szs_parts k; lia
  cases k <;> dsimp only [Kd.dat] <;> dsimp only [Kd.parts, List.length_cons, List.length_nil] at hp <;> (repeat (first | refine Ev.gT ‹_› ‹_› rfl (fun ζ => rfl) rfl (by decide) rfl ?_ | refine Exs.cons ?_ | refine Ex.ite ?_ | refine Et.cmp ?_ | refine Ev.sub ?_ | refine Ev.name rfl ?_ | refine Ev.intC ?_ | refine O2.subTup (by decide) (by decide) rfl rfl ?_ | refine Ev.strC ?_ | refine O2.eqS ⟨_, rfl, ?_⟩ | refine Exs.nil ?_ | refine Ex.assign ?_ (Kn.stores ‹_› (.inl rfl)) rfl | refine Ex.ret ?_ | refine thenDo.nx ?_ | refine thenDo.rt ?_ | refine Ev.ite ?_ | refine Ev.bin ?_ | refine Ev.noneC ?_ | refine Ev.lst rfl ?_ | refine Evs.cons ?_ | refine Evs.nil ?_ | refine ⟨_, rfl, by first | exact szs rfl | assumption | (simp only [List.length_cons, List.length_nil, Kd.dats_length, List.length_append, List.length_map]; lia) | lia, ?_⟩ | refine O2.isNone ⟨_, rfl, ?_⟩ | refine O2.isNoneK ⟨_, rfl, ?_⟩ | refine O2.addL rfl rfl (by first | exact szs rfl | assumption | (simp only [List.length_cons, List.length_nil, Kd.dats_length, List.length_append, List.length_map]; lia) | lia) ?_ | refine On.listT (by first | exact szs rfl | assumption | (simp only [List.length_cons, List.length_nil, Kd.dats_length, List.length_append, List.length_map]; lia) | lia) ?_)) <;> ((try dsimp only [Fin, RetD, RetN, Kd.parts]) <;> simp [Kd.dats_eq])
end
/-! P2 -/
section
theorem shown_spec {g : Gx} (G : Gs g) (x : Str) (hx : x.length ≤ 1000000) : Call g (.ref 93) [.dat (.str x)] [] [] 2 (RetD (.str (headOf x)) []) := by
  refine Call.enter G (fun ζ => rfl) (fun ζ => rfl) (fun ζ => ⟨rfl, rfl, rfl, rfl, rfl, rfl⟩) _ _ (fun ζ => rfl) (fun ζ => rfl) (names := [Str.ofString "variable"]) ?_ (by decide) rfl ?_
  · intro P vs h
    obtain ⟨a, rfl⟩ := lenOne h
    rfl
  intro c hg hA kn hw h0 hmu
  subst hg
  refine Exs.cons (Ex.ret (Ev.splitHead (x := x) ?_ rfl rfl))
  refine Ev.name rfl ⟨rfl, hx, ?_⟩
  exact ⟨rfl, rfl⟩
noncomputable def WSpec (g : Gx) (k : Kd) (w : Bool) : Prop := Call g (.ref 110) [.dat k.dat, .dat (.bool w)] [] [] (10 * k.ht + 20) (RetD (.str (wr w k)) [])
theorem sls2 {a b : PyData} : ∀ sl ∈ [Sl.dat a, Sl.dat b], ∃ x, sl = .dat x := by simp
theorem sls1 {a : PyData} : ∀ sl ∈ [Sl.dat a], ∃ x, sl = .dat x := by simp
theorem bound_spec {g : Gx} (G : Gs g) (k : Kd) (w : Bool) (hk : k.Fit) (W : WSpec g k w) : Call g (.ref 105) [.dat k.dat, .dat (.bool w)] [] [] (10 * k.ht + 21) (RetD (.str (bnd (wr w k) k)) []) := by
  refine Call.enter G (fun ζ => rfl) (fun ζ => rfl) (fun ζ => ⟨rfl, rfl, rfl, rfl, rfl, rfl⟩) _ _ (fun ζ => rfl) (fun ζ => rfl) (names := [Str.ofString "kind", Str.ofString "is_whole"]) ?_ (by decide) rfl ?_
  · intro P vs h
    obtain ⟨a, b, rfl⟩ := lenTwo h
    rfl
  intro c hg hA kn hw h0 hmu
  subst hg
  have hl := wr_len w k hk.ok
  have hz := hk.sz
  refine Exs.cons (Ex.assign ?_ (Kn.stores ‹_› (.inl rfl)) rfl)
  refine Ev.gF ‹_› ‹_› rfl (fun ζ => rfl) (fun ζ => rfl) rfl ?_
  refine Evs.cons ?_
  refine Ev.name rfl ?_
  refine Evs.cons ?_
  refine Ev.name rfl ?_
  refine Evs.nil ?_
  refine On.callD W ‹_› sls2 ?_
  rintro r ⟨rfl, _⟩
  dsimp only [slotOf]
  generalize wr w k = t at hl ⊢
  cases k <;> dsimp only [Kd.dat] <;> (refine Exs.cons ?_; refine Ex.ret ?_; refine Ev.ite ?_; refine Et.cmp ?_; refine Ev.sub ?_; refine Ev.name rfl ?_; refine Ev.intC ?_; refine O2.subTup (by decide) (by decide) rfl rfl ?_; refine Ev.strC ?_; refine O2.eqS ⟨_, rfl, ?_⟩) <;> (first | refine Ev.name rfl ?_ | (refine Ev.bin ?_; refine Ev.bin ?_; refine Ev.strC ?_; refine Ev.name rfl ?_; refine O2.addS (by (try simp only [strLen_append]); (have len1 := so_len); (have len2 : sizeLine = 16777216 := rfl); first | lia | omega | (simp only [so, Str.ofString] at *; first | lia | omega)) ?_; refine Ev.strC ?_; refine O2.addS (by (try simp only [strLen_append]); (have len1 := so_len); (have len2 : sizeLine = 16777216 := rfl); first | lia | omega | (simp only [so, Str.ofString] at *; first | lia | omega)) ?_)) <;> refine thenDo.rt ?_ <;> simp [thenDo, Fin, RetD, RetN, bnd]
end
/-! P3 -/
section
theorem okD_bot : okD botD = true := by decide +kernel
theorem okD_any : okD anyD = true := by decide +kernel
theorem Inner.le {c c' : Cx} {scope : Scope} {mu : List Nat} {n : Nat} (h : Inner c c' scope mu n) : c'.n₀ ≤ n := Nat.le_of_eq h.n₀
open Classical in
theorem binder_spec {g : Gx} (G : Gs g) (x : Str) (lo up bd : Kd) (w : Bool) (hx : nmOk x = true) (hlo : lo.Fit) (hup : up.Fit) (Wl : WSpec g lo w) (Wu : WSpec g up w) :
    Call g (.ref 98) [.dat (Kd.all x lo up bd).dat, .dat (.bool w)] [] [] (10 * max lo.ht up.ht + 22) (RetD (.str (bdTxt w x lo up (bnd (wr w lo) lo) (bnd (wr w up) up))) []) := by
  refine Call.enter G (fun ζ => rfl) (fun ζ => rfl) (fun ζ => ⟨rfl, rfl, rfl, rfl, rfl, rfl⟩) _ _ (fun ζ => rfl) (fun ζ => rfl) (names := [Str.ofString "kind", Str.ofString "is_whole"]) ?_ (by decide) rfl ?_
  · intro P vs h
    obtain ⟨a, b, rfl⟩ := lenTwo h
    rfl
  intro c hg hA kn hw h0 hmu
  subst hg
  have l1 := wr_len w lo hlo.ok
  have l2 := wr_len w up hup.ok
  have z1 := hlo.sz
  have z2 := hup.sz
  have l3 := bnd_len (wr w lo) lo
  have l4 := bnd_len (wr w up) up
  have l5 := nmOk_len hx
  have B1 := bound_spec G lo w hlo Wl
  have B2 := bound_spec G up w hup Wu
  have hn : (if w = true then x else headOf x).length ≤ 300 := by
    split
    · exact l5
    · exact Nat.le_trans (headOf_len x) l5
  dsimp only [Kd.dat]
  refine Exs.cons (Ex.assignV (n := .str (if w = true then x else headOf x)) ?_ (Kn.stores ‹_› (.inl rfl)) rfl ?_)
  · refine Ev.ite (Et.plain (Ev.name rfl ⟨_, rfl, ?_⟩))
    cases w
    · refine ifF (by simp) ?_
      refine Ev.gF ‹_› ‹_› rfl (fun ζ => rfl) (fun ζ => rfl) rfl ?_
      refine Evs.cons ?_; refine Ev.sub ?_; refine Ev.name rfl ?_; refine Ev.intC ?_; refine O2.subTup (by decide) (by decide) rfl rfl ?_; refine Evs.nil ?_
      refine On.callD (shown_spec G x (by lia)) (by exact Ok.le ‹_› (by first | exact Nat.zero_le _ | omega)) sls1 ?_
      rintro r ⟨rfl, _⟩
      exact ⟨rfl, rfl⟩
    · refine ifT rfl ?_
      refine Ev.sub ?_; refine Ev.name rfl ?_; refine Ev.intC ?_; refine O2.subTup (by decide) (by decide) rfl rfl ?_
      exact ⟨rfl, rfl⟩
  generalize hnm : (if w = true then x else headOf x) = nm at hn
  refine thenDo.nx (Exs.cons (Ex.unpackL kn hA.hd (Kn.stores ‹_› (.inl rfl)) (Kn.stores ‹_› (.inl rfl)) rfl rfl ?_))
  refine Ev.comp [(Str.ofString "is_whole", .dat (.bool w))] loopOk_one kn hA.hd rfl ?_ (fun ζ => rfl) ?_
  · intro p hp
    simp only [List.mem_singleton] at hp
    subst hp
    exact ⟨rfl, rfl, by simp⟩
  refine It.tuple hA.hd ?_
  refine Ev.slice ?_; refine Ev.name rfl ?_; refine EvP.some ?_; refine Ev.intC ?_; refine EvP.some ?_; refine Ev.intC ?_; refine EvP.none ?_; refine SlO.tup24 ?_; refine ⟨_, rfl, szs rfl, ?_⟩
  refine ⟨[], fun d => [(Str.ofString "part", Sl.dat d)], by simp, by simp, ?_, ?_, ?_⟩
  · intro c' hc d hd
    exact Asg.name (hc.kn.stores (.inl rfl))
  · intro d hd p hp
    simp only [List.mem_singleton] at hp
    subst hp; rfl
  refine Turns.mapA (α := Kd) Kd.dat (fun k => .str (bnd (wr w k) k)) rfl (fun c' hc => hc.le) [lo, up] [] (by simp) ?_ ?_
  · intro k hk c' ys hc
    have hB : Call c.g (.ref 105) [.dat k.dat, .dat (.bool w)] [] [] (10 * k.ht + 21) (RetD (.str (bnd (wr w k) k)) []) := by
      simp only [List.mem_cons, List.not_mem_nil, or_false] at hk
      rcases hk with rfl | rfl
      · exact B1
      · exact B2
    have hht : k.ht ≤ max lo.ht up.ht := by
      simp only [List.mem_cons, List.not_mem_nil, or_false] at hk
      rcases hk with rfl | rfl <;> lia
    have G' : Gs c'.g := hc.g ▸ G
    have kn' := hc.kn
    have hA' : Ok c'.A (10 * max lo.ht up.ht + 21) := hc.A ▸ hA
    rw [← hc.g] at hB
    refine Ev.gF ‹_› ‹_› rfl (fun ζ => rfl) (fun ζ => rfl) rfl ?_
    refine Evs.cons ?_; refine Ev.name rfl ?_; refine Evs.cons ?_; refine Ev.name rfl ?_; refine Evs.nil ?_
    refine On.callD hB (hA'.le (by lia)) sls2 ?_
    rintro r ⟨rfl, _⟩
    exact ⟨[], rfl, by simp [slotOf]⟩
  simp only [List.nil_append, List.map_cons, List.map_nil]
  refine ⟨_, _, _, rfl, rfl, ?_⟩
  generalize bnd (wr w lo) lo = tl at l3 ⊢
  generalize bnd (wr w up) up = tu at l4 ⊢
  refine thenDo.nx (Exs.cons (Ex.ite (Et.cmp ?_)))
  refine Ev.sub ?_; refine Ev.name rfl ?_; refine Ev.intC ?_; refine O2.subTup (by decide) (by decide) rfl rfl ?_; refine Ev.bot ‹_› ‹_› rfl ?_
  refine O2.eqD (hA.le (Nat.zero_le _)) (Kd.okD lo hlo.ok) okD_bot (Nat.le_trans hlo.depth (by decide)) (by decide) ⟨_, rfl, ?_⟩
  have hbd : bdTxt w x lo up tl tu = (if lo.dat = botD then (if up.dat = anyD then nm else (nm ++ so "<:") ++ tu) else (if up.dat = anyD then (nm ++ so ">:") ++ tl else (((tl ++ so "<:") ++ nm) ++ so "<:") ++ tu)) := by
    unfold bdTxt
    dsimp only
    rw [hnm]
  by_cases hb : lo.dat = botD
  · refine ifT (by simp [hb]) ?_
    refine Exs.cons (Ex.ret (Ev.ite (Et.cmp ?_)))
    refine Ev.sub ?_; refine Ev.name rfl ?_; refine Ev.intC ?_; refine O2.subTup (by decide) (by decide) rfl rfl ?_; refine Ev.any ‹_› ‹_› rfl ?_
    refine O2.eqD (hA.le (Nat.zero_le _)) (Kd.okD up hup.ok) okD_any (Nat.le_trans hup.depth (by decide)) (by decide) ⟨_, rfl, ?_⟩
    by_cases ha : up.dat = anyD
    · refine ifT (by simp [ha]) ?_
      refine Ev.name rfl ?_; refine thenDo.rt ?_; refine thenDo.rt ?_
      exact ⟨congrArg Rs.dat (by simp [hbd, hb, ha]), rfl⟩
    · refine ifF (by simp [ha]) ?_
      refine Ev.bin ?_; refine Ev.bin ?_; refine Ev.name rfl ?_; refine Ev.strC ?_; refine O2.addS (by (try simp only [strLen_append]); (have len1 := so_len); (have len2 : sizeLine = 16777216 := rfl); first | lia | omega | (simp only [so, Str.ofString] at *; first | lia | omega)) ?_; refine Ev.name rfl ?_; refine O2.addS (by (try simp only [strLen_append]); (have len1 := so_len); (have len2 : sizeLine = 16777216 := rfl); first | lia | omega | (simp only [so, Str.ofString] at *; first | lia | omega)) ?_; refine thenDo.rt ?_; refine thenDo.rt ?_
      exact ⟨congrArg Rs.dat (by simp [hbd, hb, ha]), rfl⟩
  · refine ifF (by simp [hb]) ?_
    refine Exs.nil (thenDo.nx (Exs.cons (Ex.ret (Ev.ite (Et.cmp ?_)))))
    refine Ev.sub ?_; refine Ev.name rfl ?_; refine Ev.intC ?_; refine O2.subTup (by decide) (by decide) rfl rfl ?_; refine Ev.any ‹_› ‹_› rfl ?_
    refine O2.eqD (hA.le (Nat.zero_le _)) (Kd.okD up hup.ok) okD_any (Nat.le_trans hup.depth (by decide)) (by decide) ⟨_, rfl, ?_⟩
    by_cases ha : up.dat = anyD
    · refine ifT (by simp [ha]) ?_
      refine Ev.bin ?_; refine Ev.bin ?_; refine Ev.name rfl ?_; refine Ev.strC ?_; refine O2.addS (by (try simp only [strLen_append]); (have len1 := so_len); (have len2 : sizeLine = 16777216 := rfl); first | lia | omega | (simp only [so, Str.ofString] at *; first | lia | omega)) ?_; refine Ev.name rfl ?_; refine O2.addS (by (try simp only [strLen_append]); (have len1 := so_len); (have len2 : sizeLine = 16777216 := rfl); first | lia | omega | (simp only [so, Str.ofString] at *; first | lia | omega)) ?_; refine thenDo.rt ?_
      exact ⟨congrArg Rs.dat (by simp [hbd, hb, ha]), rfl⟩
    · refine ifF (by simp [ha]) ?_
      refine Ev.bin ?_; refine Ev.bin ?_; refine Ev.bin ?_; refine Ev.bin ?_; refine Ev.name rfl ?_; refine Ev.strC ?_; refine O2.addS (by (try simp only [strLen_append]); (have len1 := so_len); (have len2 : sizeLine = 16777216 := rfl); first | lia | omega | (simp only [so, Str.ofString] at *; first | lia | omega)) ?_; refine Ev.name rfl ?_; refine O2.addS (by (try simp only [strLen_append]); (have len1 := so_len); (have len2 : sizeLine = 16777216 := rfl); first | lia | omega | (simp only [so, Str.ofString] at *; first | lia | omega)) ?_; refine Ev.strC ?_; refine O2.addS (by (try simp only [strLen_append]); (have len1 := so_len); (have len2 : sizeLine = 16777216 := rfl); first | lia | omega | (simp only [so, Str.ofString] at *; first | lia | omega)) ?_; refine Ev.name rfl ?_
      refine O2.addS (by (try simp only [strLen_append]); (have len1 := so_len); (have len2 : sizeLine = 16777216 := rfl); first | lia | omega | (simp only [so, Str.ofString] at *; first | lia | omega)) ?_; refine thenDo.rt ?_
      exact ⟨congrArg Rs.dat (by simp [hbd, hb, ha]), rfl⟩
end
/-! P4 -/
section
theorem getApp {α : Type} {l m : List α} {i : Nat} {a : α} (e : l[i]? = some a) : (l ++ m)[i]? = some a := by
  rw [List.getElem?_append_left (List.getElem?_eq_some_iff.mp e).1]; exact e
noncomputable def tx (w : Bool) : Kd → List Str
  | .name _ ps => ps.map (wr w)
  | .tup p => [wr w p]
  | .tupv p r => [wr w p, wr w r]
  | .uni ps => ps.map (wr w)
  | _ => []
theorem word_ok (k : Kd) : PyData.strOk k.word = true := by cases k <;> dsimp only [Kd.word] <;> decide +kernel
theorem tx_eq (w : Bool) (k : Kd) : tx w k = if strIn k.word [.str (so "name"), .str (so "tuple"), .str (so "union")] = true then k.parts.map (wr w) else [] := by
  cases k <;> first | (rw [if_pos (by dsimp only [Kd.word]; decide +kernel)]; rfl) | (rw [if_neg (by dsimp only [Kd.word]; decide +kernel)]; rfl)
theorem written_step {g : Gx} (G : Gs g) (k : Kd) (w : Bool) (hk : k.Fit) (IH : ∀ p ∈ k.parts, WSpec g p w) (n : Nat) (hn : ∀ p ∈ k.parts, p.ht ≤ n) :
    Call g (.ref 110) [.dat k.dat, .dat (.bool w)] [] [] (10 * n + 30) (RetD (.str (wr w k)) []) := by
  refine Call.enter G (fun ζ => rfl) (fun ζ => rfl) (fun ζ => ⟨rfl, rfl, rfl, rfl, rfl, rfl⟩) _ _ (fun ζ => rfl) (fun ζ => rfl) (names := [Str.ofString "kind", Str.ofString "is_whole"]) ?_ (by decide) rfl ?_
  · intro P vs h
    obtain ⟨a, b, rfl⟩ := lenTwo h
    rfl
  intro c hg hA kn hw h0 hmu
  subst hg
  refine Exs.cons (Ex.assign ?_ (Kn.stores ‹_› (.inl rfl)) rfl)
  refine Ev.sub ?_
  refine Ev.name rfl ?_
  refine Ev.intC ?_
  refine O2.subK0 (thenDo.nx (Exs.cons (Ex.assign ?_ (Kn.stores ‹_› (.inl rfl)) rfl)))
  refine Ev.mono (K := fun v ob1 => ∃ gb, v = .obj gb.length ∧ ob1 = gb ++ [.list ((tx w k).map .str)]) ?_ ?_
  · refine Ev.ite (Et.cmp ?_)
    refine Ev.name rfl ?_; refine Ev.tup rfl ?_; refine Evs.cons ?_; refine Ev.strC ?_; refine Evs.cons ?_; refine Ev.strC ?_; refine Evs.cons ?_; refine Ev.strC ?_; refine Evs.nil ?_; refine ⟨_, rfl, szs rfl, ?_⟩
    refine O2.inTS (hA.le (Nat.zero_le _)) (word_ok k) (by decide +kernel) ⟨_, rfl, ?_⟩
    rw [tx_eq]
    split
    · refine Ev.comp [(Str.ofString "is_whole", .dat (.bool w))] loopOk_one kn hA.hd rfl ?_ (fun ζ => rfl) ?_
      · intro p hp
        simp only [List.mem_singleton] at hp
        subst hp
        exact ⟨rfl, rfl, by simp⟩
      refine It.list hA.hd ?_
      refine Ev.gF ‹_› ‹_› rfl (fun ζ => rfl) (fun ζ => rfl) rfl ?_
      refine Evs.cons ?_; refine Ev.name rfl ?_; refine Evs.nil ?_
      refine On.callD (parts_spec G k hk.sz) (hA.le (szs rfl)) sls1 ?_
      rintro r ⟨rfl, _⟩
      have hlp : k.parts.length ≤ 100 := by
        have := Kd.szs_length k.parts
        have := Kd.szs_parts k
        have := hk.sz
        lia
      refine ⟨0, k.parts.map Kd.dat, rfl, rfl, by simp; lia, [], fun d => [(Str.ofString "part", Sl.dat d)], by simp, by simp, ?_, ?_, ?_⟩
      · intro c' hc d hd
        exact Asg.name (hc.kn.stores (.inl rfl))
      · intro d hd p hp
        simp only [List.mem_singleton] at hp
        subst hp; rfl
      refine Turns.mapA (α := Kd) Kd.dat (fun k => .str (wr w k)) rfl (fun c' hc => hc.le) k.parts [] (by simp; lia) ?_ ?_
      · intro p hp c' ys hc
        have hB := IH p hp
        have hnp := hn p hp
        unfold WSpec at hB
        have G' : Gs c'.g := hc.g ▸ G
        have kn' := hc.kn
        have hA' : Ok c'.A (10 * n + 29) := hc.A ▸ hA
        rw [← hc.g] at hB
        refine Ev.gF ‹_› ‹_› rfl (fun ζ => rfl) (fun ζ => rfl) rfl ?_
        refine Evs.cons ?_; refine Ev.name rfl ?_; refine Evs.cons ?_; refine Ev.name rfl ?_; refine Evs.nil ?_
        refine On.callD hB (hA'.le (by lia)) sls2 ?_
        rintro r ⟨rfl, _⟩
        exact ⟨[], rfl, by simp [slotOf]⟩
      exact ⟨_, rfl, by simp [slotOf, List.map_map]⟩
    · refine Ev.lst rfl (Evs.nil ⟨[], rfl, by simp, [], rfl, rfl⟩)
  rintro v ob1 ⟨gb, rfl, rfl⟩
  refine thenDo.nx ?_
  have hz := hk.sz
  have hlk := wr_len w k hk.ok
  have hok := hk.ok
  have lpos : ∀ p ∈ k.parts, (wr w p).length ≤ 70000 := fun p hp => by
    have := wr_len w p (Kd.parts_ok hp hok)
    have := Kd.parts_sz hp
    lia
  have okp : ∀ p ∈ k.parts, PyData.strOk (wr w p) = true := fun p hp => wr_ok w p (Kd.parts_ok hp hok)
  cases k with
  | var x =>
    have hx := nmOk_len (x := x) hok
    dsimp only [Kd.dat, Kd.word, tx]
    refine Exs.cons ?_; refine Ex.ite ?_; refine Et.cmp ?_; refine Ev.name rfl ?_; refine Ev.strC ?_; refine O2.eqS ⟨_, rfl, ?_⟩; refine Exs.nil ?_; refine Exs.cons ?_; refine Ex.ite ?_; refine Et.cmp ?_; refine Ev.name rfl ?_; refine Ev.strC ?_; refine O2.eqS ⟨_, rfl, ?_⟩; refine Exs.nil ?_
    refine Exs.cons ?_; refine Ex.ite ?_; refine Et.cmp ?_; refine Ev.name rfl ?_; refine Ev.strC ?_; refine O2.eqS ⟨_, rfl, ?_⟩; refine Exs.nil ?_; refine Exs.cons ?_; refine Ex.ite ?_; refine Et.cmp ?_; refine Ev.name rfl ?_; refine Ev.strC ?_; refine O2.eqS ⟨_, rfl, ?_⟩; refine Exs.nil ?_
    refine Exs.cons ?_; refine Ex.ite ?_; refine Et.cmp ?_; refine Ev.name rfl ?_; refine Ev.strC ?_; refine O2.eqS ⟨_, rfl, ?_⟩; refine Exs.nil ?_; refine Exs.cons ?_; refine Ex.ite ?_; refine Et.cmp ?_; refine Ev.name rfl ?_; refine Ev.strC ?_; refine O2.eqS ⟨_, rfl, ?_⟩; refine Exs.nil ?_
    refine Exs.cons ?_; refine Ex.ite ?_; refine Et.cmp ?_; refine Ev.name rfl ?_; refine Ev.strC ?_; refine O2.eqS ⟨_, rfl, ?_⟩; refine Exs.nil ?_; refine Exs.cons ?_; refine Ex.ret ?_; refine Ev.ite ?_; refine Et.cmp ?_; refine Ev.name rfl ?_; refine Ev.strC ?_; refine O2.eqS ⟨_, rfl, ?_⟩
    refine Ev.ite ?_; refine Et.plain (Ev.name rfl ⟨_, rfl, ?_⟩)
    cases w
    · refine ifF (by simp) ?_
      refine Ev.gF ‹_› ‹_› rfl (fun ζ => rfl) (fun ζ => rfl) rfl ?_
      refine Evs.cons ?_; refine Ev.sub ?_; refine Ev.name rfl ?_; refine Ev.intC ?_; refine O2.subTup (by decide) (by decide) rfl rfl ?_; refine Evs.nil ?_
      refine On.callD (shown_spec G x (by lia)) (hA.le (szs rfl)) sls1 ?_
      rintro r ⟨rfl, _⟩
      exact ⟨rfl, rfl⟩
    · refine ifT rfl ?_
      refine Ev.sub ?_; refine Ev.name rfl ?_; refine Ev.intC ?_; refine O2.subTup (by decide) (by decide) rfl rfl ?_; refine thenDo.rt ?_
      exact ⟨rfl, rfl⟩
  | name x ps =>
    have hok := Bool.and_eq_true_iff.mp hok
    have hx := nmOk_len hok.1
    have hj := join_len (ps.map (wr w))
    have hsm := wrs_len w ps hok.2
    rw [wrs_eq] at hsm
    have hpl := Kd.szs_length ps
    have hzz : Kd.szs ps ≤ 100 := by dsimp only [Kd.sz] at hz; lia
    dsimp only [Kd.dat, Kd.word, tx]
    refine Exs.cons (Ex.ite (Et.cmp ?_))
    refine Ev.name rfl ?_; refine Ev.strC ?_; refine O2.eqS ⟨_, rfl, ?_⟩; refine Exs.cons ?_; refine Ex.ret ?_; refine Ev.bin ?_; refine Ev.sub ?_; refine Ev.name rfl ?_; refine Ev.intC ?_; refine O2.subTup (by decide) (by decide) rfl rfl ?_; refine Ev.ite ?_; refine Et.cmp ?_; refine Ev.name rfl ?_
    refine Ev.lst rfl ?_; refine Evs.nil ?_; refine ⟨_, rfl, szs rfl, ?_⟩
    refine O2.neL (xs := (ps.map (wr w)).map PyData.str) (ys := []) (by exact getApp (last_get _ _)) (by exact last_get _ _) (hA.le (Nat.zero_le _)) (okDs_of fun y hy => ?_) rfl (fun y hy => ?_) (by simp) ⟨_, rfl, ?_⟩
    · obtain ⟨t, ht, rfl⟩ := List.mem_map.mp hy
      obtain ⟨q, hq, rfl⟩ := List.mem_map.mp ht
      exact okp q hq
    · obtain ⟨t, ht, rfl⟩ := List.mem_map.mp hy
      simp [PyData.depth]
    by_cases hps : ps = []
    · subst hps
      refine ifF (by simp) ?_
      refine Ev.strC ?_; refine O2.addS (by (try simp only [strLen_append]); (have len1 := so_len); (have len2 : sizeLine = 16777216 := rfl); first | lia | omega | (simp only [so, Str.ofString] at *; first | lia | omega)) ?_; refine thenDo.rt ?_; refine thenDo.rt ?_
      exact ⟨rfl, rfl⟩
    · refine ifT (by simpa using hps) ?_
      refine Ev.bin (Ev.bin (Ev.strC ?_))
      refine Ev.meth PySem.F.slot_str_join PySem.F.plainAttrs_str PySem.F.type_str_join (by decide) rfl (Ev.strC ⟨rfl, Evs.cons (Ev.name rfl (Evs.nil ?_))⟩) rfl (by decide) rfl
      refine On.join (ys := ps.map (wr w)) (by exact getApp (last_get _ _)) (by decide) (by rw [List.length_map]; lia) ?_
      rw [List.length_map] at hj
      refine O2.addS (by (try simp only [strLen_append]); (have len1 := so_len); (have len2 : sizeLine = 16777216 := rfl); first | lia | omega | (simp only [so, Str.ofString] at *; first | lia | omega)) ?_; refine Ev.strC ?_; refine O2.addS (by (try simp only [strLen_append]); (have len1 := so_len); (have len2 : sizeLine = 16777216 := rfl); first | lia | omega | (simp only [so, Str.ofString] at *; first | lia | omega)) ?_; refine O2.addS (by (try simp only [strLen_append]); (have len1 := so_len); (have len2 : sizeLine = 16777216 := rfl); first | lia | omega | (simp only [so, Str.ofString] at *; first | lia | omega)) ?_; refine thenDo.rt ?_; refine thenDo.rt ?_
      exact ⟨congrArg Rs.dat (by dsimp only [wr]; simp [hps, wrs_eq]), rfl⟩
  | tup q =>
    have hj := join_len [wr w q]
    have hq := lpos q (by simp [Kd.parts])
    simp only [List.map_cons, List.map_nil, List.sum_cons, List.sum_nil, List.length_cons, List.length_nil] at hj
    dsimp only [Kd.dat, Kd.word, tx]
    refine Exs.cons (Ex.ite (Et.cmp ?_))
    refine Ev.name rfl ?_; refine Ev.strC ?_; refine O2.eqS ⟨_, rfl, ?_⟩; refine Exs.nil ?_; refine Exs.cons ?_; refine Ex.ite ?_; refine Et.cmp ?_; refine Ev.name rfl ?_; refine Ev.strC ?_; refine O2.eqS ⟨_, rfl, ?_⟩; refine Exs.cons ?_; refine Ex.ite ?_; refine Et.cmp ?_; refine Ev.sub ?_
    refine Ev.name rfl ?_; refine Ev.intC ?_; refine O2.subTup (by decide) (by decide) rfl rfl ?_; refine Ev.noneC ?_
    refine O2.nisNone ⟨_, rfl, ?_⟩
    refine ifF (by simp) ?_
    refine Exs.nil (thenDo.nx (Exs.cons (Ex.ret (Ev.bin (Ev.bin (Ev.strC ?_))))))
    refine Ev.meth PySem.F.slot_str_join PySem.F.plainAttrs_str PySem.F.type_str_join (by decide) rfl (Ev.strC ⟨rfl, Evs.cons (Ev.name rfl (Evs.nil ?_))⟩) rfl (by decide) rfl
    refine On.join (ys := [wr w q]) (by exact last_get _ _) (by decide) (by simp; lia) ?_
    refine O2.addS (by (try simp only [strLen_append]); (have len1 := so_len); (have len2 : sizeLine = 16777216 := rfl); first | lia | omega | (simp only [so, Str.ofString] at *; first | lia | omega)) ?_; refine Ev.strC ?_; refine O2.addS (by (try simp only [strLen_append]); (have len1 := so_len); (have len2 : sizeLine = 16777216 := rfl); first | lia | omega | (simp only [so, Str.ofString] at *; first | lia | omega)) ?_; refine thenDo.rt ?_; refine thenDo.rt ?_
    exact ⟨rfl, rfl⟩
  | tupv q r =>
    have hq := lpos q (by simp [Kd.parts])
    have hr := lpos r (by simp [Kd.parts])
    have hj := join_len [wr w q, (so "Vararg{" ++ wr w r) ++ so "}"]
    have hln := so_len
    simp only [List.map_cons, List.map_nil, List.sum_cons, List.sum_nil, List.length_cons, List.length_nil, strLen_append] at hj
    dsimp only [Kd.dat, Kd.word, tx]
    refine Exs.cons (Ex.ite (Et.cmp ?_))
    refine Ev.name rfl ?_; refine Ev.strC ?_; refine O2.eqS ⟨_, rfl, ?_⟩; refine Exs.nil ?_; refine Exs.cons ?_; refine Ex.ite ?_; refine Et.cmp ?_; refine Ev.name rfl ?_; refine Ev.strC ?_; refine O2.eqS ⟨_, rfl, ?_⟩; refine Exs.cons ?_; refine Ex.ite ?_; refine Et.cmp ?_; refine Ev.sub ?_
    refine Ev.name rfl ?_; refine Ev.intC ?_; refine O2.subTup (by decide) (by decide) rfl rfl ?_; refine Ev.noneC ?_
    refine O2.nisK ⟨_, rfl, ?_⟩
    refine ifT rfl ?_
    refine Exs.cons (Ex.setItem ?_ rfl)
    refine Ev.bin (Ev.bin (Ev.strC (Ev.sub (Ev.name rfl (Ev.neg ?_)))))
    refine O2.subListLast (by exact last_get _ _) rfl ?_
    refine O2.addS (by (try simp only [strLen_append]); (have len1 := so_len); (have len2 : sizeLine = 16777216 := rfl); first | lia | omega | (simp only [so, Str.ofString] at *; first | lia | omega)) ?_; refine Ev.strC ?_; refine O2.addS (by (try simp only [strLen_append]); (have len1 := so_len); (have len2 : sizeLine = 16777216 := rfl); first | lia | omega | (simp only [so, Str.ofString] at *; first | lia | omega)) ?_; refine Ev.name rfl ?_; refine Ev.neg ?_
    refine ⟨_, _, [.str (wr w q), .str (wr w r)], 1, rfl, rfl, by exact last_get _ _, .inl (by rw [h0]; exact Nat.zero_le _), by simp, by simp, .inr ⟨rfl, rfl⟩, ?_⟩
    have hset : (gb ++ [Ob.list (List.map PyData.str [wr w q, wr w r])]).set gb.length (.list ([PyData.str (wr w q), .str (wr w r)].set 1 (.str ((so "Vararg{" ++ wr w r) ++ so "}")))) = gb ++ [Ob.list (List.map PyData.str [wr w q, (so "Vararg{" ++ wr w r) ++ so "}"])] := by simp
    rw [hset]
    refine thenDo.nx (Exs.nil (thenDo.nx (Exs.cons (Ex.ret (Ev.bin (Ev.bin (Ev.strC ?_)))))))
    refine Ev.meth PySem.F.slot_str_join PySem.F.plainAttrs_str PySem.F.type_str_join (by decide) rfl (Ev.strC ⟨rfl, Evs.cons (Ev.name rfl (Evs.nil ?_))⟩) rfl (by decide) rfl
    refine On.join (ys := [wr w q, (so "Vararg{" ++ wr w r) ++ so "}"]) (by exact last_get _ _) (by decide) (by simp [strLen_append]; lia) ?_
    refine O2.addS (by (try simp only [strLen_append]); (have len1 := so_len); (have len2 : sizeLine = 16777216 := rfl); first | lia | omega | (simp only [so, Str.ofString] at *; first | lia | omega)) ?_; refine Ev.strC ?_; refine O2.addS (by (try simp only [strLen_append]); (have len1 := so_len); (have len2 : sizeLine = 16777216 := rfl); first | lia | omega | (simp only [so, Str.ofString] at *; first | lia | omega)) ?_; refine thenDo.rt ?_; refine thenDo.rt ?_
    exact ⟨rfl, rfl⟩
  | uni ps =>
    dsimp only [Kd.ok] at hok
    have hj := join_len (ps.map (wr w))
    have hsm := wrs_len w ps hok
    rw [wrs_eq] at hsm
    have hpl := Kd.szs_length ps
    have hzz : Kd.szs ps ≤ 100 := by dsimp only [Kd.sz] at hz; lia
    rw [List.length_map] at hj
    dsimp only [Kd.dat, Kd.word, tx]
    refine Exs.cons ?_; refine Ex.ite ?_; refine Et.cmp ?_; refine Ev.name rfl ?_; refine Ev.strC ?_; refine O2.eqS ⟨_, rfl, ?_⟩; refine Exs.nil ?_; refine Exs.cons ?_; refine Ex.ite ?_; refine Et.cmp ?_; refine Ev.name rfl ?_; refine Ev.strC ?_; refine O2.eqS ⟨_, rfl, ?_⟩; refine Exs.nil ?_
    refine Exs.cons ?_; refine Ex.ite ?_; refine Et.cmp ?_; refine Ev.name rfl ?_; refine Ev.strC ?_; refine O2.eqS ⟨_, rfl, ?_⟩; refine Exs.cons ?_; refine Ex.ret ?_; refine Ev.bin ?_; refine Ev.bin ?_; refine Ev.strC ?_
    refine Ev.meth PySem.F.slot_str_join PySem.F.plainAttrs_str PySem.F.type_str_join (by decide) rfl (Ev.strC ⟨rfl, Evs.cons (Ev.name rfl (Evs.nil ?_))⟩) rfl (by decide) rfl
    refine On.join (ys := ps.map (wr w)) (by exact last_get _ _) (by decide) (by rw [List.length_map]; lia) ?_
    refine O2.addS (by (try simp only [strLen_append]); (have len1 := so_len); (have len2 : sizeLine = 16777216 := rfl); first | lia | omega | (simp only [so, Str.ofString] at *; first | lia | omega)) ?_; refine Ev.strC ?_; refine O2.addS (by (try simp only [strLen_append]); (have len1 := so_len); (have len2 : sizeLine = 16777216 := rfl); first | lia | omega | (simp only [so, Str.ofString] at *; first | lia | omega)) ?_; refine thenDo.rt ?_; refine thenDo.rt ?_
    exact ⟨congrArg Rs.dat (by ((try dsimp only [wr]) <;> simp [wrs_eq])), rfl⟩
  | all x lo up bd =>
    have hlo := lpos lo (by ((try dsimp only [Kd.parts]) <;> simp))
    have hup := lpos up (by ((try dsimp only [Kd.parts]) <;> simp))
    have hbd := lpos bd (by ((try dsimp only [Kd.parts]) <;> simp))
    ((try dsimp only [Kd.ok] at hok) <;> simp only [Bool.and_eq_true] at hok)
    have hx := nmOk_len hok.1.1.1
    have h1 := bnd_len (wr w lo) lo
    have h2 := bnd_len (wr w up) up
    have h3 := bdTxt_len (w := w) (lo := lo) (up := up) (tl := bnd (wr w lo) lo) (tu := bnd (wr w up) up) hx
    have n1 := hn lo (by ((try dsimp only [Kd.parts]) <;> simp))
    have n2 := hn up (by ((try dsimp only [Kd.parts]) <;> simp))
    have n3 := hn bd (by ((try dsimp only [Kd.parts]) <;> simp))
    have fl : lo.Fit := hk.part (by ((try dsimp only [Kd.parts]) <;> simp))
    have fu : up.Fit := hk.part (by ((try dsimp only [Kd.parts]) <;> simp))
    dsimp only [Kd.dat, Kd.word, tx]
    refine Exs.cons ?_; refine Ex.ite ?_; refine Et.cmp ?_; refine Ev.name rfl ?_; refine Ev.strC ?_; refine O2.eqS ⟨_, rfl, ?_⟩; refine Exs.nil ?_; refine Exs.cons ?_; refine Ex.ite ?_; refine Et.cmp ?_; refine Ev.name rfl ?_; refine Ev.strC ?_; refine O2.eqS ⟨_, rfl, ?_⟩; refine Exs.nil ?_
    refine Exs.cons ?_; refine Ex.ite ?_; refine Et.cmp ?_; refine Ev.name rfl ?_; refine Ev.strC ?_; refine O2.eqS ⟨_, rfl, ?_⟩; refine Exs.nil ?_; refine Exs.cons ?_; refine Ex.ite ?_; refine Et.cmp ?_; refine Ev.name rfl ?_; refine Ev.strC ?_; refine O2.eqS ⟨_, rfl, ?_⟩; refine Exs.cons ?_
    refine Ex.ret ?_; refine Ev.bin ?_; refine Ev.bin ?_
    refine Ev.gF ‹_› ‹_› rfl (fun ζ => rfl) (fun ζ => rfl) rfl ?_
    refine Evs.cons ?_; refine Ev.sub ?_; refine Ev.name rfl ?_; refine Ev.intC ?_; refine O2.subTup (by decide) (by decide) rfl rfl ?_; refine Evs.cons ?_; refine Ev.name rfl ?_; refine Evs.nil ?_
    refine On.callD (IH bd (by (dsimp only [Kd.parts] <;> try simp))) (hA.le (by lia)) sls2 ?_
    rintro r ⟨rfl, _⟩
    dsimp only [slotOf]
    refine Ev.strC ?_; refine O2.addS (by (try simp only [strLen_append]); (have len1 := so_len); (have len2 : sizeLine = 16777216 := rfl); first | lia | omega | (simp only [so, Str.ofString] at *; first | lia | omega)) ?_
    refine Ev.gF ‹_› ‹_› rfl (fun ζ => rfl) (fun ζ => rfl) rfl ?_
    refine Evs.cons ?_; refine Ev.name rfl ?_; refine Evs.cons ?_; refine Ev.name rfl ?_; refine Evs.nil ?_
    have hbs := binder_spec G x lo up bd w hok.1.1.1 fl fu (IH lo (by ((try dsimp only [Kd.parts]) <;> simp))) (IH up (by (dsimp only [Kd.parts] <;> try simp)))
    dsimp only [Kd.dat] at hbs
    refine On.callD hbs (hA.le (by lia)) sls2 ?_
    rintro r ⟨rfl, _⟩
    dsimp only [slotOf]
    refine O2.addS (by (try simp only [strLen_append]); (have len1 := so_len); (have len2 : sizeLine = 16777216 := rfl); first | lia | omega | (simp only [so, Str.ofString] at *; first | lia | omega)) ?_; refine thenDo.rt ?_; refine thenDo.rt ?_
    exact ⟨rfl, rfl⟩
  | typeof q =>
    have hq := lpos q (by ((try dsimp only [Kd.parts]) <;> simp))
    have n1 := hn q (by ((try dsimp only [Kd.parts]) <;> simp))
    dsimp only [Kd.dat, Kd.word, tx]
    refine Exs.cons ?_; refine Ex.ite ?_; refine Et.cmp ?_; refine Ev.name rfl ?_; refine Ev.strC ?_; refine O2.eqS ⟨_, rfl, ?_⟩; refine Exs.nil ?_; refine Exs.cons ?_; refine Ex.ite ?_; refine Et.cmp ?_; refine Ev.name rfl ?_; refine Ev.strC ?_; refine O2.eqS ⟨_, rfl, ?_⟩; refine Exs.nil ?_
    refine Exs.cons ?_; refine Ex.ite ?_; refine Et.cmp ?_; refine Ev.name rfl ?_; refine Ev.strC ?_; refine O2.eqS ⟨_, rfl, ?_⟩; refine Exs.nil ?_; refine Exs.cons ?_; refine Ex.ite ?_; refine Et.cmp ?_; refine Ev.name rfl ?_; refine Ev.strC ?_; refine O2.eqS ⟨_, rfl, ?_⟩; refine Exs.nil ?_
    refine Exs.cons ?_; refine Ex.ite ?_; refine Et.cmp ?_; refine Ev.name rfl ?_; refine Ev.strC ?_; refine O2.eqS ⟨_, rfl, ?_⟩; refine Exs.cons ?_; refine Ex.ret ?_; refine Ev.bin ?_; refine Ev.bin ?_; refine Ev.strC ?_
    refine Ev.gF ‹_› ‹_› rfl (fun ζ => rfl) (fun ζ => rfl) rfl ?_
    refine Evs.cons ?_; refine Ev.sub ?_; refine Ev.name rfl ?_; refine Ev.intC ?_; refine O2.subTup (by decide) (by decide) rfl rfl ?_; refine Evs.cons ?_; refine Ev.name rfl ?_; refine Evs.nil ?_
    refine On.callD (IH q (by simp [Kd.parts])) (hA.le (by lia)) sls2 ?_
    rintro r ⟨rfl, _⟩
    dsimp only [slotOf]
    refine O2.addS (by (try simp only [strLen_append]); (have len1 := so_len); (have len2 : sizeLine = 16777216 := rfl); first | lia | omega | (simp only [so, Str.ofString] at *; first | lia | omega)) ?_; refine Ev.strC ?_; refine O2.addS (by (try simp only [strLen_append]); (have len1 := so_len); (have len2 : sizeLine = 16777216 := rfl); first | lia | omega | (simp only [so, Str.ofString] at *; first | lia | omega)) ?_; refine thenDo.rt ?_; refine thenDo.rt ?_
    exact ⟨rfl, rfl⟩
  | bottom =>
    dsimp only [Kd.dat, Kd.word, tx]
    refine Exs.cons ?_; refine Ex.ite ?_; refine Et.cmp ?_; refine Ev.name rfl ?_; refine Ev.strC ?_; refine O2.eqS ⟨_, rfl, ?_⟩; refine Exs.nil ?_; refine Exs.cons ?_; refine Ex.ite ?_; refine Et.cmp ?_; refine Ev.name rfl ?_; refine Ev.strC ?_; refine O2.eqS ⟨_, rfl, ?_⟩; refine Exs.nil ?_
    refine Exs.cons ?_; refine Ex.ite ?_; refine Et.cmp ?_; refine Ev.name rfl ?_; refine Ev.strC ?_; refine O2.eqS ⟨_, rfl, ?_⟩; refine Exs.nil ?_; refine Exs.cons ?_; refine Ex.ite ?_; refine Et.cmp ?_; refine Ev.name rfl ?_; refine Ev.strC ?_; refine O2.eqS ⟨_, rfl, ?_⟩; refine Exs.nil ?_
    refine Exs.cons ?_; refine Ex.ite ?_; refine Et.cmp ?_; refine Ev.name rfl ?_; refine Ev.strC ?_; refine O2.eqS ⟨_, rfl, ?_⟩; refine Exs.nil ?_; refine Exs.cons ?_; refine Ex.ite ?_; refine Et.cmp ?_; refine Ev.name rfl ?_; refine Ev.strC ?_; refine O2.eqS ⟨_, rfl, ?_⟩; refine Exs.nil ?_
    refine Exs.cons ?_; refine Ex.ite ?_; refine Et.cmp ?_; refine Ev.name rfl ?_; refine Ev.strC ?_; refine O2.eqS ⟨_, rfl, ?_⟩; refine Exs.nil ?_; refine Exs.cons ?_; refine Ex.ret ?_; refine Ev.ite ?_; refine Et.cmp ?_; refine Ev.name rfl ?_; refine Ev.strC ?_; refine O2.eqS ⟨_, rfl, ?_⟩
    refine Ev.strC ?_; refine thenDo.rt ?_
    exact ⟨rfl, rfl⟩
theorem written_spec {g : Gx} (G : Gs g) (w : Bool) : ∀ (n : Nat) (k : Kd), k.ht ≤ n → k.Fit → WSpec g k w
  | 0, k, h, _ => absurd k.ht_pos (by lia)
  | n + 1, k, h, hk => by
    have IH : ∀ p ∈ k.parts, WSpec g p w := fun p hp => written_spec G w n p (by have := Kd.parts_ht hp; lia) (hk.part hp)
    have hpos := k.ht_pos
    have := written_step G k w hk IH (k.ht - 1) (fun p hp => by have := Kd.parts_ht hp; lia)
    exact this.le (by lia)
end
/-! P5 -/
section
theorem ktext_spec {g : Gx} (G : Gs g) (k : Kd) (hk : k.Fit) : Call g (.ref 117) [.dat k.dat] [] [] (10 * k.ht + 21) (RetD (.str (wr false k)) []) := by
  refine Call.enter G (fun ζ => rfl) (fun ζ => rfl) (fun ζ => ⟨rfl, rfl, rfl, rfl, rfl, rfl⟩) _ _ (fun ζ => rfl) (fun ζ => rfl) (names := [Str.ofString "kind"]) ?_ (by decide) rfl ?_
  · intro P vs h
    obtain ⟨a, rfl⟩ := lenOne h
    rfl
  intro c hg hA kn hw h0 hmu
  subst hg
  refine Exs.cons (Ex.ret ?_)
  refine Ev.gF ‹_› ‹_› rfl (fun ζ => rfl) (fun ζ => rfl) rfl ?_
  refine Evs.cons ?_; refine Ev.name rfl ?_; refine Evs.cons ?_; refine Ev.boolC ?_; refine Evs.nil ?_
  refine On.callD (written_spec G false k.ht k (Nat.le_refl _) hk) hA sls2 ?_
  rintro r ⟨rfl, _⟩
  exact ⟨rfl, rfl⟩
theorem key_spec {g : Gx} (G : Gs g) (k : Kd) (hk : k.Fit) : Call g (.ref 124) [.dat k.dat] [] [] 222 (RetD (keyD k) []) := by
  refine Call.enter G (fun ζ => rfl) (fun ζ => rfl) (fun ζ => ⟨rfl, rfl, rfl, rfl, rfl, rfl⟩) _ _ (fun ζ => rfl) (fun ζ => rfl) (names := [Str.ofString "kind"]) ?_ (by decide) rfl ?_
  · intro P vs h
    obtain ⟨a, rfl⟩ := lenOne h
    rfl
  intro c hg hA kn hw h0 hmu
  subst hg
  have := hk.ht
  refine Exs.cons (Ex.ret (Ev.tup rfl (Evs.cons ?_)))
  refine Ev.gF ‹_› ‹_› rfl (fun ζ => rfl) (fun ζ => rfl) rfl ?_
  refine Evs.cons ?_; refine Ev.name rfl ?_; refine Evs.nil ?_
  refine On.callD (ktext_spec G k hk) (hA.le (by lia)) sls1 ?_
  rintro r ⟨rfl, _⟩
  dsimp only [slotOf]
  refine Evs.cons ?_
  refine Ev.gF ‹_› ‹_› rfl (fun ζ => rfl) (fun ζ => rfl) rfl ?_
  refine Evs.cons ?_; refine Ev.name rfl ?_; refine Evs.cons ?_; refine Ev.boolC ?_; refine Evs.nil ?_
  refine On.callD (written_spec G true k.ht k (Nat.le_refl _) hk) (hA.le (by lia)) sls2 ?_
  rintro r ⟨rfl, _⟩
  dsimp only [slotOf]
  refine Evs.cons ?_; refine Ev.gB ‹_› ‹_› rfl (fun ζ => rfl) rfl (by decide) rfl ?_; refine Evs.cons ?_; refine Ev.name rfl ?_; refine Evs.nil ?_
  refine On.callD (Call.reprK hk) (hA.le (szs rfl)) sls1 ?_
  rintro r ⟨rfl, _⟩
  dsimp only [slotOf]
  refine Evs.nil ?_; refine ⟨_, rfl, szs rfl, ?_⟩; refine thenDo.rt ?_
  exact ⟨rfl, rfl⟩
end
/-! P6 -/
section
structure Fits (ks : List Kd) : Prop where
  ok : Kd.oks ks = true
  ht : Kd.hts ks ≤ 20
  sz : Kd.szs ks ≤ 60
theorem Fits.mem {ks : List Kd} (h : Fits ks) {k : Kd} (m : k ∈ ks) : k.Fit := ⟨Kd.oks_mem m h.ok, Nat.le_trans (Kd.hts_mem m) h.ht, Nat.le_trans (Kd.szs_mem m) (by have := h.sz; lia)⟩
theorem Fits.flat {ks : List Kd} (h : Fits ks) {k : Kd} (m : k ∈ flats ks) : k.Fit := by
  obtain ⟨a, b, _⟩ := flats_part ks k m
  exact ⟨b h.ok, Nat.le_trans a h.ht, by have := Kd.szs_mem m; have := flats_szs ks; have := h.sz; lia⟩
theorem fit_okDs {ks : List Kd} (h : ∀ k ∈ ks, k.Fit) : okD.okDs (ks.map Kd.dat) = true := okDs_of fun x m => by
  obtain ⟨k, hk, rfl⟩ := List.mem_map.mp m
  exact Kd.okD k (h k hk).ok
theorem fit_depth {ks : List Kd} (h : ∀ k ∈ ks, k.Fit) : ∀ x ∈ ks.map Kd.dat, x.depth ≤ 60 := fun x m => by
  obtain ⟨k, hk, rfl⟩ := List.mem_map.mp m
  exact (h k hk).depth
theorem mem_dats {k : Kd} {ks : List Kd} : k.dat ∈ ks.map Kd.dat ↔ k ∈ ks := by
  rw [List.mem_map]
  constructor
  · rintro ⟨q, hq, e⟩
    exact Kd.dat_inj _ _ e ▸ hq
  · exact fun h => ⟨k, h, rfl⟩
theorem word_ne_union {k : Kd} (h : isUni k = false) : ¬ k.word = Str.ofString "union" := by
  cases k <;> first | (simp [isUni] at h; done) | (show ¬ Str.ofString _ = Str.ofString _; decide +kernel)
inductive UInv (ks : List Kd) (n : Nat) (st : List (Str × Sl)) (ob : List Ob) : Prop
  | mk (todo acc : List Kd) (e : n = Kd.szs todo) (e1 : st = [(so "left", .obj 2), (so "found", .obj 3), (so "kinds", .obj 0)]) (e2 : ob = [.list (ks.map Kd.dat), .list (ks.map Kd.dat), .list (todo.reverse.map Kd.dat), .list (acc.map Kd.dat)])
      (hd : dd acc (flats todo) = dd [] (flats ks)) (hf : ∀ k ∈ todo, k.Fit) (hl : Kd.szs todo ≤ 60) (ha : ∀ k ∈ acc, k.Fit) (hal : acc.length + Kd.szs todo ≤ 60)
open Classical in
theorem union_spec {g : Gx} (G : Gs g) (ks : List Kd) (hk : Fits ks) : Call g (.ref 52) [.obj 0] [.list (ks.map Kd.dat)] [] 230 (RetD ((unionOf ks).dat) [.list (ks.map Kd.dat)]) := by
  refine Call.enter G (fun ζ => rfl) (fun ζ => rfl) (fun ζ => ⟨rfl, rfl, rfl, rfl, rfl, rfl⟩) _ _ (fun ζ => rfl) (fun ζ => rfl) (names := [Str.ofString "kinds"]) ?_ (by decide) rfl ?_
  · intro P vs h
    obtain ⟨a, rfl⟩ := lenOne h
    rfl
  intro c hg hA kn hw h0 hmu
  subst hg
  have hz := hk.sz
  have hl := Kd.szs_length ks
  have hu : Ok c.A 0 := hA.le (Nat.zero_le _)
  refine Exs.cons (Ex.twoS kn hA.hd ⟨rfl, rfl⟩ (Kn.stores ‹_› (.inl rfl)) (Kn.stores ‹_› (.inl rfl)) rfl ?_)
  refine Ev.slice ?_; refine Ev.gT ‹_› ‹_› rfl (fun ζ => rfl) rfl (by decide) rfl ?_; refine Evs.cons ?_; refine Ev.name rfl ?_; refine Evs.nil ?_
  refine On.listL (xs := ks.map Kd.dat) rfl (by simp; lia) ?_
  refine EvP.none ?_; refine EvP.none ?_; refine EvP.some ?_; refine Ev.neg ?_; refine SlO.listRev rfl (by first | assumption | exact szs rfl | (simp; lia)) ?_; refine Ev.lst rfl ?_; refine Evs.nil ?_; refine ⟨_, rfl, by first | assumption | exact szs rfl | (simp; lia), ?_⟩; refine Exs.cons ?_
  refine Ex.while (UInv ks) (Kd.szs ks) ⟨ks, [], rfl, rfl, by simp, rfl, fun k m => hk.mem m, hz, by simp, by simpa using hz⟩ ?_
  rintro n st1 ob1 _ ⟨todo, acc, rfl, rfl, rfl, hdd, hfit, hsz, hacc, hal⟩
  have htl := Kd.szs_length todo
  refine Et.cmp ?_
  refine Ev.name rfl ?_; refine Ev.lst rfl ?_; refine Evs.nil ?_; refine ⟨_, rfl, szs rfl, ?_⟩
  refine O2.neL (xs := todo.reverse.map Kd.dat) (ys := []) rfl rfl hu (fit_okDs fun k m => hfit k (by simpa using m)) rfl (fit_depth fun k m => hfit k (by simpa using m)) (by simp) ⟨_, rfl, ?_⟩
  cases todo with
  | nil =>
    refine ifF (by simp) ?_
    refine thenDo.nx (Exs.cons (Ex.ite (Et.cmp ?_)))
    have hacc' : acc = dd [] (flats ks) := by rw [← hdd]; rfl
    refine Ev.any ‹_› ‹_› rfl ?_; refine Ev.name rfl ?_
    refine O2.inL (xs := acc.map Kd.dat) rfl hu (fit_okDs hacc) (by decide +kernel) (by decide) ⟨_, rfl, ?_⟩
    have hany : (anyD ∈ acc.map Kd.dat) ↔ anyK ∈ acc := by rw [← anyK_dat]; exact mem_dats
    by_cases h1 : anyK ∈ acc
    · refine ifT (by simpa using hany.mpr h1) ?_
      refine Exs.cons ?_; refine Ex.ret ?_; refine Ev.any ‹_› ‹_› rfl ?_; refine thenDo.rt ?_; refine thenDo.rt ?_
      have : unionOf ks = anyK := by unfold unionOf unionF; rw [← hacc', if_pos h1]
      exact ⟨congrArg Rs.dat (by simp [this, anyK_dat]), rfl⟩
    · refine ifF (by simpa using fun q => h1 (hany.mp q)) ?_
      refine Exs.nil (thenDo.nx (Exs.cons (Ex.ite (Et.cmp ?_))))
      refine Ev.name rfl ?_; refine Ev.lst rfl ?_; refine Evs.nil ?_; refine ⟨_, rfl, szs rfl, ?_⟩
      refine O2.eqL (xs := acc.map Kd.dat) (ys := []) rfl rfl hu (fit_okDs hacc) rfl (fit_depth hacc) (by simp) ⟨_, rfl, ?_⟩
      match acc, hacc', hacc, hal with
      | [], hacc', _, _ =>
        refine ifT (by simp) ?_
        refine Exs.cons ?_; refine Ex.ret ?_; refine Ev.bot ‹_› ‹_› rfl ?_; refine thenDo.rt ?_; refine thenDo.rt ?_
        have : unionOf ks = .bottom := by unfold unionOf unionF; rw [← hacc', if_neg (by simp)]
        exact ⟨congrArg Rs.dat (by simp [this, bot_dat]), rfl⟩
      | [k], hacc', _, _ =>
        refine ifF (by simp) ?_
        refine Exs.nil (thenDo.nx (Exs.cons (Ex.ret (Ev.ite (Et.cmp ?_)))))
        refine Ev.gB ‹_› ‹_› rfl (fun ζ => rfl) rfl (by decide) rfl ?_; refine Evs.cons ?_; refine Ev.name rfl ?_; refine Evs.nil ?_; refine On.lenL rfl (szs rfl) ?_; refine Ev.intC ?_
        refine O2.eqI ⟨_, rfl, ?_⟩
        refine ifT (by simp) ?_
        refine Ev.sub ?_; refine Ev.name rfl ?_; refine Ev.intC ?_
        refine O2.subList rfl (by decide) (by decide) rfl ?_
        have h1 : ¬ k = anyK := by simpa using fun e : k = anyK => h1 (by simp [e])
        have : unionOf ks = k := by unfold unionOf unionF; rw [← hacc', if_neg (by simpa using fun e => h1 e.symm)]
        exact ⟨congrArg Rs.dat (by simp [this]), rfl⟩
      | k1 :: k2 :: acc, hacc', hacc, hal =>
        refine ifF (by simp) ?_
        refine Exs.nil (thenDo.nx (Exs.cons (Ex.ret (Ev.ite (Et.cmp ?_)))))
        refine Ev.gB ‹_› ‹_› rfl (fun ζ => rfl) rfl (by decide) rfl ?_
        refine Evs.cons (Ev.name rfl (Evs.nil ?_))
        refine On.lenL (xs := (k1 :: k2 :: acc).map Kd.dat) rfl (by simp at hal ⊢; lia) ?_
        refine Ev.intC ?_
        refine O2.eqI ⟨_, rfl, ?_⟩
        refine ifF (by simp; lia) ?_
        refine Ev.tup rfl (Evs.cons (Ev.strC (Evs.cons ?_)))
        refine Ev.gT ‹_› ‹_› rfl (fun ζ => rfl) rfl (by decide) rfl ?_
        refine Evs.cons ?_
        refine Ev.callKw (Gs.toGd ‹_›) ‹_› rfl (by rw [Gs.hK ‹_›]; rfl) rfl (by decide) rfl (Ev.name rfl ?_)
        refine Ev.glob (v := .ref 124) (Gs.toGd ‹_›) kn.gl (kn.glob rfl) (by rw [Gs.hK ‹_›]; rfl) ⟨_, rfl, ?_⟩
        refine On.sortK (xs := (k1 :: k2 :: acc).map Kd.dat) (n := 222) (key := keyOf) (O := triO) (ko := triOf) rfl (by simp) (by simp at hal ⊢; lia) (hA.le (szs rfl)) (fun x => ksk_t1 124 x) ?_ (keyTri _ _ _ (by simp) ?_) ?_
        · intro x hx
          obtain ⟨k, hk', rfl⟩ := List.mem_map.mp hx
          rw [keyOf_dat]
          exact (key_spec G k (hacc k hk')).mono fun r ob' q => q.1
        · intro x hx
          obtain ⟨y, hy, rfl⟩ := List.mem_map.mp hx
          obtain ⟨k, hk', rfl⟩ := List.mem_map.mp hy
          rw [keyOf_dat]
          exact ⟨_, _, _, rfl⟩
        intro ys hp hs
        obtain ⟨zs, rfl, hzp⟩ := ys_dat hp
        have hzs : zs = srtK (k1 :: k2 :: acc) := srtK_unique hzp (fun k hk' => (hacc k hk').ok) (by
          rw [List.pairwise_map] at hs
          exact hs.imp fun {a b} h => by rw [keyOf_dat, keyOf_dat] at h; exact h)
        refine Evs.nil (On.tupleL (xs := zs.map Kd.dat) (by exact last_get _ _) (by rw [List.length_map, hzp.length_eq]; simp at hal ⊢; lia) ?_)
        refine Evs.nil ⟨_, rfl, by simp, ?_⟩
        have : unionOf ks = .uni zs := by unfold unionOf unionF; rw [← hacc', if_neg h1, hzs]
        exact ⟨congrArg Rs.dat (by rw [this]; dsimp only [Kd.dat]; rw [Kd.dats_eq]), rfl⟩
  | cons k todo =>
    have hkf := hfit k (by simp)
    refine ifT (by simp) ?_
    refine Exs.cons (Ex.assign ?_ (Kn.stores ‹_› (.inl rfl)) rfl)
    refine Ev.meth PySem.F.slot_list_pop PySem.F.plainAttrs_list PySem.F.type_list_pop (by decide) rfl (Ev.name rfl ⟨rfl, Evs.nil ?_⟩) rfl (by decide) rfl
    refine On.pop (xs := todo.reverse.map Kd.dat) (x := k.dat) (by simp) (.inl (by rw [h0]; simp)) (by simp at htl ⊢; lia) ?_
    refine thenDo.nx (Exs.cons (Ex.ite (Et.cmp ?_)))
    dsimp only [List.cons_append, List.nil_append, List.set_cons_succ, List.set_cons_zero]
    refine Ev.sub ?_; refine Ev.name rfl ?_; refine Ev.intC ?_
    refine O2.subK0 ?_
    refine Ev.strC ?_; refine O2.eqS ⟨_, rfl, ?_⟩
    dsimp only [Kd.szs] at hsz htl
    have hn0 : ∀ i, 1 ≤ i → c.n₀ ≤ i ∨ i ∈ c.mu := fun i hi => .inl (by rw [h0]; simpa using hi)
    by_cases huni : isUni k = true
    · obtain ⟨ps, rfl⟩ := isUni_inv huni
      · skip
        refine ifT (by dsimp only [Kd.word]; simp) ?_
        have hpl := Kd.szs_length ps
        dsimp only [Kd.sz] at hsz htl
        refine Exs.cons (Ex.expr ?_ rfl)
        refine Ev.meth PySem.F.slot_list_extend PySem.F.plainAttrs_list PySem.F.type_list_extend (by decide) rfl (Ev.name rfl ⟨rfl, Evs.cons (Ev.slice (Ev.sub (Ev.name rfl (Ev.intC ?_))))⟩) rfl (by decide) rfl
        dsimp only [Kd.dat]
        refine O2.subTup (by decide) (by decide) rfl rfl (EvP.none (EvP.none (EvP.some (Ev.neg ?_))))
        refine SlO.tupRev (by rw [Kd.dats_length]; lia) (Evs.nil ?_)
        refine On.extendT (xs := todo.reverse.map Kd.dat) rfl (hn0 2 (by decide)) (by simp [Kd.dats_length] at htl ⊢; lia) ?_
        refine thenDo.nx (Exs.nil (thenDo.nx (Exs.nil ?_)))
        have htodo : todo.reverse.map Kd.dat ++ (Kd.dats ps).reverse = (ps ++ todo).reverse.map Kd.dat := by simp [Kd.dats_eq]
        refine ⟨Kd.szs (ps ++ todo), [(so "left", .obj 2), (so "found", .obj 3), (so "kinds", .obj 0)], [.list (ks.map Kd.dat), .list (ks.map Kd.dat), .list ((ps ++ todo).reverse.map Kd.dat), .list (acc.map Kd.dat)], ?_, ⟨?_, ⟨[.list []], ?_⟩, ?_⟩, ⟨ps ++ todo, acc, rfl, rfl, rfl, ?_, ?_, ?_, hacc, ?_⟩⟩
        · rw [Kd.szs_append]; dsimp only [Kd.szs, Kd.sz]; lia
        · simp
        · rw [← htodo]; rfl
        · intro p hp
          simp only [List.mem_cons, List.not_mem_nil, or_false] at hp
          rcases hp with rfl | rfl | rfl <;> exact ⟨rfl, by dsimp only [Sl.Below]; simp⟩
        · rw [flats_append, ← hdd]; rfl
        · intro q hq
          rcases List.mem_append.mp hq with hq | hq
          · exact hkf.part hq
          · exact hfit q (by simp [hq])
        · rw [Kd.szs_append]; lia
        · rw [Kd.szs_append]; dsimp only [Kd.szs, Kd.sz] at hal; lia
    · have huni : isUni k = false := by simpa using huni
      refine ifF (by simpa using word_ne_union huni) ?_
      have hkz := k.sz_pos
      refine Exs.cons (Ex.ite (Et.and (Et.cmp ?_)))
      refine Ev.name rfl ?_; refine Ev.bot ‹_› ‹_› rfl ?_
      refine O2.neD hu (Kd.okD k hkf.ok) okD_bot (Nat.le_trans hkf.depth (by decide)) (by decide) ⟨_, rfl, ?_⟩
      have fin : ∀ (acc' : List Kd) (g : List Ob), acc' = (if k = Kd.bottom then acc else addN acc k) → (∀ q ∈ acc', q.Fit) → acc'.length + Kd.szs todo ≤ 60 →
          ∃ m st' ob', m < Kd.szs (k :: todo) ∧ Wk 4 [(Str.ofString "here", Sl.dat k.dat), (so "left", Sl.obj 2), (so "found", Sl.obj 3), (so "kinds", Sl.obj 0)] ([Ob.list (List.map Kd.dat ks), Ob.list (List.map Kd.dat ks), Ob.list (List.map Kd.dat todo.reverse), Ob.list (List.map Kd.dat acc')] ++ g) st' ob' ∧ UInv ks m st' ob' := by
        intro acc' g he hf hl'
        refine ⟨Kd.szs todo, _, _, by dsimp only [Kd.szs]; lia, ⟨?_, ⟨g, rfl⟩, ?_⟩, todo, acc', rfl, rfl, rfl, ?_, fun q hq => hfit q (by simp [hq]), by lia, hf, hl'⟩
        · simp
        · intro p hp
          simp only [List.mem_cons, List.not_mem_nil, or_false] at hp
          rcases hp with rfl | rfl | rfl <;> exact ⟨rfl, by dsimp only [Sl.Below]; simp⟩
        · rw [← hdd, he]
          show _ = dd acc (flat k ++ flats todo)
          rw [dd_append]
          by_cases hb : k = .bottom
          · subst hb; dsimp only [flat]; simp [dd_nil]
          · rw [if_neg hb, flat_other huni hb]; rfl
      by_cases hb : k = .bottom
      · refine ifF (by simp [hb, bot_dat]) ?_
        refine ifF (by simp) ?_
        refine Exs.nil (thenDo.nx (Exs.nil (thenDo.nx (Exs.nil ?_))))
        exact fin acc [.list []] (by rw [if_pos hb]) hacc (by dsimp only [Kd.szs] at hal; lia)
      · have hb' : ¬ k.dat = botD := by rw [← bot_dat]; exact fun e => hb (Kd.dat_inj _ _ e)
        refine ifT (by simp [hb']) ?_
        refine Et.cmp ?_
        refine Ev.name rfl ?_; refine Ev.name rfl ?_
        refine O2.niL (xs := acc.map Kd.dat) rfl hu (fit_okDs hacc) (Kd.okD k hkf.ok) (Nat.le_trans hkf.depth (by decide)) ⟨_, rfl, ?_⟩
        by_cases hm : k ∈ acc
        · refine ifF (by simpa using mem_dats.mpr hm) ?_
          refine Exs.nil (thenDo.nx (Exs.nil (thenDo.nx (Exs.nil ?_))))
          exact fin acc [.list []] (by rw [if_neg hb]; unfold addN; rw [if_pos hm]) hacc (by dsimp only [Kd.szs] at hal; lia)
        · refine ifT (by simpa using fun e => hm (mem_dats.mp e)) ?_
          refine Exs.cons (Ex.expr ?_ rfl)
          refine Ev.meth PySem.F.slot_list_append PySem.F.plainAttrs_list PySem.F.type_list_append (by decide) rfl (Ev.name rfl ⟨rfl, Evs.cons (Ev.name rfl (Evs.nil ?_))⟩) rfl (by decide) rfl
          refine On.append (xs := acc.map Kd.dat) rfl (hn0 3 (by decide)) (by rw [List.length_map]; lia) ?_
          refine thenDo.nx (Exs.nil (thenDo.nx (Exs.nil (thenDo.nx (Exs.nil ?_)))))
          have := fin (acc ++ [k]) [.list []] (by rw [if_neg hb]; unfold addN; rw [if_neg hm]) (fun q hq => by
            rcases List.mem_append.mp hq with hq | hq
            · exact hacc q hq
            · simp at hq; subst hq; exact hkf) (by dsimp only [Kd.szs] at hal; simp; lia)
          simpa [WhN] using this
end
/-! P7 -/
section
noncomputable def rebuilt : Kd → List Kd → Kd
  | .name x _, qs => .name x qs
  | .tup _, qs => .tup (qs.getD 0 .bottom)
  | .tupv _ _, qs => .tupv (qs.getD 0 .bottom) (qs.getD 1 .bottom)
  | .uni _, qs => unionOf qs
  | .all x _ _ _, qs => .all x (qs.getD 0 .bottom) (qs.getD 1 .bottom) (qs.getD 2 .bottom)
  | .typeof _, qs => .typeof (qs.getD 0 .bottom)
  | .var x, _ => .var x
  | .bottom, _ => .bottom
theorem rebuilt_spec {g : Gx} (G : Gs g) (k : Kd) (qs : List Kd) (hl : qs.length = k.parts.length) (hq : Fits qs) :
    Call g (.ref 66) [.dat k.dat, .obj 0] [.list (qs.map Kd.dat)] [] 232 (RetD ((rebuilt k qs).dat) [.list (qs.map Kd.dat)]) := by
  refine Call.enter G (fun ζ => rfl) (fun ζ => rfl) (fun ζ => ⟨rfl, rfl, rfl, rfl, rfl, rfl⟩) _ _ (fun ζ => rfl) (fun ζ => rfl) (names := [Str.ofString "kind", Str.ofString "parts"]) ?_ (by decide) rfl ?_
  · intro P vs h
    obtain ⟨a, b, rfl⟩ := lenTwo h
    rfl
  intro c hg hA kn hw h0 hmu
  subst hg
  have hz := hq.sz
  have hlz := Kd.szs_length qs
  have hlen : (qs.map Kd.dat).length ≤ 1000 := by rw [List.length_map]; lia
  refine Exs.cons (Ex.assign ?_ (Kn.stores ‹_› (.inl rfl)) rfl)
  refine Ev.sub ?_
  refine Ev.name rfl ?_
  refine Ev.intC ?_
  refine O2.subK0 (thenDo.nx ?_)
  cases k with
  | name x ps =>
    dsimp only [Kd.dat, Kd.word]
    refine Exs.cons ?_; refine Ex.ite ?_; refine Et.cmp ?_; refine Ev.name rfl ?_; refine Ev.strC ?_; refine O2.eqS ⟨_, rfl, ?_⟩; refine Exs.cons ?_; refine Ex.ret ?_; refine Ev.tup rfl ?_; refine Evs.cons ?_; refine Ev.strC ?_; refine Evs.cons ?_; refine Ev.sub ?_; refine Ev.name rfl ?_
    refine Ev.intC ?_; refine O2.subTup (by decide) (by decide) rfl rfl ?_; refine Evs.cons ?_; refine Ev.gT ‹_› ‹_› rfl (fun ζ => rfl) rfl (by decide) rfl ?_; refine Evs.cons ?_; refine Ev.name rfl ?_; refine Evs.nil ?_; refine On.tupleL rfl (by first | assumption | exact szs rfl | (simp; lia)) ?_; refine Evs.nil ?_; refine ⟨_, rfl, by first | assumption | exact szs rfl | (simp; lia), ?_⟩; refine thenDo.rt ?_
    refine thenDo.rt ?_
    exact ⟨congrArg Rs.dat (by dsimp only [rebuilt, Kd.dat]; rw [Kd.dats_eq]), rfl⟩
  | tup p =>
      obtain ⟨q, rfl⟩ := lenOne (vs := qs) hl
      dsimp only [Kd.dat, Kd.word, List.map_cons, List.map_nil] at hlen ⊢
      refine Exs.cons ?_; refine Ex.ite ?_; refine Et.cmp ?_; refine Ev.name rfl ?_; refine Ev.strC ?_; refine O2.eqS ⟨_, rfl, ?_⟩; refine Exs.nil ?_; refine Exs.cons ?_; refine Ex.ite ?_; refine Et.cmp ?_; refine Ev.name rfl ?_; refine Ev.strC ?_; refine O2.eqS ⟨_, rfl, ?_⟩; refine Exs.cons ?_
      refine Ex.assign ?_ (Kn.stores ‹_› (.inl rfl)) rfl; refine Ev.gB ‹_› ‹_› rfl (fun ζ => rfl) rfl (by decide) rfl ?_; refine Evs.cons ?_; refine Ev.sub ?_; refine Ev.name rfl ?_; refine Ev.intC ?_; refine O2.subTup (by decide) (by decide) rfl rfl ?_; refine Evs.nil ?_; refine On.lenT (szs rfl) ?_; refine Exs.cons ?_
      refine Ex.ret ?_; refine Ev.tup rfl ?_; refine Evs.cons ?_; refine Ev.strC ?_; refine Evs.cons ?_; refine Ev.gT ‹_› ‹_› rfl (fun ζ => rfl) rfl (by decide) rfl ?_; refine Evs.cons ?_; refine Ev.slice ?_; refine Ev.name rfl ?_; refine EvP.none ?_; refine EvP.some ?_; refine Ev.name rfl ?_; refine EvP.none ?_
      refine SlO.listTake (k := 1) rfl hlen ?_
      refine Evs.nil ?_; refine On.tupleL rfl (szs rfl) ?_; refine Evs.cons ?_; refine Ev.ite ?_; refine Et.cmp ?_; refine Ev.sub ?_; refine Ev.name rfl ?_; refine Ev.intC ?_; refine O2.subTup (by decide) (by decide) rfl rfl ?_; refine Ev.noneC ?_; refine O2.isNone ⟨_, rfl, ?_⟩; refine Ev.noneC ?_
      refine Evs.nil ?_; refine ⟨_, rfl, szs rfl, ?_⟩; refine thenDo.rt ?_; refine thenDo.rt ?_
      exact ⟨rfl, rfl⟩
  | tupv p r =>
      obtain ⟨q, r', rfl⟩ := lenTwo (vs := qs) hl
      dsimp only [Kd.dat, Kd.word, List.map_cons, List.map_nil] at hlen ⊢
      refine Exs.cons ?_; refine Ex.ite ?_; refine Et.cmp ?_; refine Ev.name rfl ?_; refine Ev.strC ?_; refine O2.eqS ⟨_, rfl, ?_⟩; refine Exs.nil ?_; refine Exs.cons ?_; refine Ex.ite ?_; refine Et.cmp ?_; refine Ev.name rfl ?_; refine Ev.strC ?_; refine O2.eqS ⟨_, rfl, ?_⟩; refine Exs.cons ?_
      refine Ex.assign ?_ (Kn.stores ‹_› (.inl rfl)) rfl; refine Ev.gB ‹_› ‹_› rfl (fun ζ => rfl) rfl (by decide) rfl ?_; refine Evs.cons ?_; refine Ev.sub ?_; refine Ev.name rfl ?_; refine Ev.intC ?_; refine O2.subTup (by decide) (by decide) rfl rfl ?_; refine Evs.nil ?_; refine On.lenT (szs rfl) ?_; refine Exs.cons ?_
      refine Ex.ret ?_; refine Ev.tup rfl ?_; refine Evs.cons ?_; refine Ev.strC ?_; refine Evs.cons ?_; refine Ev.gT ‹_› ‹_› rfl (fun ζ => rfl) rfl (by decide) rfl ?_; refine Evs.cons ?_; refine Ev.slice ?_; refine Ev.name rfl ?_; refine EvP.none ?_; refine EvP.some ?_; refine Ev.name rfl ?_; refine EvP.none ?_
      refine SlO.listTake (k := 1) rfl hlen ?_
      refine Evs.nil ?_
      refine On.tupleL (xs := [q.dat]) rfl (by simp) ?_
      refine Evs.cons ?_; refine Ev.ite ?_; refine Et.cmp ?_; refine Ev.sub ?_; refine Ev.name rfl ?_; refine Ev.intC ?_; refine O2.subTup (by decide) (by decide) rfl rfl ?_; refine Ev.noneC ?_; refine O2.isNoneK ⟨_, rfl, ?_⟩; refine Ev.sub ?_; refine Ev.name rfl ?_; refine Ev.name rfl ?_
      refine O2.subList (k := ((1 : Nat) : Int)) (xs := [q.dat, r'.dat]) (x := r'.dat) rfl (by decide) (by decide) rfl ?_
      refine Evs.nil ?_; refine ⟨_, rfl, szs rfl, ?_⟩; refine thenDo.rt ?_; refine thenDo.rt ?_
      exact ⟨rfl, rfl⟩
  | uni ps =>
    dsimp only [Kd.dat, Kd.word]
    refine Exs.cons ?_; refine Ex.ite ?_; refine Et.cmp ?_; refine Ev.name rfl ?_; refine Ev.strC ?_; refine O2.eqS ⟨_, rfl, ?_⟩; refine Exs.nil ?_; refine Exs.cons ?_; refine Ex.ite ?_; refine Et.cmp ?_; refine Ev.name rfl ?_; refine Ev.strC ?_; refine O2.eqS ⟨_, rfl, ?_⟩; refine Exs.nil ?_
    refine Exs.cons ?_; refine Ex.ite ?_; refine Et.cmp ?_; refine Ev.name rfl ?_; refine Ev.strC ?_; refine O2.eqS ⟨_, rfl, ?_⟩; refine Exs.cons ?_; refine Ex.ret ?_
    refine Ev.gF ‹_› ‹_› rfl (fun ζ => rfl) (fun ζ => rfl) rfl ?_
    refine Evs.cons ?_; refine Ev.name rfl ?_; refine Evs.nil ?_
    refine On.callZ (args := [.obj 0]) [0] (union_spec G qs hq) (hA.le (szs rfl)) rfl rfl (by simp) (by simp) ?_
    exact ⟨rfl, rfl⟩
  | all x lo up bd =>
      obtain ⟨q1, q2, q3, rfl⟩ := lenThree (vs := qs) hl
      dsimp only [Kd.dat, Kd.word, List.map_cons, List.map_nil] at hlen ⊢
      refine Exs.cons ?_; refine Ex.ite ?_; refine Et.cmp ?_; refine Ev.name rfl ?_; refine Ev.strC ?_; refine O2.eqS ⟨_, rfl, ?_⟩; refine Exs.nil ?_; refine Exs.cons ?_; refine Ex.ite ?_; refine Et.cmp ?_; refine Ev.name rfl ?_; refine Ev.strC ?_; refine O2.eqS ⟨_, rfl, ?_⟩; refine Exs.nil ?_
      refine Exs.cons ?_; refine Ex.ite ?_; refine Et.cmp ?_; refine Ev.name rfl ?_; refine Ev.strC ?_; refine O2.eqS ⟨_, rfl, ?_⟩; refine Exs.nil ?_; refine Exs.cons ?_; refine Ex.ite ?_; refine Et.cmp ?_; refine Ev.name rfl ?_; refine Ev.strC ?_; refine O2.eqS ⟨_, rfl, ?_⟩; refine Exs.cons ?_
      refine Ex.ret ?_; refine Ev.tup rfl ?_; refine Evs.cons ?_; refine Ev.strC ?_; refine Evs.cons ?_; refine Ev.sub ?_; refine Ev.name rfl ?_; refine Ev.intC ?_; refine O2.subTup (by decide) (by decide) rfl rfl ?_; refine Evs.cons ?_; refine Ev.sub ?_; refine Ev.name rfl ?_; refine Ev.intC ?_
      refine O2.subList rfl (by decide) (by decide) rfl ?_
      refine Evs.cons ?_; refine Ev.sub ?_; refine Ev.name rfl ?_; refine Ev.intC ?_
      refine O2.subList rfl (by decide) (by decide) rfl ?_
      refine Evs.cons ?_; refine Ev.sub ?_; refine Ev.name rfl ?_; refine Ev.intC ?_
      refine O2.subList rfl (by decide) (by decide) rfl ?_
      refine Evs.nil ?_; refine ⟨_, rfl, szs rfl, ?_⟩; refine thenDo.rt ?_; refine thenDo.rt ?_
      exact ⟨rfl, rfl⟩
  | typeof p =>
      obtain ⟨q, rfl⟩ := lenOne (vs := qs) hl
      dsimp only [Kd.dat, Kd.word, List.map_cons, List.map_nil] at hlen ⊢
      refine Exs.cons ?_; refine Ex.ite ?_; refine Et.cmp ?_; refine Ev.name rfl ?_; refine Ev.strC ?_; refine O2.eqS ⟨_, rfl, ?_⟩; refine Exs.nil ?_; refine Exs.cons ?_; refine Ex.ite ?_; refine Et.cmp ?_; refine Ev.name rfl ?_; refine Ev.strC ?_; refine O2.eqS ⟨_, rfl, ?_⟩; refine Exs.nil ?_
      refine Exs.cons ?_; refine Ex.ite ?_; refine Et.cmp ?_; refine Ev.name rfl ?_; refine Ev.strC ?_; refine O2.eqS ⟨_, rfl, ?_⟩; refine Exs.nil ?_; refine Exs.cons ?_; refine Ex.ite ?_; refine Et.cmp ?_; refine Ev.name rfl ?_; refine Ev.strC ?_; refine O2.eqS ⟨_, rfl, ?_⟩; refine Exs.nil ?_
      refine Exs.cons ?_; refine Ex.ret ?_; refine Ev.ite ?_; refine Et.cmp ?_; refine Ev.name rfl ?_; refine Ev.strC ?_; refine O2.eqS ⟨_, rfl, ?_⟩; refine Ev.tup rfl ?_; refine Evs.cons ?_; refine Ev.strC ?_; refine Evs.cons ?_; refine Ev.sub ?_; refine Ev.name rfl ?_; refine Ev.intC ?_
      refine O2.subList rfl (by decide) (by decide) rfl ?_
      refine Evs.nil ?_; refine ⟨_, rfl, szs rfl, ?_⟩; refine thenDo.rt ?_
      exact ⟨rfl, rfl⟩
  | var x =>
    dsimp only [Kd.dat, Kd.word]
    refine Exs.cons ?_; refine Ex.ite ?_; refine Et.cmp ?_; refine Ev.name rfl ?_; refine Ev.strC ?_; refine O2.eqS ⟨_, rfl, ?_⟩; refine Exs.nil ?_; refine Exs.cons ?_; refine Ex.ite ?_; refine Et.cmp ?_; refine Ev.name rfl ?_; refine Ev.strC ?_; refine O2.eqS ⟨_, rfl, ?_⟩; refine Exs.nil ?_
    refine Exs.cons ?_; refine Ex.ite ?_; refine Et.cmp ?_; refine Ev.name rfl ?_; refine Ev.strC ?_; refine O2.eqS ⟨_, rfl, ?_⟩; refine Exs.nil ?_; refine Exs.cons ?_; refine Ex.ite ?_; refine Et.cmp ?_; refine Ev.name rfl ?_; refine Ev.strC ?_; refine O2.eqS ⟨_, rfl, ?_⟩; refine Exs.nil ?_
    refine Exs.cons ?_; refine Ex.ret ?_; refine Ev.ite ?_; refine Et.cmp ?_; refine Ev.name rfl ?_; refine Ev.strC ?_; refine O2.eqS ⟨_, rfl, ?_⟩; refine Ev.name rfl ?_; refine thenDo.rt ?_
    exact ⟨rfl, rfl⟩
  | bottom =>
    dsimp only [Kd.dat, Kd.word]
    refine Exs.cons ?_; refine Ex.ite ?_; refine Et.cmp ?_; refine Ev.name rfl ?_; refine Ev.strC ?_; refine O2.eqS ⟨_, rfl, ?_⟩; refine Exs.nil ?_; refine Exs.cons ?_; refine Ex.ite ?_; refine Et.cmp ?_; refine Ev.name rfl ?_; refine Ev.strC ?_; refine O2.eqS ⟨_, rfl, ?_⟩; refine Exs.nil ?_
    refine Exs.cons ?_; refine Ex.ite ?_; refine Et.cmp ?_; refine Ev.name rfl ?_; refine Ev.strC ?_; refine O2.eqS ⟨_, rfl, ?_⟩; refine Exs.nil ?_; refine Exs.cons ?_; refine Ex.ite ?_; refine Et.cmp ?_; refine Ev.name rfl ?_; refine Ev.strC ?_; refine O2.eqS ⟨_, rfl, ?_⟩; refine Exs.nil ?_
    refine Exs.cons ?_; refine Ex.ret ?_; refine Ev.ite ?_; refine Et.cmp ?_; refine Ev.name rfl ?_; refine Ev.strC ?_; refine O2.eqS ⟨_, rfl, ?_⟩; refine Ev.name rfl ?_; refine thenDo.rt ?_
    exact ⟨rfl, rfl⟩
end
/-! P8 -/
section
noncomputable def itD (q : Kd × List Str) : PyData := .tuple [q.1.dat, .tuple (q.2.map .str)]
noncomputable def stsz (l : List (Kd × List Str)) : Nat := (l.map fun q => q.1.sz).sum
theorem strs_ok {l : List Str} (h : ∀ x ∈ l, nmOk x = true) : okD.okDs (l.map .str) = true := okDs_of fun y m => by
  obtain ⟨x, hx, rfl⟩ := List.mem_map.mp m
  exact nmOk_ok (h x hx)
theorem strs_depth {l : List Str} : ∀ y ∈ l.map PyData.str, y.depth ≤ 60 := fun y m => by
  obtain ⟨x, hx, rfl⟩ := List.mem_map.mp m
  simp [PyData.depth]
theorem mem_strs {x : Str} {l : List Str} : PyData.str x ∈ l.map PyData.str ↔ x ∈ l := by simp
theorem itD_ok {q : Kd × List Str} (h : q.1.Fit) (h2 : ∀ x ∈ q.2, nmOk x = true) : okD (itD q) = true := by
  exact an (Kd.okD _ h.ok) (an (strs_ok h2) rfl)
theorem itD_depth {q : Kd × List Str} (h : q.1.Fit) : (itD q).depth ≤ 60 := by
  have h1 := Kd.depth_le q.1
  have h2 := h.ht
  have h3 : PyData.depthAll (q.2.map PyData.str) ≤ 0 := depthAll_le fun y m => by
    obtain ⟨x, hx, rfl⟩ := List.mem_map.mp m
    simp [PyData.depth]
  dsimp only [itD, PyData.depth, PyData.depthAll]; lia
theorem stsz_cons (q : Kd × List Str) (l : List (Kd × List Str)) : stsz (q :: l) = q.1.sz + stsz l := by simp [stsz]
theorem stsz_append (l m : List (Kd × List Str)) : stsz (l ++ m) = stsz l + stsz m := by ((try dsimp only [stsz]) <;> simp)
theorem stsz_length : ∀ l : List (Kd × List Str), l.length ≤ stsz l
  | [] => Nat.le_refl _
  | a :: l => by have := a.1.sz_pos; have := stsz_length l; rw [stsz_cons, List.length_cons]; lia
theorem word_ne_var {k : Kd} (h : isVar k = false) : ¬ k.word = Str.ofString "var" := by
  cases k <;> first | (((try dsimp only [isVar] at h) <;> simp at h); done) | (show ¬ Str.ofString _ = Str.ofString _; decide +kernel)
theorem word_ne_all {k : Kd} (h : isAll k = false) : ¬ k.word = Str.ofString "all" := by
  cases k <;> first | (((try dsimp only [isAll] at h) <;> simp at h); done) | (show ¬ Str.ofString _ = Str.ofString _; decide +kernel)
inductive FInv (k : Kd) (n : Nat) (st : List (Str × Sl)) (ob : List Ob) : Prop
  | mk (found : List Str) (stk : List (Kd × List Str)) (e : n = stsz stk) (e1 : st = [(so "found", .obj 0), (so "left", .obj 1), (so "kind", .dat k.dat)]) (e2 : ob = [.list (found.map .str), .list (stk.reverse.map itD)])
      (hm : ∀ x, (x ∈ found ∨ ∃ q ∈ stk, FreeIn x q.1 ∧ x ∉ q.2) ↔ FreeIn x k) (hn : found.Nodup) (hl : found.length + stsz stk ≤ k.sz) (hs : ∀ q ∈ stk, q.1.Fit ∧ (∀ x ∈ q.2, nmOk x = true) ∧ q.2.length + q.1.sz ≤ 100)
inductive FreeQ (k : Kd) (r : Rs) (ob' : List Ob) : Prop
  | mk (names : List Str) (e : r = .new (.list (names.map .str))) (e2 : ob' = []) (nd : names.Nodup) (l : names.length ≤ k.sz) (m : ∀ x, x ∈ names ↔ FreeIn x k)
open Classical in
theorem free_spec {g : Gx} (G : Gs g) (k : Kd) (hk : k.Fit) : Call g (.ref 81) [.dat k.dat] [] [] 10 (FreeQ k) := by
  refine Call.enter G (fun ζ => rfl) (fun ζ => rfl) (fun ζ => ⟨rfl, rfl, rfl, rfl, rfl, rfl⟩) _ _ (fun ζ => rfl) (fun ζ => rfl) (names := [Str.ofString "kind"]) ?_ (by decide) rfl ?_
  · intro P vs h
    obtain ⟨a, rfl⟩ := lenOne h
    rfl
  intro c hg hA kn hw h0 hmu
  subst hg
  have hu : Ok c.A 0 := hA.le (Nat.zero_le _)
  have hn0 : ∀ i, c.n₀ ≤ i ∨ i ∈ c.mu := fun i => .inl (by rw [h0]; exact Nat.zero_le _)
  refine Exs.cons (Ex.twoS kn hA.hd ⟨rfl, rfl⟩ (Kn.stores ‹_› (.inl rfl)) (Kn.stores ‹_› (.inl rfl)) rfl ?_)
  refine Ev.lst rfl ?_; refine Evs.nil ?_; refine ⟨_, rfl, szs rfl, ?_⟩; refine Ev.lst rfl ?_; refine Evs.cons ?_; refine Ev.tup rfl ?_; refine Evs.cons ?_; refine Ev.name rfl ?_; refine Evs.cons ?_; refine Ev.tup rfl ?_; refine Evs.nil ?_; refine ⟨_, rfl, szs rfl, ?_⟩
  refine Evs.nil ?_; refine ⟨_, rfl, szs rfl, ?_⟩; refine Evs.nil ?_; refine ⟨_, rfl, szs rfl, ?_⟩; refine Exs.cons ?_
  refine Ex.while (FInv k) (stsz [(k, [])]) ⟨[], [(k, [])], rfl, rfl, rfl, by simp, by simp, by ((try dsimp only [stsz]) <;> simp), fun q hq => ?_⟩ ?_
  · simp at hq; subst hq; exact ⟨hk, by simp, by simpa using hk.sz⟩
  rintro n st1 ob1 _ ⟨found, stk, rfl, rfl, rfl, hfr, hnd, hsz, hst⟩
  refine Et.cmp ?_
  refine Ev.name rfl ?_; refine Ev.lst rfl ?_; refine Evs.nil ?_; refine ⟨_, rfl, szs rfl, ?_⟩
  have hok : okD.okDs (stk.reverse.map itD) = true := okDs_of fun y m => by
    obtain ⟨q, hq, rfl⟩ := List.mem_map.mp m
    exact itD_ok (hst q (by simpa using hq)).1 (hst q (by simpa using hq)).2.1
  have hdp : ∀ y ∈ stk.reverse.map itD, y.depth ≤ 60 := fun y m => by
    obtain ⟨q, hq, rfl⟩ := List.mem_map.mp m
    exact itD_depth (hst q (by simpa using hq)).1
  refine O2.neL (xs := stk.reverse.map itD) (ys := []) rfl rfl hu hok rfl hdp (by simp) ⟨_, rfl, ?_⟩
  cases stk with
  | nil =>
    refine ifF (by simp) ?_
    refine Exs.cons ?_; refine Ex.ret ?_; refine Ev.name rfl ?_; refine thenDo.rt ?_
    refine ⟨Nat.zero_le _, _, rfl, found, rfl, rfl, hnd, by (dsimp only [stsz] at hsz <;> try simp at hsz); exact hsz, fun x => ?_⟩
    have := hfr x
    simpa using this
  | cons q stk =>
    obtain ⟨q, b⟩ := q
    obtain ⟨hqf, hb, hbl⟩ := hst (q, b) (by simp)
    have hstl := stsz_length stk
    have hks := hk.sz
    rw [stsz_cons] at hsz
    have hsz' : found.length + (q.sz + stsz stk) ≤ k.sz := hsz
    refine ifT (by simp) ?_
    refine Exs.cons (Ex.unpackT kn hA.hd (Kn.stores ‹_› (.inl rfl)) (Kn.stores ‹_› (.inr ⟨hw, rfl⟩)) rfl rfl ?_)
    refine Ev.meth PySem.F.slot_list_pop PySem.F.plainAttrs_list PySem.F.type_list_pop (by decide) rfl (Ev.name rfl ⟨rfl, Evs.nil ?_⟩) rfl (by decide) rfl
    refine On.pop (xs := stk.reverse.map itD) (x := itD (q, b)) (by simp) (hn0 _) (by simp; lia) ?_
    refine ⟨q.dat, .tuple (b.map .str), rfl, ?_⟩
    dsimp only [List.cons_append, List.nil_append, List.set_cons_succ, List.set_cons_zero]
    have fin : ∀ (found' : List Str) (stk' : List (Kd × List Str)) (g : List Ob), stsz stk' < stsz ((q, b) :: stk) → (∀ x, (x ∈ found' ∨ ∃ q ∈ stk', FreeIn x q.1 ∧ x ∉ q.2) ↔ FreeIn x k) → found'.Nodup → found'.length + stsz stk' ≤ k.sz →
        (∀ q ∈ stk', q.1.Fit ∧ (∀ x ∈ q.2, nmOk x = true) ∧ q.2.length + q.1.sz ≤ 100) →
        ∃ m st' ob', m < stsz ((q, b) :: stk) ∧ Wk 2 [(so "bound", Sl.dat (.tuple (b.map .str))), (so "here", Sl.dat q.dat), (so "found", Sl.obj 0), (so "left", Sl.obj 1), (so "kind", Sl.dat k.dat)] ([Ob.list (found'.map .str), Ob.list (stk'.reverse.map itD)] ++ g) st' ob' ∧ FInv k m st' ob' := by
      intro found' stk' g h1 h2 h3 h4 h5
      refine ⟨stsz stk', [(so "found", .obj 0), (so "left", .obj 1), (so "kind", .dat k.dat)], _, h1, ⟨?_, ⟨g, rfl⟩, ?_⟩, found', stk', rfl, rfl, rfl, h2, h3, h4, h5⟩
      · simp
      · intro p hp
        simp only [List.mem_cons, List.not_mem_nil, or_false] at hp
        rcases hp with rfl | rfl | rfl <;> exact ⟨rfl, by (dsimp only [Sl.Below] <;> try simp)⟩
    have hlt : stsz stk < stsz ((q, b) :: stk) := by have := q.sz_pos; rw [stsz_cons]; show _ < q.sz + _; lia
    refine thenDo.nx (Exs.cons (Ex.ite (Et.cmp ?_)))
    refine Ev.sub ?_; refine Ev.name rfl ?_; refine Ev.intC ?_
    refine O2.subK0 ?_
    refine Ev.strC ?_; refine O2.eqS ⟨_, rfl, ?_⟩
    have hfo : ∀ x ∈ found, nmOk x = true := fun x hx => free_ok k ((hfr x).mp (.inl hx)) hk.ok
    have hst' : ∀ q ∈ stk, q.1.Fit ∧ (∀ x ∈ q.2, nmOk x = true) ∧ q.2.length + q.1.sz ≤ 100 := fun q hq => hst q (by simp [hq])
    by_cases hv : isVar q = true
    · obtain ⟨y, rfl⟩ := isVar_inv hv
      · skip
        refine ifT (by simp [Kd.word]) ?_
        have hy : nmOk y = true := hqf.ok
        have hyo : okD (.str y) = true := nmOk_ok hy
        dsimp only [Kd.dat]
        refine Exs.cons (Ex.ite (Et.and (Et.cmp ?_)))
        refine Ev.sub ?_; refine Ev.name rfl ?_; refine Ev.intC ?_; refine O2.subTup (by decide) (by decide) rfl rfl ?_; refine Ev.name rfl ?_
        refine O2.niT hu (strs_ok hb) hyo (by simp [PyData.depth]) ⟨_, rfl, ?_⟩
        have hfree : ∀ x, (x ∈ found ∨ (x = y ∧ x ∉ b) ∨ ∃ q ∈ stk, FreeIn x q.1 ∧ x ∉ q.2) ↔ FreeIn x k := fun x => by
          rw [← hfr x]
          simp only [List.mem_cons, exists_eq_or_imp]; exact Iff.rfl
        dsimp only [Kd.sz] at hsz'
        by_cases hyb : y ∈ b
        · refine ifF (by simpa using hyb) ?_; refine ifF (by simp) ?_
          refine Exs.nil (thenDo.nx (Exs.nil (thenDo.nx (Exs.nil ?_))))
          refine fin found stk [.list []] hlt (fun x => ?_) hnd (by lia) hst'
          rw [← hfree x]
          constructor
          · rintro (h | h)
            · exact .inl h
            · exact .inr (.inr h)
          · rintro (h | ⟨rfl, h⟩ | h)
            · exact .inl h
            · exact absurd hyb h
            · exact .inr h
        · refine ifT (by simpa using hyb) ?_
          refine Et.cmp ?_
          refine Ev.sub ?_; refine Ev.name rfl ?_; refine Ev.intC ?_; refine O2.subTup (by decide) (by decide) rfl rfl ?_; refine Ev.name rfl ?_
          refine O2.niL (xs := found.map .str) rfl hu (strs_ok hfo) hyo (by simp [PyData.depth]) ⟨_, rfl, ?_⟩
          by_cases hyf : y ∈ found
          · refine ifF (by simpa using hyf) ?_
            refine Exs.nil (thenDo.nx (Exs.nil (thenDo.nx (Exs.nil ?_))))
            refine fin found stk [.list []] hlt (fun x => ?_) hnd (by lia) hst'
            rw [← hfree x]
            constructor
            · rintro (h | h)
              · exact .inl h
              · exact .inr (.inr h)
            · rintro (h | ⟨rfl, h⟩ | h)
              · exact .inl h
              · exact .inl hyf
              · exact .inr h
          · refine ifT (by simpa using hyf) ?_
            refine Exs.cons (Ex.expr ?_ rfl)
            refine Ev.meth PySem.F.slot_list_append PySem.F.plainAttrs_list PySem.F.type_list_append (by decide) rfl (Ev.name rfl ⟨rfl, Evs.cons ?_⟩) rfl (by decide) rfl
            refine Ev.sub ?_; refine Ev.name rfl ?_; refine Ev.intC ?_; refine O2.subTup (by decide) (by decide) rfl rfl ?_; refine Evs.nil ?_
            refine On.append (xs := found.map .str) rfl (hn0 _) (by rw [List.length_map]; lia) ?_
            refine thenDo.nx (Exs.nil (thenDo.nx (Exs.nil (thenDo.nx (Exs.nil ?_)))))
            have := fin (found ++ [y]) stk [.list []] hlt (fun x => by
              rw [← hfree x]
              constructor
              · rintro (h | h)
                · rcases List.mem_append.mp h with h | h
                  · exact .inl h
                  · simp at h; subst h; exact .inr (.inl ⟨rfl, hyb⟩)
                · exact .inr (.inr h)
              · rintro (h | ⟨rfl, h⟩ | h)
                · exact .inl (by simp [h])
                · exact .inl (by simp)
                · exact .inr h) (List.nodup_append.mpr ⟨hnd, by simp, fun x hx z hz => by simp at hz; subst hz; exact fun e => hyf (e ▸ hx)⟩) (by simp; lia) hst'
            rw [List.map_append] at this
            exact this
    · have hv : isVar q = false := by simpa using hv
      refine ifF (by simpa using word_ne_var hv) ?_
      refine Exs.cons (Ex.ite (Et.cmp ?_))
      refine Ev.sub ?_; refine Ev.name rfl ?_; refine Ev.intC ?_
      refine O2.subK0 ?_
      refine Ev.strC ?_; refine O2.eqS ⟨_, rfl, ?_⟩
      by_cases ha : isAll q = true
      · obtain ⟨y, lo, up, bd, rfl⟩ := isAll_inv ha
        · skip
          refine ifT (by ((try dsimp only [Kd.word]) <;> simp)) ?_
          have hok := hqf.ok
          ((try dsimp only [Kd.ok] at hok) <;> simp only [Bool.and_eq_true] at hok)
          dsimp only [Kd.sz] at hsz' hbl
          have hbl : b.length + (1 + lo.sz + up.sz + bd.sz) ≤ 100 := hbl
          have h1 := lo.sz_pos
          have h2 := up.sz_pos
          have h3 := bd.sz_pos
          have p1 : lo.Fit := hqf.part (by ((try dsimp only [Kd.parts]) <;> simp))
          have p2 : up.Fit := hqf.part (by ((try dsimp only [Kd.parts]) <;> simp))
          have p3 : bd.Fit := hqf.part (by ((try dsimp only [Kd.parts]) <;> simp))
          dsimp only [Kd.dat]
          refine Exs.cons (Ex.expr ?_ rfl)
          refine Ev.meth PySem.F.slot_list_append PySem.F.plainAttrs_list PySem.F.type_list_append (by decide) rfl (Ev.name rfl ⟨rfl, Evs.cons ?_⟩) rfl (by decide) rfl
          refine Ev.tup rfl ?_; refine Evs.cons ?_; refine Ev.sub ?_; refine Ev.name rfl ?_; refine Ev.intC ?_; refine O2.subTup (by decide) (by decide) rfl rfl ?_; refine Evs.cons ?_; refine Ev.bin ?_; refine Ev.name rfl ?_; refine Ev.tup rfl ?_; refine Evs.cons ?_; refine Ev.sub ?_; refine Ev.name rfl ?_
          refine Ev.intC ?_; refine O2.subTup (by decide) (by decide) rfl rfl ?_; refine Evs.nil ?_; refine ⟨_, rfl, by first | assumption | exact szs rfl | (simp; lia), ?_⟩; refine O2.addT (by first | assumption | exact szs rfl | (simp; lia)) ?_; refine Evs.nil ?_; refine ⟨_, rfl, by first | assumption | exact szs rfl | (simp; lia), ?_⟩; refine Evs.nil ?_
          refine On.append (xs := stk.reverse.map itD) rfl (hn0 _) (by simp; lia) ?_
          refine thenDo.nx (Exs.cons (Ex.expr ?_ rfl))
          dsimp only [List.cons_append, List.nil_append, List.set_cons_succ, List.set_cons_zero]
          refine Ev.meth PySem.F.slot_list_extend PySem.F.plainAttrs_list PySem.F.type_list_extend (by decide) rfl (Ev.name rfl ⟨rfl, Evs.cons ?_⟩) rfl (by decide) rfl
          refine Ev.lst rfl ?_; refine Evs.cons ?_; refine Ev.tup rfl ?_; refine Evs.cons ?_; refine Ev.sub ?_; refine Ev.name rfl ?_; refine Ev.intC ?_; refine O2.subTup (by decide) (by decide) rfl rfl ?_; refine Evs.cons ?_; refine Ev.name rfl ?_; refine Evs.nil ?_; refine ⟨_, rfl, szs rfl, ?_⟩
          refine Evs.cons ?_; refine Ev.tup rfl ?_; refine Evs.cons ?_; refine Ev.sub ?_; refine Ev.name rfl ?_; refine Ev.intC ?_; refine O2.subTup (by decide) (by decide) rfl rfl ?_; refine Evs.cons ?_; refine Ev.name rfl ?_; refine Evs.nil ?_; refine ⟨_, rfl, szs rfl, ?_⟩; refine Evs.nil ?_
          refine ⟨_, rfl, szs rfl, ?_⟩; refine Evs.nil ?_
          refine On.extendL (xs := stk.reverse.map itD ++ [.tuple [bd.dat, .tuple (b.map .str ++ [.str y])]]) (ys := [itD (up, b), itD (lo, b)]) rfl rfl (hn0 _) (by simp; lia) ?_
          refine thenDo.nx (Exs.nil (thenDo.nx (Exs.nil (thenDo.nx (Exs.nil ?_)))))
          have hy : nmOk y = true := hok.1.1.1
          have := fin found ((lo, b) :: (up, b) :: (bd, b ++ [y]) :: stk) [.list [], .list [itD (up, b), itD (lo, b)]] (by simp only [stsz_cons]; dsimp only [Kd.sz] at hsz' ⊢; lia) (fun x => by
            rw [← hfr x]
            ((try dsimp only [FreeIn]) <;> simp only [List.mem_cons, exists_eq_or_imp, List.mem_append, List.not_mem_nil, or_false, not_or])
            constructor
            · rintro (h | ⟨h, h'⟩ | ⟨h, h'⟩ | ⟨h, h', h''⟩ | h)
              · exact .inl h
              · exact .inr (.inl ⟨.inl h, h'⟩)
              · exact .inr (.inl ⟨.inr (.inl h), h'⟩)
              · exact .inr (.inl ⟨.inr (.inr ⟨h, h''⟩), h'⟩)
              · exact .inr (.inr h)
            · rintro (h | ⟨h | h | ⟨h, h''⟩, h'⟩ | h)
              · exact .inl h
              · exact .inr (.inl ⟨h, h'⟩)
              · exact .inr (.inr (.inl ⟨h, h'⟩))
              · exact .inr (.inr (.inr (.inl ⟨h, h', h''⟩)))
              · exact .inr (.inr (.inr (.inr h)))) hnd (by simp only [stsz_cons]; lia) (fun q hq => by
            simp only [List.mem_cons] at hq
            rcases hq with rfl | rfl | rfl | hq
            · exact ⟨p1, hb, by show b.length + lo.sz ≤ 100; lia⟩
            · exact ⟨p2, hb, by show b.length + up.sz ≤ 100; lia⟩
            · refine ⟨p3, fun x hx => ?_, by show (b ++ [y]).length + bd.sz ≤ 100; simp; lia⟩
              rcases List.mem_append.mp hx with hx | hx
              · exact hb x hx
              · simp at hx; subst hx; exact hy
            · exact hst' q hq)
          have e : ((lo, b) :: (up, b) :: (bd, b ++ [y]) :: stk).reverse.map itD = stk.reverse.map itD ++ [.tuple [bd.dat, .tuple (b.map .str ++ [.str y])]] ++ [itD (up, b), itD (lo, b)] := by simp [itD]
          rw [e] at this
          exact this
      · have ha : isAll q = false := by simpa using ha
        refine ifF (by simpa using word_ne_all ha) ?_
        have hpl := Kd.szs_length q.parts
        have hpz := Kd.szs_parts q
        have hbl' : b.length + q.sz ≤ 100 := hbl
        refine Exs.cons (Ex.expr ?_ rfl)
        refine Ev.meth PySem.F.slot_list_extend PySem.F.plainAttrs_list PySem.F.type_list_extend (by decide) rfl (Ev.name rfl ⟨rfl, Evs.cons ?_⟩) rfl (by decide) rfl
        refine Ev.comp [(Str.ofString "bound", .dat (.tuple (b.map .str)))] loopOk_one kn hA.hd rfl ?_ (fun ζ => rfl) ?_
        · intro p hp
          simp only [List.mem_singleton] at hp
          subst hp
          exact ⟨rfl, rfl, by simp⟩
        refine It.list hA.hd (Ev.slice ?_)
        refine Ev.gF ‹_› ‹_› rfl (fun ζ => rfl) (fun ζ => rfl) rfl ?_
        refine Evs.cons ?_; refine Ev.name rfl ?_; refine Evs.nil ?_
        refine On.callD (parts_spec G q hqf.sz) (hA.le (szs rfl)) sls1 ?_
        rintro r ⟨rfl, _⟩
        dsimp only [slotOf]
        refine EvP.none ?_; refine EvP.none ?_; refine EvP.some ?_; refine Ev.neg ?_; refine SlO.listRev rfl (by first | assumption | exact szs rfl | (simp; lia)) ?_
        refine ⟨4, q.parts.reverse.map Kd.dat, rfl, by simp, by simp; lia, [], fun d => [(Str.ofString "part", Sl.dat d)], by simp, by simp, ?_, ?_, ?_⟩
        · intro c' hc d hd
          exact Asg.name (hc.kn.stores (.inl rfl))
        · intro d hd p hp
          simp only [List.mem_singleton] at hp
          subst hp; rfl
        refine Turns.mapA (α := Kd) Kd.dat (fun p => itD (p, b)) rfl (fun c' hc => hc.le) q.parts.reverse [] (by simp; lia) ?_ ?_
        · intro p hp c' ys hc
          refine Ev.tup rfl ?_; refine Evs.cons ?_; refine Ev.name rfl ?_; refine Evs.cons ?_; refine Ev.name rfl ?_; refine Evs.nil ?_; refine ⟨_, rfl, szs rfl, ?_⟩
          exact ⟨[], rfl, by simp⟩
        refine Evs.nil (On.extendL (xs := stk.reverse.map itD) (ys := q.parts.reverse.map fun p => itD (p, b)) rfl (by simp) (hn0 _) (by simp; lia) ?_)
        refine thenDo.nx (Exs.nil (thenDo.nx (Exs.nil (thenDo.nx (Exs.nil ?_)))))
        have hsub : stsz (q.parts.map (fun p => (p, b))) = Kd.szs q.parts := by
          have : ∀ l : List Kd, stsz (l.map (fun p => (p, b))) = Kd.szs l := fun l => by
            induction l with
            | nil => rfl
            | cons a l ih => rw [List.map_cons, stsz_cons, ih]; rfl
          exact this _
        have := fin found (q.parts.map (fun p => (p, b)) ++ stk) [.list [], .list (q.parts.map Kd.dat), .list (q.parts.reverse.map Kd.dat), .list (q.parts.reverse.map fun p => itD (p, b))] (by rw [stsz_append, hsub, stsz_cons]; show _ < q.sz + _; lia) (fun x => by
          rw [← hfr x]
          constructor
          · rintro (h | ⟨r, hr, h, h'⟩)
            · exact .inl h
            · rcases List.mem_append.mp hr with hr | hr
              · obtain ⟨p, hp, rfl⟩ := List.mem_map.mp hr
                exact .inr ⟨(q, b), by simp, (free_parts hv ha).mpr ⟨p, hp, h⟩, h'⟩
              · exact .inr ⟨r, by simp [hr], h, h'⟩
          · rintro (h | ⟨r, hr, h, h'⟩)
            · exact .inl h
            · rcases List.mem_cons.mp hr with rfl | hr
              · obtain ⟨p, hp, hpf⟩ := (free_parts hv ha).mp h
                exact .inr ⟨(p, b), List.mem_append_left _ (List.mem_map.mpr ⟨p, hp, rfl⟩), hpf, h'⟩
              · exact .inr ⟨r, List.mem_append_right _ hr, h, h'⟩) hnd (by rw [stsz_append, hsub]; lia) (fun r hr => by
          rcases List.mem_append.mp hr with hr | hr
          · obtain ⟨p, hp, rfl⟩ := List.mem_map.mp hr
            refine ⟨hqf.part hp, hb, ?_⟩
            have := Kd.parts_sz hp
            show b.length + p.sz ≤ 100; lia
          · exact hst' r hr)
        have e : (q.parts.map (fun p => (p, b)) ++ stk).reverse.map itD = stk.reverse.map itD ++ q.parts.reverse.map fun p => itD (p, b) := by simp [Function.comp_def]
        rw [e] at this
        (dsimp only [WhN] at this ⊢ <;> simpa using this)
end
/-! P9 -/
section
/-- what one call of substituted may be asked -/
structure SubIn (t : Tab) (k : Kd) (S H : Nat) : Prop where
  tab : TabOk t S H
  fit : k.Fit
  z : k.sz * S ≤ 60
  h : k.ht + H ≤ 20
  s4 : S ≤ 4
  l : t.length + k.ht ≤ 24
  tz : S ≤ 60
  sh : k.shrt = true
theorem SubIn.part {t : Tab} {k p : Kd} {S H : Nat} (h : SubIn t k S H) (m : p ∈ k.parts) : SubIn t p S H := by
  have h1 := Kd.parts_ht m
  have h2 := Kd.parts_sz m
  have h3 := h.z
  have h4 := h.h
  have h5 := h.l
  exact ⟨h.tab, h.fit.part m, Nat.le_trans (Nat.mul_le_mul_right _ (Nat.le_of_lt h2)) h3, by lia, h.s4, by lia, h.tz, shrt_part m h.sh⟩
inductive SubPost (t : Tab) (k : Kd) (r : Rs) (ob' : List Ob) : Prop
  | mk (k' : Kd) (e : r = .dat k'.dat) (e2 : ob' = [.dict t.dats]) (h : SubR t k k')
theorem On.callSub {c : Cx} {st : List (Str × Sl)} {ob : List Ob} {K : Sl → List Ob → Prop} {f : Value} {args sls : List Sl} {mu : List Nat} {n : Nat} {t : Tab} {k : Kd} (hs : List Nat) (C : Call c.g f args [.dict t.dats] mu n (SubPost t k)) (hA : Ok c.A n)
    (hargs : args.map (tr hs) = sls.map some) (hob : at? ob hs = [Ob.dict t.dats].map some) (hnd : hs.Nodup) (hmu : ∀ i ∈ mu, ∀ j, hs[i]? = some j → c.n₀ ≤ j ∨ j ∈ c.mu) (h : ∀ k', SubR t k k' → K (.dat k'.dat) ob) : On c (fun vs => call f vs) sls st ob K :=
  On.callC hs C hA hargs hob hnd hmu fun r ob' ζ q => by
    obtain ⟨k', rfl, rfl, hr⟩ := q
    rw [upd_self hs _ hob]
    exact h k' hr
noncomputable def SubC (g : Gx) (n : Nat) : Prop := ∀ t k S H, SubIn t k S H → k.ht ≤ n → Call g (.ref 71) [.dat k.dat, .obj 0] [.dict t.dats] [] (10 * n + 250) (SubPost t k)
noncomputable def BindC (g : Gx) (n : Nat) : Prop := ∀ t x lo up bd S H, SubIn t (.all x lo up bd) S H → (Kd.all x lo up bd).ht ≤ n → Call g (.ref 76) [.dat (Kd.all x lo up bd).dat, .obj 0] [.dict t.dats] [] (10 * n + 248) (SubPost t (.all x lo up bd))
theorem subR_rebuilt {t : Tab} {k : Kd} (hv : isVar k = false) (ha : isAll k = false) (hp : k.parts ≠ []) {qs : List Kd} (h : All2 (SubR t) k.parts qs) : SubR t k (rebuilt k qs) := by
  cases k with
  | var x => exact (Bool.false_ne_true hv.symm).elim
  | all x lo up bd => exact (Bool.false_ne_true ha.symm).elim
  | name x ps => exact ⟨qs, subRs_all2.mpr h, rfl⟩
  | tup p =>
    cases h with
    | cons h1 h2 => cases h2; exact ⟨_, h1, rfl⟩
  | tupv p r =>
    cases h with
    | cons h1 h2 => cases h2 with
      | cons h2 h3 => cases h3; exact ⟨_, _, h1, h2, rfl⟩
  | uni ps =>
    refine ⟨qs, subRs_all2.mpr h, ?_⟩
    have : qs ≠ [] := by
      rintro rfl
      cases h with
      | nil => exact hp rfl
    simp [rebuilt, uniOf, this]
  | typeof p =>
    cases h with
    | cons h1 h2 => cases h2; exact ⟨_, h1, rfl⟩
  | bottom => exact absurd rfl hp
theorem subR_leaf {t : Tab} {k : Kd} (hv : isVar k = false) (ha : isAll k = false) (hp : k.parts = []) : SubR t k k := by
  cases k with
  | var x => exact (Bool.false_ne_true hv.symm).elim
  | all x lo up bd => exact (Bool.false_ne_true ha.symm).elim
  | name x ps =>
    dsimp only [Kd.parts] at hp; subst hp
    exact ⟨[], rfl, rfl⟩
  | tup p => simp [Kd.parts] at hp
  | tupv p r => simp [Kd.parts] at hp
  | uni ps =>
    dsimp only [Kd.parts] at hp; subst hp
    exact ⟨[], rfl, rfl⟩
  | typeof p => simp [Kd.parts] at hp
  | bottom => rfl
theorem all2_fits {t : Tab} {k : Kd} {S H : Nat} (h : SubIn t k S H) {qs : List Kd} (hq : All2 (SubR t) k.parts qs) : Fits qs := by
  have hpo : Kd.oks k.parts = true := Kd.oks_of fun p m => Kd.parts_ok m h.fit.ok
  obtain ⟨a, b, c⟩ := subRs_fit k.parts h.tab hpo (subRs_all2.mpr hq)
  have h1 := Kd.szs_parts k
  have h2 : Kd.szs k.parts * S ≤ k.sz * S := Nat.mul_le_mul_right _ (by lia)
  have h3 := h.z
  have h4 := h.h
  have h5 : Kd.hts k.parts ≤ k.ht := Kd.hts_le fun p m => Nat.le_of_lt (Kd.parts_ht m)
  exact ⟨a, by lia, by lia⟩
theorem sub_step {g : Gx} (G : Gs g) {n : Nat} (hB : BindC g n) (hI : ∀ m, m < n → SubC g m) : SubC g n := by
  intro t k S H hi hn
  refine Call.enter G (fun ζ => rfl) (fun ζ => rfl) (fun ζ => ⟨rfl, rfl, rfl, rfl, rfl, rfl⟩) _ _ (fun ζ => rfl) (fun ζ => rfl) (names := [Str.ofString "kind", Str.ofString "table"]) ?_ (by decide) rfl ?_
  · intro P vs h
    obtain ⟨a, b, rfl⟩ := lenTwo h
    rfl
  intro c hg hA kn hw h0 hmu
  have G0 := G
  subst hg
  refine Exs.cons (Ex.ite (Et.cmp ?_))
  refine Ev.sub ?_; refine Ev.name rfl ?_; refine Ev.intC ?_
  refine O2.subK0 ?_
  refine Ev.strC ?_; refine O2.eqS ⟨_, rfl, ?_⟩
  by_cases hv : isVar k = true
  · obtain ⟨x, rfl⟩ := isVar_inv hv
    · skip
      refine ifT (by simp [Kd.word]) ?_
      refine Exs.cons (Ex.ret ?_)
      dsimp only [Kd.dat]
      refine Ev.meth PySem.F.slot_dict_get PySem.F.plainAttrs_dict PySem.F.type_dict_get (by decide) rfl (Ev.name rfl ⟨rfl, Evs.cons ?_⟩) rfl (by decide) rfl
      refine Ev.sub ?_; refine Ev.name rfl ?_; refine Ev.intC ?_; refine O2.subTup (by decide) (by decide) rfl rfl ?_; refine Evs.cons ?_; refine Ev.name rfl ?_; refine Evs.nil ?_
      refine On.dictGet (es := t.dats) G.toGd rfl ?_
      rw [dats_lookup]
      refine ⟨(t.lookup x).getD (.var x), ?_, rfl, rfl⟩
      cases t.lookup x <;> rfl
  · have hv : isVar k = false := by simpa using hv
    refine ifF (by simpa using word_ne_var hv) ?_
    refine Exs.nil (thenDo.nx (Exs.cons (Ex.ite (Et.cmp ?_))))
    refine Ev.sub ?_; refine Ev.name rfl ?_; refine Ev.intC ?_
    refine O2.subK0 ?_
    refine Ev.strC ?_; refine O2.eqS ⟨_, rfl, ?_⟩
    by_cases ha : isAll k = true
    · obtain ⟨x, lo, up, bd, rfl⟩ := isAll_inv ha
      · skip
        refine ifT (by simp [Kd.word]) ?_
        refine Exs.cons (Ex.ret ?_)
        refine Ev.gF ‹_› ‹_› rfl (fun ζ => rfl) (fun ζ => rfl) rfl ?_
        refine Evs.cons ?_; refine Ev.name rfl ?_; refine Evs.cons ?_; refine Ev.name rfl ?_; refine Evs.nil ?_
        refine On.callC (args := [.dat (Kd.all x lo up bd).dat, .obj 0]) [0] (hB t x lo up bd S H hi hn) (hA.le (by lia)) rfl rfl (by simp) (by simp) ?_
        rintro r ob' _ ⟨k', rfl, rfl, hr⟩
        exact ⟨k', rfl, rfl, hr⟩
    · have ha : isAll k = false := by simpa using ha
      refine ifF (by simpa using word_ne_all ha) ?_
      refine Exs.nil (thenDo.nx (Exs.cons (Ex.assign ?_ (Kn.stores ‹_› (.inl rfl)) rfl)))
      refine Ev.gF ‹_› ‹_› rfl (fun ζ => rfl) (fun ζ => rfl) rfl ?_
      refine Evs.cons ?_; refine Ev.name rfl ?_; refine Evs.nil ?_
      refine On.callD (parts_spec G k hi.fit.sz) (hA.le (szs rfl)) sls1 ?_
      rintro r ⟨rfl, _⟩
      dsimp only [slotOf, List.cons_append, List.nil_append, List.length_cons, List.length_nil]
      refine thenDo.nx (Exs.cons (Ex.ret (Ev.ite (Et.cmp ?_))))
      refine Ev.name rfl ?_; refine Ev.lst rfl ?_; refine Evs.nil ?_; refine ⟨_, rfl, szs rfl, ?_⟩
      have hpf : ∀ p ∈ k.parts, p.Fit := fun p m => hi.fit.part m
      refine O2.eqL (xs := k.parts.map Kd.dat) (ys := []) rfl rfl (hA.le (Nat.zero_le _)) (fit_okDs hpf) rfl (fit_depth hpf) (by simp) ⟨_, rfl, ?_⟩
      by_cases hp : k.parts = []
      · refine ifT (by simp [hp]) ?_
        refine Ev.name rfl ?_; refine thenDo.rt ?_
        exact ⟨k, rfl, rfl, subR_leaf hv ha hp⟩
      · refine ifF (by simpa using hp) ?_
        refine Ev.gF ‹_› ‹_› rfl (fun ζ => rfl) (fun ζ => rfl) rfl ?_
        refine Evs.cons ?_; refine Ev.name rfl ?_; refine Evs.cons ?_
        have hn1 : ∀ p ∈ k.parts, p.ht ≤ n - 1 := fun p m => by have := Kd.parts_ht m; lia
        have hnp : 0 < n := by
          cases e : k.parts with
          | nil => exact absurd e hp
          | cons p ps => have := Kd.parts_ht (k := k) (p := p) (by simp [e]); lia
        have hlp : k.parts.length ≤ 100 := by
          have := Kd.szs_length k.parts
          have := Kd.szs_parts k
          have := hi.fit.sz
          lia
        refine Ev.comp [(Str.ofString "table", .obj 0)] loopOk_one kn hA.hd rfl ?_ (fun ζ => rfl) ?_
        · intro p hp
          simp only [List.mem_singleton] at hp
          subst hp
          exact ⟨rfl, rfl, by simp⟩
        refine It.list hA.hd (Ev.name rfl ?_)
        refine ⟨1, k.parts.map Kd.dat, rfl, rfl, by simp; lia, [], fun d => [(Str.ofString "part", Sl.dat d)], by simp, by simp, ?_, ?_, ?_⟩
        · intro c' hc d hd
          exact Asg.name (hc.kn.stores (.inl rfl))
        · intro d hd p hp
          simp only [List.mem_singleton] at hp
          subst hp; rfl
        refine Turns.mapR (α := Kd) Kd.dat (fun p y => ∃ q, y = Kd.dat q ∧ SubR t p q) rfl (fun c' hc => hc.le) k.parts [] (by simp; lia) ?_ ?_
        · intro p hp c' ys hc
          have hB := hI (n - 1) (by lia) t p S H (hi.part hp) (hn1 p hp)
          have G' : Gs c'.g := hc.g ▸ G
          have kn' := hc.kn
          have hA' : Ok c'.A (10 * n + 249) := hc.A ▸ hA
          rw [← hc.g] at hB
          refine Ev.gF ‹_› ‹_› rfl (fun ζ => rfl) (fun ζ => rfl) rfl ?_
          refine Evs.cons ?_; refine Ev.name rfl ?_; refine Evs.cons ?_; refine Ev.name rfl ?_; refine Evs.nil ?_
          refine On.callC (args := [.dat p.dat, .obj 0]) [0] hB (hA'.le (by lia)) rfl rfl (by simp) (by simp) ?_
          rintro r ob' _ ⟨q, rfl, rfl, hr⟩
          exact ⟨_, [], rfl, ⟨q, rfl, hr⟩, rfl⟩
        intro zs hzs
        obtain ⟨qs, rfl, hq⟩ := all2_map hzs
        refine Evs.nil ?_
        dsimp only [List.nil_append]
        have hlq := hq.length
        refine On.callZ (args := [.dat k.dat, .obj 0]) [3] (rebuilt_spec G k qs hlq.symm (all2_fits hi hq)) (hA.le (szs rfl)) rfl rfl (by simp) (by simp) ?_
        exact ⟨rebuilt k qs, rfl, rfl, subR_rebuilt hv ha hp hq⟩
end
/-! P10 -/
section
noncomputable def wst (x : Str) (bs k : PyData) (j : Nat) : List (Str × Sl) :=
  [(so "name", .dat (.str (prm x j))), (so "used", .obj 3), (so "free", .obj 2), (so "bounds", .dat bs), (so "inner", .obj 1), (so "kind", .dat k), (so "table", .obj 0)]
theorem Exs.weak {c : Cx} {b : List Stmt} {st st' : List (Str × Sl)} {ob : List Ob} {K : Fl → List (Str × Sl) → List Ob → Prop} (h : ∀ p ∈ st', st.lookup p.1 = some p.2) (k : Exs c b st' ob K) : Exs c b st ob K :=
  ⟨fun as s F => k.run as s (F.sub fun x sl e => h (x, sl) (mem_of_lookup e))⟩
inductive BndI (t : Tab) (x : Str) (bd : Kd) (bs k : PyData) (fl : Fl) (st1 : List (Str × Sl)) (ob1 : List Ob) : Prop
  | mk (h : fl = .nx) (j : Nat) (g : List Ob) (hn : NewNm t x (prm x j) bd) (hj : j ≤ 200) (e1 : st1 = wst x bs k j) (e2 : ob1 = [.dict t.dats, .dict (inTab t x (prm x j) bd).dats] ++ g)
inductive PrmI (t : Tab) (x : Str) (us fs : List Str) (bs k : PyData) (m : Nat) (st1 : List (Str × Sl)) (ob1 : List Ob) : Prop
  | mk (j : Nat) (e : m = 400 - j) (h : ∀ i, i < j → prm x i ∈ us ++ fs) (e1 : st1 = wst x bs k j) (e2 : ob1 = [.dict t.dats, .dict (t.drop x).dats, .list (fs.map .str), .list (us.map .str)])
theorem FreeIn_names {t : Tab} {S H : Nat} (h : TabOk t S H) {x : Str} {k : Kd} (e : t.lookup x = some k) {y : Str} (hy : FreeIn y k) : nmOk y = true := free_ok k hy (h.look e).1
open Classical in
theorem bind_step {g : Gx} (G : Gs g) {n : Nat} (hI : ∀ m, m < n → SubC g m) : BindC g n := by
  intro t x lo up bd S H hi hn
  refine Call.enter G (fun ζ => rfl) (fun ζ => rfl) (fun ζ => ⟨rfl, rfl, rfl, rfl, rfl, rfl⟩) _ _ (fun ζ => rfl) (fun ζ => rfl) (names := [Str.ofString "kind", Str.ofString "table"]) ?_ (by decide) rfl ?_
  · intro P vs h
    obtain ⟨a, b, rfl⟩ := lenTwo h
    rfl
  intro c hg hA kn hw h0 hmu
  have G0 := G
  subst hg
  have hl := hi.l
  have hdl := drop_len t x
  have hu : Ok c.A 0 := hA.le (Nat.zero_le _)
  have p1 := hi.part (p := lo) (by simp [Kd.parts])
  have p2 := hi.part (p := up) (by simp [Kd.parts])
  have hm1 : lo ∈ (Kd.all x lo up bd).parts := by simp [Kd.parts]
  have hm2 : up ∈ (Kd.all x lo up bd).parts := by ((try dsimp only [Kd.parts]) <;> simp)
  have hm3 : bd ∈ (Kd.all x lo up bd).parts := by ((try dsimp only [Kd.parts]) <;> simp)
  have l1 := Kd.parts_ht hm1
  have l2 := Kd.parts_ht hm2
  have l3 := Kd.parts_ht hm3
  have fb : bd.Fit := hi.fit.part hm3
  refine Exs.cons (Ex.assign ?_ (Kn.stores ‹_› (.inr ⟨by assumption, rfl⟩)) rfl)
  refine Ev.gT ‹_› ‹_› rfl (fun ζ => rfl) rfl (by decide) rfl ?_; refine Evs.cons ?_; refine Ev.name rfl ?_; refine Evs.nil ?_
  refine On.dictOf (es := t.dats) G.toGd rfl (by ((try dsimp only [Tab.dats]) <;> simp); lia) ?_
  refine thenDo.nx (Exs.cons (Ex.expr ?_ rfl))
  refine Ev.meth PySem.F.slot_dict_pop PySem.F.plainAttrs_dict PySem.F.type_dict_pop (by decide) rfl (Ev.name rfl ⟨rfl, Evs.cons ?_⟩) rfl (by decide) rfl
  dsimp only [Kd.dat]
  refine Ev.sub ?_; refine Ev.name rfl ?_; refine Ev.intC ?_; refine O2.subTup (by decide) (by decide) rfl rfl ?_; refine Evs.cons ?_; refine Ev.noneC ?_; refine Evs.nil ?_
  refine On.dictPop (es := t.dats) G.toGd rfl (.inl (by rw [h0]; exact Nat.le_refl _)) (by ((try dsimp only [Tab.dats]) <;> simp); lia) fun y => ?_
  rw [← dats_drop]
  dsimp only [List.cons_append, List.nil_append, List.length_cons, List.length_nil, List.set_cons_succ, List.set_cons_zero]
  refine thenDo.nx (Exs.cons ?_)
  first
    | refine Ex.twoS kn hA.hd ⟨rfl, rfl⟩ (Kn.stores ‹_› (.inl rfl)) (Kn.stores ‹_› (.inl rfl)) rfl ?_
  refine Ev.tup rfl (Evs.cons ?_)
  refine Ev.gF ‹_› ‹_› rfl (fun ζ => rfl) (fun ζ => rfl) rfl ?_
  refine Evs.cons ?_; refine Ev.sub ?_; refine Ev.name rfl ?_; refine Ev.intC ?_; refine O2.subTup (by decide) (by decide) rfl rfl ?_; refine Evs.cons ?_; refine Ev.name rfl ?_; refine Evs.nil ?_
  refine On.callSub (args := [.dat lo.dat, .obj 0]) [0] (hI (n - 1) (by lia) t lo S H p1 (by lia)) (hA.le (by lia)) rfl rfl (by simp) (by simp) fun lo' hlo => ?_
  refine Evs.cons ?_
  refine Ev.gF ‹_› ‹_› rfl (fun ζ => rfl) (fun ζ => rfl) rfl ?_
  refine Evs.cons ?_; refine Ev.sub ?_; refine Ev.name rfl ?_; refine Ev.intC ?_; refine O2.subTup (by decide) (by decide) rfl rfl ?_; refine Evs.cons ?_; refine Ev.name rfl ?_; refine Evs.nil ?_
  refine On.callSub (args := [.dat up.dat, .obj 0]) [0] (hI (n - 1) (by lia) t up S H p2 (by lia)) (hA.le (by lia)) rfl rfl (by simp) (by simp) fun up' hup => ?_
  refine Evs.nil ?_; refine ⟨_, rfl, szs rfl, ?_⟩; refine Ev.sub ?_; refine Ev.name rfl ?_; refine Ev.intC ?_; refine O2.subTup (by decide) (by decide) rfl rfl ?_; refine Exs.cons ?_; refine Ex.assign ?_ (Kn.stores ‹_› (.inr ⟨by assumption, rfl⟩)) rfl
  refine Ev.gF ‹_› ‹_› rfl (fun ζ => rfl) (fun ζ => rfl) rfl ?_
  refine Evs.cons ?_; refine Ev.sub ?_; refine Ev.name rfl ?_; refine Ev.intC ?_; refine O2.subTup (by decide) (by decide) rfl rfl ?_; refine Evs.nil ?_
  refine On.callD (free_spec G bd fb) (hA.le (szs rfl)) sls1 ?_
  rintro r ⟨fs, rfl, _, hfn, hfl, hfm⟩
  dsimp only [slotOf, List.cons_append, List.nil_append, List.length_cons, List.length_nil]
  refine thenDo.nx (Exs.cons ?_)
  have hS4 := hi.s4
  have hdz : (t.drop x).length ≤ 24 := by lia
  refine Ex.assignComp [(Str.ofString "free", .obj 2), (Str.ofString "inner", .obj 1)] loopOk_two kn hA.hd rfl ?_ (fun ζ => rfl) (Kn.stores ‹_› (.inl rfl)) ((kn.swapW _ _ _).trans rfl) ?_
  · intro p hp
    simp only [List.mem_cons, List.not_mem_nil, or_false] at hp
    rcases hp with rfl | rfl <;> exact ⟨rfl, rfl, by simp⟩
  refine It.dict hA.hd G.toGd (Ev.name rfl ?_)
  have hde : ((t.drop x).dats.map fun p => PyData.str p.1) = (t.drop x).map fun p => PyData.str p.1 := by ((try dsimp only [Tab.dats]) <;> simp [Function.comp_def])
  refine ⟨1, (t.drop x).dats, rfl, rfl, by ((try dsimp only [Tab.dats]) <;> simp); lia, ?_⟩
  rw [hde]
  refine ⟨[], fun d => [(Str.ofString "one", Sl.dat d)], by simp, by simp, ?_, ?_, ?_⟩
  · intro c' hc d hd
    exact Asg.name (hc.kn.stores (.inl rfl))
  · intro d hd p hp
    simp only [List.mem_singleton] at hp
    subst hp; rfl
  refine Turns.flatR (α := Str × Kd) (fun p => .str p.1) (UsedR (t.drop x) bd) 4 rfl (t.drop x) [] (by simp; lia) ?_ ?_
  · intro p hp c' ys hc hyl
    have G' : Gs c'.g := hc.g ▸ G
    have kn' := hc.kn
    have hA' : Ok c'.A (10 * n + 247) := hc.A ▸ hA
    have hfo : ∀ y ∈ fs, nmOk y = true := fun y hy => free_ok bd ((hfm y).mp hy) fb.ok
    have hpn : nmOk p.1 = true := (hi.tab.ok p (List.mem_filter.mp hp).1).1
    refine Tst.one (Et.cmp ?_)
    refine Ev.name rfl ?_; refine Ev.name rfl ?_
    refine O2.inL (xs := fs.map .str) rfl (hA'.le (Nat.zero_le _)) (strs_ok hfo) (by simpa [okD] using nmOk_ok hpn) (by simp [PyData.depth]) ⟨_, rfl, ?_⟩
    by_cases hpf : p.1 ∈ fs
    · refine ifT (by simpa using hpf) ?_
      obtain ⟨k, hk⟩ : ∃ k, (t.drop x).lookup p.1 = some k := by
        cases e : (t.drop x).lookup p.1 with
        | some k => exact ⟨k, rfl⟩
        | none =>
          obtain ⟨v, hv, _⟩ := mem_lookup_some (show (p.1, p.2) ∈ t.drop x from hp)
          rw [e] at hv; cases hv
      have hkt : t.lookup p.1 = some k := by
        rw [drop_lookup] at hk
        split at hk
        · cases hk
        · exact hk
      obtain ⟨hk1, hk2, hk3⟩ := hi.tab.look hkt
      have hz := hi.tz
      have hh := hi.h
      have hkf : k.Fit := ⟨hk1, by lia, by lia⟩
      refine Emit.two hc.le (fun ζ => rfl) (hc.kn.stores (.inl rfl)) rfl rfl rfl ?_
      refine It.list hA'.hd ?_
      refine Ev.gF ‹_› ‹_› rfl (fun ζ => rfl) (fun ζ => rfl) rfl ?_
      refine Evs.cons ?_; refine Ev.sub ?_; refine Ev.name rfl ?_; refine Ev.name rfl ?_
      refine O2.subDict (es := (t.drop x).dats) (x := k.dat) rfl (by rw [dats_lookup, hk]; rfl) ?_
      refine Evs.nil ?_
      refine On.callD (free_spec G' k hkf) (hA'.le (szs rfl)) sls1 ?_
      rintro r ⟨ns, rfl, _, hnn, hnl, hnm⟩
      dsimp only [slotOf]
      refine ⟨_, ns.map .str, rfl, by exact last_get _ _, by simp; lia, ys, [.dict t.dats, .dict (t.drop x).dats, .list (fs.map .str)], [], [.list (ns.map .str)], by simp, rfl, rfl, by simp, by simp; lia, ?_, by simp; lia, [], by simp⟩
      exact ⟨ns, rfl, by lia, fun y => by rw [hnm]; exact ⟨fun h => ⟨(hfm _).mp hpf, k, hk, h⟩, fun ⟨_, k', hk', h⟩ => by rw [hk] at hk'; cases hk'; exact h⟩⟩
    · refine ifF (by simpa using hpf) ?_
      refine ⟨⟨[], rfl, by simp, fun y => ?_⟩, [], by simp⟩
      constructor
      · intro h; cases h
      · rintro ⟨h, _⟩
        exact absurd ((hfm _).mpr h) hpf
  intro zss hzs
  obtain ⟨us, hus, hul, hum⟩ := used_all hzs
  rw [hus]
  have hum' : ∀ y, y ∈ us ↔ Used t x bd y := fun y => by rw [hum]; exact used_drop
  have hxn : nmOk x = true := by have := hi.fit.ok; dsimp only [Kd.ok] at this; simp only [Bool.and_eq_true] at this; exact this.1.1.1
  have hxl : x.length ≤ 100 := by have := hi.sh; dsimp only [Kd.shrt] at this; simp only [Bool.and_eq_true, decide_eq_true_eq] at this; exact this.1.1.1
  have hfo : ∀ y ∈ fs, nmOk y = true := fun y hy => free_ok bd ((hfm y).mp hy) fb.ok
  have huo : ∀ y ∈ us, nmOk y = true := fun y hy => by
    obtain ⟨z, k, _, _, hk, hy⟩ := (hum' y).mp hy
    exact FreeIn_names hi.tab hk hy
  have hbz := Kd.parts_sz hm3
  have hfz := hi.fit.sz
  have hcnt : (us ++ fs).length ≤ 199 := by rw [List.length_append]; lia
  refine thenDo.nx (Exs.cons ((Ex.ite (K := BndI t x bd (.tuple [lo'.dat, up'.dat]) (Kd.all x lo up bd).dat) ?_).mono ?_))
  · refine Et.cmp ?_
    refine Ev.name rfl ?_; refine Ev.name rfl ?_
    refine O2.inL (xs := us.map .str) (by exact last_get _ _) hu (strs_ok huo) (by simpa [okD] using nmOk_ok hxn) (by simp [PyData.depth]) ⟨_, rfl, ?_⟩
    by_cases hxu : x ∈ us
    · refine ifT (by simpa using hxu) ?_
      refine Exs.weak (st' := wst x (.tuple [lo'.dat, up'.dat]) (Kd.all x lo up bd).dat 0) (fun p hp => ?_) ?_
      · simp only [wst, List.mem_cons, List.not_mem_nil, or_false] at hp
        rcases hp with rfl | rfl | rfl | rfl | rfl | rfl | rfl <;> rfl
      refine Exs.cons (Ex.while (PrmI t x us fs (.tuple [lo'.dat, up'.dat]) (Kd.all x lo up bd).dat) 400 ⟨0, rfl, by simp, rfl, rfl⟩ ?_)
      rintro m st1 ob1 _ ⟨j, rfl, hlt, rfl, rfl⟩
      have hjb := prm_bound hlt
      have hjo := prm_ok x hxn hxl j (by lia)
      have hjd : okD (.str (prm x j)) = true := nmOk_ok hjo
      have go : ∀ hmem : prm x j ∈ us ++ fs, ∃ m', m' < 400 - j ∧ ∃ j', m' = 400 - j' ∧ j' = j + 1 ∧ (∀ i, i < j' → prm x i ∈ us ++ fs) := fun hmem => by
        refine ⟨400 - (j + 1), by lia, j + 1, rfl, rfl, fun i hi => ?_⟩
        by_cases e : i = j
        · subst e; exact hmem
        · exact hlt i (by lia)
      have stop : ¬ prm x j ∈ us → ¬ prm x j ∈ fs → NewNm t x (prm x j) bd := fun h1 h2 => .inr ⟨(hum' x).mp hxu, fun h => h1 ((hum' _).mpr h), fun h => h2 ((hfm _).mpr h), hjo⟩
      have hin : inTab t x (prm x j) bd = t.drop x ++ [(x, .var (prm x j))] := by unfold inTab; rw [if_pos ((hum' x).mp hxu)]
      have hnone : (t.drop x).dats.lookup x = none := by rw [dats_lookup, drop_lookup, if_pos rfl]; rfl
      have hjl := prm_length x j
      · skip
        dsimp only [wst, List.nil_append, List.cons_append, Kd.dat]
        refine Et.or (Et.cmp ?_)
        refine Ev.name rfl ?_; refine Ev.name rfl ?_
        refine O2.inL (xs := us.map .str) rfl hu (strs_ok huo) hjd (by simp [PyData.depth]) ⟨_, rfl, ?_⟩
        have hq : (Str.ofString "'").length = 1 := by decide +kernel
        rw [show (so "name" : Str) = Str.ofString "name" from rfl]
        refine ifS (fun hmem => ?_) fun hnu => ?_
        · skip
          refine Exs.cons ?_; refine Ex.assign ?_ (Kn.stores ‹_› (.inl rfl)) rfl; refine Ev.bin ?_; refine Ev.name rfl ?_; refine Ev.strC ?_; refine O2.addS (by (try simp only [strLen_append]); (have len1 := so_len); (have len2 : sizeLine = 16777216 := rfl); first | omega | (simp only [so, Str.ofString] at *; omega)) ?_; refine Exs.nil ?_
          obtain ⟨m', hm', j', rfl, rfl, hlt'⟩ := go (List.mem_append_left _ (by simpa using hmem))
          refine ⟨_, _, _, hm', ⟨?_, ⟨[], by simp⟩, ?_⟩, _, rfl, hlt', rfl, rfl⟩
          · simp
          · intro p hp
            simp only [wst, List.cons_append, List.nil_append, List.mem_cons, List.not_mem_nil, or_false] at hp
            rcases hp with rfl | rfl | rfl | rfl | rfl | rfl | rfl <;> exact ⟨rfl, by simp [Sl.Below]⟩
        · refine Et.cmp ?_
          refine Ev.name rfl ?_; refine Ev.name rfl ?_
          refine O2.inL (xs := fs.map .str) rfl hu (strs_ok hfo) hjd (by simp [PyData.depth]) ⟨_, rfl, ?_⟩
          refine ifS (fun hmem => ?_) fun hnf => ?_
          · skip
            refine Exs.cons ?_; refine Ex.assign ?_ (Kn.stores ‹_› (.inl rfl)) rfl; refine Ev.bin ?_; refine Ev.name rfl ?_; refine Ev.strC ?_; refine O2.addS (by (try simp only [strLen_append]); (have len1 := so_len); (have len2 : sizeLine = 16777216 := rfl); first | omega | (simp only [so, Str.ofString] at *; omega)) ?_; refine Exs.nil ?_
            obtain ⟨m', hm', j', rfl, rfl, hlt'⟩ := go (List.mem_append_right _ (by simpa using hmem))
            refine ⟨_, _, _, hm', ⟨?_, ⟨[], by simp⟩, ?_⟩, _, rfl, hlt', rfl, rfl⟩
            · simp
            · intro p hp
              simp only [wst, List.cons_append, List.nil_append, List.mem_cons, List.not_mem_nil, or_false] at hp
              rcases hp with rfl | rfl | rfl | rfl | rfl | rfl | rfl <;> exact ⟨rfl, by simp [Sl.Below]⟩
          · skip
            have hst := stop (by simpa using hnu) (by simpa using hnf)
            refine thenDo.nx (Exs.cons (Ex.setDict ?_ rfl))
            refine Ev.tup rfl ?_; refine Evs.cons ?_; refine Ev.strC ?_; refine Evs.cons ?_; refine Ev.name rfl ?_; refine Evs.nil ?_; refine ⟨_, rfl, szs rfl, ?_⟩; refine Ev.name rfl ?_; refine Ev.sub ?_; refine Ev.name rfl ?_; refine Ev.intC ?_; refine O2.subTup (by decide) (by decide) rfl rfl ?_
            refine ⟨_, 1, (t.drop x).dats, x, rfl, rfl, rfl, rfl, .inl (by rw [h0]; exact Nat.le_refl _), by simp [Tab.dats]; lia, hnone, ?_⟩
            refine thenDo.nx (Exs.nil ⟨rfl, _, [.list (fs.map .str), .list (us.map .str)], hst, by lia, rfl, ?_⟩)
            rw [hin]
            dsimp only [Tab.dats]; simp; rfl
    · refine ifF (by simpa using hxu) ?_
      refine Exs.weak (st' := wst x (.tuple [lo'.dat, up'.dat]) (Kd.all x lo up bd).dat 0) (fun p hp => ?_) ?_
      · ((try dsimp only [wst] at hp) <;> simp only [List.mem_cons, List.not_mem_nil, or_false] at hp)
        rcases hp with rfl | rfl | rfl | rfl | rfl | rfl | rfl <;> rfl
      refine Exs.nil ⟨rfl, 0, [.list (fs.map .str), .list (us.map .str)], .inl ⟨fun h => hxu ((hum' x).mpr h), rfl⟩, by lia, rfl, ?_⟩
      unfold inTab
      rw [if_neg fun h => hxu ((hum' x).mpr h)]
      rfl
  · rintro fl st1 ob1 ⟨rfl, j, g, hnew, hj, rfl, rfl⟩
    have hsub : SubIn (inTab t x (prm x j) bd) bd S H := by
      have hp3 := hi.part hm3
      refine ⟨hi.tab.inTab hxn (prm_ok x hxn hxl j hj), hp3.fit, hp3.z, hp3.h, hp3.s4, ?_, hp3.tz, hp3.sh⟩
      have : (inTab t x (prm x j) bd).length ≤ t.length + 1 := by
        unfold inTab
        split
        · rw [List.length_append, List.length_singleton]; lia
        · lia
      lia
    have hC := hI (n - 1) (by lia) (inTab t x (prm x j) bd) bd S H hsub (by lia)
    have hpost : ∀ bd', SubR (inTab t x (prm x j) bd) bd bd' → SubR t (.all x lo up bd) (.all (prm x j) lo' up' bd') := fun bd' h => ⟨lo', up', prm x j, bd', hlo, hup, hnew, h, rfl⟩
    refine thenDo.nx ?_
    · skip
      dsimp only [wst, List.nil_append, List.cons_append, Kd.dat]
      refine Exs.cons ?_; refine Ex.ret ?_; refine Ev.bin ?_; refine Ev.bin ?_; refine Ev.tup rfl ?_; refine Evs.cons ?_; refine Ev.strC ?_; refine Evs.cons ?_; refine Ev.name rfl ?_; refine Evs.nil ?_; refine ⟨_, rfl, szs rfl, ?_⟩; refine Ev.name rfl ?_; refine O2.addT (szs rfl) ?_
      refine Ev.tup rfl ?_; refine Evs.cons ?_
      refine Ev.gF ‹_› ‹_› rfl (fun ζ => rfl) (fun ζ => rfl) rfl ?_
      refine Evs.cons ?_; refine Ev.sub ?_; refine Ev.name rfl ?_; refine Ev.intC ?_; refine O2.subTup (by decide) (by decide) rfl rfl ?_; refine Evs.cons ?_; refine Ev.name rfl ?_; refine Evs.nil ?_
      refine On.callSub (args := [.dat bd.dat, .obj 0]) [1] hC (hA.le (by lia)) rfl rfl (by simp) (by simp) fun bd' hbd => ?_
      refine Evs.nil ?_; refine ⟨_, rfl, szs rfl, ?_⟩; refine O2.addT (szs rfl) ?_; refine thenDo.rt ?_
      exact ⟨_, rfl, rfl, hpost bd' hbd⟩
end
/-! P11 -/
section
theorem init_spec {g : Gx} (G : Gs g) : CallC g (.ref 31) [.ins 41 0] [.sup none] [0] 1 (RetD .none [.sup (some 0)]) := by
  refine CallC.enter G (fun ζ => rfl) (fun ζ => rfl) (fun ζ => ⟨rfl, rfl, rfl, rfl, rfl, rfl⟩) _ _ (fun ζ => rfl) (fun ζ => rfl) (names := [Str.ofString "self"]) ?_ (by decide) rfl ?_
  · intro P vs h
    obtain ⟨a, rfl⟩ := lenOne h
    rfl
  intro c hg hA kn hw h0 hmu
  subst hg
  refine Exs.cons (Ex.setSup (i := 0) (n := none) G rfl (.inr (by rw [hmu]; simp)) (Ev.intC ⟨0, rfl, rfl, ?_⟩) rfl)
  exact Exs.nil ⟨rfl, rfl⟩
theorem next_spec {g : Gx} (G : Gs g) (x : Str) (n : Nat) (hx : x.length ≤ 1000) (hn : n + 1 < 1000000) : Call g (.ref 38) [.ins 41 0, .dat (.str x)] [.sup (some n)] [0] 1 (RetD (.str (nm x (n + 1))) [.sup (some (n + 1))]) := by
  refine Call.enter G (fun ζ => rfl) (fun ζ => rfl) (fun ζ => ⟨rfl, rfl, rfl, rfl, rfl, rfl⟩) _ _ (fun ζ => rfl) (fun ζ => rfl) (names := [Str.ofString "self", Str.ofString "base"]) ?_ (by decide) rfl ?_
  · intro P vs h
    obtain ⟨a, b, rfl⟩ := lenTwo h
    rfl
  intro c hg hA kn hw h0 hmu
  subst hg
  refine Exs.cons (Ex.setSup (i := 0) (n := some n) G rfl (.inr (by rw [hmu]; simp)) (Ev.bin (Ev.getSup (i := 0) G rfl rfl (Ev.intC (O2.addI ⟨n + 1, by simp, rfl, ?_⟩)))) rfl)
  refine thenDo.nx (Exs.cons (Ex.ret (Ev.bin (Ev.bin (Ev.splitHead (x := x) (Ev.name rfl ⟨rfl, by lia, ?_⟩) rfl rfl)))))
  refine Ev.strC (O2.addS ?_ ?_)
  · have := headOf_len x
    have h1 : (Str.ofString ".").length = 1 := by decide +kernel
    have h2 : sizeLine = 16777216 := rfl
    lia
  refine Ev.gT ‹_› ‹_› rfl (fun ζ => rfl) rfl (by decide) rfl ?_
  refine Evs.cons (Ev.getSup (i := 0) (n := n + 1) G rfl rfl (Evs.nil (On.strI hn (O2.addS ?_ ?_))))
  · have := headOf_len x
    have h1 : (Str.ofString ".").length = 1 := by decide +kernel
    have h2 : sizeLine = 16777216 := rfl
    have h3 := natS_len hn
    rw [strLen_append]
    lia
  exact ⟨rfl, rfl⟩
end
/-! P12 -/
section
theorem subst_spec {g : Gx} (G : Gs g) : ∀ n, SubC g n := fun n => by
  induction n using Nat.strongRecOn with
  | ind n ih => exact sub_step G (bind_step G ih) ih
structure RenIn (k : Kd) : Prop where
  i : RenI k
  ht : k.ht ≤ 15
  sz : k.sz ≤ 60
theorem RenIn.part {k p : Kd} (h : RenIn k) (m : p ∈ k.parts) : RenIn p := by
  have h1 := Kd.parts_ht m
  have h2 := Kd.parts_sz m
  have h3 := h.ht
  have h4 := h.sz
  exact ⟨h.i.part m, by lia, by lia⟩
theorem RenIn.fit {k : Kd} (h : RenIn k) : k.Fit := ⟨h.i.ok, by have := h.ht; lia, by have := h.sz; lia⟩
inductive RenPost (k : Kd) (m : Nat) (r : Rs) (ob' : List Ob) : Prop
  | mk (k' : Kd) (m' : Nat) (e : r = .dat k'.dat) (e2 : ob' = [.sup (some m')]) (h : RenR k k' m m')
noncomputable def RenC (g : Gx) (n : Nat) : Prop := ∀ k m, RenIn k → k.ht ≤ n → m + 101 * k.sz < 990000 → Call g (.ref 86) [.dat k.dat, .ins 41 0] [.sup (some m)] [0] (10 * n + 420) (RenPost k m)
theorem renRs_allT : ∀ {ks qs : List Kd} {n n' : Nat}, AllT RenR ks qs n n' → RenRs ks qs n n'
  | [], _, _, _, h => by cases h; exact ⟨rfl, rfl⟩
  | k :: ks, _, _, _, h => by
    cases h with
    | cons h1 h2 => exact ⟨_, _, _, h1, renRs_allT h2, rfl⟩
theorem renR_rebuilt {k : Kd} (ha : isAll k = false) (hp : k.parts ≠ []) {qs : List Kd} {n n' : Nat} (h : AllT RenR k.parts qs n n') : RenR k (rebuilt k qs) n n' := by
  cases k with
  | var x => exact absurd rfl hp
  | all x lo up bd => ((try dsimp only [isAll] at ha) <;> simp at ha)
  | name x ps => exact ⟨qs, renRs_allT h, rfl⟩
  | tup p =>
    cases h with
    | cons h1 h2 => cases h2; exact ⟨_, h1, rfl⟩
  | tupv p r =>
    cases h with
    | cons h1 h2 => cases h2 with
      | cons h2 h3 => cases h3; exact ⟨_, _, _, h1, h2, rfl⟩
  | uni ps =>
    refine ⟨qs, renRs_allT h, ?_⟩
    have : qs ≠ [] := by
      have := h.length
      dsimp only [Kd.parts] at this hp
      rintro rfl
      exact hp (List.length_eq_zero_iff.mp this)
    ((try dsimp only [rebuilt, uniOf]) <;> simp [this])
  | typeof p =>
    cases h with
    | cons h1 h2 => cases h2; exact ⟨_, h1, rfl⟩
  | bottom => exact absurd rfl hp
theorem renR_leaf {k : Kd} (ha : isAll k = false) (hp : k.parts = []) (n : Nat) : RenR k k n n := by
  cases k with
  | var x => exact ⟨rfl, rfl⟩
  | all x lo up bd => ((try dsimp only [isAll] at ha) <;> simp at ha)
  | name x ps =>
    dsimp only [Kd.parts] at hp; subst hp
    exact ⟨[], ⟨rfl, rfl⟩, rfl⟩
  | tup p => ((try dsimp only [Kd.parts] at hp) <;> simp at hp)
  | tupv p r => ((try dsimp only [Kd.parts] at hp) <;> simp at hp)
  | uni ps =>
    dsimp only [Kd.parts] at hp; subst hp
    exact ⟨[], ⟨rfl, rfl⟩, rfl⟩
  | typeof p => ((try dsimp only [Kd.parts] at hp) <;> simp at hp)
  | bottom => exact ⟨rfl, rfl⟩
theorem nm_bound {x : Str} {l : List Str} {a j : Nat} (h : ∀ i, i < j → nm x (a + i) ∈ l) : j ≤ l.length := by
  have h1 : ((List.range j).map fun i => nm x (a + i)).Nodup := by
    refine List.pairwise_map.mpr (List.nodup_range.imp fun {p q} hpq e => hpq ?_)
    have := nm_inj e
    lia
  have := nodup_sub_len h1 (m := l) fun y hy => by
    obtain ⟨i, hi, rfl⟩ := List.mem_map.mp hy
    exact h i (List.mem_range.mp hi)
  simpa using this
theorem allT_three {α β σ : Type} {R : α → β → σ → σ → Prop} {a b c : α} {zs : List β} {s s' : σ} (h : AllT R [a, b, c] zs s s') : ∃ x y z s1 s2, zs = [x, y, z] ∧ R a x s s1 ∧ R b y s1 s2 ∧ R c z s2 s' := by
  cases h with
  | cons h1 h =>
    cases h with
    | cons h2 h =>
      cases h with
      | cons h3 h => cases h; exact ⟨_, _, _, _, _, rfl, h1, h2, h3⟩
theorem word_sok (k : Kd) : PyData.strOk k.word = true := by cases k <;> (dsimp only [Kd.word]; decide +kernel)
theorem can_parts {k : Kd} (h : k = .bottom ∨ Can k) (ha : isAll k = false) : Cans k.parts := by
  refine cans_iff.mpr fun p hp => ?_
  have hi : ∀ q, q ∈ k.parts → Can q := by
    cases k with
    | var x => ((try dsimp only [Kd.parts]) <;> simp)
    | bottom => ((try dsimp only [Kd.parts]) <;> simp)
    | all x lo up bd => ((try dsimp only [isAll] at ha) <;> simp at ha)
    | name x ps =>
      have h : Cans ps := by (dsimp only [Can] at h ⊢ <;> simpa using h)
      exact cans_iff.mp h
    | uni ps =>
      have h : Can (.uni ps) := by simpa using h
      exact cans_iff.mp h.1
    | tup p => intro q hq; ((try dsimp only [Kd.parts] at hq) <;> simp at hq); subst hq; (dsimp only [Can] at h ⊢ <;> simpa using h)
    | typeof p => intro q hq; ((try dsimp only [Kd.parts] at hq) <;> simp at hq); subst hq; (dsimp only [Can] at h ⊢ <;> simpa using h)
    | tupv p r =>
      have h : Can p ∧ Can r := by (dsimp only [Can] at h ⊢ <;> simpa using h)
      intro q hq; (dsimp only [Kd.parts] at hq <;> try simp at hq)
      rcases hq with rfl | rfl
      · exact h.1
      · exact h.2
  exact hi p hp
noncomputable def rst (x : Str) (k : PyData) (m : Nat) : List (Str × Sl) :=
  [(so "name", .dat (.str (nm x m))), (so "free", .obj 3), (so "parts", .obj 2), (so "kind", .dat k), (so "supply", .ins 41 0)]
inductive NumI (x : Str) (k : Kd) (m1 : Nat) (fs : List Str) (lo' up' bd1 : Kd) (a : Nat) (st1 : List (Str × Sl)) (ob1 : List Ob) : Prop
  | mk (j : Nat) (e : a = 200 - j) (h : ∀ i, i < j → nm x (m1 + 1 + i) ∈ fs) (e1 : st1 = rst x k.dat (m1 + 1 + j)) (e2 : ob1 = [.sup (some (m1 + 1 + j)), .list (k.parts.map Kd.dat), .list [lo'.dat, up'.dat, bd1.dat], .list (fs.map .str)])
theorem ren_step {g : Gx} (G : Gs g) {n : Nat} (hI : ∀ m, m < n → RenC g m) : RenC g n := by
  intro k m hi hn hm
  refine Call.enter G (fun ζ => rfl) (fun ζ => rfl) (fun ζ => ⟨rfl, rfl, rfl, rfl, rfl, rfl⟩) _ _ (fun ζ => rfl) (fun ζ => rfl) (names := [Str.ofString "kind", Str.ofString "supply"]) ?_ (by decide) rfl ?_
  · intro P vs h
    obtain ⟨a, b, rfl⟩ := lenTwo h
    rfl
  intro c hg hA kn hw h0 hmu
  have G0 := G
  subst hg
  have hsz := hi.sz
  have hht := hi.ht
  have hlp : k.parts.length ≤ 100 := by
    have := Kd.szs_length k.parts
    have := Kd.szs_parts k
    lia
  have hpos := k.ht_pos
  have hn1 : ∀ p ∈ k.parts, p.ht ≤ n - 1 := fun p hp => by have := Kd.parts_ht hp; lia
  refine Exs.cons (Ex.assignComp [(Str.ofString "supply", .ins 41 0)] loopOk_one kn hA.hd rfl ?_ (fun ζ => rfl) (Kn.stores ‹_› (.inl rfl)) ((kn.swapW _ _ _).trans rfl) ?_)
  · intro p hp
    simp only [List.mem_singleton] at hp
    subst hp
    exact ⟨rfl, rfl, by simp⟩
  refine It.list hA.hd ?_
  refine Ev.gF ‹_› ‹_› rfl (fun ζ => rfl) (fun ζ => rfl) rfl ?_
  refine Evs.cons ?_; refine Ev.name rfl ?_; refine Evs.nil ?_
  refine On.callD (parts_spec G k hi.fit.sz) (hA.le (szs rfl)) sls1 ?_
  rintro r ⟨rfl, _⟩
  dsimp only [slotOf, List.cons_append, List.nil_append, List.length_cons, List.length_nil]
  refine ⟨1, k.parts.map Kd.dat, rfl, rfl, by simp; lia, [0], fun d => [(Str.ofString "part", Sl.dat d)], ?_, by simp, ?_, ?_, ?_⟩
  · intro i hi; simp at hi; subst hi; exact .inr (by rw [hmu]; simp)
  · intro c' hc d hd
    exact Asg.name (hc.kn.stores (.inl rfl))
  · intro d hd p hp
    simp only [List.mem_singleton] at hp
    subst hp; rfl
  refine Turns.thr (α := Kd) (σ := Nat) Kd.dat (fun p y a b => ∃ q, y = Kd.dat q ∧ RenR p q a b) (fun a => [.sup (some a), .list (k.parts.map Kd.dat)]) (fun a l => (∀ p ∈ l, p ∈ k.parts) ∧ a + 101 * Kd.szs l < 990000) (fun ζ => rfl) (fun c' hc => hc.le) ?_ k.parts m [] (by simp; lia) ⟨fun ζ h => h, by have := Kd.szs_parts k; lia⟩ ?_
  · rintro p l a c' ys ⟨hpl, hab⟩ hc
    have hpk := hpl p (by simp)
    dsimp only [Kd.szs] at hab
    have hB := hI (n - 1) (by lia) p a (hi.part hpk) (hn1 p hpk) (by lia)
    have G' : Gs c'.g := hc.g ▸ G
    have kn' := hc.kn
    have hA' : Ok c'.A (10 * n + 419) := hc.A ▸ hA
    rw [← hc.g] at hB
    have hmu' := hc.mu
    refine Ev.gF ‹_› ‹_› rfl (fun ζ => rfl) (fun ζ => rfl) rfl ?_
    refine Evs.cons ?_; refine Ev.name rfl ?_; refine Evs.cons ?_; refine Ev.name rfl ?_; refine Evs.nil ?_
    refine On.callC (args := [.dat p.dat, .ins 41 0]) [0] hB (hA'.le (by lia)) rfl rfl (by simp) (by simp [hmu']) ?_
    rintro r ob' _ ⟨q, b, rfl, rfl, hr⟩
    refine ⟨_, b, [], rfl, ⟨q, rfl, hr⟩, ⟨fun x hx => hpl x (List.mem_cons_of_mem _ hx), ?_⟩, by (dsimp only [slotOf, upd] <;> try simp)⟩
    have := (ren_main p (hi.part hpk).i (by lia) hr).up
    lia
  intro zs m1 hzs
  obtain ⟨qs, rfl, hq⟩ := allT_map hzs
  have hlq := hq.length
  dsimp only [List.nil_append]
  refine thenDo.nx (Exs.cons (Ex.ite (Et.cmp ?_)))
  refine Ev.sub ?_; refine Ev.name rfl ?_; refine Ev.intC ?_
  refine O2.subK0 ?_
  refine Ev.strC ?_
  refine O2.neS ⟨_, rfl, ?_⟩ (hA.le (Nat.zero_le _)) (word_sok k) (by decide +kernel)
  by_cases ha : isAll k = true
  · obtain ⟨x, lo, up, bd, rfl⟩ := isAll_inv ha
    · skip
      refine ifF (by ((try dsimp only [Kd.word]) <;> simp)) ?_
      dsimp only [Kd.parts] at hq
      obtain ⟨lo', up', bd1, n1, n2, rfl, hlo, hup, hbd⟩ := allT_three hq
      dsimp only [Kd.sz] at hm hsz
      have hok := hi.i.ok
      ((try dsimp only [Kd.ok] at hok) <;> simp only [Bool.and_eq_true] at hok)
      have hxl : x.length ≤ 50 := hi.i.sh x (by ((try dsimp only [Bn]) <;> simp))
      have A := ren_main lo (hi.i.part (by ((try dsimp only [Kd.parts]) <;> simp))) (by lia) hlo
      have hA1 := A.up
      have B := ren_main up (hi.i.part (by ((try dsimp only [Kd.parts]) <;> simp))) (by lia) hup
      have hB1 := B.up
      have D := ren_main bd (hi.i.part (by ((try dsimp only [Kd.parts]) <;> simp))) (by lia) hbd
      have hD1 := D.up
      have hD2 := D.sz
      have hD3 := D.ht
      have hbh := Kd.parts_ht (k := .all x lo up bd) (p := bd) (by ((try dsimp only [Kd.parts]) <;> simp))
      have hcb : (Kd.all x lo up bd) = .bottom ∨ Can (.all x lo up bd) := hi.i.can
      have hca : Can (.all x lo up bd) := by simpa using hcb
      have hcd : Can bd1 := D.can.elim (fun e => absurd (D.bot e) (can_nb hca.2.2)) id
      have hbf : bd1.Fit := ⟨D.ok, by lia, by lia⟩
      have hu : Ok c.A 0 := hA.le (Nat.zero_le _)
      refine Exs.nil (thenDo.nx (Exs.cons ?_))
      first
        | refine Ex.twoS kn hA.hd ⟨rfl, rfl⟩ (Kn.stores ‹_› (.inl rfl)) (Kn.stores ‹_› (.inl rfl)) rfl ?_
      dsimp only [Kd.dat]
      refine Ev.methSup (i := 0) (n := some m1) G rfl rfl rfl ?_ rfl
      refine Ev.sub ?_; refine Ev.name rfl ?_; refine Ev.intC ?_; refine O2.subTup (by decide) (by decide) rfl rfl ?_
      refine On.callC (args := [.ins 41 0, .dat (.str x)]) [0] (next_spec G x m1 (by lia) (by lia)) (hA.le (szs rfl)) rfl rfl (by simp) (by simp [hmu]) ?_
      rintro r ob' _ ⟨rfl, rfl⟩
      dsimp only [slotOf, upd, List.cons_append, List.nil_append, List.set_cons_zero]
      refine Ev.gF ‹_› ‹_› rfl (fun ζ => rfl) (fun ζ => rfl) rfl ?_
      refine Evs.cons ?_; refine Ev.sub ?_; refine Ev.name rfl ?_; refine Ev.intC ?_
      refine O2.subList (xs := [lo'.dat, up'.dat, bd1.dat]) rfl (by decide) (by decide) rfl ?_
      refine Evs.nil ?_
      refine On.callD (free_spec G bd1 hbf) (hA.le (szs rfl)) sls1 ?_
      rintro r ⟨fs, rfl, _, hfn, hfl, hfm⟩
      dsimp only [slotOf, List.cons_append, List.nil_append, List.length_cons, List.length_nil]
      have hfo : ∀ y ∈ fs, nmOk y = true := fun y hy => free_ok bd1 ((hfm y).mp hy) hbf.ok
      have hok2 : ∀ j, j ≤ 61 → nmOk (nm x (m1 + 1 + j)) = true := fun j hj => nm_ok hok.1.1.1 (by lia) (by lia)
      refine thenDo.nx (Exs.cons (Ex.while (NumI x (Kd.all x lo up bd) m1 fs lo' up' bd1) 200 ⟨0, rfl, by simp, rfl, rfl⟩ ?_))
      rintro a st1 ob1 _ ⟨j, rfl, hlt, rfl, rfl⟩
      have hjb := nm_bound hlt
      have hjo := hok2 j (by lia)
      have hjd : okD (.str (nm x (m1 + 1 + j))) = true := by simpa [okD] using nmOk_ok hjo
      dsimp only [rst]
      refine Et.cmp ?_
      refine Ev.name rfl ?_; refine Ev.name rfl ?_
      refine O2.inL (xs := fs.map .str) rfl hu (strs_ok hfo) hjd (by simp [PyData.depth]) ⟨_, rfl, ?_⟩
      by_cases hmem : nm x (m1 + 1 + j) ∈ fs
      · refine ifT (by simpa using hmem) ?_
        refine Exs.cons (Ex.assign ?_ (Kn.stores ‹_› (.inl rfl)) rfl)
        dsimp only [Kd.dat]
        refine Ev.methSup (i := 0) (n := some (m1 + 1 + j)) G rfl rfl rfl ?_ rfl
        refine Ev.sub ?_; refine Ev.name rfl ?_; refine Ev.intC ?_; refine O2.subTup (by decide) (by decide) rfl rfl ?_
        refine On.callC (args := [.ins 41 0, .dat (.str x)]) [0] (next_spec G x (m1 + 1 + j) (by lia) (by lia)) (hA.le (szs rfl)) rfl rfl (by simp) (by simp [hmu]) ?_
        rintro r ob' _ ⟨rfl, rfl⟩
        dsimp only [slotOf, upd, List.cons_append, List.nil_append, List.set_cons_zero]
        refine thenDo.nx (Exs.nil ⟨200 - (j + 1), _, _, by lia, ⟨?_, ⟨[], by simp [Nat.add_assoc]⟩, ?_⟩, j + 1, rfl, fun i hi => ?_, rfl, rfl⟩)
        · simp
        · intro p hp
          ((try dsimp only [rst] at hp) <;> simp only [List.mem_cons, List.not_mem_nil, or_false] at hp)
          rcases hp with rfl | rfl | rfl | rfl | rfl <;> exact ⟨rfl, by ((try dsimp only [Sl.Below]) <;> simp)⟩
        · by_cases e : i = j
          · subst e; exact hmem
          · exact hlt i (by lia)
      · refine ifF (by simpa using hmem) ?_
        refine thenDo.nx (Exs.cons (Ex.ret (Ev.tup rfl (Evs.cons ?_))))
        dsimp only [Kd.dat]
        refine Ev.strC ?_; refine Evs.cons ?_; refine Ev.name rfl ?_; refine Evs.cons ?_; refine Ev.sub ?_; refine Ev.name rfl ?_; refine Ev.intC ?_
        refine O2.subList (xs := [lo'.dat, up'.dat, bd1.dat]) rfl (by decide) (by decide) rfl ?_
        refine Evs.cons ?_; refine Ev.sub ?_; refine Ev.name rfl ?_; refine Ev.intC ?_
        refine O2.subList (xs := [lo'.dat, up'.dat, bd1.dat]) rfl (by decide) (by decide) rfl ?_
        refine Evs.cons ?_
        refine Ev.gF ‹_› ‹_› rfl (fun ζ => rfl) (fun ζ => rfl) rfl ?_
        refine Evs.cons ?_; refine Ev.sub ?_; refine Ev.name rfl ?_; refine Ev.intC ?_
        refine O2.subList (xs := [lo'.dat, up'.dat, bd1.dat]) rfl (by decide) (by decide) rfl ?_
        refine Evs.cons (Ev.dict (ks := [_]) (vs := [_]) (by simp) rfl (by decide) ?_ (by rw [h0]; simp))
        refine (show Ev _ _ _ _ _ from ?_)
        refine Ev.sub (Ev.name rfl (Ev.intC (O2.subTup (by decide) (by decide) rfl rfl ⟨x, rfl, ?_⟩)))
        refine Ev.tup rfl (Evs.cons (Ev.strC (Evs.cons (Ev.name rfl (Evs.nil ⟨_, rfl, by simp, _, rfl, ?_⟩)))))
        refine ⟨by simp, rfl, Evs.nil ?_⟩
        have hsh : bd1.shrt = true := shrt_of bd1 fun b hb => by
          obtain ⟨z, q, hq1, hq2, rfl, hq3⟩ := D.rng b hb
          have := nm_len (x := z) (m := q) (by lia)
          lia
        have hT : TabOk (one x (nm x (m1 + 1 + j))) 1 1 := ⟨fun p hp => by simp at hp; subst hp; exact ⟨hok.1.1.1, hjo, Nat.le_refl _, Nat.le_refl _⟩, Nat.le_refl _, Nat.le_refl _⟩
        have hSI : SubIn (one x (nm x (m1 + 1 + j))) bd1 1 1 := ⟨hT, hbf, by lia, by lia, by decide, by ((try dsimp only [one]) <;> simp); lia, by decide, hsh⟩
        refine On.callSub (args := [.dat bd1.dat, .obj 0]) [4] (subst_spec G bd1.ht _ bd1 1 1 hSI (Nat.le_refl _)) (hA.le (by lia)) rfl rfl (by simp) (by simp) fun bd' hsub => ?_
        refine Evs.nil ⟨_, rfl, by simp, ?_⟩
        refine ⟨.all (nm x (m1 + 1 + j)) lo' up' bd', m1 + 1 + j, rfl, rfl, ?_⟩
        exact ⟨lo', up', bd1, bd', n1, n2, m1, hlo, hup, hbd, by lia, by lia, fun h => hmem ((hfm _).mpr h), hsub, rfl⟩
  · have ha : isAll k = false := by simpa using ha
    refine ifT (by simpa using word_ne_all ha) ?_
    have hF : Fits qs := by
      have hps := Kd.szs_parts k
      have hph : Kd.hts k.parts ≤ k.ht := Kd.hts_le fun p m => Nat.le_of_lt (Kd.parts_ht m)
      have R := rens_main k.parts (fun p hp => hi.i.part hp) (can_parts hi.i.can ha) (by lia) (renRs_allT hq)
      have h1 := R.sz
      have h2 := R.ht
      exact ⟨R.ok, by lia, by lia⟩
    refine Exs.cons (Ex.ret (Ev.ite (Et.cmp ?_)))
    refine Ev.name rfl ?_; refine Ev.lst rfl ?_; refine Evs.nil ?_; refine ⟨_, rfl, szs rfl, ?_⟩
    refine O2.eqL (xs := qs.map Kd.dat) (ys := []) rfl rfl (hA.le (Nat.zero_le _)) (fit_okDs fun q hq => hF.mem hq) rfl (fit_depth fun q hq => hF.mem hq) (by simp) ⟨_, rfl, ?_⟩
    by_cases hp : k.parts = []
    · have hq0 : qs = [] := List.length_eq_zero_iff.mp (by rw [← hlq, hp]; rfl)
      refine ifT (by simp [hq0]) ?_
      refine Ev.name rfl ?_; refine thenDo.rt ?_; refine thenDo.rt ?_
      subst hq0
      rw [hp] at hq
      cases hq
      exact ⟨k, m, rfl, rfl, renR_leaf ha hp m⟩
    · have hq0 : qs ≠ [] := fun e => hp (List.length_eq_zero_iff.mp (by rw [hlq, e]; rfl))
      refine ifF (by simpa using hq0) ?_
      refine Ev.gF ‹_› ‹_› rfl (fun ζ => rfl) (fun ζ => rfl) rfl ?_
      refine Evs.cons ?_; refine Ev.name rfl ?_; refine Evs.cons ?_; refine Ev.name rfl ?_; refine Evs.nil ?_
      refine On.callZ (args := [.dat k.dat, .obj 0]) [2] (rebuilt_spec G k qs hlq.symm hF) (hA.le (szs rfl)) rfl rfl (by simp) (by simp) ?_
      exact ⟨rebuilt k qs, m1, rfl, rfl, renR_rebuilt ha hp hq⟩
theorem ren_spec {g : Gx} (G : Gs g) : ∀ n, RenC g n := fun n => by
  induction n using Nat.strongRecOn with
  | ind n ih => exact ren_step G ih
end
/-! P13 -/
section
noncomputable def PlC (g : Gx) (n : Nat) : Prop := ∀ (k : Kd) (bs : List Str), (k = .bottom ∨ Can k) → k.Fit → (∀ b ∈ bs, nmOk b = true) → bs.length + k.ht ≤ 100 → k.sz ≤ 60 → k.ht ≤ n →
  Call g (.ref 136) [.dat k.dat, .obj 0] [.list (bs.map .str)] [] (10 * n + 20) (RetD (PV k (ixP bs)) [.list (bs.map .str)])
theorem Call.reprD {g : Gx} {x : PyData} {sz ht : Nat} (h : Dat x sz ht) (hx : ∃ ys, x = .tuple ys) (hs : sz ≤ 1000) (hh : ht ≤ 29) : Call g (.builtin "repr") [.dat x] [] [] 0 (RetD (.str x.shown) []) := by
  obtain ⟨ys, rfl⟩ := hx
  have h1 := shown_len _ h.b
  have h2 := h.w
  have h3 := h.d
  have : sizeLine = 16777216 := rfl
  exact Call.repr h.b (by lia) (by lia)
theorem PV_tup (k : Kd) (ρ : Str → Option Nat) : ∃ ys, PV k ρ = .tuple ys := by
  cases k <;> dsimp only [PV]
  case var => split <;> exact ⟨_, rfl⟩
  all_goals exact ⟨_, rfl⟩
theorem placed_step {g : Gx} (G : Gs g) {n : Nat} (hI : ∀ m, m < n → PlC g m) : PlC g n := by
  intro k bs hc hf hbo hbl h60 hn
  refine Call.enter G (fun ζ => rfl) (fun ζ => rfl) (fun ζ => ⟨rfl, rfl, rfl, rfl, rfl, rfl⟩) _ _ (fun ζ => rfl) (fun ζ => rfl) (names := [Str.ofString "kind", Str.ofString "bound"]) ?_ (by decide) rfl ?_
  · intro P vs h
    obtain ⟨a, b, rfl⟩ := lenTwo h
    rfl
  intro c hg hA kn hw h0 hmu
  have G0 := G
  subst hg
  have hu : Ok c.A 0 := hA.le (Nat.zero_le _)
  have hsz := hf.sz
  have hht := hf.ht
  have hpos := k.ht_pos
  have hlp : k.parts.length ≤ 100 := by
    have := Kd.szs_length k.parts
    have := Kd.szs_parts k
    lia
  have recp : ∀ p ∈ k.parts, ∀ cs : List Str, (∀ b ∈ cs, nmOk b = true) → cs.length ≤ bs.length + 1 → (p = .bottom ∨ Can p) → Call c.g (.ref 136) [.dat p.dat, .obj 0] [.list (cs.map .str)] [] (10 * n + 10) (RetD (PV p (ixP cs)) [.list (cs.map .str)]) := fun p hp cs hcs hl hpc => by
    have := Kd.parts_ht hp
    have := Kd.parts_sz hp
    exact (hI (n - 1) (by lia) p cs hpc (hf.part hp) hcs (by lia) (by lia) (by lia)).le (by lia)
  refine Exs.cons (Ex.ite (Et.cmp ?_))
  refine Ev.sub ?_; refine Ev.name rfl ?_; refine Ev.intC ?_
  refine O2.subK0 ?_
  refine Ev.strC ?_; refine O2.eqS ⟨_, rfl, ?_⟩
  by_cases hv : isVar k = true
  · cases k with
    | var x =>
      refine ifT (by ((try dsimp only [Kd.word]) <;> simp)) ?_
      have hx : nmOk x = true := by simpa [Kd.ok] using hf.ok
      refine Exs.cons (Ex.ret (Ev.ite (Et.cmp ?_)))
      dsimp only [Kd.dat]
      refine Ev.sub ?_; refine Ev.name rfl ?_; refine Ev.intC ?_; refine O2.subTup (by decide) (by decide) rfl rfl ?_; refine Ev.name rfl ?_
      refine O2.inL (xs := bs.map .str) rfl hu (strs_ok hbo) (by simpa [okD] using nmOk_ok hx) (by simp [PyData.depth]) ⟨_, rfl, ?_⟩
      by_cases hm : x ∈ bs
      · refine ifT (by simpa using hm) ?_
        refine Ev.tup rfl (Evs.cons (Ev.strC (Evs.cons ?_)))
        refine Ev.meth PySem.F.slot_list_index PySem.F.plainAttrs_list PySem.F.type_list_index (by decide) rfl (Ev.name rfl ⟨rfl, Evs.cons ?_⟩) rfl (by decide) rfl
        refine Ev.sub ?_; refine Ev.name rfl ?_; refine Ev.intC ?_; refine O2.subTup (by decide) (by decide) rfl rfl ?_; refine Evs.nil ?_
        refine On.index (xs := bs) rfl (by lia) rfl hm ?_
        refine Evs.nil ⟨_, rfl, by simp, ?_⟩
        refine ⟨?_, rfl⟩
        ((try dsimp only [PV, ixP]) <;> simp [hm])
      · refine ifF (by simpa using hm) ?_
        refine Ev.name rfl ?_; refine thenDo.rt ?_; refine thenDo.rt ?_
        refine ⟨?_, rfl⟩
        ((try dsimp only [PV, ixP]) <;> simp [hm])
    | _ => ((try dsimp only [isVar] at hv) <;> simp at hv)
  have hv : isVar k = false := by simpa using hv
  refine ifF (by simpa using word_ne_var hv) ?_
  refine Exs.nil (thenDo.nx (Exs.cons (Ex.ite (Et.cmp ?_))))
  refine Ev.sub ?_; refine Ev.name rfl ?_; refine Ev.intC ?_
  refine O2.subK0 ?_
  refine Ev.strC ?_; refine O2.eqS ⟨_, rfl, ?_⟩
  by_cases ha : isAll k = true
  · cases k with
    | all x lo up bd =>
      refine ifT (by ((try dsimp only [Kd.word]) <;> simp)) ?_
      have hca : Can (.all x lo up bd) := by simpa using hc
      have hx : nmOk x = true := by have := hf.ok; ((try dsimp only [Kd.ok] at this) <;> simp only [Bool.and_eq_true] at this); exact this.1.1.1
      refine Exs.cons (Ex.ret (Ev.tup rfl (Evs.cons (Ev.strC (Evs.cons ?_)))))
      dsimp only [Kd.dat]
      refine Ev.gF ‹_› ‹_› rfl (fun ζ => rfl) (fun ζ => rfl) rfl ?_
      refine Evs.cons ?_; refine Ev.sub ?_; refine Ev.name rfl ?_; refine Ev.intC ?_; refine O2.subTup (by decide) (by decide) rfl rfl ?_; refine Evs.cons ?_; refine Ev.name rfl ?_; refine Evs.nil ?_
      refine On.callZ (args := [.dat lo.dat, .obj 0]) [0] (recp lo (by ((try dsimp only [Kd.parts]) <;> simp)) bs hbo (by lia) hca.1) (hA.le (by lia)) rfl rfl (by simp) (by simp) ?_
      refine Evs.cons ?_
      refine Ev.gF ‹_› ‹_› rfl (fun ζ => rfl) (fun ζ => rfl) rfl ?_
      refine Evs.cons ?_; refine Ev.sub ?_; refine Ev.name rfl ?_; refine Ev.intC ?_; refine O2.subTup (by decide) (by decide) rfl rfl ?_; refine Evs.cons ?_; refine Ev.name rfl ?_; refine Evs.nil ?_
      refine On.callZ (args := [.dat up.dat, .obj 0]) [0] (recp up (by ((try dsimp only [Kd.parts]) <;> simp)) bs hbo (by lia) (.inr hca.2.1)) (hA.le (by lia)) rfl rfl (by simp) (by simp) ?_
      refine Evs.cons ?_
      refine Ev.gF ‹_› ‹_› rfl (fun ζ => rfl) (fun ζ => rfl) rfl ?_
      refine Evs.cons ?_; refine Ev.sub ?_; refine Ev.name rfl ?_; refine Ev.intC ?_; refine O2.subTup (by decide) (by decide) rfl rfl ?_; refine Evs.cons ?_; refine Ev.bin ?_; refine Ev.lst rfl ?_; refine Evs.cons ?_; refine Ev.sub ?_; refine Ev.name rfl ?_; refine Ev.intC ?_
      refine O2.subTup (by decide) (by decide) rfl rfl ?_; refine Evs.nil ?_; refine ⟨_, rfl, by first | assumption | exact szs rfl | (simp; lia), ?_⟩; refine Ev.name rfl ?_; refine O2.addL rfl rfl (by first | assumption | exact szs rfl | (simp; lia)) ?_; refine Evs.nil ?_
      dsimp only [slotOf, upd, List.cons_append, List.nil_append, List.set_cons_zero, List.length_cons, List.length_nil]
      refine On.callZ (args := [.dat bd.dat, .obj 0]) [2] (recp bd (by ((try dsimp only [Kd.parts]) <;> simp)) (x :: bs) (fun b hb => (List.mem_cons.mp hb).elim (fun e => e ▸ hx) (hbo b)) (by simp) (.inr hca.2.2)) (hA.le (by lia)) rfl rfl (by simp) (by simp) ?_
      refine Evs.nil ⟨_, rfl, by simp, ?_⟩
      exact ⟨by ((try dsimp only [PV, slotOf]) <;> simp [ixP_up]), rfl⟩
    | _ => ((try dsimp only [isAll] at ha) <;> simp at ha)
  have ha : isAll k = false := by simpa using ha
  refine ifF (by simpa using word_ne_all ha) ?_
  have hcp := can_parts hc ha
  refine Exs.nil (thenDo.nx (Exs.cons (Ex.assign ?_ (Kn.stores ‹_› (.inl rfl)) rfl)))
  refine Ev.gT ‹_› ‹_› rfl (fun ζ => rfl) rfl (by decide) rfl ?_
  refine Evs.cons (Ev.comp [(Str.ofString "bound", .obj 0)] loopOk_one kn hA.hd rfl ?_ (fun ζ => rfl) ?_)
  · intro p hp
    simp only [List.mem_singleton] at hp
    subst hp
    exact ⟨rfl, rfl, by simp⟩
  refine It.list hA.hd ?_
  refine Ev.gF ‹_› ‹_› rfl (fun ζ => rfl) (fun ζ => rfl) rfl ?_
  refine Evs.cons ?_; refine Ev.name rfl ?_; refine Evs.nil ?_
  refine On.callD (parts_spec G k hf.sz) (hA.le (szs rfl)) sls1 ?_
  rintro r ⟨rfl, _⟩
  dsimp only [slotOf, List.cons_append, List.nil_append, List.length_cons, List.length_nil]
  refine ⟨1, k.parts.map Kd.dat, rfl, rfl, by simp; lia, [], fun d => [(Str.ofString "part", Sl.dat d)], by simp, by simp, ?_, ?_, ?_⟩
  · intro c' hc d hd
    exact Asg.name (hc.kn.stores (.inl rfl))
  · intro d hd p hp
    simp only [List.mem_singleton] at hp
    subst hp; rfl
  refine Turns.mapA (α := Kd) (n := 2) (obM := [.list (bs.map .str), .list (k.parts.map Kd.dat)]) Kd.dat (fun p => PV p (ixP bs)) rfl (fun c' hc => hc.le) k.parts [] (by simp; lia) ?_ ?_
  · intro p hp c' ys hc'
    have hB := recp p hp bs hbo (by lia) (.inr (cans_iff.mp hcp p hp))
    have G' : Gs c'.g := hc'.g ▸ G
    have kn' := hc'.kn
    have hA' : Ok c'.A (10 * n + 19) := hc'.A ▸ hA
    rw [← hc'.g] at hB
    refine Ev.gF ‹_› ‹_› rfl (fun ζ => rfl) (fun ζ => rfl) rfl ?_
    refine Evs.cons ?_; refine Ev.name rfl ?_; refine Evs.cons ?_; refine Ev.name rfl ?_; refine Evs.nil ?_
    refine On.callZ (args := [.dat p.dat, .obj 0]) [0] hB (hA'.le (by lia)) rfl rfl (by simp) (by simp) ?_
    exact ⟨[], rfl, by ((try dsimp only [slotOf, upd]) <;> simp)⟩
  rw [← PVs_eq]
  have hpl : (PVs k.parts (ixP bs)).length = k.parts.length := by rw [PVs_eq]; simp
  dsimp only [List.nil_append]
  refine Evs.nil (On.tupleL (xs := PVs k.parts (ixP bs)) rfl (by lia) ?_)
  dsimp only [List.cons_append, List.nil_append]
  refine thenDo.nx (Exs.cons (Ex.ite (Et.cmp ?_)))
  refine Ev.sub ?_; refine Ev.name rfl ?_; refine Ev.intC ?_
  refine O2.subK0 ?_
  refine Ev.strC ?_; refine O2.eqS ⟨_, rfl, ?_⟩
  cases k with
  | var x => ((try dsimp only [isVar] at hv) <;> simp at hv)
  | all x lo up bd => ((try dsimp only [isAll] at ha) <;> simp at ha)
  | uni ps =>
    refine ifT (by (dsimp only [Kd.word] <;> try simp only []); decide +kernel) ?_
    have hcu : Can (.uni ps) := by simpa using hc
    have hok : Kd.oks ps = true := by simpa [Kd.ok] using hf.ok
    dsimp only [Kd.parts, Kd.sz, Kd.ht] at hpl h60 hht hbl ⊢
    have hl2 := hcu.2.2.2.1
    have hps := Kd.szs_length ps
    have hD : ∀ x ∈ PVs ps (ixP bs), ∃ sz ht, Dat x sz ht ∧ sz ≤ 1000 ∧ ht ≤ 29 ∧ ∃ ys, x = .tuple ys := fun x hx => by
      rw [PVs_eq] at hx
      obtain ⟨p, hp, rfl⟩ := List.mem_map.mp hx
      have h1 := Kd.szs_mem hp
      have h2 := Kd.hts_mem hp
      exact ⟨p.sz, p.ht, PV_facts p (Kd.oks_mem hp hok) (by lia) (ixP_env (by lia)), by lia, by lia, PV_tup p _⟩
    refine Exs.cons (Ex.ret (Ev.tup rfl (Evs.cons (Ev.strC (Evs.cons ?_)))))
    refine Ev.gT ‹_› ‹_› rfl (fun ζ => rfl) rfl (by decide) rfl ?_
    refine Evs.cons (Ev.callKw (Gs.toGd ‹_›) ‹_› rfl (by rw [Gs.hK ‹_›]; rfl) rfl (by decide) rfl (Ev.name rfl ?_))
    refine Ev.boot (v := .builtin "repr") G.toGd kn.gl kn.bt (kn.glob rfl) (by rw [G.hK]; rfl) rfl (by decide) ⟨_, rfl, ?_⟩
    refine On.sortKT (xs := PVs ps (ixP bs)) (n := 0) (key := fun x => .str x.shown) (O := strO) (ko := cpsOf) (by lia) (by lia) (hA.le (szs rfl)) (fun x => ksk_t4 "repr" x) ?_ (keyStr _ _ _ (by simp; lia) ?_) ?_
    · intro x hx
      obtain ⟨sz, ht, h1, h2, h3, h4⟩ := hD x hx
      exact (Call.reprD h1 h4 h2 h3).mono fun r ob' q => q.1
    · intro x hx
      obtain ⟨y, _, rfl⟩ := List.mem_map.mp hx
      exact ⟨_, rfl⟩
    intro ys hp hs
    have hys := srtD_unique hp (fun x hx => plDs_iff.mp (PVs_pl ps hok) x hx) hs
    refine Evs.nil (On.tupleL (xs := ys) (by exact last_get _ _) (by rw [hp.length_eq]; lia) ?_)
    refine Evs.nil ⟨_, rfl, by simp, ?_⟩
    exact ⟨by ((try dsimp only [PV]) <;> simp [hys]), rfl⟩
  | tup p =>
    refine ifF (by simpa using word_ne_union (k := .tup p) rfl) ?_
    refine Exs.nil (thenDo.nx (Exs.cons (Ex.ite (Et.cmp ?_))))
    dsimp only [Kd.dat]
    refine Ev.sub ?_; refine Ev.name rfl ?_; refine Ev.intC ?_; refine O2.subTup (by decide) (by decide) rfl rfl ?_; refine Ev.strC ?_; refine O2.eqS ⟨_, rfl, ?_⟩; refine Exs.cons ?_; refine Ex.ret ?_; refine Ev.tup rfl ?_; refine Evs.cons ?_; refine Ev.strC ?_; refine Evs.cons ?_; refine Ev.name rfl ?_
    refine Evs.cons ?_; refine Ev.cmp ?_; refine Ev.sub ?_; refine Ev.name rfl ?_; refine Ev.intC ?_; refine O2.subTup (by decide) (by decide) rfl rfl ?_; refine Ev.noneC ?_; refine O2.isNone (Evs.nil ⟨_, rfl, szs rfl, ?_⟩)
    exact ⟨by ((try dsimp only [PV, PVs, Kd.parts]) <;> simp), rfl⟩
  | tupv p q =>
    refine ifF (by simpa using word_ne_union (k := .tupv p q) rfl) ?_
    refine Exs.nil (thenDo.nx (Exs.cons (Ex.ite (Et.cmp ?_))))
    dsimp only [Kd.dat]
    refine Ev.sub ?_; refine Ev.name rfl ?_; refine Ev.intC ?_; refine O2.subTup (by decide) (by decide) rfl rfl ?_; refine Ev.strC ?_; refine O2.eqS ⟨_, rfl, ?_⟩; refine Exs.cons ?_; refine Ex.ret ?_; refine Ev.tup rfl ?_; refine Evs.cons ?_; refine Ev.strC ?_; refine Evs.cons ?_; refine Ev.name rfl ?_
    refine Evs.cons ?_; refine Ev.cmp ?_; refine Ev.sub ?_; refine Ev.name rfl ?_; refine Ev.intC ?_; refine O2.subTup (by decide) (by decide) rfl rfl ?_; refine Ev.noneC ?_; refine O2.isNoneK (Evs.nil ⟨_, rfl, szs rfl, ?_⟩)
    exact ⟨by ((try dsimp only [PV, PVs, Kd.parts]) <;> simp), rfl⟩
  | name x ps =>
    refine ifF (by simpa using word_ne_union (k := .name x ps) rfl) ?_
    refine Exs.nil (thenDo.nx (Exs.cons (Ex.ite (Et.cmp ?_))))
    dsimp only [Kd.dat]
    refine Ev.sub ?_; refine Ev.name rfl ?_; refine Ev.intC ?_; refine O2.subTup (by decide) (by decide) rfl rfl ?_; refine Ev.strC ?_; refine O2.eqS ⟨_, rfl, ?_⟩; refine Exs.nil ?_; refine Exs.cons ?_; refine Ex.ret ?_; refine Ev.ite ?_; refine Et.cmp ?_; refine Ev.sub ?_; refine Ev.name rfl ?_
    refine Ev.intC ?_; refine O2.subTup (by decide) (by decide) rfl rfl ?_; refine Ev.strC ?_; refine O2.eqS ⟨_, rfl, ?_⟩; refine Ev.tup rfl ?_; refine Evs.cons ?_; refine Ev.strC ?_; refine Evs.cons ?_; refine Ev.sub ?_; refine Ev.name rfl ?_; refine Ev.intC ?_
    refine O2.subTup (by decide) (by decide) rfl rfl ?_; refine Evs.cons ?_; refine Ev.name rfl ?_; refine Evs.nil ?_; refine ⟨_, rfl, szs rfl, ?_⟩; refine thenDo.rt ?_
    exact ⟨by ((try dsimp only [PV, Kd.parts]) <;> simp), rfl⟩
  | typeof p =>
    refine ifF (by simpa using word_ne_union (k := .typeof p) rfl) ?_
    refine Exs.nil (thenDo.nx (Exs.cons (Ex.ite (Et.cmp ?_))))
    dsimp only [Kd.dat]
    refine Ev.sub ?_; refine Ev.name rfl ?_; refine Ev.intC ?_; refine O2.subTup (by decide) (by decide) rfl rfl ?_; refine Ev.strC ?_; refine O2.eqS ⟨_, rfl, ?_⟩; refine Exs.nil ?_; refine Exs.cons ?_; refine Ex.ret ?_; refine Ev.ite ?_; refine Et.cmp ?_; refine Ev.sub ?_; refine Ev.name rfl ?_
    refine Ev.intC ?_; refine O2.subTup (by decide) (by decide) rfl rfl ?_; refine Ev.strC ?_; refine O2.eqS ⟨_, rfl, ?_⟩; refine Ev.ite ?_; refine Et.cmp ?_; refine Ev.sub ?_; refine Ev.name rfl ?_; refine Ev.intC ?_; refine O2.subTup (by decide) (by decide) rfl rfl ?_; refine Ev.strC ?_
    refine O2.eqS ⟨_, rfl, ?_⟩; refine Ev.bin ?_; refine Ev.tup rfl ?_; refine Evs.cons ?_; refine Ev.strC ?_; refine Evs.nil ?_; refine ⟨_, rfl, szs rfl, ?_⟩; refine Ev.name rfl ?_; refine O2.addT (szs rfl) ?_; refine thenDo.rt ?_
    exact ⟨by ((try dsimp only [PV, PVs, Kd.parts]) <;> simp), rfl⟩
  | bottom =>
    refine ifF (by simpa using word_ne_union (k := .bottom) rfl) ?_
    refine Exs.nil (thenDo.nx (Exs.cons (Ex.ite (Et.cmp ?_))))
    dsimp only [Kd.dat]
    refine Ev.sub ?_; refine Ev.name rfl ?_; refine Ev.intC ?_; refine O2.subTup (by decide) (by decide) rfl rfl ?_; refine Ev.strC ?_; refine O2.eqS ⟨_, rfl, ?_⟩; refine Exs.nil ?_; refine Exs.cons ?_; refine Ex.ret ?_; refine Ev.ite ?_; refine Et.cmp ?_; refine Ev.sub ?_; refine Ev.name rfl ?_
    refine Ev.intC ?_; refine O2.subTup (by decide) (by decide) rfl rfl ?_; refine Ev.strC ?_; refine O2.eqS ⟨_, rfl, ?_⟩; refine Ev.ite ?_; refine Et.cmp ?_; refine Ev.sub ?_; refine Ev.name rfl ?_; refine Ev.intC ?_; refine O2.subTup (by decide) (by decide) rfl rfl ?_; refine Ev.strC ?_
    refine O2.eqS ⟨_, rfl, ?_⟩; refine Ev.name rfl ?_; refine thenDo.rt ?_
    exact ⟨by ((try dsimp only [PV, Kd.parts, Kd.dat]) <;> simp), rfl⟩
theorem placed_spec {g : Gx} (G : Gs g) : ∀ n, PlC g n := fun n => by
  induction n using Nat.strongRecOn with
  | ind n ih => exact placed_step G ih
end
/-! P14 -/
section
structure PlIn (k : Kd) : Prop where
  can : k = .bottom ∨ Can k
  fit : k.Fit
  sz : k.sz ≤ 60
theorem same_spec {g : Gx} (G : Gs g) (k k' : Kd) (h1 : PlIn k) (h2 : PlIn k') (he : PV k (ixP []) = PV k' (ixP [])) : Call g (.ref 131) [.dat k.dat, .dat k'.dat] [] [] 240 (RetD (.bool true) []) := by
  refine Call.enter G (fun ζ => rfl) (fun ζ => rfl) (fun ζ => ⟨rfl, rfl, rfl, rfl, rfl, rfl⟩) _ _ (fun ζ => rfl) (fun ζ => rfl) (names := [Str.ofString "one", Str.ofString "other"]) ?_ (by decide) rfl ?_
  · intro P vs h
    obtain ⟨a, b, rfl⟩ := lenTwo h
    rfl
  intro c hg hA kn hw h0 hmu
  subst hg
  have hd1 := h1.fit.ht
  have hd2 := h2.fit.ht
  refine Exs.cons (Ex.ret (Ev.cmp ?_))
  refine Ev.gF ‹_› ‹_› rfl (fun ζ => rfl) (fun ζ => rfl) rfl ?_
  refine Evs.cons (Ev.name rfl (Evs.cons (Ev.lst rfl (Evs.nil ⟨[], rfl, by simp, Evs.nil ?_⟩))))
  refine On.callZ (args := [.dat k.dat, .obj 0]) [0] (placed_spec G k.ht k [] h1.can h1.fit (by simp) (by simp; lia) h1.sz (Nat.le_refl _)) (hA.le (by lia)) rfl rfl (by simp) (by simp) ?_
  refine Ev.gF ‹_› ‹_› rfl (fun ζ => rfl) (fun ζ => rfl) rfl ?_
  refine Evs.cons (Ev.name rfl (Evs.cons (Ev.lst rfl (Evs.nil ⟨[], rfl, by simp, Evs.nil ?_⟩))))
  refine On.callZ (args := [.dat k'.dat, .obj 0]) [1] (placed_spec G k'.ht k' [] h2.can h2.fit (by simp) (by simp; lia) h2.sz (Nat.le_refl _)) (hA.le (by lia)) rfl rfl (by simp) (by simp) ?_
  rw [← he]
  have hD := PV_facts k (ρ := ixP []) h1.fit.ok (by lia) (ixP_env (by simp; lia))
  exact O2.eqR (hA.le (Nat.zero_le _)) hD.b (by have := hD.d; lia) ⟨rfl, rfl⟩
/-! ### the flask -/
structure Flk (p q : Int) : Prop where
  p0 : 0 ≤ p
  p1 : p < 10 ^ 60
  q0 : 0 ≤ q
  q1 : q < 1998203
theorem fmod_b (a : Int) {b : Int} (h : 0 < b) : 0 ≤ Int.fmod a b ∧ Int.fmod a b < b := ⟨Int.fmod_nonneg_of_pos a h, Int.fmod_lt_of_pos a h⟩
inductive FlaskQ (r : Rs) (ob' : List Ob) : Prop
  | mk (p q : Int) (e : r = .new (.list [.int p, .int q])) (e2 : ob' = []) (f : Flk p q)
inductive SipQ (m : Nat) (r : Rs) (ob' : List Ob) : Prop
  | mk (w : Nat) (p' q' : Int) (e : r = .dat (.int w)) (e2 : ob' = [.list [.int p', .int q']]) (h : w < m) (f : Flk p' q')
theorem flask_spec {g : Gx} (G : Gs g) (a : Addr) (vs : Array Value) (hl : g.hb.IsList a vs) (hn : vs.size ≤ 63) (hi : ∀ v ∈ vs, ∃ i t, v = .int i t) (k : Nat) (hk : k ≤ 2) :
    Call g (.ref 143) [.val (.ref a), .dat (.int k)] [] [] 2 FlaskQ := by
  refine Call.enter G (fun ζ => rfl) (fun ζ => rfl) (fun ζ => ⟨rfl, rfl, rfl, rfl, rfl, rfl⟩) _ _ (fun ζ => rfl) (fun ζ => rfl) (names := [Str.ofString "script", Str.ofString "k"]) ?_ (by decide) rfl ?_
  · intro P vs h
    obtain ⟨a, b, rfl⟩ := lenTwo h
    rfl
  intro c hg hA kn hw h0 hmu
  subst hg
  refine Exs.cons ((Ex.assign (K := fun fl st1 ob1 => fl = .nx ∧ ∃ p : Int, 0 ≤ p ∧ p < 10 ^ 60 ∧ st1 = [(Str.ofString "number", Sl.dat (.int p)), (Str.ofString "script", Sl.val (.ref a)), (Str.ofString "k", Sl.dat (.int k))] ∧ ob1 = []) (Ev.ite (Et.cmp (Ev.name rfl ?_))) (Kn.stores ‹_› (.inl rfl)) rfl).mono ?_)
  · refine Ev.gB ‹_› ‹_› rfl (fun ζ => rfl) rfl (by decide) rfl ?_
    refine Evs.cons (Ev.name rfl (Evs.nil (On.lenV hl (by lia) (O2.ltI ⟨_, rfl, ?_⟩))))
    by_cases hlt : k < vs.size
    · refine ifT (by simpa using hlt) ?_
      refine Ev.bin ?_
      refine Ev.gB ‹_› ‹_› rfl (fun ζ => rfl) rfl (by decide) rfl ?_
      obtain ⟨i, t, hv⟩ := hi vs[k] (by simp)
      refine Evs.cons (Ev.sub (Ev.name rfl (Ev.name rfl (O2.subV (i := i) (t := t) hl (by lia) (by lia) (by simp [hlt, hv]) (Evs.nil (On.absI ?_))))))
      refine Ev.bin (Ev.intC (Ev.intC (O2.powI (by decide) (by decide) (by decide) (O2.modI (by decide +kernel) ?_))))
      obtain ⟨b1, b2⟩ := fmod_b (i.natAbs : Int) (b := 10 ^ 60) (by decide +kernel)
      exact ⟨rfl, _, b1, b2, rfl, rfl⟩
    · refine ifF (by simpa using hlt) ?_
      exact Ev.intC ⟨rfl, 0, by decide, by decide +kernel, rfl, rfl⟩
  rintro fl st1 ob1 ⟨rfl, p, h0, h1, rfl, rfl⟩
  refine thenDo.nx (Exs.cons (Ex.ret (Ev.lst rfl (Evs.cons (Ev.name rfl (Evs.cons ?_))))))
  refine Ev.bin (Ev.bin (Ev.bin (Ev.bin (Ev.bin (Ev.name rfl (Ev.intC (O2.modI (by decide) ?_)))))))
  refine Ev.bin (Ev.intC (Ev.name rfl (O2.mulI (IntMulOk.of_left (by decide)) (O2.addI ?_))))
  refine Ev.intC (O2.addI (Ev.intC (O2.mulI (IntMulOk.of_right (by decide)) (Ev.intC (O2.modI (by decide) ?_)))))
  refine Evs.nil ⟨_, rfl, by simp, ?_⟩
  obtain ⟨b1, b2⟩ := fmod_b ((Int.fmod p 1000847 + 131 * k + 73) * 157) (b := 1998203) (by decide)
  exact ⟨Nat.le_refl _, _, rfl, p, _, rfl, rfl, h0, h1, b1, b2⟩
theorem sip_spec {g : Gx} (G : Gs g) (p q : Int) (m : Nat) (hf : Flk p q) (h1 : 1 ≤ m) (h2 : m ≤ 100) :
    Call g (.ref 150) [.obj 0, .dat (.int m)] [.list [.int p, .int q]] [0] 2 (SipQ m) := by
  refine Call.enter G (fun ζ => rfl) (fun ζ => rfl) (fun ζ => ⟨rfl, rfl, rfl, rfl, rfl, rfl⟩) _ _ (fun ζ => rfl) (fun ζ => rfl) (names := [Str.ofString "flask", Str.ofString "many"]) ?_ (by decide) rfl ?_
  · intro P vs h
    obtain ⟨a, b, rfl⟩ := lenTwo h
    rfl
  intro c hg hA kn hw h0 hmu
  subst hg
  have hm0 : c.n₀ ≤ 0 ∨ 0 ∈ c.mu := .inr (by rw [hmu]; simp)
  refine Exs.cons (Ex.setItem (Ev.bin (Ev.bin (Ev.bin (Ev.sub (Ev.name rfl (Ev.intC (O2.subList (xs := [.int p, .int q]) rfl (by decide) (by decide) rfl (Ev.intC (O2.mulI (IntMulOk.of_right (by decide)) (Ev.intC (O2.addI (Ev.intC (O2.modI (by decide) ?_))))))))))))) rfl)
  refine Ev.name rfl (Ev.intC ⟨_, 0, _, 1, rfl, rfl, rfl, hm0, by simp, by simp, .inl rfl, ?_⟩)
  dsimp only [List.set_cons_zero, List.set_cons_succ]
  generalize hq' : Int.fmod (q * 7927 + 421) 1998203 = q'
  obtain ⟨b1, b2⟩ := fmod_b (q * 7927 + 421) (b := 1998203) (by decide)
  rw [hq'] at b1 b2
  refine thenDo.nx (Exs.cons (Ex.assign (Ev.bin (Ev.bin (Ev.sub (Ev.name rfl (Ev.intC (O2.subList (xs := [.int p, .int q']) rfl (by decide) (by decide) rfl ?_)))))) (Kn.stores ‹_› (.inl rfl)) rfl))
  refine Ev.bin (Ev.sub (Ev.name rfl (Ev.intC (O2.subList (xs := [.int p, .int q']) rfl (by decide) (by decide) rfl (Ev.intC (O2.divI (by decide) (PyProof.noPylong_small (szs rfl)) (O2.addI (Ev.name rfl (O2.modI (by lia) ?_)))))))))
  generalize hw' : Int.fmod (p + Int.fdiv q' 103) (m : Int) = w
  obtain ⟨w1, w2⟩ := fmod_b (p + Int.fdiv q' 103) (b := (m : Int)) (by lia)
  rw [hw'] at w1 w2
  obtain ⟨w, rfl⟩ := Int.eq_ofNat_of_zero_le w1
  refine thenDo.nx (Exs.cons (Ex.setItem (Ev.bin (Ev.sub (Ev.name rfl (Ev.intC (O2.subList (xs := [.int p, .int q']) rfl (by decide) (by decide) rfl (Ev.name rfl (O2.divI (by lia) (PyProof.noPylong_small (by lia)) ?_))))))) rfl))
  refine Ev.name rfl (Ev.intC ⟨_, 0, _, 0, rfl, rfl, rfl, hm0, by simp, by simp, .inl rfl, ?_⟩)
  dsimp only [List.set_cons_zero]
  refine thenDo.nx (Exs.cons (Ex.ret (Ev.name rfl ?_)))
  have hd : Int.fdiv p m = p / m := Int.fdiv_eq_ediv_of_nonneg _ (by lia)
  refine ⟨w, Int.fdiv p m, q', rfl, rfl, by lia, ?_, ?_, b1, b2⟩
  · rw [hd]; exact Int.ediv_nonneg hf.p0 (by lia)
  · rw [hd]
    have h3 : p / (m : Int) ≤ p := Int.ediv_le_self _ hf.p0
    exact Int.lt_of_le_of_lt h3 hf.p1
end
/-! P15 -/
section
/-! ## kinds as the law draws them -/
structure Gen (S H : Nat) (k : Kd) : Prop where
  can : Can k
  ok : k.ok = true
  sz : k.sz ≤ S
  ht : k.ht ≤ H
  bl : ∀ b ∈ Bn k, b.length ≤ 50
noncomputable def szd : Nat → Nat
  | 0 => 1
  | n + 1 => 2 * szd n + 2
theorem szd_pos (n : Nat) : 1 ≤ szd n := by cases n <;> dsimp only [szd] <;> lia
theorem Gen.le {S H S' H' : Nat} {k : Kd} (h : Gen S H k) (hs : S ≤ S') (hh : H ≤ H') : Gen S' H' k := ⟨h.can, h.ok, Nat.le_trans h.sz hs, Nat.le_trans h.ht hh, h.bl⟩
structure NmsOk (l : List Str) : Prop where
  ok : ∀ x ∈ l, nmOk x = true ∧ x.length ≤ 50
  ne : l ≠ []
noncomputable def genL (p q : Int) (l : List Str) : List Ob := [.list [.int p, .int q], .list (l.map .str)]
inductive GenPost (l : List Str) (S H : Nat) (r : Rs) (ob' : List Ob) : Prop
  | mk (k : Kd) (p q : Int) (e : r = .dat (Kd.dat k)) (e2 : ob' = genL p q l) (f : Flk p q) (g : Gen S H k)
noncomputable def GenC (g : Gx) (d : Nat) : Prop := ∀ p q l, Flk p q → NmsOk l → l.length + d ≤ 12 → Call g (.ref 155) [.obj 0, .dat (.int (d : Nat)), .obj 1] (genL p q l) [0] (10 * d + 250) (GenPost l (szd d) (d + 1))
theorem gen_szs {S H : Nat} : ∀ {ks : List Kd}, (∀ k ∈ ks, Gen S H k) → Kd.szs ks ≤ ks.length * S ∧ Kd.hts ks ≤ H ∧ Kd.oks ks = true ∧ Cans ks ∧ ∀ b ∈ Bns ks, b.length ≤ 50
  | [], _ => by ((try dsimp only [Kd.szs, Kd.hts, Kd.oks, Cans, Bns]) <;> simp)
  | k :: ks, h => by
    obtain ⟨a, b, c, d, e⟩ := gen_szs (ks := ks) fun q hq => h q (List.mem_cons_of_mem _ hq)
    have hk := h k (by simp)
    have h1 := hk.sz
    have h2 := hk.ht
    refine ⟨by ((try dsimp only [Kd.szs]) <;> simp only [List.length_cons, Nat.add_mul]); lia, by dsimp only [Kd.hts]; lia, by ((try dsimp only [Kd.oks]) <;> simp [hk.ok, c]), ⟨hk.can, d⟩, fun b hb => ?_⟩
    rcases List.mem_append.mp hb with hb | hb
    · exact hk.bl b hb
    · exact e b hb
theorem gen_union {S H : Nat} {ks : List Kd} (h : ∀ k ∈ ks, Gen S H k) (hn : ks ≠ []) : Gen (1 + ks.length * S) (H + 1) (unionOf ks) := by
  obtain ⟨a, b, c, d, e⟩ := gen_szs h
  have h1 := unionOf_sz ks
  have h2 := unionOf_ht ks
  refine ⟨unionOf_can d hn, unionOf_ok c, by lia, by lia, ?_⟩
  refine unionOf_all (P := fun k => ∀ b ∈ Bn k, b.length ≤ 50) (fun q hq => ?_) (fun l hl b hb => ?_) (by ((try dsimp only [anyK, Bn, Bns]) <;> simp)) (by ((try dsimp only [Bn]) <;> simp))
  · obtain ⟨k, hk, hq⟩ := flats_mem.mp hq
    have hg := h k hk
    by_cases hu : isUni k = true
    · cases k with
      | uni ps =>
        rw [flat_uni hg.can] at hq
        exact fun b hb => hg.bl b (Bns_mem hq hb)
      | _ => ((try dsimp only [isUni] at hu) <;> simp at hu)
    · rw [flat_other (by simpa using hu) (can_nb hg.can)] at hq
      simp at hq; subst hq; exact hg.bl
  · ((try dsimp only [Bn] at hb) <;> simp only [Bns_eq, List.mem_flatMap] at hb)
    obtain ⟨q, hq, hb⟩ := hb
    exact hl q hq b hb
theorem gen_name {S H : Nat} {ks : List Kd} (h : ∀ k ∈ ks, Gen S H k) {x : Str} (hx : nmOk x = true) : Gen (1 + ks.length * S) (H + 1) (.name x ks) := by
  obtain ⟨a, b, c, d, e⟩ := gen_szs h
  exact ⟨d, by ((try dsimp only [Kd.ok]) <;> simp [hx, c]), by dsimp only [Kd.sz]; lia, by dsimp only [Kd.ht]; lia, e⟩
theorem gen_allT {S H : Nat} {l : List Nat} {zs : List PyData} {s s' : Int × Int} (h : AllT (fun ζ y ζ s' => (∃ k, y = Kd.dat k ∧ Gen S H k) ∧ Flk s'.1 s'.2) l zs s s') (hs : Flk s.1 s.2) :
    ∃ ks : List Kd, zs = ks.map Kd.dat ∧ ks.length = l.length ∧ (∀ k ∈ ks, Gen S H k) ∧ Flk s'.1 s'.2 := by
  induction h with
  | nil => exact ⟨[], rfl, rfl, by simp, hs⟩
  | cons h1 _ ih =>
    obtain ⟨⟨k, rfl, hk⟩, hf⟩ := h1
    obtain ⟨ks, rfl, hl, hg, hf'⟩ := ih hf
    exact ⟨k :: ks, rfl, by simp [hl], fun q hq => (by rcases List.mem_cons.mp hq with rfl | hq; exact hk; exact hg q hq), hf'⟩
theorem lits_nm : nmOk (so "Int64") = true ∧ nmOk (so "Real") = true ∧ nmOk (so "Any") = true ∧ nmOk (so "Pair") = true ∧ nmOk (so "T.1") = true ∧ nmOk (so "S.2") = true ∧ nmOk (so "F.1") = true ∧ nmOk (so "G.2") = true ∧ nmOk (so "T.7") = true := by decide +kernel
theorem lits_len : (so "T.1").length = 3 ∧ (so "S.2").length = 3 ∧ (so "F.1").length = 3 ∧ (so "G.2").length = 3 ∧ (so "T.7").length = 3 := by decide +kernel
section
variable {c : Cx} {st : List (Str × Sl)} {ob : List Ob} {K : Sl → List Ob → Prop} {p0 p1 p2 p3 p4 p5 p6 : Pos} {k0 : Nat}
/-- `_law_sip(flask, m)` -/
theorem Ev.sip {scope : Scope} {p q : Int} {l : List Str} {r : List Ob} (m : Nat) (G : Gs c.g) (kn : Kn c scope) (hx : scope.names.lookup (Str.ofString "_law_sip") = some .globalImplicit) (hA : Ok c.A 2) (h1 : st.lookup (Str.ofString "flask") = some (.obj 0))
    (hf : Flk p q) (hm : c.n₀ ≤ 0 ∨ 0 ∈ c.mu) (hm1 : 1 ≤ m) (hm2 : m ≤ 100) (k : ∀ w p' q', w < m → Flk p' q' → K (.dat (.int (w : Nat))) (genL p' q' l ++ r)) :
    Ev c (.Call (.Name (Str.ofString "_law_sip") p0) [.Name (Str.ofString "flask") p1, .Constant (.int (m : Int)) k0 p2] [] p3) st (genL p q l ++ r) K := by
  refine Ev.gF G kn hx (fun ζ => rfl) (fun ζ => rfl) rfl ?_
  refine Evs.cons (Ev.name h1 (Evs.cons (Ev.intC (Evs.nil ?_))))
  refine On.callC (args := [.obj 0, .dat (.int m)]) [0] (sip_spec G p q m hf hm1 hm2) hA rfl rfl (by simp) (by simpa using hm) ?_
  rintro r ob' _ ⟨w, p', q', rfl, rfl, hw, hf'⟩
  exact k w p' q' hw hf'
/-- `_law_kind(flask, deep - 1, names)` -/
theorem Ev.genRec {scope : Scope} {p q : Int} {l : List Str} {r : List Ob} {d : Nat} (G : Gs c.g) (kn : Kn c scope) (hx : scope.names.lookup (Str.ofString "_law_kind") = some .globalImplicit) (hA : Ok c.A (10 * d + 250)) (hI : GenC c.g d)
    (h1 : st.lookup (Str.ofString "flask") = some (.obj 0)) (h2 : st.lookup (Str.ofString "deep") = some (.dat (.int ((d + 1 : Nat) : Int)))) (h3 : st.lookup (Str.ofString "names") = some (.obj 1))
    (hf : Flk p q) (hl : NmsOk l) (hll : l.length + d ≤ 12) (hm : c.n₀ ≤ 0 ∨ 0 ∈ c.mu) (k : ∀ kd p' q', Gen (szd d) (d + 1) kd → Flk p' q' → K (.dat (Kd.dat kd)) (genL p' q' l ++ r)) :
    Ev c (.Call (.Name (Str.ofString "_law_kind") p0) [.Name (Str.ofString "flask") p1, .BinOp (.Name (Str.ofString "deep") p2) .Sub (.Constant (.int 1) k0 p3) p4, .Name (Str.ofString "names") p5] [] p6) st (genL p q l ++ r) K := by
  refine Ev.gF G kn hx (fun ζ => rfl) (fun ζ => rfl) rfl ?_
  refine Evs.cons (Ev.name h1 (Evs.cons (Ev.bin (Ev.name h2 (Ev.intC (O2.subI ?_))))))
  have e : ((d + 1 : Nat) : Int) - 1 = (d : Int) := by lia
  rw [e]
  refine Evs.cons (Ev.name h3 (Evs.nil ?_))
  refine On.callC (args := [.obj 0, .dat (.int d), .obj 1]) [0, 1] (hI p q l hf hl hll) hA rfl rfl (by simp) (by simpa using hm) ?_
  rintro r ob' _ ⟨kd, p', q', rfl, rfl, hf', hg⟩
  exact k kd p' q' hg hf'
/-- the comprehensions of kinds -/
theorem gen_turns {scope : Scope} {p q : Int} {l : List Str} {e n : Nat} {K : List PyData → List Ob → Prop} (G : Gs c.g) (hx : scope.names.lookup (Str.ofString "_law_kind") = some .globalImplicit) (hA : Ok c.A (10 * e + 250)) (hI : GenC c.g e)
    (hf : Flk p q) (hl : NmsOk l) (hll : l.length + e ≤ 12) (hn : n ≤ 100) (k : ∀ (ks : List Kd) p' q', ks.length = n → (∀ kd ∈ ks, Gen (szd e) (e + 1) kd) → Flk p' q' → K (ks.map Kd.dat) (genL p' q' l)) :
    Turns (fun c' => Inner c c' scope [0] 2) (emit1 (.Call (.Name (Str.ofString "_law_kind") p0) [.Name (Str.ofString "flask") p1, .BinOp (.Name (Str.ofString "deep") p2) .Sub (.Constant (.int 1) k0 p3) p4, .Name (Str.ofString "names") p5] [] p6)) [] (fun d => [(Str.ofString "turn", Sl.dat d)])
      [(Str.ofString "flask", .obj 0), (Str.ofString "deep", .dat (.int ((e + 1 : Nat) : Int))), (Str.ofString "names", .obj 1)] 2 K (upto n) [] (genL p q l) := by
  refine Turns.thr (α := Nat) (σ := Int × Int) (fun i => .int (i : Int)) (fun ζ y ζ s' => (∃ k, y = Kd.dat k ∧ Gen (szd e) (e + 1) k) ∧ Flk s'.1 s'.2) (fun s => genL s.1 s.2 l) (fun s ζ => Flk s.1 s.2) (fun ζ => rfl) (fun c' hc => hc.le) ?_ (List.range n) (p, q) [] (by simp; lia) hf ?_
  · intro a l' s c' ys hfs hc
    have G' : Gs c'.g := hc.g ▸ G
    have hA' : Ok c'.A (10 * e + 250) := hc.A ▸ hA
    have hI' : GenC c'.g e := hc.g ▸ hI
    have hmu' := hc.mu
    refine Ev.genRec (r := [.list ys]) G' hc.kn hx hA' hI' rfl rfl rfl hfs hl hll (.inr (by rw [hmu']; simp)) fun kd p' q' hg hf' => ?_
    exact ⟨_, (p', q'), [], rfl, ⟨⟨kd, rfl, hg⟩, hf'⟩, hf', by simp⟩
  · intro zs s' hz
    obtain ⟨ks, rfl, hlen, hg, hf'⟩ := gen_allT hz hf
    exact k ks s'.1 s'.2 (by simpa using hlen) hg hf'
end
noncomputable def lit3 : List Str := [so "Int64", so "Real", so "Any"]
theorem lit3_ok : ∀ x ∈ lit3, nmOk x = true := by decide +kernel
noncomputable def bnd3 : List Str := [so "T.1", so "S.2", so "F.1"]
theorem bnd3_ok : ∀ x ∈ bnd3, nmOk x = true ∧ x.length ≤ 50 := by decide +kernel
noncomputable def gst (w : Nat) (d : Nat) : List (Str × Sl) := [(Str.ofString "way", Sl.dat (.int w)), (Str.ofString "flask", .obj 0), (Str.ofString "deep", .dat (.int d)), (Str.ofString "names", .obj 1)]
inductive GK1 (d : Nat) (l : List Str) (fl : Fl) (st1 : List (Str × Sl)) (ob1 : List Ob) : Prop
  | mk (h : fl = .nx) (w : Nat) (p q : Int) (e : st1 = gst w d) (e2 : ob1 = genL p q l) (f : Flk p q) (hw : w < 8) (hd : d = 0 → w < 3)
inductive GK2 (w e : Nat) (l : List Str) (fl : Fl) (st1 : List (Str × Sl)) (ob1 : List Ob) : Prop
  | mk (h : fl = .nx) (x : PyData) (p q : Int) (e1 : st1 = (Str.ofString "rest", .dat x) :: gst w (e + 1)) (e2 : ob1 = genL p q l) (f : Flk p q) (hx : x = .none ∨ ∃ kd, x = Kd.dat kd ∧ Gen (szd e) (e + 1) kd)
inductive GK3 (w e : Nat) (l : List Str) (fl : Fl) (st1 : List (Str × Sl)) (ob1 : List Ob) : Prop
  | mk (h : fl = .nx) (lo : Kd) (p q : Int) (e1 : st1 = (Str.ofString "lower", .dat lo.dat) :: gst w (e + 1)) (e2 : ob1 = genL p q l) (f : Flk p q) (h1 : lo.ok = true) (h2 : lo.sz ≤ 1) (h3 : lo.ht ≤ 1) (h4 : lo = .bottom ∨ Can lo) (h5 : ∀ b ∈ Bn lo, b.length ≤ 50)
theorem gen_step {g : Gx} (G : Gs g) {d : Nat} (hI : ∀ m, m < d → GenC g m) (hd2 : d ≤ 2) : GenC g d := by
  intro p q l hf hl hlen
  refine Call.enter G (fun ζ => rfl) (fun ζ => rfl) (fun ζ => ⟨rfl, rfl, rfl, rfl, rfl, rfl⟩) _ _ (fun ζ => rfl) (fun ζ => rfl) (names := [Str.ofString "flask", Str.ofString "deep", Str.ofString "names"]) ?_ (by decide) rfl ?_
  · intro P vs h
    obtain ⟨a, b, c, rfl⟩ := lenThree h
    rfl
  intro c hg hA kn hw h0 hmu
  have G0 := G
  subst hg
  have hz := szd_pos d
  have hm0 : c.n₀ ≤ 0 ∨ 0 ∈ c.mu := .inr (by rw [hmu]; simp)
  refine Exs.cons ((Ex.assign (K := GK1 d l) ?_ (Kn.stores ‹_› (.inl rfl)) rfl).mono ?_)
  · refine Ev.ite (Et.cmp (Ev.name rfl (Ev.intC (O2.gtI ⟨_, rfl, ?_⟩))))
    by_cases hd : 0 < d
    · refine ifT (by simpa using hd) ?_
      exact Ev.sip (r := []) 8 G kn rfl (hA.le (szs rfl)) rfl hf hm0 (by decide) (by decide) fun w p' q' hw hf' => ⟨rfl, w, p', q', rfl, rfl, hf', hw, fun e => by lia⟩
    · refine ifF (by simpa using hd) ?_
      exact Ev.sip (r := []) 3 G kn rfl (hA.le (szs rfl)) rfl hf hm0 (by decide) (by decide) fun w p' q' hw hf' => ⟨rfl, w, p', q', rfl, rfl, hf', by lia, fun ζ => hw⟩
  clear hf
  rintro fl st1 ob1 ⟨rfl, w, p, q, rfl, rfl, hf, hw8, hw3⟩
  refine thenDo.nx (Exs.cons (Ex.ite (Et.cmp (Ev.name rfl (Ev.intC (O2.ltI ⟨_, rfl, ?_⟩))))))
  by_cases hw2 : w < 2
  · refine ifT (by simp; lia) ?_
    refine Exs.cons (Ex.ret (Ev.tup rfl (Evs.cons (Ev.strC (Evs.cons (Ev.sub (Ev.name rfl ?_)))))))
    refine Ev.gF ‹_› ‹_› rfl (fun ζ => rfl) (fun ζ => rfl) rfl ?_
    refine Evs.cons (Ev.name rfl (Evs.cons ?_))
    refine Ev.gB ‹_› ‹_› rfl (fun ζ => rfl) rfl (by decide) rfl ?_
    refine Evs.cons (Ev.name rfl (Evs.nil (On.lenL (xs := l.map .str) rfl (by simp; lia) (Evs.nil ?_))))
    have hlp : 0 < l.length := List.length_pos_iff.mpr hl.ne
    refine On.callC (args := [.obj 0, .dat (.int ((l.map PyData.str).length : Nat))]) [0] (sip_spec G p q _ hf (by simp; lia) (by simp; lia)) (hA.le (szs rfl)) rfl rfl (by simp) (by simp [hmu]) ?_
    rintro r ob' _ ⟨i, p', q', rfl, rfl, hi, hf'⟩
    have hi : i < l.length := by simpa using hi
    refine O2.subList (xs := l.map .str) (x := .str l[i]) rfl (by lia) (by lia) (by simp [hi]) ?_
    refine Evs.nil ⟨_, rfl, by simp, ?_⟩
    have hx := hl.ok l[i] (by simp)
    exact ⟨.var l[i], p', q', rfl, rfl, hf', trivial, hx.1, by dsimp only [Kd.sz]; simpa using hz, by ((try dsimp only [Kd.ht]) <;> simp), by ((try dsimp only [Bn]) <;> simp)⟩
  refine ifF (by simp; lia) ?_
  refine Exs.nil (thenDo.nx (Exs.cons (Ex.ite (Et.cmp (Ev.name rfl (Ev.intC (O2.eqI ⟨_, rfl, ?_⟩)))))))
  by_cases hw' : w = 2
  · refine ifT (by simp; lia) ?_
    refine Exs.cons (Ex.ret (Ev.tup rfl (Evs.cons (Ev.strC (Evs.cons (Ev.sub ?_))))))
    refine Ev.lst rfl (Evs.cons (Ev.strC (Evs.cons (Ev.strC (Evs.cons (Ev.strC (Evs.nil ⟨lit3.map .str, rfl, by ((try dsimp only [lit3]) <;> simp), ?_⟩)))))))
    refine Ev.sip (r := [.list (lit3.map .str)]) 3 G kn rfl (hA.le (szs rfl)) rfl hf hm0 (by decide) (by decide) fun i p' q' hi hf' => ?_
    have hi3 : i < lit3.length := hi
    refine O2.subList (xs := lit3.map .str) (x := .str lit3[i]) rfl (by lia) (by lia) (by simp [hi3]) ?_
    refine Evs.cons (Ev.tup rfl (Evs.nil ⟨[], rfl, by simp, Evs.nil ⟨_, rfl, by simp, ?_⟩⟩))
    exact ⟨.name lit3[i] [], p', q', rfl, rfl, hf', trivial, by ((try dsimp only [Kd.ok, Kd.oks]) <;> simp [lit3_ok lit3[i] (by simp)]), by dsimp only [Kd.sz, Kd.szs]; simpa using hz, by ((try dsimp only [Kd.ht, Kd.hts]) <;> simp), by ((try dsimp only [Bn, Bns]) <;> simp)⟩
  refine ifF (by simp; lia) ?_
  obtain ⟨e, rfl⟩ : ∃ e, d = e + 1 := ⟨d - 1, by by_cases h : d = 0; have := hw3 h; lia; lia⟩
  have hIe := hI e (by lia)
  have hze := szd_pos e
  have hzs : szd (e + 1) = 2 * szd e + 2 := rfl
  have hz4 : szd e ≤ 4 := by
    rcases (by lia : e = 0 ∨ e = 1) with rfl | rfl <;> decide
  have hll : l.length + e ≤ 12 := by lia
  have hAe : Ok c.A (10 * e + 250) := hA.le (by lia)
  have fst : ∀ p ∈ [(Str.ofString "flask", Sl.obj 0), (Str.ofString "deep", Sl.dat (.int ((e + 1 : Nat) : Int))), (Str.ofString "names", Sl.obj 1)], (gst w (e + 1)).lookup p.1 = some p.2 := by
    intro p hp
    simp only [List.mem_cons, List.not_mem_nil, or_false] at hp
    rcases hp with rfl | rfl | rfl <;> rfl
  refine Exs.nil (thenDo.nx (Exs.cons (Ex.ite (Et.cmp (Ev.name rfl (Ev.intC (O2.eqI ⟨_, rfl, ?_⟩)))))))
  by_cases hw3' : w = 3
  · refine ifT (by simp; lia) ?_
    refine Exs.cons (Ex.ret (Ev.tup rfl (Evs.cons (Ev.strC (Evs.cons (Ev.strC (Evs.cons ?_)))))))
    refine Ev.gT ‹_› ‹_› rfl (fun ζ => rfl) rfl (by decide) rfl ?_
    refine Evs.cons (Ev.comp [(Str.ofString "flask", .obj 0), (Str.ofString "deep", .dat (.int ((e + 1 : Nat) : Int))), (Str.ofString "names", .obj 1)] loopOk_one kn hA.hd rfl ?_ (fun ζ => rfl) ?_)
    · intro p hp
      refine ⟨fst p hp, ?_⟩
      simp only [List.mem_cons, List.not_mem_nil, or_false] at hp
      rcases hp with rfl | rfl | rfl <;> exact ⟨rfl, by simp⟩
    refine It.callT G.toGd kn rfl (by rw [G.hK]; rfl) rfl (by decide) rfl (Evs.cons (Ev.bin (Ev.intC ?_)))
    refine Ev.sip (r := []) 2 G kn rfl (hA.le (szs rfl)) rfl hf hm0 (by decide) (by decide) fun n p' q' hn hf' => O2.addI ?_
    have e1 : (1 : Int) + (n : Int) = ((n + 1 : Nat) : Int) := by lia
    rw [e1]
    refine Evs.nil (OnI.range (n := n + 1) hA.hd (by lia) ?_)
    refine ⟨[0], fun d => [(Str.ofString "turn", Sl.dat d)], by simpa using hm0, by simp, ?_, ?_, ?_⟩
    · intro c' hc d hd
      exact Asg.name (hc.kn.stores (.inl rfl))
    · intro d hd p hp
      simp only [List.mem_singleton] at hp
      subst hp; rfl
    refine gen_turns G rfl hAe hIe hf' hl hll (by lia) fun ks p'' q'' hlen hg hf'' => ?_
    refine Evs.nil (On.tupleL (xs := ks.map Kd.dat) rfl (by simp; lia) ?_)
    refine Evs.nil ⟨_, rfl, by simp, ?_⟩
    have := gen_name hg lits_nm.2.2.2.1
    refine ⟨.name (so "Pair") ks, p'', q'', by ((try dsimp only [Kd.dat]) <;> simp [Kd.dats_eq]), rfl, hf'', this.le ?_ (by lia)⟩
    rw [hzs, hlen]
    rcases (by lia : n = 0 ∨ n = 1) with rfl | rfl <;> lia
  refine ifF (by simp; lia) ?_
  refine Exs.nil (thenDo.nx (Exs.cons (Ex.ite (Et.cmp (Ev.name rfl (Ev.intC (O2.eqI ⟨_, rfl, ?_⟩)))))))
  by_cases hw4 : w = 4
  · refine ifT (by simp; lia) ?_
    refine Exs.cons ((Ex.assign (K := GK2 w e l) ?_ (Kn.stores ‹_› (.inl rfl)) rfl).mono ?_)
    · refine Ev.ite (Et.cmp ?_)
      refine Ev.sip (r := []) 2 G kn rfl (hA.le (szs rfl)) rfl hf hm0 (by decide) (by decide) fun n p' q' hn hf' => Ev.intC (O2.eqI ⟨_, rfl, ?_⟩)
      refine ifS (fun ζ => ?_) fun ζ => ?_
      · exact Ev.genRec (r := []) G kn rfl hAe hIe rfl rfl rfl hf' hl hll hm0 fun kd p' q' hg hf' => ⟨rfl, _, p', q', rfl, rfl, hf', .inr ⟨kd, rfl, hg⟩⟩
      · exact Ev.noneC ⟨rfl, _, p', q', rfl, rfl, hf', .inl rfl⟩
    clear hf
    rintro fl st1 ob1 ⟨rfl, x, p, q, rfl, rfl, hf, hx⟩
    refine thenDo.nx (Exs.cons (Ex.ret (Ev.tup rfl (Evs.cons (Ev.strC (Evs.cons (Ev.tup rfl (Evs.cons ?_))))))))
    refine Ev.genRec (r := []) G kn rfl hAe hIe rfl rfl rfl hf hl hll hm0 fun kd p' q' hg hf' => ?_
    refine Evs.nil ⟨_, rfl, by simp, Evs.cons (Ev.name rfl (Evs.nil ⟨_, rfl, by simp, ?_⟩))⟩
    have g1 := hg.sz
    have g2 := hg.ht
    rcases hx with rfl | ⟨kd2, rfl, hg2⟩
    · exact ⟨.tup kd, p', q', rfl, rfl, hf', hg.can, hg.ok, by dsimp only [Kd.sz]; lia, by dsimp only [Kd.ht]; lia, hg.bl⟩
    · have g3 := hg2.sz
      have g4 := hg2.ht
      refine ⟨.tupv kd kd2, p', q', rfl, rfl, hf', ⟨hg.can, hg2.can⟩, by ((try dsimp only [Kd.ok]) <;> simp [hg.ok, hg2.ok]), by dsimp only [Kd.sz]; lia, by dsimp only [Kd.ht]; lia, fun b hb => ?_⟩
      rcases List.mem_append.mp hb with hb | hb
      · exact hg.bl b hb
      · exact hg2.bl b hb
  refine ifF (by simp; lia) ?_
  refine Exs.nil (thenDo.nx (Exs.cons (Ex.ite (Et.cmp (Ev.name rfl (Ev.intC (O2.eqI ⟨_, rfl, ?_⟩)))))))
  by_cases hw5 : w = 5
  · refine ifT (by simp; lia) ?_
    refine Exs.cons (Ex.ret ?_)
    refine Ev.gF ‹_› ‹_› rfl (fun ζ => rfl) (fun ζ => rfl) rfl ?_
    refine Evs.cons (Ev.comp [(Str.ofString "flask", .obj 0), (Str.ofString "deep", .dat (.int ((e + 1 : Nat) : Int))), (Str.ofString "names", .obj 1)] loopOk_one kn hA.hd rfl ?_ (fun ζ => rfl) ?_)
    · intro p hp
      refine ⟨fst p hp, ?_⟩
      simp only [List.mem_cons, List.not_mem_nil, or_false] at hp
      rcases hp with rfl | rfl | rfl <;> exact ⟨rfl, by simp⟩
    refine It.callT G.toGd kn rfl (by rw [G.hK]; rfl) rfl (by decide) rfl (Evs.cons (Ev.intC ?_))
    refine Evs.nil (OnI.range (n := 2) hA.hd (szs rfl) ?_)
    refine ⟨[0], fun d => [(Str.ofString "turn", Sl.dat d)], by simpa using hm0, by simp, ?_, ?_, ?_⟩
    · intro c' hc d hd
      exact Asg.name (hc.kn.stores (.inl rfl))
    · intro d hd p hp
      simp only [List.mem_singleton] at hp
      subst hp; rfl
    refine gen_turns G rfl hAe hIe hf hl hll (szs rfl) fun ks p'' q'' hlen hg hf'' => ?_
    obtain ⟨s1, s2, s3, s4, s5⟩ := gen_szs hg
    have hks : ks ≠ [] := by rintro rfl; simp at hlen
    rw [hlen] at s1
    refine Evs.nil (On.callZ (args := [.obj 0]) [2] (union_spec G ks ⟨s3, by lia, by lia⟩) (hA.le (szs rfl)) rfl rfl (by simp) (by simp) ?_)
    have := gen_union hg hks
    exact ⟨unionOf ks, p'', q'', rfl, rfl, hf'', this.le (by rw [hlen]; lia) (by lia)⟩
  refine ifF (by simp; lia) ?_
  refine Exs.nil (thenDo.nx (Exs.cons (Ex.ite (Et.cmp (Ev.name rfl (Ev.intC (O2.eqI ⟨_, rfl, ?_⟩)))))))
  by_cases hw6 : w = 6
  · refine ifT (by simp; lia) ?_
    refine Exs.cons (Ex.ret (Ev.tup rfl (Evs.cons (Ev.strC (Evs.cons ?_)))))
    refine Ev.genRec (r := []) G kn rfl hAe hIe rfl rfl rfl hf hl hll hm0 fun kd p' q' hg hf' => ?_
    refine Evs.nil ⟨_, rfl, by simp, ?_⟩
    have g1 := hg.sz
    have g2 := hg.ht
    exact ⟨.typeof kd, p', q', rfl, rfl, hf', hg.can, hg.ok, by dsimp only [Kd.sz]; lia, by dsimp only [Kd.ht]; lia, hg.bl⟩
  refine ifF (by simp; lia) ?_
  refine Exs.nil (thenDo.nx (Exs.cons ((Ex.assign (K := GK3 w e l) ?_ (Kn.stores ‹_› (.inl rfl)) rfl).mono ?_)))
  · refine Ev.ite (Et.cmp ?_)
    refine Ev.sip (r := []) 2 G kn rfl (hA.le (szs rfl)) rfl hf hm0 (by decide) (by decide) fun n p' q' hn hf' => Ev.intC (O2.eqI ⟨_, rfl, ?_⟩)
    refine ifS (fun ζ => ?_) fun ζ => ?_
    · exact Ev.bot G kn rfl ⟨rfl, .bottom, p', q', rfl, rfl, hf', rfl, Nat.le_refl _, Nat.le_refl _, .inl rfl, by ((try dsimp only [Bn]) <;> simp)⟩
    · refine Ev.gF ‹_› ‹_› rfl (fun ζ => rfl) (fun ζ => rfl) rfl ?_
      refine Evs.cons (Ev.name rfl (Evs.cons (Ev.intC (Evs.cons (Ev.name rfl (Evs.nil ?_))))))
      refine On.callC (args := [.obj 0, .dat (.int ((0 : Nat) : Int)), .obj 1]) [0, 1] (hI 0 (szs rfl) p' q' l hf' hl (by lia)) (hA.le (szs rfl)) rfl rfl (by simp) (by simpa using hm0) ?_
      rintro r ob' _ ⟨kd, p'', q'', rfl, rfl, hf'', hg⟩
      exact ⟨rfl, kd, p'', q'', rfl, rfl, hf'', hg.ok, hg.sz, hg.ht, .inr hg.can, hg.bl⟩
  clear hf
  rintro fl st1 ob1 ⟨rfl, lo, p, q, rfl, rfl, hf, lo1, lo2, lo3, lo4, lo5⟩
  refine thenDo.nx (Exs.cons ?_)
  first
    | refine Ex.twoS kn hA.hd ⟨rfl, rfl⟩ (Kn.stores ‹_› (.inl rfl)) (Kn.stores ‹_› (.inl rfl)) rfl ?_
  refine Ev.sub (Ev.lst rfl (Evs.cons (Ev.strC (Evs.cons (Ev.strC (Evs.cons (Ev.strC (Evs.nil ⟨bnd3.map .str, rfl, by ((try dsimp only [bnd3]) <;> simp), ?_⟩))))))))
  refine Ev.sip (r := [.list (bnd3.map .str)]) 3 G kn rfl (hA.le (szs rfl)) rfl hf hm0 (by decide) (by decide) fun i p' q' hi hf' => ?_
  have hi3 : i < bnd3.length := hi
  refine O2.subList (xs := bnd3.map .str) (x := .str bnd3[i]) rfl (by lia) (by lia) (by simp [hi3]) ?_
  have hx := bnd3_ok bnd3[i] (by simp)
  generalize bnd3[i] = x at hx
  refine Ev.genRec (r := [.list (bnd3.map .str)]) G kn rfl hAe hIe rfl rfl rfl hf' hl hll hm0 fun up p'' q'' hg hf'' => ?_
  refine thenDo.nx (Exs.cons (Ex.ret (Ev.tup rfl (Evs.cons (Ev.strC (Evs.cons (Ev.name rfl (Evs.cons (Ev.name rfl (Evs.cons (Ev.name rfl (Evs.cons ?_))))))))))))
  refine Ev.gF ‹_› ‹_› rfl (fun ζ => rfl) (fun ζ => rfl) rfl ?_
  refine Evs.cons (Ev.name rfl (Evs.cons (Ev.bin (Ev.name rfl (Ev.intC (O2.subI ?_))))))
  have e1 : ((e + 1 : Nat) : Int) - 1 = (e : Int) := by lia
  rw [e1]
  refine Evs.cons (Ev.bin (Ev.name rfl (Ev.lst rfl (Evs.cons (Ev.name rfl (Evs.nil ⟨_, rfl, by simp, O2.addL (xs := l.map .str) (ys := [.str x]) rfl rfl (by simp; lia) (Evs.nil ?_)⟩))))))
  have hl' : NmsOk (l ++ [x]) := ⟨fun y hy => by
    rcases List.mem_append.mp hy with hy | hy
    · exact hl.ok y hy
    · simp at hy; subst hy; exact hx, by simp⟩
  refine On.callC (args := [.obj 0, .dat (.int (e : Nat)), .obj 1]) [0, 4] (hIe p'' q'' (l ++ [x]) hf'' hl' (by simp; lia)) hAe rfl (by ((try dsimp only [at?, genL]) <;> simp)) (by simp) (by simpa using hm0) ?_
  rintro r ob' _ ⟨bd, p3, q3, rfl, rfl, hf3, hg3⟩
  refine Evs.nil ⟨_, rfl, by simp, ?_⟩
  have g1 := hg.sz
  have g2 := hg.ht
  have g3 := hg3.sz
  have g4 := hg3.ht
  refine ⟨.all x lo up bd, p3, q3, rfl, by ((try dsimp only [genL, slotOf, upd]) <;> simp), hf3, ⟨lo4, hg.can, hg3.can⟩, by ((try dsimp only [Kd.ok]) <;> simp [hx.1, lo1, hg.ok, hg3.ok]), by dsimp only [Kd.sz]; lia, by dsimp only [Kd.ht]; lia, fun b hb => ?_⟩
  ((try dsimp only [Bn] at hb) <;> simp only [List.mem_cons, List.mem_append] at hb)
  rcases hb with rfl | hb | hb | hb
  · exact hx.2
  · exact lo5 b hb
  · exact hg.bl b hb
  · exact hg3.bl b hb
theorem gen_spec {g : Gx} (G : Gs g) : ∀ d, d ≤ 2 → GenC g d := fun d => by
  induction d using Nat.strongRecOn with
  | ind d ih => exact fun h => gen_step G (fun m hm => ih m hm (by lia)) h
end
/-! P16 -/
section
theorem fo_tup (f : Fo) : ∃ ys, f.dat = .tuple ys := by obtain ⟨r, hr⟩ := f.dat_word; exact ⟨_, hr⟩
theorem fo_mem {f : Fo} {l : List Fo} : f.dat ∈ l.map Fo.dat ↔ f ∈ l := by
  rw [List.mem_map]
  constructor
  · rintro ⟨g, hg, e⟩; rw [← Fo.dat_inj _ _ e]; exact hg
  · exact fun h => ⟨f, h, rfl⟩
theorem fo_okDs {l : List Fo} (h : ∀ f ∈ l, f.good = true) : okD.okDs (l.map Fo.dat) = true := okDs_of fun y m => by
  obtain ⟨f, hf, rfl⟩ := List.mem_map.mp m
  exact (Fo.facts f (h f hf)).2
/-- lists of forms that the law joins -/
structure JnIn (fs : List Fo) : Prop where
  good : Fo.goods fs = true
  sz : Fo.szs fs ≤ 60
  ht : Fo.hts fs ≤ 25
  ne : fs.flatMap flF ≠ []
theorem botF_dat : Fo.bottom.dat = .tuple [.str (Str.ofString "bottom")] := rfl
theorem anyF_dat : anyF.dat = .tuple [.str (Str.ofString "name"), .str (Str.ofString "Any"), .tuple []] := rfl
theorem O2.subF0 {c : Cx} {st : List (Str × Sl)} {ob : List Ob} {K : Sl → List Ob → Prop} {f : Fo} {value slice : Expr} (kk : K (.dat (.str (wordAt f.word))) ob) : O2 c (subscriptTail value slice) (.dat f.dat) (.dat (.int 0)) st ob K := by
  cases f <;> exact O2.subTup (by decide) (by decide) rfl rfl kk
theorem gapp {α : Type} {l : List α} {i : Nat} {a : α} (m : List α) (e : l[i]? = some a) : (l ++ m)[i]? = some a := by
  rw [List.getElem?_append_left (List.getElem?_eq_some_iff.mp e).1]; exact e
open Classical in
theorem jn_test {p1 p2 p3 p4 p5 : Pos} {k0 k1 : Nat} {f : Fo} (hg : f.good = true) (hgh : f.ht ≤ 25) {c2 : Cx} {obx : List Ob} {ys : List PyData} (hA2 : Ok c2.A 0) :
    Et c2 (.Compare (.Name (Str.ofString "one") p1) [.NotEq] [.Tuple [.Constant (.str (Str.ofString "bottom")) k0 p2] k1 p3] p4) ([(Str.ofString "one", Sl.dat f.dat)] ++ []) (obx ++ [.list ys]) fun b ob2 =>
      b = decide (f ≠ Fo.bottom) ∧ ∃ gb, ob2 = (obx ++ [.list ys]) ++ gb ∧ (b = true → Ev c2 (.Name (Str.ofString "one") p5) ([(Str.ofString "one", Sl.dat f.dat)] ++ []) ((obx ++ [.list ys]) ++ gb) fun v ob3 => v = .dat f.dat ∧ ob3 = (obx ++ [.list ys]) ++ gb) := by
  have hF := Fo.facts f hg
  have hD := hF.1.d
  refine Et.cmp (Ev.name rfl (Ev.tup rfl (Evs.cons (Ev.strC (Evs.nil ⟨_, rfl, by simp, ?_⟩)))))
  refine O2.neD hA2 hF.2 (by simp [okD, okD.okDs, okW]) (by lia) (by simp [PyData.depth, PyData.depthAll]) ⟨_, rfl, ?_⟩
  refine ⟨?_, [], by simp, fun ζ => Ev.name rfl ⟨rfl, by simp⟩⟩
  by_cases e : f = Fo.bottom
  · subst e; simp [botF_dat]
  · have : f.dat ≠ .tuple [.str (Str.ofString "bottom")] := fun q => e (Fo.dat_inj _ _ (q.trans botF_dat.symm))
    simp [e, this]
open Classical in
theorem filt_one {f : Fo} (hu : ¬f.word = 4) : ([f].filter fun g => decide (g ≠ Fo.bottom)) = flF f := by
  cases f <;> first | rfl | exact absurd rfl hu
open Classical in
theorem joined_spec {g : Gx} (G : Gs g) (fs : List Fo) (hi : JnIn fs) : Call g (.ref 165) [.obj 0] [.list (fs.map Fo.dat)] [] 20 (RetD ((joined fs).dat) [.list (fs.map Fo.dat)]) := by
  refine Call.enter G (fun ζ => rfl) (fun ζ => rfl) (fun ζ => ⟨rfl, rfl, rfl, rfl, rfl, rfl⟩) _ _ (fun ζ => rfl) (fun ζ => rfl) (names := [Str.ofString "forms"]) ?_ (by decide) rfl ?_
  · intro P vs h
    obtain ⟨a, rfl⟩ := lenOne h
    rfl
  intro c hg hA kn hw h0 hmu
  subst hg
  have hfl := flFs_szs fs
  have hls := Fo.szs_length (fs.flatMap flF)
  have hlf := Fo.szs_length fs
  have hsz := hi.sz
  have hgm : ∀ f ∈ fs.flatMap flF, f.good = true ∧ f.ht ≤ 25 ∧ f.sz ≤ 60 := fun f hf => by
    obtain ⟨g, hg, hf'⟩ := List.mem_flatMap.mp hf
    have h1 := flF_mem hf'
    have h2 := Fo.hts_mem hg
    have h3 := Fo.szs_mem hf
    have := hi.ht
    exact ⟨h1.2 (Fo.goods_iff.mp hi.good g hg), by lia, by lia⟩
  refine Exs.cons (Ex.assign (Ev.lst rfl (Evs.nil ⟨[], rfl, by simp, ?_⟩)) (Kn.stores ‹_› (.inr ⟨by assumption, rfl⟩)) rfl)
  refine thenDo.nx (Exs.cons ((Ex.for (K := fun fl st1 ob1 => fl = .nx ∧ ∃ i, st1.lookup (Str.ofString "flat") = some (.obj i) ∧ ob1[i]? = some (.list ((fs.flatMap flF).map Fo.dat)) ∧ ob1[0]? = some (.list (fs.map Fo.dat))) (fun ζ => rfl) ?_).mono ?_))
  · refine It.list hA.hd (Ev.name rfl ⟨0, _, rfl, rfl, by simp; lia, fun d => [(Str.ofString "form", Sl.dat d)], ?_, ?_, ?_⟩)
    · intro j hj; simp at hj; subst hj; exact ⟨by rw [h0]; simp, by rw [hmu]; simp⟩
    · intro c' hc d hd
      exact Asg.name ((hc.kn _ kn).stores (.inl rfl))
    refine ForTurns.inv Fo.dat (fun rest st ob => ∃ done i, fs = done ++ rest ∧ st = [(Str.ofString "flat", .obj i), (Str.ofString "forms", .obj 0)] ∧ ob[i]? = some (.list ((done.flatMap flF).map Fo.dat)) ∧ ob[0]? = some (.list (fs.map Fo.dat))) ?_ ?_ fs _ _ ⟨[], 1, rfl, rfl, rfl, rfl⟩
    · rintro f rest st ob c' ⟨done, i, hd, rfl, hob, hob0⟩ hc
      have kn' := hc.kn _ kn
      have G' : Gs c'.g := hc.g ▸ G
      have hA' : Ok c'.A 19 := hc.A ▸ hA
      have hw' : c'.wc = true := hc.wc ▸ hw
      have hn' : c'.n₀ ≤ ob.length := by
        rw [hc.n₀, h0]
        have := (List.getElem?_eq_some_iff.mp hob0).1
        simp; lia
      have hfm : f ∈ fs := by rw [hd]; simp
      have hfg := Fo.goods_iff.mp hi.good f hfm
      have hfs := Fo.szs_mem hfm
      have hfh := Fo.hts_mem hfm
      have hht := hi.ht
      have hlen : (done.flatMap flF).length + (flF f).length ≤ 60 := by
        have e : fs.flatMap flF = done.flatMap flF ++ (flF f ++ rest.flatMap flF) := by rw [hd, List.flatMap_append, List.flatMap_cons]
        have := congrArg List.length e
        rw [List.length_append, List.length_append] at this
        lia
      have fin : ∀ ext : List Ob, ∃ st' ob', Wk ob.length ((Str.ofString "flat", Sl.obj ((ob ++ ext) ++ [Ob.list ((flF f).map Fo.dat)]).length) :: ([(Str.ofString "form", Sl.dat f.dat)] ++ [(Str.ofString "flat", Sl.obj i), (Str.ofString "forms", Sl.obj 0)]))
          (((ob ++ ext) ++ [Ob.list ((flF f).map Fo.dat)]) ++ [Ob.list ((done.flatMap flF).map Fo.dat ++ (flF f).map Fo.dat)]) st' ob' ∧ ∃ done i, fs = done ++ rest ∧ st' = [(Str.ofString "flat", .obj i), (Str.ofString "forms", .obj 0)] ∧ ob'[i]? = some (.list ((done.flatMap flF).map Fo.dat)) ∧ ob'[0]? = some (.list (fs.map Fo.dat)) := fun ext => by
        refine ⟨_, _, ⟨?_, ⟨[], (List.append_nil _).symm⟩, ?_⟩, done ++ [f], ((ob ++ ext) ++ [Ob.list ((flF f).map Fo.dat)]).length, by rw [hd]; simp, rfl, ?_, ?_⟩
        · simp only [List.length_append]; lia
        · intro p hp
          simp only [List.mem_cons, List.not_mem_nil, or_false] at hp
          rcases hp with rfl | rfl
          · exact ⟨rfl, by ((try dsimp only [Sl.Below]) <;> simp)⟩
          · exact ⟨rfl, by ((try dsimp only [Sl.Below]) <;> simp); lia⟩
        · rw [last_get]; simp
        · rw [List.append_assoc, List.append_assoc]; exact gapp _ hob0
      refine Exs.cons (Ex.assign (Ev.bin (Ev.name rfl (Ev.comp [] loopOk_one kn' hA'.hd rfl (by ((try dsimp only [fstOk]) <;> simp)) (fun ζ => rfl) ?_))) (kn'.stores (.inr ⟨hw', rfl⟩)) rfl)
      by_cases hu : f.word = 4
      · obtain ⟨ps, rfl⟩ := Fo.w4 hu
        · skip
          refine It.tuple hA'.hd (Ev.ite (Et.cmp (Ev.sub (Ev.name rfl (Ev.intC ?_)))))
          dsimp only [Fo.dat]
          refine O2.subTup (by decide) (by decide) rfl rfl (Ev.strC (O2.eqS ⟨_, rfl, ite_t rfl ?_⟩))
          refine Ev.sub (Ev.name rfl (Ev.intC (O2.subTup (by decide) (by decide) rfl rfl ⟨Fo.dats ps, rfl, ?_, ?_⟩)))
          · rw [Fo.dats_eq]
            have := Fo.szs_length ps
            dsimp only [Fo.sz] at hfs
            simp; lia
          refine ⟨[], fun d => [(Str.ofString "one", Sl.dat d)], by simp, by simp, ?_, by simp, ?_⟩
          · intro c2 hc2 d hd
            exact Asg.name (hc2.kn.stores (.inl rfl))
          rw [Fo.dats_eq]
          have hpl := Fo.szs_length ps
          dsimp only [Fo.sz, Fo.good, Fo.ht] at hfs hfg hfh
          refine Turns.filtM (α := Fo) (obM := ob) Fo.dat Fo.dat (fun g => decide (g ≠ Fo.bottom)) rfl (fun c2 hc2 => hc2.le) ps [] (by simp; lia) (fun g hg c2 ys hc2 => jn_test (Fo.goods_iff.mp hfg g hg) (by have := Fo.hts_mem hg; lia) (hc2.A ▸ hA'.le (Nat.zero_le _))) ?_
          have e1 : (ps.filter fun g => decide (g ≠ Fo.bottom)) = flF (.uni ps) := rfl
          rw [e1, List.nil_append]
          refine O2.addL (xs := (done.flatMap flF).map Fo.dat) (ys := (flF (.uni ps)).map Fo.dat) (gapp _ hob) (by exact last_get _ _) (by simp only [List.length_map]; lia) ?_
          have := fin []
          ((try dsimp only [Fo.dat] at this) <;> simp only [List.append_nil, Fo.dats_eq] at this)
          exact thenDo.nx (Exs.nil this)
      · have e1 : ([f].filter fun g => decide (g ≠ Fo.bottom)) = flF f := filt_one hu
        refine It.list hA'.hd (Ev.ite (Et.cmp (Ev.sub (Ev.name rfl (Ev.intC ?_)))))
        have hw4 : ¬ (decide (wordAt f.word = Str.ofString "union")) = true := by
          intro q
          have q := of_decide_eq_true q
          exact hu (wordAt_inj _ f.word_lt 4 (by decide) q)
        refine O2.subF0 (Ev.strC (O2.eqS ⟨_, rfl, ?_⟩))
        refine ifF hw4 ?_
        refine Ev.lst rfl (Evs.cons (Ev.name rfl (Evs.nil ⟨[f.dat], rfl, by simp, ob.length, [f.dat], rfl, by exact last_get _ _, by simp, ?_⟩)))
        refine ⟨[], fun d => [(Str.ofString "one", Sl.dat d)], by simp, by simp, ?_, by simp, ?_⟩
        · intro c2 hc2 d hd
          exact Asg.name (hc2.kn.stores (.inl rfl))
        show Turns _ _ _ _ _ _ _ ([f].map Fo.dat) [] _
        refine Turns.filtM (α := Fo) (n := (ob ++ [Ob.list [f.dat]]).length) (obM := ob ++ [.list [f.dat]]) Fo.dat Fo.dat (fun g => decide (g ≠ Fo.bottom)) rfl ?_ [f] [] (by simp) ?_ ?_
        · exact fun c2 hc2 => hc2.le
        · intro g hg c2 ys hc2
          simp at hg; subst hg
          exact jn_test hfg (by lia) (hc2.A ▸ hA'.le (Nat.zero_le _))
        rw [e1, List.nil_append]
        refine O2.addL (xs := (done.flatMap flF).map Fo.dat) (ys := (flF f).map Fo.dat) (gapp _ (gapp _ hob)) (by exact last_get _ _) (by simp only [List.length_map]; lia) ?_
        exact thenDo.nx (Exs.nil (fin [Ob.list [f.dat]]))
    · rintro st ob ⟨done, i, hd, rfl, hob, hob0⟩
      simp at hd; subst hd
      exact ⟨rfl, i, rfl, hob, hob0⟩
  rintro fl st1 ob1 ⟨rfl, i, hl, hob, hob0⟩
  obtain ⟨L, hL⟩ : ∃ L, L = fs.flatMap flF := ⟨_, rfl⟩
  rw [← hL] at hob hgm hls hfl
  have hLn : L ≠ [] := hL ▸ hi.ne
  have hn1 : c.n₀ ≤ ob1.length := by
    rw [h0]
    have := (List.getElem?_eq_some_iff.mp hob0).1
    simp; lia
  refine thenDo.nx (Exs.cons (Ex.assignComp [(Str.ofString "flat", .obj i)] loopOk_one kn hA.hd rfl ?_ (fun ζ => rfl) (Kn.stores ‹_› (.inl rfl)) ((kn.swapW _ _ _).trans rfl) ?_))
  · intro p hp
    simp only [List.mem_singleton] at hp
    subst hp
    exact ⟨hl, rfl, by simp⟩
  refine It.callT G.toGd kn rfl (by rw [G.hK]; rfl) rfl (by decide) rfl (Evs.cons (Ev.name hl (Evs.nil (OnI.enum (i := i) (xs := L.map Fo.dat) hA.hd hob (by simp; lia) ?_))))
  rw [enumD_map]
  refine ⟨[], fun d => match d with | .tuple [a, b] => [(Str.ofString "one", Sl.dat b), (Str.ofString "at", Sl.dat a)] | _ => [], by simp, by simp, ?_, ?_, ?_⟩
  · intro c' hc x hx
    obtain ⟨p, hp, rfl⟩ := List.mem_map.mp hx
    exact Asg.pair (hc.A ▸ hA.hd) (hc.kn.stores (.inl rfl)) (hc.kn.stores (.inl rfl))
  · intro x hx q hq
    obtain ⟨p, hp, rfl⟩ := List.mem_map.mp hx
    simp only [List.mem_cons, List.not_mem_nil, or_false] at hq
    rcases hq with rfl | rfl <;> rfl
  refine Turns.filtM (α := Fo × Nat) (obM := ob1) (fun p => .tuple [.int (p.2 : Int), p.1.dat]) (fun p => p.1.dat) (fun p => decide (p.1 ∉ L.take p.2)) rfl ?_ L.zipIdx [] (by simp; lia) ?_ ?_
  · exact fun c2 hc2 => hc2.le
  · rintro ⟨f, k⟩ hp c2 ys hc2
    have hfL : f ∈ L := by
      have := List.mem_zipIdx hp
      rw [this.2.2]; simp
    obtain ⟨g1, g2, g3⟩ := hgm f hfL
    have hF := Fo.facts f g1
    have hD := hF.1.d
    have hA2 : Ok c2.A 0 := hc2.A ▸ hA.le (Nat.zero_le _)
    have hob2 : (ob1 ++ [Ob.list ys])[i]? = some (.list (L.map Fo.dat)) := gapp _ hob
    refine Et.cmp (Ev.name rfl (Ev.slice (Ev.name rfl (EvP.none (EvP.some (Ev.name rfl (EvP.none (SlO.listTake (k := k) hob2 (by simp; lia) ?_))))))))
    refine O2.niL (xs := (L.map Fo.dat).take k) (by exact last_get _ _) hA2 ?_ hF.2 (by show f.dat.depth ≤ 64; lia) ⟨_, rfl, ?_, [.list ((L.map Fo.dat).take k)], rfl, fun ζ => Ev.name rfl ⟨rfl, rfl⟩⟩
    · rw [← List.map_take]
      exact fo_okDs fun q hq => (hgm q (List.mem_of_mem_take hq)).1
    · rw [← List.map_take]
      have hiff := fo_mem (f := f) (l := L.take k)
      show (!decide (f.dat ∈ (L.take k).map Fo.dat)) = decide (f ∉ L.take k)
      by_cases e : f ∈ L.take k
      · rw [decide_eq_true (hiff.mpr e), decide_eq_false (fun q => q e)]; rfl
      · rw [decide_eq_false (fun q => e (hiff.mp q)), decide_eq_true e]; rfl
  have hdd : ((L.zipIdx).filter fun p => decide (p.1 ∉ L.take p.2)).map (fun p => p.1.dat) = (ddF [] L).map Fo.dat := by
    rw [← ddF_firsts L (fun p => decide (p.1 ∉ L.take p.2)) (fun x i => by simp), List.map_map]; rfl
  rw [hdd, List.nil_append]
  have hJ : joined fs = jnF (ddF [] L) := by rw [hL]; rfl
  obtain ⟨D, hD⟩ : ∃ D, D = ddF [] L := ⟨_, rfl⟩
  rw [← hD] at hJ ⊢
  have hDm : ∀ f ∈ D, f.good = true ∧ f.ht ≤ 25 ∧ f.sz ≤ 60 := fun f hf => hgm f (by rw [hD, ddF_mem] at hf; simpa using hf)
  have hDl : D.length ≤ 60 := by
    have h1 := ddF_szs L []
    have h2 := Fo.szs_length D
    rw [← hD] at h1
    dsimp only [Fo.szs] at h1
    lia
  have hDn : D ≠ [] := by
    obtain ⟨q, hq⟩ := List.exists_mem_of_ne_nil _ hLn
    have : q ∈ D := by rw [hD, ddF_mem]; exact .inr hq
    rintro rfl; cases this
  have fin : ∀ x, Fin [Ob.list (fs.map Fo.dat)].length (RetD ((joined fs).dat) [Ob.list (fs.map Fo.dat)]) (.rt (.dat (joined fs).dat)) x (ob1 ++ [.list (D.map Fo.dat)]) := fun x => by
    refine ⟨rfl, ?_⟩
    cases ob1 with
    | nil => simp at hob0
    | cons o ob1 => simp at hob0; subst hob0; rfl
  have fin2 : ∀ x z, Fin [Ob.list (fs.map Fo.dat)].length (RetD ((joined fs).dat) [Ob.list (fs.map Fo.dat)]) (.rt (.dat (joined fs).dat)) x (ob1 ++ [.list (D.map Fo.dat)] ++ [z]) := fun x z => by
    refine ⟨rfl, ?_⟩
    cases ob1 with
    | nil => simp at hob0
    | cons o ob1 => simp at hob0; subst hob0; rfl
  have hu : Ok c.A 0 := hA.le (Nat.zero_le _)
  refine thenDo.nx (Exs.cons (Ex.ite (Et.cmp (Ev.tup rfl (Evs.cons (Ev.strC (Evs.cons (Ev.strC (Evs.cons (Ev.tup rfl (Evs.nil ⟨[], rfl, by simp, Evs.nil ⟨_, rfl, by simp, Ev.name rfl ?_⟩⟩)))))))))))
  refine O2.inL (xs := D.map Fo.dat) (by exact last_get _ _) hu (fo_okDs fun q hq => (hDm q hq).1) (by ((try dsimp only [okD]) <;> simp [okD.okDs, okW]); decide +kernel) (by simp [PyData.depth, PyData.depthAll]) ⟨_, rfl, ?_⟩
  by_cases ha : anyF ∈ D
  · refine ifT (by rw [← anyF_dat]; simpa using fo_mem.mpr ha) ?_
    refine Exs.cons (Ex.ret (Ev.tup rfl (Evs.cons (Ev.strC (Evs.cons (Ev.strC (Evs.cons (Ev.tup rfl (Evs.nil ⟨[], rfl, by simp, Evs.nil ⟨_, rfl, by simp, ?_⟩⟩)))))))))
    have hj : joined fs = anyF := by rw [hJ]; unfold jnF; rw [if_pos ha]
    have := fin
    rw [hj] at this ⊢
    exact this []
  · refine ifF (by rw [← anyF_dat]; simpa using fun q => ha (fo_mem.mp q)) ?_
    refine Exs.nil (thenDo.nx (Exs.cons (Ex.ret (Ev.ite (Et.cmp ?_)))))
    refine Ev.gB ‹_› ‹_› rfl (fun ζ => rfl) rfl (by decide) rfl ?_
    refine Evs.cons (Ev.name rfl (Evs.nil (On.lenL (xs := D.map Fo.dat) (by exact last_get _ _) (by simp; lia) (Ev.intC (O2.eqI ⟨_, rfl, ?_⟩)))))
    rcases D with _ | ⟨k, _ | ⟨k2, D'⟩⟩
    · exact absurd rfl hDn
    ·
      refine ifT (by simp) ?_
      refine Ev.sub (Ev.name rfl (Ev.intC (O2.subList (xs := [k].map Fo.dat) (by exact last_get _ _) (by decide) (by decide) rfl ?_)))
      have hj : joined fs = k := by rw [hJ]; unfold jnF; rw [if_neg ha]
      have := fin
      rw [hj] at this ⊢
      exact this []
    ·
      refine ifF (by simp; lia) ?_
      refine Ev.tup rfl (Evs.cons (Ev.strC (Evs.cons ?_)))
      refine Ev.gT ‹_› ‹_› rfl (fun ζ => rfl) rfl (by decide) rfl ?_
      refine Evs.cons (Ev.callKw (Gs.toGd ‹_›) ‹_› rfl (by rw [Gs.hK ‹_›]; rfl) rfl (by decide) rfl (Ev.name rfl ?_))
      refine Ev.boot (v := .builtin "repr") G.toGd kn.gl kn.bt (kn.glob rfl) (by rw [G.hK]; rfl) rfl (by decide) ⟨_, rfl, ?_⟩
      refine On.sortK (xs := (k :: k2 :: D').map Fo.dat) (n := 0) (key := fun x => .str x.shown) (O := strO) (ko := cpsOf) (by exact last_get _ _) (by simp) (by simp at hDl ⊢; lia) (hA.le (szs rfl)) (fun x => ksk_t4 "repr" x) ?_ (keyStr _ _ _ (by simp) ?_) ?_
      · intro x hx
        obtain ⟨f, hf, rfl⟩ := List.mem_map.mp hx
        obtain ⟨q1, q2, q3⟩ := hDm f hf
        exact (Call.reprD (Fo.facts f q1).1 (fo_tup f) (by lia) (by lia)).mono fun r ob' q => q.1
      · intro x hx
        obtain ⟨y, _, rfl⟩ := List.mem_map.mp hx
        exact ⟨_, rfl⟩
      intro ys hp hs
      obtain ⟨zs, rfl, hzp⟩ := perm_map_inv Fo.dat hp
      have hzs : zs = srtF (k :: k2 :: D') := srtF_unique hzp (fun q hq => good_ok q (hDm q hq).1) (by rw [List.pairwise_map] at hs; exact hs)
      refine Evs.nil (On.tupleL (xs := zs.map Fo.dat) (by exact last_get _ _) (by rw [List.length_map, hzp.length_eq]; simp at hDl ⊢; lia) ?_)
      refine Evs.nil ⟨_, rfl, by simp, ?_⟩
      have hj : joined fs = .uni zs := by rw [hJ, hzs]; unfold jnF; rw [if_neg ha]
      have := fin2
      rw [hj] at this ⊢
      ((try dsimp only [Fo.dat] at this ⊢) <;> simp only [Fo.dats_eq] at this ⊢)
      exact this [] _
end
/-! P17 -/
section
/-- what one call of _law_form may be asked -/
structure FmIn (k : Kd) (l : List Str) (t : Tab) (S H : Nat) : Prop where
  can : k = .bottom ∨ Can k
  ok : k.ok = true
  tab : TabL t S H
  nm : ∀ x ∈ l, nmOk x = true
  len : l.length + k.ht ≤ 100
  z : k.sz * S ≤ 60
  h : k.ht + H ≤ 20
  tl : t.length ≤ 20
theorem FmIn.part {k p : Kd} {l l' : List Str} {t : Tab} {S H : Nat} (h : FmIn k l t S H) (m : p ∈ k.parts) (hp : p = .bottom ∨ Can p) (hl : ∀ x ∈ l', nmOk x = true) (hll : l'.length ≤ l.length + 1) : FmIn p l' t S H := by
  have h1 := Kd.parts_ht m
  have h2 := Kd.parts_sz m
  have h3 := h.z
  have h4 := h.h
  have h5 := h.len
  exact ⟨hp, Kd.parts_ok m h.ok, h.tab, hl, by lia, Nat.le_trans (Nat.mul_le_mul_right _ (Nat.le_of_lt h2)) h3, by lia, h.tl⟩
theorem FmIn.facts {k : Kd} {l : List Str} {t : Tab} {S H : Nat} (h : FmIn k l t S H) : (Fk k (envL l t)).sz ≤ k.sz * S ∧ (Fk k (envL l t)).ht ≤ k.ht + (H + 1) ∧ (Fk k (envL l t)).good = true := by
  have h1 := h.len
  have h2 := h.h
  have := h.tab.h1
  exact Fk_facts h.tab.s1 (szs rfl) k h.ok (by lia) (env1_L h.tab (by lia))
noncomputable def fmL (l : List Str) (t : Tab) : List Ob := [.list (l.map .str), .dict t.dats]
noncomputable def FmC (g : Gx) (t : Tab) (B n : Nat) : Prop := ∀ k l S H, FmIn k l t S H → k.ht ≤ n → Call g (.ref 160) [.dat k.dat, .obj 0, .obj 1] (fmL l t) [] (10 * n + B + 1) (RetD ((Fk k (envL l t)).dat) (fmL l t))
section
variable {c : Cx} {st : List (Str × Sl)} {ob : List Ob} {K : Sl → List Ob → Prop} {p0 p1 p2 p3 p4 p5 p6 : Pos} {k0 : Nat}
/-- the comprehensions of forms -/
theorem form_turns {scope : Scope} {l : List Str} {t : Tab} {N : Nat} {K : List PyData → List Ob → Prop} (G : Gs c.g) (hx : scope.names.lookup (Str.ofString "_law_form") = some .globalImplicit) (hA : Ok c.A N) (ps : List Kd) (hl : ps.length ≤ 100)
    (h : ∀ p ∈ ps, Call c.g (.ref 160) [.dat p.dat, .obj 0, .obj 1] (fmL l t) [] N (RetD ((Fk p (envL l t)).dat) (fmL l t))) (k : K ((Fks ps (envL l t)).map Fo.dat) (fmL l t)) :
    Turns (fun c' => Inner c c' scope [] 2) (emit1 (.Call (.Name (Str.ofString "_law_form") p0) [.Name (Str.ofString "part") p1, .Name (Str.ofString "names") p2, .Name (Str.ofString "table") p3] [] p4)) [] (fun d => [(Str.ofString "part", Sl.dat d)])
      [(Str.ofString "names", .obj 0), (Str.ofString "table", .obj 1)] 2 K (ps.map Kd.dat) [] (fmL l t) := by
  refine Turns.mapA (α := Kd) (n := 2) (obM := fmL l t) Kd.dat (fun p => (Fk p (envL l t)).dat) rfl (fun c' hc => hc.le) ps [] (by simp; lia) ?_ ?_
  · intro p hp c' ys hc
    have hB := h p hp
    have G' : Gs c'.g := hc.g ▸ G
    have hA' : Ok c'.A N := hc.A ▸ hA
    rw [← hc.g] at hB
    refine Ev.gF G' hc.kn hx (fun ζ => rfl) (fun ζ => rfl) rfl (Evs.cons (Ev.name rfl (Evs.cons (Ev.name rfl (Evs.cons (Ev.name rfl (Evs.nil ?_)))))))
    refine On.callZ (args := [.dat p.dat, .obj 0, .obj 1]) [0, 1] hB hA' rfl rfl (by simp) (by simp) ?_
    exact ⟨[], rfl, by ((try dsimp only [slotOf, upd, fmL]) <;> simp)⟩
  · rw [Fks_eq, List.map_map] at k
    exact k
/-- `_law_form(e, names, table)` -/
theorem Ev.formRec {scope : Scope} {e1 : Expr} {p : Kd} {l : List Str} {t : Tab} {N : Nat} (G : Gs c.g) (kn : Kn c scope) (hx : scope.names.lookup (Str.ofString "_law_form") = some .globalImplicit) (hA : Ok c.A N)
    (h2 : st.lookup (Str.ofString "names") = some (.obj 0)) (h3 : st.lookup (Str.ofString "table") = some (.obj 1)) (he : plainE e1 = true)
    (C : Call c.g (.ref 160) [.dat p.dat, .obj 0, .obj 1] (fmL l t) [] N (RetD ((Fk p (envL l t)).dat) (fmL l t)))
    (h1 : Ev c e1 st (fmL l t) fun v ob1 => v = .dat p.dat ∧ ob1 = fmL l t) (k : K (.dat (Fk p (envL l t)).dat) (fmL l t)) :
    Ev c (.Call (.Name (Str.ofString "_law_form") p0) [e1, .Name (Str.ofString "names") p2, .Name (Str.ofString "table") p3] [] p4) st (fmL l t) K := by
  refine Ev.gF G kn hx (fun ζ => rfl) (fun ζ => rfl) (by rw [List.all_cons, he]; rfl) (Evs.cons (h1.mono fun v ob1 q => ?_))
  obtain ⟨rfl, rfl⟩ := q
  refine Evs.cons (Ev.name h2 (Evs.cons (Ev.name h3 (Evs.nil ?_))))
  refine On.callZ (args := [.dat p.dat, .obj 0, .obj 1]) [0, 1] C hA rfl rfl (by simp) (by simp) ?_
  exact k
end
theorem lookup_none_dats {t : Tab} {x : Str} (h : t.lookup x = none) : t.dats.lookup x = none := by rw [dats_lookup, h]; rfl
noncomputable def fst2 (k : PyData) : List (Str × Sl) := [(Str.ofString "kind", .dat k), (Str.ofString "names", .obj 0), (Str.ofString "table", .obj 1)]
theorem form_step {g : Gx} (G : Gs g) {t : Tab} {B n : Nat} (hB : 60 ≤ B) (hI : ∀ m, m < n → FmC g t B m)
    (hT : ∀ x q, t.lookup x = some q → ∀ S H, TabL t S H → q.ht ≤ 19 → S ≤ 60 → Call g (.ref 160) [.dat q.dat, .obj 0, .obj 1] (fmL [] []) [] (B - 5) (RetD ((Fk q ρ0).dat) (fmL [] []))) : FmC g t B n := by
  intro k l S H hi hn
  refine Call.enter G (fun ζ => rfl) (fun ζ => rfl) (fun ζ => ⟨rfl, rfl, rfl, rfl, rfl, rfl⟩) _ _ (fun ζ => rfl) (fun ζ => rfl) (names := [Str.ofString "kind", Str.ofString "names", Str.ofString "table"]) ?_ (by decide) rfl ?_
  · intro P vs h
    obtain ⟨a, b, c, rfl⟩ := lenThree h
    rfl
  intro c hg hA kn hw h0 hmu
  have G0 := G
  subst hg
  have hu : Ok c.A 0 := hA.le (Nat.zero_le _)
  have hlen := hi.len
  have hz := hi.z
  have hh := hi.h
  have hpos := k.ht_pos
  have hs1 := hi.tab.s1
  have hh1 := hi.tab.h1
  have hsz : k.sz ≤ 60 := Nat.le_trans (Nat.le_mul_of_pos_right _ hs1) hz
  have hkd := (show k.Fit from ⟨hi.ok, by lia, by lia⟩)
  have sub : ∀ p ∈ k.parts, ∀ l' : List Str, (∀ x ∈ l', nmOk x = true) → l'.length ≤ l.length + 1 → (p = .bottom ∨ Can p) → Call c.g (.ref 160) [.dat p.dat, .obj 0, .obj 1] (fmL l' t) [] (10 * n + B - 9) (RetD ((Fk p (envL l' t)).dat) (fmL l' t)) := fun p hp l' h1 h2 h3 => by
    have := Kd.parts_ht hp
    exact (hI (n - 1) (by lia) p l' S H (hi.part hp h3 h1 h2) (by lia)).le (by lia)
  have hAr : Ok c.A (10 * n + B - 9) := hA.le (by lia)
  show Exs c _ (fst2 k.dat) (fmL l t) _
  refine Exs.cons (Ex.ite (Et.cmp (Ev.sub (Ev.name rfl (Ev.intC (O2.subK0 (Ev.strC (O2.eqS ⟨_, rfl, ?_⟩))))))))
  by_cases hv : isVar k = true
  · obtain ⟨x, rfl⟩ := isVar_inv hv
    · skip
      refine ifT (by simp [Kd.word]) ?_
      have hx : nmOk x = true := by simpa [Kd.ok] using hi.ok
      dsimp only [Kd.dat]
      refine Exs.cons (Ex.ite (Et.cmp (Ev.sub (Ev.name rfl (Ev.intC (O2.subTup (by decide) (by decide) rfl rfl (Ev.name rfl (O2.inL (xs := l.map .str) rfl hu (strs_ok hi.nm) (by simpa [okD] using nmOk_ok hx) (by simp [PyData.depth]) ⟨_, rfl, ?_⟩))))))))
      by_cases hm : x ∈ l
      · refine ifT (by simpa using hm) ?_
        refine Exs.cons (Ex.ret (Ev.tup rfl (Evs.cons (Ev.strC (Evs.cons ?_)))))
        refine Ev.meth PySem.F.slot_list_index PySem.F.plainAttrs_list PySem.F.type_list_index (by decide) rfl (Ev.name rfl ⟨rfl, Evs.cons ?_⟩) rfl (by decide) rfl
        refine Ev.sub (Ev.name rfl (Ev.intC (O2.subTup (by decide) (by decide) rfl rfl (Evs.nil (On.index (xs := l) rfl (by lia) rfl hm ?_)))))
        refine Evs.nil ⟨_, rfl, by simp, ?_⟩
        exact ⟨by dsimp only [Fk, envL]; simp only [hm, ↓reduceIte]; dsimp only [Bv.fo, Fo.dat], rfl⟩
      · refine ifF (by simpa using hm) ?_
        refine Exs.nil (thenDo.nx (Exs.cons (Ex.ret (Ev.ite (Et.cmp (Ev.sub (Ev.name rfl (Ev.intC (O2.subTup (by decide) (by decide) rfl rfl (Ev.name rfl (O2.inDict (es := t.dats) G.toGd rfl ⟨_, rfl, ?_⟩)))))))))))
        cases e : t.lookup x with
        | none =>
          refine ifF (by rw [lookup_none_dats e]; simp) ?_
          refine Ev.tup rfl (Evs.cons (Ev.strC (Evs.cons (Ev.sub (Ev.name rfl (Ev.intC (O2.subTup (by decide) (by decide) rfl rfl (Evs.nil ⟨_, rfl, by simp, ?_⟩))))))))
          exact ⟨by dsimp only [Fk, envL]; simp only [hm, e, ↓reduceIte]; dsimp only [Bv.fo, Fo.dat], rfl⟩
        | some q =>
          have hq : t.dats.lookup x = some q.dat := by rw [dats_lookup, e]; rfl
          refine ifT (by rw [hq]; rfl) ?_
          refine Ev.gF ‹_› ‹_› rfl (fun ζ => rfl) (fun ζ => rfl) rfl ?_
          refine Evs.cons (Ev.sub (Ev.name rfl (Ev.sub (Ev.name rfl (Ev.intC (O2.subTup (by decide) (by decide) rfl rfl (O2.subDict (es := t.dats) rfl hq ?_)))))))
          refine Evs.cons (Ev.lst rfl (Evs.nil ⟨[], rfl, by simp, Evs.cons (Ev.dict0 (Evs.nil ?_))⟩))
          obtain ⟨q1, q2, q3, q4⟩ := hi.tab.look x q e
          refine On.callZ (args := [.dat q.dat, .obj 0, .obj 1]) [2, 3] (hT x q e S H hi.tab (by lia) (Nat.le_trans (Nat.le_mul_of_pos_left _ (Kd.sz_pos _)) hz)) (hA.le (by lia)) rfl rfl (by simp) (by simp) ?_
          refine ⟨?_, rfl⟩
          dsimp only [Fk, envL]; simp only [hm, e, ↓reduceIte]; dsimp only [Bv.fo]
  have hv : isVar k = false := by simpa using hv
  refine ifF (by simpa using word_ne_var hv) ?_
  refine Exs.nil (thenDo.nx (Exs.cons (Ex.ite (Et.cmp (Ev.sub (Ev.name rfl (Ev.intC (O2.subK0 (Ev.strC (O2.eqS ⟨_, rfl, ?_⟩))))))))))
  by_cases ha : isAll k = true
  · obtain ⟨x, lo, up, bd, rfl⟩ := isAll_inv ha
    · skip
      refine ifT (by ((try dsimp only [Kd.word]) <;> simp)) ?_
      have hca : Can (.all x lo up bd) := by simpa using hi.can
      have hx : nmOk x = true := by have := hi.ok; ((try dsimp only [Kd.ok] at this) <;> simp only [Bool.and_eq_true] at this); exact this.1.1.1
      dsimp only [Kd.dat]
      refine Exs.cons (Ex.assign (Ev.tup rfl (Evs.cons (Ev.formRec G kn rfl hAr rfl rfl rfl (sub lo (by ((try dsimp only [Kd.parts]) <;> simp)) l hi.nm (by lia) hca.1) (Ev.sub (Ev.name rfl (Ev.intC (O2.subTup (by decide) (by decide) rfl rfl ⟨rfl, rfl⟩)))) ?_))) (Kn.stores ‹_› (.inl rfl)) rfl)
      refine Evs.cons (Ev.formRec G kn rfl hAr rfl rfl rfl (sub up (by ((try dsimp only [Kd.parts]) <;> simp)) l hi.nm (by lia) (.inr hca.2.1)) (Ev.sub (Ev.name rfl (Ev.intC (O2.subTup (by decide) (by decide) rfl rfl ⟨rfl, rfl⟩)))) ?_)
      refine Evs.nil ⟨_, rfl, by simp, ?_⟩
      refine thenDo.nx (Exs.cons (Ex.ret (Ev.bin (Ev.bin (Ev.tup rfl (Evs.cons (Ev.strC (Evs.nil ⟨_, rfl, by simp, Ev.name rfl (O2.addT (by simp) ?_)⟩))))))))
      refine Ev.tup rfl (Evs.cons ?_)
      refine Ev.gF ‹_› ‹_› rfl (fun ζ => rfl) (fun ζ => rfl) rfl ?_
      refine Evs.cons (Ev.sub (Ev.name rfl (Ev.intC (O2.subTup (by decide) (by decide) rfl rfl ?_))))
      refine Evs.cons (Ev.bin (Ev.lst rfl (Evs.cons (Ev.sub (Ev.name rfl (Ev.intC (O2.subTup (by decide) (by decide) rfl rfl (Evs.nil ⟨_, rfl, by simp, Ev.name rfl (O2.addL (xs := [.str x]) (ys := l.map .str) rfl rfl (by simp; lia) ?_)⟩))))))))
      refine Evs.cons (Ev.name rfl (Evs.nil ?_))
      refine On.callZ (args := [.dat bd.dat, .obj 0, .obj 1]) [3, 1] (sub bd (by ((try dsimp only [Kd.parts]) <;> simp)) (x :: l) (fun b hb => (List.mem_cons.mp hb).elim (fun e => e ▸ hx) (hi.nm b)) (by simp) (.inr hca.2.2)) hAr rfl rfl (by simp) (by simp) ?_
      refine Evs.nil ⟨_, rfl, by simp, O2.addT (by simp) ?_⟩
      refine ⟨?_, rfl⟩
      ((try dsimp only [Fk, Fo.dat]) <;> simp [envL_up])
  have ha : isAll k = false := by simpa using ha
  refine ifF (by simpa using word_ne_all ha) ?_
  have hcp := can_parts hi.can ha
  have fst : ∀ d : PyData, ∀ p ∈ [(Str.ofString "names", Sl.obj 0), (Str.ofString "table", Sl.obj 1)], (fst2 d).lookup p.1 = some p.2 := by
    intro d p hp
    simp only [List.mem_cons, List.not_mem_nil, or_false] at hp
    rcases hp with rfl | rfl <;> rfl
  have subs : ∀ p ∈ k.parts, Call c.g (.ref 160) [.dat p.dat, .obj 0, .obj 1] (fmL l t) [] (10 * n + B - 9) (RetD ((Fk p (envL l t)).dat) (fmL l t)) := fun p hp => sub p hp l hi.nm (by lia) (.inr (cans_iff.mp hcp p hp))
  refine Exs.nil (thenDo.nx (Exs.cons (Ex.ite (Et.cmp (Ev.sub (Ev.name rfl (Ev.intC (O2.subK0 (Ev.strC (O2.eqS ⟨_, rfl, ?_⟩))))))))))
  cases k with
  | var x => ((try dsimp only [isVar] at hv) <;> simp at hv)
  | all x lo up bd => ((try dsimp only [isAll] at ha) <;> simp at ha)
  | uni ps =>
    refine ifT (by (dsimp only [Kd.word] <;> try simp only []); decide +kernel) ?_
    have hcu : Can (.uni ps) := by simpa using hi.can
    have hps := Kd.szs_length ps
    dsimp only [Kd.sz] at hsz
    have hfa := Fks_facts hi.tab.s1 (szs rfl) ps (ρ := envL l t) (H := H + 1) hi.ok (by dsimp only [Kd.ht] at hh; lia) ((env1_L hi.tab (h := Kd.hts ps) (by dsimp only [Kd.ht] at hlen; lia)))
    have hcf := cf_joined (cf_kinds ps hcu.1 fun x ζ => cf_env (names := l) hi.tab x) (by
      have := hcu.2.2.2.1
      rw [Fks_eq]
      intro e
      rw [List.map_eq_nil_iff.mp e] at this; simp at this)
    have hJ : JnIn (Fks ps (envL l t)) := ⟨hfa.2.2, by ((try dsimp only [Kd.sz] at hz) <;> simp only [Nat.add_mul] at hz); lia, by dsimp only [Kd.ht] at hh; lia, hcf.1⟩
    dsimp only [Kd.dat]
    refine Exs.cons (Ex.ret ?_)
    refine Ev.gF ‹_› ‹_› rfl (fun ζ => rfl) (fun ζ => rfl) rfl ?_
    refine Evs.cons (Ev.comp [(Str.ofString "names", .obj 0), (Str.ofString "table", .obj 1)] loopOk_one kn hA.hd rfl ?_ (fun ζ => rfl) ?_)
    · intro p hp
      refine ⟨fst _ p hp, ?_⟩
      simp only [List.mem_cons, List.not_mem_nil, or_false] at hp
      rcases hp with rfl | rfl <;> exact ⟨rfl, by simp⟩
    refine It.tuple hA.hd (Ev.sub (Ev.name rfl (Ev.intC (O2.subTup (by decide) (by decide) rfl rfl ⟨ps.map Kd.dat, by rw [Kd.dats_eq], by simp; lia, ?_⟩))))
    refine ⟨[], fun d => [(Str.ofString "part", Sl.dat d)], by simp, by simp, ?_, ?_, ?_⟩
    · intro c' hc d hd
      exact Asg.name (hc.kn.stores (.inl rfl))
    · intro d hd p hp
      simp only [List.mem_singleton] at hp
      subst hp; rfl
    refine form_turns G rfl hAr ps (by lia) subs ?_
    refine Evs.nil (On.callZ (args := [.obj 0]) [2] (joined_spec G (Fks ps (envL l t)) hJ) (hA.le (by lia)) rfl rfl (by simp) (by simp) ?_)
    exact ⟨by ((try dsimp only [Fk]) <;> simp), rfl⟩
  | tup p =>
    refine ifF (by simpa using word_ne_union (k := .tup p) rfl) ?_
    refine Exs.nil (thenDo.nx (Exs.cons (Ex.ite (Et.cmp (Ev.sub (Ev.name rfl (Ev.intC (O2.subK0 (Ev.strC (O2.eqS ⟨_, rfl, ?_⟩))))))))))
    refine ifT (by (dsimp only [Kd.word] <;> try simp only []); decide +kernel) ?_
    dsimp only [Kd.dat]
    refine Exs.cons (Ex.assign (Ev.ite (Et.cmp (Ev.sub (Ev.name rfl (Ev.intC (O2.subTup (by decide) (by decide) rfl rfl (Ev.noneC (O2.isNone ⟨_, rfl, ite_t rfl (Ev.noneC ?_)⟩)))))))) (Kn.stores ‹_› (.inl rfl)) rfl)
    refine thenDo.nx (Exs.cons (Ex.ret (Ev.tup rfl (Evs.cons (Ev.strC (Evs.cons ?_))))))
    refine Ev.gT ‹_› ‹_› rfl (fun ζ => rfl) rfl (by decide) rfl ?_
    refine Evs.cons (Ev.comp [(Str.ofString "names", .obj 0), (Str.ofString "table", .obj 1)] loopOk_one kn hA.hd rfl ?_ (fun ζ => rfl) ?_)
    · intro p hp
      simp only [List.mem_cons, List.not_mem_nil, or_false] at hp
      rcases hp with rfl | rfl <;> exact ⟨rfl, rfl, by simp⟩
    refine It.tuple hA.hd (Ev.sub (Ev.name rfl (Ev.intC (O2.subTup (by decide) (by decide) rfl rfl ⟨[p].map Kd.dat, rfl, by simp; try lia, ?_⟩))))
    refine ⟨[], fun d => [(Str.ofString "part", Sl.dat d)], by simp, by simp, ?_, ?_, ?_⟩
    · intro c' hc d hd
      exact Asg.name (hc.kn.stores (.inl rfl))
    · intro d hd p hp
      simp only [List.mem_singleton] at hp
      subst hp; rfl
    refine form_turns G rfl hAr [p] (by simp) (fun p hp => subs p (by ((try dsimp only [Kd.parts] at hp ⊢) <;> simp at hp ⊢); exact hp)) ?_
    refine Evs.nil (On.tupleL (xs := (Fks [p] (envL l t)).map Fo.dat) rfl (by simp [Fks_eq]; try lia) ?_)
    refine Evs.cons (Ev.name rfl (Evs.nil ⟨_, rfl, by simp, ?_⟩))
    exact ⟨by ((try dsimp only [Fk, Fks, Fo.dat]) <;> simp), rfl⟩
  | tupv p q =>
    refine ifF (by simpa using word_ne_union (k := .tupv p q) rfl) ?_
    refine Exs.nil (thenDo.nx (Exs.cons (Ex.ite (Et.cmp (Ev.sub (Ev.name rfl (Ev.intC (O2.subK0 (Ev.strC (O2.eqS ⟨_, rfl, ?_⟩))))))))))
    refine ifT (by (dsimp only [Kd.word] <;> try simp only []); decide +kernel) ?_
    dsimp only [Kd.dat]
    refine Exs.cons (Ex.assign (Ev.ite (Et.cmp (Ev.sub (Ev.name rfl (Ev.intC (O2.subTup (by decide) (by decide) rfl rfl (Ev.noneC (O2.isNoneK ⟨_, rfl, ite_f rfl ?_⟩)))))))) (Kn.stores ‹_› (.inl rfl)) rfl)
    refine Ev.formRec G kn rfl hAr rfl rfl rfl (subs q (by ((try dsimp only [Kd.parts]) <;> simp))) (Ev.sub (Ev.name rfl (Ev.intC (O2.subTup (by decide) (by decide) rfl rfl ⟨rfl, rfl⟩)))) ?_
    refine thenDo.nx (Exs.cons (Ex.ret (Ev.tup rfl (Evs.cons (Ev.strC (Evs.cons ?_))))))
    refine Ev.gT ‹_› ‹_› rfl (fun ζ => rfl) rfl (by decide) rfl ?_
    refine Evs.cons (Ev.comp [(Str.ofString "names", .obj 0), (Str.ofString "table", .obj 1)] loopOk_one kn hA.hd rfl ?_ (fun ζ => rfl) ?_)
    · intro p hp
      simp only [List.mem_cons, List.not_mem_nil, or_false] at hp
      rcases hp with rfl | rfl <;> exact ⟨rfl, rfl, by simp⟩
    refine It.tuple hA.hd (Ev.sub (Ev.name rfl (Ev.intC (O2.subTup (by decide) (by decide) rfl rfl ⟨[p].map Kd.dat, rfl, by simp; try lia, ?_⟩))))
    refine ⟨[], fun d => [(Str.ofString "part", Sl.dat d)], by simp, by simp, ?_, ?_, ?_⟩
    · intro c' hc d hd
      exact Asg.name (hc.kn.stores (.inl rfl))
    · intro d hd p hp
      simp only [List.mem_singleton] at hp
      subst hp; rfl
    refine form_turns G rfl hAr [p] (by simp) (fun p hp => subs p (by ((try dsimp only [Kd.parts] at hp ⊢) <;> simp at hp ⊢); exact .inl hp)) ?_
    refine Evs.nil (On.tupleL (xs := (Fks [p] (envL l t)).map Fo.dat) rfl (by simp [Fks_eq]; try lia) ?_)
    refine Evs.cons (Ev.name rfl (Evs.nil ⟨_, rfl, by simp, ?_⟩))
    exact ⟨by ((try dsimp only [Fk, Fks, Fo.dat]) <;> simp), rfl⟩
  | name x ps =>
    refine ifF (by simpa using word_ne_union (k := .name x ps) rfl) ?_
    have hps := Kd.szs_length ps
    have hne : (Kd.name x ps).dat ≠ botD := fun e => by rw [← bot_dat] at e; exact absurd (Kd.dat_inj _ _ e) (by simp)
    have hde := hkd.depth
    have hkod := Kd.okD _ hi.ok
    dsimp only [Kd.sz] at hsz
    refine Exs.nil (thenDo.nx (Exs.cons (Ex.ite (Et.cmp (Ev.sub (Ev.name rfl (Ev.intC (O2.subK0 (Ev.strC (O2.eqS ⟨_, rfl, ?_⟩))))))))))
    refine ifF (by exact fun q => so_words.2.2.2.2.2.2.2.2.2.2.2.2.2.1 (of_decide_eq_true q)) ?_
    refine Exs.nil (thenDo.nx (Exs.cons (Ex.ite (Et.cmp (Ev.sub (Ev.name rfl (Ev.intC (O2.subK0 (Ev.strC (O2.eqS ⟨_, rfl, ?_⟩))))))))))
    refine ifF (by exact fun q => so_words.2.2.2.2.2.2.2.2.2.2.2.2.2.2.2.2.1 (of_decide_eq_true q)) ?_
    refine Exs.nil (thenDo.nx (Exs.cons (Ex.ret (Ev.ite (Et.cmp (Ev.name rfl (Ev.bot G kn rfl (O2.eqD hu hkod okD_bot (by lia) (by decide) ⟨_, rfl, ?_⟩))))))))
    refine ifF (by simpa using hne) ?_
    dsimp only [Kd.dat]
    refine Ev.tup rfl (Evs.cons (Ev.strC (Evs.cons (Ev.sub (Ev.name rfl (Ev.intC (O2.subTup (by decide) (by decide) rfl rfl (Evs.cons ?_))))))))
    refine Ev.gT ‹_› ‹_› rfl (fun ζ => rfl) rfl (by decide) rfl ?_
    refine Evs.cons (Ev.comp [(Str.ofString "names", .obj 0), (Str.ofString "table", .obj 1)] loopOk_one kn hA.hd rfl ?_ (fun ζ => rfl) ?_)
    · intro p hp
      simp only [List.mem_cons, List.not_mem_nil, or_false] at hp
      rcases hp with rfl | rfl <;> exact ⟨rfl, rfl, by simp⟩
    refine It.tuple hA.hd (Ev.sub (Ev.name rfl (Ev.intC (O2.subTup (by decide) (by decide) rfl rfl ⟨ps.map Kd.dat, by rw [Kd.dats_eq], by simp; try lia, ?_⟩))))
    refine ⟨[], fun d => [(Str.ofString "part", Sl.dat d)], by simp, by simp, ?_, ?_, ?_⟩
    · intro c' hc d hd
      exact Asg.name (hc.kn.stores (.inl rfl))
    · intro d hd p hp
      simp only [List.mem_singleton] at hp
      subst hp; rfl
    refine form_turns G rfl hAr ps (by lia) (fun p hp => subs p (by (dsimp only [Kd.parts] at hp ⊢ <;> try simp at hp ⊢); exact hp)) ?_
    refine Evs.nil (On.tupleL (xs := (Fks ps (envL l t)).map Fo.dat) rfl (by simp [Fks_eq]; try lia) ?_)
    refine Evs.nil ⟨_, rfl, by simp, ?_⟩
    exact ⟨by ((try dsimp only [Fk, Fo.dat]) <;> simp [Fo.dats_eq]), rfl⟩
  | typeof p =>
    refine ifF (by simpa using word_ne_union (k := .typeof p) rfl) ?_
    refine Exs.nil (thenDo.nx (Exs.cons (Ex.ite (Et.cmp (Ev.sub (Ev.name rfl (Ev.intC (O2.subK0 (Ev.strC (O2.eqS ⟨_, rfl, ?_⟩))))))))))
    refine ifF (by exact fun q => Ne.symm so_words.2.2.2.2.2.2.2.2.2.2.2.2.2.2.2.2.2.2.2.2.1 (of_decide_eq_true q)) ?_
    refine Exs.nil (thenDo.nx (Exs.cons (Ex.ite (Et.cmp (Ev.sub (Ev.name rfl (Ev.intC (O2.subK0 (Ev.strC (O2.eqS ⟨_, rfl, ?_⟩))))))))))
    refine ifT (by (dsimp only [Kd.word] <;> try simp only []); decide +kernel) ?_
    dsimp only [Kd.dat]
    refine Exs.cons (Ex.ret (Ev.tup rfl (Evs.cons (Ev.strC (Evs.cons (Ev.formRec G kn rfl hAr rfl rfl rfl (subs p (by ((try dsimp only [Kd.parts]) <;> simp))) (Ev.sub (Ev.name rfl (Ev.intC (O2.subTup (by decide) (by decide) rfl rfl ⟨rfl, rfl⟩)))) ?_))))))
    refine Evs.nil ⟨_, rfl, by simp, ?_⟩
    exact ⟨by ((try dsimp only [Fk, Fo.dat]) <;> simp), rfl⟩
  | bottom =>
    refine ifF (by simpa using word_ne_union (k := .bottom) rfl) ?_
    refine Exs.nil (thenDo.nx (Exs.cons (Ex.ite (Et.cmp (Ev.sub (Ev.name rfl (Ev.intC (O2.subK0 (Ev.strC (O2.eqS ⟨_, rfl, ?_⟩))))))))))
    refine ifF (by dsimp only [Kd.word]; decide +kernel) ?_
    refine Exs.nil (thenDo.nx (Exs.cons (Ex.ite (Et.cmp (Ev.sub (Ev.name rfl (Ev.intC (O2.subK0 (Ev.strC (O2.eqS ⟨_, rfl, ?_⟩))))))))))
    refine ifF (by dsimp only [Kd.word]; decide +kernel) ?_
    refine Exs.nil (thenDo.nx (Exs.cons (Ex.ret (Ev.ite (Et.cmp (Ev.name rfl (Ev.bot G kn rfl (O2.eqD hu (by decide +kernel) okD_bot (by decide) (by decide) ⟨_, rfl, ?_⟩))))))))
    refine ifT (by simp [bot_dat]) ?_
    refine Ev.tup rfl (Evs.cons (Ev.strC (Evs.nil ⟨_, rfl, by simp, ?_⟩)))
    exact ⟨by ((try dsimp only [Fk, Fo.dat]) <;> simp), rfl⟩
theorem tabL_nil : TabL [] 1 1 := ⟨fun x q e => by simp at e, Nat.le_refl _, Nat.le_refl _, by decide⟩
theorem form_spec0 {g : Gx} (G : Gs g) : ∀ n, FmC g [] 60 n := fun n => by
  induction n using Nat.strongRecOn with
  | ind n ih => exact form_step G (by decide) ih fun x q e => by simp at e
theorem form_spec {g : Gx} (G : Gs g) (t : Tab) : ∀ n, FmC g t 270 n := fun n => by
  induction n using Nat.strongRecOn with
  | ind n ih =>
    refine form_step G (by decide) ih fun x q e S H ht h1 h2 => ?_
    obtain ⟨a, b, c, d⟩ := ht.look x q e
    have hh := ht.h1
    have := form_spec0 G q.ht q [] 1 1 ⟨.inr b, a, tabL_nil, by simp, by simp; lia, by lia, by lia, by simp⟩ (Nat.le_refl _)
    rw [envL_nil] at this
    exact this.le (by lia)
end
/-! P18 -/
section
theorem lfs_mem_len {xs : List PyData} {x : PyData} (h : x ∈ xs) : (lf x).length ≤ (lfs xs).length := by
  induction xs with
  | nil => cases h
  | cons y ys ih =>
    ((try dsimp only [lfs]) <;> simp only [List.length_append])
    rcases List.mem_cons.mp h with rfl | h
    · lia
    · have := ih h; lia
mutual
noncomputable def lens : PyData → Nat
  | .tuple xs => max xs.length (lensA xs)
  | _ => 0
noncomputable def lensA : List PyData → Nat
  | [] => 0
  | x :: xs => max (lens x) (lensA xs)
end
theorem lensA_mem {xs : List PyData} {x : PyData} (h : x ∈ xs) : lens x ≤ lensA xs := by
  induction xs with
  | nil => cases h
  | cons y ys ih =>
    dsimp only [lensA]
    rcases List.mem_cons.mp h with rfl | h
    · lia
    · have := ih h; lia
structure FrIn (x : PyData) : Prop where
  w : wff x = true
  d : x.depth ≤ 60
  l : (lf x).length ≤ 900
  n : lens x ≤ 900
noncomputable def FrC (g : Gx) (n : Nat) : Prop := ∀ x, FrIn x → x.depth ≤ n → Call g (.ref 170) [.dat x] [] [] (3 * n + 10 + 1) (RetN (.list ((lf x).map .str)) [])
theorem lf_map (xs : List PyData) : (lfs xs).map PyData.str = xs.flatMap fun x => (lf x).map PyData.str := by
  rw [lfs_eq, List.map_flatMap]
open Classical in
theorem fr_step {g : Gx} (G : Gs g) {n : Nat} (hI : ∀ m, m < n → FrC g m) : FrC g n := by
  intro x hi hn
  refine Call.enter G (fun ζ => rfl) (fun ζ => rfl) (fun ζ => ⟨rfl, rfl, rfl, rfl, rfl, rfl⟩) _ _ (fun ζ => rfl) (fun ζ => rfl) (names := [Str.ofString "form"]) ?_ (by decide) rfl ?_
  · intro P vs h
    obtain ⟨a, rfl⟩ := lenOne h
    rfl
  intro c hg hA kn hw h0 hmu
  have G0 := G
  subst hg
  have hu : Ok c.A 0 := hA.le (Nat.zero_le _)
  have hok := wff_okD x hi.w
  refine Exs.cons (Ex.ite (Et.not (Et.plain ?_)))
  refine Ev.gB ‹_› ‹_› rfl (fun ζ => rfl) rfl (by decide) rfl ?_
  refine Evs.cons (Ev.name rfl (Evs.cons ?_))
  refine Ev.boot (v := .type "tuple") G.toGd kn.gl kn.bt (kn.glob rfl) (by rw [G.hK]; rfl) rfl (by decide) (Evs.nil (On.isTup hok ⟨_, rfl, ?_⟩))
  by_cases ht : isTupD x = true
  · cases x with
    | tuple xs =>
      refine ifF (by ((try dsimp only [isTupD]) <;> simp)) ?_
      have hxl : xs.length ≤ 900 := by have := hi.n; dsimp only [lens] at this; lia
      have hd := hi.d
      dsimp only [PyData.depth] at hd
      refine Exs.nil (thenDo.nx (Exs.cons (Ex.ite (Et.cmp (Ev.slice (Ev.name rfl (EvP.none (EvP.some (Ev.intC (EvP.none (SlO.tupTake (n := 1) (by lia) ?_)))))))))))
      refine Ev.tup rfl (Evs.cons (Ev.strC (Evs.nil ⟨_, rfl, by simp, ?_⟩)))
      have hokx : okD.okDs xs = true := by simpa [okD] using hok
      have hok1 : okD (.tuple (xs.take 1)) = true := by
        dsimp only [okD]
        exact okDs_of fun y hy => okDs_mem hokx y (List.mem_of_mem_take hy)
      have hd1 : (PyData.tuple (xs.take 1)).depth ≤ 64 := by
        dsimp only [PyData.depth]
        cases xs with
        | nil => simp [PyData.depthAll]
        | cons y ys => simp [PyData.depthAll] at hd ⊢; lia
      refine O2.eqD hu hok1 (by simp [okD, okD.okDs, okW]) hd1 (by simp [PyData.depth, PyData.depthAll]) ⟨_, rfl, ?_⟩
      have hw := hi.w
      dsimp only [wff] at hw
      by_cases hf : isFr xs = true
      · obtain ⟨y, rfl, hy⟩ := wff_fr hf hi.w
        refine ifT (by simp) ?_
        refine Exs.cons (Ex.ret (Ev.lst rfl (Evs.cons (Ev.sub (Ev.name rfl (Ev.intC (O2.subTup (by decide) (by decide) rfl rfl (Evs.nil ⟨_, rfl, by simp, ?_⟩))))))))
        exact ⟨Nat.le_refl _, _, rfl, by ((try dsimp only [lf, frNm]) <;> simp [hf]), rfl⟩
      · rw [if_neg hf] at hw
        have hne : PyData.tuple (xs.take 1) ≠ .tuple [.str (Str.ofString "free")] := fun e => by
          simp only [PyData.tuple.injEq] at e
          cases xs with
          | nil => simp at e
          | cons y ys =>
            simp at e; subst e
            exact hf (by ((try dsimp only [isFr]) <;> simp))
        refine ifF (by simpa using hne) ?_
        have hlf : lf (.tuple xs) = lfs xs := by ((try dsimp only [lf]) <;> simp [hf])
        have hl := hi.l
        rw [hlf] at hl
        refine Exs.nil (thenDo.nx (Exs.cons (Ex.ret (Ev.comp [] loopOk_two kn hA.hd rfl (by ((try dsimp only [fstOk]) <;> simp)) (fun ζ => rfl) ?_))))
        refine It.tuple hA.hd (Ev.name rfl ⟨xs, rfl, by lia, ?_⟩)
        refine ⟨[], fun d => [(Str.ofString "part", Sl.dat d)], by simp, by simp, ?_, by simp, ?_⟩
        · intro c' hc d hd
          exact Asg.name (hc.kn.stores (.inl rfl))
        rw [show xs = xs.map id by simp]
        refine Turns.flatM (α := PyData) (n := 0) (obM := []) id (fun y => (lf y).map .str) rfl xs [] (by rw [← lf_map]; simp; lia) ?_ ?_
        · intro y hy c' ys hc hyl
          have G' : Gs c'.g := hc.g ▸ G
          have kn' := hc.kn
          have hA' : Ok c'.A (3 * n + 10) := hc.A ▸ hA
          have hdy := PyData.depth_le_depthAll _ _ hy
          have hly := lfs_mem_len hy
          have hny := lensA_mem hy
          have hin : FrIn y := ⟨wffs_iff.mp hw y hy, by lia, by lia, by have := hi.n; dsimp only [lens] at this; lia⟩
          have hnd : PyData.depthAll xs + 1 ≤ n := by simpa [PyData.depth, Nat.add_comm] using hn
          have hB := hI (n - 1) (by lia) y hin (by lia)
          rw [← hc.g] at hB
          refine Emit.two hc.le (fun ζ => rfl) (hc.kn.stores (.inl rfl)) rfl rfl rfl ?_
          refine It.list hA'.hd ?_
          refine Ev.gF ‹_› ‹_› rfl (fun ζ => rfl) (fun ζ => rfl) rfl ?_
          refine Evs.cons (Ev.name rfl (Evs.nil (On.callD hB (hA'.le (by lia)) sls1 ?_)))
          rintro r ⟨rfl, _⟩
          dsimp only [slotOf]
          refine ⟨_, (lf y).map .str, rfl, by exact last_get _ _, by simp; lia, ys, [], [], [.list ((lf y).map .str)], by simp, rfl, rfl, by simp, by simpa using hyl, ?_⟩
          exact ⟨rfl, [], by simp⟩
        · rw [← lf_map]
          exact ⟨Nat.le_refl _, _, rfl, by rw [List.map_id, hlf, List.nil_append], rfl⟩
    | _ => ((try dsimp only [isTupD] at ht) <;> simp at ht)
  · have ht : isTupD x = false := by simpa using ht
    refine ifT (by simp [ht]) ?_
    refine Exs.cons (Ex.ret (Ev.lst rfl (Evs.nil ⟨[], rfl, by simp, ?_⟩)))
    refine ⟨Nat.le_refl _, _, rfl, ?_, rfl⟩
    cases x <;> first | rfl | ((try dsimp only [isTupD] at ht) <;> simp at ht)
theorem fr_spec {g : Gx} (G : Gs g) : ∀ n, FrC g n := fun n => by
  induction n using Nat.strongRecOn with
  | ind n ih => exact fr_step G ih
/-! ### binders' names -/
theorem Bn_parts (k : Kd) : Bn k = (match k with | .all x _ _ _ => [x] | _ => []) ++ k.parts.flatMap Bn := by
  cases k <;> ((try dsimp only [Bn, Kd.parts]) <;> simp [Bns_eq])
theorem Bn_noall {k : Kd} (ha : isAll k = false) : Bn k = k.parts.flatMap Bn := by
  rw [Bn_parts]
  cases k <;> first | rfl | exact Bool.noConfusion (show true = false from ha)
noncomputable def BnC (g : Gx) (n : Nat) : Prop := ∀ k : Kd, k.Fit → k.ht ≤ n → Call g (.ref 175) [.dat k.dat] [] [] (3 * n + 10 + 1) (RetN (.list ((Bn k).map .str)) [])
open Classical in
theorem bn_step {g : Gx} (G : Gs g) {n : Nat} (hI : ∀ m, m < n → BnC g m) : BnC g n := by
  intro k hf hn
  refine Call.enter G (fun ζ => rfl) (fun ζ => rfl) (fun ζ => ⟨rfl, rfl, rfl, rfl, rfl, rfl⟩) _ _ (fun ζ => rfl) (fun ζ => rfl) (names := [Str.ofString "kind"]) ?_ (by decide) rfl ?_
  · intro P vs h
    obtain ⟨a, rfl⟩ := lenOne h
    rfl
  intro c hg hA kn hw h0 hmu
  have G0 := G
  subst hg
  have hu : Ok c.A 0 := hA.le (Nat.zero_le _)
  have hsz := hf.sz
  have hlp : k.parts.length ≤ 100 := by
    have := Kd.szs_length k.parts
    have := Kd.szs_parts k
    lia
  have hbl := Bn_len k
  refine Exs.cons (Ex.assign (Ev.lst rfl (Evs.nil ⟨[], rfl, by simp, ?_⟩)) (Kn.stores ‹_› (.inl rfl)) rfl)
  refine thenDo.nx (Exs.cons ((Ex.ite (K := fun fl st1 ob1 => fl = .nx ∧ ∃ i st2, st1 = (Str.ofString "parts", .obj i) :: st2 ∧ st2.lookup (Str.ofString "kind") = some (.dat k.dat) ∧ ob1[i]? = some (.list (k.parts.map Kd.dat))) ?_).mono ?_))
  · cases k <;> dsimp only [Kd.dat] <;> dsimp only [Kd.parts, List.length_cons, List.length_nil] at hlp <;>
      refine Et.or (Et.cmp (Ev.sub (Ev.name rfl (Ev.intC (O2.subTup (by decide) (by decide) rfl rfl (Ev.strC (O2.eqS ⟨_, rfl, ?_⟩))))))) <;>
      first
        | (refine ite_t (by decide) ?_
           refine Exs.cons (Ex.assign (Ev.gT ‹_› ‹_› rfl (fun ζ => rfl) rfl (by decide) rfl (Evs.cons (Ev.ite (Et.cmp (Ev.sub (Ev.name rfl (Ev.intC (O2.subTup (by decide) (by decide) rfl rfl (Ev.strC (O2.eqS ⟨_, rfl, ?_⟩)))))))))) (Kn.stores ‹_› (.inl rfl)) rfl)
           refine ite_f (by decide) ?_
           refine Ev.sub (Ev.name rfl (Ev.intC (O2.subTup (by decide) (by decide) rfl rfl (Evs.nil (On.listT (by simp only [Kd.dats_length]; lia) ?_)))))
           refine Exs.nil ⟨rfl, _, _, rfl, rfl, ?_⟩
           ((try dsimp only [Kd.parts]) <;> simp [Kd.dats_eq]))
        | (refine ite_f (by decide) ?_
           refine Et.cmp (Ev.sub (Ev.name rfl (Ev.intC (O2.subTup (by decide) (by decide) rfl rfl (Ev.strC (O2.eqS ⟨_, rfl, ?_⟩))))))
           refine ite_t (by decide) ?_
           refine Exs.cons (Ex.assign (Ev.gT ‹_› ‹_› rfl (fun ζ => rfl) rfl (by decide) rfl (Evs.cons (Ev.ite (Et.cmp (Ev.sub (Ev.name rfl (Ev.intC (O2.subTup (by decide) (by decide) rfl rfl (Ev.strC (O2.eqS ⟨_, rfl, ?_⟩)))))))))) (Kn.stores ‹_› (.inl rfl)) rfl)
           refine ite_t (by decide) ?_
           refine Ev.slice (Ev.name rfl (EvP.some (Ev.intC (EvP.none (EvP.none (SlO.tup2 (Evs.nil (On.listT (by simp) ?_))))))))
           refine Exs.nil ⟨rfl, _, _, rfl, rfl, ?_⟩
           ((try dsimp only [Kd.parts]) <;> simp [Kd.dats_eq]))
        | (refine ite_f (by decide) ?_
           refine Et.cmp (Ev.sub (Ev.name rfl (Ev.intC (O2.subTup (by decide) (by decide) rfl rfl (Ev.strC (O2.eqS ⟨_, rfl, ?_⟩))))))
           refine ite_f (by decide) ?_
           refine Exs.cons (Ex.ite (Et.cmp (Ev.sub (Ev.name rfl (Ev.intC (O2.subTup (by decide) (by decide) rfl rfl (Ev.tup rfl (Evs.cons (Ev.strC (Evs.cons (Ev.strC (Evs.nil ⟨_, rfl, by simp, ?_⟩))))))))))))
           refine O2.inTS hu (by decide +kernel) (by decide +kernel) ⟨_, rfl, ?_⟩
           first
             | (refine ite_f (by decide +kernel) ?_
                refine Exs.cons (Ex.ite (Et.cmp (Ev.sub (Ev.name rfl (Ev.intC (O2.subTup (by decide) (by decide) rfl rfl (Ev.strC (O2.eqS ⟨_, rfl, ?_⟩))))))))
                first
                  | (refine ite_t (by decide) ?_
                     refine Exs.cons (Ex.assign (Ev.lst rfl (Evs.cons (Ev.sub (Ev.name rfl (Ev.intC (O2.subTup (by decide) (by decide) rfl rfl (Evs.nil ⟨_, rfl, by simp, ?_⟩))))))) (Kn.stores ‹_› (.inl rfl)) rfl)
                     refine Exs.nil (thenDo.nx (Exs.nil (thenDo.nx (Exs.nil ⟨rfl, _, _, rfl, rfl, ?_⟩))))
                     ((try dsimp only [Kd.parts]) <;> simp [Kd.dats_eq]))
                  | (refine ite_f (by decide) ?_
                     refine Exs.nil (thenDo.nx (Exs.nil (thenDo.nx (Exs.nil ⟨rfl, _, _, rfl, rfl, ?_⟩))))
                     ((try dsimp only [Kd.parts]) <;> simp [Kd.dats_eq])))
             | (refine ite_t (by decide +kernel) ?_
                refine Exs.cons (Ex.assign (Ev.bin (Ev.gT ‹_› ‹_› rfl (fun ζ => rfl) rfl (by decide) rfl ?_)) (Kn.stores ‹_› (.inl rfl)) rfl)
                refine Evs.cons (Ev.sub (Ev.name rfl (Ev.intC (O2.subTup (by decide) (by decide) rfl rfl (Evs.nil (On.listT (by simp only [List.length_cons, List.length_nil, Kd.dats_length]; lia) ?_))))))
                refine Ev.ite (Et.and (Et.cmp (Ev.sub (Ev.name rfl (Ev.intC (O2.subTup (by decide) (by decide) rfl rfl (Ev.strC (O2.eqS ⟨_, rfl, ?_⟩))))))))
                first
                  | (refine ite_f (by decide) ?_
                     refine Ev.lst rfl (Evs.nil ⟨[], rfl, by simp, ?_⟩)
                     refine O2.addL (ys := []) rfl rfl (by simp only [List.length_nil, Kd.dats_length]; lia) ?_
                     refine thenDo.nx (Exs.nil (thenDo.nx (Exs.nil ⟨rfl, _, _, rfl, rfl, ?_⟩)))
                     ((try dsimp only [Kd.parts]) <;> simp [Kd.dats_eq]))
                  | (refine ite_t (by decide) ?_
                     refine Et.cmp (Ev.sub (Ev.name rfl (Ev.intC (O2.subTup (by decide) (by decide) rfl rfl (Ev.noneC (O2.nisNone ⟨_, rfl, ?_⟩))))))
                     refine ite_f (by decide) ?_
                     refine Ev.lst rfl (Evs.nil ⟨[], rfl, by simp, ?_⟩)
                     refine O2.addL (ys := []) rfl rfl (by simp) ?_
                     refine thenDo.nx (Exs.nil (thenDo.nx (Exs.nil ⟨rfl, _, _, rfl, rfl, ?_⟩)))
                     ((try dsimp only [Kd.parts]) <;> simp [Kd.dats_eq]))
                  | (refine ite_t (by decide) ?_
                     refine Et.cmp (Ev.sub (Ev.name rfl (Ev.intC (O2.subTup (by decide) (by decide) rfl rfl (Ev.noneC (O2.nisK ⟨_, rfl, ?_⟩))))))
                     refine ite_t (by decide) ?_
                     refine Ev.lst rfl (Evs.cons (Ev.sub (Ev.name rfl (Ev.intC (O2.subTup (by decide) (by decide) rfl rfl (Evs.nil ⟨_, rfl, by simp, ?_⟩))))))
                     refine O2.addL rfl rfl (by simp) ?_
                     refine thenDo.nx (Exs.nil (thenDo.nx (Exs.nil ⟨rfl, _, _, rfl, rfl, ?_⟩)))
                     ((try dsimp only [Kd.parts]) <;> simp [Kd.dats_eq]))))
  rintro fl st1 ob1 ⟨rfl, i, st2, rfl, hk, hob⟩
  refine thenDo.nx (Exs.cons (Ex.assignComp [] loopOk_two kn hA.hd rfl (by ((try dsimp only [fstOk]) <;> simp)) (fun ζ => rfl) (Kn.stores ‹_› (.inl rfl)) ((kn.swapW _ _ _).trans rfl) ?_))
  refine It.list hA.hd (Ev.name rfl ⟨i, _, rfl, hob, by simp; lia, ?_⟩)
  refine ⟨[], fun d => [(Str.ofString "part", Sl.dat d)], by simp, by simp, ?_, by simp, ?_⟩
  · intro c' hc d hd
    exact Asg.name (hc.kn.stores (.inl rfl))
  have hpl : (k.parts.flatMap Bn).length ≤ 100 := by
    rw [← Bns_eq]
    have := Bns_len k.parts
    have := Kd.szs_parts k
    lia
  have hfm : (k.parts.flatMap fun p => (Bn p).map PyData.str) = (k.parts.flatMap Bn).map .str := by rw [List.map_flatMap]
  refine Turns.flatM (α := Kd) (obM := ob1) Kd.dat (fun p => (Bn p).map .str) rfl k.parts [] (by rw [hfm, List.length_map]; dsimp only [List.length_nil]; lia) ?_ ?_
  · intro p hp c' ys hc hyl
    have G' : Gs c'.g := hc.g ▸ G
    have kn' := hc.kn
    have hA' : Ok c'.A (3 * n + 10) := hc.A ▸ hA
    have hph := Kd.parts_ht hp
    have hpn := Bn_len p
    have hps := Kd.parts_sz hp
    have hB := hI (n - 1) (by lia) p (hf.part hp) (by lia)
    rw [← hc.g] at hB
    refine Emit.two hc.le (fun ζ => rfl) (hc.kn.stores (.inl rfl)) rfl rfl rfl ?_
    refine It.list hA'.hd ?_
    refine Ev.gF ‹_› ‹_› rfl (fun ζ => rfl) (fun ζ => rfl) rfl ?_
    refine Evs.cons (Ev.name rfl (Evs.nil (On.callD hB (hA'.le (by lia)) sls1 ?_)))
    rintro r ⟨rfl, _⟩
    dsimp only [slotOf]
    refine ⟨_, (Bn p).map .str, rfl, by exact last_get _ _, by simp; lia, ys, ob1, [], [.list ((Bn p).map .str)], by simp, rfl, by simp, by simp, by simpa using hyl, ?_⟩
    exact ⟨rfl, [], by simp⟩
  rw [hfm, List.nil_append]
  refine thenDo.nx (Exs.cons (Ex.ret (Ev.ite (Et.cmp (Ev.sub (Ev.name hk (Ev.intC (O2.subK0 (Ev.strC (O2.eqS ⟨_, rfl, ?_⟩))))))))))
  by_cases ha : isAll k = true
  · obtain ⟨x, lo, up, bd, rfl⟩ := isAll_inv ha
    · skip
      refine ifT (by ((try dsimp only [Kd.word]) <;> simp)) ?_
      dsimp only [Kd.dat] at hk
      refine Ev.bin (Ev.lst rfl (Evs.cons (Ev.sub (Ev.name hk (Ev.intC (O2.subTup (by decide) (by decide) rfl rfl (Evs.nil ⟨_, rfl, by simp, Ev.name rfl ?_⟩)))))))
      refine O2.addL (xs := [.str x]) (ys := ((Kd.all x lo up bd).parts.flatMap Bn).map .str) (by exact last_get _ _) (gapp _ (last_get _ _)) (by simp at hpl ⊢; lia) ?_
      refine ⟨?_, _, by exact last_get _ _, ?_, by simp⟩
      · simp
      · rw [Bn_parts]; simp
  · have ha : isAll k = false := by simpa using ha
    refine ifF (by simpa using word_ne_all ha) ?_
    refine Ev.name rfl ⟨by simp, _, by exact last_get _ _, ?_, by simp⟩
    rw [Bn_noall ha]
theorem bn_spec {g : Gx} (G : Gs g) : ∀ n, BnC g n := fun n => by
  induction n using Nat.strongRecOn with
  | ind n ih => exact bn_step G ih
end
/-! P19 -/
section
theorem str_mem {x : Str} {l : List Str} : PyData.str x ∈ l.map PyData.str ↔ x ∈ l := by simp
open Classical in
theorem once_spec {g : Gx} (G : Gs g) (ns : List Str) (hl : ns.length ≤ 60) (hok : ∀ x ∈ ns, PyData.strOk x = true) : Call g (.ref 180) [.obj 0] [.list (ns.map .str)] [] 20 (fun r ob' => (∃ ss : List Str, r = .new (.list (ss.map .str)) ∧ ss.Perm (onceL [] ns) ∧ sortedS ss = true) ∧ ob' = [.list (ns.map .str)]) := by
  refine Call.enter G (fun ζ => rfl) (fun ζ => rfl) (fun ζ => ⟨rfl, rfl, rfl, rfl, rfl, rfl⟩) _ _ (fun ζ => rfl) (fun ζ => rfl) (names := [Str.ofString "names"]) ?_ (by decide) rfl ?_
  · intro P vs h
    obtain ⟨a, rfl⟩ := lenOne h
    rfl
  intro c hg hA kn hw h0 hmu
  subst hg
  refine Exs.cons (Ex.ret ?_)
  refine Ev.gB ‹_› ‹_› rfl (fun ζ => rfl) rfl (by decide) rfl (Evs.cons ?_)
  refine Ev.comp [(Str.ofString "names", .obj 0)] loopOk_one kn hA.hd rfl ?_ (fun ζ => rfl) ?_
  · intro p hp
    simp only [List.mem_singleton] at hp
    subst hp
    exact ⟨rfl, rfl, by simp⟩
  refine It.callT G.toGd kn rfl (by rw [G.hK]; rfl) rfl (by decide) rfl (Evs.cons (Ev.name rfl (Evs.nil (OnI.enum (i := 0) (xs := ns.map PyData.str) hA.hd rfl (by simp; lia) ?_))))
  rw [enumD_map]
  refine ⟨[], fun d => match d with | .tuple [a, b] => [(Str.ofString "name", Sl.dat b), (Str.ofString "at", Sl.dat a)] | _ => [], by simp, by simp, ?_, ?_, ?_⟩
  · intro c' hc x hx
    obtain ⟨p, hp, rfl⟩ := List.mem_map.mp hx
    exact Asg.pair (hc.A ▸ hA.hd) (hc.kn.stores (.inl rfl)) (hc.kn.stores (.inl rfl))
  · intro x hx q hq
    obtain ⟨p, hp, rfl⟩ := List.mem_map.mp hx
    simp only [List.mem_cons, List.not_mem_nil, or_false] at hq
    rcases hq with rfl | rfl <;> rfl
  refine Turns.filtM (α := Str × Nat) (n := 1) (obM := [.list (ns.map .str)]) (fun p => .tuple [.int (p.2 : Int), .str p.1]) (fun p => .str p.1) (fun p => decide (p.1 ∉ ns.take p.2)) rfl ?_ ns.zipIdx [] (by simp; lia) ?_ ?_
  · exact fun c2 hc2 => hc2.le
  · rintro ⟨f, k⟩ hp c2 ys hc2
    have hfL : f ∈ ns := by
      have := List.mem_zipIdx hp
      rw [this.2.2]; simp
    have hA2 : Ok c2.A 0 := hc2.A ▸ hA.le (Nat.zero_le _)
    have hob2 : ([Ob.list (ns.map .str)] ++ [Ob.list ys])[0]? = some (.list (ns.map PyData.str)) := rfl
    refine Et.cmp (Ev.name rfl (Ev.slice (Ev.name rfl (EvP.none (EvP.some (Ev.name rfl (EvP.none (SlO.listTake (k := k) hob2 (by simp; lia) ?_))))))))
    refine O2.niL (xs := (ns.map PyData.str).take k) (by exact last_get _ _) hA2 ?_ (by simpa [okD] using hok f hfL) (by simp [PyData.depth]) ⟨_, rfl, ?_, [.list ((ns.map PyData.str).take k)], rfl, fun ζ => Ev.name rfl ⟨rfl, rfl⟩⟩
    · rw [← List.map_take]
      refine okDs_of fun y hy => ?_
      obtain ⟨q, hq, rfl⟩ := List.mem_map.mp hy
      simpa [okD] using hok q (List.mem_of_mem_take hq)
    · rw [← List.map_take]
      have hiff := str_mem (x := f) (l := ns.take k)
      show (!decide (PyData.str f ∈ (ns.take k).map PyData.str)) = decide (f ∉ ns.take k)
      by_cases e : f ∈ ns.take k
      · rw [decide_eq_true (hiff.mpr e), decide_eq_false (fun q => q e)]; rfl
      · rw [decide_eq_false (fun q => e (hiff.mp q)), decide_eq_true e]; rfl
  have hdd : ((ns.zipIdx).filter fun p => decide (p.1 ∉ ns.take p.2)).map (fun p => PyData.str p.1) = (onceL [] ns).map PyData.str := by
    rw [← onceL_firsts ns (fun p => decide (p.1 ∉ ns.take p.2)) (fun x i => by simp), List.map_map]; rfl
  have hln : (onceL [] ns).length ≤ ns.length := by
    rw [← onceL_firsts ns (fun p => decide (p.1 ∉ ns.take p.2)) (fun x i => by simp), List.length_map]
    exact Nat.le_trans (List.length_filter_le _ _) (by simp)
  rw [hdd, List.nil_append]
  refine Evs.nil (On.sortS (by exact last_get _ _) (by lia) fun ss h1 h2 => ?_)
  exact ⟨by simp, _, by exact last_get _ _, ⟨ss, rfl, h1, h2⟩, rfl⟩
end
/-! P20 -/
section
mutual
theorem lens_fo : ∀ f : Fo, lens f.dat ≤ 5 + f.sz
  | .bnd _ => by dsimp only [Fo.dat, lens, lensA, List.length_cons, List.length_nil]; lia
  | .fre _ => by dsimp only [Fo.dat, lens, lensA, List.length_cons, List.length_nil]; lia
  | .name _ ps => by have := lensA_fo ps; dsimp only [Fo.dat, lens, lensA, List.length_cons, List.length_nil, Fo.sz]; simp only [Nat.max_le, Nat.zero_le, true_and, and_true]; (repeat' apply And.intro) <;> lia
  | .tup p => by have := lens_fo p; dsimp only [Fo.dat, lens, lensA, List.length_cons, List.length_nil, Fo.sz]; simp only [Nat.max_le, Nat.zero_le, true_and, and_true]; (repeat' apply And.intro) <;> lia
  | .tupv p r => by have := lens_fo p; have := lens_fo r; dsimp only [Fo.dat, lens, lensA, List.length_cons, List.length_nil, Fo.sz]; simp only [Nat.max_le, Nat.zero_le, true_and, and_true]; (repeat' apply And.intro) <;> lia
  | .uni ps => by have := lensA_fo ps; dsimp only [Fo.dat, lens, lensA, List.length_cons, List.length_nil, Fo.sz]; simp only [Nat.max_le, Nat.zero_le, true_and, and_true]; (repeat' apply And.intro) <;> lia
  | .all a b c => by have := lens_fo a; have := lens_fo b; have := lens_fo c; dsimp only [Fo.dat, lens, lensA, List.length_cons, List.length_nil, Fo.sz]; simp only [Nat.max_le, Nat.zero_le, true_and, and_true]; (repeat' apply And.intro) <;> lia
  | .typeof p => by have := lens_fo p; dsimp only [Fo.dat, lens, lensA, List.length_cons, List.length_nil, Fo.sz]; simp only [Nat.max_le, Nat.zero_le, true_and, and_true]; (repeat' apply And.intro) <;> lia
  | .bottom => by dsimp only [Fo.dat, lens, lensA, List.length_cons, List.length_nil]; lia
theorem lensA_fo : ∀ fs : List Fo, lensA (Fo.dats fs) ≤ 5 + Fo.szs fs ∧ (Fo.dats fs).length ≤ Fo.szs fs
  | [] => by ((try dsimp only [Fo.dats, lensA]) <;> simp)
  | f :: fs => by
    have := lens_fo f
    have := lensA_fo fs
    have := f.sz_pos
    dsimp only [Fo.dats, lensA, List.length_cons, Fo.szs]
    lia
end
/-- what `_law_kind_right` is asked of -/
structure LkIn (k : Kd) (t : Tab) : Prop where
  can : Can k
  ok : k.ok = true
  sz : k.sz ≤ 10
  ht : k.ht ≤ 3
  bl : ∀ b ∈ Bn k, b.length ≤ 50
  tab : TabOk t 4 2
  tc : TabCan t
  tl : t.length ≤ 2
theorem LkIn.tabL {k : Kd} {t : Tab} (h : LkIn k t) : TabL t 4 2 := by
  refine ⟨fun x q e => ?_, by decide, by decide, by decide⟩
  obtain ⟨a, b, c⟩ := h.tab.look e
  exact ⟨a, h.tc.look e, b, c⟩
theorem LkIn.subIn {k : Kd} {t : Tab} (h : LkIn k t) : SubIn t k 4 2 := by
  have h1 := h.sz
  have h2 := h.ht
  have h3 := h.tl
  exact ⟨h.tab, ⟨h.ok, by lia, by lia⟩, by lia, by lia, by decide, by lia, by decide, shrt_of k fun b hb => Nat.le_trans (h.bl b hb) (by decide)⟩
theorem LkIn.renIn {k : Kd} {t : Tab} (h : LkIn k t) : RenIn k := by
  have h1 := h.sz
  have h2 := h.ht
  exact ⟨⟨.inr h.can, h.ok, by lia, h.bl⟩, by lia, by lia⟩
theorem strsD {l : List Str} (h : ∀ x ∈ l, nmOk x = true) : okD.okDs (l.map .str) = true := okDs_of fun y hy => by
  obtain ⟨x, hx, rfl⟩ := List.mem_map.mp hy
  simpa [okD] using nmOk_ok (h x hx)
theorem strsDp {l : List Str} : ∀ x ∈ l.map PyData.str, x.depth ≤ 60 := fun y hy => by
  obtain ⟨x, hx, rfl⟩ := List.mem_map.mp hy
  simp [PyData.depth]
theorem once_eq {l : List Str} (h : l.Nodup) {m ss ss' : List Str} (hm : ∀ x, x ∈ l ↔ x ∈ m) (h1 : ss.Perm l) (h2 : sortedS ss = true) (h3 : ss'.Perm (onceL [] m)) (h4 : sortedS ss' = true) : ss = ss' := by
  refine sortedS_eq h2 h4 (h1.trans (List.Perm.trans ?_ h3.symm))
  refine perm_of_nodup h (onceL_nodup List.nodup_nil) fun x => ?_
  rw [onceL_mem, hm]; simp
open Classical in
theorem right_spec {g : Gx} (G : Gs g) (k : Kd) (t : Tab) (hi : LkIn k t) : Call g (.ref 187) [.dat k.dat, .obj 0] [.dict t.dats] [] 460 (RetD (.bool true) [.dict t.dats]) := by
  refine Call.enter G (fun ζ => rfl) (fun ζ => rfl) (fun ζ => ⟨rfl, rfl, rfl, rfl, rfl, rfl⟩) _ _ (fun ζ => rfl) (fun ζ => rfl) (names := [Str.ofString "kind", Str.ofString "table"]) ?_ (by decide) rfl ?_
  · intro P vs h
    obtain ⟨a, b, rfl⟩ := lenTwo h
    rfl
  intro c hg hA kn hw h0 hmu
  subst hg
  have hu : Ok c.A 0 := hA.le (Nat.zero_le _)
  have s1 := hi.sz
  have s2 := hi.ht
  have T := hi.tabL
  -- the due form
  obtain ⟨f1, f2, f3⟩ := Fk_facts (S := 4) (H := 3) (by decide) (by decide) k (ρ := envL [] t) hi.ok (by lia) (env1_L T (by simp; lia))
  have C1 := form_spec G t k.ht k [] 4 2 ⟨.inr hi.can, hi.ok, T, by simp, by simp; lia, by lia, by lia, by have := hi.tl; lia⟩ (Nat.le_refl _)
  have C2 := subst_spec G k.ht t k 4 2 hi.subIn (Nat.le_refl _)
  obtain ⟨φ, hφ⟩ : ∃ φ, φ = Fk k (envL [] t) := ⟨_, rfl⟩
  rw [← hφ] at C1 f1 f2 f3
  have hF := Fo.facts φ f3
  have hFd := hF.1.d
  have key : ∀ f : Kd, SubR t k f → Et c (.Name (so "x") ⟨0, 0, 0, 0⟩) [] [] (fun ζ ζ => True) → True := fun ζ ζ ζ => trivial
  clear key
  refine Exs.cons ?_
  first
    | refine Ex.twoS kn hA.hd ⟨rfl, rfl⟩ (Kn.stores ‹_› (.inl rfl)) (Kn.stores ‹_› (.inl rfl)) rfl ?_
  refine Ev.gF ‹_› ‹_› rfl (fun ζ => rfl) (fun ζ => rfl) rfl ?_
  refine Evs.cons (Ev.name rfl (Evs.cons (Ev.lst rfl (Evs.nil ⟨[], rfl, by simp, Evs.cons (Ev.name rfl (Evs.nil ?_))⟩))))
  refine On.callZ (args := [.dat k.dat, .obj 0, .obj 1]) [1, 0] C1 (hA.le (by lia)) rfl rfl (by simp) (by simp) ?_
  refine Ev.gF ‹_› ‹_› rfl (fun ζ => rfl) (fun ζ => rfl) rfl ?_
  refine Evs.cons (Ev.name rfl (Evs.cons (Ev.name rfl (Evs.nil ?_))))
  refine On.callSub (args := [.dat k.dat, .obj 0]) [0] C2 (hA.le (by lia)) rfl rfl (by simp) (by simp) fun f hR => ?_
  have hfc := subR_can k hi.tc hi.can hR
  obtain ⟨g1, g2, g3⟩ := subR_fit k hi.tab hi.ok hR
  have hfit : f.Fit := ⟨g1, by lia, by lia⟩
  have hfo : Fk f (envL [] []) = φ := by rw [hφ, envL_nil, envL_cmp]; exact subR_form0 hi.tab hi.tc hi.ok hi.can hR
  have hfo0 : Fk f ρ0 = φ := by rw [← hfo, envL_nil]
  have C3 := form_spec0 G f.ht f [] 1 1 ⟨.inr hfc, g1, tabL_nil, by simp, by simp; lia, by lia, by lia, by simp⟩ (Nat.le_refl _)
  rw [hfo] at C3
  refine thenDo.nx (Exs.cons (Ex.ite (Et.or (Et.cmp ?_))))
  refine Ev.gF ‹_› ‹_› rfl (fun ζ => rfl) (fun ζ => rfl) rfl ?_
  refine Evs.cons (Ev.name rfl (Evs.cons (Ev.lst rfl (Evs.nil ⟨[], rfl, by simp, Evs.cons (Ev.dict0 (Evs.nil ?_))⟩))))
  refine On.callZ (args := [.dat f.dat, .obj 0, .obj 1]) [2, 3] C3 (hA.le (by lia)) rfl rfl (by simp) (by simp) ?_
  refine Ev.name rfl (O2.neD hu hF.2 hF.2 (by lia) (by lia) ⟨_, rfl, ?_⟩)
  refine ifF (by simp) ?_
  refine Et.cmp ?_
  refine Ev.gB ‹_› ‹_› rfl (fun ζ => rfl) rfl (by decide) rfl ?_
  refine Evs.cons ?_
  refine Ev.gF ‹_› ‹_› rfl (fun ζ => rfl) (fun ζ => rfl) rfl ?_
  refine Evs.cons (Ev.name rfl (Evs.nil (On.callD (free_spec G f hfit) (hA.le (by lia)) sls1 ?_)))
  rintro r ⟨ns, rfl, _, nd, nl, nf⟩
  dsimp only [slotOf]
  refine Evs.nil (On.sortS (by exact last_get _ _) (by lia) fun ss p1 p2 => ?_)
  refine Ev.gF ‹_› ‹_› rfl (fun ζ => rfl) (fun ζ => rfl) rfl ?_
  refine Evs.cons ?_
  refine Ev.gF ‹_› ‹_› rfl (fun ζ => rfl) (fun ζ => rfl) rfl ?_
  have hll := LF_len φ
  have hln := lens_fo φ
  have hlo := LF_ok φ f3
  obtain ⟨w1, w2⟩ := lf_fo φ f3
  refine Evs.cons (Ev.name rfl (Evs.nil (On.callD (fr_spec G φ.dat.depth φ.dat ⟨w2, by lia, by rw [w1]; lia, by lia⟩ (Nat.le_refl _)) (hA.le (by lia)) sls1 ?_)))
  rintro r ⟨rfl, _⟩
  rw [w1]
  dsimp only [slotOf]
  refine Evs.nil (On.callC (args := [.obj 0]) [6] (once_spec G (LF φ) (by lia) fun x hx => nmOk_ok (hlo x hx)) (hA.le (by lia)) rfl rfl (by simp) (by simp) ?_)
  rintro r ob' _ ⟨⟨ss', rfl, p3, p4⟩, rfl⟩
  have hss : ss = ss' := once_eq nd (fun x => by rw [nf, ← LF_kind0 hfc, hfo0]) p1 p2 p3 p4
  subst hss
  have hso : ∀ x ∈ ss, nmOk x = true := fun x hx => hlo x (by have := p3.mem_iff.mp hx; rw [onceL_mem] at this; simpa using this)
  dsimp only [slotOf, upd, List.cons_append, List.nil_append, List.set_cons_zero, List.set_cons_succ, List.length_cons, List.length_nil]
  refine O2.neL (xs := ss.map .str) (ys := ss.map .str) rfl rfl hu (strsD hso) (strsD hso) strsDp strsDp ⟨_, rfl, ?_⟩
  refine ifF (by simp) ?_
  have RI := hi.renIn
  refine Exs.nil (thenDo.nx (Exs.cons (Ex.assign ?_ (Kn.stores ‹_› (.inl rfl)) rfl)))
  refine Ev.gF ‹_› ‹_› rfl (fun ζ => rfl) (fun ζ => rfl) rfl ?_
  refine Evs.cons (Ev.name rfl (Evs.cons (Ev.newSup G kn (hA.le (by lia)) rfl (by rw [G.hK]; rfl) (init_spec G) (Evs.nil ?_))))
  refine On.callC (args := [.dat k.dat, .ins 41 0]) [8] (ren_spec G k.ht k 0 RI (Nat.le_refl _) (by lia)) (hA.le (by lia)) rfl rfl (by simp) ?_ ?_
  · intro i hm j hj
    simp only [List.mem_singleton] at hm
    subst hm
    simp only [List.getElem?_cons_zero, Option.some.injEq] at hj
    subst hj
    exact .inl (by rw [h0]; simp)
  rintro r ob' _ ⟨fr, m', rfl, rfl, hRR⟩
  dsimp only [slotOf, upd, List.cons_append, List.nil_append, List.set_cons_zero, List.set_cons_succ, List.length_cons, List.length_nil]
  have RP := ren_main k RI.i (by lia) hRR
  have hrc : Can fr := RP.can.resolve_left fun e => by
    have := RP.bot e
    subst this
    simpa [Can] using hi.can
  have r1 := RP.sz
  have r2 := RP.ht
  have rfit : fr.Fit := ⟨RP.ok, by lia, by lia⟩
  have kfit : k.Fit := ⟨hi.ok, by lia, by lia⟩
  refine thenDo.nx (Exs.cons (Ex.assign ?_ (Kn.stores ‹_› (.inl rfl)) rfl))
  refine Ev.gF ‹_› ‹_› rfl (fun ζ => rfl) (fun ζ => rfl) rfl ?_
  refine Evs.cons (Ev.name rfl (Evs.nil (On.callD (bn_spec G fr.ht fr rfit (Nat.le_refl _)) (hA.le (by lia)) sls1 ?_)))
  rintro r ⟨rfl, _⟩
  dsimp only [slotOf]
  have hbl := Bn_len fr
  have hbo := Bn_ok fr RP.ok
  -- the two forms
  have C4 := form_spec0 G fr.ht fr [] 1 1 ⟨.inr hrc, RP.ok, tabL_nil, by simp, by simp; lia, by lia, by lia, by simp⟩ (Nat.le_refl _)
  have C5 := form_spec0 G k.ht k [] 1 1 ⟨.inr hi.can, hi.ok, tabL_nil, by simp, by simp; lia, by lia, by lia, by simp⟩ (Nat.le_refl _)
  obtain ⟨q1, q2, q3⟩ := Fk_facts (S := 1) (H := 1) (by decide) (by decide) k (ρ := ρ0) hi.ok (by lia) (env1_ρ0 _)
  have hfk := RP.fk ρ0 ρ0_smp
  rw [envL_nil] at C4 C5
  rw [hfk] at C4
  obtain ⟨ψ, hψ⟩ : ∃ ψ, ψ = Fk k ρ0 := ⟨_, rfl⟩
  rw [← hψ] at C4 C5 q1 q2 q3
  have hG := Fo.facts ψ q3
  have hGd := hG.1.d
  refine thenDo.nx (Exs.cons (Ex.ite (Et.or (Et.cmp ?_))))
  refine Ev.gF ‹_› ‹_› rfl (fun ζ => rfl) (fun ζ => rfl) rfl ?_
  refine Evs.cons (Ev.name rfl (Evs.cons (Ev.lst rfl (Evs.nil ⟨[], rfl, by simp, Evs.cons (Ev.dict0 (Evs.nil ?_))⟩))))
  refine On.callZ (args := [.dat fr.dat, .obj 0, .obj 1]) [10, 11] C4 (hA.le (by lia)) rfl rfl (by simp) (by simp) ?_
  refine Ev.gF ‹_› ‹_› rfl (fun ζ => rfl) (fun ζ => rfl) rfl ?_
  refine Evs.cons (Ev.name rfl (Evs.cons (Ev.lst rfl (Evs.nil ⟨[], rfl, by simp, Evs.cons (Ev.dict0 (Evs.nil ?_))⟩))))
  refine On.callZ (args := [.dat k.dat, .obj 0, .obj 1]) [12, 13] C5 (hA.le (by lia)) rfl rfl (by simp) (by simp) ?_
  refine O2.neD hu hG.2 hG.2 (by lia) (by lia) ⟨_, rfl, ?_⟩
  refine ifF (by simp) ?_
  refine Et.cmp ?_
  refine Ev.gF ‹_› ‹_› rfl (fun ζ => rfl) (fun ζ => rfl) rfl ?_
  refine Evs.cons (Ev.name rfl (Evs.nil (On.callC (args := [.obj 0]) [9] (once_spec G (Bn fr) (by lia) fun x hx => nmOk_ok (hbo x hx)) (hA.le (by lia)) rfl rfl (by simp) (by simp) ?_)))
  rintro r ob' _ ⟨⟨ss', rfl, p5, p6⟩, rfl⟩
  dsimp only [slotOf, upd, List.cons_append, List.nil_append, List.set_cons_zero, List.set_cons_succ, List.length_cons, List.length_nil]
  refine Ev.gB ‹_› ‹_› rfl (fun ζ => rfl) rfl (by decide) rfl ?_
  refine Evs.cons (Ev.name rfl (Evs.nil (On.sortS (ss := Bn fr) rfl (by lia) fun s2 p7 p8 => ?_)))
  have hs2 : s2 = ss' := once_eq RP.nd (fun x => Iff.rfl) p7 p8 p5 p6
  subst hs2
  have hsp : ∀ x ∈ s2, nmOk x = true := fun x hx => hbo x (p7.mem_iff.mp hx)
  dsimp only [List.cons_append, List.nil_append]
  refine O2.neL (xs := s2.map .str) (ys := s2.map .str) rfl rfl hu (strsD hsp) (strsD hsp) strsDp strsDp ⟨_, rfl, ?_⟩
  refine ifF (by simp) ?_
  have hpv := RP.pv (ixP [])
  refine Exs.nil (thenDo.nx (Exs.cons (Ex.ret (Ev.and ?_))))
  refine Ev.gF ‹_› ‹_› rfl (fun ζ => rfl) (fun ζ => rfl) rfl ?_
  refine Evs.cons (Ev.name rfl (Evs.cons (Ev.name rfl (Evs.nil (On.callD (same_spec G k fr ⟨.inr hi.can, kfit, by lia⟩ ⟨.inr hrc, rfit, by lia⟩ hpv.symm) (hA.le (by lia)) sls2 ?_)))))
  rintro r ⟨rfl, _⟩
  refine ⟨true, rfl, ?_⟩
  refine ifT rfl ?_
  refine Ev.gF ‹_› ‹_› rfl (fun ζ => rfl) (fun ζ => rfl) rfl ?_
  refine Evs.cons (Ev.name rfl (Evs.cons (Ev.name rfl (Evs.nil (On.callD (same_spec G fr k ⟨.inr hrc, rfit, by lia⟩ ⟨.inr hi.can, kfit, by lia⟩ hpv) (hA.le (by lia)) sls2 ?_)))))
  rintro r ⟨rfl, _⟩
  exact ⟨rfl, rfl⟩
end
/-! P21 -/
section
noncomputable def fixK : Kd := .all (so "T.7") (.var (so "F.1")) anyK (.name (so "Pair") [.var (so "T.7"), .var (so "T.1"), .var (so "F.1")])
noncomputable def fixT : Tab := [(so "F.1", .var (so "T.7"))]
noncomputable def nms4 : List Str := [so "F.1", so "G.2", so "T.1", so "S.2"]
noncomputable def nms3 : List Str := [so "T.1", so "S.2", so "F.1"]
noncomputable def nms2 : List Str := [so "T.1", so "G.2"]
theorem nms4_ok : NmsOk nms4 := ⟨by decide +kernel, by simp [nms4]⟩
theorem nms3_ok : NmsOk nms3 := ⟨by decide +kernel, by simp [nms3]⟩
theorem nms2_ok : NmsOk nms2 := ⟨by decide +kernel, by simp [nms2]⟩
theorem keys_ok : nmOk (so "F.1") = true ∧ nmOk (so "G.2") = true ∧ so "F.1" ≠ so "G.2" := by decide +kernel
theorem fix_in : LkIn fixK fixT := by
  refine ⟨?_, by decide +kernel, by decide +kernel, by decide +kernel, by decide +kernel, ⟨?_, by decide, by decide⟩, ?_, by simp [fixT]⟩
  · dsimp only [fixK, Can, Cans, anyK]; simp
  · intro p hp
    simp only [fixT, List.mem_singleton] at hp
    subst hp
    exact ⟨keys_ok.1, by decide +kernel, by decide, by decide⟩
  · intro p hp
    simp only [fixT, List.mem_singleton] at hp
    subst hp
    simp [Can]
theorem gen_in {k k1 k2 : Kd} {S H : Nat} (hk : Gen S H k) (hS : S ≤ 10) (hH : H ≤ 3) (h1 : Gen 4 2 k1) (h2 : Gen 1 1 k2) : LkIn k [(so "F.1", k1), (so "G.2", k2)] := by
  have a1 := hk.sz
  have a2 := hk.ht
  have b1 := h2.sz
  have b2 := h2.ht
  refine ⟨hk.can, hk.ok, by lia, by lia, hk.bl, ⟨?_, by decide, by decide⟩, ?_, by simp⟩
  · intro p hp
    simp only [List.mem_cons, List.not_mem_nil, or_false] at hp
    rcases hp with rfl | rfl
    · exact ⟨keys_ok.1, h1.ok, h1.sz, h1.ht⟩
    · exact ⟨keys_ok.2.1, h2.ok, by show k2.sz ≤ 4; lia, by show k2.ht ≤ 2; lia⟩
  · intro p hp
    simp only [List.mem_cons, List.not_mem_nil, or_false] at hp
    rcases hp with rfl | rfl
    · exact h1.can
    · exact h2.can
theorem law_walk : ∃ (b : List Stmt) (scope : Scope), (∀ P, (fdOf (hpK P) 194).body = .stmts b) ∧ (∀ P, (fdOf (hpK P) 194).scope = scope) ∧
    ∀ {g : Gx}, Gs g → ∀ (a : Addr) (vs : Array Value), g.hb.IsList a vs → vs.size ≤ 63 → (∀ v ∈ vs, ∃ i t, v = .int i t) →
      ∀ c : Cx, c.g = g → Ok c.A 470 → Kn c scope → c.wc = true → c.n₀ = 0 → c.mu = [] →
        Exs c b [(Str.ofString "script", .val (.ref a))] [] fun fl ζ ζ => fl = .rt (.dat (.bool true)) := by
  refine ⟨_, _, fun ζ => rfl, fun ζ => rfl, ?_⟩
  intro g G a vs hl hn hi c hg hA kn hw h0 hmu
  subst hg
  have hu : Ok c.A 0 := hA.le (Nat.zero_le _)
  refine Exs.cons (Ex.assign (Ev.tup rfl (Evs.cons (Ev.strC (Evs.cons (Ev.strC (Evs.cons (Ev.tup rfl (Evs.cons (Ev.tup rfl (Evs.cons (Ev.strC (Evs.cons (Ev.strC (Evs.nil ⟨_, rfl, by simp, ?_⟩)))))))))))))) (Kn.stores ‹_› (.inl rfl)) rfl)
  refine Evs.cons (Ev.tup rfl (Evs.cons (Ev.strC (Evs.cons (Ev.strC (Evs.nil ⟨_, rfl, by simp, ?_⟩))))))
  refine Evs.cons (Ev.tup rfl (Evs.cons (Ev.strC (Evs.cons (Ev.strC (Evs.nil ⟨_, rfl, by simp, ?_⟩))))))
  refine Evs.nil ⟨_, rfl, by simp, Evs.nil ⟨_, rfl, by simp, ?_⟩⟩
  refine thenDo.nx (Exs.cons (Ex.assign (Ev.tup rfl (Evs.cons (Ev.strC (Evs.cons (Ev.strC (Evs.cons (Ev.tup rfl (Evs.cons (Ev.strC (Evs.cons (Ev.strC (Evs.nil ⟨_, rfl, by simp, ?_⟩)))))))))))) (Kn.stores ‹_› (.inl rfl)) rfl))
  refine Evs.cons (Ev.any ‹_› ‹_› rfl (Evs.cons (Ev.name rfl (Evs.nil ⟨_, rfl, by simp, ?_⟩))))
  refine thenDo.nx (Exs.cons (Ex.ite (Et.not (Et.plain ?_))))
  refine Ev.gF ‹_› ‹_› rfl (fun ζ => rfl) (fun ζ => rfl) rfl ?_
  refine Evs.cons (Ev.name rfl (Evs.cons (Ev.dict (ks := [_]) (vs := [_]) (by simp) rfl (by simp) ?_ (by rw [h0]; exact Nat.zero_le _))))
  refine Ev.strC ⟨_, rfl, Ev.tup rfl (Evs.cons (Ev.strC (Evs.cons (Ev.strC (Evs.nil ⟨_, rfl, by simp, _, rfl, by simp, rfl, Evs.nil ?_⟩)))))⟩
  refine On.callZ (args := [.dat fixK.dat, .obj 0]) [0] (right_spec G fixK fixT fix_in) (hA.le (szs rfl)) rfl rfl (by simp) (by simp) ?_
  refine ⟨true, rfl, ?_⟩
  refine ifF (by simp) ?_
  dsimp only [slotOf, upd, List.cons_append, List.nil_append, List.set_cons_zero, List.length_nil]
  refine Exs.nil (thenDo.nx (Exs.cons ((Ex.for (K := fun fl ζ ζ => fl = .nx) (fun ζ => rfl) ?_).mono ?_)))
  · refine It.callT G.toGd kn rfl (by rw [G.hK]; rfl) rfl (by decide) rfl (Evs.cons ?_)
    refine Ev.gB ‹_› ‹_› rfl (fun ζ => rfl) rfl (by decide) rfl ?_
    refine Evs.cons (Ev.intC (Evs.cons ?_))
    refine Ev.gB ‹_› ‹_› rfl (fun ζ => rfl) rfl (by decide) rfl ?_
    refine Evs.cons ?_
    refine Ev.gB ‹_› ‹_› rfl (fun ζ => rfl) rfl (by decide) rfl ?_
    refine Evs.cons (Ev.name rfl (Evs.nil (On.lenV hl (by lia) (Evs.cons (Ev.intC (Evs.nil (On.minI hA.hd (Evs.nil (On.maxI hA.hd (Evs.nil ?_))))))))))
    obtain ⟨n, hn1, hn2⟩ : ∃ n : Nat, max (1 : Int) (min (vs.size : Int) 2) = (n : Int) ∧ n ≤ 2 := ⟨(max (1 : Int) (min (vs.size : Int) 2)).toNat, by lia, by lia⟩
    rw [hn1]
    refine OnI.range hA.hd (by lia) ⟨fun d => [(Str.ofString "k", Sl.dat d)], by simp, ?_, ?_⟩
    · intro c' hc d hd
      exact Asg.name ((hc.kn _ kn).stores (.inl rfl))
    unfold upto
    refine ForTurns.inv (fun i : Nat => .int (i : Int)) (fun rest st ob => st.lookup (Str.ofString "script") = some (.val (.ref a)) ∧ ob = [.dict fixT.dats] ∧ ∀ i ∈ rest, i < n) ?_ ?_ (List.range n) _ _ ⟨rfl, rfl, fun i hi => List.mem_range.mp hi⟩
    · rintro i rest st ob c' ⟨hst, rfl, hri⟩ hc
      have hin := hri i (by simp)
      have kn' := hc.kn _ kn
      have G' : Gs c'.g := hc.g ▸ G
      have hA' : Ok c'.A 470 := hc.A ▸ hA
      have h0' : c'.n₀ = 0 := hc.n₀.trans h0
      have hl' : c'.g.hb.IsList a vs := hc.g.symm ▸ hl
      refine Exs.cons (Ex.assign ?_ (kn'.stores (.inl rfl)) rfl)
      refine Ev.gF G' kn' rfl (fun ζ => rfl) (fun ζ => rfl) rfl (Evs.cons (Ev.name (by exact hst) (Evs.cons (Ev.name rfl (Evs.nil ?_)))))
      refine On.callC (args := [.val (.ref a), .dat (.int i)]) [] (flask_spec G' a vs hl' hn hi i (by lia)) (hA'.le (szs rfl)) rfl rfl (by simp) (by simp) ?_
      rintro r ob' _ ⟨p, q, rfl, rfl, hf⟩
      dsimp only [slotOf, upd, List.cons_append, List.nil_append, List.length_cons, List.length_nil]
      refine thenDo.nx (Exs.cons (Ex.assign ?_ (kn'.stores (.inl rfl)) rfl))
      refine Ev.gF G' kn' rfl (fun ζ => rfl) (fun ζ => rfl) rfl (Evs.cons (Ev.name rfl (Evs.cons (Ev.bin (Ev.intC ?_)))))
      refine Ev.gF G' kn' rfl (fun ζ => rfl) (fun ζ => rfl) rfl (Evs.cons (Ev.name rfl (Evs.cons (Ev.intC (Evs.nil ?_)))))
      refine On.callC (args := [.obj 0, .dat (.int (2 : Nat))]) [1] (sip_spec G' p q 2 hf (by decide) (by decide)) (hA'.le (szs rfl)) rfl rfl (by simp) (fun ζ ζ j ζ => .inl (by lia)) ?_
      rintro r ob' _ ⟨w, p1, q1, rfl, rfl, hw2, hf1⟩
      dsimp only [slotOf, upd, List.cons_append, List.nil_append, List.set_cons_zero, List.set_cons_succ]
      refine O2.addI ?_
      rw [show (1 : Int) + (w : Int) = ((1 + w : Nat) : Int) by lia]
      refine Evs.cons (Ev.lst rfl (Evs.cons (Ev.strC (Evs.cons (Ev.strC (Evs.cons (Ev.strC (Evs.cons (Ev.strC (Evs.nil ⟨_, rfl, by simp, Evs.nil ?_⟩))))))))))
      refine On.callC (args := [.obj 0, .dat (.int (1 + w : Nat)), .obj 1]) [1, 2] (gen_spec G' (1 + w) (by lia) p1 q1 nms4 hf1 nms4_ok (by simp [nms4]; lia)) (hA'.le (by lia)) rfl rfl (by simp) (fun ζ ζ j ζ => .inl (by lia)) ?_
      rintro r ob' _ ⟨kd, p2, q2, rfl, rfl, hf2, hgk⟩
      dsimp only [slotOf, upd, genL, List.cons_append, List.nil_append, List.set_cons_zero, List.set_cons_succ]
      have hS : szd (1 + w) ≤ 10 := by
        rcases (by lia : w = 0 ∨ w = 1) with rfl | rfl <;> decide
      refine thenDo.nx (Exs.cons (Ex.assign ?_ (kn'.stores (.inl rfl)) rfl))
      refine Ev.dict (ks := [_, _]) (vs := [_, _]) (by simp) rfl (by simp) ?_ (by lia)
      refine Ev.strC ⟨_, rfl, ?_⟩
      refine Ev.gF G' kn' rfl (fun ζ => rfl) (fun ζ => rfl) rfl (Evs.cons (Ev.name rfl (Evs.cons (Ev.intC (Evs.cons (Ev.lst rfl (Evs.cons (Ev.strC (Evs.cons (Ev.strC (Evs.cons (Ev.strC (Evs.nil ⟨_, rfl, by simp, Evs.nil ?_⟩)))))))))))))
      refine On.callC (args := [.obj 0, .dat (.int (1 : Nat)), .obj 1]) [1, 4] (gen_spec G' 1 (szs rfl) p2 q2 nms3 hf2 nms3_ok (by simp [nms3])) (hA'.le (szs rfl)) rfl rfl (by simp) (fun ζ ζ j ζ => .inl (by lia)) ?_
      rintro r ob' _ ⟨k1, p3, q3, rfl, rfl, hf3, hg1⟩
      dsimp only [slotOf, upd, genL, List.cons_append, List.nil_append, List.set_cons_zero, List.set_cons_succ]
      refine ⟨_, rfl, Ev.strC ⟨_, rfl, ?_⟩⟩
      refine Ev.gF G' kn' rfl (fun ζ => rfl) (fun ζ => rfl) rfl (Evs.cons (Ev.name rfl (Evs.cons (Ev.intC (Evs.cons (Ev.lst rfl (Evs.cons (Ev.strC (Evs.cons (Ev.strC (Evs.nil ⟨_, rfl, by simp, Evs.nil ?_⟩)))))))))))
      refine On.callC (args := [.obj 0, .dat (.int (0 : Nat)), .obj 1]) [1, 5] (gen_spec G' 0 (szs rfl) p3 q3 nms2 hf3 nms2_ok (by simp [nms2])) (hA'.le (szs rfl)) rfl rfl (by simp) (fun ζ ζ j ζ => .inl (by lia)) ?_
      rintro r ob' _ ⟨k2, p4, q4, rfl, rfl, hf4, hg2⟩
      dsimp only [slotOf, upd, genL, List.cons_append, List.nil_append, List.set_cons_zero, List.set_cons_succ]
      refine ⟨_, rfl, by simpa using keys_ok.2.2, rfl, ?_⟩
      dsimp only [List.length_cons, List.length_nil, List.set_cons_zero, List.set_cons_succ]
      refine thenDo.nx (Exs.cons (Ex.ite (Et.not (Et.plain ?_))))
      refine Ev.gF G' kn' rfl (fun ζ => rfl) (fun ζ => rfl) rfl (Evs.cons (Ev.name rfl (Evs.cons (Ev.name rfl (Evs.nil ?_)))))
      refine On.callZ (args := [.dat kd.dat, .obj 0]) [3] (right_spec G' kd [(so "F.1", k1), (so "G.2", k2)] (gen_in hgk hS (by lia) hg1 hg2)) (hA'.le (szs rfl)) rfl rfl (by simp) (by simp) ?_
      refine ⟨true, rfl, ?_⟩
      refine ifF (by simp) ?_
      refine Exs.nil (thenDo.nx (Exs.nil ?_))
      exact ⟨[(Str.ofString "script", .val (.ref a))], [.dict fixT.dats], ⟨Nat.le_refl _, ⟨_, rfl⟩, fun p hp => by
        simp only [List.mem_singleton] at hp
        subst hp
        exact ⟨by exact hst, trivial⟩⟩, rfl, rfl, fun j hj => hri j (List.mem_cons_of_mem _ hj)⟩
    · exact fun st ob ζ => rfl
  · rintro fl st1 ob1 rfl
    refine thenDo.nx (Exs.cons (Ex.ret (Ev.boolC ?_)))
    exact rfl
end
/-! P22 -/
section
theorem ints_all : ∀ {vs : List Value} {zs : List Int}, IntsAre vs zs → vs.length = zs.length ∧ ∀ v ∈ vs, ∃ i t, v = .int i t
  | _, _, .nil => ⟨rfl, by simp⟩
  | _, _, .cons n t h => by
    obtain ⟨a, b⟩ := ints_all h
    refine ⟨by simp [a], fun v hv => ?_⟩
    rcases List.mem_cons.mp hv with rfl | hv
    · exact ⟨n, t, rfl⟩
    · exact b v hv
theorem ok_caller (env : Env) : Ok (callerA.deeper env) 470 := ⟨rfl, rfl, by show 1 + claimMargin + 1 + 470 < recursionLimit; decide, by show _ < cLine; simp [Around.deeper, callerA, cLine]⟩
set_option tactic.hygienic true in
theorem head_join {w : World} {p : Program} {loose : List Str} {mean : ExcName → Option Value} {mg mb : Str → Option Value} {name : Str} {b : List Stmt} {scope : Scope} {fa : Addr} {cd : Value} {a : Addr} {vs : List Value} {zs : List Int} {s₁ : Shared} {h₁ : Heap} {m : Str → Option Value} {tk : Nat}
    {Q : Flow → Shared → Prop} {E : Value → Shared → Prop}
    (hb : ∀ P, (fdOf (hpK P) 194).body = .stmts b) (hs : ∀ P, (fdOf (hpK P) 194).scope = scope) (hk : scope.kind = .function) (hsc : scope.names.lookup (Str.ofString "script") = some .local) (hce : ∀ x, scope.names.lookup x ≠ some .cell)
    (KX : (hpK w.params).In s₁.heap) (T : Top p loose mean mg mb s₁.heap) (F : Fr s₁.heap s₁.heap.objs.size h₁ m) (hm : m (Str.ofString "script") = some (.ref a))
    (hL : s₁.heap.IsList a vs.toArray) (hI : IntsAre vs zs) (hn : zs.length ≤ 63)
    (hQ : ∀ s', (∃ h tk, s' = { s₁ with heap := h, toks := tk }) → (∀ b o, s₁.heap.get? b = some o → s'.heap.get? b = some o) → Q (.ret (.bool true)) s') :
    wpAny (model PySem.Challenge.rw_sa0485_01.row.prog w) (callerA.deeper (envOf name scope s₁.heap.objs.size fa cd)) (execs b (envOf name scope s₁.heap.objs.size fa cd)) Q E { s₁ with heap := h₁, toks := tk } := by
  obtain ⟨b', scope', hb', hs', H⟩ := law_walk
  obtain rfl : b' = b := by have := (hb' w.params).symm.trans (hb w.params); injection this
  obtain rfl : scope' = scope := (hs' w.params).symm.trans (hs w.params)
  obtain ⟨hlen, hall⟩ := ints_all hI
  let g : Gx := { prog := PySem.Challenge.rw_sa0485_01.row.prog, w := w, K := hpK w.params, p := p, loose := loose, mean := mean, mg := mg, mb := mb, hb := s₁.heap, hi := ⟨16, _, by decide, KX 16 _ rfl⟩ }
  have G : Gs g := { K := KX, T := T, hK := rfl, prog := rfl }
  let c : Cx := { g := g, A := callerA.deeper (envOf name scope' s₁.heap.objs.size fa cd), env := envOf name scope' s₁.heap.objs.size fa cd, s₀ := s₁, n₀ := 0, mu := [], X := [] }
  have kn : Kn c scope' := ⟨fun ζ => rfl, rfl, rfl, fun x hx => absurd hx (hce x), hk, rfl⟩
  have Fm0 : Fm c [] [(Str.ofString "script", .val (.ref a))] [] { s₁ with heap := h₁, toks := tk } := {
    same := ⟨h₁, tk, rfl⟩
    base := F.keep
    ext := fun b o e ζ => F.keep b o e
    xin := fun a m => by cases m
    nd := List.nodup_nil
    own := fun i a e => by simp at e
    afr := fun i a e => by simp at e
    hbn := fun a m => by cases m
    obs := .nil
    ns := ⟨_, F.ns⟩
    lap := by simp
    lhb := new_of_ge (Nat.le_refl _)
    lfr := new_of_ge (Nat.le_refl _)
    cis := fun x a e => by simp [c, envOf] at e
    cap := fun x y a e => by simp [c, envOf] at e
    cfr := fun ζ x a e => by simp [c, envOf] at e
    chb := fun x a e => by simp [c, envOf] at e
    vars := fun x sl e => by
      dsimp only [List.lookup_cons, List.lookup_nil] at e
      split at e
      · rename_i hx
        have hx := beq_iff_eq.mp hx
        subst hx
        cases e
        exact ⟨.ref a, .inl ⟨(kn.kd _).trans hsc, _, F.ns, hm⟩, rfl⟩
      · cases e
    kind := hk
    par := fun i a e => by simp at e
    npl := Nat.le_refl _
    prk := fun p m => by cases m
    pra := fun p m => by cases m
    prl := fun p m => by cases m
    prc := fun p m => by cases m }
  refine wpAny_mono ((H G a vs.toArray hL (by simp; lia) (fun v hv => hall v (by simpa using hv)) c rfl (ok_caller _) kn rfl rfl rfl).run [] _ Fm0) ?_ fun ζ ζ x => x.elim
  rintro fl s' ⟨fl', st', ob', nw, F', hfl, tk', k⟩
  subst k
  obtain ⟨v, rfl, hv⟩ := hfl
  obtain rfl : v = .bool true := D.bool_inv hv
  exact hQ s' F'.same fun b o e => F'.base b o e
end
end Mine
theorem Mine.cell_mem {x : Str} : ∀ {l : List (Str × NameKind)}, l.lookup x = some .cell → ∃ y, (y, NameKind.cell) ∈ l
  | [], h => by simp at h
  | (y, k) :: l, h => by
    rw [List.lookup_cons] at h
    split at h
    · cases h; exact ⟨y, by simp⟩
    · obtain ⟨z, hz⟩ := Mine.cell_mem h
      exact ⟨z, List.mem_cons_of_mem _ hz⟩
set_option maxRecDepth 100000 in
set_option tactic.hygienic true in
theorem PySem.Challenge.cw_sa0485_01_holds : PySem.Challenge.rw_sa0485_01.Holds := by
  w_on
  refine holds_law Mine.said fun said => ?_
  refine holds_open (q := Mine.view) (loose := []) (XP := XL Mine.view []) (YP := Hook.says (kHook Mine.hpK Mine.adrs Mine.adrs_eq)) (N := 2140) Mine.left (Hook.of (kHook Mine.hpK Mine.adrs Mine.adrs_eq)) (Hook.keeps (kHook Mine.hpK Mine.adrs Mine.adrs_eq)) (fun s e => xl_of s (Bool.and_eq_true_iff.mp e).1) XL.keeps (by rfl) (by rfl) (by rfl) (fun s e => recFacts_of (Bool.and_eq_true_iff.mp e).2) (by rfl) (by first | assumption | decide +kernel) (by decide +kernel) ⟨rfl, rfl, rfl, rfl, rfl, by decide +kernel⟩ ?hw ?hc
  · w_witness2
  generalize Mine.view = vw
  k_go0
  all_goals try k_fold
  rename_i W s0 s1 mg mb GG Y fa o pm cd doc kV ho hcd hg KX X V T B TD TE TW w7 w6 M w5 hs hlay0 hL1 hr1 hl2 w4 w3 w2 w1 w hL ra ww r0 hI hr hc1 hc2 K0 hD h₁ F N0
  have hn : w5.length ≤ 63 := by clear hD hcd F N0; lia
  refine @Mine.head_join W vw (looseW vw []) (ExcName.means s0.heap) mg mb _ _ _ fa cd w2 w1 w5 s1 h₁ _ _ _ _ ?_ ?_ ?_ ?_ ?_ KX T F ?_ hL hI hn ?_
  · intro P; rfl
  · intro P; rfl
  · rfl
  · rfl
  · intro x hx
    obtain ⟨y, hy⟩ := Mine.cell_mem hx
    simp at hy
  · rfl
  · rintro s' ⟨h, tk, rfl⟩ hk
    refine ⟨.inl ⟨.bool true, .bool true, [], rfl, ?_, .bool true, ?_, ?_⟩, hk, rfl, hg⟩
    · intro cls; rfl
    · with_unfolding_all rfl
    · intro hx; exact ⟨List.nodup_nil, fun a ha => by cases ha⟩
