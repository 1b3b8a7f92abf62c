import PyProof.Rows.All
import Wide.All
import OpenK.AllK
import Wide.FinOn
import Lean
import PySem.Challenge.RW_xw0198_01
open PySem PySem.W PyProof.Rows
set_option Elab.async false
set_option maxRecDepth 100000
set_option maxHeartbeats 8000000

namespace Mine
open_top hd for PySem.Challenge.rw_xw0198_01
end Mine

namespace Mine
def Ctr (lev : Nat) (f : Addr) (vs : List Value) (news : List (Addr × Obj)) (R : Value → List (Addr × Obj) → Prop) : Prop :=
  ∀ (w : World) (mean : ExcName → Option Value) (mg mb : Str → Option Value) (dp un : Nat) (gd : Option (List Code)) (cn : Str) (cs : Scope) (a : Addr) (ccd : Value) (cl : List (Str × Addr)) (outer : List Env) (A₀ : Around) (base h₀ : Heap) (L : Addr) (m : Str → Option Value) (s : Shared) (Q E : Value → Shared → Prop),
    Below A₀ base outer h₀ → Fr h₀ L s.heap m → (hd.heap_39 w.params).In h₀ → News h₀ L s.heap news →
    Top hd.view_39 (looseW hd.view_39 []) mean mg mb h₀ → cs.kind = .function → dp + lev < recursionLimit → un + 8 * lev < cLine →
    (∀ (r : Value) (nx : List (Addr × Obj)) (h' : Heap) (tk' : Nat), Fr h₀ L h' m → News h₀ L h' nx → R r nx → Q r { s with heap := h', toks := tk' }) →
    wpAny (model PySem.Challenge.rw_xw0198_01.row.prog w) (ktrTop dp un gd cn cs L a ccd cl outer) (call (.ref f) vs) Q E s
end Mine

namespace Mine
theorem Ctr.use {lev : Nat} {f : Addr} {vs : List Value} {news : List (Addr × Obj)} {R : Value → List (Addr × Obj) → Prop} (C : Ctr lev f vs news R)
    {w : World} {mean : ExcName → Option Value} {mg mb : Str → Option Value} {dp un : Nat} {gd : Option (List Code)} {cn : Str} {cs : Scope} {a : Addr} {ccd : Value} {cl : List (Str × Addr)} {outer : List Env} {A₀ : Around} {base h₀ : Heap} {L : Addr} {m : Str → Option Value} {s : Shared} {Q E : Value → Shared → Prop}
    (B : Below A₀ base outer h₀) (F : Fr h₀ L s.heap m) (X : (hd.heap_39 w.params).In h₀) (N : News h₀ L s.heap news)
    (T : Top hd.view_39 (looseW hd.view_39 []) mean mg mb h₀) (hk : cs.kind = .function) (hd : dp + lev < recursionLimit) (hu : un + 8 * lev < cLine)
    (hret : ∀ (r : Value) (nx : List (Addr × Obj)) (h' : Heap) (tk' : Nat), Fr h₀ L h' m → News h₀ L h' nx → R r nx → Q r { s with heap := h', toks := tk' }) :
    wpAny (model PySem.Challenge.rw_xw0198_01.row.prog w) (ktrTop dp un gd cn cs L a ccd cl outer) (call (.ref f) vs) Q E s :=
  C w mean mg mb dp un gd cn cs a ccd cl outer A₀ base h₀ L m s Q E B F X N T hk hd hu hret

def behV (T W : Str) (st : Int) (t : Tok) : Value := if Txt.find3 T W st < 0 then .none else .int (Txt.find3 T W st + (W.length : Int)) t

theorem behind_ok {T W : Str} {t u v : Tok} {st : Int} {news : List (Addr × Obj)} (hT : T.length ≤ 100000) (hW : W.length ≤ 100000) :
    Ctr 1 28 [.str T t, .str W u, .int st v] news (fun r nx => nx = news ∧ ∃ t, r = behV T W st t) := by
  unfold Ctr; k_fill
  intro w mean mg mb dp un gd cn cs a ccd cl outer A₀ base h₀ L m s Q E B F X N T hk hd hu hret
  refine wpAny_call ?_
  k_dflt cell_enter
  k_steps
  · exact hret _ _ _ _ (by k_asm) (by k_asm) ⟨rfl, 0, (if_pos (by assumption)).symm⟩
  · exact hret _ _ _ _ (by k_asm) (by k_asm) ⟨rfl, _, (if_neg (by assumption)).symm⟩

theorem may_ok {T W : Str} {t u : Tok} {news : List (Addr × Obj)} (hT : T.length ≤ 100000) (hW : W.length ≤ 100000) :
    Ctr 1 21 [.str T t, .str W u] news (fun r nx => nx = news ∧ r = .bool (decide ((T.length : Int) < W.length) && Txt.startswith W T)) := by
  unfold Ctr; k_fill
  intro w mean mg mb dp un gd cn cs a ccd cl outer A₀ base h₀ L m s Q E B F X N T hk hd hu hret
  refine wpAny_call ?_
  k_dflt cell_enter
  k_steps
  · exact hret _ _ _ _ (by k_asm) (by k_asm) ⟨rfl, by simp [show (_ : Int) < _ from by assumption]⟩
  · exact hret _ _ _ _ (by k_asm) (by k_asm) ⟨rfl, by simp [show ¬ (_ : Int) < _ from by assumption]⟩

theorem behV_cases (T W : Str) (st : Int) (t : Tok) : (Txt.find3 T W st < 0 ∧ behV T W st t = .none) ∨ (¬ Txt.find3 T W st < 0 ∧ behV T W st t = .int (Txt.find3 T W st + (W.length : Int)) t) := by
  unfold behV
  by_cases h : Txt.find3 T W st < 0
  · exact .inl ⟨h, if_pos h⟩
  · exact .inr ⟨h, if_neg h⟩
end Mine

namespace Mine
/-- the first place where w stands in the list -/
def findL (w : List Nat) : List Nat → Option Nat
  | [] => if w.isPrefixOf [] then some 0 else none
  | c :: r => if w.isPrefixOf (c :: r) then some 0 else (findL w r).map (· + 1)
inductive Tn where
  | go (k : Nat) (w : Bool)
  | ret
  | brk
def Tn.isRet : Tn → Bool
  | .ret => true
  | _ => false
def Tn.isBrk : Tn → Bool
  | .brk => true
  | _ => false
theorem Tn.ret_of : ∀ {t : Tn}, t.isRet = true → t = .ret
  | .ret, _ => rfl
theorem Tn.brk_of : ∀ {t : Tn}, t.isBrk = true → t = .brk
  | .brk, _ => rfl
theorem Tn.not_ret : ∀ {t : Tn}, (!t.isRet) = true → t ≠ .ret
  | .go _ _, _, e => nomatch e
  | .brk, _, e => nomatch e
def hop (o : Option Nat) (a b : Nat) (w : Bool) : Tn := match o with
  | none => .brk
  | some k => .go (a + k + b) w
/-- one turn of the while, upon what is left of the text -/
def turn (s : List Nat) (w : Bool) : Tn :=
  if [60, 33, 45, 45].isPrefixOf s then hop (findL [45, 45, 62] (s.drop 4)) 4 3 w
  else if [60, 63].isPrefixOf s then hop (findL [63, 62] (s.drop 2)) 2 2 w
  else if (s.take 4).isPrefixOf [60, 33, 45, 45] then .brk
  else match s with
    | [] => .brk
    | c :: r =>
      if c = 34 ∨ c = 39 then hop (findL [c] r) 1 1 w
      else if c = 62 ∧ w = false then .ret
      else if c = 91 ∨ c = 93 then .go 1 (c == 91)
      else .go 1 w
def next (c : List Nat × Bool) : Option (List Nat × Bool) :=
  if c.1 = [] then none else match turn c.1 c.2 with
    | .go k w => some (c.1.drop k, w)
    | _ => none
def after : Nat → List Nat × Bool → Option (List Nat × Bool)
  | 0, c => some c
  | n + 1, c => (after n c).bind next
def Reach (c d : List Nat × Bool) : Prop := ∃ n, after n c = some d
theorem Reach.refl (c : List Nat × Bool) : Reach c c := ⟨0, rfl⟩
theorem Reach.step {c d e : List Nat × Bool} (h : Reach c d) (q : next d = some e) : Reach c e := by
  obtain ⟨n, h⟩ := h
  exact ⟨n + 1, by show (after n c).bind next = _; rw [h]; exact q⟩
theorem after_add (m : Nat) (c d : List Nat × Bool) (n : Nat) (h : after n c = some d) : after (n + m) c = after m d := by
  induction m with
  | zero => exact h
  | succ m ih => show (after (n + m) c).bind next = (after m d).bind next; rw [ih]
theorem Reach.trans {c d e : List Nat × Bool} (h : Reach c d) (k : Reach d e) : Reach c e := by
  obtain ⟨n, h⟩ := h
  obtain ⟨m, k⟩ := k
  exact ⟨n + m, (after_add m c d n h).trans k⟩
theorem after_end {c : List Nat × Bool} (h : next c = none) : ∀ m d, after m c = some d → d = c := by
  intro m
  induction m with
  | zero => intro d e; exact (Option.some.inj e).symm
  | succ m ih =>
    intro d e
    cases q : after m c with
    | none => rw [show after (m + 1) c = (after m c).bind next from rfl, q] at e; cases e
    | some x =>
      rw [show after (m + 1) c = (after m c).bind next from rfl, q, ih x q] at e
      rw [show (some c).bind next = next c from rfl, h] at e
      cases e
theorem Reach.one {c d e : List Nat × Bool} (h : Reach c d) (k : Reach c e) (hd : next d = none) (he : next e = none) : d = e := by
  obtain ⟨n, h⟩ := h
  obtain ⟨m, k⟩ := k
  rcases Nat.le_total n m with q | q
  · have := after_add (m - n) c d n h
    rw [Nat.add_sub_cancel' q, k] at this
    exact (after_end hd _ _ this.symm).symm
  · have := after_add (n - m) c e m k
    rw [Nat.add_sub_cancel' q, h] at this
    exact after_end he _ _ this.symm
end Mine

namespace Mine
open PySem.Builtin PySem.Builtin.Str
abbrev ls (x : Str) : List Nat := x.cps.toList
theorem ls_len (x : Str) : (ls x).length = x.length := by simp [Str.length]
theorem pre_iff (w s : List Nat) : (s.take w.length == w) = w.isPrefixOf s := by
  rw [Bool.eq_iff_iff, beq_iff_eq, List.isPrefixOf_iff_prefix, List.prefix_iff_eq_take]
  exact eq_comm
theorem subAt_pre (x y : Str) (i : Nat) : subAt x y i = (ls y).isPrefixOf ((ls x).drop i) := by
  rw [StrLaws.subAt_eq, ← pre_iff, ls_len]
theorem pre_len {w s : List Nat} (h : w.isPrefixOf s = true) : w.length ≤ s.length := (List.isPrefixOf_iff_prefix.mp h).length_le
theorem from_nat (n : Nat) {i : Int} (h : 0 ≤ i) : fromIndex n i = i.toNat := by
  unfold fromIndex
  rw [if_neg (by omega)]
  omega
theorem starts3 {x y : Str} {i : Int} (h0 : 0 ≤ i) (hy : 0 < y.length) : Txt.startswith3 x y i = (ls y).isPrefixOf ((ls x).drop i.toNat) := by
  unfold Txt.startswith3
  rw [from_nat _ h0, subAt_pre]
  cases q : (ls y).isPrefixOf ((ls x).drop i.toNat) with
  | false => simp
  | true =>
    have := pre_len q
    rw [List.length_drop, ls_len, ls_len] at this
    have e : i.toNat + y.length ≤ x.length := by omega
    simp [e]
theorem at_pre (x y : Str) (i : Nat) (h : i ≤ x.length) : StrLaws.At x y x.length i ↔ (ls y).isPrefixOf ((ls x).drop i) = true := by
  unfold StrLaws.At
  rw [subAt_pre]
  refine ⟨fun a => a.2, fun a => ⟨?_, a⟩⟩
  have := pre_len a
  rw [List.length_drop, ls_len, ls_len] at this
  omega
theorem findL_none {w : List Nat} : ∀ {s : List Nat}, (∀ i, i ≤ s.length → w.isPrefixOf (s.drop i) = false) → findL w s = none
  | [], h => by
    have := h 0 (Nat.le_refl _)
    simp only [findL]
    rw [if_neg (by rw [show List.drop 0 ([] : List Nat) = [] from rfl] at this; rw [this]; exact Bool.false_ne_true)]
  | c :: r, h => by
    have h0 := h 0 (Nat.zero_le _)
    rw [show List.drop 0 (c :: r) = c :: r from rfl] at h0
    simp only [findL]
    rw [h0, if_neg Bool.false_ne_true, findL_none fun i hi => h (i + 1) (Nat.succ_le_succ hi)]
    rfl
theorem findL_some {w : List Nat} : ∀ {s : List Nat} {k : Nat}, k ≤ s.length → w.isPrefixOf (s.drop k) = true → (∀ i, i < k → w.isPrefixOf (s.drop i) = false) → findL w s = some k
  | [], k, hk, h, _ => by
    have : k = 0 := by simpa using hk
    subst this
    rw [show List.drop 0 ([] : List Nat) = [] from rfl] at h
    simp only [findL]
    rw [h]
    rfl
  | c :: r, 0, _, h, _ => by
    rw [show List.drop 0 (c :: r) = c :: r from rfl] at h
    simp only [findL]
    rw [h]
    rfl
  | c :: r, k + 1, hk, h, hn => by
    have h0 := hn 0 (Nat.succ_pos _)
    rw [show List.drop 0 (c :: r) = c :: r from rfl] at h0
    simp only [findL]
    rw [h0, if_neg Bool.false_ne_true, findL_some (k := k) (Nat.le_of_succ_le_succ hk) h fun i hi => hn (i + 1) (Nat.succ_lt_succ hi)]
    rfl
theorem find3_none {x y : Str} {i : Int} (h0 : 0 ≤ i) (_h1 : i ≤ x.length) (h : Txt.find3 x y i < 0) : findL (ls y) ((ls x).drop i.toNat) = none := by
  unfold Txt.find3 at h
  rw [from_nat _ h0] at h
  rcases StrLaws.occ_head_from x y i.toNat 1 (Nat.le_refl 1) with ⟨_, hn⟩ | ⟨k, r, e, _, _, _⟩
  · refine findL_none fun j hj => ?_
    rw [List.length_drop, ls_len] at hj
    rw [List.drop_drop, ← Bool.not_eq_true]
    exact fun q => hn (i.toNat + j) (by omega) ((at_pre x y _ (by omega)).mpr q)
  · rw [e] at h
    have h' : (k : Int) < 0 := h
    omega
theorem find3_some {x y : Str} {i : Int} (h0 : 0 ≤ i) (_h1 : i ≤ x.length) (h : ¬ Txt.find3 x y i < 0) : ∃ k : Nat, Txt.find3 x y i = i + k ∧ findL (ls y) ((ls x).drop i.toNat) = some k ∧ i.toNat + k + y.length ≤ x.length := by
  unfold Txt.find3 at h ⊢
  rw [from_nat _ h0] at h ⊢
  rcases StrLaws.occ_head_from x y i.toNat 1 (Nat.le_refl 1) with ⟨e, _⟩ | ⟨k, r, e, hl, ha, hn⟩
  · rw [e] at h
    exact absurd (show (-1 : Int) < 0 by decide) h
  · rw [e]
    refine ⟨k - i.toNat, ?_, ?_, ?_⟩
    · show (k : Int) = _
      omega
    · have hk := ha.1
      refine findL_some ?_ ?_ fun j hj => ?_
      · rw [List.length_drop, ls_len]; omega
      · rw [List.drop_drop, show i.toNat + (k - i.toNat) = k by omega]
        exact (at_pre x y k (by omega)).mp ha
      · rw [List.drop_drop, ← Bool.not_eq_true]
        exact fun q => hn (i.toNat + j) (by omega) (by omega) ((at_pre x y _ (by omega)).mpr q)
    · have := ha.1
      omega
theorem item_at {x : Str} {i : Int} {c : Nat} {r : List Nat} (h0 : 0 ≤ i) (h : (ls x).drop i.toNat = c :: r) : Txt.item x i = ⟨#[c]⟩ := by
  have hc : x.cps[i.toNat]? = some c := by
    have : (ls x)[i.toNat]? = some c := by
      have := congrArg (·[0]?) h
      simpa using this
    simpa using this
  unfold Txt.item Txt.charAt
  rw [StrLaws.at_nonneg h0 hc]
  rfl
theorem slice_at {x : Str} {i : Int} {n : Nat} (h0 : 0 ≤ i) (h1 : i ≤ x.length) : ls (Txt.slice x (some i) (some (i + (n : Int)))) = ((ls x).drop i.toNat).take n := by
  show ls (StrLaws.sliceText x (some i) (some (i + (n : Int)))) = _
  by_cases h : i + (n : Int) ≤ x.length
  · rw [StrLaws.sliceText_plain ⟨h0, by omega, by rw [show x.cps.toList.length = x.length from ls_len x]; exact h⟩]
    rw [show (i + (n : Int) - i).toNat = n by omega]
  · have e : StrLaws.sliceText x (some i) (some (i + (n : Int))) = StrLaws.sliceText x (some i) (some (x.length : Int)) := by
      have e2 : strSliceIndices (some i) (some (i + (n : Int))) 1 x.length = strSliceIndices (some i) (some (x.length : Int)) 1 x.length := by
        have a1 : ¬ (i + (n : Int) < 0) := by omega
        have a2 : ¬ ((x.length : Int) < 0) := by omega
        have e3 : min (i + (n : Int)) (x.length : Int) = x.length := by omega
        simp only [strSliceIndices, a1, a2, if_false, e3, Int.min_self, show ((1 : Int) > 0) = True from by simp, if_true]
      unfold StrLaws.sliceText
      rw [e2]
    rw [e, StrLaws.sliceText_plain ⟨h0, h1, by rw [show x.cps.toList.length = x.length from ls_len x]; omega⟩]
    show List.take _ _ = _
    rw [List.take_of_length_le (by rw [List.length_drop, ls_len]; omega), List.take_of_length_le (by rw [List.length_drop, ls_len]; omega)]
theorem starts_pre (x y : Str) : Txt.startswith x y = (ls y).isPrefixOf (ls x) := by
  unfold Txt.startswith
  rw [subAt_pre, List.drop_zero]
  cases q : (ls y).isPrefixOf (ls x) with
  | false => simp
  | true =>
    have := pre_len q
    rw [ls_len, ls_len] at this
    simp [this]
theorem occ_one (x : Str) (c : Nat) : (occurrences x ⟨#[c]⟩ 0 x.length 1).isEmpty = decide (c ∉ ls x) := by
  have := StrLaws.found_one x c
  rw [Bool.not_eq_eq_eq_not] at this
  rw [this]
  simp
/-- what stands at a place ahead of the end -/
theorem head_at {x : Str} {i : Int} (h0 : 0 ≤ i) (h : i < x.length) : ∃ c r, (ls x).drop i.toNat = c :: r := by
  cases q : (ls x).drop i.toNat with
  | nil =>
    have := congrArg List.length q
    rw [List.length_drop, ls_len] at this
    simp at this
    omega
  | cons c r => exact ⟨c, r, rfl⟩
def WInv (X : Str) (at0 : Int) (w0 : Bool) (a : Int) (b : Bool) : Prop :=
  Reach ((ls X).drop at0.toNat, w0) ((ls X).drop a.toNat, b)
/-- the word of the while, and its measure's fall -/
def WGo (X : Str) (at0 : Int) (w0 : Bool) (a e : Int) (b : Bool) : Prop :=
  (0 ≤ e ∧ e ≤ X.length ∧ WInv X at0 w0 e b) ∧ X.length - e.toNat < X.length - a.toNat
section
variable {X : Str} {at0 a : Int} {w0 b : Bool}
theorem wgo {k : Nat} {b' : Bool} (h0 : 0 ≤ a) (h1 : a < X.length) (I : WInv X at0 w0 a b) (ht : turn ((ls X).drop a.toNat) b = .go k b') (hk : 0 < k) (hl : a.toNat + k ≤ X.length) : WGo X at0 w0 a (a + k) b' := by
  have hn : next ((ls X).drop a.toNat, b) = some ((ls X).drop (a + k).toNat, b') := by
    obtain ⟨c, r, e⟩ := head_at h0 h1
    unfold next
    rw [if_neg (by show (ls X).drop a.toNat ≠ []; rw [e]; exact List.cons_ne_nil _ _)]
    show (match turn ((ls X).drop a.toNat) b with | .go k w => some (((ls X).drop a.toNat).drop k, w) | _ => none) = _
    rw [ht, show (a + (k : Int)).toNat = a.toNat + k by omega, ← List.drop_drop]
  exact ⟨⟨by omega, by omega, I.step hn⟩, by omega⟩
theorem wgo_of {e : Int} {k : Nat} {b' : Bool} (h0 : 0 ≤ a) (h1 : a < X.length) (I : WInv X at0 w0 a b) (ht : turn ((ls X).drop a.toNat) b = .go k b') (hk : 0 < k) (hl : a.toNat + k ≤ X.length) (he : e = a + k) : WGo X at0 w0 a e b' := by
  subst he
  exact wgo h0 h1 I ht hk hl
theorem ls_com : ls (Str.ofString "<!--") = [60, 33, 45, 45] := by decide +kernel
theorem ls_pi : ls (Str.ofString "<?") = [60, 63] := by decide +kernel
theorem ls_come : ls (Str.ofString "-->") = [45, 45, 62] := by decide +kernel
theorem ls_pie : ls (Str.ofString "?>") = [63, 62] := by decide +kernel
theorem len_com : (Str.ofString "<!--").length = 4 := by decide +kernel
theorem len_come : (Str.ofString "-->").length = 3 := by decide +kernel
theorem len_pie : (Str.ofString "?>").length = 2 := by decide +kernel
abbrev Com (X : Str) (a : Int) (v : Bool) : Prop := Txt.startswith3 X (Str.ofString "<!--") a = v
abbrev Pi (X : Str) (a : Int) (v : Bool) : Prop := Txt.startswith3 X (Str.ofString "<?") a = v
abbrev May (X : Str) (a : Int) (v : Bool) : Prop :=
  (decide (((Txt.slice X (some a) (some (a + ((4 : Nat) : Int)))).length : Int) < ((Str.ofString "<!--").length : Int)) && Txt.startswith (Str.ofString "<!--") (Txt.slice X (some a) (some (a + ((4 : Nat) : Int))))) = v
abbrev Quo (X : Str) (a : Int) (v : Bool) : Prop := (occurrences (Str.ofString "\"'") (Txt.item X a) 0 (Str.ofString "\"'").length 1).isEmpty = v
abbrev Brk (X : Str) (a : Int) (v : Bool) : Prop := (occurrences (Str.ofString "[]") (Txt.item X a) 0 (Str.ofString "[]").length 1).isEmpty = v
abbrev Gt (X : Str) (a : Int) (v : Bool) : Prop := (Txt.item X a == Str.ofString ">") = v
theorem com_is {v : Bool} (h0 : 0 ≤ a) (h : Com X a v) : [60, 33, 45, 45].isPrefixOf ((ls X).drop a.toNat) = v := by
  rw [← h, starts3 h0 (by rw [len_com]; decide), ls_com]
theorem pi_is {v : Bool} (h0 : 0 ≤ a) (h : Pi X a v) : [60, 63].isPrefixOf ((ls X).drop a.toNat) = v := by
  rw [← h, starts3 h0 (by decide +kernel), ls_pi]
theorem may_is {v : Bool} (h0 : 0 ≤ a) (h1 : a < X.length) (hc : Com X a false) (h : May X a v) : (((ls X).drop a.toNat).take 4).isPrefixOf [60, 33, 45, 45] = v := by
  have hc' := com_is h0 hc
  have es := slice_at (x := X) (n := 4) h0 (Int.le_of_lt h1)
  unfold May at h
  rw [starts_pre, es, ls_com, len_com, ← ls_len, es] at h
  rw [← h]
  by_cases hl : (((ls X).drop a.toNat).take 4).length < 4
  · have : ((((ls X).drop a.toNat).take 4).length : Int) < ((4 : Nat) : Int) := by omega
    rw [decide_eq_true this, Bool.true_and]
  · have : ¬ ((((ls X).drop a.toNat).take 4).length : Int) < ((4 : Nat) : Int) := by omega
    rw [decide_eq_false this, Bool.false_and, ← Bool.not_eq_true]
    intro q
    rw [List.isPrefixOf_iff_prefix] at q
    have q' := q.eq_of_length_le (by simp at hl ⊢; omega)
    have : [60, 33, 45, 45].isPrefixOf ((ls X).drop a.toNat) = true := by
      rw [List.isPrefixOf_iff_prefix, List.prefix_iff_eq_take]
      exact q'.symm
    rw [hc'] at this
    cases this
theorem quo_is {v : Bool} {c : Nat} {r : List Nat} (h0 : 0 ≤ a) (e : (ls X).drop a.toNat = c :: r) (h : Quo X a v) : decide (c = 34 ∨ c = 39) = !v := by
  unfold Quo at h
  rw [item_at h0 e, occ_one, show ls (Str.ofString "\"'") = [34, 39] by decide +kernel] at h
  rw [← h]
  simp
theorem brk_is {v : Bool} {c : Nat} {r : List Nat} (h0 : 0 ≤ a) (e : (ls X).drop a.toNat = c :: r) (h : Brk X a v) : decide (c = 91 ∨ c = 93) = !v := by
  unfold Brk at h
  rw [item_at h0 e, occ_one, show ls (Str.ofString "[]") = [91, 93] by decide +kernel] at h
  rw [← h]
  simp
theorem beq_one (c d : Nat) : ((⟨#[c]⟩ : Str) == ⟨#[d]⟩) = (c == d) := by
  rw [Bool.eq_iff_iff, beq_iff_eq, beq_iff_eq]
  constructor
  · intro h
    have : (⟨#[c]⟩ : Str).cps = (⟨#[d]⟩ : Str).cps := by rw [h]
    simpa using this
  · rintro rfl; rfl
theorem gt_is {v : Bool} {c : Nat} {r : List Nat} (h0 : 0 ≤ a) (e : (ls X).drop a.toNat = c :: r) (h : Gt X a v) : (c == 62) = v := by
  unfold Gt at h
  rw [item_at h0 e, show Str.ofString ">" = ⟨#[62]⟩ by decide +kernel, beq_one] at h
  exact h
theorem br_is {c : Nat} {r : List Nat} (h0 : 0 ≤ a) (e : (ls X).drop a.toNat = c :: r) : (Txt.item X a == Str.ofString "[") = (c == 91) := by
  rw [item_at h0 e, show Str.ofString "[" = ⟨#[91]⟩ by decide +kernel, beq_one]

variable (h0 : 0 ≤ a)
include h0
theorem turn_com (hc : Com X a true) : turn ((ls X).drop a.toNat) b = hop (findL [45, 45, 62] (((ls X).drop a.toNat).drop 4)) 4 3 b := by
  unfold turn
  rw [com_is h0 hc, if_pos rfl]
theorem turn_pi (hc : Com X a false) (hp : Pi X a true) : turn ((ls X).drop a.toNat) b = hop (findL [63, 62] (((ls X).drop a.toNat).drop 2)) 2 2 b := by
  unfold turn
  rw [com_is h0 hc, if_neg Bool.false_ne_true, pi_is h0 hp, if_pos rfl]
variable (h1 : a < X.length)
include h1
theorem turn_may (hc : Com X a false) (hp : Pi X a false) (hm : May X a true) : turn ((ls X).drop a.toNat) b = .brk := by
  unfold turn
  rw [com_is h0 hc, if_neg Bool.false_ne_true, pi_is h0 hp, if_neg Bool.false_ne_true, may_is h0 h1 hc hm, if_pos rfl]
theorem turn_sign {c : Nat} {r : List Nat} (hc : Com X a false) (hp : Pi X a false) (hm : May X a false) (e : (ls X).drop a.toNat = c :: r) : turn ((ls X).drop a.toNat) b =
    if c = 34 ∨ c = 39 then hop (findL [c] r) 1 1 b
      else if c = 62 ∧ b = false then .ret
      else if c = 91 ∨ c = 93 then .go 1 (c == 91)
      else .go 1 b := by
  unfold turn
  rw [com_is h0 hc, if_neg Bool.false_ne_true, pi_is h0 hp, if_neg Bool.false_ne_true, may_is h0 h1 hc hm, if_neg Bool.false_ne_true, e]
theorem w_com (I : WInv X at0 w0 a b) (hc : Com X a true) (hf : ¬ Txt.find3 X (Str.ofString "-->") (a + ((4 : Nat) : Int)) < 0) : WGo X at0 w0 a (Txt.find3 X (Str.ofString "-->") (a + ((4 : Nat) : Int)) + ((Str.ofString "-->").length : Int)) b := by
  have hl := pre_len (com_is h0 hc)
  rw [List.length_drop, ls_len] at hl
  have hl : 4 ≤ X.length - a.toNat := hl
  obtain ⟨k, e, f, l⟩ := find3_some (x := X) (i := a + ((4 : Nat) : Int)) (by omega) (by omega) hf
  rw [ls_come, show (a + ((4 : Nat) : Int)).toNat = a.toNat + 4 by omega, ← List.drop_drop] at f
  rw [len_come] at l
  have ht := turn_com (b := b) h0 hc
  rw [f] at ht
  exact wgo_of h0 h1 I ht (by omega) (by omega) (by rw [e, len_come]; omega)
theorem w_pi (I : WInv X at0 w0 a b) (hc : Com X a false) (hp : Pi X a true) (hf : ¬ Txt.find3 X (Str.ofString "?>") (a + 2) < 0) : WGo X at0 w0 a (Txt.find3 X (Str.ofString "?>") (a + 2) + ((Str.ofString "?>").length : Int)) b := by
  have hl := pre_len (pi_is h0 hp)
  rw [List.length_drop, ls_len] at hl
  have hl : 2 ≤ X.length - a.toNat := hl
  obtain ⟨k, e, f, l⟩ := find3_some (x := X) (i := a + 2) (by omega) (by omega) hf
  rw [ls_pie, show (a + 2).toNat = a.toNat + 2 by omega, ← List.drop_drop] at f
  rw [len_pie] at l
  have ht := turn_pi (b := b) h0 hc hp
  rw [f] at ht
  exact wgo_of h0 h1 I ht (by omega) (by omega) (by rw [e, len_pie]; omega)
theorem w_quo (I : WInv X at0 w0 a b) (hc : Com X a false) (hp : Pi X a false) (hm : May X a false) (hq : Quo X a false) (hf : ¬ Txt.find3 X (Txt.item X a) (a + 1) < 0) : WGo X at0 w0 a (Txt.find3 X (Txt.item X a) (a + 1) + ((Txt.item X a).length : Int)) b := by
  obtain ⟨c, r, e⟩ := head_at h0 h1
  have hi := item_at h0 e
  have hq' := quo_is h0 e hq
  obtain ⟨k, e', f, l⟩ := find3_some (x := X) (i := a + 1) (by omega) (by omega) hf
  rw [hi] at f l ⊢
  rw [hi] at e'
  rw [show (⟨#[c]⟩ : Str).length = 1 from rfl] at l ⊢
  rw [show ls (⟨#[c]⟩ : Str) = [c] from rfl, show (a + 1).toNat = a.toNat + 1 by omega, ← List.drop_drop, e, List.drop_one, List.tail_cons] at f
  have ht := turn_sign (b := b) h0 h1 hc hp hm e
  rw [if_pos (of_decide_eq_true hq'), f] at ht
  exact wgo_of h0 h1 I ht (by omega) (by omega) (by omega)
theorem w_one (I : WInv X at0 w0 a b) (hc : Com X a false) (hp : Pi X a false) (hm : May X a false) (hq : Quo X a true) (hg : Gt X a true → b = true) (hb : Brk X a true) : WGo X at0 w0 a (a + 1) b := by
  obtain ⟨c, r, e⟩ := head_at h0 h1
  have hq' := quo_is h0 e hq
  have hb' := brk_is h0 e hb
  have ht := turn_sign (b := b) h0 h1 hc hp hm e
  rw [if_neg (of_decide_eq_false hq'), if_neg (fun q => by
    have g : Gt X a true := by
      unfold Gt
      rw [item_at h0 e, show Str.ofString ">" = ⟨#[62]⟩ by decide +kernel, beq_one, q.1]; rfl
    rw [hg g] at q
    cases q.2), if_neg (of_decide_eq_false hb')] at ht
  exact wgo_of h0 h1 I ht (by omega) (by omega) (by omega)
theorem w_br (I : WInv X at0 w0 a b) (hc : Com X a false) (hp : Pi X a false) (hm : May X a false) (hq : Quo X a true) (hg : Gt X a true → b = true) (hb : Brk X a false) : WGo X at0 w0 a (a + 1) (Txt.item X a == Str.ofString "[") := by
  obtain ⟨c, r, e⟩ := head_at h0 h1
  have hq' := quo_is h0 e hq
  have hb' := brk_is h0 e hb
  have ht := turn_sign (b := b) h0 h1 hc hp hm e
  rw [if_neg (of_decide_eq_false hq'), if_neg (fun q => by
    have g : Gt X a true := by
      unfold Gt
      rw [item_at h0 e, show Str.ofString ">" = ⟨#[62]⟩ by decide +kernel, beq_one, q.1]; rfl
    rw [hg g] at q
    cases q.2), if_pos (of_decide_eq_true hb'), ← br_is h0 e] at ht
  exact wgo_of h0 h1 I ht (by omega) (by omega) (by omega)
omit h0 h1
/-- how the scan ends -/
def Ends (s : List Nat) (b : Bool) (a : Int) (v : Value) : Prop :=
  (v = .none ∧ (s = [] ∨ turn s b = .brk)) ∨ ((∃ t, v = .int (a + 1) t) ∧ s ≠ [] ∧ turn s b = .ret)
theorem ends_all (h1 : ¬ a < X.length) : Ends ((ls X).drop a.toNat) b a .none := .inl ⟨rfl, .inl (List.drop_eq_nil_of_le (by rw [ls_len]; omega))⟩
include h0 h1
theorem ends_com (hc : Com X a true) (hf : Txt.find3 X (Str.ofString "-->") (a + ((4 : Nat) : Int)) < 0) : Ends ((ls X).drop a.toNat) b a .none := by
  have hl := pre_len (com_is h0 hc)
  rw [List.length_drop, ls_len] at hl
  have hl : 4 ≤ X.length - a.toNat := hl
  have f := find3_none (x := X) (i := a + ((4 : Nat) : Int)) (by omega) (by omega) hf
  rw [ls_come, show (a + ((4 : Nat) : Int)).toNat = a.toNat + 4 by omega, ← List.drop_drop] at f
  have ht := turn_com (b := b) h0 hc
  rw [f] at ht
  exact .inl ⟨rfl, .inr ht⟩
theorem ends_pi (hc : Com X a false) (hp : Pi X a true) (hf : Txt.find3 X (Str.ofString "?>") (a + 2) < 0) : Ends ((ls X).drop a.toNat) b a .none := by
  have hl := pre_len (pi_is h0 hp)
  rw [List.length_drop, ls_len] at hl
  have hl : 2 ≤ X.length - a.toNat := hl
  have f := find3_none (x := X) (i := a + 2) (by omega) (by omega) hf
  rw [ls_pie, show (a + 2).toNat = a.toNat + 2 by omega, ← List.drop_drop] at f
  have ht := turn_pi (b := b) h0 hc hp
  rw [f] at ht
  exact .inl ⟨rfl, .inr ht⟩
theorem ends_may (hc : Com X a false) (hp : Pi X a false) (hm : May X a true) : Ends ((ls X).drop a.toNat) b a .none := .inl ⟨rfl, .inr (turn_may h0 h1 hc hp hm)⟩
theorem ends_quo (hc : Com X a false) (hp : Pi X a false) (hm : May X a false) (hq : Quo X a false) (hf : Txt.find3 X (Txt.item X a) (a + 1) < 0) : Ends ((ls X).drop a.toNat) b a .none := by
  obtain ⟨c, r, e⟩ := head_at h0 h1
  have hi := item_at h0 e
  have hq' := quo_is h0 e hq
  have f := find3_none (x := X) (i := a + 1) (by omega) (by omega) hf
  rw [hi, show ls (⟨#[c]⟩ : Str) = [c] from rfl, show (a + 1).toNat = a.toNat + 1 by omega, ← List.drop_drop, e, List.drop_one, List.tail_cons] at f
  have ht := turn_sign (b := b) h0 h1 hc hp hm e
  rw [if_pos (of_decide_eq_true hq'), f] at ht
  exact .inl ⟨rfl, .inr ht⟩
theorem ends_gt {t : Tok} (hc : Com X a false) (hp : Pi X a false) (hm : May X a false) (hq : Quo X a true) (hg : Gt X a true) (hb : b = false) : Ends ((ls X).drop a.toNat) b a (.int (a + 1) t) := by
  obtain ⟨c, r, e⟩ := head_at h0 h1
  have hq' := quo_is h0 e hq
  have ht := turn_sign (b := b) h0 h1 hc hp hm e
  rw [if_neg (of_decide_eq_false hq'), if_pos ⟨beq_iff_eq.mp (gt_is h0 e hg), hb⟩] at ht
  exact .inr ⟨⟨t, rfl⟩, by rw [e]; exact List.cons_ne_nil _ _, ht⟩
end
end Mine

namespace Mine
abbrev tup3 (v0 : Value) (a : Int) (ta : Tok) (b : Bool) : Obj := { cls := .type "tuple", data := .seq #[v0, .int a ta, .bool b] }
/-- what doctype_end hands back: a new tuple; the place at which the scan ends -/
def DocOut (X : Str) (at0 : Int) (w0 : Bool) (news : List (Addr × Obj)) (r : Value) (nx : List (Addr × Obj)) : Prop :=
  ∃ (D : Addr) (v0 : Value) (a : Int) (ta : Tok) (b : Bool), r = .ref D ∧ nx = (D, tup3 v0 a ta b) :: news ∧ (∀ p ∈ news, p.1 < D) ∧
    0 ≤ a ∧ a ≤ X.length ∧ WInv X at0 w0 a b ∧ Ends ((ls X).drop a.toNat) b a v0
theorem docOut {X : Str} {at0 a : Int} {w0 b : Bool} {news : List (Addr × Obj)} {D : Addr} {v0 : Value} {ta : Tok} (hl : ∀ p ∈ news, p.1 < D) (h0 : 0 ≤ a) (h1 : a ≤ X.length) (I : WInv X at0 w0 a b) (e : Ends ((ls X).drop a.toNat) b a v0) :
    DocOut X at0 w0 news (.ref D) ((D, tup3 v0 a ta b) :: news) := ⟨D, v0, a, ta, b, rfl, rfl, hl, h0, h1, I, e⟩
theorem news_skip {h₀ h : Heap} {L : Addr} {p q : Addr × Obj} {news : List (Addr × Obj)} (N : News h₀ L h (p :: q :: news)) : News h₀ L h (p :: news) := fun x hx => N x (by
  rcases List.mem_cons.mp hx with rfl | hx
  · exact .head _
  · exact .tail _ (.tail _ hx))
def Park (P : Prop) : Prop := P
theorem Park.out {P : Prop} (h : Park P) : P := h
theorem Park.into {P : Prop} (h : P) : Park P := h
local macro_rules | `(tactic| walk_at "KswEnd") => `(tactic| refine Park.out ?_)
theorem len_lit {x : String} (h : (Str.ofString x).length ≤ 100000 := by decide) : (Str.ofString x).length ≤ 100000 := h
local macro_rules | `(tactic| walk_at "call ref") => `(tactic| (
  k_here; (with_reducible show wpAny _ _ (call (Value.ref 28) _) _ _ _);
  k_dflt (refine' Ctr.use (behind_ok ?hT ?hW) ?k1 ?k2 ?k3 ?k4 ?k5 ?kK ?kd ?ku ?_; (case hT => first | assumption | omega); (case hW => first | exact len_lit | omega); (case k1 => k_asm); (case k2 => k_asm); (case k3 => k_asm); (case k4 => k_asm); (case k5 => k_asm); (case kK => first | exact rfl | assumption); (case kd => ktr_room); (case ku => ktr_units));
  intro r9 nx9 h9 tk9 F9 N9 o9; obtain ⟨e9, t9, o9⟩ := o9; subst e9; rcases behV_cases _ _ _ t9 with ⟨c9, d9⟩ | ⟨c9, d9⟩ <;> (rw [d9] at o9; subst o9; (try dsimp only); (try k_fold))))
local macro_rules | `(tactic| walk_at "call ref") => `(tactic| (
  k_here; (with_reducible show wpAny _ _ (call (Value.ref 21) _) _ _ _);
  k_dflt (refine' Ctr.use (may_ok ?hT ?hW) ?k1 ?k2 ?k3 ?k4 ?k5 ?kK ?kd ?ku ?_; (case hT => first | assumption | omega); (case hW => first | exact len_lit | omega); (case k1 => k_asm); (case k2 => k_asm); (case k3 => k_asm); (case k4 => k_asm); (case k5 => k_asm); (case kK => first | exact rfl | assumption); (case kd => ktr_room); (case ku => ktr_units));
  intro r9 nx9 h9 tk9 F9 N9 o9; obtain ⟨e9, o9⟩ := o9; subst e9; subst o9; (try dsimp only); (try k_fold)))
theorem doc_ok {X : Str} {t v : Tok} {at0 : Int} {w0 : Bool} {news : List (Addr × Obj)} (hX : X.length ≤ 100000) (h0 : 0 ≤ at0) (h1 : at0 ≤ X.length) :
    Ctr 2 35 [.str X t, .int at0 v, .bool w0] news (DocOut X at0 w0 news) := by
  unfold Ctr; k_fill
  intro w mean mg mb dp un gd cn cs a ccd cl outer A₀ base h₀ L m s Q E B F XX N T hk hd hu hret
  refine wpAny_call ?_
  k_dflt cell_enter
  k_with_none
  k_with "exec While Compare cons nil" => k_while (fun _ a b => 0 ≤ a ∧ a ≤ X.length ∧ WInv X at0 w0 a b) (fun _ a _ => X.length - a.toNat) "at" "is_within"
  k_with "state" => exact ⟨h0, h1, Reach.refl _⟩
  k_steps
  all_goals (try (refine Park.into ?_))
  all_goals (rename News _ _ _ _ => nE')
  all_goals first
    | (((with_reducible rename WInv _ _ _ _ _ => I9); (first
        | (have g9 := w_com (by with_reducible assumption) (by with_reducible assumption) I9 (by with_reducible assumption) (by with_reducible assumption))
        | (have g9 := w_pi (by with_reducible assumption) (by with_reducible assumption) I9 (by with_reducible assumption) (by with_reducible assumption) (by with_reducible assumption))
        | (have g9 := w_quo (by with_reducible assumption) (by with_reducible assumption) I9 (by with_reducible assumption) (by with_reducible assumption) (by with_reducible assumption) (by with_reducible assumption) (by with_reducible assumption))
        | (have g9 := w_one (by with_reducible assumption) (by with_reducible assumption) I9 (by with_reducible assumption) (by with_reducible assumption) (by with_reducible assumption) (by with_reducible assumption) (by first | exact fun _ => (by with_reducible assumption) | exact fun q => nomatch (q.symm.trans (by with_reducible assumption) : true = false)) (by with_reducible assumption))
        | (have g9 := w_br (by with_reducible assumption) (by with_reducible assumption) I9 (by with_reducible assumption) (by with_reducible assumption) (by with_reducible assumption) (by with_reducible assumption) (by first | exact fun _ => (by with_reducible assumption) | exact fun q => nomatch (q.symm.trans (by with_reducible assumption) : true = false)) (by with_reducible assumption))); (refine' ksw_end ⟨_, _, _⟩ (by with_reducible assumption) nE' ?a1 ?a2 ?a3 ?a4 ?a5 ?a6; (case a3 => (kst_all)); (case a1 => exact fun p hp => List.Mem.tail _ hp); (case a2 => exact True.intro); (case a4 => (ksw_same)); (case a5 => (exact g9.1)); (case a6 => (exact g9.2)))))
    | (refine' hret _ _ _ _ (by k_asm) nE' (docOut ?b1 ?b2 ?b3 ?b4 ?b5); (case b1 => with_reducible assumption); (case b2 => with_reducible assumption); (case b3 => with_reducible assumption); (case b4 => with_reducible assumption); (case b5 => exact ends_all (by with_reducible assumption)))
    | (refine' hret _ _ _ _ (by k_asm) (news_skip nE') (docOut ?b1 ?b2 ?b3 ?b4 ?b5); (case b1 => ((rename (_ ∧ AllLt _ _) => hl'); exact ktn_ltOf hl'.2)); (case b2 => with_reducible assumption); (case b3 => with_reducible assumption); (case b4 => with_reducible assumption); (case b5 => first
      | exact ends_com (by with_reducible assumption) (by with_reducible assumption) (by with_reducible assumption) (by with_reducible assumption)
      | exact ends_pi (by with_reducible assumption) (by with_reducible assumption) (by with_reducible assumption) (by with_reducible assumption) (by with_reducible assumption)
      | exact ends_may (by with_reducible assumption) (by with_reducible assumption) (by with_reducible assumption) (by with_reducible assumption) (by with_reducible assumption)
      | exact ends_quo (by with_reducible assumption) (by with_reducible assumption) (by with_reducible assumption) (by with_reducible assumption) (by with_reducible assumption) (by with_reducible assumption) (by with_reducible assumption)
      | exact ends_gt (by with_reducible assumption) (by with_reducible assumption) (by with_reducible assumption) (by with_reducible assumption) (by with_reducible assumption) (by with_reducible assumption) (by with_reducible assumption) (by with_reducible assumption)))
end Mine

namespace Mine
local macro_rules | `(tactic| k_all) => `(tactic| with_reducible assumption)
theorem fmod_lt {x m : Int} (h : 0 < m) : 0 ≤ x.fmod m ∧ x.fmod m < m := by
  rw [Int.fmod_eq_emod_of_nonneg _ (Int.le_of_lt h)]
  exact ⟨Int.emod_nonneg _ (by omega), Int.emod_lt_of_pos _ h⟩
theorem fdiv_le {x m : Int} (h0 : 0 ≤ x) (h : 0 < m) : 0 ≤ x.fdiv m := by
  rw [Int.fdiv_eq_ediv_of_nonneg _ (Int.le_of_lt h)]
  exact Int.ediv_nonneg h0 (Int.le_of_lt h)
theorem mul_take {a x y : Int} : IntMulOk ([a, x.fmod 2147483647].getD (Int.toNat 1) 0) y := by
  show IntMulOk (x.fmod 2147483647) y
  have := fmod_lt (x := x) (m := 2147483647) (by decide)
  exact IntMulOk.of_left (PySem.intBits_le_64 (by omega) (by omega))
local macro_rules | `(tactic| mul_fits) => `(tactic| exact mul_take)
/-- the source: two ints, none below nought -/
def SrcOk (o : Obj) : Prop := ∃ (a b : Int) (ta tb : Tok) (n : Nat), o = listOf #[.int a ta, .int b tb] n ∧ 0 ≤ a ∧ 0 ≤ b ∧ b < 2147483647
theorem srcOk {a b : Int} {ta tb : Tok} {n : Nat} (h0 : 0 ≤ a) (h1 : 0 ≤ b) (h2 : b < 2147483647) : SrcOk (listOf #[.int a ta, .int b tb] n) := ⟨a, b, ta, tb, n, rfl, h0, h1, h2⟩
def TakeOut (S : Addr) (rest : List (Addr × Obj)) (top : Int) (r : Value) (nx : List (Addr × Obj)) : Prop :=
  ∃ (k : Int) (t : Tok) (o : Obj), r = .int k t ∧ 0 ≤ k ∧ k < top ∧ nx = (S, o) :: rest ∧ SrcOk o
theorem take_ok {S : Addr} {o : Obj} {top : Int} {t : Tok} {rest : List (Addr × Obj)} (hne : ∀ p ∈ rest, p.1 ≠ S) (ho : SrcOk o) (ht : 0 < top) (ht2 : top ≤ 1000) :
    Ctr 1 49 [.ref S, .int top t] ((S, o) :: rest) (TakeOut S rest top) := by
  obtain ⟨a, b, ta, tb, n, rfl, ha, hb, hb2⟩ := ho
  unfold Ctr; k_fill
  intro w mean mg mb dp un gd cn cs ax ccd cl outer A₀ base h₀ L m s Q E B F XX N T hk hd hu hret
  refine wpAny_call ?_
  k_dflt cell_enter
  k_with_none
  k_steps
  · exact hret _ _ _ _ (by k_asm) (by k_asm) ⟨_, _, _, rfl, (fmod_lt ht).1, (fmod_lt ht).2, rfl, srcOk (fdiv_le ha ht) hb hb2⟩
  · exact hret _ _ _ _ (by k_asm) (by k_asm) ⟨_, _, _, rfl, (fmod_lt ht).1, (fmod_lt ht).2, rfl, srcOk ha (fmod_lt (by decide)).1 (fmod_lt (by decide)).2⟩
end Mine

namespace Mine
theorem src_pool {x y : Int} {c : Prop} [Decidable c] {t u : Tok} {n : Nat} : SrcOk (listOf #[.int ((if -1 - x > x then -1 - x else x) * (if c then 1 else 0)) t, .int (y.fmod 2147483647) u] n) := by
  refine srcOk ?_ (fmod_lt (by decide)).1 (fmod_lt (by decide)).2
  refine Int.mul_nonneg ?_ ?_ <;> split <;> omega
def PoolOut (r : Value) (nx : List (Addr × Obj)) : Prop := ∃ S o, r = .ref S ∧ nx = [(S, o)] ∧ SrcOk o
/-- the contract of _law_pool: its list is the call's own, no ledger -/
theorem pool_ok {l : Addr} {vs : List Value} {ns : List Int} {w : World} {mean : ExcName → Option Value} {mg mb : Str → Option Value} {dp un : Nat} {gd : Option (List Code)} {cn : Str} {cs : Scope} {a : Addr} {ccd : Value} {cl : List (Str × Addr)} {outer : List Env} {A₀ : Around} {base h₀ : Heap} {L : Addr} {m : Str → Option Value} {s : Shared} {Q E : Value → Shared → Prop}
    (B : Below A₀ base outer h₀) (F : Fr h₀ L s.heap m) (XX : (hd.heap_39 w.params).In h₀) (N : News h₀ L s.heap [])
    (T : Top hd.view_39 (looseW hd.view_39 []) mean mg mb h₀) (hk : cs.kind = .function) (hl : base.IsList l vs.toArray) (hi : IntsAre vs ns) (hfit : ns.length < 2 ^ 62) (hd : dp + 3 < recursionLimit) (hu : un + 8 * 3 < cLine)
    (hret : ∀ (r : Value) (nx : List (Addr × Obj)) (h' : Heap) (tk' : Nat), Fr h₀ L h' m → News h₀ L h' nx → PoolOut r nx → Q r { s with heap := h', toks := tk' }) :
    wpAny (model PySem.Challenge.rw_xw0198_01.row.prog w) (ktrTop dp un gd cn cs L a ccd cl outer) (call (.ref 42) [.ref l]) Q E s := by
  revert XX
  k_fill
  intro XX
  refine wpAny_call ?_
  k_dflt cell_enter
  k_with_none
  k_steps

  all_goals exact hret _ _ _ _ (by k_asm) (by k_asm) ⟨_, _, rfl, rfl, src_pool⟩
end Mine

namespace Mine
local macro_rules | `(tactic| k_all) => `(tactic| with_reducible assumption)
/-- a list of texts, each among xs -/
def TxtsIn (vs : List Value) (xs : List Str) : Prop := ∀ v ∈ vs, ∃ x ∈ xs, ∃ t, v = .str x t
def OneOut (S Tg : Addr) (tg : Obj) (rest : List (Addr × Obj)) (xs : List Str) (r : Value) (nx : List (Addr × Obj)) : Prop :=
  ∃ (x : Str) (t : Tok) (o : Obj), r = .str x t ∧ x ∈ xs ∧ nx = (S, o) :: (Tg, tg) :: rest ∧ SrcOk o
theorem TxtsIn.at {vs : List Value} {xs : List Str} (h : TxtsIn vs xs) {k : Int} (h0 : 0 ≤ k) (h1 : k < (vs.toArray.size : Int)) : ∃ x t, vs.toArray[k.toNat]? = some (.str x t) ∧ x ∈ xs := by
  have hk : k.toNat < vs.length := by simp at h1; omega
  obtain ⟨x, hx, t, e⟩ := h _ (List.getElem_mem hk)
  refine ⟨x, t, ?_, hx⟩
  rw [← e]
  simp [List.getElem?_eq_getElem hk]
local macro_rules | `(tactic| walk_at "call builtin:len") => `(tactic| (
  k_here; (with_reducible show wpAny _ _ (call (Value.builtin "len") [Value.ref _]) _ _ _);
  k_dflt (refine' Calls.call_len_list (items := List.toArray _) ?l1 ?l2 ?_; (case l1 => exact News.isList (by k_asm) (List.Mem.tail _ (List.Mem.head _))); (case l2 => (simp; omega)));
  (try dsimp only)))
local macro_rules | `(tactic| walk_at "call ref") => `(tactic| (
  k_here; (with_reducible show wpAny _ _ (call (Value.ref 49) _) _ _ _);
  k_dflt (refine' Ctr.use (take_ok ?h1 ?h2 ?h3 ?h4) ?k1 ?k2 ?k3 ?k4 ?k5 ?kK ?kd ?ku ?_; (case k1 => k_asm); (case k2 => k_asm); (case k3 => k_asm); (case k4 => k_asm); (case k5 => k_asm); (case kK => first | exact rfl | assumption); (case kd => ktr_room); (case ku => ktr_units); (case h1 => with_reducible assumption); (case h2 => with_reducible assumption); (case h3 => (simp; omega)); (case h4 => (simp; omega)));
  intro r9 nx9 h9 tk9 F9 N9 o9; obtain ⟨x9, t9, s9, e9, l9, u9, n9, k9⟩ := o9; subst e9; subst n9; (try dsimp only); (try k_fold)))
theorem item_txts {prog : Program} {w : World} {A : Around} {E : Value → Shared → Prop} {s : Shared} {value slice : PySem.Expr} {l : Addr} {vs : List Value} {xs : List Str} {k : Int} {u : Tok} {Q : Value → Shared → Prop}
    (hl : s.heap.IsList l vs.toArray) (hv : TxtsIn vs xs) (h0 : 0 ≤ k) (h1 : k < (vs.toArray.size : Int)) (h2 : vs.length ≤ 1000) (h : ∀ x t, x ∈ xs → Q (.str x t) s)
    (hs : subscripted slice false (.ref l) (.int k u) = operate [.ref l, .int k u] (getItem (.ref l) (.int k u)) := by with_unfolding_all rfl) (hg : ∀ r, letTemporaryGo value (.ref l) r = pure () := by intro _; with_unfolding_all rfl) :
    wpAny (model prog w) A (subscriptTail value slice (.ref l) (.int k u)) Q E s := by
  obtain ⟨x, t, e, hx⟩ := hv.at h0 h1
  exact item_list hl h0 (by simp at h1; omega) e (h x t hx) hs hg
local macro_rules | `(tactic| walk_at "subscriptTail") => `(tactic| (
  k_here; (with_reducible show wpAny _ _ (subscriptTail _ _ (Value.ref _) (Value.int _ _)) _ _ _);
  k_dflt (refine' item_txts ?l1 ?l2 ?l3 ?l4 ?l5 ?_ ?l6 ?l7; (case l1 => exact News.isList (by k_asm) (List.Mem.tail _ (List.Mem.head _))); (case l2 => with_reducible assumption); (case l3 => with_reducible assumption); (case l4 => with_reducible assumption); (case l5 => with_reducible assumption); (case l6 => with_unfolding_all rfl); (case l7 => (intro _; with_unfolding_all rfl)));
  (intro x9 t9 m9); (try dsimp only)))
theorem one_ok {S Tg : Addr} {o : Obj} {vs : List Value} {xs : List Str} {n : Nat} {rest : List (Addr × Obj)} (hne : ∀ p ∈ (Tg, listOf vs.toArray n) :: rest, p.1 ≠ S) (ho : SrcOk o) (hv : TxtsIn vs xs) (hl : 0 < vs.length) (hl2 : vs.length ≤ 1000) :
    Ctr 2 56 [.ref S, .ref Tg] ((S, o) :: (Tg, listOf vs.toArray n) :: rest) (OneOut S Tg (listOf vs.toArray n) rest xs) := by
  unfold Ctr; k_fill
  intro w mean mg mb dp un gd cn cs ax ccd cl outer A₀ base h₀ L m s Q E B F XX N T hk hd hu hret
  refine wpAny_call ?_
  k_dflt cell_enter
  k_with_none
  k_steps
  exact hret _ _ _ _ (by k_asm) (by k_asm) ⟨_, _, _, rfl, by assumption, rfl, by assumption⟩
end Mine

namespace Mine
def strsOf : List Value → List Str
  | [] => []
  | .str x _ :: r => x :: strsOf r
  | _ :: r => strsOf r
def allStr : List Value → Bool
  | [] => true
  | .str _ _ :: r => allStr r
  | _ :: _ => false
theorem txtsIn_of : ∀ {vs : List Value}, allStr vs = true → TxtsIn vs (strsOf vs)
  | [], _, v, hv => nomatch hv
  | .str x t :: r, h, v, hv => by
    rcases List.mem_cons.mp hv with rfl | hv
    · exact ⟨x, .head _, t, rfl⟩
    · obtain ⟨y, hy, u, e⟩ := txtsIn_of (vs := r) h v hv
      exact ⟨y, .tail _ hy, u, e⟩
theorem news_swap {h₀ h : Heap} {L : Addr} {p q : Addr × Obj} {news : List (Addr × Obj)} (N : News h₀ L h (p :: q :: news)) : News h₀ L h (q :: p :: news) := fun x hx => N x (by
  rcases List.mem_cons.mp hx with rfl | hx
  · exact .tail _ (.head _)
  · rcases List.mem_cons.mp hx with rfl | hx
    · exact .head _
    · exact .tail _ (.tail _ hx))
theorem news_two {h₀ h : Heap} {L : Addr} {p q : Addr × Obj} {news : List (Addr × Obj)} (N : News h₀ L h (p :: q :: news)) : News h₀ L h (p :: news) := fun x hx => N x (by
  rcases List.mem_cons.mp hx with rfl | hx
  · exact .head _
  · exact .tail _ (.tail _ hx))
theorem news_tail {h₀ h : Heap} {L : Addr} {p : Addr × Obj} {news : List (Addr × Obj)} (N : News h₀ L h (p :: news)) : News h₀ L h news := fun x hx => N x (.tail _ hx)
theorem news_rot {h₀ h : Heap} {L : Addr} {p q d : Addr × Obj} {news : List (Addr × Obj)} (N : News h₀ L h (q :: d :: p :: news)) : News h₀ L h (p :: q :: news) := fun x hx => N x (by
  rcases List.mem_cons.mp hx with rfl | hx
  · exact .tail _ (.tail _ (.head _))
  · rcases List.mem_cons.mp hx with rfl | hx
    · exact .head _
    · exact .tail _ (.tail _ (.tail _ hx)))
theorem ne_lt {S Tg : Addr} {tg : Obj} {rest : List (Addr × Obj)} (h : ∀ p ∈ rest, p.1 ≠ S) (l : S < Tg ∧ AllLt Tg rest) : ∀ p ∈ (Tg, tg) :: rest, p.1 ≠ S := fun p hp => by
  rcases List.mem_cons.mp hp with rfl | hp
  · exact Nat.ne_of_gt l.1
  · exact h p hp
theorem short_of {x : Str} {xs : List Str} (h : x ∈ xs) (k : (xs.all fun y => decide (y.length ≤ 20)) = true) : x.length ≤ 20 := of_decide_eq_true (List.all_eq_true.mp k x h)
theorem one_ok' {S Tg : Addr} {o : Obj} {vs : List Value} {n : Nat} {rest : List (Addr × Obj)} (hne : ∀ p ∈ (Tg, listOf vs.toArray n) :: rest, p.1 ≠ S) (ho : SrcOk o) (hv : allStr vs = true) (hl : Nat.ble 1 vs.length = true) (hl2 : Nat.ble vs.length 1000 = true) :
    Ctr 2 56 [.ref S, .ref Tg] ((S, o) :: (Tg, listOf vs.toArray n) :: rest) (OneOut S Tg (listOf vs.toArray n) rest (strsOf vs)) :=
  one_ok hne ho (txtsIn_of hv) (Nat.le_of_ble_eq_true hl) (Nat.le_of_ble_eq_true hl2)
local macro_rules | `(tactic| k_all) => `(tactic| with_reducible assumption)
local macro_rules | `(tactic| walk_at "call ref") => `(tactic| (
  k_here; (with_reducible show wpAny _ _ (call (Value.ref 49) _) _ _ _);
  k_dflt (refine' Ctr.use (take_ok ?h1 ?h2 ?h3 ?h4) ?k1 ?k2 ?k3 ?k4 ?k5 ?kK ?kd ?ku ?_; (case k1 => k_asm); (case k2 => k_asm); (case k3 => k_asm); (case k4 => k_asm); (case k5 => k_asm); (case kK => first | exact rfl | assumption); (case kd => ktr_room); (case ku => ktr_units); (case h1 => with_reducible assumption); (case h2 => with_reducible assumption); (case h3 => decide); (case h4 => decide));
  intro r9 nx9 h9 tk9 F9 N9 o9; obtain ⟨x9, t9, s9, e9, l9, u9, n9, k9⟩ := o9; subst e9; subst n9; (try dsimp only); (try k_fold)))
local macro_rules | `(tactic| walk_at "call ref") => `(tactic| (
  k_here; (with_reducible show wpAny _ _ (call (Value.ref 56) _) _ _ _);
  k_dflt (refine' Ctr.use (one_ok' ?h1 ?h2 ?h3 ?h4 ?h5) ?k1 ?k2 ?k3 ?k4 ?k5 ?kK ?kd ?ku ?_; (case k1 => k_asm); (case k2 => k_asm); (case k3 => k_asm); (case k4 => first | exact news_swap (by k_asm) | exact news_rot (by k_asm)); (case k5 => k_asm); (case kK => first | exact rfl | assumption); (case kd => ktr_room); (case ku => ktr_units); (case h1 => first | exact ne_lt (by with_reducible assumption) (by with_reducible assumption) | ((with_reducible rename (_ ∧ _ ∧ AllLt _ _) => hl'); exact ne_lt (by with_reducible assumption) hl'.2)); (case h2 => with_reducible assumption); (case h3 => exact rfl); (case h4 => exact rfl); (case h5 => exact rfl));
  intro r9 nx9 h9 tk9 F9 N9 o9; obtain ⟨x9, t9, s9, e9, m9, n9, k9⟩ := o9; subst e9; subst n9; (have N8 := news_two N9); clear N9; (dsimp only [strsOf] at m9); (have z9 := short_of m9 (by decide +kernel)); (try dsimp only); (try k_fold)))
abbrev inners : List Str := [Str.ofString "", Str.ofString ">", Str.ofString "]", Str.ofString "a[", Str.ofString " < "]
abbrev plains : List Str := [Str.ofString "a", Str.ofString " ", Str.ofString "%p;", Str.ofString "<!E", Str.ofString "--", Str.ofString "<b"]
abbrev brks : List Str := [Str.ofString "[", Str.ofString "]", Str.ofString ">"]
def IsPiece (p : Str) : Prop :=
  p ∈ plains ∨ p ∈ brks ∨ ∃ x ∈ inners, p = Str.ofString "\"" ++ x ++ Str.ofString "'" ++ Str.ofString "\"" ∨ p = Str.ofString "'" ++ x ++ Str.ofString "\"" ++ Str.ofString "'" ∨
    p = Str.ofString "<!--" ++ x ++ Str.ofString "'" ++ Str.ofString "-->" ∨ p = Str.ofString "<?" ++ x ++ Str.ofString "\"" ++ Str.ofString "?>"
def PieceOut (S : Addr) (rest : List (Addr × Obj)) (r : Value) (nx : List (Addr × Obj)) : Prop :=
  ∃ (p : Str) (t : Tok) (o : Obj), r = .str p t ∧ IsPiece p ∧ nx = (S, o) :: rest ∧ SrcOk o
theorem piece_plain {p : Str} (h : p ∈ plains) : IsPiece p := .inl h
theorem piece_brk {p : Str} (h : p ∈ brks) : IsPiece p := .inr (.inl h)
section
variable {x : Str} (h : x ∈ inners)
include h
theorem piece_dq : IsPiece (Str.ofString "\"" ++ x ++ Str.ofString "'" ++ Str.ofString "\"") := .inr (.inr ⟨x, h, .inl rfl⟩)
theorem piece_sq : IsPiece (Str.ofString "'" ++ x ++ Str.ofString "\"" ++ Str.ofString "'") := .inr (.inr ⟨x, h, .inr (.inl rfl)⟩)
theorem piece_com : IsPiece (Str.ofString "<!--" ++ x ++ Str.ofString "'" ++ Str.ofString "-->") := .inr (.inr ⟨x, h, .inr (.inr (.inl rfl))⟩)
theorem piece_pi : IsPiece (Str.ofString "<?" ++ x ++ Str.ofString "\"" ++ Str.ofString "?>") := .inr (.inr ⟨x, h, .inr (.inr (.inr rfl))⟩)
end
theorem piece_ok {S : Addr} {o : Obj} {rest : List (Addr × Obj)} (hne : ∀ p ∈ rest, p.1 ≠ S) (ho : SrcOk o) :
    Ctr 3 63 [.ref S] ((S, o) :: rest) (PieceOut S rest) := by
  unfold Ctr; k_fill
  intro w mean mg mb dp un gd cn cs ax ccd cl outer A₀ base h₀ L m s Q E B F XX N T hk hd hu hret
  refine wpAny_call ?_
  k_dflt cell_enter
  k_with_none
  k_steps
  all_goals (rename News _ _ _ _ => nE')
  all_goals first
    | exact hret _ _ _ _ (by k_asm) nE' ⟨_, _, _, rfl, by first | with_reducible exact piece_plain (by assumption) | with_reducible exact piece_brk (by assumption), rfl, by with_reducible assumption⟩
    | exact hret _ _ _ _ (by k_asm) (news_tail nE') ⟨_, _, _, rfl, by first | with_reducible exact piece_dq (by assumption) | with_reducible exact piece_sq (by assumption) | with_reducible exact piece_com (by assumption) | with_reducible exact piece_pi (by assumption), rfl, by with_reducible assumption⟩
end Mine

namespace Mine
open PySem.Builtin PySem.Builtin.Str
theorem ls_app (x y : Str) : ls (x ++ y) = ls x ++ ls y := by simp [ls, Str.cps_append]
/-- the list moves the scan over itself, whatever comes behind it -/
def Moves (l : List Nat) (b b' : Bool) : Prop := ∀ post, Reach (l ++ post, b) (post, b')
theorem moves_a (b : Bool) : Moves [97] b b := fun _ => ⟨1, rfl⟩
theorem moves_sp (b : Bool) : Moves [32] b b := fun _ => ⟨1, rfl⟩
theorem moves_p (b : Bool) : Moves [37, 112, 59] b b := fun _ => ⟨3, rfl⟩
theorem moves_E (b : Bool) : Moves [60, 33, 69] b b := fun _ => ⟨3, rfl⟩
theorem moves_m (b : Bool) : Moves [45, 45] b b := fun _ => ⟨2, rfl⟩
theorem moves_b (b : Bool) : Moves [60, 98] b b := fun _ => ⟨2, rfl⟩
theorem moves_o (b : Bool) : Moves [91] b true := fun _ => ⟨1, rfl⟩
theorem moves_c (b : Bool) : Moves [93] b false := fun _ => ⟨1, rfl⟩
theorem moves_g : Moves [62] true true := fun _ => ⟨1, rfl⟩
abbrev innerL : List (List Nat) := [[], [62], [93], [97, 91], [32, 60, 32]]
theorem inner_ls {x : Str} (h : x ∈ inners) : ls x ∈ innerL := by
  have e : inners.map ls = innerL := by decide +kernel
  rw [← e]
  exact List.mem_map_of_mem h
theorem moves_dq (b : Bool) : ∀ l ∈ innerL, Moves (34 :: (l ++ [39, 34])) b b := by
  simp only [innerL, List.forall_mem_cons]
  exact ⟨fun _ => ⟨1, rfl⟩, fun _ => ⟨1, rfl⟩, fun _ => ⟨1, rfl⟩, fun _ => ⟨1, rfl⟩, fun _ => ⟨1, rfl⟩, List.forall_mem_nil _⟩
theorem moves_sq (b : Bool) : ∀ l ∈ innerL, Moves (39 :: (l ++ [34, 39])) b b := by
  simp only [innerL, List.forall_mem_cons]
  exact ⟨fun _ => ⟨1, rfl⟩, fun _ => ⟨1, rfl⟩, fun _ => ⟨1, rfl⟩, fun _ => ⟨1, rfl⟩, fun _ => ⟨1, rfl⟩, List.forall_mem_nil _⟩
theorem moves_com (b : Bool) : ∀ l ∈ innerL, Moves (60 :: 33 :: 45 :: 45 :: (l ++ [39, 45, 45, 62])) b b := by
  simp only [innerL, List.forall_mem_cons]
  exact ⟨fun _ => ⟨1, rfl⟩, fun _ => ⟨1, rfl⟩, fun _ => ⟨1, rfl⟩, fun _ => ⟨1, rfl⟩, fun _ => ⟨1, rfl⟩, List.forall_mem_nil _⟩
theorem moves_pi (b : Bool) : ∀ l ∈ innerL, Moves (60 :: 63 :: (l ++ [34, 63, 62])) b b := by
  simp only [innerL, List.forall_mem_cons]
  exact ⟨fun _ => ⟨1, rfl⟩, fun _ => ⟨1, rfl⟩, fun _ => ⟨1, rfl⟩, fun _ => ⟨1, rfl⟩, fun _ => ⟨1, rfl⟩, List.forall_mem_nil _⟩
theorem plain_ls {x : Str} (h : x ∈ plains) (b : Bool) : Moves (ls x) b b := by
  have e : plains.map ls = [[97], [32], [37, 112, 59], [60, 33, 69], [45, 45], [60, 98]] := by decide +kernel
  have m : ls x ∈ plains.map ls := List.mem_map_of_mem h
  rw [e] at m
  simp only [List.mem_cons, List.not_mem_nil, or_false] at m
  rcases m with m | m | m | m | m | m <;> rw [m]
  · exact moves_a b
  · exact moves_sp b
  · exact moves_p b
  · exact moves_E b
  · exact moves_m b
  · exact moves_b b
theorem str_eq_of {x : Str} {y : Str} (h : (x == y) = true) : x = y := beq_iff_eq.mp h
theorem str_ne_of {x : Str} {y : Str} (h : (x == y) = false) : x ≠ y := fun q => by
  rw [q, beq_self_eq_true y] at h
  cases h
section
variable {p : Str} (hp : IsPiece p)
include hp
theorem piece_still {b : Bool} (ho : (p == Str.ofString "[") = false) (hc : (p == Str.ofString "]") = false) (hg : (p == Str.ofString ">") = true → b = true) : Moves (ls p) b b := by
  rcases hp with h | h | ⟨x, hx, h | h | h | h⟩
  · exact plain_ls h b
  · simp only [brks, List.mem_cons, List.not_mem_nil, or_false] at h
    rcases h with h | h | h
    · exact absurd h (str_ne_of ho)
    · exact absurd h (str_ne_of hc)
    · have hb := hg (by rw [h]; exact beq_self_eq_true _)
      subst hb
      rw [h, show ls (Str.ofString ">") = [62] by decide +kernel]
      exact moves_g
  · have e : ls p = 34 :: (ls x ++ [39, 34]) := by
      rw [h, ls_app, ls_app, ls_app, show ls (Str.ofString "\"") = [34] by decide +kernel, show ls (Str.ofString "'") = [39] by decide +kernel]
      simp
    rw [e]
    exact moves_dq b _ (inner_ls hx)
  · have e : ls p = 39 :: (ls x ++ [34, 39]) := by
      rw [h, ls_app, ls_app, ls_app, show ls (Str.ofString "\"") = [34] by decide +kernel, show ls (Str.ofString "'") = [39] by decide +kernel]
      simp
    rw [e]
    exact moves_sq b _ (inner_ls hx)
  · have e : ls p = 60 :: 33 :: 45 :: 45 :: (ls x ++ [39, 45, 45, 62]) := by
      rw [h, ls_app, ls_app, ls_app, show ls (Str.ofString "<!--") = [60, 33, 45, 45] by decide +kernel, show ls (Str.ofString "'") = [39] by decide +kernel, show ls (Str.ofString "-->") = [45, 45, 62] by decide +kernel]
      simp
    rw [e]
    exact moves_com b _ (inner_ls hx)
  · have e : ls p = 60 :: 63 :: (ls x ++ [34, 63, 62]) := by
      rw [h, ls_app, ls_app, ls_app, show ls (Str.ofString "<?") = [60, 63] by decide +kernel, show ls (Str.ofString "\"") = [34] by decide +kernel, show ls (Str.ofString "?>") = [63, 62] by decide +kernel]
      simp
    rw [e]
    exact moves_pi b _ (inner_ls hx)
omit hp
theorem piece_open {b : Bool} (ho : (p == Str.ofString "[") = true) : Moves (ls p) b (p == Str.ofString "[") := by
  rw [ho, str_eq_of ho, show ls (Str.ofString "[") = [91] by decide +kernel]
  exact moves_o b
theorem piece_close {b : Bool} (hc : (p == Str.ofString "]") = true) : Moves (ls p) b (p == Str.ofString "[") := by
  rw [str_eq_of hc, show ls (Str.ofString "]") = [93] by decide +kernel, show (Str.ofString "]" == Str.ofString "[") = false by decide +kernel]
  exact moves_c b
include hp
theorem piece_len : p.length ≤ 20 := by
  rcases hp with h | h | ⟨x, hx, h | h | h | h⟩
  · exact short_of h (by decide +kernel)
  · exact short_of h (by decide +kernel)
  all_goals
    have hx' : x.length ≤ 3 := of_decide_eq_true (List.all_eq_true.mp (show (inners.all fun y => decide (y.length ≤ 3)) = true by decide +kernel) x hx)
    rw [h]
    simp only [Str.length_append]
    have e1 : (Str.ofString "\"").length = 1 := by decide +kernel
    have e2 : (Str.ofString "'").length = 1 := by decide +kernel
    have e3 : (Str.ofString "<!--").length = 4 := by decide +kernel
    have e4 : (Str.ofString "-->").length = 3 := by decide +kernel
    have e5 : (Str.ofString "<?").length = 2 := by decide +kernel
    have e6 : (Str.ofString "?>").length = 2 := by decide +kernel
    omega
end
/-- the text up to here moves the scan from the end of what stands ahead to its own end -/
def Upto (A : Str) (w0 : Bool) (T : Str) (w : Bool) : Prop := ∃ body, ls T = ls A ++ body ∧ Moves body w0 w
theorem upto_nil (A : Str) (w0 : Bool) : Upto A w0 A w0 := ⟨[], (List.append_nil _).symm, fun _ => Reach.refl _⟩
theorem Upto.add {A T p : Str} {w0 w w' : Bool} (h : Upto A w0 T w) (k : Moves (ls p) w w') : Upto A w0 (T ++ p) w' := by
  obtain ⟨body, e, m⟩ := h
  refine ⟨body ++ ls p, by rw [ls_app, e, List.append_assoc], fun post => ?_⟩
  rw [List.append_assoc]
  exact (m _).trans (k post)
theorem Upto.reach {A T Z : Str} {w0 w : Bool} (h : Upto A w0 T w) : Reach ((ls (T ++ Z)).drop A.length, w0) (ls Z, w) := by
  obtain ⟨body, e, m⟩ := h
  rw [ls_app, e, List.append_assoc, ← ls_len A, List.drop_left]
  exact m _
theorem ends_next {s : List Nat} {b : Bool} {a : Int} {v : Value} (h : Ends s b a v) : next (s, b) = none := by
  unfold next
  rcases h with ⟨_, h | h⟩ | ⟨_, _, h⟩
  · rw [if_pos h]
  · split
    · rfl
    · show (match turn s b with | .go k w => some (s.drop k, w) | _ => none) = none
      rw [h]
  · split
    · rfl
    · show (match turn s b with | .go k w => some (s.drop k, w) | _ => none) = none
      rw [h]
/-- where the scan is shown to end, there the tuple tells it to end -/
theorem doc_final {A T Z : Str} {w0 w b : Bool} {a : Int} {v : Value} (U : Upto A w0 T w) (hn : next (ls Z, w) = none) (h0 : 0 ≤ a) (h1 : a ≤ (T ++ Z).length) (I : WInv (T ++ Z) (A.length : Int) w0 a b) (e : Ends ((ls (T ++ Z)).drop a.toNat) b a v) :
    a = T.length ∧ b = w ∧ Ends (ls Z) w a v := by
  have U' := U.reach (Z := Z)
  unfold WInv at I
  rw [Int.toNat_natCast] at I
  have q := Reach.one I U' (ends_next e) hn
  have q1 : (ls (T ++ Z)).drop a.toNat = ls Z := congrArg Prod.fst q
  have q2 : b = w := congrArg Prod.snd q
  refine ⟨?_, q2, by rw [← q1, ← q2]; exact e⟩
  have l := congrArg List.length q1
  rw [List.length_drop, ls_len, ls_len, Str.length_append] at l
  rw [Str.length_append] at h1
  omega
abbrev lasts : List Str := [Str.ofString "", Str.ofString "<", Str.ofString "<!", Str.ofString "<!-", Str.ofString "<!--", Str.ofString "<!-- > --", Str.ofString "<?x>", Str.ofString "<?", Str.ofString "'>", Str.ofString "\"]", Str.ofString "'"]
abbrev tails : List Str := [Str.ofString "", Str.ofString "a", Str.ofString "<", Str.ofString "]"]
theorem last_stop {z : Str} (h : z ∈ lasts) (w : Bool) : ls z = [] ∨ turn (ls z) w = .brk := by
  have e : (lasts.all fun z => (ls z).isEmpty || (turn (ls z) w).isBrk) = true := by cases w <;> decide +kernel
  rcases Bool.or_eq_true_iff.mp (List.all_eq_true.mp e z h) with q | q
  · exact .inl (List.isEmpty_iff.mp q)
  · exact .inr (Tn.brk_of q)
theorem last_next {z : Str} (h : z ∈ lasts) (w : Bool) : next (ls z, w) = none := ends_next (a := 0) (.inl ⟨rfl, last_stop h w⟩)
theorem tail_stop {z : Str} (h : z ∈ tails) : turn (ls (Str.ofString ">" ++ z)) false = .ret := by
  have e : (tails.all fun z => (turn (ls (Str.ofString ">" ++ z)) false).isRet) = true := by decide +kernel
  exact Tn.ret_of (List.all_eq_true.mp e z h)
theorem gt_ne (z : Str) : ls (Str.ofString ">" ++ z) ≠ [] := by
  rw [ls_app, show ls (Str.ofString ">") = [62] by decide +kernel]
  simp
theorem tail_next {z : Str} (h : z ∈ tails) : next (ls (Str.ofString ">" ++ z), false) = none := ends_next (a := 0) (v := .int (0 + 1) 0) (.inr ⟨⟨0, rfl⟩, gt_ne z, tail_stop h⟩)
/-- the loop's early end -/
theorem doc_gt {A T p z : Str} {w0 w b : Bool} {a : Int} {v : Value} (U : Upto A w0 T w) (hw : w = false) (hp : (p == Str.ofString ">") = true) (hz : z ∈ tails) (h0 : 0 ≤ a) (h1 : a ≤ (T ++ p ++ z).length) (I : WInv (T ++ p ++ z) (A.length : Int) w0 a b) (e : Ends ((ls (T ++ p ++ z)).drop a.toNat) b a v) :
    a = T.length ∧ b = false ∧ ∃ t, v = .int (T.length + 1) t := by
  subst hw
  have hp' := str_eq_of hp
  subst hp'
  rw [Str.append_assoc] at h1 I e
  obtain ⟨e1, e2, e3⟩ := doc_final U (tail_next hz) h0 h1 I e
  refine ⟨e1, e2, ?_⟩
  rcases e3 with ⟨_, h | h⟩ | ⟨⟨t, h⟩, _⟩
  · exact absurd h (gt_ne z)
  · rw [tail_stop hz] at h; cases h
  · exact ⟨t, by rw [h, e1]⟩
/-- the end behind the loop -/
theorem doc_last {A T z : Str} {w0 w b : Bool} {a : Int} {v : Value} (U : Upto A w0 T w) (hz : z ∈ lasts) (h0 : 0 ≤ a) (h1 : a ≤ (T ++ z).length) (I : WInv (T ++ z) (A.length : Int) w0 a b) (e : Ends ((ls (T ++ z)).drop a.toNat) b a v) :
    a = T.length ∧ b = w ∧ v = .none := by
  obtain ⟨e1, e2, e3⟩ := doc_final U (last_next hz w) h0 h1 I e
  refine ⟨e1, e2, ?_⟩
  rcases e3 with ⟨h, _⟩ | ⟨_, h1, h2⟩
  · exact h
  · rcases last_stop hz w with q | q
    · exact absurd q h1
    · rw [q] at h2; cases h2
end Mine

namespace Mine
/-- the loop's state: the text and its token, whether within, the source -/
abbrev RSt := Str × Tok × Bool × Obj
abbrev rLed (S : Addr) (rest : List (Addr × Obj)) (c : RSt) : List (Addr × Obj) := (S, c.2.2.2) :: rest
abbrev rPs (c : RSt) : List (Str × Value) := [(Str.ofString "text", .str c.1 c.2.1), (Str.ofString "is_within", .bool c.2.2.1)]
abbrev rFa (c : RSt) : Prop := SrcOk c.2.2.2
abbrev rStored : List Str := [Str.ofString "piece", Str.ofString "whole"]
abbrev RWord (A : Str) (w0 : Bool) (pre : List Int) (c : RSt) : Prop := c.1.length ≤ 20 + 20 * pre.length ∧ A.length ≤ c.1.length ∧ Upto A w0 c.1 c.2.2.1
abbrev rMap (u m₀ : Str → Option Value) (T : Str) (tT : Tok) (wi : Bool) : Str → Option Value := kstB (fun z => if rStored.contains z then u z else m₀ z) [(Str.ofString "text", .str T tT), (Str.ofString "is_within", .bool wi)]
theorem right_loop {prog : Program} {w : World} {Ar : Around} {E : Value → Shared → Prop} {s : Shared} {env : Env} {h₀ : Heap} {x : Str} {body : List Stmt} {Q : Flow → Shared → Prop}
    {r S : Addr} {rest : List (Addr × Obj)} {b₀ : Int} {t₀ u₀ v₀ : Tok} {m₀ : Str → Option Value} {A : Str} {w0 : Bool} {tA : Tok} {o : Obj}
    (hh : Ar.handled = none) (hr : IsRange s.heap r 0 b₀ 1 t₀ u₀ v₀) (hb0 : 0 ≤ b₀) (hb : b₀ < 6) (F : Fr h₀ env.locals s.heap m₀) (N : News h₀ env.locals s.heap ((S, o) :: rest)) (ho : SrcOk o)
    (hk : ∀ p ∈ rPs (A, tA, w0, o), m₀ p.1 = some p.2) (hA : A.length ≤ 20)
    (turn : ∀ (T : Str) (tT : Tok) (wi : Bool) (o1 : Obj) (pre : List Int) (k : Int) t (u : Str → Option Value) h tk own, pre.length < 5 → OwnOff own (((S, o) :: rest).map (·.1)) → SrcOk o1 → T.length ≤ 20 + 20 * pre.length → A.length ≤ T.length → Upto A w0 T wi →
      Fr h₀ env.locals h (fun y => if y = x then some (.int k t) else rMap u m₀ T tT wi y) → News h₀ env.locals h ((S, o1) :: (rest ++ own)) →
      wpAny (model prog w) Ar (execs body env) (InvPostN h₀ env.locals (KstS (rLed S rest) rPs rFa x rStored m₀ (RWord A w0) (pre ++ [k])) own (((S, o) :: rest).map (·.1)) { s with heap := h, toks := tk } Q) E { s with heap := h, toks := tk })
    (done : ∀ (T : Str) (tT : Tok) (wi : Bool) (o1 : Obj) (u : Str → Option Value) h tk, SrcOk o1 → T.length ≤ 140 → A.length ≤ T.length → Upto A w0 T wi →
      Fr h₀ env.locals h (fun y => if y = x then u y else rMap u m₀ T tT wi y) → News h₀ env.locals h ((S, o1) :: rest) → Q .next { s with heap := h, toks := tk }) :
    wpAny (model prog w) Ar (pyIter (.ref r)) (fun it s₂ => LoopAtV prog w Ar h₀ env x body Q E it s₂) E s := by
  refine kst_range (rLed S rest) rPs rFa rStored (RWord A w0) (A, tA, w0, o) hh hr (small_one (by omega) (by omega) (by omega) (by omega)) (rangeSize_nat _ _) F N ho hk ⟨hA, Nat.le_refl _, upto_nil _ _⟩ ?_ ?_
  · rintro ⟨T, tT, wi, o1⟩ pre k t u h tk own hk1 hlt hoff hf ⟨hl1, hl2, hU⟩ F1 N1
    exact turn T tT wi o1 pre k t u h tk own (by omega) hoff hf hl1 hl2 hU F1 N1
  · rintro ⟨T, tT, wi, o1⟩ u h tk hf ⟨hl1, hl2, hU⟩ F1 N1
    refine done T tT wi o1 u h tk hf ?_ hl2 hU F1 N1
    rw [rangeKs_length] at hl1
    have : T.length ≤ 20 + 20 * (b₀ - 0).toNat := hl1
    omega
local macro_rules | `(tactic| k_all) => `(tactic| with_reducible assumption)
local macro_rules | `(tactic| walk_at "call ref") => `(tactic| (
  k_here; (with_reducible show wpAny _ _ (call (Value.ref 49) _) _ _ _);
  k_dflt (refine' Ctr.use (take_ok ?h1 ?h2 ?h3 ?h4) ?k1 ?k2 ?k3 ?k4 ?k5 ?kK ?kd ?ku ?_; (case k1 => k_asm); (case k2 => k_asm); (case k3 => k_asm); (case k4 => first | k_asm | exact news_tail (by k_asm) | exact news_tail (news_tail (by k_asm))); (case k5 => k_asm); (case kK => first | exact rfl | assumption); (case kd => ktr_room); (case ku => ktr_units); (case h1 => with_reducible assumption); (case h2 => with_reducible assumption); (case h3 => decide); (case h4 => decide));
  intro r9 nx9 h9 tk9 F9 N9 o9; obtain ⟨x9, t9, s9, e9, l9, u9, n9, k9⟩ := o9; subst e9; subst n9; (try dsimp only); (try k_fold)))
local macro_rules | `(tactic| walk_at "call ref") => `(tactic| (
  k_here; (with_reducible show wpAny _ _ (call (Value.ref 56) _) _ _ _);
  k_dflt (refine' Ctr.use (one_ok' ?h1 ?h2 ?h3 ?h4 ?h5) ?k1 ?k2 ?k3 ?k4 ?k5 ?kK ?kd ?ku ?_; (case k1 => k_asm); (case k2 => k_asm); (case k3 => k_asm); (case k4 => first | exact news_swap (by k_asm) | exact news_rot (by k_asm)); (case k5 => k_asm); (case kK => first | exact rfl | assumption); (case kd => ktr_room); (case ku => ktr_units); (case h1 => first | exact ne_lt (by with_reducible assumption) (by with_reducible assumption) | ((with_reducible rename (_ ∧ _ ∧ AllLt _ _) => hl'); exact ne_lt (by with_reducible assumption) hl'.2)); (case h2 => with_reducible assumption); (case h3 => exact rfl); (case h4 => exact rfl); (case h5 => exact rfl));
  intro r9 nx9 h9 tk9 F9 N9 o9; obtain ⟨x9, t9, s9, e9, m9, n9, k9⟩ := o9; subst e9; subst n9; (have N8 := news_two N9); clear N9; (dsimp only [strsOf] at m9); (have z9 := short_of m9 (by decide +kernel)); (try dsimp only); (try k_fold)))
local macro_rules | `(tactic| walk_at "call ref") => `(tactic| (
  k_here; (with_reducible show wpAny _ _ (call (Value.ref 63) _) _ _ _);
  k_dflt (refine' Ctr.use (piece_ok ?h1 ?h2) ?k1 ?k2 ?k3 ?k4 ?k5 ?kK ?kd ?ku ?_; (case k1 => k_asm); (case k2 => k_asm); (case k3 => k_asm); (case k4 => k_asm); (case k5 => k_asm); (case kK => first | exact rfl | assumption); (case kd => ktr_room); (case ku => ktr_units); (case h1 => with_reducible assumption); (case h2 => with_reducible assumption));
  intro r9 nx9 h9 tk9 F9 N9 o9; obtain ⟨x9, t9, s9, e9, m9, n9, k9⟩ := o9; subst e9; subst n9; (have z9 := piece_len m9); (try dsimp only); (try k_fold)))
local macro_rules | `(tactic| walk_at "pyIter ref") => `(tactic| k_dflt (k_extra "my loop"))
local macro_rules | `(tactic| walk_at "call ref") => `(tactic| (k_here; (with_reducible show wpAny _ _ (call (Value.ref 35) _) _ _ _); k_dflt (k_extra "my doc")))
local macro_rules | `(tactic| walk_at "InvEndN") => `(tactic| refine Park.out ?_)
theorem ne_app {S : Addr} {rest own : List (Addr × Obj)} {o : Obj} (h : ∀ p ∈ rest, p.1 ≠ S) (k : OwnOff own (((S, o) :: rest).map (·.1))) : ∀ p ∈ rest ++ own, p.1 ≠ S := fun p hp => by
  rcases List.mem_append.mp hp with hp | hp
  · exact h p hp
  · exact k p hp S (.head _)
local macro_rules | `(tactic| walk_at "compareOp Eq ref ref") => `(tactic| (
  k_here; (with_reducible show wpAny _ _ (compareOp CmpOp.Eq (Value.ref _) (Value.ref _)) _ _ _);
  k_dflt (refine eq_dataH (by ke_read) (by ke_read) (by ke_shaped) (by ke_shaped) (by ktr_units) ?_);
  (simp only [PyData.eqv, PyData.eqvAll, eq_self, decide_true, beq_self_eq_true, Bool.and_true, Bool.true_and])))
theorem in_led {S : Addr} {o : Obj} {rest own : List (Addr × Obj)} : ∀ p ∈ (S, o) :: rest, p ∈ (S, o) :: (rest ++ own) := fun p hp => by
  rcases List.mem_cons.mp hp with rfl | hp
  · exact .head _
  · exact .tail _ (List.mem_append_left _ hp)
theorem in_own {S : Addr} {o : Obj} {rest own : List (Addr × Obj)} : ∀ p ∈ own, p ∈ (S, o) :: (rest ++ own) := fun p hp => .tail _ (List.mem_append_right _ hp)
theorem news_keep {h₀ h : Heap} {L : Addr} {p : Addr × Obj} {rest own : List (Addr × Obj)} (N : News h₀ L h (p :: (rest ++ own))) : News h₀ L h (p :: rest) := fun x hx => N x (by
  rcases List.mem_cons.mp hx with rfl | hx
  · exact .head _
  · exact .tail _ (List.mem_append_left _ hx))
theorem rword {A T p : Str} {w0 wi wi' : Bool} {pre : List Int} {k : Int} {t : Tok} {o : Obj} (h1 : T.length ≤ 20 + 20 * pre.length) (h2 : A.length ≤ T.length) (hp : p.length ≤ 20) (U : Upto A w0 T wi) (m : Moves (ls p) wi wi') : RWord A w0 (pre ++ [k]) (T ++ p, t, wi', o) := by
  refine ⟨?_, ?_, U.add m⟩
  · show (T ++ p).length ≤ 20 + 20 * (pre ++ [k]).length
    rw [Str.length_append, List.length_append, List.length_singleton]
    omega
  · show A.length ≤ (T ++ p).length
    rw [Str.length_append]
    omega
def RightOut (S : Addr) (rest : List (Addr × Obj)) (r : Value) (nx : List (Addr × Obj)) : Prop := ∃ o, r = .bool true ∧ nx = (S, o) :: rest ∧ SrcOk o
theorem right_ok {S : Addr} {o : Obj} {rest : List (Addr × Obj)} (hne : ∀ p ∈ rest, p.1 ≠ S) (ho : SrcOk o) :
    Ctr 20 70 [.ref S] ((S, o) :: rest) (RightOut S rest) := by
  unfold Ctr; k_fill
  intro w mean mg mb dp un gd cn cs ax ccd cl outer A₀ base h₀ L m s Q E B F XX N T hk hd hu hret
  refine wpAny_call ?_
  k_dflt cell_enter
  k_with_none
  k_with "my loop" =>
    (rename Fr _ _ _ _ => lF'); (rename News _ _ _ _ => lN'); (rename IsRange _ _ _ _ _ _ _ _ => rgX)
    refine' right_loop (by rfl) rgX ?kb0 ?kb ?kF lN' ?kf ?kk ?kA ?turn ?done
    (case kF => exact lF')
    (case kk => kst_all)
    (case kb0 => with_reducible assumption)
    (case kb => with_reducible assumption)
    (case kf => with_reducible assumption)
    (case kA => with_reducible assumption)
    (case' turn =>
      clear lF' lN'
      intro tx tt wi o1 pre k t u h tk own hlt hoff hf hl1 hl2 hU F1 N1
      have hne1 := ne_app hne hoff
      dsimp only [rMap, rStored, kstB] at F1
      (try k_fold))
    (case' done =>
      clear lF' lN'
      intro tx tt wi o1 u h tk hf hl1 hl2 hU F1 N1
      dsimp only [rMap, rStored, kstB] at F1
      (try k_fold))
  k_with "my doc" =>
    (refine' Ctr.use (doc_ok ?h1 ?h2 ?h3) ?k1 ?k2 ?k3 ?k4 ?k5 ?kK ?kd ?ku ?_)
    (case h1 => (simp only [Str.length_append]; omega))
    (case h2 => exact Int.natCast_nonneg _)
    (case h3 => (simp only [Str.length_append]; omega))
    (case k1 => k_asm)
    (case k2 => k_asm)
    (case k3 => k_asm)
    (case k4 => k_asm)
    (case k5 => k_asm)
    (case kK => first | exact rfl | assumption)
    (case kd => ktr_room)
    (case ku => ktr_units)
    intro r9 nx9 h9 tk9 F9 N9 o9
    obtain ⟨D9, v9, a9, ta9, b9, e9, n9, hl9, g0, g1, I9, E9⟩ := o9
    subst e9
    subst n9
    first
      | (with_reducible rename (_ ∈ [Str.ofString "", Str.ofString "a", Str.ofString "<", Str.ofString "]"]) => hz9)
        obtain ⟨ea, eb, t9, ev⟩ := doc_gt hU (by with_reducible assumption) (by with_reducible assumption) hz9 g0 g1 I9 E9
        clear I9 E9
        subst ea; subst eb; subst ev
      | (with_reducible rename (_ ∈ Str.ofString "" :: Str.ofString "<" :: _) => hz9)
        obtain ⟨ea, eb, ev⟩ := doc_last hU hz9 g0 g1 I9 E9
        clear I9 E9
        subst ea; subst eb; subst ev
    have l1 := allLt_of hl9
    clear hl9
    dsimp only [tup3] at N9
    (try dsimp only [AllLt] at l1)
    (try dsimp only)
    (try k_fold)
  k_steps
  all_goals (try (refine Park.into ?_))
  all_goals (rename News _ _ _ _ => nE')
  all_goals (rename Fr _ _ _ _ => lF')
  all_goals first
    | exact hret _ _ _ _ (by k_asm) (news_tail (news_tail nE')) ⟨_, rfl, rfl, by with_reducible assumption⟩
    | exact hret _ _ _ _ (by k_asm) (news_keep (news_tail (news_tail nE'))) ⟨_, rfl, rfl, by with_reducible assumption⟩
    | (refine' kst_end (σ := RSt) (_, _, _, _) lF' nE' ?b1 ?b2 ?b3 ?a1 ?a2 ?a3 ?a4; (case a2 => kst_all); (case b1 => exact in_led); (case b2 => exact in_own); (case b3 => rfl); (case a1 => with_reducible assumption); (case a3 => kst_same); (case a4 => first
        | with_reducible exact rword hl1 hl2 (by assumption) hU (piece_open (by assumption))
        | with_reducible exact rword hl1 hl2 (by assumption) hU (piece_close (by assumption))
        | with_reducible exact rword hl1 hl2 (by assumption) hU (piece_still (by assumption) (by assumption) (by assumption) (by first | exact fun _ => (by assumption) | exact fun q => nomatch (q.symm.trans (by assumption) : true = false)))))
end Mine

namespace Mine
def runN : Nat → List Nat × Bool → List Nat × Bool
  | 0, c => c
  | n + 1, c => match next c with
    | none => c
    | some d => runN n d
theorem runN_reach : ∀ (n : Nat) (c : List Nat × Bool), Reach c (runN n c)
  | 0, c => Reach.refl c
  | n + 1, c => by
    unfold runN
    cases q : next c with
    | none => exact Reach.refl c
    | some d => exact ((Reach.refl c).step q).trans (runN_reach n d)
/-- a written text: where the scan ends, by computation -/
def rowOk (X : Str) (at0 : Int) (w0 : Bool) (j : Int) (wj g : Bool) : Bool :=
  let c := runN 30 ((ls X).drop at0.toNat, w0)
  (next c).isNone && decide (c.1.length + j.toNat = X.length) && (c.2 == wj) && decide (0 ≤ j) && (if g then (turn c.1 c.2).isRet && !c.1.isEmpty else !(turn c.1 c.2).isRet || c.1.isEmpty)
section
variable {X : Str} {at0 a : Int} {w0 b : Bool} {v : Value}
theorem doc_row (j : Int) (wj g : Bool) (h : rowOk X at0 w0 j wj g = true) (g0 : 0 ≤ a) (g1 : a ≤ X.length) (I : WInv X at0 w0 a b) (e : Ends ((ls X).drop a.toNat) b a v) :
    a = j ∧ b = wj ∧ (if g then (turn ((ls X).drop a.toNat) b).isRet && !((ls X).drop a.toNat).isEmpty else !(turn ((ls X).drop a.toNat) b).isRet || ((ls X).drop a.toNat).isEmpty) = true := by
  unfold rowOk at h
  obtain ⟨h, h5⟩ := Bool.and_eq_true_iff.mp h
  simp only [Bool.and_eq_true, decide_eq_true_eq, Option.isNone_iff_eq_none, beq_iff_eq] at h
  obtain ⟨⟨⟨h1, h2⟩, h3⟩, h4⟩ := h
  have q := Reach.one I (runN_reach 30 _) (ends_next e) h1
  rw [← q] at h2 h3 h5
  refine ⟨?_, h3, h5⟩
  have h2' : ((ls X).drop a.toNat).length + j.toNat = X.length := h2
  rw [List.length_drop, ls_len] at h2'
  omega
theorem doc_rowN (j : Int) (wj : Bool) (h : rowOk X at0 w0 j wj false = true) (g0 : 0 ≤ a) (g1 : a ≤ X.length) (I : WInv X at0 w0 a b) (e : Ends ((ls X).drop a.toNat) b a v) : a = j ∧ b = wj ∧ v = .none := by
  obtain ⟨e1, e2, e3⟩ := doc_row j wj false h g0 g1 I e
  refine ⟨e1, e2, ?_⟩
  rcases e with ⟨h, _⟩ | ⟨_, h1, h2⟩
  · exact h
  · rcases Bool.or_eq_true_iff.mp e3 with q | q
    · exact absurd h2 (Tn.not_ret q)
    · exact absurd (List.isEmpty_iff.mp q) h1
theorem doc_rowR (j k : Int) (wj : Bool) (h : rowOk X at0 w0 j wj true = true) (hk : k = j + 1) (g0 : 0 ≤ a) (g1 : a ≤ X.length) (I : WInv X at0 w0 a b) (e : Ends ((ls X).drop a.toNat) b a v) : a = j ∧ b = wj ∧ ∃ t, v = .int k t := by
  obtain ⟨e1, e2, e3⟩ := doc_row j wj true h g0 g1 I e
  refine ⟨e1, e2, ?_⟩
  obtain ⟨q1, q2⟩ := Bool.and_eq_true_iff.mp e3
  have q1 := Tn.ret_of q1
  have q2 : (ls X).drop a.toNat ≠ [] := fun q => by rw [q] at q2; cases q2
  rcases e with ⟨_, h | h⟩ | ⟨⟨t, h⟩, _⟩
  · exact absurd h q2
  · rw [q1] at h; cases h
  · exact ⟨t, by rw [h, hk, e1]⟩
end
theorem row1 : rowOk (Str.ofString "<!DOCTYPE a>") 9 false 11 false true = true := by decide +kernel
theorem row2 : rowOk (Str.ofString "[>]>") 0 false 3 false true = true := by decide +kernel
theorem row3 : rowOk (Str.ofString "'>'>") 0 false 3 false true = true := by decide +kernel
theorem row4 : rowOk (Str.ofString "<!-- > -->>") 0 false 10 false true = true := by decide +kernel
theorem row5 : rowOk (Str.ofString "<? > ?>>") 0 false 7 false true = true := by decide +kernel
theorem row6 : rowOk (Str.ofString "[<!-") 0 false 1 true false = true := by decide +kernel
theorem row7 : rowOk (Str.ofString "x<!--a") 0 true 1 true false = true := by decide +kernel
theorem row8 : rowOk (Str.ofString "'a") 0 false 0 false false = true := by decide +kernel
theorem row9 : rowOk (Str.ofString "<?a") 0 false 0 false false = true := by decide +kernel
theorem row10 : rowOk (Str.ofString "ab") 0 true 2 true false = true := by decide +kernel
theorem row11 : rowOk (Str.ofString "]>") 0 true 1 false true = true := by decide +kernel
end Mine

namespace Mine
local macro_rules | `(tactic| walk_at "call ref") => `(tactic| (k_here; (with_reducible show wpAny _ _ (call (Value.ref 35) _) _ _ _); k_dflt (k_extra "my doc")))
def AllLtN (d : Addr) : List (Addr × Obj) → Prop
  | [] => True
  | [p] => @LT.lt Nat _ p.1 d
  | p :: q :: r => @LT.lt Nat _ p.1 d ∧ AllLtN d (q :: r)
theorem neN_of {d : Addr} : ∀ {l : List (Addr × Obj)}, AllLtN d l → ∀ p ∈ l, p.1 ≠ d
  | [], _, _, hp => nomatch hp
  | [q], h, p, hp => by
    rw [List.mem_singleton.mp hp]
    exact Nat.ne_of_lt h
  | q :: q' :: r, h, p, hp => by
    rcases List.mem_cons.mp hp with rfl | hp
    · exact Nat.ne_of_lt h.1
    · exact neN_of h.2 p hp
local macro_rules | `(tactic| k_all) => `(tactic| (refine neN_of ?kz; (case kz => (dsimp only [AllLtN]; with_reducible assumption))))
def keepAt : List Bool → List (Addr × Obj) → List (Addr × Obj)
  | [], _ => []
  | _ :: _, [] => []
  | true :: bs, x :: xs => x :: keepAt bs xs
  | false :: bs, _ :: xs => keepAt bs xs
theorem keepAt_sub : ∀ (bs : List Bool) (l : List (Addr × Obj)), ∀ p ∈ keepAt bs l, p ∈ l := by
  intro bs
  induction bs with
  | nil => intro l p hp; exact nomatch (show p ∈ ([] : List (Addr × Obj)) from hp)
  | cons b bs ih =>
    intro l p hp
    cases l with
    | nil => exact hp
    | cons x xs =>
      cases b with
      | true =>
        rcases List.mem_cons.mp (show p ∈ x :: keepAt bs xs from hp) with rfl | hp
        · exact .head _
        · exact .tail _ (ih xs p hp)
      | false => exact .tail _ (ih xs p (show p ∈ keepAt bs xs from hp))
/-- what the loop over the rows needs behind its first turn -/
abbrev rowMask : List Bool := [true, true, true, false, true, true, true, true, false, false, true, true, true, true, false, false, true, true, true, true, false, false, true, true, true, true, false, true, true, false, false]
def long : Nat → List (Addr × Obj) → Bool
  | 0, [] => true
  | n + 1, _ :: r => long n r
  | _, _ => false
theorem mask_sub {l : List (Addr × Obj)} (_h : long 31 l = true) : ∀ p ∈ keepAt rowMask l, p ∈ l := keepAt_sub _ l
def cut2 : List (Addr × Obj) → List (Addr × Obj)
  | a :: b :: c :: r => a :: cut2 (b :: c :: r)
  | _ => []
theorem cut2_sub : ∀ (l : List (Addr × Obj)), ∀ p ∈ cut2 l, p ∈ l := by
  intro l
  induction l with
  | nil => intro p hp; exact hp
  | cons a r ih =>
    intro p hp
    cases r with
    | nil => exact nomatch (show p ∈ ([] : List (Addr × Obj)) from hp)
    | cons b r =>
      cases r with
      | nil => exact nomatch (show p ∈ ([] : List (Addr × Obj)) from hp)
      | cons c r =>
        rcases List.mem_cons.mp (show p ∈ a :: cut2 (b :: c :: r) from hp) with rfl | hp
        · exact .head _
        · exact .tail _ (ih p hp)
def TLs : List (Addr × Obj) → Prop
  | [] => True
  | p :: r => (p.2.cls = .type "tuple" ∨ p.2.cls = .type "list") ∧ TLs r
theorem off_tl {i : Addr} {o : Obj} (hc : o.cls = .type "list_iterator") : ∀ {l : List (Addr × Obj)}, TLs l → OffW [(i, o)] l
  | [], _ => trivial
  | p :: r, h => by
    refine ⟨⟨.inr ?_, trivial⟩, off_tl hc h.2⟩
    show p.2.cls ≠ o.cls
    rw [hc]
    rcases h.1 with e | e <;> rw [e] <;> decide
theorem subL_of {all : List (Addr × Obj)} : ∀ {l : List (Addr × Obj)}, (∀ p ∈ l, p ∈ all) → SubL l all
  | [], _ => trivial
  | _ :: _, h => ⟨h _ (.head _), subL_of fun q hq => h q (.tail _ hq)⟩
theorem end_cut {h₀ : Heap} {L : Addr} {rest : (Str → Option Value) → List (Addr × Obj) → Prop} {s₁ : Shared} {h' : Heap} {tk : Nat} {m' : Str → Option Value} {i : Addr} {o : Obj} {l l' : List (Addr × Obj)}
    (F : Fr h₀ L h' m') (N : News h₀ L h' ((i, o) :: l)) (hc : o.cls = .type "list_iterator") (hs : ∀ p ∈ l', p ∈ l) (ht : TLs l') (r : rest m' l') : UnrEndW h₀ L s₁ [(i, o)] rest { s₁ with heap := h', toks := tk } :=
  UnrEndW.intro F N l' ⟨.head _, trivial⟩ (subL_of fun p hp => .tail _ (hs p hp)) (off_tl hc ht) r
local macro_rules | `(tactic| walk_at "UnrEndW") => `(tactic| (k_here; k_dflt ((rename News _ _ _ _ => N9); (rename Fr _ _ _ _ => F9); (first | refine' end_cut F9 N9 ?zc (mask_sub (by exact rfl)) ?zt ⟨?zk, ?_⟩ | refine' end_cut F9 N9 ?zc (cut2_sub _) ?zt ⟨?zk, ?_⟩); (case zc => with_reducible assumption); (case zt => (dsimp only [keepAt, rowMask, cut2, TLs]; (repeat' first | exact trivial | exact Or.inl rfl | exact Or.inr rfl | refine And.intro ?_ ?_))); (case zk => (dsimp only [keepAt, rowMask, cut2]; k_subL)); dsimp only [keepAt, rowMask, cut2]; clear N9 F9)))
local macro_rules | `(tactic| walk_at "callWith") => `(tactic| (k_here; (with_reducible show wpAny _ _ (callWith _ (Value.builtin "list.append") _ _ _) _ _ _); k_dflt (refine callWith_method1 ?_)))
theorem news_head {h₀ h : Heap} {L : Addr} {p : Addr × Obj} {news : List (Addr × Obj)} (N : News h₀ L h (p :: news)) : News h₀ L h [p] := fun x hx => N x (by
  rw [List.mem_singleton.mp hx]
  exact .head _)
theorem news_none {h₀ h : Heap} {L : Addr} : News h₀ L h [] := fun _ hp => nomatch hp
local macro_rules | `(tactic| walk_at "call ref") => `(tactic| (
  k_here; (with_reducible show wpAny _ _ (call (Value.ref 42) _) _ _ _);
  k_dflt (refine' pool_ok ?k1 ?k2 ?k3 news_none ?k5 ?kK ?kl ?ki ?kt ?kd ?ku ?_; (case k1 => k_asm); (case k2 => k_asm); (case k3 => k_asm); (case k5 => k_asm); (case kK => first | exact rfl | assumption); (case kl => k_asm); (case ki => l_ints); (case kt => l_fit); (case kd => ktr_room); (case ku => ktr_units); intro r9 nx9 h9 tk9 F9 N9 o9; obtain ⟨l9, s9, e9, n9, k9⟩ := o9; subst e9; subst n9; (try dsimp only); (try k_fold))))
local macro_rules | `(tactic| walk_at "call ref") => `(tactic| (
  k_here; (with_reducible show wpAny _ _ (call (Value.ref 70) _) _ _ _);
  k_dflt (refine' Ctr.use (right_ok (rest := []) ?h1 ?h2) ?k1 ?k2 ?k3 ?k4 ?k5 ?kK ?kd ?ku ?_; (case k1 => k_asm); (case k2 => k_asm); (case k3 => k_asm); (case k4 => exact news_head (by k_asm)); (case k5 => k_asm); (case kK => first | exact rfl | assumption); (case kd => ktr_room); (case ku => ktr_units); (case h1 => exact List.forall_mem_nil _); (case h2 => with_reducible assumption); intro r9 nx9 h9 tk9 F9 N9 o9; obtain ⟨s9, e9, n9, k9⟩ := o9; subst e9; subst n9; (try dsimp only); (try k_fold))))
local macro_rules | `(tactic| walk_at "compareOp NotEq ref ref") => `(tactic| (
  k_here; (with_reducible show wpAny _ _ (compareOp CmpOp.NotEq (Value.ref _) (Value.ref _)) _ _ _);
  k_dflt (refine ne_dataH (by ke_read) (by ke_read) (by ke_shaped) (by ke_shaped) (by first | ke_room | ktr_units) ?_);
  (simp only [PyData.eqv, PyData.eqvAll, eq_self, decide_true, beq_self_eq_true, Bool.and_true, Bool.true_and, Bool.not_true]);
  (rename News _ _ _ _ => N9); (have N8 := news_tail N9); clear N9))
theorem law_ok : PySem.Challenge.rw_xw0198_01.Holds := hd (by
  k_with_none
  k_with "my doc" =>
    (refine' Ctr.use (doc_ok ?h1 ?h2 ?h3) ?k1 ?k2 ?k3 ?k4 ?k5 ?kK ?kd ?ku ?_)
    (case h1 => decide)
    (case h2 => decide)
    (case h3 => decide +kernel)
    (case k1 => k_asm)
    (case k2 => k_asm)
    (case k3 => k_asm)
    (case k4 => k_asm)
    (case k5 => k_asm)
    (case kK => first | exact rfl | assumption)
    (case kd => ktr_room)
    (case ku => ktr_units)
    intro r9 nx9 h9 tk9 F9 N9 o9
    obtain ⟨D9, v9, a9, ta9, b9, e9, n9, hl9, g0, g1, I9, E9⟩ := o9
    subst e9
    subst n9
    first
      | (with_reducible obtain ⟨ea, eb, t9, ev⟩ := doc_rowR 11 12 false row1 rfl g0 g1 I9 E9); clear I9 E9; subst ea; subst eb; subst ev
      | (with_reducible obtain ⟨ea, eb, t9, ev⟩ := doc_rowR 3 4 false row2 rfl g0 g1 I9 E9); clear I9 E9; subst ea; subst eb; subst ev
      | (with_reducible obtain ⟨ea, eb, t9, ev⟩ := doc_rowR 3 4 false row3 rfl g0 g1 I9 E9); clear I9 E9; subst ea; subst eb; subst ev
      | (with_reducible obtain ⟨ea, eb, t9, ev⟩ := doc_rowR 10 11 false row4 rfl g0 g1 I9 E9); clear I9 E9; subst ea; subst eb; subst ev
      | (with_reducible obtain ⟨ea, eb, t9, ev⟩ := doc_rowR 7 8 false row5 rfl g0 g1 I9 E9); clear I9 E9; subst ea; subst eb; subst ev
      | (with_reducible obtain ⟨ea, eb, ev⟩ := doc_rowN 1 true row6 g0 g1 I9 E9); clear I9 E9; subst ea; subst eb; subst ev
      | (with_reducible obtain ⟨ea, eb, ev⟩ := doc_rowN 1 true row7 g0 g1 I9 E9); clear I9 E9; subst ea; subst eb; subst ev
      | (with_reducible obtain ⟨ea, eb, ev⟩ := doc_rowN 0 false row8 g0 g1 I9 E9); clear I9 E9; subst ea; subst eb; subst ev
      | (with_reducible obtain ⟨ea, eb, ev⟩ := doc_rowN 0 false row9 g0 g1 I9 E9); clear I9 E9; subst ea; subst eb; subst ev
      | (with_reducible obtain ⟨ea, eb, ev⟩ := doc_rowN 2 true row10 g0 g1 I9 E9); clear I9 E9; subst ea; subst eb; subst ev
      | (with_reducible obtain ⟨ea, eb, t9, ev⟩ := doc_rowR 1 2 false row11 rfl g0 g1 I9 E9); clear I9 E9; subst ea; subst eb; subst ev
    clear hl9
    dsimp only [tup3] at N9
    (try dsimp only)
    (try k_fold)
  k_go0
  all_goals try k_fold
  k_steps
  all_goals (try k_data))
end Mine

set_option maxRecDepth 100000 in
set_option maxHeartbeats 8000000 in
theorem PySem.Challenge.cw_xw0198_01_holds : PySem.Challenge.rw_xw0198_01.Holds := by
  exact Mine.law_ok
