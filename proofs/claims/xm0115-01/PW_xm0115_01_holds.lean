import PyProof.Rows.All
import Wide.All
import OpenK.AllK
import Wide.FinOn
import PySem.Challenge.RW_xm0115_01
open PySem PySem.W PyProof.Rows
set_option Elab.async false
-- The head (open_top) asks for its lemma by a name, from where it stands. The lemma below, the library's with the look at the top written out,
-- lies nearer: the head then proves the top as one check (NO PIECES), 2 MB of proof; in pieces it is 12 MB, over the lid of the compiled file.
set_option linter.defProp false
namespace Mine.H.PySem.W
def holds_open {r : OpenRow} {q : Program} {loose Xt XP} {α : Type} {Yf : Shared → α} {Ya : World → α} {YP d kwd N}
    (left : ∀ w, (openEnds treeTable r.prog w N).map (fun s => (openSeen q loose (importedModules r.prog.main.body) Xt true s, Yf s)) = some (openGood q loose, Ya w))
    (h1) (h2) (h3) (h4) (h5) (h6) (h7) (h8) (h9) (h10) (h11) (h12) (h13) (call) :=
  _root_.PySem.W.holds_open (r := r) (q := q) (loose := loose) (Xt := Xt) (XP := XP) (Yf := Yf) (Ya := Ya) (YP := YP) (d := d) (kwd := kwd) (N := N) left h1 h2 h3 h4 h5 h6 h7 h8 h9 h10 h11 h12 h13 call
end Mine.H.PySem.W
namespace Mine.H
set_option maxRecDepth 100000 in
set_option maxHeartbeats 8000000 in
open_top hd for PySem.Challenge.rw_xm0115_01
end Mine.H
namespace Mine
local macro_rules | `(tactic| omega) => `(tactic| first | with_reducible assumption | lia | omega +splitDisjunctions)

/-- a call of the def at `f`, from any frame with the ledger `news`: what it hands back, and the ledger then -/
def Con (w : World) (f : Addr) (vs : List Value) (news : List (Addr × Obj)) (cost : Nat) (Post : List (Addr × Obj) → Value → Prop) : Prop :=
  ∀ (mean : ExcName → Option Value) (mg mb : Str → Option Value) (dp un : Nat) (gd : Option (List Code)) (cn : Str) (cs : Scope) (a : Addr) (ccd : Value) (cl : List (Str × Addr)) (outer : List Env) (A₀ : Around) (base h₀ : Heap) (L : Addr) (m : Str → Option Value) (s : Shared) (Q E : Value → Shared → Prop),
    Below A₀ base outer h₀ → Fr h₀ L s.heap m → (H.hd.heap_39 w.params).In h₀ → News h₀ L s.heap news → Top H.hd.view_39 (looseW H.hd.view_39 []) mean mg mb h₀ → cs.kind = .function →
    dp + cost < recursionLimit → un + 8 * cost < cLine →
    (∀ news' r h' tk', Fr h₀ L h' m → News h₀ L h' news' → Post news' r → Q r { s with heap := h', toks := tk' }) →
    wpAny (model PySem.Challenge.rw_xm0115_01.row.prog w) (ktrTop dp un gd cn cs L a ccd cl outer) (call (.ref f) vs) Q E s

theorem con_use {w : World} {f : Addr} {vs : List Value} {news : List (Addr × Obj)} {cost : Nat} {Post : List (Addr × Obj) → Value → Prop} (C : Con w f vs news cost Post)
    {mean : ExcName → Option Value} {mg mb : Str → Option Value} {dp un : Nat} {gd : Option (List Code)} {cn : Str} {cs : Scope} {a : Addr} {ccd : Value} {cl : List (Str × Addr)} {outer : List Env} {A₀ : Around} {base h₀ : Heap} {L : Addr} {m : Str → Option Value} {s : Shared} {Q E : Value → Shared → Prop}
    (B : Below A₀ base outer h₀) (F : Fr h₀ L s.heap m) (X : (H.hd.heap_39 w.params).In h₀) (N : News h₀ L s.heap news) (T : Top H.hd.view_39 (looseW H.hd.view_39 []) mean mg mb h₀) (hk : cs.kind = .function)
    (hdp : dp + cost < recursionLimit) (hun : un + 8 * cost < cLine)
    (ret : ∀ news' r h' tk', Fr h₀ L h' m → News h₀ L h' news' → Post news' r → Q r { s with heap := h', toks := tk' }) :
    wpAny (model PySem.Challenge.rw_xm0115_01.row.prog w) (ktrTop dp un gd cn cs L a ccd cl outer) (call (.ref f) vs) Q E s :=
  C _ _ _ _ _ _ _ _ _ _ _ _ _ _ _ _ _ _ _ _ B F X N T hk hdp hun ret

/-- no exception is let out: the walk shows more than is asked -/
theorem gen_E {α : Type} {M : Model} {A : Around} {t : Sem α} {Q : α → Shared → Prop} {E : Value → Shared → Prop} {s : Shared} (h : wpAny M A t Q (fun _ _ => False) s) : wpAny M A t Q E s := wpAny_mono h (fun _ _ q => q) (fun _ _ f => f.elim)

/-- a list object that holds these ints -/
def ILo (o : Obj) (ns : List Int) : Prop := ∃ vs n, o = listOf vs.toArray n ∧ IntsAre vs ns

/-- a new list of ints on the ledger -/
def NewIL (news : List (Addr × Obj)) (ns : List Int) (news' : List (Addr × Obj)) (r : Value) : Prop :=
  ∃ x vs n, r = .ref x ∧ news' = (x, listOf vs.toArray n) :: news ∧ LCg.Off1 x news ∧ IntsAre vs ns

theorem isListN {h₀ h : Heap} {L l : Addr} {news : List (Addr × Obj)} {vs : List Value} {k : Nat} (N : News h₀ L h news) (hm : (l, listOf vs.toArray k) ∈ news) : h.IsList l vs.toArray := News.isList N hm

theorem off1_of_lt {x : Addr} : ∀ {l : List (Addr × Obj)}, (∀ p ∈ l, p.1 < x) → LCg.Off1 x l
  | [], _ => trivial
  | p :: r, h => ⟨Nat.ne_of_lt (h p (.head _)), off1_of_lt fun q hq => h q (.tail _ hq)⟩

/-- the names that a frame's map has -/
def Has (m : Str → Option Value) : List (Str × Value) → Prop
  | [] => True
  | p :: r => m p.1 = some p.2 ∧ Has m r
theorem has_lookup {m : Str → Option Value} : ∀ {ps : List (Str × Value)}, Has m ps → ∀ y, (ps.lookup y).or (m y) = m y
  | [], _, _ => rfl
  | (x, v) :: r, h, y => by
    rw [List.lookup_cons]
    cases e : y == x with
    | true => rw [eq_of_beq e]; exact h.1.symm
    | false => exact has_lookup h.2 y
theorem fr_has {h₀ h : Heap} {L : Addr} {m : Str → Option Value} {ps : List (Str × Value)} (F : Fr h₀ L h m) (H : Has m ps) : Fr h₀ L h (fun y => (ps.lookup y).or (m y)) := by
  have e : (fun y => (ps.lookup y).or (m y)) = m := funext (has_lookup H)
  rw [e]; exact F
end Mine
namespace Mine
local macro_rules | `(tactic| omega) => `(tactic| first | with_reducible assumption | lia | omega +splitDisjunctions)
def ztrimL : List Int → List Int
  | [] => []
  | x :: r => if ztrimL r = [] then (if x = 0 then [] else [x]) else x :: ztrimL r
def zaddL (a b : List Int) : List Int := ztrimL ((List.range (max a.length b.length)).map fun i => a.getD i 0 + b.getD i 0)
def znegL (a : List Int) : List Int := a.map fun x => -x
def zsubL (a b : List Int) : List Int := zaddL a (znegL b)
def zscaleL (p : List Int) (k : Int) : List Int := if k ≠ 0 then p.map (fun x => x * k) else []
def lineL (c d : Int) : List Int := if d ≠ 0 then [c, d] else if c ≠ 0 then [c] else []

theorem ztrimL_take : ∀ (l : List Int) (k : Nat), k ≤ l.length → (∀ j, k ≤ j → j < l.length → l.getD j 0 = 0) → (0 < k → l.getD (k - 1) 0 ≠ 0) → ztrimL l = l.take k
  | [], _, _, _, _ => by simp [ztrimL]
  | x :: r, 0, _, hz, _ => by
    have h := ztrimL_take r 0 (Nat.zero_le _) (fun j _ hj => by simpa using hz (j + 1) (Nat.zero_le _) (by simpa using hj)) (fun h => absurd h (Nat.lt_irrefl _))
    have hx : x = 0 := by simpa using hz 0 (Nat.le_refl _) (by simp)
    unfold ztrimL
    rw [h]; simp [hx]
  | x :: r, k + 1, hk, hz, hn => by
    have hk' : k ≤ r.length := by simpa using hk
    have h := ztrimL_take r k hk' (fun j h1 h2 => by simpa using hz (j + 1) (by omega) (by simpa using h2)) (fun h0 => by
      obtain ⟨k', rfl⟩ : ∃ k', k = k' + 1 := ⟨k - 1, by omega⟩
      simpa using hn (by omega))
    unfold ztrimL
    rw [h]
    cases k with
    | zero =>
      have hx : x ≠ 0 := by simpa using hn (by omega)
      simp [hx]
    | succ k' =>
      cases r with
      | nil => simp at hk'
      | cons y r' => simp

theorem ztrimL_len : ∀ l : List Int, (ztrimL l).length ≤ l.length
  | [] => Nat.le_refl _
  | x :: r => by
    have := ztrimL_len r
    unfold ztrimL
    split
    · split <;> simp
    · simpa using this
theorem zaddL_len (a b : List Int) : (zaddL a b).length ≤ max a.length b.length := by
  have := ztrimL_len ((List.range (max a.length b.length)).map fun i => a.getD i 0 + b.getD i 0)
  simpa [zaddL] using this
theorem znegL_len (a : List Int) : (znegL a).length = a.length := by simp [znegL]
def zatL : List Int → Int → Int
  | [], _ => 0
  | x :: r, n => zatL r n * n + x
theorem zat_step (as : List Int) (c : Int) (i : Nat) (hi : i < as.length) : zatL (as.drop (as.length - (i + 1))) c = zatL (as.drop (as.length - i)) c * c + as.getD (as.length - 1 - i) 0 := by
  have e : as.length - (i + 1) < as.length := by omega
  rw [List.drop_eq_getElem_cons e]
  have e2 : as.length - (i + 1) + 1 = as.length - i := by omega
  have e3 : as.length - 1 - i = as.length - (i + 1) := by omega
  rw [e2, e3]
  simp [zatL, e]
theorem take_succ_getD (as : List Int) (i : Nat) (hi : i < as.length) : as.take (i + 1) = as.take i ++ [as.getD i 0] := by
  rw [List.take_add_one, List.getElem?_eq_getElem hi]
  simp only [Option.toList, List.getD_eq_getElem?_getD, List.getElem?_eq_getElem hi, Option.getD_some]
/-- the convergents' loop: one, other behind the row, and what it has found -/
def convS : List Int → (Int × Int) × (Int × Int)
  | [] => ((1, 0), (0, 1))
  | x :: r => let s := convS r; ((x * s.1.1 + s.2.1, x * s.1.2 + s.2.2), s.1)
/-- `convP as i`: the pair found at turn i (the row's first i + 1 numbers) -/
def convP (as : List Int) (i : Nat) : Int × Int := (convS ((as.take (i + 1)).reverse)).1
theorem convS_snoc (as : List Int) (i : Nat) (hi : i < as.length) : convS ((as.take (i + 1)).reverse) = ((as.getD i 0 * (convS ((as.take i).reverse)).1.1 + (convS ((as.take i).reverse)).2.1, as.getD i 0 * (convS ((as.take i).reverse)).1.2 + (convS ((as.take i).reverse)).2.2), (convS ((as.take i).reverse)).1) := by
  rw [take_succ_getD as i hi, List.reverse_append]
  rfl
theorem convS_nonneg : ∀ l : List Int, (∀ x ∈ l, 0 ≤ x) → 0 ≤ (convS l).1.1 ∧ 0 ≤ (convS l).1.2 ∧ 0 ≤ (convS l).2.1 ∧ 0 ≤ (convS l).2.2
  | [], _ => by simp [convS]
  | x :: r, h => by
    obtain ⟨a, b, c, d⟩ := convS_nonneg r fun y hy => h y (.tail _ hy)
    have hx := h x (.head _)
    refine ⟨Int.add_nonneg (Int.mul_nonneg hx a) c, Int.add_nonneg (Int.mul_nonneg hx b) d, a, b⟩
def addRow : List Int → Nat → Int → List Int → List Int
  | f, _, _, [] => f
  | f, k, x, y :: r => addRow (f.set k (f.getD k 0 + x * y)) (k + 1) x r
def mulRows : List Int → Nat → List Int → List Int → List Int
  | f, _, [], _ => f
  | f, i, x :: r, b => mulRows (if x ≠ 0 then addRow f i x b else f) (i + 1) r b
def zmulL (a b : List Int) : List Int := if a = [] ∨ b = [] then [] else mulRows (List.replicate (a.length + b.length - 1) 0) 0 a b
theorem addRow_snoc : ∀ (b : List Int) (f : List Int) (k : Nat) (x y : Int), addRow f k x (b ++ [y]) = (addRow f k x b).set (k + b.length) ((addRow f k x b).getD (k + b.length) 0 + x * y)
  | [], f, k, x, y => by simp [addRow]
  | z :: r, f, k, x, y => by
    simp only [List.cons_append, addRow, List.length_cons]
    rw [addRow_snoc r]
    have e : k + 1 + r.length = k + (r.length + 1) := by omega
    rw [e]
theorem mulRows_snoc : ∀ (a f : List Int) (i : Nat) (x : Int) (b : List Int), mulRows f i (a ++ [x]) b = if x ≠ 0 then addRow (mulRows f i a b) (i + a.length) x b else mulRows f i a b
  | [], f, i, x, b => by simp [mulRows]
  | z :: r, f, i, x, b => by
    simp only [List.cons_append, mulRows, List.length_cons]
    rw [mulRows_snoc r]
    have e : i + 1 + r.length = i + (r.length + 1) := by omega
    rw [e]
theorem addRow_len : ∀ (b f : List Int) (k : Nat) (x : Int), (addRow f k x b).length = f.length
  | [], _, _, _ => rfl
  | _ :: r, f, k, x => by unfold addRow; rw [addRow_len r]; simp
theorem mulRows_len : ∀ (a f : List Int) (i : Nat) (b : List Int), (mulRows f i a b).length = f.length
  | [], _, _, _ => rfl
  | x :: r, f, i, b => by
    unfold mulRows
    rw [mulRows_len r]
    split
    · rw [addRow_len]
    · rfl
theorem zmulL_len (a b : List Int) : (zmulL a b).length ≤ a.length + b.length := by
  unfold zmulL
  split
  · simp
  · rw [mulRows_len]; simp
def joinStep (s : List Int × List Int) (line : List Int) : List Int × List Int := (s.2, zaddL (zmulL line s.2) s.1)
def joinS (lines : List (List Int)) : List Int × List Int := lines.foldl joinStep ([], [1])
def joinedL (lines : List (List Int)) : List Int := (joinS lines).2
theorem joinS_snoc (l : List (List Int)) (x : List Int) : joinS (l ++ [x]) = joinStep (joinS l) x := by simp [joinS]
theorem joinS_len : ∀ (n : Nat) (lines : List (List Int)), lines.length = n → (∀ r ∈ lines, r.length ≤ 2) → (joinS lines).1.length ≤ 2 * n + 1 ∧ (joinS lines).2.length ≤ 2 * n + 1
  | 0, lines, h, _ => by
    have : lines = [] := List.eq_nil_of_length_eq_zero h
    subst this; simp [joinS]
  | n + 1, lines, h, hr => by
    rcases List.eq_nil_or_concat lines with e | ⟨l, x, e⟩
    · subst e; simp at h
    · subst e
      have hl : l.length = n := by simpa using h
      obtain ⟨h1, h2⟩ := joinS_len n l hl (fun r hr' => hr r (by simp [hr']))
      have hx := hr x (by simp)
      rw [show l.concat x = l ++ [x] by simp] at *
      rw [joinS_snoc]
      unfold joinStep
      have h3 := zaddL_len (zmulL x (joinS l).2) (joinS l).1
      have h4 := zmulL_len x (joinS l).2
      constructor
      · show (joinS l).2.length ≤ _
        omega
      · show (zaddL (zmulL x (joinS l).2) (joinS l).1).length ≤ _
        omega
theorem joinedL_len (lines : List (List Int)) (hr : ∀ r ∈ lines, r.length ≤ 2) : (joinedL lines).length ≤ 2 * lines.length + 1 := (joinS_len _ lines rfl hr).2
theorem takeD_succ (as : List (List Int)) (i : Nat) (hi : i < as.length) : as.take (i + 1) = as.take i ++ [as.getD i []] := by
  rw [List.take_add_one, List.getElem?_eq_getElem hi]
  simp only [Option.toList, List.getD_eq_getElem?_getD, List.getElem?_eq_getElem hi, Option.getD_some]
def partL (rows : List (List Int)) (low high : Int) : List Int := if low ≤ high + 1 then joinedL ((rows.take high.toNat).drop (low - 1).toNat) else []
/-- a row's continuant -/
def kont : List Int → Int
  | [] => 1
  | [x] => x
  | x :: y :: r => x * kont (y :: r) + kont r
def wsum (ns : List Int) (st : List (Int × Int)) : Int := (st.map fun q => q.1 * kont (ns.drop q.2.toNat)).sum
def wmeas (n : Nat) (st : List (Int × Int)) : Nat := (st.map fun q => 2 ^ (n - q.2.toNat)).sum
theorem wsum_snoc (ns : List Int) (st : List (Int × Int)) (p a : Int) : wsum ns (st ++ [(p, a)]) = wsum ns st + p * kont (ns.drop a.toNat) := by simp [wsum]
theorem wmeas_snoc (n : Nat) (st : List (Int × Int)) (p a : Int) : wmeas n (st ++ [(p, a)]) = wmeas n st + 2 ^ (n - a.toNat) := by simp [wmeas]
theorem wmeas_len (n : Nat) : ∀ st : List (Int × Int), st.length ≤ wmeas n st
  | [] => by simp
  | q :: r => by
    have := wmeas_len n r
    have h : 1 ≤ 2 ^ (n - q.2.toNat) := Nat.one_le_two_pow
    simp only [wmeas, List.map_cons, List.sum_cons, List.length_cons] at this ⊢
    omega
theorem kont_drop (ns : List Int) (i : Nat) (hi : i < ns.length) : kont (ns.drop i) = ns.getD i 0 * kont (ns.drop (i + 1)) + (if i + 1 < ns.length then kont (ns.drop (i + 2)) else 0) := by
  rw [List.drop_eq_getElem_cons hi]
  have e : ns.getD i 0 = ns[i] := by simp [hi]
  rw [e]
  by_cases h : i + 1 < ns.length
  · rw [if_pos h, List.drop_eq_getElem_cons h]; rfl
  · rw [if_neg h, List.drop_eq_nil_of_le (by omega)]; simp [kont]
theorem prod_math1 (ns : List Int) (st : List (Int × Int)) (fo p a : Int) (h0 : 0 ≤ a) (h1 : a ≤ ns.length) (hne : a ≠ ns.length) (hw : fo + (wsum ns st + p * kont (ns.drop a.toNat)) = kont ns) (hs : ¬ a + 1 < ns.length) :
    fo + wsum ns (st ++ [(p * ns.getD a.toNat 0, a + 1)]) = kont ns := by
  rw [wsum_snoc]
  have e := kont_drop ns a.toNat (by omega)
  rw [if_neg (by omega)] at e
  have e1 : (a + 1).toNat = a.toNat + 1 := by omega
  rw [e1, Int.mul_assoc, ← hw, e]
  simp
theorem prod_math2 (ns : List Int) (st : List (Int × Int)) (fo p a : Int) (h0 : 0 ≤ a) (h1 : a ≤ ns.length) (hne : a ≠ ns.length) (hw : fo + (wsum ns st + p * kont (ns.drop a.toNat)) = kont ns) (hs : a + 1 < ns.length) :
    fo + wsum ns (st ++ [(p * ns.getD a.toNat 0, a + 1)] ++ [(p, a + 2)]) = kont ns := by
  rw [wsum_snoc, wsum_snoc]
  have e := kont_drop ns a.toNat (by omega)
  rw [if_pos (by omega)] at e
  have e1 : (a + 1).toNat = a.toNat + 1 := by omega
  have e2 : (a + 2).toNat = a.toNat + 2 := by omega
  rw [e1, e2, Int.mul_assoc, ← hw, e, Int.mul_add, Int.add_assoc (wsum ns st)]
theorem prod_meas1 (n : Nat) (st : List (Int × Int)) (p q a : Int) (h0 : 0 ≤ a) (h1 : a < n) : wmeas n (st ++ [(q, a + 1)]) < wmeas n (st ++ [(p, a)]) := by
  rw [wmeas_snoc, wmeas_snoc]
  have e1 : (a + 1).toNat = a.toNat + 1 := by omega
  obtain ⟨d, hd⟩ : ∃ d, n - a.toNat = d + 1 := ⟨n - a.toNat - 1, by omega⟩
  have hd2 : n - (a + 1).toNat = d := by omega
  rw [hd, hd2, Nat.pow_succ]
  have : 1 ≤ 2 ^ d := Nat.one_le_two_pow
  omega
theorem prod_meas2 (n : Nat) (st : List (Int × Int)) (p q r a : Int) (h0 : 0 ≤ a) (h1 : a + 1 < n) : wmeas n (st ++ [(q, a + 1)] ++ [(r, a + 2)]) < wmeas n (st ++ [(p, a)]) := by
  rw [wmeas_snoc, wmeas_snoc, wmeas_snoc]
  obtain ⟨d, hd⟩ : ∃ d, n - a.toNat = d + 2 := ⟨n - a.toNat - 2, by omega⟩
  have hd2 : n - (a + 1).toNat = d + 1 := by omega
  have hd3 : n - (a + 2).toNat = d := by omega
  rw [hd, hd2, hd3, Nat.pow_succ, Nat.pow_succ]
  have : 1 ≤ 2 ^ d := Nat.one_le_two_pow
  omega
theorem sub_len {α : Type} (l : List α) (a b : Nat) : ((l.take a).drop b).length ≤ l.length := by
  rw [List.length_drop]
  exact Nat.le_trans (Nat.sub_le _ _) (List.length_take_le' _ _)
end Mine
namespace Mine
local macro_rules | `(tactic| omega) => `(tactic| first | with_reducible assumption | lia | omega +splitDisjunctions)
/-! values of rows -/
theorem zat_head (a : List Int) (v : Int) : zatL a v = zatL a.tail v * v + a.getD 0 0 := by
  cases a with
  | nil => simp [zatL]
  | cons x r => simp [zatL]
theorem zat_map (v : Int) : ∀ (n : Nat) (a b : List Int), a.length ≤ n → b.length ≤ n → zatL ((List.range n).map fun i => a.getD i 0 + b.getD i 0) v = zatL a v + zatL b v
  | 0, a, b, ha, hb => by
    rw [List.eq_nil_of_length_eq_zero (Nat.le_zero.mp ha), List.eq_nil_of_length_eq_zero (Nat.le_zero.mp hb)]
    simp [zatL]
  | n + 1, a, b, ha, hb => by
    rw [List.range_succ_eq_map, List.map_cons, List.map_map]
    have ih := zat_map v n a.tail b.tail (by simp; omega) (by simp; omega)
    have e : (List.map ((fun i => a.getD i 0 + b.getD i 0) ∘ Nat.succ) (List.range n)) = (List.range n).map fun i => a.tail.getD i 0 + b.tail.getD i 0 := by
      refine List.map_congr_left fun i _ => ?_
      simp
    rw [e]
    show zatL _ v * v + _ = _
    rw [ih, zat_head a v, zat_head b v]
    grind
theorem zat_trim (v : Int) : ∀ l : List Int, zatL (ztrimL l) v = zatL l v
  | [] => rfl
  | x :: r => by
    have ih := zat_trim v r
    unfold ztrimL
    split
    · rename_i h
      rw [h] at ih
      split
      · rename_i hx
        simp only [zatL] at ih ⊢
        rw [← ih, hx]; simp
      · simp only [zatL] at ih ⊢
        rw [← ih]
    · simp only [zatL]
      rw [ih]
theorem zat_add (a b : List Int) (v : Int) : zatL (zaddL a b) v = zatL a v + zatL b v := by
  unfold zaddL
  rw [zat_trim, zat_map v _ a b (by omega) (by omega)]
theorem zat_mapmul (k v : Int) : ∀ l : List Int, zatL (l.map fun x => x * k) v = zatL l v * k
  | [] => by simp [zatL]
  | x :: r => by
    have ih := zat_mapmul k v r
    simp only [List.map_cons, zatL]
    rw [ih]; grind
theorem zat_neg (v : Int) : ∀ l : List Int, zatL (znegL l) v = - zatL l v
  | [] => by simp [zatL, znegL]
  | x :: r => by
    have ih := zat_neg v r
    simp only [znegL, List.map_cons, zatL] at ih ⊢
    rw [ih]; grind
theorem zat_sub (a b : List Int) (v : Int) : zatL (zsubL a b) v = zatL a v - zatL b v := by
  unfold zsubL; rw [zat_add, zat_neg]; omega
theorem zat_scale (l : List Int) (k v : Int) : zatL (zscaleL l k) v = zatL l v * k := by
  unfold zscaleL
  split
  · exact zat_mapmul k v l
  · rename_i h
    have : k = 0 := by omega
    rw [this]; simp [zatL]
theorem zat_set (v y : Int) : ∀ (f : List Int) (k : Nat), k < f.length → zatL (f.set k y) v = zatL f v + (y - f.getD k 0) * v ^ k
  | [], k, h => by simp at h
  | x :: r, 0, _ => by simp only [List.set_cons_zero, zatL, List.getD_cons_zero, Int.pow_zero]; omega
  | x :: r, k + 1, h => by
    have ih := zat_set v y r k (by simpa using h)
    simp only [List.set_cons_succ, zatL, List.getD_cons_succ]
    rw [ih, Int.pow_succ]; grind
theorem zat_addRow (x v : Int) : ∀ (b f : List Int) (k : Nat), k + b.length ≤ f.length → zatL (addRow f k x b) v = zatL f v + x * v ^ k * zatL b v
  | [], f, k, _ => by simp [addRow, zatL]
  | y :: r, f, k, h => by
    have hl : k + (r.length + 1) ≤ f.length := by simpa using h
    unfold addRow
    rw [zat_addRow x v r _ (k + 1) (by simp; omega), zat_set v _ f k (by omega)]
    simp only [zatL]
    rw [Int.pow_succ]; grind
theorem zat_mulRows (v : Int) (b : List Int) : ∀ (a f : List Int) (i : Nat), i + a.length + b.length ≤ f.length + 1 → zatL (mulRows f i a b) v = zatL f v + v ^ i * (zatL a v * zatL b v)
  | [], f, i, _ => by simp [mulRows, zatL]
  | x :: r, f, i, h => by
    have hl : i + (r.length + 1) + b.length ≤ f.length + 1 := by simpa using h
    have hlen : (if x ≠ 0 then addRow f i x b else f).length = f.length := by
      split
      · exact addRow_len _ _ _ _
      · rfl
    unfold mulRows
    rw [zat_mulRows v b r _ (i + 1) (by rw [hlen]; omega)]
    have e : zatL (if x ≠ 0 then addRow f i x b else f) v = zatL f v + x * v ^ i * zatL b v := by
      by_cases hx : x = 0
      · rw [if_neg (by simp [hx]), hx]; simp
      · rw [if_pos hx, zat_addRow x v b f i (by omega)]
    rw [e]
    simp only [zatL]
    rw [Int.pow_succ]; grind
theorem zat_zeros (v : Int) : ∀ n, zatL (List.replicate n 0) v = 0
  | 0 => rfl
  | n + 1 => by simp [List.replicate_succ, zatL, zat_zeros v n]
theorem zat_mul (a b : List Int) (v : Int) : zatL (zmulL a b) v = zatL a v * zatL b v := by
  unfold zmulL
  split
  · rename_i h
    rcases h with h | h <;> rw [h] <;> simp [zatL]
  · rename_i h
    have ha : a ≠ [] := fun e => h (.inl e)
    have hb : b ≠ [] := fun e => h (.inr e)
    have ha' := List.length_pos_iff.mpr ha
    have hb' := List.length_pos_iff.mpr hb
    rw [zat_mulRows v b a _ 0 (by simp; omega), zat_zeros]
    simp
/-! trimmed rows -/
def Trim (l : List Int) : Prop := ztrimL l = l
theorem trim_tail {x : Int} {r : List Int} (h : Trim (x :: r)) : Trim r := by
  unfold Trim at *
  unfold ztrimL at h
  split at h
  · split at h
    · exact absurd h (by simp)
    · have : r = [] := by simpa using h.symm
      rw [this]; rfl
  · simpa using h
theorem ztrim_trim : ∀ l : List Int, Trim (ztrimL l)
  | [] => rfl
  | x :: r => by
    have ih := ztrim_trim r
    unfold Trim at *
    by_cases h : ztrimL r = []
    · by_cases hx : x = 0
      · have e : ztrimL (x :: r) = [] := by rw [ztrimL, if_pos h, if_pos hx]
        rw [e]; rfl
      · have e : ztrimL (x :: r) = [x] := by rw [ztrimL, if_pos h, if_neg hx]
        rw [e]; simp [ztrimL, hx]
    · have e : ztrimL (x :: r) = x :: ztrimL r := by rw [ztrimL, if_neg h]
      rw [e, ztrimL, ih, if_neg h]
theorem zadd_trim (a b : List Int) : Trim (zaddL a b) := ztrim_trim _
theorem dvd_small {x v : Int} (h1 : x.natAbs < v.natAbs) (h : ∃ q, x = q * v) : x = 0 := by
  obtain ⟨q, hq⟩ := h
  by_cases h0 : q = 0
  · rw [hq, h0]; simp
  · have : 1 ≤ q.natAbs := by omega
    have h2 : x.natAbs = q.natAbs * v.natAbs := by rw [hq, Int.natAbs_mul]
    have h3 : v.natAbs ≤ q.natAbs * v.natAbs := Nat.le_mul_of_pos_left _ this
    omega
theorem head_zero {d : Int → Int} {x : Int} {N : Int} (hN : 1 ≤ N) (h : ∀ v, N ≤ v → d v * v + x = 0) : x = 0 := by
  have hv := h (N + x.natAbs + 1) (by omega)
  exact dvd_small (v := N + x.natAbs + 1) (by omega) ⟨-d (N + x.natAbs + 1), by rw [Int.neg_mul]; omega⟩
theorem mul_zero_pos {y v : Int} (hv : 1 ≤ v) (h : y * v = 0) : y = 0 := by
  rcases Int.mul_eq_zero.mp h with h | h
  · exact h
  · omega
theorem zero_trim {N : Int} (hN : 1 ≤ N) : ∀ l : List Int, (∀ v, N ≤ v → zatL l v = 0) → ztrimL l = []
  | [], _ => rfl
  | x :: r, h => by
    have hx : x = 0 := head_zero (d := zatL r) hN h
    have ih := zero_trim hN r fun v hv => by
      have h1 := h v hv
      simp only [zatL] at h1
      exact mul_zero_pos (v := v) (by omega) (by omega)
    unfold ztrimL
    rw [if_pos ih, if_pos hx]
theorem zeqN {N : Int} (hN : 1 ≤ N) : ∀ a b : List Int, Trim a → Trim b → (∀ v, N ≤ v → zatL a v = zatL b v) → a = b
  | [], [], _, _, _ => rfl
  | [], b, _, hb, h => by
    have := zero_trim hN b fun v hv => by rw [← h v hv]; rfl
    unfold Trim at hb
    rw [← hb, this]
  | a, [], ha, _, h => by
    have := zero_trim hN a fun v hv => by rw [h v hv]; rfl
    unfold Trim at ha
    rw [← ha, this]
  | x :: r, y :: s, ha, hb, h => by
    have hx : x - y = 0 := head_zero (d := fun v => zatL r v - zatL s v) hN fun v hv => by
      have h1 := h v hv
      simp only [zatL] at h1
      show (zatL r v - zatL s v) * v + (x - y) = 0
      rw [Int.sub_mul]; omega
    have hxy : x = y := by omega
    have ih := zeqN hN r s (trim_tail ha) (trim_tail hb) fun v hv => by
      have h1 := h v hv
      simp only [zatL] at h1
      have h2 : (zatL r v - zatL s v) * v = 0 := by rw [Int.sub_mul]; omega
      have := mul_zero_pos (by omega) h2
      omega
    rw [hxy, ih]
theorem zeq {a b : List Int} (ha : Trim a) (hb : Trim b) (h : ∀ v, zatL a v = zatL b v) : a = b := zeqN (N := 1) (by decide) a b ha hb fun v _ => h v
end Mine
namespace Mine
local macro_rules | `(tactic| omega) => `(tactic| first | with_reducible assumption | lia | omega +splitDisjunctions)
/-! trimmed rows: products -/
theorem trim_snoc (l : List Int) (x : Int) (hx : x ≠ 0) : Trim (l ++ [x]) := by
  unfold Trim
  rw [ztrimL_take (l ++ [x]) (l ++ [x]).length (Nat.le_refl _) (fun j h1 h2 => absurd h1 (by omega)) (fun _ => by simpa using hx)]
  rw [List.take_length]
theorem trim_last {l : List Int} {x : Int} (h : Trim (l ++ [x])) : x ≠ 0 := by
  intro hx
  induction l with
  | nil => rw [hx] at h; simp [Trim, ztrimL] at h
  | cons y r ih => exact ih (trim_tail h)
theorem trim_cases {l : List Int} (h : Trim l) : l = [] ∨ ∃ r x, l = r ++ [x] ∧ x ≠ 0 := by
  rcases List.eq_nil_or_concat l with e | ⟨r, x, e⟩
  · exact .inl e
  · rw [List.concat_eq_append] at e
    subst e
    exact .inr ⟨r, x, rfl, trim_last h⟩
theorem addRow_far (x : Int) : ∀ (b f : List Int) (k j : Nat), k + b.length ≤ j → (addRow f k x b).getD j 0 = f.getD j 0
  | [], f, k, j, _ => rfl
  | y :: r, f, k, j, h => by
    have hl : k + (r.length + 1) ≤ j := by simpa using h
    unfold addRow
    rw [addRow_far x r _ (k + 1) j (by omega)]
    simp [List.getElem?_set_ne (show k ≠ j by omega)]
theorem mulRows_far (b : List Int) : ∀ (a f : List Int) (i j : Nat), i + a.length + b.length ≤ j + 1 → (mulRows f i a b).getD j 0 = f.getD j 0
  | [], f, i, j, _ => rfl
  | x :: r, f, i, j, h => by
    have hl : i + (r.length + 1) + b.length ≤ j + 1 := by simpa using h
    unfold mulRows
    rw [mulRows_far b r _ (i + 1) j (by omega)]
    split
    · rw [addRow_far x b f i j (by omega)]
    · rfl
theorem zmul_trim {a b : List Int} (ha : Trim a) (hb : Trim b) : Trim (zmulL a b) := by
  rcases trim_cases ha with e | ⟨a', x, e, hx⟩
  · unfold zmulL; rw [if_pos (.inl e)]; rfl
  rcases trim_cases hb with e2 | ⟨b', y, e2, hy⟩
  · unfold zmulL; rw [if_pos (.inr e2)]; rfl
  subst e e2
  have hxy : x * y ≠ 0 := fun h => (Int.mul_eq_zero.mp h).elim hx hy
  unfold zmulL
  rw [if_neg (by simp), mulRows_snoc, if_pos hx, addRow_snoc]
  have hlen : ((a' ++ [x]).length + (b' ++ [y]).length - 1) = a'.length + b'.length + 1 := by simp; omega
  rw [hlen, Nat.zero_add]
  generalize hF : mulRows (List.replicate (a'.length + b'.length + 1) 0) 0 a' (b' ++ [y]) = F
  have hFl : F.length = a'.length + b'.length + 1 := by rw [← hF, mulRows_len]; simp
  have hF0 : (addRow F a'.length x b').getD (a'.length + b'.length) 0 = 0 := by
    rw [addRow_far x b' F a'.length _ (Nat.le_refl _), ← hF, mulRows_far _ _ _ _ _ (by simp; omega)]
    simp
  rw [hF0, Int.zero_add]
  have hGl : (addRow F a'.length x b').length = a'.length + b'.length + 1 := by rw [addRow_len, hFl]
  generalize addRow F a'.length x b' = G at hGl
  rcases List.eq_nil_or_concat G with e | ⟨G', z, e⟩
  · subst e; simp at hGl
  · rw [List.concat_eq_append] at e
    subst e
    have hG : G'.length = a'.length + b'.length := by simpa using hGl
    rw [← hG, List.set_append_right _ _ (Nat.le_refl _), Nat.sub_self]
    exact trim_snoc _ _ hxy
theorem zscale_trim {a : List Int} (ha : Trim a) (k : Int) : Trim (zscaleL a k) := by
  unfold zscaleL
  split
  · rename_i hk
    rcases trim_cases ha with e | ⟨a', x, e, hx⟩
    · subst e; rfl
    · subst e
      rw [List.map_append]
      exact trim_snoc _ _ fun h => (Int.mul_eq_zero.mp h).elim hx hk
  · rfl
theorem joined_trim (rows : List (List Int)) : Trim (joinedL rows) := by
  unfold joinedL
  rcases List.eq_nil_or_concat rows with e | ⟨r, x, e⟩
  · subst e; rfl
  · rw [List.concat_eq_append] at e
    subst e
    rw [joinS_snoc]
    exact zadd_trim _ _
theorem part_trim (rows : List (List Int)) (low high : Int) : Trim (partL rows low high) := by
  unfold partL
  split
  · exact joined_trim _
  · rfl
/-! two by two matrices -/
structure M2 where
  a : Int
  b : Int
  c : Int
  d : Int
def M2.mul (x y : M2) : M2 := ⟨x.a * y.a + x.b * y.c, x.a * y.b + x.b * y.d, x.c * y.a + x.d * y.c, x.c * y.b + x.d * y.d⟩
def M2.tr (x : M2) : M2 := ⟨x.a, x.c, x.b, x.d⟩
def M2.det (x : M2) : Int := x.a * x.d - x.b * x.c
def mat : List Int → M2
  | [] => ⟨1, 0, 0, 1⟩
  | x :: r => ⟨x * (mat r).a + (mat r).c, x * (mat r).b + (mat r).d, (mat r).a, (mat r).b⟩
theorem M2.ext' {x y : M2} (h1 : x.a = y.a) (h2 : x.b = y.b) (h3 : x.c = y.c) (h4 : x.d = y.d) : x = y := by
  cases x; cases y; simp only at h1 h2 h3 h4; subst h1 h2 h3 h4; rfl
theorem mat_app : ∀ l m : List Int, mat (l ++ m) = (mat l).mul (mat m)
  | [], m => by
    show mat m = _
    exact M2.ext' (by simp [mat, M2.mul]) (by simp [mat, M2.mul]) (by simp [mat, M2.mul]) (by simp [mat, M2.mul])
  | x :: r, m => by
    have ih := mat_app r m
    show mat (x :: (r ++ m)) = _
    simp only [mat, ih, M2.mul]
    exact M2.ext' (by simp only; grind) (by simp only; grind) rfl rfl
theorem mat_rev : ∀ l : List Int, mat l.reverse = (mat l).tr
  | [] => rfl
  | x :: r => by
    rw [List.reverse_cons, mat_app, mat_rev r]
    exact M2.ext' (by simp [mat, M2.mul, M2.tr]; grind) (by simp [mat, M2.mul, M2.tr]) (by simp [mat, M2.mul, M2.tr]; grind) (by simp [mat, M2.mul, M2.tr])
theorem mat_det : ∀ l : List Int, (mat l).det = if l.length % 2 = 0 then 1 else -1
  | [] => rfl
  | x :: r => by
    have ih := mat_det r
    unfold M2.det at *
    simp only [mat, List.length_cons]
    have e : (x * (mat r).a + (mat r).c) * (mat r).b - (x * (mat r).b + (mat r).d) * (mat r).a = -((mat r).a * (mat r).d - (mat r).b * (mat r).c) := by grind
    rw [e, ih]
    split <;> split <;> omega
theorem mat_kont : ∀ l : List Int, (mat l).a = kont l ∧ (mat l).c = if l = [] then 0 else kont l.tail
  | [] => ⟨rfl, rfl⟩
  | [x] => ⟨by simp [mat, kont], by simp [mat, kont]⟩
  | x :: y :: r => by
    have ih := mat_kont (y :: r)
    refine ⟨?_, ?_⟩
    · simp only [mat, kont]
      have h1 : (mat (y :: r)).a = kont (y :: r) := ih.1
      have h2 : (mat (y :: r)).c = kont r := by have := ih.2; simpa using this
      simp only [mat] at h1 h2
      rw [h1, h2]
    · have h1 : (mat (y :: r)).a = kont (y :: r) := ih.1
      simp only [List.tail_cons, reduceCtorEq, if_false]
      exact h1
theorem mat_b (l : List Int) : (mat l).b = if l = [] then 0 else (mat l.dropLast).a := by
  rcases List.eq_nil_or_concat l with e | ⟨r, x, e⟩
  · subst e; rfl
  · rw [List.concat_eq_append] at e
    subst e
    rw [mat_app]
    simp [mat, M2.mul]
/-- the values of a joined row -/
theorem joinS_zat (v : Int) : ∀ (n : Nat) (rows : List (List Int)), rows.length = n → zatL (joinS rows).2 v = (mat (rows.map fun r => zatL r v)).a ∧ zatL (joinS rows).1 v = (mat (rows.map fun r => zatL r v)).b
  | 0, rows, h => by
    have := List.eq_nil_of_length_eq_zero h
    subst this; simp [joinS, mat, zatL]
  | n + 1, rows, h => by
    rcases List.eq_nil_or_concat rows with e | ⟨l, x, e⟩
    · subst e; simp at h
    · rw [List.concat_eq_append] at e
      subst e
      obtain ⟨h1, h2⟩ := joinS_zat v n l (by simpa using h)
      rw [joinS_snoc, List.map_append, mat_app]
      unfold joinStep
      refine ⟨?_, ?_⟩
      · show zatL (zaddL (zmulL x (joinS l).2) (joinS l).1) v = _
        rw [zat_add, zat_mul, h1, h2]
        simp [mat, M2.mul]; grind
      · show zatL (joinS l).2 v = _
        rw [h1]
        simp [mat, M2.mul]
theorem joined_zat (rows : List (List Int)) (v : Int) : zatL (joinedL rows) v = (mat (rows.map fun r => zatL r v)).a := (joinS_zat v _ rows rfl).1
theorem joined_kont (rows : List (List Int)) (v : Int) : zatL (joinedL rows) v = kont (rows.map fun r => zatL r v) := by rw [joined_zat, (mat_kont _).1]
theorem part_zat (rows : List (List Int)) (low high : Int) (v : Int) : zatL (partL rows low high) v = if low ≤ high + 1 then (mat (((rows.map fun r => zatL r v).take high.toNat).drop (low - 1).toNat)).a else 0 := by
  unfold partL
  split
  · rw [joined_zat, List.map_drop, List.map_take]
  · rfl
/-! the law's equations -/
theorem law_mirror (rows : List (List Int)) : joinedL rows.reverse = joinedL rows :=
  zeq (joined_trim _) (joined_trim _) fun v => by rw [joined_zat, joined_zat, List.map_reverse, mat_rev]; rfl
theorem law_square (rows : List (List Int)) (n : Int) (hn : n = rows.length) (h1 : 1 ≤ n) :
    joinedL (rows ++ rows.reverse) = zaddL (zmulL (joinedL rows) (joinedL rows)) (zmulL (partL rows 1 (n - 1)) (partL rows 1 (n - 1))) :=
  zeq (joined_trim _) (zadd_trim _ _) fun v => by
    rw [joined_zat, zat_add, zat_mul, zat_mul, joined_zat, part_zat, if_pos (by omega), List.map_append, List.map_reverse, mat_app, mat_rev]
    generalize hl : (rows.map fun r => zatL r v) = l
    have hll : l.length = rows.length := by rw [← hl]; simp
    have e : ((1 : Int) - 1).toNat = 0 := rfl
    rw [e, List.drop_zero]
    have e2 : l.take (n - 1).toNat = l.dropLast := by
      rw [List.dropLast_eq_take]; congr 1; omega
    have hne : l ≠ [] := fun h => by rw [h] at hll; simp at hll; omega
    have hb := mat_b l
    rw [if_neg hne] at hb
    rw [e2, ← hb]
    simp only [M2.mul, M2.tr]
theorem part_pre (l : List Int) (k : Int) : (if (1 : Int) ≤ k - 1 + 1 then (mat ((l.take (k - 1).toNat).drop ((1 : Int) - 1).toNat)).a else 0) = if k = 0 then 0 else if k < 0 then 0 else (mat (l.take (k - 1).toNat)).a := by
  have e : ((1 : Int) - 1).toNat = 0 := rfl
  rw [e, List.drop_zero]
  by_cases h : 1 ≤ k
  · rw [if_pos (by omega), if_neg (by omega), if_neg (by omega)]
  · rw [if_neg (by omega)]
    split
    · rfl
    · rw [if_pos (by omega)]
/-- b of the first k -/
theorem mat_b_nat (l : List Int) (a : Nat) (h : a + 1 ≤ l.length) : (mat (l.take (a + 1))).b = (mat (l.take a)).a := by
  rw [List.take_add_one, List.getElem?_eq_getElem h, mat_app]
  simp [mat, M2.mul]
theorem mat_b_take (l : List Int) (k : Int) (h0 : 0 ≤ k) (h1 : k ≤ l.length) : (mat (l.take k.toNat)).b = if 1 ≤ k then (mat (l.take (k - 1).toNat)).a else 0 := by
  obtain ⟨k, rfl⟩ := Int.eq_ofNat_of_zero_le h0
  cases k with
  | zero => rfl
  | succ a =>
    have e : ((a + 1 : Nat) : Int) - 1 = (a : Int) := by rw [Int.natCast_add]; exact Int.add_sub_cancel _ _
    have c : (1 : Int) ≤ ((a + 1 : Nat) : Int) := Int.ofNat_le.mpr (Nat.succ_le_succ (Nat.zero_le a))
    rw [if_pos c, e, Int.toNat_natCast, Int.toNat_natCast]
    exact mat_b_nat l a (Int.ofNat_le.mp h1)
/-- c of what is behind the first k -/
theorem mat_c_drop (l : List Int) (k : Nat) : (mat (l.drop k)).c = if k < l.length then (mat (l.drop (k + 1))).a else 0 := by
  rw [(mat_kont _).2, (mat_kont _).1]
  by_cases h : k < l.length
  · have hne : l.drop k ≠ [] := fun e => by
      have := congrArg List.length e
      simp only [List.length_drop, List.length_nil] at this
      omega
    rw [if_neg hne, if_pos h, List.tail_drop]
  · rw [if_neg h, if_pos (List.drop_eq_nil_of_le (by omega))]
theorem law_split (rows : List (List Int)) (n j : Int) (hn : n = rows.length) (h1 : 1 ≤ j) (h2 : j ≤ n) :
    zaddL (zmulL (partL rows 1 j) (partL rows (j + 1) n)) (zmulL (partL rows 1 (j - 1)) (partL rows (j + 2) n)) = joinedL rows :=
  zeq (zadd_trim _ _) (joined_trim _) fun v => by
    rw [joined_zat, zat_add, zat_mul, zat_mul, part_zat, part_zat, part_zat, part_zat]
    generalize hl : (rows.map fun r => zatL r v) = l
    have hll : l.length = rows.length := by rw [← hl]; simp
    have e : ((1 : Int) - 1).toNat = 0 := rfl
    have en : l.take n.toNat = l := List.take_of_length_le (by omega)
    have ej1 : (j + 1 - 1).toNat = j.toNat := by omega
    have ej2 : (j + 2 - 1).toNat = j.toNat + 1 := by omega
    rw [e, List.drop_zero, List.drop_zero, en, ej1, ej2, if_pos (by omega), if_pos (by omega), if_pos (by omega)]
    have key := mat_app (l.take j.toNat) (l.drop j.toNat)
    rw [List.take_append_drop] at key
    rw [key]
    have hb := mat_b_take l j (by omega) (by omega)
    rw [if_pos h1] at hb
    have hc := mat_c_drop l j.toNat
    simp only [M2.mul]
    rw [hb, hc]
    by_cases h : j < n
    · rw [if_pos (by omega), if_pos (by omega)]
    · rw [if_neg (by omega), if_neg (by omega)]
theorem euler_mat (X Y Z : M2) : (X.mul (Y.mul Z)).a * Y.a - (X.mul Y).a * (Y.mul Z).a = X.b * Z.c * Y.det := by
  simp only [M2.mul, M2.det]
  grind
theorem euler_len (l : List Int) (a b : Nat) (h : b ≤ l.length) : ((l.take b).drop a).length = b - a := by rw [List.length_drop, List.length_take, Nat.min_eq_left h]
theorem euler_cut (l : List Int) (a b : Nat) (h : a ≤ b) : mat (l.take b) = (mat (l.take a)).mul (mat ((l.take b).drop a)) := by
  rw [← mat_app]
  congr 1
  have := List.take_append_drop a (l.take b)
  rw [List.take_take, Nat.min_eq_left h] at this
  exact this.symm
theorem euler_cut2 (l : List Int) (a b : Nat) (h : a ≤ b) : mat (l.drop a) = (mat ((l.take b).drop a)).mul (mat (l.drop b)) := by
  rw [← mat_app]
  congr 1
  have := List.take_append_drop (b - a) (l.drop a)
  rw [List.drop_drop, List.take_drop, Nat.add_sub_cancel' h] at this
  exact this.symm
theorem euler_nat (l : List Int) (a b : Nat) (h : a ≤ b) (hb : b ≤ l.length) (s : Int) (hs : s = if (b - a) % 2 = 0 then 1 else -1) :
    (mat l).a * (mat ((l.take b).drop a)).a - (mat (l.take b)).a * (mat (l.drop a)).a = (mat (l.take a)).b * (mat (l.drop b)).c * s := by
  have hd := mat_det ((l.take b).drop a)
  rw [euler_len l a b hb, ← hs] at hd
  have kA : mat l = (mat (l.take a)).mul (mat (l.drop a)) := by rw [← mat_app, List.take_append_drop]
  have key := euler_mat (mat (l.take a)) (mat ((l.take b).drop a)) (mat (l.drop b))
  rw [← euler_cut2 l a b h, ← kA, ← euler_cut l a b h, hd] at key
  exact key
theorem law_euler (rows : List (List Int)) (n i j s : Int) (hn : n = rows.length) (h1 : 1 ≤ i) (h2 : i ≤ j) (h3 : j ≤ n) (hs : s = if (j - i + 1) % 2 = 0 then 1 else -1) :
    zsubL (zmulL (joinedL rows) (partL rows i j)) (zmulL (partL rows 1 j) (partL rows i n)) = zscaleL (zmulL (partL rows 1 (i - 2)) (partL rows (j + 2) n)) s := by
  obtain ⟨a, rfl⟩ : ∃ a : Nat, i = (a : Int) + 1 := ⟨(i - 1).toNat, by omega⟩
  obtain ⟨b, rfl⟩ : ∃ b : Nat, j = (b : Int) := ⟨j.toNat, by omega⟩
  subst hn
  have hab : a ≤ b := by omega
  have hbl : b ≤ rows.length := by omega
  have hs' : s = if (b - a) % 2 = 0 then 1 else -1 := by
    rw [hs]
    have e : (b : Int) - ((a : Int) + 1) + 1 = ((b - a : Nat) : Int) := by omega
    rw [e]
    by_cases h : (b - a) % 2 = 0
    · rw [if_pos h, if_pos (by omega)]
    · rw [if_neg h, if_neg (by omega)]
  have e1 : ((a : Int) + 1 - 1).toNat = a := by omega
  have e2 : ((b : Int) + 2 - 1).toNat = b + 1 := by omega
  have c1 : (a : Int) + 1 ≤ (b : Int) + 1 := by omega
  have c2 : (1 : Int) ≤ (b : Int) + 1 := by omega
  have c3 : (a : Int) + 1 ≤ (rows.length : Int) + 1 := by omega
  refine zeq (zadd_trim _ _) (zscale_trim (zmul_trim (part_trim _ _ _) (part_trim _ _ _)) _) fun v => ?_
  rw [zat_sub, zat_scale, zat_mul, zat_mul, zat_mul, joined_zat, part_zat, part_zat, part_zat, part_zat, part_zat]
  generalize hl : (rows.map fun r => zatL r v) = l
  have hll : l.length = rows.length := by rw [← hl, List.length_map]
  rw [← hll] at hbl c3 ⊢
  have en : l.take ((l.length : Int)).toNat = l := by rw [Int.toNat_natCast, List.take_length]
  rw [show ((1 : Int) - 1).toNat = 0 from rfl, List.drop_zero, List.drop_zero, en, e1, e2, Int.toNat_natCast, if_pos c1, if_pos c2, if_pos c3, euler_nat l a b hab hbl s hs']
  have hb := mat_b_take l a (by omega) (by omega)
  have hc := mat_c_drop l b
  rw [Int.toNat_natCast] at hb
  rw [hb, hc]
  have e5 : (a : Int) + 1 - 2 = (a : Int) - 1 := by omega
  rw [e5]
  have c4 : (1 : Int) ≤ (a : Int) - 1 + 1 ↔ (1 : Int) ≤ (a : Int) := by omega
  have c5 : (b : Int) + 2 ≤ (l.length : Int) + 1 ↔ b < l.length := by omega
  simp only [c4, c5]
/-! singles -/
theorem mat_pos : ∀ l : List Int, (∀ x ∈ l, 1 ≤ x) → 1 ≤ (mat l).a ∧ 0 ≤ (mat l).c
  | [], _ => by simp [mat]
  | x :: r, h => by
    obtain ⟨h1, h2⟩ := mat_pos r fun y hy => h y (.tail _ hy)
    have hx := h x (.head _)
    have : 1 * 1 ≤ x * (mat r).a := Int.mul_le_mul hx h1 (by decide) (by omega)
    refine ⟨?_, ?_⟩
    · show 1 ≤ x * (mat r).a + (mat r).c
      omega
    · show 0 ≤ (mat r).a
      omega
theorem joined_singles (l : List Int) (h : ∀ x ∈ l, 1 ≤ x) : joinedL (l.map fun x => [x]) = [kont l] := by
  have hp := (mat_pos l h).1
  rw [(mat_kont l).1] at hp
  refine zeq (joined_trim _) (trim_snoc [] _ (by omega)) fun v => ?_
  rw [joined_kont]
  have e : ((l.map fun x => [x]).map fun r => zatL r v) = l := by
    rw [List.map_map]
    conv => rhs; rw [← List.map_id l]
    refine List.map_congr_left fun x _ => ?_
    simp [zatL]
  rw [e]
  simp [zatL]
theorem convS_mat : ∀ l : List Int, convS l.reverse = (((mat l).a, (mat l).c), ((mat l).b, (mat l).d)) := by
  intro l
  suffices h : ∀ n, ∀ l : List Int, l.length = n → convS l.reverse = (((mat l).a, (mat l).c), ((mat l).b, (mat l).d)) from h _ l rfl
  intro n
  induction n with
  | zero =>
    intro l hl
    have := List.eq_nil_of_length_eq_zero hl
    subst this; rfl
  | succ n ih =>
    intro l hl
    rcases List.eq_nil_or_concat l with e | ⟨r, x, e⟩
    · subst e; simp at hl
    · rw [List.concat_eq_append] at e
      subst e
      have ihr := ih r (by simpa using hl)
      rw [List.reverse_append, List.reverse_singleton, mat_app]
      show convS (x :: r.reverse) = _
      simp only [convS, ihr, mat, M2.mul]
      refine Prod.ext (Prod.ext ?_ ?_) (Prod.ext ?_ ?_) <;> simp only <;> grind
theorem conv_pair (row : List Int) (i : Nat) (hi : i < row.length) : convP row i = (kont (row.take (i + 1)), kont ((row.take (i + 1)).drop 1)) := by
  unfold convP
  rw [convS_mat]
  have hne : row.take (i + 1) ≠ [] := fun e => by
    have := congrArg List.length e
    simp only [List.length_take, List.length_nil] at this
    omega
  show ((mat _).a, (mat _).c) = _
  rw [(mat_kont _).1, (mat_kont _).2, if_neg hne, List.drop_one]
theorem kont_ones : ∀ n : Nat, (mat (List.replicate n 1)).a = kont (List.replicate n 1) := fun n => (mat_kont _).1
/-! sizes: the sum of the absolute values -/
def nrm (l : List Int) : Nat := (l.map Int.natAbs).sum
theorem nrm_mem {l : List Int} {x : Int} (h : x ∈ l) : x.natAbs ≤ nrm l := by
  induction l with
  | nil => simp at h
  | cons y r ih =>
    simp only [nrm, List.map_cons, List.sum_cons] at ih ⊢
    rcases List.mem_cons.mp h with rfl | h
    · omega
    · have := ih h; omega
theorem nrm_trim : ∀ l : List Int, nrm (ztrimL l) ≤ nrm l
  | [] => Nat.le_refl _
  | x :: r => by
    have := nrm_trim r
    unfold ztrimL
    simp only [nrm, List.map_cons, List.sum_cons] at this ⊢
    split
    · split <;> simp
    · simp only [List.map_cons, List.sum_cons]; omega
theorem nrm_getD (l : List Int) : ∀ n, ((List.range n).map fun i => (l.getD i 0).natAbs).sum ≤ nrm l := by
  induction l with
  | nil =>
    intro n
    have : ((List.range n).map fun i => (([] : List Int).getD i 0).natAbs) = List.replicate n 0 := by
      rw [List.eq_replicate_iff]; simp
    rw [this]; simp
  | cons x r ih =>
    intro n
    cases n with
    | zero => simp
    | succ n =>
      rw [List.range_succ_eq_map, List.map_cons, List.map_map, List.sum_cons]
      have := ih n
      have e : (List.map ((fun i => ((x :: r).getD i 0).natAbs) ∘ Nat.succ) (List.range n)) = (List.range n).map fun i => (r.getD i 0).natAbs := by
        refine List.map_congr_left fun i _ => ?_
        simp
      rw [e]
      simp only [nrm, List.map_cons, List.sum_cons, List.getD_cons_zero] at this ⊢
      omega
theorem sum_add_le (f g h : Nat → Nat) (hh : ∀ i, h i ≤ f i + g i) : ∀ l : List Nat, (l.map h).sum ≤ (l.map f).sum + (l.map g).sum
  | [] => by simp
  | x :: r => by
    have := sum_add_le f g h hh r
    have := hh x
    simp only [List.map_cons, List.sum_cons]; omega
theorem nrm_add (a b : List Int) : nrm (zaddL a b) ≤ nrm a + nrm b := by
  unfold zaddL
  refine Nat.le_trans (nrm_trim _) ?_
  have h1 := nrm_getD a (max a.length b.length)
  have h2 := nrm_getD b (max a.length b.length)
  have h3 := sum_add_le (fun i => (a.getD i 0).natAbs) (fun i => (b.getD i 0).natAbs) (fun i => (a.getD i 0 + b.getD i 0).natAbs) (fun i => Int.natAbs_add_le _ _) (List.range (max a.length b.length))
  have e : nrm ((List.range (max a.length b.length)).map fun i => a.getD i 0 + b.getD i 0) = ((List.range (max a.length b.length)).map fun i => (a.getD i 0 + b.getD i 0).natAbs).sum := by
    unfold nrm; rw [List.map_map]; rfl
  omega
theorem nrm_set : ∀ (f : List Int) (k : Nat) (y : Int), nrm (f.set k (f.getD k 0 + y)) ≤ nrm f + y.natAbs
  | [], k, y => by simp [nrm]
  | x :: r, 0, y => by
    simp only [nrm, List.set_cons_zero, List.getD_cons_zero, List.map_cons, List.sum_cons]
    have := Int.natAbs_add_le x y
    omega
  | x :: r, k + 1, y => by
    have := nrm_set r k y
    simp only [nrm, List.set_cons_succ, List.getD_cons_succ, List.map_cons, List.sum_cons] at this ⊢
    omega
theorem nrm_addRow (x : Int) : ∀ (b f : List Int) (k : Nat), nrm (addRow f k x b) ≤ nrm f + x.natAbs * nrm b
  | [], f, k => by simp [addRow]
  | y :: r, f, k => by
    unfold addRow
    have h1 := nrm_addRow x r (f.set k (f.getD k 0 + x * y)) (k + 1)
    have h2 := nrm_set f k (x * y)
    rw [Int.natAbs_mul] at h2
    have h3 : nrm (y :: r) = y.natAbs + nrm r := by simp [nrm]
    rw [h3, Nat.mul_add]
    omega
theorem nrm_mulRows (b : List Int) : ∀ (a f : List Int) (i : Nat), nrm (mulRows f i a b) ≤ nrm f + nrm a * nrm b
  | [], f, i => by simp [mulRows]
  | x :: r, f, i => by
    unfold mulRows
    have h1 := nrm_mulRows b r (if x ≠ 0 then addRow f i x b else f) (i + 1)
    have h2 : nrm (if x ≠ 0 then addRow f i x b else f) ≤ nrm f + x.natAbs * nrm b := by
      split
      · exact nrm_addRow x b f i
      · exact Nat.le_add_right _ _
    have h3 : nrm (x :: r) = x.natAbs + nrm r := by simp [nrm]
    rw [h3, Nat.add_mul]
    omega
theorem nrm_zeros (n : Nat) : nrm (List.replicate n 0) = 0 := by simp [nrm]
theorem nrm_mul (a b : List Int) : nrm (zmulL a b) ≤ nrm a * nrm b := by
  unfold zmulL
  split
  · simp [nrm]
  · have := nrm_mulRows b a (List.replicate (a.length + b.length - 1) 0) 0
    rw [nrm_zeros] at this
    omega
theorem nrm_row {r : List Int} (h : r.length ≤ 2 ∧ ∀ x ∈ r, -9 ≤ x ∧ x ≤ 9) : nrm r ≤ 18 := by
  obtain ⟨h1, h2⟩ := h
  match r, h1, h2 with
  | [], _, _ => simp [nrm]
  | [x], _, h2 =>
    have := h2 x (by simp)
    simp [nrm]; omega
  | [x, y], _, h2 =>
    have := h2 x (by simp)
    have := h2 y (by simp)
    simp [nrm]; omega
  | x :: y :: z :: r, h1, _ => simp at h1
theorem nrm_joinS : ∀ (n : Nat) (rows : List (List Int)), rows.length = n → (∀ r ∈ rows, r.length ≤ 2 ∧ ∀ x ∈ r, -9 ≤ x ∧ x ≤ 9) → nrm (joinS rows).1 ≤ 19 ^ n ∧ nrm (joinS rows).2 ≤ 19 ^ n
  | 0, rows, h, _ => by
    have := List.eq_nil_of_length_eq_zero h
    subst this; simp [joinS, nrm]
  | n + 1, rows, h, hr => by
    rcases List.eq_nil_or_concat rows with e | ⟨l, x, e⟩
    · subst e; simp at h
    · rw [List.concat_eq_append] at e
      subst e
      obtain ⟨h1, h2⟩ := nrm_joinS n l (by simpa using h) fun r hr' => hr r (by simp [hr'])
      have hx := nrm_row (hr x (by simp))
      rw [joinS_snoc]
      unfold joinStep
      have h3 := nrm_add (zmulL x (joinS l).2) (joinS l).1
      have h4 := nrm_mul x (joinS l).2
      have h5 : nrm x * nrm (joinS l).2 ≤ 18 * 19 ^ n := Nat.mul_le_mul hx h2
      have h6 : (19 : Nat) ^ (n + 1) = 18 * 19 ^ n + 19 ^ n := by rw [Nat.pow_succ]; omega
      constructor
      · show nrm (joinS l).2 ≤ _
        omega
      · show nrm (zaddL (zmulL x (joinS l).2) (joinS l).1) ≤ _
        omega
theorem joined_small (rows : List (List Int)) (h : rows.length ≤ 12) (hr : ∀ r ∈ rows, r.length ≤ 2 ∧ ∀ x ∈ r, -9 ≤ x ∧ x ≤ 9) : ∀ x ∈ joinedL rows, -4611686018427387904 ≤ x ∧ x ≤ 4611686018427387904 := by
  intro x hx
  have h1 := (nrm_joinS _ rows rfl hr).2
  have h2 := nrm_mem hx
  have h3 : (19 : Nat) ^ rows.length ≤ 19 ^ 12 := Nat.pow_le_pow_right (by decide) h
  have h4 : (19 : Nat) ^ 12 ≤ 4611686018427387904 := by decide +kernel
  have h5 : x.natAbs ≤ 4611686018427387904 := Nat.le_trans h2 (Nat.le_trans h1 (Nat.le_trans h3 h4))
  omega
theorem part_small (rows : List (List Int)) (low high : Int) (h : rows.length ≤ 12) (hr : ∀ r ∈ rows, r.length ≤ 2 ∧ ∀ x ∈ r, -9 ≤ x ∧ x ≤ 9) : ∀ x ∈ partL rows low high, -4611686018427387904 ≤ x ∧ x ≤ 4611686018427387904 := by
  unfold partL
  split
  · exact joined_small _ (Nat.le_trans (sub_len _ _ _) h) fun r h => hr r (List.mem_of_mem_take (List.mem_of_mem_drop h))
  · intro x hx; simp at hx
theorem part_len (rows : List (List Int)) (low high : Int) (hr : ∀ r ∈ rows, r.length ≤ 2 ∧ ∀ x ∈ r, -9 ≤ x ∧ x ≤ 9) : (partL rows low high).length ≤ 2 * rows.length + 1 := by
  unfold partL
  split
  · exact Nat.le_trans (joinedL_len ((rows.take high.toNat).drop (low - 1).toNat) fun r h => (hr r (List.mem_of_mem_take (List.mem_of_mem_drop h))).1) (Nat.add_le_add_right (Nat.mul_le_mul_left 2 (sub_len _ _ _)) 1)
  · simp
end Mine
namespace Mine
local macro_rules | `(tactic| omega) => `(tactic| first | with_reducible assumption | lia | omega +splitDisjunctions)
theorem ztrim_end {as : List Int} {k : Int} (h1 : k ≤ (as.length : Int)) (h2 : min (as.length : Int) 0 ≤ k)
    (h3 : ∀ j, k < j → j ≤ (as.length : Int) → (if 0 < j then if (as.getD (j - 1).toNat 0 == 0) = true then true else false else false) = true)
    (h4 : (if 0 < k then if (as.getD (k - 1).toNat 0 == 0) = true then true else false else false) = false) : as.take k.toNat = ztrimL as := by
  refine (ztrimL_take as k.toNat (by omega) (fun j hj hl => ?_) fun h0 => ?_).symm
  · have := h3 (j + 1) (by omega) (by omega)
    rw [if_pos (by omega)] at this
    have e : ((j : Int) + 1 - 1).toNat = j := by omega
    rw [e] at this
    simpa using this
  · rw [if_pos (by omega)] at h4
    have e : (k - 1).toNat = k.toNat - 1 := by omega
    rw [e] at h4
    intro hz
    rw [hz] at h4
    simp at h4

theorem zadd_end (as bs : List Int) :
    ztrimL ((rangeKs 0 ((if (bs.length : Int) > as.length then (bs.length : Int) else as.length) - 0).toNat).map
    (fun k' => if k' < (as.length : Int) ∧ k' < (bs.length : Int) then as.getD k'.toNat 0 + bs.getD k'.toNat 0 else if k' < (as.length : Int) ∧ ¬k' < (bs.length : Int) then as.getD k'.toNat 0 + 0 else 0 + bs.getD k'.toNat 0)) = zaddL as bs := by
  unfold zaddL
  congr 1
  have e : ((if (bs.length : Int) > as.length then (bs.length : Int) else as.length) - 0).toNat = max as.length bs.length := by split <;> omega
  rw [e]
  unfold rangeKs
  rw [List.map_map]
  refine List.map_congr_left fun i hi => ?_
  have hi' : i < max as.length bs.length := by simpa using hi
  simp only [Function.comp]
  have e2 : ((0 : Int) + (i : Int)).toNat = i := by omega
  simp only [e2]
  by_cases h1 : i < as.length <;> by_cases h2 : i < bs.length
  · simp [h1, h2]
  · rw [if_neg (by omega), if_pos (by omega)]; simp [List.getElem?_eq_none (Nat.le_of_not_lt h2)]
  · rw [if_neg (by omega), if_neg (by omega)]; simp [List.getElem?_eq_none (Nat.le_of_not_lt h1)]
  · omega
theorem ret_IL {news newsX : List (Addr × Obj)} {ns : List Int} {h₀ h' : Heap} {L : Addr} {m : Str → Option Value} {s : Shared} {tk' : Nat} {Q : Value → Shared → Prop} {x : Addr} {vs : List Value} {n : Nat}
    (hret : ∀ news' r h' tk', Fr h₀ L h' m → News h₀ L h' news' → NewIL news ns news' r → Q r { s with heap := h', toks := tk' })
    (F : Fr h₀ L h' m) (N : News h₀ L h' newsX) (hx : (x, listOf vs.toArray n) ∈ newsX) (hs : ∀ p ∈ news, p ∈ newsX) (o : LCg.Off1 x news) (hI : IntsAre vs ns) : Q (.ref x) { s with heap := h', toks := tk' } :=
  hret ((x, listOf vs.toArray n) :: news) _ _ _ F (fun p hp => N p (by
    rcases List.mem_cons.mp hp with rfl | hp
    · exact hx
    · exact hs p hp)) ⟨x, vs, n, rfl, rfl, o, hI⟩
theorem allLt_off {d : Addr} : ∀ {l : List (Addr × Obj)}, AllLt d l → LCg.Off1 d l
  | [], _ => trivial
  | _ :: _, h => ⟨Nat.ne_of_lt h.1, allLt_off h.2⟩
theorem has_nil {m : Str → Option Value} : Has m [] := trivial
theorem has_cons {m : Str → Option Value} {x : Str} {v : Value} {ps : List (Str × Value)} (h : m x = some v) (r : Has m ps) : Has m ((x, v) :: ps) := ⟨h, r⟩
theorem map_has {m : Str → Option Value} {ps : List (Str × Value)} (H : Has m ps) : m = fun y => (ps.lookup y).or (m y) := (funext (has_lookup H)).symm
theorem ints_get {vs : List Value} {ns : List Int} (h : IntsAre vs ns) {i : Nat} {v : Value} (hv : vs[i]? = some v) : ∃ t, v = .int (ns.getD i 0) t ∧ i < ns.length := by
  have hl := h.length
  have hi : i < vs.length := (List.getElem?_eq_some_iff.mp hv).1
  have hi' : i < ns.length := by omega
  obtain ⟨t, ht⟩ := h.get i (ns[i]) (by simp [hi'])
  rw [hv] at ht
  refine ⟨t, ?_, hi'⟩
  rw [Option.some.inj ht]
  simp [hi']
/-- a list's values are lists of ints of the ledger -/
inductive RowsIn (news : List (Addr × Obj)) : List Value → List (List Int) → Prop
  | nil : RowsIn news [] []
  | cons {a : Addr} {rvs : List Value} {n : Nat} {row : List Int} {vs : List Value} {rows : List (List Int)} : (a, listOf rvs.toArray n) ∈ news → IntsAre rvs row → RowsIn news vs rows → RowsIn news (.ref a :: vs) (row :: rows)
theorem RowsIn.mono {ts ts' : List (Addr × Obj)} {vs : List Value} {ps : List (List Int)} (h : RowsIn ts vs ps) (hs : ∀ p ∈ ts, p ∈ ts') : RowsIn ts' vs ps := by
  induction h with
  | nil => exact .nil
  | cons hm hi _ ih => exact .cons (hs _ hm) hi ih
theorem RowsIn.snoc {ts : List (Addr × Obj)} {vs : List Value} {ps : List (List Int)} (h : RowsIn ts vs ps) {a : Addr} {rvs : List Value} {n : Nat} {row : List Int} (hm : (a, listOf rvs.toArray n) ∈ ts) (hi : IntsAre rvs row) : RowsIn ts (vs ++ [.ref a]) (ps ++ [row]) := by
  induction h with
  | nil => exact .cons hm hi .nil
  | cons hm' hi' _ ih => exact .cons hm' hi' ih
theorem RowsIn.length {ts : List (Addr × Obj)} {vs : List Value} {ps : List (List Int)} (h : RowsIn ts vs ps) : vs.length = ps.length := by
  induction h with
  | nil => rfl
  | cons _ _ _ ih => simp [ih]
theorem RowsIn.get {ts : List (Addr × Obj)} {vs : List Value} {ps : List (List Int)} (h : RowsIn ts vs ps) : ∀ {i : Nat} {v : Value}, vs[i]? = some v → ∃ a rvs n, v = .ref a ∧ (a, listOf (List.toArray rvs) n) ∈ ts ∧ IntsAre rvs (ps.getD i []) ∧ i < ps.length := by
  induction h with
  | nil => intro i v hv; simp at hv
  | @cons a rvs n row vs rows hm hi _ ih =>
    intro i v hv
    cases i with
    | zero => exact ⟨a, rvs, n, by simpa using hv.symm, hm, by simpa using hi, by simp⟩
    | succ i =>
      obtain ⟨a', r', n', e1, e2, e3, e4⟩ := ih (i := i) (v := v) (by simpa using hv)
      exact ⟨a', r', n', e1, e2, by simpa using e3, by simpa using e4⟩
/-- the ledger's first, second, third address, to be named -/
theorem name_1 {h₀ h : Heap} {L x : Addr} {o : Obj} {r : List (Addr × Obj)} (_ : News h₀ L h ((x, o) :: r)) : ∃ y : Addr, y = x := ⟨x, rfl⟩
theorem name_2 {h₀ h : Heap} {L x : Addr} {o : Obj} {e : Addr × Obj} {r : List (Addr × Obj)} (_ : News h₀ L h (e :: (x, o) :: r)) : ∃ y : Addr, y = x := ⟨x, rfl⟩
theorem name_3 {h₀ h : Heap} {L x : Addr} {o : Obj} {e e' : Addr × Obj} {r : List (Addr × Obj)} (_ : News h₀ L h (e :: e' :: (x, o) :: r)) : ∃ y : Addr, y = x := ⟨x, rfl⟩
/-- one entry taken out of a ledger -/
inductive TakeOut (x : Addr × Obj) : List (Addr × Obj) → List (Addr × Obj) → Prop
  | head {r : List (Addr × Obj)} : TakeOut x (x :: r) r
  | tail {e : Addr × Obj} {l r : List (Addr × Obj)} : TakeOut x l r → TakeOut x (e :: l) (e :: r)
theorem TakeOut.mem {x : Addr × Obj} {l r : List (Addr × Obj)} (h : TakeOut x l r) : ∀ p ∈ x :: r, p ∈ l := by
  induction h with
  | head => intro p hp; exact hp
  | tail _ ih =>
    intro p hp
    rcases List.mem_cons.mp hp with rfl | hp
    · exact .tail _ (ih _ (.head _))
    · rcases List.mem_cons.mp hp with rfl | hp
      · exact .head _
      · exact .tail _ (ih _ (.tail _ hp))
theorem news_front {h₀ h : Heap} {L : Addr} {x : Addr × Obj} {l r : List (Addr × Obj)} (N : News h₀ L h l) (t : TakeOut x l r) : News h₀ L h (x :: r) := fun p hp => N p (t.mem p hp)
theorem name_fr {h₀ h : Heap} {L : Addr} {m : Str → Option Value} (_ : Fr h₀ L h m) : ∃ y : Addr, y = L := ⟨L, rfl⟩
theorem news_1 {h₀ h : Heap} {L : Addr} {e x : Addr × Obj} {news : List (Addr × Obj)} (N : News h₀ L h (x :: e :: news)) : News h₀ L h (x :: news) := fun p hp => N p (by
  rcases List.mem_cons.mp hp with rfl | hp
  · exact .head _
  · exact .tail _ (.tail _ hp))
end Mine
namespace Mine
local macro_rules | `(tactic| omega) => `(tactic| first | with_reducible assumption | lia | omega +splitDisjunctions)

/-- the end of a loop's turn: the walk's state stands by the word `Jn` -/
def JEnd (h₀ : Heap) (L : Addr) (Jn : (Str → Option Value) → List (Addr × Obj) → Prop) (I : Addr) (oI : Obj) (s₁ s₂ : Shared) : Prop :=
  ∃ h' tk m' news', s₂ = { s₁ with heap := h', toks := tk } ∧ Fr h₀ L h' m' ∧ News h₀ L h' ((I, oI) :: news') ∧ LCg.Off1 I news' ∧ Jn m' news'
def JPost (h₀ : Heap) (L : Addr) (Jn : (Str → Option Value) → List (Addr × Obj) → Prop) (I : Addr) (oI : Obj) (s₁ : Shared) (Q : Flow → Shared → Prop) (f : Flow) (s₂ : Shared) : Prop :=
  match f with
  | .ret v => Q (.ret v) s₂
  | .brk => Q .next s₂
  | _ => JEnd h₀ L Jn I oI s₁ s₂

theorem off1_mem {D : Addr} : ∀ {l : List (Addr × Obj)}, LCg.Off1 D l → ∀ p ∈ l, p.1 ≠ D
  | [], _, _, h => nomatch h
  | _ :: _, x, p, h => by
    rcases List.mem_cons.mp h with rfl | h
    · exact x.1
    · exact off1_mem x.2 p h
theorem off1_of {D : Addr} : ∀ {l : List (Addr × Obj)}, (∀ p ∈ l, p.1 ≠ D) → LCg.Off1 D l
  | [], _ => trivial
  | p :: _, h => ⟨h p (.head _), off1_of fun q hq => h q (.tail _ hq)⟩
theorem off1_sub {D : Addr} {l l' : List (Addr × Obj)} (h : LCg.Off1 D l) (hs : ∀ p ∈ l', p ∈ l) : LCg.Off1 D l' := off1_of fun p hp => off1_mem h p (hs p hp)

theorem JEnd.intro {h₀ h' : Heap} {L : Addr} {Jn : (Str → Option Value) → List (Addr × Obj) → Prop} {I : Addr} {oI : Obj} {s₁ : Shared} {tk : Nat} {m' : Str → Option Value} {newsX news' : List (Addr × Obj)}
    (F : Fr h₀ L h' m') (N : News h₀ L h' newsX) (hI : (I, oI) ∈ newsX) (hs : ∀ p ∈ news', p ∈ newsX) (o : LCg.Off1 I news') (hJ : Jn m' news') : JEnd h₀ L Jn I oI s₁ { s₁ with heap := h', toks := tk } :=
  ⟨h', tk, m', news', rfl, F, fun p hp => N p (by
    rcases List.mem_cons.mp hp with rfl | hp
    · exact hI
    · exact hs p hp), o, hJ⟩

section
variable {prog : Program} {w : World} {A : Around} {E : Value → Shared → Prop} {s : Shared} {env : Env} {h₀ : Heap} {x : Str} {body : List Stmt} {Q : Flow → Shared → Prop}

theorem loopV {I : Addr} {fp : List Addr} {n : Nat} {P : Nat → Value → Prop} {St : Nat → Heap → Prop} {m₀ : Str → Option Value} {news K0 : List (Addr × Obj)} {hp : Heap} {tk0 : Nat}
    (W : Walks prog w A I fp [I] n P St) (hfp : ∀ b ∈ fp, b = I ∨ ∃ o, (b, o) ∈ K0) (hIo : ∀ i h, St i h → ∃ o, h.get? I = some o)
    (hL : env.locals ∉ fp) (hI₀ : h₀.get? I = none) (hnw : LCg.Off1 I news) (hst : St 0 hp) (F : Fr h₀ env.locals hp m₀) (N : News h₀ env.locals hp news)
    (J : Nat → (Str → Option Value) → List (Addr × Obj) → Prop) (hkeep : ∀ i m₁ news₁, J i m₁ news₁ → ∀ p ∈ K0, p ∈ news₁) (h0 : J 0 m₀ news)
    (turn : ∀ i v m₁ news₁ h tk oI, i < n → P i v → J i m₁ news₁ → LCg.Off1 I news₁ → Fr h₀ env.locals h (fun y => if y = x then some v else m₁ y) → News h₀ env.locals h ((I, oI) :: news₁) →
      wpAny (model prog w) A (execs body env) (JPost h₀ env.locals (J (i + 1)) I oI { s with heap := h, toks := tk } Q) E { s with heap := h, toks := tk })
    (done : ∀ h tk m₁ news₁, J n m₁ news₁ → Fr h₀ env.locals h m₁ → News h₀ env.locals h news₁ → Q .next { s with heap := h, toks := tk }) :
    LoopAtV prog w A h₀ env x body Q E (.ref I) { s with heap := hp, toks := tk0 } := by
  refine ⟨I, fp, [I], n, P, St, m₀, news, J, rfl, W, hL, fun b hb => by rw [List.mem_singleton.mp hb]; exact hI₀, fun p hp => by simpa using off1_mem hnw p hp, hst, F, N, h0, ?_, ?_⟩
  · rintro i v m₁ news₁ s₁ own ⟨hh, tk, rfl⟩ hin hP hJ hoff hown hget hall hst₁ F₁ N₁
    obtain ⟨oI, hoI⟩ := hIo _ _ hst₁
    have hIown : (I, oI) ∈ own := hall I (W.sub I (List.mem_singleton.mpr rfl)) hI₀ oI hoI
    have off₁ : LCg.Off1 I news₁ := off1_of fun p hp => by simpa using hoff p hp
    have N₂ : News h₀ env.locals hh ((I, oI) :: news₁) := fun p hp => by
      rcases List.mem_cons.mp hp with rfl | hp
      · exact N₁ _ (List.mem_append_left _ hIown)
      · exact N₁ _ (List.mem_append_right _ hp)
    refine wpAny_mono (turn i v m₁ news₁ hh tk oI hin hP hJ off₁ F₁ N₂) (fun f s₂ p => ?_) fun _ _ e => e
    have fin : JEnd h₀ env.locals (J (i + 1)) I oI { s with heap := hh, toks := tk } s₂ → LoopStepU h₀ env.locals [I] own (J (i + 1)) { s with heap := hh, toks := tk } .next s₂ := by
      rintro ⟨h', tk', m', news', e, F', N', ho, hJ'⟩
      refine ⟨rfl, h', tk', m', news', e, F', ?_, fun p hp => by simpa using off1_mem ho p hp, hJ'⟩
      rintro ⟨pa, po⟩ hpp
      rcases List.mem_append.mp hpp with hpp | hpp
      · have h2 : hh.get? pa = some po := hget _ hpp
        rcases hfp pa (hown _ hpp) with rfl | ⟨o, ho'⟩
        · have : oI = po := Option.some.inj (hoI.symm.trans h2)
          subst this
          exact N' _ (.head _)
        · have h4 : hh.get? pa = some o := (N₂ _ (.tail _ (hkeep _ _ _ hJ _ ho'))).1
          have : o = po := Option.some.inj (h4.symm.trans h2)
          subst this
          exact N' _ (.tail _ (hkeep _ _ _ hJ' _ ho'))
      · exact N' _ (.tail _ hpp)
    cases f with
    | ret v => exact .ret p
    | brk => exact .brk p
    | next => exact .next (fin p)
    | cont => exact .cont (fin p)
  · intro h' tk m' news' F' N' _ hJ
    exact done h' tk m' news' hJ F' N'

theorem new_none {L b : Addr} {h : Heap} {m : Str → Option Value} (F : Fr h₀ L h m) (hb : h.objs.size ≤ b) : h₀.get? b = none := by
  cases e : h₀.get? b with
  | none => rfl
  | some o => exact absurd (Heap.lt_size (F.keep _ _ e)) (Nat.not_lt.mpr hb)

theorem iter_listJ {ax : Addr} {vs : List Value} {c : Nat} {m₀ : Str → Option Value} {news : List (Addr × Obj)}
    (hh : A.handled = none) (F : Fr h₀ env.locals s.heap m₀) (N : News h₀ env.locals s.heap news) (hm : (ax, listOf vs.toArray c) ∈ news)
    (J : Nat → (Str → Option Value) → List (Addr × Obj) → Prop) (hkeep : ∀ i m₁ news₁, J i m₁ news₁ → (ax, listOf vs.toArray c) ∈ news₁) (h0 : J 0 m₀ news)
    (turn : ∀ I i v m₁ news₁ h tk oI, i < vs.length → vs[i]? = some v → J i m₁ news₁ → LCg.Off1 I news₁ → Fr h₀ env.locals h (fun y => if y = x then some v else m₁ y) → News h₀ env.locals h ((I, oI) :: news₁) →
      wpAny (model prog w) A (execs body env) (JPost h₀ env.locals (J (i + 1)) I oI { s with heap := h, toks := tk } Q) E { s with heap := h, toks := tk })
    (done : ∀ h tk m₁ news₁, J vs.length m₁ news₁ → Fr h₀ env.locals h m₁ → News h₀ env.locals h news₁ → Q .next { s with heap := h, toks := tk }) :
    wpAny (model prog w) A (pyIter (.ref ax)) (fun it s₂ => LoopAtV prog w A h₀ env x body Q E it s₂) E s := by
  have hax := N _ hm
  have hl : s.heap.IsList ax vs.toArray := isListN N hm
  have hlt : ax < s.heap.objs.size := Heap.lt_size hax.1
  have hne : ax ≠ s.heap.objs.size := Nat.ne_of_lt hlt
  refine wpAny_pyIter_list hl ?_
  have W := Walks.list (prog := prog) (w := w) hh s.heap.objs.size ax hne vs.toArray
  have hsz : vs.toArray.size = vs.length := by simp
  rw [hsz] at W
  refine loopV (K0 := [(ax, listOf vs.toArray c)]) (tk0 := s.toks) W (fun b hb => ?_) (fun i h st => ?_) ?_ (new_none F (Nat.le_refl _)) (off1_of_lt fun p hp => Heap.lt_size (N p hp).1) ?_ (F.push _) (fun p hp => ⟨Heap.get?_push_of_some _ (N p hp).1, (N p hp).2⟩) J ?_ h0 ?_ done
  · have hb' : b = s.heap.objs.size ∨ b = ax := by simpa using hb
    rcases hb' with e | e
    · exact .inl e
    · exact .inr ⟨_, by rw [e]; exact .head _⟩
  · obtain ⟨it, hit, _⟩ := st.1
    exact ⟨it, hit⟩
  · intro hI
    rcases List.mem_cons.mp hI with e | hI
    · exact absurd F.ns.lt (e ▸ Nat.lt_irrefl _)
    · exact hax.2.1 (List.mem_singleton.mp hI).symm
  · exact ⟨⟨_, Heap.get?_push_size _ rfl, rfl, rfl⟩, hl.at fun o e => Heap.get?_push_of_some _ e⟩
  · intro i m₁ news₁ hJ p hp
    rw [List.mem_singleton.mp hp]; exact hkeep _ _ _ hJ
  · intro i v m₁ news₁ h tk oI hi hP hJ ho F₁ N₁
    exact turn _ i v m₁ news₁ h tk oI hi (by have hP' : vs.toArray[i]? = some v := hP; simpa using hP') hJ ho F₁ N₁

theorem iter_rangeJ {r : Addr} {a₀ b₀ : Int} {t₀ u₀ v₀ : Tok} {n : Nat} {m₀ : Str → Option Value} {news : List (Addr × Obj)}
    (hh : A.handled = none) (hr : IsRange s.heap r a₀ b₀ 1 t₀ u₀ v₀) (hsmall : Builtin.Range.small a₀ b₀ 1 = true) (hn : Builtin.Range.rangeSize a₀ b₀ 1 = (n : Int)) (F : Fr h₀ env.locals s.heap m₀) (N : News h₀ env.locals s.heap news)
    (J : Nat → (Str → Option Value) → List (Addr × Obj) → Prop) (h0 : J 0 m₀ news)
    (turn : ∀ I i t m₁ news₁ h tk oI, i < n → J i m₁ news₁ → LCg.Off1 I news₁ → Fr h₀ env.locals h (fun y => if y = x then some (.int (a₀ + (i : Int)) t) else m₁ y) → News h₀ env.locals h ((I, oI) :: news₁) →
      wpAny (model prog w) A (execs body env) (JPost h₀ env.locals (J (i + 1)) I oI { s with heap := h, toks := tk } Q) E { s with heap := h, toks := tk })
    (done : ∀ h tk m₁ news₁, J n m₁ news₁ → Fr h₀ env.locals h m₁ → News h₀ env.locals h news₁ → Q .next { s with heap := h, toks := tk }) :
    wpAny (model prog w) A (pyIter (.ref r)) (fun it s₂ => LoopAtV prog w A h₀ env x body Q E it s₂) E s := by
  refine wpAny_pyIter_range hr hsmall ?_
  have W : Walks prog w A s.heap.objs.size [s.heap.objs.size] [s.heap.objs.size] n (fun i v => i < n ∧ ∃ t, v = .int (a₀ + i * 1) t)
      (fun i h => IsRangeIter h s.heap.objs.size (a₀ + (i : Nat) * 1) ((n : Int) - (i : Nat)) 1) := (Walks.range hh _ a₀ 1 n).bound
  refine loopV (K0 := []) (tk0 := s.toks) W (fun b hb => .inl (List.mem_singleton.mp hb)) (fun i h st => ⟨_, st⟩) ?_ (new_none F (Nat.le_refl _)) (off1_of_lt fun p hp => Heap.lt_size (N p hp).1)
    (by show IsRangeIter _ _ _ _ _; rw [hn]; simpa using Heap.get?_push_size _ rfl) (F.push _) (fun p hp => ⟨Heap.get?_push_of_some _ (N p hp).1, (N p hp).2⟩) J (fun _ _ _ _ p hp => nomatch hp) h0 ?_ done
  · intro hm
    exact absurd F.ns.lt ((List.mem_singleton.mp hm) ▸ Nat.lt_irrefl _)
  · rintro i v m₁ news₁ h tk oI hi ⟨_, t, rfl⟩ hJ ho F₁ N₁
    rw [Int.mul_one] at F₁
    exact turn _ i t m₁ news₁ h tk oI hi hJ ho F₁ N₁

theorem iter_revJ {D ax : Addr} {vs : List Value} {c : Nat} {m₀ : Str → Option Value} {news : List (Addr × Obj)}
    (hh : A.handled = none) (F : Fr h₀ env.locals s.heap m₀) (N : News h₀ env.locals s.heap ((D, revObj ax ((vs.length : Int) - 1)) :: news)) (hD : LCg.Off1 D news) (hm : (ax, listOf vs.toArray c) ∈ news)
    (J : Nat → (Str → Option Value) → List (Addr × Obj) → Prop) (hkeep : ∀ i m₁ news₁, J i m₁ news₁ → (ax, listOf vs.toArray c) ∈ news₁) (h0 : J 0 m₀ news)
    (turn : ∀ i v m₁ news₁ h tk oI, i < vs.length → vs[vs.length - 1 - i]? = some v → J i m₁ news₁ → LCg.Off1 D news₁ → Fr h₀ env.locals h (fun y => if y = x then some v else m₁ y) → News h₀ env.locals h ((D, oI) :: news₁) →
      wpAny (model prog w) A (execs body env) (JPost h₀ env.locals (J (i + 1)) D oI { s with heap := h, toks := tk } Q) E { s with heap := h, toks := tk })
    (done : ∀ h tk m₁ news₁, J vs.length m₁ news₁ → Fr h₀ env.locals h m₁ → News h₀ env.locals h news₁ → Q .next { s with heap := h, toks := tk }) :
    wpAny (model prog w) A (pyIter (.ref D)) (fun it s₂ => LoopAtV prog w A h₀ env x body Q E it s₂) E s := by
  have hax := N _ (.tail _ hm)
  have hDD := N _ (.head _)
  have hl : s.heap.IsList ax vs.toArray := isListN N (.tail _ hm)
  have hne : ax ≠ D := off1_mem hD _ hm
  have hit : s.heap.IsRevIter D ax ((vs.length : Int) - 1) := ⟨_, hDD.1, rfl, rfl⟩
  refine wpAny_pyIter_revIter hit ?_
  have W := Walks.listRev (prog := prog) (w := w) hh D ax hne vs.toArray
  have hsz : vs.toArray.size = vs.length := by simp
  rw [hsz] at W
  refine loopV (K0 := [(ax, listOf vs.toArray c)]) (tk0 := s.toks) W (fun b hb => ?_) (fun i h st => ?_) ?_ hDD.2.2 hD ?_ F (fun p hp => N p (.tail _ hp)) J ?_ h0 ?_ done
  · have hb' : b = D ∨ b = ax := by simpa using hb
    rcases hb' with e | e
    · exact .inl e
    · exact .inr ⟨_, by rw [e]; exact .head _⟩
  · obtain ⟨it, hit, _⟩ := st.2.1
    exact ⟨it, hit⟩
  · intro hI
    rcases List.mem_cons.mp hI with e | hI
    · exact hDD.2.1 e.symm
    · exact hax.2.1 (List.mem_singleton.mp hI).symm
  · refine ⟨Nat.zero_le _, ?_, hl⟩
    simpa using hit
  · intro i m₁ news₁ hJ p hp
    rw [List.mem_singleton.mp hp]; exact hkeep _ _ _ hJ
  · intro i v m₁ news₁ h tk oI hi hP hJ ho F₁ N₁
    exact turn i v m₁ news₁ h tk oI hi (by have hP' : vs.toArray[vs.length - 1 - i]? = some v := hP; simpa using hP') hJ ho F₁ N₁
/-- the end of a turn over an enumerate: two iterator objects -/
def EEnd (h₀ : Heap) (L : Addr) (Jn : (Str → Option Value) → List (Addr × Obj) → Prop) (I : Addr) (oE oI : Obj) (s₁ s₂ : Shared) : Prop :=
  ∃ h' tk m' news', s₂ = { s₁ with heap := h', toks := tk } ∧ Fr h₀ L h' m' ∧ News h₀ L h' ((I + 1, oE) :: (I, oI) :: news') ∧ LCg.Off1 I news' ∧ LCg.Off1 (I + 1) news' ∧ Jn m' news'
def EPost (h₀ : Heap) (L : Addr) (Jn : (Str → Option Value) → List (Addr × Obj) → Prop) (I : Addr) (oE oI : Obj) (s₁ : Shared) (Q : Flow → Shared → Prop) (f : Flow) (s₂ : Shared) : Prop :=
  match f with
  | .ret v => Q (.ret v) s₂
  | .brk => Q .next s₂
  | _ => EEnd h₀ L Jn I oE oI s₁ s₂
theorem EEnd.intro {h' : Heap} {L : Addr} {Jn : (Str → Option Value) → List (Addr × Obj) → Prop} {I : Addr} {oE oI : Obj} {s₁ : Shared} {tk : Nat} {m' : Str → Option Value} {newsX news' : List (Addr × Obj)}
    (F : Fr h₀ L h' m') (N : News h₀ L h' newsX) (hE : (I + 1, oE) ∈ newsX) (hI : (I, oI) ∈ newsX) (hs : ∀ p ∈ news', p ∈ newsX) (o : LCg.Off1 I news') (o' : LCg.Off1 (I + 1) news') (hJ : Jn m' news') : EEnd h₀ L Jn I oE oI s₁ { s₁ with heap := h', toks := tk } :=
  ⟨h', tk, m', news', rfl, F, fun p hp => N p (by
    rcases List.mem_cons.mp hp with rfl | hp
    · exact hE
    · rcases List.mem_cons.mp hp with rfl | hp
      · exact hI
      · exact hs p hp), o, o', hJ⟩
theorem items_J {target : Expr} {ws : List (Addr × String)} {keep : List (Addr × Obj)} {xs : List Itm} (J : Nat → (Str → Option Value) → List (Addr × Obj) → Prop) (hkeep : ∀ i m₁ news₁, J i m₁ news₁ → SubL keep news₁)
    (turn : ∀ i a m₁ news₁ u h tk, xs[i]? = some a → J i m₁ news₁ → a.Is u h → Fr h₀ env.locals h m₁ → AllObj ws (fun its => News h₀ env.locals h (its ++ news₁) →
      wpAny (model prog w) A (assign target env u) (fun _ s₂ => wpAny (model prog w) A (execs body env) (UnrPostW h₀ env.locals { s with heap := h, toks := tk } its (fun m' n' => J (i + 1) m' n') Q) E s₂) E { s with heap := h, toks := tk }))
    (done : ∀ m₁ news₁ h tk, J xs.length m₁ news₁ → Fr h₀ env.locals h m₁ → News h₀ env.locals h news₁ → Q .next { s with heap := h, toks := tk }) :
    ∀ (r : List Itm) (i : Nat), xs.drop i = r → i ≤ xs.length → ∀ m news, J i m news → ItemsRest prog w A E h₀ env target body Q s ws keep r m news := by
  have mono : ∀ {ws : List (Addr × String)} {P P' : List (Addr × Obj) → Prop}, (∀ its, P its → P' its) → AllObj ws P → AllObj ws P' := by
    intro ws
    induction ws with
    | nil => intro P P' h x; exact h _ x
    | cons a r ih => intro P P' h x o ho; exact ih (fun its => h _) (x o ho)
  intro r
  induction r with
  | nil =>
    intro i e hi m news hJ h tk F N
    have hl : i = xs.length := by have := List.drop_eq_nil_iff.mp e; omega
    subst hl
    exact done m news h tk hJ F N
  | cons a r ih =>
    intro i e hi m news hJ u h tk hu F
    have hlt : i < xs.length := by
      rcases Nat.lt_or_ge i xs.length with h | h
      · exact h
      · rw [List.drop_eq_nil_of_le h] at e; cases e
    have hd := List.drop_eq_getElem_cons hlt
    rw [hd] at e
    have ha : xs[i]? = some a := by rw [List.getElem?_eq_getElem hlt]; exact congrArg some (List.cons.inj e).1
    have hr : xs.drop (i + 1) = r := (List.cons.inj e).2
    refine mono (fun its x N => wpAny_mono (x N) (fun _ s₂ q => wpAny_mono q (fun f s₃ p => ?_) fun _ _ e => e) fun _ _ e => e) (turn i a m news u h tk ha hJ hu F)
    have fin : UnrEndW h₀ env.locals { s with heap := h, toks := tk } its (fun m' n' => J (i + 1) m' n') s₃ → UnrEndW h₀ env.locals { s with heap := h, toks := tk } its (fun m' n' => SubL keep n' ∧ ItemsRest prog w A E h₀ env target body Q s ws keep r m' n') s₃ := by
      rintro ⟨h', tk', m', news', e, F', N', o, j⟩
      exact ⟨h', tk', m', news', e, F', N', o, hkeep _ _ _ j, ih (i + 1) hr hlt m' news' j⟩
    cases f with
    | ret v => exact p
    | brk => exact p
    | next => exact fin p
    | cont => exact fin p
theorem enumJ {elts : List Expr} {k : Nat} {pos : Pos} {l : Addr} {vs : List Value} {c : Nat} {m₀ : Str → Option Value} {news : List (Addr × Obj)}
    (hh : A.handled = none) (F : Fr h₀ env.locals s.heap m₀) (N : News h₀ env.locals s.heap news) (hm : (l, listOf vs.toArray c) ∈ news)
    (J : Nat → (Str → Option Value) → List (Addr × Obj) → Prop) (hkeep : ∀ i m₁ news₁, J i m₁ news₁ → (l, listOf vs.toArray c) ∈ news₁) (h0 : J 0 m₀ news)
    (turn : ∀ I oE oI i v m₁ news₁ T t h tk, (∀ p ∈ news, p.1 < I) → i < vs.length → vs[i]? = some v → J i m₁ news₁ → IsTup h T #[.int (i : Int) t, v] → Fr h₀ env.locals h m₁ → News h₀ env.locals h ((I + 1, oE) :: (I, oI) :: news₁) → LCg.Off1 I news₁ → LCg.Off1 (I + 1) news₁ →
      wpAny (model prog w) A (assign (.Tuple elts k pos) env (.ref T)) (fun _ s₂ => wpAny (model prog w) A (execs body env) (EPost h₀ env.locals (J (i + 1)) I oE oI { s with heap := h, toks := tk } Q) E s₂) E { s with heap := h, toks := tk })
    (done : ∀ h tk m₁ news₁, J vs.length m₁ news₁ → Fr h₀ env.locals h m₁ → News h₀ env.locals h news₁ → Q .next { s with heap := h, toks := tk }) :
    wpAny (model prog w) A (call (.type "enumerate") [.ref l]) (fun xv s₁ => wpAny (model prog w) A (pyIter xv) (fun it s₂ => TurnsAt prog w A h₀ env (.Tuple elts k pos) body Q E it s₂) E s₁) E s := by
  refine ktu_enum (xs := enumItems 0 vs) hh F N hm rfl rfl rfl fun I hI => ?_
  have hne : ∀ b : Addr, I ≤ b → LCg.Off1 b news := fun b hb => off1_of fun p hp => Nat.ne_of_lt (Nat.lt_of_lt_of_le (hI p hp) hb)
  refine items_J (keep := [(l, listOf vs.toArray c)]) (fun i m₁ news₁ => J i m₁ news₁ ∧ LCg.Off1 I news₁ ∧ LCg.Off1 (I + 1) news₁) (fun i m₁ news₁ h => And.intro (hkeep i m₁ news₁ h.1) trivial) ?_ ?_ _ 0 rfl (Nat.zero_le _) _ _ ⟨h0, hne _ (Nat.le_refl _), hne _ (Nat.le_succ _)⟩
  · rintro i a m₁ news₁ u h tk ha ⟨hJ, o1, o2⟩ hu F₁
    have hil : i < vs.length := by
      have := (List.getElem?_eq_some_iff.mp ha).1
      rwa [enumItems_length] at this
    have ha2 := enumItems_get vs 0 i (v := vs[i]) (by simp [hil])
    rw [ha] at ha2
    obtain rfl := Option.some.inj ha2
    obtain ⟨T, t, rfl, hT⟩ := hu
    intro oE hE oI hoI N₁
    rw [Nat.zero_add] at hT
    refine wpAny_mono (turn I oE oI i vs[i] m₁ news₁ T t h tk hI hil (by simp [hil]) hJ hT F₁ N₁ o1 o2) (fun _ s₂ q => wpAny_mono q (fun f s₃ p => ?_) fun _ _ e => e) fun _ _ e => e
    have fin : EEnd h₀ env.locals (J (i + 1)) I oE oI { s with heap := h, toks := tk } s₃ → UnrEndW h₀ env.locals { s with heap := h, toks := tk } [(I + 1, oE), (I, oI)] (fun m' n' => J (i + 1) m' n' ∧ LCg.Off1 I n' ∧ LCg.Off1 (I + 1) n') s₃ := by
      rintro ⟨h', tk', m', news', e, F', N', o, o', j⟩
      refine ⟨h', tk', m', news', e, F', N', fun p hp q hq => ?_, j, o, o'⟩
      rcases List.mem_cons.mp hq with rfl | hq
      · exact off1_mem o' p hp
      · rw [List.mem_singleton.mp hq]; exact off1_mem o p hp
    cases f with
    | ret v => exact p
    | brk => exact p
    | next => exact fin p
    | cont => exact fin p
  · rintro m₁ news₁ h tk ⟨hJ, _, _⟩ F₁ N₁
    rw [enumItems_length] at hJ
    exact done h tk m₁ news₁ hJ F₁ N₁
theorem comp_J {L : Addr} {m : Str → Option Value} {elt : Expr} {x : Str} {scope : Scope} {cl : List (Str × Addr)} {S : List (Addr × Obj) → Prop} {P : Nat → Value → Prop} {Fin : List Value → List (Addr × Obj) → Prop} {n : Nat}
    (J : Nat → List Value → List (Addr × Obj) → Prop)
    (turn : ∀ i ys news v I oI C oC D m₂ h tk (E' : Value → Shared → Prop), i < n → P i v → J i ys news → LCg.NsObj oC m₂ → m₂ x = some v → Fr h₀ L h m → News h₀ L h ((I, oI) :: (C, oC) :: (D, LCg.lst ys) :: news) → LCg.Off3 I C D news → ((@Ne Nat I C) ∧ (@Ne Nat I D) ∧ (@Ne Nat C D)) →
      wpAny (model prog w) A (eval elt (compEnvC scope cl C env)) (LCg.CompEnd h₀ L m { s with heap := h, toks := tk } I oI C oC D (LCg.lst ys) S (fun y news' => J (i + 1) (ys ++ [y]) news')) E' { s with heap := h, toks := tk })
    (fin : ∀ ys news, J n ys news → Fin ys news) : ∀ k i ys news, i + k = n → J i ys news → LCg.CompRest prog w A h₀ L m env elt x scope cl s S P Fin k i ys news := by
  intro k
  induction k with
  | zero => intro i ys news e hJ; have e' : i = n := e; subst e'; exact fin ys news hJ
  | succ k ih =>
    intro i ys news e hJ v I oI C oC D m₂ h tk E' hP hC hx F N off ne
    refine wpAny_mono (turn i ys news v I oI C oC D m₂ h tk E' (by omega) hP hJ hC hx F N off ne) (fun y s₂ q => ?_) fun _ _ z => z
    obtain ⟨h', tk', news', e1, F', N', o', hS, hJ'⟩ := q
    exact ⟨h', tk', news', e1, F', N', o', hS, ih (i + 1) _ _ (by omega) hJ'⟩
theorem srcAt_of {ax : Addr} {its : Array Value} {k : Nat} {news : List (Addr × Obj)} (h : (ax, listOf its k) ∈ news) : LCg.SrcAt h₀ ax its news := .inr ⟨_, h, rfl, _, rfl⟩
end
theorem intsAre_snoc : ∀ {vs : List Value} {ns : List Int} (_ : IntsAre vs ns) (n : Int) (t : Tok), IntsAre (vs ++ [.int n t]) (ns ++ [n])
  | _, _, .nil, n, t => .cons n t .nil
  | _, _, .cons a b r, n, t => .cons a b (intsAre_snoc r n t)
end Mine
set_option maxRecDepth 100000
namespace Mine
local macro_rules | `(tactic| omega) => `(tactic| first | with_reducible assumption | lia | omega +splitDisjunctions)
theorem RowsIn.drop {ts : List (Addr × Obj)} {vs : List Value} {ps : List (List Int)} (h : RowsIn ts vs ps) : ∀ n, RowsIn ts (vs.drop n) (ps.drop n) := by
  induction h with
  | nil => intro n; simpa using RowsIn.nil
  | cons hm hi t ih =>
    intro n
    cases n with
    | zero => exact .cons hm hi t
    | succ n => exact ih n
theorem RowsIn.take {ts : List (Addr × Obj)} {vs : List Value} {ps : List (List Int)} (h : RowsIn ts vs ps) : ∀ n, RowsIn ts (vs.take n) (ps.take n) := by
  induction h with
  | nil => intro n; simpa using RowsIn.nil
  | cons hm hi t ih =>
    intro n
    cases n with
    | zero => exact .nil
    | succ n => exact .cons hm hi (ih n)
theorem RowsIn.append {ts : List (Addr × Obj)} {vs ws : List Value} {ps qs : List (List Int)} (h : RowsIn ts vs ps) (h' : RowsIn ts ws qs) : RowsIn ts (vs ++ ws) (ps ++ qs) := by
  induction h with
  | nil => exact h'
  | cons hm hi _ ih => exact .cons hm hi ih
theorem RowsIn.reverse {ts : List (Addr × Obj)} {vs : List Value} {ps : List (List Int)} (h : RowsIn ts vs ps) : RowsIn ts vs.reverse ps.reverse := by
  induction h with
  | nil => exact .nil
  | cons hm hi _ ih => rw [List.reverse_cons, List.reverse_cons]; exact ih.snoc hm hi

section
variable {prog : Program} {w : World} {A : Around} {E : Value → Shared → Prop} {s : Shared} {h₀ : Heap} {L l : Addr} {m : Str → Option Value} {news : List (Addr × Obj)} {value slice : PySem.Expr} {vs : List Value} {rows : List (List Int)} {c : Nat} {Q : Value → Shared → Prop}
theorem len_refs (N : News h₀ L s.heap news) (hm : (l, listOf vs.toArray c) ∈ news) (n : Nat) (hn : vs.length = n) (hf : n < 2 ^ 62) (h : Q (.int n (s.toks + 1)) { s with toks := s.toks + 1 + 1 }) :
    wpAny (model prog w) A (call (.builtin "len") [.ref l]) Q E s := by
  refine len_list (isListN N hm) ?_ ?_
  · rw [List.size_toArray, hn]; omega
  · rw [List.size_toArray, hn]; exact h
theorem item_refs {k : Int} {u : Tok} {x : Value} (N : News h₀ L s.heap news) (hm : (l, listOf vs.toArray c) ∈ news) (h0 : 0 ≤ k) (hfit : k < 2 ^ 63) (hx : vs[k.toNat]? = some x) (h : Q x s)
    (hs : subscripted slice false (.ref l) (.int k u) = operate [.ref l, .int k u] (getItem (.ref l) (.int k u))) (hg : ∀ r, letTemporaryGo value (.ref l) r = pure ()) :
    wpAny (model prog w) A (subscriptTail value slice (.ref l) (.int k u)) Q E s := item_listL (isListN N hm) h0 hfit hx h hs hg
theorem get_refs {k : Int} {u : Tok} {x : Value} (N : News h₀ L s.heap news) (hm : (l, listOf vs.toArray c) ∈ news) (h0 : 0 ≤ k) (hfit : k < 2 ^ 63) (hx : vs[k.toNat]? = some x) (h : Q x s) :
    wpAny (model prog w) A (getItem (.ref l) (.int k u)) Q E s := wpAny_getItem_list (isListN N hm) h0 hfit (by simpa using hx) h
theorem slice_refs {x y : Int} {tx ty : Tok} (F : Fr h₀ L s.heap m) (N : News h₀ L s.heap news) (hm : (l, listOf vs.toArray c) ∈ news) (hR : RowsIn news vs rows) (hx : 0 ≤ x) (hy : 0 ≤ y) (hz : vs.length ≤ 1000)
    (h : ∀ D zs h', Fr h₀ L h' m → News h₀ L h' ((D, listOf (List.toArray zs) 0) :: news) → (∀ p ∈ news, p.1 < D) → RowsIn news zs ((rows.take y.toNat).drop x.toNat) → Q (.ref D) { s with heap := h' })
    (hs : subscripted slice false (.ref l) (.ref s.heap.objs.size) = operate [.ref s.heap.objs.size, .ref l] (getItem (.ref l) (.ref s.heap.objs.size))) (ht : ∀ r, letTemporaryGo value (.ref l) r = pure ()) :
    wpAny (model prog w) A (subscriptTail value slice (.ref l) (.ref s.heap.objs.size)) Q E { s with heap := s.heap.push { cls := .type "slice", data := .fields #[.int x tx, .int y ty, .none] } } := by
  refine kmk_slice F N (isListN N hm) (IsPart.int _ _) (IsPart.int _ _) (fun D h' F' N' l1 => ?_) hs ht (by rw [List.size_toArray]; exact Nat.le_trans hz (Nat.le_of_ble_eq_true rfl))
  refine h D (slicePick vs.toArray (some x) (some y) none).toList h' F' (by rw [Array.toArray_toList]; exact N') l1 ?_
  obtain ⟨a, rfl⟩ := Int.eq_ofNat_of_zero_le hx
  obtain ⟨b, rfl⟩ := Int.eq_ofNat_of_zero_le hy
  have hm0 : ∀ c : Nat, max (0 : Int) (min (c : Int) (vs.toArray.size : Int)) = ((min c vs.toArray.size : Nat) : Int) := fun c => by
    rw [Int.max_eq_right (Int.le_min.mpr ⟨Int.natCast_nonneg _, Int.natCast_nonneg _⟩)]
    omega
  have e : sliceBounds (some (a : Int)) (some (b : Int)) none vs.toArray.size = (((min (a : Int).toNat vs.toArray.size : Nat) : Int), ((min (b : Int).toNat vs.toArray.size : Nat) : Int), 1) := by
    simp only [sliceBounds, Option.getD_none, show (1 : Int) > 0 by decide, if_true, if_neg (Int.not_lt.mpr hx), if_neg (Int.not_lt.mpr hy), Int.toNat_natCast]
    rw [hm0, hm0]
  rw [kmk_pick_nat _ e]
  show RowsIn _ ((vs.drop (min (a : Int).toNat vs.toArray.size)).take (min (b : Int).toNat vs.toArray.size - min (a : Int).toNat vs.toArray.size)) _
  rw [List.size_toArray, kmk_drop_min, Int.toNat_natCast, Int.toNat_natCast]
  have e2 : (vs.drop a).take (min b vs.length - min a vs.length) = (vs.take b).drop a := by
    rw [List.drop_take]
    apply List.ext_getElem?
    intro i
    simp only [List.getElem?_take, List.getElem?_drop]
    by_cases h1 : i < min b vs.length - min a vs.length
    · rw [if_pos h1, if_pos (by omega)]
    · rw [if_neg h1]
      by_cases h2 : i < b - a
      · rw [if_pos h2, List.getElem?_eq_none (by omega)]
      · rw [if_neg h2]
  rw [e2]
  exact (hR.take _).drop _
theorem rev_refs {tk : Tok} {ops : List Value} (F : Fr h₀ L s.heap m) (N : News h₀ L s.heap news) (hm : (l, listOf vs.toArray c) ∈ news) (hR : RowsIn news vs rows) (hz : vs.length ≤ 1000)
    (h : ∀ D zs h', Fr h₀ L h' m → News h₀ L h' ((D, listOf (List.toArray zs) 0) :: news) → (∀ p ∈ news, p.1 < D) → RowsIn news zs rows.reverse → Q (.ref D) { s with heap := h' })
    (hs : subscripted slice false (.ref l) (.ref s.heap.objs.size) = operate ops (getItem (.ref l) (.ref s.heap.objs.size))) (ht : ∀ r, letTemporaryGo value (.ref l) r = pure ()) :
    wpAny (model prog w) A (subscriptTail value slice (.ref l) (.ref s.heap.objs.size)) Q E { s with heap := s.heap.push { cls := .type "slice", data := .fields #[.none, .none, .int (-1) tk] } } :=
  krv_lit (its := vs.toArray) (zs := vs.reverse) F N (isListN N hm) (IsPart.int _ _) rfl (fun D h' F' N' l1 => h D vs.reverse h' F' N' l1 hR.reverse) hs ht (by rw [List.size_toArray]; exact Nat.le_trans hz (Nat.le_of_ble_eq_true rfl))
end
end Mine
set_option maxRecDepth 100000
namespace Mine
local macro_rules | `(tactic| omega) => `(tactic| first | with_reducible assumption | lia | omega +splitDisjunctions)
abbrev tupO (its : List Value) : Obj := { cls := .type "tuple", data := .seq its.toArray }
/-- pairs of ints, each a tuple of the ledger -/
inductive PairsIn (ts : List (Addr × Obj)) : List Value → List (Int × Int) → Prop
  | nil : PairsIn ts [] []
  | cons {a : Addr} {x y : Int} {t u : Tok} {vs : List Value} {ps : List (Int × Int)} : (a, tupO [.int x t, .int y u]) ∈ ts → PairsIn ts vs ps → PairsIn ts (.ref a :: vs) ((x, y) :: ps)
theorem PairsIn.mono {ts ts' : List (Addr × Obj)} {vs : List Value} {ps : List (Int × Int)} (h : PairsIn ts vs ps) (hs : ∀ p ∈ ts, p ∈ ts') : PairsIn ts' vs ps := by
  induction h with
  | nil => exact .nil
  | cons hm _ ih => exact .cons (hs _ hm) ih
theorem PairsIn.snoc {ts : List (Addr × Obj)} {vs : List Value} {ps : List (Int × Int)} (h : PairsIn ts vs ps) {a : Addr} {x y : Int} {t u : Tok} (hm : (a, tupO [.int x t, .int y u]) ∈ ts) : PairsIn ts (vs ++ [.ref a]) (ps ++ [(x, y)]) := by
  induction h with
  | nil => exact .cons hm .nil
  | cons hm' _ ih => exact .cons hm' ih
theorem PairsIn.length {ts : List (Addr × Obj)} {vs : List Value} {ps : List (Int × Int)} (h : PairsIn ts vs ps) : vs.length = ps.length := by
  induction h with
  | nil => rfl
  | cons _ _ ih => simp [ih]
theorem PairsIn.split {ts : List (Addr × Obj)} {vs : List Value} {ps : List (Int × Int)} {x y : Int} (h : PairsIn ts vs (ps ++ [(x, y)])) : ∃ ws a t u, vs = ws ++ [Value.ref a] ∧ PairsIn ts ws ps ∧ (a, tupO [.int x t, .int y u]) ∈ ts := by
  induction ps generalizing vs with
  | nil =>
    cases h with
    | cons hm r => cases r; exact ⟨[], _, _, _, rfl, .nil, hm⟩
  | cons p ps ih =>
    cases h with
    | cons hm r =>
      obtain ⟨ws, a, t, u, e, h1, h2⟩ := ih r
      exact ⟨_ :: ws, a, t, u, by rw [e]; rfl, .cons hm h1, h2⟩
def pdata (ps : List (Int × Int)) : List PyData := ps.map fun p => .tuple [.int p.1, .int p.2]
theorem pairs_readsAll {h₀ h : Heap} {L : Addr} {news : List (Addr × Obj)} (N : News h₀ L h news) {vs : List Value} {ps : List (Int × Int)} (P : PairsIn news vs ps) : ReadsAll h vs (pdata ps) [] := by
  induction P with
  | nil => exact .nil
  | @cons a x y t u vs ps hm _ ih => exact ReadsAll.cons (as := []) (reads_tuple_at (News.get N hm) rfl rfl (ReadsAll.cons (as := []) (.int x t) (ReadsAll.cons (as := []) (.int y u) .nil))) ih
theorem pairs_reads {h₀ h : Heap} {L l : Addr} {news : List (Addr × Obj)} {c : Nat} (N : News h₀ L h news) {vs : List Value} {ps : List (Int × Int)} (hm : (l, listOf vs.toArray c) ∈ news) (P : PairsIn news vs ps) : Reads h (.ref l) (.list (pdata ps)) [l] :=
  reads_list_at (News.get N hm) rfl rfl (by simpa using pairs_readsAll N P)
theorem pdata_lay : ∀ ps : List (Int × Int), PyData.canLayAll0 (pdata ps) = true
  | [] => rfl
  | p :: r => by
    have := pdata_lay r
    simp only [pdata, List.map_cons] at this ⊢
    simp [PyData.canLayAll0, PyData.canLay0, this]
theorem pdata_depth : ∀ ps : List (Int × Int), PyData.depthAll (pdata ps) ≤ 1
  | [] => by simp [pdata, PyData.depthAll]
  | p :: r => by
    have := pdata_depth r
    simp only [pdata, List.map_cons] at this ⊢
    simp [PyData.depthAll, PyData.depth, this]
theorem pdata_shaped (ps : List (Int × Int)) : SeqAt.shaped (.list (pdata ps)) = true := by
  have := pdata_depth ps
  have h2 : PyData.depthAll (pdata ps) + 1 ≤ 64 := by omega
  simp [SeqAt.shaped, PyData.canLay0, PyData.depth, pdata_lay, h2]
theorem pdata_eqv : ∀ ps qs : List (Int × Int), PyData.eqvAll (pdata ps) (pdata qs) = decide (ps = qs)
  | [], [] => by simp [pdata, PyData.eqvAll]
  | [], _ :: _ => by simp [pdata, PyData.eqvAll]
  | _ :: _, [] => by simp [pdata, PyData.eqvAll]
  | (a, b) :: r, (c, d) :: t => by
    have := pdata_eqv r t
    simp only [pdata, List.map_cons] at this ⊢
    simp only [PyData.eqvAll, PyData.eqv, this]
    by_cases h1 : a = c <;> by_cases h2 : b = d <;> by_cases h3 : r = t <;> simp [h1, h2, h3]
section
variable {prog : Program} {w : World} {A : Around} {E : Value → Shared → Prop} {s : Shared} {h₀ : Heap} {L l l' : Addr} {m : Str → Option Value} {news news' : List (Addr × Obj)} {c c' : Nat} {vs ws : List Value} {ps qs : List (Int × Int)} {Q : Value → Shared → Prop}
theorem ne_pairs (N : News h₀ L s.heap news) (hm : (l, listOf vs.toArray c) ∈ news) (P : PairsIn news vs ps) (hm' : (l', listOf ws.toArray c') ∈ news) (P' : PairsIn news ws qs) (hu : A.units + 64 < cLine)
    (h : Q (.bool (!decide (ps = qs))) s) : wpAny (model prog w) A (compareOp .NotEq (.ref l) (.ref l')) Q E s :=
  ne_dataH (pairs_reads N hm P) (pairs_reads N hm' P') (pdata_shaped _) (pdata_shaped _) hu (by
    have e : PyData.eqv (.list (pdata ps)) (.list (pdata qs)) = decide (ps = qs) := by simp only [PyData.eqv]; exact pdata_eqv ps qs
    rw [e]; exact h)
theorem eq_pairs (N : News h₀ L s.heap news) (hm : (l, listOf vs.toArray c) ∈ news) (P : PairsIn news vs ps) (hm' : (l', listOf ws.toArray c') ∈ news) (P' : PairsIn news ws qs) (hu : A.units + 64 < cLine)
    (h : Q (.bool (decide (ps = qs))) s) : wpAny (model prog w) A (compareOp .Eq (.ref l) (.ref l')) Q E s :=
  eq_dataH (pairs_reads N hm P) (pairs_reads N hm' P') (pdata_shaped _) (pdata_shaped _) hu (by
    have e : PyData.eqv (.list (pdata ps)) (.list (pdata qs)) = decide (ps = qs) := by simp only [PyData.eqv]; exact pdata_eqv ps qs
    rw [e]; exact h)
theorem pop_ref {y : Value} {n : Nat} (F : Fr h₀ L s.heap m) (N : News h₀ L s.heap news) (U : Upd l (listOf (ws ++ [y]).toArray n) (listOf ws.toArray (n + 1)) news news') (hz : ws.length ≤ 100000)
    (h : ∀ h', Fr h₀ L h' m → News h₀ L h' news' → Q y { s with heap := h' }) : wpAny (model prog w) A (call (.builtin "list.pop") [.ref l]) Q E s :=
  kl_pop F N (p := ws) (y := y) (by have := kpa_last y ws; simpa using this) U (by
    simp only [List.length_append, List.length_singleton]
    exact Nat.le_trans (show ws.length + 1 ≤ 100001 by omega) (Nat.le_of_ble_eq_true rfl)) h
end
end Mine
namespace Mine
local macro_rules | `(tactic| omega) => `(tactic| first | with_reducible assumption | lia | omega +splitDisjunctions)
/-- a square's rows on the ledger, in order -/
inductive MatL : List Addr → List (List Int) → List (Addr × Obj) → Prop
  | nil : MatL [] [] []
  | cons {a : Addr} {rvs : List Value} {k : Nat} {row : List Int} {ads : List Addr} {rows : List (List Int)} {ents : List (Addr × Obj)} : IntsAre rvs row → MatL ads rows ents → MatL (a :: ads) (row :: rows) ((a, listOf rvs.toArray k) :: ents)
theorem MatL.fsts {ads : List Addr} {rows : List (List Int)} {ents : List (Addr × Obj)} (h : MatL ads rows ents) : ents.map (·.1) = ads := by
  induction h with
  | nil => rfl
  | cons _ _ ih => simp [ih]
theorem MatL.length {ads : List Addr} {rows : List (List Int)} {ents : List (Addr × Obj)} (h : MatL ads rows ents) : ads.length = rows.length := by
  induction h with
  | nil => rfl
  | cons _ _ ih => simp [ih]
theorem MatL.get {ads : List Addr} {rows : List (List Int)} {ents : List (Addr × Obj)} (h : MatL ads rows ents) : ∀ j, j < rows.length → ∃ D rvs k, ads[j]? = some D ∧ (D, listOf (List.toArray rvs) k) ∈ ents ∧ IntsAre rvs (rows.getD j []) := by
  induction h with
  | nil => intro j hj; simp at hj
  | @cons a rvs k row ads rows ents hi _ ih =>
    intro j hj
    cases j with
    | zero => exact ⟨a, rvs, k, rfl, .head _, by simpa using hi⟩
    | succ j =>
      obtain ⟨D, r', k', h1, h2, h3⟩ := ih j (by simpa using hj)
      exact ⟨D, r', k', by simpa using h1, .tail _ h2, by simpa using h3⟩
theorem MatL.split {ads : List Addr} {rows : List (List Int)} {ents : List (Addr × Obj)} (h : MatL ads rows ents) : ∀ i, i < rows.length → ∃ e1 D rvs k e2, ents = e1 ++ (D, listOf (List.toArray rvs) k) :: e2 ∧ ads[i]? = some D ∧ IntsAre rvs (rows.getD i []) ∧
    (∀ rvs' k' row', IntsAre rvs' row' → MatL ads (rows.set i row') (e1 ++ (D, listOf (List.toArray rvs') k') :: e2)) := by
  induction h with
  | nil => intro j hj; simp at hj
  | @cons a rvs k row ads rows ents hi ht ih =>
    intro i hi'
    cases i with
    | zero => exact ⟨[], a, rvs, k, ents, rfl, rfl, by simpa using hi, fun rvs' k' row' hr => .cons hr ht⟩
    | succ i =>
      obtain ⟨e1, D, r', k', e2, h1, h2, h3, h4⟩ := ih i (by simpa using hi')
      exact ⟨(a, listOf rvs.toArray k) :: e1, D, r', k', e2, by rw [h1]; rfl, by simpa using h2, by simpa using h3, fun rvs' k' row' hr => .cons hi (h4 rvs' k' row' hr)⟩
theorem mat_off {ads : List Addr} {e1 e2 : List (Addr × Obj)} {D : Addr} {o : Obj} (hf : (e1 ++ (D, o) :: e2).map (·.1) = ads) (nd : ads.Nodup) : LCg.Off1 D (e1 ++ e2) := by
  refine off1_of fun p hp e => ?_
  rw [← hf, List.map_append, List.map_cons] at nd
  have h := List.nodup_append.mp nd
  rcases List.mem_append.mp hp with hp | hp
  · exact h.2.2 p.1 (List.mem_map_of_mem hp) D (.head _) e
  · have hq : p.1 ∈ e2.map (·.1) := List.mem_map.mpr ⟨p, hp, rfl⟩
    rw [e] at hq
    exact (List.nodup_cons.mp h.2.1).1 hq
theorem mat_rows {ads : List Addr} {rows : List (List Int)} {ents : List (Addr × Obj)} (h : MatL ads rows ents) : RowsIn ents (ads.map Value.ref) rows := by
  induction h with
  | nil => exact .nil
  | cons hi _ ih => exact .cons (.head _) hi (ih.mono fun p hp => .tail _ hp)
theorem MatL.snoc {ads : List Addr} {rows : List (List Int)} {ents : List (Addr × Obj)} (h : MatL ads rows ents) {a : Addr} {rvs : List Value} {k : Nat} {row : List Int} (hi : IntsAre rvs row) : MatL (ads ++ [a]) (rows ++ [row]) (ents ++ [(a, listOf rvs.toArray k)]) := by
  induction h with
  | nil => exact .cons hi .nil
  | cons hi' _ ih => exact .cons hi' ih
theorem mat_of {news : List (Addr × Obj)} : ∀ (ads : List Addr) (rows : List (List Int)), ads.length = rows.length → (∀ i, i < rows.length → ∃ D rvs k, ads[i]? = some D ∧ (D, listOf (List.toArray rvs) k) ∈ news ∧ IntsAre rvs (rows.getD i [])) → ∃ ents, MatL ads rows ents ∧ ∀ p ∈ ents, p ∈ news
  | [], [], _, _ => ⟨[], .nil, fun p hp => nomatch hp⟩
  | [], _ :: _, h, _ => by simp at h
  | _ :: _, [], h, _ => by simp at h
  | a :: ads, row :: rows, hl, h => by
    obtain ⟨D, rvs, k, h1, h2, h3⟩ := h 0 (by simp)
    have hD : a = D := by simpa using h1
    subst hD
    obtain ⟨ents, hM, hs⟩ := mat_of ads rows (by simpa using hl) (fun i hi => by
      obtain ⟨D, r', k', g1, g2, g3⟩ := h (i + 1) (by simpa using hi)
      exact ⟨D, r', k', by simpa using g1, g2, by simpa using g3⟩)
    refine ⟨(a, listOf rvs.toArray k) :: ents, .cons (by simpa using h3) hM, fun p hp => ?_⟩
    rcases List.mem_cons.mp hp with rfl | hp
    · exact h2
    · exact hs p hp
theorem off3_of {I C D : Addr} {l : List (Addr × Obj)} (h : ∀ p ∈ l, p.1 ≠ I ∧ p.1 ≠ C ∧ p.1 ≠ D) : LCg.Off3 I C D l := LCg.Off3.of h
/-- the elimination's value at a column -/
def elimEnt (row prow : List Int) (lead first ahead : Int) (j : Nat) : Int := (row.getD j 0 * lead - first * prow.getD j 0).fdiv ahead
def elimPart (row prow : List Int) (step : Nat) (lead first ahead : Int) (n c : Nat) : List Int := (List.range n).map fun j => if step < j ∧ j < step + 1 + c then elimEnt row prow lead first ahead j else row.getD j 0
def elimRow (row prow : List Int) (step : Nat) (lead ahead : Int) (n : Nat) : List Int := (List.range n).map fun j => if step < j then elimEnt row prow lead (row.getD step 0) ahead j else if j = step then 0 else row.getD j 0
def elimRows (rows : List (List Int)) (step : Nat) (ahead : Int) (n r : Nat) : List (List Int) := (List.range n).map fun i => if step < i ∧ i < step + 1 + r then elimRow (rows.getD i []) (rows.getD step []) step ((rows.getD step []).getD step 0) ahead n else rows.getD i []
theorem range_map_set {α : Type} (f : Nat → α) (n i : Nat) (x : α) (hi : i < n) : ((List.range n).map f).set i x = (List.range n).map fun j => if j = i then x else f j := by
  apply List.ext_getElem?
  intro j
  rw [List.getElem?_set]
  by_cases hj : j < n
  · by_cases h : i = j
    · subst h; simp [hj]
    · rw [if_neg h]; simp [hj, Ne.symm h]
  · by_cases h : i = j
    · omega
    · rw [if_neg h]; simp [hj]
theorem range_map_getD {α : Type} (f : Nat → α) (n i : Nat) (d : α) (hi : i < n) : ((List.range n).map f).getD i d = f i := by simp [hi]
theorem elimPart_zero (row prow : List Int) (step : Nat) (lead first ahead : Int) (n : Nat) (hl : row.length = n) : elimPart row prow step lead first ahead n 0 = row := by
  apply List.ext_getElem?
  intro j
  by_cases hj : j < n
  · simp only [elimPart, List.getElem?_map, List.getElem?_range hj, Option.map_some]
    rw [if_neg (by omega)]
    simp [hl, hj]
  · rw [List.getElem?_eq_none (by simp [elimPart]; omega), List.getElem?_eq_none (by omega)]
theorem elimPart_succ (row prow : List Int) (step : Nat) (lead first ahead : Int) (n c : Nat) (hc : step + 1 + c < n) : (elimPart row prow step lead first ahead n c).set (step + 1 + c) (elimEnt row prow lead first ahead (step + 1 + c)) = elimPart row prow step lead first ahead n (c + 1) := by
  unfold elimPart
  rw [range_map_set _ _ _ _ hc]
  refine List.map_congr_left fun j _ => ?_
  by_cases h : j = step + 1 + c
  · subst h; rw [if_pos rfl, if_pos (by omega)]
  · rw [if_neg h]
    by_cases h2 : step < j ∧ j < step + 1 + c
    · rw [if_pos h2, if_pos (by omega)]
    · rw [if_neg h2, if_neg (by omega)]
theorem elimPart_getD (row prow : List Int) (step : Nat) (lead first ahead : Int) (n c : Nat) (hc : step + 1 + c < n) : (elimPart row prow step lead first ahead n c).getD (step + 1 + c) 0 = row.getD (step + 1 + c) 0 := by
  unfold elimPart
  rw [range_map_getD _ _ _ _ hc, if_neg (by omega)]
theorem elimPart_last (row prow : List Int) (step : Nat) (lead ahead : Int) (n : Nat) (hs : step < n) : (elimPart row prow step lead (row.getD step 0) ahead n (n - (step + 1))).set step 0 = elimRow row prow step lead ahead n := by
  unfold elimPart elimRow
  rw [range_map_set _ _ _ _ hs]
  refine List.map_congr_left fun j hj => ?_
  have hj' : j < n := by simpa using hj
  by_cases h : j = step
  · subst h; simp
  · rw [if_neg h]
    by_cases h2 : step < j
    · rw [if_pos h2, if_pos (by omega)]
    · rw [if_neg h2, if_neg h, if_neg (by omega)]
theorem elimRows_zero (rows : List (List Int)) (step : Nat) (ahead : Int) (n : Nat) (hl : rows.length = n) : elimRows rows step ahead n 0 = rows := by
  apply List.ext_getElem?
  intro j
  by_cases hj : j < n
  · simp only [elimRows, List.getElem?_map, List.getElem?_range hj, Option.map_some]
    rw [if_neg (by omega)]
    simp [hl, hj]
  · rw [List.getElem?_eq_none (by simp [elimRows]; omega), List.getElem?_eq_none (by omega)]
theorem elimRows_succ (rows : List (List Int)) (step : Nat) (ahead : Int) (n r : Nat) (hr : step + 1 + r < n) : (elimRows rows step ahead n r).set (step + 1 + r) (elimRow (rows.getD (step + 1 + r) []) (rows.getD step []) step ((rows.getD step []).getD step 0) ahead n) = elimRows rows step ahead n (r + 1) := by
  unfold elimRows
  rw [range_map_set _ _ _ _ hr]
  refine List.map_congr_left fun j _ => ?_
  by_cases h : j = step + 1 + r
  · subst h; rw [if_pos rfl, if_pos (by omega)]
  · rw [if_neg h]
    by_cases h2 : step < j ∧ j < step + 1 + r
    · rw [if_pos h2, if_pos (by omega)]
    · rw [if_neg h2, if_neg (by omega)]
theorem elimRows_get (rows : List (List Int)) (step : Nat) (ahead : Int) (n r i : Nat) (hi : i < n) (h : i ≤ step ∨ step + 1 + r ≤ i) : (elimRows rows step ahead n r).getD i [] = rows.getD i [] := by
  unfold elimRows
  rw [range_map_getD _ _ _ _ hi, if_neg (by omega)]
theorem elimRows_len (rows : List (List Int)) (step : Nat) (ahead : Int) (n r : Nat) : (elimRows rows step ahead n r).length = n := by simp [elimRows]
theorem range_small' (a b : Int) (ha : -1000 ≤ a) (ha' : a < 1000) (hb : -1000 ≤ b) (hb' : b < 1000) : Builtin.Range.small a b 1 = true := small_one (by omega) (by omega) (by omega) (by omega)
theorem range_size' (a b : Int) (n : Nat) (h : (b - a).toNat = n) : Builtin.Range.rangeSize a b 1 = (n : Int) := by
  rw [rangeSize_nat, h]
end Mine
namespace Mine
local macro_rules | `(tactic| omega) => `(tactic| first | with_reducible assumption | lia | omega +splitDisjunctions)
def Mx (rows : List (List Int)) (i j : Nat) : Int := (rows.getD i []).getD j 0
/-- the square's number at a place: the lines, 1 behind, -1 below -/
def Tx (ns : List Int) (i j : Nat) : Int := if j = i then ns.getD i 0 else if j = i + 1 then 1 else if i = j + 1 then -1 else 0
def Dk (ns : List Int) (k : Nat) : Int := kont (ns.take k)
theorem kont_snoc2 : ∀ (l : List Int) (x y : Int), kont (l ++ [x, y]) = y * kont (l ++ [x]) + kont l
  | [], x, y => by simp [kont]; rw [Int.mul_comm]
  | [a], x, y => by
    simp only [List.cons_append, List.nil_append, kont]
    grind
  | a :: b :: r, x, y => by
    have h1 := kont_snoc2 (b :: r) x y
    have h2 := kont_snoc2 r x y
    simp only [List.cons_append] at h1 ⊢
    show a * kont (b :: (r ++ [x, y])) + kont (r ++ [x, y]) = y * (a * kont (b :: (r ++ [x])) + kont (r ++ [x])) + (a * kont (b :: r) + kont r)
    rw [h1, h2]
    grind
theorem Dk_zero (ns : List Int) : Dk ns 0 = 1 := rfl
theorem Dk_one (ns : List Int) (h : 0 < ns.length) : Dk ns 1 = ns.getD 0 0 := by
  unfold Dk
  cases ns with
  | nil => simp at h
  | cons a r => simp [kont]
theorem Dk_succ (ns : List Int) (k : Nat) (h : k + 1 < ns.length) : Dk ns (k + 2) = ns.getD (k + 1) 0 * Dk ns (k + 1) + Dk ns k := by
  unfold Dk
  rw [take_succ_getD ns (k + 1) h, take_succ_getD ns k (by omega), List.append_assoc]
  exact kont_snoc2 _ _ _
theorem Dk_bound (ns : List Int) (hb : ∀ i, -6 ≤ ns.getD i 0 ∧ ns.getD i 0 ≤ 6) : ∀ k, k < ns.length → (-(7 : Int) ^ k ≤ Dk ns k ∧ Dk ns k ≤ 7 ^ k) ∧ (-(7 : Int) ^ (k + 1) ≤ Dk ns (k + 1) ∧ Dk ns (k + 1) ≤ 7 ^ (k + 1))
  | 0, h => by
    have := hb 0
    rw [Dk_zero, Dk_one ns h]
    omega
  | k + 1, h => by
    obtain ⟨h1, h2⟩ := Dk_bound ns hb k (by omega)
    refine ⟨h2, ?_⟩
    rw [Dk_succ ns k h]
    have hx := hb (k + 1)
    generalize Dk ns (k + 1) = d at *
    generalize Dk ns k = c at *
    generalize ns.getD (k + 1) 0 = x at *
    have e1 : (7 : Int) ^ (k + 1) = 7 * 7 ^ k := by rw [Int.pow_succ, Int.mul_comm]
    have e2 : (7 : Int) ^ (k + 1 + 1) = 49 * 7 ^ k := by rw [Int.pow_succ, e1]; omega
    rw [e1] at h2
    rw [e2]
    have hp : (0 : Int) ≤ 7 ^ k := Int.pow_nonneg (by decide)
    generalize (7 : Int) ^ k = p at *
    have b1 : x * d ≤ 42 * p := by
      have : x * d ≤ 6 * (7 * p) := by
        by_cases hd : 0 ≤ d
        · calc x * d ≤ 6 * d := Int.mul_le_mul_of_nonneg_right hx.2 hd
            _ ≤ 6 * (7 * p) := Int.mul_le_mul_of_nonneg_left h2.2 (by decide)
        · have : x * d ≤ (-6) * d := Int.mul_le_mul_of_nonpos_right hx.1 (by omega)
          omega
      omega
    have b2 : -(42 * p) ≤ x * d := by
      by_cases hd : 0 ≤ d
      · have : (-6) * d ≤ x * d := Int.mul_le_mul_of_nonneg_right hx.1 hd
        omega
      · have : 6 * d ≤ x * d := Int.mul_le_mul_of_nonpos_right hx.2 (by omega)
        omega
    omega
theorem Mx_elim (rows : List (List Int)) (s n : Nat) (ah : Int) (i j : Nat) (hs : s < n) (hi : i < n) (hj : j < n) :
    Mx (elimRows rows s ah n (n - (s + 1))) i j = if s < i then (if s < j then (Mx rows i j * Mx rows s s - Mx rows i s * Mx rows s j).fdiv ah else if j = s then 0 else Mx rows i j) else Mx rows i j := by
  unfold Mx elimRows
  rw [range_map_getD _ _ _ _ hi]
  by_cases h : s < i
  · rw [if_pos (by omega), if_pos h]
    unfold elimRow
    rw [range_map_getD _ _ _ _ hj]
    rfl
  · rw [if_neg (by omega), if_neg h]
structure TriA (ns : List Int) (n s : Nat) (rows : List (List Int)) (sg ah : Int) : Prop where
  sgn : sg = 1 ∨ sg = -1
  ahd : ah = sg * Dk ns s
  dne : Dk ns s ≠ 0
  row : s < n → ∀ j, s ≤ j → j < n → Mx rows s j = if j = s then sg * Dk ns (s + 1) else if j = s + 1 then sg * Dk ns s else 0
  rest : ∀ i j, s < i → i < n → s ≤ j → j < n → Mx rows i j = sg * Dk ns s * Tx ns i j
structure TriB (ns : List Int) (n s : Nat) (rows : List (List Int)) (sg ah : Int) : Prop where
  sgn : sg = 1 ∨ sg = -1
  ahd : ah = sg * Dk ns (s + 1)
  dz : Dk ns s = 0
  dne : Dk ns (s + 1) ≠ 0
  lt : s < n
  row : ∀ j, s ≤ j → j < n → Mx rows s j = if j = s then sg * Dk ns (s + 1) else 0
  rest : ∀ i j, s < i → i < n → s ≤ j → j < n → Mx rows i j = sg * Dk ns (s + 1) * Tx ns i j
theorem sg_ne {sg d : Int} (h : sg = 1 ∨ sg = -1) (hd : d ≠ 0) : sg * d ≠ 0 := by
  rcases h with rfl | rfl <;> omega
theorem fdiv_of {x y z : Int} (hz : z ≠ 0) (h : x = y * z) : x.fdiv z = y := by rw [h]; exact Int.mul_fdiv_cancel _ hz
theorem tri_A_step {ns : List Int} {n s : Nat} {rows : List (List Int)} {sg ah : Int} (T : TriA ns n s rows sg ah) (hn : ns.length = n) (hs : s < n) (hd : Dk ns (s + 1) ≠ 0) :
    TriA ns n (s + 1) (elimRows rows s ah n (n - (s + 1))) sg (Mx rows s s) := by
  have hss : Mx rows s s = sg * Dk ns (s + 1) := by rw [T.row hs s (Nat.le_refl _) hs, if_pos rfl]
  have hah := sg_ne T.sgn T.dne
  refine ⟨T.sgn, hss, hd, fun hs1 j hj hjn => ?_, fun i j hi hin hj hjn => ?_⟩
  · rw [Mx_elim _ _ _ _ _ _ hs hs1 hjn, if_pos (by omega), if_pos (by omega), T.ahd]
    refine fdiv_of hah ?_
    rw [hss, T.rest (s + 1) j (by omega) hs1 (by omega) hjn, T.rest (s + 1) s (by omega) hs1 (Nat.le_refl _) hs, T.row hs j (by omega) hjn, if_neg (by omega : ¬ j = s)]
    have e1 : Tx ns (s + 1) s = -1 := by unfold Tx; rw [if_neg (by omega), if_neg (by omega), if_pos rfl]
    rw [e1]
    have hk := Dk_succ ns s (by omega)
    by_cases h1 : j = s + 1
    · subst h1
      have e2 : Tx ns (s + 1) (s + 1) = ns.getD (s + 1) 0 := by unfold Tx; rw [if_pos rfl]
      rw [if_pos rfl, if_pos rfl, e2, hk]
      grind
    · rw [if_neg h1, if_neg h1]
      by_cases h2 : j = s + 1 + 1
      · subst h2
        have e2 : Tx ns (s + 1) (s + 1 + 1) = 1 := by unfold Tx; rw [if_neg (by omega), if_pos rfl]
        rw [if_pos rfl, e2]; grind
      · have e2 : Tx ns (s + 1) j = 0 := by unfold Tx; rw [if_neg (by omega), if_neg (by omega), if_neg (by omega)]
        rw [if_neg h2, e2]; grind
  · rw [Mx_elim _ _ _ _ _ _ hs hin hjn, if_pos (by omega), if_pos (by omega), T.ahd]
    refine fdiv_of hah ?_
    rw [hss, T.rest i j (by omega) hin (by omega) hjn, T.rest i s (by omega) hin (Nat.le_refl _) hs]
    have e1 : Tx ns i s = 0 := by unfold Tx; rw [if_neg (by omega), if_neg (by omega), if_neg (by omega)]
    rw [e1]; grind
theorem tri_B_step {ns : List Int} {n s : Nat} {rows : List (List Int)} {sg ah : Int} (T : TriB ns n s rows sg ah) (hn : ns.length = n) :
    TriA ns n (s + 1) (elimRows rows s ah n (n - (s + 1))) sg (Mx rows s s) := by
  have hs := T.lt
  have hss : Mx rows s s = sg * Dk ns (s + 1) := by rw [T.row s (Nat.le_refl _) hs, if_pos rfl]
  have hah := sg_ne T.sgn T.dne
  have key : ∀ i j, s < i → i < n → s < j → j < n → Mx (elimRows rows s ah n (n - (s + 1))) i j = Mx rows i j := fun i j hi hin hj hjn => by
    rw [Mx_elim _ _ _ _ _ _ hs hin hjn, if_pos hi, if_pos hj, T.ahd]
    refine fdiv_of hah ?_
    rw [hss, T.row j (by omega) hjn, if_neg (by omega)]; grind
  refine ⟨T.sgn, hss, T.dne, fun hs1 j hj hjn => ?_, fun i j hi hin hj hjn => ?_⟩
  · rw [key _ _ (by omega) hs1 (by omega) hjn, T.rest (s + 1) j (by omega) hs1 (by omega) hjn]
    have hk := Dk_succ ns s (by omega)
    rw [T.dz] at hk
    by_cases h1 : j = s + 1
    · subst h1
      have e2 : Tx ns (s + 1) (s + 1) = ns.getD (s + 1) 0 := by unfold Tx; rw [if_pos rfl]
      rw [if_pos rfl, e2, hk]; grind
    · rw [if_neg h1]
      by_cases h2 : j = s + 1 + 1
      · subst h2
        have e2 : Tx ns (s + 1) (s + 1 + 1) = 1 := by unfold Tx; rw [if_neg (by omega), if_pos rfl]
        rw [if_pos rfl, e2]; grind
      · have e2 : Tx ns (s + 1) j = 0 := by unfold Tx; rw [if_neg (by omega), if_neg (by omega), if_neg (by omega)]
        rw [if_neg h2, e2]; grind
  · rw [key _ _ (by omega) hin (by omega) hjn, T.rest i j (by omega) hin (by omega) hjn]
theorem tri_A_below {ns : List Int} {n s : Nat} {rows : List (List Int)} {sg ah : Int} (T : TriA ns n s rows sg ah) (i : Nat) (hi : s < i) (hin : i < n) : Mx rows i s = if i = s + 1 then -(sg * Dk ns s) else 0 := by
  rw [T.rest i s hi hin (Nat.le_refl _) (by omega)]
  unfold Tx
  rw [if_neg (by omega), if_neg (by omega)]
  by_cases h : i = s + 1
  · rw [if_pos h, if_pos h]; grind
  · rw [if_neg h, if_neg h]; grind
theorem tri_A_swap {ns : List Int} {n s : Nat} {rows rows' : List (List Int)} {sg ah : Int} (T : TriA ns n s rows sg ah) (hn : ns.length = n) (hs : s + 1 < n) (hz : Dk ns (s + 1) = 0)
    (h1 : ∀ j, Mx rows' s j = Mx rows (s + 1) j) (h2 : ∀ j, Mx rows' (s + 1) j = Mx rows s j) (h3 : ∀ i j, s + 1 < i → i < n → Mx rows' i j = Mx rows i j) :
    TriB ns n (s + 1) (elimRows rows' s ah n (n - (s + 1))) (-sg) (Mx rows' s s) := by
  have hs0 : s < n := by omega
  have hah := sg_ne T.sgn T.dne
  have hk := Dk_succ ns s (by omega)
  rw [hz, Int.mul_zero, Int.zero_add] at hk
  have hss : Mx rows' s s = -(sg * Dk ns s) := by rw [h1, tri_A_below T (s + 1) (by omega) hs, if_pos rfl]
  refine ⟨by rcases T.sgn with h | h <;> omega, by rw [hss, hk]; grind, hz, by rw [hk]; exact T.dne, hs, fun j hj hjn => ?_, fun i j hi hin hj hjn => ?_⟩
  · rw [Mx_elim _ _ _ _ _ _ hs0 hs hjn, if_pos (by omega), if_pos (by omega), T.ahd]
    refine fdiv_of hah ?_
    rw [hss, h2, h2, T.row hs0 s (Nat.le_refl _) hs0, if_pos rfl, hz, T.row hs0 j (by omega) hjn, if_neg (by omega : ¬ j = s), hk]
    by_cases h : j = s + 1
    · rw [if_pos h, if_pos h]; grind
    · rw [if_neg h, if_neg h]; grind
  · rw [Mx_elim _ _ _ _ _ _ hs0 hin hjn, if_pos (by omega), if_pos (by omega), T.ahd]
    refine fdiv_of hah ?_
    rw [hss, h3 i j hi hin, h3 i s hi hin, T.rest i j (by omega) hin (by omega) hjn, tri_A_below T i (by omega) hin, if_neg (by omega), hk]
    grind
theorem Mx_elim_diag (rows : List (List Int)) (s n : Nat) (ah : Int) (hs : s < n) : Mx (elimRows rows s ah n (n - (s + 1))) s s = Mx rows s s := by
  rw [Mx_elim _ _ _ _ _ _ hs hs hs, if_neg (by omega)]
theorem sg_bound {sg d : Int} {b : Int} (h : sg = 1 ∨ sg = -1) (h1 : -b ≤ d) (h2 : d ≤ b) : -b ≤ sg * d ∧ sg * d ≤ b := by
  rcases h with rfl | rfl <;> omega
theorem Tx_bound (ns : List Int) (hb : ∀ i, -6 ≤ ns.getD i 0 ∧ ns.getD i 0 ≤ 6) (i j : Nat) : -6 ≤ Tx ns i j ∧ Tx ns i j ≤ 6 := by
  unfold Tx
  have := hb i
  split
  · exact this
  · split
    · omega
    · split <;> omega
theorem Dk_small (ns : List Int) (hb : ∀ i, -6 ≤ ns.getD i 0 ∧ ns.getD i 0 ≤ 6) (hn : ns.length ≤ 6) (k : Nat) (hk : k ≤ ns.length) : -117649 ≤ Dk ns k ∧ Dk ns k ≤ 117649 := by
  have hp : ∀ k, k ≤ 6 → (7 : Int) ^ k ≤ 117649 := fun k hk => by
    have : k = 0 ∨ k = 1 ∨ k = 2 ∨ k = 3 ∨ k = 4 ∨ k = 5 ∨ k = 6 := by omega
    rcases this with rfl | rfl | rfl | rfl | rfl | rfl | rfl <;> decide
  cases k with
  | zero => rw [Dk_zero]; omega
  | succ k =>
    have h := (Dk_bound ns hb k (by omega)).2
    have := hp (k + 1) (by omega)
    omega
theorem tri_init (ns : List Int) (rows : List (List Int)) (hM : ∀ i j, i < ns.length → j < ns.length → Mx rows i j = Tx ns i j) : TriA ns ns.length 0 rows 1 1 := by
  refine ⟨.inl rfl, by rw [Dk_zero]; rfl, by rw [Dk_zero]; decide, fun hs j _ hj => ?_, fun i j _ hi _ hj => ?_⟩
  · rw [hM 0 j hs hj, Dk_zero, Dk_one ns hs]
    unfold Tx
    by_cases h : j = 0
    · rw [if_pos h, if_pos h, Int.one_mul]
    · rw [if_neg h, if_neg h]
      by_cases h2 : j = 0 + 1
      · rw [if_pos h2, if_pos h2]; rfl
      · rw [if_neg h2, if_neg h2, if_neg (by omega)]
  · rw [hM i j hi hj, Dk_zero]; omega
end Mine
namespace Mine
local macro_rules | `(tactic| omega) => `(tactic| first | with_reducible assumption | lia | omega +splitDisjunctions)
local macro_rules | `(tactic| is_list) => `(tactic| exact isListN (by k_asm) (by k_mem))
local macro_rules | `(tactic| k_mem) => `(tactic| assumption)
local macro_rules | `(tactic| k_all) => `(tactic| exact off1_mem (by assumption))
local macro_rules | `(tactic| walk_at "exec For Tuple Call cons nil") => `(tactic| (k_here; k_dflt (refine' For_turns ?F ?_; (case F => k_asm))))
local macro_rules | `(tactic| walk_at "exec For Name Name cons nil") => `(tactic| (k_here; (rename Fr _ _ _ _ => lF'); (with_unfolding_all refine' For_invVF lF' ?k1 ?k2 ?_; (case k1 => exact rfl); (case k2 => exact rfl); k_whole)))

set_option maxRecDepth 100000 in
set_option maxHeartbeats 8000000 in
theorem ztrim_c {w : World} (la : Addr) (vs : List Value) (as : List Int) (k : Nat) (news : List (Addr × Obj)) (hm : (la, listOf vs.toArray k) ∈ news) (hi : IntsAre vs as) (hla : as.length < 1000) : Con w 67 [.ref la] news 1 (NewIL news (ztrimL as)) := by
  unfold Con
  w_top off
  k_fill
  intro mean mg mb dp un gd cn cs a ccd cl outer A₀ base h₀ L m s Q E B F X N T hk hdp hun hret
  have hvl : vs.length = as.length := hi.length
  refine wpAny_call ?_
  k_dflt ktr_enter
  k_steps
  rename_i l1 kF kN _ _
  have lz := l1.2
  (refine' ret_IL hret ?eF ?eN ?eX ?eS ?eO ?eI; (case eF => assumption); (case eN => assumption); (case eX => k_mem); (case eS => (intro p h; repeat (first | exact h | refine List.mem_cons_of_mem _ ?_))); (case eO => first | assumption | exact off1_of_lt (by assumption) | exact allLt_off (by assumption) | (have o9 := And.right (by assumption); exact allLt_off o9) | (have o9 := And.right (And.right (by assumption)); exact allLt_off o9) | (have o9 := And.right (by assumption); first | exact o9 | exact o9.2 | exact o9.2.2 | exact o9.2.2.2 | exact o9.2.2.2.2)); (case eI => (rw [← ztrim_end (by assumption) (by assumption) (by assumption) (by assumption)]; assumption)))
local macro_rules | `(tactic| walk_at "call ref") => `(tactic| (k_here; (with_reducible show wpAny _ _ (call (Value.ref 67) _) _ _ _); k_dflt (refine' con_use (ztrim_c _ _ _ _ _ ?hm ?hi ?hl) ?k1 ?k2 ?k3 ?k4 ?k5 ?kK ?kd ?ku ?_; (case k1 => k_asm); (case k2 => k_asm); (case k3 => k_asm); (case k4 => k_asm); (case k5 => k_asm); (case kK => first | exact rfl | assumption); (case hm => k_mem); (case hi => with_reducible assumption); (case hl => ((try simp only [List.length_map, rangeKs_length]); first | assumption | omega | (split <;> omega))); (case kd => ktr_room); (case ku => ktr_units); k_whole); intro news' r' h' tk' F' N' hP'; obtain ⟨x', vs', n', hr', hn', o1', hI'⟩ := hP'; subst hr'; subst hn'; (try simp only [LCg.Off1, and_true] at o1'); (try dsimp only); (try k_fold)))
set_option maxRecDepth 100000 in
set_option maxHeartbeats 8000000 in
theorem zadd_c {w : World} (la lb : Addr) (vs ws : List Value) (as bs : List Int) (k k' : Nat) (news : List (Addr × Obj)) (hm : (la, listOf vs.toArray k) ∈ news) (hi : IntsAre vs as) (hm' : (lb, listOf ws.toArray k') ∈ news) (hi' : IntsAre ws bs) (hla : as.length < 1000) (hlb : bs.length < 1000) : Con w 72 [.ref la, .ref lb] news 2 (NewIL news (zaddL as bs)) := by
  unfold Con
  w_top off
  k_fill
  intro mean mg mb dp un gd cn cs a ccd cl outer A₀ base h₀ L m s Q E B F X N T hk hdp hun hret
  have hvl : vs.length = as.length := hi.length
  have hwl : ws.length = bs.length := hi'.length
  refine wpAny_call ?_
  k_dflt (refine' code_defC ?k1 ?k2 ?k3 ?k4 ?k5 ?kA ?kF ?kK ?k6 ?k7 ?k8 ?k9 ?kB ?kD ?_ ?c2 ?c3 ?c4; (case kA => exact rfl); (case kF => exact rfl); (case kK => assumption); (case k1 => k_asm); (case k2 => k_asm); (case k3 => k_asm); (case k4 => k_asm); (case k5 => k_asm); (case k6 => k_is); (case k7 => k_is); (case k8 => ktr_room); (case k9 => exact BindsTo.of_eq rfl); (case kB => exact rfl); (case kD => decide +kernel); (case c2 => exact rfl); (case c3 => exact rfl); (case c4 => exact rfl); k_whole; intro g' L' h' tk' cells' FG' F' N' Y' B' X' T' l1; (try k_lt l1); k_cells Y'; (try simp only [List.cons_append, List.nil_append] at N'); (try dsimp only); (try k_fold))
  k_steps
  (refine' ret_IL hret ?eF ?eN ?eX ?eS ?eO ?eI; (case eF => assumption); (case eN => assumption); (case eX => k_mem); (case eS => (intro p h; repeat (first | exact h | refine List.mem_cons_of_mem _ ?_))); (case eO => first | assumption | exact off1_of_lt (by assumption) | exact allLt_off (by assumption) | (have o9 := And.right (by assumption); exact allLt_off o9) | (have o9 := And.right (And.right (by assumption)); exact allLt_off o9) | (have o9 := And.right (by assumption); first | exact o9 | exact o9.2 | exact o9.2.2 | exact o9.2.2.2 | exact o9.2.2.2.2)); (case eI => (rw [← zadd_end]; assumption)))
end Mine
namespace Mine
local macro_rules | `(tactic| omega) => `(tactic| first | with_reducible assumption | lia | omega +splitDisjunctions)
local macro_rules | `(tactic| walk_at "mine pad") => `(tactic| skip)
local macro_rules | `(tactic| walk_at "mine pad") => `(tactic| skip)
local macro_rules | `(tactic| is_list) => `(tactic| exact isListN (by k_asm) (by k_mem))
local macro_rules | `(tactic| k_mem) => `(tactic| assumption)
local macro_rules | `(tactic| k_all) => `(tactic| exact off1_mem (by assumption))
local macro_rules | `(tactic| walk_at "exec For Tuple Call cons nil") => `(tactic| (k_here; k_dflt (refine' For_turns ?F ?_; (case F => k_asm))))
local macro_rules | `(tactic| walk_at "exec For Name Name cons nil") => `(tactic| (k_here; (rename Fr _ _ _ _ => lF'); (with_unfolding_all refine' For_invVF lF' ?k1 ?k2 ?_; (case k1 => exact rfl); (case k2 => exact rfl); k_whole)))
set_option maxRecDepth 100000 in
set_option maxHeartbeats 8000000 in
theorem zneg_c {w : World} (la : Addr) (vs : List Value) (as : List Int) (k : Nat) (news : List (Addr × Obj)) (hm : (la, listOf vs.toArray k) ∈ news) (hi : IntsAre vs as) (hla : as.length < 1000) : Con w 77 [.ref la] news 1 (NewIL news (znegL as)) := by
  unfold Con
  w_top off
  k_fill
  intro mean mg mb dp un gd cn cs a ccd cl outer A₀ base h₀ L m s Q E B F X N T hk hdp hun hret
  have hvl : vs.length = as.length := hi.length
  refine wpAny_call ?_
  k_dflt ktr_enter
  iterate 3 walk1
  k_here
  k_dflt (refine LCg.ListComp_U (cl := []) (F₀ := by k_asm) (by rfl) (by decide) (by rfl) (by decide) (by rfl) ?_)
  walk1
  refine LCg.CompSrc.ledger rfl (by k_asm) (by k_asm) hm (by rw [List.size_toArray]; exact Nat.le_trans (by omega) (Nat.le_of_ble_eq_true rfl : 1000 ≤ sizeLine)) ?_
  intro g'
  refine comp_J (n := vs.length) (fun i ys news' => news' = news ∧ IntsAre ys (znegL (as.take i))) ?turn ?fin _ _ _ _ (by simp) ⟨rfl, .nil⟩
  case turn =>
    rintro i ys _ v I oI C oC D m₂ h₁ tk₁ E' hi' hv ⟨rfl, hI⟩ hC hx F₁ N₁ off ne
    have hv' : vs[i]? = some v := by simpa using hv
    obtain ⟨tv, rfl, hil⟩ := ints_get hi hv'
    k_steps
    refine LCg.CompEnd.intro (by assumption) (by assumption) _ (fun p hp => hp) (by assumption) (srcAt_of hm) ⟨rfl, ?_⟩
    rw [List.take_add_one]
    simp only [List.getElem?_eq_getElem hil, znegL, List.map_append, Option.toList, List.map_cons, List.map_nil]
    have e : as.getD i 0 = as[i] := by simp [hil]
    rw [e]
    exact intsAre_snoc hI _ _
  case fin =>
    rintro ys _ ⟨rfl, hI⟩
    rw [hvl, List.take_length] at hI
    k_steps
    (refine' ret_IL hret ?eF ?eN ?eX ?eS ?eO ?eI; (case eF => assumption); (case eN => assumption); (case eX => k_mem); (case eS => (intro p h; repeat (first | exact h | refine List.mem_cons_of_mem _ ?_))); (case eO => first | assumption | exact off1_of_lt (by assumption) | exact allLt_off (by assumption) | (have o9 := And.right (by assumption); exact allLt_off o9) | (have o9 := And.right (And.right (by assumption)); exact allLt_off o9) | (have o9 := And.right (by assumption); first | exact o9 | exact o9.2 | exact o9.2.2 | exact o9.2.2.2 | exact o9.2.2.2.2)); (case eI => assumption))
set_option maxRecDepth 100000 in
set_option maxHeartbeats 8000000 in
theorem zscale_c {w : World} (la : Addr) (vs : List Value) (as : List Int) (k : Nat) (news : List (Addr × Obj)) (hm : (la, listOf vs.toArray k) ∈ news) (hi : IntsAre vs as) (hla : as.length < 1000) (c : Int) (tc : Tok) (hc1 : -9 ≤ c) (hc2 : c ≤ 9) : Con w 89 [.ref la, .int c tc] news 1 (NewIL news (zscaleL as c)) := by
  unfold Con
  w_top off
  k_fill
  intro mean mg mb dp un gd cn cs a ccd cl outer A₀ base h₀ L m s Q E B F X N T hk hdp hun hret
  have hvl : vs.length = as.length := hi.length
  refine wpAny_call ?_
  k_dflt (refine' code_defC ?k1 ?k2 ?k3 ?k4 ?k5 ?kA ?kF ?kK ?k6 ?k7 ?k8 ?k9 ?kB ?kD ?_ ?c2 ?c3 ?c4; (case kA => exact rfl); (case kF => exact rfl); (case kK => assumption); (case k1 => k_asm); (case k2 => k_asm); (case k3 => k_asm); (case k4 => k_asm); (case k5 => k_asm); (case k6 => k_is); (case k7 => k_is); (case k8 => ktr_room); (case k9 => exact BindsTo.of_eq rfl); (case kB => exact rfl); (case kD => decide +kernel); (case c2 => exact rfl); (case c3 => exact rfl); (case c4 => exact rfl); k_whole; intro g' L' h' tk' cells' FG' F' N' Y' B' X' T' l1; (try k_lt l1); k_cells Y'; (try simp only [List.cons_append, List.nil_append] at N'); (try dsimp only); (try k_fold))
  k_steps
  · (refine' ret_IL hret ?eF ?eN ?eX ?eS ?eO ?eI; (case eF => assumption); (case eN => assumption); (case eX => k_mem); (case eS => (intro p h; repeat (first | exact h | refine List.mem_cons_of_mem _ ?_))); (case eO => first | assumption | exact off1_of_lt (by assumption) | exact allLt_off (by assumption) | (have o9 := And.right (by assumption); exact allLt_off o9) | (have o9 := And.right (And.right (by assumption)); exact allLt_off o9) | (have o9 := And.right (by assumption); first | exact o9 | exact o9.2 | exact o9.2.2 | exact o9.2.2.2 | exact o9.2.2.2.2)); (case eI => (rw [zscaleL, if_pos (by assumption)]; assumption)))
  · (refine' ret_IL hret ?eF ?eN ?eX ?eS ?eO ?eI; (case eF => assumption); (case eN => assumption); (case eX => k_mem); (case eS => (intro p h; repeat (first | exact h | refine List.mem_cons_of_mem _ ?_))); (case eO => first | assumption | exact off1_of_lt (by assumption) | exact allLt_off (by assumption) | (have o9 := And.right (by assumption); exact allLt_off o9) | (have o9 := And.right (And.right (by assumption)); exact allLt_off o9) | (have o9 := And.right (by assumption); first | exact o9 | exact o9.2 | exact o9.2.2 | exact o9.2.2.2 | exact o9.2.2.2.2)); (case eI => (have e : c = 0 := (by assumption); subst e; exact .nil)))
end Mine
namespace Mine
local macro_rules | `(tactic| omega) => `(tactic| first | with_reducible assumption | lia | omega +splitDisjunctions)
local macro_rules | `(tactic| is_list) => `(tactic| exact isListN (by k_asm) (by k_mem))
local macro_rules | `(tactic| k_mem) => `(tactic| assumption)
local macro_rules | `(tactic| k_all) => `(tactic| exact off1_mem (by assumption))
local macro_rules | `(tactic| walk_at "exec For Tuple Call cons nil") => `(tactic| (k_here; k_dflt (refine' For_turns ?F ?_; (case F => k_asm))))
local macro_rules | `(tactic| walk_at "exec For Name Name cons nil") => `(tactic| (k_here; (rename Fr _ _ _ _ => lF'); (with_unfolding_all refine' For_invVF lF' ?k1 ?k2 ?_; (case k1 => exact rfl); (case k2 => exact rfl); k_whole)))
set_option maxRecDepth 100000 in
set_option maxHeartbeats 8000000 in
theorem zat_c {w : World} (la : Addr) (vs : List Value) (as : List Int) (k : Nat) (news : List (Addr × Obj)) (hm : (la, listOf vs.toArray k) ∈ news) (hi : IntsAre vs as) (hla : as.length < 1000) (c : Int) (tc : Tok) (hc1 : -9 ≤ c) (hc2 : c ≤ 9) : Con w 103 [.ref la, .int c tc] news 1 (fun news' r => news' = news ∧ ∃ t, r = .int (zatL as c) t) := by
  unfold Con
  w_top off
  k_fill
  intro mean mg mb dp un gd cn cs a ccd cl outer A₀ base h₀ L m s Q E B F X N T hk hdp hun hret
  have hvl : vs.length = as.length := hi.length
  refine wpAny_call ?_
  k_dflt ktr_enter
  k_steps
  rename_i D _ FX NX lX
  with_unfolding_all refine' iter_revJ (vs := vs) (c := k) ?hh FX NX ?hD hm (fun i m₁ news₁ => news₁ = news ∧ ∃ t, Has m₁ [(Str.ofString "n", .int c tc), (Str.ofString "found", .int (zatL (as.drop (as.length - i)) c) t)]) (fun i m₁ news₁ h => h.1 ▸ hm) ?h0 ?turn ?done
  case hh => exact rfl
  case hD => exact off1_of_lt lX
  case h0 =>
    refine ⟨rfl, ?t, has_cons rfl (has_cons ?h has_nil)⟩
    case h =>
      rw [Nat.sub_zero, List.drop_length]
      exact rfl
  case turn =>
    rintro i v m₁ news₁ h₁ tk₁ oI hi' hv ⟨rfl, t, H⟩ ho F₁ N₁
    rw [hvl] at hv
    obtain ⟨tv, rfl, hil⟩ := ints_get hi hv
    rw [map_has H] at F₁
    k_steps
    refine JEnd.intro (by assumption) (by assumption) (.head _) (fun p hp => .tail _ hp) ho ⟨rfl, ?t2, has_cons rfl (has_cons ?h has_nil)⟩
    case h => rw [zat_step as c i (by omega)]; exact rfl
  case done =>
    rintro h₁ tk₁ m₁ news₁ ⟨rfl, t, H⟩ F₁ N₁
    rw [hvl, Nat.sub_self, List.drop_zero] at H
    rw [map_has H] at F₁
    k_steps
    exact hret _ _ _ _ (by assumption) (by assumption) ⟨rfl, _, rfl⟩
end Mine
namespace Mine
local macro_rules | `(tactic| omega) => `(tactic| first | with_reducible assumption | lia | omega +splitDisjunctions)
local macro_rules | `(tactic| walk_at "mine pad") => `(tactic| skip)
local macro_rules | `(tactic| is_list) => `(tactic| exact isListN (by k_asm) (by k_mem))
local macro_rules | `(tactic| k_mem) => `(tactic| assumption)
local macro_rules | `(tactic| k_all) => `(tactic| exact off1_mem (by assumption))
local macro_rules | `(tactic| walk_at "exec For Tuple Call cons nil") => `(tactic| (k_here; k_dflt (refine' For_turns ?F ?_; (case F => k_asm))))
local macro_rules | `(tactic| walk_at "exec For Name Name cons nil") => `(tactic| (k_here; (rename Fr _ _ _ _ => lF'); (with_unfolding_all refine' For_invVF lF' ?k1 ?k2 ?_; (case k1 => exact rfl); (case k2 => exact rfl); k_whole)))
theorem flat_zero (n : Nat) : (List.replicate n [(0 : Int)]).flatten = List.replicate n 0 := by
  induction n with
  | zero => rfl
  | succ n ih => rw [List.replicate_succ, List.flatten_cons, ih]; rfl
def MulJ (fa lb : Addr) (n : Nat) (as bs : List Int) (news : List (Addr × Obj)) (i : Nat) (m₁ : Str → Option Value) (news₁ : List (Addr × Obj)) : Prop :=
  ∃ fvs c, news₁ = (fa, listOf (List.toArray fvs) c) :: news ∧ IntsAre fvs (mulRows (List.replicate n 0) 0 (as.take i) bs) ∧
    Has m₁ [(Str.ofString "b", .ref lb), (Str.ofString "found", .ref fa)]

def MulI (fa lb : Addr) (base : List Int) (x : Int) (t tv : Tok) (bs : List Int) (I : Addr) (oE oI : Obj) (news : List (Addr × Obj)) (i : Nat) (j : Nat) (m₁ : Str → Option Value) (news₁ : List (Addr × Obj)) : Prop :=
  ∃ fvs c, news₁ = (I + 1, oE) :: (I, oI) :: (fa, listOf (List.toArray fvs) c) :: news ∧ IntsAre fvs (addRow base i x (bs.take j)) ∧
    Has m₁ [(Str.ofString "b", .ref lb), (Str.ofString "found", .ref fa), (Str.ofString "one", .int (i : Int) t), (Str.ofString "left", .int x tv)]

set_option maxRecDepth 100000 in
set_option maxHeartbeats 8000000 in
theorem zmul_c {w : World} (la : Addr) (vs : List Value) (as : List Int) (k : Nat) (news : List (Addr × Obj)) (hm : (la, listOf vs.toArray k) ∈ news) (hi : IntsAre vs as) (hla : as.length < 1000)
    (lb : Addr) (ws : List Value) (bs : List Int) (k2 : Nat) (hm2 : (lb, listOf ws.toArray k2) ∈ news) (hi2 : IntsAre ws bs) (hlb : bs.length < 1000) (hbd : ∀ x ∈ as, -4611686018427387904 ≤ x ∧ x ≤ 4611686018427387904) : Con w 96 [.ref la, .ref lb] news 1 (NewIL news (zmulL as bs)) := by
  unfold Con
  w_top off
  k_fill
  intro mean mg mb dp un gd cn cs a ccd cl outer A₀ base h₀ L m s Q E B F X N T hk hdp hun hret
  have hvl : vs.length = as.length := hi.length
  have hwl : ws.length = bs.length := hi2.length
  refine wpAny_call ?_
  k_dflt ktr_enter
  k_steps
  · have ha0 : as = [] := List.eq_nil_of_length_eq_zero (by omega)
    have e0 : zmulL as bs = [] := by simp [zmulL, ha0]
    (refine' ret_IL hret ?eF ?eN ?eX ?eS ?eO ?eI; (case eF => assumption); (case eN => assumption); (case eX => k_mem); (case eS => (intro p h; repeat (first | exact h | refine List.mem_cons_of_mem _ ?_))); (case eO => first | assumption | exact off1_of_lt (by assumption) | exact allLt_off (by assumption) | (have o9 := And.right (by assumption); exact allLt_off o9) | (have o9 := And.right (And.right (by assumption)); exact allLt_off o9) | (have o9 := And.right (by assumption); first | exact o9 | exact o9.2 | exact o9.2.2 | exact o9.2.2.2 | exact o9.2.2.2.2)); (case eI => (rw [e0]; exact .nil)))
  · have hb0 : bs = [] := List.eq_nil_of_length_eq_zero (by omega)
    have e0 : zmulL as bs = [] := by simp [zmulL, hb0]
    (refine' ret_IL hret ?eF ?eN ?eX ?eS ?eO ?eI; (case eF => assumption); (case eN => assumption); (case eX => k_mem); (case eS => (intro p h; repeat (first | exact h | refine List.mem_cons_of_mem _ ?_))); (case eO => first | assumption | exact off1_of_lt (by assumption) | exact allLt_off (by assumption) | (have o9 := And.right (by assumption); exact allLt_off o9) | (have o9 := And.right (And.right (by assumption)); exact allLt_off o9) | (have o9 := And.right (by assumption); first | exact o9 | exact o9.2 | exact o9.2.2 | exact o9.2.2.2 | exact o9.2.2.2.2)); (case eI => (rw [e0]; exact .nil)))
  rename Fr _ _ _ _ => FX
  rename News _ _ _ _ => NX0
  have NX := news_1 NX0
  obtain ⟨fa, efa⟩ := name_1 NX
  subst efa
  clear NX0
  have hofa : LCg.Off1 fa news := allLt_off (And.right (by assumption))
  rename IntsAre _ (List.flatten _) => i1
  rw [flat_zero] at i1
  have en : ((as.length : Int) + bs.length - 1).toNat = as.length + bs.length - 1 := by omega
  rw [en] at i1 NX
  have hz : as ≠ [] := fun e => by simp [e] at *
  have hz2 : bs ≠ [] := fun e => by simp [e] at *
  have hlz := And.intro hz hz2
  with_unfolding_all refine' enumJ (vs := vs) (c := k) ?hh ?hF ?hN ?hm (MulJ fa lb (as.length + bs.length - 1) as bs news) ?hkeep ?h0 ?turn ?done
  case hh => exact rfl
  case hF => exact FX
  case hN => exact NX
  case hm => exact .tail _ hm
  case hkeep => rintro i m₁ _ ⟨fvs, c, rfl, _⟩; exact .tail _ hm
  case h0 => exact ⟨_, _, rfl, i1, has_cons rfl (has_cons rfl has_nil)⟩
  case turn =>
    rintro I oE oI i v m₁ news₁ T t h₁ tk₁ hI hil' hv ⟨fvs, c, rfl, hf, H⟩ hT F₁ N₁ o1 o2
    clear NX FX
    obtain ⟨tv, rfl, hil⟩ := ints_get hi hv
    rw [map_has H] at F₁
    have gx := hbd (as.getD i 0) (by simp [hil])
    have hfl := hf.length
    rw [mulRows_len, List.length_replicate] at hfl
    k_steps
    · rename Fr _ _ _ _ => FX
      rename News _ _ _ _ => NX
      with_unfolding_all refine' enumJ (vs := ws) (c := k2) ?hh2 ?hF2 ?hN2 ?hm2 (MulI fa lb (mulRows (List.replicate (as.length + bs.length - 1) 0) 0 (as.take i) bs) (as.getD i 0) t tv bs I oE oI news i) ?hkeep2 ?h02 ?turn2 ?done2
      case hh2 => exact rfl
      case hF2 => exact FX
      case hN2 => exact NX
      case hm2 => exact .tail _ (.tail _ (.tail _ hm2))
      case hkeep2 => rintro j m₂ _ ⟨fvs', c', rfl, _⟩; exact .tail _ (.tail _ (.tail _ hm2))
      case h02 => exact ⟨_, _, rfl, hf, has_cons rfl (has_cons rfl (has_cons rfl (has_cons rfl has_nil)))⟩
      case turn2 =>
        rintro I₂ oE₂ oI₂ j v₂ m₂ news₂ T₂ t₂ h₂ tk₂ hI₂ hjl hv₂ ⟨fvs', c', rfl, hf', H'⟩ hT₂ F₂ N₂ o3 o4
        obtain ⟨tv₂, rfl, hjl'⟩ := ints_get hi2 hv₂
        have hfl' := hf'.length
        rw [addRow_len, mulRows_len, List.length_replicate] at hfl'
        clear NX FX
        have o3' := o3
        have o4' := o4
        have o1' := o1
        have o2' := o2
        simp only [LCg.Off1] at o1' o2' o3' o4'
        rw [map_has H'] at F₂
        k_steps
        rename Fr _ _ _ _ => Fz
        rename News _ _ _ _ => Nz
        rename IntsAre _ _ => Iz
        have ej : ((i : Int) + (j : Int)).toNat = i + j := by omega
        rw [ej] at Nz Iz
        refine EEnd.intro Fz Nz (.head _) (.tail _ (.head _)) (fun p hp => .tail _ (.tail _ hp)) o3 o4 ⟨_, _, rfl, ?_, has_cons rfl (has_cons rfl (has_cons rfl (has_cons rfl has_nil)))⟩
        rw [take_succ_getD bs j hjl', addRow_snoc, List.length_take, Nat.min_eq_left (Nat.le_of_lt hjl')]
        exact Iz
      case done2 =>
        rintro h₂ tk₂ m₂ news₂ ⟨fvs', c', rfl, hf', H'⟩ F₂ N₂
        clear NX FX
        rw [map_has H'] at F₂
        rw [hwl, List.take_length] at hf'
        k_steps
        rename Fr _ _ _ _ => Fz
        rename News _ _ _ _ => Nz
        refine EEnd.intro Fz Nz (.head _) (.tail _ (.head _)) (fun p hp => .tail _ (.tail _ hp)) o1 o2 ⟨_, _, rfl, ?_, has_cons rfl (has_cons rfl has_nil)⟩
        rw [take_succ_getD as i hil, mulRows_snoc, if_pos (by assumption), List.length_take, Nat.min_eq_left (Nat.le_of_lt hil), Nat.zero_add]
        exact hf'
    · refine EEnd.intro (by assumption) (by assumption) (.head _) (.tail _ (.head _)) (fun p hp => .tail _ (.tail _ hp)) o1 o2 ⟨_, _, rfl, ?_, has_cons rfl (has_cons rfl has_nil)⟩
      have ex : as.getD i 0 = 0 := by omega
      rw [take_succ_getD as i hil, mulRows_snoc, if_neg (fun h => h ex)]
      exact hf
  case done =>
    rintro h₁ tk₁ m₁ news₁ ⟨fvs, c, rfl, hf, H⟩ F₁ N₁
    clear NX FX
    rw [map_has H] at F₁
    rw [hvl, List.take_length] at hf
    have ez : zmulL as bs = mulRows (List.replicate (as.length + bs.length - 1) 0) 0 as bs := by simp [zmulL, hz, hz2]
    k_steps
    (refine' ret_IL hret ?eF ?eN ?eX ?eS ?eO ?eI; (case eF => assumption); (case eN => assumption); (case eX => k_mem); (case eS => (intro p h; repeat (first | exact h | refine List.mem_cons_of_mem _ ?_))); (case eO => first | assumption | exact off1_of_lt (by assumption) | exact allLt_off (by assumption) | (have o9 := And.right (by assumption); exact allLt_off o9) | (have o9 := And.right (And.right (by assumption)); exact allLt_off o9) | (have o9 := And.right (by assumption); first | exact o9 | exact o9.2 | exact o9.2.2 | exact o9.2.2.2 | exact o9.2.2.2.2)); (case eI => (rw [ez]; assumption)))
end Mine
namespace Mine
local macro_rules | `(tactic| omega) => `(tactic| first | with_reducible assumption | lia | omega +splitDisjunctions)
local macro_rules | `(tactic| is_list) => `(tactic| exact isListN (by k_asm) (by k_mem))
local macro_rules | `(tactic| k_mem) => `(tactic| assumption)
local macro_rules | `(tactic| k_all) => `(tactic| exact off1_mem (by assumption))
local macro_rules | `(tactic| walk_at "exec For Tuple Call cons nil") => `(tactic| (k_here; k_dflt (refine' For_turns ?F ?_; (case F => k_asm))))
local macro_rules | `(tactic| walk_at "exec For Name Name cons nil") => `(tactic| (k_here; (rename Fr _ _ _ _ => lF'); (with_unfolding_all refine' For_invVF lF' ?k1 ?k2 ?_; (case k1 => exact rfl); (case k2 => exact rfl); k_whole)))
def JoinJ (rows : List (List Int)) (news : List (Addr × Obj)) (i : Nat) (m₁ : Str → Option Value) (news₁ : List (Addr × Obj)) : Prop :=
  ∃ A H avs hvs c1 c2, news₁ = (H, listOf (List.toArray hvs) c2) :: (A, listOf (List.toArray avs) c1) :: news ∧ LCg.Off1 H news ∧ LCg.Off1 A news ∧ IntsAre avs (joinS (rows.take i)).1 ∧ IntsAre hvs (joinS (rows.take i)).2 ∧
    Has m₁ [(Str.ofString "ahead", .ref A), (Str.ofString "here", .ref H)]
theorem join_start {h₀ h : Heap} {L D A H : Addr} {oD oH oA : Obj} {news : List (Addr × Obj)} (N : News h₀ L h ((D, oD) :: (H, oH) :: (A, oA) :: news)) : News h₀ L h ((H, oH) :: (A, oA) :: news) := fun p hp => N p (.tail _ hp)

theorem join_turn {rows : List (List Int)} {g h : Heap} {L D x x1 I H A : Addr} {oD o1 oI oA : Obj} {hvs zvs : List Value} {c2 n i tk : Nat} {news : List (Addr × Obj)} {m' : Str → Option Value} {s₁ : Shared}
    (F : Fr g L h m') (N : News g L h ((D, oD) :: (x, listOf zvs.toArray n) :: (x1, o1) :: (I, oI) :: (H, listOf hvs.toArray c2) :: (A, oA) :: news)) (hi : i < rows.length)
    (hH : IntsAre hvs (joinS (rows.take i)).2) (hZ : IntsAre zvs (zaddL (zmulL (rows.getD i []) (joinS (rows.take i)).2) (joinS (rows.take i)).1)) (ho1 : LCg.Off1 H news) {X Y : Prop}
    (ho : H ≠ I ∧ X ∧ LCg.Off1 I news) (hx : x1 ≠ x ∧ I ≠ x ∧ H ≠ x ∧ Y ∧ LCg.Off1 x news)
    (e1 : m' (Str.ofString "ahead") = some (.ref H)) (e2 : m' (Str.ofString "here") = some (.ref x)) :
    JEnd g L (JoinJ rows news (i + 1)) I oI s₁ { s₁ with heap := h, toks := tk } := by
  refine JEnd.intro F N (.tail _ (.tail _ (.tail _ (.head _)))) (news' := (x, listOf zvs.toArray n) :: (H, listOf hvs.toArray c2) :: news) (fun p hp => ?_) ⟨Ne.symm hx.2.1, ho.1, ho.2.2⟩ ?_
  · simp only [List.mem_cons] at hp ⊢
    rcases hp with h | h | h
    · exact .inr (.inl h)
    · exact .inr (.inr (.inr (.inr (.inl h))))
    · exact .inr (.inr (.inr (.inr (.inr (.inr h)))))
  · refine ⟨H, x, hvs, zvs, c2, n, rfl, hx.2.2.2.2, ho1, ?_, ?_, has_cons e1 (has_cons e2 has_nil)⟩
    · rw [takeD_succ rows i hi, joinS_snoc]; exact hH
    · rw [takeD_succ rows i hi, joinS_snoc]; exact hZ
set_option maxRecDepth 100000 in
set_option maxHeartbeats 8000000 in
theorem joined_c {w : World} (la : Addr) (vs : List Value) (rows : List (List Int)) (k : Nat) (news : List (Addr × Obj)) (hm : (la, listOf vs.toArray k) ∈ news) (hR : RowsIn news vs rows) (hrl : rows.length < 100) (hr2 : ∀ r ∈ rows, r.length ≤ 2 ∧ ∀ x ∈ r, -9 ≤ x ∧ x ≤ 9) :
    Con w 124 [.ref la] news 3 (NewIL news (joinedL rows)) := by
  unfold Con
  w_top off
  k_fill
  intro mean mg mb dp un gd cn cs a ccd cl outer A₀ base h₀ L m s Q E B F X N T hk hdp hun hret
  have hvl : vs.length = rows.length := hR.length
  refine wpAny_call ?_
  k_dflt ktr_enter
  k_steps
  rename Fr _ _ _ _ => FX
  rename News _ _ _ _ => NX0
  have NX := join_start NX0
  with_unfolding_all refine' iter_listJ (vs := vs) (c := k) ?hh FX NX ?hm (JoinJ rows news) ?hkeep ?h0 ?turn ?done
  case hh => exact rfl
  case hm => exact .tail _ (.tail _ hm)
  case hkeep => rintro i m₁ _ ⟨A, H, avs, hvs, c1, c2, rfl, _⟩; exact .tail _ (.tail _ hm)
  case h0 =>
    refine' ⟨_, _, [], [_], _, _, rfl, ?_, ?_, .nil, .cons 1 _ .nil, has_cons rfl (has_cons rfl has_nil)⟩
    · exact allLt_off (And.right (by assumption))
    · exact off1_of_lt (by assumption)
  case turn =>
    rintro I i v m₁ news₁ h₁ tk₁ oI hi' hv ⟨A, H, avs, hvs, c1, c2, rfl, ho1, ho2, hA, hH, Hs⟩ ho F₁ N₁
    obtain ⟨ra, rvs, rn, rfl, hra, hrI, hil⟩ := hR.get hv
    clear NX NX0 FX
    rw [map_has Hs] at F₁
    have hrow := hr2 (rows.getD i []) (by simp [hil])
    have hrb : ∀ x ∈ rows.getD i [], -4611686018427387904 ≤ x ∧ x ≤ 4611686018427387904 := fun x hx => by have := hrow.2 x hx; omega
    have hlen := joinS_len i (rows.take i) (by rw [List.length_take]; omega) (fun r hr => (hr2 r (List.mem_of_mem_take hr)).1)
    have hzm := zmulL_len (rows.getD i []) (joinS (rows.take i)).2
    simp only [LCg.Off1] at ho
    iterate 19 walk1
    k_here
    k_dflt (refine' con_use (zmul_c _ _ _ _ _ ?hmzm ?hizm ?hlzm _ _ _ _ ?hnzm ?hjzm ?hkzm ?hbzm) ?k1zm ?k2zm ?k3zm ?k4zm ?k5zm ?kKzm ?kdzm ?kuzm ?_)
    (case k1zm => k_asm)
    (case k2zm => k_asm)
    (case k3zm => k_asm)
    (case k4zm => k_asm)
    (case k5zm => k_asm)
    (case kKzm => first | exact rfl | assumption)
    (case hmzm => k_mem)
    (case hizm => with_reducible assumption)
    (case hnzm => k_mem)
    (case hjzm => with_reducible assumption)
    (case hlzm => first | assumption | omega | l_fit)
    (case hkzm => first | assumption | omega | l_fit)
    (case hbzm => assumption)
    (case kdzm => ktr_room)
    (case kuzm => ktr_units)
    k_whole
    rintro news' r' h' tk' F' N' ⟨zm, vzm, nzm, rfl, rfl, ozm, izm⟩
    (try simp only [LCg.Off1, and_true] at ozm)
    (try dsimp only)
    (try k_fold)
    (try k_sweep)
    iterate 4 walk1
    k_here
    k_dflt (refine' con_use (zadd_c _ _ _ _ _ _ _ _ _ ?hmza ?hiza ?hnza ?hjza ?hlza ?hkza) ?k1za ?k2za ?k3za ?k4za ?k5za ?kKza ?kdza ?kuza ?_)
    (case k1za => k_asm)
    (case k2za => k_asm)
    (case k3za => k_asm)
    (case k4za => k_asm)
    (case k5za => k_asm)
    (case kKza => first | exact rfl | assumption)
    (case hmza => k_mem)
    (case hiza => with_reducible assumption)
    (case hnza => k_mem)
    (case hjza => with_reducible assumption)
    (case hlza => first | assumption | omega | l_fit)
    (case hkza => first | assumption | omega | l_fit)
    (case kdza => ktr_room)
    (case kuza => ktr_units)
    k_whole
    rintro news' r' h' tk' F' N' ⟨za, vza, nza, rfl, rfl, oza, iza⟩
    (try simp only [LCg.Off1, and_true] at oza)
    (try dsimp only)
    (try k_fold)
    (try k_sweep)
    k_steps
    rename Fr _ _ _ _ => Fz
    rename News _ _ _ _ => Nz
    exact join_turn Fz Nz hil hH (by assumption) ho1 ho (by assumption) rfl rfl
  case done =>
    rintro h₁ tk₁ m₁ news₁ ⟨A, H, avs, hvs, c1, c2, rfl, ho1, ho2, hA, hH, Hs⟩ F₁ N₁
    clear NX NX0 FX
    rw [map_has Hs] at F₁
    rw [hvl, List.take_length] at hH
    k_steps
    (refine' ret_IL hret ?eF ?eN ?eX ?eS ?eO ?eI; (case eF => assumption); (case eN => assumption); (case eX => k_mem); (case eS => (intro p h; repeat (first | exact h | refine List.mem_cons_of_mem _ ?_))); (case eO => first | assumption | exact off1_of_lt (by assumption) | exact allLt_off (by assumption) | (have o9 := And.right (by assumption); exact allLt_off o9) | (have o9 := And.right (And.right (by assumption)); exact allLt_off o9) | (have o9 := And.right (by assumption); first | exact o9 | exact o9.2 | exact o9.2.2 | exact o9.2.2.2 | exact o9.2.2.2.2)); (case eI => assumption))
end Mine
namespace Mine
local macro_rules | `(tactic| omega) => `(tactic| first | with_reducible assumption | lia | omega +splitDisjunctions)
local macro_rules | `(tactic| walk_at "mine pad") => `(tactic| skip)
local macro_rules | `(tactic| is_list) => `(tactic| exact isListN (by k_asm) (by k_mem))
local macro_rules | `(tactic| k_mem) => `(tactic| assumption)
local macro_rules | `(tactic| k_all) => `(tactic| exact off1_mem (by assumption))
local macro_rules | `(tactic| walk_at "exec For Tuple Call cons nil") => `(tactic| (k_here; k_dflt (refine' For_turns ?F ?_; (case F => k_asm))))
local macro_rules | `(tactic| walk_at "exec For Name Name cons nil") => `(tactic| (k_here; (rename Fr _ _ _ _ => lF'); (with_unfolding_all refine' For_invVF lF' ?k1 ?k2 ?_; (case k1 => exact rfl); (case k2 => exact rfl); k_whole)))
set_option maxRecDepth 100000 in
set_option maxHeartbeats 8000000 in
theorem zsub_c {w : World} (la lb : Addr) (vs ws : List Value) (as bs : List Int) (k k' : Nat) (news : List (Addr × Obj)) (hm : (la, listOf vs.toArray k) ∈ news) (hi : IntsAre vs as) (hm' : (lb, listOf ws.toArray k') ∈ news) (hi' : IntsAre ws bs) (hla : as.length < 1000) (hlb : bs.length < 1000) : Con w 84 [.ref la, .ref lb] news 3 (NewIL news (zsubL as bs)) := by
  unfold Con
  w_top off
  k_fill
  intro mean mg mb dp un gd cn cs a ccd cl outer A₀ base h₀ L m s Q E B F X N T hk hdp hun hret
  have hnl := znegL_len bs
  refine wpAny_call ?_
  k_dflt ktr_enter
  iterate 16 walk1
  k_here
  k_dflt (refine' con_use (zneg_c _ _ _ _ _ ?hmng ?hing ?hlng) ?k1ng ?k2ng ?k3ng ?k4ng ?k5ng ?kKng ?kdng ?kung ?_)
  (case k1ng => k_asm)
  (case k2ng => k_asm)
  (case k3ng => k_asm)
  (case k4ng => k_asm)
  (case k5ng => k_asm)
  (case kKng => first | exact rfl | assumption)
  (case hmng => k_mem)
  (case hing => with_reducible assumption)
  (case hlng => first | assumption | omega | l_fit)
  (case kdng => ktr_room)
  (case kung => ktr_units)
  k_whole
  rintro news' r' h' tk' F' N' ⟨ng, vng, nng, rfl, rfl, ong, ing⟩
  (try simp only [LCg.Off1, and_true] at ong)
  (try dsimp only)
  (try k_fold)
  (try k_sweep)
  iterate 2 walk1
  k_here
  k_dflt (refine' con_use (zadd_c _ _ _ _ _ _ _ _ _ ?hmad ?hiad ?hnad ?hjad ?hlad ?hkad) ?k1ad ?k2ad ?k3ad ?k4ad ?k5ad ?kKad ?kdad ?kuad ?_)
  (case k1ad => k_asm)
  (case k2ad => k_asm)
  (case k3ad => k_asm)
  (case k4ad => k_asm)
  (case k5ad => k_asm)
  (case kKad => first | exact rfl | assumption)
  (case hmad => k_mem)
  (case hiad => with_reducible assumption)
  (case hnad => k_mem)
  (case hjad => with_reducible assumption)
  (case hlad => first | assumption | omega | l_fit)
  (case hkad => first | assumption | omega | l_fit)
  (case kdad => ktr_room)
  (case kuad => ktr_units)
  k_whole
  rintro news' r' h' tk' F' N' ⟨ad, vad, nad, rfl, rfl, oad, iad⟩
  (try simp only [LCg.Off1, and_true] at oad)
  (try dsimp only)
  (try k_fold)
  (try k_sweep)
  k_steps
  (refine' ret_IL hret ?eF ?eN ?eX ?eS ?eO ?eI; (case eF => assumption); (case eN => assumption); (case eX => k_mem); (case eS => (intro p h; repeat (first | exact h | refine List.mem_cons_of_mem _ ?_))); (case eO => first | assumption | exact off1_of_lt (by assumption) | exact allLt_off (by assumption) | (have o9 := And.right (by assumption); exact allLt_off o9) | (have o9 := And.right (And.right (by assumption)); exact allLt_off o9) | (have o9 := And.right (by assumption); first | exact o9 | exact o9.2 | exact o9.2.2 | exact o9.2.2.2 | exact o9.2.2.2.2)); (case eI => (rw [zsubL]; assumption)))
end Mine
namespace Mine
local macro_rules | `(tactic| omega) => `(tactic| first | with_reducible assumption | lia | omega +splitDisjunctions)
local macro_rules | `(tactic| is_list) => `(tactic| exact isListN (by k_asm) (by k_mem))
local macro_rules | `(tactic| k_mem) => `(tactic| assumption)
local macro_rules | `(tactic| k_all) => `(tactic| exact off1_mem (by assumption))
local macro_rules | `(tactic| walk_at "exec For Tuple Call cons nil") => `(tactic| (k_here; k_dflt (refine' For_turns ?F ?_; (case F => k_asm))))
local macro_rules | `(tactic| walk_at "exec For Name Name cons nil") => `(tactic| (k_here; (rename Fr _ _ _ _ => lF'); (with_unfolding_all refine' For_invVF lF' ?k1 ?k2 ?_; (case k1 => exact rfl); (case k2 => exact rfl); k_whole)))
local macro_rules | `(tactic| walk_at "call builtin:len") => `(tactic| (k_here; (with_reducible show wpAny _ _ (call (Value.builtin "len") [Value.ref _]) _ _ _); k_dflt (refine' len_refs ?N ?m ?n ?e ?f ?_; (case N => k_asm); (case m => k_mem); (case e => first | with_reducible assumption | exact RowsIn.length (by assumption)); (case f => omega); k_whole)))
local macro_rules | `(tactic| walk_at "subscriptTail") => `(tactic| (k_here; (with_reducible show wpAny _ _ (subscriptTail _ _ (Value.ref _) (Value.int _ _)) _ _ _); k_dflt (refine' item_refs ?N ?m ?a ?b ?x ?_ ?s ?t; (case N => k_asm); (case m => k_mem); (case x => with_reducible assumption); (case a => omega); (case b => omega); (case s => with_unfolding_all rfl); (case t => kmk_pure); k_whole)))
local macro_rules | `(tactic| walk_at "getItem ref int") => `(tactic| (k_here; (with_reducible show wpAny _ _ (getItem (Value.ref _) (Value.int _ _)) _ _ _); k_dflt (refine' get_refs ?N ?m ?a ?b ?x ?_; (case N => k_asm); (case m => k_mem); (case x => with_reducible assumption); (case a => omega); (case b => omega); k_whole)))
local macro_rules | `(tactic| walk_at "subscriptTail Name Slice ref ref") => `(tactic| (k_here; (with_reducible show wpAny _ _ (subscriptTail _ (PySem.Expr.Slice (some _) (some _) none _) (Value.ref _) (Value.ref _)) _ _ _); k_dflt (refine' slice_refs ?F ?N ?m ?R ?a ?b ?z ?_ ?s ?t; (case F => k_asm); (case N => k_asm); (case m => k_mem); (case R => first | assumption | exact RowsIn.mono (by assumption) (by intro p h; repeat (first | exact h | refine List.mem_cons_of_mem _ ?_))); (case a => omega); (case b => omega); (case z => omega); (case s => with_unfolding_all rfl); (case t => kmk_pure)); intro D' zs' h' F' N' l1 hR'; (try k_lt l1); (try k_sweep)))
local macro_rules | `(tactic| walk_at "subscriptTail Name Slice ref ref") => `(tactic| (k_here; (with_reducible show wpAny _ _ (subscriptTail _ (PySem.Expr.Slice none none (some _) _) (Value.ref _) (Value.ref _)) _ _ _); k_dflt (refine' rev_refs ?F ?N ?m ?R ?z ?_ ?s ?t; (case F => k_asm); (case N => k_asm); (case m => k_mem); (case R => first | assumption | exact RowsIn.mono (by assumption) (by intro p h; repeat (first | exact h | refine List.mem_cons_of_mem _ ?_))); (case z => omega); (case s => with_unfolding_all rfl); (case t => kmk_pure)); intro D' zs' h' F' N' l1 hR'; (try k_lt l1); (try k_sweep)))
local macro_rules | `(tactic| walk_at "exec For Name Call cons nil") => `(tactic| (k_here; (rename Fr _ _ _ _ => lF'); (with_unfolding_all refine' For_invVF lF' ?k1 ?k2 ?_; (case k1 => exact rfl); (case k2 => exact rfl); k_whole)))
local macro_rules | `(tactic| walk_at "call ref") => `(tactic| (k_here; (with_reducible show wpAny _ _ (call (Value.ref 124) _) _ _ _); k_dflt (refine' con_use (joined_c _ _ _ _ _ ?hm ?hR ?hl ?h2) ?k1 ?k2 ?k3 ?k4 ?k5 ?kK ?kd ?ku ?_; (case k1 => k_asm); (case k2 => k_asm); (case k3 => k_asm); (case k4 => k_asm); (case k5 => k_asm); (case kK => first | exact rfl | assumption); (case hm => k_mem); (case hR => first | assumption | exact RowsIn.mono (by assumption) (by intro p h; repeat (first | exact h | refine List.mem_cons_of_mem _ ?_))); (case hl => first | assumption | omega | l_fit); (case h2 => assumption); (case kd => ktr_room); (case ku => ktr_units); k_whole); intro news' r' h' tk' F' N' hP'; obtain ⟨x', vs', n', hr', hn', o1', hI'⟩ := hP'; subst hr'; subst hn'; (try simp only [LCg.Off1, and_true] at o1'); (try dsimp only); (try k_fold)))
set_option maxRecDepth 100000 in
set_option maxHeartbeats 8000000 in
theorem part_c {w : World} (la : Addr) (vs : List Value) (rows : List (List Int)) (k : Nat) (news : List (Addr × Obj)) (hm : (la, listOf vs.toArray k) ∈ news) (hR : RowsIn news vs rows) (hrl : rows.length < 100) (hr2 : ∀ r ∈ rows, r.length ≤ 2 ∧ ∀ x ∈ r, -9 ≤ x ∧ x ≤ 9)
    (low high : Int) (tl th : Tok) (h1 : 1 ≤ low) (h2 : low ≤ 100) (h3 : -9 ≤ high) (h4 : high ≤ 100) :
    Con w 131 [.ref la, .int low tl, .int high th] news 4 (NewIL news (partL rows low high)) := by
  unfold Con
  w_top off
  k_fill
  intro mean mg mb dp un gd cn cs a ccd cl outer A₀ base h₀ L m s Q E B F X N T hk hdp hun hret
  have hvl : vs.length = rows.length := hR.length
  have hq : ∀ r ∈ (rows.take high.toNat).drop (low - 1).toNat, r.length ≤ 2 ∧ ∀ x ∈ r, -9 ≤ x ∧ x ≤ 9 := fun r hr => hr2 r (List.mem_of_mem_take (List.mem_of_mem_drop hr))
  have hql : ((rows.take high.toNat).drop (low - 1).toNat).length < 100 := Nat.lt_of_le_of_lt (sub_len _ _ _) hrl
  refine wpAny_call ?_
  k_dflt ktr_enter
  k_steps
  · (refine' ret_IL hret ?eF ?eN ?eX ?eS ?eO ?eI; (case eF => assumption); (case eN => assumption); (case eX => k_mem); (case eS => (intro p h; repeat (first | exact h | refine List.mem_cons_of_mem _ ?_))); (case eO => first | assumption | exact off1_of_lt (by assumption) | exact allLt_off (by assumption) | (have o9 := And.right (by assumption); exact allLt_off o9) | (have o9 := And.right (And.right (by assumption)); exact allLt_off o9) | (have o9 := And.right (by assumption); first | exact o9 | exact o9.2 | exact o9.2.2 | exact o9.2.2.2 | exact o9.2.2.2.2)); (case eI => (rw [partL, if_pos (by assumption)]; assumption)))
  · (refine' ret_IL hret ?eF ?eN ?eX ?eS ?eO ?eI; (case eF => assumption); (case eN => assumption); (case eX => k_mem); (case eS => (intro p h; repeat (first | exact h | refine List.mem_cons_of_mem _ ?_))); (case eO => first | assumption | exact off1_of_lt (by assumption) | exact allLt_off (by assumption) | (have o9 := And.right (by assumption); exact allLt_off o9) | (have o9 := And.right (And.right (by assumption)); exact allLt_off o9) | (have o9 := And.right (by assumption); first | exact o9 | exact o9.2 | exact o9.2.2 | exact o9.2.2.2 | exact o9.2.2.2.2)); (case eI => (rw [partL, if_neg (by assumption)]; exact .nil)))
end Mine
namespace Mine
local macro_rules | `(tactic| omega) => `(tactic| first | with_reducible assumption | lia | omega +splitDisjunctions)
local macro_rules | `(tactic| is_list) => `(tactic| exact isListN (by k_asm) (by k_mem))
local macro_rules | `(tactic| k_mem) => `(tactic| assumption)
local macro_rules | `(tactic| k_all) => `(tactic| exact off1_mem (by assumption))
local macro_rules | `(tactic| walk_at "exec For Tuple Call cons nil") => `(tactic| (k_here; k_dflt (refine' For_turns ?F ?_; (case F => k_asm))))
local macro_rules | `(tactic| walk_at "exec For Name Name cons nil") => `(tactic| (k_here; (rename Fr _ _ _ _ => lF'); (with_unfolding_all refine' For_invVF lF' ?k1 ?k2 ?_; (case k1 => exact rfl); (case k2 => exact rfl); k_whole)))
theorem fmod_range (a b : Int) (hb : 1 ≤ b) : 0 ≤ a.fmod b ∧ a.fmod b < b := by
  rw [Int.fmod_eq_emod_of_nonneg a (by omega)]
  exact ⟨Int.emod_nonneg _ (by omega), Int.emod_lt_of_pos _ (by omega)⟩
set_option maxRecDepth 100000 in
set_option maxHeartbeats 8000000 in
theorem draw_c {w : World} (pa p0 : Addr) (pvs : List Value) (ps : List Int) (k k0 : Nat) (post : List (Addr × Obj)) (hm0 : (p0, listOf pvs.toArray k0) ∈ post) (hpi : IntsAre pvs ps) (hpl : ps.length ≤ 16) (sp : Int) (ts : Tok) (hs0 : 0 ≤ sp) (hs1 : sp ≤ 1000) (many : Int) (tm : Tok) (hmn : 1 ≤ many) (hmx : many ≤ 1000) (ho2 : LCg.Off1 pa post) :
    Con w 110 [.ref pa, .int many tm] ((pa, listOf #[.ref p0, .int sp ts] k) :: post) 1 (fun news' r => ∃ x t t', r = .int x t ∧ 0 ≤ x ∧ x < many ∧ news' = (pa, listOf #[.ref p0, .int (sp + 1) t'] k) :: post) := by
  unfold Con
  w_top off
  k_fill
  intro mean mg mb dp un gd cn cs a ccd cl outer A₀ base h₀ L m s Q E B F X N T hk hdp hun hret
  refine wpAny_call ?_
  k_dflt ktr_enter
  k_steps
  · refine hret _ _ _ _ (by assumption) (by assumption) ⟨_, _, _, rfl, (fmod_range _ _ hmn).1, (fmod_range _ _ hmn).2, rfl⟩
  · rename Fr _ _ _ _ => Fz
    rename News _ _ _ _ => Nz
    refine hret _ _ _ _ Fz (fun p hp => Nz p (.tail _ hp)) ⟨_, _, _, rfl, (fmod_range _ _ hmn).1, (fmod_range _ _ hmn).2, rfl⟩
end Mine
namespace Mine
local macro_rules | `(tactic| omega) => `(tactic| first | with_reducible assumption | lia | omega +splitDisjunctions)
local macro_rules | `(tactic| walk_at "mine pad") => `(tactic| skip)
local macro_rules | `(tactic| is_list) => `(tactic| exact isListN (by k_asm) (by k_mem))
local macro_rules | `(tactic| k_mem) => `(tactic| assumption)
local macro_rules | `(tactic| k_all) => `(tactic| exact off1_mem (by assumption))
local macro_rules | `(tactic| walk_at "exec For Tuple Call cons nil") => `(tactic| (k_here; k_dflt (refine' For_turns ?F ?_; (case F => k_asm))))
local macro_rules | `(tactic| walk_at "exec For Name Name cons nil") => `(tactic| (k_here; (rename Fr _ _ _ _ => lF'); (with_unfolding_all refine' For_invVF lF' ?k1 ?k2 ?_; (case k1 => exact rfl); (case k2 => exact rfl); k_whole)))
set_option maxRecDepth 100000 in
set_option maxHeartbeats 8000000 in
theorem line_c {w : World} (c d : Int) (tc td : Tok) (news : List (Addr × Obj)) : Con w 117 [.int c tc, .int d td] news 2 (NewIL news (lineL c d)) := by
  unfold Con
  w_top off
  k_fill
  intro mean mg mb dp un gd cn cs a ccd cl outer A₀ base h₀ L m s Q E B F X N T hk hdp hun hret
  refine wpAny_call ?_
  k_dflt ktr_enter
  k_steps
  · (refine' ret_IL hret ?eF ?eN ?eX ?eS ?eO ?eI; (case eF => assumption); (case eN => assumption); (case eX => k_mem); (case eS => (intro p h; repeat (first | exact h | refine List.mem_cons_of_mem _ ?_))); (case eO => first | assumption | exact off1_of_lt (by assumption) | exact allLt_off (by assumption) | (have o9 := And.right (by assumption); exact allLt_off o9) | (have o9 := And.right (And.right (by assumption)); exact allLt_off o9) | (have o9 := And.right (by assumption); first | exact o9 | exact o9.2 | exact o9.2.2 | exact o9.2.2.2 | exact o9.2.2.2.2)); (case eI => (rw [show lineL c d = [c, d] from by rename d ≠ 0 => h1; simp [lineL, h1]]; exact .cons _ _ (.cons _ _ .nil))))
  · (refine' ret_IL hret ?eF ?eN ?eX ?eS ?eO ?eI; (case eF => assumption); (case eN => assumption); (case eX => k_mem); (case eS => (intro p h; repeat (first | exact h | refine List.mem_cons_of_mem _ ?_))); (case eO => first | assumption | exact off1_of_lt (by assumption) | exact allLt_off (by assumption) | (have o9 := And.right (by assumption); exact allLt_off o9) | (have o9 := And.right (And.right (by assumption)); exact allLt_off o9) | (have o9 := And.right (by assumption); first | exact o9 | exact o9.2 | exact o9.2.2 | exact o9.2.2.2 | exact o9.2.2.2.2)); (case eI => (rw [show lineL c d = [c] from by rename d = 0 => h1; rename c ≠ 0 => h2; simp [lineL, h1, h2]]; exact .cons _ _ .nil)))
  · (refine' ret_IL hret ?eF ?eN ?eX ?eS ?eO ?eI; (case eF => assumption); (case eN => assumption); (case eX => k_mem); (case eS => (intro p h; repeat (first | exact h | refine List.mem_cons_of_mem _ ?_))); (case eO => first | assumption | exact off1_of_lt (by assumption) | exact allLt_off (by assumption) | (have o9 := And.right (by assumption); exact allLt_off o9) | (have o9 := And.right (And.right (by assumption)); exact allLt_off o9) | (have o9 := And.right (by assumption); first | exact o9 | exact o9.2 | exact o9.2.2 | exact o9.2.2.2 | exact o9.2.2.2.2)); (case eI => (rw [show lineL c d = [] from by rename d = 0 => h1; rename c = 0 => h2; simp [lineL, h1, h2]]; exact .nil)))
end Mine
namespace Mine
local macro_rules | `(tactic| omega) => `(tactic| first | with_reducible assumption | lia | omega +splitDisjunctions)
local macro_rules | `(tactic| is_list) => `(tactic| exact isListN (by k_asm) (by k_mem))
local macro_rules | `(tactic| k_mem) => `(tactic| assumption)
local macro_rules | `(tactic| k_all) => `(tactic| exact off1_mem (by assumption))
local macro_rules | `(tactic| walk_at "exec For Tuple Call cons nil") => `(tactic| (k_here; k_dflt (refine' For_turns ?F ?_; (case F => k_asm))))
local macro_rules | `(tactic| walk_at "exec For Name Name cons nil") => `(tactic| (k_here; (rename Fr _ _ _ _ => lF'); (with_unfolding_all refine' For_invVF lF' ?k1 ?k2 ?_; (case k1 => exact rfl); (case k2 => exact rfl); k_whole)))
def ConvJ (as : List Int) (news : List (Addr × Obj)) (i : Nat) (m₁ : Str → Option Value) (news₁ : List (Addr × Obj)) : Prop :=
  ∃ l fvs c ts A1 A2 t1 t2 t3 t4, news₁ = (l, listOf (List.toArray fvs) c) :: (ts ++ news) ∧ LCg.Off1 l (ts ++ news) ∧ PairsIn ts fvs ((List.range i).map (convP as)) ∧
      (A1, tupO [.int (convS ((as.take i).reverse)).1.1 t1, .int (convS ((as.take i).reverse)).1.2 t2]) ∈ ts ∧ (A2, tupO [.int (convS ((as.take i).reverse)).2.1 t3, .int (convS ((as.take i).reverse)).2.2 t4]) ∈ ts ∧ fvs.length = i ∧
      Has m₁ [(Str.ofString "found", .ref l), (Str.ofString "one", .ref A1), (Str.ofString "other", .ref A2)]
theorem conv_turn {as : List Int} {g h : Heap} {L D T I l A1 : Addr} {oD oI : Obj} {p q : Int} {tp tq t1 t2 : Tok} {fvs : List Value} {c i tk : Nat} {ts news : List (Addr × Obj)} {m' : Str → Option Value} {s₁ : Shared}
    (F : Fr g L h m') (N : News g L h ((D, oD) :: (T, tupO [.int p tp, .int q tq]) :: (I, oI) :: (l, listOf (fvs.toArray.push (.ref T)) (c + 1)) :: (ts ++ news)))
    (hi : i < as.length) (hoff : LCg.Off1 l (ts ++ news)) (hP : PairsIn ts fvs ((List.range i).map (convP as))) (hA1 : (A1, tupO [.int (convS ((as.take i).reverse)).1.1 t1, .int (convS ((as.take i).reverse)).1.2 t2]) ∈ ts) (hfl : fvs.length = i)
    (hp : p = as.getD i 0 * (convS ((as.take i).reverse)).1.1 + (convS ((as.take i).reverse)).2.1) (hq : q = as.getD i 0 * (convS ((as.take i).reverse)).1.2 + (convS ((as.take i).reverse)).2.2)
    (o1 : l ≠ I) (o2 : LCg.Off1 I (ts ++ news)) {X : Prop} (o34 : I < T ∧ l < T ∧ X)
    (e1 : m' (Str.ofString "found") = some (.ref l)) (e2 : m' (Str.ofString "one") = some (.ref T)) (e3 : m' (Str.ofString "other") = some (.ref A1)) :
    JEnd g L (ConvJ as news (i + 1)) I oI s₁ { s₁ with heap := h, toks := tk } := by
  rw [List.push_toArray] at N
  refine JEnd.intro F N (.tail _ (.tail _ (.head _))) (news' := (l, listOf (fvs ++ [Value.ref T]).toArray (c + 1)) :: (((T, tupO [.int p tp, .int q tq]) :: ts) ++ news)) (fun x hx => ?_) ?_ ?_
  · simp only [List.cons_append, List.mem_cons] at hx ⊢
    rcases hx with h | h | h
    · exact .inr (.inr (.inr (.inl h)))
    · exact .inr (.inl h)
    · exact .inr (.inr (.inr (.inr h)))
  · exact ⟨o1, (Nat.ne_of_gt o34.1), o2⟩
  · refine ⟨l, fvs ++ [Value.ref T], c + 1, (T, tupO [.int p tp, .int q tq]) :: ts, T, A1, tp, tq, t1, t2, rfl, ⟨Nat.ne_of_gt o34.2.1, hoff⟩, ?_, ?_, ?_, by simp [hfl], has_cons e1 (has_cons e2 (has_cons e3 has_nil))⟩
    · rw [List.range_succ, List.map_append]
      have hc : convP as i = (p, q) := by unfold convP; rw [convS_snoc as i hi, hp, hq]
      show PairsIn _ _ (_ ++ [convP as i])
      rw [hc]
      exact PairsIn.snoc (hP.mono fun x hx => .tail _ hx) (.head _)
    · rw [convS_snoc as i hi, hp, hq]; exact .head _
    · rw [convS_snoc as i hi]; exact .tail _ hA1
theorem conv_start {h₀ h : Heap} {L D A2 A1 l : Addr} {o1 oA2 oA1 ol : Obj} {news : List (Addr × Obj)} (N : News h₀ L h ((D,o1)::(A2,oA2)::(A1,oA1)::(l,ol)::news)) : News h₀ L h ((l,ol)::([(A2,oA2),(A1,oA1)] ++ news)) := fun p hp => N p (by
  simp only [List.cons_append, List.nil_append, List.mem_cons] at hp ⊢
  rcases hp with h | h | h | h
  · exact .inr (.inr (.inr (.inl h)))
  · exact .inr (.inl h)
  · exact .inr (.inr (.inl h))
  · exact .inr (.inr (.inr (.inr h))))
set_option maxRecDepth 100000 in
set_option maxHeartbeats 8000000 in
theorem conv_c {w : World} (la : Addr) (vs : List Value) (as : List Int) (k : Nat) (news : List (Addr × Obj)) (hm : (la, listOf vs.toArray k) ∈ news) (hi : IntsAre vs as) (hla : as.length < 1000) (h1 : ∀ x ∈ as, 1 ≤ x ∧ x ≤ 1000) :
    Con w 21 [.ref la] news 1 (fun news' r => ∃ l fvs c ts, r = .ref l ∧ news' = (l, listOf fvs.toArray c) :: (ts ++ news) ∧ PairsIn ts fvs ((List.range as.length).map (convP as))) := by
  unfold Con
  w_top off
  k_fill
  intro mean mg mb dp un gd cn cs a ccd cl outer A₀ base h₀ L m s Q E B F X N T hk hdp hun hret
  have hvl : vs.length = as.length := hi.length
  refine wpAny_call ?_
  k_dflt ktr_enter
  k_steps
  rename Fr _ _ _ _ => FX
  rename News _ _ _ _ => NX0
  have NX := conv_start NX0
  with_unfolding_all refine' iter_listJ (vs := vs) (c := k) ?hh FX NX ?hm (ConvJ as news) ?hkeep ?h0 ?turn ?done
  case hh => exact rfl
  case hm => exact .tail _ (.tail _ (.tail _ hm))
  case hkeep => rintro i m₁ _ ⟨l, fvs, c, ts, A1, A2, t1, t2, t3, t4, rfl, _⟩; exact .tail _ (List.mem_append_right _ hm)
  case h0 =>
    refine' ⟨_, [], 0, _, _, _, _, _, _, _, rfl, ?_, .nil, .tail _ (.head _), .head _, rfl, has_cons rfl (has_cons rfl (has_cons rfl has_nil))⟩
    exact ⟨by omega, by omega, off1_of_lt (by assumption)⟩
  case turn =>
    rintro I i v m₁ news₁ h₁ tk₁ oI hi' hv ⟨l, fvs, c, ts, A1, A2, t1, t2, t3, t4, rfl, hoff, hP, hA1, hA2, hfl, H⟩ ho F₁ N₁
    clear NX NX0 FX
    obtain ⟨tv, rfl, hil⟩ := ints_get (show IntsAre vs as by assumption) hv
    obtain ⟨g1, g2, g3, g4⟩ := convS_nonneg ((as.take i).reverse) (fun x hx => by have := h1 x (List.mem_of_mem_take (List.mem_reverse.mp hx)); omega)
    have gx := h1 (as.getD i 0) (by simp [hil])
    rw [map_has H] at F₁
    have hA1' := List.mem_append_left news hA1
    have hA2' := List.mem_append_left news hA2
    have gq : 0 ≤ as.getD i 0 * (convS ((as.take i).reverse)).1.2 + (convS ((as.take i).reverse)).2.2 := Int.add_nonneg (Int.mul_nonneg (by omega) g2) g4
    have hfl' : fvs.length < 1000 := by omega
    obtain ⟨ho1, ho2⟩ := ho
    k_steps
    exact conv_turn (by assumption) (by assumption) hil hoff hP hA1 hfl rfl rfl ho1 ho2 (by assumption) rfl rfl rfl
  case done =>
    rintro h₁ tk₁ m₁ news₁ ⟨l, fvs, c, ts, A1, A2, t1, t2, t3, t4, rfl, hoff, hP, hA1, hA2, hfl, H⟩ F₁ N₁
    clear NX NX0 FX
    rw [map_has H] at F₁
    rw [hvl] at hP
    k_steps
    exact hret _ _ _ _ (by assumption) (by assumption) ⟨l, fvs, c, ts, rfl, rfl, hP⟩
end Mine
namespace Mine
local macro_rules | `(tactic| omega) => `(tactic| first | with_reducible assumption | lia | omega +splitDisjunctions)
local macro_rules | `(tactic| is_list) => `(tactic| exact isListN (by k_asm) (by k_mem))
local macro_rules | `(tactic| k_mem) => `(tactic| assumption)
local macro_rules | `(tactic| k_all) => `(tactic| exact off1_mem (by assumption))
local macro_rules | `(tactic| walk_at "exec For Tuple Call cons nil") => `(tactic| (k_here; k_dflt (refine' For_turns ?F ?_; (case F => k_asm))))
local macro_rules | `(tactic| walk_at "exec For Name Name cons nil") => `(tactic| (k_here; (rename Fr _ _ _ _ => lF'); (with_unfolding_all refine' For_invVF lF' ?k1 ?k2 ?_; (case k1 => exact rfl); (case k2 => exact rfl); k_whole)))
local macro_rules | `(tactic| walk_at "compareOp NotEq ref ref") => `(tactic| (k_here; (with_reducible show wpAny _ _ (compareOp CmpOp.NotEq (Value.ref _) (Value.ref _)) _ _ _); k_dflt (refine' ne_pairs ?N ?a ?P ?b ?R ?u ?_; (case N => k_asm); (case a => k_mem); (case b => k_mem); (case P => first | assumption | exact PairsIn.mono (by assumption) (by intro p h; repeat (first | exact h | exact List.mem_append_left _ h | refine List.mem_cons_of_mem _ ?_))); (case R => first | exact PairsIn.nil | assumption | exact PairsIn.mono (by assumption) (by intro p h; repeat (first | exact h | exact List.mem_append_left _ h | refine List.mem_cons_of_mem _ ?_))); (case u => ktr_units)); (try simp only [decide_true, decide_false, Bool.not_true, Bool.not_false, List.append_eq_nil_iff, List.cons_ne_nil, and_false, reduceCtorEq])))
local macro_rules | `(tactic| walk_at "call builtin:list.pop") => `(tactic| (k_here; k_dflt (refine' pop_ref ?F ?N ?U ?z ?_; (case F => k_asm); (case N => k_asm); (case U => k_upd); (case z => first | assumption | omega)); intro h' F' N'; (try k_sweep)))
def ProdJ (la : Addr) (ns : List Int) (news : List (Addr × Obj)) (n : Nat) (m₁ : Str → Option Value) (news₁ : List (Addr × Obj)) : Prop :=
  ∃ wa wvs c ts fo t st, news₁ = (wa, listOf (List.toArray wvs) c) :: (ts ++ news) ∧ LCg.Off1 wa (ts ++ news) ∧ PairsIn ts wvs st ∧ (∀ q ∈ st, 0 ≤ q.2 ∧ q.2 ≤ (ns.length : Int)) ∧ fo + wsum ns st = kont ns ∧ n = wmeas ns.length st ∧ n ≤ 1000 ∧
    Has m₁ [(Str.ofString "numbers", .ref la), (Str.ofString "found", .int fo t), (Str.ofString "waiting", .ref wa)]
theorem prod_start {h₀ h : Heap} {L D l D1 : Addr} {oD ol o1 : Obj} {news : List (Addr × Obj)} (N : News h₀ L h ((D, oD) :: (l, ol) :: (D1, o1) :: news)) : News h₀ L h ((l, ol) :: ([(D1, o1)] ++ news)) := fun p hp => N p (.tail _ hp)
theorem prod_next {la : Addr} {ns : List Int} {g h : Heap} {L wa : Addr} {wvs : List Value} {c n tk : Nat} {ts' newsX news : List (Addr × Obj)} {m' : Str → Option Value} {s₁ : Shared} {fo : Int} {t : Tok} {st : List (Int × Int)}
    (F : Fr g L h m') (N : News g L h newsX) (hs : ∀ p ∈ (wa, listOf (List.toArray wvs) c) :: (ts' ++ news), p ∈ newsX) (ho : LCg.Off1 wa (ts' ++ news)) (P : PairsIn ts' wvs st) (hq : ∀ q ∈ st, 0 ≤ q.2 ∧ q.2 ≤ (ns.length : Int)) (hw : fo + wsum ns st = kont ns) (hn : wmeas ns.length st < n) (hb : n ≤ 1000)
    (e1 : m' (Str.ofString "numbers") = some (.ref la)) (e2 : m' (Str.ofString "found") = some (.int fo t)) (e3 : m' (Str.ofString "waiting") = some (.ref wa)) :
    WhileStep g L s₁ (ProdJ la ns news) n .next { s₁ with heap := h, toks := tk } :=
  WhileStep.intro F (fun p hp => N p (hs p hp)) hn ⟨wa, wvs, c, ts', fo, t, st, rfl, ho, P, hq, hw, rfl, by omega, has_cons e1 (has_cons e2 (has_cons e3 has_nil))⟩
theorem prod_one {la : Addr} {ns : List Int} {g h : Heap} {L wa D1 l' : Addr} {o' : Obj} {ws : List Value} {c tk : Nat} {ts news : List (Addr × Obj)} {m' : Str → Option Value} {s₁ : Shared} {fo p a : Int} {t t1 u1 : Tok} {st : List (Int × Int)} {X : Prop}
    (F : Fr g L h m') (N : News g L h ((D1, tupO [.int (p * ns.getD a.toNat 0) t1, .int (a + 1) u1]) :: (l', o') :: (wa, listOf (ws.toArray.push (.ref D1)) c) :: (ts ++ news))) (ho : LCg.Off1 wa (ts ++ news)) (P : PairsIn ts ws st) (hq : ∀ q ∈ st ++ [(p, a)], 0 ≤ q.2 ∧ q.2 ≤ (ns.length : Int))
    (hw : fo + (wsum ns st + p * kont (ns.drop a.toNat)) = kont ns) (hb : wmeas ns.length (st ++ [(p, a)]) ≤ 1000) (hne : a ≠ ns.length) (hs : ¬ a + 1 < ns.length) (hx : l' < D1 ∧ wa < D1 ∧ X)
    (e1 : m' (Str.ofString "numbers") = some (.ref la)) (e2 : m' (Str.ofString "found") = some (.int fo t)) (e3 : m' (Str.ofString "waiting") = some (.ref wa)) :
    WhileStep g L s₁ (ProdJ la ns news) (wmeas ns.length (st ++ [(p, a)])) .next { s₁ with heap := h, toks := tk } := by
  have ha := hq (p, a) (by simp)
  simp only at ha
  rw [List.push_toArray] at N
  refine prod_next (ts' := (D1, tupO [.int (p * ns.getD a.toNat 0) t1, .int (a + 1) u1]) :: ts) (wvs := ws ++ [.ref D1]) (c := c) F N (fun q hq' => ?_) ⟨Nat.ne_of_gt hx.2.1, ho⟩ ((P.mono fun _ h => .tail _ h).snoc (.head _)) (fun q hq' => ?_)
    (prod_math1 ns st fo p a ha.1 ha.2 hne hw hs) (prod_meas1 _ _ _ _ _ ha.1 (by omega)) hb e1 e2 e3
  · simp only [List.cons_append, List.mem_cons] at hq' ⊢
    rcases hq' with h | h | h
    · exact .inr (.inr (.inl h))
    · exact .inl h
    · exact .inr (.inr (.inr h))
  · rcases List.mem_append.mp hq' with h | h
    · exact hq q (List.mem_append_left _ h)
    · rw [List.mem_singleton.mp h]; exact ⟨show 0 ≤ a + 1 by omega, show a + 1 ≤ _ by omega⟩
theorem prod_two {la : Addr} {ns : List Int} {g h : Heap} {L wa D1 D2 l' : Addr} {o' : Obj} {ws : List Value} {c tk : Nat} {ts news : List (Addr × Obj)} {m' : Str → Option Value} {s₁ : Shared} {fo p a : Int} {t t1 u1 t2 u2 : Tok} {st : List (Int × Int)} {X Y : Prop}
    (F : Fr g L h m') (N : News g L h ((D2, tupO [.int p t2, .int (a + 2) u2]) :: (D1, tupO [.int (p * ns.getD a.toNat 0) t1, .int (a + 1) u1]) :: (l', o') :: (wa, listOf ((ws.toArray.push (.ref D1)).push (.ref D2)) c) :: (ts ++ news))) (ho : LCg.Off1 wa (ts ++ news)) (P : PairsIn ts ws st) (hq : ∀ q ∈ st ++ [(p, a)], 0 ≤ q.2 ∧ q.2 ≤ (ns.length : Int))
    (hw : fo + (wsum ns st + p * kont (ns.drop a.toNat)) = kont ns) (hb : wmeas ns.length (st ++ [(p, a)]) ≤ 1000) (hne : a ≠ ns.length) (hs : a + 1 < ns.length) (hx : l' < D1 ∧ wa < D1 ∧ X) (hy : D1 < D2 ∧ l' < D2 ∧ wa < D2 ∧ Y)
    (e1 : m' (Str.ofString "numbers") = some (.ref la)) (e2 : m' (Str.ofString "found") = some (.int fo t)) (e3 : m' (Str.ofString "waiting") = some (.ref wa)) :
    WhileStep g L s₁ (ProdJ la ns news) (wmeas ns.length (st ++ [(p, a)])) .next { s₁ with heap := h, toks := tk } := by
  have ha := hq (p, a) (by simp)
  simp only at ha
  rw [List.push_toArray, List.push_toArray] at N
  refine prod_next (ts' := (D2, tupO [.int p t2, .int (a + 2) u2]) :: (D1, tupO [.int (p * ns.getD a.toNat 0) t1, .int (a + 1) u1]) :: ts) (wvs := ws ++ [.ref D1] ++ [.ref D2]) (c := c) F N (fun q hq' => ?_) ⟨Nat.ne_of_gt hy.2.2.1, Nat.ne_of_gt hx.2.1, ho⟩ (((P.mono fun _ h => .tail _ (.tail _ h)).snoc (.tail _ (.head _))).snoc (.head _)) (fun q hq' => ?_)
    (prod_math2 ns st fo p a ha.1 ha.2 hne hw hs) (prod_meas2 _ _ _ _ _ _ ha.1 (by omega)) hb e1 e2 e3
  · simp only [List.cons_append, List.mem_cons] at hq' ⊢
    rcases hq' with h | h | h | h
    · exact .inr (.inr (.inr (.inl h)))
    · exact .inl h
    · exact .inr (.inl h)
    · exact .inr (.inr (.inr (.inr h)))
  · rcases List.mem_append.mp hq' with h | h
    · rcases List.mem_append.mp h with h | h
      · exact hq q (List.mem_append_left _ h)
      · rw [List.mem_singleton.mp h]; exact ⟨show 0 ≤ a + 1 by omega, show a + 1 ≤ _ by omega⟩
    · rw [List.mem_singleton.mp h]; exact ⟨show 0 ≤ a + 2 by omega, show a + 2 ≤ _ by omega⟩
set_option maxRecDepth 100000 in
set_option maxHeartbeats 8000000 in
theorem prod_c {w : World} (la : Addr) (vs : List Value) (ns : List Int) (k : Nat) (news : List (Addr × Obj)) (hm : (la, listOf vs.toArray k) ∈ news) (hi : IntsAre vs ns) (hla : ns.length ≤ 6) (hbd : ∀ i, -1000 ≤ ns.getD i 0 ∧ ns.getD i 0 ≤ 1000) :
    Con w 138 [.ref la] news 12 (fun news' r => ∃ t, r = .int (kont ns) t ∧ news' = news) := by
  unfold Con
  w_top off
  k_fill
  intro mean mg mb dp un gd cn cs a ccd cl outer A₀ base h₀ L m s Q E B F X N T hk hdp hun hret
  have hvl : vs.length = ns.length := hi.length
  refine wpAny_call ?_
  k_dflt ktr_enter
  iterate 30 walk1
  rename Fr _ _ _ _ => FX
  rename News _ _ _ _ => NX0
  have NX := prod_start NX0
  obtain ⟨wa, ewa⟩ := name_1 NX
  subst ewa
  clear NX0
  have hp64 : (2 : Nat) ^ ns.length ≤ 1000 := Nat.le_trans (Nat.pow_le_pow_right (by decide) hla) (by decide)
  k_dflt refine' While_inv (ProdJ la ns news) FX NX ?h0 ?turn
  case h0 =>
    refine ⟨wa, [_], _, _, 0, _, [(1, 0)], rfl, ⟨?_, ?_⟩, .cons (.head _) .nil, ?_, ?_, rfl, ?_, has_cons rfl (has_cons rfl (has_cons rfl has_nil))⟩
    · exact (show @Ne Nat _ _ from Nat.ne_of_lt (And.left (by assumption)))
    · exact allLt_off (And.right (by assumption))
    · intro q hq; rw [List.mem_singleton.mp hq]; exact ⟨by decide, by simp⟩
    · simp [wsum]
    · simpa [wmeas] using hp64
  case turn =>
    rintro n m₁ news₁ h₁ tk₁ F₁ N₁ ⟨wa', wvs, c, ts, fo, t, st, rfl, ho, P, hq, hw, rfl, hb, H⟩
    clear NX FX
    rw [map_has H] at F₁
    rcases List.eq_nil_or_concat st with e | ⟨st', ⟨p, at'⟩, e⟩
    · subst e
      k_steps
      have hf : fo = kont ns := by simpa [wsum] using hw
      rename Fr _ _ _ _ => Fz
      rename News _ _ _ _ => Nz
      exact hret _ _ _ _ Fz (fun p hp => Nz p (.tail _ (.tail _ (List.mem_append_right _ hp)))) ⟨t, by rw [hf], rfl⟩
    · rw [List.concat_eq_append] at e
      subst e
      obtain ⟨ws, a1, t1, u1, rfl, P1, ha1⟩ := P.split
      have ha1' := List.mem_append_left news ha1
      have hb' := hb
      rw [wmeas_snoc] at hb
      rw [wsum_snoc] at hw
      have hl1 := P1.length
      have hl2 := wmeas_len ns.length st'
      have hpw : 1 ≤ 2 ^ (ns.length - at'.toNat) := Nat.one_le_two_pow
      have hl3 : ws.length ≤ 100000 := by omega
      have hm3 : (la, listOf vs.toArray k) ∈ ts ++ news := List.mem_append_right ts hm
      have hat := hq (p, at') (by simp)
      have gb := hbd at'.toNat
      simp only at hat
      k_steps
      · rename Fr _ _ _ _ => Fz
        rename News _ _ _ _ => Nz
        have ea : at' = (ns.length : Int) := by assumption
        refine prod_next Fz Nz (fun q hq' => .tail _ hq') ho P1 (fun q hq' => hq q (List.mem_append_left _ hq')) (fo := fo + p) ?_ ?_ hb' rfl rfl rfl
        · rw [ea] at hw
          simp only [Int.toNat_natCast, List.drop_length, kont, Int.mul_one] at hw
          omega
        · rw [wmeas_snoc]; omega
      · rename Fr _ _ _ _ => Fz
        rename News _ _ _ _ => Nz
        exact prod_two Fz Nz ho P1 hq hw hb' (by assumption) (by assumption) (by assumption) (by assumption) rfl rfl rfl
      · rename Fr _ _ _ _ => Fz
        rename News _ _ _ _ => Nz
        exact prod_one Fz Nz ho P1 hq hw hb' (by assumption) (by assumption) (by assumption) rfl rfl rfl
end Mine
namespace Mine
local macro_rules | `(tactic| omega) => `(tactic| first | with_reducible assumption | lia | omega +splitDisjunctions)
local macro_rules | `(tactic| is_list) => `(tactic| exact isListN (by k_asm) (by k_mem))
local macro_rules | `(tactic| k_mem) => `(tactic| assumption)
local macro_rules | `(tactic| k_all) => `(tactic| exact off1_mem (by assumption))
local macro_rules | `(tactic| walk_at "exec For Tuple Call cons nil") => `(tactic| (k_here; k_dflt (refine' For_turns ?F ?_; (case F => k_asm))))
local macro_rules | `(tactic| walk_at "exec For Name Name cons nil") => `(tactic| (k_here; (rename Fr _ _ _ _ => lF'); (with_unfolding_all refine' For_invVF lF' ?k1 ?k2 ?_; (case k1 => exact rfl); (case k2 => exact rfl); k_whole)))
def tabRow (ns : List Int) (n : Nat) (i : Nat) : List Int := (List.range n).map fun (j : Nat) => if j = i then ns.getD i 0 else if j = i + 1 then 1 else if i = j + 1 then -1 else 0
def TabJ (la : Addr) (cN cA : Addr) (ns : List Int) (news : List (Addr × Obj)) (i : Nat) (m₁ : Str → Option Value) (news₁ : List (Addr × Obj)) : Prop :=
  ∃ fa fvs c oN oA xn xa ts, news₁ = (fa, listOf (List.toArray fvs) c) :: (cN, oN) :: (cA, oA) :: (ts ++ news) ∧ oN.data = .cell xn ∧ oA.data = .cell xa ∧ LCg.Off1 fa ((cN, oN) :: (cA, oA) :: (ts ++ news)) ∧ LCg.Off1 cN ((cA, oA) :: (ts ++ news)) ∧ LCg.Off1 cA (ts ++ news) ∧
    RowsIn ts fvs ((List.range i).map (tabRow ns ns.length)) ∧ fvs.length = i ∧ Has m₁ [(Str.ofString "numbers", .ref la), (Str.ofString "found", .ref fa)]
theorem tab_row_eq (ns : List Int) (n i : Nat) : (rangeKs 0 ((n : Int) - 0).toNat).map (fun k' => if k' = (i : Int) then ns.getD i 0 else if (if k' - (i : Int) < 0 then -(k' - (i : Int)) else k' - (i : Int)) = 1 then k' - (i : Int) else 0) = tabRow ns n i := by
  unfold rangeKs tabRow
  have e : ((n : Int) - 0).toNat = n := by omega
  rw [e, List.map_map]
  refine List.map_congr_left fun j _ => ?_
  simp only [Function.comp, Int.zero_add]
  by_cases h1 : j = i
  · simp [h1]
  · rw [if_neg (by omega), if_neg h1]
    by_cases h2 : j = i + 1
    · rw [if_pos h2, if_pos (by omega)]; omega
    · rw [if_neg h2]
      by_cases h3 : i = j + 1
      · rw [if_pos h3, if_pos (by omega)]; omega
      · rw [if_neg h3, if_neg (by split <;> omega)]
theorem table_turn {la cN cA : Addr} {ns : List Int} {g h : Heap} {L D I fa : Addr} {oE oI oN oA : Obj} {ys fvs : List Value} {c i tk : Nat} {ts news : List (Addr × Obj)} {m' : Str → Option Value} {s₁ : Shared} {xn xa : Option Value} {oN0 oA0 : Obj}
    (F : Fr g L h m') (N : News g L h ((D, LCg.lst ys) :: (I + 1, oE) :: (I, oI) :: (fa, listOf (fvs.toArray.push (Value.ref D)) (c + 1)) :: (cN, oN) :: (cA, oA) :: (ts ++ news)))
    (dN : oN.data = .cell xn) (dA : oA.data = .cell xa) (hI : IntsAre ys ((rangeKs 0 ((ns.length : Int) - 0).toNat).map (fun k' => if k' = (i : Int) then ns.getD i 0 else if (if k' - (i : Int) < 0 then -(k' - (i : Int)) else k' - (i : Int)) = 1 then k' - (i : Int) else 0)))
    (hR : RowsIn ts fvs ((List.range i).map (tabRow ns ns.length))) (hfl : fvs.length = i) (ho1 : LCg.Off1 fa ((cN, oN0) :: (cA, oA0) :: (ts ++ news))) (ho2 : LCg.Off1 cN ((cA, oA0) :: (ts ++ news))) (ho3 : LCg.Off1 cA (ts ++ news))
    (o1 : fa ≠ I ∧ cN ≠ I ∧ cA ≠ I ∧ LCg.Off1 I (ts ++ news)) (o2 : fa ≠ I + 1 ∧ cN ≠ I + 1 ∧ cA ≠ I + 1 ∧ LCg.Off1 (I + 1) (ts ++ news)) (hD : I + 1 ≠ D ∧ I ≠ D ∧ fa ≠ D ∧ cN ≠ D ∧ cA ≠ D ∧ LCg.Off1 D (ts ++ news))
    (e1 : m' (Str.ofString "numbers") = some (.ref la)) (e2 : m' (Str.ofString "found") = some (.ref fa)) :
    EEnd g L (TabJ la cN cA ns news (i + 1)) I oE oI s₁ { s₁ with heap := h, toks := tk } := by
  rw [List.push_toArray] at N
  rw [tab_row_eq] at hI
  refine EEnd.intro (news' := (fa, listOf (fvs ++ [Value.ref D]).toArray (c + 1)) :: (cN, oN) :: (cA, oA) :: (((D, listOf ys.toArray ys.length) :: ts) ++ news)) F N (.tail _ (.head _)) (.tail _ (.tail _ (.head _))) (fun q hq => ?_) ⟨o1.1, o1.2.1, o1.2.2.1, Ne.symm hD.2.1, o1.2.2.2⟩ ⟨o2.1, o2.2.1, o2.2.2.1, Ne.symm hD.1, o2.2.2.2⟩ ?_
  · simp only [List.cons_append, List.mem_cons] at hq ⊢
    rcases hq with h | h | h | h | h
    · exact .inr (.inr (.inr (.inl h)))
    · exact .inr (.inr (.inr (.inr (.inl h))))
    · exact .inr (.inr (.inr (.inr (.inr (.inl h)))))
    · exact .inl h
    · exact .inr (.inr (.inr (.inr (.inr (.inr h)))))
  · refine ⟨fa, fvs ++ [Value.ref D], c + 1, oN, oA, xn, xa, (D, listOf ys.toArray ys.length) :: ts, rfl, dN, dA, ⟨ho1.1, ho1.2.1, Ne.symm hD.2.2.1, ho1.2.2⟩, ⟨ho2.1, Ne.symm hD.2.2.2.1, ho2.2⟩, ⟨Ne.symm hD.2.2.2.2.1, ho3⟩, ?_, by simp [hfl], has_cons e1 (has_cons e2 has_nil)⟩
    rw [List.range_succ, List.map_append]
    exact (hR.mono fun q h => .tail _ h).snoc (.head _) hI
set_option maxRecDepth 100000 in
set_option maxHeartbeats 8000000 in
theorem table_c {w : World} (la : Addr) (vs : List Value) (ns : List Int) (k : Nat) (news : List (Addr × Obj)) (hm : (la, listOf vs.toArray k) ∈ news) (hi : IntsAre vs ns) (hla : ns.length ≤ 6) :
    Con w 143 [.ref la] news 4 (fun news' r => ∃ fa fvs c ts, r = .ref fa ∧ news' = (fa, listOf (List.toArray fvs) c) :: (ts ++ news) ∧ RowsIn ts fvs ((List.range ns.length).map (tabRow ns ns.length))) := by
  unfold Con
  w_top off
  k_fill
  intro mean mg mb dp un gd cn cs a ccd cl outer A₀ base h₀ L m s Q E B F X N T hk hdp hun hret
  have hvl : vs.length = ns.length := hi.length
  refine wpAny_call ?_
  k_dflt (refine' code_defC ?k1 ?k2 ?k3 ?k4 ?k5 ?kA ?kF ?kK ?k6 ?k7 ?k8 ?k9 ?kB ?kD ?_ ?c2 ?c3 ?c4; (case kA => exact rfl); (case kF => exact rfl); (case kK => assumption); (case k1 => k_asm); (case k2 => k_asm); (case k3 => k_asm); (case k4 => k_asm); (case k5 => k_asm); (case k6 => k_is); (case k7 => k_is); (case k8 => ktr_room); (case k9 => exact BindsTo.of_eq rfl); (case kB => exact rfl); (case kD => decide +kernel); (case c2 => exact rfl); (case c3 => exact rfl); (case c4 => exact rfl); k_whole; intro g' L' h' tk' cells' FG' F' N' Y' B' X' T' l1; (try k_lt l1); k_cells Y'; (try simp only [List.cons_append, List.nil_append] at N'); (try dsimp only); (try k_fold))
  k_steps
  rename Fr _ _ _ _ => FX
  rename News _ _ _ _ => NX
  obtain ⟨Lc, eLc⟩ := name_fr FX
  subst eLc
  with_unfolding_all refine' enumJ (vs := vs) (c := k) ?hh ?hF ?hN ?hm (TabJ la (Lc + 1 + 1) (Lc + 1) ns news) ?hkeep ?h0 ?turn ?done
  case hh => exact rfl
  case hF => exact FX
  case hN => exact NX
  case hm => exact .tail _ (.tail _ (.tail _ hm))
  case hkeep => rintro i m₁ _ ⟨fa, fvs, c, oN, oA, xn, xa, ts, rfl, _⟩; exact .tail _ (.tail _ (.tail _ (List.mem_append_right _ hm)))
  case h0 =>
    have hnl : ∀ p ∈ news, p.1 < Lc := by assumption
    obtain ⟨lf, elf⟩ := name_1 NX
    subst elf
    have hl1 : Lc + 1 + 1 < lf ∧ Lc + 1 < lf ∧ AllLt lf news := by assumption
    refine ⟨_, [], 0, _, _, _, _, [], rfl, by assumption, by assumption, ⟨Nat.ne_of_lt hl1.1, Nat.ne_of_lt hl1.2.1, allLt_off hl1.2.2⟩, ⟨Nat.ne_of_lt (Nat.lt_succ_self _), off1_of_lt fun p hp => Nat.lt_succ_of_lt (Nat.lt_succ_of_lt (hnl p hp))⟩, off1_of_lt fun p hp => Nat.lt_succ_of_lt (hnl p hp), .nil, rfl, has_cons rfl (has_cons rfl has_nil)⟩
  case turn =>
    rintro I oE oI i v m₁ news₁ T t h₁ tk₁ hI hil' hv ⟨fa, fvs, c, oN, oA, xn, xa, ts, rfl, dN, dA, ho1, ho2, ho3, hR, hfl, H⟩ hT F₁ N₁ o1 o2
    clear NX FX
    obtain ⟨tv, rfl, hil⟩ := ints_get hi hv
    rw [map_has H] at F₁
    have o1' := o1
    have o2' := o2
    have ho1' := ho1
    have ho2' := ho2
    have hm3 : (la, listOf vs.toArray k) ∈ ts ++ news := List.mem_append_right ts hm
    simp only [LCg.Off1] at o1' o2' ho1' ho2'
    k_steps
    rename Fr _ _ _ _ => Fz
    rename News _ _ _ _ => Nz
    exact table_turn Fz Nz (by assumption) (by assumption) (by assumption) hR hfl ho1 ho2 ho3 o1' o2' (by assumption) rfl rfl
  case done =>
    rintro h₁ tk₁ m₁ news₁ ⟨fa, fvs, c, oN, oA, xn, xa, ts, rfl, dN, dA, ho1, ho2, ho3, hR, hfl, H⟩ F₁ N₁
    clear NX FX
    rw [map_has H] at F₁
    rw [hvl] at hR
    k_steps
    rename Fr _ _ _ _ => Fz
    rename News _ _ _ _ => Nz
    refine hret ((fa, listOf (List.toArray fvs) c) :: (ts ++ news)) _ _ _ Fz (fun q hq => Nz q ?_) ⟨fa, fvs, c, ts, rfl, rfl, hR⟩
    rcases List.mem_cons.mp hq with rfl | h
    · exact .head _
    · exact .tail _ (.tail _ (.tail _ h))
end Mine
namespace Mine
local macro_rules | `(tactic| omega) => `(tactic| first | with_reducible assumption | lia | omega +splitDisjunctions)
local macro_rules | `(tactic| is_list) => `(tactic| exact isListN (by k_asm) (by k_mem))
local macro_rules | `(tactic| k_mem) => `(tactic| assumption)
local macro_rules | `(tactic| k_all) => `(tactic| exact off1_mem (by assumption))
local macro_rules | `(tactic| walk_at "exec For Tuple Call cons nil") => `(tactic| (k_here; k_dflt (refine' For_turns ?F ?_; (case F => k_asm))))
local macro_rules | `(tactic| walk_at "exec For Name Name cons nil") => `(tactic| (k_here; (rename Fr _ _ _ _ => lF'); (with_unfolding_all refine' For_invVF lF' ?k1 ?k2 ?_; (case k1 => exact rfl); (case k2 => exact rfl); k_whole)))
local macro_rules | `(tactic| walk_at "call builtin:len") => `(tactic| (k_here; (with_reducible show wpAny _ _ (call (Value.builtin "len") [Value.ref _]) _ _ _); k_dflt (refine' len_refs ?N ?m ?n ?e ?f ?_; (case N => k_asm); (case m => k_mem); (case e => first | with_reducible assumption | exact RowsIn.length (by assumption)); (case f => omega); k_whole)))
local macro_rules | `(tactic| walk_at "subscriptTail") => `(tactic| (k_here; (with_reducible show wpAny _ _ (subscriptTail _ _ (Value.ref _) (Value.int _ _)) _ _ _); k_dflt (refine' item_refs ?N ?m ?a ?b ?x ?_ ?s ?t; (case N => k_asm); (case m => k_mem); (case x => with_reducible assumption); (case a => omega); (case b => omega); (case s => with_unfolding_all rfl); (case t => kmk_pure); k_whole)))
local macro_rules | `(tactic| walk_at "getItem ref int") => `(tactic| (k_here; (with_reducible show wpAny _ _ (getItem (Value.ref _) (Value.int _ _)) _ _ _); k_dflt (refine' get_refs ?N ?m ?a ?b ?x ?_; (case N => k_asm); (case m => k_mem); (case x => with_reducible assumption); (case a => omega); (case b => omega); k_whole)))
local macro_rules | `(tactic| walk_at "subscriptTail Name Slice ref ref") => `(tactic| (k_here; (with_reducible show wpAny _ _ (subscriptTail _ (PySem.Expr.Slice (some _) (some _) none _) (Value.ref _) (Value.ref _)) _ _ _); k_dflt (refine' slice_refs ?F ?N ?m ?R ?a ?b ?z ?_ ?s ?t; (case F => k_asm); (case N => k_asm); (case m => k_mem); (case R => first | assumption | exact RowsIn.mono (by assumption) (by intro p h; repeat (first | exact h | refine List.mem_cons_of_mem _ ?_))); (case a => omega); (case b => omega); (case z => omega); (case s => with_unfolding_all rfl); (case t => kmk_pure)); intro D' zs' h' F' N' l1 hR'; (try k_lt l1); (try k_sweep)))
local macro_rules | `(tactic| walk_at "subscriptTail Name Slice ref ref") => `(tactic| (k_here; (with_reducible show wpAny _ _ (subscriptTail _ (PySem.Expr.Slice none none (some _) _) (Value.ref _) (Value.ref _)) _ _ _); k_dflt (refine' rev_refs ?F ?N ?m ?R ?z ?_ ?s ?t; (case F => k_asm); (case N => k_asm); (case m => k_mem); (case R => first | assumption | exact RowsIn.mono (by assumption) (by intro p h; repeat (first | exact h | refine List.mem_cons_of_mem _ ?_))); (case z => omega); (case s => with_unfolding_all rfl); (case t => kmk_pure)); intro D' zs' h' F' N' l1 hR'; (try k_lt l1); (try k_sweep)))
local macro_rules | `(tactic| walk_at "exec For Name Call cons nil") => `(tactic| (k_here; (rename Fr _ _ _ _ => lF'); (with_unfolding_all refine' For_invVF lF' ?k1 ?k2 ?_; (case k1 => exact rfl); (case k2 => exact rfl); k_whole)))
theorem range_small (a b : Nat) (ha : a < 1000) (hb : b < 1000) : Builtin.Range.small (a : Int) (b : Int) 1 = true := small_one (by omega) (by omega) (by omega) (by omega)
theorem range_size (a b : Nat) : Builtin.Range.rangeSize (a : Int) (b : Int) 1 = ((b - a : Nat) : Int) := by
  rw [rangeSize_nat]; congr 1; omega
set_option maxRecDepth 100000 in
set_option maxHeartbeats 8000000 in
theorem pivot_c {w : World} (fa : Addr) (vs : List Value) (rows : List (List Int)) (k n : Nat) (news : List (Addr × Obj)) (hm : (fa, listOf vs.toArray k) ∈ news) (hR : RowsIn news vs rows) (hn : rows.length = n) (hn2 : n < 1000) (hrl : ∀ r ∈ rows, r.length = n) (step : Nat) (ts : Tok) (hs : step < n) :
    Con w 48 [.ref fa, .int step ts] news 1 (fun news' r => news' = news ∧ ((r = .none ∧ ∀ i, step ≤ i → i < n → (rows.getD i []).getD step 0 = 0) ∨ ∃ (i : Nat) (t : Tok), r = .int (i : Int) t ∧ step ≤ i ∧ i < n ∧ (rows.getD i []).getD step 0 ≠ 0 ∧ ∀ i', step ≤ i' → i' < i → (rows.getD i' []).getD step 0 = 0)) := by
  unfold Con
  w_top off
  k_fill
  intro mean mg mb dp un gd cn cs a ccd cl outer A₀ base h₀ L m s Q E B F X N T hk hdp hun hret
  have hvl : vs.length = n := hR.length.trans hn
  refine wpAny_call ?_
  k_dflt ktr_enter
  iterate 18 walk1
  rename Fr _ _ _ _ => FX
  rename News _ _ _ _ => NX
  rename IsRange _ _ _ _ _ _ _ _ => RX
  with_unfolding_all refine' iter_rangeJ (n := n - step) ?hh RX ?hsm ?hsz FX NX (fun i m₁ news₁ => news₁ = news ∧ (∀ i', step ≤ i' → i' < step + i → (rows.getD i' []).getD step 0 = 0) ∧ Has m₁ [(Str.ofString "a", .ref fa), (Str.ofString "step", .int step ts)]) ?h0 ?turn ?done
  case hh => exact rfl
  case hsm => exact range_small _ _ (by omega) hn2
  case hsz => exact range_size _ _
  case h0 => exact ⟨rfl, fun i' h1 h2 => by omega, has_cons rfl (has_cons rfl has_nil)⟩
  case turn =>
    rintro I i t m₁ news₁ h₁ tk₁ oI hil ⟨rfl, hz, H⟩ ho F₁ N₁
    clear NX FX RX
    rw [map_has H] at F₁
    have ei : ((step : Int) + (i : Int)).toNat = step + i := by omega
    have hxl : ((step : Int) + (i : Int)).toNat < vs.length := by omega
    obtain ⟨D, rvs, rn, eD, hDm, hDi, hDl⟩ := hR.get (List.getElem?_eq_getElem hxl)
    have hx : vs[((step : Int) + (i : Int)).toNat]? = some (.ref D) := by rw [List.getElem?_eq_getElem hxl, eD]
    have hrn : (rows.getD ((step : Int) + (i : Int)).toNat []).length = n := hrl _ (by simp only [List.getD_eq_getElem?_getD, List.getElem?_eq_getElem hDl, Option.getD_some]; exact List.getElem_mem _)
    have hDr := hDi.length
    have es : ((step : Int)).toNat = step := by omega
    k_steps
    · (try unfold JPost)
      dsimp only
      k_steps
      rename Fr _ _ _ _ => Fz
      rename News _ _ _ _ => Nz
      have hne : (rows.getD ((step : Int) + (i : Int)).toNat []).getD ((step : Int)).toNat 0 ≠ 0 := by assumption
      rw [ei, es] at hne
      exact hret _ _ _ _ Fz (fun q hq => Nz q (.tail _ hq)) ⟨rfl, .inr ⟨step + i, t, by rw [Int.natCast_add], by omega, by omega, hne, fun i' h1 h2 => hz i' h1 h2⟩⟩
    · rename Fr _ _ _ _ => Fz
      rename News _ _ _ _ => Nz
      have he : (rows.getD ((step : Int) + (i : Int)).toNat []).getD ((step : Int)).toNat 0 = 0 := by assumption
      rw [ei, es] at he
      refine JEnd.intro Fz Nz (.head _) (fun q hq => .tail _ hq) ho ⟨rfl, fun i' h1 h2 => ?_, has_cons rfl (has_cons rfl has_nil)⟩
      by_cases h3 : i' < step + i
      · exact hz i' h1 h3
      · have : i' = step + i := by omega
        rw [this]; exact he
  case done =>
    rintro h₁ tk₁ m₁ news₁ ⟨rfl, hz, H⟩ F₁ N₁
    clear NX FX RX
    rw [map_has H] at F₁
    k_steps
    rename Fr _ _ _ _ => Fz
    rename News _ _ _ _ => Nz
    exact hret _ _ _ _ Fz Nz ⟨rfl, .inl ⟨rfl, fun i h1 h2 => hz i h1 (by omega)⟩⟩
end Mine
namespace Mine
local macro_rules | `(tactic| omega) => `(tactic| first | with_reducible assumption | lia | omega +splitDisjunctions)
local macro_rules | `(tactic| is_list) => `(tactic| exact isListN (by k_asm) (by k_mem))
local macro_rules | `(tactic| k_mem) => `(tactic| assumption)
local macro_rules | `(tactic| k_all) => `(tactic| exact off1_mem (by assumption))
local macro_rules | `(tactic| walk_at "exec For Tuple Call cons nil") => `(tactic| (k_here; k_dflt (refine' For_turns ?F ?_; (case F => k_asm))))
local macro_rules | `(tactic| walk_at "exec For Name Name cons nil") => `(tactic| (k_here; (rename Fr _ _ _ _ => lF'); (with_unfolding_all refine' For_invVF lF' ?k1 ?k2 ?_; (case k1 => exact rfl); (case k2 => exact rfl); k_whole)))
local macro_rules | `(tactic| walk_at "call builtin:len") => `(tactic| (k_here; (with_reducible show wpAny _ _ (call (Value.builtin "len") [Value.ref _]) _ _ _); k_dflt (refine' len_refs ?N ?m ?n ?e ?f ?_; (case N => k_asm); (case m => k_mem); (case e => first | with_reducible assumption | exact RowsIn.length (by assumption)); (case f => omega); k_whole)))
local macro_rules | `(tactic| walk_at "subscriptTail") => `(tactic| (k_here; (with_reducible show wpAny _ _ (subscriptTail _ _ (Value.ref _) (Value.int _ _)) _ _ _); k_dflt (refine' item_refs ?N ?m ?a ?b ?x ?_ ?s ?t; (case N => k_asm); (case m => k_mem); (case x => with_reducible assumption); (case a => omega); (case b => omega); (case s => with_unfolding_all rfl); (case t => kmk_pure); k_whole)))
local macro_rules | `(tactic| walk_at "getItem ref int") => `(tactic| (k_here; (with_reducible show wpAny _ _ (getItem (Value.ref _) (Value.int _ _)) _ _ _); k_dflt (refine' get_refs ?N ?m ?a ?b ?x ?_; (case N => k_asm); (case m => k_mem); (case x => with_reducible assumption); (case a => omega); (case b => omega); k_whole)))
local macro_rules | `(tactic| walk_at "subscriptTail Name Slice ref ref") => `(tactic| (k_here; (with_reducible show wpAny _ _ (subscriptTail _ (PySem.Expr.Slice (some _) (some _) none _) (Value.ref _) (Value.ref _)) _ _ _); k_dflt (refine' slice_refs ?F ?N ?m ?R ?a ?b ?z ?_ ?s ?t; (case F => k_asm); (case N => k_asm); (case m => k_mem); (case R => first | assumption | exact RowsIn.mono (by assumption) (by intro p h; repeat (first | exact h | refine List.mem_cons_of_mem _ ?_))); (case a => omega); (case b => omega); (case z => omega); (case s => with_unfolding_all rfl); (case t => kmk_pure)); intro D' zs' h' F' N' l1 hR'; (try k_lt l1); (try k_sweep)))
local macro_rules | `(tactic| walk_at "subscriptTail Name Slice ref ref") => `(tactic| (k_here; (with_reducible show wpAny _ _ (subscriptTail _ (PySem.Expr.Slice none none (some _) _) (Value.ref _) (Value.ref _)) _ _ _); k_dflt (refine' rev_refs ?F ?N ?m ?R ?z ?_ ?s ?t; (case F => k_asm); (case N => k_asm); (case m => k_mem); (case R => first | assumption | exact RowsIn.mono (by assumption) (by intro p h; repeat (first | exact h | refine List.mem_cons_of_mem _ ?_))); (case z => omega); (case s => with_unfolding_all rfl); (case t => kmk_pure)); intro D' zs' h' F' N' l1 hR'; (try k_lt l1); (try k_sweep)))
local macro_rules | `(tactic| walk_at "exec For Name Call cons nil") => `(tactic| (k_here; (rename Fr _ _ _ _ => lF'); (with_unfolding_all refine' For_invVF lF' ?k1 ?k2 ?_; (case k1 => exact rfl); (case k2 => exact rfl); k_whole)))
local macro_rules | `(tactic| walk_at "binaryOp FloorDiv int int") => `(tactic| (k_here; (with_reducible refine floordiv_int ?q1 ?_ (Or.inl (PyProof.noPylong_small ?q2))); (case q1 => assumption); (case q2 => assumption)))
def BarJ (fa : Addr) (ads : List Addr) (rows : List (List Int)) (n step : Nat) (ts : Tok) (ahead : Int) (ta : Tok) (news : List (Addr × Obj)) (r : Nat) (m₁ : Str → Option Value) (news₁ : List (Addr × Obj)) : Prop :=
  ∃ ents tl, news₁ = ents ++ news ∧ MatL ads (elimRows rows step ahead n r) ents ∧ Has m₁ [(Str.ofString "a", .ref fa), (Str.ofString "step", .int step ts), (Str.ofString "ahead", .int ahead ta), (Str.ofString "lead", .int ((rows.getD step []).getD step 0) tl)]
def BarI (fa : Addr) (row prow : List Int) (n step : Nat) (ts : Tok) (lead first ahead : Int) (ta tl tf : Tok) (ri : Int) (ti : Tok) (I D : Addr) (oI : Obj) (rest : List (Addr × Obj)) (c : Nat) (m₁ : Str → Option Value) (news₁ : List (Addr × Obj)) : Prop :=
  ∃ rvs k, news₁ = (I, oI) :: (D, listOf (List.toArray rvs) k) :: rest ∧ IntsAre rvs (elimPart row prow step lead first ahead n c) ∧
    Has m₁ [(Str.ofString "a", .ref fa), (Str.ofString "step", .int step ts), (Str.ofString "ahead", .int ahead ta), (Str.ofString "lead", .int lead tl), (Str.ofString "row", .int ri ti), (Str.ofString "first", .int first tf)]
set_option maxRecDepth 100000 in
set_option maxHeartbeats 8000000 in
theorem bar_c {w : World} (fa : Addr) (ads : List Addr) (rows : List (List Int)) (k n : Nat) (ents news : List (Addr × Obj)) (hm : (fa, listOf (ads.map Value.ref).toArray k) ∈ news) (hM : MatL ads rows ents) (hnd : ads.Nodup) (hof : ∀ a ∈ ads, LCg.Off1 a news) (hn : rows.length = n) (hn2 : n < 1000) (hrl : ∀ r ∈ rows, r.length = n)
    (step : Nat) (ts : Tok) (hs : step < n) (ahead : Int) (ta : Tok) (ha : ahead ≠ 0) (hab : ahead.natAbs < 1073741824) (hbd : ∀ i, step ≤ i → i < n → -4611686018427387904 ≤ (rows.getD i []).getD step 0 ∧ (rows.getD i []).getD step 0 ≤ 4611686018427387904) :
    Con w 55 [.ref fa, .int step ts, .int ahead ta] (ents ++ news) 1 (fun news' r => r = .none ∧ ∃ ents', news' = ents' ++ news ∧ MatL ads (elimRows rows step ahead n (n - (step + 1))) ents') := by
  unfold Con
  w_top off
  k_fill
  intro mean mg mb dp un gd cn cs a ccd cl outer A₀ base h₀ L m s Q E B F X N T hk hdp hun hret
  have hvl : (ads.map Value.ref).length = n := by rw [List.length_map, hM.length, hn]
  have hm2 : (fa, listOf (ads.map Value.ref).toArray k) ∈ ents ++ news := List.mem_append_right _ hm
  have hrows : ∀ i, i < n → (rows.getD i []).length = n := fun i hi => hrl _ (by
    have : i < rows.length := by omega
    simp only [List.getD_eq_getElem?_getD, List.getElem?_eq_getElem this, Option.getD_some]; exact List.getElem_mem _)
  have es : ((step : Int)).toNat = step := by omega
  obtain ⟨Ds, pvs, pk, hDs, hDm, hDi⟩ := hM.get step (by omega)
  have hDm2 : (Ds, listOf pvs.toArray pk) ∈ ents ++ news := List.mem_append_left _ hDm
  have hx : (ads.map Value.ref)[((step : Int)).toNat]? = some (.ref Ds) := by rw [es, List.getElem?_map, hDs]; rfl
  have hpl := hrows step hs
  refine wpAny_call ?_
  k_dflt ktr_enter
  iterate 31 walk1
  rename Fr _ _ _ _ => FX
  rename News _ _ _ _ => NX
  rename IsRange _ _ _ _ _ _ _ _ => RX
  rw [es] at FX
  with_unfolding_all refine' iter_rangeJ (n := n - (step + 1)) ?hh RX ?hsm ?hsz FX NX (BarJ fa ads rows n step ts ahead ta news) ?h0 ?turn ?done
  case hh => exact rfl
  case hsm => exact range_small' _ _ (by omega) (by omega) (by omega) (by omega)
  case hsz => exact range_size' _ _ _ (by omega)
  case h0 => exact ⟨ents, _, rfl, by rw [elimRows_zero _ _ _ _ hn]; exact hM, has_cons rfl (has_cons rfl (has_cons rfl (has_cons rfl has_nil)))⟩
  case turn =>
    rintro I r ti m₁ news₁ h₁ tk₁ oI hrl' ⟨en, tl, rfl, hME, H⟩ ho F₁ N₁
    clear NX FX RX
    rw [map_has H] at F₁
    have hri : step + 1 + r < n := by omega
    obtain ⟨e1, D, rvs, rk, e2, rfl, hD, hDi, hset⟩ := hME.split (step + 1 + r) (by rw [elimRows_len]; exact hri)
    rw [elimRows_get _ _ _ _ _ _ hri (by omega)] at hDi
    obtain ⟨Dp, pvs', pk', hDp, hDpm, hDpi⟩ := hME.get step (by rw [elimRows_len]; exact hs)
    rw [elimRows_get _ _ _ _ _ _ hs (by omega)] at hDpi
    have hoffD := mat_off hME.fsts hnd
    have hoffN : LCg.Off1 D news := hof D (List.mem_of_getElem? hD)
    have hne : Dp ≠ D := fun e => by
      subst e
      have h1 := (List.getElem?_eq_some_iff.mp hD)
      have h2 := (List.getElem?_eq_some_iff.mp hDp)
      obtain ⟨g1, e1'⟩ := h1
      obtain ⟨g2, e2'⟩ := h2
      exact List.pairwise_iff_getElem.mp hnd step (step + 1 + r) g2 g1 (by omega) (by rw [e1', e2'])
    have hDpr : (Dp, listOf pvs'.toArray pk') ∈ e1 ++ e2 ++ news := by
      refine List.mem_append_left _ ?_
      rcases List.mem_append.mp hDpm with h | h
      · exact List.mem_append_left _ h
      · rcases List.mem_cons.mp h with h | h
        · exact absurd (congrArg Prod.fst h) hne
        · exact List.mem_append_right _ h
    have hmr : (fa, listOf (ads.map Value.ref).toArray k) ∈ e1 ++ e2 ++ news := List.mem_append_right _ hm
    have hoffR : LCg.Off1 D (e1 ++ e2 ++ news) := off1_of fun p hp => by
      rcases List.mem_append.mp hp with h | h
      · exact off1_mem hoffD p h
      · exact off1_mem hoffN p h
    have N₂ : News _ _ _ ((I, oI) :: (D, listOf rvs.toArray rk) :: (e1 ++ e2 ++ news)) := fun q hq => N₁ q (by
      simp only [List.mem_cons, List.mem_append] at hq ⊢
      rcases hq with h | h | (h | h) | h
      · exact .inl h
      · exact .inr (.inl (.inr (.inl h)))
      · exact .inr (.inl (.inl h))
      · exact .inr (.inl (.inr (.inr h)))
      · exact .inr (.inr h))
    clear N₁
    have er : ((step : Int) + 1 + (r : Int)).toNat = step + 1 + r := by omega
    clear hx hDm2 hm2
    have hx : (ads.map Value.ref)[((step : Int)).toNat]? = some (.ref Dp) := by rw [es, List.getElem?_map, hDp]; rfl
    have hx1 : (ads.map Value.ref)[((step : Int) + 1 + (r : Int)).toNat]? = some (.ref D) := by rw [er, List.getElem?_map, hD]; rfl
    have hDl := hDi.length
    have hDn := hrows _ hri
    have hpn := hrows _ hs
    have hb1 := hbd _ (by omega) hri
    have hb2 := hbd _ (Nat.le_refl _) hs
    have hoI : LCg.Off1 I (e1 ++ e2 ++ news) := off1_of fun p hp => off1_mem ho p (by
      simp only [List.mem_cons, List.mem_append] at hp ⊢
      rcases hp with (h | h) | h
      · exact .inl (.inl h)
      · exact .inl (.inr (.inr h))
      · exact .inr h)
    have hDI : @Ne Nat D I := off1_mem ho (D, listOf rvs.toArray rk) (by simp)
    iterate 30 walk1
    rename Fr _ _ _ _ => FX
    rename News _ _ _ _ => NX
    rename IsRange _ _ _ _ _ _ _ _ => RX
    rw [es] at FX
    with_unfolding_all refine' iter_rangeJ (n := n - (step + 1)) ?hh2 RX ?hsm2 ?hsz2 FX NX (fun c m₂ news₂ => ∃ tf, BarI fa (rows.getD (step + 1 + r) []) (rows.getD step []) n step ts ((rows.getD step []).getD step 0) ((rows.getD (step + 1 + r) []).getD step 0) ahead ta tl tf ((step : Int) + 1 + (r : Int)) ti I D oI (e1 ++ e2 ++ news) c m₂ news₂) ?h02 ?turn2 ?done2
    case hh2 => exact rfl
    case hsm2 => exact range_small' _ _ (by omega) (by omega) (by omega) (by omega)
    case hsz2 => exact range_size' _ _ _ (by omega)
    case h02 => exact ⟨_, rvs, rk, rfl, by rw [elimPart_zero _ _ _ _ _ _ _ hDn]; exact hDi, has_cons rfl (has_cons rfl (has_cons rfl (has_cons rfl (has_cons rfl (has_cons rfl has_nil)))))⟩
    case turn2 =>
      rintro I₂ c tc m₂ news₂ h₂ tk₂ oI₂ hcl ⟨tf, rvs', rk', rfl, hpI, H'⟩ ho₂ F₂ N₃
      clear NX FX RX
      rw [map_has H'] at F₂
      have hci : step + 1 + c < n := by omega
      have ec : ((step : Int) + 1 + (c : Int)).toNat = step + 1 + c := by omega
      have hpl2 := hpI.length
      have hpl3 : (elimPart (rows.getD (step + 1 + r) []) (rows.getD step []) step ((rows.getD step []).getD step 0) ((rows.getD (step + 1 + r) []).getD step 0) ahead n c).length = n := by simp [elimPart]
      have hDpl := hDpi.length
      have ho₂' := ho₂
      simp only [LCg.Off1] at ho₂'
      k_steps
      rename Fr _ _ _ _ => Fz
      rename News _ _ _ _ => Nz
      rename IntsAre _ _ => Iz
      rw [ec, elimPart_getD _ _ _ _ _ _ _ _ hci] at Nz Iz
      refine JEnd.intro Fz Nz (.head _) (fun q hq => .tail _ hq) ho₂ ⟨tf, _, _, rfl, ?_, has_cons rfl (has_cons rfl (has_cons rfl (has_cons rfl (has_cons rfl (has_cons rfl has_nil)))))⟩
      rw [← elimPart_succ _ _ _ _ _ _ _ _ hci]
      exact Iz
    case done2 =>
      rintro h₂ tk₂ m₂ news₂ ⟨tf, rvs', rk', rfl, hpI, H'⟩ F₂ N₃
      clear NX FX RX
      rw [map_has H'] at F₂
      have hpl2 := hpI.length
      have hpl3 : (elimPart (rows.getD (step + 1 + r) []) (rows.getD step []) step ((rows.getD step []).getD step 0) ((rows.getD (step + 1 + r) []).getD step 0) ahead n (n - (step + 1))).length = n := by simp [elimPart]
      k_steps
      rename Fr _ _ _ _ => Fz
      rename News _ _ _ _ => Nz
      rename IntsAre _ _ => Iz
      rw [es, elimPart_last _ _ _ _ _ _ hs] at Iz
      have h9 := hset _ rk' _ Iz
      rw [elimRows_succ _ _ _ _ _ hri] at h9
      refine JEnd.intro Fz Nz (.head _) (fun q hq => ?_) (off1_of fun p hp => ?_) ⟨_, tl, rfl, h9, has_cons rfl (has_cons rfl (has_cons rfl (has_cons rfl has_nil)))⟩
      · simp only [List.mem_cons, List.mem_append] at hq ⊢
        rcases hq with (h | h | h) | h
        · exact .inr (.inr (.inl (.inl h)))
        · exact .inr (.inl h)
        · exact .inr (.inr (.inl (.inr h)))
        · exact .inr (.inr (.inr h))
      · simp only [List.mem_cons, List.mem_append] at hp
        rcases hp with (h | h | h) | h
        · exact off1_mem hoI p (by simp [h])
        · rw [h]; exact hDI
        · exact off1_mem hoI p (by simp [h])
        · exact off1_mem hoI p (by simp [h])
  case done =>
    rintro h₁ tk₁ m₁ news₁ ⟨en, tl, rfl, hME, H⟩ F₁ N₁
    clear NX FX RX
    rw [map_has H] at F₁
    k_steps
    rename Fr _ _ _ _ => Fz
    rename News _ _ _ _ => Nz
    exact hret _ _ _ _ Fz Nz ⟨rfl, en, rfl, hME⟩
end Mine
namespace Mine
local macro_rules | `(tactic| omega) => `(tactic| first | with_reducible assumption | lia | omega +splitDisjunctions)
theorem Dk_full {ns : List Int} {n : Nat} (h : ns.length = n) : Dk ns n = kont ns := by
  unfold Dk; rw [← h, List.take_length]
theorem det_none {ns : List Int} {n st : Nat} {rows : List (List Int)} {sg ah : Int} (hT : TriA ns n st rows sg ah ∨ TriB ns n st rows sg ah) (hn : ns.length = n) (hs : st < n)
    (hz : ∀ i, st ≤ i → i < n → (rows.getD i []).getD st 0 = 0) : kont ns = 0 := by
  have h0 : Mx rows st st = 0 := hz st (Nat.le_refl _) hs
  rcases hT with T | T
  · rw [T.row hs st (Nat.le_refl _) hs, if_pos rfl] at h0
    have hd : Dk ns (st + 1) = 0 := by
      by_cases h : Dk ns (st + 1) = 0
      · exact h
      · exact absurd h0 (sg_ne T.sgn h)
    by_cases h1 : st + 1 < n
    · have h2 := tri_A_below T (st + 1) (by omega) h1
      rw [if_pos rfl] at h2
      have h3 : Mx rows (st + 1) st = 0 := hz (st + 1) (by omega) h1
      have h4 := sg_ne T.sgn T.dne
      omega
    · have : st + 1 = n := by omega
      rw [this, Dk_full hn] at hd; exact hd
  · rw [T.row st (Nat.le_refl _) hs, if_pos rfl] at h0
    exact absurd h0 (sg_ne T.sgn T.dne)
theorem det_done {ns : List Int} {n : Nat} {rows : List (List Int)} {sg ah : Int} (hT : TriA ns n n rows sg ah ∨ TriB ns n n rows sg ah) (hn : ns.length = n) : sg * ah = kont ns := by
  rcases hT with T | T
  · rw [T.ahd, Dk_full hn]
    rcases T.sgn with h | h <;> rw [h] <;> omega
  · exact absurd T.lt (Nat.lt_irrefl _)
theorem det_ah {ns : List Int} {n st : Nat} {rows : List (List Int)} {sg ah : Int} (hT : TriA ns n st rows sg ah ∨ TriB ns n st rows sg ah) (hn : ns.length = n) (hs : st ≤ n) (hn6 : ns.length ≤ 6) (hb : ∀ i, -6 ≤ ns.getD i 0 ∧ ns.getD i 0 ≤ 6) :
    (sg = 1 ∨ sg = -1) ∧ ah ≠ 0 ∧ -117649 ≤ ah ∧ ah ≤ 117649 := by
  rcases hT with T | T
  · have h := Dk_small ns hb hn6 st (by omega)
    have h2 := sg_bound T.sgn h.1 h.2
    exact ⟨T.sgn, by rw [T.ahd]; exact sg_ne T.sgn T.dne, by rw [T.ahd]; exact h2.1, by rw [T.ahd]; exact h2.2⟩
  · have := T.lt
    have h := Dk_small ns hb hn6 (st + 1) (by omega)
    have h2 := sg_bound T.sgn h.1 h.2
    exact ⟨T.sgn, by rw [T.ahd]; exact sg_ne T.sgn T.dne, by rw [T.ahd]; exact h2.1, by rw [T.ahd]; exact h2.2⟩
theorem mul_6 {d t : Int} (h1 : -117649 ≤ d) (h2 : d ≤ 117649) (h3 : -6 ≤ t) (h4 : t ≤ 6) : -705894 ≤ d * t ∧ d * t ≤ 705894 := by
  have : t = -6 ∨ t = -5 ∨ t = -4 ∨ t = -3 ∨ t = -2 ∨ t = -1 ∨ t = 0 ∨ t = 1 ∨ t = 2 ∨ t = 3 ∨ t = 4 ∨ t = 5 ∨ t = 6 := by omega
  rcases this with rfl | rfl | rfl | rfl | rfl | rfl | rfl | rfl | rfl | rfl | rfl | rfl | rfl <;> omega
theorem det_bd {ns : List Int} {n st : Nat} {rows : List (List Int)} {sg ah : Int} (hT : TriA ns n st rows sg ah ∨ TriB ns n st rows sg ah) (hn : ns.length = n) (hs : st < n) (hn6 : ns.length ≤ 6) (hb : ∀ i, -6 ≤ ns.getD i 0 ∧ ns.getD i 0 ≤ 6) :
    ∀ i, st ≤ i → i < n → -705894 ≤ Mx rows i st ∧ Mx rows i st ≤ 705894 := by
  intro i h1 h2
  rcases hT with T | T
  · by_cases h : i = st
    · rw [h, T.row hs st (Nat.le_refl _) hs, if_pos rfl]
      have h := Dk_small ns hb hn6 (st + 1) (by omega)
      have := sg_bound T.sgn h.1 h.2
      omega
    · rw [T.rest i st (by omega) h2 (Nat.le_refl _) hs]
      have h := Dk_small ns hb hn6 st (by omega)
      have := sg_bound T.sgn h.1 h.2
      exact mul_6 this.1 this.2 (Tx_bound ns hb _ _).1 (Tx_bound ns hb _ _).2
  · have h9 := Dk_small ns hb hn6 (st + 1) (by omega)
    have := sg_bound T.sgn h9.1 h9.2
    by_cases h : i = st
    · rw [h, T.row st (Nat.le_refl _) hs, if_pos rfl]; omega
    · rw [T.rest i st (by omega) h2 (Nat.le_refl _) hs]
      exact mul_6 this.1 this.2 (Tx_bound ns hb _ _).1 (Tx_bound ns hb _ _).2
theorem det_step {ns : List Int} {n st : Nat} {rows : List (List Int)} {sg ah : Int} (hT : TriA ns n st rows sg ah ∨ TriB ns n st rows sg ah) (hn : ns.length = n) (hs : st < n) (hp : Mx rows st st ≠ 0) :
    TriA ns n (st + 1) (elimRows rows st ah n (n - (st + 1))) sg (Mx rows st st) := by
  rcases hT with T | T
  · refine tri_A_step T hn hs fun h => hp ?_
    rw [T.row hs st (Nat.le_refl _) hs, if_pos rfl, h, Int.mul_zero]
  · exact tri_B_step T hn
theorem elimRows_all (rows : List (List Int)) (s n r : Nat) (ah : Int) (hn : rows.length = n) (hrl : ∀ r ∈ rows, r.length = n) : ∀ q ∈ elimRows rows s ah n r, q.length = n := by
  intro q hq
  unfold elimRows at hq
  obtain ⟨i, hi, rfl⟩ := List.mem_map.mp hq
  have hi' : i < n := by simpa using hi
  split
  · simp [elimRow]
  · exact hrl _ (by
      have : i < rows.length := by omega
      simp only [List.getD_eq_getElem?_getD, List.getElem?_eq_getElem this, Option.getD_some]; exact List.getElem_mem _)
def sw (s i : Nat) : Nat := if i = s then s + 1 else if i = s + 1 then s else i
theorem sw_inj {s i j : Nat} (h : sw s i = sw s j) : i = j := by unfold sw at h; split at h <;> split at h <;> (try split at h) <;> (try split at h) <;> omega
theorem sw_lt {s i n : Nat} (hs : s + 1 < n) (hi : i < n) : sw s i < n := by unfold sw; split <;> (try split) <;> omega
def swL {α : Type} (l : List α) (s : Nat) (x y : α) : List α := (l.set (s + 1) x).set s y
theorem swL_len {α : Type} (l : List α) (s : Nat) (x y : α) : (swL l s x y).length = l.length := by simp [swL]
theorem swL_get {α : Type} {l : List α} {s : Nat} {x y : α} (h1 : l[s]? = some x) (h2 : l[s + 1]? = some y) (i : Nat) : (swL l s x y)[i]? = l[sw s i]? := by
  have hs : s + 1 < l.length := (List.getElem?_eq_some_iff.mp h2).1
  unfold swL sw
  rw [List.getElem?_set]
  by_cases h : s = i
  · subst h; rw [if_pos rfl, if_pos rfl, h2, if_pos (by simp; omega)]
  · rw [if_neg h, List.getElem?_set, if_neg (Ne.symm h)]
    by_cases h3 : s + 1 = i
    · subst h3; rw [if_pos rfl, if_pos rfl, h1, if_pos hs]
    · rw [if_neg h3, if_neg (Ne.symm h3)]
theorem swL_mem {α : Type} {l : List α} {s : Nat} {x y : α} (h1 : l[s]? = some x) (h2 : l[s + 1]? = some y) : ∀ a ∈ swL l s x y, a ∈ l := by
  intro a ha
  obtain ⟨i, hi⟩ := List.mem_iff_getElem?.mp ha
  rw [swL_get h1 h2] at hi
  exact List.mem_of_getElem? hi
theorem swL_nodup {l : List PySem.Addr} {s : Nat} {x y : PySem.Addr} (h1 : l[s]? = some x) (h2 : l[s + 1]? = some y) (nd : l.Nodup) : (swL l s x y).Nodup := by
  have hs : s + 1 < l.length := (List.getElem?_eq_some_iff.mp h2).1
  refine List.pairwise_iff_getElem.mpr fun i j hi hj hij e => ?_
  have hi' : i < l.length := by rw [swL_len] at hi; exact hi
  have hj' : j < l.length := by rw [swL_len] at hj; exact hj
  have e1 := swL_get h1 h2 i
  have e2 := swL_get h1 h2 j
  rw [List.getElem?_eq_getElem hi, List.getElem?_eq_getElem (sw_lt hs hi')] at e1
  rw [List.getElem?_eq_getElem hj, List.getElem?_eq_getElem (sw_lt hs hj')] at e2
  have e3 : l[sw s i]'(sw_lt hs hi') = l[sw s j]'(sw_lt hs hj') := by rw [← Option.some.inj e1, ← Option.some.inj e2]; exact e
  have hne : sw s i ≠ sw s j := fun h => by have := sw_inj h; omega
  have hp := List.pairwise_iff_getElem.mp nd
  rcases Nat.lt_or_gt_of_ne hne with h | h
  · exact hp _ _ (sw_lt hs hi') (sw_lt hs hj') h e3
  · exact hp _ _ (sw_lt hs hj') (sw_lt hs hi') h e3.symm
theorem getD_mem {rows : List (List Int)} {s : Nat} (h : s < rows.length) : rows.getD s [] ∈ rows := by
  simp only [List.getD_eq_getElem?_getD, List.getElem?_eq_getElem h, Option.getD_some]; exact List.getElem_mem _
theorem news_tl {h₀ h : PySem.Heap} {L : PySem.Addr} {e : PySem.Addr × PySem.Obj} {r : List (PySem.Addr × PySem.Obj)} (N : PyProof.Rows.News h₀ L h (e :: r)) : PyProof.Rows.News h₀ L h r := fun p hp => N p (.tail _ hp)
theorem rows_at {rows : List (List Int)} {s : Nat} (h : s < rows.length) : rows[s]? = some (rows.getD s []) := by
  simp [List.getElem?_eq_getElem h]
theorem swL_row {rows : List (List Int)} {s : Nat} (hs : s + 1 < rows.length) (i : Nat) : (swL rows s (rows.getD s []) (rows.getD (s + 1) [])).getD i [] = rows.getD (sw s i) [] := by
  have h := swL_get (rows_at (by omega : s < rows.length)) (rows_at hs) i
  rw [List.getD_eq_getElem?_getD, h, ← List.getD_eq_getElem?_getD]
theorem swL_Mx {rows : List (List Int)} {s : Nat} (hs : s + 1 < rows.length) (i j : Nat) : Mx (swL rows s (rows.getD s []) (rows.getD (s + 1) [])) i j = Mx rows (sw s i) j := by
  unfold Mx
  rw [swL_row hs]
theorem mat_swap {ads : List PySem.Addr} {rows : List (List Int)} {ents : List (PySem.Addr × PySem.Obj)} (hM : MatL ads rows ents) {s : Nat} (hs : s + 1 < rows.length) {D1 D2 : PySem.Addr} (h1 : ads[s]? = some D1) (h2 : ads[s + 1]? = some D2) :
    ∃ ents', MatL (swL ads s D1 D2) (swL rows s (rows.getD s []) (rows.getD (s + 1) [])) ents' ∧ ∀ p ∈ ents', p ∈ ents := by
  refine mat_of _ _ (by rw [swL_len, swL_len]; exact hM.length) fun i hi => ?_
  rw [swL_len] at hi
  obtain ⟨D, rvs, k, g1, g2, g3⟩ := hM.get (sw s i) (sw_lt hs hi)
  exact ⟨D, rvs, k, by rw [swL_get h1 h2, g1], g2, by rw [swL_row hs]; exact g3⟩
theorem swL_map {ads : List PySem.Addr} {s : Nat} {D1 D2 : PySem.Addr} : (((ads.map PySem.Value.ref).set (s + 1) (.ref D1)).set s (.ref D2)) = (swL ads s D1 D2).map PySem.Value.ref := by
  simp [swL, List.map_set]
theorem det_swap {ns : List Int} {n st : Nat} {rows : List (List Int)} {sg ah : Int} (T : TriA ns n st rows sg ah) (hn : ns.length = n) (hr : rows.length = n) (hs : st + 1 < n) (hz : Dk ns (st + 1) = 0) :
    TriB ns n (st + 1) (elimRows (swL rows st (rows.getD st []) (rows.getD (st + 1) [])) st ah n (n - (st + 1))) (-sg) (Mx (swL rows st (rows.getD st []) (rows.getD (st + 1) [])) st st) := by
  have hs' : st + 1 < rows.length := by omega
  refine tri_A_swap T hn hs hz (fun j => ?_) (fun j => ?_) fun i j h1 h2 => ?_
  · rw [swL_Mx hs']; unfold sw; rw [if_pos rfl]
  · rw [swL_Mx hs']; unfold sw; rw [if_neg (by omega), if_pos rfl]
  · rw [swL_Mx hs']; unfold sw; rw [if_neg (by omega), if_neg (by omega)]
end Mine
namespace Mine
local macro_rules | `(tactic| omega) => `(tactic| first | with_reducible assumption | omega +splitDisjunctions)
local macro_rules | `(tactic| walk_at "mine pad") => `(tactic| skip)
local macro_rules | `(tactic| is_list) => `(tactic| exact isListN (by k_asm) (by k_mem))
local macro_rules | `(tactic| k_mem) => `(tactic| assumption)
local macro_rules | `(tactic| k_all) => `(tactic| exact off1_mem (by assumption))
local macro_rules | `(tactic| walk_at "exec For Tuple Call cons nil") => `(tactic| (k_here; k_dflt (refine' For_turns ?F ?_; (case F => k_asm))))
local macro_rules | `(tactic| walk_at "exec For Name Name cons nil") => `(tactic| (k_here; (rename Fr _ _ _ _ => lF'); (with_unfolding_all refine' For_invVF lF' ?k1 ?k2 ?_; (case k1 => exact rfl); (case k2 => exact rfl); k_whole)))
local macro_rules | `(tactic| walk_at "call builtin:len") => `(tactic| (k_here; (with_reducible show wpAny _ _ (call (Value.builtin "len") [Value.ref _]) _ _ _); k_dflt (refine' len_refs ?N ?m ?n ?e ?f ?_; (case N => k_asm); (case m => k_mem); (case e => first | with_reducible assumption | exact RowsIn.length (by assumption)); (case f => omega); k_whole)))
local macro_rules | `(tactic| walk_at "subscriptTail") => `(tactic| (k_here; (with_reducible show wpAny _ _ (subscriptTail _ _ (Value.ref _) (Value.int _ _)) _ _ _); k_dflt (refine' item_refs ?N ?m ?a ?b ?x ?_ ?s ?t; (case N => k_asm); (case m => k_mem); (case x => with_reducible assumption); (case a => omega); (case b => omega); (case s => with_unfolding_all rfl); (case t => kmk_pure); k_whole)))
local macro_rules | `(tactic| walk_at "getItem ref int") => `(tactic| (k_here; (with_reducible show wpAny _ _ (getItem (Value.ref _) (Value.int _ _)) _ _ _); k_dflt (refine' get_refs ?N ?m ?a ?b ?x ?_; (case N => k_asm); (case m => k_mem); (case x => with_reducible assumption); (case a => omega); (case b => omega); k_whole)))
local macro_rules | `(tactic| walk_at "subscriptTail Name Slice ref ref") => `(tactic| (k_here; (with_reducible show wpAny _ _ (subscriptTail _ (PySem.Expr.Slice (some _) (some _) none _) (Value.ref _) (Value.ref _)) _ _ _); k_dflt (refine' slice_refs ?F ?N ?m ?R ?a ?b ?z ?_ ?s ?t; (case F => k_asm); (case N => k_asm); (case m => k_mem); (case R => first | assumption | exact RowsIn.mono (by assumption) (by intro p h; repeat (first | exact h | refine List.mem_cons_of_mem _ ?_))); (case a => omega); (case b => omega); (case z => omega); (case s => with_unfolding_all rfl); (case t => kmk_pure)); intro D' zs' h' F' N' l1 hR'; (try k_lt l1); (try k_sweep)))
local macro_rules | `(tactic| walk_at "subscriptTail Name Slice ref ref") => `(tactic| (k_here; (with_reducible show wpAny _ _ (subscriptTail _ (PySem.Expr.Slice none none (some _) _) (Value.ref _) (Value.ref _)) _ _ _); k_dflt (refine' rev_refs ?F ?N ?m ?R ?z ?_ ?s ?t; (case F => k_asm); (case N => k_asm); (case m => k_mem); (case R => first | assumption | exact RowsIn.mono (by assumption) (by intro p h; repeat (first | exact h | refine List.mem_cons_of_mem _ ?_))); (case z => omega); (case s => with_unfolding_all rfl); (case t => kmk_pure)); intro D' zs' h' F' N' l1 hR'; (try k_lt l1); (try k_sweep)))
local macro_rules | `(tactic| walk_at "exec For Name Call cons nil") => `(tactic| (k_here; (rename Fr _ _ _ _ => lF'); (with_unfolding_all refine' For_invVF lF' ?k1 ?k2 ?_; (case k1 => exact rfl); (case k2 => exact rfl); k_whole)))
local macro_rules | `(tactic| walk_at "compareOp NotEq ref ref") => `(tactic| (k_here; (with_reducible show wpAny _ _ (compareOp CmpOp.NotEq (Value.ref _) (Value.ref _)) _ _ _); k_dflt (refine' ne_pairs ?N ?a ?P ?b ?R ?u ?_; (case N => k_asm); (case a => k_mem); (case b => k_mem); (case P => first | exact PairsIn.nil | assumption | exact PairsIn.mono (by assumption) (by intro p h; repeat (first | exact h | exact List.mem_append_left _ h | refine List.mem_cons_of_mem _ ?_))); (case R => first | exact PairsIn.nil | assumption | exact PairsIn.mono (by assumption) (by intro p h; repeat (first | exact h | exact List.mem_append_left _ h | refine List.mem_cons_of_mem _ ?_))); (case u => ktr_units)); (try simp only [decide_true, decide_false, Bool.not_true, Bool.not_false, List.append_eq_nil_iff, List.cons_ne_nil, and_false, reduceCtorEq])))
section
variable {prog : Program} {w : World} {A : Around} {E : Value → Shared → Prop} {s : Shared} {env : Env} {h₀ : Heap}
theorem comp_JT {L : Addr} {m : Str → Option Value} {ct elt : Expr} {x : Str} {scope : Scope} {cl : List (Str × Addr)} {S : List (Addr × Obj) → Prop} {P : Nat → Value → Prop} {Fin : List Value → List (Addr × Obj) → Prop} {n : Nat}
    (J : Nat → List Value → List (Addr × Obj) → Prop)
    (turn : ∀ i ys news v I oI C oC D m₂ h tk (E' : Value → Shared → Prop), i < n → P i v → J i ys news → LCg.NsObj oC m₂ → m₂ x = some v → Fr h₀ L h m → News h₀ L h ((I, oI) :: (C, oC) :: (D, LCg.lst ys) :: news) → LCg.Off3 I C D news → ((@Ne Nat I C) ∧ (@Ne Nat I D) ∧ (@Ne Nat C D)) →
      wpAny (model prog w) A (isTrue ct (compEnvC scope cl C env) (eval ct (compEnvC scope cl C env))) (fun ok s' => if ok = true then
        wpAny (model prog w) A (eval elt (compEnvC scope cl C env)) (LCg.CompEnd h₀ L m { s with heap := h, toks := tk } I oI C oC D (LCg.lst ys) S (fun y news' => J (i + 1) (ys ++ [y]) news')) E' s'
        else LCg.CompEnd h₀ L m { s with heap := h, toks := tk } I oI C oC D (LCg.lst ys) S (fun _ news' => J (i + 1) ys news') Value.none s') E' { s with heap := h, toks := tk })
    (fin : ∀ ys news, J n ys news → Fin ys news) : ∀ k i ys news, i + k = n → J i ys news → LCt.CompRestT prog w A h₀ L m env ct elt x scope cl s S P Fin k i ys news := by
  intro k
  induction k with
  | zero => intro i ys news e hJ; have e' : i = n := e; subst e'; exact fin ys news hJ
  | succ k ih =>
    intro i ys news e hJ v I oI C oC D m₂ h tk E' hP hC hx F N off ne
    refine wpAny_mono (turn i ys news v I oI C oC D m₂ h tk E' (by omega) hP hJ hC hx F N off ne) (fun ok s₂ q => ?_) fun _ _ z => z
    cases ok with
    | true =>
      simp only [if_true] at q ⊢
      refine wpAny_mono q (fun y s₃ q => ?_) fun _ _ z => z
      obtain ⟨h', tk', news', e1, F', N', o', hS, hJ'⟩ := q
      exact ⟨h', tk', news', e1, F', N', o', hS, ih (i + 1) _ _ (by omega) hJ'⟩
    | false =>
      simp only [Bool.false_eq_true, if_false] at q ⊢
      obtain ⟨h', tk', news', e1, F', N', o', hS, hJ'⟩ := q
      exact ⟨h', tk', news', e1, F', N', o', hS, ih (i + 1) _ _ (by omega) hJ'⟩
end
def DetC (rows : List (List Int)) (cur : List (Addr × Obj)) (i : Nat) (ys : List Value) (news' : List (Addr × Obj)) : Prop :=
  ∃ ents ads, news' = ents ++ cur ∧ MatL ads (rows.take i) ents ∧ ys = ads.map Value.ref ∧ ads.Nodup ∧ ∀ a ∈ ads, LCg.Off1 a cur
theorem detC_turn {rows : List (List Int)} {cur ents : List (Addr × Obj)} {ads : List Addr} {i : Nat} {g h : Heap} {L I C D D2 : Addr} {oI oC oD : Obj} {rvs : List Value} {kk tk : Nat} {m : Str → Option Value} {s₁ : Shared} {S : List (Addr × Obj) → Prop}
    (F : Fr g L h m) (N : News g L h ((D2, listOf rvs.toArray kk) :: (I, oI) :: (C, oC) :: (D, oD) :: (ents ++ cur))) (hM : MatL ads (rows.take i) ents) (nd : ads.Nodup) (ho : ∀ a ∈ ads, LCg.Off1 a cur) (hi : i < rows.length) (hI : IntsAre rvs (rows.getD i [])) (off : LCg.Off3 I C D (ents ++ cur))
    (hl : I < D2 ∧ C < D2 ∧ D < D2 ∧ AllLt D2 (ents ++ cur)) (hS : ∀ l, (∀ p ∈ cur, p ∈ l) → S l) :
    LCg.CompEnd g L m s₁ I oI C oC D oD S (fun y news' => DetC rows cur (i + 1) (ads.map Value.ref ++ [y]) news') (.ref D2) { s₁ with heap := h, toks := tk } := by
  have hoff := allLt_off hl.2.2.2
  refine LCg.CompEnd.intro F N ((ents ++ [(D2, listOf rvs.toArray kk)]) ++ cur) (fun p hp => ?_) (off3_of fun p hp => ?_) (hS _ fun p hp => List.mem_append_right _ hp) ⟨_, ads ++ [D2], rfl, ?_, by simp, ?_, ?_⟩
  · simp only [List.mem_cons, List.mem_append, List.mem_singleton, List.not_mem_nil, or_false] at hp ⊢
    rcases hp with h | h | h | (h | h) | h
    · exact .inr (.inl h)
    · exact .inr (.inr (.inl h))
    · exact .inr (.inr (.inr (.inl h)))
    · exact .inr (.inr (.inr (.inr (.inl h))))
    · exact .inl h
    · exact .inr (.inr (.inr (.inr (.inr h))))
  · simp only [List.mem_append, List.mem_singleton] at hp
    rcases hp with (h | h) | h
    · exact LCg.Off3.mem off p (List.mem_append_left _ h)
    · rw [h]; exact ⟨Nat.ne_of_gt hl.1, Nat.ne_of_gt hl.2.1, Nat.ne_of_gt hl.2.2.1⟩
    · exact LCg.Off3.mem off p (List.mem_append_right _ h)
  · rw [takeD_succ rows i hi]; exact hM.snoc hI
  · refine List.nodup_append.mpr ⟨nd, by simp, fun a ha b hb e => ?_⟩
    rw [List.mem_singleton.mp hb] at e
    rw [← hM.fsts] at ha
    obtain ⟨q, hq, rfl⟩ := List.mem_map.mp ha
    exact off1_mem hoff q (List.mem_append_left _ hq) e
  · intro a ha
    rcases List.mem_append.mp ha with h | h
    · exact ho a h
    · rw [List.mem_singleton.mp h]; exact off1_sub hoff fun p hp => List.mem_append_right _ hp
section
variable {prog : Program} {w : World} {A : Around} {E : Value → Shared → Prop} {s : Shared} {h₀ : Heap} {L D : Addr} {m : Str → Option Value} {news news' : List (Addr × Obj)} {vs : List Value} {n : Nat} {k : Int} {x : Value} {t : Tok}
theorem set_refs {Q : Unit → Shared → Prop} (F : Fr h₀ L s.heap m) (N : News h₀ L s.heap news) (U : Upd D (listOf vs.toArray n) (listOf (vs.set k.toNat x).toArray n) news news') (h0 : 0 ≤ k) (h1 : k < (vs.length : Int)) (hfit : k < 2 ^ 63)
    (h : ∀ h', Fr h₀ L h' m → News h₀ L h' news' → Q () { s with heap := h' }) : wpAny (model prog w) A (setItem (.ref D) (.int k t) x) Q E s := by
  obtain ⟨pre, post, rfl, rfl, a, b⟩ := U.split
  have z := N (D, listOf vs.toArray n) (List.mem_append.mpr (.inr (.head _)))
  refine ki_setAt z.1 h0 hfit (by rw [List.size_toArray]; exact h1) (h _ (F.change (Heap.SameBut.update ..) z.2.1 z.2.2) (ki_turn _ N a b ?_ ?_))
  · show vs.toArray.setIfInBounds k.toNat x = (vs.set k.toNat x).toArray
    apply Array.toList_inj.mp
    simp
  · simp
end
local macro_rules | `(tactic| walk_at "setItem ref int ref") => `(tactic| (k_here; k_dflt (refine' set_refs ?F ?N ?U ?a ?b ?c ?_; (case F => k_asm); (case N => k_asm); (case U => k_upd); (case a => omega); (case b => ((try simp only [List.length_set]); omega)); (case c => omega)); intro h' F' N'; (try k_sweep)))
/-- the determinant's loop -/
def DetJ (ta : Addr) (ns : List Int) (n : Nat) (Lc : Addr) (oc : Obj) (news : List (Addr × Obj)) (s : Nat) (m₁ : Str → Option Value) (news₁ : List (Addr × Obj)) : Prop :=
  ∃ fa k ads rows ents sg tsg ah tah, news₁ = (fa, listOf (ads.map Value.ref).toArray k) :: (Lc + 1, oc) :: (ents ++ news) ∧ MatL ads rows ents ∧ ads.Nodup ∧ (∀ a ∈ ads, LCg.Off1 a ((fa, listOf (ads.map Value.ref).toArray k) :: (Lc + 1, oc) :: news)) ∧ LCg.Off1 fa ((Lc + 1, oc) :: news) ∧
    rows.length = n ∧ (∀ r ∈ rows, r.length = n) ∧ (TriA ns n s rows sg ah ∨ TriB ns n s rows sg ah) ∧ Has m₁ [(Str.ofString "found", .ref fa), (Str.ofString "sign", .int sg tsg), (Str.ofString "ahead", .int ah tah)]
theorem obj_1 {h₀ h : Heap} {L x : Addr} {o : Obj} {r : List (Addr × Obj)} (_ : News h₀ L h ((x, o) :: r)) : ∃ y : Obj, y = o := ⟨o, rfl⟩
set_option maxRecDepth 100000 in
set_option maxHeartbeats 3000000 in
theorem det_c {w : World} (ta : Addr) (vs : List Value) (rows : List (List Int)) (k n : Nat) (news : List (Addr × Obj)) (hm : (ta, listOf vs.toArray k) ∈ news) (hR : RowsIn news vs rows) (ns : List Int) (hns : ns.length = n) (hns6 : ns.length ≤ 6) (hbn : ∀ i, -6 ≤ ns.getD i 0 ∧ ns.getD i 0 ≤ 6) (hn : rows.length = n) (hn2 : n < 1000) (hrl : ∀ r ∈ rows, r.length = n) (hMx : ∀ i j, i < ns.length → j < ns.length → Mx rows i j = Tx ns i j) : Con w 60 [.ref ta] news 12 (fun news' r => news' = news ∧ ∃ t, r = .int (kont ns) t) := by
  unfold Con
  w_top off
  k_fill
  intro mean mg mb dp un gd cn cs a ccd cl outer A₀ base h₀ L m s Q E B F X N T hk hdp hun hret
  have hvl : vs.length = n := hR.length.trans hn
  refine wpAny_call ?_
  k_dflt (refine' code_defC ?k1 ?k2 ?k3 ?k4 ?k5 ?kA ?kF ?kK ?k6 ?k7 ?k8 ?k9 ?kB ?kD ?_ ?c2 ?c3 ?c4; (case kA => exact rfl); (case kF => exact rfl); (case kK => assumption); (case k1 => k_asm); (case k2 => k_asm); (case k3 => k_asm); (case k4 => k_asm); (case k5 => k_asm); (case k6 => k_is); (case k7 => k_is); (case k8 => ktr_room); (case k9 => exact BindsTo.of_eq rfl); (case kB => exact rfl); (case kD => decide +kernel); (case c2 => exact rfl); (case c3 => exact rfl); (case c4 => exact rfl); k_whole; intro g' L' h' tk' cells' FG' F' N' Y' B' X' T' l1; (try k_lt l1); k_cells Y'; (try simp only [List.cons_append, List.nil_append] at N'); (try dsimp only); (try k_fold))
  iterate 3 walk1
  rename News _ _ _ _ => NX
  rename Fr _ _ _ _ => FX
  obtain ⟨Lc, eLc⟩ := name_fr FX
  subst eLc
  obtain ⟨oc, eoc⟩ := obj_1 NX
  subst eoc
  k_here
  k_dflt (refine LCt.ListComp_T (F₀ := by k_asm) (by with_unfolding_all rfl) (by decide) (by rfl) (by decide) (by rfl) ?_)
  walk1
  refine LCt.CompSrcT.ledger rfl (by k_asm) (by k_asm) (.tail _ hm) (by rw [List.size_toArray]; exact Nat.le_trans (by omega) (Nat.le_of_ble_eq_true rfl : 1000 ≤ sizeLine)) ?_
  intro g'
  refine comp_JT (n := vs.length) (fun i ys news' => news' = (Lc + 1, oc) :: news ∧ ys = []) ?turn ?fin _ _ _ _ (by simp) ⟨rfl, rfl⟩
  case turn =>
    rintro i ys _ v I oI C oC D m₂ h₁ tk₁ E' hi' hv ⟨rfl, rfl⟩ hC hx F₁ N₁ off ne
    obtain ⟨ra, rvs, rn, rfl, hra, hrI, hil⟩ := hR.get (by simpa using hv)
    have hrow : rvs.length = n := by
      rw [hrI.length]
      exact hrl _ (by simp only [List.getD_eq_getElem?_getD, List.getElem?_eq_getElem hil, Option.getD_some]; exact List.getElem_mem _)
    k_steps
    · exact absurd rfl (show (n : Int) ≠ (n : Int) by assumption)
    · refine LCg.CompEnd.intro (by assumption) (by assumption) _ (fun p hp => hp) (by assumption) (srcAt_of (.tail _ hm)) ⟨rfl, by first | rfl | trivial⟩
  case fin =>
    rintro ys _ ⟨rfl, rfl⟩
    iterate 12 walk1
    k_here
    k_dflt (refine LCg.ListComp_U (cl := []) (F₀ := by k_asm) (by rfl) (by decide) (by rfl) (by decide) (by rfl) ?_)
    walk1
    rename News _ _ _ _ => NX2
    have NX3 : News _ _ _ ((Lc + 1, oc) :: news) := fun p hp => NX2 p (.tail _ (.tail _ hp))
    refine LCg.CompSrc.ledger rfl (by k_asm) NX3 (.tail _ hm) (by rw [List.size_toArray]; exact Nat.le_trans (by omega) (Nat.le_of_ble_eq_true rfl : 1000 ≤ sizeLine)) ?_
    intro g''
    refine comp_J (n := vs.length) (DetC rows ((Lc + 1, oc) :: news)) ?turn2 ?fin2 _ _ _ _ (by simp) ⟨[], [], rfl, .nil, rfl, .nil, fun a ha => nomatch ha⟩
    case turn2 =>
      rintro i ys _ v I oI C oC D m₂ h₁ tk₁ E' hi' hv ⟨ents, ads, rfl, hM, rfl, nd, hof⟩ hC hx F₁ N₁ off ne
      obtain ⟨ra, rvs, rn, rfl, hra, hrI, hil⟩ := hR.get (by simpa using hv)
      have hra2 : (ra, listOf rvs.toArray rn) ∈ ents ++ (Lc + 1, oc) :: news := List.mem_append_right _ (.tail _ hra)
      have hrow : (rows.getD i []).length = n := hrl _ (by simp only [List.getD_eq_getElem?_getD, List.getElem?_eq_getElem hil, Option.getD_some]; exact List.getElem_mem _)
      have hrow2 := hrI.length
      clear NX2 NX3
      k_steps
      rename Fr _ _ _ _ => Fz
      rename News _ _ _ _ => Nz
      exact detC_turn Fz Nz hM nd hof hil hrI off (by assumption) (fun l h => srcAt_of (h _ (.tail _ hm)))
    case fin2 =>
      rintro ys _ ⟨ents, ads, rfl, hM, rfl, nd, hof⟩
      clear NX2 NX3
      rw [hvl, ← hn, List.take_length] at hM
      iterate 20 walk1
      rename News _ _ _ _ => NX5
      obtain ⟨fa, efa⟩ := name_2 NX5
      subst efa
      have NX6 : News _ _ _ ((fa, _) :: (Lc + 1, oc) :: (ents ++ news)) := fun p hp => NX5 p (by
        simp only [List.mem_cons, List.mem_append] at hp ⊢
        rcases hp with h | h | h | h
        · exact .inr (.inl h)
        · exact .inr (.inr (.inr (.inl h)))
        · exact .inr (.inr (.inl h))
        · exact .inr (.inr (.inr (.inr h))))
      clear NX5
      have hm6 : (ta, listOf vs.toArray k) ∈ ents ++ news := List.mem_append_right _ hm
      iterate 14 walk1
      rename Fr _ _ _ _ => FX
      rename News _ _ _ _ => NX
      rename IsRange _ _ _ _ _ _ _ _ => RX
      have ho1 : LCg.Off1 fa (ents ++ (Lc + 1, oc) :: news) := by assumption
      with_unfolding_all refine' iter_rangeJ (n := n) ?hh RX ?hsm ?hsz FX NX (DetJ ta ns n Lc oc news) ?h0 ?turn3 ?done3
      case hh => exact rfl
      case hsm => exact range_small' _ _ (by omega) (by omega) (by omega) (by omega)
      case hsz => exact range_size' _ _ _ (by omega)
      case h0 =>
        refine ⟨fa, _, ads, rows, ents, 1, _, 1, _, rfl, hM, nd, fun a ha => ⟨?_, hof a ha⟩, off1_sub ho1 (fun p hp => List.mem_append_right _ hp), hn, hrl, .inl (by rw [← hns]; exact tri_init ns rows hMx), has_cons rfl (has_cons rfl (has_cons rfl has_nil))⟩
        have ha' := ha
        rw [← hM.fsts] at ha'
        obtain ⟨q, hq, rfl⟩ := List.mem_map.mp ha'
        exact fun e => off1_mem ho1 q (List.mem_append_left _ hq) e.symm
      case turn3 =>
        rintro I st ti m₁ news₁ h₁ tk₁ oI hst ⟨fa, k', ads, rows', ents, sg, tsg, ah, tah, rfl, hM, nd, hof, hofa, hn', hrl', hT, H⟩ ho F₁ N₁
        clear NX FX RX hm6
        rw [map_has H, Int.zero_add] at F₁
        have hadl : (ads.map Value.ref).length = n := by rw [List.length_map, hM.length, hn']
        have hrow : ∀ i, i < n → (rows'.getD i []).length = n := fun i hi => hrl' _ (by
          have : i < rows'.length := by omega
          simp only [List.getD_eq_getElem?_getD, List.getElem?_eq_getElem this, Option.getD_some]; exact List.getElem_mem _)
        k_steps
        rename Fr _ _ _ _ => FX
        rename News _ _ _ _ => NX
        have hRows : RowsIn ((I, oI) :: (fa, listOf (ads.map Value.ref).toArray k') :: (Lc + 1, oc) :: (ents ++ news)) (ads.map Value.ref) rows' := (mat_rows hM).mono fun p hp => .tail _ (.tail _ (.tail _ (List.mem_append_left _ hp)))
        k_dflt refine' con_use (pivot_c fa (ads.map Value.ref) rows' k' n _ (.tail _ (.head _)) hRows hn' hn2 hrl' st ti hst) ?k1 ?k2 ?k3 ?k4 ?k5 ?kK ?kd ?ku ?_
        (case k1 => k_asm)
        (case k2 => k_asm)
        (case k3 => k_asm)
        (case k4 => k_asm)
        (case k5 => k_asm)
        (case kK => first | exact rfl | assumption)
        (case kd => ktr_room)
        (case ku => ktr_units)
        rintro news2 r2 h2 tk2 F2 N2 ⟨rfl, hP⟩
        clear FX NX
        rcases hP with ⟨rfl, hz⟩ | ⟨ip, tp, rfl, hp1, hp2, hp3, hp4⟩
        · have hk0 := det_none hT hns hst hz
          (try dsimp only)
          k_steps
          (try unfold JPost)
          dsimp only
          k_steps
          rename Fr _ _ _ _ => Fz
          rename News _ _ _ _ => Nz
          refine hret _ _ _ _ Fz (fun q hq => Nz q (.tail _ (.tail _ (.tail _ (List.mem_append_right _ hq))))) ⟨rfl, _, by rw [hk0]⟩
        · have hcase : ip = st ∨ (ip = st + 1 ∧ Dk ns (st + 1) = 0 ∧ TriA ns n st rows' sg ah) := by
            rcases hT with T | T
            · by_cases hd : Dk ns (st + 1) = 0
              · have h0 : Mx rows' st st = 0 := by rw [T.row hst st (Nat.le_refl _) hst, if_pos rfl, hd, Int.mul_zero]
                have h1 : ip ≠ st := fun e => by subst e; exact hp3 h0
                have h2 := tri_A_below T ip (by omega) hp2
                by_cases h3 : ip = st + 1
                · exact .inr ⟨h3, hd, T⟩
                · rw [if_neg h3] at h2; exact absurd h2 hp3
              · left
                have h0 : Mx rows' st st ≠ 0 := by rw [T.row hst st (Nat.le_refl _) hst, if_pos rfl]; exact sg_ne T.sgn hd
                by_cases h1 : ip = st
                · exact h1
                · exact absurd (hp4 st (Nat.le_refl _) (by omega)) h0
            · left
              have h0 : Mx rows' st st ≠ 0 := by rw [T.row st (Nat.le_refl _) hst, if_pos rfl]; exact sg_ne T.sgn T.dne
              by_cases h1 : ip = st
              · exact h1
              · exact absurd (hp4 st (Nat.le_refl _) (by omega)) h0
          rcases hcase with e | ⟨e, hd0, TA⟩
          · have e' := e.symm; clear e; subst e'
            have hbad := det_ah hT hns (Nat.le_of_lt hst) hns6 hbn
            (try dsimp only)
            k_steps
            · exact absurd (rfl : (st : Int) = (st : Int)) (by assumption)
            rename Fr _ _ _ _ => FX
            rename News _ _ _ _ => NX
            have NY : News _ _ _ (ents ++ ((I, oI) :: (fa, listOf (ads.map Value.ref).toArray k') :: (Lc + 1, oc) :: news)) := fun q hq => NX q (by
              simp only [List.mem_cons, List.mem_append] at hq ⊢
              rcases hq with h | h | h | h | h
              · exact .inr (.inr (.inr (.inl ( h))))
              · exact .inl h
              · exact .inr (.inl h)
              · exact .inr (.inr (.inl h))
              · exact .inr (.inr (.inr (.inr h))))
            have es : ((st : Int)).toNat = st := by omega
            have hofI : ∀ a ∈ ads, @Ne Nat I a := fun a ha => by
              rw [← hM.fsts] at ha
              obtain ⟨q, hq, rfl⟩ := List.mem_map.mp ha
              exact fun e => off1_mem ho q (by simp [hq]) e.symm
            have hofX : ∀ a ∈ ads, LCg.Off1 a ((fa, listOf ((ads).map Value.ref).toArray k') :: (Lc + 1, oc) :: news) := fun a ha => hof a (id ha)
            k_dflt refine' con_use (bar_c fa (ads) (rows') k' n (ents) ((I, oI) :: (fa, listOf ((ads).map Value.ref).toArray k') :: (Lc + 1, oc) :: news) (.tail _ (.head _)) hM nd (fun a ha => ⟨hofI a (id ha), hofX a ha⟩) hn' hn2 hrl' st ti hst ah tah hbad.2.1 (by omega) (fun i h1 h2 => by have := (det_bd hT hns hst hns6 hbn) i h1 h2; unfold Mx at this; omega)) ?b1 ?b2 ?b3 ?b4 ?b5 ?bK ?bd ?bu ?_
            (case b1 => k_asm)
            (case b2 => k_asm)
            (case b3 => k_asm)
            (case b4 => k_asm)
            (case b5 => k_asm)
            (case bK => first | exact rfl | assumption)
            (case bd => ktr_room)
            (case bu => ktr_units)
            rintro news3 r3 h3 tk3 F3 N3 ⟨rfl, en3, rfl, hM3⟩
            clear FX NX NY
            obtain ⟨Dd, dvs, dk, hDd, hDm, hDi⟩ := hM3.get st (by rw [elimRows_len]; exact hst)
            rw [elimRows_get _ _ _ _ _ _ hst (Or.inl (Nat.le_refl _))] at hDi
            have N4 : News _ _ _ ((I, oI) :: (fa, listOf ((ads).map Value.ref).toArray k') :: (Lc + 1, oc) :: (en3 ++ news)) := fun q hq => N3 q (by
              simp only [List.mem_cons, List.mem_append] at hq ⊢
              rcases hq with h | h | h | h | h
              · exact .inr (.inl h)
              · exact .inr (.inr (.inl h))
              · exact .inr (.inr (.inr (.inl h)))
              · exact .inl h
              · exact .inr (.inr (.inr (.inr h))))
            clear N3
            have ho3 : LCg.Off1 I ((fa, listOf ((ads).map Value.ref).toArray k') :: (Lc + 1, oc) :: (en3 ++ news)) := ⟨ho.1, ho.2.1, off1_of fun p hp => by
              rcases List.mem_append.mp hp with h | h
              · have h4 : p.1 ∈ (ads) := by rw [← hM3.fsts]; exact List.mem_map_of_mem h
                exact (hofI _ (id h4)).symm
              · exact off1_mem ho p (by simp [h])⟩
            have hxd : ((ads).map Value.ref)[((st : Int)).toNat]? = some (.ref Dd) := by rw [es, List.getElem?_map, hDd]; rfl
            have hDm3 : (Dd, listOf dvs.toArray dk) ∈ en3 ++ news := List.mem_append_left _ hDm
            have hDl := hDi.length
            have hDn : ((rows').getD st []).length = n := hrl' _ (by
              have : st < (rows').length := by rw [hn']; exact hst
              simp only [List.getD_eq_getElem?_getD, List.getElem?_eq_getElem this, Option.getD_some]; exact List.getElem_mem _)
            have hAl : ((ads).map Value.ref).length = n := by rw [List.length_map, hM3.length, elimRows_len]
            (try dsimp only)
            k_steps
            rename Fr _ _ _ _ => Fz
            rename News _ _ _ _ => Nz
            rw [es] at Fz
            refine JEnd.intro Fz Nz (.head _) (fun q hq => .tail _ hq) ho3 ⟨fa, k', ads, _, en3, sg, _, Mx (rows') st st, _, rfl, hM3, nd, hofX, hofa, elimRows_len _ _ _ _ _, elimRows_all _ _ _ _ _ hn' hrl', (.inl (det_step hT hns hst hp3)), has_cons rfl (has_cons rfl (has_cons rfl has_nil))⟩
          · subst e
            have hbad := det_ah hT hns (Nat.le_of_lt hst) hns6 hbn
            obtain ⟨D1, p1, q1, hD1, hm1, hi1⟩ := hM.get st (by omega)
            obtain ⟨D2, p2, q2, hD2, hm2, hi2⟩ := hM.get (st + 1) (by omega)
            have e1 : ((st : Int)).toNat = st := by omega
            have e2 : (((st + 1 : Nat) : Int)).toNat = st + 1 := by omega
            have hx1 : (ads.map Value.ref)[((st : Int)).toNat]? = some (.ref D1) := by rw [e1, List.getElem?_map, hD1]; rfl
            have hx2 : (ads.map Value.ref)[(((st + 1 : Nat) : Int)).toNat]? = some (.ref D2) := by rw [e2, List.getElem?_map, hD2]; rfl
            have hIfa : @Ne Nat I fa := fun e => ho.1 e.symm
            have hoE : LCg.Off1 fa ((Lc + 1, oc) :: (ents ++ news)) := ⟨hofa.1, off1_of fun p hp => by
              rcases List.mem_append.mp hp with h | h
              · have h4 : p.1 ∈ ads := by rw [← hM.fsts]; exact List.mem_map_of_mem h
                exact fun e => (hof _ h4).1 e.symm
              · exact off1_mem hofa p (.tail _ h)⟩
            obtain ⟨entX, hMX, hsub⟩ := mat_swap hM (by omega) hD1 hD2
            have hnX : (swL rows' st (rows'.getD st []) (rows'.getD (st + 1) [])).length = n := by rw [swL_len]; exact hn'
            have hrlX : ∀ r ∈ swL rows' st (rows'.getD st []) (rows'.getD (st + 1) []), r.length = n := fun r hr => hrl' r (swL_mem (rows_at (by omega)) (rows_at (by omega)) _ hr)
            have hbdX : ∀ i, st ≤ i → i < n → -705894 ≤ Mx (swL rows' st (rows'.getD st []) (rows'.getD (st + 1) [])) i st ∧ Mx (swL rows' st (rows'.getD st []) (rows'.getD (st + 1) [])) i st ≤ 705894 := fun i h1 h2 => by
              rw [swL_Mx (by omega)]
              exact det_bd hT hns hst hns6 hbn _ (by unfold sw; split <;> (try split) <;> omega) (sw_lt hp2 h2)
            (try dsimp only)
            k_steps
            · rename Fr _ _ _ _ => FX0
              rename News _ _ _ _ => NX0
              rw [e1, e2, swL_map] at NX0
              have NX1 := news_tl NX0
              clear NX0
              rename Fr _ _ _ _ => FX
              rename News _ _ _ _ => NX
              have NY : News _ _ _ (entX ++ ((I, oI) :: (fa, listOf (swL ads st D1 D2 |>.map Value.ref).toArray k') :: (Lc + 1, oc) :: news)) := fun q hq => NX q (by
                simp only [List.mem_cons, List.mem_append] at hq ⊢
                rcases hq with h | h | h | h | h
                · exact .inr (.inr (.inr (.inl (hsub _ h))))
                · exact .inl h
                · exact .inr (.inl h)
                · exact .inr (.inr (.inl h))
                · exact .inr (.inr (.inr (.inr h))))
              have es : ((st : Int)).toNat = st := by omega
              have hofI : ∀ a ∈ ads, @Ne Nat I a := fun a ha => by
                rw [← hM.fsts] at ha
                obtain ⟨q, hq, rfl⟩ := List.mem_map.mp ha
                exact fun e => off1_mem ho q (by simp [hq]) e.symm
              have hofX : ∀ a ∈ swL ads st D1 D2, LCg.Off1 a ((fa, listOf ((swL ads st D1 D2).map Value.ref).toArray k') :: (Lc + 1, oc) :: news) := fun a ha => hof a (swL_mem hD1 hD2 _ ha)
              k_dflt refine' con_use (bar_c fa (swL ads st D1 D2) (swL rows' st (rows'.getD st []) (rows'.getD (st + 1) [])) k' n (entX) ((I, oI) :: (fa, listOf ((swL ads st D1 D2).map Value.ref).toArray k') :: (Lc + 1, oc) :: news) (.tail _ (.head _)) hMX (swL_nodup hD1 hD2 nd) (fun a ha => ⟨hofI a (swL_mem hD1 hD2 _ ha), hofX a ha⟩) hnX hn2 hrlX st ti hst ah tah hbad.2.1 (by omega) (fun i h1 h2 => by have := hbdX i h1 h2; unfold Mx at this; omega)) ?b1 ?b2 ?b3 ?b4 ?b5 ?bK ?bd ?bu ?_
              (case b1 => k_asm)
              (case b2 => k_asm)
              (case b3 => k_asm)
              (case b4 => k_asm)
              (case b5 => k_asm)
              (case bK => first | exact rfl | assumption)
              (case bd => ktr_room)
              (case bu => ktr_units)
              rintro news3 r3 h3 tk3 F3 N3 ⟨rfl, en3, rfl, hM3⟩
              clear FX NX NY
              obtain ⟨Dd, dvs, dk, hDd, hDm, hDi⟩ := hM3.get st (by rw [elimRows_len]; exact hst)
              rw [elimRows_get _ _ _ _ _ _ hst (Or.inl (Nat.le_refl _))] at hDi
              have N4 : News _ _ _ ((I, oI) :: (fa, listOf ((swL ads st D1 D2).map Value.ref).toArray k') :: (Lc + 1, oc) :: (en3 ++ news)) := fun q hq => N3 q (by
                simp only [List.mem_cons, List.mem_append] at hq ⊢
                rcases hq with h | h | h | h | h
                · exact .inr (.inl h)
                · exact .inr (.inr (.inl h))
                · exact .inr (.inr (.inr (.inl h)))
                · exact .inl h
                · exact .inr (.inr (.inr (.inr h))))
              clear N3
              have ho3 : LCg.Off1 I ((fa, listOf ((swL ads st D1 D2).map Value.ref).toArray k') :: (Lc + 1, oc) :: (en3 ++ news)) := ⟨ho.1, ho.2.1, off1_of fun p hp => by
                rcases List.mem_append.mp hp with h | h
                · have h4 : p.1 ∈ (swL ads st D1 D2) := by rw [← hM3.fsts]; exact List.mem_map_of_mem h
                  exact (hofI _ (swL_mem hD1 hD2 _ h4)).symm
                · exact off1_mem ho p (by simp [h])⟩
              have hxd : ((swL ads st D1 D2).map Value.ref)[((st : Int)).toNat]? = some (.ref Dd) := by rw [es, List.getElem?_map, hDd]; rfl
              have hDm3 : (Dd, listOf dvs.toArray dk) ∈ en3 ++ news := List.mem_append_left _ hDm
              have hDl := hDi.length
              have hDn : ((swL rows' st (rows'.getD st []) (rows'.getD (st + 1) [])).getD st []).length = n := hrlX _ (getD_mem (by rw [hnX]; exact hst))
              have hAl : ((swL ads st D1 D2).map Value.ref).length = n := by rw [List.length_map, hM3.length, elimRows_len]
              (try dsimp only)
              k_steps
              rename Fr _ _ _ _ => Fz
              rename News _ _ _ _ => Nz
              rw [es] at Fz
              refine JEnd.intro Fz Nz (.head _) (fun q hq => .tail _ hq) ho3 ⟨fa, k', swL ads st D1 D2, _, en3, (-sg), _, Mx (swL rows' st (rows'.getD st []) (rows'.getD (st + 1) [])) st st, _, rfl, hM3, (swL_nodup hD1 hD2 nd), hofX, hofa, elimRows_len _ _ _ _ _, elimRows_all _ _ _ _ _ hnX hrlX, (.inr (det_swap TA hns hn' hp2 hd0)), has_cons rfl (has_cons rfl (has_cons rfl has_nil))⟩
            · exact absurd (by assumption : ((st + 1 : Nat) : Int) = (st : Int)) (by omega)
      case done3 =>
        rintro h₁ tk₁ m₁ news₁ ⟨fa, k', ads, rows', ents, sg, tsg, ah, tah, rfl, hM, nd, hof, hofa, hn', hrl', hT, H⟩ F₁ N₁
        clear NX FX RX hm6
        rw [map_has H] at F₁
        have hk0 := det_done hT hns
        have hbad := det_ah hT hns (Nat.le_refl _) hns6 hbn
        k_steps
        rename Fr _ _ _ _ => Fz
        rename News _ _ _ _ => Nz
        rw [hk0]
        exact hret _ _ _ _ Fz (fun q hq => Nz q (.tail _ (.tail _ (List.mem_append_right _ hq)))) ⟨rfl, _, rfl⟩
end Mine
namespace Mine
local macro_rules | `(tactic| omega) => `(tactic| first | with_reducible assumption | lia | omega +splitDisjunctions)
def Hide (p : Prop) : Prop := p
theorem ent_5 {h₀ h : Heap} {L : Addr} {a b c d e : Addr × Obj} {r : List (Addr × Obj)} (_ : News h₀ L h (a :: b :: c :: d :: e :: r)) : ∃ y : Addr × Obj, y = e := ⟨e, rfl⟩
theorem lines_small {rows : List (List Int)} (h : ∀ r ∈ rows, ∃ c d, -2 ≤ c ∧ c ≤ 3 ∧ -1 ≤ d ∧ d ≤ 1 ∧ r = lineL c d) : ∀ r ∈ rows, r.length ≤ 2 ∧ ∀ x ∈ r, -9 ≤ x ∧ x ≤ 9 := by
  intro r hr
  obtain ⟨c, d, h1, h2, h3, h4, rfl⟩ := h r hr
  unfold lineL
  split
  · refine ⟨by simp, fun x hx => ?_⟩
    rcases List.mem_cons.mp hx with rfl | hx
    · omega
    · rw [List.mem_singleton.mp hx]; omega
  · split
    · refine ⟨by simp, fun x hx => ?_⟩
      rw [List.mem_singleton.mp hx]; omega
    · exact ⟨by simp, fun x hx => nomatch hx⟩
theorem num_bound {rows : List (List Int)} {v : Int} (h : ∀ r ∈ rows, ∃ c d, -2 ≤ c ∧ c ≤ 3 ∧ -1 ≤ d ∧ d ≤ 1 ∧ r = lineL c d) (h1 : -3 ≤ v) (h2 : v ≤ 3) : ∀ i, -6 ≤ (rows.map fun r => zatL r v).getD i 0 ∧ (rows.map fun r => zatL r v).getD i 0 ≤ 6 := by
  intro i
  by_cases hi : i < rows.length
  · have e : (rows.map fun r => zatL r v).getD i 0 = zatL (rows.getD i []) v := by simp [hi]
    rw [e]
    obtain ⟨c, d, a1, a2, a3, a4, er⟩ := h _ (getD_mem hi)
    rw [er]
    unfold lineL
    split
    · simp only [zatL]
      have : d = -1 ∨ d = 0 ∨ d = 1 := by omega
      rcases this with rfl | rfl | rfl <;> omega
    · split
      · simp only [zatL]; omega
      · simp only [zatL]; omega
  · have e : (rows.map fun r => zatL r v).getD i 0 = 0 := by simp [Nat.le_of_not_lt hi]
    omega
theorem tab_Mx (ns : List Int) : ∀ i j, i < ns.length → j < ns.length → Mx ((List.range ns.length).map (tabRow ns ns.length)) i j = Tx ns i j := by
  intro i j hi hj
  unfold Mx
  rw [range_map_getD _ _ _ _ hi]
  unfold tabRow
  rw [range_map_getD _ _ _ _ hj]
  rfl
theorem ent_6 {h₀ h : Heap} {L : Addr} {a b c d e f : Addr × Obj} {r : List (Addr × Obj)} (_ : News h₀ L h (a :: b :: c :: d :: e :: f :: r)) : ∃ y : Addr × Obj, y = f := ⟨f, rfl⟩
def fibL : Nat → Int
  | 0 => 1
  | 1 => 1
  | n + 2 => fibL (n + 1) + fibL n
def OnesJ (oa : Addr) (rest : List (Addr × Obj)) (nu wh la : Addr) (x0 yy zz : Int) (i : Nat) (m₁ : Str → Option Value) (news₁ : List (Addr × Obj)) : Prop :=
  ∃ os c tn ti tj, news₁ = (oa, listOf (List.toArray os) c) :: rest ∧ IntsAre os ((List.range (i + 2)).map fibL) ∧
    Has m₁ [(Str.ofString "ones", .ref oa), (Str.ofString "lines", .ref la), (Str.ofString "n", .int (3 + x0) tn), (Str.ofString "i", .int (1 + yy) ti), (Str.ofString "j", .int (1 + yy + zz) tj), (Str.ofString "whole", .ref wh), (Str.ofString "numbers", .ref nu)]
def LawJ (pa la p0 : Addr) (k : Nat) (ys : List Value) (e3 : Addr × Obj) (x0 : Int) (i : Nat) (m₁ : Str → Option Value) (news₁ : List (Addr × Obj)) : Prop :=
  ∃ vs kl sp ts tn rows ents, news₁ = (pa, listOf #[.ref p0, .int sp ts] k) :: (la, listOf (List.toArray vs) kl) :: (p0, LCg.lst ys) :: e3 :: ents ∧ LCg.Off1 pa ((la, listOf (List.toArray vs) kl) :: (p0, LCg.lst ys) :: e3 :: ents) ∧ LCg.Off1 la ((p0, LCg.lst ys) :: e3 :: ents) ∧ LCg.Off1 e3.1 ents ∧
    RowsIn ents vs rows ∧ rows.length = i ∧ (∀ r ∈ rows, ∃ c d, -2 ≤ c ∧ c ≤ 3 ∧ -1 ≤ d ∧ d ≤ 1 ∧ r = lineL c d) ∧ 0 ≤ sp ∧ sp ≤ 1 + 2 * (i : Int) ∧
    Has m₁ [(Str.ofString "pool", .ref pa), (Str.ofString "n", .int (3 + x0) tn), (Str.ofString "lines", .ref la)]
theorem law_turn {pa la p0 xx I L : Addr} {g h : Heap} {k kl' i kl nxx : Nat} {ys vs vxx : List Value} {ents : List (Addr × Obj)} {e3 : Addr × Obj} {oI : Obj} {x0 c d sp : Int} {ts' : Tok} {rows : List (List Int)} {m' : Str → Option Value} {s₁ : Shared} {tk : Nat} {tn ts : Tok} {Y3 Y4 : Prop}
    (F : Fr g L h m') (N : News g L h ((xx, listOf vxx.toArray nxx) :: (pa, listOf #[.ref p0, .int (sp + 1 + 1) ts'] k) :: (I, oI) :: (la, listOf (List.toArray (vs ++ [Value.ref xx])) kl') :: (p0, LCg.lst ys) :: e3 :: ents))
    (hR : RowsIn ents vs rows) (hrl : rows.length = i) (hrows : ∀ r ∈ rows, ∃ c d, -2 ≤ c ∧ c ≤ 3 ∧ -1 ≤ d ∧ d ≤ 1 ∧ r = lineL c d) (hc1 : -2 ≤ c) (hc2 : c ≤ 3) (hd1 : -1 ≤ d) (hd2 : d ≤ 1) (hs0 : 0 ≤ sp) (hs1 : sp ≤ 1 + 2 * (i : Int)) (ix : IntsAre vxx (lineL c d))
    (hoP : LCg.Off1 pa ((la, listOf vs.toArray kl) :: (p0, LCg.lst ys) :: e3 :: ents)) (hoL : LCg.Off1 la ((p0, LCg.lst ys) :: e3 :: ents)) (hoI : LCg.Off1 I ((pa, listOf #[.ref p0, .int sp ts] k) :: (la, listOf vs.toArray kl) :: (p0, LCg.lst ys) :: e3 :: ents))
    (oxx : pa ≠ xx ∧ I ≠ xx ∧ la ≠ xx ∧ Y4 ∧ e3.1 ≠ xx ∧ Y3) (hoC : LCg.Off1 e3.1 ents)
    (H : Has m' [(Str.ofString "pool", .ref pa), (Str.ofString "n", .int (3 + x0) tn), (Str.ofString "lines", .ref la)]) :
    JEnd g L (LawJ pa la p0 k ys e3 x0 (i + 1)) I oI s₁ { s₁ with heap := h, toks := tk } := by
  refine JEnd.intro F N (.tail _ (.tail _ (.head _))) (news' := (pa, listOf #[.ref p0, .int (sp + 1 + 1) ts'] k) :: (la, listOf (List.toArray (vs ++ [Value.ref xx])) kl') :: (p0, LCg.lst ys) :: e3 :: (xx, listOf vxx.toArray nxx) :: ents) (fun p hp => ?_) ⟨hoI.1, hoI.2.1, hoI.2.2.1, hoI.2.2.2.1, Ne.symm oxx.2.1, hoI.2.2.2.2⟩ ?_
  · simp only [List.mem_cons] at hp ⊢
    rcases hp with h | h | h | h | h | h
    · exact .inr (.inl h)
    · exact .inr (.inr (.inr (.inl h)))
    · exact .inr (.inr (.inr (.inr (.inl h))))
    · exact .inr (.inr (.inr (.inr (.inr (.inl h)))))
    · exact .inl h
    · exact .inr (.inr (.inr (.inr (.inr (.inr h)))))
  · refine ⟨_, kl', sp + 1 + 1, ts', tn, rows ++ [lineL c d], (xx, listOf vxx.toArray nxx) :: ents, rfl, ⟨hoP.1, hoP.2.1, hoP.2.2.1, Ne.symm oxx.1, hoP.2.2.2⟩, ⟨hoL.1, hoL.2.1, Ne.symm oxx.2.2.1, hoL.2.2⟩, ⟨Ne.symm oxx.2.2.2.2.1, hoC⟩, (hR.mono fun p hp => .tail _ hp).snoc (.head _) ix, by simp [hrl], fun r hr => ?_, by omega, by omega, H⟩
    rcases List.mem_append.mp hr with hr | hr
    · exact hrows r hr
    · rw [List.mem_singleton.mp hr]; exact ⟨c, d, hc1, hc2, hd1, hd2, rfl⟩

theorem fib_kont : ∀ n : Nat, kont (List.replicate n 1) = fibL n ∧ kont (List.replicate (n + 1) 1) = fibL (n + 1)
  | 0 => ⟨rfl, rfl⟩
  | n + 1 => by
    obtain ⟨h1, h2⟩ := fib_kont n
    refine ⟨h2, ?_⟩
    show kont (1 :: 1 :: List.replicate n 1) = fibL (n + 1) + fibL n
    rw [kont, ← h1, ← h2, Int.one_mul]
    rfl
theorem ones_joined (n : Nat) : joinedL (List.replicate n [1]) = [fibL n] := by
  have h := joined_singles (List.replicate n 1) fun x hx => by rw [List.eq_of_mem_replicate hx]; exact Int.le_refl _
  rw [List.map_replicate, (fib_kont n).1] at h
  exact h
theorem fib_get (n k : Nat) (h : k < n) : ((List.range n).map fibL).getD k 0 = fibL k := by simp [h]
theorem ones_turn {oa nu wh la I L : Addr} {g h : Heap} {rest : List (Addr × Obj)} {x0 yy zz q : Int} {os : List Value} {c i tk : Nat} {tq tn ty tz : Tok} {oI : Obj} {m' : Str → Option Value} {s₁ : Shared}
    (F : Fr g L h m') (N : News g L h ((I, oI) :: (oa, listOf (os.toArray.push (Value.int q tq)) (c + 1)) :: rest)) (hos : IntsAre os ((List.range (i + 2)).map fibL))
    (ho : LCg.Off1 I ((oa, listOf os.toArray c) :: rest)) (hq : q = ((List.range (i + 2)).map fibL).getD (-1 + (((List.range (i + 2)).map fibL).length : Int)).toNat 0 + ((List.range (i + 2)).map fibL).getD (-2 + (((List.range (i + 2)).map fibL).length : Int)).toNat 0)
    (H : Has m' [(Str.ofString "ones", .ref oa), (Str.ofString "lines", .ref la), (Str.ofString "n", .int (3 + x0) tn), (Str.ofString "i", .int (1 + yy) ty), (Str.ofString "j", .int (1 + yy + zz) tz), (Str.ofString "whole", .ref wh), (Str.ofString "numbers", .ref nu)]) :
    JEnd g L (OnesJ oa rest nu wh la x0 yy zz (i + 1)) I oI s₁ { s₁ with heap := h, toks := tk } := by
  rw [List.push_toArray] at N
  refine JEnd.intro F N (.head _) (news' := (oa, listOf (List.toArray (os ++ [Value.int q tq])) (c + 1)) :: rest) (fun p hp => .tail _ hp) ⟨ho.1, ho.2⟩ ⟨_, _, _, _, _, rfl, ?_, H⟩
  have e : (List.range (i + 1 + 2)).map fibL = (List.range (i + 2)).map fibL ++ [q] := by
    rw [show i + 1 + 2 = (i + 2) + 1 by omega, List.range_succ, List.map_append, hq]
    congr 1
    have hl : ((List.range (i + 2)).map fibL).length = i + 2 := by simp
    rw [hl, show (-1 + ((i + 2 : Nat) : Int)).toNat = i + 1 by omega, show (-2 + ((i + 2 : Nat) : Int)).toNat = i by omega, fib_get _ _ (by omega), fib_get _ _ (by omega)]
    rfl
  rw [e]
  exact intsAre_snoc hos _ _
theorem RowsIn.rep {ts : List (Addr × Obj)} {a : Addr} {rvs : List Value} {k : Nat} {row : List Int} (hm : (a, listOf rvs.toArray k) ∈ ts) (hi : IntsAre rvs row) : ∀ n : Nat, RowsIn ts (List.replicate n (.ref a)) (List.replicate n row)
  | 0 => .nil
  | n + 1 => .cons hm hi (RowsIn.rep hm hi n)
def LawPost (h₀ : Heap) (L : Addr) (s : Shared) (f : Flow) (s' : Shared) : Prop := f = .ret (.bool true) ∧ ∃ h' tk m', s' = { s with heap := h', toks := tk } ∧ Fr h₀ L h' m'
theorem gen_Q {M : Model} {A : Around} {t : Sem Flow} {Q : Flow → Shared → Prop} {E : Value → Shared → Prop} {s : Shared} {h₀ : Heap} {L : Addr} {m : Str → Option Value} (_ : Fr h₀ L s.heap m) (h : wpAny M A t (LawPost h₀ L s) (fun _ _ => False) s)
    (hQ : ∀ h' tk m', Fr h₀ L h' m' → Q (.ret (.bool true)) { s with heap := h', toks := tk }) : wpAny M A t Q E s :=
  wpAny_mono h (by rintro _ _ ⟨rfl, h', tk, m', rfl, F⟩; exact hQ h' tk m' F) fun _ _ f => f.elim
theorem sz_lt {α : Type} {l : List α} {n : Nat} (h : l.length < n) (hn : n ≤ 16777216) : l.length ≤ 16777216 := Nat.le_trans (Nat.le_of_lt h) hn
theorem sz_turn {α : Type} {l : List α} {x0 : Int} {i : Nat} (h : l.length = i) (h0 : Hide (x0 < 4)) (hi : i < (3 + x0).toNat) : l.length ≤ 16777216 := by
  have h1 : x0 < 4 := h0
  omega
theorem sz_os {α : Type} {l : List α} {x0 : Int} {i : Nat} (h : l.length = i + 2) (h0 : Hide (x0 < 4)) (hi : i < (2 + x0).toNat) : l.length ≤ 16777216 := by
  have h1 : x0 < 4 := h0
  omega
theorem sp_100 {x0 sp : Int} {i : Nat} (h0 : Hide (x0 < 4)) (hi : i < (3 + x0).toNat) (h : sp ≤ 1 + 2 * (i : Int)) : sp ≤ 100 := by
  have h1 : x0 < 4 := h0
  omega
theorem sp_1002 {x0 sp : Int} (h0 : Hide (x0 < 4)) (h : sp ≤ 1 + 2 * (((3 + x0).toNat : Nat) : Int)) : sp ≤ 100 := by
  have h1 : x0 < 4 := h0
  omega
theorem turns_n {x0 : Int} : (3 + x0 + 1 - 1).toNat = (3 + x0).toNat := by omega
theorem R_9 {R : List Int} {x0 : Int} (h : R.length = (3 + x0).toNat) (h0 : Hide (x0 < 4)) : R.length ≤ 9 := by
  have h1 : x0 < 4 := h0
  omega
theorem n_len {rows : List (List Int)} {x0 : Int} (h : rows.length = (3 + x0).toNat) (h0 : 0 ≤ x0) : 3 + x0 = (rows.length : Int) ∧ 1 ≤ 3 + x0 := ⟨by omega, by omega⟩
theorem n_two {rows : List (List Int)} {x0 : Int} (h : rows.length = (3 + x0).toNat) (h0 : Hide (x0 < 4)) : (rows ++ rows.reverse).length < 100 := by
  have h1 : x0 < 4 := h0
  rw [List.length_append, List.length_reverse]; omega
theorem n_12 {rows : List (List Int)} {x0 : Int} (h : rows.length = (3 + x0).toNat) (h0 : Hide (x0 < 4)) : rows.length ≤ 12 := by
  have h1 : x0 < 4 := h0
  omega
theorem p_len {rows : List (List Int)} (hr : ∀ r ∈ rows, r.length ≤ 2 ∧ ∀ x ∈ r, -9 ≤ x ∧ x ≤ 9) (h : rows.length ≤ 12) (a b : Int) : (partL rows a b).length < 100 := by have := part_len rows a b hr; omega
theorem m_len {p q : List Int} (h : p.length < 300) (h' : q.length < 300) : (zmulL p q).length < 1000 := by have := zmulL_len p q; omega
theorem part_bounds {x0 yy zz : Int} (h0 : 0 ≤ x0) (hx : Hide (x0 < 4)) (y0 : 0 ≤ yy) (y1 : yy < 3 + x0) (z0 : 0 ≤ zz) (z1 : zz < 3 + x0 - (1 + yy) + 1) :
    1 ≤ 1 + yy ∧ 1 + yy ≤ 100 ∧ -9 ≤ 1 + yy + zz ∧ 1 + yy + zz ≤ 100 ∧ -9 ≤ 3 + x0 ∧ 3 + x0 ≤ 100 ∧ -9 ≤ 1 + yy - 2 ∧ 1 + yy - 2 ≤ 100 ∧ 1 ≤ 1 + yy + zz + 2 ∧ 1 + yy + zz + 2 ≤ 100 ∧ 1 ≤ 1 + yy + zz + 1 ∧ 1 + yy + zz + 1 ≤ 100 ∧ -9 ≤ 1 + yy + zz - 1 ∧ 1 + yy + zz - 1 ≤ 100 ∧
    -9 ≤ 3 + x0 - 1 ∧ 3 + x0 - 1 ≤ 100 ∧ 1 + yy ≤ 1 + yy + zz ∧ 1 + yy + zz ≤ 3 + x0 ∧ 1 ≤ 1 + yy + zz ∧ (1 : Int) ≤ 1 ∧ (1 : Int) ≤ 100 := by
  have h1 : x0 < 4 := hx
  refine ⟨?_, ?_, ?_, ?_, ?_, ?_, ?_, ?_, ?_, ?_, ?_, ?_, ?_, ?_, ?_, ?_, ?_, ?_, ?_, ?_, ?_⟩ <;> omega
theorem n_100 {rows : List (List Int)} {x0 : Int} (h : rows.length = (3 + x0).toNat) (h0 : Hide (x0 < 4)) : rows.length < 100 := by
  have h1 : x0 < 4 := h0
  omega
theorem n_6 {ns : List Int} {x0 : Int} (h : ns.length = (3 + x0).toNat) (h0 : Hide (x0 < 4)) : Hide (ns.length ≤ 6) := by
  have h1 : x0 < 4 := h0
  show ns.length ≤ 6
  omega
theorem n_200 {x0 : Int} (h0 : 0 ≤ x0) (h : Hide (x0 < 4)) : 0 ≤ 3 + x0 ∧ 3 + x0 ≤ 200 ∧ (3 + x0).toNat < (2 + x0).toNat + 2 := by
  have h1 : x0 < 4 := h
  omega
theorem v_9 {vv : Int} (h0 : 0 ≤ vv) (h1 : vv < 7) : -9 ≤ vv - 3 ∧ vv - 3 ≤ 9 ∧ -3 ≤ vv - 3 ∧ vv - 3 ≤ 3 := by omega
theorem pk_len {rows : List (List Int)} (h : ∀ a b, (partL rows a b).length < 100) (a b : Int) : (partL rows a b).length < 1000 := Nat.lt_trans (h a b) (by decide)
theorem pp_len {rows : List (List Int)} (h : ∀ a b, (partL rows a b).length < 100) (a b c d : Int) : (zmulL (partL rows a b) (partL rows c d)).length < 1000 := m_len (Nat.lt_trans (h a b) (by decide)) (Nat.lt_trans (h c d) (by decide))
theorem jp_len {rows : List (List Int)} (hj : (joinedL rows).length < 200) (h : ∀ a b, (partL rows a b).length < 100) (a b : Int) : (zmulL (joinedL rows) (partL rows a b)).length < 1000 := m_len (Nat.lt_trans hj (by decide)) (Nat.lt_trans (h a b) (by decide))
theorem jj_len {rows : List (List Int)} (hj : (joinedL rows).length < 200) : (zmulL (joinedL rows) (joinedL rows)).length < 1000 := m_len (Nat.lt_trans hj (by decide)) (Nat.lt_trans hj (by decide))
theorem rep_rows {h₀ h : Heap} {L D l2 a : Addr} {oD o2 : Obj} {rest : List (Addr × Obj)} {rvs : List Value} {k : Nat} {row : List Int} (_ : News h₀ L h ((D, oD) :: (l2, o2) :: (a, listOf rvs.toArray k) :: rest)) (hi : IntsAre rvs row) (n : Nat) :
    RowsIn ((D, oD) :: (l2, o2) :: (a, listOf rvs.toArray k) :: rest) (List.replicate n (.ref a)) (List.replicate n row) := RowsIn.rep (.tail _ (.tail _ (.head _))) hi n
theorem rep_small (n : Nat) : ∀ r ∈ List.replicate n [(1 : Int)], r.length ≤ 2 ∧ ∀ x ∈ r, -9 ≤ x ∧ x ≤ 9 := by
  intro r hr
  rw [List.eq_of_mem_replicate hr]
  refine ⟨by simp, fun x hx => ?_⟩
  rw [List.mem_singleton.mp hx]; omega
section
variable {prog : Program} {w : World} {A : Around} {E : Value → Shared → Prop} {s : Shared} {h₀ : Heap} {L l : Addr} {m : Str → Option Value} {news : List (Addr × Obj)} {x : Int} {u : Tok} {v : Value} {c : Nat} {Q : Value → Shared → Prop}
theorem mul_rep (F : Fr h₀ L s.heap m) (N : News h₀ L s.heap news) (hm : (l, listOf #[v] c) ∈ news) (h0 : 0 ≤ x) (h1 : x ≤ 200)
    (h : ∀ D h', Fr h₀ L h' m → News h₀ L h' ((D, listOf (List.replicate x.toNat v).toArray 0) :: news) → (∀ p ∈ news, p.1 < D) → Q (.ref D) { s with heap := h' }) : wpAny (model prog w) A (binaryOp .Mult (.ref l) (.int x u)) Q E s :=
  KMa.mul (vs := [v]) F N (isListN N hm) (by omega) (by omega) (by simp only [List.length_singleton]; omega) (by
    induction x.toNat with
    | zero => rfl
    | succ n ih => rw [List.replicate_succ, List.flatten_cons, ih]; rfl) h
theorem ne_ints {l' : Addr} {vs ws : List Value} {ns ms : List Int} {c' : Nat} (N : News h₀ L s.heap news) (hm : (l, listOf vs.toArray c) ∈ news) (hi : IntsAre vs ns) (hm' : (l', listOf ws.toArray c') ∈ news) (hi' : IntsAre ws ms) (hu : A.units + 64 < cLine)
    (h : Q (.bool (!decide (ns = ms))) s) : wpAny (model prog w) A (compareOp .NotEq (.ref l) (.ref l')) Q E s := ne_intsK (isListN N hm) hi (isListN N hm') hi' hu h
theorem add_refs {l' : Addr} {vs ws : List Value} {rows rows' : List (List Int)} {c' : Nat} (F : Fr h₀ L s.heap m) (N : News h₀ L s.heap news) (hm : (l, listOf vs.toArray c) ∈ news) (hR : RowsIn news vs rows) (hm' : (l', listOf ws.toArray c') ∈ news) (hR' : RowsIn news ws rows')
    (hz : rows.length < 100) (hz' : rows'.length < 100)
    (h : ∀ D zs h', Fr h₀ L h' m → News h₀ L h' ((D, listOf (List.toArray zs) 0) :: news) → (∀ p ∈ news, p.1 < D) → RowsIn news zs (rows ++ rows') → Q (.ref D) { s with heap := h' }) :
    wpAny (model prog w) A (binaryOp .Add (.ref l) (.ref l')) Q E s :=
  add_lists F N (isListN N hm) (isListN N hm') (fun h' F' N' => h _ (vs ++ ws) h' F' N' (fun p hp => Heap.lt_size (N p hp).1) (hR.append hR')) (by
    rw [hR.length, hR'.length]
    exact Nat.le_trans (by omega) (Nat.le_of_ble_eq_true rfl : 1000 ≤ sizeLine))
end
end Mine
namespace Mine
local macro_rules | `(tactic| omega) => `(tactic| first | with_reducible assumption | lia | omega +splitDisjunctions)
def absL (n : Int) : Int := 1 + (if n < 0 then -n else n)
theorem abs_bound {ns : List Int} (h : ∀ i, -6 ≤ ns.getD i 0 ∧ ns.getD i 0 ≤ 6) : ∀ x ∈ ns.map absL, 1 ≤ x ∧ x ≤ 7 := by
  intro x hx
  obtain ⟨y, hy, rfl⟩ := List.mem_map.mp hx
  obtain ⟨i, hi, rfl⟩ := List.mem_iff_getElem.mp hy
  have := h i
  have e : ns.getD i 0 = ns[i] := by simp [hi]
  rw [e] at this
  unfold absL
  split <;> omega
theorem abs_snoc (ns : List Int) (i : Nat) (hi : i < ns.length) : (ns.take (i + 1)).map absL = (ns.take i).map absL ++ [absL (ns.getD i 0)] := by rw [take_succ_getD ns i hi, List.map_append]; rfl
theorem ent_4 {h₀ h : Heap} {L : Addr} {a b c d : Addr × Obj} {r : List (Addr × Obj)} (_ : News h₀ L h (a :: b :: c :: d :: r)) : ∃ y : Addr × Obj, y = d := ⟨d, rfl⟩
def DueJ (du ro : Addr) (zr : List Value) (row : List Int) (rest : List (Addr × Obj)) (i : Nat) (m₁ : Str → Option Value) (news₁ : List (Addr × Obj)) : Prop :=
  ∃ dvs c ts, news₁ = (du, listOf (List.toArray dvs) c) :: (ts ++ (ro, LCg.lst zr) :: rest) ∧ LCg.Off1 du (ts ++ (ro, LCg.lst zr) :: rest) ∧ PairsIn ts dvs ((List.range i).map (convP row)) ∧ dvs.length = i ∧
    Has m₁ [(Str.ofString "row", .ref ro), (Str.ofString "due", .ref du)]
def IntPost (k : Int) (s : Shared) (r : Value) (s' : Shared) : Prop := ∃ u tk, r = .int k u ∧ s' = { s with toks := tk }
section
variable {A : Around} {E : Value → Shared → Prop} {s : Shared} {Q : Value → Shared → Prop}
theorem join_int {M : Model} {t : Sem Value} (k : Int) (h1 : wpAny M A t (IntPost k s) E s) (h2 : ∀ u tk, Q (.int k u) { s with toks := tk }) : wpAny M A t Q E s :=
  wpAny_mono h1 (by rintro _ _ ⟨u, tk, rfl, rfl⟩; exact h2 u tk) fun _ _ e => e
theorem int_post {k k' : Int} {s : Shared} {u : Tok} {tk : Nat} (h : k' = k) : IntPost k s (.int k' u) { s with toks := tk } := by subst h; exact ⟨u, tk, rfl, rfl⟩
end
end Mine
namespace Mine
local macro_rules | `(tactic| omega) => `(tactic| first | with_reducible assumption | lia | omega +splitDisjunctions)
def SingJ (S : List Int) (base : List (Addr × Obj)) (k : Nat) (zs : List Value) (news' : List (Addr × Obj)) : Prop :=
  ∃ es, news' = es ++ base ∧ RowsIn es zs ((S.take k).map fun x => [x])
theorem sing_turn {h₀ h' : Heap} {L I C D x ax : Addr} {m : Str → Option Value} {s₁ : Shared} {oI oC : Obj} {base es : List (Addr × Obj)} {zs' : List Value} {its : Array Value} {k kk tk : Nat} {c : Nat} {S : List Int} {t : Tok} {X : Prop}
    (F : Fr h₀ L h' m) (N : News h₀ L h' ((x, listOf #[Value.int (S.getD k 0) t] c) :: (I, oI) :: (C, oC) :: (D, LCg.lst zs') :: (es ++ base))) (hl : I < x ∧ C < x ∧ D < x ∧ X) (off : LCg.Off3 I C D (es ++ base))
    (hs : (ax, listOf its kk) ∈ base) (hes : RowsIn es zs' ((S.take k).map fun x => [x])) (hk : k < S.length) :
    LCg.CompEnd h₀ L m s₁ I oI C oC D (LCg.lst zs') (LCg.SrcAt h₀ ax its) (fun y news' => SingJ S base (k + 1) (zs' ++ [y]) news') (.ref x) { s₁ with heap := h', toks := tk } := by
  refine LCg.CompEnd.intro F N (((x, listOf #[Value.int (S.getD k 0) t] c) :: es) ++ base) (fun p hp => ?_) ⟨⟨Nat.ne_of_gt hl.1, Nat.ne_of_gt hl.2.1, Nat.ne_of_gt hl.2.2.1⟩, off⟩ (srcAt_of (List.mem_append_right _ hs)) ⟨_, rfl, ?_⟩
  · simp only [List.cons_append, List.mem_cons] at hp ⊢
    rcases hp with h | h | h | h | h
    · exact .inr (.inl h)
    · exact .inr (.inr (.inl h))
    · exact .inr (.inr (.inr (.inl h)))
    · exact .inl h
    · exact .inr (.inr (.inr (.inr h)))
  · rw [take_succ_getD S k hk, List.map_append]
    exact RowsIn.snoc (rvs := [Value.int (S.getD k 0) t]) (hes.mono fun p h => .tail _ h) (.head _) (.cons _ _ .nil)
theorem sing_rows {h₀ h : Heap} {L D : Addr} {o : Obj} {es base : List (Addr × Obj)} {zs : List Value} {rows : List (List Int)} (_ : News h₀ L h ((D, o) :: (es ++ base))) (hes : RowsIn es zs rows) : RowsIn ((D, o) :: (es ++ base)) zs rows := hes.mono fun p h => .tail _ (List.mem_append_left _ h)
theorem sing_small {S R : List Int} (h : ∀ x ∈ R, 1 ≤ x ∧ x ≤ 7) (hs : ∀ x ∈ S, x ∈ R) : ∀ r ∈ S.map (fun x => [x]), r.length ≤ 2 ∧ ∀ x ∈ r, -9 ≤ x ∧ x ≤ 9 := by
  intro r hr
  obtain ⟨y, hy, rfl⟩ := List.mem_map.mp hr
  refine ⟨by simp, fun x hx => ?_⟩
  rw [List.mem_singleton.mp hx]
  have := h y (hs y hy)
  omega
theorem sing_get {S R : List Int} {vs : List Value} (h : ∀ x ∈ R, 1 ≤ x ∧ x ≤ 7) (hs : ∀ x ∈ S, x ∈ R) (hi : IntsAre vs (joinedL (S.map fun x => [x]))) : ∃ t, vs[(0 : Int).toNat]? = some (.int (kont S) t) := by
  rw [joined_singles S fun x hx => (h x (hs x hx)).1] at hi
  exact hi.get 0 (kont S) rfl
theorem news_du {h₀ h : Heap} {L j D D1 : Addr} {oj oD o1 : Obj} {es base : List (Addr × Obj)} (N : News h₀ L h ((j, oj) :: (D, oD) :: (es ++ (D1, o1) :: base))) : News h₀ L h base := fun p hp => N p (.tail _ (.tail _ (List.mem_append_right _ (.tail _ hp))))
theorem due_turn {du ro I L T : Addr} {g h : Heap} {zr dvs : List Value} {R : List Int} {p q : Int} {tp tq : Tok} {c i tk : Nat} {ts : List (Addr × Obj)} {oI : Obj} {m' : Str → Option Value} {s₁ : Shared} {X : Prop}
    (F : Fr g L h m') (N : News g L h ((T, tupO [.int p tp, .int q tq]) :: (I, oI) :: (du, listOf (dvs.toArray.push (.ref T)) (c + 1)) :: (ts ++ [(ro, LCg.lst zr)])))
    (hod : LCg.Off1 du (ts ++ [(ro, LCg.lst zr)])) (ho : du ≠ I ∧ LCg.Off1 I (ts ++ [(ro, LCg.lst zr)])) (hl : I < T ∧ du < T ∧ X) (hP : PairsIn ts dvs ((List.range i).map (convP R))) (hdl : dvs.length = i) (hi : i < R.length)
    (hp : p = kont (R.take (i + 1))) (hq : q = kont ((R.take (i + 1)).drop 1)) (H : Has m' [(Str.ofString "row", .ref ro), (Str.ofString "due", .ref du)]) :
    JEnd g L (DueJ du ro zr R [] (i + 1)) I oI s₁ { s₁ with heap := h, toks := tk } := by
  rw [List.push_toArray] at N
  refine JEnd.intro F N (.tail _ (.head _)) (news' := (du, listOf (dvs ++ [Value.ref T]).toArray (c + 1)) :: (((T, tupO [.int p tp, .int q tq]) :: ts) ++ [(ro, LCg.lst zr)])) (fun x hx => ?_) ⟨ho.1, Nat.ne_of_gt hl.1, ho.2⟩ ⟨_, _, (T, tupO [.int p tp, .int q tq]) :: ts, rfl, ⟨Nat.ne_of_gt hl.2.1, hod⟩, ?_, by simp [hdl], H⟩
  · simp only [List.cons_append, List.mem_cons] at hx ⊢
    rcases hx with h | h | h
    · exact .inr (.inr (.inl h))
    · exact .inl h
    · exact .inr (.inr (.inr h))
  · rw [List.range_succ, List.map_append]
    show PairsIn _ _ (_ ++ [convP R i])
    rw [conv_pair R i hi, ← hp, ← hq]
    exact PairsIn.snoc (hP.mono fun x hx => .tail _ hx) (.head _)
theorem slice2_eq (R : List Int) (i : Nat) (hi : i < R.length) : List.take (min (1 + (i : Int)).toNat R.length - 1) (List.drop 1 R) = (R.take (i + 1)).drop 1 := by
  rw [List.drop_take]
  congr 1
  omega
theorem slice1_eq (R : List Int) (i : Nat) : List.take (1 + (i : Int)).toNat R = R.take (i + 1) := by
  congr 1
  omega
end Mine
namespace Mine
local macro_rules | `(tactic| walk_at "mine pad") => `(tactic| skip)
local macro_rules | `(tactic| walk_at "mine pad") => `(tactic| skip)
local macro_rules | `(tactic| walk_at "mine pad") => `(tactic| skip)
local macro_rules | `(tactic| walk_at "mine pad") => `(tactic| skip)
local macro_rules | `(tactic| walk_at "mine pad") => `(tactic| skip)
local macro_rules | `(tactic| walk_at "mine pad") => `(tactic| skip)
local macro_rules | `(tactic| walk_at "mine pad") => `(tactic| skip)
local macro_rules | `(tactic| walk_at "mine pad") => `(tactic| skip)
local macro_rules | `(tactic| walk_at "mine pad") => `(tactic| skip)
local macro_rules | `(tactic| omega) => `(tactic| first | with_reducible assumption | omega +splitDisjunctions)
local macro_rules | `(tactic| walk_at "mine take") => `(tactic| first | exact TakeOut.head | (refine' TakeOut.tail ?a; (case a => walk_at "mine take")))
local macro_rules | `(tactic| walk_at "mine off") => `(tactic| first | with_reducible assumption | exact trivial | (refine' And.intro ?a ?b; (case a => k_ne); (case b => walk_at "mine off")))
local macro_rules | `(tactic| is_list) => `(tactic| exact isListN (by k_asm) (by k_mem))
local macro_rules | `(tactic| k_mem) => `(tactic| assumption)
local macro_rules | `(tactic| k_all) => `(tactic| exact off1_mem (by assumption))
local macro_rules | `(tactic| walk_at "exec For Tuple Call cons nil") => `(tactic| (k_here; k_dflt (refine' For_turns ?F ?_; (case F => k_asm))))
local macro_rules | `(tactic| walk_at "exec For Name Name cons nil") => `(tactic| (k_here; (rename Fr _ _ _ _ => lF'); (with_unfolding_all refine' For_invVF lF' ?k1 ?k2 ?_; (case k1 => exact rfl); (case k2 => exact rfl); k_whole)))
local macro_rules | `(tactic| walk_at "call builtin:len") => `(tactic| (k_here; (with_reducible show wpAny _ _ (call (Value.builtin "len") [Value.ref _]) _ _ _); k_dflt (refine' len_refs ?N ?m ?n ?e ?f ?_; (case N => k_asm); (case m => k_mem); (case e => first | with_reducible assumption | exact RowsIn.length (by assumption)); (case f => omega); k_whole)))
local macro_rules | `(tactic| walk_at "subscriptTail") => `(tactic| (k_here; (with_reducible show wpAny _ _ (subscriptTail _ _ (Value.ref _) (Value.int _ _)) _ _ _); k_dflt (refine' item_refs ?N ?m ?a ?b ?x ?_ ?s ?t; (case N => k_asm); (case m => k_mem); (case x => with_reducible assumption); (case a => omega); (case b => omega); (case s => with_unfolding_all rfl); (case t => kmk_pure); k_whole)))
local macro_rules | `(tactic| walk_at "getItem ref int") => `(tactic| (k_here; (with_reducible show wpAny _ _ (getItem (Value.ref _) (Value.int _ _)) _ _ _); k_dflt (refine' get_refs ?N ?m ?a ?b ?x ?_; (case N => k_asm); (case m => k_mem); (case x => with_reducible assumption); (case a => omega); (case b => omega); k_whole)))
local macro_rules | `(tactic| walk_at "subscriptTail Name Slice ref ref") => `(tactic| (k_here; (with_reducible show wpAny _ _ (subscriptTail _ (PySem.Expr.Slice (some _) (some _) none _) (Value.ref _) (Value.ref _)) _ _ _); k_dflt (refine' slice_refs ?F ?N ?m ?R ?a ?b ?z ?_ ?s ?t; (case F => k_asm); (case N => k_asm); (case m => k_mem); (case R => first | assumption | exact RowsIn.mono (by assumption) (by intro p h; repeat (first | exact h | refine List.mem_cons_of_mem _ ?_))); (case a => omega); (case b => omega); (case z => omega); (case s => with_unfolding_all rfl); (case t => kmk_pure)); intro D' zs' h' F' N' l1 hR'; (try k_lt l1); (try k_sweep)))
local macro_rules | `(tactic| walk_at "subscriptTail Name Slice ref ref") => `(tactic| (k_here; (with_reducible show wpAny _ _ (subscriptTail _ (PySem.Expr.Slice none none (some _) _) (Value.ref _) (Value.ref _)) _ _ _); k_dflt (refine' rev_refs ?F ?N ?m ?R ?z ?_ ?s ?t; (case F => k_asm); (case N => k_asm); (case m => k_mem); (case R => first | assumption | exact RowsIn.mono (by assumption) (by intro p h; repeat (first | exact h | refine List.mem_cons_of_mem _ ?_))); (case z => omega); (case s => with_unfolding_all rfl); (case t => kmk_pure)); intro D' zs' h' F' N' l1 hR'; (try k_lt l1); (try k_sweep)))
local macro_rules | `(tactic| walk_at "exec For Name Call cons nil") => `(tactic| (k_here; (rename Fr _ _ _ _ => lF'); (with_unfolding_all refine' For_invVF lF' ?k1 ?k2 ?_; (case k1 => exact rfl); (case k2 => exact rfl); k_whole)))
local macro_rules | `(tactic| walk_at "binaryOp Mult ref int") => `(tactic| (k_here; (with_reducible show wpAny _ _ (binaryOp Operator.Mult (Value.ref _) (Value.int _ _)) _ _ _); k_dflt (refine' mul_rep ?F ?N ?m ?a ?b ?_; (case F => k_asm); (case N => k_asm); (case m => exact List.mem_cons_self ..); (case a => first | assumption | omega); (case b => first | assumption | omega); k_whole); intro D' h' F' N' l1; (try k_lt l1); (try k_sweep)))
local macro_rules | `(tactic| walk_at "binaryOp Add ref ref") => `(tactic| (k_here; (with_reducible show wpAny _ _ (binaryOp Operator.Add (Value.ref _) (Value.ref _)) _ _ _); k_dflt (refine' add_refs ?F ?N ?m ?R ?mm ?RR ?z ?zz ?_; (case F => k_asm); (case N => k_asm); (case m => k_mem); (case R => first | assumption | exact RowsIn.mono (by assumption) (by intro p h; repeat (first | exact h | refine List.mem_cons_of_mem _ ?_))); (case mm => k_mem); (case RR => first | assumption | exact RowsIn.mono (by assumption) (by intro p h; repeat (first | exact h | refine List.mem_cons_of_mem _ ?_))); (case z => assumption); (case zz => assumption); k_whole); intro D' zs' h' F' N' l1 hR'; (try k_lt l1); (try k_sweep)))
local macro_rules | `(tactic| walk_at "compareOp Eq ref ref") => `(tactic| (k_here; (with_reducible show wpAny _ _ (compareOp CmpOp.Eq (Value.ref _) (Value.ref _)) _ _ _); k_dflt (refine' eq_pairs ?N ?a ?P ?b ?R ?u ?_; (case N => k_asm); (case a => k_mem); (case b => k_mem); (case P => first | assumption | exact PairsIn.mono (by assumption) (by intro p h; repeat (first | exact h | exact List.mem_append_left _ h | refine List.mem_cons_of_mem _ ?_))); (case R => first | assumption | exact PairsIn.mono (by assumption) (by intro p h; repeat (first | exact h | exact List.mem_append_left _ h | refine List.mem_cons_of_mem _ ?_))); (case u => ktr_units)); (try simp only [decide_true])))
set_option maxRecDepth 100000 in
set_option maxHeartbeats 100000000 in
theorem law_holds : PySem.Challenge.rw_xm0115_01.Holds := H.hd (by
  w_top off
  k_go0
  rename Fr _ _ _ _ => FG
  refine gen_Q FG ?wkQ ?clQ
  case clQ =>
    intro h' tk m' F'
    (try dsimp only)
    k_steps
  iterate 30 walk1
  rename IntsAre _ (List.map _ (List.take 16 _)) => hps0
  obtain ⟨ps, hps, hpl16⟩ : ∃ ps, IntsAre _ ps ∧ ps.length ≤ 16 := ⟨_, hps0, by rw [List.length_map]; exact List.length_take_le 16 _⟩
  clear hps0
  iterate 5 walk1
  k_here
  k_dflt (refine' con_use (draw_c _ _ _ _ _ _ _ ?hmx0 ?hpx0 ?hlx0 _ _ ?s0x0 ?s1x0 _ _ ?m1x0 ?m2x0 ?o2x0) ?k1x0 ?k2x0 ?k3x0 ?k4x0 ?k5x0 ?kKx0 ?kdx0 ?kux0 ?_)
  (case k1x0 => k_asm)
  (case k2x0 => k_asm)
  (case k3x0 => k_asm)
  (case k4x0 => exact news_front (by k_asm) (by walk_at "mine take"))
  (case k5x0 => k_asm)
  (case kKx0 => first | exact rfl | assumption)
  (case hmx0 => k_mem)
  (case hpx0 => with_reducible assumption)
  (case hlx0 => first | assumption | omega)
  (case s0x0 => omega)
  (case s1x0 => omega)
  (case m1x0 => omega)
  (case m2x0 => omega)
  (case o2x0 => walk_at "mine off")
  (case kdx0 => ktr_room)
  (case kux0 => ktr_units)
  k_whole
  rintro news' r' h' tk' F' N' ⟨x0, tx0, ux0, rfl, h0x0, h1x0, rfl⟩
  (try dsimp only)
  (try k_fold)
  (try k_sweep)
  have hx4 : Hide (x0 < 4) := h1x0
  have hx9 : x0 < 900 := Int.lt_trans h1x0 (by decide)
  clear h1x0
  iterate 19 walk1
  rename IsRange _ _ _ _ _ _ _ _ => RX
  rename News _ _ _ _ => NX
  rename Fr _ _ _ _ => FX
  obtain ⟨la, ela⟩ := name_1 NX
  subst ela
  obtain ⟨pa, epa⟩ := name_2 NX
  subst epa
  obtain ⟨p0, ep0⟩ := name_3 NX
  subst ep0
  obtain ⟨e3, he3⟩ := ent_5 NX
  have hoP : LCg.Off1 pa [(la, listOf #[] 0), (p0, LCg.lst ys), e3] := by rw [he3]; walk_at "mine off"
  have hoL : LCg.Off1 la [(p0, LCg.lst ys), e3] := by rw [he3]; walk_at "mine off"
  have NY : News _ _ _ [(pa, _), (la, _), (p0, _), e3] := fun q hq => NX q (by
    rw [he3] at hq
    simp only [List.mem_cons, List.not_mem_nil, or_false] at hq ⊢
    rcases hq with h | h | h | h
    · exact .inr (.inl h)
    · exact .inl h
    · exact .inr (.inr (.inl h))
    · exact .inr (.inr (.inr (.inr h))))
  clear NX
  with_unfolding_all refine' iter_rangeJ (n := (3 + x0).toNat) ?hhA RX ?hsmA ?hszA FX NY (LawJ pa la p0 0 ys e3 x0) ?h0A ?turnA ?doneA
  case hhA => exact rfl
  case hsmA => exact range_small' _ _ (by omega) (by omega) (by omega) (by omega)
  case hszA => exact range_size' _ _ _ (by omega)
  case h0A => exact ⟨[], 0, _, _, _, [], [], rfl, hoP, hoL, trivial, .nil, rfl, (fun r hr => nomatch hr), by omega, by omega, has_cons rfl (has_cons rfl (has_cons rfl has_nil))⟩
  case turnA =>
    rintro I i ti m₁ news₁ h₁ tk₁ oI hil ⟨vs, kl, sp, ts, tn, rows, ents, rfl, ho1, ho2, hoC, hR, hrl, hrows, hsp0, hsp1, H⟩ ho F₁ N₁
    clear RX FX NY
    subst he3
    have hoC2 := hoC
    dsimp only at hoC
    rw [map_has H] at F₁
    have hpe : LCg.Off1 pa ents := ho1.2.2.2
    have hle : LCg.Off1 la ents := ho2.2.2
    have hIe : LCg.Off1 I ents := ho.2.2.2.2
    have hspb : sp ≤ 100 := sp_100 hx4 hil hsp1
    have hoL2 := ho2
    have hoP2 := ho1
    have hoI2 := ho
    have hIpa : I ≠ pa := ho.1.symm
    have hIla : I ≠ la := ho.2.1.symm
    have hlpa : la ≠ pa := ho1.1
    have hvz : vs.length ≤ 16777216 := sz_turn (hR.length.trans hrl) hx4 hil
    have hvl : vs.length = i := hR.length.trans hrl
    simp only [LCg.Off1] at ho ho1 ho2
    iterate 12 walk1
    k_here
    k_dflt (refine' con_use (draw_c _ _ _ _ _ _ _ ?hmcc ?hpcc ?hlcc _ _ ?s0cc ?s1cc _ _ ?m1cc ?m2cc ?o2cc) ?k1cc ?k2cc ?k3cc ?k4cc ?k5cc ?kKcc ?kdcc ?kucc ?_)
    (case k1cc => k_asm)
    (case k2cc => k_asm)
    (case k3cc => k_asm)
    (case k4cc => exact news_front (by k_asm) (by walk_at "mine take"))
    (case k5cc => k_asm)
    (case kKcc => first | exact rfl | assumption)
    (case hmcc => k_mem)
    (case hpcc => with_reducible assumption)
    (case hlcc => first | assumption | omega)
    (case s0cc => omega)
    (case s1cc => omega)
    (case m1cc => omega)
    (case m2cc => omega)
    (case o2cc => walk_at "mine off")
    (case kdcc => ktr_room)
    (case kucc => ktr_units)
    k_whole
    rintro news' r' h' tk' F' N' ⟨cc, tcc, ucc, rfl, h0cc, h1cc, rfl⟩
    (try dsimp only)
    (try k_fold)
    (try k_sweep)
    iterate 27 walk1
    k_here
    k_dflt (refine' con_use (draw_c _ _ _ _ _ _ _ ?hmdd ?hpdd ?hldd _ _ ?s0dd ?s1dd _ _ ?m1dd ?m2dd ?o2dd) ?k1dd ?k2dd ?k3dd ?k4dd ?k5dd ?kKdd ?kddd ?kudd ?_)
    (case k1dd => k_asm)
    (case k2dd => k_asm)
    (case k3dd => k_asm)
    (case k4dd => exact news_front (by k_asm) (by walk_at "mine take"))
    (case k5dd => k_asm)
    (case kKdd => first | exact rfl | assumption)
    (case hmdd => k_mem)
    (case hpdd => with_reducible assumption)
    (case hldd => first | assumption | omega)
    (case s0dd => omega)
    (case s1dd => omega)
    (case m1dd => omega)
    (case m2dd => omega)
    (case o2dd => walk_at "mine off")
    (case kddd => ktr_room)
    (case kudd => ktr_units)
    k_whole
    rintro news' r' h' tk' F' N' ⟨dd, tdd, udd, rfl, h0dd, h1dd, rfl⟩
    (try dsimp only)
    (try k_fold)
    (try k_sweep)
    iterate 4 walk1
    k_here
    k_dflt (refine' con_use (line_c _ _ _ _ _) ?k1xx ?k2xx ?k3xx ?k4xx ?k5xx ?kKxx ?kdxx ?kuxx ?_)
    (case k1xx => k_asm)
    (case k2xx => k_asm)
    (case k3xx => k_asm)
    (case k4xx => k_asm)
    (case k5xx => k_asm)
    (case kKxx => first | exact rfl | assumption)
    (case kdxx => ktr_room)
    (case kuxx => ktr_units)
    k_whole
    rintro news' r' h' tk' F' N' ⟨xx, vxx, nxx, rfl, rfl, oxx, ixx⟩
    (try simp only [LCg.Off1, and_true] at oxx)
    (try dsimp only)
    (try k_fold)
    (try k_sweep)
    have hxla : xx ≠ la := oxx.2.2.1.symm
    have hxpa : xx ≠ pa := oxx.1.symm
    k_steps
    rename Fr _ _ _ _ => Fz
    rename News _ _ _ _ => Nz
    rw [List.push_toArray] at Nz
    exact law_turn Fz Nz hR hrl hrows (by omega) (by omega) (by omega) (by omega) hsp0 hsp1 ixx hoP2 hoL2 hoI2 oxx hoC2 (has_cons rfl (has_cons rfl (has_cons rfl has_nil)))
  case doneA =>
    rintro h₁ tk₁ m₁ news₁ ⟨vs, kl, sp, ts, tn, rows, ents, rfl, ho1, ho2, hoC, hR, hrl, hrows, hsp0, hsp1, H⟩ F₁ N₁
    clear RX FX NY
    subst he3
    have hoC2 := hoC
    dsimp only at hoC
    rw [map_has H] at F₁
    have hpe : LCg.Off1 pa ents := ho1.2.2.2
    have hle : LCg.Off1 la ents := ho2.2.2
    have hspb : sp ≤ 100 := sp_1002 hx4 hsp1
    have hoL2 := ho2
    have hoP2 := ho1
    simp only [LCg.Off1] at ho1 ho2
    have hvl : vs.length = (3 + x0).toNat := hR.length.trans hrl
    have hr100 : rows.length < 100 := n_100 hrl hx4
    have hr2 := lines_small hrows
    iterate 13 walk1
    k_here
    k_dflt (refine' con_use (draw_c _ _ _ _ _ _ _ ?hmyy ?hpyy ?hlyy _ _ ?s0yy ?s1yy _ _ ?m1yy ?m2yy ?o2yy) ?k1yy ?k2yy ?k3yy ?k4yy ?k5yy ?kKyy ?kdyy ?kuyy ?_)
    (case k1yy => k_asm)
    (case k2yy => k_asm)
    (case k3yy => k_asm)
    (case k4yy => exact news_front (by k_asm) (by walk_at "mine take"))
    (case k5yy => k_asm)
    (case kKyy => first | exact rfl | assumption)
    (case hmyy => k_mem)
    (case hpyy => with_reducible assumption)
    (case hlyy => first | assumption | omega)
    (case s0yy => omega)
    (case s1yy => omega)
    (case m1yy => omega)
    (case m2yy => omega)
    (case o2yy => walk_at "mine off")
    (case kdyy => ktr_room)
    (case kuyy => ktr_units)
    k_whole
    rintro news' r' h' tk' F' N' ⟨yy, tyy, uyy, rfl, h0yy, h1yy, rfl⟩
    (try dsimp only)
    (try k_fold)
    (try k_sweep)
    iterate 22 walk1
    k_here
    k_dflt (refine' con_use (draw_c _ _ _ _ _ _ _ ?hmzz ?hpzz ?hlzz _ _ ?s0zz ?s1zz _ _ ?m1zz ?m2zz ?o2zz) ?k1zz ?k2zz ?k3zz ?k4zz ?k5zz ?kKzz ?kdzz ?kuzz ?_)
    (case k1zz => k_asm)
    (case k2zz => k_asm)
    (case k3zz => k_asm)
    (case k4zz => exact news_front (by k_asm) (by walk_at "mine take"))
    (case k5zz => k_asm)
    (case kKzz => first | exact rfl | assumption)
    (case hmzz => k_mem)
    (case hpzz => with_reducible assumption)
    (case hlzz => first | assumption | omega)
    (case s0zz => omega)
    (case s1zz => omega)
    (case m1zz => omega)
    (case m2zz => omega)
    (case o2zz => walk_at "mine off")
    (case kdzz => ktr_room)
    (case kuzz => ktr_units)
    k_whole
    rintro news' r' h' tk' F' N' ⟨zz, tzz, uzz, rfl, h0zz, h1zz, rfl⟩
    (try dsimp only)
    (try k_fold)
    (try k_sweep)
    iterate 15 walk1
    k_here
    k_dflt (refine' con_use (draw_c _ _ _ _ _ _ _ ?hmvv ?hpvv ?hlvv _ _ ?s0vv ?s1vv _ _ ?m1vv ?m2vv ?o2vv) ?k1vv ?k2vv ?k3vv ?k4vv ?k5vv ?kKvv ?kdvv ?kuvv ?_)
    (case k1vv => k_asm)
    (case k2vv => k_asm)
    (case k3vv => k_asm)
    (case k4vv => exact news_front (by k_asm) (by walk_at "mine take"))
    (case k5vv => k_asm)
    (case kKvv => first | exact rfl | assumption)
    (case hmvv => k_mem)
    (case hpvv => with_reducible assumption)
    (case hlvv => first | assumption | omega)
    (case s0vv => omega)
    (case s1vv => omega)
    (case m1vv => omega)
    (case m2vv => omega)
    (case o2vv => walk_at "mine off")
    (case kdvv => ktr_room)
    (case kuvv => ktr_units)
    k_whole
    rintro news' r' h' tk' F' N' ⟨vv, tvv, uvv, rfl, h0vv, h1vv, rfl⟩
    (try dsimp only)
    (try k_fold)
    (try k_sweep)
    obtain ⟨hv1, hv2, hv3, hv4⟩ := v_9 h0vv h1vv
    iterate 15 walk1
    k_here
    k_dflt (refine' con_use (joined_c _ _ _ _ _ ?hmwh ?hRwh ?hlwh ?h2wh) ?k1wh ?k2wh ?k3wh ?k4wh ?k5wh ?kKwh ?kdwh ?kuwh ?_)
    (case k1wh => k_asm)
    (case k2wh => k_asm)
    (case k3wh => k_asm)
    (case k4wh => k_asm)
    (case k5wh => k_asm)
    (case kKwh => first | exact rfl | assumption)
    (case hmwh => k_mem)
    (case hRwh => first | assumption | exact RowsIn.mono (by assumption) (by intro p h; repeat (first | exact h | refine List.mem_cons_of_mem _ ?_)))
    (case hlwh => first | assumption | omega | l_fit)
    (case h2wh => assumption)
    (case kdwh => ktr_room)
    (case kuwh => ktr_units)
    k_whole
    rintro news' r' h' tk' F' N' ⟨wh, vwh, nwh, rfl, rfl, owh, iwh⟩
    (try simp only [LCg.Off1, and_true] at owh)
    (try dsimp only)
    (try k_fold)
    (try k_sweep)
    iterate 1 walk1
    rename News _ _ _ _ => NX
    obtain ⟨e5, he5⟩ := ent_5 NX
    have NW : News _ _ _ ((wh, listOf vwh.toArray nwh) :: (la, listOf vs.toArray kl) :: e5 :: ents) := fun q hq => NX q (by
      simp only [List.mem_cons] at hq ⊢
      rcases hq with h | h | h | h
      · exact .inl h
      · exact .inr (.inr (.inl h))
      · exact .inr (.inr (.inr (.inr (.inl (h.trans he5)))))
      · exact .inr (.inr (.inr (.inr (.inr h)))))
    clear NX
    k_here
    k_dflt (refine LCg.ListComp_U (F₀ := by k_asm) (by with_unfolding_all rfl) (by decide) (by rfl) (by decide) (by rfl) ?_)
    walk1
    refine LCg.CompSrc.ledger rfl (by k_asm) NW (.tail _ (.head _)) (by rw [List.size_toArray]; exact Nat.le_trans (by omega) (Nat.le_of_ble_eq_true rfl : 1000 ≤ sizeLine)) ?_
    intro gC
    refine comp_J (n := vs.length) (fun i zs news' => news' = (wh, listOf vwh.toArray nwh) :: (la, listOf vs.toArray kl) :: e5 :: ents ∧ IntsAre zs ((rows.take i).map fun r => zatL r (vv - 3))) ?turnC ?finC _ _ _ _ (by simp) ⟨rfl, .nil⟩
    case turnC =>
      rintro i zs _ v I oI C oC D m₂ h₁ tk₁ E' hi' hv ⟨rfl, hyI⟩ hC hx F₁ N₁ off ne
      subst he5
      obtain ⟨ra, rvs, rn, rfl, hra, hrI, hil⟩ := hR.get (by simpa using hv)
      have hrl2 := (hr2 (rows.getD i []) (getD_mem hil)).1
      iterate 10 walk1
      k_here
      k_dflt (refine' con_use (zat_c _ _ _ _ _ ?hmzt ?hizt ?hlzt _ _ ?c1zt ?c2zt) ?k1zt ?k2zt ?k3zt ?k4zt ?k5zt ?kKzt ?kdzt ?kuzt ?_)
      (case k1zt => k_asm)
      (case k2zt => k_asm)
      (case k3zt => k_asm)
      (case k4zt => k_asm)
      (case k5zt => k_asm)
      (case kKzt => first | exact rfl | assumption)
      (case hmzt => k_mem)
      (case hizt => with_reducible assumption)
      (case hlzt => first | assumption | omega | l_fit)
      (case c1zt => first | assumption | omega | decide)
      (case c2zt => first | assumption | omega | decide)
      (case kdzt => ktr_room)
      (case kuzt => ktr_units)
      k_whole
      rintro news' r' h' tk' F' N' ⟨rfl, tzt, rfl⟩
      (try dsimp only)
      (try k_fold)
      (try k_sweep)
      k_steps
      rename Fr _ _ _ _ => Fz
      rename News _ _ _ _ => Nz
      exact LCg.CompEnd.intro Fz Nz _ (fun p hp => hp) off (srcAt_of (.tail _ (.head _))) ⟨rfl, by rw [takeD_succ rows i hil, List.map_append]; exact intsAre_snoc hyI _ _⟩
    case finC =>
      rintro zs _ ⟨rfl, hyI⟩
      subst he5
      have hvr : vs.length = rows.length := hR.length
      rw [hvr, List.take_length] at hyI
      obtain ⟨ns, hns⟩ : ∃ ns, ns = rows.map fun r => zatL r (vv - 3) := ⟨_, rfl⟩
      rw [← hns] at hyI
      have hnl : ns.length = (3 + x0).toNat := by rw [hns, List.length_map, hrl]
      have hn6 : Hide (ns.length ≤ 6) := n_6 hnl hx4
      have hn9 : ns.length < 1000 := by omega
      have hnb : ∀ i, -6 ≤ ns.getD i 0 ∧ ns.getD i 0 ≤ 6 := by rw [hns]; exact num_bound hrows hv3 hv4
      have hwl : (joinedL rows).length < 200 := by have := joinedL_len rows (fun r hr => (hr2 r hr).1); omega
      have hjoin : zatL (joinedL rows) (vv - 3) = kont ns := by rw [hns]; exact joined_kont rows _
      iterate 25 walk1
      k_here
      k_dflt (refine' con_use (zat_c _ _ _ _ _ ?hmza ?hiza ?hlza _ _ ?c1za ?c2za) ?k1za ?k2za ?k3za ?k4za ?k5za ?kKza ?kdza ?kuza ?_)
      (case k1za => k_asm)
      (case k2za => k_asm)
      (case k3za => k_asm)
      (case k4za => k_asm)
      (case k5za => k_asm)
      (case kKza => first | exact rfl | assumption)
      (case hmza => k_mem)
      (case hiza => with_reducible assumption)
      (case hlza => first | assumption | omega | l_fit)
      (case c1za => first | assumption | omega | decide)
      (case c2za => first | assumption | omega | decide)
      (case kdza => ktr_room)
      (case kuza => ktr_units)
      k_whole
      rintro news' r' h' tk' F' N' ⟨rfl, tza, rfl⟩
      (try dsimp only)
      (try k_fold)
      (try k_sweep)
      iterate 11 walk1
      k_here
      k_dflt (refine' con_use (table_c _ _ _ _ _ ?hmtb ?hitb ?hltb) ?k1tb ?k2tb ?k3tb ?k4tb ?k5tb ?kKtb ?kdtb ?kutb ?_)
      (case k1tb => k_asm)
      (case k2tb => k_asm)
      (case k3tb => k_asm)
      (case k4tb => k_asm)
      (case k5tb => k_asm)
      (case kKtb => first | exact rfl | assumption)
      (case hmtb => k_mem)
      (case hitb => with_reducible assumption)
      (case hltb => exact hn6)
      (case kdtb => ktr_room)
      (case kutb => ktr_units)
      k_whole
      rintro news' r' h' tk' F' N' ⟨fa, fvs, fc, fts, rfl, rfl, hfR⟩
      (try dsimp only)
      (try k_fold)
      (try k_sweep)
      have hfl : ((List.range ns.length).map (tabRow ns ns.length)).length = ns.length := by simp
      have hfr : ∀ r ∈ (List.range ns.length).map (tabRow ns ns.length), r.length = ns.length := fun r hr => by
        obtain ⟨i, _, rfl⟩ := List.mem_map.mp hr
        simp [tabRow]
      iterate 2 walk1
      k_here
      k_dflt (refine' con_use (det_c _ _ _ _ _ _ ?hmde ?hRde ns rfl hn6 hnb hfl hn9 hfr (tab_Mx ns)) ?k1de ?k2de ?k3de ?k4de ?k5de ?kKde ?kdde ?kude ?_)
      (case k1de => k_asm)
      (case k2de => k_asm)
      (case k3de => k_asm)
      (case k4de => k_asm)
      (case k5de => k_asm)
      (case kKde => first | exact rfl | assumption)
      (case hmde => exact List.mem_cons_self ..)
      (case hRde => exact hfR.mono fun p h => List.mem_cons_of_mem _ (List.mem_append_left _ h))
      (case kdde => ktr_room)
      (case kude => ktr_units)
      k_whole
      rintro news' r' h' tk' F' N' ⟨rfl, tde, rfl⟩
      (try dsimp only)
      (try k_fold)
      (try k_sweep)
      rename News _ _ _ _ => NX
      have NX1 := news_tl NX
      have NX2 : News _ _ _ _ := fun p hp => NX1 p (List.mem_append_right _ hp)
      clear NX NX1
      iterate 3 walk1
      all_goals (try exact absurd hjoin (by assumption))
      iterate 11 walk1
      k_here
      k_dflt (refine' con_use (zat_c _ _ _ _ _ ?hmzb ?hizb ?hlzb _ _ ?c1zb ?c2zb) ?k1zb ?k2zb ?k3zb ?k4zb ?k5zb ?kKzb ?kdzb ?kuzb ?_)
      (case k1zb => k_asm)
      (case k2zb => k_asm)
      (case k3zb => k_asm)
      (case k4zb => k_asm)
      (case k5zb => k_asm)
      (case kKzb => first | exact rfl | assumption)
      (case hmzb => k_mem)
      (case hizb => with_reducible assumption)
      (case hlzb => first | assumption | omega | l_fit)
      (case c1zb => first | assumption | omega | decide)
      (case c2zb => first | assumption | omega | decide)
      (case kdzb => ktr_room)
      (case kuzb => ktr_units)
      k_whole
      rintro news' r' h' tk' F' N' ⟨rfl, tzb, rfl⟩
      (try dsimp only)
      (try k_fold)
      (try k_sweep)
      iterate 7 walk1
      k_here
      k_dflt (refine' con_use (prod_c _ _ _ _ _ ?hmpr ?hipr ?hlpr ?hbpr) ?k1pr ?k2pr ?k3pr ?k4pr ?k5pr ?kKpr ?kdpr ?kupr ?_)
      (case k1pr => k_asm)
      (case k2pr => k_asm)
      (case k3pr => k_asm)
      (case k4pr => k_asm)
      (case k5pr => k_asm)
      (case kKpr => first | exact rfl | assumption)
      (case hmpr => k_mem)
      (case hipr => with_reducible assumption)
      (case hlpr => exact hn6)
      (case hbpr => exact fun i => by have := hnb i; omega)
      (case kdpr => ktr_room)
      (case kupr => ktr_units)
      k_whole
      rintro news' r' h' tk' F' N' ⟨tpr, rfl, rfl⟩
      (try dsimp only)
      (try k_fold)
      (try k_sweep)
      iterate 3 walk1
      all_goals (try exact absurd hjoin (by assumption))
      iterate 28 walk1
      rename IsRange _ _ _ _ _ _ _ _ => RX
      rename News _ _ _ _ => NX
      rename Fr _ _ _ _ => FX
      obtain ⟨oa, eoa⟩ := name_1 NX
      subst eoa
      obtain ⟨nu, enu⟩ := name_3 NX
      subst enu
      obtain ⟨e6, he6⟩ := ent_6 NX
      have NY : News _ _ _ ((oa, _) :: (nu, LCg.lst zs) :: (wh, listOf vwh.toArray nwh) :: (la, listOf vs.toArray kl) :: e6 :: ents) := fun q hq => NX q (by
        simp only [List.mem_cons] at hq ⊢
        rcases hq with h | h | h | h | h | h
        · exact .inl h
        · exact .inr (.inr (.inl h))
        · exact .inr (.inr (.inr (.inl h)))
        · exact .inr (.inr (.inr (.inr (.inl h))))
        · exact .inr (.inr (.inr (.inr (.inr (.inl (h.trans he6))))))
        · exact .inr (.inr (.inr (.inr (.inr (.inr h))))))
      have hoO : LCg.Off1 oa ((nu, LCg.lst zs) :: (wh, listOf vwh.toArray nwh) :: (la, listOf vs.toArray kl) :: e6 :: ents) := by
        rw [he6]
        exact allLt_off (And.right (by assumption : _ < oa ∧ _ < oa ∧ _ < oa ∧ _ < oa ∧ _ < oa ∧ AllLt oa ents))
      clear NX
      with_unfolding_all refine' iter_rangeJ (n := (2 + x0).toNat) ?hhB RX ?hsmB ?hszB FX NY (OnesJ oa ((nu, LCg.lst zs) :: (wh, listOf vwh.toArray nwh) :: (la, listOf vs.toArray kl) :: e6 :: ents) nu wh la x0 yy zz) ?h0B ?turnB ?doneB
      case hhB => exact rfl
      case hsmB => exact range_small' _ _ (by omega) (by omega) (by omega) (by omega)
      case hszB => exact range_size' _ _ _ (by omega)
      case h0B => exact ⟨[_, _], _, _, _, _, rfl, .cons _ _ (.cons _ _ .nil), has_cons rfl (has_cons rfl (has_cons rfl (has_cons rfl (has_cons rfl (has_cons rfl (has_cons rfl has_nil))))))⟩
      case turnB =>
        rintro I i ti m₁ news₁ h₁ tk₁ oI hil ⟨os, c, tn, tyi, tzi, rfl, hos, H⟩ ho F₁ N₁
        clear RX FX NY
        subst he6
        rw [map_has H] at F₁
        have hol : os.length = i + 2 := by have := hos.length; simpa using this
        have hIoa : I ≠ oa := ho.1.symm
        have hosz : os.length ≤ 16777216 := sz_os hol hx4 hil
        have ho2 := ho
        have hoO2 := hoO
        simp only [LCg.Off1] at ho hoO
        k_steps
        rename Fr _ _ _ _ => Fz
        rename News _ _ _ _ => Nz
        exact ones_turn Fz Nz hos ho2 rfl (has_cons rfl (has_cons rfl (has_cons rfl (has_cons rfl (has_cons rfl (has_cons rfl (has_cons rfl has_nil)))))))
      case doneB =>
        rintro h₁ tk₁ m₁ news₁ ⟨os, c, tn, tyi, tzi, rfl, hos, H⟩ F₁ N₁
        clear RX FX NY
        subst he6
        rw [map_has H] at F₁
        have hol : os.length = (2 + x0).toNat + 2 := by have := hos.length; simpa using this
        obtain ⟨hn1, hn2, hn3⟩ := n_200 h0x0 hx4
        iterate 22 walk1
        rename News _ _ _ _ => NX
        have hRo := rep_rows (rvs := [_]) NX (.cons 1 _ .nil) (3 + x0).toNat
        have hRl : (List.replicate (3 + x0).toNat [(1 : Int)]).length < 100 := by rw [List.length_replicate, ← hrl]; exact hr100
        have hRs := rep_small (3 + x0).toNat
        have hones : joinedL (List.replicate (3 + x0).toNat [(1 : Int)]) = [fibL (3 + x0).toNat] := ones_joined _
        obtain ⟨tge, hge⟩ : ∃ t, os[(3 + x0).toNat]? = some (.int (fibL (3 + x0).toNat) t) := hos.get _ _ (by rw [List.getElem?_map, List.getElem?_range hn3]; rfl)
        k_here
        k_dflt (refine' con_use (joined_c _ _ _ _ _ ?hmoj ?hRoj ?hloj ?h2oj) ?k1oj ?k2oj ?k3oj ?k4oj ?k5oj ?kKoj ?kdoj ?kuoj ?_)
        (case k1oj => k_asm)
        (case k2oj => k_asm)
        (case k3oj => k_asm)
        (case k4oj => k_asm)
        (case k5oj => k_asm)
        (case kKoj => first | exact rfl | assumption)
        (case hmoj => k_mem)
        (case hRoj => first | assumption | exact RowsIn.mono (by assumption) (by intro p h; repeat (first | exact h | refine List.mem_cons_of_mem _ ?_)))
        (case hloj => first | assumption | omega | l_fit)
        (case h2oj => assumption)
        (case kdoj => ktr_room)
        (case kuoj => ktr_units)
        k_whole
        rintro news' r' h' tk' F' N' ⟨oj, voj, noj, rfl, rfl, ooj, ioj⟩
        (try simp only [LCg.Off1, and_true] at ooj)
        (try dsimp only)
        (try k_fold)
        (try k_sweep)
        clear hRo hRl hRs
        iterate 30 walk1
        have hrl2 : rows.reverse.length < 100 := by rw [List.length_reverse]; exact hr100
        have hrr : ∀ r ∈ rows.reverse, r.length ≤ 2 ∧ ∀ x ∈ r, -9 ≤ x ∧ x ≤ 9 := fun r hr => hr2 r (List.mem_reverse.mp hr)
        have hmir := law_mirror rows
        k_here
        k_dflt (refine' con_use (joined_c _ _ _ _ _ ?hmmj ?hRmj ?hlmj ?h2mj) ?k1mj ?k2mj ?k3mj ?k4mj ?k5mj ?kKmj ?kdmj ?kumj ?_)
        (case k1mj => k_asm)
        (case k2mj => k_asm)
        (case k3mj => k_asm)
        (case k4mj => k_asm)
        (case k5mj => k_asm)
        (case kKmj => first | exact rfl | assumption)
        (case hmmj => k_mem)
        (case hRmj => first | assumption | exact RowsIn.mono (by assumption) (by intro p h; repeat (first | exact h | refine List.mem_cons_of_mem _ ?_)))
        (case hlmj => first | assumption | omega | l_fit)
        (case h2mj => assumption)
        (case kdmj => ktr_room)
        (case kumj => ktr_units)
        k_whole
        rintro news' r' h' tk' F' N' ⟨mj, vmj, nmj, rfl, rfl, omj, imj⟩
        (try simp only [LCg.Off1, and_true] at omj)
        (try dsimp only)
        (try k_fold)
        (try k_sweep)
        iterate 24 walk1
        rename News _ _ _ _ => NX
        have NW := news_tl (news_tl (news_tl (news_tl (news_tl (news_tl (news_tl (news_tl NX)))))))
        clear NX hn1 hn2 hn3 hrl2 hrr hones hmir omj imj ioj ooj hge hos hoO H
        repeat (rename ((_ : Addr) < _ ∧ _) => q9; clear q9)
        repeat (rename (@Ne Addr _ _ ∧ _) => q9; clear q9)
        have hr12 : rows.length ≤ 12 := n_12 hrl hx4
        have hwb := joined_small rows hr12 hr2
        obtain ⟨b1, b2, b3, b4, b5, b6, b7, b8, b9, b10, b11, b12, b13, b14, b15, b16, b17, b18, b19, b20, b21⟩ := part_bounds h0x0 hx4 h0yy h1yy h0zz h1zz
        have hwk : (joinedL rows).length < 1000 := Nat.lt_trans hwl (by decide)
        k_here
        k_dflt (refine' con_use (part_c _ _ _ _ _ ?hmsh ?hRsh ?hlsh ?h2sh _ _ _ _ ?h3sh ?h4sh ?h5sh ?h6sh) ?k1sh ?k2sh ?k3sh ?k4sh ?k5sh ?kKsh ?kdsh ?kush ?_)
        (case k1sh => k_asm)
        (case k2sh => k_asm)
        (case k3sh => k_asm)
        (case k4sh => k_asm)
        (case k5sh => k_asm)
        (case kKsh => first | exact rfl | assumption)
        (case hmsh => k_mem)
        (case hRsh => first | assumption | exact RowsIn.mono (by assumption) (by intro p h; repeat (first | exact h | refine List.mem_cons_of_mem _ ?_)))
        (case hlsh => first | assumption | omega | l_fit)
        (case h2sh => assumption)
        (case h3sh => first | assumption | omega)
        (case h4sh => first | assumption | omega)
        (case h5sh => first | assumption | omega)
        (case h6sh => first | assumption | omega)
        (case kdsh => ktr_room)
        (case kush => ktr_units)
        k_whole
        rintro news' r' h' tk' F' N' ⟨sh, vsh, nsh, rfl, rfl, osh, ish⟩
        (try simp only [LCg.Off1, and_true] at osh)
        (try dsimp only)
        (try k_fold)
        (try k_sweep)
        have hpl := p_len hr2 hr12
        have hpb : ∀ a b, ∀ x ∈ partL rows a b, -4611686018427387904 ≤ x ∧ x ≤ 4611686018427387904 := fun a b => part_small rows a b hr12 hr2
        clear hr12
        have hrl2 : rows.reverse.length < 100 := by rw [List.length_reverse]; exact hr100
        iterate 23 walk1
        have hsl := n_two hrl hx4
        have hrr : ∀ r ∈ rows ++ rows.reverse, r.length ≤ 2 ∧ ∀ x ∈ r, -9 ≤ x ∧ x ≤ 9 := fun r hr => hr2 r ((List.mem_append.mp hr).elim id List.mem_reverse.mp)
        k_here
        k_dflt (refine' con_use (joined_c _ _ _ _ _ ?hmsq ?hRsq ?hlsq ?h2sq) ?k1sq ?k2sq ?k3sq ?k4sq ?k5sq ?kKsq ?kdsq ?kusq ?_)
        (case k1sq => k_asm)
        (case k2sq => k_asm)
        (case k3sq => k_asm)
        (case k4sq => k_asm)
        (case k5sq => k_asm)
        (case kKsq => first | exact rfl | assumption)
        (case hmsq => k_mem)
        (case hRsq => first | assumption | exact RowsIn.mono (by assumption) (by intro p h; repeat (first | exact h | refine List.mem_cons_of_mem _ ?_)))
        (case hlsq => first | assumption | omega | l_fit)
        (case h2sq => assumption)
        (case kdsq => ktr_room)
        (case kusq => ktr_units)
        k_whole
        rintro news' r' h' tk' F' N' ⟨sq, vsq, nsq, rfl, rfl, osq, isq⟩
        (try simp only [LCg.Off1, and_true] at osq)
        (try dsimp only)
        (try k_fold)
        (try k_sweep)
        iterate 13 walk1
        k_here
        k_dflt (refine' con_use (zmul_c _ _ _ _ _ ?hmww ?hiww ?hlww _ _ _ _ ?hnww ?hjww ?hkww ?hbww) ?k1ww ?k2ww ?k3ww ?k4ww ?k5ww ?kKww ?kdww ?kuww ?_)
        (case k1ww => k_asm)
        (case k2ww => k_asm)
        (case k3ww => k_asm)
        (case k4ww => k_asm)
        (case k5ww => k_asm)
        (case kKww => first | exact rfl | assumption)
        (case hmww => k_mem)
        (case hiww => with_reducible assumption)
        (case hnww => k_mem)
        (case hjww => with_reducible assumption)
        (case hlww => first | assumption | omega | l_fit)
        (case hkww => first | assumption | omega | l_fit)
        (case hbww => assumption)
        (case kdww => ktr_room)
        (case kuww => ktr_units)
        k_whole
        rintro news' r' h' tk' F' N' ⟨ww, vww, nww, rfl, rfl, oww, iww⟩
        (try simp only [LCg.Off1, and_true] at oww)
        (try dsimp only)
        (try k_fold)
        (try k_sweep)
        iterate 10 walk1
        have hl1 := pk_len hpl 1 (3 + x0 - 1)
        have hb1 := hpb 1 (3 + x0 - 1)
        k_here
        k_dflt (refine' con_use (zmul_c _ _ _ _ _ ?hmss ?hiss ?hlss _ _ _ _ ?hnss ?hjss ?hkss ?hbss) ?k1ss ?k2ss ?k3ss ?k4ss ?k5ss ?kKss ?kdss ?kuss ?_)
        (case k1ss => k_asm)
        (case k2ss => k_asm)
        (case k3ss => k_asm)
        (case k4ss => k_asm)
        (case k5ss => k_asm)
        (case kKss => first | exact rfl | assumption)
        (case hmss => k_mem)
        (case hiss => with_reducible assumption)
        (case hnss => k_mem)
        (case hjss => with_reducible assumption)
        (case hlss => first | assumption | omega | l_fit)
        (case hkss => first | assumption | omega | l_fit)
        (case hbss => assumption)
        (case kdss => ktr_room)
        (case kuss => ktr_units)
        k_whole
        rintro news' r' h' tk' F' N' ⟨ss, vss, nss, rfl, rfl, oss, iss⟩
        (try simp only [LCg.Off1, and_true] at oss)
        (try dsimp only)
        (try k_fold)
        (try k_sweep)
        iterate 2 walk1
        have hl2 := jj_len hwl
        have hl3 := pp_len hpl 1 (3 + x0 - 1) 1 (3 + x0 - 1)
        k_here
        k_dflt (refine' con_use (zadd_c _ _ _ _ _ _ _ _ _ ?hmrs ?hirs ?hnrs ?hjrs ?hlrs ?hkrs) ?k1rs ?k2rs ?k3rs ?k4rs ?k5rs ?kKrs ?kdrs ?kurs ?_)
        (case k1rs => k_asm)
        (case k2rs => k_asm)
        (case k3rs => k_asm)
        (case k4rs => k_asm)
        (case k5rs => k_asm)
        (case kKrs => first | exact rfl | assumption)
        (case hmrs => k_mem)
        (case hirs => with_reducible assumption)
        (case hnrs => k_mem)
        (case hjrs => with_reducible assumption)
        (case hlrs => first | assumption | omega | l_fit)
        (case hkrs => first | assumption | omega | l_fit)
        (case kdrs => ktr_room)
        (case kurs => ktr_units)
        k_whole
        rintro news' r' h' tk' F' N' ⟨rs, vrs, nrs, rfl, rfl, ors, irs⟩
        (try simp only [LCg.Off1, and_true] at ors)
        (try dsimp only)
        (try k_fold)
        (try k_sweep)
        have hsq := law_square rows (3 + x0) (n_len hrl h0x0).1 (n_len hrl h0x0).2
        iterate 28 walk1
        rename News _ _ _ _ => NX
        have NW := news_tl (news_tl (news_tl (news_tl (news_tl (news_tl (news_tl NX))))))
        clear NX hrl2 hsl hrr hl1 hb1 hl2 hl3 hsq irs ors iss oss iww oww isq osq ish osh
        repeat (rename ((_ : Addr) < _ ∧ _) => q9; clear q9)
        repeat (rename (@Ne Addr _ _ ∧ _) => q9; clear q9)
        have hx5 : x0 < 90 := Int.lt_trans hx4 (by decide)
        have hpij := pk_len hpl (1 + yy) (1 + yy + zz)
        have hp1j := pk_len hpl 1 (1 + yy + zz)
        have hpin := pk_len hpl (1 + yy) (3 + x0)
        have hpa := pk_len hpl 1 (1 + yy - 2)
        have hpb2 := pk_len hpl (1 + yy + zz + 2) (3 + x0)
        have hb1j := hpb 1 (1 + yy + zz)
        have hba := hpb 1 (1 + yy - 2)
        k_here
        k_dflt (refine' con_use (part_c _ _ _ _ _ ?hmpij ?hRpij ?hlpij ?h2pij _ _ _ _ ?h3pij ?h4pij ?h5pij ?h6pij) ?k1pij ?k2pij ?k3pij ?k4pij ?k5pij ?kKpij ?kdpij ?kupij ?_)
        (case k1pij => k_asm)
        (case k2pij => k_asm)
        (case k3pij => k_asm)
        (case k4pij => k_asm)
        (case k5pij => k_asm)
        (case kKpij => first | exact rfl | assumption)
        (case hmpij => k_mem)
        (case hRpij => first | assumption | exact RowsIn.mono (by assumption) (by intro p h; repeat (first | exact h | refine List.mem_cons_of_mem _ ?_)))
        (case hlpij => first | assumption | omega | l_fit)
        (case h2pij => assumption)
        (case h3pij => first | assumption | omega)
        (case h4pij => first | assumption | omega)
        (case h5pij => first | assumption | omega)
        (case h6pij => first | assumption | omega)
        (case kdpij => ktr_room)
        (case kupij => ktr_units)
        k_whole
        rintro news' r' h' tk' F' N' ⟨pij, vpij, npij, rfl, rfl, opij, ipij⟩
        (try simp only [LCg.Off1, and_true] at opij)
        (try dsimp only)
        (try k_fold)
        (try k_sweep)
        iterate 2 walk1
        k_here
        k_dflt (refine' con_use (zmul_c _ _ _ _ _ ?hmma ?hima ?hlma _ _ _ _ ?hnma ?hjma ?hkma ?hbma) ?k1ma ?k2ma ?k3ma ?k4ma ?k5ma ?kKma ?kdma ?kuma ?_)
        (case k1ma => k_asm)
        (case k2ma => k_asm)
        (case k3ma => k_asm)
        (case k4ma => k_asm)
        (case k5ma => k_asm)
        (case kKma => first | exact rfl | assumption)
        (case hmma => k_mem)
        (case hima => with_reducible assumption)
        (case hnma => k_mem)
        (case hjma => with_reducible assumption)
        (case hlma => first | assumption | omega | l_fit)
        (case hkma => first | assumption | omega | l_fit)
        (case hbma => assumption)
        (case kdma => ktr_room)
        (case kuma => ktr_units)
        k_whole
        rintro news' r' h' tk' F' N' ⟨ma, vma, nma, rfl, rfl, oma, ima⟩
        (try simp only [LCg.Off1, and_true] at oma)
        (try dsimp only)
        (try k_fold)
        (try k_sweep)
        iterate 16 walk1
        k_here
        k_dflt (refine' con_use (part_c _ _ _ _ _ ?hmp1j ?hRp1j ?hlp1j ?h2p1j _ _ _ _ ?h3p1j ?h4p1j ?h5p1j ?h6p1j) ?k1p1j ?k2p1j ?k3p1j ?k4p1j ?k5p1j ?kKp1j ?kdp1j ?kup1j ?_)
        (case k1p1j => k_asm)
        (case k2p1j => k_asm)
        (case k3p1j => k_asm)
        (case k4p1j => k_asm)
        (case k5p1j => k_asm)
        (case kKp1j => first | exact rfl | assumption)
        (case hmp1j => k_mem)
        (case hRp1j => first | assumption | exact RowsIn.mono (by assumption) (by intro p h; repeat (first | exact h | refine List.mem_cons_of_mem _ ?_)))
        (case hlp1j => first | assumption | omega | l_fit)
        (case h2p1j => assumption)
        (case h3p1j => first | assumption | omega)
        (case h4p1j => first | assumption | omega)
        (case h5p1j => first | assumption | omega)
        (case h6p1j => first | assumption | omega)
        (case kdp1j => ktr_room)
        (case kup1j => ktr_units)
        k_whole
        rintro news' r' h' tk' F' N' ⟨p1j, vp1j, np1j, rfl, rfl, op1j, ip1j⟩
        (try simp only [LCg.Off1, and_true] at op1j)
        (try dsimp only)
        (try k_fold)
        (try k_sweep)
        iterate 12 walk1
        k_here
        k_dflt (refine' con_use (part_c _ _ _ _ _ ?hmpin ?hRpin ?hlpin ?h2pin _ _ _ _ ?h3pin ?h4pin ?h5pin ?h6pin) ?k1pin ?k2pin ?k3pin ?k4pin ?k5pin ?kKpin ?kdpin ?kupin ?_)
        (case k1pin => k_asm)
        (case k2pin => k_asm)
        (case k3pin => k_asm)
        (case k4pin => k_asm)
        (case k5pin => k_asm)
        (case kKpin => first | exact rfl | assumption)
        (case hmpin => k_mem)
        (case hRpin => first | assumption | exact RowsIn.mono (by assumption) (by intro p h; repeat (first | exact h | refine List.mem_cons_of_mem _ ?_)))
        (case hlpin => first | assumption | omega | l_fit)
        (case h2pin => assumption)
        (case h3pin => first | assumption | omega)
        (case h4pin => first | assumption | omega)
        (case h5pin => first | assumption | omega)
        (case h6pin => first | assumption | omega)
        (case kdpin => ktr_room)
        (case kupin => ktr_units)
        k_whole
        rintro news' r' h' tk' F' N' ⟨pin, vpin, npin, rfl, rfl, opin, ipin⟩
        (try simp only [LCg.Off1, and_true] at opin)
        (try dsimp only)
        (try k_fold)
        (try k_sweep)
        iterate 2 walk1
        k_here
        k_dflt (refine' con_use (zmul_c _ _ _ _ _ ?hmmb ?himb ?hlmb _ _ _ _ ?hnmb ?hjmb ?hkmb ?hbmb) ?k1mb ?k2mb ?k3mb ?k4mb ?k5mb ?kKmb ?kdmb ?kumb ?_)
        (case k1mb => k_asm)
        (case k2mb => k_asm)
        (case k3mb => k_asm)
        (case k4mb => k_asm)
        (case k5mb => k_asm)
        (case kKmb => first | exact rfl | assumption)
        (case hmmb => k_mem)
        (case himb => with_reducible assumption)
        (case hnmb => k_mem)
        (case hjmb => with_reducible assumption)
        (case hlmb => first | assumption | omega | l_fit)
        (case hkmb => first | assumption | omega | l_fit)
        (case hbmb => assumption)
        (case kdmb => ktr_room)
        (case kumb => ktr_units)
        k_whole
        rintro news' r' h' tk' F' N' ⟨mb, vmb, nmb, rfl, rfl, omb, imb⟩
        (try simp only [LCg.Off1, and_true] at omb)
        (try dsimp only)
        (try k_fold)
        (try k_sweep)
        iterate 2 walk1
        have hl2 := jp_len hwl hpl (1 + yy) (1 + yy + zz)
        have hl3 := pp_len hpl 1 (1 + yy + zz) (1 + yy) (3 + x0)
        k_here
        k_dflt (refine' con_use (zsub_c _ _ _ _ _ _ _ _ _ ?hmlf ?hilf ?hnlf ?hjlf ?hllf ?hklf) ?k1lf ?k2lf ?k3lf ?k4lf ?k5lf ?kKlf ?kdlf ?kulf ?_)
        (case k1lf => k_asm)
        (case k2lf => k_asm)
        (case k3lf => k_asm)
        (case k4lf => k_asm)
        (case k5lf => k_asm)
        (case kKlf => first | exact rfl | assumption)
        (case hmlf => k_mem)
        (case hilf => with_reducible assumption)
        (case hnlf => k_mem)
        (case hjlf => with_reducible assumption)
        (case hllf => first | assumption | omega | l_fit)
        (case hklf => first | assumption | omega | l_fit)
        (case kdlf => ktr_room)
        (case kulf => ktr_units)
        k_whole
        rintro news' r' h' tk' F' N' ⟨lf, vlf, nlf, rfl, rfl, olf, ilf⟩
        (try simp only [LCg.Off1, and_true] at olf)
        (try dsimp only)
        (try k_fold)
        (try k_sweep)
        iterate 21 walk1
        k_here
        k_dflt (refine' con_use (part_c _ _ _ _ _ ?hmpa ?hRpa ?hlpa ?h2pa _ _ _ _ ?h3pa ?h4pa ?h5pa ?h6pa) ?k1pa ?k2pa ?k3pa ?k4pa ?k5pa ?kKpa ?kdpa ?kupa ?_)
        (case k1pa => k_asm)
        (case k2pa => k_asm)
        (case k3pa => k_asm)
        (case k4pa => k_asm)
        (case k5pa => k_asm)
        (case kKpa => first | exact rfl | assumption)
        (case hmpa => k_mem)
        (case hRpa => first | assumption | exact RowsIn.mono (by assumption) (by intro p h; repeat (first | exact h | refine List.mem_cons_of_mem _ ?_)))
        (case hlpa => first | assumption | omega | l_fit)
        (case h2pa => assumption)
        (case h3pa => first | assumption | omega)
        (case h4pa => first | assumption | omega)
        (case h5pa => first | assumption | omega)
        (case h6pa => first | assumption | omega)
        (case kdpa => ktr_room)
        (case kupa => ktr_units)
        k_whole
        rintro news' r' h' tk' F' N' ⟨pa, vpa, npa, rfl, rfl, opa, ipa⟩
        (try simp only [LCg.Off1, and_true] at opa)
        (try dsimp only)
        (try k_fold)
        (try k_sweep)
        iterate 15 walk1
        k_here
        k_dflt (refine' con_use (part_c _ _ _ _ _ ?hmpb ?hRpb ?hlpb ?h2pb _ _ _ _ ?h3pb ?h4pb ?h5pb ?h6pb) ?k1pb ?k2pb ?k3pb ?k4pb ?k5pb ?kKpb ?kdpb ?kupb ?_)
        (case k1pb => k_asm)
        (case k2pb => k_asm)
        (case k3pb => k_asm)
        (case k4pb => k_asm)
        (case k5pb => k_asm)
        (case kKpb => first | exact rfl | assumption)
        (case hmpb => k_mem)
        (case hRpb => first | assumption | exact RowsIn.mono (by assumption) (by intro p h; repeat (first | exact h | refine List.mem_cons_of_mem _ ?_)))
        (case hlpb => first | assumption | omega | l_fit)
        (case h2pb => assumption)
        (case h3pb => first | assumption | omega)
        (case h4pb => first | assumption | omega)
        (case h5pb => first | assumption | omega)
        (case h6pb => first | assumption | omega)
        (case kdpb => ktr_room)
        (case kupb => ktr_units)
        k_whole
        rintro news' r' h' tk' F' N' ⟨pb, vpb, npb, rfl, rfl, opb, ipb⟩
        (try simp only [LCg.Off1, and_true] at opb)
        (try dsimp only)
        (try k_fold)
        (try k_sweep)
        iterate 2 walk1
        k_here
        k_dflt (refine' con_use (zmul_c _ _ _ _ _ ?hmrt ?hirt ?hlrt _ _ _ _ ?hnrt ?hjrt ?hkrt ?hbrt) ?k1rt ?k2rt ?k3rt ?k4rt ?k5rt ?kKrt ?kdrt ?kurt ?_)
        (case k1rt => k_asm)
        (case k2rt => k_asm)
        (case k3rt => k_asm)
        (case k4rt => k_asm)
        (case k5rt => k_asm)
        (case kKrt => first | exact rfl | assumption)
        (case hmrt => k_mem)
        (case hirt => with_reducible assumption)
        (case hnrt => k_mem)
        (case hjrt => with_reducible assumption)
        (case hlrt => first | assumption | omega | l_fit)
        (case hkrt => first | assumption | omega | l_fit)
        (case hbrt => assumption)
        (case kdrt => ktr_room)
        (case kurt => ktr_units)
        k_whole
        rintro news' r' h' tk' F' N' ⟨rt, vrt, nrt, rfl, rfl, ort, irt⟩
        (try simp only [LCg.Off1, and_true] at ort)
        (try dsimp only)
        (try k_fold)
        (try k_sweep)
        iterate 11 walk1
        obtain ⟨sg, hsg⟩ : ∃ sg : Int, sg = if (1 + yy + zz - (1 + yy) + 1).fmod 2 = 0 then 1 else -1 := ⟨_, rfl⟩
        obtain ⟨hs1, hs2⟩ : -9 ≤ sg ∧ sg ≤ 9 := by rw [hsg]; split <;> exact ⟨by decide, by decide⟩
        refine join_int sg ?ifA ?ifB
        case ifA =>
          k_steps
          all_goals (refine int_post ?_; rw [hsg]; first | rw [if_pos (by assumption)] | rw [if_neg (by assumption)])
        case ifB =>
          intro usg tks
          have hl4 := pp_len hpl 1 (1 + yy - 2) (1 + yy + zz + 2) (3 + x0)
          iterate 2 walk1
          have heu := law_euler rows (3 + x0) (1 + yy) (1 + yy + zz) sg (n_len hrl h0x0).1 b1 b17 b18 (by rw [hsg, Int.fmod_eq_emod_of_nonneg _ (by decide)])
          k_here
          k_dflt (refine' con_use (zscale_c _ _ _ _ _ ?hmrg ?hirg ?hlrg _ _ ?c1rg ?c2rg) ?k1rg ?k2rg ?k3rg ?k4rg ?k5rg ?kKrg ?kdrg ?kurg ?_)
          (case k1rg => k_asm)
          (case k2rg => k_asm)
          (case k3rg => k_asm)
          (case k4rg => k_asm)
          (case k5rg => k_asm)
          (case kKrg => first | exact rfl | assumption)
          (case hmrg => k_mem)
          (case hirg => with_reducible assumption)
          (case hlrg => first | assumption | omega | l_fit)
          (case c1rg => first | assumption | omega | decide)
          (case c2rg => first | assumption | omega | decide)
          (case kdrg => ktr_room)
          (case kurg => ktr_units)
          k_whole
          rintro news' r' h' tk' F' N' ⟨rg, vrg, nrg, rfl, rfl, org, irg⟩
          (try simp only [LCg.Off1, and_true] at org)
          (try dsimp only)
          (try k_fold)
          (try k_sweep)
          iterate 22 walk1
          rename News _ _ _ _ => NX
          have NW := news_tl (news_tl (news_tl (news_tl (news_tl (news_tl (news_tl (news_tl (news_tl (news_tl NX)))))))))
          clear NX hl2 hl3 hl4 heu hpij hpin hpa hba hs1 hs2 hsg irg org irt ort ipb opb ipa opa ilf olf imb omb ipin opin ip1j op1j ima oma ipij opij
          repeat (rename ((_ : Addr) < _ ∧ _) => q9; clear q9)
          repeat (rename (@Ne Addr _ _ ∧ _) => q9; clear q9)
          have hp1 := pk_len hpl 1 (1 + yy + zz)
          have hp2 := pk_len hpl (1 + yy + zz + 1) (3 + x0)
          have hp3 := pk_len hpl 1 (1 + yy + zz - 1)
          have hp4 := pk_len hpl (1 + yy + zz + 2) (3 + x0)
          have hb1 := hpb 1 (1 + yy + zz)
          have hb3 := hpb 1 (1 + yy + zz - 1)
          k_here
          k_dflt (refine' con_use (part_c _ _ _ _ _ ?hmqa ?hRqa ?hlqa ?h2qa _ _ _ _ ?h3qa ?h4qa ?h5qa ?h6qa) ?k1qa ?k2qa ?k3qa ?k4qa ?k5qa ?kKqa ?kdqa ?kuqa ?_)
          (case k1qa => k_asm)
          (case k2qa => k_asm)
          (case k3qa => k_asm)
          (case k4qa => k_asm)
          (case k5qa => k_asm)
          (case kKqa => first | exact rfl | assumption)
          (case hmqa => k_mem)
          (case hRqa => first | assumption | exact RowsIn.mono (by assumption) (by intro p h; repeat (first | exact h | refine List.mem_cons_of_mem _ ?_)))
          (case hlqa => first | assumption | omega | l_fit)
          (case h2qa => assumption)
          (case h3qa => first | assumption | omega)
          (case h4qa => first | assumption | omega)
          (case h5qa => first | assumption | omega)
          (case h6qa => first | assumption | omega)
          (case kdqa => ktr_room)
          (case kuqa => ktr_units)
          k_whole
          rintro news' r' h' tk' F' N' ⟨qa, vqa, nqa, rfl, rfl, oqa, iqa⟩
          (try simp only [LCg.Off1, and_true] at oqa)
          (try dsimp only)
          (try k_fold)
          (try k_sweep)
          iterate 15 walk1
          k_here
          k_dflt (refine' con_use (part_c _ _ _ _ _ ?hmqb ?hRqb ?hlqb ?h2qb _ _ _ _ ?h3qb ?h4qb ?h5qb ?h6qb) ?k1qb ?k2qb ?k3qb ?k4qb ?k5qb ?kKqb ?kdqb ?kuqb ?_)
          (case k1qb => k_asm)
          (case k2qb => k_asm)
          (case k3qb => k_asm)
          (case k4qb => k_asm)
          (case k5qb => k_asm)
          (case kKqb => first | exact rfl | assumption)
          (case hmqb => k_mem)
          (case hRqb => first | assumption | exact RowsIn.mono (by assumption) (by intro p h; repeat (first | exact h | refine List.mem_cons_of_mem _ ?_)))
          (case hlqb => first | assumption | omega | l_fit)
          (case h2qb => assumption)
          (case h3qb => first | assumption | omega)
          (case h4qb => first | assumption | omega)
          (case h5qb => first | assumption | omega)
          (case h6qb => first | assumption | omega)
          (case kdqb => ktr_room)
          (case kuqb => ktr_units)
          k_whole
          rintro news' r' h' tk' F' N' ⟨qb, vqb, nqb, rfl, rfl, oqb, iqb⟩
          (try simp only [LCg.Off1, and_true] at oqb)
          (try dsimp only)
          (try k_fold)
          (try k_sweep)
          iterate 2 walk1
          k_here
          k_dflt (refine' con_use (zmul_c _ _ _ _ _ ?hmbo ?hibo ?hlbo _ _ _ _ ?hnbo ?hjbo ?hkbo ?hbbo) ?k1bo ?k2bo ?k3bo ?k4bo ?k5bo ?kKbo ?kdbo ?kubo ?_)
          (case k1bo => k_asm)
          (case k2bo => k_asm)
          (case k3bo => k_asm)
          (case k4bo => k_asm)
          (case k5bo => k_asm)
          (case kKbo => first | exact rfl | assumption)
          (case hmbo => k_mem)
          (case hibo => with_reducible assumption)
          (case hnbo => k_mem)
          (case hjbo => with_reducible assumption)
          (case hlbo => first | assumption | omega | l_fit)
          (case hkbo => first | assumption | omega | l_fit)
          (case hbbo => assumption)
          (case kdbo => ktr_room)
          (case kubo => ktr_units)
          k_whole
          rintro news' r' h' tk' F' N' ⟨bo, vbo, nbo, rfl, rfl, obo, ibo⟩
          (try simp only [LCg.Off1, and_true] at obo)
          (try dsimp only)
          (try k_fold)
          (try k_sweep)
          iterate 28 walk1
          k_here
          k_dflt (refine' con_use (part_c _ _ _ _ _ ?hmqc ?hRqc ?hlqc ?h2qc _ _ _ _ ?h3qc ?h4qc ?h5qc ?h6qc) ?k1qc ?k2qc ?k3qc ?k4qc ?k5qc ?kKqc ?kdqc ?kuqc ?_)
          (case k1qc => k_asm)
          (case k2qc => k_asm)
          (case k3qc => k_asm)
          (case k4qc => k_asm)
          (case k5qc => k_asm)
          (case kKqc => first | exact rfl | assumption)
          (case hmqc => k_mem)
          (case hRqc => first | assumption | exact RowsIn.mono (by assumption) (by intro p h; repeat (first | exact h | refine List.mem_cons_of_mem _ ?_)))
          (case hlqc => first | assumption | omega | l_fit)
          (case h2qc => assumption)
          (case h3qc => first | assumption | omega)
          (case h4qc => first | assumption | omega)
          (case h5qc => first | assumption | omega)
          (case h6qc => first | assumption | omega)
          (case kdqc => ktr_room)
          (case kuqc => ktr_units)
          k_whole
          rintro news' r' h' tk' F' N' ⟨qc, vqc, nqc, rfl, rfl, oqc, iqc⟩
          (try simp only [LCg.Off1, and_true] at oqc)
          (try dsimp only)
          (try k_fold)
          (try k_sweep)
          iterate 15 walk1
          k_here
          k_dflt (refine' con_use (part_c _ _ _ _ _ ?hmqd ?hRqd ?hlqd ?h2qd _ _ _ _ ?h3qd ?h4qd ?h5qd ?h6qd) ?k1qd ?k2qd ?k3qd ?k4qd ?k5qd ?kKqd ?kdqd ?kuqd ?_)
          (case k1qd => k_asm)
          (case k2qd => k_asm)
          (case k3qd => k_asm)
          (case k4qd => k_asm)
          (case k5qd => k_asm)
          (case kKqd => first | exact rfl | assumption)
          (case hmqd => k_mem)
          (case hRqd => first | assumption | exact RowsIn.mono (by assumption) (by intro p h; repeat (first | exact h | refine List.mem_cons_of_mem _ ?_)))
          (case hlqd => first | assumption | omega | l_fit)
          (case h2qd => assumption)
          (case h3qd => first | assumption | omega)
          (case h4qd => first | assumption | omega)
          (case h5qd => first | assumption | omega)
          (case h6qd => first | assumption | omega)
          (case kdqd => ktr_room)
          (case kuqd => ktr_units)
          k_whole
          rintro news' r' h' tk' F' N' ⟨qd, vqd, nqd, rfl, rfl, oqd, iqd⟩
          (try simp only [LCg.Off1, and_true] at oqd)
          (try dsimp only)
          (try k_fold)
          (try k_sweep)
          iterate 2 walk1
          k_here
          k_dflt (refine' con_use (zmul_c _ _ _ _ _ ?hmbd ?hibd ?hlbd _ _ _ _ ?hnbd ?hjbd ?hkbd ?hbbd) ?k1bd ?k2bd ?k3bd ?k4bd ?k5bd ?kKbd ?kdbd ?kubd ?_)
          (case k1bd => k_asm)
          (case k2bd => k_asm)
          (case k3bd => k_asm)
          (case k4bd => k_asm)
          (case k5bd => k_asm)
          (case kKbd => first | exact rfl | assumption)
          (case hmbd => k_mem)
          (case hibd => with_reducible assumption)
          (case hnbd => k_mem)
          (case hjbd => with_reducible assumption)
          (case hlbd => first | assumption | omega | l_fit)
          (case hkbd => first | assumption | omega | l_fit)
          (case hbbd => assumption)
          (case kdbd => ktr_room)
          (case kubd => ktr_units)
          k_whole
          rintro news' r' h' tk' F' N' ⟨bd, vbd, nbd, rfl, rfl, obd, ibd⟩
          (try simp only [LCg.Off1, and_true] at obd)
          (try dsimp only)
          (try k_fold)
          (try k_sweep)
          iterate 2 walk1
          have hl2 := pp_len hpl 1 (1 + yy + zz) (1 + yy + zz + 1) (3 + x0)
          have hl3 := pp_len hpl 1 (1 + yy + zz - 1) (1 + yy + zz + 2) (3 + x0)
          k_here
          k_dflt (refine' con_use (zadd_c _ _ _ _ _ _ _ _ _ ?hmsm ?hism ?hnsm ?hjsm ?hlsm ?hksm) ?k1sm ?k2sm ?k3sm ?k4sm ?k5sm ?kKsm ?kdsm ?kusm ?_)
          (case k1sm => k_asm)
          (case k2sm => k_asm)
          (case k3sm => k_asm)
          (case k4sm => k_asm)
          (case k5sm => k_asm)
          (case kKsm => first | exact rfl | assumption)
          (case hmsm => k_mem)
          (case hism => with_reducible assumption)
          (case hnsm => k_mem)
          (case hjsm => with_reducible assumption)
          (case hlsm => first | assumption | omega | l_fit)
          (case hksm => first | assumption | omega | l_fit)
          (case kdsm => ktr_room)
          (case kusm => ktr_units)
          k_whole
          rintro news' r' h' tk' F' N' ⟨sm, vsm, nsm, rfl, rfl, osm, ism⟩
          (try simp only [LCg.Off1, and_true] at osm)
          (try dsimp only)
          (try k_fold)
          (try k_sweep)
          have hsp := law_split rows (3 + x0) (1 + yy + zz) (n_len hrl h0x0).1 b19 b18
          iterate 7 walk1
          rename News _ _ _ _ => NX
          have NW := news_tl (news_tl (news_tl (news_tl (news_tl (news_tl (news_tl NX))))))
          clear NX b1 b2 b3 b4 b5 b6 b7 b8 b9 b10 b11 b12 b13 b14 b15 b16 b17 b18 b19 b20 b21 hl2 hl3 hsp hp1 hp2 hp3 hp4 hb1 hb3 ism osm ibd obd iqd oqd iqc oqc ibo obo iqb oqb iqa oqa
          repeat (rename ((_ : Addr) < _ ∧ _) => q9; clear q9)
          repeat (rename (@Ne Addr _ _ ∧ _) => q9; clear q9)
          k_here
          k_dflt (refine LCg.Assign_ListComp_U (F₀ := by k_asm) (by rfl) (by with_unfolding_all rfl) (by with_unfolding_all rfl) (by decide) (by rfl) (by decide) (by rfl) (by rfl) (by rfl) ?_)
          walk1
          obtain ⟨e4, he4⟩ := ent_4 NW
          rw [← he4] at NW
          have hzl : zs.length = ns.length := hyI.length
          refine LCg.CompSrc.ledger rfl (by k_asm) NW (.head _) (by rw [List.size_toArray]; exact Nat.le_trans (by omega) (Nat.le_of_ble_eq_true rfl : 1000 ≤ sizeLine)) ?_
          intro gC
          refine comp_J (n := zs.length) (fun i zr news' => news' = (nu, LCg.lst zs) :: (wh, listOf vwh.toArray nwh) :: (la, listOf vs.toArray kl) :: e4 :: ents ∧ IntsAre zr ((ns.take i).map absL)) ?turnF ?finF _ _ _ _ (by simp) ⟨rfl, .nil⟩
          case turnF =>
            rintro i zr _ v I oI C oC D m₂ h₁ tk₁ E' hi' hv ⟨rfl, hzI⟩ hC hx F₁ N₁ off ne
            subst he4
            obtain ⟨tv, rfl, hil⟩ := ints_get hyI (by simpa using hv)
            k_steps
            rename Fr _ _ _ _ => Fz
            rename News _ _ _ _ => Nz
            exact LCg.CompEnd.intro Fz Nz _ (fun p hp => hp) off (srcAt_of (.head _)) ⟨rfl, by rw [abs_snoc ns i hil]; exact intsAre_snoc hzI _ _⟩
          case finF =>
            rintro zr _ ⟨rfl, hzI⟩
            subst he4
            rw [hzl, List.take_length] at hzI
            iterate 22 walk1
            rename IsRange _ _ _ _ _ _ _ _ => RX
            rename News _ _ _ _ => NX
            rename Fr _ _ _ _ => FX
            obtain ⟨du, edu⟩ := name_1 NX
            subst edu
            obtain ⟨ro, ero⟩ := name_2 NX
            subst ero
            have hdr : ro ≠ du := Nat.ne_of_lt (And.left (by assumption : ro < du ∧ _))
            repeat (rename ((_ : Addr) < _ ∧ _) => q9; clear q9)
            repeat (rename (@Ne Addr _ _ ∧ _) => q9; clear q9)
            have NY : News _ _ _ [(du, _), (ro, LCg.lst zr)] := fun q hq => NX q (by
              simp only [List.mem_cons, List.not_mem_nil, or_false] at hq ⊢
              rcases hq with h | h
              · exact .inl h
              · exact .inr (.inl h))
            clear NX hpl hpb hwb
            obtain ⟨R, hRR⟩ : ∃ R, R = List.map absL ns := ⟨_, rfl⟩
            have hRb : ∀ x ∈ R, 1 ≤ x ∧ x ≤ 7 := by rw [hRR]; exact abs_bound hnb
            have hRn : R.length = (3 + x0).toNat := by rw [hRR, List.length_map, hnl]
            rw [← hRR] at hzI
            have hzn : zr.length = (3 + x0).toNat := hzI.length.trans hRn
            clear hRR
            clear hvl hrl hr100 hnl hfl hzl hvr hn9 hnb hR hrows hr2 hns hyI hfR hfr hjoin hwl hol hp1j hpb2 hb1j
            with_unfolding_all refine' iter_rangeJ (n := (3 + x0).toNat) ?hhG RX ?hsmG ?hszG FX NY (DueJ du ro zr R []) ?h0G ?turnG ?doneG
            case hhG => exact rfl
            case hsmG => exact range_small' _ _ (by omega) (by omega) (by omega) (by omega)
            case hszG => exact range_size' _ _ _ turns_n
            case h0G => exact ⟨[], 0, [], rfl, ⟨hdr, trivial⟩, .nil, rfl, has_cons rfl (has_cons rfl has_nil)⟩
            case turnG =>
              rintro I i ti m₁ news₁ h₁ tk₁ oI hil ⟨dvs, c, ts, rfl, hod, hP, hdl, H⟩ ho F₁ N₁
              clear RX FX NY
              rw [map_has H] at F₁
              have hod2 := hod
              have ho2 := ho
              simp only [LCg.Off1] at ho
              have hro : (ro, LCg.lst zr) ∈ ts ++ [(ro, LCg.lst zr)] := List.mem_append_right _ (.head _)
              have hiR : i < R.length := by rw [hRn]; exact hil
              have hR9 := R_9 hRn hx4
              clear hRn hzn hil hx5 hx9
              have hRz : R.length ≤ 16777216 := Nat.le_trans hR9 (by decide)
              have hIdu : I ≠ du := ho.1.symm
              have hdz : dvs.length ≤ 16777216 := by rw [hdl]; exact Nat.le_trans (Nat.le_of_lt hiR) hRz
              iterate 14 walk1
              k_here
              k_dflt (refine LCg.ListComp_U (F₀ := by k_asm) (by with_unfolding_all rfl) (by decide) (by rfl) (by decide) (by rfl) ?_)
              iterate 8 walk1
              rename News _ _ _ _ => NS
              rename IntsAre _ (List.take _ R) => hSI
              obtain ⟨S, hS⟩ : ∃ S, S = List.take (1 + (i : Int)).toNat R := ⟨_, rfl⟩
              rw [← hS] at hSI
              have hSl := hSI.length
              have hSL : S.length = i + 1 := by rw [hS, List.length_take]; omega
              have hSR : ∀ x ∈ S, x ∈ R := by rw [hS]; exact fun x hx => List.mem_of_mem_take hx
              refine LCg.CompSrc.ledger rfl (by k_asm) NS (.head _) (by rw [List.size_toArray]; exact Nat.le_trans (by omega) (Nat.le_of_ble_eq_true rfl : 1000 ≤ sizeLine)) ?_
              intro gC
              refine comp_J (SingJ S _) ?turnHc ?finHc _ _ _ _ (Nat.zero_add _) ⟨[], rfl, .nil⟩
              case turnHc =>
                rintro k zq _ v I2 oI2 C oC D2 m₂ h₂ tk₂ E' hk hv ⟨es, rfl, hes⟩ hC hx F₂ N₂ off ne
                obtain ⟨tv, rfl, hkl⟩ := ints_get hSI (by simpa using hv)
                k_steps
                rename Fr _ _ _ _ => Fz
                rename News _ _ _ _ => Nz
                exact sing_turn Fz Nz (by assumption) off (.head _) hes hkl
              case finHc =>
                rintro zq _ ⟨es, rfl, hes⟩
                rw [List.size_toArray, hSl, List.take_length] at hes
                iterate 3 walk1
                rename News _ _ _ _ => NZ
                have hrows := sing_rows NZ hes
                have hrl2 : (List.map (fun x => [x]) S).length < 100 := by rw [List.length_map, hSL]; omega
                have hrs := sing_small hRb hSR
                k_here
                k_dflt (refine' con_use (joined_c _ _ _ _ _ ?hmja ?hRja ?hlja ?h2ja) ?k1ja ?k2ja ?k3ja ?k4ja ?k5ja ?kKja ?kdja ?kuja ?_)
                (case k1ja => k_asm)
                (case k2ja => k_asm)
                (case k3ja => k_asm)
                (case k4ja => k_asm)
                (case k5ja => k_asm)
                (case kKja => first | exact rfl | assumption)
                (case hmja => k_mem)
                (case hRja => first | assumption | exact RowsIn.mono (by assumption) (by intro p h; repeat (first | exact h | refine List.mem_cons_of_mem _ ?_)))
                (case hlja => first | assumption | omega | l_fit)
                (case h2ja => assumption)
                (case kdja => ktr_room)
                (case kuja => ktr_units)
                k_whole
                rintro news' r' h' tk' F' N' ⟨ja, vja, nja, rfl, rfl, oja, ija⟩
                (try simp only [LCg.Off1, and_true] at oja)
                (try dsimp only)
                (try k_fold)
                (try k_sweep)
                obtain ⟨tja, hja⟩ := sing_get hRb hSR ija
                walk1
                k_here
                k_dflt (refine kba_turn (value' := PySem.Expr.Name (PySem.Str.ofString "_") ⟨0, 0, 0, 0⟩) (fun _ => rfl) ?_)
                k_here
                k_dflt (refine' item_refs ?Nq ?mq ?aq ?bq ?xq ?_ ?sq ?tq; (case Nq => k_asm); (case mq => exact List.mem_cons_self ..); (case xq => exact hja); (case aq => decide); (case bq => decide); (case sq => with_unfolding_all rfl); (case tq => kmk_pure); k_whole)
                iterate 6 walk1
                rename News _ _ _ _ => NX
                have NW := news_du NX
                clear NX NZ NS hes hrows hrl2 hrs ija oja
                repeat (rename ((_ : Addr) < _ ∧ _) => q9; clear q9)
                k_here
                k_dflt (refine LCg.ListComp_U (F₀ := by k_asm) (by with_unfolding_all rfl) (by decide) (by rfl) (by decide) (by rfl) ?_)
                iterate 9 walk1
                rename News _ _ _ _ => NS
                rename IntsAre _ (List.take _ (List.drop 1 R)) => hSI2
                obtain ⟨S2, hS2⟩ : ∃ S2, S2 = List.take (min (1 + (i : Int)).toNat R.length - 1) (List.drop 1 R) := ⟨_, rfl⟩
                rw [← hS2] at hSI2
                rw [slice2_eq R i hiR] at hS2
                have hSl2 := hSI2.length
                have hSL2 : S2.length ≤ i := by rw [hS2, List.length_drop, List.length_take]; omega
                have hSR2 : ∀ x ∈ S2, x ∈ R := by rw [hS2]; exact fun x hx => List.mem_of_mem_take (List.mem_of_mem_drop hx)
                refine LCg.CompSrc.ledger rfl (by k_asm) NS (.head _) (by rw [List.size_toArray]; exact Nat.le_trans (by omega) (Nat.le_of_ble_eq_true rfl : 1000 ≤ sizeLine)) ?_
                intro gC2
                refine comp_J (SingJ S2 _) ?turnC2 ?finC2 _ _ _ _ (Nat.zero_add _) ⟨[], rfl, .nil⟩
                case turnC2 =>
                  rintro k zq _ v I2 oI2 C oC D2 m₂ h₂ tk₂ E' hk hv ⟨es, rfl, hes⟩ hC hx F₂ N₂ off ne
                  obtain ⟨tv, rfl, hkl⟩ := ints_get hSI2 (by simpa using hv)
                  k_steps
                  rename Fr _ _ _ _ => Fz
                  rename News _ _ _ _ => Nz
                  exact sing_turn Fz Nz (by assumption) off (.head _) hes hkl
                case finC2 =>
                  rintro zq _ ⟨es, rfl, hes⟩
                  rw [List.size_toArray, hSl2, List.take_length] at hes
                  iterate 3 walk1
                  rename News _ _ _ _ => NZ
                  have hrows := sing_rows NZ hes
                  have hrl2 : (List.map (fun x => [x]) S2).length < 100 := by rw [List.length_map]; omega
                  have hrs := sing_small hRb hSR2
                  k_here
                  k_dflt (refine' con_use (joined_c _ _ _ _ _ ?hmjb ?hRjb ?hljb ?h2jb) ?k1jb ?k2jb ?k3jb ?k4jb ?k5jb ?kKjb ?kdjb ?kujb ?_)
                  (case k1jb => k_asm)
                  (case k2jb => k_asm)
                  (case k3jb => k_asm)
                  (case k4jb => k_asm)
                  (case k5jb => k_asm)
                  (case kKjb => first | exact rfl | assumption)
                  (case hmjb => k_mem)
                  (case hRjb => first | assumption | exact RowsIn.mono (by assumption) (by intro p h; repeat (first | exact h | refine List.mem_cons_of_mem _ ?_)))
                  (case hljb => first | assumption | omega | l_fit)
                  (case h2jb => assumption)
                  (case kdjb => ktr_room)
                  (case kujb => ktr_units)
                  k_whole
                  rintro news' r' h' tk' F' N' ⟨jb, vjb, njb, rfl, rfl, ojb, ijb⟩
                  (try simp only [LCg.Off1, and_true] at ojb)
                  (try dsimp only)
                  (try k_fold)
                  (try k_sweep)
                  obtain ⟨tjb, hjb⟩ := sing_get hRb hSR2 ijb
                  walk1
                  k_here
                  k_dflt (refine kba_turn (value' := PySem.Expr.Name (PySem.Str.ofString "_") ⟨0, 0, 0, 0⟩) (fun _ => rfl) ?_)
                  k_here
                  k_dflt (refine' item_refs ?Nr ?mr ?ar ?br ?xr ?_ ?sr ?tr; (case Nr => k_asm); (case mr => exact List.mem_cons_self ..); (case xr => exact hjb); (case ar => decide); (case br => decide); (case sr => with_unfolding_all rfl); (case tr => kmk_pure); k_whole)
                  rename News _ _ _ _ => NX
                  have NW := news_du NX
                  clear NX hes hrows hrl2 hrs ijb ojb
                  try clear NZ
                  try clear NS
                  repeat (rename ((_ : Addr) < _ ∧ _) => q9; clear q9)
                  k_steps
                  rename Fr _ _ _ _ => Fz
                  rename News _ _ _ _ => Nz
                  exact due_turn Fz Nz hod2 ho (by assumption) hP hdl hiR (by rw [hS, slice1_eq]) (by rw [hS2]) (has_cons rfl (has_cons rfl has_nil))
            case doneG =>
              rintro h₁ tk₁ m₁ news₁ ⟨dvs, c, ts, rfl, hod, hP, hdl, H⟩ F₁ N₁
              clear RX FX NY
              rw [map_has H] at F₁
              have hro : (ro, LCg.lst zr) ∈ ts ++ [(ro, LCg.lst zr)] := List.mem_append_right _ (.head _)
              iterate 10 walk1
              have hRc : ∀ x ∈ R, 1 ≤ x ∧ x ≤ 1000 := fun x hx => ⟨(hRb x hx).1, Int.le_trans (hRb x hx).2 (by decide)⟩
              have hR9 : R.length < 1000 := by omega
              have hro2 : (ro, LCg.lst zr) ∈ (du, listOf dvs.toArray c) :: (ts ++ [(ro, LCg.lst zr)]) := .tail _ hro
              k_here
              k_dflt (refine' con_use (conv_c _ _ _ _ _ ?hmcv ?hicv ?hlcv ?h1cv) ?k1cv ?k2cv ?k3cv ?k4cv ?k5cv ?kKcv ?kdcv ?kucv ?_)
              (case k1cv => k_asm)
              (case k2cv => k_asm)
              (case k3cv => k_asm)
              (case k4cv => k_asm)
              (case k5cv => k_asm)
              (case kKcv => first | exact rfl | assumption)
              (case hmcv => exact hro2)
              (case hicv => with_reducible assumption)
              (case hlcv => exact hR9)
              (case h1cv => exact hRc)
              (case kdcv => ktr_room)
              (case kucv => ktr_units)
              k_whole
              rintro news' r' h' tk' F' N' ⟨lc, fvs, fc, fts, rfl, rfl, hcP⟩
              (try dsimp only)
              (try k_fold)
              (try k_sweep)
              rw [hRn] at hcP
              have hcP2 : PairsIn ((lc, listOf fvs.toArray fc) :: (fts ++ ((du, listOf dvs.toArray c) :: (ts ++ [(ro, LCg.lst zr)])))) fvs (List.map (convP R) (List.range (3 + x0).toNat)) := hcP.mono fun p h => .tail _ (List.mem_append_left _ h)
              have hdP2 : PairsIn ((lc, listOf fvs.toArray fc) :: (fts ++ ((du, listOf dvs.toArray c) :: (ts ++ [(ro, LCg.lst zr)])))) dvs (List.map (convP R) (List.range (3 + x0).toNat)) := hP.mono fun p h => .tail _ (List.mem_append_right _ (.tail _ (List.mem_append_left _ h)))
              have hdm : (du, listOf dvs.toArray c) ∈ fts ++ ((du, listOf dvs.toArray c) :: (ts ++ [(ro, LCg.lst zr)])) := List.mem_append_right _ (.head _)
              iterate 2 walk1
              rename Fr _ _ _ _ => Fz
              exact ⟨rfl, _, _, _, rfl, Fz⟩)
end Mine
theorem PySem.Challenge.cw_xm0115_01_holds : PySem.Challenge.rw_xm0115_01.Holds :=
  Mine.law_holds
