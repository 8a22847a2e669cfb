import PyProof.Rows.All
import Wide.All
import OpenK.AllK
import Wide.FinOn
import HandS.ForMost
import HandS.Replace
import HandS.Codes
import PySem.Challenge.RW_stemshelf_k09_whole_cut_alone
set_option Elab.async false
set_option linter.all false
set_option maxRecDepth 100000
set_option maxHeartbeats 4000000
/-! stemshelf, whole_cut_alone: the pieces of a content. The law of cutting in plain Lean; each def of the program and of the law by its promise over the hand layer; the end over the top. -/
namespace K9
/-- the number of a sign, by its code -/
def num (c : Nat) : Nat := if c < 37 then c - 32 else c - 33
/-- the codes of the alphabet -/
def good (c : Nat) : Bool := decide (32 ≤ c) && decide (c ≤ 126) && decide (c ≠ 37)
def isEnd (a b : Nat) : Bool := decide (((num b : Int) + 7 * (num a : Int)) % 5 = 0)
def ends (p : List Nat) : Bool :=
  if p.length < 2 ∨ p.length = 8 then decide (p.length = 8) else isEnd (p.getD (p.length - 2) 0) (p.getD (p.length - 1) 0)
def cut : List Nat → List Nat → List (List Nat)
  | p, [] => if p = [] then [] else [p]
  | p, c :: r => if ends (p ++ [c]) = true then (p ++ [c]) :: cut [] r else cut (p ++ [c]) r

theorem ends_nil : ends [] = false := rfl
theorem cut_flatten : ∀ (r p : List Nat), (cut p r).flatten = p ++ r
  | [], p => by
    unfold cut
    by_cases h : p = []
    · rw [if_pos h, h]; rfl
    · rw [if_neg h]; simp
  | c :: r, p => by
    unfold cut
    by_cases h : ends (p ++ [c]) = true
    · rw [if_pos h, List.flatten_cons, cut_flatten r []]; simp
    · rw [if_neg h, cut_flatten r (p ++ [c])]; simp

theorem cut_drop_succ : ∀ (r p : List Nat) (k : Nat), ∃ r', (cut p r).drop (k + 1) = cut [] r'
  | [], p, k => by
    refine ⟨[], ?_⟩
    unfold cut
    by_cases h : p = []
    · rw [if_pos h]; simp
    · rw [if_neg h]; simp
  | c :: r, p, k => by
    by_cases h : ends (p ++ [c]) = true
    · have e : cut p (c :: r) = (p ++ [c]) :: cut [] r := by rw [cut, if_pos h]
      rw [e, List.drop_succ_cons]
      cases k with
      | zero => exact ⟨r, rfl⟩
      | succ k => exact cut_drop_succ r [] k
    · have e : cut p (c :: r) = cut (p ++ [c]) r := by rw [cut, if_neg h]
      rw [e]
      exact cut_drop_succ r (p ++ [c]) k
theorem cut_drop (r : List Nat) (k : Nat) : ∃ r', (cut [] r).drop k = cut [] r' := by
  cases k with
  | zero => exact ⟨r, rfl⟩
  | succ k => exact cut_drop_succ r [] k
/-- what lies behind a piece is cut as if it stood alone -/
theorem cut_alone (r : List Nat) (k : Nat) : cut [] ((cut [] r).drop k).flatten = (cut [] r).drop k := by
  obtain ⟨r', e⟩ := cut_drop r k
  rw [e, cut_flatten r' [], List.nil_append]

/-- where the k-th piece begins -/
def at_ (ps : List (List Nat)) (k : Nat) : Nat := ((ps.take k).map List.length).sum
theorem at_zero (ps : List (List Nat)) : at_ ps 0 = 0 := rfl
theorem at_succ {ps : List (List Nat)} {k : Nat} {p : List Nat} (h : ps[k]? = some p) : at_ ps (k + 1) = at_ ps k + p.length := by
  unfold at_
  rw [List.take_add_one, h, List.map_append, List.sum_append]
  simp
theorem drop_flatten (ps : List (List Nat)) (k : Nat) : (ps.drop k).flatten = ps.flatten.drop (at_ ps k) := by
  have e : ps.flatten = (ps.take k).flatten ++ (ps.drop k).flatten := by rw [← List.flatten_append, List.take_append_drop]
  have el : (ps.take k).flatten.length = at_ ps k := List.length_flatten
  rw [e, ← el, List.drop_left]
theorem cut_same {o o' e : List Nat} {i j : Nat} {x : Int} (h0 : 0 ≤ x) (hi : x = (at_ (cut [] (o ++ e)) i : Int) - (o.length : Int)) (hj : x = (at_ (cut [] (o' ++ e)) j : Int) - (o'.length : Int)) :
    (cut [] (o ++ e)).drop i = (cut [] (o' ++ e)).drop j := by
  have a : ∀ (o : List Nat) (i : Nat), x = (at_ (cut [] (o ++ e)) i : Int) - (o.length : Int) → ((cut [] (o ++ e)).drop i).flatten = e.drop x.toNat := by
    intro o i hi
    rw [drop_flatten, cut_flatten, List.nil_append]
    have e1 : at_ (cut [] (o ++ e)) i = o.length + x.toNat := by omega
    rw [e1, List.drop_append]
    simp
  rw [← cut_alone (o ++ e) i, ← cut_alone (o' ++ e) j, a o i hi, a o' j hj]

/-- a piece: one to eight signs, no sooner place is an end -/
structure Piece (p : List Nat) : Prop where
  lo : 1 ≤ p.length
  hi : p.length ≤ 8
  no : ∀ i, 1 ≤ i → i + 1 < p.length → isEnd (p.getD (i - 1) 0) (p.getD i 0) = false
def Closed (p : List Nat) : Prop := p.length < 8 → 2 ≤ p.length ∧ isEnd (p.getD (p.length - 2) 0) (p.getD (p.length - 1) 0) = true
def Well : List (List Nat) → Prop
  | [] => True
  | p :: ps => Piece p ∧ (ps ≠ [] → Closed p) ∧ Well ps
structure Open (p : List Nat) : Prop where
  hi : p.length < 8
  no : ∀ i, 1 ≤ i → i < p.length → isEnd (p.getD (i - 1) 0) (p.getD i 0) = false
theorem open_nil : Open [] := ⟨by decide, fun i _ h => absurd h (Nat.not_lt_zero _)⟩
theorem getD_app {p : List Nat} {c i : Nat} (h : i < p.length) : (p ++ [c]).getD i 0 = p.getD i 0 := by
  simp [List.getD_eq_getElem?_getD, List.getElem?_append_left h]
theorem piece_of {p : List Nat} {c : Nat} (o : Open p) : Piece (p ++ [c]) := by
  have hl : (p ++ [c]).length = p.length + 1 := by simp
  have := o.hi
  refine ⟨by omega, by omega, fun i h1 h2 => ?_⟩
  rw [getD_app (by omega), getD_app (by omega)]
  exact o.no i h1 (by omega)
theorem closed_of {p : List Nat} (h : ends p = true) : Closed p := by
  intro h8
  unfold ends at h
  by_cases hc : p.length < 2 ∨ p.length = 8
  · rw [if_pos hc] at h
    have := of_decide_eq_true h
    omega
  · rw [if_neg hc] at h
    exact ⟨by omega, h⟩
theorem open_of {p : List Nat} {c : Nat} (o : Open p) (h : ¬ ends (p ++ [c]) = true) : Open (p ++ [c]) := by
  have hl : (p ++ [c]).length = p.length + 1 := by simp
  have hlt := o.hi
  have h8 : (p ++ [c]).length ≠ 8 := by
    intro e
    apply h
    unfold ends
    rw [if_pos (.inr e)]
    exact decide_eq_true e
  refine ⟨by omega, fun i h1 h2 => ?_⟩
  by_cases hi : i < p.length
  · rw [getD_app (by omega), getD_app (by omega)]
    exact o.no i h1 hi
  · have ei : i = p.length := by omega
    unfold ends at h
    rw [if_neg (by omega)] at h
    have e1 : (p ++ [c]).length - 2 = i - 1 := by omega
    have e2 : (p ++ [c]).length - 1 = i := by omega
    rw [e1, e2] at h
    exact Bool.eq_false_iff.mpr h
theorem cut_well : ∀ (r p : List Nat), Open p → Well (cut p r)
  | [], p, o => by
    unfold cut
    by_cases h : p = []
    · rw [if_pos h]; trivial
    · rw [if_neg h]
      refine ⟨⟨?_, Nat.le_of_lt o.hi, fun i h1 h2 => o.no i h1 (by omega)⟩, fun h => absurd rfl h, trivial⟩
      exact List.length_pos_iff.mpr h
  | c :: r, p, o => by
    unfold cut
    by_cases h : ends (p ++ [c]) = true
    · rw [if_pos h]
      exact ⟨piece_of o, fun _ => closed_of h, cut_well r [] open_nil⟩
    · rw [if_neg h]
      exact cut_well r (p ++ [c]) (open_of o h)
theorem well_at : ∀ {ps : List (List Nat)} {k : Nat} {p : List Nat}, Well ps → ps[k]? = some p → Piece p ∧ (k + 1 < ps.length → Closed p)
  | [], k, p, _, h => by simp at h
  | q :: ps, 0, p, w, h => by
    obtain rfl : q = p := by simpa using h
    refine ⟨w.1, fun hl => w.2.1 ?_⟩
    intro e
    subst e
    simp at hl
  | q :: ps, k + 1, p, w, h => by
    have := well_at (k := k) w.2.2 (by simpa using h)
    refine ⟨this.1, fun hl => this.2 ?_⟩
    simpa using hl

/-- all signs of all pieces are of the content -/
theorem cut_mem {l : List Nat} {p : List Nat} (h : p ∈ cut [] l) {c : Nat} (hc : c ∈ p) : c ∈ l := by
  have e := cut_flatten l []
  rw [List.nil_append] at e
  rw [← e]
  exact List.mem_flatten.mpr ⟨p, h, hc⟩
theorem well_len : ∀ (ps : List (List Nat)), Well ps → ps.length ≤ ps.flatten.length
  | [], _ => Nat.le_refl _
  | p :: ps, w => by
    have := well_len ps w.2.2
    have := w.1.lo
    rw [List.flatten_cons, List.length_append, List.length_cons]
    omega
theorem cut_len (l : List Nat) : (cut [] l).length ≤ l.length := by
  have := well_len _ (cut_well l [] open_nil)
  rw [cut_flatten, List.nil_append] at this
  exact this
end K9
namespace K9
open PySem PySem.Spec PyProof.Rows L2 SX

/-! ### a text of at most n signs of the alphabet -/
structure Tx (z : Str) (n : Nat) : Prop where
  len : z.length ≤ n
  ok : ∀ c ∈ z.cps.toList, good c = true
theorem Tx.mono {z : Str} {n m : Nat} (h : Tx z n) (e : n ≤ m) : Tx z m := ⟨Nat.le_trans h.len e, h.ok⟩
theorem tx_S {l : List Nat} {n : Nat} (h : l.length ≤ n) (g : ∀ c ∈ l, good c = true) : Tx (S l) n := ⟨by rw [S_len]; exact h, g⟩
theorem tx_one {c : Nat} (g : good c = true) : Tx (⟨#[c]⟩ : Str) 1 := ⟨Nat.le_refl 1, fun d hd => by
  have e : d = c := by simpa using hd
  rw [e]; exact g⟩
theorem tl_len (z : Str) : z.cps.toList.length = z.length := by simp [Str.length]
theorem len_add (a b : Str) : (a ++ b).length = a.length + b.length := by
  rw [← tl_len, ← tl_len, ← tl_len]
  have e : (a ++ b).cps.toList = a.cps.toList ++ b.cps.toList := by rw [Str.cps_append, Array.toList_append]
  rw [e, List.length_append]
theorem tx_add {a b : Str} {n m : Nat} (h : Tx a n) (g : Tx b m) : Tx (a ++ b) (n + m) := by
  refine ⟨by rw [len_add]; exact Nat.add_le_add h.len g.len, fun c hc => ?_⟩
  have e : (a ++ b).cps.toList = a.cps.toList ++ b.cps.toList := by rw [Str.cps_append, Array.toList_append]
  rw [e] at hc
  rcases List.mem_append.mp hc with q | q
  · exact h.ok c q
  · exact g.ok c q
theorem tx_cut {a : Str} {n : Nat} (h : Tx a n) (lo hi : Option Int) : Tx (cutS a lo hi) n :=
  ⟨Nat.le_trans (cutS_length a lo hi) h.len, fun c hc => h.ok c (List.mem_of_mem_drop (List.mem_of_mem_take hc))⟩
theorem cut_to (z : Str) {i : Int} (h : 0 ≤ i) : (cutS z none (some i)).length ≤ i.toNat := by
  obtain ⟨k, rfl⟩ := Int.eq_ofNat_of_zero_le h
  show (((z.cps.toList.drop (HT.sIx z.length 0 none)).take (HT.sIx z.length z.length (some (k : Int)) - HT.sIx z.length 0 none)).toArray).size ≤ (k : Int).toNat
  rw [List.size_toArray, List.length_take, HT.sIx_nat, HT.sIx_none]
  simp
  omega
theorem tx_cut_to {a : Str} {n m : Nat} (h : Tx a n) {i : Int} (h0 : 0 ≤ i) (hi : i ≤ (m : Int)) : Tx (cutS a none (some i)) m :=
  ⟨Nat.le_trans (cut_to a h0) (by omega), (tx_cut h none (some i)).ok⟩
theorem foldl_ok {c : Array Nat} (hc : ∀ x ∈ c.toList, good x = true) : ∀ (k : Nat) (acc : Array Nat), (∀ x ∈ acc.toList, good x = true) → ∀ x ∈ ((List.replicate k c).foldl (· ++ ·) acc).toList, good x = true
  | 0, acc, h => h
  | k + 1, acc, h => by
    rw [List.replicate_succ, List.foldl_cons]
    refine foldl_ok hc k (acc ++ c) fun x hx => ?_
    rw [Array.toList_append] at hx
    rcases List.mem_append.mp hx with q | q
    · exact h x q
    · exact hc x q
theorem tx_mul {a : Str} {n N : Nat} (h : Tx a n) {k : Int} (hk : k ≤ (N : Int)) : Tx (Txt.mul a k) (n * N) := by
  refine ⟨len_mul_leN h.len hk, ?_⟩
  unfold Txt.mul
  split
  · intro c hc
    exact absurd hc (by simp [Str.empty])
  · split
    · exact h.ok
    · exact foldl_ok h.ok _ #[] (by simp)
theorem joinL_nil : ∀ l : List (List Nat), TL.joinL [] l = l.flatten
  | [] => rfl
  | [p] => by simp [TL.joinL]
  | p :: q :: r => by
    rw [TL.joinL, joinL_nil (q :: r)]
    simp
theorem join_nil (l : List (List Nat)) : Txt.join (S []) (l.map S) = S l.flatten := by rw [join_S, joinL_nil]
theorem empty_S : (("" : Str)) = S [] := by decide +kernel
theorem sum_ones : ∀ {l : List (List Nat)}, (∀ p ∈ l, p.length = 1) → l.flatten.length = l.length
  | [], _ => rfl
  | p :: r, h => by
    rw [List.flatten_cons, List.length_append, h p List.mem_cons_self, sum_ones fun q hq => h q (List.mem_cons_of_mem _ hq), List.length_cons, Nat.add_comm]

/-! ### the alphabet -/
def sigStr : Str := " !\"#$&'()*+,-./0123456789:;<=>?@ABCDEFGHIJKLMNOPQRSTUVWXYZ[\\]^_`abcdefghijklmnopqrstuvwxyz{|}~"
def sig1 : Str := " !\"#$&'()*+,-./0123456789:;<=>?@ABCDEFGHIJKLMNOPQRSTUVWXYZ[\\]^_`"
def sig2 : Str := "abcdefghijklmnopqrstuvwxyz{|}~"
theorem sig_cat : sig1 ++ sig2 = sigStr := by decide +kernel
theorem sig_len : sigStr.length = 94 := by decide +kernel
theorem sig1_len : sig1.length = 64 := by decide +kernel
theorem sig2_len : sig2.length = 30 := by decide +kernel
theorem sig_good : sigStr.cps.toList.all good = true := by decide +kernel
theorem sig_at {i : Int} (h0 : 0 ≤ i) (h : i < 94) : ∃ c, atI sigStr.cps.toList i = some c ∧ good c = true := by
  obtain ⟨k, rfl⟩ := Int.eq_ofNat_of_zero_le h0
  have hl : k < sigStr.cps.toList.length := by rw [tl_len, sig_len]; omega
  exact ⟨sigStr.cps.toList[k], atI_nat (List.getElem?_eq_getElem hl), List.all_eq_true.mp sig_good _ (List.getElem_mem hl)⟩
theorem occ_all : ∀ c, c < 127 → good c = true → (Builtin.Str.occurrences sigStr ⟨#[c]⟩ 0 sigStr.length 1).head? = some (num c) := by decide +kernel
theorem good_lt {c : Nat} (h : good c = true) : c < 127 := by
  unfold good at h
  simp at h
  omega
theorem occ {c : Nat} (h : good c = true) : ∃ rest, Builtin.Str.occurrences sigStr ⟨#[c]⟩ 0 sigStr.length 1 = num c :: rest := by
  have e := occ_all c (good_lt h) h
  cases q : Builtin.Str.occurrences sigStr ⟨#[c]⟩ 0 sigStr.length 1 with
  | nil => rw [q] at e; cases e
  | cons i r =>
    rw [q] at e
    exact ⟨r, by rw [Option.some.inj e]⟩
/-! ### places from behind -/
theorem at_back1 {l : List Nat} (h : 1 ≤ l.length) : atI l (-1) = some (l.getD (l.length - 1) 0) := by
  unfold atI ixN
  rw [if_neg (by omega), if_pos (by omega)]
  have e : ((-1 : Int) + (l.length : Int)).toNat = l.length - 1 := by omega
  show (some ((-1 : Int) + (l.length : Int)).toNat).bind _ = _
  rw [e, List.getD_eq_getElem?_getD]
  show l[l.length - 1]? = _
  rw [List.getElem?_eq_getElem (by omega)]
  rfl
theorem at_back2 {l : List Nat} (h : 2 ≤ l.length) : atI l (-2) = some (l.getD (l.length - 2) 0) := by
  unfold atI ixN
  rw [if_neg (by omega), if_pos (by omega)]
  have e : ((-2 : Int) + (l.length : Int)).toNat = l.length - 2 := by omega
  show (some ((-2 : Int) + (l.length : Int)).toNat).bind _ = _
  rw [e, List.getD_eq_getElem?_getD]
  show l[l.length - 2]? = _
  rw [List.getElem?_eq_getElem (by omega)]
  rfl
theorem at_fore {l : List Nat} {i : Nat} (h : i < l.length) : atI l (i : Int) = some (l.getD i 0) := by
  refine atI_nat ?_
  rw [List.getD_eq_getElem?_getD, List.getElem?_eq_getElem h]
  rfl
theorem good_getD {l : List Nat} (g : ∀ c ∈ l, good c = true) {i : Nat} (h : i < l.length) : good (l.getD i 0) = true := by
  rw [List.getD_eq_getElem?_getD, List.getElem?_eq_getElem h]
  exact g _ (List.getElem_mem h)
/-! ### lists of texts as values, compared -/
abbrev TV (l : List (List Nat)) : List V := (l.map S).map V.str
theorem tv_len (l : List (List Nat)) : (TV l).length = l.length := by simp
def TD (l : List (List Nat)) : List PyData := l.map fun p => PyData.str (S p)
theorem dp_all {K : PySem.W.Frag} {H : Hp} : ∀ l : List (List Nat), DpAll K H (TV l) (TD l)
  | [] => .nil
  | p :: r => .cons (.str (S p)) (dp_all r)
def GL (l : List (List Nat)) : Prop := ∀ p ∈ l, ∀ c ∈ p, good c = true
theorem str_ok {p : List Nat} (h : ∀ c ∈ p, good c = true) : PyData.strOk (S p) = true := by
  unfold PyData.strOk
  rw [← Array.all_toList, List.all_eq_true]
  intro c hc
  have := good_lt (h c hc)
  exact decide_eq_true (by omega)
theorem can_all : ∀ l : List (List Nat), GL l → PyData.canLayAll0 (TD l) = true
  | [], _ => by simp [TD, PyData.canLayAll0]
  | p :: r, h => by
    have ih := can_all r fun q hq => h q (List.mem_cons_of_mem _ hq)
    have h1 := str_ok (h p List.mem_cons_self)
    show PyData.canLayAll0 (PyData.str (S p) :: TD r) = true
    simp [PyData.canLayAll0, PyData.canLay0, ih, h1]
theorem depth_all : ∀ l : List (List Nat), PyData.depthAll (TD l) ≤ 1
  | [] => by simp [TD, PyData.depthAll]
  | p :: r => by
    have ih := depth_all r
    show PyData.depthAll (PyData.str (S p) :: TD r) ≤ 1
    simp [PyData.depthAll, PyData.depth]
    omega
theorem td_shaped {l : List (List Nat)} (h : GL l) : SeqAt.shaped (.list (TD l)) = true := by
  unfold SeqAt.shaped
  rw [Bool.and_eq_true]
  refine ⟨by simpa [PyData.canLay0] using can_all l h, decide_eq_true ?_⟩
  have := depth_all l
  simp [PyData.depth]
  omega
theorem td_same {l : List (List Nat)} (h : GL l) : PyData.eqv (.list (TD l)) (.list (TD l)) = true := SeqAt.eqv_refl _ (SeqAt.canLay_of_shaped (td_shaped h))
/-! ### text * number: the rule -/
theorem op_mul_str {X : Cx} : OpR X (binaryOp .Mult) (fun x y H Q => ∃ z n, x = .str z ∧ y = .int n ∧ MulOk z n ∧ Q (.str (Txt.mul z n)) H) := by
  intro pins s σ H x y v u Q I rx ry h
  obtain ⟨i, j, rfl, rfl, hz, q⟩ := h
  obtain ⟨t, rfl⟩ := rx
  obtain ⟨t', rfl⟩ := ry
  exact SB.mul hz (fun t' tk => ⟨.str (Txt.mul i j), H, I.tok _, ⟨_, rfl⟩, q⟩)
end K9
namespace K9
open PySem PySem.Spec PyProof.Rows L2 SX
/-! ### the program by places -/
def topS (i : Nat) : Stmt := PySem.Challenge.pw_stemshelf_k09_whole_cut_alone.main.body.getD i (.Pass ⟨0, 0, 0, 0⟩)
abbrev sNum : Stmt := topS 2
abbrev sEnds : Stmt := topS 8
abbrev sPieces : Stmt := topS 9
abbrev sCell : Stmt := topS 11
abbrev sNumbers : Stmt := topS 12
abbrev sSigns : Stmt := topS 13
abbrev sContent : Stmt := topS 14
abbrev sIsEnd : Stmt := topS 15
abbrev sWell : Stmt := topS 16
abbrev sBegins : Stmt := topS 17
abbrev sLaw : Stmt := topS 18
/-- what the top leaves besides the defs -/
structure Glob (mg : Str → Option Value) : Prop where
  sig : ∃ t, mg "SIGNS" = some (.str sigStr t)
  least : ∃ t, mg "LEAST" = some (.int 2 t)
  most : ∃ t, mg "MOST" = some (.int 8 t)
  by_ : ∃ t, mg "BY" = some (.int 5 t)
  turn : ∃ t, mg "TURN" = some (.int 7 t)
  len : mg "len" = none
  range : mg "range" = none
  enum : mg "enumerate" = none
theorem same_upd {H : Hp} {p : Addr} {o : HO} (h : H p = none) : Same H (upd H p o) := fun b x e => by
  rw [upd_ne (ne_of_none e h)]
  exact e
section
variable {P : Program} {w : World} {K : PySem.W.Frag} {mg : Str → Option Value} {base : Heap}
/-! ### number_of -/
def spNum : Sp := fun vs H Q _ => ∃ c : Nat, vs = [.str ⟨#[c]⟩] ∧ good c = true ∧ Q (.int (num c : Nat)) H
theorem scNum : FnScope ["sign"] ["sign"] (defScope sNum) := ⟨rfl, rfl, rfl, by decide +kernel, rfl, by decide +kernel, by decide +kernel⟩
theorem ok_num {f : Addr} {fd : FuncData} (F : Fun K "number_of" "number_of" sNum f fd) (T : Glob mg) : FnOk P w K mg base CX0 1 f fd ["sign"] spNum := by
  obtain ⟨tS, hS⟩ := T.sig
  refine F.ok scNum (fun vs H Q E h => ?_) (fun cdv A outer s H vs Q E hr h => ?_)
  · obtain ⟨c, rfl, _⟩ := h
    rfl
  · obtain ⟨c, rfl, hg, q⟩ := h
    obtain ⟨rest, ho⟩ := occ hg
    refine ⟨_, pss_one (ps_ret (pe_m1 PySem.F.slot_str_index PySem.F.type_str_index mt_sindex (pe_glob (v := V.str sigStr) rfl hS ⟨_, rfl⟩) (pv 0))), ?_⟩
    exact ⟨⟨_, rfl⟩, _, rfl, _, _, _, _, rfl, rfl, ho, q⟩
/-! ### ends_piece -/
def spEnds : Sp := fun vs H Q _ => ∃ p : List Nat, vs = [.str (S p)] ∧ p.length ≤ 8 ∧ (∀ c ∈ p, good c = true) ∧ Q (.bl (ends p)) H
theorem scEnds : FnScope ["piece"] ["piece"] (defScope sEnds) := ⟨rfl, rfl, rfl, by decide +kernel, rfl, by decide +kernel, by decide +kernel⟩
theorem ok_ends {f fN : Addr} {fd fdN : FuncData} (F : Fun K "ends_piece" "ends_piece" sEnds f fd) (T : Glob mg) (GN : FnOk P w K mg base CX0 1 fN fdN ["sign"] spNum) (kN : PySem.W.keepIn K (.ref fN) = true) (bN : Binds K fdN ["sign"] []) (gN : mg "number_of" = some (.ref fN)) :
    FnOk P w K mg base CX0 2 f fd ["piece"] spEnds := by
  obtain ⟨t1, h1⟩ := T.least
  obtain ⟨t2, h2⟩ := T.most
  obtain ⟨t3, h3⟩ := T.by_
  obtain ⟨t4, h4⟩ := T.turn
  refine F.ok scEnds (fun vs H Q E h => ?_) (fun cdv A outer s H vs Q E hr h => ?_)
  · obtain ⟨c, rfl, _⟩ := h
    rfl
  · obtain ⟨p, rfl, hl, hg, q⟩ := h
    have hz : (S p).length ≤ sizeLine := by rw [S_len]; exact Nat.le_of_lt (small1000 (by omega))
    refine ⟨_, pss_cons (ps_if (PW.pt (pw_or (pt_cmpR op_lt (pe_callB call_len_str (by rfl) T.len PySem.boot_len (pa_cons (pv 0) pa_nil)) (pe_glob (v := V.int 2) rfl h1 ⟨_, rfl⟩) (nomark _))
          (pw_or1 (pt_cmpR op_eq (pe_callB call_len_str (by rfl) T.len PySem.boot_len (pa_cons (pv 0) pa_nil)) (pe_glob (v := V.int 8) rfl h2 ⟨_, rfl⟩) (nomark _)))))
        (pss_one (ps_ret (pe_cmpR op_eq (pe_callB call_len_str (by rfl) T.len PySem.boot_len (pa_cons (pv 0) pa_nil)) (pe_glob (v := V.int 8) rfl h2 ⟨_, rfl⟩) (nomark _)))) pss_nil)
      (pss_one (ps_ret (pe_cmpR op_eq (pe_op op_mod (pe_op op_add (pe_call GN hr (by rfl) gN kN bN .nil pass0 (pa_cons (pe_ix ix_str (pv 0) (pe_un un_neg pe_int) (fun _ _ => rfl)) pa_nil))
        (pe_op op_mul (pe_glob (v := V.int 7) rfl h4 ⟨_, rfl⟩) (pe_call GN hr (by rfl) gN kN bN .nil pass0 (pa_cons (pe_ix ix_str (pv 0) (pe_un un_neg pe_int) (fun _ _ => rfl)) pa_nil)))) (pe_glob (v := V.int 5) rfl h3 ⟨_, rfl⟩)) pe_int (nomark _)))), ?_⟩
    refine ⟨_, rfl, _, rfl, hz, _, _, rfl, rfl, _, rfl, ?_⟩
    have el : ((S p).length : Int) = (p.length : Int) := by rw [S_len]
    by_cases c1 : p.length < 2
    · have d1 : decide (((S p).length : Int) < 2) = true := decide_eq_true (by rw [el]; omega)
      rw [d1]
      refine iteT (iteT ⟨_, rfl, _, rfl, hz, rfl, ?_⟩)
      have e : ends p = decide (V.int ((S p).length : Int) = V.int 8) := by
        unfold ends
        rw [if_pos (.inl c1), dec_int, el]
        have n8 : p.length ≠ 8 := by omega
        rw [decide_eq_false n8]
        symm
        rw [beq_eq_false_iff_ne]
        omega
      rw [← e]; exact q
    · have d1 : decide (((S p).length : Int) < 2) = false := decide_eq_false (by rw [el]; omega)
      rw [d1]
      refine iteF ⟨_, rfl, _, rfl, hz, rfl, _, rfl, ?_⟩
      by_cases c2 : p.length = 8
      · have d2 : decide (V.int ((S p).length : Int) = V.int 8) = true := by rw [dec_int, el, beq_iff_eq]; omega
        rw [d2]
        refine iteT ⟨_, rfl, _, rfl, hz, rfl, ?_⟩
        have e : ends p = decide (V.int ((S p).length : Int) = V.int 8) := by
          unfold ends
          rw [if_pos (.inr c2), d2, decide_eq_true c2]
        rw [← e]; exact q
      · have d2 : decide (V.int ((S p).length : Int) = V.int 8) = false := by rw [dec_int, el, beq_eq_false_iff_ne]; omega
        rw [d2]
        refine iteF ?_
        show ∃ v, _
        refine ⟨_, rfl, _, rfl, _, _, _, rfl, rfl, hz, at_back1 (l := p) (by omega), _, rfl, good_getD (l := p) hg (by omega), ?_⟩
        refine ⟨_, rfl, _, rfl, _, _, _, rfl, rfl, hz, at_back2 (l := p) (by omega), _, rfl, good_getD (l := p) hg (by omega), ?_⟩
        refine ⟨_, _, rfl, rfl, .inl ⟨by decide, by decide⟩, _, _, rfl, rfl, _, _, rfl, rfl, (by decide : (0 : Int) < 5), rfl, ?_⟩
        have e : ends p = decide (V.int (((num (p.getD (p.length - 1) 0) : Nat) + 7 * (num (p.getD (p.length - 2) 0) : Nat) : Int) % 5) = V.int 0) := by
          unfold ends
          rw [if_neg (by omega), dec_int]
          unfold isEnd
          rw [Bool.eq_iff_iff, decide_eq_true_iff, beq_iff_eq]
        rw [e] at q
        exact q
end
end K9
namespace K9
open PySem PySem.Spec PyProof.Rows L2 SX
/-- any for, by its turns -/
theorem for_gen {J : It} {g : TG} {tb : TS} {D : Ends} {σ : L2.St} {H : Hp} (n : Nat) (Pv : Nat → L2.St → Hp → Prop) (h0 : Pv 0 σ H) (hgo : ∀ i σ H, i < n → Pv i σ H → J.go i H)
    (hs : ∀ i x σ H H', i < n → Pv i σ H → J.yld i H x H' → g x σ H' fun σ2 H2 => tb { D with nx := Pv (i + 1), ct := Pv (i + 1), bk := D.nx } σ2 H2) (hst : ∀ σ H, Pv n σ H → J.stop n H) (hd : ∀ σ H, Pv n σ H → D.nx σ H) :
    ∃ W : Nat → Nat → L2.St → Hp → Prop, (∃ m, W 0 m σ H) ∧ ∀ i m σ H, W i m σ H →
      (J.stop i H ∧ D.nx σ H) ∨ (J.go i H ∧ ∃ N : L2.St → Hp → Prop, (∀ σ' H', N σ' H' → ∃ m', m' < m ∧ W (i + 1) m' σ' H') ∧ ∀ x H', J.yld i H x H' → g x σ H' fun σ2 H2 => tb { D with nx := N, ct := N, bk := D.nx } σ2 H2) := by
  refine ⟨fun i m σ H => m = n - i ∧ i ≤ n ∧ Pv i σ H, ⟨n, by simp, Nat.zero_le _, h0⟩, ?_⟩
  rintro i m σ H ⟨rfl, hi, p⟩
  by_cases hlt : i < n
  · exact .inr ⟨hgo i σ H hlt p, Pv (i + 1), fun σ' H' p' => ⟨n - (i + 1), by omega, rfl, hlt, p'⟩, fun x H' y => hs i x σ H H' hlt p y⟩
  · have e : i = n := by omega
    subst e
    exact .inl ⟨hst σ H p, hd σ H p⟩
section
variable {P : Program} {w : World} {K : PySem.W.Frag} {mg : Str → Option Value} {base : Heap}
/-! ### pieces_of -/
def spPieces : Sp := fun vs H Q _ => ∃ l : List Nat, vs = [.str (S l)] ∧ l.length ≤ 400 ∧ (∀ c ∈ l, good c = true) ∧ ∀ H' p, Same H H' → H p = none → H' p = some (.lst (TV (cut [] l))) → Q (.ref p) H'
theorem scPieces : FnScope ["content", "found", "piece", "sign"] ["content"] (defScope sPieces) := ⟨rfl, rfl, rfl, by decide +kernel, rfl, by decide +kernel, by decide +kernel⟩
/-- between two turns: so many signs are gone through -/
structure Mid (l : List Nat) (i : Nat) (fs : List (List Nat)) (p : List Nat) : Prop where
  eq : fs ++ cut p (l.drop i) = cut [] l
  len : fs.length ≤ i
  op : Open p
  ok : ∀ c ∈ p, good c = true
theorem mid_start (l : List Nat) : Mid l 0 [] [] := ⟨rfl, Nat.le_refl _, open_nil, fun _ h => absurd h List.not_mem_nil⟩
theorem mid_end {l : List Nat} {i : Nat} {fs : List (List Nat)} {p : List Nat} {c : Nat} (m : Mid l i fs p) (hc : l[i]? = some c) (h : ends (p ++ [c]) = true) : Mid l (i + 1) (fs ++ [p ++ [c]]) [] := by
  refine ⟨?_, by rw [List.length_append]; have := m.len; simp; omega, open_nil, fun _ h => absurd h List.not_mem_nil⟩
  have e := m.eq
  obtain ⟨hi, hx⟩ := List.getElem?_eq_some_iff.mp hc
  rw [List.drop_eq_getElem_cons hi, hx, cut, if_pos h] at e
  rw [← e, List.append_assoc]
  rfl
theorem mid_on {l : List Nat} {i : Nat} {fs : List (List Nat)} {p : List Nat} {c : Nat} (m : Mid l i fs p) (hg : ∀ c ∈ l, good c = true) (hc : l[i]? = some c) (h : ¬ ends (p ++ [c]) = true) : Mid l (i + 1) fs (p ++ [c]) := by
  obtain ⟨hi, hx⟩ := List.getElem?_eq_some_iff.mp hc
  refine ⟨?_, Nat.le_succ_of_le m.len, open_of m.op h, fun d hd => ?_⟩
  · have e := m.eq
    rw [List.drop_eq_getElem_cons hi, hx, cut, if_neg h] at e
    exact e
  · rcases List.mem_append.mp hd with q | q
    · exact m.ok d q
    · rw [List.mem_singleton.mp q, ← hx]
      exact hg _ (List.getElem_mem hi)
theorem ok_pieces {f fE : Addr} {fd fdE : FuncData} (F : Fun K "pieces_of" "pieces_of" sPieces f fd) (GE : FnOk P w K mg base CX0 2 fE fdE ["piece"] spEnds) (kE : PySem.W.keepIn K (.ref fE) = true) (bE : Binds K fdE ["piece"] []) (gE : mg "ends_piece" = some (.ref fE)) :
    FnOk P w K mg base CX0 3 f fd ["content"] spPieces := by
  refine F.ok scPieces (fun vs H Q E h => ?_) (fun cdv A outer s H vs Q E hr h => ?_)
  · obtain ⟨c, rfl, _⟩ := h
    rfl
  · obtain ⟨l, rfl, hl, hg, q⟩ := h
    refine ⟨_, pss_cons (ps_set (i := 1) scPieces.nd rfl (.inl rfl) (pe_lst pa_nil))
      (pss_cons (ps_set (i := 2) scPieces.nd rfl (.inl rfl) pe_str)
      (pss_cons (ps_for PassesOwn.never rfl (pi_str (pv 0)) (pg_name (i := 3) scPieces.nd rfl (.inl rfl))
        (pss_cons (ps_set (i := 2) scPieces.nd rfl (.inl rfl) (pe_op op_add_str (pv 2) (pv 3)))
        (pss_one (ps_if (pt_val (pe_call GE hr (by rfl) gE kE bE .nil pass0 (pa_cons (pv 2) pa_nil)))
          (pss_cons (ps_expr (pe_bm PySem.F.plainAttrs_list PySem.F.slot_list_append PySem.F.type_list_append mt_append (pv 1) (pa_cons (pv 2) pa_nil)))
          (pss_one (ps_set (i := 2) scPieces.nd rfl (.inl rfl) pe_str))) pss_nil))))
      (pss_cons (ps_if (pt_cmpR op_ne (pv 2) pe_str (nomark _))
        (pss_one (ps_expr (pe_bm PySem.F.plainAttrs_list PySem.F.slot_list_append PySem.F.type_list_append mt_append (pv 1) (pa_cons (pv 2) pa_nil)))) pss_nil)
      (pss_one (ps_ret (pv 1)))))), ?_⟩
    -- found = []; piece = ''
    refine ⟨Nat.zero_le _, fun o no => ?_⟩
    have s1 : Same H (upd H o (.lst [])) := same_upd no
    -- for sign in content
    refine ⟨.str (S l), rfl, S l, rfl, for_gen l.length (fun i σ H3 => ∃ fs p v, σ = [some (.str (S l)), some (.ref o), some (.str (S p)), v] ∧ Same H H3 ∧ H3 o = some (.lst (TV fs)) ∧ Mid l i fs p)
      ⟨[], [], none, ?_, s1, upd_same, mid_start l⟩ (fun i σ H3 hi _ => ?_) ?_ (fun σ H3 _ => ?_) ?_⟩
    · rw [← empty_S]; rfl
    · show i < (S l).cps.size
      simpa using hi
    · rintro i x σ H3 H4 hi ⟨fs, p, v, rfl, sm, eo, m⟩ hy
      obtain ⟨rfl, c, hc, rfl⟩ := hy
      have hc' : l[i]? = some c := by simpa using hc
      have hgc : good c = true := by
        obtain ⟨hi2, hx⟩ := List.getElem?_eq_some_iff.mp hc'
        rw [← hx]; exact hg _ (List.getElem_mem hi2)
      have hpo := m.op.hi
      -- piece = piece + sign
      refine ⟨.str (S p), rfl, .str ⟨#[c]⟩, rfl, S p, ⟨#[c]⟩, rfl, rfl, ?_, ?_⟩
      · have e1 : (S p).length = p.length := S_len p
        have e2 : (⟨#[c]⟩ : Str).length = 1 := rfl
        rw [e1, e2]
        exact Nat.le_of_lt (small1000 (by omega))
      have ec : (S p ++ ⟨#[c]⟩ : Str) = S (p ++ [c]) := S_cat p [c]
      rw [ec]
      have hpc := piece_of (c := c) m.op
      have hgp : ∀ d ∈ p ++ [c], good d = true := fun d hd => by
        rcases List.mem_append.mp hd with q | q
        · exact m.ok d q
        · rw [List.mem_singleton.mp q]; exact hgc
      -- if ends_piece(piece)
      refine ⟨.str (S (p ++ [c])), rfl, p ++ [c], rfl, hpc.hi, hgp, ends (p ++ [c]), rfl, ?_⟩
      by_cases he : ends (p ++ [c]) = true
      · rw [he]
        refine iteT ?_
        refine ⟨.ref o, rfl, .inl ⟨rfl, _, .inl (.inl eo)⟩, .str (S (p ++ [c])), rfl, o, _, _, rfl, rfl, eo, ?_, ?_⟩
        · rw [tv_len]
          have := m.len
          exact small1000 (by omega)
        · have et : TV fs ++ [V.str (S (p ++ [c]))] = TV (fs ++ [p ++ [c]]) := by simp [TV]
          rw [et]
          refine ⟨fs ++ [p ++ [c]], [], some (.str ⟨#[c]⟩), ?_, fun b z e => ?_, upd_same, mid_end m hc' he⟩
          · rw [← empty_S]; rfl
          · rw [upd_ne (ne_of_none e no)]
            exact sm _ _ e
      · rw [Bool.eq_false_iff.mpr he]
        refine iteF ?_
        exact ⟨fs, p ++ [c], some (.str ⟨#[c]⟩), rfl, sm, eo, mid_on m hg hc' he⟩
    · show (S l).cps.size ≤ l.length
      simp
    · rintro σ H3 ⟨fs, p, v, rfl, sm, eo, m⟩
      have e := m.eq
      rw [List.drop_length] at e
      -- if piece != ''
      refine ⟨.str (S p), rfl, rfl, _, rfl, ?_⟩
      have ed : decide (V.str (S p) = V.str "") = decide (p = []) := by
        rw [decide_eq_decide, V.str.injEq, empty_S]
        exact ⟨fun h => S_inj h, fun h => by rw [h]⟩
      rw [ed]
      by_cases hp : p = []
      · rw [decide_eq_true hp]
        refine iteF ?_
        subst hp
        have e2 : fs = cut [] l := by rw [← e]; simp [cut]
        subst e2
        exact ⟨.ref o, rfl, q H3 o sm no eo⟩
      · rw [decide_eq_false hp]
        refine iteT ?_
        refine ⟨.ref o, rfl, .inl ⟨rfl, _, .inl (.inl eo)⟩, .str (S p), rfl, o, _, _, rfl, rfl, eo, ?_, ?_⟩
        · rw [tv_len]
          have := m.len
          exact small1000 (by omega)
        · have et : TV fs ++ [V.str (S p)] = TV (cut [] l) := by rw [← e]; simp [TV, cut, if_neg hp]
          rw [et]
          refine ⟨.ref o, rfl, q _ o (fun b z e => ?_) no upd_same⟩
          rw [upd_ne (ne_of_none e no)]
          exact sm _ _ e
end
end K9
namespace K9
open PySem PySem.Spec PyProof.Rows L2 SX
section
variable {P : Program} {w : World} {K : PySem.W.Frag} {mg : Str → Option Value} {base : Heap}
/-! ### _law_cell_at -/
def spCellAt (K : PySem.W.Frag) : Sp := fun vs H Q _ => ∃ (a : Addr) (ns : List Int) (k : Nat), vs = [.ref a, .int k] ∧ SqL K H a (ns.map V.int) ∧ ∀ i : Int, Q (.int i) H
theorem scCell : FnScope ["_law_script", "_law_k"] ["_law_script", "_law_k"] (defScope sCell) := ⟨rfl, rfl, rfl, by decide +kernel, rfl, by decide +kernel, by decide +kernel⟩
theorem ok_cellAt {f : Addr} {fd : FuncData} (F : Fun K "_law_cell_at" "_law_cell_at" sCell f fd) (T : Glob mg) : FnOk P w K mg base CX0 1 f fd ["_law_script", "_law_k"] (spCellAt K) := by
  refine F.ok scCell (fun vs H Q E h => ?_) (fun cdv A outer s H vs Q E hr h => ?_)
  · obtain ⟨a, ns, k, rfl, _⟩ := h
    rfl
  · obtain ⟨a, ns, k, rfl, hS, q⟩ := h
    refine ⟨_, pss_cons (ps_if (pt_cmpR op_lt (pv 1) (pe_callB call_len_seq (by rfl) T.len PySem.boot_len (pa_cons (pv 0) pa_nil)) (nomark _))
        (pss_one (ps_ret (pe_ix ix_list (pv 0) (pv 1) (fun _ _ => rfl)))) pss_nil) (pss_one (ps_ret pe_int)), ?_⟩
    refine ⟨_, rfl, _, rfl, a, _, rfl, .inl hS, _, _, rfl, rfl, _, rfl, ?_⟩
    refine ite2 (fun e => ?_) (fun _ => q 0)
    have hk : k < ns.length := by
      have e2 := of_decide_eq_true e
      rw [List.length_map] at e2
      omega
    have g : (ns.map V.int)[k]? = some (.int ns[k]) := by
      rw [List.getElem?_map, List.getElem?_eq_getElem hk]
      rfl
    exact ⟨_, rfl, _, rfl, a, _, _, _, rfl, rfl, hS, atI_nat g, q _⟩
/-! ### _law_signs -/
def spSigns : Sp := fun vs H Q _ => vs = [] ∧ Q (.str sigStr) H
theorem scSigns : FnScope ["_law_some"] [] (defScope sSigns) := ⟨rfl, rfl, rfl, by decide +kernel, rfl, by decide +kernel, by decide +kernel⟩
theorem ok_signs {f : Addr} {fd : FuncData} (F : Fun K "_law_signs" "_law_signs" sSigns f fd) : FnOk P w K mg base CX0 1 f fd [] spSigns := by
  refine F.ok scSigns (fun vs H Q E h => ?_) (fun cdv A outer s H vs Q E hr h => ?_)
  · obtain ⟨rfl, _⟩ := h
    rfl
  · obtain ⟨rfl, q⟩ := h
    refine ⟨_, pss_cons (ps_set (i := 0) scSigns.nd rfl (.inl rfl) pe_str) (pss_one (ps_ret (pe_op op_add_str (pv 0) pe_str))), ?_⟩
    refine ⟨.str sig1, rfl, sig1, sig2, rfl, rfl, ?_, ?_⟩
    · rw [sig1_len, sig2_len]
      exact Nat.le_of_lt (small1000 (by decide))
    · rw [sig_cat]
      exact q
/-! ### _law_is_end -/
def spIsEnd : Sp := fun vs H Q _ => ∃ a b : Nat, vs = [.str ⟨#[a]⟩, .str ⟨#[b]⟩] ∧ good a = true ∧ good b = true ∧ Q (.bl (isEnd a b)) H
theorem scIsEnd : FnScope ["_law_one", "_law_other"] ["_law_one", "_law_other"] (defScope sIsEnd) := ⟨rfl, rfl, rfl, by decide +kernel, rfl, by decide +kernel, by decide +kernel⟩
theorem ok_isEnd {f fS : Addr} {fd fdS : FuncData} (F : Fun K "_law_is_end" "_law_is_end" sIsEnd f fd) (GS : FnOk P w K mg base CX0 1 fS fdS [] spSigns) (kS : PySem.W.keepIn K (.ref fS) = true) (bS : Binds K fdS [] []) (gS : mg "_law_signs" = some (.ref fS)) :
    FnOk P w K mg base CX0 2 f fd ["_law_one", "_law_other"] spIsEnd := by
  refine F.ok scIsEnd (fun vs H Q E h => ?_) (fun cdv A outer s H vs Q E hr h => ?_)
  · obtain ⟨a, b, rfl, _⟩ := h
    rfl
  · obtain ⟨a, b, rfl, ga, gb, q⟩ := h
    obtain ⟨ra, oa⟩ := occ ga
    obtain ⟨rb, ob⟩ := occ gb
    refine ⟨_, pss_one (ps_ret (pe_cmpR op_eq (pe_op op_mod (pe_op op_add (pe_m1 PySem.F.slot_str_index PySem.F.type_str_index mt_sindex (pe_call0 GS hr (by rfl) gS kS bS .nil pass0) (pv 1))
        (pe_op op_mul pe_int (pe_m1 PySem.F.slot_str_index PySem.F.type_str_index mt_sindex (pe_call0 GS hr (by rfl) gS kS bS .nil pass0) (pv 0)))) pe_int) pe_int (nomark _))), ?_⟩
    refine ⟨rfl, ⟨_, rfl⟩, _, rfl, _, _, _, _, rfl, rfl, ob, rfl, ⟨_, rfl⟩, _, rfl, _, _, _, _, rfl, rfl, oa, ?_⟩
    refine ⟨_, _, rfl, rfl, .inl ⟨by decide, by decide⟩, _, _, rfl, rfl, _, _, rfl, rfl, (by decide : (0 : Int) < 5), rfl, ?_⟩
    have e : isEnd a b = decide (V.int (((num b : Nat) + 7 * (num a : Nat) : Int) % 5) = V.int 0) := by
      rw [dec_int]
      unfold isEnd
      rw [Bool.eq_iff_iff, decide_eq_true_iff, beq_iff_eq]
    rw [e] at q
    exact q
/-! ### _law_numbers -/
def spNumbers : Sp := fun vs H Q _ => ∃ c : Int, vs = [.int c, .int 44] ∧ ∀ H' p (ns : List Int), Same H H' → H p = none → H' p = some (.lst (ns.map V.int)) → ns.length = 44 → Q (.ref p) H'
theorem scNumbers : FnScope ["_law_cell", "_law_many", "_law_found", "_law_number", "_law_k"] ["_law_cell", "_law_many"] (defScope sNumbers) := ⟨rfl, rfl, rfl, by decide +kernel, rfl, by decide +kernel, by decide +kernel⟩
theorem ok_numbers {f : Addr} {fd : FuncData} (F : Fun K "_law_numbers" "_law_numbers" sNumbers f fd) (T : Glob mg) : FnOk P w K mg base CX0 1 f fd ["_law_cell", "_law_many"] spNumbers := by
  refine F.ok scNumbers (fun vs H Q E h => ?_) (fun cdv A outer s H vs Q E hr h => ?_)
  · obtain ⟨c, rfl, _⟩ := h
    rfl
  · obtain ⟨c, rfl, q⟩ := h
    refine ⟨_, pss_cons (ps_set (i := 2) scNumbers.nd rfl (.inl rfl) (pe_lst pa_nil))
      (pss_cons (ps_set (i := 3) scNumbers.nd rfl (.inl rfl) (pe_op op_sub (pv 0) (pe_op op_pow pe_int pe_int)))
      (pss_cons (ps_if (pt_cmpR op_ge (pv 3) pe_int (nomark _))
        (pss_cons (ps_for PassesOwn.never rfl (pi_range1 rfl T.range (pa_cons (pv 1) pa_nil)) (pg_name (i := 4) scNumbers.nd rfl (.inl rfl))
          (pss_cons (ps_expr (pe_bm PySem.F.plainAttrs_list PySem.F.slot_list_append PySem.F.type_list_append mt_append (pv 2) (pa_cons (pe_op op_mod (pv 3) pe_int) pa_nil)))
          (pss_one (ps_set (i := 3) scNumbers.nd rfl (.inl rfl) (pe_op op_fdiv (pv 3) pe_int)))))
        (pss_one (ps_ret (pv 2)))) pss_nil)
      (pss_cons (ps_set (i := 3) scNumbers.nd rfl (.inl rfl) (pe_op op_mod (pv 0) pe_int))
      (pss_cons (ps_for PassesOwn.never rfl (pi_range1 rfl T.range (pa_cons (pe_op op_add (pv 1) pe_int) pa_nil)) (pg_name (i := 4) scNumbers.nd rfl (.inl rfl))
        (pss_cons (ps_set (i := 3) scNumbers.nd rfl (.inl rfl) (pe_op op_mod (pe_op op_mul (pe_op op_add (pe_op op_add (pv 3) (pv 4)) pe_int) pe_int) pe_int))
        (pss_one (ps_expr (pe_bm PySem.F.plainAttrs_list PySem.F.slot_list_append PySem.F.type_list_append mt_append (pv 2) (pa_cons (pe_op op_mod (pe_op op_mul (pv 3) pe_int) pe_int) pa_nil))))))
      (pss_one (ps_ret (pe_slice sl_list (pv 2) (po_some pe_int) po_none))))))), ?_⟩
    refine ⟨Nat.zero_le _, fun o no => ?_⟩
    have s1 : Same H (upd H o (.lst [])) := same_upd no
    refine ⟨.int c, rfl, 10, 18, rfl, rfl, ⟨by decide, by decide, by decide⟩, _, _, rfl, rfl, ?_⟩
    refine ⟨_, rfl, _, _, rfl, rfl, _, rfl, ?_⟩
    refine ite2 (fun _ => ?_) (fun _ => ?_)
    · -- its own digits
      refine ⟨_, rfl, 44, rfl, by decide, by decide, for_range (lo := 0) (n := 44) (fun i σ H3 => ∃ (z : Int) (y : Option V) (ns : List Int), σ = [some (.int c), some (.int 44), some (.ref o), some (.int z), y] ∧ Same H H3 ∧ H3 o = some (.lst (ns.map V.int)) ∧ ns.length = i)
        ⟨_, none, [], rfl, s1, upd_same, rfl⟩ ?_ ?_⟩
      · rintro i σ H3 hi ⟨z, y, ns, rfl, sm, eo, hn⟩
        refine ⟨_, rfl, .inl ⟨rfl, _, .inl (.inl eo)⟩, .int z, rfl, z, 5040, rfl, rfl, (by decide : (0 : Int) < 5040), o, _, _, rfl, rfl, eo, ?_, ?_⟩
        · rw [List.length_map]
          exact small1000 (by omega)
        · refine ⟨.int z, rfl, z, 5040, rfl, rfl, ⟨by decide, by decide⟩, ?_⟩
          refine ⟨z / 5040, _, ns ++ [z % 5040], rfl, fun b x e => ?_, ?_, by simp [hn]⟩
          · rw [upd_ne (ne_of_none e no)]
            exact sm _ _ e
          · rw [upd_same]
            simp
      · rintro σ H3 ⟨z, y, ns, rfl, sm, eo, hn⟩
        exact ⟨_, rfl, q H3 o ns sm no eo hn⟩
    · -- twice mixed
      refine ⟨.int c, rfl, c, 2147483647, rfl, rfl, (by decide : (0 : Int) < 2147483647), ?_⟩
      refine ⟨.int 44, rfl, 44, 1, rfl, rfl, 44 + 1, rfl, by decide, by decide, for_range (lo := 0) (n := 45) (fun i σ H3 => ∃ (z : Int) (y : Option V) (ns : List Int), σ = [some (.int c), some (.int 44), some (.ref o), some (.int z), y] ∧ Same H H3 ∧ H3 o = some (.lst (ns.map V.int)) ∧ ns.length = i)
        ⟨_, none, [], rfl, s1, upd_same, rfl⟩ ?_ ?_⟩
      · rintro i σ H3 hi ⟨z, y, ns, rfl, sm, eo, hn⟩
        refine ⟨.int z, rfl, .int (0 + (i : Int)), rfl, z, 0 + (i : Int), rfl, rfl, _, 1, rfl, rfl, _, 48271, rfl, rfl, .inr ⟨by decide, by decide⟩, _, 2147483647, rfl, rfl, (by decide : (0 : Int) < 2147483647), ?_⟩
        let z2 : Int := (z + (0 + (i : Int)) + 1) * 48271 % 2147483647
        refine ⟨_, rfl, .inl ⟨rfl, _, .inl (.inl eo)⟩, .int z2, rfl, z2, 69621, rfl, rfl, .inr ⟨by decide, by decide⟩, _, 2147483629, rfl, rfl, (by decide : (0 : Int) < 2147483629), o, _, _, rfl, rfl, eo, ?_, ?_⟩
        · rw [List.length_map]
          exact small1000 (by omega)
        · refine ⟨z2, _, ns ++ [z2 * 69621 % 2147483629], rfl, fun b x e => ?_, ?_, by simp [hn]⟩
          · rw [upd_ne (ne_of_none e no)]
            exact sm _ _ e
          · rw [upd_same]
            simp
      · rintro σ H3 ⟨z, y, ns, rfl, sm, eo, hn⟩
        refine ⟨_, rfl, 1, rfl, o, _, rfl, .inl (.inl eo), fun p hp => ?_⟩
        refine q _ p (ns.drop 1) (fun b x e => ?_) (sm.free hp) ?_ (by simp [hn])
        · rw [upd_ne (ne_of_none (sm _ _ e) hp)]
          exact sm _ _ e
        · rw [upd_same]
          have ec : cutV (ns.map V.int) (some 1) none = (ns.map V.int).drop 1 := by
            unfold cutV
            rw [show HT.sIx (ns.map V.int).length 0 (some 1) = min 1 (ns.map V.int).length from HT.sIx_nat (ns.map V.int).length 0 1, HT.sIx_none, List.length_map, hn]
            rw [List.take_of_length_le (by simp [hn])]
            rfl
          rw [ec, List.map_drop]
end
end K9
namespace K9
open PySem PySem.Spec PyProof.Rows L2 SX
theorem mem_putK {kvs : List (Key × V)} {k k' : Key} {v v' : V} (h : (k', v') ∈ putK kvs k v) : (k', v') ∈ kvs ∨ (k' = k ∧ v' = v) := by
  unfold putK at h
  split at h
  · obtain ⟨p, hp, e⟩ := List.mem_map.mp h
    by_cases hk : p.1 = k
    · rw [if_pos hk] at e
      have e1 := (Prod.mk.inj e).1
      have e2 := (Prod.mk.inj e).2
      exact .inr ⟨e1.symm.trans hk, e2.symm⟩
    · rw [if_neg hk] at e
      rw [← e]
      exact .inl hp
  · rcases List.mem_append.mp h with q | q
    · exact .inl q
    · have e := List.mem_singleton.mp q
      exact .inr ⟨(Prod.mk.inj e).1, (Prod.mk.inj e).2⟩
theorem putK_le (kvs : List (Key × V)) (k : Key) (v : V) : (putK kvs k v).length ≤ kvs.length + 1 := by
  unfold putK
  split
  · rw [List.length_map]; omega
  · rw [List.length_append]; simp
theorem tv_get {ps : List (List Nat)} {i : Nat} {x : V} (h : (TV ps)[i]? = some x) : ∃ p, ps[i]? = some p ∧ x = .str (S p) := by
  rw [List.getElem?_map, List.getElem?_map] at h
  cases e : ps[i]? with
  | none => rw [e] at h; cases h
  | some p => rw [e] at h; exact ⟨p, rfl, (Option.some.inj h).symm⟩
/-- what _law_begins keeps: each entry tells where a piece begins -/
def BG (ps : List (List Nat)) (n : Int) (kvs : List (Key × V)) : Prop := ∀ k v, (k, v) ∈ kvs → ∃ i : Nat, i < ps.length ∧ k = Sum.inl ((at_ ps i : Int) - n) ∧ v = V.int (i : Nat)
section
variable {P : Program} {w : World} {K : PySem.W.Frag} {mg : Str → Option Value} {base : Heap}
/-! ### _law_begins -/
def spBegins (K : PySem.W.Frag) : Sp := fun vs H Q _ => ∃ (a : Addr) (ps : List (List Nat)) (n : Int), vs = [.ref a, .int n] ∧ SqL K H a (TV ps) ∧ ps.length ≤ 400 ∧ (∀ p ∈ ps, p.length ≤ 8) ∧
  ∀ H' p kvs, Same H H' → H p = none → H' p = some (.dK kvs) → BG ps n kvs → Q (.ref p) H'
theorem scBegins : FnScope ["_law_pieces", "_law_ahead", "_law_found", "_law_place", "_law_k", "_law_piece"] ["_law_pieces", "_law_ahead"] (defScope sBegins) := ⟨rfl, rfl, rfl, by decide +kernel, rfl, by decide +kernel, by decide +kernel⟩
theorem ok_begins {f : Addr} {fd : FuncData} (F : Fun K "_law_begins" "_law_begins" sBegins f fd) (T : Glob mg) : FnOk P w K mg base CX0 1 f fd ["_law_pieces", "_law_ahead"] (spBegins K) := by
  refine F.ok scBegins (fun vs H Q E h => ?_) (fun cdv A outer s H vs Q E hr h => ?_)
  · obtain ⟨a, ps, n, rfl, _⟩ := h
    rfl
  · obtain ⟨a, ps, n, rfl, hS, hl, hp8, q⟩ := h
    have hu := hu_of hr
    refine ⟨_, pss_cons (ps_set (i := 2) scBegins.nd rfl (.inl rfl) pe_dnewK)
      (pss_cons (ps_set (i := 3) scBegins.nd rfl (.inl rfl) (pe_op op_sub pe_int (pv 1)))
      (pss_cons (ps_for PassesOwn.never rfl (pi_enum (by rfl) T.enum (pa_cons (pv 0) pa_nil)) (pg_tup rfl (pgs_cons (pg_name (i := 4) scBegins.nd rfl (.inl rfl)) (pgs_cons (pg_name (i := 5) scBegins.nd rfl (.inl rfl)) pgs_nil)))
        (pss_cons (ps_dput hu (pv 2) (pv 3) (pv 4) rfl)
        (pss_one (ps_set (i := 3) scBegins.nd rfl (.inl rfl) (pe_op op_add (pv 3) (pe_callB call_len_str (by rfl) T.len PySem.boot_len (pa_cons (pv 5) pa_nil)))))))
      (pss_one (ps_ret (pv 2))))), ?_⟩
    intro d nd
    have s1 : Same H (upd H d (.dK [])) := same_upd nd
    refine ⟨.int n, rfl, 0, n, rfl, rfl, ?_⟩
    refine ⟨.ref a, rfl, a, TV ps, rfl, s1.seq hS, for_gen ps.length (fun i σ H3 => ∃ (z : Int) (y4 y5 : Option V) (kvs : List (Key × V)), σ = [some (.ref a), some (.int n), some (.ref d), some (.int z), y4, y5] ∧ z = (at_ ps i : Int) - n ∧ Same H H3 ∧ H3 d = some (.dK kvs) ∧ kvs.length ≤ i ∧ BG ps n kvs)
      ⟨_, none, none, [], rfl, by rw [at_zero]; rfl, s1, upd_same, Nat.le_refl _, fun k v h => absurd h List.not_mem_nil⟩ ?_ ?_ ?_ ?_⟩
    · rintro i σ H3 hi ⟨z, y4, y5, kvs, rfl, hz, sm, ed, hk, bg⟩
      have g : (TV ps)[i]? = some (.str (S ps[i])) := by
        rw [List.getElem?_map, List.getElem?_map, List.getElem?_eq_getElem hi]
        rfl
      exact ⟨_, _, sm.seq hS, g⟩
    · rintro i x σ H3 H4 hi ⟨z, y4, y5, kvs, rfl, hz, sm, ed, hk, bg⟩ ⟨t, x1, rfl, nT, rfl, f1⟩
      obtain ⟨p, hpi, rfl⟩ := tv_get (f1 _ (sm.seq hS))
      have hpl := hp8 p (List.mem_of_getElem? hpi)
      have sT : Same H3 (upd H3 t (.tup [.int (i : Nat), .str (S p)])) := same_upd nT
      refine ⟨t, _, rfl, .inl (.inl upd_same), rfl, _, _, rfl, _, _, rfl, rfl, ?_⟩
      -- found[place] = k
      refine ⟨_, rfl, _, rfl, _, rfl, d, _, rfl, DPut.k (k := Sum.inl z) (sT _ _ ed) (small1000 (by omega)), ?_⟩
      -- place = place + len(piece)
      refine ⟨.int z, rfl, .str (S p), rfl, S p, rfl, ?_, z, _, rfl, rfl, ?_⟩
      · rw [S_len]
        exact Nat.le_of_lt (small1000 (by omega))
      refine ⟨_, _, _, putK kvs (Sum.inl z) (.int (i : Nat)), rfl, ?_, fun b o e => ?_, upd_same, Nat.le_trans (putK_le _ _ _) (by omega), fun k v h => ?_⟩
      · rw [at_succ hpi, S_len, hz]
        omega
      · rw [upd_ne (ne_of_none e nd)]
        exact sT _ _ (sm _ _ e)
      · rcases mem_putK h with h | ⟨rfl, rfl⟩
        · exact bg k v h
        · exact ⟨i, hi, by rw [hz], rfl⟩
    · rintro σ H3 ⟨z, y4, y5, kvs, rfl, hz, sm, ed, hk, bg⟩
      exact ⟨_, sm.seq hS, by rw [tv_len]; exact Nat.le_refl _⟩
    · rintro σ H3 ⟨z, y4, y5, kvs, rfl, hz, sm, ed, hk, bg⟩
      exact ⟨_, rfl, q H3 d kvs sm nd ed bg⟩
/-! ### _law_well_cut -/
def spWell (K : PySem.W.Frag) : Sp := fun vs H Q _ => ∃ (a : Addr) (ps : List (List Nat)), vs = [.ref a] ∧ SqL K H a (TV ps) ∧ ps.length ≤ 400 ∧ GL ps ∧ Well ps ∧ ∀ H', Same H H' → Q (.bl true) H'
theorem scWell : FnScope ["_law_pieces", "_law_k", "_law_piece", "_law_at"] ["_law_pieces"] (defScope sWell) := ⟨rfl, rfl, rfl, by decide +kernel, rfl, by decide +kernel, by decide +kernel⟩
theorem ok_well {f fI : Addr} {fd fdI : FuncData} (F : Fun K "_law_well_cut" "_law_well_cut" sWell f fd) (T : Glob mg) (GI : FnOk P w K mg base CX0 2 fI fdI ["_law_one", "_law_other"] spIsEnd) (kI : PySem.W.keepIn K (.ref fI) = true) (bI : Binds K fdI ["_law_one", "_law_other"] []) (gI : mg "_law_is_end" = some (.ref fI)) :
    FnOk P w K mg base CX0 3 f fd ["_law_pieces"] (spWell K) := by
  refine F.ok scWell (fun vs H Q E h => ?_) (fun cdv A outer s H vs Q E hr h => ?_)
  · obtain ⟨a, ps, rfl, _⟩ := h
    rfl
  · obtain ⟨a, ps, rfl, hS, hl, hgl, hw, q⟩ := h
    refine ⟨_, pss_cons (ps_for PassesOwn.never rfl (pi_enum (by rfl) T.enum (pa_cons (pv 0) pa_nil)) (pg_tup rfl (pgs_cons (pg_name (i := 1) scWell.nd rfl (.inl rfl)) (pgs_cons (pg_name (i := 2) scWell.nd rfl (.inr rfl)) pgs_nil)))
        (pss_cons (ps_if (pt_not (pt_chain op_le op_le pe_int (pe_callB call_len_str (by rfl) T.len PySem.boot_len (pa_cons (pv 2) pa_nil)) pe_int)) (pss_one (ps_ret pe_bl)) pss_nil)
        (pss_cons (ps_if (pt_cmpR (op_neD hr.units) (pe_lc (own := [("_law_at", 3)]) (g := gName 3) (by rfl) scWell.nd
              (pi_range2 (by rfl) T.range (pa_cons pe_int (pa_cons (pe_op op_sub (pe_callB call_len_str (by rfl) T.len PySem.boot_len (pa_cons (pv 2) pa_nil)) pe_int) pa_nil)))
              (blkOk_by (own := [("_law_at", 3)]) (N := ["_law_pieces", "_law_k", "_law_piece", "_law_at"]) (sc := defScope sWell) (by decide +kernel))
              (fun _ _ _ _ _ => pg_name (i := 3) scWell.nd rfl (Or.inl rfl))
              (fun _ _ _ _ _ => pts_one (pt_val (pe_call GI hr (by rfl) gI kI bI .nil pass0 (pa_cons (pe_ix ix_str (pv 2) (pe_op op_sub (pv 3) pe_int) (fun _ _ => rfl)) (pa_cons (pe_ix ix_str (pv 2) (pv 3) (fun _ _ => rfl)) pa_nil)))))
              (fun _ _ _ _ _ => pv 3)) (pe_lst pa_nil) (nomark _)) (pss_one (ps_ret pe_bl)) pss_nil)
        (pss_one (ps_if (PW.pt (pw_and (pt_cmpR op_lt (pe_op op_add (pv 1) pe_int) (pe_callB call_len_seq (by rfl) T.len PySem.boot_len (pa_cons (pv 0) pa_nil)) (nomark _))
            (pw_and (pt_cmpR op_lt (pe_callB call_len_str (by rfl) T.len PySem.boot_len (pa_cons (pv 2) pa_nil)) pe_int (nomark _))
            (pw_and1 (PW.pt (pw_or (pt_cmpR op_lt (pe_callB call_len_str (by rfl) T.len PySem.boot_len (pa_cons (pv 2) pa_nil)) pe_int (nomark _))
              (pw_or1 (pt_not (pt_val (pe_call GI hr (by rfl) gI kI bI .nil pass0 (pa_cons (pe_ix ix_str (pv 2) (pe_un un_neg pe_int) (fun _ _ => rfl)) (pa_cons (pe_ix ix_str (pv 2) (pe_un un_neg pe_int) (fun _ _ => rfl)) pa_nil)))))))))))) (pss_one (ps_ret pe_bl)) pss_nil)))))
      (pss_one (ps_ret pe_bl)), ?_⟩
    refine ⟨.ref a, rfl, a, TV ps, rfl, hS, for_gen ps.length (fun i σ H3 => ∃ (y1 y2 y3 : Option V), σ = [some (.ref a), y1, y2, y3] ∧ Same H H3)
      ⟨none, none, none, rfl, Same.refl _⟩ ?_ ?_ ?_ ?_⟩
    · rintro i σ H3 hi ⟨y1, y2, y3, rfl, sm⟩
      have g : (TV ps)[i]? = some (.str (S ps[i])) := by
        rw [List.getElem?_map, List.getElem?_map, List.getElem?_eq_getElem hi]
        rfl
      exact ⟨_, _, sm.seq hS, g⟩
    · rintro i x σ H3 H4 hi ⟨y1, y2, y3, rfl, sm⟩ ⟨t, x1, rfl, nT, rfl, f1⟩
      obtain ⟨p, hpi, rfl⟩ := tv_get (f1 _ (sm.seq hS))
      obtain ⟨hp, hcl⟩ := well_at hw hpi
      have hg := hgl p (List.mem_of_getElem? hpi)
      have sT : Same H3 (upd H3 t (.tup [.int (i : Nat), .str (S p)])) := same_upd nT
      have el : ((S p).length : Int) = (p.length : Int) := by rw [S_len]
      have hlo := hp.lo
      have hhi := hp.hi
      have hz : (S p).length ≤ sizeLine := by rw [S_len]; exact Nat.le_of_lt (small1000 (by omega))
      generalize hH5 : upd H3 t (.tup [.int (i : Nat), .str (S p)]) = H5 at sT
      have s5 : Same H H5 := sm.trans sT
      refine ⟨t, _, rfl, .inl (.inl (by rw [← hH5]; exact upd_same)), rfl, _, _, rfl, _, _, rfl, rfl, ?_⟩
      -- not 1 <= len(piece) <= 8
      refine ⟨_, rfl, S p, rfl, hz, 1, _, rfl, rfl, _, rfl, ?_⟩
      rw [decide_eq_true (show (1 : Int) ≤ ((S p).length : Int) by rw [el]; omega)]
      refine iteT ⟨_, 8, rfl, rfl, _, rfl, ?_⟩
      rw [decide_eq_true (show ((S p).length : Int) ≤ 8 by rw [el]; omega)]
      refine iteF ?_
      -- the comprehension
      refine ⟨_, rfl, S p, rfl, hz, _, _, rfl, rfl, 1, (S p).length - 1, rfl, ⟨by decide, by decide, by rw [el]; omega, by rw [el]; omega⟩, fun D nD => ?_⟩
      have sD : Same H5 (upd H5 D (.lst [])) := same_upd nD
      refine lc_range (lo := 1) (n := (((S p).length : Int) - 1 - 1).toNat) (fun _ H6 => Same H5 H6 ∧ H6 D = some (.lst [])) ⟨sD, upd_same⟩ ?_ ?_
      · rintro j H6 hj ⟨s6, e6⟩
        have hj2 : j + 2 < p.length := by rw [el] at hj; omega
        refine ⟨rfl, .str (S p), rfl, .int (1 + (j : Int)), rfl, _, _, rfl, rfl, S p, _, p.getD j 0, rfl, rfl, hz, ?_, .str (S p), rfl, .int (1 + (j : Int)), rfl, S p, _, p.getD (j + 1) 0, rfl, rfl, hz, ?_, ?_⟩
        · have e1 : (1 + (j : Int) - 1) = ((j : Nat) : Int) := by omega
          rw [e1]
          exact at_fore (l := p) (by omega)
        · have e1 : (1 + (j : Int)) = ((j + 1 : Nat) : Int) := by omega
          rw [e1]
          exact at_fore (l := p) (by omega)
        refine ⟨p.getD j 0, p.getD (j + 1) 0, rfl, good_getD hg (by omega), good_getD hg (by omega), _, rfl, ?_⟩
        have en : isEnd (p.getD j 0) (p.getD (j + 1) 0) = false := hp.no (j + 1) (by omega) (by omega)
        rw [en]
        exact iteF ⟨s6, e6⟩
      · rintro H6 ⟨s6, e6⟩
        refine ⟨Nat.zero_le _, fun D2 n2 => ?_⟩
        have s7 : Same H6 (upd H6 D2 (.lst [])) := same_upd n2
        refine ⟨.list [], .list [], .lst (.inl (.inl (s7 _ _ e6))) .nil, .lst (.inl (.inl upd_same)) .nil, by rfl, by rfl, _, rfl, ?_⟩
        have ee : PyData.eqv (.list []) (.list []) = true := by rfl
        rw [ee]
        refine iteF ?_
        have s8 : Same H (upd H6 D2 (.lst [])) := s5.trans (s6.trans s7)
        have hA : SqL K (upd H6 D2 (.lst [])) a (TV ps) := s8.seq hS
        -- the last test
        refine ⟨.int (i : Nat), rfl, _, 1, rfl, rfl, .ref a, rfl, a, _, rfl, .inl hA, _, _, rfl, rfl, _, rfl, ?_⟩
        have fin : ∀ y3, ∃ (z1 z2 z3 : Option V), [some (V.ref a), some (V.int (i : Nat)), some (V.str (S p)), y3] = [some (V.ref a), z1, z2, z3] ∧ Same H (upd H6 D2 (.lst [])) := fun y3 => ⟨_, _, _, rfl, s8⟩
        refine ite2 (fun c1 => ?_) (fun c1 => iteF (fin _))
        have hi1 : i + 1 < ps.length := by
          have e1 := of_decide_eq_true c1
          rw [tv_len] at e1
          omega
        refine ⟨.str (S p), rfl, S p, rfl, hz, _, 8, rfl, rfl, _, rfl, ?_⟩
        refine ite2 (fun c2 => ?_) (fun c2 => iteF (fin _))
        have h8 : p.length < 8 := by
          have e2 := of_decide_eq_true c2
          rw [el] at e2
          omega
        obtain ⟨h2, hend⟩ := hcl hi1 h8
        refine ⟨.str (S p), rfl, S p, rfl, hz, _, 2, rfl, rfl, _, rfl, ?_⟩
        rw [decide_eq_false (show ¬ ((S p).length : Int) < 2 by rw [el]; omega)]
        refine iteF ?_
        refine ⟨.str (S p), rfl, 2, rfl, S p, _, _, rfl, rfl, hz, at_back2 (l := p) (by omega), .str (S p), rfl, 1, rfl, S p, _, _, rfl, rfl, hz, at_back1 (l := p) (by omega), ?_⟩
        refine ⟨_, _, rfl, good_getD (l := p) hg (by omega), good_getD (l := p) hg (by omega), _, rfl, ?_⟩
        rw [hend]
        exact iteF (fin _)
    · rintro σ H3 ⟨y1, y2, y3, rfl, sm⟩
      exact ⟨_, sm.seq hS, by rw [tv_len]; exact Nat.le_refl _⟩
    · rintro σ H3 ⟨y1, y2, y3, rfl, sm⟩
      exact q H3 sm
end
end K9
namespace K9
open PySem PySem.Spec PyProof.Rows L2 SX
theorem sg (n : Int) : ∃ c, atI sigStr.cps.toList (n % 94) = some c ∧ good c = true := sig_at (Int.emod_nonneg n (by decide)) (Int.emod_lt_of_pos n (by decide))
theorem sig_fit : sigStr.length ≤ sizeLine := by rw [sig_len]; exact Nat.le_of_lt (small1000 (by decide))
theorem at_k {ns : List Int} (hn : ns.length = 44) (k : Nat) (hk : k < 44) : atI (ns.map V.int) (k : Int) = some (.int (ns.getD k 0)) := by
  refine atI_nat ?_
  have h : k < ns.length := by omega
  rw [List.getElem?_map, List.getD_eq_getElem?_getD, List.getElem?_eq_getElem h]
  rfl
theorem at_int {ns : List Int} (hn : ns.length = 44) {i : Int} (h0 : 0 ≤ i) (hi : i < 44) : ∃ n : Int, atI (ns.map V.int) i = some (.int n) := by
  obtain ⟨k, rfl⟩ := Int.eq_ofNat_of_zero_le h0
  exact ⟨_, at_k hn k (by omega)⟩
theorem cutV_int (ns : List Int) (lo hi : Option Int) : ∃ ms : List Int, cutV (ns.map V.int) lo hi = ms.map V.int ∧ ms.length ≤ ns.length := by
  refine ⟨(ns.drop (HT.sIx (ns.map V.int).length 0 lo)).take (HT.sIx (ns.map V.int).length (ns.map V.int).length hi - HT.sIx (ns.map V.int).length 0 lo), ?_, ?_⟩
  · unfold cutV
    rw [List.map_take, List.map_drop]
  · rw [List.length_take, List.length_drop]
    omega
/-- so many texts of one sign each -/
structure Ones (ls : List (List Nat)) (i : Nat) : Prop where
  len : ls.length = i
  gl : GL ls
  one : ∀ p ∈ ls, p.length = 1
theorem ones_nil : Ones [] 0 := ⟨rfl, fun _ h => absurd h List.not_mem_nil, fun _ h => absurd h List.not_mem_nil⟩
theorem Ones.snoc {ls : List (List Nat)} {i : Nat} (o : Ones ls i) {c : Nat} (g : good c = true) : Ones (ls ++ [[c]]) (i + 1) := by
  refine ⟨by rw [List.length_append, o.len]; rfl, fun p hp d hd => ?_, fun p hp => ?_⟩
  · rcases List.mem_append.mp hp with q | q
    · exact o.gl p q d hd
    · rw [List.mem_singleton.mp q] at hd
      rw [List.mem_singleton.mp hd]
      exact g
  · rcases List.mem_append.mp hp with q | q
    · exact o.one p q
    · rw [List.mem_singleton.mp q]
      rfl
theorem tv_snoc (ls : List (List Nat)) (c : Nat) : TV ls ++ [V.str ⟨#[c]⟩] = TV (ls ++ [[c]]) := by simp [TV]
theorem ones_join {ls : List (List Nat)} {i : Nat} (o : Ones ls i) (hi : i ≤ 44) : Tx (Txt.join "" (ls.map S)) 44 := by
  rw [empty_S, join_nil]
  refine tx_S ?_ fun c hc => ?_
  · rw [sum_ones o.one, o.len]
    exact hi
  · obtain ⟨p, hp, hcp⟩ := List.mem_flatten.mp hc
    exact o.gl p hp c hcp
theorem ones_bound {ls : List (List Nat)} {i : Nat} (o : Ones ls i) (hi : i ≤ 44) : ((ls.map S).map (·.length)).sum + (ls.map S).length * ("" : Str).length ≤ 16777216 := by
  rw [lens, empty_S, S_len]
  have e : (ls.map (·.length)).sum = ls.flatten.length := List.length_flatten.symm
  rw [e, sum_ones o.one, o.len]
  simp
  omega
section
variable {P : Program} {w : World} {K : PySem.W.Frag} {mg : Str → Option Value} {base : Heap}
/-! ### _law_content -/
def spContent : Sp := fun vs H Q _ => ∃ c : Int, vs = [.int c] ∧ ∀ H' z, Same H H' → Tx z 400 → Q (.str z) H'
theorem scContent : FnScope ["_law_cell", "_law_some", "_law_signs_here", "_law_text", "_law_number"] ["_law_cell"] (defScope sContent) := ⟨rfl, rfl, rfl, by decide +kernel, rfl, by decide +kernel, by decide +kernel⟩
theorem ok_content {f fN fS : Addr} {fd fdN fdS : FuncData} (F : Fun K "_law_content" "_law_content" sContent f fd)
    (GN : FnOk P w K mg base CX0 1 fN fdN ["_law_cell", "_law_many"] spNumbers) (kN : PySem.W.keepIn K (.ref fN) = true) (bN : Binds K fdN ["_law_cell", "_law_many"] []) (gN : mg "_law_numbers" = some (.ref fN))
    (GS : FnOk P w K mg base CX0 1 fS fdS [] spSigns) (kS : PySem.W.keepIn K (.ref fS) = true) (bS : Binds K fdS [] []) (gS : mg "_law_signs" = some (.ref fS)) :
    FnOk P w K mg base CX0 2 f fd ["_law_cell"] spContent := by
  refine F.ok scContent (fun vs H Q E h => ?_) (fun cdv A outer s H vs Q E hr h => ?_)
  · obtain ⟨c, rfl, _⟩ := h
    rfl
  · obtain ⟨c, rfl, q⟩ := h
    refine ⟨_, pss_cons (ps_set (i := 1) scContent.nd rfl (.inr rfl) (pe_call GN hr (by rfl) gN kN bN .nil pass0 (pa_cons (pv 0) (pa_cons pe_int pa_nil))))
      (pss_cons (ps_set (i := 2) scContent.nd rfl (.inr rfl) (pe_call0 GS hr (by rfl) gS kS bS .nil pass0))
      (pss_cons (ps_if (pt_cmpR op_eq (pe_op op_mod (pe_ix ix_list (pv 1) pe_int (fun _ _ => rfl)) pe_int) pe_int (nomark _))
        (pss_cons (ps_set (i := 3) scContent.nd rfl (.inl rfl) (pe_op op_add_str
            (pe_op op_mul_str (pe_ix ix_str (pv 2) (pe_op op_mod (pe_ix ix_list (pv 1) pe_int (fun _ _ => rfl)) pe_int) (fun _ _ => rfl)) (pe_op op_mod (pe_ix ix_list (pv 1) pe_int (fun _ _ => rfl)) pe_int))
            (pe_ix ix_str (pv 2) (pe_op op_mod (pe_ix ix_list (pv 1) pe_int (fun _ _ => rfl)) pe_int) (fun _ _ => rfl))))
        (pss_one (ps_ret (pe_slice sl_str (pe_op op_add_str (pv 3) (pe_op op_mul_str (pe_ix ix_str (pv 2) (pe_op op_mod (pe_ix ix_list (pv 1) pe_int (fun _ _ => rfl)) pe_int) (fun _ _ => rfl)) pe_int)) po_none (po_some (pe_op op_mod (pe_ix ix_list (pv 1) pe_int (fun _ _ => rfl)) pe_int)))))) pss_nil)
      (pss_cons (ps_set (i := 3) scContent.nd rfl (.inl rfl) (pe_join pe_str (pe_lc (own := [("_law_number", 4)]) (g := gName 4) (by rfl) scContent.nd
          (pi_list (pe_slice sl_list (pv 1) (po_some pe_int) (po_some (pe_op op_add pe_int (pe_op op_mod (pe_ix ix_list (pv 1) pe_int (fun _ _ => rfl)) pe_int)))))
          (blkOk_by (own := [("_law_number", 4)]) (N := ["_law_cell", "_law_some", "_law_signs_here", "_law_text", "_law_number"]) (sc := defScope sContent) (by decide +kernel))
          (fun _ _ _ _ _ => pg_name (i := 4) scContent.nd rfl (Or.inl rfl)) (fun _ _ _ _ _ => pts_nil)
          (fun _ _ _ _ _ => pe_ix ix_str (pv 2) (pe_op op_mod (pv 4) pe_int) (fun _ _ => rfl)))))
      (C8.pss_cut (ps_if (pt_cmpR op_eq (pe_op op_mod (pe_ix ix_list (pv 1) pe_int (fun _ _ => rfl)) pe_int) pe_int (nomark _))
        (pss_one (ps_set (i := 3) scContent.nd rfl (.inl rfl) (pe_join pe_str (pe_lc (own := [("_law_number", 4)]) (g := gName 4) (by rfl) scContent.nd
          (pi_list (pe_slice sl_list (pv 1) (po_some pe_int) po_none))
          (blkOk_by (own := [("_law_number", 4)]) (N := ["_law_cell", "_law_some", "_law_signs_here", "_law_text", "_law_number"]) (sc := defScope sContent) (by decide +kernel))
          (fun _ _ _ _ _ => pg_name (i := 4) scContent.nd rfl (Or.inl rfl)) (fun _ _ _ _ _ => pts_nil)
          (fun _ _ _ _ _ => pe_ix ix_str (pv 2) (pe_op op_mod (pe_ix (r := rIxL K) ix_list (pv 1) (pe_op op_add pe_int (pe_op op_mod (pv 4) pe_int)) (fun _ _ => rfl)) pe_int) (fun _ _ => rfl)))))) pss_nil)
      (pss_one (ps_ret (pe_slice sl_str (pe_op op_mul_str (pv 3) (pe_op op_add pe_int (pe_op op_mod (pe_ix ix_list (pv 1) pe_int (fun _ _ => rfl)) pe_int))) po_none (po_some pe_int)))))))), ?_⟩
    -- some, signs
    refine ⟨.int c, rfl, c, rfl, fun H1 o ns s1 no eo hn => ⟨rfl, ?_⟩⟩
    have hO : SqL K H1 o (ns.map V.int) := .inl (.inl eo)
    -- if some[0] % 4 == 0
    refine ⟨.ref o, rfl, o, _, _, _, rfl, rfl, hO, at_k hn 0 (by decide), _, 4, rfl, rfl, (by decide : (0 : Int) < 4), rfl, _, rfl, ?_⟩
    refine ite2 (fun _ => ?_) (fun _ => ?_)
    · obtain ⟨c1, hc1, g1⟩ := sg (ns.getD 1 0)
      obtain ⟨c3, hc3, g3⟩ := sg (ns.getD 3 0)
      obtain ⟨c4, hc4, g4⟩ := sg (ns.getD 4 0)
      have m0 : 0 ≤ ns.getD 2 0 % 401 := Int.emod_nonneg _ (by decide)
      have m1 : ns.getD 2 0 % 401 < 401 := Int.emod_lt_of_pos _ (by decide)
      have T1 : Tx (Txt.mul ⟨#[c1]⟩ (ns.getD 2 0 % 401)) (1 * 400) := tx_mul (tx_one g1) (by omega)
      have T2 := tx_add T1 (tx_one g3)
      have T3 : Tx (Txt.mul ⟨#[c4]⟩ 400) (1 * 400) := tx_mul (tx_one g4) (by decide)
      have T4 := tx_add T2 T3
      have f0 : 0 ≤ ns.getD 5 0 % 401 := Int.emod_nonneg _ (by decide)
      have f1 : ns.getD 5 0 % 401 < 401 := Int.emod_lt_of_pos _ (by decide)
      refine ⟨.str sigStr, rfl, .ref o, rfl, o, _, _, _, rfl, rfl, hO, at_k hn 1 (by decide), _, 94, rfl, rfl, (by decide : (0 : Int) < 94), sigStr, _, c1, rfl, rfl, sig_fit, hc1,
        .ref o, rfl, o, _, _, _, rfl, rfl, hO, at_k hn 2 (by decide), _, 401, rfl, rfl, (by decide : (0 : Int) < 401), _, _, rfl, rfl, mulOk_of 1 400 (Nat.le_refl 1) (by omega) (by omega) (by decide) (by decide),
        .str sigStr, rfl, .ref o, rfl, o, _, _, _, rfl, rfl, hO, at_k hn 3 (by decide), _, 94, rfl, rfl, (by decide : (0 : Int) < 94), sigStr, _, c3, rfl, rfl, sig_fit, hc3, _, _, rfl, rfl, ?_, ?_⟩
      · have := T1.len
        exact Nat.le_of_lt (small1000 (by show _ + 1 ≤ 1000; omega))
      refine ⟨.str (Txt.mul ⟨#[c1]⟩ (ns.getD 2 0 % 401) ++ ⟨#[c3]⟩), rfl, .str sigStr, rfl, .ref o, rfl, o, _, _, _, rfl, rfl, hO, at_k hn 4 (by decide), _, 94, rfl, rfl, (by decide : (0 : Int) < 94), sigStr, _, c4, rfl, rfl, sig_fit, hc4, _, 400, rfl, rfl, mulOk_of 1 400 (Nat.le_refl 1) (by decide) (by decide) (by decide) (by decide), _, _, rfl, rfl, ?_, ?_⟩
      · have a1 := T2.len
        have a2 := T3.len
        exact Nat.le_of_lt (small1000 (by omega))
      refine ⟨.ref o, rfl, o, _, _, _, rfl, rfl, hO, at_k hn 5 (by decide), _, 401, rfl, rfl, (by decide : (0 : Int) < 401), _, rfl, _, rfl, ?_, ?_⟩
      · have := T4.len
        exact Nat.le_of_lt (small1000 (by omega))
      · exact q H1 _ s1 (tx_cut_to T4 f0 (by omega))
    · -- the first join
      refine ⟨⟨_, rfl⟩, .ref o, rfl, 4, rfl, .ref o, rfl, o, _, _, _, rfl, rfl, hO, at_k hn 1 (by decide), _, 41, rfl, rfl, (by decide : (0 : Int) < 41), 4, _, rfl, rfl, _, rfl, o, _, rfl, hO, fun p np => ?_⟩
      obtain ⟨ms, em, lm⟩ := cutV_int ns (some 4) (some (4 + ns.getD 1 0 % 41))
      rw [em]
      have s2 : Same H1 (upd H1 p (.lst (ms.map V.int))) := same_upd np
      refine ⟨p, rfl, ⟨_, .inl (.inl upd_same)⟩, fun D nD => ?_⟩
      have s3 : Same (upd H1 p (.lst (ms.map V.int))) (upd (upd H1 p (.lst (ms.map V.int))) D (.lst [])) := same_upd nD
      have nDp : H1 D = none := s2.free nD
      have npD : p ≠ D := ne_of_none upd_same nD
      refine lc_list (K := K) (a := p) (xs := ms.map V.int) (fun i H' => Same H1 H' ∧ H' p = some (.lst (ms.map V.int)) ∧ ∃ ls, H' D = some (.lst (TV ls)) ∧ Ones ls i)
        ⟨s2.trans s3, s3 _ _ upd_same, [], upd_same, ones_nil⟩ (fun i H' _ h => .inl (.inl h.2.1)) ?_ ?_
      · rintro i x H' hx ⟨sm, ep, ls, eD, on⟩
        obtain ⟨n, rfl⟩ : ∃ n, x = V.int n := by
          rw [List.getElem?_map] at hx
          cases e : ms[i]? with
          | none => rw [e] at hx; cases hx
          | some n => rw [e] at hx; exact ⟨n, (Option.some.inj hx).symm⟩
        have hi : i < ms.length := by
          have := (List.getElem?_eq_some_iff.mp hx).1
          rwa [List.length_map] at this
        obtain ⟨c1, hc1, g1⟩ := sg n
        refine ⟨rfl, ?_⟩
        refine ⟨.str sigStr, rfl, .int n, rfl, n, 94, rfl, rfl, (by decide : (0 : Int) < 94), sigStr, _, c1, rfl, rfl, sig_fit, hc1, _, eD, ?_, fun b z e => ?_, ?_, ls ++ [[c1]], ?_, on.snoc g1⟩
        · rw [tv_len, on.len]
          exact small1000 (by omega)
        · rw [upd_ne (ne_of_none e nDp)]
          exact sm _ _ e
        · rw [upd_ne npD]
          exact ep
        · rw [upd_same, tv_snoc]
      · rintro H2 ⟨sm, ep, ls, eD, on⟩
        rw [List.length_map] at on
        refine ⟨"", D, ls.map S, rfl, rfl, .inl (.inl (.inl eD)), ones_bound on (by omega), ?_⟩
        have hO2 : SqL K H2 o (ns.map V.int) := sm.seq hO
        have Z1 := ones_join on (by omega)
        generalize Txt.join "" (ls.map S) = z1 at Z1
        -- if some[0] % 4 == 1
        refine ⟨fun σ H' => ∃ z, σ = [some (.int c), some (.ref o), some (.str sigStr), some (.str z), none] ∧ Same H1 H' ∧ Tx z 44, ?_, ?_⟩
        · refine ⟨.ref o, rfl, o, _, _, _, rfl, rfl, hO2, at_k hn 0 (by decide), _, 4, rfl, rfl, (by decide : (0 : Int) < 4), rfl, _, rfl, ?_⟩
          refine ite2 (fun _ => ?_) (fun _ => ⟨z1, rfl, sm, Z1⟩)
          refine ⟨⟨_, rfl⟩, .ref o, rfl, 5, rfl, o, _, rfl, hO2, fun p2 np2 => ?_⟩
          obtain ⟨ms2, em2, lm2⟩ := cutV_int ns (some 5) none
          rw [em2]
          have t2 : Same H2 (upd H2 p2 (.lst (ms2.map V.int))) := same_upd np2
          refine ⟨p2, rfl, ⟨_, .inl (.inl upd_same)⟩, fun D2 nD2 => ?_⟩
          have t3 : Same (upd H2 p2 (.lst (ms2.map V.int))) (upd (upd H2 p2 (.lst (ms2.map V.int))) D2 (.lst [])) := same_upd nD2
          have nDp2 : H2 D2 = none := t2.free nD2
          have npD2 : p2 ≠ D2 := ne_of_none upd_same nD2
          refine lc_list (K := K) (a := p2) (xs := ms2.map V.int) (fun i H' => Same H2 H' ∧ H' p2 = some (.lst (ms2.map V.int)) ∧ ∃ ls, H' D2 = some (.lst (TV ls)) ∧ Ones ls i)
            ⟨t2.trans t3, t3 _ _ upd_same, [], upd_same, ones_nil⟩ (fun i H' _ h => .inl (.inl h.2.1)) ?_ ?_
          · rintro i x H' hx ⟨sm2, ep2, ls2, eD2, on2⟩
            obtain ⟨n, rfl⟩ : ∃ n, x = V.int n := by
              rw [List.getElem?_map] at hx
              cases e : ms2[i]? with
              | none => rw [e] at hx; cases hx
              | some n => rw [e] at hx; exact ⟨n, (Option.some.inj hx).symm⟩
            have hi : i < ms2.length := by
              have := (List.getElem?_eq_some_iff.mp hx).1
              rwa [List.length_map] at this
            have r0 : 0 ≤ n % 3 := Int.emod_nonneg _ (by decide)
            have r1 : n % 3 < 3 := Int.emod_lt_of_pos _ (by decide)
            obtain ⟨n2, hn2⟩ := at_int hn (i := 2 + n % 3) (by omega) (by omega)
            obtain ⟨c1, hc1, g1⟩ := sg n2
            refine ⟨rfl, ?_⟩
            refine ⟨.str sigStr, rfl, .ref o, rfl, .int n, rfl, n, 3, rfl, rfl, (by decide : (0 : Int) < 3), 2, _, rfl, rfl, o, _, _, _, rfl, rfl, sm2.seq hO2, hn2, n2, 94, rfl, rfl, (by decide : (0 : Int) < 94), sigStr, _, c1, rfl, rfl, sig_fit, hc1, _, eD2, ?_, fun b z e => ?_, ?_, ls2 ++ [[c1]], ?_, on2.snoc g1⟩
            · rw [tv_len, on2.len]
              exact small1000 (by omega)
            · rw [upd_ne (ne_of_none e nDp2)]
              exact sm2 _ _ e
            · rw [upd_ne npD2]
              exact ep2
            · rw [upd_same, tv_snoc]
          · rintro H3 ⟨sm2, ep2, ls2, eD2, on2⟩
            rw [List.length_map] at on2
            refine ⟨"", D2, ls2.map S, rfl, rfl, .inl (.inl (.inl eD2)), ones_bound on2 (by omega), _, rfl, sm.trans sm2, ones_join on2 (by omega)⟩
        · rintro σ H3 ⟨z, rfl, sm3, Z⟩
          have hO3 : SqL K H3 o (ns.map V.int) := sm3.seq hO
          have k0 : 0 ≤ ns.getD 3 0 % 12 := Int.emod_nonneg _ (by decide)
          have k1 : ns.getD 3 0 % 12 < 12 := Int.emod_lt_of_pos _ (by decide)
          have T : Tx (Txt.mul z (1 + ns.getD 3 0 % 12)) (44 * 12) := tx_mul Z (by omega)
          refine ⟨.str z, rfl, .ref o, rfl, o, _, _, _, rfl, rfl, hO3, at_k hn 3 (by decide), _, 12, rfl, rfl, (by decide : (0 : Int) < 12), 1, _, rfl, rfl, _, _, rfl, rfl, mulOk_of 44 12 Z.len (by omega) (by omega) (by decide) (by decide), _, rfl, _, rfl, ?_, ?_⟩
          · have := T.len
            exact Nat.le_of_lt (small1000 (by omega))
          · exact q H3 _ (s1.trans sm3) (tx_cut_to T (by decide) (by decide))
end
end K9
namespace K9
open PySem PySem.Spec PyProof.Rows L2 SX
structure TL_ (l : List Nat) (n : Nat) : Prop where
  len : l.length ≤ n
  ok : ∀ c ∈ l, good c = true
theorem to_S {z : Str} {n : Nat} (h : Tx z n) : ∃ l, z = S l ∧ TL_ l n := ⟨z.cps.toList, (S_tl z).symm, by rw [tl_len]; exact h.len, h.ok⟩
theorem TL_.add {l m : List Nat} {n k : Nat} (h : TL_ l n) (g : TL_ m k) : TL_ (l ++ m) (n + k) := ⟨by rw [List.length_append]; exact Nat.add_le_add h.len g.len, fun c hc => by
  rcases List.mem_append.mp hc with q | q
  · exact h.ok c q
  · exact g.ok c q⟩
theorem gl_cut {l : List Nat} {n : Nat} (h : TL_ l n) : GL (cut [] l) := fun p hp c hc => h.ok c (cut_mem hp hc)
theorem gl_drop {ps : List (List Nat)} (h : GL ps) (k : Nat) : GL (ps.drop k) := fun p hp c hc => h p (List.mem_of_mem_drop hp) c hc
theorem cut8 {l : List Nat} : ∀ p ∈ cut [] l, p.length ≤ 8 := fun p hp => by
  obtain ⟨i, hi, e⟩ := List.mem_iff_getElem.mp hp
  have g : (cut [] l)[i]? = some p := by rw [List.getElem?_eq_getElem hi, e]
  exact (well_at (cut_well l [] open_nil) g).1.hi
theorem cutV_from (ps : List (List Nat)) (k : Nat) : cutV (TV ps) (some (k : Int)) none = TV (ps.drop k) := by
  unfold cutV
  rw [HT.sIx_nat, HT.sIx_none]
  have e : (TV ps).drop (min k (TV ps).length) = TV (ps.drop k) := by
    by_cases h : k ≤ (TV ps).length
    · rw [Nat.min_eq_left h]
      simp [TV]
    · have h2 : ps.length ≤ k := by rw [tv_len] at h; omega
      rw [Nat.min_eq_right (by omega), List.drop_length, List.drop_eq_nil_of_le h2]
      rfl
  rw [e, List.take_of_length_le]
  rw [tv_len, tv_len, List.length_drop]
  omega
theorem drop_flat {ps : List (List Nat)} {l : List Nat} {n : Nat} (e : ps.flatten = l) (h : TL_ l n) (k : Nat) : TL_ (ps.drop k).flatten n := by
  rw [drop_flatten, e]
  exact ⟨by rw [List.length_drop]; have := h.len; omega, fun c hc => h.ok c (List.mem_of_mem_drop hc)⟩
theorem flat_bound {ps : List (List Nat)} {n : Nat} (h : ps.flatten.length ≤ n) (hn : n ≤ 400) : ((ps.map S).map (·.length)).sum + (ps.map S).length * ("" : Str).length ≤ 16777216 := by
  rw [lens, empty_S, S_len]
  have e : (ps.map (·.length)).sum = ps.flatten.length := List.length_flatten.symm
  rw [e, List.length_nil, Nat.mul_zero, Nat.add_zero]
  omega
theorem valV_mem {kvs : List (Key × V)} {k : Key} {v : V} (h : valV kvs k = some v) : (k, v) ∈ kvs := by
  unfold valV at h
  cases e : kvs.find? fun kv => decide (kv.1 = k) with
  | none => rw [e] at h; cases h
  | some p =>
    rw [e] at h
    have h2 : p.2 = v := Option.some.inj h
    have h1 : p.1 = k := by
      have := List.find?_some e
      exact of_decide_eq_true this
    have hm := List.mem_of_find?_eq_some e
    rw [← h1, ← h2]
    exact hm
theorem valV_some {kvs : List (Key × V)} {k : Key} {v : V} (h : (k, v) ∈ kvs) : ∃ v', valV kvs k = some v' := by
  have a : (kvs.any fun kv => decide (kv.1 = k)) = true := List.any_eq_true.mpr ⟨(k, v), h, decide_eq_true rfl⟩
  rw [valV_any] at a
  exact Option.isSome_iff_exists.mp a
section
variable {P : Program} {w : World} {K : PySem.W.Frag} {mg : Str → Option Value} {base : Heap}
/-! ### law -/
def spLaw (K : PySem.W.Frag) : Sp := fun vs H Q _ => ∃ (a : Addr) (ns : List Int), vs = [.ref a] ∧ SqL K H a (ns.map V.int) ∧ ns.length ≤ 63 ∧ ∀ H', Q (.bl true) H'
abbrev nLaw : List Str := ["_law_script", "_law_one", "_law_other", "_law_end", "_law_pieces", "_law_beside", "_law_content_here", "_law_found", "_law_k", "_law_begins_here", "_law_more", "_law_place"]
theorem scLaw : FnScope nLaw ["_law_script"] (defScope sLaw) := ⟨rfl, rfl, rfl, by decide +kernel, rfl, by decide +kernel, by decide +kernel⟩
theorem ok_law {f fA fC fP fW fB : Addr} {fd fdA fdC fdP fdW fdB : FuncData} (F : Fun K "law" "law" sLaw f fd) (T : Glob mg)
    (GA : FnOk P w K mg base CX0 1 fA fdA ["_law_script", "_law_k"] (spCellAt K)) (kA : PySem.W.keepIn K (.ref fA) = true) (bA : Binds K fdA ["_law_script", "_law_k"] []) (gA : mg "_law_cell_at" = some (.ref fA))
    (GC : FnOk P w K mg base CX0 2 fC fdC ["_law_cell"] spContent) (kC : PySem.W.keepIn K (.ref fC) = true) (bC : Binds K fdC ["_law_cell"] []) (gC : mg "_law_content" = some (.ref fC))
    (GP : FnOk P w K mg base CX0 3 fP fdP ["content"] spPieces) (kP : PySem.W.keepIn K (.ref fP) = true) (bP : Binds K fdP ["content"] []) (gP : mg "pieces_of" = some (.ref fP))
    (GW : FnOk P w K mg base CX0 3 fW fdW ["_law_pieces"] (spWell K)) (kW : PySem.W.keepIn K (.ref fW) = true) (bW : Binds K fdW ["_law_pieces"] []) (gW : mg "_law_well_cut" = some (.ref fW))
    (GB : FnOk P w K mg base CX0 1 fB fdB ["_law_pieces", "_law_ahead"] (spBegins K)) (kB : PySem.W.keepIn K (.ref fB) = true) (bB : Binds K fdB ["_law_pieces", "_law_ahead"] []) (gB : mg "_law_begins" = some (.ref fB)) :
    FnOk P w K mg base CX0 4 f fd ["_law_script"] (spLaw K) := by
  refine F.ok scLaw (fun vs H Q E h => ?_) (fun cdv A outer s H vs Q E hr h => ?_)
  · obtain ⟨a, ns, rfl, _⟩ := h
    rfl
  · obtain ⟨a, ns, rfl, hS, hlen, q⟩ := h
    have hu := hu_of hr
    have hr1 : Room 1 _ := hr.mono (by decide)
    have hr2 : Room 2 _ := hr.mono (by decide)
    refine ⟨_, pss_cons (ps_set (i := 1) scLaw.nd rfl (.inl rfl) (pe_slice sl_str (pe_call GC hr2 (by rfl) gC kC bC .nil pass0 (pa_cons (pe_call GA hr1 (by rfl) gA kA bA .nil pass0 (pa_cons (pv 0) (pa_cons pe_int pa_nil))) pa_nil)) po_none
          (po_some (pe_op op_mod (pe_call GA hr1 (by rfl) gA kA bA .nil pass0 (pa_cons (pv 0) (pa_cons pe_int pa_nil))) pe_int))))
      (pss_cons (ps_set (i := 2) scLaw.nd rfl (.inl rfl) (pe_slice sl_str (pe_call GC hr2 (by rfl) gC kC bC .nil pass0 (pa_cons (pe_call GA hr1 (by rfl) gA kA bA .nil pass0 (pa_cons (pv 0) (pa_cons pe_int pa_nil))) pa_nil)) po_none
          (po_some (pe_op op_mod (pe_op op_fdiv (pe_call GA hr1 (by rfl) gA kA bA .nil pass0 (pa_cons (pv 0) (pa_cons pe_int pa_nil))) pe_int) pe_int))))
      (C8.pss_cut (ps_set (i := 3) scLaw.nd rfl (.inl rfl) (pe_slice sl_str (pe_call GC hr2 (by rfl) gC kC bC .nil pass0 (pa_cons (pe_call GA hr1 (by rfl) gA kA bA .nil pass0 (pa_cons (pv 0) (pa_cons pe_int pa_nil))) pa_nil)) po_none (po_some pe_int)))
      (pss_cons (ps_set (i := 4) scLaw.nd rfl (.inl rfl) (pe_call GP hr (by rfl) gP kP bP .nil pass0 (pa_cons (pe_op op_add_str (pv 1) (pv 3)) pa_nil)))
      (pss_cons (ps_set (i := 5) scLaw.nd rfl (.inl rfl) (pe_call GP hr (by rfl) gP kP bP .nil pass0 (pa_cons (pe_op op_add_str (pv 2) (pv 3)) pa_nil)))
      (pss_cons (ps_for PassesOwn.never rfl (pi_tup (pe_tup (pa_cons (pe_tup (pa_cons (pe_op op_add_str (pv 1) (pv 3)) (pa_cons (pv 4) pa_nil))) (pa_cons (pe_tup (pa_cons (pe_op op_add_str (pv 2) (pv 3)) (pa_cons (pv 5) pa_nil))) pa_nil))))
          (pg_tup rfl (pgs_cons (pg_name (i := 6) scLaw.nd rfl (.inl rfl)) (pgs_cons (pg_name (i := 7) scLaw.nd rfl (.inl rfl)) pgs_nil)))
          (pss_one (ps_if (PW.pt (pw_or (pt_cmpR op_ne (pe_join pe_str (pv 7)) (pv 6) (nomark _)) (pw_or1 (pt_not (pt_val (pe_call GW hr (by rfl) gW kW bW .nil pass0 (pa_cons (pv 7) pa_nil))))))) (pss_one (ps_ret pe_bl)) pss_nil)))
      (pss_cons (ps_for PassesOwn.never rfl (pi_tup (pe_tup (pa_cons pe_int (pa_cons (pe_op op_fdiv (pe_callB call_len_seq (by rfl) T.len PySem.boot_len (pa_cons (pv 4) pa_nil)) pe_int)
            (pa_cons (pe_op op_mod (pe_call GA hr1 (by rfl) gA kA bA .nil pass0 (pa_cons (pv 0) (pa_cons pe_int pa_nil))) (pe_op op_add (pe_callB call_len_seq (by rfl) T.len PySem.boot_len (pa_cons (pv 4) pa_nil)) pe_int)) pa_nil)))))
          (pg_name (i := 8) scLaw.nd rfl (.inl rfl))
          (pss_one (ps_if (pt_cmpR (op_neD hr.units) (pe_call GP hr (by rfl) gP kP bP .nil pass0 (pa_cons (pe_join pe_str (pe_slice sl_list (pv 4) (po_some (pv 8)) po_none)) pa_nil)) (pe_slice sl_list (pv 4) (po_some (pv 8)) po_none) (nomark _)) (pss_one (ps_ret pe_bl)) pss_nil)))
      (pss_cons (ps_set (i := 9) scLaw.nd rfl (.inl rfl) (pe_call GB hr1 (by rfl) gB kB bB .nil pass0 (pa_cons (pv 4) (pa_cons (pe_callB call_len_str (by rfl) T.len PySem.boot_len (pa_cons (pv 1) pa_nil)) pa_nil))))
      (pss_cons (ps_set (i := 10) scLaw.nd rfl (.inl rfl) (pe_call GB hr1 (by rfl) gB kB bB .nil pass0 (pa_cons (pv 5) (pa_cons (pe_callB call_len_str (by rfl) T.len PySem.boot_len (pa_cons (pv 2) pa_nil)) pa_nil))))
      (pss_cons (ps_lock (ps_for PassesOwn.never rfl (pi_keys (pv 9)) (pg_name (i := 11) scLaw.nd rfl (.inl rfl))
          (pss_one (ps_if (PW.pt (pw_and (pt_cmpR op_ge (pv 11) pe_int (nomark _)) (pw_and (pt_cmp (pc_din hu (pv 11) (pv 10)))
              (pw_and1 (pt_cmpR (op_neD hr.units) (pe_slice sl_list (pv 4) (po_some (pe_dget hu (pv 9) (pv 11) (fun _ _ => rfl))) po_none) (pe_slice sl_list (pv 5) (po_some (pe_dget hu (pv 10) (pv 11) (fun _ _ => rfl))) po_none) (nomark _)))))) (pss_one (ps_ret pe_bl)) pss_nil))))
      (pss_one (ps_ret pe_bl))))))))))), ?_⟩
    -- one, other, end
    refine ⟨.ref a, rfl, a, ns, 0, rfl, hS, fun i0 => ⟨i0, rfl, fun Ha za sa Ta => ⟨.ref a, rfl, a, ns, 3, rfl, sa.seq hS, fun i3 => ?_⟩⟩⟩
    refine ⟨i3, 81, rfl, rfl, (by decide : (0 : Int) < 81), _, rfl, za, rfl, Nat.le_of_lt (small1000 (Nat.le_trans Ta.len (by decide))), ?_⟩
    have T1 : Tx (cutS za none (some (i3 % 81))) 80 := tx_cut_to Ta (Int.emod_nonneg _ (by decide)) (by have := Int.emod_lt_of_pos i3 (by decide : (0 : Int) < 81); omega)
    refine ⟨.ref a, rfl, a, ns, 1, rfl, sa.seq hS, fun i1 => ⟨i1, rfl, fun Hb zb sb Tb => ⟨.ref a, rfl, a, ns, 3, rfl, sb.seq (sa.seq hS), fun i3' => ?_⟩⟩⟩
    refine ⟨i3', 81, rfl, rfl, ⟨by decide, by decide⟩, _, 81, rfl, rfl, (by decide : (0 : Int) < 81), _, rfl, zb, rfl, Nat.le_of_lt (small1000 (Nat.le_trans Tb.len (by decide))), ?_⟩
    have T2 : Tx (cutS zb none (some (i3' / 81 % 81))) 80 := tx_cut_to Tb (Int.emod_nonneg _ (by decide)) (by have := Int.emod_lt_of_pos (i3' / 81) (by decide : (0 : Int) < 81); omega)
    refine ⟨fun σ H' => ∃ o o' e, σ = [some (.ref a), some (.str (S o)), some (.str (S o')), some (.str (S e)), none, none, none, none, none, none, none, none] ∧ Same H H' ∧ TL_ o 80 ∧ TL_ o' 80 ∧ TL_ e 240, ?_, ?_⟩
    · refine ⟨.ref a, rfl, a, ns, 2, rfl, sb.seq (sa.seq hS), fun i2 => ⟨i2, rfl, fun Hc zc sc Tc => ?_⟩⟩
      refine ⟨_, rfl, zc, rfl, Nat.le_of_lt (small1000 (Nat.le_trans Tc.len (by decide))), ?_⟩
      have T3 : Tx (cutS zc none (some 240)) 240 := tx_cut_to Tc (by decide) (by decide)
      obtain ⟨o, eo, ho⟩ := to_S T1
      obtain ⟨o', eo', ho'⟩ := to_S T2
      obtain ⟨e, ee, he⟩ := to_S T3
      exact ⟨o, o', e, by rw [← eo, ← eo', ← ee]; rfl, sa.trans (sb.trans sc), ho, ho', he⟩
    rintro σ H1 ⟨o, o', e, rfl, s1, ho, ho', he⟩
    have h1 := ho.add he
    have h2 := ho'.add he
    have fit1 : (S o).length + (S e).length ≤ sizeLine := by
      rw [S_len, S_len]
      have a1 := ho.len
      have a2 := he.len
      exact Nat.le_of_lt (small1000 (by omega))
    have fit2 : (S o').length + (S e).length ≤ sizeLine := by
      rw [S_len, S_len]
      have a1 := ho'.len
      have a2 := he.len
      exact Nat.le_of_lt (small1000 (by omega))
    -- pieces, beside
    refine ⟨.str (S o), rfl, .str (S e), rfl, S o, S e, rfl, rfl, fit1, o ++ e, congrArg (fun z => [V.str z]) (S_cat o e), Nat.le_trans h1.len (by decide), h1.ok, fun H2 p s2 np ep => ?_⟩
    refine ⟨.str (S o'), rfl, .str (S e), rfl, S o', S e, rfl, rfl, fit2, o' ++ e, congrArg (fun z => [V.str z]) (S_cat o' e), Nat.le_trans h2.len (by decide), h2.ok, fun H3 p' s3 np' ep' => ?_⟩
    have ep3 := s3 _ _ ep
    have s13 : Same H H3 := s1.trans (s2.trans s3)
    have hw1 : Well (cut [] (o ++ e)) := cut_well _ [] open_nil
    have ln1 : (cut [] (o ++ e)).length ≤ 400 := Nat.le_trans (cut_len _) (Nat.le_trans h1.len (by decide))
    have ln2 : (cut [] (o' ++ e)).length ≤ 400 := Nat.le_trans (cut_len _) (Nat.le_trans h2.len (by decide))
    -- each content is its pieces, well cut
    refine ⟨.str (S o), rfl, .str (S e), rfl, S o, S e, rfl, rfl, fit1, .ref p, rfl, (by show 2 ≤ sizeLine; decide), fun t1 n1 => ?_⟩
    have r1 : Same H3 (upd H3 t1 (.tup [.str (S o ++ S e), .ref p])) := same_upd n1
    refine ⟨.str (S o'), rfl, .str (S e), rfl, S o', S e, rfl, rfl, fit2, .ref p', rfl, (by show 2 ≤ sizeLine; decide), fun t2 n2 => ?_⟩
    have r2 : Same (upd H3 t1 (.tup [.str (S o ++ S e), .ref p])) (upd (upd H3 t1 (.tup [.str (S o ++ S e), .ref p])) t2 (.tup [.str (S o' ++ S e), .ref p'])) := same_upd n2
    refine ⟨(by show 2 ≤ sizeLine; decide), fun t0 n0 => ?_⟩
    have r0 : Same (upd (upd H3 t1 (.tup [.str (S o ++ S e), .ref p])) t2 (.tup [.str (S o' ++ S e), .ref p'])) (upd (upd (upd H3 t1 (.tup [.str (S o ++ S e), .ref p])) t2 (.tup [.str (S o' ++ S e), .ref p'])) t0 (.tup [.ref t1, .ref t2])) := same_upd n0
    refine ⟨t0, rfl, ⟨_, .inl (.inl upd_same)⟩, for_tup (K := K) (a := t0) (xs := [.ref t1, .ref t2]) (fun i σ H' => ∃ (y6 y7 : Option V), σ = [some (.ref a), some (.str (S o)), some (.str (S o')), some (.str (S e)), some (.ref p), some (.ref p'), y6, y7, none, none, none, none] ∧
        Same H3 H' ∧ H' t0 = some (.tup [.ref t1, .ref t2]) ∧ H' t1 = some (.tup [.str (S o ++ S e), .ref p]) ∧ H' t2 = some (.tup [.str (S o' ++ S e), .ref p']))
      ⟨none, none, rfl, r1.trans (r2.trans r0), upd_same, r0 _ _ (r2 _ _ upd_same), r0 _ _ upd_same⟩ (fun i σ H' _ ⟨_, _, _, _, e0, _⟩ => .inl (.inl e0)) ?_ ?_⟩
    · rintro i x σ H4 hx ⟨y6, y7, rfl, sm, e0, e1, e2⟩
      have key : ∃ (t q' : Addr) (l : List Nat), x = V.ref t ∧ H4 t = some (.tup [.str (S l), .ref q']) ∧ H4 q' = some (.lst (TV (cut [] l))) ∧ TL_ l 320 := by
        match i, hx with
        | 0, hx =>
          obtain rfl : V.ref t1 = x := Option.some.inj hx
          exact ⟨t1, p, o ++ e, rfl, by rw [e1, S_cat], sm _ _ ep3, h1⟩
        | 1, hx =>
          obtain rfl : V.ref t2 = x := Option.some.inj hx
          exact ⟨t2, p', o' ++ e, rfl, by rw [e2, S_cat], sm _ _ ep', h2⟩
        | n + 2, hx => exact absurd hx (by simp)
      obtain ⟨t, q', l, rfl, et, eq, hl⟩ := key
      refine ⟨t, _, rfl, .inl (.inl et), rfl, _, _, rfl, _, _, rfl, rfl, ?_⟩
      refine ⟨⟨_, rfl⟩, .ref q', rfl, "", q', (cut [] l).map S, rfl, rfl, .inl (.inl (.inl eq)), flat_bound (n := 320) (by rw [cut_flatten]; exact hl.len) (by decide), .str (S l), rfl, rfl, _, rfl, ?_⟩
      have ej : Txt.join "" ((cut [] l).map S) = S l := by rw [empty_S, join_nil, cut_flatten]; rfl
      refine iteNS (congrArg V.str ej) ?_
      refine ⟨.ref q', rfl, q', cut [] l, rfl, .inl (.inl eq), Nat.le_trans (cut_len l) (Nat.le_trans hl.len (by decide)), gl_cut hl, cut_well l [] open_nil, fun H5 s5 => ⟨true, rfl, iteF ?_⟩⟩
      exact ⟨_, _, rfl, sm.trans s5, s5 _ _ e0, s5 _ _ e1, s5 _ _ e2⟩
    rintro σ H4 ⟨y6, y7, rfl, sm4, _, _, _⟩
    have ep4 := sm4 _ _ ep3
    have ep4' := sm4 _ _ ep'
    have s14 : Same H H4 := s13.trans sm4
    -- what lies behind a piece
    refine ⟨.ref p, rfl, p, _, rfl, .inl (.inl (.inl ep4)), _, 2, rfl, rfl, ⟨by decide, by decide⟩, .ref a, rfl, a, ns, 4, rfl, s14.seq hS, fun i4 => ?_⟩
    refine ⟨.ref p, rfl, p, _, rfl, .inl (.inl (.inl ep4)), _, 1, rfl, rfl, i4, _, rfl, rfl, (show (0 : Int) < ((TV (cut [] (o ++ e))).length : Int) + 1 by omega), (by show 3 ≤ sizeLine; decide), fun t3 n3 => ?_⟩
    have r3 : Same H4 (upd H4 t3 (.tup [.int 1, .int (((TV (cut [] (o ++ e))).length : Int) / 2), .int (i4 % (((TV (cut [] (o ++ e))).length : Int) + 1))])) := same_upd n3
    refine ⟨t3, rfl, ⟨_, .inl (.inl upd_same)⟩, for_tup (K := K) (a := t3) (xs := [.int 1, .int (((TV (cut [] (o ++ e))).length : Int) / 2), .int (i4 % (((TV (cut [] (o ++ e))).length : Int) + 1))]) (fun i σ H' => ∃ (y8 : Option V), σ = [some (.ref a), some (.str (S o)), some (.str (S o')), some (.str (S e)), some (.ref p), some (.ref p'), y6, y7, y8, none, none, none] ∧
        Same H4 H' ∧ H' t3 = some (.tup [.int 1, .int (((TV (cut [] (o ++ e))).length : Int) / 2), .int (i4 % (((TV (cut [] (o ++ e))).length : Int) + 1))]))
      ⟨none, rfl, r3, upd_same⟩ (fun i σ H' _ ⟨_, _, _, e0⟩ => .inl (.inl e0)) ?_ ?_⟩
    · rintro i x σ H5 hx ⟨y8, rfl, sm, e0⟩
      have nn : ∀ z : Int, 0 ≤ z → ∃ k : Nat, V.int z = V.int (k : Int) := fun z h => ⟨z.toNat, by rw [Int.toNat_of_nonneg h]⟩
      have key : ∃ k : Nat, x = V.int (k : Int) := by
        match i, hx with
        | 0, hx =>
          obtain rfl := Option.some.inj hx
          exact ⟨1, rfl⟩
        | 1, hx =>
          obtain rfl := Option.some.inj hx
          exact nn _ (Int.ediv_nonneg (by omega) (by decide))
        | 2, hx =>
          obtain rfl := Option.some.inj hx
          exact nn _ (Int.emod_nonneg _ (by omega))
        | n + 3, hx => exact absurd hx (by simp)
      obtain ⟨k, rfl⟩ := key
      have ep5 := sm _ _ ep4
      refine ⟨⟨_, rfl⟩, .ref p, rfl, .int (k : Int), rfl, (k : Int), rfl, p, TV (cut [] (o ++ e)), rfl, .inl (.inl ep5), fun p2 n2 => ?_⟩
      have q2 : Same H5 (upd H5 p2 (.lst (cutV (TV (cut [] (o ++ e))) (some (k : Int)) none))) := same_upd n2
      have e2 : (upd H5 p2 (.lst (cutV (TV (cut [] (o ++ e))) (some (k : Int)) none))) p2 = some (.lst (TV ((cut [] (o ++ e)).drop k))) := by rw [upd_same, cutV_from]
      have hf := drop_flat (cut_flatten (o ++ e) []) h1 k
      have hgd := gl_drop (gl_cut h1) k
      refine ⟨"", p2, ((cut [] (o ++ e)).drop k).map S, rfl, rfl, .inl (.inl (.inl e2)), flat_bound (n := 320) hf.len (by decide), ((cut [] (o ++ e)).drop k).flatten, congrArg (fun z => [V.str z]) (by rw [empty_S, join_nil]), Nat.le_trans hf.len (by decide), hf.ok, fun H6 p3 s6 n3 e6 => ?_⟩
      rw [cut_alone] at e6
      refine ⟨.ref p, rfl, .int (k : Int), rfl, (k : Int), rfl, p, TV (cut [] (o ++ e)), rfl, .inl (.inl (s6 _ _ (q2 _ _ ep5))), fun p4 n4 => ?_⟩
      have q4 : Same H6 (upd H6 p4 (.lst (cutV (TV (cut [] (o ++ e))) (some (k : Int)) none))) := same_upd n4
      have e4 : (upd H6 p4 (.lst (cutV (TV (cut [] (o ++ e))) (some (k : Int)) none))) p4 = some (.lst (TV ((cut [] (o ++ e)).drop k))) := by rw [upd_same, cutV_from]
      refine ⟨.list (TD ((cut [] (o ++ e)).drop k)), .list (TD ((cut [] (o ++ e)).drop k)), .lst (.inl (.inl (q4 _ _ e6))) (dp_all _), .lst (.inl (.inl e4)) (dp_all _), td_shaped hgd, td_shaped hgd, _, rfl, ?_⟩
      rw [td_same hgd]
      refine iteF ?_
      have sq := q2.trans (s6.trans q4)
      exact ⟨_, rfl, sm.trans sq, sq _ _ e0⟩
    rintro σ H5 ⟨y8, rfl, sm5, _⟩
    have ep5 := sm5 _ _ ep4
    have ep5' := sm5 _ _ ep4'
    -- where pieces begin
    refine ⟨.ref p, rfl, .str (S o), rfl, S o, rfl, Nat.le_trans (Nat.le_add_right _ _) fit1, p, cut [] (o ++ e), _, rfl, .inl (.inl ep5), ln1, cut8, fun H6 d1 kvs1 s6 nd1 ed1 bg1 => ?_⟩
    refine ⟨.ref p', rfl, .str (S o'), rfl, S o', rfl, Nat.le_trans (Nat.le_add_right _ _) fit2, p', cut [] (o' ++ e), _, rfl, .inl (.inl (s6 _ _ ep5')), ln2, cut8, fun H7 d2 kvs2 s7 nd2 ed2 bg2 => ?_⟩
    rw [S_len] at bg1 bg2
    have nd12 : d1 ≠ d2 := ne_of_none ed1 nd2
    have npd : p ≠ d1 := ne_of_none ep5 nd1
    have npd' : p' ≠ d1 := ne_of_none ep5' nd1
    have ep7 := s7 _ _ (s6 _ _ ep5)
    have ep7' := s7 _ _ (s6 _ _ ep5')
    -- as soon as both have a piece that begins at one place
    refine ⟨d1, .dK kvs1, s7 _ _ ed1, trivial, fun od => ?_⟩
    refine ⟨.ref d1, rfl, d1, od, rfl, .inl ⟨kvs1, upd_same, for_gen kvs1.length (fun i σ H' => ∃ (y11 : Option V), σ = [some (.ref a), some (.str (S o)), some (.str (S o')), some (.str (S e)), some (.ref p), some (.ref p'), y6, y7, y8, some (.ref d1), some (.ref d2), y11] ∧
        H' d1 = some (.frz od (.dK kvs1)) ∧ H' d2 = some (.dK kvs2) ∧ H' p = some (.lst (TV (cut [] (o ++ e)))) ∧ H' p' = some (.lst (TV (cut [] (o' ++ e)))))
      ⟨none, rfl, upd_same, by rw [upd_ne nd12.symm]; exact ed2, by rw [upd_ne npd]; exact ep7, by rw [upd_ne npd']; exact ep7'⟩ (fun i σ H' hi ⟨_, _, f1, _⟩ => ⟨f1, hi⟩) ?_ (fun σ H' ⟨_, _, f1, _⟩ => ⟨f1, Nat.le_refl _⟩) ?_⟩⟩
    · rintro i x σ H8 H9 hi ⟨y11, rfl, f1, f2, f3, f4⟩ ⟨rfl, k, v, hkv, rfl⟩
      have hmem := List.mem_of_getElem? hkv
      obtain ⟨i0, hi0, rfl, rfl⟩ := bg1 k v hmem
      obtain ⟨v1, hv1⟩ := valV_some hmem
      generalize hz : (at_ (cut [] (o ++ e)) i0 : Int) - (o.length : Int) = z at hv1 hmem
      obtain ⟨i1, hi1, ek1, rfl⟩ := bg1 _ _ (valV_mem hv1)
      have fin : ∀ (H' : Hp), Same H9 H' → ∃ (y : Option V), [some (V.ref a), some (.str (S o)), some (.str (S o')), some (.str (S e)), some (.ref p), some (.ref p'), y6, y7, y8, some (.ref d1), some (.ref d2), some (V.int z)] = [some (V.ref a), some (.str (S o)), some (.str (S o')), some (.str (S e)), some (.ref p), some (.ref p'), y6, y7, y8, some (.ref d1), some (.ref d2), y] ∧
          H' d1 = some (.frz od (.dK kvs1)) ∧ H' d2 = some (.dK kvs2) ∧ H' p = some (.lst (TV (cut [] (o ++ e)))) ∧ H' p' = some (.lst (TV (cut [] (o' ++ e)))) := fun H' sm => ⟨_, rfl, sm _ _ f1, sm _ _ f2, sm _ _ f3, sm _ _ f4⟩
      refine ⟨.int z, rfl, z, 0, rfl, rfl, _, rfl, ?_⟩
      refine ite2 (fun c0 => ?_) (fun _ => iteF (fin _ (Same.refl _)))
      have z0 : 0 ≤ z := of_decide_eq_true c0
      refine ⟨.int z, rfl, .ref d2, rfl, d2, _, rfl, DGet.k (k := Sum.inl z) f2, _, rfl, ?_⟩
      cases hv2 : valV kvs2 (Sum.inl z : Key) with
      | none => exact iteF (iteF (fin _ (Same.refl _)))
      | some v2 =>
        refine iteT ?_
        obtain ⟨j, hj, ek2, rfl⟩ := bg2 _ _ (valV_mem hv2)
        refine ⟨.ref p, rfl, .ref d1, rfl, .int z, rfl, d1, .int (i1 : Nat), rfl, .inl ⟨kvs1, Sum.inl z, .inr ⟨od, f1⟩, rfl, hv1.symm⟩, (i1 : Int), rfl, p, TV (cut [] (o ++ e)), rfl, .inl (.inl f3), fun q1 n1 => ?_⟩
        have w1 : Same H9 (upd H9 q1 (.lst (cutV (TV (cut [] (o ++ e))) (some (i1 : Int)) none))) := same_upd n1
        have g1 : (upd H9 q1 (.lst (cutV (TV (cut [] (o ++ e))) (some (i1 : Int)) none))) q1 = some (.lst (TV ((cut [] (o ++ e)).drop i1))) := by rw [upd_same, cutV_from]
        refine ⟨.ref p', rfl, .ref d2, rfl, .int z, rfl, d2, .int (j : Nat), rfl, .inl ⟨kvs2, Sum.inl z, .inl (w1 _ _ f2), rfl, hv2.symm⟩, (j : Int), rfl, p', TV (cut [] (o' ++ e)), rfl, .inl (.inl (w1 _ _ f4)), fun q2 n2 => ?_⟩
        have w2 : Same (upd H9 q1 (.lst (cutV (TV (cut [] (o ++ e))) (some (i1 : Int)) none))) (upd (upd H9 q1 (.lst (cutV (TV (cut [] (o ++ e))) (some (i1 : Int)) none))) q2 (.lst (cutV (TV (cut [] (o' ++ e))) (some (j : Int)) none))) := same_upd n2
        have g2 : (upd (upd H9 q1 (.lst (cutV (TV (cut [] (o ++ e))) (some (i1 : Int)) none))) q2 (.lst (cutV (TV (cut [] (o' ++ e))) (some (j : Int)) none))) q2 = some (.lst (TV ((cut [] (o' ++ e)).drop j))) := by rw [upd_same, cutV_from]
        have same : (cut [] (o ++ e)).drop i1 = (cut [] (o' ++ e)).drop j := cut_same z0 (Sum.inl.inj ek1) (Sum.inl.inj ek2)
        have hgd := gl_drop (gl_cut h1) i1
        rw [← same] at g2
        refine ⟨.list (TD ((cut [] (o ++ e)).drop i1)), .list (TD ((cut [] (o ++ e)).drop i1)), .lst (.inl (.inl (w2 _ _ g1))) (dp_all _), .lst (.inl (.inl g2)) (dp_all _), td_shaped hgd, td_shaped hgd, _, rfl, ?_⟩
        rw [td_same hgd]
        exact iteF (fin _ (w1.trans w2))
    · rintro σ H8 ⟨y11, rfl, f1, _⟩
      exact ⟨f1, q _⟩
end
end K9
namespace K9
open PySem PySem.Spec PyProof.Rows L2 SX
/-! ### what the top has written; the law's own head -/
theorem all_mk {l : PySem.W.OpenLaw} {w : World} {K : PySem.W.Frag} {h : Heap} {mg : Str → Option Value} {fa f1 f2 f3 f4 f5 f6 f7 f8 f9 f10 f11 : Addr} (X : K.In h) (G : h.Ns mainGlobals mg) (hfa : mg "law" = some (.ref fa))
    {od1 an1 od2 an2 od3 an3 od4 an4 od5 an5 od6 an6 od7 an7 od8 an8 od9 an9 od10 an10 od11 an11 : Option Addr} {sl1 sl2 sl3 sl4 sl5 sl6 sl7 sl8 sl9 sl10 sl11 : Array (Option Value)} {oc1 kV1 dc1 pm1 cd1 ct1 oc2 kV2 dc2 pm2 cd2 ct2 oc3 kV3 dc3 pm3 cd3 ct3 oc4 kV4 dc4 pm4 cd4 ct4 oc5 kV5 dc5 pm5 cd5 ct5 oc6 kV6 dc6 pm6 cd6 ct6 oc7 kV7 dc7 pm7 cd7 ct7 oc8 kV8 dc8 pm8 cd8 ct8 oc9 kV9 dc9 pm9 cd9 ct9 oc10 kV10 dc10 pm10 cd10 ct10 oc11 kV11 dc11 pm11 cd11 ct11 : Value} {xS : Str} {tS tI0 tI1 tI2 tI3 : Tok}
    (a1 : PySem.W.nsIn K mainGlobals "number_of" = some (some (.ref f1))) (l1 : K.lookup f1 = some ⟨oc1, od1, .func (PySem.W.fnOf "number_of" "number_of" (defArgs sNum) (defBody sNum) (defScope sNum) .none kV1 dc1 pm1 an1 cd1 ct1), sl1⟩) (c1 : PySem.W.codeIn K cd1 "number_of" = true) (k1 : PySem.W.keepIn K (.ref f1) = true)
    (a2 : PySem.W.nsIn K mainGlobals "ends_piece" = some (some (.ref f2))) (l2 : K.lookup f2 = some ⟨oc2, od2, .func (PySem.W.fnOf "ends_piece" "ends_piece" (defArgs sEnds) (defBody sEnds) (defScope sEnds) .none kV2 dc2 pm2 an2 cd2 ct2), sl2⟩) (c2 : PySem.W.codeIn K cd2 "ends_piece" = true) (k2 : PySem.W.keepIn K (.ref f2) = true)
    (a3 : PySem.W.nsIn K mainGlobals "pieces_of" = some (some (.ref f3))) (l3 : K.lookup f3 = some ⟨oc3, od3, .func (PySem.W.fnOf "pieces_of" "pieces_of" (defArgs sPieces) (defBody sPieces) (defScope sPieces) .none kV3 dc3 pm3 an3 cd3 ct3), sl3⟩) (c3 : PySem.W.codeIn K cd3 "pieces_of" = true) (k3 : PySem.W.keepIn K (.ref f3) = true)
    (a4 : PySem.W.nsIn K mainGlobals "_law_cell_at" = some (some (.ref f4))) (l4 : K.lookup f4 = some ⟨oc4, od4, .func (PySem.W.fnOf "_law_cell_at" "_law_cell_at" (defArgs sCell) (defBody sCell) (defScope sCell) .none kV4 dc4 pm4 an4 cd4 ct4), sl4⟩) (c4 : PySem.W.codeIn K cd4 "_law_cell_at" = true) (k4 : PySem.W.keepIn K (.ref f4) = true)
    (a5 : PySem.W.nsIn K mainGlobals "_law_numbers" = some (some (.ref f5))) (l5 : K.lookup f5 = some ⟨oc5, od5, .func (PySem.W.fnOf "_law_numbers" "_law_numbers" (defArgs sNumbers) (defBody sNumbers) (defScope sNumbers) .none kV5 dc5 pm5 an5 cd5 ct5), sl5⟩) (c5 : PySem.W.codeIn K cd5 "_law_numbers" = true) (k5 : PySem.W.keepIn K (.ref f5) = true)
    (a6 : PySem.W.nsIn K mainGlobals "_law_signs" = some (some (.ref f6))) (l6 : K.lookup f6 = some ⟨oc6, od6, .func (PySem.W.fnOf "_law_signs" "_law_signs" (defArgs sSigns) (defBody sSigns) (defScope sSigns) .none kV6 dc6 pm6 an6 cd6 ct6), sl6⟩) (c6 : PySem.W.codeIn K cd6 "_law_signs" = true) (k6 : PySem.W.keepIn K (.ref f6) = true)
    (a7 : PySem.W.nsIn K mainGlobals "_law_content" = some (some (.ref f7))) (l7 : K.lookup f7 = some ⟨oc7, od7, .func (PySem.W.fnOf "_law_content" "_law_content" (defArgs sContent) (defBody sContent) (defScope sContent) .none kV7 dc7 pm7 an7 cd7 ct7), sl7⟩) (c7 : PySem.W.codeIn K cd7 "_law_content" = true) (k7 : PySem.W.keepIn K (.ref f7) = true)
    (a8 : PySem.W.nsIn K mainGlobals "_law_is_end" = some (some (.ref f8))) (l8 : K.lookup f8 = some ⟨oc8, od8, .func (PySem.W.fnOf "_law_is_end" "_law_is_end" (defArgs sIsEnd) (defBody sIsEnd) (defScope sIsEnd) .none kV8 dc8 pm8 an8 cd8 ct8), sl8⟩) (c8 : PySem.W.codeIn K cd8 "_law_is_end" = true) (k8 : PySem.W.keepIn K (.ref f8) = true)
    (a9 : PySem.W.nsIn K mainGlobals "_law_well_cut" = some (some (.ref f9))) (l9 : K.lookup f9 = some ⟨oc9, od9, .func (PySem.W.fnOf "_law_well_cut" "_law_well_cut" (defArgs sWell) (defBody sWell) (defScope sWell) .none kV9 dc9 pm9 an9 cd9 ct9), sl9⟩) (c9 : PySem.W.codeIn K cd9 "_law_well_cut" = true) (k9 : PySem.W.keepIn K (.ref f9) = true)
    (a10 : PySem.W.nsIn K mainGlobals "_law_begins" = some (some (.ref f10))) (l10 : K.lookup f10 = some ⟨oc10, od10, .func (PySem.W.fnOf "_law_begins" "_law_begins" (defArgs sBegins) (defBody sBegins) (defScope sBegins) .none kV10 dc10 pm10 an10 cd10 ct10), sl10⟩) (c10 : PySem.W.codeIn K cd10 "_law_begins" = true) (k10 : PySem.W.keepIn K (.ref f10) = true)
    (a11 : PySem.W.nsIn K mainGlobals "law" = some (some (.ref f11))) (l11 : K.lookup f11 = some ⟨oc11, od11, .func (PySem.W.fnOf "law" "law" (defArgs sLaw) (defBody sLaw) (defScope sLaw) .none kV11 dc11 pm11 an11 cd11 ct11), sl11⟩) (c11 : PySem.W.codeIn K cd11 "law" = true) (k11 : PySem.W.keepIn K (.ref f11) = true)
    (aS : PySem.W.nsIn K mainGlobals "SIGNS" = some (some (.str xS tS))) (eS : xS = sigStr)
    (i0 : PySem.W.nsIn K mainGlobals "LEAST" = some (some (.int 2 tI0)))
    (i1 : PySem.W.nsIn K mainGlobals "MOST" = some (some (.int 8 tI1)))
    (i2 : PySem.W.nsIn K mainGlobals "BY" = some (some (.int 5 tI2)))
    (i3 : PySem.W.nsIn K mainGlobals "TURN" = some (some (.int 7 tI3)))
    (z0 : PySem.W.nsIn K mainGlobals "len" = some none)
    (z1 : PySem.W.nsIn K mainGlobals "range" = some none)
    (z2 : PySem.W.nsIn K mainGlobals "enumerate" = some none)
    : ∃ fd : FuncData, (∀ (s : Shared) (v : Value), BindsTo s fd ⟨[v], []⟩ [("_law_script", v)]) ∧ ∀ base : Heap, K.In base → base.Ns mainGlobals mg → FnOk l.prog w K mg base CX0 4 fa fd ["_law_script"] (spLaw K) := by
  have e := hfa.symm.trans (PySem.W.mg_of X G a11)
  cases e
  subst eS
  have T : Glob mg := ⟨⟨_, PySem.W.mg_of X G aS⟩, ⟨_, PySem.W.mg_of X G i0⟩, ⟨_, PySem.W.mg_of X G i1⟩, ⟨_, PySem.W.mg_of X G i2⟩, ⟨_, PySem.W.mg_of X G i3⟩, PySem.W.mg_none_of X G z0, PySem.W.mg_none_of X G z1, PySem.W.mg_none_of X G z2⟩
  have F1 := fun_mk (st := sNum) l1 c1 k1
  have F2 := fun_mk (st := sEnds) l2 c2 k2
  have F3 := fun_mk (st := sPieces) l3 c3 k3
  have F4 := fun_mk (st := sCell) l4 c4 k4
  have F5 := fun_mk (st := sNumbers) l5 c5 k5
  have F6 := fun_mk (st := sSigns) l6 c6 k6
  have F7 := fun_mk (st := sContent) l7 c7 k7
  have F8 := fun_mk (st := sIsEnd) l8 c8 k8
  have F9 := fun_mk (st := sWell) l9 c9 k9
  have F10 := fun_mk (st := sBegins) l10 c10 k10
  have F11 := fun_mk (st := sLaw) l11 c11 k11
  have b1 := F1.binds (ps := ["sign"]) fun _ _ _ _ _ _ us hl => match us, hl with | [_], _ => rfl
  have b2 := F2.binds (ps := ["piece"]) fun _ _ _ _ _ _ us hl => match us, hl with | [_], _ => rfl
  have b3 := F3.binds (ps := ["content"]) fun _ _ _ _ _ _ us hl => match us, hl with | [_], _ => rfl
  have b4 := F4.binds (ps := ["_law_script", "_law_k"]) fun _ _ _ _ _ _ us hl => match us, hl with | [_, _], _ => rfl
  have b5 := F5.binds (ps := ["_law_cell", "_law_many"]) fun _ _ _ _ _ _ us hl => match us, hl with | [_, _], _ => rfl
  have b6 := F6.binds (ps := []) fun _ _ _ _ _ _ us hl => match us, hl with | [], _ => rfl
  have b7 := F7.binds (ps := ["_law_cell"]) fun _ _ _ _ _ _ us hl => match us, hl with | [_], _ => rfl
  have b8 := F8.binds (ps := ["_law_one", "_law_other"]) fun _ _ _ _ _ _ us hl => match us, hl with | [_, _], _ => rfl
  have b9 := F9.binds (ps := ["_law_pieces"]) fun _ _ _ _ _ _ us hl => match us, hl with | [_], _ => rfl
  have b10 := F10.binds (ps := ["_law_pieces", "_law_ahead"]) fun _ _ _ _ _ _ us hl => match us, hl with | [_, _], _ => rfl
  have g1 := PySem.W.mg_of X G a1
  have g2 := PySem.W.mg_of X G a2
  have g3 := PySem.W.mg_of X G a3
  have g4 := PySem.W.mg_of X G a4
  have g5 := PySem.W.mg_of X G a5
  have g6 := PySem.W.mg_of X G a6
  have g7 := PySem.W.mg_of X G a7
  have g8 := PySem.W.mg_of X G a8
  have g9 := PySem.W.mg_of X G a9
  have g10 := PySem.W.mg_of X G a10
  have g11 := PySem.W.mg_of X G a11
  refine ⟨PySem.W.fnOf "law" "law" (defArgs sLaw) (defBody sLaw) (defScope sLaw) .none kV11 dc11 pm11 an11 cd11 ct11, fun s v => .of_eq rfl, fun base _ _ => ?_⟩
  have O1 := ok_num (P := l.prog) (w := w) (base := base) F1 T
  have O2 := ok_ends F2 T O1 k1 b1 g1
  have O3 := ok_pieces F3 O2 k2 b2 g2
  have O4 := ok_cellAt (P := l.prog) (w := w) (base := base) F4 T
  have O5 := ok_numbers (P := l.prog) (w := w) (base := base) F5 T
  have O6 := ok_signs (P := l.prog) (w := w) (mg := mg) (base := base) F6
  have O7 := ok_content F7 O5 k5 b5 g5 O6 k6 b6 g6
  have O8 := ok_isEnd F8 O6 k6 b6 g6
  have O9 := ok_well F9 T O8 k8 b8 g8
  have O10 := ok_begins (P := l.prog) (w := w) (base := base) F10 T
  exact ok_law F11 T O4 k4 b4 g4 O7 k7 b7 g7 O3 k3 b3 g3 O9 k9 b9 g9 O10 k10 b10 g10
end K9
open PySem PySem.W PyProof.Rows
set_option maxRecDepth 100000 in
set_option maxHeartbeats 0 in
theorem PySem.Challenge.cw_stemshelf_k09_whole_cut_alone_holds : PySem.Challenge.rw_stemshelf_k09_whole_cut_alone.Holds := by
  w_on; o_law; k_head; (case hw => w_witness2)
  k_fill
  refine L2.walk_of (l := PySem.Challenge.rw_stemshelf_k09_whole_cut_alone) (n := 63) (k := 4) (x := "_law_script") (CX := fun _ => L2.CX0) (sp := fun w => K9.spLaw _) rfl (by decide) rfl ⟨rfl, by decide, by decide⟩ (fun w h Y => PySem.W.kIn_of Y) ?F (fun _ _ a ns hl _ hS => ⟨a, ns, rfl, hS, hl, fun _ => rfl⟩) (fun _ _ _ _ _ h => h)
  case F =>
    intro w mg fa h KX G hmg
    refine' K9.all_mk KX G hmg ?a1 ?l1 ?c1 ?k1 ?a2 ?l2 ?c2 ?k2 ?a3 ?l3 ?c3 ?k3 ?a4 ?l4 ?c4 ?k4 ?a5 ?l5 ?c5 ?k5 ?a6 ?l6 ?c6 ?k6 ?a7 ?l7 ?c7 ?k7 ?a8 ?l8 ?c8 ?k8 ?a9 ?l9 ?c9 ?k9 ?a10 ?l10 ?c10 ?k10 ?a11 ?l11 ?c11 ?k11 ?aS ?eS ?i0 ?i1 ?i2 ?i3 ?z0 ?z1 ?z2
    (case a1 => k_is)
    (case l1 => k_is)
    (case c1 => k_is)
    (case k1 => k_is)
    (case a2 => k_is)
    (case l2 => k_is)
    (case c2 => k_is)
    (case k2 => k_is)
    (case a3 => k_is)
    (case l3 => k_is)
    (case c3 => k_is)
    (case k3 => k_is)
    (case a4 => k_is)
    (case l4 => k_is)
    (case c4 => k_is)
    (case k4 => k_is)
    (case a5 => k_is)
    (case l5 => k_is)
    (case c5 => k_is)
    (case k5 => k_is)
    (case a6 => k_is)
    (case l6 => k_is)
    (case c6 => k_is)
    (case k6 => k_is)
    (case a7 => k_is)
    (case l7 => k_is)
    (case c7 => k_is)
    (case k7 => k_is)
    (case a8 => k_is)
    (case l8 => k_is)
    (case c8 => k_is)
    (case k8 => k_is)
    (case a9 => k_is)
    (case l9 => k_is)
    (case c9 => k_is)
    (case k9 => k_is)
    (case a10 => k_is)
    (case l10 => k_is)
    (case c10 => k_is)
    (case k10 => k_is)
    (case a11 => k_is)
    (case l11 => k_is)
    (case c11 => k_is)
    (case k11 => k_is)
    (case aS => k_is)
    (case eS => decide +kernel)
    (case i0 => k_is)
    (case i1 => k_is)
    (case i2 => k_is)
    (case i3 => k_is)
    (case z0 => k_is)
    (case z1 => k_is)
    (case z2 => k_is)
