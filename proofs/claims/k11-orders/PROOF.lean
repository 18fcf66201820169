import PyProof.Rows.All
import Wide.All
import OpenK.AllK
import Wide.FinOn
import KE.KStateDown
import KE.SortData
import HandS.ForMost
import HandS.Flow
import HandS.Style
import HandS.Defaults
import HandS.Walk
import HandS.Deep
import HandS.IsInst
import HandS.TupAny
import HandS.TupLe
import HandS.TupSets
import KE.GoesMore
import KE.GoesEnum
import PyProof.P3In
import HandS.HeadHook1
import HandS.HeadHook2
import PySem.Challenge.RW_levellers_k11_whole_orders_of_single_dee
import KE.KDictWalk
import KE.KDictDisplayH
import KE.KEqDict
import KE.OsSortAny
import HandS.Head0
import HandS.Head1
import HandS.Head2
import HandS.HeadEnd
/-! the mirror: what the defs reckon, as plain functions -/
namespace Lv
abbrev Hts := List Int
abbrev Edge := Nat × Nat
abbrev Deed := Bool × Nat
abbrev Sgl := Bool × Nat × Int
/-- lo, lo + 1, .. (n of them) -/
def rgN (lo : Int) (n : Nat) : List Int := (List.range n).map fun i : Nat => lo + (i : Int)
theorem rgN_length (lo : Int) (n : Nat) : (rgN lo n).length = n := by simp [rgN]
theorem rgN_get {lo : Int} {n i : Nat} (h : i < n) : (rgN lo n)[i]? = some (lo + (i : Int)) := by simp [rgN, h]
/-- hi, hi - 1, .. (n of them) -/
def rgD (hi : Int) (n : Nat) : List Int := (List.range n).map fun i : Nat => hi - (i : Int)
theorem rgD_length (lo : Int) (n : Nat) : (rgD lo n).length = n := by simp [rgD]
theorem rgD_get {lo : Int} {n i : Nat} (h : i < n) : (rgD lo n)[i]? = some (lo - (i : Int)) := by simp [rgD, h]
/-- the pairs (number, item) -/
def numd {β : Type} (bs : List β) : List (Nat × β) := (List.range bs.length).zip bs
theorem numd_length {β : Type} (bs : List β) : (numd bs).length = bs.length := by simp [numd]
theorem numd_get {β : Type} {bs : List β} {i : Nat} {b : β} (h : bs[i]? = some b) : (numd bs)[i]? = some (i, b) := by
  obtain ⟨h1, h2⟩ := List.getElem?_eq_some_iff.mp h
  unfold numd
  rw [List.getElem?_eq_getElem (by simp [h1])]
  simp [h2]
theorem numd_inv {β : Type} {bs : List β} {i : Nat} {p : Nat × β} (h : (numd bs)[i]? = some p) : p.1 = i ∧ bs[i]? = some p.2 := by
  obtain ⟨h1, h2⟩ := List.getElem?_eq_some_iff.mp h
  have hl : i < bs.length := by rw [numd_length] at h1; exact h1
  have e := numd_get (bs := bs) (List.getElem?_eq_getElem hl)
  rw [h] at e
  have e' := Option.some.inj e
  rw [e']
  exact ⟨rfl, List.getElem?_eq_getElem hl⟩
/-- the height of a place -/
def ht (h : Hts) (k : Nat) : Int := h.getD k 0
theorem ht_get {h : Hts} {k : Nat} (hk : k < h.length) : h[k]? = some (ht h k) := by
  unfold ht
  rw [List.getElem?_eq_getElem hk, List.getD_eq_getElem?_getD, List.getElem?_eq_getElem hk]
  rfl
/-- the program's neighbours -/
def besIn (E : List Edge) (k : Nat) : List Nat := (E.filter fun e => decide (e.2 = k)).map (·.1) ++ (E.filter fun e => decide (e.1 = k)).map (·.2)
def raiseIn (n : Nat) (E : List Edge) (r : Int) (h : Hts) : List Nat := (List.range n).filter fun p => decide (ht h p < r) && ((besIn E p).filter fun j => decide (ht h j < ht h p)).isEmpty
def lowerIn (n : Nat) (E : List Edge) (h : Hts) : List Nat := (List.range n).filter fun p => decide (0 < ht h p) && ((besIn E p).filter fun j => decide (ht h p < ht h j)).isEmpty
def doableM (n : Nat) (E : List Edge) (r : Int) (h : Hts) : List Deed := (raiseIn n E r h).map (fun p => (true, p)) ++ (lowerIn n E h).map fun p => (false, p)
/-- the heights behind a deed -/
def chg (h : Hts) (d : Deed) : Hts := h.set d.2 (ht h d.2 + if d.1 = true then 1 else -1)
/-- the steep edges that bar -/
def steepM (E : List Edge) (h : Hts) : List Edge := E.filterMap fun e => if ht h e.2 - ht h e.1 ≥ 2 then some e else if ht h e.1 - ht h e.2 ≥ 2 then some (e.2, e.1) else none
/-- other comes from one: no steep edge of other bars -/
def Comes (E : List Edge) (one other : Hts) : Prop := ∀ e ∈ steepM E other, ht one e.1 ≤ ht other e.1 ∧ ht other e.2 ≤ ht one e.2
/-- single deeds -/
def singlesAt (one other : Hts) (k : Nat) : List Sgl := (rgN (ht one k) (ht other k - ht one k).toNat).map (fun v => (true, k, v)) ++ (rgD (ht one k) (ht one k - ht other k).toNat).map fun v => (false, k, v)
def singlesM (one other : Hts) : List Sgl := (List.range one.length).flatMap (singlesAt one other)
def isBef (E : List Edge) (s t : Sgl) : Bool :=
  if s.2.1 = t.2.1 then (s.1 == t.1) && decide (t.2.2 = if s.1 = true then s.2.2 + 1 else s.2.2 - 1)
  else if (besIn E s.2.1).contains t.2.1 = false then false
  else if (s.1 && t.1) = true then decide (t.2.2 = s.2.2 + 1)
  else if (!s.1 && !t.1) = true then decide (t.2.2 = s.2.2 - 1)
  else decide (t.2.2 = s.2.2)
def pairsM (E : List Edge) (some : List Sgl) : List (Sgl × Sgl) := some.flatMap fun f => (some.filter (isBef E f)).map fun g => (f, g)
/-- nearer -/
def nearer (here other : Hts) (d : Deed) : Bool := (d.1 && decide (ht here d.2 < ht other d.2)) || (!d.1 && decide (ht other d.2 < ht here d.2))
/-- the law's neighbours -/
def besL (n : Nat) (E : List Edge) (k : Nat) : List Nat := (List.range n).filter fun j => E.contains (j, k) || E.contains (k, j)
def upL (n : Nat) (E : List Edge) (r : Int) (h : Hts) (k : Nat) : Bool := decide (ht h k < r) && (besL n E k).all fun j => decide (ht h k ≤ ht h j)
def downL (n : Nat) (E : List Edge) (h : Hts) (k : Nat) : Bool := decide (0 < ht h k) && (besL n E k).all fun j => decide (ht h j ≤ ht h k)
def deedsL (n : Nat) (E : List Edge) (r : Int) (h : Hts) : List Deed := ((List.range n).filter (upL n E r h)).map (fun k => (true, k)) ++ ((List.range n).filter (downL n E h)).map fun k => (false, k)
def afterL (n : Nat) (E : List Edge) (r : Int) (h : Hts) : List (Deed × Hts) := (deedsL n E r h).map fun d => (d, chg h d)
def absd (a b : Int) : Int := (if b > a then b else a) - (if b < a then b else a)
def offM (a b : Hts) : Int := ((List.range a.length).map fun k => absd (ht a k) (ht b k)).sum
def ruleL (E : List Edge) (s t : Sgl) : Bool :=
  if s.2.1 = t.2.1 then (s.1 == t.1) && decide (t.2.2 = s.2.2 + if s.1 = true then 1 else 0 - 1)
  else E.contains (if t.2.1 < s.2.1 then t.2.1 else s.2.1, if t.2.1 > s.2.1 then t.2.1 else s.2.1) && decide (t.2.2 = if (s.1 != t.1) = true then s.2.2 else if s.1 = true then s.2.2 + 1 else s.2.2 - 1)
def lawPairs (E : List Edge) (some : List Sgl) : List (Sgl × Sgl) := some.flatMap fun f => (some.filter fun g => decide (f ≠ g) && ruleL E f g).map fun g => (f, g)
/-- the law's words, level by level -/
def nextW (n : Nat) (E : List Edge) (r : Int) (other : Hts) (x : List Deed × Hts) : List (List Deed × Hts) :=
  ((afterL n E r x.2).filter fun y => decide (offM y.2 other < offM x.2 other)).map fun y => (x.1 ++ [y.1], y.2)
def rowsW (n : Nat) (E : List Edge) (r : Int) (one other : Hts) : Nat → List (List Deed × Hts)
  | 0 => [([], one)]
  | t + 1 => (rowsW n E r one other t).flatMap (nextW n E r other)
/-- a word as single deeds -/
def lineStep (x : List Sgl × Hts) (d : Deed) : List Sgl × Hts := (x.1 ++ [(d.1, d.2, ht x.2 d.2)], chg x.2 d)
def lineOf (one : Hts) (w : List Deed) : List Sgl := (w.foldl lineStep ([], one)).1
/-- the law's orders, level by level -/
def freeR (pairs : List (Sgl × Sgl)) (done : List Sgl) (d : Sgl) : Bool := !done.contains d && ((pairs.filter fun p => decide (p.2 = d) && !done.contains p.1)).isEmpty
def nextR (some : List Sgl) (pairs : List (Sgl × Sgl)) (done : List Sgl) : List (List Sgl) := (some.filter (freeR pairs done)).map fun d => done ++ [d]
def rowsR (some : List Sgl) (pairs : List (Sgl × Sgl)) : Nat → List (List Sgl)
  | 0 => [[]]
  | t + 1 => (rowsR some pairs t).flatMap (nextR some pairs)
/-- a web: places 0 .. n-1, edges -/
structure WebOk (n : Nat) (E : List Edge) : Prop where
  few : E.length ≤ 100
  lo : 1 ≤ n
  hi : n ≤ 4
  ed : ∀ e ∈ E, e.1 < e.2 ∧ e.2 < n
  asc : E.Pairwise fun e f => e.1 < f.1 ∨ (e.1 = f.1 ∧ e.2 < f.2)
structure HtOk (n : Nat) (r : Int) (h : Hts) : Prop where
  len : h.length = n
  rng : ∀ x ∈ h, 0 ≤ x ∧ x ≤ r
theorem rgN_inv {lo : Int} {n i : Nat} {x : Int} (h : (rgN lo n)[i]? = some x) : i < n ∧ x = lo + (i : Int) := by
  have hl := (List.getElem?_eq_some_iff.mp h).1
  rw [rgN_length] at hl
  rw [rgN_get hl] at h
  exact ⟨hl, (Option.some.inj h).symm⟩
theorem besIn_lt {n : Nat} {E : List Edge} (ok : WebOk n E) {k j : Nat} (h : j ∈ besIn E k) : j < n := by
  rcases List.mem_append.mp h with h | h
  · obtain ⟨e, he, rfl⟩ := List.mem_map.mp h
    have := ok.ed e (List.mem_filter.mp he).1
    omega
  · obtain ⟨e, he, rfl⟩ := List.mem_map.mp h
    have := ok.ed e (List.mem_filter.mp he).1
    omega
theorem besIn_few {n : Nat} {E : List Edge} (ok : WebOk n E) (k : Nat) : (besIn E k).length ≤ 200 := by
  have h := ok.few
  have h1 := List.length_filter_le (fun e : Edge => decide (e.2 = k)) E
  have h2 := List.length_filter_le (fun e : Edge => decide (e.1 = k)) E
  unfold besIn
  rw [List.length_append, List.length_map, List.length_map]
  omega
/-- the box between -/
def boxF (one other : Hts) (a : Int) (k : Nat) : Int := a * ((if ht one k - ht other k < 0 then -(ht one k - ht other k) else ht one k - ht other k) + 1)
def boxM (one other : Hts) : Int := (List.range one.length).foldl (boxF one other) 1
theorem flatMap_le {α β : Type} (f : α → List β) (c : Nat) : ∀ l : List α, (∀ x ∈ l, (f x).length ≤ c) → (l.flatMap f).length ≤ c * l.length
  | [], _ => by simp
  | x :: l, h => by
    have h1 := h x (List.mem_cons_self ..)
    have h2 := flatMap_le f c l fun y hy => h y (List.mem_cons_of_mem _ hy)
    rw [List.flatMap_cons, List.length_append, List.length_cons, Nat.mul_succ]
    omega
theorem HtOk.at {n : Nat} {r : Int} {h : Hts} (ok : HtOk n r h) {k : Nat} (hk : k < n) : 0 ≤ ht h k ∧ ht h k ≤ r :=
  ok.rng _ (List.mem_of_getElem? (ht_get (by rw [ok.len]; exact hk)))
theorem singlesAt_le {n : Nat} {r : Int} {one other : Hts} (o1 : HtOk n r one) (o2 : HtOk n r other) (hr : r ≤ 9) {k : Nat} (hk : k < n) : (singlesAt one other k).length ≤ 9 := by
  have a := o1.at hk
  have b := o2.at hk
  unfold singlesAt
  rw [List.length_append, List.length_map, List.length_map, rgN_length, rgD_length]
  omega
theorem singlesM_le {n : Nat} {r : Int} {one other : Hts} (o1 : HtOk n r one) (o2 : HtOk n r other) (hr : r ≤ 9) (i : Nat) (hi : i ≤ n) : ((List.range i).flatMap (singlesAt one other)).length ≤ 9 * i := by
  have h := flatMap_le (singlesAt one other) 9 (List.range i) fun k hk => singlesAt_le o1 o2 hr (Nat.lt_of_lt_of_le (List.mem_range.mp hk) hi)
  rw [List.length_range] at h
  exact h
theorem pairsM_le (E : List Edge) (some l : List Sgl) : (l.flatMap fun f => (some.filter (isBef E f)).map fun g => (f, g)).length ≤ some.length * l.length :=
  flatMap_le _ _ _ fun f _ => by
    rw [List.length_map]
    exact List.length_filter_le _ _
/-! ### tables of heights with numbers -/
abbrev AL := List (Hts × Int)
def lookA (al : AL) (h : Hts) : Int := ((al.find? fun p => decide (p.1 = h)).map (·.2)).getD 0
def putA (al : AL) (h : Hts) (v : Int) : AL := if (al.any fun p => decide (p.1 = h)) = true then al.map (fun p => if p.1 = h then (p.1, v) else p) else al ++ [(h, v)]
def addA (al : AL) (h : Hts) (v : Int) : AL := putA al h (lookA al h + v)
/-- what follows one entry -/
def stepH (nx : Hts → List Deed) (more : AL) (p : Hts × Int) : AL := (nx p.1).foldl (fun m d => addA m (chg p.1 d) p.2) more
def stepA (nx : Hts → List Deed) (rows : AL) : AL := rows.foldl (stepH nx) []
def mergeA (found more : AL) : AL := more.foldl (fun f p => putA f p.1 p.2) found
/-- the level's table, the table of all so far -/
def lvA (nx : Hts → List Deed) (one : Hts) : Nat → AL × AL
  | 0 => ([(one, 1)], [(one, 1)])
  | t + 1 => (stepA nx (lvA nx one t).1, mergeA (lvA nx one t).2 (stepA nx (lvA nx one t).1))
def NdA (al : AL) : Prop := (al.map (·.1)).Nodup
theorem putA_len (al : AL) (h : Hts) (v : Int) : (putA al h v).length ≤ al.length + 1 := by
  unfold putA
  split
  · rw [List.length_map]; omega
  · rw [List.length_append]; exact Nat.le_refl _
theorem putA_keys (al : AL) (h : Hts) (v : Int) : (putA al h v).map (·.1) = if h ∈ al.map (·.1) then al.map (·.1) else al.map (·.1) ++ [h] := by
  unfold putA
  by_cases e : (al.any fun p => decide (p.1 = h)) = true
  · rw [if_pos e]
    obtain ⟨p, hp, ep⟩ := List.any_eq_true.mp e
    have ep' : p.1 = h := of_decide_eq_true ep
    rw [if_pos (List.mem_map.mpr ⟨p, hp, ep'⟩), List.map_map]
    apply List.map_congr_left
    intro q _
    show (if q.1 = h then (q.1, v) else q).1 = q.1
    split <;> rfl
  · rw [if_neg e, if_neg, List.map_append]
    · rfl
    · intro m
      obtain ⟨p, hp, ep⟩ := List.mem_map.mp m
      exact e (List.any_eq_true.mpr ⟨p, hp, decide_eq_true ep⟩)
theorem nodup_snoc {α : Type} {l : List α} {x : α} (h : l.Nodup) (hx : x ∉ l) : (l ++ [x]).Nodup := by
  rw [List.nodup_append]
  exact ⟨h, by simp, fun a ha b hb e => hx (by rw [List.mem_singleton.mp hb] at e; rw [← e]; exact ha)⟩
theorem putA_nd {al : AL} (hn : NdA al) (h : Hts) (v : Int) : NdA (putA al h v) := by
  unfold NdA
  rw [putA_keys]
  split
  · exact hn
  · rename_i hm
    exact nodup_snoc hn hm
theorem putA_mem {al : AL} {h : Hts} {v : Int} {q : Hts} (hq : q ∈ (putA al h v).map (·.1)) : q ∈ al.map (·.1) ∨ q = h := by
  rw [putA_keys] at hq
  split at hq
  · exact .inl hq
  · rcases List.mem_append.mp hq with z | z
    · exact .inl z
    · exact .inr (List.mem_singleton.mp z)
theorem stepH_nd {nx : Hts → List Deed} {p : Hts × Int} {more : AL} (hn : NdA more) : NdA (stepH nx more p) := by
  unfold stepH
  generalize nx p.1 = l
  induction l generalizing more with
  | nil => exact hn
  | cons d l ih => exact ih (putA_nd hn _ _)
theorem stepH_mem {nx : Hts → List Deed} {p : Hts × Int} {more : AL} {q : Hts} (hq : q ∈ (stepH nx more p).map (·.1)) : q ∈ more.map (·.1) ∨ ∃ d ∈ nx p.1, q = chg p.1 d := by
  unfold stepH at hq
  generalize nx p.1 = l at hq
  induction l generalizing more with
  | nil => exact .inl hq
  | cons d l ih =>
    rcases ih hq with z | ⟨d', h1, h2⟩
    · rcases putA_mem z with z | z
      · exact .inl z
      · exact .inr ⟨d, List.mem_cons_self .., z⟩
    · exact .inr ⟨d', List.mem_cons_of_mem _ h1, h2⟩
theorem foldl_nd {nx : Hts → List Deed} : ∀ {rows more : AL}, NdA more → NdA (rows.foldl (stepH nx) more)
  | [], _, h => h
  | p :: r, more, h => foldl_nd (rows := r) (stepH_nd h)
theorem foldl_mem {nx : Hts → List Deed} : ∀ {rows more : AL} {q : Hts}, q ∈ (rows.foldl (stepH nx) more).map (·.1) → q ∈ more.map (·.1) ∨ ∃ p ∈ rows, ∃ d ∈ nx p.1, q = chg p.1 d
  | [], _, _, h => .inl h
  | p :: r, more, q, h => by
    rcases foldl_mem (rows := r) h with z | ⟨p', h1, h2⟩
    · rcases stepH_mem z with z | z
      · exact .inl z
      · exact .inr ⟨p, List.mem_cons_self .., z⟩
    · exact .inr ⟨p', List.mem_cons_of_mem _ h1, h2⟩
theorem stepA_nd {nx : Hts → List Deed} {rows : AL} : NdA (stepA nx rows) := foldl_nd (by unfold NdA; exact List.nodup_nil)
theorem stepA_mem {nx : Hts → List Deed} {rows : AL} {q : Hts} (h : q ∈ (stepA nx rows).map (·.1)) : ∃ p ∈ rows, ∃ d ∈ nx p.1, q = chg p.1 d := by
  rcases foldl_mem h with z | z
  · cases z
  · exact z
theorem lvA_nd (nx : Hts → List Deed) (one : Hts) : ∀ t, NdA (lvA nx one t).1
  | 0 => by unfold NdA; simp [lvA]
  | t + 1 => stepA_nd
theorem chg_length (h : Hts) (d : Deed) : (chg h d).length = h.length := by unfold chg; rw [List.length_set]
theorem lvA_length (nx : Hts → List Deed) (one : Hts) : ∀ t, ∀ q ∈ (lvA nx one t).1.map (·.1), q.length = one.length
  | 0, q, h => by rw [List.mem_singleton.mp h]
  | t + 1, q, h => by
    obtain ⟨p, hp, d, hd, e⟩ := stepA_mem h
    rw [e, chg_length]
    exact lvA_length nx one t p.1 (List.mem_map.mpr ⟨p, hp, rfl⟩)
theorem stepH_len {nx : Hts → List Deed} {p : Hts × Int} {more : AL} : (stepH nx more p).length ≤ more.length + (nx p.1).length := by
  unfold stepH
  generalize nx p.1 = l
  induction l generalizing more with
  | nil => exact Nat.le_refl _
  | cons d l ih =>
    have h1 := ih (more := addA more (chg p.1 d) p.2)
    have h2 := putA_len more (chg p.1 d) (lookA more (chg p.1 d) + p.2)
    have h3 : (addA more (chg p.1 d) p.2).length ≤ more.length + 1 := h2
    rw [List.foldl_cons, List.length_cons]
    omega
theorem foldl_len {nx : Hts → List Deed} {c : Nat} (hc : ∀ h, (nx h).length ≤ c) : ∀ (rows more : AL), (rows.foldl (stepH nx) more).length ≤ more.length + c * rows.length
  | [], _ => by simp
  | p :: r, more => by
    have h1 := foldl_len hc r (stepH nx more p)
    have h2 := stepH_len (nx := nx) (p := p) (more := more)
    have h3 := hc p.1
    rw [List.foldl_cons, List.length_cons, Nat.mul_succ]
    omega
theorem mergeA_len : ∀ (more found : AL), (mergeA found more).length ≤ found.length + more.length
  | [], _ => Nat.le_refl _
  | p :: r, found => by
    have h1 := mergeA_len r (putA found p.1 p.2)
    have h2 := putA_len found p.1 p.2
    show (mergeA (putA found p.1 p.2) r).length ≤ _
    rw [List.length_cons]
    omega
theorem lvA_len {nx : Hts → List Deed} {one : Hts} {c : Nat} (hc : ∀ h, (nx h).length ≤ c) : ∀ t, (lvA nx one t).1.length ≤ c ^ t
  | 0 => Nat.le_refl _
  | t + 1 => by
    have h1 := lvA_len (one := one) hc t
    have h2 := foldl_len hc (lvA nx one t).1 []
    have h3 : (lvA nx one (t + 1)).1.length ≤ c * (lvA nx one t).1.length := by
      have e : (lvA nx one (t + 1)).1 = (lvA nx one t).1.foldl (stepH nx) [] := rfl
      rw [e]
      simpa using h2
    rw [Nat.pow_succ, Nat.mul_comm]
    exact Nat.le_trans h3 (Nat.mul_le_mul_left _ h1)
theorem lvA_len2 {nx : Hts → List Deed} {one : Hts} {b : Nat} : ∀ t, (∀ i, i ≤ t → (lvA nx one i).1.length ≤ b) → (lvA nx one t).2.length ≤ 1 + t * b
  | 0, _ => by simp [lvA]
  | t + 1, h => by
    have h1 := lvA_len2 t fun i hi => h i (by omega)
    have h2 := mergeA_len (lvA nx one (t + 1)).1 (lvA nx one t).2
    have h3 := h (t + 1) (Nat.le_refl _)
    have e : (lvA nx one (t + 1)).2 = mergeA (lvA nx one t).2 (lvA nx one (t + 1)).1 := rfl
    rw [e, Nat.succ_mul]
    omega
end Lv

set_option Elab.async false
set_option linter.all false
set_option maxRecDepth 100000
set_option maxHeartbeats 4000000
/-! data over the layer: what an expression evaluates to, as data -/
namespace Lv
open PySem PySem.Spec PyProof.Rows L2

mutual
/-- v is the datum d (no lists in it), by the tuples that H tracks -/
inductive Tp (H : Hp) : V → PyData → Prop
  | non : Tp H .non .none
  | bl (b : Bool) : Tp H (.bl b) (.bool b)
  | int (i : Int) : Tp H (.int i) (.int i)
  | tup {a : Addr} {xs : List V} {ds : List PyData} : H a = some (.tup xs) → TpA H xs ds → Tp H (.ref a) (.tuple ds)
inductive TpA (H : Hp) : List V → List PyData → Prop
  | nil : TpA H [] []
  | cons {v : V} {vs : List V} {d : PyData} {ds : List PyData} : Tp H v d → TpA H vs ds → TpA H (v :: vs) (d :: ds)
end
/-- tuples are kept -/
def KT (H H' : Hp) : Prop := ∀ a xs, H a = some (.tup xs) → H' a = some (.tup xs)
theorem KT.refl (H : Hp) : KT H H := fun _ _ h => h
theorem KT.trans {H H1 H2 : Hp} (a : KT H H1) (b : KT H1 H2) : KT H H2 := fun x o h => b x o (a x o h)
theorem _root_.L2.Same.kt {H H' : Hp} (e : Same H H') : KT H H' := fun a xs h => e a _ h
mutual
theorem Tp.kt {H H' : Hp} (k : KT H H') : ∀ {v : V} {d : PyData}, Tp H v d → Tp H' v d
  | _, _, .non => .non
  | _, _, .bl b => .bl b
  | _, _, .int i => .int i
  | _, _, .tup h t => .tup (k _ _ h) (TpA.kt k t)
theorem TpA.kt {H H' : Hp} (k : KT H H') : ∀ {vs : List V} {ds : List PyData}, TpA H vs ds → TpA H' vs ds
  | _, _, .nil => .nil
  | _, _, .cons h t => .cons (Tp.kt k h) (TpA.kt k t)
end
theorem Tp.mono {H H' : Hp} {v : V} {d : PyData} (h : Tp H v d) (e : Same H H') : Tp H' v d := h.kt e.kt
theorem TpA.mono {H H' : Hp} {v : List V} {d : List PyData} (h : TpA H v d) (e : Same H H') : TpA H' v d := h.kt e.kt
theorem TpA.length {H : Hp} : ∀ {vs : List V} {ds : List PyData}, TpA H vs ds → vs.length = ds.length
  | _, _, .nil => rfl
  | _, _, .cons _ t => congrArg (· + 1) (TpA.length t)
theorem TpA.app {H : Hp} : ∀ {vs ws : List V} {ds es : List PyData}, TpA H vs ds → TpA H ws es → TpA H (vs ++ ws) (ds ++ es)
  | _, _, _, _, .nil, s => s
  | _, _, _, _, .cons h t, s => .cons h (TpA.app t s)
theorem TpA.get {H : Hp} : ∀ {vs : List V} {ds : List PyData} {i : Nat} {d : PyData}, TpA H vs ds → ds[i]? = some d → ∃ v, vs[i]? = some v ∧ Tp H v d
  | _, _, _, _, .nil, e => by simp at e
  | _, _, 0, d, .cons h t, e => by
    have e' := Option.some.inj (show some _ = some d from e)
    subst e'
    exact ⟨_, rfl, h⟩
  | _, _, i + 1, d, .cons h t, e => by
    obtain ⟨v, h1, h2⟩ := TpA.get (i := i) t (by simpa using e)
    exact ⟨v, by simpa using h1, h2⟩
theorem TpA.getV {H : Hp} : ∀ {vs : List V} {ds : List PyData} {i : Nat} {v : V}, TpA H vs ds → vs[i]? = some v → ∃ d, ds[i]? = some d ∧ Tp H v d
  | _, _, _, _, .nil, e => by simp at e
  | _, _, 0, v, .cons h t, e => by
    have e' := Option.some.inj (show some _ = some v from e)
    subst e'
    exact ⟨_, rfl, h⟩
  | _, _, i + 1, v, .cons h t, e => by
    obtain ⟨d, h1, h2⟩ := TpA.getV (i := i) t (by simpa using e)
    exact ⟨d, by simpa using h1, h2⟩
theorem TpA.take {H : Hp} : ∀ (n : Nat) {vs : List V} {ds : List PyData}, TpA H vs ds → TpA H (vs.take n) (ds.take n)
  | 0, _, _, _ => .nil
  | _ + 1, _, _, .nil => .nil
  | n + 1, _, _, .cons h t => .cons h (TpA.take n t)
theorem TpA.drop {H : Hp} : ∀ (n : Nat) {vs : List V} {ds : List PyData}, TpA H vs ds → TpA H (vs.drop n) (ds.drop n)
  | 0, _, _, h => h
  | _ + 1, _, _, .nil => .nil
  | n + 1, _, _, .cons _ t => TpA.drop n t
theorem TpA.set {H : Hp} : ∀ (n : Nat) {vs : List V} {ds : List PyData} {v : V} {d : PyData}, TpA H vs ds → Tp H v d → TpA H (vs.set n v) (ds.set n d)
  | _, _, _, _, _, .nil, _ => .nil
  | 0, _, _, _, _, .cons _ t, s => .cons s t
  | n + 1, _, _, _, _, .cons h t, s => .cons h (TpA.set n t s)
theorem Tp.int_inv {H : Hp} {v : V} {i : Int} (h : Tp H v (.int i)) : v = .int i := by cases h; rfl
theorem Tp.bl_inv {H : Hp} {v : V} {b : Bool} (h : Tp H v (.bool b)) : v = .bl b := by cases h; rfl
theorem Tp.tup_inv {H : Hp} {v : V} {ds : List PyData} (h : Tp H v (.tuple ds)) : ∃ a xs, v = .ref a ∧ H a = some (.tup xs) ∧ TpA H xs ds := by
  cases h with
  | tup a b => exact ⟨_, _, rfl, a, b⟩
theorem TpA.ints {H : Hp} : ∀ {vs : List V} {ns : List Int}, TpA H vs (ns.map .int) → vs = ns.map .int
  | _, [], h => by
    have h : TpA H _ [] := h
    cases h
    rfl
  | _, n :: ns, h => by
    have h : TpA H _ (.int n :: ns.map .int) := h
    cases h with
    | cons a b =>
      cases a
      rw [TpA.ints b]
      rfl
theorem TpA.of_ints {H : Hp} : ∀ ns : List Int, TpA H (ns.map .int) (ns.map .int)
  | [] => .nil
  | n :: ns => .cons (.int n) (TpA.of_ints ns)
theorem tpa1 {H : Hp} {vs : List V} {d : PyData} (h : TpA H vs [d]) : ∃ v, vs = [v] ∧ Tp H v d := by
  cases h with
  | cons a t => cases t; exact ⟨_, rfl, a⟩
theorem tpa2 {H : Hp} {vs : List V} {d e : PyData} (h : TpA H vs [d, e]) : ∃ v w, vs = [v, w] ∧ Tp H v d ∧ Tp H w e := by
  cases h with
  | cons a t => obtain ⟨w, rfl, b⟩ := tpa1 t; exact ⟨_, _, rfl, a, b⟩
theorem tpa3 {H : Hp} {vs : List V} {d e f : PyData} (h : TpA H vs [d, e, f]) : ∃ v w x, vs = [v, w, x] ∧ Tp H v d ∧ Tp H w e ∧ Tp H x f := by
  cases h with
  | cons a t => obtain ⟨w, x, rfl, b, c⟩ := tpa2 t; exact ⟨_, _, _, rfl, a, b, c⟩
theorem tpa4 {H : Hp} {vs : List V} {d e f g : PyData} (h : TpA H vs [d, e, f, g]) : ∃ v w x y, vs = [v, w, x, y] ∧ Tp H v d ∧ Tp H w e ∧ Tp H x f ∧ Tp H y g := by
  cases h with
  | cons a t => obtain ⟨w, x, y, rfl, b, c, z⟩ := tpa3 t; exact ⟨_, _, _, _, rfl, a, b, c, z⟩
mutual
theorem Tp.dp {K : PySem.W.Frag} {H : Hp} : ∀ {v : V} {d : PyData}, Tp H v d → Dp K H v d
  | _, _, .non => .non
  | _, _, .bl b => .bl b
  | _, _, .int i => .int i
  | _, _, .tup h t => .tup (.inl (.inl h)) (TpA.dp t)
theorem TpA.dp {K : PySem.W.Frag} {H : Hp} : ∀ {vs : List V} {ds : List PyData}, TpA H vs ds → DpAll K H vs ds
  | _, _, .nil => .nil
  | _, _, .cons h t => .cons (Tp.dp h) (TpA.dp t)
end
theorem same_new {H : Hp} {p : Addr} (h : H p = none) (o : HO) : Same H (upd H p o) := fun b u q => by rw [upd_ne (ne_of_none q h)]; exact q
theorem same_mut {H H' : Hp} {p : Addr} {o : HO} (e : Same H H') (h : H p = none) : Same H (upd H' p o) := fun a u ha => by
  rw [upd_ne (ne_of_none ha h)]
  exact e a u ha

/-! ### what evaluates to what -/
/-- a datum -/
def ED (te : TE) (σ : L2.St) (H : Hp) (d : PyData) : Prop := ∀ H1, Same H H1 → ∀ Q : VK, (∀ v H2, Same H1 H2 → Tp H2 v d → Q v H2) → te σ H1 Q
/-- this very value -/
def EV (te : TE) (σ : L2.St) (H : Hp) (v : V) : Prop := ∀ H1, Same H H1 → ∀ Q : VK, (∀ H2, Same H1 H2 → Q v H2) → te σ H1 Q
/-- a new list of data -/
def EL (te : TE) (σ : L2.St) (H : Hp) (ds : List PyData) : Prop := ∀ H1, Same H H1 → ∀ Q : VK, (∀ p xs H2, H1 p = none → Same H1 H2 → H2 p = some (.lst xs) → TpA H2 xs ds → Q (.ref p) H2) → te σ H1 Q
/-- a test -/
def EB (tt : TT) (σ : L2.St) (H : Hp) (b : Bool) : Prop := ∀ H1, Same H H1 → ∀ Q : Bool → Hp → Prop, (∀ H2, Same H1 H2 → Q b H2) → tt σ H1 Q
/-- arguments that are data -/
def EA (ta : TA) (σ : L2.St) (H : Hp) (ds : List PyData) : Prop := ∀ H1, Same H H1 → ∀ Q : List V → Hp → Prop, (∀ vs H2, Same H1 H2 → TpA H2 vs ds → Q vs H2) → ta σ H1 Q

section
variable {K : PySem.W.Frag} {σ : L2.St} {H H' : Hp} {ta tb te tx : TE} {t u : TT} {x y z v : V} {d e : PyData} {ds es : List PyData}
theorem ED.mono (s : Same H H') (h : ED te σ H d) : ED te σ H' d := fun H1 a Q q => h H1 (s.trans a) Q q
theorem EV.mono (s : Same H H') (h : EV te σ H v) : EV te σ H' v := fun H1 a Q q => h H1 (s.trans a) Q q
theorem EB.mono {b : Bool} (s : Same H H') (h : EB t σ H b) : EB t σ H' b := fun H1 a Q q => h H1 (s.trans a) Q q
theorem EL.mono (s : Same H H') (h : EL te σ H ds) : EL te σ H' ds := fun H1 a Q q => h H1 (s.trans a) Q q
theorem EA.mono {ta : TA} (s : Same H H') (h : EA ta σ H ds) : EA ta σ H' ds := fun H1 a Q q => h H1 (s.trans a) Q q
theorem ed_is (h : ED te σ H d) (q : d = e) : ED te σ H e := q ▸ h
theorem el_is (h : EL te σ H ds) (q : ds = es) : EL te σ H es := q ▸ h
theorem eb_is {b c : Bool} (h : EB t σ H b) (q : b = c) : EB t σ H c := q ▸ h
theorem ev_var {i : Nat} (h : σ[i]? = some (some v)) : EV (tVar i) σ H v := fun H1 _ _ q => ⟨v, h, q H1 (Same.refl H1)⟩
theorem ed_var {i : Nat} (h : σ[i]? = some (some v)) (a : Tp H v d) : ED (tVar i) σ H d := fun H1 s _ q => ⟨v, h, q v H1 (Same.refl H1) (a.mono s)⟩
theorem ed_ev (h : EV te σ H v) (a : Tp H v d) : ED te σ H d := fun H1 s Q q => h H1 s Q fun H2 s2 => q v H2 s2 (a.mono (s.trans s2))
theorem ev_c : EV (tC v) σ H v := fun H1 _ _ q => q H1 (Same.refl H1)
theorem ed_int {n : Int} : ED (tC (.int n)) σ H (.int n) := fun H1 _ _ q => q _ H1 (Same.refl H1) (.int n)
theorem ed_bl {b : Bool} : ED (tC (.bl b)) σ H (.bool b) := fun H1 _ _ q => q _ H1 (Same.refl H1) (.bl b)
theorem ed_non : ED (tC .non) σ H .none := fun H1 _ _ q => q _ H1 (Same.refl H1) .non
theorem ev_int {n : Int} (h : ED te σ H (.int n)) : EV te σ H (.int n) := fun H1 s Q q => h H1 s Q fun v H2 s2 hv => by
  cases hv
  exact q H2 s2
theorem ev_bl {b : Bool} (h : ED te σ H (.bool b)) : EV te σ H (.bl b) := fun H1 s Q q => h H1 s Q fun v H2 s2 hv => by
  cases hv
  exact q H2 s2
/-- operations on values -/
theorem ed_op {r : R2} (ha : EV ta σ H x) (hb : EV tb σ H y) (hr : ∀ H1, Same H H1 → ∀ Q : VK, (∀ v H2, Same H1 H2 → Tp H2 v d → Q v H2) → r x y H1 Q) : ED (tOp r ta tb) σ H d := fun H1 s Q q =>
  ha H1 s _ fun H2 s2 => hb H2 (s.trans s2) _ fun H3 s3 => hr H3 ((s.trans s2).trans s3) Q fun v H4 s4 => q v H4 ((s2.trans s3).trans s4)
/-- operations on data -/
theorem ed_opD {r : R2} {d1 d2 : PyData} (ha : ED ta σ H d1) (hb : ED tb σ H d2) (hr : ∀ x y H1, Same H H1 → Tp H1 x d1 → Tp H1 y d2 → ∀ Q : VK, (∀ v H2, Same H1 H2 → Tp H2 v d → Q v H2) → r x y H1 Q) : ED (tOp r ta tb) σ H d := fun H1 s Q q =>
  ha H1 s _ fun x H2 s2 tx => hb H2 (s.trans s2) _ fun y H3 s3 ty => hr x y H3 ((s.trans s2).trans s3) (tx.mono s3) ty Q fun v H4 s4 => q v H4 ((s2.trans s3).trans s4)
theorem ed_i0 {g : Int → Int → V} {i j : Int} (ha : ED ta σ H (.int i)) (hb : ED tb σ H (.int j)) (hg : ∀ H, Tp H (g i j) d) : ED (tOp (rI0 g) ta tb) σ H d :=
  ed_op (ev_int ha) (ev_int hb) fun H1 _ Q q => ⟨i, j, rfl, rfl, q _ H1 (Same.refl H1) (hg _)⟩
theorem ed_iC {C : Int → Int → Prop} {g : Int → Int → V} {i j : Int} (ha : ED ta σ H (.int i)) (hb : ED tb σ H (.int j)) (hc : C i j) (hg : ∀ H, Tp H (g i j) d) : ED (tOp (rI C g) ta tb) σ H d :=
  ed_op (ev_int ha) (ev_int hb) fun H1 _ Q q => ⟨i, j, rfl, rfl, hc, q _ H1 (Same.refl H1) (hg _)⟩
theorem ed_eqI {i j : Int} (ha : ED ta σ H (.int i)) (hb : ED tb σ H (.int j)) : ED (tOp rEq ta tb) σ H (.bool (decide (i = j))) :=
  ed_op (ev_int ha) (ev_int hb) fun H1 _ Q q => ⟨rfl, q _ H1 (Same.refl H1) (by
    have e : decide (V.int i = V.int j) = decide (i = j) := by
      by_cases h : i = j
      · subst h; simp
      · have h2 : ¬ V.int i = V.int j := fun q => h (V.int.inj q)
        rw [decide_eq_false h, decide_eq_false h2]
    rw [e]
    exact .bl _)⟩
theorem ed_neI {i j : Int} (ha : ED ta σ H (.int i)) (hb : ED tb σ H (.int j)) : ED (tOp rNe ta tb) σ H (.bool (!decide (i = j))) :=
  ed_op (ev_int ha) (ev_int hb) fun H1 _ Q q => ⟨rfl, q _ H1 (Same.refl H1) (by
    have e : decide (V.int i = V.int j) = decide (i = j) := by
      by_cases h : i = j
      · subst h; simp
      · have h2 : ¬ V.int i = V.int j := fun q => h (V.int.inj q)
        rw [decide_eq_false h, decide_eq_false h2]
    rw [e]
    exact .bl _)⟩
theorem ed_eqB {i j : Bool} (ha : ED ta σ H (.bool i)) (hb : ED tb σ H (.bool j)) : ED (tOp rEq ta tb) σ H (.bool (i == j)) :=
  ed_op (ev_bl ha) (ev_bl hb) fun H1 _ Q q => ⟨by cases i <;> cases j <;> rfl, q _ H1 (Same.refl H1) (by
    have e : decide (V.bl i = V.bl j) = (i == j) := by cases i <;> cases j <;> rfl
    rw [e]
    exact .bl _)⟩
theorem ed_neB {i j : Bool} (ha : ED ta σ H (.bool i)) (hb : ED tb σ H (.bool j)) : ED (tOp rNe ta tb) σ H (.bool (i != j)) :=
  ed_op (ev_bl ha) (ev_bl hb) fun H1 _ Q q => ⟨by cases i <;> cases j <;> rfl, q _ H1 (Same.refl H1) (by
    have e : (!decide (V.bl i = V.bl j)) = (i != j) := by cases i <;> cases j <;> rfl
    rw [e]
    exact .bl _)⟩
/-- deep == and != -/
theorem ed_eqD (ha : ED ta σ H d) (hb : ED tb σ H e) (hd : SeqAt.shaped d = true) (he : SeqAt.shaped e = true) : ED (tOp (rEqD K) ta tb) σ H (.bool (PyData.eqv d e)) :=
  ed_opD ha hb fun x y H1 _ hx hy Q q => ⟨d, e, hx.dp, hy.dp, hd, he, q _ H1 (Same.refl H1) (.bl _)⟩
theorem ed_neD (ha : ED ta σ H d) (hb : ED tb σ H e) (hd : SeqAt.shaped d = true) (he : SeqAt.shaped e = true) : ED (tOp (rNeD K) ta tb) σ H (.bool (!PyData.eqv d e)) :=
  ed_opD ha hb fun x y H1 _ hx hy Q q => ⟨d, e, hx.dp, hy.dp, hd, he, q _ H1 (Same.refl H1) (.bl _)⟩
/-- t[i] -/
theorem TpA.at {i : Int} {xs : List V} (h : TpA H xs ds) (e : atI ds i = some d) : ∃ v, atI xs i = some v ∧ Tp H v d := by
  unfold atI at e
  cases q : ixN ds.length i with
  | none => rw [q] at e; cases e
  | some j =>
    rw [q] at e
    obtain ⟨v, h1, h2⟩ := h.get (show ds[j]? = some d from e)
    refine ⟨v, ?_, h2⟩
    unfold atI
    rw [h.length, q]
    exact h1
theorem ed_ixT {i : Int} (ha : ED ta σ H (.tuple ds)) (hb : ED tb σ H (.int i)) (hi : atI ds i = some d) : ED (tOp (rIxT K) ta tb) σ H d :=
  ed_opD ha hb fun x y H1 _ hx hy Q q => by
    obtain ⟨a, xs, rfl, h1, h2⟩ := hx.tup_inv
    cases hy
    obtain ⟨v, e1, e2⟩ := h2.at hi
    exact ⟨a, xs, i, v, rfl, rfl, .inl (.inl h1), e1, q v H1 (Same.refl H1) e2⟩
theorem ed_ixL {i : Int} {p : Addr} {xs : List V} (ha : EV ta σ H (.ref p)) (hb : ED tb σ H (.int i)) (hp : H p = some (.lst xs)) (hx : TpA H xs ds) (hi : atI ds i = some d) : ED (tOp (rIxL K) ta tb) σ H d :=
  ed_op ha (ev_int hb) fun H1 s Q q => by
    obtain ⟨v, e1, e2⟩ := hx.at hi
    exact ⟨p, xs, i, v, rfl, rfl, .inl (.inl (s _ _ hp)), e1, q v H1 (Same.refl H1) (e2.mono s)⟩
/-- tests -/
theorem eb_test {b : Bool} (h : ED te σ H (.bool b)) : EB (tTest te) σ H b := fun H1 s Q q => h H1 s _ fun v H2 s2 hv => by
  cases hv
  exact ⟨b, rfl, q H2 s2⟩
theorem eb_B {b : Bool} (h : ED te σ H (.bool b)) : EB (tB te) σ H b := fun H1 s Q q => h H1 s _ fun v H2 s2 hv => by
  cases hv
  exact ⟨b, rfl, q H2 s2⟩
theorem eb_and {a b : Bool} (h1 : EB t σ H a) (h2 : a = true → EB u σ H b) : EB (tAnd t u) σ H (a && b) := fun H1 s Q q => h1 H1 s _ fun H2 s2 => by
  cases a with
  | true =>
    show u σ H2 Q
    exact h2 rfl H2 (s.trans s2) Q fun H3 s3 => q H3 (s2.trans s3)
  | false =>
    show Q false H2
    exact q H2 s2
theorem eb_or {a b : Bool} (h1 : EB t σ H a) (h2 : a = false → EB u σ H b) : EB (tOr t u) σ H (a || b) := fun H1 s Q q => h1 H1 s _ fun H2 s2 => by
  cases a with
  | true =>
    show Q true H2
    exact q H2 s2
  | false =>
    show u σ H2 Q
    exact h2 rfl H2 (s.trans s2) Q fun H3 s3 => q H3 (s2.trans s3)
theorem eb_not {a : Bool} (h1 : EB t σ H a) : EB (tNot t) σ H (!a) := fun H1 s _ q => h1 H1 s _ fun H2 s2 => q H2 s2
theorem eb_yes : EB tYes σ H true := fun H1 _ _ q => q H1 (Same.refl H1)
theorem ed_and {a b : Bool} (h1 : ED ta σ H (.bool a)) (h2 : a = true → ED tb σ H (.bool b)) : ED (tAndV ta tb) σ H (.bool (a && b)) := fun H1 s Q q => h1 H1 s _ fun v H2 s2 hv => by
  cases hv
  refine ⟨a, rfl, ?_⟩
  cases a with
  | true =>
    show tb σ H2 Q
    exact h2 rfl H2 (s.trans s2) Q fun v H3 s3 => q v H3 (s2.trans s3)
  | false =>
    show Q (.bl false) H2
    exact q _ H2 s2 (.bl _)
theorem ed_or {a b : Bool} (h1 : ED ta σ H (.bool a)) (h2 : a = false → ED tb σ H (.bool b)) : ED (tOrV ta tb) σ H (.bool (a || b)) := fun H1 s Q q => h1 H1 s _ fun v H2 s2 hv => by
  cases hv
  refine ⟨a, rfl, ?_⟩
  cases a with
  | true =>
    show Q (.bl true) H2
    exact q _ H2 s2 (.bl _)
  | false =>
    show tb σ H2 Q
    exact h2 rfl H2 (s.trans s2) Q fun v H3 s3 => q v H3 (s2.trans s3)
theorem ed_not {a : Bool} (h1 : ED ta σ H (.bool a)) : ED (tNotV ta) σ H (.bool (!a)) := fun H1 s Q q => h1 H1 s _ fun v H2 s2 hv => by
  cases hv
  exact ⟨a, rfl, q _ H2 s2 (.bl _)⟩
theorem ed_if {b : Bool} (h : EB t σ H b) (h1 : b = true → ED ta σ H d) (h2 : b = false → ED tb σ H d) : ED (tIf t ta tb) σ H d := fun H1 s Q q => h H1 s _ fun H2 s2 => by
  cases b with
  | true =>
    show ta σ H2 Q
    exact h1 rfl H2 (s.trans s2) Q fun v H3 s3 => q v H3 (s2.trans s3)
  | false =>
    show tb σ H2 Q
    exact h2 rfl H2 (s.trans s2) Q fun v H3 s3 => q v H3 (s2.trans s3)
theorem el_if {b : Bool} (h : EB t σ H b) (h1 : b = true → EL ta σ H ds) (h2 : b = false → EL tb σ H ds) : EL (tIf t ta tb) σ H ds := fun H1 s Q q => h H1 s _ fun H2 s2 => by
  cases b with
  | true =>
    show ta σ H2 Q
    exact h1 rfl H2 (s.trans s2) Q fun p xs H3 n s3 => q p xs H3 (s2.free n) (s2.trans s3)
  | false =>
    show tb σ H2 Q
    exact h2 rfl H2 (s.trans s2) Q fun p xs H3 n s3 => q p xs H3 (s2.free n) (s2.trans s3)
/-- arguments, tuples, lists -/
theorem ea_nil : EA tNil σ H [] := fun H1 _ _ q => q _ H1 (Same.refl H1) .nil
theorem ea_cons {tr : TA} (h : ED ta σ H d) (hr : EA tr σ H ds) : EA (tCons ta tr) σ H (d :: ds) := fun H1 s _ q =>
  h H1 s _ fun v H2 s2 hv => hr H2 (s.trans s2) _ fun vs H3 s3 hvs => q _ H3 (s2.trans s3) (.cons (hv.mono s3) hvs)
theorem sz_of {n : Nat} (h : n ≤ 100000) : n ≤ sizeLine := Nat.le_trans h (by decide)
theorem ed_tup {ta : TA} (h : EA ta σ H ds) (hl : ds.length ≤ 100000) : ED (tTup ta) σ H (.tuple ds) := fun H1 s _ q =>
  h H1 s _ fun vs H2 s2 hv => ⟨sz_of (by rw [hv.length]; exact hl), fun p hp => q _ _ (s2.trans (same_new hp _)) (.tup upd_same (hv.mono (same_new hp _)))⟩
theorem el_lst {ta : TA} (h : EA ta σ H ds) (hl : ds.length ≤ 100000) : EL (tLst ta) σ H ds := fun H1 s _ q =>
  h H1 s _ fun vs H2 s2 hv => ⟨sz_of (by rw [hv.length]; exact hl), fun p hp => q p vs _ (s2.free hp) (s2.trans (same_new hp _)) upd_same (hv.mono (same_new hp _))⟩
/-- list + list -/
theorem el_cat (ha : EL ta σ H ds) (hb : EL tb σ H es) (hl : ds.length + es.length ≤ sizeLine) : EL (tOp rCat ta tb) σ H (ds ++ es) := fun H1 s _ q =>
  ha H1 s _ fun p xs H2 n2 s2 h2 t2 => hb H2 (s.trans s2) _ fun p' ys H3 n3 s3 h3 t3 =>
    ⟨p, p', xs, ys, rfl, rfl, s3 _ _ h2, h3, by rw [t2.length, t3.length]; exact hl, fun l hl => q l _ _ (s2.free (s3.free hl)) ((s2.trans s3).trans (same_new hl _)) upd_same (((t2.mono s3).app t3).mono (same_new hl _))⟩
theorem el_catV {p : Addr} {xs : List V} (ha : EV ta σ H (.ref p)) (hp : H p = some (.lst xs)) (hx : TpA H xs ds) (hb : EL tb σ H es) (hl : ds.length + es.length ≤ sizeLine) : EL (tOp rCat ta tb) σ H (ds ++ es) := fun H1 s _ q =>
  ha H1 s _ fun H2 s2 => hb H2 (s.trans s2) _ fun p' ys H3 n3 s3 h3 t3 =>
    ⟨p, p', xs, ys, rfl, rfl, ((s.trans s2).trans s3) _ _ hp, h3, by rw [hx.length, t3.length]; exact hl, fun l hl => q l _ _ (s2.free (s3.free hl)) ((s2.trans s3).trans (same_new hl _)) upd_same (((hx.mono ((s.trans s2).trans s3)).app t3).mono (same_new hl _))⟩
/-- tuple + tuple -/
theorem ed_cat (ha : ED ta σ H (.tuple ds)) (hb : ED tb σ H (.tuple es)) (hl : ds.length + es.length ≤ 100000) : ED (tOp (rCatA K) ta tb) σ H (.tuple (ds ++ es)) :=
  ed_opD ha hb fun x y H1 _ hx hy Q q => by
    obtain ⟨a, xs, rfl, h1, h2⟩ := hx.tup_inv
    obtain ⟨b, ys, rfl, k1, k2⟩ := hy.tup_inv
    refine ⟨a, b, xs, ys, rfl, rfl, .inl (.inl h1), .inl (.inl k1), sz_of (by rw [h2.length, k2.length]; exact hl), fun e => ?_, fun _ e => ?_, fun _ _ p hp => ?_⟩
    · subst e
      cases h2
      exact q _ H1 (Same.refl H1) (.tup k1 k2)
    · subst e
      cases k2
      rw [List.append_nil] at q
      exact q _ H1 (Same.refl H1) (.tup h1 h2)
    · exact q _ _ (same_new hp _) (.tup upd_same ((h2.app k2).mono (same_new hp _)))
/-- l == [], [] == .. : a list against the empty one -/
theorem ds_nil_eqv (ds : List PyData) : PyData.eqv (.list ds) (.list []) = ds.isEmpty := by
  cases ds <;> simp [PyData.eqv, PyData.eqvAll]
theorem ed_eqNil {p : Addr} {xs : List V} (ha : EV ta σ H (.ref p)) (hp : H p = some (.lst xs)) (hx : TpA H xs ds) (hs : SeqAt.shaped (.list ds) = true) (hb : EL tb σ H []) : ED (tOp (rEqD K) ta tb) σ H (.bool ds.isEmpty) := fun H1 s Q q =>
  ha H1 s _ fun H2 s2 => hb H2 (s.trans s2) _ fun p' ys H3 n3 s3 h3 t3 => by
    have ss := (s.trans s2).trans s3
    refine ⟨.list ds, .list [], .lst (.inl (.inl (ss _ _ hp))) (hx.mono ss).dp, .lst (.inl (.inl h3)) t3.dp, hs, rfl, ?_⟩
    rw [ds_nil_eqv]
    exact q _ H3 (s2.trans s3) (.bl _)
theorem ed_eqNilN (ha : EL ta σ H ds) (hs : SeqAt.shaped (.list ds) = true) (hb : EL tb σ H []) : ED (tOp (rEqD K) ta tb) σ H (.bool ds.isEmpty) := fun H1 s Q q =>
  ha H1 s _ fun p xs H2 n2 s2 h2 t2 => hb H2 (s.trans s2) _ fun p' ys H3 n3 s3 h3 t3 => by
    refine ⟨.list ds, .list [], .lst (.inl (.inl (s3 _ _ h2))) (t2.mono s3).dp, .lst (.inl (.inl h3)) t3.dp, hs, rfl, ?_⟩
    rw [ds_nil_eqv]
    exact q _ H3 (s2.trans s3) (.bl _)
theorem ed_neNil {p : Addr} {xs : List V} (ha : EV ta σ H (.ref p)) (hp : H p = some (.lst xs)) (hx : TpA H xs ds) (hs : SeqAt.shaped (.list ds) = true) (hb : EL tb σ H []) : ED (tOp (rNeD K) ta tb) σ H (.bool (!ds.isEmpty)) := fun H1 s Q q =>
  ha H1 s _ fun H2 s2 => hb H2 (s.trans s2) _ fun p' ys H3 n3 s3 h3 t3 => by
    have ss := (s.trans s2).trans s3
    refine ⟨.list ds, .list [], .lst (.inl (.inl (ss _ _ hp))) (hx.mono ss).dp, .lst (.inl (.inl h3)) t3.dp, hs, rfl, ?_⟩
    rw [ds_nil_eqv]
    exact q _ H3 (s2.trans s3) (.bl _)
/-! ### calls by promises over data -/
def spD (dom : List PyData → PyData → Prop) : Sp := fun vs H Q _ => ∃ ds r, TpA H vs ds ∧ dom ds r ∧ ∀ v H', Same H H' → Tp H' v r → Q v H'
def spL (dom : List PyData → List PyData → Prop) : Sp := fun vs H Q _ => ∃ ds rs, TpA H vs ds ∧ dom ds rs ∧ ∀ p xs H', H p = none → Same H H' → H' p = some (.lst xs) → TpA H' xs rs → Q (.ref p) H'
theorem ed_call {dom : List PyData → PyData → Prop} {E : XK} {ta : TA} (h : EA ta σ H ds) (hd : dom ds d) : ED (tCall (spD dom) [] E ta) σ H d := fun H1 s Q q =>
  h H1 s _ fun vs H2 s2 hv => by
    show spD dom (vs ++ []) H2 Q E
    rw [List.append_nil]
    exact ⟨ds, d, hv, hd, fun v H3 s3 hv => q v H3 (s2.trans s3) hv⟩
theorem el_call {dom : List PyData → List PyData → Prop} {E : XK} {ta : TA} (h : EA ta σ H ds) (hd : dom ds es) : EL (tCall (spL dom) [] E ta) σ H es := fun H1 s Q q =>
  h H1 s _ fun vs H2 s2 hv => by
    show spL dom (vs ++ []) H2 Q E
    rw [List.append_nil]
    exact ⟨ds, es, hv, hd, fun p xs H3 n s3 h3 t3 => q p xs H3 (s2.free n) (s2.trans s3) h3 t3⟩
/-- a built-in on data -/
theorem ed_cb {r : List V → Hp → VK → Prop} {ta : TA} (h : EA ta σ H ds) (hr : ∀ vs H1, Same H H1 → TpA H1 vs ds → ∀ Q : VK, (∀ v H2, Same H1 H2 → Tp H2 v d → Q v H2) → r vs H1 Q) : ED (tCB r ta) σ H d := fun H1 s Q q =>
  h H1 s _ fun vs H2 s2 hv => hr vs H2 (s.trans s2) hv Q fun v H3 s3 => q v H3 (s2.trans s3)
/-- a built-in on a new list -/
theorem ed_cbN {r : List V → Hp → VK → Prop} (h : EL ta σ H ds) (hr : ∀ p xs H1, Same H H1 → H1 p = some (.lst xs) → TpA H1 xs ds → ∀ Q : VK, (∀ v H2, Same H1 H2 → Tp H2 v d → Q v H2) → r [.ref p] H1 Q) : ED (tCB r (tCons ta tNil)) σ H d := fun H1 s Q q =>
  h H1 s _ fun p xs H2 n s2 h2 t2 => hr p xs H2 (s.trans s2) h2 t2 Q fun v H3 s3 => q v H3 (s2.trans s3)
theorem ed_cbV {r : List V → Hp → VK → Prop} (h : EV ta σ H x) (hr : ∀ H1, Same H H1 → ∀ Q : VK, (∀ v H2, Same H1 H2 → Tp H2 v d → Q v H2) → r [x] H1 Q) : ED (tCB r (tCons ta tNil)) σ H d := fun H1 s Q q =>
  h H1 s _ fun H2 s2 => hr H2 (s.trans s2) Q fun v H3 s3 => q v H3 (s2.trans s3)
theorem el_cbN {r : List V → Hp → VK → Prop} (h : EL ta σ H ds) (hr : ∀ p xs H1, Same H H1 → H1 p = some (.lst xs) → TpA H1 xs ds → ∀ Q : VK, (∀ p' xs' H2, H1 p' = none → Same H1 H2 → H2 p' = some (.lst xs') → TpA H2 xs' es → Q (.ref p') H2) → r [.ref p] H1 Q) : EL (tCB r (tCons ta tNil)) σ H es := fun H1 s Q q =>
  h H1 s _ fun p xs H2 n s2 h2 t2 => hr p xs H2 (s.trans s2) h2 t2 Q fun p' xs' H3 n3 s3 => q p' xs' H3 (s2.free n3) (s2.trans s3)
theorem el_cbV {r : List V → Hp → VK → Prop} (h : EV ta σ H x) (hr : ∀ H1, Same H H1 → ∀ Q : VK, (∀ p' xs' H2, H1 p' = none → Same H1 H2 → H2 p' = some (.lst xs') → TpA H2 xs' es → Q (.ref p') H2) → r [x] H1 Q) : EL (tCB r (tCons ta tNil)) σ H es := fun H1 s Q q =>
  h H1 s _ fun H2 s2 => hr H2 (s.trans s2) Q fun p' xs' H3 n3 s3 => q p' xs' H3 (s2.free n3) (s2.trans s3)
end

/-! ### statements -/
section
variable {K : PySem.W.Frag} {σ : L2.St} {H H' : Hp} {te ta : TE} {t : TT} {v : V} {d : PyData} {ds : List PyData} {D : Ends} {tu tw : TS} {i j : Nat}
theorem s_asgD (h : ED te σ H d) (k : ∀ v H1, Same H H1 → Tp H1 v d → D.nx (σ.set i (some v)) H1) : tAsg te (gName i) D σ H := h H (Same.refl H) _ k
theorem s_asgL (h : EL te σ H ds) (k : ∀ p xs H1, H p = none → Same H H1 → H1 p = some (.lst xs) → TpA H1 xs ds → D.nx (σ.set i (some (.ref p))) H1) : tAsg te (gName i) D σ H := h H (Same.refl H) _ k
theorem s_asgV (h : EV te σ H v) (k : ∀ H1, Same H H1 → D.nx (σ.set i (some v)) H1) : tAsg te (gName i) D σ H := h H (Same.refl H) _ k
theorem s_retD (h : ED te σ H d) (k : ∀ v H1, Same H H1 → Tp H1 v d → D.rt v H1) : tRet te D σ H := h H (Same.refl H) _ k
theorem s_retL (h : EL te σ H ds) (k : ∀ p xs H1, H p = none → Same H H1 → H1 p = some (.lst xs) → TpA H1 xs ds → D.rt (.ref p) H1) : tRet te D σ H := h H (Same.refl H) _ k
theorem s_retV (h : EV te σ H v) (k : ∀ H1, Same H H1 → D.rt v H1) : tRet te D σ H := h H (Same.refl H) _ k
theorem s_dropD (h : ED te σ H d) (k : ∀ H1, Same H H1 → D.nx σ H1) : tDrop te D σ H := h H (Same.refl H) _ fun _ H1 s _ => k H1 s
theorem s_if {b : Bool} (h : EB t σ H b) (h1 : b = true → ∀ H1, Same H H1 → tu D σ H1) (h2 : b = false → ∀ H1, Same H H1 → tw D σ H1) : tIfS t tu tw D σ H := h H (Same.refl H) _ fun H1 e => by
  cases b with
  | true =>
    show tu D σ H1
    exact h1 rfl H1 e
  | false =>
    show tw D σ H1
    exact h2 rfl H1 e
theorem s_app {l : Addr} {xs : List V} (hl : H l = some (.lst xs)) (ha : EV ta σ H (.ref l)) (h : ED te σ H d) (hz : xs.length < sizeLine) (k : ∀ v H1, Same H H1 → Tp H1 v d → D.nx σ (upd H1 l (.lst (xs ++ [v])))) :
    tDrop (tBM K "list" rAppend ta (tCons te tNil)) D σ H := ha H (Same.refl H) _ fun H1 e1 =>
  ⟨Or.inl ⟨rfl, xs, .inl (.inl (e1 l _ hl))⟩, h H1 e1 _ fun v H2 e2 hv => ⟨l, xs, v, rfl, rfl, e2 l _ (e1 l _ hl), hz, k v H2 (e1.trans e2) hv⟩⟩
end

/-! ### frames: all but M is kept -/
/-- all but what M says is kept; tuples are kept -/
def SX (M : Addr → Prop) (H H' : Hp) : Prop := (∀ b o, ¬ M b → H b = some o → H' b = some o) ∧ KT H H'
abbrev M0 : Addr → Prop := fun _ => False
section
variable {M N : Addr → Prop} {H H1 H2 : Hp} {p : Addr} {xs ys : List V} {o : HO}
theorem SX.refl : SX M H H := ⟨fun _ _ _ h => h, KT.refl H⟩
theorem _root_.L2.Same.sx (s : Same H H1) : SX M H H1 := ⟨fun b o _ h => s b o h, s.kt⟩
theorem SX.trans (a : SX M H H1) (b : SX M H1 H2) : SX M H H2 := ⟨fun c o n h => b.1 c o n (a.1 c o n h), a.2.trans b.2⟩
theorem SX.sub (a : SX M H H1) (h : ∀ b, M b → N b) : SX N H H1 := ⟨fun c o n e => a.1 c o (fun m => n (h c m)) e, a.2⟩
theorem SX.same (a : SX M0 H H1) : Same H H1 := fun b o h => a.1 b o (fun z => z) h
theorem SX.at (a : SX M H H1) (n : ¬ M p) (h : H p = some o) : H1 p = some o := a.1 p o n h
/-- a list (no tuple) is changed -/
theorem SX.put (m : M p) (h : H p = some (.lst xs)) : SX M H (upd H p o) := by
  refine ⟨fun b u n e => ?_, fun b zs e => ?_⟩
  · rw [upd_ne (fun q => n (by rw [q]; exact m))]
    exact e
  · rw [upd_ne (fun q => by rw [q, h] at e; cases e)]
    exact e
/-- what M says is not known to H at all -/
theorem SX.same_of (a : SX M H H1) (h : ∀ b, M b → H b = none) : Same H H1 := fun b o e => a.1 b o (fun m => by rw [h b m] at e; cases e) e
end

/-! ### walked things -/
/-- the target g takes v: the slots are then σ' -/
def GT (g : TG) (σ : L2.St) (v : V) (H : Hp) (σ' : L2.St) : Prop := ∀ Q : L2.St → Hp → Prop, Q σ' H → g v σ H Q
theorem gt_name {i : Nat} {σ : L2.St} {v : V} {H : Hp} : GT (gName i) σ v H (σ.set i (some v)) := fun _ q => q
theorem gt_two {K : PySem.W.Frag} {g1 g2 : TG} {σ σ1 σ2 : L2.St} {a : Addr} {x y : V} {H : Hp} (h : H a = some (.tup [x, y])) (h1 : GT g1 σ x H σ1) (h2 : GT g2 σ1 y H σ2) : GT (gTup K 2 (gCons g1 (gCons g2 gNil))) σ (.ref a) H σ2 := fun Q q =>
  ⟨a, [x, y], rfl, .inl (.inl h), rfl, x, [y], rfl, h1 _ ⟨y, [], rfl, h2 _ ⟨rfl, q⟩⟩⟩
theorem gt_three {K : PySem.W.Frag} {g1 g2 g3 : TG} {σ σ1 σ2 σ3 : L2.St} {a : Addr} {x y z : V} {H : Hp} (h : H a = some (.tup [x, y, z])) (h1 : GT g1 σ x H σ1) (h2 : GT g2 σ1 y H σ2) (h3 : GT g3 σ2 z H σ3) : GT (gTup K 3 (gCons g1 (gCons g2 (gCons g3 gNil)))) σ (.ref a) H σ3 := fun Q q =>
  ⟨a, [x, y, z], rfl, .inl (.inl h), rfl, x, [y, z], rfl, h1 _ ⟨y, [z], rfl, h2 _ ⟨z, [], rfl, h3 _ ⟨rfl, q⟩⟩⟩⟩
/-- wi walks the data bs.map enc; what it leans on is kept while all but M and new objects is -/
def Src {β : Type} (M : Addr → Prop) (wi : TI) (σ : L2.St) (H : Hp) (bs : List β) (enc : β → PyData) : Prop :=
  ∀ H1, Same H H1 → ∀ R : It → Hp → Prop, (∀ J H2 (P : Hp → Prop), Same H1 H2 → P H2 → (∀ (M' : Addr → Prop) H' H'', (∀ a, M' a → M a ∨ H2 a = none) → P H' → SX M' H' H'' → P H'') →
    Walk J bs.length P (fun i H' v H'' => Same H' H'' ∧ ∃ x, bs[i]? = some x ∧ Tp H'' v (enc x)) → R J H2) → wi σ H1 R
section
variable {K : PySem.W.Frag} {β : Type} {M : Addr → Prop} {σ : L2.St} {H : Hp} {bs : List β} {enc : β → PyData} {tl : TE}
theorem tpa_at {H : Hp} {xs : List V} {i : Nat} {x : V} (h : TpA H xs (bs.map enc)) (e : xs[i]? = some x) : ∃ b, bs[i]? = some b ∧ Tp H x (enc b) := by
  obtain ⟨d, h1, h2⟩ := h.getV e
  rw [List.getElem?_map] at h1
  cases q : bs[i]? with
  | none => rw [q] at h1; cases h1
  | some b =>
    rw [q] at h1
    cases h1
    exact ⟨b, rfl, h2⟩
theorem src_tup (h : ED tl σ H (.tuple (bs.map enc))) : Src M (iTup K tl) σ H bs enc := fun H1 s R r =>
  h H1 s _ fun v H2 s2 hv => by
    obtain ⟨a, xs, rfl, h1, h2⟩ := hv.tup_inv
    have hl : bs.length = xs.length := by rw [h2.length, List.length_map]
    refine ⟨a, rfl, ⟨xs, .inl (.inl h1)⟩, r _ H2 (fun H' => H' a = some (.tup xs) ∧ TpA H' xs (bs.map enc)) s2 ⟨h1, h2⟩ (fun M' H' H'' _ p e => ⟨e.2 _ _ p.1, p.2.kt e.2⟩) ?_⟩
    rw [hl]
    exact walk_tup.mono (fun H' p => .inl (.inl p.1)) fun i H' x H'' _ p y => by
      obtain ⟨e1, e2⟩ := y
      subst e1
      exact ⟨Same.refl _, tpa_at p.2 e2⟩
theorem src_lstN (h : EL tl σ H (bs.map enc)) (hM : ∀ a, M a → ∃ o, H a = some o) : Src M (iList K tl) σ H bs enc := fun H1 s R r =>
  h H1 s _ fun p xs H2 n s2 h1 h2 => by
    have hl : bs.length = xs.length := by rw [h2.length, List.length_map]
    refine ⟨p, rfl, ⟨xs, .inl (.inl h1)⟩, r _ H2 (fun H' => H' p = some (.lst xs) ∧ TpA H' xs (bs.map enc)) s2 ⟨h1, h2⟩ (fun M' H' H'' hm q e => ⟨e.1 _ _ (fun m => ?_) q.1, q.2.kt e.2⟩) ?_⟩
    · rcases hm p m with z | z
      · obtain ⟨o, ho⟩ := hM p z
        rw [s _ _ ho] at n
        cases n
      · rw [h1] at z
        cases z
    rw [hl]
    exact walk_list.mono (fun H' p => .inl (.inl p.1)) fun i H' x H'' _ p y => by
      obtain ⟨e1, e2⟩ := y
      subst e1
      exact ⟨Same.refl _, tpa_at p.2 e2⟩
theorem src_lstV {p : Addr} {xs : List V} (h : EV tl σ H (.ref p)) (h1 : H p = some (.lst xs)) (h2 : TpA H xs (bs.map enc)) (hM : ¬ M p) : Src M (iList K tl) σ H bs enc := fun H1 s R r =>
  h H1 s _ fun H2 s2 => by
    have hl : bs.length = xs.length := by rw [h2.length, List.length_map]
    have ss := s.trans s2
    refine ⟨p, rfl, ⟨xs, .inl (.inl (ss _ _ h1))⟩, r _ H2 (fun H' => H' p = some (.lst xs) ∧ TpA H' xs (bs.map enc)) s2 ⟨ss _ _ h1, h2.mono ss⟩ (fun M' H' H'' hm q e => ⟨e.1 _ _ (fun m => ?_) q.1, q.2.kt e.2⟩) ?_⟩
    · rcases hm p m with z | z
      · exact hM z
      · rw [ss _ _ h1] at z
        cases z
    rw [hl]
    exact walk_list.mono (fun H' p => .inl (.inl p.1)) fun i H' x H'' _ p y => by
      obtain ⟨e1, e2⟩ := y
      subst e1
      exact ⟨Same.refl _, tpa_at p.2 e2⟩
/-- ranges -/
theorem src_itr {lo : Int} {n : Nat} {wi : TI} (h : ∀ H1, Same H H1 → ∀ R : It → Hp → Prop, (∀ H2, Same H1 H2 → R (Itr lo n) H2) → wi σ H1 R) : Src M wi σ H (rgN lo n) .int := fun H1 s R r =>
  h H1 s R fun H2 s2 => r _ H2 (fun _ => True) s2 trivial (fun _ _ _ _ _ _ => trivial) (by
    rw [rgN_length]
    exact walk_range.mono (fun _ _ => trivial) fun i H' x H'' hi _ y => by
      obtain ⟨e1, e2⟩ := y
      subst e1 e2
      exact ⟨Same.refl _, _, rgN_get hi, .int _⟩)
theorem src_r1 {ta : TA} {n : Nat} (h : EA ta σ H [.int n]) (hn : n ≤ 100000) : Src M (iRng1 ta) σ H (rgN 0 n) .int := src_itr fun H1 s R r =>
  h H1 s _ fun vs H2 s2 hv => by
    obtain ⟨v, rfl, hv'⟩ := tpa1 hv
    have e := hv'.int_inv
    subst e
    refine ⟨n, rfl, by omega, by omega, ?_⟩
    rw [Int.toNat_natCast]
    exact r H2 s2
theorem src_r2 {ta : TA} {a b : Int} (h : EA ta σ H [.int a, .int b]) (hn : -100000 ≤ a ∧ a ≤ 100000 ∧ -100000 ≤ b ∧ b ≤ 100000) : Src M (iRng2 ta) σ H (rgN a (b - a).toNat) .int := src_itr fun H1 s R r =>
  h H1 s _ fun vs H2 s2 hv => by
    obtain ⟨v, w, rfl, hv', hw⟩ := tpa2 hv
    cases hv'
    cases hw
    exact ⟨a, b, rfl, ⟨by omega, by omega, by omega, by omega⟩, r H2 s2⟩
end

/-! ### comprehensions -/
section
variable {K : PySem.W.Frag} {β : Type} {σ : L2.St} {H : Hp} {bs : List β} {enc : β → PyData} {wi : TI} {g : TG} {tt : TT} {te : TE} {vs : List Nat}
theorem el_lc (src : Src M0 wi σ H bs enc) (b : β → Bool) (f : β → PyData) (hl : bs.length < 16000000)
    (body : ∀ x v H1, x ∈ bs → Same H H1 → Tp H1 v (enc x) → ∃ σ2, GT g (wipe σ vs) v H1 σ2 ∧ wipe σ2 vs = wipe σ vs ∧ EB tt σ2 H1 (b x) ∧ (b x = true → ED te σ2 H1 (f x))) :
    EL (tLc wi g tt te vs) σ H ((bs.filter b).map f) := fun H1 s Q q => by
  refine src H1 s _ fun J H2 P s2 p0 stab w => ?_
  intro D hD
  have s3 : Same H2 (upd H2 D (.lst [])) := same_new hD _
  refine lc_it w (fun i H' => Same H2 H' ∧ P H' ∧ ∃ acc, H' D = some (.lst acc) ∧ TpA H' acc (((bs.take i).filter b).map f)) ⟨s3, stab M0 _ _ (fun _ z => z.elim) p0 s3.sx, [], upd_same, .nil⟩ (fun i H' _ h => h.2.1) (fun i v H' H'' hi h y => ?_) fun H' h => ?_
  · obtain ⟨sh, ph, acc, ha, ht⟩ := h
    obtain ⟨sy, x, hx, hv⟩ := y
    have hm : x ∈ bs := List.mem_of_getElem? hx
    have s5 : Same H H'' := ((s.trans s2).trans sh).trans sy
    obtain ⟨σ2, h1, h2, h3, h4⟩ := body x v H'' hm s5 hv
    refine h1 _ ⟨h2, h3 H'' (Same.refl _) _ fun H3 s6 => ?_⟩
    have tk : bs.take (i + 1) = bs.take i ++ [x] := by rw [List.take_add_one, hx]; rfl
    cases hb : b x with
    | true =>
      refine iteT (h4 hb H3 s6 _ fun v' H4 s7 hv' => ?_)
      have s8 : Same H' H4 := (sy.trans s6).trans s7
      have hD4 : H4 D = some (.lst acc) := s8 _ _ ha
      refine ⟨acc, hD4, ?_, ?_, ?_, acc ++ [v'], upd_same, ?_⟩
      · have e1 := ht.length
        have e2 : (((bs.take i).filter b).map f).length ≤ i := by
          rw [List.length_map]
          exact Nat.le_trans (List.length_filter_le _ _) (by rw [List.length_take]; omega)
        rw [sizeLine_eq]
        omega
      · exact same_mut (sh.trans s8) hD
      · have px : SX (fun a => a = D) H4 (upd H4 D (.lst (acc ++ [v']))) := SX.put rfl hD4
        exact stab (fun a => a = D) _ _ (fun a z => .inr (by rw [z]; exact hD)) (stab M0 _ _ (fun _ z => z.elim) ph s8.sx) px
      · have px : SX (fun a => a = D) H4 (upd H4 D (.lst (acc ++ [v']))) := SX.put rfl hD4
        rw [tk, List.filter_append, List.map_append, List.filter_cons_of_pos hb]
        exact ((ht.mono s8).app (.cons hv' .nil)).kt px.2
    | false =>
      have s8 : Same H' H3 := sy.trans s6
      refine iteF ⟨sh.trans s8, stab M0 _ _ (fun _ z => z.elim) ph s8.sx, acc, s8 _ _ ha, ?_⟩
      rw [tk, List.filter_append, List.filter_cons_of_neg (by rw [hb]; decide), List.filter_nil, List.append_nil]
      exact ht.mono s8
  · obtain ⟨sh, ph, acc, ha, ht⟩ := h
    rw [List.take_length] at ht
    exact q D acc H' (s2.free hD) (s2.trans sh) ha ht
/-- without a test -/
theorem el_lcY (src : Src M0 wi σ H bs enc) (f : β → PyData) (hl : bs.length < 16000000)
    (body : ∀ x v H1, x ∈ bs → Same H H1 → Tp H1 v (enc x) → ∃ σ2, GT g (wipe σ vs) v H1 σ2 ∧ wipe σ2 vs = wipe σ vs ∧ ED te σ2 H1 (f x)) :
    EL (tLc wi g tYes te vs) σ H (bs.map f) := by
  have h := el_lc (tt := tYes) src (fun _ => true) f hl fun x v H1 hx s hv => by
    obtain ⟨σ2, h1, h2, h3⟩ := body x v H1 hx s hv
    exact ⟨σ2, h1, h2, eb_yes, fun _ => h3⟩
  have e : bs.filter (fun _ => true) = bs := List.filter_eq_self.mpr fun _ _ => rfl
  rw [e] at h
  exact h
end

/-! ### for -/
section
variable {K : PySem.W.Frag} {β : Type} {σ : L2.St} {H : Hp} {bs : List β} {enc : β → PyData} {wi : TI} {g : TG} {tb : TS} {D : Ends}
theorem q_for (M : Addr → Prop) (src : Src M wi σ H bs enc) (Pv : Nat → L2.St → Hp → Prop) (h0 : ∀ H1, Same H H1 → Pv 0 σ H1)
    (hs : ∀ i x v σ' H' H'' (N : L2.St → Hp → Prop), bs[i]? = some x → SX M H H' → Pv i σ' H' → Same H' H'' → Tp H'' v (enc x) → (∀ σ3 H3, SX M H' H3 → Pv (i + 1) σ3 H3 → N σ3 H3) →
      g v σ' H'' fun σ2 H2 => tb { D with nx := N, ct := N, bk := D.nx } σ2 H2)
    (hd : ∀ σ' H', SX M H H' → Pv bs.length σ' H' → D.nx σ' H') : tFor wi g tb D σ H := by
  refine src H (Same.refl H) _ fun J H2 P s2 p0 stab w => ?_
  refine for_it w (fun i σ' H' => SX M H2 H' ∧ P H' ∧ Pv i σ' H') ⟨SX.refl, p0, h0 H2 s2⟩ (fun i σ' H' _ h => h.2.1) (fun i v σ' H' H'' hi h y => ?_) fun σ' H' h => hd σ' H' (s2.sx.trans h.1) h.2.2
  obtain ⟨sy, x, hx, hv⟩ := y
  refine hs i x v σ' H' H'' _ hx (s2.sx.trans h.1) h.2.2 sy hv fun σ3 H3 e p => ⟨h.1.trans e, stab M _ _ (fun _ z => .inl z) h.2.1 e, p⟩
end
/-! ### statements that others follow -/
section
variable {K : PySem.W.Frag} {σ : L2.St} {H H' : Hp} {te ta : TE} {t : TT} {v : V} {d : PyData} {ds : List PyData} {D : Ends} {tu tw u : TS} {i j : Nat}
theorem z_asgD (h : ED te σ H d) (k : ∀ v H1, Same H H1 → Tp H1 v d → u D (σ.set i (some v)) H1) : tSeq (tAsg te (gName i)) u D σ H := h H (Same.refl H) _ k
theorem z_asgL (h : EL te σ H ds) (k : ∀ p xs H1, H p = none → Same H H1 → H1 p = some (.lst xs) → TpA H1 xs ds → u D (σ.set i (some (.ref p))) H1) : tSeq (tAsg te (gName i)) u D σ H := h H (Same.refl H) _ k
theorem z_asgV (h : EV te σ H v) (k : ∀ H1, Same H H1 → u D (σ.set i (some v)) H1) : tSeq (tAsg te (gName i)) u D σ H := h H (Same.refl H) _ k
theorem z_dropD (h : ED te σ H d) (k : ∀ H1, Same H H1 → u D σ H1) : tSeq (tDrop te) u D σ H := h H (Same.refl H) _ fun _ H1 s _ => k H1 s
theorem z_if {b : Bool} (h : EB t σ H b) (h1 : b = true → ∀ H1, Same H H1 → tu { D with nx := u D } σ H1) (h2 : b = false → ∀ H1, Same H H1 → tw { D with nx := u D } σ H1) : tSeq (tIfS t tu tw) u D σ H := s_if (D := { D with nx := u D }) h h1 h2
/-- a test that fails, nothing else -/
theorem z_ifF (h : EB t σ H false) (k : ∀ H1, Same H H1 → u D σ H1) : tSeq (tIfS t tu tNext) u D σ H := s_if (D := { D with nx := u D }) h (fun z => nomatch z) fun _ H1 s => k H1 s
theorem z_for {β : Type} {bs : List β} {enc : β → PyData} {wi : TI} {g : TG} {tb : TS} (M : Addr → Prop) (src : Src M wi σ H bs enc) (Pv : Nat → L2.St → Hp → Prop) (h0 : ∀ H1, Same H H1 → Pv 0 σ H1)
    (hs : ∀ i x v σ' H' H'' (N : L2.St → Hp → Prop), bs[i]? = some x → SX M H H' → Pv i σ' H' → Same H' H'' → Tp H'' v (enc x) → (∀ σ3 H3, SX M H' H3 → Pv (i + 1) σ3 H3 → N σ3 H3) →
      g v σ' H'' fun σ2 H2 => tb { nx := N, rt := D.rt, ct := N, bk := u D } σ2 H2)
    (hd : ∀ σ' H', SX M H H' → Pv bs.length σ' H' → u D σ' H') : tSeq (tFor wi g tb) u D σ H :=
  q_for (D := { D with nx := u D }) M src Pv h0 hs hd
theorem z_par {ta : TA} (h : ta σ H fun vs H1 => ∃ v w, vs = [v, w] ∧ u D ((σ.set i (some v)).set j (some w)) H1) : tSeq (tPar i j ta) u D σ H := h
end
end Lv

set_option Elab.async false
set_option linter.all false
set_option maxRecDepth 100000
set_option maxHeartbeats 4000000
/-! further rules: in over tuples of data, isinstance, chains, enumerate over a tuple, slices, conversions -/
namespace Lv
open PySem PySem.Spec L2

/-! ### x in t -/
section
variable {X : Cx}
def rInT (K : PySem.W.Frag) : R2 := fun x y H Q => ∃ d ds, Dp K H x d ∧ Dp K H y (.tuple ds) ∧ SeqAt.shaped d = true ∧ SeqAt.shaped (.tuple ds) = true ∧ Q (.bl (ds.any fun z => PyData.eqv z d)) H
def rNotInT (K : PySem.W.Frag) : R2 := fun x y H Q => ∃ d ds, Dp K H x d ∧ Dp K H y (.tuple ds) ∧ SeqAt.shaped d = true ∧ SeqAt.shaped (.tuple ds) = true ∧ Q (.bl (!ds.any fun z => PyData.eqv z d)) H
theorem room_of {k : Nat} {A : Around} (hr : Room k A) : A.units + 65 < cLine := by have := hr.un; omega
theorem op_inT {k : Nat} (hr : Room k X.A) : OpR X (compareOp .In) (rInT X.K) := by
  intro pins s σ H x y v u Q I rx ry h
  obtain ⟨d, ds, hd, he, sd, se, q⟩ := h
  obtain ⟨as, r1⟩ := Dp.reads I d x v hd rx
  obtain ⟨bs, r2⟩ := Dp.reads I (.tuple ds) y u he ry
  exact SeqAt.in_tuple_reads r2 r1 (SeqAt.canLay_of_shaped se) (SeqAt.canLay_of_shaped sd) (PyProof.Rows.room_in_shaped sd (room_of hr)) ⟨.bl _, H, I, rfl, q⟩
theorem op_notInT {k : Nat} (hr : Room k X.A) : OpR X (compareOp .NotIn) (rNotInT X.K) := by
  intro pins s σ H x y v u Q I rx ry h
  obtain ⟨d, ds, hd, he, sd, se, q⟩ := h
  obtain ⟨as, r1⟩ := Dp.reads I d x v hd rx
  obtain ⟨bs, r2⟩ := Dp.reads I (.tuple ds) y u he ry
  exact SeqAt.notIn_tuple_reads r2 r1 (SeqAt.canLay_of_shaped se) (SeqAt.canLay_of_shaped sd) (PyProof.Rows.room_in_shaped sd (room_of hr)) ⟨.bl _, H, I, rfl, q⟩
end
section
variable {K : PySem.W.Frag} {σ : L2.St} {H : Hp} {ta tb tc : TE} {d e : PyData} {ds : List PyData}
theorem ed_inT (ha : ED ta σ H d) (hb : ED tb σ H (.tuple ds)) (hd : SeqAt.shaped d = true) (he : SeqAt.shaped (.tuple ds) = true) : ED (tOp (rInT K) ta tb) σ H (.bool (ds.any fun z => PyData.eqv z d)) :=
  ed_opD ha hb fun x y H1 _ hx hy Q q => ⟨d, ds, hx.dp, hy.dp, hd, he, q _ H1 (Same.refl H1) (.bl _)⟩
theorem ed_notInT (ha : ED ta σ H d) (hb : ED tb σ H (.tuple ds)) (hd : SeqAt.shaped d = true) (he : SeqAt.shaped (.tuple ds) = true) : ED (tOp (rNotInT K) ta tb) σ H (.bool (!ds.any fun z => PyData.eqv z d)) :=
  ed_opD ha hb fun x y H1 _ hx hy Q q => ⟨d, ds, hx.dp, hy.dp, hd, he, q _ H1 (Same.refl H1) (.bl _)⟩

theorem ed_notInL (ha : ED ta σ H d) (hb : EL tb σ H ds) (hd : SeqAt.shaped d = true) (he : SeqAt.shaped (.list ds) = true) : ED (tOp (rNotInD K) ta tb) σ H (.bool (!ds.any fun z => PyData.eqv z d)) := fun H1 s Q q =>
  ha H1 s _ fun x H2 s2 hx => hb H2 (s.trans s2) _ fun p xs H3 n s3 h3 t3 => ⟨d, ds, (hx.mono s3).dp, .lst (.inl (.inl h3)) t3.dp, hd, he, q _ H3 (s2.trans s3) (.bl _)⟩
/-! ### isinstance -/
def tyD : PyData → String
  | .none => "NoneType"
  | .bool _ => "bool"
  | .int _ => "int"
  | .tuple _ => "tuple"
  | .str _ => "str"
  | .list _ => "list"
  | .dict _ => "dict"
theorem Tp.ty {v : V} (h : Tp H v d) : TyX K H v (.type (tyD d)) := by
  cases h with
  | non => exact .base .non
  | bl b => exact .base (.bl b)
  | int i => exact .base (.int i)
  | tup a b => exact .base (.tup a)
theorem ed_isi {T : String} {b : Bool} (h : ED ta σ H d) (hk : kitB (tyD d) T = some b) : ED (tCB (rIsi K) (tCons ta (tCons (tC (.ty T)) tNil))) σ H (.bool b) := fun H1 s Q q =>
  h H1 s _ fun v H2 s2 hv => ⟨v, .ty T, _, _, b, rfl, .ty T, hv.ty, kit_ty hk, q _ H2 s2 (.bl b)⟩
theorem ed_isiT {b : Bool} (h : ED ta σ H d) (hk : (if kitB (tyD d) "tuple" = some true then some true else if kitB (tyD d) "tuple" = some false then kitB (tyD d) "list" else none) = some b) :
    ED (tCB (rIsiT K) (tCons ta (tCons (tTup (tCons (tC (.ty "tuple")) (tCons (tC (.ty "list")) tNil))) tNil))) σ H (.bool b) := fun H1 s Q q =>
  h H1 s _ fun v H2 s2 hv => ⟨by show 2 ≤ sizeLine; decide, fun p hp => by
    refine ⟨v, p, [.ty "tuple", .ty "list"], _, [.type "tuple", .type "list"], b, rfl, upd_same, .cons (.ty _) (.cons (.ty _) .nil), (hv.mono (same_new hp _)).ty, ?_, q _ _ (s2.trans (same_new hp _)) (.bl b)⟩
    by_cases h1 : kitB (tyD d) "tuple" = some true
    · rw [if_pos h1] at hk
      cases hk
      exact kitAny_cons (kit_ty h1) (fun z => nomatch z) fun _ => rfl
    · rw [if_neg h1] at hk
      by_cases h2 : kitB (tyD d) "tuple" = some false
      · rw [if_pos h2] at hk
        refine kitAny_cons (kit_ty h2) (fun _ => ?_) (fun z => nomatch z)
        exact kitAny_cons (kit_ty hk) (fun z => by rw [z]; exact kitAny_nil) fun z => z
      · rw [if_neg h2] at hk
        cases hk⟩
theorem ed_chain {f g : Int → Int → V} {i j k : Int} {b c : Bool} (ha : ED ta σ H (.int i)) (hb : ED tb σ H (.int j)) (hc : ED tc σ H (.int k)) (hf : f i j = .bl b) (hg : g j k = .bl c) : ED (tChain (rI0 f) (rI0 g) ta tb tc) σ H (.bool (b && c)) := fun H1 s Q q =>
  ha H1 s _ fun x H2 s2 hx => hb H2 (s.trans s2) _ fun y H3 s3 hy => by
    cases hx
    cases hy
    refine ⟨i, j, rfl, rfl, b, hf, ?_⟩
    cases b with
    | true => exact iteT (hc H3 ((s.trans s2).trans s3) _ fun z H4 s4 hz => by
        cases hz
        refine ⟨j, k, rfl, rfl, ?_⟩
        rw [hg]
        exact q _ H4 ((s2.trans s3).trans s4) (.bl c))
    | false => exact iteF (q _ H3 (s2.trans s3) (.bl false))

/-! ### len, tuple(..), list(..), of data -/
abbrev rLenQ (K : PySem.W.Frag) : List V → Hp → VK → Prop := fun xs H Q => ∃ p ys, xs = [.ref p] ∧ (SqL K H p ys ∨ SqT K H p ys) ∧ Q (.int ys.length) H
theorem ed_lenT (h : ED ta σ H (.tuple ds)) : ED (tCB (rLenQ K) (tCons ta tNil)) σ H (.int ds.length) := fun H1 s Q q =>
  h H1 s _ fun v H2 s2 hv => by
    obtain ⟨a, xs, rfl, h1, h2⟩ := hv.tup_inv
    refine ⟨a, xs, rfl, .inr (.inl (.inl h1)), ?_⟩
    rw [h2.length]
    exact q _ H2 s2 (.int _)
theorem ed_lenN (h : EL ta σ H ds) : ED (tCB (rLenQ K) (tCons ta tNil)) σ H (.int ds.length) :=
  ed_cbN h fun p xs H1 s h1 h2 Q q => ⟨p, xs, rfl, .inl (.inl (.inl h1)), by rw [h2.length]; exact q _ H1 (Same.refl _) (.int _)⟩
theorem ed_lenV {p : Addr} {xs : List V} (h : EV ta σ H (.ref p)) (hp : H p = some (.lst xs)) : ED (tCB (rLenQ K) (tCons ta tNil)) σ H (.int xs.length) :=
  ed_cbV h fun H1 s Q q => ⟨p, xs, rfl, .inl (.inl (.inl (s _ _ hp))), q _ H1 (Same.refl _) (.int _)⟩
abbrev rTupQ (K : PySem.W.Frag) : List V → Hp → VK → Prop := fun xs H Q => ∃ p ys, xs = [.ref p] ∧ ((SqL K H p ys ∧ ∀ l, H l = none → Q (.ref l) (upd H l (.tup ys))) ∨ (SqT K H p ys ∧ Q (.ref p) H))
theorem ed_tupN (h : EL ta σ H ds) : ED (tCB (rTupQ K) (tCons ta tNil)) σ H (.tuple ds) :=
  ed_cbN h fun p xs H1 s h1 h2 Q q => ⟨p, xs, rfl, .inl ⟨.inl (.inl h1), fun l hl => q _ _ (same_new hl _) (.tup upd_same (h2.mono (same_new hl _)))⟩⟩
theorem ed_tupV {p : Addr} {xs : List V} (h : EV ta σ H (.ref p)) (hp : H p = some (.lst xs)) (hx : TpA H xs ds) : ED (tCB (rTupQ K) (tCons ta tNil)) σ H (.tuple ds) :=
  ed_cbV h fun H1 s Q q => ⟨p, xs, rfl, .inl ⟨.inl (.inl (s _ _ hp)), fun l hl => q _ _ (same_new hl _) (.tup upd_same (hx.mono (s.trans (same_new hl _))))⟩⟩
abbrev rLstQ (K : PySem.W.Frag) : List V → Hp → VK → Prop := fun xs H Q => ∃ p ys, xs = [.ref p] ∧ (SqL K H p ys ∨ SqT K H p ys) ∧ ∀ l, H l = none → Q (.ref l) (upd H l (.lst ys))
theorem el_lstT (h : ED ta σ H (.tuple ds)) : EL (tCB (rLstQ K) (tCons ta tNil)) σ H ds := fun H1 s Q q =>
  h H1 s _ fun v H2 s2 hv => by
    obtain ⟨a, xs, rfl, h1, h2⟩ := hv.tup_inv
    exact ⟨a, xs, rfl, .inr (.inl (.inl h1)), fun l hl => q l xs _ (s2.free hl) (s2.trans (same_new hl _)) upd_same (h2.mono (same_new hl _))⟩

/-! ### slices of tuples -/
theorem sIx_lo {n k : Nat} (h : k ≤ n) : HT.sIx n 0 (some (k : Int)) = k := by rw [HT.sIx_nat]; omega
theorem sIx_hi {n k : Nat} (h : k ≤ n) : HT.sIx n n (some (k : Int)) = k := by rw [HT.sIx_nat]; omega
def EO (to : TO) (σ : L2.St) (H : Hp) (o : Option Int) : Prop := ∀ H1, Same H H1 → ∀ Q : Option Int → Hp → Prop, (∀ H2, Same H1 H2 → Q o H2) → to σ H1 Q
theorem eo_none : EO tNoPart σ H none := fun H1 _ _ q => q H1 (Same.refl H1)
theorem eo_some {i : Int} (h : ED ta σ H (.int i)) : EO (tPart ta) σ H (some i) := fun H1 s _ q => ev_int h H1 s _ fun H2 s2 => ⟨i, rfl, q H2 s2⟩
theorem ed_slA {tl th : TO} {lo hi : Option Int} {a b : Nat} (h : ED ta σ H (.tuple ds)) (h1 : EO tl σ H lo) (h2 : EO th σ H hi) (ea : HT.sIx ds.length 0 lo = a) (eb : HT.sIx ds.length ds.length hi = b) :
    ED (tSl (rSlA K) ta tl th) σ H (.tuple ((ds.drop a).take (b - a))) := fun H1 s _ q =>
  h H1 s _ fun v H2 s2 hv => h1 H2 (s.trans s2) _ fun H3 s3 => h2 H3 ((s.trans s2).trans s3) _ fun H4 s4 => by
    obtain ⟨p, xs, rfl, e1, e2⟩ := hv.tup_inv
    have ss := s3.trans s4
    have el := e2.length
    have ea' : HT.sIx xs.length 0 lo = a := by rw [el]; exact ea
    have eb' : HT.sIx xs.length xs.length hi = b := by rw [el]; exact eb
    refine ⟨p, xs, rfl, .inl (.inl (ss _ _ e1)), fun z => ?_, fun z t ht => ?_⟩
    · rw [ea', eb'] at z
      obtain ⟨za, zb⟩ := z
      have ed : (ds.drop a).take (b - a) = ds := by rw [za, zb, List.drop_zero, Nat.sub_zero, el, List.take_length]
      rw [ed] at q
      exact q _ H4 (s2.trans ss) (.tup (ss _ _ e1) (e2.mono ss))
    · refine q _ _ ((s2.trans ss).trans (same_new ht _)) (.tup upd_same ?_)
      unfold cutV
      rw [ea', eb']
      exact ((e2.drop a).take (b - a)).mono (ss.trans (same_new ht _))
end

/-! ### enumerate(t), t a tuple -/
theorem meets_enumerate_newB1 {v : Value} {o : Obj} {H : Heap → Prop} (B : Begins v o H) :
    Meets (Builtin.«enumerate.__new__» ⟨[.type "enumerate", v], []⟩) (fun _ R s => H s.heap ∧
      R (.ok (.ret (.ref (s.heap.push o).objs.size))) { s with heap := (s.heap.push o).push { cls := .type "enumerate", data := .fields #[.none, .bool false, .ref s.heap.objs.size, rawInt 0, .none, .none] } }) :=
  .of_wp fun prog w A R s h => by
    obtain ⟨hp, g, d, tk, os⟩ := s; obtain ⟨h1, h⟩ := h
    have hsub := sub_enumerate
    have q1 : ∀ {A' : Around} {E : Value → Shared → Prop} {Q : Value → Shared → Prop}, Q (.ref hp.objs.size) ⟨hp.push o, g, d, tk, os⟩ → wpAny (model prog w) A' (pyIter v) Q E ⟨hp, g, d, tk, os⟩ :=
      fun q => B.iter prog w _ _ ⟨hp, g, d, tk, os⟩ _ h1 q
    wp_walk using q1
    refine wpAny_stack_any fun st => wpAny_pure ?_
    split
    · rename_i c _ _ _ _ _
      cases (c == Value.type "enumerate")
      · wp_walk using q1
        exact ⟨_, rfl, h⟩
      · wp_walk using q1
        exact ⟨_, rfl, h⟩
    · wp_walk using q1
      exact ⟨_, rfl, h⟩
theorem call_enumerate_B {prog : Program} {w : World} {A : Around} {E : Value → Shared → Prop} {s : Shared} {v : Value} {o : Obj} {H : Heap → Prop} {Q : Value → Shared → Prop} (B : Begins v o H) (h1 : H s.heap)
    (h : ∀ h', IsEnum h' (s.heap.objs.size + 1) s.heap.objs.size 0 .none → h'.get? s.heap.objs.size = some o → h'.objs.size = s.heap.objs.size + 2 →
      (∀ b o, s.heap.get? b = some o → h'.get? b = some o) → Q (.ref (s.heap.objs.size + 1)) { s with heap := h' }) :
    wpAny (model prog w) A (call (.type "enumerate") [v]) Q E s := by
  refine callType_new F.called_enumerate (by decide) (F.typeCall_enumerate_1 _) (F.newCall_enumerate_1 _) (fun obj => F.args_object_init_2 obj _) F.entry_enumerate_new
    (meets_enumerate_newB1 B) ⟨h1, ?_⟩
  have hz : (s.heap.push o).objs.size = s.heap.objs.size + 1 := Heap.size_push ..
  show _ ∧ _
  rw [hz]
  have he : IsEnum ((s.heap.push o).push { cls := .type "enumerate", data := .fields #[.none, .bool false, .ref s.heap.objs.size, rawInt 0, .none, .none] }) (s.heap.objs.size + 1) s.heap.objs.size 0 .none := by
    have := Heap.get?_push_size (s.heap.push o) (o := { cls := .type "enumerate", data := .fields #[.none, .bool false, .ref s.heap.objs.size, rawInt 0, .none, .none] }) rfl
    rw [hz] at this; exact this
  refine ⟨⟨_, he, rfl⟩, h _ he (Heap.get?_push_of_some _ (Heap.get?_push_size _ B.free)) (by rw [Heap.size_push, hz]) fun b o x => Heap.get?_push_of_some _ (Heap.get?_push_of_some _ x)⟩
/-- the tuple at a, each item in a new pair with its number -/
def IteT (K : PySem.W.Frag) (a : Addr) : It :=
  ⟨fun i H => ∃ (xs : List V) (x : V), SqT K H a xs ∧ xs[i]? = some x, fun i H v H' => ∃ T x, v = .ref T ∧ H T = none ∧ H' = upd H T (.tup [.int (i : Nat), x]) ∧ ∀ xs, SqT K H a xs → xs[i]? = some x, fun i H => ∃ xs : List V, SqT K H a xs ∧ xs.length = i⟩
theorem relV_inj {x y : V} {u : Value} (h : RelV x u) (h' : RelV y u) : x = y := by
  cases x <;> cases y <;> simp only [RelV] at h h' <;> (try (obtain ⟨t, rfl⟩ := h)) <;> (try (obtain ⟨t', h'⟩ := h')) <;> (try subst h) <;> first | rfl | (cases h'; rfl) | cases h'
theorem vals_inj : ∀ {xs ys : List V} {us : List Value}, Vals xs us → Vals ys us → xs = ys
  | [], [], _, _, _ => rfl
  | [], _ :: _, _, h, h' => by cases h; cases h'
  | _ :: _, [], _, h, h' => by cases h; cases h'
  | x :: xs, y :: ys, _, h, h' => by
    cases h with
    | cons r t =>
      cases h' with
      | cons r' t' => rw [relV_inj r r', vals_inj t t']
theorem sqt_inj {X : Cx} {pins : List (Addr × Obj)} {σ : L2.St} {H : Hp} {s : Shared} {a : Addr} {xs ys : List V} (I : Inv X pins σ H s) (h : SqT X.K H a xs) (h' : SqT X.K H a ys) : xs = ys := by
  obtain ⟨its, r, ⟨o, ho, _, n, d⟩, _⟩ := I.tuple h
  obtain ⟨its', r', ⟨o', ho', _, n', d'⟩, _⟩ := I.tuple h'
  rw [ho] at ho'
  cases ho'
  rw [d] at d'
  injection d' with d1 _
  have q : its = its' := by simpa using congrArg Array.toList d1
  subst q
  exact vals_inj r r'
theorem turn_enumT {P : Program} {w : World} {K : PySem.W.Frag} {elts : List Expr} {kk : Nat} {tpos : Pos} (a e it : Addr) (items : Array Value) (hae : a ≠ e) (hai : a ≠ it) :
    Turn P w K (.Tuple elts kk tpos) (IteT K a) [e, it] e (fun i h => (∃ old, IsEnum h e it ((i : Nat) : Int) old) ∧ h.IsTupleIter it a i ∧ e ≠ it) where
  mem := by simp
  obj := fun i h st b hb => by
    obtain ⟨⟨old, he⟩, ⟨o, ho, hc, hd⟩, _⟩ := st
    have e' : b = e ∨ b = it := by simpa using hb
    rcases e' with z | z
    · rw [z]; exact ⟨_, he, fun v q => nomatch q⟩
    · rw [z]; exact ⟨o, ho, fun v q => by rw [hd] at q; cases q⟩
  keep := fun i h h' st k => let ⟨⟨old, he⟩, hi, hne⟩ := st; ⟨⟨old, k e (by simp) _ he⟩, hi.at fun o q => k it (by simp) o q, hne⟩
  item := by
    intro X hP hw hK hc i pins s σ H E I hf st hg
    subst hP hw hK
    obtain ⟨⟨old, he⟩, hit, hne⟩ := st
    obtain ⟨xs, x, hq, hx⟩ := hg
    obtain ⟨its, rv, p, hz⟩ := I.tuple hq
    obtain ⟨u, hu, ru⟩ := rv.get hx
    have hel : e < s.heap.objs.size := Heap.lt_size he
    have hil : it < s.heap.objs.size := by obtain ⟨_, q, _⟩ := hit; exact Heap.lt_size q
    have hh : X.A.in1.handled = none := I.ok.hd hc
    have hlt : i < its.toArray.size := by
      have := rv.length
      have := (List.getElem?_eq_some_iff.mp hx).1
      simp only [List.size_toArray]
      omega
    refine wpAny_pyNext_enum_itemD (Draws.tuple hh it a hai its.toArray) he ⟨hit, p⟩ hlt hne (by simp [hne, Ne.symm hae]) fun x' h' tk hP ho hs' hT hsz hk => ?_
    have ex : x' = u := by
      have h1 : its.toArray[i]? = some x' := hP
      have h2 : its.toArray[i]? = some u := by simpa using hu
      rw [h1] at h2
      exact Option.some.inj h2
    subst ex
    refine ⟨_, rfl, wpAny_letOwnedTupleGo_enum (s := { s with heap := h', toks := tk + 1 }) ho fun h'' he' sb => ?_⟩
    have hT2 : h''.get? s.heap.objs.size = some { cls := .type "tuple", data := .seq #[.int i tk, x'] } := (sb.2 _ (Nat.ne_of_gt hel)).trans hT
    have new : ObjOk X.prog X.w (upd H s.heap.objs.size (.tup [.int (i : Nat), x])) h'' s.heap.objs.size (.tup [.int (i : Nat), x]) :=
      ⟨by show 2 ≤ sizeLine; decide, [.int i tk, x'], .cons ⟨_, rfl⟩ (.cons ru .nil), ⟨_, hT2, rfl, _, rfl⟩⟩
    have I1 : Inv X pins σ (upd H s.heap.objs.size (.tup [.int (i : Nat), x])) { s with heap := h'', toks := tk + 1 } :=
      I.turnedNew (ch := [e, it]) (fun b ob hb q => (sb.2 b (fun z => hb (by simp [z]))).trans (hk b ob (fun z => hb (by simp [z])) (fun z => hb (by simp [z])) q)) hf (Nat.le_refl _) new
    refine ⟨.ref s.heap.objs.size, _, I1, rfl, ⟨_, x, rfl, I.hok.fresh (Nat.le_refl _), rfl, fun ys hy => by rw [sqt_inj I hy hq]; exact hx⟩, ⟨⟨x', ?_⟩, hs'.1.at fun o q => (sb.2 it (Ne.symm hne)).trans q, hne⟩, fun b hb => ?_⟩
    · have e1 : ((i + 1 : Nat) : Int) = (i : Int) + 1 := by omega
      rw [e1]; exact he'
    · have hb' : b < s.heap.objs.size := by
        have e' : b = e ∨ b = it := by simpa using hb
        rcases e' with z | z
        · rw [z]; exact hel
        · rw [z]; exact hil
      rw [upd_ne (Nat.ne_of_lt hb')]
      exact (hf b hb).1
  done := by
    intro X hP hw hK hc i pins s σ H E I hf st hg
    subst hP hw hK
    obtain ⟨⟨old, he⟩, hit, hne⟩ := st
    obtain ⟨xs, hq, hx⟩ := hg
    obtain ⟨its, rv, p, hz⟩ := I.tuple hq
    obtain ⟨f0, f1, f2, f3, f4, f5⟩ := hf it (by simp)
    have hl := rv.length
    have hh : X.A.in1.handled = none := I.ok.hd hc
    have hit' : s.heap.IsTupleIter it a its.toArray.size := by
      have e : its.toArray.size = i := by simp only [List.size_toArray]; omega
      rw [e]
      exact hit
    exact wpAny_pyNext_enum_endD (Draws.tuple hh it a hai its.toArray) he ⟨hit', p⟩ fun h' eb => ⟨rfl, I.turned (t' := s.toks) (fun b o hb q => eb b o hb q) f0 f1 f3 f4 f5⟩
  self := fun A i s Q E st h => let ⟨⟨_, he⟩, _⟩ := st; wpAny_pyIter_enum he h
def iEnumT (K : PySem.W.Frag) (ta : TA) : TI := fun σ H R => ta σ H fun vs H1 => ∃ a xs, vs = [.ref a] ∧ SqT K H1 a xs ∧ R (IteT K a) H1
theorem pi_enumT {X : Cx} {e : Expr} {ta : TA} {p pos tpos : Pos} {elts : List Expr} {kk : Nat} (hg : Gl X "enumerate") (hm : X.mg "enumerate" = none) (ha : PA X [e] ta) (hs : starEach [e] X.env = [(false, eval e X.env)] := by rfl) :
    PI X (.Tuple elts kk tpos) (.Call (.Name "enumerate" p) [e] [] pos) (iEnumT X.K ta) := by
  refine ⟨fun pins s σ H R I h => ?_⟩
  refine PyProof.Rows.Call_ (ld_blt I hg hm PyProof.Rows.boot_enumerate (PyProof.Rows.callWith_type1 (thn (ha.run pos pins s σ H _ I h) fun us s1 ⟨vs, H1, I1, r1, q1⟩ => ?_) hs rfl))
  obtain ⟨a, xs, ex, hq, q⟩ := q1
  subst ex
  cases r1 with
  | cons r rr =>
    cases rr
    cases r
    obtain ⟨its, rv, p', hz⟩ := I1.tuple hq
    have hal : a < s1.heap.objs.size := by obtain ⟨o, ho, _⟩ := id p'; exact Heap.lt_size ho
    refine call_enumerate_B (begins_tuple a its.toArray) p' fun h' he hit hsz hk => wpAny_pyIter_enum he ?_
    have I2 : Inv X pins σ H1 { s1 with heap := h' } := I1.kept (t' := s1.toks) hk
    refine ⟨s1.heap.objs.size + 1, [s1.heap.objs.size + 1, s1.heap.objs.size], _, _, H1, rfl, I2, turn_enumT a (s1.heap.objs.size + 1) s1.heap.objs.size its.toArray (Nat.ne_of_lt (Nat.lt_succ_of_lt hal)) (Nat.ne_of_lt hal), ⟨⟨.none, he⟩, ⟨_, hit, rfl, rfl⟩, Nat.succ_ne_self _⟩, fun b hb => ?_, q⟩
    have e' : b = s1.heap.objs.size + 1 ∨ b = s1.heap.objs.size := by simpa using hb
    have hle : s1.heap.objs.size ≤ b := by
      rcases e' with z | z
      · rw [z]; exact Nat.le_add_right _ _
      · rw [z]; exact Nat.le_refl _
    exact I1.fpOk hle (I1.hok.fresh hle)
section
variable {K : PySem.W.Frag} {a : Addr} {xs : List V}
theorem src_enumT {β : Type} {M : Addr → Prop} {σ : L2.St} {H : Hp} {bs : List β} {enc : β → PyData} {ta : TE} (h : ED ta σ H (.tuple (bs.map enc))) : Src M (iEnumT K (tCons ta tNil)) σ H (numd bs) (fun p => .tuple [.int (p.1 : Nat), enc p.2]) := fun H1 s R r =>
  h H1 s _ fun v H2 s2 hv => by
    obtain ⟨a, xs, rfl, h1, h2⟩ := hv.tup_inv
    have hl : (numd bs).length = xs.length := by rw [numd_length, h2.length, List.length_map]
    refine ⟨a, xs, rfl, .inl (.inl h1), r _ H2 (fun H' => H' a = some (.tup xs) ∧ TpA H' xs (bs.map enc)) s2 ⟨h1, h2⟩ (fun M' H' H'' _ p e => ⟨e.2 _ _ p.1, p.2.kt e.2⟩) ?_⟩
    rw [hl]
    refine ⟨fun i H' hi p => ⟨xs, xs[i], .inl (.inl p.1), by simp [hi]⟩, fun H' p => ⟨xs, .inl (.inl p.1), rfl⟩, fun i H' v H'' hi p y => ?_⟩
    obtain ⟨T, x, rfl, nT, rfl, hx⟩ := y
    have e2 := hx xs (.inl (.inl p.1))
    obtain ⟨b, hb, tb⟩ := tpa_at p.2 e2
    exact ⟨same_new nT _, (i, b), numd_get hb, .tup upd_same (.cons (.int _) (.cons (tb.mono (same_new nT _)) .nil))⟩
end
/-! ### ranges with a step of -1 -/
theorem src_r3 {M : Addr → Prop} {σ : L2.St} {H : Hp} {ta : TA} {a b : Int} (h : EA ta σ H [.int a, .int b, .int (-1)]) (hn : -100000 ≤ a ∧ a ≤ 100000 ∧ -100000 ≤ b ∧ b ≤ 100000) : Src M (iRng3 ta) σ H (rgD a (a - b).toNat) .int := fun H1 s R r =>
  h H1 s _ fun vs H2 s2 hv => by
    obtain ⟨v, w, x, rfl, hv', hw, hx⟩ := tpa3 hv
    cases hv'
    cases hw
    cases hx
    refine ⟨a, b, -1, (a - b).toNat, rfl, RgC.neg (by omega) (by omega) (by omega) (by omega), r _ H2 (fun _ => True) s2 trivial (fun _ _ _ _ _ _ => trivial) ?_⟩
    rw [rgD_length]
    refine walk_rangeC.mono (fun _ _ => trivial) fun i H' x H'' hi _ y => ?_
    obtain ⟨e1, e2⟩ := y
    subst e1 e2
    refine ⟨Same.refl _, _, rgD_get hi, ?_⟩
    have e : a + ((i : Nat) : Int) * (-1) = a - (i : Int) := by omega
    show Tp H'' (V.int (a + ((i : Nat) : Int) * (-1))) _
    rw [e]
    exact .int _
end Lv

set_option Elab.async false
set_option linter.all false
set_option maxRecDepth 100000
set_option maxHeartbeats 4000000
/-! the text by places: slots, scopes, where each def stands -/
namespace Lv
open PySem PySem.Spec L2
open PyProof.Rows (envOfC)
def top (i : Nat) : Stmt := PySem.Challenge.pw_levellers_k11_whole_orders_of_single_dee.main.body.getD i (.Pass ⟨0, 0, 0, 0⟩)
abbrev FnP (K : PySem.W.Frag) (x : Str) (st : Stmt) (f : Addr) (fd : FuncData) : Prop := FunD K x x (defArgs st) (defBody st) (defScope st) [] [] f fd
/-- the def x, the i-th statement of the top, stands where its name says -/
def DefAt (K : PySem.W.Frag) (mg : Str → Option Value) (x : Str) (i : Nat) : Prop := mg x = some (.ref (He.ga K x)) ∧ ∃ fd, FnP K x (top i) (He.ga K x) fd
structure Tx (K : PySem.W.Frag) (mg : Str → Option Value) : Prop where
  d_is_in : DefAt K mg "is_in" 8
  d_is_edge : DefAt K mg "is_edge" 12
  d_need_web : DefAt K mg "need_web" 13
  d_need_roof : DefAt K mg "need_roof" 14
  d_need_table : DefAt K mg "need_table" 15
  d_need_heights : DefAt K mg "need_heights" 16
  d_need_one : DefAt K mg "need_one" 17
  d_need_two : DefAt K mg "need_two" 18
  d_beside_in : DefAt K mg "beside_in" 19
  d_raise_in : DefAt K mg "raise_in" 21
  d_lower_in : DefAt K mg "lower_in" 22
  d_changed : DefAt K mg "changed" 23
  d_doable : DefAt K mg "doable" 24
  d_steep_in : DefAt K mg "steep_in" 27
  d_comes_in : DefAt K mg "comes_in" 29
  d_need_way : DefAt K mg "need_way" 32
  d_need_box : DefAt K mg "need_box" 33
  d_singles : DefAt K mg "singles" 34
  d_is_before : DefAt K mg "is_before" 35
  d_pairs_in : DefAt K mg "pairs_in" 36
  d_deeds_of : DefAt K mg "deeds_of" 37
  d_order_pairs : DefAt K mg "order_pairs" 38
  d_next_in : DefAt K mg "next_in" 39
  d_counts_from : DefAt K mg "counts_from" 40
  d_count_in : DefAt K mg "count_in" 41
  d_ways_count : DefAt K mg "ways_count" 42
  d_law_taken : DefAt K mg "_law_taken" 44
  d_law_pick : DefAt K mg "_law_pick" 45
  d_law_many : DefAt K mg "_law_many" 46
  d_law_table : DefAt K mg "_law_table" 47
  d_law_heights : DefAt K mg "_law_heights" 48
  d_law_step : DefAt K mg "_law_step" 49
  d_law_beside : DefAt K mg "_law_beside" 50
  d_law_deeds : DefAt K mg "_law_deeds" 51
  d_law_after : DefAt K mg "_law_after" 52
  d_law_off : DefAt K mg "_law_off" 53
  d_law_reached : DefAt K mg "_law_reached" 54
  d_law_singles : DefAt K mg "_law_singles" 55
  d_law_rule : DefAt K mg "_law_rule" 56
  d_law_alike : DefAt K mg "_law_alike" 57
  d_law_ways : DefAt K mg "_law_ways" 58
  d_law_lines : DefAt K mg "_law_lines" 59
  d_law : DefAt K mg "law" 60
  b_str : mg "str" = none
  b_isinstance : mg "isinstance" = none
  b_len : mg "len" = none
  b_enumerate : mg "enumerate" = none
  b_range : mg "range" = none
  b_sorted : mg "sorted" = none
  b_set : mg "set" = none
  b_tuple : mg "tuple" = none
  b_list : mg "list" = none
  b_min : mg "min" = none
  b_max : mg "max" = none
  b_sum : mg "sum" = none
  b_int : mg "int" = none
  b_abs : mg "abs" = none
  b_bool : mg "bool" = none
  c_MOST_PLACES : ∃ t, mg "MOST_PLACES" = some (.int 9 t)
  c_MOST_ROOF : ∃ t, mg "MOST_ROOF" = some (.int 9 t)
  c_HIGH : ∃ t, mg "HIGH" = some (.int 2 t)
  c_MOST_BOX : ∃ t, mg "MOST_BOX" = some (.int 4000 t)
/-- a def that keeps a promise: what a caller needs -/
structure Fnx (P : Program) (w : World) (K : PySem.W.Frag) (mg : Str → Option Value) (base : Heap) (k : Nat) (x : Str) (ps : List Str) (sp : Sp) : Prop where
  ex : ∃ f fd, mg x = some (.ref f) ∧ PySem.W.keepIn K (.ref f) = true ∧ Binds K fd ps [] ∧ FnOk P w K mg base CX0 k f fd ps sp
theorem pe_cf {X : Cx} {k : Nat} {x : Str} {ps : List Str} {sp : Sp} {e : Expr} {es : List Expr} {t : TA} {p pos : Pos} (G : Fnx X.prog X.w X.K X.mg X.base k x ps sp) (hr : Room k X.A) (hg : Gl X x) (ha : PA X (e :: es) t)
    (hdb : (x == ("__debug__" : Str)) = false := by decide) (he : starEach (e :: es) X.env = (false, eval e X.env) :: starEach es X.env := by rfl) (hpl : (backTo pos (starEach es X.env)).any (·.1) = false := by rfl) :
    PE X (.Call (.Name x p) (e :: es) [] pos) (tCall sp [] E0 t) := by
  obtain ⟨f, fd, h1, h2, h3, h4⟩ := G.ex
  exact pe_call h4 hr hg h1 h2 h3 .nil pass0 ha hdb he hpl
section
variable {P : Program} {w : World} {K : PySem.W.Frag} {mg : Str → Option Value} {base : Heap}
theorem fnx {x : Str} {i : Nat} {N ps : List Str} {k : Nat} {sp : Sp} (D : DefAt K mg x i) (S : FnScope N ps (defScope (top i)))
    (hb : ∀ (kV doc pm : Value) (an : Option Addr) (cdv ct : Value) (us : List Value), us.length = ps.length → bindArgs (PySem.W.fnOf x x (defArgs (top i)) (defBody (top i)) (defScope (top i)) .none kV doc pm an cdv ct) ⟨us, []⟩ = pure (ps.zip us))
    (len : ∀ vs H Q E, sp vs H Q E → vs.length = ps.length)
    (hbody : ∀ (f : Addr) (cdv : Value) (A : Around) (outer : List Env) (s : Shared) (H : Hp) (vs : List V) (Q : VK) (E : XK), Room k (A.deeper (envOfC x (defScope (top i)) s.heap.objs.size f cdv)) → sp vs H Q E →
      ∃ t, PSs (cxOf CX0 P w K mg base N x (defScope (top i)) f cdv A outer s H E).nox (defBody (top i)) t ∧ t { nx := fun _ H' => Q .non H', rt := Q } (start N vs) H) : Fnx P w K mg base (k + 1) x ps sp := by
  obtain ⟨h1, fd, F⟩ := D
  refine ⟨_, fd, h1, F.kp, F.bindsN hb, F.ok S len fun cdv A outer s H vs Q E hr h => ?_⟩
  obtain ⟨t, a, b⟩ := hbody _ cdv A outer s H vs Q E hr h
  exact ⟨t, a.nox, b⟩
end
abbrev N_is_in : List Str := ["value", "least", "most"]
theorem sc_is_in : FnScope N_is_in ["value", "least", "most"] (defScope (top 8)) := ⟨rfl, rfl, rfl, by decide +kernel, rfl, by decide +kernel, by decide +kernel⟩
abbrev N_is_edge : List Str := ["value", "many", "one"]
theorem sc_is_edge : FnScope N_is_edge ["value", "many"] (defScope (top 12)) := ⟨rfl, rfl, rfl, by decide +kernel, rfl, by decide +kernel, by decide +kernel⟩
abbrev N_need_web : List Str := ["web", "index", "one"]
theorem sc_need_web : FnScope N_need_web ["web"] (defScope (top 13)) := ⟨rfl, rfl, rfl, by decide +kernel, rfl, by decide +kernel, by decide +kernel⟩
abbrev N_need_roof : List Str := ["roof"]
theorem sc_need_roof : FnScope N_need_roof ["roof"] (defScope (top 14)) := ⟨rfl, rfl, rfl, by decide +kernel, rfl, by decide +kernel, by decide +kernel⟩
abbrev N_need_table : List Str := ["web", "roof"]
theorem sc_need_table : FnScope N_need_table ["web", "roof"] (defScope (top 15)) := ⟨rfl, rfl, rfl, by decide +kernel, rfl, by decide +kernel, by decide +kernel⟩
abbrev N_need_heights : List Str := ["many", "roof", "heights", "index", "one"]
theorem sc_need_heights : FnScope N_need_heights ["many", "roof", "heights"] (defScope (top 16)) := ⟨rfl, rfl, rfl, by decide +kernel, rfl, by decide +kernel, by decide +kernel⟩
abbrev N_need_one : List Str := ["web", "roof", "heights"]
theorem sc_need_one : FnScope N_need_one ["web", "roof", "heights"] (defScope (top 17)) := ⟨rfl, rfl, rfl, by decide +kernel, rfl, by decide +kernel, by decide +kernel⟩
abbrev N_need_two : List Str := ["web", "roof", "one", "other"]
theorem sc_need_two : FnScope N_need_two ["web", "roof", "one", "other"] (defScope (top 18)) := ⟨rfl, rfl, rfl, by decide +kernel, rfl, by decide +kernel, by decide +kernel⟩
abbrev N_beside_in : List Str := ["web", "place", "one", "other"]
theorem sc_beside_in : FnScope N_beside_in ["web", "place"] (defScope (top 19)) := ⟨rfl, rfl, rfl, by decide +kernel, rfl, by decide +kernel, by decide +kernel⟩
abbrev N_raise_in : List Str := ["web", "roof", "heights", "found", "place", "lower", "one"]
theorem sc_raise_in : FnScope N_raise_in ["web", "roof", "heights"] (defScope (top 21)) := ⟨rfl, rfl, rfl, by decide +kernel, rfl, by decide +kernel, by decide +kernel⟩
abbrev N_lower_in : List Str := ["web", "heights", "found", "place", "higher", "one"]
theorem sc_lower_in : FnScope N_lower_in ["web", "heights"] (defScope (top 22)) := ⟨rfl, rfl, rfl, by decide +kernel, rfl, by decide +kernel, by decide +kernel⟩
abbrev N_changed : List Str := ["heights", "deed", "up", "place"]
theorem sc_changed : FnScope N_changed ["heights", "deed"] (defScope (top 23)) := ⟨rfl, rfl, rfl, by decide +kernel, rfl, by decide +kernel, by decide +kernel⟩
abbrev N_doable : List Str := ["web", "roof", "heights", "up", "place"]
theorem sc_doable : FnScope N_doable ["web", "roof", "heights"] (defScope (top 24)) := ⟨rfl, rfl, rfl, by decide +kernel, rfl, by decide +kernel, by decide +kernel⟩
abbrev N_steep_in : List Str := ["web", "heights", "found", "one", "other"]
theorem sc_steep_in : FnScope N_steep_in ["web", "heights"] (defScope (top 27)) := ⟨rfl, rfl, rfl, by decide +kernel, rfl, by decide +kernel, by decide +kernel⟩
abbrev N_comes_in : List Str := ["web", "one", "other", "some", "edge"]
theorem sc_comes_in : FnScope N_comes_in ["web", "one", "other"] (defScope (top 29)) := ⟨rfl, rfl, rfl, by decide +kernel, rfl, by decide +kernel, by decide +kernel⟩
abbrev N_need_way : List Str := ["web", "roof", "one", "other"]
theorem sc_need_way : FnScope N_need_way ["web", "roof", "one", "other"] (defScope (top 32)) := ⟨rfl, rfl, rfl, by decide +kernel, rfl, by decide +kernel, by decide +kernel⟩
abbrev N_need_box : List Str := ["web", "roof", "one", "other", "size", "place", "height"]
theorem sc_need_box : FnScope N_need_box ["web", "roof", "one", "other"] (defScope (top 33)) := ⟨rfl, rfl, rfl, by decide +kernel, rfl, by decide +kernel, by decide +kernel⟩
abbrev N_singles : List Str := ["one", "other", "found", "place", "height", "k"]
theorem sc_singles : FnScope N_singles ["one", "other"] (defScope (top 34)) := ⟨rfl, rfl, rfl, by decide +kernel, rfl, by decide +kernel, by decide +kernel⟩
abbrev N_is_before : List Str := ["web", "first", "second", "up", "place", "height", "wide", "there", "start"]
theorem sc_is_before : FnScope N_is_before ["web", "first", "second"] (defScope (top 35)) := ⟨rfl, rfl, rfl, by decide +kernel, rfl, by decide +kernel, by decide +kernel⟩
abbrev N_pairs_in : List Str := ["web", "one", "other", "some", "found", "first", "second"]
theorem sc_pairs_in : FnScope N_pairs_in ["web", "one", "other"] (defScope (top 36)) := ⟨rfl, rfl, rfl, by decide +kernel, rfl, by decide +kernel, by decide +kernel⟩
abbrev N_deeds_of : List Str := ["web", "roof", "one", "other"]
theorem sc_deeds_of : FnScope N_deeds_of ["web", "roof", "one", "other"] (defScope (top 37)) := ⟨rfl, rfl, rfl, by decide +kernel, rfl, by decide +kernel, by decide +kernel⟩
abbrev N_order_pairs : List Str := ["web", "roof", "one", "other"]
theorem sc_order_pairs : FnScope N_order_pairs ["web", "roof", "one", "other"] (defScope (top 38)) := ⟨rfl, rfl, rfl, by decide +kernel, rfl, by decide +kernel, by decide +kernel⟩
abbrev N_next_in : List Str := ["web", "roof", "here", "other", "found", "up", "place"]
theorem sc_next_in : FnScope N_next_in ["web", "roof", "here", "other"] (defScope (top 39)) := ⟨rfl, rfl, rfl, by decide +kernel, rfl, by decide +kernel, by decide +kernel⟩
abbrev N_counts_from : List Str := ["web", "roof", "one", "other", "rows", "found", "more", "here", "deed", "there"]
theorem sc_counts_from : FnScope N_counts_from ["web", "roof", "one", "other"] (defScope (top 40)) := ⟨rfl, rfl, rfl, by decide +kernel, rfl, by decide +kernel, by decide +kernel⟩
abbrev N_count_in : List Str := ["web", "roof", "one", "other"]
theorem sc_count_in : FnScope N_count_in ["web", "roof", "one", "other"] (defScope (top 41)) := ⟨rfl, rfl, rfl, by decide +kernel, rfl, by decide +kernel, by decide +kernel⟩
abbrev N_ways_count : List Str := ["web", "roof", "one", "other"]
theorem sc_ways_count : FnScope N_ways_count ["web", "roof", "one", "other"] (defScope (top 42)) := ⟨rfl, rfl, rfl, by decide +kernel, rfl, by decide +kernel, by decide +kernel⟩
abbrev N_law_taken : List Str := ["_law_row", "_law_many_here", "_law_found", "_law_cell"]
theorem sc_law_taken : FnScope N_law_taken ["_law_row", "_law_many_here"] (defScope (top 44)) := ⟨rfl, rfl, rfl, by decide +kernel, rfl, by decide +kernel, by decide +kernel⟩
abbrev N_law_pick : List Str := ["_law_row", "_law_things"]
theorem sc_law_pick : FnScope N_law_pick ["_law_row", "_law_things"] (defScope (top 45)) := ⟨rfl, rfl, rfl, by decide +kernel, rfl, by decide +kernel, by decide +kernel⟩
abbrev N_law_many : List Str := ["_law_roof", "_law_many_here", "_law_found", "_law_k"]
theorem sc_law_many : FnScope N_law_many ["_law_roof", "_law_many_here"] (defScope (top 46)) := ⟨rfl, rfl, rfl, by decide +kernel, rfl, by decide +kernel, by decide +kernel⟩
abbrev N_law_table : List Str := ["_law_row", "_law_most", "_law_size", "_law_many_here", "_law_way", "_law_thin", "_law_edges", "_law_roof", "_law_count", "_law_k", "_law_j"]
theorem sc_law_table : FnScope N_law_table ["_law_row", "_law_most", "_law_size"] (defScope (top 47)) := ⟨rfl, rfl, rfl, by decide +kernel, rfl, by decide +kernel, by decide +kernel⟩
abbrev N_law_heights : List Str := ["_law_row", "_law_many_here", "_law_roof", "_law_way", "_law_found", "_law_k", "_law_near"]
theorem sc_law_heights : FnScope N_law_heights ["_law_row", "_law_many_here", "_law_roof"] (defScope (top 48)) := ⟨rfl, rfl, rfl, by decide +kernel, rfl, by decide +kernel, by decide +kernel⟩
abbrev N_law_step : List Str := ["_law_heights_here", "_law_deed", "_law_found"]
theorem sc_law_step : FnScope N_law_step ["_law_heights_here", "_law_deed"] (defScope (top 49)) := ⟨rfl, rfl, rfl, by decide +kernel, rfl, by decide +kernel, by decide +kernel⟩
abbrev N_law_beside : List Str := ["_law_web", "_law_place", "_law_k"]
theorem sc_law_beside : FnScope N_law_beside ["_law_web", "_law_place"] (defScope (top 50)) := ⟨rfl, rfl, rfl, by decide +kernel, rfl, by decide +kernel, by decide +kernel⟩
abbrev N_law_deeds : List Str := ["_law_web", "_law_roof", "_law_heights_here", "_law_up", "_law_down", "_law_k", "_law_some", "_law_j"]
theorem sc_law_deeds : FnScope N_law_deeds ["_law_web", "_law_roof", "_law_heights_here"] (defScope (top 51)) := ⟨rfl, rfl, rfl, by decide +kernel, rfl, by decide +kernel, by decide +kernel⟩
abbrev N_law_after : List Str := ["_law_web", "_law_roof", "_law_heights_here", "_law_deed"]
theorem sc_law_after : FnScope N_law_after ["_law_web", "_law_roof", "_law_heights_here"] (defScope (top 52)) := ⟨rfl, rfl, rfl, by decide +kernel, rfl, by decide +kernel, by decide +kernel⟩
abbrev N_law_off : List Str := ["_law_one", "_law_other", "_law_k"]
theorem sc_law_off : FnScope N_law_off ["_law_one", "_law_other"] (defScope (top 53)) := ⟨rfl, rfl, rfl, by decide +kernel, rfl, by decide +kernel, by decide +kernel⟩
abbrev N_law_reached : List Str := ["_law_row", "_law_web", "_law_roof", "_law_one", "_law_most", "_law_here", "_law_turn", "_law_there"]
theorem sc_law_reached : FnScope N_law_reached ["_law_row", "_law_web", "_law_roof", "_law_one", "_law_most"] (defScope (top 54)) := ⟨rfl, rfl, rfl, by decide +kernel, rfl, by decide +kernel, by decide +kernel⟩
abbrev N_law_singles : List Str := ["_law_one", "_law_other", "_law_found", "_law_k", "_law_top"]
theorem sc_law_singles : FnScope N_law_singles ["_law_one", "_law_other"] (defScope (top 55)) := ⟨rfl, rfl, rfl, by decide +kernel, rfl, by decide +kernel, by decide +kernel⟩
abbrev N_law_rule : List Str := ["_law_web", "_law_first", "_law_second", "_law_up", "_law_a", "_law_top", "_law_wide", "_law_b", "_law_start", "_law_near"]
theorem sc_law_rule : FnScope N_law_rule ["_law_web", "_law_first", "_law_second"] (defScope (top 56)) := ⟨rfl, rfl, rfl, by decide +kernel, rfl, by decide +kernel, by decide +kernel⟩
abbrev N_law_alike : List Str := ["_law_found", "_law_due", "_law_k"]
theorem sc_law_alike : FnScope N_law_alike ["_law_found", "_law_due"] (defScope (top 57)) := ⟨rfl, rfl, rfl, by decide +kernel, rfl, by decide +kernel, by decide +kernel⟩
abbrev N_law_ways : List Str := ["_law_web", "_law_roof", "_law_one", "_law_other", "_law_most", "_law_rows", "_law_turn", "_law_more", "_law_word", "_law_here", "_law_deed", "_law_there"]
theorem sc_law_ways : FnScope N_law_ways ["_law_web", "_law_roof", "_law_one", "_law_other", "_law_most"] (defScope (top 58)) := ⟨rfl, rfl, rfl, by decide +kernel, rfl, by decide +kernel, by decide +kernel⟩
abbrev N_law_lines : List Str := ["_law_one", "_law_words", "_law_found", "_law_word", "_law_here", "_law_told", "_law_deed"]
theorem sc_law_lines : FnScope N_law_lines ["_law_one", "_law_words"] (defScope (top 59)) := ⟨rfl, rfl, rfl, by decide +kernel, rfl, by decide +kernel, by decide +kernel⟩
abbrev N_law : List Str := ["_law_script", "_law_row", "_law_web", "_law_roof", "_law_one", "_law_other", "_law_some", "_law_pairs", "_law_first", "_law_words", "_law_rows", "_law_turn", "_law_more", "_law_done", "_law_deed", "_law_second"]
theorem sc_law : FnScope N_law ["_law_script"] (defScope (top 60)) := ⟨rfl, rfl, rfl, by decide +kernel, rfl, by decide +kernel, by decide +kernel⟩
end Lv

set_option Elab.async false
set_option linter.all false
set_option maxRecDepth 100000
set_option maxHeartbeats 4000000
namespace Lv
open PySem PySem.Spec L2
open PyProof.Rows (envOfC)
section
variable {P : Program} {w : World} {K : PySem.W.Frag} {mg : Str → Option Value} {base : Heap}
theorem len_spD {dom : List PyData → PyData → Prop} {n : Nat} (h : ∀ ds r, dom ds r → ds.length = n) : ∀ vs H Q E, spD dom vs H Q E → vs.length = n := by
  rintro vs H Q E ⟨ds, r, hv, hd, _⟩
  rw [hv.length]
  exact h ds r hd
theorem len_spL {dom : List PyData → List PyData → Prop} {n : Nat} (h : ∀ ds r, dom ds r → ds.length = n) : ∀ vs H Q E, spL dom vs H Q E → vs.length = n := by
  rintro vs H Q E ⟨ds, r, hv, hd, _⟩
  rw [hv.length]
  exact h ds r hd
theorem k_ii : kitB "int" "int" = some true := by decide +kernel
theorem k_ib : kitB "int" "bool" = some false := by decide +kernel
theorem k_tt : kitB "tuple" "tuple" = some true := by decide +kernel
theorem k_it : kitB "int" "tuple" = some false := by decide +kernel
theorem k_il : kitB "int" "list" = some false := by decide +kernel
theorem k_bt : kitB "bool" "tuple" = some false := by decide +kernel
theorem k_bl : kitB "bool" "list" = some false := by decide +kernel
theorem k_tl : kitB "tuple" "list" = some false := by decide +kernel
theorem k_bi : kitB "bool" "int" = some true := by decide +kernel
theorem k_bb : kitB "bool" "bool" = some true := by decide +kernel
theorem k_is : kitB "int" "str" = some false := by decide +kernel
theorem k_bs : kitB "bool" "str" = some false := by decide +kernel
/-! ### is_in -/
def dm_is_in : List PyData → PyData → Prop := fun ds r => ∃ v a b : Int, ds = [.int v, .int a, .int b] ∧ r = .bool (decide (a ≤ v) && decide (v ≤ b))
theorem ok_is_in (T : Tx K mg) : Fnx P w K mg base 1 "is_in" ["value", "least", "most"] (spD dm_is_in) := by
  refine fnx T.d_is_in sc_is_in (fun _ _ _ _ _ _ us hl => match us, hl with | [_, _, _], _ => rfl) (len_spD (by rintro ds r ⟨v, a, b, rfl, rfl⟩; rfl)) fun f cdv A outer s H vs Q E hr h => ?_
  obtain ⟨ds, r, hv, ⟨v, a, b, rfl, rfl⟩, q⟩ := h
  obtain ⟨x, y, z, rfl, hx, hy, hz⟩ := tpa3 hv
  refine ⟨_, (pss_one (ps_ret (pe_and (pe_callB call_isi rfl T.b_isinstance PyProof.Rows.boot_isinstance (pa_cons (pv 0) (pa_cons (pe_bltn (v := .ty "int") (by rfl) T.b_int (by decide +kernel) rfl) pa_nil))) (pe_and (pe_not (pe_callB call_isi rfl T.b_isinstance PyProof.Rows.boot_isinstance (pa_cons (pv 0) (pa_cons (pe_bltn (v := .ty "bool") (by rfl) T.b_bool (by decide +kernel) rfl) pa_nil)))) (pe_one (pe_chain op_le op_le (pv 1) (pv 0) (pv 2))))))), ?_⟩
  refine s_retD (ed_is (ed_and (b := decide (a ≤ v) && decide (v ≤ b)) (ed_isi (b := true) (ed_var rfl hx) k_ii) fun _ => ed_is (ed_and (ed_not (ed_isi (b := false) (ed_var rfl hx) k_ib)) fun _ => ed_chain (ed_var rfl hy) (ed_var rfl hx) (ed_var rfl hz) rfl rfl) rfl) rfl) fun v H1 s hv => q v H1 s hv
end
end Lv

set_option Elab.async false
set_option linter.all false
set_option maxRecDepth 100000
set_option maxHeartbeats 4000000
namespace Lv
open PySem PySem.Spec L2
open PyProof.Rows (envOfC)
/-! ### the data of the program -/
abbrev eN (k : Nat) : PyData := .int (k : Int)
def eE (e : Edge) : PyData := .tuple [.int (e.1 : Int), .int (e.2 : Int)]
def eH (h : Hts) : PyData := .tuple (h.map .int)
def eD (d : Deed) : PyData := .tuple [.bool d.1, .int (d.2 : Int)]
def eS (s : Sgl) : PyData := .tuple [.bool s.1, .int (s.2.1 : Int), .int s.2.2]
def eP (p : Sgl × Sgl) : PyData := .tuple [eS p.1, eS p.2]
def eW (n : Nat) (E : List Edge) : PyData := .tuple [.int (n : Int), .tuple (E.map eE)]
def eWd (w : List Deed) : PyData := .tuple (w.map eD)
def eL (l : List Sgl) : PyData := .tuple (l.map eS)
def eX (x : List Deed × Hts) : PyData := .tuple [eWd x.1, eH x.2]
def eA (x : Deed × Hts) : PyData := .tuple [eD x.1, eH x.2]
/-! ### shapes -/
theorem lay_map {β : Type} {enc : β → PyData} (h : ∀ b, (enc b).canLay0 = true) : ∀ bs : List β, PyData.canLayAll0 (bs.map enc) = true
  | [] => by simp [PyData.canLayAll0]
  | b :: bs => by simp [PyData.canLayAll0, h b, lay_map h bs]
theorem depth_map {β : Type} {enc : β → PyData} {n : Nat} (h : ∀ b, (enc b).depth ≤ n) : ∀ bs : List β, PyData.depthAll (bs.map enc) ≤ n
  | [] => by simp [PyData.depthAll]
  | b :: bs => by
    have h1 := depth_map h bs
    have h2 := h b
    simp only [List.map_cons, PyData.depthAll]
    omega
theorem shaped_of {d : PyData} (h1 : d.canLay0 = true) (h2 : d.depth ≤ 64) : SeqAt.shaped d = true := by
  show (d.canLay0 && decide (d.depth ≤ 64)) = true
  rw [h1, Bool.true_and]
  exact decide_eq_true h2
theorem shaped_lst {β : Type} {enc : β → PyData} {n : Nat} (h1 : ∀ b, (enc b).canLay0 = true) (h2 : ∀ b, (enc b).depth ≤ n) (hn : n ≤ 60) (bs : List β) : SeqAt.shaped (.list (bs.map enc)) = true :=
  shaped_of (by simp only [PyData.canLay0]; exact lay_map h1 bs) (by
    have := depth_map h2 bs
    simp only [PyData.depth]
    omega)
theorem shaped_tup {β : Type} {enc : β → PyData} {n : Nat} (h1 : ∀ b, (enc b).canLay0 = true) (h2 : ∀ b, (enc b).depth ≤ n) (hn : n ≤ 60) (bs : List β) : SeqAt.shaped (.tuple (bs.map enc)) = true :=
  shaped_of (by simp only [PyData.canLay0]; exact lay_map h1 bs) (by
    have := depth_map h2 bs
    simp only [PyData.depth]
    omega)
theorem int_lay (i : Int) : (PyData.int i).canLay0 = true := by simp [PyData.canLay0]
theorem int_depth (i : Int) : (PyData.int i).depth ≤ 0 := by simp [PyData.depth]
theorem eE_lay (e : Edge) : (eE e).canLay0 = true := by simp [eE, PyData.canLay0, PyData.canLayAll0]
theorem eE_depth (e : Edge) : (eE e).depth ≤ 1 := by simp [eE, PyData.depth, PyData.depthAll]
theorem eD_lay (e : Deed) : (eD e).canLay0 = true := by simp [eD, PyData.canLay0, PyData.canLayAll0]
theorem eD_depth (e : Deed) : (eD e).depth ≤ 1 := by simp [eD, PyData.depth, PyData.depthAll]
theorem eS_lay (e : Sgl) : (eS e).canLay0 = true := by simp [eS, PyData.canLay0, PyData.canLayAll0]
theorem eS_depth (e : Sgl) : (eS e).depth ≤ 1 := by simp [eS, PyData.depth, PyData.depthAll]
theorem eS_shaped (e : Sgl) : SeqAt.shaped (eS e) = true := shaped_of (eS_lay e) (Nat.le_trans (eS_depth e) (by decide))
theorem eE_shaped (e : Edge) : SeqAt.shaped (eE e) = true := shaped_of (eE_lay e) (Nat.le_trans (eE_depth e) (by decide))
theorem eL_lay (l : List Sgl) : (eL l).canLay0 = true := by
  show PyData.canLay0 (.tuple (l.map eS)) = true
  simp only [PyData.canLay0]
  exact lay_map eS_lay l
theorem eL_depth (l : List Sgl) : (eL l).depth ≤ 2 := by
  have := depth_map eS_depth l
  show PyData.depth (.tuple (l.map eS)) ≤ 2
  simp only [PyData.depth]
  omega
/-! ### equal data -/
theorem eqv_int (a b : Int) : PyData.eqv (.int a) (.int b) = decide (a = b) := by
  simp only [PyData.eqv]
  by_cases h : a = b
  · subst h; simp
  · rw [decide_eq_false h]; exact beq_eq_false_iff_ne.mpr h
theorem eqv_bool (a b : Bool) : PyData.eqv (.bool a) (.bool b) = decide (a = b) := by
  cases a <;> cases b <;> simp [PyData.eqv]
theorem eE_eqv (a b : Edge) : PyData.eqv (eE a) (eE b) = decide (a = b) := by
  obtain ⟨a1, a2⟩ := a
  obtain ⟨b1, b2⟩ := b
  simp only [eE, PyData.eqv, PyData.eqvAll]
  by_cases h1 : a1 = b1
  · by_cases h2 : a2 = b2
    · subst h1 h2
      simp
    · have q : ((a2 : Int) == (b2 : Int)) = false := beq_eq_false_iff_ne.mpr (by omega)
      rw [q, Bool.false_and, Bool.and_false, decide_eq_false (fun e => h2 (Prod.mk.inj e).2)]
  · have q : ((a1 : Int) == (b1 : Int)) = false := beq_eq_false_iff_ne.mpr (by omega)
    rw [q, Bool.false_and, decide_eq_false (fun e => h1 (Prod.mk.inj e).1)]
theorem eS_eqv (a b : Sgl) : PyData.eqv (eS a) (eS b) = decide (a = b) := by
  obtain ⟨a0, a1, a2⟩ := a
  obtain ⟨b0, b1, b2⟩ := b
  have e0 := eqv_bool a0 b0
  have e1 := eqv_int (a1 : Int) (b1 : Int)
  have e2 := eqv_int a2 b2
  have e : PyData.eqv (eS (a0, a1, a2)) (eS (b0, b1, b2)) = (PyData.eqv (.bool a0) (.bool b0) && (PyData.eqv (.int (a1 : Int)) (.int (b1 : Int)) && (PyData.eqv (.int a2) (.int b2) && true))) := by simp only [eS, PyData.eqv, PyData.eqvAll]
  rw [e, e0, e1, e2]
  by_cases h0 : a0 = b0
  · by_cases h1 : a1 = b1
    · by_cases h2 : a2 = b2
      · subst h0 h1 h2
        simp
      · rw [decide_eq_false h2, Bool.false_and, Bool.and_false, Bool.and_false, decide_eq_false (fun e => h2 (Prod.mk.inj (Prod.mk.inj e).2).2)]
    · have q : ¬ (a1 : Int) = (b1 : Int) := by omega
      rw [decide_eq_false q, Bool.false_and, Bool.and_false, decide_eq_false (fun e => h1 (Prod.mk.inj (Prod.mk.inj e).2).1)]
  · rw [decide_eq_false h0, Bool.false_and, decide_eq_false (fun e => h0 (Prod.mk.inj e).1)]
theorem any_contains {β : Type} [DecidableEq β] [BEq β] [LawfulBEq β] {enc : β → PyData} (h : ∀ a b, PyData.eqv (enc a) (enc b) = decide (a = b)) (bs : List β) (x : β) : ((bs.map enc).any fun z => PyData.eqv z (enc x)) = bs.contains x := by
  induction bs with
  | nil => rfl
  | cons b bs ih =>
    rw [List.map_cons, List.any_cons, ih, h, List.contains_cons]
    by_cases e : b = x
    · subst e; simp
    · have e' : ¬ x = b := fun q => e q.symm
      rw [decide_eq_false e, beq_eq_false_iff_ne.mpr e']
theorem at_nat {ds : List PyData} {i : Nat} {d : PyData} (h : ds[i]? = some d) : atI ds (i : Int) = some d := atI_nat h
theorem at0 {a : PyData} {r : List PyData} : atI (a :: r) 0 = some a := atI_nat (j := 0) rfl
theorem at1 {a b : PyData} {r : List PyData} : atI (a :: b :: r) 1 = some b := atI_nat (j := 1) rfl
theorem at2 {a b c : PyData} {r : List PyData} : atI (a :: b :: c :: r) 2 = some c := atI_nat (j := 2) rfl
section
variable {P : Program} {w : World} {K : PySem.W.Frag} {mg : Str → Option Value} {base : Heap} {σ : L2.St} {H : Hp} {te : TE} {n : Nat} {E : List Edge}
theorem ed_web0 (h : ED te σ H (eW n E)) : ED (tOp (rIxT K) te (tC (.int 0))) σ H (.int n) := ed_ixT h ed_int at0
theorem ed_web1 (h : ED te σ H (eW n E)) : ED (tOp (rIxT K) te (tC (.int 1))) σ H (.tuple (E.map eE)) := ed_ixT h ed_int at1
/-- a height -/
theorem ed_ht {tk : TE} {h : Hts} {k : Nat} (a : ED te σ H (eH h)) (b : ED tk σ H (.int (k : Int))) (hk : k < h.length) : ED (tOp (rIxT K) te tk) σ H (.int (ht h k)) :=
  ed_ixT a b (atI_nat (by rw [List.getElem?_map, ht_get hk]; rfl))
/-! ### is_edge -/
def dm_is_edge : List PyData → PyData → Prop := fun ds r => ∃ (e : Edge) (n : Nat), ds = [eE e, .int n] ∧ (e.1 < e.2 ∧ e.2 < n) ∧ r = .bool true
theorem ok_is_edge (T : Tx K mg) (G_is_in : Fnx P w K mg base 1 "is_in" ["value", "least", "most"] (spD dm_is_in)) : Fnx P w K mg base 2 "is_edge" ["value", "many"] (spD dm_is_edge) := by
  refine fnx T.d_is_edge sc_is_edge (fun _ _ _ _ _ _ us hl => match us, hl with | [_, _], _ => rfl) (len_spD (by rintro ds r ⟨e, n, rfl, _, rfl⟩; rfl)) fun f cdv A outer s H vs Q E hr h => ?_
  obtain ⟨ds, r, hv, ⟨e, n, rfl, ⟨h1, h2⟩, rfl⟩, q⟩ := h
  obtain ⟨x, y, rfl, hx, hy⟩ := tpa2 hv
  refine ⟨_, (pss_cons (ps_if (PW.pt (pw_or (pt_not (pt_val (pe_callB call_isi rfl T.b_isinstance PyProof.Rows.boot_isinstance (pa_cons (pv 0) (pa_cons (pe_bltn (v := .ty "tuple") (by rfl) T.b_tuple (by decide +kernel) rfl) pa_nil))))) (pw_or1 (pt_cmpR op_ne (pe_callB call_len_seq rfl T.b_len PySem.boot_len (pa_cons (pv 0) pa_nil)) pe_int (nomark _))))) (pss_one (ps_ret pe_bl)) pss_nil)
      (pss_one (ps_ret (pe_and (pe_cmpR (r := rEqD K) (op_eqD hr.units) (pe_lc (own := [("one", 2)]) (g := gName 2) rfl sc_is_edge.nd (pi_tup (pv 0)) (blkOk_by (own := [("one", 2)]) (N := N_is_edge) (sc := defScope (top 12)) (by decide +kernel)) (fun _ _ _ _ _ => (pg_name (i := 2) sc_is_edge.nd rfl (Or.inl rfl))) (fun _ _ _ _ _ => pts_one (pt_not (pt_val (pe_cf G_is_in (hr.mono (by decide)) rfl (pa_cons (pv 2) (pa_cons pe_int (pa_cons (pe_op op_sub (pv 1) pe_int) pa_nil))))))) (fun _ _ _ _ _ => (pv 2))) (pe_lst pa_nil) (nomark _)) (pe_one (pe_cmpR op_lt (pe_ix (r := rIxT K) ix_tup (pv 0) pe_int (fun _ _ => rfl)) (pe_ix (r := rIxT K) ix_tup (pv 0) pe_int (fun _ _ => rfl)) (nomark _))))))), ?_⟩
  refine s_if (b := false) (eb_or (a := false) (b := false) (eb_not (a := true) (eb_B (ed_isi (ed_var rfl hx) k_tt))) fun _ => eb_test (ed_is (ed_neI (ed_lenT (ed_var rfl hx)) ed_int) rfl)) (fun z => nomatch z) fun _ H1 s1 => ?_
  have hx1 := hx.mono s1
  have hy1 := hy.mono s1
  have src : ∀ {M}, Src M (iTup K (tVar 0)) (start N_is_edge [x, y]) H1 [(e.1 : Int), (e.2 : Int)] PyData.int := src_tup (ed_var rfl hx1)
  refine s_retD (ed_is (ed_and (a := true) (b := true) (ed_is (ed_eqNilN (el_lc src (fun i => !(decide ((0 : Int) ≤ i) && decide (i ≤ (n : Int) - 1))) PyData.int (by simp) fun i v H2 hi s2 hv2 => ⟨_, gt_name, rfl, ?_, fun _ => ?_⟩) (shaped_lst int_lay int_depth (by decide) _) (el_lst ea_nil (by decide))) ?_) fun _ => ed_is (ed_i0 (ed_ixT (ed_var rfl hx1) ed_int at0) (ed_ixT (ed_var rfl hx1) ed_int at1) fun _ => .bl _) ?_) rfl) fun v H2 s2 hv => q v H2 (s1.trans s2) hv
  · exact eb_not (eb_B (ed_call (ea_cons (ed_var rfl hv2) (ea_cons ed_int (ea_cons (ed_i0 (ed_var rfl (hy1.mono s2)) ed_int fun _ => .int _) ea_nil))) ⟨i, 0, _, rfl, rfl⟩))
  · exact ed_var rfl hv2
  · have e0 : (!(decide ((0 : Int) ≤ (e.1 : Int)) && decide ((e.1 : Int) ≤ (n : Int) - 1))) = false := by
      rw [decide_eq_true (by omega), decide_eq_true (by omega)]; rfl
    have e1 : (!(decide ((0 : Int) ≤ (e.2 : Int)) && decide ((e.2 : Int) ≤ (n : Int) - 1))) = false := by
      rw [decide_eq_true (by omega), decide_eq_true (by omega)]; rfl
    rw [List.filter_cons_of_neg (by rw [e0]; decide), List.filter_cons_of_neg (by rw [e1]; decide)]
    rfl
  · rw [decide_eq_true (show (e.1 : Int) < (e.2 : Int) by omega)]
end
end Lv

set_option Elab.async false
set_option linter.all false
set_option maxRecDepth 100000
set_option maxHeartbeats 4000000
namespace Lv
open PySem PySem.Spec L2
open PyProof.Rows (envOfC)
section
variable {P : Program} {w : World} {K : PySem.W.Frag} {mg : Str → Option Value} {base : Heap} {σ : L2.St} {H : Hp} {te : TE}
theorem lex_asc {E : List Edge} (h : E.Pairwise fun e f => e.1 < f.1 ∨ (e.1 = f.1 ∧ e.2 < f.2)) {i : Nat} {e f : Edge} (h1 : E[i]? = some e) (h2 : E[i + 1]? = some f) : e.1 < f.1 ∨ (e.1 = f.1 ∧ e.2 < f.2) := by
  obtain ⟨a, b⟩ := List.getElem?_eq_some_iff.mp h1
  obtain ⟨c, d⟩ := List.getElem?_eq_some_iff.mp h2
  have := List.pairwise_iff_getElem.mp h i (i + 1) a c (by omega)
  rw [b, d] at this
  exact this
theorem le_no {e f : Edge} (h : f.1 < e.1 ∨ (f.1 = e.1 ∧ f.2 < e.2)) :
    Ob.lexAt (fun j => decide (([(e.1 : Int), (e.2 : Int)] : List Int).getD j 0 = ([(f.1 : Int), (f.2 : Int)] : List Int).getD j 0)) (fun j => decide (([(e.1 : Int), (e.2 : Int)] : List Int).getD j 0 ≤ ([(f.1 : Int), (f.2 : Int)] : List Int).getD j 0)) (decide (2 ≤ 2)) 0 2 = false := by
  rw [Ob.lexAt_succ]
  by_cases q : e.1 = f.1
  · rw [if_pos (by simp [q]), Ob.lexAt_succ, if_neg (by simp; omega)]
    simp
    omega
  · rw [if_neg (by simp; omega)]
    simp
    omega
theorem ed_leE {ta tb : TE} {e f : Edge} (ha : ED ta σ H (eE e)) (hb : ED tb σ H (eE f)) (h : f.1 < e.1 ∨ (f.1 = e.1 ∧ f.2 < e.2)) : ED (tOp (rLeT K) ta tb) σ H (.bool false) :=
  ed_opD ha hb fun x y H1 _ hx hy Q q => by
    obtain ⟨a, xs, rfl, h1, h2⟩ := hx.tup_inv
    obtain ⟨b, ys, rfl, k1, k2⟩ := hy.tup_inv
    have e1 := TpA.ints (ns := [(e.1 : Int), (e.2 : Int)]) h2
    have e2 := TpA.ints (ns := [(f.1 : Int), (f.2 : Int)]) k2
    subst e1 e2
    refine ⟨a, b, _, _, rfl, rfl, .inl (.inl h1), .inl (.inl k1), ?_⟩
    have z := le_no h
    have z' := q (.bl false) H1 (Same.refl _) (.bl _)
    rw [← z] at z'
    exact z'
/-! ### need_web -/
def dm_need_web : List PyData → PyData → Prop := fun ds r => ∃ (n : Nat) (E : List Edge), ds = [eW n E] ∧ WebOk n E ∧ r = .none
theorem ok_need_web (T : Tx K mg) (G_is_in : Fnx P w K mg base 1 "is_in" ["value", "least", "most"] (spD dm_is_in)) (G_is_edge : Fnx P w K mg base 2 "is_edge" ["value", "many"] (spD dm_is_edge)) : Fnx P w K mg base 3 "need_web" ["web"] (spD dm_need_web) := by
  refine fnx T.d_need_web sc_need_web (fun _ _ _ _ _ _ us hl => match us, hl with | [_], _ => rfl) (len_spD (by rintro ds r ⟨n, E, rfl, _, rfl⟩; rfl)) fun f cdv A outer s H vs Q E' hr h => ?_
  obtain ⟨ds, r, hv, ⟨n, E, rfl, ok, rfl⟩, q⟩ := h
  obtain ⟨x, rfl, hx⟩ := tpa1 hv
  refine ⟨_, (pss_cons (ps_if (PW.pt (pw_or (pt_not (pt_val (pe_callB call_isi rfl T.b_isinstance PyProof.Rows.boot_isinstance (pa_cons (pv 0) (pa_cons (pe_bltn (v := .ty "tuple") (by rfl) T.b_tuple (by decide +kernel) rfl) pa_nil))))) (pw_or (pt_cmpR op_ne (pe_callB call_len_seq rfl T.b_len PySem.boot_len (pa_cons (pv 0) pa_nil)) pe_int (nomark _)) (pw_or1 (pt_not (pt_val (pe_callB call_isi rfl T.b_isinstance PyProof.Rows.boot_isinstance (pa_cons (pe_ix (r := rIxT K) ix_tup (pv 0) pe_int (fun _ _ => rfl)) (pa_cons (pe_bltn (v := .ty "tuple") (by rfl) T.b_tuple (by decide +kernel) rfl) pa_nil))))))))) (pss_one ps_never) pss_nil)
      (pss_cons (ps_if (pt_not (pt_val (pe_cf G_is_in (hr.mono (by decide)) rfl (pa_cons (pe_ix (r := rIxT K) ix_tup (pv 0) pe_int (fun _ _ => rfl)) (pa_cons pe_int (pa_cons (pe_glob (v := .int 9) rfl T.c_MOST_PLACES.choose_spec ⟨_, rfl⟩) pa_nil)))))) (pss_one ps_never) pss_nil)
      (pss_one (ps_for PassesOwn.never rfl (pi_enumT (by rfl) T.b_enumerate (pa_cons (pe_ix (r := rIxT K) ix_tup (pv 0) pe_int (fun _ _ => rfl)) pa_nil)) (pg_tup rfl (pgs_cons (pg_name (i := 1) sc_need_web.nd rfl (Or.inl rfl)) (pgs_cons (pg_name (i := 2) sc_need_web.nd rfl (Or.inl rfl)) pgs_nil))) (pss_one (ps_if (PW.pt (pw_or (pt_not (pt_val (pe_cf G_is_edge (hr.mono (by decide)) rfl (pa_cons (pv 2) (pa_cons (pe_ix (r := rIxT K) ix_tup (pv 0) pe_int (fun _ _ => rfl)) pa_nil))))) (pw_or1 (PW.pt (pw_and (pt_cmpR op_gt (pv 1) pe_int (nomark _)) (pw_and1 (pt_cmpR (r := rLeT K) (op_leT hr.units0) (pv 2) (pe_ix (r := rIxT K) ix_tup (pe_ix (r := rIxT K) ix_tup (pv 0) pe_int (fun _ _ => rfl)) (pe_op op_sub (pv 1) pe_int) (fun _ _ => rfl)) (nomark _)))))))) (pss_one ps_never) pss_nil)))))), ?_⟩
  have hlo := ok.lo
  have hhi := ok.hi
  refine s_if (b := false) (eb_or (a := false) (b := false) (eb_not (a := true) (eb_B (ed_isi (ed_var rfl hx) k_tt))) fun _ => eb_or (a := false) (b := false) (eb_test (ed_is (ed_neI (ed_lenT (ed_var rfl hx)) ed_int) rfl)) fun _ => eb_not (a := true) (eb_B (ed_isi (ed_web1 (ed_var rfl hx)) k_tt))) (fun z => nomatch z) fun _ H1 s1 => ?_
  have hx1 := hx.mono s1
  refine s_if (b := false) (eb_not (a := true) (eb_B (ed_is (ed_call (dom := dm_is_in) (ea_cons (ed_web0 (ed_var rfl hx1)) (ea_cons ed_int (ea_cons ed_int ea_nil))) ⟨_, _, _, rfl, rfl⟩) (by rw [decide_eq_true (by omega), decide_eq_true (by omega)]; rfl)))) (fun z => nomatch z) fun _ H2 s2 => ?_
  have hx2 := hx1.mono s2
  refine q_for M0 (src_enumT (ed_web1 (ed_var rfl hx2))) (fun i σ' H' => ∃ a b, σ' = [some x, a, b]) (fun _ _ => ⟨_, _, rfl⟩) (fun i p v σ' H' H'' N hp sx hσ s' hv k => ?_) fun σ' H' sx hσ => ?_
  · obtain ⟨a, b, rfl⟩ := hσ
    obtain ⟨e1, e2⟩ := numd_inv hp
    obtain ⟨c, xs, rfl, hc, hxs⟩ := hv.tup_inv
    obtain ⟨y, z, rfl, hy, hz⟩ := tpa2 hxs
    have hx3 := hx2.mono (sx.same.trans s')
    refine gt_two hc gt_name gt_name _ ?_
    refine s_if (b := false) (eb_or (a := false) (b := false) (eb_not (a := true) (eb_B (ed_call (dom := dm_is_edge) (ea_cons (ed_var rfl hz) (ea_cons (ed_web0 (ed_var rfl hx3)) ea_nil)) ⟨p.2, n, rfl, ok.ed p.2 (List.mem_of_getElem? e2), rfl⟩))) fun _ => eb_is (eb_and (a := decide (0 < (p.1 : Int))) (b := false) (eb_test (ed_i0 (ed_var rfl hy) ed_int fun _ => .bl _)) fun h0 => ?_) (Bool.and_false _)) (fun z => nomatch z) fun _ H3 s3 => k _ _ (s'.trans s3).sx ⟨_, _, rfl⟩
    have h0' := of_decide_eq_true h0
    obtain ⟨j, hj⟩ : ∃ j, i = j + 1 := ⟨i - 1, by omega⟩
    subst hj
    have hl := (List.getElem?_eq_some_iff.mp e2).1
    have e3 : E[j]? = some E[j] := List.getElem?_eq_getElem (by omega)
    refine eb_test (ed_leE (e := p.2) (f := E[j]) (ed_var rfl hz) (ed_ixT (ed_web1 (ed_var rfl hx3)) (ed_i0 (ed_var rfl hy) ed_int fun _ => .int _) ?_) (lex_asc ok.asc e3 e2))
    have e4 : (p.1 : Int) - 1 = (j : Int) := by omega
    rw [e4]
    exact atI_nat (by rw [List.getElem?_map, e3]; rfl)
  · exact q .non H' (s1.trans (s2.trans sx.same)) .non
/-! ### need_roof, need_heights -/
def dm_need_roof : List PyData → PyData → Prop := fun ds r => ∃ n : Int, ds = [.int n] ∧ (1 ≤ n ∧ n ≤ 9) ∧ r = .none
theorem ok_need_roof (T : Tx K mg) (G_is_in : Fnx P w K mg base 1 "is_in" ["value", "least", "most"] (spD dm_is_in)) : Fnx P w K mg base 2 "need_roof" ["roof"] (spD dm_need_roof) := by
  refine fnx T.d_need_roof sc_need_roof (fun _ _ _ _ _ _ us hl => match us, hl with | [_], _ => rfl) (len_spD (by rintro ds r ⟨n, rfl, _, rfl⟩; rfl)) fun f cdv A outer s H vs Q E' hr h => ?_
  obtain ⟨ds, r, hv, ⟨n, rfl, ok, rfl⟩, q⟩ := h
  obtain ⟨x, rfl, hx⟩ := tpa1 hv
  refine ⟨_, (pss_one (ps_if (pt_not (pt_val (pe_cf G_is_in (hr.mono (by decide)) rfl (pa_cons (pv 0) (pa_cons pe_int (pa_cons (pe_glob (v := .int 9) rfl T.c_MOST_ROOF.choose_spec ⟨_, rfl⟩) pa_nil)))))) (pss_one ps_never) pss_nil)), ?_⟩
  exact s_if (b := false) (eb_not (a := true) (eb_B (ed_is (ed_call (dom := dm_is_in) (ea_cons (ed_var rfl hx) (ea_cons ed_int (ea_cons ed_int ea_nil))) ⟨_, _, _, rfl, rfl⟩) (by rw [decide_eq_true ok.1, decide_eq_true ok.2]; rfl)))) (fun z => nomatch z) fun _ H2 s2 => q .non H2 s2 .non
def dm_need_heights : List PyData → PyData → Prop := fun ds r => ∃ (n : Nat) (roof : Int) (h : Hts), ds = [.int n, .int roof, eH h] ∧ HtOk n roof h ∧ r = .none
theorem ok_need_heights (T : Tx K mg) (G_is_in : Fnx P w K mg base 1 "is_in" ["value", "least", "most"] (spD dm_is_in)) : Fnx P w K mg base 2 "need_heights" ["many", "roof", "heights"] (spD dm_need_heights) := by
  refine fnx T.d_need_heights sc_need_heights (fun _ _ _ _ _ _ us hl => match us, hl with | [_, _, _], _ => rfl) (len_spD (by rintro ds r ⟨n, roof, h, rfl, _, rfl⟩; rfl)) fun f cdv A outer s H vs Q E' hr h => ?_
  obtain ⟨ds, r, hv, ⟨n, roof, ht, rfl, ok, rfl⟩, q⟩ := h
  obtain ⟨x, y, z, rfl, hx, hy, hz⟩ := tpa3 hv
  refine ⟨_, (pss_cons (ps_if (PW.pt (pw_or (pt_not (pt_val (pe_callB call_isi rfl T.b_isinstance PyProof.Rows.boot_isinstance (pa_cons (pv 2) (pa_cons (pe_bltn (v := .ty "tuple") (by rfl) T.b_tuple (by decide +kernel) rfl) pa_nil))))) (pw_or1 (pt_cmpR op_ne (pe_callB call_len_seq rfl T.b_len PySem.boot_len (pa_cons (pv 2) pa_nil)) (pv 0) (nomark _))))) (pss_one ps_never) pss_nil)
      (pss_one (ps_for PassesOwn.never rfl (pi_enumT (by rfl) T.b_enumerate (pa_cons (pv 2) pa_nil)) (pg_tup rfl (pgs_cons (pg_name (i := 3) sc_need_heights.nd rfl (Or.inl rfl)) (pgs_cons (pg_name (i := 4) sc_need_heights.nd rfl (Or.inl rfl)) pgs_nil))) (pss_one (ps_if (pt_not (pt_val (pe_cf G_is_in (hr.mono (by decide)) rfl (pa_cons (pv 4) (pa_cons pe_int (pa_cons (pv 1) pa_nil)))))) (pss_one ps_never) pss_nil))))), ?_⟩
  refine s_if (b := false) (eb_or (a := false) (b := false) (eb_not (a := true) (eb_B (ed_isi (ed_var rfl hz) k_tt))) fun _ => eb_test (ed_is (ed_neI (ed_lenT (ed_var rfl hz)) (ed_var rfl hx)) (by rw [List.length_map, ok.len, decide_eq_true rfl]; rfl))) (fun z => nomatch z) fun _ H1 s1 => ?_
  have hy1 := hy.mono s1
  refine q_for M0 (src_enumT (ed_var rfl (hz.mono s1))) (fun i σ' H' => ∃ a b, σ' = [some x, some y, some z, a, b]) (fun _ _ => ⟨_, _, rfl⟩) (fun i p v σ' H' H'' N hp sx hσ s' hv k => ?_) fun σ' H' sx hσ => ?_
  · obtain ⟨a, b, rfl⟩ := hσ
    obtain ⟨e1, e2⟩ := numd_inv hp
    obtain ⟨c, xs, rfl, hc, hxs⟩ := hv.tup_inv
    obtain ⟨y', z', rfl, hy', hz'⟩ := tpa2 hxs
    have hr' := ok.rng p.2 (List.mem_of_getElem? e2)
    refine gt_two hc gt_name gt_name _ ?_
    exact s_if (b := false) (eb_not (a := true) (eb_B (ed_is (ed_call (dom := dm_is_in) (ea_cons (ed_var rfl hz') (ea_cons ed_int (ea_cons (ed_var rfl (hy1.mono (sx.same.trans s'))) ea_nil))) ⟨_, _, _, rfl, rfl⟩) (by rw [decide_eq_true hr'.1, decide_eq_true hr'.2]; rfl)))) (fun z => nomatch z) fun _ H3 s3 => k _ _ (s'.trans s3).sx ⟨_, _, rfl⟩
  · exact q .non H' (s1.trans sx.same) .non
/-! ### need_table, need_one, need_two -/
def dm_need_table : List PyData → PyData → Prop := fun ds r => ∃ (n : Nat) (E : List Edge) (roof : Int), ds = [eW n E, .int roof] ∧ WebOk n E ∧ (1 ≤ roof ∧ roof ≤ 9) ∧ r = .none
theorem ok_need_table (T : Tx K mg) (G_need_web : Fnx P w K mg base 3 "need_web" ["web"] (spD dm_need_web)) (G_need_roof : Fnx P w K mg base 2 "need_roof" ["roof"] (spD dm_need_roof)) : Fnx P w K mg base 4 "need_table" ["web", "roof"] (spD dm_need_table) := by
  refine fnx T.d_need_table sc_need_table (fun _ _ _ _ _ _ us hl => match us, hl with | [_, _], _ => rfl) (len_spD (by rintro ds r ⟨n, E, roof, rfl, _, _, rfl⟩; rfl)) fun f cdv A outer s H vs Q E' hr h => ?_
  obtain ⟨ds, r, hv, ⟨n, E, roof, rfl, ok, hroof, rfl⟩, q⟩ := h
  obtain ⟨x, y, rfl, hx, hy⟩ := tpa2 hv
  refine ⟨_, (pss_cons (ps_expr (pe_cf G_need_web (hr.mono (by decide)) rfl (pa_cons (pv 0) pa_nil)))
      (pss_one (ps_expr (pe_cf G_need_roof (hr.mono (by decide)) rfl (pa_cons (pv 1) pa_nil))))), ?_⟩
  refine s_dropD (ed_call (dom := dm_need_web) (ea_cons (ed_var rfl hx) ea_nil) ⟨n, E, rfl, ok, rfl⟩) fun H1 s1 => ?_
  exact s_dropD (ed_call (dom := dm_need_roof) (ea_cons (ed_var rfl (hy.mono s1)) ea_nil) ⟨roof, rfl, hroof, rfl⟩) fun H2 s2 => q .non H2 (s1.trans s2) .non
def dm_need_one : List PyData → PyData → Prop := fun ds r => ∃ (n : Nat) (E : List Edge) (roof : Int) (h : Hts), ds = [eW n E, .int roof, eH h] ∧ WebOk n E ∧ (1 ≤ roof ∧ roof ≤ 9) ∧ HtOk n roof h ∧ r = .none
theorem ok_need_one (T : Tx K mg) (G_need_table : Fnx P w K mg base 4 "need_table" ["web", "roof"] (spD dm_need_table)) (G_need_heights : Fnx P w K mg base 2 "need_heights" ["many", "roof", "heights"] (spD dm_need_heights)) : Fnx P w K mg base 5 "need_one" ["web", "roof", "heights"] (spD dm_need_one) := by
  refine fnx T.d_need_one sc_need_one (fun _ _ _ _ _ _ us hl => match us, hl with | [_, _, _], _ => rfl) (len_spD (by rintro ds r ⟨n, E, roof, h, rfl, _, _, _, rfl⟩; rfl)) fun f cdv A outer s H vs Q E' hr h => ?_
  obtain ⟨ds, r, hv, ⟨n, E, roof, ht, rfl, ok, hroof, hok, rfl⟩, q⟩ := h
  obtain ⟨x, y, z, rfl, hx, hy, hz⟩ := tpa3 hv
  refine ⟨_, (pss_cons (ps_expr (pe_cf G_need_table (hr.mono (by decide)) rfl (pa_cons (pv 0) (pa_cons (pv 1) pa_nil))))
      (pss_one (ps_expr (pe_cf G_need_heights (hr.mono (by decide)) rfl (pa_cons (pe_ix (r := rIxT K) ix_tup (pv 0) pe_int (fun _ _ => rfl)) (pa_cons (pv 1) (pa_cons (pv 2) pa_nil))))))), ?_⟩
  refine s_dropD (ed_call (dom := dm_need_table) (ea_cons (ed_var rfl hx) (ea_cons (ed_var rfl hy) ea_nil)) ⟨n, E, roof, rfl, ok, hroof, rfl⟩) fun H1 s1 => ?_
  exact s_dropD (ed_call (dom := dm_need_heights) (ea_cons (ed_web0 (ed_var rfl (hx.mono s1))) (ea_cons (ed_var rfl (hy.mono s1)) (ea_cons (ed_var rfl (hz.mono s1)) ea_nil))) ⟨n, roof, ht, rfl, hok, rfl⟩) fun H2 s2 => q .non H2 (s1.trans s2) .non
def dm_need_two : List PyData → PyData → Prop := fun ds r => ∃ (n : Nat) (E : List Edge) (roof : Int) (h h2 : Hts), ds = [eW n E, .int roof, eH h, eH h2] ∧ WebOk n E ∧ (1 ≤ roof ∧ roof ≤ 9) ∧ HtOk n roof h ∧ HtOk n roof h2 ∧ r = .none
theorem ok_need_two (T : Tx K mg) (G_need_one : Fnx P w K mg base 5 "need_one" ["web", "roof", "heights"] (spD dm_need_one)) (G_need_heights : Fnx P w K mg base 2 "need_heights" ["many", "roof", "heights"] (spD dm_need_heights)) : Fnx P w K mg base 6 "need_two" ["web", "roof", "one", "other"] (spD dm_need_two) := by
  refine fnx T.d_need_two sc_need_two (fun _ _ _ _ _ _ us hl => match us, hl with | [_, _, _, _], _ => rfl) (len_spD (by rintro ds r ⟨n, E, roof, h, h2, rfl, _, _, _, _, rfl⟩; rfl)) fun f cdv A outer s H vs Q E' hr h => ?_
  obtain ⟨ds, r, hv, ⟨n, E, roof, ht, ht2, rfl, ok, hroof, hok, hok2, rfl⟩, q⟩ := h
  obtain ⟨x, y, z, u, rfl, hx, hy, hz, hu⟩ := tpa4 hv
  refine ⟨_, (pss_cons (ps_expr (pe_cf G_need_one (hr.mono (by decide)) rfl (pa_cons (pv 0) (pa_cons (pv 1) (pa_cons (pv 2) pa_nil)))))
      (pss_one (ps_expr (pe_cf G_need_heights (hr.mono (by decide)) rfl (pa_cons (pe_ix (r := rIxT K) ix_tup (pv 0) pe_int (fun _ _ => rfl)) (pa_cons (pv 1) (pa_cons (pv 3) pa_nil))))))), ?_⟩
  refine s_dropD (ed_call (dom := dm_need_one) (ea_cons (ed_var rfl hx) (ea_cons (ed_var rfl hy) (ea_cons (ed_var rfl hz) ea_nil))) ⟨n, E, roof, ht, rfl, ok, hroof, hok, rfl⟩) fun H1 s1 => ?_
  exact s_dropD (ed_call (dom := dm_need_heights) (ea_cons (ed_web0 (ed_var rfl (hx.mono s1))) (ea_cons (ed_var rfl (hy.mono s1)) (ea_cons (ed_var rfl (hu.mono s1)) ea_nil))) ⟨n, roof, ht2, rfl, hok2, rfl⟩) fun H2 s2 => q .non H2 (s1.trans s2) .non
end
end Lv

set_option Elab.async false
set_option linter.all false
set_option maxRecDepth 100000
set_option maxHeartbeats 4000000
namespace Lv
open PySem PySem.Spec L2
open PyProof.Rows (envOfC)
section
variable {P : Program} {w : World} {K : PySem.W.Frag} {mg : Str → Option Value} {base : Heap} {σ : L2.St} {H : Hp} {te : TE}
theorem sz_ok {n : Nat} (h : n ≤ 1000000) : n ≤ sizeLine := by rw [sizeLine_eq]; omega
theorem sz_lt {n : Nat} (h : n < 1000000) : n < sizeLine := by rw [sizeLine_eq]; omega
/-! ### beside_in -/
def dm_beside_in : List PyData → List PyData → Prop := fun ds r => ∃ (n : Nat) (E : List Edge) (k : Nat), ds = [eW n E, .int k] ∧ WebOk n E ∧ r = (besIn E k).map eN
theorem dI (a b : Nat) : decide ((a : Int) = (b : Int)) = decide (a = b) := by
  by_cases h : a = b
  · rw [decide_eq_true h, decide_eq_true (by omega)]
  · rw [decide_eq_false h, decide_eq_false (by omega)]
theorem ok_beside_in (T : Tx K mg) : Fnx P w K mg base 1 "beside_in" ["web", "place"] (spL dm_beside_in) := by
  refine fnx T.d_beside_in sc_beside_in (fun _ _ _ _ _ _ us hl => match us, hl with | [_, _], _ => rfl) (len_spL (by rintro ds r ⟨n, E, k, rfl, _, rfl⟩; rfl)) fun f cdv A outer s H vs Q E' hr h => ?_
  obtain ⟨ds, r, hv, ⟨n, E, k, rfl, ok, rfl⟩, q⟩ := h
  obtain ⟨x, y, rfl, hx, hy⟩ := tpa2 hv
  refine ⟨_, (pss_one (ps_ret (pe_op op_cat (pe_lc (own := [("one", 2), ("other", 3)]) (g := gTup K 2 (gCons (gName 2) (gCons (gName 3) (gNil)))) rfl sc_beside_in.nd (pi_tup (pe_ix (r := rIxT K) ix_tup (pv 0) pe_int (fun _ _ => rfl))) (blkOk_by (own := [("one", 2), ("other", 3)]) (N := N_beside_in) (sc := defScope (top 19)) (by decide +kernel)) (fun _ _ _ _ _ => (pg_tup rfl (pgs_cons (pg_name (i := 2) sc_beside_in.nd rfl (Or.inl rfl)) (pgs_cons (pg_name (i := 3) sc_beside_in.nd rfl (Or.inl rfl)) pgs_nil)))) (fun _ _ _ _ _ => pts_one (pt_cmpR op_eq (pv 3) (pv 1) (nomark _))) (fun _ _ _ _ _ => (pv 2))) (pe_lc (own := [("one", 2), ("other", 3)]) (g := gTup K 2 (gCons (gName 2) (gCons (gName 3) (gNil)))) rfl sc_beside_in.nd (pi_tup (pe_ix (r := rIxT K) ix_tup (pv 0) pe_int (fun _ _ => rfl))) (blkOk_by (own := [("one", 2), ("other", 3)]) (N := N_beside_in) (sc := defScope (top 19)) (by decide +kernel)) (fun _ _ _ _ _ => (pg_tup rfl (pgs_cons (pg_name (i := 2) sc_beside_in.nd rfl (Or.inl rfl)) (pgs_cons (pg_name (i := 3) sc_beside_in.nd rfl (Or.inl rfl)) pgs_nil)))) (fun _ _ _ _ _ => pts_one (pt_cmpR op_eq (pv 2) (pv 1) (nomark _))) (fun _ _ _ _ _ => (pv 3)))))), ?_⟩
  have hf := ok.few
  have src : ∀ {M : Addr → Prop}, Src M (iTup K (tOp (rIxT K) (tVar 0) (tC (.int 1)))) (start N_beside_in [x, y]) H E eE := src_tup (ed_web1 (ed_var rfl hx))
  refine s_retL (el_is (el_cat (el_lc src (fun e => decide (e.2 = k)) (fun e => .int (e.1 : Int)) (by omega) fun e v H1 he s1 hv => ?_) (el_lc src (fun e => decide (e.1 = k)) (fun e => .int (e.2 : Int)) (by omega) fun e v H1 he s1 hv => ?_) ?_) ?_) q
  · obtain ⟨a, xs, rfl, ha, hxs⟩ := hv.tup_inv
    obtain ⟨y', z', rfl, hy', hz'⟩ := tpa2 hxs
    exact ⟨_, gt_two ha gt_name gt_name, rfl, eb_is (eb_test (ed_eqI (ed_var rfl hz') (ed_var rfl (hy.mono s1)))) (dI _ _), fun _ => ed_var rfl hy'⟩
  · obtain ⟨a, xs, rfl, ha, hxs⟩ := hv.tup_inv
    obtain ⟨y', z', rfl, hy', hz'⟩ := tpa2 hxs
    exact ⟨_, gt_two ha gt_name gt_name, rfl, eb_is (eb_test (ed_eqI (ed_var rfl hy') (ed_var rfl (hy.mono s1)))) (dI _ _), fun _ => ed_var rfl hz'⟩
  · refine sz_ok ?_
    rw [List.length_map, List.length_map]
    have h1 := List.length_filter_le (fun e : Edge => decide (e.2 = k)) E
    have h2 := List.length_filter_le (fun e : Edge => decide (e.1 = k)) E
    omega
  · unfold besIn
    rw [List.map_append, List.map_map, List.map_map]
    rfl
/-! ### raise_in, lower_in -/
theorem takeR {n i : Nat} (h : i < n) (p : Nat → Bool) : (List.range (i + 1)).filter p = (List.range i).filter p ++ (if p i = true then [i] else []) := by
  rw [List.range_succ, List.filter_append]
  cases hp : p i with
  | true => rw [List.filter_cons_of_pos hp]; rfl
  | false => rw [List.filter_cons_of_neg (by rw [hp]; decide)]; rfl
def dm_raise_in : List PyData → List PyData → Prop := fun ds r => ∃ (n : Nat) (E : List Edge) (roof : Int) (h : Hts), ds = [eW n E, .int roof, eH h] ∧ WebOk n E ∧ h.length = n ∧ r = (raiseIn n E roof h).map eN
theorem ok_raise_in (T : Tx K mg) (G_beside_in : Fnx P w K mg base 1 "beside_in" ["web", "place"] (spL dm_beside_in)) : Fnx P w K mg base 2 "raise_in" ["web", "roof", "heights"] (spL dm_raise_in) := by
  refine fnx T.d_raise_in sc_raise_in (fun _ _ _ _ _ _ us hl => match us, hl with | [_, _, _], _ => rfl) (len_spL (by rintro ds r ⟨n, E, roof, h, rfl, _, _, rfl⟩; rfl)) fun f cdv A outer s H vs Q E' hr h => ?_
  obtain ⟨ds, r, hv, ⟨n, E, roof, hh, rfl, ok, hlen, rfl⟩, q⟩ := h
  obtain ⟨x, y, z, rfl, hx, hy, hz⟩ := tpa3 hv
  refine ⟨_, (pss_cons (ps_set (i := 3) sc_raise_in.nd rfl (Or.inl rfl) (pe_lst pa_nil))
      (pss_cons (ps_for PassesOwn.never rfl (pi_range1 rfl T.b_range (pa_cons (pe_ix (r := rIxT K) ix_tup (pv 0) pe_int (fun _ _ => rfl)) pa_nil)) (pg_name (i := 4) sc_raise_in.nd rfl (Or.inr rfl)) (pss_cons (ps_setLc (i := 5) (own := [("one", 6)]) (g := gName 6) rfl sc_raise_in.nd rfl rfl (sw_true rfl rfl rfl (by decide +kernel)) (pi_list (pe_cf G_beside_in (hr.mono (by decide)) rfl (pa_cons (pv 0) (pa_cons (pv 4) pa_nil)))) (blkOk_by (own := [("one", 6)]) (N := N_raise_in) (sc := defScope (top 21)) (by decide +kernel)) (fun _ _ _ _ _ => (pg_name (i := 6) sc_raise_in.nd rfl (Or.inl rfl))) (fun _ _ _ _ _ => pts_one (pt_cmpR op_lt (pe_ix (r := rIxT K) ix_tup (pv 2) (pv 6) (fun _ _ => rfl)) (pe_ix (r := rIxT K) ix_tup (pv 2) (pv 4) (fun _ _ => rfl)) (nomark _))) (fun _ _ _ _ _ => (pv 6)))
      (pss_one (ps_if (PW.pt (pw_and (pt_cmpR op_lt (pe_ix (r := rIxT K) ix_tup (pv 2) (pv 4) (fun _ _ => rfl)) (pv 1) (nomark _)) (pw_and1 (pt_cmpR (r := rEqD K) (op_eqD hr.units) (pv 5) (pe_lst pa_nil) (nomark _))))) (pss_one (ps_expr (pe_bm PySem.F.plainAttrs_list PySem.F.slot_list_append PySem.F.type_list_append mt_append (pv 3) (pa_cons (pv 4) pa_nil)))) pss_nil))))
      (pss_one (ps_ret (pv 3))))), ?_⟩
  have hhi := ok.hi
  refine s_asgL (el_lst ea_nil (by decide)) fun p xs H1 hp s1 h1 t1 => ?_
  have hx1 := hx.mono s1
  let good : Nat → Bool := fun p => decide (ht hh p < roof) && ((besIn E p).filter fun j => decide (ht hh j < ht hh p)).isEmpty
  refine q_for (fun a => a = p) (src_r1 (n := n) (ea_cons (ed_web0 (ed_var rfl hx1)) ea_nil) (by omega)) (fun i σ' H' => ∃ a b ys, σ' = [some x, some y, some z, some (.ref p), a, b, none] ∧ H' p = some (.lst ys) ∧ TpA H' ys (((List.range i).filter good).map eN)) (fun H2 s2 => ⟨none, none, xs, rfl, s2 _ _ h1, by cases t1; exact .nil⟩) (fun i v0 v σ' H' H'' N hi sx hσ s' hv k => ?_) fun σ' H' sx hσ => ?_
  · obtain ⟨a, b, ys, rfl, hp', ht'⟩ := hσ
    obtain ⟨hin, rfl⟩ := rgN_inv hi
    rw [show (0 : Int) + (i : Int) = (i : Int) by omega] at hv
    have e2 : KT H H'' := (s1.kt.trans sx.2).trans s'.kt
    have hx2 := hx.kt e2
    have hy2 := hy.kt e2
    have hz2 := hz.kt e2
    refine gt_name _ ?_
    refine s_asgL (el_lc (src_lstN (bs := besIn E i) (enc := eN) (el_call (dom := dm_beside_in) (ea_cons (ed_var rfl hx2) (ea_cons (ed_var rfl hv) ea_nil)) ⟨n, E, i, rfl, ok, rfl⟩) (fun _ z => z.elim)) (fun j => decide (ht hh j < ht hh i)) (eN) (by have := besIn_few ok i; omega) fun j v' H3 hj s3 hv' => ⟨_, gt_name, rfl, ?_, fun _ => ed_var rfl hv'⟩) fun l ls H3 hl s3 h3 t3 => ?_
    · have hj' := besIn_lt ok hj
      exact eb_test (ed_i0 (ed_ht (ed_var rfl (hz2.mono s3)) (ed_var rfl hv') (by omega)) (ed_ht (ed_var rfl (hz2.mono s3)) (ed_var rfl (hv.mono s3)) (by omega)) fun _ => .bl _)
    · have hz3 := hz2.mono s3
      have hv3 := hv.mono s3
      have hp3 : H3 p = some (.lst ys) := s3 _ _ (s' _ _ hp')
      refine s_if (b := good i) (eb_and (eb_test (ed_i0 (ed_ht (ed_var rfl hz3) (ed_var rfl hv3) (by omega)) (ed_var rfl (hy2.mono s3)) fun _ => .bl _)) fun _ => eb_test (ed_is (ed_eqNil (ev_var rfl) h3 t3 (shaped_lst (enc := eN) (fun j => int_lay j) (fun j => int_depth j) (by decide) _) (el_lst ea_nil (by decide))) (by rw [List.isEmpty_map]))) (fun hg H4 s4 => ?_) fun hg H4 s4 => ?_
      · have hp4 : H4 p = some (.lst ys) := s4 _ _ hp3
        have hlen' := ht'.length
        refine s_app hp4 (ev_var rfl) (ed_var rfl (hv3.mono s4)) (sz_lt ?_) fun v5 H5 s5 hv5 => k _ _ ?_ ⟨_, _, _, rfl, upd_same, ?_⟩
        · rw [hlen', List.length_map]
          have := List.length_filter_le good (List.range i)
          rw [List.length_range] at this
          omega
        · exact ((s'.trans (s3.trans (s4.trans s5))).sx).trans (SX.put rfl (s5 _ _ hp4))
        · rw [takeR hin, if_pos hg, List.map_append]
          exact ((ht'.mono (s'.trans (s3.trans (s4.trans s5)))).app (.cons hv5 .nil)).kt (SX.put (M := fun a => a = p) rfl (s5 _ _ hp4)).2
      · have ss := s'.trans (s3.trans s4)
        refine k _ _ ss.sx ⟨_, _, ys, rfl, ss _ _ hp', ?_⟩
        rw [takeR hin, if_neg (by rw [hg]; decide), List.append_nil]
        exact ht'.mono ss
  · obtain ⟨a, b, ys, rfl, hp', ht'⟩ := hσ
    rw [rgN_length] at ht'
    have sm : Same H H' := (s1.sx.trans sx).same_of fun b hb => by rw [hb]; exact hp
    exact s_retV (ev_var rfl) fun H2 s2 => q p ys H2 hp (sm.trans s2) (s2 _ _ hp') (ht'.mono s2)
def dm_lower_in : List PyData → List PyData → Prop := fun ds r => ∃ (n : Nat) (E : List Edge) (h : Hts), ds = [eW n E, eH h] ∧ WebOk n E ∧ h.length = n ∧ r = (lowerIn n E h).map eN
theorem ok_lower_in (T : Tx K mg) (G_beside_in : Fnx P w K mg base 1 "beside_in" ["web", "place"] (spL dm_beside_in)) : Fnx P w K mg base 2 "lower_in" ["web", "heights"] (spL dm_lower_in) := by
  refine fnx T.d_lower_in sc_lower_in (fun _ _ _ _ _ _ us hl => match us, hl with | [_, _], _ => rfl) (len_spL (by rintro ds r ⟨n, E, h, rfl, _, _, rfl⟩; rfl)) fun f cdv A outer s H vs Q E' hr h => ?_
  obtain ⟨ds, r, hv, ⟨n, E, hh, rfl, ok, hlen, rfl⟩, q⟩ := h
  obtain ⟨x, z, rfl, hx, hz⟩ := tpa2 hv
  refine ⟨_, (pss_cons (ps_set (i := 2) sc_lower_in.nd rfl (Or.inl rfl) (pe_lst pa_nil))
      (pss_cons (ps_for PassesOwn.never rfl (pi_range1 rfl T.b_range (pa_cons (pe_ix (r := rIxT K) ix_tup (pv 0) pe_int (fun _ _ => rfl)) pa_nil)) (pg_name (i := 3) sc_lower_in.nd rfl (Or.inr rfl)) (pss_cons (ps_setLc (i := 4) (own := [("one", 5)]) (g := gName 5) rfl sc_lower_in.nd rfl rfl (sw_true rfl rfl rfl (by decide +kernel)) (pi_list (pe_cf G_beside_in (hr.mono (by decide)) rfl (pa_cons (pv 0) (pa_cons (pv 3) pa_nil)))) (blkOk_by (own := [("one", 5)]) (N := N_lower_in) (sc := defScope (top 22)) (by decide +kernel)) (fun _ _ _ _ _ => (pg_name (i := 5) sc_lower_in.nd rfl (Or.inl rfl))) (fun _ _ _ _ _ => pts_one (pt_cmpR op_gt (pe_ix (r := rIxT K) ix_tup (pv 1) (pv 5) (fun _ _ => rfl)) (pe_ix (r := rIxT K) ix_tup (pv 1) (pv 3) (fun _ _ => rfl)) (nomark _))) (fun _ _ _ _ _ => (pv 5)))
      (pss_one (ps_if (PW.pt (pw_and (pt_cmpR op_gt (pe_ix (r := rIxT K) ix_tup (pv 1) (pv 3) (fun _ _ => rfl)) pe_int (nomark _)) (pw_and1 (pt_cmpR (r := rEqD K) (op_eqD hr.units) (pv 4) (pe_lst pa_nil) (nomark _))))) (pss_one (ps_expr (pe_bm PySem.F.plainAttrs_list PySem.F.slot_list_append PySem.F.type_list_append mt_append (pv 2) (pa_cons (pv 3) pa_nil)))) pss_nil))))
      (pss_one (ps_ret (pv 2))))), ?_⟩
  have hhi := ok.hi
  refine s_asgL (el_lst ea_nil (by decide)) fun p xs H1 hp s1 h1 t1 => ?_
  have hx1 := hx.mono s1
  let good : Nat → Bool := fun p => decide (0 < ht hh p) && ((besIn E p).filter fun j => decide (ht hh p < ht hh j)).isEmpty
  refine q_for (fun a => a = p) (src_r1 (n := n) (ea_cons (ed_web0 (ed_var rfl hx1)) ea_nil) (by omega)) (fun i σ' H' => ∃ a b ys, σ' = [some x, some z, some (.ref p), a, b, none] ∧ H' p = some (.lst ys) ∧ TpA H' ys (((List.range i).filter good).map eN)) (fun H2 s2 => ⟨none, none, xs, rfl, s2 _ _ h1, by cases t1; exact .nil⟩) (fun i v0 v σ' H' H'' N hi sx hσ s' hv k => ?_) fun σ' H' sx hσ => ?_
  · obtain ⟨a, b, ys, rfl, hp', ht'⟩ := hσ
    obtain ⟨hin, rfl⟩ := rgN_inv hi
    rw [show (0 : Int) + (i : Int) = (i : Int) by omega] at hv
    have e2 : KT H H'' := (s1.kt.trans sx.2).trans s'.kt
    have hx2 := hx.kt e2
    have hz2 := hz.kt e2
    refine gt_name _ ?_
    refine s_asgL (el_lc (src_lstN (bs := besIn E i) (enc := eN) (el_call (dom := dm_beside_in) (ea_cons (ed_var rfl hx2) (ea_cons (ed_var rfl hv) ea_nil)) ⟨n, E, i, rfl, ok, rfl⟩) (fun _ z => z.elim)) (fun j => decide (ht hh i < ht hh j)) (eN) (by have := besIn_few ok i; omega) fun j v' H3 hj s3 hv' => ⟨_, gt_name, rfl, ?_, fun _ => ed_var rfl hv'⟩) fun l ls H3 hl s3 h3 t3 => ?_
    · have hj' := besIn_lt ok hj
      exact eb_test (ed_i0 (ed_ht (ed_var rfl (hz2.mono s3)) (ed_var rfl hv') (by omega)) (ed_ht (ed_var rfl (hz2.mono s3)) (ed_var rfl (hv.mono s3)) (by omega)) fun _ => .bl _)
    · have hz3 := hz2.mono s3
      have hv3 := hv.mono s3
      have hp3 : H3 p = some (.lst ys) := s3 _ _ (s' _ _ hp')
      refine s_if (b := good i) (eb_and (eb_test (ed_i0 (ed_ht (ed_var rfl hz3) (ed_var rfl hv3) (by omega)) ed_int fun _ => .bl _)) fun _ => eb_test (ed_is (ed_eqNil (ev_var rfl) h3 t3 (shaped_lst (enc := eN) (fun j => int_lay j) (fun j => int_depth j) (by decide) _) (el_lst ea_nil (by decide))) (by rw [List.isEmpty_map]))) (fun hg H4 s4 => ?_) fun hg H4 s4 => ?_
      · have hp4 : H4 p = some (.lst ys) := s4 _ _ hp3
        have hlen' := ht'.length
        refine s_app hp4 (ev_var rfl) (ed_var rfl (hv3.mono s4)) (sz_lt ?_) fun v5 H5 s5 hv5 => k _ _ ?_ ⟨_, _, _, rfl, upd_same, ?_⟩
        · rw [hlen', List.length_map]
          have := List.length_filter_le good (List.range i)
          rw [List.length_range] at this
          omega
        · exact ((s'.trans (s3.trans (s4.trans s5))).sx).trans (SX.put rfl (s5 _ _ hp4))
        · rw [takeR hin, if_pos hg, List.map_append]
          exact ((ht'.mono (s'.trans (s3.trans (s4.trans s5)))).app (.cons hv5 .nil)).kt (SX.put (M := fun a => a = p) rfl (s5 _ _ hp4)).2
      · have ss := s'.trans (s3.trans s4)
        refine k _ _ ss.sx ⟨_, _, ys, rfl, ss _ _ hp', ?_⟩
        rw [takeR hin, if_neg (by rw [hg]; decide), List.append_nil]
        exact ht'.mono ss
  · obtain ⟨a, b, ys, rfl, hp', ht'⟩ := hσ
    rw [rgN_length] at ht'
    have sm : Same H H' := (s1.sx.trans sx).same_of fun b hb => by rw [hb]; exact hp
    exact s_retV (ev_var rfl) fun H2 s2 => q p ys H2 hp (sm.trans s2) (s2 _ _ hp') (ht'.mono s2)
/-! ### changed, doable -/
def dm_changed : List PyData → PyData → Prop := fun ds r => ∃ (h : Hts) (d : Deed), ds = [eH h, eD d] ∧ d.2 < h.length ∧ h.length ≤ 100 ∧ r = eH (chg h d)
theorem ed_neg {ta : TE} {i : Int} (h : ED ta σ H (.int i)) : ED (tUn (rU fun i => .int (-i)) ta) σ H (.int (-i)) := fun H1 s Q q => ev_int h H1 s _ fun H2 s2 => ⟨i, rfl, q _ H2 s2 (.int _)⟩
theorem ok_changed (T : Tx K mg) : Fnx P w K mg base 1 "changed" ["heights", "deed"] (spD dm_changed) := by
  refine fnx T.d_changed sc_changed (fun _ _ _ _ _ _ us hl => match us, hl with | [_, _], _ => rfl) (len_spD (by rintro ds r ⟨h, d, rfl, _, _, rfl⟩; rfl)) fun f cdv A outer s H vs Q E' hr h => ?_
  obtain ⟨ds, r, hv, ⟨hh, d, rfl, hd, h100, rfl⟩, q⟩ := h
  obtain ⟨x, y, rfl, hx, hy⟩ := tpa2 hv
  refine ⟨_, (pss_cons (ps_asg (pv 1) (pg_tup rfl (pgs_cons (pg_name (i := 2) sc_changed.nd rfl (Or.inl rfl)) (pgs_cons (pg_name (i := 3) sc_changed.nd rfl (Or.inl rfl)) pgs_nil))))
      (pss_one (ps_ret (pe_op (r := rCatA K) op_catA (pe_op (r := rCatA K) op_catA (pe_slice sl_tupA (pv 0) po_none (po_some (pv 3))) (pe_tup (pa_cons (pe_op op_add (pe_ix (r := rIxT K) ix_tup (pv 0) (pv 3) (fun _ _ => rfl)) (pe_ifExp (pt_val (pv 2)) pe_int (pe_un un_neg pe_int))) pa_nil))) (pe_slice sl_tupA (pv 0) (po_some (pe_op op_add (pv 3) pe_int)) po_none))))), ?_⟩
  obtain ⟨a, xs, rfl, ha, hxs⟩ := hy.tup_inv
  obtain ⟨y', z', rfl, hy', hz'⟩ := tpa2 hxs
  refine ⟨_, rfl, ?_⟩
  refine gt_two ha gt_name gt_name _ ?_
  have hx1 := hx
  have hl : (hh.map PyData.int).length = hh.length := List.length_map _
  refine s_retD (ed_is (ed_cat (ed_cat (ed_slA (a := 0) (b := d.2) (ed_var rfl hx1) eo_none (eo_some (ed_var rfl hz')) rfl (by rw [hl]; exact sIx_hi (by omega))) (ed_tup (ea_cons (ed_i0 (ed_ht (ed_var rfl hx1) (ed_var rfl hz') hd) (ed_if (d := .int (if d.1 = true then 1 else -1)) (eb_B (ed_var rfl hy')) (fun e => by rw [e]; exact ed_int) (fun e => by rw [e]; exact ed_neg ed_int)) fun _ => .int _) ea_nil) (by show 1 ≤ 100000; omega)) ?_) (ed_slA (a := d.2 + 1) (b := hh.length) (ed_var rfl hx1) (eo_some (ed_i0 (ed_var rfl hz') ed_int fun _ => .int _)) eo_none ?_ (by rw [hl]; rfl)) ?_) ?_) fun v H2 s2 hv => q v H2 s2 hv
  · rw [List.length_take, List.length_drop, hl]
    show _ + 1 ≤ _
    omega
  · rw [hl]
    exact sIx_lo (n := hh.length) (k := d.2 + 1) (by omega)
  · rw [List.length_append, List.length_take, List.length_drop, List.length_take, List.length_drop, hl]
    show _ + 1 + _ ≤ _
    omega
  · unfold eH chg
    rw [List.set_eq_take_append_cons_drop, if_pos hd, List.map_append, List.map_cons, List.map_take, List.map_drop]
    congr 1
    rw [List.drop_zero, Nat.sub_zero, List.append_assoc]
    congr 1
    rw [List.take_of_length_le (l := List.drop (d.2 + 1) (hh.map PyData.int)) (by rw [List.length_drop, hl]; omega)]
    rfl
def dm_doable : List PyData → List PyData → Prop := fun ds r => ∃ (n : Nat) (E : List Edge) (roof : Int) (h : Hts), ds = [eW n E, .int roof, eH h] ∧ WebOk n E ∧ h.length = n ∧ r = (doableM n E roof h).map eD
theorem raise_few {n : Nat} {E : List Edge} {roof : Int} {h : Hts} : (raiseIn n E roof h).length ≤ n := Nat.le_trans (List.length_filter_le _ _) (by rw [List.length_range]; exact Nat.le_refl _)
theorem lower_few {n : Nat} {E : List Edge} {h : Hts} : (lowerIn n E h).length ≤ n := Nat.le_trans (List.length_filter_le _ _) (by rw [List.length_range]; exact Nat.le_refl _)
theorem ok_doable (T : Tx K mg) (G_raise_in : Fnx P w K mg base 2 "raise_in" ["web", "roof", "heights"] (spL dm_raise_in)) (G_lower_in : Fnx P w K mg base 2 "lower_in" ["web", "heights"] (spL dm_lower_in)) : Fnx P w K mg base 3 "doable" ["web", "roof", "heights"] (spL dm_doable) := by
  refine fnx T.d_doable sc_doable (fun _ _ _ _ _ _ us hl => match us, hl with | [_, _, _], _ => rfl) (len_spL (by rintro ds r ⟨n, E, roof, h, rfl, _, _, rfl⟩; rfl)) fun f cdv A outer s H vs Q E' hr h => ?_
  obtain ⟨ds, r, hv, ⟨n, E, roof, hh, rfl, ok, hlen, rfl⟩, q⟩ := h
  obtain ⟨x, y, z, rfl, hx, hy, hz⟩ := tpa3 hv
  refine ⟨_, (pss_cons (ps_setLc (i := 3) (own := [("place", 4)]) (g := gName 4) rfl sc_doable.nd rfl rfl (sw_true rfl rfl rfl (by decide +kernel)) (pi_list (pe_cf G_raise_in (hr.mono (by decide)) rfl (pa_cons (pv 0) (pa_cons (pv 1) (pa_cons (pv 2) pa_nil))))) (blkOk_by (own := [("place", 4)]) (N := N_doable) (sc := defScope (top 24)) (by decide +kernel)) (fun _ _ _ _ _ => (pg_name (i := 4) sc_doable.nd rfl (Or.inl rfl))) (fun _ _ _ _ _ => pts_nil) (fun _ _ _ _ _ => (pe_tup (pa_cons pe_bl (pa_cons (pv 4) pa_nil)))))
      (pss_one (ps_ret (pe_op op_cat (pv 3) (pe_lc (own := [("place", 4)]) (g := gName 4) rfl sc_doable.nd (pi_list (pe_cf G_lower_in (hr.mono (by decide)) rfl (pa_cons (pv 0) (pa_cons (pv 2) pa_nil)))) (blkOk_by (own := [("place", 4)]) (N := N_doable) (sc := defScope (top 24)) (by decide +kernel)) (fun _ _ _ _ _ => (pg_name (i := 4) sc_doable.nd rfl (Or.inl rfl))) (fun _ _ _ _ _ => pts_nil) (fun _ _ _ _ _ => (pe_tup (pa_cons pe_bl (pa_cons (pv 4) pa_nil))))))))), ?_⟩
  have hhi := ok.hi
  have h1 := raise_few (n := n) (E := E) (roof := roof) (h := hh)
  have h2 := lower_few (n := n) (E := E) (h := hh)
  refine s_asgL (el_lcY (src_lstN (bs := raiseIn n E roof hh) (enc := eN) (el_call (dom := dm_raise_in) (ea_cons (ed_var rfl hx) (ea_cons (ed_var rfl hy) (ea_cons (ed_var rfl hz) ea_nil))) ⟨n, E, roof, hh, rfl, ok, hlen, rfl⟩) (fun _ z => z.elim)) (fun j => eD (true, j)) (by omega) fun j v' H3 hj s3 hv' => ⟨_, gt_name, rfl, ed_tup (ea_cons ed_bl (ea_cons (ed_var rfl hv') ea_nil)) (by show 2 ≤ 100000; omega)⟩) fun p xs H1 hp s1 hp1 t1 => ?_
  refine s_retL (el_is (el_catV (ev_var rfl) hp1 t1 (el_lcY (src_lstN (bs := lowerIn n E hh) (enc := eN) (el_call (dom := dm_lower_in) (ea_cons (ed_var rfl (hx.mono s1)) (ea_cons (ed_var rfl (hz.mono s1)) ea_nil)) ⟨n, E, hh, rfl, ok, hlen, rfl⟩) (fun _ z => z.elim)) (fun j => eD (false, j)) (by omega) fun j v' H3 hj s3 hv' => ⟨_, gt_name, rfl, ed_tup (ea_cons ed_bl (ea_cons (ed_var rfl hv') ea_nil)) (by show 2 ≤ 100000; omega)⟩) ?_) ?_) fun p' xs' H2 hp2 s2 => q p' xs' H2 (s1.free hp2) (s1.trans s2)
  · refine sz_ok ?_
    rw [List.length_map, List.length_map]
    omega
  · unfold doableM
    rw [List.map_append, List.map_map, List.map_map]
    rfl
end
end Lv

set_option Elab.async false
set_option linter.all false
set_option maxRecDepth 100000
set_option maxHeartbeats 4000000
/-! sorted(xs) of data of any length -/
namespace Lv
open PySem PySem.Spec L2
/-- what sorted gives -/
def srtD (ds : List PyData) : List PyData := ds.mergeSort (PySem.W.dataLe false id)
theorem srtD_length (ds : List PyData) : (srtD ds).length = ds.length := List.length_mergeSort ds
theorem srtD_map {β : Type} (enc : β → PyData) (bs : List β) : srtD (bs.map enc) = (bs.mergeSort (PySem.W.dataLe false enc)).map enc :=
  (PySem.W.sort_maps (r := PySem.W.dataLe false enc) (s := PySem.W.dataLe false id) enc fun _ _ _ _ => rfl).symm
def SrtOk (ds : List PyData) : Prop := PySem.W.AllAlike ds ∧ (PySem.W.Sortable ds ∨ (ds.length ≤ 1 ∧ ∀ d ∈ ds, d ≠ .none)) ∧ ds.length ≤ sizeLine ∧ ∀ d ∈ ds, d.depth ≤ 20
def rSortedD (K : PySem.W.Frag) : List V → Hp → VK → Prop := fun vs H Q => ∃ (a : Addr) (xs : List V) (ds : List PyData), vs = [.ref a] ∧ SqL K H a xs ∧ TpA H xs ds ∧ SrtOk ds ∧ ∀ p ys, H p = none → TpA H ys (srtD ds) → Q (.ref p) (upd H p (.lst ys))
/-- a value that stands for a datum -/
def StandsFor (H : Hp) (u : Value) (d : PyData) : Prop := ∃ x, RelV x u ∧ Tp H x d
theorem stands_each {H : Hp} : ∀ {xs : List V} {ds : List PyData} {us : List Value}, TpA H xs ds → Vals xs us → PySem.W.EachIs (StandsFor H) us ds
  | _, _, _, .nil, .nil => .nil
  | _, _, _, .cons h t, .cons r rt => .cons ⟨_, r, h⟩ (stands_each t rt)
theorem stands_back {H : Hp} : ∀ {us : List Value} {ds : List PyData}, PySem.W.EachIs (StandsFor H) us ds → ∃ ys, Vals ys us ∧ TpA H ys ds
  | _, _, .nil => ⟨[], .nil, .nil⟩
  | _, _, .cons ⟨x, r, h⟩ t => by
    obtain ⟨ys, a, b⟩ := stands_back t
    exact ⟨x :: ys, .cons r a, .cons h b⟩
section
variable {X : Cx} {pins : List (Addr × Obj)} {σ : L2.St} {H : Hp} {s : Shared}
theorem stands_reads (I : Inv X pins σ H s) {us : List Value} {ds : List PyData} (e : PySem.W.EachIs (StandsFor H) us ds) : PySem.W.EachIs (fun v d => ∃ as, Reads s.heap v d as) us ds :=
  e.mono fun u d ⟨x, r, h⟩ => Dp.reads I d x u h.dp r
theorem sortsAt_one {prog : Program} {w : World} {A : Around} {s : Shared} {vs : List Value} {ds : List PyData} (e : PySem.W.EachIs (fun v d => ∃ as, Reads s.heap v d as) vs ds) (hal : PySem.W.AllAlike ds) (hl : ds.length ≤ 1) (hn : ∀ d ∈ ds, d ≠ .none)
    (hu : ∀ d, d ∈ ds → A.units + d.depth < cLine) : PySem.W.SortsAt prog w A s (PySem.W.dataKind s.heap ds) vs := by
  refine ⟨fun v hv => ?_, ⟨PyProof.Rows.general', ?_, fun h2 => ?_⟩⟩
  · obtain ⟨d, hd, as, r⟩ := e.left v hv
    exact ⟨_, PySem.W.dataKind_some hal hd r⟩
  · intro E x y a b Q ha hb hq
    obtain ⟨d, as, hd, ra, rfl⟩ := PySem.W.dataKind_inv ha
    obtain ⟨d', as', hd', rb, rfl⟩ := PySem.W.dataKind_inv hb
    show wpAny (model prog w) A (PyProof.Rows.oneLt' false x y) Q E s
    exact PySem.W.oneLt_alike (fun z => nomatch z) ra rb (hal d hd d' hd') (hn d hd) (Nat.lt_of_le_of_lt (Nat.add_le_add_left (Nat.min_le_left _ _) _) (hu d hd)) hq
  · rw [e.length] at h2
    omega
end
theorem cr_sortedD {X : Cx} {k : Nat} (hr : Room k X.A) : CallR X (.builtin "sorted") (rSortedD X.K) := by
  intro pins s σ H vs us Q I r h
  obtain ⟨a, xs, ds, rfl, hs, ht, ⟨hal, hso, hsz, hdep⟩, q⟩ := h
  obtain ⟨its, rv, hl, hz⟩ := I.list hs
  obtain ⟨u, rfl, ru⟩ := vals1 r
  obtain rfl : u = Value.ref a := ru
  have e := stands_each ht rv
  have er := stands_reads I e
  have hun := hr.un
  have hu : ∀ b, b ∈ ds → X.A.units + 2 + b.depth < cLine := fun b hb => by
    have := hdep b hb
    omega
  have fin : ∀ out : List Value, PySem.W.EachIs (StandsFor H) out (srtD ds) → EP X pins σ Q (.ref (s.heap.objs.size + 1)) { s with heap := PyProof.Rows.sortedAll s.heap its (List.toArray out) } := fun out ho => by
    obtain ⟨ys, rv2, t2⟩ := stands_back ho
    obtain ⟨n, hn⟩ := PyProof.Rows.sortedAll_at s.heap its (List.toArray out)
    have hp : s.heap.objs.size ≤ s.heap.objs.size + 1 := Nat.le_succ _
    refine ⟨.ref (s.heap.objs.size + 1), upd H (s.heap.objs.size + 1) (.lst ys), I.laid (t' := s.toks) (fun b o e => PyProof.Rows.sortedAll_old e) hp ⟨?_, out, n, rv2, hn⟩, rfl, q _ ys (I.hok.fresh hp) t2⟩
    rw [t2.length, srtD_length]
    exact hsz
  rcases hso with hk | ⟨h1, hn⟩
  · refine PySem.W.sorted_data (enc := id) (bs := ds) hl.isList e ?_ ?_ ?_ hsz hu fun out _ ho => fin out ho
    · exact er
    · rw [List.map_id]; exact hal
    · rw [List.map_id]; exact hk
  · have er' : PySem.W.EachIs (fun v b => ∃ as, Reads (PySem.W.sortingHeap (PySem.W.copyHeap s.heap its) (s.heap.objs.size + 1) its) v b as) its ds := er.mono fun _ _ ⟨as, r⟩ => ⟨as, PyProof.Rows.Reads.keeps (fun _ _ => PySem.W.sorting_copy_old) r⟩
    refine PySem.W.sorted_vals hl.isList (sortsAt_one (s := { s with heap := PySem.W.sortingHeap (PySem.W.copyHeap s.heap its) (s.heap.objs.size + 1) its }) er' hal h1 hn fun d hd => ?_) (by rw [e.length]; exact hsz) ?_
    · show X.A.units + 1 + 1 + d.depth < cLine
      exact hu d hd
    · refine fin _ ?_
      have hal2 : PySem.W.AllAlike (ds.map id) := by rw [List.map_id]; exact hal
      have z := PySem.W.sortVals_data (enc := id) false e er' hal2
      rw [List.map_id] at z
      exact z
section
variable {K : PySem.W.Frag} {σ : L2.St} {H : Hp} {ta : TE} {ds : List PyData}
theorem el_sorted (h : EL ta σ H ds) (ok : SrtOk ds) : EL (tCB (rSortedD K) (tCons ta tNil)) σ H (srtD ds) :=
  el_cbN h fun p xs H1 s h1 h2 Q q => ⟨p, xs, ds, rfl, .inl (.inl h1), h2, ok, fun p' ys hp' t => q p' ys _ hp' (same_new hp' _) upd_same (t.mono (same_new hp' _))⟩
theorem el_sortedV {p : Addr} {xs : List V} (h : EV ta σ H (.ref p)) (hp : H p = some (.lst xs)) (hx : TpA H xs ds) (ok : SrtOk ds) : EL (tCB (rSortedD K) (tCons ta tNil)) σ H (srtD ds) :=
  el_cbV h fun H1 s Q q => ⟨p, xs, ds, rfl, .inl (.inl (s _ _ hp)), hx.mono s, ok, fun p' ys hp' t => q p' ys _ hp' (same_new hp' _) upd_same (t.mono (same_new hp' _))⟩
end
end Lv

set_option Elab.async false
set_option linter.all false
set_option maxRecDepth 100000
set_option maxHeartbeats 4000000
namespace Lv
open PySem PySem.Spec L2
open PyProof.Rows (envOfC)
/-! ### data that can be sorted -/
theorem srtOk_of {β : Type} {enc : β → PyData} {bs : List β} (h1 : ∀ a b, PySem.W.alike (enc a) (enc b) = true) (h2 : ∀ b, ∃ x r, enc b = .tuple (x :: r)) (h3 : ∀ b, (enc b).depth ≤ 20) (hl : bs.length ≤ 1000000) : SrtOk (bs.map enc) :=
  ⟨PySem.W.AllAlike.of h1, .inl (PySem.W.Sortable.tuples h2), by rw [List.length_map, sizeLine_eq]; omega, fun d hd => by
    obtain ⟨b, _, rfl⟩ := List.mem_map.mp hd
    exact h3 b⟩
theorem eE_alike (a b : Edge) : PySem.W.alike (eE a) (eE b) = true := by simp [eE, PySem.W.alike, PySem.W.alikeAll]
theorem eD_alike (a b : Deed) : PySem.W.alike (eD a) (eD b) = true := by simp [eD, PySem.W.alike, PySem.W.alikeAll]
theorem eS_alike (a b : Sgl) : PySem.W.alike (eS a) (eS b) = true := by simp [eS, PySem.W.alike, PySem.W.alikeAll]
theorem eP_alike (a b : Sgl × Sgl) : PySem.W.alike (eP a) (eP b) = true := by
  have h1 := eS_alike a.1 b.1
  have h2 := eS_alike a.2 b.2
  show PySem.W.alike (.tuple [eS a.1, eS a.2]) (.tuple [eS b.1, eS b.2]) = true
  simp [PySem.W.alike, PySem.W.alikeAll, h1, h2]
theorem eP_depth (p : Sgl × Sgl) : (eP p).depth ≤ 2 := by
  have h1 := eS_depth p.1
  have h2 := eS_depth p.2
  show (PyData.tuple [eS p.1, eS p.2]).depth ≤ 2
  simp only [PyData.depth, PyData.depthAll]
  omega
theorem srtOk_E {bs : List Edge} (h : bs.length ≤ 1000000) : SrtOk (bs.map eE) := srtOk_of eE_alike (fun b => ⟨_, _, rfl⟩) (fun b => Nat.le_trans (eE_depth b) (by decide)) h
theorem srtOk_D {bs : List Deed} (h : bs.length ≤ 1000000) : SrtOk (bs.map eD) := srtOk_of eD_alike (fun b => ⟨_, _, rfl⟩) (fun b => Nat.le_trans (eD_depth b) (by decide)) h
theorem srtOk_P {bs : List (Sgl × Sgl)} (h : bs.length ≤ 1000000) : SrtOk (bs.map eP) := srtOk_of eP_alike (fun b => ⟨_, _, rfl⟩) (fun b => Nat.le_trans (eP_depth b) (by decide)) h
/-- the deeds nearer, in sorted's order -/
def nextM (n : Nat) (E : List Edge) (r : Int) (here other : Hts) : List Deed := ((doableM n E r here).mergeSort (PySem.W.dataLe false eD)).filter (nearer here other)
theorem nextM_perm (n : Nat) (E : List Edge) (r : Int) (here other : Hts) : (nextM n E r here other).Perm ((doableM n E r here).filter (nearer here other)) := (List.mergeSort_perm _ _).filter _
theorem take_snoc {β : Type} {bs : List β} {i : Nat} {x : β} (h : bs[i]? = some x) : bs.take (i + 1) = bs.take i ++ [x] := by rw [List.take_add_one, h]; rfl
section
variable {P : Program} {w : World} {K : PySem.W.Frag} {mg : Str → Option Value} {base : Heap} {σ : L2.St} {H : Hp} {te : TE}
/-! ### steep_in, comes_in -/
def dm_steep_in : List PyData → List PyData → Prop := fun ds r => ∃ (n : Nat) (E : List Edge) (h : Hts), ds = [eW n E, eH h] ∧ WebOk n E ∧ h.length = n ∧ r = srtD ((steepM E h).map eE)
def steepF (h : Hts) (e : Edge) : Option Edge := if ht h e.2 - ht h e.1 ≥ 2 then some e else if ht h e.1 - ht h e.2 ≥ 2 then some (e.2, e.1) else none
theorem steepM_eq (E : List Edge) (h : Hts) : steepM E h = E.filterMap (steepF h) := rfl
theorem steep_few {E : List Edge} {h : Hts} : (steepM E h).length ≤ E.length := List.length_filterMap_le _ _
theorem ok_steep_in (T : Tx K mg) : Fnx P w K mg base 1 "steep_in" ["web", "heights"] (spL dm_steep_in) := by
  refine fnx T.d_steep_in sc_steep_in (fun _ _ _ _ _ _ us hl => match us, hl with | [_, _], _ => rfl) (len_spL (by rintro ds r ⟨n, E, h, rfl, _, _, rfl⟩; rfl)) fun f cdv A outer s H vs Q E' hr h => ?_
  obtain ⟨ds, r, hv, ⟨n, E, hh, rfl, ok, hlen, rfl⟩, q⟩ := h
  obtain ⟨x, y, rfl, hx, hy⟩ := tpa2 hv
  refine ⟨_, (pss_cons (ps_set (i := 2) sc_steep_in.nd rfl (Or.inl rfl) (pe_lst pa_nil))
      (pss_cons (ps_for PassesOwn.never rfl (pi_tup (pe_ix (r := rIxT K) ix_tup (pv 0) pe_int (fun _ _ => rfl))) (pg_tup rfl (pgs_cons (pg_name (i := 3) sc_steep_in.nd rfl (Or.inl rfl)) (pgs_cons (pg_name (i := 4) sc_steep_in.nd rfl (Or.inl rfl)) pgs_nil))) (pss_one (ps_if (pt_cmpR op_ge (pe_op op_sub (pe_ix (r := rIxT K) ix_tup (pv 1) (pv 4) (fun _ _ => rfl)) (pe_ix (r := rIxT K) ix_tup (pv 1) (pv 3) (fun _ _ => rfl))) (pe_glob (v := .int 2) rfl T.c_HIGH.choose_spec ⟨_, rfl⟩) (nomark _)) (pss_one (ps_expr (pe_bm PySem.F.plainAttrs_list PySem.F.slot_list_append PySem.F.type_list_append mt_append (pv 2) (pa_cons (pe_tup (pa_cons (pv 3) (pa_cons (pv 4) pa_nil))) pa_nil)))) (pss_one (ps_if (pt_cmpR op_ge (pe_op op_sub (pe_ix (r := rIxT K) ix_tup (pv 1) (pv 3) (fun _ _ => rfl)) (pe_ix (r := rIxT K) ix_tup (pv 1) (pv 4) (fun _ _ => rfl))) (pe_glob (v := .int 2) rfl T.c_HIGH.choose_spec ⟨_, rfl⟩) (nomark _)) (pss_one (ps_expr (pe_bm PySem.F.plainAttrs_list PySem.F.slot_list_append PySem.F.type_list_append mt_append (pv 2) (pa_cons (pe_tup (pa_cons (pv 4) (pa_cons (pv 3) pa_nil))) pa_nil)))) pss_nil)))))
      (pss_one (ps_ret (pe_callB (cr_sortedD hr) rfl T.b_sorted (by decide +kernel) (pa_cons (pv 2) pa_nil)))))), ?_⟩
  have hf := ok.few
  refine s_asgL (el_lst ea_nil (by decide)) fun p xs H1 hp s1 h1 t1 => ?_
  refine q_for (fun a => a = p) (src_tup (ed_web1 (ed_var rfl (hx.mono s1)))) (fun i σ' H' => ∃ a b ys, σ' = [some x, some y, some (.ref p), a, b] ∧ H' p = some (.lst ys) ∧ TpA H' ys (((E.take i).filterMap (steepF hh)).map eE)) (fun H2 s2 => ⟨none, none, xs, rfl, s2 _ _ h1, by cases t1; exact .nil⟩) (fun i e v σ' H' H'' N hi sx hσ s' hv k => ?_) fun σ' H' sx hσ => ?_
  · obtain ⟨a, b, ys, rfl, hp', ht'⟩ := hσ
    have hy2 := hy.kt ((s1.kt.trans sx.2).trans s'.kt)
    have he := ok.ed e (List.mem_of_getElem? hi)
    have hil := (List.getElem?_eq_some_iff.mp hi).1
    have hp2 := s' _ _ hp'
    obtain ⟨c, zs, rfl, hc, hzs⟩ := hv.tup_inv
    obtain ⟨y', z', rfl, hy', hz'⟩ := tpa2 hzs
    refine gt_two hc gt_name gt_name _ ?_
    have few : ys.length < 1000000 := by
      rw [ht'.length, List.length_map]
      have := List.length_filterMap_le (steepF hh) (E.take i)
      rw [List.length_take] at this
      omega
    have add : ∀ (e' : Edge) (d : PyData), steepF hh e = some e' → d = eE e' → ∀ H3 v5 H4, Same H'' H3 → Same H3 H4 → Tp H4 v5 d → N [some x, some y, some (.ref p), some y', some z'] (upd H4 p (.lst (ys ++ [v5]))) := by
      rintro e' d h5 rfl H3 v5 H4 s3 s4 hv5
      have s6 := s'.trans (s3.trans s4)
      have px : SX (fun a => a = p) H4 (upd H4 p (.lst (ys ++ [v5]))) := SX.put rfl (s6 _ _ hp')
      refine k _ _ (s6.sx.trans px) ⟨_, _, _, rfl, upd_same, ?_⟩
      rw [take_snoc hi, List.filterMap_append, List.map_append]
      have e6 : [e].filterMap (steepF hh) = [e'] := by simp [h5]
      rw [e6]
      exact ((ht'.mono s6).app (.cons hv5 .nil)).kt px.2
    refine s_if (b := decide ((2 : Int) ≤ ht hh e.2 - ht hh e.1)) (eb_test (ed_i0 (ed_i0 (ed_ht (ed_var rfl hy2) (ed_var rfl hz') (by omega)) (ed_ht (ed_var rfl hy2) (ed_var rfl hy') (by omega)) fun _ => .int _) ed_int fun _ => .bl _)) (fun g H3 s3 => ?_) fun g H3 s3 => ?_
    · have g' := of_decide_eq_true g
      refine s_app (s3 _ _ hp2) (ev_var rfl) (ed_tup (ea_cons (ed_var rfl (hy'.mono s3)) (ea_cons (ed_var rfl (hz'.mono s3)) ea_nil)) (by show 2 ≤ 100000; omega)) (sz_lt few) fun v5 H4 s4 hv5 => add e _ (by unfold steepF; rw [if_pos g']) rfl H3 v5 H4 s3 s4 hv5
    · have g' := of_decide_eq_false g
      have hy3 := hy2.mono s3
      refine s_if (b := decide ((2 : Int) ≤ ht hh e.1 - ht hh e.2)) (eb_test (ed_i0 (ed_i0 (ed_ht (ed_var rfl hy3) (ed_var rfl (hy'.mono s3)) (by omega)) (ed_ht (ed_var rfl hy3) (ed_var rfl (hz'.mono s3)) (by omega)) fun _ => .int _) ed_int fun _ => .bl _)) (fun k2 H4 s4 => ?_) fun k2 H4 s4 => ?_
      · have k2' := of_decide_eq_true k2
        refine s_app (s4 _ _ (s3 _ _ hp2)) (ev_var rfl) (ed_tup (ea_cons (ed_var rfl (hz'.mono (s3.trans s4))) (ea_cons (ed_var rfl (hy'.mono (s3.trans s4))) ea_nil)) (by show 2 ≤ 100000; omega)) (sz_lt few) fun v5 H5 s5 hv5 => add (e.2, e.1) _ (by unfold steepF; rw [if_neg g', if_pos k2']) rfl H4 v5 H5 (s3.trans s4) s5 hv5
      · have k2' := of_decide_eq_false k2
        have ss := s'.trans (s3.trans s4)
        refine k _ _ ss.sx ⟨_, _, ys, rfl, ss _ _ hp', ?_⟩
        rw [take_snoc hi, List.filterMap_append]
        have e6 : [e].filterMap (steepF hh) = [] := by
          have : steepF hh e = none := by unfold steepF; rw [if_neg g', if_neg k2']
          simp [this]
        rw [e6, List.append_nil]
        exact ht'.mono ss
  · obtain ⟨a, b, ys, rfl, hp', ht'⟩ := hσ
    rw [List.take_length] at ht'
    have sm : Same H H' := (s1.sx.trans sx).same_of fun b hb => by rw [hb]; exact hp
    exact s_retL (el_sortedV (ev_var rfl) hp' ht' (srtOk_E (Nat.le_trans steep_few (by omega)))) fun p2 xs2 H2 hp2 s2 => q p2 xs2 H2 (sm.free hp2) (sm.trans s2)
def dm_comes_in : List PyData → PyData → Prop := fun ds r => ∃ (n : Nat) (E : List Edge) (one other : Hts), ds = [eW n E, eH one, eH other] ∧ WebOk n E ∧ one.length = n ∧ other.length = n ∧ Comes E one other ∧ r = .bool true
theorem steep_lt {n : Nat} {E : List Edge} (ok : WebOk n E) {h : Hts} {e : Edge} (he : e ∈ steepM E h) : e.1 < n ∧ e.2 < n := by
  obtain ⟨a, ha, hb⟩ := List.mem_filterMap.mp he
  have := ok.ed a ha
  split at hb
  · cases hb
    omega
  · split at hb
    · cases hb
      exact ⟨this.2, by show a.1 < n; omega⟩
    · cases hb
theorem ok_comes_in (T : Tx K mg) (G_steep_in : Fnx P w K mg base 1 "steep_in" ["web", "heights"] (spL dm_steep_in)) : Fnx P w K mg base 2 "comes_in" ["web", "one", "other"] (spD dm_comes_in) := by
  refine fnx T.d_comes_in sc_comes_in (fun _ _ _ _ _ _ us hl => match us, hl with | [_, _, _], _ => rfl) (len_spD (by rintro ds r ⟨n, E, h, h2, rfl, _, _, _, _, rfl⟩; rfl)) fun f cdv A outer s H vs Q E' hr h => ?_
  obtain ⟨ds, r, hv, ⟨n, E, h1, h2, rfl, ok, hl1, hl2, hc, rfl⟩, q⟩ := h
  obtain ⟨x, y, z, rfl, hx, hy, hz⟩ := tpa3 hv
  refine ⟨_, (pss_cons (ps_set (i := 3) sc_comes_in.nd rfl (Or.inl rfl) (pe_cf G_steep_in (hr.mono (by decide)) rfl (pa_cons (pv 0) (pa_cons (pv 2) pa_nil))))
      (pss_one (ps_ret (pe_cmpR (r := rEqD K) (op_eqD hr.units) (pe_lc (own := [("edge", 4)]) (g := gName 4) rfl sc_comes_in.nd (pi_list (pv 3)) (blkOk_by (own := [("edge", 4)]) (N := N_comes_in) (sc := defScope (top 29)) (by decide +kernel)) (fun _ _ _ _ _ => (pg_name (i := 4) sc_comes_in.nd rfl (Or.inl rfl))) (fun _ _ _ _ _ => pts_one (PW.pt (pw_or (pt_cmpR op_gt (pe_ix (r := rIxT K) ix_tup (pv 1) (pe_ix (r := rIxT K) ix_tup (pv 4) pe_int (fun _ _ => rfl)) (fun _ _ => rfl)) (pe_ix (r := rIxT K) ix_tup (pv 2) (pe_ix (r := rIxT K) ix_tup (pv 4) pe_int (fun _ _ => rfl)) (fun _ _ => rfl)) (nomark _)) (pw_or1 (pt_cmpR op_gt (pe_ix (r := rIxT K) ix_tup (pv 2) (pe_ix (r := rIxT K) ix_tup (pv 4) pe_int (fun _ _ => rfl)) (fun _ _ => rfl)) (pe_ix (r := rIxT K) ix_tup (pv 1) (pe_ix (r := rIxT K) ix_tup (pv 4) pe_int (fun _ _ => rfl)) (fun _ _ => rfl)) (nomark _)))))) (fun _ _ _ _ _ => (pv 4))) (pe_lst pa_nil) (nomark _))))), ?_⟩
  have hf := ok.few
  refine s_asgL (el_call (dom := dm_steep_in) (ea_cons (ed_var rfl hx) (ea_cons (ed_var rfl hz) ea_nil)) ⟨n, E, h2, rfl, ok, hl2, rfl⟩) fun p xs H1 hp s1 hp1 t1 => ?_
  rw [srtD_map] at t1
  have hlen : ((steepM E h2).mergeSort (PySem.W.dataLe false eE)).length < 16000000 := by
    rw [List.length_mergeSort]
    have := steep_few (E := E) (h := h2)
    omega
  refine s_retD (ed_is (ed_eqNilN (el_lc (src_lstV (bs := (steepM E h2).mergeSort (PySem.W.dataLe false eE)) (enc := eE) (ev_var rfl) hp1 t1 (fun z => z)) (fun e => decide (ht h2 e.1 < ht h1 e.1) || decide (ht h1 e.2 < ht h2 e.2)) eE hlen fun e v H2 he s2 hv2 => ⟨_, gt_name, rfl, ?_, fun _ => ed_var rfl hv2⟩) (shaped_lst eE_lay eE_depth (by decide) _) (el_lst ea_nil (by decide))) ?_) fun v H2 s2 hv => q v H2 (s1.trans s2) hv
  · have he' := steep_lt ok (List.mem_mergeSort.mp he)
    have hy2 := hy.mono (s1.trans s2)
    have hz2 := hz.mono (s1.trans s2)
    exact eb_or (eb_test (ed_i0 (ed_ht (ed_var rfl hy2) (ed_ixT (ed_var rfl hv2) ed_int at0) (by omega)) (ed_ht (ed_var rfl hz2) (ed_ixT (ed_var rfl hv2) ed_int at0) (by omega)) fun _ => .bl _)) fun _ => eb_test (ed_i0 (ed_ht (ed_var rfl hz2) (ed_ixT (ed_var rfl hv2) ed_int at1) (by omega)) (ed_ht (ed_var rfl hy2) (ed_ixT (ed_var rfl hv2) ed_int at1) (by omega)) fun _ => .bl _)
  · have e0 : ((steepM E h2).mergeSort (PySem.W.dataLe false eE)).filter (fun e => decide (ht h2 e.1 < ht h1 e.1) || decide (ht h1 e.2 < ht h2 e.2)) = [] := List.filter_eq_nil_iff.mpr fun e he z => by
      have := hc e (List.mem_mergeSort.mp he)
      rw [Bool.or_eq_true, decide_eq_true_eq, decide_eq_true_eq] at z
      omega
    rw [e0]
    rfl
/-! ### need_way, need_box -/
structure Way (n : Nat) (E : List Edge) (roof : Int) (one other : Hts) : Prop where
  web : WebOk n E
  rlo : 1 ≤ roof
  rhi : roof ≤ 9
  h1 : HtOk n roof one
  h2 : HtOk n roof other
  comes : Comes E one other
def dm_need_way : List PyData → PyData → Prop := fun ds r => ∃ (n : Nat) (E : List Edge) (roof : Int) (one other : Hts), ds = [eW n E, .int roof, eH one, eH other] ∧ Way n E roof one other ∧ r = .none
theorem ok_need_way (T : Tx K mg) (G_need_two : Fnx P w K mg base 6 "need_two" ["web", "roof", "one", "other"] (spD dm_need_two)) (G_comes_in : Fnx P w K mg base 2 "comes_in" ["web", "one", "other"] (spD dm_comes_in)) : Fnx P w K mg base 7 "need_way" ["web", "roof", "one", "other"] (spD dm_need_way) := by
  refine fnx T.d_need_way sc_need_way (fun _ _ _ _ _ _ us hl => match us, hl with | [_, _, _, _], _ => rfl) (len_spD (by rintro ds r ⟨n, E, roof, h, h2, rfl, _, rfl⟩; rfl)) fun f cdv A outer s H vs Q E' hr h => ?_
  obtain ⟨ds, r, hv, ⟨n, E, roof, one, other, rfl, W, rfl⟩, q⟩ := h
  obtain ⟨x, y, z, u, rfl, hx, hy, hz, hu⟩ := tpa4 hv
  refine ⟨_, (pss_cons (ps_expr (pe_cf G_need_two (hr.mono (by decide)) rfl (pa_cons (pv 0) (pa_cons (pv 1) (pa_cons (pv 2) (pa_cons (pv 3) pa_nil))))))
      (pss_one (ps_if (pt_not (pt_val (pe_cf G_comes_in (hr.mono (by decide)) rfl (pa_cons (pv 0) (pa_cons (pv 2) (pa_cons (pv 3) pa_nil)))))) (pss_one ps_never) pss_nil))), ?_⟩
  refine s_dropD (ed_call (dom := dm_need_two) (ea_cons (ed_var rfl hx) (ea_cons (ed_var rfl hy) (ea_cons (ed_var rfl hz) (ea_cons (ed_var rfl hu) ea_nil)))) ⟨n, E, roof, one, other, rfl, W.web, ⟨W.rlo, W.rhi⟩, W.h1, W.h2, rfl⟩) fun H1 s1 => ?_
  exact s_if (b := false) (eb_not (a := true) (eb_B (ed_call (dom := dm_comes_in) (ea_cons (ed_var rfl (hx.mono s1)) (ea_cons (ed_var rfl (hz.mono s1)) (ea_cons (ed_var rfl (hu.mono s1)) ea_nil))) ⟨n, E, one, other, rfl, W.web, W.h1.len, W.h2.len, W.comes, rfl⟩))) (fun z => nomatch z) fun _ H2 s2 => q .non H2 (s1.trans s2) .non
def dm_need_box : List PyData → PyData → Prop := fun ds r => ∃ (n : Nat) (E : List Edge) (roof : Int) (one other : Hts), ds = [eW n E, .int roof, eH one, eH other] ∧ Way n E roof one other ∧ boxM one other ≤ 4000 ∧ r = .none
theorem ed_abs {ta : TE} {i : Int} (h : ED ta σ H (.int i)) : ED (tCB (fun xs H Q => ∃ i, xs = [.int i] ∧ Q (.int (if i < 0 then -i else i)) H) (tCons ta tNil)) σ H (.int (if i < 0 then -i else i)) := fun H1 s Q q => ev_int h H1 s _ fun H2 s2 => ⟨i, rfl, q _ H2 s2 (.int _)⟩
theorem ok_need_box (T : Tx K mg) (G_need_way : Fnx P w K mg base 7 "need_way" ["web", "roof", "one", "other"] (spD dm_need_way)) : Fnx P w K mg base 8 "need_box" ["web", "roof", "one", "other"] (spD dm_need_box) := by
  refine fnx T.d_need_box sc_need_box (fun _ _ _ _ _ _ us hl => match us, hl with | [_, _, _, _], _ => rfl) (len_spD (by rintro ds r ⟨n, E, roof, h, h2, rfl, _, _, rfl⟩; rfl)) fun f cdv A outer s H vs Q E' hr h => ?_
  obtain ⟨ds, r, hv, ⟨n, E, roof, one, other, rfl, W, hbox, rfl⟩, q⟩ := h
  obtain ⟨x, y, z, u, rfl, hx, hy, hz, hu⟩ := tpa4 hv
  refine ⟨_, (pss_cons (ps_expr (pe_cf G_need_way (hr.mono (by decide)) rfl (pa_cons (pv 0) (pa_cons (pv 1) (pa_cons (pv 2) (pa_cons (pv 3) pa_nil))))))
      (pss_cons (ps_set (i := 4) sc_need_box.nd rfl (Or.inl rfl) pe_int)
      (pss_cons (ps_for PassesOwn.never rfl (pi_enumT (by rfl) T.b_enumerate (pa_cons (pv 2) pa_nil)) (pg_tup rfl (pgs_cons (pg_name (i := 5) sc_need_box.nd rfl (Or.inl rfl)) (pgs_cons (pg_name (i := 6) sc_need_box.nd rfl (Or.inl rfl)) pgs_nil))) (pss_one (ps_aug (i := 4) sc_need_box.nd rfl (Or.inl rfl) (pe_op op_add (pe_callB call_abs rfl T.b_abs (by decide +kernel) (pa_cons (pe_op op_sub (pv 6) (pe_ix (r := rIxT K) ix_tup (pv 3) (pv 5) (fun _ _ => rfl))) pa_nil)) pe_int) iop_mul)))
      (pss_one (ps_if (pt_cmpR op_gt (pv 4) (pe_glob (v := .int 4000) rfl T.c_MOST_BOX.choose_spec ⟨_, rfl⟩) (nomark _)) (pss_one ps_never) pss_nil))))), ?_⟩
  have hrhi := W.rhi
  refine z_dropD (ed_call (dom := dm_need_way) (ea_cons (ed_var rfl hx) (ea_cons (ed_var rfl hy) (ea_cons (ed_var rfl hz) (ea_cons (ed_var rfl hu) ea_nil)))) ⟨n, E, roof, one, other, rfl, W, rfl⟩) fun H1 s1 => ?_
  refine z_asgD ed_int fun v2 H2 s2 hv2 => ?_
  cases hv2
  have s12 := s1.trans s2
  refine z_for M0 (src_enumT (bs := one) (enc := .int) (ed_var rfl (hz.mono s12))) (fun i σ' H' => ∃ a b, σ' = [some x, some y, some z, some u, some (.int ((List.range i).foldl (boxF one other) 1)), a, b]) (fun H3 s3 => ⟨none, none, rfl⟩) (fun i p v σ' H' H'' N hi sx hσ s' hv k => ?_) fun σ' H' sx hσ => ?_
  · obtain ⟨a, b, rfl⟩ := hσ
    obtain ⟨e1, e2⟩ := numd_inv hi
    have hil := (List.getElem?_eq_some_iff.mp e2).1
    have hin : i < n := by rw [← W.h1.len]; exact hil
    have hp2 : p.2 = ht one i := by
      rw [ht_get hil] at e2
      exact (Option.some.inj e2).symm
    obtain ⟨c, zs, rfl, hc, hzs⟩ := hv.tup_inv
    obtain ⟨y', z', rfl, hy', hz'⟩ := tpa2 hzs
    rw [e1] at hy'
    rw [hp2] at hz'
    have hu2 := hu.mono (s12.trans (sx.same.trans s'))
    refine gt_two hc gt_name gt_name _ ?_
    refine ⟨_, rfl, ev_int (ed_i0 (ed_abs (ed_i0 (ed_var rfl hz') (ed_ht (ed_var rfl hu2) (ed_var rfl hy') (by rw [W.h2.len]; exact hin)) fun _ => .int _)) ed_int fun _ => .int _) H'' (Same.refl _) _ fun H3 s3 => ?_⟩
    have o1 := W.h1.at hin
    have o2 := W.h2.at hin
    refine ⟨_, _, rfl, rfl, .inr ⟨?_, ?_⟩, k _ _ (s'.trans s3).sx ⟨some y', some z', ?_⟩⟩
    · split <;> omega
    · split <;> omega
    · rw [List.range_succ, List.foldl_append]
      rfl
  · obtain ⟨a, b, rfl⟩ := hσ
    rw [numd_length]
    refine s_if (b := false) (eb_is (eb_test (ed_i0 (ed_var rfl (.int _)) ed_int fun _ => .bl _)) (decide_eq_false ?_)) (fun z => nomatch z) fun _ H3 s3 => q .non H3 (s12.trans (sx.same.trans s3)) .non
    have : boxM one other ≤ 4000 := hbox
    unfold boxM at this
    omega
/-! ### singles -/
def dm_singles : List PyData → List PyData → Prop := fun ds r => ∃ (n : Nat) (roof : Int) (one other : Hts), ds = [eH one, eH other] ∧ n ≤ 4 ∧ roof ≤ 9 ∧ HtOk n roof one ∧ HtOk n roof other ∧ r = (singlesM one other).map eS
theorem ok_singles (T : Tx K mg) : Fnx P w K mg base 1 "singles" ["one", "other"] (spL dm_singles) := by
  refine fnx T.d_singles sc_singles (fun _ _ _ _ _ _ us hl => match us, hl with | [_, _], _ => rfl) (len_spL (by rintro ds r ⟨n, roof, h, h2, rfl, _, _, _, _, rfl⟩; rfl)) fun f cdv A outer s H vs Q E' hr h => ?_
  obtain ⟨ds, r, hv, ⟨n, roof, one, other, rfl, hn4, hroof, o1, o2, rfl⟩, q⟩ := h
  obtain ⟨x, y, rfl, hx, hy⟩ := tpa2 hv
  refine ⟨_, (pss_cons (ps_set (i := 2) sc_singles.nd rfl (Or.inl rfl) (pe_lst pa_nil))
      (pss_cons (ps_for PassesOwn.never rfl (pi_enumT (by rfl) T.b_enumerate (pa_cons (pv 0) pa_nil)) (pg_tup rfl (pgs_cons (pg_name (i := 3) sc_singles.nd rfl (Or.inr rfl)) (pgs_cons (pg_name (i := 4) sc_singles.nd rfl (Or.inl rfl)) pgs_nil))) (pss_cons (ps_set (i := 2) sc_singles.nd rfl (Or.inl rfl) (pe_op op_cat (pv 2) (pe_lc (own := [("k", 5)]) (g := gName 5) rfl sc_singles.nd (pi_range2 rfl T.b_range (pa_cons (pv 4) (pa_cons (pe_ix (r := rIxT K) ix_tup (pv 1) (pv 3) (fun _ _ => rfl)) pa_nil))) (blkOk_by (own := [("k", 5)]) (N := N_singles) (sc := defScope (top 34)) (by decide +kernel)) (fun _ _ _ _ _ => (pg_name (i := 5) sc_singles.nd rfl (Or.inl rfl))) (fun _ _ _ _ _ => pts_nil) (fun _ _ _ _ _ => (pe_tup (pa_cons pe_bl (pa_cons (pv 3) (pa_cons (pv 5) pa_nil))))))))
      (pss_one (ps_set (i := 2) sc_singles.nd rfl (Or.inl rfl) (pe_op op_cat (pv 2) (pe_lc (own := [("k", 5)]) (g := gName 5) rfl sc_singles.nd (pi_range3 rfl T.b_range (pa_cons (pv 4) (pa_cons (pe_ix (r := rIxT K) ix_tup (pv 1) (pv 3) (fun _ _ => rfl)) (pa_cons (pe_un un_neg pe_int) pa_nil)))) (blkOk_by (own := [("k", 5)]) (N := N_singles) (sc := defScope (top 34)) (by decide +kernel)) (fun _ _ _ _ _ => (pg_name (i := 5) sc_singles.nd rfl (Or.inl rfl))) (fun _ _ _ _ _ => pts_nil) (fun _ _ _ _ _ => (pe_tup (pa_cons pe_bl (pa_cons (pv 3) (pa_cons (pv 5) pa_nil)))))))))))
      (pss_one (ps_ret (pv 2))))), ?_⟩
  refine s_asgL (el_lst ea_nil (by decide)) fun p0 xs0 H1 hp0 s1 h1 t1 => ?_
  refine q_for M0 (src_enumT (bs := one) (enc := .int) (ed_var rfl (hx.mono s1))) (fun i σ' H' => ∃ a b p ys, σ' = [some x, some y, some (.ref p), a, b, none] ∧ H' p = some (.lst ys) ∧ H p = none ∧ TpA H' ys (((List.range i).flatMap (singlesAt one other)).map eS)) (fun H2 s2 => ⟨none, none, p0, xs0, rfl, s2 _ _ h1, hp0, by cases t1; exact .nil⟩) (fun i p v σ' H' H'' N hi sx hσ s' hv k => ?_) fun σ' H' sx hσ => ?_
  · obtain ⟨a, b, l, ys, rfl, hl, hlH, ht'⟩ := hσ
    obtain ⟨e1, e2⟩ := numd_inv hi
    have hil := (List.getElem?_eq_some_iff.mp e2).1
    have hin : i < n := by rw [← o1.len]; exact hil
    have hp2 : p.2 = ht one i := by
      rw [ht_get hil] at e2
      exact (Option.some.inj e2).symm
    obtain ⟨c, zs, rfl, hc, hzs⟩ := hv.tup_inv
    obtain ⟨y', z', rfl, hy', hz'⟩ := tpa2 hzs
    rw [e1] at hy'
    rw [hp2] at hz'
    have r1 := o1.at hin
    have r2 := o2.at hin
    have s13 := s1.trans (sx.same.trans s')
    have hy2 := hy.mono s13
    have hlen := singlesM_le o1 o2 hroof i (Nat.le_of_lt hin)
    refine gt_two hc gt_name gt_name _ ?_
    refine s_asgL (el_catV (ev_var rfl) (s' _ _ hl) (ht'.mono s') (el_lcY (src_r2 (a := ht one i) (b := ht other i) (ea_cons (ed_var rfl hz') (ea_cons (ed_ht (ed_var rfl hy2) (ed_var rfl hy') (by rw [o2.len]; exact hin)) ea_nil)) ⟨by omega, by omega, by omega, by omega⟩) (fun v => eS (true, i, v)) (by rw [rgN_length]; omega) fun v vv H3 hm s3 hvv => ⟨_, gt_name, rfl, ed_tup (ea_cons ed_bl (ea_cons (ed_var rfl (hy'.mono s3)) (ea_cons (ed_var rfl hvv) ea_nil))) (by show 3 ≤ 100000; omega)⟩) ?_) fun l2 ys2 H3 hl2 s3 hl3 t3 => ?_
    · refine sz_ok ?_
      rw [List.length_map, List.length_map, rgN_length]
      omega
    · have hy3 := hy2.mono s3
      refine s_asgL (el_catV (ev_var rfl) hl3 t3 (el_lcY (src_r3 (a := ht one i) (b := ht other i) (ea_cons (ed_var rfl (hz'.mono s3)) (ea_cons (ed_ht (ed_var rfl hy3) (ed_var rfl (hy'.mono s3)) (by rw [o2.len]; exact hin)) (ea_cons (ed_neg ed_int) ea_nil))) ⟨by omega, by omega, by omega, by omega⟩) (fun v => eS (false, i, v)) (by rw [rgD_length]; omega) fun v vv H4 hm s4 hvv => ⟨_, gt_name, rfl, ed_tup (ea_cons ed_bl (ea_cons (ed_var rfl (hy'.mono (s3.trans s4))) (ea_cons (ed_var rfl hvv) ea_nil))) (by show 3 ≤ 100000; omega)⟩) ?_) fun l4 ys4 H4 hl4 s4 hl5 t4 => ?_
      · refine sz_ok ?_
        rw [List.length_append, List.length_map, List.length_map, List.length_map, rgN_length, rgD_length]
        omega
      · refine k _ _ (s'.trans (s3.trans s4)).sx ⟨_, _, l4, ys4, rfl, hl5, s13.free (s3.free hl4), ?_⟩
        have ef : ((List.range (i + 1)).flatMap (singlesAt one other)).map eS = ((List.range i).flatMap (singlesAt one other)).map eS ++ (rgN (ht one i) (ht other i - ht one i).toNat).map (fun v => eS (true, i, v)) ++ (rgD (ht one i) (ht one i - ht other i).toNat).map (fun v => eS (false, i, v)) := by
          rw [List.range_succ, List.flatMap_append, List.map_append, List.append_assoc]
          congr 1
          rw [List.flatMap_cons, List.flatMap_nil, List.append_nil]
          unfold singlesAt
          rw [List.map_append, List.map_map, List.map_map]
          rfl
        rw [ef]
        exact t4
  · obtain ⟨a, b, l, ys, rfl, hl, hlH, ht'⟩ := hσ
    rw [numd_length] at ht'
    exact s_retV (ev_var rfl) fun H2 s2 => q l ys H2 hlH (s1.trans (sx.same.trans s2)) (s2 _ _ hl) (ht'.mono s2)
end
end Lv

set_option Elab.async false
set_option linter.all false
set_option maxRecDepth 100000
set_option maxHeartbeats 4000000
namespace Lv
open PySem PySem.Spec L2
open PyProof.Rows (envOfC)
section
variable {P : Program} {w : World} {K : PySem.W.Frag} {mg : Str → Option Value} {base : Heap} {σ : L2.St} {H : Hp} {te : TE}
/-! ### is_before, pairs_in -/
def dm_is_before : List PyData → PyData → Prop := fun ds r => ∃ (n : Nat) (E : List Edge) (s t : Sgl), ds = [eW n E, eS s, eS t] ∧ WebOk n E ∧ r = .bool (isBef E s t)
theorem eN_eqv (a b : Nat) : PyData.eqv (eN a) (eN b) = decide (a = b) := by rw [eqv_int, dI]
theorem ok_is_before (T : Tx K mg) (G_beside_in : Fnx P w K mg base 1 "beside_in" ["web", "place"] (spL dm_beside_in)) : Fnx P w K mg base 2 "is_before" ["web", "first", "second"] (spD dm_is_before) := by
  refine fnx T.d_is_before sc_is_before (fun _ _ _ _ _ _ us hl => match us, hl with | [_, _, _], _ => rfl) (len_spD (by rintro ds r ⟨n, E, s, t, rfl, _, rfl⟩; rfl)) fun f cdv A outer s H vs Q E' hr h => ?_
  obtain ⟨ds, r, hv, ⟨n, E, a, b, rfl, ok, rfl⟩, q⟩ := h
  obtain ⟨x, y, z, rfl, hx, hy, hz⟩ := tpa3 hv
  refine ⟨_, (pss_cons (ps_asg (pv 1) (pg_tup rfl (pgs_cons (pg_name (i := 3) sc_is_before.nd rfl (Or.inl rfl)) (pgs_cons (pg_name (i := 4) sc_is_before.nd rfl (Or.inl rfl)) (pgs_cons (pg_name (i := 5) sc_is_before.nd rfl (Or.inl rfl)) pgs_nil)))))
      (pss_cons (ps_asg (pv 2) (pg_tup rfl (pgs_cons (pg_name (i := 6) sc_is_before.nd rfl (Or.inl rfl)) (pgs_cons (pg_name (i := 7) sc_is_before.nd rfl (Or.inl rfl)) (pgs_cons (pg_name (i := 8) sc_is_before.nd rfl (Or.inl rfl)) pgs_nil)))))
      (pss_cons (ps_if (pt_cmpR op_eq (pv 4) (pv 7) (nomark _)) (pss_one (ps_ret (pe_and (pe_cmpR op_eq (pv 3) (pv 6) (nomark _)) (pe_one (pe_cmpR op_eq (pv 8) (pe_ifExp (pt_val (pv 3)) (pe_op op_add (pv 5) pe_int) (pe_op op_sub (pv 5) pe_int)) (nomark _)))))) pss_nil)
      (pss_cons (ps_if (pt_cmpR (r := rNotInD K) (op_notInD (room_of hr)) (pv 7) (pe_cf G_beside_in (hr.mono (by decide)) rfl (pa_cons (pv 0) (pa_cons (pv 4) pa_nil))) (by rfl)) (pss_one (ps_ret pe_bl)) pss_nil)
      (pss_cons (ps_if (PW.pt (pw_and (pt_val (pv 3)) (pw_and1 (pt_val (pv 6))))) (pss_one (ps_ret (pe_cmpR op_eq (pv 8) (pe_op op_add (pv 5) pe_int) (nomark _)))) pss_nil)
      (pss_cons (ps_if (PW.pt (pw_and (pt_not (pt_val (pv 3))) (pw_and1 (pt_not (pt_val (pv 6)))))) (pss_one (ps_ret (pe_cmpR op_eq (pv 8) (pe_op op_sub (pv 5) pe_int) (nomark _)))) pss_nil)
      (pss_one (ps_ret (pe_cmpR op_eq (pv 8) (pv 5) (nomark _)))))))))), ?_⟩
  obtain ⟨p1, xs1, rfl, hp1, t1⟩ := hy.tup_inv
  obtain ⟨p2, xs2, rfl, hp2, t2⟩ := hz.tup_inv
  obtain ⟨a0, a1, a2, rfl, ha0, ha1, ha2⟩ := tpa3 t1
  obtain ⟨b0, b1, b2, rfl, hb0, hb1, hb2⟩ := tpa3 t2
  refine ⟨_, rfl, gt_three hp1 gt_name gt_name gt_name _ ⟨_, rfl, gt_three hp2 gt_name gt_name gt_name _ ?_⟩⟩
  refine z_if (b := decide (a.2.1 = b.2.1)) (eb_is (eb_test (ed_eqI (ed_var rfl ha1) (ed_var rfl hb1))) (dI _ _)) (fun g H1 s1 => ?_) fun g H1 s1 => ?_
  · have g' := of_decide_eq_true g
    refine s_retD (ed_is (ed_and (b := decide (b.2.2 = if a.1 = true then a.2.2 + 1 else a.2.2 - 1)) (ed_eqB (ed_var rfl (ha0.mono s1)) (ed_var rfl (hb0.mono s1))) fun _ => ed_eqI (ed_var rfl (hb2.mono s1)) (ed_if (b := a.1) (eb_B (ed_var rfl (ha0.mono s1))) (fun e => ?_) fun e => ?_)) ?_) fun v H2 s2 hv => q v H2 (s1.trans s2) hv
    · rw [if_pos e]
      exact ed_i0 (ed_var rfl (ha2.mono s1)) ed_int fun _ => .int _
    · rw [if_neg (by rw [e]; decide)]
      exact ed_i0 (ed_var rfl (ha2.mono s1)) ed_int fun _ => .int _
    · unfold isBef
      rw [if_pos g']
  · have g' := of_decide_eq_false g
    refine z_if (b := !(besIn E a.2.1).contains b.2.1) (eb_is (eb_test (ed_notInL (ds := (besIn E a.2.1).map eN) (ed_var rfl (hb1.mono s1)) (el_call (dom := dm_beside_in) (ea_cons (ed_var rfl (hx.mono s1)) (ea_cons (ed_var rfl (ha1.mono s1)) ea_nil)) ⟨n, E, a.2.1, rfl, ok, rfl⟩) rfl (shaped_lst (enc := eN) (fun j => int_lay j) (fun j => int_depth j) (by decide) _))) (by rw [any_contains (enc := eN) eN_eqv])) (fun k H2 s2 => ?_) fun k H2 s2 => ?_
    · refine s_retD (ed_is ed_bl ?_) fun v H3 s3 hv => q v H3 (s1.trans (s2.trans s3)) hv
      unfold isBef
      rw [if_neg g', if_pos (by simpa using k)]
    · have k' : ¬ (besIn E a.2.1).contains b.2.1 = false := by
        rw [Bool.not_eq_false']  at k
        rw [k]
        decide
      have s12 := s1.trans s2
      refine z_if (b := a.1 && b.1) (eb_and (eb_B (ed_var rfl (ha0.mono s12))) fun _ => eb_B (ed_var rfl (hb0.mono s12))) (fun c H3 s3 => ?_) fun c H3 s3 => ?_
      · have s13 := s12.trans s3
        refine s_retD (ed_is (ed_eqI (ed_var rfl (hb2.mono s13)) (ed_i0 (ed_var rfl (ha2.mono s13)) ed_int fun _ => .int _)) ?_) fun v H4 s4 hv => q v H4 (s13.trans s4) hv
        unfold isBef
        rw [if_neg g', if_neg k', if_pos c]
      · have s13 := s12.trans s3
        refine z_if (b := !a.1 && !b.1) (eb_and (eb_not (eb_B (ed_var rfl (ha0.mono s13)))) fun _ => eb_not (eb_B (ed_var rfl (hb0.mono s13)))) (fun c2 H4 s4 => ?_) fun c2 H4 s4 => ?_
        · have s14 := s13.trans s4
          refine s_retD (ed_is (ed_eqI (ed_var rfl (hb2.mono s14)) (ed_i0 (ed_var rfl (ha2.mono s14)) ed_int fun _ => .int _)) ?_) fun v H5 s5 hv => q v H5 (s14.trans s5) hv
          unfold isBef
          rw [if_neg g', if_neg k', if_neg (by rw [c]; decide), if_pos c2]
        · have s14 := s13.trans s4
          refine s_retD (ed_is (ed_eqI (ed_var rfl (hb2.mono s14)) (ed_var rfl (ha2.mono s14))) ?_) fun v H5 s5 hv => q v H5 (s14.trans s5) hv
          unfold isBef
          rw [if_neg g', if_neg k', if_neg (by rw [c]; decide), if_neg (by rw [c2]; decide)]
def dm_pairs_in : List PyData → List PyData → Prop := fun ds r => ∃ (n : Nat) (E : List Edge) (roof : Int) (one other : Hts), ds = [eW n E, eH one, eH other] ∧ WebOk n E ∧ roof ≤ 9 ∧ HtOk n roof one ∧ HtOk n roof other ∧ r = (pairsM E (singlesM one other)).map eP
theorem ok_pairs_in (T : Tx K mg) (G_singles : Fnx P w K mg base 1 "singles" ["one", "other"] (spL dm_singles)) (G_is_before : Fnx P w K mg base 2 "is_before" ["web", "first", "second"] (spD dm_is_before)) : Fnx P w K mg base 3 "pairs_in" ["web", "one", "other"] (spL dm_pairs_in) := by
  refine fnx T.d_pairs_in sc_pairs_in (fun _ _ _ _ _ _ us hl => match us, hl with | [_, _, _], _ => rfl) (len_spL (by rintro ds r ⟨n, E, roof, h, h2, rfl, _, _, _, _, rfl⟩; rfl)) fun f cdv A outer s H vs Q E' hr h => ?_
  obtain ⟨ds, r, hv, ⟨n, E, roof, one, other, rfl, ok, hroof, o1, o2, rfl⟩, q⟩ := h
  obtain ⟨x, y, z, rfl, hx, hy, hz⟩ := tpa3 hv
  refine ⟨_, (pss_cons (ps_par (i := 3) (j := 4) (by rfl) sc_pairs_in.nd rfl rfl (by decide) rfl rfl (pa_cons (pe_cf G_singles (hr.mono (by decide)) rfl (pa_cons (pv 1) (pa_cons (pv 2) pa_nil))) (pa_cons (pe_lst pa_nil) pa_nil)) (by rfl))
      (pss_cons (ps_for PassesOwn.never rfl (pi_list (pv 3)) (pg_name (i := 5) sc_pairs_in.nd rfl (Or.inr rfl)) (pss_one (ps_set (i := 4) sc_pairs_in.nd rfl (Or.inl rfl) (pe_op op_cat (pv 4) (pe_lc (own := [("second", 6)]) (g := gName 6) rfl sc_pairs_in.nd (pi_list (pv 3)) (blkOk_by (own := [("second", 6)]) (N := N_pairs_in) (sc := defScope (top 36)) (by decide +kernel)) (fun _ _ _ _ _ => (pg_name (i := 6) sc_pairs_in.nd rfl (Or.inl rfl))) (fun _ _ _ _ _ => pts_one (pt_val (pe_cf G_is_before (hr.mono (by decide)) rfl (pa_cons (pv 0) (pa_cons (pv 5) (pa_cons (pv 6) pa_nil)))))) (fun _ _ _ _ _ => (pe_tup (pa_cons (pv 5) (pa_cons (pv 6) pa_nil)))))))))
      (pss_one (ps_ret (pv 4))))), ?_⟩
  have hhi := ok.hi
  have hS : (singlesM one other).length ≤ 36 := by
    have := singlesM_le o1 o2 hroof n (Nat.le_refl _)
    unfold singlesM
    rw [o1.len]
    omega
  refine z_par (el_call (dom := dm_singles) (ea_cons (ed_var rfl hy) (ea_cons (ed_var rfl hz) ea_nil)) ⟨n, roof, one, other, rfl, hhi, hroof, o1, o2, rfl⟩ H (Same.refl H) _ fun p xs H1 hp s1 hp1 t1 => ?_)
  refine el_lst (ds := []) ea_nil (by decide) H1 (Same.refl H1) _ fun p2 xs2 H2 hp2 s2 hp22 t2 => ?_
  refine ⟨_, _, rfl, ?_⟩
  have hpH2 := s2 _ _ hp1
  have tH2 := t1.mono s2
  have s12 := s1.trans s2
  refine z_for M0 (src_lstV (bs := singlesM one other) (enc := eS) (ev_var rfl) hpH2 tH2 (fun z => z)) (fun i σ' H' => ∃ l ys b, σ' = [some x, some y, some z, some (.ref p), some (.ref l), b, none] ∧ H' l = some (.lst ys) ∧ H l = none ∧ TpA H' ys ((((singlesM one other).take i).flatMap fun f => ((singlesM one other).filter (isBef E f)).map fun g => (f, g)).map eP)) (fun H3 s3 => ⟨p2, xs2, none, rfl, s3 _ _ hp22, s1.free hp2, by cases t2; exact .nil⟩) (fun i e v σ' H' H'' N hi sx hσ s' hv k => ?_) fun σ' H' sx hσ => ?_
  · obtain ⟨l, ys, b, rfl, hl, hlH, ht'⟩ := hσ
    have s23 := sx.same.trans s'
    have hpH := s23 _ _ hpH2
    have tH := tH2.mono s23
    have hx3 := hx.mono (s12.trans s23)
    have hil := (List.getElem?_eq_some_iff.mp hi).1
    have hle := pairsM_le E (singlesM one other) ((singlesM one other).take i)
    have hle2 : (singlesM one other).length * ((singlesM one other).take i).length ≤ 36 * 36 := Nat.mul_le_mul hS (by rw [List.length_take]; omega)
    have hle3 := List.length_filter_le (isBef E e) (singlesM one other)
    refine gt_name _ ?_
    refine s_asgL (el_catV (ev_var rfl) (s' _ _ hl) (ht'.mono s') (el_lc (src_lstV (bs := singlesM one other) (enc := eS) (ev_var rfl) hpH tH (fun z => z)) (isBef E e) (fun g => eP (e, g)) (by omega) fun g v2 H3 hg s3 hv2 => ⟨_, gt_name, rfl, eb_B (ed_call (dom := dm_is_before) (ea_cons (ed_var rfl (hx3.mono s3)) (ea_cons (ed_var rfl (hv.mono s3)) (ea_cons (ed_var rfl hv2) ea_nil))) ⟨n, E, e, g, rfl, ok, rfl⟩), fun _ => ed_tup (ea_cons (ed_var rfl (hv.mono s3)) (ea_cons (ed_var rfl hv2) ea_nil)) (by show 2 ≤ 100000; omega)⟩) ?_) fun l2 ys2 H3 hl2 s3 hl3 t3 => ?_
    · refine sz_ok ?_
      rw [List.length_map, List.length_map]
      omega
    · refine k _ _ (s'.trans s3).sx ⟨l2, ys2, _, rfl, hl3, (s12.trans s23).free hl2, ?_⟩
      rw [take_snoc hi, List.flatMap_append, List.map_append, List.flatMap_cons, List.flatMap_nil, List.append_nil, List.map_map]
      exact t3
  · obtain ⟨l, ys, b, rfl, hl, hlH, ht'⟩ := hσ
    rw [List.take_length] at ht'
    exact s_retV (ev_var rfl) fun H3 s3 => q l ys H3 hlH (s12.trans (sx.same.trans s3)) (s3 _ _ hl) (ht'.mono s3)
/-! ### deeds_of, order_pairs -/
def dm_deeds_of : List PyData → PyData → Prop := fun ds r => ∃ (n : Nat) (E : List Edge) (roof : Int) (one other : Hts), ds = [eW n E, .int roof, eH one, eH other] ∧ Way n E roof one other ∧ r = .tuple ((singlesM one other).map eS)
theorem ok_deeds_of (T : Tx K mg) (G_need_way : Fnx P w K mg base 7 "need_way" ["web", "roof", "one", "other"] (spD dm_need_way)) (G_singles : Fnx P w K mg base 1 "singles" ["one", "other"] (spL dm_singles)) : Fnx P w K mg base 8 "deeds_of" ["web", "roof", "one", "other"] (spD dm_deeds_of) := by
  refine fnx T.d_deeds_of sc_deeds_of (fun _ _ _ _ _ _ us hl => match us, hl with | [_, _, _, _], _ => rfl) (len_spD (by rintro ds r ⟨n, E, roof, h, h2, rfl, _, rfl⟩; rfl)) fun f cdv A outer s H vs Q E' hr h => ?_
  obtain ⟨ds, r, hv, ⟨n, E, roof, one, other, rfl, W, rfl⟩, q⟩ := h
  obtain ⟨x, y, z, u, rfl, hx, hy, hz, hu⟩ := tpa4 hv
  refine ⟨_, (pss_cons (ps_expr (pe_cf G_need_way (hr.mono (by decide)) rfl (pa_cons (pv 0) (pa_cons (pv 1) (pa_cons (pv 2) (pa_cons (pv 3) pa_nil))))))
      (pss_one (ps_ret (pe_callTy call_tuple_of rfl T.b_tuple (by decide +kernel) (pa_cons (pe_cf G_singles (hr.mono (by decide)) rfl (pa_cons (pv 2) (pa_cons (pv 3) pa_nil))) pa_nil))))), ?_⟩
  refine z_dropD (ed_call (dom := dm_need_way) (ea_cons (ed_var rfl hx) (ea_cons (ed_var rfl hy) (ea_cons (ed_var rfl hz) (ea_cons (ed_var rfl hu) ea_nil)))) ⟨n, E, roof, one, other, rfl, W, rfl⟩) fun H1 s1 => ?_
  exact s_retD (ed_tupN (el_call (dom := dm_singles) (ea_cons (ed_var rfl (hz.mono s1)) (ea_cons (ed_var rfl (hu.mono s1)) ea_nil)) ⟨n, roof, one, other, rfl, W.web.hi, W.rhi, W.h1, W.h2, rfl⟩)) fun v H2 s2 hv => q v H2 (s1.trans s2) hv
def dm_order_pairs : List PyData → PyData → Prop := fun ds r => ∃ (n : Nat) (E : List Edge) (roof : Int) (one other : Hts), ds = [eW n E, .int roof, eH one, eH other] ∧ Way n E roof one other ∧ r = .tuple (srtD ((pairsM E (singlesM one other)).map eP))
theorem pairsS_le {n : Nat} {E : List Edge} {roof : Int} {one other : Hts} (hn : n ≤ 4) (hroof : roof ≤ 9) (o1 : HtOk n roof one) (o2 : HtOk n roof other) : (pairsM E (singlesM one other)).length ≤ 1296 := by
  have hS : (singlesM one other).length ≤ 36 := by
    have := singlesM_le o1 o2 hroof n (Nat.le_refl _)
    unfold singlesM
    rw [o1.len]
    omega
  have := pairsM_le E (singlesM one other) (singlesM one other)
  have h2 := Nat.mul_le_mul hS hS
  unfold pairsM
  omega
theorem ok_order_pairs (T : Tx K mg) (G_need_way : Fnx P w K mg base 7 "need_way" ["web", "roof", "one", "other"] (spD dm_need_way)) (G_pairs_in : Fnx P w K mg base 3 "pairs_in" ["web", "one", "other"] (spL dm_pairs_in)) : Fnx P w K mg base 8 "order_pairs" ["web", "roof", "one", "other"] (spD dm_order_pairs) := by
  refine fnx T.d_order_pairs sc_order_pairs (fun _ _ _ _ _ _ us hl => match us, hl with | [_, _, _, _], _ => rfl) (len_spD (by rintro ds r ⟨n, E, roof, h, h2, rfl, _, rfl⟩; rfl)) fun f cdv A outer s H vs Q E' hr h => ?_
  obtain ⟨ds, r, hv, ⟨n, E, roof, one, other, rfl, W, rfl⟩, q⟩ := h
  obtain ⟨x, y, z, u, rfl, hx, hy, hz, hu⟩ := tpa4 hv
  refine ⟨_, (pss_cons (ps_expr (pe_cf G_need_way (hr.mono (by decide)) rfl (pa_cons (pv 0) (pa_cons (pv 1) (pa_cons (pv 2) (pa_cons (pv 3) pa_nil))))))
      (pss_one (ps_ret (pe_callTy call_tuple_of rfl T.b_tuple (by decide +kernel) (pa_cons (pe_callB (cr_sortedD hr) rfl T.b_sorted (by decide +kernel) (pa_cons (pe_cf G_pairs_in (hr.mono (by decide)) rfl (pa_cons (pv 0) (pa_cons (pv 2) (pa_cons (pv 3) pa_nil)))) pa_nil)) pa_nil))))), ?_⟩
  refine z_dropD (ed_call (dom := dm_need_way) (ea_cons (ed_var rfl hx) (ea_cons (ed_var rfl hy) (ea_cons (ed_var rfl hz) (ea_cons (ed_var rfl hu) ea_nil)))) ⟨n, E, roof, one, other, rfl, W, rfl⟩) fun H1 s1 => ?_
  have hle := pairsS_le (E := E) W.web.hi W.rhi W.h1 W.h2
  exact s_retD (ed_tupN (el_sorted (el_call (dom := dm_pairs_in) (ea_cons (ed_var rfl (hx.mono s1)) (ea_cons (ed_var rfl (hz.mono s1)) (ea_cons (ed_var rfl (hu.mono s1)) ea_nil))) ⟨n, E, roof, one, other, rfl, W.web, W.rhi, W.h1, W.h2, rfl⟩) (srtOk_P (by omega)))) fun v H2 s2 hv => q v H2 (s1.trans s2) hv
/-! ### next_in -/
def dm_next_in : List PyData → List PyData → Prop := fun ds r => ∃ (n : Nat) (E : List Edge) (roof : Int) (here other : Hts), ds = [eW n E, .int roof, eH here, eH other] ∧ WebOk n E ∧ here.length = n ∧ other.length = n ∧ r = (nextM n E roof here other).map eD
theorem doable_few {n : Nat} {E : List Edge} {r : Int} {h : Hts} : (doableM n E r h).length ≤ 2 * n := by
  have h1 := raise_few (n := n) (E := E) (roof := r) (h := h)
  have h2 := lower_few (n := n) (E := E) (h := h)
  unfold doableM
  rw [List.length_append, List.length_map, List.length_map]
  omega
theorem doable_lt {n : Nat} {E : List Edge} {r : Int} {h : Hts} {d : Deed} (hd : d ∈ doableM n E r h) : d.2 < n := by
  rcases List.mem_append.mp hd with hd | hd
  · obtain ⟨k, hk, rfl⟩ := List.mem_map.mp hd
    exact List.mem_range.mp (List.mem_filter.mp hk).1
  · obtain ⟨k, hk, rfl⟩ := List.mem_map.mp hd
    exact List.mem_range.mp (List.mem_filter.mp hk).1
theorem ok_next_in (T : Tx K mg) (G_doable : Fnx P w K mg base 3 "doable" ["web", "roof", "heights"] (spL dm_doable)) : Fnx P w K mg base 4 "next_in" ["web", "roof", "here", "other"] (spL dm_next_in) := by
  refine fnx T.d_next_in sc_next_in (fun _ _ _ _ _ _ us hl => match us, hl with | [_, _, _, _], _ => rfl) (len_spL (by rintro ds r ⟨n, E, roof, h, h2, rfl, _, _, _, rfl⟩; rfl)) fun f cdv A outer s H vs Q E' hr h => ?_
  obtain ⟨ds, r, hv, ⟨n, E, roof, here, other, rfl, ok, l1, l2, rfl⟩, q⟩ := h
  obtain ⟨x, y, z, u, rfl, hx, hy, hz, hu⟩ := tpa4 hv
  refine ⟨_, (pss_cons (ps_set (i := 4) sc_next_in.nd rfl (Or.inl rfl) (pe_lst pa_nil))
      (pss_cons (ps_for PassesOwn.never rfl (pi_list (pe_callB (cr_sortedD hr) rfl T.b_sorted (by decide +kernel) (pa_cons (pe_cf G_doable (hr.mono (by decide)) rfl (pa_cons (pv 0) (pa_cons (pv 1) (pa_cons (pv 2) pa_nil)))) pa_nil))) (pg_tup rfl (pgs_cons (pg_name (i := 5) sc_next_in.nd rfl (Or.inl rfl)) (pgs_cons (pg_name (i := 6) sc_next_in.nd rfl (Or.inl rfl)) pgs_nil))) (pss_one (ps_if (PW.pt (pw_or (PW.pt (pw_and (pt_val (pv 5)) (pw_and1 (pt_cmpR op_lt (pe_ix (r := rIxT K) ix_tup (pv 2) (pv 6) (fun _ _ => rfl)) (pe_ix (r := rIxT K) ix_tup (pv 3) (pv 6) (fun _ _ => rfl)) (nomark _))))) (pw_or1 (PW.pt (pw_and (pt_not (pt_val (pv 5))) (pw_and1 (pt_cmpR op_gt (pe_ix (r := rIxT K) ix_tup (pv 2) (pv 6) (fun _ _ => rfl)) (pe_ix (r := rIxT K) ix_tup (pv 3) (pv 6) (fun _ _ => rfl)) (nomark _)))))))) (pss_one (ps_expr (pe_bm PySem.F.plainAttrs_list PySem.F.slot_list_append PySem.F.type_list_append mt_append (pv 4) (pa_cons (pe_tup (pa_cons (pv 5) (pa_cons (pv 6) pa_nil))) pa_nil)))) pss_nil)))
      (pss_one (ps_ret (pv 4))))), ?_⟩
  have hhi := ok.hi
  have few := doable_few (n := n) (E := E) (r := roof) (h := here)
  refine z_asgL (el_lst ea_nil (by decide)) fun p xs H1 hp s1 h1 t1 => ?_
  have src : EL (tCB (rSortedD K) (tCons (tCall (spL dm_doable) [] E0 (tCons (tVar 0) (tCons (tVar 1) (tCons (tVar 2) tNil)))) tNil)) ((start N_next_in [x, y, z, u]).set 4 (some (.ref p))) H1 (((doableM n E roof here).mergeSort (PySem.W.dataLe false eD)).map eD) := by
    rw [← srtD_map]
    exact el_sorted (el_call (dom := dm_doable) (ea_cons (ed_var rfl (hx.mono s1)) (ea_cons (ed_var rfl (hy.mono s1)) (ea_cons (ed_var rfl (hz.mono s1)) ea_nil))) ⟨n, E, roof, here, rfl, ok, l1, rfl⟩) (srtOk_D (by omega))
  refine z_for (fun a => a = p) (src_lstN src (fun a ha => by subst ha; exact ⟨_, h1⟩)) (fun i σ' H' => ∃ a b ys, σ' = [some x, some y, some z, some u, some (.ref p), a, b] ∧ H' p = some (.lst ys) ∧ TpA H' ys (((((doableM n E roof here).mergeSort (PySem.W.dataLe false eD)).take i).filter (nearer here other)).map eD)) (fun H2 s2 => ⟨none, none, xs, rfl, s2 _ _ h1, by cases t1; exact .nil⟩) (fun i d v σ' H' H'' N hi sx hσ s' hv k => ?_) fun σ' H' sx hσ => ?_
  · obtain ⟨a, b, ys, rfl, hp', ht'⟩ := hσ
    have kt := (s1.kt.trans sx.2).trans s'.kt
    have hz2 := hz.kt kt
    have hu2 := hu.kt kt
    have hdn := doable_lt (List.mem_mergeSort.mp (List.mem_of_getElem? hi))
    have hil := (List.getElem?_eq_some_iff.mp hi).1
    rw [List.length_mergeSort] at hil
    have hp2 := s' _ _ hp'
    obtain ⟨c, zs, rfl, hc, hzs⟩ := hv.tup_inv
    obtain ⟨y', z', rfl, hy', hz'⟩ := tpa2 hzs
    refine gt_two hc gt_name gt_name _ ?_
    refine s_if (b := nearer here other d) (eb_or (eb_and (eb_B (ed_var rfl hy')) fun _ => eb_test (ed_i0 (ed_ht (ed_var rfl hz2) (ed_var rfl hz') (by omega)) (ed_ht (ed_var rfl hu2) (ed_var rfl hz') (by omega)) fun _ => .bl _)) fun _ => eb_and (eb_not (eb_B (ed_var rfl hy'))) fun _ => eb_test (ed_i0 (ed_ht (ed_var rfl hz2) (ed_var rfl hz') (by omega)) (ed_ht (ed_var rfl hu2) (ed_var rfl hz') (by omega)) fun _ => .bl _)) (fun g H3 s3 => ?_) fun g H3 s3 => ?_
    · refine s_app (s3 _ _ hp2) (ev_var rfl) (ed_tup (ea_cons (ed_var rfl (hy'.mono s3)) (ea_cons (ed_var rfl (hz'.mono s3)) ea_nil)) (by show 2 ≤ 100000; omega)) (sz_lt ?_) fun v5 H5 s5 hv5 => ?_
      · rw [ht'.length, List.length_map]
        have := List.length_filter_le (nearer here other) (((doableM n E roof here).mergeSort (PySem.W.dataLe false eD)).take i)
        rw [List.length_take] at this
        omega
      · have s6 := s'.trans (s3.trans s5)
        have px : SX (fun a => a = p) H5 (upd H5 p (.lst (ys ++ [v5]))) := SX.put rfl (s6 _ _ hp')
        refine k _ _ (s6.sx.trans px) ⟨_, _, _, rfl, upd_same, ?_⟩
        rw [take_snoc hi, List.filter_append, List.filter_cons_of_pos g, List.map_append]
        exact ((ht'.mono s6).app (.cons hv5 .nil)).kt px.2
    · have ss := s'.trans s3
      refine k _ _ ss.sx ⟨_, _, ys, rfl, ss _ _ hp', ?_⟩
      rw [take_snoc hi, List.filter_append, List.filter_cons_of_neg (by rw [g]; decide), List.filter_nil, List.append_nil]
      exact ht'.mono ss
  · obtain ⟨a, b, ys, rfl, hp', ht'⟩ := hσ
    rw [List.take_length] at ht'
    have sm : Same H H' := (s1.sx.trans sx).same_of fun b hb => by rw [hb]; exact hp
    exact s_retV (ev_var rfl) fun H2 s2 => q p ys H2 hp (sm.trans s2) (s2 _ _ hp') (ht'.mono s2)
end
end Lv

set_option Elab.async false
set_option linter.all false
set_option maxRecDepth 100000
set_option maxHeartbeats 4000000
/-! dicts with tuple keys: the display of one pair, != {}, d.keys() -/
namespace Lv
open PySem PySem.Spec L2

/-! ### {k: v} -/
def tDisp1 (tk tv : TE) : TE := fun σ H Q => ∀ p, H p = none → tPairs [(tk, tv)] σ (upd H p (.dT [])) fun ps H2 => H2 p = some (.dT []) ∧ ∃ (ks : List L2.Key) (b : Addr) (y : V), ps = [(.ref b, y)] ∧ H2 b = some (.tup (ks.map kV)) ∧ Q (.ref p) (upd H2 p (.dT [(ks, y)]))
theorem pe_disp1 {X : Cx} {pos : Pos} {k v : Expr} {tk tv : TE} {n : Nat} (hr : Room n X.A) (hk : PE X k tk) (hv : PE X v tv) : PE X (.Dict [some k] [v] pos) (tDisp1 tk tv) := by
  refine ⟨fun pins s σ H Q I q => ?_⟩
  have hn := I.hok.fresh (Nat.le_refl s.heap.objs.size)
  have I1 := I.laid (a := s.heap.objs.size) (o := .dT []) (h' := s.heap.push { cls := .type "dict", data := .dict #[] }) (t' := s.toks) (fun _ _ q => Heap.get?_push_of_some _ q) (Nat.le_refl _) (dt_empty s.heap I.big)
  have hl : (pairTrees [some k] [v] X.env pos).length = 1 := pairTrees_length [some k] [v] X.env pos rfl rfl
  rw [arm_eval_Dict, zip_pairTrees [some k] [v] X.env pos rfl rfl, dictDisplay_pairs (pairTrees [some k] [v] X.env pos) (fun e => by rw [e] at hl; cases hl) (by omega)]
  refine wpAny_bind (wpAny_standAt (wpAny_bind (wpAny_subDictH (knd := tupleKind (mixKind X.prog X.w)) (Q := fun d s' => wpAny (model X.prog X.w) X.A (pure (Value.ref d)) (EP X pins σ Q) X.xe s') (by show X.A.units < cLine; exact hr.units0) (by omega) ?_)))
  refine thn ((pps_cons hk hv pps_nil : PPs X pos [some k] [v] [(tk, tv)]).run pins _ σ _ _ I1 (q _ hn)) fun ws s2 ⟨ps, H2, I2, rel, e, ks, b, y, ep, hb, q2⟩ => ?_
  subst ep
  obtain ⟨z, hd, xs0, r0, dd⟩ := dt_of I2.hok e
  cases r0
  cases rel with
  | @cons a w2 as bs r t =>
    cases t
    obtain ⟨u1, u2⟩ := w2
    obtain rfl : u1 = Value.ref b := r.1
    refine ⟨[(ks, b, u2)], ⟨rfl, rfl, key_of I2.hok hb, True.intro⟩, dd, fun h' tok dd' hs => wpAny_pure ⟨.ref s.heap.objs.size, upd H2 s.heap.objs.size (.dT [(ks, y)]), ?_, rfl, q2⟩⟩
    have he : ∃ q, h'.get? s.heap.objs.size = some q := let ⟨q, _, _, hq, _⟩ := dd'; ⟨q, hq⟩
    obtain ⟨o, es, ep, hq, h2, h3, h4, _, h5⟩ := dd'
    have es1 : storedAllH [] [(ks, b, u2)] = [(ks, b, u2)] := rfl
    rw [es1] at h4 h5
    refine d_write (t' := tok) I2 (by rw [e]; exact True.intro) hs he ⟨by show 1 ≤ sizeLine; rw [sizeLine_eq]; omega, hd, [(ks, b, u2)], .cons ⟨rfl, ?_, r.2⟩ .nil, o, es, ep, hq, h2, h3, h4, h5⟩
    rw [upd_ne (ne_of hb e (fun z => nomatch z))]
    exact hb

/-! ### d != {} -/
theorem samePairs_empty {prog : Program} {w : World} {A : Around} {E : Value → Shared → Prop} {s : Shared} {nm : String} {a b : Addr} {oa ob : Obj} {es : Array DictEntry} {ep ep' : Nat} {Q : Bool → Shared → Prop} (ha : (a == sysModules) = false) (hb : (b == sysModules) = false)
    (hoa : s.heap.get? a = some oa) (hda : oa.data = .dict es ep) (hob : s.heap.get? b = some ob) (hdb : ob.data = .dict #[] ep') (h : Q (es.size == 0) s) :
    wpAny (model prog w) A (Builtin.Dict.samePairs nm a b) Q E s := by
  unfold Builtin.Dict.samePairs Builtin.Dict.showsAll
  rw [if_neg (show ¬ (a == sysModules) = true by rw [ha]; exact Bool.false_ne_true), if_neg (show ¬ (b == sysModules) = true by rw [hb]; exact Bool.false_ne_true)]
  refine wpAny_bind (wpAny_pure (wpAny_bind (wpAny_pure ?_)))
  refine wpAny_bind (wpAny_dictEntries hoa hda ?_)
  dsimp only
  refine wpAny_bind (wpAny_dictEntries hob hdb ?_)
  by_cases hsz : es.size = 0
  case neg =>
    rw [if_pos (by simpa using hsz)]
    have hbf : (es.size == 0) = false := by simpa using hsz
    rw [hbf] at h
    exact wpAny_bind (wpAny_rule (wpAny_pure h))
  case pos =>
    have h' : Q true s := by simpa [hsz] using h
    rw [if_neg (by rw [hsz]; simp)]
    refine wpAny_bind (wpAny_dictEpoch hoa hda ?_)
    refine wpAny_bind ?_
    rw [Std.Legacy.Range.forIn_eq_forIn_range']
    simp only [Std.Legacy.Range.size, Nat.sub_zero, Nat.add_sub_cancel, Nat.div_one]
    rw [hsz]
    show wpAny _ _ (forIn (List.range' 0 0) _ _) _ _ _
    rw [List.range'_zero, List.forIn_nil]
    exact wpAny_pure (wpAny_pure h')
def rNeDE : R2 := fun x y H Q => ∃ (a b : Addr) (kvs : List (List L2.Key × V)), x = .ref a ∧ y = .ref b ∧ H a = some (.dT kvs) ∧ H b = some (.dT []) ∧ Q (.bl (!kvs.isEmpty)) H
theorem op_neDE {X : Cx} {n : Nat} (hr : Room n X.A) : OpR X (compareOp .NotEq) rNeDE := by
  intro pins s σ H x y v u Q I rx ry h
  obtain ⟨a, b, kvs, rfl, rfl, ha, hb, q⟩ := h
  obtain rfl : v = Value.ref a := rx
  obtain rfl : u = Value.ref b := ry
  obtain ⟨_, na, xs, pr, oa, es, ep, hoa, hxa, hda, hea, _⟩ := I.hok a _ ha
  obtain ⟨_, nb, ys, pr2, ob, es', ep', hob, hxb, hdb, heb, _⟩ := I.hok b _ hb
  cases pr2
  have e0 : es' = #[] := Array.toList_inj.mp (by rw [heb]; rfl)
  subst e0
  have hsz : (es.size == 0) = kvs.isEmpty := by
    have l1 : es.size = xs.length := by
      have := congrArg List.length hea
      simpa using this
    have l2 : kvs.length = xs.length := Paired.length pr
    cases kvs with
    | nil => rw [l1, ← l2]; rfl
    | cons p r => rw [l1, ← l2]; rfl
  have Ta : s.TypeIs (.ref a) "dict" := ⟨oa, hoa, hxa.1⟩
  have Tb : s.TypeIs (.ref b) "dict" := ⟨ob, hob, hxb.1⟩
  refine wpAny_richCompare_same_room (op := .NotEq) Ta Tb PySem.F.slot_dict_ne (wpAny_call_entry PySem.F.slot_dict_ne Ta PySem.F.entry_dict_ne ?_ (PySem.F.args_dict_ne_2 _ _)) hr.units0
  show wpAny _ _ (Builtin.Dict.dictSlotArgs "__ne__" ⟨[.ref a, .ref b], []⟩ >>= _) _ _ s
  refine wpAny_bind ?_
  unfold Builtin.Dict.dictSlotArgs
  refine wpAny_bind (wpAny_notOrdered_dict Ta ?_)
  show wpAny _ _ (pure (Value.ref a, Value.ref b)) _ _ s
  refine wpAny_pure ?_
  refine wpAny_bind (wpAny_isInstance (T := "dict") Tb PySem.F.sub_dict_dict ?_)
  simp only [Bool.not_true, Bool.false_eq_true, if_false]
  refine wpAny_bind (wpAny_pure (wpAny_bind (wpAny_pure ?_)))
  refine wpAny_bind (samePairs_empty na nb hoa hda hob hdb ?_)
  refine wpAny_pure ⟨_, rfl, ?_, ?_⟩
  · exact fun x => nomatch x
  · refine ⟨.bl (!kvs.isEmpty), H, I, ?_, q⟩
    show Value.bool _ = Value.bool (!kvs.isEmpty)
    rw [hsz]
    cases kvs.isEmpty <;> rfl

/-! ### for k in d.keys() -/
def iKeysMT (td : TE) : TI := fun σ H R => td σ H fun x H1 => ∃ d o kvs, x = .ref d ∧ H1 d = some (.frz o (.dT kvs)) ∧ R (Itkt d o kvs) H1
theorem pi_keysMT {X : Cx} {tg e : Expr} {td : TE} {apos cpos : Pos} (he : PE X e td) (hbase : attributeBase e "keys" X.env (eval e X.env) = eval e X.env := by rfl) (hline : (apos.endLine == cpos.line) = true := by rfl) : PI X tg (.Call (.Attribute e "keys" apos) [] [] cpos) (iKeysMT td) := by
  refine ⟨fun pins s σ H R I h => ?_⟩
  refine wpAny_Call_method (T := "dict") (id := "dict.keys") hbase rfl hline F.plainAttrs_dict F.slot_dict_keys F.type_dict_keys (thn (he.run pins s σ H _ I h) fun u s1 ⟨x, H1, I1, rx, d, o, kvs, ex, hd, q⟩ => ?_)
  subst ex
  obtain rfl : u = Value.ref d := rx
  obtain ⟨hs, hgd, hx, es, ep, hdt, hsz, ent⟩ := I1.frzT hd
  have raw : s1.heap.DictRaw d es ep := ⟨o, hgd, hx, hdt⟩
  refine ⟨raw.typeIs, fun b q => by cases q; exact ⟨o, hgd, hx.2.1⟩, ?_⟩
  have I2 : Inv X pins σ H1 { s1 with heap := s1.heap.push { cls := .type "dict_keys", data := .fields #[.ref d] } } := I1.kept (t' := s1.toks) fun b ob q => Heap.get?_push_of_some _ q
  have fin : wpAny (model X.prog X.w) X.A (pyIter (.ref s1.heap.objs.size)) (PIE X pins σ tg R) X.xe { s1 with heap := s1.heap.push { cls := .type "dict_keys", data := .fields #[.ref d] } } := by
    refine wpAny_pyIter_keys_raw (d := d) ⟨_, Heap.get?_push_size _ rfl, rfl, rfl⟩ (raw.at fun o q => Heap.get?_push_of_some _ q) (pi_one (tk := s1.toks) I2 _ (turn_keysT _ hdt) ⟨_, Heap.get?_push_size _ rfl, rfl, ?_⟩ q)
    rw [hsz] <;> rfl
  show wpAny _ _ (callWith cpos (.builtin "dict.keys") [.ref d] [] []) _ X.xe s1
  exact method_meetsIn F.slot_dict_keys F.entry_dict_keys rfl (PySem.evalArgs_none ⟨rfl, raw.typeIs, F.args_dict_keys_1 _, _, meets_dict_keys_raw d hs, ⟨es, ep, raw⟩, fin⟩)
end Lv

set_option Elab.async false
set_option linter.all false
set_option maxRecDepth 100000
set_option maxHeartbeats 4000000
namespace Lv
open PySem PySem.Spec L2
open PyProof.Rows (envOfC)
/-! ### tables in the heap -/
def kH (h : Hts) : List L2.Key := h.map Sum.inl
theorem kH_inj {a b : Hts} (h : kH a = kH b) : a = b := by
  unfold kH at h
  exact (List.map_inj_right fun x y e => Sum.inl.inj e).mp h
def encA (al : AL) : List (List L2.Key × V) := al.map fun p => (kH p.1, V.int p.2)
theorem encA_len (al : AL) : (encA al).length = al.length := List.length_map _
theorem kH_vals (h : Hts) : (kH h).map kV = h.map V.int := by
  unfold kH
  rw [List.map_map]
  rfl
theorem key_tp {H : Hp} {v : V} {h : Hts} (t : Tp H v (eH h)) : ∃ b, v = .ref b ∧ H b = some (.tup ((kH h).map kV)) := by
  obtain ⟨a, xs, rfl, h1, h2⟩ := t.tup_inv
  have e := TpA.ints h2
  subst e
  exact ⟨a, rfl, by rw [kH_vals]; exact h1⟩
theorem tp_key {H : Hp} {b : Addr} {h : Hts} (e : H b = some (.tup ((kH h).map kV))) : Tp H (.ref b) (eH h) := by
  rw [kH_vals] at e
  exact .tup e (TpA.of_ints h)
theorem dK_eq (a b : Hts) : decide (kH a = kH b) = decide (a = b) := by
  by_cases h : a = b
  · rw [h, decide_eq_true rfl, decide_eq_true rfl]
  · rw [decide_eq_false h, decide_eq_false (fun e => h (kH_inj e))]
theorem valV_enc (h : Hts) : ∀ al : AL, valV (encA al) (kH h) = (al.find? fun p => decide (p.1 = h)).map fun p => V.int p.2
  | [] => rfl
  | p :: r => by
    show valV ((kH p.1, V.int p.2) :: encA r) (kH h) = _
    by_cases e : p.1 = h
    · rw [valV_pos (show (kH p.1, V.int p.2).1 = kH h by rw [e]), List.find?_cons_of_pos (by simpa using e)]
      rfl
    · rw [valV_neg (show ¬ (kH p.1, V.int p.2).1 = kH h from fun z => e (kH_inj z)), List.find?_cons_of_neg (by simpa using e)]
      exact valV_enc h r
theorem valV_look (al : AL) (h : Hts) : (valV (encA al) (kH h)).getD (.int 0) = .int (lookA al h) := by
  rw [valV_enc]
  unfold lookA
  cases al.find? fun p => decide (p.1 = h) <;> rfl
theorem valV_at {al : AL} (hn : NdA al) {p : Hts × Int} (hp : p ∈ al) : valV (encA al) (kH p.1) = some (.int p.2) := by
  rw [valV_enc]
  induction al with
  | nil => cases hp
  | cons q r ih =>
    have hn' : (q.1 :: r.map (·.1)).Nodup := hn
    obtain ⟨h1, h2⟩ := List.nodup_cons.mp hn'
    rcases List.mem_cons.mp hp with e | e
    · rw [e, List.find?_cons_of_pos (by simp)]
      rfl
    · have ne : ¬ q.1 = p.1 := fun z => h1 (List.mem_map.mpr ⟨p, e, z.symm⟩)
      rw [List.find?_cons_of_neg (by simpa using ne)]
      exact ih h2 e
theorem putK_enc (al : AL) (h : Hts) (v : Int) : putK (encA al) (kH h) (.int v) = encA (putA al h v) := by
  have e1 : ((encA al).any fun kv => decide (kv.1 = kH h)) = al.any fun p => decide (p.1 = h) := by
    unfold encA
    rw [List.any_map]
    congr 1
    funext p
    exact dK_eq p.1 h
  unfold putK putA
  rw [e1]
  split
  · unfold encA
    rw [List.map_map, List.map_map]
    apply List.map_congr_left
    intro p _
    show (if kH p.1 = kH h then (kH p.1, V.int v) else (kH p.1, V.int p.2)) = (kH (if p.1 = h then (p.1, v) else p).1, V.int (if p.1 = h then (p.1, v) else p).2)
    by_cases e : p.1 = h
    · rw [if_pos e, if_pos (by rw [e])]
    · rw [if_neg e, if_neg (fun z => e (kH_inj z))]
  · unfold encA
    rw [List.map_append]
    rfl
theorem encA_get {al : AL} {i : Nat} {k : List L2.Key} {v : V} (h : (encA al)[i]? = some (k, v)) : ∃ p, al[i]? = some p ∧ k = kH p.1 ∧ v = .int p.2 := by
  unfold encA at h
  rw [List.getElem?_map] at h
  cases q : al[i]? with
  | none => rw [q] at h; cases h
  | some p =>
    rw [q] at h
    cases h
    exact ⟨p, rfl, rfl, rfl⟩
theorem SX.putO {M : Addr → Prop} {H : Hp} {p : Addr} {o o' : HO} (m : M p) (h : H p = some o') (nt : ∀ xs, o' ≠ .tup xs) : SX M H (upd H p o) := by
  refine ⟨fun b u n e => ?_, fun b zs e => ?_⟩
  · rw [upd_ne (fun q => n (by rw [q]; exact m))]
    exact e
  · rw [upd_ne (fun q => by rw [q, h] at e; exact nt zs (Option.some.inj e))]
    exact e
abbrev oA (al : AL) : HO := .dT (encA al)
theorem oA_nt (al : AL) (xs : List V) : oA al ≠ .tup xs := fun z => nomatch z
theorem frz_nt {od : Obj} {u : HO} (xs : List V) : (HO.frz od u) ≠ .tup xs := fun z => nomatch z
theorem nextM_len {n : Nat} {E : List Edge} (hn : n ≤ 4) (r : Int) (here other : Hts) : (nextM n E r here other).length ≤ 8 := by
  unfold nextM
  have h1 := List.length_filter_le (nearer here other) ((doableM n E r here).mergeSort (PySem.W.dataLe false eD))
  rw [List.length_mergeSort] at h1
  have := doable_few (n := n) (E := E) (r := r) (h := here)
  omega
theorem nextM_lt {n : Nat} {E : List Edge} {r : Int} {here other : Hts} {d : Deed} (hd : d ∈ nextM n E r here other) : d.2 < n :=
  doable_lt (List.mem_mergeSort.mp (List.mem_filter.mp hd).1)
section
variable {P : Program} {w : World} {K : PySem.W.Frag} {mg : Str → Option Value} {base : Heap} {σ : L2.St} {H : Hp} {te : TE}
/-- d[k] = v -/
theorem s_put {td ty tv : TE} {D : Ends} {a : Addr} {al : AL} {h : Hts} {v : Int} (hd : EV td σ H (.ref a)) (hk : ED ty σ H (eH h)) (hv : ED tv σ H (.int v)) (ha : H a = some (oA al)) (hl : al.length < 16000000) (k : ∀ H1, Same H H1 → D.nx σ (upd H1 a (oA (putA al h v)))) : sDPut td ty tv D σ H :=
  ev_int hv H (Same.refl H) _ fun H1 s1 => hd H1 s1 _ fun H2 s2 => hk H2 (s1.trans s2) _ fun y H3 s3 hy => by
    obtain ⟨b, rfl, hb⟩ := key_tp hy
    have ss := (s1.trans s2).trans s3
    have h3 : H3 a = some (oA al) := ss _ _ ha
    refine ⟨a, _, rfl, DPut.t h3 hb (by rw [encA_len, sizeLine_eq]; omega), ?_⟩
    rw [putK_enc]
    exact k H3 ss
/-- d.get(k, 0) -/
theorem ed_get {td ty tx : TE} {a : Addr} {al : AL} {h : Hts} (hd : EV td σ H (.ref a)) (hk : ED ty σ H (eH h)) (hx : ED tx σ H (.int 0)) (ha : H a = some (oA al)) : ED (tDGet2 td ty tx) σ H (.int (lookA al h)) := fun H1 s Q q =>
  hd H1 s _ fun H2 s2 => ⟨a, rfl, .inr ⟨_, .inl ((s.trans s2) _ _ ha)⟩, hk H2 (s.trans s2) _ fun y H3 s3 hy => ev_int hx H3 ((s.trans s2).trans s3) _ fun H4 s4 => by
    obtain ⟨b, rfl, hb⟩ := key_tp (hy.mono s4)
    have ss := ((s.trans s2).trans s3).trans s4
    refine ⟨_, DGet.t (ss _ _ ha) hb, ?_⟩
    rw [valV_look]
    exact q _ H4 ((s2.trans s3).trans s4) (.int _)⟩
/-- d[k], the dict held or locked -/
theorem ed_dget {td ty : TE} {a : Addr} {al : AL} {h : Hts} {c : Int} (hd : EV td σ H (.ref a)) (hk : ED ty σ H (eH h)) (ha : Rd H a (oA al)) (hc : valV (encA al) (kH h) = some (.int c)) : ED (tDGet td ty) σ H (.int c) := fun H1 s Q q =>
  hd H1 s _ fun H2 s2 => hk H2 (s.trans s2) _ fun y H3 s3 hy => by
    obtain ⟨b, rfl, hb⟩ := key_tp hy
    have ss := (s.trans s2).trans s3
    have ha3 : Rd H3 a (oA al) := by
      rcases ha with z | ⟨o, z⟩
      · exact .inl (ss _ _ z)
      · exact .inr ⟨o, ss _ _ z⟩
    exact ⟨a, _, rfl, .inr ⟨_, _, _, ha3, rfl, hb, hc.symm⟩, q _ H3 (s2.trans s3) (.int _)⟩
/-! ### counts_from -/
/-- the tables' run ends behind T levels, and is small -/
structure Runs (nx : Hts → List Deed) (one : Hts) (T : Nat) : Prop where
  few : T ≤ 7
  full : ∀ t, t ≤ T → (lvA nx one t).1 ≠ []
  fin : (lvA nx one (T + 1)).1 = []
  small : ∀ t, t ≤ T + 1 → (lvA nx one t).1.length ≤ 100000
def spCf : Sp := fun vs H Q _ => ∃ (n : Nat) (E : List Edge) (roof : Int) (one other : Hts) (T : Nat), TpA H vs [eW n E, .int roof, eH one, eH other] ∧ WebOk n E ∧ one.length = n ∧ other.length = n ∧ Runs (fun h => nextM n E roof h other) one T ∧
  ∀ p H', H p = none → Same H H' → H' p = some (oA (lvA (fun h => nextM n E roof h other) one (T + 1)).2) → Q (.ref p) H'
theorem ok_counts_from (T : Tx K mg) (G_next_in : Fnx P w K mg base 4 "next_in" ["web", "roof", "here", "other"] (spL dm_next_in)) (G_changed : Fnx P w K mg base 1 "changed" ["heights", "deed"] (spD dm_changed)) : Fnx P w K mg base 5 "counts_from" ["web", "roof", "one", "other"] spCf := by
  refine fnx T.d_counts_from sc_counts_from (fun _ _ _ _ _ _ us hl => match us, hl with | [_, _, _, _], _ => rfl) (fun vs H Q E h => by obtain ⟨n, E, roof, one, other, T, hv, _⟩ := h; rw [hv.length]; rfl) fun f cdv A outer s H vs Q E' hr h => ?_
  obtain ⟨n, E, roof, one, other, M, hv, ok, l1, l2, R, q⟩ := h
  obtain ⟨x, y, z, u, rfl, hx, hy, hz, hu⟩ := tpa4 hv
  refine ⟨_, (pss_cons (ps_par (i := 4) (j := 5) (by rfl) sc_counts_from.nd rfl rfl (by decide) rfl rfl (pa_cons (pe_disp1 hr (pv 2) pe_int) (pa_cons (pe_disp1 hr (pv 2) pe_int) pa_nil)) (by rfl))
      (pss_cons (ps_while PassesOwn.never (pt_cmpR (op_neDE hr) (pv 4) pe_dnewT (nomark _)) (pss_cons (ps_set (i := 6) sc_counts_from.nd rfl (Or.inl rfl) pe_dnewT)
      (pss_cons (ps_lock (ps_for PassesOwn.never rfl (pi_keysMT (pv 4)) (pg_name (i := 7) sc_counts_from.nd rfl (Or.inl rfl)) (pss_one (ps_for PassesOwn.never rfl (pi_list (pe_cf G_next_in (hr.mono (by decide)) rfl (pa_cons (pv 0) (pa_cons (pv 1) (pa_cons (pv 7) (pa_cons (pv 3) pa_nil)))))) (pg_name (i := 8) sc_counts_from.nd rfl (Or.inl rfl)) (pss_cons (ps_set (i := 9) sc_counts_from.nd rfl (Or.inl rfl) (pe_cf G_changed (hr.mono (by decide)) rfl (pa_cons (pv 7) (pa_cons (pv 8) pa_nil))))
      (pss_one (ps_dput (hu_of hr) (pv 6) (pv 9) (pe_op op_add (pe_dget2 (hu_of hr) (pv 6) (pv 9) pe_int ⟨rfl, rfl, rfl, rfl⟩) (pe_dget (hu_of hr) (pv 4) (pv 7) (fun _ _ => rfl))) rfl)))))))
      (pss_cons (ps_lock (ps_for PassesOwn.never rfl (pi_keysMT (pv 6)) (pg_name (i := 9) sc_counts_from.nd rfl (Or.inl rfl)) (pss_one (ps_dput (hu_of hr) (pv 5) (pv 9) (pe_dget (hu_of hr) (pv 6) (pv 9) (fun _ _ => rfl)) rfl))))
      (pss_one (ps_set (i := 4) sc_counts_from.nd rfl (Or.inl rfl) (pv 6)))))))
      (pss_one (ps_ret (pv 5))))), ?_⟩
  have hhi := ok.hi
  generalize hnx : (fun h => nextM n E roof h other) = nx at R q
  have hnx8 : ∀ h, (nx h).length ≤ 8 := fun h => by rw [← hnx]; exact nextM_len hhi roof h other
  have few := R.few
  -- rows, found = {one: 1}, {one: 1}
  have disp : ∀ (H0 : Hp), Same H H0 → ∀ (Q' : VK), (∀ p H1, H0 p = none → Same H0 H1 → H1 p = some (oA [(one, 1)]) → Q' (.ref p) H1) → tDisp1 (tVar 2) (tC (.int 1)) (start N_counts_from [x, y, z, u]) H0 Q' := fun H0 s0 Q' q' p hp => by
    have s1 := same_new hp (.dT [])
    obtain ⟨b, rfl, hb⟩ := key_tp (hz.mono (s0.trans s1))
    refine ⟨_, rfl, upd_same, kH one, b, .int 1, rfl, hb, ?_⟩
    exact q' p _ hp (same_mut s1 hp) upd_same
  refine z_par (disp H (Same.refl H) _ fun pr H1 hpr s1 hr1 => ?_)
  refine disp H1 s1 _ fun pf H2 hpf s2 hf2 => ?_
  refine ⟨_, _, rfl, ?_⟩
  have s12 := s1.trans s2
  -- while
  refine ⟨fun m σ H' => ∃ t pr pf a6 a7 a8 a9, t + m = M + 1 ∧ σ = [some x, some y, some z, some u, some (.ref pr), some (.ref pf), a6, a7, a8, a9] ∧ Same H H' ∧ H pr = none ∧ H pf = none ∧ pr ≠ pf ∧ H' pr = some (oA (lvA nx one t).1) ∧ H' pf = some (oA (lvA nx one t).2),
    ⟨M + 1, 0, pr, pf, none, none, none, none, by omega, rfl, s12, hpr, s1.free hpf, ne_of_none hr1 hpf, s2 _ _ hr1, hf2⟩, ?_⟩
  rintro m σ H3 ⟨t, pr, pf, a6, a7, a8, a9, etm, rfl, s3, hpr, hpf, hne, hr3, hf3⟩
  refine ⟨_, rfl, fun pe hpe => ?_⟩
  have se := same_new hpe (.dT [])
  refine ⟨pr, pe, _, rfl, rfl, se _ _ hr3, upd_same, _, rfl, ?_⟩
  by_cases hrows : (lvA nx one t).1 = []
  · -- the end
    have e0 : (!(encA (lvA nx one t).1).isEmpty) = false := by rw [hrows]; rfl
    rw [e0]
    refine iteF ⟨_, rfl, ?_⟩
    have et : t = M + 1 := by
      have : ¬ t ≤ M := fun h => R.full t h hrows
      omega
    subst et
    exact q pf _ hpf (s3.trans se) (se _ _ hf3)
  · have e0 : (!(encA (lvA nx one t).1).isEmpty) = true := by
      cases hl : (lvA nx one t).1 with
      | nil => exact absurd hl hrows
      | cons a b => rfl
    rw [e0]
    have htM : t ≤ M := by
      have : t ≠ M + 1 := fun e => hrows (by rw [e]; exact R.fin)
      omega
    refine iteT ⟨fun σ' H' => ∃ pr' pf' a6 a7 a8 a9, σ' = [some x, some y, some z, some u, some (.ref pr'), some (.ref pf'), a6, a7, a8, a9] ∧ Same H H' ∧ H pr' = none ∧ H pf' = none ∧ pr' ≠ pf' ∧ H' pr' = some (oA (lvA nx one (t + 1)).1) ∧ H' pf' = some (oA (lvA nx one (t + 1)).2), ?_, ?_⟩
    · rintro σ' H' ⟨pr', pf', b6, b7, b8, b9, h1, h2, h3, h4, h5, h6, h7⟩
      exact ⟨m - 1, by omega, t + 1, pr', pf', b6, b7, b8, b9, by omega, h1, h2, h3, h4, h5, h6, h7⟩
    -- more = {}
    intro pm hpm
    have s4 := se.trans (same_new hpm (.dT []))
    have hmr : pm ≠ pr := fun e => by rw [e, se _ _ hr3] at hpm; cases hpm
    have hmf : pm ≠ pf := fun e => by rw [e, se _ _ hf3] at hpm; cases hpm
    have hpmH : H pm = none := (s3.trans se).free hpm
    generalize hH4 : upd (upd H3 pe (.dT [])) pm (.dT []) = H4 at s4
    have hm4 : H4 pm = some (oA []) := by rw [← hH4]; exact upd_same
    have hr4 : H4 pr = some (oA (lvA nx one t).1) := s4 _ _ hr3
    have hf4 : H4 pf = some (oA (lvA nx one t).2) := s4 _ _ hf3
    have s04 : Same H H4 := s3.trans s4
    -- for here in rows.keys()
    refine ⟨pr, oA (lvA nx one t).1, hr4, True.intro, fun od => ?_⟩
    have kt5 : KT H4 (upd H4 pr (.frz od (oA (lvA nx one t).1))) := (SX.putO (M := fun a => a = pr) rfl hr4 (oA_nt _)).2
    generalize hH5 : upd H4 pr (.frz od (oA (lvA nx one t).1)) = H5 at kt5
    have hr5 : H5 pr = some (.frz od (oA (lvA nx one t).1)) := by rw [← hH5]; exact upd_same
    have hm5 : H5 pm = some (oA []) := by rw [← hH5, upd_ne hmr]; exact hm4
    have hf5 : H5 pf = some (oA (lvA nx one t).2) := by rw [← hH5, upd_ne (Ne.symm hne)]; exact hf4
    have back5 : ∀ b o, b ≠ pr → H4 b = some o → H5 b = some o := fun b o hb e => by rw [← hH5, upd_ne hb]; exact e
    refine ⟨_, rfl, pr, od, _, rfl, hr5, ?_⟩
    have hlen5 := R.small t (by omega)
    have hkey := lvA_length nx one t
    have hnd := lvA_nd nx one t
    refine for_it (walk_keysT (d := pr) (o := od) (kvs := encA (lvA nx one t).1)) (fun i σ' H' => ∃ b7 b8 b9, σ' = [some x, some y, some z, some u, some (.ref pr), some (.ref pf), some (.ref pm), b7, b8, b9] ∧ SX (fun a => a = pm) H5 H' ∧ H' pm = some (oA (((lvA nx one t).1.take i).foldl (stepH nx) []))) ⟨a7, a8, a9, rfl, SX.refl, hm5⟩ (fun i σ' H' _ h => ?_) (fun i v σ' Hq H' hi h yy => ?_) fun σ' H' h => ?_
    · obtain ⟨_, _, _, _, sx, _⟩ := h
      exact sx.1 _ _ (fun z => hmr z.symm) hr5
    · obtain ⟨b7, b8, b9, rfl, sx, hm'⟩ := h
      obtain ⟨rfl, k, w', qa, hk, rfl, hqa⟩ := yy
      obtain ⟨pp, hpp, rfl, rfl⟩ := encA_get hk
      have hppm := List.mem_of_getElem? hpp
      have hplen : pp.1.length = n := (hkey pp.1 (List.mem_map.mpr ⟨pp, hppm, rfl⟩)).trans l1
      have kt : KT H H' := (s04.kt.trans kt5).trans sx.2
      have tpk : Tp H' (.ref qa) (eH pp.1) := tp_key hqa
      have hr' : H' pr = some (.frz od (oA (lvA nx one t).1)) := sx.1 _ _ (fun z => hmr z.symm) hr5
      have hx' := hx.kt kt
      have hy' := hy.kt kt
      have hu' := hu.kt kt
      have hnl := hnx8 pp.1
      refine gt_name _ ?_
      refine q_for (fun a => a = pm) (src_lstN (bs := nx pp.1) (enc := eD) (el_call (dom := dm_next_in) (ea_cons (ed_var rfl hx') (ea_cons (ed_var rfl hy') (ea_cons (ed_var rfl tpk) (ea_cons (ed_var rfl hu') ea_nil)))) ⟨n, E, roof, pp.1, other, rfl, ok, hplen, l2, by rw [← hnx]⟩) (fun a ha => by subst ha; exact ⟨_, hm'⟩)) (fun j σ' H1 => ∃ c8 c9, σ' = [some x, some y, some z, some u, some (.ref pr), some (.ref pf), some (.ref pm), some (.ref qa), c8, c9] ∧ H1 pm = some (oA (((nx pp.1).take j).foldl (fun m d => addA m (chg pp.1 d) pp.2) (((lvA nx one t).1.take i).foldl (stepH nx) [])))) (fun H1 sA => ⟨b8, b9, rfl, sA _ _ hm'⟩) (fun j d v1 σ1 H1 H1' N hj sxj hσ sA hv1 k => ?_) fun σ1 H1 sxj hσ => ?_
      · obtain ⟨c8, c9, rfl, hm1⟩ := hσ
        have kt1 : KT H' H1' := sxj.2.trans sA.kt
        have hdn : d.2 < n := nextM_lt (E := E) (r := roof) (here := pp.1) (other := other) (by
          have := List.mem_of_getElem? hj
          rw [← hnx] at this
          exact this)
        refine gt_name _ ?_
        refine z_asgD (ed_call (dom := dm_changed) (ea_cons (ed_var rfl (tpk.kt kt1)) (ea_cons (ed_var rfl hv1) ea_nil)) ⟨pp.1, d, rfl, by rw [hplen]; exact hdn, by omega, rfl⟩) fun v2 H6 s6 hv2 => ?_
        have sA6 := sA.trans s6
        have hm6 : H6 pm = some (oA _) := sA6 _ _ hm1
        have hr6 : H6 pr = some (.frz od (oA (lvA nx one t).1)) := sA6 _ _ (sxj.1 _ _ (fun z => hmr z.symm) hr')
        have tpk6 : Tp H6 (.ref qa) (eH pp.1) := (tpk.kt kt1).mono s6
        have hjl : j < (nx pp.1).length := (List.getElem?_eq_some_iff.mp hj).1
        have hil : i < (lvA nx one t).1.length := (List.getElem?_eq_some_iff.mp hpp).1
        have hb1 := foldl_len hnx8 ((lvA nx one t).1.take i) []
        have hb2 := stepH_len (nx := fun _ => (nx pp.1).take j) (p := pp) (more := ((lvA nx one t).1.take i).foldl (stepH nx) [])
        have hb3 : (((nx pp.1).take j).foldl (fun m d => addA m (chg pp.1 d) pp.2) (((lvA nx one t).1.take i).foldl (stepH nx) [])).length ≤ 8 * 100000 + 8 := by
          have e : stepH (fun _ => (nx pp.1).take j) (((lvA nx one t).1.take i).foldl (stepH nx) []) pp = ((nx pp.1).take j).foldl (fun m d => addA m (chg pp.1 d) pp.2) (((lvA nx one t).1.take i).foldl (stepH nx) []) := rfl
          rw [e] at hb2
          rw [List.length_take] at hb1 hb2
          rw [List.length_nil] at hb1
          omega
        refine s_put (ev_var rfl) (ed_var rfl hv2) (ed_i0 (ed_get (ev_var rfl) (ed_var rfl hv2) ed_int hm6) (ed_dget (ev_var rfl) (ed_var rfl tpk6) (.inr ⟨od, hr6⟩) (valV_at hnd hppm)) fun _ => .int _) hm6 (by omega) fun H7 s7 => ?_
        have px : SX (fun a => a = pm) H7 (upd H7 pm (oA (putA (((nx pp.1).take j).foldl (fun m d => addA m (chg pp.1 d) pp.2) (((lvA nx one t).1.take i).foldl (stepH nx) [])) (chg pp.1 d) (lookA (((nx pp.1).take j).foldl (fun m d => addA m (chg pp.1 d) pp.2) (((lvA nx one t).1.take i).foldl (stepH nx) [])) (chg pp.1 d) + pp.2)))) := SX.putO rfl (s7 _ _ hm6) (oA_nt _)
        refine k _ _ ((sA6.trans s7).sx.trans px) ⟨_, _, rfl, ?_⟩
        rw [upd_same, take_snoc hj, List.foldl_append]
        rfl
      · obtain ⟨c8, c9, rfl, hm1⟩ := hσ
        rw [List.take_length] at hm1
        refine ⟨_, _, _, rfl, sx.trans sxj, ?_⟩
        rw [take_snoc hpp, List.foldl_append]
        exact hm1
    · obtain ⟨b7, b8, b9, rfl, sx, hm'⟩ := h
      rw [encA_len, List.take_length] at hm'
      have hr' : H' pr = some (.frz od (oA (lvA nx one t).1)) := sx.1 _ _ (fun z => hmr z.symm) hr5
      have hf' : H' pf = some (oA (lvA nx one t).2) := sx.1 _ _ (fun z => hmf z.symm) hf5
      refine ⟨hr', ?_⟩
      have kt6 : KT H' (upd H' pr (oA (lvA nx one t).1)) := (SX.putO (M := fun a => a = pr) rfl hr' (fun xs => frz_nt xs)).2
      have s06 : Same H (upd H' pr (oA (lvA nx one t).1)) := fun b o e => by
        have hb : b ≠ pr := ne_of_none e hpr
        rw [upd_ne hb]
        exact sx.1 b o (ne_of_none e hpmH) (back5 b o hb (s04 b o e))
      have hm6 : (upd H' pr (oA (lvA nx one t).1)) pm = some (oA (stepA nx (lvA nx one t).1)) := by rw [upd_ne hmr]; exact hm'
      have hf6 : (upd H' pr (oA (lvA nx one t).1)) pf = some (oA (lvA nx one t).2) := by rw [upd_ne (Ne.symm hne)]; exact hf'
      generalize upd H' pr (oA (lvA nx one t).1) = H6 at kt6 s06 hm6 hf6
      -- for there in more.keys()
      refine ⟨pm, oA (stepA nx (lvA nx one t).1), hm6, True.intro, fun od2 => ?_⟩
      have kt7 : KT H6 (upd H6 pm (.frz od2 (oA (stepA nx (lvA nx one t).1)))) := (SX.putO (M := fun a => a = pm) rfl hm6 (oA_nt _)).2
      generalize hH7 : upd H6 pm (.frz od2 (oA (stepA nx (lvA nx one t).1))) = H7 at kt7
      have hm7 : H7 pm = some (.frz od2 (oA (stepA nx (lvA nx one t).1))) := by rw [← hH7]; exact upd_same
      have hf7 : H7 pf = some (oA (lvA nx one t).2) := by rw [← hH7, upd_ne (Ne.symm hmf)]; exact hf6
      refine ⟨_, rfl, pm, od2, _, rfl, hm7, ?_⟩
      have hsm := R.small (t + 1) (by omega)
      have hsm' : (stepA nx (lvA nx one t).1).length ≤ 100000 := hsm
      have hfl := lvA_len2 (nx := nx) (one := one) (b := 100000) t fun i hi => R.small i (by omega)
      have hfl2 : t * 100000 ≤ 700000 := by omega
      refine for_it (walk_keysT (d := pm) (o := od2) (kvs := encA (stepA nx (lvA nx one t).1))) (fun i σ' H' => ∃ c9, σ' = [some x, some y, some z, some u, some (.ref pr), some (.ref pf), some (.ref pm), b7, b8, c9] ∧ SX (fun a => a = pf) H7 H' ∧ H' pf = some (oA (mergeA (lvA nx one t).2 ((stepA nx (lvA nx one t).1).take i)))) ⟨b9, rfl, SX.refl, hf7⟩ (fun i σ' H' _ h => ?_) (fun i v σ' Hq H8 hi h yy => ?_) fun σ' H8 h => ?_
      · obtain ⟨_, _, sx, _⟩ := h
        exact sx.1 _ _ hmf hm7
      · obtain ⟨c9, rfl, sx8, hf8⟩ := h
        obtain ⟨rfl, k, w', qa, hk, rfl, hqa⟩ := yy
        obtain ⟨pp, hpp, rfl, rfl⟩ := encA_get hk
        have hppm := List.mem_of_getElem? hpp
        have tpk : Tp H8 (.ref qa) (eH pp.1) := tp_key hqa
        have hm8 : H8 pm = some (.frz od2 (oA (stepA nx (lvA nx one t).1))) := sx8.1 _ _ hmf hm7
        refine gt_name _ ?_
        have hml := mergeA_len ((stepA nx (lvA nx one t).1).take i) (lvA nx one t).2
        rw [List.length_take] at hml
        refine s_put (ev_var rfl) (ed_var rfl tpk) (ed_dget (ev_var rfl) (ed_var rfl tpk) (.inr ⟨od2, hm8⟩) (valV_at stepA_nd hppm)) hf8 (by omega) fun H9 s9 => ?_
        have px : SX (fun a => a = pf) H9 (upd H9 pf (oA (putA (mergeA (lvA nx one t).2 ((stepA nx (lvA nx one t).1).take i)) pp.1 pp.2))) := SX.putO rfl (s9 _ _ hf8) (oA_nt _)
        refine ⟨_, rfl, sx8.trans (s9.sx.trans px), ?_⟩
        rw [upd_same, take_snoc hpp]
        unfold mergeA
        rw [List.foldl_append]
        rfl
      · obtain ⟨c9, rfl, sx8, hf8⟩ := h
        rw [encA_len, List.take_length] at hf8
        have hm8 : H8 pm = some (.frz od2 (oA (stepA nx (lvA nx one t).1))) := sx8.1 _ _ hmf hm7
        refine ⟨hm8, ?_⟩
        refine ⟨_, rfl, pm, pf, _, _, _, _, rfl, fun b o e => ?_, hpmH, hpf, hmf, upd_same, ?_⟩
        · have hb : b ≠ pm := ne_of_none e hpmH
          rw [upd_ne hb]
          refine sx8.1 b o (ne_of_none e hpf) ?_
          rw [← hH7, upd_ne hb]
          exact s06 b o e
        · rw [upd_ne (Ne.symm hmf)]
          exact hf8
end
end Lv

set_option Elab.async false
set_option linter.all false
set_option maxRecDepth 100000
set_option maxHeartbeats 4000000
namespace Lv
open PySem PySem.Spec L2
open PyProof.Rows (envOfC)
section
variable {P : Program} {w : World} {K : PySem.W.Frag} {mg : Str → Option Value} {base : Heap} {σ : L2.St} {H : Hp} {te : TE}
/-! ### count_in, ways_count -/
def dm_count_in : List PyData → PyData → Prop := fun ds r => ∃ (n : Nat) (E : List Edge) (roof : Int) (one other : Hts) (T : Nat) (c : Int), ds = [eW n E, .int roof, eH one, eH other] ∧ WebOk n E ∧ one.length = n ∧ other.length = n ∧ Runs (fun h => nextM n E roof h other) one T ∧
  ((lvA (fun h => nextM n E roof h other) one (T + 1)).2.find? fun p => decide (p.1 = other)) = some (other, c) ∧ r = .int c
theorem ret_dget {ta : TA} {tk : TE} {sp : Sp} {D : Ends} {ds : List PyData} (h : EA ta σ H ds) (k : ∀ vs H1, Same H H1 → TpA H1 vs ds → sp vs H1 (fun x H2 => tk σ H2 fun y H3 => ∃ a v, x = .ref a ∧ DGet H3 a y (some v) ∧ D.rt v H3) E0) : tRet (tDGet (tCall sp [] E0 ta) tk) D σ H :=
  h H (Same.refl H) _ fun vs H1 s1 hvs => by
    show sp (vs ++ []) H1 _ E0
    rw [List.append_nil]
    exact k vs H1 s1 hvs
theorem z_asgG {g : TG} {u : TS} {D : Ends} {d : PyData} (h : ED te σ H d) (k : ∀ v H1, Same H H1 → Tp H1 v d → g v σ H1 (u D)) : tSeq (tAsg te g) u D σ H := h H (Same.refl H) _ k
theorem ok_count_in (T : Tx K mg) (G_counts_from : Fnx P w K mg base 5 "counts_from" ["web", "roof", "one", "other"] spCf) : Fnx P w K mg base 6 "count_in" ["web", "roof", "one", "other"] (spD dm_count_in) := by
  refine fnx T.d_count_in sc_count_in (fun _ _ _ _ _ _ us hl => match us, hl with | [_, _, _, _], _ => rfl) (len_spD (by rintro ds r ⟨n, E, roof, h, h2, T, c, rfl, _, _, _, _, _, rfl⟩; rfl)) fun f cdv A outer s H vs Q E' hr h => ?_
  obtain ⟨ds, r, hv, ⟨n, E, roof, one, other, M, c, rfl, ok, l1, l2, R, hc, rfl⟩, q⟩ := h
  obtain ⟨x, y, z, u, rfl, hx, hy, hz, hu⟩ := tpa4 hv
  refine ⟨_, (pss_one (ps_ret (pe_dget (hu_of hr) (pe_cf G_counts_from (hr.mono (by decide)) rfl (pa_cons (pv 0) (pa_cons (pv 1) (pa_cons (pv 2) (pa_cons (pv 3) pa_nil))))) (pv 3) (fun _ _ => rfl)))), ?_⟩
  refine ret_dget (ea_cons (ed_var (d := eW n E) rfl hx) (ea_cons (ed_var rfl hy) (ea_cons (ed_var rfl hz) (ea_cons (ed_var rfl hu) ea_nil)))) fun vs H1 s1 hvs => ?_
  refine ⟨n, E, roof, one, other, M, hvs, ok, l1, l2, R, fun p H2 hp s2 hp2 => ?_⟩
  have s12 := s1.trans s2
  obtain ⟨b, rfl, hb⟩ := key_tp (hu.mono s12)
  refine ⟨_, rfl, p, .int c, rfl, ?_, q _ H2 s12 (.int c)⟩
  have z := DGet.t hp2 hb
  rw [valV_enc, hc] at z
  exact z
def dm_ways_count : List PyData → PyData → Prop := fun ds r => ∃ (n : Nat) (E : List Edge) (roof : Int) (one other : Hts) (T : Nat) (c : Int), ds = [eW n E, .int roof, eH one, eH other] ∧ Way n E roof one other ∧ boxM one other ≤ 4000 ∧ Runs (fun h => nextM n E roof h other) one T ∧
  ((lvA (fun h => nextM n E roof h other) one (T + 1)).2.find? fun p => decide (p.1 = other)) = some (other, c) ∧ r = .int c
theorem ok_ways_count (T : Tx K mg) (G_need_box : Fnx P w K mg base 8 "need_box" ["web", "roof", "one", "other"] (spD dm_need_box)) (G_count_in : Fnx P w K mg base 6 "count_in" ["web", "roof", "one", "other"] (spD dm_count_in)) : Fnx P w K mg base 9 "ways_count" ["web", "roof", "one", "other"] (spD dm_ways_count) := by
  refine fnx T.d_ways_count sc_ways_count (fun _ _ _ _ _ _ us hl => match us, hl with | [_, _, _, _], _ => rfl) (len_spD (by rintro ds r ⟨n, E, roof, h, h2, T, c, rfl, _, _, _, _, rfl⟩; rfl)) fun f cdv A outer s H vs Q E' hr h => ?_
  obtain ⟨ds, r, hv, ⟨n, E, roof, one, other, M, c, rfl, W, hbox, R, hc, rfl⟩, q⟩ := h
  obtain ⟨x, y, z, u, rfl, hx, hy, hz, hu⟩ := tpa4 hv
  refine ⟨_, (pss_cons (ps_expr (pe_cf G_need_box (hr.mono (by decide)) rfl (pa_cons (pv 0) (pa_cons (pv 1) (pa_cons (pv 2) (pa_cons (pv 3) pa_nil))))))
      (pss_one (ps_ret (pe_cf G_count_in (hr.mono (by decide)) rfl (pa_cons (pv 0) (pa_cons (pv 1) (pa_cons (pv 2) (pa_cons (pv 3) pa_nil)))))))), ?_⟩
  refine z_dropD (ed_call (dom := dm_need_box) (ea_cons (ed_var rfl hx) (ea_cons (ed_var rfl hy) (ea_cons (ed_var rfl hz) (ea_cons (ed_var rfl hu) ea_nil)))) ⟨n, E, roof, one, other, rfl, W, hbox, rfl⟩) fun H1 s1 => ?_
  exact s_retD (ed_call (dom := dm_count_in) (ea_cons (ed_var rfl (hx.mono s1)) (ea_cons (ed_var rfl (hy.mono s1)) (ea_cons (ed_var rfl (hz.mono s1)) (ea_cons (ed_var rfl (hu.mono s1)) ea_nil)))) ⟨n, E, roof, one, other, M, c, rfl, W.web, W.h1.len, W.h2.len, R, hc, rfl⟩) fun v H2 s2 hv => q v H2 (s1.trans s2) hv
/-! ### _law_step, _law_beside -/
theorem z_setL {to ti : TE} {D : Ends} {u : TS} {d : PyData} {p : Addr} {xs : List V} {j : Nat} (hv : ED te σ H d) (ho : EV to σ H (.ref p)) (hi : ED ti σ H (.int (j : Int))) (hp : H p = some (.lst xs)) (hj : j < xs.length) (k : ∀ v H1, Same H H1 → Tp H1 v d → u D σ (upd H1 p (.lst (xs.set j v)))) : tSeq (tAsg te (gSub to ti rSetL)) u D σ H :=
  hv H (Same.refl H) _ fun v H1 s1 tv => ho H1 s1 _ fun H2 s2 => ev_int hi H2 (s1.trans s2) _ fun H3 s3 => by
    have ss := (s1.trans s2).trans s3
    refine ⟨p, xs, (j : Int), j, rfl, rfl, ss _ _ hp, ?_, k v H3 ss (tv.mono (s2.trans s3))⟩
    unfold ixN
    rw [if_pos (by omega), if_pos (by omega)]
    simp
def dm_law_step : List PyData → PyData → Prop := fun ds r => ∃ (h : Hts) (d : Deed), ds = [eH h, eD d] ∧ d.2 < h.length ∧ r = eH (chg h d)
theorem ed_dir {t : TT} {ta tb : TE} {b : Bool} (h : EB t σ H b) (h1 : ED ta σ H (.int 1)) (h2 : ED tb σ H (.int (-1))) : ED (tIf t ta tb) σ H (.int (if b = true then 1 else -1)) :=
  ed_if h (fun e => by rw [e]; exact h1) fun e => by rw [e]; exact h2
theorem ok_law_step (T : Tx K mg) : Fnx P w K mg base 1 "_law_step" ["_law_heights_here", "_law_deed"] (spD dm_law_step) := by
  refine fnx T.d_law_step sc_law_step (fun _ _ _ _ _ _ us hl => match us, hl with | [_, _], _ => rfl) (len_spD (by rintro ds r ⟨h, d, rfl, _, rfl⟩; rfl)) fun f cdv A outer s H vs Q E' hr h => ?_
  obtain ⟨ds, r, hv, ⟨hh, d, rfl, hd, rfl⟩, q⟩ := h
  obtain ⟨x, y, rfl, hx, hy⟩ := tpa2 hv
  refine ⟨_, (pss_cons (ps_set (i := 2) sc_law_step.nd rfl (Or.inl rfl) (pe_callTy call_list_of rfl T.b_list (by decide +kernel) (pa_cons (pv 0) pa_nil)))
      (pss_cons (ps_asg (pe_op op_add (pe_ix (r := rIxL K) ix_list (pv 2) (pe_ix (r := rIxT K) ix_tup (pv 1) pe_int (fun _ _ => rfl)) (fun _ _ => rfl)) (pe_ifExp (pt_val (pe_ix (r := rIxT K) ix_tup (pv 1) pe_int (fun _ _ => rfl))) pe_int (pe_op op_sub pe_int pe_int))) (pg_sub (pv 2) (pe_ix (r := rIxT K) ix_tup (pv 1) pe_int (fun _ _ => rfl)) set_list))
      (pss_one (ps_ret (pe_callTy call_tuple_of rfl T.b_tuple (by decide +kernel) (pa_cons (pv 2) pa_nil)))))), ?_⟩
  refine z_asgL (el_lstT (ed_var rfl hx)) fun p xs H1 hp s1 hp1 t1 => ?_
  have hy1 := hy.mono s1
  have hl := t1.length
  rw [List.length_map] at hl
  refine z_setL (j := d.2) (ed_i0 (ed_ixL (d := .int (ht hh d.2)) (ev_var rfl) (ed_ixT (ed_var rfl hy1) ed_int at1) hp1 t1 (atI_nat (by rw [List.getElem?_map, ht_get hd]; rfl))) (ed_dir (eb_B (ed_ixT (ed_var rfl hy1) ed_int at0)) ed_int (ed_is (ed_i0 ed_int ed_int fun _ => .int _) rfl)) fun _ => .int _) (ev_var rfl) (ed_ixT (ed_var rfl hy1) ed_int at1) hp1 (by omega) fun v H2 s2 hv2 => ?_
  have hp2 := s2 _ _ hp1
  have px : SX (fun a => a = p) H2 (upd H2 p (.lst (xs.set d.2 v))) := SX.put rfl hp2
  have sm : Same H (upd H2 p (.lst (xs.set d.2 v))) := same_mut (s1.trans s2) hp
  refine s_retD (ed_tupV (ds := (hh.map PyData.int).set d.2 (.int (ht hh d.2 + if d.1 = true then 1 else -1))) (ev_var rfl) upd_same ((TpA.set d.2 (t1.mono s2) hv2).kt px.2)) fun v3 H3 s3 hv3 => q v3 H3 (sm.trans s3) ?_
  have e : eH (chg hh d) = .tuple ((hh.map PyData.int).set d.2 (.int (ht hh d.2 + if d.1 = true then 1 else -1))) := by
    unfold eH chg
    rw [List.map_set]
  rw [e]
  exact hv3
def dm_law_beside : List PyData → List PyData → Prop := fun ds r => ∃ (n : Nat) (E : List Edge) (k : Nat), ds = [eW n E, .int k] ∧ WebOk n E ∧ r = (besL n E k).map eN
theorem rg_nat (n : Nat) : rgN 0 n = (List.range n).map fun k : Nat => (k : Int) := by
  unfold rgN
  apply List.map_congr_left
  intro k _
  omega
theorem src_rn {M : Addr → Prop} {ta : TA} {n : Nat} (h : EA ta σ H [.int n]) (hn : n ≤ 100000) : Src M (iRng1 ta) σ H (List.range n) eN := fun H1 s R r => by
  refine src_r1 (M := M) h hn H1 s R fun J H2 P s2 p0 stab w => r J H2 P s2 p0 stab ?_
  rw [rg_nat] at w
  have e : ((List.range n).map fun k : Nat => (k : Int)).length = (List.range n).length := List.length_map _
  rw [e] at w
  refine w.mono (fun _ p => p) fun i H' v H'' hi _ y => ?_
  obtain ⟨s', xx, hx, hv⟩ := y
  rw [List.getElem?_map] at hx
  cases q : (List.range n)[i]? with
  | none => rw [q] at hx; cases hx
  | some k =>
    rw [q] at hx
    cases hx
    exact ⟨s', k, rfl, hv⟩
theorem besL_lt {n : Nat} {E : List Edge} {k j : Nat} (h : j ∈ besL n E k) : j < n := List.mem_range.mp (List.mem_filter.mp h).1
theorem besL_few {n : Nat} {E : List Edge} {k : Nat} : (besL n E k).length ≤ n := Nat.le_trans (List.length_filter_le _ _) (by rw [List.length_range]; exact Nat.le_refl _)
theorem ok_law_beside (T : Tx K mg) : Fnx P w K mg base 1 "_law_beside" ["_law_web", "_law_place"] (spL dm_law_beside) := by
  refine fnx T.d_law_beside sc_law_beside (fun _ _ _ _ _ _ us hl => match us, hl with | [_, _], _ => rfl) (len_spL (by rintro ds r ⟨n, E, k, rfl, _, rfl⟩; rfl)) fun f cdv A outer s H vs Q E' hr h => ?_
  obtain ⟨ds, r, hv, ⟨n, E, k, rfl, ok, rfl⟩, q⟩ := h
  obtain ⟨x, y, rfl, hx, hy⟩ := tpa2 hv
  refine ⟨_, (pss_one (ps_ret (pe_lc (own := [("_law_k", 2)]) (g := gName 2) rfl sc_law_beside.nd (pi_range1 rfl T.b_range (pa_cons (pe_ix (r := rIxT K) ix_tup (pv 0) pe_int (fun _ _ => rfl)) pa_nil)) (blkOk_by (own := [("_law_k", 2)]) (N := N_law_beside) (sc := defScope (top 50)) (by decide +kernel)) (fun _ _ _ _ _ => (pg_name (i := 2) sc_law_beside.nd rfl (Or.inl rfl))) (fun _ _ _ _ _ => pts_one (PW.pt (pw_or (pt_cmpR (r := rInT K) (op_inT hr) (pe_tup (pa_cons (pv 2) (pa_cons (pv 1) pa_nil))) (pe_ix (r := rIxT K) ix_tup (pv 0) pe_int (fun _ _ => rfl)) (by rfl)) (pw_or1 (pt_cmpR (r := rInT K) (op_inT hr) (pe_tup (pa_cons (pv 1) (pa_cons (pv 2) pa_nil))) (pe_ix (r := rIxT K) ix_tup (pv 0) pe_int (fun _ _ => rfl)) (by rfl)))))) (fun _ _ _ _ _ => (pv 2))))), ?_⟩
  have hhi := ok.hi
  refine s_retL (el_lc (src_rn (n := n) (ea_cons (ed_web0 (ed_var rfl hx)) ea_nil) (by omega)) (fun j => E.contains (j, k) || E.contains (k, j)) eN (by rw [List.length_range]; omega) fun j v H1 hj s1 hv => ⟨_, gt_name, rfl, ?_, fun _ => ed_var rfl hv⟩) q
  have hx1 := hx.mono s1
  have hy1 := hy.mono s1
  have sE : SeqAt.shaped (.tuple (E.map eE)) = true := shaped_tup eE_lay eE_depth (by decide) _
  refine eb_or (eb_is (eb_test (ed_inT (d := eE (j, k)) (ed_tup (ea_cons (ed_var rfl hv) (ea_cons (ed_var rfl hy1) ea_nil)) (by show 2 ≤ 100000; omega)) (ed_web1 (ed_var rfl hx1)) (eE_shaped _) sE)) (any_contains eE_eqv E (j, k))) fun _ => eb_is (eb_test (ed_inT (d := eE (k, j)) (ed_tup (ea_cons (ed_var rfl hy1) (ea_cons (ed_var rfl hv) ea_nil)) (by show 2 ≤ 100000; omega)) (ed_web1 (ed_var rfl hx1)) (eE_shaped _) sE)) (any_contains eE_eqv E (k, j))
/-! ### _law_deeds, _law_after -/
theorem ed_minEq {ta tb : TE} {p : Addr} {ns : List Int} {xs : List V} {x : Int} {c : Bool} (ha : EV ta σ H (.ref p)) (hp : H p = some (.lst xs)) (hxs : TpA H xs (ns.map .int)) (hb : ED tb σ H (.int x)) (hx : x ∈ ns) (hc : c = true ↔ ∀ y ∈ ns, x ≤ y) : ED (tOp rEq (tCB (rMin K) (tCons ta tNil)) tb) σ H (.bool c) := fun H1 s Q q =>
  ha H1 s _ fun H2 s2 => by
    have e := hxs.ints
    subst e
    refine ⟨p, ns, rfl, .inl (.inl ((s.trans s2) _ _ hp)), List.length_pos_of_mem hx, fun m hm hle => ?_⟩
    refine ev_int hb H2 (s.trans s2) _ fun H3 s3 => ⟨rfl, ?_⟩
    have e2 : decide (V.int m = V.int x) = c := by
      by_cases h : m = x
      · subst h
        rw [decide_eq_true rfl]
        exact (hc.mpr hle).symm
      · rw [decide_eq_false (fun q => h (V.int.inj q))]
        cases c with
        | false => rfl
        | true =>
          have := (hc.mp rfl) m hm
          have := hle x hx
          omega
    rw [e2]
    exact q _ H3 (s2.trans s3) (.bl c)
theorem ed_maxEq {ta tb : TE} {p : Addr} {ns : List Int} {xs : List V} {x : Int} {c : Bool} (ha : EV ta σ H (.ref p)) (hp : H p = some (.lst xs)) (hxs : TpA H xs (ns.map .int)) (hb : ED tb σ H (.int x)) (hx : x ∈ ns) (hc : c = true ↔ ∀ y ∈ ns, y ≤ x) : ED (tOp rEq (tCB (rMax K) (tCons ta tNil)) tb) σ H (.bool c) := fun H1 s Q q =>
  ha H1 s _ fun H2 s2 => by
    have e := hxs.ints
    subst e
    refine ⟨p, ns, rfl, .inl (.inl ((s.trans s2) _ _ hp)), List.length_pos_of_mem hx, fun m hm hle => ?_⟩
    refine ev_int hb H2 (s.trans s2) _ fun H3 s3 => ⟨rfl, ?_⟩
    have e2 : decide (V.int m = V.int x) = c := by
      by_cases h : m = x
      · subst h
        rw [decide_eq_true rfl]
        exact (hc.mpr hle).symm
      · rw [decide_eq_false (fun q => h (V.int.inj q))]
        cases c with
        | false => rfl
        | true =>
          have := (hc.mp rfl) m hm
          have := hle x hx
          omega
    rw [e2]
    exact q _ H3 (s2.trans s3) (.bl c)
theorem ed_eqIsym {ta tb : TE} {c : Bool} (h : ED (tOp rEq ta tb) σ H (.bool c)) : EB (tTest (tOp rEq ta tb)) σ H c := eb_test h
def dm_law_deeds : List PyData → List PyData → Prop := fun ds r => ∃ (n : Nat) (E : List Edge) (roof : Int) (h : Hts), ds = [eW n E, .int roof, eH h] ∧ WebOk n E ∧ h.length = n ∧ r = (deedsL n E roof h).map eD
theorem ok_law_deeds (T : Tx K mg) (G_law_beside : Fnx P w K mg base 1 "_law_beside" ["_law_web", "_law_place"] (spL dm_law_beside)) : Fnx P w K mg base 2 "_law_deeds" ["_law_web", "_law_roof", "_law_heights_here"] (spL dm_law_deeds) := by
  refine fnx T.d_law_deeds sc_law_deeds (fun _ _ _ _ _ _ us hl => match us, hl with | [_, _, _], _ => rfl) (len_spL (by rintro ds r ⟨n, E, roof, h, rfl, _, _, rfl⟩; rfl)) fun f cdv A outer s H vs Q E' hr h => ?_
  obtain ⟨ds, r, hv, ⟨n, E, roof, hh, rfl, ok, hlen, rfl⟩, q⟩ := h
  obtain ⟨x, y, z, rfl, hx, hy, hz⟩ := tpa3 hv
  refine ⟨_, (pss_cons (ps_par (i := 3) (j := 4) (by rfl) sc_law_deeds.nd rfl rfl (by decide) rfl rfl (pa_cons (pe_lst pa_nil) (pa_cons (pe_lst pa_nil) pa_nil)) (by rfl))
      (pss_cons (ps_for PassesOwn.never rfl (pi_range1 rfl T.b_range (pa_cons (pe_ix (r := rIxT K) ix_tup (pv 0) pe_int (fun _ _ => rfl)) pa_nil)) (pg_name (i := 5) sc_law_deeds.nd rfl (Or.inl rfl)) (pss_cons (ps_set (i := 6) sc_law_deeds.nd rfl (Or.inl rfl) (pe_op op_cat (pe_lc (own := [("_law_j", 7)]) (g := gName 7) rfl sc_law_deeds.nd (pi_list (pe_cf G_law_beside (hr.mono (by decide)) rfl (pa_cons (pv 0) (pa_cons (pv 5) pa_nil)))) (blkOk_by (own := [("_law_j", 7)]) (N := N_law_deeds) (sc := defScope (top 51)) (by decide +kernel)) (fun _ _ _ _ _ => (pg_name (i := 7) sc_law_deeds.nd rfl (Or.inl rfl))) (fun _ _ _ _ _ => pts_nil) (fun _ _ _ _ _ => (pe_ix (r := rIxT K) ix_tup (pv 2) (pv 7) (fun _ _ => rfl)))) (pe_lst (pa_cons (pe_ix (r := rIxT K) ix_tup (pv 2) (pv 5) (fun _ _ => rfl)) pa_nil))))
      (pss_cons (ps_set (i := 3) sc_law_deeds.nd rfl (Or.inl rfl) (pe_op op_cat (pv 3) (pe_ifExp (PW.pt (pw_and (pt_cmpR op_lt (pe_ix (r := rIxT K) ix_tup (pv 2) (pv 5) (fun _ _ => rfl)) (pv 1) (nomark _)) (pw_and1 (pt_cmpR op_eq (pe_callB (cr_min rfl) rfl T.b_min (by decide +kernel) (pa_cons (pv 6) pa_nil)) (pe_ix (r := rIxT K) ix_tup (pv 2) (pv 5) (fun _ _ => rfl)) (nomark _))))) (pe_lst (pa_cons (pe_tup (pa_cons pe_bl (pa_cons (pv 5) pa_nil))) pa_nil)) (pe_lst pa_nil))))
      (pss_one (ps_set (i := 4) sc_law_deeds.nd rfl (Or.inl rfl) (pe_op op_cat (pv 4) (pe_ifExp (PW.pt (pw_and (pt_cmpR op_gt (pe_ix (r := rIxT K) ix_tup (pv 2) (pv 5) (fun _ _ => rfl)) pe_int (nomark _)) (pw_and1 (pt_cmpR op_eq (pe_callB (cr_max rfl) rfl T.b_max (by decide +kernel) (pa_cons (pv 6) pa_nil)) (pe_ix (r := rIxT K) ix_tup (pv 2) (pv 5) (fun _ _ => rfl)) (nomark _))))) (pe_lst (pa_cons (pe_tup (pa_cons pe_bl (pa_cons (pv 5) pa_nil))) pa_nil)) (pe_lst pa_nil))))))))
      (pss_one (ps_ret (pe_op op_cat (pv 3) (pv 4)))))), ?_⟩
  have hhi := ok.hi
  refine z_par (el_lst (ds := []) ea_nil (by decide) H (Same.refl H) _ fun pu xu H1 hpu s1 hpu1 tu => ?_)
  refine el_lst (ds := []) ea_nil (by decide) H1 (Same.refl H1) _ fun pd xd H2 hpd s2 hpd2 td => ?_
  refine ⟨_, _, rfl, ?_⟩
  have s12 := s1.trans s2
  refine z_for M0 (src_rn (n := n) (ea_cons (ed_web0 (ed_var rfl (hx.mono s12))) ea_nil) (by omega)) (fun i σ' H' => ∃ pu xu pd xd a b, σ' = [some x, some y, some z, some (.ref pu), some (.ref pd), a, b, none] ∧ H' pu = some (.lst xu) ∧ H' pd = some (.lst xd) ∧ H pu = none ∧ H pd = none ∧ TpA H' xu ((((List.range i).filter (upL n E roof hh)).map fun k => (true, k)).map eD) ∧ TpA H' xd ((((List.range i).filter (downL n E hh)).map fun k => (false, k)).map eD))
    (fun H3 s3 => ⟨pu, xu, pd, xd, none, none, rfl, (s2.trans s3) _ _ hpu1, s3 _ _ hpd2, hpu, s1.free hpd, by cases tu; exact .nil, by cases td; exact .nil⟩) (fun i k v σ' H' H'' N hi sx hσ s' hv kk => ?_) fun σ' H' sx hσ => ?_
  · obtain ⟨pu, xu, pd, xd, a, b, rfl, hu', hd', huH, hdH, tu', td'⟩ := hσ
    have hik : i < n ∧ k = i := by
      have := (List.getElem?_eq_some_iff.mp hi).1
      rw [List.length_range] at this
      rw [List.getElem?_range this] at hi
      exact ⟨this, (Option.some.inj hi).symm⟩
    obtain ⟨hin, rfl⟩ := hik
    have s23 := s12.trans (sx.same.trans s')
    have hx3 := hx.mono s23
    have hy3 := hy.mono s23
    have hz3 := hz.mono s23
    have fewb := besL_few (n := n) (E := E) (k := k)
    refine gt_name _ ?_
    refine z_asgL (el_cat (el_lcY (src_lstN (bs := besL n E k) (enc := eN) (el_call (dom := dm_law_beside) (ea_cons (ed_var rfl hx3) (ea_cons (ed_var rfl hv) ea_nil)) ⟨n, E, k, rfl, ok, rfl⟩) (fun _ z => z.elim)) (fun j => .int (ht hh j)) (by omega) fun j v' H3 hj s3 hv' => ⟨_, gt_name, rfl, ed_ht (ed_var rfl (hz3.mono s3)) (ed_var rfl hv') (by rw [hlen]; exact besL_lt hj)⟩) (el_lst (ea_cons (ed_ht (ed_var rfl hz3) (ed_var rfl hv) (by omega)) ea_nil) (by show 1 ≤ 100000; omega)) (sz_ok (by rw [List.length_map]; show _ + 1 ≤ _; omega))) fun ps xs H3 hps s3 hps3 t3 => ?_
    have t3' : TpA H3 xs (((besL n E k).map (ht hh) ++ [ht hh k]).map .int) := by
      rw [List.map_append, List.map_map]
      exact t3
    have memk : ht hh k ∈ (besL n E k).map (ht hh) ++ [ht hh k] := List.mem_append_right _ (List.mem_singleton.mpr rfl)
    have hminc : ((besL n E k).all fun j => decide (ht hh k ≤ ht hh j)) = true ↔ ∀ y ∈ (besL n E k).map (ht hh) ++ [ht hh k], ht hh k ≤ y := by
      rw [List.all_eq_true]
      constructor
      · intro h y hy
        rcases List.mem_append.mp hy with m | m
        · obtain ⟨j, hj, rfl⟩ := List.mem_map.mp m
          exact of_decide_eq_true (h j hj)
        · rw [List.mem_singleton.mp m]
          exact Int.le_refl _
      · intro h j hj
        exact decide_eq_true (h _ (List.mem_append_left _ (List.mem_map.mpr ⟨j, hj, rfl⟩)))
    have hmaxc : ((besL n E k).all fun j => decide (ht hh j ≤ ht hh k)) = true ↔ ∀ y ∈ (besL n E k).map (ht hh) ++ [ht hh k], y ≤ ht hh k := by
      rw [List.all_eq_true]
      constructor
      · intro h y hy
        rcases List.mem_append.mp hy with m | m
        · obtain ⟨j, hj, rfl⟩ := List.mem_map.mp m
          exact of_decide_eq_true (h j hj)
        · rw [List.mem_singleton.mp m]
          exact Int.le_refl _
      · intro h j hj
        exact decide_eq_true (h _ (List.mem_append_left _ (List.mem_map.mpr ⟨j, hj, rfl⟩)))
    have few1 := List.length_filter_le (upL n E roof hh) (List.range k)
    have few2 := List.length_filter_le (downL n E hh) (List.range k)
    rw [List.length_range] at few1 few2
    have hz4 := hz3.mono s3
    have hv4 := hv.mono s3
    refine z_asgL (el_catV (es := if upL n E roof hh k = true then [eD (true, k)] else []) (ev_var rfl) ((s'.trans s3) _ _ hu') (tu'.mono (s'.trans s3)) (el_if (b := upL n E roof hh k) (eb_and (eb_test (ed_i0 (ed_ht (ed_var rfl hz4) (ed_var rfl hv4) (by omega)) (ed_var rfl (hy3.mono s3)) fun _ => .bl _)) fun _ => eb_test (ed_minEq (ev_var rfl) hps3 t3' (ed_ht (ed_var rfl hz4) (ed_var rfl hv4) (by omega)) memk hminc)) (fun e => by rw [if_pos e]; exact el_lst (ea_cons (ed_tup (ea_cons ed_bl (ea_cons (ed_var rfl hv4) ea_nil)) (by show 2 ≤ 100000; omega)) ea_nil) (by show 1 ≤ 100000; omega)) (fun e => by rw [if_neg (by rw [e]; decide)]; exact el_lst ea_nil (by decide))) (sz_ok ?_)) fun pu2 xu2 H4 hpu2 s4 hpu4 tu2 => ?_
    · rw [List.length_map, List.length_map]
      split <;> simp <;> omega
    · have hz5 := hz4.mono s4
      have hv5 := hv4.mono s4
      refine s_asgL (el_catV (es := if downL n E hh k = true then [eD (false, k)] else []) (ev_var rfl) ((s'.trans (s3.trans s4)) _ _ hd') (td'.mono (s'.trans (s3.trans s4))) (el_if (b := downL n E hh k) (eb_and (eb_test (ed_i0 (ed_ht (ed_var rfl hz5) (ed_var rfl hv5) (by omega)) ed_int fun _ => .bl _)) fun _ => eb_test (ed_maxEq (ev_var rfl) (s4 _ _ hps3) (t3'.mono s4) (ed_ht (ed_var rfl hz5) (ed_var rfl hv5) (by omega)) memk hmaxc)) (fun e => by rw [if_pos e]; exact el_lst (ea_cons (ed_tup (ea_cons ed_bl (ea_cons (ed_var rfl hv5) ea_nil)) (by show 2 ≤ 100000; omega)) ea_nil) (by show 1 ≤ 100000; omega)) (fun e => by rw [if_neg (by rw [e]; decide)]; exact el_lst ea_nil (by decide))) (sz_ok ?_)) fun pd2 xd2 H5 hpd2 s5 hpd5 td2 => ?_
      · rw [List.length_map, List.length_map]
        split <;> simp <;> omega
      · refine kk _ _ (s'.trans (s3.trans (s4.trans s5))).sx ⟨pu2, xu2, pd2, xd2, _, _, rfl, s5 _ _ hpu4, hpd5, s23.free (s3.free hpu2), s23.free (s3.free (s4.free hpd2)), ?_, ?_⟩
        · rw [takeR hin, List.map_append, List.map_append]
          have e : ((if upL n E roof hh k = true then [k] else []).map fun k => ((true, k) : Deed)).map eD = if upL n E roof hh k = true then [eD (true, k)] else [] := by split <;> rfl
          rw [e]
          exact tu2.mono s5
        · rw [takeR hin, List.map_append, List.map_append]
          have e : ((if downL n E hh k = true then [k] else []).map fun k => ((false, k) : Deed)).map eD = if downL n E hh k = true then [eD (false, k)] else [] := by split <;> rfl
          rw [e]
          exact td2
  · obtain ⟨pu, xu, pd, xd, a, b, rfl, hu', hd', huH, hdH, tu', td'⟩ := hσ
    rw [List.length_range] at tu' td'
    have few1 := List.length_filter_le (upL n E roof hh) (List.range n)
    have few2 := List.length_filter_le (downL n E hh) (List.range n)
    rw [List.length_range] at few1 few2
    have sm := s12.trans sx.same
    refine s_retL (σ := [some x, some y, some z, some (.ref pu), some (.ref pd), a, b, none]) (ds := (deedsL n E roof hh).map eD) (fun H1 s _ q => ?_) fun p3 xs3 H3 hp3 s3 => q p3 xs3 H3 (sm.free hp3) (sm.trans s3)
    refine ⟨_, rfl, _, rfl, pu, pd, xu, xd, rfl, rfl, s _ _ hu', s _ _ hd', ?_, fun l hl => q l _ _ hl (same_new hl _) upd_same ?_⟩
    · rw [tu'.length, td'.length, List.length_map, List.length_map, List.length_map, List.length_map]
      exact sz_ok (by omega)
    · unfold deedsL
      rw [List.map_append]
      exact ((tu'.mono s).app (td'.mono s)).mono (same_new hl _)
def dm_law_after : List PyData → List PyData → Prop := fun ds r => ∃ (n : Nat) (E : List Edge) (roof : Int) (h : Hts), ds = [eW n E, .int roof, eH h] ∧ WebOk n E ∧ h.length = n ∧ r = (afterL n E roof h).map eA
theorem deedsL_few {n : Nat} {E : List Edge} {r : Int} {h : Hts} : (deedsL n E r h).length ≤ 2 * n := by
  have few1 := List.length_filter_le (upL n E r h) (List.range n)
  have few2 := List.length_filter_le (downL n E h) (List.range n)
  rw [List.length_range] at few1 few2
  unfold deedsL
  rw [List.length_append, List.length_map, List.length_map]
  omega
theorem deedsL_lt {n : Nat} {E : List Edge} {r : Int} {h : Hts} {d : Deed} (hd : d ∈ deedsL n E r h) : d.2 < n := by
  rcases List.mem_append.mp hd with hd | hd
  · obtain ⟨k, hk, rfl⟩ := List.mem_map.mp hd
    exact List.mem_range.mp (List.mem_filter.mp hk).1
  · obtain ⟨k, hk, rfl⟩ := List.mem_map.mp hd
    exact List.mem_range.mp (List.mem_filter.mp hk).1
theorem ok_law_after (T : Tx K mg) (G_law_deeds : Fnx P w K mg base 2 "_law_deeds" ["_law_web", "_law_roof", "_law_heights_here"] (spL dm_law_deeds)) (G_law_step : Fnx P w K mg base 1 "_law_step" ["_law_heights_here", "_law_deed"] (spD dm_law_step)) : Fnx P w K mg base 3 "_law_after" ["_law_web", "_law_roof", "_law_heights_here"] (spL dm_law_after) := by
  refine fnx T.d_law_after sc_law_after (fun _ _ _ _ _ _ us hl => match us, hl with | [_, _, _], _ => rfl) (len_spL (by rintro ds r ⟨n, E, roof, h, rfl, _, _, rfl⟩; rfl)) fun f cdv A outer s H vs Q E' hr h => ?_
  obtain ⟨ds, r, hv, ⟨n, E, roof, hh, rfl, ok, hlen, rfl⟩, q⟩ := h
  obtain ⟨x, y, z, rfl, hx, hy, hz⟩ := tpa3 hv
  refine ⟨_, (pss_one (ps_ret (pe_lc (own := [("_law_deed", 3)]) (g := gName 3) rfl sc_law_after.nd (pi_list (pe_cf G_law_deeds (hr.mono (by decide)) rfl (pa_cons (pv 0) (pa_cons (pv 1) (pa_cons (pv 2) pa_nil))))) (blkOk_by (own := [("_law_deed", 3)]) (N := N_law_after) (sc := defScope (top 52)) (by decide +kernel)) (fun _ _ _ _ _ => (pg_name (i := 3) sc_law_after.nd rfl (Or.inl rfl))) (fun _ _ _ _ _ => pts_nil) (fun _ _ _ _ _ => (pe_tup (pa_cons (pv 3) (pa_cons (pe_cf G_law_step (hr.mono (by decide)) rfl (pa_cons (pv 2) (pa_cons (pv 3) pa_nil))) pa_nil))))))), ?_⟩
  have hhi := ok.hi
  have few := deedsL_few (n := n) (E := E) (r := roof) (h := hh)
  refine s_retL (el_is (el_lcY (src_lstN (bs := deedsL n E roof hh) (enc := eD) (el_call (dom := dm_law_deeds) (ea_cons (ed_var rfl hx) (ea_cons (ed_var rfl hy) (ea_cons (ed_var rfl hz) ea_nil))) ⟨n, E, roof, hh, rfl, ok, hlen, rfl⟩) (fun _ z => z.elim)) (fun d => eA (d, chg hh d)) (by omega) fun d v' H3 hd s3 hv' => ⟨_, gt_name, rfl, ed_tup (ea_cons (ed_var rfl hv') (ea_cons (ed_call (dom := dm_law_step) (ea_cons (ed_var rfl (hz.mono s3)) (ea_cons (ed_var rfl hv') ea_nil)) ⟨hh, d, rfl, by rw [hlen]; exact deedsL_lt hd, rfl⟩) ea_nil)) (by show 2 ≤ 100000; omega)⟩) ?_) q
  unfold afterL
  rw [List.map_map]
  rfl
/-! ### _law_off -/
def dm_law_off : List PyData → PyData → Prop := fun ds r => ∃ (a b : Hts), ds = [eH a, eH b] ∧ a.length = b.length ∧ a.length ≤ 100 ∧ r = .int (offM a b)
theorem ed_max2 {ta tb : TE} {i j : Int} (ha : ED ta σ H (.int i)) (hb : ED tb σ H (.int j)) : ED (tCB (fun xs H Q => ∃ i j, xs = [.int i, .int j] ∧ Q (.int (if j > i then j else i)) H) (tCons ta (tCons tb tNil))) σ H (.int (if j > i then j else i)) := fun H1 s Q q =>
  ev_int ha H1 s _ fun H2 s2 => ev_int hb H2 (s.trans s2) _ fun H3 s3 => ⟨i, j, rfl, q _ H3 (s2.trans s3) (.int _)⟩
theorem ed_min2 {ta tb : TE} {i j : Int} (ha : ED ta σ H (.int i)) (hb : ED tb σ H (.int j)) : ED (tCB (fun xs H Q => ∃ i j, xs = [.int i, .int j] ∧ Q (.int (if j < i then j else i)) H) (tCons ta (tCons tb tNil))) σ H (.int (if j < i then j else i)) := fun H1 s Q q =>
  ev_int ha H1 s _ fun H2 s2 => ev_int hb H2 (s.trans s2) _ fun H3 s3 => ⟨i, j, rfl, q _ H3 (s2.trans s3) (.int _)⟩
theorem ed_sum {ta : TE} {ns : List Int} (h : EL ta σ H (ns.map .int)) : ED (tCB (rSum K) (tCons ta tNil)) σ H (.int ns.sum) :=
  ed_cbN h fun p xs H1 s h1 t1 Q q => by
    have e := t1.ints
    subst e
    exact ⟨p, ns, rfl, .inl (.inl h1), q _ H1 (Same.refl _) (.int _)⟩
theorem ok_law_off (T : Tx K mg) : Fnx P w K mg base 1 "_law_off" ["_law_one", "_law_other"] (spD dm_law_off) := by
  refine fnx T.d_law_off sc_law_off (fun _ _ _ _ _ _ us hl => match us, hl with | [_, _], _ => rfl) (len_spD (by rintro ds r ⟨a, b, rfl, _, _, rfl⟩; rfl)) fun f cdv A outer s H vs Q E' hr h => ?_
  obtain ⟨ds, r, hv, ⟨a, b, rfl, hab, h100, rfl⟩, q⟩ := h
  obtain ⟨x, y, rfl, hx, hy⟩ := tpa2 hv
  refine ⟨_, (pss_one (ps_ret (pe_callB (cr_sum rfl) rfl T.b_sum (by decide +kernel) (pa_cons (pe_lc (own := [("_law_k", 2)]) (g := gName 2) rfl sc_law_off.nd (pi_range1 rfl T.b_range (pa_cons (pe_callB call_len_seq rfl T.b_len PySem.boot_len (pa_cons (pv 0) pa_nil)) pa_nil)) (blkOk_by (own := [("_law_k", 2)]) (N := N_law_off) (sc := defScope (top 53)) (by decide +kernel)) (fun _ _ _ _ _ => (pg_name (i := 2) sc_law_off.nd rfl (Or.inl rfl))) (fun _ _ _ _ _ => pts_nil) (fun _ _ _ _ _ => (pe_op op_sub (pe_callB (call_max2 rfl) rfl T.b_max (by decide +kernel) (pa_cons (pe_ix (r := rIxT K) ix_tup (pv 0) (pv 2) (fun _ _ => rfl)) (pa_cons (pe_ix (r := rIxT K) ix_tup (pv 1) (pv 2) (fun _ _ => rfl)) pa_nil))) (pe_callB (call_min2 rfl) rfl T.b_min (by decide +kernel) (pa_cons (pe_ix (r := rIxT K) ix_tup (pv 0) (pv 2) (fun _ _ => rfl)) (pa_cons (pe_ix (r := rIxT K) ix_tup (pv 1) (pv 2) (fun _ _ => rfl)) pa_nil)))))) pa_nil)))), ?_⟩
  refine s_retD (ed_sum (ns := (List.range a.length).map fun k => absd (ht a k) (ht b k)) (el_is (el_lcY (src_rn (n := a.length) (ea_cons (ed_is (ed_lenT (ed_var rfl hx)) (by rw [List.length_map])) ea_nil) (by omega)) (fun k => .int (absd (ht a k) (ht b k))) (by rw [List.length_range]; omega) fun k v H1 hk s1 hv => ⟨_, gt_name, rfl, ?_⟩) ?_)) q
  · have hk' := List.mem_range.mp hk
    have hx1 := hx.mono s1
    have hy1 := hy.mono s1
    exact ed_i0 (ed_max2 (ed_ht (ed_var rfl hx1) (ed_var rfl hv) hk') (ed_ht (ed_var rfl hy1) (ed_var rfl hv) (by omega))) (ed_min2 (ed_ht (ed_var rfl hx1) (ed_var rfl hv) hk') (ed_ht (ed_var rfl hy1) (ed_var rfl hv) (by omega))) fun _ => .int _
  · rw [List.map_map]
    rfl
/-! ### _law_singles -/
def dm_law_singles : List PyData → List PyData → Prop := dm_singles
theorem ok_law_singles (T : Tx K mg) : Fnx P w K mg base 1 "_law_singles" ["_law_one", "_law_other"] (spL dm_law_singles) := by
  refine fnx T.d_law_singles sc_law_singles (fun _ _ _ _ _ _ us hl => match us, hl with | [_, _], _ => rfl) (len_spL (by rintro ds r ⟨n, roof, h, h2, rfl, _, _, _, _, rfl⟩; rfl)) fun f cdv A outer s H vs Q E' hr h => ?_
  obtain ⟨ds, r, hv, ⟨n, roof, one, other, rfl, hn4, hroof, o1, o2, rfl⟩, q⟩ := h
  obtain ⟨x, y, rfl, hx, hy⟩ := tpa2 hv
  refine ⟨_, (pss_cons (ps_set (i := 2) sc_law_singles.nd rfl (Or.inl rfl) (pe_lst pa_nil))
      (pss_cons (ps_for PassesOwn.never rfl (pi_range1 rfl T.b_range (pa_cons (pe_callB call_len_seq rfl T.b_len PySem.boot_len (pa_cons (pv 0) pa_nil)) pa_nil)) (pg_name (i := 3) sc_law_singles.nd rfl (Or.inr rfl)) (pss_cons (ps_set (i := 2) sc_law_singles.nd rfl (Or.inl rfl) (pe_op op_cat (pv 2) (pe_lc (own := [("_law_top", 4)]) (g := gName 4) rfl sc_law_singles.nd (pi_range2 rfl T.b_range (pa_cons (pe_ix (r := rIxT K) ix_tup (pv 0) (pv 3) (fun _ _ => rfl)) (pa_cons (pe_ix (r := rIxT K) ix_tup (pv 1) (pv 3) (fun _ _ => rfl)) pa_nil))) (blkOk_by (own := [("_law_top", 4)]) (N := N_law_singles) (sc := defScope (top 55)) (by decide +kernel)) (fun _ _ _ _ _ => (pg_name (i := 4) sc_law_singles.nd rfl (Or.inl rfl))) (fun _ _ _ _ _ => pts_nil) (fun _ _ _ _ _ => (pe_tup (pa_cons pe_bl (pa_cons (pv 3) (pa_cons (pv 4) pa_nil))))))))
      (pss_one (ps_set (i := 2) sc_law_singles.nd rfl (Or.inl rfl) (pe_op op_cat (pv 2) (pe_lc (own := [("_law_top", 4)]) (g := gName 4) rfl sc_law_singles.nd (pi_range3 rfl T.b_range (pa_cons (pe_ix (r := rIxT K) ix_tup (pv 0) (pv 3) (fun _ _ => rfl)) (pa_cons (pe_ix (r := rIxT K) ix_tup (pv 1) (pv 3) (fun _ _ => rfl)) (pa_cons (pe_un un_neg pe_int) pa_nil)))) (blkOk_by (own := [("_law_top", 4)]) (N := N_law_singles) (sc := defScope (top 55)) (by decide +kernel)) (fun _ _ _ _ _ => (pg_name (i := 4) sc_law_singles.nd rfl (Or.inl rfl))) (fun _ _ _ _ _ => pts_nil) (fun _ _ _ _ _ => (pe_tup (pa_cons pe_bl (pa_cons (pv 3) (pa_cons (pv 4) pa_nil)))))))))))
      (pss_one (ps_ret (pv 2))))), ?_⟩
  have hl1 := o1.len
  refine z_asgL (el_lst ea_nil (by decide)) fun p0 xs0 H1 hp0 s1 h1 t1 => ?_
  refine z_for M0 (src_rn (n := one.length) (ea_cons (ed_is (ed_lenT (ed_var rfl (hx.mono s1))) (by rw [List.length_map])) ea_nil) (by omega)) (fun i σ' H' => ∃ a p ys, σ' = [some x, some y, some (.ref p), a, none] ∧ H' p = some (.lst ys) ∧ H p = none ∧ TpA H' ys (((List.range i).flatMap (singlesAt one other)).map eS)) (fun H2 s2 => ⟨none, p0, xs0, rfl, s2 _ _ h1, hp0, by cases t1; exact .nil⟩) (fun i k v σ' H' H'' N hi sx hσ s' hv kk => ?_) fun σ' H' sx hσ => ?_
  · obtain ⟨a, l, ys, rfl, hl, hlH, ht'⟩ := hσ
    have hik : i < n ∧ k = i := by
      have := (List.getElem?_eq_some_iff.mp hi).1
      rw [List.length_range] at this
      rw [List.getElem?_range this] at hi
      exact ⟨by omega, (Option.some.inj hi).symm⟩
    obtain ⟨hin, rfl⟩ := hik
    have r1 := o1.at hin
    have r2 := o2.at hin
    have s13 := s1.trans (sx.same.trans s')
    have hx2 := hx.mono s13
    have hy2 := hy.mono s13
    have hlen := singlesM_le o1 o2 hroof k (Nat.le_of_lt hin)
    refine gt_name _ ?_
    refine z_asgL (el_catV (ev_var rfl) (s' _ _ hl) (ht'.mono s') (el_lcY (src_r2 (a := ht one k) (b := ht other k) (ea_cons (ed_ht (ed_var rfl hx2) (ed_var rfl hv) (by omega)) (ea_cons (ed_ht (ed_var rfl hy2) (ed_var rfl hv) (by rw [o2.len]; exact hin)) ea_nil)) ⟨by omega, by omega, by omega, by omega⟩) (fun v => eS (true, k, v)) (by rw [rgN_length]; omega) fun v2 vv H3 hm s3 hvv => ⟨_, gt_name, rfl, ed_tup (ea_cons ed_bl (ea_cons (ed_var rfl (hv.mono s3)) (ea_cons (ed_var rfl hvv) ea_nil))) (by show 3 ≤ 100000; omega)⟩) ?_) fun l2 ys2 H3 hl2 s3 hl3 t3 => ?_
    · refine sz_ok ?_
      rw [List.length_map, List.length_map, rgN_length]
      omega
    · have hx3 := hx2.mono s3
      have hy3 := hy2.mono s3
      refine s_asgL (el_catV (ev_var rfl) hl3 t3 (el_lcY (src_r3 (a := ht one k) (b := ht other k) (ea_cons (ed_ht (ed_var rfl hx3) (ed_var rfl (hv.mono s3)) (by omega)) (ea_cons (ed_ht (ed_var rfl hy3) (ed_var rfl (hv.mono s3)) (by rw [o2.len]; exact hin)) (ea_cons (ed_neg ed_int) ea_nil))) ⟨by omega, by omega, by omega, by omega⟩) (fun v => eS (false, k, v)) (by rw [rgD_length]; omega) fun v2 vv H4 hm s4 hvv => ⟨_, gt_name, rfl, ed_tup (ea_cons ed_bl (ea_cons (ed_var rfl (hv.mono (s3.trans s4))) (ea_cons (ed_var rfl hvv) ea_nil))) (by show 3 ≤ 100000; omega)⟩) ?_) fun l4 ys4 H4 hl4 s4 hl5 t4 => ?_
      · refine sz_ok ?_
        rw [List.length_append, List.length_map, List.length_map, List.length_map, rgN_length, rgD_length]
        omega
      · refine kk _ _ (s'.trans (s3.trans s4)).sx ⟨_, l4, ys4, rfl, hl5, s13.free (s3.free hl4), ?_⟩
        have ef : ((List.range (k + 1)).flatMap (singlesAt one other)).map eS = ((List.range k).flatMap (singlesAt one other)).map eS ++ (rgN (ht one k) (ht other k - ht one k).toNat).map (fun v => eS (true, k, v)) ++ (rgD (ht one k) (ht one k - ht other k).toNat).map (fun v => eS (false, k, v)) := by
          rw [List.range_succ, List.flatMap_append, List.map_append, List.append_assoc]
          congr 1
          rw [List.flatMap_cons, List.flatMap_nil, List.append_nil]
          unfold singlesAt
          rw [List.map_append, List.map_map, List.map_map]
          rfl
        rw [ef]
        exact t4
  · obtain ⟨a, l, ys, rfl, hl, hlH, ht'⟩ := hσ
    rw [List.length_range] at ht'
    exact s_retV (ev_var rfl) fun H2 s2 => q l ys H2 hlH (s1.trans (sx.same.trans s2)) (s2 _ _ hl) (ht'.mono s2)
/-! ### _law_rule -/
def dm_law_rule : List PyData → PyData → Prop := fun ds r => ∃ (n : Nat) (E : List Edge) (s t : Sgl), ds = [eW n E, eS s, eS t] ∧ r = .bool (ruleL E s t)
theorem minN (a b : Nat) : (if (b : Int) < (a : Int) then (b : Int) else (a : Int)) = ((if b < a then b else a : Nat) : Int) := by
  by_cases h : b < a
  · rw [if_pos h, if_pos (by omega)]
  · rw [if_neg h, if_neg (by omega)]
theorem maxN (a b : Nat) : (if (b : Int) > (a : Int) then (b : Int) else (a : Int)) = ((if b > a then b else a : Nat) : Int) := by
  by_cases h : b > a
  · rw [if_pos h, if_pos (by omega)]
  · rw [if_neg h, if_neg (by omega)]
theorem ok_law_rule (T : Tx K mg) : Fnx P w K mg base 1 "_law_rule" ["_law_web", "_law_first", "_law_second"] (spD dm_law_rule) := by
  refine fnx T.d_law_rule sc_law_rule (fun _ _ _ _ _ _ us hl => match us, hl with | [_, _, _], _ => rfl) (len_spD (by rintro ds r ⟨n, E, s, t, rfl, rfl⟩; rfl)) fun f cdv A outer s H vs Q E' hr h => ?_
  obtain ⟨ds, r, hv, ⟨n, E, a, b, rfl, rfl⟩, q⟩ := h
  obtain ⟨x, y, z, rfl, hx, hy, hz⟩ := tpa3 hv
  refine ⟨_, (pss_cons (ps_asg (pe_tup (pa_cons (pv 1) (pa_cons (pv 2) pa_nil))) (pg_tup rfl (pgs_cons (pg_tup rfl (pgs_cons (pg_name (i := 3) sc_law_rule.nd rfl (Or.inl rfl)) (pgs_cons (pg_name (i := 4) sc_law_rule.nd rfl (Or.inl rfl)) (pgs_cons (pg_name (i := 5) sc_law_rule.nd rfl (Or.inl rfl)) pgs_nil)))) (pgs_cons (pg_tup rfl (pgs_cons (pg_name (i := 6) sc_law_rule.nd rfl (Or.inl rfl)) (pgs_cons (pg_name (i := 7) sc_law_rule.nd rfl (Or.inl rfl)) (pgs_cons (pg_name (i := 8) sc_law_rule.nd rfl (Or.inl rfl)) pgs_nil)))) pgs_nil))))
      (pss_cons (ps_if (pt_cmpR op_eq (pv 4) (pv 7) (nomark _)) (pss_one (ps_ret (pe_and (pe_cmpR op_eq (pv 3) (pv 6) (nomark _)) (pe_one (pe_cmpR op_eq (pv 8) (pe_op op_add (pv 5) (pe_ifExp (pt_val (pv 3)) pe_int (pe_op op_sub pe_int pe_int))) (nomark _)))))) pss_nil)
      (pss_cons (ps_set (i := 9) sc_law_rule.nd rfl (Or.inl rfl) (pe_cmpR (r := rInT K) (op_inT hr) (pe_tup (pa_cons (pe_callB (call_min2 rfl) rfl T.b_min (by decide +kernel) (pa_cons (pv 4) (pa_cons (pv 7) pa_nil))) (pa_cons (pe_callB (call_max2 rfl) rfl T.b_max (by decide +kernel) (pa_cons (pv 4) (pa_cons (pv 7) pa_nil))) pa_nil))) (pe_ix (r := rIxT K) ix_tup (pv 0) pe_int (fun _ _ => rfl)) (by rfl)))
      (pss_one (ps_ret (pe_and (pv 9) (pe_one (pe_cmpR op_eq (pv 8) (pe_ifExp (pt_cmpR op_ne (pv 3) (pv 6) (nomark _)) (pv 5) (pe_ifExp (pt_val (pv 3)) (pe_op op_add (pv 5) pe_int) (pe_op op_sub (pv 5) pe_int))) (nomark _))))))))), ?_⟩
  refine z_asgG (d := .tuple [eS a, eS b]) (ed_tup (ea_cons (ed_var rfl hy) (ea_cons (ed_var rfl hz) ea_nil)) (by show 2 ≤ 100000; omega)) fun v0 H1 s1 hv0 => ?_
  obtain ⟨p0, xs0, rfl, hp0, t0⟩ := hv0.tup_inv
  obtain ⟨y', z', rfl, hy', hz'⟩ := tpa2 t0
  obtain ⟨p1, xs1, rfl, hp1, t1⟩ := hy'.tup_inv
  obtain ⟨p2, xs2, rfl, hp2, t2⟩ := hz'.tup_inv
  obtain ⟨a0, a1, a2, rfl, ha0, ha1, ha2⟩ := tpa3 t1
  obtain ⟨b0, b1, b2, rfl, hb0, hb1, hb2⟩ := tpa3 t2
  refine gt_two hp0 (gt_three hp1 gt_name gt_name gt_name) (gt_three hp2 gt_name gt_name gt_name) _ ?_
  have hx1 := hx.mono s1
  refine z_if (b := decide (a.2.1 = b.2.1)) (eb_is (eb_test (ed_eqI (ed_var rfl ha1) (ed_var rfl hb1))) (dI _ _)) (fun g H2 s2 => ?_) fun g H2 s2 => ?_
  · have g' := of_decide_eq_true g
    refine s_retD (ed_is (ed_and (b := decide (b.2.2 = a.2.2 + if a.1 = true then 1 else 0 - 1)) (ed_eqB (ed_var rfl (ha0.mono s2)) (ed_var rfl (hb0.mono s2))) fun _ => ed_eqI (ed_var rfl (hb2.mono s2)) (ed_i0 (ed_var rfl (ha2.mono s2)) (ed_dir (eb_B (ed_var rfl (ha0.mono s2))) ed_int (ed_is (ed_i0 ed_int ed_int fun _ => .int _) rfl)) fun _ => .int _)) ?_) fun v H3 s3 hv => q v H3 (s1.trans (s2.trans s3)) hv
    unfold ruleL
    rw [if_pos g']
  · have g' := of_decide_eq_false g
    have sE : SeqAt.shaped (.tuple (E.map eE)) = true := shaped_tup eE_lay eE_depth (by decide) _
    refine z_asgD (ed_is (ed_inT (d := eE (if b.2.1 < a.2.1 then b.2.1 else a.2.1, if b.2.1 > a.2.1 then b.2.1 else a.2.1)) (ed_tup (ea_cons (ed_is (ed_min2 (ed_var rfl (ha1.mono s2)) (ed_var rfl (hb1.mono s2))) (by rw [minN])) (ea_cons (ed_is (ed_max2 (ed_var rfl (ha1.mono s2)) (ed_var rfl (hb1.mono s2))) (by rw [maxN])) ea_nil)) (by show 2 ≤ 100000; omega)) (ed_web1 (ed_var rfl (hx1.mono s2))) (eE_shaped _) sE) (by rw [any_contains eE_eqv])) fun v3 H3 s3 hv3 => ?_
    have s23 := s2.trans s3
    refine s_retD (ed_is (ed_and (b := decide (b.2.2 = if (a.1 != b.1) = true then a.2.2 else if a.1 = true then a.2.2 + 1 else a.2.2 - 1)) (ed_var rfl hv3) fun _ => ed_eqI (ed_var rfl (hb2.mono s23)) (ed_if (b := a.1 != b.1) (eb_test (ed_neB (ed_var rfl (ha0.mono s23)) (ed_var rfl (hb0.mono s23)))) (fun e => by rw [if_pos e]; exact ed_var rfl (ha2.mono s23)) fun e => by
      rw [if_neg (by rw [e]; decide)]
      exact ed_if (b := a.1) (eb_B (ed_var rfl (ha0.mono s23))) (fun e2 => by rw [if_pos e2]; exact ed_i0 (ed_var rfl (ha2.mono s23)) ed_int fun _ => .int _) fun e2 => by rw [if_neg (by rw [e2]; decide)]; exact ed_i0 (ed_var rfl (ha2.mono s23)) ed_int fun _ => .int _)) ?_) fun v H4 s4 hv => q v H4 (s1.trans (s23.trans s4)) hv
    unfold ruleL
    rw [if_neg g']
end
end Lv

set_option Elab.async false
set_option linter.all false
set_option maxRecDepth 100000
set_option maxHeartbeats 4000000
namespace Lv
open PySem PySem.Spec L2
open PyProof.Rows (envOfC)
section
variable {P : Program} {w : World} {K : PySem.W.Frag} {mg : Str → Option Value} {base : Heap} {σ : L2.St} {H : Hp} {te : TE}
/-! ### _law_alike -/
/-- ints and truth values, and tuples of them, at most k deep -/
def PlainD : Nat → PyData → Prop
  | _, .int _ => True
  | _, .bool _ => True
  | k + 1, .tuple es => es.length ≤ 100000 ∧ ∀ e ∈ es, PlainD k e
  | _, _ => False
def dm_alike : Nat → List PyData → PyData → Prop
  | 0, _, _ => False
  | k + 1, ds, r => ∃ d, ds = [d, d] ∧ PlainD k d ∧ r = .bool true
theorem ok_alike0 (T : Tx K mg) : Fnx P w K mg base 0 "_law_alike" ["_law_found", "_law_due"] (spD (dm_alike 0)) := by
  obtain ⟨h1, fd, F⟩ := T.d_law_alike
  refine ⟨_, fd, h1, F.kp, F.bindsN (fun _ _ _ _ _ _ us hl => match us, hl with | [_, _], _ => rfl), ⟨fun vs H Q E h => ?_, fun A outer s H args us vs Q E _ _ _ _ h => ?_⟩⟩
  · obtain ⟨_, _, _, h, _⟩ := h
    exact h.elim
  · obtain ⟨_, _, _, h, _⟩ := h
    exact h.elim
theorem eb_isN {ta : TE} {d : PyData} (h : ED ta σ H d) (hn : d ≠ .none) : EB (tTest (tOp (fun x y H Q => y = .non ∧ Q (.bl (decide (x = .non))) H) ta (tC .non))) σ H false := fun H1 s Q q =>
  h H1 s _ fun v H2 s2 hv => ⟨rfl, false, by
    have : v ≠ .non := fun e => by
      subst e
      cases hv
      exact hn rfl
    rw [decide_eq_false this], q H2 s2⟩
theorem ok_alike_step (T : Tx K mg) {k : Nat} (G_law_alike : Fnx P w K mg base k "_law_alike" ["_law_found", "_law_due"] (spD (dm_alike k))) : Fnx P w K mg base (k + 1) "_law_alike" ["_law_found", "_law_due"] (spD (dm_alike (k + 1))) := by
  refine fnx T.d_law_alike sc_law_alike (fun _ _ _ _ _ _ us hl => match us, hl with | [_, _], _ => rfl) (len_spD (by rintro ds r ⟨d, rfl, _, rfl⟩; rfl)) fun f cdv A outer s H vs Q E' hr h => ?_
  obtain ⟨ds, r, hv, ⟨d, rfl, hd, rfl⟩, q⟩ := h
  obtain ⟨x, y, rfl, hx, hy⟩ := tpa2 hv
  refine ⟨_, (pss_cons (ps_if (pt_val (pe_callB call_isiT rfl T.b_isinstance PyProof.Rows.boot_isinstance (pa_cons (pv 1) (pa_cons (pe_tup (pa_cons (pe_bltn (v := .ty "tuple") (by rfl) T.b_tuple (by decide +kernel) rfl) (pa_cons (pe_bltn (v := .ty "list") (by rfl) T.b_list (by decide +kernel) rfl) pa_nil))) pa_nil)))) (pss_cons (ps_if (PW.pt (pw_or (pt_not (pt_val (pe_callB call_isiT rfl T.b_isinstance PyProof.Rows.boot_isinstance (pa_cons (pv 0) (pa_cons (pe_tup (pa_cons (pe_bltn (v := .ty "tuple") (by rfl) T.b_tuple (by decide +kernel) rfl) (pa_cons (pe_bltn (v := .ty "list") (by rfl) T.b_list (by decide +kernel) rfl) pa_nil))) pa_nil))))) (pw_or1 (pt_cmpR op_ne (pe_callB call_isi rfl T.b_isinstance PyProof.Rows.boot_isinstance (pa_cons (pv 0) (pa_cons (pe_bltn (v := .ty "list") (by rfl) T.b_list (by decide +kernel) rfl) pa_nil))) (pe_callB call_isi rfl T.b_isinstance PyProof.Rows.boot_isinstance (pa_cons (pv 1) (pa_cons (pe_bltn (v := .ty "list") (by rfl) T.b_list (by decide +kernel) rfl) pa_nil))) (nomark _))))) (pss_one (ps_ret pe_bl)) pss_nil)
      (pss_cons (ps_if (pt_cmpR op_ne (pe_callB call_len_seq rfl T.b_len PySem.boot_len (pa_cons (pv 0) pa_nil)) (pe_callB call_len_seq rfl T.b_len PySem.boot_len (pa_cons (pv 1) pa_nil)) (nomark _)) (pss_one (ps_ret pe_bl)) pss_nil)
      (pss_one (ps_ret (pe_cmpR (r := rEqD K) (op_eqD hr.units) (pe_lc (own := [("_law_k", 2)]) (g := gName 2) rfl sc_law_alike.nd (pi_range1 rfl T.b_range (pa_cons (pe_callB call_len_seq rfl T.b_len PySem.boot_len (pa_cons (pv 1) pa_nil)) pa_nil)) (blkOk_by (own := [("_law_k", 2)]) (N := N_law_alike) (sc := defScope (top 57)) (by decide +kernel)) (fun _ _ _ _ _ => (pg_name (i := 2) sc_law_alike.nd rfl (Or.inl rfl))) (fun _ _ _ _ _ => pts_one (pt_not (pt_val (pe_cf G_law_alike hr rfl (pa_cons (pe_ix (r := rIxT K) ix_tup (pv 0) (pv 2) (fun _ _ => rfl)) (pa_cons (pe_ix (r := rIxT K) ix_tup (pv 1) (pv 2) (fun _ _ => rfl)) pa_nil)))))) (fun _ _ _ _ _ => (pv 2))) (pe_lst pa_nil) (nomark _)))))) pss_nil)
      (pss_cons (ps_if (PW.pt (pw_or (pt_cmpR op_isN (pv 1) pe_non (nomark _)) (pw_or1 (pt_val (pe_callB call_isi rfl T.b_isinstance PyProof.Rows.boot_isinstance (pa_cons (pv 1) (pa_cons (pe_bltn (v := .ty "str") (by rfl) T.b_str (by decide +kernel) rfl) pa_nil))))))) (pss_one (ps_ret (pe_and (pe_cmpR (r := rEqD K) (op_eqD hr.units) (pv 0) (pv 1) (nomark _)) (pe_one (pe_cmpR op_eq (pe_callB call_isi rfl T.b_isinstance PyProof.Rows.boot_isinstance (pa_cons (pv 0) (pa_cons (pe_bltn (v := .ty "str") (by rfl) T.b_str (by decide +kernel) rfl) pa_nil))) (pe_callB call_isi rfl T.b_isinstance PyProof.Rows.boot_isinstance (pa_cons (pv 1) (pa_cons (pe_bltn (v := .ty "str") (by rfl) T.b_str (by decide +kernel) rfl) pa_nil))) (nomark _)))))) pss_nil)
      (pss_one (ps_ret (pe_and (pe_callB call_isi rfl T.b_isinstance PyProof.Rows.boot_isinstance (pa_cons (pv 0) (pa_cons (pe_bltn (v := .ty "int") (by rfl) T.b_int (by decide +kernel) rfl) pa_nil))) (pe_and (pe_cmpR op_eq (pe_callB call_isi rfl T.b_isinstance PyProof.Rows.boot_isinstance (pa_cons (pv 0) (pa_cons (pe_bltn (v := .ty "bool") (by rfl) T.b_bool (by decide +kernel) rfl) pa_nil))) (pe_callB call_isi rfl T.b_isinstance PyProof.Rows.boot_isinstance (pa_cons (pv 1) (pa_cons (pe_bltn (v := .ty "bool") (by rfl) T.b_bool (by decide +kernel) rfl) pa_nil))) (nomark _)) (pe_one (pe_cmpR (r := rEqD K) (op_eqD hr.units) (pv 0) (pv 1) (nomark _))))))))), ?_⟩
  cases d with
  | int i =>
    refine z_if (b := false) (eb_B (ed_isiT (ed_var rfl hy) (by rw [show kitB (tyD (.int i)) "tuple" = some false from k_it, show kitB (tyD (.int i)) "list" = some false from k_il]; rfl))) (fun z => nomatch z) fun _ H1 s1 => ?_
    refine z_if (b := false) (eb_or (a := false) (b := false) (eb_isN (ed_var rfl (hy.mono s1)) (fun z => nomatch z)) fun _ => eb_B (ed_isi (ed_var rfl (hy.mono s1)) k_is)) (fun z => nomatch z) fun _ H2 s2 => ?_
    have s12 := s1.trans s2
    exact s_retD (ed_is (ed_and (a := true) (b := true) (ed_isi (ed_var rfl (hx.mono s12)) k_ii) fun _ => ed_is (ed_and (b := true) (ed_eqB (i := false) (j := false) (ed_isi (ed_var rfl (hx.mono s12)) k_ib) (ed_isi (ed_var rfl (hy.mono s12)) k_ib)) fun _ => ed_is (ed_eqD (ed_var rfl (hx.mono s12)) (ed_var rfl (hy.mono s12)) rfl rfl) (by rw [eqv_int, decide_eq_true rfl])) rfl) rfl) fun v H3 s3 hv => q v H3 (s12.trans s3) hv
  | bool b =>
    refine z_if (b := false) (eb_B (ed_isiT (ed_var rfl hy) (by rw [show kitB (tyD (.bool b)) "tuple" = some false from k_bt, show kitB (tyD (.bool b)) "list" = some false from k_bl]; rfl))) (fun z => nomatch z) fun _ H1 s1 => ?_
    refine z_if (b := false) (eb_or (a := false) (b := false) (eb_isN (ed_var rfl (hy.mono s1)) (fun z => nomatch z)) fun _ => eb_B (ed_isi (ed_var rfl (hy.mono s1)) k_bs)) (fun z => nomatch z) fun _ H2 s2 => ?_
    have s12 := s1.trans s2
    exact s_retD (ed_is (ed_and (a := true) (b := true) (ed_isi (ed_var rfl (hx.mono s12)) k_bi) fun _ => ed_is (ed_and (b := true) (ed_eqB (i := true) (j := true) (ed_isi (ed_var rfl (hx.mono s12)) k_bb) (ed_isi (ed_var rfl (hy.mono s12)) k_bb)) fun _ => ed_is (ed_eqD (ed_var rfl (hx.mono s12)) (ed_var rfl (hy.mono s12)) rfl rfl) (by rw [eqv_bool, decide_eq_true rfl])) rfl) rfl) fun v H3 s3 hv => q v H3 (s12.trans s3) hv
  | tuple es =>
    cases k with
    | zero => exact hd.elim
    | succ k =>
      obtain ⟨hl, hall⟩ := hd
      refine z_if (b := true) (eb_B (ed_isiT (ed_var rfl hy) (by rw [show kitB (tyD (.tuple es)) "tuple" = some true from k_tt]; rfl))) (fun _ H1 s1 => ?_) (fun z => nomatch z)
      have hx1 := hx.mono s1
      have hy1 := hy.mono s1
      refine z_ifF (eb_or (a := false) (b := false) (eb_not (a := true) (eb_B (ed_isiT (ed_var rfl hx1) (by rw [show kitB (tyD (.tuple es)) "tuple" = some true from k_tt]; rfl)))) fun _ => eb_test (ed_is (ed_neB (i := false) (j := false) (ed_isi (ed_var rfl hx1) k_tl) (ed_isi (ed_var rfl hy1) k_tl)) rfl)) fun H2 s2 => ?_
      have hx2 := hx1.mono s2
      have hy2 := hy1.mono s2
      refine z_ifF (eb_test (ed_is (ed_neI (ed_lenT (ed_var rfl hx2)) (ed_lenT (ed_var rfl hy2))) (by rw [decide_eq_true rfl]; rfl))) fun H3 s3 => ?_
      have hx3 := hx2.mono s3
      have hy3 := hy2.mono s3
      have s13 := s1.trans (s2.trans s3)
      refine s_retD (ed_is (ed_eqNilN (el_lc (src_rn (n := es.length) (ea_cons (ed_lenT (ed_var rfl hy3)) ea_nil) (by omega)) (fun _ => false) eN (by rw [List.length_range]; omega) fun j v H4 hj s4 hv4 => ⟨_, gt_name, rfl, ?_, fun z => nomatch z⟩) (shaped_lst (enc := eN) (fun j => int_lay j) (fun j => int_depth j) (by decide) _) (el_lst ea_nil (by decide))) ?_) fun v H4 s4 hv => q v H4 (s13.trans s4) hv
      · have hjl := List.mem_range.mp hj
        have ej : es[j]? = some es[j] := List.getElem?_eq_getElem hjl
        exact eb_not (a := true) (eb_B (ed_call (dom := dm_alike (k + 1)) (ea_cons (ed_ixT (ed_var rfl (hx3.mono s4)) (ed_var rfl hv4) (atI_nat ej)) (ea_cons (ed_ixT (ed_var rfl (hy3.mono s4)) (ed_var rfl hv4) (atI_nat ej)) ea_nil)) ⟨es[j], rfl, hall _ (List.getElem_mem hjl), rfl⟩))
      · have e0 : (List.range es.length).filter (fun _ => false) = [] := List.filter_eq_nil_iff.mpr fun _ _ z => nomatch z
        rw [e0]
        rfl
  | none => cases k <;> exact hd.elim
  | str _ => cases k <;> exact hd.elim
  | list _ => cases k <;> exact hd.elim
  | dict _ => cases k <;> exact hd.elim
theorem ok_alike (T : Tx K mg) : ∀ k, Fnx P w K mg base k "_law_alike" ["_law_found", "_law_due"] (spD (dm_alike k))
  | 0 => ok_alike0 T
  | k + 1 => ok_alike_step T (ok_alike T k)
/-! ### _law_ways -/
theorem rowsW_inv {n : Nat} {E : List Edge} {r : Int} {one other : Hts} (hl : one.length = n) : ∀ t, ∀ x ∈ rowsW n E r one other t, x.1.length = t ∧ x.2.length = n
  | 0, x, h => by
    rw [List.mem_singleton.mp h]
    exact ⟨rfl, hl⟩
  | t + 1, x, h => by
    obtain ⟨y, hy, hx⟩ := List.mem_flatMap.mp h
    obtain ⟨z, hz, rfl⟩ := List.mem_map.mp hx
    obtain ⟨d, hd, rfl⟩ := List.mem_map.mp (List.mem_filter.mp hz).1
    have ih := rowsW_inv hl t y hy
    exact ⟨by show (y.1 ++ [d]).length = t + 1; rw [List.length_append, ih.1]; rfl, by show (chg y.2 d).length = n; rw [chg_length, ih.2]⟩
theorem nextW_few {n : Nat} {E : List Edge} {r : Int} {other : Hts} (x : List Deed × Hts) : (nextW n E r other x).length ≤ 2 * n := by
  unfold nextW
  rw [List.length_map]
  refine Nat.le_trans (List.length_filter_le _ _) ?_
  unfold afterL
  rw [List.length_map]
  exact deedsL_few
def spWays : Sp := fun vs H Q _ => ∃ (n : Nat) (E : List Edge) (roof : Int) (one other : Hts) (most T : Nat), TpA H vs [eW n E, .int roof, eH one, eH other, .int most] ∧ WebOk n E ∧ one.length = n ∧ other.length = n ∧ offM one other = (T : Int) ∧ T ≤ 100 ∧ 1 ≤ most ∧ most ≤ 1000 ∧
  (∀ H', Same H H' → (∃ t, t ≤ T ∧ most < (rowsW n E roof one other t).length) → Q .non H') ∧
  ∀ p xs H', H p = none → Same H H' → (∀ t, t ≤ T → (rowsW n E roof one other t).length ≤ most) → H' p = some (.lst xs) → TpA H' xs ((rowsW n E roof one other T).map fun x => eWd x.1) → Q (.ref p) H'
theorem ok_law_ways (T : Tx K mg) (G_law_off : Fnx P w K mg base 1 "_law_off" ["_law_one", "_law_other"] (spD dm_law_off)) (G_law_after : Fnx P w K mg base 3 "_law_after" ["_law_web", "_law_roof", "_law_heights_here"] (spL dm_law_after)) : Fnx P w K mg base 4 "_law_ways" ["_law_web", "_law_roof", "_law_one", "_law_other", "_law_most"] spWays := by
  refine fnx T.d_law_ways sc_law_ways (fun _ _ _ _ _ _ us hl => match us, hl with | [_, _, _, _, _], _ => rfl) (fun vs H Q E h => by obtain ⟨n, E, roof, one, other, most, T, hv, _⟩ := h; rw [hv.length]; rfl) fun f cdv A outer s H vs Q E' hr h => ?_
  obtain ⟨n, E, roof, one, other, most, M, hv, ok, l1, l2, hoff, hM, hm1, hm2, qn, qy⟩ := h
  cases hv with
  | @cons x vs1 _ _ hx hv =>
  obtain ⟨y, z, u, m, rfl, hy, hz, hu, hm⟩ := tpa4 hv
  refine ⟨_, (pss_cons (ps_set (i := 5) sc_law_ways.nd rfl (Or.inl rfl) (pe_lst (pa_cons (pe_tup (pa_cons (pe_tup pa_nil) (pa_cons (pv 2) pa_nil))) pa_nil)))
      (pss_cons (ps_for PassesOwn.never rfl (pi_range1 rfl T.b_range (pa_cons (pe_cf G_law_off (hr.mono (by decide)) rfl (pa_cons (pv 2) (pa_cons (pv 3) pa_nil))) pa_nil)) (pg_name (i := 6) sc_law_ways.nd rfl (Or.inl rfl)) (pss_cons (ps_set (i := 7) sc_law_ways.nd rfl (Or.inl rfl) (pe_lst pa_nil))
      (pss_cons (ps_for PassesOwn.never rfl (pi_list (pv 5)) (pg_tup rfl (pgs_cons (pg_name (i := 8) sc_law_ways.nd rfl (Or.inl rfl)) (pgs_cons (pg_name (i := 9) sc_law_ways.nd rfl (Or.inl rfl)) pgs_nil))) (pss_one (ps_for PassesOwn.never rfl (pi_list (pe_cf G_law_after (hr.mono (by decide)) rfl (pa_cons (pv 0) (pa_cons (pv 1) (pa_cons (pv 9) pa_nil))))) (pg_tup rfl (pgs_cons (pg_name (i := 10) sc_law_ways.nd rfl (Or.inl rfl)) (pgs_cons (pg_name (i := 11) sc_law_ways.nd rfl (Or.inl rfl)) pgs_nil))) (pss_one (ps_if (pt_cmpR op_lt (pe_cf G_law_off (hr.mono (by decide)) rfl (pa_cons (pv 11) (pa_cons (pv 3) pa_nil))) (pe_cf G_law_off (hr.mono (by decide)) rfl (pa_cons (pv 9) (pa_cons (pv 3) pa_nil))) (nomark _)) (pss_one (ps_expr (pe_bm PySem.F.plainAttrs_list PySem.F.slot_list_append PySem.F.type_list_append mt_append (pv 7) (pa_cons (pe_tup (pa_cons (pe_op (r := rCatA K) op_catA (pv 8) (pe_tup (pa_cons (pv 10) pa_nil))) (pa_cons (pv 11) pa_nil))) pa_nil)))) pss_nil)))))
      (pss_cons (ps_set (i := 5) sc_law_ways.nd rfl (Or.inl rfl) (pv 7))
      (pss_one (ps_if (pt_cmpR op_gt (pe_callB call_len_seq rfl T.b_len PySem.boot_len (pa_cons (pv 5) pa_nil)) (pv 4) (nomark _)) (pss_one (ps_ret pe_non)) pss_nil))))))
      (pss_one (ps_ret (pe_lc (own := [("_law_word", 8), ("_law_here", 9)]) (g := gTup K 2 (gCons (gName 8) (gCons (gName 9) (gNil)))) rfl sc_law_ways.nd (pi_list (pv 5)) (blkOk_by (own := [("_law_word", 8), ("_law_here", 9)]) (N := N_law_ways) (sc := defScope (top 58)) (by decide +kernel)) (fun _ _ _ _ _ => (pg_tup rfl (pgs_cons (pg_name (i := 8) sc_law_ways.nd rfl (Or.inl rfl)) (pgs_cons (pg_name (i := 9) sc_law_ways.nd rfl (Or.inl rfl)) pgs_nil)))) (fun _ _ _ _ _ => pts_nil) (fun _ _ _ _ _ => (pv 8))))))), ?_⟩
  have hhi := ok.hi
  refine z_asgL (el_lst (ds := [eX ([], one)]) (ea_cons (ed_tup (ea_cons (ed_tup (ds := []) ea_nil (by decide)) (ea_cons (ed_var rfl hz) ea_nil)) (by show 2 ≤ 100000; omega)) ea_nil) (by show 1 ≤ 100000; omega)) fun p0 xs0 H1 hp0 s1 hp1 t1 => ?_
  refine z_for M0 (src_rn (n := M) (ea_cons (ed_is (ed_call (dom := dm_law_off) (ea_cons (ed_var rfl (hz.mono s1)) (ea_cons (ed_var rfl (hu.mono s1)) ea_nil)) ⟨one, other, rfl, by omega, by omega, rfl⟩) (by rw [hoff])) ea_nil) (by omega)) (fun t σ' H' => ∃ p xs a b c d e g, σ' = [some x, some y, some z, some u, some m, some (.ref p), a, b, c, d, e, g] ∧ H' p = some (.lst xs) ∧ H p = none ∧ TpA H' xs ((rowsW n E roof one other t).map eX) ∧ ∀ i, i ≤ t → (rowsW n E roof one other i).length ≤ most)
    (fun H2 s2 => ⟨p0, xs0, none, none, none, none, none, none, rfl, s2 _ _ hp1, hp0, t1.mono s2, fun i hi => by
      have : i = 0 := by omega
      subst this
      exact hm1⟩) (fun t k0 v σ' H' H'' N hi sx hσ s' hv kk => ?_) fun σ' H' sx hσ => ?_
  · obtain ⟨p, xs, a, b, c, d, e, g, rfl, hp, hpH, ht, hle⟩ := hσ
    have htM : t < M := by
      have := (List.getElem?_eq_some_iff.mp hi).1
      rw [List.length_range] at this
      exact this
    have s13 := s1.trans (sx.same.trans s')
    refine gt_name _ ?_
    refine z_asgL (el_lst ea_nil (by decide)) fun pm xm H3 hpm s3 hpm3 tm => ?_
    have hpm' : p ≠ pm := ne_of_none (s' _ _ hp) hpm
    have hp3 := (s'.trans s3) _ _ hp
    have s03 := s13.trans s3
    have hrow := hle t (Nat.le_refl _)
    have hinv := rowsW_inv (E := E) (r := roof) (other := other) l1 t
    refine z_for (fun a => a = pm) (src_lstV (bs := rowsW n E roof one other t) (enc := eX) (ev_var rfl) hp3 (ht.mono (s'.trans s3)) hpm') (fun i σ' H4 => ∃ c d e g ys, σ' = [some x, some y, some z, some u, some m, some (.ref p), some v, some (.ref pm), c, d, e, g] ∧ H4 pm = some (.lst ys) ∧ TpA H4 ys ((((rowsW n E roof one other t).take i).flatMap (nextW n E roof other)).map eX)) (fun H4 s4 => ⟨c, d, e, g, xm, rfl, s4 _ _ hpm3, by cases tm; exact .nil⟩) (fun i xx v2 σ2 H4 H5 N2 hi2 sx2 hσ2 s5 hv2 kk2 => ?_) fun σ2 H4 sx2 hσ2 => ?_
    · obtain ⟨c, d, e, g, ys, rfl, hys, tys⟩ := hσ2
      have hxm := List.mem_of_getElem? hi2
      obtain ⟨w1, w2⟩ := hinv xx hxm
      obtain ⟨pa, za, rfl, hpa, hza⟩ := hv2.tup_inv
      obtain ⟨v3, v4, rfl, hv3, hv4⟩ := tpa2 hza
      have kt := (s03.kt.trans sx2.2).trans s5.kt
      have hx5 := hx.kt kt
      have hy5 := hy.kt kt
      have hu5 := hu.kt kt
      have hys5 := s5 _ _ hys
      have hil := (List.getElem?_eq_some_iff.mp hi2).1
      refine gt_two hpa gt_name gt_name _ ?_
      have fm := flatMap_le (nextW n E roof other) 8 ((rowsW n E roof one other t).take i) fun y _ => Nat.le_trans (nextW_few y) (by omega)
      have fa : (afterL n E roof xx.2).length ≤ 8 := by
        unfold afterL
        rw [List.length_map]
        exact Nat.le_trans deedsL_few (by omega)
      refine q_for (fun a => a = pm) (src_lstN (bs := afterL n E roof xx.2) (enc := eA) (el_call (dom := dm_law_after) (ea_cons (ed_var rfl hx5) (ea_cons (ed_var rfl hy5) (ea_cons (ed_var rfl hv4) ea_nil))) ⟨n, E, roof, xx.2, rfl, ok, w2, rfl⟩) (fun a ha => by subst ha; exact ⟨_, hys5⟩)) (fun j σ' H6 => ∃ e g ys2, σ' = [some x, some y, some z, some u, some m, some (.ref p), some v, some (.ref pm), some v3, some v4, e, g] ∧ H6 pm = some (.lst ys2) ∧ TpA H6 ys2 ((((rowsW n E roof one other t).take i).flatMap (nextW n E roof other)).map eX ++ ((((afterL n E roof xx.2).take j).filter fun y => decide (offM y.2 other < offM xx.2 other)).map fun y => eX (xx.1 ++ [y.1], y.2)))) (fun H6 s6 => ⟨e, g, ys, rfl, s6 _ _ hys5, by simpa using tys.mono (s5.trans s6)⟩) (fun j yy v5 σ3 H6 H7 N3 hj sx3 hσ3 s7 hv5 kk3 => ?_) fun σ3 H6 sx3 hσ3 => ?_
      · obtain ⟨e, g, ys2, rfl, hys2, tys2⟩ := hσ3
        have hyy := List.mem_of_getElem? hj
        obtain ⟨dd, hdd, rfl⟩ := List.mem_map.mp hyy
        obtain ⟨pb, zb, rfl, hpb, hzb⟩ := hv5.tup_inv
        obtain ⟨v6, v7, rfl, hv6, hv7⟩ := tpa2 hzb
        have kt7 := sx3.2.trans s7.kt
        have hv3' := hv3.kt kt7
        have hv4' := hv4.kt kt7
        have hu7 := hu5.kt kt7
        have hjl := (List.getElem?_eq_some_iff.mp hj).1
        have hys7 := s7 _ _ hys2
        refine gt_two hpb gt_name gt_name _ ?_
        refine s_if (b := decide (offM (chg xx.2 dd) other < offM xx.2 other)) (eb_test (ed_i0 (ed_call (dom := dm_law_off) (ea_cons (ed_var rfl hv7) (ea_cons (ed_var rfl hu7) ea_nil)) ⟨_, _, rfl, by rw [chg_length]; omega, by rw [chg_length]; omega, rfl⟩) (ed_call (dom := dm_law_off) (ea_cons (ed_var rfl hv4') (ea_cons (ed_var rfl hu7) ea_nil)) ⟨_, _, rfl, by omega, by omega, rfl⟩) fun _ => .bl _)) (fun gd H8 s8 => ?_) fun gd H8 s8 => ?_
        · have hpre := ed_cat (K := K) (ed_var (i := 8) (σ := [some x, some y, some z, some u, some m, some (.ref p), some v, some (.ref pm), some v3, some v4, some v6, some v7]) (H := H8) rfl (hv3'.mono s8)) (ed_tup (ea_cons (ed_var (i := 10) rfl (hv6.mono s8)) ea_nil) (by show 1 ≤ 100000; omega)) (by rw [List.length_map]; show _ + 1 ≤ _; omega)
          refine s_app (s8 _ _ hys7) (ev_var rfl) (d := eX (xx.1 ++ [dd], chg xx.2 dd)) (ed_is (ed_tup (ea_cons hpre (ea_cons (ed_var rfl (hv7.mono s8)) ea_nil)) (by show 2 ≤ 100000; omega)) ?_) (sz_lt ?_) fun v9 H9 s9 hv9 => ?_
          · show _ = PyData.tuple [.tuple ((xx.1 ++ [dd]).map eD), eH (chg xx.2 dd)]
            rw [List.map_append]
            rfl
          · rw [tys2.length, List.length_append, List.length_map, List.length_map]
            have := List.length_filter_le (fun y : Deed × Hts => decide (offM y.2 other < offM xx.2 other)) ((afterL n E roof xx.2).take j)
            rw [List.length_take] at this fm
            omega
          · have s79 := s7.trans (s8.trans s9)
            have px : SX (fun a => a = pm) H9 (upd H9 pm (.lst (ys2 ++ [v9]))) := SX.put rfl (s79 _ _ hys2)
            refine kk3 _ _ (s79.sx.trans px) ⟨_, _, _, rfl, upd_same, ?_⟩
            rw [take_snoc hj, List.filter_append, List.filter_cons_of_pos (p := fun y : Deed × Hts => decide (offM y.2 other < offM xx.2 other)) (a := (dd, chg xx.2 dd)) gd, List.map_append, ← List.append_assoc]
            exact ((tys2.mono s79).app (.cons hv9 .nil)).kt px.2
        · have s78 := s7.trans s8
          refine kk3 _ _ s78.sx ⟨_, _, ys2, rfl, s78 _ _ hys2, ?_⟩
          rw [take_snoc hj, List.filter_append, List.filter_cons_of_neg (p := fun y : Deed × Hts => decide (offM y.2 other < offM xx.2 other)) (a := (dd, chg xx.2 dd)) (by show ¬ decide (offM (chg xx.2 dd) other < offM xx.2 other) = true; rw [gd]; decide), List.filter_nil, List.append_nil]
          exact tys2.mono s78
      · obtain ⟨e, g, ys2, rfl, hys2, tys2⟩ := hσ3
        rw [List.take_length] at tys2
        refine kk2 _ _ (s5.sx.trans sx3) ⟨_, _, _, _, ys2, rfl, hys2, ?_⟩
        rw [take_snoc hi2, List.flatMap_append, List.map_append, List.flatMap_cons, List.flatMap_nil, List.append_nil]
        have e2 : (nextW n E roof other xx).map eX = ((afterL n E roof xx.2).filter fun y => decide (offM y.2 other < offM xx.2 other)).map fun y => eX (xx.1 ++ [y.1], y.2) := by
          unfold nextW
          rw [List.map_map]
          rfl
        rw [e2]
        exact tys2
    · obtain ⟨c, d, e, g, ys, rfl, hys, tys⟩ := hσ2
      rw [List.take_length] at tys
      have sm : Same H'' H4 := (s3.sx.trans sx2).same_of fun b hb => by rw [hb]; exact hpm
      have elen : ys.length = (rowsW n E roof one other (t + 1)).length := by
        rw [tys.length, List.length_map]
        rfl
      refine z_asgV (ev_var rfl) fun H5 s5 => ?_
      have hys5 := s5 _ _ hys
      have sm5 := sm.trans s5
      refine s_if (b := decide ((most : Int) < (ys.length : Int))) (eb_test (ed_i0 (ed_lenV (ev_var rfl) hys5) (ed_var rfl (hm.mono (s13.trans sm5))) fun _ => .bl _)) (fun gd H6 s6 => ?_) fun gd H6 s6 => ?_
      · have gd' := of_decide_eq_true gd
        refine s_retD ed_non fun v9 H7 s7 hv9 => ?_
        cases hv9
        exact qn H7 (s13.trans (sm5.trans (s6.trans s7))) ⟨t + 1, by omega, by omega⟩
      · have gd' := of_decide_eq_false gd
        refine kk _ _ (s'.trans (sm5.trans s6)).sx ⟨pm, ys, _, _, _, _, _, _, rfl, s6 _ _ hys5, s13.free hpm, tys.mono (s5.trans s6), fun i hi' => ?_⟩
        by_cases e : i = t + 1
        · subst e
          omega
        · exact hle i (by omega)
  · obtain ⟨p, xs, a, b, c, d, e, g, rfl, hp, hpH, ht, hle⟩ := hσ
    rw [List.length_range] at ht hle
    have sm := s1.trans sx.same
    have hlM := hle M (Nat.le_refl _)
    refine s_retL (el_lcY (src_lstV (bs := rowsW n E roof one other M) (enc := eX) (ev_var rfl) hp ht (fun z => z)) (fun x => eWd x.1) (by omega) fun xx v2 H3 hxx s3 hv2 => ?_) fun p2 xs2 H3 hp2 s3 hp3 t3 => qy p2 xs2 H3 (sm.free hp2) (sm.trans s3) hle hp3 t3
    obtain ⟨pa, za, rfl, hpa, hza⟩ := hv2.tup_inv
    obtain ⟨v3, v4, rfl, hv3, hv4⟩ := tpa2 hza
    exact ⟨_, gt_two hpa gt_name gt_name, rfl, ed_var rfl hv3⟩
/-! ### _law_lines -/
def spLines : Sp := fun vs H Q _ => ∃ (v : V) (p : Addr) (xs : List V) (one : Hts) (ws : List (List Deed)), vs = [v, .ref p] ∧ Tp H v (eH one) ∧ H p = some (.lst xs) ∧ TpA H xs (ws.map eWd) ∧ (∀ u ∈ ws, u.length ≤ 100 ∧ ∀ d ∈ u, d.2 < one.length) ∧ ws.length ≤ 100000 ∧ one.length ≤ 100 ∧
  ∀ p' xs' H', H p' = none → Same H H' → H' p' = some (.lst xs') → TpA H' xs' (ws.map fun u => eL (lineOf one u)) → Q (.ref p') H'
theorem lineStep_len (x : List Sgl × Hts) (d : Deed) : (lineStep x d).1.length = x.1.length + 1 ∧ (lineStep x d).2.length = x.2.length := by
  unfold lineStep
  exact ⟨by rw [List.length_append]; rfl, chg_length _ _⟩
theorem lineF_len : ∀ (u : List Deed) (x : List Sgl × Hts), (u.foldl lineStep x).1.length = x.1.length + u.length ∧ (u.foldl lineStep x).2.length = x.2.length
  | [], x => ⟨rfl, rfl⟩
  | d :: u, x => by
    have h := lineF_len u (lineStep x d)
    have h2 := lineStep_len x d
    rw [List.foldl_cons, List.length_cons]
    omega
theorem ok_law_lines (T : Tx K mg) (G_law_step : Fnx P w K mg base 1 "_law_step" ["_law_heights_here", "_law_deed"] (spD dm_law_step)) : Fnx P w K mg base 2 "_law_lines" ["_law_one", "_law_words"] spLines := by
  refine fnx T.d_law_lines sc_law_lines (fun _ _ _ _ _ _ us hl => match us, hl with | [_, _], _ => rfl) (fun vs H Q E h => by obtain ⟨v, p, xs, one, ws, rfl, _⟩ := h; rfl) fun f cdv A outer s H vs Q E' hr h => ?_
  obtain ⟨x, p, xs, one, ws, rfl, hx, hp, hxs, hws, hwl, hol, q⟩ := h
  refine ⟨_, (pss_cons (ps_set (i := 2) sc_law_lines.nd rfl (Or.inl rfl) (pe_lst pa_nil))
      (pss_cons (ps_for PassesOwn.never rfl (pi_list (pv 1)) (pg_name (i := 3) sc_law_lines.nd rfl (Or.inl rfl)) (pss_cons (ps_par (i := 4) (j := 5) (by rfl) sc_law_lines.nd rfl rfl (by decide) rfl rfl (pa_cons (pv 0) (pa_cons (pe_tup pa_nil) pa_nil)) (by rfl))
      (pss_cons (ps_for PassesOwn.never rfl (pi_tup (pv 3)) (pg_name (i := 6) sc_law_lines.nd rfl (Or.inl rfl)) (pss_one (ps_par (i := 5) (j := 4) (by rfl) sc_law_lines.nd rfl rfl (by decide) rfl rfl (pa_cons (pe_op (r := rCatA K) op_catA (pv 5) (pe_tup (pa_cons (pe_op (r := rCatA K) op_catA (pv 6) (pe_tup (pa_cons (pe_ix (r := rIxT K) ix_tup (pv 4) (pe_ix (r := rIxT K) ix_tup (pv 6) pe_int (fun _ _ => rfl)) (fun _ _ => rfl)) pa_nil))) pa_nil))) (pa_cons (pe_cf G_law_step (hr.mono (by decide)) rfl (pa_cons (pv 4) (pa_cons (pv 6) pa_nil))) pa_nil)) (by rfl))))
      (pss_one (ps_expr (pe_bm PySem.F.plainAttrs_list PySem.F.slot_list_append PySem.F.type_list_append mt_append (pv 2) (pa_cons (pv 5) pa_nil)))))))
      (pss_one (ps_ret (pv 2))))), ?_⟩
  refine z_asgL (el_lst ea_nil (by decide)) fun pf xf H1 hpf s1 hpf1 tf => ?_
  have hne : p ≠ pf := ne_of_none hp hpf
  have hp1 := s1 _ _ hp
  refine z_for (fun a => a = pf) (src_lstV (bs := ws) (enc := eWd) (ev_var rfl) hp1 (hxs.mono s1) hne) (fun i σ' H' => ∃ a b c d ys, σ' = [some x, some (.ref p), some (.ref pf), a, b, c, d] ∧ H' pf = some (.lst ys) ∧ TpA H' ys ((ws.take i).map fun u => eL (lineOf one u))) (fun H2 s2 => ⟨none, none, none, none, xf, rfl, s2 _ _ hpf1, by cases tf; exact .nil⟩) (fun i wd v σ' H' H'' N hi sx hσ s' hv kk => ?_) fun σ' H' sx hσ => ?_
  · obtain ⟨a, b, c, d, ys, rfl, hys, tys⟩ := hσ
    obtain ⟨hwd, hdl⟩ := hws wd (List.mem_of_getElem? hi)
    have hil := (List.getElem?_eq_some_iff.mp hi).1
    have kt := (s1.kt.trans sx.2).trans s'.kt
    have hx2 := hx.kt kt
    refine gt_name _ ?_
    refine z_par (ev_var (σ := [some x, some (.ref p), some (.ref pf), some v, b, c, d]) (i := 0) rfl H'' (Same.refl _) _ fun H3 s3 => ?_)
    refine (ed_tup (σ := [some x, some (.ref p), some (.ref pf), some v, b, c, d]) (ds := []) ea_nil (by decide)) H3 (Same.refl _) _ fun v0 H4 s4 hv0 => ?_
    refine ⟨_, _, rfl, ?_⟩
    have s34 := s3.trans s4
    refine z_for M0 (src_tup (bs := wd) (enc := eD) (ed_var rfl (hv.mono s34))) (fun j σ' H5 => ∃ v1 v2 d, σ' = [some x, some (.ref p), some (.ref pf), some v, some v1, some v2, d] ∧ Tp H5 v1 (eH ((wd.take j).foldl lineStep ([], one)).2) ∧ Tp H5 v2 (eL ((wd.take j).foldl lineStep ([], one)).1)) (fun H5 s5 => ⟨x, v0, d, rfl, (hx2.mono s34).mono s5, hv0.mono s5⟩) (fun j dd v3 σ2 H5 H6 N2 hj sx2 hσ2 s6 hv3 kk2 => ?_) fun σ2 H5 sx2 hσ2 => ?_
    · obtain ⟨v1, v2, d, rfl, hv1, hv2⟩ := hσ2
      have hjl := (List.getElem?_eq_some_iff.mp hj).1
      have hdd := hdl dd (List.mem_of_getElem? hj)
      have hv1' := hv1.mono s6
      have hv2' := hv2.mono s6
      have ll := lineF_len (wd.take j) ([], one)
      have l1 : ((wd.take j).foldl lineStep ([], one)).1.length = 0 + (wd.take j).length := ll.1
      have l2 : ((wd.take j).foldl lineStep ([], one)).2.length = one.length := ll.2
      rw [List.length_take] at l1
      obtain ⟨pd, xd, rfl, hpd, hxd⟩ := hv3.tup_inv
      refine gt_name _ ?_
      have hcat := ed_cat (K := K) (ed_var (i := 5) (σ := [some x, some (.ref p), some (.ref pf), some v, some v1, some v2, some (.ref pd)]) (H := H6) rfl hv2') (ed_tup (ds := [eS (dd.1, dd.2, ht ((wd.take j).foldl lineStep ([], one)).2 dd.2)]) (ea_cons (ed_is (ed_cat (K := K) (ed_var (i := 6) rfl hv3) (ed_tup (ea_cons (ed_ht (K := K) (ed_var (i := 4) rfl hv1') (ed_ixT (K := K) (ed_var (i := 6) rfl hv3) ed_int at1) (by rw [l2]; exact hdd)) ea_nil) (by show 1 ≤ 100000; omega)) (by show 2 + 1 ≤ 100000; omega)) rfl) ea_nil) (by show 1 ≤ 100000; omega)) (by rw [List.length_map]; show _ + 1 ≤ _; omega)
      refine hcat H6 (Same.refl _) _ fun v4 H7 s7 hv4 => ?_
      refine (ed_call (dom := dm_law_step) (σ := [some x, some (.ref p), some (.ref pf), some v, some v1, some v2, some (.ref pd)]) (ea_cons (ed_var (i := 4) rfl (hv1'.mono s7)) (ea_cons (ed_var (i := 6) (d := eD dd) rfl (hv3.mono s7)) ea_nil)) ⟨_, dd, rfl, by rw [l2]; exact hdd, rfl⟩) H7 (Same.refl _) _ fun v5 H8 s8 hv5 => ?_
      refine ⟨_, _, rfl, kk2 _ _ (s6.trans (s7.trans s8)).sx ⟨v5, v4, _, rfl, ?_, ?_⟩⟩
      · rw [take_snoc hj, List.foldl_append]
        exact hv5
      · rw [take_snoc hj, List.foldl_append]
        have e : eL ([dd].foldl lineStep ((wd.take j).foldl lineStep ([], one))).1 = .tuple (((wd.take j).foldl lineStep ([], one)).1.map eS ++ [eS (dd.1, dd.2, ht ((wd.take j).foldl lineStep ([], one)).2 dd.2)]) := by
          show PyData.tuple ((((wd.take j).foldl lineStep ([], one)).1 ++ [(dd.1, dd.2, ht ((wd.take j).foldl lineStep ([], one)).2 dd.2)]).map eS) = _
          rw [List.map_append]
          rfl
        rw [e]
        exact hv4.mono s8
    · obtain ⟨v1, v2, d, rfl, hv1, hv2⟩ := hσ2
      rw [List.take_length] at hv1 hv2
      have s45 := s'.trans (s34.trans sx2.same)
      refine s_app (s45 _ _ hys) (ev_var rfl) (ed_var rfl hv2) (sz_lt ?_) fun v6 H6 s6 hv6 => ?_
      · rw [tys.length, List.length_map, List.length_take]
        omega
      · have s46 := s45.trans s6
        have px : SX (fun a => a = pf) H6 (upd H6 pf (.lst (ys ++ [v6]))) := SX.put rfl (s46 _ _ hys)
        refine kk _ _ (s46.sx.trans px) ⟨_, _, _, _, _, rfl, upd_same, ?_⟩
        rw [take_snoc hi, List.map_append]
        exact ((tys.mono s46).app (.cons hv6 .nil)).kt px.2
  · obtain ⟨a, b, c, d, ys, rfl, hys, tys⟩ := hσ
    rw [List.take_length] at tys
    have sm : Same H H' := (s1.sx.trans sx).same_of fun b hb => by rw [hb]; exact hpf
    exact s_retV (ev_var rfl) fun H2 s2 => q pf ys H2 hpf (sm.trans s2) (s2 _ _ hys) (tys.mono s2)
end
end Lv

set_option Elab.async false
set_option linter.all false
set_option maxRecDepth 100000
set_option maxHeartbeats 4000000
namespace Lv
open PySem PySem.Spec L2
open PyProof.Rows (envOfC)
section
variable {P : Program} {w : World} {K : PySem.W.Frag} {mg : Str → Option Value} {base : Heap} {σ : L2.St} {H H' H1 H2 : Hp} {te : TE} {r : Addr}
/-! ### the row that draws -/
abbrev MR (r : Addr) : Addr → Prop := fun a => a = r
def RowCell (H : Hp) (r a : Addr) : Prop := ∃ i b c : Int, H r = some (.lst [.ref a, .int i, .int b, .int c]) ∧ 0 ≤ i
def RowOk (K : PySem.W.Frag) (H : Hp) (r a : Addr) (ns : List Int) : Prop := RowCell H r a ∧ SqL K H a (ns.map V.int)
variable {a : Addr} {ns : List Int}
theorem sql_sx {M : Addr → Prop} {xs : List V} (h : SqL K H a xs) (n : ∀ o, H a = some o → ¬ M a) (s : SX M H H') : SqL K H' a xs := by
  rcases h with (h | ⟨o, h⟩) | h
  · exact .inl (.inl (s.1 _ _ (n _ h) h))
  · exact .inl (.inr ⟨o, s.1 _ _ (n _ h) h⟩)
  · exact .inr h
theorem sql_row {M : Addr → Prop} (h : RowOk K H r a ns) (s : SX M H H') (hM : ∀ b, M b → b = r ∨ H b = none) : SqL K H' a (ns.map V.int) := by
  obtain ⟨⟨i, b, c, h1, _⟩, h3⟩ := h
  rcases h3 with (h | ⟨o, h⟩) | h
  · refine .inl (.inl (s.1 _ _ (fun m => ?_) h))
    rcases hM a m with z | z
    · subst z
      rw [h1] at h
      cases ns with
      | nil => cases h
      | cons x l => cases h
    · rw [z] at h
      cases h
  · refine .inl (.inr ⟨o, s.1 _ _ (fun m => ?_) h⟩)
    rcases hM a m with z | z
    · subst z
      rw [h1] at h
      cases h
    · rw [z] at h
      cases h
  · exact .inr h
theorem RowOk.frame {M : Addr → Prop} (h : RowOk K H r a ns) (s : SX M H H') (hM : ∀ b, M b → b = r ∨ H b = none) (hc : RowCell H' r a) : RowOk K H' r a ns := ⟨hc, sql_row h s hM⟩
theorem RowOk.mono (h : RowOk K H r a ns) (s : Same H H') : RowOk K H' r a ns := by
  refine h.frame (M := M0) s.sx (fun _ z => z.elim) ?_
  obtain ⟨⟨i, b, c, h1, h4⟩, _⟩ := h
  exact ⟨i, b, c, s _ _ h1, h4⟩
theorem RowCell.put {p : Addr} {o : HO} (h : RowCell H r a) (n : r ≠ p) : RowCell (upd H p o) r a := by
  obtain ⟨i, b, c, h1, h2⟩ := h
  exact ⟨i, b, c, by rw [upd_ne n]; exact h1, h2⟩
theorem RowCell.mono (h : RowCell H r a) (s : Same H H') : RowCell H' r a := by
  obtain ⟨i, b, c, h1, h2⟩ := h
  exact ⟨i, b, c, s _ _ h1, h2⟩
theorem RowCell.some (h : RowCell H r a) : ∃ o, H r = some o := by
  obtain ⟨i, b, c, h1, _⟩ := h
  exact ⟨_, h1⟩
def spTaken (K : PySem.W.Frag) : Sp := fun vs H Q _ => ∃ (r a : Addr) (ns : List Int) (m : Int), vs = [.ref r, .int m] ∧ RowOk K H r a ns ∧ 1 ≤ m ∧ m < 1000 ∧ ∀ v H', 0 ≤ v → v < m → SX (MR r) H H' → RowOk K H' r a ns → Q (.int v) H'
theorem ev_ixL {ta tb : TE} {p : Addr} {xs : List V} {v : V} {i : Int} (ha : EV ta σ H (.ref p)) (hb : ED tb σ H (.int i)) (hs : ∀ H1, Same H H1 → SqL K H1 p xs) (hi : atI xs i = some v) : EV (tOp (rIxL K) ta tb) σ H v := fun H1 s Q q =>
  ha H1 s _ fun H2 s2 => ev_int hb H2 (s.trans s2) _ fun H3 s3 => ⟨p, xs, i, v, rfl, rfl, hs H3 ((s.trans s2).trans s3), hi, q H3 (s2.trans s3)⟩
theorem ed_ixR {ta : TE} {p : Addr} {xs : List V} {n i : Int} (ha : EV ta σ H (.ref p)) (hp : H p = some (.lst xs)) (hi : atI xs i = some (.int n)) : ED (tOp (rIxL K) ta (tC (.int i))) σ H (.int n) :=
  ed_ev (ev_ixL ha ed_int (fun H1 s => .inl (.inl (s _ _ hp))) hi) (.int n)
theorem ed_int1 {ta : TE} {n : Int} (h : ED ta σ H (.int n)) : ED (tCB (fun xs H Q => (∃ i, xs = [.int i] ∧ Q (.int i) H) ∨ ∃ k, xs = [.bl k] ∧ Q (.int (if k then 1 else 0)) H) (tCons ta tNil)) σ H (.int n) := fun H1 s Q q =>
  ev_int h H1 s _ fun H2 s2 => .inl ⟨n, rfl, q _ H2 s2 (.int n)⟩
theorem ed_lenS {p : Addr} {xs : List V} {ta : TE} (h : EV ta σ H (.ref p)) (hs : ∀ H1, Same H H1 → SqL K H1 p xs) : ED (tCB (rLenQ K) (tCons ta tNil)) σ H (.int xs.length) :=
  ed_cbV h fun H1 s Q q => ⟨p, xs, rfl, .inl (hs H1 s), q _ H1 (Same.refl _) (.int _)⟩
theorem fmod_in {x m : Int} (h : 1 ≤ m) : 0 ≤ x.fmod m ∧ x.fmod m < m := ⟨Int.fmod_nonneg_of_pos _ (by omega), Int.fmod_lt_of_pos _ (by omega)⟩
theorem ok_law_taken (T : Tx K mg) : Fnx P w K mg base 1 "_law_taken" ["_law_row", "_law_many_here"] (spTaken K) := by
  refine fnx T.d_law_taken sc_law_taken (fun _ _ _ _ _ _ us hl => match us, hl with | [_, _], _ => rfl) (fun vs H Q E h => by obtain ⟨r, a, ns, m, rfl, _⟩ := h; rfl) fun f cdv A outer s H vs Q E' hr h => ?_
  obtain ⟨r, a, ns, m, rfl, hR, hm, hm2, q⟩ := h
  have hR0 := hR
  obtain ⟨⟨i, b, c, hp, hi⟩, hS⟩ := hR
  refine ⟨_, (pss_cons (ps_if (pt_cmpR op_gt (pe_ix (r := rIxL K) ix_list (pv 0) pe_int (fun _ _ => rfl)) pe_int (nomark _)) (pss_cons (ps_set (i := 2) sc_law_taken.nd rfl (Or.inl rfl) (pe_op op_modN (pe_callTy call_int1 rfl T.b_int (by decide +kernel) (pa_cons (pe_ix (r := rIxL K) ix_list (pv 0) pe_int (fun _ _ => rfl)) pa_nil)) (pv 1)))
      (pss_cons (ps_asg (pe_op op_fdivN (pe_ix (r := rIxL K) ix_list (pv 0) pe_int (fun _ _ => rfl)) (pv 1)) (pg_sub (pv 0) pe_int set_list))
      (pss_one (ps_ret (pv 2))))) pss_nil)
      (pss_cons (ps_asg (pe_op op_add (pe_ix (r := rIxL K) ix_list (pv 0) pe_int (fun _ _ => rfl)) pe_int) (pg_sub (pv 0) pe_int set_list))
      (pss_cons (ps_if (pt_cmpR op_gt (pe_ix (r := rIxL K) ix_list (pv 0) pe_int (fun _ _ => rfl)) (pe_callB call_len_seq rfl T.b_len PySem.boot_len (pa_cons (pe_ix (r := rIxL K) ix_list (pv 0) pe_int (fun _ _ => rfl)) pa_nil)) (nomark _)) (pss_cons (ps_asg (pe_op op_modN (pe_callTy call_int1 rfl T.b_int (by decide +kernel) (pa_cons (pe_op op_add (pe_op op_mul (pe_ix (r := rIxL K) ix_list (pv 0) pe_int (fun _ _ => rfl)) pe_int) pe_int) pa_nil)) pe_int) (pg_sub (pv 0) pe_int set_list))
      (pss_one (ps_ret (pe_op op_modN (pe_callTy call_int1 rfl T.b_int (by decide +kernel) (pa_cons (pe_op op_fdivN (pe_ix (r := rIxL K) ix_list (pv 0) pe_int (fun _ _ => rfl)) pe_int) pa_nil)) (pv 1))))) pss_nil)
      (pss_cons (ps_set (i := 3) sc_law_taken.nd rfl (Or.inl rfl) (pe_ix (r := rIxL K) ix_list (pe_ix (r := rIxL K) ix_list (pv 0) pe_int (fun _ _ => rfl)) (pe_op op_sub (pe_ix (r := rIxL K) ix_list (pv 0) pe_int (fun _ _ => rfl)) pe_int) (fun _ _ => rfl)))
      (pss_cons (ps_asg (pe_op op_modN (pe_callTy call_int1 rfl T.b_int (by decide +kernel) (pa_cons (pe_op op_add (pe_op op_add (pe_op op_mul (pe_ix (r := rIxL K) ix_list (pv 0) pe_int (fun _ _ => rfl)) pe_int) (pv 3)) pe_int) pa_nil)) pe_int) (pg_sub (pv 0) pe_int set_list))
      (pss_cons (ps_if (pt_cmpR op_ge (pv 3) (pe_op op_pow pe_int pe_int) (nomark _)) (pss_one (ps_asg (pe_op op_fdivN (pv 3) (pv 1)) (pg_sub (pv 0) pe_int set_list))) pss_nil)
      (pss_one (ps_ret (pe_op op_modN (pe_callTy call_int1 rfl T.b_int (by decide +kernel) (pa_cons (pv 3) pa_nil)) (pv 1)))))))))), ?_⟩
  have hm0 : m ≠ 0 := by omega
  have hdv : CDivN c m := ⟨hm0, by omega⟩
  have done : ∀ {H1 : Hp} (i' b' c' : Int), SX (MR r) H H1 → H1 r = some (.lst [.ref a, .int i', .int b', .int c']) → 0 ≤ i' → RowOk K H1 r a ns := fun i' b' c' s h1 h2 => hR0.frame s (fun b hb => .inl hb) ⟨i', b', c', h1, h2⟩
  refine z_if (b := decide ((0 : Int) < c)) (eb_test (ed_i0 (ed_ixR (ev_var rfl) hp rfl) ed_int fun _ => .bl _)) (fun _ H1 s1 => ?_) fun _ H1 s1 => ?_
  · have hp1 := s1 _ _ hp
    refine z_asgD (ed_iC (ed_int1 (ed_ixR (ev_var rfl) hp1 rfl)) (ed_var rfl (.int m)) hm0 fun _ => .int _) fun v H2 s2 hv => ?_
    cases hv
    have hp2 := s2 _ _ hp1
    refine z_setL (j := 3) (ed_iC (ed_ixR (ev_var rfl) hp2 rfl) (ed_var rfl (.int m)) hdv fun _ => .int _) (ev_var rfl) ed_int hp2 (show 3 < 4 by decide) fun v H3 s3 hv => ?_
    cases hv
    have px : SX (MR r) H3 (upd H3 r (.lst ([V.ref a, .int i, .int b, .int c].set 3 (.int (c.fdiv m))))) := SX.put rfl (s3 _ _ hp2)
    have sx : SX (MR r) H (upd H3 r (.lst ([V.ref a, .int i, .int b, .int c].set 3 (.int (c.fdiv m))))) := ((s1.trans s2).trans s3).sx.trans px
    refine s_retD (ed_var rfl (.int _)) fun v H4 s4 hv => ?_
    cases hv
    exact q _ H4 (fmod_in hm).1 (fmod_in hm).2 (sx.trans s4.sx) ((done i b _ sx upd_same hi).mono s4)
  · have hp1 := s1 _ _ hp
    refine z_setL (j := 1) (ed_i0 (ed_ixR (ev_var rfl) hp1 rfl) ed_int fun _ => .int _) (ev_var rfl) ed_int hp1 (show 1 < 4 by decide) fun v H2 s2 hv => ?_
    cases hv
    have px : SX (MR r) H2 (upd H2 r (.lst ([V.ref a, .int i, .int b, .int c].set 1 (.int (i + 1))))) := SX.put rfl (s2 _ _ hp1)
    have sx2 : SX (MR r) H (upd H2 r (.lst ([V.ref a, .int i, .int b, .int c].set 1 (.int (i + 1))))) := (s1.trans s2).sx.trans px
    have hp3 : (upd H2 r (.lst ([V.ref a, .int i, .int b, .int c].set 1 (.int (i + 1))))) r = some (.lst [V.ref a, .int (i + 1), .int b, .int c]) := upd_same
    revert sx2 hp3
    generalize upd H2 r (.lst ([V.ref a, .int i, .int b, .int c].set 1 (.int (i + 1)))) = H3
    intro sx2 hp3
    have hsq : ∀ {H4 : Hp}, SX (MR r) H3 H4 → SqL K H4 a (ns.map V.int) := fun s => sql_row hR0 (sx2.trans s) (fun b hb => .inl hb)
    refine z_if (b := decide (((ns.map V.int).length : Int) < i + 1)) (eb_test (ed_i0 (ed_ixR (ev_var rfl) hp3 rfl) (ed_lenS (ev_ixL (ev_var rfl) ed_int (fun H4 s4 => .inl (.inl (s4 _ _ hp3))) rfl) fun H4 s4 => hsq s4.sx) fun _ => .bl _)) (fun _ H4 s4 => ?_) fun gd H4 s4 => ?_
    · have hp4 := s4 _ _ hp3
      refine z_setL (j := 2) (ed_iC (ed_int1 (ed_i0 (ed_iC (ed_ixR (ev_var rfl) hp4 rfl) ed_int (.inr (by decide)) fun _ => .int _) ed_int fun _ => .int _)) ed_int (by decide) fun _ => .int _) (ev_var rfl) ed_int hp4 (show 2 < 4 by decide) fun v H5 s5 hv => ?_
      cases hv
      have hp5 := s5 _ _ hp4
      have hx : SX (MR r) H5 (upd H5 r (.lst ([V.ref a, .int (i + 1), .int b, .int c].set 2 (.int ((b * 48271 + 11).fmod 2147483647))))) := SX.put rfl hp5
      have sx6 := (sx2.trans (s4.trans s5).sx).trans hx
      refine s_retD (ed_iC (ed_int1 (ed_iC (ed_ixR (xs := [V.ref a, .int (i + 1), .int ((b * 48271 + 11).fmod 2147483647), .int c]) (n := (b * 48271 + 11).fmod 2147483647) (ev_var rfl) upd_same rfl) ed_int ⟨by decide, by decide⟩ fun _ => .int _)) (ed_var rfl (.int m)) hm0 fun _ => .int _) fun v H7 s7 hv => ?_
      cases hv
      exact q _ H7 (fmod_in hm).1 (fmod_in hm).2 (sx6.trans s7.sx) ((done (i + 1) _ c sx6 upd_same (by omega)).mono s7)
    · have gd' := of_decide_eq_false gd
      rw [List.length_map] at gd'
      have hil : i.toNat < ns.length := by omega
      have hat : atI (ns.map V.int) (i + 1 - 1) = some (.int ns[i.toNat]) := by
        have e : i + 1 - 1 = ((i.toNat : Nat) : Int) := by omega
        rw [e]
        exact atI_nat (by rw [List.getElem?_map, List.getElem?_eq_getElem hil]; rfl)
      generalize ns[i.toNat] = x at hat
      have hp4 := s4 _ _ hp3
      refine z_asgD (ed_ev (ev_ixL (ev_ixL (ev_var rfl) ed_int (fun H5 s5 => .inl (.inl (s5 _ _ hp4))) rfl) (ed_i0 (ed_ixR (ev_var rfl) hp4 rfl) ed_int fun _ => .int _) (fun H5 s5 => hsq (s4.trans s5).sx) hat) (.int x)) fun v H5 s5 hv => ?_
      cases hv
      have hp5 := s5 _ _ hp4
      refine z_setL (j := 2) (ed_iC (ed_int1 (ed_i0 (ed_i0 (ed_iC (ed_ixR (ev_var rfl) hp5 rfl) ed_int (.inr (by decide)) fun _ => .int _) (ed_var rfl (.int x)) fun _ => .int _) ed_int fun _ => .int _)) ed_int (by decide) fun _ => .int _) (ev_var rfl) ed_int hp5 (show 2 < 4 by decide) fun v H6 s6 hv => ?_
      cases hv
      have hp6 := s6 _ _ hp5
      have hx : SX (MR r) H6 (upd H6 r (.lst ([V.ref a, .int (i + 1), .int b, .int c].set 2 (.int ((b * 48271 + x + 11).fmod 2147483647))))) := SX.put rfl hp6
      have sx7 := (sx2.trans ((s4.trans s5).trans s6).sx).trans hx
      have hp7 : (upd H6 r (.lst ([V.ref a, .int (i + 1), .int b, .int c].set 2 (.int ((b * 48271 + x + 11).fmod 2147483647))))) r = some (.lst [V.ref a, .int (i + 1), .int ((b * 48271 + x + 11).fmod 2147483647), .int c]) := upd_same
      revert sx7 hp7
      generalize upd H6 r (.lst ([V.ref a, .int (i + 1), .int b, .int c].set 2 (.int ((b * 48271 + x + 11).fmod 2147483647)))) = H7
      generalize (b * 48271 + x + 11).fmod 2147483647 = b7
      intro sx7 hp7
      have last : ∀ {H8 : Hp}, SX (MR r) H H8 → RowOk K H8 r a ns → tRet (tOp (rI (fun _ j => j ≠ 0) fun i j => .int (i.fmod j)) (tCB (fun xs H Q => (∃ i, xs = [.int i] ∧ Q (.int i) H) ∨ ∃ k, xs = [.bl k] ∧ Q (.int (if k then 1 else 0)) H) (tCons (tVar 3) tNil)) (tVar 1)) { nx := fun _ H' => Q .non H', rt := Q } [some (.ref r), some (.int m), none, some (.int x)] H8 := fun sx8 rk => by
        refine s_retD (ed_iC (ed_int1 (ed_var rfl (.int x))) (ed_var rfl (.int m)) hm0 fun _ => .int _) fun v H9 s9 hv => ?_
        cases hv
        exact q _ H9 (fmod_in hm).1 (fmod_in hm).2 (sx8.trans s9.sx) (rk.mono s9)
      refine z_if (b := decide (((10 : Int) ^ (18 : Int).toNat) ≤ x)) (eb_test (ed_i0 (ed_var rfl (.int x)) (ed_iC ed_int ed_int ⟨by decide, by decide, by decide⟩ fun _ => .int _) fun _ => .bl _)) (fun _ H8 s8 => ?_) fun _ H8 s8 => ?_
      · have hp8 := s8 _ _ hp7
        refine ed_iC (C := CDivN) (ed_var rfl (.int x)) (ed_var rfl (.int m)) ⟨hm0, by omega⟩ (fun _ => .int _) H8 (Same.refl _) _ fun v H9 s9 hv => ?_
        cases hv
        have hp9 := s9 _ _ hp8
        refine ⟨_, rfl, r, _, (3 : Int), 3, rfl, rfl, hp9, rfl, ?_⟩
        have hx : SX (MR r) H9 (upd H9 r (.lst ([V.ref a, .int (i + 1), .int b7, .int c].set 3 (.int (x.fdiv m))))) := SX.put rfl hp9
        have sx9 := (sx7.trans (s8.trans s9).sx).trans hx
        exact last sx9 (done (i + 1) b7 _ sx9 upd_same (by omega))
      · exact last (sx7.trans s8.sx) ((done (i + 1) b7 c sx7 hp7 (by omega)).mono s8)
def spPick (K : PySem.W.Frag) : Sp := fun vs H Q _ => ∃ (r a p : Addr) (ns : List Int) (xs : List V), vs = [.ref r, .ref p] ∧ RowOk K H r a ns ∧ H p = some (.lst xs) ∧ p ≠ r ∧ 1 ≤ xs.length ∧ xs.length < 1000 ∧ ∀ v H', v ∈ xs → SX (MR r) H H' → RowOk K H' r a ns → Q v H'
theorem ok_law_pick (T : Tx K mg) (G_law_taken : Fnx P w K mg base 1 "_law_taken" ["_law_row", "_law_many_here"] (spTaken K)) : Fnx P w K mg base 2 "_law_pick" ["_law_row", "_law_things"] (spPick K) := by
  refine fnx T.d_law_pick sc_law_pick (fun _ _ _ _ _ _ us hl => match us, hl with | [_, _], _ => rfl) (fun vs H Q E h => by obtain ⟨r, a, p, ns, xs, rfl, _⟩ := h; rfl) fun f cdv A outer s H vs Q E' hr h => ?_
  obtain ⟨r, a, p, ns, xs, rfl, hrow, hp, hne, hl1, hl2, q⟩ := h
  refine ⟨_, (pss_one (ps_ret (pe_ix (r := rIxL K) ix_list (pv 1) (pe_cf G_law_taken (hr.mono (by decide)) rfl (pa_cons (pv 0) (pa_cons (pe_callB call_len_seq rfl T.b_len PySem.boot_len (pa_cons (pv 1) pa_nil)) pa_nil))) (fun _ _ => rfl)))), ?_⟩
  refine ⟨_, rfl, _, rfl, ?_⟩
  refine ed_lenV (ev_var rfl) hp H (Same.refl _) _ fun v H1 s1 hv => ?_
  cases hv
  refine ⟨r, a, ns, xs.length, rfl, hrow.mono s1, by omega, by omega, fun v H2 h0 h1 sx hrow2 => ?_⟩
  have hv : v.toNat < xs.length := by omega
  refine ⟨p, xs, v, xs[v.toNat], rfl, rfl, .inl (.inl (sx.1 _ _ hne (s1 _ _ hp))), ?_, q _ H2 (List.getElem_mem hv) (s1.sx.trans sx) hrow2⟩
  have e : atI xs ((v.toNat : Nat) : Int) = some xs[v.toNat] := atI_nat (List.getElem?_eq_getElem hv)
  rw [Int.toNat_of_nonneg h0] at e
  exact e
end
end Lv

set_option Elab.async false
set_option linter.all false
set_option maxRecDepth 100000
set_option maxHeartbeats 4000000
namespace Lv
open PySem PySem.Spec L2
open PyProof.Rows (envOfC)
section
variable {P : Program} {w : World} {K : PySem.W.Frag} {mg : Str → Option Value} {base : Heap} {σ : L2.St} {H H' H1 H2 : Hp} {te : TE} {r a : Addr} {ns : List Int}
/-! ### calls that draw -/
theorem tk_run {i : Nat} {m : Int} {Q : VK} (hi : σ[i]? = some (some (.ref r))) (hR : RowOk K H r a ns) (he : ED te σ H (.int m)) (h1 : 1 ≤ m) (h2 : m < 1000) (q : ∀ v H', 0 ≤ v → v < m → SX (MR r) H H' → RowOk K H' r a ns → Q (.int v) H') :
    tCall (spTaken K) [] E0 (tCons (tVar i) (tCons te tNil)) σ H Q := by
  refine ⟨_, hi, ?_⟩
  refine he H (Same.refl _) _ fun v H1 s1 hv => ?_
  cases hv
  exact ⟨r, a, ns, m, rfl, hR.mono s1, h1, h2, fun v H' h0 h1 sx hr => q v H' h0 h1 (s1.sx.trans sx) hr⟩
theorem pk_run {i : Nat} {ds : List PyData} {Q : VK} (hi : σ[i]? = some (some (.ref r))) (hR : RowOk K H r a ns) (he : EL te σ H ds) (h1 : 1 ≤ ds.length) (h2 : ds.length < 1000) (q : ∀ v d H', d ∈ ds → Tp H' v d → SX (MR r) H H' → RowOk K H' r a ns → Q v H') :
    tCall (spPick K) [] E0 (tCons (tVar i) (tCons te tNil)) σ H Q := by
  refine ⟨_, hi, ?_⟩
  refine he H (Same.refl _) _ fun p xs H1 hp s1 hp1 t1 => ?_
  have e := t1.length
  have hn : p ≠ r := fun z => by
    obtain ⟨o, ho⟩ := hR.1.some
    rw [z, ho] at hp
    cases hp
  refine ⟨r, a, p, ns, xs, rfl, hR.mono s1, hp1, hn, by omega, by omega, fun v H' hv sx hr => ?_⟩
  obtain ⟨j, hj, ej⟩ := List.getElem_of_mem hv
  obtain ⟨d, hd, hvd⟩ := t1.getV (show xs[j]? = some v by rw [List.getElem?_eq_getElem hj, ej])
  exact q v d H' (List.mem_of_getElem? hd) (hvd.kt sx.2) (s1.sx.trans sx) hr
theorem lc_draw {β : Type} {bs : List β} {enc : β → PyData} {wi : TI} {g : TG} {vs : List Nat} {Q : VK} (src : Src (MR r) wi σ H bs enc) (hR : RowOk K H r a ns) (C : PyData → Prop) (hl : bs.length ≤ 100000)
    (body : ∀ x v H1, x ∈ bs → SX (MR r) H H1 → RowOk K H1 r a ns → Tp H1 v (enc x) → ∃ σ2, GT g (wipe σ vs) v H1 σ2 ∧ wipe σ2 vs = wipe σ vs ∧ ∀ Q : VK, (∀ v' d H2, C d → Tp H2 v' d → SX (MR r) H1 H2 → RowOk K H2 r a ns → Q v' H2) → te σ2 H1 Q)
    (q : ∀ p xs ds H', H p = none → SX (MR r) H H' → RowOk K H' r a ns → H' p = some (.lst xs) → TpA H' xs ds → (∀ d ∈ ds, C d) → ds.length = bs.length → Q (.ref p) H') : tLc wi g tYes te vs σ H Q := by
  refine src H (Same.refl _) _ fun J H2 P s2 p0 stab w => ?_
  intro D hD
  have hDH : H D = none := s2.free hD
  have hDr : r ≠ D := fun z => by
    obtain ⟨o, ho⟩ := hR.1.some
    rw [z, hDH] at ho
    cases ho
  have s3 : Same H2 (upd H2 D (.lst [])) := same_new hD _
  refine lc_it w (fun i H' => SX (fun b => b = r ∨ b = D) H2 H' ∧ P H' ∧ RowCell H' r a ∧ ∃ acc ds, H' D = some (.lst acc) ∧ TpA H' acc ds ∧ (∀ d ∈ ds, C d) ∧ ds.length = i) ⟨s3.sx, stab M0 _ _ (fun _ z => z.elim) p0 s3.sx, (hR.mono (s2.trans s3)).1, [], [], upd_same, .nil, (fun _ z => nomatch z), rfl⟩ (fun i H' _ h => h.2.1) (fun i v H' H'' hi h y => ?_) fun H' h => ?_
  · obtain ⟨sh, ph, hc, acc, ds, ha, ht, hC, hlen⟩ := h
    obtain ⟨sy, x, hx, hv⟩ := y
    have hm : x ∈ bs := List.mem_of_getElem? hx
    have sxB : SX (fun b => b = r ∨ b = D) H H'' := (s2.sx.trans sh).trans sy.sx
    have sxA : SX (MR r) H H'' := ⟨(fun b o n e => by
      refine sxB.1 b o (fun z => ?_) e
      rcases z with z | z
      · exact n z
      · rw [z, hDH] at e
        cases e), sxB.2⟩
    have hR2 : RowOk K H'' r a ns := hR.frame sxA (fun b hb => .inl hb) (hc.mono sy)
    obtain ⟨σ2, h1, h2, h3⟩ := body x v H'' hm sxA hR2 hv
    refine h1 _ ⟨h2, ?_⟩
    unfold tYes
    dsimp only
    refine iteT ?_
    refine h3 _ fun v' d H4 hd hv' s4 hR4 => ?_
    have hD4 : H4 D = some (.lst acc) := s4.1 _ _ (fun z => hDr z.symm) (sy _ _ ha)
    have px : SX (fun b => b = r ∨ b = D) H4 (upd H4 D (.lst (acc ++ [v']))) := SX.put (.inr rfl) hD4
    have s4' : SX (fun b => b = r ∨ b = D) H'' H4 := s4.sub fun b hb => .inl hb
    have tot : SX (fun b => b = r ∨ b = D) H' (upd H4 D (.lst (acc ++ [v']))) := (sy.sx.trans s4').trans px
    refine ⟨acc, hD4, ?_, sh.trans tot, stab (fun b => b = r ∨ b = D) _ _ (fun b z => ?_) ph tot, hR4.1.put hDr, acc ++ [v'], ds ++ [d], upd_same, ?_, ?_, ?_⟩
    · have e1 := ht.length
      rw [sizeLine_eq]
      omega
    · rcases z with z | z
      · exact .inl z
      · exact .inr (by rw [z]; exact hD)
    · exact ((ht.kt (sy.kt.trans s4.2)).app (.cons hv' .nil)).kt px.2
    · intro d' hd'
      rcases List.mem_append.mp hd' with z | z
      · exact hC d' z
      · rw [List.mem_singleton.mp z]; exact hd
    · rw [List.length_append, hlen]; rfl
  · obtain ⟨sh, ph, hc, acc, ds, ha, ht, hC, hlen⟩ := h
    have sxA : SX (MR r) H H' := ⟨(fun b o n e => by
      refine (s2.sx.trans sh).1 b o (fun z => ?_) e
      rcases z with z | z
      · exact n z
      · rw [z, hDH] at e
        cases e), (s2.sx.trans sh).2⟩
    exact q D acc ds H' hDH sxA (hR.frame sxA (fun b hb => .inl hb) hc) ha ht hC hlen
/-! ### _law_many -/
def dm_law_many : List PyData → PyData → Prop := fun ds r => ∃ (roof : Int) (m : Nat), ds = [.int roof, .int m] ∧ 0 ≤ roof ∧ roof ≤ 9 ∧ m ≤ 9 ∧ r = .int ((roof + 1) ^ m)
theorem ok_law_many (T : Tx K mg) : Fnx P w K mg base 1 "_law_many" ["_law_roof", "_law_many_here"] (spD dm_law_many) := by
  refine fnx T.d_law_many sc_law_many (fun _ _ _ _ _ _ us hl => match us, hl with | [_, _], _ => rfl) (len_spD (by rintro ds r ⟨roof, m, rfl, _, _, _, rfl⟩; rfl)) fun f cdv A outer s H vs Q E' hr h => ?_
  obtain ⟨ds, r, hv, ⟨roof, m, rfl, h0, h9, hm, rfl⟩, q⟩ := h
  obtain ⟨x, y, rfl, hx, hy⟩ := tpa2 hv
  cases hx
  cases hy
  refine ⟨_, (pss_cons (ps_set (i := 2) sc_law_many.nd rfl (Or.inl rfl) pe_int)
      (pss_cons (ps_for PassesOwn.never rfl (pi_range1 rfl T.b_range (pa_cons (pv 1) pa_nil)) (pg_name (i := 3) sc_law_many.nd rfl (Or.inl rfl)) (pss_one (ps_set (i := 2) sc_law_many.nd rfl (Or.inl rfl) (pe_op op_mul (pv 2) (pe_op op_add (pv 0) pe_int)))))
      (pss_one (ps_ret (pv 2))))), ?_⟩
  refine z_asgD ed_int fun v H1 s1 hv => ?_
  cases hv
  refine z_for M0 (src_rn (n := m) (ea_cons (ed_var rfl (.int _)) ea_nil) (by omega)) (fun i σ' H' => ∃ b, σ' = [some (.int roof), some (.int m), some (.int ((roof + 1) ^ i)), b]) (fun H2 s2 => ⟨none, by rw [Int.pow_zero]; rfl⟩) (fun i k v σ' H' H'' N hi sx hσ s' hv kk => ?_) fun σ' H' sx hσ => ?_
  · obtain ⟨b, rfl⟩ := hσ
    refine gt_name _ ?_
    refine s_asgD (ed_iC (ed_var rfl (.int _)) (ed_i0 (ed_var rfl (.int roof)) ed_int fun _ => .int _) (.inr ⟨by omega, by omega⟩) fun _ => .int _) fun v2 H3 s3 hv2 => ?_
    cases hv2
    refine kk _ _ (s'.trans s3).sx ⟨some v, ?_⟩
    rw [Int.pow_succ]
    rfl
  · obtain ⟨b, rfl⟩ := hσ
    rw [List.length_range]
    exact s_retD (ed_var rfl (.int _)) fun v H2 s2 hv => q v H2 (s1.trans (sx.same.trans s2)) hv
/-! ### tuple(sorted(set(edges))) -/
theorem keysE {H : Hp} : ∀ {es : List V} {E : List Edge}, TpA H es (E.map eE) → ∃ ks : List (Addr × List Int), es = ks.map (fun p => V.ref p.1) ∧ ks.map (·.2) = E.map (fun e => [(e.1 : Int), (e.2 : Int)]) ∧ ∀ p ∈ ks, H p.1 = some (.tup (p.2.map V.int))
  | es, [], h => by
    have h : TpA H es [] := h
    cases h
    exact ⟨[], rfl, rfl, fun _ z => by cases z⟩
  | es, e :: E, h => by
    have h : TpA H es (eE e :: E.map eE) := h
    cases h with
    | cons hv ht =>
      obtain ⟨ks, h1, h2, h3⟩ := keysE ht
      obtain ⟨b, ys, rfl, hb, ty⟩ := hv.tup_inv
      obtain ⟨u, v, rfl, hu, hv⟩ := tpa2 ty
      cases hu
      cases hv
      refine ⟨(b, [(e.1 : Int), (e.2 : Int)]) :: ks, by rw [h1]; rfl, by rw [List.map_cons, List.map_cons, h2], fun p hp => ?_⟩
      rcases List.mem_cons.mp hp with z | z
      · rw [z]; exact hb
      · exact h3 p z
def edOf (p : Addr × List Int) : Edge := ((p.2.getD 0 0).toNat, (p.2.getD 1 0).toNat)
theorem backE {H : Hp} : ∀ {L : List (Addr × List Int)}, (∀ p ∈ L, H p.1 = some (.tup (p.2.map V.int)) ∧ ∃ e : Edge, p.2 = [(e.1 : Int), (e.2 : Int)]) → TpA H (L.map fun q => V.ref q.1) ((L.map edOf).map eE)
  | [], _ => .nil
  | p :: L, h => by
    obtain ⟨h1, e, h2⟩ := h p (List.mem_cons_self ..)
    have h3 := backE (L := L) fun q hq => h q (List.mem_cons_of_mem _ hq)
    refine .cons ?_ h3
    have e1 : edOf p = e := by unfold edOf; rw [h2]; rfl
    rw [e1]
    refine .tup h1 ?_
    rw [h2]
    exact .cons (.int _) (.cons (.int _) .nil)
theorem srt_run {n : Nat} {E : List Edge} {Q : VK} {p : Addr} {es : List V} {i : Nat} (hi : σ[i]? = some (some (.ref p))) (hp : H p = some (.lst es)) (ht : TpA H es (E.map eE)) (hE : ∀ e ∈ E, e.1 < e.2 ∧ e.2 < n) (hl : E.length < 64) (h1 : 1 ≤ n) (h4 : n ≤ 4)
    (q : ∀ v E' H', WebOk n E' → Tp H' v (.tuple (E'.map eE)) → Same H H' → Q v H') : tCB (rTupQ K) (tCons (tCB (rSortedT K P w) (tCons (tCB (rSetOfT K P w) (tCons (tVar i) tNil)) tNil)) tNil) σ H Q := by
  obtain ⟨ks, k1, k2, k3⟩ := keysE ht
  have hmem : ∀ q ∈ ks, ∃ e ∈ E, q.2 = [(e.1 : Int), (e.2 : Int)] := fun q hq => by
    have : q.2 ∈ ks.map (·.2) := List.mem_map.mpr ⟨q, hq, rfl⟩
    rw [k2] at this
    obtain ⟨e, he, ee⟩ := List.mem_map.mp this
    exact ⟨e, he, ee.symm⟩
  refine ⟨_, hi, p, ks, rfl, ?_, fun q hq => .inl (.inl (k3 q hq)), ?_, fun b L hb hL1 hL2 => ?_⟩
  · rw [← k1]; exact .inl (.inl hp)
  · have : (ks.map (·.2)).length = E.length := by rw [k2, List.length_map]
    rw [List.length_map] at this
    omega
  have sb : Same H (upd H b (SetTO P w b L)) := same_new hb _
  refine ⟨b, L, 2, 64, rfl, upd_same, fun q hq => .inl (.inl (sb _ _ (k3 q (hL1 q hq)))), by decide, fun q hq => ?_, fun L' p' pm nd few pw hp' => ?_⟩
  · obtain ⟨e, he, ee⟩ := hmem q (hL1 q hq)
    have := hE e he
    rw [ee]
    refine ⟨rfl, fun x hx => ?_⟩
    rcases List.mem_cons.mp hx with z | z
    · rw [z]; omega
    · rw [List.mem_singleton.mp z]; omega
  have sp : Same (upd H b (SetTO P w b L)) (upd (upd H b (SetTO P w b L)) p' (.lst (L'.map fun q => V.ref q.1))) := same_new hp' _
  have hin : ∀ q ∈ L', ∃ e ∈ E, q.2 = [(e.1 : Int), (e.2 : Int)] := fun q hq => hmem q (hL1 q (pm.mem_iff.mp hq))
  have tb : TpA H (L'.map fun q => V.ref q.1) ((L'.map edOf).map eE) := backE fun q hq => by
    obtain ⟨e, he, ee⟩ := hin q hq
    exact ⟨k3 q (hL1 q (pm.mem_iff.mp hq)), e, ee⟩
  refine ⟨p', _, rfl, .inl ⟨.inl (.inl upd_same), fun l hl => q _ (L'.map edOf) _ ⟨?_, h1, h4, ?_, ?_⟩ (.tup upd_same (tb.mono ((sb.trans sp).trans (same_new hl _)))) ((sb.trans sp).trans (same_new hl _))⟩⟩
  · rw [List.length_map]; omega
  · intro e he
    obtain ⟨q, hq, rfl⟩ := List.mem_map.mp he
    obtain ⟨e, he, ee⟩ := hin q hq
    have e1 : edOf q = e := by unfold edOf; rw [ee]; rfl
    rw [e1]
    exact hE e he
  · rw [List.pairwise_map]
    have nd' : L'.Pairwise fun q r => q.2 ≠ r.2 := List.pairwise_map.mp nd
    refine (pw.and nd').imp_of_mem fun {q r} hq hr hh => ?_
    obtain ⟨e, he, ee⟩ := hin q hq
    obtain ⟨e', he', ee'⟩ := hin r hr
    have a1 : edOf q = e := by unfold edOf; rw [ee]; rfl
    have a2 : edOf r = e' := by unfold edOf; rw [ee']; rfl
    have b1 := hE e he
    have b2 := hE e' he'
    rw [a1, a2]
    obtain ⟨c1, c2⟩ := hh
    rw [ee, ee'] at c1 c2
    rcases pair_lt c1 c2 (by omega) (by omega) (by omega) (by omega) with z | ⟨z1, z2⟩
    · exact .inl (by omega)
    · exact .inr ⟨by omega, by omega⟩
theorem encs_of {β : Type} {enc : β → PyData} {p : β → Prop} : ∀ {ds : List PyData}, (∀ d ∈ ds, ∃ e, d = enc e ∧ p e) → ∃ E : List β, ds = E.map enc ∧ ∀ e ∈ E, p e
  | [], _ => ⟨[], rfl, fun _ z => by cases z⟩
  | d :: ds, h => by
    obtain ⟨e, h1, h2⟩ := h d (List.mem_cons_self ..)
    obtain ⟨E, h3, h4⟩ := encs_of (ds := ds) fun d' hd => h d' (List.mem_cons_of_mem _ hd)
    refine ⟨e :: E, by rw [h1, h3]; rfl, fun e' he => ?_⟩
    rcases List.mem_cons.mp he with z | z
    · rw [z]; exact h2
    · exact h4 e' z
end
end Lv

set_option Elab.async false
set_option linter.all false
set_option maxRecDepth 100000
set_option maxHeartbeats 4000000
namespace Lv
open PySem PySem.Spec L2
open PyProof.Rows (envOfC)
section
variable {P : Program} {w : World} {K : PySem.W.Frag} {mg : Str → Option Value} {base : Heap} {σ : L2.St} {H H' H1 H2 : Hp} {te : TE} {r a : Addr} {ns : List Int}
theorem i0_run {g : Int → Int → V} {i j : Int} {v : V} {Q : VK} (e : g i j = v) (q : Q v H) : rI0 g (.int i) (.int j) H Q := ⟨i, j, rfl, rfl, by rw [e]; exact q⟩
theorem z_ifP {t : TT} {tu tw u : TS} {D : Ends} {b : Bool} (Pst : L2.St → Hp → Prop) (h : EB t σ H b) (h1 : (∀ σ' H', Pst σ' H' → u D σ' H') → b = true → ∀ H1, Same H H1 → tu { D with nx := u D } σ H1) (h2 : (∀ σ' H', Pst σ' H' → u D σ' H') → b = false → ∀ H1, Same H H1 → tw { D with nx := u D } σ H1)
    (k : ∀ σ' H', Pst σ' H' → u D σ' H') : tSeq (tIfS t tu tw) u D σ H := z_if h (h1 k) (h2 k)
/-! ### _law_table -/
def spTable (K : PySem.W.Frag) : Sp := fun vs H Q _ => ∃ (r a : Addr) (ns : List Int), vs = [.ref r, .int 4, .int 300] ∧ RowOk K H r a ns ∧ ∀ v n E roof H', WebOk n E → 1 ≤ roof → roof ≤ 5 → SX (MR r) H H' → RowOk K H' r a ns → Tp H' v (.tuple [eW n E, .int roof]) → Q v H'
theorem ok_law_table (T : Tx K mg) (G_law_taken : Fnx P w K mg base 1 "_law_taken" ["_law_row", "_law_many_here"] (spTaken K)) (G_law_pick : Fnx P w K mg base 2 "_law_pick" ["_law_row", "_law_things"] (spPick K)) (G_law_many : Fnx P w K mg base 1 "_law_many" ["_law_roof", "_law_many_here"] (spD dm_law_many)) : Fnx P w K mg base 3 "_law_table" ["_law_row", "_law_most", "_law_size"] (spTable K) := by
  refine fnx T.d_law_table sc_law_table (fun _ _ _ _ _ _ us hl => match us, hl with | [_, _, _], _ => rfl) (fun vs H Q E h => by obtain ⟨r, a, ns, rfl, _⟩ := h; rfl) fun f cdv A outer s H vs Q E' hr h => ?_
  obtain ⟨r, a, ns, rfl, hR, q⟩ := h
  refine ⟨_, (pss_cons (ps_par (i := 3) (j := 4) (by rfl) sc_law_table.nd rfl rfl (by decide) rfl rfl (pa_cons (pe_op op_add pe_int (pe_cf G_law_taken (hr.mono (by decide)) rfl (pa_cons (pv 0) (pa_cons (pv 1) pa_nil)))) (pa_cons (pe_cf G_law_taken (hr.mono (by decide)) rfl (pa_cons (pv 0) (pa_cons pe_int pa_nil))) pa_nil)) (by rfl))
      (pss_cons (ps_asg (pe_tup (pa_cons (pe_cf G_law_pick (hr.mono (by decide)) rfl (pa_cons (pv 0) (pa_cons (pe_lst (pa_cons pe_int (pa_cons pe_int (pa_cons pe_int pa_nil)))) pa_nil))) (pa_cons (pe_lst pa_nil) (pa_cons (pe_op op_add pe_int (pe_cf G_law_taken (hr.mono (by decide)) rfl (pa_cons (pv 0) (pa_cons pe_int pa_nil)))) (pa_cons pe_int pa_nil))))) (pg_tup rfl (pgs_cons (pg_name (i := 5) sc_law_table.nd rfl (Or.inl rfl)) (pgs_cons (pg_name (i := 6) sc_law_table.nd rfl (Or.inl rfl)) (pgs_cons (pg_name (i := 7) sc_law_table.nd rfl (Or.inl rfl)) (pgs_cons (pg_name (i := 8) sc_law_table.nd rfl (Or.inl rfl)) pgs_nil))))))
      (pss_cons (ps_for PassesOwn.never rfl (pi_range1 rfl T.b_range (pa_cons (pv 3) pa_nil)) (pg_name (i := 9) sc_law_table.nd rfl (Or.inl rfl)) (pss_one (ps_for PassesOwn.never rfl (pi_range2 rfl T.b_range (pa_cons (pe_op op_add (pv 9) pe_int) (pa_cons (pv 3) pa_nil))) (pg_name (i := 10) sc_law_table.nd rfl (Or.inl rfl)) (pss_one (ps_if (PW.pt (pw_and (pt_cmpR op_lt (pv 4) pe_int (nomark _)) (pw_and1 (pt_cmpR op_eq (pe_cf G_law_taken (hr.mono (by decide)) rfl (pa_cons (pv 0) (pa_cons (pv 5) pa_nil))) pe_int (nomark _))))) (pss_one (ps_expr (pe_bm PySem.F.plainAttrs_list PySem.F.slot_list_append PySem.F.type_list_append mt_append (pv 6) (pa_cons (pe_tup (pa_cons (pv 9) (pa_cons (pv 10) pa_nil))) pa_nil)))) pss_nil)))))
      (pss_cons (ps_if (pt_cmpR op_eq (pv 4) pe_int (nomark _)) (pss_one (ps_setLc (i := 6) (own := [("_law_k", 9)]) (g := gName 9) rfl sc_law_table.nd rfl rfl (sw_true rfl rfl rfl (by decide +kernel)) (pi_range1 rfl T.b_range (pa_cons (pe_op op_sub (pv 3) pe_int) pa_nil)) (blkOk_by (own := [("_law_k", 9)]) (N := N_law_table) (sc := defScope (top 47)) (by decide +kernel)) (fun _ _ _ _ _ => (pg_name (i := 9) sc_law_table.nd rfl (Or.inl rfl))) (fun _ _ _ _ _ => pts_nil) (fun _ _ _ _ _ => (pe_tup (pa_cons (pv 9) (pa_cons (pe_op op_add (pv 9) pe_int) pa_nil)))))) pss_nil)
      (pss_cons (ps_if (pt_cmpR op_eq (pv 4) pe_int (nomark _)) (pss_one (ps_setLc (i := 6) (own := [("_law_k", 9)]) (g := gName 9) rfl sc_law_table.nd rfl rfl (sw_true rfl rfl rfl (by decide +kernel)) (pi_range2 rfl T.b_range (pa_cons pe_int (pa_cons (pv 3) pa_nil))) (blkOk_by (own := [("_law_k", 9)]) (N := N_law_table) (sc := defScope (top 47)) (by decide +kernel)) (fun _ _ _ _ _ => (pg_name (i := 9) sc_law_table.nd rfl (Or.inl rfl))) (fun _ _ _ _ _ => pts_nil) (fun _ _ _ _ _ => (pe_tup (pa_cons (pe_cf G_law_taken (hr.mono (by decide)) rfl (pa_cons (pv 0) (pa_cons (pv 9) pa_nil))) (pa_cons (pv 9) pa_nil)))))) pss_nil)
      (pss_cons (ps_while PassesOwn.never (PW.pt (pw_and (pt_cmpR op_gt (pv 7) pe_int (nomark _)) (pw_and1 (pt_cmpR op_gt (pe_cf G_law_many (hr.mono (by decide)) rfl (pa_cons (pv 7) (pa_cons (pv 3) pa_nil))) (pv 2) (nomark _))))) (pss_one (ps_set (i := 7) sc_law_table.nd rfl (Or.inl rfl) (pe_op op_sub (pv 7) pe_int))))
      (pss_one (ps_ret (pe_tup (pa_cons (pe_tup (pa_cons (pv 3) (pa_cons (pe_callTy call_tuple_of rfl T.b_tuple (by decide +kernel) (pa_cons (pe_callB (cr_sortedT rfl) rfl T.b_sorted (by decide +kernel) (pa_cons (pe_callTy (cr_setOfT rfl hr.units) rfl T.b_set (by decide +kernel) (pa_cons (pv 6) pa_nil)) pa_nil)) pa_nil)) pa_nil))) (pa_cons (pv 7) pa_nil))))))))))), ?_⟩
  refine z_par ?_
  refine tk_run rfl hR (ed_var rfl (.int 4)) (by decide) (by decide) fun v1 H1 a1 b1 sx1 hR1 => ?_
  obtain ⟨n, hn⟩ := Int.eq_ofNat_of_zero_le (show 0 ≤ 1 + v1 by omega)
  refine i0_run (v := .int n) (by show V.int (1 + v1) = _; rw [hn]) ?_
  refine tk_run rfl hR1 ed_int (by decide) (by decide) fun u H2 a2 b2 sx2 hR2 => ?_
  refine ⟨_, _, rfl, ?_⟩
  have hn1 : 1 ≤ n := by omega
  have hn4 : n ≤ 4 := by omega
  refine pk_run rfl hR2 (el_lst (ds := [.int 2, .int 3, .int 4]) (ea_cons ed_int (ea_cons ed_int (ea_cons ed_int ea_nil))) (by decide)) (by decide) (by decide) fun v3 d3 H3 hd3 hv3 sx3 hR3 => ?_
  have ht3 : ∃ t : Int, v3 = .int t ∧ 2 ≤ t ∧ t ≤ 4 := by
    rcases List.mem_cons.mp hd3 with z | z
    · subst z; exact ⟨2, hv3.int_inv, by decide, by decide⟩
    rcases List.mem_cons.mp z with z | z
    · subst z; exact ⟨3, hv3.int_inv, by decide, by decide⟩
    rcases List.mem_cons.mp z with z | z
    · subst z; exact ⟨4, hv3.int_inv, by decide, by decide⟩
    · cases z
  obtain ⟨t, rfl, ht2, ht4⟩ := ht3
  refine ⟨by show 0 ≤ sizeLine; decide, fun p hp => ?_⟩
  have sp : Same H3 (upd H3 p (.lst [])) := same_new hp _
  have sx03 := (sx1.trans sx2).trans sx3
  have hprn : r ≠ p := fun z => by
    obtain ⟨o, ho⟩ := hR3.1.some
    rw [z, hp] at ho
    cases ho
  refine tk_run rfl (hR3.mono sp) ed_int (by decide) (by decide) fun v4 H4 a4 b4 sx4 hR4 => ?_
  obtain ⟨ro, hro, ro1, ro5⟩ : ∃ ro : Int, 1 + v4 = ro ∧ 1 ≤ ro ∧ ro ≤ 5 := ⟨1 + v4, rfl, by omega, by omega⟩
  refine i0_run (v := .int ro) (by show V.int (1 + v4) = _; rw [hro]) ?_
  refine ⟨by show 4 ≤ sizeLine; decide, fun p5 hp5 => ?_⟩
  have sp5 := same_new hp5 (HO.tup [V.int t, V.ref p, V.int ro, V.int 1])
  refine ⟨p5, _, rfl, .inl (.inl upd_same), rfl, ?_⟩
  refine ⟨_, _, rfl, _, _, rfl, _, _, rfl, _, _, rfl, rfl, ?_⟩
  have sx5 : SX (MR r) H (upd H4 p5 (HO.tup [V.int t, V.ref p, V.int ro, V.int 1])) := ((sx03.trans sp.sx).trans sx4).trans sp5.sx
  have hR5 := hR4.mono sp5
  have hp5' : (upd H4 p5 (HO.tup [V.int t, V.ref p, V.int ro, V.int 1])) p = some (.lst []) := sp5 _ _ (sx4.1 _ _ (fun z => hprn z.symm) upd_same)
  have hpH3 : ∀ M : Addr → Prop, ∀ H', SX (fun b => b = r ∨ b = p) (upd H4 p5 (HO.tup [V.int t, V.ref p, V.int ro, V.int 1])) H' → RowCell H' r a → SX (MR r) H H' ∧ RowOk K H' r a ns := fun M H' sx hc => by
    have base3 : SX (fun b => b = r ∨ b = p) H3 H' := ((sp.sx.trans (sx4.sub fun b hb => .inl hb)).trans sp5.sx).trans sx
    have s1 : SX (MR r) H3 H' := ⟨(fun b o nb e => base3.1 b o (fun z => by
      rcases z with z | z
      · exact nb z
      · rw [z, hp] at e
        cases e) e), base3.2⟩
    exact ⟨sx03.trans s1, hR3.frame s1 (fun b hb => .inl hb) hc⟩
  revert sx5 hR5 hp5' hpH3
  generalize upd H4 p5 (HO.tup [V.int t, V.ref p, V.int ro, V.int 1]) = H5
  intro sx5 hR5 hp5' hpH3
  refine z_for (fun b => b = r ∨ b = p) (src_rn (n := n) (ea_cons (ed_var rfl (.int _)) ea_nil) (by omega)) (fun i σ' H' => ∃ b c es E, σ' = [some (.ref r), some (.int 4), some (.int 300), some (.int n), some (.int u), some (.int t), some (.ref p), some (.int ro), some (.int 1), b, c] ∧ H' p = some (.lst es) ∧ TpA H' es (E.map eE) ∧ (∀ e ∈ E, e.1 < e.2 ∧ e.2 < n) ∧ E.length ≤ 4 * i ∧ RowCell H' r a)
    (fun H6 s6 => ⟨none, none, [], [], rfl, s6 _ _ hp5', .nil, (fun _ z => nomatch z), Nat.zero_le _, hR5.1.mono s6⟩) (fun i k v σ' H' H'' N hi sx hσ s' hv kk => ?_) fun σ' H' sx hσ => ?_
  · obtain ⟨b, c, es, E, rfl, hes, tes, hE, hlE, hc⟩ := hσ
    have hik : k = i ∧ i < n := by
      have h1 := (List.getElem?_eq_some_iff.mp hi)
      obtain ⟨h2, h3⟩ := h1
      rw [List.length_range] at h2
      rw [List.getElem_range] at h3
      exact ⟨h3.symm, h2⟩
    obtain ⟨rfl, hkn⟩ := hik
    have hv' := hv.int_inv
    subst hv'
    refine gt_name _ ?_
    refine q_for (fun b => b = r ∨ b = p) (src_r2 (a := (k : Int) + 1) (b := (n : Int)) (ea_cons (ed_i0 (ed_var rfl (.int _)) ed_int fun _ => .int _) (ea_cons (ed_var rfl (.int _)) ea_nil)) (by omega)) (fun i σ' H' => ∃ c es E, σ' = [some (.ref r), some (.int 4), some (.int 300), some (.int n), some (.int u), some (.int t), some (.ref p), some (.int ro), some (.int 1), some (.int k), c] ∧ H' p = some (.lst es) ∧ TpA H' es (E.map eE) ∧ (∀ e ∈ E, e.1 < e.2 ∧ e.2 < n) ∧ E.length ≤ 4 * k + i ∧ RowCell H' r a)
      (fun H6 s6 => ⟨c, es, E, rfl, s6 _ _ (s' _ _ hes), tes.mono (s'.trans s6), hE, by omega, hc.mono (s'.trans s6)⟩) (fun i2 x v2 σ2 H6 H7 N2 hi2 sx2 hσ2 s7 hv2 kk2 => ?_) fun σ2 H6 sx2 hσ2 => ?_
    · obtain ⟨c, es, E, rfl, hes, tes, hE, hlE, hc⟩ := hσ2
      obtain ⟨hx1, hx2⟩ := rgN_inv hi2
      have hv2' := hv2.int_inv
      subst hv2'
      refine gt_name _ ?_
      have hes7 := s7 _ _ hes
      have tes7 := tes.mono s7
      have hc7 := hc.mono s7
      have hR7 : RowOk K H7 r a ns := (hpH3 (fun _ => False) H7 (((sx.trans s'.sx).trans sx2).trans s7.sx) hc7).2
      have skip : ∀ H8 c', SX (MR r) H7 H8 → RowCell H8 r a → N2 [some (.ref r), some (.int 4), some (.int 300), some (.int n), some (.int u), some (.int t), some (.ref p), some (.int ro), some (.int 1), some (.int k), c'] H8 := fun H8 c' s8 hc8 => kk2 _ _ (s7.sx.trans (s8.sub fun b hb => .inl hb)) ⟨c', es, E, rfl, s8.1 _ _ (fun z => hprn z.symm) hes7, tes7.kt s8.2, hE, by omega, hc8⟩
      refine ed_i0 (d := .bool (decide (u < 4))) (ed_var rfl (.int u)) ed_int (fun _ => .bl _) H7 (Same.refl _) _ fun vb H8 s8 hvb => ?_
      cases hvb
      refine ⟨_, rfl, ?_⟩
      by_cases hu : u < 4
      · rw [decide_eq_true hu]
        refine iteT ?_
        refine tk_run rfl (hR7.mono s8) (ed_var rfl (.int t)) (by omega) (by omega) fun x9 H9 a9 b9 sx9 hR9 => ?_
        refine ⟨rfl, _, rfl, ?_⟩
        have sx79 := s8.sx.trans sx9
        by_cases hz : V.int x9 = V.int 0
        · rw [decide_eq_true hz]
          refine iteT ?_
          have hp9 := sx79.1 _ _ (fun z => hprn z.symm) hes7
          refine s_app hp9 (ev_var rfl) (d := eE (k, k + 1 + i2)) (ed_is (ed_tup (ea_cons (ed_var rfl (.int k)) (ea_cons (ed_var rfl (.int x)) ea_nil)) (by show 2 ≤ 100000; omega)) ?_) (sz_lt ?_) fun v10 H10 s10 hv10 => ?_
          · rw [hx2]
            rfl
          · have e := tes.length
            rw [List.length_map] at e
            omega
          · have px : SX (fun b => b = r ∨ b = p) H10 (upd H10 p (.lst (es ++ [v10]))) := SX.put (.inr rfl) (s10 _ _ hp9)
            refine kk2 _ _ (((s7.sx.trans (sx79.sub fun b hb => .inl hb)).trans s10.sx).trans px) ⟨_, _, E ++ [(k, k + 1 + i2)], rfl, upd_same, ?_, ?_, ?_, (hR9.1.mono s10).put hprn⟩
            · rw [List.map_append]
              exact (((tes7.kt sx79.2).mono s10).app (.cons hv10 .nil)).kt px.2
            · intro e he
              rcases List.mem_append.mp he with z | z
              · exact hE e z
              · rw [List.mem_singleton.mp z]
                refine ⟨?_, ?_⟩
                · show k < k + 1 + i2
                  omega
                · show k + 1 + i2 < n
                  omega
            · rw [List.length_append]
              show _ + 1 ≤ _
              omega
        · rw [decide_eq_false hz]
          exact iteF (skip H9 _ sx79 hR9.1)
      · rw [decide_eq_false hu]
        exact iteF (iteF (skip H8 _ s8.sx (hc7.mono s8)))
    · obtain ⟨c, es, E, rfl, hes, tes, hE, hlE, hc⟩ := hσ2
      rw [rgN_length] at hlE
      exact kk _ _ (s'.sx.trans sx2) ⟨_, _, es, E, rfl, hes, tes, hE, by omega, hc⟩
  · obtain ⟨b, c, es, E, rfl, hes, tes, hE, hlE, hc⟩ := hσ
    rw [List.length_range] at hlE
    obtain ⟨sx6, hR6⟩ := hpH3 (fun _ => False) H' sx hc
    refine z_ifP (b := decide (u = 4)) (fun σ' H' => ∃ p b c es E, σ' = [some (.ref r), some (.int 4), some (.int 300), some (.int n), some (.int u), some (.int t), some (.ref p), some (.int ro), some (.int 1), b, c] ∧ H' p = some (.lst es) ∧ TpA H' es (E.map eE) ∧ (∀ e ∈ E, e.1 < e.2 ∧ e.2 < n) ∧ E.length ≤ 16 ∧ SX (MR r) H H' ∧ RowOk K H' r a ns) (eb_test (ed_eqI (ed_var rfl (.int u)) ed_int)) (fun fin _ H7 s7 => ?_) (fun fin _ H7 s7 => fin _ _ ⟨p, b, c, es, E, rfl, s7 _ _ hes, tes.mono s7, hE, by omega, sx6.trans s7.sx, hR6.mono s7⟩) fun σ7 H7 hσ7 => ?_
    · refine s_asgL (el_lcY (src_rn (n := n - 1) (ea_cons (ed_is (ed_i0 (ed_var rfl (.int _)) ed_int fun _ => .int _) (by show PyData.int ((n : Int) - 1) = .int ((n - 1 : Nat) : Int); congr 1; omega)) ea_nil) (by omega)) (fun k => eE (k, k + 1)) (by rw [List.length_range]; omega) fun k v H8 hk s8 hv => ⟨_, gt_name, rfl, ?_⟩) fun p8 xs8 H8 hp8 s8 hp8' t8 => ?_
      · exact ed_is (ed_tup (ea_cons (ed_var rfl hv) (ea_cons (ed_i0 (ed_var rfl hv) ed_int fun _ => .int _) ea_nil)) (by show 2 ≤ 100000; omega)) rfl
      · refine fin _ _ ⟨p8, b, c, xs8, (List.range (n - 1)).map (fun k => (k, k + 1)), rfl, hp8', ?_, ?_, ?_, (sx6.trans s7.sx).trans s8.sx, (hR6.mono s7).mono s8⟩
        · rw [List.map_map]
          exact t8
        · intro e he
          obtain ⟨k, hk, rfl⟩ := List.mem_map.mp he
          have := List.mem_range.mp hk
          exact ⟨by show k < k + 1; omega, by show k + 1 < n; omega⟩
        · rw [List.length_map, List.length_range]
          omega
    clear hpH3 hR6 sx6 hc hlE hE tes hes sx
    obtain ⟨p, b, c, es, E, rfl, hes, tes, hE, hlE, sx7, hR7⟩ := hσ7
    refine z_ifP (b := decide (u = 5)) (fun σ' H' => ∃ p b c es E, σ' = [some (.ref r), some (.int 4), some (.int 300), some (.int n), some (.int u), some (.int t), some (.ref p), some (.int ro), some (.int 1), b, c] ∧ H' p = some (.lst es) ∧ TpA H' es (E.map eE) ∧ (∀ e ∈ E, e.1 < e.2 ∧ e.2 < n) ∧ E.length ≤ 16 ∧ SX (MR r) H H' ∧ RowOk K H' r a ns) (eb_test (ed_eqI (ed_var rfl (.int u)) ed_int)) (fun fin _ H8 s8 => ?_) (fun fin _ H8 s8 => fin _ _ ⟨p, b, c, es, E, rfl, s8 _ _ hes, tes.mono s8, hE, by omega, sx7.trans s8.sx, hR7.mono s8⟩) fun σ8 H8 hσ8 => ?_
    · refine lc_draw (bs := rgN 1 ((n : Int) - 1).toNat) (enc := .int) (src_r2 (a := 1) (b := (n : Int)) (ea_cons ed_int (ea_cons (ed_var rfl (.int _)) ea_nil)) (by omega)) (hR7.mono s8) (fun d => ∃ e : Edge, d = eE e ∧ (e.1 < e.2 ∧ e.2 < n)) (by rw [rgN_length]; omega) (fun x v H9 hx sx9 hR9 hv => ⟨_, gt_name, rfl, fun Q9 q9 => ?_⟩) fun p9 xs9 ds9 H9 hp9 sx9 hR9 hp9' t9 hC9 hl9 => ?_
      · have hx' : 1 ≤ x ∧ x < (n : Int) := by
          obtain ⟨k, hk, rfl⟩ := List.mem_map.mp hx
          have := List.mem_range.mp hk
          omega
        have hv' := hv.int_inv
        subst hv'
        refine tk_run rfl hR9 (ed_var rfl (.int x)) (by omega) (by omega) fun y H10 a10 b10 sx10 hR10 => ?_
        refine ⟨_, rfl, ?_⟩
        refine ⟨by show 2 ≤ sizeLine; decide, fun p11 hp11 => q9 _ (.tuple [.int y, .int x]) _ ⟨(y.toNat, x.toNat), ?_, ?_, ?_⟩ (.tup upd_same (.cons (.int _) (.cons (.int _) .nil))) (sx10.trans (same_new hp11 _).sx) (hR10.mono (same_new hp11 _))⟩
        · show PyData.tuple [.int y, .int x] = .tuple [.int (y.toNat : Int), .int (x.toNat : Int)]
          rw [Int.toNat_of_nonneg a10, Int.toNat_of_nonneg (by omega)]
        · show y.toNat < x.toNat
          omega
        · show x.toNat < n
          omega
      · obtain ⟨E9, rfl, hE9⟩ := encs_of hC9
        refine fin _ _ ⟨p9, b, c, xs9, E9, rfl, hp9', t9, hE9, ?_, (sx7.trans s8.sx).trans sx9, hR9⟩
        rw [List.length_map, rgN_length] at hl9
        omega
    clear hR7 sx7 hlE hE tes hes
    obtain ⟨p, b, c, es, E, rfl, hes, tes, hE, hlE, sx8, hR8⟩ := hσ8
    refine ⟨fun m σ' H' => ∃ ro : Int, m = ro.toNat ∧ 1 ≤ ro ∧ ro ≤ 5 ∧ σ' = [some (.ref r), some (.int 4), some (.int 300), some (.int n), some (.int u), some (.int t), some (.ref p), some (.int ro), some (.int 1), b, c] ∧ Same H8 H', ⟨ro.toNat, ro, rfl, ro1, ro5, rfl, Same.refl _⟩, fun m σ' H9 hw => ?_⟩
    obtain ⟨rr, rfl, r1, r5, rfl, s9⟩ := hw
    refine eb_and (eb_test (ed_i0 (d := .bool (decide ((1 : Int) < rr))) (ed_var rfl (.int rr)) ed_int fun _ => .bl _)) (fun g1 => eb_test (ed_i0 (d := .bool (decide ((300 : Int) < (rr + 1) ^ n))) (ed_call (dom := dm_law_many) (ea_cons (ed_var rfl (.int rr)) (ea_cons (ed_var rfl (.int _)) ea_nil)) ⟨rr, n, rfl, by omega, by omega, by omega, rfl⟩) (ed_var rfl (.int 300)) fun _ => .bl _)) H9 (Same.refl _) _ fun H10 s10 => ?_
    refine ite2 (fun hb => ?_) fun hb => ?_
    · have h1 := (Bool.and_eq_true _ _).mp hb
      have hlt := of_decide_eq_true h1.1
      refine ⟨fun σ' H' => ∃ ro : Int, ro = rr - 1 ∧ σ' = [some (.ref r), some (.int 4), some (.int 300), some (.int n), some (.int u), some (.int t), some (.ref p), some (.int ro), some (.int 1), b, c] ∧ Same H8 H', fun σ' H' hN => ?_, ?_⟩
      · obtain ⟨ro', rfl, rfl, ss⟩ := hN
        exact ⟨(rr - 1).toNat, by omega, rr - 1, rfl, by omega, by omega, rfl, ss⟩
      · refine s_asgD (ed_i0 (ed_var rfl (.int rr)) ed_int fun _ => .int _) fun v11 H11 s11 hv11 => ?_
        cases hv11
        exact ⟨_, rfl, rfl, (s9.trans s10).trans s11⟩
    · have s810 := s9.trans s10
      refine ⟨_, rfl, ?_⟩
      refine srt_run (n := n) (E := E) rfl (s810 _ _ hes) (tes.mono s810) hE (by omega) hn1 hn4 fun v11 E11 H11 ok hv11 s11 => ?_
      refine ⟨by show 2 ≤ sizeLine; decide, fun p12 hp12 => ?_⟩
      refine ⟨_, rfl, ?_⟩
      refine ⟨by show 2 ≤ sizeLine; decide, fun p13 hp13 => ?_⟩
      have s12 := same_new hp12 (HO.tup [V.int n, v11])
      have s13 := same_new hp13 (HO.tup [V.ref p12, V.int rr])
      have tot := ((s810.trans s11).trans s12).trans s13
      exact q _ n E11 rr _ ok r1 r5 (sx8.trans tot.sx) (hR8.mono tot) (.tup upd_same (.cons (.tup (s13 _ _ upd_same) (.cons (.int _) (.cons ((hv11.mono s12).mono s13) .nil))) (.cons (.int _) .nil)))
end
end Lv

set_option Elab.async false
set_option linter.all false
set_option maxRecDepth 100000
set_option maxHeartbeats 1000000
/-! the plain law: legal deeds, what keeps Comes -/
namespace Lv
def Adj (E : List Edge) (a b : Nat) : Prop := (a, b) ∈ E ∨ (b, a) ∈ E
theorem Adj.symm {E : List Edge} {a b : Nat} (h : Adj E a b) : Adj E b a := h.elim .inr .inl
theorem Adj.lt {n : Nat} {E : List Edge} (ok : WebOk n E) {a b : Nat} (h : Adj E a b) : a < n ∧ b < n ∧ a ≠ b := by
  rcases h with h | h
  · have := ok.ed _ h
    simp only at this
    omega
  · have := ok.ed _ h
    simp only at this
    omega
theorem mem_besL {n : Nat} {E : List Edge} (ok : WebOk n E) {j k : Nat} : j ∈ besL n E k ↔ Adj E j k := by
  unfold besL
  rw [List.mem_filter, List.mem_range, Bool.or_eq_true, List.contains_iff_mem, List.contains_iff_mem]
  exact ⟨fun h => h.2, fun h => ⟨(Adj.lt ok h).1, h⟩⟩
theorem mem_besIn {E : List Edge} {j k : Nat} : j ∈ besIn E k ↔ Adj E j k := by
  unfold besIn
  rw [List.mem_append, List.mem_map, List.mem_map]
  constructor
  · rintro (⟨e, he, rfl⟩ | ⟨e, he, rfl⟩)
    · obtain ⟨h1, h2⟩ := List.mem_filter.mp he
      have h2 := of_decide_eq_true h2
      refine .inl ?_
      rw [← h2]
      exact h1
    · obtain ⟨h1, h2⟩ := List.mem_filter.mp he
      have h2 := of_decide_eq_true h2
      refine .inr ?_
      rw [← h2]
      exact h1
  · rintro (h | h)
    · exact .inl ⟨(j, k), List.mem_filter.mpr ⟨h, decide_eq_true rfl⟩, rfl⟩
    · exact .inr ⟨(k, j), List.mem_filter.mpr ⟨h, decide_eq_true rfl⟩, rfl⟩
theorem upL_iff {n : Nat} {E : List Edge} (ok : WebOk n E) {r : Int} {h : Hts} {k : Nat} : upL n E r h k = true ↔ ht h k < r ∧ ∀ j, Adj E j k → ht h k ≤ ht h j := by
  unfold upL
  rw [Bool.and_eq_true, decide_eq_true_eq, List.all_eq_true]
  exact ⟨fun ⟨a, b⟩ => ⟨a, fun j hj => of_decide_eq_true (b j ((mem_besL ok).mpr hj))⟩, fun ⟨a, b⟩ => ⟨a, fun j hj => decide_eq_true (b j ((mem_besL ok).mp hj))⟩⟩
theorem downL_iff {n : Nat} {E : List Edge} (ok : WebOk n E) {h : Hts} {k : Nat} : downL n E h k = true ↔ 0 < ht h k ∧ ∀ j, Adj E j k → ht h j ≤ ht h k := by
  unfold downL
  rw [Bool.and_eq_true, decide_eq_true_eq, List.all_eq_true]
  exact ⟨fun ⟨a, b⟩ => ⟨a, fun j hj => of_decide_eq_true (b j ((mem_besL ok).mpr hj))⟩, fun ⟨a, b⟩ => ⟨a, fun j hj => decide_eq_true (b j ((mem_besL ok).mp hj))⟩⟩
theorem isEmpty_filter {α : Type} (p : α → Bool) (l : List α) : (l.filter p).isEmpty = true ↔ ∀ x ∈ l, p x = false := by
  rw [List.isEmpty_iff, List.filter_eq_nil_iff]
  exact ⟨fun h x hx => by have := h x hx; cases e : p x <;> simp_all, fun h x hx => by rw [h x hx]; decide⟩
theorem raiseIn_eq {n : Nat} {E : List Edge} (ok : WebOk n E) (r : Int) (h : Hts) : raiseIn n E r h = (List.range n).filter (upL n E r h) := by
  unfold raiseIn
  apply List.filter_congr
  intro p _
  rw [Bool.eq_iff_iff, upL_iff ok, Bool.and_eq_true, decide_eq_true_eq, isEmpty_filter]
  constructor
  · rintro ⟨a, b⟩
    refine ⟨a, fun j hj => ?_⟩
    have := of_decide_eq_false (b j (mem_besIn.mpr hj))
    omega
  · rintro ⟨a, b⟩
    refine ⟨a, fun j hj => decide_eq_false ?_⟩
    have := b j (mem_besIn.mp hj)
    omega
theorem lowerIn_eq {n : Nat} {E : List Edge} (ok : WebOk n E) (h : Hts) : lowerIn n E h = (List.range n).filter (downL n E h) := by
  unfold lowerIn
  apply List.filter_congr
  intro p _
  rw [Bool.eq_iff_iff, downL_iff ok, Bool.and_eq_true, decide_eq_true_eq, isEmpty_filter]
  constructor
  · rintro ⟨a, b⟩
    refine ⟨a, fun j hj => ?_⟩
    have := of_decide_eq_false (b j (mem_besIn.mpr hj))
    omega
  · rintro ⟨a, b⟩
    refine ⟨a, fun j hj => decide_eq_false ?_⟩
    have := b j (mem_besIn.mp hj)
    omega
theorem doable_eq {n : Nat} {E : List Edge} (ok : WebOk n E) (r : Int) (h : Hts) : doableM n E r h = deedsL n E r h := by
  unfold doableM deedsL
  rw [raiseIn_eq ok, lowerIn_eq ok]
/-- deeds, up and down -/
theorem mem_deedsL {n : Nat} {E : List Edge} {r : Int} {h : Hts} {d : Deed} : d ∈ deedsL n E r h ↔ d.2 < n ∧ ((d.1 = true ∧ upL n E r h d.2 = true) ∨ (d.1 = false ∧ downL n E h d.2 = true)) := by
  unfold deedsL
  rw [List.mem_append, List.mem_map, List.mem_map]
  constructor
  · rintro (⟨k, hk, rfl⟩ | ⟨k, hk, rfl⟩)
    · obtain ⟨h1, h2⟩ := List.mem_filter.mp hk
      exact ⟨List.mem_range.mp h1, .inl ⟨rfl, h2⟩⟩
    · obtain ⟨h1, h2⟩ := List.mem_filter.mp hk
      exact ⟨List.mem_range.mp h1, .inr ⟨rfl, h2⟩⟩
  · obtain ⟨u, k⟩ := d
    rintro ⟨h1, ⟨h2, h3⟩ | ⟨h2, h3⟩⟩
    · simp only at h1 h2 h3
      subst h2
      exact .inl ⟨k, List.mem_filter.mpr ⟨List.mem_range.mpr h1, h3⟩, rfl⟩
    · simp only at h1 h2 h3
      subst h2
      exact .inr ⟨k, List.mem_filter.mpr ⟨List.mem_range.mpr h1, h3⟩, rfl⟩
theorem nodup_map {α β : Type} {f : α → β} (hf : ∀ a b, f a = f b → a = b) {l : List α} (h : l.Nodup) : (l.map f).Nodup := by
  unfold List.Nodup
  rw [List.pairwise_map]
  exact h.imp fun hn e => hn (hf _ _ e)
theorem deedsL_nodup {n : Nat} {E : List Edge} {r : Int} {h : Hts} : (deedsL n E r h).Nodup := by
  unfold deedsL
  rw [List.nodup_append]
  refine ⟨nodup_map (fun a b e => (Prod.mk.inj e).2) (List.nodup_range.filter _), nodup_map (fun a b e => (Prod.mk.inj e).2) (List.nodup_range.filter _), fun a ha b hb e => ?_⟩
  obtain ⟨k, _, rfl⟩ := List.mem_map.mp ha
  obtain ⟨k', _, rfl⟩ := List.mem_map.mp hb
  cases e
/-- heights behind a deed -/
theorem ht_chg {h : Hts} {d : Deed} (hd : d.2 < h.length) (j : Nat) : ht (chg h d) j = if j = d.2 then ht h d.2 + (if d.1 = true then 1 else -1) else ht h j := by
  unfold chg ht
  rw [List.getD_eq_getElem?_getD, List.getElem?_set, List.getD_eq_getElem?_getD]
  by_cases e : j = d.2
  · rw [if_pos e, if_pos e.symm, if_pos (by omega)]
    rfl
  · rw [if_neg e, if_neg (fun q => e q.symm), List.getD_eq_getElem?_getD]
theorem ht_same {h : Hts} {d : Deed} (hd : d.2 < h.length) : ht (chg h d) d.2 = ht h d.2 + (if d.1 = true then 1 else -1) := by rw [ht_chg hd, if_pos rfl]
theorem ht_other {h : Hts} {d : Deed} (hd : d.2 < h.length) {j : Nat} (hj : j ≠ d.2) : ht (chg h d) j = ht h j := by rw [ht_chg hd, if_neg hj]
theorem hts_ext {a b : Hts} (hl : a.length = b.length) (h : ∀ k, k < a.length → ht a k = ht b k) : a = b := by
  apply List.ext_getElem hl
  intro k h1 h2
  have := h k h1
  unfold ht at this
  rw [List.getD_eq_getElem?_getD, List.getD_eq_getElem?_getD, List.getElem?_eq_getElem h1, List.getElem?_eq_getElem h2] at this
  exact this
theorem HtOk.of {n : Nat} {r : Int} {h : Hts} (hl : h.length = n) (hk : ∀ k, k < n → 0 ≤ ht h k ∧ ht h k ≤ r) : HtOk n r h :=
  ⟨hl, fun x hx => by
    obtain ⟨k, hk1, rfl⟩ := List.getElem_of_mem hx
    have := hk k (by omega)
    have e := ht_get hk1
    rw [List.getElem?_eq_getElem hk1] at e
    rw [Option.some.inj e]
    exact this⟩
theorem chg_ok {n : Nat} {E : List Edge} {r : Int} {h : Hts} (ok : WebOk n E) (hh : HtOk n r h) {d : Deed} (hd : d ∈ deedsL n E r h) : HtOk n r (chg h d) := by
  obtain ⟨h1, h2⟩ := mem_deedsL.mp hd
  have hl : d.2 < h.length := by rw [hh.len]; exact h1
  refine HtOk.of (by rw [chg_length, hh.len]) fun k hk => ?_
  rw [ht_chg hl]
  have a := hh.at hk
  by_cases e : k = d.2
  · subst e
    rw [if_pos rfl]
    rcases h2 with ⟨e1, e2⟩ | ⟨e1, e2⟩
    · have := (upL_iff ok).mp e2
      rw [e1, if_pos rfl]
      omega
    · have := (downL_iff ok).mp e2
      rw [e1, if_neg (by decide)]
      omega
  · rw [if_neg e]
    exact a
/-- the least place -/
theorem least (f : Nat → Int) : ∀ n, 1 ≤ n → ∃ k, k < n ∧ ∀ j, j < n → f k ≤ f j
  | 0, h => absurd h (by decide)
  | 1, _ => ⟨0, by decide, fun j hj => by
      have e : j = 0 := by omega
      rw [e]
      exact Int.le_refl _⟩
  | n + 2, _ => by
    obtain ⟨k, h1, h2⟩ := least f (n + 1) (by omega)
    by_cases e : f k ≤ f (n + 1)
    · refine ⟨k, by omega, fun j hj => ?_⟩
      by_cases ej : j = n + 1
      · rw [ej]; exact e
      · exact h2 j (by omega)
    · refine ⟨n + 1, by omega, fun j hj => ?_⟩
      by_cases ej : j = n + 1
      · rw [ej]; exact Int.le_refl _
      · have := h2 j (by omega)
        omega
theorem deedsL_ne {n : Nat} {E : List Edge} {r : Int} {h : Hts} (ok : WebOk n E) (hr : 1 ≤ r) (hh : HtOk n r h) : deedsL n E r h ≠ [] := by
  obtain ⟨k, h1, h2⟩ := least (ht h) n ok.lo
  by_cases e : ht h k < r
  · have m : ((true, k) : Deed) ∈ deedsL n E r h := mem_deedsL.mpr ⟨h1, .inl ⟨rfl, (upL_iff ok).mpr ⟨e, fun j hj => h2 j (Adj.lt ok hj).1⟩⟩⟩
    intro z
    rw [z] at m
    cases m
  · have a := hh.at h1
    have m : ((false, k) : Deed) ∈ deedsL n E r h := mem_deedsL.mpr ⟨h1, .inr ⟨rfl, (downL_iff ok).mpr ⟨by show 0 < ht h k; omega, fun j hj => by
      have b := hh.at (Adj.lt ok hj).1
      show ht h j ≤ ht h k
      omega⟩⟩⟩
    intro z
    rw [z] at m
    cases m
theorem comes_iff {E : List Edge} {one h : Hts} : Comes E one h ↔ ∀ a b, Adj E a b → ht h b - ht h a ≥ 2 → ht one a ≤ ht h a ∧ ht h b ≤ ht one b := by
  constructor
  · intro c a b hab hs
    refine c (a, b) (List.mem_filterMap.mpr ?_)
    rcases hab with m | m
    · exact ⟨(a, b), m, by simp only; rw [if_pos hs]⟩
    · refine ⟨(b, a), m, ?_⟩
      simp only
      rw [if_neg (by omega), if_pos hs]
  · intro c e he
    obtain ⟨q, hq, eq⟩ := List.mem_filterMap.mp he
    by_cases h1 : ht h q.2 - ht h q.1 ≥ 2
    · rw [if_pos h1] at eq
      cases eq
      exact c _ _ (.inl hq) h1
    · rw [if_neg h1] at eq
      by_cases h2 : ht h q.1 - ht h q.2 ≥ 2
      · rw [if_pos h2] at eq
        cases eq
        exact c _ _ (.inr hq) h2
      · rw [if_neg h2] at eq
        cases eq
theorem comes_self {E : List Edge} {h : Hts} : Comes E h h := comes_iff.mpr fun _ _ _ _ => ⟨Int.le_refl _, Int.le_refl _⟩
theorem comes_chg {n : Nat} {E : List Edge} {r : Int} {one h : Hts} (ok : WebOk n E) (hl : h.length = n) (c : Comes E one h) {d : Deed} (hd : d ∈ deedsL n E r h) : Comes E one (chg h d) := by
  rw [comes_iff] at c ⊢
  intro a b hab hs
  obtain ⟨h1, h2⟩ := mem_deedsL.mp hd
  have hdl : d.2 < h.length := by omega
  have hne := (Adj.lt ok hab).2.2
  rw [ht_chg hdl a, ht_chg hdl b] at hs ⊢
  have cc := c a b hab
  rcases h2 with ⟨e1, e2⟩ | ⟨e1, e2⟩
  · have u := ((upL_iff ok).mp e2).2
    rw [e1, if_pos rfl] at hs ⊢
    by_cases ea : a = d.2
    · have eb : b ≠ d.2 := fun z => hne (by rw [ea, z])
      rw [if_pos ea, if_neg eb] at hs ⊢
      subst ea
      have := cc (by omega)
      omega
    · rw [if_neg ea] at hs ⊢
      by_cases eb : b = d.2
      · rw [if_pos eb] at hs ⊢
        subst eb
        have := u a hab
        omega
      · rw [if_neg eb] at hs ⊢
        exact cc hs
  · have u := ((downL_iff ok).mp e2).2
    rw [e1, if_neg (show ¬ (false = true) by decide)] at hs ⊢
    by_cases ea : a = d.2
    · have eb : b ≠ d.2 := fun z => hne (by rw [ea, z])
      rw [if_pos ea, if_neg eb] at hs ⊢
      subst ea
      have := u b hab.symm
      omega
    · rw [if_neg ea] at hs ⊢
      by_cases eb : b = d.2
      · rw [if_pos eb] at hs ⊢
        subst eb
        have := cc (by omega)
        omega
      · rw [if_neg eb] at hs ⊢
        exact cc hs
end Lv

set_option Elab.async false
set_option linter.all false
set_option maxRecDepth 100000
set_option maxHeartbeats 4000000
namespace Lv
open PySem PySem.Spec L2
open PyProof.Rows (envOfC)
section
variable {P : Program} {w : World} {K : PySem.W.Frag} {mg : Str → Option Value} {base : Heap} {σ : L2.St} {H H' H1 H2 : Hp} {te : TE} {r a : Addr} {ns : List Int}
/-- an int that is drawn -/
def EW (K : PySem.W.Frag) (r a : Addr) (ns : List Int) (te : TE) (σ : L2.St) (H : Hp) (C : Int → Prop) : Prop := ∀ Q : VK, (∀ z H', C z → SX (MR r) H H' → RowOk K H' r a ns → Q (.int z) H') → te σ H Q
theorem ew_if {t : TT} {ta tb : TE} {b : Bool} {C : Int → Prop} (h : EB t σ H b) (h1 : b = true → ∀ H1, Same H H1 → EW K r a ns ta σ H1 C) (h2 : b = false → ∀ H1, Same H H1 → EW K r a ns tb σ H1 C) : EW K r a ns (tIf t ta tb) σ H C := fun Q q => h H (Same.refl _) _ fun H1 s1 => by
  cases b with
  | true => exact iteT (h1 rfl H1 s1 Q fun z H' c s hr => q z H' c (s1.sx.trans s) hr)
  | false => exact iteF (h2 rfl H1 s1 Q fun z H' c s hr => q z H' c (s1.sx.trans s) hr)
theorem ew_tk {i : Nat} {m : Int} (hi : σ[i]? = some (some (.ref r))) (hR : RowOk K H r a ns) (he : ED te σ H (.int m)) (h1 : 1 ≤ m) (h2 : m < 1000) : EW K r a ns (tCall (spTaken K) [] E0 (tCons (tVar i) (tCons te tNil))) σ H (fun z => 0 ≤ z ∧ z < m) := fun Q q =>
  tk_run hi hR he h1 h2 fun v H' a1 b1 s hr => q v H' ⟨a1, b1⟩ s hr
theorem ew_ed {C : Int → Prop} {z : Int} (hR : RowOk K H r a ns) (h : ED te σ H (.int z)) (c : C z) : EW K r a ns te σ H C := fun Q q => h H (Same.refl _) _ fun v H1 s1 hv => by
  cases hv
  exact q z H1 c s1.sx (hR.mono s1)
theorem EW.sub {C C' : Int → Prop} (h : EW K r a ns te σ H C) (s : ∀ z, C z → C' z) : EW K r a ns te σ H C' := fun Q q => h Q fun z H' c => q z H' (s z c)
theorem s_appW {ta : TE} {C : Int → Prop} {D : Ends} {l : Addr} {xs : List V} (hl : H l = some (.lst xs)) (hn : l ≠ r) (ha : EV ta σ H (.ref l)) (h : ∀ H1, Same H H1 → EW K r a ns te σ H1 C) (hz : xs.length < sizeLine) (k : ∀ z H1, C z → SX (MR r) H H1 → RowOk K H1 r a ns → D.nx σ (upd H1 l (.lst (xs ++ [.int z])))) :
    tDrop (tBM K "list" rAppend ta (tCons te tNil)) D σ H := ha H (Same.refl H) _ fun H1 e1 =>
  ⟨Or.inl ⟨rfl, xs, .inl (.inl (e1 l _ hl))⟩, h H1 e1 _ fun z H2 c s2 hr => ⟨l, xs, .int z, rfl, rfl, s2.1 l _ hn (e1 l _ hl), hz, k z H2 c (e1.sx.trans s2) hr⟩⟩
theorem atI_last {α : Type} : ∀ (xs : List α), xs ≠ [] → ∃ x, x ∈ xs ∧ atI xs (-1) = some x := fun xs hx => by
  have hl : 0 < xs.length := List.length_pos_iff.mpr hx
  refine ⟨xs[xs.length - 1]'(by omega), List.getElem_mem _, ?_⟩
  unfold atI ixN
  rw [if_neg (by decide), if_pos (by omega)]
  show xs[(-1 + (xs.length : Int)).toNat]? = _
  rw [show (-1 + (xs.length : Int)).toNat = xs.length - 1 by omega]
  exact List.getElem?_eq_getElem _
/-! ### _law_heights -/
def spHeights (K : PySem.W.Frag) : Sp := fun vs H Q _ => ∃ (r a : Addr) (ns : List Int) (n : Nat) (roof : Int), vs = [.ref r, .int n, .int roof] ∧ RowOk K H r a ns ∧ n ≤ 9 ∧ 1 ≤ roof ∧ roof ≤ 9 ∧ ∀ v h H', HtOk n roof h → SX (MR r) H H' → RowOk K H' r a ns → Tp H' v (eH h) → Q v H'
theorem ok_law_heights (T : Tx K mg) (G_law_taken : Fnx P w K mg base 1 "_law_taken" ["_law_row", "_law_many_here"] (spTaken K)) : Fnx P w K mg base 2 "_law_heights" ["_law_row", "_law_many_here", "_law_roof"] (spHeights K) := by
  refine fnx T.d_law_heights sc_law_heights (fun _ _ _ _ _ _ us hl => match us, hl with | [_, _, _], _ => rfl) (fun vs H Q E h => by obtain ⟨r, a, ns, n, roof, rfl, _⟩ := h; rfl) fun f cdv A outer s H vs Q E' hr h => ?_
  obtain ⟨r, a, ns, n, roof, rfl, hR, hn, r1, r9, q⟩ := h
  refine ⟨_, (pss_cons (ps_par (i := 3) (j := 4) (by rfl) sc_law_heights.nd rfl rfl (by decide) rfl rfl (pa_cons (pe_cf G_law_taken (hr.mono (by decide)) rfl (pa_cons (pv 0) (pa_cons pe_int pa_nil))) (pa_cons (pe_lst pa_nil) pa_nil)) (by rfl))
      (pss_cons (ps_for PassesOwn.never rfl (pi_range1 rfl T.b_range (pa_cons (pv 1) pa_nil)) (pg_name (i := 5) sc_law_heights.nd rfl (Or.inl rfl)) (pss_cons (ps_set (i := 6) sc_law_heights.nd rfl (Or.inl rfl) (pe_ifExp (pt_cmpR (r := rNeD K) (op_neD hr.units) (pv 4) (pe_lst pa_nil) (nomark _)) (pe_op op_sub (pe_op op_add (pe_ix (r := rIxL K) ix_list (pv 4) (pe_un un_neg pe_int) (fun _ _ => rfl)) (pe_cf G_law_taken (hr.mono (by decide)) rfl (pa_cons (pv 0) (pa_cons pe_int pa_nil)))) pe_int) (pe_cf G_law_taken (hr.mono (by decide)) rfl (pa_cons (pv 0) (pa_cons (pe_op op_add (pv 2) pe_int) pa_nil)))))
      (pss_one (ps_expr (pe_bm PySem.F.plainAttrs_list PySem.F.slot_list_append PySem.F.type_list_append mt_append (pv 4) (pa_cons (pe_ifExp (pt_cmpR op_eq (pv 3) pe_int (nomark _)) (pe_callB (call_max2 rfl) rfl T.b_max (by decide +kernel) (pa_cons pe_int (pa_cons (pe_callB (call_min2 rfl) rfl T.b_min (by decide +kernel) (pa_cons (pv 2) (pa_cons (pv 6) pa_nil))) pa_nil))) (pe_cf G_law_taken (hr.mono (by decide)) rfl (pa_cons (pv 0) (pa_cons (pe_op op_add (pv 2) pe_int) pa_nil)))) pa_nil))))))
      (pss_one (ps_ret (pe_callTy call_tuple_of rfl T.b_tuple (by decide +kernel) (pa_cons (pv 4) pa_nil)))))), ?_⟩
  refine z_par ?_
  refine tk_run rfl hR ed_int (by decide) (by decide) fun way H1 a1 b1 sx1 hR1 => ?_
  refine ⟨by show 0 ≤ sizeLine; decide, fun p hp => ?_⟩
  refine ⟨_, _, rfl, ?_⟩
  have sp : Same H1 (upd H1 p (.lst [])) := same_new hp _
  have hrp : r ≠ p := fun z => by
    obtain ⟨o, ho⟩ := hR1.1.some
    rw [z, hp] at ho
    cases ho
  have hp2 : (upd H1 p (.lst [])) p = some (.lst []) := upd_same
  have hR2 := hR1.mono sp
  have hfr : ∀ H', SX (fun b => b = r ∨ b = p) (upd H1 p (.lst [])) H' → RowCell H' r a → SX (MR r) H H' ∧ RowOk K H' r a ns := fun H' sx hc => by
    have base3 : SX (fun b => b = r ∨ b = p) H1 H' := sp.sx.trans sx
    have s1 : SX (MR r) H1 H' := ⟨(fun b o nb e => base3.1 b o (fun z => by
      rcases z with z | z
      · exact nb z
      · rw [z, hp] at e
        cases e) e), base3.2⟩
    exact ⟨sx1.trans s1, hR1.frame s1 (fun b hb => .inl hb) hc⟩
  revert hp2 hR2 hfr
  generalize upd H1 p (.lst []) = H2
  intro hp2 hR2 hfr
  refine z_for (fun b => b = r ∨ b = p) (src_rn (n := n) (ea_cons (ed_var rfl (.int _)) ea_nil) (by omega)) (fun i σ' H' => ∃ b c es hs, σ' = [some (.ref r), some (.int n), some (.int roof), some (.int way), some (.ref p), b, c] ∧ H' p = some (.lst es) ∧ TpA H' es (hs.map .int) ∧ hs.length = i ∧ (∀ x ∈ hs, 0 ≤ x ∧ x ≤ roof) ∧ RowCell H' r a)
    (fun H6 s6 => ⟨none, none, [], [], rfl, s6 _ _ hp2, .nil, rfl, (fun _ z => nomatch z), hR2.1.mono s6⟩) (fun i k v σ' H' H'' N hi sx hσ s' hv kk => ?_) fun σ' H' sx hσ => ?_
  · obtain ⟨b, c, es, hs, rfl, hes, tes, hlen, hin, hc⟩ := hσ
    have hi9 : i < 9 := by
      have := (List.getElem?_eq_some_iff.mp hi).1
      rw [List.length_range] at this
      omega
    have hes1 := s' _ _ hes
    have tes1 := tes.mono s'
    have hR3 : RowOk K H'' r a ns := (hfr H'' (sx.trans s'.sx) (hc.mono s')).2
    refine gt_name _ ?_
    have e1 : EW K r a ns _ _ H'' (fun _ => True) := ew_if (K := K) (r := r) (a := a) (ns := ns) (H := H'') (σ := [some (.ref r), some (.int n), some (.int roof), some (.int way), some (.ref p), some v, c]) (eb_test (ed_neNil (K := K) (ev_var (i := 4) rfl) hes1 tes1 (shaped_lst (fun _ => rfl) (n := 0) (fun _ => Nat.zero_le _) (by decide) hs) (el_lst ea_nil (by decide))))
      (ta := tOp (rI0 fun i j => .int (i - j)) (tOp (rI0 fun i j => .int (i + j)) (tOp (rIxL K) (tVar 4) (tUn (rU fun i => .int (-i)) (tC (.int 1)))) (tCall (spTaken K) [] E0 (tCons (tVar 0) (tCons (tC (.int 5)) tNil)))) (tC (.int 2)))
      (tb := tCall (spTaken K) [] E0 (tCons (tVar 0) (tCons (tOp (rI0 fun i j => .int (i + j)) (tVar 2) (tC (.int 1))) tNil)))
      (fun hb H3 s3 => fun Q q => ?_) fun hb H3 s3 => (ew_tk rfl (hR3.mono s3) (ed_i0 (ed_var rfl (.int roof)) ed_int fun _ => .int _) (by omega) (by omega)).sub fun _ _ => trivial
    · refine e1 _ fun z H3 _ sx3 hR3' => ?_
      have hp3 := sx3.1 _ _ (fun z => hrp z.symm) hes1
      refine s_appW (K := K) (a := a) (ns := ns) (C := fun z => 0 ≤ z ∧ z ≤ roof) hp3 (fun z => hrp z.symm) (ev_var rfl) (fun H4 s4 => ?_) (sz_lt ?_) fun z2 H4 hz2 sx4 hR4 => ?_
      · refine ew_if (b := decide (way = 0)) (eb_test (ed_eqI (ed_var rfl (.int way)) ed_int)) (fun _ H5 s5 => ew_ed ((hR3'.mono s4).mono s5) (ed_max2 ed_int (ed_min2 (ed_var rfl (.int roof)) (ed_var rfl (.int z)))) ?_) fun _ H5 s5 => (ew_tk rfl ((hR3'.mono s4).mono s5) (ed_i0 (ed_var rfl (.int roof)) ed_int fun _ => .int _) (by omega) (by omega)).sub fun z hz => ⟨hz.1, by omega⟩
        refine ⟨?_, ?_⟩
        · split <;> omega
        · split <;> split <;> omega
      · have := tes.length
        rw [List.length_map] at this
        omega
      · have px : SX (fun b => b = r ∨ b = p) H4 (upd H4 p (.lst (es ++ [V.int z2]))) := SX.put (.inr rfl) (sx4.1 _ _ (fun z => hrp z.symm) hp3)
        have s34 := sx3.trans sx4
        refine kk _ _ ((s'.sx.trans (s34.sub fun b hb => .inl hb)).trans px) ⟨_, _, _, hs ++ [z2], rfl, upd_same, ?_, ?_, ?_, hR4.1.put hrp⟩
        · rw [List.map_append]
          exact ((tes1.kt s34.2).app (.cons (.int _) .nil)).kt px.2
        · rw [List.length_append, hlen]
          rfl
        · intro x hx
          rcases List.mem_append.mp hx with y | y
          · exact hin x y
          · rw [List.mem_singleton.mp y]
            exact hz2
    · have hne : hs ≠ [] := fun z => by
        rw [z] at hb
        cases hb
      obtain ⟨x, hx, hat⟩ := atI_last (hs.map PyData.int) (by simpa using hne)
      obtain ⟨x0, _, rfl⟩ := List.mem_map.mp hx
      refine ed_ixL (K := K) (d := .int x0) (ev_var rfl) (ed_neg ed_int) (s3 _ _ hes1) (tes1.mono s3) hat H3 (Same.refl _) _ fun v4 H4 s4 hv4 => ?_
      cases hv4
      refine tk_run rfl ((hR3.mono s3).mono s4) ed_int (by decide) (by decide) fun y H5 a5 b5 sx5 hR5 => ?_
      refine i0_run (v := .int (x0 + y)) rfl ?_
      refine i0_run (v := .int (x0 + y - 2)) rfl ?_
      exact q _ H5 trivial (s4.sx.trans sx5) hR5
  · obtain ⟨b, c, es, hs, rfl, hes, tes, hlen, hin, hc⟩ := hσ
    rw [List.length_range] at hlen
    obtain ⟨sx6, hR6⟩ := hfr H' sx hc
    exact s_retD (ed_tupV (ev_var rfl) hes tes) fun v H3 s3 hv => q v hs H3 ⟨hlen, hin⟩ (sx6.trans s3.sx) (hR6.mono s3) hv
/-! ### _law_reached -/
def spReached (K : PySem.W.Frag) : Sp := fun vs H Q _ => ∃ (r a : Addr) (ns : List Int) (n : Nat) (E : List Edge) (roof : Int) (one : Hts) (x y : V), vs = [.ref r, x, .int roof, y, .int 7] ∧ RowOk K H r a ns ∧ Tp H x (eW n E) ∧ Tp H y (eH one) ∧ WebOk n E ∧ 1 ≤ roof ∧ HtOk n roof one ∧ offM one one ≤ 7 ∧
  ∀ v other H', HtOk n roof other → Comes E one other → offM one other ≤ 7 → SX (MR r) H H' → RowOk K H' r a ns → Tp H' v (eH other) → Q v H'
theorem ok_law_reached (T : Tx K mg) (G_law_pick : Fnx P w K mg base 2 "_law_pick" ["_law_row", "_law_things"] (spPick K)) (G_law_after : Fnx P w K mg base 3 "_law_after" ["_law_web", "_law_roof", "_law_heights_here"] (spL dm_law_after)) (G_law_off : Fnx P w K mg base 1 "_law_off" ["_law_one", "_law_other"] (spD dm_law_off)) : Fnx P w K mg base 4 "_law_reached" ["_law_row", "_law_web", "_law_roof", "_law_one", "_law_most"] (spReached K) := by
  refine fnx T.d_law_reached sc_law_reached (fun _ _ _ _ _ _ us hl => match us, hl with | [_, _, _, _, _], _ => rfl) (fun vs H Q E h => by obtain ⟨r, a, ns, n, E, roof, one, x, y, rfl, _⟩ := h; rfl) fun f cdv A outer s H vs Q E' hr h => ?_
  obtain ⟨r, a, ns, n, E, roof, one, x, y, rfl, hR, hx, hy, ok, r1, h1, off0, q⟩ := h
  refine ⟨_, (pss_cons (ps_set (i := 5) sc_law_reached.nd rfl (Or.inl rfl) (pv 3))
      (pss_cons (ps_for PassesOwn.never rfl (pi_range1 rfl T.b_range (pa_cons (pe_op op_mul pe_int (pv 4)) pa_nil)) (pg_name (i := 6) sc_law_reached.nd rfl (Or.inl rfl)) (pss_cons (ps_set (i := 7) sc_law_reached.nd rfl (Or.inl rfl) (pe_ix (r := rIxT K) ix_tup (pe_cf G_law_pick (hr.mono (by decide)) rfl (pa_cons (pv 0) (pa_cons (pe_cf G_law_after (hr.mono (by decide)) rfl (pa_cons (pv 1) (pa_cons (pv 2) (pa_cons (pv 5) pa_nil)))) pa_nil))) pe_int (fun _ _ => rfl)))
      (pss_one (ps_set (i := 5) sc_law_reached.nd rfl (Or.inl rfl) (pe_ifExp (pt_cmpR op_le (pe_cf G_law_off (hr.mono (by decide)) rfl (pa_cons (pv 3) (pa_cons (pv 7) pa_nil))) (pv 4) (nomark _)) (pv 7) (pv 5))))))
      (pss_one (ps_ret (pv 5))))), ?_⟩
  refine z_asgV (ev_var rfl) fun H1 s1 => ?_
  have hhi := ok.hi
  refine z_for (MR r) (src_rn (n := 21) (ea_cons (ed_is (ed_iC ed_int (ed_var rfl (.int 7)) (.inl ⟨by decide, by decide⟩) fun _ => .int _) rfl) ea_nil) (by omega)) (fun i σ' H' => ∃ vh b c h, σ' = [some (.ref r), some x, some (.int roof), some y, some (.int 7), some vh, b, c] ∧ Tp H' vh (eH h) ∧ HtOk n roof h ∧ Comes E one h ∧ offM one h ≤ 7 ∧ RowCell H' r a)
    (fun H6 s6 => ⟨y, none, none, one, rfl, hy.mono (s1.trans s6), h1, comes_self, off0, (hR.1.mono s1).mono s6⟩) (fun i k v σ' H' H'' N hi sx hσ s' hv kk => ?_) fun σ' H' sx hσ => ?_
  · obtain ⟨vh, b, c, h, rfl, th, okh, cm, of7, hc⟩ := hσ
    have sxa : SX (MR r) H H'' := (s1.sx.trans sx).trans s'.sx
    have hR2 : RowOk K H'' r a ns := hR.frame sxa (fun b hb => .inl hb) (hc.mono s')
    have hx2 := hx.kt sxa.2
    have hy2 := hy.kt sxa.2
    have th2 := th.mono s'
    refine gt_name _ ?_
    have few := deedsL_few (n := n) (E := E) (r := roof) (h := h)
    have hne := deedsL_ne ok r1 okh
    have elen : ((afterL n E roof h).map eA).length = (deedsL n E roof h).length := by
      unfold afterL
      rw [List.length_map, List.length_map]
    have pos := List.length_pos_iff.mpr hne
    refine pk_run rfl hR2 (el_call (dom := dm_law_after) (ea_cons (ed_var rfl hx2) (ea_cons (ed_var rfl (.int roof)) (ea_cons (ed_var rfl th2) ea_nil))) ⟨n, E, roof, h, rfl, ok, okh.len, rfl⟩) (by omega) (by omega) fun v3 d3 H3 hd3 hv3 sx3 hR3 => ?_
    obtain ⟨dd, hdd, rfl⟩ := List.mem_map.mp hd3
    obtain ⟨d, hd, rfl⟩ := List.mem_map.mp hdd
    obtain ⟨pa, za, rfl, hpa, hza⟩ := hv3.tup_inv
    obtain ⟨v4, v5, rfl, hv4, hv5⟩ := tpa2 hza
    refine ⟨pa, _, 1, v5, rfl, rfl, .inl (.inl hpa), rfl, ?_⟩
    have hv5' : Tp H3 v5 (eH (chg h d)) := hv5
    have okc := chg_ok ok okh hd
    have cmc := comes_chg ok okh.len cm hd
    refine ed_if (d := eH (if offM one (chg h d) ≤ 7 then chg h d else h)) (b := decide (offM one (chg h d) ≤ 7)) (eb_test (ed_i0 (ed_call (dom := dm_law_off) (ea_cons (ed_var rfl (hy2.kt sx3.2)) (ea_cons (ed_var rfl hv5') ea_nil)) ⟨_, _, rfl, by rw [h1.len, okc.len], by rw [h1.len]; omega, rfl⟩) (ed_var rfl (.int 7)) fun _ => .bl _)) (fun e => by rw [if_pos (of_decide_eq_true e)]; exact ed_var rfl hv5') (fun e => by rw [if_neg (of_decide_eq_false e)]; exact ed_var rfl (th2.kt sx3.2)) H3 (Same.refl _) _ fun v6 H4 s4 hv6 => ?_
    have tot := (s'.sx.trans sx3).trans s4.sx
    by_cases e : offM one (chg h d) ≤ 7
    · rw [if_pos e] at hv6
      exact kk _ _ tot ⟨v6, _, _, chg h d, rfl, hv6, okc, cmc, e, hR3.1.mono s4⟩
    · rw [if_neg e] at hv6
      exact kk _ _ tot ⟨v6, _, _, h, rfl, hv6, okh, cm, of7, hR3.1.mono s4⟩
  · obtain ⟨vh, b, c, h, rfl, th, okh, cm, of7, hc⟩ := hσ
    have sxa : SX (MR r) H H' := s1.sx.trans sx
    exact s_retD (ed_var rfl th) fun v H3 s3 hv => q v h H3 okh cm of7 (sxa.trans s3.sx) ((hR.frame sxa (fun b hb => .inl hb) hc).mono s3) hv
end
end Lv

set_option Elab.async false
set_option linter.all false
set_option maxRecDepth 100000
set_option maxHeartbeats 1000000
/-! the plain law: how far two heights are apart, the words level by level -/
namespace Lv
def sumN (f : Nat → Int) (n : Nat) : Int := ((List.range n).map f).sum
theorem sumN_succ (f : Nat → Int) (n : Nat) : sumN f (n + 1) = sumN f n + f n := by
  unfold sumN
  rw [List.range_succ, List.map_append, List.sum_append]
  simp
theorem sumN_change {f g : Nat → Int} {k : Nat} (h : ∀ j, j ≠ k → g j = f j) : ∀ n, sumN g n = sumN f n + if k < n then g k - f k else 0
  | 0 => by simp [sumN]
  | n + 1 => by
    have ih := sumN_change h n
    rw [sumN_succ, sumN_succ, ih]
    by_cases e : k = n
    · subst e
      rw [if_neg (Nat.lt_irrefl _), if_pos (Nat.lt_succ_self _)]
      omega
    · rw [h n (fun q => e q.symm)]
      by_cases e2 : k < n
      · rw [if_pos e2, if_pos (by omega)]
        omega
      · rw [if_neg e2, if_neg (by omega)]
        omega
theorem sumN_pos {f : Nat → Int} (h : ∀ k, 0 ≤ f k) : ∀ n, 0 ≤ sumN f n ∧ ∀ k, k < n → f k ≤ sumN f n
  | 0 => ⟨by simp [sumN], fun k hk => by omega⟩
  | n + 1 => by
    obtain ⟨a, b⟩ := sumN_pos h n
    rw [sumN_succ]
    have := h n
    refine ⟨by omega, fun k hk => ?_⟩
    by_cases e : k = n
    · subst e
      omega
    · have := b k (by omega)
      omega
theorem sumN_zero {f : Nat → Int} : ∀ n, (∀ k, k < n → f k = 0) → sumN f n = 0
  | 0, _ => by simp [sumN]
  | n + 1, h => by
    rw [sumN_succ, sumN_zero n fun k hk => h k (by omega), h n (by omega)]
    rfl
theorem absd_nn (a b : Int) : 0 ≤ absd a b := by
  unfold absd
  split <;> split <;> omega
theorem absd_spec (a b : Int) : (a ≤ b ∧ absd a b = b - a) ∨ (b ≤ a ∧ absd a b = a - b) := by
  unfold absd
  split <;> split <;> omega
theorem absd_zero {a b : Int} (h : absd a b = 0) : a = b := by
  unfold absd at h
  split at h <;> split at h <;> omega
theorem absd_self (a : Int) : absd a a = 0 := by
  unfold absd
  simp
theorem offM_eq {n : Nat} {a b : Hts} (h : a.length = n) : offM a b = sumN (fun k => absd (ht a k) (ht b k)) n := by
  unfold offM sumN
  rw [h]
theorem off_self {a : Hts} : offM a a = 0 := by
  rw [offM_eq rfl]
  exact sumN_zero _ fun k _ => absd_self _
theorem off_zero {n : Nat} {a b : Hts} (ha : a.length = n) (hb : b.length = n) (h : offM a b = 0) : a = b := by
  rw [offM_eq ha] at h
  refine hts_ext (by omega) fun k hk => ?_
  obtain ⟨p, q⟩ := sumN_pos (f := fun k => absd (ht a k) (ht b k)) (fun k => absd_nn _ _) n
  have h1 := q k (by omega)
  have h2 := absd_nn (ht a k) (ht b k)
  exact absd_zero (by omega)
theorem off_nn {a b : Hts} : 0 ≤ offM a b := by
  rw [offM_eq rfl]
  exact (sumN_pos (fun k => absd_nn _ _) _).1
theorem off_ne {n : Nat} {a b : Hts} (ha : a.length = n) (h : offM a b ≠ 0) : ∃ k, k < n ∧ ht a k ≠ ht b k := by
  apply Classical.byContradiction
  intro q
  apply h
  rw [offM_eq ha]
  refine sumN_zero _ fun k hk => ?_
  have e : ht a k = ht b k := Classical.byContradiction fun ne => q ⟨k, hk, ne⟩
  simp only [e]
  exact absd_self _
theorem off_chg {n : Nat} {h other : Hts} {d : Deed} (hl : h.length = n) (hd : d.2 < n) : offM (chg h d) other = offM h other + (absd (ht h d.2 + (if d.1 = true then 1 else -1)) (ht other d.2) - absd (ht h d.2) (ht other d.2)) := by
  have hdl : d.2 < h.length := by omega
  rw [offM_eq (n := n) (by rw [chg_length, hl]), offM_eq hl, sumN_change (k := d.2) (f := fun k => absd (ht h k) (ht other k)) (fun j hj => by rw [ht_other hdl hj]) n, if_pos hd, ht_same hdl]
theorem nearer_iff {h other : Hts} {d : Deed} : nearer h other d = true ↔ (d.1 = true ∧ ht h d.2 < ht other d.2) ∨ (d.1 = false ∧ ht other d.2 < ht h d.2) := by
  unfold nearer
  rw [Bool.or_eq_true, Bool.and_eq_true, Bool.and_eq_true, decide_eq_true_eq, decide_eq_true_eq, Bool.not_eq_true']
theorem off_near {n : Nat} {h other : Hts} {d : Deed} (hl : h.length = n) (hd : d.2 < n) (hn : nearer h other d = true) : offM (chg h d) other = offM h other - 1 := by
  rw [off_chg hl hd]
  rcases nearer_iff.mp hn with ⟨e1, e2⟩ | ⟨e1, e2⟩
  · rw [e1, if_pos rfl]
    have a1 := absd_spec (ht h d.2 + 1) (ht other d.2)
    have a2 := absd_spec (ht h d.2) (ht other d.2)
    omega
  · rw [e1, if_neg (show ¬ (false = true) by decide)]
    have a1 := absd_spec (ht h d.2 + -1) (ht other d.2)
    have a2 := absd_spec (ht h d.2) (ht other d.2)
    omega
theorem off_far {n : Nat} {h other : Hts} {d : Deed} (hl : h.length = n) (hd : d.2 < n) (hn : nearer h other d = false) : offM h other ≤ offM (chg h d) other := by
  rw [off_chg hl hd]
  have ne : ¬ ((d.1 = true ∧ ht h d.2 < ht other d.2) ∨ (d.1 = false ∧ ht other d.2 < ht h d.2)) := fun q => by
    rw [nearer_iff.mpr q] at hn
    cases hn
  cases e : d.1 with
  | true =>
    rw [if_pos rfl]
    have : ¬ ht h d.2 < ht other d.2 := fun q => ne (.inl ⟨e, q⟩)
    have a1 := absd_spec (ht h d.2 + 1) (ht other d.2)
    have a2 := absd_spec (ht h d.2) (ht other d.2)
    omega
  | false =>
    rw [if_neg (show ¬ (false = true) by decide)]
    have : ¬ ht other d.2 < ht h d.2 := fun q => ne (.inr ⟨e, q⟩)
    have a1 := absd_spec (ht h d.2 + -1) (ht other d.2)
    have a2 := absd_spec (ht h d.2) (ht other d.2)
    omega
theorem near_dec {n : Nat} {h other : Hts} {d : Deed} (hl : h.length = n) (hd : d.2 < n) : decide (offM (chg h d) other < offM h other) = nearer h other d := by
  cases e : nearer h other d with
  | true =>
    have := off_near hl hd e
    exact decide_eq_true (by omega)
  | false =>
    have := off_far hl hd e
    exact decide_eq_false (by omega)
/-- the deeds that lead nearer -/
def nearL (n : Nat) (E : List Edge) (r : Int) (other h : Hts) : List Deed := (deedsL n E r h).filter (nearer h other)
theorem mem_nearL {n : Nat} {E : List Edge} {r : Int} {other h : Hts} {d : Deed} : d ∈ nearL n E r other h ↔ d ∈ deedsL n E r h ∧ nearer h other d = true := List.mem_filter
theorem nearL_lt {n : Nat} {E : List Edge} {r : Int} {other h : Hts} {d : Deed} (hd : d ∈ nearL n E r other h) : d.2 < n := (mem_deedsL.mp (mem_nearL.mp hd).1).1
theorem nextW_eq {n : Nat} {E : List Edge} {r : Int} {other : Hts} {x : List Deed × Hts} (hl : x.2.length = n) : nextW n E r other x = (nearL n E r other x.2).map fun d => (x.1 ++ [d], chg x.2 d) := by
  unfold nextW afterL nearL
  rw [List.filter_map, List.map_map]
  have e : (deedsL n E r x.2).filter ((fun y : Deed × Hts => decide (offM y.2 other < offM x.2 other)) ∘ fun d => (d, chg x.2 d)) = (deedsL n E r x.2).filter (nearer x.2 other) := by
    apply List.filter_congr
    intro d hd
    exact near_dec hl (mem_deedsL.mp hd).1
  rw [e]
  rfl
/-- between -/
def Btw (one h other : Hts) : Prop := ∀ k, (ht one k ≤ ht h k ∧ ht h k ≤ ht other k) ∨ (ht other k ≤ ht h k ∧ ht h k ≤ ht one k)
theorem btw_self {one other : Hts} : Btw one one other := fun k => by omega
theorem btw_chg {one h other : Hts} {d : Deed} (hd : d.2 < h.length) (b : Btw one h other) (hn : nearer h other d = true) : Btw one (chg h d) other := fun k => by
  have bk := b k
  rw [ht_chg hd]
  by_cases e : k = d.2
  · subst e
    rw [if_pos rfl]
    rcases nearer_iff.mp hn with ⟨e1, e2⟩ | ⟨e1, e2⟩
    · rw [e1, if_pos rfl]
      omega
    · rw [e1, if_neg (show ¬ (false = true) by decide)]
      omega
  · rw [if_neg e]
    exact bk
structure Good (n : Nat) (one other : Hts) (T t : Nat) (h : Hts) : Prop where
  len : h.length = n
  btw : Btw one h other
  off : offM h other = (T : Int) - (t : Int)
theorem good_next {n : Nat} {E : List Edge} {r : Int} {one other : Hts} {T t : Nat} {h : Hts} (g : Good n one other T t h) {d : Deed} (hd : d ∈ nearL n E r other h) : Good n one other T (t + 1) (chg h d) := by
  have hlt := nearL_lt hd
  have hn := (mem_nearL.mp hd).2
  refine ⟨by rw [chg_length, g.len], btw_chg (by rw [g.len]; exact hlt) g.btw hn, ?_⟩
  rw [off_near g.len hlt hn, g.off]
  omega
theorem rows_good {n : Nat} {E : List Edge} {r : Int} {one other : Hts} {T : Nat} (hl : one.length = n) (ho : offM one other = (T : Int)) : ∀ t, ∀ x ∈ rowsW n E r one other t, Good n one other T t x.2
  | 0, x, hx => by
    rw [List.mem_singleton.mp hx]
    exact ⟨hl, btw_self, by rw [ho]; simp⟩
  | t + 1, x, hx => by
    obtain ⟨y, hy, hx⟩ := List.mem_flatMap.mp hx
    have g := rows_good (E := E) (r := r) hl ho t y hy
    rw [nextW_eq g.len] at hx
    obtain ⟨d, hd, rfl⟩ := List.mem_map.mp hx
    exact good_next g hd
theorem least_p (p : Nat → Prop) (f : Nat → Int) : ∀ n, (∃ k, k < n ∧ p k) → ∃ k, k < n ∧ p k ∧ ∀ j, j < n → p j → f k ≤ f j
  | 0, ⟨k, h, _⟩ => by omega
  | n + 1, ⟨k, h, pk⟩ => by
    by_cases q : ∃ k, k < n ∧ p k
    · obtain ⟨m, h1, h2, h3⟩ := least_p p f n q
      by_cases z : p n ∧ f n < f m
      · refine ⟨n, by omega, z.1, fun j hj pj => ?_⟩
        by_cases e : j = n
        · rw [e]; exact Int.le_refl _
        · have := h3 j (by omega) pj
          omega
      · refine ⟨m, by omega, h2, fun j hj pj => ?_⟩
        by_cases e : j = n
        · subst e
          have : ¬ f j < f m := fun y => z ⟨pj, y⟩
          omega
        · exact h3 j (by omega) pj
    · have e : k = n := by
        apply Classical.byContradiction
        intro ne
        exact q ⟨k, by omega, pk⟩
      subst e
      refine ⟨k, h, pk, fun j hj pj => ?_⟩
      by_cases e : j = k
      · rw [e]; exact Int.le_refl _
      · exact absurd ⟨j, by omega, pj⟩ q
theorem near_ne {n : Nat} {E : List Edge} {r : Int} {one h other : Hts} (ok : WebOk n E) (o2 : HtOk n r other) (c : Comes E one other) (hl : h.length = n) (b : Btw one h other) (ho : offM h other ≠ 0) : nearL n E r other h ≠ [] := by
  rw [comes_iff] at c
  obtain ⟨k0, hk0, ne0⟩ := off_ne hl ho
  have fin : ∀ d : Deed, d ∈ nearL n E r other h → nearL n E r other h ≠ [] := fun d hd z => by
    rw [z] at hd
    cases hd
  by_cases hu : ∃ k, k < n ∧ ht h k < ht other k
  · obtain ⟨k, h1, h2, h3⟩ := least_p (fun k => ht h k < ht other k) (ht h) n hu
    refine fin (true, k) (mem_nearL.mpr ⟨mem_deedsL.mpr ⟨h1, .inl ⟨rfl, (upL_iff ok).mpr ⟨?_, fun j hj => ?_⟩⟩⟩, nearer_iff.mpr (.inl ⟨rfl, h2⟩)⟩)
    · have := (o2.at h1).2
      show ht h k < r
      omega
    · show ht h k ≤ ht h j
      have hjn := (Adj.lt ok hj).1
      by_cases e : ht h j < ht other j
      · exact h3 j hjn e
      · apply Classical.byContradiction
        intro q
        have := c j k hj (by omega)
        have := b k
        omega
  · have hd : ∃ k, k < n ∧ ht other k < ht h k := ⟨k0, hk0, by
      have : ¬ ht h k0 < ht other k0 := fun z => hu ⟨k0, hk0, z⟩
      omega⟩
    obtain ⟨k, h1, h2, h3⟩ := least_p (fun k => ht other k < ht h k) (fun k => - ht h k) n hd
    refine fin (false, k) (mem_nearL.mpr ⟨mem_deedsL.mpr ⟨h1, .inr ⟨rfl, (downL_iff ok).mpr ⟨?_, fun j hj => ?_⟩⟩⟩, nearer_iff.mpr (.inr ⟨rfl, h2⟩)⟩)
    · have := (o2.at h1).1
      show 0 < ht h k
      omega
    · show ht h j ≤ ht h k
      have hjn := (Adj.lt ok hj).1
      by_cases e : ht other j < ht h j
      · have := h3 j hjn e
        omega
      · apply Classical.byContradiction
        intro q
        have := c k j hj.symm (by omega)
        have := b k
        omega
theorem flatMap_ge {α β : Type} (f : α → List β) : ∀ l : List α, (∀ x ∈ l, 1 ≤ (f x).length) → l.length ≤ (l.flatMap f).length
  | [], _ => by simp
  | x :: l, h => by
    have h1 := h x (List.mem_cons_self ..)
    have h2 := flatMap_ge f l fun y hy => h y (List.mem_cons_of_mem _ hy)
    rw [List.flatMap_cons, List.length_append, List.length_cons]
    omega
theorem rows_mono {n : Nat} {E : List Edge} {r : Int} {one other : Hts} {T : Nat} (ok : WebOk n E) (hl : one.length = n) (o2 : HtOk n r other) (c : Comes E one other) (ho : offM one other = (T : Int)) {t : Nat} (ht : t < T) : (rowsW n E r one other t).length ≤ (rowsW n E r one other (t + 1)).length := by
  refine flatMap_ge _ _ fun x hx => ?_
  have g := rows_good (E := E) (r := r) hl ho t x hx
  rw [nextW_eq g.len, List.length_map]
  refine List.length_pos_iff.mpr (near_ne ok o2 c g.len g.btw ?_)
  rw [g.off]
  omega
theorem rows_mono2 {n : Nat} {E : List Edge} {r : Int} {one other : Hts} {T : Nat} (ok : WebOk n E) (hl : one.length = n) (o2 : HtOk n r other) (c : Comes E one other) (ho : offM one other = (T : Int)) {t : Nat} : ∀ k, t + k ≤ T → (rowsW n E r one other t).length ≤ (rowsW n E r one other (t + k)).length
  | 0, _ => Nat.le_refl _
  | k + 1, h => Nat.le_trans (rows_mono2 ok hl o2 c ho k (by omega)) (rows_mono ok hl o2 c ho (t := t + k) (by omega))
theorem rows_last {n : Nat} {E : List Edge} {r : Int} {one other : Hts} {T : Nat} (hl : one.length = n) (hl2 : other.length = n) (ho : offM one other = (T : Int)) : ∀ x ∈ rowsW n E r one other T, x.2 = other := fun x hx => by
  have g := rows_good (E := E) (r := r) hl ho T x hx
  exact off_zero g.len hl2 (by rw [g.off]; omega)
theorem rows_word {n : Nat} {E : List Edge} {r : Int} {one other : Hts} {T : Nat} (hl : one.length = n) (ho : offM one other = (T : Int)) : ∀ t, ∀ x ∈ rowsW n E r one other t, ∀ d ∈ x.1, d.2 < n
  | 0, x, hx, d, hd => by
    rw [List.mem_singleton.mp hx] at hd
    cases hd
  | t + 1, x, hx, d, hd => by
    obtain ⟨y, hy, hx⟩ := List.mem_flatMap.mp hx
    have g := rows_good (E := E) (r := r) hl ho t y hy
    rw [nextW_eq g.len] at hx
    obtain ⟨d', hd', rfl⟩ := List.mem_map.mp hx
    rcases List.mem_append.mp hd with z | z
    · exact rows_word hl ho t y hy d z
    · rw [List.mem_singleton.mp z]
      exact nearL_lt hd'
end Lv

set_option Elab.async false
set_option linter.all false
set_option maxRecDepth 100000
set_option maxHeartbeats 1000000
/-! the plain law: the orders of single deeds are the words' lines -/
namespace Lv
theorem mem_rgN {lo x : Int} {n : Nat} : x ∈ rgN lo n ↔ lo ≤ x ∧ x < lo + n := by
  unfold rgN
  rw [List.mem_map]
  constructor
  · rintro ⟨i, hi, rfl⟩
    have := List.mem_range.mp hi
    omega
  · intro h
    exact ⟨(x - lo).toNat, List.mem_range.mpr (by omega), by omega⟩
theorem mem_rgD {hi x : Int} {n : Nat} : x ∈ rgD hi n ↔ hi - n < x ∧ x ≤ hi := by
  unfold rgD
  rw [List.mem_map]
  constructor
  · rintro ⟨i, hi, rfl⟩
    have := List.mem_range.mp hi
    omega
  · intro h
    exact ⟨(hi - x).toNat, List.mem_range.mpr (by omega), by omega⟩
theorem rgN_nodup {lo : Int} {n : Nat} : (rgN lo n).Nodup := nodup_map (fun a b e => by omega) List.nodup_range
theorem rgD_nodup {lo : Int} {n : Nat} : (rgD lo n).Nodup := nodup_map (fun a b e => by omega) List.nodup_range
theorem mem_singlesAt {one other : Hts} {k : Nat} {s : Sgl} : s ∈ singlesAt one other k ↔ s.2.1 = k ∧ ((s.1 = true ∧ ht one k ≤ s.2.2 ∧ s.2.2 < ht other k) ∨ (s.1 = false ∧ ht other k < s.2.2 ∧ s.2.2 ≤ ht one k)) := by
  unfold singlesAt
  rw [List.mem_append, List.mem_map, List.mem_map]
  constructor
  · rintro (⟨v, hv, rfl⟩ | ⟨v, hv, rfl⟩)
    · have := mem_rgN.mp hv
      exact ⟨rfl, .inl ⟨rfl, this.1, by show v < _; omega⟩⟩
    · have := mem_rgD.mp hv
      exact ⟨rfl, .inr ⟨rfl, by show _ < v; omega, this.2⟩⟩
  · obtain ⟨u, k', v⟩ := s
    rintro ⟨h1, ⟨h2, h3, h4⟩ | ⟨h2, h3, h4⟩⟩
    · simp only at h1 h2 h3 h4
      subst h1 h2
      exact .inl ⟨v, mem_rgN.mpr ⟨h3, by omega⟩, rfl⟩
    · simp only at h1 h2 h3 h4
      subst h1 h2
      exact .inr ⟨v, mem_rgD.mpr ⟨by omega, h4⟩, rfl⟩
theorem mem_singles {one other : Hts} {s : Sgl} : s ∈ singlesM one other ↔ s.2.1 < one.length ∧ ((s.1 = true ∧ ht one s.2.1 ≤ s.2.2 ∧ s.2.2 < ht other s.2.1) ∨ (s.1 = false ∧ ht other s.2.1 < s.2.2 ∧ s.2.2 ≤ ht one s.2.1)) := by
  unfold singlesM
  rw [List.mem_flatMap]
  constructor
  · rintro ⟨k, hk, hs⟩
    obtain ⟨rfl, h⟩ := mem_singlesAt.mp hs
    exact ⟨List.mem_range.mp hk, h⟩
  · rintro ⟨h1, h2⟩
    exact ⟨s.2.1, List.mem_range.mpr h1, mem_singlesAt.mpr ⟨rfl, h2⟩⟩
theorem singlesAt_nodup {one other : Hts} {k : Nat} : (singlesAt one other k).Nodup := by
  unfold singlesAt
  rw [List.nodup_append]
  refine ⟨nodup_map (fun a b e => (Prod.mk.inj (Prod.mk.inj e).2).2) rgN_nodup, nodup_map (fun a b e => (Prod.mk.inj (Prod.mk.inj e).2).2) rgD_nodup, fun a ha b hb e => ?_⟩
  obtain ⟨v, _, rfl⟩ := List.mem_map.mp ha
  obtain ⟨v', _, rfl⟩ := List.mem_map.mp hb
  cases e
theorem singles_nodup {one other : Hts} : (singlesM one other).Nodup := by
  unfold singlesM List.Nodup
  rw [List.pairwise_flatMap]
  refine ⟨fun k _ => singlesAt_nodup, (List.nodup_range (n := one.length)).imp fun {i j} hn x hx y hy e => ?_⟩
  rw [e] at hx
  exact hn ((mem_singlesAt.mp hx).1.symm.trans (mem_singlesAt.mp hy).1)
theorem singles_len {one other : Hts} : ((singlesM one other).length : Int) = offM one other := by
  rw [offM_eq rfl]
  unfold singlesM
  generalize one.length = n
  induction n with
  | zero => simp [sumN]
  | succ n ih =>
    rw [sumN_succ, ← ih, List.range_succ, List.flatMap_append, List.length_append]
    have e : ([n].flatMap (singlesAt one other)).length = (ht other n - ht one n).toNat + (ht one n - ht other n).toNat := by
      simp [singlesAt, rgN_length, rgD_length]
    rw [e]
    have := absd_spec (ht one n) (ht other n)
    omega
/-! ### the pairs -/
def Rel (E : List Edge) (f g : Sgl) : Prop := (f.2.1 = g.2.1 ∧ f.1 = g.1 ∧ g.2.2 = f.2.2 + if f.1 = true then 1 else -1) ∨ (f.2.1 ≠ g.2.1 ∧ Adj E f.2.1 g.2.1 ∧ ((f.1 ≠ g.1 ∧ g.2.2 = f.2.2) ∨ (f.1 = g.1 ∧ g.2.2 = f.2.2 + if f.1 = true then 1 else -1)))
theorem adj_sorted {n : Nat} {E : List Edge} (ok : WebOk n E) {a b : Nat} : (if b < a then b else a, if b > a then b else a) ∈ E ↔ Adj E a b := by
  constructor
  · intro h
    by_cases e : b < a
    · rw [if_pos e, if_neg (by omega)] at h
      exact .inr h
    · rw [if_neg e] at h
      by_cases e2 : b > a
      · rw [if_pos e2] at h
        exact .inl h
      · rw [if_neg e2] at h
        have := ok.ed _ h
        simp only at this
        omega
  · rintro (h | h)
    · have := ok.ed _ h
      simp only at this
      rw [if_neg (by omega), if_pos (by omega)]
      exact h
    · have := ok.ed _ h
      simp only at this
      rw [if_pos (by omega), if_neg (by omega)]
      exact h
theorem rule_iff {n : Nat} {E : List Edge} (ok : WebOk n E) {f g : Sgl} : ruleL E f g = true ↔ Rel E f g := by
  obtain ⟨u, a, v⟩ := f
  obtain ⟨w, b, x⟩ := g
  unfold ruleL Rel
  simp only
  by_cases e : a = b
  · subst e
    rw [if_pos rfl, Bool.and_eq_true, beq_iff_eq, decide_eq_true_eq]
    cases u <;> simp <;> omega
  · rw [if_neg e, Bool.and_eq_true, List.contains_iff_mem, adj_sorted ok, decide_eq_true_eq]
    cases u <;> cases w <;> simp [e] <;> omega
theorem rel_ne {E : List Edge} {f g : Sgl} (h : Rel E f g) : f ≠ g := by
  intro e
  subst e
  rcases h with ⟨_, _, h⟩ | ⟨h, _⟩
  · split at h <;> omega
  · exact h rfl
theorem bef_iff {n : Nat} {E : List Edge} (ok : WebOk n E) {f g : Sgl} : isBef E f g = true ↔ Rel E f g := by
  obtain ⟨u, a, v⟩ := f
  obtain ⟨w, b, x⟩ := g
  unfold isBef Rel
  simp only
  by_cases e : a = b
  · subst e
    rw [if_pos rfl, Bool.and_eq_true, beq_iff_eq, decide_eq_true_eq]
    cases u <;> simp <;> omega
  · rw [if_neg e]
    by_cases m : Adj E a b
    · have hc : (besIn E a).contains b = true := List.contains_iff_mem.mpr (mem_besIn.mpr m.symm)
      rw [hc, if_neg (by decide)]
      cases u <;> cases w <;> simp [e, m] <;> omega
    · have hc : (besIn E a).contains b = false := by
        cases q : (besIn E a).contains b with
        | true => exact absurd (mem_besIn.mp (List.contains_iff_mem.mp q)).symm m
        | false => rfl
      rw [hc, if_pos rfl]
      simp [e, m]
theorem pairs_eq {n : Nat} {E : List Edge} (ok : WebOk n E) (some : List Sgl) : pairsM E some = lawPairs E some := by
  unfold pairsM lawPairs
  congr 1
  funext f
  congr 1
  apply List.filter_congr
  intro g _
  rw [Bool.eq_iff_iff, bef_iff ok, Bool.and_eq_true, decide_eq_true_eq, rule_iff ok]
  exact ⟨fun h => ⟨rel_ne h, h⟩, fun h => h.2⟩
theorem mem_lawPairs {n : Nat} {E : List Edge} (ok : WebOk n E) {some : List Sgl} {f g : Sgl} : (f, g) ∈ lawPairs E some ↔ f ∈ some ∧ g ∈ some ∧ Rel E f g := by
  unfold lawPairs
  rw [List.mem_flatMap]
  constructor
  · rintro ⟨f', hf, h⟩
    obtain ⟨g', hg, e⟩ := List.mem_map.mp h
    cases e
    obtain ⟨h1, h2⟩ := List.mem_filter.mp hg
    rw [Bool.and_eq_true, rule_iff ok] at h2
    exact ⟨hf, h1, h2.2⟩
  · rintro ⟨h1, h2, h3⟩
    refine ⟨f, h1, List.mem_map.mpr ⟨g, List.mem_filter.mpr ⟨h2, ?_⟩, rfl⟩⟩
    rw [Bool.and_eq_true, rule_iff ok, decide_eq_true_eq]
    exact ⟨rel_ne h3, h3⟩
/-! ### what is free -/
def Passed (h : Hts) (s : Sgl) : Prop := (s.1 = true ∧ s.2.2 < ht h s.2.1) ∨ (s.1 = false ∧ ht h s.2.1 < s.2.2)
theorem free_iff {n : Nat} {E : List Edge} (ok : WebOk n E) {some done : List Sgl} {d : Sgl} (hd : d ∈ some) : freeR (lawPairs E some) done d = true ↔ d ∉ done ∧ ∀ f, f ∈ some → Rel E f d → f ∈ done := by
  unfold freeR
  rw [Bool.and_eq_true, Bool.not_eq_true', isEmpty_filter]
  have c : done.contains d = false ↔ d ∉ done := by
    rw [← Bool.not_eq_true, List.contains_iff_mem]
  rw [c]
  constructor
  · rintro ⟨h1, h2⟩
    refine ⟨h1, fun f hf hr => ?_⟩
    have := h2 (f, d) ((mem_lawPairs ok).mpr ⟨hf, hd, hr⟩)
    simp only [decide_true, Bool.true_and, Bool.not_eq_false'] at this
    exact List.contains_iff_mem.mp this
  · rintro ⟨h1, h2⟩
    refine ⟨h1, fun p hp => ?_⟩
    obtain ⟨f, g⟩ := p
    by_cases e : g = d
    · subst e
      have m := (mem_lawPairs ok).mp hp
      have := List.contains_iff_mem.mpr (h2 f m.1 m.2.2)
      simp only [this, Bool.not_true, Bool.and_false]
    · simp only [decide_eq_false e, Bool.false_and]
def sgl (h : Hts) (d : Deed) : Sgl := (d.1, d.2, ht h d.2)
structure DoneOk (one other h : Hts) (line : List Sgl) : Prop where
  iff : ∀ s, s ∈ singlesM one other → (s ∈ line ↔ Passed h s)
theorem near_single {n : Nat} {E : List Edge} {r : Int} {one other h : Hts} (hl : one.length = n) (b : Btw one h other) {d : Deed} (hd : d ∈ nearL n E r other h) : sgl h d ∈ singlesM one other := by
  have h1 := nearL_lt hd
  refine mem_singles.mpr ⟨by show d.2 < _; omega, ?_⟩
  have bk := b d.2
  rcases nearer_iff.mp (mem_nearL.mp hd).2 with ⟨e1, e2⟩ | ⟨e1, e2⟩
  · exact .inl ⟨e1, by show ht one d.2 ≤ ht h d.2; omega, by show ht h d.2 < ht other d.2; exact e2⟩
  · exact .inr ⟨e1, by show ht other d.2 < ht h d.2; exact e2, by show ht h d.2 ≤ ht one d.2; omega⟩
theorem key {n : Nat} {E : List Edge} {r : Int} {one other h : Hts} {line : List Sgl} (ok : WebOk n E) (hl : one.length = n) (o2 : HtOk n r other) (c : Comes E one other) (b : Btw one h other) (dn : DoneOk one other h line) {d : Sgl} (hd : d ∈ singlesM one other) :
    freeR (lawPairs E (singlesM one other)) line d = true ↔ ∃ e, e ∈ nearL n E r other h ∧ sgl h e = d := by
  rw [free_iff ok hd, dn.iff d hd]
  rw [comes_iff] at c
  obtain ⟨u, k, v⟩ := d
  obtain ⟨hk, hs⟩ := mem_singles.mp hd
  simp only at hk hs
  have bk := b k
  have okk := o2.at (show k < n by omega)
  constructor
  · rintro ⟨np, pre⟩
    have hv : v = ht h k := by
      rcases hs with ⟨e, h1, h2⟩ | ⟨e, h1, h2⟩
      · subst e
        have n1 : ¬ v < ht h k := fun q => np (.inl ⟨rfl, q⟩)
        by_cases q : v = ht one k
        · omega
        · have m : ((true, k, v - 1) : Sgl) ∈ singlesM one other := mem_singles.mpr ⟨hk, .inl ⟨rfl, by show ht one k ≤ v - 1; omega, by show v - 1 < ht other k; omega⟩⟩
          have p := (dn.iff _ m).mp (pre _ m (.inl ⟨rfl, rfl, by show v = v - 1 + 1; omega⟩))
          rcases p with ⟨_, p⟩ | ⟨p, _⟩
          · have p : v - 1 < ht h k := p
            omega
          · cases p
      · subst e
        have n1 : ¬ ht h k < v := fun q => np (.inr ⟨rfl, q⟩)
        by_cases q : v = ht one k
        · omega
        · have m : ((false, k, v + 1) : Sgl) ∈ singlesM one other := mem_singles.mpr ⟨hk, .inr ⟨rfl, by show ht other k < v + 1; omega, by show v + 1 ≤ ht one k; omega⟩⟩
          have p := (dn.iff _ m).mp (pre _ m (.inl ⟨rfl, rfl, by show v = v + 1 + -1; omega⟩))
          rcases p with ⟨p, _⟩ | ⟨_, p⟩
          · cases p
          · have p : ht h k < v + 1 := p
            omega
    subst hv
    refine ⟨(u, k), mem_nearL.mpr ⟨mem_deedsL.mpr ⟨by show k < n; omega, ?_⟩, ?_⟩, rfl⟩
    · rcases hs with ⟨e, h1, h2⟩ | ⟨e, h1, h2⟩
      · subst e
        refine .inl ⟨rfl, (upL_iff ok).mpr ⟨by show ht h k < r; omega, fun a ha => ?_⟩⟩
        show ht h k ≤ ht h a
        have al := Adj.lt ok ha
        have ba := b a
        apply Classical.byContradiction
        intro q
        by_cases m1 : ht one a ≤ ht h k - 1 ∧ ht h k - 1 < ht other a
        · have m : ((true, a, ht h k - 1) : Sgl) ∈ singlesM one other := mem_singles.mpr ⟨by show a < _; omega, .inl ⟨rfl, m1.1, m1.2⟩⟩
          have p := (dn.iff _ m).mp (pre _ m (.inr ⟨al.2.2, ha, .inr ⟨rfl, by show ht h k = ht h k - 1 + 1; omega⟩⟩))
          rcases p with ⟨_, p⟩ | ⟨p, _⟩
          · have p : ht h k - 1 < ht h a := p
            omega
          · cases p
        · by_cases m2 : ht other a ≤ ht h k - 1
          · have := c a k ha (by omega)
            omega
          · omega
      · subst e
        refine .inr ⟨rfl, (downL_iff ok).mpr ⟨by show 0 < ht h k; omega, fun a ha => ?_⟩⟩
        show ht h a ≤ ht h k
        have al := Adj.lt ok ha
        have ba := b a
        apply Classical.byContradiction
        intro q
        by_cases m1 : ht other a < ht h k + 1 ∧ ht h k + 1 ≤ ht one a
        · have m : ((false, a, ht h k + 1) : Sgl) ∈ singlesM one other := mem_singles.mpr ⟨by show a < _; omega, .inr ⟨rfl, m1.1, m1.2⟩⟩
          have p := (dn.iff _ m).mp (pre _ m (.inr ⟨al.2.2, ha, .inr ⟨rfl, by show ht h k = ht h k + 1 + -1; omega⟩⟩))
          rcases p with ⟨p, _⟩ | ⟨_, p⟩
          · cases p
          · have p : ht h a < ht h k + 1 := p
            omega
        · by_cases m2 : ht h k + 1 ≤ ht other a
          · have := c k a ha.symm (by omega)
            omega
          · omega
    · refine nearer_iff.mpr ?_
      rcases hs with ⟨e, h1, h2⟩ | ⟨e, h1, h2⟩
      · exact .inl ⟨e, h2⟩
      · exact .inr ⟨e, h1⟩
  · rintro ⟨e, he, ee⟩
    obtain ⟨h1, h2⟩ := mem_nearL.mp he
    obtain ⟨h3, h4⟩ := mem_deedsL.mp h1
    unfold sgl at ee
    obtain ⟨eu, ek⟩ := e
    cases ee
    simp only at h3 h4 hs
    have hks : ek < n := h3
    refine ⟨?_, fun f hf hr => (dn.iff f hf).mpr ?_⟩
    · rintro (⟨_, q⟩ | ⟨_, q⟩)
      · have q : ht h ek < ht h ek := q
        omega
      · have q : ht h ek < ht h ek := q
        omega
    · obtain ⟨fu, fk, fv⟩ := f
      obtain ⟨hf1, hf2⟩ := mem_singles.mp hf
      simp only at hf1 hf2
      have bf := b fk
      rcases h4 with ⟨e1, e2⟩ | ⟨e1, e2⟩
      · subst e1
        have up : ht h ek < r ∧ ∀ j, Adj E j ek → ht h ek ≤ ht h j := (upL_iff ok).mp e2
        rcases hr with ⟨q1, q2, q3⟩ | ⟨q1, q2, ⟨q3, q4⟩ | ⟨q3, q4⟩⟩
        · simp only at q1 q2 q3
          subst q1 q2
          rw [if_pos rfl] at q3
          exact .inl ⟨rfl, by show fv < ht h fk; omega⟩
        · simp only at q1 q2 q3 q4
          have ef : fu = false := by cases fu <;> simp_all
          subst ef
          exfalso
          have := c fk ek q2
          rcases hf2 with ⟨z, _⟩ | ⟨_, z1, z2⟩
          · cases z
          · rcases hs with ⟨_, y1, y2⟩ | ⟨y, _⟩
            · omega
            · cases y
        · simp only at q1 q2 q3 q4
          subst q3
          rw [if_pos rfl] at q4
          have := up.2 fk q2
          exact .inl ⟨rfl, by show fv < ht h fk; omega⟩
      · subst e1
        have dw : 0 < ht h ek ∧ ∀ j, Adj E j ek → ht h j ≤ ht h ek := (downL_iff ok).mp e2
        rcases hr with ⟨q1, q2, q3⟩ | ⟨q1, q2, ⟨q3, q4⟩ | ⟨q3, q4⟩⟩
        · simp only at q1 q2 q3
          subst q1 q2
          rw [if_neg (by decide)] at q3
          exact .inr ⟨rfl, by show ht h fk < fv; omega⟩
        · simp only at q1 q2 q3 q4
          have ef : fu = true := by cases fu <;> simp_all
          subst ef
          exfalso
          have := c ek fk q2.symm
          rcases hf2 with ⟨_, z1, z2⟩ | ⟨z, _⟩
          · rcases hs with ⟨y, _⟩ | ⟨_, y1, y2⟩
            · cases y
            · omega
          · cases z
        · simp only at q1 q2 q3 q4
          subst q3
          rw [if_neg (by decide)] at q4
          have := dw.2 fk q2
          exact .inr ⟨rfl, by show ht h fk < fv; omega⟩
theorem done_next {n : Nat} {E : List Edge} {r : Int} {one other h : Hts} {line : List Sgl} (hl : h.length = n) (b : Btw one h other) (dn : DoneOk one other h line) {d : Deed} (hd : d ∈ nearL n E r other h) : DoneOk one other (chg h d) (line ++ [sgl h d]) := by
  refine ⟨fun s hs => ?_⟩
  have h1 := nearL_lt hd
  have hdl : d.2 < h.length := by omega
  have hn := nearer_iff.mp (mem_nearL.mp hd).2
  rw [List.mem_append, List.mem_singleton, dn.iff s hs]
  obtain ⟨u, k, v⟩ := s
  obtain ⟨du, dk⟩ := d
  obtain ⟨_, hs2⟩ := mem_singles.mp hs
  simp only at hs2 hn h1 hdl
  unfold Passed sgl
  simp only
  rw [ht_chg hdl]
  simp only
  have bk := b dk
  by_cases e : k = dk
  · subst e
    rw [if_pos rfl]
    constructor
    · rintro (q | q)
      · rcases q with ⟨q1, q2⟩ | ⟨q1, q2⟩
        · refine .inl ⟨q1, ?_⟩
          rcases hn with ⟨e1, e2⟩ | ⟨e1, e2⟩
          · rw [e1, if_pos rfl]; omega
          · rw [e1, if_neg (by decide)]
            rcases hs2 with ⟨_, z1, z2⟩ | ⟨z, _⟩
            · omega
            · rw [z] at q1; cases q1
        · refine .inr ⟨q1, ?_⟩
          rcases hn with ⟨e1, e2⟩ | ⟨e1, e2⟩
          · rw [e1, if_pos rfl]
            rcases hs2 with ⟨z, _⟩ | ⟨_, z1, z2⟩
            · rw [z] at q1; cases q1
            · omega
          · rw [e1, if_neg (by decide)]; omega
      · cases q
        rcases hn with ⟨e1, e2⟩ | ⟨e1, e2⟩
        · exact .inl ⟨e1, by rw [e1, if_pos rfl]; omega⟩
        · exact .inr ⟨e1, by rw [e1, if_neg (by decide)]; omega⟩
    · rintro (⟨q1, q2⟩ | ⟨q1, q2⟩)
      · rcases hn with ⟨e1, e2⟩ | ⟨e1, e2⟩
        · rw [e1, if_pos rfl] at q2
          by_cases z : v = ht h k
          · exact .inr (by rw [z, q1, e1])
          · exact .inl (.inl ⟨q1, by omega⟩)
        · rw [e1, if_neg (by decide)] at q2
          exact .inl (.inl ⟨q1, by omega⟩)
      · rcases hn with ⟨e1, e2⟩ | ⟨e1, e2⟩
        · rw [e1, if_pos rfl] at q2
          exact .inl (.inr ⟨q1, by omega⟩)
        · rw [e1, if_neg (by decide)] at q2
          by_cases z : v = ht h k
          · exact .inr (by rw [z, q1, e1])
          · exact .inl (.inr ⟨q1, by omega⟩)
  · rw [if_neg e]
    constructor
    · rintro (q | q)
      · exact q
      · cases q
        exact absurd rfl e
    · exact fun q => .inl q
theorem done_start {one other : Hts} : DoneOk one other one [] := ⟨fun s hs => by
  obtain ⟨_, h⟩ := mem_singles.mp hs
  refine ⟨fun q => (nomatch q), fun q => ?_⟩
  rcases q with ⟨q1, q2⟩ | ⟨q1, q2⟩
  · rcases h with ⟨_, z1, z2⟩ | ⟨z, _⟩
    · omega
    · rw [z] at q1; cases q1
  · rcases h with ⟨z, _⟩ | ⟨_, z1, z2⟩
    · rw [z] at q1; cases q1
    · omega⟩
theorem lineStep_eq (x : List Sgl × Hts) (d : Deed) : lineStep x d = (x.1 ++ [(d.1, d.2, ht x.2 d.2)], chg x.2 d) := rfl
theorem line_snoc (one : Hts) (w : List Deed) (d : Deed) : (w ++ [d]).foldl lineStep ([], one) = lineStep (w.foldl lineStep ([], one)) d := by
  rw [List.foldl_append]
  rfl
theorem rows_line {n : Nat} {E : List Edge} {r : Int} {one other : Hts} {T : Nat} (hl : one.length = n) (ho : offM one other = (T : Int)) : ∀ t, ∀ x ∈ rowsW n E r one other t, (x.1.foldl lineStep ([], one)).2 = x.2 ∧ DoneOk one other x.2 (lineOf one x.1)
  | 0, x, hx => by
    rw [List.mem_singleton.mp hx]
    exact ⟨rfl, done_start⟩
  | t + 1, x, hx => by
    obtain ⟨y, hy, hx⟩ := List.mem_flatMap.mp hx
    have g := rows_good (E := E) (r := r) hl ho t y hy
    rw [nextW_eq g.len] at hx
    obtain ⟨d, hd, rfl⟩ := List.mem_map.mp hx
    obtain ⟨h1, h2⟩ := rows_line hl ho t y hy
    refine ⟨?_, ?_⟩
    · show ((y.1 ++ [d]).foldl lineStep ([], one)).2 = chg y.2 d
      rw [line_snoc, lineStep_eq, h1]
    · have e : lineOf one (y.1 ++ [d]) = lineOf one y.1 ++ [sgl y.2 d] := by
        unfold lineOf
        rw [line_snoc, lineStep_eq, h1]
        rfl
      show DoneOk one other (chg y.2 d) (lineOf one (y.1 ++ [d]))
      rw [e]
      exact done_next g.len g.btw h2 hd
theorem perm_flatMap {α β : Type} {f g : α → List β} : ∀ {l : List α}, (∀ x ∈ l, (f x).Perm (g x)) → (l.flatMap f).Perm (l.flatMap g)
  | [], _ => .nil
  | x :: l, h => by
    rw [List.flatMap_cons, List.flatMap_cons]
    exact (h x (List.mem_cons_self ..)).append (perm_flatMap fun y hy => h y (List.mem_cons_of_mem _ hy))
theorem sgl_inj {h : Hts} {a b : Deed} (e : sgl h a = sgl h b) : a = b := by
  unfold sgl at e
  obtain ⟨e1, e2⟩ := Prod.mk.inj e
  exact Prod.ext e1 (Prod.mk.inj e2).1
theorem rows_perm {n : Nat} {E : List Edge} {r : Int} {one other : Hts} {T : Nat} (ok : WebOk n E) (hl : one.length = n) (o2 : HtOk n r other) (c : Comes E one other) (ho : offM one other = (T : Int)) : ∀ t, (rowsR (singlesM one other) (lawPairs E (singlesM one other)) t).Perm ((rowsW n E r one other t).map fun x => lineOf one x.1)
  | 0 => .refl _
  | t + 1 => by
    have ih := rows_perm ok hl o2 c ho t
    have h1 := ih.flatMap_right (nextR (singlesM one other) (lawPairs E (singlesM one other)))
    show ((rowsR _ _ t).flatMap _).Perm (((rowsW n E r one other t).flatMap _).map _)
    refine h1.trans ?_
    rw [List.flatMap_map, List.map_flatMap]
    refine perm_flatMap fun x hx => ?_
    have g := rows_good (E := E) (r := r) hl ho t x hx
    obtain ⟨e1, dn⟩ := rows_line (E := E) (r := r) hl ho t x hx
    rw [nextW_eq g.len, List.map_map]
    unfold nextR
    have pm : ((singlesM one other).filter (freeR (lawPairs E (singlesM one other)) (lineOf one x.1))).Perm ((nearL n E r other x.2).map (sgl x.2)) := by
      refine (List.perm_ext_iff_of_nodup (singles_nodup.filter _) (nodup_map (fun a b e => sgl_inj e) (deedsL_nodup.filter _))).mpr fun s => ?_
      rw [List.mem_filter, List.mem_map]
      constructor
      · rintro ⟨h1, h2⟩
        exact (key ok hl o2 c g.btw dn h1).mp h2
      · rintro ⟨d, hd, rfl⟩
        have m := near_single hl g.btw hd
        exact ⟨m, (key ok hl o2 c g.btw dn m).mpr ⟨d, hd, rfl⟩⟩
    have p2 := pm.map fun d => lineOf one x.1 ++ [d]
    rw [List.map_map] at p2
    refine p2.trans (.of_eq ?_)
    apply List.map_congr_left
    intro d _
    show lineOf one x.1 ++ [sgl x.2 d] = lineOf one (x.1 ++ [d])
    unfold lineOf
    rw [line_snoc, lineStep_eq, e1]
    rfl
end Lv

set_option Elab.async false
set_option linter.all false
set_option maxRecDepth 100000
set_option maxHeartbeats 1000000
/-! the plain law: the tables of heights with numbers count the words -/
namespace Lv
def wsum (f : Hts → Int) (al : AL) : Int := (al.map fun p => p.2 * f p.1).sum
theorem wsum_cons (f : Hts → Int) (p : Hts × Int) (al : AL) : wsum f (p :: al) = p.2 * f p.1 + wsum f al := by
  unfold wsum
  rw [List.map_cons, List.sum_cons]
theorem any_key {al : AL} {h : Hts} : (al.any fun p => decide (p.1 = h)) = true ↔ h ∈ al.map (·.1) := by
  rw [List.any_eq_true, List.mem_map]
  exact ⟨fun ⟨p, hp, e⟩ => ⟨p, hp, of_decide_eq_true e⟩, fun ⟨p, hp, e⟩ => ⟨p, hp, decide_eq_true e⟩⟩
theorem put_none {al : AL} {h : Hts} {v : Int} (hn : h ∉ al.map (·.1)) : al.map (fun p => if p.1 = h then (p.1, v) else p) = al := by
  have e : al.map (fun p => if p.1 = h then (p.1, v) else p) = al.map id := by
    apply List.map_congr_left
    intro p hp
    rw [if_neg (fun q => hn (List.mem_map.mpr ⟨p, hp, q⟩))]
    rfl
  rw [e, List.map_id]
theorem look_none {al : AL} {h : Hts} (hn : h ∉ al.map (·.1)) : lookA al h = 0 := by
  unfold lookA
  have e : al.find? (fun p => decide (p.1 = h)) = none := by
    rw [List.find?_eq_none]
    intro p hp q
    exact hn (List.mem_map.mpr ⟨p, hp, of_decide_eq_true q⟩)
  rw [e]
  rfl
theorem wsum_append (f : Hts → Int) : ∀ a b : AL, wsum f (a ++ b) = wsum f a + wsum f b
  | [], b => by simp [wsum]
  | p :: a, b => by
    rw [List.cons_append, wsum_cons, wsum_cons, wsum_append f a b]
    omega
theorem wsum_mapped (f : Hts → Int) (h : Hts) (v : Int) : ∀ al : AL, NdA al → h ∈ al.map (·.1) → wsum f (al.map fun p => if p.1 = h then (p.1, v) else p) = wsum f al - lookA al h * f h + v * f h
  | [], _, m => by cases m
  | p :: al, hn, m => by
    have hn' : (p.1 :: al.map (·.1)).Nodup := hn
    obtain ⟨h1, h2⟩ := List.nodup_cons.mp hn'
    rw [List.map_cons, wsum_cons, wsum_cons]
    by_cases e : p.1 = h
    · rw [if_pos e, put_none (by rw [← e]; exact h1)]
      have el : lookA (p :: al) h = p.2 := by
        unfold lookA
        rw [List.find?_cons_of_pos (by simpa using e)]
        rfl
      rw [el]
      simp only [e]
      omega
    · rw [if_neg e]
      have m' : h ∈ al.map (·.1) := by
        rcases List.mem_cons.mp m with z | z
        · exact absurd z.symm e
        · exact z
      have el : lookA (p :: al) h = lookA al h := by
        unfold lookA
        rw [List.find?_cons_of_neg (by simpa using e)]
      rw [wsum_mapped f h v al h2 m', el]
      omega
theorem wsum_add (f : Hts → Int) {al : AL} (hn : NdA al) (h : Hts) (v : Int) : wsum f (addA al h v) = wsum f al + v * f h := by
  unfold addA putA
  by_cases e : (al.any fun p => decide (p.1 = h)) = true
  · rw [if_pos e, wsum_mapped f h _ al hn (any_key.mp e), Int.add_mul]
    omega
  · have hm : h ∉ al.map (·.1) := fun q => e (any_key.mpr q)
    rw [if_neg e, wsum_append, wsum_cons, look_none hm]
    simp [wsum]
def nsum (nx : Hts → List Deed) (f : Hts → Int) (h : Hts) : Int := ((nx h).map fun d => f (chg h d)).sum
theorem wsum_stepH (nx : Hts → List Deed) (f : Hts → Int) (p : Hts × Int) {more : AL} (hn : NdA more) : wsum f (stepH nx more p) = wsum f more + p.2 * nsum nx f p.1 := by
  unfold stepH nsum
  generalize nx p.1 = l
  induction l generalizing more with
  | nil => simp
  | cons d l ih =>
    rw [List.foldl_cons, ih (more := addA more (chg p.1 d) p.2) (putA_nd hn _ _), wsum_add f hn, List.map_cons, List.sum_cons, Int.mul_add]
    omega
theorem wsum_foldl (nx : Hts → List Deed) (f : Hts → Int) : ∀ (rows more : AL), NdA more → wsum f (rows.foldl (stepH nx) more) = wsum f more + wsum (nsum nx f) rows
  | [], more, _ => by simp [wsum]
  | p :: rows, more, hn => by
    rw [List.foldl_cons, wsum_foldl nx f rows _ (stepH_nd hn), wsum_stepH nx f p hn, wsum_cons]
    omega
theorem wsum_stepA (nx : Hts → List Deed) (f : Hts → Int) (rows : AL) : wsum f (stepA nx rows) = wsum (nsum nx f) rows := by
  unfold stepA
  rw [wsum_foldl nx f rows [] (by unfold NdA; exact List.nodup_nil)]
  simp [wsum]
theorem sum_perm {a b : List Int} (h : a.Perm b) : a.sum = b.sum := by
  induction h with
  | nil => rfl
  | cons x _ ih => rw [List.sum_cons, List.sum_cons, ih]
  | swap x y l => rw [List.sum_cons, List.sum_cons, List.sum_cons, List.sum_cons]; omega
  | trans _ _ ih1 ih2 => rw [ih1, ih2]
theorem sum_flatMap {α : Type} (g : α → List Int) : ∀ l : List α, (l.flatMap g).sum = (l.map fun x => (g x).sum).sum
  | [] => rfl
  | x :: l => by rw [List.flatMap_cons, List.sum_append, List.map_cons, List.sum_cons, sum_flatMap g l]
section
variable {n : Nat} {E : List Edge} {r : Int} {one other : Hts} {T : Nat}
theorem nx_perm (ok : WebOk n E) (r : Int) (other h : Hts) : (nextM n E r h other).Perm (nearL n E r other h) := by
  have p := nextM_perm n E r h other
  rw [doable_eq ok] at p
  exact p
theorem lv_sum (ok : WebOk n E) (hl : one.length = n) (ho : offM one other = (T : Int)) : ∀ (t : Nat) (f : Hts → Int), wsum f (lvA (fun h => nextM n E r h other) one t).1 = ((rowsW n E r one other t).map fun x => f x.2).sum
  | 0, f => by simp [lvA, rowsW, wsum]
  | t + 1, f => by
    show wsum f (stepA (fun h => nextM n E r h other) (lvA (fun h => nextM n E r h other) one t).1) = _
    rw [wsum_stepA, lv_sum ok hl ho t]
    show _ = (((rowsW n E r one other t).flatMap (nextW n E r other)).map fun x => f x.2).sum
    rw [List.map_flatMap, sum_flatMap]
    congr 1
    apply List.map_congr_left
    intro x hx
    have g := rows_good (E := E) (r := r) hl ho t x hx
    rw [nextW_eq g.len, List.map_map]
    exact sum_perm ((nx_perm ok r other x.2).map _)
theorem lv_good (ok : WebOk n E) (hl : one.length = n) (ho : offM one other = (T : Int)) : ∀ t, ∀ q ∈ (lvA (fun h => nextM n E r h other) one t).1.map (·.1), Good n one other T t q
  | 0, q, h => by
    rw [List.mem_singleton.mp h]
    exact ⟨hl, btw_self, by rw [ho]; simp⟩
  | t + 1, q, h => by
    obtain ⟨p, hp, d, hd, e⟩ := stepA_mem h
    have g := lv_good ok hl ho t p.1 (List.mem_map.mpr ⟨p, hp, rfl⟩)
    rw [e]
    exact good_next g ((nx_perm ok r other p.1).mem_iff.mp hd)
theorem filter_two {α : Type} {p q : α → Bool} (h : ∀ x, p x = true → q x = true → False) : ∀ l : List α, (l.filter p).length + (l.filter q).length ≤ l.length
  | [] => by simp
  | x :: l => by
    have ih := filter_two h l
    rw [List.filter_cons, List.filter_cons, List.length_cons]
    by_cases e : p x = true
    · by_cases e2 : q x = true
      · exact (h x e e2).elim
      · rw [if_pos e, if_neg e2, List.length_cons]
        omega
    · rw [if_neg e]
      by_cases e2 : q x = true
      · rw [if_pos e2, List.length_cons]
        omega
      · rw [if_neg e2]
        omega
theorem near_few (h : Hts) : (nearL n E r other h).length ≤ n := by
  unfold nearL deedsL
  rw [List.filter_append, List.filter_map, List.filter_map, List.length_append, List.length_map, List.length_map, List.filter_filter, List.filter_filter]
  have z := filter_two (p := fun a => (nearer h other ∘ fun k => ((true, k) : Deed)) a && upL n E r h a) (q := fun a => (nearer h other ∘ fun k => ((false, k) : Deed)) a && downL n E h a) (fun k h1 h2 => by
    rw [Bool.and_eq_true] at h1 h2
    have a := nearer_iff.mp h1.1
    have b := nearer_iff.mp h2.1
    rcases a with ⟨_, a⟩ | ⟨a, _⟩
    · rcases b with ⟨b, _⟩ | ⟨_, b⟩
      · cases b
      · have a : ht h k < ht other k := a
        have b : ht other k < ht h k := b
        omega
    · cases a) (List.range n)
  rw [List.length_range] at z
  exact z
theorem near_end : nearL n E r other other = [] := by
  unfold nearL
  rw [List.filter_eq_nil_iff]
  intro d _ q
  rcases nearer_iff.mp q with ⟨_, a⟩ | ⟨_, a⟩ <;> omega
theorem stepH_nil {nx : Hts → List Deed} {p : Hts × Int} (h : nx p.1 = []) (more : AL) : stepH nx more p = more := by
  unfold stepH
  rw [h]
  rfl
theorem foldl_nil {nx : Hts → List Deed} : ∀ {rows : AL} (more : AL), (∀ p ∈ rows, nx p.1 = []) → rows.foldl (stepH nx) more = more
  | [], _, _ => rfl
  | p :: rows, more, h => by
    rw [List.foldl_cons, stepH_nil (h p (List.mem_cons_self ..))]
    exact foldl_nil more fun q hq => h q (List.mem_cons_of_mem _ hq)
theorem rows_pos (ok : WebOk n E) (hl : one.length = n) (o2 : HtOk n r other) (c : Comes E one other) (ho : offM one other = (T : Int)) {t : Nat} (ht : t ≤ T) : 1 ≤ (rowsW n E r one other t).length := by
  have h := rows_mono2 ok hl o2 c ho (t := 0) t (by omega)
  rw [Nat.zero_add] at h
  exact h
theorem sum_ones {α : Type} : ∀ l : List α, (l.map fun _ => (1 : Int)).sum = (l.length : Int)
  | [] => rfl
  | x :: l => by
    rw [List.map_cons, List.sum_cons, sum_ones l, List.length_cons]
    omega
theorem lv_one (ok : WebOk n E) (hl : one.length = n) (ho : offM one other = (T : Int)) (t : Nat) : ((lvA (fun h => nextM n E r h other) one t).1.map fun p => p.2 * 1).sum = ((rowsW n E r one other t).length : Int) := by
  have h := lv_sum (r := r) ok hl ho t (fun _ => 1)
  unfold wsum at h
  rw [h, sum_ones]
theorem runs_of (ok : WebOk n E) (hl : one.length = n) (o2 : HtOk n r other) (c : Comes E one other) (ho : offM one other = (T : Int)) (hT : T ≤ 7) : Runs (fun h => nextM n E r h other) one T := by
  refine ⟨hT, fun t ht z => ?_, ?_, fun t ht => ?_⟩
  · have h := lv_one (r := r) ok hl ho t
    rw [z] at h
    have := rows_pos ok hl o2 c ho ht
    simp at h
    omega
  · show (lvA (fun h => nextM n E r h other) one T).1.foldl (stepH _) [] = []
    refine foldl_nil _ fun p hp => ?_
    have g := lv_good (r := r) ok hl ho T p.1 (List.mem_map.mpr ⟨p, hp, rfl⟩)
    have e : p.1 = other := off_zero g.len o2.len (by rw [g.off]; omega)
    rw [e]
    have pm := nx_perm ok r other other
    rw [near_end] at pm
    exact pm.eq_nil
  · have h1 := lvA_len (nx := fun h => nextM n E r h other) (one := one) (c := 4) (fun h => by
      rw [(nx_perm ok r other h).length_eq]
      exact Nat.le_trans (near_few h) ok.hi) t
    have h2 : 4 ^ t ≤ 4 ^ 8 := Nat.pow_le_pow_right (by decide) (by omega)
    have h3 : 4 ^ 8 = 65536 := by decide
    omega
theorem find_put (al : AL) (h : Hts) (v : Int) : (putA al h v).find? (fun p => decide (p.1 = h)) = some (h, v) := by
  unfold putA
  by_cases e : (al.any fun p => decide (p.1 = h)) = true
  · rw [if_pos e]
    induction al with
    | nil => cases e
    | cons p al ih =>
      rw [List.map_cons]
      by_cases q : p.1 = h
      · rw [if_pos q, List.find?_cons_of_pos (by simpa using q), q]
      · rw [if_neg q, List.find?_cons_of_neg (by simpa using q)]
        refine ih ?_
        rw [List.any_cons, Bool.or_eq_true] at e
        rcases e with z | z
        · exact absurd (of_decide_eq_true z) q
        · exact z
  · rw [if_neg e, List.find?_append]
    have e2 : al.find? (fun p => decide (p.1 = h)) = none := by
      rw [List.find?_eq_none]
      intro p hp q
      exact e (List.any_eq_true.mpr ⟨p, hp, q⟩)
    rw [e2]
    simp
theorem lv_last (ok : WebOk n E) (hl : one.length = n) (o2 : HtOk n r other) (c : Comes E one other) (ho : offM one other = (T : Int)) : (lvA (fun h => nextM n E r h other) one T).1 = [(other, ((rowsW n E r one other T).length : Int))] := by
  have nd := lvA_nd (fun h => nextM n E r h other) one T
  have g := lv_good (r := r) ok hl ho T
  have s := lv_one (r := r) ok hl ho T
  have pos := rows_pos ok hl o2 c ho (Nat.le_refl T)
  revert nd g s
  generalize (lvA (fun h => nextM n E r h other) one T).1 = al
  intro nd g s
  have key : ∀ p ∈ al, p.1 = other := fun p hp => by
    have g := g p.1 (List.mem_map.mpr ⟨p, hp, rfl⟩)
    exact off_zero g.len o2.len (by rw [g.off]; omega)
  match al, nd, s, key with
  | [], _, s, _ =>
    simp at s
    omega
  | [p], _, s, key =>
    have e := key p (List.mem_cons_self ..)
    have s' : p.2 * 1 + 0 = ((rowsW n E r one other T).length : Int) := s
    obtain ⟨a, b⟩ := p
    simp only at e s'
    subst e
    have : b = ((rowsW n E r one a T).length : Int) := by omega
    rw [this]
  | p :: q :: l, nd, _, key =>
    have nd' : (p.1 :: q.1 :: l.map (·.1)).Nodup := nd
    have h1 := (List.nodup_cons.mp nd').1
    have e1 := key p (List.mem_cons_self ..)
    have e2 := key q (List.mem_cons_of_mem _ (List.mem_cons_self ..))
    exact absurd (by rw [e1, ← e2]; exact List.mem_cons_self ..) h1
theorem find_last (ok : WebOk n E) (hl : one.length = n) (o2 : HtOk n r other) (c : Comes E one other) (ho : offM one other = (T : Int)) (hT : T ≤ 7) :
    ((lvA (fun h => nextM n E r h other) one (T + 1)).2.find? fun p => decide (p.1 = other)) = some (other, ((rowsW n E r one other T).length : Int)) := by
  have fin := (runs_of (r := r) ok hl o2 c ho hT).fin
  have e : (lvA (fun h => nextM n E r h other) one (T + 1)).2 = mergeA (lvA (fun h => nextM n E r h other) one T).2 (lvA (fun h => nextM n E r h other) one (T + 1)).1 := rfl
  rw [e, fin]
  show (lvA (fun h => nextM n E r h other) one T).2.find? _ = _
  match T, ho with
  | 0, ho =>
    have e1 : one = other := off_zero hl o2.len (by rw [ho]; rfl)
    subst e1
    simp [lvA, rowsW]
  | t + 1, ho =>
    have l := lv_last (r := r) ok hl o2 c ho
    have e2 : (lvA (fun h => nextM n E r h other) one (t + 1)).2 = mergeA (lvA (fun h => nextM n E r h other) one t).2 (lvA (fun h => nextM n E r h other) one (t + 1)).1 := rfl
    rw [e2, l]
    exact find_put _ _ _
end
/-! ### the box -/
theorem pow_ge (d : Nat) : d + 1 ≤ 2 ^ d := Nat.lt_two_pow_self
theorem box_le {one other : Hts} : ∀ i, 0 ≤ (List.range i).foldl (boxF one other) 1 ∧ (List.range i).foldl (boxF one other) 1 ≤ ((2 ^ (sumN (fun k => absd (ht one k) (ht other k)) i).toNat : Nat) : Int)
  | 0 => by simp [sumN]
  | i + 1 => by
    obtain ⟨h0, h1⟩ := box_le (one := one) (other := other) i
    rw [List.range_succ, List.foldl_append, List.foldl_cons, List.foldl_nil, sumN_succ]
    unfold boxF
    have hs := (sumN_pos (f := fun k => absd (ht one k) (ht other k)) (fun k => absd_nn _ _) i).1
    have hd := absd_spec (ht one i) (ht other i)
    have ed : (if ht one i - ht other i < 0 then -(ht one i - ht other i) else ht one i - ht other i) = absd (ht one i) (ht other i) := by
      split <;> omega
    rw [ed]
    have hn := absd_nn (ht one i) (ht other i)
    generalize absd (ht one i) (ht other i) = d at *
    obtain ⟨m, rfl⟩ := Int.eq_ofNat_of_zero_le hn
    obtain ⟨u, hu⟩ := Int.eq_ofNat_of_zero_le hs
    have hp := pow_ge m
    change _ ∧ _ ≤ ((2 ^ (sumN (fun k => absd (ht one k) (ht other k)) i + (m : Int)).toNat : Nat) : Int)
    rw [hu] at h1 ⊢
    have e2 : ((u : Int) + (m : Int)).toNat = u + m := by omega
    have e3 : ((u : Int)).toNat = u := by omega
    rw [e2, Nat.pow_add]
    rw [e3] at h1
    refine ⟨Int.mul_nonneg h0 (by omega), ?_⟩
    have hp' : ((m : Int) + 1) ≤ ((2 ^ m : Nat) : Int) := by omega
    have := Int.mul_le_mul h1 hp' (by omega) (by omega)
    rw [Int.natCast_mul]
    exact this
theorem box_small {one other : Hts} {T : Nat} (ho : offM one other = (T : Int)) (hT : T ≤ 7) : boxM one other ≤ 4000 := by
  have h := (box_le (one := one) (other := other) one.length).2
  have e : sumN (fun k => absd (ht one k) (ht other k)) one.length = (T : Int) := by rw [← offM_eq rfl, ho]
  rw [e] at h
  have e3 : ((T : Int)).toNat = T := by omega
  rw [e3] at h
  have h2 : 2 ^ T ≤ 2 ^ 7 := Nat.pow_le_pow_right (by decide) hT
  have h3 : 2 ^ 7 = 128 := by decide
  unfold boxM
  omega
end Lv

set_option Elab.async false
set_option linter.all false
set_option maxRecDepth 100000
set_option maxHeartbeats 1000000
/-! sorted of lines -/
namespace Lv
open PySem PySem.Spec L2
theorem toks_S (s : Sgl) : PySem.W.keyToks (eS s) = [.inl 1, .inl (if s.1 = true then 1 else 0), .inl 1, .inl (s.2.1 : Int), .inl 1, .inl s.2.2, .inl 0] := by
  simp [eS, PySem.W.keyToks, PySem.W.keyToksAll]
theorem toks_inj : ∀ l m : List Sgl, PySem.W.keyToksAll (l.map eS) = PySem.W.keyToksAll (m.map eS) → l = m
  | [], [], _ => rfl
  | [], _ :: _, h => by simp [PySem.W.keyToksAll] at h
  | _ :: _, [], h => by simp [PySem.W.keyToksAll] at h
  | s :: l, t :: m, h => by
    rw [List.map_cons, List.map_cons, PySem.W.keyToksAll, PySem.W.keyToksAll, toks_S, toks_S] at h
    simp only [List.cons_append, List.nil_append, List.cons.injEq, Sum.inl.injEq, true_and] at h
    obtain ⟨h1, h2, h3, h4⟩ := h
    have e := toks_inj l m h4
    obtain ⟨u, a, v⟩ := s
    obtain ⟨w, b, x⟩ := t
    simp only at h1 h2 h3
    have e1 : u = w := by cases u <;> cases w <;> simp_all
    have e2 : a = b := by omega
    rw [e, e1, e2, h3]
def leL : List Sgl → List Sgl → Bool := PySem.W.dataLe false eL
theorem leL_total : PySem.W.TotalLe leL := by
  unfold leL PySem.W.dataLe
  exact PySem.W.sortLe_total _ _ _
theorem leL_anti (a b : List Sgl) (h1 : leL a b = true) (h2 : leL b a = true) : a = b := by
  have q1 : (!(PyProof.Rows.lexLt PyProof.Rows.itemOrd (PySem.W.keyToks (eL b)) (PySem.W.keyToks (eL a)))) = true := h1
  have q2 : (!(PyProof.Rows.lexLt PyProof.Rows.itemOrd (PySem.W.keyToks (eL a)) (PySem.W.keyToks (eL b)))) = true := h2
  rw [Bool.not_eq_true'] at q1 q2
  have e := (PyProof.Rows.listOrd PyProof.Rows.itemOrd).total _ _ q2 q1
  refine toks_inj a b ?_
  simpa [eL, PySem.W.keyToks] using e
theorem lines_sort {xs ys : List (List Sgl)} (h : xs.Perm ys) : srtD (xs.map eL) = srtD (ys.map eL) := by
  rw [srtD_map, srtD_map]
  congr 1
  have t := leL_total
  exact PySem.W.Srt.the_of_perm leL (fun a b c h1 h2 => t.trans a b c h1 h2) (fun a b => Bool.or_eq_true_iff.mpr (t.total a b)) leL_anti ((List.mergeSort_perm xs leL).trans h) (PySem.W.sort_pairwise t xs)
theorem eqv_all {β : Type} {enc : β → PyData} (h : ∀ b, PyData.eqv (enc b) (enc b) = true) : ∀ bs : List β, PyData.eqvAll (bs.map enc) (bs.map enc) = true
  | [] => by simp [PyData.eqvAll]
  | b :: bs => by
    rw [List.map_cons]
    simp [PyData.eqvAll, h b, eqv_all h bs]
theorem eL_eqv (l : List Sgl) : PyData.eqv (eL l) (eL l) = true := by
  have h := eqv_all (enc := eS) (fun b => by rw [eS_eqv]; simp) l
  simpa [eL, PyData.eqv] using h
theorem srtD_eqv (xs : List (List Sgl)) : PyData.eqv (.list (srtD (xs.map eL))) (.list (srtD (xs.map eL))) = true := by
  rw [srtD_map]
  have h := eqv_all eL_eqv (xs.mergeSort (PySem.W.dataLe false eL))
  simpa [PyData.eqv] using h
theorem alikeL : ∀ l m : List Sgl, PySem.W.alikeAll (l.map eS) (m.map eS) = true
  | [], _ => by simp [PySem.W.alikeAll]
  | _ :: _, [] => by simp [PySem.W.alikeAll]
  | s :: l, t :: m => by
    rw [List.map_cons, List.map_cons, PySem.W.alikeAll, eS_alike, alikeL l m]
    rfl
theorem srtOk_L {bs : List (List Sgl)} (hl : bs.length ≤ 1000000) (h : (∀ l ∈ bs, l ≠ []) ∨ bs.length ≤ 1) : SrtOk (bs.map eL) := by
  refine ⟨PySem.W.AllAlike.of fun a b => ?_, ?_, by rw [List.length_map, sizeLine_eq]; omega, fun d hd => ?_⟩
  · show PySem.W.alike (.tuple (a.map eS)) (.tuple (b.map eS)) = true
    rw [PySem.W.alike]
    exact alikeL a b
  · rcases h with h | h
    · refine .inl (.inl fun d hd => ?_)
      obtain ⟨l, hl, rfl⟩ := List.mem_map.mp hd
      cases l with
      | nil => exact absurd rfl (h _ hl)
      | cons s l => exact ⟨_, _, rfl⟩
    · refine .inr ⟨by rw [List.length_map]; exact h, fun d hd => ?_⟩
      obtain ⟨l, _, rfl⟩ := List.mem_map.mp hd
      exact fun z => nomatch z
  · obtain ⟨l, _, rfl⟩ := List.mem_map.mp hd
    exact Nat.le_trans (eL_depth l) (by decide)
end Lv

set_option Elab.async false
set_option linter.all false
set_option maxRecDepth 100000
set_option maxHeartbeats 8000000
namespace Lv
open PySem PySem.Spec L2
open PyProof.Rows (envOfC)
section
variable {P : Program} {w : World} {K : PySem.W.Frag} {mg : Str → Option Value} {base : Heap} {σ : L2.St} {H H' H1 H2 : Hp} {te : TE} {r a : Addr} {ns : List Int}
theorem ed_eqL {ta tb : TE} {ds es : List PyData} (ha : EL ta σ H ds) (hb : EL tb σ H es) (h1 : SeqAt.shaped (.list ds) = true) (h2 : SeqAt.shaped (.list es) = true) : ED (tOp (rEqD K) ta tb) σ H (.bool (PyData.eqv (.list ds) (.list es))) := fun H1 s Q q =>
  ha H1 s _ fun p xs H2 n2 s2 hp t2 => hb H2 (s.trans s2) _ fun p' ys H3 n3 s3 hp3 t3 =>
    ⟨.list ds, .list es, .lst (.inl (.inl (s3 _ _ hp))) (t2.mono s3).dp, .lst (.inl (.inl hp3)) t3.dp, h1, h2, q _ H3 (s2.trans s3) (.bl _)⟩
theorem eb_isV {i : Nat} {v : V} (hi : σ[i]? = some (some v)) : EB (tTest (tOp (fun x y H Q => y = .non ∧ Q (.bl (decide (x = .non))) H) (tVar i) (tC .non))) σ H (decide (v = .non)) := fun H1 s Q q => ⟨v, hi, rfl, _, rfl, q H1 (Same.refl _)⟩
theorem z_asgC {ta : TA} {sp : Sp} {ds : List PyData} {i : Nat} {u : TS} {D : Ends} (h : EA ta σ H ds) (k : ∀ vs H1, Same H H1 → TpA H1 vs ds → sp vs H1 (fun x H2 => u D (σ.set i (some x)) H2) E0) : tSeq (tAsg (tCall sp [] E0 ta) (gName i)) u D σ H :=
  h H (Same.refl H) _ fun vs H1 s1 hvs => by
    show sp (vs ++ []) H1 _ E0
    rw [List.append_nil]
    exact k vs H1 s1 hvs
theorem rowsR_len (some : List Sgl) (pairs : List (Sgl × Sgl)) : ∀ t, ∀ x ∈ rowsR some pairs t, x.length = t
  | 0, x, hx => by rw [List.mem_singleton.mp hx]; rfl
  | t + 1, x, hx => by
    obtain ⟨y, hy, hx⟩ := List.mem_flatMap.mp hx
    obtain ⟨d, _, rfl⟩ := List.mem_map.mp hx
    rw [List.length_append, rowsR_len some pairs t y hy]
    rfl
theorem nextR_few (some : List Sgl) (pairs : List (Sgl × Sgl)) (x : List Sgl) : (nextR some pairs x).length ≤ some.length := by
  unfold nextR
  rw [List.length_map]
  exact List.length_filter_le _ _
theorem plainS (s : Sgl) : PlainD 2 (eS s) := by
  refine ⟨by show 3 ≤ 100000; decide, fun e he => ?_⟩
  rcases List.mem_cons.mp he with z | z
  · rw [z]; exact trivial
  rcases List.mem_cons.mp z with z | z
  · rw [z]; exact trivial
  rcases List.mem_cons.mp z with z | z
  · rw [z]; exact trivial
  · cases z
theorem plainS1 (s : Sgl) : PlainD 1 (eS s) := by
  refine ⟨by show 3 ≤ 100000; decide, fun e he => ?_⟩
  rcases List.mem_cons.mp he with z | z
  · rw [z]; exact trivial
  rcases List.mem_cons.mp z with z | z
  · rw [z]; exact trivial
  rcases List.mem_cons.mp z with z | z
  · rw [z]; exact trivial
  · cases z
theorem plainP (p : Sgl × Sgl) : PlainD 2 (eP p) := by
  refine ⟨by show 2 ≤ 100000; decide, fun e he => ?_⟩
  rcases List.mem_cons.mp he with z | z
  · rw [z]; exact plainS1 _
  rcases List.mem_cons.mp z with z | z
  · rw [z]; exact plainS1 _
  · cases z
/-! ### law -/
theorem fnxO {x : Str} {i : Nat} {N ps : List Str} {k : Nat} {sp : Sp} {f : Addr} {fd : FuncData} (F : FnP K x (top i) f fd) (S : FnScope N ps (defScope (top i)))
    (len : ∀ vs H Q E, sp vs H Q E → vs.length = ps.length)
    (hbody : ∀ (f : Addr) (cdv : Value) (A : Around) (outer : List Env) (s : Shared) (H : Hp) (vs : List V) (Q : VK) (E : XK), Room k (A.deeper (envOfC x (defScope (top i)) s.heap.objs.size f cdv)) → sp vs H Q E →
      ∃ t, PSs (cxOf CX0 P w K mg base N x (defScope (top i)) f cdv A outer s H E).nox (defBody (top i)) t ∧ t { nx := fun _ H' => Q .non H', rt := Q } (start N vs) H) : FnOk P w K mg base CX0 (k + 1) f fd ps sp := by
  refine F.ok S len fun cdv A outer s H vs Q E hr h => ?_
  obtain ⟨t, a, b⟩ := hbody _ cdv A outer s H vs Q E hr h
  exact ⟨t, a.nox, b⟩
def spLaw (K : PySem.W.Frag) : Sp := fun vs H Q _ => ∃ (a : Addr) (ns : List Int), vs = [.ref a] ∧ SqL K H a (ns.map V.int) ∧ ∀ H', Q (.bl true) H'
theorem ok_law (T : Tx K mg) {f0 : Addr} {fd0 : FuncData} (F0 : FnP K "law" (top 60) f0 fd0) (G_law_table : Fnx P w K mg base 3 "_law_table" ["_law_row", "_law_most", "_law_size"] (spTable K)) (G_law_heights : Fnx P w K mg base 2 "_law_heights" ["_law_row", "_law_many_here", "_law_roof"] (spHeights K)) (G_law_reached : Fnx P w K mg base 4 "_law_reached" ["_law_row", "_law_web", "_law_roof", "_law_one", "_law_most"] (spReached K))
    (G_law_singles : Fnx P w K mg base 1 "_law_singles" ["_law_one", "_law_other"] (spL dm_law_singles)) (G_law_rule : Fnx P w K mg base 1 "_law_rule" ["_law_web", "_law_first", "_law_second"] (spD dm_law_rule)) (G_law_alike : Fnx P w K mg base 4 "_law_alike" ["_law_found", "_law_due"] (spD (dm_alike 4)))
    (G_deeds_of : Fnx P w K mg base 8 "deeds_of" ["web", "roof", "one", "other"] (spD dm_deeds_of)) (G_order_pairs : Fnx P w K mg base 8 "order_pairs" ["web", "roof", "one", "other"] (spD dm_order_pairs)) (G_law_ways : Fnx P w K mg base 4 "_law_ways" ["_law_web", "_law_roof", "_law_one", "_law_other", "_law_most"] spWays)
    (G_ways_count : Fnx P w K mg base 9 "ways_count" ["web", "roof", "one", "other"] (spD dm_ways_count)) (G_law_lines : Fnx P w K mg base 2 "_law_lines" ["_law_one", "_law_words"] spLines) : FnOk P w K mg base CX0 10 f0 fd0 ["_law_script"] (spLaw K) := by
  refine fnxO F0 sc_law (fun vs H Q E h => by obtain ⟨a, ns, rfl, _⟩ := h; rfl) fun f cdv A outer s H vs Q E' hr h => ?_
  obtain ⟨a, ns, rfl, hS, q⟩ := h
  refine ⟨_, (pss_cons (ps_set (i := 1) sc_law.nd rfl (Or.inl rfl) (pe_lst (pa_cons (pv 0) (pa_cons pe_int (pa_cons pe_int (pa_cons pe_int pa_nil))))))
      (pss_cons (ps_asg (pe_cf G_law_table (hr.mono (by decide)) rfl (pa_cons (pv 1) (pa_cons pe_int (pa_cons pe_int pa_nil)))) (pg_tup rfl (pgs_cons (pg_name (i := 2) sc_law.nd rfl (Or.inr rfl)) (pgs_cons (pg_name (i := 3) sc_law.nd rfl (Or.inl rfl)) pgs_nil))))
      (pss_cons (ps_set (i := 4) sc_law.nd rfl (Or.inl rfl) (pe_cf G_law_heights (hr.mono (by decide)) rfl (pa_cons (pv 1) (pa_cons (pe_ix (r := rIxT K) ix_tup (pv 2) pe_int (fun _ _ => rfl)) (pa_cons (pv 3) pa_nil)))))
      (pss_cons (ps_set (i := 5) sc_law.nd rfl (Or.inl rfl) (pe_cf G_law_reached (hr.mono (by decide)) rfl (pa_cons (pv 1) (pa_cons (pv 2) (pa_cons (pv 3) (pa_cons (pv 4) (pa_cons pe_int pa_nil)))))))
      (pss_cons (ps_par (i := 6) (j := 7) (by rfl) sc_law.nd rfl rfl (by decide) rfl rfl (pa_cons (pe_cf G_law_singles (hr.mono (by decide)) rfl (pa_cons (pv 4) (pa_cons (pv 5) pa_nil))) (pa_cons (pe_lst pa_nil) pa_nil)) (by rfl))
      (pss_cons (ps_for PassesOwn.never rfl (pi_list (pv 6)) (pg_name (i := 8) sc_law.nd rfl (Or.inr rfl)) (pss_one (ps_set (i := 7) sc_law.nd rfl (Or.inl rfl) (pe_op op_cat (pv 7) (pe_lc (own := [("_law_second", 15)]) (g := gName 15) rfl sc_law.nd (pi_list (pv 6)) (blkOk_by (own := [("_law_second", 15)]) (N := N_law) (sc := defScope (top 60)) (by decide +kernel)) (fun _ _ _ _ _ => (pg_name (i := 15) sc_law.nd rfl (Or.inl rfl))) (fun _ _ _ _ _ => pts_one (PW.pt (pw_and (pt_cmpR (r := rNeD K) (op_neD hr.units) (pv 8) (pv 15) (nomark _)) (pw_and1 (pt_val (pe_cf G_law_rule (hr.mono (by decide)) rfl (pa_cons (pv 2) (pa_cons (pv 8) (pa_cons (pv 15) pa_nil))))))))) (fun _ _ _ _ _ => (pe_tup (pa_cons (pv 8) (pa_cons (pv 15) pa_nil)))))))))
      (pss_cons (ps_if (pt_not (pt_val (pe_cf G_law_alike (hr.mono (by decide)) rfl (pa_cons (pe_cf G_deeds_of (hr.mono (by decide)) rfl (pa_cons (pv 2) (pa_cons (pv 3) (pa_cons (pv 4) (pa_cons (pv 5) pa_nil))))) (pa_cons (pe_callTy call_tuple_of rfl T.b_tuple (by decide +kernel) (pa_cons (pv 6) pa_nil)) pa_nil))))) (pss_one (ps_ret pe_bl)) pss_nil)
      (pss_cons (ps_if (pt_not (pt_val (pe_cf G_law_alike (hr.mono (by decide)) rfl (pa_cons (pe_cf G_order_pairs (hr.mono (by decide)) rfl (pa_cons (pv 2) (pa_cons (pv 3) (pa_cons (pv 4) (pa_cons (pv 5) pa_nil))))) (pa_cons (pe_callTy call_tuple_of rfl T.b_tuple (by decide +kernel) (pa_cons (pe_callB (cr_sortedD hr) rfl T.b_sorted (by decide +kernel) (pa_cons (pv 7) pa_nil)) pa_nil)) pa_nil))))) (pss_one (ps_ret pe_bl)) pss_nil)
      (pss_cons (ps_set (i := 9) sc_law.nd rfl (Or.inl rfl) (pe_cf G_law_ways (hr.mono (by decide)) rfl (pa_cons (pv 2) (pa_cons (pv 3) (pa_cons (pv 4) (pa_cons (pv 5) (pa_cons pe_int pa_nil)))))))
      (pss_cons (ps_if (pt_cmpR op_isN (pv 9) pe_non (nomark _)) (pss_one (ps_ret (pe_cmpR op_gt (pe_cf G_ways_count (hr.mono (by decide)) rfl (pa_cons (pv 2) (pa_cons (pv 3) (pa_cons (pv 4) (pa_cons (pv 5) pa_nil))))) pe_int (nomark _)))) pss_nil)
      (pss_cons (ps_set (i := 10) sc_law.nd rfl (Or.inl rfl) (pe_lst (pa_cons (pe_tup pa_nil) pa_nil)))
      (pss_cons (ps_for PassesOwn.never rfl (pi_list (pv 6)) (pg_name (i := 11) sc_law.nd rfl (Or.inl rfl)) (pss_cons (ps_set (i := 12) sc_law.nd rfl (Or.inl rfl) (pe_lst pa_nil))
      (pss_cons (ps_for PassesOwn.never rfl (pi_list (pv 10)) (pg_name (i := 13) sc_law.nd rfl (Or.inr rfl)) (pss_one (ps_for PassesOwn.never rfl (pi_list (pv 6)) (pg_name (i := 14) sc_law.nd rfl (Or.inr rfl)) (pss_one (ps_if (PW.pt (pw_and (pt_cmpR (r := rNotInT K) (op_notInT hr) (pv 14) (pv 13) (by rfl)) (pw_and1 (pt_cmpR (r := rEqD K) (op_eqD hr.units) (pe_lc (own := [("_law_first", 8), ("_law_second", 15)]) (g := gTup K 2 (gCons (gName 8) (gCons (gName 15) (gNil)))) rfl sc_law.nd (pi_list (pv 7)) (blkOk_by (own := [("_law_first", 8), ("_law_second", 15)]) (N := N_law) (sc := defScope (top 60)) (by decide +kernel)) (fun _ _ _ _ _ => (pg_tup rfl (pgs_cons (pg_name (i := 8) sc_law.nd rfl (Or.inl rfl)) (pgs_cons (pg_name (i := 15) sc_law.nd rfl (Or.inl rfl)) pgs_nil)))) (fun _ _ _ _ _ => pts_one (PW.pt (pw_and (pt_cmpR (r := rEqD K) (op_eqD hr.units) (pv 15) (pv 14) (nomark _)) (pw_and1 (pt_cmpR (r := rNotInT K) (op_notInT hr) (pv 8) (pv 13) (by rfl)))))) (fun _ _ _ _ _ => (pv 8))) (pe_lst pa_nil) (nomark _))))) (pss_one (ps_expr (pe_bm PySem.F.plainAttrs_list PySem.F.slot_list_append PySem.F.type_list_append mt_append (pv 12) (pa_cons (pe_op (r := rCatA K) op_catA (pv 13) (pe_tup (pa_cons (pv 14) pa_nil))) pa_nil)))) pss_nil)))))
      (pss_one (ps_set (i := 10) sc_law.nd rfl (Or.inl rfl) (pv 12))))))
      (pss_one (ps_ret (pe_and (pe_cmpR (r := rEqD K) (op_eqD hr.units) (pe_callB (cr_sortedD hr) rfl T.b_sorted (by decide +kernel) (pa_cons (pv 10) pa_nil)) (pe_callB (cr_sortedD hr) rfl T.b_sorted (by decide +kernel) (pa_cons (pe_cf G_law_lines (hr.mono (by decide)) rfl (pa_cons (pv 4) (pa_cons (pv 9) pa_nil))) pa_nil)) (nomark _)) (pe_one (pe_cmpR op_eq (pe_cf G_ways_count (hr.mono (by decide)) rfl (pa_cons (pv 2) (pa_cons (pv 3) (pa_cons (pv 4) (pa_cons (pv 5) pa_nil))))) (pe_callB call_len_seq rfl T.b_len PySem.boot_len (pa_cons (pv 9) pa_nil)) (nomark _)))))))))))))))))), ?_⟩
  refine ⟨_, rfl, ?_⟩
  refine ⟨by show 4 ≤ sizeLine; decide, fun r hrn => ?_⟩
  have sr := same_new hrn (HO.lst [V.ref a, .int 0, .int 9711, .int 0])
  have hR : RowOk K (upd H r (.lst [V.ref a, .int 0, .int 9711, .int 0])) r a ns := ⟨⟨0, 9711, 0, upd_same, Int.le_refl _⟩, sql_sx (M := M0) hS (fun _ _ z => z) sr.sx⟩
  revert hR
  generalize upd H r (.lst [V.ref a, .int 0, .int 9711, .int 0]) = H1
  intro hR
  refine ⟨_, rfl, ?_⟩
  refine ⟨r, a, ns, rfl, hR, fun v n E roof H2 ok r1 r5 sx2 hR2 hv => ?_⟩
  obtain ⟨pw, zw, rfl, hpw, hzw⟩ := hv.tup_inv
  obtain ⟨v2, v3, rfl, hw, hro⟩ := tpa2 hzw
  have hro' := hro.int_inv
  subst hro'
  have hhi := ok.hi
  refine gt_two hpw gt_name gt_name _ ?_
  refine ⟨_, rfl, ?_⟩
  refine ed_web0 (n := n) (E := E) (ed_var rfl hw) H2 (Same.refl _) _ fun vn H3 s3 hvn => ?_
  cases hvn
  refine ⟨_, rfl, ?_⟩
  refine ⟨r, a, ns, n, roof, rfl, hR2.mono s3, by omega, r1, by omega, fun v4 one H4 o1 sx4 hR4 t4 => ?_⟩
  have hw4 := (hw.mono s3).kt sx4.2
  refine ⟨_, rfl, ?_⟩
  refine ⟨_, rfl, ?_⟩
  refine ⟨_, rfl, ?_⟩
  refine ⟨_, rfl, ?_⟩
  refine ⟨r, a, ns, n, E, roof, one, _, _, rfl, hR4, hw4, t4, ok, r1, o1, by rw [off_self]; decide, fun v5 other H5 o2 cm of7 sx5 hR5 t5 => ?_⟩
  have hw5 := hw4.kt sx5.2
  have t45 := t4.kt sx5.2
  clear sx5 hR5 hw4 t4 sx4 hR4 s3 hR2 sx2 hR hzw hpw
  obtain ⟨M, hM⟩ := Int.eq_ofNat_of_zero_le (off_nn (a := one) (b := other))
  have hM7 : M ≤ 7 := by omega
  have W : Way n E roof one other := ⟨ok, r1, by omega, o1, o2, cm⟩
  have hSl : (singlesM one other).length = M := by
    have := singles_len (one := one) (other := other)
    omega
  refine gt_name _ ?_
  dsimp only
  refine z_par ?_
  refine el_call (dom := dm_law_singles) (ea_cons (ed_var rfl t45) (ea_cons (ed_var rfl t5) ea_nil)) ⟨n, roof, one, other, rfl, hhi, by omega, o1, o2, rfl⟩ H5 (Same.refl _) _ fun p6 xs6 H6 hp6 s6 h6 t6 => ?_
  refine ⟨by show 0 ≤ sizeLine; decide, fun p7 hp7 => ?_⟩
  refine ⟨_, _, rfl, ?_⟩
  have s7 := same_new hp7 (HO.lst [])
  have h7 : (upd H6 p7 (.lst [])) p7 = some (.lst []) := upd_same
  have hw7 := hw5.mono (s6.trans s7)
  have t47 := t45.mono (s6.trans s7)
  have t57 := t5.mono (s6.trans s7)
  have t67 := t6.mono s7
  have h67 := s7 _ _ h6
  revert h7 hw7 t47 t57 t67 h67
  generalize upd H6 p7 (.lst []) = H7
  intro h7 hw7 t47 t57 t67 h67
  clear s7 s6 t5 t45 hw5
  refine z_for M0 (src_lstV (bs := singlesM one other) (enc := eS) (ev_var rfl) h67 t67 (fun z => z)) (fun i σ' H' => ∃ p xs b, σ' = [some (.ref a), some (.ref r), some v2, some (.int roof), some v4, some v5, some (.ref p6), some (.ref p), b, none, none, none, none, none, none, none] ∧ H' p = some (.lst xs) ∧ TpA H' xs ((((singlesM one other).take i).flatMap fun f => ((singlesM one other).filter fun g => decide (f ≠ g) && ruleL E f g).map fun g => (f, g)).map eP))
    (fun H8 s8 => ⟨p7, [], none, rfl, s8 _ _ h7, .nil⟩) (fun i e v σ' H' H'' N hi sx hσ s' hv kk => ?_) fun σ' H' sx hσ => ?_
  · obtain ⟨p, xs, b, rfl, hp, tp⟩ := hσ
    have ss := sx.same.trans s'
    have few := flatMap_le (fun f => ((singlesM one other).filter fun g => decide (f ≠ g) && ruleL E f g).map fun g => (f, g)) 7 ((singlesM one other).take i) fun f _ => by
      rw [List.length_map]
      exact Nat.le_trans (List.length_filter_le _ _) (by omega)
    have few2 := List.length_filter_le (fun g => (!decide (e = g)) && ruleL E e g) (singlesM one other)
    rw [List.length_take] at few
    refine gt_name _ ?_
    refine s_asgL (el_catV (ev_var rfl) (s' _ _ hp) (tp.mono s') (el_lc (src_lstV (bs := singlesM one other) (enc := eS) (ev_var rfl) (ss _ _ h67) (t67.mono ss) (fun z => z)) (fun g => (!decide (e = g)) && ruleL E e g) (fun g => eP (e, g)) (by omega) fun g v2' H3 hg s3 hv2 => ⟨_, gt_name, rfl, eb_and (eb_is (eb_test (ed_neD (d := eS e) (e := eS g) (ed_var rfl (hv.mono s3)) (ed_var rfl hv2) (eS_shaped _) (eS_shaped _))) (by rw [eS_eqv])) (fun _ => eb_B (ed_call (dom := dm_law_rule) (ea_cons (ed_var rfl (hw7.mono (ss.trans s3))) (ea_cons (ed_var rfl (hv.mono s3)) (ea_cons (ed_var rfl hv2) ea_nil))) ⟨n, E, e, g, rfl, rfl⟩)), fun _ => ed_tup (ea_cons (ed_var rfl (hv.mono s3)) (ea_cons (ed_var rfl hv2) ea_nil)) (by show 2 ≤ 100000; omega)⟩) ?_) fun l2 ys2 H3 hl2 s3 hl3 t3 => ?_
    · refine sz_ok ?_
      rw [List.length_map, List.length_map]
      omega
    · refine kk _ _ (s'.trans s3).sx ⟨l2, ys2, _, rfl, hl3, ?_⟩
      rw [take_snoc hi, List.flatMap_append, List.map_append, List.flatMap_cons, List.flatMap_nil, List.append_nil, List.map_map]
      have ef : (singlesM one other).filter (fun g => decide (e ≠ g) && ruleL E e g) = (singlesM one other).filter (fun g => (!decide (e = g)) && ruleL E e g) := by
        apply List.filter_congr
        intro g _
        rw [decide_not]
      rw [ef]
      exact t3
  · obtain ⟨p, xs, b, rfl, hp, tp⟩ := hσ
    rw [List.take_length] at tp
    have tpp : TpA H' xs ((lawPairs E (singlesM one other)).map eP) := tp
    clear tp
    have ss := sx.same
    have hw8 := hw7.mono ss
    have t48 := t47.mono ss
    have t58 := t57.mono ss
    have t68 := t67.mono ss
    have h68 := ss _ _ h67
    clear hw7 t47 t57 t67 h67 h7 hp7 ss sx t6 h6 hp6
    have fewP : (lawPairs E (singlesM one other)).length ≤ 49 := by
      have := flatMap_le (fun f => ((singlesM one other).filter fun g => decide (f ≠ g) && ruleL E f g).map fun g => (f, g)) 7 (singlesM one other) fun f _ => by
        rw [List.length_map]
        exact Nat.le_trans (List.length_filter_le _ _) (by omega)
      unfold lawPairs
      omega
    have hA : ∀ {H9 : Hp} {σ : L2.St}, Same H' H9 → σ[2]? = some (some v2) → σ[3]? = some (some (.int roof)) → σ[4]? = some (some v4) → σ[5]? = some (some v5) → EA (tCons (tVar 2) (tCons (tVar 3) (tCons (tVar 4) (tCons (tVar 5) tNil)))) σ H9 [eW n E, .int roof, eH one, eH other] := fun s9 e2 e3 e4 e5 =>
      ea_cons (ed_var e2 (hw8.mono s9)) (ea_cons (ed_var e3 (.int roof)) (ea_cons (ed_var e4 (t48.mono s9)) (ea_cons (ed_var e5 (t58.mono s9)) ea_nil)))
    refine z_ifF (eb_not (a := true) (eb_B (ed_call (dom := dm_alike 4) (ea_cons (ed_call (dom := dm_deeds_of) (hA (Same.refl _) rfl rfl rfl rfl) ⟨n, E, roof, one, other, rfl, W, rfl⟩) (ea_cons (ed_tupV (ev_var rfl) h68 t68) ea_nil)) ⟨_, rfl, ⟨by rw [List.length_map]; omega, fun e he => by
      obtain ⟨s, _, rfl⟩ := List.mem_map.mp he
      exact plainS s⟩, rfl⟩))) fun H9 s9 => ?_
    have ePQ : pairsM E (singlesM one other) = lawPairs E (singlesM one other) := pairs_eq ok _
    refine z_ifF (eb_not (a := true) (eb_B (ed_call (dom := dm_alike 4) (d := .bool true) (ds := [.tuple (srtD ((lawPairs E (singlesM one other)).map eP)), .tuple (srtD ((lawPairs E (singlesM one other)).map eP))]) (ea_cons (ed_call (dom := dm_order_pairs) (hA s9 rfl rfl rfl rfl) ⟨n, E, roof, one, other, rfl, W, by rw [ePQ]⟩) (ea_cons (ed_tupN (el_sortedV (ev_var rfl) (s9 _ _ hp) (tpp.mono s9) (srtOk_P (by omega)))) ea_nil)) ⟨_, rfl, ⟨by rw [srtD_length, List.length_map]; omega, fun e he => by
      rw [srtD_map] at he
      obtain ⟨s, _, rfl⟩ := List.mem_map.mp he
      exact plainP s⟩, rfl⟩))) fun H10 s10 => ?_
    have s910 := s9.trans s10
    have R := runs_of (r := roof) ok o1.len o2 cm hM hM7
    have F := find_last (r := roof) ok o1.len o2 cm hM hM7
    have WC : ∀ {H9 : Hp} {σ : L2.St}, Same H' H9 → σ[2]? = some (some v2) → σ[3]? = some (some (.int roof)) → σ[4]? = some (some v4) → σ[5]? = some (some v5) → ED (tCall (spD dm_ways_count) [] E0 (tCons (tVar 2) (tCons (tVar 3) (tCons (tVar 4) (tCons (tVar 5) tNil))))) σ H9 (.int ((rowsW n E roof one other M).length : Int)) := fun s9 e2 e3 e4 e5 =>
      ed_call (dom := dm_ways_count) (hA s9 e2 e3 e4 e5) ⟨n, E, roof, one, other, M, _, rfl, W, box_small hM hM7, R, F, rfl⟩
    refine z_asgC (ea_cons (ed_var (i := 2) rfl (hw8.mono s910)) (ea_cons (ed_var (i := 3) rfl (.int roof)) (ea_cons (ed_var (i := 4) rfl (t48.mono s910)) (ea_cons (ed_var (i := 5) rfl (t58.mono s910)) (ea_cons (ed_int (n := 300)) ea_nil))))) fun vs11 H11 s11 hvs11 => ?_
    have sT := s910.trans s11
    refine ⟨n, E, roof, one, other, 300, M, hvs11, ok, o1.len, o2.len, hM, by omega, by decide, by decide, fun H12 s12 hbig => ?_, fun p9 xs9 H12 hp9 s12 hle h9 t9 => ?_⟩
    · have sT2 := sT.trans s12
      refine z_if (b := true) (eb_is (eb_isV (v := .non) rfl) rfl) (fun _ H13 s13 => ?_) fun z => nomatch z
      obtain ⟨t, ht, hb⟩ := hbig
      have hmono := rows_mono2 (r := roof) ok o1.len o2 cm hM (t := t) (M - t) (by omega)
      rw [show t + (M - t) = M by omega] at hmono
      refine s_retD (d := .bool true) (ed_is (ed_i0 (d := .bool (decide ((20 : Int) < ((rowsW n E roof one other M).length : Int)))) (WC (sT2.trans s13) rfl rfl rfl rfl) ed_int fun _ => .bl _) (by rw [decide_eq_true (by omega)])) fun v H14 s14 hv => ?_
      cases hv
      exact q H14
    · have sT2 := sT.trans s12
      refine z_ifF (eb_is (eb_isV (v := .ref p9) rfl) rfl) fun H13 s13 => ?_
      have sT3 := sT2.trans s13
      refine z_asgL (el_lst (ds := [eL []]) (ea_cons (ed_tup (ds := []) ea_nil (by decide)) ea_nil) (by decide)) fun p10 xs10 H14 hp10 s14 h10 t10 => ?_
      have sT4 := sT3.trans s14
      have hperm := rows_perm (r := roof) ok o1.len o2 cm hM
      have hRle : ∀ t, t ≤ M → (rowsR (singlesM one other) (lawPairs E (singlesM one other)) t).length ≤ 300 := fun t ht => by
        have e := (hperm t).length_eq
        rw [List.length_map] at e
        have := hle t ht
        omega
      have h6a := sT4 _ _ h68
      have t6a := t68.mono sT4
      have hpa := sT4 _ _ hp
      have tpa := tpp.mono sT4
      have h9a := (s13.trans s14) _ _ h9
      have t9a := t9.mono (s13.trans s14)
      refine z_for M0 (src_lstV (bs := singlesM one other) (enc := eS) (ev_var rfl) h6a t6a (fun z => z)) (fun t σ' H' => ∃ p10 xs c d e g, σ' = [some (.ref a), some (.ref r), some v2, some (.int roof), some v4, some v5, some (.ref p6), some (.ref p), b, some (.ref p9), some (.ref p10), c, d, e, g, none] ∧ H' p10 = some (.lst xs) ∧ TpA H' xs ((rowsR (singlesM one other) (lawPairs E (singlesM one other)) t).map eL))
        (fun H15 s15 => ⟨p10, xs10, none, none, none, none, rfl, s15 _ _ h10, t10.mono s15⟩) (fun t sg v σ' H15 H16 N hi sx hσ s' hv kk => ?_) fun σ' H15 sx hσ => ?_
      · obtain ⟨p1, xs1, c, d, e, g, rfl, hp1, tp1⟩ := hσ
        have htM : t < M := by
          have := (List.getElem?_eq_some_iff.mp hi).1
          omega
        have hrow := hRle t (by omega)
        have s16 := sx.same.trans s'
        refine gt_name _ ?_
        refine z_asgL (el_lst ea_nil (by decide)) fun pm xm H17 hpm s17 hpm1 tm => ?_
        have s617 := s16.trans s17
        have n1 : p1 ≠ pm := ne_of_none (s' _ _ hp1) hpm
        have n6 : p6 ≠ pm := ne_of_none (s16 _ _ h6a) hpm
        have n7 : p ≠ pm := ne_of_none (s16 _ _ hpa) hpm
        have tm0 : TpA H17 xm [] := tm
        have hlen := rowsR_len (singlesM one other) (lawPairs E (singlesM one other)) t
        refine z_for (fun a => a = pm) (src_lstV (bs := rowsR (singlesM one other) (lawPairs E (singlesM one other)) t) (enc := eL) (ev_var rfl) ((s'.trans s17) _ _ hp1) (tp1.mono (s'.trans s17)) n1) (fun i σ' H' => ∃ e g ys, σ' = [some (.ref a), some (.ref r), some v2, some (.int roof), some v4, some v5, some (.ref p6), some (.ref p), b, some (.ref p9), some (.ref p1), some v, some (.ref pm), e, g, none] ∧ H' pm = some (.lst ys) ∧ TpA H' ys ((((rowsR (singlesM one other) (lawPairs E (singlesM one other)) t).take i).flatMap (nextR (singlesM one other) (lawPairs E (singlesM one other)))).map eL))
          (fun H18 s18 => ⟨e, g, xm, rfl, s18 _ _ hpm1, by simpa using tm0.mono s18⟩) (fun i dn v13 σ2 H18 H19 N2 hi2 sx2 hσ2 s19 hv13 kk2 => ?_) fun σ2 H18 sx2 hσ2 => ?_
        · obtain ⟨e, g, ys, rfl, hys, tys⟩ := hσ2
          have hdl := hlen dn (List.mem_of_getElem? hi2)
          have hil := (List.getElem?_eq_some_iff.mp hi2).1
          have sx9 : SX (fun a => a = pm) H17 H19 := sx2.trans s19.sx
          have h6b : H19 p6 = some (.lst xs6) := sx9.1 _ _ n6 (s617 _ _ h6a)
          have hpb : H19 p = some (.lst xs) := sx9.1 _ _ n7 (s617 _ _ hpa)
          have t6b := (t6a.mono s617).kt sx9.2
          have tpb := (tpa.mono s617).kt sx9.2
          have hysb := s19 _ _ hys
          refine gt_name _ ?_
          have fm := flatMap_le (nextR (singlesM one other) (lawPairs E (singlesM one other))) 7 ((rowsR (singlesM one other) (lawPairs E (singlesM one other)) t).take i) fun y _ => Nat.le_trans (nextR_few _ _ y) (by omega)
          rw [List.length_take] at fm
          refine q_for (fun a => a = pm) (src_lstV (bs := singlesM one other) (enc := eS) (ev_var rfl) h6b t6b n6) (fun j σ' H' => ∃ g ys2, σ' = [some (.ref a), some (.ref r), some v2, some (.int roof), some v4, some v5, some (.ref p6), some (.ref p), b, some (.ref p9), some (.ref p1), some v, some (.ref pm), some v13, g, none] ∧ H' pm = some (.lst ys2) ∧ TpA H' ys2 ((((rowsR (singlesM one other) (lawPairs E (singlesM one other)) t).take i).flatMap (nextR (singlesM one other) (lawPairs E (singlesM one other)))).map eL ++ (((singlesM one other).take j).filter (freeR (lawPairs E (singlesM one other)) dn)).map fun d => eL (dn ++ [d])))
            (fun H20 s20 => ⟨g, ys, rfl, s20 _ _ hysb, by simpa using tys.mono (s19.trans s20)⟩) (fun j dd v14 σ3 H20 H21 N3 hj sx3 hσ3 s21 hv14 kk3 => ?_) fun σ3 H20 sx3 hσ3 => ?_
          · obtain ⟨g, ys2, rfl, hys2, tys2⟩ := hσ3
            have sx21 : SX (fun a => a = pm) H19 H21 := sx3.trans s21.sx
            have hpc : H21 p = some (.lst xs) := sx21.1 _ _ n7 hpb
            have tpc := tpb.kt sx21.2
            have hv13c := hv13.kt sx21.2
            have hysc := s21 _ _ hys2
            have hjl := (List.getElem?_eq_some_iff.mp hj).1
            have sL : SeqAt.shaped (.tuple (dn.map eS)) = true := shaped_tup eS_lay eS_depth (by decide) _
            refine gt_name _ ?_
            refine s_if (b := freeR (lawPairs E (singlesM one other)) dn dd) (eb_and (eb_is (eb_test (ed_notInT (K := K) (d := eS dd) (ds := dn.map eS) (ed_var rfl hv14) (ed_var rfl hv13c) (eS_shaped _) sL)) (by rw [any_contains eS_eqv])) fun _ => eb_is (eb_test (ed_eqNilN (K := K) (el_lc (src_lstV (bs := lawPairs E (singlesM one other)) (enc := eP) (ev_var rfl) hpc tpc (fun z => z)) (fun p => decide (p.2 = dd) && !dn.contains p.1) (fun p => eS p.1) (by omega) fun pr vp H22 hpr s22 hvp => ?_) ?_ (el_lst ea_nil (by decide)))) ?_) (fun gd H22 s22 => ?_) fun gd H22 s22 => ?_
            · obtain ⟨pq, zq, rfl, hpq, hzq⟩ := hvp.tup_inv
              obtain ⟨w1, w2, rfl, hw1, hw2⟩ := tpa2 hzq
              exact ⟨_, gt_two hpq gt_name gt_name, rfl, eb_and (eb_is (eb_test (ed_eqD (K := K) (d := eS pr.2) (e := eS dd) (ed_var rfl hw2) (ed_var rfl (hv14.mono s22)) (eS_shaped _) (eS_shaped _))) (by rw [eS_eqv])) (fun _ => eb_is (eb_test (ed_notInT (K := K) (d := eS pr.1) (ds := dn.map eS) (ed_var rfl hw1) (ed_var rfl (hv13c.mono s22)) (eS_shaped _) sL)) (by rw [any_contains eS_eqv])), fun _ => ed_var rfl hw1⟩
            · have e1 := shaped_lst eS_lay eS_depth (by decide) (((lawPairs E (singlesM one other)).filter fun p => decide (p.2 = dd) && !dn.contains p.1).map (·.1))
              rw [List.map_map] at e1
              exact e1
            · exact List.isEmpty_map
            · refine s_app (s22 _ _ hysc) (ev_var rfl) (d := eL (dn ++ [dd])) (ed_is (ed_cat (K := K) (ds := dn.map eS) (es := [eS dd]) (ed_var rfl (hv13c.mono s22)) (ed_tup (ea_cons (ed_var rfl (hv14.mono s22)) ea_nil) (by show 1 ≤ 100000; omega)) (by rw [List.length_map]; show _ + 1 ≤ _; omega)) (by unfold eL; rw [List.map_append]; rfl)) (sz_lt ?_) fun v23 H23 s23 hv23 => ?_
              · rw [tys2.length, List.length_append, List.length_map, List.length_map]
                have := List.length_filter_le (freeR (lawPairs E (singlesM one other)) dn) ((singlesM one other).take j)
                rw [List.length_take] at this
                omega
              · have s2123 := s21.trans (s22.trans s23)
                have px : SX (fun a => a = pm) H23 (upd H23 pm (.lst (ys2 ++ [v23]))) := SX.put rfl (s2123 _ _ hys2)
                refine kk3 _ _ (s2123.sx.trans px) ⟨_, _, rfl, upd_same, ?_⟩
                rw [take_snoc hj, List.filter_append, List.filter_cons_of_pos (p := freeR (lawPairs E (singlesM one other)) dn) (a := dd) gd, List.map_append, ← List.append_assoc]
                exact ((tys2.mono s2123).app (.cons hv23 .nil)).kt px.2
            · have s2122 := s21.trans s22
              refine kk3 _ _ s2122.sx ⟨_, ys2, rfl, s2122 _ _ hys2, ?_⟩
              rw [take_snoc hj, List.filter_append, List.filter_cons_of_neg (p := freeR (lawPairs E (singlesM one other)) dn) (a := dd) (by rw [gd]; decide), List.filter_nil, List.append_nil]
              exact tys2.mono s2122
          · obtain ⟨g, ys2, rfl, hys2, tys2⟩ := hσ3
            rw [List.take_length] at tys2
            refine kk2 _ _ (s19.sx.trans sx3) ⟨_, _, ys2, rfl, hys2, ?_⟩
            rw [take_snoc hi2, List.flatMap_append, List.map_append, List.flatMap_cons, List.flatMap_nil, List.append_nil]
            have e2 : (nextR (singlesM one other) (lawPairs E (singlesM one other)) dn).map eL = ((singlesM one other).filter (freeR (lawPairs E (singlesM one other)) dn)).map fun d => eL (dn ++ [d]) := by
              unfold nextR
              rw [List.map_map]
              rfl
            rw [e2]
            exact tys2
        · obtain ⟨e, g, ys, rfl, hys, tys⟩ := hσ2
          rw [List.take_length] at tys
          have sm : Same H16 H18 := (s17.sx.trans sx2).same_of fun b hb => by rw [hb]; exact hpm
          exact s_asgV (ev_var rfl) fun H20 s20 => kk _ _ (s'.trans (sm.trans s20)).sx ⟨pm, ys, _, _, _, _, rfl, s20 _ _ hys, tys.mono s20⟩
      · obtain ⟨p1, xs1, c, d, e, g, rfl, hp1, tp1⟩ := hσ
        rw [hSl] at tp1
        have sm := sx.same
        have sT5 := sT4.trans sm
        have hws : (rowsW n E roof one other M).length ≤ 300 := hle M (Nat.le_refl _)
        have eq9 : xs9.length = (rowsW n E roof one other M).length := by rw [t9.length, List.length_map]
        have h9b := sm _ _ h9a
        have t9b := t9a.mono sm
        have hlenR := rowsR_len (singlesM one other) (lawPairs E (singlesM one other)) M
        have fewR := hRle M (Nat.le_refl _)
        have hgood := rows_good (E := E) (r := roof) o1.len hM
        have el : EL (tCall spLines [] E0 (tCons (tVar 4) (tCons (tVar 9) tNil))) [some (.ref a), some (.ref r), some v2, some (.int roof), some v4, some v5, some (.ref p6), some (.ref p), b, some (.ref p9), some (.ref p1), c, d, e, g, none] H15 (((rowsW n E roof one other M).map fun x => lineOf one x.1).map eL) := fun H16 s16 Q16 q16 => by
          refine ⟨v4, rfl, .ref p9, rfl, v4, p9, xs9, one, (rowsW n E roof one other M).map (·.1), rfl, t48.mono (sT5.trans s16), s16 _ _ h9b, ?_, ?_, ?_, ?_, ?_⟩
          · rw [List.map_map]
            exact t9b.mono s16
          · intro u hu
            obtain ⟨x, hx, rfl⟩ := List.mem_map.mp hu
            refine ⟨?_, fun dd hdd => ?_⟩
            · have := (rowsW_inv (E := E) (r := roof) (other := other) o1.len M x hx).1
              omega
            · rw [o1.len]
              exact rows_word (E := E) (r := roof) o1.len hM M x hx dd hdd
          · rw [List.length_map]
            omega
          · rw [o1.len]
            omega
          · intro p' xs' H' hp' s' h' t'
            refine q16 p' xs' H' hp' s' h' ?_
            rw [List.map_map] at t' ⊢
            exact t'
        have okR : SrtOk ((rowsR (singlesM one other) (lawPairs E (singlesM one other)) M).map eL) := srtOk_L (by omega) (by
          by_cases z : M = 0
          · subst z
            exact .inr (Nat.le_refl _)
          · refine .inl fun l hl e => ?_
            have := hlenR l hl
            rw [e] at this
            exact z this.symm)
        have okW : SrtOk (((rowsW n E roof one other M).map fun x => lineOf one x.1).map eL) := srtOk_L (by rw [List.length_map]; omega) (by
          by_cases z : M = 0
          · subst z
            exact .inr (by rw [List.length_map]; exact Nat.le_refl _)
          · refine .inl fun l hl e => ?_
            have := hlenR l ((hperm M).mem_iff.mpr hl)
            rw [e] at this
            exact z this.symm)
        have eS2 := lines_sort (hperm M)
        refine s_retD (d := .bool true) (ed_is (ed_and (a := true) (b := true) (ed_is (ed_eqL (K := K) (el_sortedV (K := K) (ev_var rfl) hp1 tp1 okR) (el_sorted (K := K) el okW) ?_ ?_) ?_) fun _ => ed_is (ed_eqI (WC sT5 rfl rfl rfl rfl) (ed_lenV (K := K) (ev_var rfl) h9b)) ?_) rfl) fun v H16 s16 hv => ?_
        · rw [srtD_map]
          exact shaped_lst eL_lay eL_depth (by decide) _
        · rw [srtD_map]
          exact shaped_lst eL_lay eL_depth (by decide) _
        · rw [eS2, srtD_eqv]
        · rw [eq9, decide_eq_true rfl]
        · cases hv
          exact q H16
end
end Lv

set_option Elab.async false
set_option linter.all false
set_option maxRecDepth 100000
set_option maxHeartbeats 0
namespace Lv
open PySem PySem.Spec PyProof.Rows L2
def dd (x : Str) (i : Nat) : He.DefD := ⟨(x, none), x, x, defArgs (top i), defBody (top i), defScope (top i), [], []⟩

def fn0 : List He.DefD := [dd "is_in" 8, dd "is_edge" 12, dd "need_web" 13, dd "need_roof" 14, dd "need_table" 15, dd "need_heights" 16, dd "need_one" 17, dd "need_two" 18, dd "beside_in" 19, dd "raise_in" 21, dd "lower_in" 22, dd "changed" 23, dd "doable" 24, dd "steep_in" 27, dd "comes_in" 29, dd "need_way" 32]
def fn1 : List He.DefD := [dd "need_box" 33, dd "singles" 34, dd "is_before" 35, dd "pairs_in" 36, dd "deeds_of" 37, dd "order_pairs" 38, dd "next_in" 39, dd "counts_from" 40, dd "count_in" 41, dd "ways_count" 42, dd "_law_taken" 44, dd "_law_pick" 45, dd "_law_many" 46, dd "_law_table" 47, dd "_law_heights" 48, dd "_law_step" 49]
def fn2 : List He.DefD := [dd "_law_beside" 50, dd "_law_deeds" 51, dd "_law_after" 52, dd "_law_off" 53, dd "_law_reached" 54, dd "_law_singles" 55, dd "_law_rule" 56, dd "_law_alike" 57, dd "_law_ways" 58, dd "_law_lines" 59, dd "law" 60]
def fn : List He.DefD := fn0 ++ fn1 ++ fn2
def fa0 : List He.Fa := [.glo "is_in", .glo "is_edge", .glo "need_web", .glo "need_roof", .glo "need_table", .glo "need_heights", .glo "need_one", .glo "need_two", .glo "beside_in", .glo "raise_in", .glo "lower_in", .glo "changed", .glo "doable", .glo "steep_in", .glo "comes_in", .glo "need_way"]
def fa1 : List He.Fa := [.glo "need_box", .glo "singles", .glo "is_before", .glo "pairs_in", .glo "deeds_of", .glo "order_pairs", .glo "next_in", .glo "counts_from", .glo "count_in", .glo "ways_count", .glo "_law_taken", .glo "_law_pick", .glo "_law_many", .glo "_law_table", .glo "_law_heights", .glo "_law_step"]
def fa2 : List He.Fa := [.glo "_law_beside", .glo "_law_deeds", .glo "_law_after", .glo "_law_off", .glo "_law_reached", .glo "_law_singles", .glo "_law_rule", .glo "_law_alike", .glo "_law_ways", .glo "_law_lines", .glo "law", .int "MOST_PLACES" 9, .int "MOST_ROOF" 9, .int "HIGH" 2, .int "MOST_BOX" 4000, .free "isinstance"]
def fa3 : List He.Fa := [.free "len", .free "enumerate", .free "range", .free "sorted", .free "set", .free "tuple", .free "list", .free "min", .free "max", .free "sum", .free "int", .free "abs", .free "bool", .free "str"]
def fa : List He.Fa := fa0 ++ fa1 ++ fa2 ++ fa3
def loose0 : List Str := ["HeapError", "BadWeb", "BadRoof", "BadHeights", "NoWay", "TooMany", "is_in", "is_edge", "need_web", "need_roof", "need_table", "need_heights", "need_one", "need_two", "beside_in", "raise_in"]
def loose1 : List Str := ["lower_in", "changed", "doable", "steep_in", "comes_in", "need_way", "need_box", "singles", "is_before", "pairs_in", "deeds_of", "order_pairs", "next_in", "counts_from", "count_in", "ways_count"]
def loose2 : List Str := ["_law_taken", "_law_pick", "_law_many", "_law_table", "_law_heights", "_law_step", "_law_beside", "_law_deeds", "_law_after", "_law_off", "_law_reached", "_law_singles", "_law_rule", "_law_alike", "_law_ways", "_law_lines"]
def loose3 : List Str := ["MOST_PLACES", "MOST_ROOF", "HIGH", "MOST_BOX"]
def loose : List Str := loose0 ++ loose1 ++ loose2 ++ loose3
abbrev R : PySem.W.OpenRow := PySem.W.OpenLaw.row PySem.Challenge.rw_levellers_k11_whole_orders_of_single_dee
abbrev hk : PySem.W.Hook := He.hookD 4 fa fn
def ob (s : PySem.W.SharedT) : He.AlD := He.obsDG 4 fa fn (HandSHeadRun.getT s)
theorem ob_eq (s : PySem.W.SharedT) : ob s = hk.obs s.abs := He.obsDG_eq (HandSHeadRun.getT_eq s)
theorem run (w : World) : HandSHeadRun.RunEq R (PySem.W.view R.prog [60]) hk ob 4000 loose w := by
  intro os
  kernel_rfl
end Lv

set_option Elab.async false
set_option linter.all false
set_option maxRecDepth 100000
set_option maxHeartbeats 0
namespace Lv
open PySem PySem.Spec PyProof.Rows L2
theorem tx_of {K : PySem.W.Frag} {h : Heap} {mg : Str → Option Value} (X : K.In h) (G : h.Ns mainGlobals mg) (c : He.SaysD fa fn K) : Tx K mg := by
  have D : ∀ (j : Nat) (x : Str) (i : Nat), fn[j]? = some (dd x i) → fa[j]? = some (.glo x) → DefAt K mg x i := fun j x i h1 h2 => ⟨He.glo_ok X G (c.fact j h2), by
    obtain ⟨fd, F⟩ := c.def_ j h1
    exact ⟨fd, F⟩⟩
  have B : ∀ (j : Nat) (x : Str), fa[j]? = some (.free x) → mg x = none := fun j x h => He.free_ok X G (c.fact j h)
  have C : ∀ (j : Nat) (x : Str) (i : Int), fa[j]? = some (.int x i) → ∃ t, mg x = some (.int i t) := fun j x i h => He.int_ok X G (c.fact j h)
  exact {
    d_is_in := D 0 "is_in" 8 rfl rfl
    d_is_edge := D 1 "is_edge" 12 rfl rfl
    d_need_web := D 2 "need_web" 13 rfl rfl
    d_need_roof := D 3 "need_roof" 14 rfl rfl
    d_need_table := D 4 "need_table" 15 rfl rfl
    d_need_heights := D 5 "need_heights" 16 rfl rfl
    d_need_one := D 6 "need_one" 17 rfl rfl
    d_need_two := D 7 "need_two" 18 rfl rfl
    d_beside_in := D 8 "beside_in" 19 rfl rfl
    d_raise_in := D 9 "raise_in" 21 rfl rfl
    d_lower_in := D 10 "lower_in" 22 rfl rfl
    d_changed := D 11 "changed" 23 rfl rfl
    d_doable := D 12 "doable" 24 rfl rfl
    d_steep_in := D 13 "steep_in" 27 rfl rfl
    d_comes_in := D 14 "comes_in" 29 rfl rfl
    d_need_way := D 15 "need_way" 32 rfl rfl
    d_need_box := D 16 "need_box" 33 rfl rfl
    d_singles := D 17 "singles" 34 rfl rfl
    d_is_before := D 18 "is_before" 35 rfl rfl
    d_pairs_in := D 19 "pairs_in" 36 rfl rfl
    d_deeds_of := D 20 "deeds_of" 37 rfl rfl
    d_order_pairs := D 21 "order_pairs" 38 rfl rfl
    d_next_in := D 22 "next_in" 39 rfl rfl
    d_counts_from := D 23 "counts_from" 40 rfl rfl
    d_count_in := D 24 "count_in" 41 rfl rfl
    d_ways_count := D 25 "ways_count" 42 rfl rfl
    d_law_taken := D 26 "_law_taken" 44 rfl rfl
    d_law_pick := D 27 "_law_pick" 45 rfl rfl
    d_law_many := D 28 "_law_many" 46 rfl rfl
    d_law_table := D 29 "_law_table" 47 rfl rfl
    d_law_heights := D 30 "_law_heights" 48 rfl rfl
    d_law_step := D 31 "_law_step" 49 rfl rfl
    d_law_beside := D 32 "_law_beside" 50 rfl rfl
    d_law_deeds := D 33 "_law_deeds" 51 rfl rfl
    d_law_after := D 34 "_law_after" 52 rfl rfl
    d_law_off := D 35 "_law_off" 53 rfl rfl
    d_law_reached := D 36 "_law_reached" 54 rfl rfl
    d_law_singles := D 37 "_law_singles" 55 rfl rfl
    d_law_rule := D 38 "_law_rule" 56 rfl rfl
    d_law_alike := D 39 "_law_alike" 57 rfl rfl
    d_law_ways := D 40 "_law_ways" 58 rfl rfl
    d_law_lines := D 41 "_law_lines" 59 rfl rfl
    d_law := D 42 "law" 60 rfl rfl
    c_MOST_PLACES := C 43 "MOST_PLACES" 9 rfl
    c_MOST_ROOF := C 44 "MOST_ROOF" 9 rfl
    c_HIGH := C 45 "HIGH" 2 rfl
    c_MOST_BOX := C 46 "MOST_BOX" 4000 rfl
    b_isinstance := B 47 "isinstance" rfl
    b_len := B 48 "len" rfl
    b_enumerate := B 49 "enumerate" rfl
    b_range := B 50 "range" rfl
    b_sorted := B 51 "sorted" rfl
    b_set := B 52 "set" rfl
    b_tuple := B 53 "tuple" rfl
    b_list := B 54 "list" rfl
    b_min := B 55 "min" rfl
    b_max := B 56 "max" rfl
    b_sum := B 57 "sum" rfl
    b_int := B 58 "int" rfl
    b_abs := B 59 "abs" rfl
    b_bool := B 60 "bool" rfl
    b_str := B 61 "str" rfl
  }
theorem facts {P : Program} {w : World} {K : PySem.W.Frag} {h : Heap} {mg : Str → Option Value} {f : Addr} (X : K.In h) (G : h.Ns mainGlobals mg) (hfa : mg ("law" : Str) = some (.ref f)) (c : He.SaysD fa fn K) :
    ∃ fd : FuncData, (∀ (s : Shared) (v : Value), BindsTo s fd ⟨[v], []⟩ [("_law_script", v)]) ∧ ∀ base : Heap, K.In base → base.Ns mainGlobals mg → FnOk P w K mg base CX0 10 f fd ["_law_script"] (spLaw K) := by
  have T := tx_of X G c
  obtain ⟨h1, fd, F⟩ := T.d_law
  have e := hfa.symm.trans h1
  cases e
  have b := FunD.bindsA (ps := ["_law_script"]) F fun _ _ _ _ _ _ us hl => match us, hl with | [_], _ => rfl
  refine ⟨fd, fun s v => b s [v] rfl, fun base _ _ => ?_⟩
  have g_is_in := ok_is_in (P := P) (w := w) (base := base) T
  have g_is_edge := ok_is_edge (P := P) (w := w) (base := base) T g_is_in
  have g_need_web := ok_need_web (P := P) (w := w) (base := base) T g_is_in g_is_edge
  have g_need_roof := ok_need_roof (P := P) (w := w) (base := base) T g_is_in
  have g_need_heights := ok_need_heights (P := P) (w := w) (base := base) T g_is_in
  have g_need_table := ok_need_table (P := P) (w := w) (base := base) T g_need_web g_need_roof
  have g_need_one := ok_need_one (P := P) (w := w) (base := base) T g_need_table g_need_heights
  have g_need_two := ok_need_two (P := P) (w := w) (base := base) T g_need_one g_need_heights
  have g_beside_in := ok_beside_in (P := P) (w := w) (base := base) T
  have g_raise_in := ok_raise_in (P := P) (w := w) (base := base) T g_beside_in
  have g_lower_in := ok_lower_in (P := P) (w := w) (base := base) T g_beside_in
  have g_changed := ok_changed (P := P) (w := w) (base := base) T
  have g_doable := ok_doable (P := P) (w := w) (base := base) T g_raise_in g_lower_in
  have g_steep_in := ok_steep_in (P := P) (w := w) (base := base) T
  have g_comes_in := ok_comes_in (P := P) (w := w) (base := base) T g_steep_in
  have g_need_way := ok_need_way (P := P) (w := w) (base := base) T g_need_two g_comes_in
  have g_need_box := ok_need_box (P := P) (w := w) (base := base) T g_need_way
  have g_singles := ok_singles (P := P) (w := w) (base := base) T
  have g_is_before := ok_is_before (P := P) (w := w) (base := base) T g_beside_in
  have g_pairs_in := ok_pairs_in (P := P) (w := w) (base := base) T g_singles g_is_before
  have g_deeds_of := ok_deeds_of (P := P) (w := w) (base := base) T g_need_way g_singles
  have g_order_pairs := ok_order_pairs (P := P) (w := w) (base := base) T g_need_way g_pairs_in
  have g_next_in := ok_next_in (P := P) (w := w) (base := base) T g_doable
  have g_counts_from := ok_counts_from (P := P) (w := w) (base := base) T g_next_in g_changed
  have g_count_in := ok_count_in (P := P) (w := w) (base := base) T g_counts_from
  have g_ways_count := ok_ways_count (P := P) (w := w) (base := base) T g_need_box g_count_in
  have g_law_step := ok_law_step (P := P) (w := w) (base := base) T
  have g_law_beside := ok_law_beside (P := P) (w := w) (base := base) T
  have g_law_deeds := ok_law_deeds (P := P) (w := w) (base := base) T g_law_beside
  have g_law_after := ok_law_after (P := P) (w := w) (base := base) T g_law_deeds g_law_step
  have g_law_off := ok_law_off (P := P) (w := w) (base := base) T
  have g_law_singles := ok_law_singles (P := P) (w := w) (base := base) T
  have g_law_rule := ok_law_rule (P := P) (w := w) (base := base) T
  have g_law_alike := ok_alike (P := P) (w := w) (base := base) T 4
  have g_law_ways := ok_law_ways (P := P) (w := w) (base := base) T g_law_off g_law_after
  have g_law_lines := ok_law_lines (P := P) (w := w) (base := base) T g_law_step
  have g_law_taken := ok_law_taken (P := P) (w := w) (base := base) T
  have g_law_pick := ok_law_pick (P := P) (w := w) (base := base) T g_law_taken
  have g_law_many := ok_law_many (P := P) (w := w) (base := base) T
  have g_law_table := ok_law_table (P := P) (w := w) (base := base) T g_law_taken g_law_pick g_law_many
  have g_law_heights := ok_law_heights (P := P) (w := w) (base := base) T g_law_taken
  have g_law_reached := ok_law_reached (P := P) (w := w) (base := base) T g_law_pick g_law_after g_law_off
  exact ok_law T F g_law_table g_law_heights g_law_reached g_law_singles g_law_rule g_law_alike g_deeds_of g_order_pairs g_law_ways g_ways_count g_law_lines
end Lv
open PySem PySem.W PySem.Calls PyProof.Rows
theorem PySem.Challenge.cw_levellers_k11_whole_orders_of_single_dee_holds : PySem.Challenge.rw_levellers_k11_whole_orders_of_single_dee.Holds := by
  w_on; o_law
  refine HandSHeadRun.head_any (r := OpenLaw.row PySem.Challenge.rw_levellers_k11_whole_orders_of_single_dee) (q := view (OpenLaw.row PySem.Challenge.rw_levellers_k11_whole_orders_of_single_dee).prog [60]) (H := Lv.hk) (ob := Lv.ob) (M := 4000) (loose := Lv.loose) (d := HandSHeadRun.topDef (OpenLaw.row PySem.Challenge.rw_levellers_k11_whole_orders_of_single_dee).prog 60) (kwd := []) Lv.ob_eq
    (by kernel_rfl) (fun s => by kernel_rfl) Lv.run (by kernel_rfl) (by kernel_rfl) (by kernel_rfl) (by rfl) (by first | assumption | decide +kernel) (by decide +kernel) ⟨rfl, rfl, rfl, rfl, rfl, by decide +kernel⟩ ?hw ?hc
  case hw => w_witness2
  case hc =>
    refine L2.walk_ofE (l := PySem.Challenge.rw_levellers_k11_whole_orders_of_single_dee) (n := 63) (k := 10) (x := "_law_script") (CX := L2.CX0) rfl (by decide) (by kernel_rfl) ⟨rfl, by decide, by decide⟩ ?F (fun _ _ _ _ z => z)
    intro w mg fa h Y G hmg0
    obtain ⟨K, KX, c⟩ := Y
    have hmg : mg ("law" : PySem.Str) = some (.ref fa) := by
      have e : (HandSHeadRun.topDef (OpenLaw.row PySem.Challenge.rw_levellers_k11_whole_orders_of_single_dee).prog 60).name = ("law" : PySem.Str) := by kernel_rfl
      rw [← e]
      exact hmg0
    obtain ⟨fd, hb, hF⟩ := Lv.facts (P := (PySem.Challenge.rw_levellers_k11_whole_orders_of_single_dee).prog) (w := w) KX G hmg c
    exact ⟨K, fd, Lv.spLaw K, KX, hb, fun H a ns hl _ hS => ⟨a, ns, rfl, hS, fun _ => rfl⟩, hF⟩

