import PyProof.Rows.All
import Wide.All
import OpenK.AllK
import Wide.FinOn
import PyProof.EqAt
import PyProof.EqKinds
import PyProof.TupleCall
import KE.GoesEnum
import HandS.ForMost
import HandS.Exc
import HandS.ExcOwn
import HandS.TryOnly
import HandS.WordsExc
import HandS.Defaults
import HandS.IsInst
import HandS.Zip
import HandS.Walk
import HandS.DictEq
import HandS.Lambda
import HandS.Head0
import HandS.Head1
import HandS.Head2
import HandS.HeadEnd
import HandS.HeadHook1
import HandS.HeadHook2
import HandS.HeadHook3
import HandS.HeadHook4
import HandS.EndTab
import HandS.HeadWalk
import HandS.NestedK
import PySem.Challenge.RW_pagefall_k60_whole_needless_cells
set_option linter.all false
set_option maxRecDepth 100000
namespace KM
/-! Cells side by side: the plain mathematics. -/
structure Cell where
  f : Int
  l : Int
  n : Int
  w : Int
deriving DecidableEq
/-- the greatest of init and of g c over the cells c with p c, from the left -/
def fm (p : Cell → Bool) (g : Cell → Int) (init : Int) (cs : List Cell) : Int := cs.foldl (fun a c => if p c = true then max a (g c) else a) init
theorem fm_nil {p g init} : fm p g init [] = init := rfl
theorem fm_cons {p g init c cs} : fm p g init (c :: cs) = fm p g (if p c = true then max init (g c) else init) cs := rfl
theorem fm_snoc {p g init c cs} : fm p g init (cs ++ [c]) = (if p c = true then max (fm p g init cs) (g c) else fm p g init cs) := by
  unfold fm
  rw [List.foldl_append]
  rfl
theorem fm_ge_init {p g} : ∀ {cs : List Cell} {init : Int}, init ≤ fm p g init cs
  | [], _ => Int.le_refl _
  | c :: cs, init => by
    rw [fm_cons]
    have h := fm_ge_init (p := p) (g := g) (cs := cs) (init := if p c = true then max init (g c) else init)
    refine Int.le_trans ?_ h
    split <;> omega
theorem fm_ge {p g} : ∀ {cs : List Cell} {init : Int} {c : Cell}, c ∈ cs → p c = true → g c ≤ fm p g init cs
  | d :: cs, init, c, h, hp => by
    rw [fm_cons]
    rcases List.mem_cons.mp h with e | h
    · subst e
      rw [if_pos hp]
      have h := fm_ge_init (p := p) (g := g) (cs := cs) (init := max init (g c))
      exact Int.le_trans (Int.le_max_right _ _) h
    · exact fm_ge h hp
theorem fm_cases {p g} : ∀ {cs : List Cell} {init : Int}, fm p g init cs = init ∨ ∃ c ∈ cs, p c = true ∧ fm p g init cs = g c
  | [], _ => .inl rfl
  | d :: cs, init => by
    rw [fm_cons]
    rcases fm_cases (p := p) (g := g) (cs := cs) (init := if p d = true then max init (g d) else init) with h | ⟨c, hc, hp, h⟩
    · by_cases hd : p d = true
      · rw [if_pos hd] at h ⊢
        by_cases hm : g d ≤ init
        · exact .inl (by rw [h]; omega)
        · exact .inr ⟨d, List.mem_cons_self, hd, by rw [h]; omega⟩
      · rw [if_neg hd] at h ⊢
        exact .inl h
    · exact .inr ⟨c, List.mem_cons_of_mem _ hc, hp, h⟩
theorem fm_congr {p p' g g'} : ∀ {cs : List Cell} {init : Int}, (∀ c ∈ cs, p c = p' c ∧ (p c = true → g c = g' c)) → fm p g init cs = fm p' g' init cs
  | [], _, _ => rfl
  | d :: cs, init, h => by
    rw [fm_cons, fm_cons]
    obtain ⟨h1, h2⟩ := h d List.mem_cons_self
    have e : (if p d = true then max init (g d) else init) = (if p' d = true then max init (g' d) else init) := by
      rw [← h1]
      by_cases hd : p d = true
      · rw [if_pos hd, if_pos hd, h2 hd]
      · rw [if_neg hd, if_neg hd]
    rw [e]
    exact fm_congr fun c hc => h c (List.mem_cons_of_mem _ hc)
/-- a cell lies within lines -/
def inn (i j : Int) (c : Cell) : Bool := decide (i ≤ c.f) && decide (c.l < j)
theorem inn_iff {i j c} : inn i j c = true ↔ i ≤ c.f ∧ c.l < j := by
  unfold inn
  rw [Bool.and_eq_true, decide_eq_true_eq, decide_eq_true_eq]
def wayF (cs : List Cell) : Nat → Int → Int → Int
  | 0, _, _ => 0
  | k + 1, i, j => fm (inn i j) (fun c => c.n + wayF cs k (c.l + 1) j) 0 cs
def W (cs : List Cell) (i j : Int) : Int := wayF cs (j - i).toNat i j
/-- the cells stand -/
def Ok (cs : List Cell) : Prop := ∀ c ∈ cs, c.f ≤ c.l
section
variable {cs : List Cell}
theorem wayF_more (ok : Ok cs) : ∀ (k : Nat) (i j : Int), j - i ≤ (k : Int) → wayF cs (k + 1) i j = wayF cs k i j
  | 0, i, j, h => by
    show fm (inn i j) _ 0 cs = 0
    rcases fm_cases (p := inn i j) (g := fun c => c.n + wayF cs 0 (c.l + 1) j) (cs := cs) (init := 0) with e | ⟨c, hc, hp, _⟩
    · exact e
    · have h1 := inn_iff.mp hp
      have h2 := ok c hc
      omega
  | k + 1, i, j, h => by
    show fm (inn i j) (fun c => c.n + wayF cs (k + 1) (c.l + 1) j) 0 cs = fm (inn i j) (fun c => c.n + wayF cs k (c.l + 1) j) 0 cs
    refine fm_congr fun c hc => ⟨rfl, fun hp => ?_⟩
    have h1 := inn_iff.mp hp
    have h2 := ok c hc
    rw [wayF_more ok k (c.l + 1) j (by omega)]
theorem wayF_W (ok : Ok cs) {i j : Int} : ∀ (d k : Nat), k = (j - i).toNat + d → wayF cs k i j = W cs i j
  | 0, k, h => by
    rw [h]
    rfl
  | d + 1, k, h => by
    subst h
    show wayF cs (((j - i).toNat + d) + 1) i j = _
    rw [wayF_more ok _ i j (by omega)]
    exact wayF_W ok d _ rfl
theorem wayF_eq (ok : Ok cs) {i j : Int} {k : Nat} (h : j - i ≤ (k : Int)) : wayF cs k i j = W cs i j := wayF_W ok (k - (j - i).toNat) k (by omega)
/-- the one-turn equation -/
theorem W_eq (ok : Ok cs) (i j : Int) : W cs i j = fm (inn i j) (fun c => c.n + W cs (c.l + 1) j) 0 cs := by
  refine (wayF_more ok (j - i).toNat i j (by omega)).symm.trans ?_
  show fm (inn i j) (fun c => c.n + wayF cs (j - i).toNat (c.l + 1) j) 0 cs = _
  refine fm_congr fun c hc => ⟨rfl, fun hp => ?_⟩
  have h1 := inn_iff.mp hp
  have h2 := ok c hc
  rw [wayF_eq ok (by omega)]
theorem W_nonneg (ok : Ok cs) (i j : Int) : 0 ≤ W cs i j := by
  rw [W_eq ok]
  exact fm_ge_init
theorem W_take (ok : Ok cs) {i j : Int} {c : Cell} (hc : c ∈ cs) (h1 : i ≤ c.f) (h2 : c.l < j) : c.n + W cs (c.l + 1) j ≤ W cs i j := by
  rw [W_eq ok i j]
  exact fm_ge (g := fun c => c.n + W cs (c.l + 1) j) hc (inn_iff.mpr ⟨h1, h2⟩)
theorem W_cases (ok : Ok cs) (i j : Int) : W cs i j = 0 ∨ ∃ c ∈ cs, i ≤ c.f ∧ c.l < j ∧ W cs i j = c.n + W cs (c.l + 1) j := by
  rcases fm_cases (p := inn i j) (g := fun c => c.n + W cs (c.l + 1) j) (cs := cs) (init := 0) with e | ⟨c, hc, hp, e⟩
  · exact .inl ((W_eq ok i j).trans e)
  · exact .inr ⟨c, hc, (inn_iff.mp hp).1, (inn_iff.mp hp).2, (W_eq ok i j).trans e⟩
theorem W_none (ok : Ok cs) {i j : Int} (h : j ≤ i) : W cs i j = 0 := by
  rcases W_cases ok i j with e | ⟨c, hc, h1, h2, _⟩
  · exact e
  · have h3 := ok c hc
    omega
theorem W_mono1 (ok : Ok cs) {i i' j : Int} (h : i ≤ i') : W cs i' j ≤ W cs i j := by
  rcases W_cases ok i' j with e | ⟨c, hc, h1, h2, e⟩
  · rw [e]
    exact W_nonneg ok i j
  · rw [e]
    exact W_take ok hc (by omega) h2
theorem W_add_aux (ok : Ok cs) {j k : Int} (hjk : j ≤ k) : ∀ (d : Nat) (i : Int), j - i ≤ (d : Int) → i ≤ j → W cs i j + W cs j k ≤ W cs i k
  | 0, i, hd, hij => by
    have e : i = j := by omega
    subst e
    rw [W_none ok (Int.le_refl i)]
    omega
  | d + 1, i, hd, hij => by
    rcases W_cases ok i j with e | ⟨c, hc, h1, h2, e⟩
    · rw [e]
      have := W_mono1 ok (j := k) hij
      omega
    · have h3 := ok c hc
      have ih := W_add_aux ok hjk d (c.l + 1) (by omega) (by omega)
      have t := W_take ok (i := i) (j := k) hc h1 (by omega)
      omega
theorem W_add (ok : Ok cs) {i j k : Int} (hij : i ≤ j) (hjk : j ≤ k) : W cs i j + W cs j k ≤ W cs i k := W_add_aux ok hjk (j - i).toNat i (by omega) hij
theorem W_mono2 (ok : Ok cs) {i j j' : Int} (h : j ≤ j') : W cs i j ≤ W cs i j' := by
  by_cases hij : i ≤ j
  · have := W_add ok hij h
    have := W_nonneg ok j j'
    omega
  · rw [W_none ok (by omega)]
    exact W_nonneg ok i j'
theorem W_cell (ok : Ok cs) {c : Cell} (hc : c ∈ cs) : c.n ≤ W cs c.f (c.l + 1) := by
  have t := W_take ok (i := c.f) (j := c.l + 1) hc (Int.le_refl _) (by omega)
  have := W_nonneg ok (c.l + 1) (c.l + 1)
  omega
theorem W_last_aux (ok : Ok cs) {j : Int} : ∀ (d : Nat) (i : Int), j - i ≤ (d : Int) → W cs i j ≤ W cs i (j - 1) ∨ ∃ c ∈ cs, c.l + 1 = j ∧ i ≤ c.f ∧ W cs i j ≤ W cs i c.f + c.n
  | 0, i, hd => by
    refine .inl ?_
    rw [W_none ok (by omega)]
    exact W_nonneg ok _ _
  | d + 1, i, hd => by
    rcases W_cases ok i j with e | ⟨c, hc, h1, h2, e⟩
    · refine .inl ?_
      rw [e]
      exact W_nonneg ok _ _
    · have h3 := ok c hc
      by_cases hl : c.l + 1 = j
      · refine .inr ⟨c, hc, hl, h1, ?_⟩
        rw [e, hl, W_none ok (Int.le_refl j)]
        have := W_nonneg ok i c.f
        omega
      · rcases W_last_aux ok (j := j) d (c.l + 1) (by omega) with ih | ⟨c', hc', k1, k2, ih⟩
        · refine .inl ?_
          have t := W_take ok (i := i) (j := j - 1) hc h1 (by omega)
          omega
        · refine .inr ⟨c', hc', k1, by omega, ?_⟩
          have t := W_take ok (i := i) (j := c'.f) hc h1 (by omega)
          omega
/-- the table's own turn -/
def dpP (i j : Int) (c : Cell) : Bool := decide (c.l + 1 = j) && decide (c.f ≥ i)
theorem dpP_iff {i j c} : dpP i j c = true ↔ c.l + 1 = j ∧ i ≤ c.f := by
  unfold dpP
  rw [Bool.and_eq_true, decide_eq_true_eq, decide_eq_true_eq]
theorem dp_fold (ok : Ok cs) {i j : Int} : fm (dpP i j) (fun c => W cs i c.f + c.n) (W cs i (j - 1)) cs = W cs i j := by
  have up : fm (dpP i j) (fun c => W cs i c.f + c.n) (W cs i (j - 1)) cs ≤ W cs i j := by
    rcases fm_cases (p := dpP i j) (g := fun c => W cs i c.f + c.n) (cs := cs) (init := W cs i (j - 1)) with e | ⟨c, hc, hp, e⟩
    · rw [e]
      exact W_mono2 ok (by omega)
    · rw [e]
      obtain ⟨h1, h2⟩ := dpP_iff.mp hp
      have h3 := ok c hc
      have a := W_add ok (i := i) (j := c.f) (k := j) h2 (by omega)
      have b := W_cell ok hc
      rw [h1] at b
      show W cs i c.f + c.n ≤ _
      omega
  have lo : W cs i j ≤ fm (dpP i j) (fun c => W cs i c.f + c.n) (W cs i (j - 1)) cs := by
    rcases W_last_aux ok (j - i).toNat i (j := j) (by omega) with h | ⟨c, hc, h1, h2, h⟩
    · exact Int.le_trans h fm_ge_init
    · exact Int.le_trans h (fm_ge (g := fun c => W cs i c.f + c.n) hc (dpP_iff.mpr ⟨h1, h2⟩))
  omega
theorem W_bound (ok : Ok cs) {B : Int} (hB : 0 ≤ B) (hn : ∀ c ∈ cs, c.n ≤ B) {j : Int} : ∀ (d : Nat) (i : Int), j - i ≤ (d : Int) → W cs i j ≤ B * (d : Int)
  | 0, i, hd => by
    rw [W_none ok (by omega)]
    simp
  | d + 1, i, hd => by
    rcases W_cases ok i j with e | ⟨c, hc, h1, h2, e⟩
    · rw [e]
      exact Int.mul_nonneg hB (by omega)
    · have h3 := ok c hc
      have ih := W_bound ok hB hn (j := j) d (c.l + 1) (by omega)
      have h4 := hn c hc
      rw [e]
      have : B * ((d + 1 : Nat) : Int) = B * (d : Int) + B := by
        rw [Int.natCast_add, Int.mul_add]
        simp
      omega
end
/-! ### more cells, fewer cells -/
theorem W_sub {A B : List Cell} (okA : Ok A) (okB : Ok B) (h : ∀ c ∈ A, c ∈ B) {j : Int} : ∀ (d : Nat) (i : Int), j - i ≤ (d : Int) → W A i j ≤ W B i j
  | 0, i, hd => by
    rw [W_none okA (by omega)]
    exact W_nonneg okB _ _
  | d + 1, i, hd => by
    rcases W_cases okA i j with e | ⟨c, hc, h1, h2, e⟩
    · rw [e]
      exact W_nonneg okB _ _
    · have h3 := okA c hc
      have ih := W_sub okA okB h (j := j) d (c.l + 1) (by omega)
      have t := W_take okB (i := i) (j := j) (h c hc) h1 h2
      omega
theorem W_in {A B : List Cell} (okA : Ok A) (okB : Ok B) (h : ∀ c ∈ B, c.n ≤ W A c.f (c.l + 1)) {j : Int} : ∀ (d : Nat) (i : Int), j - i ≤ (d : Int) → W B i j ≤ W A i j
  | 0, i, hd => by
    rw [W_none okB (by omega)]
    exact W_nonneg okA _ _
  | d + 1, i, hd => by
    rcases W_cases okB i j with e | ⟨c, hc, h1, h2, e⟩
    · rw [e]
      exact W_nonneg okA _ _
    · have h3 := okB c hc
      have ih := W_in okA okB h (j := j) d (c.l + 1) (by omega)
      have h4 := h c hc
      have a := W_add okA (i := c.f) (j := c.l + 1) (k := j) (by omega) (by omega)
      have b := W_mono1 okA (j := j) h1
      omega
/-- without its k-th cell -/
def less (cs : List Cell) (k : Nat) : List Cell := cs.take k ++ cs.drop (k + 1)
theorem less_sub {cs : List Cell} {k : Nat} : ∀ c ∈ less cs k, c ∈ cs := fun c h => by
  unfold less at h
  rcases List.mem_append.mp h with h | h
  · exact List.mem_of_mem_take h
  · exact List.mem_of_mem_drop h
theorem less_or {cs : List Cell} {k : Nat} {d : Cell} (hk : cs[k]? = some d) : ∀ c ∈ cs, c ∈ less cs k ∨ c = d := fun c h => by
  have hlt : k < cs.length := by
    obtain ⟨h, _⟩ := List.getElem?_eq_some_iff.mp hk
    exact h
  have e : cs = cs.take k ++ d :: cs.drop (k + 1) := by
    have e1 : cs.drop k = d :: cs.drop (k + 1) := by
      rw [List.drop_eq_getElem_cons hlt]
      obtain ⟨_, e2⟩ := List.getElem?_eq_some_iff.mp hk
      rw [e2]
    rw [← e1, List.take_append_drop]
  rw [e] at h
  unfold less
  rcases List.mem_append.mp h with h | h
  · exact .inl (List.mem_append_left _ h)
  · rcases List.mem_cons.mp h with h | h
    · exact .inr h
    · exact .inl (List.mem_append_right _ h)
theorem Ok.less {cs : List Cell} (ok : Ok cs) (k : Nat) : Ok (less cs k) := fun c h => ok c (less_sub c h)
/-- both tables alike, up to the line m -/
def Alike (m : Nat) (g h : Int → Int → Int) : Prop := ∀ s e : Nat, s ≤ e → e ≤ m → g s e = h s e
theorem needless_iff {cs : List Cell} (ok : Ok cs) {k : Nat} {d : Cell} {m : Nat} (hk : cs[k]? = some d) (h0 : 0 ≤ d.f) (hm : d.l < m) :
    d.n ≤ W (less cs k) d.f (d.l + 1) ↔ Alike m (W (less cs k)) (W cs) := by
  have hd : d ∈ cs := List.mem_of_getElem? hk
  have okL := ok.less k
  constructor
  · intro h s e hs he
    have h1 := W_sub okL ok less_sub ((e : Int) - s).toNat s (j := e) (by omega)
    have h2 := W_in okL ok (B := cs) (fun c hc => by
      rcases less_or hk c hc with q | q
      · exact W_cell okL q
      · rw [q]
        exact h) ((e : Int) - s).toNat s (j := e) (by omega)
    omega
  · intro h
    have hl := ok d hd
    have e := h d.f.toNat (d.l + 1).toNat (by omega) (by omega)
    rw [show ((d.f.toNat : Nat) : Int) = d.f by omega, show (((d.l + 1).toNat : Nat) : Int) = d.l + 1 by omega] at e
    rw [e]
    exact W_cell ok hd
end KM

set_option Elab.async false
set_option linter.all false
set_option maxRecDepth 100000
set_option maxHeartbeats 4000000
/-! Rules of our own over the hand layer. -/
namespace KR
open PySem PySem.Spec PyProof.Rows L2
/-! ### dicts with tuple keys compared -/
section
variable {prog : Program} {w : World} {K : Type} [DecidableEq K] {knd : HeapKind prog w K} {A : Around} {E : Value → Shared → Prop} {s : Shared}
abbrev flatX (xs : List (K × Addr × Value)) : List (K × Value) := xs.map fun x => (x.1, x.2.2)
theorem valueAt_flat (xs : List (K × Addr × Value)) (k : K) : valueAt (flatX xs) k = (atKey xs k).map (·.2) := by
  unfold valueAt atKey flatX
  rw [List.find?_map, Option.map_map, Option.map_map]
  rfl
theorem samePairsH {nm : String} {a b : Addr} {xa xb : List (K × Addr × Value)} {r : Bool} {Q : Bool → Shared → Prop} (hu : knd.room A) (ha : (a == sysModules) = false) (hb : (b == sysModules) = false)
    (da : s.heap.DictOfH knd a xa) (db : s.heap.DictOfH knd b xb) (hits : xa.length = xb.length → PySem.W.KeqHitsP prog w A s (flatX xb) (flatX xa) r) (h : Q (xa.length == xb.length && r) s) :
    wpAny (model prog w) A (Builtin.Dict.samePairs nm a b) Q E s := by
  obtain ⟨oa, es, ep, hoa, _, hda, hea, hia, hna⟩ := da
  obtain ⟨ob, es', ep', hob, _, hdb, heb, hib, hnb⟩ := db
  have hla : xa.length = es.size := (size_of_entries hea).symm
  have hlb : xb.length = es'.size := (size_of_entries heb).symm
  rw [hla, hlb] at h
  unfold Builtin.Dict.samePairs Builtin.Dict.showsAll
  rw [if_neg (show ¬ (a == sysModules) = true by rw [ha]; exact Bool.false_ne_true), if_neg (show ¬ (b == sysModules) = true by rw [hb]; exact Bool.false_ne_true)]
  refine wpAny_bind (wpAny_pure (wpAny_bind (wpAny_pure ?_)))
  refine wpAny_bind (wpAny_dictEntries hoa hda ?_)
  dsimp only
  refine wpAny_bind (wpAny_dictEntries hob hdb ?_)
  by_cases hsz : es.size = es'.size
  case neg =>
    rw [if_pos (by simpa using hsz)]
    have hbf : (es.size == es'.size) = false := by simpa using hsz
    rw [hbf, Bool.false_and] at h
    exact wpAny_bind (wpAny_rule (wpAny_pure h))
  case pos =>
    have h' : Q r s := by simpa [hsz] using h
    have hits' := hits (by rw [hla, hlb]; exact hsz)
    rw [if_neg (by rw [hsz]; simp)]
    refine wpAny_bind (wpAny_dictEpoch hoa hda ?_)
    refine wpAny_bind ?_
    rw [Std.Legacy.Range.forIn_eq_forIn_range']
    simp only [Std.Legacy.Range.size, Nat.sub_zero, Nat.add_sub_cancel, Nat.div_one]
    refine wpAny_forIn_list _
      (fun rest q s' => s' = s ∧ q = (none, ()) ∧ ∃ i, rest = List.range' i (es.size - i) ∧ i ≤ es.size ∧ PySem.W.KeqHitsP prog w A s (flatX xb) ((flatX xa).drop i) r)
      _ ?_ ?_ _ _ ⟨rfl, rfl, 0, by simp, Nat.zero_le _, hits'⟩
    · rintro x rest q s' ⟨rfl, rfl, i, hr, hi, hpre⟩
      have hlt : i < es.size := by
        rcases Nat.lt_or_ge i es.size with h | h
        · exact h
        · rw [Nat.sub_eq_zero_of_le h] at hr; simp at hr
      obtain ⟨rfl, hrest⟩ : x = i ∧ rest = List.range' (i + 1) (es.size - (i + 1)) := by
        have e : es.size - i = (es.size - (i + 1)) + 1 := by omega
        rw [e, List.range'_succ] at hr
        injection hr with h1 h2
        exact ⟨h1, h2⟩
      refine wpAny_bind (wpAny_dictEntries hoa hda ?_)
      have hlt' : x < xa.length := by rw [hla]; exact hlt
      obtain ⟨⟨k, ka, v⟩, hkv⟩ : ∃ y, xa[x]? = some y := ⟨xa[x], List.getElem?_eq_getElem hlt'⟩
      have hent : es[x]? = some ⟨knd.hash k, .ref ka, v⟩ := by rw [entry_at hea x, hkv]; rfl
      rw [hent]
      have hdrop : (flatX xa).drop x = (k, v) :: (flatX xa).drop (x + 1) := by
        have e0 : x < (flatX xa).length := by
          rw [List.length_map]
          exact hlt'
        rw [List.drop_eq_getElem_cons e0]
        have e1 : (flatX xa)[x] = (k, v) := by
          obtain ⟨_, e2⟩ := List.getElem?_eq_some_iff.mp hkv
          simp [flatX, e2]
        rw [e1]
      have hik : knd.is s'.heap k ka := hia _ (List.mem_of_getElem? hkv)
      rw [hdrop] at hpre
      show wpAny _ _ (holding [Value.ref ka, v] _ >>= _) _ _ _
      refine wpAny_bind (wpAny_holding (wpAny_bind (wpAny_dictFind_heap hu hik hob hdb heb hib hnb ?_ ?_)))
      · intro hno
        have hn : valueAt (flatX xb) k = none := by rw [valueAt_flat, atKey_none_of_get hno]; rfl
        rcases hpre.inv with ⟨_, er⟩ | ⟨y, _, _, hy, _⟩
        · rw [er] at h'
          refine wpAny_pure ?_
          show wpAny _ _ (if (!false) = true then _ else _) _ _ _
          rw [if_pos (by decide)]
          exact wpAny_pure (wpAny_pure h')
        · rw [hn] at hy; exact nomatch hy
      · intro j p hj
        have hv' : valueAt (flatX xb) k = some p.2 := by rw [valueAt_flat, atKey_of_get hnb hj]; rfl
        have hej : es'[j]? = some ⟨knd.hash k, .ref p.1, p.2⟩ := by rw [entry_at heb j, hj]; rfl
        refine wpAny_bind (wpAny_dictEntries hob hdb ?_)
        rw [hej]
        rcases hpre.inv with ⟨hn, _⟩ | ⟨y, e, b', hy, he, hrr, er⟩
        · rw [hv'] at hn; exact nomatch hn
        · have ey : p.2 = y := Option.some.inj (hv'.symm.trans hy)
          rw [← ey] at he
          refine wpAny_holding (he _ _ ?_)
          cases e with
          | false =>
            rw [er, Bool.false_and] at h'
            show wpAny _ _ (if (!false) = true then _ else _) _ _ _
            rw [if_pos (by decide)]
            exact wpAny_pure (wpAny_pure h')
          | true =>
            rw [Bool.true_and] at er
            rw [← er] at hrr
            show wpAny _ _ (if (!true) = true then _ else _) _ _ _
            rw [if_neg (by decide)]
            refine wpAny_bind (wpAny_dictEpoch hoa hda ?_)
            rw [if_neg (by simp)]
            exact wpAny_pure ⟨rfl, rfl, x + 1, hrest, hlt, hrr⟩
    · rintro q s' ⟨rfl, rfl, i, hr, hi, hpre⟩
      have hin : i = es.size := by
        rcases Nat.lt_or_ge i es.size with h | h
        · have e : es.size - i = (es.size - (i + 1)) + 1 := by omega
          rw [e, List.range'_succ] at hr; exact nomatch hr
        · exact Nat.le_antisymm hi h
      refine wpAny_pure ?_
      have hl : (flatX xa).length = es.size := by
        rw [List.length_map]
        exact hla
      rw [hin, ← hl, List.drop_length] at hpre
      cases hpre
      exact h'
theorem keqH {a b : Addr} {xa xb : List (K × Addr × Value)} {r : Bool} {Q : Value → Shared → Prop} (hr : knd.room A.in1) (ha : (a == sysModules) = false) (hb : (b == sysModules) = false)
    (da : s.heap.DictOfH knd a xa) (db : s.heap.DictOfH knd b xb) (hu : A.units < cLine) (hits : xa.length = xb.length → PySem.W.KeqHitsP prog w A.in1 s (flatX xb) (flatX xa) r) (h : Q (.bool (xa.length == xb.length && r)) s) :
    wpAny (model prog w) A (compareOp .Eq (.ref a) (.ref b)) Q E s := by
  refine wpAny_richCompare_same_room (op := .Eq) da.typeIs db.typeIs PySem.F.slot_dict_eq (wpAny_call_entry PySem.F.slot_dict_eq da.typeIs PySem.F.entry_dict_eq ?_ (PySem.F.args_dict_eq_2 _ _)) hu
  show wpAny _ _ (Builtin.Dict.dictSlotArgs "__eq__" ⟨[.ref a, .ref b], []⟩ >>= _) _ _ s
  refine wpAny_bind ?_
  unfold Builtin.Dict.dictSlotArgs
  refine wpAny_bind (wpAny_notOrdered_dict da.typeIs ?_)
  show wpAny _ _ (pure (Value.ref a, Value.ref b)) _ _ s
  refine wpAny_pure ?_
  refine wpAny_bind (wpAny_isInstance (T := "dict") db.typeIs PySem.F.sub_dict_dict ?_)
  simp only [Bool.not_true, Bool.false_eq_true, if_false]
  refine wpAny_bind (wpAny_pure (wpAny_bind (wpAny_pure ?_)))
  refine wpAny_bind (samePairsH hr ha hb da db hits ?_)
  refine wpAny_pure ⟨_, rfl, ?_, ?_⟩
  · exact fun x => nomatch x
  · simpa using h
end
/-- all keys of the one have their value in the other -/
def sameT (ks ls : List (List Key × V)) : Bool := ks.all fun p => decide (valV ls p.1 = some p.2)
theorem hitsT {P : Program} {w : World} {A : Around} {s : Shared} {H : Hp} {ls : List (List Key × V)} {xb : List (List Key × Addr × Value)} (rb : KT H ls xb) :
    ∀ {ks : List (List Key × V)} {xa : List (List Key × Addr × Value)}, KT H ks xa → (∀ p ∈ ks, ∃ i j, p.2 = .int i ∧ valV ls p.1 = some (.int j)) → PySem.W.KeqHitsP P w A s (flatX xb) (flatX xa) (sameT ks ls) := by
  intro ks xa ra
  induction ra with
  | nil => intro _; exact .nil
  | @cons p q ps qs h t ih =>
    intro hp
    obtain ⟨h1, _, h2⟩ := h
    obtain ⟨i, j, e1, e2⟩ := hp p List.mem_cons_self
    have rr : RelO (some (.int j)) ((atKey xb p.1).map (·.2)) := by rw [← e2]; exact rb.val p.1
    obtain ⟨y, hy, ry⟩ := rr.some_of
    obtain ⟨key, ka, v⟩ := q
    have h1' : p.1 = key := h1
    have hv : valueAt (flatX xb) key = some y := by rw [valueAt_flat, ← h1']; exact hy
    have h2' : RelV p.2 v := h2
    rw [e1] at h2'
    obtain ⟨t1, rfl⟩ := (show ∃ t, v = Value.int i t from h2')
    obtain ⟨t2, rfl⟩ := (show ∃ t, y = Value.int j t from ry)
    have es : sameT (p :: ps) ls = ((i == j) && sameT ps ls) := by
      show (decide (valV ls p.1 = some p.2) && _) = _
      rw [e2, e1]
      have : decide (some (V.int j) = some (V.int i)) = (i == j) := by
        by_cases hij : i = j
        · subst hij
          simp
        · have h3 : ¬ some (V.int j) = some (V.int i) := fun z => hij (by injection z with z; injection z with z; exact z.symm)
          rw [decide_eq_false h3]
          simp [hij]
      rw [this]
      rfl
    rw [es]
    exact .hit hv (SeqAt.EqAt.int_int i t1 j t2).eqP (ih fun p' hm => hp p' (List.mem_cons_of_mem _ hm))
section
variable {X : Cx}
def rEqT : R2 := fun x y H Q => ∃ a b ks ls, x = .ref a ∧ y = .ref b ∧ H a = some (.dT ks) ∧ H b = some (.dT ls) ∧ ks.length = ls.length ∧ (∀ p ∈ ks, ∃ i j, p.2 = .int i ∧ valV ls p.1 = some (.int j)) ∧ Q (.bl (sameT ks ls)) H
theorem op_eqT (hu : X.A.units + 1 < cLine) : OpR X (compareOp .Eq) rEqT := by
  intro pins s σ H x y v u Q I rx ry h
  obtain ⟨a, b, ks, ls, rfl, rfl, ea, eb, hlen, hp, q⟩ := h
  obtain rfl : v = Value.ref a := rx
  obtain rfl : u = Value.ref b := ry
  obtain ⟨_, ya, xa, ra, da⟩ := dt_of I.hok ea
  obtain ⟨_, yb, xb, rb, db⟩ := dt_of I.hok eb
  have hl : xa.length = xb.length := by rw [← ra.length, ← rb.length]; exact hlen
  exact keqH (r := sameT ks ls) (tupleKind_room_in1 hu) ya yb da db (Nat.lt_of_succ_lt hu) (fun _ => hitsT rb ra hp) (fin_bl I q (by simp [hl]))
/-! ### either way of walking -/
theorem PI.or {tg e : Expr} {w1 w2 : TI} (h1 : PI X tg e w1) (h2 : PI X tg e w2) : PI X tg e (fun σ H R => w1 σ H R ∨ w2 σ H R) :=
  ⟨fun pins s σ H R I h => h.elim (fun q => h1.run pins s σ H R I q) fun q => h2.run pins s σ H R I q⟩
end
end KR

set_option Elab.async false
set_option linter.all false
set_option maxRecDepth 100000
set_option maxHeartbeats 4000000
namespace KR
open PySem PySem.Spec PyProof.Rows L2
section enumT
open AutoSeq1 (wpAny_loadPart')
theorem meets_enumerate_newT (l : Addr) (items : Array Value) (n : Nat) (dct : Option Addr) (sl : Array (Option Value)) :
    Meets (Builtin.«enumerate.__new__» ⟨[.type "enumerate", .ref l], []⟩) (fun _ R s => s.heap.get? l = some { cls := .type "tuple", dict := dct, data := .seq items n, slots := sl } ∧
      R (.ok (.ret (.ref (s.heap.push { cls := .type "tuple_iterator", data := .fields #[.ref l, .int 0 0] }).objs.size)))
        { s with heap := (s.heap.push { cls := .type "tuple_iterator", data := .fields #[.ref l, .int 0 0] }).push { cls := .type "enumerate", data := .fields #[.none, .bool false, .ref s.heap.objs.size, rawInt 0, .none, .none] } }) :=
  .of_wp fun prog w A R s h => by
    obtain ⟨hp, g, d, tk, os⟩ := s; obtain ⟨hl, h⟩ := h
    have hsub := sub_enumerate
    have hL : Heap.IsTuple (Shared.heap ⟨hp, g, d, tk, os⟩) l items := ⟨_, hl, rfl, n, rfl⟩
    wp_walk using wpAny_loadPart' hl
    refine wpAny_stack_any fun st => wpAny_pure ?_
    split
    · rename_i c _ _ _ _ _
      cases (c == Value.type "enumerate")
      · wp_walk using wpAny_loadPart' hl, wpAny_pyIter_tuple hL
        exact ⟨_, rfl, h⟩
      · wp_walk using wpAny_loadPart' hl, wpAny_pyIter_tuple hL
        exact ⟨_, rfl, h⟩
    · wp_walk using wpAny_loadPart' hl, wpAny_pyIter_tuple hL
      exact ⟨_, rfl, h⟩
end enumT
section enumT2
open AutoSeq1 (wpAny_loadPart')
theorem call_enumerate_tuple {prog : Program} {w : World} {A : Around} {E : Value → Shared → Prop} {s : Shared} {l : Addr} {items : Array Value} {Q : Value → Shared → Prop} (hL : s.heap.IsTuple l items)
    (h : ∀ h', IsEnum h' (s.heap.objs.size + 1) s.heap.objs.size 0 .none → h'.IsTupleIter s.heap.objs.size l 0 → h'.objs.size = s.heap.objs.size + 2 →
      (∀ b o, s.heap.get? b = some o → h'.get? b = some o) → Q (.ref (s.heap.objs.size + 1)) { s with heap := h' }) :
    wpAny (model prog w) A (call (.type "enumerate") [.ref l]) Q E s := by
  obtain ⟨⟨c, dct, dt, sl⟩, hl, hc, n, hd⟩ := hL
  replace hc : c = .type "tuple" := hc
  replace hd : dt = .seq items n := hd
  subst hc hd
  refine callType_new F.called_enumerate (by decide) (F.typeCall_enumerate_1 _) (F.newCall_enumerate_1 _) (fun obj => F.args_object_init_2 obj _) F.entry_enumerate_new
    (meets_enumerate_newT l items n dct sl) ⟨hl, ?_⟩
  have hz : (s.heap.push { cls := .type "tuple_iterator", data := .fields #[.ref l, .int 0 0] }).objs.size = s.heap.objs.size + 1 := Heap.size_push ..
  show _ ∧ _
  rw [hz]
  have he : IsEnum ((s.heap.push { cls := .type "tuple_iterator", data := .fields #[.ref l, .int 0 0] }).push
      { cls := .type "enumerate", data := .fields #[.none, .bool false, .ref s.heap.objs.size, rawInt 0, .none, .none] }) (s.heap.objs.size + 1) s.heap.objs.size 0 .none := by
    have := Heap.get?_push_size (s.heap.push { cls := .type "tuple_iterator", data := .fields #[.ref l, .int 0 0] })
      (o := { cls := .type "enumerate", data := .fields #[.none, .bool false, .ref s.heap.objs.size, rawInt 0, .none, .none] }) rfl
    rw [hz] at this; exact this
  refine ⟨⟨_, he, rfl⟩, h _ he ⟨_, Heap.get?_push_of_some _ (Heap.get?_push_size _ rfl), rfl, rfl⟩ (by rw [Heap.size_push, hz]) fun b o x => Heap.get?_push_of_some _ (Heap.get?_push_of_some _ x)⟩
end enumT2
theorem wpAny_pyNext_enum_endT {prog : Program} {w : World} {A : Around} {E : Value → Shared → Prop} {s : Shared} {e it l : Addr} {c : Int} {i : Nat} {items : Array Value} {old : Value} {Q : Option Value → Shared → Prop} (hh : A.handled = none)
    (he : IsEnum s.heap e it c old) (hit : s.heap.IsTupleIter it l i) (hl : s.heap.IsTuple l items) (hx : items[i]? = none)
    (hQ : ∀ h', Heap.ExtBut it s.heap h' → Q none { s with heap := h' }) : wpAny (model prog w) A (pyNext (.ref e)) Q E s := by
  have hT : s.TypeIs (.ref e) "enumerate" := ⟨_, he, rfl⟩
  unfold pyNext
  refine wpAny_bind (wpAny_attempt (wpAny_callSpecial?_slot (name := Str.ofString "__next__") hT F.slot_enumerate_next
    (wpAny_call_entry F.slot_enumerate_next hT F.entry_enumerate_next ?_ (F.args_enumerate_next_1 _))))
  show wpAny _ _ (field (.ref e) 2 >>= _) _ _ _
  refine wpAny_bind (wpAny_field he rfl (x := .ref it) rfl ?_)
  refine wpAny_bind (wpAny_nextOf_tuple_end hh hit hl hx fun h' x he' hx' => ?_)
  obtain ⟨o, ho, hc⟩ := hx'
  refine wpAny_bind (wpAny_isInstance (T := "StopIteration") (b := true) ⟨o, ho, hc⟩ isSubtype_stop ?_)
  exact wpAny_pure (hQ _ he')
/-- the tuple at a, each item in a new pair -/
def IteT (K : PySem.W.Frag) (a : Addr) : It :=
  ⟨fun i H => ∃ (xs : List V) (x : V), SqT K H a xs ∧ xs[i]? = some x, fun i H v H' => ∃ T x, v = .ref T ∧ H T = none ∧ H' = upd H T (.tup [.int (i : Nat), x]) ∧ ∀ xs, SqT K H a xs → xs[i]? = some x, fun i H => ∃ xs : List V, SqT K H a xs ∧ xs.length ≤ i⟩
theorem turn_enumT {P : Program} {w : World} {K : PySem.W.Frag} {elts : List Expr} {kk : Nat} {tpos : Pos} (a e it : Addr) :
    Turn P w K (.Tuple elts kk tpos) (IteT K a) [e, it] e (fun i h => (∃ old, IsEnum h e it ((i : Nat) : Int) old) ∧ h.IsTupleIter it a i ∧ e ≠ it ∧ e ≠ a ∧ a ≠ it) where
  mem := by simp
  obj := fun i h st b hb => by
    obtain ⟨⟨old, he⟩, ⟨o, ho, hc, hd⟩, _⟩ := st
    have e' : b = e ∨ b = it := by simpa using hb
    rcases e' with z | z
    · rw [z]; exact ⟨_, he, fun v q => nomatch q⟩
    · rw [z]; exact ⟨o, ho, fun v q => by rw [hd] at q; cases q⟩
  keep := fun i h h' st k => let ⟨⟨old, he⟩, hi, hne⟩ := st; ⟨⟨old, k e (by simp) _ he⟩, hi.at fun o q => k it (by simp) o q, hne⟩
  item := by
    intro X hP hw hK hc i pins s σ H E I hf st hg
    subst hP hw hK
    obtain ⟨⟨old, he⟩, hit, hne, hea, hai⟩ := st
    obtain ⟨xs, x, hq, hx⟩ := hg
    obtain ⟨its, rv, p, hz⟩ := I.tuple hq
    obtain ⟨u, hu, ru⟩ := rv.get hx
    have hel : e < s.heap.objs.size := Heap.lt_size he
    have hil : it < s.heap.objs.size := by obtain ⟨_, q, _⟩ := hit; exact Heap.lt_size q
    have hlt : i < its.toArray.size := by
      have := (List.getElem?_eq_some_iff.mp hu).1
      simpa using this
    have D := Draws.tuple (prog := X.prog) (w := X.w) (A := X.A.in1) (I.ok.hd hc) it a hai its.toArray
    refine wpAny_pyNext_enum_itemC D he ⟨hit, p⟩ hlt hne (by simp [hne, hea]) fun y h' tk hP ho hit' hT hsz hk => ?_
    have ey : y = u := by
      have h1 : its.toArray[i]? = some y := hP
      have h2 : its.toArray[i]? = some u := by simpa using hu
      exact Option.some.inj (h1.symm.trans h2)
    subst ey
    refine ⟨_, rfl, wpAny_letOwnedTupleGo_enum (s := { s with heap := h', toks := tk + 1 }) ho fun h'' he' sb => ?_⟩
    have hT2 : h''.get? s.heap.objs.size = some { cls := .type "tuple", data := .seq #[.int i tk, y] } := (sb.2 _ (Nat.ne_of_gt hel)).trans hT
    have new : ObjOk X.prog X.w (upd H s.heap.objs.size (.tup [.int (i : Nat), x])) h'' s.heap.objs.size (.tup [.int (i : Nat), x]) :=
      ⟨by show 2 ≤ sizeLine; decide, [.int i tk, y], .cons ⟨_, rfl⟩ (.cons ru .nil), ⟨_, hT2, rfl, _, rfl⟩⟩
    have I1 : Inv X pins σ (upd H s.heap.objs.size (.tup [.int (i : Nat), x])) { s with heap := h'', toks := tk + 1 } :=
      I.turnedNew (ch := [e, it]) (fun b ob hb q => (sb.2 b (fun z => hb (by simp [z]))).trans (hk b ob (fun z => hb (by simp [z])) (fun z => hb (by simp [z])) q)) hf (Nat.le_refl _) new
    refine ⟨.ref s.heap.objs.size, _, I1, rfl, ⟨_, x, rfl, I.hok.fresh (Nat.le_refl _), rfl, fun ys hy => by rw [I.tuple_inj hy hq]; exact hx⟩, ⟨⟨y, ?_⟩, hit'.1.at fun o q => (sb.2 it (Ne.symm hne)).trans q, hne, hea, hai⟩, fun b hb => ?_⟩
    · have e1 : ((i + 1 : Nat) : Int) = (i : Int) + 1 := by omega
      rw [e1]; exact he'
    · have hb' : b < s.heap.objs.size := by
        have e' : b = e ∨ b = it := by simpa using hb
        rcases e' with z | z
        · rw [z]; exact hel
        · rw [z]; exact hil
      rw [upd_ne (Nat.ne_of_lt hb')]
      exact (hf b hb).1
  done := by
    intro X hP hw hK hc i pins s σ H E I hf st hg
    subst hP hw hK
    obtain ⟨⟨old, he⟩, hit, hne, hea, hai⟩ := st
    obtain ⟨xs, hq, hx⟩ := hg
    obtain ⟨its, rv, p, hz⟩ := I.tuple hq
    obtain ⟨f0, f1, f2, f3, f4, f5⟩ := hf it (by simp)
    have hl := rv.length
    exact wpAny_pyNext_enum_endT (I.ok.hd hc) he hit p (by simp; omega) fun h' eb => ⟨rfl, I.turned (t' := s.toks) (fun b o hb q => eb b o hb q) f0 f1 f3 f4 f5⟩
  self := fun A i s Q E st h => let ⟨⟨_, he⟩, _⟩ := st; wpAny_pyIter_enum he h

def iEnumT (K : PySem.W.Frag) (ta : TA) : TI := fun σ H R => ta σ H fun vs H1 => ∃ a xs, vs = [.ref a] ∧ SqT K H1 a xs ∧ R (IteT K a) H1
theorem pi_enumT {X : Cx} {e : Expr} {ta : TA} {p pos tpos : Pos} {elts : List Expr} {kk : Nat} (hg : Gl X "enumerate") (hm : X.mg "enumerate" = none) (ha : PA X [e] ta) (hs : starEach [e] X.env = [(false, eval e X.env)] := by rfl) :
    PI X (.Tuple elts kk tpos) (.Call (.Name "enumerate" p) [e] [] pos) (iEnumT X.K ta) := by
  refine ⟨fun pins s σ H R I h => ?_⟩
  refine Call_ (ld_blt I hg hm boot_enumerate (PyProof.Rows.callWith_type1 (thn (ha.run pos pins s σ H _ I h) fun us s1 ⟨vs, H1, I1, r1, q1⟩ => ?_) hs rfl))
  obtain ⟨a, xs, ex, hq, q⟩ := q1
  subst ex
  cases r1 with
  | cons r rr =>
    cases rr
    cases r
    obtain ⟨its, rv, p', hz⟩ := I1.tuple hq
    have hal : a < s1.heap.objs.size := by
      obtain ⟨o, ho, _⟩ := p'
      exact Heap.lt_size ho
    refine call_enumerate_tuple p' fun h' he hit hsz hk => wpAny_pyIter_enum he ?_
    have I2 : Inv X pins σ H1 { s1 with heap := h' } := I1.kept (t' := s1.toks) hk
    refine ⟨s1.heap.objs.size + 1, [s1.heap.objs.size + 1, s1.heap.objs.size], _, _, H1, rfl, I2, turn_enumT a (s1.heap.objs.size + 1) s1.heap.objs.size, ⟨⟨.none, he⟩, hit, Nat.succ_ne_self _, Nat.ne_of_gt (Nat.lt_succ_of_lt hal), Nat.ne_of_lt hal⟩, fun b hb => ?_, q⟩
    have e' : b = s1.heap.objs.size + 1 ∨ b = s1.heap.objs.size := by simpa using hb
    have hle : s1.heap.objs.size ≤ b := by
      rcases e' with z | z
      · rw [z]; exact Nat.le_add_right _ _
      · rw [z]; exact Nat.le_refl _
    exact I1.fpOk hle (I1.hok.fresh hle)
theorem walk_enumT {K : PySem.W.Frag} {a : Addr} {xs : List V} : Walk (IteT K a) xs.length (fun H => SqT K H a xs) (YPair (fun i => some (.int (i : Nat))) (fun i => xs[i]?)) := by
  refine ⟨fun i _ hi q => ⟨xs, xs[i], q, by simp [hi]⟩, fun _ q => ⟨xs, q, Nat.le_refl _⟩, fun i H v H' _ q y => ?_⟩
  obtain ⟨T, x, h1, h2, h3, h4⟩ := y
  exact ⟨T, .int (i : Nat), x, h1, h2, h3, rfl, h4 xs q⟩
/-! ### raise C() -/
section
variable {X : Cx} {C : Addr} {bmB : List Value} {B newId initId : String}
theorem pmk_own0 {x : Str} {p pos : Pos} (F : ExcBaseFacts B newId initId bmB) (q : PySem.W.excIn X.K C bmB newId = true) (gC : X.mg x = some (.ref C)) (kC : PySem.W.keepIn X.K (.ref C) = true) (r : Raises X (.ref C)) (hg : Gl X x)
    (hdb : (x == ("__debug__" : Str)) = false := by decide) : PMk X (.Call (.Name x p) [] [] pos) (fun _ H Q => Q (.ref C) none H) := by
  intro pins s σ H Q I h
  refine wpAny_Call_Name_kw (ld_glob I hg gC ?_ hdb)
  refine PySem.W.callWith_K0 I.kIn kC ?_
  show wpAny _ _ (call (.ref C) []) _ _ _
  obtain ⟨bm, N, nm, qn, bs, hdct, sn, sub, ab, col, dd, k0, k1, k2, k3, k5, mN, hC, hN, hni, T⟩ := exc_obj I.kIn q
  refine wpAny_call_exc_subT F T hC hN hni (fun h' e hm => ?_) (by show 0 ≤ sizeLine; exact Nat.zero_le _)
  exact mk_of I hm r h (I.hok.gone hm.new)
end

end KR

set_option Elab.async false
set_option linter.all false
set_option maxRecDepth 100000
set_option maxHeartbeats 4000000
namespace KR
open PySem PySem.Spec PyProof.Rows L2 LamX
section
variable {X : Cx}
/-- try: return [told, a()] / except x: return [ret] -/
def TTmet (K : PySem.W.Frag) (CS : Addr) (told ret : Str) : (XK → Hp → VK → Prop) → Hp → VK → Prop := fun tl H Q =>
  tl (fun cls _ H' => ∃ b, PySem.W.exmOne K cls (.ref CS) = some b ∧ (b = true → ∀ p, H' p = none → Q (.ref p) (upd H' p (.lst [.str ret]))) ∧ (b = false → False)) H
    (fun v H' => [V.str told, v].length ≤ sizeLine ∧ ∀ p, H' p = none → Q (.ref p) (upd H' p (.lst [.str told, v])))
theorem met_gives {Ng : List Str} {x a e q told ret : Str} {sg : Scope} {g CS : Addr} {cdg : Value} {j j2 : Nat} {p1 p2 p3 p4 p5 p6 p7 p8 p9 p10 p11 : Pos} (hge : sg.names.lookup e = some .globalImplicit) (hme : X.mg e = some (.ref CS)) (hde : (e == ("__debug__" : Str)) = false) (h0 : ∀ f : Addr, (L2.start Ng [V.ref f])[0]? = some (some (V.ref f))) :
    GivesTo X Ng x sg g cdg [.Try [.Return (some (.List [.Constant (.str told) j2 p9, .Call (.Name a p1) [] [] p2] p10)) p3] [.ExceptHandler (some (.Name e p4)) none [.Return (some (.List [.Constant (.str ret) j p5] p11)) p6] p7] [] [] p8] a q (TTmet X.K CS told ret) := by
  intro f c' s H Q tl act hc h
  have hgl : Gl (cxOf C8.CX0 X.prog X.w X.K X.mg X.base Ng x sg g cdg X.A X.stack s H C8.E0).nox e := hge
  refine ⟨_, pss_one (ps_try_only (X := (cxOf C8.CX0 X.prog X.w X.K X.mg X.base Ng x sg g cdg X.A X.stack s H C8.E0).nox) (c := .ref CS)
      (tb := fun W D σ H => ∃ Ech : XK, (∀ cls d σ' H', Ech cls d H' → W cls d σ' H') ∧ σ[0]? = some (some (.ref f)) ∧ H c' = some (CodeO c' q) ∧ tl Ech H (fun v H' => [V.str told, v].length ≤ sizeLine ∧ ∀ p, H' p = none → D.rt (.ref p) (upd H' p (.lst [.str told, v]))))
      rfl rfl ⟨hgl, hde, .inl hme⟩ LamX.takes0 (fun W pn xe tk _ => ?_) (fun a oe cls d pn _ _ => pss_one (ps_ret (pe_lst (pa_cons pe_str pa_nil))))), ?_⟩
  · refine ⟨fun pins s' σ H' D I h' => ?_⟩
    obtain ⟨Ech, hW, h1, h2, h3⟩ := h'
    have hp := act W pn xe Ech p1 p2 tk hW
    have hq := pss_one (ps_ret (pos := p3) (pe_lst (pos := p10) (pa_cons (pe_str (x := told) (j := j2) (pos := p9)) (pa_cons hp pa_nil))))
    exact hq.run pins s' σ H' D I ⟨h1, h2, h3⟩
  · exact ⟨fun cls _ H' => ∃ b, PySem.W.exmOne X.K cls (.ref CS) = some b ∧ (b = true → ∀ p, H' p = none → Q (.ref p) (upd H' p (.lst [.str ret]))) ∧ (b = false → False), fun cls d σ' H' ⟨b, e1, e2, e3⟩ => ⟨b, e1, fun hb a _ => ⟨by show 1 ≤ sizeLine; decide, e2 hb⟩, fun hb => e3 hb⟩, h0 f, hc, h⟩
end
end KR

set_option Elab.async false
set_option linter.all false
set_option maxRecDepth 100000
set_option maxHeartbeats 4000000
/-! The text by places, the defs as data, what the walk asks of the top. -/
namespace KD
open PySem PySem.Spec PyProof.Rows L2
def topS (i : Nat) : Stmt := PySem.Challenge.pw_pagefall_k60_whole_needless_cells.main.body.getD i (.Pass ⟨0, 0, 0, 0⟩)
abbrev sPIsList : Stmt := topS 3
def dPIsList : He.DefD := ⟨("is_list", none), "is_list", "is_list", defArgs sPIsList, defBody sPIsList, defScope sPIsList, [], []⟩
abbrev sPIsWhole : Stmt := topS 4
def dPIsWhole : He.DefD := ⟨("is_whole", none), "is_whole", "is_whole", defArgs sPIsWhole, defBody sPIsWhole, defScope sPIsWhole, [], []⟩
abbrev sPIsNatural : Stmt := topS 5
def dPIsNatural : He.DefD := ⟨("is_natural", none), "is_natural", "is_natural", defArgs sPIsNatural, defBody sPIsNatural, defScope sPIsNatural, [], []⟩
abbrev sPLowest : Stmt := topS 6
def dPLowest : He.DefD := ⟨("lowest", none), "lowest", "lowest", defArgs sPLowest, defBody sPLowest, defScope sPLowest, [], []⟩
abbrev sPPlus : Stmt := topS 7
def dPPlus : He.DefD := ⟨("plus", none), "plus", "plus", defArgs sPPlus, defBody sPPlus, defScope sPPlus, [], []⟩
abbrev sPMinus : Stmt := topS 8
def dPMinus : He.DefD := ⟨("minus", none), "minus", "minus", defArgs sPMinus, defBody sPMinus, defScope sPMinus, [], []⟩
abbrev sPTimes : Stmt := topS 9
def dPTimes : He.DefD := ⟨("times", none), "times", "times", defArgs sPTimes, defBody sPTimes, defScope sPTimes, [], []⟩
abbrev sPIsLess : Stmt := topS 10
def dPIsLess : He.DefD := ⟨("is_less", none), "is_less", "is_less", defArgs sPIsLess, defBody sPIsLess, defScope sPIsLess, [], []⟩
abbrev sPIsCell : Stmt := topS 19
def dPIsCell : He.DefD := ⟨("is_cell", none), "is_cell", "is_cell", defArgs sPIsCell, defBody sPIsCell, defScope sPIsCell, [], []⟩
abbrev sPWaysOf : Stmt := topS 20
def dPWaysOf : He.DefD := ⟨("ways_of", none), "ways_of", "ways_of", defArgs sPWaysOf, defBody sPWaysOf, defScope sPWaysOf, [], []⟩
abbrev sPColumnsInit : Stmt := inClass (topS 21) 0
def dPColumnsInit : He.DefD := ⟨("Columns", some "__init__"), "__init__", "Columns.__init__", defArgs sPColumnsInit, defBody sPColumnsInit, defScope sPColumnsInit, [], []⟩
abbrev sPColumnsMiddleOf : Stmt := inClass (topS 21) 1
def dPColumnsMiddleOf : He.DefD := ⟨("Columns", some "middle_of"), "middle_of", "Columns.middle_of", defArgs sPColumnsMiddleOf, defBody sPColumnsMiddleOf, defScope sPColumnsMiddleOf, [], []⟩
abbrev sPColumnsGreatestOfColumn : Stmt := inClass (topS 21) 2
def dPColumnsGreatestOfColumn : He.DefD := ⟨("Columns", some "greatest_of_column"), "greatest_of_column", "Columns.greatest_of_column", defArgs sPColumnsGreatestOfColumn, defBody sPColumnsGreatestOfColumn, defScope sPColumnsGreatestOfColumn, [], []⟩
abbrev sPColumnsHowMany : Stmt := inClass (topS 21) 3
def dPColumnsHowMany : He.DefD := ⟨("Columns", some "how_many"), "how_many", "Columns.how_many", defArgs sPColumnsHowMany, defBody sPColumnsHowMany, defScope sPColumnsHowMany, [], []⟩
abbrev sPColumnsLeastWidth : Stmt := inClass (topS 21) 7
def dPColumnsLeastWidth : He.DefD := ⟨("Columns", some "least_width"), "least_width", "Columns.least_width", defArgs sPColumnsLeastWidth, defBody sPColumnsLeastWidth, defScope sPColumnsLeastWidth, [], []⟩
abbrev sPColumnsEarliestWith : Stmt := inClass (topS 21) 17
def dPColumnsEarliestWith : He.DefD := ⟨("Columns", some "earliest_with"), "earliest_with", "Columns.earliest_with", defArgs sPColumnsEarliestWith, defBody sPColumnsEarliestWith, defScope sPColumnsEarliestWith, [], []⟩
abbrev sPColumnsNeedlessCells : Stmt := inClass (topS 21) 18
def dPColumnsNeedlessCells : He.DefD := ⟨("Columns", some "needless_cells"), "needless_cells", "Columns.needless_cells", defArgs sPColumnsNeedlessCells, defBody sPColumnsNeedlessCells, defScope sPColumnsNeedlessCells, [], []⟩
abbrev sPCheckLike : Stmt := topS 22
def dPCheckLike : He.DefD := ⟨("check_like", none), "check_like", "check_like", defArgs sPCheckLike, defBody sPCheckLike, defScope sPCheckLike, [], []⟩
abbrev sPSamePlacings : Stmt := topS 23
def dPSamePlacings : He.DefD := ⟨("same_placings", none), "same_placings", "same_placings", defArgs sPSamePlacings, defBody sPSamePlacings, defScope sPSamePlacings, [], []⟩
abbrev sPApartBy : Stmt := topS 24
def dPApartBy : He.DefD := ⟨("apart_by", none), "apart_by", "apart_by", defArgs sPApartBy, defBody sPApartBy, defScope sPApartBy, [], []⟩
abbrev sPNearestPlacing : Stmt := topS 25
def dPNearestPlacing : He.DefD := ⟨("nearest_placing", none), "nearest_placing", "nearest_placing", defArgs sPNearestPlacing, defBody sPNearestPlacing, defScope sPNearestPlacing, [], []⟩
abbrev sPPlacingApart : Stmt := topS 26
def dPPlacingApart : He.DefD := ⟨("placing_apart", none), "placing_apart", "placing_apart", defArgs sPPlacingApart, defBody sPPlacingApart, defScope sPPlacingApart, [], []⟩
abbrev sLawStream : Stmt := topS 28
def dLawStream : He.DefD := ⟨("_law_stream", none), "_law_stream", "_law_stream", defArgs sLawStream, defBody sLawStream, defScope sLawStream, [], []⟩
abbrev sLawDraw : Stmt := topS 29
def dLawDraw : He.DefD := ⟨("_law_draw", none), "_law_draw", "_law_draw", defArgs sLawDraw, defBody sLawDraw, defScope sLawDraw, [], []⟩
abbrev sLawPick : Stmt := topS 30
def dLawPick : He.DefD := ⟨("_law_pick", none), "_law_pick", "_law_pick", defArgs sLawPick, defBody sLawPick, defScope sLawPick, [], []⟩
abbrev sLawMix : Stmt := topS 31
def dLawMix : He.DefD := ⟨("_law_mix", none), "_law_mix", "_law_mix", defArgs sLawMix, defBody sLawMix, defScope sLawMix, [], []⟩
abbrev sLawAsLists : Stmt := topS 32
def dLawAsLists : He.DefD := ⟨("_law_as_lists", none), "_law_as_lists", "_law_as_lists", defArgs sLawAsLists, defBody sLawAsLists, defScope sLawAsLists, [], []⟩
abbrev sLawSame : Stmt := topS 33
def dLawSame : He.DefD := ⟨("_law_same", none), "_law_same", "_law_same", defArgs sLawSame, defBody sLawSame, defScope sLawSame, [], []⟩
abbrev sLawLow : Stmt := topS 34
def dLawLow : He.DefD := ⟨("_law_low", none), "_law_low", "_law_low", defArgs sLawLow, defBody sLawLow, defScope sLawLow, [], []⟩
abbrev sLawMinus : Stmt := topS 35
def dLawMinus : He.DefD := ⟨("_law_minus", none), "_law_minus", "_law_minus", defArgs sLawMinus, defBody sLawMinus, defScope sLawMinus, [], []⟩
abbrev sLawIsLess : Stmt := topS 36
def dLawIsLess : He.DefD := ⟨("_law_is_less", none), "_law_is_less", "_law_is_less", defArgs sLawIsLess, defBody sLawIsLess, defScope sLawIsLess, [], []⟩
abbrev sLawIsFrac : Stmt := topS 37
def dLawIsFrac : He.DefD := ⟨("_law_is_frac", none), "_law_is_frac", "_law_is_frac", defArgs sLawIsFrac, defBody sLawIsFrac, defScope sLawIsFrac, [], []⟩
abbrev sLawCells : Stmt := topS 38
def dLawCells : He.DefD := ⟨("_law_cells", none), "_law_cells", "_law_cells", defArgs sLawCells, defBody sLawCells, defScope sLawCells, [], []⟩
abbrev sLawWay : Stmt := topS 39
def dLawWay : He.DefD := ⟨("_law_way", none), "_law_way", "_law_way", defArgs sLawWay, defBody sLawWay, defScope sLawWay, [], []⟩
abbrev sLawWays : Stmt := topS 40
def dLawWays : He.DefD := ⟨("_law_ways", none), "_law_ways", "_law_ways", defArgs sLawWays, defBody sLawWays, defScope sLawWays, [], []⟩
abbrev sLawColumns : Stmt := topS 41
def dLawColumns : He.DefD := ⟨("_law_columns", none), "_law_columns", "_law_columns", defArgs sLawColumns, defBody sLawColumns, defScope sLawColumns, [], []⟩
abbrev sLawIsPlacing : Stmt := topS 42
def dLawIsPlacing : He.DefD := ⟨("_law_is_placing", none), "_law_is_placing", "_law_is_placing", defArgs sLawIsPlacing, defBody sLawIsPlacing, defScope sLawIsPlacing, [], []⟩
abbrev sLawMet : Stmt := topS 43
def dLawMet : He.DefD := ⟨("_law_met", none), "_law_met", "_law_met", defArgs sLawMet, defBody sLawMet, defScope sLawMet, [], []⟩
abbrev sLawHasNearer : Stmt := topS 44
def dLawHasNearer : He.DefD := ⟨("_law_has_nearer", none), "_law_has_nearer", "_law_has_nearer", defArgs sLawHasNearer, defBody sLawHasNearer, defScope sLawHasNearer, [], []⟩
abbrev sLawFirstApart : Stmt := topS 45
def dLawFirstApart : He.DefD := ⟨("_law_first_apart", none), "_law_first_apart", "_law_first_apart", defArgs sLawFirstApart, defBody sLawFirstApart, defScope sLawFirstApart, [], []⟩
abbrev sLawApartRight : Stmt := topS 46
def dLawApartRight : He.DefD := ⟨("_law_apart_right", none), "_law_apart_right", "_law_apart_right", defArgs sLawApartRight, defBody sLawApartRight, defScope sLawApartRight, [], []⟩
abbrev sLawNear : Stmt := topS 47
def dLawNear : He.DefD := ⟨("_law_near", none), "_law_near", "_law_near", defArgs sLawNear, defBody sLawNear, defScope sLawNear, [], []⟩
abbrev sPLaw : Stmt := topS 48
def dPLaw : He.DefD := ⟨("law", none), "law", "law", defArgs sPLaw, defBody sPLaw, defScope sPLaw, [], []⟩
def fns : List He.DefD := [dPIsList, dPIsWhole, dPIsNatural, dPLowest, dPPlus, dPMinus, dPTimes, dPIsLess, dPIsCell, dPWaysOf, dPColumnsInit, dPColumnsMiddleOf, dPColumnsGreatestOfColumn, dPColumnsHowMany, dPColumnsLeastWidth, dPColumnsEarliestWith, dPColumnsNeedlessCells, dPCheckLike, dPSamePlacings, dPApartBy, dPNearestPlacing, dPPlacingApart, dLawStream, dLawDraw, dLawPick, dLawMix, dLawAsLists, dLawSame, dLawLow, dLawMinus, dLawIsLess, dLawIsFrac, dLawCells, dLawWay, dLawWays, dLawColumns, dLawIsPlacing, dLawMet, dLawHasNearer, dLawFirstApart, dLawApartRight, dLawNear, dPLaw]
def globs : List Str := (["is_list", "is_whole", "is_natural", "lowest", "plus", "minus", "times", "is_less", "is_cell", "ways_of", "check_like", "same_placings", "apart_by", "nearest_placing", "placing_apart", "_law_stream", "_law_draw", "_law_pick", "_law_mix", "_law_as_lists", "_law_same", "_law_low", "_law_minus", "_law_is_less", "_law_is_frac", "_law_cells", "_law_way", "_law_ways", "_law_columns", "_law_is_placing"] : List Str) ++ (["_law_met", "_law_has_nearer", "_law_first_apart", "_law_apart_right", "_law_near", "Columns", "UnlikeColumns", "ZERO", "HALF", "law"] : List Str)
def frees : List Str := ["isinstance", "list", "tuple", "int", "bool", "dict", "len", "abs", "sum", "all", "any", "max", "min", "range", "enumerate", "zip"]
def clsF : List He.Fa := [.cls "Columns", .mkr "Columns", .exc "UnlikeColumns", .exm "UnlikeColumns" "UnlikeColumns" true, .noat "Columns" "own_many", .noat "Columns" "own_cells", .noat "Columns" "own_ways", .noat "Columns" "own_leasts", .noat "Columns" "own_greatests", .meth "Columns" "middle_of", .meth "Columns" "greatest_of_column", .meth "Columns" "how_many", .meth "Columns" "least_width", .meth "Columns" "earliest_with", .meth "Columns" "needless_cells"]
def fas : List He.Fa := globs.map He.Fa.glo ++ frees.map He.Fa.free ++ clsF
def exB (K : PySem.W.Frag) : Bool := He.tupB K "ZERO" [.int 0, .int 1] && He.tupB K "HALF" [.int 1, .int 2]
/-- what the walk asks of the top -/
structure Txt (K : PySem.W.Frag) (mg : Str → Option Value) : Prop where
  g : ∀ (i : Nat) (x : Str), globs[i]? = some x → mg x = some (.ref (He.ga K x))
  f : ∀ (i : Nat) (x : Str), frees[i]? = some x → mg x = none
  c : He.SaysD fas fns K
  e : exB K = true
section
variable {P : Program} {w : World} {K : PySem.W.Frag} {mg : Str → Option Value} {base : Heap}
theorem Txt.mk' {h : Heap} (X : K.In h) (G : h.Ns mainGlobals mg) (c : He.SaysD fas fns K) (e : exB K = true) : Txt K mg where
  g := fun i x hx => He.glo_ok X G (c.facts (f := .glo x) (by
    unfold fas
    exact List.mem_append_left _ (List.mem_append_left _ (List.mem_map.mpr ⟨x, List.mem_of_getElem? hx, rfl⟩))))
  f := fun i x hx => He.free_ok X G (c.facts (f := .free x) (by
    unfold fas
    exact List.mem_append_left _ (List.mem_append_right _ (List.mem_map.mpr ⟨x, List.mem_of_getElem? hx, rfl⟩))))
  c := c
  e := e
theorem Txt.cf (T : Txt K mg) (i : Nat) {f : He.Fa} (h : clsF[i]? = some f) : f.ok K = true := T.c.facts (by
    unfold fas
    exact List.mem_append_right _ (List.mem_of_getElem? h))
abbrev CC (K : PySem.W.Frag) : Addr := He.ga K "Columns"
abbrev CU (K : PySem.W.Frag) : Addr := He.ga K "UnlikeColumns"
theorem Txt.cls (T : Txt K mg) : Cls K (CC K) := He.cls_ok (T.cf 0 rfl)
theorem Txt.mkC (T : Txt K mg) : Mk K (CC K) (He.ma K (CC K) "__init__") := He.mkr_ok (T.cf 1 rfl)
theorem Txt.exU (T : Txt K mg) : PySem.W.excIn K (CU K) He.veBase "ValueError.__new__" = true ∧ PySem.W.keepIn K (.ref (CU K)) = true ∧ PySem.W.subIn K (.ref (CU K)) (.type "BaseException") = some true ∧ PySem.W.typeIn K (.ref (CU K)) = some (.type "type") := He.exc_ok (T.cf 2 (f := .exc "UnlikeColumns") rfl)
theorem Txt.emU (T : Txt K mg) : PySem.W.exmOne K (.ref (CU K)) (.ref (CU K)) = some true := He.exm_ok (T.cf 3 rfl)
theorem Txt.n_own_many (T : Txt K mg) : NoAttr K (CC K) "own_many" := He.noat_ok (T.cf 4 rfl)
theorem Txt.n_own_cells (T : Txt K mg) : NoAttr K (CC K) "own_cells" := He.noat_ok (T.cf 5 rfl)
theorem Txt.n_own_ways (T : Txt K mg) : NoAttr K (CC K) "own_ways" := He.noat_ok (T.cf 6 rfl)
theorem Txt.n_own_leasts (T : Txt K mg) : NoAttr K (CC K) "own_leasts" := He.noat_ok (T.cf 7 rfl)
theorem Txt.n_own_greatests (T : Txt K mg) : NoAttr K (CC K) "own_greatests" := He.noat_ok (T.cf 8 rfl)
theorem Txt.m_middle_of (T : Txt K mg) : Meth K (CC K) "middle_of" (He.ma K (CC K) "middle_of") := He.meth_ok (T.cf 9 rfl)
theorem Txt.m_greatest_of_column (T : Txt K mg) : Meth K (CC K) "greatest_of_column" (He.ma K (CC K) "greatest_of_column") := He.meth_ok (T.cf 10 rfl)
theorem Txt.m_how_many (T : Txt K mg) : Meth K (CC K) "how_many" (He.ma K (CC K) "how_many") := He.meth_ok (T.cf 11 rfl)
theorem Txt.m_least_width (T : Txt K mg) : Meth K (CC K) "least_width" (He.ma K (CC K) "least_width") := He.meth_ok (T.cf 12 rfl)
theorem Txt.m_earliest_with (T : Txt K mg) : Meth K (CC K) "earliest_with" (He.ma K (CC K) "earliest_with") := He.meth_ok (T.cf 13 rfl)
theorem Txt.m_needless_cells (T : Txt K mg) : Meth K (CC K) "needless_cells" (He.ma K (CC K) "needless_cells") := He.meth_ok (T.cf 14 rfl)
theorem Txt.f_isinstance (T : Txt K mg) : mg "isinstance" = none := T.f 0 _ rfl
theorem Txt.f_list (T : Txt K mg) : mg "list" = none := T.f 1 _ rfl
theorem Txt.f_tuple (T : Txt K mg) : mg "tuple" = none := T.f 2 _ rfl
theorem Txt.f_int (T : Txt K mg) : mg "int" = none := T.f 3 _ rfl
theorem Txt.f_bool (T : Txt K mg) : mg "bool" = none := T.f 4 _ rfl
theorem Txt.f_dict (T : Txt K mg) : mg "dict" = none := T.f 5 _ rfl
theorem Txt.f_len (T : Txt K mg) : mg "len" = none := T.f 6 _ rfl
theorem Txt.f_abs (T : Txt K mg) : mg "abs" = none := T.f 7 _ rfl
theorem Txt.f_sum (T : Txt K mg) : mg "sum" = none := T.f 8 _ rfl
theorem Txt.f_all (T : Txt K mg) : mg "all" = none := T.f 9 _ rfl
theorem Txt.f_any (T : Txt K mg) : mg "any" = none := T.f 10 _ rfl
theorem Txt.f_max (T : Txt K mg) : mg "max" = none := T.f 11 _ rfl
theorem Txt.f_min (T : Txt K mg) : mg "min" = none := T.f 12 _ rfl
theorem Txt.f_range (T : Txt K mg) : mg "range" = none := T.f 13 _ rfl
theorem Txt.f_enumerate (T : Txt K mg) : mg "enumerate" = none := T.f 14 _ rfl
theorem Txt.f_zip (T : Txt K mg) : mg "zip" = none := T.f 15 _ rfl
theorem Txt.g_is_list (T : Txt K mg) : mg "is_list" = some (.ref (He.ga K "is_list")) := T.g 0 _ rfl
theorem Txt.g_is_whole (T : Txt K mg) : mg "is_whole" = some (.ref (He.ga K "is_whole")) := T.g 1 _ rfl
theorem Txt.g_is_natural (T : Txt K mg) : mg "is_natural" = some (.ref (He.ga K "is_natural")) := T.g 2 _ rfl
theorem Txt.g_lowest (T : Txt K mg) : mg "lowest" = some (.ref (He.ga K "lowest")) := T.g 3 _ rfl
theorem Txt.g_plus (T : Txt K mg) : mg "plus" = some (.ref (He.ga K "plus")) := T.g 4 _ rfl
theorem Txt.g_minus (T : Txt K mg) : mg "minus" = some (.ref (He.ga K "minus")) := T.g 5 _ rfl
theorem Txt.g_times (T : Txt K mg) : mg "times" = some (.ref (He.ga K "times")) := T.g 6 _ rfl
theorem Txt.g_is_less (T : Txt K mg) : mg "is_less" = some (.ref (He.ga K "is_less")) := T.g 7 _ rfl
theorem Txt.g_is_cell (T : Txt K mg) : mg "is_cell" = some (.ref (He.ga K "is_cell")) := T.g 8 _ rfl
theorem Txt.g_ways_of (T : Txt K mg) : mg "ways_of" = some (.ref (He.ga K "ways_of")) := T.g 9 _ rfl
theorem Txt.g_check_like (T : Txt K mg) : mg "check_like" = some (.ref (He.ga K "check_like")) := T.g 10 _ rfl
theorem Txt.g_same_placings (T : Txt K mg) : mg "same_placings" = some (.ref (He.ga K "same_placings")) := T.g 11 _ rfl
theorem Txt.g_apart_by (T : Txt K mg) : mg "apart_by" = some (.ref (He.ga K "apart_by")) := T.g 12 _ rfl
theorem Txt.g_nearest_placing (T : Txt K mg) : mg "nearest_placing" = some (.ref (He.ga K "nearest_placing")) := T.g 13 _ rfl
theorem Txt.g_placing_apart (T : Txt K mg) : mg "placing_apart" = some (.ref (He.ga K "placing_apart")) := T.g 14 _ rfl
theorem Txt.g__law_stream (T : Txt K mg) : mg "_law_stream" = some (.ref (He.ga K "_law_stream")) := T.g 15 _ rfl
theorem Txt.g__law_draw (T : Txt K mg) : mg "_law_draw" = some (.ref (He.ga K "_law_draw")) := T.g 16 _ rfl
theorem Txt.g__law_pick (T : Txt K mg) : mg "_law_pick" = some (.ref (He.ga K "_law_pick")) := T.g 17 _ rfl
theorem Txt.g__law_mix (T : Txt K mg) : mg "_law_mix" = some (.ref (He.ga K "_law_mix")) := T.g 18 _ rfl
theorem Txt.g__law_as_lists (T : Txt K mg) : mg "_law_as_lists" = some (.ref (He.ga K "_law_as_lists")) := T.g 19 _ rfl
theorem Txt.g__law_same (T : Txt K mg) : mg "_law_same" = some (.ref (He.ga K "_law_same")) := T.g 20 _ rfl
theorem Txt.g__law_low (T : Txt K mg) : mg "_law_low" = some (.ref (He.ga K "_law_low")) := T.g 21 _ rfl
theorem Txt.g__law_minus (T : Txt K mg) : mg "_law_minus" = some (.ref (He.ga K "_law_minus")) := T.g 22 _ rfl
theorem Txt.g__law_is_less (T : Txt K mg) : mg "_law_is_less" = some (.ref (He.ga K "_law_is_less")) := T.g 23 _ rfl
theorem Txt.g__law_is_frac (T : Txt K mg) : mg "_law_is_frac" = some (.ref (He.ga K "_law_is_frac")) := T.g 24 _ rfl
theorem Txt.g__law_cells (T : Txt K mg) : mg "_law_cells" = some (.ref (He.ga K "_law_cells")) := T.g 25 _ rfl
theorem Txt.g__law_way (T : Txt K mg) : mg "_law_way" = some (.ref (He.ga K "_law_way")) := T.g 26 _ rfl
theorem Txt.g__law_ways (T : Txt K mg) : mg "_law_ways" = some (.ref (He.ga K "_law_ways")) := T.g 27 _ rfl
theorem Txt.g__law_columns (T : Txt K mg) : mg "_law_columns" = some (.ref (He.ga K "_law_columns")) := T.g 28 _ rfl
theorem Txt.g__law_is_placing (T : Txt K mg) : mg "_law_is_placing" = some (.ref (He.ga K "_law_is_placing")) := T.g 29 _ rfl
theorem Txt.g__law_met (T : Txt K mg) : mg "_law_met" = some (.ref (He.ga K "_law_met")) := T.g 30 _ rfl
theorem Txt.g__law_has_nearer (T : Txt K mg) : mg "_law_has_nearer" = some (.ref (He.ga K "_law_has_nearer")) := T.g 31 _ rfl
theorem Txt.g__law_first_apart (T : Txt K mg) : mg "_law_first_apart" = some (.ref (He.ga K "_law_first_apart")) := T.g 32 _ rfl
theorem Txt.g__law_apart_right (T : Txt K mg) : mg "_law_apart_right" = some (.ref (He.ga K "_law_apart_right")) := T.g 33 _ rfl
theorem Txt.g__law_near (T : Txt K mg) : mg "_law_near" = some (.ref (He.ga K "_law_near")) := T.g 34 _ rfl
theorem Txt.g_Columns (T : Txt K mg) : mg "Columns" = some (.ref (He.ga K "Columns")) := T.g 35 _ rfl
theorem Txt.g_UnlikeColumns (T : Txt K mg) : mg "UnlikeColumns" = some (.ref (He.ga K "UnlikeColumns")) := T.g 36 _ rfl
theorem Txt.g_ZERO (T : Txt K mg) : mg "ZERO" = some (.ref (He.ga K "ZERO")) := T.g 37 _ rfl
theorem Txt.g_HALF (T : Txt K mg) : mg "HALF" = some (.ref (He.ga K "HALF")) := T.g 38 _ rfl
theorem Txt.g_law (T : Txt K mg) : mg "law" = some (.ref (He.ga K "law")) := T.g 39 _ rfl
theorem Txt.zero (T : Txt K mg) (H : Hp) : SqT K H (He.ga K "ZERO") [.int 0, .int 1] := He.tupB_ok (He.ba (show (He.tupB K "ZERO" [.int 0, .int 1] && He.tupB K "HALF" [.int 1, .int 2]) = true from T.e)).1 H
theorem Txt.half (T : Txt K mg) (H : Hp) : SqT K H (He.ga K "HALF") [.int 1, .int 2] := He.tupB_ok (He.ba (show (He.tupB K "ZERO" [.int 0, .int 1] && He.tupB K "HALF" [.int 1, .int 2]) = true from T.e)).2 H
/-! ### a def of the top, its promise -/
def Has (P : Program) (w : World) (K : PySem.W.Frag) (mg : Str → Option Value) (base : Heap) (CX : CXT) (x : Str) (k : Nat) (ps : List Str) (sp : Sp) : Prop :=
  ∃ fd, FnOk P w K mg base CX k (He.ga K x) fd ps sp ∧ Binds K fd ps [] ∧ PySem.W.keepIn K (.ref (He.ga K x)) = true ∧ mg x = some (.ref (He.ga K x))
/-- a method of Columns -/
def HasM (P : Program) (w : World) (K : PySem.W.Frag) (mg : Str → Option Value) (base : Heap) (CX : CXT) (m : Str) (k : Nat) (ps : List Str) (sp : Sp) : Prop :=
  ∃ fd, FnOk P w K mg base CX k (He.ma K (CC K) m) fd ps sp ∧ Binds K fd ps [] ∧ Meth K (CC K) m (He.ma K (CC K) m)
def HasI (P : Program) (w : World) (K : PySem.W.Frag) (mg : Str → Option Value) (base : Heap) (CX : CXT) (k : Nat) (ps : List Str) (sp : Sp) : Prop :=
  ∃ fd, FnOk P w K mg base CX k (He.ma K (CC K) "__init__") fd ps sp ∧ Binds K fd ps []
/-- how arguments bind, no defaults -/
abbrev BindOk (d : He.DefD) (ps : List Str) : Prop := ∀ (kV doc pm : Value) (an : Option Addr) (cdv ct : Value) (us : List Value), us.length = ps.length → bindArgs (PySem.W.fnOf d.name d.qual d.params d.body d.scope .none kV doc pm an cdv ct) ⟨us, []⟩ = pure (ps.zip us)
theorem fnOk_mk {d : He.DefD} {N ps : List Str} {k : Nat} {sp : Sp} {f : Addr} {fd : FuncData} (F : FunD K d.name d.qual d.params d.body d.scope [] [] f fd) (S : FnScope N ps d.scope) (len : ∀ vs H Q E, sp vs H Q E → vs.length = ps.length)
    (hbody : ∀ (cdv : Value) (A : Around) (outer : List Env) (s : Shared) (H : Hp) (vs : List V) (Q : VK) (E : XK), Room k (A.deeper (envOfC d.qual d.scope s.heap.objs.size f cdv)) → sp vs H Q E →
      ∃ t, PSs (cxOf CX0 P w K mg base N d.qual d.scope f cdv A outer s H E).nox d.body t ∧ t { nx := fun _ H' => Q .non H', rt := Q } (start N vs) H) : FnOk P w K mg base CX0 (k + 1) f fd ps sp :=
  F.ok S len fun cdv A outer s H vs Q E hr h => by
    obtain ⟨t, h1, h2⟩ := hbody cdv A outer s H vs Q E hr h
    exact ⟨t, h1.nox, h2⟩
theorem Has.mk {d : He.DefD} (T : Txt K mg) (i : Nat) {x : Str} {N ps : List Str} {k : Nat} {sp : Sp} (hi : fns[i]? = some d) (hat : d.at_ = (x, none)) (h0 : d.dfl = [] ∧ d.kwd = []) (g : mg x = some (.ref (He.ga K x))) (S : FnScope N ps d.scope) (b : BindOk d ps) (len : ∀ vs H Q E, sp vs H Q E → vs.length = ps.length)
    (hbody : ∀ (cdv : Value) (A : Around) (outer : List Env) (s : Shared) (H : Hp) (vs : List V) (Q : VK) (E : XK), Room k (A.deeper (envOfC d.qual d.scope s.heap.objs.size (He.ga K x) cdv)) → sp vs H Q E →
      ∃ t, PSs (cxOf CX0 P w K mg base N d.qual d.scope (He.ga K x) cdv A outer s H E).nox d.body t ∧ t { nx := fun _ H' => Q .non H', rt := Q } (start N vs) H) : Has P w K mg base CX0 x (k + 1) ps sp := by
  obtain ⟨fd, F⟩ := T.c.def_ i hi
  obtain ⟨h1, h2⟩ := h0
  have ea : He.fAd K d.at_ = He.ga K x := by rw [hat]; rfl
  have F' : FunD K d.name d.qual d.params d.body d.scope [] [] (He.ga K x) fd := by
    rw [← ea]
    have e1 : d.dvs K = [] := by unfold He.DefD.dvs; rw [h1]; rfl
    have e2 : d.kws K = [] := by unfold He.DefD.kws; rw [h2]; rfl
    rw [e1, e2] at F
    exact F
  exact ⟨fd, fnOk_mk F' S len hbody, F'.bindsN b, F'.kp, g⟩
/-- the same, for a def that may raise -/
theorem Has.mkX {d : He.DefD} (T : Txt K mg) (i : Nat) {x : Str} {N ps : List Str} {k : Nat} {sp : Sp} (hi : fns[i]? = some d) (hat : d.at_ = (x, none)) (h0 : d.dfl = [] ∧ d.kwd = []) (g : mg x = some (.ref (He.ga K x))) (S : FnScope N ps d.scope) (b : BindOk d ps) (len : ∀ vs H Q E, sp vs H Q E → vs.length = ps.length)
    (hbody : ∀ (cdv : Value) (A : Around) (outer : List Env) (s : Shared) (H : Hp) (vs : List V) (Q : VK) (E : XK), Room k (A.deeper (envOfC d.qual d.scope s.heap.objs.size (He.ga K x) cdv)) → sp vs H Q E →
      ∃ t, PSs (cxOf (L2.CX P w) P w K mg base N d.qual d.scope (He.ga K x) cdv A outer s H E) d.body t ∧ t { nx := fun _ H' => Q .non H', rt := Q } (start N vs) H) : Has P w K mg base (L2.CX P w) x (k + 1) ps sp := by
  obtain ⟨fd, F⟩ := T.c.def_ i hi
  obtain ⟨h1, h2⟩ := h0
  have ea : He.fAd K d.at_ = He.ga K x := by rw [hat]; rfl
  have F' : FunD K d.name d.qual d.params d.body d.scope [] [] (He.ga K x) fd := by
    rw [← ea]
    have e1 : d.dvs K = [] := by unfold He.DefD.dvs; rw [h1]; rfl
    have e2 : d.kws K = [] := by unfold He.DefD.kws; rw [h2]; rfl
    rw [e1, e2] at F
    exact F
  exact ⟨fd, F'.ok S len hbody, F'.bindsN b, F'.kp, g⟩
theorem HasM.mk {d : He.DefD} (T : Txt K mg) (i : Nat) {m : Str} {N ps : List Str} {k : Nat} {sp : Sp} (hi : fns[i]? = some d) (hat : d.at_ = (("Columns" : Str), some m)) (h0 : d.dfl = [] ∧ d.kwd = []) (g : Meth K (CC K) m (He.ma K (CC K) m)) (S : FnScope N ps d.scope) (b : BindOk d ps) (len : ∀ vs H Q E, sp vs H Q E → vs.length = ps.length)
    (hbody : ∀ (cdv : Value) (A : Around) (outer : List Env) (s : Shared) (H : Hp) (vs : List V) (Q : VK) (E : XK), Room k (A.deeper (envOfC d.qual d.scope s.heap.objs.size (He.ma K (CC K) m) cdv)) → sp vs H Q E →
      ∃ t, PSs (cxOf CX0 P w K mg base N d.qual d.scope (He.ma K (CC K) m) cdv A outer s H E).nox d.body t ∧ t { nx := fun _ H' => Q .non H', rt := Q } (start N vs) H) : HasM P w K mg base CX0 m (k + 1) ps sp := by
  obtain ⟨fd, F⟩ := T.c.def_ i hi
  obtain ⟨h1, h2⟩ := h0
  have ea : He.fAd K d.at_ = He.ma K (CC K) m := by rw [hat]; rfl
  have F' : FunD K d.name d.qual d.params d.body d.scope [] [] (He.ma K (CC K) m) fd := by
    rw [← ea]
    have e1 : d.dvs K = [] := by unfold He.DefD.dvs; rw [h1]; rfl
    have e2 : d.kws K = [] := by unfold He.DefD.kws; rw [h2]; rfl
    rw [e1, e2] at F
    exact F
  exact ⟨fd, fnOk_mk F' S len hbody, F'.bindsN b, g⟩
theorem HasI.mk {d : He.DefD} (T : Txt K mg) (i : Nat) {N ps : List Str} {k : Nat} {sp : Sp} (hi : fns[i]? = some d) (hat : d.at_ = (("Columns" : Str), some ("__init__" : Str))) (h0 : d.dfl = [] ∧ d.kwd = []) (S : FnScope N ps d.scope) (b : BindOk d ps) (len : ∀ vs H Q E, sp vs H Q E → vs.length = ps.length)
    (hbody : ∀ (cdv : Value) (A : Around) (outer : List Env) (s : Shared) (H : Hp) (vs : List V) (Q : VK) (E : XK), Room k (A.deeper (envOfC d.qual d.scope s.heap.objs.size (He.ma K (CC K) "__init__") cdv)) → sp vs H Q E →
      ∃ t, PSs (cxOf CX0 P w K mg base N d.qual d.scope (He.ma K (CC K) "__init__") cdv A outer s H E).nox d.body t ∧ t { nx := fun _ H' => Q .non H', rt := Q } (start N vs) H) : HasI P w K mg base CX0 (k + 1) ps sp := by
  obtain ⟨fd, F⟩ := T.c.def_ i hi
  obtain ⟨h1, h2⟩ := h0
  have ea : He.fAd K d.at_ = He.ma K (CC K) "__init__" := by rw [hat]; rfl
  have F' : FunD K d.name d.qual d.params d.body d.scope [] [] (He.ma K (CC K) "__init__") fd := by
    rw [← ea]
    have e1 : d.dvs K = [] := by unfold He.DefD.dvs; rw [h1]; rfl
    have e2 : d.kws K = [] := by unfold He.DefD.kws; rw [h2]; rfl
    rw [e1, e2] at F
    exact F
  exact ⟨fd, fnOk_mk F' S len hbody, F'.bindsN b⟩
end
section
variable {X : Cx} {CX : CXT} {E : XK} {x m : Str} {k : Nat} {ps : List Str} {sp : Sp} {e o : Expr} {es : List Expr} {ta : TE} {t : TA} {p apos pos : Pos}
theorem pe_callH (h : Has X.prog X.w X.K X.mg X.base CX x k ps sp) (hr : Room k X.A) (hg : Gl X x) (hx : Passes CX X E) (ha : PA X (e :: es) t)
    (hdb : (x == ("__debug__" : Str)) = false := by decide) (he : starEach (e :: es) X.env = (false, eval e X.env) :: starEach es X.env := by rfl) (hpl : (backTo pos (starEach es X.env)).any (·.1) = false := by rfl) :
    PE X (.Call (.Name x p) (e :: es) [] pos) (tCall sp [] E t) := by
  obtain ⟨fd, F, b, kp, g⟩ := h
  exact pe_call F hr hg g kp b .nil hx ha hdb he hpl
theorem pe_methH {pl : Sem Bool} (h : HasM X.prog X.w X.K X.mg X.base CX m k ps sp) (T : Txt X.K X.mg) (hr : Room k X.A) (hx : Passes CX X E) (ho : PE X o ta) (ha : PA X (e :: es) t)
    (hst : starEach (e :: es) X.env = (false, eval e X.env) :: starEach es X.env := by rfl) (hpl : (backTo pos (starEach es X.env)).any (·.1) = false := by rfl)
    (ht : eval (.Call (.Attribute o m apos) (e :: es) [] pos) X.env = (do
      let ov ← eval o X.env
      standAt apos.atName
      let (f, first) ← holding [ov] (getMethod ov m pl)
      callWith pos f first (backTo pos (starEach (e :: es) X.env)) (backToKw pos (keywordEach [] X.env))) := by rfl) :
    PE X (.Call (.Attribute o m apos) (e :: es) [] pos) (tMeth (CC X.K) m sp [] E ta t) := by
  obtain ⟨fd, F, b, me⟩ := h
  exact pe_meth ho T.cls me F hr b .nil hx ha hst hpl ht
theorem pe_meth0H {pl : Sem Bool} (h : HasM X.prog X.w X.K X.mg X.base CX m k ps sp) (T : Txt X.K X.mg) (hr : Room k X.A) (hx : Passes CX X E) (ho : PE X o ta)
    (ht : eval (.Call (.Attribute o m apos) [] [] pos) X.env = (do
      let ov ← eval o X.env
      standAt apos.atName
      let (f, first) ← holding [ov] (getMethod ov m pl)
      callWith pos f first (backTo pos (starEach [] X.env)) (backToKw pos (keywordEach [] X.env))) := by rfl) :
    PE X (.Call (.Attribute o m apos) [] [] pos) (tMeth (CC X.K) m sp [] E ta tNil) := by
  obtain ⟨fd, F, b, me⟩ := h
  exact pe_meth0 ho T.cls me F hr b .nil hx ht
theorem pe_makeH (h : HasI X.prog X.w X.K X.mg X.base CX k ps sp) (hr : Room (k + 1) X.A) (hg : Gl X "Columns") (T : Txt X.K X.mg) (hx : Passes CX X E) (ha : PA X (e :: es) t)
    (he : starEach (e :: es) X.env = (false, eval e X.env) :: starEach es X.env := by rfl) (hpl : (backTo pos (starEach es X.env)).any (·.1) = false := by rfl) :
    PE X (.Call (.Name "Columns" p) (e :: es) [] pos) (tMake (CC X.K) sp [] E t) := by
  obtain ⟨fd, F, b⟩ := h
  exact pe_make T.mkC F hr hg T.g_Columns b .nil hx ha (he := he) (hpl := hpl)
end
end KD

set_option Elab.async false
set_option linter.all false
set_option maxRecDepth 100000
set_option maxHeartbeats 4000000
/-! The small defs. -/
namespace K1
open PySem PySem.Spec PyProof.Rows L2 KD
/-- a list or a tuple -/
def Sq (H : Hp) (a : Addr) (xs : List V) : Prop := H a = some (.lst xs) ∨ H a = some (.tup xs)
theorem Same.sq {H H' : Hp} {a : Addr} {xs : List V} (s : Same H H') (h : Sq H a xs) : Sq H' a xs := h.elim (fun q => .inl (s _ _ q)) fun q => .inr (s _ _ q)
theorem same_upd {H : Hp} {p : Addr} {o : HO} (h : H p = none) : Same H (upd H p o) := fun b x e => by
  rw [upd_ne (ne_of_none e h)]
  exact e
theorem pairedTy {K : PySem.W.Frag} {H : Hp} : Paired ClsV [V.ty "list", V.ty "tuple"] [Value.type "list", Value.type "tuple"] := .cons (.ty _) (.cons (.ty _) .nil)
theorem kitLT {K : PySem.W.Frag} : PySem.W.kitAny K (.type "list") [Value.type "list", Value.type "tuple"] = some true :=
  kitAny_cons (b := true) (kit_ty (by decide +kernel)) (fun h => nomatch h) fun _ => rfl
theorem kitTT {K : PySem.W.Frag} : PySem.W.kitAny K (.type "tuple") [Value.type "list", Value.type "tuple"] = some true :=
  kitAny_cons (b := false) (kit_ty (by decide +kernel)) (fun _ => kitAny_cons (b := true) (kit_ty (by decide +kernel)) (fun h => nomatch h) fun _ => rfl) fun h => nomatch h
theorem kitIT {K : PySem.W.Frag} : PySem.W.kitAny K (.type "int") [Value.type "list", Value.type "tuple"] = some false :=
  kitAny_cons (b := false) (kit_ty (by decide +kernel)) (fun _ => kitAny_cons (b := false) (kit_ty (by decide +kernel)) (fun _ => rfl) fun h => nomatch h) fun h => nomatch h
/-! ### rules whose reading names the written part by itself -/
section
variable {X : Cx} {K : PySem.W.Frag}
theorem ix_listK (h : X.K = K) : IxR X (rIxL K) := by
  subst h
  exact ix_list
theorem ix_tupK (h : X.K = K) : IxR X (rIxT K) := by
  subst h
  exact ix_tup
theorem call_isiK (h : X.K = K) : CallR X (.builtin "isinstance") (rIsi K) := by
  subst h
  exact call_isi
theorem call_tuple_ofK (h : X.K = K) : CallR X (.type "tuple") (fun xs H Q => ∃ p ys, xs = [.ref p] ∧ ((SqL K H p ys ∧ ∀ l, H l = none → Q (.ref l) (upd H l (.tup ys))) ∨ (SqT K H p ys ∧ Q (.ref p) H))) := by
  subst h
  exact call_tuple_of
theorem pe_methHK {CX : CXT} {E : XK} {m : Str} {k : Nat} {ps : List Str} {sp : Sp} {e o : Expr} {es : List Expr} {ta : TE} {t : TA} {apos pos : Pos} {pl : Sem Bool} (hK : X.K = K) (h : HasM X.prog X.w X.K X.mg X.base CX m k ps sp) (T : Txt X.K X.mg) (hr : Room k X.A) (hx : Passes CX X E) (ho : PE X o ta) (ha : PA X (e :: es) t)
    (hst : starEach (e :: es) X.env = (false, eval e X.env) :: starEach es X.env := by rfl) (hpl : (backTo pos (starEach es X.env)).any (·.1) = false := by rfl)
    (ht : eval (.Call (.Attribute o m apos) (e :: es) [] pos) X.env = (do
      let ov ← eval o X.env
      standAt apos.atName
      let (f, first) ← holding [ov] (getMethod ov m pl)
      callWith pos f first (backTo pos (starEach (e :: es) X.env)) (backToKw pos (keywordEach [] X.env))) := by rfl) :
    PE X (.Call (.Attribute o m apos) (e :: es) [] pos) (tMeth (CC K) m sp [] E ta t) := by
  subst hK
  exact pe_methH h T hr hx ho ha hst hpl ht
end
/-- ways joined behind an expression, a test -/
theorem pe_cut {X : Cx} {e : Expr} {t : TE} (h : PE X e t) : PE X e (fun σ H Q => ∃ Mid : V → Hp → Prop, t σ H Mid ∧ ∀ v H', Mid v H' → Q v H') :=
  ⟨fun pins s σ H Q I ⟨Mid, h1, h2⟩ => wpAny_mono (h.run pins s σ H Mid I h1) (fun v s' ⟨x, H', I', r, q⟩ => ⟨x, H', I', r, h2 x H' q⟩) fun _ _ z => z⟩
theorem pt_cut {X : Cx} {e : Expr} {t : TT} (h : PT X e t) : PT X e (fun σ H Q => ∃ Mid : Bool → Hp → Prop, t σ H Mid ∧ ∀ v H', Mid v H' → Q v H') :=
  ⟨fun pins s σ H Q I ⟨Mid, h1, h2⟩ => wpAny_mono (h.run pins s σ H Mid I h1) (fun v s' ⟨H', I', q⟩ => ⟨H', I', h2 v H' q⟩) fun _ _ z => z⟩
/-- the number in a slot, as a size -/
def natAt (σ : L2.St) (i : Nat) : Nat := match σ[i]? with
  | some (some (V.int z)) => z.toNat
  | _ => 0
section
variable {P : Program} {w : World} {K : PySem.W.Frag} {mg : Str → Option Value} {base : Heap}
/-! ### is_list -/
def spIsList : Sp := fun vs H Q _ => ∃ (a : Addr) (xs : List V), vs = [.ref a] ∧ Sq H a xs ∧ ∀ H', Same H H' → Q (.bl true) H'
abbrev NPIsList : List Str := ["thing"]
theorem scPIsList : FnScope NPIsList ["thing"] (defScope sPIsList) := ⟨rfl, rfl, rfl, by decide +kernel, rfl, by decide +kernel, by decide +kernel⟩
theorem ok_is_list (T : Txt K mg) : Has P w K mg base CX0 "is_list" 1 ["thing"] spIsList := by
  refine Has.mk T 0 (d := dPIsList) rfl rfl ⟨rfl, rfl⟩ T.g_is_list scPIsList (fun _ _ _ _ _ _ us hl => match us, hl with | [_], _ => rfl) (fun vs H Q E h => ?_) (fun cdv A outer s H vs Q E hr h => ?_)
  · obtain ⟨a, xs, rfl, _⟩ := h
    rfl
  · obtain ⟨a, xs, rfl, hS, k⟩ := h
    refine ⟨_, (pss_one (ps_ret (pe_callB call_isiT (by rfl) T.f_isinstance (by decide +kernel) (pa_cons (pv 0) (pa_cons (pe_tup (pa_cons (pe_bltn (v := .ty "list") (by rfl) T.f_list (by decide +kernel) rfl) (pa_cons (pe_bltn (v := .ty "tuple") (by rfl) T.f_tuple (by decide +kernel) rfl) pa_nil))) pa_nil))))), ?_⟩
    refine ⟨_, rfl, (by show 2 ≤ sizeLine; decide), fun tp htp => ?_⟩
    have s1 := same_upd (o := .tup [V.ty "list", V.ty "tuple"]) htp
    rcases hS with e | e
    · exact ⟨_, tp, _, _, _, true, rfl, upd_same, pairedTy (K := K) (H := H), .base (.lst (s1 _ _ e)), kitLT, k _ s1⟩
    · exact ⟨_, tp, _, _, _, true, rfl, upd_same, pairedTy (K := K) (H := H), .base (.tup (s1 _ _ e)), kitTT, k _ s1⟩
/-! ### is_whole, is_natural -/
def spIsWhole : Sp := fun vs H Q _ => ∃ i : Int, vs = [.int i] ∧ ∀ H', Same H H' → Q (.bl true) H'
abbrev NPIsWhole : List Str := ["thing"]
theorem scPIsWhole : FnScope NPIsWhole ["thing"] (defScope sPIsWhole) := ⟨rfl, rfl, rfl, by decide +kernel, rfl, by decide +kernel, by decide +kernel⟩
theorem ok_is_whole (T : Txt K mg) : Has P w K mg base CX0 "is_whole" 1 ["thing"] spIsWhole := by
  refine Has.mk T 1 (d := dPIsWhole) rfl rfl ⟨rfl, rfl⟩ T.g_is_whole scPIsWhole (fun _ _ _ _ _ _ us hl => match us, hl with | [_], _ => rfl) (fun vs H Q E h => ?_) (fun cdv A outer s H vs Q E hr h => ?_)
  · obtain ⟨i, rfl, _⟩ := h
    rfl
  · obtain ⟨i, rfl, k⟩ := h
    refine ⟨_, (pss_one (ps_ret (pe_and (pe_callB call_isi (by rfl) T.f_isinstance (by decide +kernel) (pa_cons (pv 0) (pa_cons (pe_bltn (v := .ty "int") (by rfl) T.f_int (by decide +kernel) rfl) pa_nil))) (pe_one (pe_not (pe_callB call_isi (by rfl) T.f_isinstance (by decide +kernel) (pa_cons (pv 0) (pa_cons (pe_bltn (v := .ty "bool") (by rfl) T.f_bool (by decide +kernel) rfl) pa_nil)))))))), ?_⟩
    refine ⟨_, rfl, _, _, _, _, true, rfl, .ty _, .base (.int i), kit_ty (by decide +kernel), true, rfl, iteT ?_⟩
    exact ⟨_, rfl, _, _, _, _, false, rfl, .ty _, .base (.int i), kit_ty (by decide +kernel), false, rfl, k _ (Same.refl H)⟩
def spIsNatural : Sp := fun vs H Q _ => ∃ i : Int, vs = [.int i] ∧ 0 ≤ i ∧ ∀ H', Same H H' → Q (.bl true) H'
abbrev NPIsNatural : List Str := ["thing"]
theorem scPIsNatural : FnScope NPIsNatural ["thing"] (defScope sPIsNatural) := ⟨rfl, rfl, rfl, by decide +kernel, rfl, by decide +kernel, by decide +kernel⟩
theorem ok_is_natural (T : Txt K mg) (h_is_whole : Has P w K mg base CX0 "is_whole" 1 ["thing"] spIsWhole) : Has P w K mg base CX0 "is_natural" 2 ["thing"] spIsNatural := by
  refine Has.mk T 2 (d := dPIsNatural) rfl rfl ⟨rfl, rfl⟩ T.g_is_natural scPIsNatural (fun _ _ _ _ _ _ us hl => match us, hl with | [_], _ => rfl) (fun vs H Q E h => ?_) (fun cdv A outer s H vs Q E hr h => ?_)
  · obtain ⟨i, rfl, _⟩ := h
    rfl
  · obtain ⟨i, rfl, h0, k⟩ := h
    refine ⟨_, (pss_one (ps_ret (pe_and (pe_callH h_is_whole (hr.mono (by decide)) (by rfl) pass0 (pa_cons (pv 0) pa_nil)) (pe_one (pe_cmpR op_ge (pv 0) pe_int (nomark _)))))), ?_⟩
    refine ⟨_, rfl, i, rfl, fun H1 s1 => ⟨true, rfl, iteT ⟨_, rfl, _, _, rfl, rfl, ?_⟩⟩⟩
    show Q (.bl (decide (i ≥ 0))) H1
    rw [decide_eq_true h0]
    exact k _ s1
/-! ### fractions -/
/-- the loop of lowest: one, two behind some turns -/
def lowW (H : Hp) (t b : Int) (m : Nat) (σ : L2.St) (H' : Hp) : Prop := H' = H ∧ ∃ one two : Int, σ = [some (.int t), some (.int b), some (.int one), some (.int two)] ∧ m = two.toNat ∧ 0 ≤ one ∧ 0 ≤ two ∧ two ≤ b ∧ (two = 0 → 1 ≤ one ∧ one ≤ b) ∧ (b = 1 → two = 1 ∨ one = 1)
theorem fmod_pos {x y : Int} (h : 0 < y) : x.fmod y = x % y := Int.fmod_eq_emod_of_nonneg _ (by omega)
theorem fdiv_pos {x y : Int} (h : 0 < y) : x.fdiv y = x / y := Int.fdiv_eq_ediv_of_nonneg _ (by omega)
/-- lowest terms: what callers use -/
def spLowest : Sp := fun vs H Q _ => ∃ t b : Int, vs = [.int t, .int b] ∧ 0 < b ∧ b < 1000000 ∧ ∀ (p : Addr) (x y : Int) (H' : Hp), Same H H' → H p = none → H' p = some (.tup [.int x, .int y]) → 0 < y → y ≤ b → (b = 1 → x = t) → Q (.ref p) H'
abbrev NPLowest : List Str := ["top", "bottom", "one", "two"]
theorem scPLowest : FnScope NPLowest ["top", "bottom"] (defScope sPLowest) := ⟨rfl, rfl, rfl, by decide +kernel, rfl, by decide +kernel, by decide +kernel⟩
theorem ok_lowest (T : Txt K mg) : Has P w K mg base CX0 "lowest" 1 ["top", "bottom"] spLowest := by
  refine Has.mk T 3 (d := dPLowest) rfl rfl ⟨rfl, rfl⟩ T.g_lowest scPLowest (fun _ _ _ _ _ _ us hl => match us, hl with | [_, _], _ => rfl) (fun vs H Q E h => ?_) (fun cdv A outer s H vs Q E hr h => ?_)
  · obtain ⟨t, b, rfl, _⟩ := h
    rfl
  · obtain ⟨t, b, rfl, hb0, hb1, k⟩ := h
    refine ⟨_, (pss_cons (ps_par (i := 2) (j := 3) (by rfl) scPLowest.nd rfl rfl (by decide) rfl rfl (pa_cons (pe_callB call_abs (by rfl) T.f_abs (by decide +kernel) (pa_cons (pv 0) pa_nil)) (pa_cons (pv 1) pa_nil)) (by rfl))
      (pss_cons (ps_while PassesOwn.never (pt_cmpR op_gt (pv 3) pe_int (nomark _)) (pss_one (ps_par (i := 2) (j := 3) (by rfl) scPLowest.nd rfl rfl (by decide) rfl rfl (pa_cons (pv 3) (pa_cons (pe_op op_modN (pv 2) (pv 3)) pa_nil)) (by rfl))))
      (pss_one (ps_ret (pe_tup (pa_cons (pe_op op_fdivN (pv 0) (pv 2)) (pa_cons (pe_op op_fdivN (pv 1) (pv 2)) pa_nil))))))), ?_⟩
    refine ⟨_, rfl, t, rfl, _, rfl, _, _, rfl, lowW H t b, ⟨b.toNat, rfl, _, b, rfl, rfl, ?_, by omega, by omega, by omega, by omega⟩, fun m σ H' hW => ?_⟩
    · split <;> omega
    · obtain ⟨rfl, one, two, rfl, rfl, h1, h2, h3, h4, h5⟩ := hW
      refine ⟨_, rfl, _, _, rfl, rfl, _, rfl, ite2 (fun c => ?_) (fun c => ?_)⟩
      · have c1 : two > 0 := of_decide_eq_true c
        have m1 : one % two < two := Int.emod_lt_of_pos _ c1
        have m2 : 0 ≤ one % two := Int.emod_nonneg _ (by omega)
        refine ⟨fun σ' H'' => ∃ m', m' < two.toNat ∧ lowW H' t b m' σ' H'', fun _ _ z => z, ?_⟩
        refine ⟨_, rfl, _, rfl, _, rfl, _, _, rfl, rfl, (by omega), _, _, rfl, (one.fmod two).toNat, ?_, rfl, two, one.fmod two, rfl, rfl, by omega, ?_⟩
        · rw [fmod_pos c1]
          omega
        · rw [fmod_pos c1]
          refine ⟨m2, by omega, fun _ => by omega, fun hb => ?_⟩
          omega
      · have c1 : ¬ two > 0 := of_decide_eq_false (Bool.eq_false_iff.mpr c)
        have c2 : two = 0 := by omega
        obtain ⟨q1, q2⟩ := h4 c2
        refine ⟨_, rfl, _, rfl, _, _, rfl, rfl, ⟨by omega, by omega⟩, _, rfl, _, rfl, _, _, rfl, rfl, ⟨by omega, by omega⟩, (by show 2 ≤ sizeLine; decide), fun p hp => ?_⟩
        refine k p (t.fdiv one) (b.fdiv one) _ (same_upd hp) hp upd_same ?_ ?_ ?_
        · rw [fdiv_pos (by omega)]
          exact Int.le_ediv_of_mul_le (by omega) (by omega)
        · rw [fdiv_pos (by omega)]
          exact Int.ediv_le_self _ (by omega)
        · intro hb
          have e : one = 1 := by omega
          rw [e, fdiv_pos (by omega), Int.ediv_one]
abbrev NLawLow : List Str := ["_law_top", "_law_bottom", "_law_one", "_law_other"]
theorem scLawLow : FnScope NLawLow ["_law_top", "_law_bottom"] (defScope sLawLow) := ⟨rfl, rfl, rfl, by decide +kernel, rfl, by decide +kernel, by decide +kernel⟩
theorem ok_law_low (T : Txt K mg) : Has P w K mg base CX0 "_law_low" 1 ["_law_top", "_law_bottom"] spLowest := by
  refine Has.mk T 28 (d := dLawLow) rfl rfl ⟨rfl, rfl⟩ T.g__law_low scLawLow (fun _ _ _ _ _ _ us hl => match us, hl with | [_, _], _ => rfl) (fun vs H Q E h => ?_) (fun cdv A outer s H vs Q E hr h => ?_)
  · obtain ⟨t, b, rfl, _⟩ := h
    rfl
  · obtain ⟨t, b, rfl, hb0, hb1, k⟩ := h
    refine ⟨_, (pss_cons (ps_par (i := 2) (j := 3) (by rfl) scLawLow.nd rfl rfl (by decide) rfl rfl (pa_cons (pe_callB call_abs (by rfl) T.f_abs (by decide +kernel) (pa_cons (pv 0) pa_nil)) (pa_cons (pv 1) pa_nil)) (by rfl))
      (pss_cons (ps_while PassesOwn.never (pt_cmpR op_gt (pv 3) pe_int (nomark _)) (pss_one (ps_par (i := 2) (j := 3) (by rfl) scLawLow.nd rfl rfl (by decide) rfl rfl (pa_cons (pv 3) (pa_cons (pe_op op_modN (pv 2) (pv 3)) pa_nil)) (by rfl))))
      (pss_one (ps_ret (pe_tup (pa_cons (pe_op op_fdivN (pv 0) (pv 2)) (pa_cons (pe_op op_fdivN (pv 1) (pv 2)) pa_nil))))))), ?_⟩
    refine ⟨_, rfl, t, rfl, _, rfl, _, _, rfl, lowW H t b, ⟨b.toNat, rfl, _, b, rfl, rfl, ?_, by omega, by omega, by omega, by omega⟩, fun m σ H' hW => ?_⟩
    · split <;> omega
    · obtain ⟨rfl, one, two, rfl, rfl, h1, h2, h3, h4, h5⟩ := hW
      refine ⟨_, rfl, _, _, rfl, rfl, _, rfl, ite2 (fun c => ?_) (fun c => ?_)⟩
      · have c1 : two > 0 := of_decide_eq_true c
        have m1 : one % two < two := Int.emod_lt_of_pos _ c1
        have m2 : 0 ≤ one % two := Int.emod_nonneg _ (by omega)
        refine ⟨fun σ' H'' => ∃ m', m' < two.toNat ∧ lowW H' t b m' σ' H'', fun _ _ z => z, ?_⟩
        refine ⟨_, rfl, _, rfl, _, rfl, _, _, rfl, rfl, (by omega), _, _, rfl, (one.fmod two).toNat, ?_, rfl, two, one.fmod two, rfl, rfl, by omega, ?_⟩
        · rw [fmod_pos c1]
          omega
        · rw [fmod_pos c1]
          refine ⟨m2, by omega, fun _ => by omega, fun hb => ?_⟩
          omega
      · have c1 : ¬ two > 0 := of_decide_eq_false (Bool.eq_false_iff.mpr c)
        have c2 : two = 0 := by omega
        obtain ⟨q1, q2⟩ := h4 c2
        refine ⟨_, rfl, _, rfl, _, _, rfl, rfl, ⟨by omega, by omega⟩, _, rfl, _, rfl, _, _, rfl, rfl, ⟨by omega, by omega⟩, (by show 2 ≤ sizeLine; decide), fun p hp => ?_⟩
        refine k p (t.fdiv one) (b.fdiv one) _ (same_upd hp) hp upd_same ?_ ?_ ?_
        · rw [fdiv_pos (by omega)]
          exact Int.le_ediv_of_mul_le (by omega) (by omega)
        · rw [fdiv_pos (by omega)]
          exact Int.ediv_le_self _ (by omega)
        · intro hb
          have e : one = 1 := by omega
          rw [e, fdiv_pos (by omega), Int.ediv_one]
theorem Same.sqT {H H' : Hp} {a : Addr} {xs : List V} (e : Same H H') (h : SqT K H a xs) : SqT K H' a xs := by
  rcases h with (h | ⟨o, h⟩) | h
  · exact .inl (.inl (e _ _ h))
  · exact .inl (.inr ⟨o, e _ _ h⟩)
  · exact .inr h
/-- one + two, whole numbers -/
def spPlus (K : PySem.W.Frag) : Sp := fun vs H Q _ => ∃ (a b : Addr) (x z : Int), vs = [.ref a, .ref b] ∧ SqT K H a [.int x, .int 1] ∧ SqT K H b [.int z, .int 1] ∧
  ∀ (p : Addr) (H' : Hp), Same H H' → H p = none → H' p = some (.tup [.int (x + z), .int 1]) → Q (.ref p) H'
abbrev NPPlus : List Str := ["one", "two"]
theorem scPPlus : FnScope NPPlus ["one", "two"] (defScope sPPlus) := ⟨rfl, rfl, rfl, by decide +kernel, rfl, by decide +kernel, by decide +kernel⟩
theorem ok_plus (T : Txt K mg) (h_lowest : Has P w K mg base CX0 "lowest" 1 ["top", "bottom"] spLowest) : Has P w K mg base CX0 "plus" 2 ["one", "two"] (spPlus K) := by
  refine Has.mk T 4 (d := dPPlus) rfl rfl ⟨rfl, rfl⟩ T.g_plus scPPlus (fun _ _ _ _ _ _ us hl => match us, hl with | [_, _], _ => rfl) (fun vs H Q E h => ?_) (fun cdv A outer s H vs Q E hr h => ?_)
  · obtain ⟨a, b, x, z, rfl, _⟩ := h
    rfl
  · obtain ⟨a, b, x, z, rfl, h1, h2, k⟩ := h
    refine ⟨_, (pss_one (ps_ret (pe_callH h_lowest (hr.mono (by decide)) (by rfl) pass0 (pa_cons (pe_op op_add (pe_op op_mul (pe_ix ix_tup (pv 0) pe_int (fun _ _ => rfl)) (pe_ix ix_tup (pv 1) pe_int (fun _ _ => rfl))) (pe_op op_mul (pe_ix ix_tup (pv 1) pe_int (fun _ _ => rfl)) (pe_ix ix_tup (pv 0) pe_int (fun _ _ => rfl)))) (pa_cons (pe_op op_mul (pe_ix ix_tup (pv 0) pe_int (fun _ _ => rfl)) (pe_ix ix_tup (pv 1) pe_int (fun _ _ => rfl))) pa_nil))))), ?_⟩
    refine ⟨_, rfl, a, _, _, _, rfl, rfl, h1, rfl, _, rfl, b, _, _, _, rfl, rfl, h2, rfl, _, _, rfl, rfl, .inr ⟨by decide, by decide⟩,
      _, rfl, b, _, _, _, rfl, rfl, h2, rfl, _, rfl, a, _, _, _, rfl, rfl, h1, rfl, _, _, rfl, rfl, .inr ⟨by decide, by decide⟩, _, _, rfl, rfl,
      _, rfl, a, _, _, _, rfl, rfl, h1, rfl, _, rfl, b, _, _, _, rfl, rfl, h2, rfl, _, _, rfl, rfl, .inr ⟨by decide, by decide⟩,
      _, _, rfl, by decide, by decide, fun p n d H' s1 np hp h0 hle he => ?_⟩
    have e1 := he (by decide)
    have e2 : d = 1 := by omega
    subst e2
    refine k p H' s1 np ?_
    rw [hp, e1, Int.mul_one, Int.mul_one]
/-- one - two, of halves: some fraction -/
def spMinus (K : PySem.W.Frag) : Sp := fun vs H Q _ => ∃ (a b : Addr) (x y z u : Int), vs = [.ref a, .ref b] ∧ SqT K H a [.int x, .int y] ∧ SqT K H b [.int z, .int u] ∧ (0 < y ∧ y ≤ 2) ∧ (0 < u ∧ u ≤ 2) ∧
  ∀ (p : Addr) (n d : Int) (H' : Hp), Same H H' → H p = none → H' p = some (.tup [.int n, .int d]) → 0 < d → d ≤ 4 → Q (.ref p) H'
abbrev NPMinus : List Str := ["one", "two"]
theorem scPMinus : FnScope NPMinus ["one", "two"] (defScope sPMinus) := ⟨rfl, rfl, rfl, by decide +kernel, rfl, by decide +kernel, by decide +kernel⟩
theorem ok_minus (T : Txt K mg) (h_lowest : Has P w K mg base CX0 "lowest" 1 ["top", "bottom"] spLowest) : Has P w K mg base CX0 "minus" 2 ["one", "two"] (spMinus K) := by
  refine Has.mk T 5 (d := dPMinus) rfl rfl ⟨rfl, rfl⟩ T.g_minus scPMinus (fun _ _ _ _ _ _ us hl => match us, hl with | [_, _], _ => rfl) (fun vs H Q E h => ?_) (fun cdv A outer s H vs Q E hr h => ?_)
  · obtain ⟨a, b, x, y, z, u, rfl, _⟩ := h
    rfl
  · obtain ⟨a, b, x, y, z, u, rfl, h1, h2, hy, hu, k⟩ := h
    have pos : 0 < y * u := Int.mul_pos hy.1 hu.1
    have le4 : y * u ≤ 4 := Int.mul_le_mul (c := 2) (d := 2) hy.2 hu.2 (by omega) (by omega)
    refine ⟨_, (pss_one (ps_ret (pe_callH h_lowest (hr.mono (by decide)) (by rfl) pass0 (pa_cons (pe_op op_sub (pe_op op_mul (pe_ix ix_tup (pv 0) pe_int (fun _ _ => rfl)) (pe_ix ix_tup (pv 1) pe_int (fun _ _ => rfl))) (pe_op op_mul (pe_ix ix_tup (pv 1) pe_int (fun _ _ => rfl)) (pe_ix ix_tup (pv 0) pe_int (fun _ _ => rfl)))) (pa_cons (pe_op op_mul (pe_ix ix_tup (pv 0) pe_int (fun _ _ => rfl)) (pe_ix ix_tup (pv 1) pe_int (fun _ _ => rfl))) pa_nil))))), ?_⟩
    refine ⟨_, rfl, a, _, _, _, rfl, rfl, h1, rfl, _, rfl, b, _, _, _, rfl, rfl, h2, rfl, _, _, rfl, rfl, .inr ⟨by omega, by omega⟩,
      _, rfl, b, _, _, _, rfl, rfl, h2, rfl, _, rfl, a, _, _, _, rfl, rfl, h1, rfl, _, _, rfl, rfl, .inr ⟨by omega, by omega⟩, _, _, rfl, rfl,
      _, rfl, a, _, _, _, rfl, rfl, h1, rfl, _, rfl, b, _, _, _, rfl, rfl, h2, rfl, _, _, rfl, rfl, .inr ⟨by omega, by omega⟩,
      _, _, rfl, pos, by omega, fun p n d H' s1 np hp h0 hle he => k p n d H' s1 np hp h0 (by omega)⟩
/-- a whole number times a half -/
def spTimes (K : PySem.W.Frag) : Sp := fun vs H Q _ => ∃ (a b : Addr) (x z : Int), vs = [.ref a, .ref b] ∧ SqT K H a [.int x, .int 1] ∧ SqT K H b [.int z, .int 2] ∧ (z = 1) ∧
  ∀ (p : Addr) (n d : Int) (H' : Hp), Same H H' → H p = none → H' p = some (.tup [.int n, .int d]) → 0 < d → d ≤ 2 → Q (.ref p) H'
abbrev NPTimes : List Str := ["one", "two"]
theorem scPTimes : FnScope NPTimes ["one", "two"] (defScope sPTimes) := ⟨rfl, rfl, rfl, by decide +kernel, rfl, by decide +kernel, by decide +kernel⟩
theorem ok_times (T : Txt K mg) (h_lowest : Has P w K mg base CX0 "lowest" 1 ["top", "bottom"] spLowest) : Has P w K mg base CX0 "times" 2 ["one", "two"] (spTimes K) := by
  refine Has.mk T 6 (d := dPTimes) rfl rfl ⟨rfl, rfl⟩ T.g_times scPTimes (fun _ _ _ _ _ _ us hl => match us, hl with | [_, _], _ => rfl) (fun vs H Q E h => ?_) (fun cdv A outer s H vs Q E hr h => ?_)
  · obtain ⟨a, b, x, z, rfl, _⟩ := h
    rfl
  · obtain ⟨a, b, x, z, rfl, h1, h2, rfl, k⟩ := h
    refine ⟨_, (pss_one (ps_ret (pe_callH h_lowest (hr.mono (by decide)) (by rfl) pass0 (pa_cons (pe_op op_mul (pe_ix ix_tup (pv 0) pe_int (fun _ _ => rfl)) (pe_ix ix_tup (pv 1) pe_int (fun _ _ => rfl))) (pa_cons (pe_op op_mul (pe_ix ix_tup (pv 0) pe_int (fun _ _ => rfl)) (pe_ix ix_tup (pv 1) pe_int (fun _ _ => rfl))) pa_nil))))), ?_⟩
    refine ⟨_, rfl, a, _, _, _, rfl, rfl, h1, rfl, _, rfl, b, _, _, _, rfl, rfl, h2, rfl, _, _, rfl, rfl, .inr ⟨by omega, by omega⟩,
      _, rfl, a, _, _, _, rfl, rfl, h1, rfl, _, rfl, b, _, _, _, rfl, rfl, h2, rfl, _, _, rfl, rfl, .inr ⟨by omega, by omega⟩,
      _, _, rfl, by decide, by decide, fun p n d H' s1 np hp h0 hle he => k p n d H' s1 np hp h0 (by omega)⟩
def spIsLess (K : PySem.W.Frag) : Sp := fun vs H Q _ => ∃ (a b : Addr) (x y z u : Int), vs = [.ref a, .ref b] ∧ SqT K H a [.int x, .int y] ∧ SqT K H b [.int z, .int u] ∧ (0 < y ∧ y ≤ 4) ∧ (0 < u ∧ u ≤ 4) ∧
  ∀ (H' : Hp), Same H H' → Q (.bl (decide (x * u < z * y))) H'
abbrev NPIsLess : List Str := ["one", "two"]
theorem scPIsLess : FnScope NPIsLess ["one", "two"] (defScope sPIsLess) := ⟨rfl, rfl, rfl, by decide +kernel, rfl, by decide +kernel, by decide +kernel⟩
theorem ok_is_less (T : Txt K mg) : Has P w K mg base CX0 "is_less" 1 ["one", "two"] (spIsLess K) := by
  refine Has.mk T 7 (d := dPIsLess) rfl rfl ⟨rfl, rfl⟩ T.g_is_less scPIsLess (fun _ _ _ _ _ _ us hl => match us, hl with | [_, _], _ => rfl) (fun vs H Q E h => ?_) (fun cdv A outer s H vs Q E hr h => ?_)
  · obtain ⟨a, b, x, y, z, u, rfl, _⟩ := h
    rfl
  · obtain ⟨a, b, x, y, z, u, rfl, h1, h2, hy, hu, k⟩ := h
    refine ⟨_, (pss_one (ps_ret (pe_cmpR op_lt (pe_op op_mul (pe_ix ix_tup (pv 0) pe_int (fun _ _ => rfl)) (pe_ix ix_tup (pv 1) pe_int (fun _ _ => rfl))) (pe_op op_mul (pe_ix ix_tup (pv 1) pe_int (fun _ _ => rfl)) (pe_ix ix_tup (pv 0) pe_int (fun _ _ => rfl))) (nomark _)))), ?_⟩
    exact ⟨_, rfl, a, _, _, _, rfl, rfl, h1, rfl, _, rfl, b, _, _, _, rfl, rfl, h2, rfl, _, _, rfl, rfl, .inr ⟨by omega, by omega⟩,
      _, rfl, b, _, _, _, rfl, rfl, h2, rfl, _, rfl, a, _, _, _, rfl, rfl, h1, rfl, _, _, rfl, rfl, .inr ⟨by omega, by omega⟩, _, _, rfl, rfl, k _ (Same.refl H)⟩
abbrev NLawIsLess : List Str := ["_law_one", "_law_other"]
theorem scLawIsLess : FnScope NLawIsLess ["_law_one", "_law_other"] (defScope sLawIsLess) := ⟨rfl, rfl, rfl, by decide +kernel, rfl, by decide +kernel, by decide +kernel⟩
theorem ok_law_is_less (T : Txt K mg) : Has P w K mg base CX0 "_law_is_less" 1 ["_law_one", "_law_other"] (spIsLess K) := by
  refine Has.mk T 30 (d := dLawIsLess) rfl rfl ⟨rfl, rfl⟩ T.g__law_is_less scLawIsLess (fun _ _ _ _ _ _ us hl => match us, hl with | [_, _], _ => rfl) (fun vs H Q E h => ?_) (fun cdv A outer s H vs Q E hr h => ?_)
  · obtain ⟨a, b, x, y, z, u, rfl, _⟩ := h
    rfl
  · obtain ⟨a, b, x, y, z, u, rfl, h1, h2, hy, hu, k⟩ := h
    refine ⟨_, (pss_one (ps_ret (pe_cmpR op_lt (pe_op op_mul (pe_ix ix_tup (pv 0) pe_int (fun _ _ => rfl)) (pe_ix ix_tup (pv 1) pe_int (fun _ _ => rfl))) (pe_op op_mul (pe_ix ix_tup (pv 1) pe_int (fun _ _ => rfl)) (pe_ix ix_tup (pv 0) pe_int (fun _ _ => rfl))) (nomark _)))), ?_⟩
    exact ⟨_, rfl, a, _, _, _, rfl, rfl, h1, rfl, _, rfl, b, _, _, _, rfl, rfl, h2, rfl, _, _, rfl, rfl, .inr ⟨by omega, by omega⟩,
      _, rfl, b, _, _, _, rfl, rfl, h2, rfl, _, rfl, a, _, _, _, rfl, rfl, h1, rfl, _, _, rfl, rfl, .inr ⟨by omega, by omega⟩, _, _, rfl, rfl, k _ (Same.refl H)⟩
/-- the law's own difference, of whole numbers -/
def spLMinus (K : PySem.W.Frag) : Sp := fun vs H Q _ => ∃ (a b : Addr) (x z : Int), vs = [.ref a, .ref b] ∧ SqT K H a [.int x, .int 1] ∧ SqT K H b [.int z, .int 1] ∧
  ∀ (p : Addr) (H' : Hp), Same H H' → H p = none → H' p = some (.tup [.int (x - z), .int 1]) → Q (.ref p) H'
abbrev NLawMinus : List Str := ["_law_one", "_law_other"]
theorem scLawMinus : FnScope NLawMinus ["_law_one", "_law_other"] (defScope sLawMinus) := ⟨rfl, rfl, rfl, by decide +kernel, rfl, by decide +kernel, by decide +kernel⟩
theorem ok_law_minus (T : Txt K mg) (h__law_low : Has P w K mg base CX0 "_law_low" 1 ["_law_top", "_law_bottom"] spLowest) : Has P w K mg base CX0 "_law_minus" 2 ["_law_one", "_law_other"] (spLMinus K) := by
  refine Has.mk T 29 (d := dLawMinus) rfl rfl ⟨rfl, rfl⟩ T.g__law_minus scLawMinus (fun _ _ _ _ _ _ us hl => match us, hl with | [_, _], _ => rfl) (fun vs H Q E h => ?_) (fun cdv A outer s H vs Q E hr h => ?_)
  · obtain ⟨a, b, x, z, rfl, _⟩ := h
    rfl
  · obtain ⟨a, b, x, z, rfl, h1, h2, k⟩ := h
    refine ⟨_, (pss_one (ps_ret (pe_callH h__law_low (hr.mono (by decide)) (by rfl) pass0 (pa_cons (pe_op op_sub (pe_op op_mul (pe_ix ix_tup (pv 0) pe_int (fun _ _ => rfl)) (pe_ix ix_tup (pv 1) pe_int (fun _ _ => rfl))) (pe_op op_mul (pe_ix ix_tup (pv 1) pe_int (fun _ _ => rfl)) (pe_ix ix_tup (pv 0) pe_int (fun _ _ => rfl)))) (pa_cons (pe_op op_mul (pe_ix ix_tup (pv 0) pe_int (fun _ _ => rfl)) (pe_ix ix_tup (pv 1) pe_int (fun _ _ => rfl))) pa_nil))))), ?_⟩
    refine ⟨_, rfl, a, _, _, _, rfl, rfl, h1, rfl, _, rfl, b, _, _, _, rfl, rfl, h2, rfl, _, _, rfl, rfl, .inr ⟨by decide, by decide⟩,
      _, rfl, b, _, _, _, rfl, rfl, h2, rfl, _, rfl, a, _, _, _, rfl, rfl, h1, rfl, _, _, rfl, rfl, .inr ⟨by decide, by decide⟩, _, _, rfl, rfl,
      _, rfl, a, _, _, _, rfl, rfl, h1, rfl, _, rfl, b, _, _, _, rfl, rfl, h2, rfl, _, _, rfl, rfl, .inr ⟨by decide, by decide⟩,
      _, _, rfl, by decide, by decide, fun p n d H' s1 np hp h0 hle he => ?_⟩
    have e1 := he (by decide)
    have e2 : d = 1 := by omega
    subst e2
    refine k p H' s1 np ?_
    rw [hp, e1, Int.mul_one, Int.mul_one]
end
end K1

set_option Elab.async false
set_option linter.all false
set_option maxRecDepth 100000
set_option maxHeartbeats 4000000
/-! The draws. -/
namespace K2
open PySem PySem.Spec PyProof.Rows L2 KD K1
/-! ### pairs of lists -/
section
variable {α β : Type} {F G : α → β → Prop}
theorem pr_length : ∀ {xs : List α} {ys : List β}, Paired F xs ys → xs.length = ys.length
  | _, _, .nil => rfl
  | _, _, .cons _ t => congrArg (· + 1) (pr_length t)
theorem pr_get : ∀ {xs : List α} {ys : List β}, Paired F xs ys → ∀ {i : Nat} {x : α}, xs[i]? = some x → ∃ y, ys[i]? = some y ∧ F x y
  | _, _, .nil, _, _, h => by simp at h
  | _, _, .cons a t, 0, x, h => by
    have e := Option.some.inj h
    subst e
    exact ⟨_, rfl, a⟩
  | _, _, .cons a t, i + 1, x, h => pr_get t (i := i) h
theorem pr_app : ∀ {xs xs' : List α} {ys ys' : List β}, Paired F xs ys → Paired F xs' ys' → Paired F (xs ++ xs') (ys ++ ys')
  | _, _, _, _, .nil, h => h
  | _, _, _, _, .cons a t, h => .cons a (pr_app t h)
theorem pr_snoc {xs : List α} {ys : List β} {x : α} {y : β} (h : Paired F xs ys) (f : F x y) : Paired F (xs ++ [x]) (ys ++ [y]) := pr_app h (.cons f .nil)
theorem pr_take : ∀ {xs : List α} {ys : List β} (k : Nat), Paired F xs ys → Paired F (xs.take k) (ys.take k)
  | _, _, 0, _ => .nil
  | _, _, k + 1, .nil => .nil
  | _, _, k + 1, .cons a t => .cons a (pr_take k t)
theorem pr_drop : ∀ {xs : List α} {ys : List β} (k : Nat), Paired F xs ys → Paired F (xs.drop k) (ys.drop k)
  | _, _, 0, h => h
  | _, _, k + 1, .nil => .nil
  | _, _, k + 1, .cons a t => pr_drop k t
theorem pr_set : ∀ {xs : List α} {ys : List β} {x : α} {y : β} (k : Nat), Paired F xs ys → F x y → Paired F (xs.set k x) (ys.set k y)
  | _, _, _, _, 0, .nil, _ => .nil
  | _, _, _, _, 0, .cons a t, f => .cons f t
  | _, _, _, _, k + 1, .nil, _ => .nil
  | _, _, _, _, k + 1, .cons a t, f => .cons a (pr_set k t f)
theorem pr_erase : ∀ {xs : List α} {ys : List β} (k : Nat), Paired F xs ys → Paired F (xs.eraseIdx k) (ys.eraseIdx k)
  | _, _, 0, .nil => .nil
  | _, _, 0, .cons a t => t
  | _, _, k + 1, .nil => .nil
  | _, _, k + 1, .cons a t => .cons a (pr_erase k t)
theorem take_snoc {xs : List α} {i : Nat} {x : α} (h : xs[i]? = some x) : xs.take (i + 1) = xs.take i ++ [x] := by
  rw [List.take_add_one, h]
  rfl
end
theorem int_at {ns : List Int} {i : Nat} {x : V} (h : (ns.map V.int)[i]? = some x) : ∃ z, ns[i]? = some z ∧ x = .int z := by
  rw [List.getElem?_map] at h
  cases e : ns[i]? with
  | none =>
    rw [e] at h
    cases h
  | some z =>
    rw [e] at h
    exact ⟨z, rfl, (Option.some.inj h).symm⟩
/-! ### heaps but for one object -/
def But (a : Addr) (H H' : Hp) : Prop := ∀ b o, H b = some o → b ≠ a → H' b = some o
theorem But.refl {a : Addr} (H : Hp) : But a H H := fun _ _ h _ => h
theorem But.trans {a : Addr} {H H1 H2 : Hp} (x : But a H H1) (y : But a H1 H2) : But a H H2 := fun b o h n => y b o (x b o h n) n
theorem But.of {a : Addr} {H H' : Hp} (x : Same H H') : But a H H' := fun b o h _ => x b o h
/-- the stream at a: at most n draws so far -/
def Strm (H : Hp) (a : Addr) (n : Nat) : Prop := ∃ x y z : Int, H a = some (.lst [.int x, .int y, .int z]) ∧ 0 ≤ x ∧ 0 ≤ y ∧ y < 2 ^ 33 ∧ 0 ≤ z ∧ z ≤ n
theorem Strm.same {H H' : Hp} {a : Addr} {n : Nat} (s : Same H H') (h : Strm H a n) : Strm H' a n := by
  obtain ⟨x, y, z, e, r⟩ := h
  exact ⟨x, y, z, s _ _ e, r⟩
theorem Strm.le {H : Hp} {a : Addr} {n m : Nat} (h : Strm H a n) (l : n ≤ m) : Strm H a m := by
  obtain ⟨x, y, z, e, h1, h2, h3, h4, h5⟩ := h
  exact ⟨x, y, z, e, h1, h2, h3, h4, by omega⟩
theorem Strm.lt {H : Hp} {a : Addr} {n : Nat} (h : Strm H a n) : ∃ o, H a = some o := by
  obtain ⟨x, y, z, e, _⟩ := h
  exact ⟨_, e⟩
theorem But.free {a : Addr} {H H' : Hp} (x : But a H H') {n : Nat} (h : Strm H a n) {p : Addr} (hp : H' p = none) (m : Nat) (h' : Strm H' a m) : H p = none := by
  cases q : H p with
  | none => rfl
  | some o =>
    by_cases e : p = a
    · subst e
      obtain ⟨o', e'⟩ := h'.lt
      rw [hp] at e'
      cases e'
    · rw [x p o q e] at hp
      cases hp
section
variable {P : Program} {w : World} {K : PySem.W.Frag} {mg : Str → Option Value} {base : Heap}
/-! ### _law_draw -/
def spDraw : Sp := fun vs H Q _ => ∃ (a : Addr) (m : Int) (n : Nat), vs = [.ref a, .int m] ∧ Strm H a n ∧ n ≤ 1000000 ∧ 1 ≤ m ∧ m ≤ 1000 ∧
  ∀ (d : Int) (H' : Hp), 0 ≤ d → d < m → Strm H' a (n + 1) → But a H H' → Q (.int d) H'
abbrev NLawDraw : List Str := ["_law_stream_here", "_law_many", "_law_digit", "_law_spread"]
theorem scLawDraw : FnScope NLawDraw ["_law_stream_here", "_law_many"] (defScope sLawDraw) := ⟨rfl, rfl, rfl, by decide +kernel, rfl, by decide +kernel, by decide +kernel⟩
theorem ok_law_draw (T : Txt K mg) : Has P w K mg base CX0 "_law_draw" 1 ["_law_stream_here", "_law_many"] spDraw := by
  refine Has.mk T 23 (d := dLawDraw) rfl rfl ⟨rfl, rfl⟩ T.g__law_draw scLawDraw (fun _ _ _ _ _ _ us hl => match us, hl with | [_, _], _ => rfl) (fun vs H Q E h => ?_) (fun cdv A outer s H vs Q E hr h => ?_)
  · obtain ⟨a, m, n, rfl, _⟩ := h
    rfl
  · obtain ⟨a, m, n, rfl, ⟨x, y, z, e, h1, h2, h3, h4, h5⟩, hn, hm1, hm2, k⟩ := h
    refine ⟨_, (pss_cons (ps_if (pt_cmpR op_gt (pe_ix ix_list (pv 0) pe_int (fun _ _ => rfl)) pe_int (nomark _)) (pss_cons (ps_set (i := 2) scLawDraw.nd rfl (Or.inl rfl) (pe_op op_modN (pe_callTy call_int1 (by rfl) T.f_int (by decide +kernel) (pa_cons (pe_ix ix_list (pv 0) pe_int (fun _ _ => rfl)) pa_nil)) (pv 1))) (pss_cons (ps_asg (pe_op op_fdivN (pe_ix ix_list (pv 0) pe_int (fun _ _ => rfl)) (pv 1)) (pg_sub (pv 0) pe_int set_list)) (pss_one (ps_ret (pv 2))))) pss_nil)
      (pss_cons (ps_asg (pe_op op_add (pe_ix ix_list (pv 0) pe_int (fun _ _ => rfl)) pe_int) (pg_sub (pv 0) pe_int set_list))
      (pss_cons (ps_set (i := 3) scLawDraw.nd rfl (Or.inl rfl) (pe_op op_modN (pe_op op_pow (pe_callTy call_int1 (by rfl) T.f_int (by decide +kernel) (pa_cons (pe_op op_add (pe_op op_add (pe_ix ix_list (pv 0) pe_int (fun _ _ => rfl)) (pe_op op_mul pe_int (pe_ix ix_list (pv 0) pe_int (fun _ _ => rfl)))) pe_int) pa_nil)) pe_int) pe_int))
      (pss_one (ps_ret (pe_op op_modN (pe_op op_fdivN (pe_op op_modN (pe_callTy call_int1 (by rfl) T.f_int (by decide +kernel) (pa_cons (pe_op op_mul (pe_op op_add (pv 3) (pe_ix ix_list (pv 0) pe_int (fun _ _ => rfl))) pe_int) pa_nil)) pe_int) pe_int) (pv 1))))))), ?_⟩
    refine ⟨_, rfl, a, _, _, _, rfl, rfl, SqL.of e, rfl, _, _, rfl, rfl, _, rfl, ite2 (fun c => ?_) (fun c => ?_)⟩
    · have c1 : x > 0 := of_decide_eq_true c
      refine ⟨_, rfl, a, _, _, _, rfl, rfl, SqL.of e, rfl, .inl ⟨x, rfl, _, rfl, _, _, rfl, rfl, (by omega), ?_⟩⟩
      refine ⟨_, rfl, a, _, _, _, rfl, rfl, SqL.of e, rfl, _, rfl, _, _, rfl, rfl, ⟨by omega, by omega⟩, _, rfl, a, _, _, _, rfl, rfl, e, rfl, _, rfl, ?_⟩
      refine k _ _ ?_ ?_ ⟨x.fdiv m, y, z, upd_same, ?_, h2, h3, h4, by omega⟩ fun b o hb hne => by rw [upd_ne hne]; exact hb
      · rw [fmod_pos (by omega)]
        exact Int.emod_nonneg _ (by omega)
      · rw [fmod_pos (by omega)]
        exact Int.emod_lt_of_pos _ (by omega)
      · rw [fdiv_pos (by omega)]
        exact Int.ediv_nonneg (by omega) (by omega)
    · refine ⟨_, rfl, a, _, _, _, rfl, rfl, SqL.of e, rfl, _, _, rfl, rfl, _, rfl, a, _, _, _, rfl, rfl, e, rfl, ?_⟩
      have e1 : (upd H a (.lst [.int x, .int y, .int (z + 1)])) a = some (.lst [.int x, .int y, .int (z + 1)]) := upd_same
      refine ⟨_, rfl, a, _, _, _, rfl, rfl, SqL.of e1, rfl, _, rfl, a, _, _, _, rfl, rfl, SqL.of e1, rfl, _, _, rfl, rfl, .inl ⟨by decide, by decide⟩, _, _, rfl, rfl, _, _, rfl, rfl, .inl ⟨_, rfl, _, _, rfl, rfl, ⟨by decide, by decide, by omega⟩, _, _, rfl, rfl, (by show (2147483647 : Int) ≠ 0; decide), ?_⟩⟩
      refine ⟨_, rfl, _, rfl, a, _, _, _, rfl, rfl, SqL.of e1, rfl, _, _, rfl, rfl, _, _, rfl, rfl, .inr ⟨by decide, by decide⟩, .inl ⟨_, rfl, _, _, rfl, rfl, (by show (2147483629 : Int) ≠ 0; decide), _, _, rfl, rfl, ⟨(by show (7 : Int) ≠ 0; decide), (by show (7 : Int).natAbs < 1073741824; decide)⟩, _, rfl, _, _, rfl, rfl, by omega, ?_⟩⟩
      refine k _ _ ?_ ?_ ⟨x, y, z + 1, e1, h1, h2, h3, by omega, by omega⟩ fun b o hb hne => by rw [upd_ne hne]; exact hb
      · rw [fmod_pos (x := Int.fdiv _ _) (by omega)]
        exact Int.emod_nonneg _ (by omega)
      · rw [fmod_pos (x := Int.fdiv _ _) (by omega)]
        exact Int.emod_lt_of_pos _ (by omega)
/-! ### _law_pick -/
theorem at_pos {α : Type} {xs : List α} {d : Int} (h0 : 0 ≤ d) (h : d < xs.length) : ∃ v, xs[d.toNat]? = some v ∧ v ∈ xs ∧ ixN xs.length d = some d.toNat := by
  have hlt : d.toNat < xs.length := by omega
  refine ⟨xs[d.toNat], List.getElem?_eq_getElem hlt, List.getElem_mem hlt, ?_⟩
  unfold ixN
  rw [if_pos h0, if_pos h]
theorem atI_pos {α : Type} {xs : List α} {d : Int} {v : α} (h0 : 0 ≤ d) (h : d < xs.length) (hv : xs[d.toNat]? = some v) : atI xs d = some v := by
  unfold atI ixN
  rw [if_pos h0, if_pos h]
  exact hv
def spPick : Sp := fun vs H Q _ => ∃ (a b : Addr) (xs : List V) (n : Nat), vs = [.ref a, .ref b] ∧ Strm H a n ∧ n ≤ 1000000 ∧ H b = some (.lst xs) ∧ b ≠ a ∧ 1 ≤ xs.length ∧ xs.length ≤ 1000 ∧
  ∀ (v : V) (H' : Hp), v ∈ xs → Strm H' a (n + 1) → But a H H' → Q v H'
abbrev NLawPick : List Str := ["_law_stream_here", "_law_things"]
theorem scLawPick : FnScope NLawPick ["_law_stream_here", "_law_things"] (defScope sLawPick) := ⟨rfl, rfl, rfl, by decide +kernel, rfl, by decide +kernel, by decide +kernel⟩
theorem ok_law_pick (T : Txt K mg) (h__law_draw : Has P w K mg base CX0 "_law_draw" 1 ["_law_stream_here", "_law_many"] spDraw) : Has P w K mg base CX0 "_law_pick" 2 ["_law_stream_here", "_law_things"] spPick := by
  refine Has.mk T 24 (d := dLawPick) rfl rfl ⟨rfl, rfl⟩ T.g__law_pick scLawPick (fun _ _ _ _ _ _ us hl => match us, hl with | [_, _], _ => rfl) (fun vs H Q E h => ?_) (fun cdv A outer s H vs Q E hr h => ?_)
  · obtain ⟨a, b, xs, n, rfl, _⟩ := h
    rfl
  · obtain ⟨a, b, xs, n, rfl, hs, hn, hb, hne, h1, h2, k⟩ := h
    refine ⟨_, (pss_one (ps_ret (pe_ix ix_list (pv 1) (pe_callH h__law_draw (hr.mono (by decide)) (by rfl) pass0 (pa_cons (pv 0) (pa_cons (pe_callB call_len_seq (by rfl) T.f_len PySem.boot_len (pa_cons (pv 1) pa_nil)) pa_nil))) (fun _ _ => rfl)))), ?_⟩
    refine ⟨_, rfl, _, rfl, _, rfl, b, xs, rfl, .inl (SqL.of hb), a, _, n, rfl, hs, hn, by omega, by omega, fun d H' d0 d1 hs' bt => ?_⟩
    obtain ⟨v, hv, hm, _⟩ := at_pos d0 d1
    exact ⟨b, xs, d, v, rfl, rfl, SqL.of (bt b _ hb hne), atI_pos d0 d1 hv, k v H' hm hs' bt⟩
/-! ### cells in the heap -/
abbrev Cell := KM.Cell
def cv (c : Cell) : List V := [.int c.f, .int c.l, .int c.n, .int c.w]
def CRel (H : Hp) (v : V) (c : Cell) : Prop := ∃ t, v = .ref t ∧ H t = some (.tup (cv c))
abbrev CRels (H : Hp) (vs : List V) (cs : List Cell) : Prop := Paired (CRel H) vs cs
theorem CRels.but {H H' : Hp} {a n} {vs : List V} {cs : List Cell} (h : CRels H vs cs) (x : But a H H') (s : Strm H a n) : CRels H' vs cs := Paired.mapP h fun v c ⟨t, e, q⟩ => ⟨t, e, x t _ q fun z => by
  obtain ⟨x1, y1, z1, e1, _⟩ := s
  rw [z, e1] at q
  cases q⟩
theorem CRels.same {H H' : Hp} {vs : List V} {cs : List Cell} (h : CRels H vs cs) (x : Same H H') : CRels H' vs cs := Paired.mapP h fun v c ⟨t, e, q⟩ => ⟨t, e, x t _ q⟩
/-- as data -/
def cD (c : Cell) : PyData := .tuple [.int c.f, .int c.l, .int c.n, .int c.w]
theorem CRels.dp {H : Hp} : ∀ {vs : List V} {cs : List Cell}, CRels H vs cs → DpAll K H vs (cs.map cD)
  | _, _, .nil => .nil
  | _, _, .cons ⟨t, e, q⟩ r => .cons (by rw [e]; exact .tup (.inl (.inl q)) (.cons (.int _) (.cons (.int _) (.cons (.int _) (.cons (.int _) .nil))))) (CRels.dp r)
theorem can_cD : ∀ cs : List Cell, PyData.canLayAll0 (cs.map cD) = true
  | [] => rfl
  | c :: r => by
    show (PyData.canLay0 (cD c) && PyData.canLayAll0 (r.map cD)) = true
    rw [can_cD r]
    rfl
theorem depth_cD : ∀ cs : List Cell, PyData.depthAll (cs.map cD) ≤ 1
  | [] => by decide
  | c :: r => by
    show max (PyData.depth (cD c)) (PyData.depthAll (r.map cD)) ≤ 1
    have h := depth_cD r
    have e : PyData.depth (cD c) = 1 := rfl
    omega
theorem shaped_cD (cs : List Cell) : SeqAt.shaped (.list (cs.map cD)) = true := by
  unfold SeqAt.shaped
  have h := depth_cD cs
  rw [Bool.and_eq_true]
  refine ⟨can_cD cs, decide_eq_true ?_⟩
  show PyData.depthAll (cs.map cD) + 1 ≤ 64
  omega
theorem eqv_nil : ∀ cs : List Cell, PyData.eqv (.list (cs.map cD)) (.list []) = decide (cs = [])
  | [] => rfl
  | c :: r => rfl
end
end K2

set_option Elab.async false
set_option linter.all false
set_option maxRecDepth 100000
set_option maxHeartbeats 4000000
/-! The draws, further. -/
namespace K3
open PySem PySem.Spec PyProof.Rows L2 KD K1 K2
section
variable {P : Program} {w : World} {K : PySem.W.Frag} {mg : Str → Option Value} {base : Heap}
/-! ### _law_stream -/
def spStream (K : PySem.W.Frag) : Sp := fun vs H Q _ => ∃ (a : Addr) (ns : List Int) (k : Int), vs = [.ref a, .int k] ∧ SqL K H a (ns.map V.int) ∧ ns.length ≤ 63 ∧ 0 ≤ k ∧ k ≤ 100 ∧
  ∀ (p : Addr) (H' : Hp), Same H H' → H p = none → Strm H' p 0 → Q (.ref p) H'
abbrev NLawStream : List Str := ["_law_script", "_law_k", "_law_cell", "_law_mixed", "_law_at", "_law_one"]
theorem scLawStream : FnScope NLawStream ["_law_script", "_law_k"] (defScope sLawStream) := ⟨rfl, rfl, rfl, by decide +kernel, rfl, by decide +kernel, by decide +kernel⟩
theorem ok_law_stream (T : Txt K mg) : Has P w K mg base CX0 "_law_stream" 1 ["_law_script", "_law_k"] (spStream K) := by
  refine Has.mk T 22 (d := dLawStream) rfl rfl ⟨rfl, rfl⟩ T.g__law_stream scLawStream (fun _ _ _ _ _ _ us hl => match us, hl with | [_, _], _ => rfl) (fun vs H Q E h => ?_) (fun cdv A outer s H vs Q E hr h => ?_)
  · obtain ⟨a, ns, k, rfl, _⟩ := h
    rfl
  · obtain ⟨a, ns, k, rfl, hS, hl, hk0, hk1, q⟩ := h
    refine ⟨_, (C8.pss_cut (ps_set (i := 2) scLawStream.nd rfl (Or.inl rfl) (pe_ifExp (pt_cmpR op_lt (pv 1) (pe_callB call_len_seq (by rfl) T.f_len PySem.boot_len (pa_cons (pv 0) pa_nil)) (nomark _)) (pe_callB call_abs (by rfl) T.f_abs (by decide +kernel) (pa_cons (pe_ix ix_list (pv 0) (pv 1) (fun _ _ => rfl)) pa_nil)) (pe_op op_modN (pe_callTy call_int1 (by rfl) T.f_int (by decide +kernel) (pa_cons (pe_callB (cr_sum rfl) (by rfl) T.f_sum (by decide +kernel) (pa_cons (pe_slice sl_list (pv 0) po_none (po_some pe_int)) pa_nil)) pa_nil)) pe_int)))
      (C8.pss_cut (ps_set (i := 3) scLawStream.nd rfl (Or.inl rfl) (pe_op op_modN (pe_callB (cr_sum rfl) (by rfl) T.f_sum (by decide +kernel) (pa_cons (pe_lc (own := [("_law_at", 4), ("_law_one", 5)]) (g := (gTup K 2 (gCons (gName 4) (gCons (gName 5) gNil)))) (by rfl) scLawStream.nd (pi_enum (by rfl) T.f_enumerate (pa_cons (pv 0) pa_nil)) (blkOk_by (own := [("_law_at", 4), ("_law_one", 5)]) (N := NLawStream) (sc := defScope sLawStream) (by decide +kernel)) (fun _ _ _ _ _ => (pg_tup rfl (pgs_cons (pg_name (i := 4) scLawStream.nd rfl (Or.inl rfl)) (pgs_cons (pg_name (i := 5) scLawStream.nd rfl (Or.inl rfl)) pgs_nil)))) (fun _ _ _ _ _ => pts_nil) (fun _ _ _ _ _ => (pe_op op_mul (pe_op op_add (pv 4) pe_int) (pe_callTy call_int1 (by rfl) T.f_int (by decide +kernel) (pa_cons (pe_callB call_abs (by rfl) T.f_abs (by decide +kernel) (pa_cons (pv 5) pa_nil)) pa_nil))))) pa_nil)) pe_int))
      (pss_one (ps_ret (pe_lst (pa_cons (pe_cut (pe_ifExp (pt_cmpR op_ge (pv 2) (pe_op op_pow pe_int pe_int) (nomark _)) (pv 2) pe_int)) (pa_cons (pe_op op_add (pe_op op_modN (pe_callTy call_int1 (by rfl) T.f_int (by decide +kernel) (pa_cons (pe_op op_add (pv 2) (pv 3)) pa_nil)) pe_int) (pe_op op_mul pe_int (pv 1))) (pa_cons pe_int pa_nil)))))))), ?_⟩
    have hlen : (ns.map V.int).length = ns.length := List.length_map _
    refine ⟨fun σ' H' => Same H H' ∧ ∃ c : Int, 0 ≤ c ∧ σ' = [some (.ref a), some (.int k), some (.int c), none, none, none], ?_, ?_⟩
    · refine ⟨_, rfl, _, rfl, a, _, rfl, .inl hS, _, _, rfl, rfl, _, rfl, ite2 (fun c => ?_) (fun c => ?_)⟩
      · have c1 : k < ((ns.map V.int).length : Nat) := of_decide_eq_true c
        have c2 : k.toNat < ns.length := by omega
        refine ⟨_, rfl, _, rfl, a, _, _, .int ns[k.toNat], rfl, rfl, hS, atI_pos hk0 c1 (by rw [List.getElem?_map, List.getElem?_eq_getElem c2]; rfl), _, rfl, Same.refl H, _, ?_, rfl⟩
        split <;> omega
      · refine ⟨_, rfl, 1, rfl, a, _, rfl, hS, fun p hp => ⟨p, (ns.take 1), rfl, .inl (.inl ?_), .inl ⟨_, rfl, _, _, rfl, rfl, (by show (1000003 : Int) ≠ 0; decide), same_upd hp, _, ?_, rfl⟩⟩⟩
        · rw [upd_same]
          have e : cutV (ns.map V.int) none (some 1) = (ns.take 1).map V.int := by
            unfold cutV
            rw [HT.sIx_none, show HT.sIx (ns.map V.int).length (ns.map V.int).length (some 1) = min 1 (ns.map V.int).length from HT.sIx_nat _ _ 1, List.drop_zero, Nat.sub_zero, List.map_take]
            rcases ns with _ | ⟨x, r⟩
            · rfl
            · rw [List.map_cons, List.length_cons, show min 1 ((r.map V.int).length + 1) = 1 by omega]
          rw [e]
        · rw [fmod_pos (by decide)]
          exact Int.emod_nonneg _ (by decide)
    · rintro σ1 H1 ⟨s1, c, hc, rfl⟩
      refine ⟨fun σ' H' => Same H H' ∧ ∃ d : Int, 0 ≤ d ∧ σ' = [some (.ref a), some (.int k), some (.int c), some (.int d), none, none], ?_, ?_⟩
      · refine ⟨_, rfl, a, _, rfl, s1.seq hS, fun D hD => lc_it walk_enum (fun i H' => Same H1 H' ∧ ∃ acc : List Int, H' D = some (.lst (acc.map V.int)) ∧ acc.length = i) ⟨same_upd hD, [], upd_same, rfl⟩ (fun i H' _ h => h.1.seq (s1.seq hS)) ?_ ?_⟩
        · rintro i x H2 H3 hi ⟨s2, acc, e, el⟩ ⟨t, x1, x2, rfl, nt, rfl, e1, e2⟩
          have e1' : x1 = .int (i : Int) := (Option.some.inj e1).symm
          obtain ⟨z, _, rfl⟩ := int_at (ns := ns) (i := i) e2
          subst e1'
          have nD : D ≠ t := ne_of_none e nt
          refine ⟨t, _, rfl, .inl (.inl upd_same), rfl, _, _, rfl, _, _, rfl, rfl, rfl, ?_⟩
          refine ⟨_, rfl, _, _, rfl, rfl, _, rfl, _, rfl, .inl ⟨_, rfl, _, _, rfl, rfl, .inl ?_, acc.map V.int, ?_, ?_, ?_⟩⟩
          · rw [hlen] at hi
            constructor <;> omega
          · rw [upd_ne nD]
            exact e
          · rw [hlen] at hi
            rw [List.length_map]
            exact small1000 (by omega)
          · refine ⟨fun b o hb => ?_, acc ++ [((i : Int) + 1) * (if z < 0 then -z else z)], ?_, by rw [List.length_append, el]; rfl⟩
            · have nb : b ≠ D := ne_of_none hb hD
              rw [upd_ne nb]
              exact same_upd nt _ _ (s2 _ _ hb)
            · rw [upd_same, List.map_append]
              rfl
        · rintro H2 ⟨s2, acc, e, el⟩
          refine ⟨D, acc, rfl, SqL.of e, _, _, rfl, rfl, (by show (2147483647 : Int) ≠ 0; decide), s1.trans s2, _, ?_, rfl⟩
          rw [fmod_pos (by decide)]
          exact Int.emod_nonneg _ (by decide)
      · rintro σ2 H2 ⟨s2, d, hd, rfl⟩
        refine ⟨fun v H' => H' = H2 ∧ ∃ x : Int, 0 ≤ x ∧ v = .int x, ?_, ?_⟩
        · refine ⟨_, rfl, _, _, rfl, rfl, ⟨by decide, by decide, by decide⟩, _, _, rfl, rfl, _, rfl, ite2 (fun _ => ?_) (fun _ => ?_)⟩
          · exact ⟨_, rfl, rfl, c, hc, rfl⟩
          · exact ⟨rfl, 0, by decide, rfl⟩
        · rintro v H3 ⟨rfl, x, hx, rfl⟩
          refine ⟨_, rfl, _, rfl, _, _, rfl, rfl, .inl ⟨_, rfl, _, _, rfl, rfl, (by show (2147483647 : Int) ≠ 0; decide), _, rfl, _, _, rfl, rfl, .inl ⟨by decide, by decide⟩, _, _, rfl, rfl, (by show 3 ≤ sizeLine; decide), fun p hp => ?_⟩⟩
          refine q p _ (s2.trans (same_upd hp)) (s2.free hp) ⟨x, _, 0, upd_same, hx, ?_, ?_, by decide, by decide⟩
          · rw [fmod_pos (by decide)]
            have := Int.emod_nonneg (c + d) (b := 2147483647) (by decide)
            omega
          · rw [fmod_pos (by decide)]
            have := Int.emod_lt_of_pos (c + d) (b := 2147483647) (by decide)
            omega
end
end K3

set_option Elab.async false
set_option linter.all false
set_option maxRecDepth 100000
set_option maxHeartbeats 4000000
/-! Mixing, drawn cells. -/
namespace K4
open PySem PySem.Spec PyProof.Rows L2 KD K1 K2 K3
section
variable {P : Program} {w : World} {K : PySem.W.Frag} {mg : Str → Option Value} {base : Heap}
theorem CRels.updL {H : Hp} {l : Addr} {xs : List V} {o : HO} {vs : List V} {cs : List Cell} (e : H l = some (.lst xs)) (h : CRels H vs cs) : CRels (upd H l o) vs cs :=
  Paired.mapP h fun v c ⟨t, e1, q⟩ => ⟨t, e1, by rw [upd_ne (ne_of q e (by intro z; cases z))]; exact q⟩
theorem CRels.sub {H : Hp} {vs : List V} {cs ds : List Cell} (h : CRels H vs ds) (s : ∀ d ∈ ds, d ∈ cs) : ∀ d ∈ ds, d ∈ cs := s
theorem strm_upd {H : Hp} {a l : Addr} {n : Nat} {o : HO} (h : Strm H a n) (ne : a ≠ l) : Strm (upd H l o) a n := by
  obtain ⟨x, y, z, e, r⟩ := h
  exact ⟨x, y, z, by rw [L2.upd_ne ne]; exact e, r⟩
theorem seq_ix {d : Int} {n : Nat} (h0 : 0 ≤ d) (h : d < n) : seqIndex? d n = some d.toNat := (ixN_seq (by
  unfold ixN
  rw [if_pos h0, if_pos h])).1
/-! ### _law_mix -/
def spMix : Sp := fun vs H Q _ => ∃ (a b : Addr) (xs : List V) (cs : List Cell) (n : Nat), vs = [.ref a, .ref b] ∧ Strm H a n ∧ n + xs.length ≤ 1000000 ∧ H b = some (.lst xs) ∧ b ≠ a ∧ CRels H xs cs ∧ xs.length ≤ 100 ∧
  ∀ (p : Addr) (ys : List V) (ds : List Cell) (H' : Hp), H p = none → H' p = some (.lst ys) → CRels H' ys ds → (∀ d ∈ ds, d ∈ cs) → ys.length = xs.length → Strm H' a (n + xs.length) → But a H H' → Q (.ref p) H'
def mixW (a b l f : Addr) (H : Hp) (cs : List Cell) (n k : Nat) (m : Nat) (σ : L2.St) (H' : Hp) : Prop :=
  σ = [some (.ref a), some (.ref b), some (.ref l), some (.ref f)] ∧ But a H H' ∧ ∃ (vs1 vs2 : List V) (ds1 ds2 : List Cell), H' l = some (.lst vs1) ∧ H' f = some (.lst vs2) ∧ CRels H' vs1 ds1 ∧ CRels H' vs2 ds2 ∧
    (∀ d ∈ ds1, d ∈ cs) ∧ (∀ d ∈ ds2, d ∈ cs) ∧ m = vs1.length ∧ vs1.length + vs2.length = k ∧ Strm H' a (n + vs2.length)
abbrev NLawMix : List Str := ["_law_stream_here", "_law_things", "_law_left", "_law_found"]
theorem scLawMix : FnScope NLawMix ["_law_stream_here", "_law_things"] (defScope sLawMix) := ⟨rfl, rfl, rfl, by decide +kernel, rfl, by decide +kernel, by decide +kernel⟩
theorem ok_law_mix (T : Txt K mg) (h__law_draw : Has P w K mg base CX0 "_law_draw" 1 ["_law_stream_here", "_law_many"] spDraw) : Has P w K mg base CX0 "_law_mix" 2 ["_law_stream_here", "_law_things"] spMix := by
  refine Has.mk T 25 (d := dLawMix) rfl rfl ⟨rfl, rfl⟩ T.g__law_mix scLawMix (fun _ _ _ _ _ _ us hl => match us, hl with | [_, _], _ => rfl) (fun vs H Q E h => ?_) (fun cdv A outer s H vs Q E hr h => ?_)
  · obtain ⟨a, b, xs, cs, n, rfl, _⟩ := h
    rfl
  · obtain ⟨a, b, xs, cs, n, rfl, hs, hn, hb, hne, hc, hlen, k⟩ := h
    refine ⟨_, (pss_cons (ps_par (i := 2) (j := 3) (by rfl) scLawMix.nd rfl rfl (by decide) rfl rfl (pa_cons (pe_callTy call_list_of (by rfl) T.f_list (by decide +kernel) (pa_cons (pv 1) pa_nil)) (pa_cons (pe_lst pa_nil) pa_nil)) (by rfl))
      (pss_cons (ps_while PassesOwn.never (pt_cmpR (op_neD hr.units) (pv 2) (pe_lst pa_nil) (nomark _)) (pss_one (ps_expr (pe_bm PySem.F.plainAttrs_list PySem.F.slot_list_append PySem.F.type_list_append mt_append (pv 3) (pa_cons (pe_bm PySem.F.plainAttrs_list PySem.F.slot_list_pop PySem.F.type_list_pop mt_popAt (pv 2) (pa_cons (pe_callH h__law_draw (hr.mono (by decide)) (by rfl) pass0 (pa_cons (pv 0) (pa_cons (pe_callB call_len_seq (by rfl) T.f_len PySem.boot_len (pa_cons (pv 2) pa_nil)) pa_nil))) pa_nil)) pa_nil)))))
      (pss_one (ps_ret (pv 3))))), ?_⟩
    obtain ⟨oa, ea⟩ := hs.lt
    refine ⟨_, rfl, b, xs, rfl, .inl (SqL.of hb), fun l hl => ⟨Nat.zero_le _, fun f hf => ⟨_, _, rfl, ?_⟩⟩⟩
    have nlf : l ≠ f := ne_of_none upd_same hf
    have nal : a ≠ l := ne_of_none ea hl
    have hf0 : H f = none := (same_upd hl).free hf
    have naf : a ≠ f := ne_of_none ea hf0
    have s2 : Same H (upd (upd H l (.lst xs)) f (.lst [])) := (same_upd hl).trans (same_upd hf)
    refine ⟨mixW a b l f H cs n xs.length, ⟨xs.length, rfl, But.of s2, xs, [], cs, [], by rw [upd_ne nlf]; exact upd_same, upd_same, hc.same s2, .nil, fun _ h => h, fun _ h => absurd h (by simp), rfl, by simp, hs.same s2⟩, fun m σ H1 hW => ?_⟩
    obtain ⟨rfl, bt, vs1, vs2, ds1, ds2, e1, e2, c1, c2, q1, q2, rfl, hl12, st⟩ := hW
    refine ⟨_, rfl, Nat.zero_le _, fun e he => ?_⟩
    have s3 : Same H1 (upd H1 e (.lst [])) := same_upd he
    refine ⟨_, _, .lst (SqL.of (s3 _ _ e1)) (c1.same s3).dp, .lst (SqL.of upd_same) .nil, shaped_cD ds1, shaped_cD [], _, rfl, ?_⟩
    rw [eqv_nil]
    refine ite2 (fun c => ?_) (fun c => ?_)
    · -- a turn
      have d1 : ds1 ≠ [] := by
        intro z
        rw [z] at c
        cases c
      have len1 := pr_length c1
      have p1 : 0 < vs1.length := by
        rw [len1]
        exact List.length_pos_iff.mpr d1
      refine ⟨fun σ' H' => ∃ m', m' < vs1.length ∧ mixW a b l f H cs n xs.length m' σ' H', fun _ _ z => z, ?_⟩
      have nea : a ≠ e := ne_of_none (st.lt).choose_spec he
      have nle : l ≠ e := ne_of_none e1 he
      have nfe : f ≠ e := ne_of_none e2 he
      refine ⟨_, rfl, .inl ⟨rfl, _, SqL.of (s3 _ _ e2)⟩, _, rfl, .inl ⟨rfl, _, SqL.of (s3 _ _ e1)⟩, _, rfl, _, rfl, l, vs1, rfl, .inl (SqL.of (s3 _ _ e1)), a, _, n + vs2.length, rfl, st.same s3, by omega, by omega, by omega, fun d H2 h0 h1 st2 bt2 => ?_⟩
      have e1' : H2 l = some (.lst vs1) := bt2 _ _ (s3 _ _ e1) nal.symm
      have e2' : H2 f = some (.lst vs2) := bt2 _ _ (s3 _ _ e2) naf.symm
      obtain ⟨v, hv, _, _⟩ := at_pos h0 h1
      obtain ⟨cd, hcd, rcd⟩ := pr_get c1 hv
      have bt3 : But a H1 H2 := (But.of s3).trans bt2
      refine ⟨l, vs1, d, d.toNat, v, rfl, rfl, e1', by omega, by omega, seq_ix h0 h1, hv, f, vs2, v, rfl, rfl, by rw [upd_ne nlf.symm]; exact e2', small1000 (by omega), ?_⟩
      have c1' : CRels (upd H2 l (.lst (vs1.eraseIdx d.toNat))) vs1 ds1 := CRels.updL e1' (c1.but bt3 st)
      have c2' : CRels (upd H2 l (.lst (vs1.eraseIdx d.toNat))) vs2 ds2 := CRels.updL e1' (c2.but bt3 st)
      have ef : (upd H2 l (.lst (vs1.eraseIdx d.toNat))) f = some (.lst vs2) := by rw [upd_ne nlf.symm]; exact e2'
      have hlt : d.toNat < vs1.length := by omega
      refine ⟨(vs1.eraseIdx d.toNat).length, ?_, rfl, ?_, vs1.eraseIdx d.toNat, vs2 ++ [v], ds1.eraseIdx d.toNat, ds2 ++ [cd], ?_, upd_same, ?_, ?_, fun x hx => q1 x (List.mem_of_mem_eraseIdx hx), ?_, rfl, ?_, ?_⟩
      · rw [List.length_eraseIdx, if_pos hlt]
        omega
      · intro b' o hb' hne'
        have n1 : b' ≠ l := ne_of_none hb' hl
        have n2 : b' ≠ f := ne_of_none hb' hf0
        rw [upd_ne n2, upd_ne n1]
        exact bt3 _ _ (bt _ _ hb' hne') hne'
      · rw [upd_ne nlf]
        exact upd_same
      · exact CRels.updL ef (pr_erase _ c1')
      · have hm := List.mem_of_getElem? hv
        have c1v : CRel (upd H2 l (.lst (vs1.eraseIdx d.toNat))) v cd := by
          obtain ⟨cd', h1', h2'⟩ := pr_get c1' hv
          rw [hcd] at h1'
          cases h1'
          exact h2'
        exact CRels.updL ef (pr_snoc c2' c1v)
      · intro x hx
        rcases List.mem_append.mp hx with hx | hx
        · exact q2 x hx
        · have ex : x = cd := by simpa using hx
          rw [ex]
          exact q1 cd (List.mem_of_getElem? hcd)
      · rw [List.length_eraseIdx, if_pos hlt, List.length_append]
        show vs1.length - 1 + (vs2.length + 1) = xs.length
        omega
      · rw [List.length_append]
        exact strm_upd (strm_upd st2 nal) naf
    · -- the end
      have d1 : ds1 = [] := by
        by_cases z : ds1 = []
        · exact z
        · rw [decide_eq_false z] at c
          exact absurd rfl c
      have len1 := pr_length c1
      rw [d1] at len1
      have l0 : vs1.length = 0 := len1
      refine ⟨_, rfl, k f vs2 ds2 _ hf0 (s3 _ _ e2) (c2.same s3) q2 (by omega) ?_ (bt.trans (But.of s3))⟩
      have e : vs2.length = xs.length := by omega
      rw [← e]
      exact st.same s3
/-! ### _law_cells -/
/-- a drawn cell -/
def Good (m B : Int) (c : Cell) : Prop := 0 ≤ c.f ∧ c.f ≤ c.l ∧ c.l < m ∧ 0 ≤ c.n ∧ c.n ≤ B ∧ c.n ≤ c.w
theorem good_ok {m B : Int} {cs : List Cell} (h : ∀ c ∈ cs, Good m B c) : KM.Ok cs := fun c hc => (h c hc).2.1
def spCells : Sp := fun vs H Q _ => ∃ (a : Addr) (m : Int) (n : Nat), vs = [.ref a, .int m, .int 6, .int 4] ∧ Strm H a n ∧ n ≤ 900000 ∧ 1 ≤ m ∧ m ≤ 10 ∧
  ∀ (p : Addr) (ys : List V) (ds : List Cell) (H' : Hp), H p = none → H' p = some (.lst ys) → CRels H' ys ds → (∀ d ∈ ds, Good m 4 d) → ds.length ≤ 6 → Strm H' a (n + 50) → But a H H' → Q (.ref p) H'
def cellsW (a p : Addr) (m : Int) (H : Hp) (n : Nat) (i : Nat) (σ : L2.St) (H' : Hp) : Prop :=
  But a H H' ∧ (∃ v5 v6 v7 v8 : Option V, σ = [some (.ref a), some (.int m), some (.int 6), some (.int 4), some (.ref p), v5, v6, v7, v8]) ∧ ∃ (ys : List V) (ds : List Cell), H' p = some (.lst ys) ∧ CRels H' ys ds ∧ (∀ d ∈ ds, Good m 4 d) ∧ ds.length = i ∧ Strm H' a (n + 1 + 7 * i)
abbrev NLawCells : List Str := ["_law_stream_here", "_law_many", "_law_most", "_law_high", "_law_found", "_law_k", "_law_first", "_law_last", "_law_need"]
theorem scLawCells : FnScope NLawCells ["_law_stream_here", "_law_many", "_law_most", "_law_high"] (defScope sLawCells) := ⟨rfl, rfl, rfl, by decide +kernel, rfl, by decide +kernel, by decide +kernel⟩
theorem ok_law_cells (T : Txt K mg) (h__law_draw : Has P w K mg base CX0 "_law_draw" 1 ["_law_stream_here", "_law_many"] spDraw) (h__law_pick : Has P w K mg base CX0 "_law_pick" 2 ["_law_stream_here", "_law_things"] spPick) :
    Has P w K mg base CX0 "_law_cells" 3 ["_law_stream_here", "_law_many", "_law_most", "_law_high"] spCells := by
  refine Has.mk T 32 (d := dLawCells) rfl rfl ⟨rfl, rfl⟩ T.g__law_cells scLawCells (fun _ _ _ _ _ _ us hl => match us, hl with | [_, _, _, _], _ => rfl) (fun vs H Q E h => ?_) (fun cdv A outer s H vs Q E hr h => ?_)
  · obtain ⟨a, m, n, rfl, _⟩ := h
    rfl
  · obtain ⟨a, m, n, rfl, hs, hn, hm1, hm2, k⟩ := h
    refine ⟨_, (pss_cons (ps_set (i := 4) scLawCells.nd rfl (Or.inl rfl) (pe_lst pa_nil))
      (pss_cons (ps_for PassesOwn.never rfl (pi_range1 (by rfl) T.f_range (pa_cons (pe_callH h__law_draw (hr.mono (by decide)) (by rfl) pass0 (pa_cons (pv 0) (pa_cons (pe_op op_add (pv 2) pe_int) pa_nil))) pa_nil)) (pg_name (i := 5) scLawCells.nd rfl (Or.inl rfl)) (pss_cons (ps_set (i := 6) scLawCells.nd rfl (Or.inl rfl) (pe_callH h__law_draw (hr.mono (by decide)) (by rfl) pass0 (pa_cons (pv 0) (pa_cons (pv 1) pa_nil)))) (pss_cons (ps_set (i := 7) scLawCells.nd rfl (Or.inl rfl) (pe_cut (pe_callB (call_min2 rfl) (by rfl) T.f_min (by decide +kernel) (pa_cons (pe_op op_sub (pv 1) pe_int) (pa_cons (pe_op op_add (pv 6) (pe_callH h__law_pick (hr.mono (by decide)) (by rfl) pass0 (pa_cons (pv 0) (pa_cons (pe_lst (pa_cons pe_int (pa_cons pe_int (pa_cons pe_int (pa_cons pe_int (pa_cons pe_int (pa_cons pe_int pa_nil))))))) pa_nil)))) pa_nil))))) (pss_cons (ps_set (i := 8) scLawCells.nd rfl (Or.inl rfl) (pe_callH h__law_pick (hr.mono (by decide)) (by rfl) pass0 (pa_cons (pv 0) (pa_cons (pe_lst (pa_cons pe_int (pa_cons (pe_op op_add pe_int (pe_callH h__law_draw (hr.mono (by decide)) (by rfl) pass0 (pa_cons (pv 0) (pa_cons (pv 3) pa_nil)))) (pa_cons (pe_op op_add pe_int (pe_callH h__law_draw (hr.mono (by decide)) (by rfl) pass0 (pa_cons (pv 0) (pa_cons (pv 3) pa_nil)))) pa_nil)))) pa_nil)))) (pss_one (ps_expr (pe_bm PySem.F.plainAttrs_list PySem.F.slot_list_append PySem.F.type_list_append mt_append (pv 4) (pa_cons (pe_tup (pa_cons (pv 6) (pa_cons (pv 7) (pa_cons (pv 8) (pa_cons (pe_op op_add (pv 8) (pe_callH h__law_pick (hr.mono (by decide)) (by rfl) pass0 (pa_cons (pv 0) (pa_cons (pe_lst (pa_cons pe_int (pa_cons pe_int (pa_cons pe_int (pa_cons pe_int (pa_cons pe_int pa_nil)))))) pa_nil)))) pa_nil))))) pa_nil))))))))
      (pss_one (ps_ret (pv 4))))), ?_⟩
    obtain ⟨oa, ea⟩ := hs.lt
    refine ⟨Nat.zero_le _, fun p hp => ?_⟩
    have nap : a ≠ p := ne_of_none ea hp
    have s1 : Same H (upd H p (.lst [])) := same_upd hp
    refine ⟨_, rfl, _, rfl, _, _, rfl, rfl, a, _, n, rfl, hs.same s1, by omega, by decide, by decide, fun d H1 d0 d1 st1 bt1 => ⟨d, rfl, by omega, by omega, ?_⟩⟩
    refine for_range (lo := 0) (n := d.toNat) (cellsW a p m H n) ⟨(But.of s1).trans bt1, ⟨none, none, none, none, rfl⟩, [], [], bt1 _ _ upd_same nap.symm, .nil, fun _ h => absurd h (by simp), rfl, st1⟩ ?_ ?_
    · rintro i σ H2 hi ⟨bt2, ⟨v5, v6, v7, v8, rfl⟩, ys, ds, ep, cr, gd, hl, st2⟩
      have hi6 : i < 6 := by omega
      -- first
      refine ⟨_, rfl, _, rfl, a, m, _, rfl, st2, by omega, by omega, by omega, fun fi H3 f0 f1 st3 bt3 => ?_⟩
      -- last
      refine ⟨fun v H' => H' p = some (.lst ys) ∧ CRels H' ys ds ∧ But a H H' ∧ Strm H' a (n + 1 + 7 * i + 2) ∧ ∃ la : Int, fi ≤ la ∧ la < m ∧ v = .int la, ?_, ?_⟩
      · have ep3 := bt3 _ _ ep nap.symm
        have cr3 := cr.but bt3 st2
        refine ⟨_, rfl, _, _, rfl, rfl, _, rfl, _, rfl, (by show 6 ≤ sizeLine; decide), fun q hq => ?_⟩
        have s4 := same_upd (o := .lst [V.int 0, V.int 0, V.int 0, V.int 1, V.int 1, V.int 2]) hq
        have nqa : q ≠ a := (ne_of_none st3.lt.choose_spec hq).symm
        refine ⟨a, q, _, _, rfl, st3.same s4, by omega, upd_same, nqa, by decide, by decide, fun v H5 hv st5 bt5 => ?_⟩
        obtain ⟨g, rfl, g0⟩ : ∃ g : Int, v = .int g ∧ 0 ≤ g := by
          simp only [List.mem_cons, List.not_mem_nil, or_false] at hv
          rcases hv with rfl | rfl | rfl | rfl | rfl | rfl
          all_goals exact ⟨_, rfl, by decide⟩
        refine ⟨_, _, rfl, rfl, _, _, rfl, bt5 _ _ (s4 _ _ ep3) nap.symm, (cr3.same s4).but bt5 (st3.same s4), ((bt2.trans bt3).trans (But.of s4)).trans bt5, st5, _, ?_, ?_, rfl⟩
        · split <;> omega
        · split <;> omega
      · rintro v H6 ⟨ep6, cr6, bt6, st6, la, l0, l1, rfl⟩
        -- need
        refine ⟨_, rfl, _, rfl, _, rfl, a, 4, _, rfl, st6, by omega, by decide, by decide, fun x7 H7 x70 x71 st7 bt7 => ⟨_, _, rfl, rfl, _, rfl, _, rfl, a, 4, _, rfl, st7, by omega, by decide, by decide, fun x8 H8 x80 x81 st8 bt8 => ⟨_, _, rfl, rfl, (by show 3 ≤ sizeLine; decide), fun q hq => ?_⟩⟩⟩
        have s9 := same_upd (o := .lst [V.int 0, V.int (1 + x7), V.int (1 + x8)]) hq
        have nqa : q ≠ a := (ne_of_none st8.lt.choose_spec hq).symm
        refine ⟨a, q, _, _, rfl, st8.same s9, by omega, upd_same, nqa, (by show 1 ≤ 3; decide), (by show 3 ≤ 1000; decide), fun v H9 hv st9 bt9 => ?_⟩
        obtain ⟨g, rfl, g0, g1⟩ : ∃ g : Int, v = .int g ∧ 0 ≤ g ∧ g ≤ 4 := by
          simp only [List.mem_cons, List.not_mem_nil, or_false] at hv
          rcases hv with rfl | rfl | rfl
          · exact ⟨_, rfl, by decide, by decide⟩
          · exact ⟨_, rfl, by omega, by omega⟩
          · exact ⟨_, rfl, by omega, by omega⟩
        have ep9 := bt9 _ _ (s9 _ _ (bt8 _ _ (bt7 _ _ ep6 nap.symm) nap.symm)) nap.symm
        have cr9 := (((cr6.but bt7 st6).but bt8 st7).same s9).but bt9 (st8.same s9)
        have btA := (((bt6.trans bt7).trans bt8).trans (But.of s9)).trans bt9
        -- found.append(..)
        refine ⟨_, rfl, .inl ⟨rfl, _, SqL.of ep9⟩, _, rfl, _, rfl, _, rfl, _, rfl, _, rfl, (by show 5 ≤ sizeLine; decide), fun q2 hq2 => ?_⟩
        have s10 := same_upd (o := .lst [V.int 0, V.int 0, V.int 1, V.int 7, V.int 20]) hq2
        have nqa2 : q2 ≠ a := (ne_of_none st9.lt.choose_spec hq2).symm
        refine ⟨a, q2, _, _, rfl, st9.same s10, by omega, upd_same, nqa2, by decide, by decide, fun v H11 hv st11 bt11 => ?_⟩
        obtain ⟨u, rfl, u0⟩ : ∃ u : Int, v = .int u ∧ 0 ≤ u := by
          simp only [List.mem_cons, List.not_mem_nil, or_false] at hv
          rcases hv with rfl | rfl | rfl | rfl | rfl
          all_goals exact ⟨_, rfl, by decide⟩
        have ep11 := bt11 _ _ (s10 _ _ ep9) nap.symm
        have cr11 := (cr9.same s10).but bt11 (st9.same s10)
        refine ⟨_, _, rfl, rfl, (by show 4 ≤ sizeLine; decide), fun t ht => ?_⟩
        have s12 := same_upd (o := .tup [V.int fi, V.int la, V.int g, V.int (g + u)]) ht
        have hlen := pr_length cr11
        have ept := s12 _ _ ep11
        refine ⟨p, ys, _, rfl, rfl, ept, small1000 (by omega), ?_⟩
        have btB := (((btA.trans (But.of s10)).trans bt11).trans (But.of s12))
        refine ⟨fun b' o hb' hne' => ?_, ⟨_, _, _, _, rfl⟩, ys ++ [.ref t], ds ++ [⟨fi, la, g, g + u⟩], upd_same, CRels.updL ept (pr_snoc (cr11.same s12) ⟨t, rfl, upd_same⟩), ?_, by rw [List.length_append, hl]; rfl, ?_⟩
        · rw [upd_ne (ne_of_none hb' hp)]
          exact btB _ _ hb' hne'
        · intro x hx
          rcases List.mem_append.mp hx with hx | hx
          · exact gd x hx
          · have ex : x = ⟨fi, la, g, g + u⟩ := by simpa using hx
            rw [ex]
            exact ⟨f0, l0, l1, g0, g1, by show g ≤ g + u; omega⟩
        · exact Strm.le (strm_upd (st11.same s12) nap) (by omega)
    · rintro σ H2 ⟨bt2, ⟨v5, v6, v7, v8, rfl⟩, ys, ds, ep, cr, gd, hl, st2⟩
      exact ⟨_, rfl, k p ys ds H2 hp ep cr gd (by omega) (st2.le (by omega)) bt2⟩
end
end K4

set_option Elab.async false
set_option linter.all false
set_option maxRecDepth 100000
set_option maxHeartbeats 4000000
/-! A thing as lists and tuples. -/
namespace K5
open PySem PySem.Spec PyProof.Rows L2 KD K1 K2 K3 K4
/-- a comprehension over the list or tuple in a slot -/
theorem lc_seq {K : PySem.W.Frag} {i : Nat} {a : Addr} {xs : List V} {σ : L2.St} {H : Hp} {g : TG} {tt : TT} {te : TE} {vs : List Nat} {Q : VK} (hσ : σ[i]? = some (some (.ref a))) (hS : Sq H a xs) (Pv : Addr → Nat → Hp → Prop)
    (h0 : ∀ D, H D = none → Pv D 0 (upd H D (.lst []))) (hG : ∀ D j H', Pv D j H' → ∀ o, H a = some o → H' a = some o)
    (hs : ∀ D j x H', H D = none → xs[j]? = some x → Pv D j H' → g x (wipe σ vs) H' fun σ2 H2 => wipe σ2 vs = wipe σ vs ∧ tt σ2 H2 fun b H3 =>
      if b = true then te σ2 H3 fun y H4 => ∃ acc, H4 D = some (.lst acc) ∧ acc.length < sizeLine ∧ Pv D (j + 1) (upd H4 D (.lst (acc ++ [y]))) else Pv D (j + 1) H3)
    (hd : ∀ D H', H D = none → Pv D xs.length H' → Q (.ref D) H') :
    tLc (fun σ H R => iList K (tVar i) σ H R ∨ iTup K (tVar i) σ H R) g tt te vs σ H Q := by
  rcases hS with e | e
  · refine .inl ⟨_, hσ, a, rfl, ⟨xs, SqL.of e⟩, fun D hD => lc_it (walk_list (xs := xs)) (Pv D) (h0 D hD) (fun j H' _ p => SqL.of (hG D j H' p _ e)) (fun j x H' H'' hj p y => ?_) (fun H' p => hd D H' hD p)⟩
    obtain ⟨rfl, hx⟩ := y
    exact hs D j x H'' hD hx p
  · refine .inr ⟨_, hσ, a, rfl, ⟨xs, .inl (.inl e)⟩, fun D hD => lc_it (walk_tup (xs := xs)) (Pv D) (h0 D hD) (fun j H' _ p => .inl (.inl (hG D j H' p _ e))) (fun j x H' H'' hj p y => ?_) (fun H' p => hd D H' hD p)⟩
    obtain ⟨rfl, hx⟩ := y
    exact hs D j x H'' hD hx p
theorem lc_seqS {K : PySem.W.Frag} {i : Nat} {a : Addr} {xs : List V} {σ : L2.St} {H : Hp} {g gg : TG} {tt : TT} {te : TE} {vs : List Nat} {u : TS} {E : Ends} (hσ : σ[i]? = some (some (.ref a))) (hS : Sq H a xs) (Pv : Addr → Nat → Hp → Prop)
    (h0 : ∀ D, H D = none → Pv D 0 (upd H D (.lst []))) (hG : ∀ D j H', Pv D j H' → ∀ o, H a = some o → H' a = some o)
    (hs : ∀ D j x H', H D = none → xs[j]? = some x → Pv D j H' → g x (wipe σ vs) H' fun σ2 H2 => wipe σ2 vs = wipe σ vs ∧ tt σ2 H2 fun b H3 =>
      if b = true then te σ2 H3 fun y H4 => ∃ acc, H4 D = some (.lst acc) ∧ acc.length < sizeLine ∧ Pv D (j + 1) (upd H4 D (.lst (acc ++ [y]))) else Pv D (j + 1) H3)
    (hd : ∀ D H', H D = none → Pv D xs.length H' → gg (.ref D) σ H' (u E)) :
    tSeq (tAsg (tLc (fun σ H R => iList K (tVar i) σ H R ∨ iTup K (tVar i) σ H R) g tt te vs) gg) u E σ H :=
  lc_seq (Q := fun x H1 => gg x σ H1 (u E)) hσ hS Pv h0 hG hs hd
/-- what is passed: numbers in lists and tuples -/
inductive D where
  | i (z : Int)
  | s (l : List D)
/-- v is the data d, of depth n; ok holds of all addresses -/
def Rep (ok : Addr → Prop) : Nat → Hp → V → D → Prop
  | 0 => fun _ v d => ∃ z, v = .int z ∧ d = .i z
  | n + 1 => fun H v d => (∃ z, v = .int z ∧ d = .i z) ∨ ∃ (a : Addr) (vs : List V) (ds : List D), v = .ref a ∧ d = .s ds ∧ ok a ∧ Sq H a vs ∧ vs.length ≤ 10 ∧ Paired (Rep ok n H) vs ds
theorem Rep.mono {ok ok' : Addr → Prop} {H H' : Hp} (hk : ∀ b, ok b → ok' b) (hh : ∀ b o, ok b → H b = some o → H' b = some o) : ∀ {n : Nat} {v : V} {d : D}, Rep ok n H v d → Rep ok' n H' v d
  | 0, _, _, h => h
  | n + 1, _, _, h => by
    rcases h with h | ⟨a, vs, ds, e1, e2, k, q, l, p⟩
    · exact .inl h
    · exact .inr ⟨a, vs, ds, e1, e2, hk _ k, q.elim (fun z => .inl (hh _ _ k z)) (fun z => .inr (hh _ _ k z)), l, Paired.mapP p fun v d h => Rep.mono hk hh h⟩
def cost : Nat → Nat
  | 0 => 0
  | n + 1 => 1 + 10 * cost n
section
variable {P : Program} {w : World} {K : PySem.W.Frag} {mg : Str → Option Value} {base : Heap}
/-- depth below n -/
def spAL : Nat → Sp
  | 0 => fun _ _ _ _ => False
  | n + 1 => fun vs H Q _ => ∃ (a : Addr) (v : V) (d : D) (k : Nat), vs = [.ref a, v] ∧ Strm H a k ∧ k + cost n ≤ 900000 ∧ Rep (· ≠ a) n H v d ∧
    ∀ (v' : V) (H' : Hp), Rep (fun b => H b = none) n H' v' d → Strm H' a (k + cost n) → But a H H' → Q v' H'
abbrev NLawAsLists : List Str := ["_law_stream_here", "_law_thing", "_law_found", "_law_part", "_law_key"]
theorem scLawAsLists : FnScope NLawAsLists ["_law_stream_here", "_law_thing"] (defScope sLawAsLists) := ⟨rfl, rfl, rfl, by decide +kernel, rfl, by decide +kernel, by decide +kernel⟩
theorem ok_as_lists0 (T : Txt K mg) (n : Nat) : Has P w K mg base CX0 "_law_as_lists" (n + 2) ["_law_stream_here", "_law_thing"] (spAL 0) := by
  refine Has.mk T 26 (d := dLawAsLists) rfl rfl ⟨rfl, rfl⟩ T.g__law_as_lists scLawAsLists (fun _ _ _ _ _ _ us hl => match us, hl with | [_, _], _ => rfl) (fun vs H Q E h => h.elim) (fun cdv A outer s H vs Q E hr h => (show False from h).elim)
theorem ok_as_lists1 (T : Txt K mg) (h__law_draw : Has P w K mg base CX0 "_law_draw" 1 ["_law_stream_here", "_law_many"] spDraw) (n : Nat)
    (hR : Has P w K mg base CX0 "_law_as_lists" (n + 2) ["_law_stream_here", "_law_thing"] (spAL n)) :
    Has P w K mg base CX0 "_law_as_lists" (n + 3) ["_law_stream_here", "_law_thing"] (spAL (n + 1)) := by
  refine Has.mk T 26 (d := dLawAsLists) rfl rfl ⟨rfl, rfl⟩ T.g__law_as_lists scLawAsLists (fun _ _ _ _ _ _ us hl => match us, hl with | [_, _], _ => rfl) (fun vs H Q E h => ?_) (fun cdv A outer s H vs Q E hr h => ?_)
  · obtain ⟨a, v, d, k, rfl, _⟩ := h
    rfl
  · obtain ⟨a, v, d, k, rfl, hs, hk, hv, q⟩ := h
    refine ⟨_, (pss_cons (ps_if (pt_val (pe_callB call_isi (by rfl) T.f_isinstance (by decide +kernel) (pa_cons (pv 1) (pa_cons (pe_bltn (v := .ty "dict") (by rfl) T.f_dict (by decide +kernel) rfl) pa_nil)))) (pss_one ps_never) pss_nil)
      (pss_cons (ps_if (pt_val (pe_callB call_isiT (by rfl) T.f_isinstance (by decide +kernel) (pa_cons (pv 1) (pa_cons (pe_tup (pa_cons (pe_bltn (v := .ty "list") (by rfl) T.f_list (by decide +kernel) rfl) (pa_cons (pe_bltn (v := .ty "tuple") (by rfl) T.f_tuple (by decide +kernel) rfl) pa_nil))) pa_nil)))) (pss_cons (ps_setLc (i := 2) (own := [("_law_part", 3)]) (g := (gName 3)) (by rfl) scLawAsLists.nd rfl rfl (sw_true rfl rfl rfl (by decide +kernel)) (KR.PI.or (pi_list (pv 1)) (pi_tup (pv 1))) (blkOk_by (own := [("_law_part", 3)]) (N := NLawAsLists) (sc := defScope sLawAsLists) (by decide +kernel)) (fun _ _ _ _ _ => (pg_name (i := 3) scLawAsLists.nd rfl (Or.inl rfl))) (fun _ _ _ _ _ => pts_nil) (fun _ _ _ _ _ => (pe_callH hR hr (by rfl) pass0 (pa_cons (pv 0) (pa_cons (pv 3) pa_nil))))) (pss_one (ps_ret (pe_ifExp (pt_cmpR op_eq (pe_callH h__law_draw (hr.mono (by omega)) (by rfl) pass0 (pa_cons (pv 0) (pa_cons pe_int pa_nil))) pe_int (nomark _)) (pv 2) (pe_callTy call_tuple_of (by rfl) T.f_tuple (by decide +kernel) (pa_cons (pv 2) pa_nil)))))) pss_nil)
      (pss_one (ps_ret (pv 1))))), ?_⟩
    have num : (∃ z, v = V.int z ∧ d = D.i z) → Rep (fun b => H b = none) n H v d := fun h => by
      cases n with
      | zero => exact h
      | succ n => exact .inl h
    have isnum : (∃ z, v = V.int z ∧ d = D.i z) ∨ ∃ (m : Nat) (b : Addr) (vs : List V) (ds : List D), n = m + 1 ∧ v = .ref b ∧ d = .s ds ∧ b ≠ a ∧ Sq H b vs ∧ vs.length ≤ 10 ∧ Paired (Rep (· ≠ a) m H) vs ds := by
      cases n with
      | zero => exact .inl hv
      | succ m =>
        rcases hv with h | ⟨b, vs, ds, h⟩
        · exact .inl h
        · exact .inr ⟨m, b, vs, ds, rfl, h⟩
    rcases isnum with ⟨z, rfl, rfl⟩ | ⟨m, b, xs, ds, rfl, rfl, rfl, hba, hS, hl, hp⟩
    · -- a number
      refine ⟨_, rfl, _, _, _, _, false, rfl, .ty _, .base (.int z), kit_ty (by decide +kernel), _, rfl, iteF ?_⟩
      refine ⟨_, rfl, (by show 2 ≤ sizeLine; decide), fun tp htp => ⟨_, tp, _, _, _, false, rfl, upd_same, pairedTy (K := K) (H := H), .base (.int z), kitIT, _, rfl, iteF ?_⟩⟩
      have s1 : Same H (upd H tp (.tup [V.ty "list", V.ty "tuple"])) := same_upd htp
      exact ⟨_, rfl, q _ _ (Rep.mono (fun _ h => h) (fun b o _ e => s1 b o e) (num ⟨z, rfl, rfl⟩)) ((hs.same s1).le (by omega)) (But.of s1)⟩
    · -- a list or a tuple
      have ty : ∀ H', (∀ o, H b = some o → H' b = some o) → ∃ t, TyX K H' (.ref b) (.type t) ∧ kitB t "dict" = some false ∧ PySem.W.kitAny K (.type t) [Value.type "list", Value.type "tuple"] = some true := fun H' h => by
        rcases hS with e | e
        · exact ⟨"list", .base (.lst (h _ e)), by decide +kernel, kitLT⟩
        · exact ⟨"tuple", .base (.tup (h _ e)), by decide +kernel, kitTT⟩
      obtain ⟨t1, y1, y2, _⟩ := ty H fun _ e => e
      refine ⟨_, rfl, _, _, _, _, false, rfl, .ty _, y1, kit_ty y2, _, rfl, iteF ?_⟩
      refine ⟨_, rfl, (by show 2 ≤ sizeLine; decide), fun tp htp => ?_⟩
      have s1 : Same H (upd H tp (.tup [V.ty "list", V.ty "tuple"])) := same_upd htp
      obtain ⟨t2, z1, _, z2⟩ := ty _ fun o e => s1 b o e
      refine ⟨_, tp, _, _, _, true, rfl, upd_same, pairedTy (K := K) (H := H), z1, z2, _, rfl, iteT ?_⟩
      have hs1 := hs.same s1
      have oa : ∀ b', H b' = none → b' ≠ a := fun b' hb' e => by
        subst e
        obtain ⟨o, eo⟩ := hs.lt
        rw [hb'] at eo
        cases eo
      -- the parts
      refine lc_seqS (i := 1) (xs := xs) rfl (K1.Same.sq s1 hS) (fun Dd j H' => But a H H' ∧ Strm H' a (k + j * cost m) ∧ ∃ acc, H' Dd = some (.lst acc) ∧ Paired (Rep (fun c => H c = none ∧ c ≠ Dd) m H') acc (ds.take j)) ?_ ?_ ?_ ?_
      · intro Dd hD
        have s2 := same_upd (o := .lst []) hD
        refine ⟨But.of (s1.trans s2), by simpa using hs1.same s2, [], upd_same, .nil⟩
      · rintro Dd j H' ⟨bt, _⟩ o e
        rcases hS with e' | e'
        · rw [s1 _ _ e'] at e
          cases e
          exact bt _ _ e' hba
        · rw [s1 _ _ e'] at e
          cases e
          exact bt _ _ e' hba
      · rintro Dd j x H2 hD hx ⟨bt, st, acc, eD, pr⟩
        have hD0 : H Dd = none := s1.free hD
        have nDa := oa _ hD0
        obtain ⟨dj, hdj, rx⟩ := pr_get hp hx
        have hj : j < xs.length := (List.getElem?_eq_some_iff.mp hx).1
        have hcost : j * cost m ≤ 9 * cost m := Nat.mul_le_mul_right _ (by omega)
        have hc1 : cost (m + 1) = 1 + 10 * cost m := rfl
        refine ⟨rfl, _, rfl, _, rfl, a, x, dj, k + j * cost m, rfl, st, by omega, rx.mono (fun _ h => h) (fun c o hc e => bt c o e hc), fun v' H3 rv st3 bt3 => ?_⟩
        have eD3 := bt3 _ _ eD nDa
        have hl2 := pr_length pr
        rw [List.length_take] at hl2
        refine ⟨acc, eD3, small1000 (by omega), fun c o hc hne => ?_, ?_, acc ++ [v'], upd_same, ?_⟩
        · rw [upd_ne (ne_of_none hc hD0)]
          exact bt3 _ _ (bt _ _ hc hne) hne
        · have e9 : k + (j + 1) * cost m = k + j * cost m + cost m := by rw [Nat.add_mul, Nat.one_mul, Nat.add_assoc]
          rw [e9]
          exact strm_upd st3 nDa.symm
        · rw [take_snoc hdj]
          refine pr_snoc (Paired.mapP pr fun v d h => h.mono (fun _ z => z) fun c o hc e => ?_) (rv.mono (fun c hc => ⟨?_, ne_of_none eD hc |>.symm⟩) fun c o hc e => ?_)
          · rw [upd_ne hc.2]
            exact bt3 _ _ e (oa _ hc.1)
          · rw [upd_ne (ne_of_none eD hc).symm]
            exact e
          · exact But.free bt hs hc _ st
      · rintro Dd H2 hD ⟨bt, st, acc, eD, pr⟩
        have hD0 : H Dd = none := s1.free hD
        have nDa := oa _ hD0
        have hcost : xs.length * cost m ≤ 10 * cost m := Nat.mul_le_mul_right _ hl
        have hc1 : cost (m + 1) = 1 + 10 * cost m := rfl
        have hds : ds.take xs.length = ds := List.take_of_length_le (by rw [pr_length hp]; exact Nat.le_refl _)
        rw [hds] at pr
        have hl2 := pr_length pr
        have hl3 := pr_length hp
        refine ⟨_, rfl, a, 2, _, rfl, st, by omega, by decide, by decide, fun dr H3 _ _ st3 bt3 => ⟨rfl, _, rfl, ite2 (fun _ => ?_) (fun _ => ?_)⟩⟩
        · refine ⟨_, rfl, q _ _ (.inr ⟨Dd, acc, ds, rfl, rfl, hD0, .inl (bt3 _ _ eD nDa), by omega, Paired.mapP pr fun v d h => h.mono (fun _ z => z.1) fun c o hc e => bt3 _ _ e (oa _ hc.1)⟩) (st3.le (by omega)) (bt.trans bt3)⟩
        · refine ⟨_, rfl, Dd, _, rfl, .inl ⟨SqL.of (bt3 _ _ eD nDa), fun l hl0 => ?_⟩⟩
          have s4 := same_upd (o := .tup acc) hl0
          have hlH : H l = none := But.free (bt.trans bt3) hs hl0 _ st3
          exact q _ _ (.inr ⟨l, acc, ds, rfl, rfl, hlH, .inr upd_same, by omega, Paired.mapP pr fun v d h => h.mono (fun _ z => z.1) fun c o hc e => s4 _ _ (bt3 _ _ e (oa _ hc.1))⟩) ((st3.same s4).le (by omega)) ((bt.trans bt3).trans (But.of s4))
theorem ok_as_lists (T : Txt K mg) (h__law_draw : Has P w K mg base CX0 "_law_draw" 1 ["_law_stream_here", "_law_many"] spDraw) : ∀ n : Nat, Has P w K mg base CX0 "_law_as_lists" (n + 2) ["_law_stream_here", "_law_thing"] (spAL n)
  | 0 => ok_as_lists0 T 0
  | n + 1 => ok_as_lists1 T h__law_draw n (ok_as_lists T h__law_draw n)
end
end K5

set_option Elab.async false
set_option linter.all false
set_option maxRecDepth 100000
set_option maxHeartbeats 4000000
/-! Tables by pairs of lines; cells told; ways_of. -/
namespace K6
open PySem PySem.Spec PyProof.Rows L2 KD K1 K2 K3 K4 K5
/-! ### tables -/
abbrev Ix := Nat × Nat
def keyT (p : Ix) : List Key := [Sum.inl (p.1 : Int), Sum.inl (p.2 : Int)]
theorem keyT_inj {p q : Ix} (h : keyT p = keyT q) : p = q := by
  obtain ⟨a, b⟩ := p
  obtain ⟨c, d⟩ := q
  unfold keyT at h
  injection h with h1 h2
  injection h2 with h2 _
  injection h1 with h1
  injection h2 with h2
  have e1 : a = c := by omega
  have e2 : b = d := by omega
  rw [e1, e2]
def ent (g : Int → Int → Int) (p : Ix) : List Key × V := (keyT p, .int (g p.1 p.2))
def tabL (g : Int → Int → Int) (l : List Ix) : List (List Key × V) := l.map (ent g)
theorem val_in (g : Int → Int → Int) {p : Ix} : ∀ {l : List Ix}, p ∈ l → valV (tabL g l) (keyT p) = some (.int (g p.1 p.2))
  | q :: r, h => by
    by_cases e : q = p
    · subst e
      exact valV_pos rfl
    · have h' : p ∈ r := by
        rcases List.mem_cons.mp h with z | z
        · exact absurd z.symm e
        · exact z
      exact (valV_neg (p := ent g q) (r := tabL g r) (fun z => e (keyT_inj z))).trans (val_in g h')
theorem val_out (g : Int → Int → Int) {p : Ix} : ∀ {l : List Ix}, p ∉ l → valV (tabL g l) (keyT p) = none
  | [], _ => rfl
  | q :: r, h => by
    have e : ¬ q = p := fun z => h (by rw [z]; exact List.mem_cons_self)
    exact (valV_neg (p := ent g q) (r := tabL g r) (fun z => e (keyT_inj z))).trans (val_out g fun z => h (List.mem_cons_of_mem _ z))
theorem put_new (g : Int → Int → Int) {p : Ix} {l : List Ix} (h : p ∉ l) : putK (tabL g l) (keyT p) (.int (g p.1 p.2)) = tabL g (l ++ [p]) := by
  rw [putK_new _ (val_out g h)]
  unfold tabL
  rw [List.map_append]
  rfl
/-- the pairs of lines ahead of the j-th one from the line s on -/
def prei (m s j : Nat) : List Ix := ((List.range s).flatMap fun r => (List.range (m + 1 - r)).map fun k => (r, r + k)) ++ (List.range j).map fun k => (s, s + k)
theorem mem_prei {m s j : Nat} {p : Ix} : p ∈ prei m s j ↔ (p.1 < s ∧ p.1 ≤ p.2 ∧ p.2 < m + 1) ∨ (p.1 = s ∧ s ≤ p.2 ∧ p.2 < s + j) := by
  obtain ⟨a, b⟩ := p
  unfold prei
  rw [List.mem_append, List.mem_flatMap, List.mem_map]
  constructor
  · rintro (⟨r, hr, h⟩ | ⟨k, hk, h⟩)
    · obtain ⟨k, hk, e⟩ := List.mem_map.mp h
      rw [List.mem_range] at hr hk
      injection e with e1 e2
      subst e1 e2
      exact .inl ⟨hr, Nat.le_add_right _ _, by show r + k < m + 1; omega⟩
    · rw [List.mem_range] at hk
      injection h with e1 e2
      subst e1 e2
      exact .inr ⟨rfl, Nat.le_add_right _ _, by show s + k < s + j; omega⟩
  · rintro (⟨h1, h2, h3⟩ | ⟨h1, h2, h3⟩)
    · exact .inl ⟨a, List.mem_range.mpr h1, List.mem_map.mpr ⟨b - a, List.mem_range.mpr (by simp only at h1 h2 h3; omega), by simp only at h2; rw [Nat.add_sub_cancel' h2]⟩⟩
    · refine .inr ⟨b - s, List.mem_range.mpr (by simp only at h2 h3; omega), ?_⟩
      simp only at h1 h2
      rw [h1, Nat.add_sub_cancel' h2]
theorem prei_snoc (m s j : Nat) : prei m s (j + 1) = prei m s j ++ [(s, s + j)] := by
  unfold prei
  rw [List.range_succ, List.map_append, List.append_assoc]
  rfl
theorem prei_next (m s : Nat) : prei m s (m + 1 - s) = prei m (s + 1) 0 := by
  unfold prei
  rw [List.range_succ, List.flatMap_append]
  simp
theorem prei_len : ∀ (m s j : Nat), (prei m s j).length ≤ s * (m + 1) + j
  | m, 0, j => by simp [prei]
  | m, s + 1, j => by
    have h := prei_len m s (m + 1 - s)
    rw [prei_next] at h
    have e : (prei m (s + 1) j).length = (prei m (s + 1) 0).length + j := by simp [prei]
    rw [e, Nat.add_mul, Nat.one_mul]
    omega
/-- all pairs of lines -/
def alli (m : Nat) : List Ix := prei m (m + 1) 0
theorem mem_alli {m : Nat} {p : Ix} : p ∈ alli m ↔ p.1 ≤ p.2 ∧ p.2 ≤ m := by
  unfold alli
  rw [mem_prei]
  omega
theorem alli_len (m : Nat) (hm : m ≤ 10) : (alli m).length ≤ 200 := by
  have h := prei_len m (m + 1) 0
  have h2 : (m + 1) * (m + 1) ≤ 11 * 11 := Nat.mul_le_mul (by omega) (by omega)
  unfold alli
  omega
/-- a table in the heap -/
def TabAt (H : Hp) (p : Addr) (m : Nat) (g : Int → Int → Int) : Prop := H p = some (.dT (tabL g (alli m)))
/-! ### lists and tuples by values -/
section
variable {K : PySem.W.Frag}
theorem ixsq {H : Hp} {a : Addr} {xs : List V} {i : Int} {v : V} {Q : VK} (hS : Sq H a xs) (h : atI xs i = some v) (k : Q v H) : rIx K (.ref a) (.int i) H Q := by
  rcases hS with e | e
  · exact .inl ⟨a, xs, i, v, rfl, rfl, SqL.of e, h, k⟩
  · exact .inr (.inl ⟨a, xs, i, v, rfl, rfl, .inl (.inl e), h, k⟩)
theorem lensq {H : Hp} {a : Addr} {xs : List V} (hS : Sq H a xs) : SqL K H a xs ∨ SqT K H a xs := hS.elim (fun e => .inl (SqL.of e)) fun e => .inr (.inl (.inl e))
end
section
variable {P : Program} {w : World} {K : PySem.W.Frag} {mg : Str → Option Value} {base : Heap}
/-! ### is_cell -/
def spIsCell : Sp := fun vs H Q _ => ∃ (m B : Int) (a : Addr) (c : Cell), vs = [.int m, .ref a] ∧ Sq H a (cv c) ∧ Good m B c ∧ ∀ H', Same H H' → Q (.bl true) H'
abbrev NPIsCell : List Str := ["many", "thing", "number"]
theorem scPIsCell : FnScope NPIsCell ["many", "thing"] (defScope sPIsCell) := ⟨rfl, rfl, rfl, by decide +kernel, rfl, by decide +kernel, by decide +kernel⟩
theorem ok_is_cell (T : Txt K mg) (h_is_list : Has P w K mg base CX0 "is_list" 1 ["thing"] spIsList) (h_is_natural : Has P w K mg base CX0 "is_natural" 2 ["thing"] spIsNatural) : Has P w K mg base CX0 "is_cell" 3 ["many", "thing"] spIsCell := by
  refine Has.mk T 8 (d := dPIsCell) rfl rfl ⟨rfl, rfl⟩ T.g_is_cell scPIsCell (fun _ _ _ _ _ _ us hl => match us, hl with | [_, _], _ => rfl) (fun vs H Q E h => ?_) (fun cdv A outer s H vs Q E hr h => ?_)
  · obtain ⟨m, B, a, c, rfl, _⟩ := h
    rfl
  · obtain ⟨m, B, a, c, rfl, hS, ⟨g1, g2, g3, g4, g5, g6⟩, k⟩ := h
    refine ⟨_, (pss_cons (ps_if (PW.pt (pw_or (pt_not (pt_val (pe_callH h_is_list (hr.mono (by decide)) (by rfl) pass0 (pa_cons (pv 1) pa_nil)))) (pw_or (pt_cmpR op_ne (pe_callB call_len_seq (by rfl) T.f_len PySem.boot_len (pa_cons (pv 1) pa_nil)) pe_int (nomark _)) (pw_or1 (pt_not (pt_val (pe_callB (cr_all rfl) (by rfl) T.f_all (by decide +kernel) (pa_cons (pe_cut (pe_lc (own := [("number", 2)]) (g := (gName 2)) (by rfl) scPIsCell.nd (KR.PI.or (pi_list (pv 1)) (pi_tup (pv 1))) (blkOk_by (own := [("number", 2)]) (N := NPIsCell) (sc := defScope sPIsCell) (by decide +kernel)) (fun _ _ _ _ _ => (pg_name (i := 2) scPIsCell.nd rfl (Or.inl rfl))) (fun _ _ _ _ _ => pts_nil) (fun _ _ _ _ _ => (pe_callH h_is_natural (hr.mono (by decide)) (by rfl) pass0 (pa_cons (pv 2) pa_nil))))) pa_nil)))))))) (pss_one (ps_ret pe_bl)) pss_nil)
      (pss_one (ps_ret (pe_and (pe_chain op_le op_lt (pe_ix ix_seq (pv 1) pe_int (fun _ _ => rfl)) (pe_ix ix_seq (pv 1) pe_int (fun _ _ => rfl)) (pv 0)) (pe_one (pe_cmpR op_le (pe_ix ix_seq (pv 1) pe_int (fun _ _ => rfl)) (pe_ix ix_seq (pv 1) pe_int (fun _ _ => rfl)) (nomark _))))))), ?_⟩
    refine ⟨_, rfl, a, _, rfl, hS, fun H1 s1 => ⟨true, rfl, iteF ?_⟩⟩
    have hS1 := K1.Same.sq s1 hS
    refine ⟨_, rfl, a, _, rfl, lensq hS1, rfl, _, rfl, iteNS (c := V.int ((cv c).length : Nat) = V.int 4) rfl ?_⟩
    refine ⟨fun v H' => Same H1 H' ∧ ∃ D, v = .ref D ∧ H' D = some (.lst [.bl true, .bl true, .bl true, .bl true]), ?_, ?_⟩
    · refine lc_seq (i := 1) (xs := cv c) rfl hS1 (fun D j H' => Same H1 H' ∧ j ≤ 4 ∧ H' D = some (.lst (List.replicate j (.bl true)))) (fun D hD => ⟨same_upd hD, by decide, upd_same⟩) (fun D j H' h o e => h.1 _ _ e) ?_ ?_
      · rintro D j x H2 hD hx ⟨s2, hj, eD⟩
        have hj4 : j < 4 := (List.getElem?_eq_some_iff.mp hx).1
        obtain ⟨z, rfl, hz⟩ : ∃ z : Int, x = .int z ∧ 0 ≤ z := by
          match j, hx with
          | 0, hx => exact ⟨_, (Option.some.inj hx).symm, g1⟩
          | 1, hx => exact ⟨_, (Option.some.inj hx).symm, by omega⟩
          | 2, hx => exact ⟨_, (Option.some.inj hx).symm, g4⟩
          | 3, hx => exact ⟨_, (Option.some.inj hx).symm, by omega⟩
          | j + 4, hx => simp [cv] at hx
        refine ⟨rfl, _, rfl, z, rfl, hz, fun H3 s3 => ⟨_, s3 _ _ eD, small1000 (by rw [List.length_replicate]; omega), fun b o hb => ?_, by omega, ?_⟩⟩
        · rw [upd_ne (ne_of_none hb hD)]
          exact s3 _ _ (s2 _ _ hb)
        · rw [upd_same, List.replicate_succ']
      · rintro D H2 hD ⟨s2, _, eD⟩
        exact ⟨s2, D, rfl, eD⟩
    · rintro v H2 ⟨s2, D, rfl, eD⟩
      refine ⟨D, [true, true, true, true], rfl, SqL.of eD, true, rfl, iteF ?_⟩
      have s12 := s1.trans s2
      have hS2 := K1.Same.sq s12 hS
      refine ⟨_, rfl, ixsq hS2 (v := .int c.f) rfl ⟨_, rfl, ixsq hS2 (v := .int c.l) rfl ⟨_, _, rfl, rfl, true, ?_, iteT ⟨_, rfl, _, _, rfl, rfl, true, ?_, iteT ⟨_, rfl, ixsq hS2 (v := .int c.n) rfl ⟨_, rfl, ixsq hS2 (v := .int c.w) rfl ⟨_, _, rfl, rfl, ?_⟩⟩⟩⟩⟩⟩⟩
      · show V.bl (decide (c.f ≤ c.l)) = V.bl true
        rw [decide_eq_true g2]
      · show V.bl (decide (c.l < m)) = V.bl true
        rw [decide_eq_true g3]
      · show Q (V.bl (decide (c.n ≤ c.w))) H2
        rw [decide_eq_true g6]
        exact k _ s12
end
end K6

set_option Elab.async false
set_option linter.all false
set_option maxRecDepth 100000
set_option maxHeartbeats 4000000
/-! ways_of. -/
namespace K7
open PySem PySem.Spec PyProof.Rows L2 KD K1 K2 K3 K4 K5 K6
theorem dget {H : Hp} {p t : Addr} {g : Int → Int → Int} {l : List Ix} {x y : Int} (s e : Nat) (hp : H p = some (.dT (tabL g l))) (ht : H t = some (.tup [.int x, .int y])) (hx : x = s) (hy : y = e) (hm : (s, e) ∈ l) :
    DGet H p (.ref t) (some (.int (g s e))) := by
  subst hx hy
  rw [← val_in g hm]
  exact DGet.t hp (k := keyT (s, e)) ht
theorem dput {H : Hp} {p t : Addr} {g : Int → Int → Int} {l : List Ix} {x y v : Int} (s e : Nat) (hp : H p = some (.dT (tabL g l))) (ht : H t = some (.tup [.int x, .int y])) (hx : x = s) (hy : y = e) (hv : v = g s e) (hm : (s, e) ∉ l) (hl : l.length ≤ 1000) :
    DPut H p (.ref t) (.int v) (upd H p (.dT (tabL g (l ++ [(s, e)])))) := by
  subst hx hy hv
  rw [← put_new g hm]
  exact DPut.t hp (k := keyT (s, e)) ht (small1000 (by unfold tabL; rw [List.length_map]; exact hl))
theorem max_eq (i j : Int) : (if j > i then j else i) = max i j := by
  split <;> omega
section
variable {P : Program} {w : World} {K : PySem.W.Frag} {mg : Str → Option Value} {base : Heap}
def spWays : Sp := fun vs H Q _ => ∃ (m : Nat) (B : Int) (c : Addr) (ys : List V) (cs : List Cell), vs = [.int m, .ref c] ∧ 1 ≤ m ∧ m ≤ 10 ∧ H c = some (.lst ys) ∧ CRels H ys cs ∧ (∀ d ∈ cs, Good m B d) ∧
  ∀ (p : Addr) (H' : Hp), Same H H' → H p = none → K6.TabAt H' p m (KM.W cs) → Q (.ref p) H'
def wOut (m : Nat) (c p : Addr) (cs : List Cell) (H : Hp) (i : Nat) (σ : L2.St) (H' : Hp) : Prop :=
  Same H H' ∧ H' p = some (.dT (tabL (KM.W cs) (prei m i 0))) ∧ ∃ v3 v4 v5 v6 v7 v8 v9 : Option V, σ = [some (.int m), some (.ref c), some (.ref p), v3, v4, v5, v6, v7, v8, v9]
def wMid (m : Nat) (c p : Addr) (cs : List Cell) (H : Hp) (i j : Nat) (σ : L2.St) (H' : Hp) : Prop :=
  Same H H' ∧ H' p = some (.dT (tabL (KM.W cs) (prei m i (1 + j)))) ∧ ∃ v4 v5 v6 v7 v8 v9 : Option V, σ = [some (.int m), some (.ref c), some (.ref p), some (.int i), v4, v5, v6, v7, v8, v9]
def wIn (m : Nat) (c p : Addr) (cs : List Cell) (H : Hp) (i j k : Nat) (σ : L2.St) (H' : Hp) : Prop :=
  Same H H' ∧ H' p = some (.dT (tabL (KM.W cs) (prei m i (1 + j)))) ∧ ∃ v6 v7 v8 v9 : Option V,
    σ = [some (.int m), some (.ref c), some (.ref p), some (.int i), some (.int ((i + 1 + j : Nat) : Int)), some (.int (KM.fm (KM.dpP i ((i + 1 + j : Nat) : Int)) (fun d => KM.W cs i d.f + d.n) (KM.W cs i (((i + 1 + j : Nat) : Int) - 1)) (cs.take k))), v6, v7, v8, v9]
abbrev NPWaysOf : List Str := ["many", "cells", "found", "start", "end", "best", "first", "last", "need", "wish"]
theorem scPWaysOf : FnScope NPWaysOf ["many", "cells"] (defScope sPWaysOf) := ⟨rfl, rfl, rfl, by decide +kernel, rfl, by decide +kernel, by decide +kernel⟩
theorem ok_ways_of (T : Txt K mg) : Has P w K mg base CX0 "ways_of" 1 ["many", "cells"] spWays := by
  refine Has.mk T 9 (d := dPWaysOf) rfl rfl ⟨rfl, rfl⟩ T.g_ways_of scPWaysOf (fun _ _ _ _ _ _ us hl => match us, hl with | [_, _], _ => rfl) (fun vs H Q E h => ?_) (fun cdv A outer s H vs Q E hr h => ?_)
  · obtain ⟨m, B, c, ys, cs, rfl, _⟩ := h
    rfl
  · obtain ⟨m, B, c, ys, cs, rfl, hm1, hm2, hc, cr, gd, k⟩ := h
    have ok : KM.Ok cs := good_ok gd
    refine ⟨_, (pss_cons (ps_set (i := 2) scPWaysOf.nd rfl (Or.inl rfl) pe_dnewT)
      (pss_cons (ps_for PassesOwn.never rfl (pi_range1 (by rfl) T.f_range (pa_cons (pe_op op_add (pv 0) pe_int) pa_nil)) (pg_name (i := 3) scPWaysOf.nd rfl (Or.inl rfl)) (pss_cons (ps_dput (hu_of hr) (pv 2) (pe_tup (pa_cons (pv 3) (pa_cons (pv 3) pa_nil))) pe_int rfl) (pss_one (ps_for PassesOwn.never rfl (pi_range2 (by rfl) T.f_range (pa_cons (pe_op op_add (pv 3) pe_int) (pa_cons (pe_op op_add (pv 0) pe_int) pa_nil))) (pg_name (i := 4) scPWaysOf.nd rfl (Or.inl rfl)) (pss_cons (ps_set (i := 5) scPWaysOf.nd rfl (Or.inl rfl) (pe_dget (hu_of hr) (pv 2) (pe_tup (pa_cons (pv 3) (pa_cons (pe_op op_sub (pv 4) pe_int) pa_nil))) (fun _ _ => rfl))) (pss_cons (ps_for PassesOwn.never rfl (pi_list (pv 1)) (pg_tup rfl (pgs_cons (pg_name (i := 6) scPWaysOf.nd rfl (Or.inl rfl)) (pgs_cons (pg_name (i := 7) scPWaysOf.nd rfl (Or.inl rfl)) (pgs_cons (pg_name (i := 8) scPWaysOf.nd rfl (Or.inl rfl)) (pgs_cons (pg_name (i := 9) scPWaysOf.nd rfl (Or.inl rfl)) pgs_nil))))) (pss_one (ps_if (pt_cut (PW.pt (pw_and (pt_cmpR op_eq (pe_op op_add (pv 7) pe_int) (pv 4) (nomark _)) (pw_and1 (pt_cmpR op_ge (pv 6) (pv 3) (nomark _)))))) (pss_one (ps_set (i := 5) scPWaysOf.nd rfl (Or.inl rfl) (pe_callB (call_max2 rfl) (by rfl) T.f_max (by decide +kernel) (pa_cons (pv 5) (pa_cons (pe_op op_add (pe_dget (hu_of hr) (pv 2) (pe_tup (pa_cons (pv 3) (pa_cons (pv 6) pa_nil))) (fun _ _ => rfl)) (pv 8)) pa_nil))))) pss_nil))) (pss_one (ps_dput (hu_of hr) (pv 2) (pe_tup (pa_cons (pv 3) (pa_cons (pv 4) pa_nil))) (pv 5) rfl))))))))
      (pss_one (ps_ret (pv 2))))), ?_⟩
    intro p hp
    have len200 : ∀ i j, i ≤ m → j ≤ m + 1 → (prei m i j).length ≤ 1000 := fun i j h1 h2 => by
      have h := prei_len m i j
      have h3 : i * (m + 1) ≤ 10 * 11 := Nat.mul_le_mul (by omega) (by omega)
      omega
    have npc : p ≠ c := (ne_of_none hc hp).symm
    have keep : ∀ {H1 : Hp} {o : HO}, Same H H1 → Same H (upd H1 p o) := fun {H1 o} s b x e => by
      rw [upd_ne (ne_of_none e hp)]
      exact s _ _ e
    refine ⟨_, rfl, _, _, rfl, rfl, _, rfl, by omega, by omega, for_range (lo := 0) (n := ((m : Int) + 1).toNat) (wOut m c p cs H) ⟨same_upd hp, upd_same, _, _, _, _, _, _, _, rfl⟩ ?_ ?_⟩
    · rintro i σ H1 hi ⟨s1, e1, v3, v4, v5, v6, v7, v8, v9, rfl⟩
      have hi' : i ≤ m := by omega
      have e0 : (0 : Int) + (i : Int) = (i : Int) := Int.zero_add _
      rw [e0]
      -- found[start, start] = 0
      refine ⟨_, rfl, _, rfl, _, rfl, (by show 2 ≤ sizeLine; decide), fun t ht => ?_⟩
      have npt : p ≠ t := ne_of_none e1 ht
      refine ⟨p, _, rfl, dput i i (by rw [upd_ne npt]; exact e1) upd_same rfl rfl (KM.W_none ok (Int.le_refl _)).symm (by rw [mem_prei]; omega) (len200 _ _ hi' (by omega)), ?_⟩
      have s2 := keep (o := .dT (tabL (KM.W cs) (prei m i 0 ++ [(i, i)]))) (s1.trans (same_upd (o := .tup [.int (i : Int), .int (i : Int)]) ht))
      -- for end in range(start + 1, many + 1)
      refine ⟨_, rfl, _, _, rfl, rfl, _, rfl, _, _, rfl, rfl, _, _, rfl, ⟨by omega, by omega, by omega, by omega⟩, for_range (lo := (i : Int) + 1) (n := ((m : Int) + 1 - ((i : Int) + 1)).toNat) (wMid m c p cs H i) ⟨s2, ?_, _, _, _, _, _, _, rfl⟩ ?_ ?_⟩
      · rw [upd_same]
        exact congrArg (fun l => some (HO.dT (tabL (KM.W cs) l))) (prei_snoc m i 0).symm
      · rintro j σ H2 hj ⟨s3, e3, v4, v5, v6, v7, v8, v9, rfl⟩
        have hj' : i + 1 + j ≤ m := by omega
        have e4 : (i : Int) + 1 + (j : Int) = ((i + 1 + j : Nat) : Int) := by omega
        rw [e4]
        -- best = found[start, end - 1]
        refine ⟨_, rfl, _, rfl, _, rfl, _, _, rfl, rfl, (by show 2 ≤ sizeLine; decide), fun t ht => ?_⟩
        have npt : p ≠ t := ne_of_none e3 ht
        refine ⟨p, _, rfl, dget i (i + j) (by rw [upd_ne npt]; exact e3) upd_same rfl (by omega) (by rw [mem_prei]; exact .inr ⟨rfl, by show i ≤ i + j; omega, by show i + j < i + (1 + j); omega⟩), ?_⟩
        have s4 := s3.trans (same_upd (o := .tup [.int (i : Int), .int (((i + 1 + j : Nat) : Int) - 1)]) ht)
        refine ⟨_, rfl, c, rfl, ⟨_, SqL.of (s4 _ _ hc)⟩, for_list (K := K) (a := c) (xs := ys) (wIn m c p cs H i j) ⟨s4, by rw [upd_ne npt]; exact e3, v6, v7, v8, v9, ?_⟩ (fun k σ H' _ h => SqL.of (h.1 _ _ hc)) ?_ ?_⟩
        · have e5 : ((i + j : Nat) : Int) = ((i + 1 + j : Nat) : Int) - 1 := by omega
          rw [List.take_zero, KM.fm_nil, e5]
          rfl
        · rintro k x σ H3 hx ⟨s5, e5, v6, v7, v8, v9, rfl⟩
          obtain ⟨d, hd, t2, rfl, et2⟩ := pr_get cr hx
          have gdd := gd d (List.mem_of_getElem? hd)
          obtain ⟨g1, g2, g3, g4, g5, g6⟩ := gdd
          refine ⟨t2, _, rfl, .inl (.inl (s5 _ _ et2)), rfl, _, _, rfl, _, _, rfl, _, _, rfl, _, _, rfl, rfl, ?_⟩
          refine ⟨fun b H' => H' = H3 ∧ b = KM.dpP i ((i + 1 + j : Nat) : Int) d, ?_, ?_⟩
          · refine ⟨_, rfl, _, _, rfl, rfl, _, rfl, rfl, _, rfl, ite2 (fun c1 => ?_) (fun c1 => ?_)⟩
            · have q1 : d.l + 1 = ((i + 1 + j : Nat) : Int) := V.int.inj (of_decide_eq_true c1)
              refine ⟨_, rfl, _, rfl, _, _, rfl, rfl, _, rfl, rfl, ?_⟩
              unfold KM.dpP
              rw [decide_eq_true q1]
              rfl
            · refine ⟨rfl, ?_⟩
              have q1 : ¬ d.l + 1 = ((i + 1 + j : Nat) : Int) := fun z => c1 (decide_eq_true (congrArg V.int z))
              unfold KM.dpP
              rw [decide_eq_false q1]
              rfl
          · rintro b H4 ⟨rfl, rfl⟩
            have etk : cs.take (k + 1) = cs.take k ++ [d] := take_snoc hd
            refine ite2 (fun c1 => ?_) (fun c1 => ?_)
            · obtain ⟨q1, q2⟩ := KM.dpP_iff.mp c1
              -- best = max(best, found[start, first] + need)
              refine ⟨_, rfl, _, rfl, _, rfl, _, rfl, (by show 2 ≤ sizeLine; decide), fun t3 ht3 => ?_⟩
              have npt3 : p ≠ t3 := ne_of_none e5 ht3
              refine ⟨p, _, rfl, dget i d.f.toNat (by rw [upd_ne npt3]; exact e5) upd_same rfl (by omega) (by rw [mem_prei]; exact .inr ⟨rfl, by show i ≤ d.f.toNat; omega, by show d.f.toNat < i + (1 + j); omega⟩), _, rfl, _, _, rfl, rfl, _, _, rfl, ?_⟩
              refine ⟨s5.trans (same_upd ht3), by rw [upd_ne npt3]; exact e5, some (.int d.f), some (.int d.l), some (.int d.n), some (.int d.w), ?_⟩
              rw [max_eq, etk, KM.fm_snoc, if_pos c1, show ((d.f.toNat : Nat) : Int) = d.f by omega]
              rfl
            · refine ⟨s5, e5, some (.int d.f), some (.int d.l), some (.int d.n), some (.int d.w), ?_⟩
              rw [etk, KM.fm_snoc, if_neg c1]
              rfl
        · rintro σ H3 ⟨s5, e5, v6, v7, v8, v9, rfl⟩
          -- found[start, end] = best
          have eall : cs.take ys.length = cs := List.take_of_length_le (by rw [pr_length cr]; exact Nat.le_refl _)
          rw [eall, KM.dp_fold ok]
          refine ⟨_, rfl, _, rfl, _, rfl, _, rfl, (by show 2 ≤ sizeLine; decide), fun t3 ht3 => ?_⟩
          have npt3 : p ≠ t3 := ne_of_none e5 ht3
          refine ⟨p, _, rfl, dput i (i + 1 + j) (by rw [upd_ne npt3]; exact e5) upd_same rfl rfl rfl (by rw [mem_prei]; rintro (⟨h, _⟩ | ⟨_, _, h⟩) <;> simp only at h <;> omega) (len200 _ _ hi' (by omega)), ?_⟩
          refine ⟨keep (s5.trans (same_upd ht3)), ?_, _, _, _, _, _, _, rfl⟩
          rw [upd_same]
          have h := prei_snoc m i (1 + j)
          rw [show i + (1 + j) = i + 1 + j by omega, show 1 + j + 1 = 1 + (j + 1) by omega] at h
          rw [h]
      · rintro σ H2 ⟨s3, e3, v4, v5, v6, v7, v8, v9, rfl⟩
        refine ⟨s3, ?_, _, _, _, _, _, _, _, rfl⟩
        rw [e3, show 1 + ((m : Int) + 1 - ((i : Int) + 1)).toNat = m + 1 - i by omega, prei_next]
    · rintro σ H1 ⟨s1, e1, v3, v4, v5, v6, v7, v8, v9, rfl⟩
      refine ⟨_, rfl, k p H1 s1 hp ?_⟩
      unfold K6.TabAt alli
      rw [e1, show ((m : Int) + 1).toNat = m + 1 by omega]
end
end K7

set_option Elab.async false
set_option linter.all false
set_option maxRecDepth 100000
set_option maxHeartbeats 4000000
/-! Columns: what stands there, and its small methods. -/
namespace K8
open PySem PySem.Spec PyProof.Rows L2 KD K1 K2 K3 K4 K5 K6 K7
/-- the attributes that are read, by name -/
structure ColF (fs : List (Str × V)) (m : Nat) (lc lw : Addr) : Prop where
  many : fs.lookup ("own_many" : Str) = some (.int m)
  cells : fs.lookup ("own_cells" : Str) = some (.ref lc)
  ways : fs.lookup ("own_ways" : Str) = some (.ref lw)
  m1 : fs.lookup ("middle_of" : Str) = none
  m2 : fs.lookup ("greatest_of_column" : Str) = none
  m3 : fs.lookup ("how_many" : Str) = none
  m4 : fs.lookup ("least_width" : Str) = none
  m5 : fs.lookup ("earliest_with" : Str) = none
  m6 : fs.lookup ("needless_cells" : Str) = none
/-- Columns of m columns and the cells cs at x -/
def Col (K : PySem.W.Frag) (H : Hp) (x : Addr) (m : Nat) (cs : List Cell) : Prop :=
  ∃ (dx : Addr) (fs : List (Str × V)) (lc lw : Addr) (ys : List V), H x = some (.ins (CC K) dx fs) ∧ ColF fs m lc lw ∧ H lc = some (.lst ys) ∧ CRels H ys cs ∧ K6.TabAt H lw m (KM.W cs)
theorem Col.same {K : PySem.W.Frag} {H H' : Hp} {x : Addr} {m : Nat} {cs : List Cell} (s : Same H H') (h : Col K H x m cs) : Col K H' x m cs := by
  obtain ⟨dx, fs, lc, lw, ys, h1, h2, h3, h4, h5⟩ := h
  exact ⟨dx, fs, lc, lw, ys, s _ _ h1, h2, s _ _ h3, h4.same s, s _ _ h5⟩
section
variable {P : Program} {w : World} {K : PySem.W.Frag} {mg : Str → Option Value} {base : Heap}
/-! ### least_width, how_many -/
def spLeast (K : PySem.W.Frag) : Sp := fun vs H Q _ => ∃ (x : Addr) (m : Nat) (cs : List Cell), vs = [.ref x] ∧ Col K H x m cs ∧ ∀ H', Same H H' → Q (.int (KM.W cs 0 m)) H'
abbrev NPColumnsLeastWidth : List Str := ["self"]
theorem scPColumnsLeastWidth : FnScope NPColumnsLeastWidth ["self"] (defScope sPColumnsLeastWidth) := ⟨rfl, rfl, rfl, by decide +kernel, rfl, by decide +kernel, by decide +kernel⟩
theorem ok_least_width (T : Txt K mg) : HasM P w K mg base CX0 "least_width" 1 ["self"] (spLeast K) := by
  refine HasM.mk T 14 (d := dPColumnsLeastWidth) rfl rfl ⟨rfl, rfl⟩ T.m_least_width scPColumnsLeastWidth (fun _ _ _ _ _ _ us hl => match us, hl with | [_], _ => rfl) (fun vs H Q E h => ?_) (fun cdv A outer s H vs Q E hr h => ?_)
  · obtain ⟨x, m, cs, rfl, _⟩ := h
    rfl
  · obtain ⟨x, m, cs, rfl, ⟨dx, fs, lc, lw, ys, h1, F, h3, h4, h5⟩, k⟩ := h
    refine ⟨_, (pss_one (ps_ret (pe_dget (hu_of hr) (pe_fld (pv 0) rfl) (pe_tup (pa_cons pe_int (pa_cons (pe_fld (pv 0) rfl) pa_nil))) (fun _ _ => rfl)))), ?_⟩
    refine ⟨_, rfl, x, _, dx, fs, _, rfl, h1, T.cls, T.n_own_ways, F.ways, _, rfl, x, _, dx, fs, _, rfl, h1, T.cls, T.n_own_many, F.many, (by show 2 ≤ sizeLine; decide), fun t ht => ?_⟩
    have s1 := same_upd (o := .tup [.int 0, .int (m : Int)]) ht
    exact ⟨lw, _, rfl, dget 0 m (s1 _ _ h5) upd_same rfl rfl (mem_alli.mpr ⟨Nat.zero_le _, Nat.le_refl _⟩), k _ s1⟩
def spMany (K : PySem.W.Frag) : Sp := fun vs H Q _ => ∃ (x : Addr) (m : Nat) (cs : List Cell), vs = [.ref x] ∧ Col K H x m cs ∧ ∀ H', Same H H' → Q (.int m) H'
abbrev NPColumnsHowMany : List Str := ["self"]
theorem scPColumnsHowMany : FnScope NPColumnsHowMany ["self"] (defScope sPColumnsHowMany) := ⟨rfl, rfl, rfl, by decide +kernel, rfl, by decide +kernel, by decide +kernel⟩
theorem ok_how_many (T : Txt K mg) : HasM P w K mg base CX0 "how_many" 1 ["self"] (spMany K) := by
  refine HasM.mk T 13 (d := dPColumnsHowMany) rfl rfl ⟨rfl, rfl⟩ T.m_how_many scPColumnsHowMany (fun _ _ _ _ _ _ us hl => match us, hl with | [_], _ => rfl) (fun vs H Q E h => ?_) (fun cdv A outer s H vs Q E hr h => ?_)
  · obtain ⟨x, m, cs, rfl, _⟩ := h
    rfl
  · obtain ⟨x, m, cs, rfl, ⟨dx, fs, lc, lw, ys, h1, F, h3, h4, h5⟩, k⟩ := h
    refine ⟨_, (pss_one (ps_ret (pe_fld (pv 0) rfl))), ?_⟩
    exact ⟨_, rfl, x, _, dx, fs, _, rfl, h1, T.cls, T.n_own_many, F.many, k _ (Same.refl H)⟩
/-! ### middle_of -/
def spMiddle (K : PySem.W.Frag) : Sp := fun vs H Q _ => ∃ (x : Addr) (m : Nat) (cs : List Cell) (i : Nat), vs = [.ref x, .int i] ∧ Col K H x m cs ∧ i ≤ m ∧
  ∀ (p : Addr) (n d : Int) (H' : Hp), Same H H' → H p = none → H' p = some (.tup [.int n, .int d]) → 0 < d → d ≤ 2 → Q (.ref p) H'
abbrev NPColumnsMiddleOf : List Str := ["self", "line"]
theorem scPColumnsMiddleOf : FnScope NPColumnsMiddleOf ["self", "line"] (defScope sPColumnsMiddleOf) := ⟨rfl, rfl, rfl, by decide +kernel, rfl, by decide +kernel, by decide +kernel⟩
theorem ok_middle_of (T : Txt K mg) (h_times : Has P w K mg base CX0 "times" 2 ["one", "two"] (spTimes K)) (hM_least_width : HasM P w K mg base CX0 "least_width" 1 ["self"] (spLeast K)) :
    HasM P w K mg base CX0 "middle_of" 3 ["self", "line"] (spMiddle K) := by
  refine HasM.mk T 11 (d := dPColumnsMiddleOf) rfl rfl ⟨rfl, rfl⟩ T.m_middle_of scPColumnsMiddleOf (fun _ _ _ _ _ _ us hl => match us, hl with | [_, _], _ => rfl) (fun vs H Q E h => ?_) (fun cdv A outer s H vs Q E hr h => ?_)
  · obtain ⟨x, m, cs, i, rfl, _⟩ := h
    rfl
  · obtain ⟨x, m, cs, i, rfl, hC, him, k⟩ := h
    obtain ⟨dx, fs, lc, lw, ys, h1, F, h3, h4, h5⟩ := id hC
    refine ⟨_, (pss_one (ps_ret (pe_callH h_times (hr.mono (by decide)) (by rfl) pass0 (pa_cons (pe_tup (pa_cons (pe_op op_sub (pe_op op_add (pe_dget (hu_of hr) (pe_fld (pv 0) rfl) (pe_tup (pa_cons pe_int (pa_cons (pv 1) pa_nil))) (fun _ _ => rfl)) (pe_meth0H hM_least_width T (hr.mono (by decide)) pass0 (pv 0))) (pe_dget (hu_of hr) (pe_fld (pv 0) rfl) (pe_tup (pa_cons (pv 1) (pa_cons (pe_fld (pv 0) rfl) pa_nil))) (fun _ _ => rfl))) (pa_cons pe_int pa_nil))) (pa_cons (pe_glob (v := .ref _) (by rfl) T.g_HALF rfl) pa_nil))))), ?_⟩
    refine ⟨_, rfl, x, _, dx, fs, _, rfl, h1, T.cls, T.n_own_ways, F.ways, _, rfl, (by show 2 ≤ sizeLine; decide), fun t ht => ?_⟩
    have s1 := same_upd (o := .tup [.int 0, .int (i : Int)]) ht
    refine ⟨lw, _, rfl, dget 0 i (s1 _ _ h5) upd_same rfl rfl (mem_alli.mpr ⟨Nat.zero_le _, him⟩), _, rfl, x, dx, fs, rfl, s1 _ _ h1, F.m4, x, m, cs, rfl, hC.same s1, fun H2 s2 => ?_⟩
    have s12 := s1.trans s2
    refine ⟨_, _, rfl, rfl, _, rfl, x, _, dx, fs, _, rfl, s12 _ _ h1, T.cls, T.n_own_ways, F.ways, _, rfl, _, rfl, x, _, dx, fs, _, rfl, s12 _ _ h1, T.cls, T.n_own_many, F.many, (by show 2 ≤ sizeLine; decide), fun t2 ht2 => ?_⟩
    have s3 := same_upd (o := .tup [.int (i : Int), .int (m : Int)]) ht2
    have s123 := s12.trans s3
    refine ⟨lw, _, rfl, dget i m (s123 _ _ h5) upd_same rfl rfl (mem_alli.mpr ⟨him, Nat.le_refl _⟩), _, _, rfl, rfl, (by show 2 ≤ sizeLine; decide), fun t3 ht3 => ?_⟩
    have s4 := same_upd (o := .tup [.int (KM.W cs 0 i + KM.W cs 0 m - KM.W cs i m), .int 1]) ht3
    exact ⟨t3, _, _, 1, rfl, .inl (.inl upd_same), T.half _, rfl, fun p n d H' s5 np hp h0 hle => k p n d H' ((s123.trans s4).trans s5) ((s123.trans s4).free np) hp h0 hle⟩
/-! ### greatest_of_column -/
/-- a fraction of a small bottom -/
def Fr4 (H : Hp) (v : V) : Prop := ∃ (t : Addr) (n d : Int), v = .ref t ∧ H t = some (.tup [.int n, .int d]) ∧ 0 < d ∧ d ≤ 4
def spGreatest (K : PySem.W.Frag) : Sp := fun vs H Q _ => ∃ (x : Addr) (m : Nat) (cs : List Cell) (i : Nat) (dx : Addr) (fs : List (Str × V)) (lc ll : Addr) (ys ls : List V), vs = [.ref x, .int i] ∧ H x = some (.ins (CC K) dx fs) ∧ fs.lookup ("own_cells" : Str) = some (.ref lc) ∧
  fs.lookup ("own_leasts" : Str) = some (.ref ll) ∧ H lc = some (.lst ys) ∧ CRels H ys cs ∧ H ll = some (.lst ls) ∧ i < ls.length ∧ (∀ v ∈ ls, Fr4 H v) ∧ ∀ (v : V) (H' : Hp), Same H H' → Q v H'
abbrev NPColumnsGreatestOfColumn : List Str := ["self", "index", "found", "first", "last", "need", "wish"]
theorem scPColumnsGreatestOfColumn : FnScope NPColumnsGreatestOfColumn ["self", "index"] (defScope sPColumnsGreatestOfColumn) := ⟨rfl, rfl, rfl, by decide +kernel, rfl, by decide +kernel, by decide +kernel⟩
theorem ok_greatest_of_column (T : Txt K mg) (h_is_less : Has P w K mg base CX0 "is_less" 1 ["one", "two"] (spIsLess K)) : HasM P w K mg base CX0 "greatest_of_column" 2 ["self", "index"] (spGreatest K) := by
  refine HasM.mk T 12 (d := dPColumnsGreatestOfColumn) rfl rfl ⟨rfl, rfl⟩ T.m_greatest_of_column scPColumnsGreatestOfColumn (fun _ _ _ _ _ _ us hl => match us, hl with | [_, _], _ => rfl) (fun vs H Q E h => ?_) (fun cdv A outer s H vs Q E hr h => ?_)
  · obtain ⟨x, m, cs, i, dx, fs, lc, ll, ys, ls, rfl, _⟩ := h
    rfl
  · obtain ⟨x, m, cs, i, dx, fs, lc, ll, ys, ls, rfl, h1, fc, fl, hc, cr, hl, hi, hfr, k⟩ := h
    refine ⟨_, (pss_cons (ps_set (i := 2) scPColumnsGreatestOfColumn.nd rfl (Or.inl rfl) (pe_ix ix_list (pe_fld (pv 0) rfl) (pv 1) (fun _ _ => rfl)))
      (pss_cons (ps_for PassesOwn.never rfl (pi_list (pe_fld (pv 0) rfl)) (pg_tup rfl (pgs_cons (pg_name (i := 3) scPColumnsGreatestOfColumn.nd rfl (Or.inl rfl)) (pgs_cons (pg_name (i := 4) scPColumnsGreatestOfColumn.nd rfl (Or.inl rfl)) (pgs_cons (pg_name (i := 5) scPColumnsGreatestOfColumn.nd rfl (Or.inl rfl)) (pgs_cons (pg_name (i := 6) scPColumnsGreatestOfColumn.nd rfl (Or.inl rfl)) pgs_nil))))) (pss_one (ps_if (pt_cut (PW.pt (pw_and (pt_cmpR op_eq (pv 3) (pv 1) (nomark _)) (pw_and (pt_cmpR op_eq (pv 4) (pv 1) (nomark _)) (pw_and1 (pt_val (pe_callH h_is_less (hr.mono (by decide)) (by rfl) pass0 (pa_cons (pv 2) (pa_cons (pe_tup (pa_cons (pv 6) (pa_cons pe_int pa_nil))) pa_nil))))))))) (pss_one (ps_set (i := 2) scPColumnsGreatestOfColumn.nd rfl (Or.inl rfl) (pe_tup (pa_cons (pv 6) (pa_cons pe_int pa_nil))))) pss_nil)))
      (pss_one (ps_ret (pv 2))))), ?_⟩
    have hv : ls[i]? = some ls[i] := List.getElem?_eq_getElem hi
    refine ⟨_, rfl, x, _, dx, fs, _, rfl, h1, T.cls, T.n_own_leasts, fl, _, rfl, ll, ls, _, ls[i], rfl, rfl, SqL.of hl, atI_nat hv, ?_⟩
    refine ⟨_, rfl, x, _, dx, fs, _, rfl, h1, T.cls, T.n_own_cells, fc, lc, rfl, ⟨_, SqL.of hc⟩, for_list (K := K) (a := lc) (xs := ys) (fun _ σ H' => Same H H' ∧ ∃ (v : V) (v3 v4 v5 v6 : Option V), σ = [some (.ref x), some (.int i), some v, v3, v4, v5, v6] ∧ Fr4 H' v)
      ⟨Same.refl H, _, _, _, _, _, rfl, hfr _ (List.getElem_mem hi)⟩ (fun _ σ H' _ h => SqL.of (h.1 _ _ hc)) ?_ ?_⟩
    · rintro j y σ H1 hy ⟨s1, v, v3, v4, v5, v6, rfl, tv, nv, dv, rfl, hv1, hv2, hv3⟩
      obtain ⟨c, hcj, t2, rfl, et2⟩ := pr_get cr hy
      refine ⟨t2, _, rfl, .inl (.inl (s1 _ _ et2)), rfl, _, _, rfl, _, _, rfl, _, _, rfl, _, _, rfl, rfl, ?_⟩
      refine ⟨fun b H' => Same H1 H', ?_, ?_⟩
      · refine ⟨_, rfl, _, rfl, rfl, _, rfl, ite2 (fun _ => ?_) (fun _ => Same.refl H1)⟩
        refine ⟨_, rfl, _, rfl, rfl, _, rfl, ite2 (fun _ => ?_) (fun _ => Same.refl H1)⟩
        refine ⟨_, rfl, _, rfl, (by show 2 ≤ sizeLine; decide), fun t3 ht3 => ?_⟩
        have s2 := same_upd (o := .tup [.int c.w, .int 1]) ht3
        exact ⟨tv, t3, _, _, _, _, rfl, .inl (.inl (s2 _ _ hv1)), .inl (.inl upd_same), ⟨hv2, hv3⟩, ⟨by decide, by decide⟩, fun H3 s3 => ⟨_, rfl, s2.trans s3⟩⟩
      · rintro b H2 s2
        refine ite2 (fun _ => ?_) (fun _ => ?_)
        · refine ⟨_, rfl, (by show 2 ≤ sizeLine; decide), fun t3 ht3 => ?_⟩
          have s3 := same_upd (o := .tup [.int c.w, .int 1]) ht3
          exact ⟨(s1.trans s2).trans s3, _, _, _, _, _, rfl, t3, _, 1, rfl, upd_same, by decide, by decide⟩
        · exact ⟨s1.trans s2, _, _, _, _, _, rfl, tv, nv, dv, rfl, s2 _ _ hv1, hv2, hv3⟩
    · rintro σ H1 ⟨s1, v, v3, v4, v5, v6, rfl, _⟩
      exact ⟨_, rfl, k _ _ s1⟩
end
end K8

set_option Elab.async false
set_option linter.all false
set_option maxRecDepth 100000
set_option maxHeartbeats 4000000
/-! Columns: the longer methods. -/
namespace K9
open PySem PySem.Spec PyProof.Rows L2 KD K1 K2 K3 K4 K5 K6 K7 K8
theorem cut_last (xs : List V) : cutV xs none (some (-1)) = xs.dropLast := by
  unfold cutV
  rw [HT.sIx_none]
  have e : HT.sIx xs.length xs.length (some (-1)) = xs.length - 1 := by
    unfold HT.sIx
    simp
    omega
  rw [e, List.drop_zero, Nat.sub_zero, List.dropLast_eq_take]
theorem cut_take (xs : List V) (k : Nat) : cutV xs none (some (k : Int)) = xs.take k := by
  unfold cutV
  rw [HT.sIx_none, HT.sIx_nat, List.drop_zero, Nat.sub_zero]
  by_cases h : k ≤ xs.length
  · rw [Nat.min_eq_left h]
  · rw [Nat.min_eq_right (by omega), List.take_length, List.take_of_length_le (by omega)]
theorem cut_drop (xs : List V) (k : Nat) : cutV xs (some (k : Int)) none = xs.drop k := by
  unfold cutV
  rw [HT.sIx_none, HT.sIx_nat]
  by_cases h : k ≤ xs.length
  · rw [Nat.min_eq_left h]
    exact List.take_of_length_le (by rw [List.length_drop]; exact Nat.le_refl _)
  · rw [Nat.min_eq_right (by omega), List.drop_length, List.drop_eq_nil_of_le (by omega)]
    simp
/-- a whole number as a fraction -/
def FRel (H : Hp) (v : V) (z : Int) : Prop := ∃ t, v = .ref t ∧ H t = some (.tup [.int z, .int 1])
abbrev FRels (H : Hp) (vs : List V) (zs : List Int) : Prop := Paired (FRel H) vs zs
theorem FRels.same {H H' : Hp} {vs : List V} {zs : List Int} (h : FRels H vs zs) (x : Same H H') : FRels H' vs zs := Paired.mapP h fun v c ⟨t, e, q⟩ => ⟨t, e, x t _ q⟩
theorem FRels.updL {H : Hp} {l : Addr} {xs : List V} {o : HO} {vs : List V} {zs : List Int} (e : H l = some (.lst xs)) (h : FRels H vs zs) : FRels (upd H l o) vs zs :=
  Paired.mapP h fun v c ⟨t, e1, q⟩ => ⟨t, e1, by rw [upd_ne (ne_of q e (by intro z; cases z))]; exact q⟩
/-- the least place of the line i, the line l standing at pl -/
def earl (cs : List Cell) (l : Nat) (pl : Int) (i : Nat) : Int := if l ≤ i then max (KM.W cs 0 i) (pl + KM.W cs l i) else KM.W cs 0 i
/-- the placing -/
def early (cs : List Cell) (m l : Nat) (pl wd : Int) : List Int := (List.range m).map (earl cs l pl) ++ [wd]
/-- a placing in the heap -/
def PlAt (H : Hp) (p : Addr) (zs : List Int) : Prop := ∃ vs, H p = some (.lst vs) ∧ FRels H vs zs
theorem PlAt.same {H H' : Hp} {p : Addr} {zs : List Int} (s : Same H H') (h : PlAt H p zs) : PlAt H' p zs := by
  obtain ⟨vs, e, f⟩ := h
  exact ⟨vs, s _ _ e, f.same s⟩
section
variable {P : Program} {w : World} {K : PySem.W.Frag} {mg : Str → Option Value} {base : Heap}
def spEarly (K : PySem.W.Frag) : Sp := fun vs H Q _ => ∃ (x : Addr) (m : Nat) (cs : List Cell) (l : Nat) (pa ra : Addr) (pl wd : Int), vs = [.ref x, .int l, .ref pa, .ref ra] ∧ Col K H x m cs ∧ l ≤ m ∧ m ≤ 10 ∧ SqT K H pa [.int pl, .int 1] ∧ H ra = some (.tup [.int wd, .int 1]) ∧
  ∀ (p : Addr) (H' : Hp), Same H H' → H p = none → PlAt H' p (early cs m l pl wd) → Q (.ref p) H'
abbrev NPColumnsEarliestWith : List Str := ["self", "line", "place", "room", "found", "index", "least", "far"]
theorem scPColumnsEarliestWith : FnScope NPColumnsEarliestWith ["self", "line", "place", "room"] (defScope sPColumnsEarliestWith) := ⟨rfl, rfl, rfl, by decide +kernel, rfl, by decide +kernel, by decide +kernel⟩
theorem ok_earliest_with (T : Txt K mg) (h_plus : Has P w K mg base CX0 "plus" 2 ["one", "two"] (spPlus K)) (h_is_less : Has P w K mg base CX0 "is_less" 1 ["one", "two"] (spIsLess K)) :
    HasM P w K mg base CX0 "earliest_with" 3 ["self", "line", "place", "room"] (spEarly K) := by
  refine HasM.mk T 15 (d := dPColumnsEarliestWith) rfl rfl ⟨rfl, rfl⟩ T.m_earliest_with scPColumnsEarliestWith (fun _ _ _ _ _ _ us hl => match us, hl with | [_, _, _, _], _ => rfl) (fun vs H Q E h => ?_) (fun cdv A outer s H vs Q E hr h => ?_)
  · obtain ⟨x, m, cs, l, pa, ra, pl, wd, rfl, _⟩ := h
    rfl
  · obtain ⟨x, m, cs, l, pa, ra, pl, wd, rfl, hC, hl, hm, hp, hra, k⟩ := h
    obtain ⟨dx, fs, lc, lw, ys, h1, F, h3, h4, h5⟩ := id hC
    refine ⟨_, (pss_cons (ps_set (i := 4) scPColumnsEarliestWith.nd rfl (Or.inl rfl) (pe_lst pa_nil))
      (pss_cons (ps_for PassesOwn.never rfl (pi_range1 (by rfl) T.f_range (pa_cons (pe_op op_add (pe_fld (pv 0) rfl) pe_int) pa_nil)) (pg_name (i := 5) scPColumnsEarliestWith.nd rfl (Or.inl rfl)) (pss_cons (ps_set (i := 6) scPColumnsEarliestWith.nd rfl (Or.inl rfl) (pe_tup (pa_cons (pe_dget (hu_of hr) (pe_fld (pv 0) rfl) (pe_tup (pa_cons pe_int (pa_cons (pv 5) pa_nil))) (fun _ _ => rfl)) (pa_cons pe_int pa_nil)))) (pss_cons (ps_set (i := 7) scPColumnsEarliestWith.nd rfl (Or.inl rfl) (pe_cut (pe_ifExp (pt_cmpR op_ge (pv 5) (pv 1) (nomark _)) (pe_callH h_plus (hr.mono (by decide)) (by rfl) pass0 (pa_cons (pv 2) (pa_cons (pe_tup (pa_cons (pe_dget (hu_of hr) (pe_fld (pv 0) rfl) (pe_tup (pa_cons (pv 1) (pa_cons (pv 5) pa_nil))) (fun _ _ => rfl)) (pa_cons pe_int pa_nil))) pa_nil))) (pv 6)))) (pss_one (ps_expr (pe_bm PySem.F.plainAttrs_list PySem.F.slot_list_append PySem.F.type_list_append mt_append (pv 4) (pa_cons (pe_cut (pe_ifExp (pt_val (pe_callH h_is_less (hr.mono (by decide)) (by rfl) pass0 (pa_cons (pv 6) (pa_cons (pv 7) pa_nil)))) (pv 7) (pv 6))) pa_nil)))))))
      (pss_one (ps_ret (pe_op op_cat (pe_slice sl_list (pv 4) po_none (po_some (pe_un un_neg pe_int))) (pe_lst (pa_cons (pv 3) pa_nil))))))), ?_⟩
    refine ⟨Nat.zero_le _, fun p np => ?_⟩
    have s0 := same_upd (o := .lst []) np
    refine ⟨_, rfl, x, _, dx, fs, _, rfl, s0 _ _ h1, T.cls, T.n_own_many, F.many, _, _, rfl, rfl, _, rfl, by omega, by omega, for_range (lo := 0) (n := ((m : Int) + 1).toNat)
      (fun i σ H' => Same H H' ∧ (∃ vs, H' p = some (.lst vs) ∧ FRels H' vs ((List.range i).map (earl cs l pl))) ∧ ∃ v5 v6 v7 : Option V, σ = [some (.ref x), some (.int l), some (.ref pa), some (.ref ra), some (.ref p), v5, v6, v7]) ⟨s0, ⟨[], upd_same, .nil⟩, _, _, _, rfl⟩ ?_ ?_⟩
    · rintro i σ H1 hi ⟨s1, ⟨vs, ep, fr⟩, v5, v6, v7, rfl⟩
      have hi' : i ≤ m := by omega
      have e0 : (0 : Int) + (i : Int) = (i : Int) := Int.zero_add _
      rw [e0]
      -- least
      refine ⟨_, rfl, x, _, dx, fs, _, rfl, s1 _ _ h1, T.cls, T.n_own_ways, F.ways, _, rfl, (by show 2 ≤ sizeLine; decide), fun t ht => ?_⟩
      have s2 := same_upd (o := .tup [.int 0, .int (i : Int)]) ht
      have s12 := s1.trans s2
      refine ⟨lw, _, rfl, dget 0 i (s12 _ _ h5) upd_same rfl rfl (mem_alli.mpr ⟨Nat.zero_le _, hi'⟩), (by show 2 ≤ sizeLine; decide), fun a ha => ?_⟩
      have s3 := same_upd (o := .tup [.int (KM.W cs 0 i), .int 1]) ha
      have s13 := s12.trans s3
      -- far
      refine ⟨fun v H' => Same (upd (upd H1 t (.tup [.int 0, .int (i : Int)])) a (.tup [.int (KM.W cs 0 i), .int 1])) H' ∧ ∃ b, v = .ref b ∧ H' b = some (.tup [.int (if l ≤ i then pl + KM.W cs l i else KM.W cs 0 i), .int 1]), ?_, ?_⟩
      · refine ⟨_, rfl, _, rfl, _, _, rfl, rfl, _, rfl, ite2 (fun c => ?_) (fun c => ?_)⟩
        · have c1 : (i : Int) ≥ (l : Int) := of_decide_eq_true c
          refine ⟨_, rfl, _, rfl, x, _, dx, fs, _, rfl, s13 _ _ h1, T.cls, T.n_own_ways, F.ways, _, rfl, _, rfl, (by show 2 ≤ sizeLine; decide), fun t2 ht2 => ?_⟩
          have s4 := same_upd (o := .tup [.int (l : Int), .int (i : Int)]) ht2
          refine ⟨lw, _, rfl, dget l i ((s13.trans s4) _ _ h5) upd_same rfl rfl (mem_alli.mpr ⟨by show l ≤ i; omega, hi'⟩), (by show 2 ≤ sizeLine; decide), fun t3 ht3 => ?_⟩
          have s5 := same_upd (o := .tup [.int (KM.W cs l i), .int 1]) ht3
          refine ⟨pa, t3, pl, _, rfl, K1.Same.sqT ((s13.trans s4).trans s5) hp, .inl (.inl upd_same), fun b H' s6 nb hb => ⟨(s4.trans s5).trans s6, b, rfl, ?_⟩⟩
          rw [if_pos (by omega)]
          exact hb
        · have c1 : ¬ (i : Int) ≥ (l : Int) := of_decide_eq_false (Bool.eq_false_iff.mpr c)
          refine ⟨_, rfl, Same.refl _, a, rfl, ?_⟩
          rw [if_neg (by omega)]
          exact upd_same
      · rintro v H2 ⟨s4, b, rfl, hb⟩
        have ha2 := s4 a _ upd_same
        have s14 := s13.trans s4
        have ep2 := s4 _ _ (s3 _ _ (s2 _ _ ep))
        have fr2 := ((fr.same s2).same s3).same s4
        refine ⟨_, rfl, .inl ⟨rfl, _, SqL.of ep2⟩, ?_⟩
        refine ⟨fun v H' => Same H2 H' ∧ FRel H' v (earl cs l pl i), ?_, ?_⟩
        · refine ⟨_, rfl, _, rfl, a, b, _, _, _, _, rfl, .inl (.inl ha2), .inl (.inl hb), ⟨by decide, by decide⟩, ⟨by decide, by decide⟩, fun H3 s5 => ⟨_, rfl, ite2 (fun c => ?_) (fun c => ?_)⟩⟩
          · have c1 : KM.W cs 0 i * 1 < (if l ≤ i then pl + KM.W cs l i else KM.W cs 0 i) * 1 := of_decide_eq_true c
            refine ⟨_, rfl, s5, b, rfl, ?_⟩
            rw [s5 _ _ hb]
            have : (if l ≤ i then pl + KM.W cs l i else KM.W cs 0 i) = earl cs l pl i := by
              unfold earl
              split at c1 <;> split <;> omega
            rw [this]
          · have c1 : ¬ KM.W cs 0 i * 1 < (if l ≤ i then pl + KM.W cs l i else KM.W cs 0 i) * 1 := of_decide_eq_false (Bool.eq_false_iff.mpr c)
            refine ⟨_, rfl, s5, a, rfl, ?_⟩
            rw [s5 _ _ ha2]
            have : KM.W cs 0 i = earl cs l pl i := by
              unfold earl
              split at c1 <;> split <;> omega
            rw [← this]
        · rintro v H3 ⟨s5, fv⟩
          have ep3 := s5 _ _ ep2
          have hlen := pr_length fr
          rw [List.length_map, List.length_range] at hlen
          refine ⟨p, vs, v, rfl, rfl, ep3, small1000 (by omega), ?_⟩
          refine ⟨fun b' o hb' => ?_, ⟨vs ++ [v], upd_same, ?_⟩, _, _, _, rfl⟩
          · rw [upd_ne (ne_of_none hb' np)]
            exact (s14.trans s5) _ _ hb'
          · rw [List.range_succ, List.map_append]
            exact FRels.updL ep3 (pr_snoc (fr2.same s5) fv)
    · rintro σ H1 ⟨s1, ⟨vs, ep, fr⟩, v5, v6, v7, rfl⟩
      rw [show ((m : Int) + 1).toNat = m + 1 by omega] at fr
      refine ⟨_, rfl, 1, rfl, -1, rfl, p, vs, rfl, SqL.of ep, fun q hq => ?_⟩
      rw [cut_last]
      have s2 := same_upd (o := .lst vs.dropLast) hq
      refine ⟨_, rfl, (by show 1 ≤ sizeLine; decide), fun q2 hq2 => ?_⟩
      have s3 := same_upd (o := .lst [V.ref ra]) hq2
      have hlen := pr_length fr
      rw [List.length_map, List.length_range] at hlen
      refine ⟨q, q2, vs.dropLast, [.ref ra], rfl, rfl, s3 _ _ upd_same, upd_same, Nat.le_of_lt (small1000 (by rw [List.length_dropLast]; show vs.length - 1 + 1 ≤ 1000; omega)), fun r hr' => ?_⟩
      have s4 := same_upd (o := .lst (vs.dropLast ++ [V.ref ra])) hr'
      have sA := ((s1.trans s2).trans s3).trans s4
      refine k r _ sA (((s1.trans s2).trans s3).free hr') ⟨_, upd_same, ?_⟩
      have sB := (s2.trans s3).trans s4
      unfold early
      refine pr_snoc ?_ ⟨ra, rfl, sA _ _ hra⟩
      have f2 := pr_take m (fr.same sB)
      have e : ((List.range (m + 1)).map (earl cs l pl)).take m = (List.range m).map (earl cs l pl) := by
        rw [← List.map_take, List.take_range, Nat.min_eq_left (Nat.le_succ m)]
      have e2 : vs.dropLast = vs.take m := by
        rw [List.dropLast_eq_take, hlen]
        rfl
      rw [e, ← e2] at f2
      exact f2
end
end K9

set_option Elab.async false
set_option linter.all false
set_option maxRecDepth 100000
set_option maxHeartbeats 4000000
/-! Columns: needless cells, and how they are made. -/
namespace K10
open PySem PySem.Spec PyProof.Rows L2 KD K1 K2 K3 K4 K5 K6 K7 K8 K9
/-- the k-th cell is needless -/
def isN (cs : List Cell) (k : Nat) : Bool := match cs[k]? with
  | some d => decide (d.n > 0) && decide (KM.W (KM.less cs k) d.f (d.l + 1) ≥ d.n)
  | none => false
def ndl (cs : List Cell) (i : Nat) : List Int := ((List.range i).filter (isN cs)).map fun k : Nat => (k : Int)
theorem ndl_snoc (cs : List Cell) (i : Nat) : ndl cs (i + 1) = if isN cs i = true then ndl cs i ++ [(i : Int)] else ndl cs i := by
  unfold ndl
  rw [List.range_succ, List.filter_append, List.map_append]
  cases h : isN cs i with
  | true =>
    rw [if_pos rfl]
    simp [h]
  | false =>
    rw [if_neg Bool.false_ne_true]
    simp [h]
theorem ndl_len (cs : List Cell) (i : Nat) : (ndl cs i).length ≤ i := by
  unfold ndl
  rw [List.length_map]
  have := List.length_filter_le (isN cs) (List.range i)
  rw [List.length_range] at this
  exact this
section
variable {P : Program} {w : World} {K : PySem.W.Frag} {mg : Str → Option Value} {base : Heap}
def spNeedless (K : PySem.W.Frag) : Sp := fun vs H Q _ => ∃ (x : Addr) (m : Nat) (B : Int) (cs : List Cell), vs = [.ref x] ∧ Col K H x m cs ∧ 1 ≤ m ∧ m ≤ 10 ∧ (∀ d ∈ cs, Good m B d) ∧ cs.length ≤ 100 ∧
  ∀ (p : Addr) (H' : Hp), Same H H' → H p = none → H' p = some (.lst ((ndl cs cs.length).map V.int)) → Q (.ref p) H'
abbrev NPColumnsNeedlessCells : List Str := ["self", "found", "index", "first", "last", "need", "wish", "others"]
theorem scPColumnsNeedlessCells : FnScope NPColumnsNeedlessCells ["self"] (defScope sPColumnsNeedlessCells) := ⟨rfl, rfl, rfl, by decide +kernel, rfl, by decide +kernel, by decide +kernel⟩
theorem ok_needless_cells (T : Txt K mg) (h_ways_of : Has P w K mg base CX0 "ways_of" 1 ["many", "cells"] spWays) : HasM P w K mg base CX0 "needless_cells" 2 ["self"] (spNeedless K) := by
  refine HasM.mk T 16 (d := dPColumnsNeedlessCells) rfl rfl ⟨rfl, rfl⟩ T.m_needless_cells scPColumnsNeedlessCells (fun _ _ _ _ _ _ us hl => match us, hl with | [_], _ => rfl) (fun vs H Q E h => ?_) (fun cdv A outer s H vs Q E hr h => ?_)
  · obtain ⟨x, m, B, cs, rfl, _⟩ := h
    rfl
  · obtain ⟨x, m, B, cs, rfl, hC, hm1, hm2, gd, hlen, k⟩ := h
    obtain ⟨dx, fs, lc, lw, ys, h1, F, h3, cr, h5⟩ := id hC
    refine ⟨_, (pss_cons (ps_set (i := 1) scPColumnsNeedlessCells.nd rfl (Or.inl rfl) (pe_lst pa_nil))
      (pss_cons (ps_for PassesOwn.never rfl (pi_enum (by rfl) T.f_enumerate (pa_cons (pe_fld (pv 0) rfl) pa_nil)) (pg_tup rfl (pgs_cons (pg_name (i := 2) scPColumnsNeedlessCells.nd rfl (Or.inl rfl)) (pgs_cons (pg_tup rfl (pgs_cons (pg_name (i := 3) scPColumnsNeedlessCells.nd rfl (Or.inl rfl)) (pgs_cons (pg_name (i := 4) scPColumnsNeedlessCells.nd rfl (Or.inl rfl)) (pgs_cons (pg_name (i := 5) scPColumnsNeedlessCells.nd rfl (Or.inl rfl)) (pgs_cons (pg_name (i := 6) scPColumnsNeedlessCells.nd rfl (Or.inl rfl)) pgs_nil))))) pgs_nil))) (pss_cons (ps_set (i := 7) scPColumnsNeedlessCells.nd rfl (Or.inl rfl) (pe_op op_cat (pe_slice sl_list (pe_fld (pv 0) rfl) po_none (po_some (pv 2))) (pe_slice sl_list (pe_fld (pv 0) rfl) (po_some (pe_op op_add (pv 2) pe_int)) po_none))) (pss_one (ps_if (pt_cut (PW.pt (pw_and (pt_cmpR op_gt (pv 5) pe_int (nomark _)) (pw_and1 (pt_cmpR op_ge (pe_dget (hu_of hr) (pe_callH h_ways_of (hr.mono (by decide)) (by rfl) pass0 (pa_cons (pe_fld (pv 0) rfl) (pa_cons (pv 7) pa_nil))) (pe_tup (pa_cons (pv 3) (pa_cons (pe_op op_add (pv 4) pe_int) pa_nil))) (fun _ _ => rfl)) (pv 5) (nomark _)))))) (pss_one (ps_expr (pe_bm PySem.F.plainAttrs_list PySem.F.slot_list_append PySem.F.type_list_append mt_append (pv 1) (pa_cons (pv 2) pa_nil)))) pss_nil))))
      (pss_one (ps_ret (pv 1))))), ?_⟩
    have hyl := pr_length cr
    refine ⟨Nat.zero_le _, fun p np => ?_⟩
    have s0 := same_upd (o := .lst []) np
    refine ⟨_, rfl, x, _, dx, fs, _, rfl, s0 _ _ h1, T.cls, T.n_own_cells, F.cells, lc, ys, rfl, SqL.of (s0 _ _ h3), for_it (walk_enum (xs := ys))
      (fun i σ H' => Same H H' ∧ H' p = some (.lst ((ndl cs i).map V.int)) ∧ ∃ v2 v3 v4 v5 v6 v7 : Option V, σ = [some (.ref x), some (.ref p), v2, v3, v4, v5, v6, v7]) ⟨s0, upd_same, _, _, _, _, _, _, rfl⟩ (fun i σ H' _ h => SqL.of (h.1 _ _ h3)) ?_ ?_⟩
    · rintro i y σ H1 H2 hi ⟨s1, ep, v2, v3, v4, v5, v6, v7, rfl⟩ ⟨t, x1, x2, rfl, nt, rfl, e1, e2⟩
      have e1' : x1 = .int (i : Int) := (Option.some.inj e1).symm
      subst e1'
      obtain ⟨d, hd, t2, rfl, et2⟩ := pr_get cr (i := i) e2
      obtain ⟨g1, g2, g3, g4, g5, g6⟩ := gd d (List.mem_of_getElem? hd)
      have s2 := same_upd (o := .tup [V.int (i : Int), V.ref t2]) nt
      have s12 := s1.trans s2
      refine ⟨t, _, rfl, .inl (.inl upd_same), rfl, _, _, rfl, _, _, rfl, ⟨t2, _, rfl, .inl (.inl (s12 _ _ et2)), rfl, _, _, rfl, _, _, rfl, _, _, rfl, _, _, rfl, rfl, rfl, ?_⟩⟩
      -- others
      refine ⟨_, rfl, x, _, dx, fs, _, rfl, s12 _ _ h1, T.cls, T.n_own_cells, F.cells, _, rfl, _, rfl, lc, ys, rfl, SqL.of (s12 _ _ h3), fun q1 hq1 => ?_⟩
      have s3 := same_upd (o := .lst (cutV ys none (some (i : Int)))) hq1
      refine ⟨_, rfl, x, _, dx, fs, _, rfl, (s12.trans s3) _ _ h1, T.cls, T.n_own_cells, F.cells, _, rfl, _, _, rfl, rfl, _, rfl, lc, ys, rfl, SqL.of ((s12.trans s3) _ _ h3), fun q2 hq2 => ?_⟩
      have s4 := same_upd (o := .lst (cutV ys (some ((i : Int) + 1)) none)) hq2
      have len1 : (cutV ys none (some (i : Int))).length ≤ ys.length := cutV_length _ _ _
      have len2 : (cutV ys (some ((i : Int) + 1)) none).length ≤ ys.length := cutV_length _ _ _
      refine ⟨q1, q2, _, _, rfl, rfl, s4 _ _ upd_same, upd_same, Nat.le_of_lt (small1000 (by omega)), fun q3 hq3 => ?_⟩
      have s5 := same_upd (o := .lst (cutV ys none (some (i : Int)) ++ cutV ys (some ((i : Int) + 1)) none)) hq3
      have sA := ((s12.trans s3).trans s4).trans s5
      have sB := ((s2.trans s3).trans s4).trans s5
      generalize hH5 : upd (upd (upd (upd H1 t (.tup [V.int (i : Int), V.ref t2])) q1 (.lst (cutV ys none (some (i : Int))))) q2 (.lst (cutV ys (some ((i : Int) + 1)) none))) q3 (.lst (cutV ys none (some (i : Int)) ++ cutV ys (some ((i : Int) + 1)) none)) = H5
      have eo : H5 q3 = some (.lst (cutV ys none (some (i : Int)) ++ cutV ys (some ((i : Int) + 1)) none)) := by
        rw [← hH5]
        exact upd_same
      have sA' : Same H H5 := by
        rw [← hH5]
        exact sA
      have sB' : Same H1 H5 := by
        rw [← hH5]
        exact sB
      have co : CRels H5 (cutV ys none (some (i : Int)) ++ cutV ys (some ((i : Int) + 1)) none) (KM.less cs i) := by
        have e9 : (i : Int) + 1 = ((i + 1 : Nat) : Int) := by omega
        rw [e9, cut_take, cut_drop]
        exact pr_app (pr_take i (cr.same sA')) (pr_drop (i + 1) (cr.same sA'))
      have ep5 := sB' _ _ ep
      refine ⟨fun b H' => Same H5 H' ∧ b = isN cs i, ?_, ?_⟩
      · have eN : isN cs i = (decide (d.n > 0) && decide (KM.W (KM.less cs i) d.f (d.l + 1) ≥ d.n)) := by
          unfold isN
          rw [hd]
        rw [eN]
        refine ⟨_, rfl, _, _, rfl, rfl, _, rfl, ite2 (fun c => ?_) (fun c => ?_)⟩
        · rw [show decide (d.n > 0) = true from c, Bool.true_and]
          refine ⟨_, rfl, x, _, dx, fs, _, rfl, sA' _ _ h1, T.cls, T.n_own_many, F.many, _, rfl, m, B, q3, _, KM.less cs i, rfl, hm1, hm2, eo, co, fun d' hd' => gd d' (KM.less_sub d' hd'), fun pw H6 s6 npw hT => ?_⟩
          refine ⟨_, rfl, _, rfl, _, _, rfl, rfl, (by show 2 ≤ sizeLine; decide), fun t3 ht3 => ?_⟩
          have s7 := same_upd (o := .tup [V.int d.f, V.int (d.l + 1)]) ht3
          refine ⟨pw, _, rfl, dget d.f.toNat (d.l + 1).toNat (s7 _ _ hT) upd_same (by omega) (by omega) (mem_alli.mpr ⟨by show d.f.toNat ≤ (d.l + 1).toNat; omega, by show (d.l + 1).toNat ≤ m; omega⟩), _, rfl, _, _, rfl, rfl, _, rfl, s6.trans s7, ?_⟩
          rw [show ((d.f.toNat : Nat) : Int) = d.f by omega, show (((d.l + 1).toNat : Nat) : Int) = d.l + 1 by omega]
        · rw [show decide (d.n > 0) = false from Bool.eq_false_iff.mpr c, Bool.false_and]
          exact ⟨Same.refl _, rfl⟩
      · rintro b H6 ⟨s6, rfl⟩
        have ep6 := s6 _ _ ep5
        rw [ndl_snoc]
        refine ite2 (fun c => ?_) (fun c => ?_)
        · rw [if_pos c]
          have hle := ndl_len cs i
          refine ⟨_, rfl, .inl ⟨rfl, _, SqL.of ep6⟩, _, rfl, p, _, _, rfl, rfl, ep6, small1000 (by rw [List.length_map]; omega), fun b' o hb' => ?_, ?_, _, _, _, _, _, _, rfl⟩
          · rw [upd_ne (ne_of_none hb' np)]
            exact s6 _ _ (sA' _ _ hb')
          · rw [upd_same, List.map_append]
            rfl
        · rw [if_neg c]
          exact ⟨sA'.trans s6, ep6, _, _, _, _, _, _, rfl⟩
    · rintro σ H1 ⟨s1, ep, v2, v3, v4, v5, v6, v7, rfl⟩
      rw [hyl] at ep
      exact ⟨_, rfl, k p H1 s1 np ep⟩
end
end K10

set_option Elab.async false
set_option linter.all false
set_option maxRecDepth 100000
set_option maxHeartbeats 4000000
/-! Columns: how they are made. -/
namespace K11
open PySem PySem.Spec PyProof.Rows L2 KD K1 K2 K3 K4 K5 K6 K7 K8 K9 K10
theorem iteND {c A B : Prop} [Decidable c] (hc : ¬ c) (h : B) : if decide c = true then A else B := by
  rw [decide_eq_false hc]
  exact iteF h
/-- a for over enumerate(the list or tuple in a slot) -/
theorem for_enumS {K : PySem.W.Frag} {i : Nat} {a : Addr} {xs : List V} {σ : L2.St} {H : Hp} {g : TG} {tb u : TS} {E : Ends} (hσ : σ[i]? = some (some (.ref a))) (hS : Sq H a xs) (Pv : Nat → L2.St → Hp → Prop)
    (h0 : Pv 0 σ H) (hG : ∀ j σ' H', Pv j σ' H' → ∀ o, H a = some o → H' a = some o)
    (hs : ∀ j x T σ' H', xs[j]? = some x → Pv j σ' H' → H' T = none → g (.ref T) σ' (upd H' T (.tup [.int (j : Nat), x])) fun σ2 H2 => tb { E with nx := Pv (j + 1), ct := Pv (j + 1), bk := u E } σ2 H2)
    (hd : ∀ σ' H', Pv xs.length σ' H' → u E σ' H') :
    tSeq (tFor (fun σ H R => iEnum K (tCons (tVar i) tNil) σ H R ∨ KR.iEnumT K (tCons (tVar i) tNil) σ H R) g tb) u E σ H := by
  rcases hS with e | e
  · refine .inl ⟨_, hσ, a, xs, rfl, SqL.of e, for_it (walk_enum (xs := xs)) Pv h0 (fun j σ' H' _ p => SqL.of (hG j σ' H' p _ e)) (fun j x σ' H' H'' hj p y => ?_) hd⟩
    obtain ⟨T, x1, x2, rfl, nt, rfl, e1, e2⟩ := y
    have e1' : x1 = .int (j : Int) := (Option.some.inj e1).symm
    subst e1'
    exact hs j x2 T σ' H' e2 p nt
  · refine .inr ⟨_, hσ, a, xs, rfl, .inl (.inl e), for_it (KR.walk_enumT (xs := xs)) Pv h0 (fun j σ' H' _ p => .inl (.inl (hG j σ' H' p _ e))) (fun j x σ' H' H'' hj p y => ?_) hd⟩
    obtain ⟨T, x1, x2, rfl, nt, rfl, e1, e2⟩ := y
    have e1' : x1 = .int (j : Int) := (Option.some.inj e1).symm
    subst e1'
    exact hs j x2 T σ' H' e2 p nt
theorem look_ne {f g : Str} {v : V} {fs : List (Str × V)} (h : ¬ g = f) : (putF f v fs).lookup g = fs.lookup g := by rw [lookup_putF, if_neg h]
theorem look_eq {f : Str} {v : V} {fs : List (Str × V)} : (putF f v fs).lookup f = some v := by rw [lookup_putF, if_pos rfl]
abbrev fs1 (m : Nat) : List (Str × V) := putF "own_many" (.int m) []
abbrev fs2 (m : Nat) (lc : Addr) : List (Str × V) := putF "own_cells" (.ref lc) (fs1 m)
abbrev fs3 (m : Nat) (lc lw : Addr) : List (Str × V) := putF "own_ways" (.ref lw) (fs2 m lc)
theorem none3 (m : Nat) (lc lw : Addr) {x : Str} (h1 : ¬ x = "own_ways") (h2 : ¬ x = "own_cells") (h3 : ¬ x = "own_many") : (fs3 m lc lw).lookup x = none := by
  rw [look_ne h1, look_ne h2, look_ne h3]
  rfl
theorem col3 (m : Nat) (lc lw : Addr) : ColF (fs3 m lc lw) m lc lw where
  many := by rw [look_ne (by decide +kernel), look_ne (by decide +kernel), look_eq]
  cells := by rw [look_ne (by decide +kernel), look_eq]
  ways := by rw [look_eq]
  m1 := none3 m lc lw (by decide +kernel) (by decide +kernel) (by decide +kernel)
  m2 := none3 m lc lw (by decide +kernel) (by decide +kernel) (by decide +kernel)
  m3 := none3 m lc lw (by decide +kernel) (by decide +kernel) (by decide +kernel)
  m4 := none3 m lc lw (by decide +kernel) (by decide +kernel) (by decide +kernel)
  m5 := none3 m lc lw (by decide +kernel) (by decide +kernel) (by decide +kernel)
  m6 := none3 m lc lw (by decide +kernel) (by decide +kernel) (by decide +kernel)
theorem colF_putL {fs : List (Str × V)} {m : Nat} {lc lw : Addr} (F : ColF fs m lc lw) (v : V) : ColF (putF "own_leasts" v fs) m lc lw where
  many := by rw [look_ne (by decide +kernel)]; exact F.many
  cells := by rw [look_ne (by decide +kernel)]; exact F.cells
  ways := by rw [look_ne (by decide +kernel)]; exact F.ways
  m1 := by rw [look_ne (by decide +kernel)]; exact F.m1
  m2 := by rw [look_ne (by decide +kernel)]; exact F.m2
  m3 := by rw [look_ne (by decide +kernel)]; exact F.m3
  m4 := by rw [look_ne (by decide +kernel)]; exact F.m4
  m5 := by rw [look_ne (by decide +kernel)]; exact F.m5
  m6 := by rw [look_ne (by decide +kernel)]; exact F.m6
theorem colF_putG {fs : List (Str × V)} {m : Nat} {lc lw : Addr} (F : ColF fs m lc lw) (v : V) : ColF (putF "own_greatests" v fs) m lc lw where
  many := by rw [look_ne (by decide +kernel)]; exact F.many
  cells := by rw [look_ne (by decide +kernel)]; exact F.cells
  ways := by rw [look_ne (by decide +kernel)]; exact F.ways
  m1 := by rw [look_ne (by decide +kernel)]; exact F.m1
  m2 := by rw [look_ne (by decide +kernel)]; exact F.m2
  m3 := by rw [look_ne (by decide +kernel)]; exact F.m3
  m4 := by rw [look_ne (by decide +kernel)]; exact F.m4
  m5 := by rw [look_ne (by decide +kernel)]; exact F.m5
  m6 := by rw [look_ne (by decide +kernel)]; exact F.m6
theorem len3 (m : Nat) (lc lw : Addr) : (fs3 m lc lw).length ≤ 3 := by
  have h1 : (fs1 m).length ≤ 0 + 1 := length_putF "own_many" (.int m) []
  have h2 : (fs2 m lc).length ≤ (fs1 m).length + 1 := length_putF "own_cells" (.ref lc) (fs1 m)
  have h3 : (fs3 m lc lw).length ≤ (fs2 m lc).length + 1 := length_putF "own_ways" (.ref lw) (fs2 m lc)
  omega
/-- a cell as it is passed: a list or a tuple -/
def SRel (H : Hp) (v : V) (c : Cell) : Prop := ∃ t, v = .ref t ∧ Sq H t (cv c)
abbrev SRels (H : Hp) (vs : List V) (cs : List Cell) : Prop := Paired (SRel H) vs cs
theorem SRels.same {H H' : Hp} {vs : List V} {cs : List Cell} (h : SRels H vs cs) (x : Same H H') : SRels H' vs cs := Paired.mapP h fun v c ⟨t, e, q⟩ => ⟨t, e, K1.Same.sq x q⟩
theorem ne_ins {H : Hp} {x t C dx : Addr} {fs : List (Str × V)} {xs : List V} (h : H x = some (.ins C dx fs)) (hS : Sq H t xs) : t ≠ x := by
  intro e
  subst e
  rcases hS with q | q <;> rw [h] at q <;> cases q
def Fr2 (H : Hp) (v : V) : Prop := ∃ (t : Addr) (n d : Int), v = .ref t ∧ H t = some (.tup [.int n, .int d]) ∧ 0 < d ∧ d ≤ 2
theorem Fr2.same {H H' : Hp} {v : V} (s : Same H H') (h : Fr2 H v) : Fr2 H' v := by
  obtain ⟨t, n, d, e, q, r⟩ := h
  exact ⟨t, n, d, e, s _ _ q, r⟩
theorem fr4_same {H H' : Hp} {v : V} (s : Same H H') (h : Fr4 H v) : Fr4 H' v := by
  obtain ⟨t, n, d, e, q, r⟩ := h
  exact ⟨t, n, d, e, s _ _ q, r⟩
theorem Fr2.updL {H : Hp} {l : Addr} {xs : List V} {o : HO} {v : V} (e : H l = some (.lst xs)) (h : Fr2 H v) : Fr2 (upd H l o) v := by
  obtain ⟨t, n, d, e1, q, r⟩ := h
  exact ⟨t, n, d, e1, by rw [upd_ne (ne_of q e (by intro z; cases z))]; exact q, r⟩
theorem fr4_updL {H : Hp} {l : Addr} {xs : List V} {o : HO} {v : V} (e : H l = some (.lst xs)) (h : Fr4 H v) : Fr4 (upd H l o) v := by
  obtain ⟨t, n, d, e1, q, r⟩ := h
  exact ⟨t, n, d, e1, by rw [upd_ne (ne_of q e (by intro z; cases z))]; exact q, r⟩
section
variable {P : Program} {w : World} {K : PySem.W.Frag} {mg : Str → Option Value} {base : Heap}
def spInit (K : PySem.W.Frag) : Sp := fun vs H Q _ => ∃ (x dx c : Addr) (m : Nat) (B : Int) (ys : List V) (cs : List Cell), vs = [.ref x, .int m, .ref c] ∧ H x = some (.ins (CC K) dx []) ∧ 1 ≤ m ∧ m ≤ 10 ∧ Sq H c ys ∧ SRels H ys cs ∧ ys.length ≤ 100 ∧ (∀ d ∈ cs, Good m B d) ∧
  ∀ H', But x H H' → Col K H' x m cs → Q .non H'
abbrev NPColumnsInit : List Str := ["self", "many", "cells", "index", "cell", "lines", "line", "ahead", "after"]
theorem scPColumnsInit : FnScope NPColumnsInit ["self", "many", "cells"] (defScope sPColumnsInit) := ⟨rfl, rfl, rfl, by decide +kernel, rfl, by decide +kernel, by decide +kernel⟩
theorem ok_init (T : Txt K mg) (h_is_natural : Has P w K mg base CX0 "is_natural" 2 ["thing"] spIsNatural) (h_is_list : Has P w K mg base CX0 "is_list" 1 ["thing"] spIsList) (h_is_cell : Has P w K mg base CX0 "is_cell" 3 ["many", "thing"] spIsCell)
    (h_ways_of : Has P w K mg base CX0 "ways_of" 1 ["many", "cells"] spWays) (h_minus : Has P w K mg base CX0 "minus" 2 ["one", "two"] (spMinus K)) (hM_middle_of : HasM P w K mg base CX0 "middle_of" 3 ["self", "line"] (spMiddle K))
    (hM_greatest_of_column : HasM P w K mg base CX0 "greatest_of_column" 2 ["self", "index"] (spGreatest K)) : HasI P w K mg base CX0 4 ["self", "many", "cells"] (spInit K) := by
  refine HasI.mk T 10 (d := dPColumnsInit) rfl rfl ⟨rfl, rfl⟩ scPColumnsInit (fun _ _ _ _ _ _ us hl => match us, hl with | [_, _, _], _ => rfl) (fun vs H Q E h => ?_) (fun cdv A outer s H vs Q E hr h => ?_)
  · obtain ⟨x, dx, c, m, B, ys, cs, rfl, _⟩ := h
    rfl
  · obtain ⟨x, dx, c, m, B, ys, cs, rfl, hx, hm1, hm2, hS, hR, hl, gd, k⟩ := h
    refine ⟨_, (pss_cons (ps_if (PW.pt (pw_or (pt_not (pt_val (pe_callH h_is_natural (hr.mono (by decide)) (by rfl) pass0 (pa_cons (pv 1) pa_nil)))) (pw_or1 (pt_cmpR op_eq (pv 1) pe_int (nomark _))))) (pss_one ps_never) pss_nil)
      (pss_cons (ps_if (pt_not (pt_val (pe_callH h_is_list (hr.mono (by decide)) (by rfl) pass0 (pa_cons (pv 2) pa_nil)))) (pss_one ps_never) pss_nil)
      (pss_cons (ps_for PassesOwn.never rfl (KR.PI.or (pi_enum (by rfl) T.f_enumerate (pa_cons (pv 2) pa_nil)) (KR.pi_enumT (by rfl) T.f_enumerate (pa_cons (pv 2) pa_nil))) (pg_tup rfl (pgs_cons (pg_name (i := 3) scPColumnsInit.nd rfl (Or.inl rfl)) (pgs_cons (pg_name (i := 4) scPColumnsInit.nd rfl (Or.inl rfl)) pgs_nil))) (pss_one (ps_if (pt_not (pt_val (pe_callH h_is_cell (hr.mono (by decide)) (by rfl) pass0 (pa_cons (pv 1) (pa_cons (pv 4) pa_nil))))) (pss_one ps_never) pss_nil)))
      (pss_cons (ps_fld (pv 0) (pv 1) rfl)
      (pss_cons (ps_fld (pv 0) (pe_cut (pe_lc (own := [("cell", 4)]) (g := (gName 4)) (by rfl) scPColumnsInit.nd (KR.PI.or (pi_list (pv 2)) (pi_tup (pv 2))) (blkOk_by (own := [("cell", 4)]) (N := NPColumnsInit) (sc := defScope sPColumnsInit) (by decide +kernel)) (fun _ _ _ _ _ => (pg_name (i := 4) scPColumnsInit.nd rfl (Or.inl rfl))) (fun _ _ _ _ _ => pts_nil) (fun _ _ _ _ _ => (pe_callTy (K1.call_tuple_ofK (K := K) rfl) (by rfl) T.f_tuple (by decide +kernel) (pa_cons (pv 4) pa_nil))))) rfl)
      (pss_cons (ps_fld (pv 0) (pe_callH h_ways_of (hr.mono (by decide)) (by rfl) pass0 (pa_cons (pv 1) (pa_cons (pe_fld (pv 0) rfl) pa_nil))) rfl)
      (pss_cons (ps_setLc (i := 5) (own := [("line", 6)]) (g := (gName 6)) (by rfl) scPColumnsInit.nd rfl rfl (sw_true rfl rfl rfl (by decide +kernel)) (pi_range1 (by rfl) T.f_range (pa_cons (pe_op op_add (pv 1) pe_int) pa_nil)) (blkOk_by (own := [("line", 6)]) (N := NPColumnsInit) (sc := defScope sPColumnsInit) (by decide +kernel)) (fun _ _ _ _ _ => (pg_name (i := 6) scPColumnsInit.nd rfl (Or.inl rfl))) (fun _ _ _ _ _ => pts_nil) (fun _ _ _ _ _ => (K1.pe_methHK (K := K) rfl hM_middle_of T (hr.mono (by decide)) pass0 (pv 0) (pa_cons (pv 6) pa_nil))))
      (pss_cons (ps_fld (pv 0) (pe_cut (pe_lc (own := [("ahead", 7), ("after", 8)]) (g := (gTup K 2 (gCons (gName 7) (gCons (gName 8) gNil)))) (by rfl) scPColumnsInit.nd (pi_zip (by rfl) T.f_zip (pa_cons (pv 5) (pa_cons (pe_slice sl_list (pv 5) (po_some pe_int) po_none) pa_nil))) (blkOk_by (own := [("ahead", 7), ("after", 8)]) (N := NPColumnsInit) (sc := defScope sPColumnsInit) (by decide +kernel)) (fun _ _ _ _ _ => (pg_tup rfl (pgs_cons (pg_name (i := 7) scPColumnsInit.nd rfl (Or.inl rfl)) (pgs_cons (pg_name (i := 8) scPColumnsInit.nd rfl (Or.inl rfl)) pgs_nil)))) (fun _ _ _ _ _ => pts_nil) (fun _ _ _ _ _ => (pe_callH h_minus (hr.mono (by decide)) (by rfl) pass0 (pa_cons (pv 8) (pa_cons (pv 7) pa_nil)))))) rfl)
      (pss_one (ps_fld (pv 0) (pe_cut (pe_lc (own := [("index", 3)]) (g := (gName 3)) (by rfl) scPColumnsInit.nd (pi_range1 (by rfl) T.f_range (pa_cons (pv 1) pa_nil)) (blkOk_by (own := [("index", 3)]) (N := NPColumnsInit) (sc := defScope sPColumnsInit) (by decide +kernel)) (fun _ _ _ _ _ => (pg_name (i := 3) scPColumnsInit.nd rfl (Or.inl rfl))) (fun _ _ _ _ _ => pts_nil) (fun _ _ _ _ _ => (K1.pe_methHK (K := K) rfl hM_greatest_of_column T (hr.mono (by decide)) pass0 (pv 0) (pa_cons (pv 3) pa_nil))))) rfl)))))))))), ?_⟩
    -- not is_natural(many) or many == 0
    refine ⟨_, rfl, (m : Int), rfl, by omega, fun H1 s1 => ⟨true, rfl, iteF ⟨_, rfl, rfl, _, rfl, iteND (fun z => by injection z with z; omega) ?_⟩⟩⟩
    -- not is_list(cells)
    refine ⟨_, rfl, c, ys, rfl, K1.Same.sq s1 hS, fun H2 s2 => ⟨true, rfl, iteF ?_⟩⟩
    have s12 := s1.trans s2
    -- the cells
    refine for_enumS (i := 2) (xs := ys) rfl (K1.Same.sq s12 hS) (fun _ σ H' => Same H2 H' ∧ ∃ v3 v4 : Option V, σ = [some (.ref x), some (.int m), some (.ref c), v3, v4, none, none, none, none]) ⟨Same.refl _, _, _, rfl⟩ (fun _ _ _ h o e => h.1 _ _ e) ?_ ?_
    · rintro j y Ta σ H3 hy ⟨s3, v3, v4, rfl⟩ nt
      have s4 := same_upd (o := .tup [V.int (j : Int), y]) nt
      obtain ⟨d, hd, t2, rfl, q2⟩ := pr_get hR hy
      refine ⟨Ta, _, rfl, .inl (.inl upd_same), rfl, _, _, rfl, _, _, rfl, rfl, ?_⟩
      exact ⟨_, rfl, _, rfl, m, B, t2, d, rfl, K1.Same.sq ((s12.trans s3).trans s4) q2, gd d (List.mem_of_getElem? hd), fun H5 s5 => ⟨true, rfl, iteF ⟨(s3.trans s4).trans s5, _, _, rfl⟩⟩⟩
    rintro σ H3 ⟨s3, v3, v4, rfl⟩
    have s13 := s12.trans s3
    -- self.own_many = many
    have hx3 := s13 _ _ hx
    refine ⟨_, rfl, _, rfl, x, _, dx, _, rfl, hx3, T.cls, T.n_own_many, (by show 0 < 1000; decide), ?_⟩
    generalize hHa : upd H3 x (.ins (CC K) dx (putF "own_many" (.int (m : Int)) [])) = Ha
    have ea : Ha x = some (.ins (CC K) dx (fs1 m)) := by rw [← hHa]; exact upd_same
    have ba : But x H Ha := fun b o hb hne => by rw [← hHa, upd_ne hne]; exact s13 _ _ hb
    have hSa : Sq Ha c ys := by
      have n := ne_ins hx hS
      rcases hS with e | e
      · exact .inl (ba _ _ e n)
      · exact .inr (ba _ _ e n)
    have hRa : SRels Ha ys cs := Paired.mapP hR fun v d ⟨t, e, q⟩ => ⟨t, e, by
      have n := ne_ins hx q
      rcases q with e | e
      · exact .inl (ba _ _ e n)
      · exact .inr (ba _ _ e n)⟩
    have hyl := pr_length hR
    -- self.own_cells = ..
    refine ⟨fun v H' => Same Ha H' ∧ ∃ lc zs, v = .ref lc ∧ H' lc = some (.lst zs) ∧ CRels H' zs cs, ?_, ?_⟩
    · refine lc_seq (i := 2) (xs := ys) rfl hSa (fun D j H' => Same Ha H' ∧ ∃ acc, H' D = some (.lst acc) ∧ CRels H' acc (cs.take j)) (fun D hD => ⟨same_upd hD, [], upd_same, .nil⟩) (fun D j H' h o e => h.1 _ _ e) ?_ ?_
      · rintro D j y H5 hD hy ⟨s5, acc, eD, cr⟩
        obtain ⟨d, hd, t2, rfl, q2⟩ := pr_get hRa hy
        have hj : j < ys.length := (List.getElem?_eq_some_iff.mp hy).1
        have hla := pr_length cr
        rw [List.length_take] at hla
        refine ⟨rfl, _, rfl, t2, cv d, rfl, ?_⟩
        rcases K1.Same.sq s5 q2 with e | e
        · refine .inl ⟨SqL.of e, fun l hl0 => ?_⟩
          have s6 := same_upd (o := .tup (cv d)) hl0
          refine ⟨acc, s6 _ _ eD, small1000 (by omega), fun b o hb => ?_, acc ++ [.ref l], upd_same, ?_⟩
          · rw [upd_ne (ne_of_none hb hD)]
            exact s6 _ _ (s5 _ _ hb)
          · rw [take_snoc hd]
            exact CRels.updL (s6 _ _ eD) (pr_snoc (cr.same s6) ⟨l, rfl, upd_same⟩)
        · refine .inr ⟨.inl (.inl e), acc, eD, small1000 (by omega), fun b o hb => ?_, acc ++ [.ref t2], upd_same, ?_⟩
          · rw [upd_ne (ne_of_none hb hD)]
            exact s5 _ _ hb
          · rw [take_snoc hd]
            exact CRels.updL eD (pr_snoc cr ⟨t2, rfl, e⟩)
      · rintro D H5 hD ⟨s5, acc, eD, cr⟩
        rw [hyl, List.take_length] at cr
        exact ⟨s5, D, acc, rfl, eD, cr⟩
    rintro v Hb ⟨sb, lc, zs, rfl, elc, crb⟩
    refine ⟨_, rfl, x, _, dx, _, rfl, sb _ _ ea, T.cls, T.n_own_cells, (by have h : (fs1 m).length ≤ 0 + 1 := length_putF "own_many" (.int m) []; show (fs1 m).length < 1000; omega), ?_⟩
    have nlc : lc ≠ x := ne_of elc (sb _ _ ea) (by intro z; cases z)
    generalize hHc : upd Hb x (.ins (CC K) dx (putF "own_cells" (.ref lc) (fs1 m))) = Hc
    have ec : Hc x = some (.ins (CC K) dx (fs2 m lc)) := by rw [← hHc]; exact upd_same
    have bbc : But x Hb Hc := fun b o hb hne => by rw [← hHc, upd_ne hne]; exact hb
    have bc : But x H Hc := (ba.trans (But.of sb)).trans bbc
    have elc2 : Hc lc = some (.lst zs) := bbc _ _ elc nlc
    have crc : CRels Hc zs cs := Paired.mapP crb fun v d ⟨t, e, q⟩ => ⟨t, e, bbc _ _ q (ne_of q (sb _ _ ea) (by intro z; cases z))⟩
    -- self.own_ways = ..
    refine ⟨_, rfl, _, rfl, x, _, dx, _, _, rfl, ec, T.cls, T.n_own_cells, look_eq, m, B, lc, zs, cs, rfl, hm1, hm2, elc2, crc, gd, fun lw Hd sd nlw hT => ?_⟩
    have nlwx : lw ≠ x := (ne_of_none ec nlw).symm
    refine ⟨_, rfl, x, _, dx, _, rfl, sd _ _ ec, T.cls, T.n_own_ways, (by have h1 : (fs1 m).length ≤ 0 + 1 := length_putF "own_many" (.int m) []; have h2 : (fs2 m lc).length ≤ (fs1 m).length + 1 := length_putF "own_cells" (.ref lc) (fs1 m); show (fs2 m lc).length < 1000; omega), ?_⟩
    generalize hHe : upd Hd x (.ins (CC K) dx (putF "own_ways" (.ref lw) (fs2 m lc))) = He
    have ee : He x = some (.ins (CC K) dx (fs3 m lc lw)) := by rw [← hHe]; exact upd_same
    have bde : But x Hd He := fun b o hb hne => by rw [← hHe, upd_ne hne]; exact hb
    have be : But x H He := (bc.trans (But.of sd)).trans bde
    have elc3 : He lc = some (.lst zs) := bde _ _ (sd _ _ elc2) nlc
    have cre : CRels He zs cs := Paired.mapP (crc.same sd) fun v d ⟨t, e, q⟩ => ⟨t, e, bde _ _ q (ne_of q (sd _ _ ec) (by intro z; cases z))⟩
    have hTe : K6.TabAt He lw m (KM.W cs) := bde _ _ hT nlwx
    have colE : Col K He x m cs := ⟨dx, fs3 m lc lw, lc, lw, zs, ee, col3 m lc lw, elc3, cre, hTe⟩
    -- lines = ..
    refine ⟨_, rfl, _, _, rfl, rfl, _, rfl, by omega, by omega, fun D hD => lc_it (walk_range (lo := 0) (n := ((m : Int) + 1).toNat)) (fun i H' => Same He H' ∧ ∃ acc, H' D = some (.lst acc) ∧ acc.length = i ∧ ∀ v ∈ acc, Fr2 H' v) ⟨same_upd hD, [], upd_same, rfl, fun v h => absurd h (by simp)⟩ (fun _ _ _ _ => True.intro) ?_ ?_⟩
    · rintro i y H5 H6 hi ⟨s5, acc, eD, hla, fr⟩ ⟨rfl, ey⟩
      obtain rfl : y = V.int (i : Int) := Eq.trans ey (congrArg V.int (Int.zero_add _))
      refine ⟨rfl, _, rfl, x, dx, _, rfl, s5 _ _ ee, (col3 m lc lw).m1, _, rfl, x, m, cs, i, rfl, colE.same s5, by omega, fun p n d H7 s7 np ep h0 h2 => ?_⟩
      have eD7 := s7 _ _ eD
      refine ⟨acc, eD7, small1000 (by omega), fun b o hb => ?_, acc ++ [.ref p], upd_same, by rw [List.length_append, hla]; rfl, fun v hv => ?_⟩
      · rw [upd_ne (ne_of_none hb hD)]
        exact s7 _ _ (s5 _ _ hb)
      · rcases List.mem_append.mp hv with hv | hv
        · exact ((fr v hv).same s7).updL eD7
        · have : v = .ref p := by simpa using hv
          rw [this]
          exact Fr2.updL eD7 ⟨p, n, d, rfl, ep, h0, h2⟩
    rintro Hf ⟨sf, ln, eL, hln, frl⟩
    rw [show ((m : Int) + 1).toNat = m + 1 by omega] at hln
    -- self.own_leasts = ..
    refine ⟨fun v H' => Same Hf H' ∧ ∃ ll ls, v = .ref ll ∧ H' ll = some (.lst ls) ∧ ls.length = m ∧ ∀ v ∈ ls, Fr4 H' v, ?_, ?_⟩
    · refine ⟨_, rfl, _, rfl, 1, rfl, D, ln, rfl, SqL.of eL, fun p2 np2 => ?_⟩
      have s6 := same_upd (o := .lst (cutV ln (some 1) none)) np2
      have ecut : cutV ln (some 1) none = ln.drop 1 := cut_drop ln 1
      refine ⟨D, p2, ln, _, rfl, SqL.of (s6 _ _ eL), SqL.of upd_same, fun D2 hD2 => lc_it (walk_zip (n := m) (by rw [ecut, List.length_drop, hln]; omega)) (fun i H' => Same (upd Hf p2 (.lst (cutV ln (some 1) none))) H' ∧ ∃ acc, H' D2 = some (.lst acc) ∧ acc.length = i ∧ ∀ v ∈ acc, Fr4 H' v) ⟨same_upd hD2, [], upd_same, rfl, fun v h => absurd h (by simp)⟩ (fun i H' _ h => ⟨SqL.of (h.1 _ _ (s6 _ _ eL)), SqL.of (h.1 _ _ upd_same)⟩) ?_ ?_⟩
      · rintro i y H7 H8 hi ⟨s7, acc, eD2, hla, fr⟩ ⟨Ta, x1, x2, rfl, nt, rfl, e1, e2⟩
        have s8 := same_upd (o := .tup [x1, x2]) nt
        have m1 : x1 ∈ ln := List.mem_of_getElem? e1
        have m2 : x2 ∈ ln := by
          have h : x2 ∈ cutV ln (some 1) none := List.mem_of_getElem? e2
          rw [ecut] at h
          exact List.mem_of_mem_drop h
        have sA := (s6.trans s7).trans s8
        obtain ⟨ta, na, da, rfl, qa, a0, a2⟩ := (frl _ m1).same sA
        obtain ⟨tb, nb, db, rfl, qb, b0, b2⟩ := (frl _ m2).same sA
        refine ⟨Ta, _, rfl, .inl (.inl upd_same), rfl, _, _, rfl, _, _, rfl, rfl, rfl, _, rfl, _, rfl, tb, ta, nb, db, na, da, rfl, .inl (.inl qb), .inl (.inl qa), ⟨b0, b2⟩, ⟨a0, a2⟩, fun p n d H9 s9 np ep h0 h4 => ?_⟩
        have eD9 := s9 _ _ (s8 _ _ eD2)
        refine ⟨acc, eD9, small1000 (by omega), fun b o hb => ?_, acc ++ [.ref p], upd_same, by rw [List.length_append, hla]; rfl, fun v hv => ?_⟩
        · rw [upd_ne (ne_of_none hb hD2)]
          exact s9 _ _ (s8 _ _ (s7 _ _ hb))
        · rcases List.mem_append.mp hv with hv | hv
          · exact fr4_updL eD9 (fr4_same s9 (fr4_same s8 (fr v hv)))
          · have : v = .ref p := by simpa using hv
            rw [this]
            exact fr4_updL eD9 ⟨p, n, d, rfl, ep, h0, h4⟩
      · rintro H7 ⟨s7, acc, eD2, hla, fr⟩
        exact ⟨s6.trans s7, D2, acc, rfl, eD2, hla, fr⟩
    rintro v Hg ⟨sg, ll, ls, rfl, ell, hll, frs⟩
    have l3 := len3 m lc lw
    refine ⟨_, rfl, x, _, dx, _, rfl, sg _ _ (sf _ _ ee), T.cls, T.n_own_leasts, (by show (fs3 m lc lw).length < 1000; omega), ?_⟩
    have nll : ll ≠ x := ne_of ell (sg _ _ (sf _ _ ee)) (by intro z; cases z)
    generalize hHh : upd Hg x (.ins (CC K) dx (putF "own_leasts" (.ref ll) (fs3 m lc lw))) = Hh
    have eh : Hh x = some (.ins (CC K) dx (putF "own_leasts" (.ref ll) (fs3 m lc lw))) := by rw [← hHh]; exact upd_same
    have bgh : But x Hg Hh := fun b o hb hne => by rw [← hHh, upd_ne hne]; exact hb
    have beh : But x He Hh := (But.of (sf.trans sg)).trans bgh
    have elc4 := beh _ _ elc3 nlc
    have crh : CRels Hh zs cs := Paired.mapP cre fun v d ⟨t, e, q⟩ => ⟨t, e, beh _ _ q (ne_of q ee (by intro z; cases z))⟩
    have frh : ∀ v ∈ ls, Fr4 Hh v := fun v hv => by
      obtain ⟨t, n, d, e, q, r⟩ := frs v hv
      exact ⟨t, n, d, e, bgh _ _ q (ne_of q (sg _ _ (sf _ _ ee)) (by intro z; cases z)), r⟩
    have Fh : ColF (putF "own_leasts" (.ref ll) (fs3 m lc lw)) m lc lw := colF_putL (col3 m lc lw) _
    -- self.own_greatests = ..
    refine ⟨fun v H' => Same Hh H', ?_, ?_⟩
    · refine ⟨_, rfl, _, rfl, by omega, by omega, fun D3 hD3 => lc_it (walk_range (lo := 0) (n := (m : Int).toNat)) (fun i H' => Same Hh H' ∧ ∃ acc, H' D3 = some (.lst acc) ∧ acc.length = i) ⟨same_upd hD3, [], upd_same, rfl⟩ (fun _ _ _ _ => True.intro) ?_ ?_⟩
      · rintro i y H7 H8 hi ⟨s7, acc, eD3, hla⟩ ⟨rfl, ey⟩
        obtain rfl : y = V.int (i : Int) := Eq.trans ey (congrArg V.int (Int.zero_add _))
        refine ⟨rfl, _, rfl, x, dx, _, rfl, s7 _ _ eh, Fh.m2, _, rfl, x, m, cs, i, dx, _, lc, ll, zs, ls, rfl, s7 _ _ eh, Fh.cells, look_eq, s7 _ _ elc4, crh.same s7, s7 _ _ (bgh _ _ ell nll), by omega, fun v hv => fr4_same s7 (frh v hv), fun v H9 s9 => ?_⟩
        have eD9 := s9 _ _ eD3
        refine ⟨acc, eD9, small1000 (by omega), fun b o hb => ?_, acc ++ [v], upd_same, by rw [List.length_append, hla]; rfl⟩
        rw [upd_ne (ne_of_none hb hD3)]
        exact s9 _ _ (s7 _ _ hb)
      · rintro H7 ⟨s7, _⟩
        exact s7
    rintro v Hi si
    refine ⟨_, rfl, x, _, dx, _, rfl, si _ _ eh, T.cls, T.n_own_greatests, (by have := length_putF "own_leasts" (.ref ll) (fs3 m lc lw); omega), ?_⟩
    refine k _ (fun b o hb hne => ?_) ⟨dx, _, lc, lw, zs, upd_same, colF_putG Fh v, ?_, ?_, ?_⟩
    · rw [upd_ne hne]
      exact si _ _ (beh _ _ (be _ _ hb hne) hne)
    · rw [upd_ne nlc]
      exact si _ _ elc4
    · exact Paired.mapP (crh.same si) fun v d ⟨t, e, q⟩ => ⟨t, e, by rw [upd_ne (ne_of q (si _ _ eh) (by intro z; cases z))]; exact q⟩
    · show upd Hi x _ lw = _
      rw [upd_ne nlwx]
      exact si _ _ (beh _ _ hTe nlwx)
end
end K11

set_option Elab.async false
set_option linter.all false
set_option maxRecDepth 100000
set_option maxHeartbeats 4000000
/-! Two tables. -/
namespace K12
open PySem PySem.Spec PyProof.Rows L2 KD K1 K2 K3 K4 K5 K6 K7 K8 K9 K10 K11
/-- whether two tables tell the same -/
def alikeB (m : Nat) (g h : Int → Int → Int) : Bool := (alli m).all fun p => decide (h p.1 p.2 = g p.1 p.2)
theorem same_tabs_aux (m : Nat) (g h : Int → Int → Int) : ∀ l : List Ix, (∀ p ∈ l, p ∈ alli m) → ((tabL g l).all fun p => decide (valV (tabL h (alli m)) p.1 = some p.2)) = l.all fun p => decide (h p.1 p.2 = g p.1 p.2)
  | [], _ => rfl
  | q :: r, hl => by
    have e1 := same_tabs_aux m g h r fun p hp => hl p (List.mem_cons_of_mem _ hp)
    have e2 : valV (tabL h (alli m)) (keyT q) = some (.int (h q.1 q.2)) := val_in h (hl q List.mem_cons_self)
    show (decide (valV (tabL h (alli m)) (keyT q) = some (V.int (g q.1 q.2))) && ((tabL g r).all fun p => decide (valV (tabL h (alli m)) p.1 = some p.2))) = (decide (h q.1 q.2 = g q.1 q.2) && r.all fun p => decide (h p.1 p.2 = g p.1 p.2))
    rw [e1, e2]
    have e3 : decide (some (V.int (h q.1 q.2)) = some (V.int (g q.1 q.2))) = decide (h q.1 q.2 = g q.1 q.2) := by
      by_cases z : h q.1 q.2 = g q.1 q.2
      · rw [z, decide_eq_true rfl, decide_eq_true rfl]
      · rw [decide_eq_false z, decide_eq_false fun y => z (by injection y with y; injection y with y)]
    rw [e3]
theorem same_tabs (m : Nat) (g h : Int → Int → Int) : KR.sameT (tabL g (alli m)) (tabL h (alli m)) = alikeB m g h := same_tabs_aux m g h (alli m) fun _ h => h
theorem eqT_tabs {H : Hp} {a b : Addr} {m : Nat} {g h : Int → Int → Int} {Q : VK} (ha : K6.TabAt H a m g) (hb : K6.TabAt H b m h) (k : Q (.bl (alikeB m g h)) H) : KR.rEqT (.ref a) (.ref b) H Q := by
  refine ⟨a, b, _, _, rfl, rfl, ha, hb, by unfold tabL; rw [List.length_map, List.length_map], fun p hp => ?_, ?_⟩
  · obtain ⟨q, hq, rfl⟩ := List.mem_map.mp hp
    exact ⟨_, _, rfl, val_in h hq⟩
  · rw [same_tabs]
    exact k
/-- a number or None -/
def oV : Option Int → V
  | none => .non
  | some i => .int i
/-- the least width at which the first has a placing that puts two lines too near for the second -/
def cand (m : Nat) (A B : Int → Int → Int) (s e : Nat) : Option Int :=
  if B s e ≤ A s e then none else if s = 0 ∧ e = m then some (A 0 m) else some (max (A 0 m) (A 0 e + A s m - B s e + 1))
/-- the placing that puts them as near as can be -/
def near (cs : List Cell) (m s : Nat) (wd : Int) : List Int := if s = 0 then early cs m 0 0 wd else early cs m s (wd - KM.W cs s m) wd
abbrev Bst := Option (Int × List Int)
def lessB (w : Int) : Bst → Bool
  | none => true
  | some b => decide (w < b.1)
def stepB (m : Nat) (cs ds : List Cell) (b : Bst) (s e : Nat) : Bst := match cand m (KM.W cs) (KM.W ds) s e with
  | none => b
  | some w => if lessB w b = true then some (w, near cs m s w) else b
def rowB (m : Nat) (cs ds : List Cell) (b : Bst) (s n : Nat) : Bst := (List.range n).foldl (fun b k => stepB m cs ds b s (s + 1 + k)) b
def allB (m : Nat) (cs ds : List Cell) (b : Bst) (n : Nat) : Bst := (List.range n).foldl (fun b s => rowB m cs ds b s (m - s)) b
def pap (m : Nat) (cs ds : List Cell) : Bst := allB m ds cs (allB m cs ds none m) m
theorem rowB_succ {m cs ds b s n} : rowB m cs ds b s (n + 1) = stepB m cs ds (rowB m cs ds b s n) s (s + 1 + n) := by
  unfold rowB
  rw [List.range_succ, List.foldl_append]
  rfl
theorem allB_succ {m cs ds b n} : allB m cs ds b (n + 1) = rowB m cs ds (allB m cs ds b n) n (m - n) := by
  unfold allB
  rw [List.range_succ, List.foldl_append]
  rfl
/-- the best so far, in the heap -/
def BV (H : Hp) (v : V) : Bst → Prop
  | none => v = .non
  | some b => ∃ t p, v = .ref t ∧ H t = some (.tup [.int b.1, .ref p]) ∧ PlAt H p b.2
theorem BV.same {H H' : Hp} {v : V} (s : Same H H') : ∀ {b : Bst}, BV H v b → BV H' v b
  | none, h => h
  | some b, ⟨t, p, e, q, r⟩ => ⟨t, p, e, s _ _ q, K9.PlAt.same s r⟩
/-- what is told -/
def RV (H : Hp) (v : V) : Bst → Prop
  | none => v = .non
  | some b => ∃ t u p, v = .ref t ∧ H t = some (.tup [.ref u, .ref p]) ∧ H u = some (.tup [.int b.1, .int 1]) ∧ PlAt H p b.2
theorem RV.same {H H' : Hp} {v : V} (s : Same H H') : ∀ {b : Bst}, RV H v b → RV H' v b
  | none, h => h
  | some b, ⟨t, u, p, e, q, q2, r⟩ => ⟨t, u, p, e, s _ _ q, s _ _ q2, K9.PlAt.same s r⟩
section
variable {P : Program} {w : World} {K : PySem.W.Frag} {mg : Str → Option Value} {base : Heap}
/-! ### check_like, same_placings -/
def spLike (K : PySem.W.Frag) : Sp := fun vs H Q E => ∃ (a b : Addr) (m m' : Nat) (cs ds : List Cell), vs = [.ref a, .ref b] ∧ Col K H a m cs ∧ Col K H b m' ds ∧
  (m = m' → ∀ H', Same H H' → Q .non H') ∧ (m ≠ m' → ∀ H', Same H H' → E (.ref (CU K)) none H')
abbrev NPCheckLike : List Str := ["one", "other"]
theorem scPCheckLike : FnScope NPCheckLike ["one", "other"] (defScope sPCheckLike) := ⟨rfl, rfl, rfl, by decide +kernel, rfl, by decide +kernel, by decide +kernel⟩
theorem ok_check_like (T : Txt K mg) (hM_how_many : HasM P w K mg base CX0 "how_many" 1 ["self"] (spMany K)) : Has P w K mg base (L2.CX P w) "check_like" 2 ["one", "other"] (spLike K) := by
  refine Has.mkX T 17 (d := dPCheckLike) rfl rfl ⟨rfl, rfl⟩ T.g_check_like scPCheckLike (fun _ _ _ _ _ _ us hl => match us, hl with | [_, _], _ => rfl) (fun vs H Q E h => ?_) (fun cdv A outer s H vs Q E hr h => ?_)
  · obtain ⟨a, b, m, m', cs, ds, rfl, _⟩ := h
    rfl
  · obtain ⟨a, b, m, m', cs, ds, rfl, ha, hb, k1, k2⟩ := h
    refine ⟨_, (pss_one (ps_if (pt_cmpR op_ne (pe_meth0H hM_how_many T (hr.mono (by decide)) pass0 (pv 0)) (pe_meth0H hM_how_many T (hr.mono (by decide)) pass0 (pv 1)) (nomark _)) (pss_one (ps_raise rfl (takes_of rfl rfl rfl rfl) (KR.pmk_own0 PySem.F.excBase_ValueError T.exU.1 T.g_UnlikeColumns T.exU.2.1 (raises_own T.exU.2.2.1 T.exU.2.2.2) rfl))) pss_nil)), ?_⟩
    obtain ⟨dx, fs, lc, lw, ys, h1, F, _⟩ := id ha
    obtain ⟨dx', fs', lc', lw', ys', h1', F', _⟩ := id hb
    refine ⟨_, rfl, a, dx, fs, rfl, h1, F.m3, a, m, cs, rfl, ha, fun H1 s1 => ⟨_, rfl, b, dx', fs', rfl, s1 _ _ h1', F'.m3, b, m', ds, rfl, hb.same s1, fun H2 s2 => ⟨rfl, _, rfl, ?_⟩⟩⟩
    by_cases e : m = m'
    · refine iteNS (congrArg (fun n : Nat => V.int n) e) (k1 e _ (s1.trans s2))
    · have ne : ¬ V.int (m : Int) = V.int (m' : Int) := fun z => e (by injection z with z; omega)
      rw [decide_eq_false ne]
      exact iteT (k2 e _ (s1.trans s2))
def spSamePl (K : PySem.W.Frag) : Sp := fun vs H Q E => ∃ (a b : Addr) (m m' : Nat) (cs ds : List Cell), vs = [.ref a, .ref b] ∧ Col K H a m cs ∧ Col K H b m' ds ∧
  (m = m' → ∀ H', Same H H' → Q (.bl (alikeB m (KM.W cs) (KM.W ds))) H') ∧ (m ≠ m' → ∀ H', Same H H' → E (.ref (CU K)) none H')
abbrev NPSamePlacings : List Str := ["one", "other"]
theorem scPSamePlacings : FnScope NPSamePlacings ["one", "other"] (defScope sPSamePlacings) := ⟨rfl, rfl, rfl, by decide +kernel, rfl, by decide +kernel, by decide +kernel⟩
theorem ok_same_placings (T : Txt K mg) (h_check_like : Has P w K mg base (L2.CX P w) "check_like" 2 ["one", "other"] (spLike K)) : Has P w K mg base (L2.CX P w) "same_placings" 3 ["one", "other"] (spSamePl K) := by
  refine Has.mkX T 18 (d := dPSamePlacings) rfl rfl ⟨rfl, rfl⟩ T.g_same_placings scPSamePlacings (fun _ _ _ _ _ _ us hl => match us, hl with | [_, _], _ => rfl) (fun vs H Q E h => ?_) (fun cdv A outer s H vs Q E hr h => ?_)
  · obtain ⟨a, b, m, m', cs, ds, rfl, _⟩ := h
    rfl
  · obtain ⟨a, b, m, m', cs, ds, rfl, ha, hb, k1, k2⟩ := h
    refine ⟨_, (pss_cons (ps_expr (pe_callH h_check_like (hr.mono (by decide)) (by rfl) (passes_call (takes_of rfl rfl rfl rfl) (fun _ _ _ _ z => z)) (pa_cons (pv 0) (pa_cons (pv 1) pa_nil))))
      (pss_one (ps_ret (pe_cmpR (KR.op_eqT (hu_of hr)) (pe_fld (pv 0) rfl) (pe_fld (pv 1) rfl) (nomark _))))), ?_⟩
    refine ⟨_, rfl, _, rfl, a, b, m, m', cs, ds, rfl, ha, hb, fun e H1 s1 => ?_, k2⟩
    subst e
    obtain ⟨dx, fs, lc, lw, ys, h1, F, _, _, h5⟩ := ha.same s1
    obtain ⟨dx', fs', lc', lw', ys', h1', F', _, _, h5'⟩ := hb.same s1
    exact ⟨_, rfl, a, _, dx, fs, _, rfl, h1, T.cls, T.n_own_ways, F.ways, _, rfl, b, _, dx', fs', _, rfl, h1', T.cls, T.n_own_ways, F'.ways, eqT_tabs h5 h5' (k1 rfl _ s1)⟩
/-! ### apart_by -/
def spApart (K : PySem.W.Frag) : Sp := fun vs H Q _ => ∃ (a b : Addr) (m : Nat) (cs ds : List Cell) (s e : Nat), vs = [.ref a, .ref b, .int s, .int e] ∧ Col K H a m cs ∧ Col K H b m ds ∧ s ≤ e ∧ e ≤ m ∧
  ∀ H', Same H H' → Q (oV (cand m (KM.W cs) (KM.W ds) s e)) H'
abbrev NPApartBy : List Str := ["one", "other", "start", "end", "far", "least"]
theorem scPApartBy : FnScope NPApartBy ["one", "other", "start", "end"] (defScope sPApartBy) := ⟨rfl, rfl, rfl, by decide +kernel, rfl, by decide +kernel, by decide +kernel⟩
theorem ok_apart_by (T : Txt K mg) (hM_how_many : HasM P w K mg base CX0 "how_many" 1 ["self"] (spMany K)) (hM_least_width : HasM P w K mg base CX0 "least_width" 1 ["self"] (spLeast K)) :
    Has P w K mg base CX0 "apart_by" 2 ["one", "other", "start", "end"] (spApart K) := by
  refine Has.mk T 19 (d := dPApartBy) rfl rfl ⟨rfl, rfl⟩ T.g_apart_by scPApartBy (fun _ _ _ _ _ _ us hl => match us, hl with | [_, _, _, _], _ => rfl) (fun vs H Q E h => ?_) (fun cdv A outer s0 H vs Q E hr h => ?_)
  · obtain ⟨a, b, m, cs, ds, s, e, rfl, _⟩ := h
    rfl
  · obtain ⟨a, b, m, cs, ds, s, e, rfl, ha, hb, hse, hem, k⟩ := h
    refine ⟨_, (pss_cons (ps_par (i := 4) (j := 5) (by rfl) scPApartBy.nd rfl rfl (by decide) rfl rfl (pa_cons (pe_dget (hu_of hr) (pe_fld (pv 1) rfl) (pe_tup (pa_cons (pv 2) (pa_cons (pv 3) pa_nil))) (fun _ _ => rfl)) (pa_cons (pe_meth0H hM_least_width T (hr.mono (by decide)) pass0 (pv 0)) pa_nil)) (by rfl))
      (pss_cons (ps_if (pt_cmpR op_le (pv 4) (pe_dget (hu_of hr) (pe_fld (pv 0) rfl) (pe_tup (pa_cons (pv 2) (pa_cons (pv 3) pa_nil))) (fun _ _ => rfl)) (nomark _)) (pss_one (ps_ret pe_non)) pss_nil)
      (pss_cons (ps_if (pt_cut (PW.pt (pw_and (pt_cmpR op_eq (pv 2) pe_int (nomark _)) (pw_and1 (pt_cmpR op_eq (pv 3) (pe_meth0H hM_how_many T (hr.mono (by decide)) pass0 (pv 0)) (nomark _)))))) (pss_one (ps_ret (pv 5))) pss_nil)
      (pss_one (ps_ret (pe_callB (call_max2 rfl) (by rfl) T.f_max (by decide +kernel) (pa_cons (pv 5) (pa_cons (pe_op op_add (pe_op op_sub (pe_op op_add (pe_dget (hu_of hr) (pe_fld (pv 0) rfl) (pe_tup (pa_cons pe_int (pa_cons (pv 3) pa_nil))) (fun _ _ => rfl)) (pe_dget (hu_of hr) (pe_fld (pv 0) rfl) (pe_tup (pa_cons (pv 2) (pa_cons (pe_meth0H hM_how_many T (hr.mono (by decide)) pass0 (pv 0)) pa_nil))) (fun _ _ => rfl))) (pv 4)) pe_int) pa_nil)))))))), ?_⟩
    obtain ⟨dx, fs, lc, lw, ys, h1, F, _, _, h5⟩ := id ha
    obtain ⟨dx', fs', lc', lw', ys', h1', F', _, _, h5'⟩ := id hb
    have ise : (s, e) ∈ alli m := mem_alli.mpr ⟨hse, hem⟩
    -- far, least
    refine ⟨_, rfl, b, _, dx', fs', _, rfl, h1', T.cls, T.n_own_ways, F'.ways, _, rfl, _, rfl, (by show 2 ≤ sizeLine; decide), fun t ht => ?_⟩
    have s1 := same_upd (o := .tup [.int (s : Int), .int (e : Int)]) ht
    refine ⟨lw', _, rfl, dget s e (s1 _ _ h5') upd_same rfl rfl ise, _, rfl, a, dx, fs, rfl, s1 _ _ h1, F.m4, a, m, cs, rfl, ha.same s1, fun H2 s2 => ⟨_, _, rfl, ?_⟩⟩
    have s12 := s1.trans s2
    -- if far <= ..
    refine ⟨_, rfl, _, rfl, a, _, dx, fs, _, rfl, s12 _ _ h1, T.cls, T.n_own_ways, F.ways, _, rfl, _, rfl, (by show 2 ≤ sizeLine; decide), fun t2 ht2 => ?_⟩
    have s3 := same_upd (o := .tup [.int (s : Int), .int (e : Int)]) ht2
    have s13 := s12.trans s3
    refine ⟨lw, _, rfl, dget s e (s13 _ _ h5) upd_same rfl rfl ise, _, _, rfl, rfl, _, rfl, ite2 (fun c => ?_) (fun c => ?_)⟩
    · have c1 : KM.W ds s e ≤ KM.W cs s e := of_decide_eq_true c
      have ec : cand m (KM.W cs) (KM.W ds) s e = none := if_pos c1
      have h := k _ s13
      rw [ec] at h
      exact h
    · have c1 : ¬ KM.W ds s e ≤ KM.W cs s e := of_decide_eq_false (Bool.eq_false_iff.mpr c)
      -- if start == 0 and end == one.how_many()
      refine ⟨fun b H' => Same H H' ∧ b = decide (s = 0 ∧ e = m), ?_, ?_⟩
      · refine ⟨_, rfl, rfl, _, rfl, ite2 (fun c2 => ?_) (fun c2 => ?_)⟩
        · have c3 : s = 0 := by
            have z : V.int (s : Int) = V.int 0 := of_decide_eq_true c2
            injection z with z
            omega
          refine ⟨_, rfl, _, rfl, a, dx, fs, rfl, s13 _ _ h1, F.m3, a, m, cs, rfl, ha.same s13, fun H4 s4 => ⟨rfl, _, rfl, s13.trans s4, ?_⟩⟩
          by_cases z : e = m
          · rw [decide_eq_true (show s = 0 ∧ e = m from ⟨c3, z⟩), decide_eq_true (congrArg (fun n : Nat => V.int n) z)]
          · rw [decide_eq_false (show ¬ (s = 0 ∧ e = m) from fun y => z y.2), decide_eq_false (fun y => z (by injection y with y; omega))]
        · have c3 : ¬ s = 0 := fun z => c2 (decide_eq_true (by rw [z]; rfl))
          exact ⟨s13, (decide_eq_false (show ¬ (s = 0 ∧ e = m) from fun y => c3 y.1)).symm⟩
      · rintro bb H4 ⟨s4, rfl⟩
        refine ite2 (fun c2 => ?_) (fun c2 => ?_)
        · have c3 : s = 0 ∧ e = m := of_decide_eq_true c2
          have ec : cand m (KM.W cs) (KM.W ds) s e = some (KM.W cs 0 m) := by
            unfold cand
            rw [if_neg c1, if_pos c3]
          have h := k _ s4
          rw [ec] at h
          exact ⟨_, rfl, h⟩
        · have c3 : ¬ (s = 0 ∧ e = m) := of_decide_eq_false (Bool.eq_false_iff.mpr c2)
          have ec : cand m (KM.W cs) (KM.W ds) s e = some (max (KM.W cs 0 m) (KM.W cs 0 e + KM.W cs s m - KM.W ds s e + 1)) := by
            unfold cand
            rw [if_neg c1, if_neg c3]
          refine ⟨_, rfl, _, rfl, a, _, dx, fs, _, rfl, s4 _ _ h1, T.cls, T.n_own_ways, F.ways, _, rfl, (by show 2 ≤ sizeLine; decide), fun t5 ht5 => ?_⟩
          have s5 := same_upd (o := .tup [.int 0, .int (e : Int)]) ht5
          have s45 := s4.trans s5
          refine ⟨lw, _, rfl, dget 0 e (s45 _ _ h5) upd_same rfl rfl (mem_alli.mpr ⟨Nat.zero_le _, hem⟩), _, rfl, a, _, dx, fs, _, rfl, s45 _ _ h1, T.cls, T.n_own_ways, F.ways, _, rfl, _, rfl, a, dx, fs, rfl, s45 _ _ h1, F.m3, a, m, cs, rfl, ha.same s45, fun H6 s6 => ⟨(by show 2 ≤ sizeLine; decide), fun t7 ht7 => ?_⟩⟩
          have s7 := same_upd (o := .tup [.int (s : Int), .int (m : Int)]) ht7
          have s47 := (s45.trans s6).trans s7
          refine ⟨lw, _, rfl, dget s m (s47 _ _ h5) upd_same rfl rfl (mem_alli.mpr ⟨by show s ≤ m; omega, Nat.le_refl _⟩), _, _, rfl, rfl, _, rfl, _, _, rfl, rfl, _, _, rfl, rfl, _, _, rfl, ?_⟩
          have h := k _ s47
          rw [ec] at h
          rw [max_eq]
          exact h
/-! ### nearest_placing -/
def spNear (K : PySem.W.Frag) : Sp := fun vs H Q _ => ∃ (a : Addr) (m : Nat) (cs : List Cell) (s e : Nat) (wd : Int), vs = [.ref a, .int s, .int e, .int wd] ∧ Col K H a m cs ∧ s ≤ m ∧ m ≤ 10 ∧
  ∀ (p : Addr) (H' : Hp), Same H H' → H p = none → PlAt H' p (near cs m s wd) → Q (.ref p) H'
abbrev NPNearestPlacing : List Str := ["one", "start", "end", "width"]
theorem scPNearestPlacing : FnScope NPNearestPlacing ["one", "start", "end", "width"] (defScope sPNearestPlacing) := ⟨rfl, rfl, rfl, by decide +kernel, rfl, by decide +kernel, by decide +kernel⟩
theorem ok_nearest_placing (T : Txt K mg) (hM_how_many : HasM P w K mg base CX0 "how_many" 1 ["self"] (spMany K)) (hM_earliest_with : HasM P w K mg base CX0 "earliest_with" 3 ["self", "line", "place", "room"] (spEarly K)) :
    Has P w K mg base CX0 "nearest_placing" 4 ["one", "start", "end", "width"] (spNear K) := by
  refine Has.mk T 20 (d := dPNearestPlacing) rfl rfl ⟨rfl, rfl⟩ T.g_nearest_placing scPNearestPlacing (fun _ _ _ _ _ _ us hl => match us, hl with | [_, _, _, _], _ => rfl) (fun vs H Q E h => ?_) (fun cdv A outer s0 H vs Q E hr h => ?_)
  · obtain ⟨a, m, cs, s, e, wd, rfl, _⟩ := h
    rfl
  · obtain ⟨a, m, cs, s, e, wd, rfl, ha, hsm, hm, k⟩ := h
    refine ⟨_, (pss_cons (ps_if (pt_cmpR op_eq (pv 1) pe_int (nomark _)) (pss_one (ps_ret (pe_methH hM_earliest_with T (hr.mono (by decide)) pass0 (pv 0) (pa_cons pe_int (pa_cons (pe_glob (v := .ref _) (by rfl) T.g_ZERO rfl) (pa_cons (pe_tup (pa_cons (pv 3) (pa_cons pe_int pa_nil))) pa_nil)))))) pss_nil)
      (pss_one (ps_ret (pe_methH hM_earliest_with T (hr.mono (by decide)) pass0 (pv 0) (pa_cons (pv 1) (pa_cons (pe_tup (pa_cons (pe_op op_sub (pv 3) (pe_dget (hu_of hr) (pe_fld (pv 0) rfl) (pe_tup (pa_cons (pv 1) (pa_cons (pe_meth0H hM_how_many T (hr.mono (by decide)) pass0 (pv 0)) pa_nil))) (fun _ _ => rfl))) (pa_cons pe_int pa_nil))) (pa_cons (pe_tup (pa_cons (pv 3) (pa_cons pe_int pa_nil))) pa_nil))))))), ?_⟩
    obtain ⟨dx, fs, lc, lw, ys, h1, F, _, _, h5⟩ := id ha
    refine ⟨_, rfl, rfl, _, rfl, ite2 (fun c => ?_) (fun c => ?_)⟩
    · have c1 : s = 0 := by
        have z : V.int (s : Int) = V.int 0 := of_decide_eq_true c
        injection z with z
        omega
      refine ⟨_, rfl, a, dx, fs, rfl, h1, F.m5, _, rfl, (by show 2 ≤ sizeLine; decide), fun t ht => ?_⟩
      have s1 := same_upd (o := .tup [.int wd, .int 1]) ht
      refine ⟨a, m, cs, 0, _, t, 0, wd, rfl, ha.same s1, Nat.zero_le _, hm, T.zero _, upd_same, fun p H' s2 np hp => k p H' (s1.trans s2) (s1.free np) ?_⟩
      unfold near
      rw [if_pos c1]
      exact hp
    · have c1 : ¬ s = 0 := fun z => c (decide_eq_true (by rw [z]; rfl))
      refine ⟨_, rfl, a, dx, fs, rfl, h1, F.m5, _, rfl, _, rfl, _, rfl, a, _, dx, fs, _, rfl, h1, T.cls, T.n_own_ways, F.ways, _, rfl, _, rfl, a, dx, fs, rfl, h1, F.m3, a, m, cs, rfl, ha, fun H1 s1 => ⟨(by show 2 ≤ sizeLine; decide), fun t ht => ?_⟩⟩
      have s2 := same_upd (o := .tup [.int (s : Int), .int (m : Int)]) ht
      have s12 := s1.trans s2
      refine ⟨lw, _, rfl, dget s m (s12 _ _ h5) upd_same rfl rfl (mem_alli.mpr ⟨hsm, Nat.le_refl _⟩), _, _, rfl, rfl, (by show 2 ≤ sizeLine; decide), fun t3 ht3 => ?_⟩
      have s3 := same_upd (o := .tup [.int (wd - KM.W cs s m), .int 1]) ht3
      refine ⟨_, rfl, (by show 2 ≤ sizeLine; decide), fun t4 ht4 => ?_⟩
      have s4 := same_upd (o := .tup [.int wd, .int 1]) ht4
      have s14 := (s12.trans s3).trans s4
      refine ⟨a, m, cs, s, t3, t4, wd - KM.W cs s m, wd, rfl, ha.same s14, hsm, hm, .inl (.inl (s4 _ _ upd_same)), upd_same, fun p H' s5 np hp => k p H' (s14.trans s5) (s14.free np) ?_⟩
      unfold near
      rw [if_neg c1]
      exact hp
/-! ### placing_apart -/
def spPap (K : PySem.W.Frag) : Sp := fun vs H Q E => ∃ (a b : Addr) (m m' : Nat) (cs ds : List Cell), vs = [.ref a, .ref b] ∧ Col K H a m cs ∧ Col K H b m' ds ∧ m ≤ 10 ∧
  (m = m' → ∀ (v : V) (H' : Hp), Same H H' → RV H' v (pap m cs ds) → Q v H') ∧ (m ≠ m' → ∀ H', Same H H' → E (.ref (CU K)) none H')
def outB (m : Nat) (cs ds : List Cell) : Nat → Bst
  | 0 => none
  | 1 => allB m cs ds none m
  | _ => pap m cs ds
abbrev NPPlacingApart : List Str := ["one", "other", "best", "mine", "far", "start", "end", "width"]
theorem scPPlacingApart : FnScope NPPlacingApart ["one", "other"] (defScope sPPlacingApart) := ⟨rfl, rfl, rfl, by decide +kernel, rfl, by decide +kernel, by decide +kernel⟩
theorem ok_placing_apart (T : Txt K mg) (h_check_like : Has P w K mg base (L2.CX P w) "check_like" 2 ["one", "other"] (spLike K)) (hM_how_many : HasM P w K mg base CX0 "how_many" 1 ["self"] (spMany K))
    (h_apart_by : Has P w K mg base CX0 "apart_by" 2 ["one", "other", "start", "end"] (spApart K)) (h_nearest_placing : Has P w K mg base CX0 "nearest_placing" 4 ["one", "start", "end", "width"] (spNear K)) :
    Has P w K mg base (L2.CX P w) "placing_apart" 5 ["one", "other"] (spPap K) := by
  refine Has.mkX T 21 (d := dPPlacingApart) rfl rfl ⟨rfl, rfl⟩ T.g_placing_apart scPPlacingApart (fun _ _ _ _ _ _ us hl => match us, hl with | [_, _], _ => rfl) (fun vs H Q E h => ?_) (fun cdv A outer s0 H vs Q E hr h => ?_)
  · obtain ⟨a, b, m, m', cs, ds, rfl, _⟩ := h
    rfl
  · obtain ⟨a, b, m, m', cs, ds, rfl, ha, hb, hm, k1, k2⟩ := h
    refine ⟨_, (pss_cons (ps_expr (pe_callH h_check_like (hr.mono (by decide)) (by rfl) (passes_call (takes_of rfl rfl rfl rfl) (fun _ _ _ _ z => z)) (pa_cons (pv 0) (pa_cons (pv 1) pa_nil))))
      (PSs.nox (pss_cons (ps_set (i := 2) scPPlacingApart.nd rfl (Or.inl rfl) pe_non)
      (pss_cons (ps_for PassesOwn.never rfl (pi_tup (pe_tup (pa_cons (pe_tup (pa_cons (pv 0) (pa_cons (pv 1) pa_nil))) (pa_cons (pe_tup (pa_cons (pv 1) (pa_cons (pv 0) pa_nil))) pa_nil)))) (pg_tup rfl (pgs_cons (pg_name (i := 3) scPPlacingApart.nd rfl (Or.inl rfl)) (pgs_cons (pg_name (i := 4) scPPlacingApart.nd rfl (Or.inl rfl)) pgs_nil))) (pss_one (ps_for PassesOwn.never rfl (pi_range1 (by rfl) T.f_range (pa_cons (pe_meth0H hM_how_many T (hr.mono (by decide)) pass0 (pv 0)) pa_nil)) (pg_name (i := 5) scPPlacingApart.nd rfl (Or.inl rfl)) (pss_one (ps_for PassesOwn.never rfl (pi_range2 (by rfl) T.f_range (pa_cons (pe_op op_add (pv 5) pe_int) (pa_cons (pe_op op_add (pe_meth0H hM_how_many T (hr.mono (by decide)) pass0 (pv 0)) pe_int) pa_nil))) (pg_name (i := 6) scPPlacingApart.nd rfl (Or.inl rfl)) (pss_cons (ps_set (i := 7) scPPlacingApart.nd rfl (Or.inl rfl) (pe_callH h_apart_by (hr.mono (by decide)) (by rfl) pass0 (pa_cons (pv 3) (pa_cons (pv 4) (pa_cons (pv 5) (pa_cons (pv 6) pa_nil)))))) (pss_one (ps_if (pt_cut (PW.pt (pw_and (pt_cmpR op_notN (pv 7) pe_non (nomark _)) (pw_and1 (PW.pt (pw_or (pt_cmpR op_isN (pv 2) pe_non (nomark _)) (pw_or1 (pt_cmpR op_lt (pv 7) (pe_ix ix_tup (pv 2) pe_int (fun _ _ => rfl)) (nomark _))))))))) (pss_one (ps_set (i := 2) scPPlacingApart.nd rfl (Or.inl rfl) (pe_tup (pa_cons (pv 7) (pa_cons (pe_callH h_nearest_placing (hr.mono (by decide)) (by rfl) pass0 (pa_cons (pv 3) (pa_cons (pv 5) (pa_cons (pv 6) (pa_cons (pv 7) pa_nil))))) pa_nil))))) pss_nil))))))))
      (pss_one (ps_ret (pe_ifExp (pt_cmpR op_isN (pv 2) pe_non (nomark _)) pe_non (pe_tup (pa_cons (pe_tup (pa_cons (pe_ix ix_tup (pv 2) pe_int (fun _ _ => rfl)) (pa_cons pe_int pa_nil))) (pa_cons (pe_ix ix_tup (pv 2) pe_int (fun _ _ => rfl)) pa_nil)))))))))), ?_⟩
    refine ⟨_, rfl, _, rfl, a, b, m, m', cs, ds, rfl, ha, hb, fun e H1 s1 => ?_, k2⟩
    subst e
    obtain ⟨dx, fs, lc, lw, ys, h1, F, _⟩ := id ha
    obtain ⟨dx', fs', lc', lw', ys', h1', F', _⟩ := id hb
    -- for mine, far in ((one, other), (other, one))
    refine ⟨_, rfl, _, rfl, (by show 2 ≤ sizeLine; decide), fun t1 ht1 => ?_⟩
    have s2 := same_upd (o := .tup [V.ref a, V.ref b]) ht1
    refine ⟨_, rfl, _, rfl, (by show 2 ≤ sizeLine; decide), fun t2 ht2 => ?_⟩
    have s3 := same_upd (o := .tup [V.ref b, V.ref a]) ht2
    refine ⟨(by show 2 ≤ sizeLine; decide), fun t3 ht3 => ?_⟩
    have s4 := same_upd (o := .tup [V.ref t1, V.ref t2]) ht3
    have et1 := s4 _ _ (s3 _ _ (upd_same (H := H1) (a := t1) (o := .tup [V.ref a, V.ref b])))
    have et2 := s4 _ _ (upd_same (H := upd H1 t1 (.tup [V.ref a, V.ref b])) (a := t2) (o := .tup [V.ref b, V.ref a]))
    generalize hH4 : upd (upd (upd H1 t1 (.tup [V.ref a, V.ref b])) t2 (.tup [V.ref b, V.ref a])) t3 (.tup [V.ref t1, V.ref t2]) = H4 at s4 et1 et2
    have et3 : H4 t3 = some (.tup [V.ref t1, V.ref t2]) := by rw [← hH4]; exact upd_same
    have s14 : Same H H4 := ((s1.trans s2).trans s3).trans s4
    refine ⟨t3, rfl, ⟨_, .inl (.inl et3)⟩, for_tup (K := K) (a := t3) (xs := [V.ref t1, V.ref t2]) (fun i σ H' => Same H4 H' ∧ ∃ (v : V) (v3 v4 v5 v6 v7 : Option V), σ = [some (.ref a), some (.ref b), some v, v3, v4, v5, v6, v7] ∧ BV H' v (outB m cs ds i)) ⟨Same.refl _, _, _, _, _, _, _, rfl, rfl⟩ (fun i σ H' _ h => .inl (.inl (h.1 _ _ et3))) ?_ ?_⟩
    · rintro i x σ H5 hx ⟨s5, v, v3, v4, v5, v6, v7, rfl, bv⟩
      have s15 := s14.trans s5
      obtain ⟨tt, ma, fa, cA, cB, rfl, ett, hma, hfa, hout⟩ : ∃ (tt ma fa : Addr) (cA cB : List Cell), x = V.ref tt ∧ H4 tt = some (.tup [V.ref ma, V.ref fa]) ∧ Col K H ma m cA ∧ Col K H fa m cB ∧ outB m cs ds (i + 1) = allB m cA cB (outB m cs ds i) m := by
        match i, hx with
        | 0, hx => exact ⟨t1, a, b, cs, ds, (Option.some.inj hx).symm, et1, ha, hb, rfl⟩
        | 1, hx => exact ⟨t2, b, a, ds, cs, (Option.some.inj hx).symm, et2, hb, ha, rfl⟩
        | j + 2, hx => simp at hx
      generalize outB m cs ds i = b0 at bv hout
      rw [hout]
      obtain ⟨dxm, fsm, lcm, lwm, ysm, hm1, Fm, _⟩ := id hma
      refine ⟨tt, _, rfl, .inl (.inl (s5 _ _ ett)), rfl, _, _, rfl, _, _, rfl, rfl, ?_⟩
      -- for start in range(..)
      obtain ⟨dxa, fsa, lca, lwa, ysa, ha1, Fa, _⟩ := id ha
      refine ⟨_, rfl, a, dx, fs, rfl, s15 _ _ h1, F.m3, a, m, cs, rfl, ha.same s15, fun H6 s6 => ⟨_, rfl, by omega, by omega, for_range (lo := 0) (n := (m : Int).toNat) (fun n σ H' => Same H4 H' ∧ ∃ (v : V) (v5 v6 v7 : Option V), σ = [some (.ref a), some (.ref b), some v, some (.ref ma), some (.ref fa), v5, v6, v7] ∧ BV H' v (allB m cA cB b0 n)) ⟨s5.trans s6, v, v5, v6, v7, rfl, bv.same s6⟩ ?_ ?_⟩⟩
      · rintro st σ H7 hst ⟨s7, v, v5, v6, v7, rfl, bv⟩
        have s17 := s14.trans s7
        have e0 : (0 : Int) + (st : Int) = (st : Int) := Int.zero_add _
        rw [e0, allB_succ]
        generalize allB m cA cB b0 st = b1 at bv
        -- for end in range(..)
        refine ⟨_, rfl, _, _, rfl, rfl, _, rfl, a, dx, fs, rfl, s17 _ _ h1, F.m3, a, m, cs, rfl, ha.same s17, fun H8 s8 => ⟨_, _, rfl, rfl, _, _, rfl, ⟨by omega, by omega, by omega, by omega⟩, for_range (lo := (st : Int) + 1) (n := ((m : Int) + 1 - ((st : Int) + 1)).toNat)
          (fun n σ H' => Same H4 H' ∧ ∃ (v : V) (v6 v7 : Option V), σ = [some (.ref a), some (.ref b), some v, some (.ref ma), some (.ref fa), some (.int st), v6, v7] ∧ BV H' v (rowB m cA cB b1 st n)) ⟨s7.trans s8, v, v6, v7, rfl, bv.same s8⟩ ?_ ?_⟩⟩
        · rintro j σ H9 hj ⟨s9, v, v6, v7, rfl, bv⟩
          have s19 := s14.trans s9
          have e4 : (st : Int) + 1 + (j : Int) = ((st + 1 + j : Nat) : Int) := by omega
          rw [e4, rowB_succ]
          generalize rowB m cA cB b1 st j = b2 at bv
          -- width = apart_by(..)
          refine ⟨_, rfl, _, rfl, _, rfl, _, rfl, ma, fa, m, cA, cB, st, st + 1 + j, rfl, hma.same s19, hfa.same s19, by omega, by omega, fun H10 s10 => ?_⟩
          have bv10 := bv.same s10
          refine ⟨fun bb H' => H' = H10 ∧ bb = (match cand m (KM.W cA) (KM.W cB) st (st + 1 + j) with | none => false | some w => lessB w b2), ?_, ?_⟩
          · cases hc : cand m (KM.W cA) (KM.W cB) st (st + 1 + j) with
            | none =>
              exact ⟨_, rfl, rfl, _, rfl, iteF ⟨rfl, rfl⟩⟩
            | some wd =>
              refine ⟨_, rfl, rfl, _, rfl, iteT ?_⟩
              cases b2 with
              | none =>
                have ev : v = V.non := bv
                subst ev
                exact ⟨_, rfl, rfl, _, rfl, iteT ⟨rfl, rfl⟩⟩
              | some bb =>
                obtain ⟨t, p, rfl, et, pl⟩ := bv10
                exact ⟨_, rfl, rfl, _, rfl, iteF ⟨_, rfl, _, rfl, t, _, _, _, rfl, rfl, .inl (.inl et), rfl, _, _, rfl, rfl, _, rfl, rfl, rfl⟩⟩
          · rintro bb H11 ⟨rfl, rfl⟩
            cases hc : cand m (KM.W cA) (KM.W cB) st (st + 1 + j) with
            | none =>
              refine iteF ⟨s9.trans s10, v, _, _, rfl, ?_⟩
              unfold stepB
              rw [hc]
              exact bv10
            | some wd =>
              refine ite2 (fun c => ?_) (fun c => ?_)
              · refine ⟨_, rfl, _, rfl, _, rfl, _, rfl, _, rfl, ma, m, cA, st, st + 1 + j, wd, rfl, hma.same (s19.trans s10), by omega, hm, fun p H12 s12 np hp => ⟨(by show 2 ≤ sizeLine; decide), fun t ht => ?_⟩⟩
                have s13 := same_upd (o := .tup [V.int wd, V.ref p]) ht
                refine ⟨((s9.trans s10).trans s12).trans s13, .ref t, _, _, rfl, ?_⟩
                unfold stepB
                rw [hc]
                show BV _ _ (if lessB wd b2 = true then _ else _)
                rw [if_pos c]
                exact ⟨t, p, rfl, upd_same, K9.PlAt.same s13 hp⟩
              · refine ⟨s9.trans s10, v, _, _, rfl, ?_⟩
                unfold stepB
                rw [hc]
                show BV _ _ (if lessB wd b2 = true then _ else _)
                rw [if_neg c]
                exact bv10
        · rintro σ H9 ⟨s9, v, v6, v7, rfl, bv⟩
          rw [show ((m : Int) + 1 - ((st : Int) + 1)).toNat = m - st by omega] at bv
          exact ⟨s9, v, _, _, _, rfl, bv⟩
      · rintro σ H7 ⟨s7, v, v5, v6, v7, rfl, bv⟩
        exact ⟨s7, v, _, _, _, _, _, rfl, bv⟩
    · rintro σ H5 ⟨s5, v, v3, v4, v5, v6, v7, rfl, bv⟩
      have bv' : BV H5 v (pap m cs ds) := bv
      have s15 := s14.trans s5
      cases hp : pap m cs ds with
      | none =>
        rw [hp] at bv'
        have ev : v = V.non := bv'
        subst ev
        refine ⟨_, rfl, rfl, _, rfl, iteT ?_⟩
        exact k1 rfl _ _ s15 (by rw [hp]; rfl)
      | some b2 =>
        rw [hp] at bv'
        obtain ⟨t, p, rfl, et, pl⟩ := bv'
        refine ⟨_, rfl, rfl, _, rfl, iteF ⟨_, rfl, t, _, _, _, rfl, rfl, .inl (.inl et), rfl, (by show 2 ≤ sizeLine; decide), fun u hu => ?_⟩⟩
        have s6 := same_upd (o := .tup [V.int b2.1, V.int 1]) hu
        refine ⟨_, rfl, t, _, _, _, rfl, rfl, .inl (.inl (s6 _ _ et)), rfl, (by show 2 ≤ sizeLine; decide), fun r hr' => ?_⟩
        have s7 := same_upd (o := .tup [V.ref u, V.ref p]) hr'
        refine k1 rfl _ _ ((s15.trans s6).trans s7) ?_
        rw [hp]
        exact ⟨r, u, p, rfl, upd_same, s7 _ _ upd_same, K9.PlAt.same (s6.trans s7) pl⟩
end
end K12

set_option Elab.async false
set_option linter.all false
set_option maxRecDepth 100000
set_option maxHeartbeats 4000000
/-! The law's own sums, and its columns. -/
namespace K13
open PySem PySem.Spec PyProof.Rows L2 KD K1 K2 K3 K4 K5 K6 K7 K8 K9 K10 K11 K12
section
variable {P : Program} {w : World} {K : PySem.W.Frag} {mg : Str → Option Value} {base : Heap}
/-! ### _law_way -/
def spWay : Nat → Sp
  | 0 => fun _ _ _ _ => False
  | n + 1 => fun vs H Q _ => ∃ (c : Addr) (i j : Int) (ys : List V) (cs : List Cell), vs = [.ref c, .int i, .int j] ∧ H c = some (.lst ys) ∧ CRels H ys cs ∧ KM.Ok cs ∧ j - i < (n : Int) ∧
    ∀ H', Same H H' → Q (.int (KM.W cs i j)) H'
def wayW (c : Addr) (i j : Int) (cs : List Cell) (H : Hp) (k : Nat) (σ : L2.St) (H' : Hp) : Prop :=
  Same H H' ∧ ∃ v4 v5 v6 v7 : Option V, σ = [some (.ref c), some (.int i), some (.int j), some (.int (KM.fm (KM.inn i j) (fun d => d.n + KM.W cs (d.l + 1) j) 0 (cs.take k))), v4, v5, v6, v7]
abbrev NLawWay : List Str := ["_law_cells_here", "_law_start", "_law_end", "_law_found", "_law_first", "_law_last", "_law_need", "_law_wish"]
theorem scLawWay : FnScope NLawWay ["_law_cells_here", "_law_start", "_law_end"] (defScope sLawWay) := ⟨rfl, rfl, rfl, by decide +kernel, rfl, by decide +kernel, by decide +kernel⟩
theorem ok_way0 (T : Txt K mg) : Has P w K mg base CX0 "_law_way" 1 ["_law_cells_here", "_law_start", "_law_end"] (spWay 0) := by
  refine Has.mk T 33 (d := dLawWay) rfl rfl ⟨rfl, rfl⟩ T.g__law_way scLawWay (fun _ _ _ _ _ _ us hl => match us, hl with | [_, _, _], _ => rfl) (fun vs H Q E h => h.elim) (fun cdv A outer s H vs Q E hr h => (show False from h).elim)
theorem ok_way1 (T : Txt K mg) (n : Nat) (hR : Has P w K mg base CX0 "_law_way" (n + 1) ["_law_cells_here", "_law_start", "_law_end"] (spWay n)) :
    Has P w K mg base CX0 "_law_way" (n + 2) ["_law_cells_here", "_law_start", "_law_end"] (spWay (n + 1)) := by
  refine Has.mk T 33 (d := dLawWay) rfl rfl ⟨rfl, rfl⟩ T.g__law_way scLawWay (fun _ _ _ _ _ _ us hl => match us, hl with | [_, _, _], _ => rfl) (fun vs H Q E h => ?_) (fun cdv A outer s H vs Q E hr h => ?_)
  · obtain ⟨c, i, j, ys, cs, rfl, _⟩ := h
    rfl
  · obtain ⟨c, i, j, ys, cs, rfl, hc, cr, ok, hn, k⟩ := h
    refine ⟨_, (pss_cons (ps_set (i := 3) scLawWay.nd rfl (Or.inl rfl) pe_int)
      (pss_cons (ps_for PassesOwn.never rfl (pi_list (pv 0)) (pg_tup rfl (pgs_cons (pg_name (i := 4) scLawWay.nd rfl (Or.inl rfl)) (pgs_cons (pg_name (i := 5) scLawWay.nd rfl (Or.inl rfl)) (pgs_cons (pg_name (i := 6) scLawWay.nd rfl (Or.inl rfl)) (pgs_cons (pg_name (i := 7) scLawWay.nd rfl (Or.inl rfl)) pgs_nil))))) (pss_one (ps_if (pt_cut (PW.pt (pw_and (pt_cmpR op_ge (pv 4) (pv 1) (nomark _)) (pw_and1 (pt_cmpR op_lt (pv 5) (pv 2) (nomark _)))))) (pss_one (ps_set (i := 3) scLawWay.nd rfl (Or.inl rfl) (pe_callB (call_max2 rfl) (by rfl) T.f_max (by decide +kernel) (pa_cons (pv 3) (pa_cons (pe_op op_add (pv 6) (pe_callH hR hr (by rfl) pass0 (pa_cons (pv 0) (pa_cons (pe_op op_add (pv 5) pe_int) (pa_cons (pv 2) pa_nil))))) pa_nil))))) pss_nil)))
      (pss_one (ps_ret (pv 3))))), ?_⟩
    refine ⟨_, rfl, c, rfl, ⟨_, SqL.of hc⟩, for_list (K := K) (a := c) (xs := ys) (wayW c i j cs H) ⟨Same.refl H, none, none, none, none, rfl⟩ (fun k σ H' _ h => SqL.of (h.1 _ _ hc)) ?_ ?_⟩
    · rintro q x σ H1 hx ⟨s1, v4, v5, v6, v7, rfl⟩
      obtain ⟨d, hd, t, rfl, et⟩ := pr_get cr hx
      have fl := ok d (List.mem_of_getElem? hd)
      have etk : cs.take (q + 1) = cs.take q ++ [d] := take_snoc hd
      refine ⟨t, _, rfl, .inl (.inl (s1 _ _ et)), rfl, _, _, rfl, _, _, rfl, _, _, rfl, _, _, rfl, rfl, ?_⟩
      refine ⟨fun b H' => H' = H1 ∧ b = KM.inn i j d, ?_, ?_⟩
      · refine ⟨_, rfl, _, rfl, _, _, rfl, rfl, _, rfl, ite2 (fun c1 => ?_) (fun c1 => ?_)⟩
        · refine ⟨_, rfl, _, rfl, _, _, rfl, rfl, _, rfl, rfl, ?_⟩
          have q1 : i ≤ d.f := of_decide_eq_true c1
          unfold KM.inn
          rw [decide_eq_true q1]
          rfl
        · have q1 : ¬ i ≤ d.f := fun z => c1 (decide_eq_true z)
          refine ⟨rfl, ?_⟩
          unfold KM.inn
          rw [decide_eq_false q1]
          rfl
      · rintro b H2 ⟨rfl, rfl⟩
        refine ite2 (fun c1 => ?_) (fun c1 => ?_)
        · obtain ⟨q1, q2⟩ := KM.inn_iff.mp c1
          cases n with
          | zero => omega
          | succ n =>
            refine ⟨_, rfl, _, rfl, _, rfl, _, rfl, _, _, rfl, rfl, _, rfl, c, d.l + 1, j, ys, cs, rfl, s1 _ _ hc, cr.same s1, ok, by omega, fun H3 s3 => ⟨_, _, rfl, rfl, _, _, rfl, ?_⟩⟩
            refine ⟨s1.trans s3, some (.int d.f), some (.int d.l), some (.int d.n), some (.int d.w), ?_⟩
            rw [max_eq, etk, KM.fm_snoc, if_pos c1]
            rfl
        · refine ⟨s1, some (.int d.f), some (.int d.l), some (.int d.n), some (.int d.w), ?_⟩
          rw [etk, KM.fm_snoc, if_neg c1]
          rfl
    · rintro σ H1 ⟨s1, v4, v5, v6, v7, rfl⟩
      have eall : cs.take ys.length = cs := List.take_of_length_le (by rw [pr_length cr]; exact Nat.le_refl _)
      rw [eall, ← KM.W_eq ok]
      exact ⟨_, rfl, k _ s1⟩
theorem ok_way (T : Txt K mg) : ∀ n : Nat, Has P w K mg base CX0 "_law_way" (n + 1) ["_law_cells_here", "_law_start", "_law_end"] (spWay n)
  | 0 => ok_way0 T
  | n + 1 => ok_way1 T n (ok_way T n)
/-! ### _law_ways -/
def spLWays : Sp := fun vs H Q _ => ∃ (m : Nat) (c : Addr) (ys : List V) (cs : List Cell), vs = [.int m, .ref c] ∧ m ≤ 10 ∧ H c = some (.lst ys) ∧ CRels H ys cs ∧ KM.Ok cs ∧
  ∀ (p : Addr) (H' : Hp), Same H H' → H p = none → K6.TabAt H' p m (KM.W cs) → Q (.ref p) H'
abbrev NLawWays : List Str := ["_law_many", "_law_cells_here", "_law_found", "_law_start", "_law_end"]
theorem scLawWays : FnScope NLawWays ["_law_many", "_law_cells_here"] (defScope sLawWays) := ⟨rfl, rfl, rfl, by decide +kernel, rfl, by decide +kernel, by decide +kernel⟩
theorem ok_law_ways (T : Txt K mg) (h__law_way : Has P w K mg base CX0 "_law_way" 13 ["_law_cells_here", "_law_start", "_law_end"] (spWay 12)) : Has P w K mg base CX0 "_law_ways" 14 ["_law_many", "_law_cells_here"] spLWays := by
  refine Has.mk T 34 (d := dLawWays) rfl rfl ⟨rfl, rfl⟩ T.g__law_ways scLawWays (fun _ _ _ _ _ _ us hl => match us, hl with | [_, _], _ => rfl) (fun vs H Q E h => ?_) (fun cdv A outer s H vs Q E hr h => ?_)
  · obtain ⟨m, c, ys, cs, rfl, _⟩ := h
    rfl
  · obtain ⟨m, c, ys, cs, rfl, hm2, hc, cr, ok, k⟩ := h
    refine ⟨_, (pss_cons (ps_set (i := 2) scLawWays.nd rfl (Or.inl rfl) pe_dnewT)
      (pss_cons (ps_for PassesOwn.never rfl (pi_range1 (by rfl) T.f_range (pa_cons (pe_op op_add (pv 0) pe_int) pa_nil)) (pg_name (i := 3) scLawWays.nd rfl (Or.inl rfl)) (pss_one (ps_for PassesOwn.never rfl (pi_range2 (by rfl) T.f_range (pa_cons (pv 3) (pa_cons (pe_op op_add (pv 0) pe_int) pa_nil))) (pg_name (i := 4) scLawWays.nd rfl (Or.inl rfl)) (pss_one (ps_dput (hu_of hr) (pv 2) (pe_tup (pa_cons (pv 3) (pa_cons (pv 4) pa_nil))) (pe_callH h__law_way (hr.mono (by decide)) (by rfl) pass0 (pa_cons (pv 1) (pa_cons (pv 3) (pa_cons (pv 4) pa_nil)))) rfl)))))
      (pss_one (ps_ret (pv 2))))), ?_⟩
    intro p hp
    have len200 : ∀ i j, i ≤ m → j ≤ m + 1 → (prei m i j).length ≤ 1000 := fun i j h1 h2 => by
      have h := prei_len m i j
      have h3 : i * (m + 1) ≤ 10 * 11 := Nat.mul_le_mul (by omega) (by omega)
      omega
    have keep : ∀ {H1 : Hp} {o : HO}, Same H H1 → Same H (upd H1 p o) := fun {H1 o} s b x e => by
      rw [upd_ne (ne_of_none e hp)]
      exact s _ _ e
    refine ⟨_, rfl, _, _, rfl, rfl, _, rfl, by omega, by omega, for_range (lo := 0) (n := ((m : Int) + 1).toNat)
      (fun i σ H' => Same H H' ∧ H' p = some (.dT (tabL (KM.W cs) (prei m i 0))) ∧ ∃ v3 v4 : Option V, σ = [some (.int m), some (.ref c), some (.ref p), v3, v4]) ⟨same_upd hp, upd_same, _, _, rfl⟩ ?_ ?_⟩
    · rintro i σ H1 hi ⟨s1, e1, v3, v4, rfl⟩
      have hi' : i ≤ m := by omega
      have e0 : (0 : Int) + (i : Int) = (i : Int) := Int.zero_add _
      rw [e0]
      refine ⟨_, rfl, _, rfl, _, _, rfl, rfl, _, _, rfl, ⟨by omega, by omega, by omega, by omega⟩, for_range (lo := (i : Int)) (n := ((m : Int) + 1 - (i : Int)).toNat)
        (fun j σ H' => Same H H' ∧ H' p = some (.dT (tabL (KM.W cs) (prei m i j))) ∧ ∃ v4 : Option V, σ = [some (.int m), some (.ref c), some (.ref p), some (.int i), v4]) ⟨s1, e1, v4, rfl⟩ ?_ ?_⟩
      · rintro j σ H2 hj ⟨s3, e3, v4, rfl⟩
        have e4 : (i : Int) + (j : Int) = ((i + j : Nat) : Int) := by omega
        rw [e4]
        refine ⟨_, rfl, _, rfl, _, rfl, c, _, _, ys, cs, rfl, s3 _ _ hc, cr.same s3, ok, (by show ((i + j : Nat) : Int) - (i : Int) < (11 : Int); omega), fun H3 s4 => ?_⟩
        refine ⟨_, rfl, _, rfl, _, rfl, (by show 2 ≤ sizeLine; decide), fun t ht => ?_⟩
        have e5 := s4 _ _ e3
        have npt : p ≠ t := ne_of_none e5 ht
        refine ⟨p, _, rfl, dput i (i + j) (by rw [upd_ne npt]; exact e5) upd_same rfl rfl rfl (by rw [mem_prei]; rintro (⟨h, _⟩ | ⟨_, _, h⟩) <;> simp only at h <;> omega) (len200 _ _ hi' (by omega)), ?_⟩
        refine ⟨keep ((s3.trans s4).trans (same_upd ht)), ?_, _, rfl⟩
        rw [upd_same, prei_snoc]
      · rintro σ H2 ⟨s3, e3, v4, rfl⟩
        refine ⟨s3, ?_, _, _, rfl⟩
        rw [e3, show ((m : Int) + 1 - (i : Int)).toNat = m + 1 - i by omega, prei_next]
    · rintro σ H1 ⟨s1, e1, v3, v4, rfl⟩
      refine ⟨_, rfl, k p H1 s1 hp ?_⟩
      unfold K6.TabAt alli
      rw [e1, show ((m : Int) + 1).toNat = m + 1 by omega]
/-! ### _law_columns -/
def cellD (c : Cell) : D := .s [.i c.f, .i c.l, .i c.n, .i c.w]
theorem rep_cell {a : Addr} {H : Hp} {n : Nat} (hs : Strm H a n) {v : V} {c : Cell} (h : CRel H v c) : Rep (· ≠ a) 1 H v (cellD c) := by
  obtain ⟨t, e, q⟩ := h
  have ne : t ≠ a := fun z => by
    obtain ⟨x1, y1, z1, e1, _⟩ := hs
    rw [z, e1] at q
    cases q
  exact .inr ⟨t, cv c, _, e, rfl, ne, .inr q, (by show 4 ≤ 10; decide), .cons ⟨_, rfl, rfl⟩ (.cons ⟨_, rfl, rfl⟩ (.cons ⟨_, rfl, rfl⟩ (.cons ⟨_, rfl, rfl⟩ .nil)))⟩
theorem rep_cells {a : Addr} {H : Hp} {n : Nat} (hs : Strm H a n) : ∀ {ys : List V} {cs : List Cell}, CRels H ys cs → Paired (Rep (· ≠ a) 1 H) ys (cs.map cellD)
  | _, _, .nil => .nil
  | _, _, .cons h r => .cons (rep_cell hs h) (rep_cells hs r)
theorem of_rep1 {ok : Addr → Prop} {H : Hp} {v : V} {c : Cell} (h : Rep ok 1 H v (cellD c)) : SRel H v c := by
  rcases h with ⟨z, _, e⟩ | ⟨t, vs, ds, e1, e2, _, q, _, p⟩
  · cases e
  · unfold cellD at e2
    injection e2 with e2
    subst e2
    obtain ⟨t, rfl⟩ : ∃ t', t' = t := ⟨t, rfl⟩
    refine ⟨t, e1, ?_⟩
    cases p with
    | cons h1 p =>
      cases p with
      | cons h2 p =>
        cases p with
        | cons h3 p =>
          cases p with
          | cons h4 p =>
            cases p
            obtain ⟨z1, rfl, d1⟩ := h1
            obtain ⟨z2, rfl, d2⟩ := h2
            obtain ⟨z3, rfl, d3⟩ := h3
            obtain ⟨z4, rfl, d4⟩ := h4
            injection d1 with d1
            injection d2 with d2
            injection d3 with d3
            injection d4 with d4
            subst d1 d2 d3 d4
            exact q
theorem of_reps {ok : Addr → Prop} {H : Hp} : ∀ {vs : List V} {cs : List Cell}, Paired (Rep ok 1 H) vs (cs.map cellD) → SRels H vs cs
  | [], [], _ => .nil
  | _ :: _, _ :: _, .cons h r => .cons (of_rep1 h) (of_reps r)
def spLCols (K : PySem.W.Frag) : Sp := fun vs H Q _ => ∃ (a c : Addr) (m : Nat) (B : Int) (ys : List V) (cs : List Cell) (n : Nat), vs = [.ref a, .int m, .ref c] ∧ Strm H a n ∧ n ≤ 800000 ∧ c ≠ a ∧ 1 ≤ m ∧ m ≤ 10 ∧ H c = some (.lst ys) ∧ CRels H ys cs ∧ (∀ d ∈ cs, Good m B d) ∧ ys.length ≤ 10 ∧
  ∀ (x : Addr) (H' : Hp), But a H H' → Strm H' a (n + 11) → Col K H' x m cs → Q (.ref x) H'
abbrev NLawColumns : List Str := ["_law_stream_here", "_law_many", "_law_cells_here"]
theorem scLawColumns : FnScope NLawColumns ["_law_stream_here", "_law_many", "_law_cells_here"] (defScope sLawColumns) := ⟨rfl, rfl, rfl, by decide +kernel, rfl, by decide +kernel, by decide +kernel⟩
theorem ok_law_columns (T : Txt K mg) (h__law_as_lists : Has P w K mg base CX0 "_law_as_lists" 5 ["_law_stream_here", "_law_thing"] (spAL 3)) (hC_init : HasI P w K mg base CX0 4 ["self", "many", "cells"] (spInit K)) :
    Has P w K mg base CX0 "_law_columns" 6 ["_law_stream_here", "_law_many", "_law_cells_here"] (spLCols K) := by
  refine Has.mk T 35 (d := dLawColumns) rfl rfl ⟨rfl, rfl⟩ T.g__law_columns scLawColumns (fun _ _ _ _ _ _ us hl => match us, hl with | [_, _, _], _ => rfl) (fun vs H Q E h => ?_) (fun cdv A outer s H vs Q E hr h => ?_)
  · obtain ⟨a, c, m, B, ys, cs, n, rfl, _⟩ := h
    rfl
  · obtain ⟨a, c, m, B, ys, cs, n, rfl, hs, hn, hca, hm1, hm2, hc, cr, gd, hl, k⟩ := h
    refine ⟨_, (pss_one (ps_ret (pe_makeH hC_init (hr.mono (by decide)) (by rfl) T pass0 (pa_cons (pv 1) (pa_cons (pe_callH h__law_as_lists (hr.mono (by decide)) (by rfl) pass0 (pa_cons (pv 0) (pa_cons (pv 2) pa_nil))) pa_nil))))), ?_⟩
    have c2 : cost 2 = 11 := rfl
    refine ⟨_, rfl, _, rfl, _, rfl, a, .ref c, .s (cs.map cellD), n, rfl, hs, (by show n + 11 ≤ 900000; omega), .inr ⟨c, ys, _, rfl, rfl, hca, .inl hc, hl, rep_cells hs cr⟩, fun v' H1 rp st bt => ?_⟩
    rcases rp with ⟨z, _, e⟩ | ⟨b, vs, ds, rfl, e2, hb0, hS, hl2, pr⟩
    · cases e
    injection e2 with e2
    subst e2
    have sr := of_reps pr
    intro x dx nx ndx nxd
    have s2 : Same H1 (upd (upd H1 dx (.own x)) x (.ins (CC K) dx [])) := fun b' o e => by
      rw [upd_ne (ne_of_none e nx), upd_ne (ne_of_none e ndx)]
      exact e
    have hlv := pr_length sr
    refine ⟨x, dx, b, m, B, vs, cs, rfl, upd_same, hm1, hm2, K1.Same.sq s2 hS, sr.same s2, by omega, gd, fun H2 b2 col => ⟨rfl, ?_⟩⟩
    have nax : a ≠ x := ne_of_none st.lt.choose_spec nx
    have nab : ∀ b' o, H1 b' = some o → H2 b' = some o := fun b' o e => b2 _ _ (s2 _ _ e) (ne_of_none e nx)
    exact k x H2 (fun b' o e ne => nab _ _ (bt _ _ e ne)) (st.same nab) col
/-! ### _law_is_frac -/
def spFrac : Sp := fun vs H Q _ => ∃ (t : Addr) (x y : Int), vs = [.ref t] ∧ H t = some (.tup [.int x, .int y]) ∧ 0 < y ∧ ∀ H', Same H H' → Q (.bl true) H'
abbrev NLawIsFrac : List Str := ["_law_thing", "_law_one"]
theorem scLawIsFrac : FnScope NLawIsFrac ["_law_thing"] (defScope sLawIsFrac) := ⟨rfl, rfl, rfl, by decide +kernel, rfl, by decide +kernel, by decide +kernel⟩
theorem ok_law_is_frac (T : Txt K mg) : Has P w K mg base CX0 "_law_is_frac" 1 ["_law_thing"] spFrac := by
  refine Has.mk T 31 (d := dLawIsFrac) rfl rfl ⟨rfl, rfl⟩ T.g__law_is_frac scLawIsFrac (fun _ _ _ _ _ _ us hl => match us, hl with | [_], _ => rfl) (fun vs H Q E h => ?_) (fun cdv A outer s H vs Q E hr h => ?_)
  · obtain ⟨t, x, y, rfl, _⟩ := h
    rfl
  · obtain ⟨t, x, y, rfl, ht, hy, k⟩ := h
    refine ⟨_, (pss_cons (ps_if (PW.pt (pw_or (pt_not (pt_val (pe_callB call_isiT (by rfl) T.f_isinstance (by decide +kernel) (pa_cons (pv 0) (pa_cons (pe_tup (pa_cons (pe_bltn (v := .ty "list") (by rfl) T.f_list (by decide +kernel) rfl) (pa_cons (pe_bltn (v := .ty "tuple") (by rfl) T.f_tuple (by decide +kernel) rfl) pa_nil))) pa_nil))))) (pw_or1 (pt_cmpR op_ne (pe_callB call_len_seq (by rfl) T.f_len PySem.boot_len (pa_cons (pv 0) pa_nil)) pe_int (nomark _))))) (pss_one (ps_ret pe_bl)) pss_nil)
      (pss_cons (ps_if (pt_not (pt_val (pe_callB (cr_all rfl) (by rfl) T.f_all (by decide +kernel) (pa_cons (pe_cut (pe_lc (own := [("_law_one", 1)]) (g := (gName 1)) (by rfl) scLawIsFrac.nd (pi_tup (pv 0)) (blkOk_by (own := [("_law_one", 1)]) (N := NLawIsFrac) (sc := defScope sLawIsFrac) (by decide +kernel)) (fun _ _ _ _ _ => (pg_name (i := 1) scLawIsFrac.nd rfl (Or.inl rfl))) (fun _ _ _ _ _ => pts_nil) (fun _ _ _ _ _ => (pe_and (pe_callB (K1.call_isiK (K := K) rfl) (by rfl) T.f_isinstance (by decide +kernel) (pa_cons (pv 1) (pa_cons (pe_bltn (v := .ty "int") (by rfl) T.f_int (by decide +kernel) rfl) pa_nil))) (pe_one (pe_not (pe_callB (K1.call_isiK (K := K) rfl) (by rfl) T.f_isinstance (by decide +kernel) (pa_cons (pv 1) (pa_cons (pe_bltn (v := .ty "bool") (by rfl) T.f_bool (by decide +kernel) rfl) pa_nil))))))))) pa_nil)))) (pss_one (ps_ret pe_bl)) pss_nil)
      (pss_one (ps_ret (pe_cmpR op_gt (pe_ix ix_tup (pv 0) pe_int (fun _ _ => rfl)) pe_int (nomark _)))))), ?_⟩
    refine ⟨_, rfl, (by show 2 ≤ sizeLine; decide), fun tp htp => ?_⟩
    have s1 := same_upd (o := .tup [V.ty "list", V.ty "tuple"]) htp
    refine ⟨_, tp, _, _, _, true, rfl, upd_same, pairedTy (K := K) (H := H), .base (.tup (s1 _ _ ht)), kitTT, _, rfl, iteF ?_⟩
    refine ⟨_, rfl, t, _, rfl, .inr (.inl (.inl (s1 _ _ ht))), rfl, _, rfl, iteNS (c := V.int (([V.int x, V.int y] : List V).length : Nat) = V.int 2) rfl ?_⟩
    refine ⟨fun v H' => Same H H' ∧ ∃ D, v = .ref D ∧ H' D = some (.lst [.bl true, .bl true]), ?_, ?_⟩
    · refine ⟨_, rfl, t, rfl, ⟨_, .inl (.inl (s1 _ _ ht))⟩, fun D hD => lc_it (walk_tup (xs := [V.int x, V.int y])) (fun j H' => Same H H' ∧ Same (upd H tp (.tup [V.ty "list", V.ty "tuple"])) H' ∧ j ≤ 2 ∧ H' D = some (.lst (List.replicate j (.bl true)))) ⟨s1.trans (same_upd hD), same_upd hD, by decide, upd_same⟩ (fun j H' _ h => .inl (.inl (h.1 _ _ ht))) ?_ ?_⟩
      · rintro j z H2 H3 hj ⟨s2, s3, hj2, eD⟩ ⟨rfl, hz⟩
        obtain ⟨q, rfl⟩ : ∃ q : Int, z = .int q := by
          match j, hz with
          | 0, hz => exact ⟨_, (Option.some.inj hz).symm⟩
          | 1, hz => exact ⟨_, (Option.some.inj hz).symm⟩
          | j + 2, hz => simp at hz
        have hj' : j < 2 := hj
        refine ⟨rfl, _, rfl, _, _, _, _, true, rfl, .ty _, .base (.int q), kit_ty (by decide +kernel), true, rfl, iteT ?_⟩
        refine ⟨_, rfl, _, _, _, _, false, rfl, .ty _, .base (.int q), kit_ty (by decide +kernel), false, rfl, _, eD, small1000 (by rw [List.length_replicate]; omega), fun b o hb => ?_, fun b o hb => ?_, by omega, ?_⟩
        · rw [upd_ne (ne_of_none hb (s1.free hD))]
          exact s2 _ _ hb
        · rw [upd_ne (ne_of_none hb hD)]
          exact s3 _ _ hb
        · rw [upd_same, List.replicate_succ']
          rfl
      · rintro H2 ⟨s2, _, _, eD⟩
        exact ⟨s2, D, rfl, eD⟩
    · rintro v H2 ⟨s2, D, rfl, eD⟩
      refine ⟨D, [true, true], rfl, SqL.of eD, true, rfl, iteF ?_⟩
      refine ⟨_, rfl, t, _, _, _, rfl, rfl, .inl (.inl (s2 _ _ ht)), rfl, _, _, rfl, rfl, ?_⟩
      show Q (V.bl (decide (y > 0))) H2
      rw [decide_eq_true hy]
      exact k _ s2
end
end K13

set_option Elab.async false
set_option linter.all false
set_option maxRecDepth 100000
set_option maxHeartbeats 4000000
/-! Whether some placing of the one is none of the other, at a width. -/
namespace K14
open PySem PySem.Spec PyProof.Rows L2 KD K1 K2 K3 K4 K5 K6 K7 K8 K9 K10 K11 K12 K13
def leastB (m : Nat) (A : Int → Int → Int) (wd : Int) (p : Ix) : Int := if p.1 = 0 ∧ p.2 = m then wd else max (A p.1 p.2) (A 0 p.2 + A p.1 m - wd)
def nearP (m : Nat) (A B : Int → Int → Int) (wd : Int) (p : Ix) : Bool := decide (p.1 < p.2) && decide (leastB m A wd p < B p.1 p.2)
def nearB (m : Nat) (A B : Int → Int → Int) (wd : Int) : Bool := if wd < A 0 m then false else (alli m).any (nearP m A B wd)
theorem eqv_pair (a b c d : Int) : PyData.eqv (.tuple [.int a, .int b]) (.tuple [.int c, .int d]) = (decide (a = c) && decide (b = d)) := by
  simp only [PyData.eqv, PyData.eqvAll, Bool.and_true]
  rfl
theorem lock_same {H H' : Hp} {a : Addr} {o : Obj} {u : HO} (e : H a = some u) (s : Same (upd H a (.frz o u)) H') : Same H (upd H' a u) := fun b x h => by
  by_cases z : b = a
  · subst z
    rw [upd_same]
    rw [← h, e]
  · rw [upd_ne z]
    exact s b x (by rw [upd_ne z]; exact h)
theorem dgetF {H : Hp} {p t : Addr} {g : Int → Int → Int} {l : List Ix} {o : Obj} {x y : Int} (s e : Nat) (hp : H p = some (.frz o (.dT (tabL g l)))) (ht : H t = some (.tup [.int x, .int y])) (hx : x = s) (hy : y = e) (hm : (s, e) ∈ l) :
    DGet H p (.ref t) (some (.int (g s e))) := by
  subst hx hy
  exact .inr ⟨_, keyT (s, e), t, .inr ⟨o, hp⟩, rfl, ht, (val_in g hm).symm⟩
section
variable {P : Program} {w : World} {K : PySem.W.Frag} {mg : Str → Option Value} {base : Heap}
def spHasN : Sp := fun vs H Q _ => ∃ (m : Nat) (a b : Addr) (A B : Int → Int → Int) (wd : Int), vs = [.int m, .ref a, .ref b, .int wd] ∧ a ≠ b ∧ K6.TabAt H a m A ∧ K6.TabAt H b m B ∧
  ∀ H', Same H H' → Q (.bl (nearB m A B wd)) H'
abbrev NLawHasNearer : List Str := ["_law_many", "_law_ways_here", "_law_others", "_law_width", "_law_start", "_law_end", "_law_crossed", "_law_least"]
theorem scLawHasNearer : FnScope NLawHasNearer ["_law_many", "_law_ways_here", "_law_others", "_law_width"] (defScope sLawHasNearer) := ⟨rfl, rfl, rfl, by decide +kernel, rfl, by decide +kernel, by decide +kernel⟩
theorem ok_has_nearer (T : Txt K mg) : Has P w K mg base CX0 "_law_has_nearer" 1 ["_law_many", "_law_ways_here", "_law_others", "_law_width"] spHasN := by
  refine Has.mk T 38 (d := dLawHasNearer) rfl rfl ⟨rfl, rfl⟩ T.g__law_has_nearer scLawHasNearer (fun _ _ _ _ _ _ us hl => match us, hl with | [_, _, _, _], _ => rfl) (fun vs H Q E h => ?_) (fun cdv A0 outer s0 H vs Q E hr h => ?_)
  · obtain ⟨m, a, b, A, B, wd, rfl, _⟩ := h
    rfl
  · obtain ⟨m, a, b, A, B, wd, rfl, hab, ha, hb, k⟩ := h
    refine ⟨_, (pss_cons (ps_if (pt_cmpR op_lt (pv 3) (pe_dget (hu_of hr) (pv 1) (pe_tup (pa_cons pe_int (pa_cons (pv 0) pa_nil))) (fun _ _ => rfl)) (nomark _)) (pss_one (ps_ret pe_bl)) pss_nil)
      (pss_cons (ps_lock (ps_for PassesOwn.never rfl (pi_keys (pv 1)) (pg_tup rfl (pgs_cons (pg_name (i := 4) scLawHasNearer.nd rfl (Or.inl rfl)) (pgs_cons (pg_name (i := 5) scLawHasNearer.nd rfl (Or.inl rfl)) pgs_nil))) (pss_cons (ps_set (i := 6) scLawHasNearer.nd rfl (Or.inl rfl) (pe_op op_sub (pe_op op_add (pe_dget (hu_of hr) (pv 1) (pe_tup (pa_cons pe_int (pa_cons (pv 5) pa_nil))) (fun _ _ => rfl)) (pe_dget (hu_of hr) (pv 1) (pe_tup (pa_cons (pv 4) (pa_cons (pv 0) pa_nil))) (fun _ _ => rfl))) (pv 3))) (pss_cons (ps_set (i := 7) scLawHasNearer.nd rfl (Or.inl rfl) (pe_cut (pe_ifExp (pt_cmpR (op_eqD hr.units) (pe_tup (pa_cons (pv 4) (pa_cons (pv 5) pa_nil))) (pe_tup (pa_cons pe_int (pa_cons (pv 0) pa_nil))) (nomark _)) (pv 3) (pe_callB (call_max2 rfl) (by rfl) T.f_max (by decide +kernel) (pa_cons (pe_dget (hu_of hr) (pv 1) (pe_tup (pa_cons (pv 4) (pa_cons (pv 5) pa_nil))) (fun _ _ => rfl)) (pa_cons (pv 6) pa_nil)))))) (pss_one (ps_if (pt_cut (PW.pt (pw_and (pt_cmpR op_lt (pv 4) (pv 5) (nomark _)) (pw_and1 (pt_cmpR op_lt (pv 7) (pe_dget (hu_of hr) (pv 2) (pe_tup (pa_cons (pv 4) (pa_cons (pv 5) pa_nil))) (fun _ _ => rfl)) (nomark _)))))) (pss_one (ps_ret pe_bl)) pss_nil))))))
      (pss_one (ps_ret pe_bl)))), ?_⟩
    refine ⟨_, rfl, _, rfl, _, rfl, (by show 2 ≤ sizeLine; decide), fun t ht => ?_⟩
    have s1 := same_upd (o := .tup [.int 0, .int (m : Int)]) ht
    refine ⟨a, _, rfl, dget 0 m (s1 _ _ ha) upd_same rfl rfl (mem_alli.mpr ⟨Nat.zero_le _, Nat.le_refl _⟩), _, _, rfl, rfl, _, rfl, ite2 (fun c => ?_) (fun c => ?_)⟩
    · have c1 : wd < A 0 m := of_decide_eq_true c
      have h := k _ s1
      unfold nearB at h
      rw [if_pos c1] at h
      exact h
    · have c1 : ¬ wd < A 0 m := of_decide_eq_false (Bool.eq_false_iff.mpr c)
      have eN : nearB m A B wd = (alli m).any (nearP m A B wd) := by
        unfold nearB
        rw [if_neg c1]
      generalize hHa : upd H t (.tup [.int 0, .int (m : Int)]) = Ha at *
      have ha1 : K6.TabAt Ha a m A := s1 _ _ ha
      have hb1 : K6.TabAt Ha b m B := s1 _ _ hb
      refine ⟨a, _, ha1, True.intro, fun od => ?_⟩
      generalize hHb : upd Ha a (.frz od (.dT (tabL A (alli m)))) = Hb
      have ea : Hb a = some (.frz od (.dT (tabL A (alli m)))) := by
        rw [← hHb]
        exact upd_same
      have eb : Hb b = some (.dT (tabL B (alli m))) := by
        rw [← hHb, upd_ne hab.symm]
        exact hb1
      have fin : ∀ {H' : Hp}, Same Hb H' → Same H (upd H' a (.dT (tabL A (alli m)))) := fun {H'} s => s1.trans (lock_same ha1 (by rw [hHb]; exact s))
      refine ⟨_, rfl, a, od, rfl, .inr ⟨_, ea, for_it (walk_keysT (d := a) (o := od) (kvs := tabL A (alli m)))
        (fun i σ H' => Same Hb H' ∧ ((alli m).take i).any (nearP m A B wd) = false ∧ ∃ v4 v5 v6 v7 : Option V, σ = [some (.int m), some (.ref a), some (.ref b), some (.int wd), v4, v5, v6, v7]) ⟨Same.refl _, rfl, _, _, _, _, rfl⟩ (fun i σ H' _ h => h.1 _ _ ea) ?_ ?_⟩⟩
      · rintro i x σ H1 H2 hi ⟨s2, hn, v4, v5, v6, v7, rfl⟩ ⟨rfl, key, v, q, ekv, rfl, eq⟩
        unfold tabL at ekv
        rw [List.getElem?_map] at ekv
        obtain ⟨p, hp, ep⟩ := Option.map_eq_some_iff.mp ekv
        have hkey : key = keyT p := (congrArg Prod.fst ep).symm
        subst hkey
        obtain ⟨s, e⟩ := p
        have hm : (s, e) ∈ alli m := List.mem_of_getElem? hp
        obtain ⟨hse, hem⟩ := mem_alli.mp hm
        have etk : (alli m).take (i + 1) = (alli m).take i ++ [(s, e)] := take_snoc hp
        refine ⟨q, [.int s, .int e], rfl, .inl (.inl eq), rfl, _, _, rfl, _, _, rfl, rfl, ?_⟩
        -- crossed
        refine ⟨_, rfl, _, rfl, (by show 2 ≤ sizeLine; decide), fun t1 ht1 => ?_⟩
        have s3 := same_upd (o := .tup [.int 0, .int (e : Int)]) ht1
        refine ⟨a, _, rfl, dgetF 0 e ((s2.trans s3) _ _ ea) upd_same rfl rfl (mem_alli.mpr ⟨Nat.zero_le _, hem⟩), _, rfl, _, rfl, _, rfl, (by show 2 ≤ sizeLine; decide), fun t2 ht2 => ?_⟩
        have s4 := same_upd (o := .tup [.int (s : Int), .int (m : Int)]) ht2
        have s24 := (s2.trans s3).trans s4
        refine ⟨a, _, rfl, dgetF s m (s24 _ _ ea) upd_same rfl rfl (mem_alli.mpr ⟨by show s ≤ m; omega, Nat.le_refl _⟩), _, _, rfl, rfl, _, rfl, _, _, rfl, rfl, ?_⟩
        generalize upd (upd H2 t1 (.tup [.int 0, .int (e : Int)])) t2 (.tup [.int (s : Int), .int (m : Int)]) = H4 at s24
        -- least
        refine ⟨fun v H' => Same Hb H' ∧ v = .int (leastB m A wd (s, e)), ?_, ?_⟩
        · refine ⟨_, rfl, _, rfl, (by show 2 ≤ sizeLine; decide), fun t3 ht3 => ?_⟩
          have s5 := same_upd (o := .tup [.int (s : Int), .int (e : Int)]) ht3
          refine ⟨_, rfl, (by show 2 ≤ sizeLine; decide), fun t4 ht4 => ?_⟩
          have s6 := same_upd (o := .tup [.int 0, .int (m : Int)]) ht4
          have s26 := (s24.trans s5).trans s6
          refine ⟨.tuple [.int s, .int e], .tuple [.int 0, .int m], .tup (.inl (.inl (s6 _ _ upd_same))) (.cons (.int _) (.cons (.int _) .nil)), .tup (.inl (.inl upd_same)) (.cons (.int _) (.cons (.int _) .nil)), rfl, rfl, _, rfl, ite2 (fun c2 => ?_) (fun c2 => ?_)⟩
          · rw [eqv_pair, Bool.and_eq_true, decide_eq_true_eq, decide_eq_true_eq] at c2
            have c3 : s = 0 ∧ e = m := by omega
            refine ⟨_, rfl, s26, ?_⟩
            unfold leastB
            rw [if_pos c3]
          · rw [eqv_pair, Bool.and_eq_true, decide_eq_true_eq, decide_eq_true_eq] at c2
            have c3 : ¬ (s = 0 ∧ e = m) := by omega
            refine ⟨_, rfl, _, rfl, _, rfl, (by show 2 ≤ sizeLine; decide), fun t5 ht5 => ?_⟩
            have s7 := same_upd (o := .tup [.int (s : Int), .int (e : Int)]) ht5
            have s27 := s26.trans s7
            refine ⟨a, _, rfl, dgetF s e (s27 _ _ ea) upd_same rfl rfl hm, _, rfl, _, _, rfl, s27, ?_⟩
            rw [max_eq]
            unfold leastB
            rw [if_neg c3]
            rfl
        · rintro v H5 ⟨s5, rfl⟩
          refine ⟨fun b H' => Same Hb H' ∧ b = nearP m A B wd (s, e), ?_, ?_⟩
          · refine ⟨_, rfl, _, rfl, _, _, rfl, rfl, _, rfl, ite2 (fun c2 => ?_) (fun c2 => ?_)⟩
            · have c3 : s < e := by
                have z : (s : Int) < (e : Int) := of_decide_eq_true c2
                omega
              refine ⟨_, rfl, _, rfl, _, rfl, _, rfl, (by show 2 ≤ sizeLine; decide), fun t5 ht5 => ?_⟩
              have s7 := same_upd (o := .tup [.int (s : Int), .int (e : Int)]) ht5
              have s57 := s5.trans s7
              refine ⟨b, _, rfl, dget s e (s57 _ _ eb) upd_same rfl rfl hm, _, _, rfl, rfl, _, rfl, s57, ?_⟩
              unfold nearP
              rw [decide_eq_true c3, Bool.true_and]
            · have c3 : ¬ s < e := fun z => c2 (decide_eq_true (by omega))
              refine ⟨s5, ?_⟩
              unfold nearP
              rw [decide_eq_false c3, Bool.false_and]
          · rintro bb H6 ⟨s6, rfl⟩
            refine ite2 (fun c2 => ?_) (fun c2 => ?_)
            · have hany : (alli m).any (nearP m A B wd) = true := List.any_eq_true.mpr ⟨(s, e), hm, c2⟩
              refine ⟨s6 _ _ ea, ?_⟩
              have h := k _ (fin s6)
              rw [eN, hany] at h
              exact h
            · refine ⟨s6, ?_, _, _, _, _, rfl⟩
              rw [etk, List.any_append, hn]
              simp [c2]
      · rintro σ H1 ⟨s2, hn, v4, v5, v6, v7, rfl⟩
        have hall : ((alli m).take (tabL A (alli m)).length) = alli m := List.take_of_length_le (by unfold tabL; rw [List.length_map]; exact Nat.le_refl _)
        rw [hall] at hn
        refine ⟨s2 _ _ ea, ?_⟩
        have h := k _ (fin s2)
        rw [eN, hn] at h
        exact h
end
end K14

set_option Elab.async false
set_option linter.all false
set_option maxRecDepth 100000
set_option maxHeartbeats 4000000
/-! The least width at which two tables have not the same placings. -/
namespace K15
open PySem PySem.Spec PyProof.Rows L2 KD K1 K2 K3 K4 K5 K6 K7 K8 K9 K10 K11 K12 K13 K14
def farB (m : Nat) (A B : Int → Int → Int) (wd : Int) : Bool := nearB m A B wd || nearB m B A wd
def topW (m : Nat) (A B : Int → Int → Int) : Int := 3 * (A 0 m + B 0 m) + 9
def FirstIs (m : Nat) (A B : Int → Int → Int) : Option Int → Prop
  | none => ∀ u, 0 ≤ u → u < topW m A B → farB m A B u = false
  | some v => 0 ≤ v ∧ v < topW m A B ∧ farB m A B v = true ∧ ∀ u, 0 ≤ u → u < v → farB m A B u = false
section
variable {P : Program} {w : World} {K : PySem.W.Frag} {mg : Str → Option Value} {base : Heap}
def spFirst : Sp := fun vs H Q _ => ∃ (m : Nat) (a b : Addr) (A B : Int → Int → Int), vs = [.int m, .ref a, .ref b] ∧ a ≠ b ∧ K6.TabAt H a m A ∧ K6.TabAt H b m B ∧ 0 ≤ A 0 m ∧ A 0 m ≤ 1000000 ∧ 0 ≤ B 0 m ∧ B 0 m ≤ 1000000 ∧
  ∀ (r : Option Int) (H' : Hp), Same H H' → FirstIs m A B r → Q (oV r) H'
abbrev NLawFirstApart : List Str := ["_law_many", "_law_ways_here", "_law_others", "_law_top", "_law_width"]
theorem scLawFirstApart : FnScope NLawFirstApart ["_law_many", "_law_ways_here", "_law_others"] (defScope sLawFirstApart) := ⟨rfl, rfl, rfl, by decide +kernel, rfl, by decide +kernel, by decide +kernel⟩
theorem ok_first_apart (T : Txt K mg) (h__law_has_nearer : Has P w K mg base CX0 "_law_has_nearer" 1 ["_law_many", "_law_ways_here", "_law_others", "_law_width"] spHasN) :
    Has P w K mg base CX0 "_law_first_apart" 2 ["_law_many", "_law_ways_here", "_law_others"] spFirst := by
  refine Has.mk T 39 (d := dLawFirstApart) rfl rfl ⟨rfl, rfl⟩ T.g__law_first_apart scLawFirstApart (fun _ _ _ _ _ _ us hl => match us, hl with | [_, _, _], _ => rfl) (fun vs H Q E h => ?_) (fun cdv A0 outer s0 H vs Q E hr h => ?_)
  · obtain ⟨m, a, b, A, B, rfl, _⟩ := h
    rfl
  · obtain ⟨m, a, b, A, B, rfl, hab, ha, hb, p1, p2, p3, p4, k⟩ := h
    refine ⟨_, (pss_cons (ps_set (i := 3) scLawFirstApart.nd rfl (Or.inl rfl) (pe_op op_add (pe_op op_mul pe_int (pe_op op_add (pe_dget (hu_of hr) (pv 1) (pe_tup (pa_cons pe_int (pa_cons (pv 0) pa_nil))) (fun _ _ => rfl)) (pe_dget (hu_of hr) (pv 2) (pe_tup (pa_cons pe_int (pa_cons (pv 0) pa_nil))) (fun _ _ => rfl)))) pe_int))
      (pss_cons (ps_for PassesOwn.never rfl (pi_range1 (by rfl) T.f_range (pa_cons (pv 3) pa_nil)) (pg_name (i := 4) scLawFirstApart.nd rfl (Or.inl rfl)) (pss_one (ps_if (pt_cut (PW.pt (pw_or (pt_val (pe_callH h__law_has_nearer (hr.mono (by decide)) (by rfl) pass0 (pa_cons (pv 0) (pa_cons (pv 1) (pa_cons (pv 2) (pa_cons (pv 4) pa_nil)))))) (pw_or1 (pt_val (pe_callH h__law_has_nearer (hr.mono (by decide)) (by rfl) pass0 (pa_cons (pv 0) (pa_cons (pv 2) (pa_cons (pv 1) (pa_cons (pv 4) pa_nil)))))))))) (pss_one (ps_ret (pv 4))) pss_nil)))
      (pss_one (ps_ret pe_non)))), ?_⟩
    refine ⟨_, rfl, _, rfl, (by show 2 ≤ sizeLine; decide), fun t ht => ?_⟩
    have s1 := same_upd (o := .tup [.int 0, .int (m : Int)]) ht
    refine ⟨a, _, rfl, dget 0 m (s1 _ _ ha) upd_same rfl rfl (mem_alli.mpr ⟨Nat.zero_le _, Nat.le_refl _⟩), _, rfl, _, rfl, (by show 2 ≤ sizeLine; decide), fun t2 ht2 => ?_⟩
    have s2 := same_upd (o := .tup [.int 0, .int (m : Int)]) ht2
    have s12 := s1.trans s2
    refine ⟨b, _, rfl, dget 0 m (s12 _ _ hb) upd_same rfl rfl (mem_alli.mpr ⟨Nat.zero_le _, Nat.le_refl _⟩), _, _, rfl, rfl, _, _, rfl, rfl, .inl ⟨by decide, by decide⟩, _, _, rfl, rfl, ?_⟩
    generalize upd (upd H t (.tup [.int 0, .int (m : Int)])) t2 (.tup [.int 0, .int (m : Int)]) = H2 at s12
    refine ⟨_, rfl, _, rfl, ?_, ?_, for_range (lo := 0) (n := (topW m A B).toNat) (fun i σ H' => Same H H' ∧ (∀ u : Int, 0 ≤ u → u < (i : Int) → farB m A B u = false) ∧ ∃ v4 : Option V, σ = [some (.int m), some (.ref a), some (.ref b), some (.int (topW m A B)), v4]) ⟨s12, fun u h1 h2 => absurd h1 (by omega), _, rfl⟩ ?_ ?_⟩
    · show (-_ : Int) ≤ 3 * (A 0 m + B 0 m) + 9
      omega
    · show 3 * (A 0 m + B 0 m) + 9 < _
      omega
    · rintro i σ H3 hi ⟨s3, hn, v4, rfl⟩
      have e0 : (0 : Int) + (i : Int) = (i : Int) := Int.zero_add _
      rw [e0]
      refine ⟨fun bb H' => Same H H' ∧ bb = farB m A B i, ?_, ?_⟩
      · refine ⟨_, rfl, _, rfl, _, rfl, _, rfl, m, a, b, A, B, i, rfl, hab, s3 _ _ ha, s3 _ _ hb, fun H4 s4 => ⟨_, rfl, ite2 (fun c => ?_) (fun c => ?_)⟩⟩
        · refine ⟨s3.trans s4, ?_⟩
          unfold farB
          rw [c, Bool.true_or]
        · refine ⟨_, rfl, _, rfl, _, rfl, _, rfl, m, b, a, B, A, i, rfl, hab.symm, (s3.trans s4) _ _ hb, (s3.trans s4) _ _ ha, fun H5 s5 => ⟨_, rfl, (s3.trans s4).trans s5, ?_⟩⟩
          unfold farB
          rw [Bool.eq_false_iff.mpr c, Bool.false_or]
      · rintro bb H4 ⟨s4, rfl⟩
        refine ite2 (fun c => ?_) (fun c => ?_)
        · exact ⟨_, rfl, k (some (i : Int)) _ s4 ⟨by omega, by omega, c, hn⟩⟩
        · refine ⟨s4, fun u h1 h2 => ?_, _, rfl⟩
          by_cases e : u = (i : Int)
          · rw [e]
            exact Bool.eq_false_iff.mpr c
          · exact hn u h1 (by omega)
    · rintro σ H3 ⟨s3, hn, v4, rfl⟩
      exact k none _ s3 fun u h1 h2 => hn u h1 (by omega)
end
end K15

set_option Elab.async false
set_option linter.all false
set_option maxRecDepth 100000
set_option maxHeartbeats 4000000
/-! Whether some places are a placing of some cells. -/
namespace K16
open PySem PySem.Spec PyProof.Rows L2 KD K1 K2 K3 K4 K5 K6 K7 K8 K9 K10 K11 K12 K13 K14 K15
/-- a comprehension that tells one thing for each -/
theorem lc_map {β : Type} {J : It} {n : Nat} {G : Hp → Prop} {Y : Nat → Hp → V → Hp → Prop} (w : Walk J n G Y) {R : Hp → V → β → Prop} (hRs : ∀ {H H' : Hp} {v : V} {b : β}, Same H H' → R H v b → R H' v b)
    (hRu : ∀ {H : Hp} {l : Addr} {xs : List V} {o : HO} {v : V} {b : β}, H l = some (.lst xs) → R H v b → R (upd H l o) v b) (f : Nat → β) {g : TG} {te : TE} {vs : List Nat} {σ : L2.St} {H1 : Hp} {D : Addr} {Qd : Hp → Prop}
    (hD : H1 D = none) (hn : n ≤ 900) (hG : ∀ H', Same H1 H' → G H')
    (hs : ∀ i x H H' (k : V → Hp → Prop), i < n → Same H1 H → Y i H x H' → (∀ y H4, Same H H4 → R H4 y (f i) → k y H4) → g x (wipe σ vs) H' fun σ2 H2 => wipe σ2 vs = wipe σ vs ∧ te σ2 H2 k)
    (hd : ∀ H acc, Same H1 H → H D = some (.lst acc) → Paired (R H) acc ((List.range n).map f) → Qd H) :
    ∃ W : Nat → Nat → Hp → Prop, (∃ m, W 0 m (upd H1 D (.lst []))) ∧ ∀ i m H, W i m H →
      (J.stop i H ∧ Qd H) ∨ (J.go i H ∧ ∃ Nx : Hp → Prop, (∀ H', Nx H' → ∃ m', m' < m ∧ W (i + 1) m' H') ∧ ∀ x H', J.yld i H x H' → g x (wipe σ vs) H' fun σ2 H2 => wipe σ2 vs = wipe σ vs ∧ tYes σ2 H2 fun b H3 =>
        if b = true then te σ2 H3 fun y H4 => ∃ acc, H4 D = some (.lst acc) ∧ acc.length < sizeLine ∧ Nx (upd H4 D (.lst (acc ++ [y]))) else Nx H3) := by
  refine lc_it w (fun i H' => Same H1 H' ∧ ∃ acc, H' D = some (.lst acc) ∧ Paired (R H') acc ((List.range i).map f)) ⟨same_upd hD, [], upd_same, .nil⟩ (fun _ _ _ h => hG _ h.1) ?_ ?_
  · rintro i x H H' hi ⟨s1, acc, eD, pr⟩ y
    refine hs i x H H' _ hi s1 y fun z H4 s2 r => ?_
    have e4 := s2 _ _ eD
    have hl := pr_length pr
    rw [List.length_map, List.length_range] at hl
    refine ⟨acc, e4, small1000 (by omega), fun b o hb => ?_, acc ++ [z], upd_same, ?_⟩
    · rw [upd_ne (ne_of_none hb hD)]
      exact s2 _ _ (s1 _ _ hb)
    · rw [List.range_succ, List.map_append]
      exact pr_snoc (Paired.mapP pr fun v b q => hRu e4 (hRs s2 q)) (hRu e4 r)
  · rintro H ⟨s1, acc, eD, pr⟩
    exact hd H acc s1 eD pr
def IsB (_ : Hp) (v : V) (b : Bool) : Prop := v = .bl b
theorem isB_map {H : Hp} : ∀ {vs : List V} {bs : List Bool}, Paired (IsB H) vs bs → vs = bs.map V.bl
  | _, _, .nil => rfl
  | _, _, .cons h r => by
    rw [List.map_cons, ← isB_map r, (show _ = V.bl _ from h)]
theorem frel_same {H H' : Hp} {v : V} {z : Int} (s : Same H H') (h : FRel H v z) : FRel H' v z := by
  obtain ⟨t, e, q⟩ := h
  exact ⟨t, e, s _ _ q⟩
theorem frel_upd {H : Hp} {l : Addr} {xs : List V} {o : HO} {v : V} {z : Int} (e : H l = some (.lst xs)) (h : FRel H v z) : FRel (upd H l o) v z := by
  obtain ⟨t, e1, q⟩ := h
  exact ⟨t, e1, by rw [upd_ne (ne_of q e (by intro z; cases z))]; exact q⟩
/-- a room and a need -/
def RRel (H : Hp) (v : V) (r : Int × Int) : Prop := ∃ t u, v = .ref t ∧ H t = some (.tup [.ref u, .int r.2]) ∧ H u = some (.tup [.int r.1, .int 1])
theorem rrel_same {H H' : Hp} {v : V} {z : Int × Int} (s : Same H H') (h : RRel H v z) : RRel H' v z := by
  obtain ⟨t, u, e, q, r⟩ := h
  exact ⟨t, u, e, s _ _ q, s _ _ r⟩
theorem rrel_upd {H : Hp} {l : Addr} {xs : List V} {o : HO} {v : V} {z : Int × Int} (e : H l = some (.lst xs)) (h : RRel H v z) : RRel (upd H l o) v z := by
  obtain ⟨t, u, e1, q, r⟩ := h
  exact ⟨t, u, e1, by rw [upd_ne (ne_of q e (by intro z; cases z))]; exact q, by rw [upd_ne (ne_of r e (by intro z; cases z))]; exact r⟩
def zAt (zs : List Int) (i : Nat) : Int := zs.getD i 0
theorem zAt_eq {zs : List Int} {i : Nat} {z : Int} (h : zs[i]? = some z) : zAt zs i = z := by
  unfold zAt
  rw [List.getD_eq_getElem?_getD, h]
  rfl
def fallsB (m : Nat) (zs : List Int) : Bool := (List.range m).any fun i => decide (zAt zs (i + 1) < zAt zs i)
def roomsB (cs : List Cell) (zs : List Int) : Bool := cs.any fun d => decide (zAt zs (d.l + 1).toNat - zAt zs d.f.toNat < d.n)
def plB (m : Nat) (cs : List Cell) (wd : Int) (zs : List Int) : Bool :=
  if zAt zs 0 = 0 ∧ zAt zs m = wd then (if fallsB m zs = true then false else !roomsB cs zs) else false
/-- an entry of a list by a number -/
theorem fr_at {H : Hp} {vs : List V} {zs : List Int} (h : FRels H vs zs) {i : Nat} (hi : i < zs.length) : ∃ t, vs[i]? = some (.ref t) ∧ H t = some (.tup [.int (zAt zs i), .int 1]) := by
  have hv : i < vs.length := by
    rw [pr_length h]
    exact hi
  obtain ⟨z, hz, t, e, q⟩ := pr_get h (List.getElem?_eq_getElem hv)
  refine ⟨t, by rw [List.getElem?_eq_getElem hv, e], ?_⟩
  rw [zAt_eq hz]
  exact q
theorem atI_last {xs : List V} {v : V} (h : xs[xs.length - 1]? = some v) : atI xs (-1) = some v := by
  have hl : xs.length - 1 < xs.length := (List.getElem?_eq_some_iff.mp h).1
  unfold atI ixN
  rw [if_neg (by decide), if_pos (by omega)]
  show xs[(-1 + (xs.length : Int)).toNat]? = some v
  rw [show (-1 + (xs.length : Int)).toNat = xs.length - 1 by omega]
  exact h
section
variable {P : Program} {w : World} {K : PySem.W.Frag} {mg : Str → Option Value} {base : Heap}
def spIsPl : Sp := fun vs H Q _ => ∃ (m : Nat) (c u p : Addr) (ys : List V) (cs : List Cell) (wd : Int) (zs : List Int), vs = [.int m, .ref c, .ref u, .ref p] ∧ m ≤ 10 ∧ H c = some (.lst ys) ∧ CRels H ys cs ∧ ys.length ≤ 10 ∧
  (∀ d ∈ cs, 0 ≤ d.f ∧ d.f ≤ d.l ∧ d.l < m) ∧ H u = some (.tup [.int wd, .int 1]) ∧ PlAt H p zs ∧ zs.length = m + 1 ∧
  ∀ H', Same H H' → Q (.bl (plB m cs wd zs)) H'
abbrev NLawIsPlacing : List Str := ["_law_many", "_law_cells_here", "_law_width", "_law_thing", "_law_places", "_law_rooms", "_law_place", "_law_first", "_law_last", "_law_need", "_law_wish", "_law_ahead", "_law_after", "_law_room"]
theorem scLawIsPlacing : FnScope NLawIsPlacing ["_law_many", "_law_cells_here", "_law_width", "_law_thing"] (defScope sLawIsPlacing) := ⟨rfl, rfl, rfl, by decide +kernel, rfl, by decide +kernel, by decide +kernel⟩
theorem ok_is_placing (T : Txt K mg) (h__law_is_frac : Has P w K mg base CX0 "_law_is_frac" 1 ["_law_thing"] spFrac) (h__law_low : Has P w K mg base CX0 "_law_low" 1 ["_law_top", "_law_bottom"] spLowest)
    (h__law_minus : Has P w K mg base CX0 "_law_minus" 2 ["_law_one", "_law_other"] (spLMinus K)) (h__law_is_less : Has P w K mg base CX0 "_law_is_less" 1 ["_law_one", "_law_other"] (spIsLess K)) :
    Has P w K mg base CX0 "_law_is_placing" 3 ["_law_many", "_law_cells_here", "_law_width", "_law_thing"] spIsPl := by
  refine Has.mk T 36 (d := dLawIsPlacing) rfl rfl ⟨rfl, rfl⟩ T.g__law_is_placing scLawIsPlacing (fun _ _ _ _ _ _ us hl => match us, hl with | [_, _, _, _], _ => rfl) (fun vs H Q E h => ?_) (fun cdv A0 outer s0 H vs Q E hr h => ?_)
  · obtain ⟨m, c, u, p, ys, cs, wd, zs, rfl, _⟩ := h
    rfl
  · obtain ⟨m, c, u, p, ys, cs, wd, zs, rfl, hm, hc, cr, hyl, hcs, hu, ⟨vs0, hp, fr⟩, hzl, k⟩ := h
    refine ⟨_, (pss_cons (ps_if (PW.pt (pw_or (pt_not (pt_val (pe_callB call_isiT (by rfl) T.f_isinstance (by decide +kernel) (pa_cons (pv 3) (pa_cons (pe_tup (pa_cons (pe_bltn (v := .ty "list") (by rfl) T.f_list (by decide +kernel) rfl) (pa_cons (pe_bltn (v := .ty "tuple") (by rfl) T.f_tuple (by decide +kernel) rfl) pa_nil))) pa_nil))))) (pw_or1 (pt_cmpR op_ne (pe_callB call_len_seq (by rfl) T.f_len PySem.boot_len (pa_cons (pv 3) pa_nil)) (pe_op op_add (pv 0) pe_int) (nomark _))))) (pss_one (ps_ret pe_bl)) pss_nil)
      (pss_cons (ps_if (pt_not (pt_val (pe_callB (cr_all rfl) (by rfl) T.f_all (by decide +kernel) (pa_cons (pe_cut (pe_lc (own := [("_law_place", 6)]) (g := (gName 6)) (by rfl) scLawIsPlacing.nd (pi_list (pv 3)) (blkOk_by (own := [("_law_place", 6)]) (N := NLawIsPlacing) (sc := defScope sLawIsPlacing) (by decide +kernel)) (fun _ _ _ _ _ => (pg_name (i := 6) scLawIsPlacing.nd rfl (Or.inl rfl))) (fun _ _ _ _ _ => pts_nil) (fun _ _ _ _ _ => (pe_callH h__law_is_frac (hr.mono (by decide)) (by rfl) pass0 (pa_cons (pv 6) pa_nil))))) pa_nil)))) (pss_one (ps_ret pe_bl)) pss_nil)
      (pss_cons (ps_set (i := 4) scLawIsPlacing.nd rfl (Or.inr rfl) (pe_cut (pe_lc (own := [("_law_place", 6)]) (g := (gName 6)) (by rfl) scLawIsPlacing.nd (pi_list (pv 3)) (blkOk_by (own := [("_law_place", 6)]) (N := NLawIsPlacing) (sc := defScope sLawIsPlacing) (by decide +kernel)) (fun _ _ _ _ _ => (pg_name (i := 6) scLawIsPlacing.nd rfl (Or.inl rfl))) (fun _ _ _ _ _ => pts_nil) (fun _ _ _ _ _ => (pe_callH h__law_low (hr.mono (by decide)) (by rfl) pass0 (pa_cons (pe_ix (K1.ix_tupK (K := K) rfl) (pv 6) pe_int (fun _ _ => rfl)) (pa_cons (pe_ix (K1.ix_tupK (K := K) rfl) (pv 6) pe_int (fun _ _ => rfl)) pa_nil)))))))
      (pss_cons (ps_if (pt_cut (PW.pt (pw_or (pt_cmpR (op_neD hr.units) (pe_ix ix_list (pv 4) pe_int (fun _ _ => rfl)) (pe_tup (pa_cons pe_int (pa_cons pe_int pa_nil))) (nomark _)) (pw_or1 (pt_cmpR (op_neD hr.units) (pe_ix ix_list (pv 4) (pe_un un_neg pe_int) (fun _ _ => rfl)) (pe_callH h__law_low (hr.mono (by decide)) (by rfl) pass0 (pa_cons (pe_ix ix_tup (pv 2) pe_int (fun _ _ => rfl)) (pa_cons (pe_ix ix_tup (pv 2) pe_int (fun _ _ => rfl)) pa_nil))) (nomark _)))))) (pss_one (ps_ret pe_bl)) pss_nil)
      (pss_cons (ps_if (pt_val (pe_callB (cr_any rfl) (by rfl) T.f_any (by decide +kernel) (pa_cons (pe_cut (pe_lc (own := [("_law_ahead", 11), ("_law_after", 12)]) (g := (gTup K 2 (gCons (gName 11) (gCons (gName 12) gNil)))) (by rfl) scLawIsPlacing.nd (pi_zip (by rfl) T.f_zip (pa_cons (pv 4) (pa_cons (pe_slice sl_list (pv 4) (po_some pe_int) po_none) pa_nil))) (blkOk_by (own := [("_law_ahead", 11), ("_law_after", 12)]) (N := NLawIsPlacing) (sc := defScope sLawIsPlacing) (by decide +kernel)) (fun _ _ _ _ _ => (pg_tup rfl (pgs_cons (pg_name (i := 11) scLawIsPlacing.nd rfl (Or.inl rfl)) (pgs_cons (pg_name (i := 12) scLawIsPlacing.nd rfl (Or.inl rfl)) pgs_nil)))) (fun _ _ _ _ _ => pts_nil) (fun _ _ _ _ _ => (pe_callH h__law_is_less (hr.mono (by decide)) (by rfl) pass0 (pa_cons (pv 12) (pa_cons (pv 11) pa_nil)))))) pa_nil))) (pss_one (ps_ret pe_bl)) pss_nil)
      (pss_cons (ps_setLc (i := 5) (own := [("_law_first", 7), ("_law_last", 8), ("_law_need", 9), ("_law_wish", 10)]) (g := (gTup K 4 (gCons (gName 7) (gCons (gName 8) (gCons (gName 9) (gCons (gName 10) gNil)))))) (by rfl) scLawIsPlacing.nd rfl rfl (sw_true rfl rfl rfl (by decide +kernel)) (pi_list (pv 1)) (blkOk_by (own := [("_law_first", 7), ("_law_last", 8), ("_law_need", 9), ("_law_wish", 10)]) (N := NLawIsPlacing) (sc := defScope sLawIsPlacing) (by decide +kernel)) (fun _ _ _ _ _ => (pg_tup rfl (pgs_cons (pg_name (i := 7) scLawIsPlacing.nd rfl (Or.inl rfl)) (pgs_cons (pg_name (i := 8) scLawIsPlacing.nd rfl (Or.inl rfl)) (pgs_cons (pg_name (i := 9) scLawIsPlacing.nd rfl (Or.inl rfl)) (pgs_cons (pg_name (i := 10) scLawIsPlacing.nd rfl (Or.inl rfl)) pgs_nil)))))) (fun _ _ _ _ _ => pts_nil) (fun _ _ _ _ _ => (pe_tup (pa_cons (pe_callH h__law_minus (hr.mono (by decide)) (by rfl) pass0 (pa_cons (pe_ix (K1.ix_listK (K := K) rfl) (pv 4) (pe_op op_add (pv 8) pe_int) (fun _ _ => rfl)) (pa_cons (pe_ix (K1.ix_listK (K := K) rfl) (pv 4) (pv 7) (fun _ _ => rfl)) pa_nil))) (pa_cons (pv 9) pa_nil)))))
      (pss_one (ps_ret (pe_not (pe_callB (cr_any rfl) (by rfl) T.f_any (by decide +kernel) (pa_cons (pe_cut (pe_lc (own := [("_law_room", 13), ("_law_need", 9)]) (g := (gTup K 2 (gCons (gName 13) (gCons (gName 9) gNil)))) (by rfl) scLawIsPlacing.nd (pi_list (pv 5)) (blkOk_by (own := [("_law_room", 13), ("_law_need", 9)]) (N := NLawIsPlacing) (sc := defScope sLawIsPlacing) (by decide +kernel)) (fun _ _ _ _ _ => (pg_tup rfl (pgs_cons (pg_name (i := 13) scLawIsPlacing.nd rfl (Or.inl rfl)) (pgs_cons (pg_name (i := 9) scLawIsPlacing.nd rfl (Or.inl rfl)) pgs_nil)))) (fun _ _ _ _ _ => pts_nil) (fun _ _ _ _ _ => (pe_callH h__law_is_less (hr.mono (by decide)) (by rfl) pass0 (pa_cons (pv 13) (pa_cons (pe_tup (pa_cons (pv 9) (pa_cons pe_int pa_nil))) pa_nil)))))) pa_nil))))))))))), ?_⟩
    have hvl : vs0.length = m + 1 := by rw [pr_length fr, hzl]
    -- a list of the right length
    refine ⟨_, rfl, (by show 2 ≤ sizeLine; decide), fun tp htp => ?_⟩
    have s1 := same_upd (o := .tup [V.ty "list", V.ty "tuple"]) htp
    refine ⟨_, tp, _, _, _, true, rfl, upd_same, pairedTy (K := K) (H := H), .base (.lst (s1 _ _ hp)), kitLT, _, rfl, iteF ?_⟩
    refine ⟨_, rfl, p, vs0, rfl, .inl (SqL.of (s1 _ _ hp)), _, rfl, _, _, rfl, rfl, rfl, _, rfl, iteNS (c := V.int (vs0.length : Nat) = V.int ((m : Int) + 1)) (by rw [hvl]; rfl) ?_⟩
    generalize upd H tp (.tup [V.ty "list", V.ty "tuple"]) = Ha at s1
    -- each a fraction
    refine ⟨fun v H' => Same H H' ∧ ∃ D, v = .ref D ∧ H' D = some (.lst (((List.range (m + 1)).map fun _ => true).map V.bl)), ?_, ?_⟩
    · refine ⟨_, rfl, p, rfl, ⟨_, SqL.of (s1 _ _ hp)⟩, fun D hD => lc_map (walk_list (xs := vs0)) (R := IsB) (fun _ h => h) (fun _ h => h) (fun _ => true) hD (by omega) (fun H' s => SqL.of (s _ _ (s1 _ _ hp))) ?_ ?_⟩
      · rintro i x H1 H2 kk hi s2 ⟨rfl, hx⟩ hk
        obtain ⟨z, hz, t, rfl, et⟩ := pr_get fr hx
        exact ⟨rfl, _, rfl, t, z, 1, rfl, (s1.trans s2) _ _ et, by decide, fun H' s3 => hk _ _ s3 rfl⟩
      · rintro H1 acc s2 eD pr
        refine ⟨s1.trans s2, D, rfl, ?_⟩
        rw [hvl] at pr
        rw [eD, isB_map pr]
    rintro v H1 ⟨s2, D, rfl, eD⟩
    refine ⟨D, _, rfl, SqL.of eD, true, ?_, iteF ?_⟩
    · congr 1
      rw [List.all_eq_true]
      intro b hb
      obtain ⟨_, _, rfl⟩ := List.mem_map.mp hb
      rfl
    -- the places
    refine ⟨fun v H' => Same H1 H' ∧ ∃ q ws, v = .ref q ∧ H' q = some (.lst ws) ∧ FRels H' ws zs, ?_, ?_⟩
    · refine ⟨_, rfl, p, rfl, ⟨_, SqL.of (s2 _ _ hp)⟩, fun D hD => lc_map (walk_list (xs := vs0)) (R := FRel) frel_same frel_upd (zAt zs) hD (by omega) (fun H' s => SqL.of (s _ _ (s2 _ _ hp))) ?_ ?_⟩
      · rintro i x H2 H3 kk hi s3 ⟨rfl, hx⟩ hk
        obtain ⟨z, hz, t, rfl, et⟩ := pr_get fr hx
        have et3 := (s2.trans s3) _ _ et
        refine ⟨rfl, _, rfl, t, _, 0, _, rfl, rfl, .inl (.inl et3), rfl, _, rfl, t, _, 1, _, rfl, rfl, .inl (.inl et3), rfl, z, 1, rfl, by decide, by decide, fun a x y H' s4 na ha h0 h1 h2 => hk _ _ s4 ⟨a, rfl, ?_⟩⟩
        rw [ha, h2 rfl, show y = 1 by omega, zAt_eq hz]
      · rintro H2 acc s3 eD pr
        refine ⟨s3, D, acc, rfl, eD, ?_⟩
        have e : (List.range vs0.length).map (zAt zs) = zs := by
          rw [hvl, ← hzl]
          refine List.ext_getElem (by rw [List.length_map, List.length_range]) fun i h1 h2 => ?_
          rw [List.getElem_map, List.getElem_range]
          exact zAt_eq (List.getElem?_eq_getElem h2)
        rw [e] at pr
        exact pr
    rintro v H2 ⟨s3, q, ws, rfl, eq, fw⟩
    have hwl : ws.length = m + 1 := by rw [pr_length fw, hzl]
    have s13 := s2.trans s3
    obtain ⟨t0, hw0, ht0⟩ := fr_at fw (i := 0) (by omega)
    obtain ⟨tm, hwm, htm⟩ := fr_at fw (i := m) (by omega)
    -- the ends
    refine ⟨fun b H' => Same H2 H' ∧ b = !decide (zAt zs 0 = 0 ∧ zAt zs m = wd), ?_, ?_⟩
    · refine ⟨_, rfl, q, ws, 0, _, rfl, rfl, SqL.of eq, atI_pos (by decide) (by omega) hw0, (by show 2 ≤ sizeLine; decide), fun t1 ht1 => ?_⟩
      have s4 := same_upd (o := .tup [.int 0, .int 1]) ht1
      refine ⟨.tuple [.int (zAt zs 0), .int 1], .tuple [.int 0, .int 1], .tup (.inl (.inl (s4 _ _ ht0))) (.cons (.int _) (.cons (.int _) .nil)), .tup (.inl (.inl upd_same)) (.cons (.int _) (.cons (.int _) .nil)), rfl, rfl, _, rfl, ite2 (fun c2 => ?_) (fun c2 => ?_)⟩
      · rw [eqv_pair, Bool.not_eq_true', Bool.and_eq_false_iff, decide_eq_false_iff_not, decide_eq_false_iff_not] at c2
        refine ⟨s4, ?_⟩
        rw [decide_eq_false (by omega)]
        rfl
      · rw [eqv_pair, Bool.not_eq_true', Bool.not_eq_false, Bool.and_eq_true, decide_eq_true_eq, decide_eq_true_eq] at c2
        refine ⟨_, rfl, _, rfl, q, ws, -1, _, rfl, rfl, SqL.of (s4 _ _ eq), atI_last (by rw [hwl]; exact hwm), ?_⟩
        have hu4 := s4 _ _ (s13 _ _ hu)
        refine ⟨_, rfl, u, _, 0, _, rfl, rfl, .inl (.inl hu4), rfl, _, rfl, u, _, 1, _, rfl, rfl, .inl (.inl hu4), rfl, wd, 1, rfl, by decide, by decide, fun a x y H' s5 na ha h0 h1 h2 => ?_⟩
        have ey : y = 1 := by omega
        rw [h2 rfl, ey] at ha
        refine ⟨.tuple [.int (zAt zs m), .int 1], .tuple [.int wd, .int 1], .tup (.inl (.inl ((s4.trans s5) _ _ htm))) (.cons (.int _) (.cons (.int _) .nil)), .tup (.inl (.inl ha)) (.cons (.int _) (.cons (.int _) .nil)), rfl, rfl, _, rfl, s4.trans s5, ?_⟩
        rw [eqv_pair]
        by_cases e : zAt zs m = wd
        · rw [decide_eq_true e, decide_eq_true (show zAt zs 0 = 0 ∧ zAt zs m = wd from ⟨c2.1, e⟩)]
          rfl
        · rw [decide_eq_false e, decide_eq_false (show ¬ (zAt zs 0 = 0 ∧ zAt zs m = wd) from fun z => e z.2)]
          rfl
    rintro bb H3 ⟨s4, rfl⟩
    have s14 := s13.trans s4
    refine ite2 (fun cc => ?_) (fun cc => ?_)
    · rw [Bool.not_eq_true', decide_eq_false_iff_not] at cc
      have h := k _ s14
      unfold plB at h
      rw [if_neg cc] at h
      exact h
    rw [Bool.not_eq_true', Bool.not_eq_false, decide_eq_true_eq] at cc
    have eq3 := s4 _ _ eq
    have fw3 := fw.same s4
    -- falls
    refine ⟨fun v H' => Same H3 H' ∧ ∃ D, v = .ref D ∧ H' D = some (.lst (((List.range m).map fun i => decide (zAt zs (i + 1) < zAt zs i)).map V.bl)), ?_, ?_⟩
    · refine ⟨_, rfl, _, rfl, 1, rfl, q, ws, rfl, SqL.of eq3, fun p2 np2 => ?_⟩
      have s5 := same_upd (o := .lst (cutV ws (some 1) none)) np2
      have ecut : cutV ws (some 1) none = ws.drop 1 := cut_drop ws 1
      refine ⟨q, p2, ws, _, rfl, SqL.of (s5 _ _ eq3), SqL.of upd_same, fun D2 hD2 => lc_map (walk_zip (n := m) (by rw [ecut, List.length_drop, hwl]; omega)) (R := IsB) (fun _ h => h) (fun _ h => h) (fun i => decide (zAt zs (i + 1) < zAt zs i)) hD2 (by omega) (fun H' s => ⟨SqL.of (s _ _ (s5 _ _ eq3)), SqL.of (s _ _ upd_same)⟩) ?_ ?_⟩
      · rintro i x H4 H5 kk hi s6 ⟨Ta, x1, x2, rfl, nt, rfl, e1, e2⟩ hk
        have s7 := same_upd (o := .tup [x1, x2]) nt
        have sA := (s5.trans s6).trans s7
        obtain ⟨ta, ea, qa⟩ := fr_at (fw3.same sA) (i := i) (by omega)
        obtain ⟨tb, eb, qb⟩ := fr_at (fw3.same sA) (i := i + 1) (by omega)
        replace e1 : ws[i]? = some x1 := e1
        replace e2 : (cutV ws (some 1) none)[i]? = some x2 := e2
        rw [ea] at e1
        rw [ecut, List.getElem?_drop, Nat.add_comm, eb] at e2
        cases e1
        cases e2
        refine ⟨Ta, _, rfl, .inl (.inl upd_same), rfl, _, _, rfl, _, _, rfl, rfl, rfl, _, rfl, _, rfl, tb, ta, _, 1, _, 1, rfl, .inl (.inl qb), .inl (.inl qa), by decide, by decide, fun H' s8 => hk _ _ (s7.trans s8) ?_⟩
        rw [Int.mul_one, Int.mul_one]
        rfl
      · rintro H4 acc s6 eD2 pr
        refine ⟨s5.trans s6, D2, rfl, ?_⟩
        rw [eD2, isB_map pr]
    rintro v H4 ⟨s5, D2, rfl, eD2⟩
    refine ⟨D2, _, rfl, SqL.of eD2, _, rfl, ?_⟩
    have ef : (((List.range m).map fun i => decide (zAt zs (i + 1) < zAt zs i)).any id) = fallsB m zs := by
      unfold fallsB
      rw [List.any_map]
      rfl
    rw [ef]
    have s15 := s14.trans s5
    refine ite2 (fun c2 => ?_) (fun c2 => ?_)
    · have h := k _ s15
      unfold plB at h
      rw [if_pos cc, if_pos c2] at h
      exact h
    have eP : plB m cs wd zs = !roomsB cs zs := by
      unfold plB
      rw [if_pos cc, if_neg c2]
    -- the rooms
    have eq4 := s5 _ _ eq3
    have fw4 := fw3.same s5
    refine ⟨_, rfl, c, rfl, ⟨_, SqL.of (s15 _ _ hc)⟩, fun D hD => lc_map (walk_list (xs := ys)) (R := RRel) rrel_same rrel_upd (fun i => match cs[i]? with | some d => (zAt zs (d.l + 1).toNat - zAt zs d.f.toNat, d.n) | none => (0, 0)) hD (by omega) (fun H' s => SqL.of (s _ _ (s15 _ _ hc))) ?_ ?_⟩
    · rintro i x H5 H6 kk hi s6 ⟨rfl, hx⟩ hk
      obtain ⟨d, hd, t, rfl, et⟩ := pr_get cr hx
      obtain ⟨d1, d2, d3⟩ := hcs d (List.mem_of_getElem? hd)
      rw [hd] at hk
      obtain ⟨ta, ea, qa⟩ := fr_at (fw4.same s6) (i := (d.l + 1).toNat) (by omega)
      obtain ⟨tb, eb, qb⟩ := fr_at (fw4.same s6) (i := d.f.toNat) (by omega)
      refine ⟨t, _, rfl, .inl (.inl ((s15.trans s6) _ _ et)), rfl, _, _, rfl, _, _, rfl, _, _, rfl, _, _, rfl, rfl, rfl, ?_⟩
      refine ⟨_, rfl, _, rfl, _, _, rfl, rfl, q, ws, _, _, rfl, rfl, SqL.of (s6 _ _ eq4), atI_pos (by omega) (by omega) ea, _, rfl, _, rfl, q, ws, _, _, rfl, rfl, SqL.of (s6 _ _ eq4), atI_pos (by omega) (by omega) eb, ?_⟩
      refine ⟨ta, tb, _, _, rfl, .inl (.inl qa), .inl (.inl qb), fun p3 H7 s7 np3 hp3 => ⟨_, rfl, (by show 2 ≤ sizeLine; decide), fun t4 ht4 => ?_⟩⟩
      exact hk _ _ (s7.trans (same_upd ht4)) ⟨t4, p3, rfl, upd_same, same_upd ht4 _ _ hp3⟩
    rintro H5 rs s6 eD pr
    have erc : (List.range ys.length).map (fun i => match cs[i]? with | some d => (zAt zs (d.l + 1).toNat - zAt zs d.f.toNat, d.n) | none => (0, 0)) = cs.map fun d => (zAt zs (d.l + 1).toNat - zAt zs d.f.toNat, d.n) := by
      have hcl := pr_length cr
      refine List.ext_getElem (by rw [List.length_map, List.length_range, List.length_map, hcl]) fun i h1 h2 => ?_
      rw [List.getElem_map, List.getElem_range, List.getElem_map]
      rw [List.length_map] at h2
      rw [List.getElem?_eq_getElem h2]
    rw [erc] at pr
    have s16 := s15.trans s6
    -- too narrow
    have hrl := pr_length pr
    rw [List.length_map] at hrl
    have hcl := pr_length cr
    refine ⟨fun v H' => Same H5 H' ∧ ∃ D2, v = V.ref D2 ∧ H' D2 = some (.lst (((List.range rs.length).map fun i => match cs[i]? with | some d => decide (zAt zs (d.l + 1).toNat - zAt zs d.f.toNat < d.n) | none => false).map V.bl)), ?_, ?_⟩
    · refine ⟨_, rfl, D, rfl, ⟨_, SqL.of eD⟩, fun D3 hD3 => lc_map (walk_list (xs := rs)) (R := IsB) (fun _ h => h) (fun _ h => h) (fun i => match cs[i]? with | some d => decide (zAt zs (d.l + 1).toNat - zAt zs d.f.toNat < d.n) | none => false) hD3 (by omega) (fun H' s => SqL.of (s _ _ eD)) ?_ ?_⟩
      · rintro i x H6 H7 kk hi s7 ⟨rfl, hx⟩ hk
        obtain ⟨r, hr0, t, u2, rfl, et, eu⟩ := pr_get pr hx
        rw [List.getElem?_map] at hr0
        obtain ⟨d, hd, rfl⟩ := Option.map_eq_some_iff.mp hr0
        rw [hd] at hk
        refine ⟨t, _, rfl, .inl (.inl (s7 _ _ et)), rfl, _, _, rfl, _, _, rfl, rfl, rfl, _, rfl, _, rfl, (by show 2 ≤ sizeLine; decide), fun t4 ht4 => ?_⟩
        have s8 := same_upd (o := .tup [V.int d.n, .int 1]) ht4
        refine ⟨u2, t4, _, 1, _, 1, rfl, .inl (.inl (s8 _ _ (s7 _ _ eu))), .inl (.inl upd_same), by decide, by decide, fun H' s9 => hk _ _ (s8.trans s9) ?_⟩
        rw [Int.mul_one, Int.mul_one]
        rfl
      · rintro H6 acc s7 eD3 pr3
        refine ⟨s7, D3, rfl, ?_⟩
        rw [eD3, isB_map pr3]
    rintro v H6 ⟨s7, D3, rfl, eD3⟩
    have ef : (((List.range rs.length).map fun i => match cs[i]? with | some d => decide (zAt zs (d.l + 1).toNat - zAt zs d.f.toNat < d.n) | none => false).any id) = roomsB cs zs := by
      have e : ((List.range rs.length).map fun i => match cs[i]? with | some d => decide (zAt zs (d.l + 1).toNat - zAt zs d.f.toNat < d.n) | none => false) = cs.map fun d => decide (zAt zs (d.l + 1).toNat - zAt zs d.f.toNat < d.n) := by
        refine List.ext_getElem (by rw [List.length_map, List.length_range, List.length_map, hrl]) fun i h1 h2 => ?_
        rw [List.getElem_map, List.getElem_range, List.getElem_map]
        rw [List.length_map] at h2
        rw [List.getElem?_eq_getElem h2]
      rw [e, List.any_map]
      rfl
    refine ⟨D3, _, rfl, SqL.of eD3, _, rfl, ?_⟩
    have h := k _ (s16.trans s7)
    rw [eP] at h
    rw [ef]
    exact h
end
end K16

set_option Elab.async false
set_option linter.all false
set_option maxRecDepth 100000
set_option maxHeartbeats 4000000
/-! The same found as due. -/
namespace K17
open PySem PySem.Spec PyProof.Rows L2 KD K1 K2 K3 K4 K5 K6 K7 K8 K9 K10 K11 K12 K13 K14 K15 K16
theorem pairedBI {K : PySem.W.Frag} {H : Hp} : Paired ClsV [V.ty "bool", V.ty "int"] [Value.type "bool", Value.type "int"] := .cons (.ty _) (.cons (.ty _) .nil)
theorem kitBN {K : PySem.W.Frag} : PySem.W.kitAny K (.type "bool") [Value.type "list", Value.type "tuple"] = some false :=
  kitAny_cons (b := false) (kit_ty (by decide +kernel)) (fun _ => kitAny_cons (b := false) (kit_ty (by decide +kernel)) (fun _ => rfl) fun h => nomatch h) fun h => nomatch h
theorem kitIB {K : PySem.W.Frag} : PySem.W.kitAny K (.type "int") [Value.type "bool", Value.type "int"] = some true :=
  kitAny_cons (b := false) (kit_ty (by decide +kernel)) (fun _ => kitAny_cons (b := true) (kit_ty (by decide +kernel)) (fun h => nomatch h) fun _ => rfl) fun h => nomatch h
theorem kitBB {K : PySem.W.Frag} : PySem.W.kitAny K (.type "bool") [Value.type "bool", Value.type "int"] = some true :=
  kitAny_cons (b := true) (kit_ty (by decide +kernel)) (fun h => nomatch h) fun _ => rfl
section
variable {P : Program} {w : World} {K : PySem.W.Frag} {mg : Str → Option Value} {base : Heap}
def spSame0 : Sp := fun vs H Q _ => ((∃ i : Int, vs = [.int i, .int i]) ∨ ∃ b : Bool, vs = [.bl b, .bl b]) ∧ ∀ H', Same H H' → Q (.bl true) H'
abbrev NLawSame : List Str := ["_law_found", "_law_due", "_law_one", "_law_other"]
theorem scLawSame : FnScope NLawSame ["_law_found", "_law_due"] (defScope sLawSame) := ⟨rfl, rfl, rfl, by decide +kernel, rfl, by decide +kernel, by decide +kernel⟩
theorem ok_same0 (T : Txt K mg) : Has P w K mg base CX0 "_law_same" 1 ["_law_found", "_law_due"] spSame0 := by
  refine Has.mk T 27 (d := dLawSame) rfl rfl ⟨rfl, rfl⟩ T.g__law_same scLawSame (fun _ _ _ _ _ _ us hl => match us, hl with | [_, _], _ => rfl) (fun vs H Q E h => ?_) (fun cdv A0 outer s0 H vs Q E hr h => ?_)
  · rcases h with ⟨⟨i, rfl⟩ | ⟨b, rfl⟩, _⟩ <;> rfl
  · obtain ⟨hv, k⟩ := h
    refine ⟨_, (pss_cons (ps_if (pt_val (pe_callB call_isiT (by rfl) T.f_isinstance (by decide +kernel) (pa_cons (pv 1) (pa_cons (pe_tup (pa_cons (pe_bltn (v := .ty "list") (by rfl) T.f_list (by decide +kernel) rfl) (pa_cons (pe_bltn (v := .ty "tuple") (by rfl) T.f_tuple (by decide +kernel) rfl) pa_nil))) pa_nil)))) (pss_cons (ps_if (pt_cmpR op_ne (pe_callB call_isi (by rfl) T.f_isinstance (by decide +kernel) (pa_cons (pv 0) (pa_cons (pe_bltn (v := .ty "list") (by rfl) T.f_list (by decide +kernel) rfl) pa_nil))) (pe_callB call_isi (by rfl) T.f_isinstance (by decide +kernel) (pa_cons (pv 1) (pa_cons (pe_bltn (v := .ty "list") (by rfl) T.f_list (by decide +kernel) rfl) pa_nil))) (nomark _)) (pss_one (ps_ret pe_bl)) pss_nil) (pss_cons (ps_if (PW.pt (pw_or (pt_cmpR op_ne (pe_callB call_isi (by rfl) T.f_isinstance (by decide +kernel) (pa_cons (pv 0) (pa_cons (pe_bltn (v := .ty "tuple") (by rfl) T.f_tuple (by decide +kernel) rfl) pa_nil))) (pe_callB call_isi (by rfl) T.f_isinstance (by decide +kernel) (pa_cons (pv 1) (pa_cons (pe_bltn (v := .ty "tuple") (by rfl) T.f_tuple (by decide +kernel) rfl) pa_nil))) (nomark _)) (pw_or1 (pt_cmpR op_ne (pe_callB call_len_seq (by rfl) T.f_len PySem.boot_len (pa_cons (pv 0) pa_nil)) (pe_callB call_len_seq (by rfl) T.f_len PySem.boot_len (pa_cons (pv 1) pa_nil)) (nomark _))))) (pss_one (ps_ret pe_bl)) pss_nil) (pss_one ps_never))) pss_nil)
      (pss_cons (ps_if (pt_val (pe_callB call_isiT (by rfl) T.f_isinstance (by decide +kernel) (pa_cons (pv 1) (pa_cons (pe_tup (pa_cons (pe_bltn (v := .ty "bool") (by rfl) T.f_bool (by decide +kernel) rfl) (pa_cons (pe_bltn (v := .ty "int") (by rfl) T.f_int (by decide +kernel) rfl) pa_nil))) pa_nil)))) (pss_one (ps_ret (pe_and (pe_callB call_isi (by rfl) T.f_isinstance (by decide +kernel) (pa_cons (pv 0) (pa_cons (pe_bltn (v := .ty "int") (by rfl) T.f_int (by decide +kernel) rfl) pa_nil))) (pe_and (pe_cmpR op_eq (pe_callB call_isi (by rfl) T.f_isinstance (by decide +kernel) (pa_cons (pv 0) (pa_cons (pe_bltn (v := .ty "bool") (by rfl) T.f_bool (by decide +kernel) rfl) pa_nil))) (pe_callB call_isi (by rfl) T.f_isinstance (by decide +kernel) (pa_cons (pv 1) (pa_cons (pe_bltn (v := .ty "bool") (by rfl) T.f_bool (by decide +kernel) rfl) pa_nil))) (nomark _)) (pe_one (pe_cmpR op_eq (pv 0) (pv 1) (nomark _))))))) pss_nil)
      (pss_one (ps_ret (pe_and (pe_not (pe_callB call_isiT (by rfl) T.f_isinstance (by decide +kernel) (pa_cons (pv 0) (pa_cons (pe_tup (pa_cons (pe_bltn (v := .ty "bool") (by rfl) T.f_bool (by decide +kernel) rfl) (pa_cons (pe_bltn (v := .ty "int") (by rfl) T.f_int (by decide +kernel) rfl) (pa_cons (pe_bltn (v := .ty "list") (by rfl) T.f_list (by decide +kernel) rfl) (pa_cons (pe_bltn (v := .ty "tuple") (by rfl) T.f_tuple (by decide +kernel) rfl) pa_nil))))) pa_nil)))) (pe_one (pe_cmpR op_eq (pv 0) (pv 1) (nomark _)))))))), ?_⟩
    rcases hv with ⟨i, rfl⟩ | ⟨b, rfl⟩
    · refine ⟨_, rfl, (by show 2 ≤ sizeLine; decide), fun tp htp => ?_⟩
      have s1 := same_upd (o := .tup [V.ty "list", V.ty "tuple"]) htp
      refine ⟨_, tp, _, _, _, false, rfl, upd_same, pairedTy (K := K) (H := H), .base (.int i), kitIT, _, rfl, iteF ?_⟩
      refine ⟨_, rfl, (by show 2 ≤ sizeLine; decide), fun tq htq => ?_⟩
      have s2 := same_upd (o := .tup [V.ty "bool", V.ty "int"]) htq
      refine ⟨_, tq, _, _, _, true, rfl, upd_same, pairedBI (K := K) (H := H), .base (.int i), kitIB, _, rfl, iteT ?_⟩
      refine ⟨_, rfl, _, _, _, _, true, rfl, .ty _, .base (.int i), kit_ty (by decide +kernel), true, rfl, iteT ?_⟩
      refine ⟨_, rfl, _, _, _, _, false, rfl, .ty _, .base (.int i), kit_ty (by decide +kernel), _, rfl, _, _, _, _, false, rfl, .ty _, .base (.int i), kit_ty (by decide +kernel), rfl, true, rfl, iteT ?_⟩
      refine ⟨_, rfl, _, rfl, rfl, ?_⟩
      rw [decide_eq_true rfl]
      exact k _ (s1.trans s2)
    · refine ⟨_, rfl, (by show 2 ≤ sizeLine; decide), fun tp htp => ?_⟩
      have s1 := same_upd (o := .tup [V.ty "list", V.ty "tuple"]) htp
      refine ⟨_, tp, _, _, _, false, rfl, upd_same, pairedTy (K := K) (H := H), .base (.bl b), kitBN, _, rfl, iteF ?_⟩
      refine ⟨_, rfl, (by show 2 ≤ sizeLine; decide), fun tq htq => ?_⟩
      have s2 := same_upd (o := .tup [V.ty "bool", V.ty "int"]) htq
      refine ⟨_, tq, _, _, _, true, rfl, upd_same, pairedBI (K := K) (H := H), .base (.bl b), kitBB, _, rfl, iteT ?_⟩
      refine ⟨_, rfl, _, _, _, _, true, rfl, .ty _, .base (.bl b), kit_ty (by decide +kernel), true, rfl, iteT ?_⟩
      refine ⟨_, rfl, _, _, _, _, true, rfl, .ty _, .base (.bl b), kit_ty (by decide +kernel), _, rfl, _, _, _, _, true, rfl, .ty _, .base (.bl b), kit_ty (by decide +kernel), rfl, true, rfl, iteT ?_⟩
      refine ⟨_, rfl, _, rfl, rfl, ?_⟩
      rw [decide_eq_true rfl]
      exact k _ (s1.trans s2)
def spSame1 : Sp := fun vs H Q _ => ∃ (p q : Addr) (zs : List Int), vs = [.ref p, .ref q] ∧ H p = some (.lst (zs.map V.int)) ∧ H q = some (.lst (zs.map V.int)) ∧ zs.length ≤ 900 ∧ ∀ H', Same H H' → Q (.bl true) H'
theorem ok_same1 (T : Txt K mg) (h__law_same : Has P w K mg base CX0 "_law_same" 1 ["_law_found", "_law_due"] spSame0) : Has P w K mg base CX0 "_law_same" 2 ["_law_found", "_law_due"] spSame1 := by
  refine Has.mk T 27 (d := dLawSame) rfl rfl ⟨rfl, rfl⟩ T.g__law_same scLawSame (fun _ _ _ _ _ _ us hl => match us, hl with | [_, _], _ => rfl) (fun vs H Q E h => ?_) (fun cdv A0 outer s0 H vs Q E hr h => ?_)
  · obtain ⟨p, q, zs, rfl, _⟩ := h
    rfl
  · obtain ⟨p, q, zs, rfl, hp, hq, hl, k⟩ := h
    refine ⟨_, (pss_cons (ps_if (pt_val (pe_callB call_isiT (by rfl) T.f_isinstance (by decide +kernel) (pa_cons (pv 1) (pa_cons (pe_tup (pa_cons (pe_bltn (v := .ty "list") (by rfl) T.f_list (by decide +kernel) rfl) (pa_cons (pe_bltn (v := .ty "tuple") (by rfl) T.f_tuple (by decide +kernel) rfl) pa_nil))) pa_nil)))) (pss_cons (ps_if (pt_cmpR op_ne (pe_callB call_isi (by rfl) T.f_isinstance (by decide +kernel) (pa_cons (pv 0) (pa_cons (pe_bltn (v := .ty "list") (by rfl) T.f_list (by decide +kernel) rfl) pa_nil))) (pe_callB call_isi (by rfl) T.f_isinstance (by decide +kernel) (pa_cons (pv 1) (pa_cons (pe_bltn (v := .ty "list") (by rfl) T.f_list (by decide +kernel) rfl) pa_nil))) (nomark _)) (pss_one (ps_ret pe_bl)) pss_nil) (pss_cons (ps_if (PW.pt (pw_or (pt_cmpR op_ne (pe_callB call_isi (by rfl) T.f_isinstance (by decide +kernel) (pa_cons (pv 0) (pa_cons (pe_bltn (v := .ty "tuple") (by rfl) T.f_tuple (by decide +kernel) rfl) pa_nil))) (pe_callB call_isi (by rfl) T.f_isinstance (by decide +kernel) (pa_cons (pv 1) (pa_cons (pe_bltn (v := .ty "tuple") (by rfl) T.f_tuple (by decide +kernel) rfl) pa_nil))) (nomark _)) (pw_or1 (pt_cmpR op_ne (pe_callB call_len_seq (by rfl) T.f_len PySem.boot_len (pa_cons (pv 0) pa_nil)) (pe_callB call_len_seq (by rfl) T.f_len PySem.boot_len (pa_cons (pv 1) pa_nil)) (nomark _))))) (pss_one (ps_ret pe_bl)) pss_nil) (pss_one (ps_ret (pe_callB (cr_all rfl) (by rfl) T.f_all (by decide +kernel) (pa_cons (pe_cut (pe_lc (own := [("_law_one", 2), ("_law_other", 3)]) (g := (gTup K 2 (gCons (gName 2) (gCons (gName 3) gNil)))) (by rfl) scLawSame.nd (pi_zip (by rfl) T.f_zip (pa_cons (pv 0) (pa_cons (pv 1) pa_nil))) (blkOk_by (own := [("_law_one", 2), ("_law_other", 3)]) (N := NLawSame) (sc := defScope sLawSame) (by decide +kernel)) (fun _ _ _ _ _ => (pg_tup rfl (pgs_cons (pg_name (i := 2) scLawSame.nd rfl (Or.inl rfl)) (pgs_cons (pg_name (i := 3) scLawSame.nd rfl (Or.inl rfl)) pgs_nil)))) (fun _ _ _ _ _ => pts_nil) (fun _ _ _ _ _ => (pe_callH h__law_same (hr.mono (by decide)) (by rfl) pass0 (pa_cons (pv 2) (pa_cons (pv 3) pa_nil)))))) pa_nil)))))) pss_nil)
      (pss_cons (ps_if (pt_val (pe_callB call_isiT (by rfl) T.f_isinstance (by decide +kernel) (pa_cons (pv 1) (pa_cons (pe_tup (pa_cons (pe_bltn (v := .ty "bool") (by rfl) T.f_bool (by decide +kernel) rfl) (pa_cons (pe_bltn (v := .ty "int") (by rfl) T.f_int (by decide +kernel) rfl) pa_nil))) pa_nil)))) (pss_one (ps_ret (pe_and (pe_callB call_isi (by rfl) T.f_isinstance (by decide +kernel) (pa_cons (pv 0) (pa_cons (pe_bltn (v := .ty "int") (by rfl) T.f_int (by decide +kernel) rfl) pa_nil))) (pe_and (pe_cmpR op_eq (pe_callB call_isi (by rfl) T.f_isinstance (by decide +kernel) (pa_cons (pv 0) (pa_cons (pe_bltn (v := .ty "bool") (by rfl) T.f_bool (by decide +kernel) rfl) pa_nil))) (pe_callB call_isi (by rfl) T.f_isinstance (by decide +kernel) (pa_cons (pv 1) (pa_cons (pe_bltn (v := .ty "bool") (by rfl) T.f_bool (by decide +kernel) rfl) pa_nil))) (nomark _)) (pe_one (pe_cmpR op_eq (pv 0) (pv 1) (nomark _))))))) pss_nil)
      (pss_one (ps_ret (pe_and (pe_not (pe_callB call_isiT (by rfl) T.f_isinstance (by decide +kernel) (pa_cons (pv 0) (pa_cons (pe_tup (pa_cons (pe_bltn (v := .ty "bool") (by rfl) T.f_bool (by decide +kernel) rfl) (pa_cons (pe_bltn (v := .ty "int") (by rfl) T.f_int (by decide +kernel) rfl) (pa_cons (pe_bltn (v := .ty "list") (by rfl) T.f_list (by decide +kernel) rfl) (pa_cons (pe_bltn (v := .ty "tuple") (by rfl) T.f_tuple (by decide +kernel) rfl) pa_nil))))) pa_nil)))) (pe_one (pe_cmpR op_eq (pv 0) (pv 1) (nomark _)))))))), ?_⟩
    refine ⟨_, rfl, (by show 2 ≤ sizeLine; decide), fun tp htp => ?_⟩
    have s1 := same_upd (o := .tup [V.ty "list", V.ty "tuple"]) htp
    refine ⟨_, tp, _, _, _, true, rfl, upd_same, pairedTy (K := K) (H := H), .base (.lst (s1 _ _ hq)), kitLT, _, rfl, iteT ?_⟩
    have hp1 := s1 _ _ hp
    have hq1 := s1 _ _ hq
    refine ⟨_, rfl, _, _, _, _, true, rfl, .ty _, .base (.lst hp1), kit_ty (by decide +kernel), _, rfl, _, _, _, _, true, rfl, .ty _, .base (.lst hq1), kit_ty (by decide +kernel), rfl, _, rfl, iteNS (c := V.bl true = V.bl true) rfl ?_⟩
    refine ⟨_, rfl, _, _, _, _, false, rfl, .ty _, .base (.lst hp1), kit_ty (by decide +kernel), _, rfl, _, _, _, _, false, rfl, .ty _, .base (.lst hq1), kit_ty (by decide +kernel), rfl, _, rfl, iteNS (c := V.bl false = V.bl false) rfl ?_⟩
    refine ⟨_, rfl, p, _, rfl, .inl (SqL.of hp1), _, rfl, q, _, rfl, .inl (SqL.of hq1), rfl, _, rfl, iteNS (c := V.int ((zs.map V.int).length : Nat) = V.int ((zs.map V.int).length : Nat)) rfl ?_⟩
    generalize upd H tp (.tup [V.ty "list", V.ty "tuple"]) = Ha at s1 hp1 hq1
    refine ⟨fun v H' => Same H H' ∧ ∃ D, v = .ref D ∧ H' D = some (.lst (((List.range zs.length).map fun _ => true).map V.bl)), ?_, ?_⟩
    · refine ⟨_, rfl, _, rfl, p, q, zs.map V.int, zs.map V.int, rfl, SqL.of hp1, SqL.of hq1, fun D hD => lc_map (walk_zip (n := zs.length) (by rw [List.length_map]; omega)) (R := IsB) (fun _ h => h) (fun _ h => h) (fun _ => true) hD (by omega) (fun H' s => ⟨SqL.of (s _ _ hp1), SqL.of (s _ _ hq1)⟩) ?_ ?_⟩
      · rintro i x H4 H5 kk hi s6 ⟨Ta, x1, x2, rfl, nt, rfl, e1, e2⟩ hk
        have s7 := same_upd (o := .tup [x1, x2]) nt
        replace e1 : (zs.map V.int)[i]? = some x1 := e1
        replace e2 : (zs.map V.int)[i]? = some x2 := e2
        rw [e1] at e2
        cases e2
        rw [List.getElem?_map] at e1
        obtain ⟨z, _, rfl⟩ := Option.map_eq_some_iff.mp e1
        refine ⟨Ta, _, rfl, .inl (.inl upd_same), rfl, _, _, rfl, _, _, rfl, rfl, rfl, _, rfl, _, rfl, .inl ⟨z, rfl⟩, fun H' s8 => hk _ _ (s7.trans s8) rfl⟩
      · rintro H4 acc s6 eD pr
        refine ⟨s1.trans s6, D, rfl, ?_⟩
        rw [eD, isB_map pr]
    rintro v H4 ⟨s5, D, rfl, eD⟩
    refine ⟨D, _, rfl, SqL.of eD, ?_⟩
    have e : (((List.range zs.length).map fun _ => true).all id) = true := by
      rw [List.all_eq_true]
      intro b hb
      obtain ⟨_, _, rfl⟩ := List.mem_map.mp hb
      rfl
    rw [e]
    exact k _ s5
end
end K17

set_option Elab.async false
set_option linter.all false
set_option maxRecDepth 100000
set_option maxHeartbeats 4000000
/-! More cells, near to some. -/
namespace K18
open PySem PySem.Spec PyProof.Rows L2 KD K1 K2 K3 K4 K5 K6 K7 K8 K9 K10 K11 K12 K13 K14 K15 K16 K17
theorem good_mono {m B C : Int} (h : B ≤ C) {c : Cell} (g : Good m B c) : Good m C c := by
  obtain ⟨g1, g2, g3, g4, g5, g6⟩ := g
  exact ⟨g1, g2, g3, g4, by omega, g6⟩
section
variable {P : Program} {w : World} {K : PySem.W.Frag} {mg : Str → Option Value} {base : Heap}
def spLNear : Sp := fun vs H Q _ => ∃ (a c : Addr) (m : Int) (ys : List V) (cs : List Cell) (n : Nat), vs = [.ref a, .int m, .ref c] ∧ Strm H a n ∧ n ≤ 800000 ∧ 1 ≤ m ∧ m ≤ 10 ∧ c ≠ a ∧ H c = some (.lst ys) ∧ CRels H ys cs ∧ (∀ d ∈ cs, Good m 4 d) ∧ cs.length ≤ 6 ∧
  ∀ (p : Addr) (zs : List V) (ds : List Cell) (H' : Hp), H p = none → H' p = some (.lst zs) → CRels H' zs ds → (∀ d ∈ ds, Good m 5 d) → ds.length ≤ 6 → Strm H' a (n + 60) → But a H H' → Q (.ref p) H'
abbrev NLawNear : List Str := ["_law_stream_here", "_law_many", "_law_cells_here", "_law_way_here", "_law_found", "_law_at", "_law_first", "_law_last", "_law_need", "_law_wish"]
theorem scLawNear : FnScope NLawNear ["_law_stream_here", "_law_many", "_law_cells_here"] (defScope sLawNear) := ⟨rfl, rfl, rfl, by decide +kernel, rfl, by decide +kernel, by decide +kernel⟩
theorem ok_law_near (T : Txt K mg) (h__law_draw : Has P w K mg base CX0 "_law_draw" 1 ["_law_stream_here", "_law_many"] spDraw) (h__law_pick : Has P w K mg base CX0 "_law_pick" 2 ["_law_stream_here", "_law_things"] spPick)
    (h__law_mix : Has P w K mg base CX0 "_law_mix" 2 ["_law_stream_here", "_law_things"] spMix) (h__law_cells : Has P w K mg base CX0 "_law_cells" 3 ["_law_stream_here", "_law_many", "_law_most", "_law_high"] spCells) :
    Has P w K mg base CX0 "_law_near" 4 ["_law_stream_here", "_law_many", "_law_cells_here"] spLNear := by
  refine Has.mk T 41 (d := dLawNear) rfl rfl ⟨rfl, rfl⟩ T.g__law_near scLawNear (fun _ _ _ _ _ _ us hl => match us, hl with | [_, _, _], _ => rfl) (fun vs H Q E h => ?_) (fun cdv A0 outer s0 H vs Q E hr h => ?_)
  · obtain ⟨a, c, m, ys, cs, n, rfl, _⟩ := h
    rfl
  · obtain ⟨a, c, m, ys, cs, n, rfl, hs, hn, hm1, hm2, hca, hc, cr, gd, hcl, k⟩ := h
    refine ⟨_, (pss_cons (ps_par (i := 3) (j := 4) (by rfl) scLawNear.nd rfl rfl (by decide) rfl rfl (pa_cons (pe_callH h__law_draw (hr.mono (by decide)) (by rfl) pass0 (pa_cons (pv 0) (pa_cons pe_int pa_nil))) (pa_cons (pe_callTy call_list_of (by rfl) T.f_list (by decide +kernel) (pa_cons (pv 2) pa_nil)) pa_nil)) (by rfl))
      (pss_cons (ps_if (pt_cut (PW.pt (pw_or (pt_cmpR op_eq (pv 3) pe_int (nomark _)) (pw_or1 (pt_cmpR (op_eqD hr.units) (pv 2) (pe_lst pa_nil) (nomark _)))))) (pss_one (ps_ret (pe_callH h__law_cells (hr.mono (by decide)) (by rfl) pass0 (pa_cons (pv 0) (pa_cons (pv 1) (pa_cons pe_int (pa_cons pe_int pa_nil))))))) pss_nil)
      (pss_cons (ps_set (i := 5) scLawNear.nd rfl (Or.inl rfl) (pe_callH h__law_draw (hr.mono (by decide)) (by rfl) pass0 (pa_cons (pv 0) (pa_cons (pe_callB call_len_seq (by rfl) T.f_len PySem.boot_len (pa_cons (pv 2) pa_nil)) pa_nil))))
      (pss_cons (ps_asg (pe_ix ix_list (pv 2) (pv 5) (fun _ _ => rfl)) (pg_tup rfl (pgs_cons (pg_name (i := 6) scLawNear.nd rfl (Or.inl rfl)) (pgs_cons (pg_name (i := 7) scLawNear.nd rfl (Or.inl rfl)) (pgs_cons (pg_name (i := 8) scLawNear.nd rfl (Or.inl rfl)) (pgs_cons (pg_name (i := 9) scLawNear.nd rfl (Or.inl rfl)) pgs_nil))))))
      (pss_cons (ps_if (pt_cmpR op_eq (pv 3) pe_int (nomark _)) (pss_one (ps_ret (pe_op op_cat (pe_slice sl_list (pv 2) po_none (po_some (pv 5))) (pe_slice sl_list (pv 2) (po_some (pe_op op_add (pv 5) pe_int)) po_none)))) pss_nil)
      (C8.pss_cut (ps_if (pt_cmpR op_eq (pv 3) pe_int (nomark _)) (pss_one (ps_asg (pe_tup (pa_cons (pv 6) (pa_cons (pv 7) (pa_cons (pe_callB (call_max2 rfl) (by rfl) T.f_max (by decide +kernel) (pa_cons pe_int (pa_cons (pe_op op_add (pv 8) (pe_callH h__law_pick (hr.mono (by decide)) (by rfl) pass0 (pa_cons (pv 0) (pa_cons (pe_lst (pa_cons (pe_un un_neg pe_int) (pa_cons pe_int pa_nil))) pa_nil)))) pa_nil))) (pa_cons (pe_op op_add (pv 9) pe_int) pa_nil))))) (pg_sub (pv 4) (pv 5) set_list))) pss_nil)
      (pss_one (ps_ret (pe_callH h__law_mix (hr.mono (by decide)) (by rfl) pass0 (pa_cons (pv 0) (pa_cons (pv 4) pa_nil))))))))))), ?_⟩
    have hyl := pr_length cr
    refine ⟨_, rfl, a, 4, n, rfl, hs, by omega, by decide, by decide, fun wy H1 w0 w4 st1 bt1 => ⟨_, rfl, c, ys, rfl, .inl (SqL.of (bt1 _ _ hc hca)), fun l hl => ⟨_, _, rfl, ?_⟩⟩⟩
    have s2 := same_upd (o := .lst ys) hl
    have bt2 : But a H (upd H1 l (.lst ys)) := bt1.trans (But.of s2)
    have st2 := st1.same s2
    have hl0 : H l = none := bt1.free hs hl _ st1
    have el2 : (upd H1 l (.lst ys)) l = some (.lst ys) := upd_same
    generalize upd H1 l (.lst ys) = H2 at s2 bt2 st2 el2
    have nal : l ≠ a := fun z => by
      obtain ⟨x, y, z1, e1, _⟩ := hs
      rw [z, e1] at hl0
      cases hl0
    refine ⟨fun b H' => Same H2 H' ∧ (b = false → cs ≠ []), ?_, ?_⟩
    · refine ⟨_, rfl, rfl, _, rfl, ite2 (fun c1 => ⟨Same.refl _, fun z => nomatch z⟩) (fun c1 => ?_)⟩
      refine ⟨_, rfl, Nat.zero_le _, fun e he => ?_⟩
      have s3 := same_upd (o := .lst []) he
      refine ⟨_, _, .lst (SqL.of ((bt2.trans (But.of s3)) _ _ hc hca)) (cr.but (bt2.trans (But.of s3)) hs).dp, .lst (SqL.of upd_same) .nil, shaped_cD cs, shaped_cD [], _, rfl, s3, fun z y => ?_⟩
      rw [y] at z
      cases z
    rintro bb H3 ⟨s3, hne⟩
    have bt3 := bt2.trans (But.of s3)
    have st3 := st2.same s3
    refine ite2 (fun c1 => ?_) (fun c1 => ?_)
    · refine ⟨_, rfl, _, rfl, a, m, n + 1, rfl, st3, by omega, hm1, hm2, fun p zs ds H4 np hp cp gp hlp st4 bt4 => ?_⟩
      exact k p zs ds H4 (bt3.free hs np _ st3) hp cp (fun d hd => good_mono (by decide) (gp d hd)) hlp (st4.le (by omega)) (bt3.trans bt4)
    have cne : 0 < cs.length := List.length_pos_iff.mpr (hne (Bool.eq_false_iff.mpr c1))
    have hc3 := bt3 _ _ hc hca
    refine ⟨_, rfl, _, rfl, c, ys, rfl, .inl (SqL.of hc3), a, _, n + 1, rfl, st3, by omega, by omega, by omega, fun i H4 i0 i1 st4 bt4 => ?_⟩
    obtain ⟨j, rfl⟩ : ∃ j : Nat, i = j := ⟨i.toNat, by omega⟩
    have bt04 := bt3.trans bt4
    have hc4 := bt04 _ _ hc hca
    have el4 := bt4 _ _ (s3 _ _ el2) nal
    obtain ⟨v, hv, _, _⟩ := at_pos i0 i1
    obtain ⟨d, hd, t, rfl, et⟩ := pr_get (cr.but bt04 hs) hv
    have gdd := gd d (List.mem_of_getElem? hd)
    refine ⟨_, rfl, _, rfl, c, ys, j, _, rfl, rfl, SqL.of hc4, atI_pos i0 i1 hv, t, _, rfl, .inl (.inl et), rfl, _, _, rfl, _, _, rfl, _, _, rfl, _, _, rfl, rfl, ?_⟩
    refine ⟨_, rfl, rfl, _, rfl, ite2 (fun c2 => ?_) (fun c2 => ?_)⟩
    · refine ⟨_, rfl, _, rfl, _, rfl, c, ys, rfl, SqL.of hc4, fun q1 hq1 => ?_⟩
      have s5 := same_upd (o := .lst (cutV ys none (some (j : Int)))) hq1
      refine ⟨_, rfl, _, rfl, _, _, rfl, rfl, _, rfl, c, ys, rfl, SqL.of (s5 _ _ hc4), fun q2 hq2 => ?_⟩
      have s6 := same_upd (o := .lst (cutV ys (some ((j : Int) + 1)) none)) hq2
      have len1 : (cutV ys none (some (j : Int))).length ≤ ys.length := cutV_length _ _ _
      have len2 : (cutV ys (some ((j : Int) + 1)) none).length ≤ ys.length := cutV_length _ _ _
      refine ⟨q1, q2, _, _, rfl, rfl, s6 _ _ upd_same, upd_same, Nat.le_of_lt (small1000 (by omega)), fun q3 hq3 => ?_⟩
      have s7 := same_upd (o := .lst (cutV ys none (some (j : Int)) ++ cutV ys (some ((j : Int) + 1)) none)) hq3
      have s57 := (s5.trans s6).trans s7
      have bt5 := bt04.trans (But.of s57)
      have hq0 : H q3 = none := bt04.free hs ((s5.trans s6).free hq3) _ st4
      refine k q3 _ (KM.less cs j) _ hq0 upd_same ?_ (fun d hd => good_mono (by decide) (gd d (KM.less_sub d hd))) ?_ ((st4.same s57).le (by omega)) bt5
      · have e9 : (j : Int) + 1 = ((j + 1 : Nat) : Int) := by omega
        have e10 : cutV ys none (some (j : Int)) ++ cutV ys (some ((j : Int) + 1)) none = ys.take j ++ ys.drop (j + 1) := by rw [e9, cut_take, cut_drop]
        have h := pr_app (pr_take j (cr.but bt5 hs)) (pr_drop (j + 1) (cr.but bt5 hs))
        rw [← e10] at h
        exact h
      · unfold KM.less
        rw [List.length_append, List.length_take, List.length_drop]
        omega
    refine ⟨fun σ H' => σ = [some (.ref a), some (.int m), some (.ref c), some (.int wy), some (.ref l), some (.int j), some (.int d.f), some (.int d.l), some (.int d.n), some (.int d.w)] ∧ Strm H' a (n + 3) ∧ But a H H' ∧ ∃ zs ds, H' l = some (.lst zs) ∧ CRels H' zs ds ∧ (∀ d ∈ ds, Good m 5 d) ∧ ds.length ≤ 6, ?_, ?_⟩
    · refine ⟨_, rfl, rfl, _, rfl, ite2 (fun c3 => ?_) (fun c3 => ?_)⟩
      · refine ⟨_, rfl, _, rfl, _, rfl, _, rfl, 1, rfl, (by show 2 ≤ sizeLine; decide), fun D hD => ?_⟩
        have s5 := same_upd (o := .lst [V.int (-1), V.int 1]) hD
        have nDa : D ≠ a := fun z => by
          rw [z] at hD
          obtain ⟨x, y, z1, e1, _⟩ := st4
          rw [e1] at hD
          cases hD
        refine ⟨a, D, _, n + 2, rfl, st4.same s5, by omega, upd_same, nDa, by decide, by decide, fun v' H5 hv' st5 bt5 => ?_⟩
        obtain ⟨x, rfl, hx1, hx2⟩ : ∃ x : Int, v' = .int x ∧ -1 ≤ x ∧ x ≤ 1 := by
          rcases List.mem_cons.mp hv' with z | z
          · exact ⟨_, z, by decide, by decide⟩
          · rcases List.mem_cons.mp z with z | z
            · exact ⟨_, z, by decide, by decide⟩
            · cases z
        refine ⟨_, _, rfl, rfl, _, _, rfl, _, rfl, _, _, rfl, rfl, (by show 4 ≤ sizeLine; decide), fun t2 ht2 => ?_⟩
        rw [max_eq]
        have bt6 := bt04.trans ((But.of s5).trans bt5)
        have el5 := bt5 _ _ (s5 _ _ el4) nal
        have s6 := same_upd (o := .tup [V.int d.f, V.int d.l, V.int (max 0 (d.n + x)), V.int (d.w + 1)]) ht2
        have el6 := s6 _ _ el5
        refine ⟨_, rfl, _, rfl, l, ys, j, j, rfl, rfl, el6, ?_, rfl, ?_, ?_, ys.set j (.ref t2), cs.set j ⟨d.f, d.l, max 0 (d.n + x), d.w + 1⟩, upd_same, ?_, ?_, ?_⟩
        · unfold ixN
          rw [if_pos i0, if_pos i1]
          rfl
        · exact strm_upd (st5.same s6) nal.symm
        · intro b o hb hba
          rw [upd_ne (ne_of_none hb hl0)]
          exact s6 _ _ (bt6 _ _ hb hba)
        · exact CRels.updL el6 (pr_set j (cr.but (bt6.trans (But.of s6)) hs) ⟨t2, rfl, upd_same⟩)
        · intro d' hd'
          rcases List.mem_or_eq_of_mem_set hd' with z | z
          · exact good_mono (by decide) (gd d' z)
          · rw [z]
            obtain ⟨g1, g2, g3, g4, g5, g6⟩ := gdd
            exact ⟨g1, g2, g3, by show 0 ≤ max 0 (d.n + x); omega, by show max 0 (d.n + x) ≤ 5; omega, by show max 0 (d.n + x) ≤ d.w + 1; omega⟩
        · rw [List.length_set]
          exact hcl
      · exact ⟨rfl, st4.le (by omega), bt04, ys, cs, el4, cr.but bt04 hs, fun d hd => good_mono (by decide) (gd d hd), hcl⟩
    · rintro σ H5 ⟨rfl, st5, bt5, zs, ds, el5, cr5, gd5, hl5⟩
      have hzl := pr_length cr5
      refine ⟨_, rfl, _, rfl, a, l, zs, ds, n + 3, rfl, st5, by omega, el5, nal, cr5, by omega, fun p ys2 ds2 H6 np hp cp mp lp st6 bt6 => ?_⟩
      refine k p ys2 ds2 H6 (bt5.free hs np _ st5) hp cp (fun d hd => gd5 d (mp d hd)) ?_ (st6.le (by omega)) (bt5.trans bt6)
      rw [← pr_length cp]
      omega
end
end K18

set_option Elab.async false
set_option linter.all false
set_option maxRecDepth 100000
set_option maxHeartbeats 4000000
/-! The two tables' difference, as the program finds it and as the law does. -/
namespace KM2
open PySem PySem.Spec PyProof.Rows L2 KD K1 K2 K3 K4 K5 K6 K7 K8 K9 K10 K11 K12 K13 K14 K15 K16 K17 K18
/-! ### the candidates and the law's test -/
theorem cand_near {m s e : Nat} {A B : Int → Int → Int} {v : Int} (hse : s < e) (hem : e ≤ m) (h : cand m A B s e = some v) : A 0 m ≤ v ∧ nearB m A B v = true := by
  unfold cand at h
  split at h
  · cases h
  rename_i h1
  have fin : A 0 m ≤ v → leastB m A v (s, e) < B s e → A 0 m ≤ v ∧ nearB m A B v = true := fun q1 q2 => by
    refine ⟨q1, ?_⟩
    unfold nearB
    rw [if_neg (by omega)]
    refine List.any_eq_true.mpr ⟨(s, e), mem_alli.mpr ⟨Nat.le_of_lt hse, hem⟩, ?_⟩
    unfold nearP
    rw [decide_eq_true (show (s, e).1 < (s, e).2 from hse), Bool.true_and]
    exact decide_eq_true q2
  split at h
  · rename_i h2
    injection h with h
    refine fin (by omega) ?_
    unfold leastB
    rw [if_pos h2]
    obtain ⟨e1, e2⟩ := h2
    rw [e1, e2] at h1 ⊢
    show v < B (0 : Nat) m
    have z : ((0 : Nat) : Int) = 0 := rfl
    rw [z] at h1 ⊢
    omega
  · rename_i h2
    injection h with h
    refine fin (by omega) ?_
    unfold leastB
    rw [if_neg h2]
    show max (A s e) (A 0 e + A s m - v) < B s e
    omega
theorem near_cand {m : Nat} {A B : Int → Int → Int} {v : Int} (h : nearB m A B v = true) : ∃ s e u, s < e ∧ e ≤ m ∧ cand m A B s e = some u ∧ u ≤ v := by
  unfold nearB at h
  split at h
  · cases h
  rename_i h1
  obtain ⟨⟨s, e⟩, hm, hn⟩ := List.any_eq_true.mp h
  obtain ⟨q1, q2⟩ := mem_alli.mp hm
  unfold nearP at hn
  rw [Bool.and_eq_true, decide_eq_true_eq, decide_eq_true_eq] at hn
  obtain ⟨n1, n2⟩ := hn
  replace n1 : s < e := n1
  replace n2 : leastB m A v (s, e) < B s e := n2
  replace q2 : e ≤ m := q2
  unfold leastB at n2
  unfold cand
  split at n2
  · rename_i h2
    obtain ⟨e1, e2⟩ := h2
    replace e1 : s = 0 := e1
    replace e2 : e = m := e2
    subst e1 e2
    refine ⟨0, e, A 0 e, n1, q2, ?_, by omega⟩
    have z : ((0 : Nat) : Int) = 0 := rfl
    rw [z] at n2 ⊢
    rw [if_neg (by omega), if_pos ⟨rfl, rfl⟩]
  · rename_i h2
    replace n2 : max (A s e) (A 0 e + A s m - v) < B s e := n2
    refine ⟨s, e, max (A 0 m) (A 0 e + A s m - B s e + 1), n1, q2, ?_, by omega⟩
    rw [if_neg (by omega), if_neg h2]
/-! ### the best of the candidates -/
def Cov (b : Bst) (v : Int) : Prop := ∃ u zs, b = some (u, zs) ∧ u ≤ v
def From (G : Int → List Int → Prop) (b : Bst) : Prop := ∀ u zs, b = some (u, zs) → G u zs
theorem step_cov {m cs ds b s e v} (h : Cov b v) : Cov (stepB m cs ds b s e) v := by
  obtain ⟨u, zs, rfl, hu⟩ := h
  unfold stepB
  split
  · exact ⟨u, zs, rfl, hu⟩
  · rename_i w _
    split
    · rename_i h2
      have h3 : w < u := of_decide_eq_true h2
      exact ⟨_, _, rfl, by omega⟩
    · exact ⟨u, zs, rfl, hu⟩
theorem step_new {m cs ds b s e v} (h : cand m (KM.W cs) (KM.W ds) s e = some v) : Cov (stepB m cs ds b s e) v := by
  unfold stepB
  rw [h]
  show Cov (if lessB v b = true then some (v, near cs m s v) else b) v
  split
  · exact ⟨_, _, rfl, Int.le_refl _⟩
  · rename_i h2
    cases b with
    | none => exact absurd rfl h2
    | some b =>
      have h3 : ¬ v < b.1 := fun z => h2 (decide_eq_true z)
      exact ⟨b.1, b.2, rfl, by omega⟩
theorem step_from {G : Int → List Int → Prop} {m cs ds b s e} (hb : From G b) (hg : ∀ v, cand m (KM.W cs) (KM.W ds) s e = some v → G v (near cs m s v)) : From G (stepB m cs ds b s e) := by
  unfold stepB
  split
  · exact hb
  · rename_i v hv
    split
    · intro u zs h
      injection h with h
      injection h with h1 h2
      subst h1 h2
      exact hg v hv
    · exact hb
theorem row_all {G : Int → List Int → Prop} {m cs ds s} : ∀ (n : Nat) {b : Bst}, s + n ≤ m → (∀ e v, s < e → e ≤ m → cand m (KM.W cs) (KM.W ds) s e = some v → G v (near cs m s v)) → From G b →
    From G (rowB m cs ds b s n) ∧ (∀ v, Cov b v → Cov (rowB m cs ds b s n) v) ∧ ∀ e v, s < e → e < s + 1 + n → cand m (KM.W cs) (KM.W ds) s e = some v → Cov (rowB m cs ds b s n) v
  | 0, b, _, _, hb => ⟨hb, fun _ h => h, fun e v h1 h2 => by omega⟩
  | n + 1, b, hn, hg, hb => by
    obtain ⟨i1, i2, i3⟩ := row_all n (b := b) (by omega) hg hb
    rw [rowB_succ]
    refine ⟨step_from i1 fun v => hg _ v (by omega) (by omega), fun v h => step_cov (i2 v h), fun e v h1 h2 h3 => ?_⟩
    by_cases q : e < s + 1 + n
    · exact step_cov (i3 e v h1 q h3)
    · have e1 : e = s + 1 + n := by omega
      subst e1
      exact step_new h3
theorem all_all {G : Int → List Int → Prop} {m cs ds} : ∀ (n : Nat) {b : Bst}, n ≤ m → (∀ s e v, s < e → e ≤ m → cand m (KM.W cs) (KM.W ds) s e = some v → G v (near cs m s v)) → From G b →
    From G (allB m cs ds b n) ∧ (∀ v, Cov b v → Cov (allB m cs ds b n) v) ∧ ∀ s e v, s < n → s < e → e ≤ m → cand m (KM.W cs) (KM.W ds) s e = some v → Cov (allB m cs ds b n) v
  | 0, b, _, _, hb => ⟨hb, fun _ h => h, fun s e v h => by omega⟩
  | n + 1, b, hn, hg, hb => by
    obtain ⟨i1, i2, i3⟩ := all_all n (b := b) (by omega) hg hb
    rw [allB_succ]
    obtain ⟨j1, j2, j3⟩ := row_all (s := n) (m - n) (b := allB m cs ds b n) (by omega) (hg n) i1
    refine ⟨j1, fun v h => j2 v (i2 v h), fun s e v h1 h2 h3 h4 => ?_⟩
    by_cases q : s < n
    · exact j2 v (i3 s e v q h2 h3 h4)
    · have e1 : s = n := by omega
      subst e1
      exact j3 e v h2 (by omega) h4
/-- told by the one against the other -/
def Or1 (m : Nat) (cs ds : List Cell) (v : Int) (zs : List Int) : Prop := ∃ s e, s < e ∧ e ≤ m ∧ cand m (KM.W cs) (KM.W ds) s e = some v ∧ zs = near cs m s v
theorem pap_all {m cs ds} : From (fun v zs => Or1 m cs ds v zs ∨ Or1 m ds cs v zs) (pap m cs ds) ∧ (∀ s e v, s < e → e ≤ m → cand m (KM.W cs) (KM.W ds) s e = some v → Cov (pap m cs ds) v) ∧ ∀ s e v, s < e → e ≤ m → cand m (KM.W ds) (KM.W cs) s e = some v → Cov (pap m cs ds) v := by
  obtain ⟨i1, _, i3⟩ := all_all (G := fun v zs => Or1 m cs ds v zs ∨ Or1 m ds cs v zs) (m := m) (cs := cs) (ds := ds) m (b := none) (Nat.le_refl _) (fun s e v h1 h2 h3 => .inl ⟨s, e, h1, h2, h3, rfl⟩) (fun u zs h => nomatch h)
  obtain ⟨j1, j2, j3⟩ := all_all (G := fun v zs => Or1 m cs ds v zs ∨ Or1 m ds cs v zs) (m := m) (cs := ds) (ds := cs) m (b := allB m cs ds none m) (Nat.le_refl _) (fun s e v h1 h2 h3 => .inr ⟨s, e, h1, h2, h3, rfl⟩) i1
  exact ⟨j1, fun s e v h1 h2 h3 => j2 v (i3 s e v (by omega) h1 h2 h3), fun s e v h1 h2 h3 => j3 s e v (by omega) h1 h2 h3⟩
theorem or_far {m cs ds v zs} (h : Or1 m cs ds v zs ∨ Or1 m ds cs v zs) : farB m (KM.W cs) (KM.W ds) v = true := by
  unfold farB
  rcases h with ⟨s, e, h1, h2, h3, _⟩ | ⟨s, e, h1, h2, h3, _⟩
  · rw [(cand_near h1 h2 h3).2, Bool.true_or]
  · rw [(cand_near h1 h2 h3).2, Bool.or_true]
theorem far_cov {m cs ds v} (h : farB m (KM.W cs) (KM.W ds) v = true) : Cov (pap m cs ds) v := by
  obtain ⟨_, p2, p3⟩ := pap_all (m := m) (cs := cs) (ds := ds)
  unfold farB at h
  rcases Bool.or_eq_true_iff.mp h with h | h
  · obtain ⟨s, e, u, h1, h2, h3, h4⟩ := near_cand h
    obtain ⟨a, b, q1, q2⟩ := p2 s e u h1 h2 h3
    exact ⟨a, b, q1, by omega⟩
  · obtain ⟨s, e, u, h1, h2, h3, h4⟩ := near_cand h
    obtain ⟨a, b, q1, q2⟩ := p3 s e u h1 h2 h3
    exact ⟨a, b, q1, by omega⟩
/-! ### the placing -/
theorem zAt_lt {cs : List Cell} {m l i : Nat} {pl wd : Int} (h : i < m) : zAt (early cs m l pl wd) i = earl cs l pl i := zAt_eq (by
  unfold early
  rw [List.getElem?_append_left (by rw [List.length_map, List.length_range]; exact h), List.getElem?_map, List.getElem?_range h]
  rfl)
theorem zAt_m {cs : List Cell} {m l : Nat} {pl wd : Int} : zAt (early cs m l pl wd) m = wd := zAt_eq (by
  unfold early
  rw [List.getElem?_append_right (by rw [List.length_map, List.length_range]; exact Nat.le_refl _)]
  simp)
theorem early_len {cs : List Cell} {m l : Nat} {pl wd : Int} : (early cs m l pl wd).length = m + 1 := by
  unfold early
  simp
theorem earl_add {cs : List Cell} (ok : KM.Ok cs) {l i j : Nat} {pl : Int} (hij : i ≤ j) : earl cs l pl i + KM.W cs i j ≤ earl cs l pl j := by
  have a1 := KM.W_add ok (i := 0) (j := (i : Int)) (k := (j : Int)) (by omega) (by omega)
  unfold earl
  by_cases h1 : l ≤ i
  · have a2 := KM.W_add ok (i := (l : Int)) (j := (i : Int)) (k := (j : Int)) (by omega) (by omega)
    rw [if_pos h1, if_pos (by omega)]
    omega
  · rw [if_neg h1]
    split <;> omega
/-- what a placing keeps apart -/
theorem pl_apart {m : Nat} {cs : List Cell} {wd : Int} {zs : List Int} (g : ∀ d ∈ cs, Good m 5 d) (h : plB m cs wd zs = true) : ∀ (k i j : Nat), j - i ≤ k → i ≤ j → j ≤ m → zAt zs i + KM.W cs i j ≤ zAt zs j := by
  have ok := good_ok g
  unfold plB at h
  split at h
  case isFalse => cases h
  split at h
  · cases h
  rename_i hf
  have mono1 : ∀ i, i < m → zAt zs i ≤ zAt zs (i + 1) := fun i hi => by
    have q : ¬ zAt zs (i + 1) < zAt zs i := fun z => hf (by
      unfold fallsB
      exact List.any_eq_true.mpr ⟨i, List.mem_range.mpr hi, decide_eq_true z⟩)
    omega
  have mono : ∀ (k i : Nat), i + k ≤ m → zAt zs i ≤ zAt zs (i + k) := fun k => by
    induction k with
    | zero => exact fun i _ => Int.le_refl _
    | succ k ih =>
      intro i hi
      have h1 := ih i (by omega)
      have h2 := mono1 (i + k) (by omega)
      have e : i + (k + 1) = i + k + 1 := by omega
      rw [e]
      omega
  have room : ∀ d ∈ cs, zAt zs d.f.toNat + d.n ≤ zAt zs (d.l + 1).toNat := fun d hd => by
    have q : ¬ zAt zs (d.l + 1).toNat - zAt zs d.f.toNat < d.n := fun z => by
      have r : roomsB cs zs = true := by
        unfold roomsB
        exact List.any_eq_true.mpr ⟨d, hd, decide_eq_true z⟩
      rw [r] at h
      cases h
    omega
  intro k
  induction k with
  | zero =>
    intro i j h1 h2 h3
    have e : i = j := by omega
    subst e
    rw [KM.W_none ok (Int.le_refl _)]
    omega
  | succ k ih =>
    intro i j h1 h2 h3
    rcases KM.W_cases ok (i : Int) (j : Int) with e | ⟨d, hd, d1, d2, e⟩
    · have q := mono (j - i) i (by omega)
      rw [show i + (j - i) = j by omega] at q
      omega
    · obtain ⟨g1, g2, g3, _⟩ := g d hd
      have q1 := mono (d.f.toNat - i) i (by omega)
      rw [show i + (d.f.toNat - i) = d.f.toNat by omega] at q1
      have q2 := room d hd
      have q3 := ih (d.l + 1).toNat j (by omega) (by omega) h3
      rw [show (((d.l + 1).toNat : Nat) : Int) = d.l + 1 by omega] at q3
      omega
theorem pl_of {m : Nat} {cs : List Cell} {wd : Int} {zs : List Int} (g : ∀ d ∈ cs, Good m 5 d) (h0 : zAt zs 0 = 0) (hm : zAt zs m = wd) (h : ∀ i j : Nat, i < j → j ≤ m → zAt zs i + KM.W cs i j ≤ zAt zs j) : plB m cs wd zs = true := by
  have ok := good_ok g
  unfold plB
  rw [if_pos ⟨h0, hm⟩]
  have hf : ¬ fallsB m zs = true := fun z => by
    unfold fallsB at z
    obtain ⟨i, hi, q⟩ := List.any_eq_true.mp z
    have q := of_decide_eq_true q
    have hi := List.mem_range.mp hi
    have r := h i (i + 1) (by omega) (by omega)
    have n := KM.W_nonneg ok (i : Int) ((i + 1 : Nat) : Int)
    omega
  rw [if_neg hf]
  have hr : roomsB cs zs = false := by
    rw [Bool.eq_false_iff]
    intro z
    unfold roomsB at z
    obtain ⟨d, hd, q⟩ := List.any_eq_true.mp z
    have q := of_decide_eq_true q
    obtain ⟨g1, g2, g3, _⟩ := g d hd
    have r := h d.f.toNat (d.l + 1).toNat (by omega) (by omega)
    rw [show (((d.l + 1).toNat : Nat) : Int) = d.l + 1 by omega, show ((d.f.toNat : Nat) : Int) = d.f by omega] at r
    have c := KM.W_cell ok hd
    omega
  rw [hr]
  rfl
theorem or_pl {m : Nat} {cs ds : List Cell} {v : Int} {zs : List Int} (gc : ∀ d ∈ cs, Good m 5 d) (gd : ∀ d ∈ ds, Good m 5 d) (h : Or1 m cs ds v zs) : plB m cs v zs = true ∧ plB m ds v zs = false ∧ zs.length = m + 1 := by
  obtain ⟨s, e, hse, hem, hc, rfl⟩ := h
  have okc := good_ok gc
  have okd := good_ok gd
  obtain ⟨hA, _⟩ := cand_near hse hem hc
  -- the first place
  obtain ⟨P, eP, hP, hP0⟩ : ∃ P : Int, near cs m s v = early cs m s P v ∧ P + KM.W cs s m ≤ v ∧ (s = 0 → P = 0) ∧ (0 < s → P = v - KM.W cs s m) := by
    unfold near
    by_cases z : s = 0
    · subst z
      exact ⟨0, if_pos rfl, by have z : ((0 : Nat) : Int) = 0 := rfl; rw [z]; omega, fun _ => rfl, fun h => by omega⟩
    · exact ⟨v - KM.W cs s m, if_neg z, by omega, fun h => absurd h z, fun _ => rfl⟩
  rw [eP]
  have q0 : earl cs s P 0 = 0 := by
    have n : KM.W cs 0 ((0 : Nat) : Int) = 0 := KM.W_none okc (Int.le_refl _)
    unfold earl
    rw [n]
    split
    · have e1 : s = 0 := by omega
      have e2 := hP0.1 e1
      subst e1
      rw [e2, KM.W_none okc (Int.le_refl _)]
      omega
    · rfl
  have qm : earl cs s P m ≤ v := by
    unfold earl
    rw [if_pos (by omega)]
    omega
  have up : ∀ i j : Nat, i < j → j ≤ m → zAt (early cs m s P v) i + KM.W cs i j ≤ zAt (early cs m s P v) j := fun i j h1 h2 => by
    have a := earl_add okc (l := s) (i := i) (j := j) (pl := P) (by omega)
    rw [zAt_lt (by omega : i < m)]
    by_cases z : j < m
    · rw [zAt_lt z]
      exact a
    · have e1 : j = m := by omega
      subst e1
      rw [zAt_m]
      omega
  have p0 : zAt (early cs m s P v) 0 = 0 := by
    rw [zAt_lt (by omega), q0]
  refine ⟨pl_of gc p0 zAt_m up, ?_, early_len⟩
  rw [Bool.eq_false_iff]
  intro hd
  have ap := pl_apart gd hd (e - s) s e (Nat.le_refl _) (by omega) hem
  have es : zAt (early cs m s P v) s = max (KM.W cs 0 s) P := by
    rw [zAt_lt (by omega)]
    unfold earl
    rw [if_pos (Nat.le_refl _), KM.W_none okc (Int.le_refl (s : Int))]
    congr 1
    omega
  rw [es] at ap
  unfold cand at hc
  split at hc
  · cases hc
  rename_i c1
  split at hc
  · rename_i c2
    obtain ⟨e1, e2⟩ := c2
    subst e1 e2
    rw [zAt_m] at ap
    injection hc with hc
    have z : ((0 : Nat) : Int) = 0 := rfl
    rw [z] at ap c1
    omega
  · rename_i c2
    injection hc with hc
    by_cases z : e < m
    · rw [zAt_lt z] at ap
      unfold earl at ap
      rw [if_pos (by omega)] at ap
      by_cases y : s = 0
      · have := hP0.1 y
        subst y
        have z : ((0 : Nat) : Int) = 0 := rfl
        rw [z] at ap c1
        omega
      · have := hP0.2 (by omega)
        omega
    · have e1 : e = m := by omega
      subst e1
      rw [zAt_m] at ap
      by_cases y : s = 0
      · exact absurd ⟨y, rfl⟩ c2
      · have := hP0.2 (by omega)
        omega
/-! ### both -/
theorem or_top {m : Nat} {cs ds : List Cell} {v : Int} {zs : List Int} (okc : KM.Ok cs) (okd : KM.Ok ds) (h : Or1 m cs ds v zs) : 0 ≤ v ∧ v ≤ 2 * KM.W cs 0 m + 1 := by
  obtain ⟨s, e, hse, hem, hc, _⟩ := h
  have n1 := KM.W_nonneg okc 0 m
  have n2 := KM.W_nonneg okd s e
  have m1 := KM.W_mono1 okc (i := 0) (i' := (s : Int)) (j := (m : Int)) (by omega)
  have m2 := KM.W_mono2 okc (i := 0) (j := (e : Int)) (j' := (m : Int)) (by omega)
  unfold cand at hc
  split at hc
  · cases hc
  split at hc
  · injection hc with hc
    omega
  · injection hc with hc
    omega
theorem cand_none {m s e : Nat} {A B : Int → Int → Int} (h : cand m A B s e = none) : B s e ≤ A s e := by
  unfold cand at h
  split at h
  · assumption
  · split at h <;> cases h
theorem apart_math {m : Nat} {cs ds : List Cell} (hcs : ∀ d ∈ cs, Good m 5 d) (hds : ∀ d ∈ ds, Good m 5 d) {r : Option Int} (hr : FirstIs m (KM.W cs) (KM.W ds) r) :
    (pap m cs ds = none ∧ r = none ∧ alikeB m (KM.W cs) (KM.W ds) = true) ∨ ∃ w zs, pap m cs ds = some (w, zs) ∧ r = some w ∧ plB m cs w zs ≠ plB m ds w zs ∧ zs.length = m + 1 := by
  have okc := good_ok hcs
  have okd := good_ok hds
  obtain ⟨p1, p2, p3⟩ := pap_all (m := m) (cs := cs) (ds := ds)
  cases hp : pap m cs ds with
  | none =>
    refine .inl ⟨rfl, ?_, ?_⟩
    · cases r with
      | none => rfl
      | some v =>
        obtain ⟨_, _, q, _⟩ := far_cov hr.2.2.1
        rw [hp] at q
        cases q
    · unfold alikeB
      rw [List.all_eq_true]
      rintro ⟨s, e⟩ hm
      obtain ⟨q1, q2⟩ := mem_alli.mp hm
      replace q1 : s ≤ e := q1
      replace q2 : e ≤ m := q2
      refine decide_eq_true ?_
      show KM.W ds s e = KM.W cs s e
      by_cases z : s < e
      · have c1 : cand m (KM.W cs) (KM.W ds) s e = none := by
          cases q : cand m (KM.W cs) (KM.W ds) s e with
          | none => rfl
          | some v =>
            obtain ⟨_, _, y, _⟩ := p2 s e v z q2 q
            rw [hp] at y
            cases y
        have c2 : cand m (KM.W ds) (KM.W cs) s e = none := by
          cases q : cand m (KM.W ds) (KM.W cs) s e with
          | none => rfl
          | some v =>
            obtain ⟨_, _, y, _⟩ := p3 s e v z q2 q
            rw [hp] at y
            cases y
        have := cand_none c1
        have := cand_none c2
        omega
      · rw [KM.W_none okd (by omega), KM.W_none okc (by omega)]
  | some b =>
    obtain ⟨w, zs⟩ := b
    have o := p1 w zs hp
    have far := or_far o
    have bd : 0 ≤ w ∧ w < topW m (KM.W cs) (KM.W ds) := by
      have n1 := KM.W_nonneg okc 0 m
      have n2 := KM.W_nonneg okd 0 m
      unfold topW
      rcases o with o | o
      · have := or_top okc okd o
        omega
      · have := or_top okd okc o
        omega
    refine .inr ⟨w, zs, rfl, ?_, ?_, ?_⟩
    · cases r with
      | none =>
        have := hr w bd.1 bd.2
        rw [far] at this
        cases this
      | some v =>
        obtain ⟨v0, vt, vf, vm⟩ := hr
        obtain ⟨u, zs', q1, q2⟩ := far_cov vf
        rw [hp] at q1
        injection q1 with q1
        injection q1 with q1 _
        by_cases z : w < v
        · have := vm w bd.1 z
          rw [far] at this
          cases this
        · have e : v = w := by omega
          rw [e]
    · rcases o with o | o
      · obtain ⟨a, b, _⟩ := or_pl hcs hds o
        rw [a, b]
        decide
      · obtain ⟨a, b, _⟩ := or_pl hds hcs o
        rw [a, b]
        decide
    · rcases o with o | o
      · exact (or_pl hcs hds o).2.2
      · exact (or_pl hds hcs o).2.2
end KM2

set_option Elab.async false
set_option linter.all false
set_option maxRecDepth 100000
set_option maxHeartbeats 4000000
/-! Whether two Columns are told apart rightly. -/
namespace K19
open PySem PySem.Spec PyProof.Rows L2 KD K1 K2 K3 K4 K5 K6 K7 K8 K9 K10 K11 K12 K13 K14 K15 K16 K17 K18
theorem crels_srels {H : Hp} {vs : List V} {cs : List Cell} (h : CRels H vs cs) : SRels H vs cs := Paired.mapP h fun v c ⟨t, e, q⟩ => ⟨t, e, .inr q⟩
def frD (z : Int) : PyData := .tuple [.int z, .int 1]
theorem frels_dp {K : PySem.W.Frag} {H : Hp} : ∀ {vs : List V} {zs : List Int}, FRels H vs zs → DpAll K H vs (zs.map frD)
  | _, _, .nil => .nil
  | _, _, .cons ⟨t, e, q⟩ r => .cons (by rw [e]; exact .tup (.inl (.inl q)) (.cons (.int _) (.cons (.int _) .nil))) (frels_dp r)
def rvD : Int × List Int → PyData := fun b => .tuple [frD b.1, .list (b.2.map frD)]
theorem rv_dp {K : PySem.W.Frag} {H : Hp} {v : V} {b : Int × List Int} (h : RV H v (some b)) : Dp K H v (rvD b) := by
  obtain ⟨t, u, p, rfl, et, eu, vs, ep, fr⟩ := h
  exact .tup (.inl (.inl et)) (.cons (.tup (.inl (.inl eu)) (.cons (.int _) (.cons (.int _) .nil))) (.cons (.lst (SqL.of ep) (frels_dp fr)) .nil))
theorem eqv_frs : ∀ zs : List Int, PyData.eqvAll (zs.map frD) (zs.map frD) = true
  | [] => rfl
  | z :: r => by
    rw [List.map_cons]
    unfold PyData.eqvAll
    rw [eqv_frs r, Bool.and_true]
    show PyData.eqv (.tuple [.int z, .int 1]) (.tuple [.int z, .int 1]) = true
    rw [eqv_pair, decide_eq_true rfl, decide_eq_true rfl]
    rfl
theorem eqv_rv (b : Int × List Int) : PyData.eqv (rvD b) (rvD b) = true := by
  unfold rvD
  simp only [PyData.eqv, PyData.eqvAll, Bool.and_true, eqv_frs]
  show PyData.eqv (.tuple [.int b.1, .int 1]) (.tuple [.int b.1, .int 1]) = true
  rw [eqv_pair, decide_eq_true rfl, decide_eq_true rfl]
  rfl
theorem can_frs : ∀ zs : List Int, PyData.canLayAll0 (zs.map frD) = true
  | [] => rfl
  | c :: r => by
    show (PyData.canLay0 (frD c) && PyData.canLayAll0 (r.map frD)) = true
    rw [can_frs r]
    rfl
theorem depth_frs : ∀ zs : List Int, PyData.depthAll (zs.map frD) ≤ 1
  | [] => by decide
  | c :: r => by
    show max (PyData.depth (frD c)) (PyData.depthAll (r.map frD)) ≤ 1
    have h := depth_frs r
    have e : PyData.depth (frD c) = 1 := rfl
    omega
theorem shaped_rv (b : Int × List Int) : SeqAt.shaped (rvD b) = true := by
  unfold SeqAt.shaped rvD
  have h := depth_frs b.2
  rw [Bool.and_eq_true]
  refine ⟨?_, decide_eq_true ?_⟩
  · show (true && (PyData.canLayAll0 (b.2.map frD) && true)) = true
    rw [can_frs]
    rfl
  · show max 1 (max (PyData.depthAll (b.2.map frD) + 1) 0) + 1 ≤ 64
    omega
theorem w_bd {m : Nat} {cs : List Cell} (hm : m ≤ 10) (g : ∀ d ∈ cs, Good m 5 d) : 0 ≤ KM.W cs 0 m ∧ KM.W cs 0 m ≤ 1000000 := by
  have ok := good_ok g
  have h := KM.W_bound ok (B := 5) (by decide) (fun c hc => (g c hc).2.2.2.2.1) (j := (m : Int)) m 0 (by omega)
  exact ⟨KM.W_nonneg ok _ _, by omega⟩
section
variable {P : Program} {w : World} {K : PySem.W.Frag} {mg : Str → Option Value} {base : Heap}
def spARight (K : PySem.W.Frag) : Sp := fun vs H Q _ => ∃ (m : Nat) (c e x y : Addr) (ys zs : List V) (cs ds : List Cell), vs = [.int m, .ref c, .ref e, .ref x, .ref y] ∧ 1 ≤ m ∧ m ≤ 10 ∧ H c = some (.lst ys) ∧ CRels H ys cs ∧ H e = some (.lst zs) ∧ CRels H zs ds ∧ Col K H x m cs ∧ Col K H y m ds ∧
  (∀ d ∈ cs, Good m 5 d) ∧ (∀ d ∈ ds, Good m 5 d) ∧ cs.length ≤ 6 ∧ ds.length ≤ 6 ∧ ∀ H', Same H H' → Q (.bl true) H'
abbrev NLawApartRight : List Str := ["_law_many", "_law_cells_here", "_law_more", "_law_columns_here", "_law_twin", "_law_ways_here", "_law_others", "_law_found", "_law_due", "_law_mine"]
theorem scLawApartRight : FnScope NLawApartRight ["_law_many", "_law_cells_here", "_law_more", "_law_columns_here", "_law_twin"] (defScope sLawApartRight) := ⟨rfl, rfl, rfl, by decide +kernel, rfl, by decide +kernel, by decide +kernel⟩
theorem ok_apart_right (T : Txt K mg) (h__law_ways : Has P w K mg base CX0 "_law_ways" 14 ["_law_many", "_law_cells_here"] spLWays) (h__law_same : Has P w K mg base CX0 "_law_same" 1 ["_law_found", "_law_due"] spSame0)
    (h_same_placings : Has P w K mg base (L2.CX P w) "same_placings" 3 ["one", "other"] (spSamePl K)) (h_placing_apart : Has P w K mg base (L2.CX P w) "placing_apart" 5 ["one", "other"] (spPap K))
    (h__law_first_apart : Has P w K mg base CX0 "_law_first_apart" 2 ["_law_many", "_law_ways_here", "_law_others"] spFirst) (hC_init : HasI P w K mg base CX0 4 ["self", "many", "cells"] (spInit K))
    (h__law_is_placing : Has P w K mg base CX0 "_law_is_placing" 3 ["_law_many", "_law_cells_here", "_law_width", "_law_thing"] spIsPl) :
    Has P w K mg base CX0 "_law_apart_right" 15 ["_law_many", "_law_cells_here", "_law_more", "_law_columns_here", "_law_twin"] (spARight K) := by
  refine Has.mk T 40 (d := dLawApartRight) rfl rfl ⟨rfl, rfl⟩ T.g__law_apart_right scLawApartRight (fun _ _ _ _ _ _ us hl => match us, hl with | [_, _, _, _, _], _ => rfl) (fun vs H Q E h => ?_) (fun cdv A0 outer s0 H vs Q E hr h => ?_)
  · obtain ⟨m, c, e, x, y, ys, zs, cs, ds, rfl, _⟩ := h
    rfl
  · obtain ⟨m, c, e, x, y, ys, zs, cs, ds, rfl, hm1, hm2, hc, cr, he, dr, colx, coly, gc, gd, lc, ld, k⟩ := h
    refine ⟨_, (pss_cons (ps_par (i := 5) (j := 6) (by rfl) scLawApartRight.nd rfl rfl (by decide) rfl rfl (pa_cons (pe_callH h__law_ways (hr.mono (by decide)) (by rfl) pass0 (pa_cons (pv 0) (pa_cons (pv 1) pa_nil))) (pa_cons (pe_callH h__law_ways (hr.mono (by decide)) (by rfl) pass0 (pa_cons (pv 0) (pa_cons (pv 2) pa_nil))) pa_nil)) (by rfl))
      (pss_cons (ps_if (pt_not (pt_val (pe_callH h__law_same (hr.mono (by decide)) (by rfl) pass0 (pa_cons (pe_callH h_same_placings (hr.mono (by decide)) (by rfl) passL (pa_cons (pv 3) (pa_cons (pv 4) pa_nil))) (pa_cons (pe_cmpR (KR.op_eqT (hu_of hr)) (pv 5) (pv 6) (nomark _)) pa_nil))))) (pss_one (ps_ret pe_bl)) pss_nil)
      (pss_cons (ps_par (i := 7) (j := 8) (by rfl) scLawApartRight.nd rfl rfl (by decide) rfl rfl (pa_cons (pe_callH h_placing_apart (hr.mono (by decide)) (by rfl) passL (pa_cons (pv 3) (pa_cons (pv 4) pa_nil))) (pa_cons (pe_callH h__law_first_apart (hr.mono (by decide)) (by rfl) pass0 (pa_cons (pv 0) (pa_cons (pv 5) (pa_cons (pv 6) pa_nil)))) pa_nil)) (by rfl))
      (pss_cons (ps_if (pt_cut (PW.pt (pw_or (pt_cmpR op_isN (pv 8) pe_non (nomark _)) (pw_or1 (pt_cmpR op_isN (pv 7) pe_non (nomark _)))))) (pss_one (ps_ret (pe_and (pe_cmpR op_isN (pv 8) pe_non (nomark _)) (pe_and (pe_cmpR op_isN (pv 7) pe_non (nomark _)) (pe_one (pe_cmpR (KR.op_eqT (hu_of hr)) (pv 5) (pv 6) (nomark _))))))) pss_nil)
      (pss_cons (ps_if (PW.pt (pw_or (pt_not (pt_val (pe_callB call_isi (by rfl) T.f_isinstance (by decide +kernel) (pa_cons (pv 7) (pa_cons (pe_bltn (v := .ty "tuple") (by rfl) T.f_tuple (by decide +kernel) rfl) pa_nil))))) (pw_or (pt_cmpR op_ne (pe_callB call_len_seq (by rfl) T.f_len PySem.boot_len (pa_cons (pv 7) pa_nil)) pe_int (nomark _)) (pw_or1 (pt_cmpR (op_neD hr.units) (pe_ix ix_tup (pv 7) pe_int (fun _ _ => rfl)) (pe_tup (pa_cons (pv 8) (pa_cons pe_int pa_nil))) (nomark _)))))) (pss_one (ps_ret pe_bl)) pss_nil)
      (pss_cons (ps_if (pt_cmpR (op_neD hr.units) (pe_callH h_placing_apart (hr.mono (by decide)) (by rfl) passL (pa_cons (pe_makeH hC_init (hr.mono (by decide)) (by rfl) T pass0 (pa_cons (pv 0) (pa_cons (pv 1) pa_nil))) (pa_cons (pe_makeH hC_init (hr.mono (by decide)) (by rfl) T pass0 (pa_cons (pv 0) (pa_cons (pv 2) pa_nil))) pa_nil))) (pv 7) (nomark _)) (pss_one (ps_ret pe_bl)) pss_nil)
      (pss_cons (ps_set (i := 9) scLawApartRight.nd rfl (Or.inl rfl) (pe_callH h__law_is_placing (hr.mono (by decide)) (by rfl) pass0 (pa_cons (pv 0) (pa_cons (pv 1) (pa_cons (pe_ix ix_tup (pv 7) pe_int (fun _ _ => rfl)) (pa_cons (pe_ix ix_tup (pv 7) pe_int (fun _ _ => rfl)) pa_nil))))))
      (pss_one (ps_ret (pe_cmpR op_ne (pv 9) (pe_callH h__law_is_placing (hr.mono (by decide)) (by rfl) pass0 (pa_cons (pv 0) (pa_cons (pv 2) (pa_cons (pe_ix ix_tup (pv 7) pe_int (fun _ _ => rfl)) (pa_cons (pe_ix ix_tup (pv 7) pe_int (fun _ _ => rfl)) pa_nil))))) (nomark _))))))))))), ?_⟩
    have okc := good_ok gc
    have okd := good_ok gd
    have hyl := pr_length cr
    have hzl := pr_length dr
    have bdc := w_bd hm2 gc
    have bdd := w_bd hm2 gd
    -- the two tables
    refine ⟨_, rfl, _, rfl, m, c, ys, cs, rfl, hm2, hc, cr, okc, fun p1 H1 s1 np1 tp1 => ?_⟩
    refine ⟨_, rfl, _, rfl, m, e, zs, ds, rfl, hm2, s1 _ _ he, dr.same s1, okd, fun p2 H2 s2 np2 tp2 => ⟨_, _, rfl, ?_⟩⟩
    have n12 : p1 ≠ p2 := ne_of_none tp1 np2
    have tp12 : K6.TabAt H2 p1 m (KM.W cs) := s2 _ _ tp1
    have s02 := s1.trans s2
    -- the same placings
    refine ⟨_, rfl, _, rfl, x, y, m, m, cs, ds, rfl, colx.same s02, coly.same s02, fun _ H3 s3 => ⟨_, rfl, _, rfl, eqT_tabs (s3 _ _ tp12) (s3 _ _ tp2) ⟨.inr ⟨_, rfl⟩, fun H4 s4 => ⟨true, rfl, iteF ?_⟩⟩⟩, fun z => absurd rfl z⟩
    have s24 := s3.trans s4
    have s04 := s02.trans s24
    -- what is told, what is due
    refine ⟨_, rfl, _, rfl, x, y, m, m, cs, ds, rfl, colx.same s04, coly.same s04, hm2, fun _ v H5 s5 rv5 => ?_, fun z => absurd rfl z⟩
    have s25 := s24.trans s5
    refine ⟨_, rfl, _, rfl, _, rfl, m, p1, p2, KM.W cs, KM.W ds, rfl, n12, s25 _ _ tp12, s25 _ _ tp2, bdc.1, bdc.2, bdd.1, bdd.2, fun r H6 s6 fi => ⟨_, _, rfl, ?_⟩⟩
    have s26 := s25.trans s6
    have s06 := s02.trans s26
    have rv6 := RV.same s6 rv5
    have mm := KM2.apart_math gc gd fi
    refine ⟨fun b H' => Same H6 H' ∧ b = decide (r = none), ?_, ?_⟩
    · refine ⟨_, rfl, rfl, _, rfl, ite2 (fun c1 => ?_) (fun c1 => ?_)⟩
      · have c2 : oV r = .non := of_decide_eq_true c1
        cases r with
        | none => exact ⟨Same.refl _, rfl⟩
        | some i => cases c2
      · have c2 : ¬ oV r = .non := of_decide_eq_false (Bool.eq_false_iff.mpr c1)
        refine ⟨_, rfl, rfl, _, rfl, Same.refl _, ?_⟩
        rcases mm with ⟨_, e2, _⟩ | ⟨wd, ps, e1, e2, _⟩
        · exact absurd (by rw [e2]; rfl) c2
        · rw [e1] at rv6
          obtain ⟨t, u, p, rfl, _⟩ := rv6
          rw [e2, decide_eq_false (fun z => nomatch z), decide_eq_false (fun z => nomatch z)]
    rintro bb H7 ⟨s7, rfl⟩
    have s27 := s26.trans s7
    have s07 := s06.trans s7
    refine ite2 (fun cc => ?_) (fun cc => ?_)
    · have c1 : r = none := of_decide_eq_true cc
      subst c1
      rcases mm with ⟨e1, _, e3⟩ | ⟨_, _, _, e2, _⟩
      · rw [e1] at rv6
        obtain rfl : v = .non := rv6
        refine ⟨_, rfl, rfl, true, congrArg V.bl (decide_eq_true rfl), iteT ⟨_, rfl, rfl, true, congrArg V.bl (decide_eq_true rfl), iteT ⟨_, rfl, _, rfl, eqT_tabs (s27 _ _ tp12) (s27 _ _ tp2) ?_⟩⟩⟩
        rw [e3]
        exact k _ s07
      · cases e2
    · have c1 : ¬ r = none := of_decide_eq_false (Bool.eq_false_iff.mpr cc)
      rcases mm with ⟨_, e2, _⟩ | ⟨wd, ps, e1, e2, e3, e4⟩
      · exact absurd e2 c1
      subst e2
      rw [e1] at rv6
      have rv7 := RV.same s7 rv6
      obtain ⟨t, u, p, rfl, ht, hu, pl⟩ := id rv7
      -- its shape
      refine ⟨_, rfl, _, _, _, _, true, rfl, .ty _, .base (.tup ht), kit_ty (by decide +kernel), true, rfl, iteF ?_⟩
      refine ⟨_, rfl, t, _, rfl, .inr (.inl (.inl ht)), rfl, _, rfl, iteNS (c := V.int (([V.ref u, V.ref p] : List V).length : Nat) = V.int 2) rfl ?_⟩
      refine ⟨_, rfl, t, _, 0, _, rfl, rfl, .inl (.inl ht), rfl, _, rfl, (by show 2 ≤ sizeLine; decide), fun t1 ht1 => ?_⟩
      have s8 := same_upd (o := .tup [oV (some wd), .int 1]) ht1
      refine ⟨frD wd, frD wd, .tup (.inl (.inl (s8 _ _ hu))) (.cons (.int _) (.cons (.int _) .nil)), .tup (.inl (.inl upd_same)) (.cons (.int _) (.cons (.int _) .nil)), rfl, rfl, _, rfl, ?_⟩
      have ef : (!PyData.eqv (frD wd) (frD wd)) = false := by
        show (!PyData.eqv (.tuple [.int wd, .int 1]) (.tuple [.int wd, .int 1])) = false
        rw [eqv_pair, decide_eq_true rfl, decide_eq_true rfl]
        rfl
      rw [ef]
      refine iteF ?_
      have s08 := s07.trans s8
      -- made anew
      generalize upd H7 t1 (.tup [oV (some wd), .int 1]) = H8 at s8 s08
      refine ⟨_, rfl, _, rfl, fun xa da nxa nda nxda => ?_⟩
      have sa : Same H8 (upd (upd H8 da (.own xa)) xa (.ins (CC K) da [])) := fun b' o e => by
        rw [upd_ne (ne_of_none e nxa), upd_ne (ne_of_none e nda)]
        exact e
      have s0a := s08.trans sa
      refine ⟨xa, da, c, m, 5, ys, cs, rfl, upd_same, hm1, hm2, .inl (s0a _ _ hc), crels_srels (cr.same s0a), by omega, gc, fun H9 b9 ca => ⟨rfl, ?_⟩⟩
      have s89 : Same H8 H9 := fun b' o e => b9 _ _ (sa _ _ e) (ne_of_none e nxa)
      have s09 := s08.trans s89
      refine ⟨_, rfl, _, rfl, fun xb db nxb ndb nxdb => ?_⟩
      have sb : Same H9 (upd (upd H9 db (.own xb)) xb (.ins (CC K) db [])) := fun b' o e => by
        rw [upd_ne (ne_of_none e nxb), upd_ne (ne_of_none e ndb)]
        exact e
      have s0b := s09.trans sb
      refine ⟨xb, db, e, m, 5, zs, ds, rfl, upd_same, hm1, hm2, .inl (s0b _ _ he), crels_srels (dr.same s0b), by omega, gd, fun H10 b10 cb => ⟨rfl, ?_⟩⟩
      have s9t : Same H9 H10 := fun b' o e => b10 _ _ (sb _ _ e) (ne_of_none e nxb)
      have s8t := s89.trans s9t
      refine ⟨xa, xb, m, m, cs, ds, rfl, ca.same s9t, cb, hm2, fun _ v2 H11 s11 rv11 => ?_, fun z => absurd rfl z⟩
      have s8e := s8t.trans s11
      have s0e := s08.trans s8e
      have s7e := s8.trans s8e
      have rvo := RV.same s7e rv7
      rw [e1] at rv11
      refine ⟨_, rfl, rvD (wd, ps), rvD (wd, ps), rv_dp rv11, rv_dp rvo, shaped_rv _, shaped_rv _, _, rfl, ?_⟩
      rw [eqv_rv]
      refine iteF ?_
      obtain ⟨_, _, _, z1, hte, hue, ple⟩ := id rvo
      injection z1 with z1
      subst z1
      have hte2 := s7e _ _ ht
      rw [hte] at hte2
      injection hte2 with hte2
      injection hte2 with hte2
      injection hte2 with q1 q2
      injection q1 with q1
      injection q2 with q2 _
      injection q2 with q2
      subst q1 q2
      -- whose placing
      have cellsOk : ∀ {l : List Cell}, (∀ d ∈ l, Good m 5 d) → ∀ d ∈ l, 0 ≤ d.f ∧ d.f ≤ d.l ∧ d.l < (m : Int) := fun g d hd => ⟨(g d hd).1, (g d hd).2.1, (g d hd).2.2.1⟩
      refine ⟨_, rfl, _, rfl, _, rfl, _, _, 0, _, rfl, rfl, .inl (.inl hte), rfl, _, rfl, _, _, 1, _, rfl, rfl, .inl (.inl hte), rfl, ?_⟩
      refine ⟨m, c, _, _, ys, cs, wd, ps, rfl, hm2, s0e _ _ hc, cr.same s0e, by omega, cellsOk gc, hue, ple, e4, fun H12 s12 => ?_⟩
      refine ⟨_, rfl, _, rfl, _, rfl, _, rfl, _, _, 0, _, rfl, rfl, .inl (.inl (s12 _ _ hte)), rfl, _, rfl, _, _, 1, _, rfl, rfl, .inl (.inl (s12 _ _ hte)), rfl, ?_⟩
      refine ⟨m, e, _, _, zs, ds, wd, ps, rfl, hm2, (s0e.trans s12) _ _ he, dr.same (s0e.trans s12), by omega, cellsOk gd, s12 _ _ hue, K9.PlAt.same s12 ple, e4, fun H13 s13 => ⟨rfl, ?_⟩⟩
      have en : ¬ V.bl (plB m cs wd ps) = V.bl (plB m ds wd ps) := fun z => e3 (by injection z)
      rw [decide_eq_false en]
      exact k _ ((s0e.trans s12).trans s13)
end
end K19

set_option Elab.async false
set_option linter.all false
set_option maxRecDepth 100000
set_option maxHeartbeats 4000000
/-! The law. -/
namespace K20
open PySem PySem.Spec PyProof.Rows L2 KD K1 K2 K3 K4 K5 K6 K7 K8 K9 K10 K11 K12 K13 K14 K15 K16 K17 K18 K19
abbrev lawC (K : PySem.W.Frag) : Addr × Addr := He.cT K ("law", none)
def TT (K : PySem.W.Frag) : List (Addr × Str) := [((lawC K).2, (dPLaw.qual ++ ".<locals>.") ++ "<lambda>")]
theorem isN_law {m k : Nat} {B : Int} {cs : List Cell} {d : Cell} (gd : ∀ d ∈ cs, Good m B d) (hd : cs[k]? = some d) : isN cs k = (decide (d.n > 0) && alikeB m (KM.W (KM.less cs k)) (KM.W cs)) := by
  obtain ⟨g1, g2, g3, _⟩ := gd d (List.mem_of_getElem? hd)
  have ni := KM.needless_iff (good_ok gd) hd g1 g3
  unfold isN
  rw [hd]
  show (decide (d.n > 0) && decide (KM.W (KM.less cs k) d.f (d.l + 1) ≥ d.n)) = _
  congr 1
  rw [Bool.eq_iff_iff, decide_eq_true_eq]
  unfold alikeB
  rw [List.all_eq_true]
  refine ni.trans ⟨fun h p hp => ?_, fun h s e h1 h2 => ?_⟩
  · obtain ⟨q1, q2⟩ := mem_alli.mp hp
    exact decide_eq_true (h p.1 p.2 q1 q2).symm
  · exact (of_decide_eq_true (h (s, e) (mem_alli.mpr ⟨h1, h2⟩))).symm
theorem same_but {H0 H1 H2 : Hp} {a : Addr} (s : Same H0 H1) (n : H0 a = none) (b : But a H1 H2) : Same H0 H2 := fun x o e => b _ _ (s _ _ e) (ne_of_none e n)
theorem col_but {K : PySem.W.Frag} {H H' : Hp} {x a : Addr} {m n : Nat} {cs : List Cell} (h : Col K H x m cs) (st : Strm H a n) (b : But a H H') : Col K H' x m cs := by
  obtain ⟨dx, fs, lc, lw, ys, h1, h2, h3, h4, h5⟩ := h
  obtain ⟨p, q, r, e, _⟩ := id st
  refine ⟨dx, fs, lc, lw, ys, b _ _ h1 (ne_of h1 e (by intro z; cases z)), h2, b _ _ h3 (fun z => ?_), h4.but b st, b _ _ h5 (ne_of h5 e (by intro z; cases z))⟩
  rw [z, e] at h3
  injection h3 with h3
  injection h3 with h3
  rw [← h3] at h4
  cases h4 with
  | cons w _ =>
    obtain ⟨t, z, _⟩ := w
    cases z
theorem ext_col {K : PySem.W.Frag} {H H' : Hp} {x : Addr} {m : Nat} {cs : List Cell} (h : Col K H x m cs) (b : LamX.ExtN H H') : Col K H' x m cs := by
  obtain ⟨dx, fs, lc, lw, ys, h1, h2, h3, h4, h5⟩ := h
  exact ⟨dx, fs, lc, lw, ys, b _ _ h1 (fun _ z => nomatch z), h2, b _ _ h3 (fun _ z => nomatch z), Paired.mapP h4 fun v c ⟨t, e, q⟩ => ⟨t, e, b _ _ q fun _ z => nomatch z⟩, b _ _ h5 (fun _ z => nomatch z)⟩
theorem tabs_upd {T : List (Addr × Str)} {H : Hp} {l : Addr} {xs : List V} {o : HO} (e : H l = some (.lst xs)) (t : LamX.Tabs T H) : LamX.Tabs T (upd H l o) := fun p hp => by
  obtain ⟨ps, h1, h2, h3⟩ := t p hp
  refine ⟨ps, by rw [upd_ne (ne_of h1 e (by intro z; cases z))]; exact h1, h2, fun pos cv hc => ?_⟩
  obtain ⟨c, rfl, h4⟩ := h3 pos cv hc
  exact ⟨c, rfl, by rw [upd_ne (ne_of h4 e (by intro z; cases z))]; exact h4⟩
def unD : PyData := .list [.list [.str "unlike"], .list [.str "unlike"]]
theorem ext_sqL {K : PySem.W.Frag} {H H' : Hp} {a : Addr} {xs : List V} (e : LamX.ExtN H H') (h : SqL K H a xs) : SqL K H' a xs := by
  rcases h with (h | ⟨o, h⟩) | h
  · exact .inl (.inl (e _ _ h fun _ z => nomatch z))
  · exact .inl (.inr ⟨o, e _ _ h fun _ z => nomatch z⟩)
  · exact .inr h
section
variable {P : Program} {w : World} {K : PySem.W.Frag} {mg : Str → Option Value} {base : Heap}
def spLaw (K : PySem.W.Frag) : Sp := fun vs H Q _ => ∃ (sa : Addr) (ns : List Int), vs = [.ref sa] ∧ SqL K H sa (ns.map V.int) ∧ ns.length ≤ 63 ∧ H (lawC K).2 = some (.tbl #[]) ∧ ∀ H', Q (.bl true) H'
abbrev NLawMet : List Str := ["_law_ask"]
theorem scLawMet : FnScope NLawMet ["_law_ask"] (defScope sLawMet) := ⟨rfl, rfl, rfl, by decide +kernel, rfl, by decide +kernel, by decide +kernel⟩
abbrev NPLaw : List Str := ["_law_script", "_law_turn", "_law_stream_here", "_law_many", "_law_cells_here", "_law_ways_here", "_law_due", "_law_at", "_law_cell", "_law_is_idle", "_law_k", "_law_more", "_law_found", "_law_columns_here", "_law_other"]
theorem scPLaw : FnScope NPLaw ["_law_script"] (defScope sPLaw) := ⟨rfl, rfl, rfl, by decide +kernel, rfl, by decide +kernel, by decide +kernel⟩
theorem ok_law {fd fdM : FuncData} (T : Txt K mg) (F : FunD K dPLaw.name dPLaw.qual dPLaw.params dPLaw.body dPLaw.scope [] [] (He.ga K "law") fd)
    (FM : FunD K dLawMet.name dLawMet.qual dLawMet.params dLawMet.body dLawMet.scope [] [] (He.ga K "_law_met") fdM) (TB0 : LamX.TabB base mg (lawC K).1 (lawC K).2)
    (h__law_stream : Has P w K mg base CX0 "_law_stream" 1 ["_law_script", "_law_k"] (spStream K)) (h__law_draw : Has P w K mg base CX0 "_law_draw" 1 ["_law_stream_here", "_law_many"] spDraw)
    (h__law_cells : Has P w K mg base CX0 "_law_cells" 3 ["_law_stream_here", "_law_many", "_law_most", "_law_high"] spCells) (h__law_columns : Has P w K mg base CX0 "_law_columns" 6 ["_law_stream_here", "_law_many", "_law_cells_here"] (spLCols K))
    (h__law_ways : Has P w K mg base CX0 "_law_ways" 14 ["_law_many", "_law_cells_here"] spLWays) (h__law_same : Has P w K mg base CX0 "_law_same" 2 ["_law_found", "_law_due"] spSame1)
    (hM_needless_cells : HasM P w K mg base CX0 "needless_cells" 2 ["self"] (spNeedless K)) (h__law_near : Has P w K mg base CX0 "_law_near" 4 ["_law_stream_here", "_law_many", "_law_cells_here"] spLNear)
    (h__law_apart_right : Has P w K mg base CX0 "_law_apart_right" 15 ["_law_many", "_law_cells_here", "_law_more", "_law_columns_here", "_law_twin"] (spARight K)) (hC_init : HasI P w K mg base CX0 4 ["self", "many", "cells"] (spInit K))
    (h_same_placings : Has P w K mg base (L2.CX P w) "same_placings" 3 ["one", "other"] (spSamePl K)) (h_placing_apart : Has P w K mg base (L2.CX P w) "placing_apart" 5 ["one", "other"] (spPap K)) :
    FnOk P w K mg base CX0 16 (He.ga K "law") fd ["_law_script"] (spLaw K) := by
  have kpM := FM.kp
  have bM : Binds K fdM ["_law_ask"] [] := FM.bindsN (fun _ _ _ _ _ _ us hl => match us, hl with | [_], _ => rfl)
  obtain ⟨ocM, odM, dVM, kVM, docM, pmM, anM, cdvM, ctM, oslM, rfl, lkM, hcM, _, _⟩ := FM.ex
  obtain ⟨oc, od, dV, kV, doc, pm, an, cdv, ct, osl, rfl, lk, hcd, _, _⟩ := F.ex
  obtain ⟨cc, rfl⟩ := He.codeIn_ref hcd
  have ec : (lawC K).1 = cc := He.codeOf_eq (p := ("law", none)) lk rfl
  have TB : LamX.TabB base mg cc (lawC K).2 := by
    rw [← ec]
    exact TB0
  have hmT : ((lawC K).2, (dPLaw.qual ++ ".<locals>.") ++ "<lambda>") ∈ TT K := List.mem_singleton.mpr rfl
  have huT : ∀ p ∈ TT K, p.1 = (lawC K).2 → p.2 = (dPLaw.qual ++ ".<locals>.") ++ "<lambda>" := fun p hp _ => congrArg Prod.snd (List.mem_singleton.mp hp)
  refine fn_of lk hcd scPLaw (fun vs H Q E h => ?_) (fun A outer s H vs Q E hr h => ?_)
  · obtain ⟨sa, ns, rfl, _⟩ := h
    rfl
  · obtain ⟨sa, ns, rfl, hS, hl, hT, k⟩ := h
    suffices hh : ∃ t, PSs (cxOf CX0 P w K mg base NPLaw dPLaw.qual dPLaw.scope (He.ga K "law") (.ref cc) A outer s H E).nox dPLaw.body t ∧ t { nx := fun _ H' => Q .non H', rt := Q } (L2.start NPLaw [V.ref sa]) H by
      obtain ⟨t, h1, h2⟩ := hh
      exact ⟨t, h1.nox, h2⟩
    have eqX : (cxOf CX0 P w K mg base NPLaw dPLaw.qual dPLaw.scope (He.ga K "law") (.ref cc) A outer s H E).nox.env.qual = dPLaw.qual ++ ".<locals>." := rfl
    have hmX : ((lawC K).2, (cxOf CX0 P w K mg base NPLaw dPLaw.qual dPLaw.scope (He.ga K "law") (.ref cc) A outer s H E).nox.env.qual ++ "<lambda>") ∈ TT K := by
      rw [eqX]
      exact hmT
    have huX : ∀ p ∈ TT K, p.1 = (lawC K).2 → p.2 = (cxOf CX0 P w K mg base NPLaw dPLaw.qual dPLaw.scope (He.ga K "law") (.ref cc) A outer s H E).nox.env.qual ++ "<lambda>" := by
      rw [eqX]
      exact huT
    refine ⟨_, (pss_cons (ps_for PassesOwn.never rfl (pi_range1 (by rfl) T.f_range (pa_cons pe_int pa_nil)) (pg_name (i := 1) scPLaw.nd rfl (Or.inl rfl)) (pss_cons (ps_set (i := 2) scPLaw.nd rfl (Or.inl rfl) (pe_callH h__law_stream (hr.mono (by decide)) (by rfl) pass0 (pa_cons (pv 0) (pa_cons (pv 1) pa_nil)))) (pss_cons (ps_set (i := 3) scPLaw.nd rfl (Or.inl rfl) (pe_op op_add pe_int (pe_callH h__law_draw (hr.mono (by decide)) (by rfl) pass0 (pa_cons (pv 2) (pa_cons pe_int pa_nil))))) (pss_cons (ps_set (i := 4) scPLaw.nd rfl (Or.inl rfl) (pe_callH h__law_cells (hr.mono (by decide)) (by rfl) pass0 (pa_cons (pv 2) (pa_cons (pv 3) (pa_cons pe_int (pa_cons pe_int pa_nil)))))) (pss_cons (ps_asg (pe_tup (pa_cons (pe_callH h__law_columns (hr.mono (by decide)) (by rfl) pass0 (pa_cons (pv 2) (pa_cons (pv 3) (pa_cons (pv 4) pa_nil)))) (pa_cons (pe_callH h__law_ways (hr.mono (by decide)) (by rfl) pass0 (pa_cons (pv 3) (pa_cons (pv 4) pa_nil))) (pa_cons (pe_lst pa_nil) pa_nil)))) (pg_tup rfl (pgs_cons (pg_name (i := 13) scPLaw.nd rfl (Or.inr rfl)) (pgs_cons (pg_name (i := 5) scPLaw.nd rfl (Or.inl rfl)) (pgs_cons (pg_name (i := 6) scPLaw.nd rfl (Or.inl rfl)) pgs_nil))))) (pss_cons (ps_for PassesOwn.never rfl (pi_enum (by rfl) T.f_enumerate (pa_cons (pv 4) pa_nil)) (pg_tup rfl (pgs_cons (pg_name (i := 7) scPLaw.nd rfl (Or.inl rfl)) (pgs_cons (pg_name (i := 8) scPLaw.nd rfl (Or.inl rfl)) pgs_nil))) (pss_cons (ps_set (i := 9) scPLaw.nd rfl (Or.inl rfl) (pe_cut (pe_and (pe_cmpR op_gt (pe_ix ix_tup (pv 8) pe_int (fun _ _ => rfl)) pe_int (nomark _)) (pe_one (pe_cmpR (KR.op_eqT (hu_of hr)) (pe_callH h__law_ways (hr.mono (by decide)) (by rfl) pass0 (pa_cons (pv 3) (pa_cons (pe_op op_cat (pe_slice sl_list (pv 4) po_none (po_some (pv 7))) (pe_slice sl_list (pv 4) (po_some (pe_op op_add (pv 7) pe_int)) po_none)) pa_nil))) (pv 5) (nomark _)))))) (pss_one (ps_expr (pe_bm PySem.F.plainAttrs_list PySem.F.slot_list_extend PySem.F.type_list_extend mt_extend (pv 6) (pa_cons (pe_cut (pe_ifExp (pt_val (pv 9)) (pe_lst (pa_cons (pv 7) pa_nil)) (pe_lst pa_nil))) pa_nil)))))) (pss_cons (ps_if (pt_not (pt_val (pe_callH h__law_same (hr.mono (by decide)) (by rfl) pass0 (pa_cons (pe_meth0H hM_needless_cells T (hr.mono (by decide)) pass0 (pv 13)) (pa_cons (pv 6) pa_nil))))) (pss_one (ps_ret pe_bl)) pss_nil) (pss_cons (ps_for PassesOwn.never rfl (pi_range1 (by rfl) T.f_range (pa_cons pe_int pa_nil)) (pg_name (i := 10) scPLaw.nd rfl (Or.inl rfl)) (pss_cons (ps_set (i := 11) scPLaw.nd rfl (Or.inl rfl) (pe_callH h__law_near (hr.mono (by decide)) (by rfl) pass0 (pa_cons (pv 2) (pa_cons (pv 3) (pa_cons (pv 4) pa_nil))))) (pss_one (ps_if (pt_not (pt_val (pe_callH h__law_apart_right (hr.mono (by decide)) (by rfl) pass0 (pa_cons (pv 3) (pa_cons (pv 4) (pa_cons (pv 11) (pa_cons (pv 13) (pa_cons (pe_callH h__law_columns (hr.mono (by decide)) (by rfl) pass0 (pa_cons (pv 2) (pa_cons (pv 3) (pa_cons (pv 11) pa_nil)))) pa_nil)))))))) (pss_one (ps_ret pe_bl)) pss_nil)))) (pss_cons (ps_set (i := 14) scPLaw.nd rfl (Or.inr rfl) (pe_makeH hC_init (hr.mono (by decide)) (by rfl) T pass0 (pa_cons (pe_op op_add (pv 3) pe_int) (pa_cons (pv 4) pa_nil)))) (pss_cons (ps_set (i := 12) scPLaw.nd rfl (Or.inl rfl) (pe_lst (pa_cons (LamX.pe_lamcall (T := TT K) (TT := KR.TTmet K (CU K) "told" "unlike") (k := 5) (Ng := NLawMet) (by rfl) T.g__law_met kpM lkM hcM bM scLawMet rfl (.inl rfl) (KR.met_gives rfl T.g_UnlikeColumns (by decide) (fun _ => rfl)) TB rfl hmX huX (hr.mono (by decide)) (LamX.lamS_by (by show LamX.lamSB (defScope sPLaw) _ = true; decide +kernel)) rfl (fun _ _ _ _ _ => rfl) (fun A9 o9 s9 H9 E9 f9 c9 hr9 => pe_callH h_same_placings (hr9.mono (by decide)) (by rfl) (passes_call (takes_of rfl rfl rfl rfl) (fun _ _ _ _ z => z)) (pa_cons (pv 13) (pa_cons (pv 14) pa_nil)))) pa_nil))) (pss_cons (ps_expr (pe_bm PySem.F.plainAttrs_list PySem.F.slot_list_append PySem.F.type_list_append mt_append (pv 12) (pa_cons (LamX.pe_lamcall (T := TT K) (TT := KR.TTmet K (CU K) "told" "unlike") (k := 5) (Ng := NLawMet) (by rfl) T.g__law_met kpM lkM hcM bM scLawMet rfl (.inl rfl) (KR.met_gives rfl T.g_UnlikeColumns (by decide) (fun _ => rfl)) TB rfl hmX huX (hr.mono (by decide)) (LamX.lamS_by (by show LamX.lamSB (defScope sPLaw) _ = true; decide +kernel)) rfl (fun _ _ _ _ _ => rfl) (fun A9 o9 s9 H9 E9 f9 c9 hr9 => pe_callH h_placing_apart (hr9.mono (by decide)) (by rfl) (passes_call (takes_of rfl rfl rfl rfl) (fun _ _ _ _ z => z)) (pa_cons (pv 14) (pa_cons (pv 13) pa_nil)))) pa_nil))) (pss_one (ps_if (pt_cmpR (op_neD hr.units) (pv 12) (pe_op op_rep (pe_lst (pa_cons (pe_lst (pa_cons pe_str pa_nil)) pa_nil)) pe_int) (nomark _)) (pss_one (ps_ret pe_bl)) pss_nil)))))))))))))
      (pss_one (ps_ret pe_bl))), ?_⟩
    refine ⟨4, rfl, by decide, by decide, for_range (lo := 0) (n := (4 : Int).toNat)
      (fun i σ H' => SqL K H' sa (ns.map V.int) ∧ LamX.Tabs (TT K) H' ∧ ∃ v1 v2 v3 v4 v5 v6 v7 v8 v9 v10 v11 v12 v13 v14 : Option V, σ = [some (.ref sa), v1, v2, v3, v4, v5, v6, v7, v8, v9, v10, v11, v12, v13, v14])
      ⟨hS, fun p hp => by rw [List.mem_singleton.mp hp]; exact LamX.TabS.nil hT, none, none, none, none, none, none, none, none, none, none, none, none, none, none, rfl⟩ ?_ ?_⟩
    · rintro i σ H0 hi ⟨hS0, hT0, v1, v2, v3, v4, v5, v6, v7, v8, v9, v10, v11, v12, v13, v14, rfl⟩
      have e0 : (0 : Int) + (i : Int) = (i : Int) := Int.zero_add _
      rw [e0]
      -- the stream
      refine ⟨_, rfl, _, rfl, sa, ns, (i : Int), rfl, hS0, hl, by omega, by have h : i < 4 := hi; omega, fun a H1 s1 na st1 => ?_⟩
      -- many
      refine ⟨_, rfl, a, 4, 0, rfl, st1, by decide, by decide, by decide, fun d H2 d0 d4 st2 bt2 => ⟨_, _, rfl, rfl, ?_⟩⟩
      obtain ⟨m, em⟩ : ∃ m : Nat, (1 : Int) + d = (m : Int) := ⟨(1 + d).toNat, by omega⟩
      show gName 3 (V.int (1 + d)) _ _ _
      rw [em]
      have hm1 : 1 ≤ m := by omega
      have hm4 : m ≤ 4 := by omega
      have r2 : Same H0 H2 := same_but s1 na bt2
      -- the cells
      refine ⟨_, rfl, _, rfl, a, m, 0 + 1, rfl, st2, by decide, by omega, by omega, fun c ys cs H3 nc ec cr gd lc st3 bt3 => ?_⟩
      have r3 : Same H0 H3 := same_but r2 na bt3
      have hyl := pr_length cr
      have nca : c ≠ a := fun z => by
        obtain ⟨o, e⟩ := st2.lt
        rw [z, e] at nc
        cases nc
      -- columns, ways, due
      refine ⟨_, rfl, _, rfl, _, rfl, a, c, m, 4, ys, cs, 0 + 1 + 50, rfl, st3, by decide, nca, hm1, by omega, ec, cr, gd, by omega, fun x H4 bt4 st4 colx => ?_⟩
      have r4 : Same H0 H4 := same_but r3 na bt4
      have ec4 := bt4 _ _ ec nca
      have cr4 := cr.but bt4 st3
      refine ⟨_, rfl, _, rfl, m, c, ys, cs, rfl, by omega, ec4, cr4, good_ok gd, fun pw H5 s5 npw tpw => ?_⟩
      refine ⟨Nat.zero_le _, fun D hD => ?_⟩
      have s6 := same_upd (o := .lst []) hD
      refine ⟨(by show 3 ≤ sizeLine; decide), fun tp htp => ?_⟩
      have s7 := same_upd (o := .tup [V.ref x, V.ref pw, V.ref D]) htp
      refine ⟨tp, _, rfl, .inl (.inl upd_same), rfl, _, _, rfl, _, _, rfl, _, _, rfl, rfl, ?_⟩
      have s57 := (s5.trans s6).trans s7
      have eD7 := s7 D _ upd_same
      have tpw7 : K6.TabAt _ pw m (KM.W cs) := (s6.trans s7) _ _ tpw
      have nD4 : H4 D = none := s5.free hD
      have nD : H0 D = none := r4.free nD4
      generalize upd (upd H5 D (.lst [])) tp (.tup [V.ref x, V.ref pw, V.ref D]) = H7 at s57 eD7 tpw7
      have r7 : Same H0 H7 := r4.trans s57
      have st7 := st4.same s57
      have ec7 := s57 _ _ ec4
      have cr7 := cr4.same s57
      have col7 := colx.same s57
      have nDc : c ≠ D := ne_of_none ec4 nD4
      -- what is due
      refine ⟨_, rfl, c, ys, rfl, SqL.of ec7, for_it (walk_enum (xs := ys))
        (fun j σ H' => But D H7 H' ∧ H' D = some (.lst ((ndl cs j).map V.int)) ∧ ∃ w7 w8 w9 : Option V, σ = [some (.ref sa), some (.int (i : Int)), some (.ref a), some (.int (m : Int)), some (.ref c), some (.ref pw), some (.ref D), w7, w8, w9, v10, v11, v12, some (.ref x), v14])
        ⟨But.refl _, eD7, _, _, _, rfl⟩ (fun j σ H' _ h => SqL.of (h.1 _ _ ec7 nDc)) ?_ ?_⟩
      · rintro j y σ H8 H8' hj ⟨b8, eD8, w7, w8, w9, rfl⟩ ⟨t, x1, x2, rfl, nt, rfl, e1, e2⟩
        have e1' : x1 = .int (j : Int) := (Option.some.inj e1).symm
        subst e1'
        have cr8 : CRels H8 ys cs := Paired.mapP cr7 fun v d ⟨t, e, q⟩ => ⟨t, e, b8 _ _ q (ne_of q eD7 (by intro z; cases z))⟩
        obtain ⟨dc, hd, t2, rfl, et2⟩ := pr_get cr8 (i := j) e2
        have sa2 := same_upd (o := .tup [V.int (j : Int), V.ref t2]) nt
        have ec8 := b8 _ _ ec7 nDc
        have tp8 : K6.TabAt H8 pw m (KM.W cs) := b8 _ _ tpw7 (ne_of tpw7 eD7 (by intro z; cases z))
        refine ⟨t, _, rfl, .inl (.inl upd_same), rfl, _, _, rfl, _, _, rfl, rfl, ?_⟩
        generalize upd H8 t (.tup [V.int (j : Int), V.ref t2]) = H9 at sa2
        -- idle
        refine ⟨fun v H' => Same H9 H' ∧ v = .bl (isN cs j), ?_, ?_⟩
        · rw [isN_law gd hd]
          refine ⟨_, rfl, t2, _, 2, _, rfl, rfl, .inl (.inl (sa2 _ _ et2)), rfl, _, _, rfl, rfl, _, rfl, ite2 (fun cc => ?_) (fun cc => ?_)⟩
          · rw [show decide (dc.n > 0) = true from cc, Bool.true_and]
            have ec9 := sa2 _ _ ec8
            refine ⟨_, rfl, _, rfl, _, rfl, _, rfl, c, ys, rfl, SqL.of ec9, fun q1 hq1 => ?_⟩
            have s1' := same_upd (o := .lst (cutV ys none (some (j : Int)))) hq1
            refine ⟨_, rfl, _, rfl, _, _, rfl, rfl, _, rfl, c, ys, rfl, SqL.of (s1' _ _ ec9), fun q2 hq2 => ?_⟩
            have s2' := same_upd (o := .lst (cutV ys (some ((j : Int) + 1)) none)) hq2
            have len1 : (cutV ys none (some (j : Int))).length ≤ ys.length := cutV_length _ _ _
            have len2 : (cutV ys (some ((j : Int) + 1)) none).length ≤ ys.length := cutV_length _ _ _
            refine ⟨q1, q2, _, _, rfl, rfl, s2' _ _ upd_same, upd_same, Nat.le_of_lt (small1000 (by omega)), fun q3 hq3 => ?_⟩
            have s3' := same_upd (o := .lst (cutV ys none (some (j : Int)) ++ cutV ys (some ((j : Int) + 1)) none)) hq3
            have sB := (s1'.trans s2').trans s3'
            have sC := sa2.trans sB
            have co := pr_app (pr_take j (cr8.same sC)) (pr_drop (j + 1) (cr8.same sC))
            have e9 : (j : Int) + 1 = ((j + 1 : Nat) : Int) := by omega
            have e10 : cutV ys none (some (j : Int)) ++ cutV ys (some ((j : Int) + 1)) none = ys.take j ++ ys.drop (j + 1) := by rw [e9, cut_take, cut_drop]
            rw [← e10] at co
            refine ⟨m, q3, _, KM.less cs j, rfl, by omega, upd_same, co, (good_ok gd).less j, fun pl H10 s10 npl tpl => ⟨_, rfl, eqT_tabs tpl ((sC.trans s10) _ _ tp8) ⟨sB.trans s10, rfl⟩⟩⟩
          · rw [show decide (dc.n > 0) = false from Bool.eq_false_iff.mpr cc, Bool.false_and]
            exact ⟨Same.refl _, rfl⟩
        · rintro v H10 ⟨s10, rfl⟩
          have sE := sa2.trans s10
          have eD10 := sE _ _ eD8
          refine ⟨_, rfl, .inl ⟨rfl, _, SqL.of eD10⟩, ?_⟩
          refine ⟨fun v H' => Same H10 H' ∧ ∃ b, v = V.ref b ∧ H' b = some (.lst (if isN cs j = true then [V.int (j : Int)] else [])), ?_, ?_⟩
          · refine ⟨_, rfl, _, rfl, ite2 (fun cc => ?_) (fun cc => ?_)⟩
            · refine ⟨_, rfl, (by show 1 ≤ sizeLine; decide), fun b hb => ⟨same_upd hb, b, rfl, ?_⟩⟩
              rw [if_pos cc]
              exact upd_same
            · refine ⟨Nat.zero_le _, fun b hb => ⟨same_upd hb, b, rfl, ?_⟩⟩
              rw [if_neg cc]
              exact upd_same
          · rintro v H11 ⟨s11, b, rfl, eb⟩
            have eD11 := s11 _ _ eD10
            have hle := ndl_len cs j
            have hjl : j < ys.length := hj
            refine ⟨D, b, _, _, rfl, rfl, eD11, eb, Nat.le_of_lt (small1000 (by rw [List.length_map]; split <;> simp <;> omega)), fun b' o hb' hne => ?_, ?_, _, _, _, rfl⟩
            · rw [upd_ne hne]
              exact s11 _ _ (sE _ _ (b8 _ _ hb' hne))
            · rw [upd_same, ndl_snoc]
              split
              · rw [List.map_append]
                rfl
              · rw [List.append_nil]
      rintro σ H8 ⟨b8, eD8, w7, w8, w9, rfl⟩
      rw [hyl] at eD8
      have r48 : Same H4 H8 := fun b o e => b8 _ _ (s57 _ _ e) (ne_of_none e nD4)
      have r8 : Same H0 H8 := r4.trans r48
      have st8 := st4.same r48
      have ec8 := r48 _ _ ec4
      have cr8 := cr4.same r48
      have col8 := colx.same r48
      obtain ⟨dx8, fs8, _, _, _, h18, F8, _⟩ := id col8
      -- needless cells
      refine ⟨_, rfl, x, dx8, fs8, rfl, h18, F8.m6, x, m, 4, cs, rfl, col8, hm1, by omega, gd, by omega, fun p H9 s9 np ep => ⟨_, rfl, p, D, ndl cs cs.length, rfl, ep, s9 _ _ eD8, by have := ndl_len cs cs.length; omega, fun H10 s10 => ⟨true, rfl, iteF ?_⟩⟩⟩
      have s810 := s9.trans s10
      have r10 := r8.trans s810
      have st10 := st8.same s810
      have ec10 := s810 _ _ ec8
      have cr10 := cr8.same s810
      have col10 := col8.same s810
      -- told apart, twice
      refine ⟨2, rfl, by decide, by decide, for_range (lo := 0) (n := (2 : Int).toNat)
        (fun j σ H' => But a H10 H' ∧ Strm H' a (0 + 1 + 50 + 11 + 71 * j) ∧ ∃ w10 w11 : Option V, σ = [some (.ref sa), some (.int (i : Int)), some (.ref a), some (.int (m : Int)), some (.ref c), some (.ref pw), some (.ref D), w7, w8, w9, w10, w11, v12, some (.ref x), v14])
        ⟨But.refl _, st10, _, _, rfl⟩ ?_ ?_⟩
      · rintro j σ H11 hj ⟨b11, st11, w10, w11, rfl⟩
        have hj2 : j < 2 := hj
        have ec11 := b11 _ _ ec10 nca
        have cr11 := cr10.but b11 st10
        have col11 := col_but col10 st10 b11
        refine ⟨_, rfl, _, rfl, _, rfl, a, c, m, ys, cs, 0 + 1 + 50 + 11 + 71 * j, rfl, st11, by omega, by omega, by omega, nca, ec11, cr11, gd, lc, fun e zs ds H12 ne ee dr gd5 ld st12 bt12 => ?_⟩
        have nea : e ≠ a := fun z => by
          obtain ⟨o, q⟩ := st11.lt
          rw [z, q] at ne
          cases ne
        have hzl := pr_length dr
        refine ⟨_, rfl, _, rfl, _, rfl, _, rfl, _, rfl, _, rfl, _, rfl, a, e, m, 5, zs, ds, 0 + 1 + 50 + 11 + 71 * j + 60, rfl, st12, by omega, nea, hm1, by omega, ee, dr, gd5, by omega, fun y H13 bt13 st13 coly => ?_⟩
        have bt113 := bt12.trans bt13
        refine ⟨m, c, e, x, y, ys, zs, cs, ds, rfl, hm1, by omega, bt113 _ _ ec11 nca, cr11.but bt113 st11, bt13 _ _ ee nea, dr.but bt13 st12, col_but col11 st11 bt113, coly, fun d hd => K18.good_mono (by decide) (gd d hd), gd5, lc, ld, fun H14 s14 => ⟨true, rfl, iteF ?_⟩⟩
        refine ⟨(b11.trans bt113).trans (But.of s14), (st13.same s14).le (by omega), _, _, rfl⟩
      rintro σ H15 ⟨b15, st15, w10, w11, rfl⟩
      have r15 : Same H0 H15 := same_but r10 na b15
      have ec15 := b15 _ _ ec10 nca
      have cr15 := cr10.but b15 st10
      have col15 := col_but col10 st10 b15
      -- another Columns
      refine ⟨_, rfl, _, _, rfl, rfl, _, rfl, fun xo dd nxo ndd nxdd => ?_⟩
      have s16 : Same H15 (upd (upd H15 dd (.own xo)) xo (.ins (CC K) dd [])) := fun b' o e => by
        rw [upd_ne (ne_of_none e nxo), upd_ne (ne_of_none e ndd)]
        exact e
      refine ⟨xo, dd, c, m + 1, 4, ys, cs, rfl, upd_same, by omega, by omega, .inl (s16 _ _ ec15), crels_srels (cr15.same s16), by omega, fun d hd => ?_, fun H17 b17 colo => ⟨rfl, ?_⟩⟩
      · obtain ⟨g1, g2, g3, g4⟩ := gd d hd
        exact ⟨g1, g2, by omega, g4⟩
      have s1517 : Same H15 H17 := fun b' o e => b17 _ _ (s16 _ _ e) (ne_of_none e nxo)
      have r17 : Same H0 H17 := r15.trans s1517
      have col17 := col15.same s1517
      have hT17 := LamX.Tabs.ext hT0 r17
      -- met, once
      refine ⟨hT17, fun H18 x18 hT18 => ?_⟩
      have col18 := ext_col col17 x18
      have colo18 := ext_col colo x18
      refine ⟨_, rfl, _, rfl, x, xo, m, m + 1, cs, cs, rfl, col18, colo18, fun z => absurd z (by omega), fun _ H19 s19 => ⟨true, T.emU, fun _ p1 np1 => ?_, fun z => nomatch z⟩⟩
      have s20 := same_upd (o := .lst [V.str "unlike"]) np1
      refine ⟨(by show 1 ≤ sizeLine; decide), fun Fa nFa => ?_⟩
      have s21 := same_upd (o := .lst [V.ref p1]) nFa
      have s1821 := (s19.trans s20).trans s21
      have ep1 := s21 _ _ (upd_same (H := H19) (a := p1) (o := .lst [V.str "unlike"]))
      generalize hH21 : upd (upd H19 p1 (.lst [V.str "unlike"])) Fa (.lst [V.ref p1]) = H21 at s21 s1821 ep1
      have eFa : H21 Fa = some (.lst [V.ref p1]) := by
        rw [← hH21]
        exact upd_same
      have x21 : LamX.ExtN H17 H21 := x18.trans (LamX.ExtN.of s1821)
      -- met, twice
      refine ⟨_, rfl, .inl ⟨rfl, _, SqL.of eFa⟩, LamX.Tabs.ext hT18 s1821, fun H22 x22 hT22 => ?_⟩
      have x2122 := x21.trans x22
      refine ⟨_, rfl, _, rfl, xo, x, m + 1, m, cs, cs, rfl, ext_col colo x2122, ext_col col17 x2122, by omega, fun z => absurd z (by omega), fun _ H23 s23 => ⟨true, T.emU, fun _ p2 np2 => ?_, fun z => nomatch z⟩⟩
      have s24 := same_upd (o := .lst [V.str "unlike"]) np2
      have s2224 := s23.trans s24
      have eFa24 := s2224 _ _ (x22 _ _ eFa fun _ z => nomatch z)
      have ep24 := s2224 _ _ (x22 _ _ ep1 fun _ z => nomatch z)
      have eq24 := upd_same (H := H23) (a := p2) (o := .lst [V.str "unlike"])
      generalize upd H23 p2 (.lst [V.str "unlike"]) = H24 at s24 s2224 eFa24 ep24 eq24
      refine ⟨Fa, _, _, rfl, rfl, eFa24, (by show 1 < sizeLine; decide), ?_⟩
      have nF1 : p1 ≠ Fa := fun z => by
        rw [z, eFa24] at ep24
        cases ep24
      have nF2 : p2 ≠ Fa := fun z => by
        rw [z, eFa24] at eq24
        cases eq24
      have x24 : LamX.ExtN H0 H24 := ((LamX.ExtN.of r17).trans x2122).trans (LamX.ExtN.of s2224)
      have nF0 : ∀ b o, H0 b = some o → (∀ ps, o ≠ .tbl ps) → b ≠ Fa := fun b o e n z => by
        have h := (LamX.ExtN.of s19) b o (((LamX.ExtN.of r17).trans x18) b o e n) n
        have h2 := s20 b o h
        rw [z, nFa] at h2
        cases h2
      have x25 : LamX.ExtN H0 (upd H24 Fa (.lst ([V.ref p1] ++ [V.ref p2]))) := fun b o e n => by
        rw [upd_ne (nF0 b o e n)]
        exact x24 b o e n
      have T25 : LamX.Tabs (TT K) (upd H24 Fa (.lst ([V.ref p1] ++ [V.ref p2]))) := tabs_upd eFa24 (LamX.Tabs.ext hT22 s2224)
      have ep25 : (upd H24 Fa (.lst ([V.ref p1] ++ [V.ref p2]))) p1 = some (.lst [V.str "unlike"]) := by
        rw [upd_ne nF1]
        exact ep24
      have eq25 : (upd H24 Fa (.lst ([V.ref p1] ++ [V.ref p2]))) p2 = some (.lst [V.str "unlike"]) := by
        rw [upd_ne nF2]
        exact eq24
      have eF25 := upd_same (H := H24) (a := Fa) (o := .lst ([V.ref p1] ++ [V.ref p2]))
      generalize upd H24 Fa (.lst ([V.ref p1] ++ [V.ref p2])) = H25 at x25 T25 ep25 eq25 eF25
      -- unlike, twice
      refine ⟨_, rfl, (by show 1 ≤ sizeLine; decide), fun q1 hq1 => ?_⟩
      have s26 := same_upd (o := .lst [V.str "unlike"]) hq1
      refine ⟨(by show 1 ≤ sizeLine; decide), fun q2 hq2 => ?_⟩
      have s27 := same_upd (o := .lst [V.ref q1]) hq2
      refine ⟨q2, 2, _, rfl, rfl, upd_same, by decide, by decide, (by show 1 * 2 ≤ sizeLine; decide), fun q3 hq3 => ?_⟩
      have s28 := same_upd (o := .lst (List.replicate (2 : Int).toNat [V.ref q1]).flatten) hq3
      have s2528 := (s26.trans s27).trans s28
      have dp : ∀ {H' : Hp} {l q r : Addr}, H' l = some (.lst [V.ref q, V.ref r]) → H' q = some (.lst [V.str "unlike"]) → H' r = some (.lst [V.str "unlike"]) → Dp K H' (.ref l) unD := fun e1 e2 e3 =>
        .lst (SqL.of e1) (.cons (.lst (SqL.of e2) (.cons (.str _) .nil)) (.cons (.lst (SqL.of e3) (.cons (.str _) .nil)) .nil))
      have eq1 := (s27.trans s28) _ _ (upd_same (H := H25) (a := q1) (o := .lst [V.str "unlike"]))
      refine ⟨unD, unD, dp (s2528 _ _ eF25) (s2528 _ _ ep25) (s2528 _ _ eq25), dp (upd_same (o := .lst (List.replicate (2 : Int).toNat [V.ref q1]).flatten)) eq1 eq1, by decide +kernel, by decide +kernel, _, rfl, ?_⟩
      rw [show PyData.eqv unD unD = true by decide +kernel]
      refine iteF ?_
      exact ⟨ext_sqL (x25.trans (LamX.ExtN.of s2528)) hS0, LamX.Tabs.ext T25 s2528, _, _, _, _, _, _, _, _, _, _, _, _, _, _, rfl⟩
    · rintro σ H9 ⟨hS9, hT9, v1, v2, v3, v4, v5, v6, v7, v8, v9, v10, v11, v12, v13, v14, rfl⟩
      exact k _
end
end K20

set_option Elab.async false
set_option linter.all false
set_option maxRecDepth 100000
set_option maxHeartbeats 0
/-! The head: one run of the top in the kernel, its facts by names. -/
namespace KHd
open PySem PySem.Spec PyProof.Rows L2
abbrev R : PySem.W.OpenRow := PySem.W.OpenLaw.row PySem.Challenge.rw_pagefall_k60_whole_needless_cells
def loose : List Str := (["_wall", "ZERO", "is_list", "is_whole", "is_natural", "lowest", "plus", "minus", "times", "is_less", "PageError", "BadNumber", "BadCells", "UnlikeColumns", "HALF", "is_cell", "ways_of", "Columns", "check_like", "same_placings", "apart_by", "nearest_placing", "placing_apart", "_law_stream", "_law_draw", "_law_pick", "_law_mix", "_law_as_lists", "_law_same", "_law_low"] : List Str) ++ (["_law_minus", "_law_is_less", "_law_is_frac", "_law_cells", "_law_way", "_law_ways", "_law_columns", "_law_is_placing", "_law_met", "_law_has_nearer", "_law_first_apart", "_law_apart_right", "_law_near"] : List Str)
abbrev tf : List He.Defn := [("law", none)]
abbrev hk : PySem.W.Hook := He.hookX 5 KD.fas KD.fns [] tf KD.exB
def ob (s : PySem.W.SharedT) : He.AlX := He.obsX 5 KD.fas KD.fns [] tf KD.exB (HandSHeadRun.getT s)
theorem ob_eq (s : PySem.W.SharedT) : ob s = hk.obs s.abs := He.obsX_eq (HandSHeadRun.getT_eq s)
theorem run (w : World) : HandSHeadRun.RunEq R (PySem.W.view R.prog [48]) hk ob 6000 loose w := by
  intro os
  kernel_rfl
end KHd

set_option Elab.async false
set_option linter.all false
set_option maxRecDepth 100000
set_option maxHeartbeats 4000000
/-! All together. -/
namespace K21
open PySem PySem.Spec PyProof.Rows L2 KD K1 K2 K3 K4 K5 K6 K7 K8 K9 K10 K11 K12 K13 K14 K15 K16 K17 K18 K19 K20
section
variable {P : Program} {w : World} {K : PySem.W.Frag} {mg : Str → Option Value}
theorem fnOk_all {base : Heap} {fd fdM : FuncData} (T : Txt K mg) (F : FunD K dPLaw.name dPLaw.qual dPLaw.params dPLaw.body dPLaw.scope [] [] (He.ga K "law") fd)
    (FM : FunD K dLawMet.name dLawMet.qual dLawMet.params dLawMet.body dLawMet.scope [] [] (He.ga K "_law_met") fdM) (TB0 : LamX.TabB base mg (lawC K).1 (lawC K).2) : FnOk P w K mg base CX0 16 (He.ga K "law") fd ["_law_script"] (spLaw K) := by
  have is_list := ok_is_list (P := P) (w := w) (base := base) T
  have is_whole := ok_is_whole (P := P) (w := w) (base := base) T
  have is_natural := ok_is_natural T is_whole
  have lowest := ok_lowest (P := P) (w := w) (base := base) T
  have law_low := ok_law_low (P := P) (w := w) (base := base) T
  have plus := ok_plus T lowest
  have minus := ok_minus T lowest
  have times := ok_times T lowest
  have is_less := ok_is_less (P := P) (w := w) (base := base) T
  have law_is_less := ok_law_is_less (P := P) (w := w) (base := base) T
  have law_minus := ok_law_minus T law_low
  have draw := ok_law_draw (P := P) (w := w) (base := base) T
  have pick := ok_law_pick T draw
  have stream := ok_law_stream (P := P) (w := w) (base := base) T
  have mix := ok_law_mix T draw
  have cells := ok_law_cells T draw pick
  have as_lists := ok_as_lists T draw 3
  have is_cell := ok_is_cell T is_list is_natural
  have ways_of := ok_ways_of (P := P) (w := w) (base := base) T
  have least := ok_least_width (P := P) (w := w) (base := base) T
  have many := ok_how_many (P := P) (w := w) (base := base) T
  have middle := ok_middle_of T times least
  have greatest := ok_greatest_of_column T is_less
  have early := ok_earliest_with T plus is_less
  have needless := ok_needless_cells T ways_of
  have init := ok_init T is_natural is_list is_cell ways_of minus middle greatest
  have like := ok_check_like T many
  have samePl := ok_same_placings T like
  have apart := ok_apart_by T many least
  have nearest := ok_nearest_placing T many early
  have papart := ok_placing_apart T like many apart nearest
  have way := ok_way (P := P) (w := w) (base := base) T 12
  have ways := ok_law_ways T way
  have columns := ok_law_columns T as_lists init
  have frac := ok_law_is_frac (P := P) (w := w) (base := base) T
  have hasN := ok_has_nearer (P := P) (w := w) (base := base) T
  have first := ok_first_apart T hasN
  have isPl := ok_is_placing T frac law_low law_minus law_is_less
  have same0 := ok_same0 (P := P) (w := w) (base := base) T
  have same1 := ok_same1 T same0
  have near := ok_law_near T draw pick mix cells
  have right := ok_apart_right T ways same0 samePl papart first init isPl
  exact K20.ok_law T F FM TB0 stream draw cells columns ways same1 needless near right init samePl papart
theorem facts {l : PySem.W.OpenLaw} {w : World} {K : PySem.W.Frag} {h : Heap} {mg : Str → Option Value} {fa : Addr} (KX : K.In h) (G : h.Ns mainGlobals mg) (hfa : mg ("law" : Str) = some (.ref fa)) (c : He.SaysX KD.fas KD.fns [] KHd.tf KD.exB w h K) :
    LamX.LawAtS l w K CX0 16 63 "_law_script" mg fa h := by
  have T : Txt K mg := KD.Txt.mk' KX G c.t.d c.more
  have e := hfa.symm.trans (T.g 39 "law" rfl)
  cases e
  obtain ⟨fd, F⟩ := T.c.def_ 42 (d := dPLaw) rfl
  obtain ⟨fdM, FM⟩ := T.c.def_ 37 (d := dLawMet) rfl
  have b := FunD.bindsA (ps := ["_law_script"]) F fun _ _ _ _ _ _ us hl => match us, hl with | [_], _ => rfl
  have hm : ((("law" : Str), (none : Option Str)) : He.Defn) ∈ KHd.tf := List.mem_singleton.mpr rfl
  refine ⟨fd, [lawC K], spLaw K, fun p hp => ?_, fun p hp => ?_, fun p hp => ?_, fun s v => b s [v] rfl, fun H a ns hl _ hT hS => ⟨a, ns, rfl, hS, hl, hT _ (List.mem_singleton.mpr rfl), fun _ => rfl⟩, fun base _ _ TB => fnOk_all T F FM (TB _ (List.mem_singleton.mpr rfl))⟩
  · rw [List.mem_singleton.mp hp]
    exact c.empty _ hm
  · rw [List.mem_singleton.mp hp]
    exact c.out _ hm
  · rw [List.mem_singleton.mp hp]
    exact PySem.W.codeHd_of_K KX (c.hd _ hm)
end
end K21
open PySem PySem.W PySem.Calls PyProof.Rows
set_option maxRecDepth 100000 in
set_option maxHeartbeats 0 in
theorem PySem.Challenge.cw_pagefall_k60_whole_needless_cells_holds : PySem.Challenge.rw_pagefall_k60_whole_needless_cells.Holds := by
  w_on; o_law
  refine HandSHeadRun.head_any (r := OpenLaw.row PySem.Challenge.rw_pagefall_k60_whole_needless_cells) (q := view (OpenLaw.row PySem.Challenge.rw_pagefall_k60_whole_needless_cells).prog [48]) (H := KHd.hk) (ob := KHd.ob) (M := 6000) (loose := KHd.loose) (d := HandSHeadRun.topDef (OpenLaw.row PySem.Challenge.rw_pagefall_k60_whole_needless_cells).prog 48) (kwd := []) KHd.ob_eq
    (by kernel_rfl) (fun s => by kernel_rfl) KHd.run (by kernel_rfl) (by kernel_rfl) (by kernel_rfl) (by rfl) (by first | assumption | decide +kernel) (by decide +kernel) ⟨rfl, rfl, rfl, rfl, rfl, by decide +kernel⟩ ?hw ?hc
  case hw => w_witness2
  case hc =>
    refine LamX.walk_ofTsE (l := PySem.Challenge.rw_pagefall_k60_whole_needless_cells) (n := 63) (k := 16) (x := "_law_script") (CX := fun _ => L2.CX0) rfl (by decide) (by kernel_rfl) ⟨rfl, by decide, by decide⟩ ?F (fun _ _ _ _ _ z => z)
    intro w mg fa h Y G hmg0
    obtain ⟨K, KX, c⟩ := Y
    have hmg : mg ("law" : PySem.Str) = some (.ref fa) := by
      have e : (HandSHeadRun.topDef (OpenLaw.row PySem.Challenge.rw_pagefall_k60_whole_needless_cells).prog 48).name = ("law" : PySem.Str) := by kernel_rfl
      rw [← e]
      exact hmg0
    exact ⟨K, KX, K21.facts KX G hmg c⟩
