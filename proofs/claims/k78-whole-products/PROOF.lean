import PyProof.Rows.All
import Wide.All
import OpenK.AllK
import Wide.FinOn
import HandS.ForMost
import HandS.Rev
import HandS.TupAny
import HandS.Strs
import HandS.Wide
import PySem.Challenge.RW_powerrests_k78_whole_products_of_turns
set_option Elab.async false
set_option linter.all false
set_option maxRecDepth 100000
set_option maxHeartbeats 4000000
namespace Mt
/-- the sums of the first 0, 1, .., k numbers of l -/
def psums (l : List Int) (k : Nat) : List Int := (List.range (k + 1)).map fun j => (l.take j).sum
def stepRow (ns : List Int) : List Int := psums ns.reverse ns.length
def rowN : Nat → List Int
  | 0 => [1]
  | m + 1 => stepRow (rowN m)
def tn (n : Nat) : Int := (rowN n).getD n 0
theorem psums_len (l : List Int) (k : Nat) : (psums l k).length = k + 1 := by
  unfold psums
  rw [List.length_map, List.length_range]
theorem psums_succ (l : List Int) (k : Nat) : psums l (k + 1) = psums l k ++ [(l.take (k + 1)).sum] := by
  unfold psums
  rw [List.range_succ (n := k + 1), List.map_append]
  rfl
theorem psums_last (l : List Int) (k : Nat) : ∃ r, psums l k = r ++ [(l.take k).sum] := by
  cases k with
  | zero => exact ⟨[], rfl⟩
  | succ k => exact ⟨psums l k, psums_succ l k⟩
theorem rowN_len : ∀ m : Nat, (rowN m).length = m + 1
  | 0 => rfl
  | m + 1 => by
    show (psums _ (rowN m).length).length = m + 1 + 1
    rw [psums_len, rowN_len m]
/-- Pascal's rows -/
def pasMid (l : List Int) (k : Nat) : List Int := (List.range k).map fun j => l.getD j 0 + l.getD (j + 1) 0
theorem pasMid_succ (l : List Int) (k : Nat) : pasMid l (k + 1) = pasMid l k ++ [l.getD k 0 + l.getD (k + 1) 0] := by
  unfold pasMid
  rw [List.range_succ, List.map_append]
  rfl
theorem pasMid_len (l : List Int) (k : Nat) : (pasMid l k).length = k := by
  unfold pasMid
  rw [List.length_map, List.length_range]
def pas : Nat → List Int
  | 0 => [1]
  | k + 1 => ([1] ++ pasMid (pas k) k) ++ [1]
theorem pas_len : ∀ k : Nat, (pas k).length = k + 1
  | 0 => rfl
  | k + 1 => by
    show (([1] ++ pasMid (pas k) k) ++ [1]).length = k + 1 + 1
    rw [List.length_append, List.length_append, pasMid_len]
    show 1 + k + 1 = k + 1 + 1
    omega
def pn (n k : Nat) : Int := (pas n).getD k 0
def sumTo (n : Nat) : Nat → Int
  | 0 => 0
  | i + 1 => sumTo n i + pn n i * tn i * tn (n - i)
/-- what is asked of the sum, told over all turns at once -/
def tnl : List Int := [1, 1, 1, 2, 5, 16, 61, 272, 1385, 7936, 50521, 353792, 2702765, 22368256, 199360981, 1903757312, 19391512145,
  209865342976, 2404879675441, 29088885112832, 370371188237525, 4951498053124096, 69348874393137901, 1015423886506852352,
  15514534163557086905, 246921480190207983616, 4087072509293123892361, 70251601603943959887872,
  1252259641403629865468285, 23119184187809597841473536, 441543893249023104553682821, 8713962757125169296170811392,
  177519391579539289436664789665, 3729407703720529571097509625856, 80723299235887898062168247453281,
  1798651693450888780071750349094912, 41222060339517702122347079671259045, 970982810785059112379399707952152576,
  23489580527043108252017828576198947741, 583203324917310043943191641625494290432,
  14851150718114980017877156781405826684425]
/-- the rows from r on -/
def rowsFrom : Nat → List Int → List (List Int)
  | 0, _ => []
  | n + 1, r => r :: rowsFrom n (stepRow r)
theorem rowsFrom_get : ∀ (n m j : Nat), j < n → (rowsFrom n (rowN m))[j]? = some (rowN (m + j))
  | 0, m, j, h => by omega
  | n + 1, m, 0, h => rfl
  | n + 1, m, j + 1, h => by
    have ih := rowsFrom_get n (m + 1) j (by omega)
    have e : m + 1 + j = m + (j + 1) := by omega
    rw [e] at ih
    exact ih
def lasts : List (List Int) → Nat → List Int
  | [], _ => []
  | r :: rs, k => r.getD k 0 :: lasts rs (k + 1)
theorem lasts_get : ∀ (rs : List (List Int)) (k j : Nat) (r : List Int), rs[j]? = some r → (lasts rs k)[j]? = some (r.getD (k + j) 0)
  | [], _, _, _, h => by simp at h
  | r :: rs, k, 0, z, h => by
    have e : r = z := Option.some.inj h
    subst e
    rfl
  | r :: rs, k, j + 1, z, h => by
    have ih := lasts_get rs (k + 1) j z h
    have e : k + 1 + j = k + (j + 1) := by omega
    rw [e] at ih
    exact ih
theorem tnl_ok : lasts (rowsFrom 41 (rowN 0)) 0 = tnl := by decide +kernel
theorem tn_get {k : Nat} (h : k < 41) : tnl[k]? = some (tn k) := by
  have h1 := rowsFrom_get 41 0 k h
  have h2 := lasts_get _ 0 k _ h1
  rw [tnl_ok, Nat.zero_add] at h2
  exact h2
theorem tn_eq {k : Nat} (h : k < 41) : tn k = tnl.getD k 0 := by
  rw [List.getD_eq_getElem?_getD, tn_get h]
  rfl
/-- the sums by the written turns -/
def sumL (p : List Int) (n : Nat) : Nat → Int
  | 0 => 0
  | i + 1 => sumL p n i + p.getD i 0 * tnl.getD i 0 * tnl.getD (n - i) 0
theorem sumTo_eq {n : Nat} (hn : n < 41) : ∀ i, i ≤ n + 1 → sumTo n i = sumL (pas n) n i
  | 0, _ => rfl
  | i + 1, h => by
    have ih := sumTo_eq hn i (by omega)
    show sumTo n i + pn n i * tn i * tn (n - i) = sumL (pas n) n i + (pas n).getD i 0 * tnl.getD i 0 * tnl.getD (n - i) 0
    rw [ih, tn_eq (show i < 41 by omega), tn_eq (show n - i < 41 by omega)]
    rfl
/-- Pascal's rows from l on, the sums checked along -/
def goodFrom : Nat → Nat → List Int → Bool
  | 0, _, _ => true
  | f + 1, n, l => (2 * tnl.getD (n + 1) 0 == sumL l n (n + 1)) && (l.all fun c => decide (0 ≤ c ∧ c < 2 ^ 100)) && goodFrom f (n + 1) (([1] ++ pasMid l n) ++ [1])
theorem goodFrom_get : ∀ (f n j : Nat), goodFrom f n (pas n) = true → j < f → 2 * tnl.getD (n + j + 1) 0 = sumL (pas (n + j)) (n + j) (n + j + 1) ∧ ∀ c ∈ pas (n + j), 0 ≤ c ∧ c < 2 ^ 100
  | 0, _, _, _, h => by omega
  | f + 1, n, j, g, h => by
    have g' : ((2 * tnl.getD (n + 1) 0 == sumL (pas n) n (n + 1)) && ((pas n).all fun c => decide (0 ≤ c ∧ c < 2 ^ 100)) && goodFrom f (n + 1) (pas (n + 1))) = true := g
    rw [Bool.and_eq_true, Bool.and_eq_true] at g'
    obtain ⟨⟨g1, g2⟩, g3⟩ := g'
    cases j with
    | zero =>
      refine ⟨eq_of_beq g1, fun c hc => ?_⟩
      have q := List.all_eq_true.mp g2 c hc
      exact of_decide_eq_true q
    | succ j =>
      have ih := goodFrom_get f (n + 1) j g3 (by omega)
      have e : n + 1 + j = n + (j + 1) := by omega
      rw [e] at ih
      exact ih
theorem good_all : goodFrom 39 1 (pas 1) = true := by decide +kernel
theorem tn_small : ∀ k, k < 41 → 0 ≤ tnl.getD k 0 ∧ tnl.getD k 0 < 2 ^ 140 := by decide +kernel
theorem tn_rise : ∀ k, k < 41 → 3 ≤ k → tnl.getD (k - 1) 0 < tnl.getD k 0 := by decide +kernel
/-! ### what the law asks -/
theorem sum_law {n : Nat} (h1 : 1 ≤ n) (h2 : n ≤ 39) : 2 * tn (n + 1) = sumTo n (n + 1) := by
  have g := (goodFrom_get 39 1 (n - 1) good_all (by omega)).1
  have e : 1 + (n - 1) = n := by omega
  rw [e] at g
  rw [sumTo_eq (by omega) (n + 1) (Nat.le_refl _), tn_eq (show n + 1 < 41 by omega)]
  exact g
theorem pn_bound {n k : Nat} (h1 : 1 ≤ n) (h2 : n ≤ 39) : 0 ≤ pn n k ∧ pn n k < 2 ^ 100 := by
  have g := (goodFrom_get 39 1 (n - 1) good_all (by omega)).2
  have e : 1 + (n - 1) = n := by omega
  rw [e] at g
  unfold pn
  rw [List.getD_eq_getElem?_getD]
  cases q : (pas n)[k]? with
  | none => exact ⟨Int.le_refl 0, by decide⟩
  | some c => exact g c (List.mem_of_getElem? q)
theorem tn_bound {k : Nat} (h : k < 41) : 0 ≤ tn k ∧ tn k < 2 ^ 140 := by
  rw [tn_eq h]
  exact tn_small k h
theorem rise_law {k : Nat} (h3 : 3 ≤ k) (h : k < 41) : tn (k - 1) < tn k := by
  rw [tn_eq h, tn_eq (show k - 1 < 41 by omega)]
  exact tn_rise k h h3
/-! ### rows that go down first -/
/-- may one stand behind the row -/
def mayF (row : List Int) (one : Int) : Bool :=
  if row.contains one then false
  else match row.getLast? with
    | none => true
    | some z => if row.length % 2 = 1 then decide (one < z) else decide (z < one)
def more (n : Nat) (row : List Int) : List (List Int) := ((List.range n).filter fun i => mayF row (i : Nat)).map fun i => row ++ [((i : Nat) : Int)]
def downs (n : Nat) : Nat → List (List Int)
  | 0 => [[]]
  | k + 1 => (downs n k).flatMap (more n)
theorem more_len (n : Nat) (row : List Int) : (more n row).length ≤ n := by
  unfold more
  rw [List.length_map]
  refine Nat.le_trans (List.length_filter_le _ _) ?_
  rw [List.length_range]
  exact Nat.le_refl _
theorem flat_len (n : Nat) : ∀ l : List (List Int), (l.flatMap (more n)).length ≤ l.length * n
  | [] => by simp
  | r :: l => by
    rw [List.flatMap_cons, List.length_append, List.length_cons, Nat.succ_mul]
    have h1 := more_len n r
    have h2 := flat_len n l
    omega
theorem downs_len (n : Nat) : ∀ k, (downs n k).length ≤ n ^ k
  | 0 => Nat.le_refl _
  | k + 1 => by
    have h := downs_len n k
    refine Nat.le_trans (flat_len n _) ?_
    rw [Nat.pow_succ]
    exact Nat.mul_le_mul_right _ h
theorem downs_each (n : Nat) : ∀ (k : Nat) (r : List Int), r ∈ downs n k → r.length = k
  | 0, r, h => by
    have e : r = [] := by
      have q : r ∈ [([] : List Int)] := h
      exact List.mem_singleton.mp q
    rw [e]
    rfl
  | k + 1, r, h => by
    obtain ⟨a, ha, hr⟩ := List.mem_flatMap.mp (show r ∈ (downs n k).flatMap (more n) from h)
    obtain ⟨i, _, e⟩ := List.mem_map.mp hr
    rw [← e, List.length_append, downs_each n k a ha]
    rfl
def placeOf (z : Int) (r : List Int) : Nat := r.idxOf z
/-- as many have the greatest one at place k -/
def manyAt (m k : Nat) : Nat := ((downs (m + 1) (m + 1)).filter fun r => decide (placeOf (m : Nat) r = k)).length
def greatGood (m : Nat) : Bool :=
  ((downs (m + 1) (m + 1)).all fun r => r.contains ((m : Nat) : Int)) &&
  ((List.range (m + 1)).all fun k => ((manyAt m k : Nat) : Int) == (pas m).getD k 0 * tnl.getD k 0 * tnl.getD (m - k) 0 * (if k % 2 = 0 then 1 else 0))
theorem great_all : ∀ m, m < 6 → 1 ≤ m → greatGood m = true := by decide +kernel
theorem great_law {m k : Nat} (h1 : 1 ≤ m) (h2 : m ≤ 5) (hk : k ≤ m) : ((manyAt m k : Nat) : Int) = pn m k * tn k * tn (m - k) * (if k % 2 = 0 then 1 else 0) := by
  have g := great_all m (by omega) h1
  unfold greatGood at g
  rw [Bool.and_eq_true] at g
  have q := List.all_eq_true.mp g.2 k (List.mem_range.mpr (by omega))
  rw [tn_eq (show k < 41 by omega), tn_eq (show m - k < 41 by omega)]
  exact eq_of_beq q
theorem great_in {m : Nat} (h1 : 1 ≤ m) (h2 : m ≤ 5) {r : List Int} (hr : r ∈ downs (m + 1) (m + 1)) : ((m : Nat) : Int) ∈ r := by
  have g := great_all m (by omega) h1
  unfold greatGood at g
  rw [Bool.and_eq_true] at g
  have q := List.all_eq_true.mp g.1 r hr
  exact List.contains_iff_mem.mp q
end Mt
namespace Kq
open PySem PySem.Spec PyProof.Rows L2
/-! ### the text by places -/
def topS (i : Nat) : Stmt := PySem.Challenge.pw_powerrests_k78_whole_products_of_turns.main.body.getD i (.Pass ⟨0, 0, 0, 0⟩)
abbrev sStep : Stmt := topS 1
abbrev sTable : Stmt := topS 2
abbrev sTurns : Stmt := topS 3
abbrev sMay : Stmt := topS 5
abbrev sDown : Stmt := topS 6
abbrev sFeed : Stmt := topS 8
abbrev sDraw : Stmt := topS 9
abbrev sChoi : Stmt := topS 10
abbrev sSum : Stmt := topS 11
abbrev sGreat : Stmt := topS 12
abbrev sLaw : Stmt := topS 13
/-- the built-ins that the defs call are still the built-ins -/
structure Txt (mg : Str → Option Value) : Prop where
  reversed : mg "reversed" = none
  tuple : mg "tuple" = none
  len : mg "len" = none
  range : mg "range" = none
  list : mg "list" = none
  int : mg "int" = none
  repr : mg "repr" = none
/-! ### heaps -/
theorem same_upd {H : Hp} {p : Addr} {o : HO} (h : H p = none) : Same H (upd H p o) := fun b x e => by
  rw [upd_ne (ne_of_none e h)]
  exact e
theorem sameT {K : PySem.W.Frag} {H H' : Hp} {a : Addr} {xs : List V} (e : Same H H') (h : SqT K H a xs) : SqT K H' a xs := by
  rcases h with (z | ⟨o, z⟩) | z
  · exact .inl (.inl (e _ _ z))
  · exact .inl (.inr ⟨o, e _ _ z⟩)
  · exact .inr z
/-- an object that was not there at H is written anew -/
theorem same_put {H H1 : Hp} {p : Addr} {o : HO} (h : H p = none) (s : Same H H1) : Same H (upd H1 p o) := fun b x e => by
  rw [upd_ne (ne_of_none e h)]
  exact s _ _ e
/-! ### tuples whose object is known: no dict of their own -/
/-- a tuple of xs, its object told: a plain one -/
def Fz (H : Hp) (a : Addr) (xs : List V) : Prop := ∃ o : Obj, o.cls = .type "tuple" ∧ o.dict = none ∧ H a = some (.frz o (.tup xs))
theorem Fz.sq {K : PySem.W.Frag} {H : Hp} {a : Addr} {xs : List V} (h : Fz H a xs) : SqT K H a xs := by
  obtain ⟨o, _, _, e⟩ := h
  exact .inl (.inr ⟨o, e⟩)
theorem Fz.same {H H' : Hp} {a : Addr} {xs : List V} (h : Fz H a xs) (s : Same H H') : Fz H' a xs := by
  obtain ⟨o, c, d, e⟩ := h
  exact ⟨o, c, d, s _ _ e⟩
section
variable {X : Cx}
def tTupF (t : TA) : TE := fun σ H Q => t σ H fun xs H1 => xs.length ≤ sizeLine ∧ ∀ (p : Addr) (H2 : Hp), H1 p = none → Same H1 H2 → (∀ b, b ≠ p → H2 b = H1 b) → Fz H2 p xs → Q (.ref p) H2
/-- a new tuple of plain form, tracked as known -/
theorem frz_new {pins : List (Addr × Obj)} {σ : L2.St} {H : Hp} {s : Shared} {Q : VK} {xs : List V} {us : List Value} (I : Inv X pins σ H s) (r : Vals xs us) (z : xs.length ≤ sizeLine)
    (q : ∀ (p : Addr) (H2 : Hp), H p = none → Same H H2 → (∀ b, b ≠ p → H2 b = H b) → Fz H2 p xs → Q (.ref p) H2) :
    EP X pins σ Q (.ref s.heap.objs.size) { s with heap := s.heap.push { cls := .type "tuple", data := .seq us.toArray } } := by
  have fresh : H s.heap.objs.size = none := I.hok.fresh (Nat.le_refl _)
  have laid := I.laid (a := s.heap.objs.size) (o := .frz { cls := .type "tuple", data := .seq us.toArray } (.tup xs)) (h' := s.heap.push { cls := .type "tuple", data := .seq us.toArray }) (t' := s.toks)
    (fun b u e => Heap.get?_push_of_some _ e) (Nat.le_refl _) ⟨Heap.get?_push_size _ rfl, z, us, r, ⟨_, Heap.get?_push_size _ rfl, rfl, _, rfl⟩⟩
  exact ⟨.ref s.heap.objs.size, _, laid, rfl, q _ _ fresh (same_upd fresh) (fun b hb => upd_ne hb) ⟨_, rfl, rfl, upd_same⟩⟩
theorem pe_tupF {es : List Expr} {t : TA} {k : Nat} {pos : Pos} (ht : PA X es t) : PE X (.Tuple es k pos) (tTupF t) := by
  refine ⟨fun pins s σ H Q I hq => wpAny_Tuple_spliced (thn (ht.run pos pins s σ H _ I hq) fun us s1 hx => ?_)⟩
  obtain ⟨xs, H1, I1, r, z, q⟩ := hx
  exact ⟨by rw [← r.length]; exact z, frz_new I1 r z q⟩
/-- t + u of such tuples: nothing on the left gives the right one itself -/
def rCatF (K : PySem.W.Frag) : R2 := fun x y H Q => ∃ a b xs ys, x = .ref a ∧ y = .ref b ∧ SqT K H a xs ∧ SqT K H b ys ∧ ys ≠ [] ∧ xs.length + ys.length ≤ sizeLine ∧
  (xs = [] → Q (.ref b) H) ∧ (xs ≠ [] → ∀ (p : Addr) (H2 : Hp), H p = none → Same H H2 → (∀ c, c ≠ p → H2 c = H c) → Fz H2 p (xs ++ ys) → Q (.ref p) H2)
theorem op_catF : OpR X (binaryOp .Add) (rCatF X.K) := by
  intro pins s σ H x y v u Q I rx ry hq
  obtain ⟨a, b, xs, ys, rfl, rfl, ta, tb, ny, z, q0, q1⟩ := hq
  by_cases nx : xs = []
  · subst nx
    exact op_catA pins s σ H _ _ v u Q I rx ry ⟨a, b, [], ys, rfl, rfl, ta, tb, z, fun _ => q0 rfl, fun e => absurd rfl e, fun e => absurd rfl e⟩
  · cases rx
    cases ry
    obtain ⟨is1, r1, p1, _⟩ := I.tuple ta
    obtain ⟨is2, r2, p2, _⟩ := I.tuple tb
    have z' : is1.length + is2.length ≤ sizeLine := by
      rw [← r1.length, ← r2.length]
      exact z
    exact HT.cat_tup p1 p2 (fun e => nx (r1.nil_iff.mp e)) (fun e => absurd (r2.nil_iff.mp e) ny)
      (fun _ => frz_new I (r1.append r2) (by rw [List.length_append]; exact z) (q1 nx)) z'
/-! ### t.index(k) -/
def tIdx (to : TE) (ta : TA) : TE := fun σ H Q => to σ H fun x H1 => (∃ a xs, x = V.ref a ∧ Fz H1 a xs) ∧ ta σ H1 fun ys H2 => ∃ (a : Addr) (ns : List Int) (z : Int) (j : Nat), x = V.ref a ∧ ys = [V.int z] ∧ SqT X.K H2 a (ns.map V.int) ∧ ns[j]? = some z ∧ (∀ m, m < j → ns[m]? ≠ some z) ∧ Q (.int (j : Nat)) H2
theorem flat_ints (ns : List Int) : (ns.map V.int).all flatV = true := by
  rw [List.all_map]
  exact List.all_eq_true.mpr fun _ _ => rfl
theorem tup_index {pins : List (Addr × Obj)} {σ : L2.St} {H : Hp} {s : Shared} {Q : VK} {a : Addr} {ns : List Int} {z : Int} {t : Tok} {j : Nat} (I : Inv X pins σ H s) (hT : SqT X.K H a (ns.map V.int)) (hj : ns[j]? = some z)
    (hno : ∀ m, m < j → ns[m]? ≠ some z) (q : Q (.int (j : Nat)) H) : wpAny (model X.prog X.w) X.A (call (.builtin "tuple.index") [.ref a, .int z t]) (EP X pins σ Q) X.xe s := by
  obtain ⟨its, r, ⟨⟨cls, dd, data, sl⟩, ho, hc, n, hd⟩, _⟩ := I.tuple hT
  simp only at hc hd
  subst hc
  subst hd
  have size : its.toArray.size = ns.length := by
    rw [List.size_toArray, ← r.length, List.length_map]
  have item : ∀ (m : Nat) (hm : m < its.toArray.size), ∃ y u, ns[m]? = some y ∧ its.toArray[m] = Value.int y u := fun m hm => by
    have lm : m < ns.length := by omega
    obtain ⟨v, ev, u, ew⟩ := r.get (i := m) (x := .int ns[m]) (by rw [List.getElem?_map, List.getElem?_eq_getElem lm]; rfl)
    refine ⟨ns[m], u, List.getElem?_eq_getElem lm, ?_⟩
    obtain ⟨lv, el⟩ := List.getElem?_eq_some_iff.mp ev
    rw [← ew, ← el]
    simp
  have lj : j < its.toArray.size := by
    rw [size]
    exact (List.getElem?_eq_some_iff.mp hj).1
  refine call_meets PySem.F.slot_tuple_index ⟨_, ho, rfl⟩ PySem.F.entry_tuple_index (PySem.F.args_tuple_index_2 _ _)
    (TI.tuple_indexAt a its.toArray n dd sl (.int z t) (eqU (.int z)) j lj ?_ ?_) ⟨ho, ?_, ⟨.int (j : Nat), H, I.tok _, ⟨_, rfl⟩, q⟩⟩
  · obtain ⟨y, u, e1, e2⟩ := item j lj
    have e : z = y := Option.some.inj (hj.symm.trans e1)
    rw [e2, ← e]
    exact beq_self_eq_true z
  · intro m lm hm
    obtain ⟨y, u, e1, e2⟩ := item m lm
    rw [e2]
    refine beq_eq_false_iff_ne.mpr fun e => hno m hm ?_
    rw [e1, e]
  · intro v hv
    exact mem_eqAt (x := .int z) ⟨t, rfl⟩ rfl r (flat_ints ns) v (by simpa using hv)
theorem pe_idx {o e : Expr} {to : TE} {ta : TA} {apos cpos : Pos} (ho : PE X o to) (hp : PA X [e] ta)
    (hbase : attributeBase o "index" X.env (eval o X.env) = eval o X.env := by rfl)
    (hfew : ((backTo cpos (starEach [e] X.env)).all (fun x => !x.1) && (backToKw cpos (keywordEach [] X.env)).all (fun x => x.1.isSome) && decide ([e].length + ([] : List Keyword).length + (if ([] : List Keyword).isEmpty then 0 else 1) < 30)) = true := by rfl)
    (hline : (apos.endLine == cpos.line) = true := by rfl) (hs : starEach [e] X.env = (false, eval e X.env) :: starEach [] X.env := by rfl) (hn : (backTo cpos (starEach [] X.env)).any (·.1) = false := by rfl) :
    PE X (.Call (.Attribute o "index" apos) [e] [] cpos) (tIdx (X := X) to ta) := by
  refine ⟨fun pins s σ H Q I h => wpAny_Call_method_late hbase hfew hline rfl (thn (ho.run pins s σ H _ I h) fun v s1 hx => ?_)⟩
  obtain ⟨x, H1, I1, r1, ⟨a, xs, ex, ob, hc, hd, hb⟩, q1⟩ := hx
  subst ex
  cases r1
  have there : s1.heap.get? a = some ob := (I1.hok a _ hb).1
  refine ⟨"tuple", "tuple.index", PySem.F.plainAttrs_tuple, PySem.F.slot_tuple_index, PySem.F.type_tuple_index, ⟨ob, there, hc⟩, fun b eb => ?_, ?_⟩
  · cases eb
    exact ⟨ob, there, hd⟩
  · have hrun := hp.run cpos pins s1 σ H1 _ I1 q1
    rw [hs] at hrun ⊢
    have many : ((false, eval e X.env) :: backTo cpos (starEach [] X.env)).any (·.1) = false := by
      show (false || (backTo cpos (starEach [] X.env)).any (·.1)) = false
      rw [hn]
      rfl
    refine Calls.callWith_builtin many (Calls.evalArgs_plain (thn hrun fun us s2 hy => ?_))
    obtain ⟨ys, H2, I2, r2, a', ns, z, j, ea, ey, hT, hj, hno, q2⟩ := hy
    cases ea
    subst ey
    obtain ⟨u, eu, t, et⟩ := vals1 r2
    subst eu
    subst et
    exact tup_index I2 hT hj hno q2
end
end Kq
namespace Kq
open PySem PySem.Spec PyProof.Rows L2
/-! ### repr of a list of ints, where no other repr is under way -/
def intData (ns : List Int) : PyData := .list (ns.map PyData.int)
def shownInts (ns : List Int) : Str := (intData ns).shown
def Short (ns : List Int) : Prop := ns.length ≤ 100 ∧ ∀ i ∈ ns, i.natAbs.log2 < 1920
theorem ints_showable : ∀ ns : List Int, (∀ i ∈ ns, i.natAbs.log2 < 1920) → PyData.showableAll (ns.map PyData.int) = true
  | [], _ => rfl
  | i :: r, h => by
    show (decide (i.natAbs.log2 < 1920) && PyData.showableAll (r.map PyData.int)) = true
    rw [decide_eq_true (h i List.mem_cons_self), ints_showable r fun j hj => h j (List.mem_cons_of_mem _ hj)]
    rfl
theorem ints_nodict : ∀ ns : List Int, PyData.hasDictAll (ns.map PyData.int) = false
  | [] => rfl
  | _ :: r => by
    show (false || PyData.hasDictAll (r.map PyData.int)) = false
    rw [ints_nodict r]
    rfl
theorem ints_depth : ∀ ns : List Int, PyData.depthAll (ns.map PyData.int) = 0
  | [] => rfl
  | _ :: r => by
    show max 0 (PyData.depthAll (r.map PyData.int)) = 0
    rw [ints_depth r]
    rfl
theorem ints_len : ∀ ns : List Int, (∀ i ∈ ns, i.natAbs.log2 < 1920) → ((PyData.shownAll (ns.map PyData.int)).map (·.length)).sum ≤ 1921 * ns.length ∧ (PyData.shownAll (ns.map PyData.int)).length = ns.length
  | [], _ => ⟨Nat.le_refl _, rfl⟩
  | i :: r, h => by
    obtain ⟨a, b⟩ := ints_len r fun j hj => h j (List.mem_cons_of_mem _ hj)
    have c := int_text_len_1921 (h i List.mem_cons_self)
    refine ⟨?_, ?_⟩
    · show ((PyData.shown (.int i)).length :: (PyData.shownAll (r.map PyData.int)).map (·.length)).sum ≤ 1921 * (r.length + 1)
      rw [List.sum_cons]
      have d : (PyData.shown (.int i)).length ≤ 1921 := c
      omega
    · show (PyData.shownAll (r.map PyData.int)).length + 1 = r.length + 1
      rw [b]
theorem ints_fit {ns : List Int} (h : Short ns) : (shownInts ns).length ≤ sizeLine := by
  have a := listText_len_le (PyData.shownAll (ns.map PyData.int))
  obtain ⟨b, c⟩ := ints_len ns h.2
  have d := h.1
  have e : (shownInts ns).length = (listText (PyData.shownAll (ns.map PyData.int))).length := rfl
  rw [e, sizeLine_eq]
  omega
theorem dp_ints {K : PySem.W.Frag} {H : Hp} : ∀ ns : List Int, DpAll K H (ns.map V.int) (ns.map PyData.int)
  | [] => .nil
  | i :: r => .cons (.int i) (dp_ints r)
section
variable {X : Cx}
theorem call_repr_ints {k : Nat} (hg : X.A.guards = some []) (hr : Room k X.A) : CallR X (.builtin "repr") (fun xs H Q => ∃ p ns, xs = [.ref p] ∧ SqL X.K H p (ns.map V.int) ∧ Short ns ∧ Q (.str (shownInts ns)) H) := by
  intro pins s σ H xs us Q I r h
  obtain ⟨p, ns, rfl, hS, hs, q⟩ := h
  obtain ⟨u, rfl, ru⟩ := vals1 r
  cases ru
  obtain ⟨as, rd⟩ := Dp.reads I (intData ns) (.ref p) (.ref p) (.lst hS (dp_ints ns)) rfl
  have room := hr.units
  have deep : (intData ns).depth = 1 := by
    show PyData.depthAll (ns.map PyData.int) + 1 = 1
    rw [ints_depth]
  refine repr_of_reads' rd (ints_showable ns hs.2) (PyData.noDict_hsm (ints_nodict ns)) hg (by rw [deep]; omega) (fun _ _ e => e) (fun h' u tk hk => ?_) (ints_fit hs)
  exact ⟨.str _, H, I.kept hk, ⟨u, rfl⟩, q⟩
end
/-! ### defs that are called where no repr is under way -/
structure FnNg (P : Program) (w : World) (K : PySem.W.Frag) (mg : Str → Option Value) (base : Heap) (k : Nat) (f : Addr) (fd : FuncData) (ps : List Str) (sp : Sp) : Prop where
  many : ∀ vs H Q E, sp vs H Q E → vs.length = ps.length
  runs : ∀ (A : Around) (outer : List Env) (s : Shared) (H : Hp) (args : Args) (us : List Value) (vs : List V) (Q : VK) (E : XK), A.guards = some [] → Room k A →
    Env0 P w K mg base A outer s H → BindsTo s fd args (ps.zip us) → Vals vs us → sp vs H Q E → codeAny (model P w) A (.call (.ref f) args) (CR CX0 outer P w H s Q E) s
section
variable {P : Program} {w : World} {K : PySem.W.Frag} {mg : Str → Option Value} {base : Heap}
theorem ng_of {x qual : Str} {st : Stmt} {f : Addr} {fd : FuncData} {N ps : List Str} {k : Nat} {sp : Sp} (F : Fun K x qual st f fd) (S : FnScope N ps (defScope st)) (len : ∀ vs H Q E, sp vs H Q E → vs.length = ps.length)
    (body : ∀ (cdv : Value) (A : Around) (outer : List Env) (s : Shared) (H : Hp) (vs : List V) (Q : VK) (E : XK), A.guards = some [] → Room k (A.deeper (envOfC qual (defScope st) s.heap.objs.size f cdv)) → sp vs H Q E →
      ∃ t, PSs (cxOf CX0 P w K mg base N qual (defScope st) f cdv A outer s H E).nox (defBody st) t ∧ t { nx := fun _ H' => Q .non H', rt := Q } (start N vs) H) :
    FnNg P w K mg base (k + 1) f fd ps sp := by
  obtain ⟨oc, od, kV, doc, pm, an, cdv, ct, osl, rfl, lk, hcd⟩ := F.ex
  refine ⟨len, fun A outer s H args us vs Q E hgd hr e0 hb r hsp => ?_⟩
  have kin : K.In s.heap := e0.mod.kin.keeps fun b o e => (e0.bs b o e).1
  have nolim : s.heap.NoLimit := e0.mod.nolimit.keeps fun b o e => (e0.bs b o e).1
  have names : ∀ y ∈ ps.zip us, (defScope st).names.lookup y.1 = some .local ∨ ((defScope st).names.lookup y.1 = some .cell ∧ ((cellsFrom (s.heap.objs.size + 1) (defScope st).names []).lookup y.1).isSome = true) := by
    intro y hy
    rcases S.par y.1 (List.of_mem_zip hy).1 with q | q
    · exact .inl q
    · exact .inr ⟨q, PySem.W.cellsFrom_some _ _ _ (.inl q)⟩
  refine codeAny_call_function hr.depth (kin _ _ lk) rfl S.co S.gen rfl (PySem.W.codeRec_of kin hcd) (hb _ _ _ _ (wpAny_newFunctionEnv_cells S.kind names fun env he s1 ic => ?_))
  subst he
  refine ⟨nolim.keeps ic.toInCall.keep, codeAny_func ?_⟩
  obtain ⟨t, ht, hq⟩ := body cdv A outer s H vs Q E hgd (hr.deeper _) hsp
  have I0 := inv_start (CX := CX0) (P := P) (w := w) (K := K) (mg := mg) (base := base) (E := E) (vs := vs) S hr.hd e0 (len _ _ _ _ hsp) r ic
  refine wpAny_mono (ht.nox.run [] s1 _ H _ I0 hq) (fun fl s' hs => ?_) fun _ _ z => z
  cases fl with
  | ret u =>
    obtain ⟨v, σ', H', J, rv, z⟩ := hs
    exact ⟨v, H', J.os, J.bare, J.base, J.hok, rv, z⟩
  | next =>
    obtain ⟨σ', H', J, z⟩ := hs
    exact ⟨V.non, H', J.os, J.bare, J.base, J.hok, rfl, z⟩
  | brk =>
    obtain ⟨_, _, _, z⟩ := hs
    exact z.elim
  | cont =>
    obtain ⟨_, _, _, z⟩ := hs
    exact z.elim
end
section
variable {X : Cx}
theorem pe_callNg {k : Nat} {f : Addr} {fd : FuncData} {ps : List Str} {sp : Sp} {x : Str} {p pos : Pos} {e : Expr} {es : List Expr} {t : TA} (F : FnNg X.prog X.w X.K X.mg X.base k f fd ps sp) (hgd : X.A.guards = some []) (hr : Room k X.A)
    (hg : Gl X x) (hm : X.mg x = some (.ref f)) (hk : PySem.W.keepIn X.K (.ref f) = true) (hb : Binds X.K fd ps []) (ha : PA X (e :: es) t) (hdb : (x == ("__debug__" : Str)) = false := by decide)
    (he : starEach (e :: es) X.env = (false, eval e X.env) :: starEach es X.env := by rfl) (hpl : (backTo pos (starEach es X.env)).any (·.1) = false := by rfl) :
    PE X (.Call (.Name x p) (e :: es) [] pos) (tCall sp [] E0 t) := by
  refine ⟨fun pins s σ H Q I h => wpAny_Call_Name_kw (ld_glob I hg hm (PySem.W.callWith_K (h₀ := X.base) I.ok.mod.kin hk (thn (ha.run pos pins s σ H _ I h) fun us s1 hv => ?_) he hpl) hdb)⟩
  obtain ⟨vs, H1, I1, r, q⟩ := hv
  rw [List.append_nil] at q
  refine ⟨I1.kIn, ?_⟩
  have hl : (us ++ []).length = ps.length := by
    rw [List.append_nil, ← r.length]
    exact F.many _ _ _ _ q
  have bind := hb s1 us I1.kIn hl
  rw [List.append_nil] at bind
  refine wpAny_call (codeAny_mono (F.runs X.A X.stack s1 H1 ⟨us, []⟩ us vs Q E0 hgd hr I1.env0 bind r q) fun res s2 hq => ?_)
  match res, hq with
  | .error _, hq => exact hq.elim
  | .ok (.ret u), hq => exact I1.after hq
  | .ok .next, hq => exact hq.elim
  | .ok .brk, hq => exact hq.elim
  | .ok .cont, hq => exact hq.elim
end
end Kq
namespace Kq
open PySem PySem.Spec PyProof.Rows L2
/-! ### the law's own call: nothing is tracked but the script -/
def scriptO (vs : List Value) : Obj := { cls := .type "list", data := .seq vs.toArray }
def scriptH (K : PySem.W.Frag) (a : Addr) (vs : List Value) (ns : List Int) : Hp := fun b => if b = a ∧ K.lookup a = none then some (.frz (scriptO vs) (.lst (ns.map V.int))) else none
theorem scriptH_some {K : PySem.W.Frag} {a b : Addr} {vs : List Value} {ns : List Int} {u : HO} (h : scriptH K a vs ns b = some u) : b = a ∧ K.lookup a = none ∧ u = .frz (scriptO vs) (.lst (ns.map V.int)) := by
  unfold scriptH at h
  split at h
  · rename_i q
    exact ⟨q.1, q.2, (Option.some.inj h).symm⟩
  · cases h
theorem scriptH_off {K : PySem.W.Frag} {a b : Addr} {vs : List Value} {ns : List Int} (h : b ≠ a ∨ K.lookup a ≠ none) : scriptH K a vs ns b = none := by
  unfold scriptH
  rw [if_neg]
  rintro ⟨q1, q2⟩
  rcases h with z | z
  · exact z q1
  · exact z q2
theorem law_ng {P : Program} {w : World} {K : PySem.W.Frag} {mg mb : Str → Option Value} {k : Nat} {fa a : Addr} {fd : FuncData} {x : Str} {sp : Sp} {s1 : Shared} {vs : List Value} {ns : List Int} (kin : K.In s1.heap) (gl : s1.heap.Ns mainGlobals mg)
    (bl : s1.heap.Ns builtinsNs mb) (boot : ∀ x : Str, x ≠ "__name__" → mb x = bootBuiltins x) (nolim : s1.heap.NoLimit) (nog : s1.gens = #[]) (ha : s1.heap.get? a = some (scriptO vs)) (hi : IntsAre vs ns) (few : ns.length ≤ sizeLine)
    (hr : Room k callerA) (F : ∀ base : Heap, K.In base → base.Ns mainGlobals mg → FnNg P w K mg base k fa fd [x] sp) (bind : ∀ (s : Shared) (u : Value), BindsTo s fd ⟨[u], []⟩ [(x, u)])
    (hsp : ∀ H : Hp, SqL K H a (ns.map V.int) → sp [.ref a] H (fun v _ => v = .bl true) E0) :
    codeAny (model P w) callerA (.call (.ref fa) ⟨[.ref a], []⟩) (fun r s' => r = .ok (.ret (.bool true)) ∧ OldK s1.heap s'.heap ∧ s'.os = s1.os ∧ AllBare s'.gens) s1 := by
  have rv := vals_ints hi
  have hlen := hi.length
  have few' : (ns.map V.int).length ≤ sizeLine := by
    rw [List.length_map]
    exact few
  -- the objects below the law: all but the script
  have keep : ∀ {b : Addr} {o : Obj}, s1.heap.get? b = some o → (b ≠ a ∨ K.lookup a ≠ none) → (hidT s1.heap (scriptH K a vs ns)).get? b = some o := fun e n => hidT_get e (scriptH_off n)
  have dict : ∀ {b : Addr} {m : Str → Option Value}, s1.heap.Ns b m → (hidT s1.heap (scriptH K a vs ns)).Ns b m := by
    rintro b m ⟨o, es, ep, e, d, r⟩
    refine ⟨o, es, ep, keep e (.inl fun q => ?_), d, r⟩
    subst q
    rw [ha] at e
    cases e
    cases (show Data.seq vs.toArray _ = Data.dict es ep from d)
  have kin' : K.In (hidT s1.heap (scriptH K a vs ns)) := fun b o e => keep (kin b o e) (by
    by_cases q : b = a
    · subst q
      exact .inr (by rw [e]; exact fun z => nomatch z)
    · exact .inl q)
  have nolim' : (hidT s1.heap (scriptH K a vs ns)).NoLimit := by
    obtain ⟨mc, h1, h2⟩ := nolim
    exact ⟨mc, dict h1, h2⟩
  have hok : HOk P w (scriptH K a vs ns) s1.heap := fun b u e => by
    obtain ⟨rfl, _, rfl⟩ := scriptH_some e
    exact ⟨ha, few', vs, _, rv, ha⟩
  have hS : SqL K (scriptH K a vs ns) a (ns.map V.int) := by
    cases q : K.lookup a with
    | none => exact .inl (.inr ⟨scriptO vs, if_pos ⟨rfl, q⟩⟩)
    | some o =>
      have e := kin a o q
      rw [ha] at e
      cases e
      exact .inr ⟨_, vs.toArray, _, q, rfl, rfl, rfl, by rw [List.size_toArray, hlen]; exact few, by simpa using rv⟩
  have nofr : ∀ b ∈ frs ([] : List Env), scriptH K a vs ns b = none := fun b hb => absurd (show b ∈ ([] : List Addr) from hb) List.not_mem_nil
  have env : Env0 P w K mg (hidT s1.heap (scriptH K a vs ns)) callerA [] s1 (scriptH K a vs ns) :=
    ⟨rfl, ⟨kin', dict gl, ⟨mb, dict bl, boot⟩, nolim'⟩, fun b o e => of_hidT e, Nat.le_of_eq (hidT_size _ _), trivial, nofr, hok, .of_eq nog⟩
  refine codeAny_mono ((F _ kin' (dict gl)).runs callerA [] s1 _ ⟨[.ref a], []⟩ [.ref a] [.ref a] _ E0 rfl hr env (bind s1 (.ref a)) (.cons rfl .nil) (hsp _ hS)) fun r s' h => ?_
  match r, h with
  | .error _, h => exact h.elim
  | .ok .next, h => exact h.elim
  | .ok .brk, h => exact h.elim
  | .ok .cont, h => exact h.elim
  | .ok (.ret u), h =>
    obtain ⟨v, H', os, bare, un, hok', rel, q⟩ := h
    have q : v = .bl true := q
    subst q
    have rel : u = Value.bool true := rel
    subst rel
    refine ⟨rfl, OldK.of_keep fun b o e => ?_, os, bare⟩
    cases hb : scriptH K a vs ns b with
    | none => exact un.keep b o e hb (fun z => absurd (show b ∈ ([] : List Addr) from z) List.not_mem_nil) List.not_mem_nil
    | some u =>
      obtain ⟨rfl, _, rfl⟩ := scriptH_some hb
      have there := (hok' _ _ (un.frzs _ _ _ hb)).1
      rw [ha] at e
      cases e
      exact there
theorem walk_ng {l : PySem.W.OpenLaw} {n k : Nat} {q : Program} {loose : List Str} {XP : (Str → Option Value) → Heap → Prop} {YP : World → Heap → Prop} {d : DefRec} {K : Params → PySem.W.Frag} {sp : PySem.W.Frag → Sp} {x : Str}
    (hn : l.most = some n) (hn2 : n ≤ sizeLine) (hdf : d.params.defaults = []) (hr : Room k callerA) (hY : ∀ (w : World) (h : Heap), YP w h → (K w.params).In h)
    (F : ∀ (w : World) (mg : Str → Option Value) (fa : Addr) (h : Heap), (K w.params).In h → h.Ns mainGlobals mg → mg d.name = some (.ref fa) →
      ∃ fd : FuncData, (∀ (s : Shared) (u : Value), BindsTo s fd ⟨[u], []⟩ [(x, u)]) ∧ ∀ base : Heap, (K w.params).In base → base.Ns mainGlobals mg → FnNg l.prog w (K w.params) mg base k fa fd [x] (sp (K w.params)))
    (hsp : ∀ (K : PySem.W.Frag) (H : Hp) (a : Addr) (ns : List Int), ns.length ≤ n → SqL K H a (ns.map V.int) → sp K [.ref a] H (fun v _ => v = .bl true) E0) :
    PySem.W.WalkO q loose XP YP l.row.toRowW d [] (fun f vs => PySem.call f vs) := by
  refine Att.attach_call hn hdf fun w s0 s1 mg mb fa o pm cd doc a vs ns G Y ho hd hcd hmg hobj hints hlen hg => ?_
  obtain ⟨fd, bind, prom⟩ := F w mg fa _ (hY w _ Y) G.T.g hmg
  exact law_ng (hY w _ Y) G.T.g G.T.b G.T.builtins G.T.nolimit hg hobj hints (Nat.le_trans hlen hn2) hr prom bind fun H hS => hsp _ H a ns hlen hS
end Kq
namespace Kq
open PySem PySem.Spec PyProof.Rows L2
theorem rev_at {ns : List Int} {i : Nat} {x : V} (hi : i < (ns.map V.int).length) (h : (ns.map V.int)[(ns.map V.int).length - 1 - i]? = some x) : ∃ v, x = V.int v ∧ ns.reverse[i]? = some v := by
  rw [List.length_map] at hi h
  rw [List.getElem?_map] at h
  have e : ns.reverse[i]? = ns[ns.length - 1 - i]? := List.getElem?_reverse hi
  cases q : ns[ns.length - 1 - i]? with
  | none =>
    rw [q] at h
    cases h
  | some v =>
    rw [q] at h
    exact ⟨v, (Option.some.inj h).symm, e.trans q⟩
theorem psums_next {l : List Int} {i : Nat} {v : Int} (h : l[i]? = some v) : Mt.psums l (i + 1) = Mt.psums l i ++ [(l.take i).sum + v] := by
  rw [Mt.psums_succ, sum_take h]
theorem psums_lastI (l : List Int) (i : Nat) : atI ((Mt.psums l i).map V.int) (-1) = some (V.int (l.take i).sum) := by
  obtain ⟨r, e⟩ := Mt.psums_last l i
  rw [e, List.map_append]
  exact atI_last _ _
section
variable {P : Program} {w : World} {K : PySem.W.Frag} {mg : Str → Option Value} {base : Heap}
/-! ### row_by_steps -/
theorem scStep : FnScope ["row", "found", "one"] ["row"] (defScope sStep) := ⟨rfl, rfl, rfl, by decide +kernel, rfl, by decide +kernel, by decide +kernel⟩
def spStep (K : PySem.W.Frag) : Sp := fun vs H Q _ => ∃ (a : Addr) (ns : List Int), vs = [.ref a] ∧ SqT K H a (ns.map V.int) ∧ ns.length ≤ 900 ∧
  ∀ H' p, Same H H' → H p = none → H' p = some (.tup ((Mt.stepRow ns).map V.int)) → Q (.ref p) H'
theorem ok_step {f : Addr} {fd : FuncData} (F : Fun K "row_by_steps" "row_by_steps" sStep f fd) (T : Txt mg) : FnOk P w K mg base CX0 1 f fd ["row"] (spStep K) := by
  refine F.ok scStep (fun vs H Q E h => ?_) (fun cdv A outer s H vs Q E hr h => ?_)
  · obtain ⟨a, ns, rfl, _⟩ := h
    rfl
  · obtain ⟨a, ns, rfl, hS, few, q⟩ := h
    refine ⟨_, pss_cons (ps_set (i := 1) scStep.nd rfl (.inl rfl) (pe_lst (pa_cons pe_int pa_nil)))
      (pss_cons (ps_for PassesOwn.never rfl (RT.pi_revA (by rfl) T.reversed (pv 0)) (pg_name (i := 2) scStep.nd rfl (.inl rfl))
        (pss_one (ps_expr (pe_bm PySem.F.plainAttrs_list PySem.F.slot_list_append PySem.F.type_list_append mt_append (pv 1)
          (pa_cons (pe_op op_add (pe_ix ix_list (pv 1) (pe_un un_neg pe_int) (fun _ _ => rfl)) (pv 2)) pa_nil)))))
      (pss_one (ps_ret (pe_callTy call_tuple_of (by rfl) T.tuple (by decide +kernel) (pa_cons (pv 1) pa_nil))))), ?_⟩
    -- found = [0]
    refine ⟨by show 1 ≤ sizeLine; decide, fun o no => ?_⟩
    -- for one in reversed(row)
    refine ⟨.ref a, rfl, a, ns.map V.int, rfl, .inr ⟨sameT (same_upd no) hS, ?_⟩⟩
    refine RT.for_ItvT (K := K) (a := a) (xs := ns.map V.int) (fun i σ H' => ∃ y, σ = [some (.ref a), some (.ref o), y] ∧ Same H H' ∧ H' o = some (.lst ((Mt.psums ns.reverse i).map V.int)))
      ⟨none, rfl, same_upd no, upd_same⟩ (fun i σ H' ⟨_, _, sm, _⟩ => sameT sm hS) ?_ ?_
    · rintro i x σ H' hi hx ⟨y, rfl, sm, ho⟩
      obtain ⟨v, rfl, hv⟩ := rev_at hi hx
      have li : i < ns.length := by
        rw [List.length_map] at hi
        exact hi
      -- found.append(found[-1] + one)
      refine ⟨.ref o, rfl, .inl ⟨rfl, _, SqL.of ho⟩, .ref o, rfl, 1, rfl, o, _, -1, _, rfl, rfl, SqL.of ho, psums_lastI _ _, .int v, rfl, _, _, rfl, rfl, o, _, _, rfl, rfl, ho, ?_, ?_⟩
      · rw [List.length_map, Mt.psums_len]
        exact small1000 (by omega)
      · refine ⟨_, rfl, same_put no sm, ?_⟩
        rw [upd_same, psums_next hv, List.map_append]
        rfl
    · rintro σ H' ⟨y, rfl, sm, ho⟩
      -- return tuple(found)
      refine ⟨.ref o, rfl, o, _, rfl, .inl ⟨SqL.of ho, fun p np => ?_⟩⟩
      refine q _ p (fun b x e => ?_) (sm.free np) ?_
      · rw [upd_ne (ne_of_none (sm _ _ e) np)]
        exact sm _ _ e
      · rw [upd_same, List.length_map]
        rfl
/-! ### table_to -/
/-- the rows' tuples -/
def Tab (K : PySem.W.Frag) (H : Hp) (as : List Addr) : Prop := ∀ (i : Nat) (a : Addr), as[i]? = some a → SqT K H a ((Mt.rowN i).map V.int)
theorem Tab.same {H H' : Hp} {as : List Addr} (h : Tab K H as) (s : Same H H') : Tab K H' as := fun i a e => sameT s (h i a e)
theorem Tab.snoc {H : Hp} {as : List Addr} {p : Addr} (h : Tab K H as) (hp : SqT K H p ((Mt.rowN as.length).map V.int)) : Tab K H (as ++ [p]) := fun i a e => by
  by_cases hi : i < as.length
  · rw [List.getElem?_append_left hi] at e
    exact h i a e
  · have li : i < (as ++ [p]).length := (List.getElem?_eq_some_iff.mp e).1
    rw [List.length_append, List.length_singleton] at li
    have ei : i = as.length := by omega
    subst ei
    rw [List.getElem?_concat_length] at e
    cases e
    exact hp
theorem scTable : FnScope ["n", "rows"] ["n"] (defScope sTable) := ⟨rfl, rfl, rfl, by decide +kernel, rfl, by decide +kernel, by decide +kernel⟩
def spTable (K : PySem.W.Frag) : Sp := fun vs H Q _ => ∃ n : Nat, vs = [.int (n : Int)] ∧ n ≤ 60 ∧
  ∀ H' p as, Same H H' → H p = none → H' p = some (.tup (as.map V.ref)) → as.length = n + 1 → Tab K H' as → Q (.ref p) H'
theorem ok_table {f fS : Addr} {fd fdS : FuncData} (F : Fun K "table_to" "table_to" sTable f fd) (T : Txt mg) (FS : Fun K "row_by_steps" "row_by_steps" sStep fS fdS) (bS : Binds K fdS ["row"] []) (gS : mg "row_by_steps" = some (.ref fS)) :
    FnOk P w K mg base CX0 2 f fd ["n"] (spTable K) := by
  have GS : FnOk P w K mg base CX0 1 fS fdS ["row"] (spStep K) := ok_step FS T
  refine F.ok scTable (fun vs H Q E h => ?_) (fun cdv A outer s H vs Q E hr h => ?_)
  · obtain ⟨n, rfl, _⟩ := h
    rfl
  · obtain ⟨n, rfl, few, q⟩ := h
    refine ⟨_, pss_cons (ps_set (i := 1) scTable.nd rfl (.inl rfl) (pe_lst (pa_cons (pe_tup (pa_cons pe_int pa_nil)) pa_nil)))
      (pss_cons (ps_while PassesOwn.never (pt_cmpR op_le (pe_callB call_len_seq (by rfl) T.len PySem.boot_len (pa_cons (pv 1) pa_nil)) (pv 0) (nomark _))
        (pss_one (ps_expr (pe_bm PySem.F.plainAttrs_list PySem.F.slot_list_append PySem.F.type_list_append mt_append (pv 1)
          (pa_cons (pe_call GS hr (by rfl) gS FS.kp bS .nil pass0 (pa_cons (pe_ix ix_list (pv 1) (pe_un un_neg pe_int) (fun _ _ => rfl)) pa_nil)) pa_nil)))))
      (pss_one (ps_ret (pe_callTy call_tuple_of (by rfl) T.tuple (by decide +kernel) (pa_cons (pv 1) pa_nil))))), ?_⟩
    -- rows = [(1,)]
    refine ⟨by show 1 ≤ sizeLine; decide, fun t nt => ?_⟩
    refine ⟨by show 1 ≤ sizeLine; decide, fun o no => ?_⟩
    have no0 : H o = none := (same_upd nt).free no
    have not : t ≠ o := fun e => by
      rw [← e, upd_same] at no
      cases no
    refine ⟨fun m σ H' => ∃ as : List Addr, m = n + 1 - as.length ∧ as.length ≤ n + 1 ∧ σ = [some (.int (n : Int)), some (.ref o)] ∧ Same H H' ∧ H' o = some (.lst (as.map V.ref)) ∧ Tab K H' as ∧ 0 < as.length,
      ⟨n, [t], rfl, ?_, rfl, (same_upd nt).trans (same_upd no), upd_same, ?_, Nat.zero_lt_one⟩, ?_⟩
    · show 1 ≤ n + 1
      omega
    · intro i a e
      have li : i < [t].length := (List.getElem?_eq_some_iff.mp e).1
      have ei : i = 0 := by
        rw [List.length_singleton] at li
        omega
      subst ei
      cases e
      refine SqT.of ?_
      rw [upd_ne not, upd_same]
      rfl
    · rintro m σ H' ⟨as, em, la, rfl, sm, ho, tab, pos⟩
      -- while len(rows) <= n
      refine ⟨.ref o, rfl, o, _, rfl, .inl (SqL.of ho), .int (n : Int), rfl, _, _, rfl, rfl, _, rfl, ?_⟩
      rw [List.length_map]
      by_cases more : as.length ≤ n
      · rw [decide_eq_true (show ((as.length : Nat) : Int) ≤ (n : Int) by omega)]
        refine iteT ?_
        refine ⟨fun σ' H'' => ∃ m', m' < m ∧ ∃ as : List Addr, m' = n + 1 - as.length ∧ as.length ≤ n + 1 ∧ σ' = [some (.int (n : Int)), some (.ref o)] ∧ Same H H'' ∧ H'' o = some (.lst (as.map V.ref)) ∧ Tab K H'' as ∧ 0 < as.length,
          fun σ' H'' z => z, ?_⟩
        -- the last row
        obtain ⟨z, ez⟩ : ∃ z, as[as.length - 1]? = some z := ⟨_, List.getElem?_eq_getElem (by omega)⟩
        have eas : as = as.dropLast ++ [z] := by
          rw [List.getElem?_eq_some_iff] at ez
          obtain ⟨h1, h2⟩ := ez
          rw [← h2, ← List.getLast_eq_getElem (by intro e; rw [e] at pos; exact absurd pos (Nat.lt_irrefl 0))]
          exact (List.dropLast_concat_getLast _).symm
        have lst : atI (as.map V.ref) (-1) = some (V.ref z) := by
          rw [eas, List.map_append]
          exact atI_last _ _
        have hz := tab _ _ ez
        -- rows.append(row_by_steps(rows[-1]))
        refine ⟨.ref o, rfl, .inl ⟨rfl, _, SqL.of ho⟩, .ref o, rfl, 1, rfl, o, _, -1, _, rfl, rfl, SqL.of ho, lst, z, _, rfl, hz, ?_, fun H2 p sm2 np hp => ?_⟩
        · rw [Mt.rowN_len]
          omega
        · have ho2 : H2 o = some (.lst (as.map V.ref)) := sm2 _ _ ho
          have npo : p ≠ o := fun e => by
            rw [e, ho] at np
            cases np
          refine ⟨o, _, _, rfl, rfl, ho2, ?_, ?_⟩
          · rw [List.length_map]
            exact small1000 (by omega)
          · have er : Mt.stepRow (Mt.rowN (as.length - 1)) = Mt.rowN as.length := by
              have e : as.length = as.length - 1 + 1 := by omega
              rw [e]
              rfl
            have t3 : Tab K (upd H2 o (.lst (as.map V.ref ++ [V.ref p]))) as := fun i a e => by
              have h3 := tab i a e
              have h4 := sameT sm2 h3
              rcases h4 with (h | ⟨ob, h⟩) | h
              · exact .inl (.inl (by rw [upd_ne (ne_of h ho2 (by intro z; cases z))]; exact h))
              · exact .inl (.inr ⟨ob, by rw [upd_ne (ne_of h ho2 (by intro z; cases z))]; exact h⟩)
              · exact .inr h
            refine ⟨n + 1 - (as ++ [p]).length, ?_, as ++ [p], rfl, ?_, rfl, same_put no0 (sm.trans sm2), ?_, t3.snoc (SqT.of ?_), ?_⟩
            · rw [List.length_append, List.length_singleton]
              omega
            · rw [List.length_append, List.length_singleton]
              omega
            · rw [upd_same, List.map_append]
              rfl
            · rw [upd_ne npo, hp, er]
            · rw [List.length_append, List.length_singleton]
              omega
      · rw [decide_eq_false (show ¬ ((as.length : Nat) : Int) ≤ (n : Int) by omega)]
        refine iteF ?_
        -- return tuple(rows)
        refine ⟨.ref o, rfl, o, _, rfl, .inl ⟨SqL.of ho, fun p np => ?_⟩⟩
        exact q _ p as (sm.trans (same_upd np)) (sm.free np) upd_same (by omega) (tab.same (same_upd np))
/-! ### turns_of -/
theorem scTurns : FnScope ["n"] ["n"] (defScope sTurns) := ⟨rfl, rfl, rfl, by decide +kernel, rfl, by decide +kernel, by decide +kernel⟩
def spTurns : Sp := fun vs H Q _ => ∃ n : Nat, vs = [.int (n : Int)] ∧ n ≤ 60 ∧ ∀ H', Same H H' → Q (.int (Mt.tn n)) H'
theorem row_last (n : Nat) : ((Mt.rowN n).map V.int)[n]? = some (V.int (Mt.tn n)) := by
  have l := Mt.rowN_len n
  have h : n < (Mt.rowN n).length := by omega
  unfold Mt.tn
  rw [List.getElem?_map, List.getD_eq_getElem?_getD, List.getElem?_eq_getElem h]
  rfl
theorem ok_turns {f fT fS : Addr} {fd fdT fdS : FuncData} (F : Fun K "turns_of" "turns_of" sTurns f fd) (T : Txt mg) (FT : Fun K "table_to" "table_to" sTable fT fdT) (bT : Binds K fdT ["n"] []) (gT : mg "table_to" = some (.ref fT))
    (FS : Fun K "row_by_steps" "row_by_steps" sStep fS fdS) (bS : Binds K fdS ["row"] []) (gS : mg "row_by_steps" = some (.ref fS)) : FnOk P w K mg base CX0 3 f fd ["n"] spTurns := by
  have GT : FnOk P w K mg base CX0 2 fT fdT ["n"] (spTable K) := ok_table FT T FS bS gS
  refine F.ok scTurns (fun vs H Q E h => ?_) (fun cdv A outer s H vs Q E hr h => ?_)
  · obtain ⟨n, rfl, _⟩ := h
    rfl
  · obtain ⟨n, rfl, few, q⟩ := h
    refine ⟨_, pss_one (ps_ret (pe_ix ix_tup (pe_ix ix_tup (pe_call GT hr (by rfl) gT FT.kp bT .nil pass0 (pa_cons (pv 0) pa_nil)) (pv 0) (fun _ _ => rfl)) (pv 0) (fun _ _ => rfl))), ?_⟩
    refine ⟨.int (n : Int), rfl, n, rfl, few, fun H1 p as sm np hp la tab => ?_⟩
    have hn : n < as.length := by omega
    have g : (as.map V.ref)[n]? = some (V.ref as[n]) := by
      rw [List.getElem?_map, List.getElem?_eq_getElem hn]
      rfl
    exact ⟨.int (n : Int), rfl, p, _, _, _, rfl, rfl, SqT.of hp, atI_nat g, .int (n : Int), rfl, _, _, _, _, rfl, rfl, tab n _ (List.getElem?_eq_getElem hn), atI_nat (row_last n), q H1 sm⟩
end
end Kq
namespace Mt
def moreTo (row : List Int) (k : Nat) : List (List Int) := ((List.range k).filter fun i => mayF row (i : Nat)).map fun i => row ++ [((i : Nat) : Int)]
theorem more_eq (n : Nat) (row : List Int) : more n row = moreTo row n := rfl
theorem moreTo_yes {row : List Int} {k : Nat} (h : mayF row (k : Nat) = true) : moreTo row (k + 1) = moreTo row k ++ [row ++ [((k : Nat) : Int)]] := by
  unfold moreTo
  rw [List.range_succ, List.filter_append, List.map_append, List.filter_cons, if_pos h]
  rfl
theorem moreTo_no {row : List Int} {k : Nat} (h : ¬ mayF row (k : Nat) = true) : moreTo row (k + 1) = moreTo row k := by
  unfold moreTo
  rw [List.range_succ, List.filter_append, List.map_append, List.filter_cons, if_neg h]
  show _ ++ [] = _
  rw [List.append_nil]
theorem moreTo_len (row : List Int) (k : Nat) : (moreTo row k).length ≤ k := more_len k row
theorem downs_small {n k : Nat} (hn : n ≤ 6) (hk : k ≤ 6) : (downs n k).length ≤ 46656 := by
  refine Nat.le_trans (downs_len n k) (Nat.le_trans (Nat.pow_le_pow_left hn k) ?_)
  exact Nat.le_trans (Nat.pow_le_pow_right (by decide) hk) (by decide)
theorem flat_take {l : List (List Int)} {j : Nat} {r : List Int} (n : Nat) (h : l[j]? = some r) : (l.take (j + 1)).flatMap (more n) = (l.take j).flatMap (more n) ++ more n r := by
  rw [List.take_add_one, h, List.flatMap_append]
  show _ ++ (more n r ++ []) = _
  rw [List.append_nil]
end Mt
namespace Kq
open PySem PySem.Spec PyProof.Rows L2
/-! ### rows of ints, each a plain tuple -/
def Rows (H : Hp) : List Addr → List (List Int) → Prop
  | [], [] => True
  | a :: as, r :: rs => Fz H a (r.map V.int) ∧ Rows H as rs
  | _, _ => False
theorem Rows.len {H : Hp} : ∀ {as : List Addr} {rs : List (List Int)}, Rows H as rs → as.length = rs.length
  | [], [], _ => rfl
  | a :: as, r :: rs, h => by
    have e := Rows.len (as := as) (rs := rs) h.2
    rw [List.length_cons, List.length_cons, e]
  | [], _ :: _, h => h.elim
  | _ :: _, [], h => h.elim
theorem Rows.get {H : Hp} : ∀ {as : List Addr} {rs : List (List Int)} {i : Nat} {a : Addr}, Rows H as rs → as[i]? = some a → ∃ r, rs[i]? = some r ∧ Fz H a (r.map V.int)
  | [], [], i, a, _, e => by simp at e
  | b :: as, r :: rs, 0, a, h, e => by
    have z : b = a := Option.some.inj e
    subst z
    exact ⟨r, rfl, h.1⟩
  | b :: as, r :: rs, i + 1, a, h, e => Rows.get (as := as) (rs := rs) (i := i) h.2 e
  | [], _ :: _, _, _, h, _ => h.elim
  | _ :: _, [], _, _, h, _ => h.elim
theorem Rows.app {H : Hp} : ∀ {as bs : List Addr} {rs ts : List (List Int)}, Rows H as rs → Rows H bs ts → Rows H (as ++ bs) (rs ++ ts)
  | [], _, [], _, _, g => g
  | _ :: as, _, _ :: rs, _, h, g => ⟨h.1, Rows.app (as := as) (rs := rs) h.2 g⟩
  | [], _, _ :: _, _, h, _ => h.elim
  | _ :: _, _, [], _, h, _ => h.elim
theorem Rows.same {H H' : Hp} (s : Same H H') : ∀ {as : List Addr} {rs : List (List Int)}, Rows H as rs → Rows H' as rs
  | [], [], _ => trivial
  | _ :: as, _ :: rs, h => ⟨h.1.same s, Rows.same s (as := as) (rs := rs) h.2⟩
  | [], _ :: _, h => h.elim
  | _ :: _, [], h => h.elim
theorem Fz.put {H : Hp} {a l : Addr} {xs ys : List V} {o : HO} (h : Fz H a xs) (hl : H l = some (.lst ys)) : Fz (upd H l o) a xs := by
  obtain ⟨ob, c, d, e⟩ := h
  exact ⟨ob, c, d, by rw [upd_ne (ne_of e hl (by intro z; cases z))]; exact e⟩
theorem Rows.put {H : Hp} {l : Addr} {ys : List V} {o : HO} (hl : H l = some (.lst ys)) : ∀ {as : List Addr} {rs : List (List Int)}, Rows H as rs → Rows (upd H l o) as rs
  | [], [], _ => trivial
  | _ :: as, _ :: rs, h => ⟨h.1.put hl, Rows.put hl (as := as) (rs := rs) h.2⟩
  | [], _ :: _, h => h.elim
  | _ :: _, [], h => h.elim
section
variable {P : Program} {w : World} {K : PySem.W.Frag} {mg : Str → Option Value} {base : Heap}
/-! ### may_follow -/
theorem scMay : FnScope ["row", "one"] ["row", "one"] (defScope sMay) := ⟨rfl, rfl, rfl, by decide +kernel, rfl, by decide +kernel, by decide +kernel⟩
def spMay (K : PySem.W.Frag) : Sp := fun vs H Q _ => ∃ (a : Addr) (ns : List Int) (z : Int), vs = [.ref a, .int z] ∧ SqT K H a (ns.map V.int) ∧ Q (.bl (Mt.mayF ns z)) H
theorem inV_ints (z : Int) : ∀ ns : List Int, inV (V.int z) (ns.map V.int) = ns.contains z
  | [] => rfl
  | n :: r => by
    have ih := inV_ints z r
    rw [List.contains_cons, ← ih]
    show ((n == z) || inV (V.int z) (r.map V.int)) = _
    rw [show (n == z) = (z == n) from Bool.eq_iff_iff.mpr ⟨fun h => by rw [eq_of_beq h]; exact beq_self_eq_true n |> fun q => by simpa using q, fun h => by rw [eq_of_beq h]; simp⟩]
theorem ok_may {f : Addr} {fd : FuncData} (F : Fun K "may_follow" "may_follow" sMay f fd) (T : Txt mg) : FnOk P w K mg base CX0 1 f fd ["row", "one"] (spMay K) := by
  refine F.ok scMay (fun vs H Q E h => ?_) (fun cdv A outer s H vs Q E hr h => ?_)
  · obtain ⟨a, ns, z, rfl, _⟩ := h
    rfl
  · obtain ⟨a, ns, z, rfl, hS, q⟩ := h
    refine ⟨_, pss_cons (ps_if (pt_cmpR op_in_seq (pv 1) (pv 0) (by rfl)) (pss_one (ps_ret pe_bl)) pss_nil)
      (pss_cons (ps_if (pt_cmpR op_eq (pe_callB call_len_seq (by rfl) T.len PySem.boot_len (pa_cons (pv 0) pa_nil)) pe_int (nomark _)) (pss_one (ps_ret pe_bl)) pss_nil)
      (pss_one (ps_ret (pe_ifExp (pt_cmpR op_eq (pe_op op_mod (pe_callB call_len_seq (by rfl) T.len PySem.boot_len (pa_cons (pv 0) pa_nil)) pe_int) pe_int (nomark _))
        (pe_cmpR op_lt (pv 1) (pe_ix ix_tup (pv 0) (pe_un un_neg pe_int) (fun _ _ => rfl)) (nomark _)) (pe_cmpR op_gt (pv 1) (pe_ix ix_tup (pv 0) (pe_un un_neg pe_int) (fun _ _ => rfl)) (nomark _)))))), ?_⟩
    -- if one in row
    refine ⟨.int z, rfl, .ref a, rfl, a, _, rfl, .inr hS, rfl, flat_ints ns, _, rfl, ?_⟩
    show if inV (V.int z) (ns.map V.int) = true then _ else _
    rw [inV_ints]
    refine ite2 (fun e => ?_) (fun e => ?_)
    · have v : Mt.mayF ns z = false := if_pos e
      rw [v] at q
      exact q
    · have v : Mt.mayF ns z = (match ns.getLast? with
        | none => true
        | some y => if ns.length % 2 = 1 then decide (z < y) else decide (y < z)) := if_neg e
      rw [v] at q
      -- if len(row) == 0
      refine ⟨.ref a, rfl, a, _, rfl, .inr hS, rfl, _, rfl, ite2 (fun e0 => ?_) (fun e0 => ?_)⟩
      · have l0 : ((ns.map V.int).length : Int) = 0 := V.int.inj (of_decide_eq_true e0)
        have n0 : ns = [] := by
          rw [List.length_map] at l0
          exact List.eq_nil_of_length_eq_zero (by omega)
        subst n0
        exact q
      · have n0 : ns ≠ [] := fun z => by
          subst z
          exact e0 (decide_eq_true rfl)
        have en : ns = ns.dropLast ++ [ns.getLast n0] := (List.dropLast_concat_getLast n0).symm
        have gl : ns.getLast? = some (ns.getLast n0) := List.getLast?_eq_some_getLast n0
        have lst : atI (ns.map V.int) (-1) = some (V.int (ns.getLast n0)) := by
          conv => lhs; rw [en, List.map_append]
          exact atI_last _ _
        rw [gl] at q
        -- len(row) % 2 == 1
        refine ⟨.ref a, rfl, a, _, rfl, .inr hS, _, _, rfl, rfl, (by show (0 : Int) < 2; decide), rfl, _, rfl, ite2 (fun e1 => ?_) (fun e1 => ?_)⟩
        · have odd : ((ns.map V.int).length : Int) % 2 = 1 := V.int.inj (of_decide_eq_true e1)
          rw [List.length_map] at odd
          refine ⟨.int z, rfl, .ref a, rfl, 1, rfl, a, _, -1, _, rfl, rfl, hS, lst, _, _, rfl, rfl, ?_⟩
          have c : ns.length % 2 = 1 := by omega
          have q : Q (.bl (if ns.length % 2 = 1 then decide (z < ns.getLast n0) else decide (ns.getLast n0 < z))) H := q
          rw [if_pos c] at q
          exact q
        · have even : ¬ ((ns.map V.int).length : Int) % 2 = 1 := fun z => e1 (decide_eq_true (congrArg V.int z))
          rw [List.length_map] at even
          refine ⟨.int z, rfl, .ref a, rfl, 1, rfl, a, _, -1, _, rfl, rfl, hS, lst, _, _, rfl, rfl, ?_⟩
          have c : ¬ ns.length % 2 = 1 := by omega
          have q : Q (.bl (if ns.length % 2 = 1 then decide (z < ns.getLast n0) else decide (ns.getLast n0 < z))) H := q
          rw [if_neg c] at q
          exact q
end
end Kq
namespace Kq
open PySem PySem.Spec PyProof.Rows L2
section
variable {P : Program} {w : World} {K : PySem.W.Frag} {mg : Str → Option Value} {base : Heap}
/-! ### turns_down -/
theorem scDown : FnScope ["n", "found", "k", "longer", "row", "one"] ["n"] (defScope sDown) := ⟨rfl, rfl, rfl, by decide +kernel, rfl, by decide +kernel, by decide +kernel⟩
def spDown : Sp := fun vs H Q _ => ∃ n : Nat, vs = [.int (n : Int)] ∧ n ≤ 6 ∧
  ∀ H' p as, Same H H' → H p = none → H' p = some (.lst (as.map V.ref)) → Rows H' as (Mt.downs n n) → Q (.ref p) H'
theorem ref_at {as : List Addr} {j : Nat} {x : V} (h : (as.map V.ref)[j]? = some x) : ∃ a, x = V.ref a ∧ as[j]? = some a := by
  rw [List.getElem?_map] at h
  cases q : as[j]? with
  | none =>
    rw [q] at h
    cases h
  | some a =>
    rw [q] at h
    exact ⟨a, (Option.some.inj h).symm, rfl⟩
theorem ok_down {f fM : Addr} {fd fdM : FuncData} (F : Fun K "turns_down" "turns_down" sDown f fd) (T : Txt mg) (FM : Fun K "may_follow" "may_follow" sMay fM fdM) (bM : Binds K fdM ["row", "one"] []) (gM : mg "may_follow" = some (.ref fM)) :
    FnOk P w K mg base CX0 2 f fd ["n"] spDown := by
  have GM : FnOk P w K mg base CX0 1 fM fdM ["row", "one"] (spMay K) := ok_may FM T
  refine F.ok scDown (fun vs H Q E h => ?_) (fun cdv A outer s H vs Q E hr h => ?_)
  · obtain ⟨n, rfl, _⟩ := h
    rfl
  · obtain ⟨n, rfl, few, q⟩ := h
    refine ⟨_, pss_cons (ps_set (i := 1) scDown.nd rfl (.inl rfl) (pe_lst (pa_cons (pe_tupF pa_nil) pa_nil)))
      (pss_cons (ps_for PassesOwn.never rfl (pi_range1 (by rfl) T.range (pa_cons (pv 0) pa_nil)) (pg_name (i := 2) scDown.nd rfl (.inl rfl))
        (pss_cons (ps_set (i := 3) scDown.nd rfl (.inl rfl) (pe_lst pa_nil))
        (pss_cons (ps_for PassesOwn.never rfl (pi_list (pv 1)) (pg_name (i := 4) scDown.nd rfl (.inr rfl))
          (pss_one (ps_expr (pe_bm PySem.F.plainAttrs_list PySem.F.slot_list_extend PySem.F.type_list_extend mt_extend (pv 3)
            (pa_cons (pe_lc (own := [("one", 5)]) (g := gName 5) (tt := tB (tCall (spMay K) [] E0 (tCons (tVar 4) (tCons (tVar 5) tNil)))) (te := tOp (rCatF K) (tVar 4) (tTupF (tCons (tVar 5) tNil)))
              rfl scDown.nd (pi_range1 (by rfl) T.range (pa_cons (pv 0) pa_nil)) (blkOk_by (own := [("one", 5)]) (N := ["n", "found", "k", "longer", "row", "one"]) (sc := defScope sDown) (by decide +kernel))
              (fun _ _ _ _ _ => pg_name (i := 5) scDown.nd rfl (Or.inl rfl)) (fun _ _ _ _ _ => pts_one (pt_val (pe_call GM (hr.mono (by decide)) (by rfl) gM FM.kp bM .nil pass0 (pa_cons (pv 4) (pa_cons (pv 5) pa_nil)))))
              (fun _ _ _ _ _ => pe_op op_catF (pv 4) (pe_tupF (pa_cons (pv 5) pa_nil)))) pa_nil)))))
        (pss_one (ps_set (i := 1) scDown.nd rfl (.inl rfl) (pv 3))))))
      (pss_one (ps_ret (pv 1)))), ?_⟩
    -- found = [()]
    refine ⟨Nat.zero_le _, fun t H1 nt s1 off1 fz1 => ?_⟩
    refine ⟨by show 1 ≤ sizeLine; decide, fun o no => ?_⟩
    have no0 : H o = none := s1.free no
    have sO : Same H1 (upd H1 o (.lst [V.ref t])) := same_upd no
    -- for k in range(n)
    refine ⟨.int (n : Int), rfl, (n : Int), rfl, by omega, by omega, ?_⟩
    refine for_range (lo := 0) (n := (n : Int).toNat) (fun i σ H' => ∃ (p : Addr) (as : List Addr) (y2 y3 y4 : Option V), σ = [some (.int (n : Int)), some (.ref p), y2, y3, y4, none] ∧ Same H H' ∧ H p = none ∧ H' p = some (.lst (as.map V.ref)) ∧ Rows H' as (Mt.downs n i))
      ⟨o, [t], none, none, none, rfl, s1.trans sO, no0, upd_same, ⟨fz1.same sO, trivial⟩⟩ ?_ ?_
    · rintro i σ H' hi ⟨p, as, y2, y3, y4, rfl, sm, np, hp, rows⟩
      have hin : i < n := by omega
      have las := rows.len
      have small := Mt.downs_small few (show i ≤ 6 by omega)
      -- longer = []
      refine ⟨Nat.zero_le _, fun l nl => ?_⟩
      have nlp : p ≠ l := ne_of_none hp nl
      have sL : Same H' (upd H' l (.lst [])) := same_upd nl
      -- for row in found
      refine ⟨.ref p, rfl, p, rfl, ⟨_, SqL.of (sL _ _ hp)⟩, ?_⟩
      refine for_list (K := K) (a := p) (xs := as.map V.ref) (fun j σ H2 => ∃ (cs : List Addr) (y : Option V), σ = [some (.int (n : Int)), some (.ref p), some (.int (0 + (i : Int))), some (.ref l), y, none] ∧ Same H' H2 ∧ H2 l = some (.lst (cs.map V.ref)) ∧ Rows H2 cs (((Mt.downs n i).take j).flatMap (Mt.more n)))
        ⟨[], y4, rfl, sL, upd_same, trivial⟩ (fun j σ H2 _ ⟨_, _, _, s2, _, _⟩ => SqL.of (s2 _ _ hp)) ?_ ?_
      · rintro j x σ H2 hj ⟨cs, y, rfl, s2, hl, rc⟩
        obtain ⟨a, rfl, ha⟩ := ref_at hj
        obtain ⟨r, hrow, fz⟩ := (rows.same s2).get ha
        have jl : j < as.length := (List.getElem?_eq_some_iff.mp ha).1
        have rlen := Mt.downs_each n i r (List.mem_of_getElem? hrow)
        have cl : cs.length ≤ 46656 * 6 := by
          rw [rc.len]
          refine Nat.le_trans (Mt.flat_len n _) (Nat.mul_le_mul ?_ few)
          rw [List.length_take]
          omega
        -- longer.extend([row + (one,) for one in range(n) if may_follow(row, one)])
        refine ⟨.ref l, rfl, .inl ⟨rfl, _, SqL.of hl⟩, .int (n : Int), rfl, (n : Int), rfl, by omega, by omega, fun D nD => ?_⟩
        have sD : Same H2 (upd H2 D (.lst [])) := same_upd nD
        have nDl : l ≠ D := ne_of_none hl nD
        refine lc_range (lo := 0) (n := (n : Int).toNat) (fun m H3 => ∃ ds : List Addr, Same H2 H3 ∧ H3 D = some (.lst (ds.map V.ref)) ∧ Rows H3 ds (Mt.moreTo r m))
          ⟨[], sD, upd_same, trivial⟩ ?_ ?_
        · rintro m H3 hm ⟨ds, s3, hD, rd⟩
          have dl : ds.length ≤ 6 := by
            rw [rd.len]
            exact Nat.le_trans (Mt.moreTo_len r m) (by omega)
          have fz3 := fz.same s3
          refine ⟨rfl, ?_⟩
          -- may_follow(row, one)
          refine ⟨.ref a, rfl, .int (0 + (m : Int)), rfl, a, r, 0 + (m : Int), rfl, fz3.sq, _, rfl, ?_⟩
          have em : (0 : Int) + (m : Int) = ((m : Nat) : Int) := by omega
          rw [em]
          refine ite2 (fun e => ?_) (fun e => ?_)
          · -- row + (one,)
            refine ⟨.ref a, rfl, .int ((m : Nat) : Int), rfl, by show 1 ≤ sizeLine; decide, fun p2 H4 np2 s4 off4 fz4 => ?_⟩
            have hD4 : H4 D = some (.lst (ds.map V.ref)) := s4 _ _ hD
            have rd4 := rd.same s4
            have done : ∀ (p3 : Addr) (H5 : Hp), Same H4 H5 → Fz H5 p3 ((r ++ [((m : Nat) : Int)]).map V.int) → ∃ acc, H5 D = some (.lst acc) ∧ acc.length < sizeLine ∧
                ∃ ds : List Addr, Same H2 (upd H5 D (.lst (acc ++ [V.ref p3]))) ∧ (upd H5 D (.lst (acc ++ [V.ref p3]))) D = some (.lst (ds.map V.ref)) ∧ Rows (upd H5 D (.lst (acc ++ [V.ref p3]))) ds (Mt.moreTo r (m + 1)) := by
              intro p3 H5 s5 fz5
              have hD5 : H5 D = some (.lst (ds.map V.ref)) := s5 _ _ hD4
              refine ⟨ds.map V.ref, hD5, ?_, ds ++ [p3], same_put nD (s3.trans (s4.trans s5)), ?_, ?_⟩
              · rw [List.length_map]
                exact small1000 (by omega)
              · rw [upd_same, List.map_append]
                rfl
              · rw [Mt.moreTo_yes e]
                exact Rows.app ((rd4.same s5).put hD5) ⟨fz5.put hD5, trivial⟩
            refine ⟨a, p2, r.map V.int, [V.int ((m : Nat) : Int)], rfl, rfl, (fz3.same s4).sq, fz4.sq, List.cons_ne_nil _ _, ?_, fun e0 => ?_, fun e0 p3 H5 np3 s5 off5 fz5 => ?_⟩
            · rw [List.length_map]
              exact Nat.le_of_lt (small1000 (show r.length + 1 ≤ 1000 by omega))
            · have r0 : r = [] := List.map_eq_nil_iff.mp e0
              subst r0
              exact done p2 H4 (Same.refl _) fz4
            · refine done p3 H5 s5 ?_
              rw [List.map_append]
              exact fz5
          · refine ⟨ds, s3, hD, ?_⟩
            rw [Mt.moreTo_no e]
            exact rd
        · rintro H3 ⟨ds, s3, hD, rd⟩
          rw [Int.toNat_natCast, ← Mt.more_eq] at rd
          have hl3 : H3 l = some (.lst (cs.map V.ref)) := s3 _ _ hl
          have dl : ds.length ≤ 6 := by
            rw [rd.len]
            exact Nat.le_trans (Mt.more_len n r) few
          refine ⟨l, D, _, _, rfl, rfl, hl3, hD, ?_, ?_⟩
          · rw [List.length_map, List.length_map, sizeLine_eq]
            omega
          · refine ⟨cs ++ ds, some (.ref a), rfl, same_put nl (s2.trans s3), ?_, ?_⟩
            · rw [upd_same, List.map_append]
            · rw [Mt.flat_take n hrow]
              exact Rows.app ((rc.same s3).put hl3) (rd.put hl3)
      · rintro σ H2 ⟨cs, y, rfl, s2, hl, rc⟩
        -- found = longer
        rw [List.length_map, las, List.take_length] at rc
        exact ⟨.ref l, rfl, l, cs, some (.int (0 + (i : Int))), some (.ref l), y, rfl, sm.trans s2, sm.free nl, hl, rc⟩
    · rintro σ H' ⟨p, as, y2, y3, y4, rfl, sm, np, hp, rows⟩
      rw [Int.toNat_natCast] at rows
      exact ⟨.ref p, rfl, q H' p as sm np hp rows⟩
end
end Kq
namespace Kq
open PySem PySem.Spec PyProof.Rows L2
/-! ### the feed: a dict of four -/
def fdk (c : Addr) (a : Nat) (l t : Int) : List (Key × V) := [(.inr "cells", .ref c), (.inr "at", .int (a : Nat)), (.inr "left", .int l), (.inr "turn", .int t)]
theorem ca : ¬ ((.inr "cells" : Key) = .inr "at") := by decide +kernel
theorem cl : ¬ ((.inr "cells" : Key) = .inr "left") := by decide +kernel
theorem ct : ¬ ((.inr "cells" : Key) = .inr "turn") := by decide +kernel
theorem al : ¬ ((.inr "at" : Key) = .inr "left") := by decide +kernel
theorem at_t : ¬ ((.inr "at" : Key) = .inr "turn") := by decide +kernel
theorem lt_t : ¬ ((.inr "left" : Key) = .inr "turn") := by decide +kernel
theorem val_c {c : Addr} {a : Nat} {l t : Int} : valV (fdk c a l t) (.inr "cells") = some (.ref c) := valV_pos rfl
theorem val_a {c : Addr} {a : Nat} {l t : Int} : valV (fdk c a l t) (.inr "at") = some (.int (a : Nat)) := (valV_neg ca).trans (valV_pos rfl)
theorem val_l {c : Addr} {a : Nat} {l t : Int} : valV (fdk c a l t) (.inr "left") = some (.int l) := (valV_neg cl).trans ((valV_neg al).trans (valV_pos rfl))
theorem val_t {c : Addr} {a : Nat} {l t : Int} : valV (fdk c a l t) (.inr "turn") = some (.int t) := (valV_neg ct).trans ((valV_neg at_t).trans ((valV_neg lt_t).trans (valV_pos rfl)))
theorem put_a {c : Addr} {a b : Nat} {l t : Int} : putK (fdk c a l t) (.inr "at") (.int (b : Nat)) = fdk c b l t := by
  unfold putK
  rw [if_pos (by rw [valV_any, val_a]; rfl)]
  unfold fdk
  rw [List.map_cons, List.map_cons, List.map_cons, List.map_cons, if_neg ca, if_pos rfl, if_neg (Ne.symm al), if_neg (Ne.symm at_t)]
  rfl
theorem put_l {c : Addr} {a : Nat} {l t m : Int} : putK (fdk c a l t) (.inr "left") (.int m) = fdk c a m t := by
  unfold putK
  rw [if_pos (by rw [valV_any, val_l]; rfl)]
  unfold fdk
  rw [List.map_cons, List.map_cons, List.map_cons, List.map_cons, if_neg cl, if_neg al, if_pos rfl, if_neg (Ne.symm lt_t)]
  rfl
theorem put_t {c : Addr} {a : Nat} {l t m : Int} : putK (fdk c a l t) (.inr "turn") (.int m) = fdk c a l m := by
  unfold putK
  rw [if_pos (by rw [valV_any, val_t]; rfl)]
  unfold fdk
  rw [List.map_cons, List.map_cons, List.map_cons, List.map_cons, if_neg ct, if_neg at_t, if_neg lt_t, if_pos rfl]
  rfl
theorem merge_new {c : Addr} {a : Nat} {l t : Int} : mergeK [] (fdk c a l t) = fdk c a l t := by
  have e1 : putK ([] : List (Key × V)) (.inr "cells") (.ref c) = [(.inr "cells", .ref c)] := putK_new _ valV_nil
  have e2 : putK [((.inr "cells" : Key), V.ref c)] (.inr "at") (.int (a : Nat)) = [(.inr "cells", .ref c), (.inr "at", .int (a : Nat))] := putK_new _ ((valV_neg ca).trans valV_nil)
  have e3 : putK [((.inr "cells" : Key), V.ref c), (.inr "at", .int (a : Nat))] (.inr "left") (.int l) = [(.inr "cells", .ref c), (.inr "at", .int (a : Nat)), (.inr "left", .int l)] := putK_new _ ((valV_neg cl).trans ((valV_neg al).trans valV_nil))
  have e4 : putK [((.inr "cells" : Key), V.ref c), (.inr "at", .int (a : Nat)), (.inr "left", .int l)] (.inr "turn") (.int t) = fdk c a l t := putK_new _ ((valV_neg ct).trans ((valV_neg at_t).trans ((valV_neg lt_t).trans valV_nil)))
  show putK (putK (putK (putK ([] : List (Key × V)) (.inr "cells") (V.ref c)) (.inr "at") (V.int (a : Nat))) (.inr "left") (V.int l)) (.inr "turn") (V.int t) = _
  rw [e1, e2, e3, e4]
structure FeedAt (H : Hp) (p c : Addr) (ns : List Int) (a : Nat) (l t : Int) : Prop where
  dic : H p = some (.dK (fdk c a l t))
  cel : H c = some (.lst (ns.map V.int))
section
variable {H : Hp} {p c : Addr} {ns : List Int} {a : Nat} {l t : Int}
theorem FeedAt.ne (h : FeedAt H p c ns a l t) : c ≠ p := ne_of h.cel h.dic (by intro z; cases z)
theorem FeedAt.same {H' : Hp} (h : FeedAt H p c ns a l t) (s : Same H H') : FeedAt H' p c ns a l t := ⟨s _ _ h.dic, s _ _ h.cel⟩
theorem FeedAt.gc (h : FeedAt H p c ns a l t) : DGet H p (.str "cells") (some (.ref c)) := by
  have q := DGet.k (k := .inr "cells") h.dic
  rw [val_c] at q
  exact q
theorem FeedAt.ga (h : FeedAt H p c ns a l t) : DGet H p (.str "at") (some (.int (a : Nat))) := by
  have q := DGet.k (k := .inr "at") h.dic
  rw [val_a] at q
  exact q
theorem FeedAt.gl (h : FeedAt H p c ns a l t) : DGet H p (.str "left") (some (.int l)) := by
  have q := DGet.k (k := .inr "left") h.dic
  rw [val_l] at q
  exact q
theorem FeedAt.gt (h : FeedAt H p c ns a l t) : DGet H p (.str "turn") (some (.int t)) := by
  have q := DGet.k (k := .inr "turn") h.dic
  rw [val_t] at q
  exact q
theorem fdk_few : (fdk c a l t).length < sizeLine := by
  show 4 < sizeLine
  decide
theorem FeedAt.pa (h : FeedAt H p c ns a l t) (b : Nat) : ∃ H', DPut H p (.str "at") (.int (b : Nat)) H' ∧ FeedAt H' p c ns b l t := by
  have q := DPut.k (k := .inr "at") (v := .int (b : Nat)) h.dic fdk_few
  rw [put_a] at q
  exact ⟨_, q, upd_same, by rw [upd_ne h.ne]; exact h.cel⟩
theorem FeedAt.pl (h : FeedAt H p c ns a l t) (m : Int) : ∃ H', DPut H p (.str "left") (.int m) H' ∧ FeedAt H' p c ns a m t := by
  have q := DPut.k (k := .inr "left") (v := .int m) h.dic fdk_few
  rw [put_l] at q
  exact ⟨_, q, upd_same, by rw [upd_ne h.ne]; exact h.cel⟩
theorem FeedAt.pt (h : FeedAt H p c ns a l t) (m : Int) : ∃ H', DPut H p (.str "turn") (.int m) H' ∧ FeedAt H' p c ns a l m := by
  have q := DPut.k (k := .inr "turn") (v := .int m) h.dic fdk_few
  rw [put_t] at q
  exact ⟨_, q, upd_same, by rw [upd_ne h.ne]; exact h.cel⟩
end
theorem cut63 (xs : List Int) : ∃ ms : List Int, cutV (xs.map V.int) none (some 63) = ms.map V.int ∧ ms.length ≤ xs.length := by
  refine ⟨(xs.drop (HT.sIx (xs.map V.int).length 0 none)).take (HT.sIx (xs.map V.int).length (xs.map V.int).length (some 63) - HT.sIx (xs.map V.int).length 0 none), ?_, ?_⟩
  · unfold cutV
    rw [List.map_take, List.map_drop]
  · rw [List.length_take, List.length_drop]
    omega
section
variable {P : Program} {w : World} {K : PySem.W.Frag} {mg : Str → Option Value} {base : Heap}
/-! ### _law_feed -/
theorem scFeed : FnScope ["_law_script"] ["_law_script"] (defScope sFeed) := ⟨rfl, rfl, rfl, by decide +kernel, rfl, by decide +kernel, by decide +kernel⟩
def spFeed (K : PySem.W.Frag) : Sp := fun vs H Q _ => ∃ (a : Addr) (ns : List Int), vs = [.ref a] ∧ SqL K H a (ns.map V.int) ∧
  ∀ H' p c ms, FeedAt H' p c ms 0 0 0 → ms.length ≤ ns.length → Q (.ref p) H'
theorem ok_feed {f : Addr} {fd : FuncData} (F : Fun K "_law_feed" "_law_feed" sFeed f fd) (T : Txt mg) : FnOk P w K mg base CX0 1 f fd ["_law_script"] (spFeed K) := by
  refine F.ok scFeed (fun vs H Q E h => ?_) (fun cdv A outer s H vs Q E hr h => ?_)
  · obtain ⟨a, ns, rfl, _⟩ := h
    rfl
  · obtain ⟨a, ns, rfl, hS, q⟩ := h
    refine ⟨_, pss_one (ps_ret (pe_disp (pps_cons pe_str (pe_callTy call_list_of (by rfl) T.list (by decide +kernel) (pa_cons (pe_slice sl_list (pv 0) po_none (po_some pe_int)) pa_nil))
      (pps_cons pe_str pe_int (pps_cons pe_str pe_int (pps_cons pe_str pe_int pps_nil)))) (by rfl) (by rfl) (fun z => by cases z) (by decide))), ?_⟩
    refine fun p np => ?_
    have sp : Same H (upd H p (.dK [])) := same_upd np
    obtain ⟨ms, em, lm⟩ := cut63 ns
    refine ⟨.ref a, rfl, 63, rfl, a, _, rfl, sp.seq hS, fun d nd => ?_⟩
    refine ⟨d, _, rfl, .inl (SqL.of upd_same), fun c nc => ?_⟩
    have ndp : p ≠ d := fun z => by
      rw [← z, upd_same] at nd
      cases nd
    have ncp : p ≠ c := fun z => by
      rw [← z, upd_ne ndp, upd_same] at nc
      cases nc
    refine ⟨by rw [upd_ne ncp, upd_ne ndp, upd_same], fdk c 0 0 0, rfl, by show 4 ≤ 15; decide, ?_⟩
    rw [merge_new]
    refine q _ p c ms ⟨upd_same, ?_⟩ lm
    rw [upd_ne (Ne.symm ncp), upd_same, em]
end
end Kq
namespace Kq
open PySem PySem.Spec PyProof.Rows L2
theorem ints_lay : ∀ ns : List Int, PyData.canLayAll0 (ns.map PyData.int) = true
  | [] => rfl
  | _ :: r => by
    show (true && PyData.canLayAll0 (r.map PyData.int)) = true
    rw [ints_lay r]
    rfl
theorem ints_shaped (ns : List Int) : SeqAt.shaped (intData ns) = true := by
  have d : (intData ns).depth ≤ 64 := by
    show PyData.depthAll (ns.map PyData.int) + 1 ≤ 64
    rw [ints_depth]
    decide
  show (PyData.canLayAll0 (ns.map PyData.int) && decide ((intData ns).depth ≤ 64)) = true
  rw [ints_lay, decide_eq_true d]
  rfl
theorem eqv_none : PyData.eqv (intData []) (intData []) = true := rfl
theorem eqv_some (i : Int) (r : List Int) : PyData.eqv (intData (i :: r)) (intData []) = false := rfl
section
variable {P : Program} {w : World} {K : PySem.W.Frag} {mg : Str → Option Value} {base : Heap}
/-! ### _law_draw -/
theorem cell_at {ns : List Int} (a : Nat) (h : ns ≠ []) : ∃ v, atI (ns.map V.int) ((a : Nat) % (((ns.map V.int).length : Nat) : Int)) = some (V.int v) := by
  have pos : 0 < ns.length := List.length_pos_iff.mpr h
  have e : (((a : Nat) : Int) % (((ns.map V.int).length : Nat) : Int)) = ((a % ns.length : Nat) : Int) := by
    rw [List.length_map]
    exact (Int.natCast_emod a ns.length).symm
  have lt : a % ns.length < ns.length := Nat.mod_lt _ pos
  refine ⟨ns[a % ns.length], ?_⟩
  rw [e]
  refine atI_nat ?_
  rw [List.getElem?_map, List.getElem?_eq_getElem lt]
  rfl
theorem mod_small {x k : Int} (h0 : 0 < k) (h1 : k < 2 ^ 62) : (x % k).natAbs < 2 ^ 64 := by
  have a := Int.emod_nonneg x (show k ≠ 0 by omega)
  have b := Int.emod_lt_of_pos x h0
  omega
theorem mix_small {x t : Int} (t0 : 0 ≤ t) (t1 : t ≤ 1000) : (x % 2147483647 + 7919 * t).natAbs < 2 ^ 64 := by
  have a := Int.emod_nonneg x (show (2147483647 : Int) ≠ 0 by decide)
  have b := Int.emod_lt_of_pos x (show (0 : Int) < 2147483647 by decide)
  omega
theorem scDraw : FnScope ["_law_feed_here", "_law_many", "_law_turn", "_law_found", "_law_at", "_law_cells", "_law_cell", "_law_mixed"] ["_law_feed_here", "_law_many"] (defScope sDraw) :=
  ⟨rfl, rfl, rfl, by decide +kernel, rfl, by decide +kernel, by decide +kernel⟩
def spDraw : Sp := fun vs H Q _ => ∃ (p c : Addr) (m : Int) (ns : List Int) (a : Nat) (l t : Int), vs = [.ref p, .int m] ∧ 1 ≤ m ∧ m ≤ 1000 ∧ FeedAt H p c ns a l t ∧ 0 ≤ t ∧ t ≤ 100 ∧
  ∀ H' r a' l', 0 ≤ r → r < m → FeedAt H' p c ns a' l' (t + 1) → Q (.int r) H'
theorem ok_draw {f : Addr} {fd : FuncData} (F : Fun K "_law_draw" "_law_draw" sDraw f fd) (T : Txt mg) : FnOk P w K mg base CX0 1 f fd ["_law_feed_here", "_law_many"] spDraw := by
  refine F.ok scDraw (fun vs H Q E h => ?_) (fun cdv A outer s H vs Q E hr h => ?_)
  · obtain ⟨p, c, m, ns, a, l, t, rfl, _⟩ := h
    rfl
  · obtain ⟨p, c, m, ns, a, l, t, rfl, m1, m2, fa, t0, t1, q⟩ := h
    have hu := hu_of hr
    refine ⟨_, pss_cons (ps_dput hu (pv 0) pe_str (pe_op op_add (pe_dget hu (pv 0) pe_str (fun _ _ => rfl)) pe_int) rfl)
      (pss_cons (ps_set (i := 2) scDraw.nd rfl (.inl rfl) (pe_dget hu (pv 0) pe_str (fun _ _ => rfl)))
      (pss_cons (ps_if (pt_cmpR op_gt (pe_dget hu (pv 0) pe_str (fun _ _ => rfl)) pe_int (nomark _))
        (pss_cons (ps_set (i := 3) scDraw.nd rfl (.inl rfl) (pe_op op_mod (pe_dget hu (pv 0) pe_str (fun _ _ => rfl)) (pv 1)))
        (pss_cons (ps_dput hu (pv 0) pe_str (pe_op op_fdiv (pe_dget hu (pv 0) pe_str (fun _ _ => rfl)) (pv 1)) rfl)
        (pss_one (ps_ret (pv 3))))) pss_nil)
      (pss_cons (ps_set (i := 4) scDraw.nd rfl (.inl rfl) (pe_dget hu (pv 0) pe_str (fun _ _ => rfl)))
      (pss_cons (ps_set (i := 5) scDraw.nd rfl (.inl rfl) (pe_dget hu (pv 0) pe_str (fun _ _ => rfl)))
      (pss_cons (ps_dput hu (pv 0) pe_str (pe_op op_add (pv 4) pe_int) rfl)
      (pss_cons (ps_set (i := 6) scDraw.nd rfl (.inl rfl) (pe_ifExp (pt_cmpR (op_neD hr.units) (pv 5) (pe_lst pa_nil) (nomark _))
        (pe_ix ix_list (pv 5) (pe_op op_mod (pv 4) (pe_callB call_len_seq (by rfl) T.len PySem.boot_len (pa_cons (pv 5) pa_nil))) (fun _ _ => rfl)) (pe_op op_mul pe_int (pv 2))))
      (pss_cons (ps_if (PW.pt (pw_and (pt_cmpR op_ge (pv 6) (pe_op op_pow pe_int pe_int) (nomark _)) (pw_and1 (pt_cmpR op_lt (pv 4) (pe_callB call_len_seq (by rfl) T.len PySem.boot_len (pa_cons (pv 5) pa_nil)) (nomark _)))))
        (pss_cons (ps_dput hu (pv 0) pe_str (pe_op op_fdiv (pv 6) (pv 1)) rfl) (pss_one (ps_ret (pe_op op_mod (pv 6) (pv 1))))) pss_nil)
      (pss_cons (ps_set (i := 7) scDraw.nd rfl (.inl rfl) (pe_op op_mod (pe_op op_mul (pe_op op_add (pe_op op_mod (pv 6) pe_int) pe_int) (pe_op op_add (pe_op op_mul (pv 2) (pv 2)) pe_int)) pe_int))
      (pss_cons (ps_set (i := 7) scDraw.nd rfl (.inl rfl) (pe_op op_mod (pe_op op_pow (pv 7) pe_int) pe_int))
      (pss_cons (ps_set (i := 7) scDraw.nd rfl (.inl rfl) (pe_op op_mod (pe_op op_pow (pe_op op_add (pv 7) (pe_op op_mul pe_int (pv 2))) pe_int) pe_int))
      (pss_one (ps_ret (pe_op op_mod (pe_op op_fdiv (pv 7) pe_int) (pv 1)))))))))))))), ?_⟩
    have d1 : (0 : Int) < 2147483629 := by decide
    have d2 : (0 : Int) < 2147483647 := by decide
    have d3 : (0 : Int) < 2147483587 := by decide
    have modm : ∀ x : Int, 0 ≤ x % m ∧ x % m < m := fun x => ⟨Int.emod_nonneg x (by omega), Int.emod_lt_of_pos x (by omega)⟩
    -- turn = turn + 1
    obtain ⟨H1, put1, f1⟩ := fa.pt (t + 1)
    refine ⟨.ref p, rfl, p, _, rfl, fa.gt, t, 1, rfl, rfl, .ref p, rfl, p, H1, rfl, put1, ?_⟩
    refine ⟨.ref p, rfl, p, _, rfl, f1.gt, ?_⟩
    -- if left > 0
    refine ⟨.ref p, rfl, p, _, rfl, f1.gl, l, 0, rfl, rfl, _, rfl, ite2 (fun _ => ?_) (fun _ => ?_)⟩
    · obtain ⟨H2, put2, f2⟩ := f1.pl (l / m)
      refine ⟨.ref p, rfl, p, _, rfl, f1.gl, .int m, rfl, l, m, rfl, rfl, by omega, ?_⟩
      refine ⟨.ref p, rfl, p, _, rfl, f1.gl, .int m, rfl, l, m, rfl, rfl, ⟨by omega, by omega⟩, .ref p, rfl, p, H2, rfl, put2, ?_⟩
      exact ⟨.int (l % m), rfl, q H2 _ a _ (modm l).1 (modm l).2 f2⟩
    · -- at, cells, at + 1
      refine ⟨.ref p, rfl, p, _, rfl, f1.ga, ?_⟩
      refine ⟨.ref p, rfl, p, _, rfl, f1.gc, ?_⟩
      obtain ⟨H2, put2, f2⟩ := f1.pa (a + 1)
      refine ⟨.int (a : Nat), rfl, (a : Nat), 1, rfl, rfl, .ref p, rfl, p, H2, rfl, ?_, ?_⟩
      · exact put2
      -- the cell
      refine ⟨.ref c, rfl, Nat.zero_le _, fun D nD => ?_⟩
      have f3 := f2.same (same_upd (o := .lst []) nD)
      refine ⟨intData ns, intData [], .lst (SqL.of f3.cel) (dp_ints ns), .lst (SqL.of upd_same) .nil, ints_shaped ns, ints_shaped [], _, rfl, ?_⟩
      cases ns
      case' nil =>
        rw [eqv_none]
        refine iteF ⟨.int (t + 1), rfl, 7, t + 1, rfl, rfl, .inl ⟨by decide, by decide⟩, ?_⟩
      case' cons i r =>
        rw [eqv_some]
        obtain ⟨v, hv⟩ := cell_at (ns := i :: r) a (List.cons_ne_nil _ _)
        have lp : (0 : Int) < (((i :: r).map V.int).length : Nat) := by
          rw [List.length_map, List.length_cons]
          omega
        refine iteT ⟨.ref c, rfl, .int (a : Nat), rfl, .ref c, rfl, c, _, rfl, .inl (SqL.of f3.cel), (a : Nat), _, rfl, rfl, lp, c, _, _, _, rfl, rfl, SqL.of f3.cel, hv, ?_⟩
      all_goals
        -- a great cell: its digits
        refine ⟨_, rfl, 10, 18, rfl, rfl, ⟨by decide, by decide, by decide⟩, _, _, rfl, rfl, _, rfl, ?_⟩
        refine ite2 (fun _ => ⟨.int (a : Nat), rfl, .ref c, rfl, c, _, rfl, .inl (SqL.of f3.cel), _, _, rfl, rfl, _, rfl, ite2 (fun _ => ?_) (fun _ => ?_)⟩) (fun _ => iteF ?_)
        case' refine_1 =>
          obtain ⟨H4, put4, f4⟩ := f3.pl _
          refine ⟨_, rfl, .int m, rfl, _, m, rfl, rfl, ⟨by omega, by omega⟩, .ref p, rfl, p, H4, rfl, put4, ?_⟩
          exact ⟨_, rfl, .int m, rfl, _, m, rfl, rfl, by omega, q H4 _ _ _ (modm _).1 (modm _).2 f4⟩
        all_goals
          -- a number mixed
          refine ⟨_, rfl, _, 2147483629, rfl, rfl, d1, _, 1, rfl, rfl, .int (t + 1), rfl, .int (t + 1), rfl, _, _, rfl, rfl, .inl ⟨by omega, by omega⟩, _, 48271, rfl, rfl, _, _, rfl, rfl, .inl ⟨?_, ?_⟩, _, 2147483647, rfl, rfl, d2, ?_⟩
          case' refine_3 =>
            refine ⟨_, rfl, _, 5, rfl, rfl, ⟨by decide, by decide, mod_small (by decide) (by decide)⟩, _, 2147483647, rfl, rfl, d2, ?_⟩
            refine ⟨_, rfl, .int (t + 1), rfl, 7919, _, rfl, rfl, .inl ⟨by decide, by decide⟩, _, _, rfl, rfl, _, 3, rfl, rfl, ⟨by decide, by decide, mix_small (by omega) (by omega)⟩, _, 2147483587, rfl, rfl, d3, ?_⟩
            exact ⟨_, rfl, _, 64, rfl, rfl, ⟨by decide, by decide⟩, .int m, rfl, _, m, rfl, rfl, by omega, q _ _ _ _ (modm _).1 (modm _).2 f3⟩
          all_goals omega
end
end Kq
namespace Kq
open PySem PySem.Spec PyProof.Rows L2
theorem ix_map {l : List Int} {k : Nat} {z : Int} (h : k < l.length) (e : z = (k : Nat)) : atI (l.map V.int) z = some (V.int (l.getD k 0)) := by
  rw [e]
  refine atI_nat ?_
  rw [List.getElem?_map, List.getD_eq_getElem?_getD, List.getElem?_eq_getElem h]
  rfl
section
variable {P : Program} {w : World} {K : PySem.W.Frag} {mg : Str → Option Value} {base : Heap}
/-! ### _law_choices -/
theorem scChoi : FnScope ["_law_n", "_law_row", "_law_k", "_law_j"] ["_law_n"] (defScope sChoi) := ⟨rfl, rfl, rfl, by decide +kernel, rfl, by decide +kernel, by decide +kernel⟩
def spChoi : Sp := fun vs H Q _ => ∃ n : Nat, vs = [.int (n : Int)] ∧ n ≤ 60 ∧ ∀ H' p, Same H H' → H p = none → H' p = some (.lst ((Mt.pas n).map V.int)) → Q (.ref p) H'
theorem ok_choi {f : Addr} {fd : FuncData} (F : Fun K "_law_choices" "_law_choices" sChoi f fd) (T : Txt mg) : FnOk P w K mg base CX0 1 f fd ["_law_n"] spChoi := by
  refine F.ok scChoi (fun vs H Q E h => ?_) (fun cdv A outer s H vs Q E hr h => ?_)
  · obtain ⟨n, rfl, _⟩ := h
    rfl
  · obtain ⟨n, rfl, few, q⟩ := h
    refine ⟨_, pss_cons (ps_set (i := 1) scChoi.nd rfl (.inr rfl) (pe_lst (pa_cons pe_int pa_nil)))
      (pss_cons (ps_for PassesOwn.never rfl (pi_range1 (by rfl) T.range (pa_cons (pv 0) pa_nil)) (pg_name (i := 2) scChoi.nd rfl (.inl rfl))
        (pss_one (ps_set (i := 1) scChoi.nd rfl (.inr rfl) (pe_op op_cat (pe_op op_cat (pe_lst (pa_cons pe_int pa_nil))
          (pe_lc (own := [("_law_j", 3)]) (g := gName 3) (tt := tYes) (te := tOp (rI0 fun i j => .int (i + j)) (tOp (rIxL K) (tVar 1) (tVar 3)) (tOp (rIxL K) (tVar 1) (tOp (rI0 fun i j => .int (i + j)) (tVar 3) (tC (.int 1)))))
            rfl scChoi.nd (pi_range1 (by rfl) T.range (pa_cons (pe_op op_sub (pe_callB call_len_seq (by rfl) T.len PySem.boot_len (pa_cons (pv 1) pa_nil)) pe_int) pa_nil))
            (blkOk_by (own := [("_law_j", 3)]) (N := ["_law_n", "_law_row", "_law_k", "_law_j"]) (sc := defScope sChoi) (by decide +kernel))
            (fun _ _ _ _ _ => pg_name (i := 3) scChoi.nd rfl (Or.inl rfl)) (fun _ _ _ _ _ => pts_nil)
            (fun _ _ _ _ _ => pe_op op_add (pe_ix ix_list (pv 1) (pv 3) (fun _ _ => rfl)) (pe_ix ix_list (pv 1) (pe_op op_add (pv 3) pe_int) (fun _ _ => rfl))))) (pe_lst (pa_cons pe_int pa_nil))))))
      (pss_one (ps_ret (pv 1)))), ?_⟩
    -- _law_row = [1]
    refine ⟨by show 1 ≤ sizeLine; decide, fun o no => ?_⟩
    refine ⟨.int (n : Int), rfl, (n : Int), rfl, by omega, by omega, ?_⟩
    refine for_range (lo := 0) (n := (n : Int).toNat) (fun i σ H' => ∃ (p : Addr) (y : Option V), σ = [some (.int (n : Int)), some (.ref p), y, none] ∧ Same H H' ∧ H p = none ∧ H' p = some (.lst ((Mt.pas i).map V.int)))
      ⟨o, none, rfl, same_upd no, no, upd_same⟩ ?_ ?_
    · rintro i σ H' hi ⟨p, y, rfl, sm, np, hp⟩
      have hin : i < n := by omega
      have lp := Mt.pas_len i
      -- [1] + [..] + [1]
      refine ⟨by show 1 ≤ sizeLine; decide, fun e1 n1 => ?_⟩
      have s1 : Same H' (upd H' e1 (.lst [V.int 1])) := same_upd n1
      refine ⟨.ref p, rfl, p, _, rfl, .inl (SqL.of (s1 _ _ hp)), _, 1, rfl, rfl, (i : Int), ?_, by omega, by omega, fun D nD => ?_⟩
      · refine congrArg (fun z : Int => [V.int z]) ?_
        rw [List.length_map, lp]
        omega
      · refine lc_range (lo := 0) (n := (i : Int).toNat) (fun m H3 => Same (upd H' e1 (.lst [V.int 1])) H3 ∧ H3 D = some (.lst ((Mt.pasMid (Mt.pas i) m).map V.int))) ⟨same_upd nD, upd_same⟩ ?_ ?_
        · rintro m H3 hm ⟨s3, hD⟩
          have hp3 : H3 p = some (.lst ((Mt.pas i).map V.int)) := s3 _ _ (s1 _ _ hp)
          refine ⟨rfl, ?_⟩
          refine ⟨.ref p, rfl, .int (0 + (m : Int)), rfl, p, _, _, _, rfl, rfl, SqL.of hp3, ix_map (k := m) (by omega) (by omega), .ref p, rfl, .int (0 + (m : Int)), rfl, _, 1, rfl, rfl, p, _, _, _, rfl, rfl, SqL.of hp3, ix_map (k := m + 1) (by omega) (by omega), _, _, rfl, rfl, _, hD, ?_, ?_⟩
          · rw [List.length_map, Mt.pasMid_len]
            exact small1000 (by omega)
          · refine ⟨same_put nD s3, ?_⟩
            rw [upd_same, Mt.pasMid_succ, List.map_append]
            rfl
        · rintro H3 ⟨s3, hD⟩
          rw [Int.toNat_natCast] at hD
          have he : H3 e1 = some (.lst [V.int 1]) := s3 _ _ upd_same
          refine ⟨e1, D, _, _, rfl, rfl, he, hD, ?_, fun p3 n3 => ?_⟩
          · rw [List.length_map, Mt.pasMid_len]
            exact Nat.le_of_lt (small1000 (show 1 + i ≤ 1000 by omega))
          · refine ⟨by show 1 ≤ sizeLine; decide, fun e2 n2 => ?_⟩
            have s4 : Same H3 (upd H3 p3 (.lst ([V.int 1] ++ (Mt.pasMid (Mt.pas i) i).map V.int))) := same_upd n3
            have n23 : p3 ≠ e2 := fun z => by
              rw [← z, upd_same] at n2
              cases n2
            refine ⟨p3, e2, _, _, rfl, rfl, by rw [upd_ne n23, upd_same], upd_same, ?_, fun p4 n4 => ?_⟩
            · rw [List.length_append, List.length_map, Mt.pasMid_len]
              exact Nat.le_of_lt (small1000 (show 1 + i + 1 ≤ 1000 by omega))
            · have sAll := sm.trans (s1.trans (s3.trans (s4.trans (same_upd (o := .lst [V.int 1]) n2))))
              refine ⟨p4, some (.int (0 + (i : Int))), rfl, sAll.trans (same_upd n4), sAll.free n4, ?_⟩
              · rw [upd_same]
                show some (HO.lst (([V.int 1] ++ (Mt.pasMid (Mt.pas i) i).map V.int) ++ [V.int 1])) = some (HO.lst ((([1] ++ Mt.pasMid (Mt.pas i) i) ++ [1]).map V.int))
                rw [List.map_append, List.map_append]
                rfl
    · rintro σ H' ⟨p, y, rfl, sm, np, hp⟩
      rw [Int.toNat_natCast] at hp
      exact ⟨.ref p, rfl, q H' p sm np hp⟩
end
end Kq
namespace Kq
open PySem PySem.Spec PyProof.Rows L2
/-! ### the turns in a list -/
def tl (m : Nat) : List Int := (List.range m).map Mt.tn
theorem tl_len (m : Nat) : (tl m).length = m := by
  unfold tl
  rw [List.length_map, List.length_range]
theorem tl_succ (m : Nat) : tl (m + 1) = tl m ++ [Mt.tn m] := by
  unfold tl
  rw [List.range_succ, List.map_append]
  rfl
theorem tl_get {m k : Nat} (h : k < m) : (tl m).getD k 0 = Mt.tn k := by
  unfold tl
  rw [List.getD_eq_getElem?_getD, List.getElem?_map, List.getElem?_range h]
  rfl
theorem ix_tl {m k : Nat} {z : Int} (h : k < m) (e : z = (k : Nat)) : atI ((tl m).map V.int) z = some (V.int (Mt.tn k)) := by
  rw [← tl_get h]
  exact ix_map (by rw [tl_len]; exact h) e
theorem wide_of {i : Int} {a : Nat} (h0 : 0 ≤ i) (h : i < 2 ^ a) : i.natAbs < 2 ^ a := by
  have e : ((i.natAbs : Nat) : Int) = i := Int.natAbs_of_nonneg h0
  have c : (((2 ^ a : Nat)) : Int) = 2 ^ a := by
    rw [Int.natCast_pow]
    rfl
  have q : ((i.natAbs : Nat) : Int) < ((2 ^ a : Nat) : Int) := by
    rw [e, c]
    exact h
  exact Int.ofNat_lt.mp q
theorem tn_wide {k : Nat} (h : k < 41) : (Mt.tn k).natAbs < 2 ^ 140 := wide_of (Mt.tn_bound h).1 (Mt.tn_bound h).2
theorem pn_wide {n k : Nat} (h1 : 1 ≤ n) (h2 : n ≤ 39) : (Mt.pn n k).natAbs < 2 ^ 100 := wide_of (Mt.pn_bound h1 h2).1 (Mt.pn_bound h1 h2).2
theorem tl_short {m : Nat} (h : m ≤ 41) : Short (tl m) := by
  refine ⟨by rw [tl_len]; omega, fun i hi => ?_⟩
  obtain ⟨k, hk, e⟩ := List.mem_map.mp hi
  have lt := List.mem_range.mp hk
  rw [← e]
  exact Nat.lt_of_lt_of_le (PySem.Flt.log2_lt_of (by decide) (tn_wide (show k < 41 by omega))) (by decide)
section
variable {P : Program} {w : World} {K : PySem.W.Frag} {mg : Str → Option Value} {base : Heap}
/-! ### _law_sum_right -/
theorem scSum : FnScope ["_law_n", "_law_choices_here", "_law_k", "_law_turns", "_law_found", "_law_row"] ["_law_n"] (defScope sSum) := ⟨rfl, rfl, rfl, by decide +kernel, rfl, by decide +kernel, by decide +kernel⟩
def spSum : Sp := fun vs H Q _ => ∃ n : Nat, vs = [.int (n : Int)] ∧ 1 ≤ n ∧ n ≤ 39 ∧ ∀ H', Same H H' → Q (.bl true) H'
structure Defs (K : PySem.W.Frag) (mg : Str → Option Value) (fS fT fN fM fD fC : Addr) (fdS fdT fdN fdM fdD fdC : FuncData) : Prop where
  txt : Txt mg
  FS : Fun K "row_by_steps" "row_by_steps" sStep fS fdS
  bS : Binds K fdS ["row"] []
  gS : mg "row_by_steps" = some (.ref fS)
  FT : Fun K "table_to" "table_to" sTable fT fdT
  bT : Binds K fdT ["n"] []
  gT : mg "table_to" = some (.ref fT)
  FN : Fun K "turns_of" "turns_of" sTurns fN fdN
  bN : Binds K fdN ["n"] []
  gN : mg "turns_of" = some (.ref fN)
  FM : Fun K "may_follow" "may_follow" sMay fM fdM
  bM : Binds K fdM ["row", "one"] []
  gM : mg "may_follow" = some (.ref fM)
  FD : Fun K "turns_down" "turns_down" sDown fD fdD
  bD : Binds K fdD ["n"] []
  gD : mg "turns_down" = some (.ref fD)
  FC : Fun K "_law_choices" "_law_choices" sChoi fC fdC
  bC : Binds K fdC ["_law_n"] []
  gC : mg "_law_choices" = some (.ref fC)
theorem ok_sum {f fS fT fN fM fD fC : Addr} {fd fdS fdT fdN fdM fdD fdC : FuncData} (F : Fun K "_law_sum_right" "_law_sum_right" sSum f fd) (B : Defs K mg fS fT fN fM fD fC fdS fdT fdN fdM fdD fdC) : FnNg P w K mg base 4 f fd ["_law_n"] spSum := by
  have T := B.txt
  have GN : FnOk P w K mg base CX0 3 fN fdN ["n"] spTurns := ok_turns B.FN T B.FT B.bT B.gT B.FS B.bS B.gS
  have GT : FnOk P w K mg base CX0 2 fT fdT ["n"] (spTable K) := ok_table B.FT T B.FS B.bS B.gS
  have GC : FnOk P w K mg base CX0 1 fC fdC ["_law_n"] spChoi := ok_choi B.FC T
  refine ng_of F scSum (fun vs H Q E h => ?_) (fun cdv A outer s H vs Q E hgd hr h => ?_)
  · obtain ⟨n, rfl, _⟩ := h
    rfl
  · obtain ⟨n, rfl, one, few, q⟩ := h
    refine ⟨_, pss_cons (ps_set (i := 1) scSum.nd rfl (.inl rfl) (pe_call GC (hr.mono (by decide)) (by rfl) B.gC B.FC.kp B.bC .nil pass0 (pa_cons (pv 0) pa_nil)))
      (pss_cons (ps_set (i := 3) scSum.nd rfl (.inr rfl)
        (pe_lc (own := [("_law_k", 2)]) (g := gName 2) (tt := tYes) (te := tCall spTurns [] E0 (tCons (tVar 2) tNil)) rfl scSum.nd (pi_range1 (by rfl) T.range (pa_cons (pe_op op_add (pv 0) pe_int) pa_nil))
          (blkOk_by (own := [("_law_k", 2)]) (N := ["_law_n", "_law_choices_here", "_law_k", "_law_turns", "_law_found", "_law_row"]) (sc := defScope sSum) (by decide +kernel))
          (fun _ _ _ _ _ => pg_name (i := 2) scSum.nd rfl (Or.inl rfl)) (fun _ _ _ _ _ => pts_nil)
          (fun _ _ _ _ _ => pe_call GN hr (by rfl) B.gN B.FN.kp B.bN .nil pass0 (pa_cons (pv 2) pa_nil))))
      (pss_cons (ps_set (i := 4) scSum.nd rfl (.inl rfl) pe_int)
      (pss_cons (ps_for PassesOwn.never rfl (pi_range1 (by rfl) T.range (pa_cons (pe_op op_add (pv 0) pe_int) pa_nil)) (pg_name (i := 2) scSum.nd rfl (.inl rfl))
        (pss_one (ps_set (i := 4) scSum.nd rfl (.inl rfl) (pe_op op_add (pv 4) (pe_op op_mulW (pe_op op_mulW (pe_ix ix_list (pv 1) (pv 2) (fun _ _ => rfl)) (pe_ix ix_list (pv 3) (pv 2) (fun _ _ => rfl)))
          (pe_ix ix_list (pv 3) (pe_op op_sub (pv 0) (pv 2)) (fun _ _ => rfl)))))))
      (pss_cons (ps_if (PW.pt (pw_or (pt_cmpR op_ne (pe_op op_mul pe_int (pe_ix ix_list (pv 3) (pe_op op_add (pv 0) pe_int) (fun _ _ => rfl))) (pv 4) (nomark _))
          (pw_or1 (pt_cmpR (op_neD hr.units)
            (pe_lc (own := [("_law_k", 2)]) (g := gName 2) (tt := tTest (tOp (rI0 fun i j => .bl (decide (i ≤ j))) (tOp (rIxL K) (tVar 3) (tVar 2)) (tOp (rIxL K) (tVar 3) (tOp (rI0 fun i j => .int (i - j)) (tVar 2) (tC (.int 1)))))) (te := tVar 2)
              rfl scSum.nd (pi_range2 (by rfl) T.range (pa_cons pe_int (pa_cons (pe_op op_add (pv 0) pe_int) pa_nil)))
              (blkOk_by (own := [("_law_k", 2)]) (N := ["_law_n", "_law_choices_here", "_law_k", "_law_turns", "_law_found", "_law_row"]) (sc := defScope sSum) (by decide +kernel))
              (fun _ _ _ _ _ => pg_name (i := 2) scSum.nd rfl (Or.inl rfl))
              (fun _ _ _ _ _ => pts_one (pt_cmpR op_le (pe_ix ix_list (pv 3) (pv 2) (fun _ _ => rfl)) (pe_ix ix_list (pv 3) (pe_op op_sub (pv 2) pe_int) (fun _ _ => rfl)) (nomark _)))
              (fun _ _ _ _ _ => pv 2)) (pe_lst pa_nil) (nomark _)))))
        (pss_one (ps_ret pe_bl)) pss_nil)
      (pss_one (ps_ret (pe_cmpR op_eq
        (pe_callB (call_repr_ints hgd hr) (by rfl) T.repr (by decide +kernel) (pa_cons
          (pe_lc (own := [("_law_row", 5)]) (g := gName 5) (tt := tYes) (te := tOp (rIxT K) (tVar 5) (tOp (rI0 fun i j => .int (i - j)) (tCB (fun xs H Q => ∃ p ys, xs = [.ref p] ∧ (SqL K H p ys ∨ SqT K H p ys) ∧ Q (.int ys.length) H) (tCons (tVar 5) tNil)) (tC (.int 1))))
            rfl scSum.nd (pi_tup (pe_call GT (hr.mono (by decide)) (by rfl) B.gT B.FT.kp B.bT .nil pass0 (pa_cons (pe_op op_add (pv 0) pe_int) pa_nil)))
            (blkOk_by (own := [("_law_row", 5)]) (N := ["_law_n", "_law_choices_here", "_law_k", "_law_turns", "_law_found", "_law_row"]) (sc := defScope sSum) (by decide +kernel))
            (fun _ _ _ _ _ => pg_name (i := 5) scSum.nd rfl (Or.inl rfl)) (fun _ _ _ _ _ => pts_nil)
            (fun _ _ _ _ _ => pe_ix ix_tup (pv 5) (pe_op op_sub (pe_callB call_len_seq (by rfl) T.len PySem.boot_len (pa_cons (pv 5) pa_nil)) pe_int) (fun _ _ => rfl))) pa_nil))
        (pe_callB (call_repr_ints hgd hr) (by rfl) T.repr (by decide +kernel) (pa_cons (pv 3) pa_nil)) (nomark _)))))))), ?_⟩
    -- _law_choices(_law_n)
    refine ⟨.int (n : Int), rfl, n, rfl, by omega, fun H1 pc s1 npc hpc => ?_⟩
    -- [turns_of(k) for k in range(n + 2)]
    refine ⟨.int (n : Int), rfl, _, 2, rfl, rfl, _, rfl, by omega, by omega, fun pt npt => ?_⟩
    refine lc_range (lo := 0) (n := ((n : Int) + 2).toNat) (fun m H2 => Same H1 H2 ∧ H2 pt = some (.lst ((tl m).map V.int))) ⟨same_upd npt, upd_same⟩ ?_ ?_
    · rintro m H2 hm ⟨s2, ht⟩
      refine ⟨rfl, ?_⟩
      refine ⟨.int (0 + (m : Int)), rfl, m, ?_, by omega, fun H3 s3 => ⟨_, s3 _ _ ht, ?_, ?_⟩⟩
      · exact congrArg (fun z : Int => [V.int z]) (show (0 : Int) + (m : Int) = ((m : Nat) : Int) by omega)
      · rw [List.length_map, tl_len]
        exact small1000 (by omega)
      · refine ⟨same_put npt (s2.trans s3), ?_⟩
        rw [upd_same, tl_succ, List.map_append]
        rfl
    · rintro H2 ⟨s2, ht⟩
      have e2 : ((n : Int) + 2).toNat = n + 2 := by omega
      rw [e2] at ht
      have hc : H2 pc = some (.lst ((Mt.pas n).map V.int)) := s2 _ _ hpc
      have lpas := Mt.pas_len n
      -- for k in range(n + 1): found = found + ..
      refine ⟨.int (n : Int), rfl, _, 1, rfl, rfl, _, rfl, by omega, by omega, ?_⟩
      refine for_range (lo := 0) (n := ((n : Int) + 1).toNat) (fun i σ H' => H' = H2 ∧ ∃ y : Option V, σ = [some (.int (n : Int)), some (.ref pc), y, some (.ref pt), some (.int (Mt.sumTo n i)), none]) ⟨rfl, none, rfl⟩ ?_ ?_
      · rintro i σ H' hi ⟨rfl, y, rfl⟩
        have hin : i ≤ n := by omega
        have w1 := pn_wide (k := i) one few
        have w2 := tn_wide (show i < 41 by omega)
        have w3 := tn_wide (show n - i < 41 by omega)
        refine ⟨.int (Mt.sumTo n i), rfl, .ref pc, rfl, .int (0 + (i : Int)), rfl, pc, _, _, _, rfl, rfl, SqL.of hc, ix_map (k := i) (by omega) (by omega),
          .ref pt, rfl, .int (0 + (i : Int)), rfl, pt, _, _, _, rfl, rfl, SqL.of ht, ix_tl (k := i) (by omega) (by omega), _, _, rfl, rfl, wide_mul w1 w2 (by decide) (by decide) (by decide),
          .ref pt, rfl, .int (n : Int), rfl, .int (0 + (i : Int)), rfl, _, _, rfl, rfl, pt, _, _, _, rfl, rfl, SqL.of ht, ix_tl (k := n - i) (by omega) (by omega), _, _, rfl, rfl,
          wide_mul (wide_lt w1 w2) w3 (by decide) (by decide) (by decide), _, _, rfl, rfl, rfl, some (.int (0 + (i : Int))), rfl⟩
      · rintro σ H' ⟨rfl, y, rfl⟩
        have e1 : ((n : Int) + 1).toNat = n + 1 := by omega
        rw [e1]
        have law1 := Mt.sum_law one few
        -- 2 * turns[n + 1] != found
        refine ⟨.ref pt, rfl, .int (n : Int), rfl, _, 1, rfl, rfl, pt, _, _, _, rfl, rfl, SqL.of ht, ix_tl (k := n + 1) (by omega) (by omega), 2, _, rfl, rfl, .inl ⟨by decide, by decide⟩, .int (Mt.sumTo n (n + 1)), rfl, rfl, _, rfl, ?_⟩
        refine iteNS (congrArg V.int law1) ?_
        -- each greater from three on
        refine ⟨.int (n : Int), rfl, _, 2, rfl, rfl, 3, _, rfl, ⟨by omega, by omega, by omega, by omega⟩, fun pg npg => ?_⟩
        refine lc_range (lo := 3) (n := ((n : Int) + 2 - 3).toNat) (fun m H3 => Same H' H3 ∧ H3 pg = some (.lst [])) ⟨same_upd npg, upd_same⟩ ?_ ?_
        · rintro m H3 hm ⟨s3, hg⟩
          have ht3 := s3 _ _ ht
          refine ⟨rfl, ?_⟩
          refine ⟨.ref pt, rfl, .int (3 + (m : Int)), rfl, pt, _, _, _, rfl, rfl, SqL.of ht3, ix_tl (k := 3 + m) (by omega) (by omega), .ref pt, rfl, .int (3 + (m : Int)), rfl, _, 1, rfl, rfl, pt, _, _, _, rfl, rfl, SqL.of ht3, ix_tl (k := 3 + m - 1) (by omega) (by omega), _, _, rfl, rfl, _, rfl, ?_⟩
          have rise := Mt.rise_law (k := 3 + m) (by omega) (by omega)
          refine ite2 (fun z => ?_) (fun _ => ⟨s3, hg⟩)
          have z := of_decide_eq_true z
          omega
        · rintro H3 ⟨s3, hg⟩
          refine ⟨Nat.zero_le _, fun pe npe => ?_⟩
          have s4 : Same H3 (upd H3 pe (.lst [])) := same_upd npe
          refine ⟨intData [], intData [], .lst (SqL.of (s4 _ _ hg)) .nil, .lst (SqL.of upd_same) .nil, ints_shaped [], ints_shaped [], _, rfl, ?_⟩
          rw [eqv_none]
          refine iteF ?_
          -- table_to(n + 1)
          refine ⟨.int (n : Int), rfl, _, 1, rfl, rfl, n + 1, rfl, by omega, fun H5 p as s5 np hp la tab => ?_⟩
          refine ⟨p, rfl, ⟨_, SqT.of hp⟩, fun D nD => ?_⟩
          refine lc_tup (K := K) (a := p) (xs := as.map V.ref) (fun i H6 => Same H5 H6 ∧ H6 D = some (.lst ((tl i).map V.int))) ⟨same_upd nD, upd_same⟩ (fun i H6 _ h6 => SqT.of (h6.1 _ _ hp)) ?_ ?_
          · rintro i x H6 hx ⟨s6, hD⟩
            obtain ⟨a, rfl, ha⟩ := ref_at hx
            have li : i < as.length := (List.getElem?_eq_some_iff.mp ha).1
            have hrow := sameT s6 (tab i a ha)
            have lrow := Mt.rowN_len i
            refine ⟨rfl, ?_⟩
            refine ⟨.ref a, rfl, .ref a, rfl, a, _, rfl, .inr hrow, _, 1, rfl, rfl, a, _, _, .int (Mt.tn i), rfl, rfl, hrow, ?_, _, hD, ?_, ?_⟩
            · rw [List.length_map, lrow]
              have e : (((i + 1 : Nat) : Int)) - 1 = ((i : Nat) : Int) := by omega
              rw [e]
              exact atI_nat (row_last i)
            · rw [List.length_map, tl_len]
              exact small1000 (by omega)
            · refine ⟨same_put nD s6, ?_⟩
              rw [upd_same, tl_succ, List.map_append]
              rfl
          · rintro H6 ⟨s6, hD⟩
            rw [List.length_map, la] at hD
            have all := s3.trans (s4.trans (s5.trans s6))
            refine ⟨D, tl (n + 2), rfl, SqL.of hD, tl_short (by omega), ?_⟩
            refine ⟨.ref pt, rfl, pt, tl (n + 2), rfl, SqL.of (all _ _ ht), tl_short (by omega), rfl, ?_⟩
            rw [decide_eq_true rfl]
            exact q H6 (s1.trans (s2.trans all))
end
end Kq
namespace Mt
theorem place_at : ∀ (r : List Int) (z : Int), z ∈ r → r[placeOf z r]? = some z ∧ ∀ m, m < placeOf z r → r[m]? ≠ some z
  | [], z, h => absurd h List.not_mem_nil
  | x :: r, z, h => by
    by_cases e : x = z
    · subst e
      have p : placeOf x (x :: r) = 0 := by
        unfold placeOf
        rw [List.idxOf_cons_self]
      rw [p]
      exact ⟨rfl, fun m hm => absurd hm (Nat.not_lt_zero m)⟩
    · have p : placeOf z (x :: r) = placeOf z r + 1 := by
        unfold placeOf
        rw [List.idxOf_cons, beq_eq_false_iff_ne.mpr e]
        rfl
      have hr : z ∈ r := (List.mem_cons.mp h).resolve_left fun q => e q.symm
      obtain ⟨a, b⟩ := place_at r z hr
      rw [p]
      refine ⟨a, fun m hm => ?_⟩
      cases m with
      | zero => exact fun q => e (Option.some.inj q)
      | succ m => exact b m (by omega)
/-- of the first j rows, those whose greatest number stands at k -/
def manyTo (n k j : Nat) : Nat := (((downs (n + 1) (n + 1)).take j).filter fun r => decide (placeOf ((n : Nat) : Int) r = k)).length
theorem manyTo_yes {n k j : Nat} {r : List Int} (h : (downs (n + 1) (n + 1))[j]? = some r) (e : placeOf ((n : Nat) : Int) r = k) : manyTo n k (j + 1) = manyTo n k j + 1 := by
  unfold manyTo
  rw [List.take_add_one, h, List.filter_append, List.length_append]
  show _ + (List.filter _ [r]).length = _
  rw [List.filter_cons, if_pos (decide_eq_true e)]
  rfl
theorem manyTo_no {n k j : Nat} {r : List Int} (h : (downs (n + 1) (n + 1))[j]? = some r) (e : ¬ placeOf ((n : Nat) : Int) r = k) : manyTo n k (j + 1) = manyTo n k j := by
  unfold manyTo
  rw [List.take_add_one, h, List.filter_append, List.length_append]
  show _ + (List.filter _ [r]).length = _
  rw [List.filter_cons, if_neg fun z => e (of_decide_eq_true z)]
  rfl
theorem manyTo_all (n k : Nat) : manyTo n k (downs (n + 1) (n + 1)).length = manyAt n k := by
  unfold manyTo manyAt
  rw [List.take_length]
theorem manyTo_le (n k j : Nat) : manyTo n k j ≤ (downs (n + 1) (n + 1)).length := by
  unfold manyTo
  refine Nat.le_trans (List.length_filter_le _ _) ?_
  rw [List.length_take]
  exact Nat.min_le_right _ _
end Mt
namespace Kq
open PySem PySem.Spec PyProof.Rows L2
section
variable {P : Program} {w : World} {K : PySem.W.Frag} {mg : Str → Option Value} {base : Heap}
/-! ### _law_greatest_right -/
theorem scGreat : FnScope ["_law_n", "_law_choices_here", "_law_rows", "_law_k", "_law_many", "_law_due", "_law_row"] ["_law_n"] (defScope sGreat) := ⟨rfl, rfl, rfl, by decide +kernel, rfl, by decide +kernel, by decide +kernel⟩
def spGreat : Sp := fun vs H Q _ => ∃ n : Nat, vs = [.int (n : Int)] ∧ 1 ≤ n ∧ n ≤ 5 ∧ ∀ H', Same H H' → Q (.bl true) H'
theorem even_is (i : Nat) : (if decide (V.int ((0 + (i : Int)) % 2) = V.int 0) = true then (1 : Int) else 0) = if i % 2 = 0 then 1 else 0 := by
  by_cases e : i % 2 = 0
  · rw [if_pos e, if_pos (decide_eq_true (congrArg V.int (by omega)))]
  · rw [if_neg e, if_neg fun z => e ?_]
    have z2 := V.int.inj (of_decide_eq_true z)
    omega
theorem ok_great {f fS fT fN fM fD fC : Addr} {fd fdS fdT fdN fdM fdD fdC : FuncData} (F : Fun K "_law_greatest_right" "_law_greatest_right" sGreat f fd) (B : Defs K mg fS fT fN fM fD fC fdS fdT fdN fdM fdD fdC) : FnOk P w K mg base CX0 4 f fd ["_law_n"] spGreat := by
  have T := B.txt
  have GN : FnOk P w K mg base CX0 3 fN fdN ["n"] spTurns := ok_turns B.FN T B.FT B.bT B.gT B.FS B.bS B.gS
  have GD : FnOk P w K mg base CX0 2 fD fdD ["n"] spDown := ok_down B.FD T B.FM B.bM B.gM
  have GC : FnOk P w K mg base CX0 1 fC fdC ["_law_n"] spChoi := ok_choi B.FC T
  refine F.ok scGreat (fun vs H Q E h => ?_) (fun cdv A outer s H vs Q E hr h => ?_)
  · obtain ⟨n, rfl, _⟩ := h
    rfl
  · obtain ⟨n, rfl, one, few, q⟩ := h
    refine ⟨_, pss_cons (ps_set (i := 1) scGreat.nd rfl (.inl rfl) (pe_call GC (hr.mono (by decide)) (by rfl) B.gC B.FC.kp B.bC .nil pass0 (pa_cons (pv 0) pa_nil)))
      (pss_cons (ps_set (i := 2) scGreat.nd rfl (.inl rfl) (pe_call GD (hr.mono (by decide)) (by rfl) B.gD B.FD.kp B.bD .nil pass0 (pa_cons (pe_op op_add (pv 0) pe_int) pa_nil)))
      (pss_cons (ps_for PassesOwn.never rfl (pi_range1 (by rfl) T.range (pa_cons (pe_op op_add (pv 0) pe_int) pa_nil)) (pg_name (i := 3) scGreat.nd rfl (.inr rfl))
        (pss_cons (ps_set (i := 4) scGreat.nd rfl (.inl rfl) (pe_callB call_len_seq (by rfl) T.len PySem.boot_len (pa_cons
          (pe_lc (own := [("_law_row", 6)]) (g := gName 6) (tt := tTest (tOp rEq (fun σ H Q => tVar 6 σ H fun x H1 => (∃ a xs, x = V.ref a ∧ Fz H1 a xs) ∧ tCons (tVar 0) tNil σ H1 fun ys H2 => ∃ (a : Addr) (ns : List Int) (z : Int) (j : Nat), x = V.ref a ∧ ys = [V.int z] ∧ SqT K H2 a (ns.map V.int) ∧ ns[j]? = some z ∧ (∀ m, m < j → ns[m]? ≠ some z) ∧ Q (.int (j : Nat)) H2) (tVar 3))) (te := tVar 6)
            rfl scGreat.nd (pi_list (pv 2)) (blkOk_by (own := [("_law_row", 6)]) (N := ["_law_n", "_law_choices_here", "_law_rows", "_law_k", "_law_many", "_law_due", "_law_row"]) (sc := defScope sGreat) (by decide +kernel))
            (fun _ _ _ _ _ => pg_name (i := 6) scGreat.nd rfl (Or.inl rfl)) (fun _ _ _ _ _ => pts_one (pt_cmpR op_eq (pe_idx (pv 6) (pa_cons (pv 0) pa_nil)) (pv 3) (nomark _)))
            (fun _ _ _ _ _ => pv 6)) pa_nil)))
        (pss_cons (ps_set (i := 5) scGreat.nd rfl (.inl rfl) (pe_op op_mulW (pe_op op_mulW (pe_ix ix_list (pv 1) (pv 3) (fun _ _ => rfl)) (pe_call GN hr (by rfl) B.gN B.FN.kp B.bN .nil pass0 (pa_cons (pv 3) pa_nil)))
          (pe_call GN hr (by rfl) B.gN B.FN.kp B.bN .nil pass0 (pa_cons (pe_op op_sub (pv 0) (pv 3)) pa_nil))))
        (pss_one (ps_if (pt_cmpR op_ne (pv 4) (pe_op op_mul (pv 5) (pe_callTy call_int1 (by rfl) T.int (by decide +kernel) (pa_cons (pe_cmpR op_eq (pe_op op_mod (pv 3) pe_int) pe_int (nomark _)) pa_nil))) (nomark _))
          (pss_one (ps_ret pe_bl)) pss_nil)))))
      (pss_one (ps_ret pe_bl)))), ?_⟩
    -- the choices, the rows
    refine ⟨.int (n : Int), rfl, n, rfl, by omega, fun H1 pc s1 npc hpc => ?_⟩
    refine ⟨.int (n : Int), rfl, _, 1, rfl, rfl, n + 1, rfl, by omega, fun H2 pr as s2 npr hpr rows => ?_⟩
    have las := rows.len
    have small := Mt.downs_small (n := n + 1) (k := n + 1) (by omega) (by omega)
    have lpas := Mt.pas_len n
    -- for k in range(n + 1)
    refine ⟨.int (n : Int), rfl, _, 1, rfl, rfl, _, rfl, by omega, by omega, ?_⟩
    refine for_range (lo := 0) (n := ((n : Int) + 1).toNat) (fun i σ H' => Same H2 H' ∧ ∃ y3 y4 y5 : Option V, σ = [some (.int (n : Int)), some (.ref pc), some (.ref pr), y3, y4, y5, none]) ⟨Same.refl _, none, none, none, rfl⟩ ?_ ?_
    · rintro i σ H' hi ⟨sm, y3, y4, y5, rfl⟩
      have hin : i ≤ n := by omega
      -- len([row for row in rows if row.index(n) == k])
      refine ⟨.ref pr, rfl, pr, rfl, ⟨_, SqL.of (sm _ _ hpr)⟩, fun D nD => ?_⟩
      refine lc_list (K := K) (a := pr) (xs := as.map V.ref) (fun j H3 => Same H' H3 ∧ ∃ ds : List Addr, H3 D = some (.lst (ds.map V.ref)) ∧ ds.length = Mt.manyTo n i j) ⟨same_upd nD, [], upd_same, rfl⟩
        (fun j H3 _ h3 => SqL.of (h3.1 _ _ (sm _ _ hpr))) ?_ ?_
      · rintro j x H3 hj ⟨s3, ds, hD, ld⟩
        obtain ⟨a, rfl, ha⟩ := ref_at hj
        obtain ⟨r, hrow, fz⟩ := ((rows.same sm).same s3).get ha
        obtain ⟨p1, p2⟩ := Mt.place_at r ((n : Nat) : Int) (Mt.great_in one few (List.mem_of_getElem? hrow))
        have dl := Mt.manyTo_le n i j
        refine ⟨rfl, ?_⟩
        refine ⟨.ref a, rfl, ⟨a, _, rfl, fz⟩, .int (n : Int), rfl, a, r, (n : Int), Mt.placeOf ((n : Nat) : Int) r, rfl, rfl, fz.sq, p1, p2, .int (0 + (i : Int)), rfl, rfl, _, rfl, ite2 (fun e => ?_) (fun e => ?_)⟩
        · have e1 := V.int.inj (of_decide_eq_true e)
          refine ⟨.ref a, rfl, _, hD, ?_, same_put nD s3, ds ++ [a], ?_, ?_⟩
          · rw [List.length_map, ld, sizeLine_eq]
            omega
          · rw [upd_same, List.map_append]
            rfl
          · rw [List.length_append, List.length_singleton, ld, Mt.manyTo_yes hrow (by omega)]
        · refine ⟨s3, ds, hD, ?_⟩
          rw [ld, Mt.manyTo_no hrow fun z => e (decide_eq_true (congrArg V.int (by omega)))]
      · rintro H3 ⟨s3, ds, hD, ld⟩
        rw [List.length_map, las, Mt.manyTo_all] at ld
        have hc := s3 _ _ (sm _ _ (s2 _ _ hpc))
        have w1 := pn_wide (k := i) one (show n ≤ 39 by omega)
        have w2 := tn_wide (show i < 41 by omega)
        have w3 := tn_wide (show n - i < 41 by omega)
        refine ⟨D, _, rfl, .inl (SqL.of hD), ?_⟩
        -- due
        refine ⟨.ref pc, rfl, .int (0 + (i : Int)), rfl, pc, _, _, _, rfl, rfl, SqL.of hc, ix_map (k := i) (by omega) (by omega), .int (0 + (i : Int)), rfl, i, ?_, by omega, fun H4 s4 => ?_⟩
        · exact congrArg (fun z : Int => [V.int z]) (show (0 : Int) + (i : Int) = ((i : Nat) : Int) by omega)
        refine ⟨_, _, rfl, rfl, wide_mul w1 w2 (by decide) (by decide) (by decide), .int (n : Int), rfl, .int (0 + (i : Int)), rfl, _, _, rfl, rfl, n - i, ?_, by omega, fun H5 s5 => ?_⟩
        · exact congrArg (fun z : Int => [V.int z]) (show (n : Int) - (0 + (i : Int)) = ((n - i : Nat) : Int) by omega)
        refine ⟨_, _, rfl, rfl, wide_mul (wide_lt w1 w2) w3 (by decide) (by decide) (by decide), ?_⟩
        -- many != due * int(k % 2 == 0)
        refine ⟨_, rfl, _, rfl, .int (0 + (i : Int)), rfl, _, 2, rfl, rfl, (by show (0 : Int) < 2; decide), rfl, .inr ⟨_, rfl, _, _, rfl, rfl, ?_, rfl, _, rfl, iteNS (congrArg V.int ?_) ?_⟩⟩
        · rw [even_is]
          exact .inr (by split <;> decide)
        · have law1 := Mt.great_law one few hin
          rw [even_is, List.length_map, ld]
          exact law1
        · exact ⟨((sm.trans s3).trans s4).trans s5, _, _, _, rfl⟩
    · rintro σ H' ⟨sm, y3, y4, y5, rfl⟩
      exact q H' (s1.trans (s2.trans sm))
end
end Kq
namespace Kq
open PySem PySem.Spec PyProof.Rows L2
theorem pick_many (g : Int) : ∃ m : Int, 1 ≤ m ∧ m ≤ 39 ∧ atI [V.int 12, V.int 24, V.int 39] ((if decide (3 < g) = true then (1 : Int) else 0) + (if decide (V.int g = V.int 7) = true then (1 : Int) else 0)) = some (V.int m) := by
  by_cases a : 3 < g
  · rw [if_pos (decide_eq_true a)]
    by_cases b : V.int g = V.int 7
    · rw [if_pos (decide_eq_true b)]
      exact ⟨39, by decide, by decide, rfl⟩
    · rw [if_neg fun z => b (of_decide_eq_true z)]
      exact ⟨24, by decide, by decide, rfl⟩
  · rw [if_neg fun z => a (of_decide_eq_true z)]
    by_cases b : V.int g = V.int 7
    · rw [if_pos (decide_eq_true b)]
      exact ⟨24, by decide, by decide, rfl⟩
    · rw [if_neg fun z => b (of_decide_eq_true z)]
      exact ⟨12, by decide, by decide, rfl⟩
section
variable {P : Program} {w : World} {K : PySem.W.Frag} {mg : Str → Option Value} {base : Heap}
/-! ### the law -/
theorem scLaw : FnScope ["_law_script", "_law_feed_here", "_law_great", "_law_n"] ["_law_script"] (defScope sLaw) := ⟨rfl, rfl, rfl, by decide +kernel, rfl, by decide +kernel, by decide +kernel⟩
def spLaw (K : PySem.W.Frag) : Sp := fun vs H Q _ => ∃ (a : Addr) (ns : List Int), vs = [.ref a] ∧ SqL K H a (ns.map V.int) ∧ ∀ H', Q (.bl true) H'
theorem ok_law {f fS fT fN fM fD fC fF fW fX fG : Addr} {fd fdS fdT fdN fdM fdD fdC fdF fdW fdX fdG : FuncData} (F : Fun K "law" "law" sLaw f fd) (B : Defs K mg fS fT fN fM fD fC fdS fdT fdN fdM fdD fdC)
    (FF : Fun K "_law_feed" "_law_feed" sFeed fF fdF) (bF : Binds K fdF ["_law_script"] []) (gF : mg "_law_feed" = some (.ref fF))
    (FW : Fun K "_law_draw" "_law_draw" sDraw fW fdW) (bW : Binds K fdW ["_law_feed_here", "_law_many"] []) (gW : mg "_law_draw" = some (.ref fW))
    (FX : Fun K "_law_sum_right" "_law_sum_right" sSum fX fdX) (bX : Binds K fdX ["_law_n"] []) (gX : mg "_law_sum_right" = some (.ref fX))
    (FG : Fun K "_law_greatest_right" "_law_greatest_right" sGreat fG fdG) (bG : Binds K fdG ["_law_n"] []) (gG : mg "_law_greatest_right" = some (.ref fG)) : FnNg P w K mg base 5 f fd ["_law_script"] (spLaw K) := by
  have T := B.txt
  have GF : FnOk P w K mg base CX0 1 fF fdF ["_law_script"] (spFeed K) := ok_feed FF T
  have GW : FnOk P w K mg base CX0 1 fW fdW ["_law_feed_here", "_law_many"] spDraw := ok_draw FW T
  have GX : FnNg P w K mg base 4 fX fdX ["_law_n"] spSum := ok_sum FX B
  have GG : FnOk P w K mg base CX0 4 fG fdG ["_law_n"] spGreat := ok_great FG B
  refine ng_of F scLaw (fun vs H Q E h => ?_) (fun cdv A outer s H vs Q E hgd hr h => ?_)
  · obtain ⟨a, ns, rfl, _⟩ := h
    rfl
  · obtain ⟨a, ns, rfl, hS, q⟩ := h
    refine ⟨_, pss_cons (ps_set (i := 1) scLaw.nd rfl (.inl rfl) (pe_call GF (hr.mono (by decide)) (by rfl) gF FF.kp bF .nil pass0 (pa_cons (pv 0) pa_nil)))
      (pss_cons (ps_set (i := 2) scLaw.nd rfl (.inl rfl) (pe_call GW (hr.mono (by decide)) (by rfl) gW FW.kp bW .nil pass0 (pa_cons (pv 1) (pa_cons pe_int pa_nil))))
      (pss_cons (ps_set (i := 3) scLaw.nd rfl (.inl rfl) (pe_op op_add pe_int (pe_call GW (hr.mono (by decide)) (by rfl) gW FW.kp bW .nil pass0 (pa_cons (pv 1) (pa_cons
        (pe_ix ix_list (pe_lst (pa_cons pe_int (pa_cons pe_int (pa_cons pe_int pa_nil))))
          (pe_op op_add (pe_callTy call_int1 (by rfl) T.int (by decide +kernel) (pa_cons (pe_cmpR op_gt (pv 2) pe_int (nomark _)) pa_nil)) (pe_callTy call_int1 (by rfl) T.int (by decide +kernel) (pa_cons (pe_cmpR op_eq (pv 2) pe_int (nomark _)) pa_nil)))
          (fun _ _ => rfl)) pa_nil)))))
      (pss_one (ps_ret (pe_and (pe_callNg GX hgd hr (by rfl) gX FX.kp bX (pa_cons (pv 3) pa_nil))
        (pe_one (pe_call GG hr (by rfl) gG FG.kp bG .nil pass0 (pa_cons (pe_op op_add pe_int (pe_call GW (hr.mono (by decide)) (by rfl) gW FW.kp bW .nil pass0 (pa_cons (pv 1) (pa_cons pe_int pa_nil)))) pa_nil)))))))), ?_⟩
    refine ⟨.ref a, rfl, a, ns, rfl, hS, fun H1 p c ms f1 lm => ?_⟩
    refine ⟨.ref p, rfl, p, c, 8, ms, 0, 0, 0, rfl, by decide, by decide, f1, by decide, by decide, fun H2 g a2 l2 g0 g1 f2 => ?_⟩
    obtain ⟨m, m1, m2, em⟩ := pick_many g
    refine ⟨.ref p, rfl, by show 3 ≤ sizeLine; decide, fun o no => ?_⟩
    refine ⟨.int g, rfl, g, 3, rfl, rfl, .inr ⟨_, rfl, .int g, rfl, rfl, .inr ⟨_, rfl, _, _, rfl, rfl, o, _, _, _, rfl, rfl, SqL.of upd_same, em, ?_⟩⟩⟩
    refine ⟨p, c, m, ms, a2, l2, 0 + 1, rfl, m1, by omega, f2.same (same_upd no), by decide, by decide, fun H3 r a3 l3 r0 r1 f3 => ⟨1, r, rfl, rfl, ?_⟩⟩
    refine ⟨.int (1 + r), rfl, (1 + r).toNat, ?_, by omega, by omega, fun H4 s4 => ⟨true, rfl, ?_⟩⟩
    · exact congrArg (fun z : Int => [V.int z]) (show (1 + r : Int) = ((1 + r).toNat : Nat) by omega)
    refine iteT ?_
    refine ⟨.ref p, rfl, p, c, 5, ms, a3, l3, 0 + 1 + 1, rfl, by decide, by decide, f3.same s4, by decide, by decide, fun H5 r5 a5 l5 r50 r51 f5 => ⟨1, r5, rfl, rfl, (1 + r5).toNat, ?_, by omega, by omega, fun H6 s6 => q H6⟩⟩
    exact congrArg (fun z : Int => [V.int z]) (show (1 + r5 : Int) = ((1 + r5).toNat : Nat) by omega)
end
/-! ### what the top has written -/
theorem all_mk {l : PySem.W.OpenLaw} {w : World} {K : PySem.W.Frag} {h : Heap} {mg : Str → Option Value} {fa f1 f2 f3 f4 f5 f6 f7 f8 f9 f10 f11 : Addr} (X : K.In h) (G : h.Ns mainGlobals mg) (hfa : mg "law" = some (.ref fa))
    {od1 an1 od2 an2 od3 an3 od4 an4 od5 an5 od6 an6 od7 an7 od8 an8 od9 an9 od10 an10 od11 an11 : Option Addr} {sl1 sl2 sl3 sl4 sl5 sl6 sl7 sl8 sl9 sl10 sl11 : Array (Option Value)}
    {oc1 kV1 dc1 pm1 cd1 ct1 oc2 kV2 dc2 pm2 cd2 ct2 oc3 kV3 dc3 pm3 cd3 ct3 oc4 kV4 dc4 pm4 cd4 ct4 oc5 kV5 dc5 pm5 cd5 ct5 oc6 kV6 dc6 pm6 cd6 ct6 oc7 kV7 dc7 pm7 cd7 ct7 oc8 kV8 dc8 pm8 cd8 ct8 oc9 kV9 dc9 pm9 cd9 ct9 oc10 kV10 dc10 pm10 cd10 ct10 oc11 kV11 dc11 pm11 cd11 ct11 : Value}
    (a1 : PySem.W.nsIn K mainGlobals "row_by_steps" = some (some (.ref f1))) (l1 : K.lookup f1 = some ⟨oc1, od1, .func (PySem.W.fnOf "row_by_steps" "row_by_steps" (defArgs sStep) (defBody sStep) (defScope sStep) .none kV1 dc1 pm1 an1 cd1 ct1), sl1⟩)
      (c1 : PySem.W.codeIn K cd1 "row_by_steps" = true) (k1 : PySem.W.keepIn K (.ref f1) = true)
    (a2 : PySem.W.nsIn K mainGlobals "table_to" = some (some (.ref f2))) (l2 : K.lookup f2 = some ⟨oc2, od2, .func (PySem.W.fnOf "table_to" "table_to" (defArgs sTable) (defBody sTable) (defScope sTable) .none kV2 dc2 pm2 an2 cd2 ct2), sl2⟩)
      (c2 : PySem.W.codeIn K cd2 "table_to" = true) (k2 : PySem.W.keepIn K (.ref f2) = true)
    (a3 : PySem.W.nsIn K mainGlobals "turns_of" = some (some (.ref f3))) (l3 : K.lookup f3 = some ⟨oc3, od3, .func (PySem.W.fnOf "turns_of" "turns_of" (defArgs sTurns) (defBody sTurns) (defScope sTurns) .none kV3 dc3 pm3 an3 cd3 ct3), sl3⟩)
      (c3 : PySem.W.codeIn K cd3 "turns_of" = true) (k3 : PySem.W.keepIn K (.ref f3) = true)
    (a4 : PySem.W.nsIn K mainGlobals "may_follow" = some (some (.ref f4))) (l4 : K.lookup f4 = some ⟨oc4, od4, .func (PySem.W.fnOf "may_follow" "may_follow" (defArgs sMay) (defBody sMay) (defScope sMay) .none kV4 dc4 pm4 an4 cd4 ct4), sl4⟩)
      (c4 : PySem.W.codeIn K cd4 "may_follow" = true) (k4 : PySem.W.keepIn K (.ref f4) = true)
    (a5 : PySem.W.nsIn K mainGlobals "turns_down" = some (some (.ref f5))) (l5 : K.lookup f5 = some ⟨oc5, od5, .func (PySem.W.fnOf "turns_down" "turns_down" (defArgs sDown) (defBody sDown) (defScope sDown) .none kV5 dc5 pm5 an5 cd5 ct5), sl5⟩)
      (c5 : PySem.W.codeIn K cd5 "turns_down" = true) (k5 : PySem.W.keepIn K (.ref f5) = true)
    (a6 : PySem.W.nsIn K mainGlobals "_law_choices" = some (some (.ref f6))) (l6 : K.lookup f6 = some ⟨oc6, od6, .func (PySem.W.fnOf "_law_choices" "_law_choices" (defArgs sChoi) (defBody sChoi) (defScope sChoi) .none kV6 dc6 pm6 an6 cd6 ct6), sl6⟩)
      (c6 : PySem.W.codeIn K cd6 "_law_choices" = true) (k6 : PySem.W.keepIn K (.ref f6) = true)
    (a7 : PySem.W.nsIn K mainGlobals "_law_feed" = some (some (.ref f7))) (l7 : K.lookup f7 = some ⟨oc7, od7, .func (PySem.W.fnOf "_law_feed" "_law_feed" (defArgs sFeed) (defBody sFeed) (defScope sFeed) .none kV7 dc7 pm7 an7 cd7 ct7), sl7⟩)
      (c7 : PySem.W.codeIn K cd7 "_law_feed" = true) (k7 : PySem.W.keepIn K (.ref f7) = true)
    (a8 : PySem.W.nsIn K mainGlobals "_law_draw" = some (some (.ref f8))) (l8 : K.lookup f8 = some ⟨oc8, od8, .func (PySem.W.fnOf "_law_draw" "_law_draw" (defArgs sDraw) (defBody sDraw) (defScope sDraw) .none kV8 dc8 pm8 an8 cd8 ct8), sl8⟩)
      (c8 : PySem.W.codeIn K cd8 "_law_draw" = true) (k8 : PySem.W.keepIn K (.ref f8) = true)
    (a9 : PySem.W.nsIn K mainGlobals "_law_sum_right" = some (some (.ref f9))) (l9 : K.lookup f9 = some ⟨oc9, od9, .func (PySem.W.fnOf "_law_sum_right" "_law_sum_right" (defArgs sSum) (defBody sSum) (defScope sSum) .none kV9 dc9 pm9 an9 cd9 ct9), sl9⟩)
      (c9 : PySem.W.codeIn K cd9 "_law_sum_right" = true) (k9 : PySem.W.keepIn K (.ref f9) = true)
    (a10 : PySem.W.nsIn K mainGlobals "_law_greatest_right" = some (some (.ref f10))) (l10 : K.lookup f10 = some ⟨oc10, od10, .func (PySem.W.fnOf "_law_greatest_right" "_law_greatest_right" (defArgs sGreat) (defBody sGreat) (defScope sGreat) .none kV10 dc10 pm10 an10 cd10 ct10), sl10⟩)
      (c10 : PySem.W.codeIn K cd10 "_law_greatest_right" = true) (k10 : PySem.W.keepIn K (.ref f10) = true)
    (a11 : PySem.W.nsIn K mainGlobals "law" = some (some (.ref f11))) (l11 : K.lookup f11 = some ⟨oc11, od11, .func (PySem.W.fnOf "law" "law" (defArgs sLaw) (defBody sLaw) (defScope sLaw) .none kV11 dc11 pm11 an11 cd11 ct11), sl11⟩)
      (c11 : PySem.W.codeIn K cd11 "law" = true) (k11 : PySem.W.keepIn K (.ref f11) = true)
    (z1 : PySem.W.nsIn K mainGlobals "reversed" = some none) (z2 : PySem.W.nsIn K mainGlobals "tuple" = some none) (z3 : PySem.W.nsIn K mainGlobals "len" = some none) (z4 : PySem.W.nsIn K mainGlobals "range" = some none) (z5 : PySem.W.nsIn K mainGlobals "list" = some none) (z6 : PySem.W.nsIn K mainGlobals "int" = some none) (z7 : PySem.W.nsIn K mainGlobals "repr" = some none) :
    ∃ fd : FuncData, (∀ (s : Shared) (v : Value), BindsTo s fd ⟨[v], []⟩ [("_law_script", v)]) ∧ ∀ base : Heap, K.In base → base.Ns mainGlobals mg → FnNg l.prog w K mg base 5 fa fd ["_law_script"] (spLaw K) := by
  have e := hfa.symm.trans (PySem.W.mg_of X G a11)
  cases e
  have F1 := fun_mk (st := sStep) l1 c1 k1
  have b1 := F1.binds (ps := ["row"]) fun _ _ _ _ _ _ us hl => match us, hl with | [_], _ => rfl
  have g1 := PySem.W.mg_of X G a1
  have F2 := fun_mk (st := sTable) l2 c2 k2
  have b2 := F2.binds (ps := ["n"]) fun _ _ _ _ _ _ us hl => match us, hl with | [_], _ => rfl
  have g2 := PySem.W.mg_of X G a2
  have F3 := fun_mk (st := sTurns) l3 c3 k3
  have b3 := F3.binds (ps := ["n"]) fun _ _ _ _ _ _ us hl => match us, hl with | [_], _ => rfl
  have g3 := PySem.W.mg_of X G a3
  have F4 := fun_mk (st := sMay) l4 c4 k4
  have b4 := F4.binds (ps := ["row", "one"]) fun _ _ _ _ _ _ us hl => match us, hl with | [_, _], _ => rfl
  have g4 := PySem.W.mg_of X G a4
  have F5 := fun_mk (st := sDown) l5 c5 k5
  have b5 := F5.binds (ps := ["n"]) fun _ _ _ _ _ _ us hl => match us, hl with | [_], _ => rfl
  have g5 := PySem.W.mg_of X G a5
  have F6 := fun_mk (st := sChoi) l6 c6 k6
  have b6 := F6.binds (ps := ["_law_n"]) fun _ _ _ _ _ _ us hl => match us, hl with | [_], _ => rfl
  have g6 := PySem.W.mg_of X G a6
  have F7 := fun_mk (st := sFeed) l7 c7 k7
  have b7 := F7.binds (ps := ["_law_script"]) fun _ _ _ _ _ _ us hl => match us, hl with | [_], _ => rfl
  have g7 := PySem.W.mg_of X G a7
  have F8 := fun_mk (st := sDraw) l8 c8 k8
  have b8 := F8.binds (ps := ["_law_feed_here", "_law_many"]) fun _ _ _ _ _ _ us hl => match us, hl with | [_, _], _ => rfl
  have g8 := PySem.W.mg_of X G a8
  have F9 := fun_mk (st := sSum) l9 c9 k9
  have b9 := F9.binds (ps := ["_law_n"]) fun _ _ _ _ _ _ us hl => match us, hl with | [_], _ => rfl
  have g9 := PySem.W.mg_of X G a9
  have F10 := fun_mk (st := sGreat) l10 c10 k10
  have b10 := F10.binds (ps := ["_law_n"]) fun _ _ _ _ _ _ us hl => match us, hl with | [_], _ => rfl
  have g10 := PySem.W.mg_of X G a10
  have F11 := fun_mk (st := sLaw) l11 c11 k11
  have T : Txt mg := ⟨PySem.W.mg_none_of X G z1, PySem.W.mg_none_of X G z2, PySem.W.mg_none_of X G z3, PySem.W.mg_none_of X G z4, PySem.W.mg_none_of X G z5, PySem.W.mg_none_of X G z6, PySem.W.mg_none_of X G z7⟩
  have B := Defs.mk T F1 b1 g1 F2 b2 g2 F3 b3 g3 F4 b4 g4 F5 b5 g5 F6 b6 g6
  exact ⟨PySem.W.fnOf "law" "law" (defArgs sLaw) (defBody sLaw) (defScope sLaw) .none kV11 dc11 pm11 an11 cd11 ct11, fun s v => .of_eq rfl, fun base _ _ => ok_law F11 B F7 b7 g7 F8 b8 g8 F9 b9 g9 F10 b10 g10⟩
end Kq
open PySem PySem.W PyProof.Rows
set_option maxHeartbeats 0 in
theorem PySem.Challenge.cw_powerrests_k78_whole_products_of_turns_holds : PySem.Challenge.rw_powerrests_k78_whole_products_of_turns.Holds := by
  w_on; o_law; k_head; (case hw => w_witness2)
  k_fill
  refine Kq.walk_ng (l := PySem.Challenge.rw_powerrests_k78_whole_products_of_turns) (n := 63) (k := 5) (sp := fun K => Kq.spLaw K) (x := "_law_script") rfl (by decide) rfl ⟨rfl, by decide, by decide⟩ (fun w h Y => PySem.W.kIn_of Y) ?F (fun K H a ns _ hS => ⟨a, ns, rfl, hS, fun _ => rfl⟩)
  case F =>
    intro w mg fa h KX G hmg
    refine' Kq.all_mk KX G hmg ?a1 ?l1 ?c1 ?k1 ?a2 ?l2 ?c2 ?k2 ?a3 ?l3 ?c3 ?k3 ?a4 ?l4 ?c4 ?k4 ?a5 ?l5 ?c5 ?k5 ?a6 ?l6 ?c6 ?k6 ?a7 ?l7 ?c7 ?k7 ?a8 ?l8 ?c8 ?k8 ?a9 ?l9 ?c9 ?k9 ?a10 ?l10 ?c10 ?k10 ?a11 ?l11 ?c11 ?k11 ?z1 ?z2 ?z3 ?z4 ?z5 ?z6 ?z7
    (case a1 => k_is); (case l1 => k_is); (case c1 => k_is); (case k1 => k_is); (case a2 => k_is); (case l2 => k_is); (case c2 => k_is); (case k2 => k_is); (case a3 => k_is); (case l3 => k_is); (case c3 => k_is); (case k3 => k_is); (case a4 => k_is); (case l4 => k_is); (case c4 => k_is); (case k4 => k_is); (case a5 => k_is); (case l5 => k_is); (case c5 => k_is); (case k5 => k_is); (case a6 => k_is); (case l6 => k_is); (case c6 => k_is); (case k6 => k_is); (case a7 => k_is); (case l7 => k_is); (case c7 => k_is); (case k7 => k_is); (case a8 => k_is); (case l8 => k_is); (case c8 => k_is); (case k8 => k_is); (case a9 => k_is); (case l9 => k_is); (case c9 => k_is); (case k9 => k_is); (case a10 => k_is); (case l10 => k_is); (case c10 => k_is); (case k10 => k_is); (case a11 => k_is); (case l11 => k_is); (case c11 => k_is); (case k11 => k_is); (case z1 => k_is); (case z2 => k_is); (case z3 => k_is); (case z4 => k_is); (case z5 => k_is); (case z6 => k_is); (case z7 => k_is)
