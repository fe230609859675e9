import PyProof.Rows.All
import Wide.All
import OpenK.AllK
import Wide.FinOn
import HandS.ForMost
import KE.SortData
import KE.DataMinMax
import HandS.AnyAll
import HandS.IsInst
import HandS.Conv
import KE.GoesEnum
import HandS.Star
import HandS.TupAny
import HandS.TupLen
import KE.KDictDisplayH
import HandS.Style
import HandS.EndTab
import KE.KNestM
import PySem.Challenge.RW_bellcopies_k14_whole_shortest_ring_bells
set_option Elab.async false
set_option linter.all false
namespace Rg
/-! ### the mirror: what each def computes, over plain lists -/
abbrev L := List Int
def firstL (n : Nat) : L := (List.range n).map fun (i : Nat) => (1 : Int) + (i : Int)
/-- rung, _law_lifted: bell b from 1 on -/
def rungL (s : L) (b : Nat) : L := s.take (b - 1) ++ (if 1 < b then s.getD (b - 2) 0 else s.getD (s.length - 1) 0 - (s.length : Int)) :: s.drop b
def inB (x lo hi : Int) : Bool := decide (lo ≤ x) && decide (x ≤ hi)
def isLift (s : L) : Bool :=
  decide (2 ≤ s.length) && decide (s.length ≤ 8) && ((List.range s.length).all fun (k : Nat) => inB (s.getD k 0) (-200) ((k : Int) + 1)) &&
    !((List.range (s.length - 1)).any fun k => decide (s.getD (k + 1) 0 < s.getD k 0)) && decide (s.getD (s.length - 1) 0 ≤ s.getD 0 0 + (s.length : Int))
def entryL (s : L) (p : Int) : Int := s.getD (p - 1 - (p - 1) / (s.length : Int) * (s.length : Int)).toNat 0 + (p - 1) / (s.length : Int) * (s.length : Int)
def comesL (s : L) : Bool := decide (s = firstL s.length) || ((List.range s.length).any fun (i : Nat) => decide (entryL s (1 + (i : Int)) = entryL s (1 + (i : Int) + 1)))
def cntTo (s : L) : Nat → Int
  | 0 => 0
  | i + 1 => if entryL s (1 + (i : Int)) = entryL s (1 + (i : Int) + 1) then cntTo s i else cntTo s i + (1 + (i : Int)) - entryL s (1 + (i : Int))
def cntL (s : L) : Int := cntTo s s.length
def putL (s : L) (b : Nat) (x : Int) : L := s.take (b - 1) ++ x :: s.drop b
def goodB (s t : L) : Bool := isLift t && (comesL t && decide (cntL t = cntL s - 1))
/-- the inner loop of lifts_before, j turns done -/
def befIn (s : L) (b : Nat) (lo : Int) : Nat → List (Nat × L)
  | 0 => []
  | j + 1 => if goodB s (putL s b (lo + (j : Int))) = true then befIn s b lo j ++ [(b, putL s b (lo + (j : Int)))] else befIn s b lo j
def loB (s : L) (b : Nat) : Int := entryL s ((b : Int) - 1)
def hiB (s : L) (b : Nat) : Int := (if (b : Int) < entryL s ((b : Int) + 1) then (b : Int) else entryL s ((b : Int) + 1)) + 1
def befAt (s : L) (b : Nat) : List (Nat × L) := if entryL s (b : Int) = entryL s ((b : Int) - 1) then befIn s b (loB s b) (hiB s b - loB s b).toNat else []
/-- the outer loop, i turns done -/
def befTo (s : L) : Nat → List (Nat × L)
  | 0 => []
  | i + 1 => befTo s i ++ befAt s (i + 1)
def befL (s : L) : List (Nat × L) := befTo s s.length
def ltL : L → L → Bool
  | [], [] => false
  | [], _ :: _ => true
  | _ :: _, [] => false
  | x :: xs, y :: ys => if x = y then ltL xs ys else decide (x < y)
def minL : List L → L
  | [] => []
  | r :: rs => rs.foldl (fun a b => if ltL b a = true then b else a) r
def small : Nat → L → L
  | 0, _ => []
  | n + 1, s => minL ((befL s).map fun p => small n p.2 ++ [(p.1 : Int)])
def okL (s : L) : Bool := decide (2 ≤ s.length) && decide (s.length ≤ 8) && s.all fun x => inB x (-1000) 1000
def okS : Nat → L → Bool
  | 0, _ => false
  | n + 1, s => okL s && decide ((befL s).length ≤ 1000) && (befL s).all fun p => okS n p.2
/-- how many entries the memo may grow by -/
def tot : Nat → L → Nat
  | 0, _ => 0
  | n + 1, s => 1 + ((befL s).map fun p => tot n p.2).sum
/-- lifts_within: one bell rung at here: (seen, more) -/
def wBell (here : L) (p : List L × List L) (b : Nat) : List L × List L :=
  if rungL here b ∈ p.1 then p else (p.1 ++ [rungL here b], p.2 ++ [rungL here b])
def wHere (n : Nat) (p : List L × List L) (here : L) : List L × List L := (List.range n).foldl (fun q i => wBell here q (i + 1)) p
def wTurn (n : Nat) (p : List L × List L) : List L × List L := p.2.foldl (wHere n) (p.1, [])
def wTo (n : Nat) : Nat → List L × List L
  | 0 => ([firstL n], [firstL n])
  | t + 1 => wTurn n (wTo n t)
def within (n m : Nat) : Nat := (wTo n m).1.length
/-- the law's own walk: known pairs, rows -/
abbrev KW := List (L × L)
def kBell (h : L × L) (p : KW × KW) (b : Nat) : KW × KW :=
  if rungL h.1 b ∈ p.1.map (·.1) then p else (p.1 ++ [(rungL h.1 b, h.2 ++ [(b : Int)])], p.2 ++ [(rungL h.1 b, h.2 ++ [(b : Int)])])
def kHere (n : Nat) (p : KW × KW) (h : L × L) : KW × KW := (List.range n).foldl (fun q i => kBell h q (i + 1)) p
def kTurn (n : Nat) (p : KW × KW) : KW × KW := p.2.foldl (kHere n) (p.1, [])
def kTo (n : Nat) : Nat → KW × KW
  | 0 => ([(firstL n, [])], [(firstL n, [])])
  | t + 1 => kTurn n (kTo n t)
def counts (n : Nat) (t : Nat) : List Int := (List.range (t + 1)).map fun (i : Nat) => ((kTo n i).1.length : Int)
def flatL (base : Int) (n : Nat) : L := (List.range n).map fun (i : Nat) => base + (i : Int)
/-! ### the finite check -/
def good1 (p : L × L) : Bool := isLift p.1 && comesL p.1 && okS 8 p.1 && decide (cntL p.1 = (p.2.length : Int)) && decide (small 8 p.1 = p.2) && decide (cntL p.1 ≤ 60) && decide (tot 8 p.1 ≤ 100000)
def goodN (n : Nat) : Bool := (kTo n 7).1.all good1
def goodW (n : Nat) : Bool := (List.range 8).all fun m => decide ((within n m : Int) = (counts n 7).getD m 0)
def goodF (n : Nat) : Bool := [-2, -1, 0].all fun b => isLift (flatL b n) && !comesL (flatL b n) && okL (flatL b n)
def goodZ (n : Nat) : Bool := isLift (firstL n) && comesL (firstL n) && okS 8 (firstL n) && decide (tot 8 (firstL n) ≤ 100000) && decide (cntL (firstL n) = 0) && decide (small 8 (firstL n) = [])

end Rg
set_option Elab.async false
set_option linter.all false
set_option maxRecDepth 100000
set_option maxHeartbeats 4000000
/-! rules that HandS lacks: sorted and min of a list of int tuples -/
namespace Rg
open PySem PySem.Spec PyProof.Rows L2
abbrev iT (s : L) : PyData := .tuple (s.map .int)
theorem vals_ref_eq : ∀ {bs : List Addr} {us : List Value}, Vals (bs.map V.ref) us → us = bs.map Value.ref
  | [], _, h => by
    cases h
    rfl
  | b :: bs, _, h => by
    cases h with
    | cons r t =>
      have e := vals_ref_eq t
      have e2 : _ = Value.ref b := r
      rw [e2, e]
      rfl
theorem refs_vals : ∀ bs : List Addr, Vals (bs.map V.ref) (bs.map Value.ref)
  | [] => .nil
  | _ :: r => .cons rfl (refs_vals r)
theorem int_reads {h : Heap} : ∀ {xs : L} {us : List Value}, Vals (xs.map V.int) us → ∃ as, ReadsAll h us (xs.map PyData.int) as
  | [], _, v => by
    cases v
    exact ⟨[], .nil⟩
  | x :: xs, _, v => by
    cases v with
    | cons r t =>
      obtain ⟨as, q⟩ := int_reads t
      obtain ⟨k, rfl⟩ := r
      exact ⟨[] ++ as, .cons (.int x k) q⟩
/-- a list of int tuples -/
abbrev BS := List (Addr × L)
def TupsAt (K : PySem.W.Frag) (H : Hp) (bs : BS) : Prop := ∀ b ∈ bs, SqT K H b.1 (b.2.map V.int)
section
variable {X : Cx} {pins : List (Addr × Obj)} {σ : L2.St} {H : Hp} {s : Shared}
theorem tup_reads (I : Inv X pins σ H s) {a : Addr} {x : L} (h : SqT X.K H a (x.map V.int)) : ∃ as, Reads s.heap (.ref a) (iT x) as := by
  obtain ⟨its, r, ⟨o, ho, hc, n, hd⟩, _⟩ := I.tuple h
  obtain ⟨as, q⟩ := int_reads (h := s.heap) r
  exact ⟨as, .tuple ho hc hd (by simpa using q)⟩
theorem each_tups (I : Inv X pins σ H s) : ∀ (bs : BS), TupsAt X.K H bs → PySem.W.EachIs (fun v b => ∃ as, Reads s.heap v (iT b.2) as) (bs.map fun b => Value.ref b.1) bs
  | [], _ => .nil
  | b :: r, h => .cons (tup_reads I (h b List.mem_cons_self)) (each_tups I r fun c hc => h c (List.mem_cons_of_mem _ hc))
theorem each_refs : ∀ (bs : BS), PySem.W.EachIs (fun v (b : Addr × L) => v = Value.ref b.1) (bs.map fun b => Value.ref b.1) bs
  | [] => .nil
  | _ :: r => .cons rfl (each_refs r)
theorem vals_each : ∀ {out : List Value} {bs : BS}, PySem.W.EachIs (fun v (b : Addr × L) => v = Value.ref b.1) out bs → Vals (bs.map fun b => V.ref b.1) out
  | _, _, .nil => .nil
  | _, _, .cons e t => .cons e (vals_each t)
theorem alike_iT (x y : L) : PySem.W.alike (iT x) (iT y) = true := by
  show PySem.W.alike (.tuple (x.map .int)) (.tuple (y.map .int)) = true
  simp only [PySem.W.alike]
  exact PySem.W.alike_ints x y
theorem depth_iT (x : L) : (iT x).depth ≤ 1 := by
  show PyData.depth (.tuple (x.map .int)) ≤ 1
  simp only [PyData.depth]
  rw [PySem.W.depth_ints]
  omega
theorem refs_of (bs : BS) : (bs.map fun b => V.ref b.1) = (bs.map (·.1)).map V.ref := by
  rw [List.map_map]
  rfl
theorem refs_of' (bs : BS) : (bs.map fun b => Value.ref b.1) = (bs.map (·.1)).map Value.ref := by
  rw [List.map_map]
  rfl
/-- sorted(xs), xs a list of int tuples: some arrangement -/
def rSortT (K : PySem.W.Frag) : List V → Hp → VK → Prop := fun xs H Q => ∃ (a : Addr) (bs : BS), xs = [.ref a] ∧ SqL K H a (bs.map fun b => V.ref b.1) ∧ TupsAt K H bs ∧ (∀ b ∈ bs, b.2 ≠ []) ∧
  ∀ p (ys : BS), H p = none → ys.Perm bs → Q (.ref p) (upd H p (.lst (ys.map fun b => V.ref b.1)))
theorem cr_sortT (hu : X.A.units + 100 < cLine) : CallR X (.builtin "sorted") (rSortT X.K) := by
  intro pins s σ H xs us Q I r h
  obtain ⟨a, bs, rfl, hs, ht, hn, q⟩ := h
  obtain ⟨u, rfl, rx⟩ := vals1 r
  cases (show u = Value.ref a from rx)
  obtain ⟨its, rv, pl, hz⟩ := I.list hs
  rw [refs_of] at rv
  have ei := vals_ref_eq rv
  rw [← refs_of'] at ei
  subst ei
  have hlen : bs.length ≤ sizeLine := by simpa using hz
  refine PySem.W.sorted_data (β := Addr × L) (R := fun v b => v = Value.ref b.1) (enc := fun b => iT b.2) (bs := bs) pl.isList (each_refs bs) (each_tups I bs ht)
    (PySem.W.AllAlike.of fun b b' => alike_iT b.2 b'.2) (.inl fun d hd => ?_) hlen (fun b _ => ?_) fun out ho eo => ?_
  · obtain ⟨b, hb, rfl⟩ := List.mem_map.mp hd
    cases e : b.2 with
    | nil => exact absurd e (hn b hb)
    | cons x t => exact ⟨.int x, t.map .int, rfl⟩
  · have := depth_iT b.2
    omega
  · have vo := vals_each eo
    obtain ⟨c, hc⟩ := sortedAll_at s.heap (bs.map fun b => Value.ref b.1) out.toArray
    have hf : H (s.heap.objs.size + 1) = none := I.hok.fresh (Nat.le_succ _)
    refine ⟨.ref (s.heap.objs.size + 1), _, I.laid (t' := s.toks) (o := .lst ((bs.mergeSort (PySem.W.dataLe false fun b => iT b.2)).map fun b => V.ref b.1)) (fun b o e => sortedAll_old e) (Nat.le_succ _) ?_, rfl, q _ _ hf (List.mergeSort_perm _ _)⟩
    exact ⟨by rw [List.length_map, (List.mergeSort_perm _ _).length_eq]; exact hlen, out, c, vo, hc⟩

/-! ### the order of int tuples -/
theorem lt_iT : ∀ x y : L, PySem.W.dataLt (iT x) (iT y) = ltL x y
  | [], [] => by
    show PySem.W.dataLt (.tuple []) (.tuple []) = false
    rw [PySem.W.dataLt_tuple]
    exact PyProof.Rows.lex_irrefl _
  | [], y :: ys => by
    show PySem.W.dataLt (.tuple []) (.tuple (.int y :: ys.map .int)) = true
    rw [PySem.W.dataLt_tuple]
    have h := PySem.W.dataLt_ints [] (y :: ys)
    have h : PyProof.Rows.lexLt PyProof.Rows.itemOrd (PySem.W.keyToksAll []) (PySem.W.keyToksAll ((y :: ys).map .int)) = decide (([] : List Int) < y :: ys) := h
    have e2 : decide (([] : List Int) < y :: ys) = true := by simp
    rw [e2] at h
    exact h
  | x :: xs, [] => by
    show PySem.W.dataLt (.tuple (.int x :: xs.map .int)) (.tuple []) = false
    rw [PySem.W.dataLt_tuple]
    have h := PySem.W.dataLt_ints (x :: xs) []
    have h : PyProof.Rows.lexLt PyProof.Rows.itemOrd (PySem.W.keyToksAll ((x :: xs).map .int)) (PySem.W.keyToksAll []) = decide (x :: xs < ([] : List Int)) := h
    have e2 : decide (x :: xs < ([] : List Int)) = false := by simp
    rw [e2] at h
    exact h
  | x :: xs, y :: ys => by
    have ih := lt_iT xs ys
    show PySem.W.dataLt (.tuple (.int x :: xs.map .int)) (.tuple (.int y :: ys.map .int)) = _
    rw [PySem.W.dataLt_tuple, PySem.W.dataLt_cons (by simp [PySem.W.alike]), PySem.W.dataLt_int]
    have ih' : PyProof.Rows.lexLt PyProof.Rows.itemOrd (PySem.W.keyToksAll (xs.map .int)) (PySem.W.keyToksAll (ys.map .int)) = ltL xs ys := by
      rw [← ih]
      exact (PySem.W.dataLt_tuple _ _).symm
    rw [ih']
    show _ = if x = y then ltL xs ys else decide (x < y)
    have e : PyData.eqv (.int x) (.int y) = decide (x = y) := by
      simp only [PyData.eqv]
      by_cases h : x = y <;> simp [h]
    rw [e]
    by_cases h : x = y <;> simp [h]
theorem min_iT (x : L) : ∀ (ys : List L) (a : L), ys.foldl (fun (d : PyData) y => if PySem.W.dataLt (iT y) d = true then iT y else d) (iT a) = iT (ys.foldl (fun a b => if ltL b a = true then b else a) a)
  | [], a => rfl
  | y :: ys, a => by
    rw [List.foldl_cons, List.foldl_cons, lt_iT]
    by_cases h : ltL y a = true
    · rw [if_pos h, if_pos h]
      exact min_iT x ys y
    · rw [if_neg h, if_neg h]
      exact min_iT x ys a
theorem minD_iT (x : L) (ys : List L) : PySem.W.minD (iT x) (ys.map iT) = iT (minL (x :: ys)) := by
  unfold PySem.W.minD
  rw [List.foldl_map]
  exact min_iT x ys x
theorem iT_inj {x y : L} (h : iT x = iT y) : x = y := by
  have h1 : x.map PyData.int = y.map PyData.int := PyData.tuple.inj h
  exact (List.map_inj_right (fun a b e => PyData.int.inj e)).mp h1
theorem depths_iT : ∀ xs : List L, PyData.depthAll (xs.map iT) ≤ 1
  | [] => by simp [PyData.depthAll]
  | x :: xs => by
    rw [List.map_cons, PyData.depthAll]
    have h1 := depth_iT x
    have h2 := depths_iT xs
    omega
/-- min(xs), xs a list of int tuples, not empty -/
def rMinT (K : PySem.W.Frag) : List V → Hp → VK → Prop := fun xs H Q => ∃ (a : Addr) (bs : BS), xs = [.ref a] ∧ SqL K H a (bs.map fun b => V.ref b.1) ∧ TupsAt K H bs ∧ bs ≠ [] ∧
  ∀ b ∈ bs, b.2 = minL (bs.map (·.2)) → Q (.ref b.1) H
theorem cr_minT (hc : X.calm = true) (hu : X.A.units + 100 < cLine) : CallR X (.builtin "min") (rMinT X.K) := by
  intro pins s σ H xs us Q I r h
  obtain ⟨a, bs, rfl, hs, ht, hn, q⟩ := h
  obtain ⟨u, rfl, rx⟩ := vals1 r
  cases (show u = Value.ref a from rx)
  obtain ⟨its, rv, pl, hz⟩ := I.list hs
  rw [refs_of] at rv
  have ei := vals_ref_eq rv
  rw [← refs_of'] at ei
  subst ei
  cases bs with
  | nil => exact absurd rfl hn
  | cons b0 bs =>
    obtain ⟨as, hr⟩ := PySem.W.each_readsAll (fun b : Addr × L => iT b.2) (each_tups I (b0 :: bs) ht)
    have e1 : (b0 :: bs).map (fun b : Addr × L => iT b.2) = iT b0.2 :: (bs.map (·.2)).map iT := by
      rw [List.map_cons, List.map_map]
      rfl
    rw [e1] at hr
    have hd : PyData.depthAll (iT b0.2 :: (bs.map (·.2)).map iT) ≤ 1 := depths_iT (b0.2 :: bs.map fun (b : Addr × L) => b.2)
    refine PySem.W.min_list_data (x := iT b0.2) (xs := (bs.map (·.2)).map iT) (I.ok.hd hc) pl.isList (by rw [List.toList_toArray]; exact hr) ⟨fun x hx y hy => ?_, fun x hx => ?_⟩ (by omega) fun i v h' tk cs hv hR hk => ?_
    · obtain ⟨x', rfl⟩ : ∃ x', x = iT x' := by
        rcases List.mem_cons.mp hx with e | e
        · exact ⟨_, e⟩
        · obtain ⟨x', _, e⟩ := List.mem_map.mp e
          exact ⟨x', e.symm⟩
      obtain ⟨y', rfl⟩ : ∃ y', y = iT y' := by
        rcases List.mem_cons.mp hy with e | e
        · exact ⟨_, e⟩
        · obtain ⟨y', _, e⟩ := List.mem_map.mp e
          exact ⟨y', e.symm⟩
      exact alike_iT x' y'
    · obtain ⟨x', rfl⟩ : ∃ x', x = iT x' := by
        rcases List.mem_cons.mp hx with e | e
        · exact ⟨_, e⟩
        · obtain ⟨x', _, e⟩ := List.mem_map.mp e
          exact ⟨x', e.symm⟩
      intro z
      cases z
    · have I2 : Inv X pins σ H { s with heap := h', toks := tk } := I.kept hk
      have hv' : ((b0 :: bs).map fun b => Value.ref b.1)[i]? = some v := by simpa using hv
      rw [List.getElem?_map] at hv'
      cases e : (b0 :: bs)[i]? with
      | none =>
        rw [e] at hv'
        cases hv'
      | some b =>
        rw [e] at hv'
        have ev : v = Value.ref b.1 := (Option.some.inj hv').symm
        subst ev
        have hb : b ∈ b0 :: bs := List.mem_of_getElem? e
        obtain ⟨as2, r2⟩ := tup_reads I2 (ht b hb)
        rw [minD_iT] at hR
        have e3 := PySem.W.alike_unique _ _ _ _ _ (alike_iT _ _) r2 hR
        exact ⟨.ref b.1, H, I2, rfl, q b hb (iT_inj e3)⟩
end
end Rg
set_option Elab.async false
set_option linter.all false
set_option maxRecDepth 100000
set_option maxHeartbeats 4000000
/-! the raw layer: expressions over the bare heap, whose run keeps every object (a generator's element) -/
namespace Rg
open PySem PySem.Spec PyProof.Rows L2
theorem keeps_trans {a b c : Shared} (x : Keeps a b) (y : Keeps b c) : Keeps a c := by
  obtain ⟨h1, t1, rfl, k1⟩ := x
  obtain ⟨h2, t2, rfl, k2⟩ := y
  exact ⟨h2, t2, rfl, fun b o e => k2 b o (k1 b o e)⟩
theorem keeps_refl (s : Shared) : Keeps s s := ⟨s.heap, s.toks, rfl, fun _ _ e => e⟩
theorem keeps_tok (s : Shared) (k : Nat) : Keeps s { s with toks := k } := ⟨s.heap, k, rfl, fun _ _ e => e⟩
theorem keeps_get {a b : Shared} (x : Keeps a b) : ∀ c o, a.heap.get? c = some o → b.heap.get? c = some o := by
  obtain ⟨h1, t1, rfl, k1⟩ := x
  exact k1
def IsI (n : Int) (v : Value) : Prop := ∃ t, v = .int n t
def PreOk (Pre : Shared → Prop) : Prop := ∀ s s', Pre s → Keeps s s' → Pre s'
section
variable {prog : Program} {w : World} {A : Around} {Pre : Shared → Prop} {env : Env}
def RE (prog : Program) (w : World) (A : Around) (Pre : Shared → Prop) (env : Env) (e : Expr) (F : Value → Prop) : Prop :=
  ∀ (E : Value → Shared → Prop) (s : Shared), Pre s → wpAny (model prog w) A (eval e env) (fun y s' => F y ∧ Keeps s s') E s
def RA (prog : Program) (w : World) (A : Around) (Pre : Shared → Prop) (env : Env) (es : List Expr) (F : List Value → Prop) : Prop :=
  ∀ (E : Value → Shared → Prop) (pos : Pos) (s : Shared), Pre s → wpAny (model prog w) A (spliced (backTo pos (starEach es env))) (fun y s' => F y ∧ Keeps s s') E s
/-- an operator by values -/
def RO (prog : Program) (w : World) (A : Around) (f : Value → Value → Sem Value) (Fa Fb F : Value → Prop) : Prop :=
  ∀ (E : Value → Shared → Prop) (s : Shared) (v u : Value), Fa v → Fb u → wpAny (model prog w) A (f v u) (fun y s' => F y ∧ Keeps s s') E s
theorem re_then {α β : Type} {t : Sem α} {F : α → Prop} {G : β → Prop} {E : Value → Shared → Prop} {s : Shared} {k : α → Sem β} (h : wpAny (model prog w) A t (fun y s' => F y ∧ Keeps s s') E s)
    (hk : ∀ y s', F y → Keeps s s' → wpAny (model prog w) A (k y) (fun z s'' => G z ∧ Keeps s' s'') E s') : wpAny (model prog w) A t (fun y s' => wpAny (model prog w) A (k y) (fun z s'' => G z ∧ Keeps s s'') E s') E s :=
  wpAny_mono h (fun y s' ⟨f, k1⟩ => wpAny_mono (hk y s' f k1) (fun z s'' ⟨g, k2⟩ => ⟨g, keeps_trans k1 k2⟩) fun _ _ e => e) fun _ _ e => e
theorem re_mono {e : Expr} {F G : Value → Prop} (h : RE prog w A Pre env e F) (hg : ∀ v, F v → G v) : RE prog w A Pre env e G := fun E s p => wpAny_mono (h E s p) (fun y s' ⟨f, k⟩ => ⟨hg y f, k⟩) fun _ _ e => e
theorem re_int {i : Int} {k : Nat} {pos : Pos} : RE prog w A Pre env (.Constant (.int i) k pos) (IsI i) := fun E s _ => wpAny_Constant_int ⟨⟨_, rfl⟩, keeps_tok s _⟩
theorem re_loc {x : Str} {pos : Pos} {F : Value → Prop} {v : Value} (hk : env.scope.kind = .function) (hl : env.kindOf x = some .local) (hm : ∀ s, Pre s → ∃ m, s.heap.Ns env.locals m ∧ m x = some v) (hF : F v) (hd : (x == ("__debug__" : Str)) = false := by decide) :
    RE prog w A Pre env (.Name x pos) F := fun E s p => by
  obtain ⟨m, hn, hv⟩ := hm s p
  exact wpAny_Name (wpAny_loadName_local hk hl hn hv ⟨hF, keeps_refl s⟩) hd
theorem re_free {x : Str} {pos : Pos} {F : Value → Prop} {v : Value} {c : Addr} (hk : env.scope.kind = .function) (hl : env.kindOf x = some .free) (hc : env.cells.lookup x = some c) (hm : ∀ s, Pre s → s.heap.IsCell c (some v)) (hF : F v) (hd : (x == ("__debug__" : Str)) = false := by decide)
    (hcd : (x == ("__classdict__" : Str)) = false := by decide) : RE prog w A Pre env (.Name x pos) F := fun E s p =>
  wpAny_Name (wpAny_loadName_free hk hl hc (hm s p) ⟨hF, keeps_refl s⟩ hcd) hd
theorem re_glob {x : Str} {pos : Pos} {F : Value → Prop} {v : Value} {mg : Str → Option Value} (hk : env.scope.kind = .function) (hl : env.kindOf x = some .globalImplicit) (hg : ∀ s, Pre s → s.heap.Ns env.globals mg) (hv : mg x = some v) (hF : F v) (hd : (x == ("__debug__" : Str)) = false := by decide) :
    RE prog w A Pre env (.Name x pos) F := fun E s p => Calls.Name_function_global hk hl (Calls.loadGlobal_global (hg s p) hv ⟨hF, keeps_refl s⟩) hd
theorem re_blt {x : Str} {pos : Pos} {F : Value → Prop} {v : Value} {mg mb : Str → Option Value} (hk : env.scope.kind = .function) (hl : env.kindOf x = some .globalImplicit) (hg : ∀ s, Pre s → s.heap.Ns env.globals mg) (hn : mg x = none) (hb : ∀ s, Pre s → s.heap.Ns env.builtins mb) (hv : mb x = some v) (hF : F v)
    (hd : (x == ("__debug__" : Str)) = false := by decide) : RE prog w A Pre env (.Name x pos) F := fun E s p => Calls.Name_function_global hk hl (Calls.loadGlobal_builtin (hg s p) hn (hb s p) hv ⟨hF, keeps_refl s⟩) hd
theorem re_bin {a b : Expr} {op : Operator} {pos : Pos} {Fa Fb F : Value → Prop} (hp : PreOk Pre) (ha : RE prog w A Pre env a Fa) (hb : RE prog w A Pre env b Fb) (ho : RO prog w A (binaryOp op) Fa Fb F) : RE prog w A Pre env (.BinOp a op b pos) F := fun E s p => by
  refine wpAny_BinOp ?_
  refine wpAny_mono (ha E s p) (fun v s1 ⟨fv, k1⟩ => wpAny_mono (hb E s1 (hp _ _ p k1)) (fun u s2 ⟨fu, k2⟩ => wpAny_mono (ho E s2 v u fv fu) (fun y s3 ⟨fy, k3⟩ => ⟨fy, keeps_trans k1 (keeps_trans k2 k3)⟩) fun _ _ e => e) fun _ _ e => e) fun _ _ e => e
theorem re_cmp {a b : Expr} {op : CmpOp} {pos : Pos} {Fa Fb F : Value → Prop} (hp : PreOk Pre) (ha : RE prog w A Pre env a Fa) (hb : RE prog w A Pre env b Fb) (ho : RO prog w A (compareOp op) Fa Fb F) (hm : behindInMarks op b = false) : RE prog w A Pre env (.Compare a [op] [b] pos) F := fun E s p => by
  refine wpAny_Compare1 ?_ hm
  refine wpAny_mono (ha E s p) (fun v s1 ⟨fv, k1⟩ => wpAny_mono (hb E s1 (hp _ _ p k1)) (fun u s2 ⟨fu, k2⟩ => wpAny_mono (ho E s2 v u fv fu) (fun y s3 ⟨fy, k3⟩ => ⟨fy, keeps_trans k1 (keeps_trans k2 k3)⟩) fun _ _ e => e) fun _ _ e => e) fun _ _ e => e
theorem ro_add {i j : Int} : RO prog w A (binaryOp .Add) (IsI i) (IsI j) (IsI (i + j)) := fun E s v u ⟨t, e⟩ ⟨t', e'⟩ => by
  subst e e'
  exact add_int ⟨⟨_, rfl⟩, keeps_tok s _⟩
theorem ro_sub {i j : Int} : RO prog w A (binaryOp .Sub) (IsI i) (IsI j) (IsI (i - j)) := fun E s v u ⟨t, e⟩ ⟨t', e'⟩ => by
  subst e e'
  exact sub_int ⟨⟨_, rfl⟩, keeps_tok s _⟩
theorem ro_mul {i j : Int} (h : -(2 ^ 64) < j ∧ j < 2 ^ 64) : RO prog w A (binaryOp .Mult) (IsI i) (IsI j) (IsI (i * j)) := fun E s v u ⟨t, e⟩ ⟨t', e'⟩ => by
  subst e e'
  exact mul_int ⟨⟨_, rfl⟩, keeps_tok s _⟩ (CMul.ok (.inr h))
theorem ro_fdiv {i j : Int} (h : 0 < j ∧ j < 1073741824) : RO prog w A (binaryOp .FloorDiv) (IsI i) (IsI j) (IsI (i / j)) := fun E s v u ⟨t, e⟩ ⟨t', e'⟩ => by
  subst e e'
  refine floordiv_int (by omega) ⟨⟨_, by rw [Int.fdiv_eq_ediv_of_nonneg _ (by omega)]⟩, keeps_tok s _⟩ (.inl (PyProof.noPylong_small (by omega)))
theorem ro_gt {i j : Int} : RO prog w A (compareOp .Gt) (IsI i) (IsI j) (fun y => y = .bool (decide (j < i))) := fun E s v u ⟨t, e⟩ ⟨t', e'⟩ => by
  subst e e'
  exact gt_int ⟨rfl, keeps_refl s⟩
theorem ro_le {i j : Int} : RO prog w A (compareOp .LtE) (IsI i) (IsI j) (fun y => y = .bool (decide (i ≤ j))) := fun E s v u ⟨t, e⟩ ⟨t', e'⟩ => by
  subst e e'
  exact le_int ⟨rfl, keeps_refl s⟩
theorem ro_eq {i j : Int} : RO prog w A (compareOp .Eq) (IsI i) (IsI j) (fun y => y = .bool (decide (i = j))) := fun E s v u ⟨t, e⟩ ⟨t', e'⟩ => by
  subst e e'
  refine eq_int ⟨?_, keeps_refl s⟩
  rw [Bool.beq_eq_decide_eq]
/-- the int tuple xs stands at t -/
def ITup (h : Heap) (t : Addr) (xs : L) : Prop := ∃ its : List Value, Vals (xs.map V.int) its ∧ IsTup h t its.toArray ∧ xs.length ≤ sizeLine
theorem ITup.keeps {h h' : Heap} {t : Addr} {xs : L} (x : ITup h t xs) (k : ∀ b o, h.get? b = some o → h'.get? b = some o) : ITup h' t xs := by
  obtain ⟨its, r, ⟨o, ho, rest⟩, z⟩ := x
  exact ⟨its, r, ⟨o, k _ _ ho, rest⟩, z⟩
theorem re_ix {a b : Expr} {pos : Pos} {t : Addr} {xs : L} {i : Int} (hp : PreOk Pre) (ha : RE prog w A Pre env a (· = .ref t)) (hb : RE prog w A Pre env b (IsI i)) (ht : ∀ s, Pre s → ITup s.heap t xs) (h0 : 0 ≤ i) (h1 : i < xs.length)
    (hs : PlainIx b) : RE prog w A Pre env (.Subscript a b pos) (IsI (xs.getD i.toNat 0)) := fun E s p => by
  refine Subscript_ ?_
  refine wpAny_mono (ha E s p) (fun v s1 ⟨fv, k1⟩ => wpAny_mono (hb E s1 (hp _ _ p k1)) (fun u s2 ⟨fu, k2⟩ => ?_) fun _ _ e => e) fun _ _ e => e
  subst fv
  obtain ⟨tk, rfl⟩ := fu
  obtain ⟨its, r, pl, z⟩ := ht s2 (hp _ _ (hp _ _ p k1) k2)
  have hlt : i.toNat < xs.length := by omega
  have hl := r.length
  rw [List.length_map] at hl
  have g : (xs.map V.int)[i.toNat]? = some (.int (xs.getD i.toNat 0)) := by
    rw [List.getElem?_map, List.getElem?_eq_getElem hlt]
    simp [List.getD_eq_getElem?_getD, hlt]
  obtain ⟨y, ey, ry⟩ := r.get g
  have hz : (sizeLine : Nat) < 2 ^ 63 := line63
  refine subscriptTail_builtinR (x := y) pl.typeIs slot_tuple_getitem.lookup (getItem_tuple (j := i.toNat) (Q := fun r s' => r = y ∧ (IsI (xs.getD i.toNat 0) r ∧ Keeps s s')) pl (by omega) (by omega) ?_ (by simpa using ey) ⟨rfl, ry, keeps_trans k1 k2⟩) (hs _ _)
  rw [List.size_toArray, ← hl]
  unfold seqIndex?
  have : ¬ i < 0 := by omega
  simp only [this, if_false]
  by_cases h2 : i < 0
  · omega
  · simp [h2, h1]
theorem ra_nil : RA prog w A Pre env [] (· = []) := fun E pos s _ => Calls.spliced_nil ⟨rfl, keeps_refl s⟩
theorem ra_cons {e : Expr} {es : List Expr} {Fe : Value → Prop} {Fs : List Value → Prop} (hp : PreOk Pre) (he : RE prog w A Pre env e Fe) (hr : RA prog w A Pre env es Fs) (hs : starEach (e :: es) env = (false, eval e env) :: starEach es env := by rfl) :
    RA prog w A Pre env (e :: es) (fun vs => ∃ v r, vs = v :: r ∧ Fe v ∧ Fs r) := fun E pos s p => by
  rw [hs]
  show wpAny _ _ (spliced ((false, eval e env) :: backTo pos (starEach es env))) _ _ s
  refine Calls.spliced_cons (wpAny_mono (he E s p) (fun v s1 ⟨fv, k1⟩ => wpAny_mono (hr E pos s1 (hp _ _ p k1)) (fun r s2 ⟨fr, k2⟩ => ⟨⟨v, r, rfl, fv, fr⟩, keeps_trans k1 k2⟩) fun _ _ e => e) fun _ _ e => e)
/-- a call of a def of the module -/
theorem re_call {x : Str} {p pos : Pos} {e : Expr} {es : List Expr} {f : Addr} {K : PySem.W.Frag} {h₀ : Heap} {Fs : List Value → Prop} {F : Value → Prop} (hp : PreOk Pre) (X : K.In h₀) (hk : PySem.W.keepIn K (.ref f) = true) (hX : ∀ s, Pre s → K.In s.heap)
    (hf : RE prog w A Pre env (.Name x p) (· = .ref f)) (ha : RA prog w A Pre env (e :: es) Fs) (hc : ∀ E s vs, Pre s → Fs vs → wpAny (model prog w) A (call (.ref f) vs) (fun y s' => F y ∧ Keeps s s') E s)
    (he : starEach (e :: es) env = (false, eval e env) :: starEach es env := by rfl) (hpl : (backTo pos (starEach es env)).any (·.1) = false := by rfl) :
    RE prog w A Pre env (.Call (.Name x p) (e :: es) [] pos) F := fun E s pr => by
  refine wpAny_Call_Name_kw (wpAny_mono (hf E s pr) (fun v s1 ⟨fv, k1⟩ => ?_) fun _ _ e => e)
  subst fv
  refine PySem.W.callWith_K (h₀ := h₀) X hk (wpAny_mono (ha E pos s1 (hp _ _ pr k1)) (fun vs s2 ⟨fs, k2⟩ => ⟨hX _ (hp _ _ (hp _ _ pr k1) k2), ?_⟩) fun _ _ e => e) he hpl
  exact wpAny_mono (hc E s2 vs (hp _ _ (hp _ _ pr k1) k2) fs) (fun y s3 ⟨fy, k3⟩ => ⟨fy, keeps_trans k1 (keeps_trans k2 k3)⟩) fun _ _ e => e
/-- len(x), x an int tuple -/
theorem re_len {p pos : Pos} {e : Expr} {t : Addr} {xs : L} (hp : PreOk Pre) (hf : RE prog w A Pre env (.Name "len" p) (· = .builtin "len")) (ha : RE prog w A Pre env e (· = .ref t)) (ht : ∀ s, Pre s → ITup s.heap t xs)
    (he : starEach [e] env = (false, eval e env) :: starEach [] env := by rfl) : RE prog w A Pre env (.Call (.Name "len" p) [e] [] pos) (IsI (xs.length : Int)) := fun E s pr => by
  refine wpAny_Call_Name_kw (wpAny_mono (hf E s pr) (fun v s1 ⟨fv, k1⟩ => ?_) fun _ _ e => e)
  subst fv
  refine PyProof.Rows.callWith_builtin1 (args_cons (wpAny_mono (ha E s1 (hp _ _ pr k1)) (fun u s2 ⟨fu, k2⟩ => args_nil ?_) fun _ _ e => e) he) he (by rfl)
  subst fu
  obtain ⟨its, r, pl, z⟩ := ht s2 (hp _ _ (hp _ _ pr k1) k2)
  have hl := r.length
  rw [List.length_map] at hl
  have hz : (sizeLine : Nat) < 2 ^ 63 := line63
  refine len_tuple pl (by simp only [List.size_toArray]; omega) ⟨⟨_, by simp only [List.size_toArray]; rw [hl]⟩, keeps_trans k1 (keeps_trans k2 (keeps_tok s2 _))⟩
end
end Rg
set_option Elab.async false
set_option linter.all false
set_option maxRecDepth 100000
set_option maxHeartbeats 4000000
/-! raw contracts: entry, is_in -/
namespace Rg
open PySem PySem.Spec PyProof.Rows L2
def topS (i : Nat) : Stmt := PySem.Challenge.pw_bellcopies_k14_whole_shortest_ring_bells.main.body.getD i (.Pass ⟨0, 0, 0, 0⟩)
abbrev sIsIn : Stmt := topS 10
abbrev sNeedSize : Stmt := topS 11
abbrev sFirst : Stmt := topS 12
abbrev sRung : Stmt := topS 16
abbrev sIsLift : Stmt := topS 17
abbrev sNeedLift : Stmt := topS 18
abbrev sEntry : Stmt := topS 19
abbrev sComes : Stmt := topS 20
abbrev sCount : Stmt := topS 21
abbrev sLCount : Stmt := topS 22
abbrev sBefore : Stmt := topS 23
abbrev sSmallest : Stmt := topS 24
abbrev sLBells : Stmt := topS 25
abbrev sWithin : Stmt := topS 26
abbrev sTaken : Stmt := topS 28
abbrev sPick : Stmt := topS 29
abbrev sAlike : Stmt := topS 30
abbrev sLFirst : Stmt := topS 33
abbrev sLifted : Stmt := topS 36
abbrev sLaw : Stmt := topS 39
section
variable {P : Program} {w : World} {K : PySem.W.Frag} {mg : Str → Option Value} {base : Heap}
/-- a state in a def's frame at L: all that stood in s stands, the frame's map is m -/
def InF (s : Shared) (L : Addr) (m : Str → Option Value) (t : Shared) : Prop := Keeps s t ∧ t.heap.Ns L m
theorem inF_ok {s : Shared} {L : Addr} {m : Str → Option Value} : PreOk (InF s L m) := fun a b ⟨k, n⟩ k2 => ⟨keeps_trans k k2, n.keeps (keeps_get k2)⟩
theorem rw_entry {f : Addr} {fd : FuncData} (M : Mod K mg base) (F : Fun K "entry" "entry" sEntry f fd) (ml : mg "len" = none) {A : Around} {E : Value → Shared → Prop} {s : Shared} {t : Addr} {xs : L} {p : Int} {tk : Tok}
    (hA : A.depth + 1 < recursionLimit) (hb : ∀ b o, base.get? b = some o → s.heap.get? b = some o) (ht : ITup s.heap t xs) (h0 : 0 < xs.length) (h1 : xs.length ≤ 1000) :
    wpAny (model P w) A (call (.ref f) [.ref t, .int p tk]) (fun y s' => IsI (entryL xs p) y ∧ Keeps s s') E s := by
  obtain ⟨oc, od, kV, doc, pm, an, cdv, ct, osl, rfl, lk, hcd⟩ := F.ex
  have X : K.In s.heap := M.kin.keeps hb
  refine wpAny_call (Att.call_fn (binds := [("some", .ref t), ("place", .int p tk)]) X (M.nolimit.keeps hb) lk hcd (by omega) (BindsTo.of_eq (by first | rfl | with_unfolding_all rfl)) (by first | rfl | decide | with_unfolding_all rfl) (fun s₁ IC => ?_) rfl rfl rfl)
  obtain ⟨h₁, tk₁, rfl⟩ := IC.toInCall.same
  have k : ∀ b o, s.heap.get? b = some o → h₁.get? b = some o := IC.toInCall.keep
  have hn := IC.toInCall.ns
  generalize hm1 : bindL (envOfC "entry" (defScope sEntry) s.heap.objs.size f cdv).kindOf [("some", .ref t), ("place", .int p tk)] (fun _ => none) = m1 at hn
  have e1 : m1 "some" = some (.ref t) := by rw [← hm1]; first | rfl | with_unfolding_all rfl | kernel_rfl
  have e2 : m1 "place" = some (.int p tk) := by rw [← hm1]; first | rfl | with_unfolding_all rfl | kernel_rfl
  have P1 : InF s s.heap.objs.size m1 { s with heap := h₁, toks := tk₁ } := ⟨⟨h₁, tk₁, rfl, k⟩, hn⟩
  obtain ⟨mb, hmb, hbb⟩ := M.blt
  have tup : ∀ {m : Str → Option Value} (u : Shared), InF s s.heap.objs.size m u → ITup u.heap t xs := fun u ⟨k, _⟩ => ht.keeps (keeps_get k)
  have glb : ∀ {m : Str → Option Value} (u : Shared), InF s s.heap.objs.size m u → u.heap.Ns mainGlobals mg := fun u ⟨k, _⟩ => M.glob.keeps fun b o e => keeps_get k _ _ (hb b o e)
  have blt : ∀ {m : Str → Option Value} (u : Shared), InF s s.heap.objs.size m u → u.heap.Ns builtinsNs mb := fun u ⟨k, _⟩ => hmb.keeps fun b o e => keeps_get k _ _ (hb b o e)
  have hlen : mb "len" = some (.builtin "len") := (hbb "len" (by decide)).trans PySem.boot_len
  have rlen : ∀ {A : Around} {m : Str → Option Value} {p1 p2 p3 : Pos}, m "some" = some (.ref t) → RE P w A (InF s s.heap.objs.size m) (envOfC "entry" (defScope sEntry) s.heap.objs.size f cdv) (.Call (.Name "len" p1) [.Name "some" p2] [] p3) (IsI (xs.length : Int)) := fun {A m p1 p2 p3} em =>
    re_len inF_ok (re_blt rfl rfl glb ml blt hlen rfl) (re_loc rfl rfl (fun u ⟨_, n⟩ => ⟨m, n, em⟩) rfl) tup
  refine wpAny_execs_cons (wpAny_Assign_Name (wpAny_mono (re_bin inF_ok (re_bin inF_ok (re_loc (F := IsI p) rfl rfl (fun u ⟨_, n⟩ => ⟨m1, n, e2⟩) ⟨tk, rfl⟩) re_int ro_sub) (rlen e1) (ro_fdiv ⟨by omega, by omega⟩) _ _ P1) (fun v s2 ⟨⟨tv, hv⟩, k2⟩ => ?_) fun _ _ e => e))
  subst hv
  have P2 := inF_ok _ _ P1 k2
  refine wpAny_storeName_local (by rfl) P2.2 (fun h3 n3 sb => ?_)
  have n3 : h3.Ns s.heap.objs.size _ := n3
  have sb : Heap.SameBut s.heap.objs.size s2.heap h3 := sb
  have P3 : InF s s.heap.objs.size (fun (y : Str) => if y = "turns" then some (.int ((p - 1) / (xs.length : Int)) tv) else m1 y) { s2 with heap := h3, toks := s2.toks + 1 } := by
    refine ⟨?_, n3⟩
    obtain ⟨h2, t2, e, kk⟩ := P2.1
    subst e
    exact ⟨h3, _, rfl, fun b o e => (sb.2 b (Nat.ne_of_lt (Heap.lt_size e))).trans (kk b o e)⟩
  generalize hm2 : (fun (y : Str) => if y = "turns" then some (.int ((p - 1) / (xs.length : Int)) tv) else m1 y) = m2 at P3
  have f1 : m2 "some" = some (.ref t) := by rw [← hm2]; show (if ("some" : Str) = "turns" then _ else m1 "some") = _; rw [if_neg (by decide), e1]
  have f2 : m2 "place" = some (.int p tk) := by rw [← hm2]; show (if ("place" : Str) = "turns" then _ else m1 "place") = _; rw [if_neg (by decide), e2]
  have f3 : m2 "turns" = some (.int ((p - 1) / (xs.length : Int)) tv) := by rw [← hm2]; show (if ("turns" : Str) = "turns" then _ else m1 "turns") = _; rw [if_pos rfl]
  have rturn : ∀ {A : Around} {p1 : Pos}, RE P w A (InF s s.heap.objs.size m2) (envOfC "entry" (defScope sEntry) s.heap.objs.size f cdv) (.Name "turns" p1) (IsI ((p - 1) / (xs.length : Int))) := fun {A p1} => re_loc rfl rfl (fun u ⟨_, n⟩ => ⟨m2, n, f3⟩) ⟨tv, rfl⟩
  have hq := Int.mul_ediv_add_emod (p - 1) (xs.length : Int)
  have hq0 := Int.emod_nonneg (p - 1) (show (xs.length : Int) ≠ 0 by omega)
  have hq1 := Int.emod_lt_of_pos (p - 1) (show (0 : Int) < (xs.length : Int) by omega)
  have hcm := Int.mul_comm (xs.length : Int) ((p - 1) / (xs.length : Int))
  refine wpAny_execs_cons (wpAny_Return_some (wpAny_mono (re_bin inF_ok (re_ix (xs := xs) inF_ok (re_loc rfl rfl (fun u ⟨_, n⟩ => ⟨m2, n, f1⟩) rfl) (re_bin inF_ok (re_bin inF_ok (re_loc (F := IsI p) rfl rfl (fun u ⟨_, n⟩ => ⟨m2, n, f2⟩) ⟨tk, rfl⟩) re_int ro_sub) (re_bin inF_ok rturn (rlen f1) (ro_mul ⟨by omega, by omega⟩)) ro_sub) tup (by omega) (by omega) (fun _ _ => rfl))
    (re_bin inF_ok rturn (rlen f1) (ro_mul ⟨by omega, by omega⟩)) ro_add _ _ P3) (fun v s4 ⟨fv, k4⟩ => ?_) fun _ _ e => e))
  exact ⟨fv, (inF_ok _ _ P3 k4).1⟩

theorem re_isi {A : Around} {Pre : Shared → Prop} {env : Env} {p pos : Pos} {e c : Expr} {i : Int} {n : String} {b : Bool} (hp : PreOk Pre) (hX : ∀ s, Pre s → K.In s.heap) (hf : RE P w A Pre env (.Name "isinstance" p) (· = .builtin "isinstance")) (he : RE P w A Pre env e (IsI i)) (hc : RE P w A Pre env c (· = .type n))
    (hb : kitB "int" n = some b) (hs : starEach [e, c] env = (false, eval e env) :: starEach [c] env := by rfl) (hs2 : starEach [c] env = (false, eval c env) :: starEach [] env := by rfl) (hpl : (backTo pos (starEach [c] env)).any (·.1) = false := by rfl) :
    RE P w A Pre env (.Call (.Name "isinstance" p) [e, c] [] pos) (· = .bool b) := fun E s pr => by
  refine wpAny_Call_Name_kw (wpAny_mono (hf E s pr) (fun v s1 ⟨fv, k1⟩ => ?_) fun _ _ e => e)
  subst fv
  refine PyProof.Rows.callWith_builtin1 (args_cons (wpAny_mono (he E s1 (hp _ _ pr k1)) (fun u s2 ⟨fu, k2⟩ => args_cons (wpAny_mono (hc E s2 (hp _ _ (hp _ _ pr k1) k2)) (fun y s3 ⟨fy, k3⟩ => args_nil ?_) fun _ _ e => e) hs2) fun _ _ e => e) hs) hs hpl
  subst fy
  obtain ⟨tk, rfl⟩ := fu
  have X := hX _ (hp _ _ (hp _ _ (hp _ _ pr k1) k2) k3)
  exact PySem.W.kia_one PySem.W.kitx_int X True.intro (kit_ty hb) (fun z => nomatch z) fun tk2 => ⟨rfl, keeps_trans k1 (keeps_trans k2 (keeps_trans k3 (keeps_tok s3 _)))⟩
theorem re_chain {A : Around} {Pre : Shared → Prop} {env : Env} {pos : Pos} {a b c : Expr} {i j k : Int} (hp : PreOk Pre) (ha : RE P w A Pre env a (IsI i)) (hb : RE P w A Pre env b (IsI j)) (hc : RE P w A Pre env c (IsI k))
    (hm : lastMarks [.LtE, .LtE] [b, c] = false := by with_unfolding_all rfl) : RE P w A Pre env (.Compare a [.LtE, .LtE] [b, c] pos) (· = .bool (inB j i k)) := fun E s pr => by
  refine Compare_chain (wpAny_mono (ha E s pr) (fun v s1 ⟨fv, k1⟩ => chain_link (wpAny_mono (hb E s1 (hp _ _ pr k1)) (fun u s2 ⟨fu, k2⟩ => wpAny_mono (ro_le (A := A) E s2 v u fv fu) (fun d s3 ⟨fd, k3⟩ => ?_) fun _ _ e => e) fun _ _ e => e)) fun _ _ e => e) hm
  subst fd
  refine wpAny_truthy_bool ?_
  have p3 := hp _ _ (hp _ _ (hp _ _ pr k1) k2) k3
  by_cases h : i ≤ j
  · rw [decide_eq_true h]
    refine ite_tt (chain_last (wpAny_mono (hc E s3 p3) (fun w' s4 ⟨fw, k4⟩ => wpAny_mono (ro_le (A := A) E s4 u w' fu fw) (fun d' s5 ⟨fd', k5⟩ => ⟨?_, keeps_trans k1 (keeps_trans k2 (keeps_trans k3 (keeps_trans k4 k5)))⟩) fun _ _ e => e) fun _ _ e => e))
    rw [fd']
    unfold inB
    rw [decide_eq_true h, Bool.true_and]
  · rw [decide_eq_false h]
    refine ite_ff ⟨?_, keeps_trans k1 (keeps_trans k2 k3)⟩
    unfold inB
    rw [decide_eq_false h, Bool.false_and]
theorem boot_isinstance : bootBuiltins "isinstance" = some (.builtin "isinstance") := by decide +kernel
theorem boot_int' : bootBuiltins "int" = some (.type "int") := by decide +kernel
theorem boot_bool' : bootBuiltins "bool" = some (.type "bool") := by decide +kernel
theorem rw_is_in {f : Addr} {fd : FuncData} (M : Mod K mg base) (F : Fun K "is_in" "is_in" sIsIn f fd) (mi : mg "isinstance" = none) (mt : mg "int" = none) (mb' : mg "bool" = none) {A : Around} {E : Value → Shared → Prop} {s : Shared} {i lo hi : Int} {t1 t2 t3 : Tok}
    (hA : A.depth + 1 < recursionLimit) (hb : ∀ b o, base.get? b = some o → s.heap.get? b = some o) :
    wpAny (model P w) A (call (.ref f) [.int i t1, .int lo t2, .int hi t3]) (fun y s' => y = .bool (inB i lo hi) ∧ Keeps s s') E s := by
  obtain ⟨oc, od, kV, doc, pm, an, cdv, ct, osl, rfl, lk, hcd⟩ := F.ex
  have X : K.In s.heap := M.kin.keeps hb
  refine wpAny_call (Att.call_fn (binds := [("value", .int i t1), ("least", .int lo t2), ("most", .int hi t3)]) X (M.nolimit.keeps hb) lk hcd (by omega) (BindsTo.of_eq (by first | rfl | with_unfolding_all rfl)) (by first | rfl | decide | with_unfolding_all rfl) (fun s₁ IC => ?_) rfl rfl rfl)
  obtain ⟨h₁, tk₁, rfl⟩ := IC.toInCall.same
  have k : ∀ b o, s.heap.get? b = some o → h₁.get? b = some o := IC.toInCall.keep
  have hn := IC.toInCall.ns
  generalize hm1 : bindL (envOfC "is_in" (defScope sIsIn) s.heap.objs.size f cdv).kindOf [("value", .int i t1), ("least", .int lo t2), ("most", .int hi t3)] (fun _ => none) = m1 at hn
  have e1 : m1 "value" = some (.int i t1) := by rw [← hm1]; first | rfl | with_unfolding_all rfl | kernel_rfl
  have e2 : m1 "least" = some (.int lo t2) := by rw [← hm1]; first | rfl | with_unfolding_all rfl | kernel_rfl
  have e3 : m1 "most" = some (.int hi t3) := by rw [← hm1]; first | rfl | with_unfolding_all rfl | kernel_rfl
  have P1 : InF s s.heap.objs.size m1 { s with heap := h₁, toks := tk₁ } := ⟨⟨h₁, tk₁, rfl, k⟩, hn⟩
  obtain ⟨mb, hmb, hbb⟩ := M.blt
  have glb : ∀ {m : Str → Option Value} (u : Shared), InF s s.heap.objs.size m u → u.heap.Ns mainGlobals mg := fun u ⟨k, _⟩ => M.glob.keeps fun b o e => keeps_get k _ _ (hb b o e)
  have blt : ∀ {m : Str → Option Value} (u : Shared), InF s s.heap.objs.size m u → u.heap.Ns builtinsNs mb := fun u ⟨k, _⟩ => hmb.keeps fun b o e => keeps_get k _ _ (hb b o e)
  have kin : ∀ {m : Str → Option Value} (u : Shared), InF s s.heap.objs.size m u → K.In u.heap := fun u ⟨k, _⟩ => M.kin.keeps fun b o e => keeps_get k _ _ (hb b o e)
  have rv : ∀ {A : Around} {x : Str} {p1 : Pos} {j : Int} {t : Tok}, (envOfC "is_in" (defScope sIsIn) s.heap.objs.size f cdv).kindOf x = some .local → m1 x = some (.int j t) → (x == ("__debug__" : Str)) = false → RE P w A (InF s s.heap.objs.size m1) (envOfC "is_in" (defScope sIsIn) s.heap.objs.size f cdv) (.Name x p1) (IsI j) := fun {A x p1 j t} hk em hd =>
    re_loc rfl hk (fun u ⟨_, n⟩ => ⟨m1, n, em⟩) ⟨t, rfl⟩ hd
  refine wpAny_execs_cons (wpAny_Return_some (BoolOp_and (wpAny_mono ((re_isi (b := true) inF_ok kin (re_blt rfl rfl glb mi blt ((hbb "isinstance" (by decide)).trans boot_isinstance) rfl) (rv rfl e1 (by decide)) (re_blt rfl rfl glb mt blt ((hbb "int" (by decide)).trans boot_int') rfl) (by decide +kernel)) _ _ P1) (fun v s2 ⟨hv, k2⟩ => ?_) fun _ _ e => e)))
  subst hv
  refine wpAny_truthy_bool ?_
  have P2 := inF_ok _ _ P1 k2
  refine ite_tt (BoolOp_and (UnaryOp_ (wpAny_mono ((re_isi (b := false) inF_ok kin (re_blt rfl rfl glb mi blt ((hbb "isinstance" (by decide)).trans boot_isinstance) rfl) (rv rfl e1 (by decide)) (re_blt rfl rfl glb mb' blt ((hbb "bool" (by decide)).trans boot_bool') rfl) (by decide +kernel)) _ _ P2) (fun v s3 ⟨hv, k3⟩ => not_of ?_) fun _ _ e => e)))
  subst hv
  refine wpAny_truthy_bool (wpAny_truthy_bool ?_)
  have P3 := inF_ok _ _ P2 k3
  refine ite_tt (BoolOp_one (wpAny_mono ((re_chain inF_ok (rv rfl e2 (by decide)) (rv rfl e1 (by decide)) (rv rfl e3 (by decide))) _ _ P3) (fun v s4 ⟨fv, k4⟩ => ?_) fun _ _ e => e))
  exact ⟨fv, (inF_ok _ _ P3 k4).1⟩
end
end Rg
set_option Elab.async false
set_option linter.all false
set_option maxRecDepth 100000
set_option maxHeartbeats 4000000
/-! any, all of a generator expression over a range, over enumerate of a tuple -/
namespace Rg
open PySem PySem.Spec PyProof.Rows L2 GxR
theorem walks_bound {prog : Program} {w : World} {A : Around} {I : Addr} {fp wr : List Addr} {n : Nat} {Pf : Nat → Value → Prop} {St : Nat → Heap → Prop} (W : Walks prog w A I fp wr n Pf St) : Walks prog w A I fp wr n (fun i v => i < n ∧ Pf i v) St where
  sub := W.sub
  frame := W.frame
  item := fun i s Q E hi st hQ => W.item i s Q E hi st fun v h' tk p st' k => hQ v h' tk ⟨hi, p⟩ st' k
  done := W.done
  self := W.self
/-- the generator g over n turns, the element's answer at turn i is pb i -/
def ReadyN (X : Cx) (pins : List (Addr × Obj)) (σ : L2.St) (H1 : Hp) (P : Addr) (n : Nat) (pb : Nat → Bool) (g : Addr) (s5 : Shared) : Prop :=
  ∃ (fp wr : List Addr) (G : Array GenState → Array GenState → Prop) (F : Nat → Value → Prop) (St : Nat → Shared → Prop),
    WalksS X.prog X.w X.A.in1 g fp wr G n F St ∧ St 0 s5 ∧ TruthOf X.prog X.w X.A.in1 F pb ∧
    ∀ s', Moved wr G s5 s' → ∃ H2, Tabbed P H1 H2 ∧ Inv X pins σ H2 s'
/-- what a generator expression's frame is -/
structure GEnv (X : Cx) (scope : Scope) (cenv : Env) : Prop where
  sc : cenv.scope = scope
  cl : cenv.cells = cloFrom X.env.cells scope.names []
  gl : cenv.globals = mainGlobals
  bl : cenv.builtins = builtinsNs
/-- the element at turn i: x holds lo + i -/
def EltR (X : Cx) (P : Addr) (scope : Scope) (x : Str) (elt : Expr) (s1 : Shared) (lo : Int) (n : Nat) (pb : Nat → Bool) : Prop :=
  ∀ (cenv : Env) (A' : Around) (E' : Value → Shared → Prop) (i : Nat) (tk : Tok) (t : Shared) (m₂ : Str → Option Value), GEnv X scope cenv → A'.depth ≤ X.A.depth + 1 → i < n → t.heap.Ns cenv.locals m₂ → m₂ x = some (.int (lo + i) tk) →
    (∀ b o, b ≠ P → s1.heap.get? b = some o → t.heap.get? b = some o) → wpAny (model X.prog X.w) A' (eval elt cenv) (fun y s₃ => y = .bool (pb i) ∧ Keeps t s₃) E' t
section
variable {X : Cx} {pins : List (Addr × Obj)} {σ : L2.St} {H : Hp} {s : Shared}
theorem gen_rng {c P : Addr} {elt iter : Expr} {x : Str} {px gpos : Pos} {scope : Scope} {te : L2.St → Hp → (Int → Int → Hp → Prop) → Prop} {k : Nat} {Q' : Value → Shared → Prop} {R : Nat → (Nat → Bool) → Hp → Prop}
    (hr : Room k X.A) (TB : TabB X.base X.mg c P) (hcode : X.env.code = .ref c) (S : GenS X.env scope x) (hi : PRg X iter te)
    (hs : ∀ v, genFold iter X.env v = pure v) (I : Inv X pins σ H s)
    (h : te σ H fun a b H1 => RgOk a b ∧ TabG H1 P ∧ ∃ pb : Nat → Bool, (∀ s1, Inv X pins σ H1 s1 → EltR X P scope x elt s1 a (b - a).toNat pb) ∧ R (b - a).toNat pb H1)
    (hQ : ∀ n pb H1 g s5, R n pb H1 → ReadyN X pins σ H1 P n pb g s5 → Q' (.ref g) s5) :
    wpAny (model X.prog X.w) X.A (eval (.GeneratorExp elt [⟨.Name x px, iter, [], 0⟩] scope gpos) X.env) Q' X.xe s := by
  refine wpAny_GeneratorExp_walksQD hr.hd S.co (closure_ok S.free) S.cell S.dot S.loc S.kind (by have := hr.dp; omega) ?_ hs
  refine thn (hi pins s σ H _ I h) fun xv s1 ⟨r, a, b, t, u, v, H1, ex, hrg, I1, ok, ⟨ps, hP, ht⟩, pb, hel, q1⟩ => ?_
  subst ex
  obtain ⟨b1, b2, b3, b4, b5⟩ := ok
  have hel1 := hel s1 I1
  generalize hn : (b - a).toNat = n at q1 hel1
  refine wpAny_pyIter_range hrg (small_one b1 b2 b3 b4) ?_
  generalize ho : ({ cls := .type "range_iterator", data := .fields #[rawInt a, rawInt (Builtin.Range.rangeSize a b 1), rawInt 1] } : Obj) = o
  have W : ∀ A' : Around, A'.handled = none → Walks X.prog X.w A' s1.heap.objs.size [s1.heap.objs.size] [s1.heap.objs.size] n (fun i v => i < n ∧ ∃ t, v = .int (a + i * 1) t) (fun i h => IsRangeIter h s1.heap.objs.size (a + (i : Nat) * 1) ((n : Int) - (i : Nat)) 1) :=
    fun A' hA => walks_bound (Walks.range hA s1.heap.objs.size a 1 n)
  have hst : IsRangeIter (s1.heap.push o) s1.heap.objs.size (a + ((0 : Nat) : Int) * 1) ((n : Int) - ((0 : Nat) : Int)) 1 := by
    have e1 : a + ((0 : Nat) : Int) * 1 = a := by simp
    have e2 : (n : Int) - ((0 : Nat) : Int) = Builtin.Range.rangeSize a b 1 := by rw [rangeSize_nat, hn]; simp
    rw [e1, e2, ← ho]
    exact Heap.get?_push_size _ rfl
  have hPs : s1.heap.get? P = some { cls := .none, data := .fields ps } := I1.hok P _ hP
  have hPlt : P < s1.heap.objs.size := Heap.lt_size hPs
  have hP2 : (s1.heap.push o).get? P = some { cls := .none, data := .fields ps } := Heap.get?_push_of_some _ hPs
  have cd : PySem.W.CodeHd (s1.heap.push o) c P := TB.code.keeps fun b u e => Heap.get?_push_of_some _ (I1.bk b u e)
  have lim2 : (s1.heap.push o).NoLimit := I1.nolimit.push o
  have cont : ∀ (code : Value) (h3 : Heap) (tk : Nat) (ps' : Array Value), Heap.ExtBut P (s1.heap.push o) h3 → (s1.heap.push o).objs.size ≤ h3.objs.size → h3.get? P = some { cls := .none, data := .fields ps' } → (∃ more, ps' = ps ++ more) → TriplesOk ps'.toList →
      wpAny (model X.prog X.w) X.A (builtinsFor X.env.globals X.env.builtins) (fun bi s₄ =>
        ∃ Ia fp wr n₀ Pf St₀ pz F, Value.ref s1.heap.objs.size = .ref Ia ∧ (∀ A' : Around, A'.handled = none → Walks X.prog X.w A' Ia fp wr n₀ Pf St₀) ∧ St₀ 0 s₄.heap ∧ (∀ b ∈ fp, b < s₄.heap.objs.size) ∧ s₄.heap.NoLimit ∧ cStatics ∉ wr ∧
          (∀ href : Heap, (∀ b o, s₄.heap.get? b = some o → href.get? b = some o) →
            QuietGenD X.prog X.w (genEnv scope (cloFrom X.env.cells scope.names []) s₄.heap.objs.size code bi X.env) x [] elt (List.range s₄.heap.objs.size) wr Pf pz F href (X.A.depth + 1) (X.A.units + 8)) ∧
          (∀ a h₅ tk gs, gs.bare = true → s₄.heap.objs.size < a → h₅.objs.size = a + 1 → (∀ b o, s₄.heap.get? b = some o → h₅.get? b = some o) →
            WalksS X.prog X.w X.A.in4 a (a :: s₄.heap.objs.size :: List.range s₄.heap.objs.size) (s₄.heap.objs.size :: wr) (GenOnlyQ s₄.gens.size) (passing pz n₀ 0).length
              (fun j y => ∃ i, (passing pz n₀ 0)[j]? = some i ∧ F i y) (GenAt X.prog X.w X.A.in4 a s₄.gens.size s₄.heap.objs.size (List.range s₄.heap.objs.size) wr pz n₀ F) →
            GenAt X.prog X.w X.A.in4 a s₄.gens.size s₄.heap.objs.size (List.range s₄.heap.objs.size) wr pz n₀ F 0 { s₄ with gens := s₄.gens.push gs, toks := tk, heap := h₅ } →
            Q' (.ref a) { s₄ with gens := s₄.gens.push gs, toks := tk, heap := h₅ })) X.xe { s1 with heap := h3, toks := tk } := by
    intro code h3 tk ps' hx hsz hP3 hmore ht3
    obtain ⟨bm, ob, e1, e2, e3, e4, e5, e6, e7, e8⟩ := TB.bm
    have hcP : cStatics ≠ P := fun e => by
      obtain ⟨_, hns, _⟩ := I1.nolimit
      obtain ⟨o', es, ep, ho, hd, _⟩ := hns
      rw [e, hPs] at ho
      cases ho
      cases hd
    have hcl : cStatics < s1.heap.objs.size := let ⟨_, hns, _⟩ := I1.nolimit; hns.lt
    have sz2 : (s1.heap.push o).objs.size = s1.heap.objs.size + 1 := Heap.size_push ..
    have keep3 : ∀ b u, b ≠ P → s1.heap.get? b = some u → h3.get? b = some u := fun b u hb e => hx b u hb (Heap.get?_push_of_some _ e)
    refine wpAny_builtinsFor (m := X.mg) (by rw [I1.ok.glob]; exact ((I1.mod.glob.keeps I1.bk).push o).extBut hx TB.gP) e1 e2 (keep3 _ _ e4 (I1.bk _ _ e5)) e6 e7 e8 ?_
    refine ⟨s1.heap.objs.size, [s1.heap.objs.size], [s1.heap.objs.size], n, _, _, (fun _ => true), (fun i y => i < n ∧ y = .bool (pb i)), rfl, W, ?_, ?_, lim2.extBut hx hcP, ?_, ?_, ?_⟩
    · refine (W X.A hr.hd).frame _ _ _ hst fun b hb u e => hx b u (fun z => ?_) e
      rcases List.mem_cons.mp hb with z2 | z2
      · exact Nat.ne_of_lt hPlt (z.symm.trans z2)
      · cases z2
    · intro b hb
      rcases List.mem_cons.mp hb with z | z
      · rw [z]
        show s1.heap.objs.size < h3.objs.size
        omega
      · cases z
    · intro z
      rcases List.mem_cons.mp z with z | z
      · exact Nat.ne_of_lt hcl z
      · cases z
    · intro href hhref
      refine ⟨fun A' E' i v s₂ m₂ hA hD hU hPv hn hm hk => ?_, fun A' E' i v s₂ m₂ hA hD hU hPv hp hn hm hk => ?_⟩
      · simp only [List.forIn_nil]
        exact wpAny_pure ⟨rfl, Rg.keeps_refl _⟩
      · obtain ⟨hin, tk', rfl⟩ := hPv
        rw [Int.mul_one] at hm
        refine wpAny_mono (hel1 _ A' E' i tk' s₂ m₂ ⟨rfl, rfl, I1.ok.glob, rfl⟩ hD hin hn hm fun b u hb e => ?_) (fun y s3 r => ⟨⟨hin, r.1⟩, r.2⟩) fun _ _ e => e
        have hlt := Heap.lt_size e
        have k3 := keep3 b u hb e
        refine hk b (List.mem_range.mpr (Heap.lt_size k3)) (fun z => ?_) u (hhref b u k3)
        rcases List.mem_cons.mp z with z | z
        · rw [z] at hlt
          exact Nat.lt_irrefl _ hlt
        · cases z
    · intro g h5 tk5 gs hgb hag hsz5 hk5 W5 hat
      simp only [GxR.passing_true, List.length_range] at W5
      refine hQ n pb H1 g _ q1 ⟨_, _, _, _, _, W5.in4_1, hat, ?_, fun s' hm => ?_⟩
      · intro j y sj Qj Ej hy hQj
        obtain ⟨i, hij, hin, rfl⟩ := hy
        obtain ⟨hj, ej⟩ := List.getElem?_eq_some_iff.mp hij
        rw [List.getElem_range] at ej
        subst ej
        exact wpAny_truthy_bool hQj
      · obtain ⟨more, em⟩ := hmore
        have nwr : ∀ b u, s1.heap.get? b = some u → b ∉ h3.objs.size :: [s1.heap.objs.size] := fun b u e hb => by
          have hl := Heap.lt_size e
          rcases List.mem_cons.mp hb with z | z
          · rw [z] at hl
            have h9 : (h3.objs.size : Nat) < s1.heap.objs.size := hl
            omega
          · rcases List.mem_cons.mp z with z | z
            · rw [z] at hl
              exact Nat.lt_irrefl _ hl
            · cases z
        have J := inv_tab (more := more) (h' := s'.heap) (g' := s'.gens) (d' := s'.drawn) (t' := s'.toks) I1 hP (fun b u hb e => hm.heap b u (nwr b u e) (hk5 b u (keep3 b u hb e)))
          (by rw [← em]; exact hm.heap P _ (nwr P _ hPs) (hk5 P _ hP3)) (AllBare.movedS (I1.bare.push hgb) hm)
        rw [sh_eta s1 s' hm.os] at J
        refine ⟨upd H1 P (.tbl (ps ++ more)), ⟨⟨ps ++ more, upd_same, by rw [← em]; exact ht3⟩, fun b hb => upd_ne hb⟩, J⟩
  refine ⟨lim2, ?_⟩
  cases hf : codeAmong gpos ps.toList with
  | none =>
    refine wpAny_genexprCodeX hcode (cd.code hP2 ht) (cd.tab hP2) hf fun c' h' tk hx hge hlt hco' _ htab' _ => ?_
    obtain ⟨o1, vs, f1, tf, fl, tg, inF, tx, tt, op, _, _, _, _, _, _, _, _, _, htr, _⟩ := hco'
    exact cont _ h' tk _ hx (Nat.le_trans hge (Nat.le_of_lt hlt)) htab'.2 ⟨_, rfl⟩ htr
  | some cv =>
    refine wpAny_genexprCode_hit hcode (cd.code hP2 ht) hf ?_
    exact cont cv (s1.heap.push o) s1.toks ps (Heap.ExtBut.refl _ _) (Nat.le_refl _) hP2 ⟨#[], by simp⟩ ht

/-- any(elt for x in range(..)) -/
def tAnyR (X : Cx) (P : Addr) (scope : Scope) (x : Str) (elt : Expr) (te : L2.St → Hp → (Int → Int → Hp → Prop) → Prop) : TE := fun σ H Q => te σ H fun a b H1 => RgOk a b ∧ TabG H1 P ∧ ∃ pb : Nat → Bool, (∀ pins s1, Inv X pins σ H1 s1 → EltR X P scope x elt s1 a (b - a).toNat pb) ∧
  ∀ H2, Tabbed P H1 H2 → Q (.bl ((List.range (b - a).toNat).any pb)) H2
theorem pe_anyR {c P : Addr} {elt iter : Expr} {x : Str} {px p pos gpos : Pos} {scope : Scope} {te : L2.St → Hp → (Int → Int → Hp → Prop) → Prop} {k : Nat}
    (hr : Room k X.A) (hg : Gl X "any") (hm : X.mg "any" = none) (TB : TabB X.base X.mg c P) (hcode : X.env.code = .ref c) (S : GenS X.env scope x) (hi : PRg X iter te)
    (hs : ∀ v, genFold iter X.env v = pure v)
    (hmono : ∀ σ H (Q Q' : Int → Int → Hp → Prop), (∀ a b H1, Q a b H1 → Q' a b H1) → te σ H Q → te σ H Q')
    (he : starEach [.GeneratorExp elt [⟨.Name x px, iter, [], 0⟩] scope gpos] X.env = (false, eval (.GeneratorExp elt [⟨.Name x px, iter, [], 0⟩] scope gpos) X.env) :: starEach [] X.env := by rfl) :
    PE X (.Call (.Name "any" p) [.GeneratorExp elt [⟨.Name x px, iter, [], 0⟩] scope gpos] [] pos) (tAnyR X P scope x elt te) := by
  refine ⟨fun pins s σ H Q I h => ?_⟩
  refine wpAny_Call_Name_kw (ld_blt I hg hm boot_any ?_)
  refine PyProof.Rows.callWith_builtin1 ?_ he (by rfl)
  rw [he]
  show wpAny _ _ (spliced ((false, eval (.GeneratorExp elt [⟨.Name x px, iter, [], 0⟩] scope gpos) X.env) :: backTo pos (starEach [] X.env))) _ _ s
  refine Calls.spliced_cons (gen_rng (R := fun n pb H1 => ∀ H2, Tabbed P H1 H2 → Q (.bl ((List.range n).any pb)) H2) hr TB hcode S hi hs I (hmono _ _ _ _ (fun a b H1 ⟨q1, q2, pb, q3, q4⟩ => ⟨q1, q2, pb, q3 pins, q4⟩) h) fun n pb H1 g s5 hR hG => ?_)
  obtain ⟨fp, wr, G, F, St, W, hst, htr, hI⟩ := hG
  refine Calls.spliced_nil ?_
  refine call_any_walkS (W.self 0 _ _ _ hst ⟨g, fp, wr, G, _, F, St, _, rfl, W, hst, htr, fun s' hmv => ?_⟩)
  obtain ⟨H2, hT, J⟩ := hI s' hmv
  exact ⟨.bl _, H2, J, rfl, hR H2 hT⟩
end
end Rg
set_option Elab.async false
set_option linter.all false
set_option maxRecDepth 100000
set_option maxHeartbeats 4000000
namespace Rg
open PySem PySem.Spec PyProof.Rows L2 GxR
/-! ### enumerate(t), t a tuple -/
set_option maxHeartbeats 1000000 in
theorem meets_enumerate_newT (t : Addr) (items : Array Value) :
    Meets (Builtin.«enumerate.__new__» ⟨[.type "enumerate", .ref t], []⟩) (fun _ R s => s.heap.IsTuple t items ∧
      R (.ok (.ret (.ref (s.heap.push { cls := .type "tuple_iterator", data := .fields #[.ref t, .int 0 0] }).objs.size))) { s with heap := (s.heap.push { cls := .type "tuple_iterator", data := .fields #[.ref t, .int 0 0] }).push { cls := .type "enumerate", data := .fields #[.none, .bool false, .ref s.heap.objs.size, rawInt 0, .none, .none] } }) :=
  .of_wp fun prog w A R s h => by
    obtain ⟨hp, g, d, tk, os⟩ := s; obtain ⟨h1, h⟩ := h
    have hsub := sub_enumerate
    have q1 : ∀ {A' : Around} {E : Value → Shared → Prop} {Q : Value → Shared → Prop}, Q (.ref hp.objs.size) ⟨hp.push { cls := .type "tuple_iterator", data := .fields #[.ref t, .int 0 0] }, g, d, tk, os⟩ → wpAny (model prog w) A' (pyIter (.ref t)) Q E ⟨hp, g, d, tk, os⟩ :=
      fun q => (begins_tuple t items).iter prog w _ _ ⟨hp, g, d, tk, os⟩ _ h1 q
    wp_walk using q1
    refine wpAny_stack_any fun st => wpAny_pure ?_
    split
    · rename_i c _ _ _ _ _
      cases (c == Value.type "enumerate")
      · wp_walk using q1
        exact ⟨_, rfl, h⟩
      · wp_walk using q1
        exact ⟨_, rfl, h⟩
    · wp_walk using q1
      exact ⟨_, rfl, h⟩
theorem call_enumerate_tuple {prog : Program} {w : World} {A : Around} {E : Value → Shared → Prop} {s : Shared} {t : Addr} {items : Array Value} {Q : Value → Shared → Prop} (h1 : s.heap.IsTuple t items)
    (h : ∀ h', IsEnum h' (s.heap.objs.size + 1) s.heap.objs.size 0 .none → h'.IsTupleIter s.heap.objs.size t 0 → h'.objs.size = s.heap.objs.size + 2 →
      (∀ b o, s.heap.get? b = some o → h'.get? b = some o) → Q (.ref (s.heap.objs.size + 1)) { s with heap := h' }) :
    wpAny (model prog w) A (call (.type "enumerate") [.ref t]) Q E s := by
  refine callType_new F.called_enumerate (by decide) (F.typeCall_enumerate_1 _) (F.newCall_enumerate_1 _) (fun obj => F.args_object_init_2 obj _) F.entry_enumerate_new
    (meets_enumerate_newT t items) ⟨h1, ?_⟩
  have hz : (s.heap.push { cls := .type "tuple_iterator", data := .fields #[.ref t, .int 0 0] }).objs.size = s.heap.objs.size + 1 := Heap.size_push ..
  show _ ∧ _
  rw [hz]
  have he : IsEnum ((s.heap.push { cls := .type "tuple_iterator", data := .fields #[.ref t, .int 0 0] }).push
      { cls := .type "enumerate", data := .fields #[.none, .bool false, .ref s.heap.objs.size, rawInt 0, .none, .none] }) (s.heap.objs.size + 1) s.heap.objs.size 0 .none := by
    have := Heap.get?_push_size (s.heap.push { cls := .type "tuple_iterator", data := .fields #[.ref t, .int 0 0] })
      (o := { cls := .type "enumerate", data := .fields #[.none, .bool false, .ref s.heap.objs.size, rawInt 0, .none, .none] }) rfl
    rw [hz] at this; exact this
  refine ⟨⟨_, he, rfl⟩, h _ he ⟨_, Heap.get?_push_of_some _ (Heap.get?_push_size _ rfl), rfl, rfl⟩ (by rw [Heap.size_push, hz]) fun b o x => Heap.get?_push_of_some _ (Heap.get?_push_of_some _ x)⟩
/-- the element at turn i: xa holds i, xb the item -/
def EltE (X : Cx) (P : Addr) (scope : Scope) (xa xb : Str) (elt : Expr) (s1 : Shared) (xs : L) (pb : Nat → Bool) : Prop :=
  ∀ (cenv : Env) (A' : Around) (E' : Value → Shared → Prop) (i : Nat) (tk tk' : Tok) (t : Shared) (m₂ : Str → Option Value), GEnv X scope cenv → A'.depth ≤ X.A.depth + 1 → i < xs.length → t.heap.Ns cenv.locals m₂ → m₂ xa = some (.int (i : Int) tk) → m₂ xb = some (.int (xs.getD i 0) tk') →
    (∀ b o, b ≠ P → s1.heap.get? b = some o → t.heap.get? b = some o) → wpAny (model X.prog X.w) A' (eval elt cenv) (fun y s₃ => y = .bool (pb i) ∧ Keeps t s₃) E' t
structure GenS2 (env : Env) (scope : Scope) (xa xb : Str) : Prop where
  kind : scope.kind = .function
  co : scope.isCoroutine = false
  cell : ∀ y ∈ scope.names, y.2 ≠ .cell
  dot : scope.names.lookup (".0" : Str) = some NameKind.local
  loca : scope.names.lookup xa = some .local
  locb : scope.names.lookup xb = some .local
  ne : xa ≠ xb
  free : ∀ y ∈ scope.names, y.2 = .free → ∃ c, env.cells.lookup y.1 = some c
section
variable {X : Cx} {pins : List (Addr × Obj)} {σ : L2.St} {H : Hp} {s : Shared}
theorem gen_enum {c P : Addr} {elt ex : Expr} {xa xb : Str} {pa pb' pt pe pc gpos : Pos} {kt : Nat} {scope : Scope} {te : TE} {k : Nat} {Q' : Value → Shared → Prop} {R : Nat → (Nat → Bool) → Hp → Prop}
    (hr : Room k X.A) (TB : TabB X.base X.mg c P) (hcode : X.env.code = .ref c) (S : GenS2 X.env scope xa xb) (hge : Gl X "enumerate") (hme : X.mg "enumerate" = none) (hi : PE X ex te)
    (hs : ∀ v, genFold (.Call (.Name "enumerate" pe) [ex] [] pc) X.env v = pure v) (I : Inv X pins σ H s)
    (h : te σ H fun y H1 => ∃ (tp : Addr) (xs : L), y = .ref tp ∧ SqT X.K H1 tp (xs.map V.int) ∧ TabG H1 P ∧ ∃ pb : Nat → Bool, (∀ s1, Inv X pins σ H1 s1 → EltE X P scope xa xb elt s1 xs pb) ∧ R xs.length pb H1)
    (na : starEach [ex] X.env = (false, eval ex X.env) :: starEach [] X.env)
    (hQ : ∀ n pb H1 g s5, R n pb H1 → ReadyN X pins σ H1 P n pb g s5 → Q' (.ref g) s5) :
    wpAny (model X.prog X.w) X.A (eval (.GeneratorExp elt [⟨.Tuple [.Name xa pa, .Name xb pb'] kt pt, .Call (.Name "enumerate" pe) [ex] [] pc, [], 0⟩] scope gpos) X.env) Q' X.xe s := by
  refine wpAny_GeneratorExp_walksQTD hr.hd S.co (closure_ok S.free) S.cell S.dot S.loca S.locb S.ne S.kind (by have := hr.dp; omega) ?_ hs
  refine Call_ (ld_blt I hge hme boot_enumerate (PyProof.Rows.callWith_type1 (args_cons (thn (hi.run pins s σ H _ I h) fun xv s1 ⟨y, H1, I1, ry, tp, xs, ey, hq, ⟨ps, hP, ht⟩, pb, hel, q1⟩ => args_nil ?_) na) na))
  subst ey
  cases ry
  have hel1 := hel s1 I1
  obtain ⟨its, rv, pl, hz⟩ := I1.tuple hq
  have hl := rv.length
  rw [List.length_map] at hl
  have hT : s1.heap.IsTuple tp its.toArray := pl
  have htl : tp < s1.heap.objs.size := pl.lt
  refine call_enumerate_tuple hT fun h2 hen hit hsz2 k2 => ?_
  refine wpAny_pyIter_enum hen ?_
  generalize hn : xs.length = n at q1 hel1
  have hsz : its.toArray.size = n := by rw [List.size_toArray, ← hl, hn]
  have W : ∀ A' : Around, A'.handled = none → WalksU X.prog X.w A' (s1.heap.objs.size + 1) ((s1.heap.objs.size + 1) :: [s1.heap.objs.size, tp]) [s1.heap.objs.size + 1, s1.heap.objs.size] n (fun i vals => i < n ∧ ∃ t x, its.toArray[i]? = some x ∧ vals = #[.int i t, x])
      (fun i h => (∃ old, IsEnum h (s1.heap.objs.size + 1) s1.heap.objs.size i old) ∧ (h.IsTupleIter s1.heap.objs.size tp i ∧ h.IsTuple tp its.toArray))
      (fun i T h => (∃ x, IsEnumOut h (s1.heap.objs.size + 1) s1.heap.objs.size ((i : Int) + 1) x T) ∧ (h.IsTupleIter s1.heap.objs.size tp (i + 1) ∧ h.IsTuple tp its.toArray) ∧ T ≠ s1.heap.objs.size + 1 ∧ T ≠ s1.heap.objs.size) := fun A' hA => by
    rw [← hsz]
    exact ((WalksT.enumerateD (Draws.tuple (A := A'.in1) hA s1.heap.objs.size tp (Nat.ne_of_lt htl) its.toArray) (s1.heap.objs.size + 1) (Nat.succ_ne_self _) (fun z => by
      rcases List.mem_cons.mp z with z | z
      · exact Nat.succ_ne_self _ z
      · have z2 := List.mem_singleton.mp z
        rw [← z2] at htl
        exact absurd htl (Nat.not_lt.mpr (Nat.le_succ _))) List.mem_cons_self).toU).bound
  have hst : (∃ old, IsEnum h2 (s1.heap.objs.size + 1) s1.heap.objs.size ((0 : Nat) : Int) old) ∧ (h2.IsTupleIter s1.heap.objs.size tp 0 ∧ h2.IsTuple tp its.toArray) := ⟨⟨_, hen⟩, hit, hT.at fun o e => k2 _ o e⟩
  have hPs : s1.heap.get? P = some { cls := .none, data := .fields ps } := I1.hok P _ hP
  have hPlt : P < s1.heap.objs.size := Heap.lt_size hPs
  have hP2 : h2.get? P = some { cls := .none, data := .fields ps } := k2 _ _ hPs
  have cd : PySem.W.CodeHd h2 c P := TB.code.keeps fun b u e => k2 _ _ (I1.bk b u e)
  have lim2 : h2.NoLimit := I1.nolimit.keeps k2
  have cont : ∀ (code : Value) (h3 : Heap) (tk : Nat) (ps' : Array Value), Heap.ExtBut P h2 h3 → h2.objs.size ≤ h3.objs.size → h3.get? P = some { cls := .none, data := .fields ps' } → (∃ more, ps' = ps ++ more) → TriplesOk ps'.toList →
      wpAny (model X.prog X.w) X.A (builtinsFor X.env.globals X.env.builtins) (fun bi s₄ =>
        ∃ Ia fp wr n₀ Pf St₀ Mid pz F, Value.ref (s1.heap.objs.size + 1) = .ref Ia ∧ (∀ A' : Around, A'.handled = none → WalksU X.prog X.w A' Ia fp wr n₀ Pf St₀ Mid) ∧ (∀ i vals, Pf i vals → ∃ va vb, vals = #[va, vb]) ∧ St₀ 0 s₄.heap ∧ (∀ b ∈ fp, b < s₄.heap.objs.size) ∧ s₄.heap.NoLimit ∧ cStatics ∉ wr ∧
          (∀ href : Heap, (∀ b o, s₄.heap.get? b = some o → href.get? b = some o) →
            QuietGenTD X.prog X.w (genEnv scope (cloFrom X.env.cells scope.names []) s₄.heap.objs.size code bi X.env) xa xb [] elt (List.range s₄.heap.objs.size) wr Pf pz F href (X.A.depth + 1) (X.A.units + 8)) ∧
          (∀ a h₅ tk gs, gs.bare = true → s₄.heap.objs.size < a → h₅.objs.size = a + 1 → (∀ b o, s₄.heap.get? b = some o → h₅.get? b = some o) →
            WalksS X.prog X.w X.A.in4 a (a :: s₄.heap.objs.size :: List.range s₄.heap.objs.size) (s₄.heap.objs.size :: wr) (GenOnlyQ s₄.gens.size) (passing pz n₀ 0).length
              (fun j y => ∃ i, (passing pz n₀ 0)[j]? = some i ∧ F i y) (GenAt X.prog X.w X.A.in4 a s₄.gens.size s₄.heap.objs.size (List.range s₄.heap.objs.size) wr pz n₀ F) →
            GenAt X.prog X.w X.A.in4 a s₄.gens.size s₄.heap.objs.size (List.range s₄.heap.objs.size) wr pz n₀ F 0 { s₄ with gens := s₄.gens.push gs, toks := tk, heap := h₅ } →
            Q' (.ref a) { s₄ with gens := s₄.gens.push gs, toks := tk, heap := h₅ })) X.xe { s1 with heap := h3, toks := tk } := by
    intro code h3 tk ps' hx hsz hP3 hmore ht3
    obtain ⟨bm, ob, e1, e2, e3, e4, e5, e6, e7, e8⟩ := TB.bm
    have hcP : cStatics ≠ P := fun e => by
      obtain ⟨_, hns, _⟩ := I1.nolimit
      obtain ⟨o', es, ep, ho, hd, _⟩ := hns
      rw [e, hPs] at ho
      cases ho
      cases hd
    have hcl : cStatics < s1.heap.objs.size := let ⟨_, hns, _⟩ := I1.nolimit; hns.lt
    have keep3 : ∀ b u, b ≠ P → s1.heap.get? b = some u → h3.get? b = some u := fun b u hb e => hx b u hb (k2 _ _ e)
    refine wpAny_builtinsFor (m := X.mg) (by rw [I1.ok.glob]; exact ((I1.mod.glob.keeps I1.bk).keeps k2).extBut hx TB.gP) e1 e2 (keep3 _ _ e4 (I1.bk _ _ e5)) e6 e7 e8 ?_
    refine ⟨s1.heap.objs.size + 1, _, _, n, _, _, _, (fun _ => true), (fun i y => i < n ∧ y = .bool (pb i)), rfl, W, ?_, ?_, ?_, lim2.extBut hx hcP, ?_, ?_, ?_⟩
    · rintro i vals ⟨_, t, x, _, rfl⟩
      exact ⟨_, _, rfl⟩
    · refine (W X.A hr.hd).frame _ _ _ hst fun b hb u e => hx b u (fun z => ?_) e
      rcases List.mem_cons.mp hb with z2 | z2
      · exact absurd (z.symm.trans z2 ▸ hPlt) (Nat.not_lt.mpr (Nat.le_succ _))
      · rcases List.mem_cons.mp z2 with z2 | z2
        · exact Nat.ne_of_lt hPlt (z.symm.trans z2)
        · have z3 := List.mem_singleton.mp z2
          rw [z] at z3
          rw [← z3] at pl
          obtain ⟨o', ho', hc', _⟩ := pl
          rw [hPs] at ho'
          cases ho'
          cases hc'
    · intro b hb
      have l3 : s1.heap.objs.size + 2 ≤ h3.objs.size := by omega
      show b < h3.objs.size
      rcases List.mem_cons.mp hb with z | z
      · rw [z]
        exact l3
      · rcases List.mem_cons.mp z with z | z
        · rw [z]
          exact Nat.lt_of_succ_lt l3
        · rw [List.mem_singleton.mp z]
          exact Nat.lt_trans htl (Nat.lt_of_succ_lt l3)
    · intro z
      rcases List.mem_cons.mp z with z | z
      · exact absurd (z ▸ hcl) (Nat.not_lt.mpr (Nat.le_succ _))
      · exact Nat.ne_of_lt hcl (List.mem_singleton.mp z)
    · intro href hhref
      refine ⟨fun A' E' i va vb s₂ m₂ hA hD hU hPv hn hma hmb hk => ?_, fun A' E' i va vb s₂ m₂ hA hD hU hPv hp hn2 hma hmb hk => ?_⟩
      · simp only [List.forIn_nil]
        exact wpAny_pure ⟨rfl, Rg.keeps_refl _⟩
      · obtain ⟨hin, tk', x, hx', ev⟩ := hPv
        have ea : va = .int i tk' := by
          have := congrArg (fun (z : Array Value) => z[0]?) ev
          simpa using this
        have eb : vb = x := by
          have := congrArg (fun (z : Array Value) => z[1]?) ev
          simpa using this
        subst ea eb
        have hin' : i < xs.length := by omega
        have g : (xs.map V.int)[i]? = some (.int (xs.getD i 0)) := by
          rw [List.getElem?_map, List.getElem?_eq_getElem hin']
          simp [List.getD_eq_getElem?_getD, hin']
        obtain ⟨y, ey, ⟨tk2, ry⟩⟩ := rv.get g
        have : vb = y := by
          have h1 : its[i]? = some vb := by simpa using hx'
          rw [h1] at ey
          exact Option.some.inj ey
        subst this
        subst ry
        refine wpAny_mono (hel1 _ A' E' i tk' tk2 s₂ m₂ ⟨rfl, rfl, I1.ok.glob, rfl⟩ hD hin' hn2 hma hmb fun b u hb e => ?_) (fun y s3 r => ⟨⟨hin, r.1⟩, r.2⟩) fun _ _ e => e
        have hlt := Heap.lt_size e
        have k3 := keep3 b u hb e
        refine hk b (List.mem_range.mpr (Heap.lt_size k3)) (fun z => ?_) u (hhref b u k3)
        rcases List.mem_cons.mp z with z | z
        · rw [z] at hlt
          exact absurd hlt (Nat.not_lt.mpr (Nat.le_succ _))
        · rw [List.mem_singleton.mp z] at hlt
          exact Nat.lt_irrefl _ hlt
    · intro g h5 tk5 gs hgb hag hsz5 hk5 W5 hat
      simp only [GxR.passing_true, List.length_range] at W5
      refine hQ n pb H1 g _ q1 ⟨_, _, _, _, _, W5.in4_1, hat, ?_, fun s' hm => ?_⟩
      · intro j y sj Qj Ej hy hQj
        obtain ⟨i, hij, hin, rfl⟩ := hy
        obtain ⟨hj, ej⟩ := List.getElem?_eq_some_iff.mp hij
        rw [List.getElem_range] at ej
        subst ej
        exact wpAny_truthy_bool hQj
      · obtain ⟨more, em⟩ := hmore
        have nwr : ∀ b u, s1.heap.get? b = some u → b ∉ h3.objs.size :: [s1.heap.objs.size + 1, s1.heap.objs.size] := fun b u e hb => by
          have hl := Heap.lt_size e
          rcases List.mem_cons.mp hb with z | z
          · rw [z] at hl
            have h9 : (h3.objs.size : Nat) < s1.heap.objs.size := hl
            have h10 : s1.heap.objs.size + 2 ≤ h3.objs.size := by omega
            omega
          · rcases List.mem_cons.mp z with z | z
            · rw [z] at hl
              exact absurd hl (Nat.not_lt.mpr (Nat.le_succ _))
            · rw [List.mem_singleton.mp z] at hl
              exact Nat.lt_irrefl _ hl
        have J := inv_tab (more := more) (h' := s'.heap) (g' := s'.gens) (d' := s'.drawn) (t' := s'.toks) I1 hP (fun b u hb e => hm.heap b u (nwr b u e) (hk5 b u (keep3 b u hb e)))
          (by rw [← em]; exact hm.heap P _ (nwr P _ hPs) (hk5 P _ hP3)) (AllBare.movedS (I1.bare.push hgb) hm)
        rw [sh_eta s1 s' hm.os] at J
        refine ⟨upd H1 P (.tbl (ps ++ more)), ⟨⟨ps ++ more, upd_same, by rw [← em]; exact ht3⟩, fun b hb => upd_ne hb⟩, J⟩
  refine ⟨lim2, ?_⟩
  cases hf : codeAmong gpos ps.toList with
  | none =>
    refine wpAny_genexprCodeX hcode (cd.code hP2 ht) (cd.tab hP2) hf fun c' h' tk hx hge hlt hco' _ htab' _ => ?_
    obtain ⟨o1, vs, f1, tf, fl, tg, inF, tx, tt, op, _, _, _, _, _, _, _, _, _, htr, _⟩ := hco'
    exact cont _ h' tk _ hx (Nat.le_trans hge (Nat.le_of_lt hlt)) htab'.2 ⟨_, rfl⟩ htr
  | some cv =>
    refine wpAny_genexprCode_hit hcode (cd.code hP2 ht) hf ?_
    exact cont cv h2 s1.toks ps (Heap.ExtBut.refl _ _) (Nat.le_refl _) hP2 ⟨#[], by simp⟩ ht

/-- all(elt for xa, xb in enumerate(t)) -/
def tAllE (X : Cx) (P : Addr) (scope : Scope) (xa xb : Str) (elt : Expr) (te : TE) : TE := fun σ H Q => te σ H fun y H1 => ∃ (tp : Addr) (xs : L), y = .ref tp ∧ SqT X.K H1 tp (xs.map V.int) ∧ TabG H1 P ∧ ∃ pb : Nat → Bool, (∀ pins s1, Inv X pins σ H1 s1 → EltE X P scope xa xb elt s1 xs pb) ∧
  ∀ H2, Tabbed P H1 H2 → Q (.bl ((List.range xs.length).all pb)) H2
theorem pe_allE {c P : Addr} {elt ex : Expr} {xa xb : Str} {pa pb' pt pe pc p pos gpos : Pos} {kt : Nat} {scope : Scope} {te : TE} {k : Nat}
    (hr : Room k X.A) (hg : Gl X "all") (hm : X.mg "all" = none) (hb : bootBuiltins "all" = some (.builtin "all")) (TB : TabB X.base X.mg c P) (hcode : X.env.code = .ref c) (S : GenS2 X.env scope xa xb) (hge : Gl X "enumerate") (hme : X.mg "enumerate" = none) (hi : PE X ex te)
    (hmono : ∀ σ H (Q Q' : V → Hp → Prop), (∀ y H1, Q y H1 → Q' y H1) → te σ H Q → te σ H Q')
    (hs : ∀ v, genFold (.Call (.Name "enumerate" pe) [ex] [] pc) X.env v = pure v := by intro _; rfl) (na : starEach [ex] X.env = (false, eval ex X.env) :: starEach [] X.env := by rfl)
    (he : starEach [.GeneratorExp elt [⟨.Tuple [.Name xa pa, .Name xb pb'] kt pt, .Call (.Name "enumerate" pe) [ex] [] pc, [], 0⟩] scope gpos] X.env = (false, eval (.GeneratorExp elt [⟨.Tuple [.Name xa pa, .Name xb pb'] kt pt, .Call (.Name "enumerate" pe) [ex] [] pc, [], 0⟩] scope gpos) X.env) :: starEach [] X.env := by rfl) :
    PE X (.Call (.Name "all" p) [.GeneratorExp elt [⟨.Tuple [.Name xa pa, .Name xb pb'] kt pt, .Call (.Name "enumerate" pe) [ex] [] pc, [], 0⟩] scope gpos] [] pos) (tAllE X P scope xa xb elt te) := by
  refine ⟨fun pins s σ H Q I h => ?_⟩
  refine wpAny_Call_Name_kw (ld_blt I hg hm hb ?_)
  refine PyProof.Rows.callWith_builtin1 ?_ he (by rfl)
  rw [he]
  show wpAny _ _ (spliced ((false, eval (.GeneratorExp elt [⟨.Tuple [.Name xa pa, .Name xb pb'] kt pt, .Call (.Name "enumerate" pe) [ex] [] pc, [], 0⟩] scope gpos) X.env) :: backTo pos (starEach [] X.env))) _ _ s
  refine Calls.spliced_cons (gen_enum (R := fun n pb H1 => ∀ H2, Tabbed P H1 H2 → Q (.bl ((List.range n).all pb)) H2) hr TB hcode S hge hme hi hs I (hmono _ _ _ _ (fun y H1 ⟨tp, xs, q1, q2, q3, pb, q4, q5⟩ => ⟨tp, xs, q1, q2, q3, pb, q4 pins, q5⟩) h) na fun n pb H1 g s5 hR hG => ?_)
  obtain ⟨fp, wr, G, F, St, W, hst, htr, hI⟩ := hG
  refine Calls.spliced_nil ?_
  refine call_all_walkS (W.self 0 _ _ _ hst ⟨g, fp, wr, G, _, F, St, _, rfl, W, hst, htr, fun s' hmv => ?_⟩)
  obtain ⟨H2, hT, J⟩ := hI s' hmv
  exact ⟨.bl _, H2, J, rfl, hR H2 hT⟩
end
end Rg
set_option Elab.async false
set_option linter.all false
set_option maxRecDepth 100000
set_option maxHeartbeats 4000000
/-! the small defs -/
namespace Rg
open PySem PySem.Spec PyProof.Rows L2 GxR
/-- what the module's names hold -/
structure Txt (mg : Str → Option Value) : Prop where
  len : mg "len" = none
  tuple : mg "tuple" = none
  list : mg "list" = none
  range : mg "range" = none
  isi : mg "isinstance" = none
  int : mg "int" = none
  bool : mg "bool" = none
  str : mg "str" = none
  all : mg "all" = none
  any : mg "any" = none
  enum : mg "enumerate" = none
  min : mg "min" = none
  sorted : mg "sorted" = none
  lsz : ∃ t, mg "LEAST_SIZE" = some (.int 2 t)
  msz : ∃ t, mg "MOST_SIZE" = some (.int 8 t)
  mb : ∃ t, mg "MOST_BELLS" = some (.int 60 t)
  lp : ∃ t, mg "LEAST_PLACE" = some (.int (-200) t)
  mw : ∃ t, mg "MOST_WITHIN" = some (.int 8 t)
/-! ### heaps -/
def NT (o : HO) : Prop := ∀ ps, o ≠ .tbl ps
/-- all that was tracked is as it was, but for the tables of code objects, which may have grown -/
structure Sm (Ps : List Addr) (H H' : Hp) : Prop where
  at_ : ∀ b o, H b = some o → NT o → H' b = some o
  tb : ∀ p ∈ Ps, TabG H p → TabG H' p
  free : ∀ b, H' b = none → H b = none
theorem Sm.refl (Ps : List Addr) (H : Hp) : Sm Ps H H := ⟨fun _ _ h _ => h, fun _ _ h => h, fun _ h => h⟩
theorem Sm.trans {Ps : List Addr} {H H1 H2 : Hp} (a : Sm Ps H H1) (b : Sm Ps H1 H2) : Sm Ps H H2 := ⟨fun c o h n => b.at_ c o (a.at_ c o h n) n, fun p hp h => b.tb p hp (a.tb p hp h), fun c h => a.free c (b.free c h)⟩
theorem TabG.same {H H' : Hp} {p : Addr} (h : TabG H p) (e : H p = H' p) : TabG H' p := by
  obtain ⟨ps, a, b⟩ := h
  exact ⟨ps, e ▸ a, b⟩
theorem Sm.upd {Ps : List Addr} {H : Hp} {p : Addr} {o : HO} (h : H p = none) : Sm Ps H (upd H p o) := by
  refine ⟨fun b x e _ => by rw [upd_ne (ne_of_none e h)]; exact e, fun q _ g => ?_, fun b e => ?_⟩
  · obtain ⟨ps, a, t⟩ := g
    exact ⟨ps, by rw [upd_ne (ne_of_none a h)]; exact a, t⟩
  · by_cases hb : b = p
    · rw [hb, upd_same] at e
      cases e
    · rw [upd_ne hb] at e
      exact e
theorem Sm.of_same {Ps : List Addr} {H H' : Hp} (s : Same H H') : Sm Ps H H' := ⟨fun b o e _ => s b o e, fun p _ ⟨ps, a, t⟩ => ⟨ps, s _ _ a, t⟩, fun b e => s.free e⟩
theorem Sm.tabbed {Ps : List Addr} {H H' : Hp} {P : Addr} (hP : TabG H P) (t : Tabbed P H H') : Sm Ps H H' := by
  refine ⟨fun b o e n => ?_, fun p hp g => ?_, fun b e => ?_⟩
  · have hb : b ≠ P := fun z => by
      obtain ⟨ps, a, _⟩ := hP
      rw [z, a] at e
      exact n ps (Option.some.inj e).symm
    rw [t.2 b hb]
    exact e
  · by_cases h : p = P
    · rw [h]
      exact t.1
    · exact TabG.same g (t.2 p h).symm
  · by_cases h : b = P
    · obtain ⟨ps, a, _⟩ := t.1
      rw [h, a] at e
      cases e
    · rw [t.2 b h] at e
      exact e
theorem nt_tup (xs : List V) : NT (.tup xs) := fun _ z => nomatch z
theorem nt_lst (xs : List V) : NT (.lst xs) := fun _ z => nomatch z
theorem nt_dT (xs : List (List Key × V)) : NT (.dT xs) := fun _ z => nomatch z
theorem nt_frz (o : Obj) (u : HO) : NT (.frz o u) := fun _ z => nomatch z
/-- the int tuple s stands at a, tracked -/
abbrev IT (H : Hp) (a : Addr) (s : L) : Prop := H a = some (.tup (s.map V.int))
theorem Sm.it {Ps : List Addr} {H H' : Hp} (m : Sm Ps H H') {a : Addr} {s : L} (h : IT H a s) : IT H' a s := m.at_ _ _ h (nt_tup _)
theorem IT.seq {K : PySem.W.Frag} {H : Hp} {a : Addr} {s : L} (h : IT H a s) : SqT K H a (s.map V.int) := SqT.of h
theorem IT.tup {X : Cx} {pins : List (Addr × Obj)} {σ : L2.St} {H : Hp} {s : Shared} (I : Inv X pins σ H s) {a : Addr} {x : L} (h : IT H a x) : ITup s.heap a x := by
  obtain ⟨its, r, p, z⟩ := I.tuple (IT.seq (K := X.K) h)
  rw [List.length_map] at z
  exact ⟨its, r, p, z⟩
theorem ge_at {s : L} {j : Nat} (h : j < s.length) : (s.map V.int)[j]? = some (.int (s.getD j 0)) := by
  rw [List.getElem?_map, List.getElem?_eq_getElem h]
  simp [List.getD_eq_getElem?_getD, h]
theorem at_ix {s : L} {i : Int} (h0 : 0 ≤ i) (h1 : i < s.length) : atI (s.map V.int) i = some (.int (s.getD i.toNat 0)) := by
  have h := atI_nat (xs := s.map V.int) (j := i.toNat) (ge_at (by omega))
  rw [Int.toNat_of_nonneg h0] at h
  exact h
theorem at_last {s : L} (h : 0 < s.length) : atI (s.map V.int) (-1) = some (.int (s.getD (s.length - 1) 0)) := by
  have e := List.dropLast_concat_getLast (show s ≠ [] from fun z => by rw [z] at h; exact Nat.lt_irrefl _ h)
  have e2 : s.getLast (fun z => by rw [z] at h; exact Nat.lt_irrefl _ h) = s.getD (s.length - 1) 0 := by
    rw [List.getLast_eq_getElem, List.getD_eq_getElem?_getD, List.getElem?_eq_getElem (by omega)]
    rfl
  have e3 : s.map V.int = s.dropLast.map V.int ++ [.int (s.getD (s.length - 1) 0)] := by
    rw [← e2, ← List.map_singleton, ← List.map_append, e]
  have h := atI_last (s.dropLast.map V.int) (.int (s.getD (s.length - 1) 0))
  rw [← e3] at h
  exact h
section
variable {P : Program} {w : World} {K : PySem.W.Frag} {mg : Str → Option Value} {base : Heap}
/-! ### is_in -/
def spIsIn : Sp := fun vs H Q _ => ∃ i lo hi : Int, vs = [.int i, .int lo, .int hi] ∧ Q (.bl (inB i lo hi)) H
theorem scIsIn : FnScope ["value", "least", "most"] ["value", "least", "most"] (defScope sIsIn) := ⟨rfl, rfl, rfl, by decide +kernel, rfl, by decide +kernel, by decide +kernel⟩
theorem ok_is_in {f : Addr} {fd : FuncData} (F : Fun K "is_in" "is_in" sIsIn f fd) (T : Txt mg) : FnOk P w K mg base CX0 1 f fd ["value", "least", "most"] spIsIn := by
  refine F.ok scIsIn (fun vs H Q E h => ?_) (fun cdv A outer s H vs Q E hr h => ?_)
  · obtain ⟨i, lo, hi, rfl, _⟩ := h
    rfl
  · obtain ⟨i, lo, hi, rfl, q⟩ := h
    refine ⟨_, pss_one (ps_ret (pe_and (pe_callB call_isi (by rfl) T.isi boot_isinstance (pa_cons (pv 0) (pa_cons (pe_bltn (v := .ty "int") (by rfl) T.int boot_int' rfl) pa_nil)))
      (pe_and (pe_not (pe_callB call_isi (by rfl) T.isi boot_isinstance (pa_cons (pv 0) (pa_cons (pe_bltn (v := .ty "bool") (by rfl) T.bool boot_bool' rfl) pa_nil))))
      (pe_one (pe_chain op_le op_le (pv 1) (pv 0) (pv 2)))))), ?_⟩
    refine ⟨.int i, rfl, .int i, .ty "int", .type "int", .type "int", true, rfl, .ty _, .base (.int i), kit_ty (by decide +kernel), true, rfl, iteT ?_⟩
    refine ⟨.int i, rfl, .int i, .ty "bool", .type "int", .type "bool", false, rfl, .ty _, .base (.int i), kit_ty (by decide +kernel), false, rfl, true, rfl, iteT ?_⟩
    refine ⟨.int lo, rfl, .int i, rfl, lo, i, rfl, rfl, _, rfl, ?_⟩
    refine ite2 (fun e => ?_) (fun e => ?_)
    · refine ⟨.int hi, rfl, i, hi, rfl, rfl, ?_⟩
      unfold inB at q
      rw [e, Bool.true_and] at q
      exact q
    · have e' : decide (lo ≤ i) = false := by
        cases h : decide (lo ≤ i) with
        | true => exact absurd h e
        | false => rfl
      unfold inB at q
      rw [e', Bool.false_and] at q
      exact q
/-! ### need_size -/
def spNeedSize : Sp := fun vs H Q _ => ∃ n : Int, vs = [.int n] ∧ 2 ≤ n ∧ n ≤ 8 ∧ Q .non H
theorem scNeedSize : FnScope ["size"] ["size"] (defScope sNeedSize) := ⟨rfl, rfl, rfl, by decide +kernel, rfl, by decide +kernel, by decide +kernel⟩
theorem ok_need_size {f fI : Addr} {fd fdI : FuncData} (F : Fun K "need_size" "need_size" sNeedSize f fd) (FI : Fun K "is_in" "is_in" sIsIn fI fdI) (bI : Binds K fdI ["value", "least", "most"] []) (gI : mg "is_in" = some (.ref fI)) (T : Txt mg) : FnOk P w K mg base CX0 2 f fd ["size"] spNeedSize := by
  have GI : FnOk P w K mg base CX0 1 fI fdI ["value", "least", "most"] spIsIn := ok_is_in FI T
  refine F.ok scNeedSize (fun vs H Q E h => ?_) (fun cdv A outer s H vs Q E hr h => ?_)
  · obtain ⟨n, rfl, _⟩ := h
    rfl
  · obtain ⟨n, rfl, h1, h2, q⟩ := h
    obtain ⟨t1, e1⟩ := T.lsz
    obtain ⟨t2, e2⟩ := T.msz
    refine ⟨_, pss_one (ps_if (pt_not (pt_val (pe_call GI hr (by rfl) gI FI.kp bI .nil pass0 (pa_cons (pv 0) (pa_cons (pe_glob (v := .int 2) (by rfl) e1 ⟨_, rfl⟩) (pa_cons (pe_glob (v := .int 8) (by rfl) e2 ⟨_, rfl⟩) pa_nil)))))) pss_never pss_nil), ?_⟩
    refine ⟨.int n, rfl, n, 2, 8, rfl, _, rfl, ?_⟩
    have e : inB n 2 8 = true := by
      unfold inB
      rw [decide_eq_true h1, decide_eq_true h2]
      rfl
    rw [e]
    exact iteF q
/-! ### first_row -/
def spFirst : Sp := fun vs H Q _ => ∃ n : Nat, vs = [.int (n : Int)] ∧ n ≤ 1000 ∧ ∀ p, H p = none → Q (.ref p) (upd H p (.tup ((firstL n).map V.int)))
theorem scFirst : FnScope ["size"] ["size"] (defScope sFirst) := ⟨rfl, rfl, rfl, by decide +kernel, rfl, by decide +kernel, by decide +kernel⟩
theorem rgV_first (n : Nat) : rgV 1 ((n : Int) + 1) = (firstL n).map V.int := by
  unfold rgV firstL
  rw [show ((n : Int) + 1 - 1).toNat = n by omega, List.map_map]
  rfl
theorem ok_first {f : Addr} {fd : FuncData} (F : Fun K "first_row" "first_row" sFirst f fd) (T : Txt mg) : FnOk P w K mg base CX0 1 f fd ["size"] spFirst := by
  refine F.ok scFirst (fun vs H Q E h => ?_) (fun cdv A outer s H vs Q E hr h => ?_)
  · obtain ⟨n, rfl, _⟩ := h
    rfl
  · obtain ⟨n, rfl, h1, q⟩ := h
    refine ⟨_, pss_one (ps_ret (pe_tupRg rfl (by rfl) T.tuple (prg_2 (by rfl) T.range pe_int (pe_op op_add (pv 0) pe_int)))), ?_⟩
    refine ⟨.int n, rfl, _, _, rfl, rfl, 1, (n : Int) + 1, rfl, rfl, RgOk.of_le (by omega) (by omega) (by omega) (by omega), fun p np => ?_⟩
    rw [rgV_first]
    exact q p np
/-! ### entry -/
def spEntry : Sp := fun vs H Q _ => ∃ (a : Addr) (s : L) (p : Int), vs = [.ref a, .int p] ∧ IT H a s ∧ 0 < s.length ∧ s.length ≤ 1000 ∧ Q (.int (entryL s p)) H
theorem scEntry : FnScope ["some", "place", "turns"] ["some", "place"] (defScope sEntry) := ⟨rfl, rfl, rfl, by decide +kernel, rfl, by decide +kernel, by decide +kernel⟩
theorem ok_entry {f : Addr} {fd : FuncData} (F : Fun K "entry" "entry" sEntry f fd) (T : Txt mg) : FnOk P w K mg base CX0 1 f fd ["some", "place"] spEntry := by
  refine F.ok scEntry (fun vs H Q E h => ?_) (fun cdv A outer s H vs Q E hr h => ?_)
  · obtain ⟨a, s, p, rfl, _⟩ := h
    rfl
  · obtain ⟨a, xs, p, rfl, ht, h0, h1, q⟩ := h
    refine ⟨_, pss_cons (ps_set (i := 2) scEntry.nd rfl (.inl rfl) (pe_op op_fdiv (pe_op op_sub (pv 1) pe_int) (pe_callB call_len_seq (by rfl) T.len PySem.boot_len (pa_cons (pv 0) pa_nil))))
      (pss_one (ps_ret (pe_op op_add (pe_ix ix_tup (pv 0) (pe_op op_sub (pe_op op_sub (pv 1) pe_int) (pe_op op_mul (pv 2) (pe_callB call_len_seq (by rfl) T.len PySem.boot_len (pa_cons (pv 0) pa_nil)))) (fun _ _ => rfl))
        (pe_op op_mul (pv 2) (pe_callB call_len_seq (by rfl) T.len PySem.boot_len (pa_cons (pv 0) pa_nil)))))), ?_⟩
    have el : (xs.map V.int).length = xs.length := List.length_map _
    have hq := Int.mul_ediv_add_emod (p - 1) (xs.length : Int)
    have hq0 := Int.emod_nonneg (p - 1) (show (xs.length : Int) ≠ 0 by omega)
    have hq1 := Int.emod_lt_of_pos (p - 1) (show (0 : Int) < (xs.length : Int) by omega)
    have hcm := Int.mul_comm (xs.length : Int) ((p - 1) / (xs.length : Int))
    refine ⟨.int p, rfl, p, 1, rfl, rfl, .ref a, rfl, a, _, rfl, .inr ht.seq, _, _, rfl, rfl, ?_, ?_⟩
    · rw [el]
      exact ⟨by omega, by omega⟩
    · rw [el]
      refine ⟨.ref a, rfl, .int p, rfl, p, 1, rfl, rfl, .int ((p - 1) / (xs.length : Int)), rfl, .ref a, rfl, a, _, rfl, .inr ht.seq, _, _, rfl, rfl, .inr ?_, p - 1, _, rfl, rfl, a, _, _, _, rfl, rfl, ht.seq, at_ix ?_ ?_, ?_⟩
      · rw [el]
        omega
      · rw [el]
        omega
      · rw [el]
        omega
      · refine ⟨.int ((p - 1) / (xs.length : Int)), rfl, .ref a, rfl, a, _, rfl, .inr ht.seq, _, _, rfl, rfl, .inr ?_, _, _, rfl, rfl, ?_⟩
        · rw [el]
          omega
        · rw [el]
          exact q
end
end Rg
set_option Elab.async false
set_option linter.all false
set_option maxRecDepth 100000
set_option maxHeartbeats 4000000
/-! rung, is_lift, need_lift, comes, count_of, lift_count -/
namespace Rg
open PySem PySem.Spec PyProof.Rows L2 GxR
/-! ### a def whose code object is known -/
structure FunC (K : PySem.W.Frag) (x qual : Str) (st : Stmt) (f : Addr) (fd : FuncData) (c : Addr) : Prop where
  ex : ∃ (oc : Value) (od : Option Addr) (kV doc pm : Value) (an : Option Addr) (ct : Value) (osl : Array (Option Value)),
    fd = PySem.W.fnOf x qual (defArgs st) (defBody st) (defScope st) .none kV doc pm an (.ref c) ct ∧ K.lookup f = some ⟨oc, od, .func fd, osl⟩ ∧ PySem.W.codeIn K (.ref c) qual = true
  kp : PySem.W.keepIn K (.ref f) = true
theorem FunC.fn {K : PySem.W.Frag} {x qual : Str} {st : Stmt} {f : Addr} {fd : FuncData} {c : Addr} (F : FunC K x qual st f fd c) : Fun K x qual st f fd := by
  obtain ⟨⟨oc, od, kV, doc, pm, an, ct, osl, e, lk, hcd⟩, kp⟩ := F
  exact ⟨⟨oc, od, kV, doc, pm, an, .ref c, ct, osl, e, lk, hcd⟩, kp⟩
theorem FunC.ok {P : Program} {w : World} {K : PySem.W.Frag} {mg : Str → Option Value} {base : Heap} {x qual : Str} {st : Stmt} {f c : Addr} {fd : FuncData} {N ps : List Str} {k : Nat} {sp : Sp} (F : FunC K x qual st f fd c) (S : FnScope N ps (defScope st)) (len : ∀ vs H Q E, sp vs H Q E → vs.length = ps.length)
    (hbody : ∀ (A : Around) (outer : List Env) (s : Shared) (H : Hp) (vs : List V) (Q : VK) (E : XK), Room k (A.deeper (envOfC qual (defScope st) s.heap.objs.size f (.ref c))) → sp vs H Q E →
      ∃ t, PSs (cxOf CX0 P w K mg base N qual (defScope st) f (.ref c) A outer s H E).nox (defBody st) t ∧ t { nx := fun _ H' => Q .non H', rt := Q } (start N vs) H) : FnOk P w K mg base CX0 (k + 1) f fd ps sp := by
  obtain ⟨oc, od, kV, doc, pm, an, ct, osl, rfl, lk, hcd⟩ := F.ex
  refine fn_of lk hcd S len fun A outer s H vs Q E hr hsp => ?_
  obtain ⟨t, h, q⟩ := hbody A outer s H vs Q E hr hsp
  exact ⟨t, h.nox, q⟩
theorem free_ok {env : Env} {names : List (Str × NameKind)} (fs : List Str) (h : (names.filter fun y => y.2 == .free).map (·.1) = fs) (hf : ∀ x ∈ fs, ∃ c, env.cells.lookup x = some c) : ∀ y ∈ names, y.2 = .free → ∃ c, env.cells.lookup y.1 = some c := fun y hy e => by
  refine hf y.1 ?_
  rw [← h]
  exact List.mem_map.mpr ⟨y, List.mem_filter.mpr ⟨hy, by rw [e]; rfl⟩, rfl⟩
/-! ### slices of int tuples -/
theorem cut_to (xs : List V) (k : Nat) (h : k ≤ xs.length) : cutV xs none (some (k : Int)) = xs.take k := by
  unfold cutV
  rw [HT.sIx_none, HT.sIx_nat, Nat.min_eq_left h, Nat.sub_zero, List.drop_zero]
theorem cut_from (xs : List V) (k : Nat) (h : k ≤ xs.length) : cutV xs (some (k : Int)) none = xs.drop k := by
  unfold cutV
  rw [HT.sIx_none, HT.sIx_nat, Nat.min_eq_left h]
  exact List.take_of_length_le (by rw [List.length_drop]; exact Nat.le_refl _)
theorem same_upd {H : Hp} {p : Addr} {o : HO} (h : H p = none) : Same H (upd H p o) := fun b x e => by
  rw [upd_ne (ne_of_none e h)]
  exact e
/-! ### what a generator's element still knows -/
section
variable {X : Cx} {pins : List (Addr × Obj)} {σ : L2.St} {H1 : Hp} {s1 t : Shared} {P : Addr}
theorem base_in (I1 : Inv X pins σ H1 s1) (hP : TabG H1 P) (k : ∀ b o, b ≠ P → s1.heap.get? b = some o → t.heap.get? b = some o) : ∀ b o, X.base.get? b = some o → t.heap.get? b = some o := fun b o e => by
  obtain ⟨h1, h2⟩ := I1.bs b o e
  refine k b o (fun z => ?_) h1
  obtain ⟨ps, a, _⟩ := hP
  rw [z, a] at h2
  cases h2
theorem tup_in (I1 : Inv X pins σ H1 s1) (hP : TabG H1 P) (k : ∀ b o, b ≠ P → s1.heap.get? b = some o → t.heap.get? b = some o) {a : Addr} {xs : L} (h : IT H1 a xs) : ITup t.heap a xs := by
  obtain ⟨its, r, ⟨o, ho, rest⟩, z⟩ := IT.tup I1 h
  refine ⟨its, r, ⟨o, k _ _ (fun e => ?_) ho, rest⟩, z⟩
  obtain ⟨ps, b, _⟩ := hP
  rw [← e, h] at b
  cases b
theorem cell_in (I1 : Inv X pins σ H1 s1) (hP : TabG H1 P) (k : ∀ b o, b ≠ P → s1.heap.get? b = some o → t.heap.get? b = some o) {i : Nat} {x : Str} {v : V} (hN : X.N[i]? = some x) (hσ : σ[i]? = some (some v)) (hk : X.env.scope.names.lookup x = some .cell) :
    ∃ u c, RelV v u ∧ X.env.cells.lookup x = some c ∧ t.heap.IsCell c (some u) := by
  obtain ⟨m, hn, hl⟩ := I1.loc
  obtain ⟨u, r, q⟩ := hl i x v hN hσ (.inr (.inl hk))
  rcases q with ⟨q, _⟩ | ⟨_, c, hc, o, ho, hd⟩
  · have q' : X.env.scope.names.lookup x = some .local := q
    rw [hk] at q'
    cases q'
  · refine ⟨u, c, r, hc, o, k _ _ (fun e => ?_) ho, hd⟩
    have h2 := I1.freeC x c hc
    obtain ⟨ps, a, _⟩ := hP
    rw [e, a] at h2
    cases h2
end
section
variable {P : Program} {w : World} {K : PySem.W.Frag} {mg : Str → Option Value} {base : Heap}
/-! ### rung -/
def spRung : Sp := fun vs H Q _ => ∃ (a : Addr) (s : L) (b : Nat), vs = [.ref a, .int (b : Int)] ∧ IT H a s ∧ 1 ≤ b ∧ b ≤ s.length ∧ s.length ≤ 1000 ∧ ∀ H' p, Same H H' → H p = none → IT H' p (rungL s b) → Q (.ref p) H'
theorem scRung : FnScope ["some", "bell", "source"] ["some", "bell"] (defScope sRung) := ⟨rfl, rfl, rfl, by decide +kernel, rfl, by decide +kernel, by decide +kernel⟩
/-- the slices and the new tuple: what rung and _law_lifted share -/
theorem rung_map (s : L) (b : Nat) : (s.map V.int).take (b - 1) ++ .int (if 1 < b then s.getD (b - 2) 0 else s.getD (s.length - 1) 0 - (s.length : Int)) :: (s.map V.int).drop b = (rungL s b).map V.int := by
  unfold rungL
  rw [List.map_append, List.map_cons, List.map_take, List.map_drop]
theorem ok_rung {f : Addr} {fd : FuncData} (F : Fun K "rung" "rung" sRung f fd) (T : Txt mg) : FnOk P w K mg base CX0 1 f fd ["some", "bell"] spRung := by
  refine F.ok scRung (fun vs H Q E h => ?_) (fun cdv A outer s H vs Q E hr h => ?_)
  · obtain ⟨a, s, b, rfl, _⟩ := h
    rfl
  · obtain ⟨a, xs, b, rfl, ht, h1, h2, h3, q⟩ := h
    have el : (xs.map V.int).length = xs.length := List.length_map _
    refine ⟨_, pss_cons (ps_set (i := 2) scRung.nd rfl (.inl rfl) (pe_ifExp (pt_cmpR op_gt (pv 1) pe_int (nomark _)) (pe_ix ix_tup (pv 0) (pe_op op_sub (pv 1) pe_int) (fun _ _ => rfl))
        (pe_op op_sub (pe_ix ix_tup (pv 0) (pe_un un_neg pe_int) (fun _ _ => rfl)) (pe_callB call_len_seq (by rfl) T.len PySem.boot_len (pa_cons (pv 0) pa_nil)))))
      (pss_one (ps_ret (pe_tup (StX.pa_star (pe_slice sl_tupA (pv 0) po_none (po_some (pe_op op_sub (pv 1) pe_int))) (pa_cons (pv 2) (StX.pa_star (pe_slice sl_tupA (pv 0) (po_some (pv 1)) po_none) pa_nil)))))), ?_⟩
    have fin : ∀ src : Int, src = (if 1 < b then xs.getD (b - 2) 0 else xs.getD (xs.length - 1) 0 - (xs.length : Int)) →
        tTup (StX.tStar K (tSl (rSlA K) (tVar 0) tNoPart (tPart (tOp (rI0 fun i j => .int (i - j)) (tVar 1) (tC (.int 1))))) (tCons (tVar 2) (StX.tStar K (tSl (rSlA K) (tVar 0) (tPart (tVar 1)) tNoPart) tNil))) [some (.ref a), some (.int (b : Int)), some (.int src)] H Q := by
      intro src es
      refine ⟨.ref a, rfl, .int (b : Int), rfl, (b : Int), 1, rfl, rfl, (b : Int) - 1, rfl, a, xs.map V.int, rfl, ht.seq, fun z => ?_, fun z p1 n1 => ?_⟩
      · exfalso
        have z2 := z.2
        rw [show ((b : Int) - 1) = ((b - 1 : Nat) : Int) by omega, HT.sIx_nat, el] at z2
        omega
      · have e1 : cutV (xs.map V.int) none (some ((b : Int) - 1)) = (xs.map V.int).take (b - 1) := by
          rw [show ((b : Int) - 1) = ((b - 1 : Nat) : Int) by omega]
          exact cut_to _ _ (by rw [el]; omega)
        rw [e1]
        have s1 : Same H (upd H p1 (.tup ((xs.map V.int).take (b - 1)))) := same_upd n1
        refine ⟨p1, _, rfl, .inl (.of upd_same), .int src, rfl, .ref a, rfl, .int (b : Int), rfl, (b : Int), rfl, a, xs.map V.int, rfl, .of (s1 _ _ ht), fun z => ?_, fun z p2 n2 => ?_⟩
        · exfalso
          have z1 := z.1
          rw [HT.sIx_nat, el] at z1
          omega
        · rw [cut_from _ _ (by rw [el]; omega)]
          have s2 := same_upd (o := .tup ((xs.map V.int).drop b)) n2
          refine ⟨p2, _, rfl, .inl (.of upd_same), ?_, fun p3 n3 => ?_⟩
          · show ((xs.map V.int).take (b - 1) ++ (V.int src :: ((xs.map V.int).drop b ++ []))).length ≤ sizeLine
            rw [sizeLine_eq, List.append_nil, List.length_append, List.length_cons, List.length_take, List.length_drop, el]
            omega
          · refine q _ p3 ((s1.trans s2).trans (same_upd n3)) (s1.free (s2.free n3)) ?_
            show upd _ p3 (.tup ((xs.map V.int).take (b - 1) ++ (V.int src :: ((xs.map V.int).drop b ++ [])))) p3 = _
            rw [upd_same, List.append_nil, es, rung_map]
    refine ⟨.int (b : Int), rfl, (b : Int), 1, rfl, rfl, _, rfl, ite2 (fun e => ?_) (fun e => ?_)⟩
    · have hb : 1 < b := by
        have := of_decide_eq_true e
        omega
      refine ⟨.ref a, rfl, .int (b : Int), rfl, (b : Int), 2, rfl, rfl, a, _, _, _, rfl, rfl, ht.seq, at_ix (by omega) (by omega), fin _ ?_⟩
      rw [if_pos hb, show ((b : Int) - 2).toNat = b - 2 by omega]
    · have hb : ¬ 1 < b := fun z => e (decide_eq_true (by omega))
      refine ⟨.ref a, rfl, 1, rfl, a, _, _, _, rfl, rfl, ht.seq, at_last (by omega), .ref a, rfl, a, _, rfl, .inr ht.seq, _, _, rfl, rfl, fin _ ?_⟩
      rw [if_neg hb, el]
end
end Rg
set_option Elab.async false
set_option linter.all false
set_option maxRecDepth 100000
set_option maxHeartbeats 4000000
/-! is_lift, need_lift, comes -/
namespace Rg
open PySem PySem.Spec PyProof.Rows L2 GxR
theorem boot_all : bootBuiltins "all" = some (.builtin "all") := by decide +kernel
section
variable {P : Program} {w : World} {K : PySem.W.Frag} {mg : Str → Option Value} {base : Heap}
theorem scIsLift : FnScope ["value"] ["value"] (defScope sIsLift) := ⟨rfl, rfl, rfl, by decide +kernel, rfl, by decide +kernel, by decide +kernel⟩
/-- is_in(one, LEAST_PLACE, k + 1) in the generator's frame -/
theorem elt_all {X : Cx} {pins : List (Addr × Obj)} {σ : L2.St} {H1 : Hp} {s1 : Shared} {Pt fI : Addr} {fdI : FuncData} {k : Nat} {scope : Scope} {xs : L} {p1 p2 p3 p4 p5 p6 p7 : Pos} {j : Nat} (hr : Room k X.A) (FI : Fun X.K "is_in" "is_in" sIsIn fI fdI) (gI : X.mg "is_in" = some (.ref fI)) (T : Txt X.mg)
    (hk : scope.kind = .function) (h1 : scope.names.lookup ("one" : Str) = some .local) (h2 : scope.names.lookup ("k" : Str) = some .local) (h3 : scope.names.lookup ("is_in" : Str) = some .globalImplicit) (h4 : scope.names.lookup ("LEAST_PLACE" : Str) = some .globalImplicit)
    (I1 : Inv X pins σ H1 s1) (hP : TabG H1 Pt) :
    EltE X Pt scope "k" "one" (.Call (.Name "is_in" p1) [.Name "one" p2, .Name "LEAST_PLACE" p3, .BinOp (.Name "k" p4) .Add (.Constant (.int 1) j p5) p6] [] p7) s1 xs (fun i => inB (xs.getD i 0) (-200) ((i : Int) + 1)) := by
  intro cenv A' E' i tk tk' t m₂ G hD hi hn hka hkb hkeep
  have hb := base_in I1 hP hkeep
  obtain ⟨tl, el⟩ := T.lp
  have kf : cenv.scope.kind = .function := by rw [G.sc]; exact hk
  have kd : ∀ {x : Str} {q : NameKind}, scope.names.lookup x = some q → cenv.kindOf x = some q := fun {x q} e => by
    show cenv.scope.names.lookup x = some q
    rw [G.sc]
    exact e
  have glb : ∀ u : Shared, InF t cenv.locals m₂ u → u.heap.Ns cenv.globals X.mg := fun u ⟨kk, _⟩ => by
    rw [G.gl]
    exact I1.mod.glob.keeps fun b o e => keeps_get kk _ _ (hb b o e)
  refine re_call (X := I1.mod.kin) inF_ok FI.kp (fun u ⟨kk, _⟩ => I1.mod.kin.keeps fun b o e => keeps_get kk _ _ (hb b o e)) (re_glob kf (kd h3) glb gI rfl)
    (ra_cons inF_ok (re_loc (F := IsI (xs.getD i 0)) kf (kd h1) (fun u ⟨_, n⟩ => ⟨m₂, n, hkb⟩) ⟨tk', rfl⟩) (ra_cons inF_ok (re_glob (F := IsI (-200)) kf (kd h4) glb el ⟨tl, rfl⟩) (ra_cons inF_ok (re_bin inF_ok (re_loc (F := IsI (i : Int)) kf (kd h2) (fun u ⟨_, n⟩ => ⟨m₂, n, hka⟩) ⟨tk, rfl⟩) re_int ro_add) ra_nil)))
    (fun E s vs pr hv => ?_) (by rfl) (by rfl) E' t ⟨Rg.keeps_refl t, hn⟩
  obtain ⟨_, _, rfl, ⟨t1, rfl⟩, _, _, rfl, ⟨t2, rfl⟩, _, _, rfl, ⟨t3, rfl⟩, rfl⟩ := hv
  exact rw_is_in I1.mod FI T.isi T.int T.bool (by have := hr.dp; omega) (fun b o e => keeps_get pr.1 _ _ (hb b o e))
/-- value[k] > value[k + 1] -/
theorem elt_any {X : Cx} {pins : List (Addr × Obj)} {σ : L2.St} {H1 : Hp} {s1 : Shared} {Pt a : Addr} {scope : Scope} {xs : L} {p1 p2 p3 p4 p5 p6 p7 p8 p9 : Pos} {j : Nat}
    (hk : scope.kind = .function) (h1 : scope.names.lookup ("k" : Str) = some .local) (h2 : scope.names.lookup ("value" : Str) = some .free) (hcl : ∀ cells, (cloFrom cells scope.names []).lookup ("value" : Str) = some ((cells.lookup ("value" : Str)).getD 0))
    (hN : X.N[0]? = some ("value" : Str)) (hσ : σ[0]? = some (some (.ref a))) (hc : X.env.scope.names.lookup ("value" : Str) = some .cell) (I1 : Inv X pins σ H1 s1) (hP : TabG H1 Pt) (ht : IT H1 a xs) :
    EltR X Pt scope "k" (.Compare (.Subscript (.Name "value" p1) (.Name "k" p2) p3) [.Gt] [.Subscript (.Name "value" p4) (.BinOp (.Name "k" p5) .Add (.Constant (.int 1) j p6) p7) p8] p9) s1 0 (xs.length - 1) (fun i => decide (xs.getD (i + 1) 0 < xs.getD i 0)) := by
  intro cenv A' E' i tk t m₂ G hD hi hn hm hkeep
  obtain ⟨u, c, ru, hcl2, hcell⟩ := cell_in I1 hP hkeep hN hσ hc
  cases ru
  have htup := tup_in I1 hP hkeep ht
  have kf : cenv.scope.kind = .function := by rw [G.sc]; exact hk
  have kd : ∀ {x : Str} {q : NameKind}, scope.names.lookup x = some q → cenv.kindOf x = some q := fun {x q} e => by
    show cenv.scope.names.lookup x = some q
    rw [G.sc]
    exact e
  have hcc : cenv.cells.lookup ("value" : Str) = some c := by
    rw [G.cl, hcl, hcl2]
    rfl
  have rval : ∀ {p : Pos}, RE X.prog X.w A' (InF t cenv.locals m₂) cenv (.Name "value" p) (· = .ref a) := fun {p} => re_free kf (kd h2) hcc (fun u ⟨kk, _⟩ => hcell.keeps (keeps_get kk)) rfl
  have rk : ∀ {p : Pos}, RE X.prog X.w A' (InF t cenv.locals m₂) cenv (.Name "k" p) (IsI (i : Int)) := fun {p} => re_loc kf (kd h1) (fun u ⟨_, n⟩ => ⟨m₂, n, hm⟩) ⟨tk, by rw [Int.zero_add]⟩
  have rt : ∀ u : Shared, InF t cenv.locals m₂ u → ITup u.heap a xs := fun u ⟨kk, _⟩ => htup.keeps (keeps_get kk)
  have h := (re_cmp (A := A') (prog := X.prog) (w := X.w) (pos := p9) inF_ok (re_ix (pos := p3) inF_ok (rval (p := p1)) (rk (p := p2)) rt (by omega) (by omega) (fun _ _ => rfl)) (re_ix (i := (i : Int) + 1) (pos := p8) inF_ok (rval (p := p4)) (re_bin (pos := p7) inF_ok (rk (p := p5)) (re_int (k := j) (pos := p6)) ro_add) rt (by omega) (by omega) (fun _ _ => rfl)) ro_gt (nomark _)) E' t ⟨Rg.keeps_refl t, hn⟩
  rw [show ((i : Int) + 1).toNat = i + 1 by omega, show (i : Int).toNat = i by omega] at h
  exact h
/-- is_lift: of a tuple of 2 to 8 ints -/
def spIsLift (Ps : List Addr) (Pt : Addr) : Sp := fun vs H Q _ => ∃ (a : Addr) (s : L), vs = [.ref a] ∧ IT H a s ∧ 2 ≤ s.length ∧ s.length ≤ 8 ∧ TabG H Pt ∧ ∀ H', Sm Ps H H' → TabG H' Pt → Q (.bl (isLift s)) H'
theorem ok_is_lift {f fI c Pt : Addr} {fd fdI : FuncData} {Ps : List Addr} (F : FunC K "is_lift" "is_lift" sIsLift f fd c) (TB : TabB base mg c Pt) (FI : Fun K "is_in" "is_in" sIsIn fI fdI) (gI : mg "is_in" = some (.ref fI)) (T : Txt mg) :
    FnOk P w K mg base CX0 2 f fd ["value"] (spIsLift Ps Pt) := by
  refine F.ok scIsLift (fun vs H Q E h => ?_) (fun A outer s H vs Q E hr h => ?_)
  · obtain ⟨a, xs, rfl, _⟩ := h
    rfl
  · obtain ⟨a, xs, rfl, ht, h2, h8, hT, q⟩ := h
    obtain ⟨t1, e1⟩ := T.lsz
    obtain ⟨t2, e2⟩ := T.msz
    have el : (xs.map V.int).length = xs.length := List.length_map _
    have kcell : (defScope sIsLift).names.lookup ("value" : Str) = some .cell := rfl
    refine ⟨_, pss_cons (ps_if (PW.pt (pw_or (pt_not (pt_val (pe_callB call_isi (by rfl) T.isi boot_isinstance (pa_cons (pv 0) (pa_cons (pe_bltn (v := .ty "tuple") (by rfl) T.tuple PyProof.Rows.boot_tuple rfl) pa_nil)))))
          (pw_or1 (pt_not (pt_chain op_le op_le (pe_glob (v := .int 2) (by rfl) e1 ⟨_, rfl⟩) (pe_callB call_len_seq (by rfl) T.len PySem.boot_len (pa_cons (pv 0) pa_nil)) (pe_glob (v := .int 8) (by rfl) e2 ⟨_, rfl⟩)))))) (pss_one (ps_ret pe_bl)) pss_nil)
      (pss_cons (ps_if (pt_not (pt_val (pe_allE hr (by rfl) T.all boot_all TB rfl ⟨rfl, rfl, by decide +kernel, rfl, rfl, rfl, by decide +kernel, free_ok [] rfl (fun _ z => nomatch z)⟩ (by rfl) T.enum (pv 0) (fun _ _ _ _ hq ⟨v, e, q⟩ => ⟨v, e, hq _ _ q⟩)))) (pss_one (ps_ret pe_bl)) pss_nil)
      (pss_cons (ps_if (pt_val (pe_anyR hr (by rfl) T.any TB rfl ⟨rfl, rfl, by decide +kernel, rfl, rfl, free_ok ["value"] rfl (fun x hx => by
            rw [List.mem_singleton.mp hx]
            exact cell_has kcell)⟩ (prg_1 (by rfl) T.range (pe_op op_sub (pe_callB call_len_seq (by rfl) T.len PySem.boot_len (pa_cons (pv 0) pa_nil)) pe_int)) (fun _ => by rfl)
            (fun _ _ _ _ hq ⟨v, e, p, ys, e1, e2, i, j, e3, e4, n, e5, q⟩ => ⟨v, e, p, ys, e1, e2, i, j, e3, e4, n, e5, hq _ _ _ q⟩))) (pss_one (ps_ret pe_bl)) pss_nil)
      (pss_one (ps_ret (pe_cmpR op_le (pe_ix ix_tup (pv 0) (pe_un un_neg pe_int) (fun _ _ => rfl)) (pe_op op_add (pe_ix ix_tup (pv 0) pe_int (fun _ _ => rfl)) (pe_callB call_len_seq (by rfl) T.len PySem.boot_len (pa_cons (pv 0) pa_nil))) (nomark _)))))), ?_⟩
    -- a tuple; its length
    refine ⟨.ref a, rfl, .ref a, .ty "tuple", .type "tuple", .type "tuple", true, rfl, .ty _, .base (.tup ht), kit_ty (by decide +kernel), true, rfl, ?_⟩
    refine iteF ?_
    refine ⟨.ref a, rfl, a, _, rfl, .inr ht.seq, 2, _, rfl, rfl, _, rfl, ?_⟩
    rw [el, decide_eq_true (show (2 : Int) ≤ (xs.length : Int) by omega)]
    refine iteT ⟨_, 8, rfl, rfl, _, rfl, ?_⟩
    rw [decide_eq_true (show (xs.length : Int) ≤ 8 by omega)]
    refine iteF ?_
    -- all
    have lens : isLift xs = (((List.range xs.length).all fun k => inB (xs.getD k 0) (-200) ((k : Int) + 1)) && !((List.range (xs.length - 1)).any fun k => decide (xs.getD (k + 1) 0 < xs.getD k 0)) && decide (xs.getD (xs.length - 1) 0 ≤ xs.getD 0 0 + (xs.length : Int))) := by
      unfold isLift
      rw [decide_eq_true h2, decide_eq_true h8, Bool.true_and, Bool.true_and]
    refine ⟨.ref a, rfl, a, xs, rfl, ht.seq, hT, (fun i => inB (xs.getD i 0) (-200) ((i : Int) + 1)), fun pins s1 I1 => elt_all hr FI gI T rfl rfl rfl rfl rfl I1 hT, fun H2 hT2 => ⟨_, rfl, ?_⟩⟩
    have m2 : Sm Ps H H2 := Sm.tabbed hT hT2
    have ht2 := m2.it ht
    cases eA : (List.range xs.length).all fun k => inB (xs.getD k 0) (-200) ((k : Int) + 1) with
    | false =>
      refine iteT ?_
      rw [lens, eA, Bool.false_and, Bool.false_and] at q
      exact q _ m2 hT2.1
    | true =>
      refine iteF ?_
      -- any
      refine ⟨.ref a, rfl, a, _, rfl, .inr ht2.seq, _, 1, rfl, rfl, _, rfl, RgOk.of_le (by omega) (by rw [el]; omega) (by omega) (by rw [el]; omega), hT2.1, ?_⟩
      rw [el, show ((xs.length : Int) - 1 - 0).toNat = xs.length - 1 by omega]
      refine ⟨(fun i => decide (xs.getD (i + 1) 0 < xs.getD i 0)), fun pins s1 I1 => elt_any rfl rfl rfl (fun _ => rfl) rfl rfl kcell I1 hT2.1 ht2, fun H3 hT3 => ⟨_, rfl, ?_⟩⟩
      have m3 : Sm Ps H H3 := m2.trans (Sm.tabbed hT2.1 hT3)
      have ht3 := m3.it ht
      cases eB : (List.range (xs.length - 1)).any fun k => decide (xs.getD (k + 1) 0 < xs.getD k 0) with
      | true =>
        refine iteT ?_
        rw [lens, eA, eB, Bool.true_and, Bool.not_true, Bool.false_and] at q
        exact q _ m3 hT3.1
      | false =>
        refine iteF ?_
        rw [lens, eA, eB, Bool.true_and, Bool.not_false, Bool.true_and] at q
        refine ⟨.ref a, rfl, 1, rfl, a, _, _, _, rfl, rfl, ht3.seq, at_last (by omega), .ref a, rfl, a, _, _, _, rfl, rfl, ht3.seq, at_ix (by omega) (by omega), .ref a, rfl, a, _, rfl, .inr ht3.seq, _, _, rfl, rfl, _, _, rfl, rfl, ?_⟩
        rw [el]
        exact q _ m3 hT3.1
end
end Rg
set_option Elab.async false
set_option linter.all false
set_option maxRecDepth 100000
set_option maxHeartbeats 4000000
/-! comes, count_of, need_lift, lift_count -/
namespace Rg
open PySem PySem.Spec PyProof.Rows L2 GxR
/-! ### int tuples as data -/
theorem dp_ints (K : PySem.W.Frag) (H : Hp) : ∀ s : L, DpAll K H (s.map V.int) (s.map PyData.int)
  | [] => .nil
  | x :: r => .cons (.int x) (dp_ints K H r)
theorem dp_it {K : PySem.W.Frag} {H : Hp} {a : Addr} {s : L} (h : IT H a s) : Dp K H (.ref a) (iT s) := .tup h.seq (dp_ints K H s)
theorem lay_ints : ∀ s : L, PyData.canLayAll0 (s.map PyData.int) = true
  | [] => by simp [PyData.canLayAll0]
  | x :: r => by
    rw [List.map_cons, PyData.canLayAll0, lay_ints r]
    simp [PyData.canLay0]
theorem shaped_it (s : L) : SeqAt.shaped (iT s) = true := by
  unfold SeqAt.shaped
  rw [decide_eq_true (Nat.le_trans (depth_iT s) (by decide)), Bool.and_true]
  show PyData.canLay0 (.tuple (s.map .int)) = true
  rw [PyData.canLay0]
  exact lay_ints s
theorem eqv_ints : ∀ x y : L, PyData.eqvAll (x.map .int) (y.map .int) = decide (x = y)
  | [], [] => by simp [PyData.eqvAll]
  | [], _ :: _ => by simp [PyData.eqvAll]
  | _ :: _, [] => by simp [PyData.eqvAll]
  | a :: x, b :: y => by
    rw [List.map_cons, List.map_cons, PyData.eqvAll, eqv_ints x y]
    by_cases h : a = b <;> by_cases h2 : x = y <;> simp [PyData.eqv, h, h2]
theorem eqv_it (x y : L) : PyData.eqv (iT x) (iT y) = decide (x = y) := by
  show PyData.eqv (.tuple (x.map .int)) (.tuple (y.map .int)) = decide (x = y)
  rw [PyData.eqv]
  exact eqv_ints x y
section
variable {P : Program} {w : World} {K : PySem.W.Frag} {mg : Str → Option Value} {base : Heap}
theorem scComes : FnScope ["some"] ["some"] (defScope sComes) := ⟨rfl, rfl, rfl, by decide +kernel, rfl, by decide +kernel, by decide +kernel⟩
/-- entry(some, place) == entry(some, place + 1) in the generator's frame -/
theorem elt_comes {X : Cx} {pins : List (Addr × Obj)} {σ : L2.St} {H1 : Hp} {s1 : Shared} {Pt a fE : Addr} {fdE : FuncData} {k : Nat} {scope : Scope} {xs : L} {p1 p2 p3 p4 p5 p6 p7 p8 p9 p10 p11 : Pos} {j : Nat} (hr : Room k X.A) (FE : Fun X.K "entry" "entry" sEntry fE fdE) (gE : X.mg "entry" = some (.ref fE)) (T : Txt X.mg)
    (hk : scope.kind = .function) (h1 : scope.names.lookup ("place" : Str) = some .local) (h2 : scope.names.lookup ("some" : Str) = some .free) (h3 : scope.names.lookup ("entry" : Str) = some .globalImplicit) (hcl : ∀ cells, (cloFrom cells scope.names []).lookup ("some" : Str) = some ((cells.lookup ("some" : Str)).getD 0))
    (hN : X.N[0]? = some ("some" : Str)) (hσ : σ[0]? = some (some (.ref a))) (hc : X.env.scope.names.lookup ("some" : Str) = some .cell) (I1 : Inv X pins σ H1 s1) (hP : TabG H1 Pt) (ht : IT H1 a xs) (h0 : 0 < xs.length) (h8 : xs.length ≤ 1000) :
    EltR X Pt scope "place" (.Compare (.Call (.Name "entry" p1) [.Name "some" p2, .Name "place" p3] [] p4) [.Eq] [.Call (.Name "entry" p5) [.Name "some" p6, .BinOp (.Name "place" p7) .Add (.Constant (.int 1) j p8) p9] [] p10] p11) s1 1 xs.length (fun i => decide (entryL xs (1 + (i : Int)) = entryL xs (1 + (i : Int) + 1))) := by
  intro cenv A' E' i tk t m₂ G hD hi hn hm hkeep
  obtain ⟨u, c, ru, hcl2, hcell⟩ := cell_in I1 hP hkeep hN hσ hc
  cases ru
  have htup := tup_in I1 hP hkeep ht
  have hb := base_in I1 hP hkeep
  have kf : cenv.scope.kind = .function := by rw [G.sc]; exact hk
  have kd : ∀ {x : Str} {q : NameKind}, scope.names.lookup x = some q → cenv.kindOf x = some q := fun {x q} e => by
    show cenv.scope.names.lookup x = some q
    rw [G.sc]
    exact e
  have hcc : cenv.cells.lookup ("some" : Str) = some c := by
    rw [G.cl, hcl, hcl2]
    rfl
  have glb : ∀ u : Shared, InF t cenv.locals m₂ u → u.heap.Ns cenv.globals X.mg := fun u ⟨kk, _⟩ => by
    rw [G.gl]
    exact I1.mod.glob.keeps fun b o e => keeps_get kk _ _ (hb b o e)
  have kin : ∀ u : Shared, InF t cenv.locals m₂ u → X.K.In u.heap := fun u ⟨kk, _⟩ => I1.mod.kin.keeps fun b o e => keeps_get kk _ _ (hb b o e)
  have rsome : ∀ {p : Pos}, RE X.prog X.w A' (InF t cenv.locals m₂) cenv (.Name "some" p) (· = .ref a) := fun {p} => re_free kf (kd h2) hcc (fun u ⟨kk, _⟩ => hcell.keeps (keeps_get kk)) rfl
  have rp : ∀ {p : Pos}, RE X.prog X.w A' (InF t cenv.locals m₂) cenv (.Name "place" p) (IsI (1 + (i : Int))) := fun {p} => re_loc kf (kd h1) (fun u ⟨_, n⟩ => ⟨m₂, n, hm⟩) ⟨tk, rfl⟩
  have rcall : ∀ {q : Int} {e : Expr} {q1 q2 q3 : Pos}, RE X.prog X.w A' (InF t cenv.locals m₂) cenv e (IsI q) → starEach [.Name "some" q2, e] cenv = (false, eval (.Name "some" q2) cenv) :: starEach [e] cenv → starEach [e] cenv = (false, eval e cenv) :: starEach [] cenv → (backTo q3 (starEach [e] cenv)).any (·.1) = false →
      RE X.prog X.w A' (InF t cenv.locals m₂) cenv (.Call (.Name "entry" q1) [.Name "some" q2, e] [] q3) (IsI (entryL xs q)) := fun {q e q1 q2 q3} he hs1 hs2 hs3 =>
    re_call (X := I1.mod.kin) inF_ok FE.kp kin (re_glob kf (kd h3) glb gE rfl) (ra_cons inF_ok rsome (ra_cons inF_ok he ra_nil hs2) hs1) (fun E s vs pr hv => by
      obtain ⟨_, _, rfl, rfl, _, _, rfl, ⟨t2, rfl⟩, rfl⟩ := hv
      exact rw_entry I1.mod FE T.len (by have := hr.dp; omega) (fun b o e => keeps_get pr.1 _ _ (hb b o e)) (htup.keeps (keeps_get pr.1)) h0 h8) hs1 hs3
  exact (re_cmp (A := A') (prog := X.prog) (w := X.w) (pos := p11) inF_ok (rcall (q1 := p1) (q2 := p2) (q3 := p4) (rp (p := p3)) rfl rfl rfl) (rcall (q1 := p5) (q2 := p6) (q3 := p10) (re_bin (pos := p9) inF_ok (rp (p := p7)) (re_int (k := j) (pos := p8)) ro_add) rfl rfl rfl) ro_eq (nomark _)) E' t ⟨Rg.keeps_refl t, hn⟩
def spComes (Ps : List Addr) (Pt : Addr) : Sp := fun vs H Q _ => ∃ (a : Addr) (s : L), vs = [.ref a] ∧ IT H a s ∧ 2 ≤ s.length ∧ s.length ≤ 8 ∧ TabG H Pt ∧ ∀ H', Sm Ps H H' → TabG H' Pt → Q (.bl (comesL s)) H'
theorem ok_comes {f fE fF c Pt : Addr} {fd fdE fdF : FuncData} {Ps : List Addr} (F : FunC K "comes" "comes" sComes f fd c) (TB : TabB base mg c Pt) (FE : Fun K "entry" "entry" sEntry fE fdE) (gE : mg "entry" = some (.ref fE)) (FF : Fun K "first_row" "first_row" sFirst fF fdF) (bF : Binds K fdF ["size"] []) (gF : mg "first_row" = some (.ref fF)) (T : Txt mg) :
    FnOk P w K mg base CX0 2 f fd ["some"] (spComes Ps Pt) := by
  have GF : FnOk P w K mg base CX0 1 fF fdF ["size"] spFirst := ok_first FF T
  refine F.ok scComes (fun vs H Q E h => ?_) (fun A outer s H vs Q E hr h => ?_)
  · obtain ⟨a, xs, rfl, _⟩ := h
    rfl
  · obtain ⟨a, xs, rfl, ht, h2, h8, hT, q⟩ := h
    have el : (xs.map V.int).length = xs.length := List.length_map _
    have kcell : (defScope sComes).names.lookup ("some" : Str) = some .cell := rfl
    refine ⟨_, pss_cons (ps_if (pt_cmpR (op_eqD hr.units) (pv 0) (pe_call GF hr (by rfl) gF FF.kp bF .nil pass0 (pa_cons (pe_callB call_len_seq (by rfl) T.len PySem.boot_len (pa_cons (pv 0) pa_nil)) pa_nil)) (nomark _)) (pss_one (ps_ret pe_bl)) pss_nil)
      (pss_one (ps_ret (pe_anyR hr (by rfl) T.any TB rfl ⟨rfl, rfl, by decide +kernel, rfl, rfl, free_ok ["some"] rfl (fun x hx => by
            rw [List.mem_singleton.mp hx]
            exact cell_has kcell)⟩ (prg_2 (by rfl) T.range pe_int (pe_op op_add (pe_callB call_len_seq (by rfl) T.len PySem.boot_len (pa_cons (pv 0) pa_nil)) pe_int)) (fun _ => by rfl)
            (fun _ _ _ _ hq ⟨v, e, p, ys, e1, e2, i, j, e3, e4, i', j', e5, e6, q⟩ => ⟨v, e, p, ys, e1, e2, i, j, e3, e4, i', j', e5, e6, hq _ _ _ q⟩)))), ?_⟩
    refine ⟨.ref a, rfl, .ref a, rfl, a, _, rfl, .inr ht.seq, xs.length, by rw [el]; rfl, by omega, fun p np => ?_⟩
    have s1 : Same H (upd H p (.tup ((firstL xs.length).map V.int))) := same_upd np
    refine ⟨iT xs, iT (firstL xs.length), dp_it (s1 _ _ ht), dp_it upd_same, shaped_it _, shaped_it _, _, rfl, ?_⟩
    rw [eqv_it]
    have m1 : Sm Ps H (upd H p (.tup ((firstL xs.length).map V.int))) := Sm.upd np
    have hT1 : TabG (upd H p (.tup ((firstL xs.length).map V.int))) Pt := by
      obtain ⟨ps, b, t⟩ := hT
      exact ⟨ps, s1 _ _ b, t⟩
    cases eA : decide (xs = firstL xs.length) with
    | true =>
      refine iteT ?_
      unfold comesL at q
      rw [eA, Bool.true_or] at q
      exact q _ m1 hT1
    | false =>
      refine iteF ?_
      unfold comesL at q
      rw [eA, Bool.false_or] at q
      have ht1 := m1.it ht
      refine ⟨.ref a, rfl, a, _, rfl, .inr ht1.seq, _, 1, rfl, rfl, 1, _, rfl, rfl, RgOk.of_le (by omega) (by rw [el]; omega) (by omega) (by rw [el]; omega), hT1, ?_⟩
      rw [el, show ((xs.length : Int) + 1 - 1).toNat = xs.length by omega]
      exact ⟨_, fun pins s1 I1 => elt_comes hr FE gE T rfl rfl rfl rfl (fun _ => rfl) rfl rfl kcell I1 hT1 ht1 (by omega) (by omega), fun H2 hT2 => q _ (m1.trans (Sm.tabbed hT1 hT2)) hT2.1⟩
/-! ### count_of -/
theorem cntTo_eq {s : L} {i : Nat} (e : entryL s (1 + (i : Int)) = entryL s (1 + (i : Int) + 1)) : cntTo s (i + 1) = cntTo s i := by
  show (if _ then _ else _) = _
  rw [if_pos e]
theorem cntTo_ne {s : L} {i : Nat} (e : ¬ entryL s (1 + (i : Int)) = entryL s (1 + (i : Int) + 1)) : cntTo s (i + 1) = cntTo s i + (1 + (i : Int)) - entryL s (1 + (i : Int)) := by
  show (if _ then _ else _) = _
  rw [if_neg e]
def spCount : Sp := fun vs H Q _ => ∃ (a : Addr) (s : L), vs = [.ref a] ∧ IT H a s ∧ 0 < s.length ∧ s.length ≤ 1000 ∧ Q (.int (cntL s)) H
theorem scCount : FnScope ["some", "found", "place"] ["some"] (defScope sCount) := ⟨rfl, rfl, rfl, by decide +kernel, rfl, by decide +kernel, by decide +kernel⟩
theorem ok_count {f fE : Addr} {fd fdE : FuncData} (F : Fun K "count_of" "count_of" sCount f fd) (FE : Fun K "entry" "entry" sEntry fE fdE) (bE : Binds K fdE ["some", "place"] []) (gE : mg "entry" = some (.ref fE)) (T : Txt mg) : FnOk P w K mg base CX0 2 f fd ["some"] spCount := by
  have GE : FnOk P w K mg base CX0 1 fE fdE ["some", "place"] spEntry := ok_entry FE T
  refine F.ok scCount (fun vs H Q E h => ?_) (fun cdv A outer s H vs Q E hr h => ?_)
  · obtain ⟨a, xs, rfl, _⟩ := h
    rfl
  · obtain ⟨a, xs, rfl, ht, h0, h8, q⟩ := h
    have el : (xs.map V.int).length = xs.length := List.length_map _
    refine ⟨_, pss_cons (ps_set (i := 1) scCount.nd rfl (.inl rfl) pe_int)
      (pss_cons (ps_for PassesOwn.never rfl (pi_range2 (by rfl) T.range (pa_cons pe_int (pa_cons (pe_op op_add (pe_callB call_len_seq (by rfl) T.len PySem.boot_len (pa_cons (pv 0) pa_nil)) pe_int) pa_nil))) (pg_name (i := 2) scCount.nd rfl (.inl rfl))
        (pss_one (ps_if (pt_cmpR op_ne (pe_call GE hr (by rfl) gE FE.kp bE .nil pass0 (pa_cons (pv 0) (pa_cons (pv 2) pa_nil))) (pe_call GE hr (by rfl) gE FE.kp bE .nil pass0 (pa_cons (pv 0) (pa_cons (pe_op op_add (pv 2) pe_int) pa_nil))) (nomark _))
          (pss_one (ps_set (i := 1) scCount.nd rfl (.inl rfl) (pe_op op_sub (pe_op op_add (pv 1) (pv 2)) (pe_call GE hr (by rfl) gE FE.kp bE .nil pass0 (pa_cons (pv 0) (pa_cons (pv 2) pa_nil)))))) pss_nil)))
      (pss_one (ps_ret (pv 1)))), ?_⟩
    refine ⟨.ref a, rfl, a, _, rfl, .inr ht.seq, _, 1, rfl, rfl, 1, _, rfl, ?_, ?_⟩
    · rw [el]
      exact ⟨by omega, by omega, by omega, by omega⟩
    rw [el, show ((xs.length : Int) + 1 - 1).toNat = xs.length by omega]
    refine for_range (lo := 1) (n := xs.length) (fun i σ H' => ∃ y, σ = [some (.ref a), some (.int (cntTo xs i)), y] ∧ H' = H) ⟨none, rfl, rfl⟩ ?_ ?_
    · rintro i σ H' hi ⟨y, rfl, rfl⟩
      refine ⟨.ref a, rfl, .int (1 + (i : Int)), rfl, a, xs, _, rfl, ht, h0, h8, .ref a, rfl, .int (1 + (i : Int)), rfl, _, 1, rfl, rfl, a, xs, _, rfl, ht, h0, h8, rfl, _, rfl, ?_⟩
      by_cases e : entryL xs (1 + (i : Int)) = entryL xs (1 + (i : Int) + 1)
      · have e1 : (!decide (V.int (entryL xs (1 + (i : Int))) = V.int (entryL xs (1 + (i : Int) + 1)))) = false := by simp [e]
        rw [e1]
        refine iteF ⟨some (.int (1 + (i : Int))), ?_, rfl⟩
        rw [cntTo_eq e]
        rfl
      · have e1 : (!decide (V.int (entryL xs (1 + (i : Int))) = V.int (entryL xs (1 + (i : Int) + 1)))) = true := by simp [e]
        rw [e1]
        refine iteT ⟨.int (cntTo xs i), rfl, .int (1 + (i : Int)), rfl, _, _, rfl, rfl, .ref a, rfl, .int (1 + (i : Int)), rfl, a, xs, _, rfl, ht, h0, h8, _, _, rfl, rfl, some (.int (1 + (i : Int))), ?_, rfl⟩
        rw [cntTo_ne e]
        rfl
    · rintro σ H' ⟨y, rfl, rfl⟩
      exact ⟨.int (cntTo xs xs.length), rfl, q⟩
/-! ### need_lift, lift_count -/
def spNeedLift (Ps : List Addr) (Pt : Addr) : Sp := fun vs H Q _ => ∃ (a : Addr) (s : L), vs = [.ref a] ∧ IT H a s ∧ isLift s = true ∧ TabG H Pt ∧ ∀ H', Sm Ps H H' → TabG H' Pt → Q .non H'
theorem scNeedLift : FnScope ["value"] ["value"] (defScope sNeedLift) := ⟨rfl, rfl, rfl, by decide +kernel, rfl, by decide +kernel, by decide +kernel⟩
theorem isLift_len {s : L} (h : isLift s = true) : 2 ≤ s.length ∧ s.length ≤ 8 := by
  unfold isLift at h
  simp only [Bool.and_eq_true, decide_eq_true_eq] at h
  exact ⟨h.1.1.1.1, h.1.1.1.2⟩
theorem ok_need_lift {f fL : Addr} {fd fdL : FuncData} {Pt : Addr} {Ps : List Addr} (F : Fun K "need_lift" "need_lift" sNeedLift f fd) (GL : FnOk P w K mg base CX0 2 fL fdL ["value"] (spIsLift Ps Pt)) (kL : PySem.W.keepIn K (.ref fL) = true) (bL : Binds K fdL ["value"] []) (gL : mg "is_lift" = some (.ref fL)) :
    FnOk P w K mg base CX0 3 f fd ["value"] (spNeedLift Ps Pt) := by
  refine F.ok scNeedLift (fun vs H Q E h => ?_) (fun cdv A outer s H vs Q E hr h => ?_)
  · obtain ⟨a, xs, rfl, _⟩ := h
    rfl
  · obtain ⟨a, xs, rfl, ht, hl, hT, q⟩ := h
    refine ⟨_, pss_one (ps_if (pt_not (pt_val (pe_call GL hr (by rfl) gL kL bL .nil pass0 (pa_cons (pv 0) pa_nil)))) pss_never pss_nil), ?_⟩
    refine ⟨.ref a, rfl, a, xs, rfl, ht, (isLift_len hl).1, (isLift_len hl).2, hT, fun H' m hT' => ⟨_, rfl, ?_⟩⟩
    rw [hl]
    exact iteF (q H' m hT')
def spLCount (Ps : List Addr) (P1 P2 : Addr) : Sp := fun vs H Q _ => ∃ (a : Addr) (s : L), vs = [.ref a] ∧ IT H a s ∧ isLift s = true ∧ TabG H P1 ∧ TabG H P2 ∧ ∀ H', Sm Ps H H' → Q (if comesL s = true then .int (cntL s) else .non) H'
theorem scLCount : FnScope ["lift"] ["lift"] (defScope sLCount) := ⟨rfl, rfl, rfl, by decide +kernel, rfl, by decide +kernel, by decide +kernel⟩
theorem ok_lcount {f fN fC fK : Addr} {fd fdN fdC fdK : FuncData} {P1 P2 : Addr} {Ps : List Addr} (h1 : P1 ∈ Ps) (h2 : P2 ∈ Ps) (F : Fun K "lift_count" "lift_count" sLCount f fd) (GN : FnOk P w K mg base CX0 3 fN fdN ["value"] (spNeedLift Ps P1)) (kN : PySem.W.keepIn K (.ref fN) = true) (bN : Binds K fdN ["value"] []) (gN : mg "need_lift" = some (.ref fN))
    (GC : FnOk P w K mg base CX0 2 fC fdC ["some"] (spComes Ps P2)) (kC : PySem.W.keepIn K (.ref fC) = true) (bC : Binds K fdC ["some"] []) (gC : mg "comes" = some (.ref fC))
    (GK : FnOk P w K mg base CX0 2 fK fdK ["some"] spCount) (kK : PySem.W.keepIn K (.ref fK) = true) (bK : Binds K fdK ["some"] []) (gK : mg "count_of" = some (.ref fK)) :
    FnOk P w K mg base CX0 4 f fd ["lift"] (spLCount Ps P1 P2) := by
  refine F.ok scLCount (fun vs H Q E h => ?_) (fun cdv A outer s H vs Q E hr h => ?_)
  · obtain ⟨a, xs, rfl, _⟩ := h
    rfl
  · obtain ⟨a, xs, rfl, ht, hl, hT1, hT2, q⟩ := h
    have hlen := isLift_len hl
    refine ⟨_, pss_cons (ps_expr (pe_call GN hr (by rfl) gN kN bN .nil pass0 (pa_cons (pv 0) pa_nil)))
      (pss_cons (ps_if (pt_not (pt_val (pe_call GC (hr.mono (by decide)) (by rfl) gC kC bC .nil pass0 (pa_cons (pv 0) pa_nil)))) (pss_one (ps_ret pe_non)) pss_nil)
      (pss_one (ps_ret (pe_call GK (hr.mono (by decide)) (by rfl) gK kK bK .nil pass0 (pa_cons (pv 0) pa_nil))))), ?_⟩
    refine ⟨.ref a, rfl, a, xs, rfl, ht, hl, hT1, fun H1 m1 _ => ?_⟩
    refine ⟨.ref a, rfl, a, xs, rfl, m1.it ht, hlen.1, hlen.2, m1.tb _ h2 hT2, fun H2 m2 _ => ⟨_, rfl, ?_⟩⟩
    have m := m1.trans m2
    cases eC : comesL xs with
    | true =>
      refine iteF ?_
      rw [eC, if_pos rfl] at q
      exact ⟨.ref a, rfl, a, xs, rfl, m.it ht, by omega, by omega, q _ m⟩
    | false =>
      refine iteT ?_
      rw [eC, if_neg Bool.false_ne_true] at q
      exact q _ m
end
end Rg
set_option Elab.async false
set_option linter.all false
set_option maxRecDepth 100000
set_option maxHeartbeats 4000000
/-! lifts_before -/
namespace Rg
open PySem PySem.Spec PyProof.Rows L2 GxR
/-! ### the mirror's bounds -/
theorem okL_len {s : L} (h : okL s = true) : 2 ≤ s.length ∧ s.length ≤ 8 := by
  unfold okL at h
  simp only [Bool.and_eq_true, decide_eq_true_eq] at h
  exact h.1
theorem okL_get {s : L} (h : okL s = true) (k : Nat) : -1000 ≤ s.getD k 0 ∧ s.getD k 0 ≤ 1000 := by
  unfold okL at h
  simp only [Bool.and_eq_true, List.all_eq_true] at h
  by_cases hk : k < s.length
  · have e := h.2 s[k] (List.getElem_mem hk)
    unfold inB at e
    simp only [Bool.and_eq_true, decide_eq_true_eq] at e
    have e2 : s.getD k 0 = s[k] := by rw [List.getD_eq_getElem?_getD, List.getElem?_eq_getElem hk]; rfl
    rw [e2]
    exact e
  · have e2 : s.getD k 0 = 0 := by rw [List.getD_eq_getElem?_getD, List.getElem?_eq_none (by omega)]; rfl
    rw [e2]
    omega
theorem entry_bd {s : L} (h : okL s = true) {p : Int} (h1 : -20 ≤ p) (h2 : p ≤ 20) : -2000 ≤ entryL s p ∧ entryL s p ≤ 2000 := by
  have hl := okL_len h
  have hg := okL_get h (p - 1 - (p - 1) / (s.length : Int) * (s.length : Int)).toNat
  have hq := Int.mul_ediv_add_emod (p - 1) (s.length : Int)
  have hq0 := Int.emod_nonneg (p - 1) (show (s.length : Int) ≠ 0 by omega)
  have hq1 := Int.emod_lt_of_pos (p - 1) (show (0 : Int) < (s.length : Int) by omega)
  have hcm := Int.mul_comm (s.length : Int) ((p - 1) / (s.length : Int))
  unfold entryL
  omega
theorem putL_len {s : L} {b : Nat} {x : Int} (h1 : 1 ≤ b) (h2 : b ≤ s.length) : (putL s b x).length = s.length := by
  unfold putL
  rw [List.length_append, List.length_cons, List.length_take, List.length_drop]
  omega
theorem befIn_len (s : L) (b : Nat) (lo : Int) : ∀ {i j : Nat}, i ≤ j → (befIn s b lo i).length ≤ (befIn s b lo j).length := by
  intro i j h
  induction h with
  | refl => exact Nat.le_refl _
  | step h ih =>
    refine Nat.le_trans ih ?_
    show _ ≤ (if _ then _ else _ : List (Nat × L)).length
    split
    · rw [List.length_append]
      exact Nat.le_add_right _ _
    · exact Nat.le_refl _
theorem befTo_len (s : L) : ∀ {i j : Nat}, i ≤ j → (befTo s i).length ≤ (befTo s j).length := by
  intro i j h
  induction h with
  | refl => exact Nat.le_refl _
  | step h ih =>
    refine Nat.le_trans ih ?_
    show _ ≤ (befTo s _ ++ befAt s _).length
    rw [List.length_append]
    exact Nat.le_add_right _ _
theorem befIn_t {s : L} {b : Nat} {lo : Int} {j : Nat} (h : goodB s (putL s b (lo + (j : Int))) = true) : befIn s b lo (j + 1) = befIn s b lo j ++ [(b, putL s b (lo + (j : Int)))] := by
  show (if _ then _ else _) = _
  rw [if_pos h]
theorem befIn_f {s : L} {b : Nat} {lo : Int} {j : Nat} (h : ¬ goodB s (putL s b (lo + (j : Int))) = true) : befIn s b lo (j + 1) = befIn s b lo j := by
  show (if _ then _ else _) = _
  rw [if_neg h]
/-! ### pairs (bell, lift) in a list -/
inductive PairsAt (H : Hp) : List Addr → List (Nat × L) → Prop
  | nil : PairsAt H [] []
  | cons {p q : Addr} {b : Nat} {t : L} {ps : List Addr} {l : List (Nat × L)} : H p = some (.tup [.int (b : Int), .ref q]) → IT H q t → PairsAt H ps l → PairsAt H (p :: ps) ((b, t) :: l)
def TupK (H H' : Hp) : Prop := ∀ b xs, H b = some (.tup xs) → H' b = some (.tup xs)
theorem TupK.trans {A B C : Hp} (h : TupK A B) (g : TupK B C) : TupK A C := fun b xs e => g b xs (h b xs e)
theorem Sm.tk {Ps : List Addr} {H H' : Hp} (m : Sm Ps H H') : TupK H H' := fun b xs e => m.at_ b _ e (nt_tup xs)
theorem Same.tk {H H' : Hp} (m : Same H H') : TupK H H' := fun b xs e => m b _ e
theorem tk_upd {H : Hp} {o : Addr} {u x : HO} (h : H o = some u) (n : ∀ xs, u ≠ .tup xs) : TupK H (upd H o x) := fun b xs e => by
  have hb : b ≠ o := fun z => by
    rw [z, h] at e
    exact n xs (Option.some.inj e)
  rw [upd_ne hb]
  exact e
theorem PairsAt.mono {H H' : Hp} (m : TupK H H') : ∀ {ps : List Addr} {l : List (Nat × L)}, PairsAt H ps l → PairsAt H' ps l
  | _, _, .nil => .nil
  | _, _, .cons a b t => .cons (m _ _ a) (m _ _ b) (t.mono m)
theorem PairsAt.snoc {H : Hp} {p q : Addr} {b : Nat} {t : L} (h1 : H p = some (.tup [.int (b : Int), .ref q])) (h2 : IT H q t) : ∀ {ps : List Addr} {l : List (Nat × L)}, PairsAt H ps l → PairsAt H (ps ++ [p]) (l ++ [(b, t)])
  | _, _, .nil => .cons h1 h2 .nil
  | _, _, .cons a c r => .cons a c (r.snoc h1 h2)
theorem PairsAt.len {H : Hp} : ∀ {ps : List Addr} {l : List (Nat × L)}, PairsAt H ps l → ps.length = l.length
  | _, _, .nil => rfl
  | _, _, .cons _ _ r => by rw [List.length_cons, List.length_cons, r.len]
theorem Sm.upd_new {Ps : List Addr} {H H' : Hp} {o : Addr} {u : HO} (m : Sm Ps H H') (h : H o = none) : Sm Ps H (L2.upd H' o u) := by
  refine ⟨fun b x e n => ?_, fun p hp g => ?_, fun b e => ?_⟩
  · rw [upd_ne (ne_of_none e h)]
    exact m.at_ b x e n
  · obtain ⟨ps, a, t⟩ := id g
    refine TabG.same (m.tb p hp g) ?_
    rw [upd_ne (ne_of_none a h)]
  · by_cases hb : b = o
    · rw [hb]
      exact h
    · rw [upd_ne hb] at e
      exact m.free b e
section
variable {P : Program} {w : World} {K : PySem.W.Frag} {mg : Str → Option Value} {base : Heap}
/-- (*s[:b - 1], x, *s[b:]): a new tuple -/
theorem put_read {σ : L2.St} {H : Hp} {Q : VK} {i0 i1 i2 : Nat} {a : Addr} {s : L} {b : Nat} {x : Int} (e0 : σ[i0]? = some (some (.ref a))) (e1 : σ[i1]? = some (some (.int (b : Int)))) (e2 : σ[i2]? = some (some (.int x))) (ht : IT H a s) (h1 : 1 ≤ b) (h2 : b ≤ s.length) (h3 : s.length ≤ 1000)
    (q : ∀ H' p, Same H H' → H p = none → IT H' p (putL s b x) → Q (.ref p) H') :
    tTup (StX.tStar K (tSl (rSlA K) (tVar i0) tNoPart (tPart (tOp (rI0 fun i j => .int (i - j)) (tVar i1) (tC (.int 1))))) (tCons (tVar i2) (StX.tStar K (tSl (rSlA K) (tVar i0) (tPart (tVar i1)) tNoPart) tNil))) σ H Q := by
  have el : (s.map V.int).length = s.length := List.length_map _
  refine ⟨.ref a, e0, .int (b : Int), e1, (b : Int), 1, rfl, rfl, (b : Int) - 1, rfl, a, s.map V.int, rfl, ht.seq, fun z => ?_, fun z p1 n1 => ?_⟩
  · exfalso
    have z2 := z.2
    rw [show ((b : Int) - 1) = ((b - 1 : Nat) : Int) by omega, HT.sIx_nat, el] at z2
    omega
  · have c1 : cutV (s.map V.int) none (some ((b : Int) - 1)) = (s.map V.int).take (b - 1) := by
      rw [show ((b : Int) - 1) = ((b - 1 : Nat) : Int) by omega]
      exact cut_to _ _ (by rw [el]; omega)
    rw [c1]
    have s1 : Same H (upd H p1 (.tup ((s.map V.int).take (b - 1)))) := same_upd n1
    refine ⟨p1, _, rfl, .inl (.of upd_same), .int x, e2, .ref a, e0, .int (b : Int), e1, (b : Int), rfl, a, s.map V.int, rfl, .of (s1 _ _ ht), fun z => ?_, fun z p2 n2 => ?_⟩
    · exfalso
      have z1 := z.1
      rw [HT.sIx_nat, el] at z1
      omega
    · rw [cut_from _ _ (by rw [el]; omega)]
      have s2 := same_upd (o := .tup ((s.map V.int).drop b)) n2
      refine ⟨p2, _, rfl, .inl (.of upd_same), ?_, fun p3 n3 => ?_⟩
      · show ((s.map V.int).take (b - 1) ++ (V.int x :: ((s.map V.int).drop b ++ []))).length ≤ sizeLine
        rw [sizeLine_eq, List.append_nil, List.length_append, List.length_cons, List.length_take, List.length_drop, el]
        omega
      · refine q _ p3 ((s1.trans s2).trans (same_upd n3)) (s1.free (s2.free n3)) ?_
        show upd _ p3 (.tup ((s.map V.int).take (b - 1) ++ (V.int x :: ((s.map V.int).drop b ++ [])))) p3 = _
        rw [upd_same, List.append_nil]
        unfold putL
        rw [List.map_append, List.map_cons, List.map_take, List.map_drop]
/-- lifts_before -/
def spBefore (Ps : List Addr) (P1 P2 : Addr) : Sp := fun vs H Q _ => ∃ (a : Addr) (s : L), vs = [.ref a] ∧ IT H a s ∧ okL s = true ∧ (befL s).length ≤ 1000 ∧ TabG H P1 ∧ TabG H P2 ∧
  ∀ H' o ps, Sm Ps H H' → H o = none → H' o = some (.lst (ps.map V.ref)) → PairsAt H' ps (befL s) → Q (.ref o) H'
theorem scBefore : FnScope ["some", "found", "size", "bell", "one", "before"] ["some"] (defScope sBefore) := ⟨rfl, rfl, rfl, by decide +kernel, rfl, by decide +kernel, by decide +kernel⟩
theorem boot_min : bootBuiltins "min" = some (.builtin "min") := by decide +kernel
theorem ok_before {f fE fL fC fK : Addr} {fd fdE fdL fdC fdK : FuncData} {P1 P2 : Addr} {Ps : List Addr} (h1 : P1 ∈ Ps) (h2 : P2 ∈ Ps) (F : Fun K "lifts_before" "lifts_before" sBefore f fd)
    (GE : FnOk P w K mg base CX0 1 fE fdE ["some", "place"] spEntry) (kE : PySem.W.keepIn K (.ref fE) = true) (bE : Binds K fdE ["some", "place"] []) (gE : mg "entry" = some (.ref fE))
    (GL : FnOk P w K mg base CX0 2 fL fdL ["value"] (spIsLift Ps P1)) (kL : PySem.W.keepIn K (.ref fL) = true) (bL : Binds K fdL ["value"] []) (gL : mg "is_lift" = some (.ref fL))
    (GC : FnOk P w K mg base CX0 2 fC fdC ["some"] (spComes Ps P2)) (kC : PySem.W.keepIn K (.ref fC) = true) (bC : Binds K fdC ["some"] []) (gC : mg "comes" = some (.ref fC))
    (GK : FnOk P w K mg base CX0 2 fK fdK ["some"] spCount) (kK : PySem.W.keepIn K (.ref fK) = true) (bK : Binds K fdK ["some"] []) (gK : mg "count_of" = some (.ref fK)) (T : Txt mg) :
    FnOk P w K mg base CX0 3 f fd ["some"] (spBefore Ps P1 P2) := by
  refine F.ok scBefore (fun vs H Q E h => ?_) (fun cdv A outer s H vs Q E hr h => ?_)
  · obtain ⟨a, xs, rfl, _⟩ := h
    rfl
  · obtain ⟨a, xs, rfl, ht, hok, hbl, hT1, hT2, q⟩ := h
    have hr1 : Room 1 _ := hr.mono (by decide)
    have hlen := okL_len hok
    have el : (xs.map V.int).length = xs.length := List.length_map _
    refine ⟨_, pss_cons (ps_par rfl scBefore.nd (i := 1) (j := 2) rfl rfl (by decide) rfl rfl (pa_cons (pe_lst pa_nil) (pa_cons (pe_callB call_len_seq (by rfl) T.len PySem.boot_len (pa_cons (pv 0) pa_nil)) pa_nil)) (by rfl))
      (pss_cons (ps_for PassesOwn.never rfl (pi_range2 (by rfl) T.range (pa_cons pe_int (pa_cons (pe_op op_add (pv 2) pe_int) pa_nil))) (pg_name (i := 3) scBefore.nd rfl (.inl rfl))
        (pss_one (ps_if (pt_cmpR op_eq (pe_call GE hr1 (by rfl) gE kE bE .nil pass0 (pa_cons (pv 0) (pa_cons (pv 3) pa_nil))) (pe_call GE hr1 (by rfl) gE kE bE .nil pass0 (pa_cons (pv 0) (pa_cons (pe_op op_sub (pv 3) pe_int) pa_nil))) (nomark _))
          (pss_one (ps_for PassesOwn.never rfl (pi_range2 (by rfl) T.range (pa_cons (pe_call GE hr1 (by rfl) gE kE bE .nil pass0 (pa_cons (pv 0) (pa_cons (pe_op op_sub (pv 3) pe_int) pa_nil)))
              (pa_cons (pe_op op_add (pe_callB (call_min2 rfl) (by rfl) T.min boot_min (pa_cons (pe_call GE hr1 (by rfl) gE kE bE .nil pass0 (pa_cons (pv 0) (pa_cons (pe_op op_add (pv 3) pe_int) pa_nil))) (pa_cons (pv 3) pa_nil))) pe_int) pa_nil))) (pg_name (i := 4) scBefore.nd rfl (.inl rfl))
            (pss_cons (ps_set (i := 5) scBefore.nd rfl (.inl rfl) (pe_tup (StX.pa_star (pe_slice sl_tupA (pv 0) po_none (po_some (pe_op op_sub (pv 3) pe_int))) (pa_cons (pv 4) (StX.pa_star (pe_slice sl_tupA (pv 0) (po_some (pv 3)) po_none) pa_nil)))))
            (pss_one (ps_if (PW.pt (pw_and (pt_val (pe_call GL hr (by rfl) gL kL bL .nil pass0 (pa_cons (pv 5) pa_nil))) (pw_and (pt_val (pe_call GC hr (by rfl) gC kC bC .nil pass0 (pa_cons (pv 5) pa_nil)))
                (pw_and1 (pt_cmpR op_eq (pe_call GK hr (by rfl) gK kK bK .nil pass0 (pa_cons (pv 5) pa_nil)) (pe_op op_sub (pe_call GK hr (by rfl) gK kK bK .nil pass0 (pa_cons (pv 0) pa_nil)) pe_int) (nomark _))))))
              (pss_one (ps_expr (pe_bm PySem.F.plainAttrs_list PySem.F.slot_list_append PySem.F.type_list_append mt_append (pv 1) (pa_cons (pe_tup (pa_cons (pv 3) (pa_cons (pv 5) pa_nil))) pa_nil)))) pss_nil)))))
          pss_nil)))
      (pss_one (ps_ret (pv 1)))), ?_⟩
    -- found, size = [], len(some)
    refine ⟨Nat.zero_le _, fun o no => ⟨.ref a, rfl, a, _, rfl, .inr (IT.seq (K := K) (same_upd no _ _ ht)), _, _, rfl, ?_⟩⟩
    -- for bell in range(1, size + 1)
    refine ⟨_, rfl, _, 1, rfl, rfl, 1, _, rfl, ?_, ?_⟩
    · rw [el]
      exact ⟨by omega, by omega, by omega, by omega⟩
    rw [el, show ((xs.length : Int) + 1 - 1).toNat = xs.length by omega]
    refine for_range (lo := 1) (n := xs.length) (fun i σ H' => ∃ ps y3 y4 y5, σ = [some (.ref a), some (.ref o), some (.int (xs.length : Int)), y3, y4, y5] ∧ H' o = some (.lst (ps.map V.ref)) ∧ PairsAt H' ps (befTo xs i) ∧ Sm Ps H H')
      ⟨[], none, none, none, rfl, upd_same, .nil, Sm.upd no⟩ ?_ ?_
    · rintro i σ H1 hi ⟨ps, y3, y4, y5, rfl, hO, hp, m1⟩
      have ht1 := m1.it ht
      have hb : (1 : Int) + (i : Int) = ((i + 1 : Nat) : Int) := by omega
      have e1 := entry_bd hok (p := ((i + 1 : Nat) : Int) - 1) (by omega) (by omega)
      have e2 := entry_bd hok (p := ((i + 1 : Nat) : Int) + 1) (by omega) (by omega)
      rw [hb]
      refine ⟨.ref a, rfl, .int ((i + 1 : Nat) : Int), rfl, a, xs, _, rfl, ht1, by omega, by omega, .ref a, rfl, .int ((i + 1 : Nat) : Int), rfl, _, 1, rfl, rfl, a, xs, _, rfl, ht1, by omega, by omega, rfl, _, rfl, ?_⟩
      have eAt : befTo xs (i + 1) = befTo xs i ++ befAt xs (i + 1) := rfl
      refine ite2 (fun e => ?_) (fun e => ?_)
      · have e' : entryL xs ((i + 1 : Nat) : Int) = entryL xs (((i + 1 : Nat) : Int) - 1) := V.int.inj (of_decide_eq_true e)
        have eA : befAt xs (i + 1) = befIn xs (i + 1) (loB xs (i + 1)) (hiB xs (i + 1) - loB xs (i + 1)).toNat := by
          unfold befAt
          rw [if_pos e']
        refine ⟨.ref a, rfl, .int ((i + 1 : Nat) : Int), rfl, _, 1, rfl, rfl, a, xs, _, rfl, ht1, by omega, by omega, .ref a, rfl, .int ((i + 1 : Nat) : Int), rfl, _, 1, rfl, rfl, a, xs, _, rfl, ht1, by omega, by omega, .int ((i + 1 : Nat) : Int), rfl, _, _, rfl, _, 1, rfl, rfl, loB xs (i + 1), hiB xs (i + 1), rfl, ?_, ?_⟩
        · have b1 : -2000 ≤ loB xs (i + 1) ∧ loB xs (i + 1) ≤ 2000 := e1
          have b2 : -2001 ≤ hiB xs (i + 1) ∧ hiB xs (i + 1) ≤ 2001 := by
            unfold hiB
            split <;> omega
          exact ⟨by omega, by omega, by omega, by omega⟩
        generalize hlo : loB xs (i + 1) = lo at *
        generalize hn : (hiB xs (i + 1) - lo).toNat = n at *
        refine for_range (lo := lo) (n := n) (fun j σ H' => ∃ ps y4 y5, σ = [some (.ref a), some (.ref o), some (.int (xs.length : Int)), some (.int ((i + 1 : Nat) : Int)), y4, y5] ∧ H' o = some (.lst (ps.map V.ref)) ∧ PairsAt H' ps (befTo xs i ++ befIn xs (i + 1) lo j) ∧ Sm Ps H H')
          ⟨ps, y4, y5, rfl, hO, by rw [show befIn xs (i + 1) lo 0 = [] from rfl, List.append_nil]; exact hp, m1⟩ ?_ ?_
        · rintro j σ H2 hj ⟨ps, y4, y5, rfl, hO, hp, m2⟩
          have ht2 := m2.it ht
          dsimp only [gName, tSeq, tAsg]
          refine put_read (K := K) (σ := [some (.ref a), some (.ref o), some (.int (xs.length : Int)), some (.int ((i + 1 : Nat) : Int)), some (.int (lo + (j : Int))), y5]) (i0 := 0) (i1 := 3) (i2 := 4) (x := lo + (j : Int)) rfl rfl rfl ht2 (Nat.succ_le_succ (Nat.zero_le _)) hi (by omega) fun H3 p sm np hp3 => ?_
          have m3 : Sm Ps H H3 := m2.trans (Sm.of_same sm)
          have hlp := putL_len (x := lo + (j : Int)) (Nat.succ_le_succ (Nat.zero_le i)) hi
          generalize ht' : putL xs (i + 1) (lo + (j : Int)) = t at hp3 hlp
          refine ⟨.ref p, rfl, p, t, rfl, hp3, by omega, by omega, m3.tb _ h1 hT1, fun H4 m4 _ => ⟨_, rfl, ?_⟩⟩
          have k4 : TupK H2 H4 := (Rg.Same.tk sm).trans m4.tk
          have mm4 := m3.trans m4
          have hO4 : H4 o = some (.lst (ps.map V.ref)) := m4.at_ _ _ (sm _ _ hO) (nt_lst _)
          have fin0 : ∀ H5, Sm Ps H H5 → H5 o = some (.lst (ps.map V.ref)) → TupK H2 H5 → goodB xs t = false → ∃ ps y4 y5, ([some (.ref a), some (.ref o), some (.int (xs.length : Int)), some (.int ((i + 1 : Nat) : Int)), some (.int (lo + (j : Int))), some (.ref p)] : L2.St) = [some (.ref a), some (.ref o), some (.int (xs.length : Int)), some (.int ((i + 1 : Nat) : Int)), y4, y5] ∧ H5 o = some (.lst (ps.map V.ref)) ∧ PairsAt H5 ps (befTo xs i ++ befIn xs (i + 1) lo (j + 1)) ∧ Sm Ps H H5 := fun H5 m5 o5 k5 g => by
            refine ⟨ps, _, _, rfl, o5, ?_, m5⟩
            rw [befIn_f (by rw [ht', g]; exact Bool.false_ne_true)]
            exact hp.mono k5
          cases eL : isLift t with
          | false =>
            refine iteF (iteF ?_)
            exact fin0 H4 mm4 hO4 k4 (by unfold goodB; rw [eL, Bool.false_and])
          | true =>
            refine iteT ⟨.ref p, rfl, p, t, rfl, m4.it hp3, by omega, by omega, mm4.tb _ h2 hT2, fun H5 m5 _ => ⟨_, rfl, ?_⟩⟩
            have k5 : TupK H2 H5 := k4.trans m5.tk
            have mm5 := mm4.trans m5
            have hO5 : H5 o = some (.lst (ps.map V.ref)) := m5.at_ _ _ hO4 (nt_lst _)
            have hp5 : IT H5 p t := m5.it (m4.it hp3)
            cases eC : comesL t with
            | false =>
              refine iteF (iteF ?_)
              exact fin0 H5 mm5 hO5 k5 (by unfold goodB; rw [eL, eC, Bool.false_and, Bool.and_false])
            | true =>
              refine iteT ⟨.ref p, rfl, p, t, rfl, hp5, by omega, by omega, .ref a, rfl, a, xs, rfl, mm5.it ht, by omega, by omega, _, 1, rfl, rfl, rfl, _, rfl, ?_⟩
              refine ite2 (fun e3 => ?_) (fun e3 => ?_)
              · have e3' : cntL t = cntL xs - 1 := V.int.inj (of_decide_eq_true e3)
                have g : goodB xs t = true := by unfold goodB; rw [eL, eC, decide_eq_true e3']; rfl
                have ebf := befIn_t (s := xs) (b := i + 1) (lo := lo) (j := j) (by rw [ht']; exact g)
                have hle : (befTo xs i ++ befIn xs (i + 1) lo (j + 1)).length ≤ 1000 := by
                  refine Nat.le_trans ?_ hbl
                  refine Nat.le_trans ?_ (befTo_len xs (show i + 1 ≤ xs.length from hi))
                  rw [eAt, eA, List.length_append, List.length_append]
                  exact Nat.add_le_add_left (befIn_len _ _ _ hj) _
                rw [ebf, ← List.append_assoc, List.length_append] at hle
                have hpl := hp.len
                refine ⟨.ref o, rfl, .inl ⟨rfl, _, .of hO5⟩, .int ((i + 1 : Nat) : Int), rfl, .ref p, rfl, by show 2 ≤ sizeLine; decide, fun r nr => ?_⟩
                have nro : o ≠ r := ne_of_none hO5 nr
                have hO6 : upd H5 r (.tup [.int ((i + 1 : Nat) : Int), .ref p]) o = some (.lst (ps.map V.ref)) := by rw [upd_ne nro]; exact hO5
                refine ⟨o, _, _, rfl, rfl, hO6, ?_, ?_⟩
                · rw [List.length_map]
                  exact small1000 (by simp only [List.length_cons, List.length_nil] at hle; omega)
                · refine ⟨ps ++ [r], _, _, rfl, ?_, ?_, ?_⟩
                  · rw [upd_same, List.map_append]
                    rfl
                  · rw [ebf, ← List.append_assoc, ht']
                    have tk6 : TupK H5 (upd H5 r (.tup [.int ((i + 1 : Nat) : Int), .ref p])) := Rg.Same.tk (same_upd nr)
                    have tk7 : TupK (upd H5 r (.tup [.int ((i + 1 : Nat) : Int), .ref p])) (upd (upd H5 r (.tup [.int ((i + 1 : Nat) : Int), .ref p])) o (.lst (ps.map V.ref ++ [.ref r]))) := tk_upd hO6 (fun xs z => nomatch z)
                    exact (hp.mono (k5.trans (tk6.trans tk7))).snoc (tk7 _ _ upd_same) (tk7 _ _ (tk6 _ _ hp5))
                  · exact (mm5.trans (Sm.upd nr)).upd_new no
              · refine fin0 H5 mm5 hO5 k5 ?_
                have e3' : ¬ cntL t = cntL xs - 1 := fun z => e3 (by rw [z]; exact decide_eq_true rfl)
                unfold goodB
                rw [decide_eq_false e3', Bool.and_false, Bool.and_false]
        · rintro σ H2 ⟨ps, y4, y5, rfl, hO, hp, m2⟩
          refine ⟨ps, _, _, _, rfl, hO, ?_, m2⟩
          rw [eAt, eA]
          exact hp
      · have e' : ¬ entryL xs ((i + 1 : Nat) : Int) = entryL xs (((i + 1 : Nat) : Int) - 1) := fun z => e (by rw [z]; exact decide_eq_true rfl)
        have eA : befAt xs (i + 1) = [] := by
          unfold befAt
          rw [if_neg e']
        refine ⟨ps, _, _, _, rfl, hO, ?_, m1⟩
        rw [eAt, eA, List.append_nil]
        exact hp
    · rintro σ H1 ⟨ps, y3, y4, y5, rfl, hO, hp, m1⟩
      exact ⟨.ref o, rfl, q H1 o ps m1 no hO hp⟩
end
end Rg
set_option Elab.async false
set_option linter.all false
set_option maxRecDepth 100000
set_option maxHeartbeats 4000000
/-! smallest: the recursion with its memo -/
namespace Rg
open PySem PySem.Spec PyProof.Rows L2 GxR
/-! ### the mirror -/
theorem okS_succ {n : Nat} {s : L} (h : okS (n + 1) s = true) : okL s = true ∧ (befL s).length ≤ 1000 ∧ ∀ p ∈ befL s, okS n p.2 = true := by
  have h' : (okL s && decide ((befL s).length ≤ 1000) && (befL s).all fun p => okS n p.2) = true := h
  simp only [Bool.and_eq_true, decide_eq_true_eq, List.all_eq_true] at h'
  exact ⟨h'.1.1, h'.1.2, h'.2⟩
theorem small_eq : ∀ (n m : Nat) (s : L), okS n s = true → okS m s = true → small n s = small m s
  | 0, _, _, h, _ => nomatch h
  | _ + 1, 0, _, _, h => nomatch h
  | n + 1, m + 1, s, h1, h2 => by
    obtain ⟨_, _, a1⟩ := okS_succ h1
    obtain ⟨_, _, a2⟩ := okS_succ h2
    show minL ((befL s).map fun p => small n p.2 ++ [(p.1 : Int)]) = minL ((befL s).map fun p => small m p.2 ++ [(p.1 : Int)])
    congr 1
    exact List.map_congr_left fun p hp => by rw [small_eq n m p.2 (a1 p hp) (a2 p hp)]
theorem foldMin_mem : ∀ (l : List L) (a : L), l.foldl (fun a b => if ltL b a = true then b else a) a ∈ a :: l
  | [], a => List.mem_cons_self
  | b :: l, a => by
    rw [List.foldl_cons]
    by_cases h : ltL b a = true
    · rw [if_pos h]
      exact List.mem_cons_of_mem _ (foldMin_mem l b)
    · rw [if_neg h]
      rcases List.mem_cons.mp (foldMin_mem l a) with e | e
      · rw [e]
        exact List.mem_cons_self
      · exact List.mem_cons_of_mem _ (List.mem_cons_of_mem _ e)
theorem minL_mem {l : List L} (h : l ≠ []) : minL l ∈ l := by
  cases l with
  | nil => exact absurd rfl h
  | cons a l => exact foldMin_mem l a
theorem small_len : ∀ (n : Nat) (s : L), (small n s).length ≤ n
  | 0, _ => Nat.le_refl _
  | n + 1, s => by
    show (minL ((befL s).map fun p => small n p.2 ++ [(p.1 : Int)])).length ≤ n + 1
    by_cases h : ((befL s).map fun p => small n p.2 ++ [(p.1 : Int)]) = []
    · rw [h]
      exact Nat.zero_le _
    · obtain ⟨p, _, e⟩ := List.mem_map.mp (minL_mem h)
      rw [← e, List.length_append]
      exact Nat.succ_le_succ (small_len n p.2)
/-! ### heaps: all is kept but the dict at d -/
structure SmD (Ps : List Addr) (d : Addr) (H H' : Hp) : Prop where
  at_ : ∀ b o, H b = some o → NT o → b ≠ d → H' b = some o
  tb : ∀ p ∈ Ps, TabG H p → TabG H' p
  free : ∀ b, H' b = none → H b = none
theorem SmD.trans {Ps : List Addr} {d : Addr} {H H1 H2 : Hp} (a : SmD Ps d H H1) (b : SmD Ps d H1 H2) : SmD Ps d H H2 := ⟨fun c o h n e => b.at_ c o (a.at_ c o h n e) n e, fun p hp h => b.tb p hp (a.tb p hp h), fun c h => a.free c (b.free c h)⟩
theorem SmD.of {Ps : List Addr} {d : Addr} {H H' : Hp} (m : Sm Ps H H') : SmD Ps d H H' := ⟨fun b o h n _ => m.at_ b o h n, m.tb, m.free⟩
theorem SmD.put {Ps : List Addr} {d : Addr} {H H' : Hp} {kvs : List (List Key × V)} {u : HO} (m : SmD Ps d H H') (h : H' d = some (.dT kvs)) : SmD Ps d H (upd H' d u) := by
  refine ⟨fun b o e n hb => ?_, fun p hp g => ?_, fun b e => ?_⟩
  · rw [upd_ne hb]
    exact m.at_ b o e n hb
  · obtain ⟨ps, a, t⟩ := m.tb p hp g
    have hb : p ≠ d := fun z => by
      rw [z, h] at a
      cases a
    exact ⟨ps, by rw [upd_ne hb]; exact a, t⟩
  · by_cases hb : b = d
    · rw [hb, upd_same] at e
      cases e
    · rw [upd_ne hb] at e
      exact m.free b e
theorem SmD.new {Ps : List Addr} {d : Addr} {H H' : Hp} {o : Addr} {u : HO} (m : SmD Ps d H H') (h : H o = none) : SmD Ps d H (upd H' o u) := by
  refine ⟨fun b x e n hb => ?_, fun p hp g => ?_, fun b e => ?_⟩
  · rw [upd_ne (ne_of_none e h)]
    exact m.at_ b x e n hb
  · obtain ⟨ps, a, t⟩ := id g
    refine TabG.same (m.tb p hp g) ?_
    rw [upd_ne (ne_of_none a h)]
  · by_cases hb : b = o
    · rw [hb]
      exact h
    · rw [upd_ne hb] at e
      exact m.free b e
theorem SmD.tk {Ps : List Addr} {d : Addr} {H H' : Hp} {kvs : List (List Key × V)} (m : SmD Ps d H H') (h : H d = some (.dT kvs)) : TupK H H' := fun b xs e => m.at_ b _ e (nt_tup xs) fun z => by
  rw [z, h] at e
  cases e
abbrev kk (s : L) : List Key := s.map Sum.inl
theorem kk_V (s : L) : (kk s).map kV = s.map V.int := by
  rw [List.map_map]
  rfl
theorem kk_inj {s t : L} (h : kk s = kk t) : s = t := (List.map_inj_right fun a b e => Sum.inl.inj e).mp h
/-- the memo: each lift's smallest shortest row -/
def Memo (H : Hp) (kvs : List (List Key × V)) : Prop := ∀ k v, valV kvs k = some v → ∃ m s q, k = kk s ∧ okS m s = true ∧ v = .ref q ∧ IT H q (small m s)
theorem Memo.mono {H H' : Hp} {kvs : List (List Key × V)} (m : TupK H H') (h : Memo H kvs) : Memo H' kvs := fun k v e => by
  obtain ⟨n, s, q, a, b, c, d⟩ := h k v e
  exact ⟨n, s, q, a, b, c, m _ _ d⟩
theorem PairsAt.get {H : Hp} : ∀ {ps : List Addr} {l : List (Nat × L)} {i : Nat} {p : Addr}, PairsAt H ps l → ps[i]? = some p → ∃ b t q, l[i]? = some (b, t) ∧ H p = some (.tup [.int (b : Int), .ref q]) ∧ IT H q t
  | _, _, _, _, .nil, e => by simp at e
  | _, _, 0, _, .cons a c _, e => by
    rw [List.getElem?_cons_zero] at e
    cases e
    exact ⟨_, _, _, rfl, a, c⟩
  | _, _, i + 1, _, .cons a c r, e => by
    rw [List.getElem?_cons_succ] at e
    obtain ⟨b, t, q, h1, h2, h3⟩ := r.get e
    exact ⟨b, t, q, by rw [List.getElem?_cons_succ]; exact h1, h2, h3⟩
theorem TupsAt.mono {K : PySem.W.Frag} {H H' : Hp} (m : TupK H H') {bs : BS} (h : ∀ b ∈ bs, IT H b.1 b.2) : ∀ b ∈ bs, IT H' b.1 b.2 := fun b hb => m _ _ (h b hb)
section
variable {P : Program} {w : World} {K : PySem.W.Frag} {mg : Str → Option Value} {base : Heap}
/-- smallest -/
def spSmall (Ps : List Addr) (P1 P2 : Addr) (n : Nat) : Sp := fun vs H Q _ => ∃ (a d : Addr) (s : L) (kvs : List (List Key × V)), vs = [.ref a, .ref d] ∧ IT H a s ∧ okS n s = true ∧ H d = some (.dT kvs) ∧ Memo H kvs ∧ kvs.length + tot n s ≤ 1000000 ∧ TabG H P1 ∧ TabG H P2 ∧ n ≤ 1000 ∧
  ∀ H' q kvs', SmD Ps d H H' → H' d = some (.dT kvs') → Memo H' kvs' → kvs'.length ≤ kvs.length + tot n s → IT H' q (small n s) → Q (.ref q) H'
theorem scSmall : FnScope ["some", "known", "rows", "bell", "before"] ["some", "known"] (defScope sSmallest) := ⟨rfl, rfl, rfl, by decide +kernel, rfl, by decide +kernel, by decide +kernel⟩
theorem tot_take (f : Nat × L → Nat) (l : List (Nat × L)) (i : Nat) : ((l.take i).map f).sum ≤ (l.map f).sum := by
  have e : l.map f = (l.take i).map f ++ (l.drop i).map f := by rw [← List.map_append, List.take_append_drop]
  rw [e, List.sum_append]
  exact Nat.le_add_right _ _
theorem ok_small_step {f fB : Addr} {fd fdB : FuncData} {P1 P2 : Addr} {Ps : List Addr} (h1 : P1 ∈ Ps) (h2 : P2 ∈ Ps) {n k : Nat} (hk : 3 ≤ k) (F : Fun K "smallest" "smallest" sSmallest f fd) (bS : Binds K fd ["some", "known"] []) (gS : mg "smallest" = some (.ref f))
    (GB : FnOk P w K mg base CX0 3 fB fdB ["some"] (spBefore Ps P1 P2)) (kB : PySem.W.keepIn K (.ref fB) = true) (bB : Binds K fdB ["some"] []) (gB : mg "lifts_before" = some (.ref fB)) (T : Txt mg)
    (GS : FnOk P w K mg base CX0 k f fd ["some", "known"] (spSmall Ps P1 P2 n)) : FnOk P w K mg base CX0 (k + 1) f fd ["some", "known"] (spSmall Ps P1 P2 (n + 1)) := by
  refine F.ok scSmall (fun vs H Q E h => ?_) (fun cdv A outer s H vs Q E hr h => ?_)
  · obtain ⟨a, d, xs, kvs, rfl, _⟩ := h
    rfl
  · obtain ⟨a, d, xs, kvs, rfl, ht, hok, hd, hm, hz, hT1, hT2, hn, q⟩ := h
    obtain ⟨hokL, hbl, hbs⟩ := okS_succ hok
    have hu := hu_of hr
    have hu100 : (A.deeper (envOfC "smallest" (defScope sSmallest) s.heap.objs.size f cdv)).units + 100 < cLine := by
      have := hr.un
      omega
    have etot : tot (n + 1) xs = 1 + ((befL xs).map fun p => tot n p.2).sum := rfl
    refine ⟨_, pss_cons (ps_if (pt_cmp (pc_dnotin hu (pv 0) (pv 1)))
        (pss_cons (ps_setLc (i := 2) (own := [("bell", 3), ("before", 4)]) (g := gTup K 2 (gCons (gName 3) (gCons (gName 4) gNil))) (tt := tYes) (te := tTup (StX.tStar K (tCall (spSmall Ps P1 P2 n) [] E0 (tCons (tVar 4) (tCons (tVar 1) tNil))) (tCons (tVar 3) tNil))) rfl scSmall.nd rfl rfl (sw_true rfl rfl rfl (by decide +kernel))
            (pi_list (pe_call GB (hr.mono hk) (by rfl) gB kB bB .nil pass0 (pa_cons (pv 0) pa_nil))) (blkOk_by (own := [("bell", 3), ("before", 4)]) (N := ["some", "known", "rows", "bell", "before"]) (sc := defScope sSmallest) (by decide +kernel))
            (fun _ _ _ _ _ => pg_tup rfl (pgs_cons (pg_name (i := 3) scSmall.nd rfl (Or.inl rfl)) (pgs_cons (pg_name (i := 4) scSmall.nd rfl (Or.inl rfl)) pgs_nil))) (fun _ _ _ _ _ => pts_nil)
            (fun _ _ _ _ _ => pe_tup (StX.pa_star (pe_call GS hr (by rfl) gS F.kp bS .nil pass0 (pa_cons (pv 4) (pa_cons (pv 1) pa_nil))) (pa_cons (pv 3) pa_nil))))
        (pss_one (ps_dput hu (pv 1) (pv 0) (pe_ifExp (pt_truth (pv 2) (by intro _; rfl)) (pe_callB (cr_minT rfl hu100) (by rfl) T.min boot_min (pa_cons (pv 2) pa_nil)) (pe_tup pa_nil)) rfl))) pss_nil)
      (pss_one (ps_ret (pe_dget hu (pv 1) (pv 0) (fun _ _ => rfl)))), ?_⟩
    have keyH : ∀ {H' : Hp}, IT H' a xs → H' a = some (.tup ((kk xs).map kV)) := fun {H'} h => by rw [kk_V]; exact h
    -- some not in known
    refine ⟨.ref a, rfl, .ref d, rfl, d, _, rfl, DGet.t hd (keyH ht), _, rfl, ?_⟩
    cases eV : valV kvs (kk xs) with
    | some v =>
      refine iteF ?_
      obtain ⟨m, s', r, e1, e2, rfl, e3⟩ := hm _ _ eV
      have es := kk_inj e1
      subst es
      rw [small_eq m (n + 1) xs e2 hok] at e3
      refine ⟨.ref d, rfl, .ref a, rfl, d, .ref r, rfl, by rw [← eV]; exact DGet.t hd (keyH ht), ?_⟩
      exact q H r kvs ⟨fun _ _ h _ _ => h, fun _ _ h => h, fun _ h => h⟩ hd hm (Nat.le_add_right _ _) e3
    | none =>
      refine iteT ?_
      -- rows = [..]
      refine ⟨.ref a, rfl, a, xs, rfl, ht, hokL, hbl, hT1, hT2, fun H1 o ps m1 no hO hp => ⟨o, rfl, ⟨_, .of hO⟩, fun D nD => ?_⟩⟩
      have nDo : o ≠ D := ne_of_none hO nD
      have hd1 : H1 d = some (.dT kvs) := m1.at_ _ _ hd (nt_dT _)
      have nDd : d ≠ D := ne_of_none hd1 nD
      have nDH : H D = none := m1.free D nD
      have hpl := hp.len
      refine lc_list (K := K) (a := o) (xs := ps.map V.ref) (fun i H2 => ∃ (kvs2 : List (List Key × V)) (bs : BS), SmD Ps d H H2 ∧ H2 o = some (.lst (ps.map V.ref)) ∧ PairsAt H2 ps (befL xs) ∧ H2 d = some (.dT kvs2) ∧ Memo H2 kvs2 ∧ kvs2.length ≤ kvs.length + (((befL xs).take i).map fun p => tot n p.2).sum ∧
          H2 D = some (.lst (bs.map fun b => V.ref b.1)) ∧ bs.map (·.2) = ((befL xs).take i).map (fun p => small n p.2 ++ [(p.1 : Int)]) ∧ ∀ b ∈ bs, IT H2 b.1 b.2)
        ⟨kvs, [], (SmD.of m1).new nDH, by rw [upd_ne nDo]; exact hO, hp.mono (Rg.Same.tk (same_upd nD)), by rw [upd_ne nDd]; exact hd1, hm.mono (m1.tk.trans (Rg.Same.tk (same_upd nD))), Nat.le_add_right _ _, by rw [upd_same]; rfl, rfl, fun _ z => nomatch z⟩
        (fun i H2 _ ⟨_, _, _, hO2, _⟩ => .of hO2) ?_ ?_
      · rintro i x H2 hx ⟨kvs2, bs, m2, hO2, hp2, hd2, hm2, hl2, hD2, hb2, ht2⟩
        rw [List.getElem?_map] at hx
        cases ep : ps[i]? with
        | none =>
          rw [ep] at hx
          cases hx
        | some p =>
          rw [ep] at hx
          have hx' : V.ref p = x := Option.some.inj hx
          subst hx'
          obtain ⟨b, t, r, eg, hpp, htt⟩ := hp2.get ep
          have hmem : (b, t) ∈ befL xs := List.mem_of_getElem? eg
          have hilt : i < (befL xs).length := (List.getElem?_eq_some_iff.mp eg).1
          have etk : (befL xs).take (i + 1) = (befL xs).take i ++ [(b, t)] := by
            rw [List.take_add_one, eg]
            rfl
          have hsum : (((befL xs).take (i + 1)).map fun p => tot n p.2).sum = (((befL xs).take i).map fun p => tot n p.2).sum + tot n t := by
            rw [etk, List.map_append, List.sum_append]
            simp
          have hle := tot_take (fun p => tot n p.2) (befL xs) (i + 1)
          refine ⟨p, _, rfl, .of hpp, rfl, .int (b : Int), _, rfl, .ref r, _, rfl, rfl, rfl, ?_⟩
          dsimp only [tYes]
          refine iteT ?_
          refine ⟨.ref r, rfl, .ref d, rfl, r, d, t, kvs2, rfl, htt, hbs _ hmem, hd2, hm2, by omega, m2.tb _ h1 hT1, m2.tb _ h2 hT2, by omega, fun H3 r2 kvs3 m3 hd3 hm3 hl3 hr3 => ?_⟩
          have k3 : TupK H2 H3 := m3.tk hd2
          have nod : o ≠ d := fun z => by
            rw [z, hd2] at hO2
            cases hO2
          have nDd2 : D ≠ d := Ne.symm nDd
          have hD3 : H3 D = some (.lst (bs.map fun b => V.ref b.1)) := m3.at_ _ _ hD2 (nt_lst _) nDd2
          have hO3 := m3.at_ _ _ hO2 (nt_lst _) nod
          refine ⟨r2, _, rfl, .inl hr3.seq, .int (b : Int), rfl, ?_, fun z nz => ?_⟩
          · have := small_len n t
            show ((small n t).map V.int ++ [V.int (b : Int)]).length ≤ sizeLine
            rw [List.length_append, List.length_map, sizeLine_eq]
            show _ + 1 ≤ _
            omega
          · have k4 : TupK H3 (upd H3 z (.tup ((small n t).map V.int ++ [V.int (b : Int)]))) := Rg.Same.tk (same_upd nz)
            have nzD : D ≠ z := ne_of_none hD3 nz
            have nzo : o ≠ z := ne_of_none hO3 nz
            have nzd : d ≠ z := ne_of_none hd3 nz
            have hD4 : upd H3 z (.tup ((small n t).map V.int ++ [V.int (b : Int)])) D = some (.lst (bs.map fun b => V.ref b.1)) := by rw [upd_ne nzD]; exact hD3
            have k5 : TupK (upd H3 z (.tup ((small n t).map V.int ++ [V.int (b : Int)]))) (upd (upd H3 z (.tup ((small n t).map V.int ++ [V.int (b : Int)]))) D (.lst ((bs.map fun b => V.ref b.1) ++ [.ref z]))) := tk_upd hD4 fun _ w => nomatch w
            have hbl2 : bs.length = i := by
              have := congrArg List.length hb2
              rw [List.length_map, List.length_map, List.length_take] at this
              omega
            have eit : (small n t).map V.int ++ [V.int (b : Int)] = (small n t ++ [(b : Int)]).map V.int := by rw [List.map_append]; rfl
            refine ⟨_, hD4, by rw [List.length_map]; exact small1000 (by omega), kvs3, bs ++ [(z, small n t ++ [(b : Int)])], ?_, ?_, ?_, ?_, ?_, ?_, ?_, ?_, ?_⟩
            · exact ((m2.trans m3).new ((m2.trans m3).free z nz)).new nDH
            · rw [upd_ne nDo, upd_ne nzo]
              exact hO3
            · exact hp2.mono (k3.trans (k4.trans k5))
            · rw [upd_ne nDd, upd_ne nzd]
              exact hd3
            · exact hm3.mono (k4.trans k5)
            · rw [hsum]
              omega
            · rw [upd_same, List.map_append]
              rfl
            · rw [List.map_append, hb2, etk, List.map_append]
              rfl
            · intro c hc
              rcases List.mem_append.mp hc with hc | hc
              · exact k5 _ _ (k4 _ _ (k3 _ _ (ht2 c hc)))
              · rw [List.mem_singleton.mp hc]
                refine k5 _ _ ?_
                rw [upd_same, eit]
      · rintro H2 ⟨kvs2, bs, m2, hO2, hp2, hd2, hm2, hl2, hD2, hb2, ht2⟩
        rw [List.length_map, hpl, List.take_length] at hl2 hb2
        have ht2a : IT H2 a xs := m2.at_ _ _ ht (nt_tup _) fun z => by
          have ht' : H a = some (.tup (xs.map V.int)) := ht
          rw [z, hd] at ht'
          cases ht'
        -- the end of both ways
        have fin : ∀ H3 r, IT H3 r (small (n + 1) xs) → SmD Ps d H H3 → H3 d = some (.dT kvs2) → TupK H2 H3 → ∃ a_1 H4, V.ref d = V.ref a_1 ∧ DPut H3 a_1 (.ref a) (.ref r) H4 ∧ tRet (tDGet (tVar 1) (tVar 0)) { nx := fun _ H' => Q .non H', rt := Q } [some (.ref a), some (.ref d), some (.ref D), none, none] H4 := by
          intro H3 r hr3 m3 hd3 k3
          have hta3 := k3 _ _ ht2a
          refine ⟨d, _, rfl, DPut.t hd3 (keyH hta3) (Nat.lt_of_le_of_lt (show kvs2.length ≤ 1000000 by omega) (by decide)), ?_⟩
          have k4 : TupK H3 (upd H3 d (.dT (putK kvs2 (kk xs) (.ref r)))) := tk_upd hd3 fun _ w => nomatch w
          have eP : valV (putK kvs2 (kk xs) (.ref r)) (kk xs) = some (.ref r) := by rw [valV_put, if_pos rfl]
          refine ⟨.ref d, rfl, .ref a, rfl, d, .ref r, rfl, by rw [← eP]; exact DGet.t upd_same (keyH (k4 _ _ hta3)), ?_⟩
          refine q _ r _ (m3.put hd3) upd_same ?_ ?_ (k4 _ _ hr3)
          · intro k v e
            rw [valV_put] at e
            by_cases hkk : k = kk xs
            · rw [if_pos hkk] at e
              cases e
              exact ⟨n + 1, xs, r, hkk, hok, rfl, k4 _ _ hr3⟩
            · rw [if_neg hkk] at e
              exact (hm2.mono (k3.trans k4)) k v e
          · have := length_putK kvs2 (kk xs) (.ref r)
            rw [etot]
            omega
        refine ⟨.ref D, rfl, !(bs.map fun b => V.ref b.1).isEmpty, .inl ⟨_, .of hD2, rfl⟩, ?_⟩
        have esm : small (n + 1) xs = minL (bs.map (·.2)) := by rw [hb2]; rfl
        cases bs with
        | nil =>
          refine iteF ⟨by show 0 ≤ sizeLine; decide, fun z nz => ?_⟩
          have hdz : d ≠ z := ne_of_none hd2 nz
          refine ⟨.ref d, rfl, .ref a, rfl, fin _ z ?_ (m2.new (m2.free z nz)) (by rw [upd_ne hdz]; exact hd2) (Rg.Same.tk (same_upd nz))⟩
          rw [esm]
          exact upd_same
        | cons b0 bs0 =>
          refine iteT ⟨.ref D, rfl, D, b0 :: bs0, rfl, .of hD2, fun b hb => (ht2 b hb).seq, List.cons_ne_nil _ _, fun b hb eb => ?_⟩
          refine ⟨.ref d, rfl, .ref a, rfl, fin H2 b.1 ?_ m2 hd2 (fun _ _ e => e)⟩
          rw [esm, ← eb]
          exact ht2 b hb
theorem ok_small {f fB : Addr} {fd fdB : FuncData} {P1 P2 : Addr} {Ps : List Addr} (h1 : P1 ∈ Ps) (h2 : P2 ∈ Ps) (F : Fun K "smallest" "smallest" sSmallest f fd) (bS : Binds K fd ["some", "known"] []) (gS : mg "smallest" = some (.ref f))
    (GB : FnOk P w K mg base CX0 3 fB fdB ["some"] (spBefore Ps P1 P2)) (kB : PySem.W.keepIn K (.ref fB) = true) (bB : Binds K fdB ["some"] []) (gB : mg "lifts_before" = some (.ref fB)) (T : Txt mg) : ∀ n : Nat, FnOk P w K mg base CX0 (3 + n) f fd ["some", "known"] (spSmall Ps P1 P2 n)
  | 0 => ⟨fun vs H Q E ⟨_, _, _, _, _, _, h, _⟩ => (nomatch h), fun _ _ _ _ _ _ _ _ _ _ _ _ _ ⟨_, _, _, _, _, _, h, _⟩ => (nomatch h)⟩
  | n + 1 => ok_small_step h1 h2 (Nat.le_add_right _ _) F bS gS GB kB bB gB T (ok_small h1 h2 F bS gS GB kB bB gB T n)
end
end Rg
set_option Elab.async false
set_option linter.all false
set_option maxRecDepth 100000
set_option maxHeartbeats 4000000
/-! lift_bells, lifts_within -/
namespace Rg
open PySem PySem.Spec PyProof.Rows L2 GxR
/-! ### {k: v}, the key a tuple of ints -/
def tDisp1T (tk tv : TE) : TE := fun σ H Q => ∀ d, H d = none → tPairs [(tk, tv)] σ (upd H d (.dT [])) fun ps H2 => ∃ (a : Addr) (s : L) (y : V), ps = [(.ref a, y)] ∧ IT H2 a s ∧ H2 d = some (.dT []) ∧ Q (.ref d) (upd H2 d (.dT [(kk s, y)]))
theorem pe_disp1T {X : Cx} {pos : Pos} {k v : Expr} {tk tv : TE} (hu : X.A.units + 1 < cLine) (hk : PE X k tk) (hv : PE X v tv) : PE X (.Dict [some k] [v] pos) (tDisp1T tk tv) := by
  refine ⟨fun pins s σ H Q I q => ?_⟩
  have hn := I.hok.fresh (Nat.le_refl s.heap.objs.size)
  have I1 := I.laid (a := s.heap.objs.size) (o := .dT []) (h' := s.heap.push { cls := .type "dict", data := .dict #[] }) (t' := s.toks) (fun _ _ q => Heap.get?_push_of_some _ q) (Nat.le_refl _) (dt_empty s.heap I.big)
  rw [arm_eval_Dict, zip_pairTrees [some k] [v] X.env pos rfl rfl, dictDisplay_pairs (pairTrees [some k] [v] X.env pos) (fun z => nomatch z) (show 1 < 17 by decide)]
  have hP : PPs X pos [some k] [v] [(tk, tv)] := pps_cons hk hv pps_nil
  refine wpAny_bind (wpAny_standAt (wpAny_bind (wpAny_subDictH (knd := tupleKind (mixKind X.prog X.w)) (show X.A.units < cLine by omega) (show 1 ≤ 15 by decide) (thn (hP.run pins _ σ _ _ I1 (q _ hn)) fun ws s2 ⟨ps, H2, I2, rel, a, xs, y, ep, ha, hd2, q2⟩ => ?_))))
  subst ep
  cases rel with
  | @cons c0 c as bs hh t =>
    cases t
    obtain ⟨c1, c2⟩ := c
    obtain ⟨rx, ry⟩ := hh
    obtain rfl : c1 = Value.ref a := rx
    obtain ⟨z, hd, xs0, r0, dd⟩ := dt_of I2.hok hd2
    cases r0
    have ha' : H2 a = some (.tup ((kk xs).map kV)) := by rw [kk_V]; exact ha
    refine ⟨[(kk xs, a, c2)], ⟨rfl, rfl, key_of I2.hok ha', trivial⟩, dd, fun h' tk' dd' hs => ?_⟩
    have hne : a ≠ s.heap.objs.size := fun e => by
      have ha2 : H2 a = some (.tup (xs.map V.int)) := ha
      rw [e, hd2] at ha2
      cases ha2
    obtain ⟨qq, es, ep, hq, h2, h3, h4, _, h5⟩ := dd'
    refine wpAny_pure ⟨.ref s.heap.objs.size, _, d_write (ob := .dT [(kk xs, y)]) I2 (by rw [hd2]; exact True.intro) hs ⟨qq, hq⟩ ⟨show 1 ≤ sizeLine by decide, hd, [(kk xs, a, c2)], ?_, qq, es, ep, hq, h2, h3, h4, h5⟩, rfl, q2⟩
    refine .cons ⟨rfl, ?_, ry⟩ .nil
    rw [upd_ne hne]
    exact ha'
theorem SmD.fresh {Ps : List Addr} {d : Addr} {H H1 H2 : Hp} {u : HO} (m : Sm Ps H H1) (n : H1 d = none) (k : SmD Ps d (L2.upd H1 d u) H2) : Sm Ps H H2 := by
  refine ⟨fun b o e nt => ?_, fun p hp g => ?_, fun b e => ?_⟩
  · have e1 := m.at_ b o e nt
    have hb : b ≠ d := ne_of_none e1 n
    exact k.at_ b o (by rw [upd_ne hb]; exact e1) nt hb
  · refine k.tb p hp ?_
    obtain ⟨ps, a, t⟩ := id (m.tb p hp g)
    exact ⟨ps, by rw [upd_ne (ne_of_none a n)]; exact a, t⟩
  · have e1 := k.free b e
    by_cases hb : b = d
    · rw [hb]
      exact m.free d n
    · rw [upd_ne hb] at e1
      exact m.free b e1
/-! ### the mirror of lifts_within -/
abbrev LL := List L × List L
def wIn (here : L) (p : LL) : Nat → LL
  | 0 => p
  | i + 1 => wBell here (wIn here p i) (i + 1)
theorem wHere_eq (n : Nat) (p : LL) (here : L) : wHere n p here = wIn here p n := by
  unfold wHere
  induction n with
  | zero => rfl
  | succ n ih => rw [List.range_succ, List.foldl_append, ih]; rfl
theorem wBell_le (here : L) (p : LL) (b : Nat) : p.1.length ≤ (wBell here p b).1.length := by
  unfold wBell
  split
  · exact Nat.le_refl _
  · rw [List.length_append]
    exact Nat.le_add_right _ _
theorem wBell_inv {here : L} {p : LL} {b : Nat} (h : p.2.length ≤ p.1.length) : (wBell here p b).2.length ≤ (wBell here p b).1.length := by
  unfold wBell
  split
  · exact h
  · rw [List.length_append, List.length_append]
    exact Nat.add_le_add_right h _
theorem wIn_le (here : L) (p : LL) {i j : Nat} (h : i ≤ j) : (wIn here p i).1.length ≤ (wIn here p j).1.length := by
  induction h with
  | refl => exact Nat.le_refl _
  | step h ih => exact Nat.le_trans ih (wBell_le _ _ _)
theorem wHere_le (n : Nat) (p : LL) (here : L) : p.1.length ≤ (wHere n p here).1.length := by
  rw [wHere_eq]
  exact wIn_le here p (Nat.zero_le n)
theorem wFold_le (n : Nat) : ∀ (rows : List L) (p : LL), p.1.length ≤ (rows.foldl (wHere n) p).1.length
  | [], _ => Nat.le_refl _
  | r :: rows, p => Nat.le_trans (wHere_le n p r) (wFold_le n rows _)
theorem wTake_le (n : Nat) (rows : List L) (p : LL) (i : Nat) : ((rows.take i).foldl (wHere n) p).1.length ≤ (rows.foldl (wHere n) p).1.length := by
  have e : rows.foldl (wHere n) p = (rows.drop i).foldl (wHere n) ((rows.take i).foldl (wHere n) p) := by rw [← List.foldl_append, List.take_append_drop]
  rw [e]
  exact wFold_le _ _ _
theorem wTo_le (n : Nat) {i j : Nat} (h : i ≤ j) : (wTo n i).1.length ≤ (wTo n j).1.length := by
  induction h with
  | refl => exact Nat.le_refl _
  | @step m h ih => exact Nat.le_trans ih (wFold_le n (wTo n m).2 ((wTo n m).1, []))
theorem fold_take {α β : Type} (f : β → α → β) (b : β) {l : List α} {i : Nat} {x : α} (h : l[i]? = some x) : (l.take (i + 1)).foldl f b = f ((l.take i).foldl f b) x := by
  rw [List.take_add_one, h, List.foldl_append]
  rfl
theorem rungL_len {s : L} {b : Nat} (h1 : 1 ≤ b) (h2 : b ≤ s.length) : (rungL s b).length = s.length := by
  unfold rungL
  rw [List.length_append, List.length_cons, List.length_take, List.length_drop]
  omega
/-- the dict's keys are these tuples -/
abbrev KeysAre (kvs : List (List Key × V)) (l : List L) : Prop := kvs.map (·.1) = l.map kk
theorem keys_in : ∀ {kvs : List (List Key × V)} {l : List L} (s : L), KeysAre kvs l → (valV kvs (kk s)).isSome = decide (s ∈ l)
  | [], [], s, _ => rfl
  | [], _ :: _, _, h => by simp [KeysAre] at h
  | _ :: _, [], _, h => by simp [KeysAre] at h
  | p :: kvs, t :: l, s, h => by
    rw [KeysAre, List.map_cons, List.map_cons] at h
    injection h with h1 h2
    by_cases e : s = t
    · have e1 : p.1 = kk s := by rw [h1, e]
      rw [valV_pos e1]
      simp [e]
    · have e1 : ¬ p.1 = kk s := fun z => e (kk_inj (z.symm.trans h1))
      rw [valV_neg e1, keys_in s h2]
      simp [e]
theorem keys_put {kvs : List (List Key × V)} {l : List L} {s : L} {v : V} (h : KeysAre kvs l) (n : ¬ s ∈ l) : KeysAre (putK kvs (kk s) v) (l ++ [s]) := by
  have e : valV kvs (kk s) = none := by
    have := keys_in s h
    rw [decide_eq_false n] at this
    exact Option.isSome_eq_false_iff.mp this |> fun z => by
      cases q : valV kvs (kk s) with
      | none => rfl
      | some x => rw [q] at this; cases this
  rw [KeysAre, putK_new v e, List.map_append, List.map_append, h]
  rfl
theorem KeysAre.len {kvs : List (List Key × V)} {l : List L} (h : KeysAre kvs l) : kvs.length = l.length := by
  have := congrArg List.length h
  rw [List.length_map, List.length_map] at this
  exact this
section
variable {P : Program} {w : World} {K : PySem.W.Frag} {mg : Str → Option Value} {base : Heap}
/-! ### lift_bells -/
def spBells (Ps : List Addr) (P1 P2 : Addr) : Sp := fun vs H Q _ => ∃ (a : Addr) (s : L), vs = [.ref a] ∧ IT H a s ∧ isLift s = true ∧ TabG H P1 ∧ TabG H P2 ∧
  (comesL s = true → okS 8 s = true ∧ cntL s ≤ 60 ∧ tot 8 s ≤ 100000 ∧ ∀ H' q, Sm Ps H H' → IT H' q (small 8 s) → Q (.ref q) H') ∧ (comesL s = false → ∀ H', Sm Ps H H' → Q .non H')
theorem scLBells : FnScope ["lift"] ["lift"] (defScope sLBells) := ⟨rfl, rfl, rfl, by decide +kernel, rfl, by decide +kernel, by decide +kernel⟩
theorem ok_bells {f fN fC fK fS : Addr} {fd fdN fdC fdK fdS : FuncData} {P1 P2 : Addr} {Ps : List Addr} (h1 : P1 ∈ Ps) (h2 : P2 ∈ Ps) (F : Fun K "lift_bells" "lift_bells" sLBells f fd) (GN : FnOk P w K mg base CX0 3 fN fdN ["value"] (spNeedLift Ps P1)) (kN : PySem.W.keepIn K (.ref fN) = true) (bN : Binds K fdN ["value"] []) (gN : mg "need_lift" = some (.ref fN))
    (GC : FnOk P w K mg base CX0 2 fC fdC ["some"] (spComes Ps P2)) (kC : PySem.W.keepIn K (.ref fC) = true) (bC : Binds K fdC ["some"] []) (gC : mg "comes" = some (.ref fC))
    (GK : FnOk P w K mg base CX0 2 fK fdK ["some"] spCount) (kK : PySem.W.keepIn K (.ref fK) = true) (bK : Binds K fdK ["some"] []) (gK : mg "count_of" = some (.ref fK))
    (GS : FnOk P w K mg base CX0 (3 + 8) fS fdS ["some", "known"] (spSmall Ps P1 P2 8)) (kS : PySem.W.keepIn K (.ref fS) = true) (bS : Binds K fdS ["some", "known"] []) (gS : mg "smallest" = some (.ref fS)) (T : Txt mg) :
    FnOk P w K mg base CX0 12 f fd ["lift"] (spBells Ps P1 P2) := by
  obtain ⟨tm, em⟩ := T.mb
  refine F.ok scLBells (fun vs H Q E h => ?_) (fun cdv A outer s H vs Q E hr h => ?_)
  · obtain ⟨a, xs, rfl, _⟩ := h
    rfl
  · obtain ⟨a, xs, rfl, ht, hl, hT1, hT2, q1, q2⟩ := h
    have hlen := isLift_len hl
    refine ⟨_, pss_cons (ps_expr (pe_call GN (hr.mono (by decide)) (by rfl) gN kN bN .nil pass0 (pa_cons (pv 0) pa_nil)))
      (pss_cons (ps_if (pt_not (pt_val (pe_call GC (hr.mono (by decide)) (by rfl) gC kC bC .nil pass0 (pa_cons (pv 0) pa_nil)))) (pss_one (ps_ret pe_non)) pss_nil)
      (pss_cons (ps_if (pt_cmpR op_gt (pe_call GK (hr.mono (by decide)) (by rfl) gK kK bK .nil pass0 (pa_cons (pv 0) pa_nil)) (pe_glob (v := .int 60) (by rfl) em ⟨_, rfl⟩) (nomark _)) pss_never pss_nil)
      (pss_one (ps_ret (pe_call GS hr (by rfl) gS kS bS .nil pass0 (pa_cons (pv 0) (pa_cons pe_dnewT pa_nil))))))), ?_⟩
    refine ⟨.ref a, rfl, a, xs, rfl, ht, hl, hT1, fun H1 m1 _ => ?_⟩
    refine ⟨.ref a, rfl, a, xs, rfl, m1.it ht, hlen.1, hlen.2, m1.tb _ h2 hT2, fun H2 m2 _ => ⟨_, rfl, ?_⟩⟩
    have m := m1.trans m2
    cases eC : comesL xs with
    | false =>
      refine iteT ?_
      exact q2 eC _ m
    | true =>
      refine iteF ?_
      obtain ⟨hok, h60, htot, q⟩ := q1 eC
      refine ⟨.ref a, rfl, a, xs, rfl, m.it ht, by omega, by omega, _, _, rfl, rfl, _, rfl, ?_⟩
      rw [decide_eq_false (show ¬ (60 : Int) < cntL xs by omega)]
      refine iteF ⟨.ref a, rfl, fun p np => ⟨a, p, xs, [], rfl, ?_, hok, upd_same, ?_, by show 0 + tot 8 xs ≤ 1000000; omega, ?_, ?_, by decide, fun H3 r kvs m3 _ _ _ hr3 => ?_⟩⟩
      · have z := m.it ht
        have z' : H2 a = some (.tup (xs.map V.int)) := z
        show upd H2 p _ a = _
        rw [upd_ne (ne_of_none z' np)]
        exact z'
      · intro k v e
        cases e
      · exact (m.trans (Sm.upd np)).tb _ h1 hT1
      · exact (m.trans (Sm.upd np)).tb _ h2 hT2
      · exact q H3 r (SmD.fresh m np m3) hr3
end
end Rg
set_option Elab.async false
set_option linter.all false
set_option maxRecDepth 100000
set_option maxHeartbeats 4000000
/-! lifts_within -/
namespace Rg
open PySem PySem.Spec PyProof.Rows L2 GxR
abbrev rfs (bs : BS) : List V := bs.map fun b => V.ref b.1
def Rows (H : Hp) (n : Nat) (bs : BS) : Prop := ∀ b ∈ bs, IT H b.1 b.2 ∧ b.2.length = n
theorem Rows.mono {H H' : Hp} {n : Nat} {bs : BS} (k : TupK H H') (h : Rows H n bs) : Rows H' n bs := fun b hb => ⟨k _ _ (h b hb).1, (h b hb).2⟩
theorem Rows.snoc {H : Hp} {n : Nat} {bs : BS} {p : Addr} {s : L} (h : Rows H n bs) (h1 : IT H p s) (h2 : s.length = n) : Rows H n (bs ++ [(p, s)]) := fun b hb => by
  rcases List.mem_append.mp hb with hb | hb
  · exact h b hb
  · rw [List.mem_singleton.mp hb]
    exact ⟨h1, h2⟩
section
variable {P : Program} {w : World} {K : PySem.W.Frag} {mg : Str → Option Value} {base : Heap}
def spWithin (Ps : List Addr) : Sp := fun vs H Q _ => ∃ (n m : Nat), vs = [.int (n : Int), .int (m : Int)] ∧ 2 ≤ n ∧ n ≤ 8 ∧ m ≤ 8 ∧ (wTo n m).1.length ≤ 900 ∧ ∀ H', Sm Ps H H' → Q (.int (within n m : Int)) H'
theorem scWithin : FnScope ["size", "many", "seen", "rows", "turn", "more", "here", "bell", "there"] ["size", "many"] (defScope sWithin) := ⟨rfl, rfl, rfl, by decide +kernel, rfl, by decide +kernel, by decide +kernel⟩
theorem ok_within {f fN fI fF fR : Addr} {fd fdN fdI fdF fdR : FuncData} {Ps : List Addr} (F : Fun K "lifts_within" "lifts_within" sWithin f fd)
    (GN : FnOk P w K mg base CX0 2 fN fdN ["size"] spNeedSize) (kN : PySem.W.keepIn K (.ref fN) = true) (bN : Binds K fdN ["size"] []) (gN : mg "need_size" = some (.ref fN))
    (GI : FnOk P w K mg base CX0 1 fI fdI ["value", "least", "most"] spIsIn) (kI : PySem.W.keepIn K (.ref fI) = true) (bI : Binds K fdI ["value", "least", "most"] []) (gI : mg "is_in" = some (.ref fI))
    (GF : FnOk P w K mg base CX0 1 fF fdF ["size"] spFirst) (kF : PySem.W.keepIn K (.ref fF) = true) (bF : Binds K fdF ["size"] []) (gF : mg "first_row" = some (.ref fF))
    (GR : FnOk P w K mg base CX0 1 fR fdR ["some", "bell"] spRung) (kR : PySem.W.keepIn K (.ref fR) = true) (bR : Binds K fdR ["some", "bell"] []) (gR : mg "rung" = some (.ref fR)) (T : Txt mg) :
    FnOk P w K mg base CX0 3 f fd ["size", "many"] (spWithin Ps) := by
  obtain ⟨tm, em⟩ := T.mw
  refine F.ok scWithin (fun vs H Q E h => ?_) (fun cdv A outer s H vs Q E hr h => ?_)
  · obtain ⟨n, m, rfl, _⟩ := h
    rfl
  · obtain ⟨n, m, rfl, hn2, hn8, hm8, hz, q⟩ := h
    have hu := hu_of hr
    have hr1 : Room 1 _ := hr.mono (by decide)
    refine ⟨_, pss_cons (ps_expr (pe_call GN hr (by rfl) gN kN bN .nil pass0 (pa_cons (pv 0) pa_nil)))
      (pss_cons (ps_if (pt_not (pt_val (pe_call GI hr1 (by rfl) gI kI bI .nil pass0 (pa_cons (pv 1) (pa_cons pe_int (pa_cons (pe_glob (v := .int 8) (by rfl) em ⟨_, rfl⟩) pa_nil)))))) pss_never pss_nil)
      (pss_cons (ps_set (i := 2) scWithin.nd rfl (.inl rfl) (pe_disp1T hu (pe_call GF hr1 (by rfl) gF kF bF .nil pass0 (pa_cons (pv 0) pa_nil)) pe_bl))
      (pss_cons (ps_set (i := 3) scWithin.nd rfl (.inl rfl) (pe_callTy (call_list_dT rfl) (by rfl) T.list boot_list (pa_cons (pv 2) pa_nil)))
      (pss_cons (ps_for PassesOwn.never rfl (pi_range1 (by rfl) T.range (pa_cons (pv 1) pa_nil)) (pg_name (i := 4) scWithin.nd rfl (.inl rfl))
        (pss_cons (ps_set (i := 5) scWithin.nd rfl (.inl rfl) (pe_lst pa_nil))
        (pss_cons (ps_for PassesOwn.never rfl (pi_list (pv 3)) (pg_name (i := 6) scWithin.nd rfl (.inl rfl))
          (pss_one (ps_for PassesOwn.never rfl (pi_range2 (by rfl) T.range (pa_cons pe_int (pa_cons (pe_op op_add (pv 0) pe_int) pa_nil))) (pg_name (i := 7) scWithin.nd rfl (.inl rfl))
            (pss_cons (ps_set (i := 8) scWithin.nd rfl (.inl rfl) (pe_call GR hr1 (by rfl) gR kR bR .nil pass0 (pa_cons (pv 6) (pa_cons (pv 7) pa_nil))))
            (pss_one (ps_if (pt_cmp (pc_dnotin hu (pv 8) (pv 2)))
              (pss_cons (ps_dput hu (pv 2) (pv 8) pe_bl rfl)
              (pss_one (ps_expr (pe_bm PySem.F.plainAttrs_list PySem.F.slot_list_append PySem.F.type_list_append mt_append (pv 5) (pa_cons (pv 8) pa_nil))))) pss_nil))))))
        (pss_one (ps_set (i := 3) scWithin.nd rfl (.inl rfl) (pv 5))))))
      (pss_one (ps_ret (pe_callB call_len_dT (by rfl) T.len PySem.boot_len (pa_cons (pv 2) pa_nil)))))))), ?_⟩
    refine ⟨.int (n : Int), rfl, (n : Int), rfl, by omega, by omega, ?_⟩
    refine ⟨.int (m : Int), rfl, (m : Int), 0, 8, rfl, _, rfl, ?_⟩
    rw [show inB (m : Int) 0 8 = true by
      unfold inB
      rw [decide_eq_true (show (0 : Int) ≤ (m : Int) by omega), decide_eq_true (show (m : Int) ≤ 8 by omega)]
      rfl]
    refine iteF ?_
    refine fun d nd => ⟨.int (n : Int), rfl, n, rfl, by omega, fun p np => ⟨p, firstL n, .bl true, rfl, upd_same, ?_, ?_⟩⟩
    · rw [upd_ne (ne_of_none upd_same np), upd_same]
    · have ndp : d ≠ p := ne_of_none (H := upd H d (.dT [])) upd_same np
      have npH : H p = none := by
        rw [upd_ne (Ne.symm ndp)] at np
        exact np
      have m0 : Sm Ps H (upd (upd (upd H d (.dT [])) p (.tup ((firstL n).map V.int))) d (.dT [(kk (firstL n), .bl true)])) := ((Sm.upd nd).upd_new npH).upd_new nd
      generalize hH0 : upd (upd (upd H d (.dT [])) p (.tup ((firstL n).map V.int))) d (.dT [(kk (firstL n), .bl true)]) = H0 at *
      have hd0 : H0 d = some (.dT [(kk (firstL n), .bl true)]) := by rw [← hH0, upd_same]
      refine ⟨.ref d, rfl, d, _, rfl, .inl hd0, fun r bs0 nr hk => ?_⟩
      cases hk with
      | @cons _ p' _ bs1 hk1 hk2 =>
      cases hk2
      have hk1' : IT H0 p' (firstL n) := by
        show H0 p' = some (.tup ((firstL n).map V.int))
        rw [← kk_V]
        exact hk1
      have m1 : Sm Ps H (upd H0 r (.lst ([p'].map V.ref))) := m0.upd_new (m0.free r nr)
      have ndr : d ≠ r := ne_of_none hd0 nr
      have efl : (firstL n).length = n := by
        unfold firstL
        rw [List.length_map, List.length_range]
      refine ⟨.int (m : Int), rfl, (m : Int), rfl, by omega, by omega, ?_⟩
      rw [show ((m : Int)).toNat = m from Int.toNat_natCast m]
      refine for_range (lo := 0) (n := m) (fun t σ H' => ∃ (r : Addr) (bs : BS) (kvs : List (List Key × V)) (y4 y5 y6 y7 y8 : Option V), σ = [some (.int (n : Int)), some (.int (m : Int)), some (.ref d), some (.ref r), y4, y5, y6, y7, y8] ∧ H' d = some (.dT kvs) ∧ KeysAre kvs (wTo n t).1 ∧ H' r = some (.lst (rfs bs)) ∧ bs.map (·.2) = (wTo n t).2 ∧ Rows H' n bs ∧ Sm Ps H H')
        ⟨r, [(p', firstL n)], [(kk (firstL n), .bl true)], none, none, none, none, none, rfl, by rw [upd_ne ndr]; exact hd0, rfl, upd_same, rfl, (fun b hb => by
          rw [List.mem_singleton.mp hb]
          exact ⟨Rg.Same.tk (same_upd nr) _ _ hk1', efl⟩), m1⟩ ?_ ?_
      · rintro t σ H2 htm ⟨r, bs, kvs, y4, y5, y6, y7, y8, rfl, hd2, hkv, hr2, hbs, hrow, m2⟩
        have hbig : (wTo n (t + 1)).1.length ≤ 900 := Nat.le_trans (wTo_le n (show t + 1 ≤ m from htm)) hz
        have eTo : wTo n (t + 1) = (wTo n t).2.foldl (wHere n) ((wTo n t).1, []) := rfl
        refine ⟨Nat.zero_le _, fun o no => ?_⟩
        have noH : H o = none := m2.free o no
        have nro : r ≠ o := ne_of_none hr2 no
        have ndo : d ≠ o := ne_of_none hd2 no
        have k3 : TupK H2 (upd H2 o (.lst [])) := Rg.Same.tk (same_upd no)
        have hr3 : upd H2 o (.lst []) r = some (.lst (rfs bs)) := by rw [upd_ne nro]; exact hr2
        have hd3 : upd H2 o (.lst []) d = some (.dT kvs) := by rw [upd_ne ndo]; exact hd2
        refine ⟨.ref r, rfl, r, rfl, ⟨_, .of hr3⟩, ?_⟩
        refine for_list (K := K) (a := r) (xs := rfs bs) (fun j σ H' => ∃ (cs : BS) (kvs : List (List Key × V)) (y6 y7 y8 : Option V), σ = [some (.int (n : Int)), some (.int (m : Int)), some (.ref d), some (.ref r), some (.int (0 + (t : Int))), some (.ref o), y6, y7, y8] ∧ H' d = some (.dT kvs) ∧ KeysAre kvs (((wTo n t).2.take j).foldl (wHere n) ((wTo n t).1, [])).1 ∧ H' r = some (.lst (rfs bs)) ∧ Rows H' n bs ∧
            H' o = some (.lst (rfs cs)) ∧ cs.map (·.2) = (((wTo n t).2.take j).foldl (wHere n) ((wTo n t).1, [])).2 ∧ Rows H' n cs ∧ (((wTo n t).2.take j).foldl (wHere n) ((wTo n t).1, [])).2.length ≤ (((wTo n t).2.take j).foldl (wHere n) ((wTo n t).1, [])).1.length ∧ Sm Ps H H')
          ⟨[], kvs, y6, y7, y8, rfl, hd3, hkv, hr3, hrow.mono k3, upd_same, rfl, (fun _ z => nomatch z), Nat.zero_le _, m2.upd_new noH⟩
          (fun j σ H' _ ⟨_, _, _, _, _, _, _, _, h, _⟩ => .of h) ?_ ?_
        · rintro j x σ H3 hx ⟨cs, kvs, y6, y7, y8, rfl, hd3, hkv3, hr3, hrow3, hO3, hcs3, hrc3, hle3, m3⟩
          rw [List.getElem?_map] at hx
          cases eb : bs[j]? with
          | none =>
            rw [eb] at hx
            cases hx
          | some b =>
          rw [eb] at hx
          have hx' : V.ref b.1 = x := Option.some.inj hx
          subst hx'
          have hbm := List.mem_of_getElem? eb
          have ej : (wTo n t).2[j]? = some b.2 := by rw [← hbs, List.getElem?_map, eb]; rfl
          have estep := fold_take (wHere n) ((wTo n t).1, []) ej
          have hle4 := wTake_le n (wTo n t).2 ((wTo n t).1, []) (j + 1)
          rw [estep, wHere_eq, ← eTo] at hle4
          rw [estep, wHere_eq]
          generalize ((wTo n t).2.take j).foldl (wHere n) ((wTo n t).1, []) = p at hkv3 hcs3 hle3 hle4 ⊢
          refine ⟨.int (n : Int), rfl, _, 1, rfl, rfl, 1, _, rfl, ⟨by omega, by omega, by omega, by omega⟩, ?_⟩
          rw [show ((n : Int) + 1 - 1).toNat = n by omega]
          refine for_range (lo := 1) (n := n) (fun i σ H' => ∃ (cs : BS) (kvs : List (List Key × V)) (y7 y8 : Option V), σ = [some (.int (n : Int)), some (.int (m : Int)), some (.ref d), some (.ref r), some (.int (0 + (t : Int))), some (.ref o), some (.ref b.1), y7, y8] ∧ H' d = some (.dT kvs) ∧ KeysAre kvs (wIn b.2 p i).1 ∧ H' r = some (.lst (rfs bs)) ∧ Rows H' n bs ∧
              H' o = some (.lst (rfs cs)) ∧ cs.map (·.2) = (wIn b.2 p i).2 ∧ Rows H' n cs ∧ (wIn b.2 p i).2.length ≤ (wIn b.2 p i).1.length ∧ Sm Ps H H')
            ⟨cs, kvs, y7, y8, rfl, hd3, hkv3, hr3, hrow3, hO3, hcs3, hrc3, hle3, m3⟩ ?_ ?_
          · rintro i σ H4 hi ⟨cs, kvs, y7, y8, rfl, hd4, hkv4, hr4, hrow4, hO4, hcs4, hrc4, hle, m4⟩
            have hle5 := wIn_le b.2 p (show i + 1 ≤ n from hi)
            have hle6 := wBell_le b.2 (wIn b.2 p i) (i + 1)
            have eW : wIn b.2 p (i + 1) = wBell b.2 (wIn b.2 p i) (i + 1) := rfl
            rw [eW] at hle5
            rw [eW]
            generalize wIn b.2 p i = pp at hkv4 hcs4 hle hle5 hle6 ⊢
            have hbl := (hrow4 b hbm).2
            rw [show (1 : Int) + (i : Int) = ((i + 1 : Nat) : Int) by omega]
            refine ⟨.ref b.1, rfl, .int ((i + 1 : Nat) : Int), rfl, b.1, b.2, i + 1, rfl, (hrow4 b hbm).1, by omega, by omega, by omega, fun H5 p5 s5 n5 h5 => ?_⟩
            have hd5 := s5 _ _ hd4
            have hO5 := s5 _ _ hO4
            have hr5 := s5 _ _ hr4
            have m5 : Sm Ps H H5 := m4.trans (Sm.of_same s5)
            have k5 : TupK H4 H5 := Rg.Same.tk s5
            have key5 : H5 p5 = some (.tup ((kk (rungL b.2 (i + 1))).map kV)) := by rw [kk_V]; exact h5
            refine ⟨.ref p5, rfl, .ref d, rfl, d, _, rfl, DGet.t hd5 key5, _, rfl, ?_⟩
            rw [keys_in _ hkv4]
            by_cases hin : rungL b.2 (i + 1) ∈ pp.1
            · rw [decide_eq_true hin]
              have eB : wBell b.2 pp (i + 1) = pp := by
                unfold wBell
                rw [if_pos hin]
              rw [eB]
              exact iteF ⟨cs, kvs, _, _, rfl, hd5, hkv4, hr5, hrow4.mono k5, hO5, hcs4, hrc4.mono k5, hle, m5⟩
            · rw [decide_eq_false hin]
              have eB : wBell b.2 pp (i + 1) = (pp.1 ++ [rungL b.2 (i + 1)], pp.2 ++ [rungL b.2 (i + 1)]) := by
                unfold wBell
                rw [if_neg hin]
              have eL := hkv4.len
              have eC : cs.length = pp.2.length := by
                have := congrArg List.length hcs4
                rw [List.length_map] at this
                exact this
              have hsz : pp.1.length + 1 ≤ 900 := by
                rw [eB, List.length_append] at hle5
                exact Nat.le_trans hle5 (Nat.le_trans hle4 hbig)
              refine iteT ⟨.ref d, rfl, .ref p5, rfl, d, _, rfl, DPut.t hd5 key5 (small1000 (by omega)), ?_⟩
              have nod : o ≠ d := Ne.symm ndo
              have k6 : TupK H5 (upd H5 d (.dT (putK kvs (kk (rungL b.2 (i + 1))) (.bl true)))) := tk_upd hd5 fun _ z => nomatch z
              have hO6 : upd H5 d (.dT (putK kvs (kk (rungL b.2 (i + 1))) (.bl true))) o = some (.lst (rfs cs)) := by rw [upd_ne nod]; exact hO5
              have hr6 : upd H5 d (.dT (putK kvs (kk (rungL b.2 (i + 1))) (.bl true))) r = some (.lst (rfs bs)) := by
                rw [upd_ne fun z => by
                  rw [z, hd5] at hr5
                  cases hr5]
                exact hr5
              have hd6 : upd H5 d (.dT (putK kvs (kk (rungL b.2 (i + 1))) (.bl true))) d = some (.dT (putK kvs (kk (rungL b.2 (i + 1))) (.bl true))) := upd_same
              have m6 : Sm Ps H (upd H5 d (.dT (putK kvs (kk (rungL b.2 (i + 1))) (.bl true)))) := m5.upd_new nd
              have h6 := k6 _ _ h5
              generalize upd H5 d (.dT (putK kvs (kk (rungL b.2 (i + 1))) (.bl true))) = H6 at k6 hO6 hr6 hd6 m6 h6 ⊢
              have k7 : TupK H6 (upd H6 o (.lst (rfs cs ++ [.ref p5]))) := tk_upd hO6 fun _ z => nomatch z
              refine ⟨.ref o, rfl, .inl ⟨rfl, _, .of hO6⟩, .ref p5, rfl, o, _, _, rfl, rfl, hO6, ?_, ?_⟩
              · rw [List.length_map]
                exact small1000 (by omega)
              · rw [eB]
                refine ⟨cs ++ [(p5, rungL b.2 (i + 1))], _, _, _, rfl, by rw [upd_ne ndo]; exact hd6, keys_put hkv4 hin, by rw [upd_ne nro]; exact hr6, hrow4.mono (k5.trans (k6.trans k7)), ?_, ?_, ?_, ?_, m6.upd_new noH⟩
                · rw [upd_same]
                  simp [rfs]
                · rw [List.map_append, hcs4]
                  rfl
                · exact (hrc4.mono (k5.trans (k6.trans k7))).snoc (k7 _ _ h6) (by rw [rungL_len (by omega) (by omega)]; exact hbl)
                · rw [List.length_append, List.length_append]
                  exact Nat.add_le_add_right hle _
          · rintro σ H4 ⟨cs, kvs, y7, y8, rfl, hd4, hkv4, hr4, hrow4, hO4, hcs4, hrc4, hle, m4⟩
            exact ⟨cs, kvs, _, _, _, rfl, hd4, hkv4, hr4, hrow4, hO4, hcs4, hrc4, hle, m4⟩
        · rintro σ H3 ⟨cs, kvs, y6, y7, y8, rfl, hd3, hkv3, hr3, hrow3, hO3, hcs3, hrc3, hle3, m3⟩
          have elen : (rfs bs).length = (wTo n t).2.length := by
            rw [← hbs, List.length_map, List.length_map]
          rw [elen, List.take_length, ← eTo] at hkv3 hcs3
          exact ⟨.ref o, rfl, o, cs, kvs, _, _, _, _, _, rfl, hd3, hkv3, hO3, hcs3, hrc3, m3⟩
      · rintro σ H2 ⟨r, bs, kvs, y4, y5, y6, y7, y8, rfl, hd2, hkv, hr2, hbs, hrow, m2⟩
        refine ⟨.ref d, rfl, d, kvs, rfl, hd2, ?_⟩
        rw [hkv.len]
        exact q H2 m2
end
end Rg
set_option Elab.async false
set_option linter.all false
set_option maxRecDepth 100000
set_option maxHeartbeats 4000000
/-! the law's helpers: _law_taken, _law_pick, _law_lifted, _law_first -/
namespace Rg
open PySem PySem.Spec PyProof.Rows L2 GxR
/-- the script at a stands, and stands whatever is written at r -/
def Scr (K : PySem.W.Frag) (H : Hp) (r a : Addr) (xs : List V) : Prop := (a ≠ r ∧ Rd H a (.lst xs)) ∨ ∀ H', SqL K H' a xs
theorem Scr.sq {K : PySem.W.Frag} {H : Hp} {r a : Addr} {xs : List V} (h : Scr K H r a xs) : SqL K H a xs := by
  rcases h with ⟨_, h⟩ | h
  · exact .inl h
  · exact h H
theorem Scr.put {K : PySem.W.Frag} {H : Hp} {r a : Addr} {xs : List V} {o : HO} (h : Scr K H r a xs) : Scr K (upd H r o) r a xs := by
  rcases h with ⟨n, h⟩ | h
  · refine .inl ⟨n, ?_⟩
    rcases h with h | ⟨u, h⟩
    · exact .inl (by rw [upd_ne n]; exact h)
    · exact .inr ⟨u, by rw [upd_ne n]; exact h⟩
  · exact .inr h
theorem Scr.keep {K : PySem.W.Frag} {H H' : Hp} {Ps : List Addr} {r a : Addr} {xs : List V} (h : Scr K H r a xs) (m : Sm Ps H H') : Scr K H' r a xs := by
  rcases h with ⟨n, h⟩ | h
  · refine .inl ⟨n, ?_⟩
    rcases h with h | ⟨u, h⟩
    · exact .inl (m.at_ _ _ h (nt_lst _))
    · exact .inr ⟨u, m.at_ _ _ h (nt_frz _ _)⟩
  · exact .inr h
theorem Scr.of {K : PySem.W.Frag} {H : Hp} {r a : Addr} {xs : List V} (h : SqL K H a xs) (n : H r = none) : Scr K H r a xs := by
  rcases h with h | h
  · refine .inl ⟨?_, h⟩
    rcases h with h | ⟨u, h⟩
    · exact ne_of_none h n
    · exact ne_of_none h n
  · exact .inr fun _ => .inr h
section
variable {P : Program} {w : World} {K : PySem.W.Frag} {mg : Str → Option Value} {base : Heap}
/-- the law's row of draws, at r over the script at a -/
def rowL (a : Addr) (i sd rs : Int) : HO := .lst [.ref a, .int i, .int sd, .int rs]
def RowAt (K : PySem.W.Frag) (H : Hp) (r a : Addr) (ns : L) : Prop := Scr K H r a (ns.map V.int) ∧ ∃ i sd rs : Int, H r = some (rowL a i sd rs) ∧ 0 ≤ i
theorem RowAt.put {K : PySem.W.Frag} {H : Hp} {r a : Addr} {ns : L} {i sd rs : Int} (h : RowAt K H r a ns) (hi : 0 ≤ i) : RowAt K (upd H r (rowL a i sd rs)) r a ns := ⟨h.1.put, i, sd, rs, upd_same, hi⟩
theorem RowAt.keep {K : PySem.W.Frag} {H H' : Hp} {Ps : List Addr} {r a : Addr} {ns : L} (h : RowAt K H r a ns) (m : Sm Ps H H') : RowAt K H' r a ns := by
  obtain ⟨h1, i, sd, rs, h2, h3⟩ := h
  exact ⟨h1.keep m, i, sd, rs, m.at_ _ _ h2 (nt_lst _), h3⟩
def spTaken (K : PySem.W.Frag) : Sp := fun vs H Q _ => ∃ (r a : Addr) (ns : L) (m : Int), vs = [.ref r, .int m] ∧ 0 < m ∧ m < 1073741824 ∧ RowAt K H r a ns ∧ ∀ z i sd rs, 0 ≤ z → z < m → 0 ≤ i → Q (.int z) (upd H r (rowL a i sd rs))
theorem scTaken : FnScope ["_law_row", "_law_many", "_law_found", "_law_cell"] ["_law_row", "_law_many"] (defScope sTaken) := ⟨rfl, rfl, rfl, by decide +kernel, rfl, by decide +kernel, by decide +kernel⟩
theorem ok_taken {f : Addr} {fd : FuncData} (F : Fun K "_law_taken" "_law_taken" sTaken f fd) (T : Txt mg) : FnOk P w K mg base CX0 1 f fd ["_law_row", "_law_many"] (spTaken K) := by
  refine F.ok scTaken (fun vs H Q E h => ?_) (fun cdv A outer s H vs Q E hr h => ?_)
  · obtain ⟨r, a, ns, m, rfl, _⟩ := h
    rfl
  · obtain ⟨r, a, ns, m, rfl, hm0, hm1, ⟨hS, i, sd, rs, hR, hi⟩, q⟩ := h
    refine ⟨_, pss_cons (ps_if (pt_cmpR op_gt (pe_ix ix_list (pv 0) pe_int (fun _ _ => rfl)) pe_int (nomark _))
        (pss_cons (ps_set (i := 2) scTaken.nd rfl (.inl rfl) (pe_op op_mod (pe_callTy call_int1 (by rfl) T.int boot_int' (pa_cons (pe_ix ix_list (pv 0) pe_int (fun _ _ => rfl)) pa_nil)) (pv 1)))
        (pss_cons (ps_asg (pe_op op_fdiv (pe_ix ix_list (pv 0) pe_int (fun _ _ => rfl)) (pv 1)) (pg_sub (pv 0) pe_int set_list))
        (pss_one (ps_ret (pv 2))))) pss_nil)
      (pss_cons (ps_asg (pe_op op_add (pe_ix ix_list (pv 0) pe_int (fun _ _ => rfl)) pe_int) (pg_sub (pv 0) pe_int set_list))
      (pss_cons (ps_if (pt_cmpR op_gt (pe_ix ix_list (pv 0) pe_int (fun _ _ => rfl)) (pe_callB call_len_seq (by rfl) T.len PySem.boot_len (pa_cons (pe_ix ix_list (pv 0) pe_int (fun _ _ => rfl)) pa_nil)) (nomark _))
        (pss_cons (ps_asg (pe_op op_mod (pe_callTy call_int1 (by rfl) T.int boot_int' (pa_cons (pe_op op_add (pe_op op_mul (pe_ix ix_list (pv 0) pe_int (fun _ _ => rfl)) pe_int) pe_int) pa_nil)) pe_int) (pg_sub (pv 0) pe_int set_list))
        (pss_one (ps_ret (pe_op op_mod (pe_callTy call_int1 (by rfl) T.int boot_int' (pa_cons (pe_op op_fdiv (pe_ix ix_list (pv 0) pe_int (fun _ _ => rfl)) pe_int) pa_nil)) (pv 1))))) pss_nil)
      (pss_cons (ps_set (i := 3) scTaken.nd rfl (.inl rfl) (pe_ix ix_list (pe_ix ix_list (pv 0) pe_int (fun _ _ => rfl)) (pe_op op_sub (pe_ix ix_list (pv 0) pe_int (fun _ _ => rfl)) pe_int) (fun _ _ => rfl)))
      (pss_cons (ps_asg (pe_op op_mod (pe_callTy call_int1 (by rfl) T.int boot_int' (pa_cons (pe_op op_add (pe_op op_add (pe_op op_mul (pe_ix ix_list (pv 0) pe_int (fun _ _ => rfl)) pe_int) (pv 3)) pe_int) pa_nil)) pe_int) (pg_sub (pv 0) pe_int set_list))
      (pss_cons (ps_if (pt_cmpR op_ge (pv 3) (pe_op op_pow pe_int pe_int) (nomark _)) (pss_one (ps_asg (pe_op op_fdiv (pv 3) (pv 1)) (pg_sub (pv 0) pe_int set_list))) pss_nil)
      (pss_one (ps_ret (pe_op op_mod (pe_callTy call_int1 (by rfl) T.int boot_int' (pa_cons (pv 3) pa_nil)) (pv 1))))))))), ?_⟩
    refine ⟨.ref r, rfl, r, _, 3, .int rs, rfl, rfl, .of hR, rfl, rs, 0, rfl, rfl, _, rfl, ?_⟩
    refine ite2 (fun e => ?_) (fun e => ?_)
    · refine ⟨.ref r, rfl, r, _, 3, .int rs, rfl, rfl, .of hR, rfl, .inl ⟨rs, rfl, .int m, rfl, rs, m, rfl, rfl, hm0, ?_⟩⟩
      refine ⟨.ref r, rfl, r, _, 3, .int rs, rfl, rfl, .of hR, rfl, .int m, rfl, rs, m, rfl, rfl, ⟨hm0, hm1⟩, .ref r, rfl, r, _, 3, 3, rfl, rfl, hR, rfl, ?_⟩
      exact ⟨.int (rs % m), rfl, q _ i sd (rs / m) (Int.emod_nonneg _ (by omega)) (Int.emod_lt_of_pos _ hm0) hi⟩
    · refine ⟨.ref r, rfl, r, _, 1, .int i, rfl, rfl, .of hR, rfl, i, 1, rfl, rfl, .ref r, rfl, r, _, 1, 1, rfl, rfl, hR, rfl, ?_⟩
      have hR1 : upd H r (rowL a (i + 1) sd rs) r = some (rowL a (i + 1) sd rs) := upd_same
      have hS1 : SqL K (upd H r (rowL a (i + 1) sd rs)) a (ns.map V.int) := hS.put.sq
      refine ⟨.ref r, rfl, r, _, 1, .int (i + 1), rfl, rfl, .of hR1, rfl, .ref r, rfl, r, _, 0, .ref a, rfl, rfl, .of hR1, rfl, a, _, rfl, .inl hS1, _, _, rfl, rfl, _, rfl, ?_⟩
      refine ite2 (fun e2 => ?_) (fun e2 => ?_)
      · refine ⟨.ref r, rfl, r, _, 2, .int sd, rfl, rfl, .of hR1, rfl, sd, 48271, rfl, rfl, .inr (by decide), _, 11, rfl, rfl, .inl ⟨_, rfl, _, 2147483647, rfl, rfl, (show (0 : Int) < 2147483647 by decide), .ref r, rfl, r, _, 2, 2, rfl, rfl, hR1, rfl, ?_⟩⟩
        rw [upd_upd]
        have hR2 : upd H r (rowL a (i + 1) ((sd * 48271 + 11) % 2147483647) rs) r = some (rowL a (i + 1) ((sd * 48271 + 11) % 2147483647) rs) := upd_same
        refine ⟨.ref r, rfl, r, _, 2, .int ((sd * 48271 + 11) % 2147483647), rfl, rfl, .of hR2, rfl, _, 7, rfl, rfl, ⟨by decide, by decide⟩, .inl ⟨_, rfl, .int m, rfl, _, m, rfl, rfl, hm0, ?_⟩⟩
        exact q _ _ _ _ (Int.emod_nonneg _ (by omega)) (Int.emod_lt_of_pos _ hm0) (by omega)
      · have hlt : i < ns.length := by
          have : ¬ ((ns.map V.int).length : Int) < i + 1 := fun z => e2 (decide_eq_true z)
          rw [List.length_map] at this
          omega
        refine ⟨.ref r, rfl, r, _, 0, .ref a, rfl, rfl, .of hR1, rfl, .ref r, rfl, r, _, 1, .int (i + 1), rfl, rfl, .of hR1, rfl, _, 1, rfl, rfl, a, _, _, .int (ns.getD i.toNat 0), rfl, rfl, hS1, ?_, ?_⟩
        · rw [show i + 1 - 1 = i by omega]
          exact at_ix hi hlt
        generalize ns.getD i.toNat 0 = c
        refine ⟨.ref r, rfl, r, _, 2, .int sd, rfl, rfl, .of hR1, rfl, sd, 48271, rfl, rfl, .inr (by decide), .int c, rfl, _, c, rfl, rfl, _, 11, rfl, rfl, .inl ⟨_, rfl, _, 2147483647, rfl, rfl, (show (0 : Int) < 2147483647 by decide), .ref r, rfl, r, _, 2, 2, rfl, rfl, hR1, rfl, ?_⟩⟩
        rw [upd_upd]
        have hR2 : upd H r (rowL a (i + 1) ((sd * 48271 + c + 11) % 2147483647) rs) r = some (rowL a (i + 1) ((sd * 48271 + c + 11) % 2147483647) rs) := upd_same
        refine ⟨.int c, rfl, 10, 18, rfl, rfl, ⟨by decide, by decide, by decide⟩, _, _, rfl, rfl, _, rfl, ?_⟩
        refine ite2 (fun e3 => ?_) (fun e3 => ?_)
        · refine ⟨.int c, rfl, .int m, rfl, c, m, rfl, rfl, ⟨hm0, hm1⟩, .ref r, rfl, r, _, 3, 3, rfl, rfl, hR2, rfl, ?_⟩
          rw [upd_upd]
          exact ⟨.int c, rfl, .inl ⟨c, rfl, .int m, rfl, c, m, rfl, rfl, hm0, q _ _ _ _ (Int.emod_nonneg _ (by omega)) (Int.emod_lt_of_pos _ hm0) (by omega)⟩⟩
        · exact ⟨.int c, rfl, .inl ⟨c, rfl, .int m, rfl, c, m, rfl, rfl, hm0, q _ _ _ _ (Int.emod_nonneg _ (by omega)) (Int.emod_lt_of_pos _ hm0) (by omega)⟩⟩
/-! ### _law_pick -/
def spPick (K : PySem.W.Frag) : Sp := fun vs H Q _ => ∃ (r a p : Addr) (ns : L) (xs : List V), vs = [.ref r, .ref p] ∧ 0 < xs.length ∧ xs.length ≤ 1000 ∧ RowAt K H r a ns ∧ H p = some (.lst xs) ∧ p ≠ r ∧ ∀ (j : Nat) (v : V) (i sd rs : Int), xs[j]? = some v → 0 ≤ i → Q v (upd H r (rowL a i sd rs))
theorem scPick : FnScope ["_law_row", "_law_things"] ["_law_row", "_law_things"] (defScope sPick) := ⟨rfl, rfl, rfl, by decide +kernel, rfl, by decide +kernel, by decide +kernel⟩
theorem ok_pick {f fT : Addr} {fd fdT : FuncData} (F : Fun K "_law_pick" "_law_pick" sPick f fd) (FT : Fun K "_law_taken" "_law_taken" sTaken fT fdT) (bT : Binds K fdT ["_law_row", "_law_many"] []) (gT : mg "_law_taken" = some (.ref fT)) (T : Txt mg) : FnOk P w K mg base CX0 2 f fd ["_law_row", "_law_things"] (spPick K) := by
  have GT : FnOk P w K mg base CX0 1 fT fdT ["_law_row", "_law_many"] (spTaken K) := ok_taken FT T
  refine F.ok scPick (fun vs H Q E h => ?_) (fun cdv A outer s H vs Q E hr h => ?_)
  · obtain ⟨r, a, p, ns, xs, rfl, _⟩ := h
    rfl
  · obtain ⟨r, a, p, ns, xs, rfl, h0, h1, hrow, hp, hne, q⟩ := h
    refine ⟨_, pss_one (ps_ret (pe_ix ix_list (pv 1) (pe_call GT hr (by rfl) gT FT.kp bT .nil pass0 (pa_cons (pv 0) (pa_cons (pe_callB call_len_seq (by rfl) T.len PySem.boot_len (pa_cons (pv 1) pa_nil)) pa_nil))) (fun _ _ => rfl))), ?_⟩
    refine ⟨.ref p, rfl, .ref r, rfl, .ref p, rfl, p, _, rfl, .inl (.of hp), r, a, ns, (xs.length : Int), rfl, by omega, by omega, hrow, fun z i sd rs z0 z1 hi => ?_⟩
    have hp2 : upd H r (rowL a i sd rs) p = some (.lst xs) := by rw [upd_ne hne]; exact hp
    have hj : xs[z.toNat]? = some xs[z.toNat] := List.getElem?_eq_getElem (by omega)
    refine ⟨p, xs, z, xs[z.toNat], rfl, rfl, .of hp2, ?_, q _ _ _ _ _ hj hi⟩
    have e := atI_nat hj
    rw [Int.toNat_of_nonneg z0] at e
    exact e
/-! ### _law_lifted -/
theorem Same.rfl' (H : Hp) : Same H H := fun _ _ e => e
/-- t + u of int tuples -/
theorem cat_read {H : Hp} {a b : Addr} {xs ys : L} {Q : VK} (ha : IT H a xs) (hb : IT H b ys) (hz : xs.length + ys.length ≤ 1000) (q : ∀ H' p, Same H H' → IT H' p (xs ++ ys) → Q (.ref p) H') : rCatA K (.ref a) (.ref b) H Q := by
  refine ⟨a, b, _, _, rfl, rfl, ha.seq, hb.seq, ?_, fun e => ?_, fun _ e => ?_, fun _ _ p np => ?_⟩
  · rw [List.length_map, List.length_map, sizeLine_eq]
    omega
  · have e' : xs = [] := List.map_eq_nil_iff.mp e
    refine q H b (Same.rfl' H) ?_
    rw [e', List.nil_append]
    exact hb
  · have e' : ys = [] := List.map_eq_nil_iff.mp e
    refine q H a (Same.rfl' H) ?_
    rw [e', List.append_nil]
    exact ha
  · refine q _ p (same_upd np) ?_
    show upd H p _ p = _
    rw [upd_same, List.map_append]
def spLifted : Sp := fun vs H Q _ => ∃ (a : Addr) (s : L) (b : Nat), vs = [.ref a, .int (b : Int)] ∧ IT H a s ∧ 1 ≤ b ∧ b ≤ s.length ∧ s.length ≤ 400 ∧ ∀ H' p, Same H H' → IT H' p (rungL s b) → Q (.ref p) H'
theorem scLifted : FnScope ["_law_some", "_law_bell", "_law_source"] ["_law_some", "_law_bell"] (defScope sLifted) := ⟨rfl, rfl, rfl, by decide +kernel, rfl, by decide +kernel, by decide +kernel⟩
theorem ok_lifted {f : Addr} {fd : FuncData} (F : Fun K "_law_lifted" "_law_lifted" sLifted f fd) (T : Txt mg) : FnOk P w K mg base CX0 1 f fd ["_law_some", "_law_bell"] spLifted := by
  refine F.ok scLifted (fun vs H Q E h => ?_) (fun cdv A outer s H vs Q E hr h => ?_)
  · obtain ⟨a, s, b, rfl, _⟩ := h
    rfl
  · obtain ⟨a, xs, b, rfl, ht, h1, h2, h3, q⟩ := h
    have el : (xs.map V.int).length = xs.length := List.length_map _
    refine ⟨_, pss_cons (ps_set (i := 2) scLifted.nd rfl (.inl rfl) (pe_ifExp (pt_cmpR op_gt (pv 1) pe_int (nomark _)) (pe_ix ix_tup (pv 0) (pe_op op_sub (pv 1) pe_int) (fun _ _ => rfl))
        (pe_op op_sub (pe_ix ix_tup (pv 0) (pe_un un_neg pe_int) (fun _ _ => rfl)) (pe_callB call_len_seq (by rfl) T.len PySem.boot_len (pa_cons (pv 0) pa_nil)))))
      (pss_one (ps_ret (pe_op op_catA (pe_op op_catA (pe_slice sl_tupA (pv 0) po_none (po_some (pe_op op_sub (pv 1) pe_int))) (pe_tup (pa_cons (pv 2) pa_nil))) (pe_slice sl_tupA (pv 0) (po_some (pv 1)) po_none)))), ?_⟩
    have fin : ∀ src : Int, src = (if 1 < b then xs.getD (b - 2) 0 else xs.getD (xs.length - 1) 0 - (xs.length : Int)) →
        tOp (rCatA K) (tOp (rCatA K) (tSl (rSlA K) (tVar 0) tNoPart (tPart (tOp (rI0 fun i j => .int (i - j)) (tVar 1) (tC (.int 1))))) (tTup (tCons (tVar 2) tNil))) (tSl (rSlA K) (tVar 0) (tPart (tVar 1)) tNoPart) [some (.ref a), some (.int (b : Int)), some (.int src)] H Q := by
      intro src es
      refine ⟨.ref a, rfl, .int (b : Int), rfl, (b : Int), 1, rfl, rfl, (b : Int) - 1, rfl, a, xs.map V.int, rfl, ht.seq, fun z => ?_, fun z p1 n1 => ?_⟩
      · exfalso
        have z2 := z.2
        rw [show ((b : Int) - 1) = ((b - 1 : Nat) : Int) by omega, HT.sIx_nat, el] at z2
        omega
      · have e1 : cutV (xs.map V.int) none (some ((b : Int) - 1)) = (xs.take (b - 1)).map V.int := by
          rw [show ((b : Int) - 1) = ((b - 1 : Nat) : Int) by omega, List.map_take]
          exact cut_to _ _ (by rw [el]; omega)
        rw [e1]
        have s1 : Same H (upd H p1 (.tup ((xs.take (b - 1)).map V.int))) := same_upd n1
        refine ⟨.int src, rfl, by show 1 ≤ sizeLine; decide, fun p2 n2 => ?_⟩
        have s2 : Same _ (upd (upd H p1 (.tup ((xs.take (b - 1)).map V.int))) p2 (.tup [.int src])) := same_upd n2
        refine cat_read (xs := xs.take (b - 1)) (ys := [src]) (s2 _ _ upd_same) upd_same (by rw [List.length_take, List.length_singleton]; omega) fun H3 p3 s3 h3 => ?_
        have s03 := (s1.trans s2).trans s3
        refine ⟨.ref a, rfl, .int (b : Int), rfl, (b : Int), rfl, a, xs.map V.int, rfl, .of (s03 _ _ ht), fun z => ?_, fun z p4 n4 => ?_⟩
        · exfalso
          have z1 := z.1
          rw [HT.sIx_nat, el] at z1
          omega
        · rw [cut_from _ _ (by rw [el]; omega), ← List.map_drop]
          have s4 : Same H3 (upd H3 p4 (.tup ((xs.drop b).map V.int))) := same_upd n4
          refine cat_read (xs := xs.take (b - 1) ++ [src]) (ys := xs.drop b) (s4 _ _ h3) upd_same (by rw [List.length_append, List.length_take, List.length_singleton, List.length_drop]; omega) fun H5 p5 s5 h5 => ?_
          refine q H5 p5 ((s03.trans s4).trans s5) ?_
          have eR : rungL xs b = xs.take (b - 1) ++ [src] ++ xs.drop b := by
            unfold rungL
            rw [← es, List.append_assoc]
            rfl
          rw [eR]
          exact h5
    refine ⟨.int (b : Int), rfl, (b : Int), 1, rfl, rfl, _, rfl, ite2 (fun e => ?_) (fun e => ?_)⟩
    · have hb : 1 < b := by
        have := of_decide_eq_true e
        omega
      refine ⟨.ref a, rfl, .int (b : Int), rfl, (b : Int), 2, rfl, rfl, a, _, _, _, rfl, rfl, ht.seq, at_ix (by omega) (by omega), fin _ ?_⟩
      rw [if_pos hb, show ((b : Int) - 2).toNat = b - 2 by omega]
    · have hb : ¬ 1 < b := fun z => e (decide_eq_true (by omega))
      refine ⟨.ref a, rfl, 1, rfl, a, _, _, _, rfl, rfl, ht.seq, at_last (by omega), .ref a, rfl, a, _, rfl, .inr ht.seq, _, _, rfl, rfl, fin _ ?_⟩
      rw [if_neg hb, el]
/-! ### _law_first -/
def spFirstT : Sp := fun vs H Q _ => ∃ n : Nat, vs = [.int (n : Int)] ∧ n ≤ 1000 ∧ ∀ H' p, Same H H' → IT H' p (firstL n) → Q (.ref p) H'
theorem scLFirst : FnScope ["_law_size", "_law_k"] ["_law_size"] (defScope sLFirst) := ⟨rfl, rfl, rfl, by decide +kernel, rfl, by decide +kernel, by decide +kernel⟩
theorem ok_lfirst {f : Addr} {fd : FuncData} (F : Fun K "_law_first" "_law_first" sLFirst f fd) (T : Txt mg) : FnOk P w K mg base CX0 1 f fd ["_law_size"] spFirstT := by
  refine F.ok scLFirst (fun vs H Q E h => ?_) (fun cdv A outer s H vs Q E hr h => ?_)
  · obtain ⟨n, rfl, _⟩ := h
    rfl
  · obtain ⟨n, rfl, hn, q⟩ := h
    refine ⟨_, pss_one (ps_ret (pe_tupleOf (by rfl) T.tuple (pe_lc (own := [("_law_k", 1)]) (g := gName 1) (tt := tYes) (te := tOp (rI0 fun i j => .int (i + j)) (tVar 1) (tC (.int 1))) rfl scLFirst.nd
            (pi_range1 (by rfl) T.range (pa_cons (pv 0) pa_nil)) (blkOk_by (own := [("_law_k", 1)]) (N := ["_law_size", "_law_k"]) (sc := defScope sLFirst) (by decide +kernel))
            (fun _ _ _ _ _ => pg_name (i := 1) scLFirst.nd rfl (Or.inl rfl)) (fun _ _ _ _ _ => pts_nil)
            (fun _ _ _ _ _ => pe_op op_add (pv 1) pe_int)))), ?_⟩
    refine ⟨.int (n : Int), rfl, (n : Int), rfl, by omega, by omega, fun D nD => ?_⟩
    rw [Int.toNat_natCast]
    refine lc_range (lo := 0) (n := n) (fun i H' => H' = upd H D (.lst (((List.range i).map fun (i : Nat) => (1 : Int) + (i : Int)).map V.int))) rfl ?_ ?_
    · rintro i H' hi rfl
      refine ⟨rfl, ?_⟩
      dsimp only [tYes]
      refine iteT ⟨.int (0 + (i : Int)), rfl, _, 1, rfl, rfl, _, upd_same, ?_, ?_⟩
      · rw [List.length_map, List.length_map, List.length_range]
        exact small1000 (by omega)
      · have e : (0 : Int) + (i : Int) + 1 = 1 + (i : Int) := by omega
        show upd _ D (.lst (_ ++ [V.int ((0 : Int) + (i : Int) + 1)])) = _
        rw [e, upd_upd, List.range_succ, List.map_append, List.map_append]
        rfl
    · rintro H' rfl
      have s1 : Same H (upd H D (.lst ((firstL n).map V.int))) := same_upd nD
      refine .inl ⟨D, _, rfl, .of upd_same, fun p np => q _ p (s1.trans (same_upd np)) upd_same⟩
end
end Rg
set_option Elab.async false
set_option linter.all false
set_option maxRecDepth 100000
set_option maxHeartbeats 4000000
/-! _law_alike: equal ints; equal tuples of ints -/
namespace Rg
open PySem PySem.Spec PyProof.Rows L2 GxR
theorem boot_tuple' : bootBuiltins "tuple" = some (.type "tuple") := by decide +kernel
theorem boot_list' : bootBuiltins "list" = some (.type "list") := by decide +kernel
theorem boot_str' : bootBuiltins "str" = some (.type "str") := by decide +kernel
section
variable {P : Program} {w : World} {K : PySem.W.Frag} {mg : Str → Option Value} {base : Heap}
theorem scAlike : FnScope ["_law_found", "_law_due", "_law_k"] ["_law_found", "_law_due"] (defScope sAlike) := ⟨rfl, rfl, rfl, by decide +kernel, rfl, by decide +kernel, by decide +kernel⟩
def spAlikeI : Sp := fun vs H Q _ => ∃ i : Int, vs = [.int i, .int i] ∧ ∀ H', Same H H' → Q (.bl true) H'
def spAlikeT : Sp := fun vs H Q _ => ∃ (a b : Addr) (s : L), vs = [.ref a, .ref b] ∧ IT H a s ∧ IT H b s ∧ s.length ≤ 400 ∧ ∀ H', Same H H' → Q (.bl true) H'
/-- isinstance(x, (tuple, list)) -/
theorem isi_read {H : Hp} {x : V} {t : Value} {b : Bool} {Q : VK} (ht : ∀ H', Same H H' → TyX K H' x t) (hk : PySem.W.kitAny K t [.type "tuple", .type "list"] = some b) (q : ∀ H', Same H H' → Q (.bl b) H') : ∀ p, H p = none → rIsiT K [x, .ref p] (upd H p (.tup [.ty "tuple", .ty "list"])) Q := fun p np =>
  ⟨x, p, _, t, [.type "tuple", .type "list"], b, rfl, upd_same, .cons (.ty _) (.cons (.ty _) .nil), ht _ (same_upd np), hk, q _ (same_upd np)⟩
theorem kit_int : PySem.W.kitAny K (.type "int") [.type "tuple", .type "list"] = some false := kitAny_cons (b := false) (kit_ty (by decide +kernel)) (fun _ => kitAny_cons (b := false) (kit_ty (by decide +kernel)) (fun _ => kitAny_nil) (fun z => nomatch z)) (fun z => nomatch z)
theorem kit_tup : PySem.W.kitAny K (.type "tuple") [.type "tuple", .type "list"] = some true := kitAny_cons (b := true) (kit_ty (by decide +kernel)) (fun z => nomatch z) (fun _ => rfl)
theorem ok_alikeI {f : Addr} {fd : FuncData} (F : Fun K "_law_alike" "_law_alike" sAlike f fd) (T : Txt mg) : FnOk P w K mg base CX0 1 f fd ["_law_found", "_law_due"] spAlikeI := by
  refine F.ok scAlike (fun vs H Q E h => ?_) (fun cdv A outer s H vs Q E hr h => ?_)
  · obtain ⟨i, rfl, _⟩ := h
    rfl
  · obtain ⟨i, rfl, q⟩ := h
    refine ⟨_, pss_cons (ps_if (pt_val (pe_callB call_isiT (by rfl) T.isi boot_isinstance (pa_cons (pv 1) (pa_cons (pe_tup (pa_cons (pe_bltn (v := .ty "tuple") (by rfl) T.tuple boot_tuple' rfl) (pa_cons (pe_bltn (v := .ty "list") (by rfl) T.list boot_list' rfl) pa_nil))) pa_nil)))) pss_never pss_nil)
      (pss_cons (ps_if (PW.pt (pw_or (pt_cmp (pc_isN (pv 1))) (pw_or1 (pt_val (pe_callB call_isi (by rfl) T.isi boot_isinstance (pa_cons (pv 1) (pa_cons (pe_bltn (v := .ty "str") (by rfl) T.str boot_str' rfl) pa_nil))))))) pss_never pss_nil)
      (pss_one (ps_ret (pe_and (pe_callB call_isi (by rfl) T.isi boot_isinstance (pa_cons (pv 0) (pa_cons (pe_bltn (v := .ty "int") (by rfl) T.int boot_int' rfl) pa_nil)))
        (pe_and (pe_cmpR op_eq (pe_callB call_isi (by rfl) T.isi boot_isinstance (pa_cons (pv 0) (pa_cons (pe_bltn (v := .ty "bool") (by rfl) T.bool boot_bool' rfl) pa_nil))) (pe_callB call_isi (by rfl) T.isi boot_isinstance (pa_cons (pv 1) (pa_cons (pe_bltn (v := .ty "bool") (by rfl) T.bool boot_bool' rfl) pa_nil))) (nomark _))
          (pe_one (pe_cmpR op_eq (pv 0) (pv 1) (nomark _)))))))), ?_⟩
    refine ⟨.int i, rfl, by show 2 ≤ sizeLine; decide, fun p np => ⟨.int i, p, _, .type "int", [.type "tuple", .type "list"], false, rfl, upd_same, .cons (.ty _) (.cons (.ty _) .nil), .base (.int i), kit_int, false, rfl, iteF ?_⟩⟩
    refine ⟨.int i, rfl, false, rfl, iteF ⟨.int i, rfl, .int i, .ty "str", .type "int", .type "str", false, rfl, .ty _, .base (.int i), kit_ty (by decide +kernel), false, rfl, iteF ?_⟩⟩
    refine ⟨.int i, rfl, .int i, .ty "int", .type "int", .type "int", true, rfl, .ty _, .base (.int i), kit_ty (by decide +kernel), true, rfl, iteT ?_⟩
    refine ⟨.int i, rfl, .int i, .ty "bool", .type "int", .type "bool", false, rfl, .ty _, .base (.int i), kit_ty (by decide +kernel), .int i, rfl, .int i, .ty "bool", .type "int", .type "bool", false, rfl, .ty _, .base (.int i), kit_ty (by decide +kernel), rfl, true, rfl, iteT ?_⟩
    refine ⟨.int i, rfl, .int i, rfl, rfl, ?_⟩
    rw [show decide (V.int i = V.int i) = true from decide_eq_true rfl]
    exact q _ (same_upd np)
theorem ok_alikeT {f : Addr} {fd : FuncData} (F : Fun K "_law_alike" "_law_alike" sAlike f fd) (bA : Binds K fd ["_law_found", "_law_due"] []) (gA : mg "_law_alike" = some (.ref f)) (T : Txt mg) : FnOk P w K mg base CX0 2 f fd ["_law_found", "_law_due"] spAlikeT := by
  have GI : FnOk P w K mg base CX0 1 f fd ["_law_found", "_law_due"] spAlikeI := ok_alikeI F T
  refine F.ok scAlike (fun vs H Q E h => ?_) (fun cdv A outer s H vs Q E hr h => ?_)
  · obtain ⟨a, b, xs, rfl, _⟩ := h
    rfl
  · obtain ⟨a, b, xs, rfl, ha, hb, hn, q⟩ := h
    refine ⟨_, pss_cons (ps_if (pt_val (pe_callB call_isiT (by rfl) T.isi boot_isinstance (pa_cons (pv 1) (pa_cons (pe_tup (pa_cons (pe_bltn (v := .ty "tuple") (by rfl) T.tuple boot_tuple' rfl) (pa_cons (pe_bltn (v := .ty "list") (by rfl) T.list boot_list' rfl) pa_nil))) pa_nil))))
        (pss_cons (ps_if (PW.pt (pw_or (pt_not (pt_val (pe_callB call_isiT (by rfl) T.isi boot_isinstance (pa_cons (pv 0) (pa_cons (pe_tup (pa_cons (pe_bltn (v := .ty "tuple") (by rfl) T.tuple boot_tuple' rfl) (pa_cons (pe_bltn (v := .ty "list") (by rfl) T.list boot_list' rfl) pa_nil))) pa_nil)))))
            (pw_or1 (pt_cmpR op_ne (pe_callB call_isi (by rfl) T.isi boot_isinstance (pa_cons (pv 0) (pa_cons (pe_bltn (v := .ty "list") (by rfl) T.list boot_list' rfl) pa_nil))) (pe_callB call_isi (by rfl) T.isi boot_isinstance (pa_cons (pv 1) (pa_cons (pe_bltn (v := .ty "list") (by rfl) T.list boot_list' rfl) pa_nil))) (nomark _))))) pss_never pss_nil)
        (pss_cons (ps_if (pt_cmpR op_ne (pe_callB call_len_seq (by rfl) T.len PySem.boot_len (pa_cons (pv 0) pa_nil)) (pe_callB call_len_seq (by rfl) T.len PySem.boot_len (pa_cons (pv 1) pa_nil)) (nomark _)) pss_never pss_nil)
        (pss_one (ps_ret (pe_cmpR (op_eqD hr.units) (pe_lc (own := [("_law_k", 2)]) (g := gName 2) (tt := tNot (tB (tCall spAlikeI [] E0 (tCons (tOp (rIxT K) (tVar 0) (tVar 2)) (tCons (tOp (rIxT K) (tVar 1) (tVar 2)) tNil))))) (te := tVar 2) rfl scAlike.nd
            (pi_range1 (by rfl) T.range (pa_cons (pe_callB call_len_seq (by rfl) T.len PySem.boot_len (pa_cons (pv 1) pa_nil)) pa_nil)) (blkOk_by (own := [("_law_k", 2)]) (N := ["_law_found", "_law_due", "_law_k"]) (sc := defScope sAlike) (by decide +kernel))
            (fun _ _ _ _ _ => pg_name (i := 2) scAlike.nd rfl (Or.inl rfl)) (fun _ _ _ _ _ => pts_one (pt_not (pt_val (pe_call GI hr (by rfl) gA F.kp bA .nil pass0 (pa_cons (pe_ix ix_tup (pv 0) (pv 2) (fun _ _ => rfl)) (pa_cons (pe_ix ix_tup (pv 1) (pv 2) (fun _ _ => rfl)) pa_nil))))))
            (fun _ _ _ _ _ => pv 2)) (pe_lst pa_nil) (nomark _)))))) pss_nil) pss_never, ?_⟩
    have el : (xs.map V.int).length = xs.length := List.length_map _
    refine ⟨.ref b, rfl, by show 2 ≤ sizeLine; decide, fun p np => ?_⟩
    have s1 : Same H (upd H p (.tup [.ty "tuple", .ty "list"])) := same_upd np
    refine ⟨.ref b, p, _, .type "tuple", [.type "tuple", .type "list"], true, rfl, upd_same, .cons (.ty _) (.cons (.ty _) .nil), .base (.tup (s1 _ _ hb)), kit_tup, true, rfl, iteT ?_⟩
    generalize upd H p (.tup [.ty "tuple", .ty "list"]) = H1 at s1 ⊢
    refine ⟨.ref a, rfl, by show 2 ≤ sizeLine; decide, fun p2 np2 => ?_⟩
    have s2 : Same H (upd H1 p2 (.tup [.ty "tuple", .ty "list"])) := s1.trans (same_upd np2)
    refine ⟨.ref a, p2, _, .type "tuple", [.type "tuple", .type "list"], true, rfl, upd_same, .cons (.ty _) (.cons (.ty _) .nil), .base (.tup (s2 _ _ ha)), kit_tup, true, rfl, iteF ?_⟩
    generalize upd H1 p2 (.tup [.ty "tuple", .ty "list"]) = H2 at s2 ⊢
    have ha2 : IT H2 a xs := s2 _ _ ha
    have hb2 : IT H2 b xs := s2 _ _ hb
    refine ⟨.ref a, rfl, .ref a, .ty "list", .type "tuple", .type "list", false, rfl, .ty _, .base (.tup ha2), kit_ty (by decide +kernel), .ref b, rfl, .ref b, .ty "list", .type "tuple", .type "list", false, rfl, .ty _, .base (.tup hb2), kit_ty (by decide +kernel), rfl, false, rfl, iteF ?_⟩
    refine ⟨.ref a, rfl, a, _, rfl, .inr ha2.seq, .ref b, rfl, b, _, rfl, .inr hb2.seq, rfl, _, rfl, ?_⟩
    rw [show (!decide (V.int ((xs.map V.int).length : Int) = V.int ((xs.map V.int).length : Int))) = false by simp]
    refine iteF ⟨.ref b, rfl, b, _, rfl, .inr hb2.seq, _, rfl, by omega, by rw [el]; omega, fun D nD => ?_⟩
    rw [Int.toNat_natCast, el]
    have s3 : Same H2 (upd H2 D (.lst [])) := same_upd nD
    refine lc_range (lo := 0) (n := xs.length) (fun i H' => Same H2 H' ∧ H' D = some (.lst [])) ⟨s3, upd_same⟩ ?_ ?_
    · rintro i H' hi ⟨k1, k2⟩
      have ha3 : IT H' a xs := k1 _ _ ha2
      have hb3 : IT H' b xs := k1 _ _ hb2
      have e0 : ((0 : Int) + (i : Int)).toNat = i := by omega
      refine ⟨rfl, .ref a, rfl, .int (0 + (i : Int)), rfl, a, _, _, .int (xs.getD i 0), rfl, rfl, ha3.seq, ?_, .ref b, rfl, .int (0 + (i : Int)), rfl, b, _, _, .int (xs.getD i 0), rfl, rfl, hb3.seq, ?_, xs.getD i 0, rfl, fun H4 s4 => ⟨true, rfl, iteF ⟨k1.trans s4, s4 _ _ k2⟩⟩⟩
      · have := at_ix (s := xs) (i := 0 + (i : Int)) (by omega) (by omega)
        rw [e0] at this
        exact this
      · have := at_ix (s := xs) (i := 0 + (i : Int)) (by omega) (by omega)
        rw [e0] at this
        exact this
    · rintro H' ⟨k1, k2⟩
      refine ⟨Nat.zero_le _, fun o no => ?_⟩
      have s4 : Same H' (upd H' o (.lst [])) := same_upd no
      refine ⟨.list [], .list [], .lst (.of (s4 _ _ k2)) .nil, .lst (.of upd_same) .nil, by decide +kernel, by decide +kernel, ?_⟩
      rw [show PyData.eqv (.list []) (.list []) = true by decide +kernel]
      exact q _ ((s2.trans k1).trans s4)
end
end Rg
set_option Elab.async false
set_option linter.all false
set_option maxRecDepth 100000
set_option maxHeartbeats 4000000
/-! the law's own walk: the mirror and the heap -/
namespace Rg
open PySem PySem.Spec PyProof.Rows L2 GxR
abbrev KK := KW × KW
def kIn (h : L × L) (p : KK) : Nat → KK
  | 0 => p
  | i + 1 => kBell h (kIn h p i) (i + 1)
theorem kHere_eq (n : Nat) (p : KK) (h : L × L) : kHere n p h = kIn h p n := by
  unfold kHere
  induction n with
  | zero => rfl
  | succ n ih => rw [List.range_succ, List.foldl_append, ih]; rfl
theorem kBell_pos {h : L × L} {p : KK} {b : Nat} (e : rungL h.1 b ∈ p.1.map (·.1)) : kBell h p b = p := by
  unfold kBell
  rw [if_pos e]
theorem kBell_neg {h : L × L} {p : KK} {b : Nat} (e : ¬ rungL h.1 b ∈ p.1.map (·.1)) : kBell h p b = (p.1 ++ [(rungL h.1 b, h.2 ++ [(b : Int)])], p.2 ++ [(rungL h.1 b, h.2 ++ [(b : Int)])]) := by
  unfold kBell
  rw [if_neg e]
theorem kBell_le (h : L × L) (p : KK) (b : Nat) : p.1.length ≤ (kBell h p b).1.length := by
  by_cases e : rungL h.1 b ∈ p.1.map (·.1)
  · rw [kBell_pos e]
    exact Nat.le_refl _
  · rw [kBell_neg e, List.length_append]
    exact Nat.le_add_right _ _
theorem kIn_le (h : L × L) (p : KK) {i j : Nat} (e : i ≤ j) : (kIn h p i).1.length ≤ (kIn h p j).1.length := by
  induction e with
  | refl => exact Nat.le_refl _
  | step h ih => exact Nat.le_trans ih (kBell_le _ _ _)
theorem kHere_le (n : Nat) (p : KK) (h : L × L) : p.1.length ≤ (kHere n p h).1.length := by
  rw [kHere_eq]
  exact kIn_le h p (Nat.zero_le n)
theorem kFold_le (n : Nat) : ∀ (rows : KW) (p : KK), p.1.length ≤ (rows.foldl (kHere n) p).1.length
  | [], _ => Nat.le_refl _
  | r :: rows, p => Nat.le_trans (kHere_le n p r) (kFold_le n rows _)
theorem kTake_le (n : Nat) (rows : KW) (p : KK) (i : Nat) : ((rows.take i).foldl (kHere n) p).1.length ≤ (rows.foldl (kHere n) p).1.length := by
  have e : rows.foldl (kHere n) p = (rows.drop i).foldl (kHere n) ((rows.take i).foldl (kHere n) p) := by rw [← List.foldl_append, List.take_append_drop]
  rw [e]
  exact kFold_le _ _ _
theorem kTo_le (n : Nat) {i j : Nat} (h : i ≤ j) : (kTo n i).1.length ≤ (kTo n j).1.length := by
  induction h with
  | refl => exact Nat.le_refl _
  | @step m h ih => exact Nat.le_trans ih (kFold_le n (kTo n m).2 ((kTo n m).1, []))
/-- each row: a lift of n places, a word of at most k bells -/
def RowsOk (n k : Nat) (l : KW) : Prop := ∀ p ∈ l, p.1.length = n ∧ p.2.length ≤ k
theorem kBell_ok {n k b : Nat} {h : L × L} {p : KK} (hh : h.1.length = n ∧ h.2.length ≤ k) (h1 : 1 ≤ b) (h2 : b ≤ n) (hp : RowsOk n (k + 1) p.2) : RowsOk n (k + 1) (kBell h p b).2 := by
  by_cases e : rungL h.1 b ∈ p.1.map (·.1)
  · rw [kBell_pos e]
    exact hp
  · rw [kBell_neg e]
    intro x hx
    rcases List.mem_append.mp hx with hx | hx
    · exact hp x hx
    · rw [List.mem_singleton.mp hx]
      refine ⟨by rw [rungL_len h1 (by omega)]; exact hh.1, ?_⟩
      show (h.2 ++ [(b : Int)]).length ≤ k + 1
      rw [List.length_append]
      exact Nat.succ_le_succ hh.2
theorem kIn_ok {n k : Nat} {h : L × L} {p : KK} (hh : h.1.length = n ∧ h.2.length ≤ k) (hp : RowsOk n (k + 1) p.2) : ∀ {i : Nat}, i ≤ n → RowsOk n (k + 1) (kIn h p i).2
  | 0, _ => hp
  | i + 1, hi => kBell_ok hh (Nat.succ_le_succ (Nat.zero_le i)) hi (kIn_ok hh hp (Nat.le_of_succ_le hi))
theorem kFold_ok {n k : Nat} : ∀ (rows : KW) (p : KK), RowsOk n k rows → RowsOk n (k + 1) p.2 → RowsOk n (k + 1) (rows.foldl (kHere n) p).2
  | [], _, _, h => h
  | r :: rows, p, hr, hp => by
    refine kFold_ok rows _ (fun x hx => hr x (List.mem_cons_of_mem _ hx)) ?_
    rw [kHere_eq]
    exact kIn_ok (hr r List.mem_cons_self) hp (Nat.le_refl n)
theorem firstL_len (n : Nat) : (firstL n).length = n := by
  unfold firstL
  rw [List.length_map, List.length_range]
theorem kTo_ok (n : Nat) : ∀ t : Nat, RowsOk n t (kTo n t).2
  | 0 => fun p hp => by
    have hp' : p ∈ [(firstL n, ([] : L))] := hp
    rw [List.mem_singleton.mp hp']
    exact ⟨firstL_len n, Nat.zero_le _⟩
  | t + 1 => kFold_ok (kTo n t).2 ((kTo n t).1, []) (kTo_ok n t) (fun _ z => nomatch z)
theorem counts_succ (n t : Nat) : counts n (t + 1) = counts n t ++ [((kTo n (t + 1)).1.length : Int)] := by
  unfold counts
  rw [List.range_succ, List.map_append]
  rfl
theorem counts_len (n t : Nat) : (counts n t).length = t + 1 := by
  unfold counts
  rw [List.length_map, List.length_range]
/-! ### the heap -/
inductive KnownAt (H : Hp) : List (List Key × V) → KW → Prop
  | nil : KnownAt H [] []
  | cons {s wd : L} {q : Addr} {kvs : List (List Key × V)} {l : KW} : IT H q wd → KnownAt H kvs l → KnownAt H ((kk s, .ref q) :: kvs) ((s, wd) :: l)
theorem KnownAt.mono {H H' : Hp} (m : TupK H H') : ∀ {kvs : List (List Key × V)} {l : KW}, KnownAt H kvs l → KnownAt H' kvs l
  | _, _, .nil => .nil
  | _, _, .cons a r => .cons (m _ _ a) (r.mono m)
theorem KnownAt.keys {H : Hp} : ∀ {kvs : List (List Key × V)} {l : KW}, KnownAt H kvs l → KeysAre kvs (l.map (·.1))
  | _, _, .nil => rfl
  | _, _, .cons _ r => by
    have := r.keys
    rw [KeysAre] at this
    rw [KeysAre, List.map_cons, List.map_cons, List.map_cons, this]
theorem KnownAt.snoc {H : Hp} {s wd : L} {q : Addr} (h : IT H q wd) : ∀ {kvs : List (List Key × V)} {l : KW}, KnownAt H kvs l → KnownAt H (kvs ++ [(kk s, .ref q)]) (l ++ [(s, wd)])
  | _, _, .nil => .cons h .nil
  | _, _, .cons a r => .cons a (r.snoc h)
theorem KnownAt.get {H : Hp} : ∀ {kvs : List (List Key × V)} {l : KW} {s : L} {v : V}, KnownAt H kvs l → valV kvs (kk s) = some v → ∃ q wd, v = .ref q ∧ IT H q wd ∧ (s, wd) ∈ l
  | _, _, _, _, .nil, e => nomatch e
  | _, _, s, v, .cons (s := s1) (wd := wd) (q := q) a r, e => by
    by_cases c : s1 = s
    · subst c
      rw [valV_pos rfl] at e
      exact ⟨q, wd, (Option.some.inj e).symm, a, List.mem_cons_self⟩
    · rw [valV_neg fun z => c (kk_inj z)] at e
      obtain ⟨q2, wd2, h1, h2, h3⟩ := r.get e
      exact ⟨q2, wd2, h1, h2, List.mem_cons_of_mem _ h3⟩
inductive RowsW (H : Hp) : List Addr → KW → Prop
  | nil : RowsW H [] []
  | cons {p a q : Addr} {s wd : L} {ps : List Addr} {l : KW} : H p = some (.tup [.ref a, .ref q]) → IT H a s → IT H q wd → RowsW H ps l → RowsW H (p :: ps) ((s, wd) :: l)
theorem RowsW.mono {H H' : Hp} (m : TupK H H') : ∀ {ps : List Addr} {l : KW}, RowsW H ps l → RowsW H' ps l
  | _, _, .nil => .nil
  | _, _, .cons a b c r => .cons (m _ _ a) (m _ _ b) (m _ _ c) (r.mono m)
theorem RowsW.snoc {H : Hp} {p a q : Addr} {s wd : L} (h1 : H p = some (.tup [.ref a, .ref q])) (h2 : IT H a s) (h3 : IT H q wd) : ∀ {ps : List Addr} {l : KW}, RowsW H ps l → RowsW H (ps ++ [p]) (l ++ [(s, wd)])
  | _, _, .nil => .cons h1 h2 h3 .nil
  | _, _, .cons a b c r => .cons a b c (r.snoc h1 h2 h3)
theorem RowsW.len {H : Hp} : ∀ {ps : List Addr} {l : KW}, RowsW H ps l → ps.length = l.length
  | _, _, .nil => rfl
  | _, _, .cons _ _ _ r => by rw [List.length_cons, List.length_cons, r.len]
theorem RowsW.get {H : Hp} : ∀ {ps : List Addr} {l : KW} {i : Nat} {p : Addr}, RowsW H ps l → ps[i]? = some p → ∃ a q s wd, l[i]? = some (s, wd) ∧ H p = some (.tup [.ref a, .ref q]) ∧ IT H a s ∧ IT H q wd
  | _, _, _, _, .nil, e => by simp at e
  | _, _, 0, _, .cons a c d _, e => by
    rw [List.getElem?_cons_zero] at e
    cases e
    exact ⟨_, _, _, _, rfl, a, c, d⟩
  | _, _, i + 1, _, .cons a c d r, e => by
    rw [List.getElem?_cons_succ] at e
    obtain ⟨b, q, s, wd, h1, h2, h3, h4⟩ := r.get e
    exact ⟨b, q, s, wd, by rw [List.getElem?_cons_succ]; exact h1, h2, h3, h4⟩
/-- the tuples that list(known) gives -/
theorem keys_bs {H : Hp} : ∀ {kvs : List (List Key × V)} {bs : List Addr} {l : List L}, IsKeys H kvs bs → KeysAre kvs l → ∃ B : BS, bs.map V.ref = rfs B ∧ B.map (·.2) = l ∧ ∀ b ∈ B, IT H b.1 b.2
  | [], bs, l, h, k => by
    cases h
    cases l with
    | nil => exact ⟨[], rfl, rfl, fun _ z => nomatch z⟩
    | cons a l => simp [KeysAre] at k
  | p :: kvs, _, l, h, k => by
    cases h with
    | @cons _ b _ bs h1 h2 =>
    cases l with
    | nil => simp [KeysAre] at k
    | cons s l =>
      rw [KeysAre, List.map_cons, List.map_cons] at k
      injection k with k1 k2
      obtain ⟨B, e1, e2, e3⟩ := keys_bs h2 k2
      refine ⟨(b, s) :: B, ?_, ?_, fun c hc => ?_⟩
      · rw [List.map_cons, e1]
        rfl
      · rw [List.map_cons, e2]
      · rcases List.mem_cons.mp hc with hc | hc
        · rw [hc]
          have h1' : H b = some (.tup (p.1.map kV)) := h1
          show H b = some (.tup (s.map V.int))
          rw [h1', k1, kk_V]
        · exact e3 c hc
/-- the heap in the law's loops: known at d, rows at ro, more at o, counts at c -/
structure LAt (Ps : List Addr) (H0 : Hp) (d ro o c : Addr) (ps : List Addr) (rows : KW) (cn : L) (Q : KK) (H : Hp) : Prop where
  kn : ∃ kvs, H d = some (.dT kvs) ∧ KnownAt H kvs Q.1
  ro : H ro = some (.lst (ps.map V.ref))
  rw : RowsW H ps rows
  mo : ∃ qs : List Addr, H o = some (.lst (qs.map V.ref)) ∧ RowsW H qs Q.2
  cn : H c = some (.lst (cn.map V.int))
  le : Q.2.length ≤ Q.1.length
  sm : Sm Ps H0 H
section
variable {Ps : List Addr} {H0 H H' : Hp} {d ro o c : Addr} {ps : List Addr} {rows : KW} {cn : L} {Q : KK}
theorem LAt.same (h : LAt Ps H0 d ro o c ps rows cn Q H) (s : Same H H') : LAt Ps H0 d ro o c ps rows cn Q H' := by
  obtain ⟨⟨kvs, a1, a2⟩, b, e, ⟨qs, f1, f2⟩, g, l, m⟩ := h
  have k : TupK H H' := Rg.Same.tk s
  exact ⟨⟨kvs, s _ _ a1, a2.mono k⟩, s _ _ b, e.mono k, ⟨qs, s _ _ f1, f2.mono k⟩, s _ _ g, l, m.trans (Sm.of_same s)⟩
theorem LAt.put {kvs : List (List Key × V)} {s wd : L} {q : Addr} (h : LAt Ps H0 d ro o c ps rows cn Q H) (nd : H0 d = none) (hd : H d = some (.dT kvs)) (hq : IT H q wd) (n : ¬ s ∈ Q.1.map (·.1)) :
    LAt Ps H0 d ro o c ps rows cn (Q.1 ++ [(s, wd)], Q.2) (upd H d (.dT (putK kvs (kk s) (.ref q)))) := by
  obtain ⟨⟨kvs', a1, a2⟩, b, e, ⟨qs, f1, f2⟩, g, l, m⟩ := h
  rw [hd] at a1
  cases a1
  have k : TupK H (upd H d (.dT (putK kvs (kk s) (.ref q)))) := tk_upd hd fun _ z => nomatch z
  have ne : ∀ {x : Addr} {ys : List V}, H x = some (.lst ys) → upd H d (.dT (putK kvs (kk s) (.ref q))) x = some (.lst ys) := fun {x ys} hx => by
    rw [upd_ne fun z => by
      rw [z, hd] at hx
      cases hx]
    exact hx
  refine ⟨⟨_, upd_same, ?_⟩, ne b, e.mono k, ⟨qs, ne f1, f2.mono k⟩, ne g, ?_, m.upd_new nd⟩
  · have ev : valV kvs (kk s) = none := by
      have := keys_in s a2.keys
      rw [decide_eq_false n] at this
      cases q2 : valV kvs (kk s) with
      | none => rfl
      | some x =>
        rw [q2] at this
        cases this
    have z := (a2.mono k).snoc (s := s) (k _ _ hq)
    rw [← putK_new (.ref q) ev] at z
    exact z
  · show Q.2.length ≤ (Q.1 ++ [(s, wd)]).length
    rw [List.length_append]
    omega
theorem LAt.app {qs : List Addr} {s wd : L} {p a q : Addr} (h : LAt Ps H0 d ro o c ps rows cn Q H) (no : H0 o = none) (hro : ro ≠ o) (hco : c ≠ o) (ho : H o = some (.lst (qs.map V.ref))) (hp : H p = some (.tup [.ref a, .ref q])) (ha : IT H a s) (hq : IT H q wd) (hl : Q.2.length + 1 ≤ Q.1.length) :
    LAt Ps H0 d ro o c ps rows cn (Q.1, Q.2 ++ [(s, wd)]) (upd H o (.lst (qs.map V.ref ++ [.ref p]))) := by
  obtain ⟨⟨kvs, a1, a2⟩, b, e, ⟨qs', f1, f2⟩, g, l, m⟩ := h
  rw [ho] at f1
  have eqs : qs' = qs := by
    have e1 : qs.map V.ref = qs'.map V.ref := by
      injection f1 with f1
      injection f1
    exact ((List.map_inj_right fun a b z => V.ref.inj z).mp e1).symm
  subst eqs
  have k : TupK H (upd H o (.lst (qs'.map V.ref ++ [.ref p]))) := tk_upd ho fun _ z => nomatch z
  have nd : d ≠ o := fun z => by
    rw [z, ho] at a1
    cases a1
  refine ⟨⟨kvs, by rw [upd_ne nd]; exact a1, a2.mono k⟩, by rw [upd_ne hro]; exact b, e.mono k, ⟨qs' ++ [p], ?_, (f2.mono k).snoc (k _ _ hp) (k _ _ ha) (k _ _ hq)⟩, by rw [upd_ne hco]; exact g, ?_, m.upd_new no⟩
  · rw [upd_same, List.map_append]
    rfl
  · show (Q.2 ++ [(s, wd)]).length ≤ Q.1.length
    rw [List.length_append]
    exact hl
end
end Rg
set_option Elab.async false
set_option linter.all false
set_option maxRecDepth 1000000
set_option maxHeartbeats 4000000
/-! the finite check -/
namespace Rg
theorem gN2 : goodN 2 = true := by decide +kernel
theorem gN3 : goodN 3 = true := by decide +kernel
theorem gN4 : goodN 4 = true := by decide +kernel
theorem gW2 : goodW 2 = true := by decide +kernel
theorem gW3 : goodW 3 = true := by decide +kernel
theorem gW4 : goodW 4 = true := by decide +kernel
theorem gF2 : goodF 2 = true := by decide +kernel
theorem gF3 : goodF 3 = true := by decide +kernel
theorem gF4 : goodF 4 = true := by decide +kernel
theorem gZ2 : goodZ 2 = true := by decide +kernel
theorem gZ3 : goodZ 3 = true := by decide +kernel
theorem gZ4 : goodZ 4 = true := by decide +kernel
theorem big2 : (kTo 2 7).1.length ≤ 900 := by decide +kernel
theorem big3 : (kTo 3 7).1.length ≤ 900 := by decide +kernel
theorem big4 : (kTo 4 7).1.length ≤ 900 := by decide +kernel
theorem wbig2 : (wTo 2 7).1.length ≤ 900 := by decide +kernel
theorem wbig3 : (wTo 3 7).1.length ≤ 900 := by decide +kernel
theorem wbig4 : (wTo 4 7).1.length ≤ 900 := by decide +kernel
section
variable {n : Nat} (h2 : 2 ≤ n) (h4 : n ≤ 4)
include h2 h4
theorem three {p : Nat → Prop} (a : p 2) (b : p 3) (c : p 4) : p n := by
  have : n = 2 ∨ n = 3 ∨ n = 4 := by omega
  rcases this with rfl | rfl | rfl
  · exact a
  · exact b
  · exact c
theorem goodK {s wd : L} (h : (s, wd) ∈ (kTo n 7).1) : isLift s = true ∧ comesL s = true ∧ okS 8 s = true ∧ cntL s = (wd.length : Int) ∧ small 8 s = wd ∧ cntL s ≤ 60 ∧ tot 8 s ≤ 100000 := by
  have g : goodN n = true := three h2 h4 (p := fun n => goodN n = true) gN2 gN3 gN4
  unfold goodN at g
  have g1 := List.all_eq_true.mp g _ h
  unfold good1 at g1
  simp only [Bool.and_eq_true, decide_eq_true_eq] at g1
  obtain ⟨⟨⟨⟨⟨⟨a, b⟩, c⟩, d⟩, e⟩, f⟩, g⟩ := g1
  exact ⟨a, b, c, d, e, f, g⟩
theorem goodM {m : Nat} (hm : m < 8) : (within n m : Int) = (counts n 7).getD m 0 := by
  have g : goodW n = true := three h2 h4 (p := fun n => goodW n = true) gW2 gW3 gW4
  unfold goodW at g
  have g1 := List.all_eq_true.mp g m (List.mem_range.mpr hm)
  exact of_decide_eq_true g1
theorem goodFl {b : Int} (h1 : -2 ≤ b) (h3 : b < 1) : isLift (flatL b n) = true ∧ comesL (flatL b n) = false := by
  have g : goodF n = true := three h2 h4 (p := fun n => goodF n = true) gF2 gF3 gF4
  unfold goodF at g
  have hb : b ∈ [-2, -1, (0 : Int)] := by
    have : b = -2 ∨ b = -1 ∨ b = 0 := by omega
    rcases this with rfl | rfl | rfl <;> simp
  have g1 := List.all_eq_true.mp g b hb
  simp only [Bool.and_eq_true] at g1
  refine ⟨g1.1.1, ?_⟩
  have := g1.1.2
  cases e : comesL (flatL b n) with
  | true => rw [e] at this; cases this
  | false => rfl
theorem goodFi : isLift (firstL n) = true ∧ comesL (firstL n) = true ∧ okS 8 (firstL n) = true ∧ tot 8 (firstL n) ≤ 100000 ∧ cntL (firstL n) = 0 ∧ small 8 (firstL n) = [] := by
  have g : goodZ n = true := three h2 h4 (p := fun n => goodZ n = true) gZ2 gZ3 gZ4
  unfold goodZ at g
  simp only [Bool.and_eq_true, decide_eq_true_eq] at g
  obtain ⟨⟨⟨⟨⟨a, b⟩, c⟩, d⟩, e⟩, f⟩ := g
  exact ⟨a, b, c, d, e, f⟩
end
end Rg
set_option Elab.async false
set_option linter.all false
set_option maxRecDepth 100000
set_option maxHeartbeats 4000000
/-! the law -/
namespace Rg
open PySem PySem.Spec PyProof.Rows L2 GxR
/-- a def's promise, with all that a call of it asks -/
def FnX (P : Program) (w : World) (K : PySem.W.Frag) (mg : Str → Option Value) (base : Heap) (k : Nat) (x : Str) (ps : List Str) (sp : Sp) : Prop :=
  ∃ (f : Addr) (fd : FuncData), FnOk P w K mg base CX0 k f fd ps sp ∧ PySem.W.keepIn K (.ref f) = true ∧ Binds K fd ps [] ∧ mg x = some (.ref f)
section
variable {P : Program} {w : World} {K : PySem.W.Frag} {mg : Str → Option Value} {base : Heap}
abbrev lawN : List Str := ["_law_script", "_law_row", "_law_size", "_law_many", "_law_rows", "_law_known", "_law_counts", "_law_turn", "_law_more", "_law_here", "_law_word", "_law_bell", "_law_there", "_law_some", "_law_base", "_law_flat", "_law_found", "_law_k"]
theorem scLaw : FnScope lawN ["_law_script"] (defScope sLaw) := ⟨rfl, rfl, rfl, by decide +kernel, rfl, by decide +kernel, by decide +kernel⟩
def spLaw (K : PySem.W.Frag) (P1 P2 : Addr) : Sp := fun vs H Q _ => ∃ (a : Addr) (ns : L), vs = [.ref a] ∧ SqL K H a (ns.map V.int) ∧ TabG H P1 ∧ TabG H P2 ∧ ∀ H', Q (.bl true) H'
theorem ok_law {f : Addr} {fd : FuncData} {P1 P2 : Addr} {Ps : List Addr} (h1 : P1 ∈ Ps) (h2 : P2 ∈ Ps) (F : Fun K "law" "law" sLaw f fd) (T : Txt mg)
    (XT : FnX P w K mg base 1 "_law_taken" ["_law_row", "_law_many"] (spTaken K)) (XF : FnX P w K mg base 1 "_law_first" ["_law_size"] spFirstT) (XL : FnX P w K mg base 1 "_law_lifted" ["_law_some", "_law_bell"] spLifted)
    (XI : FnX P w K mg base 1 "_law_alike" ["_law_found", "_law_due"] spAlikeI) (XA : FnX P w K mg base 2 "_law_alike" ["_law_found", "_law_due"] spAlikeT) (XP : FnX P w K mg base 2 "_law_pick" ["_law_row", "_law_things"] (spPick K))
    (XW : FnX P w K mg base 3 "lifts_within" ["size", "many"] (spWithin Ps)) (XB : FnX P w K mg base 12 "lift_bells" ["lift"] (spBells Ps P1 P2)) (XC : FnX P w K mg base 4 "lift_count" ["lift"] (spLCount Ps P1 P2)) :
    FnOk P w K mg base CX0 13 f fd ["_law_script"] (spLaw K P1 P2) := by
  obtain ⟨fT, fdT, GT, kT, bT, gT⟩ := XT
  obtain ⟨fF, fdF, GF, kF, bF, gF⟩ := XF
  obtain ⟨fL, fdL, GL, kL, bL, gL⟩ := XL
  obtain ⟨fI, fdI, GI, kI, bI, gI⟩ := XI
  obtain ⟨fA, fdA, GA, kA, bA, gA⟩ := XA
  obtain ⟨fP, fdP, GP, kP, bP, gP⟩ := XP
  obtain ⟨fW, fdW, GW, kW, bW, gW⟩ := XW
  obtain ⟨fB, fdB, GB, kB, bB, gB⟩ := XB
  obtain ⟨fC, fdC, GC, kC, bC, gC⟩ := XC
  refine F.ok scLaw (fun vs H Q E h => ?_) (fun cdv A outer s H vs Q E hr h => ?_)
  · obtain ⟨a, ns, rfl, _⟩ := h
    rfl
  · obtain ⟨a, ns, rfl, hS, hT1, hT2, q⟩ := h
    have hu := hu_of hr
    have hu100 : (A.deeper (envOfC "law" (defScope sLaw) s.heap.objs.size f cdv)).units + 100 < cLine := by
      have := hr.un
      omega
    have hr1 : Room 1 _ := hr.mono (by decide)
    have hr2 : Room 2 _ := hr.mono (by decide)
    have hr3 : Room 3 _ := hr.mono (by decide)
    have hr4 : Room 4 _ := hr.mono (by decide)
    refine ⟨_, pss_cons (ps_set (i := 1) scLaw.nd rfl (.inl rfl) (pe_lst (pa_cons (pv 0) (pa_cons pe_int (pa_cons pe_int (pa_cons pe_int pa_nil))))))
      (pss_cons (ps_par rfl scLaw.nd (i := 2) (j := 3) rfl rfl (by decide) rfl rfl (pa_cons (pe_op op_add pe_int (pe_call GT hr1 (by rfl) gT kT bT .nil pass0 (pa_cons (pv 1) (pa_cons pe_int pa_nil)))) (pa_cons (pe_call GT hr1 (by rfl) gT kT bT .nil pass0 (pa_cons (pv 1) (pa_cons pe_int pa_nil))) pa_nil)) (by rfl))
      (pss_cons (ps_par3 rfl scLaw.nd (i := 4) (j := 5) (l := 6) rfl rfl rfl (by decide) (by decide) (by decide) rfl rfl rfl
          (pa_cons (pe_lst (pa_cons (pe_tup (pa_cons (pe_call GF hr1 (by rfl) gF kF bF .nil pass0 (pa_cons (pv 2) pa_nil)) (pa_cons (pe_tup pa_nil) pa_nil))) pa_nil))
            (pa_cons (pe_disp1T hu (pe_call GF hr1 (by rfl) gF kF bF .nil pass0 (pa_cons (pv 2) pa_nil)) (pe_tup pa_nil)) (pa_cons (pe_lst (pa_cons pe_int pa_nil)) pa_nil))) (by rfl))
      (pss_cons (ps_for PassesOwn.never rfl (pi_range1 (by rfl) T.range (pa_cons pe_int pa_nil)) (pg_name (i := 7) scLaw.nd rfl (.inl rfl))
        (pss_cons (ps_set (i := 8) scLaw.nd rfl (.inl rfl) (pe_lst pa_nil))
        (pss_cons (ps_for PassesOwn.never rfl (pi_list (pv 4)) (pg_tup rfl (pgs_cons (pg_name (i := 9) scLaw.nd rfl (.inl rfl)) (pgs_cons (pg_name (i := 10) scLaw.nd rfl (.inl rfl)) pgs_nil)))
          (pss_one (ps_for PassesOwn.never rfl (pi_range2 (by rfl) T.range (pa_cons pe_int (pa_cons (pe_op op_add (pv 2) pe_int) pa_nil))) (pg_name (i := 11) scLaw.nd rfl (.inl rfl))
            (pss_cons (ps_set (i := 12) scLaw.nd rfl (.inl rfl) (pe_call GL hr1 (by rfl) gL kL bL .nil pass0 (pa_cons (pv 9) (pa_cons (pv 11) pa_nil))))
            (pss_one (ps_if (pt_cmp (pc_dnotin hu (pv 12) (pv 5)))
              (pss_cons (ps_dput hu (pv 5) (pv 12) (pe_op op_catA (pv 10) (pe_tup (pa_cons (pv 11) pa_nil))) rfl)
              (pss_one (ps_expr (pe_bm PySem.F.plainAttrs_list PySem.F.slot_list_append PySem.F.type_list_append mt_append (pv 8) (pa_cons (pe_tup (pa_cons (pv 12) (pa_cons (pe_op op_catA (pv 10) (pe_tup (pa_cons (pv 11) pa_nil))) pa_nil))) pa_nil))))) pss_nil))))))
        (pss_cons (ps_set (i := 4) scLaw.nd rfl (.inl rfl) (pv 8))
        (pss_one (ps_expr (pe_bm PySem.F.plainAttrs_list PySem.F.slot_list_append PySem.F.type_list_append mt_append (pv 6) (pa_cons (pe_callB call_len_dT (by rfl) T.len PySem.boot_len (pa_cons (pv 5) pa_nil)) pa_nil))))))))
      (pss_cons (ps_if (pt_not (pt_val (pe_call GI hr1 (by rfl) gI kI bI .nil pass0 (pa_cons (pe_call GW hr3 (by rfl) gW kW bW .nil pass0 (pa_cons (pv 2) (pa_cons (pv 3) pa_nil))) (pa_cons (pe_ix ix_list (pv 6) (pv 3) (fun _ _ => rfl)) pa_nil))))) pss_never pss_nil)
      (pss_cons (ps_set (i := 13) scLaw.nd rfl (.inl rfl) (pe_call GP hr2 (by rfl) gP kP bP .nil pass0 (pa_cons (pv 1) (pa_cons (pe_callB (cr_sortT hu100) (by rfl) T.sorted boot_sorted (pa_cons (pe_callTy (call_list_dT rfl) (by rfl) T.list boot_list (pa_cons (pv 5) pa_nil)) pa_nil)) pa_nil))))
      (pss_cons (ps_if (PW.pt (pw_or (pt_not (pt_val (pe_call GA hr2 (by rfl) gA kA bA .nil pass0 (pa_cons (pe_call GB hr (by rfl) gB kB bB .nil pass0 (pa_cons (pv 13) pa_nil)) (pa_cons (pe_dget hu (pv 5) (pv 13) (fun _ _ => rfl)) pa_nil)))))
          (pw_or1 (pt_not (pt_val (pe_call GI hr1 (by rfl) gI kI bI .nil pass0 (pa_cons (pe_call GC hr4 (by rfl) gC kC bC .nil pass0 (pa_cons (pv 13) pa_nil)) (pa_cons (pe_callB call_len_seq (by rfl) T.len PySem.boot_len (pa_cons (pe_dget hu (pv 5) (pv 13) (fun _ _ => rfl)) pa_nil)) pa_nil)))))))) pss_never pss_nil)
      (pss_cons (ps_set (i := 14) scLaw.nd rfl (.inr rfl) (pe_op op_sub (pe_call GT hr1 (by rfl) gT kT bT .nil pass0 (pa_cons (pv 1) (pa_cons pe_int pa_nil))) pe_int))
      (pss_cons (ps_set (i := 15) scLaw.nd rfl (.inl rfl) (pe_tupleOf (by rfl) T.tuple (pe_lc (own := [("_law_k", 17)]) (g := gName 17) (tt := tYes) (te := tOp (rI0 fun i j => .int (i + j)) (tVar 14) (tVar 17)) rfl scLaw.nd
            (pi_range1 (by rfl) T.range (pa_cons (pv 2) pa_nil)) (blkOk_by (own := [("_law_k", 17)]) (N := lawN) (sc := defScope sLaw) (by decide +kernel))
            (fun _ _ _ _ _ => pg_name (i := 17) scLaw.nd rfl (Or.inl rfl)) (fun _ _ _ _ _ => pts_nil)
            (fun _ _ _ _ _ => pe_op op_add (pv 14) (pv 17)))))
      (pss_cons (ps_set (i := 16) scLaw.nd rfl (.inl rfl) (pe_ifExp (pt_cmpR op_lt (pv 14) pe_int (nomark _)) (pe_call GB hr (by rfl) gB kB bB .nil pass0 (pa_cons (pv 15) pa_nil)) (pe_tup pa_nil)))
      (pss_cons (ps_if (PW.pt (pw_and (pt_cmpR op_lt (pv 14) pe_int (nomark _)) (pw_and1 (PW.pt (pw_or (pt_cmp (pc_notN (pv 16))) (pw_or1 (pt_cmp (pc_notN (pe_call GC hr4 (by rfl) gC kC bC .nil pass0 (pa_cons (pv 15) pa_nil)))))))))) pss_never pss_nil)
      (pss_one (ps_ret (pe_and (pe_cmpR op_eq (pe_call GC hr4 (by rfl) gC kC bC .nil pass0 (pa_cons (pe_call GF hr1 (by rfl) gF kF bF .nil pass0 (pa_cons (pv 2) pa_nil)) pa_nil)) pe_int (nomark _))
          (pe_one (pe_cmpR (op_eqD hr.units) (pe_call GB hr (by rfl) gB kB bB .nil pass0 (pa_cons (pe_call GF hr1 (by rfl) gF kF bF .nil pass0 (pa_cons (pv 2) pa_nil)) pa_nil)) (pe_tup pa_nil) (nomark _)))))))))))))))), ?_⟩
    -- row = [script, 0, 8014, 0]
    refine ⟨.ref a, rfl, by show 4 ≤ sizeLine; decide, fun r nr => ?_⟩
    have hrow1 : RowAt K (upd H r (rowL a 0 8014 0)) r a ns := ⟨(Scr.of hS nr).put, 0, 8014, 0, upd_same, by decide⟩
    -- size, many
    refine ⟨.ref r, rfl, r, a, ns, 3, rfl, by decide, by decide, hrow1, fun z i1 sd1 rs1 z0 z1 hi1 => ?_⟩
    obtain ⟨n, en⟩ : ∃ n : Nat, (2 : Int) + z = (n : Int) := ⟨(2 + z).toNat, by omega⟩
    refine ⟨2, z, rfl, rfl, .ref r, rfl, r, a, ns, 8, rfl, by decide, by decide, hrow1.put hi1, fun z' i2 sd2 rs2 y0 y1 hi2 => ?_⟩
    obtain ⟨m, em⟩ : ∃ m : Nat, z' = (m : Int) := ⟨z'.toNat, by omega⟩
    refine ⟨.int (n : Int), .int (m : Int), by rw [← en, ← em], ?_⟩
    have hn2 : 2 ≤ n := by omega
    have hn4 : n ≤ 4 := by omega
    have hm7 : m ≤ 7 := by omega
    have hrow2 := (hrow1.put (sd := sd1) (rs := rs1) hi1).put (sd := sd2) (rs := rs2) hi2
    rw [upd_upd, upd_upd] at *
    have m2 : Sm Ps H (upd H r (rowL a i2 sd2 rs2)) := Sm.upd nr
    generalize upd H r (rowL a i2 sd2 rs2) = H2 at *
    -- rows, known, counts
    refine ⟨.int (n : Int), rfl, n, rfl, by omega, fun H3 p3 s3 h3 => ⟨Nat.zero_le _, fun e3 ne3 => ⟨by show 2 ≤ sizeLine; decide, fun w3 nw3 => ⟨by show 1 ≤ sizeLine; decide, fun ro nro => fun d nd => ?_⟩⟩⟩⟩
    refine ⟨.int (n : Int), rfl, n, rfl, by omega, fun H4 p4 s4 h4 => ⟨Nat.zero_le _, fun e4 ne4 => ⟨p4, firstL n, .ref e4, rfl, ?_, ?_, ?_⟩⟩⟩
    · exact (same_upd ne4) _ _ h4
    · exact (same_upd ne4) _ _ (s4 _ _ upd_same)
    have he3 : upd H3 e3 (.tup []) e3 = some (.tup []) := upd_same
    have sa : Same H2 (upd H3 e3 (.tup [])) := s3.trans (same_upd ne3)
    have h3a : IT (upd H3 e3 (.tup [])) p3 (firstL n) := (same_upd ne3) _ _ h3
    generalize upd H3 e3 (.tup []) = Ha at *
    have hw3 : upd Ha w3 (.tup [.ref p3, .ref e3]) w3 = some (.tup [.ref p3, .ref e3]) := upd_same
    have sb : Same H2 (upd Ha w3 (.tup [.ref p3, .ref e3])) := sa.trans (same_upd nw3)
    have h3b := (same_upd (o := .tup [.ref p3, .ref e3]) nw3) _ _ h3a
    have he3b := (same_upd (o := .tup [.ref p3, .ref e3]) nw3) _ _ he3
    generalize upd Ha w3 (.tup [.ref p3, .ref e3]) = Hb at *
    have hro : upd Hb ro (.lst [.ref w3]) ro = some (.lst [.ref w3]) := upd_same
    have sc : Same H2 (upd Hb ro (.lst [.ref w3])) := sb.trans (same_upd nro)
    have h3c := (same_upd (o := .lst [.ref w3]) nro) _ _ h3b
    have he3c := (same_upd (o := .lst [.ref w3]) nro) _ _ he3b
    have hw3c := (same_upd (o := .lst [.ref w3]) nro) _ _ hw3
    generalize upd Hb ro (.lst [.ref w3]) = Hc at *
    have nd2 : H2 d = none := sc.free nd
    have sd4 : Same Hc H4 := (same_upd nd).trans s4
    have hd4 : H4 d = some (.dT []) := s4 _ _ upd_same
    have he4 : upd H4 e4 (.tup []) e4 = some (.tup []) := upd_same
    have sf : Same Hc (upd H4 e4 (.tup [])) := sd4.trans (same_upd ne4)
    have hdf := (same_upd (o := .tup []) ne4) _ _ hd4
    generalize upd H4 e4 (.tup []) = Hf at *
    have kg : TupK Hf (upd Hf d (.dT [(kk (firstL n), .ref e4)])) := tk_upd hdf fun _ z => nomatch z
    have mg2 : Sm Ps H2 (upd Hf d (.dT [(kk (firstL n), .ref e4)])) := (Sm.of_same (sc.trans sf)).upd_new nd2
    have hdg : upd Hf d (.dT [(kk (firstL n), .ref e4)]) d = some (.dT [(kk (firstL n), .ref e4)]) := upd_same
    have hrog : upd Hf d (.dT [(kk (firstL n), .ref e4)]) ro = some (.lst [.ref w3]) := by
      have z := sf _ _ hro
      rw [upd_ne fun w => by
        rw [w, hdf] at z
        cases z]
      exact z
    have tg : TupK Hc (upd Hf d (.dT [(kk (firstL n), .ref e4)])) := (Rg.Same.tk sf).trans kg
    have heg := kg _ _ he4
    generalize upd Hf d (.dT [(kk (firstL n), .ref e4)]) = Hg at *
    refine ⟨by show 1 ≤ sizeLine; decide, fun c nc => ⟨_, _, _, rfl, 7, rfl, by decide, by decide, ?_⟩⟩
    have sh : Same Hg (upd Hg c (.lst [.int 1])) := same_upd nc
    have th := tg.trans (Rg.Same.tk sh)
    have hch : upd Hg c (.lst [.int 1]) c = some (.lst [.int 1]) := upd_same
    have ncH2 : H2 c = none := mg2.free c nc
    have mh : Sm Ps H2 (upd Hg c (.lst [.int 1])) := mg2.trans (Sm.upd nc)
    have hdh := sh _ _ hdg
    have hroh := sh _ _ hrog
    have heh := sh _ _ heg
    generalize upd Hg c (.lst [.int 1]) = Hh at *
    rw [show (7 : Int).toNat = 7 from rfl]
    have hz : (kTo n 7).1.length ≤ 900 := by
      have : n = 2 ∨ n = 3 ∨ n = 4 := by omega
      rcases this with rfl | rfl | rfl
      · exact big2
      · exact big3
      · exact big4
    refine for_range (lo := 0) (n := 7) (fun t σ H' => ∃ (ro : Addr) (ps : List Addr) (kvs : List (List Key × V)) (y7 y8 y9 y10 y11 y12 : Option V), σ = [some (.ref a), some (.ref r), some (.int (n : Int)), some (.int (m : Int)), some (.ref ro), some (.ref d), some (.ref c), y7, y8, y9, y10, y11, y12, none, none, none, none, none] ∧
        H' d = some (.dT kvs) ∧ KnownAt H' kvs (kTo n t).1 ∧ H' ro = some (.lst (ps.map V.ref)) ∧ RowsW H' ps (kTo n t).2 ∧ H' c = some (.lst ((counts n t).map V.int)) ∧ ro ≠ c ∧ Sm Ps H2 H')
      ⟨ro, [w3], _, none, none, none, none, none, none, rfl, hdh, .cons heh .nil, hroh, .cons (th _ _ hw3c) (th _ _ h3c) (th _ _ he3c) .nil, hch, ne_of_none hrog nc, mh⟩ ?_ ?_
    · rintro t σ H5 ht7 ⟨ro, ps, kvs, y7, y8, y9, y10, y11, y12, rfl, hd5, hk5, hro5, hrw5, hc5, hrc5, m5⟩
      have hbig : (kTo n (t + 1)).1.length ≤ 900 := Nat.le_trans (kTo_le n (show t + 1 ≤ 7 from ht7)) hz
      have eTo : kTo n (t + 1) = (kTo n t).2.foldl (kHere n) ((kTo n t).1, []) := rfl
      refine ⟨Nat.zero_le _, fun o no => ?_⟩
      have noH : H2 o = none := m5.free o no
      have nroo : ro ≠ o := ne_of_none hro5 no
      have nco : c ≠ o := ne_of_none hc5 no
      have ndo : d ≠ o := ne_of_none hd5 no
      have s6 : Same H5 (upd H5 o (.lst [])) := same_upd no
      have k6 : TupK H5 (upd H5 o (.lst [])) := Rg.Same.tk s6
      have L6 : LAt Ps H2 d ro o c ps (kTo n t).2 (counts n t) ((kTo n t).1, []) (upd H5 o (.lst [])) := ⟨⟨kvs, s6 _ _ hd5, hk5.mono k6⟩, s6 _ _ hro5, hrw5.mono k6, ⟨[], upd_same, .nil⟩, s6 _ _ hc5, Nat.zero_le _, m5.upd_new noH⟩
      generalize upd H5 o (.lst []) = H6 at *
      refine ⟨.ref ro, rfl, ro, rfl, ⟨_, .of L6.ro⟩, ?_⟩
      refine for_list (K := K) (a := ro) (xs := ps.map V.ref) (fun j σ H' => ∃ (y9 y10 y11 y12 : Option V), σ = [some (.ref a), some (.ref r), some (.int (n : Int)), some (.int (m : Int)), some (.ref ro), some (.ref d), some (.ref c), some (.int (0 + (t : Int))), some (.ref o), y9, y10, y11, y12, none, none, none, none, none] ∧
          LAt Ps H2 d ro o c ps (kTo n t).2 (counts n t) (((kTo n t).2.take j).foldl (kHere n) ((kTo n t).1, [])) H')
        ⟨_, _, _, _, rfl, L6⟩ (fun j σ H' _ ⟨_, _, _, _, _, L⟩ => .of L.ro) ?_ ?_
      · rintro j x σ H7 hx ⟨y9, y10, y11, y12, rfl, L7⟩
        rw [List.getElem?_map] at hx
        cases ep : ps[j]? with
        | none =>
          rw [ep] at hx
          cases hx
        | some p =>
        rw [ep] at hx
        have hx' : V.ref p = x := Option.some.inj hx
        subst hx'
        obtain ⟨a1, q1, s1, wd, ej, hp, ha1, hq1⟩ := L7.rw.get ep
        have hmem := List.mem_of_getElem? ej
        have hs1 : s1.length = n := (kTo_ok n t _ hmem).1
        have hwd : wd.length ≤ t := (kTo_ok n t _ hmem).2
        have estep := fold_take (kHere n) ((kTo n t).1, []) ej
        have hle4 := kTake_le n (kTo n t).2 ((kTo n t).1, []) (j + 1)
        rw [estep, kHere_eq, ← eTo] at hle4
        rw [estep, kHere_eq]
        generalize ((kTo n t).2.take j).foldl (kHere n) ((kTo n t).1, []) = Q0 at L7 hle4 ⊢
        refine ⟨p, _, rfl, .of hp, rfl, .ref a1, _, rfl, .ref q1, _, rfl, rfl, ?_⟩
        refine ⟨.int (n : Int), rfl, _, 1, rfl, rfl, 1, _, rfl, ⟨by omega, by omega, by omega, by omega⟩, ?_⟩
        rw [show ((n : Int) + 1 - 1).toNat = n by omega]
        refine for_range (lo := 1) (n := n) (fun i σ H' => ∃ (y11 y12 : Option V), σ = [some (.ref a), some (.ref r), some (.int (n : Int)), some (.int (m : Int)), some (.ref ro), some (.ref d), some (.ref c), some (.int (0 + (t : Int))), some (.ref o), some (.ref a1), some (.ref q1), y11, y12, none, none, none, none, none] ∧
            IT H' a1 s1 ∧ IT H' q1 wd ∧ LAt Ps H2 d ro o c ps (kTo n t).2 (counts n t) (kIn (s1, wd) Q0 i) H')
          ⟨_, _, rfl, ha1, hq1, L7⟩ ?_ ?_
        · rintro i σ H8 hi ⟨y11, y12, rfl, ha8, hq8, L8⟩
          have hle5 := kIn_le (s1, wd) Q0 (show i + 1 ≤ n from hi)
          have eW : kIn (s1, wd) Q0 (i + 1) = kBell (s1, wd) (kIn (s1, wd) Q0 i) (i + 1) := rfl
          rw [eW] at hle5
          rw [eW]
          generalize kIn (s1, wd) Q0 i = QQ at L8 hle5 ⊢
          rw [show (1 : Int) + (i : Int) = ((i + 1 : Nat) : Int) by omega]
          refine ⟨.ref a1, rfl, .int ((i + 1 : Nat) : Int), rfl, a1, s1, i + 1, rfl, ha8, by omega, by omega, by omega, fun H9 p9 s9 h9 => ?_⟩
          have L9 := L8.same s9
          obtain ⟨kvs9, hd9, hk9⟩ := L9.kn
          have key9 : H9 p9 = some (.tup ((kk (rungL s1 (i + 1))).map kV)) := by rw [kk_V]; exact h9
          refine ⟨.ref p9, rfl, .ref d, rfl, d, _, rfl, DGet.t hd9 key9, _, rfl, ?_⟩
          rw [keys_in _ hk9.keys]
          by_cases hin : rungL s1 (i + 1) ∈ QQ.1.map (·.1)
          · rw [decide_eq_true hin, kBell_pos hin]
            exact iteF ⟨_, _, rfl, s9 _ _ ha8, s9 _ _ hq8, L9⟩
          · rw [decide_eq_false hin, kBell_neg hin]
            rw [kBell_neg hin, List.length_append] at hle5
            have hsz : QQ.1.length + 1 ≤ 900 := Nat.le_trans hle5 (Nat.le_trans hle4 hbig)
            have hqle := L9.le
            refine iteT ⟨.ref q1, rfl, .int ((i + 1 : Nat) : Int), rfl, by show 1 ≤ sizeLine; decide, fun b9 nb9 => ?_⟩
            have sA : Same H9 (upd H9 b9 (.tup [.int ((i + 1 : Nat) : Int)])) := same_upd nb9
            have hb9 : IT (upd H9 b9 (.tup [.int ((i + 1 : Nat) : Int)])) b9 [((i + 1 : Nat) : Int)] := upd_same
            generalize upd H9 b9 (.tup [.int ((i + 1 : Nat) : Int)]) = HA at *
            refine cat_read (xs := wd) (ys := [((i + 1 : Nat) : Int)]) (sA _ _ (s9 _ _ hq8)) hb9 (by rw [List.length_singleton]; omega) fun HB qB sB hqB => ?_
            have sAB := sA.trans sB
            have LB := L9.same sAB
            have hdB := sAB _ _ hd9
            have hkl := hk9.keys.len
            rw [List.length_map] at hkl
            refine ⟨.ref d, rfl, .ref p9, rfl, d, _, rfl, DPut.t hdB (sAB _ _ key9) (small1000 (by omega)), ?_⟩
            have LC := LB.put nd2 hdB hqB hin
            have kC : TupK HB (upd HB d (.dT (putK kvs9 (kk (rungL s1 (i + 1))) (.ref qB)))) := tk_upd hdB fun _ z => nomatch z
            have kC9 := ((Rg.Same.tk s9).trans (Rg.Same.tk sAB)).trans kC
            have h9C := (Rg.Same.tk sAB).trans kC _ _ h9
            generalize upd HB d (.dT (putK kvs9 (kk (rungL s1 (i + 1))) (.ref qB))) = HC at *
            obtain ⟨qs, hoC, hqsC⟩ := id LC.mo
            refine ⟨.ref o, rfl, .inl ⟨rfl, _, .of hoC⟩, .ref p9, rfl, .ref q1, rfl, .int ((i + 1 : Nat) : Int), rfl, by show 1 ≤ sizeLine; decide, fun bD nbD => ?_⟩
            have sD : Same HC (upd HC bD (.tup [.int ((i + 1 : Nat) : Int)])) := same_upd nbD
            have hbD : IT (upd HC bD (.tup [.int ((i + 1 : Nat) : Int)])) bD [((i + 1 : Nat) : Int)] := upd_same
            generalize upd HC bD (.tup [.int ((i + 1 : Nat) : Int)]) = HD at *
            refine cat_read (xs := wd) (ys := [((i + 1 : Nat) : Int)]) (sD _ _ (kC9 _ _ hq8)) hbD (by rw [List.length_singleton]; omega) fun HE qE sE hqE => ⟨by show 2 ≤ sizeLine; decide, fun pr npr => ?_⟩
            have sF : Same HE (upd HE pr (.tup [.ref p9, .ref qE])) := same_upd npr
            have hpr : upd HE pr (.tup [.ref p9, .ref qE]) pr = some (.tup [.ref p9, .ref qE]) := upd_same
            generalize upd HE pr (.tup [.ref p9, .ref qE]) = HF at *
            have sDF := (sD.trans sE).trans sF
            have LF := LC.same sDF
            have hoF := sDF _ _ hoC
            have hql := hqsC.len
            refine ⟨o, _, _, rfl, rfl, hoF, ?_, ?_⟩
            · rw [List.length_map]
              refine small1000 ?_
              show qs.length ≤ 1000
              rw [hql]
              show QQ.2.length ≤ 1000
              omega
            · have kG : TupK HF (upd HF o (.lst (qs.map V.ref ++ [.ref pr]))) := tk_upd hoF fun _ z => nomatch z
              have kall := (kC9.trans (Rg.Same.tk sDF)).trans kG
              refine ⟨_, _, rfl, kall _ _ ha8, kall _ _ hq8, ?_⟩
              refine LF.app noH nroo nco hoF hpr (sDF _ _ h9C) (sF _ _ hqE) ?_
              show QQ.2.length + 1 ≤ (QQ.1 ++ [_]).length
              rw [List.length_append]
              exact Nat.succ_le_succ hqle
        · rintro σ H8 ⟨y11, y12, rfl, ha8, hq8, L8⟩
          exact ⟨_, _, _, _, rfl, L8⟩
      · rintro σ H7 ⟨y9, y10, y11, y12, rfl, L7⟩
        rw [List.length_map, L7.rw.len, List.take_length, ← eTo] at L7
        obtain ⟨⟨kvs7, hd7, hk7⟩, hro7, hrw7, ⟨qs, ho7, hqs7⟩, hc7, _, m7⟩ := L7
        have hkl := hk7.keys.len
        rw [List.length_map] at hkl
        refine ⟨.ref o, rfl, .ref c, rfl, .inl ⟨rfl, _, .of hc7⟩, .ref d, rfl, d, kvs7, rfl, hd7, c, _, _, rfl, rfl, hc7, ?_, ?_⟩
        · rw [List.length_map, counts_len]
          exact small1000 (by omega)
        · have kG : TupK H7 (upd H7 c (.lst ((counts n t).map V.int ++ [.int ((kvs7.length : Nat) : Int)]))) := tk_upd hc7 fun _ z => nomatch z
          have ndc : d ≠ c := fun z => by
            rw [z, hc7] at hd7
            cases hd7
          refine ⟨o, qs, kvs7, _, _, _, _, _, _, rfl, by rw [upd_ne ndc]; exact hd7, hk7.mono kG, by rw [upd_ne (Ne.symm nco)]; exact ho7, hqs7.mono kG, ?_, Ne.symm nco, m7.upd_new ncH2⟩
          rw [upd_same, counts_succ, List.map_append, hkl]
          rfl
    · rintro σ H5 ⟨ro, ps, kvs, y7, y8, y9, y10, y11, y12, rfl, hd5, hk5, hro5, hrw5, hc5, hrc5, m5⟩
      have wb : (wTo n m).1.length ≤ 900 := by
        have : n = 2 ∨ n = 3 ∨ n = 4 := by omega
        rcases this with rfl | rfl | rfl
        · exact Nat.le_trans (wTo_le 2 hm7) wbig2
        · exact Nat.le_trans (wTo_le 3 hm7) wbig3
        · exact Nat.le_trans (wTo_le 4 hm7) wbig4
      -- lifts_within
      refine ⟨.int (n : Int), rfl, .int (m : Int), rfl, n, m, rfl, hn2, by omega, by omega, wb, fun H6 m6 => ?_⟩
      have hc6 := m6.at_ _ _ hc5 (nt_lst _)
      refine ⟨.ref c, rfl, .int (m : Int), rfl, c, _, _, .int (within n m : Int), rfl, rfl, .of hc6, ?_, (within n m : Int), rfl, fun H7 s7 => ⟨true, rfl, iteF ?_⟩⟩
      · have := at_ix (s := counts n 7) (i := (m : Int)) (by omega) (by rw [counts_len]; omega)
        rw [Int.toNat_natCast, ← goodM hn2 hn4 (by omega)] at this
        exact this
      have m57 : Sm Ps H5 H7 := m6.trans (Sm.of_same s7)
      have m27 : Sm Ps H2 H7 := m5.trans m57
      have hd7 := m57.at_ _ _ hd5 (nt_dT _)
      have hk7 := hk5.mono m57.tk
      have hrow7 : RowAt K H7 r a ns := hrow2.keep m27
      -- some
      refine ⟨.ref r, rfl, .ref d, rfl, d, kvs, rfl, .inl hd7, fun lp bs nlp hkeys => ?_⟩
      obtain ⟨B, eB, eB2, hB⟩ := keys_bs hkeys hk7.keys
      have hlift : ∀ b ∈ B, ∃ wd, (b.2, wd) ∈ (kTo n 7).1 := fun b hb => by
        have h : b.2 ∈ (kTo n 7).1.map (·.1) := by
          rw [← eB2]
          exact List.mem_map.mpr ⟨b, hb, rfl⟩
        obtain ⟨p, hp, e⟩ := List.mem_map.mp h
        exact ⟨p.2, by rw [← e]; exact hp⟩
      have eBl : B.length = (kTo n 7).1.length := by
        have := congrArg List.length eB2
        rw [List.length_map, List.length_map] at this
        exact this
      have s8 : Same H7 (upd H7 lp (.lst (bs.map V.ref))) := same_upd nlp
      have hlp : upd H7 lp (.lst (bs.map V.ref)) lp = some (.lst (rfs B)) := by rw [upd_same, eB]
      generalize upd H7 lp (.lst (bs.map V.ref)) = H8 at *
      refine ⟨lp, B, rfl, .of hlp, fun b hb => IT.seq (s8 _ _ (hB b hb)), fun b hb e => ?_, fun pp ys npp perm => ?_⟩
      · obtain ⟨wd, hw⟩ := hlift b hb
        have := isLift_len (goodK hn2 hn4 hw).1
        rw [e] at this
        exact absurd this.1 (by decide)
      have eyl : (rfs ys).length = (kTo n 7).1.length := by rw [List.length_map, perm.length_eq, eBl]
      have hpos : 1 ≤ (kTo n 7).1.length := kTo_le n (Nat.zero_le 7)
      have s9 : Same H7 (upd H8 pp (.lst (rfs ys))) := s8.trans (same_upd npp)
      have m29 : Sm Ps H2 (upd H8 pp (.lst (rfs ys))) := m27.trans (Sm.of_same s9)
      have hpp : upd H8 pp (.lst (rfs ys)) pp = some (.lst (rfs ys)) := upd_same
      have npr : pp ≠ r := by
        obtain ⟨_, i, sd, rs, h, _⟩ := hrow7
        exact (ne_of_none (s8 _ _ h) npp).symm
      generalize upd H8 pp (.lst (rfs ys)) = H9 at *
      refine ⟨r, a, pp, ns, rfs ys, rfl, by omega, by omega, hrow2.keep m29, hpp, npr, fun j v i3 sd3 rs3 hj hi3 => ?_⟩
      rw [List.getElem?_map] at hj
      cases ey : ys[j]? with
      | none =>
        rw [ey] at hj
        cases hj
      | some b =>
      rw [ey] at hj
      have hj' : V.ref b.1 = v := Option.some.inj hj
      subst hj'
      have hbB : b ∈ B := perm.mem_iff.mp (List.mem_of_getElem? ey)
      obtain ⟨wd, hw⟩ := hlift b hbB
      obtain ⟨gl, gc, gok, gcnt, gsm, g60, gtot⟩ := goodK hn2 hn4 hw
      have hd9 := s9 _ _ hd7
      have ndr : d ≠ r := by
        obtain ⟨_, i, sd, rs, h, _⟩ := hrow2
        exact (ne_of_none h nd2).symm
      obtain ⟨i9, sd9, rs9, hr9, _⟩ := (hrow2.keep m29).2
      have k10 : TupK H7 (upd H9 r (rowL a i3 sd3 rs3)) := (Rg.Same.tk s9).trans (tk_upd hr9 fun _ z => nomatch z)
      have hrow10 : RowAt K (upd H9 r (rowL a i3 sd3 rs3)) r a ns := (hrow2.keep m29).put hi3
      have hd10 : upd H9 r (rowL a i3 sd3 rs3) d = some (.dT kvs) := by rw [upd_ne ndr]; exact hd9
      have m10 : Sm Ps H (upd H9 r (rowL a i3 sd3 rs3)) := (m2.trans m29).upd_new nr
      generalize upd H9 r (rowL a i3 sd3 rs3) = H10 at *
      have hb10 : IT H10 b.1 b.2 := k10 _ _ (hB b hbB)
      have hk10 := hk7.mono k10
      have hin : (valV kvs (kk b.2)).isSome = true := by
        rw [keys_in _ hk10.keys]
        exact decide_eq_true (List.mem_map.mpr ⟨_, hw, rfl⟩)
      obtain ⟨v', ev⟩ := Option.isSome_iff_exists.mp hin
      -- lift_bells(some)
      refine ⟨.ref b.1, rfl, b.1, b.2, rfl, hb10, gl, m10.tb _ h1 hT1, m10.tb _ h2 hT2, fun _ => ⟨gok, g60, gtot, fun H11 q11 m11 hq11 => ?_⟩, fun z => (by rw [gc] at z; cases z)⟩
      have hd11 := m11.at_ _ _ hd10 (nt_dT _)
      have hb11 := m11.it hb10
      obtain ⟨q', wd', rfl, hq', hw'⟩ := (hk10.mono m11.tk).get ev
      have gsm' := (goodK hn2 hn4 hw').2.2.2.2.1
      have key11 : H11 b.1 = some (.tup ((kk b.2).map kV)) := by rw [kk_V]; exact hb11
      refine ⟨.ref d, rfl, .ref b.1, rfl, d, .ref q', rfl, by rw [← ev]; exact DGet.t hd11 key11, q11, q', wd', rfl, by rw [← gsm']; exact hq11, hq', (by have := (goodK hn2 hn4 hw').2.2.2.1; omega), fun H12 s12 => ⟨true, rfl, iteF ?_⟩⟩
      have gcnt' := (goodK hn2 hn4 hw').2.2.2.1
      have m12 : Sm Ps H10 H12 := m11.trans (Sm.of_same s12)
      have mH12 := m10.trans m12
      -- lift_count(some)
      refine ⟨.ref b.1, rfl, b.1, b.2, rfl, m12.it hb10, gl, mH12.tb _ h1 hT1, mH12.tb _ h2 hT2, fun H13 m13 => ?_⟩
      have m1013 := m12.trans m13
      have hd13 := m1013.at_ _ _ hd10 (nt_dT _)
      have hb13 := m1013.it hb10
      have hq13 : IT H13 q' wd' := m13.it (s12 _ _ hq')
      have key13 : H13 b.1 = some (.tup ((kk b.2).map kV)) := by rw [kk_V]; exact hb13
      refine ⟨.ref d, rfl, .ref b.1, rfl, d, .ref q', rfl, by rw [← ev]; exact DGet.t hd13 key13, q', _, rfl, .inr hq13.seq, cntL b.2, ?_, fun H14 s14 => ⟨true, rfl, iteF ?_⟩⟩
      · rw [if_pos gc, List.length_map, gcnt']
        rfl
      have m1014 := m1013.trans (Sm.of_same s14)
      -- base
      refine ⟨.ref r, rfl, r, a, ns, 4, rfl, by decide, by decide, hrow10.keep m1014, fun z2 i4 sd4 rs4 w0 w1 hi4 => ⟨z2, 2, rfl, rfl, ?_⟩⟩
      have m15 : Sm Ps H (upd H14 r (rowL a i4 sd4 rs4)) := (m10.trans m1014).upd_new nr
      generalize upd H14 r (rowL a i4 sd4 rs4) = H15 at *
      -- flat
      refine ⟨.int (n : Int), rfl, (n : Int), rfl, by omega, by omega, fun D nD => ?_⟩
      rw [Int.toNat_natCast]
      refine lc_range (lo := 0) (n := n) (fun i H' => H' = upd H15 D (.lst (((List.range i).map fun (i : Nat) => (z2 - 2) + (i : Int)).map V.int))) rfl ?_ ?_
      · rintro i H' hi rfl
        refine ⟨rfl, ?_⟩
        dsimp only [tYes]
        refine iteT ⟨.int (z2 - 2), rfl, .int (0 + (i : Int)), rfl, _, _, rfl, rfl, _, upd_same, ?_, ?_⟩
        · rw [List.length_map, List.length_map, List.length_range]
          exact small1000 (by omega)
        · have e : (z2 - 2) + ((0 : Int) + (i : Int)) = (z2 - 2) + (i : Int) := by omega
          show upd _ D (.lst (_ ++ [V.int ((z2 - 2) + ((0 : Int) + (i : Int)))])) = _
          rw [e, upd_upd, List.range_succ, List.map_append, List.map_append]
          rfl
      · rintro H' rfl
        refine .inl ⟨D, _, rfl, .of upd_same, fun p np => ?_⟩
        have m16 : Sm Ps H (upd (upd H15 D (.lst (((List.range n).map fun (i : Nat) => (z2 - 2) + (i : Int)).map V.int))) p (.tup (((List.range n).map fun (i : Nat) => (z2 - 2) + (i : Int)).map V.int))) := (m15.trans (Sm.upd nD)).trans (Sm.upd np)
        have hflat : IT (upd (upd H15 D (.lst (((List.range n).map fun (i : Nat) => (z2 - 2) + (i : Int)).map V.int))) p (.tup (((List.range n).map fun (i : Nat) => (z2 - 2) + (i : Int)).map V.int))) p (flatL (z2 - 2) n) := upd_same
        generalize upd (upd H15 D (.lst (((List.range n).map fun (i : Nat) => (z2 - 2) + (i : Int)).map V.int))) p (.tup (((List.range n).map fun (i : Nat) => (z2 - 2) + (i : Int)).map V.int)) = H16 at *
        obtain ⟨fl, fc, fok, ftot, fcnt, fsm⟩ := goodFi hn2 hn4
        have fin : ∀ (σ : L2.St) (Hx : Hp), σ[2]? = some (some (.int (n : Int))) → Sm Ps H Hx → tRet (tAndV (tOp rEq (tCall (spLCount Ps P1 P2) [] E0 (tCons (tCall spFirstT [] E0 (tCons (tVar 2) tNil)) tNil)) (tC (.int 0)))
            (tOp (rEqD K) (tCall (spBells Ps P1 P2) [] E0 (tCons (tCall spFirstT [] E0 (tCons (tVar 2) tNil)) tNil)) (tTup tNil))) { nx := fun _ H' => Q .non H', rt := Q } σ Hx := by
          intro σ Hx hσ mx
          refine ⟨.int (n : Int), hσ, n, rfl, by omega, fun Ha pa sa ha => ?_⟩
          have ma := mx.trans (Sm.of_same sa)
          refine ⟨pa, firstL n, rfl, ha, fl, ma.tb _ h1 hT1, ma.tb _ h2 hT2, fun Hb mb => ?_⟩
          rw [if_pos fc, fcnt]
          refine ⟨rfl, true, rfl, iteT ?_⟩
          have mmb := ma.trans mb
          refine ⟨.int (n : Int), hσ, n, rfl, by omega, fun Hc pc sc hc => ?_⟩
          have mc := mmb.trans (Sm.of_same sc)
          refine ⟨pc, firstL n, rfl, hc, fl, mc.tb _ h1 hT1, mc.tb _ h2 hT2, fun _ => ⟨fok, by omega, ftot, fun Hd qd md hqd => ⟨Nat.zero_le _, fun e1 ne1 => ?_⟩⟩, fun z => (by rw [fc] at z; cases z)⟩
          rw [fsm] at hqd
          refine ⟨iT [], iT [], dp_it ((same_upd ne1) _ _ hqd), dp_it (s := []) upd_same, shaped_it _, shaped_it _, ?_⟩
          rw [eqv_it, show decide (([] : L) = []) = true from rfl]
          exact q _
        refine ⟨.int (z2 - 2), rfl, z2 - 2, 1, rfl, rfl, _, rfl, ite2 (fun e => ?_) (fun e => ?_)⟩
        · have hlt : z2 - 2 < 1 := of_decide_eq_true e
          obtain ⟨ffl, ffc⟩ := goodFl hn2 hn4 (show -2 ≤ z2 - 2 by omega) hlt
          refine ⟨.ref p, rfl, p, flatL (z2 - 2) n, rfl, hflat, ffl, m16.tb _ h1 hT1, m16.tb _ h2 hT2, fun z => (by rw [ffc] at z; cases z), fun _ H17 m17 => ?_⟩
          have mH17 := m16.trans m17
          refine ⟨.int (z2 - 2), rfl, z2 - 2, 1, rfl, rfl, _, rfl, ?_⟩
          rw [e]
          refine iteT ⟨_, rfl, false, rfl, iteF ⟨.ref p, rfl, p, flatL (z2 - 2) n, rfl, m17.it hflat, ffl, mH17.tb _ h1 hT1, mH17.tb _ h2 hT2, fun H18 m18 => ?_⟩⟩
          rw [if_neg (by rw [ffc]; exact Bool.false_ne_true)]
          refine ⟨false, rfl, iteF ?_⟩
          exact fin _ H18 rfl (mH17.trans m18)
        · refine ⟨Nat.zero_le _, fun p2 np2 => ?_⟩
          have mH17 := m16.trans (Sm.upd (o := .tup []) np2)
          generalize upd H16 p2 (.tup []) = H17 at *
          refine ⟨.int (z2 - 2), rfl, z2 - 2, 1, rfl, rfl, _, rfl, ?_⟩
          rw [show decide (z2 - 2 < 1) = false from Bool.eq_false_iff.mpr e]
          refine iteF (iteF ?_)
          exact fin _ H17 rfl mH17
end
end Rg
set_option Elab.async false
/-! the end -/
namespace Rg
open PySem PySem.Spec PyProof.Rows L2 GxR
set_option linter.all false
set_option maxRecDepth 100000
set_option maxHeartbeats 4000000
theorem tab_mk {K : PySem.W.Frag} {x : Str} {f c P : Addr} {oc e : Value} {od d : Option Addr} {fd : FuncData} {sl w : Array (Option Value)} {vs : Array Value} (a : PySem.W.nsIn K mainGlobals x = some (some (.ref f))) (l : K.lookup f = some ⟨oc, od, .func fd, sl⟩) (hc : fd.code = .ref c) (lc : K.lookup c = some ⟨e, d, .fields vs, w⟩) (p : vs[11]? = some (.ref P)) : PySem.W.tabIn K x = some (c, P) := by
  unfold PySem.W.tabIn
  rw [a]
  dsimp only
  rw [l]
  dsimp only
  rw [hc]
  dsimp only
  rw [lc]
  dsimp only
  rw [p]
theorem all_mk {l : PySem.W.OpenLaw} {w : World} {K : PySem.W.Frag} {h : Heap} {mg : Str → Option Value} {e5 e8 : Value} {d5 d8 : Option Addr} {vs5 vs8 : Array Value} {w5 w8 : Array (Option Value)} {fa c5 c8 P5 P8 f1 f2 f3 f4 f5 f6 f7 f8 f9 f10 f11 f12 f13 f14 f15 f16 f17 f18 f19 f20 : Addr} (X : K.In h) (G : h.Ns mainGlobals mg) (hfa : mg "law" = some (.ref fa))
    {od1 an1 od2 an2 od3 an3 od4 an4 od5 an5 od6 an6 od7 an7 od8 an8 od9 an9 od10 an10 od11 an11 od12 an12 od13 an13 od14 an14 od15 an15 od16 an16 od17 an17 od18 an18 od19 an19 od20 an20 : Option Addr} {sl1 sl2 sl3 sl4 sl5 sl6 sl7 sl8 sl9 sl10 sl11 sl12 sl13 sl14 sl15 sl16 sl17 sl18 sl19 sl20 : Array (Option Value)} {oc1 kV1 dc1 pm1 cd1 ct1 oc2 kV2 dc2 pm2 cd2 ct2 oc3 kV3 dc3 pm3 cd3 ct3 oc4 kV4 dc4 pm4 cd4 ct4 oc5 kV5 dc5 pm5 ct5 oc6 kV6 dc6 pm6 cd6 ct6 oc7 kV7 dc7 pm7 cd7 ct7 oc8 kV8 dc8 pm8 ct8 oc9 kV9 dc9 pm9 cd9 ct9 oc10 kV10 dc10 pm10 cd10 ct10 oc11 kV11 dc11 pm11 cd11 ct11 oc12 kV12 dc12 pm12 cd12 ct12 oc13 kV13 dc13 pm13 cd13 ct13 oc14 kV14 dc14 pm14 cd14 ct14 oc15 kV15 dc15 pm15 cd15 ct15 oc16 kV16 dc16 pm16 cd16 ct16 oc17 kV17 dc17 pm17 cd17 ct17 oc18 kV18 dc18 pm18 cd18 ct18 oc19 kV19 dc19 pm19 cd19 ct19 oc20 kV20 dc20 pm20 cd20 ct20 : Value} {tk0 tk1 tk2 tk3 tk4 : Tok}
    (a1 : PySem.W.nsIn K mainGlobals "is_in" = some (some (.ref f1))) (l1 : K.lookup f1 = some ⟨oc1, od1, .func (PySem.W.fnOf "is_in" "is_in" (defArgs sIsIn) (defBody sIsIn) (defScope sIsIn) .none kV1 dc1 pm1 an1 cd1 ct1), sl1⟩) (c1_ : PySem.W.codeIn K cd1 "is_in" = true) (k1 : PySem.W.keepIn K (.ref f1) = true)
    (a2 : PySem.W.nsIn K mainGlobals "need_size" = some (some (.ref f2))) (l2 : K.lookup f2 = some ⟨oc2, od2, .func (PySem.W.fnOf "need_size" "need_size" (defArgs sNeedSize) (defBody sNeedSize) (defScope sNeedSize) .none kV2 dc2 pm2 an2 cd2 ct2), sl2⟩) (c2_ : PySem.W.codeIn K cd2 "need_size" = true) (k2 : PySem.W.keepIn K (.ref f2) = true)
    (a3 : PySem.W.nsIn K mainGlobals "first_row" = some (some (.ref f3))) (l3 : K.lookup f3 = some ⟨oc3, od3, .func (PySem.W.fnOf "first_row" "first_row" (defArgs sFirst) (defBody sFirst) (defScope sFirst) .none kV3 dc3 pm3 an3 cd3 ct3), sl3⟩) (c3_ : PySem.W.codeIn K cd3 "first_row" = true) (k3 : PySem.W.keepIn K (.ref f3) = true)
    (a4 : PySem.W.nsIn K mainGlobals "rung" = some (some (.ref f4))) (l4 : K.lookup f4 = some ⟨oc4, od4, .func (PySem.W.fnOf "rung" "rung" (defArgs sRung) (defBody sRung) (defScope sRung) .none kV4 dc4 pm4 an4 cd4 ct4), sl4⟩) (c4_ : PySem.W.codeIn K cd4 "rung" = true) (k4 : PySem.W.keepIn K (.ref f4) = true)
    (a5 : PySem.W.nsIn K mainGlobals "is_lift" = some (some (.ref f5))) (l5 : K.lookup f5 = some ⟨oc5, od5, .func (PySem.W.fnOf "is_lift" "is_lift" (defArgs sIsLift) (defBody sIsLift) (defScope sIsLift) .none kV5 dc5 pm5 an5 (.ref c5) ct5), sl5⟩) (c5_ : PySem.W.codeIn K (.ref c5) "is_lift" = true) (k5 : PySem.W.keepIn K (.ref f5) = true)
    (a6 : PySem.W.nsIn K mainGlobals "need_lift" = some (some (.ref f6))) (l6 : K.lookup f6 = some ⟨oc6, od6, .func (PySem.W.fnOf "need_lift" "need_lift" (defArgs sNeedLift) (defBody sNeedLift) (defScope sNeedLift) .none kV6 dc6 pm6 an6 cd6 ct6), sl6⟩) (c6_ : PySem.W.codeIn K cd6 "need_lift" = true) (k6 : PySem.W.keepIn K (.ref f6) = true)
    (a7 : PySem.W.nsIn K mainGlobals "entry" = some (some (.ref f7))) (l7 : K.lookup f7 = some ⟨oc7, od7, .func (PySem.W.fnOf "entry" "entry" (defArgs sEntry) (defBody sEntry) (defScope sEntry) .none kV7 dc7 pm7 an7 cd7 ct7), sl7⟩) (c7_ : PySem.W.codeIn K cd7 "entry" = true) (k7 : PySem.W.keepIn K (.ref f7) = true)
    (a8 : PySem.W.nsIn K mainGlobals "comes" = some (some (.ref f8))) (l8 : K.lookup f8 = some ⟨oc8, od8, .func (PySem.W.fnOf "comes" "comes" (defArgs sComes) (defBody sComes) (defScope sComes) .none kV8 dc8 pm8 an8 (.ref c8) ct8), sl8⟩) (c8_ : PySem.W.codeIn K (.ref c8) "comes" = true) (k8 : PySem.W.keepIn K (.ref f8) = true)
    (a9 : PySem.W.nsIn K mainGlobals "count_of" = some (some (.ref f9))) (l9 : K.lookup f9 = some ⟨oc9, od9, .func (PySem.W.fnOf "count_of" "count_of" (defArgs sCount) (defBody sCount) (defScope sCount) .none kV9 dc9 pm9 an9 cd9 ct9), sl9⟩) (c9_ : PySem.W.codeIn K cd9 "count_of" = true) (k9 : PySem.W.keepIn K (.ref f9) = true)
    (a10 : PySem.W.nsIn K mainGlobals "lift_count" = some (some (.ref f10))) (l10 : K.lookup f10 = some ⟨oc10, od10, .func (PySem.W.fnOf "lift_count" "lift_count" (defArgs sLCount) (defBody sLCount) (defScope sLCount) .none kV10 dc10 pm10 an10 cd10 ct10), sl10⟩) (c10_ : PySem.W.codeIn K cd10 "lift_count" = true) (k10 : PySem.W.keepIn K (.ref f10) = true)
    (a11 : PySem.W.nsIn K mainGlobals "lifts_before" = some (some (.ref f11))) (l11 : K.lookup f11 = some ⟨oc11, od11, .func (PySem.W.fnOf "lifts_before" "lifts_before" (defArgs sBefore) (defBody sBefore) (defScope sBefore) .none kV11 dc11 pm11 an11 cd11 ct11), sl11⟩) (c11_ : PySem.W.codeIn K cd11 "lifts_before" = true) (k11 : PySem.W.keepIn K (.ref f11) = true)
    (a12 : PySem.W.nsIn K mainGlobals "smallest" = some (some (.ref f12))) (l12 : K.lookup f12 = some ⟨oc12, od12, .func (PySem.W.fnOf "smallest" "smallest" (defArgs sSmallest) (defBody sSmallest) (defScope sSmallest) .none kV12 dc12 pm12 an12 cd12 ct12), sl12⟩) (c12_ : PySem.W.codeIn K cd12 "smallest" = true) (k12 : PySem.W.keepIn K (.ref f12) = true)
    (a13 : PySem.W.nsIn K mainGlobals "lift_bells" = some (some (.ref f13))) (l13 : K.lookup f13 = some ⟨oc13, od13, .func (PySem.W.fnOf "lift_bells" "lift_bells" (defArgs sLBells) (defBody sLBells) (defScope sLBells) .none kV13 dc13 pm13 an13 cd13 ct13), sl13⟩) (c13_ : PySem.W.codeIn K cd13 "lift_bells" = true) (k13 : PySem.W.keepIn K (.ref f13) = true)
    (a14 : PySem.W.nsIn K mainGlobals "lifts_within" = some (some (.ref f14))) (l14 : K.lookup f14 = some ⟨oc14, od14, .func (PySem.W.fnOf "lifts_within" "lifts_within" (defArgs sWithin) (defBody sWithin) (defScope sWithin) .none kV14 dc14 pm14 an14 cd14 ct14), sl14⟩) (c14_ : PySem.W.codeIn K cd14 "lifts_within" = true) (k14 : PySem.W.keepIn K (.ref f14) = true)
    (a15 : PySem.W.nsIn K mainGlobals "_law_taken" = some (some (.ref f15))) (l15 : K.lookup f15 = some ⟨oc15, od15, .func (PySem.W.fnOf "_law_taken" "_law_taken" (defArgs sTaken) (defBody sTaken) (defScope sTaken) .none kV15 dc15 pm15 an15 cd15 ct15), sl15⟩) (c15_ : PySem.W.codeIn K cd15 "_law_taken" = true) (k15 : PySem.W.keepIn K (.ref f15) = true)
    (a16 : PySem.W.nsIn K mainGlobals "_law_pick" = some (some (.ref f16))) (l16 : K.lookup f16 = some ⟨oc16, od16, .func (PySem.W.fnOf "_law_pick" "_law_pick" (defArgs sPick) (defBody sPick) (defScope sPick) .none kV16 dc16 pm16 an16 cd16 ct16), sl16⟩) (c16_ : PySem.W.codeIn K cd16 "_law_pick" = true) (k16 : PySem.W.keepIn K (.ref f16) = true)
    (a17 : PySem.W.nsIn K mainGlobals "_law_alike" = some (some (.ref f17))) (l17 : K.lookup f17 = some ⟨oc17, od17, .func (PySem.W.fnOf "_law_alike" "_law_alike" (defArgs sAlike) (defBody sAlike) (defScope sAlike) .none kV17 dc17 pm17 an17 cd17 ct17), sl17⟩) (c17_ : PySem.W.codeIn K cd17 "_law_alike" = true) (k17 : PySem.W.keepIn K (.ref f17) = true)
    (a18 : PySem.W.nsIn K mainGlobals "_law_first" = some (some (.ref f18))) (l18 : K.lookup f18 = some ⟨oc18, od18, .func (PySem.W.fnOf "_law_first" "_law_first" (defArgs sLFirst) (defBody sLFirst) (defScope sLFirst) .none kV18 dc18 pm18 an18 cd18 ct18), sl18⟩) (c18_ : PySem.W.codeIn K cd18 "_law_first" = true) (k18 : PySem.W.keepIn K (.ref f18) = true)
    (a19 : PySem.W.nsIn K mainGlobals "_law_lifted" = some (some (.ref f19))) (l19 : K.lookup f19 = some ⟨oc19, od19, .func (PySem.W.fnOf "_law_lifted" "_law_lifted" (defArgs sLifted) (defBody sLifted) (defScope sLifted) .none kV19 dc19 pm19 an19 cd19 ct19), sl19⟩) (c19_ : PySem.W.codeIn K cd19 "_law_lifted" = true) (k19 : PySem.W.keepIn K (.ref f19) = true)
    (a20 : PySem.W.nsIn K mainGlobals "law" = some (some (.ref f20))) (l20 : K.lookup f20 = some ⟨oc20, od20, .func (PySem.W.fnOf "law" "law" (defArgs sLaw) (defBody sLaw) (defScope sLaw) .none kV20 dc20 pm20 an20 cd20 ct20), sl20⟩) (c20_ : PySem.W.codeIn K cd20 "law" = true) (k20 : PySem.W.keepIn K (.ref f20) = true)
    (z0 : PySem.W.nsIn K mainGlobals "len" = some none)
    (z1 : PySem.W.nsIn K mainGlobals "tuple" = some none)
    (z2 : PySem.W.nsIn K mainGlobals "list" = some none)
    (z3 : PySem.W.nsIn K mainGlobals "range" = some none)
    (z4 : PySem.W.nsIn K mainGlobals "isinstance" = some none)
    (z5 : PySem.W.nsIn K mainGlobals "int" = some none)
    (z6 : PySem.W.nsIn K mainGlobals "bool" = some none)
    (z7 : PySem.W.nsIn K mainGlobals "str" = some none)
    (z8 : PySem.W.nsIn K mainGlobals "all" = some none)
    (z9 : PySem.W.nsIn K mainGlobals "any" = some none)
    (z10 : PySem.W.nsIn K mainGlobals "enumerate" = some none)
    (z11 : PySem.W.nsIn K mainGlobals "min" = some none)
    (z12 : PySem.W.nsIn K mainGlobals "sorted" = some none)
    (v0_ : PySem.W.nsIn K mainGlobals "LEAST_SIZE" = some (some (.int (2) tk0)))
    (v1_ : PySem.W.nsIn K mainGlobals "MOST_SIZE" = some (some (.int (8) tk1)))
    (v2_ : PySem.W.nsIn K mainGlobals "MOST_BELLS" = some (some (.int (60) tk2)))
    (v3_ : PySem.W.nsIn K mainGlobals "LEAST_PLACE" = some (some (.int (-200) tk3)))
    (v4_ : PySem.W.nsIn K mainGlobals "MOST_WITHIN" = some (some (.int (8) tk4)))
    (lc5 : K.lookup c5 = some ⟨e5, d5, .fields vs5, w5⟩) (p5 : vs5[11]? = some (.ref P5)) (lc8 : K.lookup c8 = some ⟨e8, d8, .fields vs8, w8⟩) (p8 : vs8[11]? = some (.ref P8)) (n5 : K.lookup P5 = none) (n8 : K.lookup P8 = none)
    (T5b : PySem.W.tabIn K "is_lift" = some (c5, P5) → PySem.W.CodeHd h c5 P5 ∧ h.get? P5 = some (PySem.W.tabObj #[])) (T8b : PySem.W.tabIn K "comes" = some (c8, P8) → PySem.W.CodeHd h c8 P8 ∧ h.get? P8 = some (PySem.W.tabObj #[])) :
    LamX.LawAtS l w K CX0 13 63 "_law_script" mg fa h := by
  have T5 := T5b (tab_mk a5 l5 rfl lc5 p5)
  have T8 := T8b (tab_mk a8 l8 rfl lc8 p8)
  have e := hfa.symm.trans (PySem.W.mg_of X G a20)
  cases e
  have T : Txt mg := ⟨PySem.W.mg_none_of X G z0, PySem.W.mg_none_of X G z1, PySem.W.mg_none_of X G z2, PySem.W.mg_none_of X G z3, PySem.W.mg_none_of X G z4, PySem.W.mg_none_of X G z5, PySem.W.mg_none_of X G z6, PySem.W.mg_none_of X G z7, PySem.W.mg_none_of X G z8, PySem.W.mg_none_of X G z9, PySem.W.mg_none_of X G z10, PySem.W.mg_none_of X G z11, PySem.W.mg_none_of X G z12, ⟨_, PySem.W.mg_of X G v0_⟩, ⟨_, PySem.W.mg_of X G v1_⟩, ⟨_, PySem.W.mg_of X G v2_⟩, ⟨_, PySem.W.mg_of X G v3_⟩, ⟨_, PySem.W.mg_of X G v4_⟩⟩
  have F1 := fun_mk (x := "is_in") (qual := "is_in") (st := sIsIn) l1 c1_ k1
  have b1 := F1.binds (ps := ["value", "least", "most"]) fun _ _ _ _ _ _ us hl => match us, hl with | [_, _, _], _ => rfl
  have m1 := PySem.W.mg_of X G a1
  have F2 := fun_mk (x := "need_size") (qual := "need_size") (st := sNeedSize) l2 c2_ k2
  have b2 := F2.binds (ps := ["size"]) fun _ _ _ _ _ _ us hl => match us, hl with | [_], _ => rfl
  have m2 := PySem.W.mg_of X G a2
  have F3 := fun_mk (x := "first_row") (qual := "first_row") (st := sFirst) l3 c3_ k3
  have b3 := F3.binds (ps := ["size"]) fun _ _ _ _ _ _ us hl => match us, hl with | [_], _ => rfl
  have m3 := PySem.W.mg_of X G a3
  have F4 := fun_mk (x := "rung") (qual := "rung") (st := sRung) l4 c4_ k4
  have b4 := F4.binds (ps := ["some", "bell"]) fun _ _ _ _ _ _ us hl => match us, hl with | [_, _], _ => rfl
  have m4 := PySem.W.mg_of X G a4
  have F5 : FunC K "is_lift" "is_lift" sIsLift f5 _ c5 := ⟨⟨_, _, _, _, _, _, _, _, rfl, l5, c5_⟩, k5⟩
  have b5 := F5.fn.binds (ps := ["value"]) fun _ _ _ _ _ _ us hl => match us, hl with | [_], _ => rfl
  have m5 := PySem.W.mg_of X G a5
  have F6 := fun_mk (x := "need_lift") (qual := "need_lift") (st := sNeedLift) l6 c6_ k6
  have b6 := F6.binds (ps := ["value"]) fun _ _ _ _ _ _ us hl => match us, hl with | [_], _ => rfl
  have m6 := PySem.W.mg_of X G a6
  have F7 := fun_mk (x := "entry") (qual := "entry") (st := sEntry) l7 c7_ k7
  have b7 := F7.binds (ps := ["some", "place"]) fun _ _ _ _ _ _ us hl => match us, hl with | [_, _], _ => rfl
  have m7 := PySem.W.mg_of X G a7
  have F8 : FunC K "comes" "comes" sComes f8 _ c8 := ⟨⟨_, _, _, _, _, _, _, _, rfl, l8, c8_⟩, k8⟩
  have b8 := F8.fn.binds (ps := ["some"]) fun _ _ _ _ _ _ us hl => match us, hl with | [_], _ => rfl
  have m8 := PySem.W.mg_of X G a8
  have F9 := fun_mk (x := "count_of") (qual := "count_of") (st := sCount) l9 c9_ k9
  have b9 := F9.binds (ps := ["some"]) fun _ _ _ _ _ _ us hl => match us, hl with | [_], _ => rfl
  have m9 := PySem.W.mg_of X G a9
  have F10 := fun_mk (x := "lift_count") (qual := "lift_count") (st := sLCount) l10 c10_ k10
  have b10 := F10.binds (ps := ["lift"]) fun _ _ _ _ _ _ us hl => match us, hl with | [_], _ => rfl
  have m10 := PySem.W.mg_of X G a10
  have F11 := fun_mk (x := "lifts_before") (qual := "lifts_before") (st := sBefore) l11 c11_ k11
  have b11 := F11.binds (ps := ["some"]) fun _ _ _ _ _ _ us hl => match us, hl with | [_], _ => rfl
  have m11 := PySem.W.mg_of X G a11
  have F12 := fun_mk (x := "smallest") (qual := "smallest") (st := sSmallest) l12 c12_ k12
  have b12 := F12.binds (ps := ["some", "known"]) fun _ _ _ _ _ _ us hl => match us, hl with | [_, _], _ => rfl
  have m12 := PySem.W.mg_of X G a12
  have F13 := fun_mk (x := "lift_bells") (qual := "lift_bells") (st := sLBells) l13 c13_ k13
  have b13 := F13.binds (ps := ["lift"]) fun _ _ _ _ _ _ us hl => match us, hl with | [_], _ => rfl
  have m13 := PySem.W.mg_of X G a13
  have F14 := fun_mk (x := "lifts_within") (qual := "lifts_within") (st := sWithin) l14 c14_ k14
  have b14 := F14.binds (ps := ["size", "many"]) fun _ _ _ _ _ _ us hl => match us, hl with | [_, _], _ => rfl
  have m14 := PySem.W.mg_of X G a14
  have F15 := fun_mk (x := "_law_taken") (qual := "_law_taken") (st := sTaken) l15 c15_ k15
  have b15 := F15.binds (ps := ["_law_row", "_law_many"]) fun _ _ _ _ _ _ us hl => match us, hl with | [_, _], _ => rfl
  have m15 := PySem.W.mg_of X G a15
  have F16 := fun_mk (x := "_law_pick") (qual := "_law_pick") (st := sPick) l16 c16_ k16
  have b16 := F16.binds (ps := ["_law_row", "_law_things"]) fun _ _ _ _ _ _ us hl => match us, hl with | [_, _], _ => rfl
  have m16 := PySem.W.mg_of X G a16
  have F17 := fun_mk (x := "_law_alike") (qual := "_law_alike") (st := sAlike) l17 c17_ k17
  have b17 := F17.binds (ps := ["_law_found", "_law_due"]) fun _ _ _ _ _ _ us hl => match us, hl with | [_, _], _ => rfl
  have m17 := PySem.W.mg_of X G a17
  have F18 := fun_mk (x := "_law_first") (qual := "_law_first") (st := sLFirst) l18 c18_ k18
  have b18 := F18.binds (ps := ["_law_size"]) fun _ _ _ _ _ _ us hl => match us, hl with | [_], _ => rfl
  have m18 := PySem.W.mg_of X G a18
  have F19 := fun_mk (x := "_law_lifted") (qual := "_law_lifted") (st := sLifted) l19 c19_ k19
  have b19 := F19.binds (ps := ["_law_some", "_law_bell"]) fun _ _ _ _ _ _ us hl => match us, hl with | [_, _], _ => rfl
  have m19 := PySem.W.mg_of X G a19
  have F20 := fun_mk (x := "law") (qual := "law") (st := sLaw) l20 c20_ k20
  have b20 := F20.binds (ps := ["_law_script"]) fun _ _ _ _ _ _ us hl => match us, hl with | [_], _ => rfl
  have m20 := PySem.W.mg_of X G a20
  refine ⟨PySem.W.fnOf "law" "law" (defArgs sLaw) (defBody sLaw) (defScope sLaw) .none kV20 dc20 pm20 an20 cd20 ct20, [(c5, P5), (c8, P8)], spLaw K P5 P8, ?_, ?_, ?_, fun s v => .of_eq rfl, fun H a ns _ _ hT hS => ⟨a, ns, rfl, hS, ⟨#[], hT (c5, P5) (by simp), True.intro⟩, ⟨#[], hT (c8, P8) (by simp), True.intro⟩, fun _ => rfl⟩, fun base _ _ TB => ?_⟩
  · intro p hp
    rcases List.mem_cons.mp hp with rfl | hp
    · exact T5.2
    · rw [List.mem_singleton.mp hp]
      exact T8.2
  · intro p hp
    rcases List.mem_cons.mp hp with rfl | hp
    · exact n5
    · rw [List.mem_singleton.mp hp]
      exact n8
  · intro p hp
    rcases List.mem_cons.mp hp with rfl | hp
    · exact T5.1
    · rw [List.mem_singleton.mp hp]
      exact T8.1
  · have TB5 : TabB base mg c5 P5 := have z := TB (c5, P5) (by simp)
      ⟨z.code, z.bm, z.gP⟩
    have TB8 : TabB base mg c8 P8 := have z := TB (c8, P8) (by simp)
      ⟨z.code, z.bm, z.gP⟩
    have i5 : P5 ∈ [P5, P8] := by simp
    have i8 : P8 ∈ [P5, P8] := by simp
    have G1 : FnOk l.prog w K mg base CX0 1 f1 _ _ _ := ok_is_in F1 T
    have G2 : FnOk l.prog w K mg base CX0 2 f2 _ _ _ := ok_need_size F2 F1 b1 m1 T
    have G3 : FnOk l.prog w K mg base CX0 1 f3 _ _ _ := ok_first F3 T
    have G4 : FnOk l.prog w K mg base CX0 1 f4 _ _ _ := ok_rung F4 T
    have G5 : FnOk l.prog w K mg base CX0 2 f5 _ _ (spIsLift [P5, P8] P5) := ok_is_lift F5 TB5 F1 m1 T
    have G6 : FnOk l.prog w K mg base CX0 3 f6 _ _ _ := ok_need_lift F6 G5 k5 b5 m5
    have G7 : FnOk l.prog w K mg base CX0 1 f7 _ _ _ := ok_entry F7 T
    have G8 : FnOk l.prog w K mg base CX0 2 f8 _ _ (spComes [P5, P8] P8) := ok_comes F8 TB8 F7 m7 F3 b3 m3 T
    have G9 : FnOk l.prog w K mg base CX0 2 f9 _ _ _ := ok_count F9 F7 b7 m7 T
    have G10 : FnOk l.prog w K mg base CX0 4 f10 _ _ _ := ok_lcount i5 i8 F10 G6 k6 b6 m6 G8 k8 b8 m8 G9 k9 b9 m9
    have G11 : FnOk l.prog w K mg base CX0 3 f11 _ _ _ := ok_before i5 i8 F11 G7 k7 b7 m7 G5 k5 b5 m5 G8 k8 b8 m8 G9 k9 b9 m9 T
    have G12 := ok_small i5 i8 F12 b12 m12 G11 k11 b11 m11 T 8
    have G13 : FnOk l.prog w K mg base CX0 12 f13 _ _ _ := ok_bells i5 i8 F13 G6 k6 b6 m6 G8 k8 b8 m8 G9 k9 b9 m9 G12 k12 b12 m12 T
    have G14 : FnOk l.prog w K mg base CX0 3 f14 _ _ (spWithin [P5, P8]) := ok_within F14 G2 k2 b2 m2 G1 k1 b1 m1 G3 k3 b3 m3 G4 k4 b4 m4 T
    have G15 : FnOk l.prog w K mg base CX0 1 f15 _ _ _ := ok_taken F15 T
    have G16 : FnOk l.prog w K mg base CX0 2 f16 _ _ _ := ok_pick F16 F15 b15 m15 T
    have G17 : FnOk l.prog w K mg base CX0 1 f17 _ _ _ := ok_alikeI F17 T
    have G17' : FnOk l.prog w K mg base CX0 2 f17 _ _ _ := ok_alikeT F17 b17 m17 T
    have G18 : FnOk l.prog w K mg base CX0 1 f18 _ _ _ := ok_lfirst F18 T
    have G19 : FnOk l.prog w K mg base CX0 1 f19 _ _ _ := ok_lifted F19 T
    exact ok_law i5 i8 F20 T ⟨_, _, G15, k15, b15, m15⟩ ⟨_, _, G18, k18, b18, m18⟩ ⟨_, _, G19, k19, b19, m19⟩ ⟨_, _, G17, k17, b17, m17⟩ ⟨_, _, G17', k17, b17, m17⟩ ⟨_, _, G16, k16, b16, m16⟩ ⟨_, _, G14, k14, b14, m14⟩ ⟨_, _, G13, k13, b13, m13⟩ ⟨_, _, G10, k10, b10, m10⟩
/-- the end, with what the head knows of the defs' tables of code -/
theorem walk_ofRt {l : PySem.W.OpenLaw} {n k : Nat} {q : Program} {loose : List Str} {XP : (Str → Option Value) → Heap → Prop} {YP : World → Heap → Prop} {d : DefRec} {K : Params → PySem.W.Frag} {CX : World → CXT} {x : Str}
    (hn : l.most = some n) (hn2 : n ≤ sizeLine) (hdf : d.params.defaults = []) (hr : Room k callerA) (hY : ∀ (w : World) (h : Heap), YP w h → (K w.params).In h)
    (F : ∀ (w : World) (mg : Str → Option Value) (fa : Addr) (h : Heap), YP w h → (K w.params).In h → h.Ns mainGlobals mg → mg d.name = some (.ref fa) →
      (∀ (x : Str) (dL : DefRec) (c P : Addr), (recsOf q).find? (fun e => e.name == x) = some dL → PySem.W.tabIn (K w.params) x = some (c, P) → PySem.W.CodeHd h c P ∧ h.get? P = some (PySem.W.tabObj #[])) → LamX.LawAtS l w (K w.params) (CX w) k n x mg fa h)
    (hCX : ∀ (w : World) (H : Hp) (s : Shared) (e : Value) (s' : Shared), CX w [] H s (fun _ _ _ => False) e s' → False) :
    PySem.W.WalkO q loose XP YP l.row.toRowW d [] (fun f vs => PySem.call f vs) := by
  refine Att.attach_callB hn hdf fun w s₀ s₁ mg mb fa o pm cd doc a vs ns G Y ho hd hcd hmg hobj hints hlen hbits hg => ?_
  have KX := hY w _ Y
  obtain ⟨fd, cs, sp, hT, nT, C, hb, hsp, hF⟩ := F w mg fa _ Y KX G.T.g hmg fun x dL c P h1 h2 => PySem.W.tab_of G.T KX h1 h2
  exact LamX.law_callTs KX G.T.g G.T.b G.T.builtins G.T.nolimit hg hT nT C G.T.bmain hobj hints (Nat.le_trans hlen hn2) hr hF hb (fun H hH hS => hsp H a ns hlen hbits hH hS) fun H e s' => hCX w H s₁ e s'
end Rg
open PySem PySem.W PyProof.Rows
set_option maxRecDepth 100000 in
set_option maxHeartbeats 0 in
theorem PySem.Challenge.cw_bellcopies_k14_whole_shortest_ring_bells_holds : PySem.Challenge.rw_bellcopies_k14_whole_shortest_ring_bells.Holds := by
  w_on; o_law; k_head; (case hw => w_witness2)
  k_fill
  refine Rg.walk_ofRt (l := PySem.Challenge.rw_bellcopies_k14_whole_shortest_ring_bells) (n := 63) (k := 13) (x := "_law_script") (CX := fun _ => L2.CX0) rfl (by decide) rfl ⟨rfl, by decide, by decide⟩ (fun w h Y => PySem.W.kIn_of Y) ?F (fun _ _ _ _ _ z => z)
  case F =>
    intro w mg fa h Y KX G hmg hTab
    refine' Rg.all_mk KX G hmg ?a1 ?l1 ?c1_ ?k1 ?a2 ?l2 ?c2_ ?k2 ?a3 ?l3 ?c3_ ?k3 ?a4 ?l4 ?c4_ ?k4 ?a5 ?l5 ?c5_ ?k5 ?a6 ?l6 ?c6_ ?k6 ?a7 ?l7 ?c7_ ?k7 ?a8 ?l8 ?c8_ ?k8 ?a9 ?l9 ?c9_ ?k9 ?a10 ?l10 ?c10_ ?k10 ?a11 ?l11 ?c11_ ?k11 ?a12 ?l12 ?c12_ ?k12 ?a13 ?l13 ?c13_ ?k13 ?a14 ?l14 ?c14_ ?k14 ?a15 ?l15 ?c15_ ?k15 ?a16 ?l16 ?c16_ ?k16 ?a17 ?l17 ?c17_ ?k17 ?a18 ?l18 ?c18_ ?k18 ?a19 ?l19 ?c19_ ?k19 ?a20 ?l20 ?c20_ ?k20 ?z0 ?z1 ?z2 ?z3 ?z4 ?z5 ?z6 ?z7 ?z8 ?z9 ?z10 ?z11 ?z12 ?v0_ ?v1_ ?v2_ ?v3_ ?v4_ ?lc5 ?p5 ?lc8 ?p8 ?n5 ?n8 ?T5 ?T8
    (case a1 => k_is)
    (case l1 => k_is)
    (case c1_ => k_is)
    (case k1 => k_is)
    (case a2 => k_is)
    (case l2 => k_is)
    (case c2_ => k_is)
    (case k2 => k_is)
    (case a3 => k_is)
    (case l3 => k_is)
    (case c3_ => k_is)
    (case k3 => k_is)
    (case a4 => k_is)
    (case l4 => k_is)
    (case c4_ => k_is)
    (case k4 => k_is)
    (case a5 => k_is)
    (case l5 => k_is)
    (case c5_ => k_is)
    (case k5 => k_is)
    (case a6 => k_is)
    (case l6 => k_is)
    (case c6_ => k_is)
    (case k6 => k_is)
    (case a7 => k_is)
    (case l7 => k_is)
    (case c7_ => k_is)
    (case k7 => k_is)
    (case a8 => k_is)
    (case l8 => k_is)
    (case c8_ => k_is)
    (case k8 => k_is)
    (case a9 => k_is)
    (case l9 => k_is)
    (case c9_ => k_is)
    (case k9 => k_is)
    (case a10 => k_is)
    (case l10 => k_is)
    (case c10_ => k_is)
    (case k10 => k_is)
    (case a11 => k_is)
    (case l11 => k_is)
    (case c11_ => k_is)
    (case k11 => k_is)
    (case a12 => k_is)
    (case l12 => k_is)
    (case c12_ => k_is)
    (case k12 => k_is)
    (case a13 => k_is)
    (case l13 => k_is)
    (case c13_ => k_is)
    (case k13 => k_is)
    (case a14 => k_is)
    (case l14 => k_is)
    (case c14_ => k_is)
    (case k14 => k_is)
    (case a15 => k_is)
    (case l15 => k_is)
    (case c15_ => k_is)
    (case k15 => k_is)
    (case a16 => k_is)
    (case l16 => k_is)
    (case c16_ => k_is)
    (case k16 => k_is)
    (case a17 => k_is)
    (case l17 => k_is)
    (case c17_ => k_is)
    (case k17 => k_is)
    (case a18 => k_is)
    (case l18 => k_is)
    (case c18_ => k_is)
    (case k18 => k_is)
    (case a19 => k_is)
    (case l19 => k_is)
    (case c19_ => k_is)
    (case k19 => k_is)
    (case a20 => k_is)
    (case l20 => k_is)
    (case c20_ => k_is)
    (case k20 => k_is)
    (case z0 => k_is)
    (case z1 => k_is)
    (case z2 => k_is)
    (case z3 => k_is)
    (case z4 => k_is)
    (case z5 => k_is)
    (case z6 => k_is)
    (case z7 => k_is)
    (case z8 => k_is)
    (case z9 => k_is)
    (case z10 => k_is)
    (case z11 => k_is)
    (case z12 => k_is)
    (case v0_ => k_is)
    (case v1_ => k_is)
    (case v2_ => k_is)
    (case v3_ => k_is)
    (case v4_ => k_is)
    (case lc5 => k_is)
    (case p5 => rfl)
    (case lc8 => k_is)
    (case p8 => rfl)
    (case n5 => kernel_rfl)
    (case n8 => kernel_rfl)
    (case T5 => exact hTab "is_lift" _ _ _ (by rfl))
    (case T8 => exact hTab "comes" _ _ _ (by rfl))
