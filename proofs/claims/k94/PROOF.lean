import PyProof.Rows.All
import Wide.All
import OpenK.AllK
import Wide.FinOn
import HandS.ForMost
import KE.DatumOrd
import KE.KTupSum
import HandS.Slots
import KE.KUnpackStar
import HandS.Walk
import KE.GoesEnum
import HandS.Exc
import HandS.ExcOwn
import HandS.TryOnly
import KE.KExcSuper
import KE.KTryMore
import HandS.Ends
import HandS.WordsExc
import HandS.IsInst
import PySem.Challenge.RW_faxhouse_k94_whole_desk_of_tariffs
import HandS.Property
import HandS.TupAny
import PyProof.StrLawsRepr
import KE.KStateDown
import HandS.More
import HandS.Words
import HandS.Defaults
import HandS.Head0
import HandS.Head1
import HandS.Head2
import HandS.HeadEnd
import HandS.HeadHook1
import HandS.HeadHook2
set_option Elab.async false
set_option linter.all false
set_option maxRecDepth 100000
/-! Lines of a desk as texts: a word and numbers, single blanks between; read back. -/
namespace K94
open PySem L2 TL

/-- the text of a number -/
def numS (n : Int) : Str := Str.ofString (toString n)
/-- the numbers that stand in lines -/
def OkN (n : Int) : Prop := -1 ≤ n ∧ n < 10 ^ 31
def sp : Str := " "
theorem tl_sp : tl sp = [32] := by decide +kernel
/-- a line: a word, then numbers -/
def lineOf (w : Str) (ns : List Int) : Str := Txt.join sp (w :: ns.map numS)
theorem numS_free (n : Int) : 32 ∉ tl (numS n) := fun h => (PyProof.Rows.intText_free_32 n).mp h
theorem tl_numS {n : Int} (h : 0 ≤ n) : tl (numS n) = numL n.toNat := by
  have e : n = ((n.toNat : Nat) : Int) := by omega
  unfold numS
  rw [e, tl_num]
  rfl
theorem numS_neg : numS (-1) = (⟨#[45, 49]⟩ : Str) := by decide +kernel
theorem split_line {w : Str} (hw : 32 ∉ tl w) (ns : List Int) : Txt.split (lineOf w ns) sp = w :: ns.map numS := by
  refine split_join (s := 32) (S := []) tl_sp (by decide +kernel) (by simp) ?_
  intro p hp
  rcases List.mem_cons.mp hp with rfl | hp
  · exact hw
  · obtain ⟨n, _, rfl⟩ := List.mem_map.mp hp
    exact numS_free n
theorem numS_len {n : Int} (h : OkN n) : (numS n).length ≤ 31 := by
  by_cases h0 : 0 ≤ n
  · rw [len_tl, tl_numS h0]
    have h1 := h.2
    exact numL_len (by decide) (by omega)
  · have e : n = -1 := by have := h.1; omega
    rw [e, numS_neg]
    decide
theorem numS_pos (n : Int) (h : OkN n) : 1 ≤ (numS n).length := by
  by_cases h0 : 0 ≤ n
  · rw [len_tl, tl_numS h0]
    exact List.length_pos_iff.mpr (numL_ne _)
  · have e : n = -1 := by have := h.1; omega
    rw [e, numS_neg]
    decide
theorem int_numS {n : Int} (h : OkN n) : intText? (numS n) = some n := by
  by_cases h0 : 0 ≤ n
  · have h1 := h.2
    have e : n = ((n.toNat : Nat) : Int) := by omega
    have hl : (numL n.toNat).length ≤ 31 := numL_len (by decide) (by omega)
    have q := int_num (n := n.toNat) (by omega)
    unfold numS
    rw [← e] at q
    exact q
  · have e : n = -1 := by have := h.1; omega
    rw [e, numS_neg]
    decide +kernel
theorem numS_inj {m n : Int} (hm : OkN m) (hn : OkN n) (h : numS m = numS n) : m = n := by
  have a := int_numS hm
  rw [h, int_numS hn] at a
  exact (Option.some.inj a).symm
theorem joinL_cons (S : List Nat) (p : List Nat) (q : List Nat) (r : List (List Nat)) : joinL S (p :: q :: r) = p ++ (S ++ joinL S (q :: r)) := rfl
theorem joinL_mem {s c : Nat} : ∀ {ps : List (List Nat)}, c ∈ joinL [s] ps → c = s ∨ ∃ p ∈ ps, c ∈ p
  | [], h => by simp [joinL] at h
  | [p], h => .inr ⟨p, List.mem_cons_self .., h⟩
  | p :: q :: r, h => by
    rw [joinL_cons] at h
    rcases List.mem_append.mp h with h | h
    · exact .inr ⟨p, List.mem_cons_self .., h⟩
    rcases List.mem_append.mp h with h | h
    · exact .inl (List.mem_singleton.mp h)
    · rcases joinL_mem h with e | ⟨z, hz, hc⟩
      · exact .inl e
      · exact .inr ⟨z, List.mem_cons_of_mem _ hz, hc⟩
theorem tl_line (w : Str) (ns : List Int) : tl (lineOf w ns) = joinL [32] (tl w :: ns.map (fun n => tl (numS n))) := by
  unfold lineOf
  rw [join_eq, tl_join, tl_sp, List.map_cons, List.map_map]
  rfl
theorem numS_nl (n : Int) : 10 ∉ tl (numS n) := PyProof.Rows.int_text_free' 10 ⟨by decide, by decide⟩ n
theorem line_nl {w : Str} (hw : 10 ∉ tl w) (ns : List Int) : 10 ∉ tl (lineOf w ns) := by
  rw [tl_line]
  intro h
  rcases joinL_mem h with e | ⟨p, hp, hc⟩
  · cases e
  · rcases List.mem_cons.mp hp with rfl | hp
    · exact hw hc
    · obtain ⟨n, _, rfl⟩ := List.mem_map.mp hp
      exact numS_nl n hc
theorem joinL_len (s : Nat) {B : Nat} : ∀ {ps : List (List Nat)}, (∀ p ∈ ps, p.length ≤ B) → (joinL [s] ps).length ≤ ps.length * (B + 1)
  | [], _ => by simp [joinL]
  | [p], h => by
    have := h p (List.mem_cons_self ..)
    show p.length ≤ 1 * (B + 1)
    omega
  | p :: q :: r, h => by
    have h1 := h p (List.mem_cons_self ..)
    have h2 := joinL_len s (ps := q :: r) fun z hz => h z (List.mem_cons_of_mem _ hz)
    rw [joinL_cons, List.length_append, List.length_append, List.length_singleton, List.length_cons, Nat.add_mul]
    omega
theorem line_len {w : Str} (hw : w.length ≤ 31) {ns : List Int} (h : ∀ n ∈ ns, OkN n) (hl : ns.length ≤ 25) : (lineOf w ns).length ≤ 1000 := by
  rw [len_tl, tl_line]
  have z := joinL_len 32 (B := 31) (ps := tl w :: ns.map (fun n => tl (numS n))) (by
    intro p hp
    rcases List.mem_cons.mp hp with rfl | hp
    · rw [← len_tl]
      exact hw
    · obtain ⟨n, hn, rfl⟩ := List.mem_map.mp hp
      rw [← len_tl]
      exact numS_len (h n hn))
  rw [List.length_cons, List.length_map] at z
  have : (ns.length + 1) * 32 ≤ 26 * 32 := Nat.mul_le_mul_right _ (by omega)
  omega
/-- as the law builds lines -/
theorem line_nil (w : Str) : lineOf w [] = w := by
  refine ext_tl ?_
  rw [tl_line]
  rfl
theorem line_join (w : Str) (n : Int) (ns : List Int) : w ++ sp ++ Txt.join sp ((n :: ns).map numS) = lineOf w (n :: ns) := by
  refine ext_tl ?_
  rw [tl_line, tl_append, tl_append, tl_sp, join_eq, tl_join, tl_sp, List.map_cons, List.map_cons, List.map_cons, joinL_cons, List.map_map, List.append_assoc]
  rfl
theorem joinL_nil : ∀ ps : List (List Nat), joinL [] ps = ps.flatten
  | [] => rfl
  | [p] => by simp [joinL]
  | p :: q :: r => by
    rw [joinL_cons, joinL_nil, List.flatten_cons, List.flatten_cons, List.flatten_cons, List.nil_append]
theorem joinL_sp (p : List Nat) : ∀ ps : List (List Nat), joinL [32] (p :: ps) = p ++ (ps.map fun q => 32 :: q).flatten
  | [] => by simp [joinL]
  | q :: r => by
    rw [joinL_cons, joinL_sp q r, List.map_cons, List.flatten_cons]
    rfl
theorem line_glue (w : Str) (ns : List Int) : w ++ Txt.join Str.empty (ns.map fun n => sp ++ numS n) = lineOf w ns := by
  refine ext_tl ?_
  rw [tl_line, tl_append, join_eq, tl_join, joinL_sp, show tl Str.empty = [] from rfl, joinL_nil, List.map_map, List.map_map]
  have e : (fun n => tl (sp ++ numS n)) = (fun n => 32 :: tl (numS n)) := by
    funext n
    rw [tl_append, tl_sp]
    rfl
  show tl w ++ (List.map (fun n => tl (sp ++ numS n)) ns).flatten = _
  rw [e]
  rfl
theorem line_two (w : Str) (a b : Int) : w ++ sp ++ numS a ++ sp ++ numS b = lineOf w [a, b] := by
  refine ext_tl ?_
  rw [tl_line, tl_append, tl_append, tl_append, tl_append, tl_sp]
  show _ = tl w ++ ([32] ++ (tl (numS a) ++ ([32] ++ tl (numS b))))
  simp only [List.append_assoc]
/-- what integer_of asks of a word -/
theorem starts_pre {x y : Str} (hy : tl y ≠ []) : Txt.startswith x y = pre (tl y) (tl x) := by
  have iff := at_iff (x := x) hy 0
  rw [List.drop_zero] at iff
  cases hp : pre (tl y) (tl x) with
  | true =>
    have h := iff.mpr hp
    have h1 : 0 + y.length ≤ x.length := h.1
    unfold Txt.startswith
    rw [h.2, decide_eq_true h1]
    rfl
  | false =>
    cases hq : Txt.startswith x y with
    | false => rfl
    | true =>
      exfalso
      unfold Txt.startswith at hq
      rw [Bool.and_eq_true] at hq
      have := iff.mp ⟨of_decide_eq_true hq.1, hq.2⟩
      rw [hp] at this
      cases this
theorem tl_minus : tl ("-" : Str) = [45] := by decide +kernel
theorem starts_neg {n : Int} (h : OkN n) : Txt.startswith (numS n) "-" = decide (n < 0) := by
  rw [starts_pre (by rw [tl_minus]; simp), tl_minus]
  by_cases h0 : 0 ≤ n
  · have e := tl_numS h0
    have hd := numL_digits n.toNat
    have hf : 45 ∉ numL n.toNat := numL_free (by decide)
    rw [show decide (n < 0) = false from decide_eq_false (by omega), e]
    have z := free_of (S := []) (q := []) hf 0 (List.length_pos_iff.mpr (numL_ne _))
    rw [List.append_nil, List.drop_zero] at z
    exact z
  · have e : n = -1 := by have := h.1; omega
    rw [e, numS_neg]
    decide +kernel
def digS : Str := "0123456789"
theorem tl_dig : tl digS = [48, 49, 50, 51, 52, 53, 54, 55, 56, 57] := by decide +kernel
theorem dig_mem {c : Nat} (h : 48 ≤ c ∧ c ≤ 57) : c ∈ tl digS := by
  rw [tl_dig]
  simp only [List.mem_cons, List.not_mem_nil, or_false]
  omega
/-- the figures of a word -/
def figS (n : Int) : Str := if n < 0 then cutS (numS n) (some 1) none else numS n
theorem fig_neg : figS (-1) = (⟨#[49]⟩ : Str) := by decide +kernel
theorem fig_pos {n : Int} (h : 0 ≤ n) : figS n = numS n := if_neg (by omega)
theorem fig_len {n : Int} (h : OkN n) : 1 ≤ (figS n).length ∧ (figS n).length ≤ 31 := by
  by_cases h0 : 0 ≤ n
  · rw [fig_pos h0]
    exact ⟨numS_pos n h, numS_len h⟩
  · have e : n = -1 := by have := h.1; omega
    rw [e, fig_neg]
    decide
theorem fig_dig {n : Int} (h : OkN n) : ∀ c ∈ (figS n).cps.toList, c ∈ digS.cps.toList := by
  intro c hc
  by_cases h0 : 0 ≤ n
  · rw [fig_pos h0] at hc
    have hc' : c ∈ tl (numS n) := hc
    rw [tl_numS h0] at hc'
    exact dig_mem (numL_digits _ c hc')
  · have e : n = -1 := by have := h.1; omega
    rw [e, fig_neg] at hc
    refine dig_mem ?_
    have hc' : c ∈ [49] := hc
    rw [List.mem_singleton.mp hc']
    decide
end K94
set_option Elab.async false
set_option linter.all false
set_option maxRecDepth 100000
set_option maxHeartbeats 2000000
/-! Calls by values that the hand layer has no rule for: sum of a tuple, min of a list of pairs, repr of a text and of a tuple. -/
namespace K94
open PySem PySem.Spec PyProof.Rows L2
section
variable {X : Cx}
/-- sum(t), t a tuple of ints -/
def rSumT (K : PySem.W.Frag) : List V → Hp → VK → Prop := fun vs H Q => ∃ (a : Addr) (ns : List Int), vs = [V.ref a] ∧ SqT K H a (ns.map V.int) ∧ Q (.int ns.sum) H
theorem cr_sumT (hc : X.calm = true) : CallR X (.builtin "sum") (rSumT X.K) := by
  intro pins s σ H vs us Q I r h
  obtain ⟨a, ns, rfl, hs, q⟩ := h
  obtain ⟨its, rv, ht, hz⟩ := I.tuple hs
  rw [Vals.ref1 r]
  have hi : IntsAre its ns := rv.ints
  have hl : s.heap.IsTuple a its.toArray := ht
  obtain ⟨xs, hx⟩ := hi.allInts.items
  have hn : numsOf its.toArray.toList = ns := by rw [show its.toArray.toList = its from rfl, hi.numsOf]
  rw [hx] at hl hn
  rw [nums_intItems] at hn
  refine PySem.W.ktm_sumG (I.ok.hd hc) hl fun h' tk t' hk => ?_
  refine ⟨.int _, H, I.kept (t' := tk) hk, ⟨t', ?_⟩, q⟩
  rw [preSum_eq, List.take_of_length_le (by simp), hn]
/-- min(xs), xs a list of pairs of ints: the pair's own tuple -/
def rMinP (K : PySem.W.Frag) : List V → Hp → VK → Prop := fun vs H Q => ∃ (a : Addr) (ts : List Addr) (p : Int × Int) (ps : List (Int × Int)), vs = [V.ref a] ∧ SqL K H a (ts.map V.ref) ∧
  Paired (fun (t : Addr) (q : Int × Int) => H t = some (.tup [.int q.1, .int q.2])) ts (p :: ps) ∧ ∀ t, H t = some (.tup [.int (PySem.W.minOf p ps).1, .int (PySem.W.minOf p ps).2]) → Q (.ref t) H
theorem vals_refs : ∀ {ts : List Addr} {us : List Value}, Vals (ts.map V.ref) us → us = ts.map Value.ref
  | [], _, r => by cases r; rfl
  | t :: ts, _, r => by
    cases r with
    | cons a b =>
      rw [vals_refs b]
      cases a
      rfl
theorem pair_at {P : Program} {w : World} {H : Hp} {h : Heap} {t : Addr} {a b : Int} (ok : HOk P w H h) (e : H t = some (.tup [.int a, .int b])) : ∃ u v, h.IsTuple t #[.int a u, .int b v] := by
  obtain ⟨_, its, rv, p⟩ := (show ObjOk P w H h t (.tup [.int a, .int b]) from ok t _ e)
  cases rv with
  | cons r1 r2 =>
    cases r2 with
    | cons r3 r4 =>
      cases r4
      obtain ⟨u, rfl⟩ := r1
      obtain ⟨v, rfl⟩ := r3
      exact ⟨u, v, p⟩
theorem holds_pairs {P : Program} {w : World} {H : Hp} {h : Heap} (ok : HOk P w H h) : ∀ {ts : List Addr} {ps : List (Int × Int)},
    Paired (fun (t : Addr) (q : Int × Int) => H t = some (.tup [.int q.1, .int q.2])) ts ps → PySem.W.HoldAll h (ts.map Value.ref) ps
  | [], _, r => by cases r; exact PySem.W.HoldAll.nil
  | t :: ts, _, r => by
    cases r with
    | cons e r =>
      obtain ⟨u, v, p⟩ := pair_at ok e
      exact PySem.W.HoldAll.cons (PySem.W.holds_pair p (PySem.W.holds_int _ _) (PySem.W.holds_int _ _)) (holds_pairs ok r)
theorem cr_minP (hc : X.calm = true) (hu : X.A.units + 65 < cLine) : CallR X (.builtin "min") (rMinP X.K) := by
  intro pins s σ H vs us Q I r h
  obtain ⟨a, ts, p, ps, rfl, hs, hp, q⟩ := h
  obtain ⟨its, rv, hl, _⟩ := I.list hs
  rw [Vals.ref1 r]
  have ei := vals_refs rv
  subst ei
  have hh : PySem.W.HoldAll s.heap (ts.map Value.ref).toArray.toList (p :: ps) := holds_pairs I.hok hp
  refine PySem.W.min_list_datum (I.ok.hd hc) hl.isList hh (by show X.A.units + 1 + (max 0 0 + 1) < cLine; omega) fun i v h' tk hi hv hk => ?_
  have hi' : (ts.map Value.ref)[i]? = some v := by simpa using hi
  rw [List.getElem?_map] at hi'
  cases ht : ts[i]? with
  | none => rw [ht] at hi'; cases hi'
  | some t =>
    rw [ht] at hi'
    obtain rfl : Value.ref t = v := Option.some.inj hi'
    have I1 := I.kept (t' := tk) hk
    refine ⟨.ref t, H, I1, rfl, q t ?_⟩
    have hpt : ∃ z : Int × Int, H t = some (.tup [.int z.1, .int z.2]) := by
      have key : ∀ {ts : List Addr} {ps : List (Int × Int)} {i : Nat}, Paired (fun (t : Addr) (q : Int × Int) => H t = some (.tup [.int q.1, .int q.2])) ts ps → ts[i]? = some t → ∃ z : Int × Int, H t = some (.tup [.int z.1, .int z.2]) := by
        intro ts ps i r
        induction r generalizing i with
        | nil => intro e; simp at e
        | cons e r ih =>
          intro e2
          cases i with
          | zero => simp at e2; subst e2; exact ⟨_, e⟩
          | succ i => exact ih (by simpa using e2)
      exact key hp ht
    obtain ⟨z, hz⟩ := hpt
    obtain ⟨u, v, o, ho, _, n, hd⟩ := pair_at I1.hok hz
    obtain ⟨l, x, y, e1, ⟨o', ho', _, n', hd'⟩, hx, hy⟩ := PySem.W.pair_of_holds hv
    cases e1
    rw [ho] at ho'
    cases ho'
    rw [hd] at hd'
    injection hd' with hd1 hd2
    obtain ⟨x', ex⟩ := PySem.W.int_of_holds hx
    obtain ⟨y', ey⟩ := PySem.W.int_of_holds hy
    rw [ex, ey] at hd1
    have l1 : [Value.int z.1 u, Value.int z.2 v] = [Value.int (PySem.W.minOf p ps).1 x', Value.int (PySem.W.minOf p ps).2 y'] := by simpa using congrArg Array.toList hd1
    injection l1 with a1 a2
    injection a2 with a2 _
    injection a1 with a1 _
    injection a2 with a2 _
    rw [← a1, ← a2]
    exact hz
/-- repr(s) -/
theorem cr_repr : CallR X (.builtin "repr") (fun xs H Q => ∃ z, xs = [.str z] ∧ (reprText z).length ≤ sizeLine ∧ Q (.str (reprText z)) H) := by
  intro pins s σ H xs us Q I r h
  obtain ⟨z, rfl, hz, q⟩ := h
  obtain ⟨u, rfl, t, rfl⟩ := vals1 r
  exact PySem.P.repr_of_str (h := ⟨.str _, H, I.tok _, ⟨_, rfl⟩, q⟩) hz
/-- repr(t), t a tuple of texts -/
def rReprT (K : PySem.W.Frag) : List V → Hp → VK → Prop := fun xs H Q => ∃ (a : Addr) (zs : List Str), xs = [.ref a] ∧ SqT K H a (zs.map V.str) ∧
  (PyData.tuple (zs.map PyData.str)).shown.length ≤ sizeLine ∧ Q (.str (PyData.tuple (zs.map PyData.str)).shown) H
theorem shown_all : ∀ zs : List Str, PyData.showableAll (zs.map PyData.str) = true
  | [] => rfl
  | z :: zs => by
    have := shown_all zs
    simp [PyData.showableAll, PyData.showable, this]
theorem nodict_all : ∀ zs : List Str, PyData.hasDictAll (zs.map PyData.str) = false
  | [] => rfl
  | z :: zs => by
    have := nodict_all zs
    simp [PyData.hasDictAll, PyData.hasDict, this]
theorem depth_all : ∀ zs : List Str, PyData.depthAll (zs.map PyData.str) = 0
  | [] => rfl
  | z :: zs => by
    have := depth_all zs
    simp [PyData.depthAll, PyData.depth, this]
theorem reads_strs (h : Heap) : ∀ {zs : List Str} {us : List Value}, Vals (zs.map V.str) us → ∃ as, ReadsAll h us (zs.map PyData.str) as
  | [], _, r => by cases r; exact ⟨_, .nil⟩
  | z :: zs, _, r => by
    cases r with
    | cons a b =>
      obtain ⟨t, rfl⟩ := a
      obtain ⟨as, q⟩ := reads_strs h b
      exact ⟨_, .cons (.str z t) q⟩
theorem cr_reprT (hg : X.A.guards = some []) (hu : X.A.units + 65 < cLine) : CallR X (.builtin "repr") (rReprT X.K) := by
  intro pins s σ H vs us Q I r h
  obtain ⟨a, zs, rfl, hs, hz, q⟩ := h
  obtain ⟨its, rv, ht, _⟩ := I.tuple hs
  rw [Vals.ref1 r]
  obtain ⟨as, ra⟩ := reads_strs s.heap rv
  obtain ⟨o, ho, hcl, n, hd⟩ := ht
  have rd : Reads s.heap (.ref a) (.tuple (zs.map PyData.str)) _ := Reads.tuple ho hcl hd ra
  refine repr_of_reads' rd (by simpa [PyData.showable] using shown_all zs) (fun hx => by
    have : PyData.hasDict (.tuple (zs.map PyData.str)) = PyData.hasDictAll (zs.map PyData.str) := by simp [PyData.hasDict]
    rw [this, nodict_all] at hx
    cases hx) hg (by
    have : PyData.depth (.tuple (zs.map PyData.str)) = PyData.depthAll (zs.map PyData.str) + 1 := by simp [PyData.depth]
    rw [this, depth_all]
    omega) (fun _ _ e => e) (fun h' u tk hk => ?_) hz
  exact ⟨.str _, H, I.kept (t' := tk) hk, ⟨u, rfl⟩, q⟩
end
end K94
set_option Elab.async false
set_option linter.all false
set_option maxRecDepth 100000
set_option maxHeartbeats 2000000
/-! for and comprehensions over range(a, b) with ends of any size: the iterator is a small or a long one. -/
namespace K94
open PySem PySem.Spec PyProof.Rows L2
namespace LR
theorem slot_next : Slot "longrange_iterator" "__next__" "longrange_iterator.__next__" :=
  .of (owner := "longrange_iterator") (n := "__next__") (by rw [typeLookup_type, builtinLookup_eq_fast]; kernel_rfl) (by decide +kernel) (by decide +kernel) (by decide +kernel)
    (by first | exact .inl (by decide +kernel) | exact .inr (by decide +kernel)) (by rw [isSubtype_type]; kernel_rfl)
theorem entry_next : entryFor table "longrange_iterator.__next__" = some Builtin.«longrange_iterator.__next__» := entryFor_of_tree (by kernel_rfl)
theorem args_next (a : Value) : argsOk "longrange_iterator.__next__" ⟨[a], []⟩ := by unfold argsOk; kernel_rfl
theorem slot_iter : Slot "longrange_iterator" "__iter__" "longrange_iterator.__iter__" :=
  .of (owner := "longrange_iterator") (n := "__iter__") (by rw [typeLookup_type, builtinLookup_eq_fast]; kernel_rfl) (by decide +kernel) (by decide +kernel) (by decide +kernel)
    (by first | exact .inl (by decide +kernel) | exact .inr (by decide +kernel)) (by rw [isSubtype_type]; kernel_rfl)
theorem next_item (it : Addr) (x left step : Int) (hc0 : ¬ left ≤ 0) :
    Meets (Builtin.«longrange_iterator.__next__» ⟨[.ref it], []⟩) (fun _ R s => s.heap.get? it = some { cls := .type "longrange_iterator", dict := none, data := .fields #[rawInt x, rawInt left, rawInt step], slots := #[] } ∧ R (.ok (.ret (Value.int x s.toks))) { s with heap := (s.heap.update it (Obj.mapFields fun x_1 => x_1.setIfInBounds 0 (rawInt (x + step)))).update it (Obj.mapFields fun x => x.setIfInBounds 1 (rawInt (left - 1))), toks := s.toks + 1 }) :=
  .of_wp fun prog w A R s h => by obtain ⟨hp, g, d, tk, os⟩ := s; obtain ⟨hl, h⟩ := h; wp_walk; exact ⟨_, rfl, h⟩
abbrev IsLong (h : Heap) (it : Addr) (x left step : Int) : Prop := h.get? it = some { cls := .type "longrange_iterator", dict := none, data := .fields #[rawInt x, rawInt left, rawInt step], slots := #[] }
section
variable {prog : Program} {w : World} {A : Around} {E : Value → Shared → Prop} {s : Shared}
theorem pyNext_item {it : Addr} {x left step : Int} {Q : Option Value → Shared → Prop} (hit : IsLong s.heap it x left step) (hleft : 0 < left)
    (hQ : ∀ h', IsLong h' it (x + step) (left - 1) step → Heap.SameBut it s.heap h' → Q (some (.int x s.toks)) { s with heap := h', toks := s.toks + 1 }) :
    wpAny (model prog w) A (pyNext (.ref it)) Q E s := by
  have hT : s.TypeIs (.ref it) "longrange_iterator" := ⟨_, hit, rfl⟩
  unfold pyNext
  refine wpAny_bind (wpAny_attempt (wpAny_callSpecial?_slot (name := Str.ofString "__next__") hT slot_next
    (call_meets slot_next hT entry_next (args_next _) (next_item it x left step (by omega)) ⟨hit, ?_⟩)))
  exact wpAny_pure (hQ _ (Heap.get?_update_self _ (Heap.get?_update_self _ hit rfl) rfl) ((Heap.SameBut.update ..).trans (Heap.SameBut.update ..)))
theorem pyNext_end {it : Addr} {x left step : Int} {Q : Option Value → Shared → Prop} (hh : A.handled = none) (hit : IsLong s.heap it x left step) (hleft : left ≤ 0)
    (hQ : ∀ h', Heap.ExtBut it s.heap h' → Q none { s with heap := h' }) : wpAny (model prog w) A (pyNext (.ref it)) Q E s := by
  have hT : s.TypeIs (.ref it) "longrange_iterator" := ⟨_, hit, rfl⟩
  unfold pyNext
  refine wpAny_bind (wpAny_attempt (wpAny_callSpecial?_slot (name := Str.ofString "__next__") hT slot_next
    (wpAny_call_entry slot_next hT entry_next ?_ (args_next _))))
  unfold Builtin.«longrange_iterator.__next__»
  refine wpAny_bind (wpAny_of_eq (a := #[some (Value.ref it)]) (by first | rfl | kernel_rfl) ?_)
  show wpAny _ _ (Builtin.Iterators_pickling.intField _ (.ref it) 0 >>= _) _ _ s
  have fld : ∀ {i : Nat} {n : Int} {α : Type} {f : Int → Sem α} {Q' : α → Shared → Prop} {E' : Value → Shared → Prop}, (#[rawInt x, rawInt left, rawInt step] : Array Value)[i]? = some (rawInt n) → wpAny (model prog w) A.in1 (f n) Q' E' s →
      wpAny (model prog w) A.in1 (Builtin.Iterators_pickling.intField "longrange_iterator.__next__" (.ref it) i >>= f) Q' E' s := fun {i n α f Q' E'} e h => by
    refine wpAny_bind ?_
    unfold Builtin.Iterators_pickling.intField
    refine wpAny_bind (wpAny_field hit rfl (x := rawInt n) e ?_)
    exact wpAny_pure h
  refine fld (n := x) rfl ?_
  refine fld (n := left) rfl ?_
  refine fld (n := step) rfl ?_
  show wpAny _ _ (if left ≤ 0 then _ else _) _ _ s
  rw [if_pos hleft]
  refine wpAny_bind (wpAny_rule ?_)
  refine wpAny_bind ?_
  simp only [newExc, newTuple]
  refine wpAny_bind (wpAny_newObj_type ?_ (by size_fits))
  refine wpAny_bind (m := firstArgMember _ _) (wpAny_of_eq (a := Value.none) (by first | rfl | (simp only [firstArgMember]; rfl)) ?_)
  refine wpAny_newObj_type ?_ (by size_fits)
  refine wpAny_bind ?_
  simp only [raiseNew]
  refine wpAny_bind (wpAny_handled ?_)
  first | rw [show A.in1.handled = none from hh] | rw [hh]
  refine wpAny_bind (wpAny_pure (wpAny_throw ?_))
  refine wpAny_bind (wpAny_isInstance (T := "StopIteration") (b := true) ⟨_, Heap.get?_push_size _ rfl, rfl⟩ isSubtype_stop ?_)
  exact wpAny_pure (hQ _ (((Heap.ExtBut.refl it s.heap).push _).push _))
theorem entry_iter : entryFor table "longrange_iterator.__iter__" = some Builtin.«dict_keyiterator.__iter__» :=
  entryFor_alias (id' := "dict_keyiterator.__iter__") (by kernel_rfl) (by decide +kernel) (by decide +kernel) (by kernel_rfl)
theorem args_iter (a : Value) : argsOk "longrange_iterator.__iter__" ⟨[a], []⟩ := by unfold argsOk; kernel_rfl
theorem pyIter_self {it : Addr} {x left step : Int} {Q : Value → Shared → Prop} (hit : IsLong s.heap it x left step) (h : Q (.ref it) s) : wpAny (model prog w) A (pyIter (.ref it)) Q E s := by
  have hT : s.TypeIs (.ref it) "longrange_iterator" := ⟨_, hit, rfl⟩
  refine wpAny_pyIter_slot hT slot_iter (wpAny_call_entry slot_iter hT entry_iter ?_ (args_iter _))
  show wpAny _ _ (ret (.ref it)) _ _ s
  exact wpAny_pure ⟨_, rfl, "longrange_iterator", _, hT, slot_next.lookup, h⟩
/-- iter(range(a, b)), a small one or a long one -/
theorem pyIter_any {r : Addr} {a b : Int} {t u v : Tok} {Q : Value → Shared → Prop} (hr : IsRange s.heap r a b 1 t u v)
    (h1 : ∀ h', h'.get? s.heap.objs.size = some { cls := .type "range_iterator", data := .fields #[rawInt a, rawInt (Builtin.Range.rangeSize a b 1), rawInt 1] } → (∀ c o, s.heap.get? c = some o → h'.get? c = some o) → Q (.ref s.heap.objs.size) { s with heap := h' })
    (h2 : ∀ h', h'.get? s.heap.objs.size = some { cls := .type "longrange_iterator", data := .fields #[rawInt a, rawInt (Builtin.Range.rangeSize a b 1), rawInt 1] } → (∀ c o, s.heap.get? c = some o → h'.get? c = some o) → Q (.ref s.heap.objs.size) { s with heap := h' }) :
    wpAny (model prog w) A (pyIter (.ref r)) Q E s := by
  have hT : s.TypeIs (.ref r) "range" := ⟨_, hr, rfl⟩
  cases hc : Builtin.Range.small a b 1 with
  | true =>
    refine wpAny_pyIter_range hr hc (h1 _ (Heap.get?_push_size _ rfl) fun c o e => Heap.get?_push_of_some _ e)
  | false =>
    refine wpAny_pyIter_slot hT F.slot_range_iter (call_meets F.slot_range_iter hT F.entry_range_iter (F.args_range_iter_1 _)
      (AutoRange.range___iter___range_0 r a b 1 t u v (by show (!(Builtin.Range.small a b 1)) = true; rw [hc]; rfl)) ⟨hr, ?_⟩)
    unfold Builtin.Range.small at hc
    simp only [hc]
    exact ⟨"longrange_iterator", _, ⟨_, Heap.get?_push_size _ rfl, rfl⟩, slot_next.lookup, h2 _ (Heap.get?_push_size _ rfl) fun c o e => Heap.get?_push_of_some _ e⟩
end
theorem turn_long {P : Program} {w : World} {K : PySem.W.Frag} {tg : Expr} (it : Addr) (lo : Int) (n : Nat) : Turn P w K tg (Itr lo n) [it] it (fun i h => IsLong h it (lo + (i : Nat)) ((n : Int) - (i : Nat)) 1) where
  mem := by simp
  obj := fun i h st b hb => by
    obtain rfl : b = it := by simpa using hb
    refine ⟨_, st, fun v z => ?_⟩
    have z' : Data.fields _ = Data.cell v := z
    cases z'
  keep := fun i h h' st k => k it (by simp) _ st
  item := by
    intro X hP hw hK hc i pins s σ H E I hf st hg
    subst hP hw hK
    obtain ⟨f0, f1, f2, f3, f4, f5⟩ := hf it (by simp)
    have hlt : i < n := hg
    refine pyNext_item st (by omega) fun h' st' sb => ?_
    have e1 : lo + (i : Nat) + 1 = lo + ((i + 1 : Nat) : Int) := by omega
    have e2 : ((n : Int) - (i : Nat)) - 1 = (n : Int) - ((i + 1 : Nat) : Int) := by omega
    rw [e1, e2] at st'
    have I1 : Inv X pins σ H { s with heap := h', toks := s.toks + 1 } := I.turned (fun b o hb e => (sb.2 b hb).trans e) f0 f1 f3 f4 f5
    exact ⟨_, rfl, go_of (s := { s with heap := h', toks := s.toks + 1 }) (n := "longrange_iterator") st' rfl rfl (by decide) ⟨.int (lo + i), H, I1, ⟨_, rfl⟩, ⟨rfl, rfl⟩, st', fun b hb => (hf b hb).1⟩⟩
  done := by
    intro X hP hw hK hc i pins s σ H E I hf st hg
    subst hP hw hK
    obtain ⟨f0, f1, f2, f3, f4, f5⟩ := hf it (by simp)
    exact pyNext_end (I.ok.hd hc) st (by have : n ≤ i := hg; omega) fun h' eb => ⟨rfl, I.turned (t' := s.toks) (fun b o hb e => eb b o hb e) f0 f1 f3 f4 f5⟩
  self := fun _ _ _ _ _ st h => pyIter_self st h
end LR
section
variable {X : Cx} {tg : Expr}
/-- range(a, b), the ends of any size -/
def iRngW (ta : TA) : TI := fun σ H R => ta σ H fun vs H1 => ∃ i j : Int, vs = [.int i, .int j] ∧ R (Itr i (j - i).toNat) H1
theorem range_itW {pins : List (Addr × Obj)} {σ : L2.St} {H : Hp} {s : Shared} {R : It → Hp → Prop} {E : Value → Shared → Prop} {lo hi : Int} {t u v : Tok} {tk : Nat} (I : Inv X pins σ H s)
    (q : R (Itr lo (hi - lo).toNat) H) : wpAny (model X.prog X.w) X.A (pyIter (.ref s.heap.objs.size)) (PIE X pins σ tg R) E { s with heap := s.heap.push { cls := .type "range", data := .fields #[.int lo t, .int hi u, .int 1 v] }, toks := tk } := by
  have I1 : Inv X pins σ H { s with heap := s.heap.push { cls := .type "range", data := .fields #[.int lo t, .int hi u, .int 1 v] }, toks := tk } := I.kept fun b o e => Heap.get?_push_of_some _ e
  have e0 : lo + ((0 : Nat) : Int) = lo := by simp
  have e2 : (((hi - lo).toNat : Nat) : Int) - ((0 : Nat) : Int) = Builtin.Range.rangeSize lo hi 1 := by rw [rangeSize_one]; split <;> omega
  refine LR.pyIter_any (IsRange.new ..) (fun h' hg hk => ?_) fun h' hg hk => ?_
  · refine ⟨_, [(s.heap.push { cls := .type "range", data := .fields #[.int lo t, .int hi u, .int 1 v] }).objs.size], _, _, H, rfl, I1.kept (t' := tk) hk, turn_range _ lo (hi - lo).toNat, ?_, fun b hb => ?_, q⟩
    · show IsRangeIter _ _ (lo + ((0 : Nat) : Int) * 1) ((((hi - lo).toNat : Nat) : Int) - ((0 : Nat) : Int)) 1
      rw [Int.mul_one, e0, e2]
      exact hg
    · obtain rfl := List.mem_singleton.mp hb
      exact I1.fpOk (Nat.le_refl _) (I1.hok.fresh (Nat.le_refl _))
  · refine ⟨_, [(s.heap.push { cls := .type "range", data := .fields #[.int lo t, .int hi u, .int 1 v] }).objs.size], _, _, H, rfl, I1.kept (t' := tk) hk, LR.turn_long _ lo (hi - lo).toNat, ?_, fun b hb => ?_, q⟩
    · show LR.IsLong _ _ (lo + ((0 : Nat) : Int)) ((((hi - lo).toNat : Nat) : Int) - ((0 : Nat) : Int)) 1
      rw [e0, e2]
      exact hg
    · obtain rfl := List.mem_singleton.mp hb
      exact I1.fpOk (Nat.le_refl _) (I1.hok.fresh (Nat.le_refl _))
theorem pi_rangeW {a b : Expr} {ta : TA} {p pos : Pos} (hg : Gl X "range") (hm : X.mg "range" = none) (ha : PA X [a, b] ta) (hs : starEach [a, b] X.env = [(false, eval a X.env), (false, eval b X.env)] := by rfl) (hs2 : starEach [b] X.env = [(false, eval b X.env)] := by rfl) :
    PI X tg (.Call (.Name "range" p) [a, b] [] pos) (iRngW ta) := by
  refine ⟨fun pins s σ H R I h => ?_⟩
  refine Call_ (ld_blt I hg hm boot_range (PyProof.Rows.callWith_type1 (thn (ha.run pos pins s σ H _ I h) fun us s1 ⟨vs, H1, I1, r1, q1⟩ => ?_) (by rw [hs, hs2]) (by rw [hs2]; rfl)))
  obtain ⟨i, j, rfl, q⟩ := q1
  obtain ⟨u1, u2, rfl, ⟨t1, rfl⟩, ⟨t2, rfl⟩⟩ := vals2 r1
  exact call_range_2 (range_itW I1 q)
end
end K94
set_option Elab.async false
set_option linter.all false
set_option maxRecDepth 100000
set_option maxHeartbeats 2000000
/-! a, *b = a list. -/
namespace K94
open PySem PySem.Spec PyProof.Rows L2
section
variable {X : Cx} {pins : List (Addr × Obj)} {σ : L2.St} {H : Hp} {s : Shared}
/-- behind a rule of the ledger's that lays one object and keeps all others -/
theorem Inv.ledger {m : Str → Option Value} {h' : Heap} {tk : Nat} {D : Addr} {ob : Obj} {o : HO} (I : Inv X pins σ H s) (F : Fr X.base X.env.locals s.heap m) (F' : Fr X.base X.env.locals h' m)
    (N' : News X.base X.env.locals h' ((D, ob) :: allNews X.base s.heap X.env.locals)) (lt : ∀ p ∈ allNews X.base s.heap X.env.locals, p.1 < D)
    (new : h'.get? D = some ob → H D = none → ObjOk X.prog X.w (upd H D o) h' D o) : H D = none ∧ Inv X pins σ (upd H D o) { s with heap := h', toks := tk } := by
  obtain ⟨hD, hDL, hDb⟩ := N' (D, ob) List.mem_cons_self
  have sD : s.heap.get? D = none := by
    cases e : s.heap.get? D with
    | none => rfl
    | some u => exact absurd (lt (D, u) (mem_allNews hDL hDb e)) (Nat.lt_irrefl _)
  have kp : ∀ b u, b ≠ X.env.locals → s.heap.get? b = some u → h'.get? b = some u := fun b u hb e => by
    cases q : X.base.get? b with
    | some v =>
      have := I.bk b v q
      rw [e] at this
      cases this
      exact F'.keep b u q
    | none => exact (N' (b, u) (List.mem_cons_of_mem _ (mem_allNews hb q e))).1
  have nD : H D = none := by
    cases e : H D with
    | none => rfl
    | some u =>
      exfalso
      have hl := I.hok.lt e
      have key : ∃ v, s.heap.get? D = some v := by
        have z := I.hok D u e
        cases u with
        | lst xs => obtain ⟨_, _, _, _, e⟩ := z; exact ⟨_, e⟩
        | tup xs => obtain ⟨_, _, _, _, e, _⟩ := z; exact ⟨_, e⟩
        | dK kvs => obtain ⟨_, _, _, _, _, _, _, e, _⟩ := z; exact ⟨_, e⟩
        | dT kvs => obtain ⟨_, _, _, _, _, _, _, e, _⟩ := z; exact ⟨_, e⟩
        | set S n => obtain ⟨_, _, _, _, e, _⟩ := z; exact ⟨_, e⟩
        | ins C dx fs => obtain ⟨_, _, _, e, _⟩ := z; exact ⟨_, e⟩
        | own y => obtain ⟨_, e⟩ := z; exact ⟨_, e⟩
        | xd fs => obtain ⟨_, ⟨_, _, _, e, _⟩, _⟩ := z; exact ⟨_, e⟩
        | rng lo hi => obtain ⟨_, _, _, e⟩ := z; exact ⟨_, e⟩
        | frz ob u => obtain ⟨e, _⟩ := z; exact ⟨_, e⟩
        | tbl ps => exact ⟨_, (show s.heap.get? D = some _ from z)⟩
        | met f y => exact ⟨_, (show s.heap.get? D = some _ from z)⟩
        | ext φ => obtain ⟨_, e, _⟩ := z; exact e
      obtain ⟨v, hv⟩ := key
      rw [sD] at hv
      cases hv
  have nb : ∀ {b u}, s.heap.get? b = some u → b ≠ D := fun {b u} e z => by
    rw [z, sD] at e
    cases e
  have nH : ∀ {b u}, H b = some u → b ≠ D := fun {b u} e z => by
    rw [z, nD] at e
    cases e
  have nL : ∀ {b u}, H b = some u → b ≠ X.env.locals := fun {b u} e z => by
    rw [z, I.free] at e
    cases e
  refine ⟨nD, I.step (ch := []) (d' := s.drawn) (g' := s.gens) (fun _ z => nomatch z) (fun b u hL _ _ e _ => kp b u hL e) (fun b u hL _ _ e _ => ⟨u.slots, kp b u hL e⟩) (fun b u _ e n => by rw [upd_ne (nb e)]; exact n)
    (fun b u _ e => ?_) (fun b xs e => by rw [upd_ne (nH e)]; exact e) (fun b u xs e => by rw [upd_ne (nH e)]; exact e) (fun b ps e => ⟨#[], by rw [upd_ne (nH e), e]; simp⟩) (fun m' hm => ?_) (fun b u e => ?_) I.bare⟩
  · by_cases hb : b = X.env.locals
    · obtain ⟨oL, _, _, hL, _⟩ := F'.ns
      exact ⟨oL, by rw [hb]; exact hL⟩
    · exact ⟨u, kp b u hb e⟩
  · rw [SlX.ns_only hm F.ns]
    exact F'.ns
  · by_cases hb : b = D
    · subst hb
      rw [upd_same] at e
      cases e
      exact new hD nD
    · rw [upd_ne hb] at e
      refine (I.hok b u e).stay (fun c v hc q => kp c v ?_ q) (fun c q => by rw [upd_ne (nH q)]; exact q) fun c xs q => by rw [upd_ne (nH q)]; exact q
      rcases hc with rfl | hc
      · exact nL e
      · exact nL hc
/-- a, *b = a list -/
def gStar (K : PySem.W.Frag) (g1 g2 : TG) : TG := fun v σ H Q => ∃ l x xs, v = .ref l ∧ SqL K H l (x :: xs) ∧ xs.length ≤ 1000 ∧ ∀ D, H D = none → g1 x σ (upd H D (.lst xs)) fun σ' H' => g2 (.ref D) σ' H' Q
theorem pg_star {a b : Expr} {p pos : Pos} {k : Nat} {g1 g2 : TG} (hc : X.calm = true) (h1 : PG X a g1) (h2 : PG X b g2)
    (hl : (assignEach [a, .Starred b p] X.env).length = 2 := by rfl) (hst : (assignEach [a, .Starred b p] X.env).findIdx? (·.1) = some 1 := by rfl)
    (he : (assignEach [a, .Starred b p] X.env).map (·.2) = [assign a X.env, assign b X.env] := by rfl) : PG X (.Tuple [a, .Starred b p] k pos) (gStar X.K g1 g2) := by
  refine ⟨fun pins s σ H v u Q I r hw => ?_⟩
  obtain ⟨l, x, xs, rfl, hq, hz, hw⟩ := hw
  cases r
  obtain ⟨its, rv, hL, hzz⟩ := I.list hq
  cases rv with
  | @cons _ u0 _ ur r0 rr =>
    have hlen := Paired.length rr
    obtain ⟨m, F⟩ := I.fr
    refine PySem.W.kun_assignL (first := [u0]) (mids := ur) (lasts := []) F news_all hL.isList (I.ok.hd hc) hl hst (by decide) (by simp) (by simp; omega) (by simp) (by simp) (by simp) fun D h' tk F' N' lt => ?_
    obtain ⟨nD, I1⟩ := Inv.ledger (tk := tk) (o := .lst xs) I F F' N' lt fun e n => ⟨by rw [sizeLine_eq]; omega, ur, 0, rr, e⟩
    rw [he]
    show wpAny _ _ (assignInOrder [assign a X.env, assign b X.env] [u0, .ref D]) _ _ _
    refine assignInOrder_cons (thn (h1.run pins _ σ _ x u0 _ I1 r0 (hw D nD)) fun _ s1 ⟨σ1, H1, I2, q1⟩ => ?_)
    refine assignInOrder_cons (thn (h2.run pins s1 σ1 H1 (.ref D) _ _ I2 rfl q1) fun _ s2 q2 => ?_)
    exact assignInOrder_nil q2
end
end K94
set_option Elab.async false
set_option linter.all false
set_option maxRecDepth 100000
set_option maxHeartbeats 2000000
/-! for i, x in enumerate(a tuple). -/
namespace K94
open PySem PySem.Spec PyProof.Rows L2
namespace EnT
set_option maxHeartbeats 4000000 in
theorem new_one {v : Value} {o : Obj} {H : Heap → Prop} (B : Begins v o H) :
    Meets (Builtin.«enumerate.__new__» ⟨[.type "enumerate", v], []⟩) (fun _ R s => H s.heap ∧
      R (.ok (.ret (.ref (s.heap.push o).objs.size))) { s with heap := (s.heap.push o).push { cls := .type "enumerate", data := .fields #[.none, .bool false, .ref s.heap.objs.size, rawInt 0, .none, .none] } }) :=
  .of_wp fun prog w A R s h => by
    obtain ⟨hp, g, d, tk, os⟩ := s
    obtain ⟨h1, h⟩ := h
    have hsub := sub_enumerate
    have it1 : ∀ {A' : Around} {E : Value → Shared → Prop} {Q : Value → Shared → Prop}, Q (.ref hp.objs.size) ⟨hp.push o, g, d, tk, os⟩ → wpAny (model prog w) A' (pyIter v) Q E ⟨hp, g, d, tk, os⟩ :=
      fun q => B.iter prog w _ _ ⟨hp, g, d, tk, os⟩ _ h1 q
    wp_walk using it1
    refine wpAny_stack_any fun st => wpAny_pure ?_
    split
    · rename_i c _ _ _ _ _
      cases (c == Value.type "enumerate") <;> (wp_walk using it1; exact ⟨_, rfl, h⟩)
    · wp_walk using it1
      exact ⟨_, rfl, h⟩
section
variable {prog : Program} {w : World} {A : Around} {E : Value → Shared → Prop} {s : Shared}
theorem begins {v : Value} {o : Obj} {H : Heap → Prop} {Q : Value → Shared → Prop} (B : Begins v o H) (h1 : H s.heap)
    (h : ∀ h', IsEnum h' (s.heap.objs.size + 1) s.heap.objs.size 0 .none → h'.get? s.heap.objs.size = some o → (∀ b u, s.heap.get? b = some u → h'.get? b = some u) → Q (.ref (s.heap.objs.size + 1)) { s with heap := h' }) :
    wpAny (model prog w) A (call (.type "enumerate") [v]) Q E s := by
  have hz : (s.heap.push o).objs.size = s.heap.objs.size + 1 := Heap.size_push ..
  refine callType_new F.called_enumerate (by decide) (F.typeCall_enumerate_1 _) (F.newCall_enumerate_1 _) (fun obj => F.args_object_init_2 obj _) F.entry_enumerate_new (new_one B) ⟨h1, ?_⟩
  have he : ((s.heap.push o).push { cls := .type "enumerate", data := .fields #[.none, .bool false, .ref s.heap.objs.size, rawInt 0, .none, .none] }).get? (s.heap.push o).objs.size = some { cls := .type "enumerate", data := .fields #[.none, .bool false, .ref s.heap.objs.size, rawInt 0, .none, .none] } := Heap.get?_push_size _ rfl
  rw [hz] at he
  show _ ∧ _
  rw [hz]
  exact ⟨⟨_, he, rfl⟩, h _ he (Heap.get?_push_of_some _ (Heap.get?_push_size _ B.free)) fun b u x => Heap.get?_push_of_some _ (Heap.get?_push_of_some _ x)⟩
end
end EnT
/-- the tuple at a, item by item, with its number, in new pairs -/
def IteT (K : PySem.W.Frag) (a : Addr) : It :=
  ⟨fun i H => ∃ (xs : List V) (x : V), SqT K H a xs ∧ xs[i]? = some x, fun i H v H' => ∃ T x, v = .ref T ∧ H T = none ∧ H' = upd H T (.tup [.int (i : Nat), x]) ∧ ∀ xs, SqT K H a xs → xs[i]? = some x, fun i H => ∃ xs : List V, SqT K H a xs ∧ xs.length = i⟩
theorem turn_enumT {P : Program} {w : World} {K : PySem.W.Frag} {elts : List Expr} {kk : Nat} {tpos : Pos} (a e it : Addr) (hne : e ≠ it) :
    Turn P w K (.Tuple elts kk tpos) (IteT K a) [e, it] e (fun i h => (∃ old, IsEnum h e it ((i : Nat) : Int) old) ∧ h.IsTupleIter it a i) where
  mem := by simp
  obj := fun i h st b hb => by
    obtain ⟨⟨old, he⟩, ⟨o, ho, hc, hd⟩⟩ := st
    rcases (show b = e ∨ b = it by simpa using hb) with rfl | rfl
    · exact ⟨_, he, fun v q => nomatch q⟩
    · exact ⟨o, ho, fun v q => by rw [hd] at q; cases q⟩
  keep := fun i h h' st k => let ⟨⟨old, he⟩, hi⟩ := st; ⟨⟨old, k e (by simp) _ he⟩, hi.at fun o q => k it (by simp) o q⟩
  item := by
    intro X hP hw hK hc i pins s σ H E I hf st hg
    subst hP hw hK
    obtain ⟨⟨old, he⟩, hit⟩ := st
    obtain ⟨xs, x, hq, hx⟩ := hg
    obtain ⟨its, rv, ht, hz⟩ := I.tuple hq
    obtain ⟨u, hu, ru⟩ := rv.get hx
    have ht' : s.heap.IsTuple a its.toArray := ht
    obtain ⟨oa, hoa, _⟩ := id ht'
    have hel : e < s.heap.objs.size := Heap.lt_size he
    have ai : a ≠ it := fun z => by
      obtain ⟨o2, h2, _, d2⟩ := hit
      obtain ⟨o1, h1, _, n1, d1⟩ := ht'
      rw [z, h2] at h1
      cases h1
      rw [d2] at d1
      cases d1
    have ae : e ≠ a := fun z => by
      obtain ⟨o1, h1, _, n1, d1⟩ := ht'
      rw [← z, he] at h1
      cases h1
      cases d1
    have lt : i < its.toArray.size := by
      have h3 := rv.length
      have h4 : i < xs.length := (List.getElem?_eq_some_iff.mp hx).1
      simp
      omega
    refine wpAny_pyNext_enum_itemD (Draws.tuple (A := X.A.in1) (I.ok.hd hc) it a ai its.toArray) he ⟨hit, ht'⟩ lt hne (by simp [hne, ae]) fun y h' tk hy ho hst hT hsz hk => ?_
    have ey : y = u := by
      have h5 : its.toArray[i]? = some u := by simpa using hu
      rw [hy] at h5
      exact Option.some.inj h5
    subst ey
    refine ⟨_, rfl, wpAny_letOwnedTupleGo_enum (s := { s with heap := h', toks := tk + 1 }) ho fun h'' he' sb => ?_⟩
    have hT2 : h''.get? s.heap.objs.size = some { cls := .type "tuple", data := .seq #[.int i tk, y] } := (sb.2 _ (Nat.ne_of_gt hel)).trans hT
    have new : ObjOk X.prog X.w (upd H s.heap.objs.size (.tup [.int (i : Nat), x])) h'' s.heap.objs.size (.tup [.int (i : Nat), x]) :=
      ⟨by show 2 ≤ sizeLine; decide, [.int i tk, y], .cons ⟨_, rfl⟩ (.cons ru .nil), ⟨_, hT2, rfl, _, rfl⟩⟩
    have I1 : Inv X pins σ (upd H s.heap.objs.size (.tup [.int (i : Nat), x])) { s with heap := h'', toks := tk + 1 } :=
      I.turnedNew (ch := [e, it]) (fun b ob hb q => (sb.2 b (fun z => hb (by simp [z]))).trans (hk b ob (fun z => hb (by simp [z])) (fun z => hb (by simp [z])) q)) hf (Nat.le_refl _) new
    refine ⟨.ref s.heap.objs.size, _, I1, rfl, ⟨_, x, rfl, I.hok.fresh (Nat.le_refl _), rfl, fun ys hy => by rw [I.tuple_inj hy hq]; exact hx⟩, ⟨⟨y, ?_⟩, hst.1.at fun o q => (sb.2 it (Ne.symm hne)).trans q⟩, fun b hb => ?_⟩
    · have e1 : ((i + 1 : Nat) : Int) = (i : Int) + 1 := by omega
      rw [e1]
      exact he'
    · have hb' : b < s.heap.objs.size := by
        rcases (show b = e ∨ b = it by simpa using hb) with rfl | rfl
        · exact hel
        · obtain ⟨_, q, _⟩ := hit
          exact Heap.lt_size q
      rw [upd_ne (Nat.ne_of_lt hb')]
      exact (hf b hb).1
  done := by
    intro X hP hw hK hc i pins s σ H E I hf st hg
    subst hP hw hK
    obtain ⟨⟨old, he⟩, hit⟩ := st
    obtain ⟨xs, hq, hx⟩ := hg
    obtain ⟨its, rv, ht, hz⟩ := I.tuple hq
    have ht' : s.heap.IsTuple a its.toArray := ht
    have hl := rv.length
    obtain ⟨f0, f1, f2, f3, f4, f5⟩ := hf it (by simp)
    have ai : a ≠ it := fun z => by
      obtain ⟨o2, h2, _, d2⟩ := hit
      obtain ⟨o1, h1, _, n1, d1⟩ := ht'
      rw [z, h2] at h1
      cases h1
      rw [d2] at d1
      cases d1
    have hn : its.toArray.size = i := by simp; omega
    refine wpAny_pyNext_enum_endD (Draws.tuple (A := X.A.in1) (I.ok.hd hc) it a ai its.toArray) he (by rw [hn]; exact ⟨hit, ht'⟩) fun h' eb => ?_
    exact ⟨rfl, I.turned (t' := s.toks) (fun b o hb q => eb b o hb q) f0 f1 f3 f4 f5⟩
  self := fun A i s Q E st h => by
    obtain ⟨⟨old, he⟩, _⟩ := st
    exact wpAny_pyIter_enum he h
def iEnumT (K : PySem.W.Frag) (ta : TA) : TI := fun σ H R => ta σ H fun vs H1 => ∃ a xs, vs = [.ref a] ∧ SqT K H1 a xs ∧ R (IteT K a) H1
theorem pi_enumT {X : Cx} {e : Expr} {ta : TA} {p pos tpos : Pos} {elts : List Expr} {kk : Nat} (hg : Gl X "enumerate") (hm : X.mg "enumerate" = none) (ha : PA X [e] ta) (hs : starEach [e] X.env = [(false, eval e X.env)] := by rfl) :
    PI X (.Tuple elts kk tpos) (.Call (.Name "enumerate" p) [e] [] pos) (iEnumT X.K ta) := by
  refine ⟨fun pins s σ H R I h => ?_⟩
  refine Call_ (ld_blt I hg hm boot_enumerate (PyProof.Rows.callWith_type1 (thn (ha.run pos pins s σ H _ I h) fun us s1 ⟨vs, H1, I1, r1, q1⟩ => ?_) hs rfl))
  obtain ⟨a, xs, rfl, hq, q⟩ := q1
  rw [Vals.ref1 r1]
  obtain ⟨its, rv, ht, hz⟩ := I1.tuple hq
  refine EnT.begins (begins_tuple a its.toArray) (show s1.heap.IsTuple a its.toArray from ht) fun h' he hit hk => wpAny_pyIter_enum he ?_
  have I2 : Inv X pins σ H1 { s1 with heap := h' } := I1.kept (t' := s1.toks) hk
  refine ⟨s1.heap.objs.size + 1, [s1.heap.objs.size + 1, s1.heap.objs.size], _, _, H1, rfl, I2, turn_enumT a (s1.heap.objs.size + 1) s1.heap.objs.size (Nat.succ_ne_self _), ⟨⟨.none, he⟩, ⟨_, hit, rfl, rfl⟩⟩, fun b hb => ?_, q⟩
  have hle : s1.heap.objs.size ≤ b := by
    rcases (show b = s1.heap.objs.size + 1 ∨ b = s1.heap.objs.size by simpa using hb) with z | z
    · rw [z]; exact Nat.le_succ _
    · rw [z]; exact Nat.le_refl _
  exact I1.fpOk hle (I1.hok.fresh hle)
theorem walk_enumT {K : PySem.W.Frag} {a : Addr} {xs : List V} : Walk (IteT K a) xs.length (fun H => SqT K H a xs) (YPair (fun i => some (.int (i : Nat))) (fun i => xs[i]?)) := by
  refine ⟨fun i _ hi q => ⟨xs, xs[i], q, by simp [hi]⟩, fun _ q => ⟨xs, q, rfl⟩, fun i H v H' _ q y => ?_⟩
  obtain ⟨T, x, h1, h2, h3, h4⟩ := y
  exact ⟨T, .int (i : Nat), x, h1, h2, h3, rfl, h4 xs q⟩
end K94
set_option Elab.async false
set_option linter.all false
set_option maxRecDepth 100000
set_option maxHeartbeats 4000000
/-! An own error over ValueError whose __init__ says super().__init__(..), with or without one field behind it. -/
namespace K94
open PySem PySem.Spec PySem.W PySem.Calls PyProof.Rows PySem.HandSPX
namespace Sup
/-- super().__init__(e) -/
abbrev supSt (e : Expr) (p0 p1 p2 p3 p4 p5 : Pos) : Stmt := .Expr (.Call (.Attribute (.Call (.Name "super" p0) [] [] p1) "__init__" p2) [e] [] p3) p4
/-- what the written part says of such a class (at C), its __init__ (at fI) -/
structure Txt (prog : Program) (K : Frag) (mg : Str → Option Value) (C fI cc : Addr) (qual : Str) (pa : Arguments) (bd : List Stmt) (sc : Scope) : Prop where
  cls : ∃ nm q N bs bm sn sub ab col dd k0 k1 k2 k3 k5, K.lookup C = some (excClassObj nm q C N bs bm true sn sub ab col dd k0 k1 k2 k3 k5 "ValueError.__new__") ∧ refsVE bm = true
  sa : findIn K (.ref C) "__setattr__" = some (some (.builtin "object.__setattr__"))
  iC : findIn K (.ref C) "__init__" = some (some (.ref fI))
  tC : typeIn K (.ref fI) = some (.type "function")
  kC : keepIn K (.ref C) = true
  exC : subIn K (.ref C) (.type "BaseException") = some true
  tyC : typeIn K (.ref C) = some (.type "type")
  noS : nsIn K cStatics "thirdparty.any" = some none
  sup : ks_superIn K C C "__init__" = some (some (.builtin "ValueError.__init__"))
  ve : subIn K (.ref C) (.type "ValueError") = some true
  own : mroIn K C (.ref C) = some true
  gS : mg "super" = none
  fn : ∃ (oc : Value) (od : Option Addr) (doc pm : Value) (an : Option Addr) (cda : Addr) (ct : Value) (osl : Array (Option Value)) (ccl : Value) (cdd : Option Addr) (vs : Array Value) (ccs : Array (Option Value)) (file : Str) (tf : Tok) (cl : Value) (cld : Option Addr) (csl : Array (Option Value)),
    K.lookup fI = some ⟨oc, od, .func (fnX "__init__" qual pa bd sc [("__class__", cc)] .none .none doc pm an (.ref cda) ct), osl⟩ ∧ codeIn K (.ref cda) qual = true ∧ K.lookup cda = some ⟨ccl, cdd, .fields vs, ccs⟩ ∧ vs[2]? = some (.str file tf) ∧ ((prog.main.file : Str) == file) = true ∧
    K.lookup cc = some ⟨cl, cld, .cell (some (.ref C)), csl⟩
/-- the signs of such an __init__: self and one more -/
structure Two (prog : Program) (pa : Arguments) (sc : Scope) (y : Str) : Prop where
  kind : sc.kind = .function
  co : sc.isCoroutine = false
  gen : sc.isGenerator = false
  nocell : ∀ x ∈ sc.names, x.2 ≠ .cell
  self : sc.names.lookup ("self" : Str) = some .local
  arg : sc.names.lookup y = some .local
  cls : sc.names.lookup ("__class__" : Str) = some .free
  sup : sc.names.lookup ("super" : Str) = some .globalImplicit
  head : ∃ a : Arg, (pa.posonlyargs ++ pa.args).head? = some a ∧ a.arg = "self"
  top : (prog.main.scope.names.lookup ("super" : Str)).isSome = false
  ne : ¬ ("self" : Str) = y
section
variable {prog : Program} {w : World} {A : Around} {E : Value → Shared → Prop} {R : Result → Shared → Prop} {s : Shared} {K : Frag} {mg mb : Str → Option Value} {C fI cc : Addr} {qual y : Str} {pa : Arguments} {bd : List Stmt} {sc : Scope}
theorem kIn_but {h h' : Heap} {x : Addr} (X : K.In h) (hx : K.lookup x = none) (k : ∀ b o, b ≠ x → h.get? b = some o → h'.get? b = some o) : K.In h' := fun a o e => by
  refine k a o (fun z => ?_) (X a o e)
  rw [z, hx] at e
  cases e
/-- the first statement: behind it the exception is an exception still, all else stands -/
theorem first (T : Txt prog K mg C fI cc qual pa bd sc) (S : Two prog pa sc y) {L x t0 cda : Addr} {fd : FuncData} {m : Str → Option Value} {e : Expr} {body : List Stmt} {p0 p1 p2 p3 p4 p5 : Pos} {Q : Flow → Shared → Prop} {env : Env}
    (X : K.In s.heap) (G : s.heap.Ns mainGlobals mg) (B : s.heap.Ns builtinsNs mb) (hb : mb "super" = some (.type "super"))
    (hx : s.heap.get? x = some (excO C t0)) (hnx : K.lookup x = none) (hxC : x ≠ C) (hm : s.heap.Ns L m) (hself : m "self" = some (.ref x)) (henv : env = envX qual sc L fI (.ref cda) [("__class__", cc)])
    (hfd : ∃ oc od osl, K.lookup fI = some ⟨oc, od, .func fd, osl⟩) (hpa : fd.params = pa)
    (hcda : ∃ (ccl : Value) (cdd : Option Addr) (vs : Array Value) (ccs : Array (Option Value)) (file : Str) (tf : Tok), K.lookup cda = some ⟨ccl, cdd, .fields vs, ccs⟩ ∧ vs[2]? = some (.str file tf) ∧ ((prog.main.file : Str) == file) = true)
    (hcc : ∃ cl cld csl, K.lookup cc = some ⟨cl, cld, .cell (some (.ref C)), csl⟩)
    (hint : interactive env = false) (hmc : ∃ pl : Sem Bool, eval (.Call (.Attribute (.Call (.Name "super" p0) [] [] p1) "__init__" p2) [e] [] p3) env = (do
      let ov ← attributeBase (.Call (.Name "super" p0) [] [] p1) "__init__" env (eval (.Call (.Name "super" p0) [] [] p1) env)
      standAt p2.atName
      let (f, first) ← holding [ov] (getMethod ov "__init__" pl)
      callWith p3 f first (backTo p3 (starEach [e] env)) []))
    (hst : starEach [e] env = [(false, eval e env)])
    (he : ∀ (s' : Shared) (Q' : Value → Shared → Prop), s'.heap.Ns L m → (∀ u t, Q' u { s' with toks := t }) → wpAny (model prog w) A (eval e env) Q' E s')
    (hq : ∀ h' tk t1, (∀ b o, b ≠ x → s.heap.get? b = some o → h'.get? b = some o) → h'.get? x = some (excO C t1) → Q .next { s with heap := h', toks := tk }) :
    PySem.wpAt (model prog w) A (.func body env) (exec (supSt e p0 p1 p2 p3 p4 p5) env) Q E s := by
  subst henv
  obtain ⟨nm, q, N, bs, bm, sn, sub, ab, col, dd, k0, k1, k2, k3, k5, hC, hbm⟩ := T.cls
  obtain ⟨oc, od, osl, hf⟩ := hfd
  obtain ⟨ccl, cdd, vs, ccs, file, tf, hcode, hvs, hfile⟩ := hcda
  obtain ⟨cl, cld, csl, hcell⟩ := hcc
  obtain ⟨ar, har, harn⟩ := S.head
  have hcl : clsIn K C = some { name := nm, bases := bs, mro := .ref C :: bm, ns := N, qualname := q, hasDict := true, slotNames := sn, subclasses := sub, abstract := ab, collection := col, hasDel := false } := by unfold clsIn; rw [hC] <;> rfl
  have I : InstAt s.heap x (excO C t0) C none := ⟨hx, rfl, rfl, trivial⟩
  obtain ⟨hh, g, d, t, os⟩ := s
  have hC1 := X _ _ hC
  obtain ⟨pl, hmc⟩ := hmc
  refine ks_wpAt_Expr_any (hi := hint) (ks_wpAt_MethodCall (he := hmc) ?_)
  refine ks_wpAt_super_base (env := envX qual sc L fI (.ref cda) [("__class__", cc)]) S.sup S.cls (by decide +kernel) rfl (X _ _ hf) rfl (by rw [hpa]; exact har) rfl (X _ _ hcode) rfl hvs hfile S.top ?_
  refine ks_loadName_global S.kind S.sup (loadGlobal_builtin (env := envX qual sc L fI (.ref cda) [("__class__", cc)]) G T.gS B hb ⟨rfl, ?_⟩)
  refine wpAny_loadName_free S.kind S.cls rfl ⟨_, X _ _ hcell, rfl⟩ ?_
  rw [harn]
  refine wpAny_loadName_local S.kind S.self hm hself ?_
  refine ks_wpAny_isType_cls hC1 rfl ⟨rfl, ?_⟩
  refine ks_wpAny_call_super hC1 rfl hx rfl (fun c z => nomatch z) (looks_mroIn X T.own) fun h1 es k1 => ?_
  have X1 : K.In h1 := X.keeps k1
  have I1 : InstAt h1 x (excO C t0) C none := ⟨k1 _ _ hx, rfl, rfl, trivial⟩
  have hsup := T.sup
  unfold ks_superIn at hsup
  rw [hcl] at hsup
  refine kxs_getMethod kxs_ValueError es (looks_opaque X1 T.noS) (l₀ := .ref C :: bm) (fun A Q E s k q => wpAny_bind ((looks_clsIn X1 hcl) A _ E s k (wpAny_pure q))) rfl X1 hsup (I1.type.andThen (looks_subIn X1 T.ve)) hxC (by decide +kernel) ?_
  have k2 : ∀ b o, hh.get? b = some o → (h1.push (kxs_mw "ValueError.__init__" x)).get? b = some o := fun b o z => Heap.get?_push_of_some _ (k1 b o z)
  have hu : (h1.push (kxs_mw "ValueError.__init__" x)).get? h1.objs.size = some (kxs_mw "ValueError.__init__" x) := Heap.get?_push_size _ rfl
  have hm2 : (h1.push (kxs_mw "ValueError.__init__" x)).Ns L m := by
    obtain ⟨o, a1, a2, a3, r⟩ := hm
    exact ⟨o, a1, a2, k2 _ _ a3, r⟩
  generalize h1.push (kxs_mw "ValueError.__init__" x) = h2 at k2 hu hm2
  generalize h1.objs.size = u at hu
  rw [hst]
  refine kxs_callWith (i := "ValueError.__init__") (x := x) rfl (evalArgs_plain (Calls.spliced_cons (he _ _ hm2 fun v tt => Calls.spliced_nil ⟨hu, ?_⟩)))
  -- the wrapper is called
  refine wpAny_call (codeAny_of_tree ?_)
  show wpAny _ A.in1 (callAny (.ref u) ⟨[v], []⟩) _ _ _
  simp only [callAny]
  refine wpAny_bind (wpAny_load hu ?_)
  simp only [kxs_mw, show (Value.type "method-wrapper" == Value.type "method" || Value.type "method-wrapper" == Value.type "builtin_function_or_method" || Value.type "method-wrapper" == Value.type "method-wrapper") = true by decide, if_true]
  refine KFB.if_so (by decide) ?_
  refine wpAny_bind (check_bound_init F.excBase_ValueError.toExcCallFacts (k2 _ _ hC1) (k2 _ _ hx) rfl ?_)
  refine wpAny_bind (wpAny_pure (wpAny_pure ?_))
  refine ⟨plainId_quiet F.excBase_ValueError.init.plain _, codeAny_builtin F.excBase_ValueError.initEntry ?_⟩
  rw [Around.under_plainId F.excBase_ValueError.init.plain _]
  refine exc_init_tree (cls := .ref C) (t0 := t0) (dv := none) (c2 := .none) (c3 := .none) (b4 := .bool false) (k2 _ _ hx) (by show 1 ≤ sizeLine; decide) fun h3 k3 e3 _ => ?_
  exact hq h3 _ _ (fun b o hb z => k3 b o hb (k2 b o z)) e3
/-- the call of __init__ with one statement -/
theorem init0 {x t0 : Addr} {v : Value} {p0 p1 p2 p3 p4 p5 p6 : Pos} (T : Txt prog K mg C fI cc qual pa [supSt (.Name y p6) p0 p1 p2 p3 p4 p5] sc) (S : Two prog pa sc y) (X : K.In s.heap) (hlim : s.heap.NoLimit) (G : s.heap.Ns mainGlobals mg) (B : s.heap.Ns builtinsNs mb) (hb : mb "super" = some (.type "super"))
    (hx : s.heap.get? x = some (excO C t0)) (hnx : K.lookup x = none) (hroom : A.depth < recursionLimit) (hdb : (y == ("__debug__" : Str)) = false)
    (hbind : ∀ (s : Shared) (doc pm : Value) (an : Option Addr) (cdv ct : Value), BindsTo s (fnX "__init__" qual pa [supSt (.Name y p6) p0 p1 p2 p3 p4 p5] sc [("__class__", cc)] .none .none doc pm an cdv ct) ⟨[.ref x, v], []⟩ [("self", .ref x), (y, v)])
    (hmc : ∀ env : Env, interactive env = false → ∃ pl : Sem Bool, eval (.Call (.Attribute (.Call (.Name "super" p0) [] [] p1) "__init__" p2) [.Name y p6] [] p3) env = (do
      let ov ← attributeBase (.Call (.Name "super" p0) [] [] p1) "__init__" env (eval (.Call (.Name "super" p0) [] [] p1) env)
      standAt p2.atName
      let (f, first) ← holding [ov] (getMethod ov "__init__" pl)
      callWith p3 f first (backTo p3 (starEach [.Name y p6] env)) []))
    (hq : ∀ h' tk t1, (∀ b o, b ≠ x → s.heap.get? b = some o → h'.get? b = some o) → h'.get? x = some (excO C t1) → R (.ok (.ret .none)) { s with heap := h', toks := tk }) :
    codeAny (model prog w) A (.call (.ref fI) ⟨[.ref x, v], []⟩) R s := by
  obtain ⟨oc, od, doc, pm, an, cda, ct, osl, ccl, cdd, vs, ccs, file, tf, cl, cld, csl, ho, hcd, hcda, hvs, hfile, hcc⟩ := T.fn
  have hxC : x ≠ C := fun z => by
    obtain ⟨nm, q, N, bs, bm, sn, sub, ab, col, dd, k0, k1, k2, k3, k5, hC, hbm⟩ := T.cls
    rw [z, hC] at hnx
    cases hnx
  have hloc : ∀ z ∈ [(("self" : Str), Value.ref x), (y, v)], sc.names.lookup z.1 = some .local := by
    intro z hz
    rcases List.mem_cons.mp hz with rfl | hz
    · exact S.self
    · rw [List.mem_singleton.mp hz]
      exact S.arg
  have hint : interactive (envX qual sc s.heap.objs.size fI (.ref cda) [("__class__", cc)]) = false := by
    unfold interactive
    rw [S.kind]
    rfl
  refine ks_codeAny_call_defAt (fd := fnX "__init__" qual pa [supSt (.Name y p6) p0 p1 p2 p3 p4 p5] sc [("__class__", cc)] .none .none doc pm an (.ref cda) ct) (body := [supSt (.Name y p6) p0 p1 p2 p3 p4 p5]) (binds := [("self", .ref x), (y, v)]) hroom (X _ _ ho) rfl hlim
    (codeRec_of X hcd) rfl (hbind s doc pm an (.ref cda) ct) S.nocell hloc (fun h0 hns hk0 => ?_) S.co S.gen S.kind
  have m1 : (fun z => [(("self" : Str), Value.ref x), (y, v)].reverse.lookup z) "self" = some (.ref x) := by
    have : (("self" : Str) == y) = false := by simpa using S.ne
    simp [List.lookup, this]
  have m2 : (fun z => [(("self" : Str), Value.ref x), (y, v)].reverse.lookup z) y = some v := by simp [List.lookup]
  refine ks_wpAt_execs_cons ?_
  refine first (s := { s with heap := h0, toks := s.toks + [(("self" : Str), Value.ref x), (y, v)].length }) T S (X.keeps hk0) (G.at fun o z => hk0 _ _ z) (B.at fun o z => hk0 _ _ z) hb (hk0 _ _ hx) hnx hxC hns m1 rfl ⟨_, _, _, ho⟩ rfl ⟨_, _, _, _, _, _, hcda, hvs, hfile⟩ ⟨_, _, _, hcc⟩ hint (hmc _ hint) rfl
    (fun s' Q' hn hQ => wpAny_Name (wpAny_loadName_local S.kind S.arg hn m2 (hQ v s'.toks)) hdb) fun h' tk t1 k1 e1 => ?_
  exact wpAt_of_wpAny (wpAny_execs_nil (hq h' tk t1 (fun b o hb z => k1 b o hb (hk0 b o z)) e1))
/-- what a one-field __init__ leaves of a fresh exception at x -/
structure InitEnd (h h' : Heap) (x C dx t1 : Addr) (f : Str) (v : Value) : Prop where
  keep : ∀ b o, b ≠ x → h.get? b = some o → h'.get? b = some o
  obj : h'.get? x = some { cls := .ref C, dict := some dx, data := .fields #[.ref t1, .none, .none, .none, .bool false, .none] }
  dbig : h.objs.size ≤ dx
  dne : dx ≠ x
  ns : h'.Ns1 dx (fun y => if y = f then some v else none)
abbrev bodyF (z : Str) (j : Nat) (y f : Str) (p0 p1 p2 p3 p4 p5 p6 q1 q2 q3 q4 : Pos) : List Stmt := [supSt (.Constant (.str z) j p6) p0 p1 p2 p3 p4 p5, .Assign [.Attribute (.Name "self" q1) f q2] (.Name y q3) q4]
/-- the call of __init__ with a field behind -/
theorem init1 {x t0 : Addr} {v : Value} {z f : Str} {j : Nat} {p0 p1 p2 p3 p4 p5 p6 q1 q2 q3 q4 : Pos} (T : Txt prog K mg C fI cc qual pa (bodyF z j y f p0 p1 p2 p3 p4 p5 p6 q1 q2 q3 q4) sc) (noF : findIn K (.ref C) f = some none) (S : Two prog pa sc y) (X : K.In s.heap) (hlim : s.heap.NoLimit) (G : s.heap.Ns mainGlobals mg)
    (B : s.heap.Ns builtinsNs mb) (hb : mb "super" = some (.type "super"))
    (hx : s.heap.get? x = some (excO C t0)) (hnx : K.lookup x = none) (hroom : A.depth < recursionLimit) (hdb : (y == ("__debug__" : Str)) = false)
    (hbind : ∀ (s : Shared) (doc pm : Value) (an : Option Addr) (cdv ct : Value), BindsTo s (fnX "__init__" qual pa (bodyF z j y f p0 p1 p2 p3 p4 p5 p6 q1 q2 q3 q4) sc [("__class__", cc)] .none .none doc pm an cdv ct) ⟨[.ref x, v], []⟩ [("self", .ref x), (y, v)])
    (hmc : ∀ env : Env, interactive env = false → ∃ pl : Sem Bool, eval (.Call (.Attribute (.Call (.Name "super" p0) [] [] p1) "__init__" p2) [.Constant (.str z) j p6] [] p3) env = (do
      let ov ← attributeBase (.Call (.Name "super" p0) [] [] p1) "__init__" env (eval (.Call (.Name "super" p0) [] [] p1) env)
      standAt p2.atName
      let (f, first) ← holding [ov] (getMethod ov "__init__" pl)
      callWith p3 f first (backTo p3 (starEach [.Constant (.str z) j p6] env)) []))
    (hq : ∀ h' tk dx t1, InitEnd s.heap h' x C dx t1 f v → R (.ok (.ret .none)) { s with heap := h', toks := tk }) :
    codeAny (model prog w) A (.call (.ref fI) ⟨[.ref x, v], []⟩) R s := by
  obtain ⟨oc, od, doc, pm, an, cda, ct, osl, ccl, cdd, vs, ccs, file, tf, cl, cld, csl, ho, hcd, hcda, hvs, hfile, hcc⟩ := T.fn
  obtain ⟨nm, q, N, bs, bm, sn, sub, ab, col, dd, k0, k1, k2, k3, k5, hC, hbm⟩ := id T.cls
  have hcl : clsIn K C = some { name := nm, bases := bs, mro := .ref C :: bm, ns := N, qualname := q, hasDict := true, slotNames := sn, subclasses := sub, abstract := ab, collection := col, hasDel := false } := by unfold clsIn; rw [hC] <;> rfl
  have hxC : x ≠ C := fun e => by
    rw [e, hC] at hnx
    cases hnx
  have hloc : ∀ z ∈ [(("self" : Str), Value.ref x), (y, v)], sc.names.lookup z.1 = some .local := by
    intro z hz
    rcases List.mem_cons.mp hz with rfl | hz
    · exact S.self
    · rw [List.mem_singleton.mp hz]
      exact S.arg
  have hint : interactive (envX qual sc s.heap.objs.size fI (.ref cda) [("__class__", cc)]) = false := by
    unfold interactive
    rw [S.kind]
    rfl
  refine ks_codeAny_call_defAt (fd := fnX "__init__" qual pa (bodyF z j y f p0 p1 p2 p3 p4 p5 p6 q1 q2 q3 q4) sc [("__class__", cc)] .none .none doc pm an (.ref cda) ct) (body := bodyF z j y f p0 p1 p2 p3 p4 p5 p6 q1 q2 q3 q4) (binds := [("self", .ref x), (y, v)]) hroom (X _ _ ho) rfl hlim
    (codeRec_of X hcd) rfl (hbind s doc pm an (.ref cda) ct) S.nocell hloc (fun h0 hns hk0 => ?_) S.co S.gen S.kind
  have m1 : (fun z => [(("self" : Str), Value.ref x), (y, v)].reverse.lookup z) "self" = some (.ref x) := by
    have : (("self" : Str) == y) = false := by simpa using S.ne
    simp [List.lookup, this]
  have m2 : (fun z => [(("self" : Str), Value.ref x), (y, v)].reverse.lookup z) y = some v := by simp [List.lookup]
  have hxL : s.heap.objs.size ≠ x := Nat.ne_of_gt (Heap.lt_size hx)
  refine ks_wpAt_execs_cons ?_
  refine first (s := { s with heap := h0, toks := s.toks + [(("self" : Str), Value.ref x), (y, v)].length }) T S (X.keeps hk0) (G.at fun o z => hk0 _ _ z) (B.at fun o z => hk0 _ _ z) hb (hk0 _ _ hx) hnx hxC hns m1 rfl ⟨_, _, _, ho⟩ rfl ⟨_, _, _, _, _, _, hcda, hvs, hfile⟩ ⟨_, _, _, hcc⟩ hint (hmc _ hint) rfl
    (fun s' Q' hn hQ => Calls.Constant_str (hQ _ _)) fun h1 tk t1 kk e1 => ?_
  refine wpAt_of_wpAny (wpAny_execs_cons (plainObj_wpAny_Assign_Attribute ?_))
  have hn1 : h1.Ns s.heap.objs.size (fun z => [(("self" : Str), Value.ref x), (y, v)].reverse.lookup z) := hns.at fun o z => kk _ _ hxL z
  refine wpAny_Name (wpAny_loadName_local S.kind S.arg hn1 m2 ?_) hdb
  refine wpAny_Name (wpAny_loadName_local S.kind S.self hn1 m1 ?_) (by decide +kernel)
  have X1 : K.In h1 := kIn_but X hnx fun b o hb z => kk b o hb (hk0 b o z)
  refine set_plain X1 (ox := excO C t1) (od := none) ⟨e1, rfl, rfl, trivial⟩ T.sa ?_
  refine exc_osa X1 e1 hcl (show refsVE (.ref C :: bm) = true from hbm) rfl noF (fun h3 tk3 dx k3 dn dne hx3 hn3 => ?_)
  have zl : s.heap.objs.size < h1.objs.size := hn1.lt
  exact wpAny_execs_nil (hq h3 tk3 dx t1 ⟨fun b o hb z => k3 b o hb (kk b o hb (hk0 b o z)), hx3, Nat.le_of_lt (Nat.lt_of_lt_of_le zl dn), dne, hn3⟩)
/-- C(v): behind it the exception e stands, new, and all that stood -/
theorem made {v : Value} (T : Txt prog K mg C fI cc qual pa bd sc) (X : K.In s.heap) {M : Heap → Addr → Prop}
    (hin : ∀ (A' : Around) (s' : Shared) (x t0 : Addr) (R' : Result → Shared → Prop), A'.depth < recursionLimit → K.In s'.heap → (∀ b o, s.heap.get? b = some o → s'.heap.get? b = some o) → s.heap.objs.size < x → s'.heap.get? x = some (excO C t0) → K.lookup x = none →
      (∀ h' tk, (∀ b o, b ≠ x → s'.heap.get? b = some o → h'.get? b = some o) → M h' x → R' (.ok (.ret .none)) { s' with heap := h', toks := tk }) → codeAny (model prog w) A' (.call (.ref fI) ⟨[.ref x, v], []⟩) R' s')
    (hroom : A.depth + 1 < recursionLimit)
    (hq : ∀ h' tk e, (∀ b o, s.heap.get? b = some o → h'.get? b = some o) → s.heap.objs.size ≤ e → M h' e → R (.ok (.ret (.ref e))) { s with heap := h', toks := tk }) :
    codeAny (model prog w) A (.call (.ref C) ⟨[v], []⟩) R s := by
  obtain ⟨nm, q, N, bs, bm, sn, sub, ab, col, dd, k0, k1, k2, k3, k5, hC, hbm⟩ := T.cls
  obtain ⟨hp, g, dr, tk, os⟩ := s
  have k : ∀ b o, hp.get? b = some o → ((hp.push (kdv_tup [v])).push (excO C hp.objs.size)).get? b = some o := fun b o e => Heap.get?_push_of_some _ (Heap.get?_push_of_some _ e)
  have hget : ((hp.push (kdv_tup [v])).push (excO C hp.objs.size)).get? (hp.objs.size + 1) = some (excO C hp.objs.size) := by heap_get
  have hnx : K.lookup (hp.objs.size + 1) = none := by
    cases e : K.lookup (hp.objs.size + 1) with
    | none => rfl
    | some o =>
      have z : hp.get? (hp.objs.size + 1) = some o := X _ _ e
      exact absurd (Nat.lt_of_succ_lt (Heap.lt_size z)) (Nat.lt_irrefl _)
  refine call_own F.excBase_ValueError (fun Y => refsVE_contains Y bm hbm) (X _ _ hC) (looks_findIn X T.iC) (fun self => bind_fn X self T.tC) (by show 1 ≤ sizeLine; decide) ?_
  refine hin _ ⟨(hp.push (kdv_tup [v])).push (excO C hp.objs.size), g, dr, tk, os⟩ (hp.objs.size + 1) hp.objs.size _ hroom (X.keeps k) k (Nat.lt_succ_self _) hget hnx fun h' tk' k' m => ?_
  exact ⟨rfl, hq h' tk' (hp.objs.size + 1) (fun b o e => k' b o (Nat.ne_of_lt (Nat.lt_succ_of_lt (Heap.lt_size e))) (k b o e)) (Nat.le_succ _) m⟩
end
end Sup
end K94

namespace K94
open PySem PySem.Spec PyProof.Rows L2
theorem relO_one {f : Str} {v : V} {v' : Value} (r : RelV v v') (g : Str) : RelO (List.lookup g [(f, v)]) (if g = f then some v' else none) := by
  by_cases hw : g = f
  · subst hw
    rw [if_pos rfl]
    have q : List.lookup g [(g, v)] = some v := by simp [List.lookup]
    rw [q]
    exact r
  · rw [if_neg hw]
    have qw : (g == f) = false := by simpa using hw
    have q2 : List.lookup g [(f, v)] = none := by simp [List.lookup, qw]
    rw [q2]
    trivial
section
variable {X : Cx} {C fI cc : Addr} {qual y x : Str} {pa : Arguments} {sc : Scope}
/-- an error made with one argument, kept in a field -/
def tMk1 (C : Addr) (f : Str) (ta : TA) : L2.St → Hp → XK → Prop := fun σ H Q => ta σ H fun vs H1 => ∃ v, vs = [v] ∧ ∀ d, H1 d = none → Q (.ref C) (some d) (upd H1 d (.xd [(f, v)]))
/-- an error made with one argument, no field -/
def tMk0 (C : Addr) (ta : TA) : L2.St → Hp → XK → Prop := fun σ H Q => ta σ H fun vs H1 => ∃ v, vs = [v] ∧ Q (.ref C) none H1
theorem pmk_zero {a : Expr} {ta : TA} {p pos : Pos} {k : Nat} {p0 p1 p2 p3 p4 p5 p6 : Pos} (T : Sup.Txt X.prog X.K X.mg C fI cc qual pa [Sup.supSt (.Name y p6) p0 p1 p2 p3 p4 p5] sc) (S : Sup.Two X.prog pa sc y) (hr : Room k X.A) (hC : X.mg x = some (.ref C)) (ha : PA X [a] ta)
    (hdb : (y == ("__debug__" : Str)) = false)
    (hbind : ∀ (u v : Value) (s : Shared) (doc pm : Value) (an : Option Addr) (cdv ct : Value), BindsTo s (PySem.W.fnX "__init__" qual pa [Sup.supSt (.Name y p6) p0 p1 p2 p3 p4 p5] sc [("__class__", cc)] .none .none doc pm an cdv ct) ⟨[u, v], []⟩ [("self", u), (y, v)])
    (hmc : ∀ env : Env, interactive env = false → ∃ pl : Sem Bool, eval (.Call (.Attribute (.Call (.Name "super" p0) [] [] p1) "__init__" p2) [.Name y p6] [] p3) env = (do
      let ov ← attributeBase (.Call (.Name "super" p0) [] [] p1) "__init__" env (eval (.Call (.Name "super" p0) [] [] p1) env)
      standAt p2.atName
      let (f, first) ← holding [ov] (getMethod ov "__init__" pl)
      callWith p3 f first (backTo p3 (starEach [.Name y p6] env)) []))
    (hg : Gl X x) (hdx : (x == ("__debug__" : Str)) = false := by decide)
    (he : starEach (a :: []) X.env = (false, eval a X.env) :: starEach [] X.env := by rfl) (hpl : (backTo pos (starEach [] X.env)).any (·.1) = false := by rfl) :
    PMk X (.Call (.Name x p) [a] [] pos) (tMk0 C ta) := by
  intro pins s σ H Q I h
  refine wpAny_Call_Name_kw (ld_glob I hg hC ?_ hdx)
  refine PySem.W.callWith_K (h₀ := X.base) I.ok.mod.kin T.kC (thn (ha.run pos pins s σ H _ I h) fun us s1 hh => ?_) he hpl
  obtain ⟨vs, H1, I1, r1, v, rfl, q1⟩ := hh
  obtain ⟨v', rfl, rv⟩ := vals1 r1
  refine ⟨I1.kIn, ?_⟩
  show wpAny _ _ (call (.ref C) [v']) _ _ _
  obtain ⟨mb, hB, hbb⟩ := I1.mod.blt
  have hG := I1.mod.glob.keeps I1.bk
  have hB1 := hB.keeps I1.bk
  have hlim := I1.nolimit
  have hsup : mb "super" = some (.type "super") := (hbb _ (by decide +kernel)).trans (by first | boot_by_name | rfl | kernel_rfl)
  obtain ⟨hp, g, dr, tk, os⟩ := s1
  refine wpAny_call (Sup.made (M := fun h' e => ∃ t1, h'.get? e = some (PySem.HandSPX.excO C t1)) T I1.kIn (fun A' s' e t0 R' hro hK hk hlt hx hnx hq => ?_) (by have := hr.dp; omega) fun h' tk' e hk hle m => ?_)
  · exact Sup.init0 T S hK (hlim.keeps hk) (hG.at fun o z => hk _ _ z) (hB1.at fun o z => hk _ _ z) hsup hx hnx hro hdb (hbind _ _) hmc fun h' tk t1 k1 e1 => hq h' tk k1 ⟨t1, e1⟩
  · obtain ⟨t1, hoe⟩ := m
    show MkP X pins σ Q (.ref e) ⟨h', g, dr, tk', os⟩
    obtain ⟨G', g1, g2⟩ := restrict h' fun b => decide (b ≠ e)
    have gk : ∀ b, b ≠ e → G'.get? b = h'.get? b := fun b hb => g1 b (decide_eq_true hb)
    have ge : G'.get? e = none := g2 e (by simp)
    have old : ∀ b o, hp.get? b = some o → G'.get? b = some o := fun b o q => (gk b (Nat.ne_of_lt (Nat.lt_of_lt_of_le (Heap.lt_size q) hle))).trans (hk b o q)
    have J : Inv X pins σ H1 ⟨G', g, dr, tk', os⟩ := I1.kept (t' := tk') old
    refine ⟨e, _, _, ⟨G', g, dr, tk', os⟩, _, .ref C, none, rfl, J, fun b o q => ?_, ge, hoe, ⟨rfl, rfl⟩, rfl, rfl, I1.hok.fresh hle, rfl, I1.bare, raises_own T.exC T.tyC, q1⟩
    by_cases hb : b = e
    · have q' : G'.get? b = some o := q
      rw [hb, ge] at q'
      cases q'
    · exact (gk b hb).symm.trans q
theorem pmk_one {a : Expr} {ta : TA} {p pos : Pos} {k : Nat} {z f : Str} {j : Nat} {p0 p1 p2 p3 p4 p5 p6 q1 q2 q3 q4 : Pos} (T : Sup.Txt X.prog X.K X.mg C fI cc qual pa (Sup.bodyF z j y f p0 p1 p2 p3 p4 p5 p6 q1 q2 q3 q4) sc) (noF : PySem.W.findIn X.K (.ref C) f = some none) (S : Sup.Two X.prog pa sc y) (hr : Room k X.A) (hC : X.mg x = some (.ref C)) (ha : PA X [a] ta)
    (hdb : (y == ("__debug__" : Str)) = false)
    (hbind : ∀ (u v : Value) (s : Shared) (doc pm : Value) (an : Option Addr) (cdv ct : Value), BindsTo s (PySem.W.fnX "__init__" qual pa (Sup.bodyF z j y f p0 p1 p2 p3 p4 p5 p6 q1 q2 q3 q4) sc [("__class__", cc)] .none .none doc pm an cdv ct) ⟨[u, v], []⟩ [("self", u), (y, v)])
    (hmc : ∀ env : Env, interactive env = false → ∃ pl : Sem Bool, eval (.Call (.Attribute (.Call (.Name "super" p0) [] [] p1) "__init__" p2) [.Constant (.str z) j p6] [] p3) env = (do
      let ov ← attributeBase (.Call (.Name "super" p0) [] [] p1) "__init__" env (eval (.Call (.Name "super" p0) [] [] p1) env)
      standAt p2.atName
      let (f, first) ← holding [ov] (getMethod ov "__init__" pl)
      callWith p3 f first (backTo p3 (starEach [.Constant (.str z) j p6] env)) []))
    (hg : Gl X x) (hdx : (x == ("__debug__" : Str)) = false := by decide)
    (he : starEach (a :: []) X.env = (false, eval a X.env) :: starEach [] X.env := by rfl) (hpl : (backTo pos (starEach [] X.env)).any (·.1) = false := by rfl) :
    PMk X (.Call (.Name x p) [a] [] pos) (tMk1 C f ta) := by
  intro pins s σ H Q I h
  refine wpAny_Call_Name_kw (ld_glob I hg hC ?_ hdx)
  refine PySem.W.callWith_K (h₀ := X.base) I.ok.mod.kin T.kC (thn (ha.run pos pins s σ H _ I h) fun us s1 hh => ?_) he hpl
  obtain ⟨vs, H1, I1, r1, v, rfl, q1⟩ := hh
  obtain ⟨v', rfl, rv⟩ := vals1 r1
  refine ⟨I1.kIn, ?_⟩
  show wpAny _ _ (call (.ref C) [v']) _ _ _
  obtain ⟨mb, hB, hbb⟩ := I1.mod.blt
  have hG := I1.mod.glob.keeps I1.bk
  have hB1 := hB.keeps I1.bk
  have hlim := I1.nolimit
  have hsup : mb "super" = some (.type "super") := (hbb _ (by decide +kernel)).trans (by first | boot_by_name | rfl | kernel_rfl)
  obtain ⟨hp, g, dr, tk, os⟩ := s1
  refine wpAny_call (Sup.made (M := fun h' e => ∃ dx t1, hp.objs.size ≤ dx ∧ dx ≠ e ∧ h'.get? e = some { cls := .ref C, dict := some dx, data := .fields #[.ref t1, .none, .none, .none, .bool false, .none] } ∧ h'.Ns1 dx (fun y => if y = f then some v' else none)) T I1.kIn
    (fun A' s' e t0 R' hro hK hk hlt hx hnx hq => ?_) (by have := hr.dp; omega) fun h' tk' e hk hle m => ?_)
  · refine Sup.init1 T noF S hK (hlim.keeps hk) (hG.at fun o z => hk _ _ z) (hB1.at fun o z => hk _ _ z) hsup hx hnx hro hdb (hbind _ _) hmc fun h' tk dx t1 M => hq h' tk M.keep ⟨dx, t1, ?_, M.dne, M.obj, M.ns⟩
    exact Nat.le_trans (Nat.le_of_lt (Nat.lt_trans hlt (Heap.lt_size hx))) M.dbig
  · obtain ⟨d, t1, dbig, dne, hoe, hns⟩ := m
    show MkP X pins σ Q (.ref e) ⟨h', g, dr, tk', os⟩
    obtain ⟨G', g1, g2⟩ := restrict h' fun b => decide (b ≠ e)
    have gk : ∀ b, b ≠ e → G'.get? b = h'.get? b := fun b hb => g1 b (decide_eq_true hb)
    have ge : G'.get? e = none := g2 e (by simp)
    have old : ∀ b o, hp.get? b = some o → G'.get? b = some o := fun b o q => (gk b (Nat.ne_of_lt (Nat.lt_of_lt_of_le (Heap.lt_size q) hle))).trans (hk b o q)
    have ob : ObjOk X.prog X.w (upd H1 d (.xd [(f, v)])) G' d (.xd [(f, v)]) := ⟨_, hns.at (fun o q => (gk d dne).trans q), fun f => relO_one rv f⟩
    have J : Inv X pins σ (upd H1 d (.xd [(f, v)])) ⟨G', g, dr, tk', os⟩ := I1.laid (t' := tk') old dbig ob
    refine ⟨e, _, _, ⟨G', g, dr, tk', os⟩, _, .ref C, some d, rfl, J, fun b o q => ?_, ge, hoe, ⟨rfl, rfl⟩, rfl, rfl, ?_, rfl, I1.bare, raises_own T.exC T.tyC, q1 d (I1.hok.fresh dbig)⟩
    · by_cases hb : b = e
      · have q' : G'.get? b = some o := q
        rw [hb, ge] at q'
        cases q'
      · exact (gk b hb).symm.trans q
    · rw [upd_ne (Ne.symm dne)]
      exact I1.hok.fresh hle
end
end K94
set_option Elab.async false
set_option linter.all false
set_option maxRecDepth 100000
set_option maxHeartbeats 2000000
/-! try .. except (A, B, ..): suite. -/
namespace K94
open PySem PySem.Spec PyProof.Rows L2
section
open PySem.W
variable {M : Model} {K : Frag} {h : Heap} {cls : Value}
theorem loop_all {f : Value → PUnit → Sem (ForInStep PUnit)} (hf : ∀ c bc, exmOne K cls c = some bc → ∀ (A : Around) (Q : ForInStep PUnit → Shared → Prop) (E : Value → Shared → Prop) (s : Shared), (∀ b o, h.get? b = some o → s.heap.get? b = some o) → Q (.yield ⟨⟩) s → wpAny M A (f c ⟨⟩) Q E s) :
    ∀ {cs : List Value} {b : Bool}, exmAny K cls cs = some b → ∀ (A : Around) (Q : PUnit → Shared → Prop) (E : Value → Shared → Prop) (s : Shared), (∀ b o, h.get? b = some o → s.heap.get? b = some o) → Q ⟨⟩ s → wpAny M A (forIn cs (⟨⟩ : PUnit) f) Q E s
  | [], _, _, A, Q, E, s, k, q => by
    rw [List.forIn_nil]
    exact wpAny_pure q
  | c :: cs, b, hx, A, Q, E, s, k, q => by
    obtain ⟨b1, d1, x1, y1, z1⟩ := exmAny_cons hx
    rw [List.forIn_cons]
    refine wpAny_bind (hf c b1 x1 A _ E s k ?_)
    exact loop_all hf y1 A Q E s k q
theorem loop_find {β : Type} {f : Value → β → Sem (ForInStep β)} {i r : β} (hf : ∀ c bc, exmOne K cls c = some bc → ∀ (A : Around) (Q : ForInStep β → Shared → Prop) (E : Value → Shared → Prop) (s : Shared), (∀ b o, h.get? b = some o → s.heap.get? b = some o) → Q (if bc = true then .done r else .yield i) s → wpAny M A (f c i) Q E s) :
    ∀ {cs : List Value} {b : Bool}, exmAny K cls cs = some b → ∀ (A : Around) (Q : β → Shared → Prop) (E : Value → Shared → Prop) (s : Shared), (∀ b o, h.get? b = some o → s.heap.get? b = some o) → Q (if b = true then r else i) s → wpAny M A (forIn cs i f) Q E s
  | [], b, hx, A, Q, E, s, k, q => by
    have e : some false = some b := hx
    cases e
    rw [List.forIn_nil]
    exact wpAny_pure q
  | c :: cs, b, hx, A, Q, E, s, k, q => by
    obtain ⟨b1, d1, x1, y1, z1⟩ := exmAny_cons hx
    rw [List.forIn_cons]
    refine wpAny_bind (hf c b1 x1 A _ E s k ?_)
    subst z1
    cases b1 with
    | true => exact wpAny_pure q
    | false => exact loop_find hf y1 A Q E s k q
theorem exm_tup {cs : List Value} {tp e : Addr} {b : Bool} {n : Nat} (X : K.In h) (LT : Looks M h (typeOf (.ref e)) cls) (hp : ∃ o, h.get? tp = some o ∧ o.cls = .type "tuple" ∧ o.data = .seq cs.toArray n) (hx : exmAny K cls cs = some b) :
    Looks M h (excMatches (.ref e) (.ref tp)) b := by
  intro A Q E s k₀ q
  obtain ⟨o, hp, hc, hd⟩ := hp
  obtain ⟨oc, od, dt, sl⟩ := o
  simp only at hc hd
  subst hc hd
  obtain ⟨hh, g, d, tk, os⟩ := s
  have k : ∀ b o, h.get? b = some o → hh.get? b = some o := k₀
  have LT0 : Looks M h (isInstance (.ref tp) (.type "tuple")) true := ((Looks.ld hp).andThen .now).andThen (Looks.of_pure isSubtype_tuple_tuple)
  unfold excMatches
  refine wpAny_bind ((LT0.keeps k).at ?_)
  dsimp only
  rw [if_pos rfl]
  first
    | refine wpAny_bind (wpAny_seqItems (k _ _ hp) rfl ?_)
    | refine wpAny_bind (wpAny_bind (wpAny_seqItems (k _ _ hp) rfl (wpAny_pure ?_)))
  dsimp only [Option.getD_some, Option.getD]
  refine wpAny_bind (wpAny_pure ?_)
  refine wpAny_bind (loop_all (h := h) (cls := cls) (K := K) (fun c bc e A Q E s k q => ?_) hx A _ _ _ k ?_)
  · obtain ⟨e1, _⟩ := exm_cls (M := M) X e
    obtain ⟨hh, g, d, tk, os⟩ := s
    refine wpAny_bind ((e1.keeps k).at ?_)
    simp only [Bool.not_true, Bool.false_eq_true, if_false]
    exact wpAny_pure q
  · refine wpAny_bind ((LT.keeps k).at ?_)
    refine wpAny_bind (loop_find (h := h) (cls := cls) (K := K) (r := (some true, ())) (fun c bc e A Q E s k q => ?_) hx A _ _ _ k ?_)
    · obtain ⟨_, S1⟩ := exm_cls (M := M) X e
      obtain ⟨hh, g, d, tk, os⟩ := s
      refine wpAny_bind ((S1.keeps k).at ?_)
      cases bc with
      | true => exact wpAny_pure q
      | false => exact wpAny_pure q
    · cases b with
      | true => exact wpAny_pure q
      | false => exact wpAny_pure q
end
section
open PySem.HandSPX
theorem flying_push {base h : Heap} {l : List Env} {e : Addr} {Z : Obj → Prop} {o : Obj} (x : FlyingZ base l e Z h) : FlyingZ base l e Z (h.push o) := by
  obtain ⟨f1, f2, f3, oe, vs, T, oT, ts, a1, a2, a3, a4, a5, a6, a7, a8, a9⟩ := x
  exact ⟨fun b u q => Heap.get?_push_of_some _ (f1 b u q), f2, f3.of_keeps fun b u q _ => ⟨u, Heap.get?_push_of_some _ q, rfl⟩, oe, vs, T, oT, ts, Heap.get?_push_of_some _ a1, a2, a3, a4, a5, a6, Heap.get?_push_of_some _ a7, a8, a9⟩
end
section
variable {X : Cx} {body : List Stmt} {b₀ : Stmt} {suite : List Stmt} {np pos pos' : Pos} {tb : WX → TS} {Wout : WX} {kk : Nat}
/-- names that stand for classes -/
inductive NmsOk (X : Cx) : List Expr → List Value → Prop
  | nil : NmsOk X [] []
  | cons {x : Str} {c : Value} {p : Pos} {es : List Expr} {cs : List Value} (h : Names X x c) (r : NmsOk X es cs) : NmsOk X (.Name x p :: es) (c :: cs)
theorem NmsOk.inSuite {a : Addr} {pn : List (Addr × Obj)} : ∀ {es : List Expr} {cs : List Value}, NmsOk X es cs → NmsOk (X.suite a pn) es cs
  | _, _, .nil => .nil
  | _, _, .cons h r => .cons h r.inSuite
/-- what the clause wishes of an exception of the body: it is one of these -/
def wTup (K : PySem.W.Frag) (cs : List Value) (ts : Addr → Value → Option Addr → TS) (D : Ends) : WX := fun cls d σ H => PySem.W.exmAny K cls cs = some true ∧ ∀ a, H a = none → ts a cls d D σ H
theorem names_run {pins : List (Addr × Obj)} {σ : L2.St} {H : Hp} {s : Shared} {Y : Cx} {E : Value → Shared → Prop} (I : Inv Y pins σ H s) : ∀ {es : List Expr} {cs : List Value} {pos : Pos} {Q : List Value → Shared → Prop}, NmsOk Y es cs → Q cs s → wpAny (model Y.prog Y.w) Y.A (spliced (backTo pos (starEach es Y.env))) Q E s
  | _, _, _, Q, .nil, q => Calls.spliced_nil q
  | _, _, pos, Q, .cons (x := x) (c := c) (p := p) (es := es) (cs := cs) h r, q => by
    show wpAny _ _ (spliced ((false, eval (.Name x p) Y.env) :: backTo pos (starEach es Y.env))) _ _ s
    refine Calls.spliced_cons ?_
    have next : wpAny (model Y.prog Y.w) Y.A (spliced (backTo pos (starEach es Y.env))) (fun vs s' => Q (c :: vs) s') E s := names_run I r q
    obtain ⟨hg, hdbg, hm | ⟨hm, hv, hnn⟩⟩ := h
    · exact ld_glob I hg hm next hdbg
    · exact ld_blt I hg hm hv next hnn hdbg
theorem ps_try_tup {es : List Expr} {cs : List Value} {ts : Addr → Value → Option Addr → TS} (hs : X.stack = X.env :: X.outer) (hf : X.env.frame = some X.env.locals)
    (hb : ∀ (W : WX) (pn : List (Addr × Obj)) (xe : Value → Shared → Prop), Takes (X.tr pn xe) W → PassesOwn (model X.prog X.w) X.A X.env xe → PSs (X.tr pn xe) body (tb W))
    (hn : NmsOk X es cs) (hcs : cs.length ≤ 100)
    (hsu : ∀ (a : Addr) (oe : Obj) (cls : Value) (d : Option Addr) (pn : List (Addr × Obj)), Zc cls d oe → (∃ vs, oe.data = .fields vs) → PSs (X.suite a ((a, oe) :: pn)) (b₀ :: suite) (ts a cls d)) :
    PS X (.Try body [.ExceptHandler (some (.Tuple es kk np)) none (b₀ :: suite) pos'] [] [] pos) (fun D σ H => tb (wTup X.K cs ts D) D σ H) := by
  refine ⟨fun pins s σ H D I h => ?_⟩
  have ok := I.ok
  have hfr : X.A.frames = some (X.env :: X.outer) := ok.frames.trans (congrArg some hs)
  refine wpAny_Try_except ?_
  refine wpAny_mono ((hb (wTup X.K cs ts D) (X.pn ++ pins) (fun e s₁ => wpAny (model X.prog X.w) X.A (noteFrame e X.env) (fun _ s₂ => wpAny (model X.prog X.w) X.A (setFlight e none) (fun _ s₃ =>
    wpAny (model X.prog X.w) X.A (handleBy e X.env [.ExceptHandler (some (.Tuple es kk np)) none (b₀ :: suite) pos']) (SP X pins D) X.xe s₃) X.xe s₂) X.xe s₁) (fun u s' xx => ?_) PassesOwn.looking).run [] s σ H D (I.toTry _) h) (fun f s1 hsp => ?_) (fun e s1 he => he)
  · obtain ⟨a, B, sI, pins', σ', H', cls, d, rfl, J', nb, up, sky, na, os, ag, hx, hw⟩ := xx
    have J : Inv X pins σ' H' sI := J'.ofTry ok
    have sky' : Sky B (X.env :: X.outer) a (Zc cls d) X.env.locals s'.heap := by rw [← hs]; exact sky
    show wpAny (model X.prog X.w) X.A (noteFrame (.ref a) X.env) _ _ _
    refine Sky.land Zc.steady hfr hf sky' fun h3 fl3 up3 => ?_
    have J3 : Inv X pins σ' H' { s' with heap := h3 } := J.landed nb fl3.1 (up.trans up3) os ag
    obtain ⟨oe3, vs3, he3, hz3, hd3⟩ := fl3.there
    have nfr : a ∉ frs (X.env :: X.outer) := fun hm => by
      obtain ⟨_, o', e', hnf⟩ := fl3.2.2.1.mem hm
      rw [he3] at e'
      cases e'
      exact hnf _ hd3
    have nL : a ≠ X.env.locals := fun z => nfr (List.mem_filterMap.mpr ⟨X.env, List.mem_cons_self, by rw [hf, z]⟩)
    have nF : a ∉ X.fs := fun hm => by
      obtain ⟨e, he, q⟩ := List.mem_filterMap.mp hm
      exact nfr (List.mem_filterMap.mpr ⟨e, List.mem_cons_of_mem _ he, q⟩)
    have S3 := J3.suite he3 hd3 na nL nF
    refine wpAny_handleBy_cons (codeAny_handlers_test ?_) (by intro q; cases q)
    have hn' : NmsOk (X.suite a ((a, oe3) :: (X.pn ++ pins))) es cs := by
      exact hn.inSuite
    refine wpAny_Tuple_spliced (names_run (Y := X.suite a ((a, oe3) :: (X.pn ++ pins))) S3 hn' ⟨by rw [sizeLine_eq]; omega, ?_⟩)
    have fl3' := flying_push (o := { cls := .type "tuple", data := .seq cs.toArray }) fl3
    have hp : (h3.push { cls := .type "tuple", data := .seq cs.toArray }).get? h3.objs.size = some { cls := .type "tuple", data := .seq cs.toArray } := Heap.get?_push_size _ rfl
    have he5 : (h3.push { cls := .type "tuple", data := .seq cs.toArray }).get? a = some oe3 := Heap.get?_push_of_some _ he3
    have up3' : s'.heap.UpToSlots (h3.push { cls := .type "tuple", data := .seq cs.toArray }) := up3.trans fun b o q _ => ⟨o.slots, Heap.get?_push_of_some _ q⟩
    have K5 : X.K.In (h3.push { cls := .type "tuple", data := .seq cs.toArray }) := J3.kIn.keeps fun b o q => Heap.get?_push_of_some _ q
    show wpAny _ _ _ _ _ { s' with heap := h3.push { cls := .type "tuple", data := .seq cs.toArray } }
    generalize h3.push { cls := .type "tuple", data := .seq cs.toArray } = h5 at fl3' hp he5 up3' K5
    have LT : PySem.W.Looks (model X.prog X.w) h5 (typeOf (.ref a)) cls := fun A Q E s k q => wpAny_typeOf_ref (k _ _ he5) (by rw [hz3.1]; exact q)
    refine (exm_tup (M := model X.prog X.w) K5 LT ⟨_, hp, rfl, rfl⟩ hx).here ?_
    refine codeAny_handlers_suite ?_
    refine HandSPX.lands_againZ fl3' fun h4 fl4 up4 => ?_
    have J4 : Inv X pins σ' H' { s' with heap := h4 } := J.landed nb fl4.1 ((up.trans up3').trans up4) os ag
    obtain ⟨oe4, vs4, he4, hz4, hd4⟩ := fl4.there
    have S4 := J4.suite he4 hd4 na nL nF
    refine wpAny_mono ((hsu a oe4 cls d (X.pn ++ pins) hz4 ⟨_, hd4⟩).run [] _ _ H' _ S4 (hw a na)) (fun f s6 hsp => ?_) (fun _ _ z => False.elim z)
    cases f with
    | next =>
      obtain ⟨σ6, H6, S6, q6⟩ := hsp
      exact ⟨_, _, S6.unsuite ok, q6⟩
    | brk =>
      obtain ⟨σ6, H6, S6, q6⟩ := hsp
      exact ⟨_, _, S6.unsuite ok, q6⟩
    | cont =>
      obtain ⟨σ6, H6, S6, q6⟩ := hsp
      exact ⟨_, _, S6.unsuite ok, q6⟩
    | ret u =>
      obtain ⟨v6, σ6, H6, S6, r6, q6⟩ := hsp
      exact ⟨_, _, _, S6.unsuite ok, r6, q6⟩
  · cases f with
    | next =>
      obtain ⟨σ', H', J', q⟩ := hsp
      exact wpAny_execs_nil ⟨σ', H', J'.ofTry ok, q⟩
    | brk =>
      obtain ⟨σ', H', J', q⟩ := hsp
      exact ⟨σ', H', J'.ofTry ok, q⟩
    | cont =>
      obtain ⟨σ', H', J', q⟩ := hsp
      exact ⟨σ', H', J'.ofTry ok, q⟩
    | ret u =>
      obtain ⟨v, σ', H', J', r, q⟩ := hsp
      exact ⟨v, σ', H', J'.ofTry ok, r, q⟩
end
end K94
set_option Elab.async false
set_option linter.all false
set_option maxRecDepth 100000
set_option maxHeartbeats 2000000
/-! The law's own def, run where nothing is being shown: what its body may lean on besides. -/
namespace K94
open PySem PySem.Spec PyProof.Rows L2
/-- a def's promise, asked where no repr is under way -/
def FnG (P : Program) (w : World) (K : PySem.W.Frag) (mg : Str → Option Value) (base : Heap) (CX : CXT) (k : Nat) (f : Addr) (fd : FuncData) (ps : List Str) (sp : Sp) : Prop :=
  ∀ (A : Around) (outer : List Env) (s : Shared) (H : Hp) (args : Args) (us : List Value) (vs : List V) (Q : VK) (E : XK), Room k A → A.guards = some [] → Env0 P w K mg base A outer s H → BindsTo s fd args (ps.zip us) → Vals vs us → sp vs H Q E →
    codeAny (model P w) A (.call (.ref f) args) (CR CX outer P w H s Q E) s
section
variable {P : Program} {w : World} {K : PySem.W.Frag} {mg : Str → Option Value} {base : Heap} {CX : CXT}
theorem fnG_of {x qual : Str} {st : Stmt} {f : Addr} {fd : FuncData} {N ps : List Str} {k : Nat} {sp : Sp} (F : Fun K x qual st f fd) (S : FnScope N ps (defScope st)) (len : ∀ vs H Q E, sp vs H Q E → vs.length = ps.length)
    (hbody : ∀ (cdv : Value) (A : Around) (outer : List Env) (s : Shared) (H : Hp) (vs : List V) (Q : VK) (E : XK), Room k (A.deeper (envOfC qual (defScope st) s.heap.objs.size f cdv)) → A.guards = some [] → sp vs H Q E →
      ∃ t, PSs (cxOf CX P w K mg base N qual (defScope st) f cdv A outer s H E) (defBody st) t ∧ t { nx := fun _ H' => Q .non H', rt := Q } (start N vs) H) : FnG P w K mg base CX (k + 1) f fd ps sp := by
  obtain ⟨oc, od, kV, doc, pm, an, cdv, ct, osl, rfl, lk, hcd⟩ := F.ex
  intro A outer s H args us vs Q E hr hgd e0 hb r hsp
  have hl := len _ _ _ _ hsp
  have bk : ∀ b o, base.get? b = some o → s.heap.get? b = some o := fun b o e => (e0.bs b o e).1
  have KX : K.In s.heap := e0.mod.kin.keeps bk
  have hkind : ∀ y ∈ ps.zip us, (defScope st).names.lookup y.1 = some .local ∨ ((defScope st).names.lookup y.1 = some .cell ∧ ((cellsFrom (s.heap.objs.size + 1) (defScope st).names []).lookup y.1).isSome = true) := by
    rintro ⟨n, v⟩ hy
    rcases S.par n (List.of_mem_zip hy).1 with q | q
    · exact .inl q
    · exact .inr ⟨q, PySem.W.cellsFrom_some _ _ _ (.inl q)⟩
  refine codeAny_call_function hr.depth (KX _ _ lk) rfl S.co S.gen rfl (PySem.W.codeRec_of KX hcd) (hb _ _ _ _ (wpAny_newFunctionEnv_cells S.kind hkind fun env he s1 x => ?_))
  subst he
  refine ⟨(e0.mod.nolimit.keeps bk).keeps x.toInCall.keep, codeAny_func ?_⟩
  obtain ⟨t, ht, hq⟩ := hbody cdv A outer s H vs Q E (hr.deeper _) hgd hsp
  have I : Inv (cxOf CX P w K mg base N qual (defScope st) f cdv A outer s H E) [] (start N vs) H s1 := inv_start S hr.hd e0 hl r x
  refine wpAny_mono (ht.run [] s1 (start N vs) H _ I hq) (fun fl s' hs => ?_) fun e s' hs => hs
  have fin : ∀ {σ' : L2.St} {H' : Hp} {v : V} {u : Value}, Inv (cxOf CX P w K mg base N qual (defScope st) f cdv A outer s H E) [] σ' H' s' → RelV v u → Q v H' → CE outer P w H s Q u s' := fun {σ' H' v u} J rv q => ⟨v, H', J.os, J.bare, J.base, J.hok, rv, q⟩
  cases fl with
  | ret u =>
    obtain ⟨v, σ', H', J, rv, q⟩ := hs
    exact fin J rv q
  | next =>
    obtain ⟨σ', H', J, q⟩ := hs
    exact fin (v := V.non) (u := Value.none) J rfl q
  | brk => obtain ⟨_, _, _, q⟩ := hs; exact False.elim q
  | cont => obtain ⟨_, _, _, q⟩ := hs; exact False.elim q
end
/-- the script's list, locked: the whole of what is tracked at the law's entry -/
def lockH (a : Addr) (o : Obj) (xs : List V) : Hp := fun b => if b = a then some (.frz o (.lst xs)) else none
theorem lockH_at {a : Addr} {o : Obj} {xs : List V} : lockH a o xs a = some (.frz o (.lst xs)) := if_pos rfl
theorem lockH_ne {a b : Addr} {o : Obj} {xs : List V} (h : b ≠ a) : lockH a o xs b = none := if_neg h
section
variable {P : Program} {w : World} {K : PySem.W.Frag} {mg mb : Str → Option Value} {CX : CXT} {k : Nat} {fa a : Addr} {fd : FuncData} {x : Str} {sp : Sp} {s₁ : Shared} {vs : List Value} {ns : List Int}
/-- the end, from the promise at an abstract heap that holds the script or nothing -/
theorem lawG_at {H : Hp} (KX : K.In s₁.heap) (hns : s₁.heap.Ns mainGlobals mg) (hb : s₁.heap.Ns builtinsNs mb) (hbb : ∀ x : Str, x ≠ "__name__" → mb x = bootBuiltins x) (hlim : s₁.heap.NoLimit) (hg : s₁.gens = #[])
    (ha : s₁.heap.get? a = some { cls := .type "list", data := .seq vs.toArray }) (hr : Room k callerA)
    (F : ∀ base : Heap, K.In base → base.Ns mainGlobals mg → FnG P w K mg base CX k fa fd [x] sp) (hbind : ∀ (s : Shared) (u : Value), BindsTo s fd ⟨[u], []⟩ [(x, u)])
    (hsp : sp [.ref a] H (fun v _ => v = .bl true) fun _ _ _ => False) (hCX : ∀ e s', CX [] H s₁ (fun _ _ _ => False) e s' → False) (hok : HOk P w H s₁.heap)
    (only : ∀ b o, H b = some o → b = a ∧ ∃ ob xs, o = .frz ob (.lst xs)) (hK : H a ≠ none → K.lookup a = none) :
    codeAny (model P w) callerA (.call (.ref fa) ⟨[.ref a], []⟩) (fun r s' => r = .ok (.ret (.bool true)) ∧ OldK s₁.heap s'.heap ∧ s'.os = s₁.os ∧ AllBare s'.gens) s₁ := by
  have free : ∀ {b : Addr}, b ≠ a → H b = none := fun {b} hb => by
    cases q : H b with
    | none => rfl
    | some o => exact absurd (only b o q).1 hb
  have dictFree : ∀ {b : Addr} {o : Obj} {es : Array DictEntry} {ep : Nat}, s₁.heap.get? b = some o → o.data = .dict es ep → H b = none := fun {b o es ep} e d => by
    refine free fun z => ?_
    rw [z, ha] at e
    cases e
    cases (show Data.seq vs.toArray _ = Data.dict es ep from d)
  have nsB : ∀ {b : Addr} {m : Str → Option Value}, s₁.heap.Ns b m → (hidT s₁.heap H).Ns b m := fun {b m} ⟨o, es, ep, e, d, r⟩ => ⟨o, es, ep, hidT_get e (dictFree e d), d, r⟩
  have kB : K.In (hidT s₁.heap H) := fun b o e => hidT_get (KX b o e) (by
    by_cases hba : b = a
    · subst hba
      cases q : H b with
      | none => rfl
      | some u =>
        rw [hK (by rw [q]; exact fun z => nomatch z)] at e
        cases e
    · exact free hba)
  obtain ⟨mc, l1, l2⟩ := hlim
  have hM : Mod K mg (hidT s₁.heap H) := ⟨kB, nsB hns, ⟨mb, nsB hb, hbb⟩, mc, nsB l1, l2⟩
  have e0 : Env0 P w K mg (hidT s₁.heap H) callerA [] s₁ H := ⟨rfl, hM, fun b o e => of_hidT e, Nat.le_of_eq (hidT_size _ _), trivial, (fun b hb => nomatch (show b ∈ ([] : List Addr) from hb)), hok, .of_eq hg⟩
  refine codeAny_mono (F _ kB (nsB hns) callerA [] s₁ H ⟨[.ref a], []⟩ [.ref a] [.ref a] _ _ hr rfl e0 (hbind s₁ (.ref a)) (.cons rfl .nil) hsp) fun r s' h => ?_
  match r, h with
  | .error e, h => exact (hCX e s' h).elim
  | .ok .next, h => exact False.elim h
  | .ok .brk, h => exact False.elim h
  | .ok .cont, h => exact False.elim h
  | .ok (.ret u), h =>
    obtain ⟨v, H', os, bare, un, hok', r', q⟩ := h
    obtain rfl : v = .bl true := q
    obtain rfl : u = Value.bool true := r'
    refine ⟨rfl, OldK.of_keep fun b o e => ?_, os, bare⟩
    cases z : H b with
    | none => exact un.keep b o e z (fun z => nomatch (show b ∈ ([] : List Addr) from z)) (fun z => nomatch z)
    | some u =>
      obtain ⟨_, ob, xs, rfl⟩ := only b u z
      have e1 : s₁.heap.get? b = some ob := (hok b _ z).1
      have e2 : s'.heap.get? b = some ob := (hok' b _ (un.frzs b ob _ z)).1
      rw [e] at e1
      rw [Option.some.inj e1]
      exact e2
theorem lawG (KX : K.In s₁.heap) (hns : s₁.heap.Ns mainGlobals mg) (hb : s₁.heap.Ns builtinsNs mb) (hbb : ∀ x : Str, x ≠ "__name__" → mb x = bootBuiltins x) (hlim : s₁.heap.NoLimit) (hg : s₁.gens = #[])
    (ha : s₁.heap.get? a = some { cls := .type "list", data := .seq vs.toArray }) (hi : IntsAre vs ns) (hl : ns.length ≤ sizeLine) (hr : Room k callerA)
    (F : ∀ base : Heap, K.In base → base.Ns mainGlobals mg → FnG P w K mg base CX k fa fd [x] sp) (hbind : ∀ (s : Shared) (u : Value), BindsTo s fd ⟨[u], []⟩ [(x, u)])
    (hsp : ∀ H : Hp, SqL K H a (ns.map V.int) → sp [.ref a] H (fun v _ => v = .bl true) fun _ _ _ => False) (hCX : ∀ H e s', CX [] H s₁ (fun _ _ _ => False) e s' → False) :
    codeAny (model P w) callerA (.call (.ref fa) ⟨[.ref a], []⟩) (fun r s' => r = .ok (.ret (.bool true)) ∧ OldK s₁.heap s'.heap ∧ s'.os = s₁.os ∧ AllBare s'.gens) s₁ := by
  have rv := vals_ints hi
  have lenV := hi.length
  cases hk : K.lookup a with
  | some o =>
    have e := KX a o hk
    rw [ha] at e
    obtain rfl := Option.some.inj e
    exact lawG_at (H := fun _ => none) KX hns hb hbb hlim hg ha hr F hbind (hsp _ (.inr ⟨_, vs.toArray, _, hk, rfl, rfl, rfl, by rw [List.size_toArray, lenV]; exact hl, by simpa using rv⟩)) (fun e s' => hCX _ e s')
      (fun b u z => nomatch (show (none : Option HO) = some u from z)) (fun b u z => nomatch (show (none : Option HO) = some u from z)) fun z => absurd rfl z
  | none =>
    refine lawG_at (H := lockH a { cls := .type "list", data := .seq vs.toArray } (ns.map V.int)) KX hns hb hbb hlim hg ha hr F hbind (hsp _ (.inl (.inr ⟨_, lockH_at⟩))) (fun e s' => hCX _ e s') (fun b u z => ?_) (fun b u z => ?_) fun _ => hk
    · by_cases hba : b = a
      · subst hba
        rw [lockH_at] at z
        cases z
        exact ⟨ha, by rw [List.length_map]; exact hl, vs, _, rv, ha⟩
      · rw [lockH_ne hba] at z
        cases z
    · by_cases hba : b = a
      · subst hba
        rw [lockH_at] at z
        exact ⟨rfl, _, _, (Option.some.inj z).symm⟩
      · rw [lockH_ne hba] at z
        cases z
end
theorem walkG {l : PySem.W.OpenLaw} {n k : Nat} {q : Program} {loose : List Str} {XP : (Str → Option Value) → Heap → Prop} {YP : World → Heap → Prop} {d : DefRec} {K : Params → PySem.W.Frag} {CX : World → CXT} {sp : World → Sp} {x : Str}
    (hn : l.most = some n) (hn2 : n ≤ sizeLine) (hdf : d.params.defaults = []) (hr : Room k callerA) (hY : ∀ (w : World) (h : Heap), YP w h → (K w.params).In h)
    (F : ∀ (w : World) (mg : Str → Option Value) (fa : Addr) (h : Heap), (K w.params).In h → h.Ns mainGlobals mg → mg d.name = some (.ref fa) →
      ∃ fd : FuncData, (∀ (s : Shared) (u : Value), BindsTo s fd ⟨[u], []⟩ [(x, u)]) ∧ ∀ base : Heap, (K w.params).In base → base.Ns mainGlobals mg → FnG l.prog w (K w.params) mg base (CX w) k fa fd [x] (sp w))
    (hsp : ∀ (w : World) (H : Hp) (a : Addr) (ns : List Int), ns.length ≤ n → SqL (K w.params) H a (ns.map V.int) → sp w [.ref a] H (fun v _ => v = .bl true) fun _ _ _ => False)
    (hCX : ∀ (w : World) (H : Hp) (s : Shared) (e : Value) (s' : Shared), CX w [] H s (fun _ _ _ => False) e s' → False) :
    PySem.W.WalkO q loose XP YP l.row.toRowW d [] (fun f vs => PySem.call f vs) := by
  refine Att.attach_call hn hdf fun w s₀ s₁ mg mb fa o pm cd doc a vs ns G Y ho hd hcd hmg hobj hints hlen hg => ?_
  obtain ⟨fd, hb, hF⟩ := F w mg fa _ (hY w _ Y) G.T.g hmg
  exact lawG (hY w _ Y) G.T.g G.T.b G.T.builtins G.T.nolimit hg hobj hints (Nat.le_trans hlen hn2) hr hF hb (fun H hS => hsp w H a ns hlen hS) fun H e s' => hCX w H s₁ e s'
end K94
set_option Elab.async false
set_option linter.all false
set_option maxRecDepth 100000
/-! What a desk answers to lines about tariffs, as plain functions. -/
namespace K94
open PySem L2
def M30 : Int := 10 ^ 30
inductive Kd where
  | tariff | cost | begin
  deriving DecidableEq
def Kd.word : Kd → Str
  | .tariff => "tariff"
  | .cost => "cost"
  | .begin => "begin"
/-- a tariff -/
def ValidT (ns : List Int) : Prop := 1 ≤ ns.length ∧ ns.length ≤ 24 ∧ ∀ n ∈ ns, 0 ≤ n ∧ n ≤ 10 ^ 6
instance (ns : List Int) : Decidable (ValidT ns) := by unfold ValidT; exact inferInstance
def aheadF (ps : List Int) (m : Int) : Int := m / (ps.length : Int) * ps.sum + (ps.take (m % (ps.length : Int)).toNat).sum
def costF (ps : List Int) (b m : Int) : Int := aheadF ps (b + m) - aheadF ps b
def lastF (ps : List Int) (lo hi : Int) : Int := if lo + (ps.length : Int) - 1 < hi then lo + (ps.length : Int) - 1 else hi
def pairsF (ps : List Int) (m lo : Int) (n : Nat) : List (Int × Int) := (List.range n).map fun (i : Nat) => (costF ps (lo + (i : Int)) m, lo + (i : Int))
def leastF : List (Int × Int) → Int
  | [] => 0
  | p :: r => (PySem.W.minOf p r).2
def bestF (ps : List Int) (m lo hi : Int) : Int := leastF (pairsF ps m lo (lastF ps lo hi + 1 - lo).toNat)
/-- the answer to a line, and the tariff behind it ([]: none) -/
def ansF (t : List Int) : Kd → List Int → Str × List Int
  | .tariff, ns => if ValidT ns then ("done", ns) else ("no", t)
  | .cost, [b, m] => if t = [] then ("no", t) else if (0 ≤ b ∧ b ≤ M30) ∧ 1 ≤ m ∧ m ≤ M30 then (numS (costF t b m), t) else ("no", t)
  | .begin, [m, lo, hi] => if t = [] then ("no", t) else if ((1 ≤ m ∧ m ≤ M30) ∧ 0 ≤ lo ∧ lo ≤ M30) ∧ lo ≤ hi ∧ hi ≤ M30 then (numS (bestF t m lo hi), t) else ("no", t)
  | _, _ => ("no", t)
/-! ### the sum of the prices from a moment on -/
def stepsF (ps : List Int) (b : Int) : Nat → Int
  | 0 => 0
  | k + 1 => stepsF ps b k + ps.getD ((b + (k : Int)) % (ps.length : Int)).toNat 0
theorem take_step {ps : List Int} {r : Nat} (h : r < ps.length) : (ps.take (r + 1)).sum = (ps.take r).sum + ps.getD r 0 := by
  rw [List.take_add_one, List.sum_append]
  rw [List.getD_eq_getElem?_getD, List.getElem?_eq_getElem h]
  simp
theorem ahead_step {ps : List Int} (h : ps ≠ []) {n : Int} (h0 : 0 ≤ n) : aheadF ps (n + 1) = aheadF ps n + ps.getD (n % (ps.length : Int)).toNat 0 := by
  have hl : 0 < ps.length := List.length_pos_iff.mpr h
  generalize hd : (ps.length : Int) = d at *
  have hd0 : 0 < d := by omega
  have e := Int.mul_ediv_add_emod n d
  have r0 := Int.emod_nonneg n (show d ≠ 0 by omega)
  have r1 := Int.emod_lt_of_pos n hd0
  unfold aheadF
  rw [hd]
  generalize hq : n / d = q at *
  generalize hr : n % d = r at *
  by_cases c : r + 1 < d
  · have e1 : (n + 1) / d = q := by
      rw [← e, Int.add_assoc, Int.add_comm, Int.add_mul_ediv_left _ _ (show d ≠ 0 by omega), Int.ediv_eq_zero_of_lt (by omega) c]
      omega
    have e2 : (n + 1) % d = r + 1 := by
      rw [← e, Int.add_assoc, Int.add_comm, Int.add_mul_emod_self_left, Int.emod_eq_of_lt (by omega) c]
    rw [e1, e2, show (r + 1).toNat = r.toNat + 1 by omega, take_step (by omega)]
    omega
  · have er : r + 1 = d := by omega
    have en : n + 1 = d * (q + 1) := by rw [Int.mul_add, Int.mul_one]; omega
    have e1 : (n + 1) / d = q + 1 := by rw [en]; exact Int.mul_ediv_cancel_left _ (by omega)
    have e2 : (n + 1) % d = 0 := by rw [en]; exact Int.mul_emod_right _ _
    rw [e1, e2]
    have z := take_step (ps := ps) (r := r.toNat) (by omega)
    rw [show r.toNat + 1 = ps.length by omega, List.take_length] at z
    rw [Int.add_mul, Int.one_mul, Int.toNat_zero, List.take_zero, List.sum_nil, z]
    omega
theorem ahead_steps {ps : List Int} (h : ps ≠ []) {b : Int} (h0 : 0 ≤ b) : ∀ k : Nat, aheadF ps (b + (k : Int)) = aheadF ps b + stepsF ps b k
  | 0 => by simp [stepsF]
  | k + 1 => by
    have z := ahead_steps h h0 k
    have s := ahead_step h (n := b + (k : Int)) (by omega)
    rw [show b + ((k + 1 : Nat) : Int) = b + (k : Int) + 1 by omega, s, z, stepsF]
    omega
theorem ahead_days {ps : List Int} (h : ps ≠ []) (n q : Int) : aheadF ps (n + (ps.length : Int) * q) = aheadF ps n + q * ps.sum := by
  have hl : 0 < ps.length := List.length_pos_iff.mpr h
  unfold aheadF
  rw [Int.add_mul_emod_self_left, Int.add_mul_ediv_left _ _ (show (ps.length : Int) ≠ 0 by omega), Int.add_mul]
  omega
/-- the law's own way to reckon -/
theorem paid_eq {ps : List Int} (h : ps ≠ []) {b m : Int} (hb : 0 ≤ b) (hm : 0 ≤ m) : m / (ps.length : Int) * ps.sum + stepsF ps b (m % (ps.length : Int)).toNat = costF ps b m := by
  have hl : 0 < ps.length := List.length_pos_iff.mpr h
  have e := Int.mul_ediv_add_emod m (ps.length : Int)
  have r0 := Int.emod_nonneg m (show (ps.length : Int) ≠ 0 by omega)
  have s := ahead_steps h hb (m % (ps.length : Int)).toNat
  have d := ahead_days h (b + m % (ps.length : Int)) (m / (ps.length : Int))
  rw [show (((m % (ps.length : Int)).toNat : Nat) : Int) = m % (ps.length : Int) by omega] at s
  rw [show b + m % (ps.length : Int) + (ps.length : Int) * (m / (ps.length : Int)) = b + m by omega] at d
  unfold costF
  omega
/-! ### bounds -/
theorem sum_bound : ∀ {ps : List Int}, (∀ n ∈ ps, 0 ≤ n ∧ n ≤ 10 ^ 6) → 0 ≤ ps.sum ∧ ps.sum ≤ 10 ^ 6 * (ps.length : Int)
  | [], _ => by simp
  | p :: ps, h => by
    have h1 := h p (List.mem_cons_self ..)
    have h2 := sum_bound (ps := ps) fun n hn => h n (List.mem_cons_of_mem _ hn)
    rw [List.sum_cons, List.length_cons]
    omega
theorem ahead_bound {ps : List Int} (h : ValidT ps) {m : Int} (h0 : 0 ≤ m) : 0 ≤ aheadF ps m ∧ aheadF ps m ≤ 10 ^ 9 * m + 10 ^ 9 := by
  obtain ⟨l1, l2, hv⟩ := h
  have s := sum_bound hv
  have s2 := sum_bound (ps := ps.take (m % (ps.length : Int)).toNat) fun n hn => hv n (List.mem_of_mem_take hn)
  have hlt : (ps.take (m % (ps.length : Int)).toNat).length ≤ 24 := Nat.le_trans (List.length_take_le' _ _) l2
  have q0 : 0 ≤ m / (ps.length : Int) := Int.ediv_nonneg h0 (by omega)
  have q1 : m / (ps.length : Int) ≤ m := Int.ediv_le_self _ h0
  have a : 0 ≤ m / (ps.length : Int) * ps.sum := Int.mul_nonneg q0 s.1
  have b1 : m / (ps.length : Int) * ps.sum ≤ m / (ps.length : Int) * 10 ^ 9 := Int.mul_le_mul_of_nonneg_left (by omega) q0
  unfold aheadF
  omega
theorem cost_small {ps : List Int} (h : ValidT ps) {b m : Int} (hb : 0 ≤ b) (hb1 : b ≤ M30) (hm : 0 ≤ m) (hm1 : m ≤ M30) : (costF ps b m).natAbs.log2 < 1920 := by
  have a1 := ahead_bound h (m := b + m) (by omega)
  have a2 := ahead_bound h (m := b) hb
  have e : M30 = 10 ^ 30 := rfl
  have z : (costF ps b m).natAbs < 2 ^ 1920 := by
    refine Nat.lt_of_lt_of_le (m := 10 ^ 41) ?_ (by decide +kernel)
    unfold costF
    omega
  by_cases h0 : (costF ps b m).natAbs = 0
  · rw [h0]; decide
  · exact (Nat.log2_lt h0).mpr z
end K94
set_option Elab.async false
set_option linter.all false
set_option maxRecDepth 100000
set_option maxHeartbeats 4000000
/-! The program's text by places; what the module's names hold. -/
namespace K94
open PySem PySem.Spec PyProof.Rows L2
abbrev R := PySem.Challenge.pw_faxhouse_k94_whole_desk_of_tariffs
def top (i : Nat) : Stmt := R.main.body.getD i (.Pass ⟨0, 0, 0, 0⟩)
abbrev sWhole : Stmt := top 106
abbrev sIsLine : Stmt := top 17
abbrev sNeedPage : Stmt := top 19
abbrev sNeedTariff : Stmt := top 112
abbrev sAhead : Stmt := top 113
abbrev sCostOf : Stmt := top 114
abbrev sCost : Stmt := top 115
abbrev sCheapest : Stmt := top 116
abbrev sInteger : Stmt := top 124
abbrev sDInit : Stmt := inClass (top 133) 0
abbrev sPage : Stmt := inClass (top 133) 1
abbrev sAddLine : Stmt := inClass (top 133) 3
abbrev sTold : Stmt := inClass (top 133) 8
abbrev sAnswered : Stmt := inClass (top 133) 9
abbrev sSay : Stmt := inClass (top 133) 10
abbrev sStart : Stmt := top 135
abbrev sNext : Stmt := top 136
abbrev sOf : Stmt := top 137
abbrev sPaid : Stmt := top 138
abbrev sFirst : Stmt := top 139
abbrev sGreat : Stmt := top 140
abbrev sTLine : Stmt := top 141
abbrev sAny : Stmt := top 142
abbrev sLaw : Stmt := top 143
section
variable {X : Cx} {x : Str} {pos : Pos}
theorem pgI {n : Int} (hg : Gl X x) (h : ∃ t, X.mg x = some (.int n t)) (hd : (x == ("__debug__" : Str)) = false := by decide) : PE X (.Name x pos) (tC (.int n)) := by
  obtain ⟨t, h⟩ := h
  exact pe_glob hg h ⟨t, rfl⟩ hd
theorem pgS {z : Str} (hg : Gl X x) (h : ∃ t, X.mg x = some (.str z t)) (hd : (x == ("__debug__" : Str)) = false := by decide) : PE X (.Name x pos) (tC (.str z)) := by
  obtain ⟨t, h⟩ := h
  exact pe_glob hg h ⟨t, rfl⟩ hd
end
/-- the names of the module that the walks read -/
structure Gm (mg : Str → Option Value) : Prop where
  white : ∃ t, mg "WHITE" = some (.str "." t)
  black : ∃ t, mg "BLACK" = some (.str "#" t)
  width : ∃ t, mg "MOST_WIDTH" = some (.int 40 t)
  lines : ∃ t, mg "MOST_LINES" = some (.int 60 t)
  day : ∃ t, mg "MOST_DAY" = some (.int 24 t)
  price : ∃ t, mg "MOST_PRICE" = some (.int 1000000 t)
  moment : ∃ t, mg "MOST_MOMENT" = some (.int M30 t)
  lend : ∃ t, mg "LINE_END" = some (.str "\n" t)
  blank : ∃ t, mg "BLANK" = some (.str " " t)
  minus : ∃ t, mg "MINUS" = some (.str "-" t)
  digits : ∃ t, mg "DIGITS" = some (.str "0123456789" t)
  figures : ∃ t, mg "MOST_FIGURES" = some (.int 31 t)
  no : ∃ t, mg "NO" = some (.str "no" t)
  done : ∃ t, mg "DONE" = some (.str "done" t)
  fInst : mg "isinstance" = none
  fInt : mg "int" = none
  fBool : mg "bool" = none
  fStr : mg "str" = none
  fTuple : mg "tuple" = none
  fLen : mg "len" = none
  fEnum : mg "enumerate" = none
  fSum : mg "sum" = none
  fMin : mg "min" = none
  fRange : mg "range" = none
  fAll : mg "all" = none
  fList : mg "list" = none
  fRepr : mg "repr" = none
section
variable {P : Program} {w : World} {K : PySem.W.Frag} {mg : Str → Option Value} {base : Heap}
/-! ### is_whole -/
theorem scWhole : FnScope ["thing", "least", "most"] ["thing", "least", "most"] (defScope sWhole) := ⟨rfl, rfl, rfl, by decide +kernel, rfl, by decide +kernel, by decide +kernel⟩
def spWhole : Sp := fun vs H Q _ => ∃ x lo hi : Int, vs = [.int x, .int lo, .int hi] ∧ Q (.bl (decide (lo ≤ x ∧ x ≤ hi))) H
theorem ok_whole {f : Addr} {fd : FuncData} {CX : CXT} (F : Fun K "is_whole" "is_whole" sWhole f fd) (G : Gm mg) : FnOk P w K mg base CX0 1 f fd ["thing", "least", "most"] spWhole := by
  refine F.ok scWhole (fun vs H Q E h => ?_) (fun cdv A outer s H vs Q E hr h => ?_)
  · obtain ⟨x, lo, hi, rfl, _⟩ := h
    rfl
  · obtain ⟨x, lo, hi, rfl, k⟩ := h
    refine ⟨_, pss_cons (ps_if (PW.pt (pw_or (pt_not (pt_val (pe_callB call_isi (by rfl) G.fInst (by decide +kernel) (pa_cons (pv 0) (pa_cons (pe_bltn (by rfl) G.fInt (by decide +kernel) (v := .ty "int") rfl) pa_nil)))))
        (pw_or (pt_val (pe_callB call_isi (by rfl) G.fInst (by decide +kernel) (pa_cons (pv 0) (pa_cons (pe_bltn (by rfl) G.fBool (by decide +kernel) (v := .ty "bool") rfl) pa_nil))))
        (pw_or1 (pt_cmpR op_lt (pv 0) (pv 1) (nomark _)))))) (pss_one (ps_ret pe_bl)) pss_nil)
      (pss_one (ps_ret (pe_or (pe_cmp (pc_isN (pv 2))) (pe_one (pe_cmpR op_le (pv 0) (pv 2) (nomark _)))))), ?_⟩
    refine ⟨_, rfl, _, _, _, _, true, rfl, .ty _, .base (.int x), kit_ty (by decide +kernel), _, rfl, iteF ?_⟩
    refine ⟨_, rfl, _, _, _, _, false, rfl, .ty _, .base (.int x), kit_ty (by decide +kernel), _, rfl, iteF ?_⟩
    refine ⟨_, rfl, _, rfl, _, _, rfl, rfl, _, rfl, ite2 (fun c => ?_) (fun c => ?_)⟩
    · have c1 : x < lo := of_decide_eq_true c
      have e : decide (lo ≤ x ∧ x ≤ hi) = false := decide_eq_false (by omega)
      rw [e] at k
      exact k
    · have c1 : ¬ x < lo := fun z => c (decide_eq_true z)
      refine ⟨_, rfl, _, rfl, iteF ?_⟩
      refine ⟨_, rfl, _, rfl, _, _, rfl, rfl, ?_⟩
      have e : decide (x ≤ hi) = decide (lo ≤ x ∧ x ≤ hi) := by
        by_cases c2 : x ≤ hi
        · rw [decide_eq_true c2, decide_eq_true ⟨by omega, c2⟩]
        · rw [decide_eq_false c2, decide_eq_false fun z => c2 z.2]
      rw [← e] at k
      exact k
end
end K94
set_option Elab.async false
set_option linter.all false
set_option maxRecDepth 100000
set_option maxHeartbeats 4000000
/-! The two errors that lines about tariffs meet. -/
namespace K94
open PySem PySem.Spec PyProof.Rows L2
abbrev sBT : Stmt := inClass (top 5) 0
abbrev sOP : Stmt := inClass (top 6) 0
/-- what the written part says of OutOfPlace, of BadTariff -/
structure OP (P : Program) (K : PySem.W.Frag) (mg : Str → Option Value) (C : Addr) : Prop where
  g : mg "OutOfPlace" = some (.ref C)
  t : ∃ fI cc, Sup.Txt P K mg C fI cc "OutOfPlace.__init__" (defArgs sOP) (defBody sOP) (defScope sOP)
  p : (P.main.scope.names.lookup ("super" : Str)).isSome = false
structure BT (P : Program) (K : PySem.W.Frag) (mg : Str → Option Value) (C : Addr) : Prop where
  g : mg "BadTariff" = some (.ref C)
  t : ∃ fI cc, Sup.Txt P K mg C fI cc "BadTariff.__init__" (defArgs sBT) (defBody sBT) (defScope sBT)
  n : PySem.W.findIn K (.ref C) "number" = some none
  p : (P.main.scope.names.lookup ("super" : Str)).isSome = false
theorem two_op {P : Program} (p : (P.main.scope.names.lookup ("super" : Str)).isSome = false) : Sup.Two P (defArgs sOP) (defScope sOP) "text" where
  kind := rfl
  co := rfl
  gen := rfl
  nocell := by decide +kernel
  self := by rfl
  arg := by rfl
  cls := by rfl
  sup := by rfl
  head := ⟨_, rfl, rfl⟩
  top := p
  ne := by decide +kernel
theorem two_bt {P : Program} (p : (P.main.scope.names.lookup ("super" : Str)).isSome = false) : Sup.Two P (defArgs sBT) (defScope sBT) "number" where
  kind := rfl
  co := rfl
  gen := rfl
  nocell := by decide +kernel
  self := by rfl
  arg := by rfl
  cls := by rfl
  sup := by rfl
  head := ⟨_, rfl, rfl⟩
  top := p
  ne := by decide +kernel
section
variable {X : Cx} {C : Addr} {a : Expr} {ta : TA} {W : WX} {p pos pos2 : Pos} {k : Nat}
theorem ps_raiseOP (hc : X.calm = true) (T : OP X.prog X.K X.mg C) (hr : Room k X.A) (tk : Takes X W) (ha : PA X [a] ta) (hg : Gl X "OutOfPlace" := by rfl)
    (he : starEach (a :: []) X.env = (false, eval a X.env) :: starEach [] X.env := by rfl) (hpl : (backTo pos (starEach [] X.env)).any (·.1) = false := by rfl) :
    PS X (.Raise (some (.Call (.Name "OutOfPlace" p) [a] [] pos)) none pos2) (fun _ σ H => tMk0 C ta σ H fun cls d H' => W cls d σ H') := by
  obtain ⟨fI, cc, t⟩ := T.t
  exact ps_raise hc tk (pmk_zero (p5 := ⟨0, 0, 0, 0⟩) t (two_op T.p) hr T.g ha (by decide +kernel) (fun u v s doc pm an cdv ct => .of_eq rfl) (fun env hi => ⟨_, rfl⟩) hg (by decide +kernel) he hpl)
theorem ps_raiseBT (hc : X.calm = true) (T : BT X.prog X.K X.mg C) (hr : Room k X.A) (tk : Takes X W) (ha : PA X [a] ta) (hg : Gl X "BadTariff" := by rfl)
    (he : starEach (a :: []) X.env = (false, eval a X.env) :: starEach [] X.env := by rfl) (hpl : (backTo pos (starEach [] X.env)).any (·.1) = false := by rfl) :
    PS X (.Raise (some (.Call (.Name "BadTariff" p) [a] [] pos)) none pos2) (fun _ σ H => tMk1 C "number" ta σ H fun cls d H' => W cls d σ H') := by
  obtain ⟨fI, cc, t⟩ := T.t
  exact ps_raise hc tk (pmk_one (p5 := ⟨0, 0, 0, 0⟩) t T.n (two_bt T.p) hr T.g ha (by decide +kernel) (fun u v s doc pm an cdv ct => .of_eq rfl) (fun env hi => ⟨_, rfl⟩) hg (by decide +kernel) he hpl)
end
end K94
set_option Elab.async false
set_option linter.all false
set_option maxRecDepth 100000
set_option maxHeartbeats 4000000
/-! Tariffs: the sums, what a call costs. -/
namespace K94
open PySem PySem.Spec PyProof.Rows L2
theorem not_of {p : Prop} [Decidable p] (h : (!decide p) = true) : ¬ p := fun z => by
  rw [decide_eq_true z] at h
  cases h
theorem yes_of {p : Prop} [Decidable p] (h : ¬ (!decide p) = true) : p := by
  by_cases z : p
  · exact z
  · exact absurd (by rw [decide_eq_false z]; rfl) h
theorem same_new {H : Hp} {p : Addr} {o : HO} (h : H p = none) : Same H (upd H p o) := fun b u e => by
  rw [upd_ne (ne_of_none e h)]
  exact e
theorem same_tup {K : PySem.W.Frag} {H H' : Hp} {a : Addr} {xs : List V} (e : Same H H') (h : SqT K H a xs) : SqT K H' a xs := by
  rcases h with (h | ⟨o, h⟩) | h
  · exact .inl (.inl (e _ _ h))
  · exact .inl (.inr ⟨o, e _ _ h⟩)
  · exact .inr h
theorem cut_take (xs : List V) (k : Nat) (h : k ≤ xs.length) : cutV xs none (some (k : Int)) = xs.take k := by
  unfold cutV
  rw [HT.sIx_none, HT.sIx_nat, List.drop_zero, Nat.min_eq_left h]
  rfl
section
variable {P : Program} {w : World} {K : PySem.W.Frag} {mg : Str → Option Value} {base : Heap}
/-! ### ahead_of -/
theorem scAhead : FnScope ["tariff", "moment", "day"] ["tariff", "moment"] (defScope sAhead) := ⟨rfl, rfl, rfl, by decide +kernel, rfl, by decide +kernel, by decide +kernel⟩
def spAhead (K : PySem.W.Frag) : Sp := fun vs H Q _ => ∃ (a : Addr) (ps : List Int) (m : Int), vs = [.ref a, .int m] ∧ SqT K H a (ps.map V.int) ∧ ValidT ps ∧ 0 ≤ m ∧ ∀ H', Same H H' → Q (.int (aheadF ps m)) H'
theorem ok_ahead {f : Addr} {fd : FuncData} (F : Fun K "ahead_of" "ahead_of" sAhead f fd) (G : Gm mg) : FnOk P w K mg base CX0 1 f fd ["tariff", "moment"] (spAhead K) := by
  refine F.ok scAhead (fun vs H Q E h => ?_) (fun cdv A outer s H vs Q E hr h => ?_)
  · obtain ⟨a, ps, m, rfl, _⟩ := h
    rfl
  · obtain ⟨a, ps, m, rfl, hS, hv, hm, k⟩ := h
    refine ⟨_, pss_cons (ps_set (i := 2) scAhead.nd rfl (Or.inl rfl) (pe_callB call_len_seq (by rfl) G.fLen PySem.boot_len (pa_cons (pv 0) pa_nil)))
      (pss_one (ps_ret (pe_op op_add (pe_op op_mul (pe_op op_fdiv (pv 1) (pv 2)) (pe_callB (cr_sumT rfl) (by rfl) G.fSum (by decide +kernel) (pa_cons (pv 0) pa_nil)))
        (pe_callB (cr_sumT rfl) (by rfl) G.fSum (by decide +kernel) (pa_cons (pe_slice sl_tup (pv 0) po_none (po_some (pe_op op_mod (pe_callTy call_int1 (by rfl) G.fInt (by decide +kernel) (pa_cons (pv 1) pa_nil)) (pv 2)))) pa_nil))))), ?_⟩
    obtain ⟨l1, l2, hp⟩ := id hv
    have el : (ps.map V.int).length = ps.length := List.length_map ..
    have sb := sum_bound hp
    have r0 := Int.emod_nonneg m (show (ps.length : Int) ≠ 0 by omega)
    have r1 := Int.emod_lt_of_pos m (show 0 < (ps.length : Int) by omega)
    refine ⟨_, rfl, _, _, rfl, .inr hS, ?_⟩
    rw [el]
    refine ⟨_, rfl, _, rfl, _, _, rfl, rfl, ⟨by omega, by omega⟩, _, rfl, a, ps, rfl, hS, _, _, rfl, rfl, .inr ⟨by omega, by omega⟩, ?_⟩
    refine ⟨_, rfl, _, rfl, .inl ⟨_, rfl, _, rfl, _, _, rfl, rfl, (by show (0 : Int) < _; omega), _, rfl, a, _, rfl, hS, ?_, fun p hp => ?_⟩⟩
    · rw [el]
      rintro ⟨_, z⟩
      rw [show m % (ps.length : Int) = (((m % (ps.length : Int)).toNat : Nat) : Int) by omega, HT.sIx_nat] at z
      omega
    · rw [show m % (ps.length : Int) = (((m % (ps.length : Int)).toNat : Nat) : Int) by omega, cut_take _ _ (by rw [el]; omega), ← List.map_take]
      refine ⟨p, _, rfl, .of upd_same, _, _, rfl, rfl, ?_⟩
      exact k _ (same_new hp)
/-! ### cost_of -/
theorem scCostOf : FnScope ["tariff", "begin", "moments"] ["tariff", "begin", "moments"] (defScope sCostOf) := ⟨rfl, rfl, rfl, by decide +kernel, rfl, by decide +kernel, by decide +kernel⟩
def spCostOf (K : PySem.W.Frag) : Sp := fun vs H Q _ => ∃ (a : Addr) (ps : List Int) (b m : Int), vs = [.ref a, .int b, .int m] ∧ SqT K H a (ps.map V.int) ∧ ValidT ps ∧ 0 ≤ b ∧ 0 ≤ m ∧ ∀ H', Same H H' → Q (.int (costF ps b m)) H'
theorem ok_costOf {f fA : Addr} {fd fdA : FuncData} (F : Fun K "cost_of" "cost_of" sCostOf f fd) (FA : Fun K "ahead_of" "ahead_of" sAhead fA fdA) (bA : Binds K fdA ["tariff", "moment"] []) (gA : mg "ahead_of" = some (.ref fA)) (G : Gm mg) :
    FnOk P w K mg base CX0 2 f fd ["tariff", "begin", "moments"] (spCostOf K) := by
  have GA : FnOk P w K mg base CX0 1 fA fdA ["tariff", "moment"] (spAhead K) := ok_ahead FA G
  refine F.ok scCostOf (fun vs H Q E h => ?_) (fun cdv A outer s H vs Q E hr h => ?_)
  · obtain ⟨a, ps, b, m, rfl, _⟩ := h
    rfl
  · obtain ⟨a, ps, b, m, rfl, hS, hv, hb, hm, k⟩ := h
    refine ⟨_, pss_one (ps_ret (pe_op op_sub (pe_call GA hr (by rfl) gA FA.kp bA .nil pass0 (pa_cons (pv 0) (pa_cons (pe_op op_add (pv 1) (pv 2)) pa_nil))) (pe_call GA hr (by rfl) gA FA.kp bA .nil pass0 (pa_cons (pv 0) (pa_cons (pv 1) pa_nil))))), ?_⟩
    refine ⟨_, rfl, _, rfl, _, rfl, _, _, rfl, rfl, a, ps, _, rfl, hS, hv, by omega, fun H1 s1 => ?_⟩
    refine ⟨_, rfl, _, rfl, a, ps, _, rfl, same_tup s1 hS, hv, hb, fun H2 s2 => ?_⟩
    exact ⟨_, _, rfl, rfl, k H2 (Same.trans s1 s2)⟩
/-! ### need_tariff -/
theorem scNeedT : FnScope ["thing", "number", "price"] ["thing"] (defScope sNeedTariff) := ⟨rfl, rfl, rfl, by decide +kernel, rfl, by decide +kernel, by decide +kernel⟩
def spNeedT (K : PySem.W.Frag) (C : Addr) : Sp := fun vs H Q E => ∃ (a : Addr) (ps : List Int), vs = [.ref a] ∧ H a = some (.tup (ps.map V.int)) ∧ (ValidT ps → ∀ H', Same H H' → Q (.ref a) H') ∧ (¬ ValidT ps → ∀ d H', Same H H' → E (.ref C) (some d) H')
theorem ok_needT {f fW C : Addr} {fd fdW : FuncData} (F : Fun K "need_tariff" "need_tariff" sNeedTariff f fd) (FW : Fun K "is_whole" "is_whole" sWhole fW fdW) (bW : Binds K fdW ["thing", "least", "most"] []) (gW : mg "is_whole_windows" = some (.ref fW)) (G : Gm mg) (T : BT P K mg C) :
    FnOk P w K mg base (L2.CX P w) 2 f fd ["thing"] (spNeedT K C) := by
  have GW : FnOk P w K mg base CX0 1 fW fdW ["thing", "least", "most"] spWhole := ok_whole (CX := CX0) FW G
  refine F.okX scNeedT (fun vs H Q E h => ?_) (fun cdv A outer s H vs Q E hr h => ?_)
  · obtain ⟨a, ps, rfl, _⟩ := h
    rfl
  · obtain ⟨a, ps, rfl, hS, kq, ke⟩ := h
    refine ⟨_, pss_cons (ps_if (PW.pt (pw_or (pt_not (pt_val (pe_callB call_isi (by rfl) G.fInst (by decide +kernel) (pa_cons (pv 0) (pa_cons (pe_bltn (by rfl) G.fTuple (by decide +kernel) (v := .ty "tuple") rfl) pa_nil)))))
        (pw_or1 (pt_not (pt_chain op_le op_le pe_int (pe_callB call_len_seq (by rfl) G.fLen PySem.boot_len (pa_cons (pv 0) pa_nil)) (pgI (by rfl) G.day))))))
        (pss_one (ps_raiseBT (W := fun cls d _ H => E cls d H) rfl T hr (takes_of rfl rfl rfl rfl) (pa_cons pe_non pa_nil))) pss_nil)
      (pss_cons (ps_for (passes_of rfl) rfl (pi_enumT (by rfl) G.fEnum (pa_cons (pv 0) pa_nil)) (pg_tup rfl (pgs_cons (pg_name (i := 1) scNeedT.nd rfl (Or.inl rfl)) (pgs_cons (pg_name (i := 2) scNeedT.nd rfl (Or.inl rfl)) pgs_nil)))
        (pss_one (ps_if (pt_not (pt_val (pe_call GW hr (by rfl) gW FW.kp bW .nil pass0 (pa_cons (pv 2) (pa_cons pe_int (pa_cons (pgI (by rfl) G.price) pa_nil))))))
          (pss_one (ps_raiseBT (W := fun cls d _ H => E cls d H) rfl T hr (takes_of rfl rfl rfl rfl) (pa_cons (pv 1) pa_nil))) pss_nil)))
      (pss_one (ps_ret (pv 0)))), ?_⟩
    have el : (ps.map V.int).length = ps.length := List.length_map ..
    refine ⟨_, rfl, _, _, _, _, true, rfl, .ty _, .base (.tup hS), kit_ty (by decide +kernel), _, rfl, iteF ?_⟩
    have bad : ¬ ValidT ps → ∀ (v : V) (d : Addr) (H1 : Hp), Same H H1 → H1 d = none → E (.ref C) (some d) (upd H1 d (.xd [("number", v)])) := fun nv v d H1 s1 hd => ke nv d _ (Same.trans s1 (same_new hd))
    refine ⟨_, rfl, _, _, rfl, .inr (.of hS), _, _, rfl, rfl, _, rfl, ?_⟩
    rw [el]
    refine ite2 (fun c1 => ?_) (fun c1 => ?_)
    · have l1 : (1 : Int) ≤ (ps.length : Int) := of_decide_eq_true c1
      refine ⟨_, _, rfl, rfl, _, rfl, ite2 (fun c2 => ?_) (fun c2 => ?_)⟩
      · have nv : ¬ ValidT ps := fun z => by
          have l2 : ¬ (ps.length : Int) ≤ 24 := of_decide_eq_false (by simpa using c2)
          have := z.2.1
          omega
        exact ⟨_, rfl, fun d hd => bad nv _ d H (Same.refl H) hd⟩
      · have l2 : (ps.length : Int) ≤ 24 := by simpa using c2
        refine ⟨_, rfl, a, _, rfl, .of hS, for_it (walk_enumT (xs := ps.map V.int)) (fun i σ H1 => ∃ v1 v2, σ = [some (.ref a), v1, v2] ∧ Same H H1 ∧ ∀ j n, j < i → ps[j]? = some n → 0 ≤ n ∧ n ≤ 10 ^ 6)
          ⟨none, none, rfl, Same.refl H, fun j n z => absurd z (Nat.not_lt_zero _)⟩ (fun i σ H1 _ ⟨_, _, _, s1, _⟩ => .of (s1 _ _ hS)) ?_ ?_⟩
        · rintro i x σ H1 H2 hi ⟨v1, v2, rfl, s1, good⟩ ⟨T', y1, y2, rfl, hT, rfl, e1, e2⟩
          obtain rfl : V.int (i : Nat) = y1 := Option.some.inj e1
          have e2' : (ps.map V.int)[i]? = some y2 := e2
          rw [List.getElem?_map] at e2'
          cases hq : ps[i]? with
          | none => rw [hq] at e2'; cases e2'
          | some n =>
            rw [hq] at e2'
            obtain rfl : V.int n = y2 := Option.some.inj e2'
            have s2 : Same H (upd H1 T' (.tup [.int (i : Nat), .int n])) := Same.trans s1 (same_new hT)
            refine ⟨T', _, rfl, .of upd_same, rfl, _, _, rfl, _, _, rfl, rfl, ?_⟩
            refine ⟨_, rfl, n, 0, 1000000, rfl, _, rfl, ite2 (fun c3 => ?_) (fun c3 => ?_)⟩
            · have nb : ¬ (0 ≤ n ∧ n ≤ 1000000) := not_of c3
              have nv : ¬ ValidT ps := fun z => nb (z.2.2 n (List.mem_of_getElem? hq))
              exact ⟨_, rfl, _, rfl, fun d hd => bad nv _ d _ s2 hd⟩
            · have ok : 0 ≤ n ∧ n ≤ 1000000 := yes_of c3
              refine ⟨_, _, rfl, s2, fun j m hj hm => ?_⟩
              rcases Nat.lt_succ_iff_lt_or_eq.mp hj with h1 | h1
              · exact good j m h1 hm
              · subst h1
                rw [hq] at hm
                cases hm
                exact ok
        · rintro σ H1 ⟨v1, v2, rfl, s1, good⟩
          refine ⟨_, rfl, kq ⟨by omega, by omega, fun n hn => ?_⟩ H1 s1⟩
          obtain ⟨j, hj⟩ := List.mem_iff_getElem?.mp hn
          exact good j n (by rw [el]; exact (List.getElem?_eq_some_iff.mp hj).1) hj
    · have nv : ¬ ValidT ps := fun z => by
        have l2 : ¬ (1 : Int) ≤ (ps.length : Int) := fun y => c1 (decide_eq_true y)
        have := z.1
        omega
      refine ⟨_, rfl, ?_⟩
      exact ⟨_, rfl, fun d hd => bad nv _ d H (Same.refl H) hd⟩
end
end K94
set_option Elab.async false
set_option linter.all false
set_option maxRecDepth 100000
set_option maxHeartbeats 4000000
/-! What a call costs, its cheapest begin. -/
namespace K94
open PySem PySem.Spec PyProof.Rows L2
theorem paired_snoc {α β : Type} {F : α → β → Prop} {x : α} {y : β} (h : F x y) : ∀ {xs : List α} {ys : List β}, Paired F xs ys → Paired F (xs ++ [x]) (ys ++ [y])
  | _, _, .nil => .cons h .nil
  | _, _, .cons r t => .cons r (paired_snoc h t)
theorem pairs_succ (ps : List Int) (m lo : Int) (n : Nat) : pairsF ps m lo (n + 1) = pairsF ps m lo n ++ [(costF ps (lo + (n : Int)) m, lo + (n : Int))] := by
  unfold pairsF
  rw [List.range_succ, List.map_append]
  rfl
theorem pairs_len (ps : List Int) (m lo : Int) (n : Nat) : (pairsF ps m lo n).length = n := by
  unfold pairsF
  rw [List.length_map, List.length_range]
section
variable {P : Program} {w : World} {K : PySem.W.Frag} {mg : Str → Option Value} {base : Heap}
/-- what a def that raises lets out, at its own wish -/
theorem passE {N : List Str} {qual : Str} {sc : Scope} {f : Addr} {cdv : Value} {A : Around} {outer : List Env} {s : Shared} {H : Hp} {E : XK} : Passes (L2.CX P w) (cxOf (L2.CX P w) P w K mg base N qual sc f cdv A outer s H E) E :=
  passes_call (W := fun cls d _ H => E cls d H) (takes_of rfl rfl rfl rfl) fun _ _ _ _ h => h
/-! ### cost -/
theorem scCost : FnScope ["tariff", "begin", "moments"] ["tariff", "begin", "moments"] (defScope sCost) := ⟨rfl, rfl, rfl, by decide +kernel, rfl, by decide +kernel, by decide +kernel⟩
def spCost (K : PySem.W.Frag) (CO : Addr) : Sp := fun vs H Q E => ∃ (a : Addr) (ps : List Int) (b m : Int), vs = [.ref a, .int b, .int m] ∧ H a = some (.tup (ps.map V.int)) ∧ ValidT ps ∧
  ((0 ≤ b ∧ b ≤ M30) ∧ 1 ≤ m ∧ m ≤ M30 → ∀ H', Same H H' → Q (.int (costF ps b m)) H') ∧ (¬ ((0 ≤ b ∧ b ≤ M30) ∧ 1 ≤ m ∧ m ≤ M30) → ∀ H', Same H H' → E (.ref CO) none H')
theorem ok_cost {f fN fW fO CT CO : Addr} {fd fdN fdW fdO : FuncData} (F : Fun K "cost" "cost" sCost f fd) (G : Gm mg) (TO : OP P K mg CO)
    (GN : FnOk P w K mg base (L2.CX P w) 2 fN fdN ["thing"] (spNeedT K CT)) (kN : PySem.W.keepIn K (.ref fN) = true) (bN : Binds K fdN ["thing"] []) (gN : mg "need_tariff" = some (.ref fN))
    (GW : FnOk P w K mg base CX0 1 fW fdW ["thing", "least", "most"] spWhole) (kW : PySem.W.keepIn K (.ref fW) = true) (bW : Binds K fdW ["thing", "least", "most"] []) (gW : mg "is_whole_windows" = some (.ref fW))
    (GO : FnOk P w K mg base CX0 2 fO fdO ["tariff", "begin", "moments"] (spCostOf K)) (kO : PySem.W.keepIn K (.ref fO) = true) (bO : Binds K fdO ["tariff", "begin", "moments"] []) (gO : mg "cost_of" = some (.ref fO)) :
    FnOk P w K mg base (L2.CX P w) 3 f fd ["tariff", "begin", "moments"] (spCost K CO) := by
  refine F.okX scCost (fun vs H Q E h => ?_) (fun cdv A outer s H vs Q E hr h => ?_)
  · obtain ⟨a, ps, b, m, rfl, _⟩ := h
    rfl
  · obtain ⟨a, ps, b, m, rfl, hS, hv, kq, ke⟩ := h
    have hr1 : Room 1 _ := hr.mono (by decide)
    refine ⟨_, pss_cons (ps_expr (pe_call GN hr (by rfl) gN kN bN .nil passE (pa_cons (pv 0) pa_nil)))
      (pss_cons (ps_if (PW.pt (pw_or (pt_not (pt_val (pe_call GW hr1 (by rfl) gW kW bW .nil pass0 (pa_cons (pv 1) (pa_cons pe_int (pa_cons (pgI (by rfl) G.moment) pa_nil))))))
        (pw_or1 (pt_not (pt_val (pe_call GW hr1 (by rfl) gW kW bW .nil pass0 (pa_cons (pv 2) (pa_cons pe_int (pa_cons (pgI (by rfl) G.moment) pa_nil)))))))))
        (pss_one (ps_raiseOP (W := fun cls d _ H => E cls d H) rfl TO hr (takes_of rfl rfl rfl rfl) (pa_cons pe_str pa_nil))) pss_nil)
      (pss_one (ps_ret (pe_call GO hr (by rfl) gO kO bO .nil pass0 (pa_cons (pv 0) (pa_cons (pv 1) (pa_cons (pv 2) pa_nil))))))), ?_⟩
    refine ⟨_, rfl, a, ps, rfl, hS, fun _ H1 s1 => ?_, fun nv => absurd hv nv⟩
    have go : ((0 ≤ b ∧ b ≤ M30) ∧ 1 ≤ m ∧ m ≤ M30) → ∃ (a' : Addr) (ps' : List Int) (b' m' : Int), [V.ref a, .int b, .int m] ++ [] = [.ref a', .int b', .int m'] ∧ SqT K H1 a' (ps'.map V.int) ∧ ValidT ps' ∧ 0 ≤ b' ∧ 0 ≤ m' ∧ ∀ H', Same H1 H' → Q (.int (costF ps' b' m')) H' := fun z =>
      ⟨a, ps, b, m, rfl, .of (s1 _ _ hS), hv, z.1.1, by omega, fun H2 s2 => kq z H2 (Same.trans s1 s2)⟩
    refine ⟨_, rfl, b, 0, M30, rfl, _, rfl, ite2 (fun c1 => ?_) (fun c1 => ?_)⟩
    · exact ⟨_, rfl, ke (fun z => not_of c1 z.1) H1 s1⟩
    · refine ⟨_, rfl, m, 1, M30, rfl, _, rfl, ite2 (fun c2 => ?_) (fun c2 => ?_)⟩
      · exact ⟨_, rfl, ke (fun z => not_of c2 z.2) H1 s1⟩
      · exact ⟨_, rfl, _, rfl, _, rfl, go ⟨yes_of c1, yes_of c2⟩⟩
/-! ### cheapest -/
theorem scCheap : FnScope ["tariff", "moments", "low", "high", "last", "begin"] ["tariff", "moments", "low", "high"] (defScope sCheapest) := ⟨rfl, rfl, rfl, by decide +kernel, rfl, by decide +kernel, by decide +kernel⟩
def spCheap (K : PySem.W.Frag) (CO : Addr) : Sp := fun vs H Q E => ∃ (a : Addr) (ps : List Int) (m lo hi : Int), vs = [.ref a, .int m, .int lo, .int hi] ∧ H a = some (.tup (ps.map V.int)) ∧ ValidT ps ∧
  (((1 ≤ m ∧ m ≤ M30) ∧ 0 ≤ lo ∧ lo ≤ M30) ∧ lo ≤ hi ∧ hi ≤ M30 → ∀ H', Same H H' → Q (.int (bestF ps m lo hi)) H') ∧ (¬ (((1 ≤ m ∧ m ≤ M30) ∧ 0 ≤ lo ∧ lo ≤ M30) ∧ lo ≤ hi ∧ hi ≤ M30) → ∀ H', Same H H' → E (.ref CO) none H')
theorem ok_cheap {f fN fW fO CT CO : Addr} {fd fdN fdW fdO : FuncData} (F : Fun K "cheapest" "cheapest" sCheapest f fd) (G : Gm mg) (TO : OP P K mg CO)
    (GN : FnOk P w K mg base (L2.CX P w) 2 fN fdN ["thing"] (spNeedT K CT)) (kN : PySem.W.keepIn K (.ref fN) = true) (bN : Binds K fdN ["thing"] []) (gN : mg "need_tariff" = some (.ref fN))
    (GW : FnOk P w K mg base CX0 1 fW fdW ["thing", "least", "most"] spWhole) (kW : PySem.W.keepIn K (.ref fW) = true) (bW : Binds K fdW ["thing", "least", "most"] []) (gW : mg "is_whole_windows" = some (.ref fW))
    (GO : FnOk P w K mg base CX0 2 fO fdO ["tariff", "begin", "moments"] (spCostOf K)) (kO : PySem.W.keepIn K (.ref fO) = true) (bO : Binds K fdO ["tariff", "begin", "moments"] []) (gO : mg "cost_of" = some (.ref fO)) :
    FnOk P w K mg base (L2.CX P w) 3 f fd ["tariff", "moments", "low", "high"] (spCheap K CO) := by
  refine F.okX scCheap (fun vs H Q E h => ?_) (fun cdv A outer s H vs Q E hr h => ?_)
  · obtain ⟨a, ps, m, lo, hi, rfl, _⟩ := h
    rfl
  · obtain ⟨a, ps, m, lo, hi, rfl, hS, hv, kq, ke⟩ := h
    have hr1 : Room 1 _ := hr.mono (by decide)
    refine ⟨_, pss_cons (ps_expr (pe_call GN hr (by rfl) gN kN bN .nil passE (pa_cons (pv 0) pa_nil)))
      (pss_cons (ps_if (PW.pt (pw_or (pt_not (pt_val (pe_call GW hr1 (by rfl) gW kW bW .nil pass0 (pa_cons (pv 1) (pa_cons pe_int (pa_cons (pgI (by rfl) G.moment) pa_nil))))))
        (pw_or1 (pt_not (pt_val (pe_call GW hr1 (by rfl) gW kW bW .nil pass0 (pa_cons (pv 2) (pa_cons pe_int (pa_cons (pgI (by rfl) G.moment) pa_nil)))))))))
        (pss_one (ps_raiseOP (W := fun cls d _ H => E cls d H) rfl TO hr (takes_of rfl rfl rfl rfl) (pa_cons pe_str pa_nil))) pss_nil)
      (pss_cons (ps_if (pt_not (pt_val (pe_call GW hr1 (by rfl) gW kW bW .nil pass0 (pa_cons (pv 3) (pa_cons (pv 2) (pa_cons (pgI (by rfl) G.moment) pa_nil))))))
        (pss_one (ps_raiseOP (W := fun cls d _ H => E cls d H) rfl TO hr (takes_of rfl rfl rfl rfl) (pa_cons pe_str pa_nil))) pss_nil)
      (pss_cons (ps_set (i := 4) scCheap.nd rfl (Or.inl rfl) (pe_callB (call_min2 rfl) (by rfl) G.fMin (by decide +kernel) (pa_cons (pv 3) (pa_cons (pe_op op_sub (pe_op op_add (pv 2) (pe_callB call_len_seq (by rfl) G.fLen PySem.boot_len (pa_cons (pv 0) pa_nil))) pe_int) pa_nil))))
      (pss_one (ps_ret (pe_ix ix_tup (pe_callB (cr_minP rfl (by have := hr.un; show (A.deeper _).units + 65 < cLine; omega)) (by rfl) G.fMin (by decide +kernel)
        (pa_cons (pe_lc (own := [("begin", 5)]) (g := gName 5) (tt := tYes) rfl scCheap.nd (pi_rangeW (by rfl) G.fRange (pa_cons (pv 2) (pa_cons (pe_op op_add (pv 4) pe_int) pa_nil)))
          (blkOk_by (N := ["tariff", "moments", "low", "high", "last", "begin"]) (sc := defScope sCheapest) (by decide +kernel)) (fun _ _ _ _ _ => pg_name (i := 5) scCheap.nd rfl (Or.inl rfl)) (fun _ _ _ _ _ => pts_nil)
          (fun _ _ _ _ _ => pe_tup (pa_cons (pe_call GO hr (by rfl) gO kO bO .nil pass0 (pa_cons (pv 0) (pa_cons (pv 5) (pa_cons (pv 1) pa_nil)))) (pa_cons (pv 5) pa_nil)))) pa_nil)) pe_int (fun _ _ => rfl))))))), ?_⟩
    refine ⟨_, rfl, a, ps, rfl, hS, fun _ H1 s1 => ?_, fun nv => absurd hv nv⟩
    refine ⟨_, rfl, m, 1, M30, rfl, _, rfl, ite2 (fun c1 => ?_) (fun c1 => ?_)⟩
    · exact ⟨_, rfl, ke (fun z => not_of c1 z.1.1) H1 s1⟩
    · refine ⟨_, rfl, lo, 0, M30, rfl, _, rfl, ite2 (fun c2 => ?_) (fun c2 => ?_)⟩
      · exact ⟨_, rfl, ke (fun z => not_of c2 z.1.2) H1 s1⟩
      · refine ⟨_, rfl, _, rfl, hi, lo, M30, rfl, _, rfl, ite2 (fun c3 => ?_) (fun c3 => ?_)⟩
        · exact ⟨_, rfl, ke (fun z => not_of c3 z.2) H1 s1⟩
        · have z1 := yes_of c1
          have z2 := yes_of c2
          have z3 := yes_of c3
          have hq := kq ⟨⟨z1, z2⟩, z3⟩
          have el : (ps.map V.int).length = ps.length := List.length_map ..
          refine ⟨_, rfl, _, rfl, _, rfl, _, _, rfl, .inr (.of (s1 _ _ hS)), _, _, rfl, rfl, _, _, rfl, rfl, _, _, rfl, ?_⟩
          rw [el]
          have l1 := hv.1
          have la : lo ≤ lastF ps lo hi := by
            unfold lastF
            split <;> omega
          have lb : lastF ps lo hi + 1 - lo ≤ 24 := by
            have := hv.2.1
            unfold lastF
            split <;> omega
          have hbest : bestF ps m lo hi = leastF (pairsF ps m lo (lastF ps lo hi + 1 - lo).toNat) := rfl
          rw [show (if lo + (ps.length : Int) - 1 < hi then lo + (ps.length : Int) - 1 else hi) = lastF ps lo hi from rfl]
          generalize lastF ps lo hi = ls at la lb hbest
          refine ⟨_, rfl, _, rfl, _, _, rfl, rfl, lo, ls + 1, rfl, fun D hD => lc_range (lo := lo) (n := (ls + 1 - lo).toNat) (fun i H2 => Same H1 H2 ∧ ∃ ts : List Addr, H2 D = some (.lst (ts.map V.ref)) ∧ Paired (fun (t : Addr) (q : Int × Int) => H2 t = some (.tup [.int q.1, .int q.2])) ts (pairsF ps m lo i))
            ⟨same_new hD, [], upd_same, .nil⟩ ?_ ?_⟩
          · rintro i H2 hi' ⟨s2, ts, hDl, hP⟩
            have hl := hP.length
            rw [pairs_len] at hl
            refine ⟨rfl, ?_⟩
            refine ⟨_, rfl, _, rfl, _, rfl, a, ps, _, _, rfl, .of (s2 _ _ (s1 _ _ hS)), hv, by omega, by omega, fun H3 s3 => ?_⟩
            refine ⟨_, rfl, by show 2 ≤ sizeLine; decide, fun t ht => ?_⟩
            have hDl3 : H3 D = some (.lst (ts.map V.ref)) := s3 _ _ hDl
            have nDt : D ≠ t := ne_of_none hDl3 ht
            refine ⟨ts.map V.ref, by rw [upd_ne nDt]; exact hDl3, by rw [List.length_map, sizeLine_eq]; omega, fun b o e => ?_, ts ++ [t], ?_, ?_⟩
            · have hb : b ≠ D := ne_of_none e hD
              rw [upd_ne hb, upd_ne (ne_of_none (s3 _ _ (s2 _ _ e)) ht)]
              exact s3 _ _ (s2 _ _ e)
            · rw [upd_same, List.map_append]
              rfl
            · rw [pairs_succ]
              refine paired_snoc ?_ (Paired.mapP hP fun t' q e => ?_)
              · rw [upd_ne nDt.symm, upd_same]
              · have e3 := s3 _ _ e
                rw [upd_ne (ne_of e3 hDl3 (by intro z; cases z)), upd_ne (ne_of_none e3 ht)]
                exact e3
          · rintro H2 ⟨s2, ts, hDl, hP⟩
            cases hp : pairsF ps m lo (ls + 1 - lo).toNat with
            | nil =>
              have := pairs_len ps m lo (ls + 1 - lo).toNat
              rw [hp] at this
              have z : (0 : Nat) = (ls + 1 - lo).toNat := this
              omega
            | cons q r =>
              rw [hp] at hP hbest
              refine ⟨D, ts, q, r, rfl, .of hDl, hP, fun t ht => ?_⟩
              refine ⟨_, _, _, _, rfl, rfl, .of ht, rfl, ?_⟩
              have e : bestF ps m lo hi = (PySem.W.minOf q r).2 := hbest
              rw [← e]
              exact hq H2 (Same.trans s1 s2)
end
end K94
set_option Elab.async false
set_option linter.all false
set_option maxRecDepth 100000
set_option maxHeartbeats 4000000
/-! A number read off a word. -/
namespace K94
open PySem PySem.Spec PyProof.Rows L2
theorem numS_small {n : Int} (h : OkN n) : n.natAbs.log2 < 1920 := by
  obtain ⟨h1, h2⟩ := h
  have z : n.natAbs < 2 ^ 1920 := Nat.lt_of_lt_of_le (m := 10 ^ 31) (by omega) (by decide +kernel)
  by_cases h0 : n.natAbs = 0
  · rw [h0]; decide
  · exact (Nat.log2_lt h0).mpr z
section
variable {P : Program} {w : World} {K : PySem.W.Frag} {mg : Str → Option Value} {base : Heap}
theorem figs_all {n : Int} (h : OkN n) {i : Nat} {c : Nat} (hc : (figS n).cps[i]? = some c) : c ∈ digS.cps.toList := by
  refine fig_dig h c ?_
  rw [Array.mem_toList_iff]
  exact Array.mem_of_getElem? hc
theorem all_yes : ∀ n : Nat, (List.replicate n true).all id = true
  | 0 => rfl
  | n + 1 => by
    rw [List.replicate_succ, List.all_cons, all_yes n]
    rfl
theorem rep_snoc (n : Nat) : (List.replicate n true).map V.bl ++ [V.bl true] = (List.replicate (n + 1) true).map V.bl := by
  rw [List.replicate_succ', List.map_append]
  rfl
theorem scInt : FnScope ["word", "figures", "sign"] ["word"] (defScope sInteger) := ⟨rfl, rfl, rfl, by decide +kernel, rfl, by decide +kernel, by decide +kernel⟩
def spInt : Sp := fun vs H Q _ => ∃ n : Int, vs = [.str (numS n)] ∧ OkN n ∧ ∀ H', Same H H' → Q (.int n) H'
theorem ok_int {f : Addr} {fd : FuncData} (F : Fun K "integer_of" "integer_of" sInteger f fd) (G : Gm mg) : FnOk P w K mg base CX0 1 f fd ["word"] spInt := by
  refine F.ok scInt (fun vs H Q E h => ?_) (fun cdv A outer s H vs Q E hr h => ?_)
  · obtain ⟨n, rfl, _⟩ := h
    rfl
  · obtain ⟨n, rfl, hn, k⟩ := h
    refine ⟨_, pss_cons (ps_set (i := 1) scInt.nd rfl (Or.inl rfl) (pe_ifExp (pt_val (pe_m1 PySem.F.slot_str_startswith PySem.F.type_str_startswith mt_startswith (pv 0) (pgS (by rfl) G.minus))) (pe_slice sl_str (pv 0) (po_some pe_int) po_none) (pv 0)))
      (pss_cons (ps_if (PW.pt (pw_or (pt_not (pt_chain op_le op_le pe_int (pe_callB call_len_str (by rfl) G.fLen PySem.boot_len (pa_cons (pv 1) pa_nil)) (pgI (by rfl) G.figures)))
        (pw_or1 (pt_not (pt_val (pe_callB (cr_all rfl) (by rfl) G.fAll (by decide +kernel) (pa_cons (pe_lc (own := [("sign", 2)]) (g := gName 2) (tt := tYes) rfl scInt.nd (pi_str (pv 1))
          (blkOk_by (N := ["word", "figures", "sign"]) (sc := defScope sInteger) (by decide +kernel)) (fun _ _ _ _ _ => pg_name (i := 2) scInt.nd rfl (Or.inl rfl)) (fun _ _ _ _ _ => pts_nil)
          (fun _ _ _ _ _ => pe_cmpR op_in_sign (pv 2) (pgS (by rfl) G.digits) rfl)) pa_nil)))))))
        (pss_one (ps_ret pe_non)) pss_nil)
      (pss_one (ps_ret (pe_ifExp (pt_cmpR op_eq (pe_callTy call_str_int (by rfl) G.fStr (by decide +kernel) (pa_cons (pe_callTy call_int_str (by rfl) G.fInt (by decide +kernel) (pa_cons (pv 0) pa_nil)) pa_nil)) (pv 0) (nomark _))
        (pe_callTy call_int_str (by rfl) G.fInt (by decide +kernel) (pa_cons (pv 0) pa_nil)) pe_non)))), ?_⟩
    have hf := fig_len hn
    have l31 : (31 : Nat) ≤ sizeLine := by rw [sizeLine_eq]; decide
    refine ⟨_, rfl, ⟨_, rfl⟩, _, _, rfl, rfl, _, rfl, ite2 (fun h0 => ?_) (fun h0 => ?_)⟩
    case' refine_1 =>
      rw [starts_neg hn] at h0
      have e : figS n = cutS (numS n) (some 1) none := if_pos (of_decide_eq_true h0)
      refine ⟨_, rfl, _, rfl, _, rfl, Nat.le_trans (numS_len hn) l31, ?_⟩
      rw [← e]
    case' refine_2 =>
      rw [starts_neg hn] at h0
      have e : figS n = numS n := if_neg (fun z => h0 (decide_eq_true z))
      refine ⟨V.str (figS n), by rw [e]; rfl, ?_⟩
    all_goals
      refine ⟨_, rfl, _, rfl, Nat.le_trans hf.2 l31, _, _, rfl, rfl, _, rfl, ?_⟩
      rw [if_pos (decide_eq_true (show (1 : Int) ≤ ((figS n).length : Int) by omega))]
      refine ⟨_, _, rfl, rfl, _, rfl, ?_⟩
      rw [show decide (((figS n).length : Int) ≤ 31) = true from decide_eq_true (by omega)]
      refine iteF ?_
      refine ⟨_, rfl, _, rfl, fun D hD => lc_it (walk_str (z := figS n)) (fun i H2 => H2 D = some (.lst ((List.replicate i true).map V.bl)) ∧ Same H H2) ⟨upd_same, same_new hD⟩ (fun _ _ _ _ => trivial) ?_ ?_⟩
      · rintro i x H2 H3 hi ⟨hl, s2⟩ ⟨rfl, c, hc, rfl⟩
        refine ⟨rfl, ?_⟩
        refine ⟨_, rfl, _, _, rfl, rfl, ?_⟩
        have ed : decide (c ∈ (Str.ofString "0123456789").cps.toList) = true := decide_eq_true (figs_all hn hc)
        rw [ed]
        have hi31 : i < 31 := Nat.lt_of_lt_of_le hi hf.2
        refine ⟨_, hl, by rw [List.length_map, List.length_replicate]; omega, ?_, ?_⟩
        · rw [upd_same, rep_snoc]
        · intro b o e
          rw [upd_ne (ne_of_none e hD)]
          exact s2 _ _ e
      · rintro H2 ⟨hl, s2⟩
        refine ⟨D, _, rfl, .of hl, _, rfl, ?_⟩
        rw [all_yes]
        refine iteF ?_
        have hs : Same H H2 := s2
        have hl640 : (numS n).length ≤ 640 := Nat.le_trans (numS_len hn) (by decide)
        refine ⟨_, rfl, _, n, rfl, int_numS hn, hl640, n, rfl, numS_small hn, _, rfl, rfl, _, rfl, ?_⟩
        rw [show decide (V.str (Str.ofString (toString n)) = V.str (numS n)) = true from decide_eq_true rfl]
        refine iteT ?_
        exact ⟨_, rfl, _, n, rfl, int_numS hn, hl640, k _ hs⟩
end
end K94
set_option Elab.async false
set_option linter.all false
set_option maxRecDepth 100000
set_option maxHeartbeats 4000000
/-! The desk: made, its page, a line added. -/
namespace K94
open PySem PySem.Spec PyProof.Rows L2
/-- all but p as it was -/
def Kept (p : Addr) (H H' : Hp) : Prop := ∀ b u, H b = some u → b ≠ p → H' b = some u
theorem Same.kept {p : Addr} {H H' : Hp} (h : Same H H') : Kept p H H' := fun b u e _ => h b u e
theorem Kept.trans {p : Addr} {H H1 H2 : Hp} (h : Kept p H H1) (h' : Kept p H1 H2) : Kept p H H2 := fun b u e n => h' b u (h b u e n) n
theorem kept_upd {p : Addr} {H : Hp} {o : HO} : Kept p H (upd H p o) := fun b u e n => by rw [upd_ne n]; exact e
def TarAt (H : Hp) (tv : V) (t : List Int) : Prop := (t = [] ∧ tv = .non) ∨ (∃ a, tv = .ref a ∧ ValidT t ∧ H a = some (.tup (t.map V.int)))
def dFs (pl : Addr) (tv : V) : List (Str × V) := [("own_lines", .ref pl), ("own_signs", .non), ("own_width", .non), ("own_tariff", tv)]
/-- a desk at p with such a page and such a tariff -/
def DeskAt (C : Addr) (H : Hp) (p : Addr) (ls : List Str) (t : List Int) : Prop := ∃ dx pl tv, H p = some (.ins C dx (dFs pl tv)) ∧ H pl = some (.tup (ls.map V.str)) ∧ TarAt H tv t
/-- what the class holds -/
structure Dk (K : PySem.W.Frag) (C : Addr) : Prop where
  cl : Cls K C
  nl : NoAttr K C "own_lines"
  ns : NoAttr K C "own_signs"
  nw : NoAttr K C "own_width"
  nt : NoAttr K C "own_tariff"
theorem TarAt.kept {p C dx : Addr} {fs : List (Str × V)} {H H' : Hp} {tv : V} {t : List Int} (h : TarAt H tv t) (k : Kept p H H') (e : H p = some (.ins C dx fs)) : TarAt H' tv t := by
  rcases h with h | ⟨a, h1, h2, h3⟩
  · exact .inl h
  · exact .inr ⟨a, h1, h2, k _ _ h3 (ne_of h3 e (by intro z; cases z))⟩
theorem DeskAt.same {C : Addr} {H H' : Hp} {p : Addr} {ls : List Str} {t : List Int} (h : DeskAt C H p ls t) (s : Same H H') : DeskAt C H' p ls t := by
  obtain ⟨dx, pl, tv, h1, h2, h3⟩ := h
  refine ⟨dx, pl, tv, s _ _ h1, s _ _ h2, h3.elim .inl fun ⟨a, e, v, z⟩ => .inr ⟨a, e, v, s _ _ z⟩⟩
section
variable {P : Program} {w : World} {K : PySem.W.Frag} {mg : Str → Option Value} {base : Heap}
/-! ### Desk() -/
theorem scDI : FnScope ["self"] ["self"] (defScope sDInit) := ⟨rfl, rfl, rfl, by decide +kernel, rfl, by decide +kernel, by decide +kernel⟩
def spDI (C : Addr) : Sp := fun vs H Q _ => ∃ p dx, vs = [.ref p] ∧ H p = some (.ins C dx []) ∧ ∀ H', Kept p H H' → DeskAt C H' p [] [] → Q .non H'
theorem ok_dinit {f C : Addr} {fd : FuncData} (F : Fun K "__init__" "Desk.__init__" sDInit f fd) (T : Dk K C) : FnOk P w K mg base CX0 1 f fd ["self"] (spDI C) := by
  refine F.ok scDI (fun vs H Q E h => ?_) (fun cdv A outer s H vs Q E hr h => ?_)
  · obtain ⟨p, dx, rfl, _⟩ := h
    rfl
  · obtain ⟨p, dx, rfl, hp, k⟩ := h
    refine ⟨_, pss_cons (ps_fld (pv 0) (pe_tup pa_nil) rfl) (pss_cons (ps_fld (pv 0) pe_non rfl) (pss_cons (ps_fld (pv 0) pe_non rfl) (pss_one (ps_fld (pv 0) pe_non rfl)))), ?_⟩
    refine ⟨by show 0 ≤ sizeLine; omega, fun l hl => ?_⟩
    have npl : p ≠ l := ne_of_none hp hl
    refine ⟨_, rfl, p, C, dx, _, rfl, by rw [upd_ne npl]; exact hp, T.cl, T.nl, by show (0 : Nat) < 1000; decide, ?_⟩
    refine ⟨_, rfl, p, C, dx, _, rfl, upd_same, T.cl, T.ns, by show (1 : Nat) < 1000; decide, ?_⟩
    refine ⟨_, rfl, p, C, dx, _, rfl, upd_same, T.cl, T.nw, by show (2 : Nat) < 1000; decide, ?_⟩
    refine ⟨_, rfl, p, C, dx, _, rfl, upd_same, T.cl, T.nt, by show (3 : Nat) < 1000; decide, ?_⟩
    refine k _ (fun b u e n => ?_) ⟨dx, l, .non, upd_same, ?_, .inl ⟨rfl, rfl⟩⟩
    · rw [upd_ne n, upd_ne n, upd_ne n, upd_ne n, upd_ne (ne_of_none e hl)]
      exact e
    · rw [upd_ne npl.symm, upd_ne npl.symm, upd_ne npl.symm, upd_ne npl.symm]
      exact upd_same
/-! ### page -/
theorem scPg : FnScope ["self"] ["self"] (defScope sPage) := ⟨rfl, rfl, rfl, by decide +kernel, rfl, by decide +kernel, by decide +kernel⟩
theorem ok_page {f C : Addr} {fd : FuncData} (F : Fun K "page" "Desk.page" sPage f fd) (T : Dk K C) : FnOk P w K mg base CX0 1 f fd ["self"] (getSp C "own_lines") := by
  refine F.ok scPg (fun vs H Q E h => ?_) (fun cdv A outer s H vs Q E hr h => ?_)
  · obtain ⟨a, dx, fs, v, rfl, _⟩ := h
    rfl
  · obtain ⟨a, dx, fs, v, rfl, ea, l, q⟩ := h
    refine ⟨_, pss_one (ps_ret (pe_fld (pv 0) rfl)), ?_⟩
    exact ⟨.ref a, rfl, a, C, dx, fs, v, rfl, ea, T.cl, T.nl, l, q⟩
/-! ### is_line -/
theorem scIsL : FnScope ["thing", "dot"] ["thing"] (defScope sIsLine) := ⟨rfl, rfl, rfl, by decide +kernel, rfl, by decide +kernel, by decide +kernel⟩
def lnS : Str := ".#"
def spIsL : Sp := fun vs H Q _ => vs = [.str lnS] ∧ ∀ H', Same H H' → Q (.bl true) H'
theorem ok_isLine {f : Addr} {fd : FuncData} (F : Fun K "is_line" "is_line" sIsLine f fd) (G : Gm mg) : FnOk P w K mg base CX0 1 f fd ["thing"] spIsL := by
  refine F.ok scIsL (fun vs H Q E h => ?_) (fun cdv A outer s H vs Q E hr h => ?_)
  · obtain ⟨rfl, _⟩ := h
    rfl
  · obtain ⟨rfl, k⟩ := h
    refine ⟨_, pss_cons (ps_if (PW.pt (pw_or (pt_not (pt_val (pe_callB call_isi (by rfl) G.fInst (by decide +kernel) (pa_cons (pv 0) (pa_cons (pe_bltn (by rfl) G.fStr (by decide +kernel) (v := .ty "str") rfl) pa_nil)))))
        (pw_or1 (pt_not (pt_chain op_le op_le pe_int (pe_callB call_len_str (by rfl) G.fLen PySem.boot_len (pa_cons (pv 0) pa_nil)) (pgI (by rfl) G.width))))))
        (pss_one (ps_ret pe_bl)) pss_nil)
      (pss_one (ps_ret (pe_callB (cr_all rfl) (by rfl) G.fAll (by decide +kernel) (pa_cons (pe_lc (own := [("dot", 1)]) (g := gName 1) (tt := tYes) rfl scIsL.nd (pi_str (pv 0))
          (blkOk_by (N := ["thing", "dot"]) (sc := defScope sIsLine) (by decide +kernel)) (fun _ _ _ _ _ => pg_name (i := 1) scIsL.nd rfl (Or.inl rfl)) (fun _ _ _ _ _ => pts_nil)
          (fun _ _ _ _ _ => pe_cmpR op_in_sign (pv 1) (pe_op op_add_str (pgS (by rfl) G.white) (pgS (by rfl) G.black)) rfl)) pa_nil)))), ?_⟩
    refine ⟨_, rfl, _, _, _, _, true, rfl, .ty _, .base (.str lnS), kit_ty (by decide +kernel), _, rfl, iteF ?_⟩
    refine ⟨_, rfl, _, rfl, by rw [sizeLine_eq]; decide +kernel, _, _, rfl, rfl, _, rfl, iteT ?_⟩
    refine ⟨_, _, rfl, rfl, _, rfl, iteF ?_⟩
    refine ⟨_, rfl, _, rfl, fun D hD => lc_it (walk_str (z := lnS)) (fun i H2 => H2 D = some (.lst ((List.replicate i true).map V.bl)) ∧ Same H H2) ⟨upd_same, same_new hD⟩ (fun _ _ _ _ => trivial) ?_ ?_⟩
    · rintro i x H2 H3 hi ⟨hl, s2⟩ ⟨rfl, c, hc, rfl⟩
      refine ⟨rfl, ?_⟩
      refine ⟨_, rfl, _, _, rfl, rfl, by rw [sizeLine_eq]; decide +kernel, _, _, rfl, rfl, ?_⟩
      have hm : c ∈ lnS.cps.toList := by
        rw [Array.mem_toList_iff]
        exact Array.mem_of_getElem? hc
      have ed : decide (c ∈ ((Str.ofString ".") ++ (Str.ofString "#")).cps.toList) = true := decide_eq_true hm
      rw [ed]
      have hi2 : i < 2 := hi
      refine ⟨_, hl, by rw [List.length_map, List.length_replicate, sizeLine_eq]; omega, ?_, ?_⟩
      · rw [upd_same, rep_snoc]
      · intro b o e
        rw [upd_ne (ne_of_none e hD)]
        exact s2 _ _ e
    · rintro H2 ⟨hl, s2⟩
      refine ⟨D, _, rfl, .of hl, ?_⟩
      rw [all_yes]
      exact k _ s2
end
end K94
set_option Elab.async false
set_option linter.all false
set_option maxRecDepth 100000
set_option maxHeartbeats 4000000
/-! A line added to an empty page; what is never reached. -/
namespace K94
open PySem PySem.Spec PyProof.Rows L2
theorem ps_dead {X : Cx} {st : Stmt} : PS X st (fun _ _ _ => False) := ⟨fun _ _ _ _ _ _ h => h.elim⟩
theorem pe_dead {X : Cx} {e : Expr} : PE X e (fun _ _ _ => False) := ⟨fun _ _ _ _ _ _ h => h.elim⟩
section
variable {P : Program} {w : World} {K : PySem.W.Frag} {mg : Str → Option Value} {base : Heap}
/-! ### need_page -/
theorem scNP : FnScope ["thing", "number", "line"] ["thing"] (defScope sNeedPage) := ⟨rfl, rfl, rfl, by decide +kernel, rfl, by decide +kernel, by decide +kernel⟩
def spNP : Sp := fun vs H Q _ => ∃ a, vs = [.ref a] ∧ H a = some (.tup [.str lnS]) ∧ ∀ H', Same H H' → Q (.ref a) H'
theorem ok_needPage {f fL : Addr} {fd fdL : FuncData} (F : Fun K "need_page" "need_page" sNeedPage f fd) (FL : Fun K "is_line" "is_line" sIsLine fL fdL) (bL : Binds K fdL ["thing"] []) (gL : mg "is_line" = some (.ref fL)) (G : Gm mg) :
    FnOk P w K mg base CX0 2 f fd ["thing"] spNP := by
  have GL : FnOk P w K mg base CX0 1 fL fdL ["thing"] spIsL := ok_isLine FL G
  refine F.ok scNP (fun vs H Q E h => ?_) (fun cdv A outer s H vs Q E hr h => ?_)
  · obtain ⟨a, rfl, _⟩ := h
    rfl
  · obtain ⟨a, rfl, hS, k⟩ := h
    refine ⟨_, pss_cons (ps_if (PW.pt (pw_or (pt_not (pt_val (pe_callB call_isi (by rfl) G.fInst (by decide +kernel) (pa_cons (pv 0) (pa_cons (pe_bltn (by rfl) G.fTuple (by decide +kernel) (v := .ty "tuple") rfl) pa_nil)))))
        (pw_or1 (pt_not (pt_chain op_le op_le pe_int (pe_callB call_len_seq (by rfl) G.fLen PySem.boot_len (pa_cons (pv 0) pa_nil)) (pgI (by rfl) G.lines))))))
        (pss_one ps_dead) pss_nil)
      (pss_cons (ps_for PassesOwn.never rfl (pi_enumT (by rfl) G.fEnum (pa_cons (pv 0) pa_nil)) (pg_tup rfl (pgs_cons (pg_name (i := 1) scNP.nd rfl (Or.inl rfl)) (pgs_cons (pg_name (i := 2) scNP.nd rfl (Or.inl rfl)) pgs_nil)))
        (pss_one (ps_if (PW.pt (pw_or (pt_not (pt_val (pe_call GL hr (by rfl) gL FL.kp bL .nil pass0 (pa_cons (pv 2) pa_nil))))
          (pw_or1 (pt_cmpR op_ne (pe_callB call_len_str (by rfl) G.fLen PySem.boot_len (pa_cons (pv 2) pa_nil)) (pe_callB call_len_str (by rfl) G.fLen PySem.boot_len (pa_cons (pe_ix ix_tup (pv 0) pe_int (fun _ _ => rfl)) pa_nil)) (nomark _)))))
          (pss_one ps_dead) pss_nil)))
      (pss_one (ps_ret (pv 0)))), ?_⟩
    refine ⟨_, rfl, _, _, _, _, true, rfl, .ty _, .base (.tup hS), kit_ty (by decide +kernel), _, rfl, iteF ?_⟩
    refine ⟨_, rfl, _, _, rfl, .inr (.of hS), _, _, rfl, rfl, _, rfl, iteT ?_⟩
    refine ⟨_, _, rfl, rfl, _, rfl, iteF ?_⟩
    refine ⟨_, rfl, a, _, rfl, .of hS, for_it (walk_enumT (xs := [V.str lnS])) (fun i σ H1 => ∃ v1 v2, σ = [some (.ref a), v1, v2] ∧ Same H H1) ⟨none, none, rfl, Same.refl H⟩ (fun i σ H1 _ ⟨_, _, _, s1⟩ => .of (s1 _ _ hS)) ?_ ?_⟩
    · rintro i x σ H1 H2 hi ⟨v1, v2, rfl, s1⟩ ⟨T', y1, y2, rfl, hT, rfl, e1, e2⟩
      have hi0 : i = 0 := by
        have z : i < 1 := hi
        omega
      subst hi0
      obtain rfl : V.int (0 : Nat) = y1 := Option.some.inj e1
      obtain rfl : V.str lnS = y2 := Option.some.inj e2
      have s2 : Same H (upd H1 T' (.tup [.int (0 : Nat), .str lnS])) := Same.trans s1 (same_new hT)
      refine ⟨T', _, rfl, .of upd_same, rfl, _, _, rfl, _, _, rfl, rfl, ?_⟩
      refine ⟨_, rfl, rfl, fun H3 s3 => ⟨_, rfl, iteF ?_⟩⟩
      have s4 := Same.trans s2 s3
      have l2 : lnS.length ≤ sizeLine := by rw [sizeLine_eq]; decide +kernel
      refine ⟨_, rfl, _, rfl, l2, _, rfl, a, _, _, _, rfl, rfl, .of (s4 _ _ hS), rfl, _, rfl, l2, rfl, _, rfl, ?_⟩
      exact ⟨_, _, rfl, s4⟩
    · rintro σ H1 ⟨v1, v2, rfl, s1⟩
      exact ⟨_, rfl, k _ s1⟩
/-! ### add_line -/
theorem scAL : FnScope ["self", "line"] ["self", "line"] (defScope sAddLine) := ⟨rfl, rfl, rfl, by decide +kernel, rfl, by decide +kernel, by decide +kernel⟩
def spAL (C : Addr) : Sp := fun vs H Q _ => ∃ p t, vs = [.ref p, .str lnS] ∧ DeskAt C H p [] t ∧ ∀ H', Kept p H H' → DeskAt C H' p [lnS] t → Q (.str "done") H'
theorem ok_addLine {f fN C : Addr} {fd fdN : FuncData} (F : Fun K "add_line" "Desk.add_line" sAddLine f fd) (GN : FnOk P w K mg base CX0 2 fN fdN ["thing"] spNP) (kN : PySem.W.keepIn K (.ref fN) = true) (bN : Binds K fdN ["thing"] []) (gN : mg "need_page" = some (.ref fN))
    (T : Dk K C) (G : Gm mg) : FnOk P w K mg base CX0 3 f fd ["self", "line"] (spAL C) := by
  refine F.ok scAL (fun vs H Q E h => ?_) (fun cdv A outer s H vs Q E hr h => ?_)
  · obtain ⟨p, t, rfl, _⟩ := h
    rfl
  · obtain ⟨p, t, rfl, hD, k⟩ := h
    obtain ⟨dx, pl, tv, hp, hl, ht⟩ := id hD
    refine ⟨_, pss_cons (ps_fld (pv 0) (pe_call GN hr (by rfl) gN kN bN .nil pass0 (pa_cons (pe_op op_catA (pe_fld (pv 0) rfl) (pe_tup (pa_cons (pv 1) pa_nil))) pa_nil)) rfl)
      (pss_one (ps_ret (pgS (by rfl) G.done))), ?_⟩
    refine ⟨_, rfl, p, C, dx, _, _, rfl, hp, T.cl, T.nl, rfl, ?_⟩
    refine ⟨_, rfl, by show 1 ≤ sizeLine; rw [sizeLine_eq]; decide, fun l hl1 => ?_⟩
    have npl : p ≠ l := ne_of_none hp hl1
    refine ⟨pl, l, [], [.str lnS], rfl, rfl, .of (by rw [upd_ne (ne_of_none hl hl1)]; exact hl), .of upd_same, by rw [sizeLine_eq]; decide, fun _ => ?_, fun z => absurd rfl z, fun z => absurd rfl z⟩
    refine ⟨l, rfl, upd_same, fun H1 s1 => ?_⟩
    have hp1 : H1 p = some (.ins C dx (dFs pl tv)) := s1 _ _ (by rw [upd_ne npl]; exact hp)
    have hl2 : H1 l = some (.tup [.str lnS]) := s1 _ _ upd_same
    have k1 : Kept p H H1 := Same.kept (Same.trans (same_new hl1) s1)
    refine ⟨_, rfl, p, C, dx, _, rfl, hp1, T.cl, T.nl, by show (4 : Nat) < 1000; decide, ?_⟩
    refine k _ (k1.trans kept_upd) ⟨dx, l, tv, upd_same, ?_, ht.kept (k1.trans kept_upd) hp⟩
    rw [upd_ne npl.symm]
    exact hl2
end
end K94
set_option Elab.async false
set_option linter.all false
set_option maxRecDepth 100000
set_option maxHeartbeats 4000000
/-! What a desk says to lines about tariffs. -/
namespace K94
open PySem PySem.Spec PyProof.Rows L2
/-! ### the least begin is small -/
theorem min_mem (p : Int × Int) (r : List (Int × Int)) : PySem.W.minOf p r ∈ p :: r := by
  unfold PySem.W.minOf
  induction r generalizing p with
  | nil => exact List.mem_cons_self ..
  | cons q r ih =>
    rw [List.foldl_cons]
    split
    · exact List.mem_cons_of_mem _ (ih q)
    · rcases List.mem_cons.mp (ih p) with h | h
      · rw [h]
        exact List.mem_cons_self ..
      · exact List.mem_cons_of_mem _ (List.mem_cons_of_mem _ h)
theorem best_in {ps : List Int} {m lo hi : Int} (hv : ValidT ps) (h : lo ≤ hi) : lo ≤ bestF ps m lo hi ∧ bestF ps m lo hi ≤ lo + 24 := by
  have l1 := hv.1
  have l2 := hv.2.1
  have la : lo ≤ lastF ps lo hi := by
    unfold lastF
    split <;> omega
  have lb : lastF ps lo hi + 1 - lo ≤ 24 := by
    unfold lastF
    split <;> omega
  have hbest : bestF ps m lo hi = leastF (pairsF ps m lo (lastF ps lo hi + 1 - lo).toNat) := rfl
  rw [hbest]
  have hl := pairs_len ps m lo (lastF ps lo hi + 1 - lo).toNat
  have hm : ∀ q ∈ pairsF ps m lo (lastF ps lo hi + 1 - lo).toNat, lo ≤ q.2 ∧ q.2 ≤ lo + 24 := by
    intro q hq
    unfold pairsF at hq
    obtain ⟨i, hi, rfl⟩ := List.mem_map.mp hq
    have := List.mem_range.mp hi
    show lo ≤ lo + (i : Int) ∧ lo + (i : Int) ≤ lo + 24
    omega
  cases hp : pairsF ps m lo (lastF ps lo hi + 1 - lo).toNat with
  | nil =>
    rw [hp] at hl
    have z : (0 : Nat) = (lastF ps lo hi + 1 - lo).toNat := hl
    omega
  | cons q r =>
    rw [hp] at hm
    exact hm _ (min_mem q r)
theorem small_of {n : Int} (h0 : 0 ≤ n) (h : n ≤ 10 ^ 31) : n.natAbs.log2 < 1920 := by
  have z : n.natAbs < 2 ^ 1920 := Nat.lt_of_lt_of_le (m := 10 ^ 31 + 1) (by omega) (by decide +kernel)
  by_cases c : n.natAbs = 0
  · rw [c]; decide
  · exact (Nat.log2_lt c).mpr z
theorem same_list {K : PySem.W.Frag} {H H' : Hp} {a : Addr} {xs : List V} (e : Same H H') (h : SqL K H a xs) : SqL K H' a xs := by
  rcases h with (h | ⟨o, h⟩) | h
  · exact .inl (.inl (e _ _ h))
  · exact .inl (.inr ⟨o, e _ _ h⟩)
  · exact .inr h
theorem take_snoc {α : Type} {xs : List α} {i : Nat} {x : α} (h : xs[i]? = some x) : xs.take (i + 1) = xs.take i ++ [x] := by
  rw [List.take_add_one, h]
  rfl
theorem eq_str {a b : Str} : decide (V.str a = V.str b) = decide (a = b) := by
  by_cases h : a = b
  · rw [decide_eq_true h, h]
    exact decide_eq_true rfl
  · rw [decide_eq_false h]
    exact decide_eq_false fun z => h (by injection z)
theorem best_small {ps : List Int} {m lo hi : Int} (hv : ValidT ps) (h0 : 0 ≤ lo) (h1 : lo ≤ M30) (h : lo ≤ hi) : (bestF ps m lo hi).natAbs.log2 < 1920 := by
  have z := best_in (m := m) hv h
  have e : M30 = 10 ^ 30 := rfl
  exact small_of (by omega) (by omega)
theorem ans_cost (t : List Int) (b m : Int) : ansF t .cost [b, m] = if t = [] then (("no" : Str), t) else if (0 ≤ b ∧ b ≤ M30) ∧ 1 ≤ m ∧ m ≤ M30 then (numS (costF t b m), t) else (("no" : Str), t) := rfl
theorem ans_begin (t : List Int) (m lo hi : Int) : ansF t .begin [m, lo, hi] = if t = [] then (("no" : Str), t) else if ((1 ≤ m ∧ m ≤ M30) ∧ 0 ≤ lo ∧ lo ≤ M30) ∧ lo ≤ hi ∧ hi ≤ M30 then (numS (bestF t m lo hi), t) else (("no" : Str), t) := rfl
/-- the lines that the desk is told have this shape -/
def Shape : Kd → List Int → Prop
  | .tariff, _ => True
  | .cost, ns => ns.length = 2
  | .begin, ns => ns.length = 3
section
variable {P : Program} {w : World} {K : PySem.W.Frag} {mg : Str → Option Value} {base : Heap}
def numsV (ns : List Int) : List V := ns.map fun n => V.str (numS n)
theorem scTT : FnScope ["self", "word", "rest", "numbers", "part"] ["self", "word", "rest"] (defScope sTold) := ⟨rfl, rfl, rfl, by decide +kernel, rfl, by decide +kernel, by decide +kernel⟩
/-- how it ends -/
def EndQ (C CT CO : Addr) (p : Addr) (ls : List Str) (t : List Int) (kd : Kd) (ns : List Int) (H : Hp) (Q : VK) (E : XK) : Prop :=
  (∀ H', Kept p H H' → DeskAt C H' p ls (ansF t kd ns).2 → Q (.str (ansF t kd ns).1) H') ∧
  (∀ cls d H', (cls = .ref CT ∨ cls = .ref CO) → Kept p H H' → DeskAt C H' p ls (ansF t kd ns).2 → (ansF t kd ns).1 = "no" → E cls d H')
def spTT (K : PySem.W.Frag) (C CT CO : Addr) : Sp := fun vs H Q E => ∃ p l kd ns ls t, vs = [.ref p, .str (Kd.word kd), .ref l] ∧ SqL K H l (numsV ns) ∧ (∀ n ∈ ns, OkN n) ∧ ns.length ≤ 25 ∧ Shape kd ns ∧ DeskAt C H p ls t ∧ EndQ C CT CO p ls t kd ns H Q E
theorem ok_told {f fI fN fC fB C CT CO : Addr} {fd fdI fdN fdC fdB : FuncData} (F : Fun K "tariff_told" "Desk.tariff_told" sTold f fd) (T : Dk K C) (G : Gm mg)
    (GI : FnOk P w K mg base CX0 1 fI fdI ["word"] spInt) (kI : PySem.W.keepIn K (.ref fI) = true) (bI : Binds K fdI ["word"] []) (gI : mg "integer_of" = some (.ref fI))
    (GN : FnOk P w K mg base (L2.CX P w) 2 fN fdN ["thing"] (spNeedT K CT)) (kN : PySem.W.keepIn K (.ref fN) = true) (bN : Binds K fdN ["thing"] []) (gN : mg "need_tariff" = some (.ref fN))
    (GC : FnOk P w K mg base (L2.CX P w) 3 fC fdC ["tariff", "begin", "moments"] (spCost K CO)) (kC : PySem.W.keepIn K (.ref fC) = true) (bC : Binds K fdC ["tariff", "begin", "moments"] []) (gC : mg "cost" = some (.ref fC))
    (GB : FnOk P w K mg base (L2.CX P w) 3 fB fdB ["tariff", "moments", "low", "high"] (spCheap K CO)) (kB : PySem.W.keepIn K (.ref fB) = true) (bB : Binds K fdB ["tariff", "moments", "low", "high"] []) (gB : mg "cheapest" = some (.ref fB)) :
    FnOk P w K mg base (L2.CX P w) 4 f fd ["self", "word", "rest"] (spTT K C CT CO) := by
  refine F.okX scTT (fun vs H Q E h => ?_) (fun cdv A outer s H vs Q E hr h => ?_)
  · obtain ⟨p, l, kd, ns, ls, t, rfl, _⟩ := h
    rfl
  · obtain ⟨p, l, kd, ns, ls, t, rfl, hS, hn, hl, hsh, hD, hQ, hE⟩ := h
    obtain ⟨dx, pl, tv, hp, hpl, ht⟩ := id hD
    have hr1 : Room 1 _ := hr.mono (by decide)
    have hr2 : Room 2 _ := hr.mono (by decide)
    refine ⟨_, pss_cons (ps_setLc (i := 3) (own := [("part", 4)]) (g := gName 4) (tt := tYes) rfl scTT.nd rfl rfl rfl (pi_list (pv 2))
          (blkOk_by (N := ["self", "word", "rest", "numbers", "part"]) (sc := defScope sTold) (by decide +kernel)) (fun _ _ _ _ _ => pg_name (i := 4) scTT.nd rfl (Or.inl rfl)) (fun _ _ _ _ _ => pts_nil)
          (fun _ _ _ _ _ => pe_call GI hr1 (by rfl) gI kI bI .nil pass0 (pa_cons (pv 4) pa_nil)))
      (pss_cons (ps_if (pt_cmpR op_eq (pv 1) pe_str (nomark _)) (pss_cons (ps_fld (pv 0) (pe_call GN hr2 (by rfl) gN kN bN .nil passE (pa_cons (pe_callTy call_tuple_of (by rfl) G.fTuple (by decide +kernel) (pa_cons (pv 3) pa_nil)) pa_nil)) rfl) (pss_one (ps_ret (pgS (by rfl) G.done)))) pss_nil)
      (pss_cons (ps_if (pt_cmp (pc_isN (pe_fld (pv 0) rfl))) (pss_one (ps_ret (pgS (by rfl) G.no))) pss_nil)
      (pss_cons (ps_if (PW.pt (pw_and (pt_cmpR op_eq (pv 1) pe_str (nomark _)) (pw_and1 (pt_cmpR op_eq (pe_callB call_len_seq (by rfl) G.fLen PySem.boot_len (pa_cons (pv 3) pa_nil)) pe_int (nomark _)))))
        (pss_one (ps_ret (pe_callTy call_str_int (by rfl) G.fStr (by decide +kernel) (pa_cons (pe_call GC hr (by rfl) gC kC bC .nil passE (pa_cons (pe_fld (pv 0) rfl) (pa_cons (pe_ix ix_list (pv 3) pe_int (fun _ _ => rfl)) (pa_cons (pe_ix ix_list (pv 3) pe_int (fun _ _ => rfl)) pa_nil)))) pa_nil)))) pss_nil)
      (pss_cons (ps_if (PW.pt (pw_and (pt_cmpR op_eq (pv 1) pe_str (nomark _)) (pw_and1 (pt_cmpR op_eq (pe_callB call_len_seq (by rfl) G.fLen PySem.boot_len (pa_cons (pv 3) pa_nil)) pe_int (nomark _)))))
        (pss_one (ps_ret (pe_callTy call_str_int (by rfl) G.fStr (by decide +kernel) (pa_cons (pe_call GB hr (by rfl) gB kB bB .nil passE (pa_cons (pe_fld (pv 0) rfl) (pa_cons (pe_ix ix_list (pv 3) pe_int (fun _ _ => rfl)) (pa_cons (pe_ix ix_list (pv 3) pe_int (fun _ _ => rfl)) (pa_cons (pe_ix ix_list (pv 3) pe_int (fun _ _ => rfl)) pa_nil))))) pa_nil)))) pss_nil)
      (pss_one (ps_ret (pgS (by rfl) G.no))))))), ?_⟩
    have lV : (numsV ns).length = ns.length := List.length_map ..
    have l31 : (1000 : Nat) ≤ sizeLine := by rw [sizeLine_eq]; decide
    refine ⟨_, rfl, l, rfl, ⟨_, hS⟩, fun D hDn => lc_it (walk_list (xs := numsV ns)) (fun i H2 => H2 D = some (.lst ((ns.take i).map V.int)) ∧ Same H H2) ⟨upd_same, same_new hDn⟩ (fun i H2 _ ⟨_, s2⟩ => same_list s2 hS) ?_ ?_⟩
    · rintro i x H2 H3 hi ⟨hl2, s2⟩ ⟨rfl, e⟩
      have e' : (ns.map fun n => V.str (numS n))[i]? = some x := e
      rw [List.getElem?_map] at e'
      cases hq : ns[i]? with
      | none => rw [hq] at e'; cases e'
      | some n =>
        rw [hq] at e'
        obtain rfl : V.str (numS n) = x := Option.some.inj e'
        refine ⟨rfl, _, rfl, n, rfl, hn n (List.mem_of_getElem? hq), fun H4 s4 => ⟨_, s4 _ _ hl2, ?_, ?_, ?_⟩⟩
        · have z : (ns.take i).length ≤ ns.length := List.length_take_le' _ _
          rw [List.length_map]
          omega
        · rw [upd_same, take_snoc hq, List.map_append]
          rfl
        · intro b o e
          rw [upd_ne (ne_of_none e hDn)]
          exact s4 _ _ (s2 _ _ e)
    · rintro H1 ⟨hl1, s1⟩
      rw [lV, List.take_length] at hl1
      have hp1 := s1 _ _ hp
      have hD1 : DeskAt C H1 p ls t := hD.same s1
      have ht1 : TarAt H1 tv t := ht.kept (Same.kept s1) hp
      have hln : (ns.map V.int).length = ns.length := List.length_map ..
      cases kd with
      | tariff =>
        refine ⟨_, rfl, rfl, _, rfl, ?_⟩
        rw [eq_str, show decide (Kd.word .tariff = Str.ofString "tariff") = true from by decide +kernel]
        refine iteT ?_
        refine ⟨_, rfl, D, _, rfl, .inl ⟨.of hl1, fun T' hT' => ?_⟩⟩
        refine ⟨T', ns, rfl, upd_same, fun hv H2 s2 => ?_, fun nv d H2 s2 => ?_⟩
        · have e : ansF t .tariff ns = (("done" : Str), ns) := if_pos hv
          have s3 : Same H H2 := Same.trans s1 (Same.trans (same_new hT') s2)
          have hp2 := s3 _ _ hp
          have hT2 : H2 T' = some (.tup (ns.map V.int)) := s2 _ _ upd_same
          refine ⟨_, rfl, p, C, dx, _, rfl, hp2, T.cl, T.nt, by show (4 : Nat) < 1000; decide, ?_⟩
          rw [e] at hQ
          refine hQ _ ((Same.kept s3).trans kept_upd) ⟨dx, pl, .ref T', upd_same, ?_, .inr ⟨T', rfl, hv, ?_⟩⟩
          · rw [upd_ne (ne_of hpl hp (by intro z; cases z))]
            exact s3 _ _ hpl
          · rw [upd_ne (ne_of hT2 hp2 (by intro z; cases z))]
            exact hT2
        · have e : ansF t .tariff ns = (("no" : Str), t) := if_neg nv
          have s3 : Same H H2 := Same.trans s1 (Same.trans (same_new hT') s2)
          exact hE _ _ H2 (.inl rfl) (Same.kept s3) (by rw [e]; exact hD.same s3) (by rw [e])
      | cost =>
        refine ⟨_, rfl, rfl, _, rfl, ?_⟩
        rw [eq_str, show decide (Kd.word .cost = Str.ofString "tariff") = false from by decide +kernel]
        refine iteF ?_
        obtain ⟨b, m, rfl⟩ : ∃ b m, ns = [b, m] := by
          match ns, hsh with
          | [b, m], _ => exact ⟨b, m, rfl⟩
        refine ⟨_, rfl, p, C, dx, _, tv, rfl, hp1, T.cl, T.nt, rfl, ?_⟩
        rcases ht1 with ⟨rfl, rfl⟩ | ⟨ta, rfl, hv, hta⟩
        · have e : ansF [] .cost [b, m] = (("no" : Str), []) := by
            rw [ans_cost, if_pos rfl]
          refine ⟨_, rfl, iteT ?_⟩
          rw [e] at hQ
          exact hQ _ (Same.kept s1) hD1
        · have tne : t ≠ [] := by
            rintro rfl
            exact absurd hv.1 (by decide)
          refine ⟨_, rfl, iteF ?_⟩
          refine ⟨_, rfl, rfl, _, rfl, ?_⟩
          rw [eq_str, show decide (Kd.word .cost = Str.ofString "cost") = true from by decide +kernel]
          refine iteT ?_
          refine ⟨_, rfl, D, _, rfl, .inl (.of hl1), rfl, _, rfl, iteT ?_⟩
          refine ⟨_, rfl, p, C, dx, _, .ref ta, rfl, hp1, T.cl, T.nt, rfl, ?_⟩
          refine ⟨_, rfl, D, _, _, _, rfl, rfl, .of hl1, rfl, ?_⟩
          refine ⟨_, rfl, D, _, _, _, rfl, rfl, .of hl1, rfl, ?_⟩
          refine ⟨ta, t, b, m, rfl, hta, hv, fun z H2 s2 => ?_, fun z H2 s2 => ?_⟩
          · have e : ansF t .cost [b, m] = (numS (costF t b m), t) := by
              rw [ans_cost, if_neg tne, if_pos z]
            refine ⟨_, rfl, cost_small hv z.1.1 z.1.2 (by omega) z.2.2, ?_⟩
            rw [e] at hQ
            exact hQ _ (Same.kept (Same.trans s1 s2)) (hD1.same s2)
          · have e : ansF t .cost [b, m] = (("no" : Str), t) := by
              rw [ans_cost, if_neg tne, if_neg z]
            exact hE _ _ H2 (.inr rfl) (Same.kept (Same.trans s1 s2)) (by rw [e]; exact hD1.same s2) (by rw [e])
      | begin =>
        refine ⟨_, rfl, rfl, _, rfl, ?_⟩
        rw [eq_str, show decide (Kd.word .begin = Str.ofString "tariff") = false from by decide +kernel]
        refine iteF ?_
        obtain ⟨m, lo, hi, rfl⟩ : ∃ m lo hi, ns = [m, lo, hi] := by
          match ns, hsh with
          | [m, lo, hi], _ => exact ⟨m, lo, hi, rfl⟩
        refine ⟨_, rfl, p, C, dx, _, tv, rfl, hp1, T.cl, T.nt, rfl, ?_⟩
        rcases ht1 with ⟨rfl, rfl⟩ | ⟨ta, rfl, hv, hta⟩
        · have e : ansF [] .begin [m, lo, hi] = (("no" : Str), []) := by
            rw [ans_begin, if_pos rfl]
          refine ⟨_, rfl, iteT ?_⟩
          rw [e] at hQ
          exact hQ _ (Same.kept s1) hD1
        · have tne : t ≠ [] := by
            rintro rfl
            exact absurd hv.1 (by decide)
          refine ⟨_, rfl, iteF ?_⟩
          refine ⟨_, rfl, rfl, _, rfl, ?_⟩
          rw [eq_str, show decide (Kd.word .begin = Str.ofString "cost") = false from by decide +kernel]
          refine iteF (iteF ?_)
          refine ⟨_, rfl, rfl, _, rfl, ?_⟩
          rw [eq_str, show decide (Kd.word .begin = Str.ofString "begin") = true from by decide +kernel]
          refine iteT ?_
          refine ⟨_, rfl, D, _, rfl, .inl (.of hl1), rfl, _, rfl, iteT ?_⟩
          refine ⟨_, rfl, p, C, dx, _, .ref ta, rfl, hp1, T.cl, T.nt, rfl, ?_⟩
          refine ⟨_, rfl, D, _, _, _, rfl, rfl, .of hl1, rfl, ?_⟩
          refine ⟨_, rfl, D, _, _, _, rfl, rfl, .of hl1, rfl, ?_⟩
          refine ⟨_, rfl, D, _, _, _, rfl, rfl, .of hl1, rfl, ?_⟩
          refine ⟨ta, t, m, lo, hi, rfl, hta, hv, fun z H2 s2 => ?_, fun z H2 s2 => ?_⟩
          · have e : ansF t .begin [m, lo, hi] = (numS (bestF t m lo hi), t) := by
              rw [ans_begin, if_neg tne, if_pos z]
            refine ⟨_, rfl, best_small hv z.1.2.1 z.1.2.2 z.2.1, ?_⟩
            rw [e] at hQ
            exact hQ _ (Same.kept (Same.trans s1 s2)) (hD1.same s2)
          · have e : ansF t .begin [m, lo, hi] = (("no" : Str), t) := by
              rw [ans_begin, if_neg tne, if_neg z]
            exact hE _ _ H2 (.inr rfl) (Same.kept (Same.trans s1 s2)) (by rw [e]; exact hD1.same s2) (by rw [e])
end
end K94
set_option Elab.async false
set_option linter.all false
set_option maxRecDepth 100000
set_option maxHeartbeats 4000000
/-! What a desk answers. -/
namespace K94
open PySem PySem.Spec PyProof.Rows L2
theorem pt_dead {X : Cx} {e : Expr} : PT X e (fun _ _ _ => False) := ⟨fun _ _ _ _ _ _ h => h.elim⟩
section
variable {P : Program} {w : World} {K : PySem.W.Frag} {mg : Str → Option Value} {base : Heap}
theorem scAns : FnScope ["self", "line", "word", "rest"] ["self", "line"] (defScope sAnswered) := ⟨rfl, rfl, rfl, by decide +kernel, rfl, by decide +kernel, by decide +kernel⟩
def lineS : Str := "line .#"
def spAns (C CT CO : Addr) : Sp := fun vs H Q E => ∃ p ls t, DeskAt C H p ls t ∧ ((vs = [.ref p, .str lineS] ∧ ls = [] ∧ ∀ H', Kept p H H' → DeskAt C H' p [lnS] t → Q (.str "done") H') ∨
  (∃ kd ns, vs = [.ref p, .str (lineOf (Kd.word kd) ns)] ∧ (∀ n ∈ ns, OkN n) ∧ ns.length ≤ 25 ∧ Shape kd ns ∧ EndQ C CT CO p ls t kd ns H Q E))
theorem split_lineS : Txt.split lineS sp = [("line" : Str), lnS] := by decide +kernel
theorem word_sp (kd : Kd) : 32 ∉ TL.tl (Kd.word kd) := by cases kd <;> decide +kernel
theorem word_nl (kd : Kd) : 10 ∉ TL.tl (Kd.word kd) := by cases kd <;> decide +kernel
theorem word_len (kd : Kd) : (Kd.word kd).length ≤ 31 := by cases kd <;> decide +kernel
theorem ok_answered {f fA fT C CT CO : Addr} {fd fdA fdT : FuncData} (F : Fun K "answered" "Desk.answered" sAnswered f fd) (T : Dk K C) (G : Gm mg)
    (GA : FnOk P w K mg base CX0 3 fA fdA ["self", "line"] (spAL C)) (mA : Meth K C "add_line" fA) (bA : Binds K fdA ["self", "line"] [])
    (GT : FnOk P w K mg base (L2.CX P w) 4 fT fdT ["self", "word", "rest"] (spTT K C CT CO)) (mT : Meth K C "tariff_told" fT) (bT : Binds K fdT ["self", "word", "rest"] []) :
    FnOk P w K mg base (L2.CX P w) 5 f fd ["self", "line"] (spAns C CT CO) := by
  refine F.okX scAns (fun vs H Q E h => ?_) (fun cdv A outer s H vs Q E hr h => ?_)
  · obtain ⟨p, ls, t, _, ⟨rfl, _⟩ | ⟨kd, ns, rfl, _⟩⟩ := h
    · rfl
    · rfl
  · have hr3 : Room 3 _ := hr.mono (by decide)
    refine ⟨_, pss_cons (ps_asg (pe_split (pv 1) (pgS (by rfl) G.blank)) (pg_star rfl (pg_name (i := 2) scAns.nd rfl (Or.inl rfl)) (pg_name (i := 3) scAns.nd rfl (Or.inl rfl))))
      (pss_cons (ps_if (pt_cmpR op_in_sign (pgS (by rfl) G.lend) (pv 1) rfl) (pss_one (ps_ret (pgS (by rfl) G.no))) pss_nil)
      (pss_cons (ps_if (PW.pt (pw_and (pt_cmpR op_eq (pv 2) pe_str (nomark _)) (pw_and1 (pt_cmpR op_eq (pe_callB call_len_seq (by rfl) G.fLen PySem.boot_len (pa_cons (pv 3) pa_nil)) pe_int (nomark _)))))
        (pss_one (ps_ret (pe_meth (pv 0) T.cl mA GA hr3 bA .nil pass0 (pa_cons (pe_ix ix_list (pv 3) pe_int (fun _ _ => rfl)) pa_nil)))) pss_nil)
      (pss_cons (ps_if (PW.pt (pw_and (pt_cmpR op_eq (pv 2) pe_str (nomark _)) (pw_and1 pt_dead))) (pss_cons ps_dead (pss_one ps_dead)) pss_nil)
      (pss_cons (ps_if (pt_cmpR op_in_seq (pv 2) (pe_tup (pa_cons pe_str (pa_cons pe_str pa_nil))) rfl) (pss_one ps_dead) pss_nil)
      (pss_cons (ps_if (pt_cmpR op_in_seq (pv 2) (pe_tup (pa_cons pe_str (pa_cons pe_str (pa_cons pe_str pa_nil)))) rfl)
        (pss_one (ps_ret (pe_meth (pv 0) T.cl mT GT hr bT .nil passE (pa_cons (pv 2) (pa_cons (pv 3) pa_nil))))) pss_nil)
      (pss_cons ps_dead (pss_one ps_dead))))))), ?_⟩
    have l31 : (1002 : Nat) ≤ sizeLine := by rw [sizeLine_eq]; decide
    obtain ⟨p, ls, t, hD, ⟨rfl, rfl, k⟩ | ⟨kd, ns, rfl, hn, hl, hsh, hQ, hE⟩⟩ := h
    · refine ⟨_, rfl, ⟨_, rfl⟩, _, _, rfl, rfl, by decide +kernel, Nat.le_trans (by decide +kernel) l31, fun l hl1 => ?_⟩
      rw [show Txt.split lineS (Str.ofString " ") = [("line" : Str), lnS] from split_lineS]
      have hp := hD
      obtain ⟨dx, pl, tv, hp, hpl, ht⟩ := hp
      refine ⟨l, _, _, rfl, .of upd_same, by decide, fun D hDn => ?_⟩
      have s1 : Same H (upd (upd H l (.lst ([("line" : Str), lnS].map V.str))) D (.lst [.str lnS])) := Same.trans (same_new hl1) (same_new hDn)
      have hp1 := s1 _ _ hp
      refine ⟨_, rfl, 10, _, rfl, rfl, _, rfl, ?_⟩
      rw [show decide (10 ∈ lineS.cps.toList) = false from by decide +kernel]
      refine iteF ?_
      refine ⟨_, rfl, rfl, _, rfl, ?_⟩
      rw [eq_str, show decide (("line" : Str) = Str.ofString "line") = true from by decide +kernel]
      refine iteT ?_
      refine ⟨_, rfl, D, _, rfl, .inl (.of upd_same), rfl, _, rfl, iteT ?_⟩
      refine ⟨_, rfl, p, dx, _, rfl, hp1, rfl, ?_⟩
      refine ⟨_, rfl, D, _, _, _, rfl, rfl, .of upd_same, rfl, ?_⟩
      exact ⟨p, t, rfl, hD.same s1, fun H2 k2 d2 => k _ ((Same.kept s1).trans k2) d2⟩
    · have hll := line_len (word_len kd) hn hl
      refine ⟨_, rfl, ⟨_, rfl⟩, _, _, rfl, rfl, by decide +kernel, by omega, fun l hl1 => ?_⟩
      rw [show Txt.split (lineOf (Kd.word kd) ns) (Str.ofString " ") = Kd.word kd :: ns.map numS from split_line (word_sp kd) ns]
      have hp := hD
      obtain ⟨dx, pl, tv, hp, hpl, ht⟩ := hp
      have eV : (ns.map numS).map V.str = numsV ns := by
        rw [List.map_map]
        rfl
      have lV : (numsV ns).length = ns.length := List.length_map ..
      refine ⟨l, _, _, rfl, .of upd_same, by rw [eV, lV]; omega, fun D hDn => ?_⟩
      rw [eV]
      have s1 : Same H (upd (upd H l (.lst ((Kd.word kd :: ns.map numS).map V.str))) D (.lst (numsV ns))) := Same.trans (same_new hl1) (same_new hDn)
      generalize hH1 : upd (upd H l (.lst ((Kd.word kd :: ns.map numS).map V.str))) D (.lst (numsV ns)) = H1 at s1
      have hDl : H1 D = some (.lst (numsV ns)) := by
        rw [← hH1]
        exact upd_same
      have hp1 := s1 _ _ hp
      refine ⟨_, rfl, 10, _, rfl, rfl, _, rfl, ?_⟩
      rw [show decide (10 ∈ (lineOf (Kd.word kd) ns).cps.toList) = false from decide_eq_false (line_nl (word_nl kd) ns)]
      refine iteF ?_
      refine ⟨_, rfl, rfl, _, rfl, ?_⟩
      rw [eq_str, show decide (Kd.word kd = Str.ofString "line") = false from by cases kd <;> decide +kernel]
      refine iteF (iteF ?_)
      refine ⟨_, rfl, rfl, _, rfl, ?_⟩
      rw [eq_str, show decide (Kd.word kd = Str.ofString "bare") = false from by cases kd <;> decide +kernel]
      refine iteF (iteF ?_)
      refine ⟨_, rfl, by show 2 ≤ sizeLine; omega, fun t1 ht1 => ?_⟩
      refine ⟨t1, _, rfl, .inr (.of upd_same), rfl, rfl, _, rfl, ?_⟩
      rw [show (if false = true then !inV (V.str (Kd.word kd)) [V.str (Str.ofString "sure"), V.str (Str.ofString "right")] else inV (V.str (Kd.word kd)) [V.str (Str.ofString "sure"), V.str (Str.ofString "right")]) = false from by cases kd <;> decide +kernel]
      refine iteF ?_
      refine ⟨_, rfl, by show 3 ≤ sizeLine; omega, fun t2 ht2 => ?_⟩
      refine ⟨t2, _, rfl, .inr (.of upd_same), rfl, rfl, _, rfl, ?_⟩
      rw [show (if false = true then !inV (V.str (Kd.word kd)) [V.str (Str.ofString "tariff"), V.str (Str.ofString "cost"), V.str (Str.ofString "begin")] else inV (V.str (Kd.word kd)) [V.str (Str.ofString "tariff"), V.str (Str.ofString "cost"), V.str (Str.ofString "begin")]) = true from by cases kd <;> decide +kernel]
      refine iteT ?_
      have s2 : Same H1 (upd (upd H1 t1 (.tup [V.str (Str.ofString "sure"), V.str (Str.ofString "right")])) t2 (.tup [V.str (Str.ofString "tariff"), V.str (Str.ofString "cost"), V.str (Str.ofString "begin")])) := Same.trans (same_new ht1) (same_new ht2)
      have s3 := Same.trans s1 s2
      refine ⟨_, rfl, p, dx, _, rfl, s2 _ _ hp1, rfl, ?_⟩
      refine ⟨_, rfl, _, rfl, p, D, kd, ns, ls, t, rfl, .of (s2 _ _ hDl), hn, hl, hsh, hD.same s3, fun H4 k4 d4 => hQ _ ((Same.kept s3).trans k4) d4, fun cls d H4 hc k4 d4 e4 => hE _ _ _ hc ((Same.kept s3).trans k4) d4 e4⟩
end
end K94
set_option Elab.async false
set_option linter.all false
set_option maxRecDepth 100000
set_option maxHeartbeats 4000000
/-! What a desk says. -/
namespace K94
open PySem PySem.Spec PyProof.Rows L2
/-- the clause's classes -/
structure Exs (K : PySem.W.Frag) (mg : Str → Option Value) (c1 c2 c3 c4 c5 c6 c7 c8 : Addr) : Prop where
  g1 : mg "BadLine" = some (.ref c1)
  g2 : mg "BadPage" = some (.ref c2)
  g3 : mg "BadSigns" = some (.ref c3)
  g4 : mg "BadTariff" = some (.ref c4)
  g5 : mg "BadTelling" = some (.ref c5)
  g6 : mg "Nothing" = some (.ref c6)
  g7 : mg "OutOfPlace" = some (.ref c7)
  g8 : mg "TooGreat" = some (.ref c8)
  x4 : PySem.W.exmAny K (.ref c4) [.ref c1, .ref c2, .ref c3, .ref c4, .ref c5, .ref c6, .ref c7, .ref c8] = some true
  x7 : PySem.W.exmAny K (.ref c7) [.ref c1, .ref c2, .ref c3, .ref c4, .ref c5, .ref c6, .ref c7, .ref c8] = some true
section
variable {P : Program} {w : World} {K : PySem.W.Frag} {mg : Str → Option Value} {base : Heap}
theorem scSay : FnScope ["self", "line"] ["self", "line"] (defScope sSay) := ⟨rfl, rfl, rfl, by decide +kernel, rfl, by decide +kernel, by decide +kernel⟩
def spSay (C : Addr) : Sp := fun vs H Q _ => ∃ p ls t, DeskAt C H p ls t ∧ ((vs = [.ref p, .str lineS] ∧ ls = [] ∧ ∀ H', Kept p H H' → DeskAt C H' p [lnS] t → Q (.str "done") H') ∨
  (∃ kd ns, vs = [.ref p, .str (lineOf (Kd.word kd) ns)] ∧ (∀ n ∈ ns, OkN n) ∧ ns.length ≤ 25 ∧ Shape kd ns ∧ ∀ H', Kept p H H' → DeskAt C H' p ls (ansF t kd ns).2 → Q (.str (ansF t kd ns).1) H'))
theorem ok_say {f fA C c1 c2 c3 c4 c5 c6 c7 c8 : Addr} {fd fdA : FuncData} (F : Fun K "say" "Desk.say" sSay f fd) (T : Dk K C) (G : Gm mg) (X : Exs K mg c1 c2 c3 c4 c5 c6 c7 c8)
    (GA : FnOk P w K mg base (L2.CX P w) 5 fA fdA ["self", "line"] (spAns C c4 c7)) (mA : Meth K C "answered" fA) (bA : Binds K fdA ["self", "line"] []) :
    FnOk P w K mg base CX0 6 f fd ["self", "line"] (spSay C) := by
  refine F.ok scSay (fun vs H Q E h => ?_) (fun cdv A outer s H vs Q E hr h => ?_)
  · obtain ⟨p, ls, t, _, ⟨rfl, _⟩ | ⟨kd, ns, rfl, _⟩⟩ := h
    · rfl
    · rfl
  · refine ⟨_, pss_cons (ps_if (pt_not (pt_val (pe_callB call_isi (by rfl) G.fInst (by decide +kernel) (pa_cons (pv 1) (pa_cons (pe_bltn (by rfl) G.fStr (by decide +kernel) (v := .ty "str") rfl) pa_nil))))) (pss_one ps_dead) pss_nil)
      (pss_one (ps_try_tup (cs := [.ref c1, .ref c2, .ref c3, .ref c4, .ref c5, .ref c6, .ref c7, .ref c8]) (tb := fun W => tRet (tMeth C "answered" (spAns C c4 c7) [] (fun cls d H => ∀ σ, W cls d σ H) (tVar 0) (tCons (tVar 1) tNil))) (ts := fun _ _ _ => tRet (tC (.str "no"))) rfl rfl
        (fun W pn xe tk ho => pss_one (ps_ret (pe_meth (pv 0) T.cl mA GA hr bA .nil (passes_call tk fun cls d σ H h => h σ) (pa_cons (pv 1) pa_nil))))
        (.cons ⟨rfl, by decide, .inl X.g1⟩ (.cons ⟨rfl, by decide, .inl X.g2⟩ (.cons ⟨rfl, by decide, .inl X.g3⟩ (.cons ⟨rfl, by decide, .inl X.g4⟩ (.cons ⟨rfl, by decide, .inl X.g5⟩ (.cons ⟨rfl, by decide, .inl X.g6⟩ (.cons ⟨rfl, by decide, .inl X.g7⟩ (.cons ⟨rfl, by decide, .inl X.g8⟩ .nil)))))))) (by show (8 : Nat) ≤ 100; decide)
        (fun a oe cls d pn hz hd => pss_one (ps_ret (pgS (by rfl) G.no))))), ?_⟩
    obtain ⟨p, ls, t, hD, h⟩ := h
    obtain ⟨dx, pl, tv, hp, hpl, ht⟩ := id hD
    rcases h with ⟨rfl, rfl, k⟩ | ⟨kd, ns, rfl, hn, hl, hsh, k⟩
    · refine ⟨_, rfl, _, _, _, _, true, rfl, .ty _, .base (.str lineS), kit_ty (by decide +kernel), _, rfl, iteF ?_⟩
      refine ⟨_, rfl, p, dx, _, rfl, hp, rfl, _, rfl, p, [], t, hD, .inl ⟨rfl, rfl, k⟩⟩
    · refine ⟨_, rfl, _, _, _, _, true, rfl, .ty _, .base (.str _), kit_ty (by decide +kernel), _, rfl, iteF ?_⟩
      refine ⟨_, rfl, p, dx, _, rfl, hp, rfl, _, rfl, p, ls, t, hD, .inr ⟨kd, ns, rfl, hn, hl, hsh, k, fun cls d H1 hc k1 d1 e1 σ => ⟨?_, fun a ha => ?_⟩⟩⟩
      · rcases hc with rfl | rfl
        · exact X.x4
        · exact X.x7
      · rw [e1] at k
        exact k _ k1 d1
end
end K94
set_option Elab.async false
set_option linter.all false
set_option maxRecDepth 100000
set_option maxHeartbeats 4000000
/-! The law's own draws: some number below the total. -/
namespace K94
open PySem PySem.Spec PyProof.Rows L2
section
variable {P : Program} {w : World} {K : PySem.W.Frag} {mg : Str → Option Value} {base : Heap}
def mKv (lc lg : Addr) (turn sm : Int) : List (Key × V) := [(.inr "cells", .ref lc), (.inr "great", .ref lg), (.inr "turn", .int turn), (.inr "sum", .int sm)]
/-- the law's record of draws at m, its list of great cells at lg -/
def MAt (H : Hp) (m lg : Addr) : Prop := ∃ lc, ∃ cells great : List Int, ∃ turn sm : Int, H m = some (.dK (mKv lc lg turn sm)) ∧ H lc = some (.lst (cells.map V.int)) ∧ H lg = some (.lst (great.map V.int)) ∧ lc ≠ lg ∧ 1 ≤ cells.length
/-- drawn: what else stood there stands there -/
def Mv (m lg : Addr) (H : Hp) (lg' : Addr) (H' : Hp) : Prop := MAt H' m lg' ∧ (lg' = lg ∨ H lg' = none) ∧ ∀ b u, H b = some u → b ≠ m → b ≠ lg → H' b = some u
def MAtG (H : Hp) (m lg : Addr) (great : List Int) : Prop := ∃ lc, ∃ cells : List Int, ∃ turn sm : Int, H m = some (.dK (mKv lc lg turn sm)) ∧ H lc = some (.lst (cells.map V.int)) ∧ H lg = some (.lst (great.map V.int)) ∧ lc ≠ lg ∧ 1 ≤ cells.length
def MvG (m lg : Addr) (H : Hp) (lg' : Addr) (H' : Hp) (great : List Int) : Prop := MAtG H' m lg' great ∧ (lg' = lg ∨ H lg' = none) ∧ ∀ b u, H b = some u → b ≠ m → b ≠ lg → H' b = some u
theorem MvG.mv {m lg lg' : Addr} {H H' : Hp} {gr : List Int} (h : MvG m lg H lg' H' gr) : Mv m lg H lg' H' := by
  obtain ⟨⟨lc, cells, tn, sm, h1⟩, h2, h3⟩ := h
  exact ⟨⟨lc, cells, gr, tn, sm, h1⟩, h2, h3⟩
theorem MAtG.same {m lg : Addr} {H H' : Hp} {gr : List Int} (h : MAtG H m lg gr) (s : Same H H') : MAtG H' m lg gr := by
  obtain ⟨lc, cells, tn, sm, h1, h2, h3, h4, h5⟩ := h
  exact ⟨lc, cells, tn, sm, s _ _ h1, s _ _ h2, s _ _ h3, h4, h5⟩
theorem MvG.same {m lg lg' : Addr} {H H' H2 : Hp} {gr : List Int} (h : MvG m lg H lg' H' gr) (s : Same H' H2) : MvG m lg H lg' H2 gr :=
  ⟨h.1.same s, h.2.1, fun b u e n1 n2 => s _ _ (h.2.2 b u e n1 n2)⟩
theorem get_cells {H : Hp} {m lc lg : Addr} {tn sm : Int} (e : H m = some (.dK (mKv lc lg tn sm))) : DGet H m (.str (Str.ofString "cells")) (some (.ref lc)) := .inl ⟨_, .inr "cells", .inl e, rfl, rfl⟩
theorem get_great {H : Hp} {m lc lg : Addr} {tn sm : Int} (e : H m = some (.dK (mKv lc lg tn sm))) : DGet H m (.str (Str.ofString "great")) (some (.ref lg)) := .inl ⟨_, .inr "great", .inl e, rfl, rfl⟩
theorem get_turn {H : Hp} {m lc lg : Addr} {tn sm : Int} (e : H m = some (.dK (mKv lc lg tn sm))) : DGet H m (.str (Str.ofString "turn")) (some (.int tn)) := .inl ⟨_, .inr "turn", .inl e, rfl, rfl⟩
theorem get_sum {H : Hp} {m lc lg : Addr} {tn sm : Int} (e : H m = some (.dK (mKv lc lg tn sm))) : DGet H m (.str (Str.ofString "sum")) (some (.int sm)) := .inl ⟨_, .inr "sum", .inl e, rfl, rfl⟩
theorem four_small : (4 : Nat) < sizeLine := by rw [sizeLine_eq]; decide
theorem put_turn {H : Hp} {m lc lg : Addr} {tn sm v : Int} (e : H m = some (.dK (mKv lc lg tn sm))) : DPut H m (.str (Str.ofString "turn")) (.int v) (upd H m (.dK (mKv lc lg v sm))) := .inl ⟨_, .inr "turn", e, rfl, four_small, rfl⟩
theorem put_sum {H : Hp} {m lc lg : Addr} {tn sm v : Int} (e : H m = some (.dK (mKv lc lg tn sm))) : DPut H m (.str (Str.ofString "sum")) (.int v) (upd H m (.dK (mKv lc lg tn v))) := .inl ⟨_, .inr "sum", e, rfl, four_small, rfl⟩
theorem put_great {H : Hp} {m lc lg p : Addr} {tn sm : Int} (e : H m = some (.dK (mKv lc lg tn sm))) : DPut H m (.str (Str.ofString "great")) (.ref p) (upd H m (.dK (mKv lc p tn sm))) := .inl ⟨_, .inr "great", e, rfl, four_small, rfl⟩
/-- the sum or the turn set -/
theorem MvG.put {m lg lg' lc : Addr} {H H' : Hp} {gr cells : List Int} {tn sm tn' sm' : Int} (h : MvG m lg H lg' H' gr) (e : H' m = some (.dK (mKv lc lg' tn sm))) (ec : H' lc = some (.lst (cells.map V.int))) (eg : H' lg' = some (.lst (gr.map V.int)))
    (n : lc ≠ lg') (hc : 1 ≤ cells.length) : MvG m lg H lg' (upd H' m (.dK (mKv lc lg' tn' sm'))) gr := by
  refine ⟨⟨lc, cells, tn', sm', upd_same, ?_, ?_, n, hc⟩, h.2.1, fun b u eb n1 n2 => ?_⟩
  · rw [upd_ne (ne_of ec e (by intro z; cases z))]
    exact ec
  · rw [upd_ne (ne_of eg e (by intro z; cases z))]
    exact eg
  · rw [upd_ne n1]
    exact h.2.2 b u eb n1 n2
/-- another list of great cells -/
theorem MvG.great {m lg lg' lc p : Addr} {H H' : Hp} {gr gr' cells : List Int} {tn sm : Int} (h : MvG m lg H lg' H' gr) (e : H' m = some (.dK (mKv lc lg' tn sm))) (ec : H' lc = some (.lst (cells.map V.int)))
    (hc : 1 ≤ cells.length) (hp : H' p = none) : MvG m lg H p (upd (upd H' p (.lst (gr'.map V.int))) m (.dK (mKv lc p tn sm))) gr' := by
  have npm : p ≠ m := fun z => by rw [z, e] at hp; cases hp
  have ncp : lc ≠ p := fun z => by rw [← z, ec] at hp; cases hp
  refine ⟨⟨lc, cells, tn, sm, upd_same, ?_, ?_, ncp, hc⟩, ?_, fun b u eb n1 n2 => ?_⟩
  · rw [upd_ne (ne_of ec e (by intro z; cases z)), upd_ne ncp]
    exact ec
  · rw [upd_ne npm]
    exact upd_same
  · by_cases z : p = lg
    · exact .inl z
    · right
      cases hq : H p with
      | none => rfl
      | some u =>
        have := h.2.2 p u hq npm z
        rw [hp] at this
        cases this
  · have := h.2.2 b u eb n1 n2
    rw [upd_ne n1, upd_ne (ne_of_none this hp)]
    exact this
/-- the list of great cells changed in place -/
theorem MvG.setG {m lg lg' : Addr} {H H' : Hp} {gr gr' : List Int} (h : MvG m lg H lg' H' gr) : MvG m lg H lg' (upd H' lg' (.lst (gr'.map V.int))) gr' := by
  obtain ⟨⟨lc, cells, tn, sm, e, ec, eg, n, hc⟩, h2, h3⟩ := h
  refine ⟨⟨lc, cells, tn, sm, ?_, ?_, upd_same, n, hc⟩, h2, fun b u eb n1 n2 => ?_⟩
  · rw [upd_ne (ne_of e eg (by intro z; cases z))]
    exact e
  · rw [upd_ne n]
    exact ec
  · have nb : b ≠ lg' := by
      rcases h2 with rfl | h2
      · exact n2
      · exact fun z => by rw [z, h2] at eb; cases eb
    rw [upd_ne nb]
    exact h3 b u eb n1 n2
theorem at0 {α : Type} {x : α} {xs : List α} : atI (x :: xs) 0 = some x := by
  unfold atI ixN
  rw [if_pos (by decide), if_pos (by rw [List.length_cons]; omega)]
  rfl
theorem ix0 {α : Type} {x : α} {xs : List α} : ixN (x :: xs).length 0 = some 0 := by
  unfold ixN
  rw [if_pos (by decide), if_pos (by rw [List.length_cons]; omega)]
  rfl
theorem cut_tail (g : Int) (gs : List Int) : cutV ((g :: gs).map V.int) (some 1) none = gs.map V.int := by
  unfold cutV
  have z : HT.sIx ((g :: gs).map V.int).length 0 (some 1) = 1 := by
    rw [show (1 : Int) = ((1 : Nat) : Int) from rfl, HT.sIx_nat, List.length_map, List.length_cons]
    omega
  rw [z, HT.sIx_none, List.map_cons, List.drop_succ_cons, List.drop_zero, List.length_cons]
  exact List.take_of_length_le (by omega)
def intsD (ns : List Int) : List PyData := ns.map PyData.int
theorem dp_ints {K : PySem.W.Frag} {H : Hp} : ∀ {ns : List Int}, DpAll K H (ns.map V.int) (intsD ns)
  | [] => .nil
  | n :: ns => .cons (.int n) dp_ints
theorem shaped_ints (ns : List Int) : SeqAt.shaped (.list (intsD ns)) = true := by
  have h1 : PyData.canLayAll0 (intsD ns) = true := by
    induction ns with
    | nil => rfl
    | cons n ns ih =>
      show PyData.canLayAll0 (PyData.int n :: intsD ns) = true
      simp [PyData.canLayAll0, PyData.canLay0, ih]
  have h2 : PyData.depthAll (intsD ns) = 0 := by
    induction ns with
    | nil => rfl
    | cons n ns ih =>
      show PyData.depthAll (PyData.int n :: intsD ns) = 0
      have i := ih (by
        have : PyData.canLayAll0 (PyData.int n :: intsD ns) = true := h1
        simpa [PyData.canLayAll0, PyData.canLay0] using this)
      simp [PyData.depthAll, PyData.depth, i]
  unfold SeqAt.shaped
  simp [PyData.canLay0, PyData.depth, h1, h2]
theorem eqv_nil (ns : List Int) : PyData.eqv (.list (intsD ns)) (.list (intsD [])) = ns.isEmpty := by
  cases ns with
  | nil => decide +kernel
  | cons n ns => simp [intsD, PyData.eqv, PyData.eqvAll]
theorem scNext : FnScope ["_law_m", "_law_total", "_law_found", "_law_cell"] ["_law_m", "_law_total"] (defScope sNext) := ⟨rfl, rfl, rfl, by decide +kernel, rfl, by decide +kernel, by decide +kernel⟩
def spNext : Sp := fun vs H Q _ => ∃ (m lg : Addr) (t : Int), vs = [.ref m, .int t] ∧ MAt H m lg ∧ 0 < t ∧ t < 1073741824 ∧ ∀ n lg' H', 0 ≤ n → n < t → Mv m lg H lg' H' → Q (.int n) H'
theorem ok_next {f : Addr} {fd : FuncData} (F : Fun K "_law_next" "_law_next" sNext f fd) (G : Gm mg) : FnOk P w K mg base CX0 1 f fd ["_law_m", "_law_total"] spNext := by
  refine F.ok scNext (fun vs H Q E h => ?_) (fun cdv A outer s H vs Q E hr h => ?_)
  · obtain ⟨m, lg, t, rfl, _⟩ := h
    rfl
  · obtain ⟨m, lg, t, rfl, hM, h0, h1, k⟩ := h
    have hu := hu_of hr
    refine ⟨_, pss_cons (ps_dput hu (pv 0) pe_str (pe_op op_add (pe_dget hu (pv 0) pe_str (fun _ _ => rfl)) pe_int) rfl)
      (pss_cons (ps_while PassesOwn.never (PW.pt (pw_and (pt_cmpR (op_neD hr.units) (pe_dget hu (pv 0) pe_str (fun _ _ => rfl)) (pe_lst pa_nil) (nomark _)) (pw_and1 (pt_cmpR op_eq (pe_ix ix_list (pe_dget hu (pv 0) pe_str (fun _ _ => rfl)) pe_int (fun _ _ => rfl)) pe_int (nomark _)))))
        (pss_one (ps_dput hu (pv 0) pe_str (pe_slice sl_list (pe_dget hu (pv 0) pe_str (fun _ _ => rfl)) (po_some pe_int) po_none) rfl)))
      (pss_cons (ps_if (pt_cmpR (op_neD hr.units) (pe_dget hu (pv 0) pe_str (fun _ _ => rfl)) (pe_lst pa_nil) (nomark _))
        (pss_cons (ps_asg (pe_tup (pa_cons (pe_op op_mod (pe_callTy call_int1 (by rfl) G.fInt (by decide +kernel) (pa_cons (pe_ix ix_list (pe_dget hu (pv 0) pe_str (fun _ _ => rfl)) pe_int (fun _ _ => rfl)) pa_nil)) (pv 1))
            (pa_cons (pe_op op_fdiv (pe_callTy call_int1 (by rfl) G.fInt (by decide +kernel) (pa_cons (pe_ix ix_list (pe_dget hu (pv 0) pe_str (fun _ _ => rfl)) pe_int (fun _ _ => rfl)) pa_nil)) (pv 1)) pa_nil)))
            (pg_tup rfl (pgs_cons (pg_name (i := 2) scNext.nd rfl (Or.inl rfl)) (pgs_cons (pg_sub (pe_dget hu (pv 0) pe_str (fun _ _ => rfl)) pe_int set_list (fun _ => rfl)) pgs_nil))))
          (pss_one (ps_ret (pv 2)))) pss_nil)
      (pss_cons (ps_set (i := 3) scNext.nd rfl (Or.inl rfl) (pe_ix ix_list (pe_dget hu (pv 0) pe_str (fun _ _ => rfl)) (pe_op op_mod (pe_callTy call_int1 (by rfl) G.fInt (by decide +kernel) (pa_cons (pe_dget hu (pv 0) pe_str (fun _ _ => rfl)) pa_nil)) (pe_callB call_len_seq (by rfl) G.fLen PySem.boot_len (pa_cons (pe_dget hu (pv 0) pe_str (fun _ _ => rfl)) pa_nil))) (fun _ _ => rfl)))
      (pss_cons (ps_dput hu (pv 0) pe_str (pe_op op_mod (pe_callTy call_int1 (by rfl) G.fInt (by decide +kernel) (pa_cons (pe_op op_add (pe_op op_add (pe_op op_mul (pe_dget hu (pv 0) pe_str (fun _ _ => rfl)) pe_int)
          (pe_op op_mod (pe_callTy call_int1 (by rfl) G.fInt (by decide +kernel) (pa_cons (pv 3) pa_nil)) pe_int)) (pe_op op_mul pe_int (pe_dget hu (pv 0) pe_str (fun _ _ => rfl)))) pa_nil)) pe_int) rfl)
      (pss_one (ps_ret (pe_op op_mod (pe_op op_fdiv (pe_op op_mod (pe_callTy call_int1 (by rfl) G.fInt (by decide +kernel) (pa_cons (pe_op op_add (pe_op op_mul (pe_dget hu (pv 0) pe_str (fun _ _ => rfl)) pe_int) (pe_dget hu (pv 0) pe_str (fun _ _ => rfl))) pa_nil)) pe_int) pe_int) (pv 1)))))))), ?_⟩
    obtain ⟨lc, cells, great, tn, sm, e, ec, eg, n, hc⟩ := hM
    have M0 : MvG m lg H lg H great := ⟨⟨lc, cells, tn, sm, e, ec, eg, n, hc⟩, .inl rfl, fun b u eb _ _ => eb⟩
    refine ⟨_, rfl, m, _, rfl, get_turn e, _, _, rfl, rfl, _, rfl, m, _, rfl, put_turn e, ?_⟩
    have M1 := M0.put e ec eg n hc (tn' := tn + 1) (sm' := sm)
    generalize upd H m (.dK (mKv lc lg (tn + 1) sm)) = H1 at M1
    refine ⟨fun k σ H2 => σ = [some (.ref m), some (.int t), none, none] ∧ ∃ lg2 gr, gr.length = k ∧ MvG m lg H lg2 H2 gr, ⟨_, rfl, lg, great, rfl, M1⟩, ?_⟩
    rintro kk σ H2 ⟨rfl, lg2, gr, rfl, M2⟩
    obtain ⟨lc2, cells2, tn2, sm2, e2, ec2, eg2, n2, hc2⟩ := id M2.1
    refine ⟨_, rfl, m, _, rfl, get_great e2, Nat.zero_le _, fun p hp => ?_⟩
    refine ⟨.list (intsD gr), .list (intsD []), .lst (.of (by rw [upd_ne (ne_of_none eg2 hp)]; exact eg2)) dp_ints, .lst (.of upd_same) .nil, shaped_ints gr, shaped_ints [], _, rfl, ?_⟩
    rw [eqv_nil]
    have M3 := M2.same (same_new (o := .lst []) hp)
    generalize upd H2 p (.lst []) = H3 at M3
    cases gr with
    | nil =>
      refine iteF (iteF ?_)
      have hgr : ∃ gr : List Int, gr = [] := ⟨_, rfl⟩
      obtain ⟨gr, hgr⟩ := hgr
      rw [← hgr] at M3
      obtain ⟨lc3, cells3, tn3, sm3, e3, ec3, eg3, n3, hc3⟩ := id M3.1
      refine ⟨_, rfl, m, _, rfl, get_great e3, Nat.zero_le _, fun p3 hp3 => ?_⟩
      refine ⟨.list (intsD gr), .list (intsD []), .lst (.of (by rw [upd_ne (ne_of_none eg3 hp3)]; exact eg3)) dp_ints, .lst (.of upd_same) .nil, shaped_ints gr, shaped_ints [], _, rfl, ?_⟩
      rw [eqv_nil]
      have M4 := M3.same (same_new (o := .lst []) hp3)
      generalize upd H3 p3 (.lst []) = H4 at M4
      obtain ⟨lc4, cells4, tn4, sm4, e4, ec4, eg4, n4, hc4⟩ := id M4.1
      cases gr with
      | cons g gs =>
        refine iteT ?_
        refine ⟨_, rfl, m, _, rfl, get_great e4, lg2, _, 0, _, rfl, rfl, .of eg4, at0, .inl ⟨_, rfl, _, rfl, _, _, rfl, rfl, h0, ?_⟩⟩
        refine ⟨_, rfl, m, _, rfl, get_great e4, lg2, _, 0, _, rfl, rfl, .of eg4, at0, .inl ⟨_, rfl, _, rfl, _, _, rfl, rfl, ⟨h0, h1⟩, ?_⟩⟩
        refine ⟨by show 2 ≤ sizeLine; rw [sizeLine_eq]; decide, fun T hT => ?_⟩
        have M5 := M4.same (same_new (o := .tup [.int (g % t), .int (g / t)]) hT)
        refine ⟨T, _, rfl, .of upd_same, rfl, ?_⟩
        generalize upd H4 T (.tup [.int (g % t), .int (g / t)]) = H5 at M5
        obtain ⟨lc5, cells5, tn5, sm5, e5, ec5, eg5, n5, hc5⟩ := id M5.1
        refine ⟨_, _, rfl, _, _, rfl, _, rfl, m, _, rfl, get_great e5, lg2, _, 0, 0, rfl, rfl, eg5, ix0, rfl, ?_⟩
        have M6 := M5.setG (gr' := (g / t) :: gs)
        exact ⟨_, rfl, k _ _ _ (Int.emod_nonneg _ (by omega)) (Int.emod_lt_of_pos _ h0) M6.mv⟩
      | nil =>
        refine iteF ?_
        have hlc : (cells4.map V.int).length = cells4.length := List.length_map ..
        have r0 := Int.emod_nonneg tn4 (show (cells4.length : Int) ≠ 0 by omega)
        have r1 := Int.emod_lt_of_pos tn4 (show (0 : Int) < (cells4.length : Int) by omega)
        obtain ⟨cv, hcv⟩ : ∃ cv, atI (cells4.map V.int) (tn4 % (cells4.length : Int)) = some (V.int cv) := by
          unfold atI ixN
          rw [if_pos r0, hlc, if_pos r1]
          have hlt : (tn4 % (cells4.length : Int)).toNat < cells4.length := by omega
          refine ⟨cells4[(tn4 % (cells4.length : Int)).toNat], ?_⟩
          show (cells4.map V.int)[(tn4 % (cells4.length : Int)).toNat]? = _
          rw [List.getElem?_map, List.getElem?_eq_getElem hlt]
          rfl
        refine ⟨_, rfl, m, _, rfl, get_cells e4, ?_⟩
        refine ⟨_, rfl, m, _, rfl, get_turn e4, .inl ⟨_, rfl, ?_⟩⟩
        refine ⟨_, rfl, m, _, rfl, get_cells e4, lc4, _, rfl, .inl (.of ec4), _, _, rfl, rfl, by rw [hlc]; omega, ?_⟩
        rw [hlc]
        refine ⟨lc4, _, _, _, rfl, rfl, .of ec4, hcv, ?_⟩
        refine ⟨_, rfl, m, _, rfl, get_sum e4, _, _, rfl, rfl, .inr ⟨by decide, by decide⟩, ?_⟩
        refine ⟨_, rfl, .inl ⟨_, rfl, _, _, rfl, rfl, (by show (0 : Int) < 2147483587; decide), _, _, rfl, rfl, ?_⟩⟩
        refine ⟨_, rfl, m, _, rfl, get_turn e4, _, _, rfl, rfl, .inl ⟨by decide, by decide⟩, _, _, rfl, rfl, .inl ⟨_, rfl, _, _, rfl, rfl, (by show (0 : Int) < 4294967291; decide), ?_⟩⟩
        refine ⟨_, rfl, m, _, rfl, put_sum e4, ?_⟩
        have M5 := M4.put e4 ec4 eg4 n4 hc4 (tn' := tn4) (sm' := (sm4 * 75364 + cv % 2147483587 + 977 * tn4) % 4294967291)
        generalize (sm4 * 75364 + cv % 2147483587 + 977 * tn4) % 4294967291 = sm5 at M5
        generalize hH5 : upd H4 m (.dK (mKv lc4 lg2 tn4 sm5)) = H5 at M5
        have e5 : H5 m = some (.dK (mKv lc4 lg2 tn4 sm5)) := by
          rw [← hH5]
          exact upd_same
        refine ⟨_, rfl, m, _, rfl, get_sum e5, _, _, rfl, rfl, .inr ⟨by decide, by decide⟩, ?_⟩
        refine ⟨_, rfl, m, _, rfl, get_turn e5, _, _, rfl, rfl, .inl ⟨_, rfl, _, _, rfl, rfl, (by show (0 : Int) < 4294967279; decide), _, _, rfl, rfl, ⟨by decide, by decide⟩, ?_⟩⟩
        exact ⟨_, rfl, _, _, rfl, rfl, h0, k _ _ _ (Int.emod_nonneg _ (by omega)) (Int.emod_lt_of_pos _ h0) M5.mv⟩
    | cons g gs =>
      obtain ⟨lc3, cells3, tn3, sm3, e3, ec3, eg3, n3, hc3⟩ := id M3.1
      refine iteT ?_
      refine ⟨_, rfl, m, _, rfl, get_great e3, lg2, _, 0, _, rfl, rfl, .of eg3, at0, rfl, _, rfl, ite2 (fun c => ?_) (fun c => ?_)⟩
      · refine ⟨fun σ' H' => σ' = [some (.ref m), some (.int t), none, none] ∧ ∃ lg2 gr', gr'.length = gs.length ∧ MvG m lg H lg2 H' gr', fun σ' H' h => ⟨gs.length, Nat.lt_succ_self _, h⟩, ?_⟩
        refine ⟨_, rfl, m, _, rfl, get_great e3, 1, rfl, lg2, _, rfl, .of eg3, fun p hp => ?_⟩
        rw [cut_tail]
        have e3' : upd H3 p (.lst (gs.map V.int)) m = some (.dK (mKv lc3 lg2 tn3 sm3)) := by
          rw [upd_ne (ne_of_none e3 hp)]
          exact e3
        exact ⟨_, rfl, m, _, rfl, put_great e3', rfl, p, gs, rfl, M3.great e3 ec3 hc3 hp⟩
      · generalize g :: gs = gr at M3
        obtain ⟨lc3, cells3, tn3, sm3, e3, ec3, eg3, n3, hc3⟩ := id M3.1
        refine ⟨_, rfl, m, _, rfl, get_great e3, Nat.zero_le _, fun p3 hp3 => ?_⟩
        refine ⟨.list (intsD gr), .list (intsD []), .lst (.of (by rw [upd_ne (ne_of_none eg3 hp3)]; exact eg3)) dp_ints, .lst (.of upd_same) .nil, shaped_ints gr, shaped_ints [], _, rfl, ?_⟩
        rw [eqv_nil]
        have M4 := M3.same (same_new (o := .lst []) hp3)
        generalize upd H3 p3 (.lst []) = H4 at M4
        obtain ⟨lc4, cells4, tn4, sm4, e4, ec4, eg4, n4, hc4⟩ := id M4.1
        cases gr with
        | cons g gs =>
          refine iteT ?_
          refine ⟨_, rfl, m, _, rfl, get_great e4, lg2, _, 0, _, rfl, rfl, .of eg4, at0, .inl ⟨_, rfl, _, rfl, _, _, rfl, rfl, h0, ?_⟩⟩
          refine ⟨_, rfl, m, _, rfl, get_great e4, lg2, _, 0, _, rfl, rfl, .of eg4, at0, .inl ⟨_, rfl, _, rfl, _, _, rfl, rfl, ⟨h0, h1⟩, ?_⟩⟩
          refine ⟨by show 2 ≤ sizeLine; rw [sizeLine_eq]; decide, fun T hT => ?_⟩
          have M5 := M4.same (same_new (o := .tup [.int (g % t), .int (g / t)]) hT)
          refine ⟨T, _, rfl, .of upd_same, rfl, ?_⟩
          generalize upd H4 T (.tup [.int (g % t), .int (g / t)]) = H5 at M5
          obtain ⟨lc5, cells5, tn5, sm5, e5, ec5, eg5, n5, hc5⟩ := id M5.1
          refine ⟨_, _, rfl, _, _, rfl, _, rfl, m, _, rfl, get_great e5, lg2, _, 0, 0, rfl, rfl, eg5, ix0, rfl, ?_⟩
          have M6 := M5.setG (gr' := (g / t) :: gs)
          exact ⟨_, rfl, k _ _ _ (Int.emod_nonneg _ (by omega)) (Int.emod_lt_of_pos _ h0) M6.mv⟩
        | nil =>
          refine iteF ?_
          have hlc : (cells4.map V.int).length = cells4.length := List.length_map ..
          have r0 := Int.emod_nonneg tn4 (show (cells4.length : Int) ≠ 0 by omega)
          have r1 := Int.emod_lt_of_pos tn4 (show (0 : Int) < (cells4.length : Int) by omega)
          obtain ⟨cv, hcv⟩ : ∃ cv, atI (cells4.map V.int) (tn4 % (cells4.length : Int)) = some (V.int cv) := by
            unfold atI ixN
            rw [if_pos r0, hlc, if_pos r1]
            have hlt : (tn4 % (cells4.length : Int)).toNat < cells4.length := by omega
            refine ⟨cells4[(tn4 % (cells4.length : Int)).toNat], ?_⟩
            show (cells4.map V.int)[(tn4 % (cells4.length : Int)).toNat]? = _
            rw [List.getElem?_map, List.getElem?_eq_getElem hlt]
            rfl
          refine ⟨_, rfl, m, _, rfl, get_cells e4, ?_⟩
          refine ⟨_, rfl, m, _, rfl, get_turn e4, .inl ⟨_, rfl, ?_⟩⟩
          refine ⟨_, rfl, m, _, rfl, get_cells e4, lc4, _, rfl, .inl (.of ec4), _, _, rfl, rfl, by rw [hlc]; omega, ?_⟩
          rw [hlc]
          refine ⟨lc4, _, _, _, rfl, rfl, .of ec4, hcv, ?_⟩
          refine ⟨_, rfl, m, _, rfl, get_sum e4, _, _, rfl, rfl, .inr ⟨by decide, by decide⟩, ?_⟩
          refine ⟨_, rfl, .inl ⟨_, rfl, _, _, rfl, rfl, (by show (0 : Int) < 2147483587; decide), _, _, rfl, rfl, ?_⟩⟩
          refine ⟨_, rfl, m, _, rfl, get_turn e4, _, _, rfl, rfl, .inl ⟨by decide, by decide⟩, _, _, rfl, rfl, .inl ⟨_, rfl, _, _, rfl, rfl, (by show (0 : Int) < 4294967291; decide), ?_⟩⟩
          refine ⟨_, rfl, m, _, rfl, put_sum e4, ?_⟩
          have M5 := M4.put e4 ec4 eg4 n4 hc4 (tn' := tn4) (sm' := (sm4 * 75364 + cv % 2147483587 + 977 * tn4) % 4294967291)
          generalize (sm4 * 75364 + cv % 2147483587 + 977 * tn4) % 4294967291 = sm5 at M5
          generalize hH5 : upd H4 m (.dK (mKv lc4 lg2 tn4 sm5)) = H5 at M5
          have e5 : H5 m = some (.dK (mKv lc4 lg2 tn4 sm5)) := by
            rw [← hH5]
            exact upd_same
          refine ⟨_, rfl, m, _, rfl, get_sum e5, _, _, rfl, rfl, .inr ⟨by decide, by decide⟩, ?_⟩
          refine ⟨_, rfl, m, _, rfl, get_turn e5, _, _, rfl, rfl, .inl ⟨_, rfl, _, _, rfl, rfl, (by show (0 : Int) < 4294967279; decide), _, _, rfl, rfl, ⟨by decide, by decide⟩, ?_⟩⟩
          exact ⟨_, rfl, _, _, rfl, rfl, h0, k _ _ _ (Int.emod_nonneg _ (by omega)) (Int.emod_lt_of_pos _ h0) M5.mv⟩
end
end K94
set_option Elab.async false
set_option linter.all false
set_option maxRecDepth 100000
set_option maxHeartbeats 4000000
/-! The law's own defs: the record begun, one drawn, paid. -/
namespace K94
open PySem PySem.Spec PyProof.Rows L2
section
variable {P : Program} {w : World} {K : PySem.W.Frag} {mg : Str → Option Value} {base : Heap}
theorem scStart : FnScope ["_law_script", "_law_cells", "_law_cell"] ["_law_script"] (defScope sStart) := ⟨rfl, rfl, rfl, by decide +kernel, rfl, by decide +kernel, by decide +kernel⟩
def spStart (K : PySem.W.Frag) : Sp := fun vs H Q _ => ∃ (a : Addr) (ns : List Int), vs = [.ref a] ∧ SqL K H a (ns.map V.int) ∧ ns.length ≤ 1000 ∧ ∀ m lg H', H m = none → MAt H' m lg → Same H H' → Q (.ref m) H'
theorem ok_start {f : Addr} {fd : FuncData} (F : Fun K "_law_start" "_law_start" sStart f fd) (G : Gm mg) : FnOk P w K mg base CX0 1 f fd ["_law_script"] (spStart K) := by
  refine F.ok scStart (fun vs H Q E h => ?_) (fun cdv A outer s H vs Q E hr h => ?_)
  · obtain ⟨a, ns, rfl, _⟩ := h
    rfl
  · obtain ⟨a, ns, rfl, hS, hl, k⟩ := h
    refine ⟨_, pss_cons (ps_set (i := 1) scStart.nd rfl (Or.inl rfl) (pe_op op_cat (pe_callTy call_list_of (by rfl) G.fList (by decide +kernel) (pa_cons (pv 0) pa_nil)) (pe_lst (pa_cons pe_int pa_nil))))
      (pss_one (ps_ret (pe_disp (pps_cons pe_str (pv 1) (pps_cons pe_str (pe_lc (own := [("_law_cell", 2)]) (g := gName 2) rfl scStart.nd (pi_list (pv 0))
          (blkOk_by (N := ["_law_script", "_law_cells", "_law_cell"]) (sc := defScope sStart) (by decide +kernel)) (fun _ _ _ _ _ => pg_name (i := 2) scStart.nd rfl (Or.inl rfl)) (fun _ _ _ _ _ => pts_one (pt_cmpR op_ge (pv 2) (pe_op op_pow pe_int pe_int) (nomark _)))
          (fun _ _ _ _ _ => pv 2)) (pps_cons pe_str pe_int (pps_cons pe_str (pe_callB call_len_seq (by rfl) G.fLen PySem.boot_len (pa_cons (pv 1) pa_nil)) pps_nil)))) rfl rfl (by simp) (by decide)))), ?_⟩
    have l31 : (1100 : Nat) ≤ sizeLine := by rw [sizeLine_eq]; decide
    have hml : (ns.map V.int).length = ns.length := List.length_map ..
    refine ⟨_, rfl, a, _, rfl, .inl hS, fun l1 h1 => ?_⟩
    have s1 : Same H (upd H l1 (.lst (ns.map V.int))) := same_new h1
    have e1 : upd H l1 (.lst (ns.map V.int)) l1 = some (.lst (ns.map V.int)) := upd_same
    generalize upd H l1 (.lst (ns.map V.int)) = H1 at s1 e1 ⊢
    refine ⟨by show 1 ≤ sizeLine; omega, fun l2 h2 => ?_⟩
    have s2 : Same H1 (upd H1 l2 (.lst [.int 29])) := same_new h2
    have e2 : upd H1 l2 (.lst [.int 29]) l2 = some (.lst [.int 29]) := upd_same
    have e2' := s2 _ _ e1
    generalize upd H1 l2 (.lst [.int 29]) = H2 at s2 e2 e2' ⊢
    refine ⟨l1, l2, _, _, rfl, rfl, e2', e2, by rw [hml]; show ns.length + 1 ≤ sizeLine; omega, fun lc h3 => ?_⟩
    have s3 : Same H2 (upd H2 lc (.lst (ns.map V.int ++ [.int 29]))) := same_new h3
    have e3 : upd H2 lc (.lst (ns.map V.int ++ [.int 29])) lc = some (.lst ((ns ++ [29]).map V.int)) := by
      rw [upd_same, List.map_append]
      rfl
    have sA := Same.trans s1 (Same.trans s2 s3)
    generalize upd H2 lc (.lst (ns.map V.int ++ [.int 29])) = H3 at sA e3 ⊢
    intro m hm
    have s4 : Same H3 (upd H3 m (.dK [])) := same_new hm
    have e4 : upd H3 m (.dK []) m = some (.dK []) := upd_same
    have e4' := s4 _ _ e3
    have sB := Same.trans sA s4
    have hm0 : H m = none := by
      cases q : H m with
      | none => rfl
      | some u =>
        rw [sA _ _ q] at hm
        cases hm
    generalize upd H3 m (.dK []) = H4 at sB e4 e4' ⊢
    refine ⟨_, rfl, _, rfl, a, rfl, ⟨_, same_list sB hS⟩, fun lg hg => lc_it (walk_list (xs := ns.map V.int)) (fun i H5 => Same H4 H5 ∧ ∃ gr : List Int, gr.length ≤ i ∧ H5 lg = some (.lst (gr.map V.int))) ⟨same_new hg, [], Nat.le_refl _, upd_same⟩ (fun i H5 _ ⟨s5, _⟩ => same_list (Same.trans sB s5) hS) ?_ ?_⟩
    · rintro i x H5 H6 hi ⟨s5, gr, hgl, hgr⟩ ⟨rfl, ex⟩
      have ex' : (ns.map V.int)[i]? = some x := ex
      rw [List.getElem?_map] at ex'
      cases hq : ns[i]? with
      | none => rw [hq] at ex'; cases ex'
      | some n =>
        rw [hq] at ex'
        obtain rfl : V.int n = x := Option.some.inj ex'
        refine ⟨rfl, ?_⟩
        refine ⟨_, rfl, _, _, rfl, rfl, ⟨by decide, by decide, by decide⟩, _, _, rfl, rfl, _, rfl, ite2 (fun c => ?_) (fun c => ?_)⟩
        · refine ⟨_, rfl, _, hgr, by rw [List.length_map]; omega, fun b o e => ?_, gr ++ [n], ?_, ?_⟩
          · rw [upd_ne (ne_of_none e hg)]
            exact s5 _ _ e
          · rw [List.length_append]
            exact Nat.succ_le_succ hgl
          · rw [upd_same, List.map_append]
            rfl
        · exact ⟨s5, gr, Nat.le_succ_of_le hgl, hgr⟩
    · rintro H5 ⟨s5, gr, hgl, hgr⟩
      refine ⟨_, rfl, lc, _, rfl, .inl (.of (s5 _ _ e4')), s5 _ _ e4, mKv lc lg 0 (((ns ++ [29]).map V.int).length : Int), rfl, by show 4 ≤ 15; decide, ?_⟩
      have em : ∀ z : Int, mergeK [] (mKv lc lg 0 z) = mKv lc lg 0 z := fun _ => rfl
      rw [em]
      have e5 := s5 _ _ e4'
      have e5m := s5 _ _ e4
      have nlg : lc ≠ lg := ne_of_none e4' hg
      refine k m lg _ hm0 ⟨lc, ns ++ [29], gr, 0, _, upd_same, ?_, ?_, nlg, ?_⟩ fun b u e => ?_
      · rw [upd_ne (ne_of e5 e5m (by intro z; cases z))]
        exact e5
      · rw [upd_ne (ne_of hgr e5m (by intro z; cases z))]
        exact hgr
      · rw [List.length_append]
        show 1 ≤ ns.length + 1
        omega
      · rw [upd_ne (ne_of_none e hm0)]
        exact s5 _ _ (sB _ _ e)
/-! ### one of some -/
theorem scOf : FnScope ["_law_m", "_law_some"] ["_law_m", "_law_some"] (defScope sOf) := ⟨rfl, rfl, rfl, by decide +kernel, rfl, by decide +kernel, by decide +kernel⟩
def spOf : Sp := fun vs H Q _ => ∃ (m lg l : Addr) (xs : List V), vs = [.ref m, .ref l] ∧ MAt H m lg ∧ H l = some (.lst xs) ∧ l ≠ lg ∧ 1 ≤ xs.length ∧ xs.length ≤ 1000 ∧ ∀ v ∈ xs, ∀ lg' H', Mv m lg H lg' H' → Q v H'
theorem at_in {xs : List V} {n : Int} (h0 : 0 ≤ n) (h1 : n < (xs.length : Int)) : ∃ v, v ∈ xs ∧ atI xs n = some v := by
  have hlt : n.toNat < xs.length := by omega
  refine ⟨xs[n.toNat], List.getElem_mem hlt, ?_⟩
  unfold atI ixN
  rw [if_pos h0, if_pos h1]
  exact List.getElem?_eq_getElem hlt
theorem ok_of {f fN : Addr} {fd fdN : FuncData} (F : Fun K "_law_of" "_law_of" sOf f fd) (G : Gm mg)
    (GN : FnOk P w K mg base CX0 1 fN fdN ["_law_m", "_law_total"] spNext) (kN : PySem.W.keepIn K (.ref fN) = true) (bN : Binds K fdN ["_law_m", "_law_total"] []) (gN : mg "_law_next" = some (.ref fN)) :
    FnOk P w K mg base CX0 2 f fd ["_law_m", "_law_some"] spOf := by
  refine F.ok scOf (fun vs H Q E h => ?_) (fun cdv A outer s H vs Q E hr h => ?_)
  · obtain ⟨m, lg, l, xs, rfl, _⟩ := h
    rfl
  · obtain ⟨m, lg, l, xs, rfl, hM, hl, nl, h1, h2, k⟩ := h
    refine ⟨_, pss_one (ps_ret (pe_ix ix_list (pv 1) (pe_call GN hr (by rfl) gN kN bN .nil pass0 (pa_cons (pv 0) (pa_cons (pe_callB call_len_seq (by rfl) G.fLen PySem.boot_len (pa_cons (pv 1) pa_nil)) pa_nil))) (fun _ _ => rfl))), ?_⟩
    refine ⟨_, rfl, _, rfl, _, rfl, l, xs, rfl, .inl (.of hl), m, lg, _, rfl, hM, by omega, by omega, fun n lg' H' n0 n1 hv => ?_⟩
    have nm : l ≠ m := by
      obtain ⟨lc, cells, gr, tn, sm, e, _⟩ := hM
      exact ne_of hl e (by intro z; cases z)
    obtain ⟨v, hvm, hat⟩ := at_in n0 n1
    exact ⟨l, xs, n, v, rfl, rfl, .of (hv.2.2 _ _ hl nm nl), hat, k v hvm _ _ hv⟩
/-! ### paid -/
theorem scPaid : FnScope ["_law_prices", "_law_begin", "_law_moments", "_law_day", "_law_found", "_law_k"] ["_law_prices", "_law_begin", "_law_moments"] (defScope sPaid) := ⟨rfl, rfl, rfl, by decide +kernel, rfl, by decide +kernel, by decide +kernel⟩
def spPaid (K : PySem.W.Frag) : Sp := fun vs H Q _ => ∃ (a : Addr) (ps : List Int) (b m : Int), vs = [.ref a, .int b, .int m] ∧ SqL K H a (ps.map V.int) ∧ ValidT ps ∧ 0 ≤ b ∧ 0 ≤ m ∧ ∀ H', Same H H' → Q (.int (costF ps b m)) H'
theorem ok_paid {f : Addr} {fd : FuncData} (F : Fun K "_law_paid" "_law_paid" sPaid f fd) (G : Gm mg) : FnOk P w K mg base CX0 1 f fd ["_law_prices", "_law_begin", "_law_moments"] (spPaid K) := by
  refine F.ok scPaid (fun vs H Q E h => ?_) (fun cdv A outer s H vs Q E hr h => ?_)
  · obtain ⟨a, ps, b, m, rfl, _⟩ := h
    rfl
  · obtain ⟨a, ps, b, m, rfl, hS, hv, hb, hm, k⟩ := h
    refine ⟨_, pss_cons (ps_set (i := 3) scPaid.nd rfl (Or.inl rfl) (pe_callB call_len_seq (by rfl) G.fLen PySem.boot_len (pa_cons (pv 0) pa_nil)))
      (pss_cons (ps_set (i := 4) scPaid.nd rfl (Or.inl rfl) (pe_op op_mul (pe_op op_fdiv (pv 2) (pv 3)) (pe_callB (cr_sum rfl) (by rfl) G.fSum (by decide +kernel) (pa_cons (pv 0) pa_nil))))
      (pss_cons (ps_for PassesOwn.never rfl (pi_range1 (by rfl) G.fRange (pa_cons (pe_op op_mod (pe_callTy call_int1 (by rfl) G.fInt (by decide +kernel) (pa_cons (pv 2) pa_nil)) (pv 3)) pa_nil)) (pg_name (i := 5) scPaid.nd rfl (Or.inl rfl))
        (pss_one (ps_set (i := 4) scPaid.nd rfl (Or.inl rfl) (pe_op op_add (pv 4) (pe_ix ix_list (pv 0) (pe_op op_mod (pe_callTy call_int1 (by rfl) G.fInt (by decide +kernel) (pa_cons (pe_op op_add (pv 1) (pv 5)) pa_nil)) (pv 3)) (fun _ _ => rfl))))))
      (pss_one (ps_ret (pv 4))))), ?_⟩
    have el : (ps.map V.int).length = ps.length := List.length_map ..
    obtain ⟨l1, l2, hp⟩ := id hv
    have sb := sum_bound hp
    have r0 := Int.emod_nonneg m (show (ps.length : Int) ≠ 0 by omega)
    have r1 := Int.emod_lt_of_pos m (show 0 < (ps.length : Int) by omega)
    refine ⟨_, rfl, a, _, rfl, .inl hS, ?_⟩
    rw [el]
    refine ⟨_, rfl, _, rfl, _, _, rfl, rfl, ⟨by omega, by omega⟩, _, rfl, a, ps, rfl, hS, _, _, rfl, rfl, .inr ⟨by omega, by omega⟩, ?_⟩
    refine ⟨_, rfl, .inl ⟨_, rfl, _, rfl, _, _, rfl, rfl, (by show (0 : Int) < _; omega), _, rfl, by omega, by omega, ?_⟩⟩
    refine for_range (fun i σ H1 => H1 = H ∧ ∃ v5, σ = [some (.ref a), some (.int b), some (.int m), some (.int (ps.length : Int)), some (.int (m / (ps.length : Int) * ps.sum + stepsF ps b i)), v5]) ⟨rfl, none, by rw [show stepsF ps b 0 = 0 from rfl, Int.add_zero]; rfl⟩ ?_ ?_
    · rintro i σ H1 hi ⟨rfl, v5, rfl⟩
      have q0 := Int.emod_nonneg (b + (0 + (i : Int))) (show (ps.length : Int) ≠ 0 by omega)
      have q1 := Int.emod_lt_of_pos (b + (0 + (i : Int))) (show 0 < (ps.length : Int) by omega)
      have hat : atI (ps.map V.int) ((b + (0 + (i : Int))) % (ps.length : Int)) = some (.int (ps.getD ((b + (0 + (i : Int))) % (ps.length : Int)).toNat 0)) := by
        have hlt : ((b + (0 + (i : Int))) % (ps.length : Int)).toNat < ps.length := by omega
        unfold atI ixN
        rw [if_pos q0, el, if_pos q1]
        show (ps.map V.int)[((b + (0 + (i : Int))) % (ps.length : Int)).toNat]? = _
        rw [List.getElem?_map, List.getElem?_eq_getElem hlt, List.getD_eq_getElem?_getD, List.getElem?_eq_getElem hlt]
        rfl
      refine ⟨_, rfl, _, rfl, _, rfl, _, rfl, _, _, rfl, rfl, .inl ⟨_, rfl, _, rfl, _, _, rfl, rfl, (by show (0 : Int) < _; omega), a, _, _, _, rfl, rfl, hS, hat, _, _, rfl, rfl, ?_⟩⟩
      refine ⟨rfl, some (.int (0 + (i : Int))), ?_⟩
      have ee : m / (ps.length : Int) * ps.sum + stepsF ps b (i + 1) = m / (ps.length : Int) * ps.sum + stepsF ps b i + ps.getD ((b + (0 + (i : Int))) % (ps.length : Int)).toNat 0 := by
        rw [Int.zero_add, Int.add_assoc]
        rfl
      rw [ee]
      rfl
    · rintro σ H1 ⟨rfl, v5, rfl⟩
      refine ⟨_, rfl, ?_⟩
      have e : m / (ps.length : Int) * ps.sum + stepsF ps b (m % (ps.length : Int)).toNat = costF ps b m := paid_eq (by rintro rfl; exact absurd l1 (by decide)) hb hm
      rw [e]
      exact k _ (Same.refl _)
end
end K94
set_option Elab.async false
set_option linter.all false
set_option maxRecDepth 100000
set_option maxHeartbeats 4000000
/-! The law's own defs: the first best begin, a great number. -/
namespace K94
open PySem PySem.Spec PyProof.Rows L2
theorem MAt.same {m lg : Addr} {H H' : Hp} (h : MAt H m lg) (s : Same H H') : MAt H' m lg := by
  obtain ⟨lc, cells, gr, tn, sm, h1, h2, h3, h4, h5⟩ := h
  exact ⟨lc, cells, gr, tn, sm, s _ _ h1, s _ _ h2, s _ _ h3, h4, h5⟩
theorem Mv.refl {m lg : Addr} {H : Hp} (h : MAt H m lg) : Mv m lg H lg H := ⟨h, .inl rfl, fun b u e _ _ => e⟩
theorem Mv.same {m lg lg1 : Addr} {H H1 H2 : Hp} (h : Mv m lg H lg1 H1) (s : Same H1 H2) : Mv m lg H lg1 H2 := ⟨h.1.same s, h.2.1, fun b u e n1 n2 => s _ _ (h.2.2 b u e n1 n2)⟩
/-- what stood there apart from the draws, behind them is no list of great cells -/
theorem Mv.ne {m lg lg1 b : Addr} {H H1 : Hp} {u : HO} (h : Mv m lg H lg1 H1) (e : H b = some u) (n : b ≠ lg) : b ≠ lg1 := by
  rcases h.2.1 with rfl | z
  · exact n
  · exact fun y => by rw [y, z] at e; cases e
theorem Mv.trans {m lg lg1 lg2 : Addr} {H H1 H2 : Hp} (h : Mv m lg H lg1 H1) (h' : Mv m lg1 H1 lg2 H2) : Mv m lg H lg2 H2 := by
  refine ⟨h'.1, ?_, fun b u e n1 n2 => h'.2.2 b u (h.2.2 b u e n1 n2) n1 (h.ne e n2)⟩
  rcases h'.2.1 with rfl | z
  · exact h.2.1
  · by_cases c : lg2 = lg
    · exact .inl c
    · right
      cases q : H lg2 with
      | none => rfl
      | some u =>
        have nm : lg2 ≠ m := by
          rintro rfl
          obtain ⟨lc, cells, gr, tn, sm, e1, e2, e3, _⟩ := h'.1
          rw [e1] at e3
          cases e3
        have := h.2.2 _ _ q nm c
        rw [z] at this
        cases this
section
variable {P : Program} {w : World} {K : PySem.W.Frag} {mg : Str → Option Value} {base : Heap}
/-! ### first -/
theorem scFirst : FnScope ["_law_prices", "_law_moments", "_law_low", "_law_high", "_law_last", "_law_rows", "_law_begin"] ["_law_prices", "_law_moments", "_law_low", "_law_high"] (defScope sFirst) := ⟨rfl, rfl, rfl, by decide +kernel, rfl, by decide +kernel, by decide +kernel⟩
def spFirst (K : PySem.W.Frag) : Sp := fun vs H Q _ => ∃ (a : Addr) (ps : List Int) (m lo hi : Int), vs = [.ref a, .int m, .int lo, .int hi] ∧ SqL K H a (ps.map V.int) ∧ ValidT ps ∧ 0 ≤ m ∧ 0 ≤ lo ∧ lo ≤ hi ∧ ∀ H', Same H H' → Q (.int (bestF ps m lo hi)) H'
theorem ok_first {f fP : Addr} {fd fdP : FuncData} (F : Fun K "_law_first" "_law_first" sFirst f fd) (G : Gm mg)
    (GP : FnOk P w K mg base CX0 1 fP fdP ["_law_prices", "_law_begin", "_law_moments"] (spPaid K)) (kP : PySem.W.keepIn K (.ref fP) = true) (bP : Binds K fdP ["_law_prices", "_law_begin", "_law_moments"] []) (gP : mg "_law_paid" = some (.ref fP)) :
    FnOk P w K mg base CX0 2 f fd ["_law_prices", "_law_moments", "_law_low", "_law_high"] (spFirst K) := by
  refine F.ok scFirst (fun vs H Q E h => ?_) (fun cdv A outer s H vs Q E hr h => ?_)
  · obtain ⟨a, ps, m, lo, hi, rfl, _⟩ := h
    rfl
  · obtain ⟨a, ps, m, lo, hi, rfl, hS, hv, hm, hlo, hlh, hq⟩ := h
    refine ⟨_, pss_cons (ps_set (i := 4) scFirst.nd rfl (Or.inl rfl) (pe_callB (call_min2 rfl) (by rfl) G.fMin (by decide +kernel) (pa_cons (pv 3) (pa_cons (pe_op op_sub (pe_op op_add (pv 2) (pe_callB call_len_seq (by rfl) G.fLen PySem.boot_len (pa_cons (pv 0) pa_nil))) pe_int) pa_nil))))
      (pss_cons (ps_setLc (i := 5) (own := [("_law_begin", 6)]) (g := gName 6) (tt := tYes) rfl scFirst.nd rfl rfl rfl (pi_rangeW (by rfl) G.fRange (pa_cons (pv 2) (pa_cons (pe_op op_add (pv 4) pe_int) pa_nil)))
          (blkOk_by (N := ["_law_prices", "_law_moments", "_law_low", "_law_high", "_law_last", "_law_rows", "_law_begin"]) (sc := defScope sFirst) (by decide +kernel)) (fun _ _ _ _ _ => pg_name (i := 6) scFirst.nd rfl (Or.inl rfl)) (fun _ _ _ _ _ => pts_nil)
          (fun _ _ _ _ _ => pe_tup (pa_cons (pe_call GP hr (by rfl) gP kP bP .nil pass0 (pa_cons (pv 0) (pa_cons (pv 6) (pa_cons (pv 1) pa_nil)))) (pa_cons (pv 6) pa_nil))))
      (pss_one (ps_ret (pe_ix ix_tup (pe_callB (cr_minP rfl (by have := hr.un; show (A.deeper _).units + 65 < cLine; omega)) (by rfl) G.fMin (by decide +kernel)
        (pa_cons (pv 5) pa_nil)) pe_int (fun _ _ => rfl))))), ?_⟩
    have el : (ps.map V.int).length = ps.length := List.length_map ..
    refine ⟨_, rfl, _, rfl, _, rfl, a, _, rfl, .inl hS, _, _, rfl, rfl, _, _, rfl, rfl, _, _, rfl, ?_⟩
    rw [el]
    have l1 := hv.1
    have la : lo ≤ lastF ps lo hi := by
      unfold lastF
      split <;> omega
    have lb : lastF ps lo hi + 1 - lo ≤ 24 := by
      have := hv.2.1
      unfold lastF
      split <;> omega
    have hbest : bestF ps m lo hi = leastF (pairsF ps m lo (lastF ps lo hi + 1 - lo).toNat) := rfl
    rw [show (if lo + (ps.length : Int) - 1 < hi then lo + (ps.length : Int) - 1 else hi) = lastF ps lo hi from rfl]
    generalize lastF ps lo hi = ls at la lb hbest
    refine ⟨_, rfl, _, rfl, _, _, rfl, rfl, lo, ls + 1, rfl, fun D hD => lc_range (lo := lo) (n := (ls + 1 - lo).toNat) (fun i H2 => Same H H2 ∧ ∃ ts : List Addr, H2 D = some (.lst (ts.map V.ref)) ∧ Paired (fun (t : Addr) (q : Int × Int) => H2 t = some (.tup [.int q.1, .int q.2])) ts (pairsF ps m lo i))
      ⟨same_new hD, [], upd_same, .nil⟩ ?_ ?_⟩
    · rintro i H2 hi' ⟨s2, ts, hDl, hP⟩
      have hl := hP.length
      rw [pairs_len] at hl
      refine ⟨rfl, ?_⟩
      refine ⟨_, rfl, _, rfl, _, rfl, a, ps, _, _, rfl, same_list s2 hS, hv, by omega, by omega, fun H3 s3 => ?_⟩
      refine ⟨_, rfl, by show 2 ≤ sizeLine; decide, fun t ht => ?_⟩
      have hDl3 : H3 D = some (.lst (ts.map V.ref)) := s3 _ _ hDl
      have nDt : D ≠ t := ne_of_none hDl3 ht
      refine ⟨ts.map V.ref, by rw [upd_ne nDt]; exact hDl3, by rw [List.length_map, sizeLine_eq]; omega, fun b o e => ?_, ts ++ [t], ?_, ?_⟩
      · have hb : b ≠ D := ne_of_none e hD
        rw [upd_ne hb, upd_ne (ne_of_none (s3 _ _ (s2 _ _ e)) ht)]
        exact s3 _ _ (s2 _ _ e)
      · rw [upd_same, List.map_append]
        rfl
      · rw [pairs_succ]
        refine paired_snoc ?_ (Paired.mapP hP fun t' q e => ?_)
        · rw [upd_ne nDt.symm, upd_same]
        · have e3 := s3 _ _ e
          rw [upd_ne (ne_of e3 hDl3 (by intro z; cases z)), upd_ne (ne_of_none e3 ht)]
          exact e3
    · rintro H2 ⟨s2, ts, hDl, hP⟩
      cases hp : pairsF ps m lo (ls + 1 - lo).toNat with
      | nil =>
        have := pairs_len ps m lo (ls + 1 - lo).toNat
        rw [hp] at this
        have z : (0 : Nat) = (ls + 1 - lo).toNat := this
        omega
      | cons q r =>
        rw [hp] at hP hbest
        refine ⟨_, rfl, D, ts, q, r, rfl, .of hDl, hP, fun t ht => ?_⟩
        refine ⟨_, _, _, _, rfl, rfl, .of ht, rfl, ?_⟩
        have e : bestF ps m lo hi = (PySem.W.minOf q r).2 := hbest
        rw [← e]
        exact hq H2 s2
/-! ### great -/
theorem scGreat : FnScope ["_law_m", "_law_some"] ["_law_m"] (defScope sGreat) := ⟨rfl, rfl, rfl, by decide +kernel, rfl, by decide +kernel, by decide +kernel⟩
def spGreat : Sp := fun vs H Q _ => ∃ (m lg : Addr), vs = [.ref m] ∧ MAt H m lg ∧ ∀ n lg' H', 1 ≤ n → n ≤ M30 → Mv m lg H lg' H' → Q (.int n) H'
theorem ok_great {f fN fO : Addr} {fd fdN fdO : FuncData} (F : Fun K "_law_great" "_law_great" sGreat f fd) (G : Gm mg)
    (GN : FnOk P w K mg base CX0 1 fN fdN ["_law_m", "_law_total"] spNext) (kN : PySem.W.keepIn K (.ref fN) = true) (bN : Binds K fdN ["_law_m", "_law_total"] []) (gN : mg "_law_next" = some (.ref fN))
    (GO : FnOk P w K mg base CX0 2 fO fdO ["_law_m", "_law_some"] spOf) (kO : PySem.W.keepIn K (.ref fO) = true) (bO : Binds K fdO ["_law_m", "_law_some"] []) (gO : mg "_law_of" = some (.ref fO)) :
    FnOk P w K mg base CX0 3 f fd ["_law_m"] spGreat := by
  refine F.ok scGreat (fun vs H Q E h => ?_) (fun cdv A outer s H vs Q E hr h => ?_)
  · obtain ⟨m, lg, rfl, _⟩ := h
    rfl
  · obtain ⟨m, lg, rfl, hM, k⟩ := h
    have hr1 : Room 1 _ := hr.mono (by decide)
    refine ⟨_, pss_cons (ps_set (i := 1) scGreat.nd rfl (Or.inl rfl) (pe_lst (pa_cons pe_int (pa_cons pe_int (pa_cons (pe_op op_add pe_int (pe_call GN hr1 (by rfl) gN kN bN .nil pass0 (pa_cons (pv 0) (pa_cons pe_int pa_nil))))
        (pa_cons (pe_op op_add pe_int (pe_call GN hr1 (by rfl) gN kN bN .nil pass0 (pa_cons (pv 0) (pa_cons (pe_op op_pow pe_int pe_int) pa_nil)))) (pa_cons (pe_op op_pow pe_int pe_int)
        (pa_cons (pe_op op_sub (pe_op op_pow pe_int pe_int) (pe_call GN hr1 (by rfl) gN kN bN .nil pass0 (pa_cons (pv 0) (pa_cons pe_int pa_nil)))) pa_nil))))))))
      (pss_one (ps_ret (pe_call GO hr (by rfl) gO kO bO .nil pass0 (pa_cons (pv 0) (pa_cons (pv 1) pa_nil))))), ?_⟩
    have eM : M30 = 10 ^ 30 := rfl
    refine ⟨_, rfl, m, lg, _, rfl, hM, by decide, by decide, fun n1 lg1 H1 a1 b1 v1 => ?_⟩
    refine ⟨_, _, rfl, rfl, ?_⟩
    refine ⟨_, rfl, _, _, rfl, rfl, ⟨by decide, by decide, by decide⟩, m, lg1, _, rfl, v1.1, by decide, by decide, fun n2 lg2 H2 a2 b2 v2 => ?_⟩
    refine ⟨_, _, rfl, rfl, _, _, rfl, rfl, ⟨by decide, by decide, by decide⟩, _, _, rfl, rfl, ⟨by decide, by decide, by decide⟩, ?_⟩
    refine ⟨_, rfl, m, lg2, _, rfl, v2.1, by decide, by decide, fun n3 lg3 H3 a3 b3 v3 => ?_⟩
    refine ⟨_, _, rfl, rfl, by show 6 ≤ sizeLine; rw [sizeLine_eq]; decide, fun l hl => ?_⟩
    have v123 := v1.trans (v2.trans v3)
    have nl : l ≠ lg3 := by
      obtain ⟨lc, cells, gr, tn, sm, e1, e2, e3, _⟩ := v3.1
      exact fun z => by rw [z, e3] at hl; cases hl
    have b2' : n2 < 1000000 := b2
    have v0 := v123.same (same_new (o := .lst [V.int 1, V.int 2, V.int (1 + n1), V.int (1 + n2), V.int M30, V.int (M30 - n3)]) hl)
    refine ⟨_, rfl, _, rfl, m, lg3, l, [V.int 1, V.int 2, V.int (1 + n1), V.int (1 + n2), V.int M30, V.int (M30 - n3)], rfl, v0.1, upd_same, nl, by show 1 ≤ 6; decide, by show 6 ≤ 1000; decide, fun v hv lg4 H4 v4 => ?_⟩
    have vv := v0.trans v4
    simp only [List.mem_cons, List.not_mem_nil, or_false] at hv
    rcases hv with rfl | rfl | rfl | rfl | rfl | rfl
    · exact k _ _ _ (by omega) (by omega) vv
    · exact k _ _ _ (by omega) (by omega) vv
    · exact k _ _ _ (by omega) (by omega) vv
    · exact k _ _ _ (by omega) (by omega) vv
    · exact k _ _ _ (by omega) (by omega) vv
    · exact k _ _ _ (by omega) (by omega) vv
end
end K94
set_option Elab.async false
set_option linter.all false
set_option maxRecDepth 100000
set_option maxHeartbeats 4000000
/-! The law's lines: the shop's own record, tariffs told. -/
namespace K94
open PySem PySem.Spec PyProof.Rows L2
theorem lc_strs {J : It} {G : Hp → Prop} {te : TE} {i : Nat} {vs : List Nat} {σ : L2.St} {H1 : Hp} {D : Addr} {ns : List Int} {f : Int → Str} {Qd : Hp → Prop} (wk : Walk J ns.length G (YAt (ns.map V.int))) (hG : ∀ H2, Same H1 H2 → G H2) (hl : ns.length ≤ 1000) (hD : H1 D = none)
    (hte : ∀ n H3 (Q : VK), n ∈ ns → Q (.str (f n)) H3 → te ((wipe σ vs).set i (some (.int n))) H3 Q) (hw : ∀ x, wipe ((wipe σ vs).set i (some x)) vs = wipe σ vs) (hd : ∀ H2, Same H1 H2 → H2 D = some (.lst (ns.map fun n => V.str (f n))) → Qd H2) :
    ∃ W : Nat → Nat → Hp → Prop, (∃ m, W 0 m (upd H1 D (.lst []))) ∧ ∀ j m H, W j m H →
      (J.stop j H ∧ Qd H) ∨ (J.go j H ∧ ∃ Nx : Hp → Prop, (∀ H', Nx H' → ∃ m', m' < m ∧ W (j + 1) m' H') ∧ ∀ x H', J.yld j H x H' → gName i x (wipe σ vs) H' fun σ2 H2 => wipe σ2 vs = wipe σ vs ∧ tYes σ2 H2 fun b H3 =>
        if b = true then te σ2 H3 fun y H4 => ∃ acc, H4 D = some (.lst acc) ∧ acc.length < sizeLine ∧ Nx (upd H4 D (.lst (acc ++ [y]))) else Nx H3) := by
  refine lc_it wk (fun j H2 => H2 D = some (.lst ((ns.take j).map fun n => V.str (f n))) ∧ Same H1 H2) ⟨upd_same, same_new hD⟩ (fun j H2 _ ⟨_, s2⟩ => hG H2 s2) ?_ ?_
  · rintro j x H2 H3 hi ⟨hl2, s2⟩ ⟨rfl, e⟩
    have e' : (ns.map V.int)[j]? = some x := e
    rw [List.getElem?_map] at e'
    cases hq : ns[j]? with
    | none => rw [hq] at e'; cases e'
    | some n =>
      rw [hq] at e'
      obtain rfl : V.int n = x := Option.some.inj e'
      refine ⟨hw _, ?_⟩
      unfold tYes
      dsimp only
      refine iteT ?_
      refine hte n H3 _ (List.mem_of_getElem? hq) ?_
      refine ⟨_, hl2, ?_, ?_, ?_⟩
      · have z : (ns.take j).length ≤ ns.length := List.length_take_le' _ _
        rw [List.length_map, sizeLine_eq]
        omega
      · rw [upd_same, take_snoc hq, List.map_append]
        rfl
      · intro b o e
        rw [upd_ne (ne_of_none e hD)]
        exact s2 _ _ e
  · rintro H2 ⟨hl2, s2⟩
    rw [List.take_length] at hl2
    exact hd H2 s2 hl2
/-- own: what the shop takes -/
def OwnAt (H : Hp) (own lg : Addr) (t : List Int) : Prop := ∃ l, H own = some (.dK [(.inr "prices", .ref l)]) ∧ H l = some (.lst (t.map V.int)) ∧ l ≠ lg ∧ (t = [] ∨ ValidT t)
def Mo (m lg own : Addr) (H : Hp) (lg' : Addr) (H' : Hp) (t' : List Int) : Prop := MAt H' m lg' ∧ OwnAt H' own lg' t' ∧ (lg' = lg ∨ H lg' = none) ∧ ∀ b u, H b = some u → b ≠ m → b ≠ lg → b ≠ own → H' b = some u
theorem own_ne {H : Hp} {m lg own l : Addr} (h : MAt H m lg) (e : H own = some (.dK [(.inr "prices", .ref l)])) : own ≠ m := by
  obtain ⟨lc, cells, gr, tn, sm, e1, _⟩ := h
  refine ne_of e e1 fun z => ?_
  injection z with z
  have := congrArg List.length z
  exact absurd this (by show ¬ ((1 : Nat) = 4); decide)
theorem OwnAt.mv {H H1 : Hp} {m lg lg1 own : Addr} {t : List Int} (h : OwnAt H own lg t) (hM : MAt H m lg) (v : Mv m lg H lg1 H1) : OwnAt H1 own lg1 t := by
  obtain ⟨l, e1, e2, n, ht⟩ := h
  have nm := own_ne hM e1
  obtain ⟨lc, cells, gr, tn, sm, g1, g2, g3, _⟩ := hM
  exact ⟨l, v.2.2 _ _ e1 nm (ne_of e1 g3 (by intro z; cases z)), v.2.2 _ _ e2 (ne_of e2 g1 (by intro z; cases z)) n, v.ne e2 n, ht⟩
theorem OwnAt.same {H H1 : Hp} {lg own : Addr} {t : List Int} (h : OwnAt H own lg t) (s : Same H H1) : OwnAt H1 own lg t := by
  obtain ⟨l, e1, e2, n, ht⟩ := h
  exact ⟨l, s _ _ e1, s _ _ e2, n, ht⟩
theorem Mv.mo {H H1 : Hp} {m lg lg1 own : Addr} {t : List Int} (v : Mv m lg H lg1 H1) (h : OwnAt H own lg t) (hM : MAt H m lg) : Mo m lg own H lg1 H1 t := ⟨v.1, h.mv hM v, v.2.1, fun b u e n1 n2 _ => v.2.2 b u e n1 n2⟩
theorem Mo.same {H H1 H2 : Hp} {m lg lg1 own : Addr} {t : List Int} (v : Mo m lg own H lg1 H1 t) (s : Same H1 H2) : Mo m lg own H lg1 H2 t := ⟨v.1.same s, v.2.1.same s, v.2.2.1, fun b u e n1 n2 n3 => s _ _ (v.2.2.2 b u e n1 n2 n3)⟩
/-- another tariff -/
theorem Mv.put {H H1 : Hp} {m lg lg1 own l : Addr} {t ps : List Int} (v : Mv m lg H lg1 H1) (h : OwnAt H own lg t) (hM : MAt H m lg) (e : H1 l = some (.lst (ps.map V.int))) (n : l ≠ lg1) (hv : ValidT ps) :
    Mo m lg own H lg1 (upd H1 own (.dK [(.inr "prices", .ref l)])) ps := by
  obtain ⟨l0, e1, e2, n0, ht⟩ := h.mv hM v
  have nm := own_ne v.1 e1
  obtain ⟨lc, cells, gr, tn, sm, g1, g2, g3, g4, g5⟩ := id v.1
  refine ⟨⟨lc, cells, gr, tn, sm, ?_, ?_, ?_, g4, g5⟩, ⟨l, upd_same, ?_, n, .inr hv⟩, v.2.1, fun b u eb n1 n2 n3 => ?_⟩
  · rw [upd_ne nm.symm]
    exact g1
  · rw [upd_ne (ne_of g2 e1 (by intro z; cases z))]
    exact g2
  · rw [upd_ne (ne_of g3 e1 (by intro z; cases z))]
    exact g3
  · rw [upd_ne (ne_of e e1 (by intro z; cases z))]
    exact e
  · rw [upd_ne n3]
    exact v.2.2 b u eb n1 n2
theorem MAt.putL {H : Hp} {m lg D : Addr} {xs : List Int} {y : Int} (h : MAt H m lg) (e : H D = some (.lst (xs.map V.int))) (n : D ≠ lg) : MAt (upd H D (.lst ((xs ++ [y]).map V.int))) m lg := by
  obtain ⟨lc, cells, gr, tn, sm, g1, g2, g3, g4, g5⟩ := h
  have nm : m ≠ D := ne_of g1 e (by intro z; cases z)
  by_cases c : lc = D
  · subst c
    refine ⟨lc, xs ++ [y], gr, tn, sm, ?_, upd_same, ?_, g4, ?_⟩
    · rw [upd_ne nm]
      exact g1
    · rw [upd_ne n.symm]
      exact g3
    · rw [List.length_append]
      show 1 ≤ xs.length + 1
      omega
  · refine ⟨lc, cells, gr, tn, sm, ?_, ?_, ?_, g4, g5⟩
    · rw [upd_ne nm]
      exact g1
    · rw [upd_ne c]
      exact g2
    · rw [upd_ne n.symm]
      exact g3
/-- lengths -/
theorem len_app (a b : Str) : (a ++ b).length = a.length + b.length := by
  rw [TL.len_tl, TL.tl_append, List.length_append, ← TL.len_tl, ← TL.len_tl]
theorem sum_len {f : Int → Str} : ∀ {ns : List Int}, (∀ n ∈ ns, (f n).length ≤ 32) → ((ns.map f).map (·.length)).sum ≤ 32 * ns.length
  | [], _ => by simp
  | n :: ns, h => by
    have h1 := h n (List.mem_cons_self ..)
    have h2 := sum_len (f := f) (ns := ns) fun z hz => h z (List.mem_cons_of_mem _ hz)
    rw [List.map_cons, List.map_cons, List.sum_cons, List.length_cons]
    omega
theorem map_str (f : Int → Str) (ns : List Int) : (ns.map fun n => V.str (f n)) = (ns.map f).map V.str := by
  rw [List.map_map]
  rfl
end K94
set_option Elab.async false
set_option linter.all false
set_option maxRecDepth 100000
set_option maxHeartbeats 4000000
/-! A line that tells a tariff. -/
namespace K94
open PySem PySem.Spec PyProof.Rows L2
section
variable {P : Program} {w : World} {K : PySem.W.Frag} {mg : Str → Option Value} {base : Heap}
theorem line_sp {w w' : Str} (hw : w' = w ++ sp) {ns : List Int} (h : ns ≠ []) : w' ++ Txt.join sp (ns.map numS) = lineOf w ns := by
  cases ns with
  | nil => exact absurd rfl h
  | cons n ns =>
    rw [hw]
    exact line_join w n ns
theorem fresh_ne {H : Hp} {m lg l : Addr} (h : MAt H m lg) (e : H l = none) : l ≠ lg := by
  obtain ⟨lc, cells, gr, tn, sm, e1, e2, e3, _⟩ := h
  exact fun z => by rw [z, e3] at e; cases e
theorem scTL : FnScope ["_law_m", "_law_own", "_law_many", "_law_prices", "_law_odd", "_law_k", "_law_number"] ["_law_m", "_law_own"] (defScope sTLine) := ⟨rfl, rfl, rfl, by decide +kernel, rfl, by decide +kernel, by decide +kernel⟩
def spTL : Sp := fun vs H Q _ => ∃ (m lg own : Addr) (t : List Int), vs = [.ref m, .ref own] ∧ MAt H m lg ∧ OwnAt H own lg t ∧ ∀ ns lg' H' T, (∀ n ∈ ns, OkN n) → ns.length ≤ 25 → Mo m lg own H lg' H' (ansF t .tariff ns).2 → H' T = some (.tup [.str (lineOf (Kd.word .tariff) ns), .str (ansF t .tariff ns).1]) → Q (.ref T) H'
theorem ok_tl {f fN fO : Addr} {fd fdN fdO : FuncData} (F : Fun K "_law_tariff_line" "_law_tariff_line" sTLine f fd) (G : Gm mg)
    (GN : FnOk P w K mg base CX0 1 fN fdN ["_law_m", "_law_total"] spNext) (kN : PySem.W.keepIn K (.ref fN) = true) (bN : Binds K fdN ["_law_m", "_law_total"] []) (gN : mg "_law_next" = some (.ref fN))
    (GO : FnOk P w K mg base CX0 2 fO fdO ["_law_m", "_law_some"] spOf) (kO : PySem.W.keepIn K (.ref fO) = true) (bO : Binds K fdO ["_law_m", "_law_some"] []) (gO : mg "_law_of" = some (.ref fO)) :
    FnOk P w K mg base CX0 3 f fd ["_law_m", "_law_own"] spTL := by
  refine F.ok scTL (fun vs H Q E h => ?_) (fun cdv A outer s H vs Q E hr h => ?_)
  · obtain ⟨m, lg, own, t, rfl, _⟩ := h
    rfl
  · obtain ⟨m, lg, own, t, rfl, hM, hO, k⟩ := h
    have hr1 : Room 1 _ := hr.mono (by decide)
    have hu := hu_of hr
    refine ⟨_, pss_cons (ps_set (i := 2) scTL.nd rfl (Or.inl rfl) (pe_op op_add pe_int (pe_call GN hr1 (by rfl) gN kN bN .nil pass0 (pa_cons (pv 0) (pa_cons (pe_call GO hr (by rfl) gO kO bO .nil pass0 (pa_cons (pv 0) (pa_cons (pe_lst (pa_cons pe_int (pa_cons pe_int pa_nil))) pa_nil))) pa_nil)))))
      (pss_cons (ps_setLc (i := 3) (own := [("_law_k", 5)]) (g := gName 5) (tt := tYes) rfl scTL.nd rfl rfl rfl (pi_range1 (by rfl) G.fRange (pa_cons (pv 2) pa_nil))
          (blkOk_by (N := ["_law_m", "_law_own", "_law_many", "_law_prices", "_law_odd", "_law_k", "_law_number"]) (sc := defScope sTLine) (by decide +kernel)) (fun _ _ _ _ _ => pg_name (i := 5) scTL.nd rfl (Or.inl rfl)) (fun _ _ _ _ _ => pts_nil)
          (fun _ _ _ _ _ => pe_call GO hr (by rfl) gO kO bO .nil pass0 (pa_cons (pv 0) (pa_cons (pe_lst (pa_cons pe_int (pa_cons pe_int (pa_cons pe_int (pa_cons (pe_op op_pow pe_int pe_int) (pa_cons (pe_call GN hr1 (by rfl) gN kN bN .nil pass0 (pa_cons (pv 0) (pa_cons pe_int pa_nil))) pa_nil)))))) pa_nil))))
      (pss_cons (ps_if (pt_cmpR op_eq (pe_call GN hr1 (by rfl) gN kN bN .nil pass0 (pa_cons (pv 0) (pa_cons pe_int pa_nil))) pe_int (nomark _))
        (pss_cons (ps_set (i := 4) scTL.nd rfl (Or.inl rfl) (pe_call GO hr (by rfl) gO kO bO .nil pass0 (pa_cons (pv 0) (pa_cons (pe_lst (pa_cons (pe_op op_cat (pv 3) (pe_lst (pa_cons (pe_op op_add (pe_op op_pow pe_int pe_int) pe_int) pa_nil)))
            (pa_cons (pe_op op_rep (pe_lst (pa_cons pe_int pa_nil)) pe_int) (pa_cons (pe_op op_cat (pv 3) (pe_lst (pa_cons (pe_un un_neg pe_int) pa_nil))) (pa_cons (pe_lst pa_nil) pa_nil))))) pa_nil))))
          (pss_one (ps_ret (pe_tup (pa_cons (pe_op op_add_str pe_str (pe_join pe_str (pe_lc (own := [("_law_number", 6)]) (g := gName 6) (tt := tYes) rfl scTL.nd (pi_list (pv 4))
            (blkOk_by (N := ["_law_m", "_law_own", "_law_many", "_law_prices", "_law_odd", "_law_k", "_law_number"]) (sc := defScope sTLine) (by decide +kernel)) (fun _ _ _ _ _ => pg_name (i := 6) scTL.nd rfl (Or.inl rfl)) (fun _ _ _ _ _ => pts_nil)
            (fun _ _ _ _ _ => pe_op op_add_str pe_str (pe_callTy call_str_int (by rfl) G.fStr (by decide +kernel) (pa_cons (pv 6) pa_nil)))))) (pa_cons pe_str pa_nil)))))) pss_nil)
      (pss_cons (ps_dput hu (pv 1) pe_str (pv 3) rfl)
      (pss_one (ps_ret (pe_tup (pa_cons (pe_op op_add_str pe_str (pe_join pe_str (pe_lc (own := [("_law_number", 6)]) (g := gName 6) (tt := tYes) rfl scTL.nd (pi_list (pv 3))
            (blkOk_by (N := ["_law_m", "_law_own", "_law_many", "_law_prices", "_law_odd", "_law_k", "_law_number"]) (sc := defScope sTLine) (by decide +kernel)) (fun _ _ _ _ _ => pg_name (i := 6) scTL.nd rfl (Or.inl rfl)) (fun _ _ _ _ _ => pts_nil)
            (fun _ _ _ _ _ => pe_callTy call_str_int (by rfl) G.fStr (by decide +kernel) (pa_cons (pv 6) pa_nil))))) (pa_cons pe_str pa_nil)))))))), ?_⟩
    have m6 : (10 : Int) ^ (6 : Int).toNat = 1000000 := by decide
    have l31 : (1000 : Nat) ≤ sizeLine := by rw [sizeLine_eq]; decide
    refine ⟨_, rfl, _, rfl, by show 2 ≤ sizeLine; omega, fun l hl => ?_⟩
    have v0 := (Mv.refl hM).same (same_new (o := .lst [V.int 4, V.int 24]) hl)
    refine ⟨m, lg, l, [V.int 4, V.int 24], rfl, v0.1, upd_same, fresh_ne hM hl, by show 1 ≤ 2; decide, by show 2 ≤ 1000; decide, fun v hv lg1 H1 v1 => ?_⟩
    obtain ⟨tt, rfl, t1, t2⟩ : ∃ tt : Int, v = .int tt ∧ 1 ≤ tt ∧ tt ≤ 24 := by
      simp only [List.mem_cons, List.not_mem_nil, or_false] at hv
      rcases hv with rfl | rfl
      · exact ⟨4, rfl, by decide, by decide⟩
      · exact ⟨24, rfl, by decide, by decide⟩
    have v01 := v0.trans v1
    clear v0 v1 hv
    refine ⟨m, lg1, tt, rfl, v01.1, by omega, by omega, fun n lg2 H2 n0 n1 v2 => ?_⟩
    have v02 := v01.trans v2
    clear v01 v2
    refine ⟨_, _, rfl, rfl, ?_⟩
    refine ⟨_, rfl, _, rfl, by omega, by omega, fun D hD => lc_range (lo := 0) (n := (1 + n).toNat) (fun i H3 => ∃ (lg3 : Addr) (ps : List Int), ps.length = i ∧ (∀ p ∈ ps, 0 ≤ p ∧ p ≤ 10 ^ 6) ∧ Mv m lg H lg3 H3 ∧ H3 D = some (.lst (ps.map V.int)) ∧ D ≠ lg3)
      ⟨lg2, [], rfl, fun p hp => by simp at hp, v02.same (same_new hD), upd_same, fresh_ne v02.1 hD⟩ ?_ ?_⟩
    · rintro i H3 hi ⟨lg3, ps, hpl, hps, v3, hDl, nD⟩
      refine ⟨rfl, ?_⟩
      refine ⟨_, rfl, _, _, rfl, rfl, ⟨by decide, by decide, by decide⟩, _, rfl, m, lg3, _, rfl, v3.1, by decide, by decide, fun q lg4 H4 q0 q1 v4 => ?_⟩
      refine ⟨by show 5 ≤ sizeLine; omega, fun l hl => ?_⟩
      have v5 := v4.same (same_new (o := .lst [V.int 0, V.int 1, V.int 5, V.int (10 ^ (6 : Int).toNat), V.int q]) hl)
      refine ⟨m, lg4, l, [V.int 0, V.int 1, V.int 5, V.int (10 ^ (6 : Int).toNat), V.int q], rfl, v5.1, upd_same, fresh_ne v4.1 hl, by show 1 ≤ 5; decide, by show 5 ≤ 1000; decide, fun v hv lg5 H5 v6 => ?_⟩
      obtain ⟨y, rfl, y1, y2⟩ : ∃ y : Int, v = .int y ∧ 0 ≤ y ∧ y ≤ 10 ^ 6 := by
        simp only [List.mem_cons, List.not_mem_nil, or_false] at hv
        rcases hv with rfl | rfl | rfl | rfl | rfl
        · exact ⟨0, rfl, by decide, by decide⟩
        · exact ⟨1, rfl, by decide, by decide⟩
        · exact ⟨5, rfl, by decide, by decide⟩
        · exact ⟨_, rfl, by decide, by decide⟩
        · exact ⟨q, rfl, by omega, by omega⟩
      have v35 := v5.trans v6
      have nDm : D ≠ m := by
        obtain ⟨lc, cells, gr, tn, sm, g1, _⟩ := v3.1
        exact ne_of hDl g1 (by intro z; cases z)
      have hD5 := v35.2.2 _ _ hDl nDm nD
      have nD5 := v35.ne hDl nD
      have ey : ps.map V.int ++ [V.int y] = (ps ++ [y]).map V.int := by
        rw [List.map_append]
        rfl
      refine ⟨_, hD5, by rw [List.length_map]; omega, ?_⟩
      rw [ey]
      refine ⟨lg5, ps ++ [y], ?_, fun p hp => ?_, ⟨v35.1.putL hD5 nD5, (v3.trans v35).2.1, fun b u e b1 b2 => ?_⟩, ?_, nD5⟩
      · rw [List.length_append, hpl]
        rfl
      · rcases List.mem_append.mp hp with z | z
        · exact hps p z
        · rw [List.mem_singleton.mp z]
          exact ⟨y1, y2⟩
      · rw [upd_ne (ne_of_none (v02.2.2 b u e b1 b2) hD)]
        exact (v3.trans v35).2.2 b u e b1 b2
      · exact upd_same
    · rintro H3 ⟨lg3, ps, hpl, hps, v3, hDl, nD⟩
      have hv : ValidT ps := ⟨by omega, by omega, hps⟩
      have nDm : D ≠ m := by
        obtain ⟨lc, cells, gr, tn, sm, g1, _⟩ := v3.1
        exact ne_of hDl g1 (by intro z; cases z)
      refine ⟨_, rfl, m, lg3, _, rfl, v3.1, by decide, by decide, fun q lg4 H4 q0 q1 v4 => ?_⟩
      have hD4 := v4.2.2 _ _ hDl nDm nD
      have nD4 := v4.ne hDl nD
      have v04 := v3.trans v4
      clear v3 v4 hDl nD
      refine ⟨rfl, _, rfl, ite2 (fun c => ?_) (fun c => ?_)⟩
      · have g1 : ∀ {H5 : Hp}, Same H4 H5 → H5 D = some (.lst (ps.map V.int)) := fun s => s _ _ hD4
        refine ⟨_, rfl, _, rfl, _, _, rfl, rfl, ⟨by decide, by decide, by decide⟩, _, _, rfl, rfl, by show 1 ≤ sizeLine; omega, fun a1 ha1 => ?_⟩
        rw [m6]
        have s1 : Same H4 (upd H4 a1 (.lst [V.int (1000000 + 1)])) := same_new ha1
        refine ⟨D, a1, _, _, rfl, rfl, g1 s1, upd_same, by rw [List.length_map]; show ps.length + 1 ≤ sizeLine; omega, fun p1 hp1 => ?_⟩
        have s2 := Same.trans s1 (same_new (o := .lst (ps.map V.int ++ [V.int (1000000 + 1)])) hp1)
        have f1 : upd (upd H4 a1 (.lst [V.int (1000000 + 1)])) p1 (.lst (ps.map V.int ++ [V.int (1000000 + 1)])) p1 = some (.lst ((ps ++ [1000001]).map V.int)) := by
          rw [upd_same, List.map_append]
          rfl
        have x1 : p1 ≠ lg4 := fresh_ne (v04.same s1).1 hp1
        generalize upd (upd H4 a1 (.lst [V.int (1000000 + 1)])) p1 (.lst (ps.map V.int ++ [V.int (1000000 + 1)])) = H5 at s2 f1 ⊢
        clear hp1 s1 ha1
        refine ⟨by show 1 ≤ sizeLine; omega, fun a2 ha2 => ?_⟩
        have s3 : Same H5 (upd H5 a2 (.lst [V.int 5])) := same_new ha2
        refine ⟨a2, 25, [V.int 5], rfl, rfl, upd_same, by decide, by decide, by show 1 * 25 ≤ sizeLine; omega, fun p2 hp2 => ?_⟩
        have s4 := Same.trans s3 (same_new (o := .lst (List.replicate (25 : Int).toNat [V.int 5]).flatten) hp2)
        have f2 : upd (upd H5 a2 (.lst [V.int 5])) p2 (.lst (List.replicate (25 : Int).toNat [V.int 5]).flatten) p2 = some (.lst ((List.replicate 25 5).map V.int)) := upd_same
        have x2 : p2 ≠ lg4 := fresh_ne (v04.same (Same.trans s2 s3)).1 hp2
        have s24 := Same.trans s2 s4
        have f1 := s4 _ _ f1
        generalize upd (upd H5 a2 (.lst [V.int 5])) p2 (.lst (List.replicate (25 : Int).toNat [V.int 5]).flatten) = H6 at s24 f1 f2 ⊢
        clear hp2 s3 s4 s2
        refine ⟨_, rfl, 1, rfl, by show 1 ≤ sizeLine; omega, fun a3 ha3 => ?_⟩
        have s3 : Same H6 (upd H6 a3 (.lst [V.int (-1)])) := same_new ha3
        refine ⟨D, a3, _, _, rfl, rfl, g1 (Same.trans s24 s3), upd_same, by rw [List.length_map]; show ps.length + 1 ≤ sizeLine; omega, fun p3 hp3 => ?_⟩
        have s4 := Same.trans s3 (same_new (o := .lst (ps.map V.int ++ [V.int (-1)])) hp3)
        have f3 : upd (upd H6 a3 (.lst [V.int (-1)])) p3 (.lst (ps.map V.int ++ [V.int (-1)])) p3 = some (.lst ((ps ++ [-1]).map V.int)) := by
          rw [upd_same, List.map_append]
          rfl
        have x3 : p3 ≠ lg4 := fresh_ne (v04.same (Same.trans s24 s3)).1 hp3
        have s26 := Same.trans s24 s4
        have f1 := s4 _ _ f1
        have f2 := s4 _ _ f2
        generalize upd (upd H6 a3 (.lst [V.int (-1)])) p3 (.lst (ps.map V.int ++ [V.int (-1)])) = H7 at s26 f1 f2 f3 ⊢
        clear hp3 s3 s4 s24
        refine ⟨Nat.zero_le _, fun p4 hp4 => ?_⟩
        have s4 : Same H7 (upd H7 p4 (.lst [])) := same_new hp4
        have f4 : upd H7 p4 (.lst []) p4 = some (.lst (([] : List Int).map V.int)) := upd_same
        have x4 : p4 ≠ lg4 := fresh_ne (v04.same s26).1 hp4
        have s28 := Same.trans s26 s4
        have f1 := s4 _ _ f1
        have f2 := s4 _ _ f2
        have f3 := s4 _ _ f3
        generalize upd H7 p4 (.lst []) = H8 at s28 f1 f2 f3 f4 ⊢
        clear hp4 s4 s26
        refine ⟨by show 4 ≤ sizeLine; omega, fun L hL => ?_⟩
        have v8 := v04.same s28
        have s9 : Same H8 (upd H8 L (.lst [V.ref p1, V.ref p2, V.ref p3, V.ref p4])) := same_new hL
        have v9 := v8.same s9
        refine ⟨m, lg4, L, [V.ref p1, V.ref p2, V.ref p3, V.ref p4], rfl, v9.1, upd_same, fresh_ne v8.1 hL, by show 1 ≤ 4; decide, by show 4 ≤ 1000; decide, fun v hv lg5 H9 v10 => ?_⟩
        obtain ⟨po, ns, rfl, hpo, npo, hok, hlen, hbad⟩ : ∃ (po : Addr) (ns : List Int), v = .ref po ∧ H8 po = some (.lst (ns.map V.int)) ∧ po ≠ lg4 ∧ (∀ n ∈ ns, OkN n) ∧ ns.length ≤ 25 ∧ ¬ ValidT ns := by
          simp only [List.mem_cons, List.not_mem_nil, or_false] at hv
          rcases hv with rfl | rfl | rfl | rfl
          · refine ⟨p1, _, rfl, f1, x1, fun n hn => ?_, by rw [List.length_append]; show ps.length + 1 ≤ 25; omega, fun z => ?_⟩
            · rcases List.mem_append.mp hn with z | z
              · have := hps n z
                exact ⟨by omega, by omega⟩
              · rw [List.mem_singleton.mp z]
                exact ⟨by decide, by decide⟩
            · have := (z.2.2 1000001 (List.mem_append_right _ (List.mem_singleton.mpr rfl))).2
              exact absurd this (by decide)
          · refine ⟨p2, _, rfl, f2, x2, fun n hn => ?_, by rw [List.length_replicate]; decide, fun z => ?_⟩
            · rw [List.eq_of_mem_replicate hn]
              exact ⟨by decide, by decide⟩
            · have := z.2.1
              rw [List.length_replicate] at this
              exact absurd this (by decide)
          · refine ⟨p3, _, rfl, f3, x3, fun n hn => ?_, by rw [List.length_append]; show ps.length + 1 ≤ 25; omega, fun z => ?_⟩
            · rcases List.mem_append.mp hn with z | z
              · have := hps n z
                exact ⟨by omega, by omega⟩
              · rw [List.mem_singleton.mp z]
                exact ⟨by decide, by decide⟩
            · have := (z.2.2 (-1) (List.mem_append_right _ (List.mem_singleton.mpr rfl))).1
              exact absurd this (by decide)
          · refine ⟨p4, [], rfl, f4, x4, fun n hn => by simp at hn, by decide, fun z => absurd z.1 (by decide)⟩
        have nom : po ≠ m := by
          obtain ⟨lc, cells, gr, tn, sm, g1, _⟩ := v8.1
          exact ne_of hpo g1 (by intro z; cases z)
        have hp9 := v10.2.2 _ _ (s9 _ _ hpo) nom npo
        have vend := v9.trans v10
        have ew : Str.ofString "tariff" ++ Txt.join (Str.ofString "") (ns.map fun n => sp ++ numS n) = lineOf (Kd.word .tariff) ns := line_glue (Kd.word .tariff) ns
        have hll : (lineOf (Kd.word .tariff) ns).length ≤ 1000 := line_len (word_len .tariff) hok hlen
        have hls : ∀ n ∈ ns, (sp ++ numS n).length ≤ 32 := fun n hn => by
          have := numS_len (hok n hn)
          rw [len_app]
          show 1 + _ ≤ 32
          omega
        refine ⟨⟨_, rfl⟩, _, rfl, po, rfl, ⟨_, .of hp9⟩, fun D2 hD2 => lc_strs (ns := ns) (f := fun n => sp ++ numS n) (walk_list (K := K) (a := po) (xs := ns.map V.int) |> fun w => by rw [List.length_map] at w; exact w) (fun H2 s2 => same_list s2 (.of hp9)) (by omega) hD2 ?_ (fun _ => rfl) ?_⟩
        · intro n H3 Q hn q
          refine ⟨_, rfl, n, rfl, numS_small (hok n hn), _, _, rfl, rfl, ?_, q⟩
          have := hls n hn
          rw [len_app] at this
          exact Nat.le_trans this (by omega)
        · intro H10 s10 e10
          have hs := sum_len hls
          refine ⟨_, D2, ns.map fun n => sp ++ numS n, rfl, rfl, .inl (.of (by rw [e10, map_str])), ?_, _, _, rfl, rfl, ?_, ?_⟩
          · rw [List.length_map]
            show _ + ns.length * 0 ≤ 16777216
            omega
          · rw [← len_app, ew]
            omega
          · refine ⟨by show 2 ≤ sizeLine; omega, fun T hT => k ns lg5 _ T hok hlen ?_ ?_⟩
            · rw [show ansF t .tariff ns = (("no" : Str), t) from if_neg hbad]
              exact ((vend.mo hO hM).same s10).same (same_new hT)
            · rw [show ansF t .tariff ns = (("no" : Str), t) from if_neg hbad, upd_same, ew]
      · obtain ⟨l0, e1, e2, nl0, ht⟩ := hO.mv hM v04
        refine ⟨_, rfl, _, rfl, own, upd H4 own (.dK [(.inr "prices", .ref D)]), rfl, .inl ⟨_, .inr "prices", e1, rfl, by show 1 < sizeLine; omega, rfl⟩, ?_⟩
        have wv := v04.put hO hM hD4 nD4 hv
        have eD5 : upd H4 own (.dK [(.inr "prices", .ref D)]) D = some (.lst (ps.map V.int)) := by
          rw [upd_ne (ne_of hD4 e1 (by intro z; cases z))]
          exact hD4
        generalize upd H4 own (.dK [(.inr "prices", .ref D)]) = H5 at wv eD5 ⊢
        have hok : ∀ n ∈ ps, OkN n := fun n hn => by
          have := hps n hn
          exact ⟨by omega, by omega⟩
        have ew : Str.ofString "tariff " ++ Txt.join (Str.ofString " ") (ps.map numS) = lineOf (Kd.word .tariff) ps := line_sp (w := Kd.word .tariff) (by decide +kernel) (by rintro rfl; exact absurd hv.1 (by decide))
        have hll : (lineOf (Kd.word .tariff) ps).length ≤ 1000 := line_len (word_len .tariff) hok (by omega)
        have hls : ∀ n ∈ ps, (numS n).length ≤ 32 := fun n hn => by
          have := numS_len (hok n hn)
          omega
        refine ⟨⟨_, rfl⟩, _, rfl, D, rfl, ⟨_, .of eD5⟩, fun D2 hD2 => lc_strs (ns := ps) (f := numS) (walk_list (K := K) (a := D) (xs := ps.map V.int) |> fun w => by rw [List.length_map] at w; exact w) (fun H2 s2 => same_list s2 (.of eD5)) (by omega) hD2 ?_ (fun _ => rfl) ?_⟩
        · intro n H3 Q hn q
          exact ⟨_, rfl, n, rfl, numS_small (hok n hn), q⟩
        · intro H10 s10 e10
          have hs := sum_len hls
          refine ⟨_, D2, ps.map numS, rfl, rfl, .inl (.of (by rw [e10, map_str])), ?_, _, _, rfl, rfl, ?_, ?_⟩
          · rw [List.length_map]
            show _ + ps.length * 1 ≤ 16777216
            omega
          · rw [← len_app, ew]
            omega
          · refine ⟨by show 2 ≤ sizeLine; omega, fun T hT => k ps lg4 _ T hok (by omega) ?_ ?_⟩
            · rw [show ansF t .tariff ps = (("done" : Str), ps) from if_pos hv]
              exact (wv.same s10).same (same_new hT)
            · rw [show ansF t .tariff ps = (("done" : Str), ps) from if_pos hv, upd_same, ew]
end
end K94
set_option Elab.async false
set_option linter.all false
set_option maxRecDepth 100000
set_option maxHeartbeats 4000000
/-! Any line of the law. -/
namespace K94
open PySem PySem.Spec PyProof.Rows L2
theorem line_two' {w w' : Str} (hw : w' = w ++ sp) (a b : Int) : w' ++ numS a ++ sp ++ numS b = lineOf w [a, b] := by
  rw [hw]
  exact line_two w a b
theorem line_zero {w w' z : Str} (hw : w' = w ++ sp) (hz : z = sp ++ numS 0) (a : Int) : w' ++ numS a ++ z = lineOf w [a, 0] := by
  rw [← line_two' hw]
  refine TL.ext_tl ?_
  rw [hz, TL.tl_append, TL.tl_append, TL.tl_append, TL.tl_append, TL.tl_append, TL.tl_append, List.append_assoc, List.append_assoc, List.append_assoc]
theorem line_three {w w' : Str} (hw : w' = w ++ sp) (a b c : Int) : w' ++ numS a ++ sp ++ numS b ++ sp ++ numS c = lineOf w [a, b, c] := by
  rw [hw]
  refine TL.ext_tl ?_
  rw [tl_line, TL.tl_append, TL.tl_append, TL.tl_append, TL.tl_append, TL.tl_append, TL.tl_append, tl_sp]
  show _ = TL.tl w ++ ([32] ++ (TL.tl (numS a) ++ ([32] ++ (TL.tl (numS b) ++ ([32] ++ TL.tl (numS c))))))
  simp only [List.append_assoc]
theorem Mv.mo2 {H H1 H2 : Hp} {m lg lg1 lg2 own : Addr} {t' : List Int} (h : Mv m lg H lg1 H1) (h' : Mo m lg1 own H1 lg2 H2 t') : Mo m lg own H lg2 H2 t' := by
  refine ⟨h'.1, h'.2.1, ?_, fun b u e n1 n2 n3 => h'.2.2.2 b u (h.2.2 b u e n1 n2) n1 (h.ne e n2) n3⟩
  rcases h'.2.2.1 with rfl | z
  · exact h.2.1
  · by_cases c : lg2 = lg
    · exact .inl c
    · right
      cases q : H lg2 with
      | none => rfl
      | some u =>
        have nm : lg2 ≠ m := by
          rintro rfl
          obtain ⟨lc, cells, gr, tn, sm, e1, e2, e3, _⟩ := h'.1
          rw [e1] at e3
          cases e3
        have := h.2.2 _ _ q nm c
        rw [z] at this
        cases this
theorem ans_costE {t : List Int} (ht : t = []) (b m : Int) : ansF t .cost [b, m] = (("no" : Str), t) := by rw [ans_cost, if_pos ht]
theorem ans_cost0 (t : List Int) (b : Int) : ansF t .cost [b, 0] = (("no" : Str), t) := by
  rw [ans_cost]
  by_cases ht : t = []
  · rw [if_pos ht]
  · rw [if_neg ht, if_neg fun z => absurd z.2.1 (by decide)]
theorem ans_costV {t : List Int} (ht : t ≠ []) {b m : Int} (h0 : 0 ≤ b) (h1 : b ≤ M30) (h2 : 1 ≤ m) (h3 : m ≤ M30) : ansF t .cost [b, m] = (numS (costF t b m), t) := by rw [ans_cost, if_neg ht, if_pos ⟨⟨h0, h1⟩, h2, h3⟩]
theorem ans_beginE {t : List Int} (ht : t = []) (m lo hi : Int) : ansF t .begin [m, lo, hi] = (("no" : Str), t) := by rw [ans_begin, if_pos ht]
theorem ans_beginN (t : List Int) {m lo hi : Int} (h : hi < lo) : ansF t .begin [m, lo, hi] = (("no" : Str), t) := by
  rw [ans_begin]
  by_cases ht : t = []
  · rw [if_pos ht]
  · rw [if_neg ht, if_neg fun z => absurd z.2.1 (by omega)]
theorem ans_beginV {t : List Int} (ht : t ≠ []) {m lo hi : Int} (h0 : 0 ≤ lo) (h1 : lo ≤ M30) (h2 : 1 ≤ m) (h3 : m ≤ M30) (h4 : lo ≤ hi) (h5 : hi ≤ M30) : ansF t .begin [m, lo, hi] = (numS (bestF t m lo hi), t) := by
  rw [ans_begin, if_neg ht, if_pos ⟨⟨⟨h2, h3⟩, h0, h1⟩, h4, h5⟩]
section
variable {P : Program} {w : World} {K : PySem.W.Frag} {mg : Str → Option Value} {base : Heap}
abbrev nAny : List Str := ["_law_m", "_law_own", "_law_way", "_law_begin", "_law_moments", "_law_line", "_law_odd", "_law_high", "_law_number"]
theorem scAny : FnScope nAny ["_law_m", "_law_own"] (defScope sAny) := ⟨rfl, rfl, rfl, by decide +kernel, rfl, by decide +kernel, by decide +kernel⟩
def spAny : Sp := fun vs H Q _ => ∃ (m lg own : Addr) (t : List Int), vs = [.ref m, .ref own] ∧ MAt H m lg ∧ OwnAt H own lg t ∧
  ∀ kd ns lg' H' T, (∀ n ∈ ns, OkN n) → ns.length ≤ 25 → Shape kd ns → Mo m lg own H lg' H' (ansF t kd ns).2 → H' T = some (.tup [.str (lineOf (Kd.word kd) ns), .str (ansF t kd ns).1]) → Q (.ref T) H'
theorem ok_any {f fN fO fT fG fP fF : Addr} {fd fdN fdO fdT fdG fdP fdF : FuncData} (F : Fun K "_law_any_line" "_law_any_line" sAny f fd) (G : Gm mg)
    (GN : FnOk P w K mg base CX0 1 fN fdN ["_law_m", "_law_total"] spNext) (kN : PySem.W.keepIn K (.ref fN) = true) (bN : Binds K fdN ["_law_m", "_law_total"] []) (gN : mg "_law_next" = some (.ref fN))
    (GO : FnOk P w K mg base CX0 2 fO fdO ["_law_m", "_law_some"] spOf) (kO : PySem.W.keepIn K (.ref fO) = true) (bO : Binds K fdO ["_law_m", "_law_some"] []) (gO : mg "_law_of" = some (.ref fO))
    (GT : FnOk P w K mg base CX0 3 fT fdT ["_law_m", "_law_own"] spTL) (kT : PySem.W.keepIn K (.ref fT) = true) (bT : Binds K fdT ["_law_m", "_law_own"] []) (gT : mg "_law_tariff_line" = some (.ref fT))
    (GG : FnOk P w K mg base CX0 3 fG fdG ["_law_m"] spGreat) (kG : PySem.W.keepIn K (.ref fG) = true) (bG : Binds K fdG ["_law_m"] []) (gG : mg "_law_great" = some (.ref fG))
    (GP : FnOk P w K mg base CX0 1 fP fdP ["_law_prices", "_law_begin", "_law_moments"] (spPaid K)) (kP : PySem.W.keepIn K (.ref fP) = true) (bP : Binds K fdP ["_law_prices", "_law_begin", "_law_moments"] []) (gP : mg "_law_paid" = some (.ref fP))
    (GF : FnOk P w K mg base CX0 2 fF fdF ["_law_prices", "_law_moments", "_law_low", "_law_high"] (spFirst K)) (kF : PySem.W.keepIn K (.ref fF) = true) (bF : Binds K fdF ["_law_prices", "_law_moments", "_law_low", "_law_high"] []) (gF : mg "_law_first" = some (.ref fF)) :
    FnOk P w K mg base CX0 4 f fd ["_law_m", "_law_own"] spAny := by
  refine F.ok scAny (fun vs H Q E h => ?_) (fun cdv A outer s H vs Q E hr h => ?_)
  · obtain ⟨m, lg, own, t, rfl, _⟩ := h
    rfl
  · obtain ⟨m, lg, own, t, rfl, hM, hO, k⟩ := h
    have hr1 : Room 1 _ := hr.mono (by decide)
    have hr2 : Room 2 _ := hr.mono (by decide)
    have hu := hu_of hr
    refine ⟨_, pss_cons (ps_set (i := 2) scAny.nd rfl (Or.inl rfl) (pe_call GN hr1 (by rfl) gN kN bN .nil pass0 (pa_cons (pv 0) (pa_cons pe_int pa_nil))))
      (pss_cons (ps_if (pt_cmpR op_lt (pv 2) pe_int (nomark _)) (pss_one (ps_ret (pe_call GT hr (by rfl) gT kT bT .nil pass0 (pa_cons (pv 0) (pa_cons (pv 1) pa_nil))))) pss_nil)
      (pss_cons (ps_par (i := 3) (j := 4) rfl scAny.nd rfl rfl (by decide) rfl rfl (pa_cons (pe_op op_sub (pe_call GG hr (by rfl) gG kG bG .nil pass0 (pa_cons (pv 0) pa_nil)) pe_int) (pa_cons (pe_call GG hr (by rfl) gG kG bG .nil pass0 (pa_cons (pv 0) pa_nil)) pa_nil)) rfl)
      (pss_cons (ps_if (pt_cmpR op_lt (pv 2) pe_int (nomark _))
        (pss_cons (ps_par (i := 5) (j := 6) rfl scAny.nd rfl rfl (by decide) rfl rfl
            (pa_cons (pe_op op_add_str (pe_op op_add_str (pe_op op_add_str pe_str (pe_callTy call_str_int (by rfl) G.fStr (by decide +kernel) (pa_cons (pv 3) pa_nil))) pe_str) (pe_callTy call_str_int (by rfl) G.fStr (by decide +kernel) (pa_cons (pv 4) pa_nil)))
              (pa_cons (pe_cmpR op_eq (pe_call GN hr1 (by rfl) gN kN bN .nil pass0 (pa_cons (pv 0) (pa_cons pe_int pa_nil))) pe_int (nomark _)) pa_nil)) rfl)
          (pss_cons (ps_if (PW.pt (pw_or (pt_cmpR (op_eqD hr.units) (pe_dget hu (pv 1) pe_str (fun _ _ => rfl)) (pe_lst pa_nil) (nomark _)) (pw_or1 (pt_val (pv 6)))))
              (pss_one (ps_ret (pe_tup (pa_cons (pe_ifExp (pt_val (pv 6)) (pe_op op_add_str (pe_op op_add_str pe_str (pe_callTy call_str_int (by rfl) G.fStr (by decide +kernel) (pa_cons (pv 3) pa_nil))) pe_str) (pv 5)) (pa_cons pe_str pa_nil))))) pss_nil)
            (pss_one (ps_ret (pe_tup (pa_cons (pv 5) (pa_cons (pe_callTy call_str_int (by rfl) G.fStr (by decide +kernel) (pa_cons (pe_call GP hr1 (by rfl) gP kP bP .nil pass0 (pa_cons (pe_dget hu (pv 1) pe_str (fun _ _ => rfl)) (pa_cons (pv 3) (pa_cons (pv 4) pa_nil)))) pa_nil)) pa_nil)))))))
        pss_nil)
      (pss_cons (ps_set (i := 7) scAny.nd rfl (Or.inl rfl) (pe_callB (call_min2 rfl) (by rfl) G.fMin (by decide +kernel) (pa_cons (pe_op op_pow pe_int pe_int) (pa_cons (pe_op op_add (pv 3)
          (pe_call GO hr2 (by rfl) gO kO bO .nil pass0 (pa_cons (pv 0) (pa_cons (pe_lst (pa_cons pe_int (pa_cons pe_int (pa_cons (pe_call GN hr1 (by rfl) gN kN bN .nil pass0 (pa_cons (pv 0) (pa_cons pe_int pa_nil))) (pa_cons (pe_op op_pow pe_int pe_int) pa_nil))))) pa_nil)))) pa_nil))))
      (pss_cons (ps_set (i := 5) scAny.nd rfl (Or.inl rfl) (pe_op op_add_str pe_str (pe_join pe_str (pe_lc (own := [("_law_number", 8)]) (g := gName 8) (tt := tYes) rfl scAny.nd (pi_tup (pe_tup (pa_cons (pv 4) (pa_cons (pv 3) (pa_cons (pv 7) pa_nil)))))
            (blkOk_by (N := nAny) (sc := defScope sAny) (by decide +kernel)) (fun _ _ _ _ _ => pg_name (i := 8) scAny.nd rfl (Or.inl rfl)) (fun _ _ _ _ _ => pts_nil)
            (fun _ _ _ _ _ => pe_callTy call_str_int (by rfl) G.fStr (by decide +kernel) (pa_cons (pv 8) pa_nil))))))
      (pss_cons (ps_if (pt_cmpR (op_eqD hr.units) (pe_dget hu (pv 1) pe_str (fun _ _ => rfl)) (pe_lst pa_nil) (nomark _)) (pss_one (ps_ret (pe_tup (pa_cons (pv 5) (pa_cons pe_str pa_nil))))) pss_nil)
      (pss_cons (ps_if (PW.pt (pw_and (pt_cmpR op_eq (pe_call GN hr1 (by rfl) gN kN bN .nil pass0 (pa_cons (pv 0) (pa_cons pe_int pa_nil))) pe_int (nomark _)) (pw_and1 (pt_cmpR op_gt (pv 3) pe_int (nomark _)))))
          (pss_one (ps_ret (pe_tup (pa_cons (pe_op op_add_str (pe_op op_add_str (pe_op op_add_str (pe_op op_add_str (pe_op op_add_str pe_str (pe_callTy call_str_int (by rfl) G.fStr (by decide +kernel) (pa_cons (pv 4) pa_nil))) pe_str)
            (pe_callTy call_str_int (by rfl) G.fStr (by decide +kernel) (pa_cons (pv 3) pa_nil))) pe_str) (pe_callTy call_str_int (by rfl) G.fStr (by decide +kernel) (pa_cons (pe_op op_sub (pv 3) pe_int) pa_nil))) (pa_cons pe_str pa_nil))))) pss_nil)
      (pss_one (ps_ret (pe_tup (pa_cons (pv 5) (pa_cons (pe_callTy call_str_int (by rfl) G.fStr (by decide +kernel) (pa_cons (pe_call GF hr2 (by rfl) gF kF bF .nil pass0 (pa_cons (pe_dget hu (pv 1) pe_str (fun _ _ => rfl)) (pa_cons (pv 4) (pa_cons (pv 3) (pa_cons (pv 7) pa_nil))))) pa_nil)) pa_nil)))))))))))), ?_⟩
    have l31 : (1000 : Nat) ≤ sizeLine := by rw [sizeLine_eq]; decide
    have eM : M30 = 10 ^ 30 := rfl
    refine ⟨_, rfl, m, lg, _, rfl, hM, by decide, by decide, fun way lg1 H1 w0 w1 v1 => ?_⟩
    refine ⟨_, rfl, _, _, rfl, rfl, _, rfl, ite2 (fun c => ?_) (fun c => ?_)⟩
    · exact ⟨_, rfl, _, rfl, m, lg1, own, t, rfl, v1.1, hO.mv hM v1, fun ns lg2 H2 T hok hl hmo hT => k .tariff ns lg2 H2 T hok hl trivial (v1.mo2 hmo) hT⟩
    · clear c
      refine ⟨_, rfl, m, lg1, rfl, v1.1, fun b1 lg2 H2 c1 c2 v2 => ?_⟩
      refine ⟨_, _, rfl, rfl, _, rfl, m, lg2, rfl, v2.1, fun mo lg3 H3 d1 d2 v3 => ?_⟩
      have v03 := v1.trans (v2.trans v3)
      clear v1 v2 v3
      obtain ⟨beg, hbeg⟩ : ∃ beg : Int, beg = b1 - 1 := ⟨_, rfl⟩
      have b0 : 0 ≤ beg := by omega
      have bM : beg < M30 := by omega
      have okb : OkN beg := ⟨by omega, by omega⟩
      have okm : OkN mo := ⟨by omega, by omega⟩
      have lb := numS_len okb
      have lm := numS_len okm
      refine ⟨_, _, rfl, ?_⟩
      dsimp only
      rw [← hbeg]
      clear hbeg c1 c2
      refine ⟨_, rfl, _, _, rfl, rfl, _, rfl, ite2 (fun c => ?_) (fun c => ?_)⟩
      · have l5 : (Str.ofString "cost " ++ numS beg).length + (Str.ofString " 0").length ≤ sizeLine := by
          rw [len_app]
          show 5 + (numS beg).length + 2 ≤ sizeLine
          omega
        have l6 : (Str.ofString "cost " ++ numS beg).length + (Str.ofString " ").length ≤ sizeLine := by
          rw [len_app]
          show 5 + (numS beg).length + 1 ≤ sizeLine
          omega
        have l7 : (Str.ofString "cost " ++ numS beg ++ Str.ofString " ").length + (numS mo).length ≤ sizeLine := by
          rw [len_app, len_app]
          show 5 + (numS beg).length + 1 + (numS mo).length ≤ sizeLine
          omega
        have eline : Str.ofString "cost " ++ numS beg ++ Str.ofString " " ++ numS mo = lineOf (Kd.word .cost) [beg, mo] := line_two' (w := Kd.word .cost) (w' := Str.ofString "cost ") (by decide +kernel) beg mo
        refine ⟨_, rfl, beg, rfl, numS_small okb, _, _, rfl, rfl, by show 5 + (numS beg).length ≤ sizeLine; omega, _, _, rfl, rfl, l6, _, rfl, mo, rfl, numS_small okm, _, _, rfl, rfl, l7, ?_⟩
        refine ⟨_, rfl, m, lg3, _, rfl, v03.1, by decide, by decide, fun q lg4 H4 q0 q1 v4 => ?_⟩
        have v04 := v03.trans v4
        clear v03 v4
        have o4 := hO.mv hM v04
        refine ⟨rfl, _, _, rfl, ?_⟩
        obtain ⟨pl, eo1, eo2, npl, hvt⟩ := id o4
        refine ⟨_, rfl, own, _, rfl, .inl ⟨_, .inr "prices", .inl eo1, rfl, rfl⟩, Nat.zero_le _, fun p hp => ?_⟩
        have sp1 : Same H4 (upd H4 p (.lst [])) := same_new hp
        refine ⟨.list (intsD t), .list (intsD []), .lst (.of (sp1 _ _ eo2)) dp_ints, .lst (.of upd_same) .nil, shaped_ints t, shaped_ints [], _, rfl, ?_⟩
        rw [eqv_nil]
        have vp := v04.same sp1
        have op := hO.mv hM vp
        generalize upd H4 p (.lst []) = HP at vp op ⊢
        by_cases ht : t = []
        · have e1 : t.isEmpty = true := by rw [ht]; rfl
          rw [e1]
          refine iteT (iteT ?_)
          refine ⟨_, rfl, _, rfl, ite2 (fun co => ?_) (fun co => ?_)⟩
          · refine ⟨_, rfl, beg, rfl, numS_small okb, _, _, rfl, rfl, by show 5 + (numS beg).length ≤ sizeLine; omega, _, _, rfl, rfl, l5, ?_⟩
            refine ⟨by show 2 ≤ sizeLine; omega, fun T hT => k .cost [beg, 0] lg4 _ T ?_ (Nat.le_of_ble_eq_true rfl) rfl ?_ ?_⟩
            · exact fun n hn => by
                simp only [List.mem_cons, List.not_mem_nil, or_false] at hn
                rcases hn with rfl | rfl
                · exact okb
                · exact ⟨by decide, by decide⟩
            · rw [ans_cost0 t beg]
              exact (vp.mo hO hM).same (same_new hT)
            · rw [ans_cost0 t beg, upd_same]
              exact congrArg (fun z => some (HO.tup [V.str z, V.str _])) (line_zero (w := Kd.word .cost) (w' := Str.ofString "cost ") (z := Str.ofString " 0") (by decide +kernel) (by decide +kernel) beg)
          · refine ⟨_, rfl, ?_⟩
            refine ⟨by show 2 ≤ sizeLine; omega, fun T hT => k .cost [beg, mo] lg4 _ T ?_ (Nat.le_of_ble_eq_true rfl) rfl ?_ ?_⟩
            · exact fun n hn => by
                simp only [List.mem_cons, List.not_mem_nil, or_false] at hn
                rcases hn with rfl | rfl
                · exact okb
                · exact okm
            · rw [ans_costE ht beg mo]
              exact (vp.mo hO hM).same (same_new hT)
            · rw [ans_costE ht beg mo, upd_same]
              exact congrArg (fun z => some (HO.tup [V.str z, V.str _])) eline
        · have e1 : t.isEmpty = false := by
            cases t with
            | nil => exact absurd rfl ht
            | cons z zs => rfl
          rw [e1]
          refine iteF ?_
          refine ⟨_, rfl, _, rfl, ite2 (fun co => ?_) (fun co => ?_)⟩
          · refine ⟨_, rfl, _, rfl, ite2 (fun co' => ?_) (fun co' => absurd co co')⟩
            refine ⟨_, rfl, beg, rfl, numS_small okb, _, _, rfl, rfl, by show 5 + (numS beg).length ≤ sizeLine; omega, _, _, rfl, rfl, l5, ?_⟩
            refine ⟨by show 2 ≤ sizeLine; omega, fun T hT => k .cost [beg, 0] lg4 _ T ?_ (Nat.le_of_ble_eq_true rfl) rfl ?_ ?_⟩
            · exact fun n hn => by
                simp only [List.mem_cons, List.not_mem_nil, or_false] at hn
                rcases hn with rfl | rfl
                · exact okb
                · exact ⟨by decide, by decide⟩
            · rw [ans_cost0 t beg]
              exact (vp.mo hO hM).same (same_new hT)
            · rw [ans_cost0 t beg, upd_same]
              exact congrArg (fun z => some (HO.tup [V.str z, V.str _])) (line_zero (w := Kd.word .cost) (w' := Str.ofString "cost ") (z := Str.ofString " 0") (by decide +kernel) (by decide +kernel) beg)
          · have hv : ValidT t := hvt.resolve_left ht
            obtain ⟨pl2, eq1, eq2, _, _⟩ := id op
            refine ⟨_, rfl, _, rfl, own, _, rfl, .inl ⟨_, .inr "prices", .inl eq1, rfl, rfl⟩, _, rfl, _, rfl, pl2, t, beg, mo, rfl, .of eq2, hv, b0, by omega, fun H5 s5 => ?_⟩
            refine ⟨_, rfl, cost_small hv b0 (by omega) (by omega) d2, ?_⟩
            have vq := vp.same s5
            refine ⟨by show 2 ≤ sizeLine; omega, fun T hT => k .cost [beg, mo] lg4 _ T ?_ (Nat.le_of_ble_eq_true rfl) rfl ?_ ?_⟩
            · exact fun n hn => by
                simp only [List.mem_cons, List.not_mem_nil, or_false] at hn
                rcases hn with rfl | rfl
                · exact okb
                · exact okm
            · rw [ans_costV ht b0 (by omega) d1 d2]
              exact (vq.mo hO hM).same (same_new hT)
            · rw [ans_costV ht b0 (by omega) d1 d2, upd_same]
              exact congrArg (fun z => some (HO.tup [V.str z, V.str _])) eline
      · clear c
        have m30 : (10 : Int) ^ (30 : Int).toNat = M30 := rfl
        have m9 : (10 : Int) ^ (9 : Int).toNat = 1000000000 := by decide
        refine ⟨_, _, rfl, rfl, ⟨by decide, by decide, by decide⟩, ?_⟩
        refine ⟨_, rfl, _, rfl, _, rfl, m, lg3, _, rfl, v03.1, by decide, by decide, fun q lg4 H4 q0 q1 v4 => ?_⟩
        have v04 := v03.trans v4
        clear v03 v4
        refine ⟨_, _, rfl, rfl, ⟨by decide, by decide, by decide⟩, by show 4 ≤ sizeLine; omega, fun l hl => ?_⟩
        have sl : Same H4 (upd H4 l (.lst [V.int 0, V.int 1, V.int q, V.int (10 ^ (9 : Int).toNat)])) := same_new hl
        have vl := v04.same sl
        refine ⟨m, lg4, l, [V.int 0, V.int 1, V.int q, V.int (10 ^ (9 : Int).toNat)], rfl, vl.1, upd_same, fresh_ne v04.1 hl, by show 1 ≤ 4; decide, by show 4 ≤ 1000; decide, fun v hv lg5 H5 v5 => ?_⟩
        obtain ⟨x, rfl, x0⟩ : ∃ x : Int, v = .int x ∧ 0 ≤ x := by
          simp only [List.mem_cons, List.not_mem_nil, or_false] at hv
          rcases hv with rfl | rfl | rfl | rfl
          · exact ⟨0, rfl, by decide⟩
          · exact ⟨1, rfl, by decide⟩
          · exact ⟨q, rfl, q0⟩
          · exact ⟨_, rfl, by decide⟩
        have v05 := vl.trans v5
        clear v04 v5 vl sl hv
        refine ⟨_, _, rfl, rfl, _, _, rfl, ?_⟩
        rw [m30]
        obtain ⟨hi, hhi⟩ : ∃ hi : Int, hi = if beg + x < M30 then beg + x else M30 := ⟨_, rfl⟩
        have h1 : beg ≤ hi := by
          rw [hhi]
          split <;> omega
        have h2 : hi ≤ M30 := by
          rw [hhi]
          split <;> omega
        dsimp only
        rw [← hhi]
        clear hhi x0
        have okh : OkN hi := ⟨by omega, by omega⟩
        have hok : ∀ n ∈ [mo, beg, hi], OkN n := fun n hn => by
          simp only [List.mem_cons, List.not_mem_nil, or_false] at hn
          rcases hn with rfl | rfl | rfl
          · exact okm
          · exact okb
          · exact okh
        have hls : ∀ n ∈ [mo, beg, hi], (numS n).length ≤ 32 := fun n hn => by
          have := numS_len (hok n hn)
          omega
        have eline : Str.ofString "begin " ++ Txt.join (Str.ofString " ") ([mo, beg, hi].map numS) = lineOf (Kd.word .begin) [mo, beg, hi] := line_sp (w := Kd.word .begin) (by decide +kernel) (by simp)
        have hll : (lineOf (Kd.word .begin) [mo, beg, hi]).length ≤ 1000 := line_len (word_len .begin) hok (Nat.le_of_ble_eq_true rfl)
        refine ⟨⟨_, rfl⟩, _, rfl, _, rfl, _, rfl, by show 3 ≤ sizeLine; omega, fun pt hpt => ?_⟩
        have s6 : Same H5 (upd H5 pt (.tup [V.int mo, V.int beg, V.int hi])) := same_new hpt
        have e6 : upd H5 pt (.tup [V.int mo, V.int beg, V.int hi]) pt = some (.tup ([mo, beg, hi].map V.int)) := upd_same
        have v06 := v05.same s6
        generalize upd H5 pt (.tup [V.int mo, V.int beg, V.int hi]) = H6 at v06 e6 ⊢
        clear hpt s6 v05
        refine ⟨pt, rfl, ⟨_, .of e6⟩, fun D hD => lc_strs (ns := [mo, beg, hi]) (f := numS) (walk_tup (K := K) (a := pt) (xs := [mo, beg, hi].map V.int)) (fun H2 s2 => same_tup s2 (.of e6)) (by show 3 ≤ 1000; decide) hD ?_ (fun _ => rfl) ?_⟩
        · intro n H3 Q hn q
          exact ⟨_, rfl, n, rfl, numS_small (hok n hn), q⟩
        · intro H7 s7 e7
          have hs := sum_len hls
          have v07 := v06.same s7
          have o7 := hO.mv hM v07
          refine ⟨_, D, [mo, beg, hi].map numS, rfl, rfl, .inl (.of (by rw [e7, map_str])), ?_, _, _, rfl, rfl, ?_, ?_⟩
          · rw [List.length_map]
            show _ + 3 * 1 ≤ 16777216
            have : [mo, beg, hi].length = 3 := rfl
            omega
          · rw [← len_app, eline]
            omega
          · clear v06 e6 s7 e7 hs
            obtain ⟨pl, eo1, eo2, npl, hvt⟩ := id o7
            refine ⟨_, rfl, own, _, rfl, .inl ⟨_, .inr "prices", .inl eo1, rfl, rfl⟩, Nat.zero_le _, fun p hp => ?_⟩
            have sp1 : Same H7 (upd H7 p (.lst [])) := same_new hp
            refine ⟨.list (intsD t), .list (intsD []), .lst (.of (sp1 _ _ eo2)) dp_ints, .lst (.of upd_same) .nil, shaped_ints t, shaped_ints [], _, rfl, ?_⟩
            rw [eqv_nil]
            have vp := v07.same sp1
            have op := hO.mv hM vp
            generalize upd H7 p (.lst []) = HP at vp op ⊢
            by_cases ht : t = []
            · have e1 : t.isEmpty = true := by rw [ht]; rfl
              rw [e1]
              refine iteT ?_
              refine ⟨_, rfl, ?_⟩
              refine ⟨by show 2 ≤ sizeLine; omega, fun T hT => k .begin [mo, beg, hi] lg5 _ T ?_ (Nat.le_of_ble_eq_true rfl) rfl ?_ ?_⟩
              · exact fun n hn => by
                  simp only [List.mem_cons, List.not_mem_nil, or_false] at hn
                  rcases hn with rfl | rfl | rfl
                  · exact okm
                  · exact okb
                  · exact okh
              · rw [ans_beginE ht mo beg hi]
                exact (vp.mo hO hM).same (same_new hT)
              · rw [ans_beginE ht mo beg hi, upd_same]
                exact congrArg (fun z => some (HO.tup [V.str z, V.str _])) eline
            · have e1 : t.isEmpty = false := by
                cases t with
                | nil => exact absurd rfl ht
                | cons z zs => rfl
              have hv : ValidT t := hvt.resolve_left ht
              rw [e1]
              refine iteF ?_
              refine ⟨_, rfl, m, lg5, _, rfl, vp.1, by decide, by decide, fun q2 lg6 H8 q20 q21 v8 => ?_⟩
              have v08 := vp.trans v8
              have o8 := hO.mv hM v08
              refine ⟨rfl, _, rfl, ite2 (fun c1 => ?_) (fun c1 => ?_)⟩
              · refine ⟨_, rfl, _, _, rfl, rfl, _, rfl, ite2 (fun c2 => ?_) (fun c2 => ?_)⟩
                · have bpos : 0 < beg := by simpa using c2
                  have okb1 : OkN (beg - 1) := ⟨by omega, by omega⟩
                  have lb1 := numS_len okb1
                  refine ⟨_, rfl, mo, rfl, numS_small okm, _, _, rfl, rfl, by show 6 + (numS mo).length ≤ sizeLine; omega, _, _, rfl, rfl, ?_, ?_⟩
                  · show (Str.ofString "begin " ++ numS mo).length + 1 ≤ sizeLine
                    rw [len_app]
                    show 6 + (numS mo).length + 1 ≤ sizeLine
                    omega
                  refine ⟨_, rfl, beg, rfl, numS_small okb, _, _, rfl, rfl, ?_, _, _, rfl, rfl, ?_, ?_⟩
                  · show (Str.ofString "begin " ++ numS mo ++ Str.ofString " ").length + (numS beg).length ≤ sizeLine
                    rw [len_app, len_app]
                    show 6 + (numS mo).length + 1 + (numS beg).length ≤ sizeLine
                    omega
                  · show (Str.ofString "begin " ++ numS mo ++ Str.ofString " " ++ numS beg).length + 1 ≤ sizeLine
                    rw [len_app, len_app, len_app]
                    show 6 + (numS mo).length + 1 + (numS beg).length + 1 ≤ sizeLine
                    omega
                  refine ⟨_, rfl, _, _, rfl, rfl, beg - 1, rfl, numS_small okb1, _, _, rfl, rfl, ?_, ?_⟩
                  · show (Str.ofString "begin " ++ numS mo ++ Str.ofString " " ++ numS beg ++ Str.ofString " ").length + (numS (beg - 1)).length ≤ sizeLine
                    rw [len_app, len_app, len_app, len_app]
                    show 6 + (numS mo).length + 1 + (numS beg).length + 1 + (numS (beg - 1)).length ≤ sizeLine
                    omega
                  refine ⟨by show 2 ≤ sizeLine; omega, fun T hT => k .begin [mo, beg, beg - 1] lg6 _ T ?_ (Nat.le_of_ble_eq_true rfl) rfl ?_ ?_⟩
                  · exact fun n hn => by
                      simp only [List.mem_cons, List.not_mem_nil, or_false] at hn
                      rcases hn with rfl | rfl | rfl
                      · exact okm
                      · exact okb
                      · exact ⟨by omega, by omega⟩
                  · rw [ans_beginN t (by omega)]
                    exact (v08.mo hO hM).same (same_new hT)
                  · rw [ans_beginN t (by omega), upd_same]
                    exact congrArg (fun z => some (HO.tup [V.str z, V.str _])) (line_three (w := Kd.word .begin) (w' := Str.ofString "begin ") (by decide +kernel) mo beg (beg - 1))
                · obtain ⟨pl2, eq1, eq2, _, _⟩ := id o8
                  refine ⟨_, rfl, _, rfl, own, _, rfl, .inl ⟨_, .inr "prices", .inl eq1, rfl, rfl⟩, _, rfl, _, rfl, _, rfl, pl2, t, mo, beg, hi, rfl, .of eq2, hv, by omega, b0, h1, fun H9 s9 => ?_⟩
                  refine ⟨_, rfl, best_small hv b0 (by omega) h1, ?_⟩
                  have vq := v08.same s9
                  refine ⟨by show 2 ≤ sizeLine; omega, fun T hT => k .begin [mo, beg, hi] lg6 _ T ?_ (Nat.le_of_ble_eq_true rfl) rfl ?_ ?_⟩
                  · exact fun n hn => by
                      simp only [List.mem_cons, List.not_mem_nil, or_false] at hn
                      rcases hn with rfl | rfl | rfl
                      · exact okm
                      · exact okb
                      · exact okh
                  · rw [ans_beginV ht b0 (by omega) d1 d2 h1 h2]
                    exact (vq.mo hO hM).same (same_new hT)
                  · rw [ans_beginV ht b0 (by omega) d1 d2 h1 h2, upd_same]
                    exact congrArg (fun z => some (HO.tup [V.str z, V.str _])) eline
              · refine iteF ?_
                obtain ⟨pl2, eq1, eq2, _, _⟩ := id o8
                refine ⟨_, rfl, _, rfl, own, _, rfl, .inl ⟨_, .inr "prices", .inl eq1, rfl, rfl⟩, _, rfl, _, rfl, _, rfl, pl2, t, mo, beg, hi, rfl, .of eq2, hv, by omega, b0, h1, fun H9 s9 => ?_⟩
                refine ⟨_, rfl, best_small hv b0 (by omega) h1, ?_⟩
                have vq := v08.same s9
                refine ⟨by show 2 ≤ sizeLine; omega, fun T hT => k .begin [mo, beg, hi] lg6 _ T ?_ (Nat.le_of_ble_eq_true rfl) rfl ?_ ?_⟩
                · exact fun n hn => by
                    simp only [List.mem_cons, List.not_mem_nil, or_false] at hn
                    rcases hn with rfl | rfl | rfl
                    · exact okm
                    · exact okb
                    · exact okh
                · rw [ans_beginV ht b0 (by omega) d1 d2 h1 h2]
                  exact (vq.mo hO hM).same (same_new hT)
                · rw [ans_beginV ht b0 (by omega) d1 d2 h1 h2, upd_same]
                  exact congrArg (fun z => some (HO.tup [V.str z, V.str _])) eline
end
end K94
set_option Elab.async false
set_option linter.all false
set_option maxRecDepth 100000
set_option maxHeartbeats 4000000
/-! What is answered is short. -/
namespace K94
open PySem PySem.Spec PyProof.Rows L2
def SmallA (z : Str) : Prop := z = "no" ∨ z = "done" ∨ ∃ n : Int, 0 ≤ n ∧ n < 10 ^ 42 ∧ z = numS n
theorem steps_nn {ps : List Int} (h : ∀ n ∈ ps, 0 ≤ n ∧ n ≤ 10 ^ 6) (b : Int) : ∀ k, 0 ≤ stepsF ps b k
  | 0 => Int.le_refl _
  | k + 1 => by
    have ih := steps_nn h b k
    have z : 0 ≤ ps.getD ((b + (k : Int)) % (ps.length : Int)).toNat 0 := by
      rw [List.getD_eq_getElem?_getD]
      cases q : ps[((b + (k : Int)) % (ps.length : Int)).toNat]? with
      | none => exact Int.le_refl _
      | some y => exact (h y (List.mem_of_getElem? q)).1
    show 0 ≤ stepsF ps b k + _
    omega
theorem cost_in {ps : List Int} (h : ValidT ps) {b m : Int} (hb : 0 ≤ b) (hb1 : b ≤ M30) (hm : 0 ≤ m) (hm1 : m ≤ M30) : 0 ≤ costF ps b m ∧ costF ps b m < 10 ^ 42 := by
  have a1 := ahead_bound h (m := b + m) (by omega)
  have a2 := ahead_bound h (m := b) hb
  have e : M30 = 10 ^ 30 := rfl
  have ne : ps ≠ [] := by
    rintro rfl
    exact absurd h.1 (by decide)
  refine ⟨?_, ?_⟩
  · rw [← paid_eq ne hb hm]
    have s1 := (sum_bound h.2.2).1
    have s2 := steps_nn h.2.2 b (m % (ps.length : Int)).toNat
    have s3 : 0 ≤ m / (ps.length : Int) * ps.sum := Int.mul_nonneg (Int.ediv_nonneg hm (by omega)) s1
    omega
  · unfold costF
    omega
theorem ans_small {t : List Int} (ht : t = [] ∨ ValidT t) (kd : Kd) (ns : List Int) : SmallA (ansF t kd ns).1 := by
  have e : M30 = 10 ^ 30 := rfl
  unfold ansF
  split
  · split
    · exact .inr (.inl rfl)
    · exact .inl rfl
  · split
    · exact .inl rfl
    · split
      · next h1 h2 =>
        have z := cost_in (ht.resolve_left h1) h2.1.1 h2.1.2 (by omega) h2.2.2
        exact .inr (.inr ⟨_, z.1, z.2, rfl⟩)
      · exact .inl rfl
  · split
    · exact .inl rfl
    · split
      · next m lo hi h1 h2 =>
        have z := best_in (m := m) (ht.resolve_left h1) h2.2.1
        exact .inr (.inr ⟨_, by omega, by omega, rfl⟩)
      · exact .inl rfl
  · exact .inl rfl
theorem num_codes (n : Int) : ∀ c ∈ (numS n).cps.toList, c < 16 ^ 8 := by
  intro c hc
  by_cases h : c < 16 ^ 8
  · exact h
  · exact absurd hc (PyProof.Rows.int_text_free' c ⟨by omega, by omega⟩ n)
theorem repr_small {z : Str} (h : SmallA z) : (reprText z).length ≤ sizeLine := by
  rw [sizeLine_eq]
  rcases h with rfl | rfl | ⟨n, h0, h1, rfl⟩
  · decide +kernel
  · decide +kernel
  · have a := PySem.StrLaws.reprText_len (numS n) (num_codes n)
    have b : (numS n).length ≤ 42 := by
      rw [TL.len_tl, tl_numS h0]
      exact TL.numL_len (by decide) (by omega)
    omega
end K94
set_option Elab.async false
set_option linter.all false
set_option maxRecDepth 100000
set_option maxHeartbeats 4000000
/-! The law. -/
namespace K94
open PySem PySem.Spec PyProof.Rows L2
/-! ### the last lines -/
def cmds : List (Kd × List Int) := [(.tariff, [5, 1, 3]), (.cost, [0, 3]), (.cost, [1, 2]), (.cost, [2, 4]), (.begin, [1, 0, 9]), (.begin, [2, 0, 9]), (.begin, [3, 4, 9]), (.begin, [1, 2, 3]), (.tariff, [7]), (.cost, [0, 9])]
def lineC (c : Kd × List Int) : Str := lineOf (Kd.word c.1) c.2
def okC (c : Kd × List Int) : Bool := c.2.all (fun n => decide (-1 ≤ n) && decide (n < 10 ^ 31)) && decide (c.2.length ≤ 25) && (match c.1 with | .tariff => true | .cost => c.2.length == 2 | .begin => c.2.length == 3)
theorem okC_all : cmds.all okC = true := by decide +kernel
theorem okC_of {c : Kd × List Int} (h : okC c = true) : (∀ n ∈ c.2, OkN n) ∧ c.2.length ≤ 25 ∧ Shape c.1 c.2 := by
  obtain ⟨kd, ns⟩ := c
  unfold okC at h
  rw [Bool.and_eq_true, Bool.and_eq_true] at h
  obtain ⟨⟨h1, h2⟩, h3⟩ := h
  refine ⟨fun n hn => ?_, of_decide_eq_true h2, ?_⟩
  · have z := List.all_eq_true.mp h1 n hn
    rw [Bool.and_eq_true] at z
    exact ⟨of_decide_eq_true z.1, of_decide_eq_true z.2⟩
  · cases kd with
    | tariff => trivial
    | cost => exact beq_iff_eq.mp h3
    | begin => exact beq_iff_eq.mp h3
def texts : List Str := ["tariff 5 1 3", "cost 0 3", "cost 1 2", "cost 2 4", "begin 1 0 9", "begin 2 0 9", "begin 3 4 9", "begin 1 2 3", "tariff 7", "cost 0 9"]
theorem texts_eq : texts = cmds.map lineC := by decide +kernel
def dues : List Str := ["done", "9", "4", "12", "1", "1", "4", "2", "done", "63"]
def stepC (acc : List Str × List Int) (c : Kd × List Int) : List Str × List Int := (acc.1 ++ [(ansF acc.2 c.1 c.2).1], (ansF acc.2 c.1 c.2).2)
def runC (n : Nat) : List Str × List Int := (cmds.take n).foldl stepC ([], [])
theorem run_succ {n : Nat} {c : Kd × List Int} (h : cmds[n]? = some c) : runC (n + 1) = stepC (runC n) c := by
  unfold runC
  rw [take_snoc h, List.foldl_append]
  rfl
theorem run_all : (runC cmds.length).1 = dues := by decide +kernel
theorem run_len : ∀ n, (runC n).1.length ≤ n
  | 0 => Nat.le_refl _
  | n + 1 => by
    cases h : cmds[n]? with
    | none =>
      have e : cmds.take (n + 1) = cmds.take n := by
        rw [List.take_add_one, h]
        exact List.append_nil _
      unfold runC
      rw [e]
      exact Nat.le_succ_of_le (run_len n)
    | some c =>
      rw [run_succ h]
      show ((runC n).1 ++ [_]).length ≤ n + 1
      rw [List.length_append]
      exact Nat.succ_le_succ (run_len n)
def strsD (zs : List Str) : List PyData := zs.map PyData.str
theorem dp_strs {K : PySem.W.Frag} {H : Hp} : ∀ {zs : List Str}, DpAll K H (zs.map V.str) (strsD zs)
  | [] => .nil
  | z :: zs => .cons (.str z) dp_strs
theorem shaped_dues : SeqAt.shaped (.list (strsD dues)) = true := by decide +kernel
theorem eqv_dues : PyData.eqv (.list (strsD dues)) (.list (strsD dues)) = true := by decide +kernel
theorem MAt.kept {H H' : Hp} {m lg p C dx : Addr} {fs : List (Str × V)} (h : MAt H m lg) (k : Kept p H H') (e : H p = some (.ins C dx fs)) : MAt H' m lg := by
  obtain ⟨lc, cells, gr, tn, sm, e1, e2, e3, e4⟩ := h
  exact ⟨lc, cells, gr, tn, sm, k _ _ e1 (ne_of e1 e (by intro z; cases z)), k _ _ e2 (ne_of e2 e (by intro z; cases z)), k _ _ e3 (ne_of e3 e (by intro z; cases z)), e4⟩
theorem OwnAt.kept {H H' : Hp} {own lg p C dx : Addr} {fs : List (Str × V)} {t : List Int} (h : OwnAt H own lg t) (k : Kept p H H') (e : H p = some (.ins C dx fs)) : OwnAt H' own lg t := by
  obtain ⟨l, e1, e2, n, ht⟩ := h
  exact ⟨l, k _ _ e1 (ne_of e1 e (by intro z; cases z)), k _ _ e2 (ne_of e2 e (by intro z; cases z)), n, ht⟩
/-- tuples stand apart -/
theorem Mo.tup {H H' : Hp} {m lg lg' own a : Addr} {t t' : List Int} {xs : List V} (h : Mo m lg own H lg' H' t') (hM : MAt H m lg) (hO : OwnAt H own lg t) (e : H a = some (.tup xs)) : H' a = some (.tup xs) := by
  obtain ⟨lc, cells, gr, tn, sm, e1, e2, e3, _⟩ := hM
  obtain ⟨l, o1, _⟩ := hO
  exact h.2.2.2 _ _ e (ne_of e e1 (by intro z; cases z)) (ne_of e e3 (by intro z; cases z)) (ne_of e o1 (by intro z; cases z))
theorem Mo.desk {H H' : Hp} {m lg lg' own C p : Addr} {t t' t2 : List Int} {ls : List Str} (h : Mo m lg own H lg' H' t') (hM : MAt H m lg) (hO : OwnAt H own lg t) (d : DeskAt C H p ls t2) : DeskAt C H' p ls t2 := by
  obtain ⟨dx, pl, tv, d1, d2, d3⟩ := d
  refine ⟨dx, pl, tv, ?_, h.tup hM hO d2, d3.elim .inl fun ⟨a, q1, q2, q3⟩ => .inr ⟨a, q1, q2, h.tup hM hO q3⟩⟩
  obtain ⟨lc, cells, gr, tn, sm, e1, e2, e3, _⟩ := hM
  obtain ⟨l, o1, _⟩ := hO
  exact h.2.2.2 _ _ d1 (ne_of d1 e1 (by intro z; cases z)) (ne_of d1 e3 (by intro z; cases z)) (ne_of d1 o1 (by intro z; cases z))
theorem Mv.tup {H H' : Hp} {m lg lg' a : Addr} {xs : List V} (h : Mv m lg H lg' H') (hM : MAt H m lg) (e : H a = some (.tup xs)) : H' a = some (.tup xs) := by
  obtain ⟨lc, cells, gr, tn, sm, e1, e2, e3, _⟩ := hM
  exact h.2.2 _ _ e (ne_of e e1 (by intro z; cases z)) (ne_of e e3 (by intro z; cases z))
theorem Mv.desk {H H' : Hp} {m lg lg' C p : Addr} {t : List Int} {ls : List Str} (h : Mv m lg H lg' H') (hM : MAt H m lg) (d : DeskAt C H p ls t) : DeskAt C H' p ls t := by
  obtain ⟨dx, pl, tv, d1, d2, d3⟩ := d
  refine ⟨dx, pl, tv, ?_, h.tup hM d2, d3.elim .inl fun ⟨a, q1, q2, q3⟩ => .inr ⟨a, q1, q2, h.tup hM q3⟩⟩
  obtain ⟨lc, cells, gr, tn, sm, e1, e2, e3, _⟩ := hM
  exact h.2.2 _ _ d1 (ne_of d1 e1 (by intro z; cases z)) (ne_of d1 e3 (by intro z; cases z))
theorem shown_small {ls : List Str} (h : ls = [] ∨ ls = [lnS]) : (PyData.tuple (ls.map PyData.str)).shown.length ≤ sizeLine := by
  rw [sizeLine_eq]
  rcases h with rfl | rfl
  · decide +kernel
  · decide +kernel
theorem made_same {H H3 : Hp} {p dx C : Addr} (hp : H p = none) (hdx : H dx = none) (k : Kept p (upd (upd H dx (.own p)) p (.ins C dx [])) H3) : Same H H3 := fun b u e => by
  have n1 := ne_of_none e hp
  refine k b u ?_ n1
  rw [upd_ne n1, upd_ne (ne_of_none e hdx)]
  exact e
theorem tar_ok {H : Hp} {tv : V} {t : List Int} (h : TarAt H tv t) : t = [] ∨ ValidT t := h.elim (fun z => .inl z.1) fun ⟨_, _, z, _⟩ => .inr z
section
variable {P : Program} {w : World} {K : PySem.W.Frag} {mg : Str → Option Value} {base : Heap}
abbrev nLaw : List Str := ["_law_script", "_law_m", "_law_turn", "_law_desk", "_law_own", "_law_kept", "_law_lap", "_law_line", "_law_due", "_law_lines", "_law_heard"]
theorem scLaw : FnScope nLaw ["_law_script"] (defScope sLaw) := ⟨rfl, rfl, rfl, by decide +kernel, rfl, by decide +kernel, by decide +kernel⟩
def spLaw (K : PySem.W.Frag) : Sp := fun vs H Q _ => ∃ (a : Addr) (ns : List Int), vs = [.ref a] ∧ SqL K H a (ns.map V.int) ∧ ns.length ≤ 1000 ∧ ∀ H', Q (.bl true) H'
theorem ok_law {f fS fN fA fI fY fG C pg : Addr} {fd fdS fdN fdA fdI fdY fdG : FuncData} (F : Fun K "law" "law" sLaw f fd) (T : Dk K C) (G : Gm mg)
    (GS : FnOk P w K mg base CX0 1 fS fdS ["_law_script"] (spStart K)) (kS : PySem.W.keepIn K (.ref fS) = true) (bS : Binds K fdS ["_law_script"] []) (gS : mg "_law_start" = some (.ref fS))
    (GN : FnOk P w K mg base CX0 1 fN fdN ["_law_m", "_law_total"] spNext) (kN : PySem.W.keepIn K (.ref fN) = true) (bN : Binds K fdN ["_law_m", "_law_total"] []) (gN : mg "_law_next" = some (.ref fN))
    (GA : FnOk P w K mg base CX0 4 fA fdA ["_law_m", "_law_own"] spAny) (kA : PySem.W.keepIn K (.ref fA) = true) (bA : Binds K fdA ["_law_m", "_law_own"] []) (gA : mg "_law_any_line" = some (.ref fA))
    (M : Mk K C fI) (gC : mg "Desk" = some (.ref C)) (GI : FnOk P w K mg base CX0 1 fI fdI ["self"] (spDI C)) (bI : Binds K fdI ["self"] [])
    (mY : Meth K C "say" fY) (GY : FnOk P w K mg base CX0 6 fY fdY ["self", "line"] (spSay C)) (bY : Binds K fdY ["self", "line"] [])
    (pP : PropOf K C "page" pg fG) (GP : FnOk P w K mg base CX0 1 fG fdG ["self"] (getSp C "own_lines")) (bP : Binds K fdG ["self"] []) :
    FnG P w K mg base CX0 7 f fd ["_law_script"] (spLaw K) := by
  refine fnG_of F scLaw (fun vs H Q E h => ?_) (fun cdv A outer s H vs Q E hr hgd h => ?_)
  · obtain ⟨a, ns, rfl, _⟩ := h
    rfl
  · obtain ⟨a, ns, rfl, hS, hl, k⟩ := h
    have hr1 : Room 1 _ := hr.mono (by decide)
    have hr2 : Room (1 + 1) _ := hr.mono (by decide)
    have hr4 : Room 4 _ := hr.mono (by decide)
    have hu65 : (A.deeper (envOfC "law" (defScope sLaw) s.heap.objs.size f cdv)).units + 65 < cLine := by
      have := hr.un
      omega
    refine ⟨_, PSs.nox (pss_cons (ps_set (i := 1) scLaw.nd rfl (Or.inl rfl) (pe_call GS hr1 (by rfl) gS kS bS .nil pass0 (pa_cons (pv 0) pa_nil)))
      (pss_cons (ps_for PassesOwn.never rfl (pi_range1 (by rfl) G.fRange (pa_cons (pe_op op_add pe_int (pe_callB (call_min2 rfl) (by rfl) G.fMin (by decide +kernel) (pa_cons (pe_callB call_len_seq (by rfl) G.fLen PySem.boot_len (pa_cons (pv 0) pa_nil)) (pa_cons pe_int pa_nil)))) pa_nil)) (pg_name (i := 2) scLaw.nd rfl (Or.inl rfl))
        (pss_cons (ps_asg (pe_tup (pa_cons (pe_make0 M GI hr2 (by rfl) gC bI .nil pass0) (pa_cons (pe_disp (pps_cons pe_str (pe_lst pa_nil) pps_nil) rfl rfl (by simp) (by decide)) pa_nil)))
            (pg_tup rfl (pgs_cons (pg_name (i := 3) scLaw.nd rfl (Or.inr rfl)) (pgs_cons (pg_name (i := 4) scLaw.nd rfl (Or.inl rfl)) pgs_nil))))
        (pss_cons (ps_set (i := 5) scLaw.nd rfl (Or.inl rfl) (pe_tup pa_nil))
        (pss_cons (ps_if (pt_cmpR op_eq (pe_call GN hr1 (by rfl) gN kN bN .nil pass0 (pa_cons (pv 1) (pa_cons pe_int pa_nil))) pe_int (nomark _))
          (pss_cons (ps_set (i := 5) scLaw.nd rfl (Or.inl rfl) (pe_tup (pa_cons pe_str pa_nil)))
            (pss_one (ps_if (pt_cmpR op_ne (pe_meth (pv 3) T.cl mY GY hr bY .nil pass0 (pa_cons pe_str pa_nil)) pe_str (nomark _)) (pss_one ps_dead) pss_nil))) pss_nil)
        (pss_one (ps_for PassesOwn.never rfl (pi_range1 (by rfl) G.fRange (pa_cons pe_int pa_nil)) (pg_name (i := 6) scLaw.nd rfl (Or.inl rfl))
          (pss_cons (ps_asg (pe_call GA hr4 (by rfl) gA kA bA .nil pass0 (pa_cons (pv 1) (pa_cons (pv 4) pa_nil))) (pg_tup rfl (pgs_cons (pg_name (i := 7) scLaw.nd rfl (Or.inl rfl)) (pgs_cons (pg_name (i := 8) scLaw.nd rfl (Or.inl rfl)) pgs_nil))))
          (pss_one (ps_if (PW.pt (pw_or (pt_cmpR op_ne (pe_callB cr_repr (by rfl) G.fRepr (by decide +kernel) (pa_cons (pe_meth (pv 3) T.cl mY GY hr bY .nil pass0 (pa_cons (pv 7) pa_nil)) pa_nil)) (pe_callB cr_repr (by rfl) G.fRepr (by decide +kernel) (pa_cons (pv 8) pa_nil)) (nomark _))
            (pw_or1 (pt_cmpR op_ne (pe_callB (cr_reprT hgd hu65) (by rfl) G.fRepr (by decide +kernel) (pa_cons (pe_prop (pv 3) T.cl pP GP hr2 bP .nil pass0 rfl) pa_nil)) (pe_callB (cr_reprT hgd hu65) (by rfl) G.fRepr (by decide +kernel) (pa_cons (pv 5) pa_nil)) (nomark _)))))
            (pss_one ps_dead) pss_nil)))))))))
      (pss_cons (ps_set (i := 3) scLaw.nd rfl (Or.inr rfl) (pe_make0 M GI hr2 (by rfl) gC bI .nil pass0))
      (pss_cons (ps_set (i := 9) scLaw.nd rfl (Or.inl rfl) (pe_lst (pa_cons pe_str (pa_cons pe_str (pa_cons pe_str (pa_cons pe_str (pa_cons pe_str (pa_cons pe_str (pa_cons pe_str pa_nil)))))))))
      (pss_cons (ps_setLc (i := 10) (own := [("_law_line", 7)]) (g := gName 7) (tt := tYes) rfl scLaw.nd rfl rfl rfl (pi_list (pe_op op_cat (pv 9) (pe_lst (pa_cons pe_str (pa_cons pe_str (pa_cons pe_str pa_nil))))))
          (blkOk_by (N := nLaw) (sc := defScope sLaw) (by decide +kernel)) (fun _ _ _ _ _ => pg_name (i := 7) scLaw.nd rfl (Or.inl rfl)) (fun _ _ _ _ _ => pts_nil)
          (fun _ _ _ _ _ => pe_meth (pv 3) T.cl mY GY hr bY .nil pass0 (pa_cons (pv 7) pa_nil)))
      (pss_one (ps_ret (pe_cmpR (op_eqD hr.units) (pv 10) (pe_lst (pa_cons pe_str (pa_cons pe_str (pa_cons pe_str (pa_cons pe_str (pa_cons pe_str (pa_cons pe_str (pa_cons pe_str (pa_cons pe_str (pa_cons pe_str (pa_cons pe_str pa_nil))))))))))) rfl)))))))), ?_⟩
    have l31 : (2000 : Nat) ≤ sizeLine := by rw [sizeLine_eq]; decide
    refine ⟨_, rfl, a, ns, rfl, hS, hl, fun m lg H1 hm0 hM s1 => ?_⟩
    refine ⟨_, rfl, a, _, rfl, .inl (same_list s1 hS), _, _, rfl, ?_⟩
    have hml : (ns.map V.int).length = ns.length := List.length_map ..
    rw [hml]
    obtain ⟨mn, hmn⟩ : ∃ mn : Int, mn = if (5 : Int) < (ns.length : Int) then 5 else (ns.length : Int) := ⟨_, rfl⟩
    have mn0 : 0 ≤ mn := by
      rw [hmn]
      split <;> omega
    have mn5 : mn ≤ 5 := by
      rw [hmn]
      split <;> omega
    rw [← hmn]
    clear hmn
    refine ⟨_, _, rfl, rfl, _, rfl, by omega, by omega, ?_⟩
    refine for_range (lo := 0) (n := (2 + mn).toNat) (fun i σ H2 => ∃ v2 v3 v4 v5 v6 v7 v8 v9 v10 lg2, σ = [some (.ref a), some (.ref m), v2, v3, v4, v5, v6, v7, v8, v9, v10] ∧ MAt H2 m lg2)
      ⟨_, _, _, _, _, _, _, _, _, lg, rfl, hM⟩ ?_ ?_
    · rintro i σ H2 hi ⟨v2, v3, v4, v5, v6, v7, v8, v9, v10, lg2, rfl, hM2⟩
      intro p dx hp hdx ndx
      refine ⟨p, dx, rfl, upd_same, fun H3 k3 d3 => ⟨rfl, ?_⟩⟩
      have s3 := made_same hp hdx k3
      have hM3 := hM2.same s3
      clear k3 hp hdx ndx hM2 s3
      intro own hown
      refine ⟨Nat.zero_le _, fun pl hpl => ?_⟩
      have npo : own ≠ pl := fun z => by
        rw [← z, upd_same] at hpl
        cases hpl
      have s4 : Same H3 (upd (upd (upd H3 own (.dK [])) pl (.lst [])) own (.dK [(.inr "prices", .ref pl)])) := fun b u e => by
        have n1 := ne_of_none e hown
        have n2 : b ≠ pl := by
          refine ne_of_none (H := upd H3 own (.dK [])) (o := u) ?_ hpl
          rw [upd_ne n1]
          exact e
        rw [upd_ne n1, upd_ne n2, upd_ne n1]
        exact e
      have hpl3 : H3 pl = none := by
        rw [upd_ne npo.symm] at hpl
        exact hpl
      refine ⟨by rw [upd_ne npo]; exact upd_same, [(.inr "prices", .ref pl)], rfl, by show 1 ≤ 15; decide, ?_⟩
      have em : mergeK [] [((.inr "prices" : Key), V.ref pl)] = [(.inr "prices", .ref pl)] := rfl
      rw [em]
      have O4 : OwnAt (upd (upd (upd H3 own (.dK [])) pl (.lst [])) own (.dK [(.inr "prices", .ref pl)])) own lg2 [] :=
        ⟨pl, upd_same, by rw [upd_ne npo.symm]; exact upd_same, fresh_ne hM3 hpl3, .inl rfl⟩
      have M4 := hM3.same s4
      have D4 := d3.same s4
      generalize upd (upd (upd H3 own (.dK [])) pl (.lst [])) own (.dK [(.inr "prices", .ref pl)]) = H4 at O4 M4 D4 ⊢
      clear s4 hpl hpl3 npo hM3 d3 hown em
      refine ⟨by show 2 ≤ sizeLine; omega, fun T hT => ?_⟩
      have s5 : Same H4 (upd H4 T (.tup [V.ref p, V.ref own])) := same_new hT
      refine ⟨T, _, rfl, .of upd_same, rfl, _, _, rfl, _, _, rfl, rfl, ?_⟩
      have O5 := O4.same s5
      have M5 := M4.same s5
      have D5 := D4.same s5
      generalize upd H4 T (.tup [V.ref p, V.ref own]) = H5 at O5 M5 D5 ⊢
      clear s5 O4 M4 D4 hT
      refine ⟨Nat.zero_le _, fun kt hkt => ?_⟩
      have s6 : Same H5 (upd H5 kt (.tup [])) := same_new hkt
      have O6 := O5.same s6
      have M6 := M5.same s6
      have D6 := D5.same s6
      have T6 : upd H5 kt (.tup []) kt = some (.tup (([] : List Str).map V.str)) := upd_same
      generalize upd H5 kt (.tup []) = H6 at O6 M6 D6 T6 ⊢
      clear s6 O5 M5 D5 hkt
      refine ⟨_, rfl, m, lg2, _, rfl, M6, by decide, by decide, fun q lg3 H7 q0 q1 v7' => ?_⟩
      have O7 := O6.mv M6 v7'
      have D7 := v7'.desk M6 D6
      have T7 := v7'.tup M6 T6
      have M7 := v7'.1
      clear v7' O6 D6 T6 M6
      refine ⟨rfl, _, rfl, ite2 (fun c => ?_) (fun c => ?_)⟩
      · refine ⟨by show 1 ≤ sizeLine; omega, fun kt2 hkt2 => ?_⟩
        have s8 : Same H7 (upd H7 kt2 (.tup [V.str lnS])) := same_new hkt2
        have O8 := O7.same s8
        have M8 := M7.same s8
        have D8 := D7.same s8
        have T8 : upd H7 kt2 (.tup [V.str lnS]) kt2 = some (.tup (([lnS] : List Str).map V.str)) := upd_same
        have eT : upd H7 kt2 (.tup [V.str (Str.ofString ".#")]) = upd H7 kt2 (.tup [V.str lnS]) := rfl
        rw [eT]
        generalize upd H7 kt2 (.tup [V.str lnS]) = H8 at O8 M8 D8 T8 ⊢
        clear s8 eT O7 M7 D7 T7 hkt2
        obtain ⟨dx8, pl8, tv8, p8, pt8, ptv8⟩ := id D8
        refine ⟨_, rfl, p, dx8, _, rfl, p8, rfl, p, [], [], D8, .inl ⟨rfl, rfl, fun H9 k9 d9 => ?_⟩⟩
        have T9 : H9 kt2 = some (.tup (([lnS] : List Str).map V.str)) := k9 _ _ T8 (ne_of T8 p8 (by intro z; cases z))
        refine ⟨rfl, _, rfl, ?_⟩
        rw [show (!decide (V.str "done" = V.str (Str.ofString "done"))) = false from by decide +kernel]
        refine iteF ?_
        refine ⟨_, rfl, by decide, by decide, for_range (lo := 0) (n := (15 : Int).toNat) (fun j σ Hj => ∃ v6 v7 v8 lgj t, σ = [some (.ref a), some (.ref m), some (.int (0 + (i : Int))), some (.ref p), some (.ref own), some (.ref kt2), v6, v7, v8, v9, v10] ∧ MAt Hj m lgj ∧ OwnAt Hj own lgj t ∧ DeskAt C Hj p [lnS] t ∧ Hj kt2 = some (.tup (([lnS] : List Str).map V.str)))
          ⟨v6, v7, v8, lg3, [], rfl, (M8.kept k9 p8), (O8.kept k9 p8), d9, T9⟩ ?_ ?_⟩
        · rintro j σ Hj hj ⟨w6, w7, w8, lgj, t, rfl, Mj, Oj, Dj, Tj⟩
          refine ⟨_, rfl, _, rfl, m, lgj, own, t, rfl, Mj, Oj, fun kd ns lg5 H5 T5 hok hlen hsh hmo hT5 => ?_⟩
          have D5 := hmo.desk Mj Oj Dj
          have T5' := hmo.tup Mj Oj Tj
          obtain ⟨dx5, pl5, tv5, p5, pt5, ptv5⟩ := id D5
          refine ⟨T5, _, rfl, .of hT5, rfl, _, _, rfl, _, _, rfl, rfl, ?_⟩
          refine ⟨_, rfl, p, dx5, _, rfl, p5, rfl, _, rfl, p, [lnS], t, D5, .inr ⟨kd, ns, rfl, hok, hlen, hsh, fun H6 k6 d6 => ?_⟩⟩
          have rs := repr_small (ans_small (tar_ok ptv5) kd ns)
          refine ⟨_, rfl, rs, _, rfl, _, rfl, rs, rfl, _, rfl, ?_⟩
          rw [show (!decide (V.str (reprText (ansF t kd ns).1) = V.str (reprText (ansF t kd ns).1))) = false from by rw [decide_eq_true rfl]; rfl]
          refine iteF ?_
          obtain ⟨dx6, pl6, tv6, p6, pt6, ptv6⟩ := id d6
          have T6 : H6 kt2 = some (.tup (([lnS] : List Str).map V.str)) := k6 _ _ T5' (ne_of T5' p5 (by intro z; cases z))
          refine ⟨_, rfl, p, dx6, _, rfl, p6, p, dx6, _, _, rfl, p6, rfl, pl6, [lnS], rfl, .of pt6, shown_small (.inr rfl), _, rfl, kt2, [lnS], rfl, .of T6, shown_small (.inr rfl), rfl, _, rfl, ?_⟩
          rw [show (!decide (V.str (PyData.tuple (([lnS] : List Str).map PyData.str)).shown = V.str (PyData.tuple (([lnS] : List Str).map PyData.str)).shown)) = false from by rw [decide_eq_true rfl]; rfl]
          refine iteF ?_
          exact ⟨_, _, _, lg5, (ansF t kd ns).2, rfl, hmo.1.kept k6 p5, hmo.2.1.kept k6 p5, d6, T6⟩
        · rintro σ Hj ⟨w6, w7, w8, lgj, t, rfl, Mj, Oj, Dj, Tj⟩
          exact ⟨_, _, _, _, _, _, _, _, _, lgj, rfl, Mj⟩
      · dsimp only [tNext]
        refine ⟨_, rfl, by decide, by decide, for_range (lo := 0) (n := (15 : Int).toNat) (fun j σ Hj => ∃ v6 v7 v8 lgj t, σ = [some (.ref a), some (.ref m), some (.int (0 + (i : Int))), some (.ref p), some (.ref own), some (.ref kt), v6, v7, v8, v9, v10] ∧ MAt Hj m lgj ∧ OwnAt Hj own lgj t ∧ DeskAt C Hj p [] t ∧ Hj kt = some (.tup (([] : List Str).map V.str)))
          ⟨v6, v7, v8, lg3, [], rfl, M7, O7, D7, T7⟩ ?_ ?_⟩
        · rintro j σ Hj hj ⟨w6, w7, w8, lgj, t, rfl, Mj, Oj, Dj, Tj⟩
          refine ⟨_, rfl, _, rfl, m, lgj, own, t, rfl, Mj, Oj, fun kd ns lg5 H5 T5 hok hlen hsh hmo hT5 => ?_⟩
          have D5 := hmo.desk Mj Oj Dj
          have T5' := hmo.tup Mj Oj Tj
          obtain ⟨dx5, pl5, tv5, p5, pt5, ptv5⟩ := id D5
          refine ⟨T5, _, rfl, .of hT5, rfl, _, _, rfl, _, _, rfl, rfl, ?_⟩
          refine ⟨_, rfl, p, dx5, _, rfl, p5, rfl, _, rfl, p, [], t, D5, .inr ⟨kd, ns, rfl, hok, hlen, hsh, fun H6 k6 d6 => ?_⟩⟩
          have rs := repr_small (ans_small (tar_ok ptv5) kd ns)
          refine ⟨_, rfl, rs, _, rfl, _, rfl, rs, rfl, _, rfl, ?_⟩
          rw [show (!decide (V.str (reprText (ansF t kd ns).1) = V.str (reprText (ansF t kd ns).1))) = false from by rw [decide_eq_true rfl]; rfl]
          refine iteF ?_
          obtain ⟨dx6, pl6, tv6, p6, pt6, ptv6⟩ := id d6
          have T6 : H6 kt = some (.tup (([] : List Str).map V.str)) := k6 _ _ T5' (ne_of T5' p5 (by intro z; cases z))
          refine ⟨_, rfl, p, dx6, _, rfl, p6, p, dx6, _, _, rfl, p6, rfl, pl6, [], rfl, .of pt6, shown_small (.inl rfl), _, rfl, kt, [], rfl, .of T6, shown_small (.inl rfl), rfl, _, rfl, ?_⟩
          rw [show (!decide (V.str (PyData.tuple (([] : List Str).map PyData.str)).shown = V.str (PyData.tuple (([] : List Str).map PyData.str)).shown)) = false from by rw [decide_eq_true rfl]; rfl]
          refine iteF ?_
          exact ⟨_, _, _, lg5, (ansF t kd ns).2, rfl, hmo.1.kept k6 p5, hmo.2.1.kept k6 p5, d6, T6⟩
        · rintro σ Hj ⟨w6, w7, w8, lgj, t, rfl, Mj, Oj, Dj, Tj⟩
          exact ⟨_, _, _, _, _, _, _, _, _, lgj, rfl, Mj⟩
    · rintro σ H2 ⟨v2, v3, v4, v5, v6, v7, v8, v9, v10, lg2, rfl, hM2⟩
      intro p dx hp hdx ndx
      refine ⟨p, dx, rfl, upd_same, fun H3 k3 d3 => ⟨rfl, ?_⟩⟩
      refine ⟨by show 7 ≤ sizeLine; omega, fun l9 h9 => ?_⟩
      have s4 : Same H3 (upd H3 l9 (.lst ((texts.take 7).map V.str))) := same_new h9
      have e4 : upd H3 l9 (.lst ((texts.take 7).map V.str)) l9 = some (.lst ((texts.take 7).map V.str)) := upd_same
      have D4 := d3.same s4
      rw [show upd H3 l9 (.lst [V.str (Str.ofString "tariff 5 1 3"), V.str (Str.ofString "cost 0 3"), V.str (Str.ofString "cost 1 2"), V.str (Str.ofString "cost 2 4"), V.str (Str.ofString "begin 1 0 9"), V.str (Str.ofString "begin 2 0 9"), V.str (Str.ofString "begin 3 4 9")]) = upd H3 l9 (.lst ((texts.take 7).map V.str)) from rfl]
      generalize upd H3 l9 (.lst ((texts.take 7).map V.str)) = H4 at e4 D4 ⊢
      clear s4 d3 k3 hp hdx ndx hM2
      refine ⟨_, rfl, by show 3 ≤ sizeLine; omega, fun l10 h10 => ?_⟩
      have s5 : Same H4 (upd H4 l10 (.lst ((texts.drop 7).map V.str))) := same_new h10
      have e5 := s5 _ _ e4
      have e5' : upd H4 l10 (.lst ((texts.drop 7).map V.str)) l10 = some (.lst ((texts.drop 7).map V.str)) := upd_same
      have D5 := D4.same s5
      rw [show upd H4 l10 (.lst [V.str (Str.ofString "begin 1 2 3"), V.str (Str.ofString "tariff 7"), V.str (Str.ofString "cost 0 9")]) = upd H4 l10 (.lst ((texts.drop 7).map V.str)) from rfl]
      generalize upd H4 l10 (.lst ((texts.drop 7).map V.str)) = H5 at e5 e5' D5 ⊢
      clear s5 e4 D4
      refine ⟨l9, l10, _, _, rfl, rfl, e5, e5', by show 7 + 3 ≤ sizeLine; omega, fun l11 h11 => ?_⟩
      have eL : (texts.take 7).map V.str ++ (texts.drop 7).map V.str = (cmds.map lineC).map V.str := by
        rw [← List.map_append, List.take_append_drop, texts_eq]
      rw [eL]
      have s6 : Same H5 (upd H5 l11 (.lst ((cmds.map lineC).map V.str))) := same_new h11
      have e6 : upd H5 l11 (.lst ((cmds.map lineC).map V.str)) l11 = some (.lst ((cmds.map lineC).map V.str)) := upd_same
      have D6 := D5.same s6
      generalize upd H5 l11 (.lst ((cmds.map lineC).map V.str)) = H6 at e6 D6 ⊢
      clear s6 e5 e5' D5
      have lC : ((cmds.map lineC).map V.str).length = cmds.length := by rw [List.length_map, List.length_map]
      refine ⟨l11, rfl, ⟨_, .of e6⟩, fun D hD => lc_it (walk_list (xs := (cmds.map lineC).map V.str)) (fun i Hi => Hi l11 = some (.lst ((cmds.map lineC).map V.str)) ∧ Hi D = some (.lst ((runC i).1.map V.str)) ∧ DeskAt C Hi p [] (runC i).2 ∧ l11 ≠ D) ⟨same_new hD _ _ e6, upd_same, D6.same (same_new hD), ne_of_none e6 hD⟩ (fun i Hi _ ⟨z, _⟩ => .of z) ?_ ?_⟩
      · rintro i x Hi H7 hi ⟨g1, g2, g3, g4⟩ ⟨rfl, ex⟩
        have ex' : ((cmds.map lineC).map V.str)[i]? = some x := ex
        rw [List.getElem?_map, List.getElem?_map] at ex'
        cases hq : cmds[i]? with
        | none => rw [hq] at ex'; cases ex'
        | some c =>
          rw [hq] at ex'
          obtain rfl : V.str (lineC c) = x := Option.some.inj ex'
          obtain ⟨hok, hlen, hsh⟩ := okC_of (List.all_eq_true.mp okC_all c (List.mem_of_getElem? hq))
          obtain ⟨dx7, pl7, tv7, p7, pt7, ptv7⟩ := id g3
          refine ⟨rfl, ?_⟩
          refine ⟨_, rfl, p, dx7, _, rfl, p7, rfl, _, rfl, p, [], (runC i).2, g3, .inr ⟨c.1, c.2, rfl, hok, hlen, hsh, fun H8 k8 d8 => ?_⟩⟩
          have nDp : D ≠ p := ne_of g2 p7 (by intro z; cases z)
          have hi10 : i < 10 := by
            have z : i < ((cmds.map lineC).map V.str).length := hi
            rw [lC] at z
            exact z
          obtain ⟨dx8, pl8, tv8, p8, pt8, ptv8⟩ := id d8
          have g28 := k8 _ _ g2 nDp
          have rl := run_len i
          refine ⟨_, g28, by rw [List.length_map]; omega, ?_, ?_, ?_, g4⟩
          · rw [upd_ne g4]
            exact k8 _ _ g1 (ne_of g1 p7 (by intro z; cases z))
          · rw [upd_same, run_succ hq]
            show _ = some (HO.lst (((runC i).1 ++ [(ansF (runC i).2 c.1 c.2).1]).map V.str))
            rw [List.map_append]
            rfl
          · rw [run_succ hq]
            refine ⟨dx8, pl8, tv8, ?_, ?_, ptv8.elim .inl fun ⟨ta, q1, q2, q3⟩ => .inr ⟨ta, q1, q2, ?_⟩⟩
            · rw [upd_ne nDp.symm]
              exact p8
            · rw [upd_ne (ne_of pt8 g28 (by intro z; cases z))]
              exact pt8
            · rw [upd_ne (ne_of q3 g28 (by intro z; cases z))]
              exact q3
      · rintro H7 ⟨g1, g2, g3, g4⟩
        rw [lC, run_all] at g2
        refine ⟨_, rfl, by show 10 ≤ sizeLine; omega, fun le hle => ?_⟩
        refine ⟨.list (strsD dues), .list (strsD dues), .lst (.of (same_new hle _ _ g2)) dp_strs, .lst (.of (show _ = some (HO.lst (dues.map V.str)) from upd_same)) dp_strs, shaped_dues, shaped_dues, ?_⟩
        rw [eqv_dues]
        exact k _
end
end K94
set_option Elab.async false
set_option linter.all false
set_option maxRecDepth 100000
set_option maxHeartbeats 0
/-! The head: what the end leans on, read off the state behind the top; the top by one kernel run. -/
namespace K94
open PySem PySem.Spec PyProof.Rows L2
def loose0 : List PySem.Str := ["BadLine", "BadPage", "BadTelling", "BadSigns", "BadTariff", "OutOfPlace", "TooGreat", "Nothing", "WHITE", "BLACK", "MOST_WIDTH", "MOST_LINES", "BINARY", "is_whole", "is_whole_lines", "is_line", "need_line", "need_page", "other_colour", "colour_end", "runs_in", "runs_of", "are_runs", "line_in", "gamma_of"]
def loose1 : List PySem.Str := ["read_gamma", "MOST_MODES", "MOST_STAY", "STAY", "PASS", "RUNS", "FULL", "PASS_SIGNS", "RUNS_SIGNS", "FULL_SIGNS", "STAY_SIGNS", "MOST_SIGNS", "is_mode", "is_full", "need_telling", "signs_for", "signs_in", "change_from", "change_back", "after_mode", "dots_of", "read_beside", "full", "read_full", "read_mode"]
def loose2 : List PySem.Str := ["read_from", "are_signs", "need_signs", "FAR", "modes_at", "choices", "states_of", "tables_of", "first_state", "least_in", "shortest_in", "WINDOW", "UNSURE", "need_width", "need_beside", "begun_with", "changes_from", "backs_from", "skipped", "stays_from", "ends_from", "next_states", "many_by", "many_right", "layers_of"]
def loose3 : List PySem.Str := ["sure_in", "sure", "MOST_LIMIT", "need_limit", "full_size", "sizes_of", "are_fulls", "page_signs", "bounds_of", "fulls_in", "fulls", "read_in", "read_page", "NOTICED", "WRONG", "SAME", "need_read", "with_turned", "unlike", "turned_in", "need_place", "turned", "weak", "is_whole_windows", "MOST_DAY"]
def loose4 : List PySem.Str := ["MOST_PRICE", "MOST_MOMENT", "need_tariff", "ahead_of", "cost_of", "cost", "cheapest", "LINE_END", "BLANK", "COLON", "MINUS", "DIGITS", "MOST_FIGURES", "integer_of", "mode_of", "telling_of", "NO", "NONE", "DONE", "BAR", "row_told", "Desk", "_law_start", "_law_next", "_law_of"]
def loose5 : List PySem.Str := ["_law_paid", "_law_first", "_law_great", "_law_tariff_line", "_law_any_line"]
def looseN : List PySem.Str := loose0 ++ (loose1 ++ (loose2 ++ (loose3 ++ (loose4 ++ (loose5)))))

abbrev Rw : PySem.W.OpenRow := PySem.W.OpenLaw.row PySem.Challenge.rw_faxhouse_k94_whole_desk_of_tariffs
/-! ### the addresses that are looked at -/
def gNames : List Str := ["is_whole_windows", "is_line", "need_page", "need_tariff", "ahead_of", "cost_of", "cost", "cheapest", "integer_of", "_law_start", "_law_next", "_law_of", "_law_paid", "_law_first", "_law_great", "_law_tariff_line", "_law_any_line", "law", "Desk", "BadLine", "BadPage", "BadSigns", "BadTariff", "BadTelling", "Nothing", "OutOfPlace", "TooGreat"]
def mNames : List (Str × Str) := [("Desk", "__init__"), ("Desk", "add_line"), ("Desk", "tariff_told"), ("Desk", "answered"), ("Desk", "say"), ("Desk", "page"), ("BadTariff", "__init__"), ("OutOfPlace", "__init__")]
def refsN (o : Obj) : List Addr := match o.data with
  | .func fd => He.refV fd.code ++ fd.closure.map (·.2)
  | .cls cd => cd.ns :: cd.mro.flatMap He.refV
  | .fields vs => (match o.cls == .type "property" with
    | true => vs.toList.flatMap He.refV
    | false => [])
  | _ => []
def refsA (g : Addr → Option Obj) (as : List Addr) : List Addr := as.flatMap fun a => match g a with
  | some o => refsN o
  | none => []
def as0 : List Addr := [mainGlobals, cStatics]
def as1 (g : Addr → Option Obj) : List Addr := gNames.map (He.ga (He.frG g as0))
def as2 (g : Addr → Option Obj) : List Addr := as0 ++ (as1 g ++ refsA g (as1 g))
def as3 (g : Addr → Option Obj) : List Addr := mNames.map fun p => He.ma (He.frG g (as2 g)) (He.ga (He.frG g (as2 g)) p.1) p.2
def as4 (g : Addr → Option Obj) : List Addr := refsA g (as3 g)
def asN (g : Addr → Option Obj) : List Addr := (as2 g ++ (as3 g ++ (as4 g ++ refsA g (as4 g)))).eraseDups
def KN (g : Addr → Option Obj) : PySem.W.Frag := He.frG g (asN g)
/-! ### facts -/
def fa : List He.Fa := [.glo "is_whole_windows", .glo "is_line", .glo "need_page", .glo "need_tariff", .glo "ahead_of", .glo "cost_of", .glo "cost", .glo "cheapest", .glo "integer_of", .glo "_law_start", .glo "_law_next", .glo "_law_of", .glo "_law_paid", .glo "_law_first", .glo "_law_great", .glo "_law_tariff_line", .glo "_law_any_line", .glo "law", .glo "Desk", .glo "BadLine", .glo "BadPage", .glo "BadSigns", .glo "BadTariff", .glo "BadTelling", .glo "Nothing", .glo "OutOfPlace", .glo "TooGreat",
  .str "WHITE" ".", .str "BLACK" "#", .int "MOST_WIDTH" 40, .int "MOST_LINES" 60, .int "MOST_DAY" 24, .int "MOST_PRICE" 1000000, .int "MOST_MOMENT" M30, .str "LINE_END" "\n", .str "BLANK" " ", .str "MINUS" "-", .str "DIGITS" "0123456789",
  .int "MOST_FIGURES" 31, .str "NO" "no", .str "DONE" "done", .free "isinstance", .free "int", .free "bool", .free "str", .free "tuple", .free "len", .free "enumerate", .free "sum", .free "min", .free "range", .free "all", .free "list", .free "repr", .free "super",
  .cls "Desk", .noat "Desk" "own_lines", .noat "Desk" "own_signs", .noat "Desk" "own_width", .noat "Desk" "own_tariff", .meth "Desk" "add_line", .meth "Desk" "tariff_told", .meth "Desk" "answered", .meth "Desk" "say", .mkr "Desk", .noat "BadTariff" "number"]
/-! ### plain defs -/
def dfn (at_ : Str × Option Str) (name qual : Str) (st : Stmt) : He.DefD := ⟨at_, name, qual, defArgs st, defBody st, defScope st, [], []⟩
def fn : List He.DefD := [dfn ("is_whole_windows", none) "is_whole" "is_whole" sWhole, dfn ("is_line", none) "is_line" "is_line" sIsLine, dfn ("need_page", none) "need_page" "need_page" sNeedPage, dfn ("need_tariff", none) "need_tariff" "need_tariff" sNeedTariff, dfn ("ahead_of", none) "ahead_of" "ahead_of" sAhead, dfn ("cost_of", none) "cost_of" "cost_of" sCostOf, dfn ("cost", none) "cost" "cost" sCost, dfn ("cheapest", none) "cheapest" "cheapest" sCheapest, dfn ("integer_of", none) "integer_of" "integer_of" sInteger, dfn ("_law_start", none) "_law_start" "_law_start" sStart, dfn ("_law_next", none) "_law_next" "_law_next" sNext, dfn ("_law_of", none) "_law_of" "_law_of" sOf, dfn ("_law_paid", none) "_law_paid" "_law_paid" sPaid, dfn ("_law_first", none) "_law_first" "_law_first" sFirst, dfn ("_law_great", none) "_law_great" "_law_great" sGreat, dfn ("_law_tariff_line", none) "_law_tariff_line" "_law_tariff_line" sTLine, dfn ("_law_any_line", none) "_law_any_line" "_law_any_line" sAny, dfn ("law", none) "law" "law" sLaw, dfn ("Desk", some "__init__") "__init__" "Desk.__init__" sDInit, dfn ("Desk", some "add_line") "add_line" "Desk.add_line" sAddLine, dfn ("Desk", some "tariff_told") "tariff_told" "Desk.tariff_told" sTold, dfn ("Desk", some "answered") "answered" "Desk.answered" sAnswered, dfn ("Desk", some "say") "say" "Desk.say" sSay]
/-! ### the others: the errors' __init__, the page's getter -/
structure DX where
  at_ : PySem.W.Frag → Addr
  name : Str
  qual : Str
  st : Stmt
abbrev FnZ : Type := Option (Str × Str × Arguments × FuncBody × Scope × Addr × Addr)
def zO (K : PySem.W.Frag) (f : Addr) : FnZ := match K.lookup f with
  | some ⟨_, _, .func fd, _⟩ => some (fd.name, fd.qualname, fd.params, fd.body, fd.scope, fd.globals, fd.builtins)
  | _ => none
def DX.val (d : DX) : FnZ := some (d.name, d.qual, defArgs d.st, .stmts (defBody d.st), defScope d.st, mainGlobals, builtinsNs)
def inA (x : Str) (K : PySem.W.Frag) : Addr := He.ma K (He.ga K x) "__init__"
def pgP (K : PySem.W.Frag) : Addr := He.ma K (He.ga K "Desk") "page"
def pgG (K : PySem.W.Frag) : Addr := match PySem.W.recIn K (pgP K) "property" with
  | some (.ref g :: _) => g
  | _ => 0
def fz : List DX := [⟨inA "BadTariff", "__init__", "BadTariff.__init__", sBT⟩, ⟨inA "OutOfPlace", "__init__", "OutOfPlace.__init__", sOP⟩, ⟨pgG, "page", "Desk.page", sPage⟩]
def clsB (K : PySem.W.Frag) (C : Addr) : Bool := match K.lookup C with
  | some ⟨.type "type", _, .cls cd, sl⟩ => (match cd.mro, sl.toList with
    | .ref C' :: bm, [_, _, _, _, some (.builtin n), _] => C' == C && n == "ValueError.__new__" && !cd.hasDel && cd.hasDict && PySem.HandSPX.refsVE bm
    | _, _ => false)
  | _ => false
def cloB (file : Str) (K : PySem.W.Frag) (f C : Addr) (q : Str) : Bool := match K.lookup f with
  | some ⟨_, _, .func fd, _⟩ => (match fd.closure, fd.defaults, fd.kwdefaults, fd.code with
    | [(x, cc)], .none, .none, .ref cda => decide (x = "__class__") && (PySem.W.codeIn K (.ref cda) q && ((match K.lookup cda with
        | some ⟨_, _, .fields vs, _⟩ => (match (vs[2]? : Option Value) with
          | some (.str fl _) => file == fl
          | _ => false)
        | _ => false) && (match K.lookup cc with
        | some ⟨_, _, .cell (some (.ref C')), _⟩ => C' == C
        | _ => false)))
    | _, _, _, _ => false)
  | _ => false
def errB (file : Str) (K : PySem.W.Frag) (x q : Str) : Bool := clsB K (He.ga K x) && (He.eqO (PySem.W.findIn K (.ref (He.ga K x)) "__setattr__") (some (some (.builtin "object.__setattr__"))) && (He.eqO (PySem.W.findIn K (.ref (He.ga K x)) "__init__") (some (some (.ref (inA x K)))) &&
  (decide (PySem.W.typeIn K (.ref (inA x K)) = some (.type "function")) && (PySem.W.keepIn K (.ref (He.ga K x)) && (decide (PySem.W.subIn K (.ref (He.ga K x)) (.type "BaseException") = some true) && (decide (PySem.W.typeIn K (.ref (He.ga K x)) = some (.type "type")) &&
  (He.eqO (PySem.W.nsIn K cStatics "thirdparty.any") (some none) && (He.eqO (PySem.W.ks_superIn K (He.ga K x) (He.ga K x) "__init__") (some (some (.builtin "ValueError.__init__"))) && (decide (PySem.W.subIn K (.ref (He.ga K x)) (.type "ValueError") = some true) &&
  (decide (PySem.W.mroIn K (He.ga K x) (.ref (He.ga K x)) = some true) && cloB file K (inA x K) (He.ga K x) q))))))))))
def excL (K : PySem.W.Frag) : List Value := [.ref (He.ga K "BadLine"), .ref (He.ga K "BadPage"), .ref (He.ga K "BadSigns"), .ref (He.ga K "BadTariff"), .ref (He.ga K "BadTelling"), .ref (He.ga K "Nothing"), .ref (He.ga K "OutOfPlace"), .ref (He.ga K "TooGreat")]
def pageB (K : PySem.W.Frag) : Bool := He.eqO (PySem.W.findIn K (.ref (He.ga K "Desk")) "page") (some (some (.ref (pgP K)))) && (He.eqO (PySem.W.specialIn K (.ref (pgP K)) "__get__") (some (some (.builtin "property.__get__"))) && (decide (PySem.W.takesIn K (.ref (pgP K)) = some true) &&
  ((match PySem.W.recIn K (pgP K) "property" with
    | some (.ref _ :: _) => true
    | _ => false) && (PySem.W.keepIn K (.ref (pgG K)) && (match K.lookup (pgG K) with
    | some ⟨_, _, .func fd, _⟩ => (match fd.closure, fd.defaults with
      | [], .none => PySem.W.codeIn K fd.code "Desk.page"
      | _, _ => false)
    | _ => false)))))
def exB (K : PySem.W.Frag) : Bool := errB Rw.prog.main.file K "BadTariff" "BadTariff.__init__" && (errB Rw.prog.main.file K "OutOfPlace" "OutOfPlace.__init__" && (decide (PySem.W.exmAny K (.ref (He.ga K "BadTariff")) (excL K) = some true) && (decide (PySem.W.exmAny K (.ref (He.ga K "OutOfPlace")) (excL K) = some true) && pageB K)))
/-! ### the Hook -/
abbrev AlN : Type := He.AlD × (Bool × List FnZ)
def obsN (K : PySem.W.Frag) : AlN := (He.obsD fa fn K, (exB K, fz.map fun d => zO K (d.at_ K)))
def valN : AlN := (He.valD fn, (true, fz.map DX.val))
def SaysN (K : PySem.W.Frag) : Prop := obsN K = valN
def hk : PySem.W.Hook where
  α := AlN
  obs := fun s => obsN (KN s.heap.get?)
  val := fun _ => valN
  says := fun _ h => ∃ K : PySem.W.Frag, K.In h ∧ SaysN K
  of := fun _ _ e => ⟨_, He.frG_in, e⟩
  keeps := fun _ _ _ ⟨K, hK, c⟩ k => ⟨K, PySem.W.Frag.In.keeps hK k, c⟩
def ob (s : PySem.W.SharedT) : AlN := obsN (KN (HandSHeadRun.getT s))
theorem ob_eq (s : PySem.W.SharedT) : ob s = hk.obs s.abs := by
  have e : HandSHeadRun.getT s = s.abs.heap.get? := funext (HandSHeadRun.getT_eq s)
  show obsN (KN (HandSHeadRun.getT s)) = obsN (KN s.abs.heap.get?)
  rw [e]
end K94
set_option Elab.async false
set_option linter.all false
set_option maxRecDepth 100000
set_option maxHeartbeats 0
namespace K94
open PySem PySem.Spec PyProof.Rows L2
theorem run (w : World) : HandSHeadRun.RunEq Rw (PySem.W.view Rw.prog [143]) hk ob 6000 looseN w := by
  intro os
  kernel_rfl
end K94
set_option Elab.async false
set_option linter.all false
set_option maxRecDepth 100000
set_option maxHeartbeats 4000000
/-! The facts put together; the law's end. -/
namespace K94
open PySem PySem.Spec PyProof.Rows L2
theorem toFun {K : PySem.W.Frag} {x qual : Str} {st : Stmt} {f : Addr} {fd : FuncData} (F : FunD K x qual (defArgs st) (defBody st) (defScope st) [] [] f fd) : Fun K x qual st f fd := by
  obtain ⟨oc, od, dV, kV, doc, pm, an, cdv, ct, osl, e, lk, hcd, hD, _⟩ := F.ex
  rcases hD with ⟨_, rfl⟩ | ⟨z, _⟩
  · exact ⟨⟨oc, od, kV, doc, pm, an, cdv, ct, osl, e, lk, hcd⟩, F.kp⟩
  · exact absurd rfl z
theorem cls_of {K : PySem.W.Frag} {C : Addr} (q : clsB K C = true) : ∃ nm q N bs bm sn sub ab col dd k0 k1 k2 k3 k5, K.lookup C = some (excClassObj nm q C N bs bm true sn sub ab col dd k0 k1 k2 k3 k5 "ValueError.__new__") ∧ PySem.HandSPX.refsVE bm = true := by
  unfold clsB at q
  split at q
  · rename_i dd cd sl ho
    split at q
    · rename_i C' bm k0 k1 k2 k3 n k5 hm hs
      simp only [Bool.and_eq_true, beq_iff_eq, Bool.not_eq_true'] at q
      obtain ⟨⟨⟨⟨rfl, rfl⟩, hdel⟩, hdict⟩, ht⟩ := q
      obtain ⟨nm, bs, mro, ns, qn, hd, sn, sub, ab, col, del⟩ := cd
      dsimp only at hm hdel hdict
      subst hm hdel hdict
      have hsl : sl = #[k0, k1, k2, k3, some (.builtin "ValueError.__new__"), k5] := by
        obtain ⟨l⟩ := sl
        simp only at hs
        rw [hs]
      subst hsl
      exact ⟨nm, qn, ns, bs, bm, sn, sub, ab, col, dd, k0, k1, k2, k3, k5, ho, ht⟩
    · cases q
  · cases q
theorem zO_at {K : PySem.W.Frag} {f : Addr} {d : DX} (e : zO K f = d.val) : ∃ oc od osl cl dV kV doc pm an cdv ct, K.lookup f = some ⟨oc, od, .func (PySem.W.fnX d.name d.qual (defArgs d.st) (defBody d.st) (defScope d.st) cl dV kV doc pm an cdv ct), osl⟩ := by
  unfold zO at e
  cases q : K.lookup f with
  | none =>
    rw [q] at e
    cases e
  | some o =>
    obtain ⟨oc, od, dt, osl⟩ := o
    rw [q] at e
    cases dt with
    | func fd =>
      obtain ⟨n1, n2, n3, n4, n5, n6, n7, n8, n9, n10, n11, n12, n13, n14, n15⟩ := fd
      have e2 : (some (n1, n2, n3, n4, n5, n6, n15) : FnZ) = some (d.name, d.qual, defArgs d.st, .stmts (defBody d.st), defScope d.st, mainGlobals, builtinsNs) := e
      simp only [Option.some.injEq, Prod.mk.injEq] at e2
      obtain ⟨h1, h2, h3, h4, h5, h6, h7⟩ := e2
      subst h1 h2 h3 h4 h5 h6 h7
      exact ⟨oc, od, osl, n7, n8, n9, n10, n11, n12, n13, n14, rfl⟩
    | _ => cases e
theorem clo_of {file : Str} {K : PySem.W.Frag} {f C : Addr} {q : Str} {d : DX} (e : zO K f = d.val) (c : cloB file K f C q = true) : ∃ (cc : Addr) (oc : Value) (od : Option Addr) (doc pm : Value) (an : Option Addr) (cda : Addr) (ct : Value) (osl : Array (Option Value)) (ccl : Value) (cdd : Option Addr) (vs : Array Value) (ccs : Array (Option Value)) (fl : Str) (tf : Tok) (cl : Value) (cld : Option Addr) (csl : Array (Option Value)),
    K.lookup f = some ⟨oc, od, .func (PySem.W.fnX d.name d.qual (defArgs d.st) (defBody d.st) (defScope d.st) [("__class__", cc)] .none .none doc pm an (.ref cda) ct), osl⟩ ∧ PySem.W.codeIn K (.ref cda) q = true ∧ K.lookup cda = some ⟨ccl, cdd, .fields vs, ccs⟩ ∧ vs[2]? = some (.str fl tf) ∧ (file == fl) = true ∧
    K.lookup cc = some ⟨cl, cld, .cell (some (.ref C)), csl⟩ := by
  obtain ⟨oc, od, osl, cl0, dV, kV, doc, pm, an, cdv, ct, lk⟩ := zO_at e
  unfold cloB at c
  rw [lk] at c
  dsimp only [PySem.W.fnX] at c
  split at c
  · rename_i x cc cda
    obtain ⟨c1, c⟩ := He.ba c
    obtain ⟨c2, c⟩ := He.ba c
    obtain ⟨c3, c4⟩ := He.ba c
    split at c3
    · rename_i ccl cdd vs ccs hk
      split at c3
      · rename_i fl tf hv
        split at c4
        · rename_i cl cld C' csl hc
          have ex : x = "__class__" := of_decide_eq_true c1
          have eC : C' = C := beq_iff_eq.mp c4
          subst ex eC
          exact ⟨cc, oc, od, doc, pm, an, cda, ct, osl, ccl, cdd, vs, ccs, fl, tf, cl, cld, csl, lk, c2, hk, hv, c3, hc⟩
        · cases c4
      · cases c3
    · cases c3
  · cases c
theorem err_txt {P : Program} {K : PySem.W.Frag} {mg : Str → Option Value} {x q : Str} {st : Stmt} (c : errB P.main.file K x q = true) (e : zO K (inA x K) = DX.val ⟨inA x, "__init__", q, st⟩) (gS : mg "super" = none) :
    ∃ fI cc, Sup.Txt P K mg (He.ga K x) fI cc q (defArgs st) (defBody st) (defScope st) := by
  unfold errB at c
  obtain ⟨c1, c⟩ := He.ba c
  obtain ⟨c2, c⟩ := He.ba c
  obtain ⟨c3, c⟩ := He.ba c
  obtain ⟨c4, c⟩ := He.ba c
  obtain ⟨c5, c⟩ := He.ba c
  obtain ⟨c6, c⟩ := He.ba c
  obtain ⟨c7, c⟩ := He.ba c
  obtain ⟨c8, c⟩ := He.ba c
  obtain ⟨c9, c⟩ := He.ba c
  obtain ⟨c10, c⟩ := He.ba c
  obtain ⟨c11, c12⟩ := He.ba c
  obtain ⟨cc, z⟩ := clo_of e c12
  exact ⟨inA x K, cc, ⟨cls_of c1, He.eqO_ok c2, He.eqO_ok c3, of_decide_eq_true c4, c5, of_decide_eq_true c6, of_decide_eq_true c7, He.eqO_ok c8, He.eqO_ok c9, of_decide_eq_true c10, of_decide_eq_true c11, gS, z⟩⟩
theorem page_of {K : PySem.W.Frag} (c : pageB K = true) (e : zO K (pgG K) = DX.val ⟨pgG, "page", "Desk.page", sPage⟩) : PropOf K (He.ga K "Desk") "page" (pgP K) (pgG K) ∧ ∃ fd, Fun K "page" "Desk.page" sPage (pgG K) fd := by
  unfold pageB at c
  obtain ⟨c1, c⟩ := He.ba c
  obtain ⟨c2, c⟩ := He.ba c
  obtain ⟨c3, c⟩ := He.ba c
  obtain ⟨c4, c⟩ := He.ba c
  obtain ⟨c5, c6⟩ := He.ba c
  refine ⟨⟨He.eqO_ok c1, He.eqO_ok c2, of_decide_eq_true c3, ?_⟩, ?_⟩
  · split at c4
    · rename_i g r hr
      refine ⟨r, ?_⟩
      rw [hr]
      have eg : pgG K = g := by
        unfold pgG
        rw [hr]
      rw [eg]
    · cases c4
  · obtain ⟨oc, od, osl, cl0, dV, kV, doc, pm, an, cdv, ct, lk⟩ := zO_at e
    rw [lk] at c6
    dsimp only [PySem.W.fnX] at c6
    split at c6
    · exact ⟨_, fun_mk (kV := kV) lk c6 c5⟩
    · cases c6
end K94
set_option Elab.async false
set_option linter.all false
set_option maxRecDepth 100000
set_option maxHeartbeats 4000000
/-! The law's end. -/
namespace K94
open PySem PySem.Spec PyProof.Rows L2
/-- as walkG, what is written told at the end alone -/
theorem walkGE {l : PySem.W.OpenLaw} {n k : Nat} {q : Program} {loose : List Str} {XP : (Str → Option Value) → Heap → Prop} {YP : World → Heap → Prop} {d : DefRec} {CX : CXT} {x : Str}
    (hn : l.most = some n) (hn2 : n ≤ sizeLine) (hdf : d.params.defaults = []) (hr : Room k callerA)
    (F : ∀ (w : World) (mg : Str → Option Value) (fa : Addr) (h : Heap), YP w h → h.Ns mainGlobals mg → mg d.name = some (.ref fa) →
      ∃ (K : PySem.W.Frag) (fd : FuncData) (sp : Sp), K.In h ∧ (∀ (s : Shared) (u : Value), BindsTo s fd ⟨[u], []⟩ [(x, u)]) ∧ (∀ (H : Hp) (a : Addr) (ns : List Int), ns.length ≤ n → SqL K H a (ns.map V.int) → sp [.ref a] H (fun v _ => v = .bl true) fun _ _ _ => False) ∧
        ∀ base : Heap, K.In base → base.Ns mainGlobals mg → FnG l.prog w K mg base CX k fa fd [x] sp)
    (hCX : ∀ (H : Hp) (s : Shared) (e : Value) (s' : Shared), CX [] H s (fun _ _ _ => False) e s' → False) :
    PySem.W.WalkO q loose XP YP l.row.toRowW d [] (fun f vs => PySem.call f vs) := by
  refine Att.attach_call hn hdf fun w s₀ s₁ mg mb fa o pm cd doc a vs ns G Y ho hd hcd hmg hobj hints hlen hg => ?_
  obtain ⟨K, fd, sp, KX, hb, hsp, hF⟩ := F w mg fa _ Y G.T.g hmg
  exact lawG KX G.T.g G.T.b G.T.builtins G.T.nolimit hg hobj hints (Nat.le_trans hlen hn2) hr hF hb (fun H hS => hsp H a ns hlen hS) fun H e s' => hCX H s₁ e s'
section
variable {K : PySem.W.Frag}
theorem gdef (c : He.SaysD fa fn K) (i : Nat) {x nm q : Str} {st : Stmt} (h : fn[i]? = some (dfn (x, none) nm q st)) : ∃ fd, Fun K nm q st (He.ga K x) fd := by
  obtain ⟨fd, F⟩ := c.def_ i h
  exact ⟨fd, toFun F⟩
theorem mdef (c : He.SaysD fa fn K) (i : Nat) {m nm q : Str} {st : Stmt} (h : fn[i]? = some (dfn ("Desk", some m) nm q st)) : ∃ fd, Fun K nm q st (He.ma K (He.ga K "Desk") m) fd := by
  obtain ⟨fd, F⟩ := c.def_ i h
  exact ⟨fd, toFun F⟩
end
abbrev PP : Program := (PySem.Challenge.rw_faxhouse_k94_whole_desk_of_tariffs).prog
theorem no_super : (PP.main.scope.names.lookup ("super" : Str)).isSome = false := by decide +kernel
theorem facts {w : World} {K : PySem.W.Frag} {h : Heap} {mg : Str → Option Value} {f : Addr} (X : K.In h) (G : h.Ns mainGlobals mg) (hfa : mg ("law" : Str) = some (.ref f)) (c : SaysN K) :
    ∃ fd : FuncData, (∀ (s : Shared) (v : Value), BindsTo s fd ⟨[v], []⟩ [("_law_script", v)]) ∧ ∀ base : Heap, K.In base → base.Ns mainGlobals mg → FnG PP w K mg base CX0 7 f fd ["_law_script"] (spLaw K) := by
  have cd : He.SaysD fa fn K := congrArg (fun z : AlN => z.1) c
  have ce : exB K = true := congrArg (fun z : AlN => z.2.1) c
  have cz : fz.map (fun d => zO K (d.at_ K)) = fz.map DX.val := congrArg (fun z : AlN => z.2.2) c
  have z1 : zO K (inA "BadTariff" K) = DX.val ⟨inA "BadTariff", "__init__", "BadTariff.__init__", sBT⟩ := by
    have e : (fz.map (fun d => zO K (d.at_ K)))[0]? = (fz.map DX.val)[0]? := by rw [cz]
    exact Option.some.inj e
  have z2 : zO K (inA "OutOfPlace" K) = DX.val ⟨inA "OutOfPlace", "__init__", "OutOfPlace.__init__", sOP⟩ := by
    have e : (fz.map (fun d => zO K (d.at_ K)))[1]? = (fz.map DX.val)[1]? := by rw [cz]
    exact Option.some.inj e
  have z3 : zO K (pgG K) = DX.val ⟨pgG, "page", "Desk.page", sPage⟩ := by
    have e : (fz.map (fun d => zO K (d.at_ K)))[2]? = (fz.map DX.val)[2]? := by rw [cz]
    exact Option.some.inj e
  clear cz
  unfold exB at ce
  obtain ⟨e1, ce⟩ := He.ba ce
  obtain ⟨e2, ce⟩ := He.ba ce
  obtain ⟨e3, ce⟩ := He.ba ce
  obtain ⟨e4, e5⟩ := He.ba ce
  obtain ⟨fdW, FW⟩ := gdef cd 0 (x := "is_whole_windows") (nm := "is_whole") (q := "is_whole") (st := sWhole) rfl
  have bW := FW.binds (ps := ["thing", "least", "most"]) fun _ _ _ _ _ _ us hl => match us, hl with | [_, _, _], _ => rfl
  have gW : mg "is_whole_windows" = some (.ref (He.ga K "is_whole_windows")) := He.glo_ok X G (cd.fact 0 (f := .glo "is_whole_windows") rfl)
  obtain ⟨fdIL, FIL⟩ := gdef cd 1 (x := "is_line") (nm := "is_line") (q := "is_line") (st := sIsLine) rfl
  have bIL := FIL.binds (ps := ["thing"]) fun _ _ _ _ _ _ us hl => match us, hl with | [_], _ => rfl
  have gIL : mg "is_line" = some (.ref (He.ga K "is_line")) := He.glo_ok X G (cd.fact 1 (f := .glo "is_line") rfl)
  obtain ⟨fdNP, FNP⟩ := gdef cd 2 (x := "need_page") (nm := "need_page") (q := "need_page") (st := sNeedPage) rfl
  have bNP := FNP.binds (ps := ["thing"]) fun _ _ _ _ _ _ us hl => match us, hl with | [_], _ => rfl
  have gNP : mg "need_page" = some (.ref (He.ga K "need_page")) := He.glo_ok X G (cd.fact 2 (f := .glo "need_page") rfl)
  obtain ⟨fdNT, FNT⟩ := gdef cd 3 (x := "need_tariff") (nm := "need_tariff") (q := "need_tariff") (st := sNeedTariff) rfl
  have bNT := FNT.binds (ps := ["thing"]) fun _ _ _ _ _ _ us hl => match us, hl with | [_], _ => rfl
  have gNT : mg "need_tariff" = some (.ref (He.ga K "need_tariff")) := He.glo_ok X G (cd.fact 3 (f := .glo "need_tariff") rfl)
  obtain ⟨fdAH, FAH⟩ := gdef cd 4 (x := "ahead_of") (nm := "ahead_of") (q := "ahead_of") (st := sAhead) rfl
  have bAH := FAH.binds (ps := ["tariff", "moment"]) fun _ _ _ _ _ _ us hl => match us, hl with | [_, _], _ => rfl
  have gAH : mg "ahead_of" = some (.ref (He.ga K "ahead_of")) := He.glo_ok X G (cd.fact 4 (f := .glo "ahead_of") rfl)
  obtain ⟨fdCO, FCO⟩ := gdef cd 5 (x := "cost_of") (nm := "cost_of") (q := "cost_of") (st := sCostOf) rfl
  have bCO := FCO.binds (ps := ["tariff", "begin", "moments"]) fun _ _ _ _ _ _ us hl => match us, hl with | [_, _, _], _ => rfl
  have gCO : mg "cost_of" = some (.ref (He.ga K "cost_of")) := He.glo_ok X G (cd.fact 5 (f := .glo "cost_of") rfl)
  obtain ⟨fdCS, FCS⟩ := gdef cd 6 (x := "cost") (nm := "cost") (q := "cost") (st := sCost) rfl
  have bCS := FCS.binds (ps := ["tariff", "begin", "moments"]) fun _ _ _ _ _ _ us hl => match us, hl with | [_, _, _], _ => rfl
  have gCS : mg "cost" = some (.ref (He.ga K "cost")) := He.glo_ok X G (cd.fact 6 (f := .glo "cost") rfl)
  obtain ⟨fdCH, FCH⟩ := gdef cd 7 (x := "cheapest") (nm := "cheapest") (q := "cheapest") (st := sCheapest) rfl
  have bCH := FCH.binds (ps := ["tariff", "moments", "low", "high"]) fun _ _ _ _ _ _ us hl => match us, hl with | [_, _, _, _], _ => rfl
  have gCH : mg "cheapest" = some (.ref (He.ga K "cheapest")) := He.glo_ok X G (cd.fact 7 (f := .glo "cheapest") rfl)
  obtain ⟨fdIN, FIN⟩ := gdef cd 8 (x := "integer_of") (nm := "integer_of") (q := "integer_of") (st := sInteger) rfl
  have bIN := FIN.binds (ps := ["word"]) fun _ _ _ _ _ _ us hl => match us, hl with | [_], _ => rfl
  have gIN : mg "integer_of" = some (.ref (He.ga K "integer_of")) := He.glo_ok X G (cd.fact 8 (f := .glo "integer_of") rfl)
  obtain ⟨fdST, FST⟩ := gdef cd 9 (x := "_law_start") (nm := "_law_start") (q := "_law_start") (st := sStart) rfl
  have bST := FST.binds (ps := ["_law_script"]) fun _ _ _ _ _ _ us hl => match us, hl with | [_], _ => rfl
  have gST : mg "_law_start" = some (.ref (He.ga K "_law_start")) := He.glo_ok X G (cd.fact 9 (f := .glo "_law_start") rfl)
  obtain ⟨fdNX, FNX⟩ := gdef cd 10 (x := "_law_next") (nm := "_law_next") (q := "_law_next") (st := sNext) rfl
  have bNX := FNX.binds (ps := ["_law_m", "_law_total"]) fun _ _ _ _ _ _ us hl => match us, hl with | [_, _], _ => rfl
  have gNX : mg "_law_next" = some (.ref (He.ga K "_law_next")) := He.glo_ok X G (cd.fact 10 (f := .glo "_law_next") rfl)
  obtain ⟨fdOF, FOF⟩ := gdef cd 11 (x := "_law_of") (nm := "_law_of") (q := "_law_of") (st := sOf) rfl
  have bOF := FOF.binds (ps := ["_law_m", "_law_some"]) fun _ _ _ _ _ _ us hl => match us, hl with | [_, _], _ => rfl
  have gOF : mg "_law_of" = some (.ref (He.ga K "_law_of")) := He.glo_ok X G (cd.fact 11 (f := .glo "_law_of") rfl)
  obtain ⟨fdPD, FPD⟩ := gdef cd 12 (x := "_law_paid") (nm := "_law_paid") (q := "_law_paid") (st := sPaid) rfl
  have bPD := FPD.binds (ps := ["_law_prices", "_law_begin", "_law_moments"]) fun _ _ _ _ _ _ us hl => match us, hl with | [_, _, _], _ => rfl
  have gPD : mg "_law_paid" = some (.ref (He.ga K "_law_paid")) := He.glo_ok X G (cd.fact 12 (f := .glo "_law_paid") rfl)
  obtain ⟨fdFR, FFR⟩ := gdef cd 13 (x := "_law_first") (nm := "_law_first") (q := "_law_first") (st := sFirst) rfl
  have bFR := FFR.binds (ps := ["_law_prices", "_law_moments", "_law_low", "_law_high"]) fun _ _ _ _ _ _ us hl => match us, hl with | [_, _, _, _], _ => rfl
  have gFR : mg "_law_first" = some (.ref (He.ga K "_law_first")) := He.glo_ok X G (cd.fact 13 (f := .glo "_law_first") rfl)
  obtain ⟨fdGR, FGR⟩ := gdef cd 14 (x := "_law_great") (nm := "_law_great") (q := "_law_great") (st := sGreat) rfl
  have bGR := FGR.binds (ps := ["_law_m"]) fun _ _ _ _ _ _ us hl => match us, hl with | [_], _ => rfl
  have gGR : mg "_law_great" = some (.ref (He.ga K "_law_great")) := He.glo_ok X G (cd.fact 14 (f := .glo "_law_great") rfl)
  obtain ⟨fdTL, FTL⟩ := gdef cd 15 (x := "_law_tariff_line") (nm := "_law_tariff_line") (q := "_law_tariff_line") (st := sTLine) rfl
  have bTL := FTL.binds (ps := ["_law_m", "_law_own"]) fun _ _ _ _ _ _ us hl => match us, hl with | [_, _], _ => rfl
  have gTL : mg "_law_tariff_line" = some (.ref (He.ga K "_law_tariff_line")) := He.glo_ok X G (cd.fact 15 (f := .glo "_law_tariff_line") rfl)
  obtain ⟨fdAN, FAN⟩ := gdef cd 16 (x := "_law_any_line") (nm := "_law_any_line") (q := "_law_any_line") (st := sAny) rfl
  have bAN := FAN.binds (ps := ["_law_m", "_law_own"]) fun _ _ _ _ _ _ us hl => match us, hl with | [_, _], _ => rfl
  have gAN : mg "_law_any_line" = some (.ref (He.ga K "_law_any_line")) := He.glo_ok X G (cd.fact 16 (f := .glo "_law_any_line") rfl)
  obtain ⟨fdLW, FD⟩ := cd.def_ 17 (d := dfn ("law", none) "law" "law" sLaw) rfl
  have FLW : Fun K "law" "law" sLaw (He.ga K "law") fdLW := toFun FD
  have bA := FunD.bindsA (ps := ["_law_script"]) FD fun _ _ _ _ _ _ us hl => match us, hl with | [_], _ => rfl
  have bLW := FLW.binds (ps := ["_law_script"]) fun _ _ _ _ _ _ us hl => match us, hl with | [_], _ => rfl
  have gLW : mg "law" = some (.ref (He.ga K "law")) := He.glo_ok X G (cd.fact 17 (f := .glo "law") rfl)
  obtain ⟨fdDI, FDI⟩ := mdef cd 18 (m := "__init__") (nm := "__init__") (q := "Desk.__init__") (st := sDInit) rfl
  have bDI := FDI.binds (ps := ["self"]) fun _ _ _ _ _ _ us hl => match us, hl with | [_], _ => rfl
  obtain ⟨fdAL, FAL⟩ := mdef cd 19 (m := "add_line") (nm := "add_line") (q := "Desk.add_line") (st := sAddLine) rfl
  have bAL := FAL.binds (ps := ["self", "line"]) fun _ _ _ _ _ _ us hl => match us, hl with | [_, _], _ => rfl
  obtain ⟨fdTT, FTT⟩ := mdef cd 20 (m := "tariff_told") (nm := "tariff_told") (q := "Desk.tariff_told") (st := sTold) rfl
  have bTT := FTT.binds (ps := ["self", "word", "rest"]) fun _ _ _ _ _ _ us hl => match us, hl with | [_, _, _], _ => rfl
  obtain ⟨fdAW, FAW⟩ := mdef cd 21 (m := "answered") (nm := "answered") (q := "Desk.answered") (st := sAnswered) rfl
  have bAW := FAW.binds (ps := ["self", "line"]) fun _ _ _ _ _ _ us hl => match us, hl with | [_, _], _ => rfl
  obtain ⟨fdSY, FSY⟩ := mdef cd 22 (m := "say") (nm := "say") (q := "Desk.say") (st := sSay) rfl
  have bSY := FSY.binds (ps := ["self", "line"]) fun _ _ _ _ _ _ us hl => match us, hl with | [_, _], _ => rfl
  have gDesk : mg "Desk" = some (.ref (He.ga K "Desk")) := He.glo_ok X G (cd.fact 18 (f := .glo "Desk") rfl)
  have gx1 : mg "BadLine" = some (.ref (He.ga K "BadLine")) := He.glo_ok X G (cd.fact 19 (f := .glo "BadLine") rfl)
  have gx2 : mg "BadPage" = some (.ref (He.ga K "BadPage")) := He.glo_ok X G (cd.fact 20 (f := .glo "BadPage") rfl)
  have gx3 : mg "BadSigns" = some (.ref (He.ga K "BadSigns")) := He.glo_ok X G (cd.fact 21 (f := .glo "BadSigns") rfl)
  have gx4 : mg "BadTariff" = some (.ref (He.ga K "BadTariff")) := He.glo_ok X G (cd.fact 22 (f := .glo "BadTariff") rfl)
  have gx5 : mg "BadTelling" = some (.ref (He.ga K "BadTelling")) := He.glo_ok X G (cd.fact 23 (f := .glo "BadTelling") rfl)
  have gx6 : mg "Nothing" = some (.ref (He.ga K "Nothing")) := He.glo_ok X G (cd.fact 24 (f := .glo "Nothing") rfl)
  have gx7 : mg "OutOfPlace" = some (.ref (He.ga K "OutOfPlace")) := He.glo_ok X G (cd.fact 25 (f := .glo "OutOfPlace") rfl)
  have gx8 : mg "TooGreat" = some (.ref (He.ga K "TooGreat")) := He.glo_ok X G (cd.fact 26 (f := .glo "TooGreat") rfl)
  have GM : Gm mg := ⟨He.str_ok X G (cd.fact 27 (f := .str "WHITE" ".") rfl),
    He.str_ok X G (cd.fact 28 (f := .str "BLACK" "#") rfl),
    He.int_ok X G (cd.fact 29 (f := .int "MOST_WIDTH" 40) rfl),
    He.int_ok X G (cd.fact 30 (f := .int "MOST_LINES" 60) rfl),
    He.int_ok X G (cd.fact 31 (f := .int "MOST_DAY" 24) rfl),
    He.int_ok X G (cd.fact 32 (f := .int "MOST_PRICE" 1000000) rfl),
    He.int_ok X G (cd.fact 33 (f := .int "MOST_MOMENT" M30) rfl),
    He.str_ok X G (cd.fact 34 (f := .str "LINE_END" "\n") rfl),
    He.str_ok X G (cd.fact 35 (f := .str "BLANK" " ") rfl),
    He.str_ok X G (cd.fact 36 (f := .str "MINUS" "-") rfl),
    He.str_ok X G (cd.fact 37 (f := .str "DIGITS" "0123456789") rfl),
    He.int_ok X G (cd.fact 38 (f := .int "MOST_FIGURES" 31) rfl),
    He.str_ok X G (cd.fact 39 (f := .str "NO" "no") rfl),
    He.str_ok X G (cd.fact 40 (f := .str "DONE" "done") rfl),
    He.free_ok X G (cd.fact 41 (f := .free "isinstance") rfl),
    He.free_ok X G (cd.fact 42 (f := .free "int") rfl),
    He.free_ok X G (cd.fact 43 (f := .free "bool") rfl),
    He.free_ok X G (cd.fact 44 (f := .free "str") rfl),
    He.free_ok X G (cd.fact 45 (f := .free "tuple") rfl),
    He.free_ok X G (cd.fact 46 (f := .free "len") rfl),
    He.free_ok X G (cd.fact 47 (f := .free "enumerate") rfl),
    He.free_ok X G (cd.fact 48 (f := .free "sum") rfl),
    He.free_ok X G (cd.fact 49 (f := .free "min") rfl),
    He.free_ok X G (cd.fact 50 (f := .free "range") rfl),
    He.free_ok X G (cd.fact 51 (f := .free "all") rfl),
    He.free_ok X G (cd.fact 52 (f := .free "list") rfl),
    He.free_ok X G (cd.fact 53 (f := .free "repr") rfl)⟩
  have gS : mg "super" = none := He.free_ok X G (cd.fact 54 (f := .free "super") rfl)
  have T : Dk K (He.ga K "Desk") := ⟨He.cls_ok (cd.fact 55 (f := .cls "Desk") rfl), He.noat_ok (cd.fact 56 (f := .noat "Desk" "own_lines") rfl), He.noat_ok (cd.fact 57 (f := .noat "Desk" "own_signs") rfl), He.noat_ok (cd.fact 58 (f := .noat "Desk" "own_width") rfl), He.noat_ok (cd.fact 59 (f := .noat "Desk" "own_tariff") rfl)⟩
  have m_add_line := He.meth_ok (cd.fact 60 (f := .meth "Desk" "add_line") rfl)
  have m_tariff_told := He.meth_ok (cd.fact 61 (f := .meth "Desk" "tariff_told") rfl)
  have m_answered := He.meth_ok (cd.fact 62 (f := .meth "Desk" "answered") rfl)
  have m_say := He.meth_ok (cd.fact 63 (f := .meth "Desk" "say") rfl)
  have mk := He.mkr_ok (cd.fact 64 (f := .mkr "Desk") rfl)
  have nN := He.noat_ok (cd.fact 65 (f := .noat "BadTariff" "number") rfl)
  have eL : f = He.ga K "law" := by
    have e := hfa.symm.trans gLW
    cases e
    rfl
  subst eL
  have TO : OP PP K mg (He.ga K "OutOfPlace") := ⟨gx7, err_txt (P := PP) e2 z2 gS, no_super⟩
  have TB : BT PP K mg (He.ga K "BadTariff") := ⟨gx4, err_txt (P := PP) e1 z1 gS, nN, no_super⟩
  have XX : Exs K mg (He.ga K "BadLine") (He.ga K "BadPage") (He.ga K "BadSigns") (He.ga K "BadTariff") (He.ga K "BadTelling") (He.ga K "Nothing") (He.ga K "OutOfPlace") (He.ga K "TooGreat") := ⟨gx1, gx2, gx3, gx4, gx5, gx6, gx7, gx8, of_decide_eq_true e3, of_decide_eq_true e4⟩
  obtain ⟨pP, fdPG, FPG⟩ := page_of e5 z3
  have bPG := FPG.binds (ps := ["self"]) fun _ _ _ _ _ _ us hl => match us, hl with | [_], _ => rfl
  refine ⟨fdLW, fun s v => bA s [v] rfl, fun base hK hG => ?_⟩
  have oW : FnOk PP w K mg base CX0 1 _ fdW _ _ := ok_whole (CX := CX0) FW GM
  have oNP : FnOk PP w K mg base CX0 2 _ fdNP _ _ := ok_needPage FNP FIL bIL gIL GM
  have oNT : FnOk PP w K mg base (L2.CX PP w) 2 _ fdNT _ _ := ok_needT FNT FW bW gW GM TB
  have oCO : FnOk PP w K mg base CX0 2 _ fdCO _ _ := ok_costOf FCO FAH bAH gAH GM
  have oCS : FnOk PP w K mg base (L2.CX PP w) 3 _ fdCS _ _ := ok_cost FCS GM TO oNT FNT.kp bNT gNT oW FW.kp bW gW oCO FCO.kp bCO gCO
  have oCH : FnOk PP w K mg base (L2.CX PP w) 3 _ fdCH _ _ := ok_cheap FCH GM TO oNT FNT.kp bNT gNT oW FW.kp bW gW oCO FCO.kp bCO gCO
  have oIN : FnOk PP w K mg base CX0 1 _ fdIN _ _ := ok_int FIN GM
  have oDI : FnOk PP w K mg base CX0 1 _ fdDI _ _ := ok_dinit FDI T
  have oPG : FnOk PP w K mg base CX0 1 _ fdPG _ _ := ok_page FPG T
  have oAL : FnOk PP w K mg base CX0 3 _ fdAL _ _ := ok_addLine FAL oNP FNP.kp bNP gNP T GM
  have oTT : FnOk PP w K mg base (L2.CX PP w) 4 _ fdTT _ _ := ok_told FTT T GM oIN FIN.kp bIN gIN oNT FNT.kp bNT gNT oCS FCS.kp bCS gCS oCH FCH.kp bCH gCH
  have oAW : FnOk PP w K mg base (L2.CX PP w) 5 _ fdAW _ _ := ok_answered FAW T GM oAL m_add_line bAL oTT m_tariff_told bTT
  have oSY : FnOk PP w K mg base CX0 6 _ fdSY _ _ := ok_say FSY T GM XX oAW m_answered bAW
  have oST : FnOk PP w K mg base CX0 1 _ fdST _ _ := ok_start FST GM
  have oNX : FnOk PP w K mg base CX0 1 _ fdNX _ _ := ok_next FNX GM
  have oOF : FnOk PP w K mg base CX0 2 _ fdOF _ _ := ok_of FOF GM oNX FNX.kp bNX gNX
  have oPD : FnOk PP w K mg base CX0 1 _ fdPD _ _ := ok_paid FPD GM
  have oFR : FnOk PP w K mg base CX0 2 _ fdFR _ _ := ok_first FFR GM oPD FPD.kp bPD gPD
  have oGR : FnOk PP w K mg base CX0 3 _ fdGR _ _ := ok_great FGR GM oNX FNX.kp bNX gNX oOF FOF.kp bOF gOF
  have oTL : FnOk PP w K mg base CX0 3 _ fdTL _ _ := ok_tl FTL GM oNX FNX.kp bNX gNX oOF FOF.kp bOF gOF
  have oAN : FnOk PP w K mg base CX0 4 _ fdAN _ _ := ok_any FAN GM oNX FNX.kp bNX gNX oOF FOF.kp bOF gOF oTL FTL.kp bTL gTL oGR FGR.kp bGR gGR oPD FPD.kp bPD gPD oFR FFR.kp bFR gFR
  exact ok_law FLW T GM oST FST.kp bST gST oNX FNX.kp bNX gNX oAN FAN.kp bAN gAN mk gDesk oDI bDI m_say oSY bSY pP oPG bPG
end K94
set_option Elab.async false
set_option linter.all false
set_option maxRecDepth 100000
set_option maxHeartbeats 0
open PySem PySem.W PySem.Calls PyProof.Rows
theorem PySem.Challenge.cw_faxhouse_k94_whole_desk_of_tariffs_holds : PySem.Challenge.rw_faxhouse_k94_whole_desk_of_tariffs.Holds := by
  w_on; o_law
  refine HandSHeadRun.head_any (r := OpenLaw.row PySem.Challenge.rw_faxhouse_k94_whole_desk_of_tariffs) (q := view (OpenLaw.row PySem.Challenge.rw_faxhouse_k94_whole_desk_of_tariffs).prog [143]) (H := K94.hk) (ob := K94.ob) (M := 6000) (loose := K94.looseN) (d := HandSHeadRun.topDef (OpenLaw.row PySem.Challenge.rw_faxhouse_k94_whole_desk_of_tariffs).prog 143) (kwd := []) K94.ob_eq
    (by kernel_rfl) (fun s => by kernel_rfl) K94.run (by kernel_rfl) (by kernel_rfl) (by kernel_rfl) (by rfl) (by first | assumption | decide +kernel) (by decide +kernel) ⟨rfl, rfl, rfl, rfl, rfl, by decide +kernel⟩ ?hw ?hc
  case hw => w_witness2
  case hc =>
    refine K94.walkGE (l := PySem.Challenge.rw_faxhouse_k94_whole_desk_of_tariffs) (n := 63) (k := 7) (x := "_law_script") (CX := L2.CX0) rfl (by decide) (by kernel_rfl) ⟨rfl, by decide, by decide⟩ ?F (fun _ _ _ _ z => z)
    intro w mg fa h Y G hmg0
    obtain ⟨K, KX, c⟩ := Y
    have hmg : mg ("law" : PySem.Str) = some (.ref fa) := by
      have e : (HandSHeadRun.topDef (OpenLaw.row PySem.Challenge.rw_faxhouse_k94_whole_desk_of_tariffs).prog 143).name = ("law" : PySem.Str) := by kernel_rfl
      rw [← e]
      exact hmg0
    obtain ⟨fd, hb, hF⟩ := K94.facts (w := w) KX G hmg c
    exact ⟨K, fd, K94.spLaw K, KX, hb, fun H a ns hl hS => ⟨a, ns, rfl, hS, Nat.le_trans hl (by decide), fun _ => rfl⟩, hF⟩
