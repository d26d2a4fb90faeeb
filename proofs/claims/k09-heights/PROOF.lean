import PyProof.Rows.All
import Wide.All
import OpenK.AllK
import Wide.FinOn
import KE.KStateDown
import KE.KDictKeyed
import KE.KDictLaw
import KE.KDictDisplayH
import KE.SortData
import HandS.ForMost
import HandS.ForExc
import HandS.Defaults
import HandS.IsInst
import HandS.ExcIs
import HandS.TupLen
import HandS.Conv
import HandS.SetKeys
import HandS.SetFor
import HandS.Deep
import HandS.Style
import HandS.TupLe
import HandS.SortRule
import HandS.Flow
import HandS.Small
import HandS.More
import HandS.Evl
import HandS.TryMany
import HandS.HotCalls
import HandS.ExcCtx
import HandS.Head0
import HandS.Head1
import HandS.Head2
import HandS.HeadEnd
import HandS.HeadHook1
import HandS.HeadHook2
import HandS.HeadHook4
import KE.DatumOrd
import HandS.SortKw
import PyProof.Rows.CountFlat
import PySem.Challenge.RW_arrowties_k09_heights_and_longest
set_option Elab.async false
set_option linter.all false
set_option maxRecDepth 100000
set_option maxHeartbeats 0
namespace Ar
open PySem PySem.Spec L2
/-! ### readings of operators, by name -/
abbrev oAdd : R2 := rI0 fun i j => .int (i + j)
abbrev oSub : R2 := rI0 fun i j => .int (i - j)
abbrev oMul : R2 := rI CMul fun i j => .int (i * j)
abbrev oMod : R2 := rI (fun _ j => 0 < j) fun i j => .int (i % j)
abbrev oModN : R2 := rI (fun _ j => j ≠ 0) fun i j => .int (i.fmod j)
abbrev oDiv : R2 := rI CDiv fun i j => .int (i / j)
abbrev oDivN : R2 := rI CDivN fun i j => .int (i.fdiv j)
abbrev oPow : R2 := rI CPow fun i j => .int (i ^ j.toNat)
abbrev oNeg : V → Hp → VK → Prop := rU fun i => .int (-i)
abbrev oLt : R2 := rI0 fun i j => .bl (decide (i < j))
abbrev oLe : R2 := rI0 fun i j => .bl (decide (i ≤ j))
abbrev oGt : R2 := rI0 fun i j => .bl (decide (j < i))
abbrev oGe : R2 := rI0 fun i j => .bl (decide (j ≤ i))
abbrev oIsB : R2 := rIsB
abbrev oNotIsB : R2 := rNotB
abbrev CallT : Type := List V → Hp → VK → Prop
abbrev cLen (K : PySem.W.Frag) : CallT := fun xs H Q => ∃ p ys, xs = [.ref p] ∧ (SqL K H p ys ∨ SqT K H p ys) ∧ Q (.int ys.length) H
abbrev cList (K : PySem.W.Frag) : CallT := fun xs H Q => ∃ p ys, xs = [.ref p] ∧ (SqL K H p ys ∨ SqT K H p ys) ∧ ∀ l, H l = none → Q (.ref l) (upd H l (.lst ys))
abbrev cTuple (K : PySem.W.Frag) : CallT := fun xs H Q => ∃ p ys, xs = [.ref p] ∧ ((SqL K H p ys ∧ ∀ l, H l = none → Q (.ref l) (upd H l (.tup ys))) ∨ (SqT K H p ys ∧ Q (.ref p) H))
abbrev cListT : CallT := fun xs H Q => ∃ d kvs, xs = [V.ref d] ∧ Rd H d (.dT kvs) ∧ ∀ p bs, H p = none → IsKeys H kvs bs → Q (.ref p) (upd H p (.lst (bs.map V.ref)))
abbrev cInt1 : CallT := fun xs H Q => (∃ i, xs = [.int i] ∧ Q (.int i) H) ∨ ∃ k, xs = [.bl k] ∧ Q (.int (if k then 1 else 0)) H
abbrev cMax2 : CallT := fun xs H Q => ∃ i j, xs = [.int i, .int j] ∧ Q (.int (if j > i then j else i)) H
abbrev cMin2 : CallT := fun xs H Q => ∃ i j, xs = [.int i, .int j] ∧ Q (.int (if j < i then j else i)) H
abbrev cInsert : V → List V → Hp → VK → Prop := fun x vs H Q => ∃ (l : Addr) (xs : List V) (i : Int) (y : V), x = .ref l ∧ vs = [.int i, y] ∧ H l = some (.lst xs) ∧ xs.length < sizeLine ∧ 0 ≤ i ∧ i < 2 ^ 63 ∧ Q .non (upd H l (.lst (xs.take i.toNat ++ [y] ++ xs.drop i.toNat)))
abbrev tTru (K : PySem.W.Frag) (te : TE) : TT := fun σ H Q => te σ H fun x H' => ∃ k, TruV K x H' k ∧ Q k H'
/-! ### tuples of ints in the heap -/
/-- v is a tuple of these ints -/
def TI (H : Hp) (v : V) (ns : List Int) : Prop := ∃ t, v = .ref t ∧ H t = some (.tup (ns.map .int))
/-- the tuples stand -/
def TK (H H' : Hp) : Prop := ∀ a xs, H a = some (.tup xs) → H' a = some (.tup xs)
theorem TK.refl (H : Hp) : TK H H := fun _ _ e => e
theorem TK.trans {H H1 H2 : Hp} (a : TK H H1) (b : TK H1 H2) : TK H H2 := fun c o e => b c o (a c o e)
theorem _root_.L2.Same.tk {H H' : Hp} (e : Same H H') : TK H H' := fun a xs h => e a _ h
theorem TK.upd {H : Hp} {l : Addr} {o : HO} (h : ∀ xs, H l ≠ some (.tup xs)) : TK H (upd H l o) := fun a xs e => by
  rw [upd_ne (fun q => h xs (by rw [← q]; exact e))]
  exact e
theorem TI.mono {H H' : Hp} {v : V} {ns : List Int} (k : TK H H') (h : TI H v ns) : TI H' v ns := by
  obtain ⟨t, e, q⟩ := h
  exact ⟨t, e, k _ _ q⟩
/-- a row of tuples -/
abbrev TL (H : Hp) (xs : List V) (nss : List (List Int)) : Prop := Paired (TI H) xs nss
theorem paired_mono {α β : Type} {F G : α → β → Prop} (f : ∀ a b, F a b → G a b) : ∀ {l : List α} {m : List β}, Paired F l m → Paired G l m
  | _, _, .nil => .nil
  | _, _, .cons h t => .cons (f _ _ h) (paired_mono f t)
theorem TL.mono {H H' : Hp} {xs : List V} {nss : List (List Int)} (k : TK H H') (h : TL H xs nss) : TL H' xs nss := paired_mono (fun _ _ q => q.mono k) h
theorem paired_app {α β : Type} {F : α → β → Prop} : ∀ {l l' : List α} {m m' : List β}, Paired F l m → Paired F l' m' → Paired F (l ++ l') (m ++ m')
  | _, _, _, _, .nil, k => k
  | _, _, _, _, .cons h t, k => .cons h (paired_app t k)
theorem paired_len {α β : Type} {F : α → β → Prop} : ∀ {l : List α} {m : List β}, Paired F l m → l.length = m.length
  | _, _, .nil => rfl
  | _, _, .cons _ t => congrArg (· + 1) (paired_len t)
theorem paired_get {α β : Type} {F : α → β → Prop} : ∀ {l : List α} {m : List β} {i : Nat} {a : α}, Paired F l m → l[i]? = some a → ∃ b, m[i]? = some b ∧ F a b
  | _, _, _, _, .nil, e => by simp at e
  | _, _, 0, _, .cons h _, e => by
    simp at e
    subst e
    exact ⟨_, rfl, h⟩
  | _, _, i + 1, a, .cons _ t, e => by
    obtain ⟨b, h1, h2⟩ := paired_get (i := i) (a := a) t (by simpa using e)
    exact ⟨b, by simpa using h1, h2⟩
theorem paired_get2 {α β : Type} {F : α → β → Prop} : ∀ {l : List α} {m : List β} {i : Nat} {b : β}, Paired F l m → m[i]? = some b → ∃ a, l[i]? = some a ∧ F a b
  | _, _, _, _, .nil, e => by simp at e
  | _, _, 0, _, .cons h _, e => by
    simp at e
    subst e
    exact ⟨_, rfl, h⟩
  | _, _, i + 1, a, .cons _ t, e => by
    obtain ⟨b, h1, h2⟩ := paired_get2 (i := i) t (by simpa using e)
    exact ⟨b, by simpa using h1, h2⟩
theorem paired_zip {α β : Type} {F : α → β → Prop} : ∀ {l : List α} {m : List β}, Paired F l m → (l.zip m).map Prod.fst = l ∧ (l.zip m).map Prod.snd = m ∧ ∀ p ∈ l.zip m, F p.1 p.2
  | _, _, .nil => ⟨rfl, rfl, fun _ h => nomatch h⟩
  | _, _, .cons h t => by
    obtain ⟨h1, h2, h3⟩ := paired_zip t
    refine ⟨by simp [h1], by simp [h2], fun p hp => ?_⟩
    simp only [List.zip_cons_cons, List.mem_cons] at hp
    rcases hp with rfl | hp
    · exact h
    · exact h3 p hp
theorem paired_of {α β : Type} {F : α → β → Prop} : ∀ {zs : List (α × β)}, (∀ p ∈ zs, F p.1 p.2) → Paired F (zs.map Prod.fst) (zs.map Prod.snd)
  | [], _ => .nil
  | z :: zs, h => .cons (h z List.mem_cons_self) (paired_of fun p hp => h p (List.mem_cons_of_mem _ hp))
/-! ### heaps -/
theorem _root_.L2.Same.new {H : Hp} {p : Addr} {o : HO} (h : H p = none) : Same H (upd H p o) := fun a u e => by
  rw [upd_ne (ne_of_none e h)]
  exact e
theorem _root_.L2.Same.mut {H H' : Hp} {p : Addr} {o : HO} (e : Same H H') (h : H p = none) : Same H (upd H' p o) := fun a u q => by
  rw [upd_ne (ne_of_none q h)]
  exact e a u q
/-- a new object, its heap a letter -/
theorem all_new {H : Hp} {o : HO} {Q : Addr → Hp → Prop} (h : ∀ p H', H p = none → Same H H' → H' p = some o → Q p H') : ∀ p, H p = none → Q p (upd H p o) := fun p hp => h p _ hp (Same.new hp) upd_same
/-! ### sorted of tuples of ints -/
def rSortD (K : PySem.W.Frag) : CallT := fun vs H Q => ∃ (a : Addr) (xs : List V) (nss : List (List Int)), vs = [V.ref a] ∧ SqL K H a xs ∧ TL H xs nss ∧ (∀ ns ∈ nss, ns ≠ []) ∧
  ∀ ys mss p, TL H ys mss → mss.Perm nss → mss.Pairwise (· ≤ ·) → H p = none → Q (.ref p) (upd H p (.lst ys))
theorem dataLe_tups {β : Type} (x : β → List Int) : PySem.W.dataLe false (fun b => .tuple ((x b).map .int)) = fun p q => decide (x p ≤ x q) := by
  funext p q
  have e := congrFun (congrFun (PySem.W.dataLe_rows x) p) q
  rw [← e]
  show (!PySem.W.dataLt (.tuple ((x q).map .int)) (.tuple ((x p).map .int))) = (!PySem.W.dataLt (.list ((x q).map .int)) (.list ((x p).map .int)))
  rw [PySem.W.dataLt_tuple, PySem.W.dataLt_list]
theorem each_of_paired {α β : Type} {F : α → β → Prop} : ∀ {l : List α} {m : List β}, Paired F l m → PySem.W.EachIs F l m
  | _, _, .nil => .nil
  | _, _, .cons h t => .cons h (each_of_paired t)
theorem depth0 (ns : List Int) : (PyData.tuple (ns.map .int)).depth ≤ 1 := by
  have e := PySem.W.depth_ints ns
  simp [PyData.depth, e]
section
variable {X : Cx}
theorem reads_ti {pins : List (Addr × Obj)} {s : Shared} {σ : St} {H : Hp} {v : V} {u : Value} {ns : List Int} (I : Inv X pins σ H s) (r : RelV v u) (h : TI H v ns) : ∃ as, Reads s.heap u (.tuple (ns.map .int)) as := by
  obtain ⟨t, rfl, ht⟩ := h
  have all : ∀ l : List Int, DpAll X.K H (l.map V.int) (l.map PyData.int) := fun l => by
    induction l with
    | nil => exact .nil
    | cons a l ih => exact .cons (.int a) ih
  exact Dp.reads I _ _ _ (Dp.tup (SqT.of ht) (all ns)) r
theorem each_map_fst {α β γ : Type} {R : α → γ → Prop} {S : α → β × γ → Prop} : ∀ {l : List α} {m : List (β × γ)}, PySem.W.EachIs S l m → (∀ a b, S a b → R a b.2) → PySem.W.EachIs R l (m.map Prod.snd)
  | _, _, .nil, _ => .nil
  | _, _, .cons h t, f => .cons (f _ _ h) (each_map_fst t f)
theorem cr_sortD (hu : X.A.units + 66 < cLine) : CallR X (.builtin "sorted") (rSortD X.K) := by
  intro pins s σ H vs us Q I r h
  obtain ⟨a, xs, nss, rfl, hs, ht, hne, q⟩ := h
  obtain ⟨its, rv, hl, hz⟩ := I.list hs
  obtain ⟨u, rfl, ru⟩ := vals1 r
  obtain rfl : u = Value.ref a := ru
  have z := paired_zip ht
  have e1 : PySem.W.EachIs (fun (u : Value) (b : V × List Int) => RelV b.1 u ∧ TI H b.1 b.2) its (xs.zip nss) := by
    clear hs hl hz z q hne
    induction ht generalizing its with
    | nil =>
      cases rv
      exact .nil
    | cons h t ih =>
      cases rv with
      | cons r rr => exact .cons ⟨r, h⟩ (ih _ rr)
  have hb : (xs.zip nss).length = xs.length := by rw [← z.1, List.length_map] <;> simp [z.1]
  refine PySem.W.sorted_data (enc := fun b : V × List Int => .tuple (b.2.map .int)) hl.isList e1 (e1.mono fun u b w => reads_ti I w.1 w.2) (PySem.W.AllAlike.of fun b b' => PySem.W.alike_ints _ _) ?_ (by rw [hb]; exact hz) (fun b _ => ?_) fun out ho eo => ?_
  · left
    intro d hd
    obtain ⟨b, hb, rfl⟩ := List.mem_map.mp hd
    have hm : b.2 ∈ nss := by
      rw [← z.2.1]
      exact List.mem_map.mpr ⟨b, hb, rfl⟩
    cases hq : b.2 with
    | nil => exact absurd hq (hne _ hm)
    | cons x l => exact ⟨_, _, rfl⟩
  · have := depth0 b.2
    show X.A.units + 2 + _ < _
    omega
  · have hp := List.mergeSort_perm (xs.zip nss) (PySem.W.dataLe false fun b : V × List Int => .tuple (b.2.map .int))
    have hw : ((xs.zip nss).mergeSort (PySem.W.dataLe false fun b : V × List Int => .tuple (b.2.map .int))).Pairwise fun p q => p.2 ≤ q.2 := by
      rw [dataLe_tups]
      refine (List.pairwise_mergeSort (le := fun (p q : V × List Int) => decide (p.2 ≤ q.2)) (fun a b c h1 h2 => ?_) (fun a b => ?_) _).imp fun h => of_decide_eq_true h
      · exact decide_eq_true (List.le_trans (of_decide_eq_true h1) (of_decide_eq_true h2))
      · rcases List.le_total a.2 b.2 with h | h
        · simp [h]
        · simp [h]
    generalize hS : (xs.zip nss).mergeSort (PySem.W.dataLe false fun b : V × List Int => .tuple (b.2.map .int)) = S at hp hw eo
    have rv2 : Vals (S.map Prod.fst) out := by
      clear hw hp ho hS
      induction eo with
      | nil => exact .nil
      | cons h t ih => exact .cons h.1 ih
    have tl : TL H (S.map Prod.fst) (S.map Prod.snd) := paired_of fun p hp' => z.2.2 p (hp.mem_iff.mp hp')
    obtain ⟨c, hc⟩ := PyProof.Rows.sortedAll_at s.heap its out.toArray
    have hlen : (S.map Prod.fst).length = xs.length := by rw [List.length_map, hp.length_eq, hb]
    refine ⟨.ref (s.heap.objs.size + 1), upd H (s.heap.objs.size + 1) (.lst (S.map Prod.fst)), I.laid (t' := s.toks) (fun b ob e => PyProof.Rows.sortedAll_old e) (Nat.le_succ _) ⟨by rw [hlen]; exact hz, out, c, rv2, hc⟩, rfl, q _ _ _ tl ?_ ?_ (I.hok.fresh (Nat.le_succ _))⟩
    · have := hp.map Prod.snd
      rw [z.2.1] at this
      exact this
    · exact List.pairwise_map.mpr hw
end
end Ar
namespace Ar
open PySem PySem.Spec L2
/-! ### xs[::2] -/
theorem sliceRange_sub {α : Type} (xs : List α) (step : Nat) (hs : 0 < step) : ∀ n start : Nat, ((List.range n).filterMap fun k => xs[start + step * k]?).Sublist (xs.drop start) := by
  intro n
  induction n with
  | zero => intro start; simp
  | succ n ih =>
    intro start
    rw [List.range_succ_eq_map, List.filterMap_cons, List.filterMap_map]
    have e : (fun k => xs[start + step * k]?) ∘ Nat.succ = fun k => xs[(start + step) + step * k]? := by
      funext k
      show xs[start + step * (k + 1)]? = _
      congr 1
      rw [Nat.mul_add, Nat.mul_one]
      omega
    rw [e]
    have h1 := ih (start + step)
    have h2 : (xs.drop (start + step)).Sublist (xs.drop (start + 1)) := by
      have : start + step = start + 1 + (step - 1) := by omega
      rw [this, ← List.drop_drop]
      exact List.drop_sublist _ _
    rw [Nat.mul_zero, Nat.add_zero]
    cases hx : xs[start]? with
    | none => exact (h1.trans h2).trans (by
        have : start + 1 = start + 1 := rfl
        rw [← List.drop_drop]
        exact List.drop_sublist _ _)
    | some x =>
      obtain ⟨hl, hx'⟩ := List.getElem?_eq_some_iff.mp hx
      rw [List.drop_eq_getElem_cons hl, hx']
      exact (h1.trans h2).cons_cons x
theorem slicePick2_sub (its : List Value) : (slicePick its.toArray none none (some 2)).toList.Sublist its := by
  have h := sliceRange_sub its 2 (by decide) (((its.length : Int) - 0 + 2 - 1) / 2).toNat 0
  unfold slicePick
  have e1 : sliceBounds none none (some 2) its.toArray.size = (0, (its.length : Int), 2) := by
    simp [sliceBounds]
  rw [e1]
  show (((sliceRange 0 (its.length : Int) 2).filterMap fun x => its.toArray[x]?).toArray.toList).Sublist its
  rw [List.toList_toArray]
  by_cases h0 : its.length = 0
  · have : its = [] := List.length_eq_zero_iff.mp h0
    subst this
    unfold sliceRange
    simp
  · have e2 : sliceRange 0 (its.length : Int) 2 = (List.range (((its.length : Int) - 0 + 2 - 1) / 2).toNat).map fun k => 0 + 2 * k := by
      unfold sliceRange
      have p1 : (2 : Int) > 0 := by decide
      have p2 : (0 : Int) < (its.length : Int) := by omega
      simp only [p1, if_true, p2]
      apply List.map_congr_left
      intro k _
      omega
    rw [e2, List.filterMap_map]
    have e3 : ((fun x => its.toArray[x]?) ∘ fun k => 0 + 2 * k) = fun k => its[0 + 2 * k]? := by
      funext k
      simp
    rw [e3]
    simpa using h
theorem vals_sub : ∀ {us vs : List Value} {xs : List V}, Vals xs vs → us.Sublist vs → ∃ ys, ys.Sublist xs ∧ Vals ys us
  | _, _, _, .nil, h => by
    cases h
    exact ⟨[], .slnil, .nil⟩
  | _, _, _, .cons r t, h => by
    cases h with
    | cons _ h =>
      obtain ⟨ys, h1, h2⟩ := vals_sub t h
      exact ⟨ys, h1.cons _, h2⟩
    | cons_cons _ h =>
      obtain ⟨ys, h1, h2⟩ := vals_sub t h
      exact ⟨_ :: ys, h1.cons_cons _, .cons r h2⟩
def tSlStep (K : PySem.W.Frag) (te : TE) (_ : Nat) : TE := fun σ H Q => te σ H fun x H1 => ∃ a xs, x = .ref a ∧ SqL K H1 a xs ∧ ∀ p ys, H1 p = none → ys.Sublist xs → Q (.ref p) (upd H1 p (.lst ys))
section
variable {X : Cx}
theorem pe_slstep2 {e : Expr} {te : TE} {k : Nat} {p1 p3 pos : Pos} (he : PE X e te) : PE X (.Subscript e (.Slice none none (some (.Constant (.int 2) k p1)) p3) pos) (tSlStep X.K te 2) := by
  refine ⟨fun pn s0 σ0 H0 Q0 I0 h0 => PyProof.Rows.Subscript_ (thn (he.run pn s0 σ0 H0 _ I0 h0) fun v s1 w1 => ?_)⟩
  obtain ⟨x, H1, I1, r1, a, xs, ex, hx, q⟩ := w1
  subst ex
  cases r1
  have st : PO X (some (.Constant (.int 2) k p1)) (tPart (tC (.int 2))) := po_some pe_int
  refine wpAny_Slice (thn (po_none.run pn s1 σ0 H1 (fun o G => o = none ∧ G = H1) I1 ⟨rfl, rfl⟩) fun vl s2 w2 => ?_)
  obtain ⟨l, G2, I2, pl, el, e2⟩ := w2
  subst el e2
  refine thn (po_none.run pn s2 σ0 G2 (fun o G => o = none ∧ G = G2) I2 ⟨rfl, rfl⟩) fun vu s3 w3 => ?_
  obtain ⟨u, G3, I3, pu, eu, e3⟩ := w3
  subst eu e3
  refine thn (st.run pn s3 σ0 G3 (fun o G => o = some 2 ∧ G = G3) I3 ⟨2, rfl, rfl, rfl⟩) fun vs s4 w4 => ?_
  obtain ⟨o, G4, I4, ps, eo, e4⟩ := w4
  subst eo e4
  have I5 : Inv X pn σ0 G4 { s4 with heap := s4.heap.push { cls := .type "slice", data := .fields #[vl, vu, vs] } } := I4.kept (t' := s4.toks) fun _ _ z => Heap.get?_push_of_some _ z
  obtain ⟨its, rv, ht, hz⟩ := I5.list hx
  obtain ⟨ys, hys, rvy⟩ := vals_sub rv (slicePick2_sub its)
  show wpAny (model X.prog X.w) X.A (PyProof.Rows.subscriptTail e (.Slice none none (some (.Constant (.int 2) k p1)) p3) (.ref a) (.ref s4.heap.objs.size)) (EP X pn σ0 Q0) X.xe { s4 with heap := s4.heap.push { cls := .type "slice", data := .fields #[vl, vu, vs] } }
  refine PyProof.Rows.tail_any (ops := [.ref a, .ref s4.heap.objs.size]) ht.isList.typeIs PySem.slot_list_getitem.lookup ?_ (by with_unfolding_all rfl)
  have lz := rv.length
  refine wpAny_getItem_list_slice ht.isList (Heap.IsSliceOf.new _ vl vu vs) pl pu ps (by decide) ?_ (by rw [List.size_toArray]; omega)
  refine ⟨.ref _, _, I5.laid (t' := s4.toks) (o := .lst ys) (fun _ _ z => Heap.get?_push_of_some _ z) (Nat.le_refl _) ?_, rfl, q _ ys (I5.hok.fresh (Nat.le_refl _)) hys⟩
  refine ⟨Nat.le_trans hys.length_le hz, _, 0, rvy, ?_⟩
  have := Heap.get?_push_size (s4.heap.push { cls := .type "slice", data := .fields #[vl, vu, vs] }) (o := { cls := .type "list", data := .seq (slicePick its.toArray none none (some 2)) }) rfl
  simpa using this
theorem m2 {o e f : Expr} {m : Str} {apos cpos : Pos} (h1 : attributeBase o m X.env (eval o X.env) = eval o X.env := by rfl) (h2 : ((backTo cpos (starEach [e, f] X.env)).all (fun x => !x.1) && (backToKw cpos (keywordEach [] X.env)).all (fun x => x.1.isSome)
    && decide (([e, f] : List Expr).length + ([] : List Keyword).length + (if ([] : List Keyword).isEmpty then 0 else 1) < 30)) = true := by rfl) (h3 : (apos.endLine == cpos.line) = true := by rfl) (h4 : backTo cpos (starEach [e, f] X.env) = [(false, eval e X.env), (false, eval f X.env)] := by rfl) : M2 X o m apos e f cpos := ⟨h1, h2, h3, h4⟩
end
/-! ### defs by their names -/
def fdOf (K : PySem.W.Frag) (p : Str × Option Str) : FuncData := match K.lookup (He.fAd K p) with
  | some ⟨_, _, .func fd, _⟩ => fd
  | _ => PySem.W.fnOf "" "" ⟨[], [], none, [], [], none, []⟩ [] ⟨.function, [], false, false, []⟩ .none .none .none .none none .none .none
theorem funD_at {K : PySem.W.Frag} {x q : Str} {pa : Arguments} {bd : List Stmt} {sc : Scope} {dvs : List V} {kws : List (Str × V)} {p : Str × Option Str} (h : ∃ fd, FunD K x q pa bd sc dvs kws (He.fAd K p) fd) : FunD K x q pa bd sc dvs kws (He.fAd K p) (fdOf K p) := by
  obtain ⟨fd, F⟩ := h
  obtain ⟨oc, od, dV, kV, doc, pm, an, cdv, ct, osl, e, lk, r⟩ := F.ex
  have z : fdOf K p = fd := by
    unfold fdOf
    rw [lk]
  rw [z]
  exact F
theorem fn_never {P : Program} {w : World} {K : PySem.W.Frag} {mg : Str → Option Value} {base : Heap} {CX : CXT} {k : Nat} {f : Addr} {fd : FuncData} {ps : List Str} {sp : Sp} (h : ∀ {vs H Q E}, sp vs H Q E → False) : FnOk P w K mg base CX k f fd ps sp :=
  ⟨fun _ _ _ _ z => (h z).elim, fun _ _ _ _ _ _ _ _ _ _ _ _ _ z => (h z).elim⟩
theorem hu65_of {A : Around} {k : Nat} (hr : Room k A) : A.units + 65 < cLine := by have := hr.un; omega
theorem hu66_of {A : Around} {k : Nat} (hr : Room k A) : A.units + 66 < cLine := by have := hr.un; omega
end Ar
namespace Ar
open PySem PySem.Spec L2
/-! ### tests -/
theorem iteD {c : Prop} [Decidable c] {A B : Prop} (h1 : c → A) (h2 : ¬ c → B) : if (decide c) = true then A else B := by
  by_cases h : c
  · rw [decide_eq_true h]; exact iteT (h1 h)
  · rw [decide_eq_false h]; exact iteF (h2 h)
theorem iteDn {c : Prop} [Decidable c] {A B : Prop} (h1 : ¬ c → A) (h2 : c → B) : if (!decide c) = true then A else B := by
  by_cases h : c
  · rw [decide_eq_true h]; exact iteF (h2 h)
  · rw [decide_eq_false h]; exact iteT (h1 h)
theorem iteB {b : Bool} {A B : Prop} (h1 : b = true → A) (h2 : b = false → B) : if b = true then A else B := by
  cases b with
  | true => exact iteT (h1 rfl)
  | false => exact iteF (h2 rfl)
theorem iteBn {b : Bool} {A B : Prop} (h1 : b = false → A) (h2 : b = true → B) : if (!b) = true then A else B := by
  cases b with
  | true => exact iteF (h2 rfl)
  | false => exact iteT (h1 rfl)
theorem iteE {a b : Int} {A B : Prop} (h1 : a = b → A) (h2 : a ≠ b → B) : if (decide (V.int a = V.int b)) = true then A else B := iteD (fun h => h1 (V.int.inj h)) fun h => h2 fun e => h (by rw [e])
theorem iteEn {a b : Int} {A B : Prop} (h1 : a ≠ b → A) (h2 : a = b → B) : if (!decide (V.int a = V.int b)) = true then A else B := iteDn (fun h => h1 fun e => h (by rw [e])) fun h => h2 (V.int.inj h)
theorem iteTr {b : Bool} {A B : Prop} (hb : b = true) (h : A) : if b = true then A else B := by rw [hb]; exact iteT h
theorem iteFa {b : Bool} {A B : Prop} (hb : b = false) (h : B) : if b = true then A else B := by rw [hb]; exact iteF h
theorem decV {a b : Int} : decide (V.int a = V.int b) = decide (a = b) := by
  by_cases h : a = b
  · rw [decide_eq_true h, decide_eq_true (by rw [h])]
  · rw [decide_eq_false h, decide_eq_false (fun e => h (V.int.inj e))]
/-! ### isinstance of built-in classes -/
theorem isi_ty {K : PySem.W.Frag} {H : Hp} {x : V} {a b : String} {r : Bool} {Q : VK} (h : TyX K H x (.type a)) (hb : kitB a b = some r) (q : Q (.bl r) H) : rIsi K [x, .ty b] H Q := ⟨_, _, _, _, _, rfl, .ty _, h, kit_ty hb, q⟩
theorem isi_ii {K : PySem.W.Frag} {H : Hp} {i : Int} {Q : VK} (q : Q (.bl true) H) : rIsi K [.int i, .ty "int"] H Q := isi_ty (.base (.int _)) (by decide +kernel) q
theorem isi_ib {K : PySem.W.Frag} {H : Hp} {i : Int} {Q : VK} (q : Q (.bl false) H) : rIsi K [.int i, .ty "bool"] H Q := isi_ty (.base (.int _)) (by decide +kernel) q
theorem isi_bb {K : PySem.W.Frag} {H : Hp} {i : Bool} {Q : VK} (q : Q (.bl true) H) : rIsi K [.bl i, .ty "bool"] H Q := isi_ty (.base (.bl _)) (by decide +kernel) q
theorem isi_it {K : PySem.W.Frag} {H : Hp} {i : Int} {Q : VK} (q : Q (.bl false) H) : rIsi K [.int i, .ty "tuple"] H Q := isi_ty (.base (.int _)) (by decide +kernel) q
theorem isi_tt {K : PySem.W.Frag} {H : Hp} {a : Addr} {xs : List V} {Q : VK} (h : H a = some (.tup xs)) (q : Q (.bl true) H) : rIsi K [.ref a, .ty "tuple"] H Q := isi_ty (.base (.tup h)) (by decide +kernel) q
theorem isi_ll {K : PySem.W.Frag} {H : Hp} {a : Addr} {xs : List V} {Q : VK} (h : H a = some (.lst xs)) (q : Q (.bl true) H) : rIsi K [.ref a, .ty "list"] H Q := isi_ty (.base (.lst h)) (by decide +kernel) q
theorem isi_tb {K : PySem.W.Frag} {H : Hp} {a : Addr} {xs : List V} {Q : VK} (h : H a = some (.tup xs)) (q : Q (.bl false) H) : rIsi K [.ref a, .ty "bool"] H Q := isi_ty (.base (.tup h)) (by decide +kernel) q
theorem isi_lb {K : PySem.W.Frag} {H : Hp} {a : Addr} {xs : List V} {Q : VK} (h : H a = some (.lst xs)) (q : Q (.bl false) H) : rIsi K [.ref a, .ty "bool"] H Q := isi_ty (.base (.lst h)) (by decide +kernel) q
theorem isi_lt {K : PySem.W.Frag} {H : Hp} {a : Addr} {xs : List V} {Q : VK} (h : H a = some (.lst xs)) (q : Q (.bl false) H) : rIsi K [.ref a, .ty "tuple"] H Q := isi_ty (.base (.lst h)) (by decide +kernel) q
/-! ### tuples of ints as data -/
def dI (ns : List Int) : PyData := .tuple (ns.map .int)
theorem canLay_ints : ∀ ns : List Int, PyData.canLayAll0 (ns.map .int) = true
  | [] => rfl
  | n :: ns => by
    have := canLay_ints ns
    simp [PyData.canLayAll0, PyData.canLay0, this]
theorem canLay_dI (ns : List Int) : PyData.canLay0 (dI ns) = true := by
  have := canLay_ints ns
  simp [dI, PyData.canLay0, this]
theorem depth_dI (ns : List Int) : (dI ns).depth = 1 := by
  have := PySem.W.depth_ints ns
  simp [dI, PyData.depth, this]
theorem canLay_dIs : ∀ nss : List (List Int), PyData.canLayAll0 (nss.map dI) = true
  | [] => rfl
  | n :: ns => by
    have := canLay_dIs ns
    simp [PyData.canLayAll0, canLay_dI, this]
theorem depth_dIs : ∀ nss : List (List Int), PyData.depthAll (nss.map dI) ≤ 1
  | [] => by simp [PyData.depthAll]
  | n :: ns => by
    have := depth_dIs ns
    simp [PyData.depthAll, depth_dI, this]
theorem shaped_dI (ns : List Int) : SeqAt.shaped (dI ns) = true := by
  unfold SeqAt.shaped
  rw [canLay_dI, depth_dI] <;> rfl
theorem shaped_dIs (nss : List (List Int)) : SeqAt.shaped (.list (nss.map dI)) = true := by
  unfold SeqAt.shaped
  have h1 := canLay_dIs nss
  have h2 := depth_dIs nss
  have h3 : (PyData.list (nss.map dI)).depth ≤ 64 := by simp only [PyData.depth]; omega
  have h4 : (PyData.list (nss.map dI)).canLay0 = true := by simp [PyData.canLay0, h1]
  rw [h4, decide_eq_true h3] <;> rfl
theorem shaped_ints (ns : List Int) : SeqAt.shaped (.list (ns.map .int)) = true := by
  unfold SeqAt.shaped
  have h1 := canLay_ints ns
  have h2 := PySem.W.depth_ints ns
  have h3 : (PyData.list (ns.map .int)).depth ≤ 64 := by simp [PyData.depth, h2]
  have h4 : (PyData.list (ns.map .int)).canLay0 = true := by simp [PyData.canLay0, h1]
  rw [h4, decide_eq_true h3] <;> rfl
theorem eqv_ints : ∀ ns ms : List Int, PyData.eqvAll (ns.map .int) (ms.map .int) = decide (ns = ms)
  | [], [] => rfl
  | [], _ :: _ => rfl
  | _ :: _, [] => rfl
  | n :: ns, m :: ms => by
    have ih := eqv_ints ns ms
    show (PyData.eqv (.int n) (.int m) && PyData.eqvAll (ns.map .int) (ms.map .int)) = _
    rw [ih]
    show ((n == m) && decide (ns = ms)) = decide (n :: ns = m :: ms)
    by_cases h1 : n = m <;> by_cases h2 : ns = ms <;> simp [h1, h2]
theorem eqv_dI (ns ms : List Int) : PyData.eqv (dI ns) (dI ms) = decide (ns = ms) := eqv_ints ns ms
theorem eqv_dIs : ∀ ns ms : List (List Int), PyData.eqvAll (ns.map dI) (ms.map dI) = decide (ns = ms)
  | [], [] => rfl
  | [], _ :: _ => rfl
  | _ :: _, [] => rfl
  | n :: ns, m :: ms => by
    have ih := eqv_dIs ns ms
    show (PyData.eqv (dI n) (dI m) && PyData.eqvAll (ns.map dI) (ms.map dI)) = _
    rw [ih, eqv_dI]
    by_cases h1 : n = m <;> by_cases h2 : ns = ms <;> simp [h1, h2]
theorem eqv_lI (ns ms : List (List Int)) : PyData.eqv (.list (ns.map dI)) (.list (ms.map dI)) = decide (ns = ms) := eqv_dIs ns ms
theorem eqv_li (ns ms : List Int) : PyData.eqv (.list (ns.map .int)) (.list (ms.map .int)) = decide (ns = ms) := eqv_ints ns ms
theorem any_dI (nss : List (List Int)) (ms : List Int) : ((nss.map dI).any fun z => PyData.eqv z (dI ms)) = decide (ms ∈ nss) := by
  rw [List.any_map]
  have e : ((fun z => PyData.eqv z (dI ms)) ∘ dI) = fun ns => decide (ns = ms) := by
    funext ns
    exact eqv_dI ns ms
  rw [e]
  by_cases h : ms ∈ nss
  · rw [decide_eq_true h]
    exact List.any_eq_true.mpr ⟨ms, h, by simp⟩
  · rw [decide_eq_false h]
    refine Bool.eq_false_iff.mpr fun q => ?_
    obtain ⟨x, hx, hq⟩ := List.any_eq_true.mp q
    exact h (of_decide_eq_true hq ▸ hx)
section
variable {K : PySem.W.Frag} {H : Hp}
theorem dpAll_ints : ∀ l : List Int, DpAll K H (l.map V.int) (l.map PyData.int)
  | [] => .nil
  | a :: l => .cons (.int a) (dpAll_ints l)
theorem dp_ti {v : V} {ns : List Int} (h : TI H v ns) : Dp K H v (dI ns) := by
  obtain ⟨t, rfl, ht⟩ := h
  exact .tup (SqT.of ht) (dpAll_ints ns)
theorem dpAll_tl {xs : List V} {nss : List (List Int)} (h : TL H xs nss) : DpAll K H xs (nss.map dI) := by
  induction h with
  | nil => exact .nil
  | cons h t ih => exact .cons (dp_ti h) ih
theorem dp_tl {a : Addr} {xs : List V} {nss : List (List Int)} (hs : SqL K H a xs) (h : TL H xs nss) : Dp K H (.ref a) (.list (nss.map dI)) := .lst hs (dpAll_tl h)
theorem dp_il {a : Addr} {ns : List Int} (hs : SqL K H a (ns.map V.int)) : Dp K H (.ref a) (.list (ns.map .int)) := .lst hs (dpAll_ints ns)
end
theorem lin {n : Nat} (h : n ≤ 16000000) : n ≤ sizeLine := Nat.le_trans h (by decide)
theorem lin' {n : Nat} (h : n < 16000000) : n < sizeLine := Nat.lt_of_lt_of_le h (by decide)
end Ar
namespace Ar
open PySem PySem.Spec L2
theorem _root_.L2.Same.of_eq {H H1 : Hp} {p : Addr} {o : HO} (e : upd H p o = H1) (h : H p = none) : Same H H1 := by
  rw [← e]
  exact Same.new h
theorem new_at {H H1 : Hp} {p : Addr} {o : HO} (e : upd H p o = H1) : H1 p = some o := by
  rw [← e]
  exact upd_same
end Ar
namespace Ar
open PySem PySem.Spec L2
theorem sz0 : ([] : List V).length ≤ sizeLine := by decide
theorem sz1 {a : V} : [a].length ≤ sizeLine := by show 1 ≤ sizeLine; decide
theorem sz2 {a b : V} : [a, b].length ≤ sizeLine := by show 2 ≤ sizeLine; decide
theorem sz3 {a b c : V} : [a, b, c].length ≤ sizeLine := by show 3 ≤ sizeLine; decide
end Ar
namespace Ar
open PySem PySem.Spec L2
theorem ti2 {H : Hp} {t : Addr} {a b : Int} (e : H t = some (.tup [.int a, .int b])) : TI H (.ref t) [a, b] := ⟨t, rfl, e⟩
theorem ti3 {H : Hp} {t : Addr} {a b c : Int} (e : H t = some (.tup [.int a, .int b, .int c])) : TI H (.ref t) [a, b, c] := ⟨t, rfl, e⟩
/-- a row, by its last item -/
theorem snoc_ind {α : Type} {P : List α → Prop} (h0 : P []) (h1 : ∀ l a, P l → P (l ++ [a])) (l : List α) : P l := by
  have : ∀ m : List α, P m.reverse := fun m => by
    induction m with
    | nil => exact h0
    | cons a m ih =>
      rw [List.reverse_cons]
      exact h1 _ _ ih
  have := this l.reverse
  rwa [List.reverse_reverse] at this
end Ar
namespace Ar
open PySem PySem.Spec L2
/-- for x in range(n): the turn's number as it stands -/
theorem for_n {n : Nat} {g : TG} {tb : TS} {D : Ends} {σ : L2.St} {H : Hp} (Pv : Nat → L2.St → Hp → Prop) (h0 : Pv 0 σ H)
    (hs : ∀ (i : Nat) σ H, i < n → Pv i σ H → g (.int (i : Int)) σ H fun σ2 H2 => tb { D with nx := Pv (i + 1), ct := Pv (i + 1), bk := D.nx } σ2 H2) (hd : ∀ σ H, Pv n σ H → D.nx σ H) :
    ∃ W : Nat → Nat → L2.St → Hp → Prop, (∃ m, W 0 m σ H) ∧ ∀ i m σ H, W i m σ H → ((Itr 0 n).stop i H ∧ D.nx σ H) ∨
      ((Itr 0 n).go i H ∧ ∃ N : L2.St → Hp → Prop, (∀ σ' H', N σ' H' → ∃ m', m' < m ∧ W (i + 1) m' σ' H') ∧ ∀ x H', (Itr 0 n).yld i H x H' → g x σ H' fun σ2 H2 => tb { D with nx := N, ct := N, bk := D.nx } σ2 H2) :=
  for_range (lo := 0) (n := n) Pv h0 (fun i σ H hi p => by rw [Int.zero_add]; exact hs i σ H hi p) hd
/-- for x in range(lo, hi) -/
theorem for_m {lo n : Nat} {g : TG} {tb : TS} {D : Ends} {σ : L2.St} {H : Hp} (Pv : Nat → L2.St → Hp → Prop) (h0 : Pv lo σ H)
    (hs : ∀ (i : Nat) σ H, lo ≤ i → i < n → Pv i σ H → g (.int (i : Int)) σ H fun σ2 H2 => tb { D with nx := Pv (i + 1), ct := Pv (i + 1), bk := D.nx } σ2 H2) (hd : ∀ σ H, Pv (max lo n) σ H → D.nx σ H) {k : Nat} (hk : k = n - lo) {lo' : Int} (hl : lo' = lo) :
    ∃ W : Nat → Nat → L2.St → Hp → Prop, (∃ m, W 0 m σ H) ∧ ∀ i m σ H, W i m σ H → ((Itr lo' k).stop i H ∧ D.nx σ H) ∨
      ((Itr lo' k).go i H ∧ ∃ N : L2.St → Hp → Prop, (∀ σ' H', N σ' H' → ∃ m', m' < m ∧ W (i + 1) m' σ' H') ∧ ∀ x H', (Itr lo' k).yld i H x H' → g x σ H' fun σ2 H2 => tb { D with nx := N, ct := N, bk := D.nx } σ2 H2) := by
  subst hk hl
  refine for_range (lo := (lo : Int)) (n := n - lo) (fun i => Pv (lo + i)) h0 (fun i σ H hi p => ?_) (fun σ H p => ?_)
  · have e : (lo : Int) + (i : Int) = ((lo + i : Nat) : Int) := by omega
    rw [e]
    exact hs (lo + i) σ H (by omega) (by omega) p
  · refine hd σ H ?_
    have e : lo + (n - lo) = max lo n := by omega
    rw [← e]
    exact p
end Ar
namespace Ar
open PySem PySem.Spec L2
/-- raise C('..') -/
def tRaise (c : Addr) (E : XK) : TS := fun _ _ H => E (.ref c) none H
end Ar
namespace Ar
open PySem PySem.Spec L2
theorem szn {l : List V} (n : Nat) (h : l.length = n) (h2 : n ≤ 16000000 := by decide) : l.length ≤ sizeLine := by rw [h]; exact lin h2
theorem at0 {v : V} {l : List V} : atI (v :: l) 0 = some v := at_of (j := 0) rfl rfl
theorem at1 {u v : V} {l : List V} : atI (u :: v :: l) 1 = some v := at_of (j := 1) rfl rfl
theorem get_ints {fs : List Int} {i : Nat} (h : i < fs.length) : (fs.map V.int)[i]? = some (.int (fs.getD i 0)) := by
  rw [List.getElem?_map]
  simp [h]
end Ar
namespace Ar
open PySem PySem.Spec L2
theorem nodup_mapOn' {α β : Type} {f : α → β} : ∀ {l : List α}, l.Nodup → (∀ a ∈ l, ∀ b ∈ l, f a = f b → a = b) → (l.map f).Nodup
  | [], _, _ => .nil
  | a :: l, h, i => by
    obtain ⟨h1, h2⟩ := List.nodup_cons.mp h
    refine List.nodup_cons.mpr ⟨fun m => ?_, nodup_mapOn' h2 fun x hx y hy => i x (List.mem_cons_of_mem _ hx) y (List.mem_cons_of_mem _ hy)⟩
    obtain ⟨b, hb, e⟩ := List.mem_map.mp m
    have := i b (List.mem_cons_of_mem _ hb) a List.mem_cons_self e
    exact h1 (this ▸ hb)
theorem paired_take {α β : Type} {F : α → β → Prop} : ∀ (n : Nat) {l : List α} {m : List β}, Paired F l m → Paired F (l.take n) (m.take n)
  | 0, _, _, _ => by simp; exact .nil
  | _ + 1, _, _, .nil => by simp; exact .nil
  | n + 1, _, _, .cons h t => .cons h (paired_take n t)
theorem paired_drop {α β : Type} {F : α → β → Prop} : ∀ (n : Nat) {l : List α} {m : List β}, Paired F l m → Paired F (l.drop n) (m.drop n)
  | 0, _, _, h => h
  | _ + 1, _, _, .nil => .nil
  | n + 1, _, _, .cons _ t => paired_drop n t
end Ar
namespace Ar
open PySem PySem.Spec L2
/-! ### {t: v}, the key a tuple -/
def tDisp1 (tk tv : TE) : TE := fun σ H Q => ∀ p, H p = none → tk σ (upd H p (.dT [])) fun x H1 => tv σ H1 fun y H2 => H2 p = some (.dT []) ∧ ∃ b k, x = .ref b ∧ H2 b = some (.tup (k.map kV)) ∧ Q (.ref p) (upd H2 p (.dT [(k, y)]))
section
variable {X : Cx}
theorem pe_disp1 {k v : Expr} {tk tv : TE} {pos : Pos} (hu : X.A.units + 1 < cLine) (hk : PE X k tk) (hv : PE X v tv) : PE X (.Dict [some k] [v] pos) (tDisp1 tk tv) := by
  refine ⟨fun pins s σ H Q I q => ?_⟩
  have nw := I.hok.fresh (Nat.le_refl s.heap.objs.size)
  have J := I.laid (a := s.heap.objs.size) (o := .dT []) (h' := s.heap.push { cls := .type "dict", data := .dict #[] }) (t' := s.toks) (fun _ _ q => Heap.get?_push_of_some _ q) (Nat.le_refl _) (dt_empty s.heap I.big)
  have sh := zip_pairTrees [some k] [v] X.env pos rfl rfl
  have ro : (tupleKind (mixKind X.prog X.w)).room X.A := by
    show X.A.units < cLine
    omega
  have ne : pairTrees [some k] [v] X.env pos ≠ [] := fun z => by
    have := pairTrees_length [some k] [v] X.env pos rfl rfl
    rw [z] at this
    cases this
  have le : (pairTrees [some k] [v] X.env pos).length ≤ 15 := by
    rw [pairTrees_length [some k] [v] X.env pos rfl rfl]
    show 1 ≤ 15
    decide
  rw [arm_eval_Dict, sh, dictDisplay_pairs _ ne (by omega)]
  refine wpAny_bind (wpAny_standAt (wpAny_bind (wpAny_subDictH (knd := tupleKind (mixKind X.prog X.w)) (Q := fun d s' => wpAny (model X.prog X.w) X.A (pure (Value.ref d)) (EP X pins σ Q) X.xe s') ro le ?_)))
  refine pairTrees_cons_walk (thn (hk.run pins _ σ _ _ J (q _ nw)) fun u s1 ⟨x, H1, I1, rx, q1⟩ => thn (hv.run pins s1 σ H1 _ I1 q1) fun v' s2 ⟨y, H2, I2, ry, e, b, ky, ex, eb, q2⟩ => pairTrees_nil_walk ?_)
  subst ex
  cases (show u = Value.ref b from rx)
  obtain ⟨z, hd, xs0, r0, dd⟩ := dt_of I2.hok e
  cases r0
  refine ⟨[(ky, b, v')], ⟨rfl, rfl, key_of I2.hok eb, trivial⟩, dd, fun h' tk' dd' hs => wpAny_pure ⟨.ref s.heap.objs.size, _, ?_, rfl, q2⟩⟩
  obtain ⟨ob, es, ep, hq, h2, h3, h4, _, h5⟩ := dd'
  refine d_write I2 (by rw [e]; exact True.intro) hs ⟨ob, hq⟩ ⟨by show 1 ≤ sizeLine; decide, hd, _, Paired.cons ⟨rfl, ?_, ry⟩ .nil, ob, es, ep, hq, h2, h3, h4, h5⟩
  rw [upd_ne (ne_of eb e (fun z => nomatch z))]
  exact eb
end
/-! ### d.update(e), both with tuples of ints for keys -/
def gh (p : Int × Int) : Int := reduceHash (Builtin.Tuple.tupleHashOf [hashInt p.1, hashInt p.2])
def mergeT (kvs more : List (List Key × V)) : List (List Key × V) := more.foldl (fun acc kv => putK acc kv.1 kv.2) kvs
def rUpdT : V → List V → Hp → VK → Prop := fun x vs H Q => ∃ (d o : Addr) (kvs more : List (List Key × V)) (ps : List (Int × Int)), x = .ref d ∧ vs = [.ref o] ∧ d ≠ o ∧ H d = some (.dT kvs) ∧ H o = some (.dT more) ∧
  more.map (·.1) = ps.map (fun p => [Sum.inl p.1, Sum.inl p.2]) ∧ (ps.map gh).Nodup ∧ kvs.length + more.length ≤ sizeLine ∧ Q .non (upd H d (.dT (mergeT kvs more)))
section
variable {X : Cx}
theorem mergeT_len : ∀ (more kvs : List (List Key × V)), (mergeT kvs more).length ≤ kvs.length + more.length
  | [], kvs => Nat.le_refl _
  | p :: r, kvs => by
    have h1 := mergeT_len r (putK kvs p.1 p.2)
    have h2 := length_putK kvs p.1 p.2
    show (mergeT (putK kvs p.1 p.2) r).length ≤ _
    simp only [List.length_cons]
    omega
theorem KT.mergeT {H : Hp} : ∀ {more : List (List Key × V)} {ys : List (List Key × Addr × Value)} {kvs : List (List Key × V)} {xs : List (List Key × Addr × Value)}, KT H more ys → KT H kvs xs → KT H (Ar.mergeT kvs more) (storedAllH xs ys) := by
  intro more ys kvs xs h
  induction h generalizing kvs xs with
  | nil => intro k; exact k
  | @cons p q ps qs h t ih =>
    intro k
    have := k.put p.1 h.2.1 h.2.2
    rw [h.1] at this
    have e := ih this
    unfold Ar.mergeT at e ⊢
    rw [List.foldl_cons, h.1]
    exact e
theorem kt_keys {H : Hp} {more : List (List Key × V)} {ys : List (List Key × Addr × Value)} (h : KT H more ys) : more.map (·.1) = ys.map (·.1) := by
  induction h with
  | nil => rfl
  | cons h t ih => rw [List.map_cons, List.map_cons, h.1, ih]
theorem gh_eq (P : Program) (w : World) (p : Int × Int) : (tupleKind (mixKind P w)).hash [Sum.inl p.1, Sum.inl p.2] = gh p := rfl
theorem mt_updT (hu : X.A.units + 66 < cLine) : MtR X "dict.update" rUpdT := by
  intro pins s σ H x vs v us Q I rx rv h
  obtain ⟨d, o, kvs, more, ps, rfl, rfl, hne, hd, ho, ek, hn, hz, q⟩ := h
  cases rx
  obtain ⟨u, rfl, ru⟩ := rv.one
  cases (show u = Value.ref o from ru)
  obtain ⟨z1, s1, xs, r1, d1⟩ := dt_of I.hok hd
  obtain ⟨z2, s2, ys, r2, d2⟩ := dt_of I.hok ho
  have l1 := Paired.length r1
  have l2 := Paired.length r2
  have hin : (tupleKind (mixKind X.prog X.w)).room X.A.in1 := tupleKind_room_in1 (by omega)
  refine call_update_dictH hin hne s2 d1 d2 (.inr ⟨fun y hy => ?_, ?_⟩) (by omega) fun h' d1' d2' hs => ?_
  · obtain ⟨_, _, _, _, _, _, _, his, _⟩ := d2
    exact IsTupleKey.typeIs (his y hy)
  · have e : ys.map (fun x => (tupleKind (mixKind X.prog X.w)).hash x.1) = ps.map gh := by
      have e1 : ys.map (fun x => (tupleKind (mixKind X.prog X.w)).hash x.1) = (ys.map (·.1)).map (tupleKind (mixKind X.prog X.w)).hash := by rw [List.map_map]; rfl
      rw [e1, ← kt_keys r2, ek, List.map_map]
      rfl
    rw [e]
    exact hn
  · obtain ⟨ob, es, ep, hq, h2, h3, h4, _, h5⟩ := d1'
    have lm := mergeT_len more kvs
    refine ⟨.non, _, d_write I (ob := .dT (mergeT kvs more)) (by rw [hd]; exact True.intro) hs ⟨ob, hq⟩ ⟨by omega, s1, _, (KT.mergeT r2 r1).keeps fun c zs ec => ?_, ob, es, ep, hq, h2, h3, h4, h5⟩, rfl, q⟩
    rw [upd_ne (ne_of ec hd (fun z => nomatch z))]
    exact ec
end
end Ar
namespace Ar
open PySem PySem.Spec L2
/-! ### max(ns, default=d), min(ns, default=d) -/
def maxOr (d : Int) : List Int → Int
  | [] => d
  | n :: ns => ns.foldl max n
def minOr (d : Int) : List Int → Int
  | [] => d
  | n :: ns => ns.foldl min n
def rMaxDef (K : PySem.W.Frag) : List V → List V → Hp → VK → Prop := fun vs zs H Q => ∃ (a : Addr) (ns : List Int) (d : Int), vs = [V.ref a] ∧ zs = [.int d] ∧ SqL K H a (ns.map V.int) ∧ Q (.int (maxOr d ns)) H
def rMinDef (K : PySem.W.Frag) : List V → List V → Hp → VK → Prop := fun vs zs H Q => ∃ (a : Addr) (ns : List Int) (d : Int), vs = [V.ref a] ∧ zs = [.int d] ∧ SqL K H a (ns.map V.int) ∧ Q (.int (minOr d ns)) H
abbrev tMaxDef (K : PySem.W.Frag) (ta td : TE) : TE := tCKw (rMaxDef K) (tCons ta tNil) (tCons td tNil)
abbrev tMinDef (K : PySem.W.Frag) (ta td : TE) : TE := tCKw (rMinDef K) (tCons ta tNil) (tCons td tNil)
theorem reads_ints (h : Heap) : ∀ {us : List Value} {ns : List Int}, Vals (ns.map V.int) us → ReadsAll h us (ns.map PyData.int) []
  | us, [], r => by cases r; exact .nil
  | us, n :: ns, r => by
    rw [List.map_cons] at r
    cases r with
    | cons r1 r2 =>
      obtain ⟨t, rfl⟩ := r1
      exact .cons (as := []) (.int n t) (reads_ints h r2)
theorem alike_all (ns : List Int) : PySem.W.AlikeAll (ns.map PyData.int) := by
  refine ⟨fun x hx y hy => ?_, fun x hx => ?_⟩
  · obtain ⟨i, _, rfl⟩ := List.mem_map.mp hx
    obtain ⟨j, _, rfl⟩ := List.mem_map.mp hy
    rfl
  · obtain ⟨i, _, rfl⟩ := List.mem_map.mp hx
    exact fun z => nomatch z
theorem depth_all_ints : ∀ ns : List Int, PyData.depthAll (ns.map .int) = 0
  | [] => rfl
  | n :: ns => by
    have := depth_all_ints ns
    simp [PyData.depthAll, this, PyData.depth]
section
variable {X : Cx}
theorem cr_maxDef (hc : X.calm = true) (hu : X.A.units + 1 < cLine) : CallRK X (.builtin "max") [Str.ofString "default"] (rMaxDef X.K) := by
  intro pins s σ H xs zs us ws Q I r1 r2 h
  obtain ⟨a, ns, d, rfl, rfl, hs, q⟩ := h
  obtain ⟨its, rv, hl, hz⟩ := I.list hs
  obtain ⟨u, rfl, ru⟩ := vals1 r1
  obtain rfl : u = Value.ref a := ru
  obtain ⟨w, rfl, rw'⟩ := vals1 r2
  obtain ⟨t, rfl⟩ := rw'
  have rd := reads_ints s.heap rv
  refine PySem.W.max_list_default (I.ok.hd hc) hl.isList (xs := ns.map .int) rd (alike_all ns) (by rw [depth_all_ints]; exact hu) (fun e h' tk hk => ?_) fun y ys i v h' tk bs e hi rv' hk => ?_
  · have en : ns = [] := by
      cases ns with
      | nil => rfl
      | cons n ns => cases e
    subst en
    exact ⟨.int d, H, I.kept hk, ⟨t, rfl⟩, q⟩
  · cases ns with
    | nil => cases e
    | cons n ns =>
      rw [List.map_cons, List.cons.injEq] at e
      obtain ⟨e1, e2⟩ := e
      subst e1 e2
      rw [PySem.W.maxD_ints] at rv'
      cases rv' with
      | int i t => exact ⟨.int (ns.foldl max n), H, I.kept hk, ⟨t, rfl⟩, q⟩
theorem cr_minDef (hc : X.calm = true) (hu : X.A.units + 1 < cLine) : CallRK X (.builtin "min") [Str.ofString "default"] (rMinDef X.K) := by
  intro pins s σ H xs zs us ws Q I r1 r2 h
  obtain ⟨a, ns, d, rfl, rfl, hs, q⟩ := h
  obtain ⟨its, rv, hl, hz⟩ := I.list hs
  obtain ⟨u, rfl, ru⟩ := vals1 r1
  obtain rfl : u = Value.ref a := ru
  obtain ⟨w, rfl, rw'⟩ := vals1 r2
  obtain ⟨t, rfl⟩ := rw'
  have rd := reads_ints s.heap rv
  refine PySem.W.min_list_default (I.ok.hd hc) hl.isList (xs := ns.map .int) rd (alike_all ns) (by rw [depth_all_ints]; exact hu) (fun e h' tk hk => ?_) fun y ys i v h' tk bs e hi rv' hk => ?_
  · have en : ns = [] := by
      cases ns with
      | nil => rfl
      | cons n ns => cases e
    subst en
    exact ⟨.int d, H, I.kept hk, ⟨t, rfl⟩, q⟩
  · cases ns with
    | nil => cases e
    | cons n ns =>
      rw [List.map_cons, List.cons.injEq] at e
      obtain ⟨e1, e2⟩ := e
      subst e1 e2
      rw [PySem.W.minD_ints] at rv'
      cases rv' with
      | int i t => exact ⟨.int (ns.foldl min n), H, I.kept hk, ⟨t, rfl⟩, q⟩
theorem maxOr_mem {d : Int} : ∀ {ns : List Int}, 0 < ns.length → maxOr d ns ∈ ns ∧ ∀ y ∈ ns, y ≤ maxOr d ns
  | [], h => absurd h (by decide)
  | n :: ns, _ => by
    show ns.foldl max n ∈ n :: ns ∧ ∀ y ∈ n :: ns, y ≤ ns.foldl max n
    have : ∀ (ns : List Int) (n : Int), ns.foldl max n ∈ n :: ns ∧ ∀ y ∈ n :: ns, y ≤ ns.foldl max n := by
      intro ns
      induction ns with
      | nil => intro n; exact ⟨List.mem_cons_self, fun y hy => by rw [List.mem_singleton.mp hy]; exact Int.le_refl _⟩
      | cons m ns ih =>
        intro n
        obtain ⟨h1, h2⟩ := ih (max n m)
        refine ⟨?_, fun y hy => ?_⟩
        · rcases List.mem_cons.mp h1 with h | h
          · show ns.foldl max (max n m) ∈ _
            rw [h]
            rcases Int.le_total n m with z | z
            · rw [Int.max_eq_right z]; exact List.mem_cons_of_mem _ List.mem_cons_self
            · rw [Int.max_eq_left z]; exact List.mem_cons_self
          · exact List.mem_cons_of_mem _ (List.mem_cons_of_mem _ h)
        · show y ≤ ns.foldl max (max n m)
          rcases List.mem_cons.mp hy with h | h
          · exact Int.le_trans (by rw [h]; exact Int.le_max_left _ _) (h2 _ List.mem_cons_self)
          · rcases List.mem_cons.mp h with h | h
            · exact Int.le_trans (by rw [h]; exact Int.le_max_right _ _) (h2 _ List.mem_cons_self)
            · exact h2 y (List.mem_cons_of_mem _ h)
    exact this ns n
theorem minOr_mem {d : Int} : ∀ {ns : List Int}, 0 < ns.length → minOr d ns ∈ ns
  | [], h => absurd h (by decide)
  | n :: ns, _ => by
    have : ∀ (ns : List Int) (n : Int), ns.foldl min n ∈ n :: ns := by
      intro ns
      induction ns with
      | nil => intro n; exact List.mem_cons_self
      | cons m ns ih =>
        intro n
        rcases List.mem_cons.mp (ih (min n m)) with h | h
        · show ns.foldl min (min n m) ∈ _
          rw [h]
          rcases Int.le_total n m with z | z
          · rw [Int.min_eq_left z]; exact List.mem_cons_self
          · rw [Int.min_eq_right z]; exact List.mem_cons_of_mem _ List.mem_cons_self
        · exact List.mem_cons_of_mem _ (List.mem_cons_of_mem _ h)
    exact this ns n
end
end Ar
namespace Ar
open PySem PySem.Spec L2 PyProof.Rows
/-! ### a def called within an except suite, that is handed the exception -/
/-- p is an exception of the class at D, as it stands -/
structure ExcP (D : Addr) (p : Addr × Obj) : Prop where
  z : Zc (.ref D) none p.2
  f : ∃ v, p.2.data = .fields v
structure FnE (P : Program) (w : World) (K : PySem.W.Frag) (mg : Str → Option Value) (base : Heap) (k : Nat) (f : Addr) (fd : FuncData) (ps : List Str) (sp : Addr → Addr → Sp) : Prop where
  len : ∀ D a vs H Q E, sp D a vs H Q E → vs.length = ps.length
  run : ∀ (A : Around) (outer : List Env) (s : Shared) (H : Hp) (args : Args) (us : List Value) (vs : List V) (Q : VK) (E : XK) (p : Addr × Obj) (D : Addr), L2H.RoomH k A → ExcP D p → L2H.PinOk outer H s p → Env0 P w K mg base A outer s H →
    BindsTo s fd args (ps.zip us) → Vals vs us → sp D p.1 vs H Q E → codeAny (model P w) A (.call (.ref f) args) (CR CX0 outer P w H s Q E) s
theorem okE {P : Program} {w : World} {K : PySem.W.Frag} {mg : Str → Option Value} {base : Heap} {x qual : Str} {params : Arguments} {body : List Stmt} {scope : Scope} {dvs : List V} {kws : List (Str × V)} {f : Addr} {fd : FuncData} {N ps : List Str} {k : Nat} {sp : Addr → Addr → Sp}
    (F : FunD K x qual params body scope dvs kws f fd) (S : FnScope N ps scope) (len : ∀ D a vs H Q E, sp D a vs H Q E → vs.length = ps.length)
    (hb : ∀ (cdv : Value) (A : Around) (outer : List Env) (s : Shared) (H : Hp) (vs : List V) (Q : VK) (E : XK) (p : Addr × Obj) (D : Addr), ExcP D p → L2H.RoomH k (A.deeper (envOfC qual scope s.heap.objs.size f cdv)) → sp D p.1 vs H Q E →
      ∃ t, PSs (L2H.cxH CX0 P w K mg base N qual scope f cdv A outer s H E p) body t ∧ t { nx := fun _ H' => Q .non H', rt := Q } (L2.start N vs) H) : FnE P w K mg base (k + 1) f fd ps sp := by
  obtain ⟨oc, od, dV, kV, doc, pm, an, cdv, ct, osl, rfl, lk, hcd, _, _⟩ := F.ex
  refine ⟨len, fun A outer s H args us vs Q E p D room exc pin env bind rel prom => ?_⟩
  have hlen := len _ _ _ _ _ _ prom
  have inK : K.In s.heap := env.mod.kin.keeps fun b o e => (env.bs b o e).1
  have noLim : s.heap.NoLimit := env.mod.nolimit.keeps fun b o e => (env.bs b o e).1
  have kinds : ∀ y ∈ ps.zip us, scope.names.lookup y.1 = some .local ∨ (scope.names.lookup y.1 = some .cell ∧ ((cellsFrom (s.heap.objs.size + 1) scope.names []).lookup y.1).isSome = true) := by
    rintro ⟨n, v⟩ hy
    rcases S.par n (List.of_mem_zip hy).1 with q | q
    · exact Or.inl q
    · exact Or.inr ⟨q, PySem.W.cellsFrom_some _ _ _ (Or.inl q)⟩
  refine codeAny_call_function room.depth (inK _ _ lk) rfl S.co S.gen rfl (PySem.W.codeRec_of inK hcd) (bind _ _ _ _ ?_)
  refine wpAny_newFunctionEnv_cells S.kind kinds fun env' he s1 z => ?_
  subst he
  refine ⟨noLim.keeps z.toInCall.keep, codeAny_func ?_⟩
  obtain ⟨t, ht, hq⟩ := hb cdv A outer s H vs Q E p D exc (room.deeper _) prom
  have J := L2H.inv_startH (CX := CX0) (f := f) (E := E) S pin env hlen rel z
  refine wpAny_mono (ht.run [] s1 (L2.start N vs) H _ J hq) (fun fl s' hs => ?_) fun e s' hs => hs
  cases fl with
  | ret u =>
    obtain ⟨v, σ', H', J', rv, q⟩ := hs
    exact ⟨v, H', J'.os, J'.bare, J'.base, J'.hok, rv, q⟩
  | next =>
    obtain ⟨σ', H', J', q⟩ := hs
    exact ⟨V.non, H', J'.os, J'.bare, J'.base, J'.hok, rfl, q⟩
  | brk => exact (hs.elim fun _ h => h.elim fun _ h => h.2).elim
  | cont => exact (hs.elim fun _ h => h.elim fun _ h => h.2).elim
theorem roomS {j k : Nat} {A : Around} {v : Option Value} (hr : Room k A) (h : j ≤ k) : L2H.RoomH j (A.mark v) :=
  ⟨by have := hr.dp; show A.depth + 3 * j + 5 < _; omega, by have := hr.un; show A.units + 16 * j + 200 < _; omega⟩
section
variable {X : Cx}
/-- isinstance(e, c) of an exception that is pinned -/
theorem call_isP {a D : Addr} {oe : Obj} (C : ExcC X.K D) (x : ExcP D (a, oe)) (hp : (a, oe) ∈ X.pn) : CallR X (.builtin "isinstance") (rIsE X.K D a) := by
  intro pins s σ H xs us Q I r h
  obtain ⟨c, cv, b, rfl, hcv, e, q⟩ := h
  cases r with
  | cons rx rr =>
    cases rr with
    | cons rt rr =>
      cases rr
      cases rx
      have ec := hcv _ rt
      subst ec
      have hget := (I.pin (a, oe) (List.mem_append_left _ hp)).1
      obtain ⟨vs, hv⟩ := x.f
      have hz := x.z
      have J : PySem.W.InstAt s.heap a oe D none := by
        obtain ⟨oc, od, oda, osl⟩ := oe
        obtain ⟨h1, h2⟩ := hz
        dsimp only at h1 h2 hv
        subst h1 h2 hv
        exact ⟨hget, rfl, rfl, True.intro⟩
      exact PySem.W.kia_one (PySem.W.handS_kitx_exc C.hg C.hk C.hs C.hd C.ha C.hn C.ht C.hm) I.kIn J e (fun z => nomatch z) fun tk => ⟨.bl b, H, I.kept (t' := tk) fun _ _ z => z, rfl, q⟩
/-- f(e, ..) within the suite that holds e: cls, d what is told of its class -/
def tCallE (sp : Addr → Addr → Sp) (a : Addr) (cls : Value) (d : Option Addr) (t : TA) : TE := fun σ H Q => t σ H fun vs H1 => ∃ D, cls = .ref D ∧ d = none ∧ sp D a vs H1 Q fun _ _ _ => False
theorem pe_callE {k : Nat} {f : Addr} {fd : FuncData} {ps : List Str} {sp : Addr → Addr → Sp} {x : Str} {q pos : Pos} {e : Expr} {es : List Expr} {t : TA} {a : Addr} {oe : Obj} {cls : Value} {d : Option Addr} (F : FnE X.prog X.w X.K X.mg X.base k f fd ps sp) (hr : L2H.RoomH k X.A) (hz : Zc cls d oe) (hf : ∃ v, oe.data = .fields v) (hp : (a, oe) ∈ X.pn) (hg : Gl X x) (hm : X.mg x = some (.ref f))
    (hk : PySem.W.keepIn X.K (.ref f) = true) (hb : Binds X.K fd ps []) (ha : PA X (e :: es) t) (hdb : (x == ("__debug__" : Str)) = false := by decide) (he : starEach (e :: es) X.env = (false, eval e X.env) :: starEach es X.env := by rfl)
    (hpl : (backTo pos (starEach es X.env)).any (·.1) = false := by rfl) : PE X (.Call (.Name x q) (e :: es) [] pos) (tCallE sp a cls d t) := by
  refine ⟨fun pins s σ H Q I h => ?_⟩
  refine wpAny_Call_Name_kw (ld_glob I hg hm ?_ hdb)
  refine PySem.W.callWith_K (h₀ := X.base) I.ok.mod.kin hk (thn (ha.run pos pins s σ H _ I h) fun us s1 ⟨vs, H1, J, r, D, ec, ed, pr⟩ => ⟨J.kIn, ?_⟩) he hpl
  subst ec ed
  have hl : us.length = ps.length := by rw [← r.length]; exact F.len _ _ _ _ _ _ pr
  have b := hb s1 us J.kIn (by rw [List.append_nil]; exact hl)
  rw [List.append_nil] at b
  have P1 := J.pin (a, oe) (List.mem_append_left _ hp)
  have pin : L2H.PinOk X.stack H1 s1 (a, oe) := ⟨P1.1, P1.2.1, fun hm => (List.mem_cons.mp (J.stkSub a hm)).elim P1.2.2.1 P1.2.2.2.1, P1.2.2.2.2⟩
  refine wpAny_call (codeAny_mono (F.run X.A X.stack s1 H1 ⟨us, []⟩ us vs Q (fun _ _ _ => False) (a, oe) D hr ⟨hz, hf⟩ pin J.env0 b r pr) fun r s' hq => ?_)
  cases r with
  | error e => exact False.elim hq
  | ok fl =>
    cases fl with
    | ret u => exact J.after hq
    | next => exact False.elim hq
    | brk => exact False.elim hq
    | cont => exact False.elim hq
/-- o.m(..) within a try -/
def tMethS (C : Addr) (m : Str) (sp : Sp) (E : L2.St → XK) (ta : TE) (t : TA) : TE := fun σ H Q => ta σ H fun x H1 => ∃ a dx fs, x = .ref a ∧ H1 a = some (.ins C dx fs) ∧ fs.lookup m = none ∧ t σ H1 fun vs H2 => sp (x :: vs) H2 Q (E σ)
theorem pe_methS {CX : CXT} {k : Nat} {f C : Addr} {fd : FuncData} {ps : List Str} {sp : Sp} {E : L2.St → XK} {m : Str} {pos apos : Pos} {o e : Expr} {es : List Expr} {ta : TE} {t : TA} {pl : Sem Bool} (he : PE X o ta) (c : Cls X.K C) (hm : Meth X.K C m f) (F : FnOk X.prog X.w X.K X.mg X.base CX k f fd ps sp) (hr : Room k X.A) (hb : Binds X.K fd ps []) (hx : ∀ σ, PassesAt CX X σ (E σ)) (ha : PA X (e :: es) t)
    (hst : starEach (e :: es) X.env = (false, eval e X.env) :: starEach es X.env := by rfl) (hpl : (backTo pos (starEach es X.env)).any (·.1) = false := by rfl)
    (ht : eval (.Call (.Attribute o m apos) (e :: es) [] pos) X.env = (do
      let ow ← eval o X.env
      standAt apos.atName
      let (fv, fst) ← holding [ow] (getMethod ow m pl)
      callWith pos fv fst (backTo pos (starEach (e :: es) X.env)) (backToKw pos (keywordEach [] X.env))) := by rfl) :
    PE X (.Call (.Attribute o m apos) (e :: es) [] pos) (tMethS C m sp E ta t) := by
  refine ⟨fun pins s σ H Q I h => ?_⟩
  refine PySem.W.methodCall_KW (pl := pl) (thn (he.run pins s σ H _ I h) fun u s1 ⟨x, H1, I1, rx, a, dx, fs, ex, ea, l, q⟩ => ?_) ht
  subst ex
  obtain rfl : u = Value.ref a := rx
  refine getmeth_ok I1 ea c hm l ?_
  refine PySem.W.callWith_K (first := [.ref a]) (h₀ := X.base) I.ok.mod.kin hm.kp (thn (ha.run pos pins s1 σ H1 _ I1 q) fun us s2 ⟨vs, H2, I2, r, q2⟩ => ⟨I2.kIn, ?_⟩) hst hpl
  exact run_fnS (us := .ref a :: us) (vs := .ref a :: vs) F hr hb (hx σ) I2 (.cons rfl r) q2
/-! ### list.count of truth values -/
def rCntB (K : PySem.W.Frag) : V → List V → Hp → VK → Prop := fun x vs H Q => ∃ (l : Addr) (bs : List Bool) (b : Bool), x = .ref l ∧ vs = [.bl b] ∧ SqL K H l (bs.map V.bl) ∧ Q (.int ((bs.count b : Nat) : Int)) H
theorem reads_bools (h : Heap) : ∀ {us : List Value} {bs : List Bool}, Vals (bs.map V.bl) us → ReadsAll h us (bs.map PyData.bool) []
  | us, [], r => by cases r; exact .nil
  | us, n :: ns, r => by
    rw [List.map_cons] at r
    cases r with
    | cons r1 r2 =>
      cases (show _ = Value.bool n from r1)
      exact .cons (as := []) (.bool n) (reads_bools h r2)
theorem count_bools (b : Bool) : ∀ bs : List Bool, PySem.Spec.countIn (.bool b) (bs.map PyData.bool) = ((bs.count b : Nat) : Int)
  | [] => rfl
  | x :: bs => by
    have ih := count_bools b bs
    show (if PySem.Spec.same (.bool x) (.bool b) = true then (1 : Int) else 0) + PySem.Spec.countIn (.bool b) (bs.map PyData.bool) = _
    rw [ih]
    cases x <;> cases b <;> simp [PySem.Spec.same, PyData.eqv] <;> omega
theorem mt_countB : MtR X "list.count" (rCntB X.K) := by
  intro pins s σ H x vs v us Q I rx rv h
  obtain ⟨l, bs, b, rfl, rfl, hs, q⟩ := h
  obtain ⟨its, r, hl, hz⟩ := I.list hs
  cases rx
  obtain ⟨u, rfl, ru⟩ := rv.one
  cases (show u = Value.bool b from ru)
  refine PyProof.Rows.count_list_bools hl.isList (reads_bools s.heap r) ?_ ?_
  · rw [List.all_map, List.all_eq_true]
    intro y _
    rfl
  · rw [count_bools]
    exact ⟨.int ((bs.count b : Nat) : Int), H, I.tok _, ⟨_, rfl⟩, q⟩
end
end Ar
namespace Ar
open PySem PySem.Spec L2
/-- the slots at a def's start -/
def st (n : Nat) (vs : List V) : L2.St := vs.map some ++ List.replicate (n - vs.length) none
/-- what a body is to reach -/
abbrev ends (Q : VK) : Ends := { nx := fun _ H' => Q .non H', rt := Q }
/-! ### promises -/
def sp_cell_at (K : PySem.W.Frag) : Sp := fun vs H Q _ => ∃ (a : Addr) (ns : List Int) (k : Int), vs = [.ref a, .int k] ∧ SqL K H a (ns.map V.int) ∧ ns.length ≤ 63 ∧ 0 ≤ k ∧ Q (.int (ns.getD k.toNat 0)) H
def sp_whole (K : PySem.W.Frag) : Sp := fun vs H Q _ => ∃ i : Int, vs = [.int i] ∧ Q (.bl true) H
/-- v is this data: ints, and tuples of such -/
def DD (H : Hp) : Nat → V → PyData → Prop
  | 0, v, d => ∃ i : Int, v = .int i ∧ d = .int i
  | n + 1, v, d => (∃ i : Int, v = .int i ∧ d = .int i) ∨ ∃ (a : Addr) (xs : List V) (ds : List PyData), v = .ref a ∧ d = .tuple ds ∧ H a = some (.tup xs) ∧ xs.length ≤ 100000 ∧ Paired (DD H n) xs ds
def LD (H : Hp) (n : Nat) (v : V) (ds : List PyData) : Prop := ∃ (a : Addr) (xs : List V), v = .ref a ∧ H a = some (.lst xs) ∧ xs.length ≤ 100000 ∧ Paired (DD H n) xs ds
def sp_alike (K : PySem.W.Frag) : Nat → Sp
  | 0 => fun _ _ _ _ => False
  | n + 1 => fun vs H Q _ => ∃ (x y : V) (d : PyData), vs = [x, y] ∧ DD H n x d ∧ DD H n y d ∧ ∀ H', Same H H' → Q (.bl true) H'
abbrev sp_alike3 (K : PySem.W.Frag) : Sp := sp_alike K 3
def sp_listed (K : PySem.W.Frag) : Sp := fun vs H Q _ => ∃ (x y : V) (ds : List PyData), vs = [x, y] ∧ LD H 1 x ds ∧ LD H 1 y ds ∧ ∀ H', Same H H' → Q (.bl true) H'
/-- the gaps of these pairs, rising -/
def GapsOf (ps : List (Int × Int)) (ts : List (List Int)) : Prop := ts.Pairwise (· < ·) ∧ ∀ t, t ∈ ts ↔ ∃ a b c, t = [a, b, c] ∧ (a, b) ∈ ps ∧ (b, c) ∈ ps ∧ (a, c) ∉ ps
def p2 (p : Int × Int) : List Int := [p.1, p.2]
def sp_gaps (K : PySem.W.Frag) : Sp := fun vs H Q _ => ∃ (a : Addr) (xs : List V) (ps : List (Int × Int)), vs = [.ref a] ∧ SqL K H a xs ∧ TL H xs (ps.map p2) ∧ ps.length ≤ 1000 ∧
  ∀ ts p H' ys, GapsOf ps ts → ts.length ≤ 1000000 → H p = none → Same H H' → H' p = some (.lst ys) → TL H' ys ts → Q (.ref p) H'
abbrev sp_due_k07 (K : PySem.W.Frag) : Sp := sp_gaps K
def sp_law (K : PySem.W.Frag) : Sp := fun vs H Q _ => ∃ (a : Addr) (ns : List Int), vs = [.ref a] ∧ SqL K H a (ns.map V.int) ∧ ns.length ≤ 63 ∧ ∀ H', Q (.bl true) H'
abbrev sp_law_k07 (K : PySem.W.Frag) : Sp := sp_law K
end Ar
namespace Ar
open PySem PySem.Spec L2
/-! ### rising rows -/
abbrev Rising (l : List (List Int)) : Prop := l.Pairwise (· < ·)
theorem lt_of_le_ne {a b : List Int} (h : a ≤ b) (n : a ≠ b) : a < b := by
  by_cases q : a < b
  · exact q
  · exact absurd (List.le_antisymm h (List.not_lt.mp q)) n
theorem rising_of : ∀ {l : List (List Int)}, l.Pairwise (· ≤ ·) → l.Nodup → Rising l
  | [], _, _ => .nil
  | a :: l, h, n => by
    obtain ⟨h1, h2⟩ := List.pairwise_cons.mp h
    obtain ⟨n1, n2⟩ := List.nodup_cons.mp n
    exact List.pairwise_cons.mpr ⟨fun b hb => lt_of_le_ne (h1 b hb) fun e => n1 (e ▸ hb), rising_of h2 n2⟩
theorem Rising.nodup {l : List (List Int)} (h : Rising l) : l.Nodup := h.imp fun q e => by
  subst e
  exact List.lt_irrefl _ q
theorem Rising.le {l : List (List Int)} (h : Rising l) : l.Pairwise (· ≤ ·) := h.imp fun q => List.le_of_lt q
/-- two rising rows with the same items are one -/
theorem rising_same {l m : List (List Int)} (hl : Rising l) (hm : Rising m) (e : ∀ x, x ∈ l ↔ x ∈ m) : l = m :=
  List.Perm.eq_of_pairwise (fun a b _ _ h1 h2 => List.le_antisymm h1 h2) hl.le hm.le ((List.perm_ext_iff_of_nodup hl.nodup hm.nodup).mpr e)
/-- what sorted hands back of a row without doubles -/
theorem rising_sorted {l m : List (List Int)} (p : m.Perm l) (w : m.Pairwise (· ≤ ·)) (n : l.Nodup) : Rising m := rising_of w (p.nodup_iff.mpr n)
theorem GapsOf.same {ps : List (Int × Int)} {ts us : List (List Int)} (h : GapsOf ps ts) (k : GapsOf ps us) : ts = us :=
  rising_same h.1 k.1 fun x => (h.2 x).trans (k.2 x).symm
theorem p2_inj {p q : Int × Int} (h : p2 p = p2 q) : p = q := by
  simp only [p2, List.cons.injEq, and_true] at h
  exact Prod.ext h.1 h.2
/-! ### dicts of pairs -/
def kp (p : Int × Int) : List Key := [Sum.inl p.1, Sum.inl p.2]
theorem kp_kV (p : Int × Int) : (kp p).map kV = (p2 p).map V.int := rfl
theorem kp_inj {p q : Int × Int} (h : kp p = kp q) : p = q := by
  simp only [kp, List.cons.injEq, Sum.inl.injEq, and_true] at h
  exact Prod.ext h.1 h.2
/-- the pairs of a dict whose values are True -/
def hk (l : List (Int × Int)) : List (List Key × V) := l.map fun p => (kp p, .bl true)
theorem valV_hk : ∀ (l : List (Int × Int)) (p : Int × Int), valV (hk l) (kp p) = if p ∈ l then some (.bl true) else none
  | [], p => by simp [hk, valV_nil]
  | q :: l, p => by
    have ih := valV_hk l p
    show valV ((kp q, V.bl true) :: hk l) (kp p) = _
    by_cases e : q = p
    · subst e
      rw [valV_pos rfl, if_pos List.mem_cons_self]
    · rw [valV_neg (fun h => e (kp_inj h)), ih]
      by_cases h : p ∈ l
      · rw [if_pos h, if_pos (List.mem_cons_of_mem _ h)]
      · rw [if_neg h, if_neg (fun z => (List.mem_cons.mp z).elim (fun z => e z.symm) h)]
theorem some_hk (l : List (Int × Int)) (p : Int × Int) : (valV (hk l) (kp p)).isSome = decide (p ∈ l) := by
  rw [valV_hk]
  by_cases h : p ∈ l
  · rw [if_pos h, decide_eq_true h] <;> rfl
  · rw [if_neg h, decide_eq_false h] <;> rfl
/-- a row with one more item, if it is new -/
def addP (l : List (Int × Int)) (p : Int × Int) : List (Int × Int) := if p ∈ l then l else l ++ [p]
theorem putK_hk (l : List (Int × Int)) (p : Int × Int) : putK (hk l) (kp p) (.bl true) = hk (addP l p) := by
  unfold putK addP
  have e : ((hk l).any fun kv => decide (kv.1 = kp p)) = decide (p ∈ l) := by
    by_cases h : p ∈ l
    · rw [decide_eq_true h]
      exact List.any_eq_true.mpr ⟨(kp p, .bl true), List.mem_map.mpr ⟨p, h, rfl⟩, by simp⟩
    · rw [decide_eq_false h]
      refine Bool.eq_false_iff.mpr fun q => ?_
      obtain ⟨x, hx, hq⟩ := List.any_eq_true.mp q
      obtain ⟨y, hy, rfl⟩ := List.mem_map.mp hx
      exact h (kp_inj (of_decide_eq_true hq) ▸ hy)
  rw [e]
  by_cases h : p ∈ l
  · rw [decide_eq_true h, if_pos rfl, if_pos h]
    unfold hk
    rw [List.map_map]
    apply List.map_congr_left
    intro q _
    show (if kp q = kp p then (kp q, V.bl true) else (kp q, V.bl true)) = _
    split <;> rfl
  · rw [decide_eq_false h, if_neg Bool.false_ne_true, if_neg h]
    simp [hk]
theorem mem_addP {l : List (Int × Int)} {p q : Int × Int} : q ∈ addP l p ↔ q ∈ l ∨ q = p := by
  unfold addP
  by_cases h : p ∈ l
  · rw [if_pos h]
    exact ⟨Or.inl, fun z => z.elim id fun e => e ▸ h⟩
  · rw [if_neg h]
    simp
theorem nodup_addP {l : List (Int × Int)} (p : Int × Int) (h : l.Nodup) : (addP l p).Nodup := by
  unfold addP
  by_cases q : p ∈ l
  · rw [if_pos q]; exact h
  · rw [if_neg q]
    exact nd_snoc h q
theorem len_addP (l : List (Int × Int)) (p : Int × Int) : (addP l p).length ≤ l.length + 1 := by
  unfold addP
  split <;> simp
/-- a row without its doubles, in the order of the first -/
def dedup (l : List (Int × Int)) : List (Int × Int) := l.foldl addP []
theorem dedup_snoc (l : List (Int × Int)) (p : Int × Int) : dedup (l ++ [p]) = addP (dedup l) p := by
  unfold dedup
  rw [List.foldl_append] <;> rfl
theorem dedup_aux : ∀ (l m : List (Int × Int)), m.Nodup → (l.foldl addP m).Nodup ∧ (∀ q, q ∈ l.foldl addP m ↔ q ∈ m ∨ q ∈ l) ∧ (l.foldl addP m).length ≤ m.length + l.length
  | [], m, h => ⟨h, fun q => by simp, by simp⟩
  | p :: l, m, h => by
    obtain ⟨h1, h2, h3⟩ := dedup_aux l (addP m p) (nodup_addP p h)
    refine ⟨h1, fun q => ?_, ?_⟩
    · show q ∈ l.foldl addP (addP m p) ↔ _
      rw [h2, mem_addP, List.mem_cons, or_assoc]
    · have := len_addP m p
      show (l.foldl addP (addP m p)).length ≤ _
      simp only [List.length_cons]
      omega
theorem nodup_dedup (l : List (Int × Int)) : (dedup l).Nodup := (dedup_aux l [] List.nodup_nil).1
theorem mem_dedup {l : List (Int × Int)} {q : Int × Int} : q ∈ dedup l ↔ q ∈ l := by
  have := (dedup_aux l [] List.nodup_nil).2.1 q
  unfold dedup
  rw [this]
  simp
theorem len_dedup (l : List (Int × Int)) : (dedup l).length ≤ l.length := by
  have := (dedup_aux l [] List.nodup_nil).2.2
  unfold dedup
  simpa using this
/-! ### rows by places -/
theorem take_snoc {α : Type} {l : List α} {i : Nat} {x : α} (h : l[i]? = some x) : l.take (i + 1) = l.take i ++ [x] := by
  obtain ⟨hi, e⟩ := List.getElem?_eq_some_iff.mp h
  rw [← e, List.take_succ_eq_append_getElem hi]
theorem get_map {α β : Type} {f : α → β} {l : List α} {i : Nat} {y : β} (h : (l.map f)[i]? = some y) : ∃ x, l[i]? = some x ∧ y = f x := by
  rw [List.getElem?_map] at h
  cases e : l[i]? with
  | none => rw [e] at h; cases h
  | some x => rw [e] at h; exact ⟨x, rfl, (Option.some.inj h).symm⟩
theorem lt_of_get {α : Type} {l : List α} {i : Nat} {x : α} (h : l[i]? = some x) : i < l.length := (List.getElem?_eq_some_iff.mp h).1
theorem mem_of_get {α : Type} {l : List α} {i : Nat} {x : α} (h : l[i]? = some x) : x ∈ l := List.mem_of_getElem? h
/-- a row of tuples read at a place -/
theorem TL.at {H : Hp} {xs : List V} {nss : List (List Int)} {i : Nat} {x : V} (h : TL H xs nss) (e : xs[i]? = some x) : ∃ ns, nss[i]? = some ns ∧ TI H x ns := paired_get h e
theorem TLp.at {H : Hp} {xs : List V} {ps : List (Int × Int)} {i : Nat} {x : V} (h : TL H xs (ps.map p2)) (e : xs[i]? = some x) : ∃ p, ps[i]? = some p ∧ ∃ t, x = .ref t ∧ H t = some (.tup [.int p.1, .int p.2]) := by
  obtain ⟨ns, h1, h2⟩ := paired_get h e
  obtain ⟨p, h3, rfl⟩ := get_map h1
  exact ⟨p, h3, h2⟩
theorem keys_tl {H : Hp} {l : List (Int × Int)} {bs : List Addr} (h : IsKeys H (hk l) bs) : TL H (bs.map V.ref) (l.map p2) := by
  unfold IsKeys at h
  have : ∀ {kvs : List (List Key × V)} {bs : List Addr}, Paired (fun p b => H b = some (.tup (p.1.map kV))) kvs bs → ∀ l, kvs = hk l → TL H (bs.map V.ref) (l.map p2) := by
    intro kvs bs h
    induction h with
    | nil =>
      intro l e
      cases l with
      | nil => exact .nil
      | cons q l => cases e
    | cons h t ih =>
      intro l e
      cases l with
      | nil => cases e
      | cons q l =>
        cases e
        exact .cons ⟨_, rfl, h⟩ (ih l rfl)
  exact this h l rfl
end Ar
namespace Ar
open PySem PySem.Spec L2
/-! ### drawn nets: promises -/
def sp_drawn (K : PySem.W.Frag) : Sp := fun vs H Q _ => ∃ c k : Int, vs = [.int c, .int k] ∧ ∀ r : Int, 0 ≤ r → r < 1000003 → Q (.int r) H
def sp_bit (K : PySem.W.Frag) : Sp := fun vs H Q _ => ∃ c k : Int, vs = [.int c, .int k] ∧ ∀ b : Bool, Q (.bl b) H
/-- all points below n, in some order -/
def IsOrder (n : Nat) (ns : List Int) : Prop := ns.Perm ((List.range n).map Int.ofNat)
def sp_order (K : PySem.W.Frag) : Sp := fun vs H Q _ => ∃ (c : Int) (n : Nat), vs = [.int c, .int n] ∧ n ≤ 1000 ∧
  ∀ ns p H', IsOrder n ns → H p = none → Same H H' → H' p = some (.lst (ns.map .int)) → Q (.ref p) H'
/-- a dict of truth values by pairs -/
abbrev PB : Type := (Int × Int) × Bool
def hb (l : List PB) : List (List Key × V) := l.map fun e => (kp e.1, .bl e.2)
def putB (l : List PB) (p : Int × Int) (b : Bool) : List PB := if p ∈ l.map (·.1) then l.map (fun e => if e.1 = p then (p, b) else e) else l ++ [(p, b)]
def lookB (l : List PB) (p : Int × Int) : Option Bool := (l.find? fun e => decide (e.1 = p)).map (·.2)
/-- the drawn ties as they stand in the dict: on points below n, none twice, none of a point with itself -/
structure Simple (n : Nat) (l : List PB) : Prop where
  nd : (l.map (·.1)).Nodup
  ok : ∀ a b, ((a, b), true) ∈ l → 0 ≤ a ∧ a < n ∧ 0 ≤ b ∧ b < n ∧ a ≠ b ∧ ((b, a), true) ∉ l
/-- a relation on points can be turned: it is what some strict order ties -/
def OrdOf (T : Int → Int → Prop) : Prop := ∃ R : Int → Int → Prop, (∀ a b c, R a b → R b c → R a c) ∧ (∀ a, ¬ R a a) ∧ ∀ a b, T a b ↔ R a b ∨ R b a
def TieB (l : List PB) (a b : Int) : Prop := ((a, b), true) ∈ l ∨ ((b, a), true) ∈ l
def sp_above (K : PySem.W.Frag) : Sp := fun vs H Q _ => ∃ (n : Nat) (fa sa : Addr) (fs ss : List Int), vs = [.int n, .ref fa, .ref sa] ∧ n ≤ 24 ∧ H fa = some (.lst (fs.map .int)) ∧ H sa = some (.lst (ss.map .int)) ∧ fs.length = n ∧ ss.length = n ∧
  ∀ l p H', Simple n l → OrdOf (TieB l) → l.length ≤ 1000 → H p = none → Same H H' → H' p = some (.dT (hb l)) → Q (.ref p) H'
def sp_reached (K : PySem.W.Frag) : Sp := fun vs H Q _ => ∃ (n : Nat) (c : Int), vs = [.int n, .int c] ∧ n ≤ 24 ∧
  ∀ l p H', Simple n l → OrdOf (TieB l) → l.length ≤ 1000 → H p = none → Same H H' → H' p = some (.dT (hb l)) → Q (.ref p) H'
def sp_ringed (K : PySem.W.Frag) : Sp := fun vs H Q _ => ∃ (n : Nat) (c : Int), vs = [.int n, .int c] ∧ 3 ≤ n ∧ n ≤ 24 ∧
  ∀ l p H', Simple n l → (n % 2 = 0 → c % 3 ≠ 1 → OrdOf (TieB l)) → l.length ≤ 1000 → H p = none → Same H H' → H' p = some (.dT (hb l)) → Q (.ref p) H'
/-- a way whose nets can be turned -/
def GoodWay (w : Int) (n : Nat) (c : Int) : Prop := w = 2 ∨ w = 3 ∨ w = 4 ∨ w = 6 ∨ w = 7 ∨ (w = 5 ∧ n % 2 = 0 ∧ c % 3 ≠ 1)
def sp_made (K : PySem.W.Frag) : Sp := fun vs H Q _ => ∃ (w : Int) (n : Nat) (c : Int), vs = [.int w, .int n, .int c] ∧ 0 ≤ w ∧ w < 8 ∧ n ≤ 24 ∧ (w = 5 → 3 ≤ n) ∧
  ∀ l p H', Simple n l → (GoodWay w n c → OrdOf (TieB l)) → l.length ≤ 1000 → H p = none → Same H H' → H' p = some (.dT (hb l)) → Q (.ref p) H'
/-- a list of ties on points below n: none twice, either way about -/
structure Ties (n : Nat) (ps : List (Int × Int)) : Prop where
  ok : ∀ p ∈ ps, 0 ≤ p.1 ∧ p.1 < n ∧ 0 ≤ p.2 ∧ p.2 < n ∧ p.1 ≠ p.2
  once : ps.Pairwise fun p q => p ≠ q ∧ p ≠ (q.2, q.1)
def Adj (ps : List (Int × Int)) (a b : Int) : Prop := (a, b) ∈ ps ∨ (b, a) ∈ ps
/-- how a net is drawn of a script: the way, the number of points, the cell -/
def wayOf (ns : List Int) : Int := ns.getD 1 0 % 8
def menu : List Int := [11, 9, 11, 10, 19, 9, 10, 13]
def roomOf (ns : List Int) : Int := 6 * (if ns.getD 1 0 / 8 % 8 = 1 then 1 else 0)
def manyOf (ns : List Int) : Int := ns.getD 0 0 % (menu.getD (wayOf ns).toNat 1 + roomOf ns) + (if wayOf ns = 5 then 3 else 0)
def sp_net (K : PySem.W.Frag) : Sp := fun vs H Q _ => ∃ (a : Addr) (ns : List Int), vs = [.ref a] ∧ SqL K H a (ns.map V.int) ∧ ns.length ≤ 63 ∧
  ∀ (n : Nat) (ps : List (Int × Int)) (t tl : Addr) (H' : Hp) (xs : List V), n ≤ 24 → (n : Int) = manyOf ns → Ties n ps → (GoodWay (wayOf ns) n (ns.getD 2 0) → OrdOf (Adj ps)) → H t = none → H tl = none → Same H H' → H' t = some (.tup [.int n, .ref tl]) → H' tl = some (.lst xs) → TL H' xs (ps.map p2) → Q (.ref t) H'
/-- both ways of each tie, each once -/
structure BothOf (ps l : List (Int × Int)) : Prop where
  nd : l.Nodup
  mem : ∀ a b, (a, b) ∈ l ↔ Adj ps a b
def sp_both (K : PySem.W.Frag) : Sp := fun vs H Q _ => ∃ (a : Addr) (xs : List V) (ps : List (Int × Int)), vs = [.ref a] ∧ H a = some (.lst xs) ∧ TL H xs (ps.map p2) ∧ ps.length ≤ 1000 ∧
  ∀ l p H', BothOf ps l → H p = none → Same H H' → H' p = some (.dT (hk l)) → Q (.ref p) H'
end Ar
namespace Ar
open PySem PySem.Spec L2
/-! ### nets -/
abbrev cNet (K : PySem.W.Frag) : Addr := He.ga K "Net"
structure NetC (K : PySem.W.Frag) : Prop where
  cl : Cls K (cNet K)
  nM : NoAttr K (cNet K) "many"
  nB : NoAttr K (cNet K) "both"
theorem mb_ : ¬ (("many" : Str) = "both") := by decide +kernel
def nflds (n : Int) (d : Addr) : List (Str × V) := putF "both" (.ref d) (putF "many" (.int n) [])
theorem nflds_many (n : Int) (d : Addr) : (nflds n d).lookup ("many" : Str) = some (.int n) := by
  unfold nflds
  rw [lookup_putF, if_neg mb_, lookup_putF, if_pos rfl]
theorem nflds_both (n : Int) (d : Addr) : (nflds n d).lookup ("both" : Str) = some (.ref d) := by
  unfold nflds
  rw [lookup_putF, if_pos rfl]
theorem nflds_no (n : Int) (d : Addr) {m : Str} (h1 : ¬ m = "both") (h2 : ¬ m = "many") : (nflds n d).lookup m = none := by
  unfold nflds
  rw [lookup_putF, if_neg h1, lookup_putF, if_neg h2] <;> rfl
/-- ties told both ways, on points below n -/
structure GoodL (n : Nat) (l : List (Int × Int)) : Prop where
  nd : l.Nodup
  sym : ∀ a b, (a, b) ∈ l → (b, a) ∈ l
  rng : ∀ a b, (a, b) ∈ l → 0 ≤ a ∧ a < n ∧ a ≠ b
def NetAt (K : PySem.W.Frag) (H : Hp) (v : V) (n : Nat) (l : List (Int × Int)) : Prop :=
  ∃ o dx d, v = .ref o ∧ H o = some (.ins (cNet K) dx (nflds n d)) ∧ H d = some (.dT (hk l)) ∧ GoodL n l ∧ n ≤ 24
theorem NetAt.mono {K : PySem.W.Frag} {H H' : Hp} {v : V} {n : Nat} {l : List (Int × Int)} (h : NetAt K H v n l) (s : Same H H') : NetAt K H' v n l := by
  obtain ⟨o, dx, d, e, h1, h2, g⟩ := h
  exact ⟨o, dx, d, e, s _ _ h1, s _ _ h2, g⟩
def sp_Net_has (K : PySem.W.Frag) : Sp := fun vs H Q _ => ∃ (o dx : Addr) (fs : List (Str × V)) (n p : Int), vs = [.ref o, .int p] ∧ H o = some (.ins (cNet K) dx fs) ∧ fs.lookup ("many" : Str) = some (.int n) ∧ Q (.bl (decide (0 ≤ p) && decide (p < n))) H
/-- what is wrong first: 1 no tie, 2 told twice, 0 nothing -/
def tieRes (n : Int) (l : List (Int × Int)) : List (Int × Int) → Nat
  | [] => 0
  | p :: ps => if 0 ≤ p.1 ∧ p.1 < n ∧ 0 ≤ p.2 ∧ p.2 < n ∧ p.1 ≠ p.2 then (if p ∈ l then 2 else tieRes n (addP (addP l p) (p.2, p.1)) ps) else 1
/-- the ties told both ways -/
def bothL (l : List (Int × Int)) (ps : List (Int × Int)) : List (Int × Int) := ps.foldl (fun l p => addP (addP l p) (p.2, p.1)) l
def sp_Net_init (K : PySem.W.Frag) : Sp := fun vs H Q E => ∃ (o dx tl : Addr) (m : Int) (xs : List V) (ps : List (Int × Int)), vs = [.ref o, .int m, .ref tl] ∧ H o = some (.ins (cNet K) dx []) ∧ H tl = some (.lst xs) ∧ TL H xs (ps.map p2) ∧ ps.length ≤ 1000 ∧
  ((m < 0 ∨ 24 < m) → E (.ref (He.ga K "NoPoints")) none H) ∧
  (∀ H', (∀ b u, b ≠ o → H b = some u → H' b = some u) → 0 ≤ m → m ≤ 24 → tieRes m [] ps = 1 → E (.ref (He.ga K "NoTie")) none H') ∧
  (∀ H', (∀ b u, b ≠ o → H b = some u → H' b = some u) → 0 ≤ m → m ≤ 24 → tieRes m [] ps = 2 → E (.ref (He.ga K "TwiceTold")) none H') ∧
  ∀ H' d, (∀ b u, b ≠ o → H b = some u → H' b = some u) → 0 ≤ m → m ≤ 24 → tieRes m [] ps = 0 → H' o = some (.ins (cNet K) dx (nflds m d)) → H' d = some (.dT (hk (bothL [] ps))) → Q .non H'
def sp_Net_tied (K : PySem.W.Frag) : Sp := fun vs H Q E => ∃ (v : V) (n : Nat) (l : List (Int × Int)) (a b : Int), vs = [v, .int a, .int b] ∧ NetAt K H v n l ∧
  ((0 ≤ a ∧ a < n) ∧ 0 ≤ b ∧ b < n → ∀ H', Same H H' → Q (.bl (decide ((a, b) ∈ l))) H') ∧ (¬ ((0 ≤ a ∧ a < n) ∧ 0 ≤ b ∧ b < n) → E (.ref (He.ga K "NoPoint")) none H)
def sp_Net_near (K : PySem.W.Frag) : Sp := fun vs H Q E => ∃ (v : V) (n : Nat) (l : List (Int × Int)) (a : Int), vs = [v, .int a] ∧ NetAt K H v n l ∧
  (0 ≤ a ∧ a < n → ∀ p H' ns, ns = ((List.range n).map Int.ofNat).filter (fun x => decide ((a, x) ∈ l)) → H p = none → Same H H' → H' p = some (.lst (ns.map .int)) → Q (.ref p) H') ∧ (¬ (0 ≤ a ∧ a < n) → E (.ref (He.ga K "NoPoint")) none H)
/-- the ties, the lesser point first, rising -/
def PairsOf (l qs : List (Int × Int)) : Prop := Rising (qs.map p2) ∧ ∀ a b, (a, b) ∈ qs ↔ (a, b) ∈ l ∧ a < b
def sp_Net_pairs (K : PySem.W.Frag) : Sp := fun vs H Q _ => ∃ (v : V) (n : Nat) (l : List (Int × Int)), vs = [v] ∧ NetAt K H v n l ∧
  ∀ p H' xs qs, PairsOf l qs → qs.length ≤ 1000 → H p = none → Same H H' → H' p = some (.lst xs) → TL H' xs (qs.map p2) → Q (.ref p) H'
end Ar
namespace Ar
open PySem PySem.Spec L2
/-! ### nets of nets, and how a net is built -/
def OppOf (n : Nat) (l l' : List (Int × Int)) : Prop := ∀ a b, (a, b) ∈ l' ↔ (0 ≤ a ∧ a < n) ∧ (0 ≤ b ∧ b < n) ∧ a ≠ b ∧ (a, b) ∉ l
def sp_opposite (K : PySem.W.Frag) : Sp := fun vs H Q _ => ∃ (v : V) (n : Nat) (l : List (Int × Int)), vs = [v] ∧ NetAt K H v n l ∧
  ∀ l' w H', OppOf n l l' → Same H H' → NetAt K H' w n l' → Q w H'
def sp_built (K : PySem.W.Frag) : Sp := fun vs H Q _ => ∃ (n : Nat) (a : Addr) (c : Int) (xs : List V) (ps : List (Int × Int)), vs = [.int n, .ref a, .int c] ∧ n ≤ 24 ∧ H a = some (.lst xs) ∧ TL H xs (ps.map p2) ∧ Ties n ps ∧
  ∀ l w H', BothOf ps l → Same H H' → NetAt K H' w n l → Q w H'
/-! ### arrows that turn the ties l -/
structure TurnsOf (l qs : List (Int × Int)) : Prop where
  tie : ∀ p ∈ qs, p ∈ l
  once : qs.Pairwise fun p q => p ≠ q ∧ p ≠ (q.2, q.1)
  all : 2 * qs.length = l.length
  no : ∀ a b c, (a, b) ∈ qs → (b, c) ∈ qs → (a, c) ∈ qs
def sp_fits (K : PySem.W.Frag) : Sp := fun vs H Q _ => ∃ (v : V) (n : Nat) (l : List (Int × Int)) (a : Addr) (xs : List V) (qs : List (Int × Int)), vs = [v, .ref a] ∧ NetAt K H v n l ∧ H a = some (.lst xs) ∧ TL H xs (qs.map p2) ∧ qs.length ≤ 1000 ∧
  ∀ b H', (b = true ↔ TurnsOf l qs) → Same H H' → Q (.bl b) H'
def sp_pair (K : PySem.W.Frag) : Sp := fun vs H Q _ => ∃ (t : Addr) (a b : Int), vs = [.ref t] ∧ H t = some (.tup [.int a, .int b]) ∧ Q (.bl true) H
def sp_turns (K : PySem.W.Frag) : Sp := fun vs H Q _ => ∃ (d : Addr) (l : List (Int × Int)) (a : Addr) (xs : List V) (qs : List (Int × Int)), vs = [.ref d, .ref a] ∧ H d = some (.dT (hk l)) ∧ H a = some (.lst xs) ∧ TL H xs (qs.map p2) ∧ qs.length ≤ 1000 ∧
  ∀ b H', (b = true ↔ TurnsOf l qs) → Same H H' → Q (.bl b) H'
def sp_untied_k08 (K : PySem.W.Frag) : Sp := fun vs H Q _ => ∃ (d : Addr) (l : List (Int × Int)) (n : Nat) (c : Int), vs = [.ref d, .int n, .int c] ∧ H d = some (.dT (hk l)) ∧ n ≤ 24 ∧
  ∀ t a b H', Same H H' → H' t = some (.tup [.int a, .int b]) → Q (.ref t) H'
def sp_changed_k08 (K : PySem.W.Frag) : Sp := fun vs H Q _ => ∃ (d : Addr) (l : List (Int × Int)) (a : Addr) (xs : List V) (ps : List (Int × Int)) (n : Nat) (c : Int), vs = [.ref d, .ref a, .int n, .int c] ∧ H d = some (.dT (hk l)) ∧ H a = some (.lst xs) ∧ TL H xs (ps.map p2) ∧ ps.length ≤ 900 ∧ n ≤ 24 ∧
  ∀ (r : Addr) (ys : List V) (qs : List (Int × Int)) (H' : Hp), Same H H' → H' r = some (.lst ys) → TL H' ys (qs.map p2) → qs.length ≤ ps.length + 1 → Q (.ref r) H'
abbrev sp_law_k08 (K : PySem.W.Frag) : Sp := sp_law K
end Ar
namespace Ar
open PySem PySem.Spec L2
local macro_rules | `(tactic| walk_at "g1") => `(tactic| first
  | refine ⟨_, rfl, ?_⟩
  | refine ⟨_, _, rfl, rfl, ?_⟩
  | refine ⟨(by show (0 : Int) < _; decide), ?_⟩
  | refine ⟨⟨by decide, by decide⟩, ?_⟩
  | refine ⟨(show CMul _ _ from .inl ⟨by omega, by omega⟩), ?_⟩
  | refine ⟨(show CMul _ _ from .inr ⟨by omega, by omega⟩), ?_⟩
  | refine ⟨(show (_ : Int) ≠ 0 by decide), ?_⟩
  | refine ⟨sz2, ?_⟩
  | refine ⟨sz0, ?_⟩
  | refine ⟨sz3, ?_⟩)
local macro_rules | `(tactic| walk_at "ty") => `(tactic| first | exact .int _ | exact .bl _ | exact .tup (by assumption) | exact .lst (by assumption))
local macro_rules | `(tactic| walk_at "isT") => `(tactic| refine ⟨_, _, _, _, true, rfl, .ty _, .base (by walk_at "ty"), kit_ty (by decide +kernel), ?_⟩)
local macro_rules | `(tactic| walk_at "isF") => `(tactic| refine ⟨_, _, _, _, false, rfl, .ty _, .base (by walk_at "ty"), kit_ty (by decide +kernel), ?_⟩)
local macro_rules | `(tactic| walk_at "cell") => `(tactic| ((repeat walk_at "g1"); refine ⟨_, _, _, rfl, (by assumption), (by assumption), (by first | decide | omega), ?_⟩; repeat walk_at "g1"))
local macro_rules | `(tactic| walk_at "go") => `(tactic| repeat walk_at "g1")
def t_drawn (K : PySem.W.Frag) : TS :=
  (tSeq (tAsg (tOp oMod (tOp oMul (tOp oAdd (tOp oMod (tVar 0) (tC (.int 1000003))) (tC (.int 1))) (tOp oAdd (tOp oMul (tVar 1) (tC (.int 48271))) (tC (.int 11)))) (tC (.int 1000003))) (gName 2)) (tSeq (tAsg (tOp oMod (tOp oAdd (tOp oAdd (tOp oMul (tVar 2) (tVar 2)) (tOp oMul (tVar 1) (tC (.int 7919)))) (tOp oDiv (tVar 0) (tC (.int 1000003)))) (tC (.int 1000003))) (gName 3)) (tRet (tOp oMod (tOp oMul (tVar 3) (tVar 3)) (tC (.int 1000003))))))
def t_order (K : PySem.W.Frag) : TS :=
  (tSeq (tAsg (tLst tNil) (gName 2)) (tSeq (tFor (iRng1 (tCons (tVar 1) tNil)) (gName 3) (tDrop (tBM K "list" cInsert (tVar 2) (tCons (tOp oModN (tCall (sp_drawn K) [] E0 (tCons (tVar 0) (tCons (tVar 3) tNil))) (tOp oAdd (tVar 3) (tC (.int 1)))) (tCons (tVar 3) tNil))))) (tRet (tVar 2))))
def t_bit (K : PySem.W.Frag) : TS :=
  (tRet (tOp rEq (tOp oMod (tOp oDiv (tCall (sp_drawn K) [] E0 (tCons (tOp oAdd (tVar 0) (tC (.int 5))) (tCons (tOp oAdd (tOp oMul (tVar 1) (tC (.int 3))) (tC (.int 1))) tNil))) (tC (.int 5))) (tC (.int 2))) (tC (.int 1))))
variable {K : PySem.W.Frag} {vs : List V} {H : Hp} {Q : VK} {E : XK}
theorem len_drawn (h : sp_drawn K vs H Q E) : vs.length = 2 := by
  obtain ⟨c, k, rfl, _⟩ := h
  rfl
theorem pure_drawn (h : sp_drawn K vs H Q E) : t_drawn K (ends Q) (st 4 vs) H := by
  obtain ⟨c, k, rfl, q⟩ := h
  walk_at "go"
  try dsimp only
  generalize e1 : (c % 1000003 + 1) * (k * 48271 + 11) % 1000003 = one
  have h1 : 0 ≤ one ∧ one < 1000003 := by omega
  walk_at "go"
  try dsimp only
  generalize e2 : (one * one + k * 7919 + c / 1000003) % 1000003 = two
  have h2 : 0 ≤ two ∧ two < 1000003 := by omega
  walk_at "go"
  exact q _ (by omega) (by omega)
theorem len_bit (h : sp_bit K vs H Q E) : vs.length = 2 := by
  obtain ⟨c, k, rfl, _⟩ := h
  rfl
theorem pure_bit (h : sp_bit K vs H Q E) : t_bit K (ends Q) (st 2 vs) H := by
  obtain ⟨c, k, rfl, q⟩ := h
  walk_at "go"
  refine ⟨_, _, rfl, fun r r0 r1 => ?_⟩
  walk_at "go"
  exact ⟨rfl, q _⟩
theorem len_order (h : sp_order K vs H Q E) : vs.length = 2 := by
  obtain ⟨c, n, rfl, _⟩ := h
  rfl
theorem fmod_pos (a : Int) {b : Int} (h : 0 < b) : a.fmod b = a % b := Int.fmod_eq_emod_of_nonneg _ (Int.le_of_lt h)
theorem pure_order (h : sp_order K vs H Q E) : t_order K (ends Q) (st 4 vs) H := by
  obtain ⟨c, n, rfl, hn, q⟩ := h
  walk_at "go"
  refine fun al nal => ?_
  generalize e1 : upd _ al _ = H1
  have s1 := Same.of_eq e1 nal
  replace e1 := new_at e1
  refine ⟨_, rfl, _, rfl, by omega, by omega, for_range (lo := 0) (n := (n : Int).toNat) (fun i σ G => ∃ (o3 : Option V) (ns : List Int), σ = [some (.int c), some (.int n), some (.ref al), o3] ∧ Same H G ∧ G al = some (.lst (ns.map .int)) ∧ IsOrder i ns)
    ⟨_, [], rfl, s1, e1, .refl _⟩ ?_ ?_⟩
  · rintro i σ G hi ⟨o3, ns, rfl, s0, hl, ho⟩
    walk_at "go"
    refine ⟨.inl ⟨rfl, _, SqL.of hl⟩, ?_⟩
    walk_at "go"
    refine ⟨_, _, rfl, fun r r0 r1 => ?_⟩
    walk_at "go"
    refine ⟨by show (0 + (i : Int) + 1) ≠ 0; omega, ?_⟩
    walk_at "go"
    try dsimp only
    have ln : ns.length = i := by have := ho.length_eq; simpa using this
    have hm : 0 ≤ r.fmod (0 + (i : Int) + 1) ∧ r.fmod (0 + (i : Int) + 1) < (0 + (i : Int) + 1) := by
      rw [fmod_pos _ (by omega)]
      exact ⟨Int.emod_nonneg _ (by omega), Int.emod_lt_of_pos _ (by omega)⟩
    generalize r.fmod (0 + (i : Int) + 1) = j at hm
    refine ⟨al, _, _, _, rfl, rfl, hl, lin' (by rw [List.length_map]; omega), hm.1, by omega, ?_⟩
    refine ⟨_, ns.take j.toNat ++ [(i : Int)] ++ ns.drop j.toNat, rfl, s0.mut nal, ?_, ?_⟩
    · rw [upd_same, List.map_append, List.map_append, List.map_take, List.map_drop]
      show some (HO.lst (List.take j.toNat (ns.map V.int) ++ [V.int (0 + (i : Int))] ++ List.drop j.toNat (ns.map V.int))) = _
      rw [Int.zero_add] <;> rfl
    · unfold IsOrder
      rw [List.range_succ, List.map_append]
      have h1 : (ns.take j.toNat ++ [(i : Int)] ++ ns.drop j.toNat).Perm ((ns.take j.toNat ++ ns.drop j.toNat) ++ [(i : Int)]) := by
        rw [List.append_assoc, List.append_assoc]
        exact List.Perm.append_left _ List.perm_append_comm
      rw [List.take_append_drop] at h1
      exact h1.trans (List.Perm.append_right _ ho)
  · rintro σ G ⟨o3, ns, rfl, s0, hl, ho⟩
    have e : (n : Int).toNat = n := by omega
    rw [e] at ho
    walk_at "go"
    exact q ns al G ho nal s0 hl
/-! ### dicts of truth values -/
theorem valV_hb : ∀ (l : List PB) (p : Int × Int), valV (hb l) (kp p) = (lookB l p).map V.bl
  | [], p => rfl
  | e :: l, p => by
    have ih := valV_hb l p
    show valV ((kp e.1, V.bl e.2) :: hb l) (kp p) = _
    by_cases h : e.1 = p
    · rw [valV_pos (by rw [h])]
      simp [lookB, h]
    · rw [valV_neg (fun z => h (kp_inj z)), ih]
      simp [lookB, h]
theorem putK_hb (l : List PB) (p : Int × Int) (b : Bool) : putK (hb l) (kp p) (.bl b) = hb (putB l p b) := by
  unfold putK putB
  have e : ((hb l).any fun kv => decide (kv.1 = kp p)) = decide (p ∈ l.map (·.1)) := by
    by_cases h : p ∈ l.map (·.1)
    · rw [decide_eq_true h]
      obtain ⟨x, hx, rfl⟩ := List.mem_map.mp h
      exact List.any_eq_true.mpr ⟨(kp x.1, .bl x.2), List.mem_map.mpr ⟨x, hx, rfl⟩, by simp⟩
    · rw [decide_eq_false h]
      refine Bool.eq_false_iff.mpr fun q => ?_
      obtain ⟨x, hx, hq⟩ := List.any_eq_true.mp q
      obtain ⟨y, hy, rfl⟩ := List.mem_map.mp hx
      exact h (List.mem_map.mpr ⟨y, hy, kp_inj (of_decide_eq_true hq)⟩)
  rw [e]
  by_cases h : p ∈ l.map (·.1)
  · rw [decide_eq_true h, if_pos rfl, if_pos h]
    unfold hb
    rw [List.map_map, List.map_map]
    apply List.map_congr_left
    intro q _
    show (if kp q.1 = kp p then (kp q.1, V.bl b) else (kp q.1, V.bl q.2)) = _
    by_cases z : q.1 = p
    · rw [if_pos (by rw [z])]
      show _ = (kp (if q.1 = p then (p, b) else q).1, V.bl (if q.1 = p then (p, b) else q).2)
      rw [if_pos z, z]
    · rw [if_neg (fun w => z (kp_inj w))]
      show _ = (kp (if q.1 = p then (p, b) else q).1, V.bl (if q.1 = p then (p, b) else q).2)
      rw [if_neg z]
  · rw [decide_eq_false h, if_neg Bool.false_ne_true, if_neg h]
    simp [hb]
theorem lookB_none {l : List PB} {p : Int × Int} : lookB l p = none ↔ p ∉ l.map (·.1) := by
  unfold lookB
  simp only [Option.map_eq_none_iff, List.find?_eq_none, decide_eq_true_eq, List.mem_map]
  constructor
  · rintro h ⟨x, hx, e⟩
    exact h x hx e
  · intro h x hx e
    exact h ⟨x, hx, e⟩
theorem lookB_cons (e : PB) (l : List PB) (p : Int × Int) : lookB (e :: l) p = if e.1 = p then some e.2 else lookB l p := by
  unfold lookB
  by_cases h : e.1 = p <;> simp [h]
theorem lookB_app (l m : List PB) (p : Int × Int) : lookB (l ++ m) p = (lookB l p).or (lookB m p) := by
  unfold lookB
  rw [List.find?_append]
  cases l.find? fun e => decide (e.1 = p) <;> simp
theorem keys_putB (l : List PB) (p : Int × Int) (b : Bool) : (putB l p b).map (·.1) = if p ∈ l.map (·.1) then l.map (·.1) else l.map (·.1) ++ [p] := by
  unfold putB
  by_cases h : p ∈ l.map (·.1)
  · rw [if_pos h, if_pos h, List.map_map]
    apply List.map_congr_left
    intro q _
    show (if q.1 = p then (p, b) else q).1 = q.1
    by_cases z : q.1 = p
    · rw [if_pos z, z]
    · rw [if_neg z]
  · rw [if_neg h, if_neg h, List.map_append] <;> rfl
theorem lookB_put (l : List PB) (p : Int × Int) (b : Bool) (q : Int × Int) : lookB (putB l p b) q = if q = p then some b else lookB l q := by
  unfold putB
  by_cases h : p ∈ l.map (·.1)
  · rw [if_pos h]
    induction l with
    | nil => simp at h
    | cons e l ih =>
      rw [List.map_cons, lookB_cons, lookB_cons]
      by_cases z : e.1 = p
      · rw [if_pos z]
        by_cases w : q = p
        · rw [if_pos w.symm, if_pos w]
        · rw [if_neg (fun y => w y.symm), if_neg w, if_neg (fun y => w (y.symm.trans z))]
          by_cases hp : p ∈ l.map (·.1)
          · rw [ih hp, if_neg w]
          · have e2 : l.map (fun e => if e.1 = p then (p, b) else e) = l := by
              have : l.map (fun e => if e.1 = p then (p, b) else e) = l.map id := by
                apply List.map_congr_left
                intro x hx
                show (if x.1 = p then (p, b) else x) = x
                rw [if_neg fun y => hp (List.mem_map.mpr ⟨x, hx, y⟩)]
              rw [this, List.map_id]
            rw [e2]
      · rw [if_neg z]
        have hp : p ∈ l.map (·.1) := by
          rcases List.mem_cons.mp h with y | y
          · exact absurd y.symm z
          · exact y
        by_cases w : e.1 = q
        · rw [if_pos w, if_pos w, if_neg (fun y => z (w.trans y))]
        · rw [if_neg w, if_neg w, ih hp]
  · rw [if_neg h, lookB_app]
    have n := lookB_none.mpr h
    by_cases w : q = p
    · rw [w, n, if_pos rfl, lookB_cons, if_pos rfl] <;> rfl
    · rw [if_neg w, lookB_cons, if_neg (fun y => w y.symm)]
      cases lookB l q <;> rfl
theorem nodup_snoc' {α : Type} {l : List α} {a : α} (h : l.Nodup) (n : a ∉ l) : (l ++ [a]).Nodup := by
  refine List.nodup_append.mpr ⟨h, by simp, fun x hx y hy e => ?_⟩
  simp at hy
  exact n (by rw [← hy, ← e]; exact hx)
theorem nodup_putB {l : List PB} (p : Int × Int) (b : Bool) (h : (l.map (·.1)).Nodup) : ((putB l p b).map (·.1)).Nodup := by
  rw [keys_putB]
  by_cases z : p ∈ l.map (·.1)
  · rw [if_pos z]; exact h
  · rw [if_neg z]
    exact nodup_snoc' h z
theorem len_putB (l : List PB) (p : Int × Int) (b : Bool) : (putB l p b).length ≤ l.length + 1 := by
  unfold putB
  split <;> simp
theorem mem_lookB : ∀ {l : List PB} {p : Int × Int} {b : Bool}, (l.map (·.1)).Nodup → ((p, b) ∈ l ↔ lookB l p = some b)
  | [], p, b, _ => by simp [lookB]
  | e :: l, p, b, h => by
    have h' : (e.1 :: l.map (·.1)).Nodup := h
    obtain ⟨h1, h2⟩ := List.nodup_cons.mp h'
    rw [lookB_cons, List.mem_cons]
    by_cases z : e.1 = p
    · rw [if_pos z]
      constructor
      · rintro (w | w)
        · rw [← w]
        · exact absurd (List.mem_map.mpr ⟨_, w, z.symm⟩) h1
      · intro w
        left
        have := Option.some.inj w
        rw [← this, ← z]
    · rw [if_neg z, ← mem_lookB h2]
      constructor
      · rintro (w | w)
        · exact absurd (by rw [← w]) z
        · exact w
      · exact Or.inr
end Ar
namespace Ar
open PySem PySem.Spec L2
local macro_rules | `(tactic| walk_at "g1") => `(tactic| first
  | refine ⟨_, rfl, ?_⟩
  | refine ⟨_, _, rfl, rfl, ?_⟩
  | refine ⟨(by show (0 : Int) < _; decide), ?_⟩
  | refine ⟨⟨by decide, by decide⟩, ?_⟩
  | refine ⟨(show CMul _ _ from .inl ⟨by omega, by omega⟩), ?_⟩
  | refine ⟨(show CMul _ _ from .inr ⟨by omega, by omega⟩), ?_⟩
  | refine ⟨(show (_ : Int) ≠ 0 by decide), ?_⟩
  | refine ⟨sz2, ?_⟩
  | refine ⟨sz0, ?_⟩
  | refine ⟨sz3, ?_⟩)
local macro_rules | `(tactic| walk_at "ty") => `(tactic| first | exact .int _ | exact .bl _ | exact .tup (by assumption) | exact .lst (by assumption))
local macro_rules | `(tactic| walk_at "isT") => `(tactic| refine ⟨_, _, _, _, true, rfl, .ty _, .base (by walk_at "ty"), kit_ty (by decide +kernel), ?_⟩)
local macro_rules | `(tactic| walk_at "isF") => `(tactic| refine ⟨_, _, _, _, false, rfl, .ty _, .base (by walk_at "ty"), kit_ty (by decide +kernel), ?_⟩)
local macro_rules | `(tactic| walk_at "cell") => `(tactic| ((repeat walk_at "g1"); refine ⟨_, _, _, rfl, (by assumption), (by assumption), (by first | decide | omega), ?_⟩; repeat walk_at "g1"))
local macro_rules | `(tactic| walk_at "go") => `(tactic| repeat walk_at "g1")
def t_Net_has (K : PySem.W.Frag) : TS :=
  (tRet (tAndV (tOp oLe (tC (.int 0)) (tVar 1)) (tOp oLt (tVar 1) (tFld K (tVar 0) "many"))))
def t_Net_init (K : PySem.W.Frag) (E : XK) : TS :=
  (tSeq (tIfS (tOr (tTest (tOp oLt (tVar 1) (tC (.int 0)))) (tTest (tOp oGt (tVar 1) (tC (.int 24))))) (tRaise (He.ga K "NoPoints") E) tNext) (tSeq (sFld K (tVar 0) (tVar 1) "many") (tSeq (sFld K (tVar 0) tDNewT "both") (tFor (iList K (tVar 2)) (gTup K 2 (gCons (gName 3) (gCons (gName 4) gNil))) (tSeq (tIfS (tOr (tNot (tB (tMeth (cNet K) "has" (sp_Net_has K) [] E0 (tVar 0) (tCons (tVar 3) tNil)))) (tOr (tNot (tB (tMeth (cNet K) "has" (sp_Net_has K) [] E0 (tVar 0) (tCons (tVar 4) tNil)))) (tTest (tOp rEq (tVar 3) (tVar 4))))) (tRaise (He.ga K "NoTie") E) tNext) (tSeq (tIfS (tB (tDIn (tTup (tCons (tVar 3) (tCons (tVar 4) tNil))) (tFld K (tVar 0) "both"))) (tRaise (He.ga K "TwiceTold") E) tNext) (tSeq (sDPut (tFld K (tVar 0) "both") (tTup (tCons (tVar 3) (tCons (tVar 4) tNil))) (tC (.bl true))) (sDPut (tFld K (tVar 0) "both") (tTup (tCons (tVar 4) (tCons (tVar 3) tNil))) (tC (.bl true))))))))))
def t_Net_tied (K : PySem.W.Frag) (E : XK) : TS :=
  (tSeq (tIfS (tOr (tNot (tB (tMeth (cNet K) "has" (sp_Net_has K) [] E0 (tVar 0) (tCons (tVar 1) tNil)))) (tNot (tB (tMeth (cNet K) "has" (sp_Net_has K) [] E0 (tVar 0) (tCons (tVar 2) tNil))))) (tRaise (He.ga K "NoPoint") E) tNext) (tRet (tDIn (tTup (tCons (tVar 1) (tCons (tVar 2) tNil))) (tFld K (tVar 0) "both"))))
def t_both (K : PySem.W.Frag) : TS :=
  (tSeq (tAsg tDNewT (gName 1)) (tSeq (tFor (iList K (tVar 0)) (gName 2) (tSeq (sDPut (tVar 1) (tVar 2) (tC (.bl true))) (sDPut (tVar 1) (tTup (tCons (tOp (rIxT K) (tVar 2) (tC (.int 1))) (tCons (tOp (rIxT K) (tVar 2) (tC (.int 0))) tNil))) (tC (.bl true))))) (tRet (tVar 1))))
/-! ### ties told both ways -/
theorem mem_bothL : ∀ (ps l : List (Int × Int)) (q : Int × Int), q ∈ bothL l ps ↔ q ∈ l ∨ Adj ps q.1 q.2
  | [], l, q => by simp [bothL, Adj]
  | p :: ps, l, q => by
    show q ∈ bothL (addP (addP l p) (p.2, p.1)) ps ↔ _
    rw [mem_bothL ps, mem_addP, mem_addP]
    unfold Adj
    simp only [List.mem_cons]
    constructor
    · rintro (((h | rfl) | rfl) | h)
      · exact .inl h
      · exact .inr (.inl (.inl rfl))
      · exact .inr (.inr (.inl rfl))
      · exact .inr (h.imp .inr .inr)
    · rintro (h | (h | h) | (h | h))
      · exact .inl (.inl (.inl h))
      · exact .inl (.inl (.inr h))
      · exact .inr (.inl h)
      · refine .inl (.inr ?_)
        rw [← h]
      · exact .inr (.inr h)
theorem nodup_bothL : ∀ (ps l : List (Int × Int)), l.Nodup → (bothL l ps).Nodup
  | [], l, h => h
  | p :: ps, l, h => nodup_bothL ps _ (nodup_addP _ (nodup_addP _ h))
theorem len_bothL : ∀ (ps l : List (Int × Int)), (bothL l ps).length ≤ l.length + 2 * ps.length
  | [], l => by simp [bothL]
  | p :: ps, l => by
    have h := len_bothL ps (addP (addP l p) (p.2, p.1))
    have h1 := len_addP l p
    have h2 := len_addP (addP l p) (p.2, p.1)
    show (bothL (addP (addP l p) (p.2, p.1)) ps).length ≤ _
    simp only [List.length_cons]
    omega
theorem bothL_ok (ps : List (Int × Int)) : BothOf ps (bothL [] ps) := ⟨nodup_bothL ps [] .nil, fun a b => by rw [mem_bothL]; simp⟩
theorem bothL_snoc (l ps : List (Int × Int)) (p : Int × Int) : bothL l (ps ++ [p]) = addP (addP (bothL l ps) p) (p.2, p.1) := by
  unfold bothL
  rw [List.foldl_append] <;> rfl
theorem Ties.good {n : Nat} {ps l : List (Int × Int)} (t : Ties n ps) (b : BothOf ps l) : GoodL n l := by
  refine ⟨b.nd, fun x y h => (b.mem _ _).mpr ((b.mem _ _).mp h).symm, fun x y h => ?_⟩
  rcases (b.mem _ _).mp h with h | h
  · obtain ⟨h1, h2, h3, h4, h5⟩ := t.ok _ h
    exact ⟨h1, h2, h5⟩
  · obtain ⟨h1, h2, h3, h4, h5⟩ := t.ok _ h
    exact ⟨h3, h4, h5.symm⟩
theorem tieRes_ok (n : Int) : ∀ (ps l : List (Int × Int)), (∀ p ∈ ps, 0 ≤ p.1 ∧ p.1 < n ∧ 0 ≤ p.2 ∧ p.2 < n ∧ p.1 ≠ p.2) → ps.Pairwise (fun p q => p ≠ q ∧ p ≠ (q.2, q.1)) → (∀ p ∈ ps, p ∉ l) → tieRes n l ps = 0
  | [], l, _, _, _ => rfl
  | p :: ps, l, h1, h2, h3 => by
    obtain ⟨h4, h5⟩ := List.pairwise_cons.mp h2
    show (if 0 ≤ p.1 ∧ p.1 < n ∧ 0 ≤ p.2 ∧ p.2 < n ∧ p.1 ≠ p.2 then (if p ∈ l then 2 else tieRes n (addP (addP l p) (p.2, p.1)) ps) else 1) = 0
    rw [if_pos (h1 p List.mem_cons_self), if_neg (h3 p List.mem_cons_self)]
    refine tieRes_ok n ps _ (fun q hq => h1 q (List.mem_cons_of_mem _ hq)) h5 fun q hq => ?_
    rw [mem_addP, mem_addP]
    rintro ((z | z) | z)
    · exact h3 q (List.mem_cons_of_mem _ hq) z
    · exact (h4 q hq).1 z.symm
    · exact (h4 q hq).2 (by rw [z])
theorem Ties.res {n : Nat} {ps : List (Int × Int)} (t : Ties n ps) : tieRes n [] ps = 0 := tieRes_ok n ps [] t.ok t.once fun _ _ h => nomatch h
variable {K : PySem.W.Frag} {vs : List V} {H : Hp} {Q : VK} {E : XK}
theorem len_both (h : sp_both K vs H Q E) : vs.length = 1 := by
  obtain ⟨a, xs, ps, rfl, _⟩ := h
  rfl
theorem pure_both (h : sp_both K vs H Q E) : t_both K (ends Q) (st 3 vs) H := by
  obtain ⟨a, xs, ps, rfl, hs, ht, hl, q⟩ := h
  have lx : xs.length = ps.length := by rw [paired_len ht]; simp
  refine fun dd ndd => ?_
  generalize e1 : upd _ dd _ = H1
  have s1 := Same.of_eq e1 ndd
  replace e1 := new_at e1
  refine ⟨_, rfl, a, rfl, ⟨_, SqL.of (s1 _ _ hs)⟩, for_list (K := K) (a := a) (xs := xs) (fun i σ G => ∃ (o2 : Option V), σ = [some (.ref a), some (.ref dd), o2] ∧ Same H G ∧ G dd = some (.dT (hk (bothL [] (ps.take i)))))
    ⟨_, rfl, s1, e1⟩ (fun i σ G _ ⟨_, _, s, _⟩ => SqL.of (s _ _ hs)) ?_ ?_⟩
  · rintro i x σ G hx ⟨o2, rfl, s0, hd⟩
    obtain ⟨p, hp, t, rfl, htp⟩ := TLp.at ht hx
    have htp0 := s0 _ _ htp
    have hi := lt_of_get hp
    have ll := len_bothL (ps.take i) []
    rw [List.length_take] at ll
    have l2 := len_addP (bothL [] (ps.take i)) p
    simp only [List.length_nil] at ll
    have tne : t ≠ dd := fun z => by rw [z, hd] at htp0; cases htp0
    walk_at "go"
    refine ⟨_, _, rfl, DPut.t (k := kp p) hd htp0 (lin' (by simp [hk]; omega)), ?_⟩
    rw [putK_hk]
    have htp1 : upd G dd (.dT (hk (addP (bothL [] (ps.take i)) p))) t = some (.tup [.int p.1, .int p.2]) := by rw [upd_ne tne]; exact htp0
    walk_at "go"
    refine ⟨_, _, _, _, rfl, rfl, SqT.of htp1, at1, ?_⟩
    walk_at "go"
    refine ⟨_, _, _, _, rfl, rfl, SqT.of htp1, at0, ?_⟩
    walk_at "go"
    refine fun u nu => ?_
    generalize e2 : upd _ u _ = G2
    have s2 := Same.of_eq e2 nu
    replace e2 := new_at e2
    refine ⟨_, _, rfl, DPut.t (k := kp (p.2, p.1)) (s2 _ _ upd_same) e2 (lin' (by simp [hk]; omega)), ?_⟩
    rw [putK_hk, ← bothL_snoc, ← take_snoc hp]
    exact ⟨_, rfl, ((s0.mut ndd).trans s2).mut ndd, upd_same⟩
  · rintro σ G ⟨o2, rfl, s0, hd⟩
    rw [lx, List.take_length] at hd
    walk_at "go"
    exact q _ dd G (bothL_ok ps) ndd s0 hd
theorem len_Net_has (h : sp_Net_has K vs H Q E) : vs.length = 2 := by
  obtain ⟨o, dx, fs, n, p, rfl, _⟩ := h
  rfl
theorem pure_Net_has (N : NetC K) (h : sp_Net_has K vs H Q E) : t_Net_has K (ends Q) (st 2 vs) H := by
  obtain ⟨o, dx, fs, n, p, rfl, ho, hf, q⟩ := h
  walk_at "go"
  refine iteD (fun c => ?_) fun c => ?_
  · walk_at "go"
    refine ⟨o, _, dx, _, _, rfl, ho, N.cl, N.nM, hf, ?_⟩
    walk_at "go"
    rw [decide_eq_true c] at q
    exact q
  · rw [decide_eq_false c] at q
    exact q
theorem len_Net_init (h : sp_Net_init K vs H Q E) : vs.length = 3 := by
  obtain ⟨o, dx, tl, m, xs, ps, rfl, _⟩ := h
  rfl
theorem andD (a b : Prop) [Decidable a] [Decidable b] : (decide a && decide b) = decide (a ∧ b) := by
  by_cases h1 : a <;> by_cases h2 : b <;> simp [h1, h2]
theorem pure_Net_init (N : NetC K) (h : sp_Net_init K vs H Q E) : t_Net_init K E (ends Q) (st 5 vs) H := by
  obtain ⟨o, dx, tl, m, xs, ps, rfl, ho, hs, ht, hl, q1, q2, q3, q4⟩ := h
  have lx : xs.length = ps.length := by rw [paired_len ht]; simp
  have bad : (m < 0 ∨ 24 < m) → E (.ref (He.ga K "NoPoints")) none H := q1
  walk_at "go"
  refine iteD (fun c => bad (.inl c)) fun c1 => ?_
  walk_at "go"
  refine iteD (fun c => bad (.inr c)) fun c2 => ?_
  walk_at "go"
  refine ⟨o, _, dx, [], rfl, ho, N.cl, N.nM, (by show 0 < 1000; decide), ?_⟩
  refine fun d nd => ?_
  generalize e1 : upd _ d _ = H1
  have s1 := Same.of_eq e1 nd
  replace e1 := new_at e1
  have nod : o ≠ d := fun z => by rw [← z, upd_same] at nd; cases nd
  have nd0 : H d = none := by rw [upd_ne nod.symm] at nd; exact nd
  refine ⟨_, rfl, o, _, dx, _, rfl, s1 _ _ upd_same, N.cl, N.nB, (by show 1 < 1000; decide), ?_⟩
  have k0 : ∀ b u, b ≠ o → H b = some u → upd H1 o (.ins (cNet K) dx (nflds m d)) b = some u := fun b u hb e => by
    rw [upd_ne hb]
    exact s1 _ _ (by rw [upd_ne hb]; exact e)
  have ntl : tl ≠ o := ne_of hs ho (by intro z; cases z)
  refine ⟨_, rfl, tl, rfl, ⟨_, SqL.of (k0 _ _ ntl hs)⟩, for_list (K := K) (a := tl) (xs := xs) (fun i σ G => ∃ (o3 o4 : Option V), σ = [some (.ref o), some (.int m), some (.ref tl), o3, o4] ∧ (∀ b u, b ≠ o → H b = some u → G b = some u) ∧
      G o = some (.ins (cNet K) dx (nflds m d)) ∧ G d = some (.dT (hk (bothL [] (ps.take i)))) ∧ tieRes m [] ps = tieRes m (bothL [] (ps.take i)) (ps.drop i))
    ⟨_, _, rfl, k0, upd_same, by rw [upd_ne nod.symm]; exact e1, rfl⟩ (fun i σ G _ ⟨_, _, _, s, _⟩ => SqL.of (s _ _ ntl hs)) ?_ ?_⟩
  · rintro i x σ G hx ⟨o3, o4, rfl, s0, hO, hd, hr⟩
    obtain ⟨p, hp, t, rfl, htp⟩ := TLp.at ht hx
    have hi := lt_of_get hp
    have tno : t ≠ o := ne_of htp ho (by intro z; cases z)
    have htp0 := s0 _ _ tno htp
    have ll := len_bothL (ps.take i) []
    rw [List.length_take] at ll
    have l2 := len_addP (bothL [] (ps.take i)) p
    simp only [List.length_nil] at ll
    have ed : ps.drop i = p :: ps.drop (i + 1) := by
      obtain ⟨h1, h2⟩ := List.getElem?_eq_some_iff.mp hp
      rw [← h2]
      exact List.drop_eq_getElem_cons h1
    rw [ed] at hr
    have hr : tieRes m [] ps = if 0 ≤ p.1 ∧ p.1 < m ∧ 0 ≤ p.2 ∧ p.2 < m ∧ p.1 ≠ p.2 then (if p ∈ bothL [] (ps.take i) then 2 else tieRes m (addP (addP (bothL [] (ps.take i)) p) (p.2, p.1)) (ps.drop (i + 1))) else 1 := hr
    have no : ¬ (0 ≤ p.1 ∧ p.1 < m ∧ 0 ≤ p.2 ∧ p.2 < m ∧ p.1 ≠ p.2) → ∀ G', Same G G' → E (.ref (He.ga K "NoTie")) none G' := fun z G' s => q2 G' (fun b u hb e => s _ _ (s0 b u hb e)) (by omega) (by omega) (by rw [hr, if_neg z])
    refine ⟨_, _, rfl, SqT.of htp0, rfl, _, _, rfl, _, _, rfl, rfl, ?_⟩
    refine ⟨_, rfl, o, dx, _, rfl, hO, nflds_no _ _ (by decide +kernel) (by decide +kernel), _, rfl, o, dx, _, m, p.1, rfl, hO, nflds_many _ _, _, rfl, ?_⟩
    rw [andD]
    refine iteDn (fun c => no (by omega) _ (Same.refl _)) fun h1 => ?_
    refine ⟨_, rfl, o, dx, _, rfl, hO, nflds_no _ _ (by decide +kernel) (by decide +kernel), _, rfl, o, dx, _, m, p.2, rfl, hO, nflds_many _ _, _, rfl, ?_⟩
    rw [andD]
    refine iteDn (fun c => no (by omega) _ (Same.refl _)) fun h2 => ?_
    walk_at "go"
    refine ⟨rfl, _, rfl, iteE (fun c => no (by omega) _ (Same.refl _)) fun h3 => ?_⟩
    rw [if_pos ⟨h1.1, h1.2, h2.1, h2.2, h3⟩] at hr
    walk_at "go"
    refine fun t1 nt1 => ?_
    generalize e1 : upd _ t1 _ = G1
    have s1 := Same.of_eq e1 nt1
    replace e1 := new_at e1
    refine ⟨_, rfl, o, _, dx, _, _, rfl, s1 _ _ hO, N.cl, N.nB, nflds_both _ _, _, _, rfl, DGet.t (k := kp p) (s1 _ _ hd) e1, _, rfl, ?_⟩
    rw [some_hk]
    refine iteD (fun c => q3 G1 (fun b u hb e => s1 _ _ (s0 b u hb e)) (by omega) (by omega) (by rw [hr, if_pos c])) fun h4 => ?_
    rw [if_neg h4] at hr
    refine ⟨_, rfl, o, _, dx, _, _, rfl, s1 _ _ hO, N.cl, N.nB, nflds_both _ _, ?_⟩
    walk_at "go"
    refine fun t2 nt2 => ?_
    generalize e2 : upd _ t2 _ = G2
    have s2 := Same.of_eq e2 nt2
    replace e2 := new_at e2
    have hd2 := s2 _ _ (s1 _ _ hd)
    refine ⟨_, _, rfl, DPut.t (k := kp p) hd2 e2 (lin' (by simp [hk]; omega)), ?_⟩
    rw [putK_hk]
    generalize eG : upd G2 d (.dT (hk (addP (bothL [] (ps.take i)) p))) = G3
    have hd3 : G3 d = some (.dT (hk (addP (bothL [] (ps.take i)) p))) := by rw [← eG, upd_same]
    have k3 : ∀ b u, b ≠ d → G b = some u → G3 b = some u := fun b u hb e => by rw [← eG, upd_ne hb]; exact s2 _ _ (s1 _ _ e)
    have hO3 := k3 _ _ nod hO
    refine ⟨_, rfl, o, _, dx, _, _, rfl, hO3, N.cl, N.nB, nflds_both _ _, ?_⟩
    walk_at "go"
    refine fun t3 nt3 => ?_
    generalize e4 : upd _ t3 _ = G4
    have s4 := Same.of_eq e4 nt3
    replace e4 := new_at e4
    refine ⟨_, _, rfl, DPut.t (k := kp (p.2, p.1)) (s4 _ _ hd3) e4 (lin' (by simp [hk]; omega)), ?_⟩
    rw [putK_hk, ← bothL_snoc, ← take_snoc hp]
    refine ⟨_, _, rfl, fun b u hb e => ?_, ?_, upd_same, ?_⟩
    · have hbd : b ≠ d := fun z => by rw [z, nd0] at e; cases e
      rw [upd_ne hbd]
      exact s4 _ _ (k3 _ _ hbd (s0 b u hb e))
    · rw [upd_ne nod]
      exact s4 _ _ hO3
    · rw [hr, take_snoc hp, bothL_snoc]
  · rintro σ G ⟨o3, o4, rfl, s0, hO, hd, hr⟩
    rw [lx, List.take_length] at hd
    rw [lx, List.take_length, List.drop_length] at hr
    exact q4 G d s0 (by omega) (by omega) hr hO hd
theorem len_Net_tied (h : sp_Net_tied K vs H Q E) : vs.length = 3 := by
  obtain ⟨v, n, l, a, b, rfl, _⟩ := h
  rfl
theorem pure_Net_tied (N : NetC K) (h : sp_Net_tied K vs H Q E) : t_Net_tied K E (ends Q) (st 3 vs) H := by
  obtain ⟨v, n, l, a, b, rfl, ⟨o, dx, d, rfl, hO, hd, g, hn⟩, q1, q2⟩ := h
  refine ⟨_, rfl, o, dx, _, rfl, hO, nflds_no _ _ (by decide +kernel) (by decide +kernel), _, rfl, o, dx, _, n, a, rfl, hO, nflds_many _ _, _, rfl, ?_⟩
  rw [andD]
  refine iteDn (fun c => q2 fun z => c z.1) fun h1 => ?_
  refine ⟨_, rfl, o, dx, _, rfl, hO, nflds_no _ _ (by decide +kernel) (by decide +kernel), _, rfl, o, dx, _, n, b, rfl, hO, nflds_many _ _, _, rfl, ?_⟩
  rw [andD]
  refine iteDn (fun c => q2 fun z => c z.2) fun h2 => ?_
  walk_at "go"
  refine fun t1 nt1 => ?_
  generalize e1 : upd _ t1 _ = G1
  have s1 := Same.of_eq e1 nt1
  replace e1 := new_at e1
  refine ⟨_, rfl, o, _, dx, _, _, rfl, s1 _ _ hO, N.cl, N.nB, nflds_both _ _, _, _, rfl, DGet.t (k := kp (a, b)) (s1 _ _ hd) e1, ?_⟩
  rw [some_hk]
  exact q1 ⟨h1, h2⟩ _ s1
end Ar
namespace Ar
open PySem PySem.Spec L2
local macro_rules | `(tactic| walk_at "g1") => `(tactic| first
  | refine ⟨_, rfl, ?_⟩
  | refine ⟨_, _, rfl, rfl, ?_⟩
  | refine ⟨(by show (0 : Int) < _; decide), ?_⟩
  | refine ⟨⟨by decide, by decide⟩, ?_⟩
  | refine ⟨(show CMul _ _ from .inl ⟨by omega, by omega⟩), ?_⟩
  | refine ⟨(show CMul _ _ from .inr ⟨by omega, by omega⟩), ?_⟩
  | refine ⟨(show (_ : Int) ≠ 0 by decide), ?_⟩
  | refine ⟨sz2, ?_⟩
  | refine ⟨sz0, ?_⟩
  | refine ⟨sz3, ?_⟩)
local macro_rules | `(tactic| walk_at "ty") => `(tactic| first | exact .int _ | exact .bl _ | exact .tup (by assumption) | exact .lst (by assumption))
local macro_rules | `(tactic| walk_at "isT") => `(tactic| refine ⟨_, _, _, _, true, rfl, .ty _, .base (by walk_at "ty"), kit_ty (by decide +kernel), ?_⟩)
local macro_rules | `(tactic| walk_at "isF") => `(tactic| refine ⟨_, _, _, _, false, rfl, .ty _, .base (by walk_at "ty"), kit_ty (by decide +kernel), ?_⟩)
local macro_rules | `(tactic| walk_at "cell") => `(tactic| ((repeat walk_at "g1"); refine ⟨_, _, _, rfl, (by assumption), (by assumption), (by first | decide | omega), ?_⟩; repeat walk_at "g1"))
local macro_rules | `(tactic| walk_at "go") => `(tactic| repeat walk_at "g1")
def t_Net_pairs (K : PySem.W.Frag) : TS :=
  (tRet (tCB (rSortD K) (tCons (tLc (iList K (tCB cListT (tCons (tFld K (tVar 0) "both") tNil))) (gName 1) (tTest (tOp oLt (tOp (rIxT K) (tVar 1) (tC (.int 0))) (tOp (rIxT K) (tVar 1) (tC (.int 1))))) (tVar 1) [1]) tNil)))
def t_Net_near (K : PySem.W.Frag) (E : XK) : TS :=
  (tSeq (tIfS (tNot (tB (tMeth (cNet K) "has" (sp_Net_has K) [] E0 (tVar 0) (tCons (tVar 1) tNil)))) (tRaise (He.ga K "NoPoint") E) tNext) (tRet (tLc (iRng1 (tCons (tFld K (tVar 0) "many") tNil)) (gName 2) (tB (tDIn (tTup (tCons (tVar 1) (tCons (tVar 2) tNil))) (tFld K (tVar 0) "both"))) (tVar 2) [2])))
def t_opposite (K : PySem.W.Frag) : TS :=
  (tSeq (tAsg (tLst tNil) (gName 1)) (tSeq (tFor (iRng1 (tCons (tFld K (tVar 0) "many") tNil)) (gName 2) (tFor (iRng2 (tCons (tOp oAdd (tVar 2) (tC (.int 1))) (tCons (tFld K (tVar 0) "many") tNil))) (gName 3) (tIfS (tNot (tB (tMeth (cNet K) "tied" (sp_Net_tied K) [] E0 (tVar 0) (tCons (tVar 2) (tCons (tVar 3) tNil))))) (tDrop (tBM K "list" rAppend (tVar 1) (tCons (tTup (tCons (tVar 2) (tCons (tVar 3) tNil))) tNil))) tNext))) (tRet (tMake (cNet K) (sp_Net_init K) [] E0 (tCons (tFld K (tVar 0) "many") (tCons (tVar 1) tNil))))))
def t_built (K : PySem.W.Frag) : TS :=
  (tSeq (tIfS (tTest (tOp rNe (tOp oMod (tVar 2) (tC (.int 6))) (tC (.int 1)))) (tRet (tMake (cNet K) (sp_Net_init K) [] E0 (tCons (tVar 0) (tCons (tCB (cList K) (tCons (tVar 1) tNil)) tNil)))) tNext) (tSeq (tAsg (tCall (sp_both K) [] E0 (tCons (tVar 1) tNil)) (gName 3)) (tSeq (tAsg (tLst tNil) (gName 4)) (tSeq (tFor (iRng1 (tCons (tVar 0) tNil)) (gName 5) (tAsg (tOp rCat (tVar 4) (tLc (iRng1 (tCons (tVar 5) tNil)) (gName 6) (tB (tDNotIn (tTup (tCons (tVar 5) (tCons (tVar 6) tNil))) (tVar 3))) (tTup (tCons (tVar 5) (tCons (tVar 6) tNil))) [6])) (gName 4))) (tRet (tCall (sp_opposite K) [] E0 (tCons (tMake (cNet K) (sp_Net_init K) [] E0 (tCons (tVar 0) (tCons (tVar 4) tNil))) tNil)))))))
/-! ### how many -/
theorem len_le_sub {α : Type} [DecidableEq α] : ∀ {l m : List α}, l.Nodup → (∀ x ∈ l, x ∈ m) → l.length ≤ m.length
  | [], m, _, _ => Nat.zero_le _
  | a :: l, m, h, s => by
    obtain ⟨h1, h2⟩ := List.nodup_cons.mp h
    have ha : a ∈ m := s a List.mem_cons_self
    have ih := len_le_sub (l := l) (m := m.erase a) h2 fun x hx => (List.mem_erase_of_ne (fun z => by subst z; exact h1 hx)).mpr (s x (List.mem_cons_of_mem _ hx))
    rw [List.length_erase_of_mem ha] at ih
    have : 0 < m.length := List.length_pos_of_mem ha
    simp only [List.length_cons]
    omega
def gridP (n : Nat) : List (Int × Int) := (List.range n).flatMap fun (i : Nat) => (List.range n).map fun (j : Nat) => (((i : Nat) : Int), ((j : Nat) : Int))
theorem mem_gridP {n : Nat} {a b : Int} (h1 : 0 ≤ a) (h2 : a < n) (h3 : 0 ≤ b) (h4 : b < n) : (a, b) ∈ gridP n := by
  unfold gridP
  refine List.mem_flatMap.mpr ⟨a.toNat, List.mem_range.mpr (by omega), List.mem_map.mpr ⟨b.toNat, List.mem_range.mpr (by omega), ?_⟩⟩
  rw [Int.toNat_of_nonneg h1, Int.toNat_of_nonneg h3]
theorem len_gridP (n : Nat) : (gridP n).length = n * n := by
  unfold gridP
  rw [List.length_flatMap]
  have : ∀ l : List Nat, (l.map fun i : Nat => ((List.range n).map fun j : Nat => ((i : Int), (j : Int))).length).sum = l.length * n := fun l => by
    induction l with
    | nil => simp
    | cons a l ih =>
      rw [List.map_cons, List.sum_cons, ih, List.length_map, List.length_range, List.length_cons, Nat.succ_mul]
      omega
  rw [this, List.length_range]
theorem few_in {n : Nat} {l : List (Int × Int)} (hn : n ≤ 24) (h : l.Nodup) (r : ∀ p ∈ l, 0 ≤ p.1 ∧ p.1 < n ∧ 0 ≤ p.2 ∧ p.2 < n) : l.length ≤ 576 := by
  have h1 := len_le_sub (m := gridP n) h fun p hp => by
    obtain ⟨a, b, c, d⟩ := r p hp
    exact mem_gridP a b c d
  rw [len_gridP] at h1
  have := Nat.mul_le_mul hn hn
  omega
theorem GoodL.few {n : Nat} {l : List (Int × Int)} (g : GoodL n l) (hn : n ≤ 24) : l.length ≤ 576 := few_in hn g.nd fun p hp => by
  obtain ⟨h1, h2, h3⟩ := g.rng p.1 p.2 hp
  obtain ⟨h4, h5, h6⟩ := g.rng p.2 p.1 (g.sym _ _ hp)
  exact ⟨h1, h2, h4, h5⟩
theorem Ties.few {n : Nat} {ps : List (Int × Int)} (t : Ties n ps) (hn : n ≤ 24) : ps.length ≤ 576 := few_in hn (t.once.imp fun h => h.1) fun p hp => by
  obtain ⟨h1, h2, h3, h4, h5⟩ := t.ok p hp
  exact ⟨h1, h2, h3, h4⟩
theorem perm_p2 {ms : List (List Int)} {fs : List (Int × Int)} (h : ms.Perm (fs.map p2)) : ∃ qs : List (Int × Int), ms = qs.map p2 ∧ qs.Perm fs := by
  refine ⟨ms.map fun ns => (ns.getD 0 0, ns.getD 1 0), ?_, ?_⟩
  · rw [List.map_map]
    have : ms.map ((p2) ∘ fun ns => (ns.getD 0 0, ns.getD 1 0)) = ms.map id := List.map_congr_left fun ns hn => by
      obtain ⟨p, _, rfl⟩ := List.mem_map.mp (h.mem_iff.mp hn)
      rfl
    rw [this, List.map_id]
  · have h2 := h.map fun ns => (ns.getD 0 0, ns.getD 1 0)
    rw [List.map_map] at h2
    have : fs.map ((fun ns => (ns.getD 0 0, ns.getD 1 0)) ∘ p2) = fs.map id := List.map_congr_left fun p _ => rfl
    rw [this, List.map_id] at h2
    exact h2
/-- the pairs of points that are not tied, the lesser first, as far as (i, j) -/
def Opq (l : List (Int × Int)) (n i j : Nat) (ps : List (Int × Int)) : Prop := ps.Nodup ∧ ∀ a b : Int, (a, b) ∈ ps ↔ (0 ≤ a ∧ a < b) ∧ (a < i ∧ b < n ∨ a = i ∧ b < j) ∧ (a, b) ∉ l
/-- the pairs of points that are not tied, the greater first -/
def Opr (l : List (Int × Int)) (n i : Nat) (ps : List (Int × Int)) : Prop := ps.Nodup ∧ ∀ a b : Int, (a, b) ∈ ps ↔ (0 ≤ b ∧ b < a) ∧ a < i ∧ (a, b) ∉ l
theorem Opq.ties {l ps : List (Int × Int)} {n i j : Nat} (h : Opq l n i j ps) (hi : i ≤ n) (hj : j ≤ n) : Ties n ps := by
  refine ⟨fun p hp => ?_, List.Pairwise.imp_of_mem (fun {p q} hp hq ne => ⟨ne, fun z => ?_⟩) h.1⟩
  · have := (h.2 p.1 p.2).mp hp
    omega
  · have h1 := (h.2 p.1 p.2).mp hp
    have h2 := (h.2 q.1 q.2).mp hq
    rw [z] at h1
    dsimp only at h1
    omega
theorem Opq.to {l ps : List (Int × Int)} {n i j i' j' : Nat} (h : Opq l n i j ps) (e : ∀ a b : Int, 0 ≤ a ∧ a < b → (a < i ∧ b < n ∨ a = i ∧ b < j ↔ a < i' ∧ b < n ∨ a = i' ∧ b < j')) : Opq l n i' j' ps := by
  refine ⟨h.1, fun a b => ?_⟩
  rw [h.2]
  exact ⟨fun h => ⟨h.1, (e _ _ h.1).mp h.2.1, h.2.2⟩, fun h => ⟨h.1, (e _ _ h.1).mpr h.2.1, h.2.2⟩⟩
theorem Opq.put {l ps : List (Int × Int)} {n i j : Nat} (h : Opq l n i j ps) (hj : j < n) (hi : i + 1 ≤ j) (c : ((i : Int), (j : Int)) ∉ l) : Opq l n i (j + 1) (ps ++ [((i : Int), (j : Int))]) := by
  refine ⟨nd_snoc h.1 fun z => ?_, fun a b => ?_⟩
  · have := (h.2 _ _).mp z
    omega
  · rw [List.mem_append, h.2, List.mem_singleton, Prod.mk.injEq]
    constructor
    · rintro (h | ⟨rfl, rfl⟩)
      · exact ⟨h.1, by omega, h.2.2⟩
      · exact ⟨by omega, by omega, c⟩
    · rintro ⟨h1, h2, h3⟩
      by_cases z : a = i ∧ b = j
      · exact .inr z
      · exact .inl ⟨h1, by omega, h3⟩
theorem Opq.skip {l ps : List (Int × Int)} {n i j : Nat} (h : Opq l n i j ps) (c : ((i : Int), (j : Int)) ∈ l) : Opq l n i (j + 1) ps := by
  refine ⟨h.1, fun a b => ?_⟩
  rw [h.2]
  constructor
  · rintro ⟨h1, h2, h3⟩
    exact ⟨h1, by omega, h3⟩
  · rintro ⟨h1, h2, h3⟩
    refine ⟨h1, ?_, h3⟩
    have : ¬ (a = i ∧ b = j) := fun ⟨x, y⟩ => h3 (by rw [x, y]; exact c)
    omega
theorem Opr.ties {l ps : List (Int × Int)} {n i : Nat} (h : Opr l n i ps) (hi : i ≤ n) : Ties n ps := by
  refine ⟨fun p hp => ?_, List.Pairwise.imp_of_mem (fun {p q} hp hq ne => ⟨ne, fun z => ?_⟩) h.1⟩
  · have := (h.2 p.1 p.2).mp hp
    omega
  · have h1 := (h.2 p.1 p.2).mp hp
    have h2 := (h.2 q.1 q.2).mp hq
    rw [z] at h1
    dsimp only at h1
    omega
/-- the pairs (i, b), b below j, that are not tied -/
def RowI (l : List (Int × Int)) (i j : Nat) (ps : List (Int × Int)) : Prop := ps.Nodup ∧ ∀ a b : Int, (a, b) ∈ ps ↔ a = i ∧ (0 ≤ b ∧ b < j) ∧ (a, b) ∉ l
theorem RowI.put {l ps : List (Int × Int)} {i j : Nat} (h : RowI l i j ps) (c : ((i : Int), (j : Int)) ∉ l) : RowI l i (j + 1) (ps ++ [((i : Int), (j : Int))]) := by
  refine ⟨nd_snoc h.1 fun z => ?_, fun a b => ?_⟩
  · have := (h.2 _ _).mp z
    omega
  · rw [List.mem_append, h.2, List.mem_singleton, Prod.mk.injEq]
    constructor
    · rintro (h | ⟨rfl, rfl⟩)
      · exact ⟨h.1, by omega, h.2.2⟩
      · exact ⟨rfl, by omega, c⟩
    · rintro ⟨h1, h2, h3⟩
      by_cases z : a = i ∧ b = j
      · exact .inr z
      · exact .inl ⟨h1, by omega, h3⟩
theorem RowI.skip {l ps : List (Int × Int)} {i j : Nat} (h : RowI l i j ps) (c : ((i : Int), (j : Int)) ∈ l) : RowI l i (j + 1) ps := by
  refine ⟨h.1, fun a b => ?_⟩
  rw [h.2]
  constructor
  · rintro ⟨h1, h2, h3⟩
    exact ⟨h1, by omega, h3⟩
  · rintro ⟨h1, h2, h3⟩
    refine ⟨h1, ?_, h3⟩
    have : ¬ (a = i ∧ b = j) := fun ⟨x, y⟩ => h3 (by rw [x, y]; exact c)
    omega
theorem Opr.row {l ps rs : List (Int × Int)} {n i : Nat} (h : Opr l n i ps) (r : RowI l i i rs) : Opr l n (i + 1) (ps ++ rs) := by
  refine ⟨List.nodup_append.mpr ⟨h.1, r.1, fun p hp q hq e => ?_⟩, fun a b => ?_⟩
  · have h1 := (h.2 p.1 p.2).mp hp
    have h2 := (r.2 q.1 q.2).mp hq
    rw [e] at h1
    omega
  · rw [List.mem_append, h.2, r.2]
    constructor
    · rintro (⟨h1, h2, h3⟩ | ⟨h1, h2, h3⟩)
      · exact ⟨h1, by omega, h3⟩
      · exact ⟨by omega, by omega, h3⟩
    · rintro ⟨h1, h2, h3⟩
      by_cases z : a = i
      · exact .inr ⟨z, by omega, h3⟩
      · exact .inl ⟨h1, by omega, h3⟩
/-- Net(..) of ties that are right -/
theorem make_net {K : PySem.W.Frag} {H : Hp} {Q : VK} {E : XK} {n : Nat} {tl : Addr} {xs : List V} {ps : List (Int × Int)} (hs : H tl = some (.lst xs)) (ht : TL H xs (ps.map p2)) (t : Ties n ps) (hn : n ≤ 24)
    (q : ∀ w H', Same H H' → NetAt K H' w n (bothL [] ps) → Q w H') : ∀ x dx, H x = none → H dx = none → dx ≠ x →
    sp_Net_init K (.ref x :: ([V.int n, .ref tl] ++ [])) (upd (upd H dx (.own x)) x (.ins (cNet K) dx [])) (fun v H2 => v = .non ∧ Q (.ref x) H2) E := by
  intro x dx hx hdx ne
  have s1 : Same H (upd (upd H dx (.own x)) x (.ins (cNet K) dx [])) := (Same.new hdx).mut hx
  have lp := t.few hn
  refine ⟨x, dx, tl, n, xs, ps, rfl, upd_same, s1 _ _ hs, ht.mono s1.tk, by omega, fun c => by omega, fun H' _ _ _ c => ?_, fun H' _ _ _ c => ?_, fun H' d s2 _ _ _ ho hd => ⟨rfl, ?_⟩⟩
  · rw [t.res] at c
    cases c
  · rw [t.res] at c
    cases c
  · refine q _ _ (fun b u e => s2 b u (fun z => by rw [z, hx] at e; cases e) (s1 _ _ e)) ⟨x, dx, d, rfl, ho, hd, t.good (bothL_ok ps), hn⟩
variable {K : PySem.W.Frag} {vs : List V} {H : Hp} {Q : VK} {E : XK}
theorem len_Net_near (h : sp_Net_near K vs H Q E) : vs.length = 2 := by
  obtain ⟨v, n, l, a, rfl, _⟩ := h
  rfl
theorem pure_Net_near (N : NetC K) (h : sp_Net_near K vs H Q E) : t_Net_near K E (ends Q) (st 3 vs) H := by
  obtain ⟨v, n, l, a, rfl, ⟨o, dx, d, rfl, hO, hd, g, hn⟩, q1, q2⟩ := h
  refine ⟨_, rfl, o, dx, _, rfl, hO, nflds_no _ _ (by decide +kernel) (by decide +kernel), _, rfl, o, dx, _, n, a, rfl, hO, nflds_many _ _, _, rfl, ?_⟩
  rw [andD]
  refine iteDn (fun c => q2 c) fun h1 => ?_
  walk_at "go"
  refine ⟨o, _, dx, _, _, rfl, hO, N.cl, N.nM, nflds_many _ _, _, rfl, by omega, by omega, fun D hD => ?_⟩
  refine lc_range (lo := 0) (n := ((n : Int)).toNat) (fun i H' => Same H H' ∧ H' D = some (.lst ((((List.range i).map Int.ofNat).filter (fun x => decide ((a, x) ∈ l))).map V.int))) ⟨Same.new hD, upd_same⟩ ?_ ?_
  · rintro i H' hi ⟨s1, hd1⟩
    have hi' : i < n := by omega
    refine ⟨rfl, ?_⟩
    walk_at "go"
    refine fun t1 nt1 => ?_
    generalize e2 : upd _ t1 _ = G1
    have s2 := Same.of_eq e2 nt1
    replace e2 := new_at e2
    refine ⟨_, rfl, o, _, dx, _, _, rfl, s2 _ _ (s1 _ _ hO), N.cl, N.nB, nflds_both _ _, _, _, rfl, DGet.t (k := kp (a, 0 + (i : Int))) (s2 _ _ (s1 _ _ hd)) e2, ?_⟩
    rw [some_hk, List.range_succ, List.map_append, List.filter_append, List.map_append]
    have e0 : (0 + (i : Int)) = Int.ofNat i := Int.zero_add _
    have es : ([i].map Int.ofNat).filter (fun x => decide ((a, x) ∈ l)) = if (a, 0 + (i : Int)) ∈ l then [Int.ofNat i] else [] := by
      rw [e0]
      show (List.filter (fun x => decide ((a, x) ∈ l)) [Int.ofNat i]) = _
      by_cases c : (a, Int.ofNat i) ∈ l
      · rw [if_pos c, List.filter_cons_of_pos (by rw [decide_eq_true c])] <;> rfl
      · rw [if_neg c, List.filter_cons_of_neg (by rw [decide_eq_false c]; exact Bool.false_ne_true)] <;> rfl
    rw [es]
    refine ⟨_, rfl, iteD (fun c => ?_) fun c => ?_⟩
    · rw [if_pos c]
      walk_at "go"
      refine ⟨_, s2 _ _ hd1, lin' ?_, (s1.trans s2).mut hD, ?_⟩
      · rw [List.length_map]
        exact Nat.lt_of_le_of_lt (List.length_filter_le _ _) (by rw [List.length_map, List.length_range]; omega)
      · rw [upd_same, e0]
        rfl
    · rw [if_neg c]
      exact ⟨s1.trans s2, by simpa using s2 _ _ hd1⟩
  · rintro H' ⟨s1, hd1⟩
    exact q1 h1 D H' _ rfl hD s1 hd1
theorem len_Net_pairs (h : sp_Net_pairs K vs H Q E) : vs.length = 1 := by
  obtain ⟨v, n, l, rfl, _⟩ := h
  rfl
theorem pure_Net_pairs (N : NetC K) (h : sp_Net_pairs K vs H Q E) : t_Net_pairs K (ends Q) (st 2 vs) H := by
  obtain ⟨v, n, l, rfl, ⟨o, dx, d, rfl, hO, hd, g, hn⟩, q⟩ := h
  have hf := g.few hn
  walk_at "go"
  refine ⟨o, _, dx, _, _, rfl, hO, N.cl, N.nB, nflds_both _ _, d, _, rfl, .inl hd, fun p bs np ik => ?_⟩
  generalize e1 : upd _ p _ = H1
  have s1 := Same.of_eq e1 np
  replace e1 := new_at e1
  have tk := (keys_tl ik).mono s1.tk
  have lb : (bs.map V.ref).length = l.length := by rw [paired_len tk]; simp
  refine ⟨_, rfl, ⟨_, SqL.of e1⟩, fun D hD => ?_⟩
  refine lc_list (K := K) (a := p) (xs := bs.map V.ref) (fun i H' => Same H1 H' ∧ ∃ ys, H' D = some (.lst ys) ∧ TL H' ys (((l.take i).filter fun q : Int × Int => decide (q.1 < q.2)).map p2)) ⟨Same.new hD, [], upd_same, .nil⟩ (fun i G _ ⟨s, _⟩ => SqL.of (s _ _ e1)) ?_ ?_
  · rintro i x G hx ⟨s2, ys, hy, ty⟩
    obtain ⟨q, hq, t, rfl, htq⟩ := TLp.at tk hx
    have htq2 := s2 _ _ htq
    refine ⟨rfl, ?_⟩
    walk_at "go"
    refine ⟨_, _, _, _, rfl, rfl, SqT.of htq2, at0, ?_⟩
    walk_at "go"
    refine ⟨_, _, _, _, rfl, rfl, SqT.of htq2, at1, ?_⟩
    walk_at "go"
    rw [take_snoc hq, List.filter_append, List.map_append]
    refine iteD (fun c => ?_) fun c => ?_
    · walk_at "go"
      have ly : ys.length ≤ l.length := by
        rw [paired_len ty, List.length_map]
        have h1 := List.length_filter_le (fun q : Int × Int => decide (q.1 < q.2)) (l.take i)
        rw [List.length_take] at h1
        omega
      refine ⟨_, hy, lin' (by omega), s2.mut hD, _, upd_same, ?_⟩
      rw [List.filter_cons_of_pos (by rw [decide_eq_true c])]
      have tkd : TK G (upd G D (.lst (ys ++ [V.ref t]))) := TK.upd fun zs z => by rw [hy] at z; cases z
      exact paired_app (ty.mono tkd) (.cons (TI.mono tkd (ti2 htq2)) .nil)
    · rw [List.filter_cons_of_neg (by rw [decide_eq_false c]; exact Bool.false_ne_true)]
      exact ⟨s2, ys, hy, by simpa using ty⟩
  · rintro G ⟨s2, ys, hy, ty⟩
    rw [lb, List.take_length] at ty
    refine ⟨D, ys, _, rfl, SqL.of hy, ty, fun ns hn => ?_, fun zs ms r tz pm pw nr => ?_⟩
    · obtain ⟨q, _, rfl⟩ := List.mem_map.mp hn
      exact fun z => nomatch z
    · obtain ⟨qs, rfl, pq⟩ := perm_p2 pm
      generalize e4 : upd _ r _ = G3
      have s4 := Same.of_eq e4 nr
      replace e4 := new_at e4
      have nd : (l.filter fun q => decide (q.1 < q.2)).Nodup := g.nd.filter _
      have r0 := rising_sorted pm pw (nodup_mapOn' nd fun a _ b _ e => p2_inj e)
      refine q r G3 zs qs ⟨r0, fun a b => ?_⟩ ?_ (s1.free (s2.free nr)) ((s1.trans s2).trans s4) e4 (tz.mono s4.tk)
      · rw [pq.mem_iff, List.mem_filter]
        simp
      · rw [pq.length_eq]
        exact Nat.le_trans (List.length_filter_le _ _) (by omega)
theorem len_opposite (h : sp_opposite K vs H Q E) : vs.length = 1 := by
  obtain ⟨v, n, l, rfl, _⟩ := h
  rfl
theorem pure_opposite (N : NetC K) (h : sp_opposite K vs H Q E) : t_opposite K (ends Q) (st 4 vs) H := by
  obtain ⟨v, n, l, rfl, ⟨o, dx, d, rfl, hO, hd, g, hn⟩, q⟩ := h
  walk_at "go"
  refine fun tl ntl => ?_
  generalize e1 : upd _ tl _ = H1
  have s1 := Same.of_eq e1 ntl
  replace e1 := new_at e1
  refine ⟨_, rfl, o, _, dx, _, _, rfl, s1 _ _ hO, N.cl, N.nM, nflds_many _ _, ?_⟩
  walk_at "go"
  refine ⟨by omega, by omega, for_n (n := ((n : Int)).toNat) (fun i σ G => ∃ (o2 o3 : Option V) (xs : List V) (ps : List (Int × Int)), σ = [some (.ref o), some (.ref tl), o2, o3] ∧ Same H G ∧ G tl = some (.lst xs) ∧ TL G xs (ps.map p2) ∧ Opq l n i 0 ps)
    ⟨_, _, [], [], rfl, s1, e1, .nil, .nil, fun a b => ⟨fun h => (nomatch h), fun h => by omega⟩⟩ ?_ ?_⟩
  · rintro i σ G hi ⟨o2, o3, xs, ps, rfl, s0, ht, tt, op⟩
    walk_at "go"
    refine ⟨o, _, dx, _, _, rfl, s0 _ _ hO, N.cl, N.nM, nflds_many _ _, ?_⟩
    walk_at "go"
    refine ⟨_, _, rfl, ⟨by omega, by omega, by omega, by omega⟩, for_m (lo := i + 1) (n := n) (fun j σ G => ∃ (o3 : Option V) (xs : List V) (ps : List (Int × Int)), σ = [some (.ref o), some (.ref tl), some (.int i), o3] ∧ Same H G ∧ G tl = some (.lst xs) ∧ TL G xs (ps.map p2) ∧ Opq l n i j ps)
      ⟨_, xs, ps, rfl, s0, ht, tt, op.to fun a b _ => by omega⟩ ?_ ?_ (by omega) (by omega)⟩
    · rintro j σ G hj hjn ⟨o3, xs, ps, rfl, s0, ht, tt, op⟩
      walk_at "go"
      refine ⟨o, dx, _, rfl, s0 _ _ hO, nflds_no _ _ (by decide +kernel) (by decide +kernel), ?_⟩
      walk_at "go"
      refine ⟨.ref o, n, l, i, j, rfl, ⟨o, dx, d, rfl, s0 _ _ hO, s0 _ _ hd, g, hn⟩, fun _ G1 s2 => ?_, fun c => c (by omega)⟩
      have ht2 := s2 _ _ ht
      refine ⟨_, rfl, iteDn (fun c => ?_) fun c => ?_⟩
      · walk_at "go"
        refine ⟨.inl ⟨rfl, _, SqL.of ht2⟩, ?_⟩
        walk_at "go"
        refine fun t nt => ?_
        generalize e3 : upd _ t _ = G2
        have s3 := Same.of_eq e3 nt
        replace e3 := new_at e3
        have ht3 := s3 _ _ ht2
        have lx : xs.length ≤ 576 := by
          rw [paired_len tt, List.length_map]
          exact (op.ties (by omega) (by omega)).few hn
        refine ⟨tl, _, _, rfl, rfl, ht3, lin' (by omega), ?_⟩
        have tkf : TK G2 (upd G2 tl (.lst (xs ++ [V.ref t]))) := TK.upd fun zs z => by rw [ht3] at z; cases z
        refine ⟨_, _, ps ++ [((i : Int), (j : Int))], rfl, ((s0.trans s2).trans s3).mut ntl, upd_same, ?_, op.put hjn hj c⟩
        rw [List.map_append]
        exact paired_app (tt.mono ((s2.tk.trans s3.tk).trans tkf)) (.cons (TI.mono tkf (ti2 e3)) .nil)
      · exact ⟨_, xs, ps, rfl, s0.trans s2, ht2, tt.mono s2.tk, op.skip c⟩
    · rintro σ G ⟨o3, xs, ps, rfl, s0, ht, tt, op⟩
      exact ⟨_, _, xs, ps, rfl, s0, ht, tt, op.to fun a b _ => by omega⟩
  · rintro σ G ⟨o2, o3, xs, ps, rfl, s0, ht, tt, op⟩
    walk_at "go"
    refine ⟨o, _, dx, _, _, rfl, s0 _ _ hO, N.cl, N.nM, nflds_many _ _, ?_⟩
    walk_at "go"
    have T := op.ties (by omega) (by omega)
    refine make_net ht tt T hn fun w G1 s2 nw => ?_
    refine q _ w G1 (fun a b => ?_) (s0.trans s2) nw
    rw [(bothL_ok ps).mem]
    unfold Adj
    rw [op.2, op.2]
    constructor
    · rintro (h | h)
      · exact ⟨by omega, by omega, by omega, h.2.2⟩
      · exact ⟨by omega, by omega, by omega, fun z => h.2.2 (g.sym _ _ z)⟩
    · rintro ⟨h1, h2, h3, h4⟩
      by_cases c : a < b
      · exact .inl ⟨by omega, by omega, h4⟩
      · exact .inr ⟨by omega, by omega, fun z => h4 (g.sym _ _ z)⟩
theorem len_built (h : sp_built K vs H Q E) : vs.length = 3 := by
  obtain ⟨n, a, c, xs, ps, rfl, _⟩ := h
  rfl
theorem pure_built (N : NetC K) (h : sp_built K vs H Q E) : t_built K (ends Q) (st 7 vs) H := by
  obtain ⟨n, a, c, xs, ps, rfl, hn, ha, tt, T, q⟩ := h
  walk_at "go"
  refine ⟨rfl, _, rfl, iteEn (fun _ => ?_) fun _ => ?_⟩
  · walk_at "go"
    refine ⟨_, _, rfl, .inl (SqL.of ha), ?_⟩
    refine fun b nb => ?_
    generalize e1 : upd _ b _ = H1
    have s1 := Same.of_eq e1 nb
    replace e1 := new_at e1
    exact make_net e1 (tt.mono s1.tk) T hn fun w G1 s2 nw => q _ w G1 (bothL_ok ps) (s1.trans s2) nw
  · walk_at "go"
    refine ⟨a, xs, ps, rfl, ha, tt, by have := T.few hn; omega, fun l d H1 B nd s1 e1 => ?_⟩
    walk_at "go"
    refine fun ol nol => ?_
    generalize e2 : upd _ ol _ = H2
    have s2 := Same.of_eq e2 nol
    replace e2 := new_at e2
    have g := T.good B
    walk_at "go"
    refine ⟨by omega, by omega, for_n (n := ((n : Int)).toNat) (fun i σ G => ∃ (t : Addr) (o5 o6 : Option V) (xs : List V) (ps : List (Int × Int)), σ = [some (.int n), some (.ref a), some (.int c), some (.ref d), some (.ref t), o5, o6] ∧ Same H2 G ∧ G t = some (.lst xs) ∧ TL G xs (ps.map p2) ∧ Opr l n i ps)
      ⟨ol, _, _, [], [], rfl, Same.refl _, e2, .nil, .nil, fun a b => ⟨fun h => (nomatch h), fun h => by omega⟩⟩ ?_ ?_⟩
    · rintro i σ G hi ⟨t, o5, o6, xs, ps, rfl, s0, ht, tt, op⟩
      walk_at "go"
      refine ⟨by omega, by omega, fun D hD => ?_⟩
      refine lc_range (lo := 0) (n := ((i : Int)).toNat) (fun j G' => Same G G' ∧ ∃ ys rs, G' D = some (.lst ys) ∧ TL G' ys (rs.map p2) ∧ RowI l i j rs)
        ⟨Same.new hD, [], [], upd_same, .nil, .nil, fun a b => ⟨fun h => (nomatch h), fun h => by omega⟩⟩ ?_ ?_
      · rintro j G1 hj ⟨s3, ys, rs, hy, ty, r⟩
        refine ⟨rfl, ?_⟩
        rw [Int.zero_add]
        walk_at "go"
        refine fun t1 nt1 => ?_
        generalize e4 : upd _ t1 _ = G2
        have s4 := Same.of_eq e4 nt1
        replace e4 := new_at e4
        refine ⟨_, rfl, _, _, rfl, DGet.t (k := kp ((i : Int), (j : Int))) (s4 _ _ (s3 _ _ (s0 _ _ (s2 _ _ e1)))) e4, _, rfl, ?_⟩
        rw [some_hk]
        have hy4 := s4 _ _ hy
        have ly : ys.length ≤ 576 := by
          rw [paired_len ty, List.length_map]
          refine few_in hn r.1 fun p hp => ?_
          have := (r.2 p.1 p.2).mp hp
          omega
        refine iteDn (fun c => ?_) fun c => ?_
        · walk_at "go"
          refine fun t2 nt2 => ?_
          generalize e5 : upd _ t2 _ = G3
          have s5 := Same.of_eq e5 nt2
          replace e5 := new_at e5
          have hy5 := s5 _ _ hy4
          refine ⟨_, hy5, lin' (by omega), ((s3.trans s4).trans s5).mut hD, _, rs ++ [((i : Int), (j : Int))], upd_same, ?_, r.put c⟩
          have tkd : TK G3 (upd G3 D (.lst (ys ++ [V.ref t2]))) := TK.upd fun zs z => by rw [hy5] at z; cases z
          rw [List.map_append]
          exact paired_app (ty.mono ((s4.tk.trans s5.tk).trans tkd)) (.cons (TI.mono tkd (ti2 e5)) .nil)
        · exact ⟨s3.trans s4, ys, rs, hy4, ty.mono s4.tk, r.skip c⟩
      · rintro G1 ⟨s3, ys, rs, hy, ty, r⟩
        have hi2 : ((i : Int)).toNat = i := by omega
        rw [hi2] at r
        have op2 := op.row r
        have T2 := op2.ties (by omega)
        have lx : xs.length + ys.length ≤ 576 := by
          have := T2.few hn
          rw [List.length_append] at this
          rw [paired_len ty, paired_len tt, List.length_map, List.length_map]
          exact this
        refine ⟨t, D, xs, ys, rfl, rfl, s3 _ _ ht, hy, lin (by omega), ?_⟩
        refine fun t3 nt3 => ?_
        generalize e4 : upd _ t3 _ = G2
        have s4 := Same.of_eq e4 nt3
        replace e4 := new_at e4
        refine ⟨t3, _, _, _, ps ++ rs, rfl, (s0.trans s3).trans s4, e4, ?_, op2⟩
        rw [List.map_append]
        exact TL.mono s4.tk (paired_app (tt.mono s3.tk) ty)
    · rintro σ G ⟨t, o5, o6, xs, ps', rfl, s0, ht, tt, op⟩
      have hn2 : ((n : Int)).toNat = n := by omega
      rw [hn2] at op
      have T2 := op.ties (Nat.le_refl _)
      walk_at "go"
      refine make_net (K := K) (Q := fun w G => sp_opposite K [w] G Q E0) (E := E0) ht tt T2 hn fun w G1 s3 nw => ?_
      refine ⟨w, n, _, rfl, nw, fun l' w' G2 O s4 nw' => ?_⟩
      refine q l' w' G2 ⟨?_, fun x y => ?_⟩ ((((s1.trans s2).trans s0).trans s3).trans s4) nw'
      · obtain ⟨_, _, _, _, _, _, g', _⟩ := nw'
        exact g'.nd
      · rw [O, (bothL_ok ps').mem]
        unfold Adj
        rw [op.2, op.2]
        have e : (x, y) ∈ l ↔ Adj ps x y := B.mem x y
        show _ ↔ Adj ps x y
        rw [← e]
        have sy : (x, y) ∈ l ↔ (y, x) ∈ l := ⟨g.sym _ _, g.sym _ _⟩
        constructor
        · rintro ⟨h1, h2, h3, h4⟩
          by_cases c : (x, y) ∈ l
          · exact c
          · exfalso
            refine h4 ?_
            by_cases c2 : y < x
            · exact .inl ⟨by omega, by omega, c⟩
            · exact .inr ⟨by omega, by omega, fun z => c (sy.mpr z)⟩
        · intro h
          obtain ⟨r1, r2, r3⟩ := g.rng _ _ h
          obtain ⟨r4, r5, r6⟩ := g.rng _ _ (sy.mp h)
          refine ⟨by omega, by omega, by omega, ?_⟩
          rintro (⟨_, _, z⟩ | ⟨_, _, z⟩)
          · exact z h
          · exact z (sy.mp h)
end Ar
namespace Ar
open PySem PySem.Spec L2
/-! ### which arrows force which -/
abbrev Arr : Type := Int × Int
def sw (p : Arr) : Arr := (p.2, p.1)
theorem sw_sw (p : Arr) : sw (sw p) = p := rfl
/-- p forces q at once -/
def Fc (l : List Arr) (p q : Arr) : Prop := (q.1 = p.1 ∧ q.2 ≠ p.2 ∧ (p.1, q.2) ∈ l ∧ (p.2, q.2) ∉ l) ∨ (q.2 = p.2 ∧ q.1 ≠ p.1 ∧ (q.1, p.2) ∈ l ∧ (q.1, p.1) ∉ l)
instance {l : List Arr} {p q : Arr} : Decidable (Fc l p q) := by unfold Fc; infer_instance
/-- the arrows that p forces at once, rising -/
def fcs (n : Nat) (l : List Arr) (p : Arr) : List Arr := (gridP n).filter fun q => decide (Fc l p q)
abbrev Sym (l : List Arr) : Prop := ∀ a b, (a, b) ∈ l → (b, a) ∈ l
theorem Fc.mem {l : List Arr} {p q : Arr} (h : Fc l p q) : q ∈ l := by
  obtain ⟨x, y⟩ := q
  rcases h with ⟨h1, _, h3, _⟩ | ⟨h1, _, h3, _⟩
  · dsimp only at h1 h3
    rw [h1]
    exact h3
  · dsimp only at h1 h3
    rw [h1]
    exact h3
theorem Fc.symm {l : List Arr} (sy : Sym l) {p q : Arr} (hp : p ∈ l) (h : Fc l p q) : Fc l q p := by
  obtain ⟨a, b⟩ := p
  obtain ⟨x, y⟩ := q
  rcases h with ⟨h1, h2, h3, h4⟩ | ⟨h1, h2, h3, h4⟩
  · dsimp only at h1 h2 h3 h4
    subst h1
    exact .inl ⟨rfl, h2.symm, hp, fun z => h4 (sy _ _ z)⟩
  · dsimp only at h1 h2 h3 h4
    subst h1
    exact .inr ⟨rfl, h2.symm, hp, fun z => h4 (sy _ _ z)⟩
theorem Fc.swp {l : List Arr} (sy : Sym l) {p q : Arr} (h : Fc l p q) : Fc l (sw p) (sw q) := by
  rcases h with ⟨h1, h2, h3, h4⟩ | ⟨h1, h2, h3, h4⟩
  · exact .inr ⟨h1, h2, sy _ _ h3, fun z => h4 (sy _ _ z)⟩
  · exact .inl ⟨h1, h2, sy _ _ h3, fun z => h4 (sy _ _ z)⟩
/-- forcing leads from p to q -/
inductive Rch (l : List Arr) (p : Arr) : Arr → Prop
  | refl : Rch l p p
  | step {q r : Arr} (h : Rch l p q) (f : Fc l q r) : Rch l p r
theorem Rch.mem {l : List Arr} {p q : Arr} (hp : p ∈ l) (h : Rch l p q) : q ∈ l := by
  cases h with
  | refl => exact hp
  | step _ f => exact f.mem
theorem Rch.trans {l : List Arr} {p q r : Arr} (h : Rch l p q) (k : Rch l q r) : Rch l p r := by
  induction k with
  | refl => exact h
  | step _ f ih => exact ih.step f
theorem Rch.one {l : List Arr} {p q : Arr} (f : Fc l p q) : Rch l p q := .step .refl f
theorem Rch.symm {l : List Arr} (sy : Sym l) {p q : Arr} (hp : p ∈ l) (h : Rch l p q) : Rch l q p := by
  induction h with
  | refl => exact .refl
  | step h f ih => exact (Rch.one (f.symm sy (h.mem hp))).trans ih
theorem Rch.swp {l : List Arr} (sy : Sym l) {p q : Arr} (h : Rch l p q) : Rch l (sw p) (sw q) := by
  induction h with
  | refl => exact .refl
  | step h f ih => exact ih.step (f.swp sy)
/-- no arrow leads to its reverse -/
def NoClash (l : List Arr) : Prop := ∀ p ∈ l, ¬ Rch l p (sw p)
/-- the triangle lemma -/
theorem tri {l : List Arr} (sy : Sym l) {a b c : Int} (hab : (a, b) ∈ l) (hac : (a, c) ∈ l) (hbc : (b, c) ∈ l) (n1 : ¬ Rch l (b, c) (a, c)) (n2 : ¬ Rch l (b, c) (b, a)) {q : Arr} (h : Rch l (b, c) q) :
    Rch l (a, b) (a, q.1) ∧ Rch l (a, c) (a, q.2) := by
  induction h with
  | refl => exact ⟨.refl, .refl⟩
  | @step q r h f ih =>
    obtain ⟨x, y⟩ := q
    obtain ⟨u, z⟩ := r
    obtain ⟨i1, i2⟩ := ih
    dsimp only at i1 i2 ⊢
    have hax : (a, x) ∈ l := i1.mem hab
    have hay : (a, y) ∈ l := i2.mem hac
    have h' := h.step f
    rcases f with ⟨h1, h2, h3, h4⟩ | ⟨h1, h2, h3, h4⟩
    · dsimp only at h1 h2 h3 h4
      subst h1
      refine ⟨i1, i2.step (.inl ⟨rfl, h2, ?_, h4⟩)⟩
      by_cases c0 : (a, z) ∈ l
      · exact c0
      · exfalso
        refine n2 ((h'.step (.inl ⟨rfl, fun e => ?_, sy _ _ hax, fun e => c0 (sy _ _ e)⟩ : Fc l (u, z) (u, a))).trans (Rch.symm sy (sy _ _ hab) (i1.swp sy)))
        dsimp only at e
        rw [← e] at h4
        exact h4 (sy _ _ hay)
    · dsimp only at h1 h2 h3 h4
      subst h1
      refine ⟨i1.step (.inl ⟨rfl, h2, ?_, fun e => h4 (sy _ _ e)⟩), i2⟩
      by_cases c0 : (a, u) ∈ l
      · exact c0
      · exfalso
        refine n1 ((h'.step (.inr ⟨rfl, fun e => ?_, hay, c0⟩ : Fc l (u, z) (a, z))).trans (Rch.symm sy hac i2))
        dsimp only at e
        rw [← e] at h4
        exact h4 hax
/-! ### an order of pairs -/
def LeP (p q : Arr) : Prop := p.1 < q.1 ∨ p.1 = q.1 ∧ p.2 ≤ q.2
theorem LeP.total (p q : Arr) : LeP p q ∨ LeP q p := by
  unfold LeP
  omega
theorem LeP.trans {p q r : Arr} (h : LeP p q) (k : LeP q r) : LeP p r := by
  unfold LeP at *
  omega
def srt (p : Arr) : Arr := if p.1 < p.2 then p else sw p
/-- a set of arrows, closed under forcing, each class with its least pair for a leader -/
structure Led (l S : List Arr) : Prop where
  sub : ∀ p ∈ S, p ∈ l
  cl : ∀ p q, p ∈ S → Rch l p q → q ∈ S
  anti : ∀ p ∈ S, sw p ∉ S
  led : ∀ p ∈ S, ∃ m ∈ S, m.1 < m.2 ∧ Rch l m p ∧ ∀ y, Rch l m y → LeP m (srt y)
theorem Led.core {l S : List Arr} (sy : Sym l) (L : Led l S) {a b c : Int} (h1 : (a, b) ∈ S) (h2 : (b, c) ∈ S) (h3 : (c, a) ∈ S) {m k : Arr} (hm : m ∈ S) (rm : Rch l m (b, c)) (hk : k ∈ S) (rk : Rch l k (a, b))
    (lk : ∀ y, Rch l k y → LeP k (srt y)) (le : LeP m k) : False := by
  obtain ⟨b', c'⟩ := m
  have l1 := L.sub _ h1
  have l2 := L.sub _ h2
  have l3 := L.sub _ h3
  have lm := L.sub _ hm
  have lk' := L.sub _ hk
  obtain ⟨t1, t2⟩ := tri sy l1 (sy _ _ l3) l2 (fun z => L.anti _ h3 (L.cl _ _ h2 z)) (fun z => L.anti _ h1 (L.cl _ _ h2 z)) (Rch.symm sy lm rm)
  dsimp only at t1 t2
  have s1 : (a, b') ∈ S := L.cl _ _ h1 t1
  have s3 : (c', a) ∈ S := L.cl _ _ h3 (t2.swp sy)
  have rk' := lk _ (rk.trans t1)
  have ne : a ≠ b' := fun e => L.anti _ s1 (by rw [e] at s1 ⊢; exact s1)
  have e : k.1 = b' := by
    unfold LeP srt sw at *
    dsimp only at *
    split at rk' <;> dsimp only at rk' <;> omega
  obtain ⟨k1, k2⟩ := k
  dsimp only at e
  subst e
  obtain ⟨u1, _⟩ := tri sy (L.sub _ s3) (sy _ _ lm) (L.sub _ s1) (fun z => L.anti _ hm (L.cl _ _ s1 z)) (fun z => L.anti _ s3 (L.cl _ _ s1 z)) (Rch.symm sy lk' (rk.trans t1))
  dsimp only at u1
  exact L.anti _ hm (L.cl _ _ s3 u1)
theorem Led.trn {l S : List Arr} (sy : Sym l) (L : Led l S) (full : ∀ p ∈ l, p ∈ S ∨ sw p ∈ S) {a b c : Int} (h1 : (a, b) ∈ S) (h2 : (b, c) ∈ S) : (a, c) ∈ S := by
  by_cases hac : (a, c) ∈ l
  · rcases full _ hac with h | h3
    · exact h
    · exfalso
      have h3 : (c, a) ∈ S := h3
      obtain ⟨m1, i1, _, r1, e1⟩ := L.led _ h1
      obtain ⟨m2, i2, _, r2, e2⟩ := L.led _ h2
      obtain ⟨m3, i3, _, r3, e3⟩ := L.led _ h3
      rcases LeP.total m2 m1 with z | z
      · exact L.core sy h1 h2 h3 i2 r2 i1 r1 e1 z
      rcases LeP.total m3 m2 with z2 | z2
      · exact L.core sy h2 h3 h1 i3 r3 i2 r2 e2 z2
      · exact L.core sy h3 h1 h2 i1 r1 i3 r3 e3 (z.trans z2)
  · exfalso
    by_cases e : a = c
    · subst e
      exact L.anti _ h1 h2
    · refine L.anti _ h2 (L.cl _ _ h1 (.one (.inr ⟨rfl, fun z => e z.symm, sy _ _ (L.sub _ h2), fun z => hac (sy _ _ z)⟩ : Fc l (a, b) (c, b))))
end Ar
namespace Ar
open PySem PySem.Spec L2
/-! ### what led_by computes -/
abbrev Cm : Type := List (Arr × Option Arr)
abbrev ks (cs : Cm) : List Arr := cs.map (·.1)
def stepC (w : Arr) (cs : Cm) (q : Arr) : Cm := if q ∈ ks cs then cs else cs ++ [(q, some w)]
def turnC (F : Arr → List Arr) (cs : Cm) (i : Nat) : Cm := match (ks cs)[i]? with | none => cs | some w => (F w).foldl (stepC w) cs
def ledK (F : Arr → List Arr) (k : Nat) (p : Arr) : Cm := (List.range k).foldl (turnC F) [(p, none)]
def ledC (n : Nat) (l : List Arr) (p : Arr) : Cm := ledK (fcs n l) l.length p
theorem ledK_succ (F : Arr → List Arr) (k : Nat) (p : Arr) : ledK F (k + 1) p = turnC F (ledK F k p) k := by
  unfold ledK
  rw [List.range_succ, List.foldl_append] <;> rfl
/-- the row that led to an arrow, by the dict -/
inductive PathTo (cs : Cm) : Arr → List Arr → Prop
  | root {q : Arr} (h : (q, none) ∈ cs) : PathTo cs q [q]
  | next {q w : Arr} {r : List Arr} (h : (q, some w) ∈ cs) (t : PathTo cs w r) : PathTo cs q (r ++ [q])
/-- a row from p to q, each forcing the next -/
inductive Row (F : Arr → List Arr) (p : Arr) : Arr → List Arr → Prop
  | one : Row F p p [p]
  | snoc {w q : Arr} {r : List Arr} (t : Row F p w r) (h : q ∈ F w) : Row F p q (r ++ [q])
theorem PathTo.mono {cs cs' : Cm} (s : ∀ e ∈ cs, e ∈ cs') {q : Arr} {r : List Arr} (h : PathTo cs q r) : PathTo cs' q r := by
  induction h with
  | root h => exact .root (s _ h)
  | next h _ ih => exact .next (s _ h) ih
structure Bf (F : Arr → List Arr) (p : Arr) (cs : Cm) : Prop where
  nd : (ks cs).Nodup
  path : ∀ q ∈ ks cs, ∃ r, PathTo cs q r ∧ Row F p q r ∧ r.length ≤ cs.length
  p0 : p ∈ ks cs
theorem Bf.init (F : Arr → List Arr) (p : Arr) : Bf F p [(p, none)] := by
  refine ⟨List.pairwise_singleton _ _, fun q hq => ?_, List.mem_cons_self⟩
  have := List.mem_singleton.mp hq
  subst this
  exact ⟨_, .root List.mem_cons_self, .one, Nat.le_refl _⟩
theorem Bf.step {F : Arr → List Arr} {p : Arr} {cs : Cm} (B : Bf F p cs) {w q : Arr} (hw : w ∈ ks cs) (hq : q ∈ F w) : Bf F p (stepC w cs q) := by
  unfold stepC
  by_cases h : q ∈ ks cs
  · rw [if_pos h]
    exact B
  · rw [if_neg h]
    have e : ks (cs ++ [(q, some w)]) = ks cs ++ [q] := by simp
    have sub : ∀ e ∈ cs, e ∈ cs ++ [(q, some w)] := fun e he => List.mem_append_left _ he
    refine ⟨by rw [e]; exact nd_snoc B.nd h, fun x hx => ?_, by rw [e]; exact List.mem_append_left _ B.p0⟩
    rw [e] at hx
    rcases List.mem_append.mp hx with hx | hx
    · obtain ⟨r, h1, h2, h3⟩ := B.path x hx
      exact ⟨r, h1.mono sub, h2, by rw [List.length_append]; omega⟩
    · have := List.mem_singleton.mp hx
      subst this
      obtain ⟨r, h1, h2, h3⟩ := B.path w hw
      exact ⟨r ++ [x], .next (List.mem_append_right _ (List.mem_singleton.mpr rfl)) (h1.mono sub), .snoc h2 hq, by rw [List.length_append, List.length_append, List.length_singleton, List.length_singleton]; omega⟩
theorem step_pre (w : Arr) (cs : Cm) (q : Arr) : cs <+: stepC w cs q := by
  unfold stepC
  split
  · exact List.prefix_refl _
  · exact List.prefix_append _ _
theorem step_mem (w : Arr) (cs : Cm) (q : Arr) : q ∈ ks (stepC w cs q) := by
  unfold stepC
  split
  · assumption
  · simp
theorem pre_ks {cs cs' : Cm} (h : cs <+: cs') : ks cs <+: ks cs' := h.map _
theorem fold_pre (w : Arr) : ∀ (L : List Arr) (cs : Cm), cs <+: L.foldl (stepC w) cs
  | [], cs => List.prefix_refl _
  | q :: L, cs => (step_pre w cs q).trans (fold_pre w L _)
theorem fold_mem (w : Arr) : ∀ (L : List Arr) (cs : Cm), ∀ q ∈ L, q ∈ ks (L.foldl (stepC w) cs)
  | [], cs, q, h => nomatch h
  | x :: L, cs, q, h => by
    rcases List.mem_cons.mp h with rfl | h
    · exact (pre_ks (fold_pre w L _)).subset (step_mem w cs q)
    · exact fold_mem w L _ q h
theorem Bf.fold {F : Arr → List Arr} {p : Arr} {w : Arr} : ∀ {L : List Arr} {cs : Cm}, Bf F p cs → w ∈ ks cs → (∀ q ∈ L, q ∈ F w) → Bf F p (L.foldl (stepC w) cs)
  | [], _, B, _, _ => B
  | q :: L, _, B, hw, h => Bf.fold (L := L) (B.step hw (h q List.mem_cons_self)) ((pre_ks (step_pre w _ q)).subset hw) fun x hx => h x (List.mem_cons_of_mem _ hx)
theorem turn_some {F : Arr → List Arr} {cs : Cm} {i : Nat} {w : Arr} (h : (ks cs)[i]? = some w) : turnC F cs i = (F w).foldl (stepC w) cs := by
  unfold turnC
  rw [h]
theorem turn_none {F : Arr → List Arr} {cs : Cm} {i : Nat} (h : (ks cs)[i]? = none) : turnC F cs i = cs := by
  unfold turnC
  rw [h]
theorem Bf.turn {F : Arr → List Arr} {p : Arr} {cs : Cm} (B : Bf F p cs) (i : Nat) : Bf F p (turnC F cs i) := by
  cases h : (ks cs)[i]? with
  | none =>
    rw [turn_none h]
    exact B
  | some w =>
    rw [turn_some h]
    exact B.fold (mem_of_get h) fun q hq => hq
theorem Bf.led (F : Arr → List Arr) (p : Arr) : ∀ k, Bf F p (ledK F k p)
  | 0 => Bf.init F p
  | k + 1 => by
    rw [ledK_succ]
    exact (Bf.led F p k).turn k
/-- the first k keys are done -/
def Done (F : Arr → List Arr) (k : Nat) (cs : Cm) : Prop := ∀ j w, j < k → (ks cs)[j]? = some w → ∀ q ∈ F w, q ∈ ks cs
theorem Done.turn {F : Arr → List Arr} {cs : Cm} {k : Nat} (D : Done F k cs) : Done F (k + 1) (turnC F cs k) := by
  cases h : (ks cs)[k]? with
  | none =>
    rw [turn_none h]
    intro j w hj hw
    by_cases e : j = k
    · rw [e, h] at hw
      cases hw
    · exact D j w (by omega) hw
  | some w =>
    rw [turn_some h]
    intro j x hj hx q hq
    have pr := pre_ks (fold_pre w (F w) cs)
    have hk := lt_of_get h
    have ex : (ks cs)[j]? = some x := by
      obtain ⟨t, ht⟩ := pr
      rw [← ht, List.getElem?_append_left (by omega)] at hx
      exact hx
    by_cases e : j = k
    · rw [e, h] at ex
      cases ex
      exact fold_mem w (F w) cs q hq
    · exact pr.subset (D j x (by omega) ex q hq)
theorem Done.led (F : Arr → List Arr) (p : Arr) : ∀ k, Done F k (ledK F k p)
  | 0 => fun j w hj => absurd hj (Nat.not_lt_zero _)
  | k + 1 => by
    rw [ledK_succ]
    exact (Done.led F p k).turn
/-! ### of a net -/
theorem mem_fcs {n : Nat} {l : List Arr} (g : GoodL n l) {p q : Arr} : q ∈ fcs n l p ↔ Fc l p q := by
  unfold fcs
  rw [List.mem_filter, decide_eq_true_iff]
  refine ⟨fun h => h.2, fun h => ⟨?_, h⟩⟩
  obtain ⟨h1, h2, h3⟩ := g.rng q.1 q.2 h.mem
  obtain ⟨h4, h5, h6⟩ := g.rng q.2 q.1 (g.sym _ _ h.mem)
  exact mem_gridP h1 h2 h4 h5
theorem Row.rch {n : Nat} {l : List Arr} (g : GoodL n l) {p q : Arr} {r : List Arr} (h : Row (fcs n l) p q r) : Rch l p q := by
  induction h with
  | one => exact .refl
  | snoc _ h ih => exact ih.step ((mem_fcs g).mp h)
theorem Bf.sub {n : Nat} {l : List Arr} (g : GoodL n l) {p : Arr} {cs : Cm} (hp : p ∈ l) (B : Bf (fcs n l) p cs) : ∀ q ∈ ks cs, q ∈ l := fun q hq => by
  obtain ⟨r, _, h, _⟩ := B.path q hq
  exact (h.rch g).mem hp
theorem Bf.few {n : Nat} {l : List Arr} (g : GoodL n l) {p : Arr} {cs : Cm} (hp : p ∈ l) (B : Bf (fcs n l) p cs) : cs.length ≤ l.length := by
  have := len_le_sub B.nd (B.sub g hp)
  rwa [List.length_map] at this
structure LedOf (n : Nat) (l : List Arr) (p : Arr) (cs : Cm) : Prop where
  nd : (ks cs).Nodup
  mem : ∀ q, q ∈ ks cs ↔ Rch l p q
  path : ∀ q ∈ ks cs, ∃ r, PathTo cs q r ∧ Row (fcs n l) p q r ∧ r.length ≤ l.length
  few : cs.length ≤ l.length
theorem ledC_ok {n : Nat} {l : List Arr} (g : GoodL n l) {p : Arr} (hp : p ∈ l) : LedOf n l p (ledC n l p) := by
  have B := Bf.led (fcs n l) p l.length
  have D := Done.led (fcs n l) p l.length
  have f : (ledC n l p).length ≤ l.length := B.few g hp
  refine ⟨B.nd, fun q => ⟨fun h => ?_, fun h => ?_⟩, fun q hq => ?_, f⟩
  · obtain ⟨r, _, h, _⟩ := B.path q h
    exact h.rch g
  · induction h with
    | refl => exact B.p0
    | step h fc ih =>
      obtain ⟨j, hj⟩ := List.getElem?_of_mem ih
      have := lt_of_get hj
      rw [List.length_map] at this
      exact D j _ (by omega) hj _ ((mem_fcs g).mpr fc)
  · obtain ⟨r, h1, h2, h3⟩ := B.path q hq
    exact ⟨r, h1, h2, Nat.le_trans h3 f⟩
/-! ### a row that leads from an arrow to its reverse -/
def ClashRow (n : Nat) (l : List Arr) (r : List Arr) : Prop := ∃ p ∈ l, Row (fcs n l) p (sw p) r ∧ r.length ≤ l.length
theorem Row.ne {F : Arr → List Arr} {p q : Arr} {r : List Arr} (h : Row F p q r) : 0 < r.length := by
  cases h with
  | one => exact Nat.one_pos
  | snoc _ _ => rw [List.length_append]; exact Nat.succ_pos _
theorem Row.first {F : Arr → List Arr} {p q : Arr} {r : List Arr} (h : Row F p q r) : r[0]? = some p := by
  induction h with
  | one => rfl
  | snoc t _ ih => rw [List.getElem?_append_left t.ne, ih]
theorem Row.last {F : Arr → List Arr} {p q : Arr} {r : List Arr} (h : Row F p q r) : r[r.length - 1]? = some q := by
  cases h with
  | one => rfl
  | @snoc w q r t h => rw [List.length_append, List.length_singleton, Nat.add_sub_cancel, List.getElem?_append_right (Nat.le_refl _), Nat.sub_self] <;> rfl
theorem Row.at {F : Arr → List Arr} {p q : Arr} {r : List Arr} (h : Row F p q r) {k : Nat} {x y : Arr} (h1 : r[k]? = some x) (h2 : r[k + 1]? = some y) : y ∈ F x := by
  induction h with
  | one => simp at h2
  | @snoc w q r t h ih =>
    have hk := lt_of_get h2
    rw [List.length_append, List.length_singleton] at hk
    rw [List.getElem?_append_left (by omega)] at h1
    by_cases e : k + 1 < r.length
    · rw [List.getElem?_append_left e] at h2
      exact ih h1 h2
    · have e2 : k + 1 = r.length := by omega
      rw [List.getElem?_append_right (by omega), e2, Nat.sub_self] at h2
      have hl := t.last
      have e3 : r.length - 1 = k := by omega
      rw [e3, h1] at hl
      cases hl
      cases h2
      exact h
/-- arrows that turn the ties: closed under forcing, so nothing clashes -/
theorem TurnsOf.both {l qs : List Arr} (nd : l.Nodup) (sy : Sym l) (ir : ∀ a b, (a, b) ∈ l → a ≠ b) (t : TurnsOf l qs) {p : Arr} (hp : p ∈ l) : p ∈ qs ∨ sw p ∈ qs := by
  have n1 : qs.Nodup := t.once.imp fun h => h.1
  have n2 : (qs.map sw).Nodup := nodup_mapOn' n1 fun a _ b _ e => by
    have := congrArg sw e
    rwa [sw_sw, sw_sw] at this
  have n3 : (qs ++ qs.map sw).Nodup := by
    refine List.nodup_append.mpr ⟨n1, n2, fun a ha b hb e => ?_⟩
    obtain ⟨c, hc, rfl⟩ := List.mem_map.mp hb
    subst e
    -- c and sw c both in qs
    have key : ∀ (qs : List Arr), qs.Pairwise (fun p q => p ≠ q ∧ p ≠ (q.2, q.1)) → ∀ c, c ∈ qs → sw c ∈ qs → c = sw c := by
      intro qs h
      induction h with
      | nil => intro c h; cases h
      | cons h t ih =>
        intro c h1 h2
        rcases List.mem_cons.mp h1 with z1 | z1
        · rcases List.mem_cons.mp h2 with z2 | z2
          · exact z1.trans z2.symm
          · exact absurd (by rw [← z1]; rfl) (h _ z2).2
        · rcases List.mem_cons.mp h2 with z2 | z2
          · exact absurd z2.symm (h _ z1).2
          · exact ih c z1 z2
    have e := key qs t.once c hc ha
    have := ir c.1 c.2 (t.tie c hc)
    exact this (congrArg Prod.fst e)
  have sub : ∀ x ∈ qs ++ qs.map sw, x ∈ l := fun x hx => by
    rcases List.mem_append.mp hx with hx | hx
    · exact t.tie x hx
    · obtain ⟨c, hc, rfl⟩ := List.mem_map.mp hx
      exact sy _ _ (t.tie c hc)
  by_cases h : p ∈ qs ++ qs.map sw
  · rcases List.mem_append.mp h with h | h
    · exact .inl h
    · obtain ⟨c, hc, rfl⟩ := List.mem_map.mp h
      exact .inr hc
  · exfalso
    have n4 : (p :: (qs ++ qs.map sw)).Nodup := List.nodup_cons.mpr ⟨h, n3⟩
    have := len_le_sub n4 fun x hx => by
      rcases List.mem_cons.mp hx with rfl | hx
      · exact hp
      · exact sub x hx
    have h2 := t.all
    rw [List.length_cons, List.length_append, List.length_map] at this
    omega
/-- a strict order's arrows: closed under forcing -/
theorem OrdOf.noClash {l : List Arr} (o : OrdOf fun a b => (a, b) ∈ l) : NoClash l := by
  obtain ⟨R, tr, ir, e⟩ := o
  have as : ∀ a b, R a b → ¬ R b a := fun a b h k => ir a (tr _ _ _ h k)
  have fw : ∀ p q : Arr, R p.1 p.2 → Fc l p q → R q.1 q.2 := by
    rintro ⟨a, b⟩ ⟨x, y⟩ h f
    rcases f with ⟨h1, h2, h3, h4⟩ | ⟨h1, h2, h3, h4⟩
    · dsimp only at h h1 h2 h3 h4 ⊢
      subst h1
      rcases (e _ _).mp h3 with z | z
      · exact z
      · exact absurd ((e _ _).mpr (.inr (tr _ _ _ z h))) h4
    · dsimp only at h h1 h2 h3 h4 ⊢
      subst h1
      rcases (e _ _).mp h3 with z | z
      · exact z
      · exact absurd ((e _ _).mpr (.inr (tr _ _ _ h z))) h4
  have fr : ∀ p q : Arr, R p.1 p.2 → Rch l p q → R q.1 q.2 := fun p q h k => by
    induction k with
    | refl => exact h
    | step _ f ih => exact fw _ _ ih f
  have bw : ∀ p q : Arr, R p.2 p.1 → Fc l p q → R q.2 q.1 := by
    rintro ⟨a, b⟩ ⟨x, y⟩ h f
    rcases f with ⟨h1, h2, h3, h4⟩ | ⟨h1, h2, h3, h4⟩
    · dsimp only at h h1 h2 h3 h4 ⊢
      subst h1
      rcases (e _ _).mp h3 with z | z
      · exact absurd ((e _ _).mpr (.inl (tr _ _ _ h z))) h4
      · exact z
    · dsimp only at h h1 h2 h3 h4 ⊢
      subst h1
      rcases (e _ _).mp h3 with z | z
      · exact absurd ((e _ _).mpr (.inl (tr _ _ _ z h))) h4
      · exact z
  have br : ∀ p q : Arr, R p.2 p.1 → Rch l p q → R q.2 q.1 := fun p q h k => by
    induction k with
    | refl => exact h
    | step _ f ih => exact bw _ _ ih f
  intro p hp k
  rcases (e p.1 p.2).mp hp with h | h
  · exact as _ _ h (fr p _ h k)
  · exact as _ _ h (br p _ h k)
theorem TurnsOf.ord {n : Nat} {l qs : List Arr} (g : GoodL n l) (t : TurnsOf l qs) : OrdOf fun a b => (a, b) ∈ l := by
  refine ⟨fun a b => (a, b) ∈ qs, t.no, fun a h => (g.rng a a (t.tie _ h)).2.2 rfl, fun a b => ⟨fun h => ?_, fun h => ?_⟩⟩
  · exact t.both g.nd g.sym (fun a b h => (g.rng a b h).2.2) h
  · rcases h with h | h
    · exact t.tie _ h
    · exact g.sym _ _ (t.tie _ h)
theorem TurnsOf.noClash {n : Nat} {l qs : List Arr} (g : GoodL n l) (t : TurnsOf l qs) : NoClash l := OrdOf.noClash (t.ord g)
theorem ClashRow.clash {n : Nat} {l r : List Arr} (g : GoodL n l) (h : ClashRow n l r) : ¬ NoClash l := by
  obtain ⟨p, hp, h, _⟩ := h
  exact fun z => z p hp (h.rch g)
end Ar
namespace Ar
open PySem PySem.Spec L2
/-! ### hashes of pairs of points -/
theorem gh_nodup : ((gridP 24).map gh).Nodup := by decide +kernel
theorem gh_inj {p q : Arr} (hp : p ∈ gridP 24) (hq : q ∈ gridP 24) (e : gh p = gh q) : p = q := by
  obtain ⟨i, hi⟩ := List.getElem?_of_mem hp
  obtain ⟨j, hj⟩ := List.getElem?_of_mem hq
  have h1 : ((gridP 24).map gh)[i]? = some (gh p) := by rw [List.getElem?_map, hi]; rfl
  have h2 : ((gridP 24).map gh)[j]? = some (gh p) := by rw [List.getElem?_map, hj, e]; rfl
  have := nd_ix gh_nodup h1 h2
  rw [this, hj] at hi
  cases hi
  rfl
theorem GoodL.grid {n : Nat} {l : List Arr} (g : GoodL n l) (hn : n ≤ 24) : ∀ p ∈ l, p ∈ gridP 24 := fun p hp => by
  obtain ⟨h1, h2, h3⟩ := g.rng p.1 p.2 hp
  obtain ⟨h4, h5, h6⟩ := g.rng p.2 p.1 (g.sym _ _ hp)
  exact mem_gridP h1 (by omega) h4 (by omega)
theorem gh_nd {n : Nat} {l ps : List Arr} (g : GoodL n l) (hn : n ≤ 24) (nd : ps.Nodup) (s : ∀ p ∈ ps, p ∈ l) : (ps.map gh).Nodup :=
  nodup_mapOn' nd fun a ha b hb e => gh_inj (g.grid hn a (s a ha)) (g.grid hn b (s b hb)) e
/-! ### what turned computes -/
structure Tinv (l qs : List Arr) (i : Nat) (S : List Arr) : Prop where
  L : Led l S
  nd : S.Nodup
  proc : ∀ p ∈ qs.take i, p ∈ S ∨ sw p ∈ S
theorem p2_le {p q : Arr} (h : p2 p < p2 q) : LeP p q := by
  unfold LeP
  unfold p2 at h
  simp only [List.cons_lt_cons_iff] at h
  rcases h with h | ⟨h1, h | ⟨h2, h3⟩⟩
  · exact .inl h
  · exact .inr ⟨h1, Int.le_of_lt h⟩
  · exact .inr ⟨h1, Int.le_of_eq h2⟩
theorem PairsOf.srt_mem {n : Nat} {l qs : List Arr} (g : GoodL n l) (P : PairsOf l qs) {p : Arr} (hp : p ∈ l) : srt p ∈ qs := by
  unfold srt
  by_cases c : p.1 < p.2
  · rw [if_pos c]
    exact (P.2 p.1 p.2).mpr ⟨hp, c⟩
  · rw [if_neg c]
    have := (g.rng p.1 p.2 hp).2.2
    exact (P.2 p.2 p.1).mpr ⟨g.sym _ _ hp, by omega⟩
theorem srt_or (p : Arr) : srt p = p ∨ srt p = sw p := by
  unfold srt
  split
  · exact .inl rfl
  · exact .inr rfl
theorem Tinv.init (l qs : List Arr) : Tinv l qs 0 [] := ⟨⟨fun _ h => (nomatch h), fun _ _ h => (nomatch h), fun _ h => (nomatch h), fun _ h => (nomatch h)⟩, .nil, fun _ h => (nomatch h)⟩
theorem Tinv.skip {l qs S : List Arr} {i : Nat} (T : Tinv l qs i S) {p : Arr} (e : qs[i]? = some p) (h : p ∈ S ∨ sw p ∈ S) : Tinv l qs (i + 1) S := by
  refine ⟨T.L, T.nd, fun q hq => ?_⟩
  rw [take_snoc e] at hq
  rcases List.mem_append.mp hq with hq | hq
  · exact T.proc q hq
  · rw [List.mem_singleton.mp hq]
    exact h
theorem Tinv.put {n : Nat} {l qs S ws : List Arr} {i : Nat} (g : GoodL n l) (nc : NoClash l) (P : PairsOf l qs) (T : Tinv l qs i S) {p : Arr} (e : qs[i]? = some p) (h1 : p ∉ S) (h2 : sw p ∉ S) (nw : ws.Nodup) (mw : ∀ q, q ∈ ws ↔ Rch l p q) : Tinv l qs (i + 1) (S ++ ws) := by
  have sy := g.sym
  obtain ⟨hp, hlt⟩ := (P.2 p.1 p.2).mp (mem_of_get e)
  have hp : p ∈ l := hp
  have apart : ∀ x, Rch l p x → x ∉ S ∧ sw x ∉ S := fun x hx => by
    have hb := Rch.symm sy hp hx
    refine ⟨fun z => h1 (T.L.cl _ _ z hb), fun z => h2 (T.L.cl _ _ z (hb.swp sy))⟩
  refine ⟨⟨fun q hq => ?_, fun q r hq hr => ?_, fun q hq z => ?_, fun q hq => ?_⟩, List.nodup_append.mpr ⟨T.nd, nw, fun a ha b hb z => ?_⟩, fun q hq => ?_⟩
  · rcases List.mem_append.mp hq with hq | hq
    · exact T.L.sub q hq
    · exact ((mw q).mp hq).mem hp
  · rcases List.mem_append.mp hq with hq | hq
    · exact List.mem_append_left _ (T.L.cl q r hq hr)
    · exact List.mem_append_right _ ((mw r).mpr (((mw q).mp hq).trans hr))
  · rcases List.mem_append.mp hq with hq | hq
    · rcases List.mem_append.mp z with z | z
      · exact T.L.anti q hq z
      · exact (apart _ ((mw _).mp z)).2 hq
    · rcases List.mem_append.mp z with z | z
      · exact (apart _ ((mw _).mp hq)).2 z
      · have hq := (mw _).mp hq
        exact nc q (hq.mem hp) ((Rch.symm sy hp hq).trans ((mw _).mp z))
  · rcases List.mem_append.mp hq with hq | hq
    · obtain ⟨m, h1, h2, h3, h4⟩ := T.L.led q hq
      exact ⟨m, List.mem_append_left _ h1, h2, h3, h4⟩
    · refine ⟨p, List.mem_append_right _ ((mw p).mpr .refl), hlt, (mw q).mp hq, fun y hy => ?_⟩
      have hs := P.srt_mem g (hy.mem hp)
      obtain ⟨j, hj⟩ := List.getElem?_of_mem hs
      by_cases hji : j < i
      · exfalso
        have hm : srt y ∈ qs.take i := by
          rw [List.mem_iff_getElem?]
          exact ⟨j, by rw [List.getElem?_take, if_pos hji]; exact hj⟩
        obtain ⟨a1, a2⟩ := apart y hy
        rcases T.proc _ hm with z | z
        · rcases srt_or y with e1 | e1
          · rw [e1] at z; exact a1 z
          · rw [e1] at z; exact a2 z
        · rcases srt_or y with e1 | e1
          · rw [e1] at z; exact a2 z
          · rw [e1] at z; exact a1 z
      · by_cases eij : i = j
        · subst eij
          rw [e] at hj
          cases hj
          rename_i e2
          exact .inr ⟨rfl, Int.le_refl _⟩
        · refine p2_le ?_
          have r := P.1
          have hi := lt_of_get e
          have hj' := lt_of_get hj
          have := List.pairwise_iff_getElem.mp r i j (by rw [List.length_map]; exact hi) (by rw [List.length_map]; exact hj') (by omega)
          rw [List.getElem_map, List.getElem_map] at this
          rw [(List.getElem?_eq_some_iff.mp e).2, (List.getElem?_eq_some_iff.mp hj).2] at this
          exact this
  · subst z
    exact (apart a ((mw a).mp hb)).1 ha
  · rw [take_snoc e] at hq
    rcases List.mem_append.mp hq with hq | hq
    · exact (T.proc q hq).imp (List.mem_append_left _) (List.mem_append_left _)
    · rw [List.mem_singleton.mp hq]
      exact .inl (List.mem_append_right _ ((mw p).mpr .refl))
theorem Tinv.turns {n : Nat} {l qs S : List Arr} (g : GoodL n l) (P : PairsOf l qs) (T : Tinv l qs qs.length S) {ss : List Arr} (ps : ss.Perm S) : TurnsOf l ss := by
  have full : ∀ p ∈ l, p ∈ S ∨ sw p ∈ S := fun p hp => by
    have hm := P.srt_mem g hp
    have := T.proc (srt p) (by rw [List.take_length]; exact hm)
    rcases srt_or p with e1 | e1
    · rw [e1] at this; exact this
    · rw [e1, sw_sw] at this; exact this.symm
  have nd : ss.Nodup := ps.nodup_iff.mpr T.nd
  have sub : ∀ p ∈ ss, p ∈ l := fun p hp => T.L.sub p (ps.mem_iff.mp hp)
  have anti : ∀ p ∈ ss, sw p ∉ ss := fun p hp z => T.L.anti p (ps.mem_iff.mp hp) (ps.mem_iff.mp z)
  refine ⟨sub, List.Pairwise.imp_of_mem (fun {p q} hp hq ne => ⟨ne, fun z => anti q hq (by rw [z] at hp; exact hp)⟩) nd, ?_, fun a b c h1 h2 => ps.mem_iff.mpr (T.L.trn g.sym full (ps.mem_iff.mp h1) (ps.mem_iff.mp h2))⟩
  have n2 : (ss.map sw).Nodup := nodup_mapOn' nd fun a _ b _ e => by
    have := congrArg sw e
    rwa [sw_sw, sw_sw] at this
  have pe : (ss ++ ss.map sw).Perm l := (List.perm_ext_iff_of_nodup (List.nodup_append.mpr ⟨nd, n2, fun a ha b hb e => by
    obtain ⟨c, hc, rfl⟩ := List.mem_map.mp hb
    subst e
    exact anti c hc ha⟩) g.nd).mpr fun x => by
    rw [List.mem_append]
    constructor
    · rintro (h | h)
      · exact sub x h
      · obtain ⟨c, hc, rfl⟩ := List.mem_map.mp h
        exact g.sym _ _ (sub c hc)
    · intro h
      rcases full x h with z | z
      · exact .inl (ps.mem_iff.mpr z)
      · exact .inr (List.mem_map.mpr ⟨sw x, ps.mem_iff.mpr z, rfl⟩)
  have := pe.length_eq
  rw [List.length_append, List.length_map] at this
  omega
end Ar
namespace Ar
open PySem PySem.Spec L2
/-! ### heights -/
abbrev gv (hs : List Int) (x : Int) : Int := hs.getD x.toNat 0
/-- arrows between points below m -/
def InR (m : Int) (ps : List Arr) : Prop := ∀ p ∈ ps, 0 ≤ p.1 ∧ p.1 < m ∧ 0 ≤ p.2 ∧ p.2 < m
/-- how long the longest row is that ends with each point -/
structure HtOf (n : Nat) (ps : List Arr) (hs : List Int) : Prop where
  len : hs.length = n
  one : ∀ v : Int, 0 ≤ v → v < n → 1 ≤ gv hs v
  up : ∀ x y, (x, y) ∈ ps → gv hs x < gv hs y
  dn : ∀ v : Int, 0 ≤ v → v < n → gv hs v = 1 ∨ ∃ x, (x, v) ∈ ps ∧ gv hs x + 1 = gv hs v
theorem gv_set {hs : List Int} {x v w : Int} (hx : 0 ≤ x) (hxn : x < hs.length) (hw : 0 ≤ w) : gv (hs.set x.toNat v) w = if w = x then v else gv hs w := by
  unfold gv
  rw [List.getD_eq_getElem?_getD, List.getD_eq_getElem?_getD, List.getElem?_set]
  by_cases e : w = x
  · rw [if_pos e, e, if_pos rfl, if_pos (by omega)] <;> rfl
  · rw [if_neg e, if_neg (by omega)]
theorem HtOf.le {n : Nat} {ps : List Arr} {hs ht : List Int} (r : InR n ps) (h : HtOf n ps hs) (k : HtOf n ps ht) : ∀ (j : Nat) (v : Int), 0 ≤ v → v < n → gv hs v ≤ j → gv hs v ≤ gv ht v
  | 0, v, h0, h1, hj => by
    have := h.one v h0 h1
    omega
  | j + 1, v, h0, h1, hj => by
    rcases h.dn v h0 h1 with e | ⟨x, hx, e⟩
    · have := k.one v h0 h1
      omega
    · obtain ⟨r1, r2, _, _⟩ := r _ hx
      have := HtOf.le r h k j x r1 r2 (by omega)
      have := k.up x v hx
      omega
theorem HtOf.same {n : Nat} {ps : List Arr} {hs ht : List Int} (r : InR n ps) (h : HtOf n ps hs) (k : HtOf n ps ht) : hs = ht := by
  refine List.ext_getElem (h.len.trans k.len.symm) fun i h1 h2 => ?_
  have hi : (i : Int) < n := by have := h.len; omega
  have e1 := HtOf.le r h k (gv hs i).toNat i (by omega) hi (by have := h.one i (by omega) hi; omega)
  have e2 := HtOf.le r k h (gv ht i).toNat i (by omega) hi (by have := k.one i (by omega) hi; omega)
  have g1 : gv hs i = hs[i] := by simp [gv, h1]
  have g2 : gv ht i = ht[i] := by simp [gv, h2]
  rw [g1, g2] at e1 e2
  omega
/-- a row below a point -/
theorem HtOf.row {n : Nat} {ps : List Arr} {hs : List Int} (r : InR n ps) (h : HtOf n ps hs) : ∀ (j : Nat) (v : Int), 0 ≤ v → v < n → gv hs v = j → ∃ L : List Int, L.Nodup ∧ L.length = j ∧ ∀ u ∈ L, (0 ≤ u ∧ u < n) ∧ gv hs u ≤ j
  | 0, v, h0, h1, hj => by
    have := h.one v h0 h1
    omega
  | j + 1, v, h0, h1, hj => by
    rcases h.dn v h0 h1 with e | ⟨x, hx, e⟩
    · have : j = 0 := by omega
      subst this
      exact ⟨[v], List.pairwise_singleton _ _, rfl, fun u hu => by rw [List.mem_singleton.mp hu]; exact ⟨⟨h0, h1⟩, by omega⟩⟩
    · obtain ⟨r1, r2, _, _⟩ := r _ hx
      obtain ⟨L, l1, l2, l3⟩ := HtOf.row r h j x r1 r2 (by omega)
      refine ⟨v :: L, List.nodup_cons.mpr ⟨fun z => ?_, l1⟩, by simp [l2], fun u hu => ?_⟩
      · have := (l3 v z).2
        omega
      · rcases List.mem_cons.mp hu with rfl | hu
        · exact ⟨⟨h0, h1⟩, by omega⟩
        · have := l3 u hu
          exact ⟨this.1, by omega⟩
theorem HtOf.most {n : Nat} {ps : List Arr} {hs : List Int} (r : InR n ps) (h : HtOf n ps hs) {v : Int} (h0 : 0 ≤ v) (h1 : v < n) : gv hs v ≤ n := by
  have ho := h.one v h0 h1
  obtain ⟨L, l1, l2, l3⟩ := h.row r (gv hs v).toNat v h0 h1 (by omega)
  have := len_le_sub (m := (List.range n).map Int.ofNat) l1 fun u hu => by
    obtain ⟨⟨a, b⟩, _⟩ := l3 u hu
    exact List.mem_map.mpr ⟨u.toNat, List.mem_range.mpr (by omega), by show ((u.toNat : Nat) : Int) = u; omega⟩
  rw [List.length_map, List.length_range] at this
  omega
/-- what stands while heights goes on -/
structure Hin (n : Nat) (ps : List Arr) (hs : List Int) : Prop where
  len : hs.length = n
  one : ∀ v : Int, 0 ≤ v → v < n → 1 ≤ gv hs v
  dn : ∀ v : Int, 0 ≤ v → v < n → gv hs v = 1 ∨ ∃ x, (x, v) ∈ ps ∧ gv hs v ≤ gv hs x + 1
  top : ∀ ht, HtOf n ps ht → ∀ v : Int, 0 ≤ v → v < n → gv hs v ≤ gv ht v
structure Hout (n : Nat) (ps : List Arr) (i : Nat) (hs : List Int) : Prop where
  h : Hin n ps hs
  low : ∀ ht, HtOf n ps ht → i ≤ n ∧ ∀ v : Int, 0 ≤ v → v < n → (gv ht v ≤ gv hs v ∨ (i : Int) + 1 ≤ gv hs v)
theorem gv_ones {n : Nat} {v : Int} (h0 : 0 ≤ v) (h1 : v < n) : gv (List.replicate n 1) v = 1 := by
  unfold gv
  rw [List.getD_eq_getElem?_getD, List.getElem?_replicate, if_pos (by omega)] <;> rfl
theorem Hout.init (n : Nat) (ps : List Arr) : Hout n ps 0 (List.replicate n 1) := by
  refine ⟨⟨List.length_replicate, fun v h0 h1 => by rw [gv_ones h0 h1]; exact Int.le_refl _, fun v h0 h1 => .inl (gv_ones h0 h1), fun ht k v h0 h1 => by rw [gv_ones h0 h1]; exact k.one v h0 h1⟩, fun ht k => ⟨Nat.zero_le _, fun v h0 h1 => .inr (by rw [gv_ones h0 h1]; exact Int.le_refl _)⟩⟩
/-- within one going over all arrows -/
structure Hmid (n : Nat) (ps : List Arr) (i j : Nat) (h0 hs : List Int) (c : Bool) : Prop where
  h : Hin n ps hs
  more : ∀ v : Int, 0 ≤ v → v < n → gv h0 v ≤ gv hs v
  no : c = false → hs = h0 ∧ ∀ p ∈ ps.take j, gv h0 p.1 < gv h0 p.2
  yes : c = true → ∃ v : Int, 0 ≤ v ∧ v < n ∧ gv h0 v < gv hs v
  low : ∀ ht, HtOf n ps ht → ∀ p ∈ ps.take j, (gv ht p.1 + 1 ≤ gv hs p.2 ∨ (i : Int) + 2 ≤ gv hs p.2)
theorem Hmid.init {n : Nat} {ps : List Arr} {i : Nat} {h0 : List Int} (o : Hout n ps i h0) : Hmid n ps i 0 h0 h0 false :=
  ⟨o.h, fun v _ _ => Int.le_refl _, fun _ => ⟨rfl, fun p hp => (nomatch hp)⟩, fun z => (nomatch z), fun ht k p hp => (nomatch hp)⟩
theorem Hmid.skip {n : Nat} {ps : List Arr} {i j : Nat} {h0 hs : List Int} {c : Bool} (r : InR n ps) (o : Hout n ps i h0) (M : Hmid n ps i j h0 hs c) {p : Arr} (e : ps[j]? = some p) (hc : ¬ gv hs p.2 ≤ gv hs p.1) : Hmid n ps i (j + 1) h0 hs c := by
  obtain ⟨r1, r2, r3, r4⟩ := r _ (mem_of_get e)
  refine ⟨M.h, M.more, fun z => ?_, M.yes, fun ht k q hq => ?_⟩
  · obtain ⟨e1, e2⟩ := M.no z
    refine ⟨e1, fun q hq => ?_⟩
    rw [take_snoc e] at hq
    rcases List.mem_append.mp hq with hq | hq
    · exact e2 q hq
    · rw [List.mem_singleton.mp hq]
      rw [e1] at hc
      omega
  · rw [take_snoc e] at hq
    rcases List.mem_append.mp hq with hq | hq
    · exact M.low ht k q hq
    · rw [List.mem_singleton.mp hq]
      have h1 := (o.low ht k).2 p.1 r1 r2
      have h2 := M.more p.1 r1 r2
      omega
theorem Hmid.put {n : Nat} {ps : List Arr} {i j : Nat} {h0 hs : List Int} {c : Bool} (r : InR n ps) (o : Hout n ps i h0) (M : Hmid n ps i j h0 hs c) {p : Arr} (e : ps[j]? = some p) (hc : gv hs p.2 ≤ gv hs p.1) :
    Hmid n ps i (j + 1) h0 (hs.set p.2.toNat (gv hs p.1 + 1)) true := by
  have hm := mem_of_get e
  obtain ⟨r1, r2, r3, r4⟩ := r _ hm
  have hl := M.h.len
  have st : ∀ w : Int, 0 ≤ w → gv (hs.set p.2.toNat (gv hs p.1 + 1)) w = if w = p.2 then gv hs p.1 + 1 else gv hs w := fun w hw => gv_set r3 (by omega) hw
  have mono : ∀ w : Int, 0 ≤ w → gv hs w ≤ gv (hs.set p.2.toNat (gv hs p.1 + 1)) w := fun w hw => by
    rw [st w hw]
    split
    · rename_i z
      rw [z]
      omega
    · exact Int.le_refl _
  refine ⟨⟨by rw [List.length_set]; exact hl, fun v a b => Int.le_trans (M.h.one v a b) (mono v a), fun v a b => ?_, fun ht k v a b => ?_⟩, fun v a b => Int.le_trans (M.more v a b) (mono v a), fun z => (nomatch z), fun _ => ⟨p.2, r3, r4, ?_⟩, fun ht k q hq => ?_⟩
  · by_cases z : v = p.2
    · refine .inr ⟨p.1, by rw [z]; exact hm, ?_⟩
      have := mono p.1 r1
      rw [st v a, if_pos z]
      omega
    · rw [st v a, if_neg z]
      rcases M.h.dn v a b with h | ⟨x, hx, h⟩
      · exact .inl h
      · exact .inr ⟨x, hx, Int.le_trans h (by have := mono x (r _ hx).1; omega)⟩
  · rw [st v a]
    split
    · rename_i z
      have h1 := M.h.top ht k p.1 r1 r2
      have h2 := k.up _ _ hm
      rw [z]
      omega
    · exact M.h.top ht k v a b
  · have h1 := M.more p.2 r3 r4
    rw [st p.2 r3, if_pos rfl]
    omega
  · rw [take_snoc e] at hq
    rcases List.mem_append.mp hq with hq | hq
    · have h1 := M.low ht k q hq
      have h2 := mono q.2 (r _ (List.mem_of_mem_take hq)).2.2.1
      omega
    · rw [List.mem_singleton.mp hq, st p.2 r3, if_pos rfl]
      have h1 := (o.low ht k).2 p.1 r1 r2
      have h2 := M.more p.1 r1 r2
      omega
theorem Hmid.done {n : Nat} {ps : List Arr} {i : Nat} {h0 hs : List Int} (r : InR n ps) (M : Hmid n ps i ps.length h0 hs false) : HtOf n ps hs := by
  obtain ⟨e, h⟩ := M.no rfl
  rw [List.take_length, ← e] at h
  refine ⟨M.h.len, M.h.one, fun x y hxy => h _ hxy, fun v a b => ?_⟩
  rcases M.h.dn v a b with z | ⟨x, hx, z⟩
  · exact .inl z
  · refine .inr ⟨x, hx, ?_⟩
    have := h _ hx
    dsimp only at this
    omega
theorem Hmid.next {n : Nat} {ps : List Arr} {i : Nat} {h0 hs : List Int} (r : InR n ps) (o : Hout n ps i h0) (M : Hmid n ps i ps.length h0 hs true) : Hout n ps (i + 1) hs := by
  refine ⟨M.h, fun ht k => ⟨?_, fun v a b => ?_⟩⟩
  · obtain ⟨v, a, b, h⟩ := M.yes rfl
    have h1 := M.h.top ht k v a b
    have h2 := (o.low ht k).2 v a b
    have h3 := k.most r a b
    omega
  · rcases k.dn v a b with z | ⟨x, hx, z⟩
    · have := M.h.one v a b
      exact .inl (by omega)
    · have := M.low ht k (x, v) (by rw [List.take_length]; exact hx)
      dsimp only at this
      omega
/-! ### the longest row -/
/-- of these depths, the least of the longest rows -/
structure LongOf (n : Nat) (ps : List Arr) (ds row : List Int) : Prop where
  len : (row.length : Int) = maxOr 0 ds
  at' : ∀ (i : Nat) (v : Int), row[i]? = some v → 0 ≤ v ∧ v < n ∧ gv ds v = row.length - i ∧ ∀ u, 0 < i → row[i - 1]? = some u → (u, v) ∈ ps
  least : ∀ (i : Nat) (v : Int), row[i]? = some v → ∀ w : Int, 0 ≤ w → w < n → gv ds w = row.length - i → (∀ u, 0 < i → row[i - 1]? = some u → (u, w) ∈ ps) → v ≤ w
/-- the row so far -/
structure LongP (n : Nat) (ps : List Arr) (ds : List Int) (M : Int) (i : Nat) (row : List Int) : Prop where
  len : row.length = i
  at' : ∀ (j : Nat) (v : Int), row[j]? = some v → 0 ≤ v ∧ v < n ∧ gv ds v = M - j ∧ ∀ u, 0 < j → row[j - 1]? = some u → (u, v) ∈ ps
  least : ∀ (j : Nat) (v : Int), row[j]? = some v → ∀ w : Int, 0 ≤ w → w < n → gv ds w = M - j → (∀ u, 0 < j → row[j - 1]? = some u → (u, w) ∈ ps) → v ≤ w
theorem LongP.init (n : Nat) (ps : List Arr) (ds : List Int) (M : Int) : LongP n ps ds M 0 [] := ⟨rfl, fun _ _ h => by simp at h, fun _ _ h => by simp at h⟩
theorem LongP.put {n : Nat} {ps : List Arr} {ds : List Int} {M : Int} {i : Nat} {row : List Int} (L : LongP n ps ds M i row) {v : Int} (h0 : 0 ≤ v) (h1 : v < n) (hd : gv ds v = M - i) (hu : ∀ u, 0 < i → row[i - 1]? = some u → (u, v) ∈ ps)
    (hl : ∀ w : Int, 0 ≤ w → w < n → gv ds w = M - i → (∀ u, 0 < i → row[i - 1]? = some u → (u, w) ∈ ps) → v ≤ w) : LongP n ps ds M (i + 1) (row ++ [v]) := by
  have pre : ∀ j, j < i → (row ++ [v])[j]? = row[j]? := fun j hj => List.getElem?_append_left (by rw [L.len]; exact hj)
  have las : (row ++ [v])[i]? = some v := by rw [List.getElem?_append_right (by rw [L.len]; exact Nat.le_refl _), L.len, Nat.sub_self] <;> rfl
  refine ⟨by rw [List.length_append, L.len] <;> rfl, fun j w hj => ?_, fun j w hj x x0 x1 xd xu => ?_⟩
  · have := lt_of_get hj
    rw [List.length_append, L.len, List.length_singleton] at this
    by_cases c : j < i
    · rw [pre j c] at hj
      obtain ⟨a1, a2, a3, a4⟩ := L.at' j w hj
      exact ⟨a1, a2, a3, fun u z hz => a4 u z (by rw [← pre (j - 1) (by omega)]; exact hz)⟩
    · have e : j = i := by omega
      subst e
      rw [las] at hj
      cases hj
      exact ⟨h0, h1, hd, fun u z hz => hu u z (by rw [← pre (j - 1) (by omega)]; exact hz)⟩
  · have := lt_of_get hj
    rw [List.length_append, L.len, List.length_singleton] at this
    by_cases c : j < i
    · rw [pre j c] at hj
      exact L.least j w hj x x0 x1 xd fun u z hz => xu u z (by rw [pre (j - 1) (by omega)]; exact hz)
    · have e : j = i := by omega
      subst e
      rw [las] at hj
      cases hj
      exact hl x x0 x1 xd fun u z hz => xu u z (by rw [pre (j - 1) (by omega)]; exact hz)
theorem LongP.done {n : Nat} {ps : List Arr} {ds : List Int} {M : Int} {row : List Int} (h : 0 ≤ M) (L : LongP n ps ds M M.toNat row) (e : M = maxOr 0 ds) : LongOf n ps ds row := by
  have hl := L.len
  have hM : (row.length : Int) = M := by omega
  exact ⟨hM.trans e, fun i v hi => by rw [hM]; exact L.at' i v hi, fun i v hi => by rw [hM]; exact L.least i v hi⟩
/-- a longest row is told by its depths -/
theorem LongOf.same {n : Nat} {ps : List Arr} {ds r r' : List Int} (h : LongOf n ps ds r) (k : LongOf n ps ds r') : r = r' := by
  have hl : r.length = r'.length := by have := h.len.trans k.len.symm; omega
  have key : ∀ i : Nat, r[i]? = r'[i]? := by
    intro i
    induction i with
    | zero =>
      cases e1 : r[0]? with
      | none => rw [List.getElem?_eq_none]; rw [List.getElem?_eq_none_iff] at e1; omega
      | some v =>
        have := lt_of_get e1
        obtain ⟨w, e2⟩ : ∃ w, r'[0]? = some w := ⟨r'[0]'(by omega), List.getElem?_eq_getElem _⟩
        rw [e2]
        have a1 := h.at' 0 v e1
        have a2 := k.at' 0 w e2
        have b1 := h.least 0 v e1 w a2.1 a2.2.1 (by rw [a2.2.2.1, hl]) fun u z => absurd z (Nat.lt_irrefl _)
        have b2 := k.least 0 w e2 v a1.1 a1.2.1 (by rw [a1.2.2.1, hl]) fun u z => absurd z (Nat.lt_irrefl _)
        rw [Int.le_antisymm b1 b2]
    | succ i ih =>
      cases e1 : r[i + 1]? with
      | none => rw [List.getElem?_eq_none]; rw [List.getElem?_eq_none_iff] at e1; omega
      | some v =>
        have := lt_of_get e1
        obtain ⟨w, e2⟩ : ∃ w, r'[i + 1]? = some w := ⟨r'[i + 1]'(by omega), List.getElem?_eq_getElem _⟩
        rw [e2]
        have a1 := h.at' _ v e1
        have a2 := k.at' _ w e2
        have b1 := h.least _ v e1 w a2.1 a2.2.1 (by rw [a2.2.2.1, hl]) fun u z hu => a2.2.2.2 u z (by rw [Nat.add_sub_cancel] at hu ⊢; rw [← ih]; exact hu)
        have b2 := k.least _ w e2 v a1.1 a1.2.1 (by rw [a1.2.2.1, hl]) fun u z hu => a1.2.2.2 u z (by rw [Nat.add_sub_cancel] at hu ⊢; rw [ih]; exact hu)
        rw [Int.le_antisymm b1 b2]
  exact List.ext_getElem? key
end Ar
namespace Ar
open PySem PySem.Spec L2
/-! ### heights there are -/
theorem sum_ones : ∀ {l : List Int}, (∀ x ∈ l, 1 ≤ x) → (l.length : Int) ≤ l.sum
  | [], _ => Int.le_refl _
  | a :: l, h => by
    have h1 := h a List.mem_cons_self
    have h2 := sum_ones (l := l) fun x hx => h x (List.mem_cons_of_mem _ hx)
    rw [List.sum_cons, List.length_cons]
    omega
theorem ht_of_up {n : Nat} {ps : List Arr} (r : InR n ps) : ∀ (k : Nat) (hs : List Int), hs.sum ≤ k → hs.length = n → (∀ v : Int, 0 ≤ v → v < n → 1 ≤ gv hs v) → (∀ x y, (x, y) ∈ ps → gv hs x < gv hs y) → ∃ ht, HtOf n ps ht := by
  intro k
  induction k with
  | zero =>
    intro hs h1 h2 h3 h4
    have n0 : n = 0 := by
      have := sum_ones (l := hs) fun x hx => by
        obtain ⟨j, hj⟩ := List.getElem?_of_mem hx
        have hjn := lt_of_get hj
        have := h3 (j : Int) (by omega) (by omega)
        unfold gv at this
        rw [List.getD_eq_getElem?_getD, Int.toNat_natCast, hj] at this
        exact this
      omega
    exact ⟨hs, h2, h3, h4, fun v a b => by omega⟩
  | succ k ih =>
    intro hs h1 h2 h3 h4
    by_cases c : ∀ v : Int, 0 ≤ v → v < n → gv hs v = 1 ∨ ∃ x, (x, v) ∈ ps ∧ gv hs x + 1 = gv hs v
    · exact ⟨hs, h2, h3, h4, c⟩
    · obtain ⟨v, hv⟩ := Classical.not_forall.mp c
      obtain ⟨v0, hv⟩ := Classical.not_forall.mp hv
      obtain ⟨v1, hv⟩ := Classical.not_forall.mp hv
      have g1 : gv hs v ≠ 1 := fun z => hv (.inl z)
      have g2 : ∀ x, (x, v) ∈ ps → gv hs x + 1 ≠ gv hs v := fun x hx z => hv (.inr ⟨x, hx, z⟩)
      have g3 := h3 v v0 v1
      have st : ∀ w : Int, 0 ≤ w → gv (hs.set v.toNat (gv hs v - 1)) w = if w = v then gv hs v - 1 else gv hs w := fun w hw => gv_set v0 (by omega) hw
      refine ih (hs.set v.toNat (gv hs v - 1)) ?_ (by rw [List.length_set]; exact h2) (fun w a b => ?_) fun x y hxy => ?_
      · have he : hs[v.toNat]? = some (gv hs v) := by
          unfold gv
          rw [List.getD_eq_getElem?_getD, List.getElem?_eq_getElem (by omega)] <;> rfl
        rw [sum_set he]
        omega
      · rw [st w a]
        have := h3 w a b
        split <;> omega
      · obtain ⟨r1, r2, r3, r4⟩ := r _ hxy
        have h := h4 x y hxy
        rw [st x r1, st y r3]
        by_cases ex : x = v
        · rw [if_pos ex]
          by_cases ey : y = v
          · rw [ex, ey] at h
            omega
          · rw [if_neg ey]
            rw [ex] at h
            omega
        · rw [if_neg ex]
          by_cases ey : y = v
          · rw [if_pos ey]
            rw [ey] at h hxy
            have := g2 x hxy
            omega
          · rw [if_neg ey]
            exact h
/-- the points with an arrow to v -/
def ahead (ps : List Arr) (v : Int) : List Int := (ps.filter fun p => decide (p.2 = v)).map (·.1)
theorem mem_ahead {ps : List Arr} {v x : Int} : x ∈ ahead ps v ↔ (x, v) ∈ ps := by
  unfold ahead
  rw [List.mem_map]
  constructor
  · rintro ⟨⟨a, b⟩, h, rfl⟩
    obtain ⟨h1, h2⟩ := List.mem_filter.mp h
    have h2 : b = v := of_decide_eq_true h2
    rw [← h2]
    exact h1
  · intro h
    exact ⟨(x, v), List.mem_filter.mpr ⟨h, decide_eq_true rfl⟩, rfl⟩
theorem nodup_ahead {ps : List Arr} (h : ps.Nodup) (v : Int) : (ahead ps v).Nodup := by
  refine nodup_mapOn' (h.filter _) fun a ha b hb e => ?_
  have h1 : a.2 = v := of_decide_eq_true (List.mem_filter.mp ha).2
  have h2 : b.2 = v := of_decide_eq_true (List.mem_filter.mp hb).2
  exact Prod.ext e (h1.trans h2.symm)
theorem ht_of_ord {n : Nat} {ps : List Arr} (r : InR n ps) (nd : ps.Nodup) (ir : ∀ a, (a, a) ∉ ps) (tr : ∀ a b c, (a, b) ∈ ps → (b, c) ∈ ps → (a, c) ∈ ps) : ∃ hs, HtOf n ps hs := by
  have gf : ∀ v : Int, 0 ≤ v → v < n → gv ((List.range n).map fun i : Nat => 1 + ((ahead ps i).length : Int)) v = 1 + ((ahead ps v).length : Int) := fun v a b => by
    unfold gv
    rw [List.getD_eq_getElem?_getD, List.getElem?_map, List.getElem?_range (by omega)]
    show 1 + ((ahead ps ((v.toNat : Nat) : Int)).length : Int) = _
    rw [Int.toNat_of_nonneg a]
  refine ht_of_up r ((List.range n).map fun i : Nat => 1 + ((ahead ps i).length : Int)).sum.toNat ((List.range n).map fun i : Nat => 1 + ((ahead ps i).length : Int)) (by omega) (by rw [List.length_map, List.length_range]) (fun v a b => by rw [gf v a b]; omega) fun x y h => ?_
  obtain ⟨r1, r2, r3, r4⟩ := r _ h
  rw [gf x r1 r2, gf y r3 r4]
  have := len_le_sub (l := x :: ahead ps x) (m := ahead ps y) (List.nodup_cons.mpr ⟨fun z => ir x (mem_ahead.mp z), nodup_ahead nd x⟩) fun u hu => by
    rcases List.mem_cons.mp hu with rfl | hu
    · exact mem_ahead.mpr h
    · exact mem_ahead.mpr (tr _ _ _ (mem_ahead.mp hu) h)
  rw [List.length_cons] at this
  omega
/-- an arrangement's heights, either way about -/
theorem TurnsOf.hts {n : Nat} {l qs : List Arr} (g : GoodL n l) (t : TurnsOf l qs) : InR n qs ∧ (∃ hs, HtOf n qs hs) ∧ ∃ ds, HtOf n (qs.map sw) ds := by
  have r : InR n qs := fun p hp => by
    have h := t.tie p hp
    obtain ⟨h1, h2, h3⟩ := g.rng p.1 p.2 h
    obtain ⟨h4, h5, h6⟩ := g.rng p.2 p.1 (g.sym _ _ h)
    exact ⟨h1, h2, h4, h5⟩
  have nd : qs.Nodup := t.once.imp fun h => h.1
  have ir : ∀ a, (a, a) ∉ qs := fun a h => (g.rng a a (t.tie _ h)).2.2 rfl
  have ms : ∀ a b, (a, b) ∈ qs.map sw ↔ (b, a) ∈ qs := fun a b => by
    rw [List.mem_map]
    constructor
    · rintro ⟨⟨x, y⟩, h, e⟩
      cases e
      exact h
    · intro h
      exact ⟨_, h, rfl⟩
  refine ⟨r, ht_of_ord r nd ir t.no, ht_of_ord (fun p hp => ?_) (nodup_mapOn' nd fun a _ b _ e => ?_) (fun a h => ir a ((ms a a).mp h)) fun a b c h1 h2 => (ms a c).mpr (t.no _ _ _ ((ms b c).mp h2) ((ms a b).mp h1))⟩
  · have := r _ ((ms p.1 p.2).mp hp)
    exact ⟨this.2.2.1, this.2.2.2, this.1, this.2.1⟩
  · have := congrArg sw e
    rwa [sw_sw, sw_sw] at this
end Ar
namespace Ar
open PySem PySem.Spec L2
/-! ### forcing: promises -/
def sp_forced_by (K : PySem.W.Frag) : Sp := fun vs H Q _ => ∃ (d : Addr) (l : List Arr) (n : Nat) (t : Addr) (a b : Int), vs = [.ref d, .int n, .ref t] ∧ H d = some (.dT (hk l)) ∧ GoodL n l ∧ n ≤ 24 ∧ H t = some (.tup [.int a, .int b]) ∧
  ∀ p H' xs, H p = none → Same H H' → H' p = some (.lst xs) → TL H' xs ((fcs n l (a, b)).map p2) → Q (.ref p) H'
abbrev sp_forces (K : PySem.W.Frag) : Sp := sp_forced_by K
/-- a dict from arrows to the arrows ahead, as it stands -/
def parV (H : Hp) (v : V) : Option Arr → Prop
  | none => v = .non
  | some p => TI H v (p2 p)
def CameAt (H : Hp) (kvs : List (List Key × V)) (cs : Cm) : Prop := Paired (fun kv c => kv.1 = kp c.1 ∧ parV H kv.2 c.2) kvs cs
def sp_led_by (K : PySem.W.Frag) : Sp := fun vs H Q _ => ∃ (d : Addr) (l : List Arr) (n : Nat) (t : Addr) (a b : Int), vs = [.ref d, .int n, .ref t] ∧ H d = some (.dT (hk l)) ∧ GoodL n l ∧ n ≤ 24 ∧ H t = some (.tup [.int a, .int b]) ∧ (a, b) ∈ l ∧
  ∀ p H' kvs, H p = none → Same H H' → H' p = some (.dT kvs) → CameAt H' kvs (ledC n l (a, b)) → Q (.ref p) H'
def sp_row_to (K : PySem.W.Frag) : Sp := fun vs H Q _ => ∃ (c : Addr) (kvs : List (List Key × V)) (cs : Cm) (t : Addr) (q : Arr) (row : List Arr), vs = [.ref c, .ref t] ∧ H c = some (.dT kvs) ∧ CameAt H kvs cs ∧ (ks cs).Nodup ∧ H t = some (.tup [.int q.1, .int q.2]) ∧ PathTo cs q row ∧ row.length ≤ 1000 ∧
  ∀ p H' xs, H p = none → Same H H' → H' p = some (.lst xs) → TL H' xs (row.map p2) → Q (.ref p) H'
def sp_clash_of (K : PySem.W.Frag) : Sp := fun vs H Q _ => ∃ (d : Addr) (l : List Arr) (n : Nat), vs = [.ref d, .int n] ∧ H d = some (.dT (hk l)) ∧ GoodL n l ∧ n ≤ 24 ∧
  (NoClash l → ∀ H', Same H H' → Q .non H') ∧ ∀ r p H' xs, ClashRow n l r → H p = none → Same H H' → H' p = some (.lst xs) → TL H' xs (r.map p2) → Q (.ref p) H'
/-- what turned tells -/
structure Told (n : Nat) (l : List Arr) (b : Bool) (qs : List Arr) : Prop where
  yes : b = true → TurnsOf l qs ∧ Rising (qs.map p2)
  no : b = false → ClashRow n l qs
def sp_turned (K : PySem.W.Frag) : Sp := fun vs H Q _ => ∃ (v : V) (n : Nat) (l : List Arr), vs = [v] ∧ NetAt K H v n l ∧
  ∀ (t r : Addr) (b : Bool) (H' : Hp) (xs : List V) (qs : List Arr), Told n l b qs → H t = none → H r = none → Same H H' → H' t = some (.tup [.bl b, .ref r]) → H' r = some (.lst xs) → TL H' xs (qs.map p2) → Q (.ref t) H'
/-! ### the law's own looking -/
def sp_clashes (K : PySem.W.Frag) : Sp := fun vs H Q _ => ∃ (d : Addr) (l : List Arr) (n : Nat) (a : Addr) (xs : List V) (qs : List Arr), vs = [.ref d, .int n, .ref a] ∧ H d = some (.dT (hk l)) ∧ GoodL n l ∧ n ≤ 24 ∧ H a = some (.lst xs) ∧ TL H xs (qs.map p2) ∧ ClashRow n l qs ∧
  ∀ H', Same H H' → Q (.bl true) H'
def sp_told_pair (K : PySem.W.Frag) : Sp := fun vs H Q _ => ∃ (t : Addr) (b : Bool) (v : V), vs = [.ref t] ∧ H t = some (.tup [.bl b, v]) ∧ Q (.bl true) H
def sp_right_k12 (K : PySem.W.Frag) : Sp := fun vs H Q _ => ∃ (d : Addr) (l : List Arr) (n : Nat) (t r : Addr) (b : Bool) (xs : List V) (qs : List Arr), vs = [.ref d, .int n, .ref t] ∧ H d = some (.dT (hk l)) ∧ GoodL n l ∧ n ≤ 24 ∧ H t = some (.tup [.bl b, .ref r]) ∧ H r = some (.lst xs) ∧ TL H xs (qs.map p2) ∧ Told n l b qs ∧
  ∀ H', Same H H' → Q (.bl true) H'
abbrev sp_law_k12 (K : PySem.W.Frag) : Sp := sp_law K
end Ar
namespace Ar
open PySem PySem.Spec L2
/-! ### rows and how long they are: promises -/
abbrev OkM (m : Int) : Prop := 0 ≤ m ∧ m ≤ 24
def sp_look (K : PySem.W.Frag) : Sp := fun vs H Q E => ∃ (m : Int) (a : Addr) (xs : List V) (ps : List Arr), vs = [.int m, .ref a] ∧ H a = some (.lst xs) ∧ TL H xs (ps.map p2) ∧
  (¬ OkM m → E (.ref (He.ga K "NoPoints")) none H) ∧ (OkM m → ¬ InR m ps → E (.ref (He.ga K "NoPoint")) none H) ∧ (OkM m → InR m ps → Q .non H)
def sp_heights (K : PySem.W.Frag) : Sp := fun vs H Q E => ∃ (m : Int) (a : Addr) (xs : List V) (ps : List Arr), vs = [.int m, .ref a] ∧ H a = some (.lst xs) ∧ TL H xs (ps.map p2) ∧
  (¬ OkM m → E (.ref (He.ga K "NoPoints")) none H) ∧ (OkM m → ¬ InR m ps → E (.ref (He.ga K "NoPoint")) none H) ∧
  (OkM m → InR m ps → (¬ ∃ hs, HtOf m.toNat ps hs) → ∀ H', Same H H' → E (.ref (He.ga K "Round")) none H') ∧
  (OkM m → InR m ps → ∀ hs p H', HtOf m.toNat ps hs → H p = none → Same H H' → H' p = some (.lst (hs.map .int)) → Q (.ref p) H')
def sp_longest (K : PySem.W.Frag) : Sp := fun vs H Q E => ∃ (m : Int) (a : Addr) (xs : List V) (ps : List Arr), vs = [.int m, .ref a] ∧ H a = some (.lst xs) ∧ TL H xs (ps.map p2) ∧ ps.length ≤ 1000 ∧
  (¬ OkM m → ∀ H', Same H H' → E (.ref (He.ga K "NoPoints")) none H') ∧ (OkM m → ¬ InR m ps → ∀ H', Same H H' → E (.ref (He.ga K "NoPoint")) none H') ∧
  (OkM m → InR m ps → (¬ ∃ ds, HtOf m.toNat (ps.map sw) ds) → ∀ H', Same H H' → E (.ref (He.ga K "Round")) none H') ∧
  (OkM m → InR m ps → ∀ ds row p H', HtOf m.toNat (ps.map sw) ds → LongOf m.toNat ps ds row → H p = none → Same H H' → H' p = some (.lst (row.map .int)) → Q (.ref p) H')
def sp_coloured (K : PySem.W.Frag) : Sp := fun vs H Q E => ∃ (v : V) (n : Nat) (l : List Arr), vs = [v] ∧ NetAt K H v n l ∧
  (¬ NoClash l → ∀ H', Same H H' → E (.ref (He.ga K "Clash")) none H') ∧
  ∀ (t c r : Addr) (H' : Hp) (qs : List Arr) (hs ds row : List Int), NoClash l → TurnsOf l qs → HtOf n qs hs → HtOf n (qs.map sw) ds → LongOf n qs ds row → H t = none → H c = none → H r = none → c ≠ r → Same H H' → H' t = some (.tup [.ref c, .ref r]) → H' c = some (.lst (hs.map .int)) → H' r = some (.lst (row.map .int)) → Q (.ref t) H'
end Ar
namespace Ar
open PySem PySem.Spec L2
/-! ### a point less -/
/-- a point's number when p is gone -/
def dnP (p x : Int) : Int := x - (if p < x then 1 else 0)
def leftL (p : Int) (ps : List Arr) : List Arr := (ps.filter fun q => decide (q.1 ≠ p ∧ q.2 ≠ p)).map fun q => (dnP p q.1, dnP p q.2)
def LessOf (p : Int) (l l' : List Arr) : Prop := ∀ a b, (a, b) ∈ l' ↔ ∃ x y, (x, y) ∈ l ∧ x ≠ p ∧ y ≠ p ∧ a = dnP p x ∧ b = dnP p y
def sp_lessened (K : PySem.W.Frag) : Sp := fun vs H Q E => ∃ (v : V) (n : Nat) (l : List Arr) (p : Int), vs = [v, .int p] ∧ NetAt K H v n l ∧
  (¬ (0 ≤ p ∧ p < n) → E (.ref (He.ga K "NoPoint")) none H) ∧ (0 ≤ p ∧ p < n → ∀ l' w H', LessOf p l l' → Same H H' → NetAt K H' w (n - 1) l' → Q w H')
def sp_need_arrow (K : PySem.W.Frag) : Sp := fun vs H Q E => ∃ (v : V) (n : Nat) (l : List Arr) (t : Addr) (a b : Int), vs = [v, .ref t] ∧ NetAt K H v n l ∧ H t = some (.tup [.int a, .int b]) ∧
  ((a, b) ∉ l → E (.ref (He.ga K "NoArrow")) none H) ∧ ((a, b) ∈ l → Q .non H)
def sp_forced (K : PySem.W.Frag) : Sp := fun vs H Q E => ∃ (v : V) (n : Nat) (l : List Arr) (t : Addr) (a b : Int), vs = [v, .ref t] ∧ NetAt K H v n l ∧ H t = some (.tup [.int a, .int b]) ∧
  ((a, b) ∉ l → E (.ref (He.ga K "NoArrow")) none H) ∧ ((a, b) ∈ l → ∀ p H' xs, H p = none → Same H H' → H' p = some (.lst xs) → TL H' xs ((fcs n l (a, b)).map p2) → Q (.ref p) H')
def sp_left_k14 (K : PySem.W.Frag) : Sp := fun vs H Q _ => ∃ (a : Addr) (p : Int) (xs : List V) (ps : List Arr), vs = [.ref a, .int p] ∧ H a = some (.lst xs) ∧ TL H xs (ps.map p2) ∧ ps.length ≤ 1000 ∧
  ∀ r ys H', H r = none → Same H H' → H' r = some (.lst ys) → TL H' ys ((leftL p ps).map p2) → Q (.ref r) H'
abbrev sp_law_k14 (K : PySem.W.Frag) : Sp := sp_law K
theorem dnP_inj {p x y : Int} (hx : x ≠ p) (hy : y ≠ p) (e : dnP p x = dnP p y) : x = y := by
  unfold dnP at e
  split at e <;> split at e <;> omega
theorem dnP_rng {p x : Int} {n : Nat} (hp : 0 ≤ p ∧ p < n) (h0 : 0 ≤ x) (h1 : x < n) (hx : x ≠ p) : 0 ≤ dnP p x ∧ dnP p x < (n - 1 : Nat) := by
  unfold dnP
  split <;> omega
theorem mem_leftL {p : Int} {ps : List Arr} {a b : Int} : (a, b) ∈ leftL p ps ↔ ∃ x y, (x, y) ∈ ps ∧ x ≠ p ∧ y ≠ p ∧ a = dnP p x ∧ b = dnP p y := by
  unfold leftL
  rw [List.mem_map]
  constructor
  · rintro ⟨⟨x, y⟩, h, e⟩
    obtain ⟨h1, h2⟩ := List.mem_filter.mp h
    obtain ⟨h3, h4⟩ := of_decide_eq_true h2
    cases e
    exact ⟨x, y, h1, h3, h4, rfl, rfl⟩
  · rintro ⟨x, y, h1, h2, h3, rfl, rfl⟩
    exact ⟨(x, y), List.mem_filter.mpr ⟨h1, decide_eq_true ⟨h2, h3⟩⟩, rfl⟩
theorem leftL_snoc (p : Int) (ps : List Arr) (q : Arr) : leftL p (ps ++ [q]) = leftL p ps ++ (if q.1 ≠ p ∧ q.2 ≠ p then [(dnP p q.1, dnP p q.2)] else []) := by
  unfold leftL
  rw [List.filter_append, List.map_append]
  by_cases c : q.1 ≠ p ∧ q.2 ≠ p
  · rw [if_pos c, List.filter_cons_of_pos (by rw [decide_eq_true c])] <;> rfl
  · rw [if_neg c, List.filter_cons_of_neg (by rw [decide_eq_false c]; exact Bool.false_ne_true)] <;> rfl
theorem len_leftL (p : Int) (ps : List Arr) : (leftL p ps).length ≤ ps.length := by
  unfold leftL
  rw [List.length_map]
  exact List.length_filter_le _ _
theorem Ties.left {n : Nat} {ps : List Arr} {p : Int} (hp : 0 ≤ p ∧ p < n) (t : Ties n ps) : Ties (n - 1) (leftL p ps) := by
  refine ⟨fun q hq => ?_, ?_⟩
  · obtain ⟨x, y, h1, h2, h3, e1, e2⟩ := mem_leftL.mp (show (q.1, q.2) ∈ leftL p ps from hq)
    obtain ⟨k1, k2, k3, k4, k5⟩ := t.ok _ h1
    have r1 := dnP_rng hp k1 k2 h2
    have r2 := dnP_rng hp k3 k4 h3
    rw [e1, e2]
    exact ⟨r1.1, r1.2, r2.1, r2.2, fun e => k5 (dnP_inj h2 h3 e)⟩
  · unfold leftL
    refine List.pairwise_map.mpr (List.Pairwise.imp_of_mem (fun {q r} hq hr h => ?_) (t.once.filter _))
    obtain ⟨a1, a2⟩ := of_decide_eq_true (List.mem_filter.mp hq).2
    obtain ⟨b1, b2⟩ := of_decide_eq_true (List.mem_filter.mp hr).2
    refine ⟨fun e => h.1 ?_, fun e => h.2 ?_⟩
    · exact Prod.ext (dnP_inj a1 b1 (congrArg Prod.fst e)) (dnP_inj a2 b2 (congrArg Prod.snd e))
    · exact Prod.ext (dnP_inj a1 b2 (congrArg Prod.fst e)) (dnP_inj a2 b1 (congrArg Prod.snd e))
theorem LessOf.both {p : Int} {ps l l' : List Arr} (h : LessOf p l l') (nd : l'.Nodup) (B : BothOf ps l) : BothOf (leftL p ps) l' := by
  refine ⟨nd, fun a b => ?_⟩
  rw [h]
  unfold Adj
  rw [mem_leftL, mem_leftL]
  constructor
  · rintro ⟨x, y, h1, h2, h3, e1, e2⟩
    rcases (B.mem x y).mp h1 with z | z
    · exact .inl ⟨x, y, z, h2, h3, e1, e2⟩
    · exact .inr ⟨y, x, z, h3, h2, e2, e1⟩
  · rintro (⟨x, y, h1, h2, h3, e1, e2⟩ | ⟨x, y, h1, h2, h3, e1, e2⟩)
    · exact ⟨x, y, (B.mem x y).mpr (.inl h1), h2, h3, e1, e2⟩
    · exact ⟨y, x, (B.mem y x).mpr (.inr h1), h3, h2, e2, e1⟩
theorem LessOf.ord {p : Int} {l l' : List Arr} (h : LessOf p l l') (o : OrdOf fun a b => (a, b) ∈ l) : OrdOf fun a b => (a, b) ∈ l' := by
  obtain ⟨R, tr, ir, ht⟩ := o
  refine ⟨fun a b => ∃ x y, (x, y) ∈ l ∧ R x y ∧ x ≠ p ∧ y ≠ p ∧ a = dnP p x ∧ b = dnP p y, ?_, ?_, fun a b => ?_⟩
  · rintro a b c ⟨x, y, t1, r1, n1, n2, rfl, rfl⟩ ⟨y', z, t2, r2, n3, n4, e, rfl⟩
    have := dnP_inj n2 n3 e
    subst this
    have r := tr _ _ _ r1 r2
    exact ⟨x, z, (ht _ _).mpr (.inl r), r, n1, n4, rfl, rfl⟩
  · rintro a ⟨x, y, t1, r1, n1, n2, rfl, e⟩
    have := dnP_inj n1 n2 e
    subst this
    exact ir _ r1
  · refine (h a b).trans ?_
    constructor
    · rintro ⟨x, y, t, n1, n2, rfl, rfl⟩
      rcases (ht _ _).mp t with r | r
      · exact .inl ⟨x, y, t, r, n1, n2, rfl, rfl⟩
      · exact .inr ⟨y, x, (ht _ _).mpr (.inl r), r, n2, n1, rfl, rfl⟩
    · rintro (⟨x, y, t, r, n1, n2, rfl, rfl⟩ | ⟨x, y, t, r, n1, n2, rfl, rfl⟩)
      · exact ⟨x, y, t, n1, n2, rfl, rfl⟩
      · exact ⟨y, x, (ht _ _).mpr (.inr r), n2, n1, rfl, rfl⟩
end Ar
namespace Ar
open PySem PySem.Spec L2
/-! ### the program's exceptions -/
def excNames : List Str := ["NoPoints", "NoPoint", "NoTie", "TwiceTold", "NoArrow", "Round", "Clash"]
abbrev exA (K : PySem.W.Frag) (i : Nat) : Addr := He.ga K (excNames.getD i "")
def excCb (K : PySem.W.Frag) (D : Addr) : Bool :=
  decide (PySem.W.findIn K (.ref D) "__getattribute__" = some (some (.builtin "BaseException.__getattribute__"))) && decide (PySem.W.findIn K (.ref D) "__getattr__" = some none) && decide (PySem.W.subIn K (.ref D) (.type "BaseException") = some true) &&
  (PySem.W.hasDictIn K D && decide (PySem.W.findIn K (.ref D) "__class__" = some (some (.builtin "object.__class__"))) && decide (PySem.W.specialIn K (.builtin "object.__class__") "__get__" = some (some (.builtin "getset_descriptor.__get__"))) &&
  (decide (PySem.W.takesIn K (.builtin "object.__class__") = some true) && decide (PySem.W.mroIn K D (.type "object") = some true)))
theorem excC_of {K : PySem.W.Frag} {D : Addr} (h : excCb K D = true) : ExcC K D := by
  unfold excCb at h
  simp only [Bool.and_eq_true, decide_eq_true_eq] at h
  obtain ⟨⟨⟨h1, h2⟩, h3⟩, ⟨⟨h4, h5⟩, h6⟩, h7, h8⟩ := h
  exact ⟨h1, h2, h3, h4, h5, h6, h7, h8⟩
def exAll (K : PySem.W.Frag) : Bool := (List.range 7).all fun i => excCb K (exA K i) && (List.range 7).all (fun j => decide (PySem.W.kitOne K (.ref (exA K i)) (.ref (exA K j)) = some (decide (i = j)))) &&
  (decide (PySem.W.kitOne K (.ref (exA K i)) (.ref (He.ga K "TieError")) = some true) && decide (PySem.W.kitOne K (.ref (exA K i)) (.type "ValueError") = some true))
structure OnlyK (K : PySem.W.Frag) : Prop where
  c : ∀ i, i < 7 → ExcC K (exA K i)
  k : ∀ i j, i < 7 → j < 7 → PySem.W.kitOne K (.ref (exA K i)) (.ref (exA K j)) = some (decide (i = j))
  t : ∀ i, i < 7 → PySem.W.kitOne K (.ref (exA K i)) (.ref (He.ga K "TieError")) = some true
  v : ∀ i, i < 7 → PySem.W.kitOne K (.ref (exA K i)) (.type "ValueError") = some true
theorem onlyK_of {K : PySem.W.Frag} (h : exAll K = true) : OnlyK K := by
  have all : ∀ i, i < 7 → (excCb K (exA K i) && (List.range 7).all (fun j => decide (PySem.W.kitOne K (.ref (exA K i)) (.ref (exA K j)) = some (decide (i = j)))) && (decide (PySem.W.kitOne K (.ref (exA K i)) (.ref (He.ga K "TieError")) = some true) && decide (PySem.W.kitOne K (.ref (exA K i)) (.type "ValueError") = some true))) = true :=
    fun i hi => List.all_eq_true.mp h i (List.mem_range.mpr hi)
  simp only [Bool.and_eq_true, decide_eq_true_eq] at all
  exact ⟨fun i hi => excC_of (all i hi).1.1, fun i j hi hj => of_decide_eq_true (List.all_eq_true.mp (all i hi).1.2 j (List.mem_range.mpr hj)), fun i hi => (all i hi).2.1, fun i hi => (all i hi).2.2⟩
def sp_only (K : PySem.W.Frag) (D a : Addr) : Sp := fun vs H Q _ => ∃ (i k : Nat), i < 7 ∧ k < 7 ∧ D = exA K i ∧ vs = [.ref a, .int k] ∧ ∀ H', Same H H' → Q (.bl (decide (i = k))) H'
theorem only_exc {K : PySem.W.Frag} (O : OnlyK K) {D a : Addr} {vs : List V} {H : Hp} {Q : VK} {E : XK} (h : sp_only K D a vs H Q E) : ExcC K D := by
  obtain ⟨i, k, hi, _, rfl, _⟩ := h
  exact O.c i hi
/-- try: tb, except c as the name in slot i: ts -/
def tTryAs (K : PySem.W.Frag) (c : Value) (i : Nat) (tb : WX → TS) (ts : Addr → Value → Option Addr → TS) : TS := fun D σ H => tb (wAs K c i ts (fun _ _ _ _ => False) D) D σ H
end Ar
namespace Ar
open PySem PySem.Spec L2
/-! ### colours and points as they are due -/
structure ColOk (n : Nat) (l : List Arr) (hs row : List Int) : Prop where
  len : hs.length = n
  cnt : maxOr 0 hs = (row.length : Int)
  all : ∀ k : Int, 1 ≤ k → k ≤ row.length → k ∈ hs
  one : ∀ x ∈ hs, 1 ≤ x
  un : ∀ a b, (a, b) ∈ l → gv hs a ≠ gv hs b
  tie : ∀ (i j : Nat) (u v : Int), i < j → row[i]? = some u → row[j]? = some v → (u, v) ∈ l
  rng : ∀ v ∈ row, 0 ≤ v ∧ v < n
theorem gv_at {hs : List Int} {i : Nat} {x : Int} (h : hs[i]? = some x) : gv hs (i : Int) = x := by
  unfold gv
  rw [List.getD_eq_getElem?_getD, Int.toNat_natCast, h] <;> rfl
theorem gv_mem {hs : List Int} {v : Int} (h0 : 0 ≤ v) (h1 : v < hs.length) : gv hs v ∈ hs := by
  unfold gv
  rw [List.getD_eq_getElem?_getD, List.getElem?_eq_getElem (by omega)]
  exact List.getElem_mem _
theorem ht_far {n : Nat} {ps : List Arr} {hs ds : List Int} (r : InR n ps) (h : HtOf n ps hs) (k : HtOf n (ps.map sw) ds) : ∀ (j : Nat) (v : Int), 0 ≤ v → v < n → gv hs v = j → ∃ u : Int, (0 ≤ u ∧ u < n) ∧ (j : Int) + gv ds v ≤ gv ds u + 1
  | 0, v, h0, h1, hj => ⟨v, ⟨h0, h1⟩, by omega⟩
  | j + 1, v, h0, h1, hj => by
    rcases h.dn v h0 h1 with e | ⟨x, hx, e⟩
    · exact ⟨v, ⟨h0, h1⟩, by omega⟩
    · obtain ⟨r1, r2, _, _⟩ := r _ hx
      obtain ⟨u, hu, hl⟩ := ht_far r h k j x r1 r2 (by omega)
      have := k.up v x (List.mem_map.mpr ⟨_, hx, rfl⟩)
      exact ⟨u, hu, by omega⟩
theorem ht_max_le {n : Nat} {ps : List Arr} {hs ds : List Int} (r : InR n ps) (h : HtOf n ps hs) (k : HtOf n (ps.map sw) ds) : maxOr 0 hs ≤ maxOr 0 ds := by
  have lh := h.len
  have lk := k.len
  by_cases z : n = 0
  · have e1 : hs = [] := List.length_eq_zero_iff.mp (by omega)
    have e2 : ds = [] := List.length_eq_zero_iff.mp (by omega)
    rw [e1, e2]
    exact Int.le_refl _
  · obtain ⟨m1, _⟩ := maxOr_mem (d := 0) (ns := hs) (by omega)
    obtain ⟨_, d2⟩ := maxOr_mem (d := 0) (ns := ds) (by omega)
    obtain ⟨i, hi⟩ := List.getElem?_of_mem m1
    have hin := lt_of_get hi
    have ev := gv_at hi
    have h1 := h.one (i : Int) (by omega) (by omega)
    obtain ⟨u, ⟨u0, u1⟩, hu⟩ := ht_far r h k (gv hs i).toNat i (by omega) (by omega) (by omega)
    have h2 := k.one (i : Int) (by omega) (by omega)
    have h3 := d2 _ (gv_mem u0 (by omega))
    omega
theorem ht_all {n : Nat} {ps : List Arr} {hs : List Int} (r : InR n ps) (h : HtOf n ps hs) : ∀ (j : Nat) (v : Int), 0 ≤ v → v < n → ∀ k : Int, 1 ≤ k → gv hs v = k + j → k ∈ hs
  | 0, v, h0, h1, k, hk, e => by
    have := gv_mem (hs := hs) h0 (by have := h.len; omega)
    rw [e] at this
    simpa using this
  | j + 1, v, h0, h1, k, hk, e => by
    rcases h.dn v h0 h1 with z | ⟨x, hx, z⟩
    · omega
    · obtain ⟨r1, r2, _, _⟩ := r _ hx
      exact ht_all r h j x r1 r2 k hk (by omega)
theorem map_sw_sw (ps : List Arr) : (ps.map sw).map sw = ps := by
  rw [List.map_map]
  have : ps.map (sw ∘ sw) = ps.map id := List.map_congr_left fun _ _ => rfl
  rw [this, List.map_id]
theorem colOk_of {n : Nat} {l qs : List Arr} {hs ds row : List Int} (g : GoodL n l) (t : TurnsOf l qs) (h : HtOf n qs hs) (k : HtOf n (qs.map sw) ds) (L : LongOf n qs ds row) : ColOk n l hs row := by
  obtain ⟨r, _, _⟩ := t.hts g
  have r' : InR n (qs.map sw) := fun p hp => by
    obtain ⟨q, hq, rfl⟩ := List.mem_map.mp hp
    have := r q hq
    exact ⟨this.2.2.1, this.2.2.2, this.1, this.2.1⟩
  have lh := h.len
  have e1 := ht_max_le r h k
  have e2 := ht_max_le r' k (by rw [map_sw_sw]; exact h)
  have hl := L.len
  have cnt : maxOr 0 hs = (row.length : Int) := by omega
  refine ⟨lh, cnt, fun c c1 c2 => ?_, fun x hx => ?_, fun a b hab => ?_, fun i j u v hij hu hv => ?_, fun v hv => ?_⟩
  · have hn : 0 < hs.length := by
      rcases Nat.eq_zero_or_pos hs.length with z | z
      · have : hs = [] := List.length_eq_zero_iff.mp z
        rw [this] at cnt
        have : maxOr 0 [] = 0 := rfl
        omega
      · exact z
    obtain ⟨m1, _⟩ := maxOr_mem (d := 0) (ns := hs) hn
    obtain ⟨i, hi⟩ := List.getElem?_of_mem m1
    have hin := lt_of_get hi
    have ev := gv_at hi
    exact ht_all r h ((row.length : Int) - c).toNat i (by omega) (by omega) c c1 (by omega)
  · obtain ⟨i, hi⟩ := List.getElem?_of_mem hx
    have hin := lt_of_get hi
    have := h.one (i : Int) (by omega) (by omega)
    rw [gv_at hi] at this
    exact this
  · rcases t.both g.nd g.sym (fun a b h => (g.rng a b h).2.2) hab with z | z
    · have : gv hs a < gv hs b := h.up _ _ z
      omega
    · have : gv hs b < gv hs a := h.up _ _ z
      omega
  · have key : ∀ d : Nat, ∀ v, row[i + d + 1]? = some v → (u, v) ∈ qs := by
      intro d
      induction d with
      | zero =>
        intro v hv
        exact (L.at' _ v hv).2.2.2 u (Nat.succ_pos _) (by rw [Nat.add_sub_cancel]; exact hu)
      | succ d ih =>
        intro v hv
        have hlt := lt_of_get hv
        obtain ⟨w, hw⟩ : ∃ w, row[i + d + 1]? = some w := ⟨row[i + d + 1]'(by omega), List.getElem?_eq_getElem _⟩
        have h1 := ih w hw
        have h2 := (L.at' _ v hv).2.2.2 w (Nat.succ_pos _) (by rw [Nat.add_sub_cancel]; exact hw)
        exact t.no _ _ _ h1 h2
    have e : j = i + (j - i - 1) + 1 := by omega
    rw [e] at hv
    exact t.tie _ (key _ v hv)
  · obtain ⟨i, hi⟩ := List.getElem?_of_mem hv
    obtain ⟨a, b, _⟩ := L.at' i v hi
    exact ⟨a, b⟩
/-! ### promises -/
def sp_refused_k13 (K : PySem.W.Frag) : Sp := fun vs H Q _ => ∃ (v : V) (n : Nat) (l : List Arr), vs = [v] ∧ NetAt K H v n l ∧ ¬ NoClash l ∧ ∀ H', Same H H' → Q (.bl true) H'
def sp_wholes (K : PySem.W.Frag) : Sp := fun vs H Q _ => ∃ (a : Addr) (ns : List Int), vs = [.ref a] ∧ H a = some (.lst (ns.map .int)) ∧ ∀ H', Same H H' → Q (.bl true) H'
def sp_right_k13 (K : PySem.W.Frag) : Sp := fun vs H Q _ => ∃ (d : Addr) (l : List Arr) (n : Nat) (t c r : Addr) (hs row : List Int), vs = [.ref d, .int n, .ref t] ∧ H d = some (.dT (hk l)) ∧ GoodL n l ∧ n ≤ 24 ∧ H t = some (.tup [.ref c, .ref r]) ∧ H c = some (.lst (hs.map .int)) ∧ H r = some (.lst (row.map .int)) ∧ ColOk n l hs row ∧
  ∀ H', Same H H' → Q (.bl true) H'
abbrev sp_law_k13 (K : PySem.W.Frag) : Sp := sp_law K
end Ar
namespace Ar
open PySem PySem.Spec L2
/-! ### arrows that lead round -/
theorem InR.sw {n : Nat} {ps : List Arr} (r : InR n ps) : InR n (ps.map sw) := fun p hp => by
  obtain ⟨q, hq, rfl⟩ := List.mem_map.mp hp
  have := r q hq
  exact ⟨this.2.2.1, this.2.2.2, this.1, this.2.1⟩
theorem gv_map {n : Nat} {f : Nat → Int} {v : Int} (h0 : 0 ≤ v) (h1 : v < n) : gv ((List.range n).map f) v = f v.toNat := by
  unfold gv
  have hv : v.toNat < n := by omega
  rw [List.getD_eq_getElem?_getD, List.getElem?_map, List.getElem?_range hv] <;> rfl
theorem ht_up {n : Nat} {ps : List Arr} (r : InR n ps) (f : Nat → Int) (h1 : ∀ v, v < n → 1 ≤ f v) (h2 : ∀ x y, (x, y) ∈ ps → f x.toNat < f y.toNat) : ∃ ht, HtOf n ps ht := by
  refine ht_of_up r ((List.range n).map f).sum.toNat ((List.range n).map f) (by omega) (by rw [List.length_map, List.length_range]) (fun v v0 v1 => ?_) (fun x y h => ?_)
  · rw [gv_map v0 v1]
    exact h1 _ (by omega)
  · have := r _ h
    rw [gv_map this.1 this.2.1, gv_map this.2.2.1 this.2.2.2]
    exact h2 x y h
theorem ht_sw {n : Nat} {ps : List Arr} (r : InR n ps) : (∃ ht, HtOf n ps ht) → ∃ ds, HtOf n (ps.map sw) ds := by
  rintro ⟨ht, h⟩
  refine ht_up r.sw (fun v => (n : Int) + 1 - gv ht v) (fun v hv => ?_) (fun x y hxy => ?_)
  · have := h.most r (v := (v : Int)) (by omega) (by omega)
    omega
  · obtain ⟨q, hq, e⟩ := List.mem_map.mp hxy
    obtain ⟨a, b⟩ := q
    cases e
    have h1 := h.up a b hq
    have h2 := r _ hq
    have e1 : ((b.toNat : Nat) : Int) = b := by have := h2.2.2.1; show ((b.toNat : Nat) : Int) = b; omega
    have e2 : ((a.toNat : Nat) : Int) = a := by have := h2.1; show ((a.toNat : Nat) : Int) = a; omega
    show (n : Int) + 1 - gv ht ((b.toNat : Nat) : Int) < (n : Int) + 1 - gv ht ((a.toNat : Nat) : Int)
    rw [e1, e2]
    omega
theorem ht_sw_iff {n : Nat} {ps : List Arr} (r : InR n ps) : (∃ ht, HtOf n ps ht) ↔ ∃ ds, HtOf n (ps.map sw) ds := by
  refine ⟨ht_sw r, fun h => ?_⟩
  have := ht_sw r.sw h
  rwa [map_sw_sw] at this
/-! ### the points that are left -/
def leftS (ps : List Arr) (L : List Int) : List Int := L.filter fun p => decide (∃ q ∈ ps, q.2 = p ∧ q.1 ∈ L)
def leftK (ps : List Arr) (n : Nat) : Nat → List Int
  | 0 => (List.range n).map Int.ofNat
  | k + 1 => leftS ps (leftK ps n k)
theorem leftK_succ {ps : List Arr} {n k : Nat} {v : Int} : v ∈ leftK ps n (k + 1) ↔ v ∈ leftK ps n k ∧ ∃ q ∈ ps, q.2 = v ∧ q.1 ∈ leftK ps n k := by
  show v ∈ leftS ps (leftK ps n k) ↔ _
  unfold leftS
  rw [List.mem_filter, decide_eq_true_iff]
theorem leftK_mono {ps : List Arr} {n : Nat} {v : Int} {j : Nat} : ∀ d : Nat, v ∈ leftK ps n (j + d) → v ∈ leftK ps n j
  | 0, h => h
  | d + 1, h => leftK_mono d (leftK_succ.mp h).1
theorem leftK_zero {ps : List Arr} {n : Nat} {v : Int} : v ∈ leftK ps n 0 ↔ 0 ≤ v ∧ v < n := by
  show v ∈ (List.range n).map Int.ofNat ↔ _
  rw [List.mem_map]
  constructor
  · rintro ⟨k, hk, rfl⟩
    have := List.mem_range.mp hk
    exact ⟨Int.natCast_nonneg k, by show (k : Int) < n; omega⟩
  · rintro ⟨h1, h2⟩
    exact ⟨v.toNat, List.mem_range.mpr (by omega), by show ((v.toNat : Nat) : Int) = v; omega⟩
theorem leftK_arrow {ps : List Arr} {n : Nat} (r : InR n ps) {x y : Int} (h : (x, y) ∈ ps) : ∀ k, x ∈ leftK ps n k → y ∈ leftK ps n (k + 1)
  | 0, hx => leftK_succ.mpr ⟨leftK_zero.mpr ((r _ h).2.2), (x, y), h, rfl, hx⟩
  | k + 1, hx => leftK_succ.mpr ⟨leftK_arrow r h k (leftK_succ.mp hx).1, (x, y), h, rfl, hx⟩
theorem left_ht {ps : List Arr} {n : Nat} {ht : List Int} (h : HtOf n ps ht) : ∀ (k : Nat) (v : Int), v ∈ leftK ps n k → (k : Int) + 1 ≤ gv ht v
  | 0, v, hv => by
    obtain ⟨a, b⟩ := leftK_zero.mp hv
    have := h.one v a b
    omega
  | k + 1, v, hv => by
    obtain ⟨_, ⟨x, y⟩, hq, e, hx⟩ := leftK_succ.mp hv
    have e : y = v := e
    subst e
    have h1 := left_ht h k x hx
    have h2 := h.up x y hq
    omega
theorem left_nil {ps : List Arr} {n : Nat} (r : InR n ps) {ht : List Int} (h : HtOf n ps ht) : leftK ps n n = [] := by
  cases e : leftK ps n n with
  | nil => rfl
  | cons v L =>
    have hv : v ∈ leftK ps n n := by rw [e]; exact List.mem_cons_self
    have h1 := left_ht h n v hv
    obtain ⟨a, b⟩ := leftK_zero.mp (leftK_mono (j := 0) n (by rw [Nat.zero_add]; exact hv))
    have h2 := h.most r a b
    omega
theorem left_last {ps : List Arr} {n : Nat} {v : Int} : ∀ k : Nat, v ∉ leftK ps n k → v ∈ leftK ps n 0 → ∃ j, v ∈ leftK ps n j ∧ v ∉ leftK ps n (j + 1)
  | 0, h, h0 => absurd h0 h
  | k + 1, h, h0 => by
    by_cases c : v ∈ leftK ps n k
    · exact ⟨k, c, h⟩
    · exact left_last k c h0
theorem ht_left {ps : List Arr} {n : Nat} (r : InR n ps) (e : leftK ps n n = []) : ∃ ht, HtOf n ps ht := by
  have last : ∀ v : Nat, ∃ j : Nat, v < n → ((v : Int) ∈ leftK ps n j ∧ (v : Int) ∉ leftK ps n (j + 1)) := fun v => by
    by_cases c : v < n
    · obtain ⟨j, hj⟩ := left_last (ps := ps) (n := n) (v := (v : Int)) n (by rw [e]; exact fun z => (nomatch z)) (leftK_zero.mpr (by omega))
      exact ⟨j, fun _ => hj⟩
    · exact ⟨0, fun z => absurd z c⟩
  have last := Classical.axiomOfChoice last
  obtain ⟨f, hf⟩ := last
  refine ht_up r (fun v => (f v : Int) + 1) (fun v _ => by show 1 ≤ (f v : Int) + 1; omega) (fun x y h => ?_)
  obtain ⟨r1, r2, r3, r4⟩ := r _ h
  have r1 : 0 ≤ x := r1
  have r2 : x < n := r2
  have r3 : 0 ≤ y := r3
  have r4 : y < n := r4
  have hx := hf x.toNat (by omega)
  have hy := hf y.toNat (by omega)
  have e1 : ((x.toNat : Nat) : Int) = x := by omega
  have e2 : ((y.toNat : Nat) : Int) = y := by omega
  rw [e1] at hx
  rw [e2] at hy
  show (f x.toNat : Int) + 1 < (f y.toNat : Int) + 1
  generalize f x.toNat = i at hx ⊢
  generalize f y.toNat = j at hy ⊢
  by_cases c : i < j
  · omega
  · exfalso
    have h1 := leftK_arrow r h i hx.1
    have h2 : i + 1 = (j + 1) + (i - j) := by omega
    rw [h2] at h1
    exact hy.2 (leftK_mono _ h1)
/-! ### going over all arrows as often as there are points -/
theorem Hmid.still {n : Nat} {ps : List Arr} {hs : List Int} (h : HtOf n ps hs) {p : Arr} (hp : p ∈ ps) : ¬ gv hs p.2 < gv hs p.1 + 1 := fun c => by
  have := h.up p.1 p.2 hp
  omega
theorem Hout.end_ {n : Nat} {ps : List Arr} (r : InR n ps) {hs ht : List Int} (k : HtOf n ps ht) (o : Hout n ps n hs) : hs = ht := by
  have len := o.h.len
  have lk := k.len
  refine List.ext_getElem? fun i => ?_
  by_cases c : i < n
  · have e : gv hs (i : Int) = gv ht (i : Int) := by
      have h1 := o.h.top ht k (i : Int) (by omega) (by omega)
      have h2 := (o.low ht k).2 (i : Int) (by omega) (by omega)
      have h3 := k.most r (v := (i : Int)) (by omega) (by omega)
      omega
    unfold gv at e
    rw [List.getD_eq_getElem?_getD, List.getD_eq_getElem?_getD, Int.toNat_natCast] at e
    obtain ⟨a, ha⟩ : ∃ a, hs[i]? = some a := ⟨hs[i]'(by omega), List.getElem?_eq_getElem _⟩
    obtain ⟨b, hb⟩ : ∃ b, ht[i]? = some b := ⟨ht[i]'(by omega), List.getElem?_eq_getElem _⟩
    rw [ha, hb] at e ⊢
    exact congrArg some e
  · rw [List.getElem?_eq_none (by omega), List.getElem?_eq_none (by omega)]
end Ar
namespace Ar
open PySem PySem.Spec L2
/-! ### least distances -/
abbrev Dm : Type := List (Arr × Nat)
abbrev dk (ds : Dm) : List Arr := ds.map (·.1)
def stepD (v : Nat) (ds : Dm) (q : Arr) : Dm := if q ∈ dk ds then ds else ds ++ [(q, v)]
/-- while the entry at i, (w, x), is looked at -/
structure Bd (F : Arr → List Arr) (p : Arr) (i : Nat) (ds : Dm) : Prop where
  nd : (dk ds).Nodup
  p0 : ds[0]? = some (p, 0)
  row : ∀ q x, (q, x) ∈ ds → ∃ r, Row F p q r ∧ r.length = x + 1
  mono : ∀ (j k : Nat) (a b : Arr) (x y : Nat), j ≤ k → ds[j]? = some (a, x) → ds[k]? = some (b, y) → x ≤ y
  near : ∀ w x, ds[i]? = some (w, x) → ∀ q y, (q, y) ∈ ds → y ≤ x + 1
  done : ∀ (j : Nat) w x, j < i → ds[j]? = some (w, x) → ∀ q ∈ F w, ∃ y, (q, y) ∈ ds ∧ y ≤ x + 1
theorem Bd.init (F : Arr → List Arr) (p : Arr) : Bd F p 0 [(p, 0)] := by
  have one : ∀ (j : Nat) (e : Arr × Nat), ([(p, 0)] : Dm)[j]? = some e → e = (p, 0) := fun j e h => List.mem_singleton.mp (mem_of_get h)
  refine ⟨List.pairwise_singleton _ _, rfl, fun q x h => ?_, fun j k a b x y _ h1 h2 => ?_, fun w x h1 q y h2 => ?_, fun j w x h => absurd h (Nat.not_lt_zero _)⟩
  · cases List.mem_singleton.mp h
    exact ⟨[p], .one, rfl⟩
  · cases one j _ h1
    cases one k _ h2
    exact Nat.le_refl _
  · cases List.mem_singleton.mp h2
    exact Nat.zero_le _
theorem mem_dk {ds : Dm} {q : Arr} (h : q ∈ dk ds) : ∃ x, (q, x) ∈ ds := by
  obtain ⟨⟨a, x⟩, h1, rfl⟩ := List.mem_map.mp h
  exact ⟨x, h1⟩
theorem Bd.step {F : Arr → List Arr} {p : Arr} {i : Nat} {ds : Dm} (B : Bd F p i ds) {w : Arr} {x : Nat} (hi : ds[i]? = some (w, x)) {q : Arr} (hq : q ∈ F w) : Bd F p i (stepD (x + 1) ds q) ∧ (stepD (x + 1) ds q)[i]? = some (w, x) ∧ ∃ y, (q, y) ∈ stepD (x + 1) ds q ∧ y ≤ x + 1 := by
  unfold stepD
  by_cases h : q ∈ dk ds
  · rw [if_pos h]
    obtain ⟨y, hy⟩ := mem_dk h
    exact ⟨B, hi, y, hy, B.near w x hi q y hy⟩
  · rw [if_neg h]
    have il := lt_of_get hi
    have pre : ∀ (j : Nat) (e : Arr × Nat), ds[j]? = some e → (ds ++ [(q, x + 1)])[j]? = some e := fun j e he => by
      rw [List.getElem?_append_left (lt_of_get he)]
      exact he
    have inv : ∀ (j : Nat) (e : Arr × Nat), (ds ++ [(q, x + 1)])[j]? = some e → ds[j]? = some e ∨ j = ds.length ∧ e = (q, x + 1) := fun j e he => by
      by_cases c : j < ds.length
      · rw [List.getElem?_append_left c] at he
        exact .inl he
      · have := lt_of_get he
        rw [List.length_append, List.length_singleton] at this
        have ej : j = ds.length := by omega
        rw [ej, List.getElem?_append_right (Nat.le_refl _), Nat.sub_self] at he
        cases he
        exact .inr ⟨ej, rfl⟩
    refine ⟨⟨?_, pre 0 _ B.p0, fun a y hm => ?_, fun j k a b u v hjk h1 h2 => ?_, fun w' x' hw a y hm => ?_, fun j w' x' hj hw a ha => ?_⟩, pre i _ hi, x + 1, List.mem_append_right _ (List.mem_singleton.mpr rfl), Nat.le_refl _⟩
    · have e : dk (ds ++ [(q, x + 1)]) = dk ds ++ [q] := by simp
      rw [e]
      exact nd_snoc B.nd h
    · rcases List.mem_append.mp hm with hm | hm
      · exact B.row a y hm
      · cases List.mem_singleton.mp hm
        obtain ⟨r, h1, h2⟩ := B.row w x (mem_of_get hi)
        exact ⟨r ++ [q], .snoc h1 hq, by rw [List.length_append, List.length_singleton, h2]⟩
    · rcases inv j _ h1 with h1 | ⟨rfl, e1⟩
      · rcases inv k _ h2 with h2 | ⟨rfl, e2⟩
        · exact B.mono j k a b u v hjk h1 h2
        · cases e2
          exact B.near w x hi a u (mem_of_get h1)
      · rcases inv k _ h2 with h2 | ⟨rfl, e2⟩
        · have := lt_of_get h2
          omega
        · cases e1
          cases e2
          exact Nat.le_refl _
    · rw [pre i _ hi] at hw
      cases hw
      rcases List.mem_append.mp hm with hm | hm
      · exact B.near w x hi a y hm
      · cases List.mem_singleton.mp hm
        exact Nat.le_refl _
    · rcases inv j _ hw with hw | ⟨rfl, _⟩
      · obtain ⟨y, h1, h2⟩ := B.done j w' x' hj hw a ha
        exact ⟨y, List.mem_append_left _ h1, h2⟩
      · omega
theorem stepD_sub {v : Nat} {ds : Dm} {q : Arr} {e : Arr × Nat} (h : e ∈ ds) : e ∈ stepD v ds q := by
  unfold stepD
  split
  · exact h
  · exact List.mem_append_left _ h
/-- the looking at one entry done, as far as these -/
structure Bw (F : Arr → List Arr) (p : Arr) (i : Nat) (w : Arr) (x : Nat) (L : List Arr) (ds : Dm) : Prop where
  b : Bd F p i ds
  at' : ds[i]? = some (w, x)
  got : ∀ q ∈ L, ∃ y, (q, y) ∈ ds ∧ y ≤ x + 1
theorem Bw.step {F : Arr → List Arr} {p : Arr} {i : Nat} {w : Arr} {x : Nat} {L : List Arr} {ds : Dm} (B : Bw F p i w x L ds) {q : Arr} (hq : q ∈ F w) : Bw F p i w x (L ++ [q]) (stepD (x + 1) ds q) := by
  obtain ⟨h1, h2, y, h3, h4⟩ := B.b.step B.at' hq
  refine ⟨h1, h2, fun a ha => ?_⟩
  rcases List.mem_append.mp ha with ha | ha
  · obtain ⟨z, h5, h6⟩ := B.got a ha
    exact ⟨z, stepD_sub h5, h6⟩
  · rw [List.mem_singleton.mp ha]
    exact ⟨y, h3, h4⟩
theorem Bw.next {F : Arr → List Arr} {p : Arr} {i : Nat} {w : Arr} {x : Nat} {ds : Dm} (B : Bw F p i w x (F w) ds) : Bd F p (i + 1) ds := by
  refine ⟨B.b.nd, B.b.p0, B.b.row, B.b.mono, fun w' x' h q y hm => ?_, fun j w' x' hj hw q hq => ?_⟩
  · have h1 := B.b.near w x B.at' q y hm
    have h2 := B.b.mono i (i + 1) w w' x x' (Nat.le_succ _) B.at' h
    omega
  · by_cases c : j < i
    · exact B.b.done j w' x' c hw q hq
    · have e : j = i := by omega
      subst e
      rw [B.at'] at hw
      cases hw
      exact B.got q hq
structure DistOf (n : Nat) (l : List Arr) (p : Arr) (ds : Dm) : Prop where
  nd : (dk ds).Nodup
  mem : ∀ q, q ∈ dk ds ↔ Rch l p q
  row : ∀ q x, (q, x) ∈ ds → ∃ r, Row (fcs n l) p q r ∧ r.length = x + 1
  least : ∀ q x r, (q, x) ∈ ds → Row (fcs n l) p q r → x + 1 ≤ r.length
theorem dk_unique {ds : Dm} (nd : (dk ds).Nodup) {q : Arr} {x y : Nat} (h1 : (q, x) ∈ ds) (h2 : (q, y) ∈ ds) : x = y := by
  induction ds with
  | nil => cases h1
  | cons e ds ih =>
    obtain ⟨n1, n2⟩ := List.nodup_cons.mp nd
    rcases List.mem_cons.mp h1 with e1 | h1
    · rcases List.mem_cons.mp h2 with e2 | h2
      · rw [← e1] at e2
        cases e2
        rfl
      · exact absurd (List.mem_map.mpr ⟨_, h2, by rw [← e1]⟩) n1
    · rcases List.mem_cons.mp h2 with e2 | h2
      · exact absurd (List.mem_map.mpr ⟨_, h1, by rw [← e2]⟩) n1
      · exact ih n2 h1 h2
theorem Bd.far {F : Arr → List Arr} {p : Arr} {i : Nat} {ds : Dm} (B : Bd F p i ds) (hi : ds.length ≤ i) {q : Arr} {r : List Arr} (h : Row F p q r) : ∃ y, (q, y) ∈ ds ∧ y + 1 ≤ r.length := by
  induction h with
  | one => exact ⟨0, mem_of_get B.p0, Nat.le_refl _⟩
  | @snoc w q r t hq ih =>
    obtain ⟨y, h1, h2⟩ := ih
    obtain ⟨j, hj⟩ := List.getElem?_of_mem h1
    have := lt_of_get hj
    obtain ⟨z, h3, h4⟩ := B.done j w y (by omega) hj q hq
    exact ⟨z, h3, by rw [List.length_append, List.length_singleton]; omega⟩
theorem Bd.dist {n : Nat} {l : List Arr} (g : GoodL n l) {p : Arr} {i : Nat} {ds : Dm} (B : Bd (fcs n l) p i ds) (hi : ds.length ≤ i) (hp : p ∈ l) : DistOf n l p ds := by
  refine ⟨B.nd, fun q => ⟨fun h => ?_, fun h => ?_⟩, B.row, fun q x r h1 h2 => ?_⟩
  · obtain ⟨x, hx⟩ := mem_dk h
    obtain ⟨r, h, _⟩ := B.row q x hx
    exact h.rch g
  · have L := ledC_ok g hp
    obtain ⟨r, _, hr, _⟩ := L.path q ((L.mem q).mpr h)
    obtain ⟨y, hy, _⟩ := B.far hi hr
    exact List.mem_map.mpr ⟨_, hy, rfl⟩
  · obtain ⟨y, h3, h4⟩ := B.far hi h2
    rw [dk_unique B.nd h1 h3]
    exact h4
theorem Bd.few {n : Nat} {l : List Arr} (g : GoodL n l) {p : Arr} {i : Nat} {ds : Dm} (hp : p ∈ l) (B : Bd (fcs n l) p i ds) : ds.length ≤ l.length := by
  have := len_le_sub B.nd fun q hq => by
    obtain ⟨x, hx⟩ := mem_dk hq
    obtain ⟨r, h, _⟩ := B.row q x hx
    exact (h.rch g).mem hp
  rwa [List.length_map] at this
/-- the dict of them as it stands -/
def hdD (ds : Dm) : List (List Key × V) := ds.map fun e => (kp e.1, .int (e.2 : Nat))
theorem val_hdD : ∀ (ds : Dm) (q : Arr), (valV (hdD ds) (kp q)).isSome = decide (q ∈ dk ds)
  | [], q => rfl
  | e :: ds, q => by
    have ih := val_hdD ds q
    show (valV ((kp e.1, V.int (e.2 : Nat)) :: hdD ds) (kp q)).isSome = decide (q ∈ e.1 :: dk ds)
    by_cases c : e.1 = q
    · rw [valV_pos (by rw [c]), decide_eq_true (by rw [c]; exact List.mem_cons_self)] <;> rfl
    · rw [valV_neg (fun z => c (kp_inj z)), ih]
      by_cases m : q ∈ dk ds
      · rw [decide_eq_true m, decide_eq_true (List.mem_cons_of_mem _ m)]
      · rw [decide_eq_false m, decide_eq_false (fun z => (List.mem_cons.mp z).elim (fun z => c z.symm) m)]
theorem get_hdD : ∀ {ds : Dm}, (dk ds).Nodup → ∀ {q : Arr} {x : Nat}, (q, x) ∈ ds → valV (hdD ds) (kp q) = some (.int (x : Nat))
  | [], _, _, _, h => nomatch h
  | e :: ds, nd, q, x, h => by
    obtain ⟨n1, n2⟩ := List.nodup_cons.mp nd
    show valV ((kp e.1, V.int (e.2 : Nat)) :: hdD ds) (kp q) = _
    rcases List.mem_cons.mp h with z | h
    · subst z
      exact valV_pos rfl
    · rw [valV_neg (fun z => n1 (by
      have ez : e.1 = q := kp_inj z
      show e.1 ∈ dk ds
      rw [ez]
      exact List.mem_map.mpr ⟨_, h, rfl⟩))]
      exact get_hdD n2 h
theorem put_hdD {ds : Dm} {q : Arr} (h : q ∉ dk ds) (v : Nat) : putK (hdD ds) (kp q) (.int (v : Nat)) = hdD (ds ++ [(q, v)]) := by
  have hn : valV (hdD ds) (kp q) = none := by
    have := val_hdD ds q
    rw [decide_eq_false h] at this
    cases e : valV (hdD ds) (kp q) with
    | none => rfl
    | some x => rw [e] at this; cases this
  rw [putK_new _ hn]
  unfold hdD
  rw [List.map_append] <;> rfl
end Ar
namespace Ar
open PySem PySem.Spec L2
/-! ### the order in which led_by finds arrows -/
/-- entries that have come while the first i keys were looked at -/
structure Bo (F : Arr → List Arr) (p : Arr) (i : Nat) (cs : Cm) : Prop where
  nd : (ks cs).Nodup
  root : cs[0]? = some (p, none)
  only : ∀ (a : Nat) q, cs[a]? = some (q, none) → a = 0
  par : ∀ (a : Nat) q w, cs[a]? = some (q, some w) → ∃ j, j < i ∧ j < a ∧ (ks cs)[j]? = some w ∧ q ∈ F w
  mono : ∀ (a b : Nat) q w q' w' (j j' : Nat), a ≤ b → cs[a]? = some (q, some w) → cs[b]? = some (q', some w') → (ks cs)[j]? = some w → (ks cs)[j']? = some w' → j ≤ j'
  ord : ∀ (a b : Nat) q q' w, a < b → cs[a]? = some (q, some w) → cs[b]? = some (q', some w) → p2 q < p2 q'
  got : ∀ (j : Nat) w, j < i → (ks cs)[j]? = some w → ∀ q ∈ F w, ∃ (a : Nat), (cs[a]? = some (q, none)) ∨ ∃ w0 j0, cs[a]? = some (q, some w0) ∧ (ks cs)[j0]? = some w0 ∧ j0 ≤ j
theorem ks_at {cs : Cm} {a : Nat} {q : Arr} {o : Option Arr} (h : cs[a]? = some (q, o)) : (ks cs)[a]? = some q := by
  rw [List.getElem?_map, h] <;> rfl
theorem Bo.init (F : Arr → List Arr) (p : Arr) : Bo F p 0 [(p, none)] := by
  have one : ∀ (j : Nat) (e : Arr × Option Arr), ([(p, none)] : Cm)[j]? = some e → j = 0 ∧ e = (p, none) := fun j e h => by
    have := lt_of_get h
    exact ⟨by simpa using this, List.mem_singleton.mp (mem_of_get h)⟩
  refine ⟨List.pairwise_singleton _ _, rfl, fun a q h => (one a _ h).1, fun a q w h => ?_, fun a b q w q' w' j j' _ h1 => ?_, fun a b q q' w _ h1 => ?_, fun j w h => absurd h (Nat.not_lt_zero _)⟩
  · have := (one a _ h).2
    cases this
  · have := (one a _ h1).2
    cases this
  · have := (one a _ h1).2
    cases this
/-- while the key at i, w, is looked at; L: what was looked at of F w -/
structure Bi (F : Arr → List Arr) (p : Arr) (i : Nat) (w : Arr) (L : List Arr) (cs : Cm) : Prop where
  nd : (ks cs).Nodup
  root : cs[0]? = some (p, none)
  only : ∀ (a : Nat) q, cs[a]? = some (q, none) → a = 0
  par : ∀ (a : Nat) q v, cs[a]? = some (q, some v) → ∃ j, j ≤ i ∧ j < a ∧ (ks cs)[j]? = some v ∧ q ∈ F v
  mono : ∀ (a b : Nat) q v q' v' (j j' : Nat), a ≤ b → cs[a]? = some (q, some v) → cs[b]? = some (q', some v') → (ks cs)[j]? = some v → (ks cs)[j']? = some v' → j ≤ j'
  ord : ∀ (a b : Nat) q q' v, a < b → cs[a]? = some (q, some v) → cs[b]? = some (q', some v) → p2 q < p2 q'
  got : ∀ (j : Nat) v, j < i → (ks cs)[j]? = some v → ∀ q ∈ F v, ∃ (a : Nat), (cs[a]? = some (q, none)) ∨ ∃ w0 j0, cs[a]? = some (q, some w0) ∧ (ks cs)[j0]? = some w0 ∧ j0 ≤ j
  here : (ks cs)[i]? = some w
  mine : ∀ (a : Nat) q, cs[a]? = some (q, some w) → q ∈ L
  now : ∀ q ∈ L, ∃ (a : Nat), (cs[a]? = some (q, none)) ∨ ∃ w0 j0, cs[a]? = some (q, some w0) ∧ (ks cs)[j0]? = some w0 ∧ j0 ≤ i
theorem Bo.start {F : Arr → List Arr} {p : Arr} {i : Nat} {cs : Cm} (B : Bo F p i cs) {w : Arr} (h : (ks cs)[i]? = some w) : Bi F p i w [] cs := by
  refine ⟨B.nd, B.root, B.only, fun a q v hv => ?_, B.mono, B.ord, B.got, h, fun a q hq => ?_, fun q hq => (nomatch hq)⟩
  · obtain ⟨j, h1, h2, h3, h4⟩ := B.par a q v hv
    exact ⟨j, Nat.le_of_lt h1, h2, h3, h4⟩
  · obtain ⟨j, h1, h2, h3, h4⟩ := B.par a q w hq
    have := nd_ix B.nd h h3
    omega
theorem Bi.next {F : Arr → List Arr} {p : Arr} {i : Nat} {cs : Cm} {w : Arr} (B : Bi F p i w (F w) cs) : Bo F p (i + 1) cs := by
  refine ⟨B.nd, B.root, B.only, fun a q v hv => ?_, B.mono, B.ord, fun j v hj hv q hq => ?_⟩
  · obtain ⟨j, h1, h2, h3, h4⟩ := B.par a q v hv
    exact ⟨j, by omega, h2, h3, h4⟩
  · by_cases c : j < i
    · exact B.got j v c hv q hq
    · have e : j = i := by omega
      subst e
      rw [B.here] at hv
      cases hv
      exact B.now q hq
theorem Bi.step {F : Arr → List Arr} {p : Arr} {i : Nat} {cs : Cm} {w : Arr} {L : List Arr} (B : Bi F p i w L cs) {q : Arr} (hq : q ∈ F w) (hL : ∀ x ∈ L, p2 x < p2 q) : Bi F p i w (L ++ [q]) (stepC w cs q) := by
  unfold stepC
  by_cases h : q ∈ ks cs
  · rw [if_pos h]
    refine ⟨B.nd, B.root, B.only, B.par, B.mono, B.ord, B.got, B.here, fun a x hx => List.mem_append_left _ (B.mine a x hx), fun x hx => ?_⟩
    rcases List.mem_append.mp hx with hx | hx
    · exact B.now x hx
    · rw [List.mem_singleton.mp hx]
      obtain ⟨⟨y, o⟩, hy, e⟩ := List.mem_map.mp h
      have e : y = q := e
      subst e
      obtain ⟨a, ha⟩ := List.getElem?_of_mem hy
      cases o with
      | none => exact ⟨a, .inl ha⟩
      | some v =>
        obtain ⟨j, h1, _, h3, _⟩ := B.par a y v ha
        exact ⟨a, .inr ⟨v, j, ha, h3, h1⟩⟩
  · rw [if_neg h]
    have ek : ks (cs ++ [(q, some w)]) = ks cs ++ [q] := by simp
    have il : i < cs.length := by
      have := lt_of_get B.here
      rwa [List.length_map] at this
    have nd : (ks (cs ++ [(q, some w)])).Nodup := by rw [ek]; exact nd_snoc B.nd h
    have pre : ∀ (j : Nat) (e : Arr × Option Arr), cs[j]? = some e → (cs ++ [(q, some w)])[j]? = some e := fun j e he => by
      rw [List.getElem?_append_left (lt_of_get he)]
      exact he
    have prk : ∀ (j : Nat) (e : Arr), (ks cs)[j]? = some e → (ks (cs ++ [(q, some w)]))[j]? = some e := fun j e he => by
      rw [ek, List.getElem?_append_left (lt_of_get he)]
      exact he
    have inv : ∀ (j : Nat) (e : Arr × Option Arr), (cs ++ [(q, some w)])[j]? = some e → cs[j]? = some e ∨ j = cs.length ∧ e = (q, some w) := fun j e he => by
      by_cases c : j < cs.length
      · rw [List.getElem?_append_left c] at he
        exact .inl he
      · have := lt_of_get he
        rw [List.length_append, List.length_singleton] at this
        have ej : j = cs.length := by omega
        rw [ej, List.getElem?_append_right (Nat.le_refl _), Nat.sub_self] at he
        cases he
        exact .inr ⟨ej, rfl⟩
    refine ⟨nd, pre 0 _ B.root, fun a x hx => ?_, fun a x v hx => ?_, fun a b x v x' v' j j' hab h1 h2 h3 h4 => ?_, fun a b x x' v hab h1 h2 => ?_, fun j v hj hv x hx => ?_, prk i _ B.here, fun a x hx => ?_, fun x hx => ?_⟩
    · rcases inv a _ hx with hx | ⟨_, e⟩
      · exact B.only a x hx
      · cases e
    · rcases inv a _ hx with hx | ⟨ea, e⟩
      · obtain ⟨j, h1, h2, h3, h4⟩ := B.par a x v hx
        exact ⟨j, h1, h2, prk j _ h3, h4⟩
      · cases e
        exact ⟨i, Nat.le_refl _, by omega, prk i _ B.here, hq⟩
    · have iw := prk i _ B.here
      rcases inv a _ h1 with h1 | ⟨ea, e1⟩
      · rcases inv b _ h2 with h2 | ⟨eb, e2⟩
        · obtain ⟨k, _, _, k3, _⟩ := B.par a x v h1
          obtain ⟨k', _, _, k3', _⟩ := B.par b x' v' h2
          have z1 := nd_ix nd h3 (prk k _ k3)
          have z2 := nd_ix nd h4 (prk k' _ k3')
          subst z1 z2
          exact B.mono a b x v x' v' j j' hab h1 h2 k3 k3'
        · cases e2
          obtain ⟨k, k1, _, k3, _⟩ := B.par a x v h1
          have z1 := nd_ix nd h3 (prk k _ k3)
          have z2 := nd_ix nd h4 iw
          omega
      · rcases inv b _ h2 with h2 | ⟨eb, e2⟩
        · have := lt_of_get h2
          omega
        · cases e1
          cases e2
          have := nd_ix nd h3 h4
          omega
    · rcases inv a _ h1 with h1 | ⟨ea, e1⟩
      · rcases inv b _ h2 with h2 | ⟨eb, e2⟩
        · exact B.ord a b x x' v hab h1 h2
        · cases e2
          exact hL x (B.mine a x h1)
      · rcases inv b _ h2 with h2 | ⟨eb, e2⟩
        · have := lt_of_get h2
          omega
        · omega
    · have hj' : (ks cs)[j]? = some v := by
        rw [ek, List.getElem?_append_left (by rw [List.length_map]; omega)] at hv
        exact hv
      obtain ⟨a, h1 | ⟨w0, j0, h1, h2, h3⟩⟩ := B.got j v hj hj' x hx
      · exact ⟨a, .inl (pre a _ h1)⟩
      · exact ⟨a, .inr ⟨w0, j0, pre a _ h1, prk j0 _ h2, h3⟩⟩
    · rcases inv a _ hx with hx | ⟨ea, e⟩
      · exact List.mem_append_left _ (B.mine a x hx)
      · cases e
        exact List.mem_append_right _ (List.mem_singleton.mpr rfl)
    · rcases List.mem_append.mp hx with hx | hx
      · obtain ⟨a, h1 | ⟨w0, j0, h1, h2, h3⟩⟩ := B.now x hx
        · exact ⟨a, .inl (pre a _ h1)⟩
        · exact ⟨a, .inr ⟨w0, j0, pre a _ h1, prk j0 _ h2, h3⟩⟩
      · rw [List.mem_singleton.mp hx]
        exact ⟨cs.length, .inr ⟨w, i, by rw [List.getElem?_append_right (Nat.le_refl _), Nat.sub_self] <;> rfl, prk i _ B.here, Nat.le_refl _⟩⟩
theorem Bi.fold {F : Arr → List Arr} {p : Arr} {i : Nat} {w : Arr} (rs : Rising ((F w).map p2)) : ∀ {M L : List Arr} {cs : Cm}, F w = L ++ M → Bi F p i w L cs → Bi F p i w (F w) (M.foldl (stepC w) cs)
  | [], L, cs, e, B => by
    rw [List.append_nil] at e
    rw [e]
    exact B
  | q :: M, L, cs, e, B => by
    have e2 : F w = (L ++ [q]) ++ M := by rw [e, List.append_assoc] <;> rfl
    refine Bi.fold rs (L := L ++ [q]) (M := M) (cs := stepC w cs q) e2 (B.step (by rw [e]; simp) fun x hx => ?_)
    rw [e, List.map_append] at rs
    exact (List.pairwise_append.mp rs).2.2 (p2 x) (List.mem_map.mpr ⟨x, hx, rfl⟩) (p2 q) (by simp)
theorem Bo.turn {F : Arr → List Arr} {p : Arr} {i : Nat} {cs : Cm} (rs : ∀ w, Rising ((F w).map p2)) (B : Bo F p i cs) : Bo F p (i + 1) (turnC F cs i) := by
  cases h : (ks cs)[i]? with
  | none =>
    rw [turn_none h]
    have il : cs.length ≤ i := by
      rw [List.getElem?_eq_none_iff, List.length_map] at h
      exact h
    refine ⟨B.nd, B.root, B.only, fun a q v hv => ?_, B.mono, B.ord, fun j v hj hv q hq => ?_⟩
    · obtain ⟨j, h1, h2, h3, h4⟩ := B.par a q v hv
      exact ⟨j, by omega, h2, h3, h4⟩
    · have := lt_of_get hv
      rw [List.length_map] at this
      exact B.got j v (by omega) hv q hq
  | some w =>
    rw [turn_some h]
    exact ((B.start h).fold (rs w) rfl).next
theorem Bo.led {F : Arr → List Arr} (rs : ∀ w, Rising ((F w).map p2)) (p : Arr) : ∀ k, Bo F p k (ledK F k p)
  | 0 => Bo.init F p
  | k + 1 => by
    rw [ledK_succ]
    exact (Bo.led rs p k).turn rs
end Ar
namespace Ar
open PySem PySem.Spec L2
/-! ### the row that led_by's dict tells is the greedy one -/
/-- a row from q to o, each time the least that is nearer -/
inductive Gr (F : Arr → List Arr) (δ : Arr → Nat) (o : Arr) : Arr → List Arr → Prop
  | done : Gr F δ o o [o]
  | step {q q' : Arr} {r : List Arr} (hq : q ≠ o) (h1 : q' ∈ F q) (h2 : δ q = δ q' + 1) (h3 : ∀ x ∈ F q, δ q = δ x + 1 → p2 q' ≤ p2 x) (t : Gr F δ o q' r) : Gr F δ o q (q :: r)
theorem Gr.same {F : Arr → List Arr} {δ : Arr → Nat} {o : Arr} {q : Arr} {r : List Arr} (h : Gr F δ o q r) : ∀ {r' : List Arr}, Gr F δ o q r' → r = r' := by
  induction h with
  | done =>
    intro r' k
    cases k with
    | done => rfl
    | step hq => exact absurd rfl hq
  | @step q q1 r hq h1 h2 h3 t ih =>
    intro r' k
    cases k with
    | done => exact absurd rfl hq
    | @step _ q2 r2 hq' k1 k2 k3 t' =>
      have e : q1 = q2 := p2_inj (List.le_antisymm (h3 q2 k1 k2) (k3 q1 h1 h2))
      subst e
      rw [ih t']
theorem PathTo.ne {cs : Cm} {q : Arr} {r : List Arr} (h : PathTo cs q r) : 0 < r.length := by
  cases h with
  | root _ => exact Nat.one_pos
  | next _ _ => rw [List.length_append]; exact Nat.succ_pos _
theorem PathTo.last {cs : Cm} {q : Arr} {r : List Arr} (h : PathTo cs q r) : r[r.length - 1]? = some q := by
  cases h with
  | root _ => rfl
  | @next _ w r h t => rw [List.length_append, List.length_singleton, Nat.add_sub_cancel, List.getElem?_append_right (Nat.le_refl _), Nat.sub_self] <;> rfl
theorem PathTo.first {cs : Cm} {q : Arr} {r : List Arr} (h : PathTo cs q r) : ∃ p, r[0]? = some p ∧ (p, none) ∈ cs := by
  induction h with
  | @root q h => exact ⟨q, rfl, h⟩
  | @next q w r h t ih =>
    obtain ⟨p, h1, h2⟩ := ih
    exact ⟨p, by rw [List.getElem?_append_left t.ne]; exact h1, h2⟩
theorem PathTo.link {cs : Cm} {q : Arr} {r : List Arr} (h : PathTo cs q r) : ∀ (j : Nat) x y, r[j]? = some x → r[j + 1]? = some y → (y, some x) ∈ cs := by
  induction h with
  | root h =>
    intro j x y h1 h2
    simp at h2
  | @next q w r h t ih =>
    intro j x y h1 h2
    have hk := lt_of_get h2
    rw [List.length_append, List.length_singleton] at hk
    rw [List.getElem?_append_left (by omega)] at h1
    by_cases e : j + 1 < r.length
    · rw [List.getElem?_append_left e] at h2
      exact ih j x y h1 h2
    · have e2 : j + 1 = r.length := by omega
      rw [List.getElem?_append_right (by omega), e2, Nat.sub_self] at h2
      have hl := t.last
      have e3 : r.length - 1 = j := by omega
      rw [e3, h1] at hl
      cases hl
      cases h2
      exact h
/-- the place of an entry -/
theorem Bo.place {F : Arr → List Arr} {p : Arr} {i : Nat} {cs : Cm} (B : Bo F p i cs) {e : Arr × Option Arr} (h : e ∈ cs) : ∃ a : Nat, cs[a]? = some e := List.getElem?_of_mem h
theorem Bo.rootIs {F : Arr → List Arr} {p : Arr} {i : Nat} {cs : Cm} (B : Bo F p i cs) {q : Arr} {a : Nat} (h : cs[a]? = some (q, none)) : q = p := by
  have e := B.only a q h
  subst e
  rw [B.root] at h
  cases h
  rfl
/-- a child of an earlier parent stands earlier -/
theorem Bo.before {F : Arr → List Arr} {p : Arr} {i : Nat} {cs : Cm} (B : Bo F p i cs) {a b j j' : Nat} {q w q' w' : Arr} (h1 : cs[a]? = some (q, some w)) (h2 : cs[b]? = some (q', some w')) (h3 : (ks cs)[j]? = some w) (h4 : (ks cs)[j']? = some w') (lt : j < j') : a < b := by
  by_cases c : b ≤ a
  · have := B.mono b a q' w' q w j' j c h2 h1 h4 h3
    omega
  · omega
/-- a path is no longer than a later one -/
theorem Bo.short {F : Arr → List Arr} {p : Arr} {i : Nat} {cs : Cm} (B : Bo F p i cs) : ∀ {r : List Arr} {q : Arr} {b : Nat}, PathTo cs q r → (ks cs)[b]? = some q → ∀ {r' : List Arr} {q' : Arr} {a : Nat}, PathTo cs q' r' → (ks cs)[a]? = some q' → a ≤ b → r'.length ≤ r.length := by
  intro r q b h
  induction h generalizing b with
  | @root q h =>
    intro hb r' q' a h' ha hab
    obtain ⟨c, hc⟩ := B.place h
    have e := B.only c q hc
    have z := nd_ix B.nd hb (ks_at hc)
    have a0 : a = 0 := by omega
    subst a0
    cases h' with
    | root _ => exact Nat.le_refl _
    | @next _ w r h2 t =>
      exfalso
      obtain ⟨c', hc'⟩ := B.place h2
      obtain ⟨j, _, j2, _, _⟩ := B.par c' q' w hc'
      have := nd_ix B.nd ha (ks_at hc')
      omega
  | @next q w r h t ih =>
    intro hb r' q' a h' ha hab
    cases h' with
    | root _ =>
      rw [List.length_append, List.length_singleton]
      have := t.ne
      show 1 ≤ _
      omega
    | @next _ w' r2 h2 t2 =>
      obtain ⟨c, hc⟩ := B.place h
      obtain ⟨c', hc'⟩ := B.place h2
      obtain ⟨j, _, _, j3, _⟩ := B.par c q w hc
      obtain ⟨j', _, _, j3', _⟩ := B.par c' q' w' hc'
      have z1 := nd_ix B.nd hb (ks_at hc)
      have z2 := nd_ix B.nd ha (ks_at hc')
      have := B.mono c' c q' w' q w j' j (by omega) hc' hc j3' j3
      have := ih j3 t2 j3' this
      rw [List.length_append, List.length_append, List.length_singleton, List.length_singleton]
      omega
end Ar
namespace Ar
open PySem PySem.Spec L2
theorem Row.cons {F : Arr → List Arr} {q x o : Arr} {r : List Arr} (h : x ∈ F q) (t : Row F x o r) : Row F q o (q :: r) := by
  induction t with
  | one => exact Row.snoc (r := [q]) .one h
  | @snoc w y r t hy ih => exact Row.snoc (r := q :: r) ih hy
/-- distances to o, told by those from o -/
structure Far (F : Arr → List Arr) (C : Arr → Prop) (δ : Arr → Nat) (o : Arr) : Prop where
  o0 : δ o = 0
  z : ∀ q, C q → δ q = 0 → q = o
  cl : ∀ q x, C q → x ∈ F q → C x
  le : ∀ q x, C q → x ∈ F q → δ x ≤ δ q + 1 ∧ δ q ≤ δ x + 1
  dn : ∀ q m, C q → δ q = m + 1 → ∃ x ∈ F q, δ x = m
theorem Far.of {n : Nat} {l : List Arr} (g : GoodL n l) {o : Arr} (ho : o ∈ l) {ds : Dm} (D : DistOf n l o ds) {δ : Arr → Nat} (hδ : ∀ q x, (q, x) ∈ ds → δ q = x) : Far (fcs n l) (fun q => Rch l o q) δ o := by
  have ex : ∀ q, Rch l o q → (q, δ q) ∈ ds := fun q h => by
    obtain ⟨x, hx⟩ := mem_dk ((D.mem q).mpr h)
    rw [hδ q x hx]
    exact hx
  have up : ∀ q x, Rch l o q → x ∈ fcs n l q → δ x ≤ δ q + 1 := fun q x hq hx => by
    obtain ⟨r, h1, h2⟩ := D.row q _ (ex q hq)
    have := D.least x _ _ (ex x (hq.step ((mem_fcs g).mp hx))) (.snoc h1 hx)
    rw [List.length_append, List.length_singleton] at this
    omega
  have sy : ∀ q x, Rch l o q → x ∈ fcs n l q → q ∈ fcs n l x := fun q x hq hx => (mem_fcs g).mpr (((mem_fcs g).mp hx).symm g.sym (hq.mem ho))
  have cl : ∀ q x, Rch l o q → x ∈ fcs n l q → Rch l o x := fun q x hq hx => hq.step ((mem_fcs g).mp hx)
  refine ⟨?_, fun q hq h => ?_, cl, fun q x hq hx => ⟨up q x hq hx, up x q (cl q x hq hx) (sy q x hq hx)⟩, fun q m hq h => ?_⟩
  · have := D.least o _ _ (ex o .refl) .one
    have e : ([o] : List Arr).length = 1 := rfl
    omega
  · obtain ⟨r, h1, h2⟩ := D.row q _ (ex q hq)
    cases h1 with
    | one => rfl
    | @snoc w _ r t _ =>
      have := t.ne
      rw [List.length_append, List.length_singleton] at h2
      omega
  · obtain ⟨r, h1, h2⟩ := D.row q _ (ex q hq)
    cases h1 with
    | one =>
      have e : ([o] : List Arr).length = 1 := rfl
      omega
    | @snoc w _ r t hw =>
      rw [List.length_append, List.length_singleton] at h2
      have rw' : Rch l o w := t.rch g
      have h3 := D.least w _ _ (ex w rw') t
      have h4 := up w q rw' hw
      exact ⟨w, sy w q rw' hw, by omega⟩
theorem Far.way {F : Arr → List Arr} {C : Arr → Prop} {δ : Arr → Nat} {o : Arr} (A : Far F C δ o) : ∀ (m : Nat) (q : Arr), C q → δ q = m → ∃ r, Row F q o r ∧ r.length = m + 1
  | 0, q, hq, h => by
    rw [A.z q hq h]
    exact ⟨[o], .one, rfl⟩
  | m + 1, q, hq, h => by
    obtain ⟨x, hx, hm⟩ := A.dn q m hq h
    obtain ⟨r, h1, h2⟩ := Far.way A m x (A.cl q x hq hx) hm
    exact ⟨q :: r, h1.cons hx, by rw [List.length_cons, h2]⟩
/-- led_by's paths are shortest -/
theorem Bo.least {F : Arr → List Arr} {p : Arr} {i : Nat} {cs : Cm} (B : Bo F p i cs) (full : cs.length ≤ i) (path : ∀ q ∈ ks cs, ∃ r, PathTo cs q r) {q : Arr} {r' : List Arr} (h : Row F p q r') : ∃ r, PathTo cs q r ∧ r.length ≤ r'.length := by
  induction h with
  | one => exact ⟨[p], .root (mem_of_get B.root), Nat.le_refl _⟩
  | @snoc w q r' t hq ih =>
    obtain ⟨rw1, h1, h2⟩ := ih
    have hw : w ∈ ks cs := by
      cases h1 with
      | root h => exact List.mem_map.mpr ⟨_, h, rfl⟩
      | next h _ => exact List.mem_map.mpr ⟨_, h, rfl⟩
    obtain ⟨j, hj⟩ := List.getElem?_of_mem hw
    have jl := lt_of_get hj
    rw [List.length_map] at jl
    obtain ⟨a, ha | ⟨w0, j0, ha, h3, h4⟩⟩ := B.got j w (by omega) hj q hq
    · exact ⟨[q], .root (mem_of_get ha), by rw [List.length_append, List.length_singleton]; show 1 ≤ _; omega⟩
    · obtain ⟨r0, hr0⟩ := path w0 (mem_of_get h3)
      have := B.short h1 hj hr0 h3 h4
      exact ⟨r0 ++ [q], .next (mem_of_get ha) hr0, by simp only [List.length_append, List.length_singleton]; omega⟩
end Ar
namespace Ar
open PySem PySem.Spec L2
theorem Bo.greedy {F : Arr → List Arr} {p o : Arr} {i : Nat} {cs : Cm} {C : Arr → Prop} {δ : Arr → Nat} (B : Bo F p i cs) (full : cs.length ≤ i) (path : ∀ q ∈ ks cs, ∃ r, PathTo cs q r) (sy : ∀ q x, C q → x ∈ F q → q ∈ F x) (A : Far F C δ o) (cp : C p) {r : List Arr} (h : PathTo cs o r) : Gr F δ o p r := by
  obtain ⟨k, hk⟩ : ∃ k, r.length = k + 1 := ⟨r.length - 1, by have := h.ne; omega⟩
  have hlast : r[k]? = some o := by
    have := h.last
    rwa [hk, Nat.add_sub_cancel] at this
  have hfirst : r[0]? = some p := by
    obtain ⟨p', h1, h2⟩ := h.first
    obtain ⟨a, ha⟩ := List.getElem?_of_mem h2
    rw [B.rootIs ha] at h1
    exact h1
  have link : ∀ (j : Nat) x y, r[j]? = some x → r[j + 1]? = some y → (y, some x) ∈ cs := h.link
  have par : ∀ {y x : Arr}, (y, some x) ∈ cs → y ∈ F x ∧ x ∈ ks cs ∧ y ∈ ks cs := fun {y x} hm => by
    obtain ⟨a, ha⟩ := List.getElem?_of_mem hm
    obtain ⟨j, _, _, h3, h4⟩ := B.par a y x ha
    exact ⟨h4, mem_of_get h3, List.mem_map.mpr ⟨_, hm, rfl⟩⟩
  have at' : ∀ j, j ≤ k → ∃ x, r[j]? = some x := fun j hj => ⟨r[j]'(by omega), List.getElem?_eq_getElem _⟩
  -- all points of the row are in C, and the distance falls by one at most
  have inC : ∀ (j : Nat) x, r[j]? = some x → C x ∧ δ p ≤ δ x + j := by
    intro j
    induction j with
    | zero =>
      intro x hx
      rw [hfirst] at hx
      cases hx
      exact ⟨cp, Nat.le_refl _⟩
    | succ j ih =>
      intro x hx
      have hj := lt_of_get hx
      obtain ⟨y, hy⟩ := at' j (by omega)
      obtain ⟨c1, c2⟩ := ih y hy
      obtain ⟨f, _, _⟩ := par (link j y x hy hx)
      have := A.le y x c1 f
      exact ⟨A.cl y x c1 f, by omega⟩
  have dp : k ≤ δ p := by
    obtain ⟨r', h1, h2⟩ := A.way (δ p) p cp rfl
    obtain ⟨r2, h3, h4⟩ := B.least full path h1
    have ho : o ∈ ks cs := by
      cases h with
      | root h => exact List.mem_map.mpr ⟨_, h, rfl⟩
      | next h _ => exact List.mem_map.mpr ⟨_, h, rfl⟩
    obtain ⟨a, ha⟩ := List.getElem?_of_mem ho
    have := B.short h3 ha h ha (Nat.le_refl _)
    omega
  have dist : ∀ (d j : Nat) x, j + d = k → r[j]? = some x → δ x ≤ d := by
    intro d
    induction d with
    | zero =>
      intro j x hj hx
      have : j = k := by omega
      subst this
      rw [hlast] at hx
      cases hx
      rw [A.o0]
      exact Nat.le_refl _
    | succ d ih =>
      intro j x hj hx
      obtain ⟨y, hy⟩ := at' (j + 1) (by omega)
      have h1 := ih (j + 1) y (by omega) hy
      have h2 := (A.le x y (inC j x hx).1 (par (link j x y hx hy)).1).2
      omega
  have dexact : ∀ (j : Nat) x, r[j]? = some x → δ x + j = k := fun j x hx => by
    have hj := lt_of_get hx
    have h1 := dist (k - j) j x (by omega) hx
    have h2 := (inC j x hx).2
    omega
  -- nothing stands ahead of the row on a shortest way
  have no : ∀ (d j : Nat) (u x : Arr) (a b : Nat), j + d = k → r[j]? = some x → C u → δ u = d → (ks cs)[a]? = some u → (ks cs)[b]? = some x → a < b → False := by
    intro d
    induction d with
    | zero =>
      intro j u x a b hj hx cu du ha hb lt
      have e1 := A.z u cu du
      have : j = k := by omega
      subst this
      rw [hlast] at hx
      cases hx
      subst e1
      have := nd_ix B.nd ha hb
      omega
    | succ d ih =>
      intro j u x a b hj hx cu du ha hb lt
      obtain ⟨u', hu', du'⟩ := A.dn u d cu du
      have cu' := A.cl u u' cu hu'
      obtain ⟨y, hy⟩ := at' (j + 1) (by omega)
      have hm := link j x y hx hy
      obtain ⟨c, hc⟩ := List.getElem?_of_mem hm
      have al := lt_of_get ha
      rw [List.length_map] at al
      obtain ⟨a', ha' | ⟨w0, j0, ha', h3, h4⟩⟩ := B.got a u (by omega) ha u' hu'
      · have e := B.rootIs ha'
        subst e
        omega
      · have := B.before ha' hc h3 hb (by omega)
        exact ih (j + 1) u' y a' c (by omega) hy cu' du' (ks_at ha') (ks_at hc) this
  -- the greedy row, from its end
  have key : ∀ (d j : Nat) x, j + d = k → r[j]? = some x → Gr F δ o x (r.drop j) := by
    intro d
    induction d with
    | zero =>
      intro j x hj hx
      have e : j = k := by omega
      subst e
      rw [hlast] at hx
      cases hx
      have : r.drop j = [o] := by
        rw [List.drop_eq_getElem_cons (by omega), List.drop_of_length_le (by omega)]
        rw [(List.getElem?_eq_some_iff.mp hlast).2]
      rw [this]
      exact .done
    | succ d ih =>
      intro j x hj hx
      obtain ⟨y, hy⟩ := at' (j + 1) (by omega)
      have hm := link j x y hx hy
      obtain ⟨f, hxk, _⟩ := par hm
      have e1 := dexact j x hx
      have e2 := dexact (j + 1) y hy
      have ed : r.drop j = x :: r.drop (j + 1) := by
        have hl := lt_of_get hx
        rw [List.drop_eq_getElem_cons hl, (List.getElem?_eq_some_iff.mp hx).2]
      rw [ed]
      refine .step (fun z => ?_) f (by omega) (fun v hv dv => ?_) (ih (j + 1) y (by omega) hy)
      · subst z
        rw [A.o0] at e1
        omega
      · by_cases c : p2 y ≤ p2 v
        · exact c
        · exfalso
          have cx := (inC j x hx).1
          have cv := A.cl x v cx hv
          obtain ⟨b, hb⟩ := List.getElem?_of_mem hxk
          have bl := lt_of_get hb
          rw [List.length_map] at bl
          obtain ⟨cy, hcy⟩ := List.getElem?_of_mem hm
          obtain ⟨a', ha' | ⟨w0, j0, ha', h3, h4⟩⟩ := B.got b x (by omega) hb v hv
          · have e := B.rootIs ha'
            subst e
            have := (inC 0 _ hfirst).2
            have e0 := dexact 0 _ hfirst
            omega
          · have lt : a' < cy := by
              by_cases cj : j0 < b
              · exact B.before ha' hcy h3 hb cj
              · have ej : j0 = b := by omega
                subst ej
                rw [hb] at h3
                cases h3
                by_cases lt : a' < cy
                · exact lt
                · by_cases eq : a' = cy
                  · subst eq
                    rw [ha'] at hcy
                    cases hcy
                    exact absurd (List.le_refl _) c
                  · exact absurd (List.le_of_lt (B.ord cy a' y v x (by omega) hcy ha')) c
            exact no d (j + 1) v y a' cy (by omega) hy cv (by omega) (ks_at ha') (ks_at hcy) lt
  exact key k 0 p (by omega) hfirst
end Ar
namespace Ar
open PySem PySem.Spec L2
/-! ### arrows asked: promises -/
def sp_arrow (K : PySem.W.Frag) : Sp := fun vs H Q _ => ∃ (d : Addr) (l : List Arr) (c : Int) (n : Nat), vs = [.ref d, .int c, .int n] ∧ H d = some (.dT (hk l)) ∧ l.length ≤ 1000 ∧ n ≤ 24 ∧
  ∀ t a b H', (l ≠ [] → 0 < c % 5 → (a, b) ∈ l) → Same H H' → H' t = some (.tup [.int a, .int b]) → Q (.ref t) H'
def sp_refused_k04 (K : PySem.W.Frag) : Sp := fun vs H Q _ => ∃ (v : V) (n : Nat) (l : List Arr) (t : Addr) (a b : Int), vs = [v, .ref t] ∧ NetAt K H v n l ∧ H t = some (.tup [.int a, .int b]) ∧ (a, b) ∉ l ∧ ∀ H', Same H H' → Q (.bl true) H'
abbrev sp_law_k04 (K : PySem.W.Frag) : Sp := sp_law K
end Ar
namespace Ar
open PySem PySem.Spec L2
/-! ### what is come to: promises -/
def sp_distances (K : PySem.W.Frag) : Sp := fun vs H Q _ => ∃ (d : Addr) (l : List Arr) (n : Nat) (t : Addr) (a b : Int), vs = [.ref d, .int n, .ref t] ∧ H d = some (.dT (hk l)) ∧ GoodL n l ∧ n ≤ 24 ∧ H t = some (.tup [.int a, .int b]) ∧ (a, b) ∈ l ∧
  ∀ p H' ds, DistOf n l (a, b) ds → H p = none → Same H H' → H' p = some (.dT (hdD ds)) → Q (.ref p) H'
/-- all arrows that p comes to, rising -/
def LedL (l : List Arr) (p : Arr) (qs : List Arr) : Prop := Rising (qs.map p2) ∧ ∀ q, q ∈ qs ↔ Rch l p q
def sp_led (K : PySem.W.Frag) : Sp := fun vs H Q E => ∃ (v : V) (n : Nat) (l : List Arr) (t : Addr) (a b : Int), vs = [v, .ref t] ∧ NetAt K H v n l ∧ H t = some (.tup [.int a, .int b]) ∧
  ((a, b) ∉ l → E (.ref (He.ga K "NoArrow")) none H) ∧ ((a, b) ∈ l → ∀ p H' xs qs, LedL l (a, b) qs → qs.length ≤ 576 → H p = none → Same H H' → H' p = some (.lst xs) → TL H' xs (qs.map p2) → Q (.ref p) H')
abbrev sp_refused_k05 (K : PySem.W.Frag) : Sp := sp_refused_k04 K
abbrev sp_law_k05 (K : PySem.W.Frag) : Sp := sp_law K
end Ar
namespace Ar
open PySem PySem.Spec L2
/-! ### the greedy row -/
theorem first_of {F : List Arr} (rs : Rising (F.map p2)) {P : Arr → Bool} {q : Arr} (hq : q ∈ F) (hP : P q = true) (le : ∀ x ∈ F, P x = true → p2 q ≤ p2 x) : (F.filter P)[0]? = some q := by
  have rs2 : Rising ((F.filter P).map p2) := rs.sublist (List.Sublist.map _ List.filter_sublist)
  have hm : q ∈ F.filter P := List.mem_filter.mpr ⟨hq, hP⟩
  cases hF : F.filter P with
  | nil => rw [hF] at hm; cases hm
  | cons x xs =>
    rw [hF] at hm rs2
    have hx : x ∈ F.filter P := by rw [hF]; exact List.mem_cons_self
    obtain ⟨x1, x2⟩ := List.mem_filter.mp hx
    have h1 := le x x1 x2
    rcases List.mem_cons.mp hm with e | h2
    · rw [e]
      rfl
    · have h3 := (List.pairwise_cons.mp rs2).1 (p2 q) (List.mem_map.mpr ⟨q, h2, rfl⟩)
      exact absurd h3 (List.not_lt.mpr h1)
theorem Far.gr {F : Arr → List Arr} {C : Arr → Prop} {δ : Arr → Nat} {o : Arr} (rs : ∀ w, Rising ((F w).map p2)) (A : Far F C δ o) : ∀ (m : Nat) (q : Arr), C q → δ q = m → ∃ r, Gr F δ o q r ∧ r.length = m + 1
  | 0, q, hq, h => by
    rw [A.z q hq h]
    exact ⟨[o], .done, rfl⟩
  | m + 1, q, hq, h => by
    obtain ⟨x, hx, hm⟩ := A.dn q m hq h
    have hm' : x ∈ (F q).filter fun y => decide (δ q = δ y + 1) := List.mem_filter.mpr ⟨hx, decide_eq_true (by omega)⟩
    have rs2 : Rising (((F q).filter fun y => decide (δ q = δ y + 1)).map p2) := (rs q).sublist (List.Sublist.map _ List.filter_sublist)
    cases hF : (F q).filter fun y => decide (δ q = δ y + 1) with
    | nil => rw [hF] at hm'; cases hm'
    | cons y ys =>
      have hy : y ∈ (F q).filter fun y => decide (δ q = δ y + 1) := by rw [hF]; exact List.mem_cons_self
      obtain ⟨y1, y2⟩ := List.mem_filter.mp hy
      have y2 := of_decide_eq_true y2
      obtain ⟨r, h1, h2⟩ := Far.gr rs A m y (A.cl q y hq y1) (by omega)
      refine ⟨q :: r, .step (fun z => ?_) y1 y2 (fun v hv dv => ?_) h1, by rw [List.length_cons, h2]⟩
      · rw [z, A.o0] at h
        cases h
      · have hv' : v ∈ (F q).filter fun y => decide (δ q = δ y + 1) := List.mem_filter.mpr ⟨hv, decide_eq_true dv⟩
        rw [hF] at hv' rs2
        rcases List.mem_cons.mp hv' with e | hv'
        · rw [e]
          exact List.le_refl _
        · exact List.le_of_lt ((List.pairwise_cons.mp rs2).1 (p2 v) (List.mem_map.mpr ⟨v, hv', rfl⟩))
/-! ### promises -/
def ChainRow (n : Nat) (l : List Arr) (p q : Arr) (r : List Arr) : Prop := Rch l p q ∧ r.length ≤ 576 ∧ ∀ (ds : Dm) (δ : Arr → Nat), DistOf n l q ds → (∀ x y, (x, y) ∈ ds → δ x = y) → Gr (fcs n l) δ q p r
def LeastRow (n : Nat) (l : List Arr) (p q : Arr) (r : List Arr) : Prop := Rch l p q ∧ r.length ≤ 600 ∧ ∃ (ds : Dm) (δ : Arr → Nat), DistOf n l q ds ∧ (∀ x y, (x, y) ∈ ds → δ x = y) ∧ Gr (fcs n l) δ q p r
theorem ChainRow.same {n : Nat} {l : List Arr} {p q : Arr} {r r' : List Arr} (h : ChainRow n l p q r) (k : LeastRow n l p q r') : r = r' := by
  obtain ⟨_, _, ds, δ, D, hδ, G⟩ := k
  exact (h.2.2 ds δ D hδ).same G
def sp_chain (K : PySem.W.Frag) : Sp := fun vs H Q E => ∃ (v : V) (n : Nat) (l : List Arr) (t1 t2 : Addr) (p q : Arr), vs = [v, .ref t1, .ref t2] ∧ NetAt K H v n l ∧ H t1 = some (.tup [.int p.1, .int p.2]) ∧ H t2 = some (.tup [.int q.1, .int q.2]) ∧
  (¬ (p ∈ l ∧ q ∈ l) → E (.ref (He.ga K "NoArrow")) none H) ∧ (p ∈ l → q ∈ l → (¬ Rch l p q → ∀ H', Same H H' → Q .non H') ∧ ∀ a H' xs r, ChainRow n l p q r → H a = none → Same H H' → H' a = some (.lst xs) → TL H' xs (r.map p2) → Q (.ref a) H')
def sp_refused_k06 (K : PySem.W.Frag) : Sp := fun vs H Q _ => ∃ (v : V) (n : Nat) (l : List Arr) (t1 t2 : Addr) (p q : Arr), vs = [v, .ref t1, .ref t2] ∧ NetAt K H v n l ∧ H t1 = some (.tup [.int p.1, .int p.2]) ∧ H t2 = some (.tup [.int q.1, .int q.2]) ∧ ¬ (p ∈ l ∧ q ∈ l) ∧ ∀ H', Same H H' → Q (.bl true) H'
def sp_least (K : PySem.W.Frag) : Sp := fun vs H Q _ => ∃ (d : Addr) (l : List Arr) (n : Nat) (t1 t2 : Addr) (p q : Arr), vs = [.ref d, .int n, .ref t1, .ref t2] ∧ H d = some (.dT (hk l)) ∧ GoodL n l ∧ n ≤ 24 ∧ H t1 = some (.tup [.int p.1, .int p.2]) ∧ H t2 = some (.tup [.int q.1, .int q.2]) ∧ p ∈ l ∧ q ∈ l ∧
  (¬ Rch l p q → ∀ H', Same H H' → Q .non H') ∧ ∀ a H' xs r, LeastRow n l p q r → H a = none → Same H H' → H' a = some (.lst xs) → TL H' xs (r.map p2) → Q (.ref a) H'
abbrev sp_law_k06 (K : PySem.W.Frag) : Sp := sp_law K
end Ar
namespace Ar
open PySem PySem.Spec L2
/-- all but one object stand -/
def But (a : Addr) (H H' : Hp) : Prop := ∀ b u, b ≠ a → H b = some u → H' b = some u
/-! ### a net's own words: promises -/
def sp_refused_k01 (K : PySem.W.Frag) : Sp := fun vs H Q _ => ∃ (v : V) (n : Nat) (l : List Arr) (a b : Int), vs = [v, .int a, .int b] ∧ NetAt K H v n l ∧ ¬ ((0 ≤ a ∧ a < n) ∧ 0 ≤ b ∧ b < n) ∧ ∀ H', Same H H' → Q (.bl true) H'
def sp_alone (K : PySem.W.Frag) : Sp := fun vs H Q _ => ∃ (v : V) (n : Nat) (l : List Arr) (a : Int), vs = [v, .int a] ∧ NetAt K H v n l ∧ ¬ (0 ≤ a ∧ a < n) ∧ ∀ H', Same H H' → Q (.bl true) H'
def sp_early_k01 (K : PySem.W.Frag) : Sp := fun vs H Q _ => ∃ (v : V) (n : Nat) (l l' : List Arr) (d : Addr) (c : Int), vs = [v, .ref d, .int n, .int c] ∧ NetAt K H v n l' ∧ H d = some (.dT (hk l)) ∧ l'.Perm l ∧ ∀ H', Same H H' → Q (.bl true) H'
def sp_kept_k01 (K : PySem.W.Frag) : Sp := fun vs H Q _ => ∃ (v : V) (n : Nat) (l : List Arr) (a b : Addr) (xs ys : List V) (qs : List Arr), vs = [v, .ref a, .ref b] ∧ NetAt K H v n l ∧ H a = some (.lst xs) ∧ TL H xs (qs.map p2) ∧ a ≠ b ∧ H b = some (.lst ys) ∧ TL H ys (qs.map p2) ∧ PairsOf l qs ∧ qs.length ≤ 1000 ∧
  ∀ H', But a H H' → Q (.bl true) H'
abbrev sp_law_k01 (K : PySem.W.Frag) : Sp := sp_law K
end Ar
namespace Ar
open PySem PySem.Spec L2
/-! ### nets of nets: promises -/
def sp_less (K : PySem.W.Frag) : Sp := fun vs H Q _ => ∃ x p : Int, vs = [.int x, .int p] ∧ Q (.int (dnP p x)) H
def sp_refused_by_any (K : PySem.W.Frag) : Sp := fun vs H Q _ => ∃ (v : V) (n : Nat) (l : List Arr) (p : Int), vs = [v, .int p] ∧ NetAt K H v n l ∧ ¬ (0 ≤ p ∧ p < n) ∧ ∀ H', Same H H' → Q (.bl true) H'
def sp_told_k03 (K : PySem.W.Frag) : Sp := fun vs H Q _ => ∃ (v : V) (n : Nat) (l : List Arr) (b : Addr) (ys : List V) (qs : List Arr), vs = [v, .int n, .ref b] ∧ NetAt K H v n l ∧ H b = some (.lst ys) ∧ TL H ys (qs.map p2) ∧ PairsOf l qs ∧ qs.length ≤ 1000 ∧ ∀ H', Same H H' → Q (.bl true) H'
def sp_second_k03 (K : PySem.W.Frag) : Sp := fun vs H Q _ => ∃ (v : V) (n : Nat) (l l' : List Arr) (d : Addr) (p : Int), vs = [v, .ref d, .int n, .int p] ∧ NetAt K H v n l' ∧ H d = some (.dT (hk l)) ∧ l'.Perm l ∧ (0 ≤ p ∧ p < n) ∧ ∀ H', Same H H' → Q (.bl true) H'
abbrev sp_law_k03 (K : PySem.W.Frag) : Sp := sp_law K
/-! ### the due ties of a net without a point -/
def dueL (p : Int) (ss : List Arr) : List Arr := leftL p (ss.filter fun q => decide (q.1 < q.2))
theorem dueL_snoc (p : Int) (ss : List Arr) (q : Arr) : dueL p (ss ++ [q]) = dueL p ss ++ (if q.1 < q.2 ∧ q.1 ≠ p ∧ q.2 ≠ p then [(dnP p q.1, dnP p q.2)] else []) := by
  unfold dueL
  rw [List.filter_append]
  by_cases c : q.1 < q.2
  · rw [List.filter_cons_of_pos (by rw [decide_eq_true c]), show List.filter (fun q : Arr => decide (q.1 < q.2)) [] = [] from rfl, leftL_snoc]
    by_cases c2 : q.1 ≠ p ∧ q.2 ≠ p
    · rw [if_pos c2, if_pos ⟨c, c2⟩]
    · rw [if_neg c2, if_neg (fun z => c2 z.2)]
  · rw [List.filter_cons_of_neg (by rw [decide_eq_false c]; exact Bool.false_ne_true), if_neg (fun z => c z.1)]
    simp
theorem p2_lt {a b i j : Int} (h : a < i ∨ a = i ∧ b < j) : p2 (a, b) < p2 (i, j) := by
  show ([a, b] : List Int) < [i, j]
  rw [List.cons_lt_cons_iff]
  rcases h with h | ⟨h1, h2⟩
  · exact .inl h
  · refine .inr ⟨h1, ?_⟩
    rw [List.cons_lt_cons_iff]
    exact .inl h2
theorem lt_p2 {a b i j : Int} (h : p2 (a, b) < p2 (i, j)) : a < i ∨ a = i ∧ b < j := by
  have h : ([a, b] : List Int) < [i, j] := h
  rw [List.cons_lt_cons_iff] at h
  rcases h with h | ⟨h1, h2⟩
  · exact .inl h
  · rw [List.cons_lt_cons_iff] at h2
    rcases h2 with h2 | ⟨_, h2⟩
    · exact .inr ⟨h1, h2⟩
    · exact absurd h2 (List.lt_irrefl _)
theorem dnP_lt {p x y : Int} (hx : x ≠ p) (hy : y ≠ p) : dnP p x < dnP p y ↔ x < y := by
  unfold dnP
  split <;> split <;> omega
theorem dueL_pairs {l l' ss : List Arr} {p : Int} (hs : Rising (ss.map p2)) (m : ∀ q, q ∈ ss ↔ q ∈ l) (h : LessOf p l l') : PairsOf l' (dueL p ss) := by
  refine ⟨?_, fun a b => ?_⟩
  · unfold dueL leftL
    rw [List.map_map]
    refine List.pairwise_map.mpr (List.Pairwise.imp_of_mem (fun {x y} hx hy hxy => ?_) (((List.pairwise_map.mp hs).filter _).filter _))
    obtain ⟨a1, a2⟩ := of_decide_eq_true (List.mem_filter.mp hx).2
    obtain ⟨b1, b2⟩ := of_decide_eq_true (List.mem_filter.mp hy).2
    refine p2_lt ?_
    rcases lt_p2 (a := x.1) (b := x.2) (i := y.1) (j := y.2) hxy with z | ⟨z1, z2⟩
    · exact .inl ((dnP_lt a1 b1).mpr z)
    · exact .inr ⟨by rw [z1], (dnP_lt a2 b2).mpr z2⟩
  · unfold dueL
    rw [mem_leftL, h]
    constructor
    · rintro ⟨x, y, h1, h2, h3, rfl, rfl⟩
      obtain ⟨h1, h4⟩ := List.mem_filter.mp h1
      exact ⟨⟨x, y, (m _).mp h1, h2, h3, rfl, rfl⟩, (dnP_lt h2 h3).mpr (of_decide_eq_true h4)⟩
    · rintro ⟨⟨x, y, h1, h2, h3, rfl, rfl⟩, h4⟩
      exact ⟨x, y, List.mem_filter.mpr ⟨(m _).mpr h1, decide_eq_true ((dnP_lt h2 h3).mp h4)⟩, h2, h3, rfl, rfl⟩
theorem dueL_few (p : Int) (ss : List Arr) : (dueL p ss).length ≤ ss.length := Nat.le_trans (len_leftL _ _) (List.length_filter_le _ _)
theorem PairsOf.both {n : Nat} {l qs : List Arr} (g : GoodL n l) (P : PairsOf l qs) : BothOf qs l := by
  refine ⟨g.nd, fun a b => ⟨fun h => ?_, fun h => ?_⟩⟩
  · have := (g.rng a b h).2.2
    by_cases c : a < b
    · exact .inl ((P.2 a b).mpr ⟨h, c⟩)
    · exact .inr ((P.2 b a).mpr ⟨g.sym _ _ h, by omega⟩)
  · rcases h with h | h
    · exact ((P.2 a b).mp h).1
    · exact g.sym _ _ ((P.2 b a).mp h).1
theorem LessOf.perm {p : Int} {l l' l'' : List Arr} (pm : l.Perm l') (h : LessOf p l l'') : LessOf p l' l'' := fun a b => by
  rw [h]
  constructor
  · rintro ⟨x, y, h1, h2⟩
    exact ⟨x, y, pm.mem_iff.mp h1, h2⟩
  · rintro ⟨x, y, h1, h2⟩
    exact ⟨x, y, pm.mem_iff.mpr h1, h2⟩
theorem GoodL.of_perm {n : Nat} {l l' : List Arr} (pm : l.Perm l') (g : GoodL n l) : GoodL n l' :=
  ⟨pm.nodup_iff.mp g.nd, fun a b h => pm.mem_iff.mp (g.sym a b (pm.mem_iff.mpr h)), fun a b h => g.rng a b (pm.mem_iff.mpr h)⟩
end Ar
namespace Ar
open PySem PySem.Spec L2 PyProof.Rows
/-! ### exceptions whose context is None, and a for loop where one is handled -/
theorem takes0N {X : Cx} : L2N.Takes X (fun _ _ _ _ => False) := fun _ _ x => by
  obtain ⟨_, _, _, _, _, _, _, _, _, _, _, _, _, _, _, _, z⟩ := x
  exact z.elim
theorem passLN {X : Cx} : Passes (L2N.CX X.prog X.w) X E0 := fun _ _ _ _ _ _ _ h => by
  obtain ⟨_, _, _, _, _, _, _, _, _, _, _, _, z⟩ := h
  exact z.elim
/-- the list at a, by a loop that is left ahead of its end -/
def ItlN (K : PySem.W.Frag) (a : Addr) : It :=
  ⟨fun i H => ∃ xs x, SqL K H a xs ∧ xs[i]? = some x, fun i H x H' => H' = H ∧ ∀ xs, SqL K H a xs → xs[i]? = some x, fun _ _ => False⟩
def iListN (K : PySem.W.Frag) (tl : TE) : L2.TI := fun σ H R => tl σ H fun x H1 => ∃ a, x = .ref a ∧ (∃ xs, SqL K H1 a xs) ∧ R (ItlN K a) H1
theorem turn_listN {P : Program} {w : World} {K : PySem.W.Frag} {tg : Expr} (a it : Addr) : L2H.TurnH P w K tg (ItlN K a) [it] it (fun i h => h.IsListIter it a i) where
  mem := by simp
  obj := fun i h st b hb => by
    have e : b = it := by simpa using hb
    subst e
    obtain ⟨o, e, c, d⟩ := st
    exact ⟨o, e, fun v z => by rw [d] at z; cases z⟩
  keep := fun i h h' st k => st.at fun o e => k it (by simp) o e
  item := by
    intro X hP hw hK hc i pins s σ H E I hf st hg
    subst hP hw hK
    obtain ⟨xs, x, hq, hx⟩ := hg
    obtain ⟨its, rv, p, hz⟩ := I.list hq
    obtain ⟨u, hu, ru⟩ := rv.get hx
    obtain ⟨f0, f1, f2, f3, f4, f5⟩ := hf it (by simp)
    refine wpAny_pyNext_list_item st p.isList (x := u) (by simpa using hu) fun h' st' sb => ?_
    have I1 : Inv X pins σ H { s with heap := h' } := I.turned (t' := s.toks) (fun b o hb e => (sb.2 b hb).trans e) f0 f1 f3 f4 f5
    obtain ⟨o, e, c, d⟩ := id st'
    exact ⟨u, rfl, go_of (s := { s with heap := h' }) e c d (by decide) ⟨x, H, I1, ru, ⟨rfl, fun ys hy => by rw [I.list_inj hy hq]; exact hx⟩, st', fun b hb => (hf b hb).1⟩⟩
  done := by
    intro X hP hw hK hc i pins s σ H E I hf st hg
    exact False.elim hg
  self := fun _ _ _ _ _ st h => wpAny_pyIter_listiter st h
section
variable {X : Cx} {tg : Expr}
theorem pi_listN {l : Expr} {tl : TE} (hl : PE X l tl) : L2H.PIH X tg l (iListN X.K tl) := by
  refine ⟨fun pins s σ H R I h => ?_⟩
  refine thn (hl.run pins s σ H _ I h) fun v s1 ⟨x, H1, I1, r1, q1⟩ => ?_
  obtain ⟨a, e, ⟨xs, hq⟩, q⟩ := q1
  subst e
  cases r1
  obtain ⟨its, rv, p, hz⟩ := I1.list hq
  refine wpAny_pyIter_list p.isList ?_
  refine ⟨s1.heap.objs.size, [s1.heap.objs.size], _, _, H1, rfl, I1.kept (t' := s1.toks) fun b o e => Heap.get?_push_of_some _ e, turn_listN a _, ⟨_, Heap.get?_push_size _ rfl, rfl, rfl⟩, fun b hb => ?_, q⟩
  have e : b = s1.heap.objs.size := by simpa using hb
  subst e
  exact I1.fpOk (Nat.le_refl _) (I1.hok.fresh (Nat.le_refl _))
end
/-- for x in xs: .., left ahead of its end: Pv i ahead of turn i -/
theorem for_listN {K : PySem.W.Frag} {a : Addr} {n : Nat} {g : TG} {tb : TS} {D : Ends} {σ : L2.St} {H : Hp} (Pv : Nat → L2.St → Hp → Prop) (h0 : Pv 0 σ H)
    (hs : ∀ (i : Nat) σ H, Pv i σ H → i < n ∧ ∃ xs x, SqL K H a xs ∧ xs[i]? = some x ∧ g x σ H fun σ2 H2 => tb { D with nx := Pv (i + 1), ct := Pv (i + 1), bk := D.nx } σ2 H2) :
    ∃ W : Nat → Nat → L2.St → Hp → Prop, (∃ m, W 0 m σ H) ∧ ∀ i m σ H, W i m σ H → ((ItlN K a).stop i H ∧ D.nx σ H) ∨
      ((ItlN K a).go i H ∧ ∃ N : L2.St → Hp → Prop, (∀ σ' H', N σ' H' → ∃ m', m' < m ∧ W (i + 1) m' σ' H') ∧ ∀ x H', (ItlN K a).yld i H x H' → g x σ H' fun σ2 H2 => tb { D with nx := N, ct := N, bk := D.nx } σ2 H2) := by
  refine ⟨fun i m σ H => m + i = n ∧ Pv i σ H, ⟨n, by omega, h0⟩, ?_⟩
  rintro i m σ H ⟨hm, p⟩
  obtain ⟨hi, xs, x, hx, hg, q⟩ := hs i σ H p
  refine .inr ⟨⟨xs, x, hx, hg⟩, Pv (i + 1), fun σ' H' p' => ⟨m - 1, by omega, by omega, p'⟩, fun y H' hy => ?_⟩
  obtain ⟨rfl, hy⟩ := hy
  have := hy xs hx
  rw [hg] at this
  cases this
  exact q
/-! ### a def called within an except suite, handed the exception, whose body has such loops -/
structure FnE2 (P : Program) (w : World) (K : PySem.W.Frag) (mg : Str → Option Value) (base : Heap) (k : Nat) (f : Addr) (fd : FuncData) (ps : List Str) (sp : Addr → Addr → Sp) : Prop where
  len : ∀ D a vs H Q E, sp D a vs H Q E → vs.length = ps.length
  run : ∀ (A : Around) (outer : List Env) (s : Shared) (H : Hp) (args : Args) (us : List Value) (vs : List V) (Q : VK) (E : XK) (p : Addr × Obj) (D : Addr), L2H.RoomH k A → L2H.Hot1 A p → ExcP D p → L2H.PinOk outer H s p → Env0 P w K mg base A outer s H →
    BindsTo s fd args (ps.zip us) → Vals vs us → sp D p.1 vs H Q E → codeAny (model P w) A (.call (.ref f) args) (CR CX0 outer P w H s Q E) s
theorem okE2 {P : Program} {w : World} {K : PySem.W.Frag} {mg : Str → Option Value} {base : Heap} {x qual : Str} {params : Arguments} {body : List Stmt} {scope : Scope} {dvs : List V} {kws : List (Str × V)} {f : Addr} {fd : FuncData} {N ps : List Str} {k : Nat} {sp : Addr → Addr → Sp}
    (F : FunD K x qual params body scope dvs kws f fd) (S : FnScope N ps scope) (len : ∀ D a vs H Q E, sp D a vs H Q E → vs.length = ps.length)
    (hb : ∀ (cdv : Value) (A : Around) (outer : List Env) (s : Shared) (H : Hp) (vs : List V) (Q : VK) (E : XK) (p : Addr × Obj) (D : Addr), ExcP D p → L2H.HotC (L2H.cxH CX0 P w K mg base N qual scope f cdv A outer s H E p) → L2H.RoomH k (A.deeper (envOfC qual scope s.heap.objs.size f cdv)) → sp D p.1 vs H Q E →
      ∃ t, PSs (L2H.cxH CX0 P w K mg base N qual scope f cdv A outer s H E p) body t ∧ t { nx := fun _ H' => Q .non H', rt := Q } (L2.start N vs) H) : FnE2 P w K mg base (k + 1) f fd ps sp := by
  obtain ⟨oc, od, dV, kV, doc, pm, an, cdv, ct, osl, rfl, lk, hcd, _, _⟩ := F.ex
  refine ⟨len, fun A outer s H args us vs Q E p D room hot exc pin env bind rel prom => ?_⟩
  have hlen := len _ _ _ _ _ _ prom
  have inK : K.In s.heap := env.mod.kin.keeps fun b o e => (env.bs b o e).1
  have noLim : s.heap.NoLimit := env.mod.nolimit.keeps fun b o e => (env.bs b o e).1
  have kinds : ∀ y ∈ ps.zip us, scope.names.lookup y.1 = some .local ∨ (scope.names.lookup y.1 = some .cell ∧ ((cellsFrom (s.heap.objs.size + 1) scope.names []).lookup y.1).isSome = true) := by
    rintro ⟨n, v⟩ hy
    rcases S.par n (List.of_mem_zip hy).1 with q | q
    · exact Or.inl q
    · exact Or.inr ⟨q, PySem.W.cellsFrom_some _ _ _ (Or.inl q)⟩
  refine codeAny_call_function room.depth (inK _ _ lk) rfl S.co S.gen rfl (PySem.W.codeRec_of inK hcd) (bind _ _ _ _ ?_)
  refine wpAny_newFunctionEnv_cells S.kind kinds fun env' he s1 z => ?_
  subst he
  refine ⟨noLim.keeps z.toInCall.keep, codeAny_func ?_⟩
  obtain ⟨t, ht, hq⟩ := hb cdv A outer s H vs Q E p D exc ⟨p, hot, List.mem_cons_self⟩ (room.deeper _) prom
  have J := L2H.inv_startH (CX := CX0) (f := f) (E := E) S pin env hlen rel z
  refine wpAny_mono (ht.run [] s1 (L2.start N vs) H _ J hq) (fun fl s' hs => ?_) fun e s' hs => hs
  cases fl with
  | ret u =>
    obtain ⟨v, σ', H', J', rv, q⟩ := hs
    exact ⟨v, H', J'.os, J'.bare, J'.base, J'.hok, rv, q⟩
  | next =>
    obtain ⟨σ', H', J', q⟩ := hs
    exact ⟨V.non, H', J'.os, J'.bare, J'.base, J'.hok, rfl, q⟩
  | brk => exact (hs.elim fun _ h => h.elim fun _ h => h.2).elim
  | cont => exact (hs.elim fun _ h => h.elim fun _ h => h.2).elim
section
variable {X : Cx}
/-- in the suite that holds (a, oe) -/
theorem hotS {a : Addr} {oe : Obj} {cls : Value} {d : Option Addr} (hh : X.A.handled = some (.ref a)) (hz : L2N.Zn cls d oe) (hf : ∃ v, oe.data = .fields v) (hp : (a, oe) ∈ X.pn) : L2H.HotC X := by
  obtain ⟨v, e⟩ := hf
  exact ⟨(a, oe), ⟨hh, v, e, hz.2.2 v e⟩, hp⟩
theorem pe_callE2 {k : Nat} {f : Addr} {fd : FuncData} {ps : List Str} {sp : Addr → Addr → Sp} {x : Str} {q pos : Pos} {e : Expr} {es : List Expr} {t : TA} {a : Addr} {oe : Obj} {cls : Value} {d : Option Addr} (F : FnE2 X.prog X.w X.K X.mg X.base k f fd ps sp) (hr : L2H.RoomH k X.A) (hh : L2H.Hot1 X.A (a, oe)) (hz : Zc cls d oe) (hf : ∃ v, oe.data = .fields v) (hp : (a, oe) ∈ X.pn) (hg : Gl X x) (hm : X.mg x = some (.ref f))
    (hk : PySem.W.keepIn X.K (.ref f) = true) (hb : Binds X.K fd ps []) (ha : PA X (e :: es) t) (hdb : (x == ("__debug__" : Str)) = false := by decide) (he : starEach (e :: es) X.env = (false, eval e X.env) :: starEach es X.env := by rfl)
    (hpl : (backTo pos (starEach es X.env)).any (·.1) = false := by rfl) : PE X (.Call (.Name x q) (e :: es) [] pos) (tCallE sp a cls d t) := by
  refine ⟨fun pins s σ H Q I h => ?_⟩
  refine wpAny_Call_Name_kw (ld_glob I hg hm ?_ hdb)
  refine PySem.W.callWith_K (h₀ := X.base) I.ok.mod.kin hk (thn (ha.run pos pins s σ H _ I h) fun us s1 ⟨vs, H1, J, r, D, ec, ed, pr⟩ => ⟨J.kIn, ?_⟩) he hpl
  subst ec ed
  have hl : us.length = ps.length := by rw [← r.length]; exact F.len _ _ _ _ _ _ pr
  have b := hb s1 us J.kIn (by rw [List.append_nil]; exact hl)
  rw [List.append_nil] at b
  have P1 := J.pin (a, oe) (List.mem_append_left _ hp)
  have pin : L2H.PinOk X.stack H1 s1 (a, oe) := ⟨P1.1, P1.2.1, fun hm => (List.mem_cons.mp (J.stkSub a hm)).elim P1.2.2.1 P1.2.2.2.1, P1.2.2.2.2⟩
  refine wpAny_call (codeAny_mono (F.run X.A X.stack s1 H1 ⟨us, []⟩ us vs Q (fun _ _ _ => False) (a, oe) D hr hh ⟨hz, hf⟩ pin J.env0 b r pr) fun r s' hq => ?_)
  cases r with
  | error e => exact False.elim hq
  | ok fl =>
    cases fl with
    | ret u => exact J.after hq
    | next => exact False.elim hq
    | brk => exact False.elim hq
    | cont => exact False.elim hq
end
/-! ### a, b = t where an exception is handled -/
section
open HotX
variable {prog : Program} {w : World} {A : Around} {E : Value → Shared → Prop} {s : Shared}
theorem next_tuple_end_hot {it t x1 : Addr} {i : Nat} {items : Array Value} {Q : Option Value → Shared → Prop} (hot : HotAt A x1 s.heap)
    (hit : s.heap.IsTupleIter it t i) (ht : s.heap.IsTuple t items) (hx : items[i]? = none)
    (hQ : ∀ h', Heap.ExtBut it s.heap h' → Q none { s with heap := h' }) : wpAny (model prog w) A (pyNext (.ref it)) Q E s := by
  obtain ⟨o, ho, hc, hd⟩ := id hit
  obtain ⟨ol, hol, _, nl, hdl⟩ := ht
  obtain ⟨hh, o1, vs1, h1, d1, c1⟩ := hot
  have nx : x1 ≠ it := fun z => by
    rw [z, ho] at h1
    cases h1
    rw [hd] at d1
    cases d1
    simp at c1
  unfold pyNext
  refine wpAny_bind (wpAny_attempt (wpAny_callSpecial?_slot (name := Str.ofString "__next__") hit.typeIs F.slot_tuple_iterator_next
    (wpAny_call_entry F.slot_tuple_iterator_next hit.typeIs F.entry_tuple_iterator_next ?_ (F.args_tuple_iterator_next_1 _))))
  show wpAny _ _ (field (.ref it) 0 >>= _) _ _ s
  refine wpAny_bind (wpAny_field ho hd (x := .ref t) rfl ?_)
  show wpAny _ _ (if (Value.ref t == Value.none) = true then _ else _) _ _ s
  rw [if_neg (show ¬ ((Value.ref t == Value.none) = true) from Bool.false_ne_true)]
  show wpAny _ _ (field (.ref it) 1 >>= _) _ _ s
  refine wpAny_bind (wpAny_field ho hd (x := .int i 0) rfl ?_)
  show wpAny _ _ (seqItems? (.ref t) >>= _) _ _ s
  refine wpAny_bind (wpAny_seqItems hol hdl ?_)
  simp only [Int.toNat_natCast, hx]
  refine wpAny_bind (wpAny_rule (wpAny_bind (wpAny_setField ho hd (by simp) ?_)))
  show wpAny _ _ (newExc (.type "StopIteration") [] >>= _) _ _ _
  refine wpAny_bind ?_
  simp only [newExc, newTuple]
  refine wpAny_bind (wpAny_newObj_type ?_ (by size_fits))
  refine wpAny_bind (m := firstArgMember _ _) (wpAny_of_eq (a := Value.none) (by first | rfl | (simp only [firstArgMember]; rfl)) ?_)
  refine wpAny_newObj_type ?_ (by size_fits)
  have hu : ∀ f : Obj → Obj, (s.heap.update it f).get? x1 = some o1 := fun f => by
    rw [Heap.get?_update_other _ _ (Ne.symm nx)]
    exact h1
  refine raiseNew_hot ⟨hh, o1, vs1, Heap.get?_push_of_some _ (Heap.get?_push_of_some _ (hu _)), d1, c1⟩ (Nat.ne_of_lt (Heap.lt_size (Heap.get?_push_of_some _ (hu _)))) (Heap.get?_push_size _ rfl) rfl (by first | (simp; done) | (simp; omega) | (simp only [Array.size_append]; simp; omega)) ?_
  refine wpAny_bind (wpAny_isInstance (T := "StopIteration") (b := true) ⟨_, Heap.get?_update_self _ (Heap.get?_push_size _ rfl) rfl, rfl⟩ isSubtype_stop ?_)
  refine wpAny_pure (hQ _ fun b o' nb e => ?_)
  have eb : ∀ f : Obj → Obj, (s.heap.update it f).get? b = some o' := fun f => by
    rw [Heap.get?_update_other _ _ (Ne.symm nb)]
    exact e
  rw [Heap.get?_update_other _ _ (Nat.ne_of_gt (Heap.lt_size (Heap.get?_push_of_some _ (eb _))))]
  exact Heap.get?_push_of_some _ (Heap.get?_push_of_some _ (eb _))
theorem unpackItems_tuple_hot {t x1 : Addr} {items : Array Value} {Q : List Value → Shared → Prop} (hot : HotAt A x1 s.heap) (ht : s.heap.IsTuple t items)
    (hQ : ∀ h', Heap.ExtBut s.heap.objs.size s.heap h' → Q items.toList { s with heap := h' }) : wpAny (model prog w) A (unpackItems (.ref t) items.size none) Q E s := by
  have hlt : t ≠ s.heap.objs.size := by obtain ⟨o, ho, _⟩ := ht; exact Nat.ne_of_lt (Heap.lt_size ho)
  unfold unpackItems
  refine wpAny_bind ?_
  · unfold notIterableAtAll
    refine wpAny_bind (wpAny_specialOf ht.typeIs F.slot_tuple_iter.lookup ?_)
    refine wpAny_pure ?_
    simp only [Bool.false_eq_true, if_false]
    refine wpAny_bind (wpAny_holding (wpAny_pyIter_tuple ht ?_))
    refine wpAny_bind (wpAny_holding (wpAny_draw_tuple hlt items.size 0 _ _ ⟨_, Heap.get?_push_size _ rfl, rfl, rfl⟩ (ht.push _) (by omega) fun h₁ hit₁ hs₁ => ?_))
    have hall : List.take items.size (List.drop 0 items.toList) = items.toList := by
      rw [List.drop_zero]; exact List.take_of_length_le (by simp)
    rw [hall]
    rw [if_neg (by simp)]
    have ht₁ : h₁.IsTuple t items := (ht.push _).extBut hs₁.extBut hlt
    obtain ⟨hh, o1, vs1, g1, d1, c1⟩ := hot
    refine wpAny_bind (wpAny_holding (next_tuple_end_hot ⟨hh, o1, vs1, hs₁.extBut _ _ (Nat.ne_of_lt (Heap.lt_size g1)) (Heap.get?_push_of_some _ g1), d1, c1⟩ hit₁ ht₁ (by simp) fun h₂ he₂ => ?_))
    simp only [Option.isSome_none, Bool.false_eq_true, if_false]
    refine wpAny_pure (hQ h₂ fun b o hb e => he₂ b o hb (hs₁.extBut b o hb (Heap.get?_push_of_some _ e)))
end
section
variable {X : Cx}
theorem pg_tupH {es : List Expr} {k : Nat} {pos : Pos} {t : TGs} {n : Nat} (hc : L2H.HotC X) (h : PGs X es t)
    (hn : (assignEach es X.env).length = n := by rfl) (hst : (assignEach es X.env).findIdx? (·.1) = none := by rfl) : PG X (.Tuple es k pos) (gTup X.K n t) := by
  refine ⟨fun pins s σ H v u Q I r hw => ?_⟩
  obtain ⟨a, xs, e1, hq, hl, hw⟩ := hw
  subst e1
  cases r
  obtain ⟨its, rv, ht, hz⟩ := I.tuple hq
  obtain ⟨x1, hot⟩ := hc.at I
  rw [assign_Tuple]
  refine wpAny_bind (wpAny_standAt ?_)
  unfold unpack
  rw [hst, show (assignEach es X.env).length = its.toArray.size by simp [hn, ← hl, rv.length]]
  refine wpAny_bind (wpAny_holding (unpackItems_tuple_hot hot (show s.heap.IsTuple a its.toArray from ht) fun h' hx => ?_))
  have I1 : Inv X pins σ H { s with heap := h' } := I.kept (t' := s.toks) fun b o e => hx b o (Nat.ne_of_lt (Heap.lt_size e)) e
  exact h.run pins _ σ H xs _ Q I1 (by simpa using rv) hw
end
/-! ### C(..) within a try -/
def tMakeS (C : Addr) (sp : Sp) (E : L2.St → XK) (t : TA) : TE := fun σ H Q => t σ H fun vs H1 => ∀ x dx, H1 x = none → H1 dx = none → dx ≠ x → sp (.ref x :: (vs ++ [])) (upd (upd H1 dx (.own x)) x (.ins C dx [])) (fun v H2 => v = .non ∧ Q (.ref x) H2) (E σ)
section
variable {X : Cx}
theorem pe_makeS {CX : CXT} {k : Nat} {f C : Addr} {fd : FuncData} {ps : List Str} {sp : Sp} {E : L2.St → XK} {x : Str} {p pos : Pos} {e : Expr} {es : List Expr} {t : TA} (M : Mk X.K C f) (F : FnOk X.prog X.w X.K X.mg X.base CX k f fd ps sp) (hr : Room (k + 1) X.A) (hg : Gl X x) (hm : X.mg x = some (.ref C)) (hb : Binds X.K fd ps []) (hx : ∀ σ, PassesAt CX X σ (E σ))
    (ha : PA X (e :: es) t) (hdb : (x == ("__debug__" : Str)) = false := by decide) (he : starEach (e :: es) X.env = (false, eval e X.env) :: starEach es X.env := by rfl) (hpl : (backTo pos (starEach es X.env)).any (·.1) = false := by rfl) :
    PE X (.Call (.Name x p) (e :: es) [] pos) (tMakeS C sp E t) := by
  refine ⟨fun pins s0 σ H0 Q J h => wpAny_Call_Name_kw (ld_glob J hg hm ?_ hdb)⟩
  refine PySem.W.callWith_K (h₀ := X.base) J.ok.mod.kin M.kp (thn (ha.run pos pins s0 σ H0 _ J h) fun us s ⟨vs, H, I, rel, prom⟩ => ⟨I.kIn, ?_⟩) he hpl
  have prom := prom (s.heap.objs.size + 1) s.heap.objs.size (I.hok.fresh (Nat.le_succ _)) (I.hok.fresh (Nat.le_refl _)) (Nat.ne_of_lt (Nat.lt_succ_self _))
  rw [List.append_nil] at prom
  have MI := Inv.made (C := C) I
  have rel2 : Vals (V.ref (s.heap.objs.size + 1) :: vs) (Value.ref (s.heap.objs.size + 1) :: us) := .cons rfl rel
  have len : (Value.ref (s.heap.objs.size + 1) :: us ++ []).length = ps.length := by
    rw [List.append_nil, ← rel2.length]
    exact F.len _ _ _ _ prom
  have bd := hb _ (Value.ref (s.heap.objs.size + 1) :: us) MI.kIn len
  rw [List.append_nil] at bd
  have body := F.run _ X.stack _ _ ⟨Value.ref (s.heap.objs.size + 1) :: us, []⟩ (Value.ref (s.heap.objs.size + 1) :: us) _ _ (E σ) (hr.make C us []) (MI.env0.make C us []) bd rel2 prom
  refine wpAny_call (make_map (f := f) I.kIn M.makes M.init (beq_iff_eq.mp M.fn) (codeAny_mono body fun fl s' out => ?_))
  rcases fl with e' | fl
  · exact hx σ pins _ _ e' s' MI out
  · cases fl with
    | ret u =>
      obtain ⟨v, H', I3, rv, ev, q3⟩ := MI.after out
      subst ev
      exact ⟨rv, ⟨V.ref (s.heap.objs.size + 1), H', I3, rfl, q3⟩⟩
    | next => exact False.elim out
    | brk => exact False.elim out
    | cont => exact False.elim out
theorem hot1S {a : Addr} {oe : Obj} {cls : Value} {d : Option Addr} (hh : X.A.handled = some (.ref a)) (hz : L2N.Zn cls d oe) (hf : ∃ v, oe.data = .fields v) : L2H.Hot1 X.A (a, oe) := by
  obtain ⟨v, e⟩ := hf
  exact ⟨hh, v, e, hz.2.2 v e⟩
end
end Ar
namespace Ar
open PySem PySem.Spec L2
/-! ### nets refused: promises -/
def sp_class_k02 (K : PySem.W.Frag) (D a : Addr) : Sp := fun vs H Q _ => ∃ i : Nat, D = exA K i ∧ (i = 0 ∨ i = 2 ∨ i = 3) ∧ vs = [.ref a] ∧ ∀ H', Same H H' → Q (.int (if i = 0 then 0 else if i = 2 then 1 else 2)) H'
/-- what is due: 0 a wrong number of points, 1 no tie, 2 told twice, 7 nothing -/
def dueOf (m : Int) (ps : List Arr) : Int := if m < 0 ∨ 24 < m then 0 else if tieRes m [] ps = 0 then 7 else (tieRes m [] ps : Nat)
def sp_due_k02 (K : PySem.W.Frag) : Sp := fun vs H Q _ => ∃ (m : Int) (a : Addr) (xs : List V) (ps : List Arr), vs = [.int m, .ref a] ∧ H a = some (.lst xs) ∧ TL H xs (ps.map p2) ∧ ps.length ≤ 1000 ∧ ∀ H', Same H H' → Q (.int (dueOf m ps)) H'
def sp_wrong_k02 (K : PySem.W.Frag) : Sp := fun vs H Q _ => ∃ (n : Nat) (a : Addr) (xs : List V) (ps : List Arr) (c f : Int), vs = [.int n, .ref a, .int c, .int f] ∧ H a = some (.lst xs) ∧ TL H xs (ps.map p2) ∧
  ∀ t x y H', Same H H' → H' t = some (.tup [.int x, .int y]) → Q (.ref t) H'
abbrev sp_law_k02 (K : PySem.W.Frag) : Sp := sp_law K
end Ar
namespace Ar
open PySem PySem.Spec L2
/-! ### heights and longest rows: promises -/
/-- what is due: 0 a wrong number of points, 1 no point, 2 arrows that lead round, 7 nothing -/
def Due9 (m : Int) (ps : List Arr) (r : Int) : Prop :=
  (¬ OkM m ∧ r = 0) ∨ (OkM m ∧ ¬ InR m ps ∧ r = 1) ∨ (OkM m ∧ InR m ps ∧ (¬ ∃ ht, HtOf m.toNat ps ht) ∧ r = 2) ∨ (OkM m ∧ InR m ps ∧ (∃ ht, HtOf m.toNat ps ht) ∧ r = 7)
theorem Due9.same {m : Int} {ps : List Arr} {r r' : Int} (h : Due9 m ps r) (k : Due9 m ps r') : r = r' := by
  rcases h with ⟨a, e⟩ | ⟨a, b, e⟩ | ⟨a, b, c, e⟩ | ⟨a, b, c, e⟩ <;> rcases k with ⟨a', e'⟩ | ⟨a', b', e'⟩ | ⟨a', b', c', e'⟩ | ⟨a', b', c', e'⟩ <;> first
    | exact e.trans e'.symm
    | exact absurd a' a
    | exact absurd a a'
    | exact absurd b' b
    | exact absurd b b'
    | exact absurd c' c
    | exact absurd c c'
theorem Due9.seven {m : Int} {ps : List Arr} {r : Int} (h : Due9 m ps r) (c : ¬ r < 7) : OkM m ∧ InR m ps ∧ ∃ ht, HtOf m.toNat ps ht := by
  rcases h with ⟨a, e⟩ | ⟨a, b, e⟩ | ⟨a, b, c', e⟩ | ⟨a, b, c', e⟩
  · omega
  · omega
  · omega
  · exact ⟨a, b, c'⟩
def sp_law_heights_k09 (K : PySem.W.Frag) : Sp := fun vs H Q _ => ∃ (n : Nat) (a : Addr) (xs : List V) (ps : List Arr) (ht : List Int), vs = [.int n, .ref a] ∧ H a = some (.lst xs) ∧ TL H xs (ps.map p2) ∧ n ≤ 24 ∧ InR n ps ∧ HtOf n ps ht ∧
  ∀ p H', H p = none → Same H H' → H' p = some (.lst (ht.map .int)) → Q (.ref p) H'
def sp_round (K : PySem.W.Frag) : Sp := fun vs H Q _ => ∃ (n : Nat) (a : Addr) (xs : List V) (ps : List Arr), vs = [.int n, .ref a] ∧ H a = some (.lst xs) ∧ TL H xs (ps.map p2) ∧ ps.length ≤ 1000 ∧ n ≤ 24 ∧ InR n ps ∧
  ∀ b H', (b = true ↔ ¬ ∃ ht, HtOf n ps ht) → Same H H' → Q (.bl b) H'
def sp_due_k09 (K : PySem.W.Frag) : Sp := fun vs H Q _ => ∃ (m : Int) (a : Addr) (xs : List V) (ps : List Arr), vs = [.int m, .ref a] ∧ H a = some (.lst xs) ∧ TL H xs (ps.map p2) ∧ ps.length ≤ 1000 ∧ ∀ r H', Due9 m ps r → Same H H' → Q (.int r) H'
def sp_class_k09 (K : PySem.W.Frag) : Sp := fun vs H Q _ => ∃ (m : Int) (a : Addr) (xs : List V) (ps : List Arr) (w : Int), vs = [.int m, .ref a, .int w] ∧ H a = some (.lst xs) ∧ TL H xs (ps.map p2) ∧ ps.length ≤ 1000 ∧ ∀ r H', Due9 m ps r → Same H H' → Q (.int r) H'
def sp_least_k09 (K : PySem.W.Frag) : Sp := fun vs H Q _ => ∃ (n : Nat) (a : Addr) (xs : List V) (ps : List Arr) (ds : List Int), vs = [.int n, .ref a] ∧ H a = some (.lst xs) ∧ TL H xs (ps.map p2) ∧ ps.length ≤ 1000 ∧ n ≤ 24 ∧ InR n ps ∧ HtOf n (ps.map sw) ds ∧
  ∀ p H' row, LongOf n ps ds row → H p = none → Same H H' → H' p = some (.lst (row.map .int)) → Q (.ref p) H'
def sp_arrows_k09 (K : PySem.W.Frag) : Sp := fun vs H Q _ => ∃ (a : Addr) (ns : List Int) (n : Nat), vs = [.ref a, .int n] ∧ SqL K H a (ns.map V.int) ∧ ns.length ≤ 63 ∧ n ≤ 24 ∧
  ∀ p H' xs (ps : List Arr), ps.length ≤ 100 → H p = none → Same H H' → H' p = some (.lst xs) → TL H' xs (ps.map p2) → Q (.ref p) H'
abbrev sp_law_k09 (K : PySem.W.Frag) : Sp := sp_law K
end Ar
namespace Ar
open PySem PySem.Spec L2
local macro_rules | `(tactic| walk_at "g1") => `(tactic| first
  | refine ⟨_, rfl, ?_⟩
  | refine ⟨_, _, rfl, rfl, ?_⟩
  | refine ⟨(by show (0 : Int) < _; decide), ?_⟩
  | refine ⟨⟨by decide, by decide⟩, ?_⟩
  | refine ⟨(show CMul _ _ from .inl ⟨by omega, by omega⟩), ?_⟩
  | refine ⟨(show CMul _ _ from .inr ⟨by omega, by omega⟩), ?_⟩
  | refine ⟨(show (_ : Int) ≠ 0 by decide), ?_⟩
  | refine ⟨sz2, ?_⟩
  | refine ⟨sz0, ?_⟩
  | refine ⟨sz3, ?_⟩)
local macro_rules | `(tactic| walk_at "ty") => `(tactic| first | exact .int _ | exact .bl _ | exact .tup (by assumption) | exact .lst (by assumption))
local macro_rules | `(tactic| walk_at "isT") => `(tactic| refine ⟨_, _, _, _, true, rfl, .ty _, .base (by walk_at "ty"), kit_ty (by decide +kernel), ?_⟩)
local macro_rules | `(tactic| walk_at "isF") => `(tactic| refine ⟨_, _, _, _, false, rfl, .ty _, .base (by walk_at "ty"), kit_ty (by decide +kernel), ?_⟩)
local macro_rules | `(tactic| walk_at "cell") => `(tactic| ((repeat walk_at "g1"); refine ⟨_, _, _, rfl, (by assumption), (by assumption), (by first | decide | omega), ?_⟩; repeat walk_at "g1"))
local macro_rules | `(tactic| walk_at "go") => `(tactic| repeat walk_at "g1")
def t_fits (K : PySem.W.Frag) : TS :=
  (tSeq (tAsg tDNewT (gName 2)) (tSeq (tFor (iList K (tVar 1)) (gName 3) (tSeq (tIfS (tOr (tB (tDNotIn (tVar 3) (tFld K (tVar 0) "both"))) (tOr (tB (tDIn (tVar 3) (tVar 2))) (tB (tDIn (tTup (tCons (tOp (rIxT K) (tVar 3) (tC (.int 1))) (tCons (tOp (rIxT K) (tVar 3) (tC (.int 0))) tNil))) (tVar 2))))) (tRet (tC (.bl false))) tNext) (sDPut (tVar 2) (tVar 3) (tC (.bl true))))) (tRet (tAndV (tOp rEq (tOp oMul (tC (.int 2)) (tCB rLenT (tCons (tVar 2) tNil))) (tCB rLenT (tCons (tFld K (tVar 0) "both") tNil))) (tOp (rEqD K) (tCall (sp_gaps K) [] E0 (tCons (tVar 1) tNil)) (tLst tNil))))))
def t_pair (K : PySem.W.Frag) : TS :=
  (tRet (tAndV (tCB (rIsi K) (tCons (tVar 0) (tCons (tC (.ty "tuple")) tNil))) (tAndV (tOp rEq (tCB (cLen K) (tCons (tVar 0) tNil)) (tC (.int 2))) (tAndV (tCall (sp_whole K) [] E0 (tCons (tOp (rIxT K) (tVar 0) (tC (.int 0))) tNil)) (tCall (sp_whole K) [] E0 (tCons (tOp (rIxT K) (tVar 0) (tC (.int 1))) tNil))))))
def t_turns (K : PySem.W.Frag) : TS :=
  (tSeq (tIfS (tNot (tB (tCB (rIsi K) (tCons (tVar 1) (tCons (tC (.ty "list")) tNil))))) (tRet (tC (.bl false))) tNext) (tSeq (tAsg tDNewT (gName 2)) (tSeq (tFor (iList K (tVar 1)) (gName 3) (tSeq (tIfS (tOr (tNot (tB (tCall (sp_pair K) [] E0 (tCons (tVar 3) tNil)))) (tOr (tB (tDNotIn (tVar 3) (tVar 0))) (tOr (tB (tDIn (tVar 3) (tVar 2))) (tB (tDIn (tTup (tCons (tOp (rIxT K) (tVar 3) (tC (.int 1))) (tCons (tOp (rIxT K) (tVar 3) (tC (.int 0))) tNil))) (tVar 2)))))) (tRet (tC (.bl false))) tNext) (sDPut (tVar 2) (tVar 3) (tC (.bl true))))) (tSeq (tIfS (tTest (tOp rNe (tOp oMul (tC (.int 2)) (tCB rLenT (tCons (tVar 2) tNil))) (tCB rLenT (tCons (tVar 0) tNil)))) (tRet (tC (.bl false))) tNext) (tSeq (tFor (iList K (tVar 1)) (gTup K 2 (gCons (gName 4) (gCons (gName 5) gNil))) (tFor (iList K (tVar 1)) (gTup K 2 (gCons (gName 6) (gCons (gName 7) gNil))) (tIfS (tAnd (tTest (tOp rEq (tVar 6) (tVar 5))) (tB (tDNotIn (tTup (tCons (tVar 4) (tCons (tVar 7) tNil))) (tVar 2)))) (tRet (tC (.bl false))) tNext))) (tRet (tC (.bl true))))))))
def t_untied_k08 (K : PySem.W.Frag) : TS :=
  (tSeq (tAsg (tLst tNil) (gName 3)) (tSeq (tFor (iRng1 (tCons (tVar 1) tNil)) (gName 4) (tFor (iRng1 (tCons (tVar 1) tNil)) (gName 5) (tIfS (tAnd (tTest (tOp rNe (tVar 4) (tVar 5))) (tB (tDNotIn (tTup (tCons (tVar 4) (tCons (tVar 5) tNil))) (tVar 0)))) (tDrop (tBM K "list" rAppend (tVar 3) (tCons (tTup (tCons (tVar 4) (tCons (tVar 5) tNil))) tNil))) tNext))) (tSeq (tIfS (tTru K (tVar 3)) (tRet (tOp (rIxL K) (tVar 3) (tOp oModN (tVar 2) (tCB (cLen K) (tCons (tVar 3) tNil))))) tNext) (tRet (tTup (tCons (tVar 1) (tCons (tOp oAdd (tVar 1) (tC (.int 1))) tNil)))))))
def t_changed_k08 (K : PySem.W.Frag) : TS :=
  (tSeq (tAsg (tOp oMod (tVar 3) (tC (.int 7))) (gName 4)) (tSeq (tAsg (tC (.int 0)) (gName 5)) (Evl.tCut (tIfS (tTru K (tVar 1)) (tAsg (tOp oModN (tOp oDiv (tVar 3) (tC (.int 6))) (tCB (cLen K) (tCons (tVar 1) tNil))) (gName 5)) tNext) (tSeq (tIfS (tAnd (tTest (tOp oLt (tVar 4) (tC (.int 4)))) (tNot (tTru K (tVar 1)))) (tRet (tVar 1)) tNext) (tSeq (tIfS (tTest (tOp rEq (tVar 4) (tC (.int 0)))) (tRet (tOp rCat (tOp rCat (tSl (rSlL K) (tVar 1) tNoPart (tPart (tVar 5))) (tLst (tCons (tTup (tCons (tOp (rIxT K) (tOp (rIxL K) (tVar 1) (tVar 5)) (tC (.int 1))) (tCons (tOp (rIxT K) (tOp (rIxL K) (tVar 1) (tVar 5)) (tC (.int 0))) tNil))) tNil))) (tSl (rSlL K) (tVar 1) (tPart (tOp oAdd (tVar 5) (tC (.int 1)))) tNoPart))) tNext) (tSeq (tIfS (tTest (tOp rEq (tVar 4) (tC (.int 1)))) (tRet (tOp rCat (tSl (rSlL K) (tVar 1) tNoPart (tPart (tVar 5))) (tSl (rSlL K) (tVar 1) (tPart (tOp oAdd (tVar 5) (tC (.int 1)))) tNoPart))) tNext) (tSeq (tIfS (tTest (tOp rEq (tVar 4) (tC (.int 2)))) (tRet (tOp rCat (tOp rCat (tSl (rSlL K) (tVar 1) tNoPart (tPart (tVar 5))) (tLst (tCons (tOp (rIxL K) (tVar 1) (tOp oSub (tVar 5) (tC (.int 1)))) tNil))) (tSl (rSlL K) (tVar 1) (tPart (tVar 5)) tNoPart))) tNext) (tSeq (tIfS (tTest (tOp rEq (tVar 4) (tC (.int 3)))) (tRet (tOp rCat (tOp rCat (tSl (rSlL K) (tVar 1) tNoPart (tPart (tVar 5))) (tLst (tCons (tTup (tCons (tOp (rIxT K) (tOp (rIxL K) (tVar 1) (tVar 5)) (tC (.int 1))) (tCons (tOp (rIxT K) (tOp (rIxL K) (tVar 1) (tVar 5)) (tC (.int 0))) tNil))) tNil))) (tSl (rSlL K) (tVar 1) (tPart (tVar 5)) tNoPart))) tNext) (tSeq (tAsg (tOp (rIxL K) (tLst (tCons (tTup (tCons (tVar 2) (tCons (tC (.int 0)) tNil))) (tCons (tTup (tCons (tC (.int 0)) (tCons (tC (.int 0)) tNil))) (tCons (tCall (sp_untied_k08 K) [] E0 (tCons (tVar 0) (tCons (tVar 2) (tCons (tOp oDiv (tVar 3) (tC (.int 6))) tNil)))) tNil)))) (tOp oSub (tVar 4) (tC (.int 4)))) (gName 6)) (tRet (tOp rCat (tOp rCat (tSl (rSlL K) (tVar 1) tNoPart (tPart (tVar 5))) (tLst (tCons (tVar 6) tNil))) (tSl (rSlL K) (tVar 1) (tPart (tVar 5)) tNoPart))))))))))))
/-! ### arrows that turn ties -/
structure Pre (l qs : List (Int × Int)) : Prop where
  tie : ∀ p ∈ qs, p ∈ l
  once : qs.Pairwise fun p q => p ≠ q ∧ p ≠ (q.2, q.1)
theorem Pre.snoc {l qs : List (Int × Int)} {p : Int × Int} (h : Pre l qs) (h1 : p ∈ l) (h2 : p ∉ qs) (h3 : (p.2, p.1) ∉ qs) : Pre l (qs ++ [p]) := by
  refine ⟨fun q hq => ?_, List.pairwise_append.mpr ⟨h.once, List.pairwise_singleton _ _, fun a ha b hb => ?_⟩⟩
  · rcases List.mem_append.mp hq with hq | hq
    · exact h.tie q hq
    · rw [List.mem_singleton.mp hq]
      exact h1
  · rw [List.mem_singleton.mp hb]
    exact ⟨fun z => h2 (z ▸ ha), fun z => h3 (z ▸ ha)⟩
theorem TurnsOf.at {l qs : List (Int × Int)} {i : Nat} {p : Int × Int} (h : TurnsOf l qs) (e : qs[i]? = some p) : p ∈ l ∧ p ∉ qs.take i ∧ (p.2, p.1) ∉ qs.take i := by
  have hi := lt_of_get e
  have hp : qs = qs.take i ++ p :: qs.drop (i + 1) := by
    have h2 := (List.getElem?_eq_some_iff.mp e).2
    rw [← h2, ← List.drop_eq_getElem_cons hi, List.take_append_drop]
  have ho := h.once
  rw [hp] at ho
  obtain ⟨_, _, h3⟩ := List.pairwise_append.mp ho
  exact ⟨h.tie p (mem_of_get e), fun z => (h3 _ z _ List.mem_cons_self).1 rfl, fun z => (h3 _ z _ List.mem_cons_self).2 rfl⟩
theorem Pre.put {l qs : List (Int × Int)} {i : Nat} {p : Int × Int} (h : Pre l (qs.take i)) (e : qs[i]? = some p) (h1 : p ∈ l) (h2 : p ∉ qs.take i) (h3 : (p.2, p.1) ∉ qs.take i) : Pre l (qs.take (i + 1)) ∧ addP (qs.take i) p = qs.take (i + 1) := by
  rw [take_snoc e]
  refine ⟨h.snoc h1 h2 h3, ?_⟩
  unfold addP
  rw [if_neg h2]
theorem Pre.turns {l qs : List (Int × Int)} (h : Pre l qs) (h1 : 2 * qs.length = l.length) (h2 : ∀ a b c, (a, b) ∈ qs → (b, c) ∈ qs → (a, c) ∈ qs) : TurnsOf l qs := ⟨h.tie, h.once, h1, h2⟩
theorem GapsOf.nil_iff {qs : List (Int × Int)} {ts : List (List Int)} (g : GapsOf qs ts) : ts = [] ↔ ∀ a b c, (a, b) ∈ qs → (b, c) ∈ qs → (a, c) ∈ qs := by
  constructor
  · intro z a b c h1 h2
    by_cases h3 : (a, c) ∈ qs
    · exact h3
    · have := (g.2 [a, b, c]).mpr ⟨a, b, c, rfl, h1, h2, h3⟩
      rw [z] at this
      cases this
  · intro z
    cases hts : ts with
    | nil => rfl
    | cons t r =>
      have : t ∈ ts := by rw [hts]; exact List.mem_cons_self
      obtain ⟨a, b, c, _, h1, h2, h3⟩ := (g.2 t).mp this
      exact absurd (z a b c h1 h2) h3
theorem ite_tail {c : Prop} [Decidable c] {A B φ : Prop} (h2 : ¬ c → φ) (h : φ → B) (h1 : (φ → B) → c → A) : if (decide c) = true then A else B := iteD (h1 h) fun z => h (h2 z)
theorem at_ex {xs : List V} {i : Int} (h1 : -(xs.length : Int) ≤ i) (h2 : i < xs.length) : ∃ (j : Nat) (v : V), atI xs i = some v ∧ xs[j]? = some v := by
  by_cases h : 0 ≤ i
  · have hj : i.toNat < xs.length := by omega
    exact ⟨i.toNat, xs[i.toNat], at_of (j := i.toNat) (by omega) (by simp [hj]), by simp [hj]⟩
  · have hj : (i + xs.length).toNat < xs.length := by omega
    refine ⟨(i + xs.length).toNat, xs[(i + xs.length).toNat], ?_, by simp [hj]⟩
    unfold atI ixN
    rw [if_neg h, if_pos h1]
    simp [hj]
theorem cut_take (xs : List V) (k : Nat) : cutV xs none (some (k : Int)) = xs.take k := by
  unfold cutV
  have e : HT.sIx xs.length xs.length (some (k : Int)) = min k xs.length := HT.sIx_nat _ _ _
  have e2 : HT.sIx xs.length 0 none = 0 := rfl
  rw [e, e2]
  show xs.take (min k xs.length - 0) = _
  rw [Nat.sub_zero]
  by_cases h : k ≤ xs.length
  · rw [Nat.min_eq_left h]
  · rw [Nat.min_eq_right (by omega), List.take_of_length_le (Nat.le_refl _), List.take_of_length_le (by omega)]
theorem cut_drop (xs : List V) (k : Nat) : cutV xs (some (k : Int)) none = xs.drop k := by
  unfold cutV
  have e : HT.sIx xs.length 0 (some (k : Int)) = min k xs.length := HT.sIx_nat _ _ _
  have e2 : HT.sIx xs.length xs.length none = xs.length := rfl
  rw [e, e2, List.take_of_length_le (by rw [List.length_drop]; omega)]
  by_cases h : k ≤ xs.length
  · rw [Nat.min_eq_left h]
  · rw [Nat.min_eq_right (by omega), List.drop_of_length_le (Nat.le_refl _), List.drop_of_length_le (by omega)]
theorem tl_take {H : Hp} {xs : List V} {ps : List (Int × Int)} (k : Nat) (h : TL H xs (ps.map p2)) : TL H (xs.take k) ((ps.take k).map p2) := by
  rw [List.map_take]
  exact paired_take k h
theorem tl_drop {H : Hp} {xs : List V} {ps : List (Int × Int)} (k : Nat) (h : TL H xs (ps.map p2)) : TL H (xs.drop k) ((ps.drop k).map p2) := by
  rw [List.map_drop]
  exact paired_drop k h
theorem tl_app {H : Hp} {xs ys : List V} {ps qs : List (Int × Int)} (h : TL H xs (ps.map p2)) (k : TL H ys (qs.map p2)) : TL H (xs ++ ys) ((ps ++ qs).map p2) := by
  rw [List.map_append]
  exact paired_app h k
theorem tl_one {H : Hp} {t : Addr} {a b : Int} (e : H t = some (.tup [.int a, .int b])) : TL H [.ref t] ([(a, b)].map p2) := .cons (ti2 e) .nil
variable {K : PySem.W.Frag} {vs : List V} {H : Hp} {Q : VK} {E : XK}
theorem len_fits (h : sp_fits K vs H Q E) : vs.length = 2 := by
  obtain ⟨v, n, l, a, xs, qs, rfl, _⟩ := h
  rfl
theorem pure_fits (N : NetC K) (h : sp_fits K vs H Q E) : t_fits K (ends Q) (st 4 vs) H := by
  obtain ⟨v, n, l, a, xs, qs, rfl, ⟨o, dx, d, rfl, hO, hd, g, hn⟩, ha, tt, lq, q⟩ := h
  have lx : xs.length = qs.length := by rw [paired_len tt]; simp
  refine fun hv nhv => ?_
  generalize e1 : upd _ hv _ = H1
  have s1 := Same.of_eq e1 nhv
  replace e1 := new_at e1
  refine ⟨_, rfl, a, rfl, ⟨_, SqL.of (s1 _ _ ha)⟩, for_list (K := K) (a := a) (xs := xs) (fun i σ G => ∃ (o3 : Option V), σ = [some (.ref o), some (.ref a), some (.ref hv), o3] ∧ Same H G ∧ G hv = some (.dT (hk (qs.take i))) ∧ Pre l (qs.take i))
    ⟨_, rfl, s1, e1, ⟨fun p hp => (nomatch hp), .nil⟩⟩ (fun i σ G _ ⟨_, _, s, _⟩ => SqL.of (s _ _ ha)) ?_ ?_⟩
  · rintro i x σ G hx ⟨o3, rfl, s0, hh, pr⟩
    obtain ⟨p, hp, t, rfl, htp⟩ := TLp.at tt hx
    have htp0 := s0 _ _ htp
    have hi := lt_of_get hp
    have no : ∀ G', Same G G' → ¬ (p ∈ l ∧ p ∉ qs.take i ∧ (p.2, p.1) ∉ qs.take i) → Q (.bl false) G' := fun G' s c => q false G' ⟨fun z => (nomatch z), fun z => absurd (z.at hp) c⟩ (s0.trans s)
    walk_at "go"
    refine ⟨o, _, dx, _, _, rfl, s0 _ _ hO, N.cl, N.nB, nflds_both _ _, _, _, rfl, DGet.t (k := kp p) (s0 _ _ hd) htp0, ?_⟩
    walk_at "go"
    rw [some_hk]
    refine iteDn (fun c => no _ (Same.refl _) fun z => c z.1) fun c1 => ?_
    walk_at "go"
    refine ⟨_, _, rfl, DGet.t (k := kp p) hh htp0, ?_⟩
    walk_at "go"
    rw [some_hk]
    refine iteD (fun c => no _ (Same.refl _) fun z => z.2.1 c) fun c2 => ?_
    walk_at "go"
    refine ⟨_, _, _, _, rfl, rfl, SqT.of htp0, at1, ?_⟩
    walk_at "go"
    refine ⟨_, _, _, _, rfl, rfl, SqT.of htp0, at0, ?_⟩
    walk_at "go"
    refine fun u nu => ?_
    generalize e2 : upd _ u _ = G2
    have s2 := Same.of_eq e2 nu
    replace e2 := new_at e2
    refine ⟨_, rfl, _, _, rfl, DGet.t (k := kp (p.2, p.1)) (s2 _ _ hh) e2, ?_⟩
    walk_at "go"
    rw [some_hk]
    refine iteD (fun c => no _ s2 fun z => z.2.2 c) fun c3 => ?_
    obtain ⟨pr2, ea⟩ := pr.put hp c1 c2 c3
    walk_at "go"
    refine ⟨_, _, rfl, DPut.t (k := kp p) (s2 _ _ hh) (s2 _ _ htp0) (lin' (by simp [hk]; omega)), ?_⟩
    rw [putK_hk, ea]
    exact ⟨_, rfl, (s0.trans s2).mut nhv, upd_same, pr2⟩
  · rintro σ G ⟨o3, rfl, s0, hh, pr⟩
    rw [lx, List.take_length] at hh pr
    walk_at "go"
    refine ⟨_, _, rfl, hh, ?_⟩
    walk_at "go"
    refine ⟨o, _, dx, _, _, rfl, s0 _ _ hO, N.cl, N.nB, nflds_both _ _, _, _, rfl, s0 _ _ hd, ?_⟩
    have e1 : (hk qs).length = qs.length := by simp [hk]
    have e2 : (hk l).length = l.length := by simp [hk]
    rw [e1, e2]
    refine ⟨rfl, _, rfl, iteE (fun c1 => ?_) fun c1 => ?_⟩
    · walk_at "go"
      refine ⟨a, xs, qs, rfl, SqL.of (s0 _ _ ha), tt.mono s0.tk, lq, fun ts p G1 ys gp _ np s1 e1 tz => ?_⟩
      walk_at "go"
      refine fun nl nnl => ?_
      generalize e2 : upd _ nl _ = G2
      have s2 := Same.of_eq e2 nnl
      replace e2 := new_at e2
      refine ⟨_, .list [], dp_tl (SqL.of (s2 _ _ e1)) (tz.mono s2.tk), .lst (SqL.of e2) .nil, shaped_dIs _, by decide +kernel, ?_⟩
      refine q _ _ ?_ ((s0.trans s1).trans s2)
      have := eqv_lI ts []
      rw [List.map_nil] at this
      rw [this, decide_eq_true_iff, gp.nil_iff]
      exact ⟨fun z => pr.turns (by omega) z, fun z => z.no⟩
    · exact q false G ⟨fun z => (nomatch z), fun z => absurd z.all (by omega)⟩ s0
theorem len_pair (h : sp_pair K vs H Q E) : vs.length = 1 := by
  obtain ⟨t, a, b, rfl, _⟩ := h
  rfl
theorem pure_pair (h : sp_pair K vs H Q E) : t_pair K (ends Q) (st 1 vs) H := by
  obtain ⟨t, a, b, rfl, ht, q⟩ := h
  walk_at "go"
  walk_at "isT"
  walk_at "go"
  refine ⟨_, _, rfl, .inr (SqT.of ht), ?_⟩
  walk_at "go"
  refine ⟨rfl, _, rfl, iteE (fun _ => ?_) (fun c => absurd rfl c)⟩
  walk_at "go"
  refine ⟨_, _, _, _, rfl, rfl, SqT.of ht, at0, ?_⟩
  refine ⟨a, rfl, _, rfl, ?_⟩
  walk_at "go"
  refine ⟨_, _, _, _, rfl, rfl, SqT.of ht, at1, ?_⟩
  exact ⟨b, rfl, q⟩
theorem len_turns (h : sp_turns K vs H Q E) : vs.length = 2 := by
  obtain ⟨d, l, a, xs, qs, rfl, _⟩ := h
  rfl
theorem pure_turns (h : sp_turns K vs H Q E) : t_turns K (ends Q) (st 8 vs) H := by
  obtain ⟨d, l, a, xs, qs, rfl, hd, ha, tt, lq, q⟩ := h
  have lx : xs.length = qs.length := by rw [paired_len tt]; simp
  walk_at "go"
  walk_at "isT"
  walk_at "go"
  refine fun hv nhv => ?_
  generalize e1 : upd _ hv _ = H1
  have s1 := Same.of_eq e1 nhv
  replace e1 := new_at e1
  refine ⟨_, rfl, a, rfl, ⟨_, SqL.of (s1 _ _ ha)⟩, for_list (K := K) (a := a) (xs := xs) (fun i σ G => ∃ (o3 : Option V), σ = [some (.ref d), some (.ref a), some (.ref hv), o3, none, none, none, none] ∧ Same H G ∧ G hv = some (.dT (hk (qs.take i))) ∧ Pre l (qs.take i))
    ⟨_, rfl, s1, e1, ⟨fun p hp => (nomatch hp), .nil⟩⟩ (fun i σ G _ ⟨_, _, s, _⟩ => SqL.of (s _ _ ha)) ?_ ?_⟩
  · rintro i x σ G hx ⟨o3, rfl, s0, hh, pr⟩
    obtain ⟨p, hp, t, rfl, htp⟩ := TLp.at tt hx
    have htp0 := s0 _ _ htp
    have hi := lt_of_get hp
    have no : ∀ G', Same G G' → ¬ (p ∈ l ∧ p ∉ qs.take i ∧ (p.2, p.1) ∉ qs.take i) → Q (.bl false) G' := fun G' s c => q false G' ⟨fun z => (nomatch z), fun z => absurd (z.at hp) c⟩ (s0.trans s)
    walk_at "go"
    refine ⟨t, _, _, rfl, htp0, ?_⟩
    walk_at "go"
    refine ⟨_, _, rfl, DGet.t (k := kp p) (s0 _ _ hd) htp0, ?_⟩
    walk_at "go"
    rw [some_hk]
    refine iteDn (fun c => no _ (Same.refl _) fun z => c z.1) fun c1 => ?_
    walk_at "go"
    refine ⟨_, _, rfl, DGet.t (k := kp p) hh htp0, ?_⟩
    walk_at "go"
    rw [some_hk]
    refine iteD (fun c => no _ (Same.refl _) fun z => z.2.1 c) fun c2 => ?_
    walk_at "go"
    refine ⟨_, _, _, _, rfl, rfl, SqT.of htp0, at1, ?_⟩
    walk_at "go"
    refine ⟨_, _, _, _, rfl, rfl, SqT.of htp0, at0, ?_⟩
    walk_at "go"
    refine fun u nu => ?_
    generalize e2 : upd _ u _ = G2
    have s2 := Same.of_eq e2 nu
    replace e2 := new_at e2
    refine ⟨_, rfl, _, _, rfl, DGet.t (k := kp (p.2, p.1)) (s2 _ _ hh) e2, ?_⟩
    walk_at "go"
    rw [some_hk]
    refine iteD (fun c => no _ s2 fun z => z.2.2 c) fun c3 => ?_
    obtain ⟨pr2, ea⟩ := pr.put hp c1 c2 c3
    walk_at "go"
    refine ⟨_, _, rfl, DPut.t (k := kp p) (s2 _ _ hh) (s2 _ _ htp0) (lin' (by simp [hk]; omega)), ?_⟩
    rw [putK_hk, ea]
    exact ⟨_, rfl, (s0.trans s2).mut nhv, upd_same, pr2⟩
  · rintro σ G ⟨o3, rfl, s0, hh, pr⟩
    rw [lx, List.take_length] at hh pr
    walk_at "go"
    refine ⟨_, _, rfl, hh, ?_⟩
    walk_at "go"
    refine ⟨_, _, rfl, s0 _ _ hd, ?_⟩
    have e1 : (hk qs).length = qs.length := by simp [hk]
    have e2 : (hk l).length = l.length := by simp [hk]
    rw [e1, e2]
    refine ⟨rfl, _, rfl, iteEn (fun c1 => ?_) fun c1 => ?_⟩
    · exact q false G ⟨fun z => (nomatch z), fun z => absurd z.all (by omega)⟩ s0
    have hcl : 2 * qs.length = l.length := by omega
    have sq : ∀ G', Same G G' → SqL K G' a xs := fun G' s => SqL.of (s _ _ (s0 _ _ ha))
    refine ⟨_, rfl, a, rfl, ⟨_, sq _ (Same.refl _)⟩, for_list (K := K) (a := a) (xs := xs) (fun i σ G' => ∃ (o4 o5 o6 o7 : Option V), σ = [some (.ref d), some (.ref a), some (.ref hv), o3, o4, o5, o6, o7] ∧ Same G G' ∧ ∀ x y z, (x, y) ∈ qs.take i → (y, z) ∈ qs → (x, z) ∈ qs)
      ⟨_, _, _, _, rfl, Same.refl _, fun x y z h => (nomatch h)⟩ (fun i σ G _ ⟨_, _, _, _, _, s, _⟩ => sq _ s) ?_ ?_⟩
    · rintro i x σ G1 hx ⟨o4, o5, o6, o7, rfl, s3, gp⟩
      obtain ⟨p, hp, t, rfl, htp⟩ := TLp.at tt hx
      refine ⟨_, _, rfl, SqT.of (s3 _ _ (s0 _ _ htp)), rfl, _, _, rfl, _, _, rfl, rfl, ?_⟩
      refine ⟨_, rfl, a, rfl, ⟨_, sq _ s3⟩, for_list (K := K) (a := a) (xs := xs) (fun j σ G' => ∃ (o6 o7 : Option V), σ = [some (.ref d), some (.ref a), some (.ref hv), o3, some (.int p.1), some (.int p.2), o6, o7] ∧ Same G G' ∧ ∀ z, (p.2, z) ∈ qs.take j → (p.1, z) ∈ qs)
        ⟨_, _, rfl, s3, fun z h => (nomatch h)⟩ (fun i σ G _ ⟨_, _, _, s, _⟩ => sq _ s) ?_ ?_⟩
      · rintro j x σ G2 hx ⟨o6, o7, rfl, s4, gp2⟩
        obtain ⟨r, hr, t2, rfl, htr⟩ := TLp.at tt hx
        refine ⟨_, _, rfl, SqT.of (s4 _ _ (s0 _ _ htr)), rfl, _, _, rfl, _, _, rfl, rfl, ?_⟩
        have ok : ∀ G', Same G2 G' → (r.1 = p.2 → (p.1, r.2) ∈ qs) → ∃ (o6 o7 : Option V), [some (V.ref d), some (.ref a), some (.ref hv), o3, some (.int p.1), some (.int p.2), some (.int r.1), some (.int r.2)] = [some (.ref d), some (.ref a), some (.ref hv), o3, some (.int p.1), some (.int p.2), o6, o7] ∧ Same G G' ∧ ∀ z, (p.2, z) ∈ qs.take (j + 1) → (p.1, z) ∈ qs := fun G' s c =>
          ⟨_, _, rfl, s4.trans s, fun z h => by
            rw [take_snoc hr] at h
            rcases List.mem_append.mp h with h | h
            · exact gp2 z h
            · have := List.mem_singleton.mp h
              subst this
              exact c rfl⟩
        walk_at "go"
        refine ⟨rfl, _, rfl, iteE (fun c1 => ?_) fun c1 => ?_⟩
        · walk_at "go"
          refine fun u nu => ?_
          generalize e5 : upd _ u _ = G3
          have s5 := Same.of_eq e5 nu
          replace e5 := new_at e5
          refine ⟨_, rfl, _, _, rfl, DGet.t (k := kp (p.1, r.2)) (s5 _ _ (s4 _ _ hh)) e5, ?_⟩
          walk_at "go"
          rw [some_hk]
          refine iteDn (fun c2 => ?_) fun c2 => ?_
          · refine q false G3 ⟨fun z => (nomatch z), fun z => absurd (z.no p.1 p.2 r.2 (mem_of_get hp) ?_) c2⟩ ((s0.trans s4).trans s5)
            rw [← c1]
            exact mem_of_get hr
          · exact ok _ s5 fun _ => c2
        · exact ok _ (Same.refl _) fun z => absurd z c1
      · rintro σ G2 ⟨o6, o7, rfl, s4, gp2⟩
        rw [lx, List.take_length] at gp2
        refine ⟨_, _, _, _, rfl, s4, fun x y z h h2 => ?_⟩
        rw [take_snoc hp] at h
        rcases List.mem_append.mp h with h | h
        · exact gp x y z h h2
        · have := List.mem_singleton.mp h
          subst this
          exact gp2 z h2
    · rintro σ G1 ⟨o4, o5, o6, o7, rfl, s3, gp⟩
      rw [lx, List.take_length] at gp
      walk_at "go"
      exact q true G1 ⟨fun _ => pr.turns hcl gp, fun _ => rfl⟩ (s0.trans s3)
theorem len_untied_k08 (h : sp_untied_k08 K vs H Q E) : vs.length = 3 := by
  obtain ⟨d, l, n, c, rfl, _⟩ := h
  rfl
theorem pure_untied_k08 (h : sp_untied_k08 K vs H Q E) : t_untied_k08 K (ends Q) (st 6 vs) H := by
  obtain ⟨d, l, n, c, rfl, hd, hn, q⟩ := h
  walk_at "go"
  refine fun fl nfl => ?_
  generalize e1 : upd _ fl _ = H1
  have s1 := Same.of_eq e1 nfl
  replace e1 := new_at e1
  walk_at "go"
  refine ⟨by omega, by omega, for_n (n := ((n : Int)).toNat) (fun i σ G => ∃ (o4 o5 : Option V) (xs : List V) (ps : List (Int × Int)), σ = [some (.ref d), some (.int n), some (.int c), some (.ref fl), o4, o5] ∧ Same H G ∧ G fl = some (.lst xs) ∧ TL G xs (ps.map p2) ∧ ps.length ≤ i * n)
    ⟨_, _, [], [], rfl, s1, e1, .nil, Nat.zero_le _⟩ ?_ ?_⟩
  · rintro i σ G hi ⟨o4, o5, xs, ps, rfl, s0, hf, tf, lf⟩
    walk_at "go"
    refine ⟨by omega, by omega, for_n (n := ((n : Int)).toNat) (fun j σ G => ∃ (o5 : Option V) (xs : List V) (ps : List (Int × Int)), σ = [some (.ref d), some (.int n), some (.int c), some (.ref fl), some (.int i), o5] ∧ Same H G ∧ G fl = some (.lst xs) ∧ TL G xs (ps.map p2) ∧ ps.length ≤ i * n + j)
      ⟨_, xs, ps, rfl, s0, hf, tf, lf⟩ ?_ ?_⟩
    · rintro j σ G hj ⟨o5, xs, ps, rfl, s0, hf, tf, lf⟩
      walk_at "go"
      refine ⟨rfl, _, rfl, iteEn (fun c1 => ?_) fun c1 => ?_⟩
      · walk_at "go"
        refine fun u nu => ?_
        generalize e5 : upd _ u _ = G3
        have s5 := Same.of_eq e5 nu
        replace e5 := new_at e5
        refine ⟨_, rfl, _, _, rfl, DGet.t (k := kp ((i : Int), (j : Int))) (s5 _ _ (s0 _ _ hd)) e5, ?_⟩
        walk_at "go"
        rw [some_hk]
        have hf5 := s5 _ _ hf
        refine iteDn (fun c2 => ?_) fun c2 => ?_
        · walk_at "go"
          refine ⟨.inl ⟨rfl, _, SqL.of hf5⟩, ?_⟩
          walk_at "go"
          refine fun w nw => ?_
          generalize e6 : upd _ w _ = G4
          have s6 := Same.of_eq e6 nw
          replace e6 := new_at e6
          have hf6 := s6 _ _ hf5
          have lx : xs.length ≤ i * n + j := by rw [paired_len tf, List.length_map]; exact lf
          have lb : i * n ≤ 24 * 24 := Nat.mul_le_mul (by omega) hn
          refine ⟨fl, _, _, rfl, rfl, hf6, lin' (by omega), ?_⟩
          have tkf : TK G4 (upd G4 fl (.lst (xs ++ [V.ref w]))) := TK.upd fun zs z => by rw [hf6] at z; cases z
          refine ⟨_, _, ps ++ [((i : Int), (j : Int))], rfl, ((s0.trans s5).trans s6).mut nfl, upd_same, ?_, by rw [List.length_append, List.length_singleton]; omega⟩
          rw [List.map_append]
          exact paired_app (tf.mono ((s5.tk.trans s6.tk).trans tkf)) (.cons (TI.mono tkf (ti2 e6)) .nil)
        · exact ⟨_, xs, ps, rfl, s0.trans s5, hf5, tf.mono s5.tk, by omega⟩
      · exact ⟨_, xs, ps, rfl, s0, hf, tf, by omega⟩
    · rintro σ G ⟨o5, xs, ps, rfl, s0, hf, tf, lf⟩
      refine ⟨_, _, xs, ps, rfl, s0, hf, tf, ?_⟩
      have : ((n : Int)).toNat = n := by omega
      rw [this] at lf
      rw [Nat.succ_mul]
      exact lf
  · rintro σ G ⟨o4, o5, xs, ps, rfl, s0, hf, tf, lf⟩
    walk_at "go"
    refine ⟨_, .inl ⟨xs, SqL.of hf, rfl⟩, ?_⟩
    refine iteBn (fun e => ?_) fun e => ?_
    · have lx : 0 < xs.length := by
        cases xs with
        | nil => cases e
        | cons x xs => exact Nat.succ_pos _
      walk_at "go"
      refine ⟨_, _, rfl, .inl (SqL.of hf), ?_⟩
      refine ⟨_, _, rfl, rfl, by show ((xs.length : Int)) ≠ 0; omega, ?_⟩
      try dsimp only
      rw [fmod_pos _ (by omega : (0 : Int) < (xs.length : Int))]
      have h1 := Int.emod_nonneg c (b := (xs.length : Int)) (by omega)
      have h2 := Int.emod_lt_of_pos c (b := (xs.length : Int)) (by omega)
      obtain ⟨j, v, hv, hj⟩ := at_ex (xs := xs) (i := c % (xs.length : Int)) (by omega) h2
      obtain ⟨p, hp, t, rfl, htp⟩ := TLp.at tf hj
      exact ⟨fl, _, _, _, rfl, rfl, SqL.of hf, hv, q t _ _ G s0 htp⟩
    · walk_at "go"
      refine fun t nt => ?_
      generalize e1 : upd _ t _ = G1
      have s1 := Same.of_eq e1 nt
      replace e1 := new_at e1
      exact q t _ _ G1 (s0.trans s1) e1
theorem len_changed_k08 (h : sp_changed_k08 K vs H Q E) : vs.length = 4 := by
  obtain ⟨d, l, a, xs, ps, n, c, rfl, _⟩ := h
  rfl
theorem pure_changed_k08 (h : sp_changed_k08 K vs H Q E) : t_changed_k08 K (ends Q) (st 7 vs) H := by
  obtain ⟨d, l, a, xs, ps, n, c, rfl, hd, ha, tt, lp, hn, q⟩ := h
  have lx : xs.length = ps.length := by rw [paired_len tt]; simp
  walk_at "go"
  try dsimp only
  generalize ew : c % 7 = w
  have w0 : 0 ≤ w ∧ w < 7 := by omega
  refine ⟨fun σ G => G = H ∧ ∃ k : Nat, σ = [some (.ref d), some (.ref a), some (.int n), some (.int c), some (.int w), some (.int k), none] ∧ (0 < xs.length → k < xs.length), ?_, ?_⟩
  · walk_at "go"
    refine ⟨_, .inl ⟨xs, SqL.of ha, rfl⟩, ?_⟩
    refine iteBn (fun e => ?_) fun e => ?_
    · have l0 : 0 < xs.length := by
        cases xs with
        | nil => cases e
        | cons x xs => exact Nat.succ_pos _
      walk_at "go"
      refine ⟨_, _, rfl, .inl (SqL.of ha), ?_⟩
      refine ⟨_, _, rfl, rfl, by show ((xs.length : Int)) ≠ 0; omega, ?_⟩
      try dsimp only
      rw [fmod_pos _ (by omega : (0 : Int) < (xs.length : Int))]
      have h1 := Int.emod_nonneg (c / 6) (b := (xs.length : Int)) (by omega)
      have h2 := Int.emod_lt_of_pos (c / 6) (b := (xs.length : Int)) (by omega)
      generalize c / 6 % (xs.length : Int) = y at h1 h2 ⊢
      obtain ⟨k, rfl⟩ : ∃ k : Nat, y = k := ⟨y.toNat, by omega⟩
      exact ⟨rfl, k, rfl, fun _ => by omega⟩
    · refine ⟨rfl, 0, rfl, fun z => ?_⟩
      cases xs with
      | nil => exact absurd z (by decide)
      | cons x xs => cases e
  rintro σ G ⟨rfl, k, rfl, hk⟩
  walk_at "go"
  refine ite_tail (φ := w < 4 → 0 < xs.length) (fun z z' => absurd z' z) (fun ne => ?_) fun r c1 => ?_
  rotate_left
  · walk_at "go"
    refine ⟨_, .inl ⟨xs, SqL.of ha, rfl⟩, ?_⟩
    refine iteBn (fun e => ?_) fun e => r fun _ => ?_
    · walk_at "go"
      exact q a xs ps G (Same.refl _) ha tt (by omega)
    · cases xs with
      | nil => cases e
      | cons x xs => exact Nat.succ_pos _
  have one : ∀ (G1 : Hp), w < 4 → Same G G1 → ∃ (t : Addr) (x y : Int), atI xs (k : Int) = some (.ref t) ∧ G1 t = some (.tup [.int x, .int y]) := fun G1 z s => by
    have hj := hk (ne z)
    obtain ⟨p, hp, t, e, htp⟩ := TLp.at tt (x := xs[k]) (i := k) (by simp [hj])
    exact ⟨t, p.1, p.2, at_of (j := k) rfl (by rw [← e]; simp [hj]), s _ _ htp⟩
  have ltk : (ps.take k).length + (ps.drop k).length = ps.length := by rw [← List.length_append, List.take_append_drop]
  have ltk1 : (ps.drop (k + 1)).length ≤ (ps.drop k).length := by rw [List.length_drop, List.length_drop]; omega
  have lt1 : (ps.take k).length ≤ 900 := by omega
  have lt2 : (ps.drop k).length ≤ 900 := by omega
  have ltx : (xs.take k).length ≤ 900 := by rw [List.length_take]; omega
  have ldx : ∀ j, (xs.drop j).length ≤ 900 := fun j => by rw [List.length_drop]; omega
  -- arrows[:at] + [..] + arrows[j:]
  refine ⟨_, rfl, rfl, _, rfl, iteE (fun c1 => ?_) fun c1 => ?_⟩
  · walk_at "go"
    refine ⟨a, xs, rfl, SqL.of ha, ?_⟩
    refine fun p np => ?_
    generalize e1 : upd _ p _ = G1
    have s1 := Same.of_eq e1 np
    replace e1 := new_at e1
    rw [cut_take] at e1
    obtain ⟨t, x, y, hx, ht⟩ := one G1 (by omega) s1
    walk_at "go"
    refine ⟨a, _, _, _, rfl, rfl, SqL.of (s1 _ _ ha), hx, ?_⟩
    walk_at "go"
    refine ⟨_, _, _, _, rfl, rfl, SqT.of ht, at1, ?_⟩
    walk_at "go"
    refine ⟨a, _, _, _, rfl, rfl, SqL.of (s1 _ _ ha), hx, ?_⟩
    walk_at "go"
    refine ⟨_, _, _, _, rfl, rfl, SqT.of ht, at0, ?_⟩
    walk_at "go"
    refine fun u nu => ?_
    generalize e2 : upd _ u _ = G2
    have s2 := Same.of_eq e2 nu
    replace e2 := new_at e2
    refine ⟨sz1, ?_⟩
    refine fun l2 nl2 => ?_
    generalize e3 : upd _ l2 _ = G3
    have s3 := Same.of_eq e3 nl2
    replace e3 := new_at e3
    refine ⟨p, l2, _, _, rfl, rfl, s3 _ _ (s2 _ _ e1), e3, lin (by show _ + 1 ≤ _; omega), ?_⟩
    refine fun l3 nl3 => ?_
    generalize e4 : upd _ l3 _ = G4
    have s4 := Same.of_eq e4 nl3
    replace e4 := new_at e4
    have s04 := ((s1.trans s2).trans s3).trans s4
    walk_at "go"
    refine ⟨a, xs, rfl, SqL.of (s04 _ _ ha), ?_⟩
    refine fun l4 nl4 => ?_
    generalize e5 : upd _ l4 _ = G5
    have s5 := Same.of_eq e5 nl4
    replace e5 := new_at e5
    have ek : (k : Int) + 1 = ((k + 1 : Nat) : Int) := by omega
    rw [ek, cut_drop] at e5
    refine ⟨l3, l4, _, _, rfl, rfl, s5 _ _ e4, e5, lin (by have := ldx (k + 1); rw [List.length_append, List.length_singleton]; omega), ?_⟩
    refine fun l5 nl5 => ?_
    generalize e6 : upd _ l5 _ = G6
    have s6 := Same.of_eq e6 nl5
    replace e6 := new_at e6
    have s06 := (s04.trans s5).trans s6
    refine q l5 _ (ps.take k ++ [(y, x)] ++ ps.drop (k + 1)) G6 s06 e6 ?_ (by rw [List.length_append, List.length_append, List.length_singleton]; omega)
    exact tl_app (tl_app ((tl_take k tt).mono s06.tk) (tl_one (s6 _ _ (s5 _ _ (s4 _ _ (s3 _ _ e2)))))) ((tl_drop _ tt).mono s06.tk)
  refine ⟨_, rfl, rfl, _, rfl, iteE (fun c2 => ?_) fun c2 => ?_⟩
  · walk_at "go"
    refine ⟨a, xs, rfl, SqL.of ha, ?_⟩
    refine fun p np => ?_
    generalize e1 : upd _ p _ = G1
    have s1 := Same.of_eq e1 np
    replace e1 := new_at e1
    rw [cut_take] at e1
    walk_at "go"
    refine ⟨a, xs, rfl, SqL.of (s1 _ _ ha), ?_⟩
    refine fun l4 nl4 => ?_
    generalize e5 : upd _ l4 _ = G5
    have s5 := Same.of_eq e5 nl4
    replace e5 := new_at e5
    have ek : (k : Int) + 1 = ((k + 1 : Nat) : Int) := by omega
    rw [ek, cut_drop] at e5
    refine ⟨p, l4, _, _, rfl, rfl, s5 _ _ e1, e5, lin (by have := ldx (k + 1); omega), ?_⟩
    refine fun l5 nl5 => ?_
    generalize e6 : upd _ l5 _ = G6
    have s6 := Same.of_eq e6 nl5
    replace e6 := new_at e6
    have s06 := (s1.trans s5).trans s6
    refine q l5 _ (ps.take k ++ ps.drop (k + 1)) G6 s06 e6 ?_ (by rw [List.length_append]; omega)
    exact tl_app ((tl_take k tt).mono s06.tk) ((tl_drop _ tt).mono s06.tk)
  -- arrows[:at] + [v] + arrows[at:]
  refine ⟨_, rfl, rfl, _, rfl, iteE (fun c3 => ?_) fun c3 => ?_⟩
  · walk_at "go"
    refine ⟨a, xs, rfl, SqL.of ha, ?_⟩
    refine fun p np => ?_
    generalize e1 : upd _ p _ = G1
    have s1 := Same.of_eq e1 np
    replace e1 := new_at e1
    rw [cut_take] at e1
    walk_at "go"
    have hj := hk (ne (by omega))
    obtain ⟨j, v, hv, hj⟩ := at_ex (xs := xs) (i := (k : Int) - 1) (by omega) (by omega)
    obtain ⟨r, hr, t, rfl, htr⟩ := TLp.at tt hj
    refine ⟨a, _, _, _, rfl, rfl, SqL.of (s1 _ _ ha), hv, ?_⟩
    refine ⟨sz1, ?_⟩
    refine fun l2 nl2 => ?_
    generalize e3 : upd _ l2 _ = G3
    have s3 := Same.of_eq e3 nl2
    replace e3 := new_at e3
    refine ⟨p, l2, _, _, rfl, rfl, s3 _ _ e1, e3, lin (by show _ + 1 ≤ _; omega), ?_⟩
    refine fun l3 nl3 => ?_
    generalize e4 : upd _ l3 _ = G4
    have s4 := Same.of_eq e4 nl3
    replace e4 := new_at e4
    have s04 := (s1.trans s3).trans s4
    walk_at "go"
    refine ⟨a, xs, rfl, SqL.of (s04 _ _ ha), ?_⟩
    refine fun l4 nl4 => ?_
    generalize e5 : upd _ l4 _ = G5
    have s5 := Same.of_eq e5 nl4
    replace e5 := new_at e5
    rw [cut_drop] at e5
    refine ⟨l3, l4, _, _, rfl, rfl, s5 _ _ e4, e5, lin (by have := ldx k; rw [List.length_append, List.length_singleton]; omega), ?_⟩
    refine fun l5 nl5 => ?_
    generalize e6 : upd _ l5 _ = G6
    have s6 := Same.of_eq e6 nl5
    replace e6 := new_at e6
    have s06 := (s04.trans s5).trans s6
    refine q l5 _ (ps.take k ++ [(r.1, r.2)] ++ ps.drop k) G6 s06 e6 ?_ (by rw [List.length_append, List.length_append, List.length_singleton]; omega)
    exact tl_app (tl_app ((tl_take k tt).mono s06.tk) (tl_one (s06 _ _ htr))) ((tl_drop _ tt).mono s06.tk)
  refine ⟨_, rfl, rfl, _, rfl, iteE (fun c4 => ?_) fun c4 => ?_⟩
  · walk_at "go"
    refine ⟨a, xs, rfl, SqL.of ha, ?_⟩
    refine fun p np => ?_
    generalize e1 : upd _ p _ = G1
    have s1 := Same.of_eq e1 np
    replace e1 := new_at e1
    rw [cut_take] at e1
    obtain ⟨t, x, y, hx, ht⟩ := one G1 (by omega) s1
    walk_at "go"
    refine ⟨a, _, _, _, rfl, rfl, SqL.of (s1 _ _ ha), hx, ?_⟩
    walk_at "go"
    refine ⟨_, _, _, _, rfl, rfl, SqT.of ht, at1, ?_⟩
    walk_at "go"
    refine ⟨a, _, _, _, rfl, rfl, SqL.of (s1 _ _ ha), hx, ?_⟩
    walk_at "go"
    refine ⟨_, _, _, _, rfl, rfl, SqT.of ht, at0, ?_⟩
    walk_at "go"
    refine fun u nu => ?_
    generalize e2 : upd _ u _ = G2
    have s2 := Same.of_eq e2 nu
    replace e2 := new_at e2
    refine ⟨sz1, ?_⟩
    refine fun l2 nl2 => ?_
    generalize e3 : upd _ l2 _ = G3
    have s3 := Same.of_eq e3 nl2
    replace e3 := new_at e3
    refine ⟨p, l2, _, _, rfl, rfl, s3 _ _ (s2 _ _ e1), e3, lin (by show _ + 1 ≤ _; omega), ?_⟩
    refine fun l3 nl3 => ?_
    generalize e4 : upd _ l3 _ = G4
    have s4 := Same.of_eq e4 nl3
    replace e4 := new_at e4
    have s04 := ((s1.trans s2).trans s3).trans s4
    walk_at "go"
    refine ⟨a, xs, rfl, SqL.of (s04 _ _ ha), ?_⟩
    refine fun l4 nl4 => ?_
    generalize e5 : upd _ l4 _ = G5
    have s5 := Same.of_eq e5 nl4
    replace e5 := new_at e5
    rw [cut_drop] at e5
    refine ⟨l3, l4, _, _, rfl, rfl, s5 _ _ e4, e5, lin (by have := ldx k; rw [List.length_append, List.length_singleton]; omega), ?_⟩
    refine fun l5 nl5 => ?_
    generalize e6 : upd _ l5 _ = G6
    have s6 := Same.of_eq e6 nl5
    replace e6 := new_at e6
    have s06 := (s04.trans s5).trans s6
    refine q l5 _ (ps.take k ++ [(y, x)] ++ ps.drop k) G6 s06 e6 ?_ (by rw [List.length_append, List.length_append, List.length_singleton]; omega)
    exact tl_app (tl_app ((tl_take k tt).mono s06.tk) (tl_one (s6 _ _ (s5 _ _ (s4 _ _ (s3 _ _ e2)))))) ((tl_drop _ tt).mono s06.tk)
  walk_at "go"
  refine fun u1 nu1 => ?_
  generalize e1 : upd _ u1 _ = G1
  have s1 := Same.of_eq e1 nu1
  replace e1 := new_at e1
  walk_at "go"
  refine fun u2 nu2 => ?_
  generalize e2 : upd _ u2 _ = G2
  have s2 := Same.of_eq e2 nu2
  replace e2 := new_at e2
  walk_at "go"
  refine ⟨d, l, n, c / 6, rfl, s2 _ _ (s1 _ _ hd), hn, fun u3 x3 y3 G3 s3 e3 => ?_⟩
  walk_at "go"
  refine fun l1 nl1 => ?_
  generalize e4 : upd _ l1 _ = G4
  have s4 := Same.of_eq e4 nl1
  replace e4 := new_at e4
  walk_at "go"
  have pick : ∃ (t : Addr) (x y : Int), atI [V.ref u1, .ref u2, .ref u3] (w - 4) = some (.ref t) ∧ G4 t = some (.tup [.int x, .int y]) := by
    have : w = 4 ∨ w = 5 ∨ w = 6 := by omega
    rcases this with rfl | rfl | rfl
    · exact ⟨u1, _, _, at_of (j := 0) rfl rfl, s4 _ _ (s3 _ _ (s2 _ _ e1))⟩
    · exact ⟨u2, _, _, at_of (j := 1) rfl rfl, s4 _ _ (s3 _ _ e2)⟩
    · exact ⟨u3, _, _, at_of (j := 2) rfl rfl, s4 _ _ e3⟩
  obtain ⟨t, x, y, hx, ht⟩ := pick
  refine ⟨l1, _, _, _, rfl, rfl, SqL.of e4, hx, ?_⟩
  have s0 := ((s1.trans s2).trans s3).trans s4
  walk_at "go"
  refine ⟨a, xs, rfl, SqL.of (s0 _ _ ha), ?_⟩
  refine fun p np => ?_
  generalize e5 : upd _ p _ = G5
  have s5 := Same.of_eq e5 np
  replace e5 := new_at e5
  rw [cut_take] at e5
  walk_at "go"
  refine ⟨sz1, ?_⟩
  refine fun l2 nl2 => ?_
  generalize e6 : upd _ l2 _ = G6
  have s6 := Same.of_eq e6 nl2
  replace e6 := new_at e6
  refine ⟨p, l2, _, _, rfl, rfl, s6 _ _ e5, e6, lin (by show _ + 1 ≤ _; omega), ?_⟩
  refine fun l3 nl3 => ?_
  generalize e7 : upd _ l3 _ = G7
  have s7 := Same.of_eq e7 nl3
  replace e7 := new_at e7
  have s07 := ((s0.trans s5).trans s6).trans s7
  walk_at "go"
  refine ⟨a, xs, rfl, SqL.of (s07 _ _ ha), ?_⟩
  refine fun l4 nl4 => ?_
  generalize e8 : upd _ l4 _ = G8
  have s8 := Same.of_eq e8 nl4
  replace e8 := new_at e8
  rw [cut_drop] at e8
  refine ⟨l3, l4, _, _, rfl, rfl, s8 _ _ e7, e8, lin (by have := ldx k; rw [List.length_append, List.length_singleton]; omega), ?_⟩
  refine fun l5 nl5 => ?_
  generalize e9 : upd _ l5 _ = G9
  have s9 := Same.of_eq e9 nl5
  replace e9 := new_at e9
  have s09 := (s07.trans s8).trans s9
  refine q l5 _ (ps.take k ++ [(x, y)] ++ ps.drop k) G9 s09 e9 ?_ (by rw [List.length_append, List.length_append, List.length_singleton]; omega)
  exact tl_app (tl_app ((tl_take k tt).mono s09.tk) (tl_one (s9 _ _ (s8 _ _ (s7 _ _ (s6 _ _ (s5 _ _ ht))))))) ((tl_drop _ tt).mono s09.tk)
end Ar
namespace Ar
open PySem PySem.Spec L2
local macro_rules | `(tactic| walk_at "g1") => `(tactic| first
  | refine ⟨_, rfl, ?_⟩
  | refine ⟨_, _, rfl, rfl, ?_⟩
  | refine ⟨(by show (0 : Int) < _; decide), ?_⟩
  | refine ⟨⟨by decide, by decide⟩, ?_⟩
  | refine ⟨(show CMul _ _ from .inl ⟨by omega, by omega⟩), ?_⟩
  | refine ⟨(show CMul _ _ from .inr ⟨by omega, by omega⟩), ?_⟩
  | refine ⟨(show (_ : Int) ≠ 0 by decide), ?_⟩
  | refine ⟨sz2, ?_⟩
  | refine ⟨sz0, ?_⟩
  | refine ⟨sz3, ?_⟩)
local macro_rules | `(tactic| walk_at "ty") => `(tactic| first | exact .int _ | exact .bl _ | exact .tup (by assumption) | exact .lst (by assumption))
local macro_rules | `(tactic| walk_at "isT") => `(tactic| refine ⟨_, _, _, _, true, rfl, .ty _, .base (by walk_at "ty"), kit_ty (by decide +kernel), ?_⟩)
local macro_rules | `(tactic| walk_at "isF") => `(tactic| refine ⟨_, _, _, _, false, rfl, .ty _, .base (by walk_at "ty"), kit_ty (by decide +kernel), ?_⟩)
local macro_rules | `(tactic| walk_at "cell") => `(tactic| ((repeat walk_at "g1"); refine ⟨_, _, _, rfl, (by assumption), (by assumption), (by first | decide | omega), ?_⟩; repeat walk_at "g1"))
local macro_rules | `(tactic| walk_at "go") => `(tactic| repeat walk_at "g1")
def t_forced_by (K : PySem.W.Frag) : TS :=
  (tSeq (tAsg (tVar 2) (gTup K 2 (gCons (gName 3) (gCons (gName 4) gNil)))) (tSeq (tAsg (tLst tNil) (gName 5)) (tSeq (tFor (iRng1 (tCons (tVar 1) tNil)) (gName 6) (Evl.tCut (tIfS (tAnd (tTest (tOp rNe (tVar 6) (tVar 4))) (tAnd (tB (tDIn (tTup (tCons (tVar 3) (tCons (tVar 6) tNil))) (tVar 0))) (tB (tDNotIn (tTup (tCons (tVar 4) (tCons (tVar 6) tNil))) (tVar 0))))) (tDrop (tBM K "list" rAppend (tVar 5) (tCons (tTup (tCons (tVar 3) (tCons (tVar 6) tNil))) tNil))) tNext) (tIfS (tAnd (tTest (tOp rNe (tVar 6) (tVar 3))) (tAnd (tB (tDIn (tTup (tCons (tVar 6) (tCons (tVar 4) tNil))) (tVar 0))) (tB (tDNotIn (tTup (tCons (tVar 6) (tCons (tVar 3) tNil))) (tVar 0))))) (tDrop (tBM K "list" rAppend (tVar 5) (tCons (tTup (tCons (tVar 6) (tCons (tVar 4) tNil))) tNil))) tNext))) (tRet (tCB (rSortD K) (tCons (tVar 5) tNil))))))
def t_forces (K : PySem.W.Frag) : TS :=
  (tSeq (tAsg (tVar 2) (gTup K 2 (gCons (gName 3) (gCons (gName 4) gNil)))) (tSeq (tAsg (tLst tNil) (gName 5)) (tSeq (tFor (iRng1 (tCons (tVar 1) tNil)) (gName 6) (Evl.tCut (tIfS (tAnd (tTest (tOp rNe (tVar 6) (tVar 4))) (tAnd (tB (tDIn (tTup (tCons (tVar 3) (tCons (tVar 6) tNil))) (tVar 0))) (tB (tDNotIn (tTup (tCons (tVar 4) (tCons (tVar 6) tNil))) (tVar 0))))) (tDrop (tBM K "list" rAppend (tVar 5) (tCons (tTup (tCons (tVar 3) (tCons (tVar 6) tNil))) tNil))) tNext) (tIfS (tAnd (tTest (tOp rNe (tVar 6) (tVar 3))) (tAnd (tB (tDIn (tTup (tCons (tVar 6) (tCons (tVar 4) tNil))) (tVar 0))) (tB (tDNotIn (tTup (tCons (tVar 6) (tCons (tVar 3) tNil))) (tVar 0))))) (tDrop (tBM K "list" rAppend (tVar 5) (tCons (tTup (tCons (tVar 6) (tCons (tVar 4) tNil))) tNil))) tNext))) (tRet (tCB (rSortD K) (tCons (tVar 5) tNil))))))
variable {K : PySem.W.Frag} {vs : List V} {H : Hp} {Q : VK} {E : XK}
/-- the arrows found so far, by the points below i -/
def fnd1 (l : List Arr) (a b : Int) (i : Nat) : List Arr := (List.range i).flatMap fun x : Nat => (if (x : Int) ≠ b ∧ (a, (x : Int)) ∈ l ∧ (b, (x : Int)) ∉ l then [(a, (x : Int))] else []) ++ (if (x : Int) ≠ a ∧ ((x : Int), b) ∈ l ∧ ((x : Int), a) ∉ l then [((x : Int), b)] else [])
theorem fnd1_succ (l : List Arr) (a b : Int) (i : Nat) : fnd1 l a b (i + 1) = fnd1 l a b i ++ ((if (i : Int) ≠ b ∧ (a, (i : Int)) ∈ l ∧ (b, (i : Int)) ∉ l then [(a, (i : Int))] else []) ++ (if (i : Int) ≠ a ∧ ((i : Int), b) ∈ l ∧ ((i : Int), a) ∉ l then [((i : Int), b)] else [])) := by
  unfold fnd1
  rw [List.range_succ, List.flatMap_append]
  simp
theorem mem_fnd1 {l : List Arr} {a b : Int} {i : Nat} {q : Arr} : q ∈ fnd1 l a b i ↔ (∃ x : Nat, x < i ∧ (x : Int) ≠ b ∧ (a, (x : Int)) ∈ l ∧ (b, (x : Int)) ∉ l ∧ q = (a, (x : Int))) ∨ ∃ x : Nat, x < i ∧ (x : Int) ≠ a ∧ ((x : Int), b) ∈ l ∧ ((x : Int), a) ∉ l ∧ q = ((x : Int), b) := by
  unfold fnd1
  rw [List.mem_flatMap]
  constructor
  · rintro ⟨x, hx, h⟩
    have hx := List.mem_range.mp hx
    rcases List.mem_append.mp h with h | h
    · split at h
      · rename_i c
        exact .inl ⟨x, hx, c.1, c.2.1, c.2.2, List.mem_singleton.mp h⟩
      · cases h
    · split at h
      · rename_i c
        exact .inr ⟨x, hx, c.1, c.2.1, c.2.2, List.mem_singleton.mp h⟩
      · cases h
  · rintro (⟨x, hx, h1, h2, h3, rfl⟩ | ⟨x, hx, h1, h2, h3, rfl⟩)
    · exact ⟨x, List.mem_range.mpr hx, List.mem_append_left _ (by rw [if_pos ⟨h1, h2, h3⟩]; exact List.mem_singleton.mpr rfl)⟩
    · exact ⟨x, List.mem_range.mpr hx, List.mem_append_right _ (by rw [if_pos ⟨h1, h2, h3⟩]; exact List.mem_singleton.mpr rfl)⟩
theorem nodup_fnd1 (l : List Arr) (a b : Int) : ∀ i, (fnd1 l a b i).Nodup
  | 0 => .nil
  | i + 1 => by
    rw [fnd1_succ]
    refine List.nodup_append.mpr ⟨nodup_fnd1 l a b i, ?_, fun x hx y hy e => ?_⟩
    · refine List.nodup_append.mpr ⟨?_, ?_, fun x hx y hy e => ?_⟩
      · split
        · exact List.pairwise_singleton _ _
        · exact .nil
      · split
        · exact List.pairwise_singleton _ _
        · exact .nil
      · split at hx
        · split at hy
          · rename_i c1 c2
            rw [List.mem_singleton.mp hx, List.mem_singleton.mp hy] at e
            exact c1.1 (congrArg Prod.snd e)
          · cases hy
        · cases hx
    · subst e
      have hx := mem_fnd1.mp hx
      rcases List.mem_append.mp hy with hy | hy
      · split at hy
        · rename_i c
          have := List.mem_singleton.mp hy
          subst this
          rcases hx with ⟨z, hz, h1, h2, h3, h4⟩ | ⟨z, hz, h1, h2, h3, h4⟩
          · have := congrArg Prod.snd h4
            dsimp only at this
            omega
          · exact c.1 (congrArg Prod.snd h4)
        · cases hy
      · split at hy
        · rename_i c
          have := List.mem_singleton.mp hy
          subst this
          rcases hx with ⟨z, hz, h1, h2, h3, h4⟩ | ⟨z, hz, h1, h2, h3, h4⟩
          · exact c.1 (congrArg Prod.fst h4)
          · have := congrArg Prod.fst h4
            dsimp only at this
            omega
        · cases hy
theorem len_fnd1 (l : List Arr) (a b : Int) : ∀ i, (fnd1 l a b i).length ≤ 2 * i
  | 0 => Nat.le_refl _
  | i + 1 => by
    have := len_fnd1 l a b i
    rw [fnd1_succ, List.length_append, List.length_append]
    have h1 : ∀ (c : Prop) [Decidable c] (q : Arr), (if c then [q] else []).length ≤ 1 := fun c _ q => by split <;> simp
    have h2 := h1 ((i : Int) ≠ b ∧ (a, (i : Int)) ∈ l ∧ (b, (i : Int)) ∉ l) (a, (i : Int))
    have h3 := h1 ((i : Int) ≠ a ∧ ((i : Int), b) ∈ l ∧ ((i : Int), a) ∉ l) ((i : Int), b)
    omega
theorem gridP_rising (n : Nat) : Rising ((gridP n).map p2) := by
  unfold gridP
  rw [List.map_flatMap]
  refine List.pairwise_flatMap.mpr ⟨fun i _ => ?_, ?_⟩
  · rw [List.map_map]
    refine List.pairwise_map.mpr (List.pairwise_lt_range.imp fun {x y} h => ?_)
    show ([(i : Int), (x : Int)] : List Int) < [(i : Int), (y : Int)]
    simp only [List.cons_lt_cons_iff]
    exact .inr ⟨trivial, .inl (by omega)⟩
  · refine List.pairwise_lt_range.imp fun {x y} h => ?_
    intro u hu v hv
    simp only [List.map_map, List.mem_map] at hu hv
    obtain ⟨j, _, rfl⟩ := hu
    obtain ⟨k, _, rfl⟩ := hv
    show ([(x : Int), (j : Int)] : List Int) < [(y : Int), (k : Int)]
    simp only [List.cons_lt_cons_iff]
    exact .inl (by omega)
theorem fcs_rising (n : Nat) (l : List Arr) (p : Arr) : Rising ((fcs n l p).map p2) := (gridP_rising n).sublist (List.Sublist.map _ List.filter_sublist)
theorem fnd1_fcs {n : Nat} {l : List Arr} (g : GoodL n l) (a b : Int) (q : Arr) : q ∈ fnd1 l a b n ↔ q ∈ fcs n l (a, b) := by
  rw [mem_fnd1, mem_fcs g]
  obtain ⟨x, y⟩ := q
  constructor
  · rintro (⟨z, hz, h1, h2, h3, h4⟩ | ⟨z, hz, h1, h2, h3, h4⟩)
    · cases h4
      exact .inl ⟨rfl, h1, h2, h3⟩
    · cases h4
      exact .inr ⟨rfl, h1, h2, h3⟩
  · rintro (⟨h1, h2, h3, h4⟩ | ⟨h1, h2, h3, h4⟩)
    · dsimp only at h1 h2 h3 h4
      obtain ⟨r1, r2, r3⟩ := g.rng _ _ (g.sym _ _ h3)
      refine .inl ⟨y.toNat, by omega, ?_⟩
      rw [Int.toNat_of_nonneg r1]
      exact ⟨h2, h3, h4, by rw [h1]⟩
    · dsimp only at h1 h2 h3 h4
      obtain ⟨r1, r2, r3⟩ := g.rng _ _ h3
      refine .inr ⟨x.toNat, by omega, ?_⟩
      rw [Int.toNat_of_nonneg r1]
      exact ⟨h2, h3, h4, by rw [h1]⟩
theorem len_forced_by (h : sp_forced_by K vs H Q E) : vs.length = 3 := by
  obtain ⟨d, l, n, t, a, b, rfl, _⟩ := h
  rfl
theorem pure_forced_by (h : sp_forced_by K vs H Q E) : t_forced_by K (ends Q) (st 7 vs) H := by
  obtain ⟨d, l, n, t, a, b, rfl, hd, g, hn, ht, q⟩ := h
  walk_at "go"
  refine ⟨_, _, rfl, SqT.of ht, rfl, _, _, rfl, _, _, rfl, rfl, ?_⟩
  walk_at "go"
  refine fun fl nfl => ?_
  generalize e1 : upd _ fl _ = H1
  have s1 := Same.of_eq e1 nfl
  replace e1 := new_at e1
  walk_at "go"
  have hn2 : ((n : Int)).toNat = n := by omega
  refine ⟨by omega, by omega, for_n (n := ((n : Int)).toNat) (fun i σ G => ∃ (o6 : Option V) (xs : List V), σ = [some (.ref d), some (.int n), some (.ref t), some (.int a), some (.int b), some (.ref fl), o6] ∧ Same H G ∧ G fl = some (.lst xs) ∧ TL G xs ((fnd1 l a b i).map p2))
    ⟨_, [], rfl, s1, e1, .nil⟩ ?_ ?_⟩
  · rintro i σ G hi ⟨o6, xs, rfl, s0, hf, tf⟩
    have lx : xs.length ≤ 48 := by
      rw [paired_len tf, List.length_map]
      have := len_fnd1 l a b i
      omega
    refine ⟨fun σ G' => ∃ (xs : List V), σ = [some (.ref d), some (.int n), some (.ref t), some (.int a), some (.int b), some (.ref fl), some (.int i)] ∧ Same H G' ∧ G' fl = some (.lst xs) ∧ TL G' xs ((fnd1 l a b i ++ (if (i : Int) ≠ b ∧ (a, (i : Int)) ∈ l ∧ (b, (i : Int)) ∉ l then [(a, (i : Int))] else [])).map p2) ∧ xs.length ≤ 49, ?_, ?_⟩
    · have no : ∀ G', Same G G' → ¬ ((i : Int) ≠ b ∧ (a, (i : Int)) ∈ l ∧ (b, (i : Int)) ∉ l) → ∃ (xs : List V), [some (V.ref d), some (.int n), some (.ref t), some (.int a), some (.int b), some (.ref fl), some (.int i)] = [some (.ref d), some (.int n), some (.ref t), some (.int a), some (.int b), some (.ref fl), some (.int i)] ∧ Same H G' ∧ G' fl = some (.lst xs) ∧ TL G' xs ((fnd1 l a b i ++ (if (i : Int) ≠ b ∧ (a, (i : Int)) ∈ l ∧ (b, (i : Int)) ∉ l then [(a, (i : Int))] else [])).map p2) ∧ xs.length ≤ 49 := fun G' s c => by
        rw [if_neg c, List.append_nil]
        exact ⟨xs, rfl, s0.trans s, s _ _ hf, tf.mono s.tk, by omega⟩
      walk_at "go"
      refine ⟨rfl, _, rfl, iteEn (fun c1 => ?_) fun c1 => no _ (Same.refl _) fun z => z.1 c1⟩
      walk_at "go"
      refine fun u nu => ?_
      generalize e2 : upd _ u _ = G1
      have s2 := Same.of_eq e2 nu
      replace e2 := new_at e2
      refine ⟨_, rfl, _, _, rfl, DGet.t (k := kp (a, (i : Int))) (s2 _ _ (s0 _ _ hd)) e2, ?_⟩
      walk_at "go"
      rw [some_hk]
      refine iteD (fun c2 => ?_) fun c2 => no _ s2 fun z => c2 z.2.1
      walk_at "go"
      refine fun uu nuu => ?_
      generalize e3 : upd _ uu _ = G2
      have s3 := Same.of_eq e3 nuu
      replace e3 := new_at e3
      have s23 := s2.trans s3
      refine ⟨_, rfl, _, _, rfl, DGet.t (k := kp (b, (i : Int))) (s23 _ _ (s0 _ _ hd)) e3, ?_⟩
      walk_at "go"
      rw [some_hk]
      refine iteDn (fun c3 => ?_) fun c3 => no _ s23 fun z => z.2.2 c3
      have hf2 := s23 _ _ hf
      walk_at "go"
      refine ⟨.inl ⟨rfl, _, SqL.of hf2⟩, ?_⟩
      walk_at "go"
      refine fun w nw => ?_
      generalize e4 : upd _ w _ = G3
      have s4 := Same.of_eq e4 nw
      replace e4 := new_at e4
      have hf3 := s4 _ _ hf2
      refine ⟨fl, _, _, rfl, rfl, hf3, lin' (by omega), ?_⟩
      have tkf : TK G3 (upd G3 fl (.lst (xs ++ [V.ref w]))) := TK.upd fun zs z => by rw [hf3] at z; cases z
      rw [if_pos ⟨c1, c2, c3⟩]
      exact ⟨_, rfl, (s0.trans (s23.trans s4)).mut nfl, upd_same, tl_app (tf.mono ((s23.trans s4).tk.trans tkf)) (tl_one (tkf _ _ e4)), by rw [List.length_append, List.length_singleton]; omega⟩
    rintro σ G1 ⟨ys, rfl, s5, hf5, tf5, ly⟩
    have no : ∀ G', Same G1 G' → ¬ ((i : Int) ≠ a ∧ ((i : Int), b) ∈ l ∧ ((i : Int), a) ∉ l) → ∃ (o6 : Option V) (xs : List V), [some (V.ref d), some (.int n), some (.ref t), some (.int a), some (.int b), some (.ref fl), some (.int i)] = [some (.ref d), some (.int n), some (.ref t), some (.int a), some (.int b), some (.ref fl), o6] ∧ Same H G' ∧ G' fl = some (.lst xs) ∧ TL G' xs ((fnd1 l a b (i + 1)).map p2) := fun G' s c => by
      rw [fnd1_succ, ← List.append_assoc, if_neg c, List.append_nil]
      exact ⟨_, ys, rfl, s5.trans s, s _ _ hf5, tf5.mono s.tk⟩
    walk_at "go"
    refine ⟨rfl, _, rfl, iteEn (fun c1 => ?_) fun c1 => no _ (Same.refl _) fun z => z.1 c1⟩
    walk_at "go"
    refine fun u nu => ?_
    generalize e6 : upd _ u _ = G2
    have s6 := Same.of_eq e6 nu
    replace e6 := new_at e6
    refine ⟨_, rfl, _, _, rfl, DGet.t (k := kp ((i : Int), b)) (s6 _ _ (s5 _ _ hd)) e6, ?_⟩
    walk_at "go"
    rw [some_hk]
    refine iteD (fun c2 => ?_) fun c2 => no _ s6 fun z => c2 z.2.1
    walk_at "go"
    refine fun uu nuu => ?_
    generalize e7 : upd _ uu _ = G3
    have s7 := Same.of_eq e7 nuu
    replace e7 := new_at e7
    have s67 := s6.trans s7
    refine ⟨_, rfl, _, _, rfl, DGet.t (k := kp ((i : Int), a)) (s67 _ _ (s5 _ _ hd)) e7, ?_⟩
    walk_at "go"
    rw [some_hk]
    refine iteDn (fun c3 => ?_) fun c3 => no _ s67 fun z => z.2.2 c3
    have hf2 := s67 _ _ hf5
    walk_at "go"
    refine ⟨.inl ⟨rfl, _, SqL.of hf2⟩, ?_⟩
    walk_at "go"
    refine fun w nw => ?_
    generalize e8 : upd _ w _ = G4
    have s8 := Same.of_eq e8 nw
    replace e8 := new_at e8
    have hf3 := s8 _ _ hf2
    refine ⟨fl, _, _, rfl, rfl, hf3, lin' (by omega), ?_⟩
    have tkf : TK G4 (upd G4 fl (.lst (ys ++ [V.ref w]))) := TK.upd fun zs z => by rw [hf3] at z; cases z
    refine ⟨_, _, rfl, (s5.trans (s67.trans s8)).mut nfl, upd_same, ?_⟩
    rw [fnd1_succ, ← List.append_assoc, if_pos (c := (i : Int) ≠ a ∧ ((i : Int), b) ∈ l ∧ ((i : Int), a) ∉ l) ⟨c1, c2, c3⟩]
    exact tl_app (tf5.mono ((s67.trans s8).tk.trans tkf)) (tl_one (tkf _ _ e8))
  · rintro σ G ⟨o6, xs, rfl, s0, hf, tf⟩
    rw [hn2] at tf
    walk_at "go"
    refine ⟨fl, _, _, rfl, SqL.of hf, tf, fun ns hm => ?_, fun zs ms r tz pm pw nr => ?_⟩
    · obtain ⟨q, _, rfl⟩ := List.mem_map.mp hm
      exact fun z => nomatch z
    · obtain ⟨qs, rfl, pq⟩ := perm_p2 pm
      generalize e4 : upd _ r _ = G3
      have s4 := Same.of_eq e4 nr
      replace e4 := new_at e4
      have r0 := rising_sorted pm pw (nodup_mapOn' (nodup_fnd1 l a b n) fun a _ b _ e => p2_inj e)
      have e : qs.map p2 = (fcs n l (a, b)).map p2 := rising_same r0 (fcs_rising n l (a, b)) fun x => by
        simp only [List.mem_map]
        constructor
        · rintro ⟨y, hy, rfl⟩
          exact ⟨y, (fnd1_fcs g a b y).mp (pq.mem_iff.mp hy), rfl⟩
        · rintro ⟨y, hy, rfl⟩
          exact ⟨y, pq.mem_iff.mpr ((fnd1_fcs g a b y).mpr hy), rfl⟩
      rw [e] at tz
      exact q r G3 zs (s0.free nr) (s0.trans s4) e4 (tz.mono s4.tk)
theorem len_forces (h : sp_forces K vs H Q E) : vs.length = 3 := len_forced_by h
theorem pure_forces (h : sp_forces K vs H Q E) : t_forces K (ends Q) (st 7 vs) H := pure_forced_by h
end Ar
namespace Ar
open PySem PySem.Spec L2
local macro_rules | `(tactic| walk_at "g1") => `(tactic| first
  | refine ⟨_, rfl, ?_⟩
  | refine ⟨_, _, rfl, rfl, ?_⟩
  | refine ⟨(by show (0 : Int) < _; decide), ?_⟩
  | refine ⟨⟨by decide, by decide⟩, ?_⟩
  | refine ⟨(show CMul _ _ from .inl ⟨by omega, by omega⟩), ?_⟩
  | refine ⟨(show CMul _ _ from .inr ⟨by omega, by omega⟩), ?_⟩
  | refine ⟨(show (_ : Int) ≠ 0 by decide), ?_⟩
  | refine ⟨sz2, ?_⟩
  | refine ⟨sz0, ?_⟩
  | refine ⟨sz3, ?_⟩)
local macro_rules | `(tactic| walk_at "ty") => `(tactic| first | exact .int _ | exact .bl _ | exact .tup (by assumption) | exact .lst (by assumption))
local macro_rules | `(tactic| walk_at "isT") => `(tactic| refine ⟨_, _, _, _, true, rfl, .ty _, .base (by walk_at "ty"), kit_ty (by decide +kernel), ?_⟩)
local macro_rules | `(tactic| walk_at "isF") => `(tactic| refine ⟨_, _, _, _, false, rfl, .ty _, .base (by walk_at "ty"), kit_ty (by decide +kernel), ?_⟩)
local macro_rules | `(tactic| walk_at "cell") => `(tactic| ((repeat walk_at "g1"); refine ⟨_, _, _, rfl, (by assumption), (by assumption), (by first | decide | omega), ?_⟩; repeat walk_at "g1"))
local macro_rules | `(tactic| walk_at "go") => `(tactic| repeat walk_at "g1")
def t_led_by (K : PySem.W.Frag) : TS :=
  (tSeq (tAsg (tDisp1 (tVar 2) (tC .non)) (gName 3)) (tSeq (tAsg (tLst (tCons (tVar 2) tNil)) (gName 4)) (tSeq (tFor (iRng1 (tCons (tCB rLenT (tCons (tVar 0) tNil)) tNil)) (gName 5) (tIfS (tTest (tOp oLt (tVar 5) (tCB (cLen K) (tCons (tVar 4) tNil)))) (tFor (iList K (tCall (sp_forced_by K) [] E0 (tCons (tVar 0) (tCons (tVar 1) (tCons (tOp (rIxL K) (tVar 4) (tVar 5)) tNil))))) (gName 6) (tIfS (tB (tDNotIn (tVar 6) (tVar 3))) (tSeq (sDPut (tVar 3) (tVar 6) (tOp (rIxL K) (tVar 4) (tVar 5))) (tDrop (tBM K "list" rAppend (tVar 4) (tCons (tVar 6) tNil)))) tNext)) tNext)) (tRet (tVar 3)))))
def t_row_to (K : PySem.W.Frag) : TS :=
  (tSeq (tAsg (tLst tNil) (gName 2)) (tSeq (tWhile (tB (tNotN (tVar 1))) (tSeq (tDrop (tBM K "list" rAppend (tVar 2) (tCons (tVar 1) tNil))) (tAsg (tDGet (tVar 0) (tVar 1)) (gName 1)))) (tSeq (tDrop (tBM0 K "list" rReverse (tVar 2))) (tRet (tVar 2)))))
variable {K : PySem.W.Frag} {vs : List V} {H : Hp} {Q : VK} {E : XK}
theorem parV.mono {H H' : Hp} (k : TK H H') {v : V} {o : Option Arr} (h : parV H v o) : parV H' v o := by
  cases o with
  | none => exact h
  | some p => exact TI.mono k h
theorem CameAt.mono {H H' : Hp} (k : TK H H') {kvs : List (List Key × V)} {cs : Cm} (h : CameAt H kvs cs) : CameAt H' kvs cs := paired_mono (fun _ _ q => ⟨q.1, q.2.mono k⟩) h
theorem CameAt.val {H : Hp} {kvs : List (List Key × V)} {cs : Cm} (h : CameAt H kvs cs) (q : Arr) : (valV kvs (kp q)).isSome = decide (q ∈ ks cs) := by
  unfold CameAt at h
  induction h with
  | nil => rfl
  | @cons kv c kvs cs h t ih =>
    by_cases e : c.1 = q
    · show _ = decide (q ∈ c.1 :: ks cs)
      rw [valV_pos (by rw [h.1, e]), decide_eq_true (by rw [e]; exact List.mem_cons_self)] <;> rfl
    · show _ = decide (q ∈ c.1 :: ks cs)
      rw [valV_neg (fun z => e (kp_inj (h.1.symm.trans z))), ih]
      by_cases m : q ∈ ks cs
      · rw [decide_eq_true m, decide_eq_true (List.mem_cons_of_mem _ m)]
      · rw [decide_eq_false m, decide_eq_false (fun z => (List.mem_cons.mp z).elim (fun z => e z.symm) m)]
theorem CameAt.get {H : Hp} {kvs : List (List Key × V)} {cs : Cm} (h : CameAt H kvs cs) (nd : (ks cs).Nodup) {q : Arr} {o : Option Arr} (m : (q, o) ∈ cs) : ∃ v, valV kvs (kp q) = some v ∧ parV H v o := by
  unfold CameAt at h
  induction h with
  | nil => cases m
  | @cons kv c kvs cs h t ih =>
    obtain ⟨n1, n2⟩ := List.nodup_cons.mp nd
    rcases List.mem_cons.mp m with e | m
    · subst e
      exact ⟨kv.2, valV_pos h.1, h.2⟩
    · obtain ⟨v, h1, h2⟩ := ih n2 m
      refine ⟨v, ?_, h2⟩
      rw [valV_neg (fun z => ?_)]
      · exact h1
      · have e : c.1 = q := kp_inj (h.1.symm.trans z)
        exact n1 (List.mem_map.mpr ⟨_, m, e.symm⟩)
theorem CameAt.put {H : Hp} {kvs : List (List Key × V)} {cs : Cm} (h : CameAt H kvs cs) {q : Arr} {w : Arr} {v : V} (hv : TI H v (p2 w)) (n : q ∉ ks cs) : CameAt H (putK kvs (kp q) v) (cs ++ [(q, some w)]) := by
  have : valV kvs (kp q) = none := by
    have := h.val q
    rw [decide_eq_false n] at this
    cases e : valV kvs (kp q) with
    | none => rfl
    | some x => rw [e] at this; cases this
  rw [putK_new v this]
  exact paired_app h (.cons ⟨rfl, hv⟩ .nil)
theorem ks_snoc (cs : Cm) (q : Arr) (o : Option Arr) : ks (cs ++ [(q, o)]) = ks cs ++ [q] := by simp
theorem paired_reverse {α β : Type} {F : α → β → Prop} : ∀ {l : List α} {m : List β}, Paired F l m → Paired F l.reverse m.reverse
  | _, _, .nil => .nil
  | _, _, .cons h t => by
    rw [List.reverse_cons, List.reverse_cons]
    exact paired_app (paired_reverse t) (.cons h .nil)
theorem take_foldl {w : Arr} {L : List Arr} {cs : Cm} {j : Nat} {q : Arr} (e : L[j]? = some q) : (L.take (j + 1)).foldl (stepC w) cs = stepC w ((L.take j).foldl (stepC w) cs) q := by
  rw [take_snoc e, List.foldl_append] <;> rfl
theorem len_led_by (h : sp_led_by K vs H Q E) : vs.length = 3 := by
  obtain ⟨d, l, n, t, a, b, rfl, _⟩ := h
  rfl
theorem pure_led_by (h : sp_led_by K vs H Q E) : t_led_by K (ends Q) (st 7 vs) H := by
  obtain ⟨d, l, n, t, a, b, rfl, hd, g, hn, ht, hp, q⟩ := h
  have fl := g.few hn
  refine fun c nc => ?_
  generalize hc : upd H c (.dT []) = H0
  have s0 := Same.of_eq hc nc
  replace hc := new_at hc
  refine ⟨_, rfl, hc, t, kp (a, b), rfl, s0 _ _ ht, ?_⟩
  generalize hc1 : upd H0 c (.dT [(kp (a, b), .non)]) = H1
  have s1 : Same H H1 := by rw [← hc1]; exact s0.mut nc
  replace hc1 : H1 c = some (.dT [(kp (a, b), .non)]) := by rw [← hc1]; exact upd_same
  walk_at "go"
  refine ⟨sz1, ?_⟩
  refine fun wl nwl => ?_
  generalize e2 : upd _ wl _ = H2
  have s2 := Same.of_eq e2 nwl
  replace e2 := new_at e2
  walk_at "go"
  have nwl0 : H wl = none := s1.free nwl
  have ncw : c ≠ wl := ne_of_none hc1 nwl
  refine ⟨_, _, rfl, s2 _ _ (s1 _ _ hd), ?_⟩
  have ehk : (hk l).length = l.length := by simp [hk]
  rw [ehk]
  walk_at "go"
  refine ⟨by omega, by omega, for_n (n := ((l.length : Int)).toNat) (fun i σ G => ∃ (o5 o6 : Option V) (kvs : List (List Key × V)) (ws : List V), σ = [some (.ref d), some (.int n), some (.ref t), some (.ref c), some (.ref wl), o5, o6] ∧ Same H G ∧ G c = some (.dT kvs) ∧ CameAt G kvs (ledK (fcs n l) i (a, b)) ∧ G wl = some (.lst ws) ∧ TL G ws ((ks (ledK (fcs n l) i (a, b))).map p2))
    ⟨_, _, _, _, rfl, s1.trans s2, s2 _ _ hc1, .cons ⟨rfl, rfl⟩ .nil, e2, tl_one (s2 _ _ (s1 _ _ ht))⟩ ?_ ?_⟩
  · rintro i σ G hi ⟨o5, o6, kvs, ws, rfl, s3, hcG, cam, hw, tw⟩
    have Bi := Bf.led (fcs n l) (a, b) i
    have fi := Bi.few g hp
    have lw : ws.length = (ledK (fcs n l) i (a, b)).length := by rw [paired_len tw]; simp
    walk_at "go"
    refine ⟨_, _, rfl, .inl (SqL.of hw), ?_⟩
    walk_at "go"
    rw [lw]
    refine iteD (fun c1 => ?_) fun c1 => ?_
    rotate_left
    · rw [ledK_succ, turn_none (List.getElem?_eq_none (by rw [List.length_map]; omega))]
      exact ⟨_, _, kvs, ws, rfl, s3, hcG, cam, hw, tw⟩
    have hi2 : i < (ledK (fcs n l) i (a, b)).length := by omega
    obtain ⟨w, hwi⟩ : ∃ w, (ks (ledK (fcs n l) i (a, b)))[i]? = some w := ⟨(ks (ledK (fcs n l) i (a, b)))[i]'(by rw [List.length_map]; exact hi2), by simp [hi2]⟩
    obtain ⟨vw, hvw, tv⟩ := paired_get2 tw (i := i) (b := p2 w) (by rw [List.getElem?_map, hwi]; rfl)
    obtain ⟨u, rfl, hu⟩ := tv
    have hwl : w ∈ l := Bi.sub g hp w (mem_of_get hwi)
    rw [ledK_succ, turn_some hwi]
    generalize eC : ledK (fcs n l) i (a, b) = cs at *
    walk_at "go"
    refine ⟨wl, _, _, _, rfl, rfl, SqL.of hw, at_of (j := i) rfl hvw, ?_⟩
    refine ⟨d, l, n, u, w.1, w.2, rfl, s3 _ _ hd, g, hn, hu, fun fa G1 ys nfa s4 hfa tf => ?_⟩
    have nfc : fa ≠ c := fun z => by rw [z, hcG] at nfa; cases nfa
    have nfw : fa ≠ wl := fun z => by rw [z, hw] at nfa; cases nfa
    have tf : TL G1 ys ((fcs n l w).map p2) := tf
    have ly : ys.length = (fcs n l w).length := by rw [paired_len tf]; simp
    have hu1 := s4 _ _ hu
    have nuc : u ≠ c := fun z => by rw [z, hcG] at hu; cases hu
    have nuw : u ≠ wl := fun z => by rw [z, hw] at hu; cases hu
    refine ⟨fa, rfl, ⟨_, SqL.of hfa⟩, for_list (K := K) (a := fa) (xs := ys) (fun j σ G2 => ∃ (o6 : Option V) (kvs : List (List Key × V)) (ws : List V), σ = [some (.ref d), some (.int n), some (.ref t), some (.ref c), some (.ref wl), some (.int i), o6] ∧ (∀ b o, b ≠ c → b ≠ wl → G1 b = some o → G2 b = some o) ∧
      G2 c = some (.dT kvs) ∧ CameAt G2 kvs (((fcs n l w).take j).foldl (stepC w) cs) ∧ G2 wl = some (.lst ws) ∧ TL G2 ws ((ks (((fcs n l w).take j).foldl (stepC w) cs)).map p2) ∧ ws[i]? = some (.ref u))
      ⟨_, kvs, ws, rfl, fun _ _ _ _ e => e, s4 _ _ hcG, cam.mono s4.tk, s4 _ _ hw, tw.mono s4.tk, hvw⟩ (fun j σ G2 _ ⟨_, _, _, _, s, _⟩ => SqL.of (s _ _ nfc nfw hfa)) ?_ ?_⟩
    · rintro j x σ G2 hx ⟨o6, kvs2, ws2, rfl, s5, hc2, cam2, hw2, tw2, hi5⟩
      obtain ⟨r, hr, tr, rfl, htr⟩ := TLp.at tf hx
      rw [take_foldl hr]
      have B2 : Bf (fcs n l) (a, b) (((fcs n l w).take j).foldl (stepC w) cs) := Bi.fold (mem_of_get hwi) fun q hq => List.mem_of_mem_take hq
      have f2 := B2.few g hp
      generalize eD : ((fcs n l w).take j).foldl (stepC w) cs = ds at *
      have lk : kvs2.length = ds.length := paired_len cam2
      have lw2 : ws2.length = ds.length := by rw [paired_len tw2]; simp
      have nrc : tr ≠ c := fun z => by rw [z] at htr; rw [s4 _ _ hcG] at htr; cases htr
      have nrw : tr ≠ wl := fun z => by rw [z] at htr; rw [s4 _ _ hw] at htr; cases htr
      have htr2 := s5 _ _ nrc nrw htr
      walk_at "go"
      refine ⟨_, _, rfl, DGet.t (k := kp r) hc2 htr2, ?_⟩
      walk_at "go"
      rw [cam2.val]
      unfold stepC
      refine iteDn (fun c2 => ?_) fun c2 => ?_
      · rw [if_neg c2]
        walk_at "go"
        refine ⟨wl, _, _, _, rfl, rfl, SqL.of hw2, at_of (j := i) rfl hi5, ?_⟩
        walk_at "go"
        refine ⟨_, _, rfl, DPut.t (k := kp r) hc2 htr2 (lin' (by omega)), ?_⟩
        generalize hc3 : upd G2 c (.dT (putK kvs2 (kp r) (V.ref u))) = G3
        have tk3 : TK G2 G3 := by rw [← hc3]; exact TK.upd fun zs z => by rw [hc2] at z; cases z
        have hw3 : G3 wl = some (.lst ws2) := by rw [← hc3, upd_ne ncw.symm]; exact hw2
        walk_at "go"
        refine ⟨.inl ⟨rfl, _, SqL.of hw3⟩, ?_⟩
        walk_at "go"
        refine ⟨wl, _, _, rfl, rfl, hw3, lin' (by omega), ?_⟩
        have tk4 : TK G3 (upd G3 wl (.lst (ws2 ++ [V.ref tr]))) := TK.upd fun zs z => by rw [hw3] at z; cases z
        have hu2 := s5 _ _ nuc nuw hu1
        refine ⟨_, _, _, rfl, fun x o h1 h2 e => ?_, ?_, CameAt.put (cam2.mono (tk3.trans tk4)) ⟨u, rfl, (tk3.trans tk4) _ _ hu2⟩ c2, upd_same, ?_, ?_⟩
        · rw [upd_ne h2, ← hc3, upd_ne h1]
          exact s5 _ _ h1 h2 e
        · rw [upd_ne ncw, ← hc3, upd_same]
        · rw [ks_snoc]
          exact tl_app (tw2.mono (tk3.trans tk4)) (tl_one ((tk3.trans tk4) _ _ htr2))
        · rw [List.getElem?_append_left (lt_of_get hi5)]
          exact hi5
      · rw [if_pos c2]
        exact ⟨_, kvs2, ws2, rfl, s5, hc2, cam2, hw2, tw2, hi5⟩
    · rintro σ G2 ⟨o6, kvs2, ws2, rfl, s5, hc2, cam2, hw2, tw2, hi5⟩
      rw [ly, List.take_length] at cam2 tw2
      exact ⟨_, _, kvs2, ws2, rfl, fun x o e => s5 _ _ (ne_of_none e nc) (ne_of_none e nwl0) (s4 _ _ (s3 _ _ e)), hc2, cam2, hw2, tw2⟩
  · rintro σ G ⟨o5, o6, kvs, ws, rfl, s3, hcG, cam, hw, tw⟩
    have : ((l.length : Int)).toNat = l.length := by omega
    rw [this] at cam
    walk_at "go"
    exact q c G kvs nc s3 hcG cam
theorem len_row_to (h : sp_row_to K vs H Q E) : vs.length = 2 := by
  obtain ⟨c, kvs, cs, t, q, row, rfl, _⟩ := h
  rfl
theorem pure_row_to (h : sp_row_to K vs H Q E) : t_row_to K (ends Q) (st 3 vs) H := by
  obtain ⟨c, kvs, cs, t, q, row, rfl, hc, cam, nd, ht, pt, lr, fin⟩ := h
  walk_at "go"
  refine fun rl nrl => ?_
  generalize e1 : upd _ rl _ = H1
  have s1 := Same.of_eq e1 nrl
  replace e1 := new_at e1
  have ncl : c ≠ rl := ne_of_none hc nrl
  refine ⟨fun m σ G => ∃ (v : V) (xs : List V) (acc : List Arr), σ = [some (.ref c), some v, some (.ref rl)] ∧ Same H G ∧ G rl = some (.lst xs) ∧ TL G xs (acc.map p2) ∧
    ((v = .non ∧ m = 0 ∧ row = acc.reverse) ∨ ∃ (q : Arr) (r : List Arr), TI G v (p2 q) ∧ PathTo cs q r ∧ m = r.length ∧ row = r ++ acc.reverse),
    ⟨row.length, _, [], [], rfl, s1, e1, .nil, .inr ⟨q, row, ⟨t, rfl, s1 _ _ ht⟩, pt, rfl, by simp⟩⟩, ?_⟩
  rintro m σ G ⟨v, xs, acc, rfl, s0, hl, tl, h⟩
  have lx : xs.length = acc.length := by rw [paired_len tl]; simp
  walk_at "go"
  rcases h with ⟨rfl, rfl, er⟩ | ⟨q, r, ⟨u, rfl, hu⟩, pq, rfl, er⟩
  · walk_at "go"
    refine ⟨.inl ⟨rfl, _, SqL.of hl⟩, rl, _, rfl, rfl, hl, ?_⟩
    refine ⟨_, rfl, ?_⟩
    have tk : TK G (upd G rl (.lst xs.reverse)) := TK.upd fun zs z => by rw [hl] at z; cases z
    refine fin rl _ xs.reverse nrl (s0.mut nrl) upd_same ?_
    rw [er, List.map_reverse]
    exact TL.mono tk (paired_reverse tl)
  · have la : acc.length ≤ 1000 := by
      have := congrArg List.length er
      rw [List.length_append, List.length_reverse] at this
      omega
    walk_at "go"
    refine ⟨fun σ G => ∃ m', m' < r.length ∧ ∃ (v : V) (xs : List V) (acc : List Arr), σ = [some (.ref c), some v, some (.ref rl)] ∧ Same H G ∧ G rl = some (.lst xs) ∧ TL G xs (acc.map p2) ∧
      ((v = .non ∧ m' = 0 ∧ row = acc.reverse) ∨ ∃ (q : Arr) (r : List Arr), TI G v (p2 q) ∧ PathTo cs q r ∧ m' = r.length ∧ row = r ++ acc.reverse), fun σ' H' h => h, ?_⟩
    walk_at "go"
    refine ⟨.inl ⟨rfl, _, SqL.of hl⟩, ?_⟩
    walk_at "go"
    refine ⟨rl, _, _, rfl, rfl, hl, lin' (by omega), ?_⟩
    generalize hl2 : upd G rl (.lst (xs ++ [V.ref u])) = G2
    have tk : TK G G2 := by rw [← hl2]; exact TK.upd fun zs z => by rw [hl] at z; cases z
    have s2 : Same H G2 := by rw [← hl2]; exact s0.mut nrl
    replace hl2 : G2 rl = some (.lst (xs ++ [V.ref u])) := by rw [← hl2]; exact upd_same
    have tl2 : TL G2 (xs ++ [V.ref u]) ((acc ++ [q]).map p2) := tl_app (tl.mono tk) (tl_one (tk _ _ hu))
    walk_at "go"
    cases pq with
    | root hm =>
      obtain ⟨v, hv, pv⟩ := (cam.mono s2.tk).get nd hm
      have hg := DGet.t (k := kp q) (s2 _ _ hc) (tk _ _ hu)
      rw [hv] at hg
      cases (show v = .non from pv)
      refine ⟨c, _, rfl, hg, ?_⟩
      exact ⟨0, Nat.one_pos, _, _, _, rfl, s2, hl2, tl2, .inl ⟨rfl, rfl, by rw [er, List.reverse_append]; rfl⟩⟩
    | @next _ w r' hm pt' =>
      obtain ⟨v, hv, pv⟩ := (cam.mono s2.tk).get nd hm
      have hg := DGet.t (k := kp q) (s2 _ _ hc) (tk _ _ hu)
      rw [hv] at hg
      refine ⟨c, _, rfl, hg, ?_⟩
      exact ⟨r'.length, by rw [List.length_append]; exact Nat.lt_succ_self _, _, _, _, rfl, s2, hl2, tl2, .inr ⟨w, r', pv, pt', rfl, by rw [er, List.reverse_append]; simp⟩⟩
end Ar
namespace Ar
open PySem PySem.Spec L2
local macro_rules | `(tactic| walk_at "g1") => `(tactic| first
  | refine ⟨_, rfl, ?_⟩
  | refine ⟨_, _, rfl, rfl, ?_⟩
  | refine ⟨(by show (0 : Int) < _; decide), ?_⟩
  | refine ⟨⟨by decide, by decide⟩, ?_⟩
  | refine ⟨(show CMul _ _ from .inl ⟨by omega, by omega⟩), ?_⟩
  | refine ⟨(show CMul _ _ from .inr ⟨by omega, by omega⟩), ?_⟩
  | refine ⟨(show (_ : Int) ≠ 0 by decide), ?_⟩
  | refine ⟨sz2, ?_⟩
  | refine ⟨sz0, ?_⟩
  | refine ⟨sz3, ?_⟩)
local macro_rules | `(tactic| walk_at "ty") => `(tactic| first | exact .int _ | exact .bl _ | exact .tup (by assumption) | exact .lst (by assumption))
local macro_rules | `(tactic| walk_at "isT") => `(tactic| refine ⟨_, _, _, _, true, rfl, .ty _, .base (by walk_at "ty"), kit_ty (by decide +kernel), ?_⟩)
local macro_rules | `(tactic| walk_at "isF") => `(tactic| refine ⟨_, _, _, _, false, rfl, .ty _, .base (by walk_at "ty"), kit_ty (by decide +kernel), ?_⟩)
local macro_rules | `(tactic| walk_at "cell") => `(tactic| ((repeat walk_at "g1"); refine ⟨_, _, _, rfl, (by assumption), (by assumption), (by first | decide | omega), ?_⟩; repeat walk_at "g1"))
local macro_rules | `(tactic| walk_at "go") => `(tactic| repeat walk_at "g1")
def t_clash_of (K : PySem.W.Frag) : TS :=
  (tSeq (tAsg tDNewT (gName 2)) (tSeq (tFor (iList K (tCB cListT (tCons (tVar 0) tNil))) (gName 3) (tIfS (tB (tDNotIn (tVar 3) (tVar 2))) (tSeq (tAsg (tCall (sp_led_by K) [] E0 (tCons (tVar 0) (tCons (tVar 1) (tCons (tVar 3) tNil)))) (gName 4)) (tSeq (tIfS (tB (tDIn (tTup (tCons (tOp (rIxT K) (tVar 3) (tC (.int 1))) (tCons (tOp (rIxT K) (tVar 3) (tC (.int 0))) tNil))) (tVar 4))) (tRet (tCall (sp_row_to K) [] E0 (tCons (tVar 4) (tCons (tTup (tCons (tOp (rIxT K) (tVar 3) (tC (.int 1))) (tCons (tOp (rIxT K) (tVar 3) (tC (.int 0))) tNil))) tNil)))) tNext) (tDrop (tBM K "dict" rUpdT (tVar 2) (tCons (tVar 4) tNil))))) tNext)) (tRet (tC .non))))
def t_turned (K : PySem.W.Frag) : TS :=
  (tSeq (tAsg (tCall (sp_clash_of K) [] E0 (tCons (tFld K (tVar 0) "both") (tCons (tFld K (tVar 0) "many") tNil))) (gName 1)) (tSeq (tIfS (tB (tNotN (tVar 1))) (tRet (tTup (tCons (tC (.bl false)) (tCons (tVar 1) tNil)))) tNext) (tSeq (tAsg (tLst tNil) (gName 2)) (tSeq (tAsg tDNewT (gName 3)) (tSeq (tFor (iList K (tMeth (cNet K) "pairs" (sp_Net_pairs K) [] E0 (tVar 0) tNil)) (gName 4) (tIfS (tB (tDNotIn (tVar 4) (tVar 3))) (tFor (iList K (tCB cListT (tCons (tCall (sp_led_by K) [] E0 (tCons (tFld K (tVar 0) "both") (tCons (tFld K (tVar 0) "many") (tCons (tVar 4) tNil)))) tNil))) (gTup K 2 (gCons (gName 5) (gCons (gName 6) gNil))) (tSeq (tDrop (tBM K "list" rAppend (tVar 2) (tCons (tTup (tCons (tVar 5) (tCons (tVar 6) tNil))) tNil))) (tSeq (sDPut (tVar 3) (tTup (tCons (tVar 5) (tCons (tVar 6) tNil))) (tC (.bl true))) (sDPut (tVar 3) (tTup (tCons (tVar 6) (tCons (tVar 5) tNil))) (tC (.bl true)))))) tNext)) (tRet (tTup (tCons (tC (.bl true)) (tCons (tCB (rSortD K) (tCons (tVar 2) tNil)) tNil)))))))))
variable {K : PySem.W.Frag} {vs : List V} {H : Hp} {Q : VK} {E : XK}
/-! ### a dict's keys, whatever its values -/
def KeysP (kvs : List (List Key × V)) (ss : List Arr) : Prop := kvs.map (·.1) = ss.map kp
theorem KeysP.val {kvs : List (List Key × V)} : ∀ {ss : List Arr}, KeysP kvs ss → ∀ q : Arr, (valV kvs (kp q)).isSome = decide (q ∈ ss) := by
  induction kvs with
  | nil =>
    intro ss h q
    cases ss with
    | nil => rfl
    | cons s ss => cases h
  | cons kv kvs ih =>
    intro ss h q
    cases ss with
    | nil => cases h
    | cons s ss =>
      unfold KeysP at h
      rw [List.map_cons, List.map_cons, List.cons.injEq] at h
      by_cases e : s = q
      · rw [valV_pos (by rw [h.1, e]), decide_eq_true (by rw [e]; exact List.mem_cons_self)] <;> rfl
      · rw [valV_neg (fun z => e (kp_inj (h.1.symm.trans z))), ih h.2]
        by_cases m : q ∈ ss
        · rw [decide_eq_true m, decide_eq_true (List.mem_cons_of_mem _ m)]
        · rw [decide_eq_false m, decide_eq_false (fun z => (List.mem_cons.mp z).elim (fun z => e z.symm) m)]
theorem KeysP.put {kvs : List (List Key × V)} {ss : List Arr} (h : KeysP kvs ss) (q : Arr) (v : V) : KeysP (putK kvs (kp q) v) (addP ss q) := by
  have hv := h.val q
  unfold addP
  by_cases m : q ∈ ss
  · rw [if_pos m]
    rw [decide_eq_true m] at hv
    unfold putK
    rw [valV_any, hv, if_pos rfl]
    unfold KeysP
    rw [List.map_map, ← h]
    apply List.map_congr_left
    intro x _
    show (if x.1 = kp q then (x.1, v) else x).1 = x.1
    split <;> rfl
  · rw [if_neg m]
    rw [decide_eq_false m] at hv
    have hn : valV kvs (kp q) = none := by
      cases e : valV kvs (kp q) with
      | none => rfl
      | some x => rw [e] at hv; cases hv
    rw [putK_new v hn]
    unfold KeysP
    rw [List.map_append, List.map_append, h] <;> rfl
theorem KeysP.merge : ∀ {more kvs : List (List Key × V)} {ps ss : List Arr}, KeysP more ps → KeysP kvs ss → KeysP (mergeT kvs more) (ps.foldl addP ss)
  | [], kvs, ps, ss, h, k => by
    cases ps with
    | nil => exact k
    | cons p ps => cases h
  | m :: more, kvs, ps, ss, h, k => by
    cases ps with
    | nil => cases h
    | cons p ps =>
      unfold KeysP at h
      rw [List.map_cons, List.map_cons, List.cons.injEq] at h
      have := KeysP.merge (more := more) (ps := ps) h.2 (k.put p m.2)
      show KeysP (mergeT (putK kvs m.1 m.2) more) _
      rw [h.1]
      exact this
theorem CameAt.keys {H : Hp} {kvs : List (List Key × V)} {cs : Cm} (h : CameAt H kvs cs) : KeysP kvs (ks cs) := by
  unfold CameAt at h
  induction h with
  | nil => rfl
  | cons h t ih =>
    unfold KeysP at ih ⊢
    rw [List.map_cons, ih, h.1] <;> rfl
theorem CameAt.ofKeys {H : Hp} {kvs : List (List Key × V)} {ss : List Arr} (h : KeysP kvs ss) {bs : List Addr} (ik : IsKeys H kvs bs) : TL H (bs.map V.ref) (ss.map p2) := by
  unfold IsKeys at ik
  induction ik generalizing ss with
  | nil =>
    cases ss with
    | nil => exact .nil
    | cons s ss => cases h
  | cons k t ih =>
    cases ss with
    | nil => cases h
    | cons s ss =>
      unfold KeysP at h
      rw [List.map_cons, List.map_cons, List.cons.injEq] at h
      rw [h.1] at k
      exact .cons ⟨_, rfl, k⟩ (ih h.2)
theorem len_clash_of (h : sp_clash_of K vs H Q E) : vs.length = 2 := by
  obtain ⟨d, l, n, rfl, _⟩ := h
  rfl
theorem pure_clash_of (h : sp_clash_of K vs H Q E) : t_clash_of K (ends Q) (st 5 vs) H := by
  obtain ⟨d, l, n, rfl, hd, g, hn, q1, q2⟩ := h
  have fl := g.few hn
  refine fun sn nsn => ?_
  generalize e1 : upd _ sn _ = H1
  have s1 := Same.of_eq e1 nsn
  replace e1 := new_at e1
  walk_at "go"
  refine ⟨d, _, rfl, .inl (s1 _ _ hd), fun p bs np ik => ?_⟩
  generalize e2 : upd _ p _ = H2
  have s2 := Same.of_eq e2 np
  replace e2 := new_at e2
  have tk := (keys_tl ik).mono s2.tk
  have lb : (bs.map V.ref).length = l.length := by rw [paired_len tk]; simp
  have nps : p ≠ sn := fun z => by rw [z, e1] at np; cases np
  refine ⟨_, rfl, ⟨_, SqL.of e2⟩, for_list (K := K) (a := p) (xs := bs.map V.ref) (fun i σ G => ∃ (o3 o4 : Option V) (kvs : List (List Key × V)) (ss : List Arr), σ = [some (.ref d), some (.int n), some (.ref sn), o3, o4] ∧ (∀ b o, b ≠ sn → H2 b = some o → G b = some o) ∧ G sn = some (.dT kvs) ∧
      KeysP kvs ss ∧ ss.Nodup ∧ (∀ q ∈ ss, ¬ Rch l q (sw q)) ∧ (∀ q ∈ l.take i, q ∈ ss) ∧ kvs.length ≤ i * 576)
    ⟨_, _, [], [], rfl, fun _ _ _ e => e, s2 _ _ e1, rfl, .nil, fun _ h => (nomatch h), fun _ h => (nomatch h), Nat.zero_le _⟩ (fun i σ G _ ⟨_, _, _, _, _, s, _⟩ => SqL.of (s _ _ nps e2)) ?_ ?_⟩
  · rintro i x σ G hx ⟨o3, o4, kvs, ss, rfl, s3, hsn, kp1, nds, nc, pr, lk⟩
    obtain ⟨r, hr, t, rfl, htr⟩ := TLp.at tk hx
    have hi := lt_of_get hr
    have hrl : r ∈ l := mem_of_get hr
    have nts : t ≠ sn := fun z => by rw [z, s2 _ _ e1] at htr; cases htr
    have ht := s3 _ _ nts htr
    have sA : Same H G := fun b o e => s3 _ _ (ne_of_none e nsn) (s2 _ _ (s1 _ _ e))
    have hd3 := sA _ _ hd
    have lk2 : i * 576 ≤ 576 * 576 := Nat.mul_le_mul (by omega) (Nat.le_refl _)
    walk_at "go"
    refine ⟨_, _, rfl, DGet.t (k := kp r) hsn ht, ?_⟩
    walk_at "go"
    rw [kp1.val]
    refine iteDn (fun c1 => ?_) fun c1 => ?_
    rotate_left
    · refine ⟨_, _, kvs, ss, rfl, s3, hsn, kp1, nds, nc, fun q hq => ?_, Nat.le_trans lk (Nat.mul_le_mul (Nat.le_succ _) (Nat.le_refl _))⟩
      rw [take_snoc hr] at hq
      rcases List.mem_append.mp hq with hq | hq
      · exact pr q hq
      · rw [List.mem_singleton.mp hq]
        exact c1
    walk_at "go"
    refine ⟨d, l, n, t, r.1, r.2, rfl, hd3, g, hn, ht, hrl, fun c G1 more nc1 s4 hcm cam => ?_⟩
    have L := ledC_ok g hrl
    have cam : CameAt G1 more (ledC n l r) := cam
    generalize ledC n l r = cs at *
    have ht4 := s4 _ _ ht
    have hsn4 := s4 _ _ hsn
    walk_at "go"
    refine ⟨_, _, _, _, rfl, rfl, SqT.of ht4, at1, ?_⟩
    walk_at "go"
    refine ⟨_, _, _, _, rfl, rfl, SqT.of ht4, at0, ?_⟩
    walk_at "go"
    refine fun u nu => ?_
    generalize e5 : upd _ u _ = G2
    have s5 := Same.of_eq e5 nu
    replace e5 := new_at e5
    refine ⟨_, rfl, _, _, rfl, DGet.t (k := kp (sw r)) (s5 _ _ hcm) e5, ?_⟩
    walk_at "go"
    rw [cam.val]
    refine iteD (fun c2 => ?_) fun c2 => ?_
    · obtain ⟨row, pt, hrow, lrow⟩ := L.path _ c2
      have ht5 := s5 _ _ ht4
      walk_at "go"
      refine ⟨_, _, _, _, rfl, rfl, SqT.of ht5, at1, ?_⟩
      walk_at "go"
      refine ⟨_, _, _, _, rfl, rfl, SqT.of ht5, at0, ?_⟩
      walk_at "go"
      refine fun v nv => ?_
      generalize e6 : upd _ v _ = G3
      have s6 := Same.of_eq e6 nv
      replace e6 := new_at e6
      walk_at "go"
      have s56 := s5.trans s6
      refine ⟨c, more, cs, v, sw r, row, rfl, s56 _ _ hcm, cam.mono s56.tk, L.nd, e6, pt, by omega, fun p' G4 xs np' s7 e7 tx => ?_⟩
      have sB := ((sA.trans s4).trans s56)
      exact q2 row p' G4 xs ⟨r, hrl, hrow, lrow⟩ (sB.free np') (sB.trans s7) e7 tx
    · have lm : more.length ≤ 576 := by
        have h1 := paired_len cam
        have h2 := L.few
        omega
      have hsn5 := s5 _ _ hsn4
      have ncs : sn ≠ c := ne_of_none hsn nc1
      walk_at "go"
      refine ⟨.inr (.inr (.inl ⟨rfl, .inr ⟨_, hsn5⟩⟩)), ?_⟩
      walk_at "go"
      refine ⟨sn, c, _, _, ks cs, rfl, rfl, ncs, hsn5, s5 _ _ hcm, cam.keys, gh_nd g hn L.nd fun q hq => ((L.mem q).mp hq).mem hrl, lin (by omega), ?_⟩
      have mem : ∀ q, q ∈ (ks cs).foldl addP ss ↔ q ∈ ss ∨ q ∈ ks cs := (dedup_aux (ks cs) ss nds).2.1
      have ndm : ((ks cs).foldl addP ss).Nodup := (dedup_aux (ks cs) ss nds).1
      refine ⟨_, _, _, (ks cs).foldl addP ss, rfl, fun b o hb e => ?_, upd_same, cam.keys.merge kp1, ndm, fun q hq z => ?_, fun q hq => ?_, ?_⟩
      · rw [upd_ne hb]
        exact s5 _ _ (s4 _ _ (s3 _ _ hb e))
      · rcases (mem q).mp hq with hq | hq
        · exact nc q hq z
        · have h1 := (L.mem q).mp hq
          have h2 := (h1.trans z).trans (Rch.symm g.sym (g.sym _ _ hrl) (h1.swp g.sym))
          exact c2 ((L.mem _).mpr h2)
      · rw [take_snoc hr] at hq
        rcases List.mem_append.mp hq with hq | hq
        · exact (mem q).mpr (.inl (pr q hq))
        · rw [List.mem_singleton.mp hq]
          exact (mem r).mpr (.inr ((L.mem r).mpr .refl))
      · have h1 := mergeT_len more kvs
        rw [Nat.succ_mul]
        omega
  · rintro σ G ⟨o3, o4, kvs, ss, rfl, s3, hsn, kp1, nds, nc, pr, lk⟩
    rw [lb, List.take_length] at pr
    walk_at "go"
    exact q1 (fun q hq => nc q (pr q hq)) G fun b o e => s3 _ _ (ne_of_none e nsn) (s2 _ _ (s1 _ _ e))
theorem len_turned (h : sp_turned K vs H Q E) : vs.length = 1 := by
  obtain ⟨v, n, l, rfl, _⟩ := h
  rfl
theorem pure_turned (N : NetC K) (h : sp_turned K vs H Q E) : t_turned K (ends Q) (st 7 vs) H := by
  obtain ⟨v, n, l, rfl, nw, q⟩ := h
  have nw0 := nw
  obtain ⟨o, dx, d, rfl, hO, hd, g, hn⟩ := nw
  have fl := g.few hn
  walk_at "go"
  refine ⟨o, _, dx, _, _, rfl, hO, N.cl, N.nB, nflds_both _ _, ?_⟩
  walk_at "go"
  refine ⟨o, _, dx, _, _, rfl, hO, N.cl, N.nM, nflds_many _ _, ?_⟩
  refine ⟨d, l, n, rfl, hd, g, hn, fun nc H1 s1 => ?_, fun row r H1 xs cr nr s1 hr tr => ?_⟩
  rotate_left
  · walk_at "go"
    refine fun t nt => ?_
    generalize e2 : upd _ t _ = H2
    have s2 := Same.of_eq e2 nt
    replace e2 := new_at e2
    exact q t r false H2 xs row ⟨fun z => (nomatch z), fun _ => cr⟩ (s1.free nt) nr (s1.trans s2) e2 (s2 _ _ hr) (tr.mono s2.tk)
  walk_at "go"
  refine fun al nal => ?_
  generalize e2 : upd _ al _ = H2
  have s2 := Same.of_eq e2 nal
  replace e2 := new_at e2
  walk_at "go"
  refine fun tn ntn => ?_
  generalize e3 : upd _ tn _ = H3
  have s3 := Same.of_eq e3 ntn
  replace e3 := new_at e3
  have s13 := (s1.trans s2).trans s3
  have nal0 : H al = none := s1.free nal
  have ntn0 : H tn = none := (s1.trans s2).free ntn
  have nat : al ≠ tn := ne_of_none e2 ntn
  walk_at "go"
  refine ⟨o, dx, _, rfl, s13 _ _ hO, nflds_no _ _ (by decide +kernel) (by decide +kernel), ?_⟩
  refine ⟨.ref o, n, l, rfl, nw0.mono s13, fun pl H4 ps qs P lq npl s4 hpl tp => ?_⟩
  have lps : ps.length = qs.length := by rw [paired_len tp]; simp
  have npa : pl ≠ al := fun z => by rw [z, s3 _ _ e2] at npl; cases npl
  have npt : pl ≠ tn := fun z => by rw [z, e3] at npl; cases npl
  have s14 := s13.trans s4
  refine ⟨pl, rfl, ⟨_, SqL.of hpl⟩, for_list (K := K) (a := pl) (xs := ps) (fun i σ G => ∃ (o4 o5 o6 : Option V) (xs : List V) (S tk : List Arr), σ = [some (.ref o), some .non, some (.ref al), some (.ref tn), o4, o5, o6] ∧ (∀ b u, b ≠ al → b ≠ tn → H4 b = some u → G b = some u) ∧
      G al = some (.lst xs) ∧ TL G xs (S.map p2) ∧ G tn = some (.dT (hk tk)) ∧ (∀ p, p ∈ tk ↔ p ∈ S ∨ sw p ∈ S) ∧ tk.Nodup ∧ Tinv l qs i S)
    ⟨_, _, _, [], [], [], rfl, fun _ _ _ _ e => e, s4 _ _ (s3 _ _ e2), .nil, s4 _ _ e3, fun p => ⟨fun h => (nomatch h), fun h => h.elim (fun h => (nomatch h)) fun h => (nomatch h)⟩, .nil, Tinv.init l qs⟩ (fun i σ G _ ⟨_, _, _, _, _, _, _, s, _⟩ => SqL.of (s _ _ npa npt hpl)) ?_ ?_⟩
  · rintro i x σ G hx ⟨o4, o5, o6, xs, S, tk, rfl, s5, hal, tS, htn, mtk, ndk, T⟩
    obtain ⟨r, hr, t, rfl, htr⟩ := TLp.at tp hx
    have sA : Same H G := fun b u e => s5 _ _ (ne_of_none e nal0) (ne_of_none e ntn0) (s14 _ _ e)
    have nta : t ≠ al := fun z => by rw [z, s4 _ _ (s3 _ _ e2)] at htr; cases htr
    have ntt : t ≠ tn := fun z => by rw [z, s4 _ _ e3] at htr; cases htr
    have ht := s5 _ _ nta ntt htr
    walk_at "go"
    refine ⟨_, _, rfl, DGet.t (k := kp r) htn ht, ?_⟩
    walk_at "go"
    rw [some_hk]
    refine iteDn (fun c1 => ?_) fun c1 => ?_
    rotate_left
    · exact ⟨_, _, _, xs, S, tk, rfl, s5, hal, tS, htn, mtk, ndk, T.skip hr ((mtk r).mp c1)⟩
    have c2 : r ∉ S ∧ sw r ∉ S := ⟨fun z => c1 ((mtk r).mpr (.inl z)), fun z => c1 ((mtk r).mpr (.inr z))⟩
    have hrl : r ∈ l := ((P.2 r.1 r.2).mp (mem_of_get hr)).1
    walk_at "go"
    refine ⟨o, _, dx, _, _, rfl, sA _ _ hO, N.cl, N.nB, nflds_both _ _, ?_⟩
    walk_at "go"
    refine ⟨o, _, dx, _, _, rfl, sA _ _ hO, N.cl, N.nM, nflds_many _ _, ?_⟩
    walk_at "go"
    refine ⟨d, l, n, t, r.1, r.2, rfl, sA _ _ hd, g, hn, ht, hrl, fun c G1 more nc1 s6 hcm cam => ?_⟩
    have L := ledC_ok g hrl
    have cam : CameAt G1 more (ledC n l r) := cam
    generalize ledC n l r = cs at *
    walk_at "go"
    refine ⟨c, _, rfl, .inl hcm, fun kl bs nkl ik => ?_⟩
    generalize e7 : upd _ kl _ = G2
    have s7 := Same.of_eq e7 nkl
    replace e7 := new_at e7
    have tkl := (CameAt.ofKeys cam.keys ik).mono s7.tk
    have lb : (bs.map V.ref).length = (ks cs).length := by rw [paired_len tkl]; simp
    have T2 := T.put g nc P hr c2.1 c2.2 L.nd L.mem
    have s67 := s6.trans s7
    have nka : kl ≠ al := fun z => by rw [z, s6 _ _ hal] at nkl; cases nkl
    have nkt : kl ≠ tn := fun z => by rw [z, s6 _ _ htn] at nkl; cases nkl
    refine ⟨kl, rfl, ⟨_, SqL.of e7⟩, for_list (K := K) (a := kl) (xs := bs.map V.ref) (fun j σ G3 => ∃ (o5 o6 : Option V) (xs : List V) (tk : List Arr), σ = [some (.ref o), some .non, some (.ref al), some (.ref tn), some (.ref t), o5, o6] ∧ (∀ b u, b ≠ al → b ≠ tn → G2 b = some u → G3 b = some u) ∧
        G3 al = some (.lst xs) ∧ TL G3 xs ((S ++ (ks cs).take j).map p2) ∧ G3 tn = some (.dT (hk tk)) ∧ (∀ p, p ∈ tk ↔ p ∈ S ++ (ks cs).take j ∨ sw p ∈ S ++ (ks cs).take j) ∧ tk.Nodup)
      ⟨_, _, xs, tk, rfl, fun _ _ _ _ e => e, s67 _ _ hal, by rw [List.take_zero, List.append_nil]; exact tS.mono s67.tk, s67 _ _ htn, fun p => by rw [List.take_zero, List.append_nil]; exact mtk p, ndk⟩ (fun j σ G _ ⟨_, _, _, _, _, s, _⟩ => SqL.of (s _ _ nka nkt e7)) ?_ ?_⟩
    · rintro j x σ G3 hx ⟨o5, o6, xs, tk, rfl, s8, hal3, tS3, htn3, mtk3, ndk3⟩
      obtain ⟨y, hy, ty, rfl, hty⟩ := TLp.at tkl hx
      have hj := lt_of_get hy
      have nya : ty ≠ al := fun z => by rw [z, s67 _ _ hal] at hty; cases hty
      have nyt : ty ≠ tn := fun z => by rw [z, s67 _ _ htn] at hty; cases hty
      have hyl : y ∈ l := ((L.mem y).mp (mem_of_get hy)).mem hrl
      have sub : ∀ p ∈ S ++ (ks cs).take j, p ∈ l := fun p hp => by
        rcases List.mem_append.mp hp with hp | hp
        · exact T.L.sub p hp
        · exact ((L.mem p).mp (List.mem_of_mem_take hp)).mem hrl
      have lx : xs.length ≤ 1200 := by
        rw [paired_len tS3, List.length_map, List.length_append, List.length_take]
        have h1 := len_le_sub T.nd T.L.sub
        have h2 := L.few
        rw [← List.length_map (f := (·.1))] at h2
        have h2 : (ks cs).length ≤ l.length := h2
        omega
      have ltk : tk.length ≤ 576 := Nat.le_trans (len_le_sub ndk3 fun p hp => by
        rcases (mtk3 p).mp hp with z | z
        · exact sub p z
        · exact g.sym _ _ (sub _ z)) fl
      have hk1 : (hk tk).length = tk.length := by simp [hk]
      refine ⟨_, _, rfl, SqT.of (s8 _ _ nya nyt hty), rfl, _, _, rfl, _, _, rfl, rfl, ?_⟩
      walk_at "go"
      refine ⟨.inl ⟨rfl, _, SqL.of hal3⟩, ?_⟩
      walk_at "go"
      refine fun w1 nw1 => ?_
      generalize e9 : upd _ w1 _ = G4
      have s9 := Same.of_eq e9 nw1
      replace e9 := new_at e9
      walk_at "go"
      have hal4 := s9 _ _ hal3
      have htn4 := s9 _ _ htn3
      refine ⟨al, _, _, rfl, rfl, hal4, lin' (by omega), ?_⟩
      generalize hG5 : upd G4 al (.lst (xs ++ [V.ref w1])) = G5
      have k5 : ∀ b u, b ≠ al → G4 b = some u → G5 b = some u := fun b u hb e => by rw [← hG5, upd_ne hb]; exact e
      have tk5 : TK G4 G5 := by rw [← hG5]; exact TK.upd fun zs z => by rw [hal4] at z; cases z
      have hal5 : G5 al = some (.lst (xs ++ [V.ref w1])) := by rw [← hG5, upd_same]
      have htn5 := k5 _ _ nat.symm htn4
      walk_at "go"
      refine fun w2 nw2 => ?_
      generalize e10 : upd _ w2 _ = G6
      have s10 := Same.of_eq e10 nw2
      replace e10 := new_at e10
      have l1 := len_addP tk y
      refine ⟨tn, _, rfl, DPut.t (k := kp y) (s10 _ _ htn5) e10 (lin' (by omega)), ?_⟩
      rw [putK_hk]
      generalize hG7 : upd G6 tn (.dT (hk (addP tk y))) = G7
      have k7 : ∀ b u, b ≠ tn → G6 b = some u → G7 b = some u := fun b u hb e => by rw [← hG7, upd_ne hb]; exact e
      have tk7 : TK G6 G7 := by rw [← hG7]; exact TK.upd fun zs z => by rw [s10 _ _ htn5] at z; cases z
      have htn7 : G7 tn = some (.dT (hk (addP tk y))) := by rw [← hG7, upd_same]
      walk_at "go"
      refine fun w3 nw3 => ?_
      generalize e11 : upd _ w3 _ = G8
      have s11 := Same.of_eq e11 nw3
      replace e11 := new_at e11
      have hk2 : (hk (addP tk y)).length = (addP tk y).length := by simp [hk]
      refine ⟨tn, _, rfl, DPut.t (k := kp (sw y)) (s11 _ _ htn7) e11 (lin' (by omega)), ?_⟩
      rw [putK_hk]
      have tk9 : TK G8 (upd G8 tn (.dT (hk (addP (addP tk y) (sw y))))) := TK.upd fun zs z => by rw [s11 _ _ htn7] at z; cases z
      have tkA := ((((s9.tk.trans tk5).trans s10.tk).trans tk7).trans s11.tk).trans tk9
      have tkB := (((tk5.trans s10.tk).trans tk7).trans s11.tk).trans tk9
      refine ⟨_, _, xs ++ [V.ref w1], addP (addP tk y) (sw y), rfl, fun b u h1 h2 e => ?_, ?_, ?_, upd_same, fun p => ?_, nodup_addP _ (nodup_addP _ ndk3)⟩
      · rw [upd_ne h2]
        exact s11 _ _ (k7 _ _ h2 (s10 _ _ (k5 _ _ h1 (s9 _ _ (s8 _ _ h1 h2 e)))))
      · rw [upd_ne nat]
        exact s11 _ _ (k7 _ _ nat (s10 _ _ hal5))
      · rw [take_snoc hy, ← List.append_assoc]
        exact tl_app (tS3.mono tkA) (tl_one (tkB _ _ e9))
      · rw [take_snoc hy, ← List.append_assoc, mem_addP, mem_addP, mtk3, List.mem_append (t := [y]), List.mem_append (t := [y]), List.mem_singleton, List.mem_singleton]
        have e : p = sw y ↔ sw p = y := ⟨fun z => by rw [z, sw_sw], fun z => by rw [← z, sw_sw]⟩
        rw [e]
        constructor
        · rintro ((h | h) | h)
          · exact h.imp .inl .inl
          · exact .inl (.inr h)
          · exact .inr (.inr h)
        · rintro ((h | h) | (h | h))
          · exact .inl (.inl (.inl h))
          · exact .inl (.inr h)
          · exact .inl (.inl (.inr h))
          · exact .inr h
    · rintro σ G3 ⟨o5, o6, xs, tk, rfl, s8, hal3, tS3, htn3, mtk3, ndk3⟩
      rw [lb, List.take_length] at tS3 mtk3
      exact ⟨_, _, _, xs, S ++ ks cs, tk, rfl, fun b u h1 h2 e => s8 _ _ h1 h2 (s67 _ _ (s5 _ _ h1 h2 e)), hal3, tS3, htn3, mtk3, ndk3, T2⟩
  · rintro σ G ⟨o4, o5, o6, xs, S, tk, rfl, s5, hal, tS, htn, mtk, ndk, T⟩
    rw [lps] at T
    have sA : Same H G := fun b u e => s5 _ _ (ne_of_none e nal0) (ne_of_none e ntn0) (s14 _ _ e)
    walk_at "go"
    refine ⟨al, _, _, rfl, SqL.of hal, tS, fun ns hm => ?_, fun zs ms r tz pm pw nr => ?_⟩
    · obtain ⟨q, _, rfl⟩ := List.mem_map.mp hm
      exact fun z => nomatch z
    · obtain ⟨us, rfl, pq⟩ := perm_p2 pm
      generalize e6 : upd _ r _ = G1
      have s6 := Same.of_eq e6 nr
      replace e6 := new_at e6
      walk_at "go"
      refine fun t nt => ?_
      generalize e7 : upd _ t _ = G2
      have s7 := Same.of_eq e7 nt
      replace e7 := new_at e7
      have r0 := rising_sorted pm pw (nodup_mapOn' T.nd fun a _ b _ e => p2_inj e)
      exact q t r true G2 zs us ⟨fun _ => ⟨T.turns g P pq, r0⟩, fun z => (nomatch z)⟩ ((sA.trans s6).free nt) (sA.free nr) ((sA.trans s6).trans s7) e7 (s7 _ _ e6) (tz.mono (s6.trans s7).tk)
end Ar
namespace Ar
open PySem PySem.Spec L2
local macro_rules | `(tactic| walk_at "g1") => `(tactic| first
  | refine ⟨_, rfl, ?_⟩
  | refine ⟨_, _, rfl, rfl, ?_⟩
  | refine ⟨(by show (0 : Int) < _; decide), ?_⟩
  | refine ⟨⟨by decide, by decide⟩, ?_⟩
  | refine ⟨(show CMul _ _ from .inl ⟨by omega, by omega⟩), ?_⟩
  | refine ⟨(show CMul _ _ from .inr ⟨by omega, by omega⟩), ?_⟩
  | refine ⟨(show (_ : Int) ≠ 0 by decide), ?_⟩
  | refine ⟨sz2, ?_⟩
  | refine ⟨sz0, ?_⟩
  | refine ⟨sz3, ?_⟩)
local macro_rules | `(tactic| walk_at "ty") => `(tactic| first | exact .int _ | exact .bl _ | exact .tup (by assumption) | exact .lst (by assumption))
local macro_rules | `(tactic| walk_at "isT") => `(tactic| refine ⟨_, _, _, _, true, rfl, .ty _, .base (by walk_at "ty"), kit_ty (by decide +kernel), ?_⟩)
local macro_rules | `(tactic| walk_at "isF") => `(tactic| refine ⟨_, _, _, _, false, rfl, .ty _, .base (by walk_at "ty"), kit_ty (by decide +kernel), ?_⟩)
local macro_rules | `(tactic| walk_at "cell") => `(tactic| ((repeat walk_at "g1"); refine ⟨_, _, _, rfl, (by assumption), (by assumption), (by first | decide | omega), ?_⟩; repeat walk_at "g1"))
local macro_rules | `(tactic| walk_at "go") => `(tactic| repeat walk_at "g1")
def t_cell_at (K : PySem.W.Frag) : TS :=
  (tSeq (tIfS (tTest (tOp oLt (tVar 1) (tCB (cLen K) (tCons (tVar 0) tNil)))) (tRet (tOp (rIxL K) (tVar 0) (tVar 1))) tNext) (tRet (tC (.int 0))))
def t_alike (K : PySem.W.Frag) (sp : Sp) : TS :=
  (tSeq (tIfS (tB (tCB (rIsi K) (tCons (tVar 1) (tCons (tC (.ty "tuple")) tNil)))) (tSeq (tIfS (tOr (tNot (tB (tCB (rIsi K) (tCons (tVar 0) (tCons (tC (.ty "tuple")) tNil))))) (tTest (tOp rNe (tCB (cLen K) (tCons (tVar 0) tNil)) (tCB (cLen K) (tCons (tVar 1) tNil))))) (tRet (tC (.bl false))) tNext) (tRet (tOp (rEqD K) (tLc (iRng1 (tCons (tCB (cLen K) (tCons (tVar 1) tNil)) tNil)) (gName 2) (tNot (tB (tCall sp [] E0 (tCons (tOp (rIxT K) (tVar 0) (tVar 2)) (tCons (tOp (rIxT K) (tVar 1) (tVar 2)) tNil))))) (tVar 2) [2]) (tLst tNil)))) tNext) (tRet (tAndV (tOp rEq (tCB (rIsi K) (tCons (tVar 0) (tCons (tC (.ty "bool")) tNil))) (tCB (rIsi K) (tCons (tVar 1) (tCons (tC (.ty "bool")) tNil)))) (tOp (rEqD K) (tVar 0) (tVar 1)))))
def t_listed (K : PySem.W.Frag) : TS :=
  (tRet (tAndV (tCB (rIsi K) (tCons (tVar 0) (tCons (tC (.ty "list")) tNil))) (tCall (sp_alike3 K) [] E0 (tCons (tCB (cTuple K) (tCons (tVar 0) tNil)) (tCons (tCB (cTuple K) (tCons (tVar 1) tNil)) tNil)))))
def t_whole (K : PySem.W.Frag) : TS :=
  (tRet (tAndV (tCB (rIsi K) (tCons (tVar 0) (tCons (tC (.ty "int")) tNil))) (tNotV (tCB (rIsi K) (tCons (tVar 0) (tCons (tC (.ty "bool")) tNil))))))
variable {K : PySem.W.Frag} {vs : List V} {H : Hp} {Q : VK} {E : XK}
theorem len_cell_at (h : sp_cell_at K vs H Q E) : vs.length = 2 := by
  obtain ⟨a, ns, k, rfl, _⟩ := h
  rfl
theorem pure_cell_at (h : sp_cell_at K vs H Q E) : t_cell_at K (ends Q) (st 2 vs) H := by
  obtain ⟨a, ns, k, rfl, hs, hl, hk, q⟩ := h
  walk_at "go"
  refine ⟨_, _, rfl, .inl hs, ?_⟩
  walk_at "go"
  have e : (ns.map V.int).length = ns.length := by simp
  refine iteD (fun hc => ?_) fun hc => ?_
  · rw [e] at hc
    have hj : k.toNat < ns.length := by omega
    have hg : ns[k.toNat]? = some (ns.getD k.toNat 0) := by simp [hj]
    refine ⟨_, rfl, _, rfl, a, _, _, _, rfl, rfl, hs, at_of (j := k.toNat) (by omega) (by rw [List.getElem?_map, hg]; rfl), q⟩
  · rw [e] at hc
    have hj : ns.length ≤ k.toNat := by omega
    have hg : ns.getD k.toNat 0 = 0 := by simp [hj]
    rw [hg] at q
    exact q
theorem len_whole (h : sp_whole K vs H Q E) : vs.length = 1 := by
  obtain ⟨i, rfl, _⟩ := h
  rfl
theorem pure_whole (h : sp_whole K vs H Q E) : t_whole K (ends Q) (st 1 vs) H := by
  obtain ⟨i, rfl, q⟩ := h
  walk_at "go"
  walk_at "isT"
  walk_at "go"
  walk_at "go"
  walk_at "isF"
  walk_at "go"
  exact q
theorem DD.mono {H H' : Hp} (e : Same H H') : ∀ {n : Nat} {v : V} {d : PyData}, DD H n v d → DD H' n v d
  | 0, _, _, h => h
  | n + 1, _, _, h => by
    rcases h with h | ⟨a, xs, ds, rfl, rfl, ha, hl, hp⟩
    · exact .inl h
    · exact .inr ⟨a, xs, ds, rfl, rfl, e _ _ ha, hl, paired_mono (fun _ _ q => DD.mono e q) hp⟩
theorem DD.dp {K : PySem.W.Frag} {H : Hp} : ∀ {n : Nat} {v : V} {d : PyData}, DD H n v d → Dp K H v d
  | 0, _, _, ⟨i, e1, e2⟩ => by subst e1 e2; exact .int i
  | n + 1, _, _, h => by
    rcases h with ⟨i, rfl, rfl⟩ | ⟨a, xs, ds, rfl, rfl, ha, hl, hp⟩
    · exact .int i
    · refine .tup (SqT.of ha) ?_
      clear hl ha
      induction hp with
      | nil => exact .nil
      | cons h t ih => exact .cons (DD.dp h) ih
theorem len_alike {n : Nat} (h : sp_alike K n vs H Q E) : vs.length = 2 := by
  cases n with
  | zero => exact h.elim
  | succ n =>
    obtain ⟨x, y, d, rfl, _⟩ := h
    rfl
theorem pure_alike {n : Nat} (h : sp_alike K (n + 1) vs H Q E) : t_alike K (sp_alike K n) (ends Q) (st 3 vs) H := by
  obtain ⟨x, y, d, rfl, hx, hy, q⟩ := h
  have int : ∀ i : Int, x = .int i → y = .int i → t_alike K (sp_alike K n) (ends Q) (st 3 [x, y]) H := fun i ex ey => by
    subst ex ey
    walk_at "go"
    walk_at "isF"
    walk_at "go"
    walk_at "go"
    walk_at "isF"
    walk_at "go"
    walk_at "isF"
    refine ⟨rfl, _, rfl, ?_⟩
    refine ⟨_, rfl, _, rfl, _, _, .int i, .int i, rfl, rfl, ?_⟩
    have e : PyData.eqv (.int i) (.int i) = true := by simp [PyData.eqv]
    rw [e]
    exact q _ (Same.refl _)
  cases n with
  | zero =>
    obtain ⟨i, e1, e2⟩ := hx
    obtain ⟨j, e3, e4⟩ := hy
    rw [e2] at e4
    cases e4
    exact int i e1 e3
  | succ n =>
    rcases hx with ⟨i, rfl, rfl⟩ | ⟨a, xs, ds, rfl, rfl, ha, hla, hpa⟩
    · rcases hy with ⟨j, rfl, e⟩ | ⟨_, _, _, _, e, _⟩
      · cases e
        exact int i rfl rfl
      · cases e
    · rcases hy with ⟨j, rfl, e⟩ | ⟨b, ys, ds', rfl, e, hb, hlb, hpb⟩
      · cases e
      · cases e
        have l1 := paired_len hpa
        have l2 := paired_len hpb
        walk_at "go"
        walk_at "isT"
        walk_at "go"
        walk_at "go"
        walk_at "isT"
        walk_at "go"
        walk_at "go"
        refine ⟨_, _, rfl, .inr (SqT.of ha), ?_⟩
        walk_at "go"
        refine ⟨_, _, rfl, .inr (SqT.of hb), ?_⟩
        refine ⟨rfl, _, rfl, iteEn (fun h => absurd (by omega) h) fun _ => ?_⟩
        walk_at "go"
        refine ⟨_, _, rfl, .inr (SqT.of hb), ?_⟩
        refine ⟨_, rfl, by omega, by omega, fun D hD => ?_⟩
        refine lc_range (lo := 0) (n := ((ys.length : Int)).toNat) (fun i H' => Same H H' ∧ H' D = some (.lst [])) ⟨Same.new hD, upd_same⟩ ?_ ?_
        · rintro i H' hi ⟨s1, hd⟩
          have hi' : i < ys.length := by omega
          obtain ⟨vb, hvb⟩ : ∃ v, ys[i]? = some v := ⟨ys[i], by simp [hi']⟩
          obtain ⟨va, hva⟩ : ∃ v, xs[i]? = some v := ⟨xs[i]'(by omega), by simp⟩
          obtain ⟨d1, e1, q1⟩ := paired_get hpa hva
          obtain ⟨d2, e2, q2⟩ := paired_get hpb hvb
          rw [e1] at e2
          cases e2
          refine ⟨rfl, ?_⟩
          walk_at "go"
          refine ⟨_, _, _, _, rfl, rfl, SqT.of (s1 _ _ ha), at_of (j := i) (by omega) hva, ?_⟩
          walk_at "go"
          refine ⟨_, _, _, _, rfl, rfl, SqT.of (s1 _ _ hb), at_of (j := i) (by omega) hvb, ?_⟩
          refine ⟨_, _, _, rfl, q1.mono s1, q2.mono s1, fun H2 s2 => ?_⟩
          walk_at "go"
          exact ⟨s1.trans s2, s2 _ _ hd⟩
        · rintro H' ⟨s1, hd⟩
          refine ⟨Nat.zero_le _, ?_⟩
          intro p hp
          generalize hp2 : upd _ p _ = H2
          have s2 := Same.of_eq hp2 hp
          replace hp2 := new_at hp2
          refine ⟨_, _, .lst (SqL.of (s2 _ _ hd)) .nil, .lst (SqL.of hp2) .nil, by decide +kernel, by decide +kernel, ?_⟩
          exact q _ (s1.trans s2)
theorem len_listed (h : sp_listed K vs H Q E) : vs.length = 2 := by
  obtain ⟨x, y, d, rfl, _⟩ := h
  rfl
theorem pure_listed (h : sp_listed K vs H Q E) : t_listed K (ends Q) (st 2 vs) H := by
  obtain ⟨x, y, ds, rfl, ⟨a, xs, rfl, ha, hla, hpa⟩, ⟨b, ys, rfl, hb, hlb, hpb⟩, q⟩ := h
  walk_at "go"
  walk_at "isT"
  refine ⟨_, rfl, ?_⟩
  walk_at "go"
  refine ⟨_, _, rfl, .inl ⟨SqL.of ha, ?_⟩⟩
  intro p hp
  generalize hp1 : upd _ p _ = H1
  have s1 := Same.of_eq hp1 hp
  replace hp1 := new_at hp1
  walk_at "go"
  refine ⟨_, _, rfl, .inl ⟨SqL.of (s1 _ _ hb), ?_⟩⟩
  intro p' hp'
  generalize hp2 : upd _ p' _ = H2
  have s2 := Same.of_eq hp2 hp'
  replace hp2 := new_at hp2
  refine ⟨_, _, _, rfl, .inr ⟨_, _, ds, rfl, rfl, s2 _ _ hp1, hla, paired_mono (fun _ _ q => DD.mono (s1.trans s2) q) hpa⟩, .inr ⟨_, _, ds, rfl, rfl, hp2, hlb, paired_mono (fun _ _ q => DD.mono (s1.trans s2) q) hpb⟩, fun H3 s3 => ?_⟩
  exact q _ ((s1.trans s2).trans s3)
end Ar
namespace Ar
open PySem PySem.Spec L2
local macro_rules | `(tactic| walk_at "g1") => `(tactic| first
  | refine ⟨_, rfl, ?_⟩
  | refine ⟨_, _, rfl, rfl, ?_⟩
  | refine ⟨(by show (0 : Int) < _; decide), ?_⟩
  | refine ⟨⟨by decide, by decide⟩, ?_⟩
  | refine ⟨(show CMul _ _ from .inl ⟨by omega, by omega⟩), ?_⟩
  | refine ⟨(show CMul _ _ from .inr ⟨by omega, by omega⟩), ?_⟩
  | refine ⟨(show (_ : Int) ≠ 0 by decide), ?_⟩
  | refine ⟨sz2, ?_⟩
  | refine ⟨sz0, ?_⟩
  | refine ⟨sz3, ?_⟩)
local macro_rules | `(tactic| walk_at "ty") => `(tactic| first | exact .int _ | exact .bl _ | exact .tup (by assumption) | exact .lst (by assumption))
local macro_rules | `(tactic| walk_at "isT") => `(tactic| refine ⟨_, _, _, _, true, rfl, .ty _, .base (by walk_at "ty"), kit_ty (by decide +kernel), ?_⟩)
local macro_rules | `(tactic| walk_at "isF") => `(tactic| refine ⟨_, _, _, _, false, rfl, .ty _, .base (by walk_at "ty"), kit_ty (by decide +kernel), ?_⟩)
local macro_rules | `(tactic| walk_at "cell") => `(tactic| ((repeat walk_at "g1"); refine ⟨_, _, _, rfl, (by assumption), (by assumption), (by first | decide | omega), ?_⟩; repeat walk_at "g1"))
local macro_rules | `(tactic| walk_at "go") => `(tactic| repeat walk_at "g1")
def t_clashes (K : PySem.W.Frag) : TS :=
  (tSeq (tIfS (tOr (tNot (tB (tCB (rIsi K) (tCons (tVar 2) (tCons (tC (.ty "list")) tNil))))) (tOr (tTest (tOp rEq (tCB (cLen K) (tCons (tVar 2) tNil)) (tC (.int 0)))) (tTest (tOp (rNeD K) (tLc (iList K (tVar 2)) (gName 3) (tNot (tB (tCall (sp_pair K) [] E0 (tCons (tVar 3) tNil)))) (tVar 3) [3]) (tLst tNil))))) (tRet (tC (.bl false))) tNext) (tSeq (tIfS (tOr (tB (tDNotIn (tOp (rIxL K) (tVar 2) (tC (.int 0))) (tVar 0))) (tTest (tOp (rNeD K) (tOp (rIxL K) (tVar 2) (tUn oNeg (tC (.int 1)))) (tTup (tCons (tOp (rIxT K) (tOp (rIxL K) (tVar 2) (tC (.int 0))) (tC (.int 1))) (tCons (tOp (rIxT K) (tOp (rIxL K) (tVar 2) (tC (.int 0))) (tC (.int 0))) tNil)))))) (tRet (tC (.bl false))) tNext) (tSeq (tFor (iRng2 (tCons (tC (.int 1)) (tCons (tCB (cLen K) (tCons (tVar 2) tNil)) tNil))) (gName 4) (tIfS (tTest (tOp (rNotInD K) (tOp (rIxL K) (tVar 2) (tVar 4)) (tCall (sp_forces K) [] E0 (tCons (tVar 0) (tCons (tVar 1) (tCons (tOp (rIxL K) (tVar 2) (tOp oSub (tVar 4) (tC (.int 1)))) tNil)))))) (tRet (tC (.bl false))) tNext)) (tRet (tC (.bl true))))))
def t_told_pair (K : PySem.W.Frag) : TS :=
  (tRet (tAndV (tCB (rIsi K) (tCons (tVar 0) (tCons (tC (.ty "tuple")) tNil))) (tAndV (tOp rEq (tCB (cLen K) (tCons (tVar 0) tNil)) (tC (.int 2))) (tCB (rIsi K) (tCons (tOp (rIxT K) (tVar 0) (tC (.int 0))) (tCons (tC (.ty "bool")) tNil))))))
def t_right_k12 (K : PySem.W.Frag) : TS :=
  (tSeq (tIfS (tNot (tB (tCall (sp_told_pair K) [] E0 (tCons (tVar 2) tNil)))) (tRet (tC (.bl false))) tNext) (tSeq (tIfS (tB (tOp (rIxT K) (tVar 2) (tC (.int 0)))) (tRet (tCall (sp_turns K) [] E0 (tCons (tVar 0) (tCons (tOp (rIxT K) (tVar 2) (tC (.int 1))) tNil)))) tNext) (tRet (tCall (sp_clashes K) [] E0 (tCons (tVar 0) (tCons (tVar 1) (tCons (tOp (rIxT K) (tVar 2) (tC (.int 1))) tNil)))))))
variable {K : PySem.W.Frag} {vs : List V} {H : Hp} {Q : VK} {E : XK}
theorem len_told_pair (h : sp_told_pair K vs H Q E) : vs.length = 1 := by
  obtain ⟨t, b, v, rfl, _⟩ := h
  rfl
theorem pure_told_pair (h : sp_told_pair K vs H Q E) : t_told_pair K (ends Q) (st 1 vs) H := by
  obtain ⟨t, b, v, rfl, ht, q⟩ := h
  walk_at "go"
  walk_at "isT"
  walk_at "go"
  refine ⟨_, _, rfl, .inr (SqT.of ht), ?_⟩
  walk_at "go"
  refine ⟨rfl, _, rfl, iteE (fun _ => ?_) (fun c => absurd rfl c)⟩
  walk_at "go"
  refine ⟨_, _, _, _, rfl, rfl, SqT.of ht, at0, ?_⟩
  walk_at "go"
  walk_at "isT"
  exact q
theorem len_clashes (h : sp_clashes K vs H Q E) : vs.length = 3 := by
  obtain ⟨d, l, n, a, xs, qs, rfl, _⟩ := h
  rfl
theorem pure_clashes (h : sp_clashes K vs H Q E) : t_clashes K (ends Q) (st 5 vs) H := by
  obtain ⟨d, l, n, a, xs, qs, rfl, hd, g, hn, ha, tt, ⟨p, hp, row, lr⟩, q⟩ := h
  have fl := g.few hn
  have lx : xs.length = qs.length := by rw [paired_len tt]; simp
  have l0 : 0 < xs.length := by have := row.ne; omega
  walk_at "go"
  walk_at "isT"
  walk_at "go"
  refine ⟨_, _, rfl, .inl (SqL.of ha), ?_⟩
  walk_at "go"
  refine ⟨rfl, _, rfl, iteE (fun c => ?_) fun _ => ?_⟩
  · exfalso
    omega
  walk_at "go"
  refine ⟨⟨_, SqL.of ha⟩, fun D hD => ?_⟩
  refine lc_list (K := K) (a := a) (xs := xs) (fun i H' => Same H H' ∧ H' D = some (.lst [])) ⟨Same.new hD, upd_same⟩ (fun i G _ ⟨s, _⟩ => SqL.of (s _ _ ha)) ?_ ?_
  · rintro i x G hx ⟨s1, hy⟩
    obtain ⟨y, _, t, rfl, ht⟩ := TLp.at tt hx
    refine ⟨rfl, ?_⟩
    walk_at "go"
    refine ⟨t, _, _, rfl, s1 _ _ ht, ?_⟩
    walk_at "go"
    exact ⟨s1, hy⟩
  rintro G ⟨s1, hy⟩
  walk_at "go"
  refine fun e0 ne0 => ?_
  generalize h2 : upd _ e0 _ = G1
  have s2 := Same.of_eq h2 ne0
  replace h2 := new_at h2
  have s12 := s1.trans s2
  have em : PyData.eqv (.list []) (.list []) = true := rfl
  refine ⟨.list [], .list [], .lst (SqL.of (s2 _ _ hy)) .nil, .lst (SqL.of h2) .nil, by decide +kernel, by decide +kernel, ?_⟩
  rw [em]
  obtain ⟨v0, hv0, t0, rfl, ht0⟩ := paired_get2 tt (i := 0) (b := p2 p) (by rw [List.getElem?_map, row.first]; rfl)
  obtain ⟨v1, hv1, t1, rfl, ht1⟩ := paired_get2 tt (i := qs.length - 1) (b := p2 (sw p)) (by rw [List.getElem?_map, row.last]; rfl)
  walk_at "go"
  refine ⟨a, _, _, _, rfl, rfl, SqL.of (s12 _ _ ha), at_of (j := 0) rfl hv0, ?_⟩
  walk_at "go"
  refine ⟨_, _, rfl, DGet.t (k := kp p) (s12 _ _ hd) (s12 _ _ ht0), ?_⟩
  walk_at "go"
  rw [some_hk, decide_eq_true hp]
  walk_at "go"
  have hlast : atI xs (-1) = some (.ref t1) := by
    unfold atI ixN
    have c1 : ¬ (0 : Int) ≤ -1 := by decide
    have c2 : -(xs.length : Int) ≤ -1 := by omega
    rw [if_neg c1, if_pos c2]
    have e : ((-1 : Int) + (xs.length : Int)).toNat = qs.length - 1 := by omega
    show xs[((-1 : Int) + (xs.length : Int)).toNat]? = _
    rw [e]
    exact hv1
  refine ⟨a, _, _, _, rfl, rfl, SqL.of (s12 _ _ ha), hlast, ?_⟩
  walk_at "go"
  refine ⟨a, _, _, _, rfl, rfl, SqL.of (s12 _ _ ha), at_of (j := 0) rfl hv0, ?_⟩
  walk_at "go"
  refine ⟨_, _, _, _, rfl, rfl, SqT.of (s12 _ _ ht0), at1, ?_⟩
  walk_at "go"
  refine ⟨a, _, _, _, rfl, rfl, SqL.of (s12 _ _ ha), at_of (j := 0) rfl hv0, ?_⟩
  walk_at "go"
  refine ⟨_, _, _, _, rfl, rfl, SqT.of (s12 _ _ ht0), at0, ?_⟩
  walk_at "go"
  refine fun u nu => ?_
  generalize e3 : upd _ u _ = G2
  have s3 := Same.of_eq e3 nu
  replace e3 := new_at e3
  have s13 := s12.trans s3
  refine ⟨dI (p2 (sw p)), dI (p2 (sw p)), dp_ti ⟨t1, rfl, s13 _ _ ht1⟩, dp_ti ⟨u, rfl, e3⟩, shaped_dI _, shaped_dI _, ?_⟩
  rw [eqv_dI, decide_eq_true rfl]
  walk_at "go"
  refine ⟨_, _, rfl, .inl (SqL.of (s13 _ _ ha)), ?_⟩
  walk_at "go"
  refine ⟨_, _, rfl, ⟨by omega, by omega, by omega, by omega⟩, for_m (lo := 1) (n := xs.length) (fun i σ G => ∃ (o3 o4 : Option V), σ = [some (.ref d), some (.int n), some (.ref a), o3, o4] ∧ Same H G)
    ⟨_, _, rfl, s13⟩ ?_ ?_ (by omega) (by omega)⟩
  · rintro i σ G3 hi hin ⟨o3, o4, rfl, s4⟩
    obtain ⟨vi, hvi⟩ : ∃ v, xs[i]? = some v := ⟨xs[i], by simp [hin]⟩
    obtain ⟨vj, hvj⟩ : ∃ v, xs[i - 1]? = some v := ⟨xs[i - 1]'(by omega), by rw [List.getElem?_eq_getElem]⟩
    obtain ⟨y, hy1, ty, rfl, hty⟩ := TLp.at tt hvi
    obtain ⟨z, hz1, tz, rfl, htz⟩ := TLp.at tt hvj
    have step : y ∈ fcs n l z := row.at (k := i - 1) hz1 (by rw [Nat.sub_add_cancel hi]; exact hy1)
    walk_at "go"
    refine ⟨a, _, _, _, rfl, rfl, SqL.of (s4 _ _ ha), at_of (j := i) rfl hvi, ?_⟩
    walk_at "go"
    refine ⟨a, _, _, _, rfl, rfl, SqL.of (s4 _ _ ha), at_of (j := i - 1) (by omega) hvj, ?_⟩
    refine ⟨d, l, n, tz, z.1, z.2, rfl, s4 _ _ hd, g, hn, s4 _ _ htz, fun p' G4 ys np s5 e5 ty5 => ?_⟩
    refine ⟨dI (p2 y), (List.map p2 (fcs n l z)).map dI, dp_ti ⟨ty, rfl, s5 _ _ (s4 _ _ hty)⟩, dp_tl (SqL.of e5) ty5, shaped_dI _, shaped_dIs _, ?_⟩
    have em2 : ((List.map p2 (fcs n l z)).map dI).any (fun w => PyData.eqv w (dI (p2 y))) = true := by
      rw [any_dI]
      exact decide_eq_true (List.mem_map.mpr ⟨y, step, rfl⟩)
    rw [em2]
    walk_at "go"
    exact ⟨_, _, rfl, s4.trans s5⟩
  · rintro σ G3 ⟨o3, o4, rfl, s4⟩
    walk_at "go"
    exact q _ s4
theorem len_right_k12 (h : sp_right_k12 K vs H Q E) : vs.length = 3 := by
  obtain ⟨d, l, n, t, r, b, xs, qs, rfl, _⟩ := h
  rfl
theorem Told.few {n : Nat} {l qs : List Arr} {b : Bool} (T : Told n l b qs) : qs.length ≤ l.length := by
  cases b with
  | true =>
    have := (T.yes rfl).1.all
    omega
  | false =>
    obtain ⟨p, hp, _, h⟩ := T.no rfl
    exact h
theorem pure_right_k12 (h : sp_right_k12 K vs H Q E) : t_right_k12 K (ends Q) (st 3 vs) H := by
  obtain ⟨d, l, n, t, r, b, xs, qs, rfl, hd, g, hn, ht, hr, tr, T, q⟩ := h
  have fl := g.few hn
  have fq := T.few
  walk_at "go"
  refine ⟨t, b, _, rfl, ht, ?_⟩
  walk_at "go"
  refine ⟨_, _, _, _, rfl, rfl, SqT.of ht, at0, ?_⟩
  walk_at "go"
  cases b with
  | true =>
    walk_at "go"
    refine ⟨_, _, _, _, rfl, rfl, SqT.of ht, at1, ?_⟩
    refine ⟨d, l, r, xs, qs, rfl, hd, hr, tr, by omega, fun b' H' hb s => ?_⟩
    have : b' = true := hb.mpr (T.yes rfl).1
    subst this
    exact q H' s
  | false =>
    walk_at "go"
    refine ⟨_, _, _, _, rfl, rfl, SqT.of ht, at1, ?_⟩
    exact ⟨d, l, n, r, xs, qs, rfl, hd, g, hn, hr, tr, T.no rfl, q⟩
end Ar
namespace Ar
open PySem PySem.Spec L2
local macro_rules | `(tactic| walk_at "g1") => `(tactic| first
  | refine ⟨_, rfl, ?_⟩
  | refine ⟨_, _, rfl, rfl, ?_⟩
  | refine ⟨(by show (0 : Int) < _; decide), ?_⟩
  | refine ⟨⟨by decide, by decide⟩, ?_⟩
  | refine ⟨(show CMul _ _ from .inl ⟨by omega, by omega⟩), ?_⟩
  | refine ⟨(show CMul _ _ from .inr ⟨by omega, by omega⟩), ?_⟩
  | refine ⟨(show (_ : Int) ≠ 0 by decide), ?_⟩
  | refine ⟨sz2, ?_⟩
  | refine ⟨sz0, ?_⟩
  | refine ⟨sz3, ?_⟩)
local macro_rules | `(tactic| walk_at "ty") => `(tactic| first | exact .int _ | exact .bl _ | exact .tup (by assumption) | exact .lst (by assumption))
local macro_rules | `(tactic| walk_at "isT") => `(tactic| refine ⟨_, _, _, _, true, rfl, .ty _, .base (by walk_at "ty"), kit_ty (by decide +kernel), ?_⟩)
local macro_rules | `(tactic| walk_at "isF") => `(tactic| refine ⟨_, _, _, _, false, rfl, .ty _, .base (by walk_at "ty"), kit_ty (by decide +kernel), ?_⟩)
local macro_rules | `(tactic| walk_at "cell") => `(tactic| ((repeat walk_at "g1"); refine ⟨_, _, _, rfl, (by assumption), (by assumption), (by first | decide | omega), ?_⟩; repeat walk_at "g1"))
local macro_rules | `(tactic| walk_at "go") => `(tactic| repeat walk_at "g1")
def t_above (K : PySem.W.Frag) : TS :=
  (tSeq (tAsg tDNewT (gName 3)) (tSeq (tFor (iRng1 (tCons (tVar 0) tNil)) (gName 4) (tFor (iRng1 (tCons (tVar 0) tNil)) (gName 5) (tSeq (tAsg (tOp oLt (tOp (rIxL K) (tVar 1) (tVar 4)) (tOp (rIxL K) (tVar 1) (tVar 5))) (gName 6)) (sDPut (tVar 3) (tTup (tCons (tVar 4) (tCons (tVar 5) tNil))) (tAndV (tVar 6) (tOp oLt (tOp (rIxL K) (tVar 2) (tVar 4)) (tOp (rIxL K) (tVar 2) (tVar 5)))))))) (tRet (tVar 3))))
def t_reached (K : PySem.W.Frag) : TS :=
  (tSeq (tAsg tDNewT (gName 2)) (tSeq (tFor (iRng1 (tCons (tVar 0) tNil)) (gName 3) (tFor (iRng1 (tCons (tVar 0) tNil)) (gName 4) (sDPut (tVar 2) (tTup (tCons (tVar 3) (tCons (tVar 4) tNil))) (tAndV (tOp oLt (tVar 3) (tVar 4)) (tCall (sp_bit K) [] E0 (tCons (tVar 1) (tCons (tOp oAdd (tOp oMul (tVar 3) (tVar 0)) (tVar 4)) tNil))))))) (tSeq (tFor (iRng1 (tCons (tVar 0) tNil)) (gName 5) (tFor (iRng1 (tCons (tVar 5) tNil)) (gName 3) (tFor (iRng2 (tCons (tOp oAdd (tVar 5) (tC (.int 1))) (tCons (tVar 0) tNil))) (gName 4) (tIfS (tAnd (tB (tDGet (tVar 2) (tTup (tCons (tVar 3) (tCons (tVar 5) tNil))))) (tB (tDGet (tVar 2) (tTup (tCons (tVar 5) (tCons (tVar 4) tNil)))))) (sDPut (tVar 2) (tTup (tCons (tVar 3) (tCons (tVar 4) tNil))) (tC (.bl true))) tNext)))) (tRet (tVar 2)))))
def t_ringed (K : PySem.W.Frag) : TS :=
  (tSeq (tAsg tDNewT (gName 2)) (tSeq (tFor (iRng1 (tCons (tVar 0) tNil)) (gName 3) (tSeq (sDPut (tVar 2) (tTup (tCons (tVar 3) (tCons (tOp oModN (tOp oAdd (tVar 3) (tC (.int 1))) (tVar 0)) tNil))) (tC (.bl true))) (tIfS (tAnd (tTest (tOp rEq (tOp oMod (tVar 1) (tC (.int 3))) (tC (.int 1)))) (tAnd (tTest (tOp oGt (tVar 3) (tC (.int 0)))) (tTest (tOp oGt (tVar 0) (tC (.int 6)))))) (sDPut (tVar 2) (tTup (tCons (tVar 3) (tCons (tOp oModN (tOp oAdd (tVar 3) (tC (.int 3))) (tVar 0)) tNil))) (tCall (sp_bit K) [] E0 (tCons (tVar 1) (tCons (tVar 3) tNil)))) tNext))) (tRet (tVar 2))))
def t_made (K : PySem.W.Frag) : TS :=
  (tSeq (tAsg tDNewT (gName 3)) (tSeq (tIfS (tTest (tOp oLt (tVar 0) (tC (.int 2)))) (tSeq (tFor (iRng1 (tCons (tVar 1) tNil)) (gName 4) (tFor (iRng1 (tCons (tVar 4) tNil)) (gName 5) (sDPut (tVar 3) (tTup (tCons (tVar 4) (tCons (tVar 5) tNil))) (tCall (sp_bit K) [] E0 (tCons (tVar 2) (tCons (tOp oAdd (tOp oMul (tVar 4) (tVar 1)) (tVar 5)) tNil)))))) (tRet (tVar 3))) tNext) (tSeq (tIfS (tTest (tOp oLt (tVar 0) (tC (.int 4)))) (tRet (tCall (sp_above K) [] E0 (tCons (tVar 1) (tCons (tCall (sp_order K) [] E0 (tCons (tVar 2) (tCons (tVar 1) tNil))) (tCons (tCall (sp_order K) [] E0 (tCons (tOp oAdd (tOp oDiv (tVar 2) (tC (.int 7))) (tC (.int 5))) (tCons (tVar 1) tNil))) tNil))))) tNext) (tSeq (tIfS (tTest (tOp rEq (tVar 0) (tC (.int 4)))) (tSeq (tFor (iRng2 (tCons (tC (.int 1)) (tCons (tVar 1) tNil))) (gName 4) (sDPut (tVar 3) (tTup (tCons (tVar 4) (tCons (tOp oModN (tCall (sp_drawn K) [] E0 (tCons (tOp oAdd (tVar 2) (tC (.int 3))) (tCons (tVar 4) tNil))) (tVar 4)) tNil))) (tC (.bl true)))) (tRet (tVar 3))) tNext) (tSeq (tIfS (tTest (tOp rEq (tVar 0) (tC (.int 5)))) (tRet (tCall (sp_ringed K) [] E0 (tCons (tVar 1) (tCons (tVar 2) tNil)))) tNext) (tSeq (tIfS (tTest (tOp rEq (tVar 0) (tC (.int 6)))) (tRet (tCall (sp_reached K) [] E0 (tCons (tVar 1) (tCons (tVar 2) tNil)))) tNext) (tSeq (tFor (iRng1 (tCons (tVar 1) tNil)) (gName 4) (tFor (iRng1 (tCons (tVar 4) tNil)) (gName 5) (sDPut (tVar 3) (tTup (tCons (tVar 4) (tCons (tVar 5) tNil))) (tAndV (tOp rNe (tOp oMod (tVar 4) (tC (.int 2))) (tOp oMod (tVar 5) (tC (.int 2)))) (tCall (sp_bit K) [] E0 (tCons (tVar 2) (tCons (tOp oAdd (tOp oMul (tVar 4) (tVar 1)) (tVar 5)) tNil))))))) (tRet (tVar 3)))))))))
/-! ### a truth value stored by a pair -/
theorem dput_p {G : Hp} {dd : Addr} {l : List PB} {a b : Int} {v : Bool} {R : Hp → Prop} (hl : G dd = some (.dT (hb l))) (len : l.length < 16000000)
    (k : ∀ G1 : Hp, (∀ x o, x ≠ dd → G x = some o → G1 x = some o) → G1 dd = some (.dT (hb (putB l (a, b) v))) → R G1) :
    ∀ p, G p = none → ∃ c H4, V.ref dd = .ref c ∧ DPut (upd G p (.tup [.int a, .int b])) c (.ref p) (.bl v) H4 ∧ R H4 := by
  refine fun p np => ⟨dd, _, rfl, DPut.t (k := kp (a, b)) (kvs := hb l) (Same.new np _ _ hl) upd_same (lin' (by simpa [hb] using len)), ?_⟩
  rw [putK_hb]
  refine k _ (fun x o hx e => ?_) upd_same
  rw [upd_ne hx]
  exact Same.new np _ _ e
/-! ### loops that fill such a dict -/
/-- the entries keep a word; the places behind are filled -/
structure Fill (Pr : Int → Int → Bool → Prop) (Dn : Int → Int → Prop) (m : Nat) (l : List PB) : Prop where
  nd : (l.map (·.1)).Nodup
  pr : ∀ a b v, lookB l (a, b) = some v → Pr a b v
  dn : ∀ a b, Dn a b → ∃ v, lookB l (a, b) = some v
  len : l.length ≤ m
theorem Fill.nil {Pr : Int → Int → Bool → Prop} {Dn : Int → Int → Prop} (h : ∀ a b, ¬ Dn a b) : Fill Pr Dn 0 [] := ⟨.nil, fun _ _ _ e => (nomatch e), fun a b d => (h a b d).elim, Nat.le_refl _⟩
theorem Fill.put {Pr : Int → Int → Bool → Prop} {Dn Dn' : Int → Int → Prop} {m m' : Nat} {l : List PB} (F : Fill Pr Dn m l) {a b : Int} {v : Bool} (h : Pr a b v) (hd : ∀ x y, Dn' x y → Dn x y ∨ (x = a ∧ y = b)) (hm : m + 1 ≤ m') : Fill Pr Dn' m' (putB l (a, b) v) where
  nd := nodup_putB _ _ F.nd
  pr := fun x y w e => by
    rw [lookB_put] at e
    by_cases z : (x, y) = (a, b)
    · rw [if_pos z] at e
      cases e
      cases z
      exact h
    · rw [if_neg z] at e
      exact F.pr x y w e
  dn := fun x y d => by
    rw [lookB_put]
    by_cases z : (x, y) = (a, b)
    · rw [if_pos z]
      exact ⟨_, rfl⟩
    · rw [if_neg z]
      rcases hd x y d with q | ⟨rfl, rfl⟩
      · exact F.dn x y q
      · exact absurd rfl z
  len := Nat.le_trans (len_putB _ _ _) (by have := F.len; omega)
theorem Fill.to {Pr : Int → Int → Bool → Prop} {Dn Dn' : Int → Int → Prop} {m m' : Nat} {l : List PB} (F : Fill Pr Dn m l) (hd : ∀ x y, Dn' x y → Dn x y) (hm : m ≤ m') : Fill Pr Dn' m' l := ⟨F.nd, F.pr, fun a b d => F.dn a b (hd a b d), Nat.le_trans F.len hm⟩
/-- a filled dict whose true entries are ties, one way about -/
theorem Fill.simple {Pr : Int → Int → Bool → Prop} {Dn : Int → Int → Prop} {m n : Nat} {l : List PB} (F : Fill Pr Dn m l) (h : ∀ a b, Pr a b true → 0 ≤ a ∧ a < n ∧ 0 ≤ b ∧ b < n ∧ a ≠ b ∧ ¬ Pr b a true) : Simple n l :=
  ⟨F.nd, fun a b e => by
    obtain ⟨h1, h2, h3, h4, h5, h6⟩ := h a b (F.pr a b _ ((mem_lookB F.nd).mp e))
    exact ⟨h1, h2, h3, h4, h5, fun z => h6 (F.pr b a _ ((mem_lookB F.nd).mp z))⟩⟩
theorem Fill.tie {Pr : Int → Int → Bool → Prop} {Dn : Int → Int → Prop} {m : Nat} {l : List PB} (F : Fill Pr Dn m l) {a b : Int} (h : TieB l a b) : Pr a b true ∨ Pr b a true := by
  rcases h with h | h
  · exact .inl (F.pr a b _ ((mem_lookB F.nd).mp h))
  · exact .inr (F.pr b a _ ((mem_lookB F.nd).mp h))
/-- ties between points of two kinds can be turned -/
theorem ord_two {T : Int → Int → Prop} (k : Int → Bool) (sym : ∀ a b, T a b → T b a) (h : ∀ a b, T a b → k a ≠ k b) : OrdOf T := by
  refine ⟨fun a b => T a b ∧ k a = true, fun a b c h1 h2 => ?_, fun a h1 => h a a h1.1 rfl, fun a b => ⟨fun t => ?_, fun t => t.elim (·.1) fun t => sym _ _ t.1⟩⟩
  · exact absurd (h1.2.trans h2.2.symm) (h _ _ h1.1)
  · cases e : k a with
    | true => exact .inl ⟨t, e⟩
    | false =>
      right
      refine ⟨sym _ _ t, ?_⟩
      have := h a b t
      rw [e] at this
      cases e2 : k b with
      | true => rfl
      | false => exact absurd e2.symm this
/-- a strict order's own pairs -/
theorem ord_self {T R : Int → Int → Prop} (tr : ∀ a b c, R a b → R b c → R a c) (ir : ∀ a, ¬ R a a) (h : ∀ a b, T a b ↔ R a b ∨ R b a) : OrdOf T := ⟨R, tr, ir, h⟩
theorem TieB.symm {l : List PB} {a b : Int} (h : TieB l a b) : TieB l b a := h.elim .inr .inl
variable {K : PySem.W.Frag} {vs : List V} {H : Hp} {Q : VK} {E : XK}
theorem len_above (h : sp_above K vs H Q E) : vs.length = 3 := by
  obtain ⟨n, fa, sa, fs, ss, rfl, _⟩ := h
  rfl
/-- the places of a double loop that lie behind turn (i, j) -/
def Behind (n i j : Nat) (a b : Int) : Prop := 0 ≤ a ∧ 0 ≤ b ∧ b < n ∧ (a < i ∨ (a = i ∧ b < j))
theorem behind_step {n i j : Nat} (h : j < n) : ∀ x y, Behind n i (j + 1) x y → Behind n i j x y ∨ (x = i ∧ y = j) := fun x y ⟨h1, h2, h3, h4⟩ => by
  unfold Behind
  omega
theorem behind_row {n i : Nat} : ∀ x y, Behind n (i + 1) 0 x y → Behind n i n x y := fun x y ⟨h1, h2, h3, h4⟩ => by
  unfold Behind
  omega
theorem pure_above (h : sp_above K vs H Q E) : t_above K (ends Q) (st 7 vs) H := by
  obtain ⟨n, fa, sa, fs, ss, rfl, hn, hfa, hsa, lf, ls, q⟩ := h
  let Pr : Int → Int → Bool → Prop := fun a b v => 0 ≤ a ∧ a < n ∧ 0 ≤ b ∧ b < n ∧ (v = true ↔ fs.getD a.toNat 0 < fs.getD b.toNat 0 ∧ ss.getD a.toNat 0 < ss.getD b.toNat 0)
  refine fun dd ndd => ?_
  generalize e1 : upd _ dd _ = H1
  have s1 := Same.of_eq e1 ndd
  replace e1 := new_at e1
  have z0 : (n : Int).toNat = n := by omega
  refine ⟨_, rfl, _, rfl, by omega, by omega, for_range (lo := 0) (n := (n : Int).toNat) (fun i σ G => ∃ (o4 o5 o6 : Option V) (l : List PB), σ = [some (.int n), some (.ref fa), some (.ref sa), some (.ref dd), o4, o5, o6] ∧ Same H G ∧ G dd = some (.dT (hb l)) ∧ Fill Pr (Behind n i 0) (i * n) l)
    ⟨_, _, _, [], rfl, s1, e1, by
      have := Fill.nil (Pr := Pr) (Dn := Behind n 0 0) fun a b ⟨h1, h2, h3, h4⟩ => by omega
      simpa using this⟩ ?_ ?_⟩
  · rintro i σ G hi ⟨o4, o5, o6, l, rfl, s0, hd, F⟩
    rw [z0] at hi
    refine ⟨_, rfl, _, rfl, by omega, by omega, for_range (lo := 0) (n := (n : Int).toNat) (fun j σ G => ∃ (o5 o6 : Option V) (l : List PB), σ = [some (.int n), some (.ref fa), some (.ref sa), some (.ref dd), some (.int (0 + (i : Int))), o5, o6] ∧ Same H G ∧ G dd = some (.dT (hb l)) ∧ Fill Pr (Behind n i j) (i * n + j) l)
      ⟨_, _, l, rfl, s0, hd, F⟩ ?_ ?_⟩
    · rintro j σ G hj ⟨o5, o6, l, rfl, s0, hd, F⟩
      rw [z0] at hj
      have li : l.length < 16000000 := by
        have h1 := F.len
        have h2 : i * n ≤ 24 * 24 := Nat.mul_le_mul (by omega) hn
        omega
      have hf := SqL.of (K := K) (s0 _ _ hfa)
      have hs := SqL.of (K := K) (s0 _ _ hsa)
      have ge : ∀ {ms : List Int} {k : Nat}, ms.length = n → k < n → atI (ms.map V.int) (0 + (k : Int)) = some (.int (ms.getD k 0)) := fun e hk => at_of (Int.zero_add _) (get_ints (by omega))
      walk_at "go"
      refine ⟨_, _, _, _, rfl, rfl, hf, ge lf hi, ?_⟩
      walk_at "go"
      refine ⟨_, _, _, _, rfl, rfl, hf, ge lf hj, ?_⟩
      walk_at "go"
      have done : ∀ (v : Bool), Pr i j v → ∀ G1 : Hp, (∀ x o, x ≠ dd → G x = some o → G1 x = some o) → G1 dd = some (.dT (hb (putB l (0 + (i : Int), 0 + (j : Int)) v))) →
          ∃ (l : List PB), Same H G1 ∧ G1 dd = some (.dT (hb l)) ∧ Fill Pr (Behind n i (j + 1)) (i * n + (j + 1)) l := fun v hv G1 k1 k2 => by
        refine ⟨_, fun x o e => k1 x o (ne_of_none e ndd) (s0 x o e), k2, ?_⟩
        rw [Int.zero_add, Int.zero_add]
        exact F.put hv (behind_step hj) (by omega)
      refine iteD (fun c1 => ?_) fun c1 => ?_
      · walk_at "go"
        refine ⟨_, _, _, _, rfl, rfl, hs, ge ls hi, ?_⟩
        walk_at "go"
        refine ⟨_, _, _, _, rfl, rfl, hs, ge ls hj, ?_⟩
        walk_at "go"
        refine dput_p hd li fun G1 k1 k2 => ?_
        obtain ⟨l2, a1, a2, a3⟩ := done _ ⟨by omega, by omega, by omega, by omega, by
          have e1 : (i : Int).toNat = i := by omega
          have e2 : (j : Int).toNat = j := by omega
          rw [decide_eq_true_eq, e1, e2]
          exact ⟨fun h => ⟨c1, h⟩, fun h => h.2⟩⟩ G1 k1 k2
        exact ⟨_, _, l2, rfl, a1, a2, a3⟩
      · walk_at "go"
        refine dput_p hd li fun G1 k1 k2 => ?_
        obtain ⟨l2, a1, a2, a3⟩ := done false ⟨by omega, by omega, by omega, by omega, by
          have e1 : (i : Int).toNat = i := by omega
          have e2 : (j : Int).toNat = j := by omega
          rw [e1, e2]
          exact ⟨fun h => (nomatch h), fun h => absurd h.1 c1⟩⟩ G1 k1 k2
        exact ⟨_, _, l2, rfl, a1, a2, a3⟩
    · rintro σ G ⟨o5, o6, l, rfl, s0, hd, F⟩
      rw [z0] at F
      exact ⟨_, _, _, l, rfl, s0, hd, F.to behind_row (by rw [Nat.succ_mul]; exact Nat.le_refl _)⟩
  · rintro σ G ⟨o4, o5, o6, l, rfl, s0, hd, F⟩
    rw [z0] at F
    walk_at "go"
    refine q l dd G (F.simple fun a b ⟨h1, h2, h3, h4, h5⟩ => ⟨h1, h2, h3, h4, fun e => ?_, fun ⟨_, _, _, _, k⟩ => ?_⟩) ?_ (by
      have h1 := F.len
      have h2 : n * n ≤ 24 * 24 := Nat.mul_le_mul hn hn
      omega) ndd s0 hd
    · subst e
      have := (h5.mp rfl).1
      omega
    · have e1 := (h5.mp rfl).1
      have e2 := (k.mp rfl).1
      omega
    · refine ord_self (R := fun a b => Pr a b true) (fun a b c ⟨h1, h2, h3, h4, h5⟩ ⟨k1, k2, k3, k4, k5⟩ => ⟨h1, h2, k3, k4, ?_⟩) (fun a ⟨_, _, _, _, h⟩ => by have := (h.mp rfl).1; omega) fun a b => ⟨fun t => F.tie t, fun t => ?_⟩
      · have e1 := h5.mp rfl
        have e2 := k5.mp rfl
        exact ⟨fun _ => ⟨by omega, by omega⟩, fun _ => rfl⟩
      · have all : ∀ a b, Pr a b true → ((a, b), true) ∈ l := fun a b ⟨h1, h2, h3, h4, h5⟩ => by
          obtain ⟨v, hv⟩ := F.dn a b ⟨h1, h3, h4, .inl h2⟩
          have hp := F.pr a b v hv
          have : v = true := hp.2.2.2.2.mpr (h5.mp rfl)
          rw [this] at hv
          exact (mem_lookB F.nd).mpr hv
        exact t.elim (fun t => .inl (all _ _ t)) fun t => .inr (all _ _ t)
theorem len_reached (h : sp_reached K vs H Q E) : vs.length = 2 := by
  obtain ⟨n, c, rfl, _⟩ := h
  rfl
theorem len_putB_mem {l : List PB} {p : Int × Int} {b v : Bool} (h : lookB l p = some v) : (putB l p b).length = l.length := by
  have : p ∈ l.map (·.1) := by
    by_cases z : p ∈ l.map (·.1)
    · exact z
    · rw [lookB_none.mpr z] at h
      cases h
  unfold putB
  rw [if_pos this, List.length_map]
/-- the entry stands true -/
def On (l : List PB) (a b : Int) : Prop := lookB l (a, b) = some true
theorem on_put {l : List PB} {a b x y : Int} : On (putB l (a, b) true) x y ↔ (x = a ∧ y = b) ∨ On l x y := by
  unfold On
  rw [lookB_put]
  by_cases z : (x, y) = (a, b)
  · rw [if_pos z]
    cases z
    simp
  · rw [if_neg z]
    constructor
    · exact Or.inr
    · rintro (⟨rfl, rfl⟩ | w)
      · exact absurd rfl z
      · exact w
/-- all pairs of points below n have an entry, the true ones rise -/
structure Grid (n : Nat) (l : List PB) : Prop where
  nd : (l.map (·.1)).Nodup
  up : ∀ a b, On l a b → 0 ≤ a ∧ a < b ∧ b < n
  all : ∀ a b : Int, 0 ≤ a → a < n → 0 ≤ b → b < n → ∃ v, lookB l (a, b) = some v
  len : l.length ≤ 1000
theorem Grid.put {n : Nat} {l : List PB} (G : Grid n l) {a b : Int} (h0 : 0 ≤ a) (h1 : a < b) (h2 : b < n) : Grid n (putB l (a, b) true) := by
  obtain ⟨v, hv⟩ := G.all a b h0 (by omega) (by omega) h2
  refine ⟨nodup_putB _ _ G.nd, fun x y h => ?_, fun x y k1 k2 k3 k4 => ?_, by rw [len_putB_mem hv]; exact G.len⟩
  · rcases on_put.mp h with ⟨rfl, rfl⟩ | h
    · exact ⟨h0, h1, h2⟩
    · exact G.up x y h
  · rw [lookB_put]
    by_cases z : (x, y) = (a, b)
    · rw [if_pos z]
      exact ⟨_, rfl⟩
    · rw [if_neg z]
      exact G.all x y k1 k2 k3 k4
/-- closed over the middles below m -/
def Clo (m : Nat) (T : Int → Int → Prop) : Prop := ∀ a k b : Int, 0 ≤ k → k < m → T a k → T k b → T a b
/-- what stands behind turn (i, j) of the two inner loops, for the middle m -/
def Mid (T : Int → Int → Prop) (m i j : Nat) (a b : Int) : Prop := T a b ∨ (T a m ∧ T m b ∧ (a < i ∨ (a = i ∧ b < j)))
theorem pure_reached (h : sp_reached K vs H Q E) : t_reached K (ends Q) (st 6 vs) H := by
  obtain ⟨n, c, rfl, hn, q⟩ := h
  let Pr : Int → Int → Bool → Prop := fun a b v => 0 ≤ a ∧ a < n ∧ 0 ≤ b ∧ b < n ∧ (v = true → a < b)
  refine fun dd ndd => ?_
  generalize e1 : upd _ dd _ = H1
  have s1 := Same.of_eq e1 ndd
  replace e1 := new_at e1
  have z0 : (n : Int).toNat = n := by omega
  refine ⟨_, rfl, _, rfl, by omega, by omega, for_n (fun i σ G => ∃ (o3 o4 : Option V) (l : List PB), σ = [some (.int n), some (.int c), some (.ref dd), o3, o4, none] ∧ Same H G ∧ G dd = some (.dT (hb l)) ∧ Fill Pr (Behind n i 0) (i * n) l)
    ⟨_, _, [], rfl, s1, e1, by
      have := Fill.nil (Pr := Pr) (Dn := Behind n 0 0) fun a b ⟨h1, h2, h3, h4⟩ => by omega
      simpa using this⟩ ?_ ?_⟩
  · rintro i σ G hi ⟨o3, o4, l, rfl, s0, hd, F⟩
    rw [z0] at hi
    refine ⟨_, rfl, _, rfl, by omega, by omega, for_n (fun j σ G => ∃ (o4 : Option V) (l : List PB), σ = [some (.int n), some (.int c), some (.ref dd), some (.int (i : Int)), o4, none] ∧ Same H G ∧ G dd = some (.dT (hb l)) ∧ Fill Pr (Behind n i j) (i * n + j) l)
      ⟨_, l, rfl, s0, hd, F⟩ ?_ ?_⟩
    · rintro j σ G hj ⟨o4, l, rfl, s0, hd, F⟩
      rw [z0] at hj
      have li : l.length < 16000000 := by
        have h1 := F.len
        have h2 : i * n ≤ 24 * 24 := Nat.mul_le_mul (by omega) hn
        omega
      have done : ∀ (v : Bool), (v = true → i < j) → ∀ G1 : Hp, (∀ x o, x ≠ dd → G x = some o → G1 x = some o) → G1 dd = some (.dT (hb (putB l ((i : Int), (j : Int)) v))) →
          ∃ (o4 : Option V) (l : List PB), [some (V.int n), some (.int c), some (.ref dd), some (.int (i : Int)), some (.int (j : Int)), none] = [some (.int n), some (.int c), some (.ref dd), some (.int (i : Int)), o4, none] ∧ Same H G1 ∧ G1 dd = some (.dT (hb l)) ∧ Fill Pr (Behind n i (j + 1)) (i * n + (j + 1)) l := fun v hv G1 k1 k2 => by
        refine ⟨_, _, rfl, fun x o e => k1 x o (ne_of_none e ndd) (s0 x o e), k2, ?_⟩
        exact F.put ⟨by omega, by omega, by omega, by omega, fun h => by have := hv h; omega⟩ (behind_step hj) (by omega)
      walk_at "go"
      refine iteD (fun c1 => ?_) fun c1 => ?_
      · walk_at "go"
        refine ⟨_, _, rfl, fun b => ?_⟩
        walk_at "go"
        exact dput_p hd li fun G1 k1 k2 => done b (fun _ => by omega) G1 k1 k2
      · walk_at "go"
        exact dput_p hd li fun G1 k1 k2 => done false (fun z => nomatch z) G1 k1 k2
    · rintro σ G ⟨o4, l, rfl, s0, hd, F⟩
      rw [z0] at F
      exact ⟨_, _, l, rfl, s0, hd, F.to behind_row (by rw [Nat.succ_mul]; exact Nat.le_refl _)⟩
  · rintro σ G ⟨o3, o4, l, rfl, s0, hd, F⟩
    rw [z0] at F
    have G0 : Grid n l := ⟨F.nd, fun a b e => by
      obtain ⟨h1, h2, h3, h4, h5⟩ := F.pr a b _ e
      exact ⟨h1, h5 rfl, h4⟩, fun a b h1 h2 h3 h4 => F.dn a b ⟨h1, h3, h4, .inl h2⟩, by
      have h1 := F.len
      have h2 : n * n ≤ 24 * 24 := Nat.mul_le_mul hn hn
      omega⟩
    refine ⟨_, rfl, _, rfl, by omega, by omega, for_n (fun m σ G => ∃ (o3 o4 o5 : Option V) (l : List PB), σ = [some (.int n), some (.int c), some (.ref dd), o3, o4, o5] ∧ Same H G ∧ G dd = some (.dT (hb l)) ∧ Grid n l ∧ Clo m (On l))
      ⟨_, _, _, l, rfl, s0, hd, G0, fun a k b h1 h2 => by omega⟩ ?_ ?_⟩
    · rintro m σ G hm ⟨o3, o4, o5, l, rfl, s0, hd, G0, C0⟩
      rw [z0] at hm
      have zm : (m : Int).toNat = m := by omega
      have lt0 : ∀ a, On l a m → 0 ≤ a ∧ a < m := fun a h => by have := G0.up _ _ h; omega
      have gt0 : ∀ b, On l m b → (m : Int) < b ∧ b < n := fun b h => by have := G0.up _ _ h; omega
      refine ⟨_, rfl, _, rfl, by omega, by omega, for_n (fun i σ G => ∃ (o3 o4 : Option V) (l' : List PB), σ = [some (.int n), some (.int c), some (.ref dd), o3, o4, some (.int (m : Int))] ∧ Same H G ∧ G dd = some (.dT (hb l')) ∧ Grid n l' ∧ ∀ a b, On l' a b ↔ Mid (On l) m i 0 a b)
        ⟨_, _, l, rfl, s0, hd, G0, fun a b => ⟨Or.inl, fun h => h.elim id fun ⟨h1, h2, h3⟩ => by have := lt0 a h1; have := gt0 b h2; omega⟩⟩ ?_ ?_⟩
      · rintro i σ G hi ⟨o3, o4, l1, rfl, s0, hd, G1, M1⟩
        rw [zm] at hi
        refine ⟨_, rfl, _, _, rfl, rfl, _, rfl, _, _, rfl, ⟨by omega, by omega, by omega, by omega⟩, for_m (lo := m + 1) (n := n) (fun j σ G => ∃ (o4 : Option V) (l' : List PB), σ = [some (.int n), some (.int c), some (.ref dd), some (.int (i : Int)), o4, some (.int (m : Int))] ∧ Same H G ∧ G dd = some (.dT (hb l')) ∧ Grid n l' ∧ ∀ a b, On l' a b ↔ Mid (On l) m i j a b)
          ⟨_, l1, rfl, s0, hd, G1, fun a b => (M1 a b).trans ⟨fun h => h.imp id fun ⟨h1, h2, h3⟩ => ⟨h1, h2, by omega⟩, fun h => h.imp id fun ⟨h1, h2, h3⟩ => ⟨h1, h2, by have := gt0 b h2; omega⟩⟩⟩ ?_ ?_ (by omega) (by omega)⟩
        · rintro j σ G hj1 hj2 ⟨o4, l2, rfl, s0, hd, G2, M2⟩
          have am : ∀ a, On l2 a m ↔ On l a m := fun a => (M2 a m).trans ⟨fun h => h.elim id fun ⟨_, h2, _⟩ => by have := gt0 _ h2; omega, Or.inl⟩
          have mb : ∀ b, On l2 m b ↔ On l m b := fun b => (M2 m b).trans ⟨fun h => h.elim id fun ⟨h1, _, _⟩ => by have := lt0 _ h1; omega, Or.inl⟩
          have no : ¬ (On l i m ∧ On l m j) → ∀ a b, On l2 a b ↔ Mid (On l) m i (j + 1) a b := fun z a b => (M2 a b).trans ⟨fun h => h.imp id fun ⟨h1, h2, h3⟩ => ⟨h1, h2, by omega⟩, fun h => h.imp id fun ⟨h1, h2, h3⟩ => ⟨h1, h2, by
            by_cases w : a = i ∧ b = j
            · obtain ⟨rfl, rfl⟩ := w
              exact absurd ⟨h1, h2⟩ z
            · omega⟩⟩
          obtain ⟨v1, hv1⟩ := G2.all i m (by omega) (by omega) (by omega) (by omega)
          obtain ⟨v2, hv2⟩ := G2.all m j (by omega) (by omega) (by omega) (by omega)
          have on1 : v1 = true ↔ On l i m := by rw [← am]; unfold On; rw [hv1]; simp
          have on2 : v2 = true ↔ On l m j := by rw [← mb]; unfold On; rw [hv2]; simp
          walk_at "go"
          refine fun t1 nt1 => ?_
          generalize e3 : upd _ t1 _ = G3
          have s3 := Same.of_eq e3 nt1
          replace e3 := new_at e3
          refine ⟨dd, _, rfl, (by have := DGet.t (k := kp ((i : Int), (m : Int))) (s3 _ _ hd) e3; rw [valV_hb, hv1] at this; exact this), _, rfl, ?_⟩
          have stay : ∀ G' : Hp, Same G G' → ¬ (On l i m ∧ On l m j) → ∃ (o4 : Option V) (l' : List PB), [some (V.int n), some (.int c), some (.ref dd), some (.int (i : Int)), some (.int (j : Int)), some (.int (m : Int))] = [some (.int n), some (.int c), some (.ref dd), some (.int (i : Int)), o4, some (.int (m : Int))] ∧ Same H G' ∧ G' dd = some (.dT (hb l')) ∧ Grid n l' ∧ ∀ a b, On l' a b ↔ Mid (On l) m i (j + 1) a b := fun G' s z =>
            ⟨_, l2, rfl, s0.trans s, s _ _ hd, G2, no z⟩
          refine iteB (fun c1 => ?_) fun c1 => ?_
          · walk_at "go"
            refine fun t2 nt2 => ?_
            generalize e4 : upd _ t2 _ = G4
            have s4 := Same.of_eq e4 nt2
            replace e4 := new_at e4
            refine ⟨dd, _, rfl, (by have := DGet.t (k := kp ((m : Int), (j : Int))) (s4 _ _ (s3 _ _ hd)) e4; rw [valV_hb, hv2] at this; exact this), _, rfl, ?_⟩
            refine iteB (fun c2 => ?_) fun c2 => ?_
            · walk_at "go"
              refine dput_p (s4 _ _ (s3 _ _ hd)) (by have := G2.len; omega) fun G5 k1 k2 => ?_
              refine ⟨_, _, rfl, fun x o e => k1 x o (ne_of_none e ndd) (s4 _ _ (s3 _ _ (s0 x o e))), k2, G2.put (by omega) (by omega) (by omega), fun a b => on_put.trans ?_⟩
              rw [M2 a b]
              have y1 := on1.mp c1
              have y2 := on2.mp c2
              constructor
              · rintro (⟨rfl, rfl⟩ | h)
                · exact .inr ⟨y1, y2, by omega⟩
                · exact h.imp id fun ⟨h1, h2, h3⟩ => ⟨h1, h2, by omega⟩
              · rintro (h | ⟨h1, h2, h3⟩)
                · exact .inr (.inl h)
                · by_cases w : a = i ∧ b = j
                  · exact .inl w
                  · exact .inr (.inr ⟨h1, h2, by omega⟩)
            · exact stay _ (s3.trans s4) fun z => by rw [on2.mpr z.2] at c2; cases c2
          · exact stay _ s3 fun z => by rw [on1.mpr z.1] at c1; cases c1
        · rintro σ G ⟨o4, l2, rfl, s0, hd, G2, M2⟩
          refine ⟨_, _, l2, rfl, s0, hd, G2, fun a b => (M2 a b).trans ⟨fun h => h.imp id fun ⟨h1, h2, h3⟩ => ⟨h1, h2, by omega⟩, fun h => h.imp id fun ⟨h1, h2, h3⟩ => ⟨h1, h2, by have := gt0 b h2; omega⟩⟩⟩
      · rintro σ G ⟨o3, o4, l1, rfl, s0, hd, G1, M1⟩
        rw [zm] at M1
        have M2 : ∀ a b, On l1 a b ↔ On l a b ∨ (On l a m ∧ On l m b) := fun a b => (M1 a b).trans ⟨fun h => h.imp id fun ⟨h1, h2, h3⟩ => ⟨h1, h2⟩, fun h => h.imp id fun ⟨h1, h2⟩ => ⟨h1, h2, by have := lt0 a h1; omega⟩⟩
        refine ⟨_, _, _, l1, rfl, s0, hd, G1, fun a k b h1 h2 t1 t2 => ?_⟩
        rw [M2] at t1 t2 ⊢
        by_cases w : k = m
        · subst w
          have t1' : On l a m := t1.elim id fun ⟨_, z⟩ => by have := gt0 _ z; omega
          have t2' : On l m b := t2.elim id fun ⟨z, _⟩ => by have := lt0 _ z; omega
          exact .inr ⟨t1', t2'⟩
        · have t1' : On l a k := t1.elim id fun ⟨_, z⟩ => by have := gt0 _ z; omega
          rcases t2 with t2 | ⟨t2, t3⟩
          · exact .inl (C0 a k b h1 (by omega) t1' t2)
          · exact .inr ⟨C0 a k m h1 (by omega) t1' t2, t3⟩
    · rintro σ G ⟨o3, o4, o5, l, rfl, s0, hd, G0, C0⟩
      rw [z0] at C0
      walk_at "go"
      have on : ∀ a b, ((a, b), true) ∈ l ↔ On l a b := fun a b => mem_lookB G0.nd
      refine q l dd G ⟨G0.nd, fun a b e => ?_⟩ ?_ G0.len ndd s0 hd
      · have h := G0.up a b ((on a b).mp e)
        refine ⟨by omega, by omega, by omega, by omega, by omega, fun z => ?_⟩
        have h' := G0.up b a ((on b a).mp z)
        omega
      · refine ord_self (R := On l) (fun a b c h1 h2 => ?_) (fun a h => ?_) fun a b => ?_
        · have := G0.up a b h1
          have := G0.up b c h2
          exact C0 a b c (by omega) (by omega) h1 h2
        · have := G0.up a a h
          omega
        · unfold TieB
          rw [on, on]
theorem len_ringed (h : sp_ringed K vs H Q E) : vs.length = 2 := by
  obtain ⟨n, c, rfl, _⟩ := h
  rfl
/-- x % n, x below 2 n -/
theorem wrap {x n : Int} (h0 : 0 ≤ x) (hn : 0 < n) (h2 : x < 2 * n) : 0 ≤ x.fmod n ∧ x.fmod n < n ∧ (x.fmod n = x ∨ x.fmod n = x - n) := by
  rw [fmod_pos x hn]
  refine ⟨Int.emod_nonneg _ (by omega), Int.emod_lt_of_pos _ hn, ?_⟩
  by_cases h : x < n
  · exact .inl (Int.emod_eq_of_lt h0 h)
  · right
    have e : x = (x - n) + n := by omega
    rw [e, Int.add_emod_right, Int.emod_eq_of_lt (by omega) (by omega)]
    omega
def RingP (n : Nat) (c : Int) (a b : Int) (v : Bool) : Prop := 0 ≤ a ∧ a < n ∧ 0 ≤ b ∧ b < n ∧ ((b = a + 1 ∨ b = a + 1 - n) ∨ ((b = a + 3 ∨ b = a + 3 - n) ∧ 6 < n ∧ c % 3 = 1))
theorem pure_ringed (h : sp_ringed K vs H Q E) : t_ringed K (ends Q) (st 4 vs) H := by
  obtain ⟨n, c, rfl, hn3, hn, q⟩ := h
  refine fun dd ndd => ?_
  generalize e1 : upd _ dd _ = H1
  have s1 := Same.of_eq e1 ndd
  replace e1 := new_at e1
  have z0 : (n : Int).toNat = n := by omega
  refine ⟨_, rfl, _, rfl, by omega, by omega, for_n (fun i σ G => ∃ (o3 : Option V) (l : List PB), σ = [some (.int n), some (.int c), some (.ref dd), o3] ∧ Same H G ∧ G dd = some (.dT (hb l)) ∧ Fill (RingP n c) (fun _ _ => False) (2 * i) l)
    ⟨_, [], rfl, s1, e1, Fill.nil fun _ _ => id⟩ ?_ ?_⟩
  · rintro i σ G hi ⟨o3, l, rfl, s0, hd, F⟩
    rw [z0] at hi
    walk_at "go"
    refine ⟨by show (n : Int) ≠ 0; omega, ?_⟩
    walk_at "go"
    try dsimp only
    obtain ⟨w1, w2, w3⟩ := wrap (x := (i : Int) + 1) (n := n) (by omega) (by omega) (by omega)
    generalize ((i : Int) + 1).fmod n = x at w1 w2 w3
    refine dput_p hd (by have := F.len; omega) fun G1 k1 k2 => ?_
    have F1 := F.put (a := i) (b := x) (v := true) (Dn' := fun _ _ => False) (m' := 2 * i + 1) ⟨by omega, by omega, w1, w2, by omega⟩ (fun _ _ z => z.elim) (Nat.le_refl _)
    have s1 : Same H G1 := fun y o e => k1 y o (ne_of_none e ndd) (s0 y o e)
    have stay : ∃ (o3 : Option V) (l : List PB), [some (V.int n), some (.int c), some (.ref dd), some (.int (i : Int))] = [some (.int n), some (.int c), some (.ref dd), o3] ∧ Same H G1 ∧ G1 dd = some (.dT (hb l)) ∧ Fill (RingP n c) (fun _ _ => False) (2 * (i + 1)) l := ⟨_, _, rfl, s1, k2, F1.to (fun _ _ z => z) (by omega)⟩
    walk_at "go"
    refine ⟨rfl, _, rfl, iteE (fun c1 => ?_) fun c1 => ?_⟩
    · walk_at "go"
      refine iteD (fun c2 => ?_) fun c2 => ?_
      · walk_at "go"
        refine iteD (fun c3 => ?_) fun c3 => ?_
        · walk_at "go"
          refine ⟨_, _, rfl, fun b => ?_⟩
          walk_at "go"
          refine ⟨by show (n : Int) ≠ 0; omega, ?_⟩
          walk_at "go"
          try dsimp only
          obtain ⟨u1, u2, u3⟩ := wrap (x := (i : Int) + 3) (n := n) (by omega) (by omega) (by omega)
          generalize ((i : Int) + 3).fmod n = y at u1 u2 u3
          refine dput_p k2 (by have := F1.len; omega) fun G2 j1 j2 => ?_
          refine ⟨_, _, rfl, fun y o e => j1 y o (ne_of_none e ndd) (s1 y o e), j2, F1.put ⟨by omega, by omega, u1, u2, by omega⟩ (fun _ _ z => z.elim) (by omega)⟩
        · exact stay
      · exact stay
    · exact stay
  · rintro σ G ⟨o3, l, rfl, s0, hd, F⟩
    rw [z0] at F
    walk_at "go"
    refine q l dd G (F.simple fun a b h => ?_) (fun he hc => ?_) (by have := F.len; omega) ndd s0 hd
    · obtain ⟨h1, h2, h3, h4, h5⟩ := h
      refine ⟨h1, h2, h3, h4, by omega, fun ⟨k1, k2, k3, k4, k5⟩ => by omega⟩
    · refine ord_two (fun a => decide (a % 2 = 0)) (fun a b t => t.symm) fun a b t e => ?_
      have par : ∀ a b, RingP n c a b true → decide (a % 2 = 0) = decide (b % 2 = 0) → False := fun a b ⟨h1, h2, h3, h4, h5⟩ e => by
        have e' : a % 2 = 0 ↔ b % 2 = 0 := by
          constructor
          · intro z
            rw [decide_eq_true z] at e
            exact of_decide_eq_true e.symm
          · intro z
            rw [decide_eq_true z] at e
            exact of_decide_eq_true e
        omega
      exact (F.tie t).elim (fun t => par a b t e) fun t => par b a t e.symm
theorem len_made (h : sp_made K vs H Q E) : vs.length = 3 := by
  obtain ⟨w, n, c, rfl, _⟩ := h
  rfl
theorem pure_made (h : sp_made K vs H Q E) : t_made K (ends Q) (st 6 vs) H := by
  obtain ⟨w, n, c, rfl, hw0, hw8, hn, hw5, q⟩ := h
  refine fun dd ndd => ?_
  generalize e1 : upd _ dd _ = H1
  have s1 := Same.of_eq e1 ndd
  replace e1 := new_at e1
  have z0 : (n : Int).toNat = n := by omega
  walk_at "go"
  refine iteD (fun c1 => ?_) fun c1 => ?_
  · -- any ties
    let Pr : Int → Int → Bool → Prop := fun a b _ => 0 ≤ b ∧ b < a ∧ a < n
    walk_at "go"
    refine ⟨by omega, by omega, for_n (fun i σ G => ∃ (o4 o5 : Option V) (l : List PB), σ = [some (.int w), some (.int n), some (.int c), some (.ref dd), o4, o5] ∧ Same H G ∧ G dd = some (.dT (hb l)) ∧ Fill Pr (fun _ _ => False) (24 * i) l)
      ⟨_, _, [], rfl, s1, e1, Fill.nil fun _ _ => id⟩ ?_ ?_⟩
    · rintro i σ G hi ⟨o4, o5, l, rfl, s0, hd, F⟩
      rw [z0] at hi
      have zi : (i : Int).toNat = i := by omega
      walk_at "go"
      refine ⟨by omega, by omega, for_n (fun j σ G => ∃ (o5 : Option V) (l : List PB), σ = [some (.int w), some (.int n), some (.int c), some (.ref dd), some (.int (i : Int)), o5] ∧ Same H G ∧ G dd = some (.dT (hb l)) ∧ Fill Pr (fun _ _ => False) (24 * i + j) l)
        ⟨_, l, rfl, s0, hd, F⟩ ?_ ?_⟩
      · rintro j σ G hj ⟨o5, l, rfl, s0, hd, F⟩
        rw [zi] at hj
        walk_at "go"
        refine ⟨_, _, rfl, fun b => ?_⟩
        walk_at "go"
        refine dput_p hd (by have := F.len; omega) fun G1 k1 k2 => ?_
        exact ⟨_, _, rfl, fun x o e => k1 x o (ne_of_none e ndd) (s0 x o e), k2, F.put ⟨by omega, by omega, by omega⟩ (fun _ _ z => z.elim) (by omega)⟩
      · rintro σ G ⟨o5, l, rfl, s0, hd, F⟩
        rw [zi] at F
        exact ⟨_, _, l, rfl, s0, hd, F.to (fun _ _ z => z) (by omega)⟩
    · rintro σ G ⟨o4, o5, l, rfl, s0, hd, F⟩
      rw [z0] at F
      walk_at "go"
      refine q l dd G (F.simple fun a b ⟨h1, h2, h3⟩ => ⟨by omega, by omega, by omega, by omega, by omega, fun ⟨k1, k2, k3⟩ => by omega⟩) (fun g => ?_) (by have := F.len; omega) ndd s0 hd
      unfold GoodWay at g
      omega
  · walk_at "go"
    refine iteD (fun c2 => ?_) fun c2 => ?_
    · -- two orders
      walk_at "go"
      refine ⟨_, n, rfl, by omega, fun fs fa G1 of_ nfa s2 ef => ?_⟩
      walk_at "go"
      refine ⟨_, n, rfl, by omega, fun ss sa G2 os nsa s3 es => ?_⟩
      refine ⟨n, fa, sa, fs, ss, rfl, hn, s3 _ _ ef, es, by have := of_.length_eq; simpa using this, by have := os.length_eq; simpa using this, fun l p G3 h1 h2 h3 h4 h5 h6 => ?_⟩
      exact q l p G3 h1 (fun _ => h2) h3 (((s1.trans s2).trans s3).free h4) (((s1.trans s2).trans s3).trans h5) h6
    · walk_at "go"
      refine ⟨rfl, _, rfl, iteE (fun c3 => ?_) fun c3 => ?_⟩
      · -- a tree
        let Pr : Int → Int → Bool → Prop := fun a b _ => 0 ≤ b ∧ b < a ∧ a < n
        refine ⟨_, rfl, _, _, rfl, ⟨by omega, by omega, by omega, by omega⟩, for_m (lo := 1) (n := n) (fun i σ G => ∃ (o4 o5 : Option V) (l : List PB), σ = [some (.int w), some (.int n), some (.int c), some (.ref dd), o4, o5] ∧ Same H G ∧ G dd = some (.dT (hb l)) ∧ Fill Pr (fun _ _ => False) i l ∧ (∀ a b v, lookB l (a, b) = some v → a < i) ∧ ∃ k : Int → Bool, ∀ a b v, lookB l (a, b) = some v → k a ≠ k b)
          ⟨_, _, [], rfl, s1, e1, (Fill.nil fun _ _ => id).to (fun _ _ z => z) (by omega), fun _ _ _ e => (nomatch e), fun _ => true, fun _ _ _ e => (nomatch e)⟩ ?_ ?_ (by omega) rfl⟩
        · rintro i σ G hi1 hi2 ⟨o4, o5, l, rfl, s0, hd, F, hlt, k, hk⟩
          walk_at "go"
          refine ⟨_, _, rfl, fun r r0 r1 => ?_⟩
          walk_at "go"
          refine ⟨by show (i : Int) ≠ 0; omega, ?_⟩
          walk_at "go"
          try dsimp only
          have hm : 0 ≤ r.fmod (i : Int) ∧ r.fmod (i : Int) < i := by
            rw [fmod_pos _ (by omega)]
            exact ⟨Int.emod_nonneg _ (by omega), Int.emod_lt_of_pos _ (by omega)⟩
          generalize r.fmod (i : Int) = j at hm
          refine dput_p hd (by have := F.len; omega) fun G1 k1 k2 => ?_
          refine ⟨_, _, _, rfl, fun x o e => k1 x o (ne_of_none e ndd) (s0 x o e), k2, F.put ⟨by omega, by omega, by omega⟩ (fun _ _ z => z.elim) (by omega), fun a b v e => ?_, fun x => if x = i then !(k j) else k x, fun a b v e => ?_⟩
          · rw [lookB_put] at e
            by_cases z : (a, b) = ((i : Int), j)
            · cases z; omega
            · rw [if_neg z] at e
              have := hlt a b v e
              omega
          · rw [lookB_put] at e
            by_cases z : (a, b) = ((i : Int), j)
            · cases z
              show (if (i : Int) = i then !(k j) else k i) ≠ (if j = (i : Int) then !(k j) else k j)
              rw [if_pos rfl, if_neg (by omega)]
              cases k j <;> decide
            · rw [if_neg z] at e
              have h1 := hlt a b v e
              have h2 := F.pr a b v e
              show (if a = (i : Int) then !(k j) else k a) ≠ (if b = (i : Int) then !(k j) else k b)
              have h3 := h2.2.1
              rw [if_neg (by omega), if_neg (by omega)]
              exact hk a b v e
        · rintro σ G ⟨o4, o5, l, rfl, s0, hd, F, hlt, k, hk⟩
          walk_at "go"
          refine q l dd G (F.simple fun a b ⟨h1, h2, h3⟩ => ⟨by omega, by omega, by omega, by omega, by omega, fun ⟨k1, k2, k3⟩ => by omega⟩) (fun _ => ?_) (by have := F.len; omega) ndd s0 hd
          refine ord_two k (fun a b t => t.symm) fun a b t => ?_
          rcases t with t | t
          · exact hk a b _ ((mem_lookB F.nd).mp t)
          · exact (hk b a _ ((mem_lookB F.nd).mp t)).symm
      · walk_at "go"
        refine ⟨rfl, _, rfl, iteE (fun c4 => ?_) fun c4 => ?_⟩
        · -- a ring
          walk_at "go"
          refine ⟨n, c, rfl, hw5 c4, hn, fun l p G3 h1 h2 h3 h4 h5 h6 => ?_⟩
          exact q l p G3 h1 (fun g => h2 (by unfold GoodWay at g; omega) (by unfold GoodWay at g; omega)) h3 (s1.free h4) (s1.trans h5) h6
        · walk_at "go"
          refine ⟨rfl, _, rfl, iteE (fun c5 => ?_) fun c5 => ?_⟩
          · walk_at "go"
            refine ⟨n, c, rfl, hn, fun l p G3 h1 h2 h3 h4 h5 h6 => ?_⟩
            exact q l p G3 h1 (fun _ => h2) h3 (s1.free h4) (s1.trans h5) h6
          · -- two sides
            let Pr : Int → Int → Bool → Prop := fun a b v => 0 ≤ b ∧ b < a ∧ a < n ∧ (v = true → a % 2 ≠ b % 2)
            walk_at "go"
            refine ⟨by omega, by omega, for_n (fun i σ G => ∃ (o4 o5 : Option V) (l : List PB), σ = [some (.int w), some (.int n), some (.int c), some (.ref dd), o4, o5] ∧ Same H G ∧ G dd = some (.dT (hb l)) ∧ Fill Pr (fun _ _ => False) (24 * i) l)
              ⟨_, _, [], rfl, s1, e1, Fill.nil fun _ _ => id⟩ ?_ ?_⟩
            · rintro i σ G hi ⟨o4, o5, l, rfl, s0, hd, F⟩
              rw [z0] at hi
              have zi : (i : Int).toNat = i := by omega
              walk_at "go"
              refine ⟨by omega, by omega, for_n (fun j σ G => ∃ (o5 : Option V) (l : List PB), σ = [some (.int w), some (.int n), some (.int c), some (.ref dd), some (.int (i : Int)), o5] ∧ Same H G ∧ G dd = some (.dT (hb l)) ∧ Fill Pr (fun _ _ => False) (24 * i + j) l)
                ⟨_, l, rfl, s0, hd, F⟩ ?_ ?_⟩
              · rintro j σ G hj ⟨o5, l, rfl, s0, hd, F⟩
                rw [zi] at hj
                have fin : ∀ (v : Bool), (v = true → (i : Int) % 2 ≠ (j : Int) % 2) → ∀ G1 : Hp, (∀ x o, x ≠ dd → G x = some o → G1 x = some o) → G1 dd = some (.dT (hb (putB l ((i : Int), (j : Int)) v))) →
                    ∃ (o5 : Option V) (l : List PB), [some (V.int w), some (.int n), some (.int c), some (.ref dd), some (.int (i : Int)), some (.int (j : Int))] = [some (.int w), some (.int n), some (.int c), some (.ref dd), some (.int (i : Int)), o5] ∧ Same H G1 ∧ G1 dd = some (.dT (hb l)) ∧ Fill Pr (fun _ _ => False) (24 * i + (j + 1)) l := fun v hv G1 k1 k2 =>
                  ⟨_, _, rfl, fun x o e => k1 x o (ne_of_none e ndd) (s0 x o e), k2, F.put ⟨by omega, by omega, by omega, hv⟩ (fun _ _ z => z.elim) (by omega)⟩
                walk_at "go"
                refine ⟨rfl, _, rfl, iteEn (fun c6 => ?_) fun c6 => ?_⟩
                · walk_at "go"
                  refine ⟨_, _, rfl, fun b => ?_⟩
                  walk_at "go"
                  exact dput_p hd (by have := F.len; omega) fun G1 k1 k2 => fin b (fun _ => c6) G1 k1 k2
                · walk_at "go"
                  exact dput_p hd (by have := F.len; omega) fun G1 k1 k2 => fin false (fun z => nomatch z) G1 k1 k2
              · rintro σ G ⟨o5, l, rfl, s0, hd, F⟩
                rw [zi] at F
                exact ⟨_, _, l, rfl, s0, hd, F.to (fun _ _ z => z) (by omega)⟩
            · rintro σ G ⟨o4, o5, l, rfl, s0, hd, F⟩
              rw [z0] at F
              walk_at "go"
              refine q l dd G (F.simple fun a b ⟨h1, h2, h3, _⟩ => ⟨by omega, by omega, by omega, by omega, by omega, fun ⟨k1, k2, k3, _⟩ => by omega⟩) (fun _ => ?_) (by have := F.len; omega) ndd s0 hd
              refine ord_two (fun a => decide (a % 2 = 0)) (fun a b t => t.symm) fun a b t e => ?_
              have par : ∀ a b, Pr a b true → decide (a % 2 = 0) = decide (b % 2 = 0) → False := fun a b ⟨h1, h2, h3, h5⟩ e => by
                have h6 := h5 rfl
                have e' : a % 2 = 0 ↔ b % 2 = 0 := by
                  constructor
                  · intro z
                    rw [decide_eq_true z] at e
                    exact of_decide_eq_true e.symm
                  · intro z
                    rw [decide_eq_true z] at e
                    exact of_decide_eq_true e
                omega
              exact (F.tie t).elim (fun t => par a b t e) fun t => par b a t e.symm
end Ar
namespace Ar
open PySem PySem.Spec L2
local macro_rules | `(tactic| walk_at "g1") => `(tactic| first
  | refine ⟨_, rfl, ?_⟩
  | refine ⟨_, _, rfl, rfl, ?_⟩
  | refine ⟨(by show (0 : Int) < _; decide), ?_⟩
  | refine ⟨⟨by decide, by decide⟩, ?_⟩
  | refine ⟨(show CMul _ _ from .inl ⟨by omega, by omega⟩), ?_⟩
  | refine ⟨(show CMul _ _ from .inr ⟨by omega, by omega⟩), ?_⟩
  | refine ⟨(show (_ : Int) ≠ 0 by decide), ?_⟩
  | refine ⟨sz2, ?_⟩
  | refine ⟨sz0, ?_⟩
  | refine ⟨sz3, ?_⟩)
local macro_rules | `(tactic| walk_at "ty") => `(tactic| first | exact .int _ | exact .bl _ | exact .tup (by assumption) | exact .lst (by assumption))
local macro_rules | `(tactic| walk_at "isT") => `(tactic| refine ⟨_, _, _, _, true, rfl, .ty _, .base (by walk_at "ty"), kit_ty (by decide +kernel), ?_⟩)
local macro_rules | `(tactic| walk_at "isF") => `(tactic| refine ⟨_, _, _, _, false, rfl, .ty _, .base (by walk_at "ty"), kit_ty (by decide +kernel), ?_⟩)
local macro_rules | `(tactic| walk_at "cell") => `(tactic| ((repeat walk_at "g1"); refine ⟨_, _, _, rfl, (by assumption), (by assumption), (by first | decide | omega), ?_⟩; repeat walk_at "g1"))
local macro_rules | `(tactic| walk_at "go") => `(tactic| repeat walk_at "g1")
def t_net (K : PySem.W.Frag) : TS :=
  (tSeq (tAsg (tOp oMod (tCall (sp_cell_at K) [] E0 (tCons (tVar 0) (tCons (tC (.int 1)) tNil))) (tC (.int 8))) (gName 1)) (tSeq (tAsg (tOp oMul (tC (.int 6)) (tCB cInt1 (tCons (tOp rEq (tOp oMod (tOp oDiv (tCall (sp_cell_at K) [] E0 (tCons (tVar 0) (tCons (tC (.int 1)) tNil))) (tC (.int 8))) (tC (.int 8))) (tC (.int 1))) tNil))) (gName 2)) (tSeq (tAsg (tOp oModN (tCall (sp_cell_at K) [] E0 (tCons (tVar 0) (tCons (tC (.int 0)) tNil))) (tOp oAdd (tOp (rIxL K) (tLst (tCons (tC (.int 11)) (tCons (tC (.int 9)) (tCons (tC (.int 11)) (tCons (tC (.int 10)) (tCons (tC (.int 19)) (tCons (tC (.int 9)) (tCons (tC (.int 10)) (tCons (tC (.int 13)) tNil))))))))) (tVar 1)) (tVar 2))) (gName 3)) (Evl.tCut (tIfS (tTest (tOp rEq (tVar 1) (tC (.int 5)))) (tAsg (tOp oAdd (tC (.int 3)) (tVar 3)) (gName 3)) tNext) (tSeq (tAsg (tCall (sp_cell_at K) [] E0 (tCons (tVar 0) (tCons (tC (.int 2)) tNil))) (gName 4)) (tSeq (tAsg (tCall (sp_made K) [] E0 (tCons (tVar 1) (tCons (tVar 3) (tCons (tVar 4) tNil)))) (gName 5)) (tSeq (tAsg (tCall (sp_order K) [] E0 (tCons (tCall (sp_cell_at K) [] E0 (tCons (tVar 0) (tCons (tC (.int 3)) tNil))) (tCons (tVar 3) tNil))) (gName 6)) (tSeq (tAsg (tLst tNil) (gName 7)) (tSeq (tFor (iList K (tCB cListT (tCons (tVar 5) tNil))) (gName 8) (tIfS (tB (tDGet (tVar 5) (tVar 8))) (tSeq (tAsg (tTup (tCons (tOp (rIxL K) (tVar 6) (tOp (rIxT K) (tVar 8) (tC (.int 0)))) (tCons (tOp (rIxL K) (tVar 6) (tOp (rIxT K) (tVar 8) (tC (.int 1)))) tNil))) (gName 9)) (Evl.tCut (tIfS (tB (tCall (sp_bit K) [] E0 (tCons (tVar 4) (tCons (tCB (cLen K) (tCons (tVar 7) tNil)) tNil)))) (tAsg (tTup (tCons (tOp (rIxT K) (tVar 9) (tC (.int 1))) (tCons (tOp (rIxT K) (tVar 9) (tC (.int 0))) tNil))) (gName 9)) tNext) (tDrop (tBM K "list" cInsert (tVar 7) (tCons (tOp oModN (tCall (sp_drawn K) [] E0 (tCons (tOp oAdd (tVar 4) (tC (.int 9))) (tCons (tCB (cLen K) (tCons (tVar 7) tNil)) tNil))) (tOp oAdd (tCB (cLen K) (tCons (tVar 7) tNil)) (tC (.int 1)))) (tCons (tVar 9) tNil)))))) tNext)) (tRet (tTup (tCons (tVar 3) (tCons (tVar 7) tNil)))))))))))))
/-! ### names of points -/
def nmOf (ns : List Int) (x : Int) : Int := ns.getD x.toNat 0
theorem IsOrder.len {n : Nat} {ns : List Int} (h : IsOrder n ns) : ns.length = n := by have := h.length_eq; simpa using this
theorem IsOrder.rng {n : Nat} {ns : List Int} (h : IsOrder n ns) {x : Int} (h0 : 0 ≤ x) (h1 : x < n) : 0 ≤ nmOf ns x ∧ nmOf ns x < n := by
  have hx : x.toNat < ns.length := by rw [h.len]; omega
  have hm : nmOf ns x ∈ ns := by
    unfold nmOf
    rw [List.getD_eq_getElem?_getD, List.getElem?_eq_getElem hx]
    exact List.getElem_mem hx
  obtain ⟨k, hk, e⟩ := List.mem_map.mp (h.mem_iff.mp hm)
  have := List.mem_range.mp hk
  rw [← e]
  exact ⟨Int.natCast_nonneg k, by show (k : Int) < n; omega⟩
theorem IsOrder.inj {n : Nat} {ns : List Int} (h : IsOrder n ns) {x y : Int} (h0 : 0 ≤ x) (h1 : x < n) (k0 : 0 ≤ y) (k1 : y < n) (e : nmOf ns x = nmOf ns y) : x = y := by
  have nd : ns.Nodup := h.nodup_iff.mpr (nodup_mapOn' (List.nodup_range) fun a _ b _ e => Int.ofNat.inj e)
  have hx : x.toNat < ns.length := by rw [h.len]; omega
  have hy : y.toNat < ns.length := by rw [h.len]; omega
  unfold nmOf at e
  rw [List.getD_eq_getElem?_getD, List.getD_eq_getElem?_getD, List.getElem?_eq_getElem hx, List.getElem?_eq_getElem hy] at e
  have := (List.getElem_inj nd).mp e
  omega
/-- what is tied can be turned under other names, too -/
theorem ord_map {T T' : Int → Int → Prop} {nm : Int → Int} (dom : Int → Prop) (inj : ∀ x y, dom x → dom y → nm x = nm y → x = y) (hd : ∀ a b, T a b → dom a ∧ dom b) (h : ∀ a b, T' a b ↔ ∃ x y, T x y ∧ a = nm x ∧ b = nm y) (o : OrdOf T) : OrdOf T' := by
  obtain ⟨R, tr, ir, ht⟩ := o
  refine ⟨fun a b => ∃ x y, T x y ∧ R x y ∧ a = nm x ∧ b = nm y, ?_, ?_, fun a b => ?_⟩
  · rintro a b c ⟨x, y, t1, r1, rfl, rfl⟩ ⟨y', z, t2, r2, e, rfl⟩
    have := inj _ _ (hd _ _ t1).2 (hd _ _ t2).1 e
    subst this
    have r := tr _ _ _ r1 r2
    exact ⟨x, z, (ht _ _).mpr (.inl r), r, rfl, rfl⟩
  · rintro a ⟨x, y, t1, r1, rfl, e⟩
    have := inj _ _ (hd _ _ t1).1 (hd _ _ t1).2 e
    subst this
    exact ir _ r1
  · rw [h]
    constructor
    · rintro ⟨x, y, t, rfl, rfl⟩
      rcases (ht _ _).mp t with r | r
      · exact .inl ⟨x, y, t, r, rfl, rfl⟩
      · exact .inr ⟨y, x, (ht _ _).mpr (.inl r), r, rfl, rfl⟩
    · rintro (⟨x, y, t, r, rfl, rfl⟩ | ⟨x, y, t, r, rfl, rfl⟩)
      · exact ⟨x, y, t, rfl, rfl⟩
      · exact ⟨y, x, (ht _ _).mpr (.inr r), rfl, rfl⟩
/-- the ties drawn of these entries -/
structure Drawn (nm : Int → Int) (l : List PB) (ps : List (Int × Int)) : Prop where
  of : ∀ p ∈ ps, ∃ x y, ((x, y), true) ∈ l ∧ (p = (nm x, nm y) ∨ p = (nm y, nm x))
  all : ∀ x y, ((x, y), true) ∈ l → Adj ps (nm x) (nm y)
  once : ps.Pairwise fun p q => p ≠ q ∧ p ≠ (q.2, q.1)
  len : ps.length ≤ l.length
theorem Drawn.ins {nm : Int → Int} {n : Nat} {l : List PB} {e : PB} {ps : List (Int × Int)} (D : Drawn nm l ps) (S : Simple n (l ++ [e])) (he : e.2 = true) (inj : ∀ x y : Int, 0 ≤ x → x < n → 0 ≤ y → y < n → nm x = nm y → x = y) {t : Int × Int} (ht : t = (nm e.1.1, nm e.1.2) ∨ t = (nm e.1.2, nm e.1.1)) (j : Nat) :
    Drawn nm (l ++ [e]) (ps.take j ++ [t] ++ ps.drop j) := by
  have pm : (ps.take j ++ [t] ++ ps.drop j).Perm (t :: ps) := by
    have h1 : (ps.take j ++ [t] ++ ps.drop j).Perm ([t] ++ ps.take j ++ ps.drop j) := List.Perm.append_right _ List.perm_append_comm
    have e : [t] ++ ps.take j ++ ps.drop j = t :: ps := by rw [List.append_assoc, List.take_append_drop] <;> rfl
    rw [e] at h1
    exact h1
  obtain ⟨⟨a, b⟩, v⟩ := e
  have he : v = true := he
  subst he
  have ok := S.ok a b (List.mem_append_right _ (by simp))
  have fresh : ∀ p ∈ ps, t ≠ p ∧ t ≠ (p.2, p.1) := fun p hp => by
    obtain ⟨x, y, hxy, hp'⟩ := D.of p hp
    have ok2 := S.ok x y (List.mem_append_left _ hxy)
    have n1 : ¬ (x = a ∧ y = b) := fun ⟨e1, e2⟩ => by
      subst e1 e2
      have := S.nd
      rw [List.map_append] at this
      have h3 := (List.nodup_append.mp this).2.2 (x, y) (List.mem_map.mpr ⟨_, hxy, rfl⟩) (x, y) (by simp)
      exact h3 rfl
    have n2 : ¬ (x = b ∧ y = a) := fun ⟨e1, e2⟩ => by
      subst e1 e2
      exact ok.2.2.2.2.2 (List.mem_append_left _ hxy)
    have k1 : nm x = nm a → nm y = nm b → False := fun e1 e2 => n1 ⟨inj _ _ ok2.1 ok2.2.1 ok.1 ok.2.1 e1, inj _ _ ok2.2.2.1 ok2.2.2.2.1 ok.2.2.1 ok.2.2.2.1 e2⟩
    have k2 : nm x = nm b → nm y = nm a → False := fun e1 e2 => n2 ⟨inj _ _ ok2.1 ok2.2.1 ok.2.2.1 ok.2.2.2.1 e1, inj _ _ ok2.2.2.1 ok2.2.2.2.1 ok.1 ok.2.1 e2⟩
    rcases ht with rfl | rfl <;> rcases hp' with rfl | rfl <;> constructor <;> intro z <;> simp only [Prod.mk.injEq] at z
    · exact k1 z.1.symm z.2.symm
    · exact k2 z.2.symm z.1.symm
    · exact k2 z.2.symm z.1.symm
    · exact k1 z.1.symm z.2.symm
    · exact k2 z.1.symm z.2.symm
    · exact k1 z.2.symm z.1.symm
    · exact k1 z.2.symm z.1.symm
    · exact k2 z.1.symm z.2.symm
  refine ⟨fun p hp => ?_, fun x y h => ?_, ?_, ?_⟩
  · rcases List.mem_cons.mp (pm.mem_iff.mp hp) with rfl | hp
    · exact ⟨a, b, List.mem_append_right _ (by simp), ht⟩
    · obtain ⟨x, y, h1, h2⟩ := D.of p hp
      exact ⟨x, y, List.mem_append_left _ h1, h2⟩
  · unfold Adj
    rw [pm.mem_iff, pm.mem_iff]
    rcases List.mem_append.mp h with h | h
    · exact (D.all x y h).imp (List.mem_cons_of_mem _) (List.mem_cons_of_mem _)
    · have e2 := List.mem_singleton.mp h
      cases e2
      rcases ht with e | e
      · exact .inl (by rw [e]; exact List.mem_cons_self)
      · exact .inr (by rw [e]; exact List.mem_cons_self)
  · refine (pm.pairwise_iff (R := fun p q : Int × Int => p ≠ q ∧ p ≠ (q.2, q.1)) (fun {p q} h => ⟨fun z => h.1 z.symm, fun z => h.2 ?_⟩)).mpr (List.pairwise_cons.mpr ⟨fun p hp => fresh p hp, D.once⟩)
    rw [z]
  · rw [pm.length_eq, List.length_cons, List.length_append]
    have := D.len
    simp only [List.length_cons, List.length_nil]
    omega
theorem Drawn.skip {nm : Int → Int} {l : List PB} {e : PB} {ps : List (Int × Int)} (D : Drawn nm l ps) (he : e.2 = false) : Drawn nm (l ++ [e]) ps where
  of := fun p hp => by
    obtain ⟨x, y, h1, h2⟩ := D.of p hp
    exact ⟨x, y, List.mem_append_left _ h1, h2⟩
  all := fun x y h => by
    rcases List.mem_append.mp h with h | h
    · exact D.all x y h
    · have := List.mem_singleton.mp h
      rw [← this] at he
      cases he
  once := D.once
  len := Nat.le_trans D.len (by simp)
theorem Simple.take {n : Nat} {l : List PB} (S : Simple n l) (i : Nat) : Simple n (l.take i) := by
  have sub : (l.take i).Sublist l := List.take_sublist _ _
  exact ⟨S.nd.sublist (sub.map _), fun a b h => by
    obtain ⟨h1, h2, h3, h4, h5, h6⟩ := S.ok a b (sub.mem h)
    exact ⟨h1, h2, h3, h4, h5, fun z => h6 (sub.mem z)⟩⟩
theorem Drawn.ties {n : Nat} {ns : List Int} {l : List PB} {ps : List (Int × Int)} (D : Drawn (nmOf ns) l ps) (S : Simple n l) (O : IsOrder n ns) : Ties n ps := by
  refine ⟨fun p hp => ?_, D.once⟩
  obtain ⟨x, y, h1, h2⟩ := D.of p hp
  obtain ⟨k1, k2, k3, k4, k5, _⟩ := S.ok x y h1
  have r1 := O.rng k1 k2
  have r2 := O.rng k3 k4
  have ne : nmOf ns x ≠ nmOf ns y := fun e => k5 (O.inj k1 k2 k3 k4 e)
  rcases h2 with rfl | rfl
  · exact ⟨r1.1, r1.2, r2.1, r2.2, ne⟩
  · exact ⟨r2.1, r2.2, r1.1, r1.2, ne.symm⟩
theorem Drawn.ord {n : Nat} {ns : List Int} {l : List PB} {ps : List (Int × Int)} (D : Drawn (nmOf ns) l ps) (S : Simple n l) (O : IsOrder n ns) (o : OrdOf (TieB l)) : OrdOf (Adj ps) := by
  refine ord_map (nm := nmOf ns) (fun x => 0 ≤ x ∧ x < n) (fun x y hx hy e => O.inj hx.1 hx.2 hy.1 hy.2 e) (fun a b t => ?_) (fun a b => ?_) o
  · rcases t with t | t
    · obtain ⟨k1, k2, k3, k4, _⟩ := S.ok _ _ t
      exact ⟨⟨k1, k2⟩, k3, k4⟩
    · obtain ⟨k1, k2, k3, k4, _⟩ := S.ok _ _ t
      exact ⟨⟨k3, k4⟩, k1, k2⟩
  · constructor
    · rintro (t | t)
      · obtain ⟨x, y, h1, h2⟩ := D.of _ t
        rcases h2 with h2 | h2
        · cases h2; exact ⟨x, y, .inl h1, rfl, rfl⟩
        · cases h2; exact ⟨y, x, .inr h1, rfl, rfl⟩
      · obtain ⟨x, y, h1, h2⟩ := D.of _ t
        rcases h2 with h2 | h2
        · cases h2; exact ⟨y, x, .inr h1, rfl, rfl⟩
        · cases h2; exact ⟨x, y, .inl h1, rfl, rfl⟩
    · rintro ⟨x, y, t, rfl, rfl⟩
      rcases t with t | t
      · exact D.all _ _ t
      · exact (D.all _ _ t).symm
theorem keys_tlb {H : Hp} {l : List PB} {bs : List Addr} (h : IsKeys H (hb l) bs) : TL H (bs.map V.ref) (l.map fun e => p2 e.1) := by
  unfold IsKeys at h
  have : ∀ {kvs : List (List Key × V)} {bs : List Addr}, Paired (fun p b => H b = some (.tup (p.1.map kV))) kvs bs → ∀ l, kvs = hb l → TL H (bs.map V.ref) (l.map fun e => p2 e.1) := by
    intro kvs bs h
    induction h with
    | nil =>
      intro l e
      cases l with
      | nil => exact .nil
      | cons q l => cases e
    | cons h t ih =>
      intro l e
      cases l with
      | nil => cases e
      | cons q l =>
        cases e
        exact .cons ⟨_, rfl, h⟩ (ih l rfl)
  exact this h l rfl
theorem menu_ok (w : Int) (h0 : 0 ≤ w) (h1 : w < 8) : 9 ≤ menu.getD w.toNat 1 ∧ menu.getD w.toNat 1 ≤ 19 ∧ (w = 5 → menu.getD w.toNat 1 = 9) ∧ menu[w.toNat]? = some (menu.getD w.toNat 1) := by
  have : w = 0 ∨ w = 1 ∨ w = 2 ∨ w = 3 ∨ w = 4 ∨ w = 5 ∨ w = 6 ∨ w = 7 := by omega
  rcases this with rfl | rfl | rfl | rfl | rfl | rfl | rfl | rfl <;> decide
variable {K : PySem.W.Frag} {vs : List V} {H : Hp} {Q : VK} {E : XK}
theorem len_net (h : sp_net K vs H Q E) : vs.length = 1 := by
  obtain ⟨a, ns, rfl, _⟩ := h
  rfl
theorem pure_net (h : sp_net K vs H Q E) : t_net K (ends Q) (st 10 vs) H := by
  obtain ⟨a, ns, rfl, hs, hl, q⟩ := h
  walk_at "cell"
  try dsimp only
  have ew : ns.getD (Int.toNat 1) 0 % 8 = wayOf ns := rfl
  rw [ew]
  have hw : 0 ≤ wayOf ns ∧ wayOf ns < 8 := by unfold wayOf; omega
  walk_at "cell"
  refine ⟨rfl, .inr ⟨_, rfl, ?_⟩⟩
  walk_at "go"
  try dsimp only
  have er : 6 * (if decide (V.int (ns.getD (Int.toNat 1) 0 / 8 % 8) = V.int 1) = true then 1 else 0) = roomOf ns := by
    rw [decV]
    show 6 * (if decide (ns.getD 1 0 / 8 % 8 = 1) = true then 1 else 0) = roomOf ns
    unfold roomOf
    by_cases z : ns.getD 1 0 / 8 % 8 = 1 <;> simp [z]
  rw [er]
  have hr : 0 ≤ roomOf ns ∧ roomOf ns ≤ 6 := by unfold roomOf; split <;> omega
  walk_at "cell"
  refine ⟨szn 8 rfl, ?_⟩
  refine fun me nme => ?_
  generalize e0 : upd _ me _ = G0
  have s0 := Same.of_eq e0 nme
  replace e0 := new_at e0
  obtain ⟨m1, m2, m3, m4⟩ := menu_ok _ hw.1 hw.2
  walk_at "go"
  refine ⟨_, _, _, _, rfl, rfl, SqL.of e0, at_of (j := (wayOf ns).toNat) (by omega) (by
    show (menu.map V.int)[(wayOf ns).toNat]? = _
    rw [List.getElem?_map, m4] <;> rfl), ?_⟩
  walk_at "go"
  refine ⟨by show menu.getD (wayOf ns).toNat 1 + roomOf ns ≠ 0; omega, ?_⟩
  try dsimp only
  have em : (ns.getD (Int.toNat 0) 0).fmod (menu.getD (wayOf ns).toNat 1 + roomOf ns) = ns.getD 0 0 % (menu.getD (wayOf ns).toNat 1 + roomOf ns) := fmod_pos _ (by omega)
  rw [em]
  have hm0 := Int.emod_nonneg (ns.getD 0 0) (show menu.getD (wayOf ns).toNat 1 + roomOf ns ≠ 0 by omega)
  have hm1 := Int.emod_lt_of_pos (ns.getD 0 0) (show 0 < menu.getD (wayOf ns).toNat 1 + roomOf ns by omega)
  have hmd : manyOf ns = ns.getD 0 0 % (menu.getD (wayOf ns).toNat 1 + roomOf ns) + (if wayOf ns = 5 then 3 else 0) := rfl
  generalize ns.getD 0 0 % (menu.getD (wayOf ns).toNat 1 + roomOf ns) = m at hm0 hm1 hmd
  refine ⟨fun σ G => Same H G ∧ ∃ (n : Nat), (n : Int) = manyOf ns ∧ n ≤ 24 ∧ (wayOf ns = 5 → 3 ≤ n) ∧ σ = [some (.ref a), some (.int (wayOf ns)), some (.int (roomOf ns)), some (.int (n : Int)), none, none, none, none, none, none], ?_, ?_⟩
  · walk_at "go"
    refine ⟨rfl, _, rfl, iteE (fun c => ?_) fun c => ?_⟩
    · walk_at "go"
      have c' : wayOf ns = 5 := c
      rw [if_pos c'] at hmd
      have := m3 c'
      have e : (3 : Int) + m = ((3 + m).toNat : Int) := by omega
      refine ⟨s0, (3 + m).toNat, by omega, by omega, fun _ => by omega, ?_⟩
      show [_, _, _, some (V.int (3 + m)), _, _, _, _, _, _] = [_, _, _, some (V.int (((3 + m).toNat : Nat) : Int)), _, _, _, _, _, _]
      rw [← e]
    · have c' : ¬ wayOf ns = 5 := c
      rw [if_neg c'] at hmd
      have e : m = (m.toNat : Int) := by omega
      refine ⟨s0, m.toNat, by omega, by omega, fun z => absurd z c', ?_⟩
      show [_, _, _, some (V.int m), _, _, _, _, _, _] = [_, _, _, some (V.int ((m.toNat : Nat) : Int)), _, _, _, _, _, _]
      rw [← e]
  rintro σ G ⟨sG, n, hn, hn24, hn5, rfl⟩
  have hsG := sG.seq hs
  walk_at "cell"
  have ec : ns.getD (Int.toNat 2) 0 = ns.getD 2 0 := rfl
  rw [ec]
  refine ⟨wayOf ns, n, ns.getD 2 0, rfl, hw.1, hw.2, hn24, hn5, fun l dd G1 S o ll ndd s1 ed => ?_⟩
  have hs1 := s1.seq hsG
  walk_at "cell"
  refine ⟨_, n, rfl, by omega, fun os oa G2 O noa s2 eo => ?_⟩
  walk_at "go"
  refine fun tl ntl => ?_
  generalize e3 : upd _ tl _ = G3
  have s3 := Same.of_eq e3 ntl
  replace e3 := new_at e3
  walk_at "go"
  refine ⟨_, _, rfl, .inl (s3 _ _ (s2 _ _ ed)), fun lp bs nlp kk => ?_⟩
  generalize e4 : upd _ lp _ = G4
  have s4 := Same.of_eq e4 nlp
  replace e4 := new_at e4
  have tk : TL G4 (bs.map V.ref) (l.map fun e => p2 e.1) := (keys_tlb kk).mono s4.tk
  have lb : (bs.map V.ref).length = l.length := by rw [paired_len tk]; simp
  have ed4 := s4 _ _ (s3 _ _ (s2 _ _ ed))
  have eo4 := s4 _ _ (s3 _ _ eo)
  have sH4 := (((sG.trans s1).trans s2).trans s3).trans s4
  have ntl0 : H tl = none := (((sG.trans s1).trans s2)).free ntl
  have nlt : lp ≠ tl := fun z => by rw [z, e3] at nlp; cases nlp
  have lo := O.len
  refine ⟨_, rfl, ⟨_, SqL.of e4⟩, for_list (K := K) (a := lp) (xs := bs.map V.ref) (fun i σ G' => ∃ (o8 o9 : Option V) (ys : List V) (ps : List (Int × Int)), σ = [some (.ref a), some (.int (wayOf ns)), some (.int (roomOf ns)), some (.int (n : Int)), some (.int (ns.getD 2 0)), some (.ref dd), some (.ref oa), some (.ref tl), o8, o9] ∧ (∀ b o, b ≠ tl → G4 b = some o → G' b = some o) ∧
    G' tl = some (.lst ys) ∧ TL G' ys (ps.map p2) ∧ Drawn (nmOf os) (l.take i) ps) ⟨_, _, [], [], rfl, fun b o _ e => e, s4 _ _ e3, .nil, ⟨fun p hp => (nomatch hp), fun x y h => (nomatch h), .nil, Nat.zero_le _⟩⟩ (fun i σ G' _ ⟨_, _, _, _, _, s, _⟩ => SqL.of (s _ _ nlt e4)) ?_ ?_⟩
  · rintro i x σ G' hx ⟨o8, o9, ys, ps, rfl, s5, ht, tt, D⟩
    have nn : ∀ b o, G4 b = some o → (∀ zs, o ≠ .lst zs) → G' b = some o := fun b o e h => s5 b o (fun z => by
      rw [z, s4 _ _ e3] at e
      exact h _ (Option.some.inj e).symm) e
    obtain ⟨nsx, hx1, t, rfl, htp⟩ := TL.at tk hx
    obtain ⟨⟨⟨x, y⟩, v⟩, he, rfl⟩ := get_map hx1
    have htp := nn _ _ htp fun _ z => nomatch z
    have hi := lt_of_get he
    have ed5 := nn _ _ ed4 fun _ z => nomatch z
    have eo5 : G' oa = some (.lst (os.map .int)) := s5 _ _ (fun z => by
      have := s3 _ _ eo
      rw [z] at eo
      rw [eo] at ntl
      cases ntl) eo4
    have tke := take_snoc he
    have lys : ys.length ≤ 1000 := by
      rw [paired_len tt, List.length_map]
      have h1 := D.len
      rw [List.length_take] at h1
      omega
    have hv : lookB l (x, y) = some v := (mem_lookB S.nd).mp (mem_of_get he)
    walk_at "go"
    refine ⟨_, _, rfl, (by have := DGet.t (k := kp (x, y)) ed5 htp; rw [valV_hb, hv] at this; exact this), _, rfl, ?_⟩
    cases v with
    | false =>
      exact ⟨_, _, ys, ps, rfl, s5, ht, tt, by rw [tke]; exact D.skip rfl⟩
    | true =>
      obtain ⟨k1, k2, k3, k4, k5, k6⟩ := S.ok x y (mem_of_get he)
      have S' : Simple n (l.take i ++ [((x, y), true)]) := by rw [← tke]; exact S.take _
      walk_at "go"
      refine ⟨_, _, _, _, rfl, rfl, SqT.of htp, at0, ?_⟩
      refine ⟨_, _, _, _, rfl, rfl, SqL.of eo5, at_of (j := x.toNat) (by show x = _; omega) (get_ints (by omega)), ?_⟩
      walk_at "go"
      refine ⟨_, _, _, _, rfl, rfl, SqT.of htp, at1, ?_⟩
      refine ⟨_, _, _, _, rfl, rfl, SqL.of eo5, at_of (j := y.toNat) (by show y = _; omega) (get_ints (by omega)), ?_⟩
      walk_at "go"
      refine fun t9 nt9 => ?_
      generalize e6 : upd _ t9 _ = G5
      have s6 := Same.of_eq e6 nt9
      replace e6 := new_at e6
      have ht6 := s6 _ _ ht
      refine ⟨fun σ G6 => Same G5 G6 ∧ ∃ (t9 : Addr) (u : Int × Int), G6 t9 = some (.tup [.int u.1, .int u.2]) ∧ (u = (nmOf os x, nmOf os y) ∨ u = (nmOf os y, nmOf os x)) ∧ σ = [some (.ref a), some (.int (wayOf ns)), some (.int (roomOf ns)), some (.int (n : Int)), some (.int (ns.getD 2 0)), some (.ref dd), some (.ref oa), some (.ref tl), some (.ref t), some (.ref t9)], ?_, ?_⟩
      · walk_at "go"
        refine ⟨_, _, rfl, .inl (SqL.of ht6), ?_⟩
        refine ⟨_, _, rfl, fun b => ?_⟩
        walk_at "go"
        refine iteB (fun c => ?_) fun c => ?_
        · walk_at "go"
          refine ⟨_, _, _, _, rfl, rfl, SqT.of e6, at1, ?_⟩
          walk_at "go"
          refine ⟨_, _, _, _, rfl, rfl, SqT.of e6, at0, ?_⟩
          walk_at "go"
          refine fun t10 nt10 => ?_
          generalize e7 : upd _ t10 _ = G6
          have s7 := Same.of_eq e7 nt10
          replace e7 := new_at e7
          exact ⟨s7, t10, (nmOf os y, nmOf os x), e7, .inr rfl, rfl⟩
        · exact ⟨Same.refl _, t9, (nmOf os x, nmOf os y), e6, .inl rfl, rfl⟩
      · rintro σ G6 ⟨s7, t9, u, e7, hu, rfl⟩
        have ht7 := s7 _ _ ht6
        walk_at "go"
        refine ⟨.inl ⟨rfl, _, SqL.of ht7⟩, ?_⟩
        walk_at "go"
        refine ⟨_, _, rfl, .inl (SqL.of ht7), ?_⟩
        refine ⟨_, _, rfl, fun r r0 r1 => ?_⟩
        walk_at "go"
        refine ⟨_, _, rfl, .inl (SqL.of ht7), ?_⟩
        walk_at "go"
        refine ⟨by show ((ys.length : Nat) : Int) + 1 ≠ 0; omega, ?_⟩
        walk_at "go"
        try dsimp only
        have hm : 0 ≤ r.fmod ((ys.length : Int) + 1) ∧ r.fmod ((ys.length : Int) + 1) < (ys.length : Int) + 1 := by
          rw [fmod_pos _ (by omega)]
          exact ⟨Int.emod_nonneg _ (by omega), Int.emod_lt_of_pos _ (by omega)⟩
        generalize r.fmod ((ys.length : Int) + 1) = j at hm
        refine ⟨tl, _, _, _, rfl, rfl, ht7, lin' (by omega), hm.1, by omega, ?_⟩
        have tkf : TK G6 (upd G6 tl (.lst (ys.take j.toNat ++ [.ref t9] ++ ys.drop j.toNat))) := TK.upd fun zs z => by rw [ht7] at z; cases z
        refine ⟨_, _, _, ps.take j.toNat ++ [u] ++ ps.drop j.toNat, rfl, fun b o hb e => ?_, upd_same, ?_, ?_⟩
        · rw [upd_ne hb]
          exact s7 _ _ (s6 _ _ (s5 _ _ hb e))
        · have tt7 : TL (upd G6 tl (.lst (ys.take j.toNat ++ [.ref t9] ++ ys.drop j.toNat))) ys (ps.map p2) := tt.mono ((s6.tk.trans s7.tk).trans tkf)
          rw [List.map_append, List.map_append, List.map_take, List.map_drop]
          exact paired_app (paired_app (paired_take _ tt7) (.cons (TI.mono tkf (ti2 e7)) .nil)) (paired_drop _ tt7)
        · rw [tke]
          exact D.ins S' rfl (fun x y h1 h2 h3 h4 e => O.inj h1 h2 h3 h4 e) hu _
  · rintro σ G' ⟨o8, o9, ys, ps, rfl, s5, ht, tt, D⟩
    rw [lb, List.take_length] at D
    walk_at "go"
    refine fun t1 nt1 => ?_
    generalize e6 : upd _ t1 _ = G5
    have s6 := Same.of_eq e6 nt1
    replace e6 := new_at e6
    have sH5 : Same H G' := fun b o e => s5 b o (fun z => by rw [z, ntl0] at e; cases e) (sH4 _ _ e)
    refine q n ps t1 tl G5 ys hn24 hn (D.ties S O) (fun g => D.ord S O (o g)) (sH5.free nt1) ntl0 (sH5.trans s6) e6 (s6 _ _ ht) (tt.mono s6.tk)
end Ar
namespace Ar
open PySem PySem.Spec L2
/-! ### the same ties in another order -/
theorem Fc.perm {l l' : List Arr} (p : l.Perm l') {x y : Arr} : Fc l x y ↔ Fc l' x y := by
  unfold Fc
  rw [p.mem_iff, p.mem_iff, p.mem_iff, p.mem_iff]
theorem fcs_perm {l l' : List Arr} (p : l.Perm l') (n : Nat) : fcs n l = fcs n l' := by
  funext x
  unfold fcs
  congr 1
  funext q
  by_cases h : Fc l x q
  · rw [decide_eq_true h, decide_eq_true ((Fc.perm p).mp h)]
  · rw [decide_eq_false h, decide_eq_false (fun z => h ((Fc.perm p).mpr z))]
theorem TurnsOf.perm {l l' qs : List Arr} (p : l.Perm l') (z : TurnsOf l qs) : TurnsOf l' qs := ⟨fun x hx => p.mem_iff.mp (z.tie x hx), z.once, z.all.trans p.length_eq, z.no⟩
theorem ClashRow.perm {n : Nat} {l l' r : List Arr} (p : l.Perm l') (h : ClashRow n l r) : ClashRow n l' r := by
  obtain ⟨x, hx, h1, h2⟩ := h
  refine ⟨x, p.mem_iff.mp hx, ?_, by rw [← p.length_eq]; exact h2⟩
  rw [← fcs_perm p]
  exact h1
theorem Told.perm {n : Nat} {l l' qs : List Arr} {b : Bool} (p : l.Perm l') (T : Told n l b qs) : Told n l' b qs := ⟨fun z => ⟨(T.yes z).1.perm p, (T.yes z).2⟩, fun z => (T.no z).perm p⟩
theorem Told.same {n : Nat} {l qs qs' : List Arr} {b b' : Bool} (g : GoodL n l) (T : Told n l b qs) (T' : Told n l b' qs') : b = b' := by
  cases b with
  | true =>
    cases b' with
    | true => rfl
    | false => exact absurd ((T.yes rfl).1.noClash g) ((T'.no rfl).clash g)
  | false =>
    cases b' with
    | true => exact absurd ((T'.yes rfl).1.noClash g) ((T.no rfl).clash g)
    | false => rfl
theorem Ties.sub {n : Nat} {ps qs : List Arr} (t : Ties n ps) (s : qs.Sublist ps) : Ties n qs := ⟨fun p hp => t.ok p (s.subset hp), t.once.sublist s⟩
theorem tlp_sub' {H : Hp} : ∀ {xs : List V} {ps : List (Int × Int)} {ys : List V}, TL H xs (ps.map p2) → ys.Sublist xs → ∃ qs : List (Int × Int), qs.Sublist ps ∧ TL H ys (qs.map p2)
  | _, [], _, .nil, h => by
    cases h
    exact ⟨[], .slnil, .nil⟩
  | _, p :: ps, _, .cons r t, h => by
    cases h with
    | cons _ h =>
      obtain ⟨qs, h1, h2⟩ := tlp_sub' t h
      exact ⟨qs, h1.cons _, h2⟩
    | cons_cons _ h =>
      obtain ⟨qs, h1, h2⟩ := tlp_sub' t h
      exact ⟨p :: qs, h1.cons_cons _, .cons r h2⟩
theorem NetAt.lst {K : PySem.W.Frag} {H : Hp} {a : Addr} {xs ys : List V} {w : V} {n : Nat} {l : List Arr} (ha : H a = some (.lst xs)) (h : NetAt K H w n l) : NetAt K (upd H a (.lst ys)) w n l := by
  obtain ⟨o, dx, d, rfl, h1, h2, g⟩ := h
  refine ⟨o, dx, d, rfl, ?_, ?_, g⟩
  · rw [upd_ne (fun z => by rw [z, ha] at h1; cases h1)]
    exact h1
  · rw [upd_ne (fun z => by rw [z, ha] at h2; cases h2)]
    exact h2
theorem eqv_same {nss : List (List Int)} : PyData.eqv (.list (nss.map dI)) (.list (nss.map dI)) = true := by
  rw [eqv_lI]
  exact decide_eq_true rfl
theorem BothOf.perm' {ps l l' : List (Int × Int)} (h : BothOf ps l) (k : BothOf ps l') : l.Perm l' := (List.perm_ext_iff_of_nodup h.nd k.nd).mpr fun x => (h.mem x.1 x.2).trans (k.mem x.1 x.2).symm
theorem _root_.Ar.OrdOf.both {ps l : List Arr} (o : OrdOf (Adj ps)) (B : BothOf ps l) : NoClash l := by
  refine OrdOf.noClash ?_
  obtain ⟨R, h1, h2, h3⟩ := o
  exact ⟨R, h1, h2, fun a b => (B.mem a b).trans (h3 a b)⟩
theorem Told.true {n : Nat} {l qs : List Arr} {b : Bool} (g : GoodL n l) (T : Told n l b qs) (nc : NoClash l) : b = Bool.true := by
  cases b with
  | true => rfl
  | false => exact absurd nc ((T.no rfl).clash g)
/-- Net(..) of ties that are right, whatever comes behind -/
theorem make_net2 {K : PySem.W.Frag} {H : Hp} {E : XK} {R : Addr → VK} {n : Nat} {tl : Addr} {xs : List V} {ps : List (Int × Int)} (hs : H tl = some (.lst xs)) (ht : TL H xs (ps.map p2)) (t : Ties n ps) (hn : n ≤ 24)
    (q : ∀ x G, Same H G → NetAt K G (.ref x) n (bothL [] ps) → R x .non G) : ∀ x dx, H x = none → H dx = none → dx ≠ x →
    sp_Net_init K (.ref x :: ([V.int n, .ref tl] ++ [])) (upd (upd H dx (.own x)) x (.ins (cNet K) dx [])) (R x) E := by
  intro x dx hx hdx ne
  obtain ⟨o, dx', tl', m, xs', ps', h1, h2, h3, h4, h5, h6, h7, h8, h9⟩ := make_net (K := K) (Q := fun w G => Same H G ∧ NetAt K G w n (bothL [] ps)) (E := E) hs ht t hn (fun w G s nw => ⟨s, nw⟩) x dx hx hdx ne
  refine ⟨o, dx', tl', m, xs', ps', h1, h2, h3, h4, h5, h6, h7, h8, fun H' d s0 a1 a2 a3 a4 a5 => ?_⟩
  obtain ⟨_, s, nw⟩ := h9 H' d s0 a1 a2 a3 a4 a5
  exact q x H' s nw
end Ar
namespace Ar
open PySem PySem.Spec L2
local macro_rules | `(tactic| walk_at "g1") => `(tactic| first
  | refine ⟨_, rfl, ?_⟩
  | refine ⟨_, _, rfl, rfl, ?_⟩
  | refine ⟨(by show (0 : Int) < _; decide), ?_⟩
  | refine ⟨⟨by decide, by decide⟩, ?_⟩
  | refine ⟨(show CMul _ _ from .inl ⟨by omega, by omega⟩), ?_⟩
  | refine ⟨(show CMul _ _ from .inr ⟨by omega, by omega⟩), ?_⟩
  | refine ⟨(show (_ : Int) ≠ 0 by decide), ?_⟩
  | refine ⟨sz2, ?_⟩
  | refine ⟨sz0, ?_⟩
  | refine ⟨sz3, ?_⟩)
local macro_rules | `(tactic| walk_at "ty") => `(tactic| first | exact .int _ | exact .bl _ | exact .tup (by assumption) | exact .lst (by assumption))
local macro_rules | `(tactic| walk_at "isT") => `(tactic| refine ⟨_, _, _, _, true, rfl, .ty _, .base (by walk_at "ty"), kit_ty (by decide +kernel), ?_⟩)
local macro_rules | `(tactic| walk_at "isF") => `(tactic| refine ⟨_, _, _, _, false, rfl, .ty _, .base (by walk_at "ty"), kit_ty (by decide +kernel), ?_⟩)
local macro_rules | `(tactic| walk_at "cell") => `(tactic| ((repeat walk_at "g1"); refine ⟨_, _, _, rfl, (by assumption), (by assumption), (by first | decide | omega), ?_⟩; repeat walk_at "g1"))
local macro_rules | `(tactic| walk_at "go") => `(tactic| repeat walk_at "g1")
variable {K : PySem.W.Frag} {H : Hp} {Q : VK}
/-! ### comprehensions that stand in many defs -/
theorem seq_asg {te : TE} {g : TG} {u : TS} {D : Ends} {σ : L2.St} (h : te σ H fun x H1 => g x σ H1 (u D)) : tSeq (tAsg te g) u D σ H := h
theorem cons_arg {ta : TE} {tr : TA} {σ : L2.St} {Q : List V → Hp → Prop} (h : ta σ H fun x H1 => tr σ H1 fun xs H2 => Q (x :: xs) H2) : tCons ta tr σ H Q := h
theorem set2 {σ : L2.St} {j : Nat} {v w : Option V} : (σ.set j v).set j w = σ.set j w := by rw [List.set_set]
theorem set_get {σ : L2.St} {i j : Nat} {v : Option V} (h : i ≠ j) : (σ.set j v)[i]? = σ[i]? := by rw [List.getElem?_set_ne (Ne.symm h)]
theorem set_self {σ : L2.St} {j : Nat} {v : Option V} (h : j < σ.length) : (σ.set j v)[j]? = some v := by rw [List.getElem?_set_self h]
/-- [x for x in range(m) if (a, x) in d] -/
theorem near_lc {m j dd : Nat} {te1 : TE} {σ : L2.St} {n : Nat} {d : Addr} {l : List Arr} {a : Int} (hm : σ[m]? = some (some (.int (n : Int)))) (hj : j < σ.length) (hdd : dd ≠ j) (hds : σ[dd]? = some (some (.ref d)))
    (hn : n ≤ 1000) (hd : H d = some (.dT (hk l))) (h1 : ∀ (i : Int) (G : Hp) (Q' : VK), Same H G → Q' (.int a) G → te1 ((σ.set j none).set j (some (.int i))) G Q')
    (q : ∀ p H' ns, ns = ((List.range n).map Int.ofNat).filter (fun x => decide ((a, x) ∈ l)) → H p = none → Same H H' → H' p = some (.lst (ns.map .int)) → Q (.ref p) H') :
    tLc (iRng1 (tCons (tVar m) tNil)) (gName j) (tB (tDIn (tTup (tCons te1 (tCons (tVar j) tNil))) (tVar dd))) (tVar j) [j] σ H Q := by
  refine ⟨_, hm, _, rfl, by omega, by omega, fun D hD => ?_⟩
  have sl : j < (σ.set j none).length := by rw [List.length_set]; exact hj
  refine lc_range (lo := 0) (n := ((n : Int)).toNat) (fun i H' => Same H H' ∧ H' D = some (.lst ((((List.range i).map Int.ofNat).filter (fun x => decide ((a, x) ∈ l))).map V.int))) ⟨Same.new hD, upd_same⟩ ?_ ?_
  · rintro i H' hi ⟨s1, hd1⟩
    have hi' : i < n := by omega
    have ew : wipe σ [j] = σ.set j none := rfl
    rw [ew]
    refine ⟨?_, h1 _ _ _ s1 ?_⟩
    · show (((σ.set j none).set j (some (V.int (0 + (i : Int))))).set j none) = σ.set j none
      rw [set2, set2]
    refine ⟨_, set_self sl, sz2, ?_⟩
    refine fun t1 nt1 => ?_
    generalize e2 : upd _ t1 _ = G1
    have s2 := Same.of_eq e2 nt1
    replace e2 := new_at e2
    refine ⟨_, by rw [set_get hdd, set_get hdd]; exact hds, _, _, rfl, DGet.t (k := kp (a, 0 + (i : Int))) (s2 _ _ (s1 _ _ hd)) e2, ?_⟩
    rw [some_hk, List.range_succ, List.map_append, List.filter_append, List.map_append]
    have e0 : (0 + (i : Int)) = Int.ofNat i := Int.zero_add _
    have es : ([i].map Int.ofNat).filter (fun x => decide ((a, x) ∈ l)) = if (a, 0 + (i : Int)) ∈ l then [Int.ofNat i] else [] := by
      rw [e0]
      show (List.filter (fun x => decide ((a, x) ∈ l)) [Int.ofNat i]) = _
      by_cases c : (a, Int.ofNat i) ∈ l
      · rw [if_pos c, List.filter_cons_of_pos (by rw [decide_eq_true c])] <;> rfl
      · rw [if_neg c, List.filter_cons_of_neg (by rw [decide_eq_false c]; exact Bool.false_ne_true)] <;> rfl
    rw [es]
    refine ⟨_, rfl, iteD (fun c => ?_) fun c => ?_⟩
    · rw [if_pos c]
      refine ⟨_, set_self sl, _, s2 _ _ hd1, lin' ?_, (s1.trans s2).mut hD, ?_⟩
      · rw [List.length_map]
        exact Nat.lt_of_le_of_lt (List.length_filter_le _ _) (by rw [List.length_map, List.length_range]; omega)
      · rw [upd_same, e0]
        rfl
    · rw [if_neg c]
      exact ⟨s1.trans s2, by simpa using s2 _ _ hd1⟩
  · rintro H' ⟨s1, hd1⟩
    have e : ((n : Int)).toNat = n := by omega
    rw [e] at hd1
    exact q D H' _ rfl hD s1 hd1
/-- sorted([pair for pair in list(d) if pair[0] < pair[1]]) -/
theorem pairs_lc {j dd : Nat} {σ : L2.St} {d : Addr} {l : List Arr} (hj : j < σ.length) (hds : σ[dd]? = some (some (.ref d))) (nd : l.Nodup) (hf : l.length ≤ 1000) (hd : H d = some (.dT (hk l)))
    (q : ∀ p H' xs qs, PairsOf l qs → qs.length ≤ l.length → H p = none → Same H H' → H' p = some (.lst xs) → TL H' xs (qs.map p2) → Q (.ref p) H') :
    tCB (rSortD K) (tCons (tLc (iList K (tCB cListT (tCons (tVar dd) tNil))) (gName j) (tTest (tOp oLt (tOp (rIxT K) (tVar j) (tC (.int 0))) (tOp (rIxT K) (tVar j) (tC (.int 1))))) (tVar j) [j]) tNil) σ H Q := by
  refine ⟨_, hds, d, _, rfl, .inl hd, fun p bs np ik => ?_⟩
  generalize e1 : upd _ p _ = H1
  have s1 := Same.of_eq e1 np
  replace e1 := new_at e1
  have tk := (keys_tl ik).mono s1.tk
  have lb : (bs.map V.ref).length = l.length := by rw [paired_len tk]; simp
  refine ⟨_, rfl, ⟨_, SqL.of e1⟩, fun D hD => ?_⟩
  have sl : j < (σ.set j none).length := by rw [List.length_set]; exact hj
  refine lc_list (K := K) (a := p) (xs := bs.map V.ref) (fun i H' => Same H1 H' ∧ ∃ ys, H' D = some (.lst ys) ∧ TL H' ys (((l.take i).filter fun q : Int × Int => decide (q.1 < q.2)).map p2)) ⟨Same.new hD, [], upd_same, .nil⟩ (fun i G _ ⟨s, _⟩ => SqL.of (s _ _ e1)) ?_ ?_
  · rintro i x G hx ⟨s2, ys, hy, ty⟩
    obtain ⟨q, hq, t, rfl, htq⟩ := TLp.at tk hx
    have htq2 := s2 _ _ htq
    have ew : wipe σ [j] = σ.set j none := rfl
    rw [ew]
    refine ⟨?_, _, set_self sl, _, _, _, _, rfl, rfl, SqT.of htq2, at0, ?_⟩
    · show (((σ.set j none).set j (some (V.ref t))).set j none) = σ.set j none
      rw [set2, set2]
    refine ⟨_, set_self sl, _, _, _, _, rfl, rfl, SqT.of htq2, at1, ?_⟩
    refine ⟨_, _, rfl, rfl, _, rfl, ?_⟩
    rw [take_snoc hq, List.filter_append, List.map_append]
    refine iteD (fun c => ?_) fun c => ?_
    · have ly : ys.length ≤ l.length := by
        rw [paired_len ty, List.length_map]
        have h1 := List.length_filter_le (fun q : Int × Int => decide (q.1 < q.2)) (l.take i)
        rw [List.length_take] at h1
        omega
      refine ⟨_, set_self sl, _, hy, lin' (by omega), s2.mut hD, _, upd_same, ?_⟩
      rw [List.filter_cons_of_pos (by rw [decide_eq_true c])]
      have tkd : TK G (upd G D (.lst (ys ++ [V.ref t]))) := TK.upd fun zs z => by rw [hy] at z; cases z
      exact paired_app (ty.mono tkd) (.cons (TI.mono tkd (ti2 htq2)) .nil)
    · rw [List.filter_cons_of_neg (by rw [decide_eq_false c]; exact Bool.false_ne_true)]
      exact ⟨s2, ys, hy, by simpa using ty⟩
  · rintro G ⟨s2, ys, hy, ty⟩
    rw [lb, List.take_length] at ty
    refine ⟨D, ys, _, rfl, SqL.of hy, ty, fun ns hn => ?_, fun zs ms r tz pm pw nr => ?_⟩
    · obtain ⟨q, _, rfl⟩ := List.mem_map.mp hn
      exact fun z => nomatch z
    · obtain ⟨qs, rfl, pq⟩ := perm_p2 pm
      generalize e4 : upd _ r _ = G3
      have s4 := Same.of_eq e4 nr
      replace e4 := new_at e4
      have nd : (l.filter fun q => decide (q.1 < q.2)).Nodup := nd.filter _
      have r0 := rising_sorted pm pw (nodup_mapOn' nd fun a _ b _ e => p2_inj e)
      refine q r G3 zs qs ⟨r0, fun a b => ?_⟩ ?_ (s1.free (s2.free nr)) ((s1.trans s2).trans s4) e4 (tz.mono s4.tk)
      · rw [pq.mem_iff, List.mem_filter]
        simp
      · rw [pq.length_eq]
        exact List.length_filter_le _ _
/-- sorted(list(d)) -/
theorem sortK_lc {dd : Nat} {σ : L2.St} {d : Addr} {l : List Arr} (hds : σ[dd]? = some (some (.ref d))) (nd : l.Nodup) (hd : H d = some (.dT (hk l)))
    (q : ∀ p H' xs (qs : List Arr), Rising (qs.map p2) → qs.Perm l → H p = none → Same H H' → H' p = some (.lst xs) → TL H' xs (qs.map p2) → Q (.ref p) H') :
    tCB (rSortD K) (tCons (tCB cListT (tCons (tVar dd) tNil)) tNil) σ H Q := by
  refine ⟨_, hds, d, _, rfl, .inl hd, fun p bs np ik => ?_⟩
  generalize e1 : upd _ p _ = H1
  have s1 := Same.of_eq e1 np
  replace e1 := new_at e1
  have tk := (keys_tl ik).mono s1.tk
  refine ⟨p, _, _, rfl, SqL.of e1, tk, fun ns hm => ?_, fun zs ms r tz pm pw nr => ?_⟩
  · obtain ⟨q, _, rfl⟩ := List.mem_map.mp hm
    exact fun z => nomatch z
  obtain ⟨qs, rfl, pq⟩ := perm_p2 pm
  generalize e2 : upd _ r _ = H2
  have s2 := Same.of_eq e2 nr
  replace e2 := new_at e2
  exact q r H2 zs qs (rising_sorted pm pw (nodup_mapOn' nd fun a _ b _ e => p2_inj e)) pq (s1.free nr) (s1.trans s2) e2 (tz.mono s2.tk)
theorem PairsOf.same {l l' qs rs : List Arr} (pm : l.Perm l') (h : PairsOf l qs) (k : PairsOf l' rs) : qs.map p2 = rs.map p2 := rising_same h.1 k.1 fun x => by
  simp only [List.mem_map]
  constructor
  · rintro ⟨⟨a, b⟩, hy, rfl⟩
    obtain ⟨h1, h2⟩ := (h.2 a b).mp hy
    exact ⟨(a, b), (k.2 a b).mpr ⟨pm.mem_iff.mp h1, h2⟩, rfl⟩
  · rintro ⟨⟨a, b⟩, hy, rfl⟩
    obtain ⟨h1, h2⟩ := (k.2 a b).mp hy
    exact ⟨(a, b), (h.2 a b).mpr ⟨pm.mem_iff.mpr h1, h2⟩, rfl⟩
theorem NetAt.but {H H' : Hp} {a : Addr} {xs : List V} {w : V} {n : Nat} {l : List Arr} (ha : H a = some (.lst xs)) (s : But a H H') (h : NetAt K H w n l) : NetAt K H' w n l := by
  obtain ⟨o, dx, d, rfl, h1, h2, g⟩ := h
  exact ⟨o, dx, d, rfl, s _ _ (fun z => by rw [z, ha] at h1; cases h1) h1, s _ _ (fun z => by rw [z, ha] at h2; cases h2) h2, g⟩
theorem But.tk {H H' : Hp} {a : Addr} {xs : List V} (ha : H a = some (.lst xs)) (s : But a H H') : TK H H' := fun b zs e => s _ _ (fun z => by rw [z, ha] at e; cases e) e
theorem But.upd {H : Hp} {a : Addr} {o : HO} : But a H (upd H a o) := fun b u n e => by
  rw [upd_ne n]
  exact e
theorem But.same {H H1 H2 : Hp} {a : Addr} (s : But a H H1) (t : Same H1 H2) : But a H H2 := fun b u n e => t _ _ (s b u n e)
end Ar
namespace Ar
open PySem PySem.Spec L2
local macro_rules | `(tactic| walk_at "g1") => `(tactic| first
  | refine ⟨_, rfl, ?_⟩
  | refine ⟨_, _, rfl, rfl, ?_⟩
  | refine ⟨(by show (0 : Int) < _; decide), ?_⟩
  | refine ⟨⟨by decide, by decide⟩, ?_⟩
  | refine ⟨(show CMul _ _ from .inl ⟨by omega, by omega⟩), ?_⟩
  | refine ⟨(show CMul _ _ from .inr ⟨by omega, by omega⟩), ?_⟩
  | refine ⟨(show (_ : Int) ≠ 0 by decide), ?_⟩
  | refine ⟨sz2, ?_⟩
  | refine ⟨sz0, ?_⟩
  | refine ⟨sz3, ?_⟩)
local macro_rules | `(tactic| walk_at "ty") => `(tactic| first | exact .int _ | exact .bl _ | exact .tup (by assumption) | exact .lst (by assumption))
local macro_rules | `(tactic| walk_at "isT") => `(tactic| refine ⟨_, _, _, _, true, rfl, .ty _, .base (by walk_at "ty"), kit_ty (by decide +kernel), ?_⟩)
local macro_rules | `(tactic| walk_at "isF") => `(tactic| refine ⟨_, _, _, _, false, rfl, .ty _, .base (by walk_at "ty"), kit_ty (by decide +kernel), ?_⟩)
local macro_rules | `(tactic| walk_at "cell") => `(tactic| ((repeat walk_at "g1"); refine ⟨_, _, _, rfl, (by assumption), (by assumption), (by first | decide | omega), ?_⟩; repeat walk_at "g1"))
local macro_rules | `(tactic| walk_at "go") => `(tactic| repeat walk_at "g1")
def t_look (K : PySem.W.Frag) (E : XK) : TS :=
  (tSeq (tIfS (tOr (tTest (tOp oLt (tVar 0) (tC (.int 0)))) (tTest (tOp oGt (tVar 0) (tC (.int 24))))) (tRaise (He.ga K "NoPoints") E) tNext) (tFor (iList K (tVar 1)) (gTup K 2 (gCons (gName 2) (gCons (gName 3) gNil))) (tIfS (tOr (tTest (tOp oLt (tCB cMin2 (tCons (tVar 2) (tCons (tVar 3) tNil))) (tC (.int 0)))) (tTest (tOp oGe (tCB cMax2 (tCons (tVar 2) (tCons (tVar 3) tNil))) (tVar 0)))) (tRaise (He.ga K "NoPoint") E) tNext)))
def t_heights (K : PySem.W.Frag) (E : XK) : TS :=
  (tSeq (tDrop (tCall (sp_look K) [] E (tCons (tVar 0) (tCons (tVar 1) tNil)))) (tSeq (tAsg (tOp rRep (tLst (tCons (tC (.int 1)) tNil)) (tVar 0)) (gName 2)) (tSeq (tFor (iRng1 (tCons (tOp oAdd (tVar 0) (tC (.int 1))) tNil)) (gName 3) (tSeq (tAsg (tC (.bl false)) (gName 4)) (tSeq (tFor (iList K (tVar 1)) (gTup K 2 (gCons (gName 5) (gCons (gName 6) gNil))) (tIfS (tTest (tOp oLe (tOp (rIxL K) (tVar 2) (tVar 6)) (tOp (rIxL K) (tVar 2) (tVar 5)))) (tSeq (tAsg (tOp oAdd (tOp (rIxL K) (tVar 2) (tVar 5)) (tC (.int 1))) (gSub (tVar 2) (tVar 6) rSetL)) (tAsg (tC (.bl true)) (gName 4))) tNext)) (tIfS (tNot (tB (tVar 4))) (tRet (tVar 2)) tNext)))) (tRaise (He.ga K "Round") E))))
def t_longest (K : PySem.W.Frag) (E : XK) : TS :=
  (tSeq (tAsg (tCall (sp_heights K) [] E (tCons (tVar 0) (tCons (tLc (iList K (tVar 1)) (gTup K 2 (gCons (gName 2) (gCons (gName 3) gNil))) tYes (tTup (tCons (tVar 3) (tCons (tVar 2) tNil))) [2, 3]) tNil))) (gName 4)) (tSeq (tAsg (tLst tNil) (gName 5)) (tSeq (tAsg (tC .non) (gName 6)) (tSeq (tFor (iRng3 (tCons (tMaxDef K (tVar 4) (tC (.int 0))) (tCons (tC (.int 0)) (tCons (tUn oNeg (tC (.int 1))) tNil)))) (gName 7) (tSeq (tAsg (tLc (iRng1 (tCons (tVar 0) tNil)) (gName 8) (tTest (tOp rEq (tOp (rIxL K) (tVar 4) (tVar 8)) (tVar 7))) (tVar 8) [8]) (gName 9)) (Evl.tCut (tIfS (tB (tNotN (tVar 6))) (tAsg (tLc (iList K (tVar 9)) (gName 8) (tTest (tOp (rInD K) (tTup (tCons (tVar 6) (tCons (tVar 8) tNil))) (tVar 1))) (tVar 8) [8]) (gName 9)) tNext) (tSeq (tAsg (tCB (rMin K) (tCons (tVar 9) tNil)) (gName 6)) (tDrop (tBM K "list" rAppend (tVar 5) (tCons (tVar 6) tNil))))))) (tRet (tVar 5))))))
variable {K : PySem.W.Frag} {vs : List V} {H : Hp} {Q : VK} {E : XK}
theorem len_look (h : sp_look K vs H Q E) : vs.length = 2 := by
  obtain ⟨m, a, xs, ps, rfl, _⟩ := h
  rfl
theorem pure_look (h : sp_look K vs H Q E) : t_look K E (ends Q) (st 4 vs) H := by
  obtain ⟨m, a, xs, ps, rfl, ha, tt, q1, q2, q3⟩ := h
  have lx : xs.length = ps.length := by rw [paired_len tt]; simp
  walk_at "go"
  refine iteD (fun c => q1 (by omega)) fun c1 => ?_
  walk_at "go"
  refine iteD (fun c => q1 (by omega)) fun c2 => ?_
  have ok : OkM m := by omega
  refine ⟨_, rfl, a, rfl, ⟨_, SqL.of ha⟩, for_list (K := K) (a := a) (xs := xs) (fun i σ G => G = H ∧ ∃ (o2 o3 : Option V), σ = [some (.int m), some (.ref a), o2, o3] ∧ InR m (ps.take i))
    ⟨rfl, _, _, rfl, fun p hp => (nomatch hp)⟩ (fun i σ G _ ⟨e, _⟩ => by rw [e]; exact SqL.of ha) ?_ ?_⟩
  · rintro i x σ G hx ⟨rfl, o2, o3, rfl, r⟩
    obtain ⟨p, hp, t, rfl, htp⟩ := TLp.at tt hx
    have no : ¬ (0 ≤ p.1 ∧ p.1 < m ∧ 0 ≤ p.2 ∧ p.2 < m) → E (.ref (He.ga K "NoPoint")) none G := fun z => q2 ok fun y => z (y p (mem_of_get hp))
    refine ⟨_, _, rfl, SqT.of htp, rfl, _, _, rfl, _, _, rfl, rfl, ?_⟩
    walk_at "go"
    refine ⟨_, _, rfl, ?_⟩
    walk_at "go"
    refine iteD (fun c => no ?_) fun c3 => ?_
    · split at c <;> omega
    walk_at "go"
    refine ⟨_, _, rfl, ?_⟩
    walk_at "go"
    refine iteD (fun c => no ?_) fun c4 => ?_
    · split at c <;> omega
    refine ⟨rfl, _, _, rfl, fun q hq => ?_⟩
    rw [take_snoc hp] at hq
    rcases List.mem_append.mp hq with hq | hq
    · exact r q hq
    · rw [List.mem_singleton.mp hq]
      split at c3 <;> split at c4 <;> omega
  · rintro σ G ⟨rfl, o2, o3, rfl, r⟩
    rw [lx, List.take_length] at r
    walk_at "go"
    exact q3 ok r
theorem get_gv {hs : List Int} {v : Int} (h0 : 0 ≤ v) (h1 : v < hs.length) : atI (hs.map V.int) v = some (.int (gv hs v)) := at_of (j := v.toNat) (by omega) (get_ints (by omega))
theorem len_heights (h : sp_heights K vs H Q E) : vs.length = 2 := by
  obtain ⟨m, a, xs, ps, rfl, _⟩ := h
  rfl
theorem rep_one (n : Nat) : (List.replicate n [V.int 1]).flatten = (List.replicate n (1 : Int)).map V.int := by
  induction n with
  | zero => rfl
  | succ n ih => rw [List.replicate_succ, List.flatten_cons, ih, List.replicate_succ] <;> rfl
theorem pure_heights (h : sp_heights K vs H Q E) : t_heights K E (ends Q) (st 7 vs) H := by
  obtain ⟨m, a, xs, ps, rfl, ha, tt, q1, q2, q3, q4⟩ := h
  have lx : xs.length = ps.length := by rw [paired_len tt]; simp
  walk_at "go"
  refine ⟨m, a, xs, ps, rfl, ha, tt, q1, q2, fun ok r => ?_⟩
  obtain ⟨n, rfl⟩ : ∃ n : Nat, m = n := ⟨m.toNat, by omega⟩
  have hn : n ≤ 24 := by omega
  have en : ((n : Int)).toNat = n := by omega
  rw [en] at q3 q4
  replace q3 := q3 ok r
  replace q4 := q4 ok r
  clear q1 q2
  walk_at "go"
  refine ⟨sz1, ?_⟩
  refine fun o1 no1 => ?_
  generalize e1 : upd _ o1 _ = H1
  have s1 := Same.of_eq e1 no1
  replace e1 := new_at e1
  walk_at "go"
  refine ⟨o1, _, _, rfl, rfl, e1, by omega, by omega, lin (by rw [en]; show 1 * n ≤ _; omega), ?_⟩
  refine fun fd nfd => ?_
  generalize e2 : upd _ fd _ = H2
  have s2 := Same.of_eq e2 nfd
  replace e2 := new_at e2
  rw [en, rep_one] at e2
  have s12 := s1.trans s2
  have nfd0 : H fd = none := s1.free nfd
  have naf : a ≠ fd := ne_of_none (s1 _ _ ha) nfd
  walk_at "go"
  have en2 : ((n : Int) + 1).toNat = n + 1 := by omega
  refine ⟨by omega, by omega, for_n (n := ((n : Int) + 1).toNat) (fun i σ G => ∃ (o3 o4 o5 o6 : Option V) (hs : List Int), σ = [some (.int n), some (.ref a), some (.ref fd), o3, o4, o5, o6] ∧ Same H G ∧ G fd = some (.lst (hs.map .int)) ∧ Hout n ps i hs)
    ⟨_, _, _, _, _, rfl, s12, e2, Hout.init n ps⟩ ?_ ?_⟩
  · rintro i σ G hi ⟨o3, o4, o5, o6, h0, rfl, s0, hf, O⟩
    walk_at "go"
    refine ⟨⟨_, SqL.of (s0 _ _ ha)⟩, for_list (K := K) (a := a) (xs := xs) (fun j σ G => ∃ (o5 o6 : Option V) (c : Bool) (hs : List Int), σ = [some (.int n), some (.ref a), some (.ref fd), some (.int i), some (.bl c), o5, o6] ∧ Same H G ∧ G fd = some (.lst (hs.map .int)) ∧ Hmid n ps i j h0 hs c)
      ⟨_, _, _, _, rfl, s0, hf, Hmid.init O⟩ (fun j σ G _ ⟨_, _, _, _, _, s, _⟩ => SqL.of (s _ _ ha)) ?_ ?_⟩
    · rintro j x σ G hx ⟨o5, o6, c, hs, rfl, s0, hf, M⟩
      obtain ⟨p, hp, t, rfl, htp⟩ := TLp.at tt hx
      obtain ⟨r1, r2, r3, r4⟩ := r _ (mem_of_get hp)
      have hl := M.h.len
      refine ⟨_, _, rfl, SqT.of (s0 _ _ htp), rfl, _, _, rfl, _, _, rfl, rfl, ?_⟩
      walk_at "go"
      refine ⟨fd, _, _, _, rfl, rfl, SqL.of hf, get_gv r3 (by omega), ?_⟩
      walk_at "go"
      refine ⟨fd, _, _, _, rfl, rfl, SqL.of hf, get_gv r1 (by omega), ?_⟩
      walk_at "go"
      refine iteD (fun c1 => ?_) fun c1 => ?_
      · walk_at "go"
        refine ⟨fd, _, _, _, rfl, rfl, SqL.of hf, get_gv r1 (by omega), ?_⟩
        walk_at "go"
        refine ⟨fd, _, _, p.2.toNat, rfl, rfl, hf, ?_, ?_⟩
        · unfold ixN
          rw [if_pos r3, if_pos (by rw [List.length_map]; omega)]
        walk_at "go"
        refine ⟨_, _, _, hs.set p.2.toNat (gv hs p.1 + 1), rfl, s0.mut nfd0, ?_, M.put r O hp c1⟩
        rw [upd_same, List.map_set]
      · exact ⟨_, _, c, hs, rfl, s0, hf, M.skip r O hp c1⟩
    · rintro σ G ⟨o5, o6, c, hs, rfl, s0, hf, M⟩
      rw [lx] at M
      walk_at "go"
      cases c with
      | false =>
        walk_at "go"
        exact q4 hs fd G (M.done r) nfd0 s0 hf
      | true =>
        exact ⟨_, _, _, _, hs, rfl, s0, hf, M.next r O⟩
  · rintro σ G ⟨o3, o4, o5, o6, hs, rfl, s0, hf, O⟩
    rw [en2] at O
    refine q3 (fun ⟨ht, k⟩ => ?_) G s0
    have := (O.low ht k).1
    omega
theorem len_longest (h : sp_longest K vs H Q E) : vs.length = 2 := by
  obtain ⟨m, a, xs, ps, rfl, _⟩ := h
  rfl
theorem pure_longest (h : sp_longest K vs H Q E) : t_longest K E (ends Q) (st 10 vs) H := by
  obtain ⟨m, a, xs, ps, rfl, ha, tt, lp, q1, q2, q3, q4⟩ := h
  have lx : xs.length = ps.length := by rw [paired_len tt]; simp
  walk_at "go"
  refine ⟨⟨_, SqL.of ha⟩, fun D hD => ?_⟩
  refine lc_list (K := K) (a := a) (xs := xs) (fun i H' => Same H H' ∧ ∃ zs, H' D = some (.lst zs) ∧ TL H' zs (((ps.take i).map sw).map p2)) ⟨Same.new hD, [], upd_same, .nil⟩ (fun i G _ ⟨s, _⟩ => SqL.of (s _ _ ha)) ?_ ?_
  · rintro i x G hx ⟨s1, zs, hz, tz⟩
    obtain ⟨p, hp, t, rfl, htp⟩ := TLp.at tt hx
    have hi := lt_of_get hp
    refine ⟨_, _, rfl, SqT.of (s1 _ _ htp), rfl, _, _, rfl, _, _, rfl, rfl, ?_⟩
    refine ⟨rfl, ?_⟩
    walk_at "go"
    refine fun u nu => ?_
    generalize e2 : upd _ u _ = G3
    have s2 := Same.of_eq e2 nu
    replace e2 := new_at e2
    have hz3 := s2 _ _ hz
    have lz : zs.length ≤ 1000 := by
      rw [paired_len tz, List.length_map, List.length_map, List.length_take]
      omega
    have tkd : TK G3 (upd G3 D (.lst (zs ++ [V.ref u]))) := TK.upd fun zs z => by rw [hz3] at z; cases z
    refine ⟨_, hz3, lin' (by omega), (s1.trans s2).mut hD, _, upd_same, ?_⟩
    rw [take_snoc hp, List.map_append]
    exact tl_app (tz.mono (s2.tk.trans tkd)) (tl_one (tkd _ _ e2))
  rintro G1 ⟨s1, zs, hz, tz⟩
  rw [lx, List.take_length] at tz
  have rsw : InR m (ps.map sw) ↔ InR m ps := by
    constructor
    · intro r p hp
      have := r (sw p) (List.mem_map.mpr ⟨p, hp, rfl⟩)
      exact ⟨this.2.2.1, this.2.2.2, this.1, this.2.1⟩
    · intro r p hp
      obtain ⟨q, hq, rfl⟩ := List.mem_map.mp hp
      have := r q hq
      exact ⟨this.2.2.1, this.2.2.2, this.1, this.2.1⟩
  walk_at "go"
  refine ⟨m, D, zs, ps.map sw, rfl, hz, tz, fun c => q1 c _ s1, fun c r => q2 c (fun z => r (rsw.mpr z)) _ s1, fun c r z H' s => q3 c (rsw.mp r) z _ (s1.trans s), fun ok r ds dp G2 hd ndp s2 edp => ?_⟩
  replace r := rsw.mp r
  replace q4 := q4 ok r ds
  obtain ⟨n, rfl⟩ : ∃ n : Nat, m = n := ⟨m.toNat, by omega⟩
  have hn : n ≤ 24 := by omega
  have en : ((n : Int)).toNat = n := by omega
  rw [en] at q4 hd
  have s12 := s1.trans s2
  have ld := hd.len
  walk_at "go"
  refine fun ro nro => ?_
  generalize e3 : upd _ ro _ = G3
  have s3 := Same.of_eq e3 nro
  replace e3 := new_at e3
  walk_at "go"
  have sA := s12.trans s3
  have edp3 := s3 _ _ edp
  have nro0 : H ro = none := s12.free nro
  have hM : 0 ≤ maxOr 0 ds ∧ maxOr 0 ds ≤ 24 ∧ (0 < maxOr 0 ds → ∃ v : Int, 0 ≤ v ∧ v < n ∧ gv ds v = maxOr 0 ds) := by
    cases hds : ds with
    | nil => exact ⟨Int.le_refl _, by decide, fun z => absurd z (by decide)⟩
    | cons x l =>
      rw [← hds]
      obtain ⟨mm, _⟩ := maxOr_mem (d := 0) (ns := ds) (by rw [hds]; exact Nat.succ_pos _)
      obtain ⟨j, hj⟩ := List.getElem?_of_mem mm
      have hjn := lt_of_get hj
      have ev : gv ds (j : Int) = maxOr 0 ds := by
        unfold gv
        rw [List.getD_eq_getElem?_getD, Int.toNat_natCast, hj] <;> rfl
      have h1 := hd.one (j : Int) (by omega) (by omega)
      have h2 := hd.most (rsw.mpr r) (v := (j : Int)) (by omega) (by omega)
      exact ⟨by omega, by omega, fun _ => ⟨j, by omega, by omega, ev⟩⟩
  refine ⟨dp, ds, 0, rfl, rfl, SqL.of edp3, ?_⟩
  generalize eM : maxOr 0 ds = M at hM
  walk_at "go"
  refine ⟨_, _, _, _, rfl, RgC.neg (by omega) (by omega) (by omega) (by omega), for_rangeC (lo := M) (c := -1) (n := (M - 0).toNat) (fun i σ G => ∃ (o7 o8 o9 : Option V) (lv : V) (row : List Int), σ = [some (.int n), some (.ref a), none, none, some (.ref dp), some (.ref ro), some lv, o7, o8, o9] ∧ Same H G ∧ G dp = some (.lst (ds.map .int)) ∧ G ro = some (.lst (row.map .int)) ∧ LongP n ps ds M i row ∧
      ((i = 0 ∧ lv = .non) ∨ 0 < i ∧ ∃ u, row[i - 1]? = some u ∧ lv = .int u))
    ⟨_, _, _, _, [], rfl, sA, edp3, e3, LongP.init n ps ds M, .inl ⟨rfl, rfl⟩⟩ ?_ ?_⟩
  · rintro i σ G hi ⟨o7, o8, o9, lv, row, rfl, s0, hdp, hro, L, hlv⟩
    have eleft : M + (i : Int) * -1 = M - i := by omega
    rw [eleft]
    have hleft : 1 ≤ M - i := by omega
    walk_at "go"
    refine ⟨by omega, by omega, fun g0 ng0 => ?_⟩
    refine lc_range (lo := 0) (n := ((n : Int)).toNat) (fun j H' => Same H H' ∧ H' dp = some (.lst (ds.map .int)) ∧ H' ro = some (.lst (row.map .int)) ∧ H' g0 = some (.lst ((((List.range j).map Int.ofNat).filter fun v => decide (gv ds v = M - i)).map .int)))
      ⟨s0.mut (s0.free ng0), by rw [upd_ne (ne_of_none hdp ng0)]; exact hdp, by rw [upd_ne (ne_of_none hro ng0)]; exact hro, upd_same⟩ ?_ ?_
    · rintro j G1 hj ⟨s4, hdp4, hro4, hg4⟩
      refine ⟨rfl, ?_⟩
      walk_at "go"
      refine ⟨dp, _, _, _, rfl, rfl, SqL.of hdp4, get_gv (v := 0 + (j : Int)) (by omega) (by omega), ?_⟩
      have e0 : (0 + (j : Int)) = Int.ofNat j := Int.zero_add _
      have es : ([j].map Int.ofNat).filter (fun v => decide (gv ds v = M - i)) = if gv ds (0 + (j : Int)) = M - i then [Int.ofNat j] else [] := by
        rw [e0]
        show (List.filter (fun v => decide (gv ds v = M - i)) [Int.ofNat j]) = _
        by_cases c : gv ds (Int.ofNat j) = M - i
        · rw [if_pos c, List.filter_cons_of_pos (by rw [decide_eq_true c])] <;> rfl
        · rw [if_neg c, List.filter_cons_of_neg (by rw [decide_eq_false c]; exact Bool.false_ne_true)] <;> rfl
      walk_at "go"
      rw [List.range_succ, List.map_append, List.filter_append, List.map_append, es]
      refine ⟨rfl, _, rfl, iteE (fun c => ?_) fun c => ?_⟩
      · rw [if_pos c]
        walk_at "go"
        refine ⟨_, hg4, lin' ?_, s4.mut (s0.free ng0), by rw [upd_ne (ne_of_none hdp ng0)]; exact hdp4, by rw [upd_ne (ne_of_none hro ng0)]; exact hro4, by rw [upd_same, e0]; rfl⟩
        rw [List.length_map]
        exact Nat.lt_of_le_of_lt (List.length_filter_le _ _) (by rw [List.length_map, List.length_range]; omega)
      · rw [if_neg c]
        exact ⟨s4, hdp4, hro4, by simpa using hg4⟩
    rintro G1 ⟨s4, hdp4, hro4, hg4⟩
    rw [en] at hg4
    generalize eg : ((List.range n).map Int.ofNat).filter (fun v => decide (gv ds v = M - i)) = gs at hg4
    have mg : ∀ v, v ∈ gs ↔ (0 ≤ v ∧ v < n) ∧ gv ds v = M - i := fun v => by
      rw [← eg, List.mem_filter, decide_eq_true_iff, List.mem_map]
      constructor
      · rintro ⟨⟨k, hk, rfl⟩, h⟩
        have := List.mem_range.mp hk
        exact ⟨⟨Int.natCast_nonneg k, by show (k : Int) < n; omega⟩, h⟩
      · rintro ⟨⟨h1, h2⟩, h⟩
        exact ⟨⟨v.toNat, List.mem_range.mpr (by omega), by show ((v.toNat : Nat) : Int) = v; omega⟩, h⟩
    have lg : gs.length ≤ 24 := by
      rw [← eg]
      exact Nat.le_trans (List.length_filter_le _ _) (by rw [List.length_map, List.length_range]; exact hn)
    have nrg : ro ≠ g0 := fun z => by rw [z] at hro; rw [hro] at ng0; cases ng0
    have ndr : dp ≠ ro := fun z => by rw [z, nro] at edp; cases edp
    refine ⟨fun σ G => ∃ (o7 o8 : Option V) (gp : Addr) (gs : List Int), σ = [some (.int n), some (.ref a), none, none, some (.ref dp), some (.ref ro), some lv, o7, o8, some (.ref gp)] ∧ Same H G ∧ G dp = some (.lst (ds.map .int)) ∧ G ro = some (.lst (row.map .int)) ∧ G gp = some (.lst (gs.map .int)) ∧
      (∀ v, v ∈ gs ↔ ((0 ≤ v ∧ v < n) ∧ gv ds v = M - i) ∧ ∀ u, 0 < i → row[i - 1]? = some u → (u, v) ∈ ps), ?_, ?_⟩
    · walk_at "go"
      rcases hlv with ⟨rfl, rfl⟩ | ⟨i0, u, hu, rfl⟩
      · walk_at "go"
        exact ⟨_, _, g0, gs, rfl, s4, hdp4, hro4, hg4, fun v => (mg v).trans ⟨fun h => ⟨h, fun u z => absurd z (Nat.lt_irrefl _)⟩, fun h => h.1⟩⟩
      · walk_at "go"
        refine ⟨⟨_, SqL.of hg4⟩, fun g1 ng1 => ?_⟩
        have lgm : (gs.map V.int).length = gs.length := by simp
        refine lc_list (K := K) (a := g0) (xs := gs.map .int) (fun j H' => Same H H' ∧ H' g0 = some (.lst (gs.map .int)) ∧ H' dp = some (.lst (ds.map .int)) ∧ H' ro = some (.lst (row.map .int)) ∧ H' g1 = some (.lst (((gs.take j).filter fun v => decide ((u, v) ∈ ps)).map .int)))
          ⟨s4.mut (s4.free ng1), by rw [upd_ne (ne_of_none hg4 ng1)]; exact hg4, by rw [upd_ne (ne_of_none hdp4 ng1)]; exact hdp4, by rw [upd_ne (ne_of_none hro4 ng1)]; exact hro4, upd_same⟩ (fun j G _ ⟨_, h, _⟩ => SqL.of h) ?_ ?_
        · rintro j x G2 hx ⟨s5, hg5, hdp5, hro5, hn5⟩
          obtain ⟨v, hv, rfl⟩ := get_map hx
          refine ⟨rfl, ?_⟩
          walk_at "go"
          refine fun t nt => ?_
          generalize e6 : upd _ t _ = G3
          have s6 := Same.of_eq e6 nt
          replace e6 := new_at e6
          have s56 := s5.trans s6
          refine ⟨_, rfl, dI (p2 (u, v)), (ps.map p2).map dI, dp_ti ⟨t, rfl, e6⟩, dp_tl (SqL.of (s56 _ _ ha)) (tt.mono s56.tk), shaped_dI _, shaped_dIs _, ?_⟩
          have em : ((ps.map p2).map dI).any (fun z => PyData.eqv z (dI (p2 (u, v)))) = decide ((u, v) ∈ ps) := by
            rw [any_dI]
            have : p2 (u, v) ∈ ps.map p2 ↔ (u, v) ∈ ps := by
              constructor
              · intro h
                obtain ⟨q, hq, e⟩ := List.mem_map.mp h
                exact p2_inj e ▸ hq
              · intro h
                exact List.mem_map.mpr ⟨_, h, rfl⟩
            by_cases h : (u, v) ∈ ps
            · rw [decide_eq_true h, decide_eq_true (this.mpr h)]
            · rw [decide_eq_false h, decide_eq_false (fun z => h (this.mp z))]
          rw [em, take_snoc hv, List.filter_append, List.map_append]
          have es : [v].filter (fun v => decide ((u, v) ∈ ps)) = if (u, v) ∈ ps then [v] else [] := by
            by_cases c : (u, v) ∈ ps
            · rw [if_pos c, List.filter_cons_of_pos (by rw [decide_eq_true c])] <;> rfl
            · rw [if_neg c, List.filter_cons_of_neg (by rw [decide_eq_false c]; exact Bool.false_ne_true)] <;> rfl
          rw [es]
          have hn6 := s6 _ _ hn5
          refine ⟨_, rfl, iteD (fun c => ?_) fun c => ?_⟩
          · rw [if_pos c]
            walk_at "go"
            have nHg1 : H g1 = none := s4.free ng1
            refine ⟨_, hn6, lin' ?_, s56.mut nHg1, ?_, ?_, ?_, by rw [upd_same]; rfl⟩
            · rw [List.length_map]
              exact Nat.lt_of_le_of_lt (List.length_filter_le _ _) (by rw [List.length_take]; omega)
            · rw [upd_ne (ne_of_none hg4 ng1)]; exact s6 _ _ hg5
            · rw [upd_ne (ne_of_none hdp4 ng1)]; exact s6 _ _ hdp5
            · rw [upd_ne (ne_of_none hro4 ng1)]; exact s6 _ _ hro5
          · rw [if_neg c]
            exact ⟨s56, s6 _ _ hg5, s6 _ _ hdp5, s6 _ _ hro5, by simpa using hn6⟩
        · rintro G2 ⟨s5, hg5, hdp5, hro5, hn5⟩
          rw [lgm, List.take_length] at hn5
          refine ⟨_, _, g1, _, rfl, s5, hdp5, hro5, hn5, fun v => ?_⟩
          rw [List.mem_filter, mg, decide_eq_true_iff]
          constructor
          · rintro ⟨h1, h2⟩
            exact ⟨h1, fun u' _ hu' => by rw [hu] at hu'; cases hu'; exact h2⟩
          · rintro ⟨h1, h2⟩
            exact ⟨h1, h2 u i0 hu⟩
    rintro σ G3 ⟨o7, o8, gp, gs, rfl, s5, hdp5, hro5, hgp5, mg⟩
    have some' : ∃ v, v ∈ gs := by
      rcases Nat.eq_zero_or_pos i with rfl | i0
      · obtain ⟨v, v0, v1, v2⟩ := hM.2.2 (by omega)
        exact ⟨v, (mg v).mpr ⟨⟨⟨v0, v1⟩, by rw [v2]; omega⟩, fun u z => absurd z (Nat.lt_irrefl _)⟩⟩
      · obtain ⟨u, hu⟩ : ∃ u, row[i - 1]? = some u := by
          rcases hlv with ⟨z, _⟩ | ⟨_, u, hu, _⟩
          · omega
          · exact ⟨u, hu⟩
        obtain ⟨u0, u1, u2, _⟩ := L.at' (i - 1) u hu
        rcases hd.dn u u0 u1 with z | ⟨x, hx, z⟩
        · omega
        · obtain ⟨y, hy, e⟩ := List.mem_map.mp hx
          obtain ⟨y1, y2⟩ := y
          cases e
          have z : gv ds y2 + 1 = gv ds y1 := z
          have u2 : gv ds y1 = M - ((i - 1 : Nat) : Int) := u2
          have u3 : gv ds y2 = M - (i : Int) := by
            clear mg hM hlv
            omega
          obtain ⟨_, _, r3, r4⟩ := r _ hy
          exact ⟨y2, (mg y2).mpr ⟨⟨⟨r3, r4⟩, u3⟩, fun u' _ hu' => by rw [hu] at hu'; cases hu'; exact hy⟩⟩
    obtain ⟨v0, hv0⟩ := some'
    walk_at "go"
    refine ⟨gp, gs, rfl, SqL.of hgp5, List.length_pos_of_mem hv0, fun v hv hle => ?_⟩
    walk_at "go"
    refine ⟨.inl ⟨rfl, _, SqL.of hro5⟩, ?_⟩
    have lrow : (row.map V.int).length ≤ 24 := by
      rw [List.length_map, L.len]
      omega
    walk_at "go"
    refine ⟨ro, _, _, rfl, rfl, hro5, lin' (by omega), ?_⟩
    obtain ⟨⟨w1, w2⟩, w3⟩ := (mg v).mp hv
    refine ⟨_, _, _, _, row ++ [v], rfl, s5.mut nro0, ?_, ?_, L.put w1.1 w1.2 w2 w3 fun w a1 a2 a3 a4 => hle w ((mg w).mpr ⟨⟨⟨a1, a2⟩, a3⟩, a4⟩), .inr ⟨Nat.succ_pos _, v, ?_, rfl⟩⟩
    · rw [upd_ne (fun z => by rw [z, nro] at edp; cases edp)]
      exact hdp5
    · rw [upd_same, List.map_append] <;> rfl
    · rw [Nat.add_sub_cancel, List.getElem?_append_right (by rw [L.len]; exact Nat.le_refl _), L.len, Nat.sub_self] <;> rfl
  · rintro σ G ⟨o7, o8, o9, lv, row, rfl, s0, hdp, hro, L, hlv⟩
    have eM2 : (M - 0).toNat = M.toNat := by omega
    rw [eM2] at L
    walk_at "go"
    exact q4 row ro G hd (L.done hM.1 eM.symm) nro0 s0 hro
end Ar
namespace Ar
open PySem PySem.Spec L2
local macro_rules | `(tactic| walk_at "g1") => `(tactic| first
  | refine ⟨_, rfl, ?_⟩
  | refine ⟨_, _, rfl, rfl, ?_⟩
  | refine ⟨(by show (0 : Int) < _; decide), ?_⟩
  | refine ⟨⟨by decide, by decide⟩, ?_⟩
  | refine ⟨(show CMul _ _ from .inl ⟨by omega, by omega⟩), ?_⟩
  | refine ⟨(show CMul _ _ from .inr ⟨by omega, by omega⟩), ?_⟩
  | refine ⟨(show (_ : Int) ≠ 0 by decide), ?_⟩
  | refine ⟨sz2, ?_⟩
  | refine ⟨sz0, ?_⟩
  | refine ⟨sz3, ?_⟩)
local macro_rules | `(tactic| walk_at "ty") => `(tactic| first | exact .int _ | exact .bl _ | exact .tup (by assumption) | exact .lst (by assumption))
local macro_rules | `(tactic| walk_at "isT") => `(tactic| refine ⟨_, _, _, _, true, rfl, .ty _, .base (by walk_at "ty"), kit_ty (by decide +kernel), ?_⟩)
local macro_rules | `(tactic| walk_at "isF") => `(tactic| refine ⟨_, _, _, _, false, rfl, .ty _, .base (by walk_at "ty"), kit_ty (by decide +kernel), ?_⟩)
local macro_rules | `(tactic| walk_at "cell") => `(tactic| ((repeat walk_at "g1"); refine ⟨_, _, _, rfl, (by assumption), (by assumption), (by first | decide | omega), ?_⟩; repeat walk_at "g1"))
local macro_rules | `(tactic| walk_at "go") => `(tactic| repeat walk_at "g1")
def t_coloured (K : PySem.W.Frag) (E : XK) : TS :=
  (tSeq (tAsg (tCall (sp_turned K) [] E0 (tCons (tVar 0) tNil)) (gTup K 2 (gCons (gName 1) (gCons (gName 2) gNil)))) (tSeq (tIfS (tNot (tB (tVar 1))) (tRaise (He.ga K "Clash") E) tNext) (tRet (tTup (tCons (tCall (sp_heights K) [] E (tCons (tFld K (tVar 0) "many") (tCons (tVar 2) tNil))) (tCons (tCall (sp_longest K) [] E (tCons (tFld K (tVar 0) "many") (tCons (tVar 2) tNil))) tNil))))))
variable {K : PySem.W.Frag} {vs : List V} {H : Hp} {Q : VK} {E : XK}
theorem len_coloured (h : sp_coloured K vs H Q E) : vs.length = 1 := by
  obtain ⟨v, n, l, rfl, _⟩ := h
  rfl
theorem pure_coloured (N : NetC K) (h : sp_coloured K vs H Q E) : t_coloured K E (ends Q) (st 3 vs) H := by
  obtain ⟨v, n, l, rfl, nw, q1, q2⟩ := h
  have nw0 := nw
  obtain ⟨o, dx, d, rfl, hO, hd, g, hn⟩ := nw
  have fl := g.few hn
  walk_at "go"
  refine ⟨_, n, l, rfl, nw0, fun t r b H1 xs qs T nt nr s1 e1 h1 tl1 => ?_⟩
  refine ⟨_, _, rfl, SqT.of e1, rfl, _, _, rfl, _, _, rfl, rfl, ?_⟩
  have fq := T.few
  walk_at "go"
  cases b with
  | false =>
    exact q1 ((T.no rfl).clash g) H1 s1
  | true =>
    obtain ⟨tn, ri⟩ := T.yes rfl
    obtain ⟨ir, ⟨hs, hh⟩, ⟨ds, hdd⟩⟩ := tn.hts g
    have en : ((n : Int)).toNat = n := by omega
    have ok : OkM (n : Int) := by omega
    walk_at "go"
    refine ⟨o, _, dx, _, _, rfl, s1 _ _ hO, N.cl, N.nM, nflds_many _ _, ?_⟩
    walk_at "go"
    refine ⟨n, r, xs, qs, rfl, h1, tl1, fun c => absurd ok c, fun _ c => absurd ir c, fun _ _ c => absurd ⟨hs, by rw [en]; exact hh⟩ c, fun _ _ hs' cp H2 hh' ncp s2 e2 => ?_⟩
    rw [en] at hh'
    have ehs := hh'.same ir hh
    subst ehs
    have s12 := s1.trans s2
    walk_at "go"
    refine ⟨o, _, dx, _, _, rfl, s12 _ _ hO, N.cl, N.nM, nflds_many _ _, ?_⟩
    walk_at "go"
    refine ⟨n, r, xs, qs, rfl, s2 _ _ h1, tl1.mono s2.tk, by omega, fun c => absurd ok c, fun _ c => absurd ir c, fun _ _ c => absurd ⟨ds, by rw [en]; exact hdd⟩ c, fun _ _ ds' row rp H3 hd' lo nrp s3 e3 => ?_⟩
    rw [en] at hd' lo
    have eds : ds' = ds := hd'.same (fun p hp => by
      obtain ⟨q, hq, rfl⟩ := List.mem_map.mp hp
      have := ir q hq
      exact ⟨this.2.2.1, this.2.2.2, this.1, this.2.1⟩) hdd
    subst eds
    walk_at "go"
    refine fun tt ntt => ?_
    generalize e4 : upd _ tt _ = H4
    have s4 := Same.of_eq e4 ntt
    replace e4 := new_at e4
    have e2' := s4 _ _ (s3 _ _ e2)
    have e3' := s4 _ _ e3
    have ncr : cp ≠ rp := ne_of_none e2 nrp
    exact q2 tt cp rp H4 qs hs' ds' row (tn.noClash g) tn hh hdd lo ((s12.trans s3).free ntt) (s1.free ncp) (s12.free nrp) ncr ((s12.trans s3).trans s4) e4 e2' e3'
end Ar
namespace Ar
open PySem PySem.Spec L2
local macro_rules | `(tactic| walk_at "g1") => `(tactic| first
  | refine ⟨_, rfl, ?_⟩
  | refine ⟨_, _, rfl, rfl, ?_⟩
  | refine ⟨(by show (0 : Int) < _; decide), ?_⟩
  | refine ⟨⟨by decide, by decide⟩, ?_⟩
  | refine ⟨(show CMul _ _ from .inl ⟨by omega, by omega⟩), ?_⟩
  | refine ⟨(show CMul _ _ from .inr ⟨by omega, by omega⟩), ?_⟩
  | refine ⟨(show (_ : Int) ≠ 0 by decide), ?_⟩
  | refine ⟨sz2, ?_⟩
  | refine ⟨sz0, ?_⟩
  | refine ⟨sz3, ?_⟩)
local macro_rules | `(tactic| walk_at "ty") => `(tactic| first | exact .int _ | exact .bl _ | exact .tup (by assumption) | exact .lst (by assumption))
local macro_rules | `(tactic| walk_at "isT") => `(tactic| refine ⟨_, _, _, _, true, rfl, .ty _, .base (by walk_at "ty"), kit_ty (by decide +kernel), ?_⟩)
local macro_rules | `(tactic| walk_at "isF") => `(tactic| refine ⟨_, _, _, _, false, rfl, .ty _, .base (by walk_at "ty"), kit_ty (by decide +kernel), ?_⟩)
local macro_rules | `(tactic| walk_at "cell") => `(tactic| ((repeat walk_at "g1"); refine ⟨_, _, _, rfl, (by assumption), (by assumption), (by first | decide | omega), ?_⟩; repeat walk_at "g1"))
local macro_rules | `(tactic| walk_at "go") => `(tactic| repeat walk_at "g1")
def t_only (K : PySem.W.Frag) (D a : Addr) : TS :=
  (tSeq (tAsg (tLst (tCons (tCB (rIsE K D a) (tCons (tVar 0) (tCons (tC (.ref (He.ga K "NoPoints"))) tNil))) (tCons (tCB (rIsE K D a) (tCons (tVar 0) (tCons (tC (.ref (He.ga K "NoPoint"))) tNil))) (tCons (tCB (rIsE K D a) (tCons (tVar 0) (tCons (tC (.ref (He.ga K "NoTie"))) tNil))) (tCons (tCB (rIsE K D a) (tCons (tVar 0) (tCons (tC (.ref (He.ga K "TwiceTold"))) tNil))) tNil))))) (gName 2)) (tSeq (tAsg (tOp rCat (tVar 2) (tLst (tCons (tCB (rIsE K D a) (tCons (tVar 0) (tCons (tC (.ref (He.ga K "NoArrow"))) tNil))) (tCons (tCB (rIsE K D a) (tCons (tVar 0) (tCons (tC (.ref (He.ga K "Round"))) tNil))) (tCons (tCB (rIsE K D a) (tCons (tVar 0) (tCons (tC (.ref (He.ga K "Clash"))) tNil))) tNil))))) (gName 2)) (tRet (tAndV (tOp rEq (tBM K "list" (rCntB K) (tVar 2) (tCons (tC (.bl true)) tNil)) (tC (.int 1))) (tAndV (tOp (rIxL K) (tVar 2) (tVar 1)) (tAndV (tCB (rIsE K D a) (tCons (tVar 0) (tCons (tC (.ref (He.ga K "TieError"))) tNil))) (tCB (rIsE K D a) (tCons (tVar 0) (tCons (tC (.ty "ValueError")) tNil)))))))))
def t_refused_k13 (K : PySem.W.Frag) : TS :=
  (tSeq (tTryAs K (.ref (He.ga K "Clash")) 1 (fun W => (tDrop (tCallS (sp_coloured K) (WE W) (tCons (tVar 0) tNil)))) (fun a cls d => (tRet (tCallE (sp_only K) a cls d (tCons (tVar 1) (tCons (tC (.int 6)) tNil)))))) (tRet (tC (.bl false))))
def t_wholes (K : PySem.W.Frag) : TS :=
  (tRet (tAndV (tCB (rIsi K) (tCons (tVar 0) (tCons (tC (.ty "list")) tNil))) (tOp (rEqD K) (tLc (iList K (tVar 0)) (gName 1) (tNot (tB (tCall (sp_whole K) [] E0 (tCons (tVar 1) tNil)))) (tVar 1) [1]) (tLst tNil))))
def t_right_k13 (K : PySem.W.Frag) : TS :=
  (tSeq (tIfS (tOr (tNot (tB (tCB (rIsi K) (tCons (tVar 2) (tCons (tC (.ty "tuple")) tNil))))) (tOr (tTest (tOp rNe (tCB (cLen K) (tCons (tVar 2) tNil)) (tC (.int 2)))) (tOr (tNot (tB (tCall (sp_wholes K) [] E0 (tCons (tOp (rIxT K) (tVar 2) (tC (.int 0))) tNil)))) (tNot (tB (tCall (sp_wholes K) [] E0 (tCons (tOp (rIxT K) (tVar 2) (tC (.int 1))) tNil))))))) (tRet (tC (.bl false))) tNext) (tSeq (tAsg (tOp (rIxT K) (tVar 2) (tC (.int 0))) (gName 3)) (tSeq (tAsg (tOp (rIxT K) (tVar 2) (tC (.int 1))) (gName 4)) (tSeq (tIfS (tOr (tTest (tOp rNe (tCB (cLen K) (tCons (tVar 3) tNil)) (tVar 1))) (tTest (tOp rNe (tCB (cLen K) (tCons (tVar 4) tNil)) (tMaxDef K (tVar 3) (tC (.int 0)))))) (tRet (tC (.bl false))) tNext) (tSeq (tIfS (tOr (tTest (tOp (rNeD K) (tLc (iRng2 (tCons (tC (.int 1)) (tCons (tOp oAdd (tCB (cLen K) (tCons (tVar 4) tNil)) (tC (.int 1))) tNil))) (gName 5) (tTest (tOp (rIn K true) (tVar 5) (tVar 3))) (tVar 5) [5]) (tLst tNil))) (tTest (tOp oLt (tMinDef K (tVar 3) (tC (.int 1))) (tC (.int 1))))) (tRet (tC (.bl false))) tNext) (tSeq (tIfS (tTest (tOp (rNeD K) (tLc (iList K (tCB cListT (tCons (tVar 0) tNil))) (gName 6) (tTest (tOp rEq (tOp (rIxL K) (tVar 3) (tOp (rIxT K) (tVar 6) (tC (.int 0)))) (tOp (rIxL K) (tVar 3) (tOp (rIxT K) (tVar 6) (tC (.int 1)))))) (tVar 6) [6]) (tLst tNil))) (tRet (tC (.bl false))) tNext) (tSeq (tFor (iRng1 (tCons (tCB (cLen K) (tCons (tVar 4) tNil)) tNil)) (gName 7) (tFor (iList K (tSl (rSlL K) (tVar 4) tNoPart (tPart (tVar 7)))) (gName 8) (tIfS (tB (tDNotIn (tTup (tCons (tVar 8) (tCons (tOp (rIxL K) (tVar 4) (tVar 7)) tNil))) (tVar 0))) (tRet (tC (.bl false))) tNext))) (tRet (tOp (rEqD K) (tLc (iList K (tVar 4)) (gName 9) (tOr (tTest (tOp oLt (tVar 9) (tC (.int 0)))) (tTest (tOp oGe (tVar 9) (tVar 1)))) (tVar 9) [9]) (tLst tNil))))))))))
variable {K : PySem.W.Frag} {vs : List V} {H : Hp} {Q : VK} {E : XK}
theorem len_only {D a : Addr} (h : sp_only K D a vs H Q E) : vs.length = 2 := by
  obtain ⟨i, k, _, _, _, rfl, _⟩ := h
  rfl
theorem only_cnt (i : Nat) (h : i < 7) : ([decide (i = 0), decide (i = 1), decide (i = 2), decide (i = 3)] ++ [decide (i = 4), decide (i = 5), decide (i = 6)]).count true = 1 := by
  have : i = 0 ∨ i = 1 ∨ i = 2 ∨ i = 3 ∨ i = 4 ∨ i = 5 ∨ i = 6 := by omega
  rcases this with rfl | rfl | rfl | rfl | rfl | rfl | rfl <;> rfl
theorem only_at (i k : Nat) (hk : k < 7) : ([V.bl (decide (i = 0)), V.bl (decide (i = 1)), V.bl (decide (i = 2)), V.bl (decide (i = 3))] ++ [V.bl (decide (i = 4)), V.bl (decide (i = 5)), V.bl (decide (i = 6))])[k]? = some (.bl (decide (i = k))) := by
  have : k = 0 ∨ k = 1 ∨ k = 2 ∨ k = 3 ∨ k = 4 ∨ k = 5 ∨ k = 6 := by omega
  rcases this with rfl | rfl | rfl | rfl | rfl | rfl | rfl <;> rfl
theorem pure_only (O : OnlyK K) {D a : Addr} (h : sp_only K D a vs H Q E) : t_only K D a (ends Q) (st 3 vs) H := by
  obtain ⟨i, k, hi, hk, rfl, rfl, q⟩ := h
  walk_at "go"
  refine ⟨_, _, _, rfl, fun u r => r, O.k i 0 hi (by decide), ?_⟩
  walk_at "go"
  refine ⟨_, _, _, rfl, fun u r => r, O.k i 1 hi (by decide), ?_⟩
  walk_at "go"
  refine ⟨_, _, _, rfl, fun u r => r, O.k i 2 hi (by decide), ?_⟩
  walk_at "go"
  refine ⟨_, _, _, rfl, fun u r => r, O.k i 3 hi (by decide), ?_⟩
  refine ⟨szn 4 rfl, ?_⟩
  refine fun l1 nl1 => ?_
  generalize e1 : upd _ l1 _ = H1
  have s1 := Same.of_eq e1 nl1
  replace e1 := new_at e1
  walk_at "go"
  refine ⟨_, _, _, rfl, fun u r => r, O.k i 4 hi (by decide), ?_⟩
  walk_at "go"
  refine ⟨_, _, _, rfl, fun u r => r, O.k i 5 hi (by decide), ?_⟩
  walk_at "go"
  refine ⟨_, _, _, rfl, fun u r => r, O.k i 6 hi (by decide), ?_⟩
  refine ⟨sz3, ?_⟩
  refine fun l2 nl2 => ?_
  generalize e2 : upd _ l2 _ = H2
  have s2 := Same.of_eq e2 nl2
  replace e2 := new_at e2
  refine ⟨l1, l2, _, _, rfl, rfl, s2 _ _ e1, e2, lin (by show 4 + 3 ≤ 16000000; decide), ?_⟩
  refine fun l3 nl3 => ?_
  generalize e3 : upd _ l3 _ = H3
  have s3 := Same.of_eq e3 nl3
  replace e3 := new_at e3
  have s13 := (s1.trans s2).trans s3
  walk_at "go"
  refine ⟨.inl ⟨rfl, _, SqL.of e3⟩, ?_⟩
  refine ⟨l3, [decide (i = 0), decide (i = 1), decide (i = 2), decide (i = 3)] ++ [decide (i = 4), decide (i = 5), decide (i = 6)], true, rfl, rfl, SqL.of e3, ?_⟩
  rw [only_cnt i hi]
  refine ⟨rfl, _, rfl, iteE (fun _ => ?_) fun c => absurd rfl c⟩
  walk_at "go"
  refine ⟨l3, _, _, _, rfl, rfl, SqL.of e3, at_of (j := k) rfl (only_at i k hk), ?_⟩
  have fin := q H3 s13
  refine ⟨_, rfl, ?_⟩
  refine iteD (fun c => ?_) fun c => ?_
  · rw [decide_eq_true c] at fin
    walk_at "go"
    refine ⟨_, _, _, rfl, fun u r => r, O.t i hi, ?_⟩
    walk_at "go"
    refine ⟨_, _, _, rfl, fun u r => r, O.v i hi, ?_⟩
    exact fin
  · rw [decide_eq_false c] at fin
    exact fin
theorem len_refused_k13 (h : sp_refused_k13 K vs H Q E) : vs.length = 1 := by
  obtain ⟨v, n, l, rfl, _⟩ := h
  rfl
theorem pure_refused_k13 (ex : PySem.W.exmOne K (.ref (He.ga K "Clash")) (.ref (He.ga K "Clash")) = some true) (h : sp_refused_k13 K vs H Q E) : t_refused_k13 K (ends Q) (st 2 vs) H := by
  obtain ⟨v, n, l, rfl, nw, nc, q⟩ := h
  walk_at "go"
  refine ⟨v, n, l, rfl, nw, fun c H1 s1 => ⟨true, ex, fun _ a ha => ?_, fun z => (nomatch z)⟩, fun t c r H' qs hs ds row z => absurd z nc⟩
  walk_at "go"
  exact ⟨rfl, 6, 6, by decide, by decide, rfl, rfl, fun H2 s2 => q H2 (s1.trans s2)⟩
theorem len_wholes (h : sp_wholes K vs H Q E) : vs.length = 1 := by
  obtain ⟨a, ns, rfl, _⟩ := h
  rfl
theorem pure_wholes (h : sp_wholes K vs H Q E) : t_wholes K (ends Q) (st 2 vs) H := by
  obtain ⟨a, ns, rfl, ha, q⟩ := h
  walk_at "go"
  walk_at "isT"
  walk_at "go"
  refine ⟨⟨_, SqL.of ha⟩, fun D hD => ?_⟩
  refine lc_list (K := K) (a := a) (xs := ns.map .int) (fun i G => Same H G ∧ G D = some (.lst [])) ⟨Same.new hD, upd_same⟩ (fun i G _ ⟨s, _⟩ => SqL.of (s _ _ ha)) ?_ ?_
  · rintro i x G hx ⟨s1, h1⟩
    obtain ⟨v, hv, rfl⟩ := get_map hx
    refine ⟨rfl, ?_⟩
    walk_at "go"
    exact ⟨s1, h1⟩
  · rintro G ⟨s1, h1⟩
    walk_at "go"
    refine fun e0 ne0 => ?_
    generalize e2 : upd _ e0 _ = G1
    have s2 := Same.of_eq e2 ne0
    replace e2 := new_at e2
    refine ⟨.list [], .list [], .lst (SqL.of (s2 _ _ h1)) .nil, .lst (SqL.of e2) .nil, by decide +kernel, by decide +kernel, ?_⟩
    exact q _ (s1.trans s2)
theorem len_right_k13 (h : sp_right_k13 K vs H Q E) : vs.length = 3 := by
  obtain ⟨d, l, n, t, c, r, hs, row, rfl, _⟩ := h
  rfl
theorem inV_ints (k : Int) : ∀ ns : List Int, inV (.int k) (ns.map V.int) = decide (k ∈ ns) := by
  intro ns
  induction ns with
  | nil => rfl
  | cons n ns ih =>
    unfold inV at ih ⊢
    rw [List.map_cons, List.any_cons, ih]
    have e : eqV (.int n) (.int k) = decide (n = k) := by
      by_cases h : n = k <;> simp [eqV, h]
    rw [e]
    by_cases h1 : n = k
    · subst h1
      simp
    · have : ¬ k = n := fun z => h1 z.symm
      by_cases h2 : k ∈ ns <;> simp [h1, h2, this]
theorem flat_ints (ns : List Int) : (ns.map V.int).all flatV = true := by
  rw [List.all_map]
  exact List.all_eq_true.mpr fun _ _ => rfl
theorem pure_right_k13 (h : sp_right_k13 K vs H Q E) : t_right_k13 K (ends Q) (st 10 vs) H := by
  obtain ⟨d, l, n, t, c, r, hs, row, rfl, hd, g, hn, ht, hc, hr, C, q⟩ := h
  have lh := C.len
  have lm : (hs.map V.int).length = n := by rw [List.length_map, lh]
  have lr : (row.map V.int).length = row.length := by simp
  have fl := g.few hn
  have rfew : row.length ≤ 24 := by
    have nd : row.Nodup := List.pairwise_iff_getElem.mpr fun i j hi hj hij e => by
      have hu : row[i]? = some row[i] := List.getElem?_eq_getElem hi
      have hv : row[j]? = some row[j] := List.getElem?_eq_getElem hj
      exact (g.rng _ _ (C.tie i j _ _ hij hu hv)).2.2 e
    have := len_le_sub (m := (List.range n).map Int.ofNat) nd fun u hu => by
      obtain ⟨a, b⟩ := C.rng u hu
      exact List.mem_map.mpr ⟨u.toNat, List.mem_range.mpr (by omega), by show ((u.toNat : Nat) : Int) = u; omega⟩
    rw [List.length_map, List.length_range] at this
    omega
  walk_at "go"
  walk_at "isT"
  walk_at "go"
  refine ⟨_, _, rfl, .inr (SqT.of ht), ?_⟩
  walk_at "go"
  refine ⟨rfl, _, rfl, iteEn (fun z => absurd rfl z) fun _ => ?_⟩
  walk_at "go"
  refine ⟨_, _, _, _, rfl, rfl, SqT.of ht, at0, ?_⟩
  refine ⟨c, hs, rfl, hc, fun H1 s1 => ?_⟩
  walk_at "go"
  refine ⟨_, _, _, _, rfl, rfl, SqT.of (s1 _ _ ht), at1, ?_⟩
  refine ⟨r, row, rfl, s1 _ _ hr, fun H2 s2 => ?_⟩
  have s12 := s1.trans s2
  walk_at "go"
  refine ⟨_, _, _, _, rfl, rfl, SqT.of (s12 _ _ ht), at0, ?_⟩
  walk_at "go"
  refine ⟨_, _, _, _, rfl, rfl, SqT.of (s12 _ _ ht), at1, ?_⟩
  walk_at "go"
  refine ⟨_, _, rfl, .inl (SqL.of (s12 _ _ hc)), ?_⟩
  walk_at "go"
  refine ⟨rfl, _, rfl, iteEn (fun z => absurd (by omega) z) fun _ => ?_⟩
  walk_at "go"
  refine ⟨_, _, rfl, .inl (SqL.of (s12 _ _ hr)), ?_⟩
  walk_at "go"
  refine ⟨c, hs, 0, rfl, rfl, SqL.of (s12 _ _ hc), ?_⟩
  have cnt := C.cnt
  refine ⟨rfl, _, rfl, iteEn (fun z => absurd (by omega) z) fun _ => ?_⟩
  walk_at "go"
  refine ⟨_, _, rfl, .inl (SqL.of (s12 _ _ hr)), ?_⟩
  walk_at "go"
  refine ⟨_, _, rfl, ⟨by omega, by omega, by omega, by omega⟩, fun D hD => ?_⟩
  refine lc_range (lo := 1) (n := (((row.map V.int).length : Int) + 1 - 1).toNat) (fun i G => Same H2 G ∧ G D = some (.lst [])) ⟨Same.new hD, upd_same⟩ ?_ ?_
  · rintro i G hi ⟨s3, h3⟩
    refine ⟨rfl, ?_⟩
    walk_at "go"
    refine ⟨c, _, rfl, .inl (SqL.of (s3 _ _ (s12 _ _ hc))), rfl, flat_ints _, ?_⟩
    have : inV (.int (1 + (i : Int))) (hs.map V.int) = true := by
      rw [inV_ints]
      exact decide_eq_true (C.all _ (by omega) (by omega))
    rw [this]
    walk_at "go"
    exact ⟨s3, h3⟩
  rintro G ⟨s3, h3⟩
  walk_at "go"
  refine fun e0 ne0 => ?_
  generalize e4 : upd _ e0 _ = G1
  have s4 := Same.of_eq e4 ne0
  replace e4 := new_at e4
  have s14 := (s12.trans s3).trans s4
  have em : PyData.eqv (.list []) (.list []) = true := rfl
  refine ⟨.list [], .list [], .lst (SqL.of (s4 _ _ h3)) .nil, .lst (SqL.of e4) .nil, by decide +kernel, by decide +kernel, ?_⟩
  rw [em]
  walk_at "go"
  refine ⟨c, hs, 1, rfl, rfl, SqL.of (s14 _ _ hc), ?_⟩
  have h1 : 1 ≤ minOr 1 hs := by
    cases hhs : hs with
    | nil => exact Int.le_refl _
    | cons x l =>
      rw [← hhs]
      exact C.one _ (minOr_mem (by rw [hhs]; exact Nat.succ_pos _))
  walk_at "go"
  refine iteD (fun z => absurd z (by omega)) fun _ => ?_
  walk_at "go"
  refine ⟨d, _, rfl, .inl (s14 _ _ hd), fun kq bs nkq ik => ?_⟩
  generalize e5 : upd _ kq _ = G2
  have s5 := Same.of_eq e5 nkq
  replace e5 := new_at e5
  have tk := (keys_tl ik).mono s5.tk
  have s15 := s14.trans s5
  walk_at "go"
  refine ⟨⟨_, SqL.of e5⟩, fun D2 hD2 => ?_⟩
  refine lc_list (K := K) (a := kq) (xs := bs.map V.ref) (fun i G => Same G2 G ∧ G D2 = some (.lst [])) ⟨Same.new hD2, upd_same⟩ (fun i G _ ⟨s, _⟩ => SqL.of (s _ _ e5)) ?_ ?_
  · rintro i x G hx ⟨s6, h6⟩
    obtain ⟨y, hy, ty, rfl, hty⟩ := TLp.at tk hx
    have hyl : y ∈ l := mem_of_get hy
    obtain ⟨r1, r2, r3⟩ := g.rng _ _ hyl
    obtain ⟨r4, r5, r6⟩ := g.rng _ _ (g.sym _ _ hyl)
    have hc6 := s6 _ _ (s15 _ _ hc)
    refine ⟨rfl, ?_⟩
    walk_at "go"
    refine ⟨_, _, _, _, rfl, rfl, SqT.of (s6 _ _ hty), at0, ?_⟩
    refine ⟨c, _, _, _, rfl, rfl, SqL.of hc6, get_gv (v := y.1) r1 (by omega), ?_⟩
    walk_at "go"
    refine ⟨_, _, _, _, rfl, rfl, SqT.of (s6 _ _ hty), at1, ?_⟩
    refine ⟨c, _, _, _, rfl, rfl, SqL.of hc6, get_gv (v := y.2) r4 (by omega), ?_⟩
    refine ⟨rfl, _, rfl, iteE (fun z => absurd z (C.un _ _ hyl)) fun _ => ?_⟩
    exact ⟨s6, h6⟩
  rintro G3 ⟨s6, h6⟩
  walk_at "go"
  refine fun e7 ne7 => ?_
  generalize e8 : upd _ e7 _ = G4
  have s7 := Same.of_eq e8 ne7
  replace e8 := new_at e8
  have s17 := (s15.trans s6).trans s7
  refine ⟨.list [], .list [], .lst (SqL.of (s7 _ _ h6)) .nil, .lst (SqL.of e8) .nil, by decide +kernel, by decide +kernel, ?_⟩
  rw [em]
  walk_at "go"
  refine ⟨_, _, rfl, .inl (SqL.of (s17 _ _ hr)), ?_⟩
  walk_at "go"
  refine ⟨by omega, by omega, for_n (n := ((row.map V.int).length : Int).toNat) (fun i σ G => ∃ (o5 o6 o7 o8 : Option V), σ = [some (.ref d), some (.int n), some (.ref t), some (.ref c), some (.ref r), o5, o6, o7, o8, none] ∧ Same G4 G)
    ⟨_, _, _, _, rfl, Same.refl _⟩ ?_ ?_⟩
  · rintro i σ G hi ⟨o5, o6, o7, o8, rfl, s8⟩
    have hr8 := s8 _ _ (s17 _ _ hr)
    have hil : i < row.length := by omega
    walk_at "go"
    refine ⟨r, _, rfl, SqL.of hr8, ?_⟩
    refine fun cu ncu => ?_
    generalize e9 : upd _ cu _ = G5
    have s9 := Same.of_eq e9 ncu
    replace e9 := new_at e9
    rw [cut_take, ← List.map_take] at e9
    refine ⟨cu, rfl, ⟨_, SqL.of e9⟩, for_list (K := K) (a := cu) (xs := (row.take i).map .int) (fun j σ G => ∃ (o8 : Option V), σ = [some (.ref d), some (.int n), some (.ref t), some (.ref c), some (.ref r), o5, o6, some (.int i), o8, none] ∧ Same G5 G)
      ⟨_, rfl, Same.refl _⟩ (fun j σ G _ ⟨_, _, s⟩ => SqL.of (s _ _ e9)) ?_ ?_⟩
    · rintro j x σ G6 hx ⟨o8, rfl, s10⟩
      obtain ⟨u, hu, rfl⟩ := get_map hx
      have hj := lt_of_get hu
      rw [List.length_take] at hj
      have hu' : row[j]? = some u := by
        rw [List.getElem?_take, if_pos (by omega)] at hu
        exact hu
      have hv : row[i]? = some row[i] := List.getElem?_eq_getElem hil
      have tie := C.tie j i u row[i] (by omega) hu' hv
      have s810 := (s8.trans s9).trans s10
      walk_at "go"
      refine ⟨r, _, _, _, rfl, rfl, SqL.of (s810 _ _ (s17 _ _ hr)), at_of (j := i) (v := .int row[i]) rfl (by rw [List.getElem?_map, hv]; rfl), ?_⟩
      walk_at "go"
      refine fun w nw => ?_
      generalize e11 : upd _ w _ = G7
      have s11 := Same.of_eq e11 nw
      replace e11 := new_at e11
      refine ⟨_, rfl, _, _, rfl, DGet.t (k := kp (u, row[i])) (s11 _ _ (s810 _ _ (s17 _ _ hd))) e11, ?_⟩
      walk_at "go"
      rw [some_hk, decide_eq_true tie]
      walk_at "go"
      exact s10.trans s11
    · rintro σ G6 ⟨o8, rfl, s10⟩
      exact ⟨_, _, _, _, rfl, (s8.trans s9).trans s10⟩
  · rintro σ G ⟨o5, o6, o7, o8, rfl, s8⟩
    have hr8 := s8 _ _ (s17 _ _ hr)
    walk_at "go"
    refine ⟨⟨_, SqL.of hr8⟩, fun D3 hD3 => ?_⟩
    refine lc_list (K := K) (a := r) (xs := row.map .int) (fun i G' => Same G G' ∧ G' D3 = some (.lst [])) ⟨Same.new hD3, upd_same⟩ (fun i G _ ⟨s, _⟩ => SqL.of (s _ _ hr8)) ?_ ?_
    · rintro i x G' hx ⟨s9, h9⟩
      obtain ⟨v, hv, rfl⟩ := get_map hx
      obtain ⟨v0, v1⟩ := C.rng v (mem_of_get hv)
      refine ⟨rfl, ?_⟩
      walk_at "go"
      refine iteD (fun z => absurd z (by omega)) fun _ => ?_
      walk_at "go"
      refine iteD (fun z => absurd z (by omega)) fun _ => ?_
      exact ⟨s9, h9⟩
    · rintro G' ⟨s9, h9⟩
      walk_at "go"
      refine fun e10 ne10 => ?_
      generalize h11 : upd _ e10 _ = G9
      have s11 := Same.of_eq h11 ne10
      replace h11 := new_at h11
      refine ⟨.list [], .list [], .lst (SqL.of (s11 _ _ h9)) .nil, .lst (SqL.of h11) .nil, by decide +kernel, by decide +kernel, ?_⟩
      exact q _ (((s17.trans s8).trans s9).trans s11)
end Ar
namespace Ar
open PySem PySem.Spec L2
local macro_rules | `(tactic| walk_at "g1") => `(tactic| first
  | refine ⟨_, rfl, ?_⟩
  | refine ⟨_, _, rfl, rfl, ?_⟩
  | refine ⟨(by show (0 : Int) < _; decide), ?_⟩
  | refine ⟨⟨by decide, by decide⟩, ?_⟩
  | refine ⟨(show CMul _ _ from .inl ⟨by omega, by omega⟩), ?_⟩
  | refine ⟨(show CMul _ _ from .inr ⟨by omega, by omega⟩), ?_⟩
  | refine ⟨(show (_ : Int) ≠ 0 by decide), ?_⟩
  | refine ⟨sz2, ?_⟩
  | refine ⟨sz0, ?_⟩
  | refine ⟨sz3, ?_⟩)
local macro_rules | `(tactic| walk_at "ty") => `(tactic| first | exact .int _ | exact .bl _ | exact .tup (by assumption) | exact .lst (by assumption))
local macro_rules | `(tactic| walk_at "isT") => `(tactic| refine ⟨_, _, _, _, true, rfl, .ty _, .base (by walk_at "ty"), kit_ty (by decide +kernel), ?_⟩)
local macro_rules | `(tactic| walk_at "isF") => `(tactic| refine ⟨_, _, _, _, false, rfl, .ty _, .base (by walk_at "ty"), kit_ty (by decide +kernel), ?_⟩)
local macro_rules | `(tactic| walk_at "cell") => `(tactic| ((repeat walk_at "g1"); refine ⟨_, _, _, rfl, (by assumption), (by assumption), (by first | decide | omega), ?_⟩; repeat walk_at "g1"))
local macro_rules | `(tactic| walk_at "go") => `(tactic| repeat walk_at "g1")
def t_lessened (K : PySem.W.Frag) (E : XK) : TS :=
  (tSeq (tIfS (tNot (tB (tMeth (cNet K) "has" (sp_Net_has K) [] E0 (tVar 0) (tCons (tVar 1) tNil)))) (tRaise (He.ga K "NoPoint") E) tNext) (tSeq (tAsg (tLst tNil) (gName 2)) (tSeq (tFor (iList K (tMeth (cNet K) "pairs" (sp_Net_pairs K) [] E0 (tVar 0) tNil)) (gTup K 2 (gCons (gName 3) (gCons (gName 4) gNil))) (tIfS (tAnd (tTest (tOp rNe (tVar 3) (tVar 1))) (tTest (tOp rNe (tVar 4) (tVar 1)))) (tDrop (tBM K "list" rAppend (tVar 2) (tCons (tTup (tCons (tOp oSub (tVar 3) (tCB cInt1 (tCons (tOp oGt (tVar 3) (tVar 1)) tNil))) (tCons (tOp oSub (tVar 4) (tCB cInt1 (tCons (tOp oGt (tVar 4) (tVar 1)) tNil))) tNil))) tNil))) tNext)) (tRet (tMake (cNet K) (sp_Net_init K) [] E (tCons (tOp oSub (tFld K (tVar 0) "many") (tC (.int 1))) (tCons (tVar 2) tNil)))))))
def t_need_arrow (K : PySem.W.Frag) (E : XK) : TS :=
  (tIfS (tB (tDNotIn (tVar 1) (tFld K (tVar 0) "both"))) (tRaise (He.ga K "NoArrow") E) tNext)
def t_forced (K : PySem.W.Frag) (E : XK) : TS :=
  (tSeq (tDrop (tCall (sp_need_arrow K) [] E (tCons (tVar 0) (tCons (tVar 1) tNil)))) (tRet (tCall (sp_forced_by K) [] E0 (tCons (tFld K (tVar 0) "both") (tCons (tFld K (tVar 0) "many") (tCons (tVar 1) tNil))))))
def t_left_k14 (K : PySem.W.Frag) : TS :=
  (tSeq (tAsg (tLst tNil) (gName 2)) (tSeq (tFor (iList K (tVar 0)) (gTup K 2 (gCons (gName 3) (gCons (gName 4) gNil))) (tIfS (tAnd (tTest (tOp rNe (tVar 3) (tVar 1))) (tTest (tOp rNe (tVar 4) (tVar 1)))) (tDrop (tBM K "list" rAppend (tVar 2) (tCons (tTup (tCons (tOp oSub (tVar 3) (tCB cInt1 (tCons (tOp oGt (tVar 3) (tVar 1)) tNil))) (tCons (tOp oSub (tVar 4) (tCB cInt1 (tCons (tOp oGt (tVar 4) (tVar 1)) tNil))) tNil))) tNil))) tNext)) (tRet (tVar 2))))
variable {K : PySem.W.Frag} {vs : List V} {H : Hp} {Q : VK} {E : XK}
theorem ifd (c : Prop) [Decidable c] : (if decide c = true then (1 : Int) else 0) = if c then 1 else 0 := by
  by_cases h : c
  · rw [decide_eq_true h, if_pos rfl, if_pos h]
  · rw [decide_eq_false h, if_neg Bool.false_ne_true, if_neg h]
theorem len_need_arrow (h : sp_need_arrow K vs H Q E) : vs.length = 2 := by
  obtain ⟨v, n, l, t, a, b, rfl, _⟩ := h
  rfl
theorem pure_need_arrow (N : NetC K) (h : sp_need_arrow K vs H Q E) : t_need_arrow K E (ends Q) (st 2 vs) H := by
  obtain ⟨v, n, l, t, a, b, rfl, ⟨o, dx, d, rfl, hO, hd, g, hn⟩, ht, q1, q2⟩ := h
  walk_at "go"
  refine ⟨o, _, dx, _, _, rfl, hO, N.cl, N.nB, nflds_both _ _, _, _, rfl, DGet.t (k := kp (a, b)) hd ht, ?_⟩
  walk_at "go"
  rw [some_hk]
  exact iteDn (fun c => q1 c) fun c => q2 c
theorem len_forced (h : sp_forced K vs H Q E) : vs.length = 2 := by
  obtain ⟨v, n, l, t, a, b, rfl, _⟩ := h
  rfl
theorem pure_forced (N : NetC K) (h : sp_forced K vs H Q E) : t_forced K E (ends Q) (st 2 vs) H := by
  obtain ⟨v, n, l, t, a, b, rfl, nw, ht, q1, q2⟩ := h
  have nw0 := nw
  obtain ⟨o, dx, d, rfl, hO, hd, g, hn⟩ := nw
  walk_at "go"
  refine ⟨_, n, l, t, a, b, rfl, nw0, ht, q1, fun c => ?_⟩
  walk_at "go"
  refine ⟨o, _, dx, _, _, rfl, hO, N.cl, N.nB, nflds_both _ _, ?_⟩
  walk_at "go"
  refine ⟨o, _, dx, _, _, rfl, hO, N.cl, N.nM, nflds_many _ _, ?_⟩
  walk_at "go"
  exact ⟨d, l, n, t, a, b, rfl, hd, g, hn, ht, fun p H' xs np s e tx => q2 c p H' xs np s e tx⟩
theorem len_left_k14 (h : sp_left_k14 K vs H Q E) : vs.length = 2 := by
  obtain ⟨a, p, xs, ps, rfl, _⟩ := h
  rfl
theorem pure_left_k14 (h : sp_left_k14 K vs H Q E) : t_left_k14 K (ends Q) (st 5 vs) H := by
  obtain ⟨a, p, xs, ps, rfl, ha, tt, lp, q⟩ := h
  have lx : xs.length = ps.length := by rw [paired_len tt]; simp
  walk_at "go"
  refine fun fl nfl => ?_
  generalize e1 : upd _ fl _ = H1
  have s1 := Same.of_eq e1 nfl
  replace e1 := new_at e1
  have naf : a ≠ fl := ne_of_none ha nfl
  refine ⟨_, rfl, a, rfl, ⟨_, SqL.of (s1 _ _ ha)⟩, for_list (K := K) (a := a) (xs := xs) (fun i σ G => ∃ (o3 o4 : Option V) (ys : List V), σ = [some (.ref a), some (.int p), some (.ref fl), o3, o4] ∧ Same H G ∧ G fl = some (.lst ys) ∧ TL G ys ((leftL p (ps.take i)).map p2))
    ⟨_, _, [], rfl, s1, e1, .nil⟩ (fun i σ G _ ⟨_, _, _, _, s, _⟩ => SqL.of (s _ _ ha)) ?_ ?_⟩
  · rintro i x σ G hx ⟨o3, o4, ys, rfl, s0, hf, tf⟩
    obtain ⟨q, hq, t, rfl, htq⟩ := TLp.at tt hx
    have lys : ys.length ≤ 1000 := by
      rw [paired_len tf, List.length_map]
      refine Nat.le_trans (len_leftL _ _) ?_
      rw [List.length_take]
      omega
    refine ⟨_, _, rfl, SqT.of (s0 _ _ htq), rfl, _, _, rfl, _, _, rfl, rfl, ?_⟩
    have no : ¬ (q.1 ≠ p ∧ q.2 ≠ p) → ∃ (o3 o4 : Option V) (ys : List V), [some (V.ref a), some (.int p), some (.ref fl), some (.int q.1), some (.int q.2)] = [some (.ref a), some (.int p), some (.ref fl), o3, o4] ∧ Same H G ∧ G fl = some (.lst ys) ∧ TL G ys ((leftL p (ps.take (i + 1))).map p2) := fun c => by
      rw [take_snoc hq, leftL_snoc, if_neg c, List.append_nil]
      exact ⟨_, _, ys, rfl, s0, hf, tf⟩
    walk_at "go"
    refine ⟨rfl, _, rfl, iteEn (fun c1 => ?_) fun c1 => no fun z => z.1 c1⟩
    walk_at "go"
    refine ⟨rfl, _, rfl, iteEn (fun c2 => ?_) fun c2 => no fun z => z.2 c2⟩
    walk_at "go"
    refine ⟨.inl ⟨rfl, _, SqL.of hf⟩, ?_⟩
    walk_at "go"
    refine .inr ⟨_, rfl, ?_⟩
    walk_at "go"
    refine .inr ⟨_, rfl, ?_⟩
    walk_at "go"
    try dsimp only
    rw [ifd, ifd]
    refine fun u nu => ?_
    generalize e2 : upd _ u _ = G2
    have s2 := Same.of_eq e2 nu
    replace e2 := new_at e2
    have e2 : G2 u = some (.tup [.int (dnP p q.1), .int (dnP p q.2)]) := e2
    walk_at "go"
    have hf2 := s2 _ _ hf
    refine ⟨fl, _, _, rfl, rfl, hf2, lin' (by omega), ?_⟩
    have tkf : TK G2 (upd G2 fl (.lst (ys ++ [V.ref u]))) := TK.upd fun zs z => by rw [hf2] at z; cases z
    refine ⟨_, _, _, rfl, (s0.trans s2).mut nfl, upd_same, ?_⟩
    rw [take_snoc hq, leftL_snoc, if_pos ⟨c1, c2⟩]
    exact tl_app (tf.mono (s2.tk.trans tkf)) (tl_one (tkf _ _ e2))
  · rintro σ G ⟨o3, o4, ys, rfl, s0, hf, tf⟩
    rw [lx, List.take_length] at tf
    walk_at "go"
    exact q fl ys G nfl s0 hf tf
theorem PairsOf.ties {n : Nat} {l qs : List Arr} (g : GoodL n l) (P : PairsOf l qs) : Ties n qs := by
  have nd : qs.Nodup := by
    exact (List.pairwise_map.mp P.1).imp fun {a b} h e => by
      subst e
      exact List.lt_irrefl _ h
  refine ⟨fun p hp => ?_, List.Pairwise.imp_of_mem (fun {p q} hp hq ne => ⟨ne, fun z => ?_⟩) nd⟩
  · obtain ⟨h, _⟩ := (P.2 p.1 p.2).mp hp
    obtain ⟨h1, h2, h3⟩ := g.rng _ _ h
    obtain ⟨h4, h5, _⟩ := g.rng _ _ (g.sym _ _ h)
    exact ⟨h1, h2, h4, h5, h3⟩
  · have h1 := ((P.2 p.1 p.2).mp hp).2
    have h2 := ((P.2 q.1 q.2).mp hq).2
    rw [z] at h1
    dsimp only at h1
    omega
theorem PairsOf.bothOf {n : Nat} {l qs : List Arr} (g : GoodL n l) (P : PairsOf l qs) : BothOf qs l := by
  refine ⟨g.nd, fun a b => ?_⟩
  unfold Adj
  rw [P.2, P.2]
  constructor
  · intro h
    have := (g.rng a b h).2.2
    by_cases c : a < b
    · exact .inl ⟨h, c⟩
    · exact .inr ⟨g.sym _ _ h, by omega⟩
  · rintro (h | h)
    · exact h.1
    · exact g.sym _ _ h.1
theorem len_lessened (h : sp_lessened K vs H Q E) : vs.length = 2 := by
  obtain ⟨v, n, l, p, rfl, _⟩ := h
  rfl
theorem pure_lessened (N : NetC K) (h : sp_lessened K vs H Q E) : t_lessened K E (ends Q) (st 5 vs) H := by
  obtain ⟨v, n, l, p, rfl, nw, q1, q2⟩ := h
  have nw0 := nw
  obtain ⟨o, dx, d, rfl, hO, hd, g, hn⟩ := nw
  refine ⟨_, rfl, o, dx, _, rfl, hO, nflds_no _ _ (by decide +kernel) (by decide +kernel), _, rfl, o, dx, _, n, p, rfl, hO, nflds_many _ _, _, rfl, ?_⟩
  rw [andD]
  refine iteDn (fun c => q1 c) fun hp => ?_
  replace q2 := q2 hp
  walk_at "go"
  refine fun fl nfl => ?_
  generalize e1 : upd _ fl _ = H1
  have s1 := Same.of_eq e1 nfl
  replace e1 := new_at e1
  walk_at "go"
  refine ⟨o, dx, _, rfl, s1 _ _ hO, nflds_no _ _ (by decide +kernel) (by decide +kernel), ?_⟩
  refine ⟨.ref o, n, l, rfl, nw0.mono s1, fun pl H2 xs ps P lp npl s2 hpl tp => ?_⟩
  have T := P.ties g
  have lx : xs.length = ps.length := by rw [paired_len tp]; simp
  have npf : pl ≠ fl := fun z => by rw [z, e1] at npl; cases npl
  have s12 := s1.trans s2
  refine ⟨pl, rfl, ⟨_, SqL.of hpl⟩, for_list (K := K) (a := pl) (xs := xs) (fun i σ G => ∃ (o3 o4 : Option V) (ys : List V), σ = [some (.ref o), some (.int p), some (.ref fl), o3, o4] ∧ (∀ b u, b ≠ fl → H2 b = some u → G b = some u) ∧ G fl = some (.lst ys) ∧ TL G ys ((leftL p (ps.take i)).map p2))
    ⟨_, _, [], rfl, fun _ _ _ e => e, s2 _ _ e1, .nil⟩ (fun i σ G _ ⟨_, _, _, _, s, _⟩ => SqL.of (s _ _ npf hpl)) ?_ ?_⟩
  · rintro i x σ G hx ⟨o3, o4, ys, rfl, s0, hf, tf⟩
    obtain ⟨q, hq, t, rfl, htq⟩ := TLp.at tp hx
    have ntf : t ≠ fl := fun z => by rw [z, s2 _ _ e1] at htq; cases htq
    have lys : ys.length ≤ 1000 := by
      rw [paired_len tf, List.length_map]
      refine Nat.le_trans (len_leftL _ _) ?_
      rw [List.length_take]
      omega
    refine ⟨_, _, rfl, SqT.of (s0 _ _ ntf htq), rfl, _, _, rfl, _, _, rfl, rfl, ?_⟩
    have no : ¬ (q.1 ≠ p ∧ q.2 ≠ p) → ∃ (o3 o4 : Option V) (ys : List V), [some (V.ref o), some (.int p), some (.ref fl), some (.int q.1), some (.int q.2)] = [some (.ref o), some (.int p), some (.ref fl), o3, o4] ∧ (∀ b u, b ≠ fl → H2 b = some u → G b = some u) ∧ G fl = some (.lst ys) ∧ TL G ys ((leftL p (ps.take (i + 1))).map p2) := fun c => by
      rw [take_snoc hq, leftL_snoc, if_neg c, List.append_nil]
      exact ⟨_, _, ys, rfl, s0, hf, tf⟩
    walk_at "go"
    refine ⟨rfl, _, rfl, iteEn (fun c1 => ?_) fun c1 => no fun z => z.1 c1⟩
    walk_at "go"
    refine ⟨rfl, _, rfl, iteEn (fun c2 => ?_) fun c2 => no fun z => z.2 c2⟩
    walk_at "go"
    refine ⟨.inl ⟨rfl, _, SqL.of hf⟩, ?_⟩
    walk_at "go"
    refine .inr ⟨_, rfl, ?_⟩
    walk_at "go"
    refine .inr ⟨_, rfl, ?_⟩
    walk_at "go"
    try dsimp only
    rw [ifd, ifd]
    refine fun u nu => ?_
    generalize e2 : upd _ u _ = G2
    have s3 := Same.of_eq e2 nu
    replace e2 := new_at e2
    have e2 : G2 u = some (.tup [.int (dnP p q.1), .int (dnP p q.2)]) := e2
    walk_at "go"
    have hf2 := s3 _ _ hf
    refine ⟨fl, _, _, rfl, rfl, hf2, lin' (by omega), ?_⟩
    have tkf : TK G2 (upd G2 fl (.lst (ys ++ [V.ref u]))) := TK.upd fun zs z => by rw [hf2] at z; cases z
    refine ⟨_, _, _, rfl, fun b w hb e => ?_, upd_same, ?_⟩
    · rw [upd_ne hb]
      exact s3 _ _ (s0 _ _ hb e)
    · rw [take_snoc hq, leftL_snoc, if_pos ⟨c1, c2⟩]
      exact tl_app (tf.mono (s3.tk.trans tkf)) (tl_one (tkf _ _ e2))
  · rintro σ G ⟨o3, o4, ys, rfl, s0, hf, tf⟩
    rw [lx, List.take_length] at tf
    have sA : Same H G := fun b u e => s0 _ _ (ne_of_none e nfl) (s12 _ _ e)
    walk_at "go"
    refine ⟨o, _, dx, _, _, rfl, sA _ _ hO, N.cl, N.nM, nflds_many _ _, ?_⟩
    walk_at "go"
    try dsimp only
    have en : (n : Int) - 1 = ((n - 1 : Nat) : Int) := by omega
    rw [en]
    refine make_net2 (K := K) hf tf (T.left hp) (by omega) fun x G1 s3 nw1 => ?_
    refine ⟨rfl, q2 _ _ _ (fun a b => ?_) (sA.trans s3) nw1⟩
    rw [(bothL_ok (leftL p ps)).mem]
    unfold Adj
    rw [mem_leftL, mem_leftL]
    have B := P.bothOf g
    constructor
    · rintro (⟨x, y, h1, h2, h3, e1, e2⟩ | ⟨x, y, h1, h2, h3, e1, e2⟩)
      · exact ⟨x, y, (B.mem x y).mpr (.inl h1), h2, h3, e1, e2⟩
      · exact ⟨y, x, (B.mem y x).mpr (.inr h1), h3, h2, e2, e1⟩
    · rintro ⟨x, y, h1, h2, h3, e1, e2⟩
      rcases (B.mem x y).mp h1 with z | z
      · exact .inl ⟨x, y, z, h2, h3, e1, e2⟩
      · exact .inr ⟨y, x, z, h3, h2, e2, e1⟩
end Ar
namespace Ar
open PySem PySem.Spec L2
local macro_rules | `(tactic| walk_at "g1") => `(tactic| first
  | refine ⟨_, rfl, ?_⟩
  | refine ⟨_, _, rfl, rfl, ?_⟩
  | refine ⟨(by show (0 : Int) < _; decide), ?_⟩
  | refine ⟨⟨by decide, by decide⟩, ?_⟩
  | refine ⟨(show CMul _ _ from .inl ⟨by omega, by omega⟩), ?_⟩
  | refine ⟨(show CMul _ _ from .inr ⟨by omega, by omega⟩), ?_⟩
  | refine ⟨(show (_ : Int) ≠ 0 by decide), ?_⟩
  | refine ⟨sz2, ?_⟩
  | refine ⟨sz0, ?_⟩
  | refine ⟨sz3, ?_⟩)
local macro_rules | `(tactic| walk_at "ty") => `(tactic| first | exact .int _ | exact .bl _ | exact .tup (by assumption) | exact .lst (by assumption))
local macro_rules | `(tactic| walk_at "isT") => `(tactic| refine ⟨_, _, _, _, true, rfl, .ty _, .base (by walk_at "ty"), kit_ty (by decide +kernel), ?_⟩)
local macro_rules | `(tactic| walk_at "isF") => `(tactic| refine ⟨_, _, _, _, false, rfl, .ty _, .base (by walk_at "ty"), kit_ty (by decide +kernel), ?_⟩)
local macro_rules | `(tactic| walk_at "cell") => `(tactic| ((repeat walk_at "g1"); refine ⟨_, _, _, rfl, (by assumption), (by assumption), (by first | decide | omega), ?_⟩; repeat walk_at "g1"))
local macro_rules | `(tactic| walk_at "go") => `(tactic| repeat walk_at "g1")
def t_arrow (K : PySem.W.Frag) : TS :=
  (tSeq (tAsg (tCB (rSortD K) (tCons (tCB cListT (tCons (tVar 0) tNil)) tNil)) (gName 3)) (tSeq (tIfS (tAnd (tTru K (tVar 3)) (tTest (tOp oGt (tOp oMod (tVar 1) (tC (.int 5))) (tC (.int 0))))) (tRet (tOp (rIxL K) (tVar 3) (tOp oModN (tOp oDiv (tVar 1) (tC (.int 5))) (tCB (cLen K) (tCons (tVar 3) tNil))))) tNext) (tSeq (tIfS (tTest (tOp rEq (tOp oMod (tOp oDiv (tVar 1) (tC (.int 5))) (tC (.int 6))) (tC (.int 5)))) (tRet (tTup (tCons (tOp oSub (tOp oModN (tOp oDiv (tVar 1) (tC (.int 30))) (tOp oMul (tC (.int 2)) (tOp oPow (tC (.int 10)) (tC (.int 20))))) (tOp oPow (tC (.int 10)) (tC (.int 20)))) (tCons (tOp oSub (tOp oModN (tOp oDiv (tVar 1) (tC (.int 35))) (tOp oAdd (tVar 2) (tC (.int 3)))) (tC (.int 1))) tNil)))) tNext) (tRet (tTup (tCons (tOp oSub (tOp oModN (tOp oDiv (tVar 1) (tC (.int 5))) (tOp oAdd (tVar 2) (tC (.int 3)))) (tC (.int 1))) (tCons (tOp oSub (tOp oModN (tOp oDiv (tVar 1) (tC (.int 35))) (tOp oAdd (tVar 2) (tC (.int 3)))) (tC (.int 1))) tNil)))))))
def t_refused_k04 (K : PySem.W.Frag) : TS :=
  (tSeq (tTryAs K (.ref (He.ga K "NoArrow")) 2 (fun W => (tDrop (tCallS (sp_forced K) (WE W) (tCons (tVar 0) (tCons (tVar 1) tNil))))) (fun a cls d => (tRet (tCallE (sp_only K) a cls d (tCons (tVar 2) (tCons (tC (.int 4)) tNil)))))) (tRet (tC (.bl false))))
variable {K : PySem.W.Frag} {vs : List V} {H : Hp} {Q : VK} {E : XK}
theorem iteBn_tail {b : Bool} {A B φ : Prop} (h2 : b = true → φ) (h : φ → B) (h1 : (φ → B) → b = false → A) : if (!b) = true then A else B := iteBn (h1 h) fun z => h (h2 z)
theorem len_arrow (h : sp_arrow K vs H Q E) : vs.length = 3 := by
  obtain ⟨d, l, c, n, rfl, _⟩ := h
  rfl
theorem pure_arrow (h : sp_arrow K vs H Q E) : t_arrow K (ends Q) (st 4 vs) H := by
  obtain ⟨d, l, c, n, rfl, hd, fl, hn, q⟩ := h
  walk_at "go"
  refine ⟨d, _, rfl, .inl hd, fun p bs np ik => ?_⟩
  generalize e1 : upd _ p _ = H1
  have s1 := Same.of_eq e1 np
  replace e1 := new_at e1
  have tk := (keys_tl ik).mono s1.tk
  walk_at "go"
  refine ⟨p, _, _, rfl, SqL.of e1, tk, fun ns hm => ?_, fun zs ms r tz pm pw nr => ?_⟩
  · obtain ⟨q, _, rfl⟩ := List.mem_map.mp hm
    exact fun z => nomatch z
  obtain ⟨qs, rfl, pq⟩ := perm_p2 pm
  generalize e2 : upd _ r _ = H2
  have s2 := Same.of_eq e2 nr
  replace e2 := new_at e2
  have tz2 := tz.mono s2.tk
  have lz : zs.length = l.length := by rw [paired_len tz, List.length_map, pq.length_eq]
  have s12 := s1.trans s2
  walk_at "go"
  refine ⟨_, .inl ⟨zs, SqL.of e2, rfl⟩, ?_⟩
  have le : zs.isEmpty = true ↔ l = [] := by
    cases zs with
    | nil => exact ⟨fun _ => List.length_eq_zero_iff.mp lz.symm, fun _ => rfl⟩
    | cons z zs => exact ⟨fun h => (nomatch h), fun h => by rw [h] at lz; cases lz⟩
  have cell0 : ∀ x m : Int, 0 < m → 0 ≤ x % m ∧ x % m < m := fun x m hm => ⟨Int.emod_nonneg _ (by omega), Int.emod_lt_of_pos _ hm⟩
  refine iteBn_tail (φ := ¬ (l ≠ [] ∧ 0 < c % 5)) (fun e z => z.1 (le.mp e)) (fun nz => ?_) fun rest e => ?_
  rotate_left
  · have l0 : 0 < zs.length := by
      cases zs with
      | nil => cases e
      | cons x xs => exact Nat.succ_pos _
    walk_at "go"
    refine iteD (fun c1 => ?_) fun c1 => rest fun z => c1 z.2
    walk_at "go"
    refine ⟨_, _, rfl, .inl (SqL.of e2), ?_⟩
    walk_at "go"
    refine ⟨by show (zs.length : Int) ≠ 0; omega, ?_⟩
    try dsimp only
    rw [fmod_pos _ (by omega : (0 : Int) < (zs.length : Int))]
    obtain ⟨g0, g1⟩ := cell0 (c / 5) zs.length (by omega)
    obtain ⟨j, v, hv, hj⟩ := at_ex (xs := zs) (i := c / 5 % (zs.length : Int)) (by omega) g1
    obtain ⟨p', hp', t, rfl, htp⟩ := TLp.at tz2 hj
    refine ⟨r, _, _, _, rfl, rfl, SqL.of e2, hv, ?_⟩
    exact q t p'.1 p'.2 H2 (fun _ _ => pq.mem_iff.mp (mem_of_get hp')) s12 htp
  have vac : ∀ a b : Int, l ≠ [] → 0 < c % 5 → (a, b) ∈ l := fun a b h1 h2 => (nz ⟨h1, h2⟩).elim
  walk_at "go"
  refine ⟨rfl, _, rfl, iteE (fun c2 => ?_) fun c2 => ?_⟩
  · walk_at "go"
    refine ⟨by show (n : Int) + 3 ≠ 0; omega, ?_⟩
    walk_at "go"
    refine fun t nt => ?_
    generalize e3 : upd _ t _ = G1
    have s3 := Same.of_eq e3 nt
    replace e3 := new_at e3
    exact q t _ _ G1 (vac _ _) (s12.trans s3) e3
  · walk_at "go"
    refine ⟨by show (n : Int) + 3 ≠ 0; omega, ?_⟩
    walk_at "go"
    refine ⟨by show (n : Int) + 3 ≠ 0; omega, ?_⟩
    walk_at "go"
    refine fun t nt => ?_
    generalize e3 : upd _ t _ = G1
    have s3 := Same.of_eq e3 nt
    replace e3 := new_at e3
    exact q t _ _ G1 (vac _ _) (s12.trans s3) e3
theorem len_refused_k04 (h : sp_refused_k04 K vs H Q E) : vs.length = 2 := by
  obtain ⟨v, n, l, t, a, b, rfl, _⟩ := h
  rfl
theorem pure_refused_k04 (ex : PySem.W.exmOne K (.ref (He.ga K "NoArrow")) (.ref (He.ga K "NoArrow")) = some true) (h : sp_refused_k04 K vs H Q E) : t_refused_k04 K (ends Q) (st 3 vs) H := by
  obtain ⟨v, n, l, t, a, b, rfl, nw, ht, no, q⟩ := h
  walk_at "go"
  refine ⟨v, n, l, t, a, b, rfl, nw, ht, fun _ => ⟨true, ex, fun _ a ha => ?_, fun z => (nomatch z)⟩, fun c => absurd c no⟩
  walk_at "go"
  exact ⟨rfl, 4, 4, by decide, by decide, rfl, rfl, fun H2 s2 => q H2 s2⟩
end Ar
namespace Ar
open PySem PySem.Spec L2
local macro_rules | `(tactic| walk_at "g1") => `(tactic| first
  | refine ⟨_, rfl, ?_⟩
  | refine ⟨_, _, rfl, rfl, ?_⟩
  | refine ⟨(by show (0 : Int) < _; decide), ?_⟩
  | refine ⟨⟨by decide, by decide⟩, ?_⟩
  | refine ⟨(show CMul _ _ from .inl ⟨by omega, by omega⟩), ?_⟩
  | refine ⟨(show CMul _ _ from .inr ⟨by omega, by omega⟩), ?_⟩
  | refine ⟨(show (_ : Int) ≠ 0 by decide), ?_⟩
  | refine ⟨sz2, ?_⟩
  | refine ⟨sz0, ?_⟩
  | refine ⟨sz3, ?_⟩)
local macro_rules | `(tactic| walk_at "ty") => `(tactic| first | exact .int _ | exact .bl _ | exact .tup (by assumption) | exact .lst (by assumption))
local macro_rules | `(tactic| walk_at "isT") => `(tactic| refine ⟨_, _, _, _, true, rfl, .ty _, .base (by walk_at "ty"), kit_ty (by decide +kernel), ?_⟩)
local macro_rules | `(tactic| walk_at "isF") => `(tactic| refine ⟨_, _, _, _, false, rfl, .ty _, .base (by walk_at "ty"), kit_ty (by decide +kernel), ?_⟩)
local macro_rules | `(tactic| walk_at "cell") => `(tactic| ((repeat walk_at "g1"); refine ⟨_, _, _, rfl, (by assumption), (by assumption), (by first | decide | omega), ?_⟩; repeat walk_at "g1"))
local macro_rules | `(tactic| walk_at "go") => `(tactic| repeat walk_at "g1")
def t_law_k04 (K : PySem.W.Frag) : TS :=
  (tSeq (tAsg (tCall (sp_net K) [] E0 (tCons (tVar 0) tNil)) (gTup K 2 (gCons (gName 1) (gCons (gName 2) gNil)))) (tSeq (tAsg (tCall (sp_both K) [] E0 (tCons (tVar 2) tNil)) (gName 3)) (tSeq (tAsg (tCall (sp_built K) [] E0 (tCons (tVar 1) (tCons (tVar 2) (tCons (tCall (sp_cell_at K) [] E0 (tCons (tVar 0) (tCons (tC (.int 7)) tNil))) tNil)))) (gName 4)) (tSeq (tAsg (tCall (sp_arrow K) [] E0 (tCons (tVar 3) (tCons (tCall (sp_cell_at K) [] E0 (tCons (tVar 0) (tCons (tC (.int 4)) tNil))) (tCons (tVar 1) tNil)))) (gName 5)) (tSeq (tIfS (tB (tDNotIn (tVar 5) (tVar 3))) (tRet (tCall (sp_refused_k04 K) [] E0 (tCons (tVar 4) (tCons (tVar 5) tNil)))) tNext) (tSeq (tAsg (tCall (sp_forces K) [] E0 (tCons (tVar 3) (tCons (tVar 1) (tCons (tVar 5) tNil)))) (gName 6)) (tSeq (tAsg (tCall (sp_forced K) [] E0 (tCons (tVar 4) (tCons (tVar 5) tNil))) (gName 7)) (tSeq (tIfS (tNot (tB (tCall (sp_listed K) [] E0 (tCons (tVar 7) (tCons (tVar 6) tNil))))) (tRet (tC (.bl false))) tNext) (tSeq (tAsg (tCB (cList K) (tCons (tVar 7) tNil)) (gName 8)) (tSeq (tFor (iList K (tOp rCat (tVar 6) (tLst (tCons (tTup (tCons (tOp (rIxT K) (tVar 5) (tC (.int 1))) (tCons (tOp (rIxT K) (tVar 5) (tC (.int 0))) tNil))) (tCons (tVar 5) tNil))))) (gName 9) (tSeq (tAsg (tCall (sp_forced K) [] E0 (tCons (tVar 4) (tCons (tVar 9) tNil))) (gName 10)) (tIfS (tOr (tNot (tB (tCall (sp_listed K) [] E0 (tCons (tVar 10) (tCons (tCall (sp_forces K) [] E0 (tCons (tVar 3) (tCons (tVar 1) (tCons (tVar 9) tNil)))) tNil))))) (tAnd (tTest (tOp (rInD K) (tVar 9) (tVar 6))) (tTest (tOp (rNotInD K) (tVar 5) (tVar 10))))) (tRet (tC (.bl false))) tNext))) (tSeq (tIfS (tTest (tOp (rNeD K) (tVar 7) (tVar 8))) (tRet (tC (.bl false))) tNext) (tSeq (tDrop (tBM K "list" rAppend (tVar 7) (tCons (tVar 5) tNil))) (tRet (tCall (sp_listed K) [] E0 (tCons (tCall (sp_forced K) [] E0 (tCons (tVar 4) (tCons (tVar 5) tNil))) (tCons (tVar 6) tNil))))))))))))))))
variable {K : PySem.W.Frag} {vs : List V} {H : Hp} {Q : VK} {E : XK}
theorem len_law_k04 (h : sp_law_k04 K vs H Q E) : vs.length = 1 := by
  obtain ⟨a, ns, rfl, _⟩ := h
  rfl
theorem ddi (ns : List Int) {H : Hp} : Paired (DD H 0) (ns.map V.int) (ns.map PyData.int) := by
  induction ns with
  | nil => exact .nil
  | cons n ns ih => exact .cons ⟨n, rfl, rfl⟩ ih
/-- a row of pairs, as data -/
theorem ld_ps {H : Hp} {a : Addr} {xs : List V} {ps : List Arr} (h : H a = some (.lst xs)) (t : TL H xs (ps.map p2)) (hl : ps.length ≤ 100000) : LD H 1 (.ref a) ((ps.map p2).map dI) := by
  refine ⟨a, xs, rfl, h, by rw [paired_len t, List.length_map]; exact hl, ?_⟩
  clear h hl
  induction ps generalizing xs with
  | nil =>
    cases t
    exact .nil
  | cons p ps ih =>
    cases t with
    | cons h t =>
      obtain ⟨u, rfl, hu⟩ := h
      exact .cons (.inr ⟨u, _, _, rfl, rfl, hu, by show 2 ≤ 100000; decide, ddi [p.1, p.2]⟩) (ih t)
theorem fcs_few {n : Nat} {l : List Arr} (g : GoodL n l) (hn : n ≤ 24) (p : Arr) : (fcs n l p).length ≤ 576 := by
  have h1 : (fcs n l p).length ≤ (gridP n).length := List.length_filter_le _ _
  rw [len_gridP] at h1
  have := Nat.mul_le_mul hn hn
  omega
theorem inL {ps : List Arr} {q : Arr} : ((ps.map p2).map dI).any (fun z => PyData.eqv z (dI (p2 q))) = decide (q ∈ ps) := by
  rw [any_dI]
  have : p2 q ∈ ps.map p2 ↔ q ∈ ps := by
    constructor
    · intro h
      obtain ⟨x, hx, e⟩ := List.mem_map.mp h
      exact p2_inj e ▸ hx
    · intro h
      exact List.mem_map.mpr ⟨_, h, rfl⟩
  by_cases h : q ∈ ps
  · rw [decide_eq_true h, decide_eq_true (this.mpr h)]
  · rw [decide_eq_false h, decide_eq_false (fun z => h (this.mp z))]
theorem pure_law_k04 (h : sp_law_k04 K vs H Q E) : t_law_k04 K (ends Q) (st 11 vs) H := by
  obtain ⟨a, ns, rfl, hs, hl, q⟩ := h
  walk_at "go"
  refine ⟨a, ns, rfl, hs, hl, fun n ps t tl H1 xs hn _ T _ _ _ s1 e1 f1 tt => ?_⟩
  refine ⟨_, _, rfl, SqT.of e1, rfl, _, _, rfl, _, _, rfl, rfl, ?_⟩
  have few := T.few hn
  walk_at "go"
  refine ⟨tl, xs, ps, rfl, f1, tt, by omega, fun l d H2 B _ s2 e2 => ?_⟩
  have g := T.good B
  have fl := g.few hn
  have hs2 := s2.seq (s1.seq hs)
  have f2 := s2 _ _ f1
  have tt2 := tt.mono s2.tk
  walk_at "cell"
  refine ⟨n, tl, _, xs, ps, rfl, hn, f2, tt2, T, fun l' w H3 B' s3 nw => ?_⟩
  have hs3 := s3.seq hs2
  have d3 := s3 _ _ e2
  have pm : l'.Perm l := B'.perm' B
  have ef : fcs n l' = fcs n l := fcs_perm pm n
  walk_at "cell"
  refine ⟨d, l, _, n, rfl, d3, by omega, hn, fun ta x y H4 _ s4 e4 => ?_⟩
  have d4 := s4 _ _ d3
  have nw4 := nw.mono s4
  walk_at "go"
  refine ⟨_, _, rfl, DGet.t (k := kp (x, y)) d4 e4, ?_⟩
  walk_at "go"
  rw [some_hk]
  refine iteDn (fun c1 => ?_) fun c1 => ?_
  · walk_at "go"
    exact ⟨w, n, l', ta, x, y, rfl, nw4, e4, fun z => c1 (pm.mem_iff.mp z), fun H5 s5 => q H5⟩
  have c1' : (x, y) ∈ l' := pm.mem_iff.mpr c1
  walk_at "go"
  refine ⟨d, l, n, ta, x, y, rfl, d4, g, hn, e4, fun du H5 ys ndu s5 e5 ty => ?_⟩
  have few1 := fcs_few g hn (x, y)
  walk_at "go"
  refine ⟨w, n, l', ta, x, y, rfl, nw4.mono s5, s5 _ _ e4, fun z => absurd c1' z, fun _ tl6 H6 zs ntl6 s6 e6 tz => ?_⟩
  rw [ef] at tz
  have s56 := s5.trans s6
  walk_at "go"
  refine ⟨_, _, _, rfl, ld_ps e6 tz (by omega), ld_ps (s6 _ _ e5) (ty.mono s6.tk) (by omega), fun H7 s7 => ?_⟩
  walk_at "go"
  refine ⟨_, _, rfl, .inl (SqL.of (s7 _ _ e6)), ?_⟩
  refine fun he nhe => ?_
  generalize e8 : upd _ he _ = H8
  have s8 := Same.of_eq e8 nhe
  replace e8 := new_at e8
  have s78 := s7.trans s8
  have s58 := s56.trans s78
  walk_at "go"
  refine ⟨_, _, _, _, rfl, rfl, SqT.of (s58 _ _ e4), at1, ?_⟩
  walk_at "go"
  refine ⟨_, _, _, _, rfl, rfl, SqT.of (s58 _ _ e4), at0, ?_⟩
  walk_at "go"
  refine fun u nu => ?_
  generalize e9 : upd _ u _ = H9
  have s9 := Same.of_eq e9 nu
  replace e9 := new_at e9
  walk_at "go"
  refine fun l2 nl2 => ?_
  generalize e10 : upd _ l2 _ = H10
  have s10 := Same.of_eq e10 nl2
  replace e10 := new_at e10
  have s910 := s9.trans s10
  have s510 := s58.trans s910
  have lys : ys.length ≤ 576 := by rw [paired_len ty, List.length_map]; exact few1
  refine ⟨du, l2, _, _, rfl, rfl, s910 _ _ (s78 _ _ (s6 _ _ e5)), e10, lin (by show _ + 2 ≤ _; omega), ?_⟩
  refine fun al nal => ?_
  generalize e11 : upd _ al _ = H11
  have s11 := Same.of_eq e11 nal
  replace e11 := new_at e11
  have s511 := s510.trans s11
  have tall : TL H11 (ys ++ [V.ref u, V.ref ta]) ((fcs n l (x, y) ++ [(y, x), (x, y)]).map p2) :=
    tl_app (ty.mono ((s6.trans s78).trans (s910.trans s11)).tk) (.cons (ti2 (s11 _ _ (s10 _ _ e9))) (.cons (ti2 (s511 _ _ e4)) .nil))
  have sub : ∀ p ∈ fcs n l (x, y) ++ [(y, x), (x, y)], p ∈ l ∧ (p ∈ fcs n l (x, y) → (x, y) ∈ fcs n l p) := fun p hp => by
    have key : p ∈ fcs n l (x, y) → p ∈ l ∧ (x, y) ∈ fcs n l p := fun h => by
      have f := (mem_fcs g).mp h
      exact ⟨f.mem, (mem_fcs g).mpr (f.symm g.sym c1)⟩
    refine ⟨?_, fun h => (key h).2⟩
    rcases List.mem_append.mp hp with h | h
    · exact (key h).1
    · simp only [List.mem_cons, List.not_mem_nil, or_false] at h
      rcases h with rfl | rfl
      · exact g.sym _ _ c1
      · exact c1
  have du11 := (s6.trans (s78.trans (s910.trans s11))) _ _ e5
  have tdu11 := ty.mono (s6.trans (s78.trans (s910.trans s11))).tk
  refine ⟨al, rfl, ⟨_, SqL.of e11⟩, for_list (K := K) (a := al) (xs := ys ++ [V.ref u, V.ref ta]) (fun i σ G => ∃ (o9 o10 : Option V), σ = [some (.ref a), some (.int n), some (.ref tl), some (.ref d), some w, some (.ref ta), some (.ref du), some (.ref tl6), some (.ref he), o9, o10] ∧ Same H11 G)
    ⟨_, _, rfl, Same.refl _⟩ (fun i σ G _ ⟨_, _, _, s⟩ => SqL.of (s _ _ e11)) ?_ ?_⟩
  · rintro i v σ G hx ⟨o9, o10, rfl, sG⟩
    obtain ⟨p, hp, tp, rfl, htp⟩ := TLp.at tall hx
    obtain ⟨pl, pf⟩ := sub p (mem_of_get hp)
    have sA := s511.trans sG
    have htpG := sG _ _ htp
    walk_at "go"
    refine ⟨w, n, l', tp, p.1, p.2, rfl, nw4.mono sA, htpG, fun z => absurd (pm.mem_iff.mpr pl) z, fun _ ag G2 zs2 nag s12 e12 tz2 => ?_⟩
    rw [ef] at tz2
    have tz2 : TL G2 zs2 ((fcs n l p).map p2) := tz2
    have few2 := fcs_few g hn p
    walk_at "go"
    refine ⟨d, l, n, tp, p.1, p.2, rfl, s12 _ _ (sA _ _ d4), g, hn, s12 _ _ htpG, fun d2 G3 ws nd2 s13 e13 tw => ?_⟩
    have tw : TL G3 ws ((fcs n l p).map p2) := tw
    have s123 := s12.trans s13
    walk_at "go"
    refine ⟨_, _, _, rfl, ld_ps (s13 _ _ e12) (tz2.mono s13.tk) (by omega), ld_ps e13 tw (by omega), fun G4 s14 => ?_⟩
    have s124 := s123.trans s14
    walk_at "go"
    refine ⟨_, _, dp_ti (ns := p2 p) (ti2 (s124 _ _ htpG)), dp_tl (SqL.of (s124 _ _ (sG _ _ du11))) (tdu11.mono (sG.trans s124).tk), shaped_dI (p2 p), shaped_dIs _, ?_⟩
    rw [inL]
    refine ⟨_, rfl, iteD (fun c2 => ?_) fun c2 => ?_⟩
    · walk_at "go"
      refine ⟨_, _, dp_ti (ns := p2 (x, y)) (ti2 (s124 _ _ (sA _ _ e4))), dp_tl (SqL.of ((s13.trans s14) _ _ e12)) (tz2.mono (s13.trans s14).tk), shaped_dI (p2 (x, y)), shaped_dIs _, ?_⟩
      rw [inL, decide_eq_true (pf c2)]
      walk_at "go"
      exact ⟨_, _, rfl, sG.trans s124⟩
    · exact ⟨_, _, rfl, sG.trans s124⟩
  · rintro σ G ⟨o9, o10, rfl, sG⟩
    have s8G := (s910.trans s11).trans sG
    have tl6G := s8G _ _ (s78 _ _ e6)
    have tzG := tz.mono (s78.trans s8G).tk
    walk_at "go"
    refine ⟨_, _, dp_tl (SqL.of tl6G) tzG, dp_tl (SqL.of (s8G _ _ e8)) tzG, shaped_dIs _, shaped_dIs _, ?_⟩
    rw [eqv_same]
    walk_at "go"
    refine ⟨.inl ⟨rfl, _, SqL.of tl6G⟩, ?_⟩
    have lzs : zs.length ≤ 576 := by rw [paired_len tz, List.length_map]; exact few1
    walk_at "go"
    refine ⟨tl6, _, _, rfl, rfl, tl6G, lin' (by omega), ?_⟩
    have sA := s511.trans sG
    have nwF := (nw4.mono sA).lst (ys := zs ++ [V.ref ta]) tl6G
    have tkF : TK G (upd G tl6 (.lst (zs ++ [V.ref ta]))) := TK.upd fun zs z => by rw [tl6G] at z; cases z
    have dFu : upd G tl6 (.lst (zs ++ [V.ref ta])) du = some (.lst ys) := by
      rw [upd_ne (ne_of_none e5 ntl6)]
      exact sG _ _ du11
    have e4F := tkF _ _ (sA _ _ e4)
    have tyF := tdu11.mono (sG.tk.trans tkF)
    generalize upd G tl6 (.lst (zs ++ [V.ref ta])) = F at nwF dFu e4F tyF ⊢
    walk_at "go"
    refine ⟨w, n, l', ta, x, y, rfl, nwF, e4F, fun z => absurd c1' z, fun _ la F2 ws nla s15 e15 tw => ?_⟩
    rw [ef] at tw
    walk_at "go"
    exact ⟨_, _, _, rfl, ld_ps e15 tw (by omega), ld_ps (s15 _ _ dFu) (tyF.mono s15.tk) (by omega), fun F3 s16 => q _⟩
end Ar
namespace Ar
open PySem PySem.Spec L2
local macro_rules | `(tactic| walk_at "g1") => `(tactic| first
  | refine ⟨_, rfl, ?_⟩
  | refine ⟨_, _, rfl, rfl, ?_⟩
  | refine ⟨(by show (0 : Int) < _; decide), ?_⟩
  | refine ⟨⟨by decide, by decide⟩, ?_⟩
  | refine ⟨(show CMul _ _ from .inl ⟨by omega, by omega⟩), ?_⟩
  | refine ⟨(show CMul _ _ from .inr ⟨by omega, by omega⟩), ?_⟩
  | refine ⟨(show (_ : Int) ≠ 0 by decide), ?_⟩
  | refine ⟨sz2, ?_⟩
  | refine ⟨sz0, ?_⟩
  | refine ⟨sz3, ?_⟩)
local macro_rules | `(tactic| walk_at "ty") => `(tactic| first | exact .int _ | exact .bl _ | exact .tup (by assumption) | exact .lst (by assumption))
local macro_rules | `(tactic| walk_at "isT") => `(tactic| refine ⟨_, _, _, _, true, rfl, .ty _, .base (by walk_at "ty"), kit_ty (by decide +kernel), ?_⟩)
local macro_rules | `(tactic| walk_at "isF") => `(tactic| refine ⟨_, _, _, _, false, rfl, .ty _, .base (by walk_at "ty"), kit_ty (by decide +kernel), ?_⟩)
local macro_rules | `(tactic| walk_at "cell") => `(tactic| ((repeat walk_at "g1"); refine ⟨_, _, _, rfl, (by assumption), (by assumption), (by first | decide | omega), ?_⟩; repeat walk_at "g1"))
local macro_rules | `(tactic| walk_at "go") => `(tactic| repeat walk_at "g1")
def t_refused_k01 (K : PySem.W.Frag) : TS :=
  (tSeq (tTryAs K (.ref (He.ga K "NoPoint")) 3 (fun W => (tDrop (tMethS (cNet K) "tied" (sp_Net_tied K) (WE W) (tVar 0) (tCons (tVar 1) (tCons (tVar 2) tNil))))) (fun a cls d => (tRet (tCallE (sp_only K) a cls d (tCons (tVar 3) (tCons (tC (.int 1)) tNil)))))) (tRet (tC (.bl false))))
def t_alone (K : PySem.W.Frag) : TS :=
  (tSeq (tTryAs K (.ref (He.ga K "NoPoint")) 2 (fun W => (tDrop (tMethS (cNet K) "near" (sp_Net_near K) (WE W) (tVar 0) (tCons (tVar 1) tNil)))) (fun a cls d => (tRet (tCallE (sp_only K) a cls d (tCons (tVar 2) (tCons (tC (.int 1)) tNil)))))) (tRet (tC (.bl false))))
def t_early_k01 (K : PySem.W.Frag) : TS :=
  (tSeq (tIfS (tTest (tOp rEq (tVar 2) (tC (.int 0)))) (tRet (tC (.bl true))) tNext) (tSeq (tAsg (tOp oModN (tVar 3) (tVar 2)) (gName 4)) (tSeq (tAsg (tOp oModN (tOp oDiv (tVar 3) (tC (.int 30))) (tVar 2)) (gName 5)) (Evl.tCut (tIfS (tAnd (tTest (tOp rEq (tOp oMod (tVar 3) (tC (.int 3))) (tC (.int 1)))) (tTest (tOp rNe (tMeth (cNet K) "tied" (sp_Net_tied K) [] E0 (tVar 0) (tCons (tVar 4) (tCons (tVar 5) tNil))) (tDIn (tTup (tCons (tVar 4) (tCons (tVar 5) tNil))) (tVar 1))))) (tRet (tC (.bl false))) tNext) (tRet (tOp (rEqD K) (tMeth (cNet K) "near" (sp_Net_near K) [] E0 (tVar 0) (tCons (tVar 4) tNil)) (tLc (iRng1 (tCons (tVar 2) tNil)) (gName 6) (tB (tDIn (tTup (tCons (tVar 4) (tCons (tVar 6) tNil))) (tVar 1))) (tVar 6) [6])))))))
def t_kept_k01 (K : PySem.W.Frag) : TS :=
  (tSeq (tAsg (tCB (cList K) (tCons (tVar 1) tNil)) (gName 3)) (tSeq (tAsg (tMeth (cNet K) "pairs" (sp_Net_pairs K) [] E0 (tMake (cNet K) (sp_Net_init K) [] E0 (tCons (tC (.int 2)) (tCons (tLst (tCons (tTup (tCons (tC (.int 1)) (tCons (tC (.int 0)) tNil))) tNil)) tNil))) tNil) (gName 4)) (tSeq (tIfS (tOr (tNot (tB (tCall (sp_listed K) [] E0 (tCons (tMeth (cNet K) "pairs" (sp_Net_pairs K) [] E0 (tVar 0) tNil) (tCons (tVar 2) tNil))))) (tOr (tTest (tOp (rNeD K) (tVar 1) (tVar 3))) (tTest (tOp (rNeD K) (tVar 4) (tLst (tCons (tTup (tCons (tC (.int 0)) (tCons (tC (.int 1)) tNil))) tNil)))))) (tRet (tC (.bl false))) tNext) (tSeq (tDrop (tBM K "list" rAppend (tVar 1) (tCons (tTup (tCons (tC (.int 0)) (tCons (tC (.int 1)) tNil))) tNil))) (tRet (tCall (sp_listed K) [] E0 (tCons (tMeth (cNet K) "pairs" (sp_Net_pairs K) [] E0 (tVar 0) tNil) (tCons (tVar 2) tNil))))))))
variable {K : PySem.W.Frag} {vs : List V} {H : Hp} {Q : VK} {E : XK}
theorem len_refused_k01 (h : sp_refused_k01 K vs H Q E) : vs.length = 3 := by
  obtain ⟨v, n, l, a, b, rfl, _⟩ := h
  rfl
theorem NetAt.obj {v : V} {n : Nat} {l : List Arr} (h : NetAt K H v n l) : ∃ o dx d, v = .ref o ∧ H o = some (.ins (cNet K) dx (nflds n d)) ∧ H d = some (.dT (hk l)) ∧ GoodL n l ∧ n ≤ 24 ∧ ∀ m : Str, ¬ m = "both" → ¬ m = "many" → (nflds n d).lookup m = none := by
  obtain ⟨o, dx, d, e, h1, h2, g, hn⟩ := h
  exact ⟨o, dx, d, e, h1, h2, g, hn, fun m a b => nflds_no _ _ a b⟩
theorem pure_refused_k01 (ex : PySem.W.exmOne K (.ref (He.ga K "NoPoint")) (.ref (He.ga K "NoPoint")) = some true) (h : sp_refused_k01 K vs H Q E) : t_refused_k01 K (ends Q) (st 4 vs) H := by
  obtain ⟨v, n, l, a, b, rfl, nw, no, q⟩ := h
  have nw0 := nw
  obtain ⟨o, dx, d, rfl, hO, hd, g, hn, nf⟩ := nw.obj
  walk_at "go"
  refine ⟨o, dx, _, rfl, hO, nf _ (by decide +kernel) (by decide +kernel), ?_⟩
  walk_at "go"
  refine ⟨_, n, l, a, b, rfl, nw0, fun c => absurd c no, fun _ => ⟨true, ex, fun _ a ha => ?_, fun z => (nomatch z)⟩⟩
  walk_at "go"
  exact ⟨rfl, 1, 1, by decide, by decide, rfl, rfl, fun H2 s2 => q H2 s2⟩
theorem len_alone (h : sp_alone K vs H Q E) : vs.length = 2 := by
  obtain ⟨v, n, l, a, rfl, _⟩ := h
  rfl
theorem pure_alone (ex : PySem.W.exmOne K (.ref (He.ga K "NoPoint")) (.ref (He.ga K "NoPoint")) = some true) (h : sp_alone K vs H Q E) : t_alone K (ends Q) (st 3 vs) H := by
  obtain ⟨v, n, l, a, rfl, nw, no, q⟩ := h
  have nw0 := nw
  obtain ⟨o, dx, d, rfl, hO, hd, g, hn, nf⟩ := nw.obj
  walk_at "go"
  refine ⟨o, dx, _, rfl, hO, nf _ (by decide +kernel) (by decide +kernel), ?_⟩
  walk_at "go"
  refine ⟨_, n, l, a, rfl, nw0, fun c => absurd c no, fun _ => ⟨true, ex, fun _ a ha => ?_, fun z => (nomatch z)⟩⟩
  walk_at "go"
  exact ⟨rfl, 1, 1, by decide, by decide, rfl, rfl, fun H2 s2 => q H2 s2⟩
theorem len_early_k01 (h : sp_early_k01 K vs H Q E) : vs.length = 4 := by
  obtain ⟨v, n, l, l', d, c, rfl, _⟩ := h
  rfl
theorem mem_perm {l l' : List Arr} (pm : l'.Perm l) (p : Arr) : decide (p ∈ l') = decide (p ∈ l) := by
  by_cases c : p ∈ l
  · rw [decide_eq_true c, decide_eq_true (pm.mem_iff.mpr c)]
  · rw [decide_eq_false c, decide_eq_false (fun z => c (pm.mem_iff.mp z))]
theorem near_perm {l l' : List Arr} (pm : l'.Perm l) (a : Int) (n : Nat) : ((List.range n).map Int.ofNat).filter (fun x => decide ((a, x) ∈ l')) = ((List.range n).map Int.ofNat).filter (fun x => decide ((a, x) ∈ l)) := by
  congr 1
  funext x
  exact mem_perm pm (a, x)
theorem eqv_same_i {ns : List Int} : PyData.eqv (.list (ns.map .int)) (.list (ns.map .int)) = true := by
  rw [eqv_li]
  exact decide_eq_true rfl
theorem pure_early_k01 (h : sp_early_k01 K vs H Q E) : t_early_k01 K (ends Q) (st 7 vs) H := by
  obtain ⟨v, n, l, l', d, c, rfl, nw, hd, pm, q⟩ := h
  have nw0 := nw
  obtain ⟨o, dx, d', rfl, hO, hd', g, hn, nf⟩ := nw.obj
  walk_at "go"
  refine ⟨rfl, _, rfl, iteE (fun c1 => ?_) fun c1 => ?_⟩
  · walk_at "go"
    exact q H (Same.refl _)
  have n0 : (0 : Int) < (n : Int) := by
    have c1' : ¬ (n : Int) = 0 := c1
    omega
  walk_at "go"
  refine ⟨by show (n : Int) ≠ 0; omega, ?_⟩
  walk_at "go"
  refine ⟨by show (n : Int) ≠ 0; omega, ?_⟩
  try dsimp only
  rw [fmod_pos _ n0, fmod_pos _ n0]
  generalize ea : c % (n : Int) = a
  generalize eb : c / 30 % (n : Int) = b
  have a0 : 0 ≤ a ∧ a < n := ⟨by rw [← ea]; exact Int.emod_nonneg _ (by omega), by rw [← ea]; exact Int.emod_lt_of_pos _ n0⟩
  have b0 : 0 ≤ b ∧ b < n := ⟨by rw [← eb]; exact Int.emod_nonneg _ (by omega), by rw [← eb]; exact Int.emod_lt_of_pos _ n0⟩
  walk_at "go"
  refine ⟨fun σ G => σ = [some (.ref o), some (.ref d), some (.int n), some (.int c), some (.int a), some (.int b), none] ∧ Same H G, ?_, ?_⟩
  · walk_at "go"
    refine ⟨rfl, _, rfl, iteE (fun c2 => ?_) fun c2 => ?_⟩
    · walk_at "go"
      refine ⟨o, dx, _, rfl, hO, nf _ (by decide +kernel) (by decide +kernel), ?_⟩
      walk_at "go"
      refine ⟨_, n, l', a, b, rfl, nw0, fun _ H1 s1 => ?_, fun z => absurd ⟨a0, b0⟩ z⟩
      walk_at "go"
      refine fun t nt => ?_
      generalize e2 : upd _ t _ = H2
      have s2 := Same.of_eq e2 nt
      replace e2 := new_at e2
      walk_at "go"
      refine ⟨_, _, rfl, DGet.t (k := kp (a, b)) (s2 _ _ (s1 _ _ hd)) e2, ?_⟩
      rw [some_hk, mem_perm pm]
      refine ⟨rfl, _, rfl, ?_⟩
      rw [decide_eq_true rfl]
      exact ⟨rfl, s1.trans s2⟩
    · exact ⟨rfl, Same.refl _⟩
  rintro σ G ⟨rfl, s1⟩
  walk_at "go"
  refine ⟨o, dx, _, rfl, s1 _ _ hO, nf _ (by decide +kernel) (by decide +kernel), ?_⟩
  walk_at "go"
  refine ⟨_, n, l', a, rfl, nw0.mono s1, fun _ p H2 ns en np s2 e2 => ?_, fun z => absurd a0 z⟩
  try dsimp only
  refine near_lc (n := n) (d := d) (l := l) (a := a) rfl (by show 6 < 7; decide) (by decide) rfl (by omega) ((s1.trans s2) _ _ hd) (fun i G Q' _ h => ⟨_, rfl, h⟩) fun p3 H3 ms em np3 s3 e3 => ?_
  rw [near_perm pm, ← em] at en
  subst en
  refine ⟨_, _, dp_il (SqL.of (s3 _ _ e2)), dp_il (SqL.of e3), shaped_ints _, shaped_ints _, ?_⟩
  rw [eqv_same_i]
  exact q H3 ((s1.trans s2).trans s3)
theorem len_kept_k01 (h : sp_kept_k01 K vs H Q E) : vs.length = 3 := by
  obtain ⟨v, n, l, a, b, xs, ys, qs, rfl, _⟩ := h
  rfl
theorem pairs10 : PairsOf (bothL [] [(1, 0)]) [(0, 1)] := by
  refine ⟨List.pairwise_singleton _ _, fun a b => ?_⟩
  have e : bothL [] [(1, 0)] = [(1, 0), (0, 1)] := by decide +kernel
  rw [e]
  simp only [List.mem_cons, List.not_mem_nil, or_false, Prod.mk.injEq]
  omega
theorem ties10 : Ties 2 [(1, 0)] := ⟨fun p hp => by
  cases List.mem_singleton.mp hp
  decide, List.pairwise_singleton _ _⟩
/-- Net(n, ties), in a place where what follows is not yet known -/
theorem make_at {K : PySem.W.Frag} {H : Hp} {Q2 : VK} {E : XK} {m : Int} {n : Nat} {tl x dx : Addr} {xs : List V} {ps : List (Int × Int)} (hx : H x = none) (hdx : H dx = none) (ne : dx ≠ x) (hm : m = n) (hs : H tl = some (.lst xs)) (ht : TL H xs (ps.map p2)) (t : Ties n ps) (hn : n ≤ 24)
    (q : ∀ H', Same H H' → NetAt K H' (.ref x) n (bothL [] ps) → Q2 .non H') : sp_Net_init K (.ref x :: ([V.int m, .ref tl] ++ [])) (upd (upd H dx (.own x)) x (.ins (cNet K) dx [])) Q2 E := by
  subst hm
  have s1 : Same H (upd (upd H dx (.own x)) x (.ins (cNet K) dx [])) := (Same.new hdx).mut hx
  have lp := t.few hn
  refine ⟨x, dx, tl, n, xs, ps, rfl, upd_same, s1 _ _ hs, ht.mono s1.tk, by omega, fun c => by omega, fun H' _ _ _ c => ?_, fun H' _ _ _ c => ?_, fun H' d s2 _ _ _ ho hd => ?_⟩
  · rw [t.res] at c
    cases c
  · rw [t.res] at c
    cases c
  · exact q _ (fun b u e => s2 b u (fun z => by rw [z, hx] at e; cases e) (s1 _ _ e)) ⟨x, dx, d, rfl, ho, hd, t.good (bothL_ok ps), hn⟩
theorem pure_kept_k01 (h : sp_kept_k01 K vs H Q E) : t_kept_k01 K (ends Q) (st 5 vs) H := by
  obtain ⟨v, n, l, a, b, xs, ys, qs, rfl, nw, ha, tx, hab, hb, ty, P, few, q⟩ := h
  walk_at "go"
  refine ⟨_, _, rfl, .inl (SqL.of ha), ?_⟩
  refine fun he nhe => ?_
  generalize e1 : upd _ he _ = H1
  have s1 := Same.of_eq e1 nhe
  replace e1 := new_at e1
  walk_at "go"
  refine fun t2 nt2 => ?_
  generalize e2 : upd _ t2 _ = H2
  have s2 := Same.of_eq e2 nt2
  replace e2 := new_at e2
  walk_at "go"
  refine ⟨sz1, ?_⟩
  refine fun l3 nl3 => ?_
  generalize e3 : upd _ l3 _ = H3
  have s3 := Same.of_eq e3 nl3
  replace e3 := new_at e3
  walk_at "go"
  refine fun x4 dx4 n1 n2 n3 => make_at n1 n2 n3 rfl e3 (tl_one (a := 1) (b := 0) (s3 _ _ e2)) ties10 (by decide) fun H4 s4 nw4 => ⟨rfl, ?_⟩
  have nw4' := nw4
  obtain ⟨o, dx, d, eo, hO, hd, g, hn, nf⟩ := nw4.obj
  walk_at "go"
  refine ⟨o, dx, _, eo, hO, nf _ (by decide +kernel) (by decide +kernel), ?_⟩
  walk_at "go"
  refine ⟨_, 2, _, rfl, nw4', fun p5 H5 zs us P5 f5 np5 s5 e5 tz => ?_⟩
  have eu := P5.same (.refl _) pairs10
  rw [eu] at tz
  have sH5 := (((s1.trans s2).trans s3).trans s4).trans s5
  obtain ⟨o', dx', d', rfl, hO', hd', g', hn', nf'⟩ := nw.obj
  walk_at "go"
  refine ⟨o', dx', _, rfl, sH5 _ _ hO', nf' _ (by decide +kernel) (by decide +kernel), ?_⟩
  walk_at "go"
  refine ⟨_, n, l, rfl, nw.mono sH5, fun p6 H6 zs6 us6 P6 f6 np6 s6 e6 tz6 => ?_⟩
  rw [P6.same (.refl _) P] at tz6
  have sH6 := sH5.trans s6
  walk_at "go"
  refine ⟨_, _, _, rfl, ld_ps e6 tz6 (by omega), ld_ps (sH6 _ _ hb) (ty.mono sH6.tk) (by omega), fun H7 s7 => ?_⟩
  have sH7 := sH6.trans s7
  have s17 := ((((s2.trans s3).trans s4).trans s5).trans s6).trans s7
  walk_at "go"
  refine ⟨_, _, dp_tl (SqL.of (sH7 _ _ ha)) (tx.mono sH7.tk), dp_tl (SqL.of (s17 _ _ e1)) (tx.mono sH7.tk), shaped_dIs _, shaped_dIs _, ?_⟩
  rw [eqv_same]
  walk_at "go"
  refine fun t8 nt8 => ?_
  generalize e8 : upd _ t8 _ = H8
  have s8 := Same.of_eq e8 nt8
  replace e8 := new_at e8
  walk_at "go"
  refine ⟨sz1, ?_⟩
  refine fun l9 nl9 => ?_
  generalize e9 : upd _ l9 _ = H9
  have s9 := Same.of_eq e9 nl9
  replace e9 := new_at e9
  have s59 := ((s6.trans s7).trans s8).trans s9
  refine ⟨_, _, dp_tl (SqL.of (s59 _ _ e5)) (tz.mono s59.tk), dp_tl (SqL.of e9) (tl_one (a := 0) (b := 1) (s9 _ _ e8)), shaped_dIs _, shaped_dIs _, ?_⟩
  rw [eqv_same]
  walk_at "go"
  have sH9 := (sH7.trans s8).trans s9
  refine ⟨.inl ⟨rfl, _, SqL.of (sH9 _ _ ha)⟩, ?_⟩
  walk_at "go"
  refine fun t10 nt10 => ?_
  generalize e10 : upd _ t10 _ = H10
  have s10 := Same.of_eq e10 nt10
  replace e10 := new_at e10
  have sH10 := sH9.trans s10
  have ha10 := sH10 _ _ ha
  have lx : xs.length ≤ 1000 := by rw [paired_len tx, List.length_map]; exact few
  refine ⟨a, _, _, rfl, rfl, ha10, lin' (by omega), ?_⟩
  have nwF := (nw.mono sH10).lst (ys := xs ++ [V.ref t10]) ha10
  have bF : But a H (upd H10 a (.lst (xs ++ [V.ref t10]))) := fun x u nx e => by
    rw [upd_ne nx]
    exact sH10 _ _ e
  have tyF := ty.mono (bF.tk ha)
  have hbF := bF _ _ hab.symm hb
  generalize upd H10 a (.lst (xs ++ [V.ref t10])) = F at nwF bF tyF hbF ⊢
  have nwF' := nwF
  obtain ⟨o'', dx'', d'', e'', hO'', hd'', g'', hn'', nf''⟩ := nwF.obj
  walk_at "go"
  refine ⟨o'', dx'', _, e'', hO'', nf'' _ (by decide +kernel) (by decide +kernel), ?_⟩
  walk_at "go"
  refine ⟨_, n, l, rfl, nwF', fun p12 H12 zs12 us12 P12 f12 np12 s12 e12 tz12 => ?_⟩
  rw [P12.same (.refl _) P] at tz12
  walk_at "go"
  exact ⟨_, _, _, rfl, ld_ps e12 tz12 (by omega), ld_ps (s12 _ _ hbF) (tyF.mono s12.tk) (by omega), fun H13 s13 => q _ ((bF.same s12).same s13)⟩
end Ar
namespace Ar
open PySem PySem.Spec L2
local macro_rules | `(tactic| walk_at "g1") => `(tactic| first
  | refine ⟨_, rfl, ?_⟩
  | refine ⟨_, _, rfl, rfl, ?_⟩
  | refine ⟨(by show (0 : Int) < _; decide), ?_⟩
  | refine ⟨⟨by decide, by decide⟩, ?_⟩
  | refine ⟨(show CMul _ _ from .inl ⟨by omega, by omega⟩), ?_⟩
  | refine ⟨(show CMul _ _ from .inr ⟨by omega, by omega⟩), ?_⟩
  | refine ⟨(show (_ : Int) ≠ 0 by decide), ?_⟩
  | refine ⟨sz2, ?_⟩
  | refine ⟨sz0, ?_⟩
  | refine ⟨sz3, ?_⟩)
local macro_rules | `(tactic| walk_at "ty") => `(tactic| first | exact .int _ | exact .bl _ | exact .tup (by assumption) | exact .lst (by assumption))
local macro_rules | `(tactic| walk_at "isT") => `(tactic| refine ⟨_, _, _, _, true, rfl, .ty _, .base (by walk_at "ty"), kit_ty (by decide +kernel), ?_⟩)
local macro_rules | `(tactic| walk_at "isF") => `(tactic| refine ⟨_, _, _, _, false, rfl, .ty _, .base (by walk_at "ty"), kit_ty (by decide +kernel), ?_⟩)
local macro_rules | `(tactic| walk_at "cell") => `(tactic| ((repeat walk_at "g1"); refine ⟨_, _, _, rfl, (by assumption), (by assumption), (by first | decide | omega), ?_⟩; repeat walk_at "g1"))
local macro_rules | `(tactic| walk_at "go") => `(tactic| repeat walk_at "g1")
def t_law_k01 (K : PySem.W.Frag) : TS :=
  (tSeq (tAsg (tCall (sp_net K) [] E0 (tCons (tVar 0) tNil)) (gTup K 2 (gCons (gName 1) (gCons (gName 2) gNil)))) (tSeq (tAsg (tCB (cList K) (tCons (tVar 2) tNil)) (gName 3)) (tSeq (tAsg (tMake (cNet K) (sp_Net_init K) [] E0 (tCons (tVar 1) (tCons (tVar 3) tNil))) (gName 4)) (tSeq (tIfS (tTest (tOp (rNeD K) (tVar 3) (tVar 2))) (tRet (tC (.bl false))) tNext) (tSeq (tDrop (tBM K "list" rAppend (tVar 3) (tCons (tTup (tCons (tC (.int 0)) (tCons (tC (.int 0)) tNil))) tNil))) (tSeq (tAsg (tCall (sp_both K) [] E0 (tCons (tVar 2) tNil)) (gName 5)) (tSeq (tAsg (tOp oSub (tOp oModN (tCall (sp_cell_at K) [] E0 (tCons (tVar 0) (tCons (tC (.int 4)) tNil))) (tOp oAdd (tVar 1) (tC (.int 4)))) (tC (.int 2))) (gName 6)) (tSeq (tAsg (tOp oSub (tOp oModN (tCall (sp_cell_at K) [] E0 (tCons (tVar 0) (tCons (tC (.int 5)) tNil))) (tOp oAdd (tVar 1) (tC (.int 4)))) (tC (.int 2))) (gName 7)) (Evl.tCut (tIfS (tTest (tOp rEq (tOp oMod (tOp oDiv (tCall (sp_cell_at K) [] E0 (tCons (tVar 0) (tCons (tC (.int 4)) tNil))) (tC (.int 30))) (tC (.int 7))) (tC (.int 1)))) (tAsg (tOp oAdd (tOp oMul (tOp oModN (tCall (sp_cell_at K) [] E0 (tCons (tVar 0) (tCons (tC (.int 5)) tNil))) (tOp oPow (tC (.int 10)) (tC (.int 30)))) (tOp (rIxL K) (tLst (tCons (tC (.int 1)) (tCons (tUn oNeg (tC (.int 1))) tNil))) (tOp oMod (tCall (sp_cell_at K) [] E0 (tCons (tVar 0) (tCons (tC (.int 5)) tNil))) (tC (.int 2))))) (tC (.int 60))) (gName 6)) tNext) (Evl.tCut (tIfS (tAnd (tTest (tOp rEq (tOp oMod (tCall (sp_cell_at K) [] E0 (tCons (tVar 0) (tCons (tC (.int 6)) tNil))) (tC (.int 2))) (tC (.int 1)))) (tNot (tB (tCall (sp_early_k01 K) [] E0 (tCons (tVar 4) (tCons (tVar 5) (tCons (tVar 1) (tCons (tCall (sp_cell_at K) [] E0 (tCons (tVar 0) (tCons (tC (.int 7)) tNil))) tNil)))))))) (tRet (tC (.bl false))) tNext) (tSeq (tAsg (tCB (rSortD K) (tCons (tLc (iList K (tCB cListT (tCons (tVar 5) tNil))) (gName 8) (tTest (tOp oLt (tOp (rIxT K) (tVar 8) (tC (.int 0))) (tOp (rIxT K) (tVar 8) (tC (.int 1))))) (tVar 8) [8]) tNil)) (gName 9)) (tSeq (tAsg (tMeth (cNet K) "pairs" (sp_Net_pairs K) [] E0 (tVar 4) tNil) (gName 10)) (tSeq (tIfS (tOr (tNot (tB (tCall (sp_whole K) [] E0 (tCons (tFld K (tVar 4) "many") tNil)))) (tOr (tTest (tOp rNe (tFld K (tVar 4) "many") (tVar 1))) (tNot (tB (tCall (sp_listed K) [] E0 (tCons (tVar 10) (tCons (tVar 9) tNil))))))) (tRet (tC (.bl false))) tNext) (tSeq (tIfS (tNot (tB (tCall (sp_kept_k01 K) [] E0 (tCons (tVar 4) (tCons (tVar 10) (tCons (tVar 9) tNil)))))) (tRet (tC (.bl false))) tNext) (tSeq (tAsg (tAndV (tOp oLe (tC (.int 0)) (tVar 6)) (tOp oLt (tVar 6) (tVar 1))) (gName 11)) (tSeq (tIfS (tOr (tNot (tB (tVar 11))) (tOr (tNot (tTest (tOp oLe (tC (.int 0)) (tVar 7)))) (tTest (tOp oGe (tVar 7) (tVar 1))))) (tRet (tAndV (tCall (sp_refused_k01 K) [] E0 (tCons (tVar 4) (tCons (tVar 6) (tCons (tVar 7) tNil)))) (tOrV (tVar 11) (tCall (sp_alone K) [] E0 (tCons (tVar 4) (tCons (tVar 6) tNil)))))) tNext) (tSeq (tAsg (tMeth (cNet K) "tied" (sp_Net_tied K) [] E0 (tVar 4) (tCons (tVar 6) (tCons (tVar 7) tNil))) (gName 12)) (tSeq (tAsg (tMeth (cNet K) "near" (sp_Net_near K) [] E0 (tVar 4) (tCons (tVar 6) tNil)) (gName 13)) (tSeq (tIfS (tOr (tNot (tB (tCB (rIsi K) (tCons (tVar 12) (tCons (tC (.ty "bool")) tNil))))) (tTest (tOp rNe (tVar 12) (tDIn (tTup (tCons (tVar 6) (tCons (tVar 7) tNil))) (tVar 5))))) (tRet (tC (.bl false))) tNext) (tSeq (tAsg (tCB (cList K) (tCons (tVar 13) tNil)) (gName 14)) (tSeq (tIfS (tNot (tB (tCall (sp_listed K) [] E0 (tCons (tVar 13) (tCons (tLc (iRng1 (tCons (tVar 1) tNil)) (gName 15) (tB (tDIn (tTup (tCons (tVar 6) (tCons (tVar 15) tNil))) (tVar 5))) (tVar 15) [15]) tNil))))) (tRet (tC (.bl false))) tNext) (tSeq (tAsg (tLc (iRng1 (tCons (tVar 1) tNil)) (gName 15) (tB (tDIn (tTup (tCons (tVar 7) (tCons (tVar 15) tNil))) (tVar 5))) (tVar 15) [15]) (gName 16)) (tSeq (tIfS (tOr (tTest (tOp (rNeD K) (tMeth (cNet K) "near" (sp_Net_near K) [] E0 (tVar 4) (tCons (tVar 7) tNil)) (tVar 16))) (tTest (tOp (rNeD K) (tVar 13) (tVar 14)))) (tRet (tC (.bl false))) tNext) (tSeq (tDrop (tBM0 K "list" rClear (tVar 13))) (tRet (tAndV (tOp (rEqD K) (tMeth (cNet K) "near" (sp_Net_near K) [] E0 (tVar 4) (tCons (tVar 6) tNil)) (tVar 14)) (tOp rEq (tFld K (tVar 4) "many") (tVar 1))))))))))))))))))))))))))))
variable {K : PySem.W.Frag} {vs : List V} {H : Hp} {Q : VK} {E : XK}
theorem len_law_k01 (h : sp_law_k01 K vs H Q E) : vs.length = 1 := by
  obtain ⟨a, ns, rfl, _⟩ := h
  rfl
theorem mod2_ex (c : Int) (u v : V) : ∃ w, atI [u, v] (c % 2) = some w ∧ (w = u ∨ w = v) := by
  have h1 := Int.emod_nonneg c (show (2 : Int) ≠ 0 by decide)
  have h2 := Int.emod_lt_of_pos c (show (0 : Int) < 2 by decide)
  by_cases z : c % 2 = 0
  · rw [z]
    exact ⟨u, at0, .inl rfl⟩
  · have : c % 2 = 1 := by omega
    rw [this]
    exact ⟨v, at1, .inr rfl⟩
theorem ld_is {H : Hp} {a : Addr} {ns : List Int} (h : H a = some (.lst (ns.map .int))) (hl : ns.length ≤ 100000) : LD H 1 (.ref a) (ns.map .int) := by
  refine ⟨a, _, rfl, h, by rw [List.length_map]; exact hl, ?_⟩
  clear h hl
  induction ns with
  | nil => exact .nil
  | cons n ns ih => exact .cons (.inl ⟨n, rfl, rfl⟩) ih
theorem near_few (n : Nat) (P : Int → Bool) : (((List.range n).map Int.ofNat).filter P).length ≤ n :=
  Nat.le_trans (List.length_filter_le _ _) (by rw [List.length_map, List.length_range]; exact Nat.le_refl _)
theorem pure_law_k01 (N : NetC K) (h : sp_law_k01 K vs H Q E) : t_law_k01 K (ends Q) (st 17 vs) H := by
  obtain ⟨a, ns, rfl, hs, hl, qf⟩ := h
  walk_at "go"
  refine ⟨a, ns, rfl, hs, hl, fun n ps t tl H1 xs hn _ T _ _ _ s1 e1 f1 tt => ?_⟩
  refine ⟨_, _, rfl, SqT.of e1, rfl, _, _, rfl, _, _, rfl, rfl, ?_⟩
  have few := T.few hn
  walk_at "go"
  refine ⟨_, _, rfl, .inl (SqL.of f1), ?_⟩
  refine fun he nhe => ?_
  generalize e2 : upd _ he _ = H2
  have s2 := Same.of_eq e2 nhe
  replace e2 := new_at e2
  walk_at "go"
  refine fun x4 dx4 n1 n2 n3 => make_at n1 n2 n3 rfl e2 (tt.mono s2.tk) T hn fun H4 s4 nw4 => ⟨rfl, ?_⟩
  have s14 := s2.trans s4
  have he4 := s4 _ _ e2
  walk_at "go"
  refine ⟨_, _, dp_tl (SqL.of he4) (tt.mono s14.tk), dp_tl (SqL.of (s14 _ _ f1)) (tt.mono s14.tk), shaped_dIs _, shaped_dIs _, ?_⟩
  rw [eqv_same]
  walk_at "go"
  refine ⟨.inl ⟨rfl, _, SqL.of he4⟩, ?_⟩
  walk_at "go"
  refine fun t5 nt5 => ?_
  generalize e5 : upd _ t5 _ = H5
  have s5 := Same.of_eq e5 nt5
  replace e5 := new_at e5
  have he5 := s5 _ _ he4
  have lx : xs.length ≤ 1000 := by rw [paired_len tt, List.length_map]; omega
  refine ⟨he, _, _, rfl, rfl, he5, lin' (by omega), ?_⟩
  have nwF := (nw4.mono s5).lst (ys := xs ++ [V.ref t5]) he5
  have sF : Same H1 (upd H5 he (.lst (xs ++ [V.ref t5]))) := fun b u e => by
    rw [upd_ne (ne_of_none e nhe)]
    exact s5 _ _ (s14 _ _ e)
  generalize upd H5 he (.lst (xs ++ [V.ref t5])) = F at nwF sF ⊢
  clear nw4 e2 he4 he5 s5 s4 s2 s14 e5 n1 n2 n3
  have hsF := sF.seq (s1.seq hs)
  walk_at "go"
  refine ⟨tl, xs, ps, rfl, sF _ _ f1, tt.mono sF.tk, by omega, fun l d H6 B _ s6 e6 => ?_⟩
  have g := T.good B
  have fl := g.few hn
  have pm : (bothL [] ps).Perm l := (bothL_ok ps).perm' B
  have nw6 := nwF.mono s6
  have hs6 := s6.seq hsF
  generalize bothL [] ps = l' at nw6 pm
  clear nwF hsF hs e1 f1 tt sF s6
  walk_at "cell"
  refine ⟨by show (n : Int) + 4 ≠ 0; omega, ?_⟩
  try dsimp only
  walk_at "cell"
  refine ⟨by show (n : Int) + 4 ≠ 0; omega, ?_⟩
  try dsimp only
  walk_at "go"
  refine ⟨fun σ G => ∃ x y : Int, σ = [some (.ref a), some (.int n), some (.ref tl), some (.ref he), some (.ref x4), some (.ref d), some (.int x), some (.int y), none, none, none, none, none, none, none, none, none] ∧ Same H6 G, ?_, ?_⟩
  · walk_at "cell"
    refine ⟨rfl, _, rfl, iteE (fun c => ?_) fun c => ?_⟩
    · walk_at "cell"
      refine fun t7 nt7 => ?_
      generalize e7 : upd _ t7 _ = H7
      have s7 := Same.of_eq e7 nt7
      replace e7 := new_at e7
      have hs7 := s7.seq hs6
      walk_at "cell"
      obtain ⟨w, hw, ww⟩ := mod2_ex (ns.getD (Int.toNat 5) 0) (.int 1) (.int (-1))
      obtain ⟨z, rfl, zz⟩ : ∃ z : Int, w = .int z ∧ -(2 ^ 64) < z ∧ z < 2 ^ 64 := by
        rcases ww with rfl | rfl
        · exact ⟨1, rfl, by decide, by decide⟩
        · exact ⟨-1, rfl, by decide, by decide⟩
      refine ⟨t7, _, _, _, rfl, rfl, SqL.of e7, hw, ?_⟩
      refine ⟨_, _, rfl, rfl, .inr zz, ?_⟩
      walk_at "go"
      exact ⟨_, _, rfl, s7⟩
    · walk_at "go"
      exact ⟨_, _, rfl, Same.refl _⟩
  rintro σ G ⟨x, y, rfl, s7⟩
  have nw7 := nw6.mono s7
  have d7 := s7 _ _ e6
  have hs7 := s7.seq hs6
  clear nw6 hs6 e6 s7
  walk_at "go"
  refine ⟨fun σ G' => σ = [some (.ref a), some (.int n), some (.ref tl), some (.ref he), some (.ref x4), some (.ref d), some (.int x), some (.int y), none, none, none, none, none, none, none, none, none] ∧ Same G G', ?_, ?_⟩
  · walk_at "cell"
    refine ⟨rfl, _, rfl, iteE (fun c => ?_) fun c => ?_⟩
    · walk_at "cell"
      refine ⟨.ref x4, n, l, l', d, _, rfl, nw7, d7, pm, fun H8 s8 => ?_⟩
      walk_at "go"
      exact ⟨rfl, s8⟩
    · walk_at "go"
      exact ⟨rfl, Same.refl _⟩
  rintro σ H8 ⟨rfl, s8⟩
  have nw8 := nw7.mono s8
  have d8 := s8 _ _ d7
  clear hs7 nw7 d7 s8
  refine seq_asg (pairs_lc (d := d) (l := l) (by show 8 < 17; decide) rfl B.nd (by omega) d8 fun p9 H9 ys qs P9 f9 np9 s9 e9 ty => ?_)
  obtain ⟨o, dx, dd, eo, hO, hd', g', hn', nf⟩ := nw8.obj
  walk_at "go"
  refine ⟨o, dx, _, eo, s9 _ _ hO, nf _ (by decide +kernel) (by decide +kernel), ?_⟩
  walk_at "go"
  refine ⟨_, n, l', rfl, nw8.mono s9, fun p10 H10 zs us P10 f10 np10 s10 e10 tz => ?_⟩
  rw [P10.same pm P9] at tz
  have s910 := s9.trans s10
  walk_at "go"
  refine ⟨o, _, dx, _, _, eo, s910 _ _ hO, N.cl, N.nM, nflds_many _ _, ?_⟩
  walk_at "go"
  refine ⟨o, _, dx, _, _, eo, s910 _ _ hO, N.cl, N.nM, nflds_many _ _, ?_⟩
  walk_at "go"
  refine ⟨rfl, _, rfl, ?_⟩
  rw [decide_eq_true rfl]
  walk_at "go"
  have e9' := s10 _ _ e9
  have ty' := ty.mono s10.tk
  refine ⟨_, _, _, rfl, ld_ps e10 tz (by omega), ld_ps e9' ty' (by omega), fun H11 s11 => ?_⟩
  have nw11 := (nw8.mono s910).mono s11
  have d11 := s11 _ _ (s910 _ _ d8)
  have e10' := s11 _ _ e10
  walk_at "go"
  refine ⟨.ref x4, n, l', p10, p9, zs, ys, qs, rfl, nw11, e10', tz.mono s11.tk, fun z => ?_, s11 _ _ e9', ty'.mono s11.tk, ⟨P9.1, fun a b => (P9.2 a b).trans (and_congr_left fun _ => pm.mem_iff.symm)⟩, by omega, fun H12 b12 => ?_⟩
  · rw [z, e9] at np10
    cases np10
  have nw12 := nw11.but e10' b12
  have d12 := b12 _ _ (fun z => by rw [z, e10'] at d11; cases d11) d11
  clear nw11 d11 e10' tz ty ty' e9' e9 e10 nf eo hO hd' d8 nw8
  obtain ⟨o, dx, dd, eo, hO, hd', g', hn', nf⟩ := nw12.obj
  walk_at "go"
  refine iteD (fun c1 => ?_) fun c1 => ?_
  rotate_left
  · walk_at "go"
    refine ⟨.ref x4, n, l', x, y, rfl, nw12, fun z => c1 z.1.1, fun H13 s13 => ?_⟩
    walk_at "go"
    exact ⟨.ref x4, n, l', x, rfl, nw12.mono s13, fun z => c1 z.1, fun H14 s14 => qf _⟩
  walk_at "go"
  refine iteDn (fun c2 => ?_) fun c2 => ?_
  · walk_at "go"
    refine ⟨.ref x4, n, l', x, y, rfl, nw12, fun z => c2 z.1.2, fun H13 s13 => ?_⟩
    walk_at "go"
    refine iteD (fun z => absurd z c2) fun _ => ?_
    walk_at "go"
    exact ⟨.ref x4, n, l', x, rfl, nw12.mono s13, fun z => c2 z.2, fun H14 s14 => qf _⟩
  walk_at "go"
  refine iteDn (fun c3 => ?_) fun c3 => ?_
  · walk_at "go"
    refine ⟨.ref x4, n, l', x, y, rfl, nw12, fun z => c3 z.2.1, fun H13 s13 => ?_⟩
    walk_at "go"
    refine iteD (fun _ => ?_) fun z => absurd c2 z
    exact qf _
  walk_at "go"
  refine iteD (fun c4 => ?_) fun c4 => ?_
  · walk_at "go"
    refine ⟨.ref x4, n, l', x, y, rfl, nw12, fun z => by have := z.2.2; omega, fun H13 s13 => ?_⟩
    walk_at "go"
    refine iteD (fun _ => ?_) fun z => absurd c2 z
    exact qf _
  have ix : 0 ≤ x ∧ x < n := ⟨c1, c2⟩
  have iy : 0 ≤ y ∧ y < n := ⟨c3, by omega⟩
  walk_at "go"
  refine ⟨o, dx, _, eo, hO, nf _ (by decide +kernel) (by decide +kernel), ?_⟩
  walk_at "go"
  refine ⟨_, n, l', x, y, rfl, nw12, fun _ H13 s13 => ?_, fun z => absurd ⟨ix, iy⟩ z⟩
  walk_at "go"
  refine ⟨o, dx, _, eo, s13 _ _ hO, nf _ (by decide +kernel) (by decide +kernel), ?_⟩
  walk_at "go"
  refine ⟨_, n, l', x, rfl, nw12.mono s13, fun _ p14 H14 ms em np14 s14 e14 => ?_, fun z => absurd ix z⟩
  have s124 := s13.trans s14
  walk_at "go"
  walk_at "isT"
  walk_at "go"
  refine fun t15 nt15 => ?_
  generalize e15 : upd _ t15 _ = H15
  have s15 := Same.of_eq e15 nt15
  replace e15 := new_at e15
  walk_at "go"
  have s125 := s124.trans s15
  refine ⟨_, _, rfl, DGet.t (k := kp (x, y)) (s125 _ _ d12) e15, ?_⟩
  rw [some_hk, mem_perm pm]
  refine ⟨rfl, _, rfl, ?_⟩
  rw [decide_eq_true rfl]
  walk_at "go"
  refine ⟨_, _, rfl, .inl (SqL.of (s15 _ _ e14)), ?_⟩
  refine fun h16 nh16 => ?_
  generalize e16 : upd _ h16 _ = H16
  have s16 := Same.of_eq e16 nh16
  replace e16 := new_at e16
  have s126 := s125.trans s16
  have s146 := s15.trans s16
  refine ⟨_, rfl, ?_⟩
  try dsimp only
  refine cons_arg (near_lc (n := n) (d := d) (l := l) (a := x) rfl (by show 15 < 17; decide) (by decide) rfl (by omega) (s126 _ _ d12) (fun i G Q' _ h => ⟨_, rfl, h⟩) fun p17 H17 ks ek np17 s17 e17 => ?_)
  rw [near_perm pm, ← ek] at em
  subst em
  have lm := near_few n (fun v => decide ((x, v) ∈ l))
  rw [← ek] at lm
  walk_at "go"
  refine ⟨_, _, _, rfl, ld_is ((s146.trans s17) _ _ e14) (by omega), ld_is e17 (by omega), fun H18 s18 => ?_⟩
  have s128 := (s126.trans s17).trans s18
  have s148 := (s146.trans s17).trans s18
  have s168 := s17.trans s18
  refine ⟨true, rfl, iteFa (by rfl) ?_⟩
  refine seq_asg (near_lc (n := n) (d := d) (l := l) (a := y) rfl (by show 15 < 17; decide) (by decide) rfl (by omega) (s128 _ _ d12) (fun i G Q' _ h => ⟨_, rfl, h⟩) fun p19 H19 ks9 ek9 np19 s19 e19 => ?_)
  have s129 := s128.trans s19
  walk_at "go"
  refine ⟨o, dx, _, eo, s129 _ _ hO, nf _ (by decide +kernel) (by decide +kernel), ?_⟩
  walk_at "go"
  refine ⟨_, n, l', y, rfl, nw12.mono s129, fun _ p20 H20 ms20 em20 np20 s20 e20 => ?_, fun z => absurd iy z⟩
  rw [near_perm pm, ← ek9] at em20
  subst em20
  walk_at "go"
  refine ⟨_, _, dp_il (SqL.of e20), dp_il (SqL.of (s20 _ _ e19)), shaped_ints _, shaped_ints _, ?_⟩
  rw [eqv_same_i]
  have s140 := (s148.trans s19).trans s20
  have s160 := (s168.trans s19).trans s20
  walk_at "go"
  refine ⟨_, _, dp_il (SqL.of (s140 _ _ e14)), dp_il (SqL.of (s160 _ _ e16)), shaped_ints _, shaped_ints _, ?_⟩
  rw [eqv_same_i]
  walk_at "go"
  have e14' := s140 _ _ e14
  refine ⟨.inl ⟨rfl, _, SqL.of e14'⟩, p14, _, rfl, rfl, e14', ?_⟩
  have s120 := s129.trans s20
  have nwE := (nw12.mono s120).lst (ys := []) e14'
  have e16' : upd H20 p14 (.lst []) h16 = some (.lst (ms.map .int)) := by
    rw [upd_ne (fun z => by rw [z, s15 _ _ e14] at nh16; cases nh16)]
    exact s160 _ _ e16
  generalize upd H20 p14 (.lst []) = F2 at nwE e16' ⊢
  obtain ⟨o2, dx2, dd2, eo2, hO2, hd2, g2, hn2, nf2⟩ := nwE.obj
  walk_at "go"
  refine ⟨o2, dx2, _, eo2, hO2, nf2 _ (by decide +kernel) (by decide +kernel), ?_⟩
  walk_at "go"
  refine ⟨_, n, l', x, rfl, nwE, fun _ p21 H21 ms21 em21 np21 s21 e21 => ?_, fun z => absurd ix z⟩
  rw [near_perm pm, ← ek] at em21
  subst em21
  walk_at "go"
  refine ⟨_, _, dp_il (SqL.of e21), dp_il (SqL.of (s21 _ _ e16')), shaped_ints _, shaped_ints _, ?_⟩
  rw [eqv_same_i]
  walk_at "go"
  refine ⟨o2, _, dx2, _, _, eo2, s21 _ _ hO2, N.cl, N.nM, nflds_many _ _, ?_⟩
  walk_at "go"
  refine ⟨rfl, ?_⟩
  rw [decide_eq_true rfl]
  exact qf _
end Ar
namespace Ar
open PySem PySem.Spec L2
local macro_rules | `(tactic| walk_at "g1") => `(tactic| first
  | refine ⟨_, rfl, ?_⟩
  | refine ⟨_, _, rfl, rfl, ?_⟩
  | refine ⟨(by show (0 : Int) < _; decide), ?_⟩
  | refine ⟨⟨by decide, by decide⟩, ?_⟩
  | refine ⟨(show CMul _ _ from .inl ⟨by omega, by omega⟩), ?_⟩
  | refine ⟨(show CMul _ _ from .inr ⟨by omega, by omega⟩), ?_⟩
  | refine ⟨(show (_ : Int) ≠ 0 by decide), ?_⟩
  | refine ⟨sz2, ?_⟩
  | refine ⟨sz0, ?_⟩
  | refine ⟨sz3, ?_⟩)
local macro_rules | `(tactic| walk_at "ty") => `(tactic| first | exact .int _ | exact .bl _ | exact .tup (by assumption) | exact .lst (by assumption))
local macro_rules | `(tactic| walk_at "isT") => `(tactic| refine ⟨_, _, _, _, true, rfl, .ty _, .base (by walk_at "ty"), kit_ty (by decide +kernel), ?_⟩)
local macro_rules | `(tactic| walk_at "isF") => `(tactic| refine ⟨_, _, _, _, false, rfl, .ty _, .base (by walk_at "ty"), kit_ty (by decide +kernel), ?_⟩)
local macro_rules | `(tactic| walk_at "cell") => `(tactic| ((repeat walk_at "g1"); refine ⟨_, _, _, rfl, (by assumption), (by assumption), (by first | decide | omega), ?_⟩; repeat walk_at "g1"))
local macro_rules | `(tactic| walk_at "go") => `(tactic| repeat walk_at "g1")
def t_less (K : PySem.W.Frag) : TS :=
  (tRet (tOp oSub (tVar 0) (tCB cInt1 (tCons (tOp oGt (tVar 0) (tVar 1)) tNil))))
def t_refused_by_any (K : PySem.W.Frag) : TS :=
  (tSeq (tTryAs K (.ref (He.ga K "NoPoint")) 2 (fun W => (tDrop (tCallS (sp_lessened K) (WE W) (tCons (tVar 0) (tCons (tVar 1) tNil))))) (fun a cls d => (tRet (tCallE (sp_only K) a cls d (tCons (tVar 2) (tCons (tC (.int 1)) tNil)))))) (tRet (tC (.bl false))))
def t_told_k03 (K : PySem.W.Frag) : TS :=
  (tSeq (tAsg (tCall (sp_both K) [] E0 (tCons (tVar 2) tNil)) (gName 3)) (tSeq (tAsg (tLc (iRng1 (tCons (tVar 1) tNil)) (gName 4) (tB (tDIn (tTup (tCons (tOp oSub (tVar 1) (tC (.int 1))) (tCons (tVar 4) tNil))) (tVar 3))) (tVar 4) [4]) (gName 5)) (Evl.tCut (tIfS (tAnd (tTest (tOp rEq (tOp oMod (tCB (cLen K) (tCons (tVar 2) tNil)) (tC (.int 2))) (tC (.int 1)))) (tTest (tOp (rNeD K) (tMeth (cNet K) "near" (sp_Net_near K) [] E0 (tVar 0) (tCons (tOp oSub (tVar 1) (tC (.int 1))) tNil)) (tVar 5)))) (tRet (tC (.bl false))) tNext) (tSeq (tAsg (tMeth (cNet K) "pairs" (sp_Net_pairs K) [] E0 (tVar 0) tNil) (gName 6)) (tSeq (tAsg (tCB (cList K) (tCons (tVar 6) tNil)) (gName 7)) (tSeq (tIfS (tOr (tNot (tB (tCall (sp_whole K) [] E0 (tCons (tFld K (tVar 0) "many") tNil)))) (tOr (tTest (tOp rNe (tFld K (tVar 0) "many") (tVar 1))) (tNot (tB (tCall (sp_listed K) [] E0 (tCons (tVar 6) (tCons (tVar 2) tNil))))))) (tRet (tC (.bl false))) tNext) (tSeq (tFor (iRng1 (tCons (tVar 1) tNil)) (gName 8) (tSeq (tIfS (tTest (tOp (rNeD K) (tMeth (cNet K) "near" (sp_Net_near K) [] E0 (tVar 0) (tCons (tVar 8) tNil)) (tLc (iRng1 (tCons (tVar 1) tNil)) (gName 4) (tB (tDIn (tTup (tCons (tVar 8) (tCons (tVar 4) tNil))) (tVar 3))) (tVar 4) [4]))) (tRet (tC (.bl false))) tNext) (tSeq (tAsg (tOp oModN (tOp oAdd (tOp oMul (tVar 8) (tC (.int 5))) (tC (.int 1))) (tVar 1)) (gName 9)) (tIfS (tTest (tOp (rNeD K) (tLst (tCons (tMeth (cNet K) "tied" (sp_Net_tied K) [] E0 (tVar 0) (tCons (tVar 8) (tCons (tVar 9) tNil))) (tCons (tMeth (cNet K) "tied" (sp_Net_tied K) [] E0 (tVar 0) (tCons (tVar 9) (tCons (tVar 8) tNil))) tNil))) (tOp rRep (tLst (tCons (tDIn (tTup (tCons (tVar 8) (tCons (tVar 9) tNil))) (tVar 3)) tNil)) (tC (.int 2))))) (tRet (tC (.bl false))) tNext)))) (tRet (tAndV (tOp (rEqD K) (tVar 6) (tVar 7)) (tOp (rEqD K) (tMeth (cNet K) "pairs" (sp_Net_pairs K) [] E0 (tVar 0) tNil) (tVar 7)))))))))))
def t_second_k03 (K : PySem.W.Frag) : TS :=
  (tSeq (tAsg (tLst tNil) (gName 4)) (tSeq (tFor (iList K (tCB (rSortD K) (tCons (tCB cListT (tCons (tVar 1) tNil)) tNil))) (gName 5) (tIfS (tAnd (tTest (tOp oLt (tOp (rIxT K) (tVar 5) (tC (.int 0))) (tOp (rIxT K) (tVar 5) (tC (.int 1))))) (tTest (tOp (rIn K true) (tVar 3) (tVar 5)))) (tDrop (tBM K "list" rAppend (tVar 4) (tCons (tTup (tCons (tCall (sp_less K) [] E0 (tCons (tOp (rIxT K) (tVar 5) (tC (.int 0))) (tCons (tVar 3) tNil))) (tCons (tCall (sp_less K) [] E0 (tCons (tOp (rIxT K) (tVar 5) (tC (.int 1))) (tCons (tVar 3) tNil))) tNil))) tNil))) tNext)) (tRet (tCall (sp_told_k03 K) [] E0 (tCons (tCall (sp_lessened K) [] E0 (tCons (tVar 0) (tCons (tVar 3) tNil))) (tCons (tOp oSub (tVar 2) (tC (.int 1))) (tCons (tVar 4) tNil)))))))
variable {K : PySem.W.Frag} {vs : List V} {H : Hp} {Q : VK} {E : XK}
theorem len_less (h : sp_less K vs H Q E) : vs.length = 2 := by
  obtain ⟨x, p, rfl, _⟩ := h
  rfl
theorem pure_less (h : sp_less K vs H Q E) : t_less K (ends Q) (st 2 vs) H := by
  obtain ⟨x, p, rfl, q⟩ := h
  walk_at "go"
  refine .inr ⟨_, rfl, ?_⟩
  walk_at "go"
  rw [ifd]
  exact q
theorem len_refused_by_any (h : sp_refused_by_any K vs H Q E) : vs.length = 2 := by
  obtain ⟨v, n, l, p, rfl, _⟩ := h
  rfl
theorem pure_refused_by_any (ex : PySem.W.exmOne K (.ref (He.ga K "NoPoint")) (.ref (He.ga K "NoPoint")) = some true) (h : sp_refused_by_any K vs H Q E) : t_refused_by_any K (ends Q) (st 3 vs) H := by
  obtain ⟨v, n, l, p, rfl, nw, no, q⟩ := h
  walk_at "go"
  refine ⟨v, n, l, p, rfl, nw, fun _ => ⟨true, ex, fun _ a ha => ?_, fun z => (nomatch z)⟩, fun c => absurd c no⟩
  walk_at "go"
  exact ⟨rfl, 1, 1, by decide, by decide, rfl, rfl, fun H2 s2 => q H2 s2⟩
theorem len_told_k03 (h : sp_told_k03 K vs H Q E) : vs.length = 3 := by
  obtain ⟨v, n, l, b, ys, qs, rfl, _⟩ := h
  rfl
theorem bools_eqv (x y : Bool) : PyData.eqv (.list [.bool x, .bool y]) (.list [.bool x, .bool y]) = true := by
  cases x <;> cases y <;> rfl
theorem pure_told_k03 (N : NetC K) (h : sp_told_k03 K vs H Q E) : t_told_k03 K (ends Q) (st 10 vs) H := by
  obtain ⟨v, n, l, b, ys, qs, rfl, nw, hb, ty, P, few, q⟩ := h
  have ly : ys.length = qs.length := by rw [paired_len ty]; simp
  have nw0 := nw
  obtain ⟨o, dx, d', rfl, hO, hd', g, hn, nf⟩ := nw.obj
  walk_at "go"
  refine ⟨b, ys, qs, rfl, hb, ty, few, fun l2 d H1 B _ s1 e1 => ?_⟩
  have pm : l.Perm l2 := (P.both g).perm' B
  refine seq_asg (near_lc (n := n) (d := d) (l := l2) (a := (n : Int) - 1) rfl (by show 4 < 10; decide) (by decide) rfl (by omega) e1 (fun i G Q' _ h => ⟨_, rfl, _, _, rfl, rfl, h⟩) fun p2' H2 ms em np s2 e2 => ?_)
  have s12 := s1.trans s2
  walk_at "go"
  refine ⟨fun σ G => σ = [some (.ref o), some (.int n), some (.ref b), some (.ref d), none, some (.ref p2'), none, none, none, none] ∧ Same H2 G, ?_, ?_⟩
  · walk_at "go"
    refine ⟨_, _, rfl, .inl (SqL.of (s12 _ _ hb)), ?_⟩
    walk_at "go"
    refine ⟨rfl, _, rfl, iteE (fun c => ?_) fun c => ?_⟩
    · have n1 : 0 ≤ (n : Int) - 1 ∧ (n : Int) - 1 < n := by
        have c' : (ys.length : Int) % 2 = 1 := c
        have : qs ≠ [] := fun z => by rw [z] at ly; rw [ly] at c'; simp at c'
        obtain ⟨x, hx⟩ := List.exists_mem_of_ne_nil _ this
        have := g.rng _ _ ((P.2 x.1 x.2).mp hx).1
        omega
      walk_at "go"
      refine ⟨o, dx, _, rfl, s12 _ _ hO, nf _ (by decide +kernel) (by decide +kernel), ?_⟩
      walk_at "go"
      refine ⟨_, n, l, (n : Int) - 1, rfl, nw0.mono s12, fun _ p3 H3 ns3 en np3 s3 e3 => ?_, fun z => absurd n1 z⟩
      rw [near_perm pm, ← em] at en
      subst en
      walk_at "go"
      refine ⟨_, _, dp_il (SqL.of e3), dp_il (SqL.of (s3 _ _ e2)), shaped_ints _, shaped_ints _, ?_⟩
      rw [eqv_same_i]
      walk_at "go"
      exact ⟨rfl, s3⟩
    · walk_at "go"
      exact ⟨rfl, Same.refl _⟩
  rintro σ G ⟨rfl, s3⟩
  have sG := s12.trans s3
  have dG := s3 _ _ (s2 _ _ e1)
  have nwG := nw0.mono sG
  have hOG := sG _ _ hO
  have hbG := sG _ _ hb
  have tyG := ty.mono sG.tk
  clear e2 em np s1 s2 s3 s12 e1 nw0 nw hO hb ty hd'
  walk_at "go"
  refine ⟨o, dx, _, rfl, hOG, nf _ (by decide +kernel) (by decide +kernel), ?_⟩
  walk_at "go"
  refine ⟨_, n, l, rfl, nwG, fun p10 H10 zs us P10 f10 np10 s10 e10 tz => ?_⟩
  rw [P10.same (.refl _) P] at tz
  walk_at "go"
  refine ⟨_, _, rfl, .inl (SqL.of e10), ?_⟩
  refine fun h11 nh11 => ?_
  generalize e11 : upd _ h11 _ = H11
  have s11 := Same.of_eq e11 nh11
  replace e11 := new_at e11
  have s1011 := s10.trans s11
  walk_at "go"
  refine ⟨o, _, dx, _, _, rfl, s1011 _ _ hOG, N.cl, N.nM, nflds_many _ _, ?_⟩
  walk_at "go"
  refine ⟨o, _, dx, _, _, rfl, s1011 _ _ hOG, N.cl, N.nM, nflds_many _ _, ?_⟩
  walk_at "go"
  refine ⟨rfl, _, rfl, ?_⟩
  rw [decide_eq_true rfl]
  walk_at "go"
  refine ⟨_, _, _, rfl, ld_ps (s11 _ _ e10) (tz.mono s11.tk) (by omega), ld_ps (s1011 _ _ hbG) (tyG.mono s1011.tk) (by omega), fun H12 s12 => ?_⟩
  have sA := s1011.trans s12
  have dA := sA _ _ dG
  have nwA := nwG.mono sA
  have e10A := s12 _ _ (s11 _ _ e10)
  have e11A := s12 _ _ e11
  have tzA := tz.mono (s11.trans s12).tk
  have sGA := sG.trans sA
  clear dG nwG hbG tyG tz e10 e11 s10 s11 s1011 s12 hOG sG sA
  obtain ⟨o, dx, d', eo, hO, hd', g, hn, nf⟩ := nwA.obj
  cases eo
  walk_at "go"
  refine ⟨by omega, by omega, for_n (n := ((n : Int)).toNat) (fun i σ G2 => ∃ (o8 o9 : Option V), σ = [some (.ref o), some (.int n), some (.ref b), some (.ref d), none, some (.ref p2'), some (.ref p10), some (.ref h11), o8, o9] ∧ Same H12 G2)
    ⟨_, _, rfl, Same.refl _⟩ ?_ ?_⟩
  · rintro i σ G2 hi ⟨o8, o9, rfl, sG2⟩
    have iin : 0 ≤ (i : Int) ∧ (i : Int) < n := by omega
    walk_at "go"
    refine ⟨o, dx, _, rfl, sG2 _ _ hO, nf _ (by decide +kernel) (by decide +kernel), ?_⟩
    walk_at "go"
    refine ⟨_, n, l, i, rfl, nwA.mono sG2, fun _ p3 H3 ns3 en np3 s3 e3 => ?_, fun z => absurd iin z⟩
    try dsimp only
    refine near_lc (n := n) (d := d) (l := l2) (a := (i : Int)) rfl (by show 4 < 10; decide) (by decide) rfl (by omega) ((sG2.trans s3) _ _ dA) (fun i G Q' _ h => ⟨_, rfl, h⟩) fun p4 H4 ms em np4 s4 e4 => ?_
    rw [near_perm pm, ← em] at en
    subst en
    refine ⟨_, _, dp_il (SqL.of (s4 _ _ e3)), dp_il (SqL.of e4), shaped_ints _, shaped_ints _, ?_⟩
    rw [eqv_same_i]
    walk_at "go"
    refine ⟨by show (n : Int) ≠ 0; omega, ?_⟩
    try dsimp only
    rw [fmod_pos _ (by omega : (0 : Int) < (n : Int))]
    have oin : 0 ≤ ((i : Int) * 5 + 1) % (n : Int) ∧ ((i : Int) * 5 + 1) % (n : Int) < n := ⟨Int.emod_nonneg _ (by omega), Int.emod_lt_of_pos _ (by omega)⟩
    generalize ((i : Int) * 5 + 1) % (n : Int) = k at oin
    have s24 := (sG2.trans s3).trans s4
    walk_at "go"
    refine ⟨o, dx, _, rfl, s24 _ _ hO, nf _ (by decide +kernel) (by decide +kernel), ?_⟩
    walk_at "go"
    refine ⟨_, n, l, i, k, rfl, nwA.mono s24, fun _ H5 s5 => ?_, fun z => absurd ⟨iin, oin⟩ z⟩
    have s25 := s24.trans s5
    walk_at "go"
    refine ⟨o, dx, _, rfl, s25 _ _ hO, nf _ (by decide +kernel) (by decide +kernel), ?_⟩
    walk_at "go"
    refine ⟨_, n, l, k, i, rfl, nwA.mono s25, fun _ H6 s6 => ?_, fun z => absurd ⟨oin, iin⟩ z⟩
    have s26 := s25.trans s6
    walk_at "go"
    refine fun a7 na7 => ?_
    generalize e7 : upd _ a7 _ = H7
    have s7 := Same.of_eq e7 na7
    replace e7 := new_at e7
    walk_at "go"
    refine fun t8 nt8 => ?_
    generalize e8 : upd _ t8 _ = H8
    have s8 := Same.of_eq e8 nt8
    replace e8 := new_at e8
    have s28 := (s26.trans s7).trans s8
    walk_at "go"
    refine ⟨_, _, rfl, DGet.t (k := kp ((i : Int), k)) (s28 _ _ dA) e8, ?_⟩
    walk_at "go"
    rw [some_hk]
    refine ⟨sz1, ?_⟩
    refine fun a9 na9 => ?_
    generalize e9 : upd _ a9 _ = H9
    have s9 := Same.of_eq e9 na9
    replace e9 := new_at e9
    walk_at "go"
    refine ⟨a9, _, _, rfl, rfl, e9, by decide, by decide, by show 1 * 2 ≤ sizeLine; decide, ?_⟩
    refine fun a10 na10 => ?_
    generalize e10 : upd _ a10 _ = H10
    have s10 := Same.of_eq e10 na10
    replace e10 := new_at e10
    have s710 := (s8.trans s9).trans s10
    have eb : decide ((k, (i : Int)) ∈ l) = decide (((i : Int), k) ∈ l) := by
      by_cases c : ((i : Int), k) ∈ l
      · rw [decide_eq_true c, decide_eq_true (g.sym _ _ c)]
      · rw [decide_eq_false c, decide_eq_false (fun z => c (g.sym _ _ z))]
    rw [eb] at e7
    rw [← mem_perm pm] at e10
    refine ⟨_, _, .lst (SqL.of (s710 _ _ e7)) (.cons (.bl _) (.cons (.bl _) .nil)), .lst (SqL.of e10) (.cons (.bl _) (.cons (.bl _) .nil)), by rfl, by rfl, ?_⟩
    rw [bools_eqv]
    walk_at "go"
    exact ⟨_, _, rfl, (((s28.trans s9).trans s10))⟩
  · rintro σ G2 ⟨o8, o9, rfl, sG2⟩
    walk_at "go"
    refine ⟨_, _, dp_tl (SqL.of (sG2 _ _ e10A)) (tzA.mono sG2.tk), dp_tl (SqL.of (sG2 _ _ e11A)) (tzA.mono sG2.tk), shaped_dIs _, shaped_dIs _, ?_⟩
    rw [eqv_same]
    walk_at "go"
    refine ⟨o, dx, _, rfl, sG2 _ _ hO, nf _ (by decide +kernel) (by decide +kernel), ?_⟩
    walk_at "go"
    refine ⟨_, n, l, rfl, nwA.mono sG2, fun p12 H13 zs12 us12 P12 f12 np12 s13 e13 tz13 => ?_⟩
    rw [P12.same (.refl _) P] at tz13
    walk_at "go"
    refine ⟨_, _, dp_tl (SqL.of e13) tz13, dp_tl (SqL.of ((sG2.trans s13) _ _ e11A)) (tzA.mono (sG2.trans s13).tk), shaped_dIs _, shaped_dIs _, ?_⟩
    rw [eqv_same]
    exact q _ ((sGA.trans sG2).trans s13)
theorem len_second_k03 (h : sp_second_k03 K vs H Q E) : vs.length = 4 := by
  obtain ⟨v, n, l, l', d, p, rfl, _⟩ := h
  rfl
theorem in2 (p a b : Int) : inV (.int p) [.int a, .int b] = decide (a = p ∨ b = p) := by
  show (eqV (.int a) (.int p) || (eqV (.int b) (.int p) || false)) = _
  show ((a == p) || ((b == p) || false)) = _
  by_cases h1 : a = p <;> by_cases h2 : b = p <;> simp [h1, h2]
theorem dn_iff {x y p : Int} : (x < y ∧ ¬ (x = p ∨ y = p)) ↔ (x < y ∧ x ≠ p ∧ y ≠ p) := by
  constructor
  · rintro ⟨h1, h2⟩
    exact ⟨h1, fun z => h2 (.inl z), fun z => h2 (.inr z)⟩
  · rintro ⟨h1, h2, h3⟩
    exact ⟨h1, fun z => z.elim h2 h3⟩
theorem pure_second_k03 (h : sp_second_k03 K vs H Q E) : t_second_k03 K (ends Q) (st 6 vs) H := by
  obtain ⟨v, n, l, l', d, p, rfl, nw, hd, pm, hp, q⟩ := h
  obtain ⟨o, dx, dd, rfl, hO, hd', g, hn, nf⟩ := nw.obj
  have gl := g.of_perm pm
  have fl := gl.few hn
  walk_at "go"
  refine fun dl ndl => ?_
  generalize e1 : upd _ dl _ = H1
  have s1 := Same.of_eq e1 ndl
  replace e1 := new_at e1
  try dsimp only
  refine sortK_lc (d := d) (l := l) rfl gl.nd (s1 _ _ hd) fun sp H2 xs ss rs ps np s2 e2 tx => ?_
  have lss : ss.length = l.length := ps.length_eq
  have s12 := s1.trans s2
  refine ⟨sp, rfl, ⟨_, SqL.of e2⟩, for_list (K := K) (a := sp) (xs := xs) (fun i σ G => ∃ (o5 : Option V) (ys : List V), σ = [some (.ref o), some (.ref d), some (.int n), some (.int p), some (.ref dl), o5] ∧ But dl H2 G ∧ G dl = some (.lst ys) ∧ TL G ys ((dueL p (ss.take i)).map p2))
    ⟨_, [], rfl, fun _ _ _ e => e, s2 _ _ e1, .nil⟩ (fun i σ G _ ⟨_, _, _, s, _⟩ => SqL.of (s _ _ (fun z => by rw [z, s2 _ _ e1] at e2; cases e2; exact absurd (s2 _ _ e1) (by rw [← z, np] at e1; cases e1)) e2)) ?_ ?_⟩
  · rintro i x σ G hx ⟨o5, ys, rfl, sG, hdl, ty⟩
    obtain ⟨r, hr, t, rfl, htr⟩ := TLp.at tx hx
    have ndl : t ≠ dl := fun z => by rw [z, s2 _ _ e1] at htr; cases htr
    have htG := sG _ _ ndl htr
    have hi := lt_of_get hr
    have lys : ys.length ≤ 1000 := by
      rw [paired_len ty, List.length_map]
      refine Nat.le_trans (dueL_few _ _) ?_
      rw [List.length_take]
      omega
    have no : ¬ (r.1 < r.2 ∧ r.1 ≠ p ∧ r.2 ≠ p) → ∃ (o5 : Option V) (ys : List V), [some (.ref o), some (.ref d), some (.int n), some (.int p), some (.ref dl), some (V.ref t)] = [some (.ref o), some (.ref d), some (.int n), some (.int p), some (.ref dl), o5] ∧ But dl H2 G ∧ G dl = some (.lst ys) ∧ TL G ys ((dueL p (ss.take (i + 1))).map p2) := fun c => by
      refine ⟨_, ys, rfl, sG, hdl, ?_⟩
      rw [take_snoc hr, dueL_snoc, if_neg c, List.append_nil]
      exact ty
    walk_at "go"
    refine ⟨_, _, _, _, rfl, rfl, SqT.of htG, at0, ?_⟩
    walk_at "go"
    refine ⟨_, _, _, _, rfl, rfl, SqT.of htG, at1, ?_⟩
    walk_at "go"
    refine iteD (fun c1 => ?_) fun c1 => no fun z => c1 z.1
    walk_at "go"
    refine ⟨t, _, rfl, .inr (SqT.of htG), rfl, by rfl, _, rfl, ?_⟩
    rw [if_pos rfl, in2]
    refine iteDn (fun c2 => ?_) fun c2 => no fun z => (dn_iff.mpr z).2 c2
    have c3 := dn_iff.mp ⟨c1, c2⟩
    walk_at "go"
    refine ⟨.inl ⟨rfl, _, SqL.of hdl⟩, ?_⟩
    walk_at "go"
    refine ⟨_, _, _, _, rfl, rfl, SqT.of htG, at0, ?_⟩
    walk_at "go"
    refine ⟨_, _, rfl, ?_⟩
    walk_at "go"
    refine ⟨_, _, _, _, rfl, rfl, SqT.of htG, at1, ?_⟩
    walk_at "go"
    refine ⟨_, _, rfl, ?_⟩
    walk_at "go"
    refine fun u nu => ?_
    generalize e3 : upd _ u _ = G3
    have s3 := Same.of_eq e3 nu
    replace e3 := new_at e3
    have hdl3 := s3 _ _ hdl
    refine ⟨dl, _, _, rfl, rfl, hdl3, lin' (by omega), ?_⟩
    have tkd : TK G3 (upd G3 dl (.lst (ys ++ [V.ref u]))) := TK.upd fun zs z => by rw [hdl3] at z; cases z
    refine ⟨_, _, rfl, fun b w nb e => ?_, upd_same, ?_⟩
    · rw [upd_ne nb]
      exact s3 _ _ (sG _ _ nb e)
    · rw [take_snoc hr, dueL_snoc, if_pos c3]
      exact tl_app (ty.mono (s3.tk.trans tkd)) (tl_one (tkd _ _ e3))
  · rintro σ G ⟨o5, ys, rfl, sG, hdl, ty⟩
    rw [show xs.length = ss.length by rw [paired_len tx]; simp, List.take_length] at ty
    have sA : Same H G := fun b w e => sG _ _ (ne_of_none e ndl) (s12 _ _ e)
    walk_at "go"
    refine ⟨_, n, l', p, rfl, nw.mono sA, fun c => absurd hp c, fun _ l3 w H3 L s3 nw3 => ?_⟩
    walk_at "go"
    have en : (n : Int) - 1 = ((n - 1 : Nat) : Int) := by omega
    try dsimp only
    rw [en]
    refine ⟨w, n - 1, l3, dl, ys, dueL p ss, rfl, nw3, s3 _ _ hdl, ty.mono s3.tk, dueL_pairs rs (fun x => ps.mem_iff) (L.perm pm), ?_, fun H4 s4 => q H4 (((sA.trans s3)).trans s4)⟩
    have := dueL_few p ss
    omega
end Ar
namespace Ar
open PySem PySem.Spec L2
local macro_rules | `(tactic| walk_at "g1") => `(tactic| first
  | refine ⟨_, rfl, ?_⟩
  | refine ⟨_, _, rfl, rfl, ?_⟩
  | refine ⟨(by show (0 : Int) < _; decide), ?_⟩
  | refine ⟨⟨by decide, by decide⟩, ?_⟩
  | refine ⟨(show CMul _ _ from .inl ⟨by omega, by omega⟩), ?_⟩
  | refine ⟨(show CMul _ _ from .inr ⟨by omega, by omega⟩), ?_⟩
  | refine ⟨(show (_ : Int) ≠ 0 by decide), ?_⟩
  | refine ⟨sz2, ?_⟩
  | refine ⟨sz0, ?_⟩
  | refine ⟨sz3, ?_⟩)
local macro_rules | `(tactic| walk_at "ty") => `(tactic| first | exact .int _ | exact .bl _ | exact .tup (by assumption) | exact .lst (by assumption))
local macro_rules | `(tactic| walk_at "isT") => `(tactic| refine ⟨_, _, _, _, true, rfl, .ty _, .base (by walk_at "ty"), kit_ty (by decide +kernel), ?_⟩)
local macro_rules | `(tactic| walk_at "isF") => `(tactic| refine ⟨_, _, _, _, false, rfl, .ty _, .base (by walk_at "ty"), kit_ty (by decide +kernel), ?_⟩)
local macro_rules | `(tactic| walk_at "cell") => `(tactic| ((repeat walk_at "g1"); refine ⟨_, _, _, rfl, (by assumption), (by assumption), (by first | decide | omega), ?_⟩; repeat walk_at "g1"))
local macro_rules | `(tactic| walk_at "go") => `(tactic| repeat walk_at "g1")
def t_law_k03 (K : PySem.W.Frag) : TS :=
  (tSeq (tAsg (tCall (sp_net K) [] E0 (tCons (tVar 0) tNil)) (gTup K 2 (gCons (gName 1) (gCons (gName 2) gNil)))) (tSeq (tAsg (tCall (sp_both K) [] E0 (tCons (tVar 2) tNil)) (gName 3)) (tSeq (tAsg (tMake (cNet K) (sp_Net_init K) [] E0 (tCons (tVar 1) (tCons (tCB (cList K) (tCons (tVar 2) tNil)) tNil))) (gName 4)) (tSeq (tAsg (tLst tNil) (gName 5)) (tSeq (tFor (iRng1 (tCons (tVar 1) tNil)) (gName 6) (tFor (iRng2 (tCons (tOp oAdd (tVar 6) (tC (.int 1))) (tCons (tVar 1) tNil))) (gName 7) (tIfS (tB (tDNotIn (tTup (tCons (tVar 6) (tCons (tVar 7) tNil))) (tVar 3))) (tDrop (tBM K "list" rAppend (tVar 5) (tCons (tTup (tCons (tVar 6) (tCons (tVar 7) tNil))) tNil))) tNext))) (tSeq (tIfS (tNot (tB (tCall (sp_told_k03 K) [] E0 (tCons (tCall (sp_opposite K) [] E0 (tCons (tVar 4) tNil)) (tCons (tVar 1) (tCons (tVar 5) tNil)))))) (tRet (tC (.bl false))) tNext) (tSeq (tAsg (tOp oSub (tOp oModN (tCall (sp_cell_at K) [] E0 (tCons (tVar 0) (tCons (tC (.int 4)) tNil))) (tOp oAdd (tVar 1) (tC (.int 4)))) (tC (.int 2))) (gName 8)) (Evl.tCut (tIfS (tTest (tOp rEq (tOp oMod (tOp oDiv (tCall (sp_cell_at K) [] E0 (tCons (tVar 0) (tCons (tC (.int 4)) tNil))) (tC (.int 30))) (tC (.int 7))) (tC (.int 1)))) (tAsg (tOp oMul (tOp oAdd (tC (.int 61)) (tOp oModN (tCall (sp_cell_at K) [] E0 (tCons (tVar 0) (tCons (tC (.int 5)) tNil))) (tOp oPow (tC (.int 10)) (tC (.int 30))))) (tOp (rIxL K) (tLst (tCons (tC (.int 1)) (tCons (tUn oNeg (tC (.int 1))) tNil))) (tOp oMod (tCall (sp_cell_at K) [] E0 (tCons (tVar 0) (tCons (tC (.int 5)) tNil))) (tC (.int 2))))) (gName 8)) tNext) (tSeq (tIfS (tOr (tTest (tOp oLt (tVar 8) (tC (.int 0)))) (tTest (tOp oGe (tVar 8) (tVar 1)))) (tRet (tAndV (tCall (sp_refused_by_any K) [] E0 (tCons (tVar 4) (tCons (tVar 8) tNil))) (tOp rEq (tFld K (tVar 4) "many") (tVar 1)))) tNext) (tSeq (tAsg (tLst tNil) (gName 9)) (tSeq (tFor (iList K (tCB (rSortD K) (tCons (tCB cListT (tCons (tVar 3) tNil)) tNil))) (gName 10) (tIfS (tAnd (tTest (tOp oLt (tOp (rIxT K) (tVar 10) (tC (.int 0))) (tOp (rIxT K) (tVar 10) (tC (.int 1))))) (tTest (tOp (rIn K true) (tVar 8) (tVar 10)))) (tDrop (tBM K "list" rAppend (tVar 9) (tCons (tTup (tCons (tCall (sp_less K) [] E0 (tCons (tOp (rIxT K) (tVar 10) (tC (.int 0))) (tCons (tVar 8) tNil))) (tCons (tCall (sp_less K) [] E0 (tCons (tOp (rIxT K) (tVar 10) (tC (.int 1))) (tCons (tVar 8) tNil))) tNil))) tNil))) tNext)) (tSeq (tIfS (tOr (tNot (tB (tCall (sp_told_k03 K) [] E0 (tCons (tCall (sp_lessened K) [] E0 (tCons (tVar 4) (tCons (tVar 8) tNil))) (tCons (tOp oSub (tVar 1) (tC (.int 1))) (tCons (tVar 9) tNil)))))) (tNot (tB (tCall (sp_second_k03 K) [] E0 (tCons (tVar 4) (tCons (tVar 3) (tCons (tVar 1) (tCons (tOp oModN (tOp oAdd (tVar 8) (tC (.int 1))) (tVar 1)) tNil)))))))) (tRet (tC (.bl false))) tNext) (tSeq (tIfS (tOr (tNot (tB (tCall (sp_told_k03 K) [] E0 (tCons (tCall (sp_lessened K) [] E0 (tCons (tVar 4) (tCons (tVar 8) tNil))) (tCons (tOp oSub (tVar 1) (tC (.int 1))) (tCons (tVar 9) tNil)))))) (tNot (tB (tCall (sp_told_k03 K) [] E0 (tCons (tCall (sp_opposite K) [] E0 (tCons (tVar 4) tNil)) (tCons (tVar 1) (tCons (tVar 5) tNil))))))) (tRet (tC (.bl false))) tNext) (tSeq (tAsg (tCB (rSortD K) (tCons (tLc (iList K (tCB cListT (tCons (tVar 3) tNil))) (gName 10) (tTest (tOp oLt (tOp (rIxT K) (tVar 10) (tC (.int 0))) (tOp (rIxT K) (tVar 10) (tC (.int 1))))) (tVar 10) [10]) tNil)) (gName 11)) (tRet (tAndV (tOp rEq (tFld K (tVar 4) "many") (tVar 1)) (tOp (rEqD K) (tMeth (cNet K) "pairs" (sp_Net_pairs K) [] E0 (tVar 4) tNil) (tVar 11))))))))))))))))))
variable {K : PySem.W.Frag} {vs : List V} {H : Hp} {Q : VK} {E : XK}
theorem len_law_k03 (h : sp_law_k03 K vs H Q E) : vs.length = 1 := by
  obtain ⟨a, ns, rfl, _⟩ := h
  rfl
theorem Opq.rise {l ps : List Arr} {n i j : Nat} (h : Opq l n i j ps) (hs : Rising (ps.map p2)) : Rising ((ps ++ [((i : Int), (j : Int))]).map p2) := by
  rw [List.map_append]
  refine List.pairwise_append.mpr ⟨hs, List.pairwise_singleton _ _, fun x hx y hy => ?_⟩
  obtain ⟨q, hq, rfl⟩ := List.mem_map.mp hx
  cases List.mem_singleton.mp hy
  have := ((h.2 q.1 q.2).mp hq).2.1
  exact p2_lt (a := q.1) (b := q.2) (by omega)
theorem Opq.pairs {n : Nat} {l l' l2 ps : List Arr} (pm : l'.Perm l) (h : Opq l n n 0 ps) (hs : Rising (ps.map p2)) (O : OppOf n l' l2) : PairsOf l2 ps := by
  refine ⟨hs, fun a b => ?_⟩
  rw [h.2, O, pm.mem_iff]
  constructor
  · rintro ⟨h1, h2, h3⟩
    exact ⟨⟨by omega, by omega, by omega, h3⟩, by omega⟩
  · rintro ⟨⟨h1, h2, h3, h4⟩, h5⟩
    exact ⟨by omega, by omega, h4⟩
theorem pure_law_k03 (N : NetC K) (h : sp_law_k03 K vs H Q E) : t_law_k03 K (ends Q) (st 12 vs) H := by
  obtain ⟨a, ns, rfl, hs, hl, qf⟩ := h
  walk_at "go"
  refine ⟨a, ns, rfl, hs, hl, fun n ps t tl H1 xs hn _ T _ _ _ s1 e1 f1 tt => ?_⟩
  refine ⟨_, _, rfl, SqT.of e1, rfl, _, _, rfl, _, _, rfl, rfl, ?_⟩
  have few := T.few hn
  walk_at "go"
  refine ⟨tl, xs, ps, rfl, f1, tt, by omega, fun l d H2 B _ s2 e2 => ?_⟩
  have g := T.good B
  have fl := g.few hn
  walk_at "go"
  refine ⟨_, _, rfl, .inl (SqL.of (s2 _ _ f1)), ?_⟩
  refine fun he nhe => ?_
  generalize e3 : upd _ he _ = H3
  have s3 := Same.of_eq e3 nhe
  replace e3 := new_at e3
  walk_at "go"
  refine fun x4 dx4 n1 n2 n3 => make_at n1 n2 n3 rfl e3 (tt.mono (s2.trans s3).tk) T hn fun H4 s4 nw4 => ⟨rfl, ?_⟩
  have pm : (bothL [] ps).Perm l := (bothL_ok ps).perm' B
  have d4 := s4 _ _ (s3 _ _ e2)
  have hs4 := s4.seq (s3.seq (s2.seq (s1.seq hs)))
  generalize bothL [] ps = l' at nw4 pm
  clear n1 n2 n3 e3 e1 f1 tt e2 hs s1 s2 s3 s4
  walk_at "go"
  refine fun ol nol => ?_
  generalize e5 : upd _ ol _ = H5
  have s5 := Same.of_eq e5 nol
  replace e5 := new_at e5
  walk_at "go"
  refine ⟨by omega, by omega, for_n (n := ((n : Int)).toNat) (fun i σ G => ∃ (o6 o7 : Option V) (ys : List V) (os : List Arr), σ = [some (.ref a), some (.int n), some (.ref tl), some (.ref d), some (.ref x4), some (.ref ol), o6, o7, none, none, none, none] ∧ Same H4 G ∧ G ol = some (.lst ys) ∧ TL G ys (os.map p2) ∧ Opq l n i 0 os ∧ Rising (os.map p2))
    ⟨_, _, [], [], rfl, s5, e5, .nil, ⟨.nil, fun a b => ⟨fun h => (nomatch h), fun h => by omega⟩⟩, .nil⟩ ?_ ?_⟩
  · rintro i σ G hi ⟨o6, o7, ys, os, rfl, s0, ho, to, op, ri⟩
    walk_at "go"
    refine ⟨_, _, rfl, ⟨by omega, by omega, by omega, by omega⟩, for_m (lo := i + 1) (n := n) (fun j σ G => ∃ (o7 : Option V) (ys : List V) (os : List Arr), σ = [some (.ref a), some (.int n), some (.ref tl), some (.ref d), some (.ref x4), some (.ref ol), some (.int i), o7, none, none, none, none] ∧ Same H4 G ∧ G ol = some (.lst ys) ∧ TL G ys (os.map p2) ∧ Opq l n i j os ∧ Rising (os.map p2))
      ⟨_, ys, os, rfl, s0, ho, to, op.to fun a b _ => by omega, ri⟩ ?_ ?_ (by omega) (by omega)⟩
    · rintro j σ G hj hjn ⟨o7, ys, os, rfl, s0, ho, to, op, ri⟩
      walk_at "go"
      refine fun t1 nt1 => ?_
      generalize e6 : upd _ t1 _ = G1
      have s6 := Same.of_eq e6 nt1
      replace e6 := new_at e6
      walk_at "go"
      refine ⟨_, _, rfl, DGet.t (k := kp ((i : Int), (j : Int))) (s6 _ _ (s0 _ _ d4)) e6, ?_⟩
      walk_at "go"
      rw [some_hk]
      have ho6 := s6 _ _ ho
      refine iteDn (fun c => ?_) fun c => ?_
      · walk_at "go"
        refine ⟨.inl ⟨rfl, _, SqL.of ho6⟩, ?_⟩
        walk_at "go"
        refine fun t2 nt2 => ?_
        generalize e7 : upd _ t2 _ = G2
        have s7 := Same.of_eq e7 nt2
        replace e7 := new_at e7
        have ho7 := s7 _ _ ho6
        have lx : ys.length ≤ 576 := by
          rw [paired_len to, List.length_map]
          exact (op.ties (by omega) (by omega)).few hn
        refine ⟨ol, _, _, rfl, rfl, ho7, lin' (by omega), ?_⟩
        have tkf : TK G2 (upd G2 ol (.lst (ys ++ [V.ref t2]))) := TK.upd fun zs z => by rw [ho7] at z; cases z
        exact ⟨_, _, os ++ [((i : Int), (j : Int))], rfl, ((s0.trans s6).trans s7).mut nol, upd_same, tl_app (to.mono ((s6.tk.trans s7.tk).trans tkf)) (tl_one (tkf _ _ e7)), op.put hjn hj c, op.rise ri⟩
      · walk_at "go"
        exact ⟨_, ys, os, rfl, s0.trans s6, ho6, to.mono s6.tk, op.skip c, ri⟩
    · rintro σ G ⟨o7, ys, os, rfl, s0, ho, to, op, ri⟩
      exact ⟨_, _, ys, os, rfl, s0, ho, to, op.to fun a b _ => by omega, ri⟩
  rintro σ G ⟨o6, o7, ys, os, rfl, s0, ho, to, op, ri⟩
  rw [Int.toNat_natCast] at op
  have fo : os.length ≤ 576 := (op.ties (by omega) (by omega)).few hn
  have nwG := nw4.mono s0
  have dG := s0 _ _ d4
  have hsG := s0.seq hs4
  clear s5 e5 nw4 d4 hs4 s0
  walk_at "go"
  refine ⟨.ref x4, n, l', rfl, nwG, fun l6 w6 H6 O6 s6 nw6 => ?_⟩
  walk_at "go"
  refine ⟨w6, n, l6, ol, ys, os, rfl, nw6, s6 _ _ ho, to.mono s6.tk, op.pairs pm ri O6, by omega, fun H7 s7 => ?_⟩
  have s67 := s6.trans s7
  have hs7 := s67.seq hsG
  walk_at "cell"
  refine ⟨by show (n : Int) + 4 ≠ 0; omega, ?_⟩
  try dsimp only
  walk_at "go"
  refine ⟨fun σ G2 => ∃ x : Int, σ = [some (.ref a), some (.int n), some (.ref tl), some (.ref d), some (.ref x4), some (.ref ol), o6, o7, some (.int x), none, none, none] ∧ Same G G2, ?_, ?_⟩
  · walk_at "cell"
    refine ⟨rfl, _, rfl, iteE (fun c => ?_) fun c => ?_⟩
    · walk_at "cell"
      refine fun t8 nt8 => ?_
      generalize e8 : upd _ t8 _ = H8
      have s8 := Same.of_eq e8 nt8
      replace e8 := new_at e8
      have hs8 := s8.seq hs7
      walk_at "cell"
      obtain ⟨w, hw, ww⟩ := mod2_ex (ns.getD (Int.toNat 5) 0) (.int 1) (.int (-1))
      obtain ⟨z, rfl, zz⟩ : ∃ z : Int, w = .int z ∧ -(2 ^ 64) < z ∧ z < 2 ^ 64 := by
        rcases ww with rfl | rfl
        · exact ⟨1, rfl, by decide, by decide⟩
        · exact ⟨-1, rfl, by decide, by decide⟩
      refine ⟨t8, _, _, _, rfl, rfl, SqL.of e8, hw, ?_⟩
      refine ⟨_, _, rfl, rfl, .inr zz, ?_⟩
      exact ⟨_, rfl, s67.trans s8⟩
    · exact ⟨_, rfl, s67⟩
  rintro σ G2 ⟨p, rfl, sG2⟩
  have nw2 := nwG.mono sG2
  have d2 := sG2 _ _ dG
  have ho2 := sG2 _ _ ho
  have to2 := to.mono sG2.tk
  clear nwG dG hsG ho to s6 s7 nw6 s67 hs7 sG2
  obtain ⟨o, dx, dd, eo, hO, hd', g', hn', nf⟩ := nw2.obj
  have bad : ¬ (0 ≤ p ∧ p < n) → tRet (tAndV (tCall (sp_refused_by_any K) [] E0 (tCons (tVar 4) (tCons (tVar 8) tNil))) (tOp rEq (tFld K (tVar 4) "many") (tVar 1))) (ends Q) [some (.ref a), some (.int n), some (.ref tl), some (.ref d), some (.ref x4), some (.ref ol), o6, o7, some (.int p), none, none, none] G2 := fun c => by
    walk_at "go"
    refine ⟨.ref x4, n, l', p, rfl, nw2, c, fun H8 s8 => ?_⟩
    walk_at "go"
    refine ⟨o, _, dx, _, _, eo, s8 _ _ hO, N.cl, N.nM, nflds_many _ _, ?_⟩
    walk_at "go"
    refine ⟨rfl, ?_⟩
    rw [decide_eq_true rfl]
    exact qf _
  walk_at "go"
  refine iteD (fun c1 => bad fun z => by omega) fun c1 => ?_
  walk_at "go"
  refine iteD (fun c2 => bad fun z => by omega) fun c2 => ?_
  have pin : 0 ≤ p ∧ p < n := ⟨by omega, by omega⟩
  clear bad
  walk_at "go"
  refine fun dl ndl => ?_
  generalize e8 : upd _ dl _ = H8
  have s8 := Same.of_eq e8 ndl
  replace e8 := new_at e8
  have nw8 := nw2.mono s8
  have d8 := s8 _ _ d2
  have ho8 := s8 _ _ ho2
  have to8 := to2.mono s8.tk
  have nodl : ol ≠ dl := fun z => by rw [z, ndl] at ho2; cases ho2
  clear hO hd' nw2 d2 ho2 to2 s8
  try dsimp only
  refine sortK_lc (d := d) (l := l) rfl g.nd d8 fun sp H9 xs9 ss rs pss np9 s9 e9 tx => ?_
  have lss : ss.length = l.length := pss.length_eq
  have nspdl : sp ≠ dl := fun z => by rw [z, e8] at np9; cases np9
  refine ⟨sp, rfl, ⟨_, SqL.of e9⟩, for_list (K := K) (a := sp) (xs := xs9) (fun i σ G => ∃ (o10 : Option V) (ys : List V), σ = [some (.ref a), some (.int n), some (.ref tl), some (.ref d), some (.ref x4), some (.ref ol), o6, o7, some (.int p), some (.ref dl), o10, none] ∧ But dl H9 G ∧ G dl = some (.lst ys) ∧ TL G ys ((dueL p (ss.take i)).map p2))
    ⟨_, [], rfl, fun _ _ _ e => e, s9 _ _ e8, .nil⟩ (fun i σ G _ ⟨_, _, _, s, _⟩ => SqL.of (s _ _ nspdl e9)) ?_ ?_⟩
  · rintro i x σ G hx ⟨o10, zs, rfl, sG, hdl, ty⟩
    obtain ⟨r, hr, t, rfl, htr⟩ := TLp.at tx hx
    have ndl : t ≠ dl := fun z => by rw [z, s9 _ _ e8] at htr; cases htr
    have htG := sG _ _ ndl htr
    have hi := lt_of_get hr
    have lys : zs.length ≤ 1000 := by
      rw [paired_len ty, List.length_map]
      refine Nat.le_trans (dueL_few _ _) ?_
      rw [List.length_take]
      omega
    have no : ¬ (r.1 < r.2 ∧ r.1 ≠ p ∧ r.2 ≠ p) → ∃ (o10 : Option V) (ys : List V), [some (.ref a), some (.int n), some (.ref tl), some (.ref d), some (.ref x4), some (.ref ol), o6, o7, some (.int p), some (.ref dl), some (V.ref t), none] = [some (.ref a), some (.int n), some (.ref tl), some (.ref d), some (.ref x4), some (.ref ol), o6, o7, some (.int p), some (.ref dl), o10, none] ∧ But dl H9 G ∧ G dl = some (.lst ys) ∧ TL G ys ((dueL p (ss.take (i + 1))).map p2) := fun c => by
      refine ⟨_, zs, rfl, sG, hdl, ?_⟩
      rw [take_snoc hr, dueL_snoc, if_neg c, List.append_nil]
      exact ty
    walk_at "go"
    refine ⟨_, _, _, _, rfl, rfl, SqT.of htG, at0, ?_⟩
    walk_at "go"
    refine ⟨_, _, _, _, rfl, rfl, SqT.of htG, at1, ?_⟩
    walk_at "go"
    refine iteD (fun c1 => ?_) fun c1 => no fun z => c1 z.1
    walk_at "go"
    refine ⟨t, _, rfl, .inr (SqT.of htG), rfl, by rfl, _, rfl, ?_⟩
    rw [if_pos rfl, in2]
    refine iteDn (fun c2 => ?_) fun c2 => no fun z => (dn_iff.mpr z).2 c2
    have c3 := dn_iff.mp ⟨c1, c2⟩
    walk_at "go"
    refine ⟨.inl ⟨rfl, _, SqL.of hdl⟩, ?_⟩
    walk_at "go"
    refine ⟨_, _, _, _, rfl, rfl, SqT.of htG, at0, ?_⟩
    walk_at "go"
    refine ⟨_, _, rfl, ?_⟩
    walk_at "go"
    refine ⟨_, _, _, _, rfl, rfl, SqT.of htG, at1, ?_⟩
    walk_at "go"
    refine ⟨_, _, rfl, ?_⟩
    walk_at "go"
    refine fun u nu => ?_
    generalize e3 : upd _ u _ = G3
    have s3 := Same.of_eq e3 nu
    replace e3 := new_at e3
    have hdl3 := s3 _ _ hdl
    refine ⟨dl, _, _, rfl, rfl, hdl3, lin' (by omega), ?_⟩
    have tkd : TK G3 (upd G3 dl (.lst (zs ++ [V.ref u]))) := TK.upd fun zs z => by rw [hdl3] at z; cases z
    refine ⟨_, _, rfl, fun b w nb e => ?_, upd_same, ?_⟩
    · rw [upd_ne nb]
      exact s3 _ _ (sG _ _ nb e)
    · rw [take_snoc hr, dueL_snoc, if_pos c3]
      exact tl_app (ty.mono (s3.tk.trans tkd)) (tl_one (tkd _ _ e3))
  rintro σ G10 ⟨o10, zs, rfl, sG, hdl, tz⟩
  rw [show xs9.length = ss.length by rw [paired_len tx]; simp, List.take_length] at tz
  have s9' : But dl H8 H9 := fun b w _ e => s9 _ _ e
  have nwA := (nw8.mono s9).but (s9 _ _ e8) sG
  have dA : G10 d = some (.dT (hk l)) := sG _ _ (fun z => by rw [z, e8] at d8; cases d8) (s9 _ _ d8)
  have hoA : G10 ol = some (.lst ys) := sG _ _ nodl (s9 _ _ ho8)
  have toA := (to8.mono s9.tk).mono (But.tk (s9 _ _ e8) sG)
  have fz : (dueL p ss).length ≤ 576 := by
    have := dueL_few p ss
    omega
  have en : (n : Int) - 1 = ((n - 1 : Nat) : Int) := by omega
  clear nw8 d8 ho8 to8 e8 tx e9 s9 sG s9'
  walk_at "go"
  refine ⟨.ref x4, n, l', p, rfl, nwA, fun c => absurd pin c, fun _ l11 w11 H11 L11 s11 nw11 => ?_⟩
  walk_at "go"
  try dsimp only
  rw [en]
  refine ⟨w11, n - 1, l11, dl, zs, dueL p ss, rfl, nw11, s11 _ _ hdl, tz.mono s11.tk, dueL_pairs rs (fun x => pss.mem_iff) (L11.perm pm), by omega, fun H12 s12 => ?_⟩
  have sA := s11.trans s12
  walk_at "go"
  refine ⟨by show (n : Int) ≠ 0; omega, ?_⟩
  try dsimp only
  rw [fmod_pos _ (by omega : (0 : Int) < (n : Int))]
  have kin : 0 ≤ (p + 1) % (n : Int) ∧ (p + 1) % (n : Int) < n := ⟨Int.emod_nonneg _ (by omega), Int.emod_lt_of_pos _ (by omega)⟩
  generalize (p + 1) % (n : Int) = k at kin
  walk_at "go"
  refine ⟨.ref x4, n, l, l', d, k, rfl, nwA.mono sA, sA _ _ dA, pm, kin, fun H13 s13 => ?_⟩
  have sB := sA.trans s13
  walk_at "go"
  refine ⟨.ref x4, n, l', p, rfl, nwA.mono sB, fun c => absurd pin c, fun _ l14 w14 H14 L14 s14 nw14 => ?_⟩
  have sC := sB.trans s14
  walk_at "go"
  try dsimp only
  rw [en]
  refine ⟨w14, n - 1, l14, dl, zs, dueL p ss, rfl, nw14, sC _ _ hdl, tz.mono sC.tk, dueL_pairs rs (fun x => pss.mem_iff) (L14.perm pm), by omega, fun H15 s15 => ?_⟩
  have sD := sC.trans s15
  walk_at "go"
  refine ⟨.ref x4, n, l', rfl, nwA.mono sD, fun l16 w16 H16 O16 s16 nw16 => ?_⟩
  have sE := sD.trans s16
  walk_at "go"
  refine ⟨w16, n, l16, ol, ys, os, rfl, nw16, sE _ _ hoA, toA.mono sE.tk, op.pairs pm ri O16, by omega, fun H17 s17 => ?_⟩
  have sF := sE.trans s17
  refine ⟨true, rfl, iteFa (by rfl) ?_⟩
  refine seq_asg (pairs_lc (d := d) (l := l) (by show 10 < 12; decide) rfl B.nd (by omega) (sF _ _ dA) fun p18 H18 xs18 qs P18 f18 np18 s18 e18 t18 => ?_)
  have nwZ := (nwA.mono sF).mono s18
  obtain ⟨o, dx, dd, eo, hO, hd', g', hn', nf⟩ := nwZ.obj
  walk_at "go"
  refine ⟨o, _, dx, _, _, eo, hO, N.cl, N.nM, nflds_many _ _, ?_⟩
  walk_at "go"
  refine ⟨rfl, _, rfl, ?_⟩
  rw [decide_eq_true rfl]
  walk_at "go"
  refine ⟨o, dx, _, eo, hO, nf _ (by decide +kernel) (by decide +kernel), ?_⟩
  walk_at "go"
  refine ⟨_, n, l', rfl, nwZ, fun p19 H19 xs19 qs19 P19 f19 np19 s19 e19 t19 => ?_⟩
  rw [P19.same pm P18] at t19
  walk_at "go"
  refine ⟨_, _, dp_tl (SqL.of e19) t19, dp_tl (SqL.of (s19 _ _ e18)) (t18.mono s19.tk), shaped_dIs _, shaped_dIs _, ?_⟩
  rw [eqv_same]
  exact qf _
end Ar
namespace Ar
open PySem PySem.Spec L2
local macro_rules | `(tactic| walk_at "g1") => `(tactic| first
  | refine ⟨_, rfl, ?_⟩
  | refine ⟨_, _, rfl, rfl, ?_⟩
  | refine ⟨(by show (0 : Int) < _; decide), ?_⟩
  | refine ⟨⟨by decide, by decide⟩, ?_⟩
  | refine ⟨(show CMul _ _ from .inl ⟨by omega, by omega⟩), ?_⟩
  | refine ⟨(show CMul _ _ from .inr ⟨by omega, by omega⟩), ?_⟩
  | refine ⟨(show (_ : Int) ≠ 0 by decide), ?_⟩
  | refine ⟨sz2, ?_⟩
  | refine ⟨sz0, ?_⟩
  | refine ⟨sz3, ?_⟩)
local macro_rules | `(tactic| walk_at "ty") => `(tactic| first | exact .int _ | exact .bl _ | exact .tup (by assumption) | exact .lst (by assumption))
local macro_rules | `(tactic| walk_at "isT") => `(tactic| refine ⟨_, _, _, _, true, rfl, .ty _, .base (by walk_at "ty"), kit_ty (by decide +kernel), ?_⟩)
local macro_rules | `(tactic| walk_at "isF") => `(tactic| refine ⟨_, _, _, _, false, rfl, .ty _, .base (by walk_at "ty"), kit_ty (by decide +kernel), ?_⟩)
local macro_rules | `(tactic| walk_at "cell") => `(tactic| ((repeat walk_at "g1"); refine ⟨_, _, _, rfl, (by assumption), (by assumption), (by first | decide | omega), ?_⟩; repeat walk_at "g1"))
local macro_rules | `(tactic| walk_at "go") => `(tactic| repeat walk_at "g1")
def t_class_k02 (K : PySem.W.Frag) (D a : Addr) : TS :=
  (tSeq (tFor (iListN K (tLst (tCons (tTup (tCons (tC (.int 0)) (tCons (tC (.int 0)) tNil))) (tCons (tTup (tCons (tC (.int 1)) (tCons (tC (.int 2)) tNil))) (tCons (tTup (tCons (tC (.int 2)) (tCons (tC (.int 3)) tNil))) tNil))))) (gTup K 2 (gCons (gName 1) (gCons (gName 2) gNil))) (tIfS (tB (tCallE (sp_only K) a (.ref D) none (tCons (tVar 0) (tCons (tVar 2) tNil)))) (tRet (tVar 1)) tNext)) (tRet (tUn oNeg (tC (.int 1)))))
def t_due_k02 (K : PySem.W.Frag) : TS :=
  (tSeq (tIfS (tOr (tTest (tOp oLt (tVar 0) (tC (.int 0)))) (tTest (tOp oGt (tVar 0) (tC (.int 24))))) (tRet (tC (.int 0))) tNext) (tSeq (tAsg tDNewT (gName 2)) (tSeq (tFor (iList K (tVar 1)) (gTup K 2 (gCons (gName 3) (gCons (gName 4) gNil))) (tSeq (tIfS (tOr (tTest (tOp oLt (tCB cMin2 (tCons (tVar 3) (tCons (tVar 4) tNil))) (tC (.int 0)))) (tOr (tTest (tOp oGe (tCB cMax2 (tCons (tVar 3) (tCons (tVar 4) tNil))) (tVar 0))) (tTest (tOp rEq (tVar 3) (tVar 4))))) (tRet (tC (.int 1))) tNext) (tSeq (tIfS (tB (tDIn (tTup (tCons (tVar 3) (tCons (tVar 4) tNil))) (tVar 2))) (tRet (tC (.int 2))) tNext) (tSeq (sDPut (tVar 2) (tTup (tCons (tVar 3) (tCons (tVar 4) tNil))) (tC (.bl true))) (sDPut (tVar 2) (tTup (tCons (tVar 4) (tCons (tVar 3) tNil))) (tC (.bl true))))))) (tRet (tC (.int 7))))))
def t_wrong_k02 (K : PySem.W.Frag) : TS :=
  (tSeq (tAsg (tOp oMod (tVar 2) (tC (.int 6))) (gName 4)) (tSeq (tAsg (tC (.int 0)) (gName 5)) (Evl.tCut (tIfS (tTest (tOp oGt (tVar 0) (tC (.int 0)))) (tAsg (tOp oModN (tOp oDiv (tVar 2) (tC (.int 6))) (tVar 0)) (gName 5)) tNext) (Evl.tCut (tIfS (tAnd (tTest (tOp rEq (tVar 4) (tC (.int 0)))) (tTru K (tVar 1))) (tSeq (tAsg (tOp (rIxL K) (tVar 1) (tOp oModN (tOp oDiv (tVar 2) (tC (.int 6))) (tCB (cLen K) (tCons (tVar 1) tNil)))) (gName 6)) (tRet (tOp (rIxL K) (tLst (tCons (tVar 6) (tCons (tTup (tCons (tOp (rIxT K) (tVar 6) (tC (.int 1))) (tCons (tOp (rIxT K) (tVar 6) (tC (.int 0))) tNil))) tNil))) (tOp oMod (tOp oDiv (tVar 2) (tC (.int 600))) (tC (.int 2)))))) tNext) (tSeq (tIfS (tTest (tOp rEq (tVar 4) (tC (.int 1)))) (tRet (tTup (tCons (tVar 5) (tCons (tVar 5) tNil)))) tNext) (tSeq (tIfS (tTest (tOp rEq (tVar 4) (tC (.int 2)))) (tRet (tTup (tCons (tOp oSub (tUn oNeg (tC (.int 1))) (tVar 3)) (tCons (tVar 5) tNil)))) tNext) (tSeq (tIfS (tTest (tOp rEq (tVar 4) (tC (.int 3)))) (tRet (tTup (tCons (tVar 5) (tCons (tVar 0) tNil)))) tNext) (tSeq (tIfS (tTest (tOp rEq (tVar 4) (tC (.int 4)))) (tRet (tTup (tCons (tOp oAdd (tVar 0) (tVar 3)) (tCons (tVar 5) tNil)))) tNext) (tRet (tTup (tCons (tVar 5) (tCons (tUn oNeg (tC (.int 1))) tNil))))))))))))
variable {K : PySem.W.Frag} {vs : List V} {H : Hp} {Q : VK} {E : XK}
theorem len_class_k02 {D a : Addr} (h : sp_class_k02 K D a vs H Q E) : vs.length = 1 := by
  obtain ⟨i, _, _, rfl, _⟩ := h
  rfl
theorem pure_class_k02 {D a : Addr} (h : sp_class_k02 K D a vs H Q E) : t_class_k02 K D a (ends Q) (st 3 vs) H := by
  obtain ⟨i, hD, hi, rfl, q⟩ := h
  walk_at "go"
  refine fun t1 nt1 => ?_
  generalize e1 : upd _ t1 _ = H1
  have s1 := Same.of_eq e1 nt1
  replace e1 := new_at e1
  walk_at "go"
  refine fun t2 nt2 => ?_
  generalize e2 : upd _ t2 _ = H2
  have s2 := Same.of_eq e2 nt2
  replace e2 := new_at e2
  walk_at "go"
  refine fun t3 nt3 => ?_
  generalize e3 : upd _ t3 _ = H3
  have s3 := Same.of_eq e3 nt3
  replace e3 := new_at e3
  walk_at "go"
  refine fun l4 nl4 => ?_
  generalize e4 : upd _ l4 _ = H4
  have s4 := Same.of_eq e4 nl4
  replace e4 := new_at e4
  have s04 := ((s1.trans s2).trans s3).trans s4
  have u1 := (s2.trans s3).trans s4
  have u2 := s3.trans s4
  refine ⟨l4, rfl, ⟨_, SqL.of e4⟩, for_listN (K := K) (n := 3) (fun j σ G => ∃ o1 o2 : Option V, σ = [some (.ref a), o1, o2] ∧ Same H4 G ∧ j ≤ 2 ∧ (j = 0 ∨ i ≠ 0) ∧ (j ≤ 1 ∨ i ≠ 2)) ⟨_, _, rfl, Same.refl _, by omega, .inl rfl, .inl (by omega)⟩ ?_⟩
  rintro j σ G ⟨o1, o2, rfl, sG, hj, h0, h1⟩
  refine ⟨by omega, [V.ref t1, V.ref t2, V.ref t3], ?_⟩
  have hl := SqL.of (K := K) (sG _ _ e4)
  obtain rfl | rfl | rfl : j = 0 ∨ j = 1 ∨ j = 2 := by omega
  · refine ⟨_, hl, rfl, _, _, rfl, SqT.of (sG _ _ (u1 _ _ e1)), rfl, _, _, rfl, _, _, rfl, rfl, ?_⟩
    walk_at "go"
    refine ⟨rfl, i, 0, by omega, by omega, hD, rfl, fun G2 s5 => ?_⟩
    refine ⟨_, rfl, iteD (fun c => ?_) fun c => ?_⟩
    · walk_at "go"
      have := q G2 ((s04.trans sG).trans s5)
      rw [if_pos c] at this
      exact this
    · walk_at "go"
      exact ⟨_, _, rfl, sG.trans s5, by omega, .inr c, .inl (by omega)⟩
  · refine ⟨_, hl, rfl, _, _, rfl, SqT.of (sG _ _ (u2 _ _ e2)), rfl, _, _, rfl, _, _, rfl, rfl, ?_⟩
    walk_at "go"
    refine ⟨rfl, i, 2, by omega, by omega, hD, rfl, fun G2 s5 => ?_⟩
    refine ⟨_, rfl, iteD (fun c => ?_) fun c => ?_⟩
    · walk_at "go"
      have := q G2 ((s04.trans sG).trans s5)
      rw [if_neg (by omega), if_pos c] at this
      exact this
    · walk_at "go"
      exact ⟨_, _, rfl, sG.trans s5, by omega, .inr (by omega), .inr c⟩
  · refine ⟨_, hl, rfl, _, _, rfl, SqT.of (sG _ _ (s4 _ _ e3)), rfl, _, _, rfl, _, _, rfl, rfl, ?_⟩
    walk_at "go"
    refine ⟨rfl, i, 3, by omega, by omega, hD, rfl, fun G2 s5 => ?_⟩
    refine ⟨_, rfl, iteD (fun c => ?_) fun c => ?_⟩
    · walk_at "go"
      have := q G2 ((s04.trans sG).trans s5)
      rw [if_neg (by omega), if_neg (by omega)] at this
      exact this
    · exfalso
      omega
theorem len_due_k02 (h : sp_due_k02 K vs H Q E) : vs.length = 2 := by
  obtain ⟨m, a, xs, ps, rfl, _⟩ := h
  rfl
theorem pure_due_k02 (h : sp_due_k02 K vs H Q E) : t_due_k02 K (ends Q) (st 5 vs) H := by
  obtain ⟨m, a, xs, ps, rfl, ha, tt, hl, q⟩ := h
  have lx : xs.length = ps.length := by rw [paired_len tt]; simp
  have bad : (m < 0 ∨ 24 < m) → Q (.int 0) H := fun c => by
    have := q H (Same.refl _)
    unfold dueOf at this
    rw [if_pos c] at this
    exact this
  walk_at "go"
  refine iteD (fun c => bad (.inl c)) fun c1 => ?_
  walk_at "go"
  refine iteD (fun c => bad (.inr c)) fun c2 => ?_
  clear bad
  have eq : dueOf m ps = if tieRes m [] ps = 0 then 7 else ((tieRes m [] ps : Nat) : Int) := if_neg (by omega)
  rw [eq] at q
  clear eq
  walk_at "go"
  refine fun d nd => ?_
  generalize e1 : upd _ d _ = H1
  have s1 := Same.of_eq e1 nd
  replace e1 := new_at e1
  walk_at "go"
  have nad : a ≠ d := ne_of_none ha nd
  refine ⟨⟨_, SqL.of (s1 _ _ ha)⟩, for_list (K := K) (a := a) (xs := xs) (fun i σ G => ∃ (o3 o4 : Option V) (l : List Arr), σ = [some (.int m), some (.ref a), some (.ref d), o3, o4] ∧ Same H G ∧ G d = some (.dT (hk l)) ∧ l.length ≤ 2 * i ∧ tieRes m [] ps = tieRes m l (ps.drop i))
    ⟨_, _, [], rfl, s1, e1, Nat.le_refl _, rfl⟩ (fun i σ G _ ⟨_, _, _, _, s, _⟩ => SqL.of (s _ _ ha)) ?_ ?_⟩
  · rintro i x σ G hx ⟨o3, o4, l, rfl, sG, hd, ll, ht⟩
    obtain ⟨p, hp, t, rfl, htp⟩ := TLp.at tt hx
    have hi := lt_of_get hp
    have ed : ps.drop i = p :: ps.drop (i + 1) := by
      rw [List.drop_eq_getElem_cons hi, (List.getElem?_eq_some_iff.mp hp).2]
    rw [ed] at ht
    have one : ¬ (0 ≤ p.1 ∧ p.1 < m ∧ 0 ≤ p.2 ∧ p.2 < m ∧ p.1 ≠ p.2) → ∀ G', Same G G' → Q (.int 1) G' := fun c G' s => by
      have := q G' (sG.trans s)
      rw [ht] at this
      unfold tieRes at this
      rw [if_neg c, if_neg (by decide)] at this
      exact this
    refine ⟨_, _, rfl, SqT.of (sG _ _ htp), rfl, _, _, rfl, _, _, rfl, rfl, ?_⟩
    walk_at "go"
    refine ⟨_, _, rfl, ?_⟩
    walk_at "go"
    refine iteD (fun c => one (fun z => ?_) _ (Same.refl _)) fun c3 => ?_
    · obtain ⟨z1, _, z2, _⟩ := z
      split at c <;> omega
    walk_at "go"
    refine ⟨_, _, rfl, ?_⟩
    walk_at "go"
    refine iteD (fun c => one (fun z => ?_) _ (Same.refl _)) fun c4 => ?_
    · obtain ⟨_, z1, _, z2, _⟩ := z
      split at c <;> omega
    walk_at "go"
    refine ⟨rfl, _, rfl, iteE (fun c => one (fun z => z.2.2.2.2 c) _ (Same.refl _)) fun c5 => ?_⟩
    have ok : 0 ≤ p.1 ∧ p.1 < m ∧ 0 ≤ p.2 ∧ p.2 < m ∧ p.1 ≠ p.2 := by
      have c3' : ¬ (if p.2 < p.1 then p.2 else p.1) < 0 := c3
      have c4' : ¬ m ≤ (if p.1 < p.2 then p.2 else p.1) := c4
      refine ⟨?_, ?_, ?_, ?_, c5⟩ <;> (split at c3' <;> split at c4' <;> omega)
    walk_at "go"
    refine fun u nu => ?_
    generalize e2 : upd _ u _ = G1
    have s2 := Same.of_eq e2 nu
    replace e2 := new_at e2
    walk_at "go"
    refine ⟨_, _, rfl, DGet.t (k := kp p) (s2 _ _ hd) e2, ?_⟩
    walk_at "go"
    rw [some_hk]
    refine iteD (fun c6 => ?_) fun c6 => ?_
    · walk_at "go"
      have := q G1 (sG.trans s2)
      rw [ht] at this
      unfold tieRes at this
      rw [if_pos ok, if_pos c6, if_neg (by decide)] at this
      exact this
    have hd2 := s2 _ _ hd
    have lh : (hk l).length = l.length := by simp [hk]
    walk_at "go"
    refine fun u3 nu3 => ?_
    generalize e3 : upd _ u3 _ = G3
    have s3 := Same.of_eq e3 nu3
    replace e3 := new_at e3
    refine ⟨_, _, rfl, DPut.t (k := kp p) (v := .bl true) (s3 _ _ hd2) e3 (lin' (by omega)), ?_⟩
    rw [putK_hk]
    have sA := ((sG.trans s2).trans s3).mut (o := .dT (hk (addP l p))) nd
    have hdA : upd G3 d (.dT (hk (addP l p))) d = some (.dT (hk (addP l p))) := upd_same
    generalize upd G3 d (.dT (hk (addP l p))) = G4 at sA hdA ⊢
    have l1 := len_addP l p
    have l2 := len_addP (addP l p) (p.2, p.1)
    have lh2 : (hk (addP l p)).length = (addP l p).length := by simp [hk]
    walk_at "go"
    refine fun u5 nu5 => ?_
    generalize e5 : upd _ u5 _ = G5
    have s5 := Same.of_eq e5 nu5
    replace e5 := new_at e5
    refine ⟨_, _, rfl, DPut.t (k := kp (p.2, p.1)) (v := .bl true) (s5 _ _ hdA) e5 (lin' (by omega)), ?_⟩
    rw [putK_hk]
    refine ⟨_, _, addP (addP l p) (p.2, p.1), rfl, (sA.trans s5).mut nd, upd_same, by omega, ?_⟩
    rw [ht]
    show (if _ then _ else _) = _
    rw [if_pos ok, if_neg c6]
  · rintro σ G ⟨o3, o4, l, rfl, sG, hd, ll, ht⟩
    rw [lx, List.drop_length] at ht
    walk_at "go"
    have := q G sG
    have z : tieRes m l [] = 0 := rfl
    rw [ht, z, if_pos rfl] at this
    exact this
theorem len_wrong_k02 (h : sp_wrong_k02 K vs H Q E) : vs.length = 4 := by
  obtain ⟨n, a, xs, ps, c, f, rfl, _⟩ := h
  rfl
theorem pure_wrong_k02 (h : sp_wrong_k02 K vs H Q E) : t_wrong_k02 K (ends Q) (st 7 vs) H := by
  obtain ⟨n, a, xs, ps, c, f, rfl, ha, tt, q⟩ := h
  walk_at "go"
  refine ⟨fun σ G => ∃ p : Int, σ = [some (.int n), some (.ref a), some (.int c), some (.int f), some (.int (c % 6)), some (.int p), none] ∧ G = H, ?_, ?_⟩
  · walk_at "go"
    refine iteD (fun c1 => ?_) fun c1 => ?_
    · walk_at "go"
      refine ⟨by show (n : Int) ≠ 0; omega, ?_⟩
      exact ⟨_, rfl, rfl⟩
    · exact ⟨_, rfl, rfl⟩
  rintro σ G ⟨p, rfl, rfl⟩
  walk_at "go"
  refine ⟨fun σ G' => σ = [some (.int n), some (.ref a), some (.int c), some (.int f), some (.int (c % 6)), some (.int p), none] ∧ G' = G, ?_, ?_⟩
  · walk_at "go"
    refine ⟨rfl, _, rfl, iteE (fun c1 => ?_) fun c1 => ?_⟩
    · walk_at "go"
      refine ⟨_, .inl ⟨xs, SqL.of ha, rfl⟩, ?_⟩
      refine iteBn (fun e => ?_) fun e => ?_
      · have l0 : 0 < xs.length := by
          cases xs with
          | nil => cases e
          | cons x xs => exact Nat.succ_pos _
        walk_at "go"
        refine ⟨_, _, rfl, .inl (SqL.of ha), ?_⟩
        refine ⟨_, _, rfl, rfl, by show ((xs.length : Int)) ≠ 0; omega, ?_⟩
        try dsimp only
        rw [fmod_pos _ (by omega : (0 : Int) < (xs.length : Int))]
        have h1 := Int.emod_nonneg (c / 6) (b := (xs.length : Int)) (by omega)
        have h2 := Int.emod_lt_of_pos (c / 6) (b := (xs.length : Int)) (by omega)
        obtain ⟨j, v, hv, hj⟩ := at_ex (xs := xs) (i := c / 6 % (xs.length : Int)) (by omega) h2
        obtain ⟨r, hr, t, rfl, htr⟩ := TLp.at tt hj
        refine ⟨a, _, _, _, rfl, rfl, SqL.of ha, hv, ?_⟩
        walk_at "go"
        refine ⟨_, _, _, _, rfl, rfl, SqT.of htr, at1, ?_⟩
        walk_at "go"
        refine ⟨_, _, _, _, rfl, rfl, SqT.of htr, at0, ?_⟩
        walk_at "go"
        refine fun u nu => ?_
        generalize e1 : upd _ u _ = H1
        have s1 := Same.of_eq e1 nu
        replace e1 := new_at e1
        walk_at "go"
        refine fun l2 nl2 => ?_
        generalize e2 : upd _ l2 _ = H2
        have s2 := Same.of_eq e2 nl2
        replace e2 := new_at e2
        walk_at "go"
        obtain ⟨w, hw, ww⟩ := mod2_ex (c / 600) (.ref t) (.ref u)
        refine ⟨l2, _, _, _, rfl, rfl, SqL.of e2, hw, ?_⟩
        rcases ww with rfl | rfl
        · exact q t _ _ H2 (s1.trans s2) ((s1.trans s2) _ _ htr)
        · exact q u _ _ H2 (s1.trans s2) (s2 _ _ e1)
      · exact ⟨rfl, rfl⟩
    · exact ⟨rfl, rfl⟩
  rintro σ G' ⟨rfl, rfl⟩
  walk_at "go"
  refine ⟨rfl, _, rfl, iteE (fun c => ?_) fun c => ?_⟩
  · walk_at "go"
    refine fun t nt => ?_
    generalize e1 : upd _ t _ = H1
    have s1 := Same.of_eq e1 nt
    replace e1 := new_at e1
    exact q t _ _ H1 s1 e1
  walk_at "go"
  refine ⟨rfl, _, rfl, iteE (fun c => ?_) fun c => ?_⟩
  · walk_at "go"
    refine fun t nt => ?_
    generalize e1 : upd _ t _ = H1
    have s1 := Same.of_eq e1 nt
    replace e1 := new_at e1
    exact q t _ _ H1 s1 e1
  walk_at "go"
  refine ⟨rfl, _, rfl, iteE (fun c => ?_) fun c => ?_⟩
  · walk_at "go"
    refine fun t nt => ?_
    generalize e1 : upd _ t _ = H1
    have s1 := Same.of_eq e1 nt
    replace e1 := new_at e1
    exact q t _ _ H1 s1 e1
  walk_at "go"
  refine ⟨rfl, _, rfl, iteE (fun c => ?_) fun c => ?_⟩
  · walk_at "go"
    refine fun t nt => ?_
    generalize e1 : upd _ t _ = H1
    have s1 := Same.of_eq e1 nt
    replace e1 := new_at e1
    exact q t _ _ H1 s1 e1
  walk_at "go"
  refine fun t nt => ?_
  generalize e1 : upd _ t _ = H1
  have s1 := Same.of_eq e1 nt
  replace e1 := new_at e1
  exact q t _ _ H1 s1 e1
end Ar
namespace Ar
open PySem PySem.Spec L2
local macro_rules | `(tactic| walk_at "g1") => `(tactic| first
  | refine ⟨_, rfl, ?_⟩
  | refine ⟨_, _, rfl, rfl, ?_⟩
  | refine ⟨(by show (0 : Int) < _; decide), ?_⟩
  | refine ⟨⟨by decide, by decide⟩, ?_⟩
  | refine ⟨(show CMul _ _ from .inl ⟨by omega, by omega⟩), ?_⟩
  | refine ⟨(show CMul _ _ from .inr ⟨by omega, by omega⟩), ?_⟩
  | refine ⟨(show (_ : Int) ≠ 0 by decide), ?_⟩
  | refine ⟨sz2, ?_⟩
  | refine ⟨sz0, ?_⟩
  | refine ⟨sz3, ?_⟩)
local macro_rules | `(tactic| walk_at "ty") => `(tactic| first | exact .int _ | exact .bl _ | exact .tup (by assumption) | exact .lst (by assumption))
local macro_rules | `(tactic| walk_at "isT") => `(tactic| refine ⟨_, _, _, _, true, rfl, .ty _, .base (by walk_at "ty"), kit_ty (by decide +kernel), ?_⟩)
local macro_rules | `(tactic| walk_at "isF") => `(tactic| refine ⟨_, _, _, _, false, rfl, .ty _, .base (by walk_at "ty"), kit_ty (by decide +kernel), ?_⟩)
local macro_rules | `(tactic| walk_at "cell") => `(tactic| ((repeat walk_at "g1"); refine ⟨_, _, _, rfl, (by assumption), (by assumption), (by first | decide | omega), ?_⟩; repeat walk_at "g1"))
local macro_rules | `(tactic| walk_at "go") => `(tactic| repeat walk_at "g1")
def t_law_k02 (K : PySem.W.Frag) : TS :=
  (tSeq (tAsg (tCall (sp_net K) [] E0 (tCons (tVar 0) tNil)) (gTup K 2 (gCons (gName 1) (gCons (gName 2) gNil)))) (tSeq (tFor (iRng1 (tCons (tOp oMod (tOp oMod (tCall (sp_cell_at K) [] E0 (tCons (tVar 0) (tCons (tC (.int 4)) tNil))) (tC (.int 4))) (tC (.int 3))) tNil)) (gName 3) (tSeq (tAsg (tCall (sp_wrong_k02 K) [] E0 (tCons (tVar 1) (tCons (tVar 2) (tCons (tCall (sp_cell_at K) [] E0 (tCons (tVar 0) (tCons (tOp oAdd (tC (.int 5)) (tOp oMul (tC (.int 2)) (tVar 3))) tNil))) (tCons (tOp oModN (tCall (sp_cell_at K) [] E0 (tCons (tVar 0) (tCons (tC (.int 6)) tNil))) (tOp oPow (tC (.int 10)) (tC (.int 20)))) tNil))))) (gName 4)) (tSeq (tAsg (tOp oModN (tCall (sp_cell_at K) [] E0 (tCons (tVar 0) (tCons (tOp oAdd (tC (.int 6)) (tOp oMul (tC (.int 2)) (tVar 3))) tNil))) (tOp oAdd (tCB (cLen K) (tCons (tVar 2) tNil)) (tC (.int 1)))) (gName 5)) (tAsg (tOp rCat (tOp rCat (tSl (rSlL K) (tVar 2) tNoPart (tPart (tVar 5))) (tLst (tCons (tVar 4) tNil))) (tSl (rSlL K) (tVar 2) (tPart (tVar 5)) tNoPart)) (gName 2))))) (Evl.tCut (tIfS (tTest (tOp rEq (tOp oMod (tCall (sp_cell_at K) [] E0 (tCons (tVar 0) (tCons (tC (.int 9)) tNil))) (tC (.int 7))) (tC (.int 1)))) (tAsg (tOp (rIxL K) (tLst (tCons (tUn oNeg (tC (.int 1))) (tCons (tC (.int 25)) (tCons (tOp oSub (tUn oNeg (tC (.int 1))) (tOp oModN (tCall (sp_cell_at K) [] E0 (tCons (tVar 0) (tCons (tC (.int 6)) tNil))) (tOp oPow (tC (.int 10)) (tC (.int 20))))) (tCons (tOp oAdd (tC (.int 25)) (tOp oModN (tCall (sp_cell_at K) [] E0 (tCons (tVar 0) (tCons (tC (.int 6)) tNil))) (tOp oPow (tC (.int 10)) (tC (.int 20))))) tNil))))) (tOp oMod (tOp oDiv (tCall (sp_cell_at K) [] E0 (tCons (tVar 0) (tCons (tC (.int 9)) tNil))) (tC (.int 7))) (tC (.int 4)))) (gName 1)) tNext) (tSeq (tAsg (tCB (cList K) (tCons (tVar 2) tNil)) (gName 6)) (tSeq (tAsg (tC (.int 7)) (gName 7)) (tSeq (tTryAs K (.ref (He.ga K "TieError")) 8 (fun W => (tDrop (tMakeS (cNet K) (sp_Net_init K) (WE W) (tCons (tVar 1) (tCons (tVar 6) tNil))))) (fun a cls d => (tAsg (tCallE (sp_class_k02 K) a cls d (tCons (tVar 8) tNil)) (gName 7)))) (tRet (tAndV (tOp rEq (tVar 7) (tCall (sp_due_k02 K) [] E0 (tCons (tVar 1) (tCons (tVar 2) tNil)))) (tOp (rEqD K) (tVar 6) (tVar 2))))))))))
variable {K : PySem.W.Frag} {vs : List V} {H : Hp} {Q : VK} {E : XK}
theorem len_law_k02 (h : sp_law_k02 K vs H Q E) : vs.length = 1 := by
  obtain ⟨a, ns, rfl, _⟩ := h
  rfl
theorem ix_int {zs : List Int} {i : Int} (h0 : 0 ≤ i) (h1 : i < zs.length) : ∃ z, atI (zs.map V.int) i = some (.int z) := by
  have hj : i.toNat < zs.length := by omega
  exact ⟨zs[i.toNat], at_of (j := i.toNat) (by omega) (by rw [List.getElem?_map, List.getElem?_eq_getElem hj]; rfl)⟩
theorem pure_law_k02 (ex0 : PySem.W.exmOne K (.ref (He.ga K "NoPoints")) (.ref (He.ga K "TieError")) = some true) (ex2 : PySem.W.exmOne K (.ref (He.ga K "NoTie")) (.ref (He.ga K "TieError")) = some true) (ex3 : PySem.W.exmOne K (.ref (He.ga K "TwiceTold")) (.ref (He.ga K "TieError")) = some true)
    (h : sp_law_k02 K vs H Q E) : t_law_k02 K (ends Q) (st 9 vs) H := by
  obtain ⟨a, ns, rfl, hs, hl, qf⟩ := h
  walk_at "go"
  refine ⟨a, ns, rfl, hs, hl, fun n ps t tl H1 xs hn _ T _ _ _ s1 e1 f1 tt => ?_⟩
  refine ⟨_, _, rfl, SqT.of e1, rfl, _, _, rfl, _, _, rfl, rfl, ?_⟩
  have few := T.few hn
  have hs1 := s1.seq hs
  clear hs e1 T s1
  walk_at "cell"
  have k0 := Int.emod_nonneg (ns.getD (Int.toNat 4) 0 % 4) (show (3 : Int) ≠ 0 by decide)
  have k1 := Int.emod_lt_of_pos (ns.getD (Int.toNat 4) 0 % 4) (show (0 : Int) < 3 by decide)
  generalize ns.getD (Int.toNat 4) 0 % 4 % 3 = k at k0 k1
  refine ⟨by omega, by omega, for_n (n := k.toNat) (fun i σ G => ∃ (o3 o4 o5 : Option V) (tl : Addr) (xs : List V) (ps : List Arr), σ = [some (.ref a), some (.int n), some (.ref tl), o3, o4, o5, none, none, none] ∧ Same H1 G ∧ G tl = some (.lst xs) ∧ TL G xs (ps.map p2) ∧ ps.length ≤ 576 + i)
    ⟨_, _, _, tl, xs, ps, rfl, Same.refl _, f1, tt, by omega⟩ ?_ ?_⟩
  · clear f1 tt few
    rintro i σ G hi ⟨o3, o4, o5, tl, xs, ps, rfl, sG, htl, tt, few⟩
    have hsG := sG.seq hs1
    have lx : xs.length = ps.length := by rw [paired_len tt]; simp
    walk_at "cell"
    walk_at "cell"
    refine ⟨n, tl, xs, ps, _, _, rfl, htl, tt, fun t x y H2 s2 e2 => ?_⟩
    have hs2 := s2.seq hsG
    have htl2 := s2 _ _ htl
    walk_at "cell"
    refine ⟨_, _, rfl, .inl (SqL.of htl2), ?_⟩
    walk_at "go"
    refine ⟨by show (xs.length : Int) + 1 ≠ 0; omega, ?_⟩
    try dsimp only
    rw [fmod_pos _ (by omega : (0 : Int) < (xs.length : Int) + 1)]
    have g0 := Int.emod_nonneg (ns.getD (Int.toNat (6 + 2 * (i : Int))) 0) (b := (xs.length : Int) + 1) (by omega)
    have g1 := Int.emod_lt_of_pos (ns.getD (Int.toNat (6 + 2 * (i : Int))) 0) (b := (xs.length : Int) + 1) (by omega)
    generalize ns.getD (Int.toNat (6 + 2 * (i : Int))) 0 % ((xs.length : Int) + 1) = at' at g0 g1 ⊢
    obtain ⟨j, rfl⟩ : ∃ j : Nat, at' = j := ⟨at'.toNat, by omega⟩
    have ltx : (xs.take j).length ≤ 600 := by rw [List.length_take]; omega
    have ldx : (xs.drop j).length ≤ 600 := by rw [List.length_drop]; omega
    walk_at "go"
    refine ⟨tl, xs, rfl, SqL.of htl2, ?_⟩
    refine fun p3 np3 => ?_
    generalize e3 : upd _ p3 _ = G3
    have s3 := Same.of_eq e3 np3
    replace e3 := new_at e3
    rw [cut_take] at e3
    walk_at "go"
    refine ⟨sz1, ?_⟩
    refine fun l4 nl4 => ?_
    generalize e4 : upd _ l4 _ = G4
    have s4 := Same.of_eq e4 nl4
    replace e4 := new_at e4
    refine ⟨p3, l4, _, _, rfl, rfl, s4 _ _ e3, e4, lin (by show _ + 1 ≤ _; omega), ?_⟩
    refine fun l5 nl5 => ?_
    generalize e5 : upd _ l5 _ = G5
    have s5 := Same.of_eq e5 nl5
    replace e5 := new_at e5
    have s25 := (s3.trans s4).trans s5
    walk_at "go"
    refine ⟨tl, xs, rfl, SqL.of (s25 _ _ htl2), ?_⟩
    refine fun l6 nl6 => ?_
    generalize e6 : upd _ l6 _ = G6
    have s6 := Same.of_eq e6 nl6
    replace e6 := new_at e6
    rw [cut_drop] at e6
    refine ⟨l5, l6, _, _, rfl, rfl, s6 _ _ e5, e6, lin (by rw [List.length_append, List.length_singleton]; omega), ?_⟩
    refine fun l7 nl7 => ?_
    generalize e7 : upd _ l7 _ = G7
    have s7 := Same.of_eq e7 nl7
    replace e7 := new_at e7
    have s27 := (s25.trans s6).trans s7
    have s07 := s2.trans s27
    refine ⟨_, _, _, l7, _, ps.take j ++ [(x, y)] ++ ps.drop j, rfl, sG.trans s07, e7, ?_, ?_⟩
    · exact tl_app (tl_app ((tl_take j tt).mono s07.tk) (tl_one (s27 _ _ e2))) ((tl_drop _ tt).mono s07.tk)
    · rw [List.length_append, List.length_append, List.length_singleton, List.length_take, List.length_drop]
      omega
  clear f1 tt few
  rintro σ G ⟨o3, o4, o5, tl, xs, ps, rfl, sG, htl, tt, few⟩
  have hsG := sG.seq hs1
  have few : ps.length ≤ 600 := by omega
  clear sG
  walk_at "go"
  refine ⟨fun σ G' => ∃ m : Int, σ = [some (.ref a), some (.int m), some (.ref tl), o3, o4, o5, none, none, none] ∧ Same G G', ?_, ?_⟩
  · walk_at "cell"
    refine ⟨rfl, _, rfl, iteE (fun c => ?_) fun c => ?_⟩
    · walk_at "cell"
      walk_at "cell"
      refine ⟨by show 4 ≤ sizeLine; decide, ?_⟩
      refine fun l4 nl4 => ?_
      generalize e4 : upd _ l4 _ = G4
      have s4 := Same.of_eq e4 nl4
      replace e4 := new_at e4
      have hs4 := s4.seq hsG
      walk_at "cell"
      have g0 := Int.emod_nonneg (ns.getD (Int.toNat 9) 0 / 7) (show (4 : Int) ≠ 0 by decide)
      have g1 := Int.emod_lt_of_pos (ns.getD (Int.toNat 9) 0 / 7) (show (0 : Int) < 4 by decide)
      obtain ⟨z, hz⟩ := ix_int (zs := [-1, 25, -1 - (ns.getD (Int.toNat 6) 0).fmod (10 ^ Int.toNat 20), 25 + (ns.getD (Int.toNat 6) 0).fmod (10 ^ Int.toNat 20)]) g0 g1
      refine ⟨l4, _, _, _, rfl, rfl, SqL.of e4, hz, ?_⟩
      exact ⟨z, rfl, s4⟩
    · exact ⟨_, rfl, Same.refl _⟩
  rintro σ G0 ⟨m, rfl, s0⟩
  have htl0 := s0 _ _ htl
  have tt0 := tt.mono s0.tk
  clear htl tt hsG s0
  walk_at "go"
  refine ⟨_, _, rfl, .inl (SqL.of htl0), ?_⟩
  refine fun he nhe => ?_
  generalize e1 : upd _ he _ = G1
  have s1 := Same.of_eq e1 nhe
  replace e1 := new_at e1
  have htl1 := s1 _ _ htl0
  have tt1 := tt0.mono s1.tk
  have rest : ∀ G2, Same G1 G2 → ∀ k : Int, k = dueOf m ps → ∀ o8 : Option V, tRet (tAndV (tOp rEq (tVar 7) (tCall (sp_due_k02 K) [] E0 (tCons (tVar 1) (tCons (tVar 2) tNil)))) (tOp (rEqD K) (tVar 6) (tVar 2))) (ends Q) [some (.ref a), some (.int m), some (.ref tl), o3, o4, o5, some (.ref he), some (.int k), o8] G2 := fun G2 s2 k ek o8 => by
    walk_at "go"
    refine ⟨m, tl, xs, ps, rfl, s2 _ _ htl1, tt1.mono s2.tk, by omega, fun G3 s3 => ?_⟩
    walk_at "go"
    refine ⟨rfl, _, rfl, ?_⟩
    rw [ek, decide_eq_true rfl]
    walk_at "go"
    have s23 := s2.trans s3
    refine ⟨_, _, dp_tl (SqL.of (s23 _ _ e1)) (tt1.mono s23.tk), dp_tl (SqL.of (s23 _ _ htl1)) (tt1.mono s23.tk), shaped_dIs _, shaped_dIs _, ?_⟩
    rw [eqv_same]
    exact qf _
  walk_at "go"
  refine fun x dx n1 n2 n3 => ?_
  have sA : Same G1 (upd (upd G1 dx (.own x)) x (.ins (cNet K) dx [])) := (Same.new n2).mut n1
  have sB : ∀ G2, (∀ b u, b ≠ x → upd (upd G1 dx (.own x)) x (.ins (cNet K) dx []) b = some u → G2 b = some u) → Same G1 G2 := fun G2 h b u e => h b u (fun z => by rw [z, n1] at e; cases e) (sA _ _ e)
  have due : ∀ r : Nat, 0 ≤ m → m ≤ 24 → tieRes m [] ps = r → dueOf m ps = if r = 0 then 7 else (r : Int) := fun r h1 h2 e => by
    unfold dueOf
    rw [if_neg (by omega), e]
  refine ⟨x, dx, he, m, xs, ps, rfl, upd_same, sA _ _ e1, tt1.mono sA.tk, by omega, fun c => ?_, fun G2 hG h1 h2 c => ?_, fun G2 hG h1 h2 c => ?_, fun G2 d hG h1 h2 c ho hd => ⟨rfl, ?_⟩⟩
  · refine ⟨true, ex0, fun _ a ha => ?_, fun z => (nomatch z)⟩
    walk_at "go"
    refine ⟨rfl, 0, rfl, .inl rfl, rfl, fun G3 s3 => ?_⟩
    exact rest G3 (sA.trans s3) _ (by unfold dueOf; rw [if_pos c]; rfl) _
  · refine ⟨true, ex2, fun _ a ha => ?_, fun z => (nomatch z)⟩
    walk_at "go"
    refine ⟨rfl, 2, rfl, .inr (.inl rfl), rfl, fun G3 s3 => ?_⟩
    exact rest G3 ((sB G2 hG).trans s3) _ (by rw [due 1 h1 h2 c]; rfl) _
  · refine ⟨true, ex3, fun _ a ha => ?_, fun z => (nomatch z)⟩
    walk_at "go"
    refine ⟨rfl, 3, rfl, .inr (.inr rfl), rfl, fun G3 s3 => ?_⟩
    exact rest G3 ((sB G2 hG).trans s3) _ (by rw [due 2 h1 h2 c]; rfl) _
  · exact rest G2 (sB G2 hG) 7 (by rw [due 0 h1 h2 c]; rfl) none
end Ar
namespace Ar
open PySem PySem.Spec L2
local macro_rules | `(tactic| walk_at "g1") => `(tactic| first
  | refine ⟨_, rfl, ?_⟩
  | refine ⟨_, _, rfl, rfl, ?_⟩
  | refine ⟨(by show (0 : Int) < _; decide), ?_⟩
  | refine ⟨⟨by decide, by decide⟩, ?_⟩
  | refine ⟨(show CMul _ _ from .inl ⟨by omega, by omega⟩), ?_⟩
  | refine ⟨(show CMul _ _ from .inr ⟨by omega, by omega⟩), ?_⟩
  | refine ⟨(show (_ : Int) ≠ 0 by decide), ?_⟩
  | refine ⟨sz2, ?_⟩
  | refine ⟨sz0, ?_⟩
  | refine ⟨sz3, ?_⟩)
local macro_rules | `(tactic| walk_at "ty") => `(tactic| first | exact .int _ | exact .bl _ | exact .tup (by assumption) | exact .lst (by assumption))
local macro_rules | `(tactic| walk_at "isT") => `(tactic| refine ⟨_, _, _, _, true, rfl, .ty _, .base (by walk_at "ty"), kit_ty (by decide +kernel), ?_⟩)
local macro_rules | `(tactic| walk_at "isF") => `(tactic| refine ⟨_, _, _, _, false, rfl, .ty _, .base (by walk_at "ty"), kit_ty (by decide +kernel), ?_⟩)
local macro_rules | `(tactic| walk_at "cell") => `(tactic| ((repeat walk_at "g1"); refine ⟨_, _, _, rfl, (by assumption), (by assumption), (by first | decide | omega), ?_⟩; repeat walk_at "g1"))
local macro_rules | `(tactic| walk_at "go") => `(tactic| repeat walk_at "g1")
def t_law_heights_k09 (K : PySem.W.Frag) : TS :=
  (tSeq (tAsg (tOp rRep (tLst (tCons (tC (.int 1)) tNil)) (tVar 0)) (gName 2)) (tSeq (tFor (iRng1 (tCons (tVar 0) tNil)) (gName 3) (tFor (iList K (tVar 1)) (gTup K 2 (gCons (gName 4) (gCons (gName 5) gNil))) (tAsg (tCB cMax2 (tCons (tOp (rIxL K) (tVar 2) (tVar 5)) (tCons (tOp oAdd (tOp (rIxL K) (tVar 2) (tVar 4)) (tC (.int 1))) tNil))) (gSub (tVar 2) (tVar 5) rSetL)))) (tRet (tVar 2))))
def t_round (K : PySem.W.Frag) : TS :=
  (tSeq (tAsg (tLstRg (tRg1 (tVar 0))) (gName 2)) (tSeq (tFor (iRng1 (tCons (tVar 0) tNil)) (gName 3) (tAsg (tLc (iList K (tVar 2)) (gName 4) (tTest (tOp (rNeD K) (tLc (iList K (tVar 1)) (gTup K 2 (gCons (gName 5) (gCons (gName 6) gNil))) (tAnd (tTest (tOp rEq (tVar 6) (tVar 4))) (tTest (tOp (rIn K false) (tVar 5) (tVar 2)))) (tC (.int 1)) [5, 6]) (tLst tNil))) (tVar 4) [4]) (gName 2))) (tRet (tOp (rNeD K) (tVar 2) (tLst tNil)))))
def t_class_k09 (K : PySem.W.Frag) : TS :=
  (tSeq (tTryAs K (.ref (He.ga K "TieError")) 3 (fun W => (tIfS (tTest (tOp rEq (tVar 2) (tC (.int 0)))) (tDrop (tCallS (sp_heights K) (WE W) (tCons (tVar 0) (tCons (tVar 1) tNil)))) (tDrop (tCallS (sp_longest K) (WE W) (tCons (tVar 0) (tCons (tVar 1) tNil)))))) (fun a cls d => (tSeq (tFor (iListN K (tLst (tCons (tTup (tCons (tC (.int 0)) (tCons (tC (.int 0)) tNil))) (tCons (tTup (tCons (tC (.int 1)) (tCons (tC (.int 1)) tNil))) (tCons (tTup (tCons (tC (.int 2)) (tCons (tC (.int 5)) tNil))) tNil))))) (gTup K 2 (gCons (gName 4) (gCons (gName 5) gNil))) (tIfS (tB (tCallE (sp_only K) a cls d (tCons (tVar 3) (tCons (tVar 5) tNil)))) (tRet (tVar 4)) tNext)) (tRet (tUn oNeg (tC (.int 1))))))) (tRet (tC (.int 7))))
def t_due_k09 (K : PySem.W.Frag) : TS :=
  (tSeq (tIfS (tOr (tTest (tOp oLt (tVar 0) (tC (.int 0)))) (tTest (tOp oGt (tVar 0) (tC (.int 24))))) (tRet (tC (.int 0))) tNext) (tSeq (tFor (iList K (tVar 1)) (gTup K 2 (gCons (gName 2) (gCons (gName 3) gNil))) (tIfS (tOr (tTest (tOp oLt (tCB cMin2 (tCons (tVar 2) (tCons (tVar 3) tNil))) (tC (.int 0)))) (tTest (tOp oGe (tCB cMax2 (tCons (tVar 2) (tCons (tVar 3) tNil))) (tVar 0)))) (tRet (tC (.int 1))) tNext)) (tSeq (tIfS (tB (tCall (sp_round K) [] E0 (tCons (tVar 0) (tCons (tVar 1) tNil)))) (tRet (tC (.int 2))) tNext) (tRet (tC (.int 7))))))
variable {K : PySem.W.Frag} {vs : List V} {H : Hp} {Q : VK} {E : XK}
theorem len_law_heights_k09 (h : sp_law_heights_k09 K vs H Q E) : vs.length = 2 := by
  obtain ⟨n, a, xs, ps, ht, rfl, _⟩ := h
  rfl
theorem set_gv {hs : List Int} {x : Int} (hx : x.toNat < hs.length) : hs.set x.toNat (gv hs x) = hs := by
  unfold gv
  rw [List.getD_eq_getElem?_getD, List.getElem?_eq_getElem hx]
  exact List.set_getElem_self hx
theorem pure_law_heights_k09 (h : sp_law_heights_k09 K vs H Q E) : t_law_heights_k09 K (ends Q) (st 6 vs) H := by
  obtain ⟨n, a, xs, ps, ht, rfl, ha, tt, hn, r, kt, q⟩ := h
  have lx : xs.length = ps.length := by rw [paired_len tt]; simp
  have en : ((n : Int)).toNat = n := by omega
  walk_at "go"
  refine ⟨sz1, ?_⟩
  refine fun o1 no1 => ?_
  generalize e1 : upd _ o1 _ = H1
  have s1 := Same.of_eq e1 no1
  replace e1 := new_at e1
  walk_at "go"
  refine ⟨o1, _, _, rfl, rfl, e1, by omega, by omega, lin (by rw [en]; show 1 * n ≤ _; omega), ?_⟩
  refine fun fd nfd => ?_
  generalize e2 : upd _ fd _ = H2
  have s2 := Same.of_eq e2 nfd
  replace e2 := new_at e2
  rw [en, rep_one] at e2
  have s12 := s1.trans s2
  have nfd0 : H fd = none := s1.free nfd
  have naf : a ≠ fd := ne_of_none (s1 _ _ ha) nfd
  walk_at "go"
  refine ⟨by omega, by omega, for_n (n := ((n : Int)).toNat) (fun i σ G => ∃ (o3 o4 o5 : Option V) (hs : List Int), σ = [some (.int n), some (.ref a), some (.ref fd), o3, o4, o5] ∧ Same H G ∧ G fd = some (.lst (hs.map .int)) ∧ (Hout n ps i hs ∨ HtOf n ps hs))
    ⟨_, _, _, _, rfl, s12, e2, .inl (Hout.init n ps)⟩ ?_ ?_⟩
  · rintro i σ G hi ⟨o3, o4, o5, h0, rfl, s0, hf, O⟩
    refine ⟨_, rfl, a, rfl, ⟨_, SqL.of (s0 _ _ ha)⟩, for_list (K := K) (a := a) (xs := xs) (fun j σ G => ∃ (o4 o5 : Option V) (hs : List Int), σ = [some (.int n), some (.ref a), some (.ref fd), some (.int i), o4, o5] ∧ Same H G ∧ G fd = some (.lst (hs.map .int)) ∧ ((Hout n ps i h0 ∧ ∃ c, Hmid n ps i j h0 hs c) ∨ HtOf n ps hs))
      ⟨_, _, _, rfl, s0, hf, O.imp (fun o => ⟨o, false, Hmid.init o⟩) id⟩ (fun j σ G _ ⟨_, _, _, _, s, _⟩ => SqL.of (s _ _ ha)) ?_ ?_⟩
    · rintro j x σ G hx ⟨o4, o5, hs, rfl, s0, hf, M⟩
      obtain ⟨p, hp, t, rfl, htp⟩ := TLp.at tt hx
      have pm := mem_of_get hp
      obtain ⟨r1, r2, r3, r4⟩ := r _ pm
      have hlen : hs.length = n := by
        rcases M with ⟨_, c, M⟩ | M
        · exact M.h.len
        · exact M.len
      refine ⟨_, _, rfl, SqT.of (s0 _ _ htp), rfl, _, _, rfl, _, _, rfl, rfl, ?_⟩
      walk_at "go"
      refine ⟨fd, _, _, _, rfl, rfl, SqL.of hf, get_gv r3 (by omega), ?_⟩
      walk_at "go"
      refine ⟨fd, _, _, _, rfl, rfl, SqL.of hf, get_gv r1 (by omega), ?_⟩
      walk_at "go"
      refine ⟨_, _, rfl, ?_⟩
      walk_at "go"
      refine ⟨fd, _, _, p.2.toNat, rfl, rfl, hf, ?_, ?_⟩
      · unfold ixN
        rw [if_pos r3, if_pos (by rw [List.length_map]; omega)]
      by_cases c1 : gv hs p.2 < gv hs p.1 + 1
      · have em : (if gv hs p.2 < gv hs p.1 + 1 then gv hs p.1 + 1 else gv hs p.2) = gv hs p.1 + 1 := if_pos c1
        refine ⟨_, _, hs.set p.2.toNat (gv hs p.1 + 1), rfl, s0.mut nfd0, ?_, ?_⟩
        · rw [upd_same, List.map_set]
          show some (HO.lst ((hs.map V.int).set p.2.toNat (V.int (if gv hs p.2 < gv hs p.1 + 1 then gv hs p.1 + 1 else gv hs p.2)))) = _
          rw [em]
        · rcases M with ⟨o, c, M⟩ | M
          · exact .inl ⟨o, true, M.put r o hp (by omega)⟩
          · exact absurd c1 (Hmid.still M pm)
      · have em : (if gv hs p.2 < gv hs p.1 + 1 then gv hs p.1 + 1 else gv hs p.2) = gv hs p.2 := if_neg c1
        refine ⟨_, _, hs, rfl, s0.mut nfd0, ?_, ?_⟩
        · rw [upd_same]
          show some (HO.lst ((hs.map V.int).set p.2.toNat (V.int (if gv hs p.2 < gv hs p.1 + 1 then gv hs p.1 + 1 else gv hs p.2)))) = _
          rw [em, ← List.map_set, set_gv (by omega)]
        · rcases M with ⟨o, c, M⟩ | M
          · exact .inl ⟨o, c, M.skip r o hp (by omega)⟩
          · exact .inr M
    · rintro σ G ⟨o4, o5, hs, rfl, s0, hf, M⟩
      refine ⟨_, _, _, hs, rfl, s0, hf, ?_⟩
      rcases M with ⟨o, c, M⟩ | M
      · rw [lx] at M
        cases c with
        | false => exact .inr (M.done r)
        | true => exact .inl (M.next r o)
      · exact .inr M
  · rintro σ G ⟨o3, o4, o5, hs, rfl, s0, hf, O⟩
    rw [en] at O
    have e : hs = ht := by
      rcases O with o | o
      · exact Hout.end_ r kt o
      · exact o.same r kt
    subst e
    walk_at "go"
    exact q fd G nfd0 s0 hf
theorem len_round (h : sp_round K vs H Q E) : vs.length = 2 := by
  obtain ⟨n, a, xs, ps, rfl, _⟩ := h
  rfl
theorem rg_eq (n : Nat) : rgV 0 (n : Int) = ((List.range n).map Int.ofNat).map V.int := by
  unfold rgV
  rw [List.map_map]
  have e : ((n : Int) - 0).toNat = n := by omega
  rw [e]
  refine List.map_congr_left fun i _ => ?_
  show V.int (0 + (i : Int)) = V.int (Int.ofNat i)
  rw [Int.zero_add] <;> rfl
theorem in_ints (p : Int) (L : List Int) : inV (.int p) (L.map V.int) = decide (p ∈ L) := by
  induction L with
  | nil => rfl
  | cons x L ih =>
    show ((x == p) || inV (.int p) (L.map V.int)) = _
    rw [ih]
    by_cases h1 : p = x
    · subst h1
      simp
    · have : ¬ x = p := fun z => h1 z.symm
      simp [h1, this]
theorem filt1 {α : Type} (P : α → Prop) [DecidablePred P] (x : α) : [x].filter (fun y => decide (P y)) = if P x then [x] else [] := by
  by_cases c : P x
  · rw [if_pos c, List.filter_cons_of_pos (by rw [decide_eq_true c])] <;> rfl
  · rw [if_neg c, List.filter_cons_of_neg (by rw [decide_eq_false c]; exact Bool.false_ne_true)] <;> rfl
theorem leftK_few (ps : List Arr) (n : Nat) : ∀ k, (leftK ps n k).length ≤ n
  | 0 => by
    show ((List.range n).map Int.ofNat).length ≤ n
    rw [List.length_map, List.length_range]
    exact Nat.le_refl _
  | k + 1 => Nat.le_trans (List.length_filter_le _ _) (leftK_few ps n k)
theorem pure_round (h : sp_round K vs H Q E) : t_round K (ends Q) (st 7 vs) H := by
  obtain ⟨n, a, xs, ps, rfl, ha, tt, lp, hn, r, q⟩ := h
  have lx : xs.length = ps.length := by rw [paired_len tt]; simp
  have en : ((n : Int)).toNat = n := by omega
  walk_at "go"
  refine ⟨.of_le (by decide) (by omega) (by decide) (by omega), ?_⟩
  refine fun l0 nl0 => ?_
  generalize e1 : upd _ l0 _ = H1
  have s1 := Same.of_eq e1 nl0
  replace e1 := new_at e1
  rw [rg_eq] at e1
  walk_at "go"
  refine ⟨by omega, by omega, for_n (n := ((n : Int)).toNat) (fun i σ G => ∃ (o3 : Option V) (ll : Addr), σ = [some (.int n), some (.ref a), some (.ref ll), o3, none, none, none] ∧ Same H G ∧ G ll = some (.lst ((leftK ps n i).map .int)))
    ⟨_, l0, rfl, s1, e1⟩ ?_ ?_⟩
  · rintro i σ G hi ⟨o3, ll, rfl, s0, hll⟩
    have lk := leftK_few ps n i
    have enx : leftK ps n (i + 1) = leftS ps (leftK ps n i) := rfl
    rw [enx]
    generalize leftK ps n i = L at hll lk
    clear enx
    refine ⟨_, rfl, ll, rfl, ⟨_, SqL.of hll⟩, fun D hD => ?_⟩
    refine lc_list (K := K) (a := ll) (xs := L.map .int) (fun j G' => Same G G' ∧ G' D = some (.lst (((L.take j).filter fun p => decide (∃ q ∈ ps, q.2 = p ∧ q.1 ∈ L)).map .int)))
      ⟨Same.new hD, upd_same⟩ (fun j G' _ ⟨s, _⟩ => SqL.of (s _ _ hll)) ?_ ?_
    · rintro j v G2 hx ⟨s2, hd2⟩
      obtain ⟨p, hp, rfl⟩ := get_map hx
      have hj := lt_of_get hp
      refine ⟨rfl, _, rfl, a, rfl, ⟨_, SqL.of (s2 _ _ (s0 _ _ ha))⟩, fun D2 hD2 => ?_⟩
      refine lc_list (K := K) (a := a) (xs := xs) (fun k G' => Same G2 G' ∧ G' D2 = some (.lst (((ps.take k).filter fun q => decide (q.2 = p ∧ q.1 ∈ L)).map fun _ => V.int 1)))
        ⟨Same.new hD2, upd_same⟩ (fun k G' _ ⟨s, _⟩ => SqL.of (s _ _ (s2 _ _ (s0 _ _ ha)))) ?_ ?_
      · rintro k v G3 hx ⟨s3, hd3⟩
        obtain ⟨w, hw, t, rfl, htw⟩ := TLp.at tt hx
        have hk := lt_of_get hw
        have s03 := (s0.trans s2).trans s3
        have skip : ¬ (w.2 = p ∧ w.1 ∈ L) → Same G2 G3 ∧ G3 D2 = some (.lst (((ps.take (k + 1)).filter fun q => decide (q.2 = p ∧ q.1 ∈ L)).map fun _ => V.int 1)) := fun c => by
          rw [take_snoc hw, List.filter_append, filt1, if_neg c, List.append_nil]
          exact ⟨s3, hd3⟩
        refine ⟨_, _, rfl, SqT.of (s03 _ _ htw), rfl, _, _, rfl, _, _, rfl, rfl, ?_⟩
        refine ⟨rfl, ?_⟩
        walk_at "go"
        refine ⟨rfl, _, rfl, iteE (fun c => ?_) fun c => skip fun z => c z.1⟩
        walk_at "go"
        refine ⟨ll, _, rfl, .inl (SqL.of ((s2.trans s3) _ _ hll)), rfl, flat_ints _, _, rfl, ?_⟩
        rw [if_neg Bool.false_ne_true, in_ints]
        refine iteD (fun c2 => ?_) fun c2 => skip fun z => c2 z.2
        walk_at "go"
        have lc : (((ps.take k).filter fun q => decide (q.2 = p ∧ q.1 ∈ L)).map fun _ => V.int 1).length ≤ 1000 := by
          rw [List.length_map]
          refine Nat.le_trans (List.length_filter_le _ _) ?_
          rw [List.length_take]
          omega
        refine ⟨_, hd3, lin' (by omega), s3.mut hD2, ?_⟩
        rw [upd_same, take_snoc hw, List.filter_append, filt1, if_pos ⟨c, c2⟩, List.map_append] <;> rfl
      · rintro G3 ⟨s3, hd3⟩
        rw [lx, List.take_length] at hd3
        refine ⟨sz0, ?_⟩
        refine fun z4 nz4 => ?_
        generalize e4 : upd _ z4 _ = G4
        have s4 := Same.of_eq e4 nz4
        replace e4 := new_at e4
        have hd4 := s4 _ _ hd3
        have e5 : ((ps.filter fun q => decide (q.2 = p ∧ q.1 ∈ L)).map fun _ => V.int 1) = ((ps.filter fun q => decide (q.2 = p ∧ q.1 ∈ L)).map fun _ => (1 : Int)).map V.int := by rw [List.map_map] <;> rfl
        rw [e5] at hd4
        have s24 := s3.trans s4
        refine ⟨_, _, dp_il (SqL.of hd4), dp_il (ns := []) (SqL.of e4), shaped_ints _, shaped_ints _, _, rfl, ?_⟩
        rw [eqv_li]
        have iff : ((ps.filter fun q => decide (q.2 = p ∧ q.1 ∈ L)).map fun _ => (1 : Int)) = [] ↔ ¬ ∃ q ∈ ps, q.2 = p ∧ q.1 ∈ L := by
          rw [List.map_eq_nil_iff, List.filter_eq_nil_iff]
          constructor
          · rintro h ⟨q, h1, h2⟩
            exact h q h1 (decide_eq_true h2)
          · intro h q h1 h2
            exact h ⟨q, h1, of_decide_eq_true h2⟩
        rw [take_snoc hp, List.filter_append, filt1, List.map_append]
        refine iteDn (fun c => ?_) fun c => ?_
        · have c' : ∃ q ∈ ps, q.2 = p ∧ q.1 ∈ L := Classical.byContradiction fun z => c (iff.mpr z)
          rw [if_pos c']
          walk_at "go"
          have ld : (((L.take j).filter fun p => decide (∃ q ∈ ps, q.2 = p ∧ q.1 ∈ L)).map V.int).length ≤ 1000 := by
            rw [List.length_map]
            refine Nat.le_trans (List.length_filter_le _ _) ?_
            rw [List.length_take]
            omega
          exact ⟨_, s24 _ _ hd2, lin' (by omega), (s2.trans s24).mut hD, upd_same⟩
        · rw [if_neg (iff.mp c)]
          exact ⟨s2.trans s24, by simpa using s24 _ _ hd2⟩
    · rintro G2 ⟨s2, hd2⟩
      rw [show (L.map V.int).length = L.length by simp, List.take_length] at hd2
      exact ⟨_, D, rfl, s0.trans s2, hd2⟩
  · rintro σ G ⟨o3, ll, rfl, s0, hll⟩
    rw [en] at hll
    walk_at "go"
    refine fun z1 nz1 => ?_
    generalize e2 : upd _ z1 _ = G1
    have s2 := Same.of_eq e2 nz1
    replace e2 := new_at e2
    refine ⟨_, _, dp_il (SqL.of (s2 _ _ hll)), dp_il (ns := []) (SqL.of e2), shaped_ints _, shaped_ints _, ?_⟩
    rw [eqv_li]
    refine q _ G1 ?_ (s0.trans s2)
    by_cases c : leftK ps n n = []
    · rw [decide_eq_true c]
      exact ⟨fun z => (nomatch z), fun z => absurd (ht_left r c) z⟩
    · rw [decide_eq_false c]
      exact ⟨fun _ ⟨ht, k⟩ => c (left_nil r k), fun _ => rfl⟩
theorem len_due_k09 (h : sp_due_k09 K vs H Q E) : vs.length = 2 := by
  obtain ⟨m, a, xs, ps, rfl, _⟩ := h
  rfl
theorem pure_due_k09 (h : sp_due_k09 K vs H Q E) : t_due_k09 K (ends Q) (st 4 vs) H := by
  obtain ⟨m, a, xs, ps, rfl, ha, tt, lp, q⟩ := h
  have lx : xs.length = ps.length := by rw [paired_len tt]; simp
  have bad : ¬ OkM m → Q (.int 0) H := fun c => q 0 H (.inl ⟨c, rfl⟩) (Same.refl _)
  walk_at "go"
  refine iteD (fun c => bad (by omega)) fun c1 => ?_
  walk_at "go"
  refine iteD (fun c => bad (by omega)) fun c2 => ?_
  have ok : OkM m := by omega
  clear bad
  obtain ⟨n, rfl⟩ : ∃ n : Nat, m = n := ⟨m.toNat, by omega⟩
  have en : ((n : Int)).toNat = n := by omega
  refine ⟨_, rfl, a, rfl, ⟨_, SqL.of ha⟩, for_list (K := K) (a := a) (xs := xs) (fun i σ G => G = H ∧ ∃ (o2 o3 : Option V), σ = [some (.int n), some (.ref a), o2, o3] ∧ InR n (ps.take i))
    ⟨rfl, _, _, rfl, fun p hp => (nomatch hp)⟩ (fun i σ G _ ⟨e, _⟩ => by rw [e]; exact SqL.of ha) ?_ ?_⟩
  · rintro i x σ G hx ⟨rfl, o2, o3, rfl, r⟩
    obtain ⟨p, hp, t, rfl, htp⟩ := TLp.at tt hx
    have no : ¬ (0 ≤ p.1 ∧ p.1 < n ∧ 0 ≤ p.2 ∧ p.2 < n) → Q (.int 1) G := fun z => q 1 G (.inr (.inl ⟨ok, fun y => z (y p (mem_of_get hp)), rfl⟩)) (Same.refl _)
    refine ⟨_, _, rfl, SqT.of htp, rfl, _, _, rfl, _, _, rfl, rfl, ?_⟩
    walk_at "go"
    refine ⟨_, _, rfl, ?_⟩
    walk_at "go"
    refine iteD (fun c => no ?_) fun c3 => ?_
    · split at c <;> omega
    walk_at "go"
    refine ⟨_, _, rfl, ?_⟩
    walk_at "go"
    refine iteD (fun c => no ?_) fun c4 => ?_
    · split at c <;> omega
    refine ⟨rfl, _, _, rfl, fun q hq => ?_⟩
    rw [take_snoc hp] at hq
    rcases List.mem_append.mp hq with hq | hq
    · exact r q hq
    · rw [List.mem_singleton.mp hq]
      split at c3 <;> split at c4 <;> omega
  · rintro σ G ⟨rfl, o2, o3, rfl, r⟩
    rw [lx, List.take_length] at r
    walk_at "go"
    refine ⟨n, a, xs, ps, rfl, ha, tt, lp, by omega, r, fun b H1 hb s1 => ?_⟩
    refine ⟨_, rfl, iteB (fun c => ?_) fun c => ?_⟩
    · walk_at "go"
      exact q 2 H1 (.inr (.inr (.inl ⟨ok, r, by rw [en]; exact hb.mp c, rfl⟩))) s1
    · walk_at "go"
      have ex : ∃ ht, HtOf n ps ht := Classical.byContradiction fun z => by
        rw [hb.mpr z] at c
        cases c
      exact q 7 H1 (.inr (.inr (.inr ⟨ok, r, by rw [en]; exact ex, rfl⟩))) s1
theorem len_class_k09 (h : sp_class_k09 K vs H Q E) : vs.length = 3 := by
  obtain ⟨m, a, xs, ps, w, rfl, _⟩ := h
  rfl
def t_suite9 (K : PySem.W.Frag) (a : Addr) (cls : Value) (d : Option Addr) : TS :=
  (tSeq (tFor (iListN K (tLst (tCons (tTup (tCons (tC (.int 0)) (tCons (tC (.int 0)) tNil))) (tCons (tTup (tCons (tC (.int 1)) (tCons (tC (.int 1)) tNil))) (tCons (tTup (tCons (tC (.int 2)) (tCons (tC (.int 5)) tNil))) tNil))))) (gTup K 2 (gCons (gName 4) (gCons (gName 5) gNil))) (tIfS (tB (tCallE (sp_only K) a cls d (tCons (tVar 3) (tCons (tVar 5) tNil)))) (tRet (tVar 4)) tNext)) (tRet (tUn oNeg (tC (.int 1)))))
theorem suite9 {Ds : Ends} {σ : L2.St} {a : Addr} {cls : Value} {d : Option Addr} (s0 s1 s2 o4 o5 : Option V) (i : Nat) (r : Int) (hi : (i = 0 ∧ r = 0) ∨ (i = 1 ∧ r = 1) ∨ (i = 5 ∧ r = 2)) (hσ : σ = [s0, s1, s2, some (.ref a), o4, o5]) (hc : cls = .ref (exA K i)) (hd : d = none) (q : ∀ H', Same H H' → Ds.rt (.int r) H') :
    t_suite9 K a cls d Ds σ H := by
  subst hσ hc hd
  unfold t_suite9
  walk_at "go"
  refine fun t1 nt1 => ?_
  generalize e1 : upd _ t1 _ = H1
  have s1 := Same.of_eq e1 nt1
  replace e1 := new_at e1
  walk_at "go"
  refine fun t2 nt2 => ?_
  generalize e2 : upd _ t2 _ = H2
  have s2 := Same.of_eq e2 nt2
  replace e2 := new_at e2
  walk_at "go"
  refine fun t3 nt3 => ?_
  generalize e3 : upd _ t3 _ = H3
  have s3 := Same.of_eq e3 nt3
  replace e3 := new_at e3
  walk_at "go"
  refine fun l4 nl4 => ?_
  generalize e4 : upd _ l4 _ = H4
  have s4 := Same.of_eq e4 nl4
  replace e4 := new_at e4
  have s04 := ((s1.trans s2).trans s3).trans s4
  have u1 := (s2.trans s3).trans s4
  have u2 := s3.trans s4
  refine ⟨l4, rfl, ⟨_, SqL.of e4⟩, for_listN (K := K) (n := 3) (fun j σ G => ∃ o1 o2 : Option V, σ = [s0, _, _, some (.ref a), o1, o2] ∧ Same H4 G ∧ j ≤ 2 ∧ (j = 0 ∨ i ≠ 0) ∧ (j ≤ 1 ∨ i ≠ 1)) ⟨_, _, rfl, Same.refl _, by omega, .inl rfl, .inl (by omega)⟩ ?_⟩
  rintro j σ G ⟨o1, o2, rfl, sG, hj, h0, h1⟩
  refine ⟨by omega, [V.ref t1, V.ref t2, V.ref t3], ?_⟩
  have hl := SqL.of (K := K) (sG _ _ e4)
  obtain rfl | rfl | rfl : j = 0 ∨ j = 1 ∨ j = 2 := by omega
  · refine ⟨_, hl, rfl, _, _, rfl, SqT.of (sG _ _ (u1 _ _ e1)), rfl, _, _, rfl, _, _, rfl, rfl, ?_⟩
    walk_at "go"
    refine ⟨rfl, i, 0, by omega, by omega, rfl, rfl, fun G2 s5 => ?_⟩
    refine ⟨_, rfl, iteD (fun c => ?_) fun c => ?_⟩
    · walk_at "go"
      have e : r = 0 := by omega
      subst e
      exact q G2 ((s04.trans sG).trans s5)
    · walk_at "go"
      exact ⟨_, _, rfl, sG.trans s5, by omega, .inr c, .inl (by omega)⟩
  · refine ⟨_, hl, rfl, _, _, rfl, SqT.of (sG _ _ (u2 _ _ e2)), rfl, _, _, rfl, _, _, rfl, rfl, ?_⟩
    walk_at "go"
    refine ⟨rfl, i, 1, by omega, by omega, rfl, rfl, fun G2 s5 => ?_⟩
    refine ⟨_, rfl, iteD (fun c => ?_) fun c => ?_⟩
    · walk_at "go"
      have e : r = 1 := by omega
      subst e
      exact q G2 ((s04.trans sG).trans s5)
    · walk_at "go"
      exact ⟨_, _, rfl, sG.trans s5, by omega, .inr (by omega), .inr c⟩
  · refine ⟨_, hl, rfl, _, _, rfl, SqT.of (sG _ _ (s4 _ _ e3)), rfl, _, _, rfl, _, _, rfl, rfl, ?_⟩
    walk_at "go"
    refine ⟨rfl, i, 5, by omega, by omega, rfl, rfl, fun G2 s5 => ?_⟩
    refine ⟨_, rfl, iteD (fun c => ?_) fun c => ?_⟩
    · walk_at "go"
      have e : r = 2 := by omega
      subst e
      exact q G2 ((s04.trans sG).trans s5)
    · exfalso
      omega
theorem pure_class_k09 (ex0 : PySem.W.exmOne K (.ref (He.ga K "NoPoints")) (.ref (He.ga K "TieError")) = some true) (ex1 : PySem.W.exmOne K (.ref (He.ga K "NoPoint")) (.ref (He.ga K "TieError")) = some true) (ex5 : PySem.W.exmOne K (.ref (He.ga K "Round")) (.ref (He.ga K "TieError")) = some true)
    (h : sp_class_k09 K vs H Q E) : t_class_k09 K (ends Q) (st 6 vs) H := by
  obtain ⟨m, a, xs, ps, w, rfl, ha, tt, lp, q⟩ := h
  have rr : OkM m → InR m ps → InR m.toNat ps := fun ok r => by
    have e : ((m.toNat : Nat) : Int) = m := by omega
    rw [e]
    exact r
  walk_at "go"
  refine ⟨rfl, _, rfl, iteE (fun c => ?_) fun c => ?_⟩
  · walk_at "go"
    refine ⟨m, a, xs, ps, rfl, ha, tt, fun b => ?_, fun b1 b2 => ?_, fun b1 b2 b3 H' s' => ?_, fun b1 b2 hs p H' kt np s' e' => ?_⟩
    · refine ⟨true, ex0, fun _ a ha => ?_, fun z => (nomatch z)⟩
      exact suite9 _ _ _ _ _ 0 0 (.inl ⟨rfl, rfl⟩) rfl rfl rfl fun H2 s2 => q 0 H2 (.inl ⟨b, rfl⟩) s2
    · refine ⟨true, ex1, fun _ a ha => ?_, fun z => (nomatch z)⟩
      exact suite9 _ _ _ _ _ 1 1 (.inr (.inl ⟨rfl, rfl⟩)) rfl rfl rfl fun H2 s2 => q 1 H2 (.inr (.inl ⟨b1, b2, rfl⟩)) s2
    · refine ⟨true, ex5, fun _ a ha => ?_, fun z => (nomatch z)⟩
      exact suite9 _ _ _ _ _ 5 2 (.inr (.inr ⟨rfl, rfl⟩)) rfl rfl rfl fun H2 s2 => q 2 H2 (.inr (.inr (.inl ⟨b1, b2, b3, rfl⟩))) (s'.trans s2)
    · walk_at "go"
      exact q 7 H' (.inr (.inr (.inr ⟨b1, b2, ⟨hs, kt⟩, rfl⟩))) s'
  · walk_at "go"
    refine ⟨m, a, xs, ps, rfl, ha, tt, lp, fun b H' s' => ?_, fun b1 b2 H' s' => ?_, fun b1 b2 b3 H' s' => ?_, fun b1 b2 ds row p H' kt L np s' e' => ?_⟩
    · refine ⟨true, ex0, fun _ a ha => ?_, fun z => (nomatch z)⟩
      exact suite9 _ _ _ _ _ 0 0 (.inl ⟨rfl, rfl⟩) rfl rfl rfl fun H2 s2 => q 0 H2 (.inl ⟨b, rfl⟩) (s'.trans s2)
    · refine ⟨true, ex1, fun _ a ha => ?_, fun z => (nomatch z)⟩
      exact suite9 _ _ _ _ _ 1 1 (.inr (.inl ⟨rfl, rfl⟩)) rfl rfl rfl fun H2 s2 => q 1 H2 (.inr (.inl ⟨b1, b2, rfl⟩)) (s'.trans s2)
    · refine ⟨true, ex5, fun _ a ha => ?_, fun z => (nomatch z)⟩
      exact suite9 _ _ _ _ _ 5 2 (.inr (.inr ⟨rfl, rfl⟩)) rfl rfl rfl fun H2 s2 => q 2 H2 (.inr (.inr (.inl ⟨b1, b2, fun z => b3 ((ht_sw_iff (rr b1 b2)).mp z), rfl⟩))) (s'.trans s2)
    · walk_at "go"
      exact q 7 H' (.inr (.inr (.inr ⟨b1, b2, (ht_sw_iff (rr b1 b2)).mpr ⟨ds, kt⟩, rfl⟩))) s'
end Ar
namespace Ar
open PySem PySem.Spec L2
local macro_rules | `(tactic| walk_at "g1") => `(tactic| first
  | refine ⟨_, rfl, ?_⟩
  | refine ⟨_, _, rfl, rfl, ?_⟩
  | refine ⟨(by show (0 : Int) < _; decide), ?_⟩
  | refine ⟨⟨by decide, by decide⟩, ?_⟩
  | refine ⟨(show CMul _ _ from .inl ⟨by omega, by omega⟩), ?_⟩
  | refine ⟨(show CMul _ _ from .inr ⟨by omega, by omega⟩), ?_⟩
  | refine ⟨(show (_ : Int) ≠ 0 by decide), ?_⟩
  | refine ⟨sz2, ?_⟩
  | refine ⟨sz0, ?_⟩
  | refine ⟨sz3, ?_⟩)
local macro_rules | `(tactic| walk_at "ty") => `(tactic| first | exact .int _ | exact .bl _ | exact .tup (by assumption) | exact .lst (by assumption))
local macro_rules | `(tactic| walk_at "isT") => `(tactic| refine ⟨_, _, _, _, true, rfl, .ty _, .base (by walk_at "ty"), kit_ty (by decide +kernel), ?_⟩)
local macro_rules | `(tactic| walk_at "isF") => `(tactic| refine ⟨_, _, _, _, false, rfl, .ty _, .base (by walk_at "ty"), kit_ty (by decide +kernel), ?_⟩)
local macro_rules | `(tactic| walk_at "cell") => `(tactic| ((repeat walk_at "g1"); refine ⟨_, _, _, rfl, (by assumption), (by assumption), (by first | decide | omega), ?_⟩; repeat walk_at "g1"))
local macro_rules | `(tactic| walk_at "go") => `(tactic| repeat walk_at "g1")
def t_least_k09 (K : PySem.W.Frag) : TS :=
  (tSeq (tAsg (tCall (sp_law_heights_k09 K) [] E0 (tCons (tVar 0) (tCons (tLc (iList K (tVar 1)) (gTup K 2 (gCons (gName 2) (gCons (gName 3) gNil))) tYes (tTup (tCons (tVar 3) (tCons (tVar 2) tNil))) [2, 3]) tNil))) (gName 4)) (tSeq (tAsg (tLst tNil) (gName 5)) (tSeq (tFor (iRng3 (tCons (tMaxDef K (tVar 4) (tC (.int 0))) (tCons (tC (.int 0)) (tCons (tUn oNeg (tC (.int 1))) tNil)))) (gName 6) (tSeq (tAsg (tLc (iRng1 (tCons (tVar 0) tNil)) (gName 7) (tTest (tOp rEq (tOp (rIxL K) (tVar 4) (tVar 7)) (tVar 6))) (tVar 7) [7]) (gName 8)) (Evl.tCut (tIfS (tTru K (tVar 5)) (tAsg (tLc (iList K (tVar 8)) (gName 7) (tTest (tOp (rInD K) (tTup (tCons (tOp (rIxL K) (tVar 5) (tUn oNeg (tC (.int 1)))) (tCons (tVar 7) tNil))) (tVar 1))) (tVar 7) [7]) (gName 8)) tNext) (tDrop (tBM K "list" rAppend (tVar 5) (tCons (tCB (rMin K) (tCons (tVar 8) tNil)) tNil)))))) (tRet (tVar 5)))))
def t_arrows_k09 (K : PySem.W.Frag) : TS :=
  (tSeq (tAsg (tLst tNil) (gName 2)) (Evl.tCut (tIfS (tAnd (tTest (tOp rEq (tOp oMod (tOp oDiv (tCall (sp_cell_at K) [] E0 (tCons (tVar 0) (tCons (tC (.int 0)) tNil))) (tC (.int 13))) (tC (.int 8))) (tC (.int 1)))) (tTest (tOp rEq (tOp oMod (tCall (sp_cell_at K) [] E0 (tCons (tVar 0) (tCons (tC (.int 1)) tNil))) (tC (.int 2))) (tC (.int 1))))) (tSeq (tAsg (tOp (rIxL K) (tLst (tCons (tC (.int 1)) (tCons (tC (.int 5)) (tCons (tC (.int 7)) (tCons (tC (.int 11)) tNil))))) (tOp oMod (tCall (sp_cell_at K) [] E0 (tCons (tVar 0) (tCons (tC (.int 2)) tNil))) (tC (.int 4)))) (gName 3)) (tSeq (tFor (iRng1 (tCons (tOp oSub (tVar 1) (tC (.int 1))) tNil)) (gName 4) (tDrop (tBM K "list" rAppend (tVar 2) (tCons (tTup (tCons (tOp oModN (tOp oMod (tOp oMul (tVar 4) (tVar 3)) (tC (.int 24))) (tVar 1)) (tCons (tOp oModN (tOp oMod (tOp oMul (tOp oAdd (tVar 4) (tC (.int 1))) (tVar 3)) (tC (.int 24))) (tVar 1)) tNil))) tNil)))) (tRet (tVar 2)))) tNext) (tSeq (tFor (iRng1 (tCons (tOp oMul (tOp oMod (tCall (sp_cell_at K) [] E0 (tCons (tVar 0) (tCons (tC (.int 1)) tNil))) (tC (.int 15))) (tCB cInt1 (tCons (tOp oGt (tVar 1) (tC (.int 0))) tNil))) tNil)) (gName 4) (tSeq (tAsg (tOp oMod (tOp oMul (tOp oAdd (tCall (sp_cell_at K) [] E0 (tCons (tVar 0) (tCons (tOp oAdd (tC (.int 4)) (tVar 4)) tNil))) (tOp oMul (tC (.int 17)) (tVar 4))) (tC (.int 48271))) (tC (.int 1000003))) (gName 5)) (tSeq (tAsg (tTup (tCons (tOp oModN (tVar 5) (tVar 1)) (tCons (tOp oModN (tOp oDiv (tVar 5) (tC (.int 67))) (tVar 1)) tNil))) (gName 6)) (Evl.tCut (tIfS (tTest (tOp oGt (tOp oMod (tCall (sp_cell_at K) [] E0 (tCons (tVar 0) (tCons (tC (.int 2)) tNil))) (tC (.int 3))) (tC (.int 0)))) (tSeq (tAsg (tOp oModN (tOp oDiv (tCall (sp_cell_at K) [] E0 (tCons (tVar 0) (tCons (tC (.int 2)) tNil))) (tC (.int 3))) (tVar 1)) (gName 7)) (Evl.tCut (tIfS (tTest (tOp rEq (tOp (rIxT K) (tVar 6) (tC (.int 0))) (tOp (rIxT K) (tVar 6) (tC (.int 1))))) (tAsg (tTup (tCons (tOp (rIxT K) (tVar 6) (tC (.int 0))) (tCons (tOp oModN (tOp oAdd (tOp (rIxT K) (tVar 6) (tC (.int 0))) (tC (.int 1))) (tVar 1)) tNil))) (gName 6)) tNext) (tIfS (tAnd (tTest (tOp rNe (tOp (rIxT K) (tVar 6) (tC (.int 0))) (tOp (rIxT K) (tVar 6) (tC (.int 1))))) (tTest (tOp oGt (tOp oModN (tOp oAdd (tOp (rIxT K) (tVar 6) (tC (.int 0))) (tVar 7)) (tVar 1)) (tOp oModN (tOp oAdd (tOp (rIxT K) (tVar 6) (tC (.int 1))) (tVar 7)) (tVar 1))))) (tAsg (tTup (tCons (tOp (rIxT K) (tVar 6) (tC (.int 1))) (tCons (tOp (rIxT K) (tVar 6) (tC (.int 0))) tNil))) (gName 6)) tNext))) tNext) (tDrop (tBM K "list" rAppend (tVar 2) (tCons (tVar 6) tNil))))))) (tRet (tVar 2)))))
variable {K : PySem.W.Frag} {vs : List V} {H : Hp} {Q : VK} {E : XK}
theorem len_least_k09 (h : sp_least_k09 K vs H Q E) : vs.length = 2 := by
  obtain ⟨n, a, xs, ps, ds, rfl, _⟩ := h
  rfl
theorem ht_mx {n : Nat} {ps : List Arr} {ds : List Int} (r : InR n ps) (hn : n ≤ 24) (hd : HtOf n ps ds) : 0 ≤ maxOr 0 ds ∧ maxOr 0 ds ≤ 24 ∧ (0 < maxOr 0 ds → ∃ v : Int, 0 ≤ v ∧ v < n ∧ gv ds v = maxOr 0 ds) := by
  have ld := hd.len
  cases hds : ds with
  | nil => exact ⟨Int.le_refl _, by decide, fun z => absurd z (by decide)⟩
  | cons x l =>
    rw [← hds]
    obtain ⟨mm, _⟩ := maxOr_mem (d := 0) (ns := ds) (by rw [hds]; exact Nat.succ_pos _)
    obtain ⟨j, hj⟩ := List.getElem?_of_mem mm
    have hjn := lt_of_get hj
    have ev : gv ds (j : Int) = maxOr 0 ds := by
      unfold gv
      rw [List.getD_eq_getElem?_getD, Int.toNat_natCast, hj] <;> rfl
    have h1 := hd.one (j : Int) (by omega) (by omega)
    have h2 := hd.most r (v := (j : Int)) (by omega) (by omega)
    exact ⟨by omega, by omega, fun _ => ⟨j, by omega, by omega, ev⟩⟩
theorem pure_least_k09 (h : sp_least_k09 K vs H Q E) : t_least_k09 K (ends Q) (st 9 vs) H := by
  obtain ⟨n, a, xs, ps, ds, rfl, ha, tt, lp, hn, r, hd, q⟩ := h
  have lx : xs.length = ps.length := by rw [paired_len tt]; simp
  have en : ((n : Int)).toNat = n := by omega
  have ld := hd.len
  walk_at "go"
  refine ⟨⟨_, SqL.of ha⟩, fun D hD => ?_⟩
  refine lc_list (K := K) (a := a) (xs := xs) (fun i H' => Same H H' ∧ ∃ zs, H' D = some (.lst zs) ∧ TL H' zs (((ps.take i).map sw).map p2)) ⟨Same.new hD, [], upd_same, .nil⟩ (fun i G _ ⟨s, _⟩ => SqL.of (s _ _ ha)) ?_ ?_
  · rintro i x G hx ⟨s1, zs, hz, tz⟩
    obtain ⟨p, hp, t, rfl, htp⟩ := TLp.at tt hx
    have hi := lt_of_get hp
    refine ⟨_, _, rfl, SqT.of (s1 _ _ htp), rfl, _, _, rfl, _, _, rfl, rfl, ?_⟩
    refine ⟨rfl, ?_⟩
    walk_at "go"
    refine fun u nu => ?_
    generalize e2 : upd _ u _ = G3
    have s2 := Same.of_eq e2 nu
    replace e2 := new_at e2
    have hz3 := s2 _ _ hz
    have lz : zs.length ≤ 1000 := by
      rw [paired_len tz, List.length_map, List.length_map, List.length_take]
      omega
    have tkd : TK G3 (upd G3 D (.lst (zs ++ [V.ref u]))) := TK.upd fun zs z => by rw [hz3] at z; cases z
    refine ⟨_, hz3, lin' (by omega), (s1.trans s2).mut hD, _, upd_same, ?_⟩
    rw [take_snoc hp, List.map_append]
    exact tl_app (tz.mono (s2.tk.trans tkd)) (tl_one (tkd _ _ e2))
  rintro G1 ⟨s1, zs, hz, tz⟩
  rw [lx, List.take_length] at tz
  walk_at "go"
  refine ⟨n, D, zs, ps.map sw, ds, rfl, hz, tz, hn, r.sw, hd, fun dp G2 ndp s2 edp => ?_⟩
  have s12 := s1.trans s2
  walk_at "go"
  refine fun ro nro => ?_
  generalize e3 : upd _ ro _ = G3
  have s3 := Same.of_eq e3 nro
  replace e3 := new_at e3
  have sA := s12.trans s3
  have edp3 := s3 _ _ edp
  have nro0 : H ro = none := s12.free nro
  have hM := ht_mx r.sw hn hd
  walk_at "go"
  refine ⟨dp, ds, 0, rfl, rfl, SqL.of edp3, ?_⟩
  generalize eM : maxOr 0 ds = M at hM
  walk_at "go"
  refine ⟨_, _, _, _, rfl, RgC.neg (by omega) (by omega) (by omega) (by omega), for_rangeC (lo := M) (c := -1) (n := (M - 0).toNat) (fun i σ G => ∃ (o6 o8 : Option V) (row : List Int), σ = [some (.int n), some (.ref a), none, none, some (.ref dp), some (.ref ro), o6, none, o8] ∧ Same H G ∧ G dp = some (.lst (ds.map .int)) ∧ G ro = some (.lst (row.map .int)) ∧ LongP n ps ds M i row)
    ⟨_, _, [], rfl, sA, edp3, e3, LongP.init n ps ds M⟩ ?_ ?_⟩
  · rintro i σ G hi ⟨o6, o8, row, rfl, s0, hdp, hro, L⟩
    have eleft : M + (i : Int) * -1 = M - i := by omega
    rw [eleft]
    have hleft : 1 ≤ M - i := by omega
    walk_at "go"
    refine ⟨by omega, by omega, fun g0 ng0 => ?_⟩
    refine lc_range (lo := 0) (n := ((n : Int)).toNat) (fun j H' => Same H H' ∧ H' dp = some (.lst (ds.map .int)) ∧ H' ro = some (.lst (row.map .int)) ∧ H' g0 = some (.lst ((((List.range j).map Int.ofNat).filter fun v => decide (gv ds v = M - i)).map .int)))
      ⟨s0.mut (s0.free ng0), by rw [upd_ne (ne_of_none hdp ng0)]; exact hdp, by rw [upd_ne (ne_of_none hro ng0)]; exact hro, upd_same⟩ ?_ ?_
    · rintro j G1 hj ⟨s4, hdp4, hro4, hg4⟩
      refine ⟨rfl, ?_⟩
      walk_at "go"
      refine ⟨dp, _, _, _, rfl, rfl, SqL.of hdp4, get_gv (v := 0 + (j : Int)) (by omega) (by omega), ?_⟩
      have e0 : (0 + (j : Int)) = Int.ofNat j := Int.zero_add _
      have es : ([j].map Int.ofNat).filter (fun v => decide (gv ds v = M - i)) = if gv ds (0 + (j : Int)) = M - i then [Int.ofNat j] else [] := by
        rw [e0]
        exact filt1 _ _
      walk_at "go"
      rw [List.range_succ, List.map_append, List.filter_append, List.map_append, es]
      refine ⟨rfl, _, rfl, iteE (fun c => ?_) fun c => ?_⟩
      · rw [if_pos c]
        walk_at "go"
        refine ⟨_, hg4, lin' ?_, s4.mut (s0.free ng0), by rw [upd_ne (ne_of_none hdp ng0)]; exact hdp4, by rw [upd_ne (ne_of_none hro ng0)]; exact hro4, by rw [upd_same, e0]; rfl⟩
        rw [List.length_map]
        exact Nat.lt_of_le_of_lt (List.length_filter_le _ _) (by rw [List.length_map, List.length_range]; omega)
      · rw [if_neg c]
        exact ⟨s4, hdp4, hro4, by simpa using hg4⟩
    rintro G1 ⟨s4, hdp4, hro4, hg4⟩
    rw [en] at hg4
    generalize eg : ((List.range n).map Int.ofNat).filter (fun v => decide (gv ds v = M - i)) = gs at hg4
    have mg : ∀ v, v ∈ gs ↔ (0 ≤ v ∧ v < n) ∧ gv ds v = M - i := fun v => by
      rw [← eg, List.mem_filter, decide_eq_true_iff, List.mem_map]
      constructor
      · rintro ⟨⟨k, hk, rfl⟩, h⟩
        have := List.mem_range.mp hk
        exact ⟨⟨Int.natCast_nonneg k, by show (k : Int) < n; omega⟩, h⟩
      · rintro ⟨⟨h1, h2⟩, h⟩
        exact ⟨⟨v.toNat, List.mem_range.mpr (by omega), by show ((v.toNat : Nat) : Int) = v; omega⟩, h⟩
    have lg : gs.length ≤ 24 := by
      rw [← eg]
      exact Nat.le_trans (List.length_filter_le _ _) (by rw [List.length_map, List.length_range]; exact hn)
    have ndr : dp ≠ ro := fun z => by rw [z, nro] at edp; cases edp
    refine ⟨fun σ G => ∃ (o6 : Option V) (gp : Addr) (gs : List Int), σ = [some (.int n), some (.ref a), none, none, some (.ref dp), some (.ref ro), o6, none, some (.ref gp)] ∧ Same H G ∧ G dp = some (.lst (ds.map .int)) ∧ G ro = some (.lst (row.map .int)) ∧ G gp = some (.lst (gs.map .int)) ∧
      (∀ v, v ∈ gs ↔ ((0 ≤ v ∧ v < n) ∧ gv ds v = M - i) ∧ ∀ u, 0 < i → row[i - 1]? = some u → (u, v) ∈ ps), ?_, ?_⟩
    · walk_at "go"
      refine ⟨_, .inl ⟨_, SqL.of hro4, rfl⟩, ?_⟩
      have lro := L.len
      refine iteBn (fun c => ?_) fun c => ?_
      · have i0 : 0 < i := by
          cases row with
          | nil => cases c
          | cons x l => rw [← lro]; exact Nat.succ_pos _
        obtain ⟨u, hu⟩ : ∃ u, row[i - 1]? = some u := ⟨row[i - 1]'(by omega), List.getElem?_eq_getElem _⟩
        have hlast : atI (row.map V.int) (-1) = some (.int u) := by
          have e : row = row.take (i - 1) ++ [u] := by
            have := take_snoc hu
            rw [show i - 1 + 1 = row.length by omega, List.take_length] at this
            exact this
          rw [e, List.map_append]
          exact atI_last _ _
        walk_at "go"
        refine ⟨⟨_, SqL.of hg4⟩, fun g1 ng1 => ?_⟩
        have lgm : (gs.map V.int).length = gs.length := by simp
        refine lc_list (K := K) (a := g0) (xs := gs.map .int) (fun j H' => Same H H' ∧ H' g0 = some (.lst (gs.map .int)) ∧ H' dp = some (.lst (ds.map .int)) ∧ H' ro = some (.lst (row.map .int)) ∧ H' g1 = some (.lst (((gs.take j).filter fun v => decide ((u, v) ∈ ps)).map .int)))
          ⟨s4.mut (s4.free ng1), by rw [upd_ne (ne_of_none hg4 ng1)]; exact hg4, by rw [upd_ne (ne_of_none hdp4 ng1)]; exact hdp4, by rw [upd_ne (ne_of_none hro4 ng1)]; exact hro4, upd_same⟩ (fun j G _ ⟨_, h, _⟩ => SqL.of h) ?_ ?_
        · rintro j x G2 hx ⟨s5, hg5, hdp5, hro5, hn5⟩
          obtain ⟨v, hv, rfl⟩ := get_map hx
          refine ⟨rfl, ?_⟩
          walk_at "go"
          refine ⟨ro, _, _, _, rfl, rfl, SqL.of hro5, hlast, ?_⟩
          walk_at "go"
          refine fun t nt => ?_
          generalize e6 : upd _ t _ = G3
          have s6 := Same.of_eq e6 nt
          replace e6 := new_at e6
          have s56 := s5.trans s6
          walk_at "go"
          refine ⟨dI (p2 (u, v)), (ps.map p2).map dI, dp_ti ⟨t, rfl, e6⟩, dp_tl (SqL.of (s56 _ _ ha)) (tt.mono s56.tk), shaped_dI _, shaped_dIs _, ?_⟩
          rw [inL, take_snoc hv, List.filter_append, List.map_append, filt1]
          have hn6 := s6 _ _ hn5
          refine ⟨_, rfl, iteD (fun c => ?_) fun c => ?_⟩
          · rw [if_pos c]
            walk_at "go"
            have nHg1 : H g1 = none := s4.free ng1
            refine ⟨_, hn6, lin' ?_, s56.mut nHg1, ?_, ?_, ?_, by rw [upd_same]; rfl⟩
            · rw [List.length_map]
              exact Nat.lt_of_le_of_lt (List.length_filter_le _ _) (by rw [List.length_take]; omega)
            · rw [upd_ne (ne_of_none hg4 ng1)]; exact s6 _ _ hg5
            · rw [upd_ne (ne_of_none hdp4 ng1)]; exact s6 _ _ hdp5
            · rw [upd_ne (ne_of_none hro4 ng1)]; exact s6 _ _ hro5
          · rw [if_neg c]
            exact ⟨s56, s6 _ _ hg5, s6 _ _ hdp5, s6 _ _ hro5, by simpa using hn6⟩
        · rintro G2 ⟨s5, hg5, hdp5, hro5, hn5⟩
          rw [lgm, List.take_length] at hn5
          refine ⟨_, g1, _, rfl, s5, hdp5, hro5, hn5, fun v => ?_⟩
          rw [List.mem_filter, mg, decide_eq_true_iff]
          constructor
          · rintro ⟨h1, h2⟩
            exact ⟨h1, fun u' _ hu' => by rw [hu] at hu'; cases hu'; exact h2⟩
          · rintro ⟨h1, h2⟩
            exact ⟨h1, h2 u i0 hu⟩
      · have i0 : ¬ 0 < i := by
          cases row with
          | nil => rw [← lro]; exact Nat.lt_irrefl _
          | cons x l => cases c
        exact ⟨_, g0, gs, rfl, s4, hdp4, hro4, hg4, fun v => (mg v).trans ⟨fun h => ⟨h, fun u z => absurd z i0⟩, fun h => h.1⟩⟩
    rintro σ G3 ⟨o6, gp, gs, rfl, s5, hdp5, hro5, hgp5, mg⟩
    have some' : ∃ v, v ∈ gs := by
      rcases Nat.eq_zero_or_pos i with rfl | i0
      · obtain ⟨v, v0, v1, v2⟩ := hM.2.2 (by omega)
        exact ⟨v, (mg v).mpr ⟨⟨⟨v0, v1⟩, by rw [v2]; omega⟩, fun u z => absurd z (Nat.lt_irrefl _)⟩⟩
      · obtain ⟨u, hu⟩ : ∃ u, row[i - 1]? = some u := ⟨row[i - 1]'(by rw [L.len]; omega), List.getElem?_eq_getElem _⟩
        obtain ⟨u0, u1, u2, _⟩ := L.at' (i - 1) u hu
        rcases hd.dn u u0 u1 with z | ⟨x, hx, z⟩
        · omega
        · obtain ⟨y, hy, e⟩ := List.mem_map.mp hx
          obtain ⟨y1, y2⟩ := y
          cases e
          have z : gv ds y2 + 1 = gv ds y1 := z
          have u2 : gv ds y1 = M - ((i - 1 : Nat) : Int) := u2
          have u3 : gv ds y2 = M - (i : Int) := by
            clear mg hM
            omega
          obtain ⟨_, _, r3, r4⟩ := r _ hy
          exact ⟨y2, (mg y2).mpr ⟨⟨⟨r3, r4⟩, u3⟩, fun u' _ hu' => by rw [hu] at hu'; cases hu'; exact hy⟩⟩
    obtain ⟨v0, hv0⟩ := some'
    walk_at "go"
    refine ⟨.inl ⟨rfl, _, SqL.of hro5⟩, ?_⟩
    walk_at "go"
    refine ⟨gp, gs, rfl, SqL.of hgp5, List.length_pos_of_mem hv0, fun v hv hle => ?_⟩
    have lrow : (row.map V.int).length ≤ 24 := by
      rw [List.length_map, L.len]
      omega
    refine ⟨ro, _, _, rfl, rfl, hro5, lin' (by omega), ?_⟩
    obtain ⟨⟨w1, w2⟩, w3⟩ := (mg v).mp hv
    refine ⟨_, _, row ++ [v], rfl, s5.mut nro0, ?_, ?_, L.put w1.1 w1.2 w2 w3 fun w a1 a2 a3 a4 => hle w ((mg w).mpr ⟨⟨⟨a1, a2⟩, a3⟩, a4⟩)⟩
    · rw [upd_ne ndr]
      exact hdp5
    · rw [upd_same, List.map_append] <;> rfl
  · rintro σ G ⟨o6, o8, row, rfl, s0, hdp, hro, L⟩
    have eM2 : (M - 0).toNat = M.toNat := by omega
    rw [eM2] at L
    walk_at "go"
    exact q ro G row (L.done hM.1 eM.symm) nro0 s0 hro
theorem len_arrows_k09 (h : sp_arrows_k09 K vs H Q E) : vs.length = 2 := by
  obtain ⟨a, ns, n, rfl, _⟩ := h
  rfl
theorem pure_arrows_k09 (h : sp_arrows_k09 K vs H Q E) : t_arrows_k09 K (ends Q) (st 8 vs) H := by
  obtain ⟨a, ns, n, rfl, hs, hl, hn, q⟩ := h
  walk_at "go"
  refine fun al nal => ?_
  generalize e1 : upd _ al _ = H1
  have s1 := Same.of_eq e1 nal
  replace e1 := new_at e1
  have hs1 := s1.seq hs
  walk_at "go"
  refine ⟨fun σ G => σ = [some (.ref a), some (.int n), some (.ref al), none, none, none, none, none] ∧ G = H1, ?_, ?_⟩
  · walk_at "cell"
    refine ⟨rfl, _, rfl, iteE (fun c1 => ?_) fun c1 => ⟨rfl, rfl⟩⟩
    walk_at "cell"
    refine ⟨rfl, _, rfl, iteE (fun c2 => ?_) fun c2 => ⟨rfl, rfl⟩⟩
    walk_at "go"
    refine ⟨by show 4 ≤ sizeLine; decide, ?_⟩
    refine fun l2 nl2 => ?_
    generalize e2 : upd _ l2 _ = H2
    have s2 := Same.of_eq e2 nl2
    replace e2 := new_at e2
    have hs2 := s2.seq hs1
    walk_at "cell"
    have g0 := Int.emod_nonneg (ns.getD (Int.toNat 2) 0) (show (4 : Int) ≠ 0 by decide)
    have g1 := Int.emod_lt_of_pos (ns.getD (Int.toNat 2) 0) (show (0 : Int) < 4 by decide)
    obtain ⟨z, hz⟩ := ix_int (zs := [1, 5, 7, 11]) g0 g1
    refine ⟨l2, _, _, _, rfl, rfl, SqL.of e2, hz, ?_⟩
    walk_at "go"
    refine ⟨by omega, by omega, for_n (n := ((n : Int) - 1).toNat) (fun i σ G => ∃ (o4 : Option V) (xs : List V) (ps : List Arr), σ = [some (.ref a), some (.int n), some (.ref al), some (.int z), o4, none, none, none] ∧ Same H G ∧ G al = some (.lst xs) ∧ TL G xs (ps.map p2) ∧ ps.length ≤ i)
      ⟨_, [], [], rfl, s1.trans s2, s2 _ _ e1, .nil, Nat.le_refl _⟩ ?_ ?_⟩
    · rintro i σ G hi ⟨o4, xs, ps, rfl, sG, hal, tx, fp⟩
      have lx : xs.length = ps.length := by rw [paired_len tx]; simp
      walk_at "go"
      refine ⟨.inl ⟨rfl, _, SqL.of hal⟩, ?_⟩
      walk_at "go"
      refine ⟨by show (n : Int) ≠ 0; omega, ?_⟩
      walk_at "go"
      refine ⟨by show (n : Int) ≠ 0; omega, ?_⟩
      walk_at "go"
      refine fun t nt => ?_
      generalize e3 : upd _ t _ = G2
      have s3 := Same.of_eq e3 nt
      replace e3 := new_at e3
      have hal3 := s3 _ _ hal
      refine ⟨al, _, _, rfl, rfl, hal3, lin' (by omega), ?_⟩
      have tkd : TK G2 (upd G2 al (.lst (xs ++ [V.ref t]))) := TK.upd fun zs z => by rw [hal3] at z; cases z
      refine ⟨_, _, ps ++ [_], rfl, (sG.trans s3).mut nal, upd_same, tl_app (tx.mono (s3.tk.trans tkd)) (tl_one (tkd _ _ e3)), ?_⟩
      rw [List.length_append, List.length_singleton]
      omega
    · rintro σ G ⟨o4, xs, ps, rfl, sG, hal, tx, fp⟩
      walk_at "go"
      exact q al G xs ps (by omega) nal sG hal tx
  rintro σ G0 ⟨rfl, rfl⟩
  walk_at "cell"
  have g0 := Int.emod_nonneg (ns.getD (Int.toNat 1) 0) (show (15 : Int) ≠ 0 by decide)
  have g1 := Int.emod_lt_of_pos (ns.getD (Int.toNat 1) 0) (show (0 : Int) < 15 by decide)
  refine .inr ⟨_, rfl, ?_⟩
  walk_at "go"
  try dsimp only
  generalize ek : (ns.getD (Int.toNat 1) 0 % 15 * if decide (0 < (n : Int)) = true then 1 else 0) = k
  have cnt : 0 ≤ k ∧ k < 15 ∧ (0 < k → 0 < (n : Int)) := by
    by_cases c : 0 < (n : Int)
    · rw [decide_eq_true c, if_pos rfl] at ek
      omega
    · rw [decide_eq_false c, if_neg Bool.false_ne_true] at ek
      omega
  refine ⟨by omega, by omega, for_n (D := { nx := tRet (tVar 2) (ends Q), rt := Q }) (n := k.toNat) (fun i σ G => ∃ (o4 o5 o6 o7 : Option V) (xs : List V) (ps : List Arr), σ = [some (.ref a), some (.int n), some (.ref al), none, o4, o5, o6, o7] ∧ Same H G ∧ SqL K G a (ns.map V.int) ∧ G al = some (.lst xs) ∧ TL G xs (ps.map p2) ∧ ps.length ≤ i)
    ⟨_, _, _, _, [], [], rfl, s1, hs1, e1, .nil, Nat.le_refl _⟩ ?_ ?_⟩
  · rintro i σ G hi ⟨o4, o5, o6, o7, xs, ps, rfl, sG, hsG, hal, tx, fp⟩
    have n0 : 0 < (n : Int) := cnt.2.2 (by omega)
    have lx : xs.length = ps.length := by rw [paired_len tx]; simp
    walk_at "cell"
    refine ⟨by show (n : Int) ≠ 0; omega, ?_⟩
    walk_at "go"
    refine ⟨by show (n : Int) ≠ 0; omega, ?_⟩
    walk_at "go"
    refine fun tp ntp => ?_
    generalize e2 : upd _ tp _ = G1
    have s2 := Same.of_eq e2 ntp
    replace e2 := new_at e2
    have hal2 := s2 _ _ hal
    have hs2 := s2.seq hsG
    have tx2 := tx.mono s2.tk
    have sG2 := sG.trans s2
    walk_at "go"
    refine ⟨fun σ G' => ∃ (tp : Addr) (x y : Int) (o5 o7 : Option V), σ = [some (.ref a), some (.int n), some (.ref al), none, some (.int i), o5, some (.ref tp), o7] ∧ Same G1 G' ∧ G' tp = some (.tup [.int x, .int y]), ?_, ?_⟩
    · walk_at "cell"
      refine iteD (fun c2 => ?_) fun c2 => ⟨tp, _, _, _, _, rfl, Same.refl _, e2⟩
      walk_at "cell"
      refine ⟨by show (n : Int) ≠ 0; omega, ?_⟩
      walk_at "go"
      refine ⟨fun σ G' => ∃ (tp : Addr) (x y : Int) (o5 : Option V) (z : Int), σ = [some (.ref a), some (.int n), some (.ref al), none, some (.int i), o5, some (.ref tp), some (.int z)] ∧ Same G1 G' ∧ G' tp = some (.tup [.int x, .int y]), ?_, ?_⟩
      · walk_at "go"
        refine ⟨_, _, _, _, rfl, rfl, SqT.of e2, at0, ?_⟩
        walk_at "go"
        refine ⟨_, _, _, _, rfl, rfl, SqT.of e2, at1, ?_⟩
        walk_at "go"
        refine ⟨rfl, _, rfl, iteE (fun c3 => ?_) fun c3 => ⟨tp, _, _, _, _, rfl, Same.refl _, e2⟩⟩
        walk_at "go"
        refine ⟨_, _, _, _, rfl, rfl, SqT.of e2, at0, ?_⟩
        walk_at "go"
        refine ⟨_, _, _, _, rfl, rfl, SqT.of e2, at0, ?_⟩
        walk_at "go"
        refine ⟨by show (n : Int) ≠ 0; omega, ?_⟩
        walk_at "go"
        refine fun t3 nt3 => ?_
        generalize e3 : upd _ t3 _ = G3
        have s3 := Same.of_eq e3 nt3
        replace e3 := new_at e3
        exact ⟨t3, _, _, _, _, rfl, s3, e3⟩
      · rintro σ G' ⟨tp, x, y, o5, z, rfl, s3, e3⟩
        walk_at "go"
        refine ⟨_, _, _, _, rfl, rfl, SqT.of e3, at0, ?_⟩
        walk_at "go"
        refine ⟨_, _, _, _, rfl, rfl, SqT.of e3, at1, ?_⟩
        walk_at "go"
        refine ⟨rfl, _, rfl, iteEn (fun c3 => ?_) fun c3 => ⟨tp, x, y, _, _, rfl, s3, e3⟩⟩
        walk_at "go"
        refine ⟨_, _, _, _, rfl, rfl, SqT.of e3, at0, ?_⟩
        walk_at "go"
        refine ⟨by show (n : Int) ≠ 0; omega, ?_⟩
        walk_at "go"
        refine ⟨_, _, _, _, rfl, rfl, SqT.of e3, at1, ?_⟩
        walk_at "go"
        refine ⟨by show (n : Int) ≠ 0; omega, ?_⟩
        walk_at "go"
        refine iteD (fun c4 => ?_) fun c4 => ⟨tp, x, y, _, _, rfl, s3, e3⟩
        walk_at "go"
        refine ⟨_, _, _, _, rfl, rfl, SqT.of e3, at1, ?_⟩
        walk_at "go"
        refine ⟨_, _, _, _, rfl, rfl, SqT.of e3, at0, ?_⟩
        walk_at "go"
        refine fun t4 nt4 => ?_
        generalize e4 : upd _ t4 _ = G4
        have s4 := Same.of_eq e4 nt4
        replace e4 := new_at e4
        exact ⟨t4, y, x, _, _, rfl, s3.trans s4, e4⟩
    rintro σ G' ⟨tp, x, y, o5, o7, rfl, s3, e3⟩
    have hal3 := s3 _ _ hal2
    walk_at "go"
    refine ⟨.inl ⟨rfl, _, SqL.of hal3⟩, ?_⟩
    walk_at "go"
    refine ⟨al, _, _, rfl, rfl, hal3, lin' (by omega), ?_⟩
    have tkd : TK G' (upd G' al (.lst (xs ++ [V.ref tp]))) := TK.upd fun zs z => by rw [hal3] at z; cases z
    have sF := (sG2.trans s3).mut (o := .lst (xs ++ [V.ref tp])) nal
    refine ⟨_, _, _, _, _, ps ++ [(x, y)], rfl, sF, ?_, upd_same, tl_app (tx2.mono (s3.tk.trans tkd)) (tl_one (tkd _ _ e3)), ?_⟩
    · exact sF.seq hs
    · rw [List.length_append, List.length_singleton]
      omega
  · rintro σ G ⟨o4, o5, o6, o7, xs, ps, rfl, sG, hsG, hal, tx, fp⟩
    walk_at "go"
    exact q al G xs ps (by omega) nal sG hal tx
end Ar
namespace Ar
open PySem PySem.Spec L2
local macro_rules | `(tactic| walk_at "g1") => `(tactic| first
  | refine ⟨_, rfl, ?_⟩
  | refine ⟨_, _, rfl, rfl, ?_⟩
  | refine ⟨(by show (0 : Int) < _; decide), ?_⟩
  | refine ⟨⟨by decide, by decide⟩, ?_⟩
  | refine ⟨(show CMul _ _ from .inl ⟨by omega, by omega⟩), ?_⟩
  | refine ⟨(show CMul _ _ from .inr ⟨by omega, by omega⟩), ?_⟩
  | refine ⟨(show (_ : Int) ≠ 0 by decide), ?_⟩
  | refine ⟨sz2, ?_⟩
  | refine ⟨sz0, ?_⟩
  | refine ⟨sz3, ?_⟩)
local macro_rules | `(tactic| walk_at "ty") => `(tactic| first | exact .int _ | exact .bl _ | exact .tup (by assumption) | exact .lst (by assumption))
local macro_rules | `(tactic| walk_at "isT") => `(tactic| refine ⟨_, _, _, _, true, rfl, .ty _, .base (by walk_at "ty"), kit_ty (by decide +kernel), ?_⟩)
local macro_rules | `(tactic| walk_at "isF") => `(tactic| refine ⟨_, _, _, _, false, rfl, .ty _, .base (by walk_at "ty"), kit_ty (by decide +kernel), ?_⟩)
local macro_rules | `(tactic| walk_at "cell") => `(tactic| ((repeat walk_at "g1"); refine ⟨_, _, _, rfl, (by assumption), (by assumption), (by first | decide | omega), ?_⟩; repeat walk_at "g1"))
local macro_rules | `(tactic| walk_at "go") => `(tactic| repeat walk_at "g1")
def t_law_k09 (K : PySem.W.Frag) : TS :=
  (tSeq (tAsg (tOp oMod (tCall (sp_cell_at K) [] E0 (tCons (tVar 0) (tCons (tC (.int 0)) tNil))) (tC (.int 13))) (gName 1)) (Evl.tCut (tIfS (tTest (tOp rEq (tOp oMod (tOp oDiv (tCall (sp_cell_at K) [] E0 (tCons (tVar 0) (tCons (tC (.int 0)) tNil))) (tC (.int 13))) (tC (.int 8))) (tC (.int 1)))) (tAsg (tOp oMod (tOp oDiv (tCall (sp_cell_at K) [] E0 (tCons (tVar 0) (tCons (tC (.int 0)) tNil))) (tC (.int 104))) (tC (.int 25))) (gName 1)) tNext) (tSeq (tAsg (tCall (sp_arrows_k09 K) [] E0 (tCons (tVar 0) (tCons (tVar 1) tNil))) (gName 2)) (tSeq (tAsg (tCall (sp_cell_at K) [] E0 (tCons (tVar 0) (tCons (tC (.int 3)) tNil))) (gName 3)) (Evl.tCut (tIfS (tTest (tOp rEq (tOp oMod (tVar 3) (tC (.int 4))) (tC (.int 1)))) (tSeq (tAsg (tOp oModN (tOp oDiv (tVar 3) (tC (.int 4))) (tOp oAdd (tCB (cLen K) (tCons (tVar 2) tNil)) (tC (.int 1)))) (gName 4)) (tSeq (tAsg (tOp oModN (tOp oDiv (tVar 3) (tC (.int 4))) (tOp oPow (tC (.int 10)) (tC (.int 20)))) (gName 5)) (tAsg (tOp rCat (tOp rCat (tSl (rSlL K) (tVar 2) tNoPart (tPart (tVar 4))) (tLst (tCons (tOp (rIxL K) (tLst (tCons (tTup (tCons (tUn oNeg (tC (.int 1))) (tCons (tC (.int 0)) tNil))) (tCons (tTup (tCons (tC (.int 0)) (tCons (tVar 1) tNil))) (tCons (tTup (tCons (tOp oAdd (tVar 1) (tVar 5)) (tCons (tC (.int 0)) tNil))) (tCons (tTup (tCons (tC (.int 0)) (tCons (tOp oSub (tUn oNeg (tC (.int 1))) (tVar 5)) tNil))) tNil))))) (tOp oMod (tOp oDiv (tVar 3) (tC (.int 16))) (tC (.int 4)))) tNil))) (tSl (rSlL K) (tVar 2) (tPart (tVar 4)) tNoPart)) (gName 2)))) tNext) (Evl.tCut (tIfS (tTest (tOp rEq (tOp oMod (tVar 3) (tC (.int 12))) (tC (.int 2)))) (tAsg (tOp (rIxL K) (tLst (tCons (tUn oNeg (tC (.int 1))) (tCons (tC (.int 25)) (tCons (tOp oAdd (tC (.int 25)) (tOp oModN (tOp oDiv (tVar 3) (tC (.int 12))) (tOp oPow (tC (.int 10)) (tC (.int 20))))) tNil)))) (tOp oMod (tOp oDiv (tVar 3) (tC (.int 12))) (tC (.int 3)))) (gName 1)) tNext) (tSeq (tAsg (tCall (sp_due_k09 K) [] E0 (tCons (tVar 1) (tCons (tVar 2) tNil))) (gName 6)) (tSeq (tAsg (tCB (cList K) (tCons (tVar 2) tNil)) (gName 7)) (tSeq (tIfS (tOr (tTest (tOp (rNeD K) (tLc (iRng1 (tCons (tC (.int 2)) tNil)) (gName 8) tYes (tCall (sp_class_k09 K) [] E0 (tCons (tVar 1) (tCons (tVar 7) (tCons (tVar 8) tNil)))) [8]) (tLst (tCons (tVar 6) (tCons (tVar 6) tNil))))) (tTest (tOp (rNeD K) (tVar 7) (tVar 2)))) (tRet (tC (.bl false))) tNext) (tSeq (tIfS (tTest (tOp oLt (tVar 6) (tC (.int 7)))) (tRet (tC (.bl true))) tNext) (tSeq (tAsg (tCall (sp_heights K) [] E0 (tCons (tVar 1) (tCons (tVar 7) tNil))) (gName 9)) (tSeq (tAsg (tCall (sp_longest K) [] E0 (tCons (tVar 1) (tCons (tVar 7) tNil))) (gName 10)) (tSeq (tIfS (tOr (tNot (tB (tCall (sp_listed K) [] E0 (tCons (tVar 9) (tCons (tCall (sp_law_heights_k09 K) [] E0 (tCons (tVar 1) (tCons (tVar 2) tNil))) tNil))))) (tNot (tB (tCall (sp_listed K) [] E0 (tCons (tVar 10) (tCons (tCall (sp_least_k09 K) [] E0 (tCons (tVar 1) (tCons (tVar 2) tNil))) tNil)))))) (tRet (tC (.bl false))) tNext) (tSeq (tAsg (tCB (cList K) (tCons (tVar 10) tNil)) (gName 11)) (tSeq (tAsg (tCB (cList K) (tCons (tVar 9) tNil)) (gName 12)) (tSeq (tDrop (tCall (sp_heights K) [] E0 (tCons (tC (.int 3)) (tCons (tLst (tCons (tTup (tCons (tC (.int 2)) (tCons (tC (.int 0)) tNil))) tNil)) tNil)))) (tSeq (tDrop (tCall (sp_longest K) [] E0 (tCons (tC (.int 3)) (tCons (tLst (tCons (tTup (tCons (tC (.int 2)) (tCons (tC (.int 0)) tNil))) tNil)) tNil)))) (tSeq (tIfS (tOr (tTest (tOp (rNeD K) (tVar 9) (tVar 12))) (tTest (tOp (rNeD K) (tVar 10) (tVar 11)))) (tRet (tC (.bl false))) tNext) (tSeq (tDrop (tBM0 K "list" rClear (tVar 9))) (tSeq (tDrop (tBM K "list" rAppend (tVar 10) (tCons (tC (.int 0)) tNil))) (tRet (tAndV (tOp (rEqD K) (tCall (sp_longest K) [] E0 (tCons (tVar 1) (tCons (tVar 7) tNil))) (tVar 11)) (tCall (sp_listed K) [] E0 (tCons (tCall (sp_heights K) [] E0 (tCons (tVar 1) (tCons (tVar 7) tNil))) (tCons (tCall (sp_law_heights_k09 K) [] E0 (tCons (tVar 1) (tCons (tVar 2) tNil))) tNil)))))))))))))))))))))))))
variable {K : PySem.W.Frag} {vs : List V} {H : Hp} {Q : VK} {E : XK}
theorem len_law_k09 (h : sp_law_k09 K vs H Q E) : vs.length = 1 := by
  obtain ⟨a, ns, rfl, _⟩ := h
  rfl
theorem ht20 : HtOf 3 [(2, 0)] [2, 1, 1] := by
  refine ⟨rfl, fun v h0 h1 => ?_, fun x y h => ?_, fun v h0 h1 => ?_⟩
  · obtain rfl | rfl | rfl : v = 0 ∨ v = 1 ∨ v = 2 := by omega
    all_goals decide
  · cases List.mem_singleton.mp h
    decide
  · obtain rfl | rfl | rfl : v = 0 ∨ v = 1 ∨ v = 2 := by omega
    · exact .inr ⟨2, List.mem_cons_self, rfl⟩
    · exact .inl rfl
    · exact .inl rfl
theorem in20 : InR (3 : Nat) [(2, 0)] := fun p hp => by
  cases List.mem_singleton.mp hp
  decide
theorem pure_law_k09 (h : sp_law_k09 K vs H Q E) : t_law_k09 K (ends Q) (st 13 vs) H := by
  obtain ⟨a, ns, rfl, hs, hl, qf⟩ := h
  walk_at "cell"
  have z0 := Int.emod_nonneg (ns.getD (Int.toNat 0) 0) (show (13 : Int) ≠ 0 by decide)
  have z1 := Int.emod_lt_of_pos (ns.getD (Int.toNat 0) 0) (show (0 : Int) < 13 by decide)
  have y0 := Int.emod_nonneg (ns.getD (Int.toNat 0) 0 / 104) (show (25 : Int) ≠ 0 by decide)
  have y1 := Int.emod_lt_of_pos (ns.getD (Int.toNat 0) 0 / 104) (show (0 : Int) < 25 by decide)
  refine ⟨fun σ G => ∃ n : Nat, σ = [some (.ref a), some (.int n), none, none, none, none, none, none, none, none, none, none, none] ∧ n ≤ 24 ∧ G = H, ?_, ?_⟩
  · obtain ⟨k, hk⟩ : ∃ k : Nat, ns.getD (Int.toNat 0) 0 % 13 = k := ⟨(ns.getD (Int.toNat 0) 0 % 13).toNat, by omega⟩
    obtain ⟨k2, hk2⟩ : ∃ k : Nat, ns.getD (Int.toNat 0) 0 / 104 % 25 = k := ⟨(ns.getD (Int.toNat 0) 0 / 104 % 25).toNat, by omega⟩
    walk_at "cell"
    refine ⟨rfl, _, rfl, iteE (fun c => ?_) fun c => ?_⟩
    · walk_at "cell"
      refine ⟨k2, ?_, by omega, rfl⟩
      rw [← hk2]
      rfl
    · refine ⟨k, ?_, by omega, rfl⟩
      rw [← hk]
      rfl
  rintro σ G ⟨n, rfl, hn, rfl⟩
  walk_at "go"
  refine ⟨a, ns, n, rfl, hs, hl, hn, fun al H1 xs ps fp nal s1 e1 tx => ?_⟩
  have hs1 := s1.seq hs
  walk_at "cell"
  generalize ns.getD (Int.toNat 3) 0 = c
  clear hs hs1 z0 z1 y0 y1
  refine ⟨fun σ G' => ∃ (al : Addr) (xs : List V) (ps : List Arr) (o4 o5 : Option V), σ = [some (.ref a), some (.int n), some (.ref al), some (.int c), o4, o5, none, none, none, none, none, none, none] ∧ G' al = some (.lst xs) ∧ TL G' xs (ps.map p2) ∧ ps.length ≤ 101, ?_, ?_⟩
  · walk_at "go"
    refine ⟨rfl, _, rfl, iteE (fun c1 => ?_) fun c1 => ?_⟩
    · have lx : xs.length = ps.length := by rw [paired_len tx]; simp
      walk_at "go"
      refine ⟨_, _, rfl, .inl (SqL.of e1), ?_⟩
      walk_at "go"
      refine ⟨by show (xs.length : Int) + 1 ≠ 0; omega, ?_⟩
      try dsimp only
      rw [fmod_pos _ (by omega : (0 : Int) < (xs.length : Int) + 1)]
      have g0 := Int.emod_nonneg (c / 4) (b := (xs.length : Int) + 1) (by omega)
      have g1 := Int.emod_lt_of_pos (c / 4) (b := (xs.length : Int) + 1) (by omega)
      generalize c / 4 % ((xs.length : Int) + 1) = w at g0 g1 ⊢
      obtain ⟨j, rfl⟩ : ∃ j : Nat, w = j := ⟨w.toNat, by omega⟩
      have ltx : (xs.take j).length ≤ 600 := by rw [List.length_take]; omega
      have ldx : (xs.drop j).length ≤ 600 := by rw [List.length_drop]; omega
      walk_at "go"
      refine ⟨al, xs, rfl, SqL.of e1, ?_⟩
      refine fun p3 np3 => ?_
      generalize e3 : upd _ p3 _ = G3
      have s3 := Same.of_eq e3 np3
      replace e3 := new_at e3
      rw [cut_take] at e3
      walk_at "go"
      refine fun u1 nu1 => ?_
      generalize e4 : upd _ u1 _ = G4
      have s4 := Same.of_eq e4 nu1
      replace e4 := new_at e4
      walk_at "go"
      refine fun u2 nu2 => ?_
      generalize e5 : upd _ u2 _ = G5
      have s5 := Same.of_eq e5 nu2
      replace e5 := new_at e5
      walk_at "go"
      refine fun u3 nu3 => ?_
      generalize e6 : upd _ u3 _ = G6
      have s6 := Same.of_eq e6 nu3
      replace e6 := new_at e6
      walk_at "go"
      refine fun u4 nu4 => ?_
      generalize e7 : upd _ u4 _ = G7
      have s7 := Same.of_eq e7 nu4
      replace e7 := new_at e7
      walk_at "go"
      refine ⟨by show 4 ≤ sizeLine; decide, ?_⟩
      refine fun l8 nl8 => ?_
      generalize e8 : upd _ l8 _ = G8
      have s8 := Same.of_eq e8 nl8
      replace e8 := new_at e8
      walk_at "go"
      have f0 := Int.emod_nonneg (c / 16) (show (4 : Int) ≠ 0 by decide)
      have f1 := Int.emod_lt_of_pos (c / 16) (show (0 : Int) < 4 by decide)
      obtain ⟨i, v, hv, hi⟩ := at_ex (xs := [V.ref u1, V.ref u2, V.ref u3, V.ref u4]) (i := c / 16 % 4) (by show -(4 : Int) ≤ _; omega) (by show _ < (4 : Int); omega)
      refine ⟨l8, _, _, _, rfl, rfl, SqL.of e8, hv, ?_⟩
      have s48 := ((s5.trans s6).trans s7).trans s8
      obtain ⟨u, x, y, rfl, hu⟩ : ∃ (u : Addr) (x y : Int), v = .ref u ∧ G8 u = some (.tup [.int x, .int y]) := by
        rcases i with _ | _ | _ | _ | i
        · exact ⟨u1, _, _, (Option.some.inj hi).symm, s48 _ _ e4⟩
        · exact ⟨u2, _, _, (Option.some.inj hi).symm, ((s6.trans s7).trans s8) _ _ e5⟩
        · exact ⟨u3, _, _, (Option.some.inj hi).symm, (s7.trans s8) _ _ e6⟩
        · exact ⟨u4, _, _, (Option.some.inj hi).symm, s8 _ _ e7⟩
        · simp at hi
      walk_at "go"
      refine ⟨sz1, ?_⟩
      refine fun l9 nl9 => ?_
      generalize e9 : upd _ l9 _ = G9
      have s9 := Same.of_eq e9 nl9
      replace e9 := new_at e9
      have s39 := (s4.trans s48).trans s9
      refine ⟨p3, l9, _, _, rfl, rfl, s39 _ _ e3, e9, lin (by show _ + 1 ≤ _; omega), ?_⟩
      refine fun l10 nl10 => ?_
      generalize e10 : upd _ l10 _ = G10
      have s10 := Same.of_eq e10 nl10
      replace e10 := new_at e10
      have s110 := (s3.trans s39).trans s10
      walk_at "go"
      refine ⟨al, xs, rfl, SqL.of (s110 _ _ e1), ?_⟩
      refine fun l11 nl11 => ?_
      generalize e11 : upd _ l11 _ = G11
      have s11 := Same.of_eq e11 nl11
      replace e11 := new_at e11
      rw [cut_drop] at e11
      refine ⟨l10, l11, _, _, rfl, rfl, s11 _ _ e10, e11, lin (by rw [List.length_append, List.length_singleton]; omega), ?_⟩
      refine fun l12 nl12 => ?_
      generalize e12 : upd _ l12 _ = G12
      have s12 := Same.of_eq e12 nl12
      replace e12 := new_at e12
      have s112 := (s110.trans s11).trans s12
      refine ⟨l12, _, ps.take j ++ [(x, y)] ++ ps.drop j, _, _, rfl, e12, ?_, ?_⟩
      · exact tl_app (tl_app ((tl_take j tx).mono s112.tk) (tl_one (((s9.trans s10).trans (s11.trans s12)) _ _ hu))) ((tl_drop _ tx).mono s112.tk)
      · rw [List.length_append, List.length_append, List.length_singleton, List.length_take, List.length_drop]
        omega
    · exact ⟨al, xs, ps, _, _, rfl, e1, tx, by omega⟩
  clear e1 tx fp nal s1
  rintro σ G1 ⟨al, xs, ps, o4, o5, rfl, e1, tx, fp⟩
  walk_at "go"
  refine ⟨fun σ G' => ∃ m : Int, σ = [some (.ref a), some (.int m), some (.ref al), some (.int c), o4, o5, none, none, none, none, none, none, none] ∧ Same G1 G', ?_, ?_⟩
  · walk_at "go"
    refine ⟨rfl, _, rfl, iteE (fun c1 => ?_) fun c1 => ?_⟩
    · walk_at "go"
      refine fun l4 nl4 => ?_
      generalize e4 : upd _ l4 _ = G4
      have s4 := Same.of_eq e4 nl4
      replace e4 := new_at e4
      walk_at "go"
      have g0 := Int.emod_nonneg (c / 12) (show (3 : Int) ≠ 0 by decide)
      have g1 := Int.emod_lt_of_pos (c / 12) (show (0 : Int) < 3 by decide)
      obtain ⟨z, hz⟩ := ix_int (zs := [-1, 25, 25 + (c / 12).fmod (10 ^ Int.toNat 20)]) g0 g1
      refine ⟨l4, _, _, _, rfl, rfl, SqL.of e4, hz, ?_⟩
      exact ⟨z, rfl, s4⟩
    · exact ⟨_, rfl, Same.refl _⟩
  rintro σ G2 ⟨m, rfl, s2⟩
  have e2 := s2 _ _ e1
  have t2 := tx.mono s2.tk
  clear e1 tx s2
  walk_at "go"
  refine ⟨m, al, xs, ps, rfl, e2, t2, by omega, fun r H3 D9 s3 => ?_⟩
  walk_at "go"
  refine ⟨_, _, rfl, .inl (SqL.of (s3 _ _ e2)), ?_⟩
  refine fun he nhe => ?_
  generalize e4 : upd _ he _ = H4
  have s4 := Same.of_eq e4 nhe
  replace e4 := new_at e4
  have e3 := (s3.trans s4) _ _ e2
  have t4 := t2.mono (s3.trans s4).tk
  clear e2 t2 s3 s4
  walk_at "go"
  refine ⟨by decide, by decide, fun D hD => ?_⟩
  refine lc_range (lo := 0) (n := ((2 : Int)).toNat) (fun j G' => Same H4 G' ∧ G' D = some (.lst ((List.replicate j r).map .int))) ⟨Same.new hD, upd_same⟩ ?_ ?_
  · rintro j G5 hj ⟨s5, hd5⟩
    refine ⟨rfl, ?_⟩
    walk_at "go"
    refine ⟨m, he, xs, ps, _, rfl, s5 _ _ e4, t4.mono s5.tk, by omega, fun r' H6 D9' s6 => ?_⟩
    cases D9'.same D9
    refine ⟨_, s6 _ _ hd5, lin' ?_, (s5.trans s6).mut hD, ?_⟩
    · rw [List.length_map, List.length_replicate]
      have : j < 2 := hj
      omega
    · rw [upd_same, List.replicate_succ', List.map_append] <;> rfl
  rintro G5 ⟨s5, hd5⟩
  walk_at "go"
  refine fun l6 nl6 => ?_
  generalize e6 : upd _ l6 _ = H6
  have s6 := Same.of_eq e6 nl6
  replace e6 := new_at e6
  have hd6 := s6 _ _ hd5
  have s46 := s5.trans s6
  refine ⟨_, _, dp_il (ns := List.replicate 2 r) (SqL.of hd6), dp_il (ns := [r, r]) (SqL.of e6), shaped_ints _, shaped_ints _, ?_⟩
  rw [show List.replicate 2 r = [r, r] from rfl, eqv_same_i]
  walk_at "go"
  refine ⟨_, _, dp_tl (SqL.of (s46 _ _ e4)) (t4.mono s46.tk), dp_tl (SqL.of (s46 _ _ e3)) (t4.mono s46.tk), shaped_dIs _, shaped_dIs _, ?_⟩
  rw [eqv_same]
  walk_at "go"
  refine iteD (fun c1 => ?_) fun c1 => ?_
  · walk_at "go"
    exact qf _
  obtain ⟨ok, ir, ht, kt⟩ := D9.seven c1
  obtain ⟨n', rfl⟩ : ∃ n : Nat, m = n := ⟨m.toNat, by omega⟩
  have en : ((n' : Int)).toNat = n' := by omega
  rw [en] at kt
  have hn' : n' ≤ 24 := by omega
  have he6 := s46 _ _ e4
  have al6 := s46 _ _ e3
  have t6 := t4.mono s46.tk
  clear hd5 hd6 e6 e4 e3 t4 s5 s6 s46
  walk_at "go"
  refine ⟨n', he, xs, ps, rfl, he6, t6, fun b => absurd ok b, fun _ b => absurd ir b, fun _ _ b => absurd ⟨ht, by rw [en]; exact kt⟩ b, fun _ _ hh p9 H9 kt9 np9 s9 e9 => ?_⟩
  rw [en] at kt9
  have he9 := s9 _ _ he6
  have al9 := s9 _ _ al6
  have t9 := t6.mono s9.tk
  obtain ⟨d0, kd0⟩ := ht_sw (n := n') ir ⟨ht, kt⟩
  walk_at "go"
  refine ⟨n', he, xs, ps, rfl, he9, t9, by omega, fun b => absurd ok b, fun _ b => absurd ir b, fun _ _ b => absurd ⟨d0, by rw [en]; exact kd0⟩ b, fun _ _ ds row p10 H10 kd L np10 s10 e10 => ?_⟩
  rw [en] at kd L
  have he10 := s10 _ _ he9
  have al10 := s10 _ _ al9
  have t10 := t9.mono s10.tk
  have e9' := s10 _ _ e9
  have n910 : p9 ≠ p10 := fun z => by rw [← z, e9] at np10; cases np10
  have lh := kt9.len
  have lr : row.length ≤ 24 := by
    have h1 := L.len
    have h2 := ht_mx (n := n') (InR.sw ir) hn' kd
    omega
  walk_at "go"
  refine ⟨n', al, xs, ps, hh, rfl, al10, t10, hn', ir, kt9, fun p11 H11 np11 s11 e11 => ?_⟩
  walk_at "go"
  refine ⟨_, _, _, rfl, ld_is (s11 _ _ e9') (by omega), ld_is e11 (by omega), fun H12 s12 => ?_⟩
  have sB := s11.trans s12
  walk_at "go"
  refine ⟨n', al, xs, ps, ds, rfl, sB _ _ al10, t10.mono sB.tk, by omega, hn', ir, kd, fun p13 H13 row' L' np13 s13 e13 => ?_⟩
  cases L'.same L
  have sC := sB.trans s13
  walk_at "go"
  refine ⟨_, _, _, rfl, ld_is (sC _ _ e10) (by omega), ld_is e13 (by omega), fun H14 s14 => ?_⟩
  have sD := sC.trans s14
  walk_at "go"
  refine ⟨_, _, rfl, .inl (SqL.of (sD _ _ e10)), ?_⟩
  refine fun h15 nh15 => ?_
  generalize e15 : upd _ h15 _ = H15
  have s15 := Same.of_eq e15 nh15
  replace e15 := new_at e15
  have sE := sD.trans s15
  walk_at "go"
  refine ⟨_, _, rfl, .inl (SqL.of (sE _ _ e9')), ?_⟩
  refine fun h16 nh16 => ?_
  generalize e16 : upd _ h16 _ = H16
  have s16 := Same.of_eq e16 nh16
  replace e16 := new_at e16
  have sF := sE.trans s16
  walk_at "go"
  refine fun t17 nt17 => ?_
  generalize e17 : upd _ t17 _ = H17
  have s17 := Same.of_eq e17 nt17
  replace e17 := new_at e17
  walk_at "go"
  refine ⟨sz1, ?_⟩
  refine fun l18 nl18 => ?_
  generalize e18 : upd _ l18 _ = H18
  have s18 := Same.of_eq e18 nl18
  replace e18 := new_at e18
  have i20 : InR (3 : Int) [(2, 0)] := in20
  have e3 : ((3 : Int)).toNat = 3 := rfl
  refine ⟨3, l18, _, [(2, 0)], rfl, e18, tl_one (a := 2) (b := 0) (s18 _ _ e17), fun b => absurd ⟨by decide, by decide⟩ b, fun _ b => absurd i20 b, fun _ _ b => absurd ⟨_, ht20⟩ b, fun _ _ hs19 p19 H19 kt19 np19 s19 e19 => ?_⟩
  walk_at "go"
  refine fun t20 nt20 => ?_
  generalize e20 : upd _ t20 _ = H20
  have s20 := Same.of_eq e20 nt20
  replace e20 := new_at e20
  walk_at "go"
  refine ⟨sz1, ?_⟩
  refine fun l21 nl21 => ?_
  generalize e21 : upd _ l21 _ = H21
  have s21 := Same.of_eq e21 nl21
  replace e21 := new_at e21
  refine ⟨3, l21, _, [(2, 0)], rfl, e21, tl_one (a := 2) (b := 0) (s21 _ _ e20), by decide, fun b => absurd ⟨by decide, by decide⟩ b, fun _ b => absurd i20 b, fun _ _ b => absurd (ht_sw in20 ⟨_, ht20⟩) b, fun _ _ ds22 row22 p22 H22 kd22 L22 np22 s22 e22 => ?_⟩
  have s1622 := ((((s17.trans s18).trans s19).trans s20).trans s21).trans s22
  have sG := sF.trans s1622
  walk_at "go"
  refine ⟨_, _, dp_il (SqL.of (sG _ _ e9')), dp_il (SqL.of (s1622 _ _ e16)), shaped_ints _, shaped_ints _, ?_⟩
  rw [eqv_same_i]
  walk_at "go"
  refine ⟨_, _, dp_il (SqL.of (sG _ _ e10)), dp_il (SqL.of ((s16.trans s1622) _ _ e15)), shaped_ints _, shaped_ints _, ?_⟩
  rw [eqv_same_i]
  walk_at "go"
  have p9G := sG _ _ e9'
  refine ⟨.inl ⟨rfl, _, SqL.of p9G⟩, p9, _, rfl, rfl, p9G, ?_⟩
  have p10F : upd H22 p9 (.lst []) p10 = some (.lst (row.map .int)) := by
    rw [upd_ne n910.symm]
    exact sG _ _ e10
  have k1 : But p9 H22 (upd H22 p9 (.lst [])) := But.upd
  have h15' : upd H22 p9 (.lst []) h15 = some (.lst (row.map .int)) := k1 _ _ (fun z => by rw [z, sD _ _ e9'] at nh15; cases nh15) ((s16.trans s1622) _ _ e15)
  have heF : upd H22 p9 (.lst []) he = some (.lst xs) := k1 _ _ (fun z => by rw [← z, he6] at np9; cases np9) (sG _ _ he10)
  have alF : upd H22 p9 (.lst []) al = some (.lst xs) := k1 _ _ (fun z => by rw [← z, al6] at np9; cases np9) (sG _ _ al10)
  have tF := (t10.mono sG.tk).mono (k1.tk p9G)
  generalize upd H22 p9 (.lst []) = F at p10F h15' heF alF tF ⊢
  walk_at "go"
  refine ⟨.inl ⟨rfl, _, SqL.of p10F⟩, ?_⟩
  walk_at "go"
  refine ⟨p10, _, _, rfl, rfl, p10F, lin' (by rw [List.length_map]; omega), ?_⟩
  have k2 : But p10 F (upd F p10 (.lst (row.map .int ++ [V.int 0]))) := But.upd
  have h15F : upd F p10 (.lst (row.map .int ++ [V.int 0])) h15 = some (.lst (row.map .int)) := k2 _ _ (fun z => by rw [z, sD _ _ e10] at nh15; cases nh15) h15'
  have heF2 : upd F p10 (.lst (row.map .int ++ [V.int 0])) he = some (.lst xs) := k2 _ _ (fun z => by rw [← z, he9] at np10; cases np10) heF
  have alF2 : upd F p10 (.lst (row.map .int ++ [V.int 0])) al = some (.lst xs) := k2 _ _ (fun z => by rw [← z, al9] at np10; cases np10) alF
  have tF2 := tF.mono (k2.tk p10F)
  generalize upd F p10 (.lst (row.map .int ++ [V.int 0])) = F2 at h15F heF2 alF2 tF2 ⊢
  walk_at "go"
  refine ⟨n', he, xs, ps, rfl, heF2, tF2, by omega, fun b => absurd ok b, fun _ b => absurd ir b, fun _ _ b => absurd ⟨d0, by rw [en]; exact kd0⟩ b, fun _ _ ds23 row23 p23 H23 kd23 L23 np23 s23 e23 => ?_⟩
  rw [en] at kd23 L23
  cases kd23.same (InR.sw (n := n') ir) kd
  cases L23.same L
  walk_at "go"
  refine ⟨_, _, dp_il (SqL.of e23), dp_il (SqL.of (s23 _ _ h15F)), shaped_ints _, shaped_ints _, ?_⟩
  rw [eqv_same_i]
  walk_at "go"
  refine ⟨n', he, xs, ps, rfl, s23 _ _ heF2, tF2.mono s23.tk, fun b => absurd ok b, fun _ b => absurd ir b, fun _ _ b => absurd ⟨ht, by rw [en]; exact kt⟩ b, fun _ _ hh24 p24 H24 kt24 np24 s24 e24 => ?_⟩
  rw [en] at kt24
  cases kt24.same ir kt9
  have s2324 := s23.trans s24
  walk_at "go"
  refine ⟨n', al, xs, ps, _, rfl, s2324 _ _ alF2, tF2.mono s2324.tk, hn', ir, kt24, fun p25 H25 np25 s25 e25 => ?_⟩
  walk_at "go"
  exact ⟨_, _, _, rfl, ld_is (s25 _ _ e24) (by omega), ld_is e25 (by omega), fun H26 s26 => qf _⟩
end Ar
namespace Lk09
open PySem PySem.Spec L2 Ar
def top (i : Nat) : Stmt := PySem.Challenge.pw_arrowties_k09_heights_and_longest.main.body.getD i (.Pass ⟨0, 0, 0, 0⟩)
def dG (n : Str) (i : Nat) : He.DefD := ⟨(n, none), n, n, defArgs (top i), defBody (top i), defScope (top i), [], []⟩
def dM (c n q : Str) (i j : Nat) : He.DefD := ⟨(c, some n), n, q, defArgs (inClass (top i) j), defBody (inClass (top i) j), defScope (inClass (top i) j), [], []⟩
def fnl : List He.DefD := [dG "look" 11, dG "heights" 12, dG "longest" 13, dG "_law_cell_at" 15, dG "_law_only" 16, dG "_law_alike" 18, dG "_law_listed" 19, dG "_law_heights" 20, dG "_law_round" 21, dG "_law_class" 22, dG "_law_due" 23, dG "_law_least" 24, dG "_law_arrows" 25, dG "law" 26]
def fal : List He.Fa := [.glo "look", .glo "heights", .glo "longest", .glo "_law_cell_at", .glo "_law_only", .glo "_law_alike", .glo "_law_listed", .glo "_law_heights", .glo "_law_round", .glo "_law_class", .glo "_law_due", .glo "_law_least", .glo "_law_arrows", .glo "law", .free "ValueError", .free "bool", .free "int", .free "isinstance", .free "len", .free "list", .free "max", .free "min", .free "range", .free "tuple", .int "MOST" 24, .glo "TieError", .exc "TieError", .glo "NoPoints", .exc "NoPoints", .glo "NoPoint", .exc "NoPoint", .glo "NoTie", .exc "NoTie", .glo "TwiceTold", .exc "TwiceTold", .glo "NoArrow", .exc "NoArrow", .glo "Round", .exc "Round", .glo "Clash", .exc "Clash", .exm "TieError" "TieError" true, .exm "TieError" "NoPoint" false, .exm "TieError" "NoArrow" false, .exm "TieError" "Clash" false, .exm "NoPoints" "TieError" true, .exm "NoPoints" "NoPoint" false, .exm "NoPoints" "NoArrow" false, .exm "NoPoints" "Clash" false, .exm "NoPoint" "TieError" true, .exm "NoPoint" "NoPoint" true, .exm "NoPoint" "NoArrow" false, .exm "NoPoint" "Clash" false, .exm "NoTie" "TieError" true, .exm "NoTie" "NoPoint" false, .exm "NoTie" "NoArrow" false, .exm "NoTie" "Clash" false, .exm "TwiceTold" "TieError" true, .exm "TwiceTold" "NoPoint" false, .exm "TwiceTold" "NoArrow" false, .exm "TwiceTold" "Clash" false, .exm "NoArrow" "TieError" true, .exm "NoArrow" "NoPoint" false, .exm "NoArrow" "NoArrow" true, .exm "NoArrow" "Clash" false, .exm "Round" "TieError" true, .exm "Round" "NoPoint" false, .exm "Round" "NoArrow" false, .exm "Round" "Clash" false, .exm "Clash" "TieError" true, .exm "Clash" "NoPoint" false, .exm "Clash" "NoArrow" false, .exm "Clash" "Clash" true]
abbrev RR : PySem.W.OpenRow := PySem.W.OpenLaw.row PySem.Challenge.rw_arrowties_k09_heights_and_longest
def ex (K : PySem.W.Frag) : Bool := Ar.exAll K
abbrev hk : PySem.W.Hook := He.hookX 5 fal fnl [] [] ex
def ob (s : PySem.W.SharedT) : He.AlX := He.obsX 5 fal fnl [] [] ex (HandSHeadRun.getT s)
theorem ob_eq (s : PySem.W.SharedT) : ob s = hk.obs s.abs := He.obsX_eq (HandSHeadRun.getT_eq s)
def loose0 : List Str := ["__name__", "TieError", "NoPoints", "NoPoint", "NoTie", "TwiceTold", "NoArrow", "Round", "Clash", "MOST", "look", "heights", "longest", "_law_cell_at", "_law_only", "_law_whole", "_law_alike", "_law_listed", "_law_heights", "_law_round", "_law_class", "_law_due", "_law_least", "_law_arrows"]
def loose : List Str := loose0
theorem run (w : World) : HandSHeadRun.RunEq RR (PySem.W.view RR.prog [26]) hk ob 6000 loose w := by
  intro os
  kernel_rfl
structure Txt (K : PySem.W.Frag) (mg : Str → Option Value) : Prop where
  at_ : ∃ h : Heap, K.In h ∧ h.Ns mainGlobals mg
  c : He.SaysD fal fnl K
  ex : ex K = true
section
variable {K : PySem.W.Frag} {mg : Str → Option Value}
theorem Txt.glo (T : Txt K mg) {x : Str} (i : Nat) (h : fal[i]? = some (.glo x)) : mg x = some (.ref (He.ga K x)) := by
  obtain ⟨hp, k, g⟩ := T.at_
  exact He.glo_ok k g (T.c.fact i h)
theorem Txt.fre (T : Txt K mg) {x : Str} (i : Nat) (h : fal[i]? = some (.free x)) : mg x = none := by
  obtain ⟨hp, k, g⟩ := T.at_
  exact He.free_ok k g (T.c.fact i h)
theorem Txt.df (T : Txt K mg) (i : Nat) {d : He.DefD} (h : fnl[i]? = some d) : FunD K d.name d.qual d.params d.body d.scope (d.dvs K) (d.kws K) (He.fAd K d.at_) (fdOf K d.at_) := funD_at (T.c.def_ i h)
theorem Txt.b_ValueError (T : Txt K mg) : mg "ValueError" = none := T.fre 14 rfl
theorem Txt.b_bool (T : Txt K mg) : mg "bool" = none := T.fre 15 rfl
theorem Txt.b_int (T : Txt K mg) : mg "int" = none := T.fre 16 rfl
theorem Txt.b_isinstance (T : Txt K mg) : mg "isinstance" = none := T.fre 17 rfl
theorem Txt.b_len (T : Txt K mg) : mg "len" = none := T.fre 18 rfl
theorem Txt.b_list (T : Txt K mg) : mg "list" = none := T.fre 19 rfl
theorem Txt.b_max (T : Txt K mg) : mg "max" = none := T.fre 20 rfl
theorem Txt.b_min (T : Txt K mg) : mg "min" = none := T.fre 21 rfl
theorem Txt.b_range (T : Txt K mg) : mg "range" = none := T.fre 22 rfl
theorem Txt.b_tuple (T : Txt K mg) : mg "tuple" = none := T.fre 23 rfl
theorem Txt.g_look (T : Txt K mg) : mg "look" = some (.ref (He.ga K "look")) := T.glo 0 rfl
theorem Txt.F_look (T : Txt K mg) : FunD K "look" "look" (defArgs (top 11)) (defBody (top 11)) (defScope (top 11)) [] [] (He.ga K "look") (fdOf K ("look", none)) := T.df 0 (d := dG "look" 11) rfl
theorem Txt.k_look (T : Txt K mg) : PySem.W.keepIn K (.ref (He.ga K "look")) = true := T.F_look.kp
theorem Txt.b_look (T : Txt K mg) : Binds K (fdOf K ("look", none)) ["many", "arrows"] [] := T.F_look.bindsN fun _ _ _ _ _ _ us hl => match us, hl with | [_, _], _ => rfl
theorem Txt.g_heights (T : Txt K mg) : mg "heights" = some (.ref (He.ga K "heights")) := T.glo 1 rfl
theorem Txt.F_heights (T : Txt K mg) : FunD K "heights" "heights" (defArgs (top 12)) (defBody (top 12)) (defScope (top 12)) [] [] (He.ga K "heights") (fdOf K ("heights", none)) := T.df 1 (d := dG "heights" 12) rfl
theorem Txt.k_heights (T : Txt K mg) : PySem.W.keepIn K (.ref (He.ga K "heights")) = true := T.F_heights.kp
theorem Txt.b_heights (T : Txt K mg) : Binds K (fdOf K ("heights", none)) ["many", "arrows"] [] := T.F_heights.bindsN fun _ _ _ _ _ _ us hl => match us, hl with | [_, _], _ => rfl
theorem Txt.g_longest (T : Txt K mg) : mg "longest" = some (.ref (He.ga K "longest")) := T.glo 2 rfl
theorem Txt.F_longest (T : Txt K mg) : FunD K "longest" "longest" (defArgs (top 13)) (defBody (top 13)) (defScope (top 13)) [] [] (He.ga K "longest") (fdOf K ("longest", none)) := T.df 2 (d := dG "longest" 13) rfl
theorem Txt.k_longest (T : Txt K mg) : PySem.W.keepIn K (.ref (He.ga K "longest")) = true := T.F_longest.kp
theorem Txt.b_longest (T : Txt K mg) : Binds K (fdOf K ("longest", none)) ["many", "arrows"] [] := T.F_longest.bindsN fun _ _ _ _ _ _ us hl => match us, hl with | [_, _], _ => rfl
theorem Txt.g_cell_at (T : Txt K mg) : mg "_law_cell_at" = some (.ref (He.ga K "_law_cell_at")) := T.glo 3 rfl
theorem Txt.F_cell_at (T : Txt K mg) : FunD K "_law_cell_at" "_law_cell_at" (defArgs (top 15)) (defBody (top 15)) (defScope (top 15)) [] [] (He.ga K "_law_cell_at") (fdOf K ("_law_cell_at", none)) := T.df 3 (d := dG "_law_cell_at" 15) rfl
theorem Txt.k_cell_at (T : Txt K mg) : PySem.W.keepIn K (.ref (He.ga K "_law_cell_at")) = true := T.F_cell_at.kp
theorem Txt.b_cell_at (T : Txt K mg) : Binds K (fdOf K ("_law_cell_at", none)) ["_law_script", "_law_k"] [] := T.F_cell_at.bindsN fun _ _ _ _ _ _ us hl => match us, hl with | [_, _], _ => rfl
theorem Txt.g_only (T : Txt K mg) : mg "_law_only" = some (.ref (He.ga K "_law_only")) := T.glo 4 rfl
theorem Txt.F_only (T : Txt K mg) : FunD K "_law_only" "_law_only" (defArgs (top 16)) (defBody (top 16)) (defScope (top 16)) [] [] (He.ga K "_law_only") (fdOf K ("_law_only", none)) := T.df 4 (d := dG "_law_only" 16) rfl
theorem Txt.k_only (T : Txt K mg) : PySem.W.keepIn K (.ref (He.ga K "_law_only")) = true := T.F_only.kp
theorem Txt.b_only (T : Txt K mg) : Binds K (fdOf K ("_law_only", none)) ["_law_e", "_law_at"] [] := T.F_only.bindsN fun _ _ _ _ _ _ us hl => match us, hl with | [_, _], _ => rfl
theorem Txt.g_alike (T : Txt K mg) : mg "_law_alike" = some (.ref (He.ga K "_law_alike")) := T.glo 5 rfl
theorem Txt.F_alike (T : Txt K mg) : FunD K "_law_alike" "_law_alike" (defArgs (top 18)) (defBody (top 18)) (defScope (top 18)) [] [] (He.ga K "_law_alike") (fdOf K ("_law_alike", none)) := T.df 5 (d := dG "_law_alike" 18) rfl
theorem Txt.k_alike (T : Txt K mg) : PySem.W.keepIn K (.ref (He.ga K "_law_alike")) = true := T.F_alike.kp
theorem Txt.b_alike (T : Txt K mg) : Binds K (fdOf K ("_law_alike", none)) ["_law_told", "_law_due_here"] [] := T.F_alike.bindsN fun _ _ _ _ _ _ us hl => match us, hl with | [_, _], _ => rfl
theorem Txt.g_listed (T : Txt K mg) : mg "_law_listed" = some (.ref (He.ga K "_law_listed")) := T.glo 6 rfl
theorem Txt.F_listed (T : Txt K mg) : FunD K "_law_listed" "_law_listed" (defArgs (top 19)) (defBody (top 19)) (defScope (top 19)) [] [] (He.ga K "_law_listed") (fdOf K ("_law_listed", none)) := T.df 6 (d := dG "_law_listed" 19) rfl
theorem Txt.k_listed (T : Txt K mg) : PySem.W.keepIn K (.ref (He.ga K "_law_listed")) = true := T.F_listed.kp
theorem Txt.b_listed (T : Txt K mg) : Binds K (fdOf K ("_law_listed", none)) ["_law_told", "_law_due_here"] [] := T.F_listed.bindsN fun _ _ _ _ _ _ us hl => match us, hl with | [_, _], _ => rfl
theorem Txt.g_law_heights (T : Txt K mg) : mg "_law_heights" = some (.ref (He.ga K "_law_heights")) := T.glo 7 rfl
theorem Txt.F_law_heights (T : Txt K mg) : FunD K "_law_heights" "_law_heights" (defArgs (top 20)) (defBody (top 20)) (defScope (top 20)) [] [] (He.ga K "_law_heights") (fdOf K ("_law_heights", none)) := T.df 7 (d := dG "_law_heights" 20) rfl
theorem Txt.k_law_heights (T : Txt K mg) : PySem.W.keepIn K (.ref (He.ga K "_law_heights")) = true := T.F_law_heights.kp
theorem Txt.b_law_heights (T : Txt K mg) : Binds K (fdOf K ("_law_heights", none)) ["_law_many", "_law_arrows_here"] [] := T.F_law_heights.bindsN fun _ _ _ _ _ _ us hl => match us, hl with | [_, _], _ => rfl
theorem Txt.g_round (T : Txt K mg) : mg "_law_round" = some (.ref (He.ga K "_law_round")) := T.glo 8 rfl
theorem Txt.F_round (T : Txt K mg) : FunD K "_law_round" "_law_round" (defArgs (top 21)) (defBody (top 21)) (defScope (top 21)) [] [] (He.ga K "_law_round") (fdOf K ("_law_round", none)) := T.df 8 (d := dG "_law_round" 21) rfl
theorem Txt.k_round (T : Txt K mg) : PySem.W.keepIn K (.ref (He.ga K "_law_round")) = true := T.F_round.kp
theorem Txt.b_round (T : Txt K mg) : Binds K (fdOf K ("_law_round", none)) ["_law_many", "_law_arrows_here"] [] := T.F_round.bindsN fun _ _ _ _ _ _ us hl => match us, hl with | [_, _], _ => rfl
theorem Txt.g_class (T : Txt K mg) : mg "_law_class" = some (.ref (He.ga K "_law_class")) := T.glo 9 rfl
theorem Txt.F_class (T : Txt K mg) : FunD K "_law_class" "_law_class" (defArgs (top 22)) (defBody (top 22)) (defScope (top 22)) [] [] (He.ga K "_law_class") (fdOf K ("_law_class", none)) := T.df 9 (d := dG "_law_class" 22) rfl
theorem Txt.k_class (T : Txt K mg) : PySem.W.keepIn K (.ref (He.ga K "_law_class")) = true := T.F_class.kp
theorem Txt.b_class (T : Txt K mg) : Binds K (fdOf K ("_law_class", none)) ["_law_many", "_law_arrows_here", "_law_which"] [] := T.F_class.bindsN fun _ _ _ _ _ _ us hl => match us, hl with | [_, _, _], _ => rfl
theorem Txt.g_due (T : Txt K mg) : mg "_law_due" = some (.ref (He.ga K "_law_due")) := T.glo 10 rfl
theorem Txt.F_due (T : Txt K mg) : FunD K "_law_due" "_law_due" (defArgs (top 23)) (defBody (top 23)) (defScope (top 23)) [] [] (He.ga K "_law_due") (fdOf K ("_law_due", none)) := T.df 10 (d := dG "_law_due" 23) rfl
theorem Txt.k_due (T : Txt K mg) : PySem.W.keepIn K (.ref (He.ga K "_law_due")) = true := T.F_due.kp
theorem Txt.b_due (T : Txt K mg) : Binds K (fdOf K ("_law_due", none)) ["_law_many", "_law_arrows_here"] [] := T.F_due.bindsN fun _ _ _ _ _ _ us hl => match us, hl with | [_, _], _ => rfl
theorem Txt.g_least (T : Txt K mg) : mg "_law_least" = some (.ref (He.ga K "_law_least")) := T.glo 11 rfl
theorem Txt.F_least (T : Txt K mg) : FunD K "_law_least" "_law_least" (defArgs (top 24)) (defBody (top 24)) (defScope (top 24)) [] [] (He.ga K "_law_least") (fdOf K ("_law_least", none)) := T.df 11 (d := dG "_law_least" 24) rfl
theorem Txt.k_least (T : Txt K mg) : PySem.W.keepIn K (.ref (He.ga K "_law_least")) = true := T.F_least.kp
theorem Txt.b_least (T : Txt K mg) : Binds K (fdOf K ("_law_least", none)) ["_law_many", "_law_arrows_here"] [] := T.F_least.bindsN fun _ _ _ _ _ _ us hl => match us, hl with | [_, _], _ => rfl
theorem Txt.g_arrows (T : Txt K mg) : mg "_law_arrows" = some (.ref (He.ga K "_law_arrows")) := T.glo 12 rfl
theorem Txt.F_arrows (T : Txt K mg) : FunD K "_law_arrows" "_law_arrows" (defArgs (top 25)) (defBody (top 25)) (defScope (top 25)) [] [] (He.ga K "_law_arrows") (fdOf K ("_law_arrows", none)) := T.df 12 (d := dG "_law_arrows" 25) rfl
theorem Txt.k_arrows (T : Txt K mg) : PySem.W.keepIn K (.ref (He.ga K "_law_arrows")) = true := T.F_arrows.kp
theorem Txt.b_arrows (T : Txt K mg) : Binds K (fdOf K ("_law_arrows", none)) ["_law_script", "_law_many"] [] := T.F_arrows.bindsN fun _ _ _ _ _ _ us hl => match us, hl with | [_, _], _ => rfl
theorem Txt.g_law (T : Txt K mg) : mg "law" = some (.ref (He.ga K "law")) := T.glo 13 rfl
theorem Txt.F_law (T : Txt K mg) : FunD K "law" "law" (defArgs (top 26)) (defBody (top 26)) (defScope (top 26)) [] [] (He.ga K "law") (fdOf K ("law", none)) := T.df 13 (d := dG "law" 26) rfl
theorem Txt.k_law (T : Txt K mg) : PySem.W.keepIn K (.ref (He.ga K "law")) = true := T.F_law.kp
theorem Txt.b_law (T : Txt K mg) : Binds K (fdOf K ("law", none)) ["_law_script"] [] := T.F_law.bindsN fun _ _ _ _ _ _ us hl => match us, hl with | [_], _ => rfl
theorem Txt.gMOST (T : Txt K mg) : ∃ t, mg "MOST" = some (.int 24 t) := by
  obtain ⟨hp, k, g⟩ := T.at_
  exact He.int_ok k g (T.c.fact 24 (f := .int "MOST" 24) rfl)
theorem Txt.only (T : Txt K mg) : Ar.OnlyK K := Ar.onlyK_of T.ex
theorem Txt.gTieError (T : Txt K mg) : mg "TieError" = some (.ref (He.ga K "TieError")) := T.glo 25 rfl
theorem Txt.xTieError (T : Txt K mg) : PySem.W.excIn K (He.ga K "TieError") He.veBase "ValueError.__new__" = true := (He.exc_ok (T.c.fact 26 (f := .exc "TieError") rfl)).1
theorem Txt.kcTieError (T : Txt K mg) : PySem.W.keepIn K (.ref (He.ga K "TieError")) = true := (He.exc_ok (T.c.fact 26 (f := .exc "TieError") rfl)).2.1
theorem Txt.sTieError (T : Txt K mg) : PySem.W.subIn K (.ref (He.ga K "TieError")) (.type "BaseException") = some true := (He.exc_ok (T.c.fact 26 (f := .exc "TieError") rfl)).2.2.1
theorem Txt.tTieError (T : Txt K mg) : PySem.W.typeIn K (.ref (He.ga K "TieError")) = some (.type "type") := (He.exc_ok (T.c.fact 26 (f := .exc "TieError") rfl)).2.2.2
theorem Txt.gNoPoints (T : Txt K mg) : mg "NoPoints" = some (.ref (He.ga K "NoPoints")) := T.glo 27 rfl
theorem Txt.xNoPoints (T : Txt K mg) : PySem.W.excIn K (He.ga K "NoPoints") He.veBase "ValueError.__new__" = true := (He.exc_ok (T.c.fact 28 (f := .exc "NoPoints") rfl)).1
theorem Txt.kcNoPoints (T : Txt K mg) : PySem.W.keepIn K (.ref (He.ga K "NoPoints")) = true := (He.exc_ok (T.c.fact 28 (f := .exc "NoPoints") rfl)).2.1
theorem Txt.sNoPoints (T : Txt K mg) : PySem.W.subIn K (.ref (He.ga K "NoPoints")) (.type "BaseException") = some true := (He.exc_ok (T.c.fact 28 (f := .exc "NoPoints") rfl)).2.2.1
theorem Txt.tNoPoints (T : Txt K mg) : PySem.W.typeIn K (.ref (He.ga K "NoPoints")) = some (.type "type") := (He.exc_ok (T.c.fact 28 (f := .exc "NoPoints") rfl)).2.2.2
theorem Txt.gNoPoint (T : Txt K mg) : mg "NoPoint" = some (.ref (He.ga K "NoPoint")) := T.glo 29 rfl
theorem Txt.xNoPoint (T : Txt K mg) : PySem.W.excIn K (He.ga K "NoPoint") He.veBase "ValueError.__new__" = true := (He.exc_ok (T.c.fact 30 (f := .exc "NoPoint") rfl)).1
theorem Txt.kcNoPoint (T : Txt K mg) : PySem.W.keepIn K (.ref (He.ga K "NoPoint")) = true := (He.exc_ok (T.c.fact 30 (f := .exc "NoPoint") rfl)).2.1
theorem Txt.sNoPoint (T : Txt K mg) : PySem.W.subIn K (.ref (He.ga K "NoPoint")) (.type "BaseException") = some true := (He.exc_ok (T.c.fact 30 (f := .exc "NoPoint") rfl)).2.2.1
theorem Txt.tNoPoint (T : Txt K mg) : PySem.W.typeIn K (.ref (He.ga K "NoPoint")) = some (.type "type") := (He.exc_ok (T.c.fact 30 (f := .exc "NoPoint") rfl)).2.2.2
theorem Txt.gNoTie (T : Txt K mg) : mg "NoTie" = some (.ref (He.ga K "NoTie")) := T.glo 31 rfl
theorem Txt.xNoTie (T : Txt K mg) : PySem.W.excIn K (He.ga K "NoTie") He.veBase "ValueError.__new__" = true := (He.exc_ok (T.c.fact 32 (f := .exc "NoTie") rfl)).1
theorem Txt.kcNoTie (T : Txt K mg) : PySem.W.keepIn K (.ref (He.ga K "NoTie")) = true := (He.exc_ok (T.c.fact 32 (f := .exc "NoTie") rfl)).2.1
theorem Txt.sNoTie (T : Txt K mg) : PySem.W.subIn K (.ref (He.ga K "NoTie")) (.type "BaseException") = some true := (He.exc_ok (T.c.fact 32 (f := .exc "NoTie") rfl)).2.2.1
theorem Txt.tNoTie (T : Txt K mg) : PySem.W.typeIn K (.ref (He.ga K "NoTie")) = some (.type "type") := (He.exc_ok (T.c.fact 32 (f := .exc "NoTie") rfl)).2.2.2
theorem Txt.gTwiceTold (T : Txt K mg) : mg "TwiceTold" = some (.ref (He.ga K "TwiceTold")) := T.glo 33 rfl
theorem Txt.xTwiceTold (T : Txt K mg) : PySem.W.excIn K (He.ga K "TwiceTold") He.veBase "ValueError.__new__" = true := (He.exc_ok (T.c.fact 34 (f := .exc "TwiceTold") rfl)).1
theorem Txt.kcTwiceTold (T : Txt K mg) : PySem.W.keepIn K (.ref (He.ga K "TwiceTold")) = true := (He.exc_ok (T.c.fact 34 (f := .exc "TwiceTold") rfl)).2.1
theorem Txt.sTwiceTold (T : Txt K mg) : PySem.W.subIn K (.ref (He.ga K "TwiceTold")) (.type "BaseException") = some true := (He.exc_ok (T.c.fact 34 (f := .exc "TwiceTold") rfl)).2.2.1
theorem Txt.tTwiceTold (T : Txt K mg) : PySem.W.typeIn K (.ref (He.ga K "TwiceTold")) = some (.type "type") := (He.exc_ok (T.c.fact 34 (f := .exc "TwiceTold") rfl)).2.2.2
theorem Txt.gNoArrow (T : Txt K mg) : mg "NoArrow" = some (.ref (He.ga K "NoArrow")) := T.glo 35 rfl
theorem Txt.xNoArrow (T : Txt K mg) : PySem.W.excIn K (He.ga K "NoArrow") He.veBase "ValueError.__new__" = true := (He.exc_ok (T.c.fact 36 (f := .exc "NoArrow") rfl)).1
theorem Txt.kcNoArrow (T : Txt K mg) : PySem.W.keepIn K (.ref (He.ga K "NoArrow")) = true := (He.exc_ok (T.c.fact 36 (f := .exc "NoArrow") rfl)).2.1
theorem Txt.sNoArrow (T : Txt K mg) : PySem.W.subIn K (.ref (He.ga K "NoArrow")) (.type "BaseException") = some true := (He.exc_ok (T.c.fact 36 (f := .exc "NoArrow") rfl)).2.2.1
theorem Txt.tNoArrow (T : Txt K mg) : PySem.W.typeIn K (.ref (He.ga K "NoArrow")) = some (.type "type") := (He.exc_ok (T.c.fact 36 (f := .exc "NoArrow") rfl)).2.2.2
theorem Txt.gRound (T : Txt K mg) : mg "Round" = some (.ref (He.ga K "Round")) := T.glo 37 rfl
theorem Txt.xRound (T : Txt K mg) : PySem.W.excIn K (He.ga K "Round") He.veBase "ValueError.__new__" = true := (He.exc_ok (T.c.fact 38 (f := .exc "Round") rfl)).1
theorem Txt.kcRound (T : Txt K mg) : PySem.W.keepIn K (.ref (He.ga K "Round")) = true := (He.exc_ok (T.c.fact 38 (f := .exc "Round") rfl)).2.1
theorem Txt.sRound (T : Txt K mg) : PySem.W.subIn K (.ref (He.ga K "Round")) (.type "BaseException") = some true := (He.exc_ok (T.c.fact 38 (f := .exc "Round") rfl)).2.2.1
theorem Txt.tRound (T : Txt K mg) : PySem.W.typeIn K (.ref (He.ga K "Round")) = some (.type "type") := (He.exc_ok (T.c.fact 38 (f := .exc "Round") rfl)).2.2.2
theorem Txt.gClash (T : Txt K mg) : mg "Clash" = some (.ref (He.ga K "Clash")) := T.glo 39 rfl
theorem Txt.xClash (T : Txt K mg) : PySem.W.excIn K (He.ga K "Clash") He.veBase "ValueError.__new__" = true := (He.exc_ok (T.c.fact 40 (f := .exc "Clash") rfl)).1
theorem Txt.kcClash (T : Txt K mg) : PySem.W.keepIn K (.ref (He.ga K "Clash")) = true := (He.exc_ok (T.c.fact 40 (f := .exc "Clash") rfl)).2.1
theorem Txt.sClash (T : Txt K mg) : PySem.W.subIn K (.ref (He.ga K "Clash")) (.type "BaseException") = some true := (He.exc_ok (T.c.fact 40 (f := .exc "Clash") rfl)).2.2.1
theorem Txt.tClash (T : Txt K mg) : PySem.W.typeIn K (.ref (He.ga K "Clash")) = some (.type "type") := (He.exc_ok (T.c.fact 40 (f := .exc "Clash") rfl)).2.2.2
theorem Txt.e_TieError_TieError (T : Txt K mg) : PySem.W.exmOne K (.ref (He.ga K "TieError")) (.ref (He.ga K "TieError")) = some true := He.exm_ok (T.c.fact 41 (f := .exm "TieError" "TieError" true) rfl)
theorem Txt.e_TieError_NoPoint (T : Txt K mg) : PySem.W.exmOne K (.ref (He.ga K "TieError")) (.ref (He.ga K "NoPoint")) = some false := He.exm_ok (T.c.fact 42 (f := .exm "TieError" "NoPoint" false) rfl)
theorem Txt.e_TieError_NoArrow (T : Txt K mg) : PySem.W.exmOne K (.ref (He.ga K "TieError")) (.ref (He.ga K "NoArrow")) = some false := He.exm_ok (T.c.fact 43 (f := .exm "TieError" "NoArrow" false) rfl)
theorem Txt.e_TieError_Clash (T : Txt K mg) : PySem.W.exmOne K (.ref (He.ga K "TieError")) (.ref (He.ga K "Clash")) = some false := He.exm_ok (T.c.fact 44 (f := .exm "TieError" "Clash" false) rfl)
theorem Txt.e_NoPoints_TieError (T : Txt K mg) : PySem.W.exmOne K (.ref (He.ga K "NoPoints")) (.ref (He.ga K "TieError")) = some true := He.exm_ok (T.c.fact 45 (f := .exm "NoPoints" "TieError" true) rfl)
theorem Txt.e_NoPoints_NoPoint (T : Txt K mg) : PySem.W.exmOne K (.ref (He.ga K "NoPoints")) (.ref (He.ga K "NoPoint")) = some false := He.exm_ok (T.c.fact 46 (f := .exm "NoPoints" "NoPoint" false) rfl)
theorem Txt.e_NoPoints_NoArrow (T : Txt K mg) : PySem.W.exmOne K (.ref (He.ga K "NoPoints")) (.ref (He.ga K "NoArrow")) = some false := He.exm_ok (T.c.fact 47 (f := .exm "NoPoints" "NoArrow" false) rfl)
theorem Txt.e_NoPoints_Clash (T : Txt K mg) : PySem.W.exmOne K (.ref (He.ga K "NoPoints")) (.ref (He.ga K "Clash")) = some false := He.exm_ok (T.c.fact 48 (f := .exm "NoPoints" "Clash" false) rfl)
theorem Txt.e_NoPoint_TieError (T : Txt K mg) : PySem.W.exmOne K (.ref (He.ga K "NoPoint")) (.ref (He.ga K "TieError")) = some true := He.exm_ok (T.c.fact 49 (f := .exm "NoPoint" "TieError" true) rfl)
theorem Txt.e_NoPoint_NoPoint (T : Txt K mg) : PySem.W.exmOne K (.ref (He.ga K "NoPoint")) (.ref (He.ga K "NoPoint")) = some true := He.exm_ok (T.c.fact 50 (f := .exm "NoPoint" "NoPoint" true) rfl)
theorem Txt.e_NoPoint_NoArrow (T : Txt K mg) : PySem.W.exmOne K (.ref (He.ga K "NoPoint")) (.ref (He.ga K "NoArrow")) = some false := He.exm_ok (T.c.fact 51 (f := .exm "NoPoint" "NoArrow" false) rfl)
theorem Txt.e_NoPoint_Clash (T : Txt K mg) : PySem.W.exmOne K (.ref (He.ga K "NoPoint")) (.ref (He.ga K "Clash")) = some false := He.exm_ok (T.c.fact 52 (f := .exm "NoPoint" "Clash" false) rfl)
theorem Txt.e_NoTie_TieError (T : Txt K mg) : PySem.W.exmOne K (.ref (He.ga K "NoTie")) (.ref (He.ga K "TieError")) = some true := He.exm_ok (T.c.fact 53 (f := .exm "NoTie" "TieError" true) rfl)
theorem Txt.e_NoTie_NoPoint (T : Txt K mg) : PySem.W.exmOne K (.ref (He.ga K "NoTie")) (.ref (He.ga K "NoPoint")) = some false := He.exm_ok (T.c.fact 54 (f := .exm "NoTie" "NoPoint" false) rfl)
theorem Txt.e_NoTie_NoArrow (T : Txt K mg) : PySem.W.exmOne K (.ref (He.ga K "NoTie")) (.ref (He.ga K "NoArrow")) = some false := He.exm_ok (T.c.fact 55 (f := .exm "NoTie" "NoArrow" false) rfl)
theorem Txt.e_NoTie_Clash (T : Txt K mg) : PySem.W.exmOne K (.ref (He.ga K "NoTie")) (.ref (He.ga K "Clash")) = some false := He.exm_ok (T.c.fact 56 (f := .exm "NoTie" "Clash" false) rfl)
theorem Txt.e_TwiceTold_TieError (T : Txt K mg) : PySem.W.exmOne K (.ref (He.ga K "TwiceTold")) (.ref (He.ga K "TieError")) = some true := He.exm_ok (T.c.fact 57 (f := .exm "TwiceTold" "TieError" true) rfl)
theorem Txt.e_TwiceTold_NoPoint (T : Txt K mg) : PySem.W.exmOne K (.ref (He.ga K "TwiceTold")) (.ref (He.ga K "NoPoint")) = some false := He.exm_ok (T.c.fact 58 (f := .exm "TwiceTold" "NoPoint" false) rfl)
theorem Txt.e_TwiceTold_NoArrow (T : Txt K mg) : PySem.W.exmOne K (.ref (He.ga K "TwiceTold")) (.ref (He.ga K "NoArrow")) = some false := He.exm_ok (T.c.fact 59 (f := .exm "TwiceTold" "NoArrow" false) rfl)
theorem Txt.e_TwiceTold_Clash (T : Txt K mg) : PySem.W.exmOne K (.ref (He.ga K "TwiceTold")) (.ref (He.ga K "Clash")) = some false := He.exm_ok (T.c.fact 60 (f := .exm "TwiceTold" "Clash" false) rfl)
theorem Txt.e_NoArrow_TieError (T : Txt K mg) : PySem.W.exmOne K (.ref (He.ga K "NoArrow")) (.ref (He.ga K "TieError")) = some true := He.exm_ok (T.c.fact 61 (f := .exm "NoArrow" "TieError" true) rfl)
theorem Txt.e_NoArrow_NoPoint (T : Txt K mg) : PySem.W.exmOne K (.ref (He.ga K "NoArrow")) (.ref (He.ga K "NoPoint")) = some false := He.exm_ok (T.c.fact 62 (f := .exm "NoArrow" "NoPoint" false) rfl)
theorem Txt.e_NoArrow_NoArrow (T : Txt K mg) : PySem.W.exmOne K (.ref (He.ga K "NoArrow")) (.ref (He.ga K "NoArrow")) = some true := He.exm_ok (T.c.fact 63 (f := .exm "NoArrow" "NoArrow" true) rfl)
theorem Txt.e_NoArrow_Clash (T : Txt K mg) : PySem.W.exmOne K (.ref (He.ga K "NoArrow")) (.ref (He.ga K "Clash")) = some false := He.exm_ok (T.c.fact 64 (f := .exm "NoArrow" "Clash" false) rfl)
theorem Txt.e_Round_TieError (T : Txt K mg) : PySem.W.exmOne K (.ref (He.ga K "Round")) (.ref (He.ga K "TieError")) = some true := He.exm_ok (T.c.fact 65 (f := .exm "Round" "TieError" true) rfl)
theorem Txt.e_Round_NoPoint (T : Txt K mg) : PySem.W.exmOne K (.ref (He.ga K "Round")) (.ref (He.ga K "NoPoint")) = some false := He.exm_ok (T.c.fact 66 (f := .exm "Round" "NoPoint" false) rfl)
theorem Txt.e_Round_NoArrow (T : Txt K mg) : PySem.W.exmOne K (.ref (He.ga K "Round")) (.ref (He.ga K "NoArrow")) = some false := He.exm_ok (T.c.fact 67 (f := .exm "Round" "NoArrow" false) rfl)
theorem Txt.e_Round_Clash (T : Txt K mg) : PySem.W.exmOne K (.ref (He.ga K "Round")) (.ref (He.ga K "Clash")) = some false := He.exm_ok (T.c.fact 68 (f := .exm "Round" "Clash" false) rfl)
theorem Txt.e_Clash_TieError (T : Txt K mg) : PySem.W.exmOne K (.ref (He.ga K "Clash")) (.ref (He.ga K "TieError")) = some true := He.exm_ok (T.c.fact 69 (f := .exm "Clash" "TieError" true) rfl)
theorem Txt.e_Clash_NoPoint (T : Txt K mg) : PySem.W.exmOne K (.ref (He.ga K "Clash")) (.ref (He.ga K "NoPoint")) = some false := He.exm_ok (T.c.fact 70 (f := .exm "Clash" "NoPoint" false) rfl)
theorem Txt.e_Clash_NoArrow (T : Txt K mg) : PySem.W.exmOne K (.ref (He.ga K "Clash")) (.ref (He.ga K "NoArrow")) = some false := He.exm_ok (T.c.fact 71 (f := .exm "Clash" "NoArrow" false) rfl)
theorem Txt.e_Clash_Clash (T : Txt K mg) : PySem.W.exmOne K (.ref (He.ga K "Clash")) (.ref (He.ga K "Clash")) = some true := He.exm_ok (T.c.fact 72 (f := .exm "Clash" "Clash" true) rfl)
end
section
variable {P : Program} {w : World} {K : PySem.W.Frag} {mg : Str → Option Value} {base : Heap}
def N_look : List Str := ["many", "arrows", "one", "other"]
theorem sc_look : FnScope N_look ["many", "arrows"] (defScope (top 11)) := ⟨rfl, rfl, rfl, by decide +kernel, rfl, by decide +kernel, by decide +kernel⟩
theorem ok_look (T : Txt K mg) : FnOk P w K mg base (L2N.CX P w) 1 (He.ga K "look") (fdOf K ("look", none)) ["many", "arrows"] (sp_look K) := by
  refine T.F_look.ok sc_look (fun vs H Q E h => len_look h) (fun cdv A outer s H vs Q E hr h => ⟨t_look K E, ?_, pure_look  h⟩)
  have hu := hu_of hr
  have hu65 := hu65_of hr
  have hu66 := hu66_of hr
  exact (pss_cons (ps_if (PW.pt (pw_or (pt_cmpR op_lt (pv 0) pe_int (nomark _)) (pw_or1 (pt_cmpR op_gt (pv 0) (pe_glob rfl T.gMOST.choose_spec ⟨_, rfl⟩) (nomark _))))) (pss_one (L2N.ps_raise rfl (L2N.takes_of rfl rfl rfl rfl) (L2N.pmk_own PySem.F.excBase_ValueError T.xNoPoints T.gNoPoints T.kcNoPoints (raises_own T.sNoPoints T.tNoPoints) (by rfl)))) pss_nil)
    (pss_one (ps_for (passes_of rfl) rfl (pi_list (pv 1)) (pg_tup (by rfl) (pgs_cons (pg_name (i := 2) sc_look.nd rfl (by first | exact Or.inl rfl | exact Or.inr rfl)) (pgs_cons (pg_name (i := 3) sc_look.nd rfl (by first | exact Or.inl rfl | exact Or.inr rfl)) pgs_nil))) (pss_one (ps_if (PW.pt (pw_or (pt_cmpR op_lt (pe_callB (call_min2 rfl) (by rfl) T.b_min (by decide +kernel) (pa_cons (pv 2) (pa_cons (pv 3) pa_nil))) pe_int (nomark _)) (pw_or1 (pt_cmpR op_ge (pe_callB (call_max2 rfl) (by rfl) T.b_max (by decide +kernel) (pa_cons (pv 2) (pa_cons (pv 3) pa_nil))) (pv 0) (nomark _))))) (pss_one (L2N.ps_raise rfl (L2N.takes_of rfl rfl rfl rfl) (L2N.pmk_own PySem.F.excBase_ValueError T.xNoPoint T.gNoPoint T.kcNoPoint (raises_own T.sNoPoint T.tNoPoint) (by rfl)))) pss_nil)))))
def N_heights : List Str := ["many", "arrows", "found", "turn", "changed", "one", "other"]
theorem sc_heights : FnScope N_heights ["many", "arrows"] (defScope (top 12)) := ⟨rfl, rfl, rfl, by decide +kernel, rfl, by decide +kernel, by decide +kernel⟩
theorem ok_heights (T : Txt K mg) : FnOk P w K mg base (L2N.CX P w) 2 (He.ga K "heights") (fdOf K ("heights", none)) ["many", "arrows"] (sp_heights K) := by
  have G_look := ok_look (P := P) (w := w) (base := base) T
  refine T.F_heights.ok sc_heights (fun vs H Q E h => len_heights h) (fun cdv A outer s H vs Q E hr h => ⟨t_heights K E, ?_, pure_heights  h⟩)
  have hu := hu_of hr
  have hu65 := hu65_of hr
  have hu66 := hu66_of hr
  exact (pss_cons (ps_expr (pe_call G_look (hr.mono (by decide)) rfl T.g_look T.k_look T.b_look .nil (L2N.passes_call (L2N.takes_of rfl rfl rfl rfl) (fun _ _ _ _ z => z)) (pa_cons (pv 0) (pa_cons (pv 1) pa_nil))))
    (pss_cons (ps_set (i := 2) sc_heights.nd rfl (by first | exact Or.inl rfl | exact Or.inr rfl) (pe_op op_rep (pe_lst (pa_cons pe_int pa_nil)) (pv 0)))
    (pss_cons (ps_for (passes_of rfl) rfl (pi_range1 (by rfl) T.b_range (pa_cons (pe_op op_add (pv 0) pe_int) pa_nil)) (pg_name (i := 3) sc_heights.nd rfl (by first | exact Or.inl rfl | exact Or.inr rfl)) (pss_cons (ps_set (i := 4) sc_heights.nd rfl (by first | exact Or.inl rfl | exact Or.inr rfl) pe_bl)
    (pss_cons (ps_for (passes_of rfl) rfl (pi_list (pv 1)) (pg_tup (by rfl) (pgs_cons (pg_name (i := 5) sc_heights.nd rfl (by first | exact Or.inl rfl | exact Or.inr rfl)) (pgs_cons (pg_name (i := 6) sc_heights.nd rfl (by first | exact Or.inl rfl | exact Or.inr rfl)) pgs_nil))) (pss_one (ps_if (pt_cmpR op_le (pe_ix ix_list (pv 2) (pv 6) (fun _ _ => rfl)) (pe_ix ix_list (pv 2) (pv 5) (fun _ _ => rfl)) (nomark _)) (pss_cons (ps_asg (pe_op op_add (pe_ix ix_list (pv 2) (pv 5) (fun _ _ => rfl)) pe_int) (pg_sub (pv 2) (pv 6) set_list))
    (pss_one (ps_set (i := 4) sc_heights.nd rfl (by first | exact Or.inl rfl | exact Or.inr rfl) pe_bl))) pss_nil)))
    (pss_one (ps_if (pt_not (pt_val (pv 4))) (pss_one (ps_ret (pv 2))) pss_nil)))))
    (pss_one (L2N.ps_raise rfl (L2N.takes_of rfl rfl rfl rfl) (L2N.pmk_own PySem.F.excBase_ValueError T.xRound T.gRound T.kcRound (raises_own T.sRound T.tRound) (by rfl)))))))
def N_longest : List Str := ["many", "arrows", "one", "other", "depths", "row", "last", "left", "point", "good"]
theorem sc_longest : FnScope N_longest ["many", "arrows"] (defScope (top 13)) := ⟨rfl, rfl, rfl, by decide +kernel, rfl, by decide +kernel, by decide +kernel⟩
theorem ok_longest (T : Txt K mg) : FnOk P w K mg base (L2N.CX P w) 3 (He.ga K "longest") (fdOf K ("longest", none)) ["many", "arrows"] (sp_longest K) := by
  have G_heights := ok_heights (P := P) (w := w) (base := base) T
  refine T.F_longest.ok sc_longest (fun vs H Q E h => len_longest h) (fun cdv A outer s H vs Q E hr h => ⟨t_longest K E, ?_, pure_longest  h⟩)
  have hu := hu_of hr
  have hu65 := hu65_of hr
  have hu66 := hu66_of hr
  exact (pss_cons (ps_set (i := 4) sc_longest.nd rfl (by first | exact Or.inl rfl | exact Or.inr rfl) (pe_call G_heights (hr.mono (by decide)) rfl T.g_heights T.k_heights T.b_heights .nil (L2N.passes_call (L2N.takes_of rfl rfl rfl rfl) (fun _ _ _ _ z => z)) (pa_cons (pv 0) (pa_cons (pe_lc (own := [("one", 2), ("other", 3)]) (g := (gTup K 2 (gCons (gName 2) (gCons (gName 3) gNil)))) (tt := tYes) rfl sc_longest.nd (pi_list (pv 1)) (blkOk_by (own := [("one", 2), ("other", 3)]) (N := N_longest) (sc := (defScope (top 13))) (by decide +kernel)) (fun _ _ _ _ _ => (pg_tup (by rfl) (pgs_cons (pg_name (i := 2) sc_longest.nd rfl (by first | exact Or.inl rfl | exact Or.inr rfl)) (pgs_cons (pg_name (i := 3) sc_longest.nd rfl (by first | exact Or.inl rfl | exact Or.inr rfl)) pgs_nil)))) (fun _ _ _ _ _ => pts_nil) (fun _ _ _ _ _ => (pe_tup (pa_cons (pv 3) (pa_cons (pv 2) pa_nil))))) pa_nil))))
    (pss_cons (ps_set (i := 5) sc_longest.nd rfl (by first | exact Or.inl rfl | exact Or.inr rfl) (pe_lst pa_nil))
    (pss_cons (ps_set (i := 6) sc_longest.nd rfl (by first | exact Or.inl rfl | exact Or.inr rfl) pe_non)
    (pss_cons (ps_for (passes_of rfl) rfl (pi_range3 rfl T.b_range (pa_cons (pe_callBK (cr_maxDef rfl hu) (by rfl) T.b_max (by decide +kernel) (pa_cons (pv 4) pa_nil) (pk_cons pe_int pk_nil)) (pa_cons pe_int (pa_cons (pe_un un_neg pe_int) pa_nil)))) (pg_name (i := 7) sc_longest.nd rfl (by first | exact Or.inl rfl | exact Or.inr rfl)) (pss_cons (ps_setLc (i := 9) (own := [("point", 8)]) (g := (gName 8)) (tt := (tTest (tOp rEq (tOp (rIxL K) (tVar 4) (tVar 8)) (tVar 7)))) rfl sc_longest.nd rfl rfl (sw_true rfl rfl rfl (by decide +kernel)) (pi_range1 (by rfl) T.b_range (pa_cons (pv 0) pa_nil)) (blkOk_by (own := [("point", 8)]) (N := N_longest) (sc := (defScope (top 13))) (by decide +kernel)) (fun _ _ _ _ _ => (pg_name (i := 8) sc_longest.nd rfl (by first | exact Or.inl rfl | exact Or.inr rfl))) (fun _ _ _ _ _ => pts_one (pt_cmpR op_eq (pe_ix ix_list (pv 4) (pv 8) (fun _ _ => rfl)) (pv 7) (nomark _))) (fun _ _ _ _ _ => (pv 8)))
    (Evl.pss_cut (ps_if (pt_cmp (pc_notN (pv 6))) (pss_one (ps_setLc (i := 9) (own := [("point", 8)]) (g := (gName 8)) (tt := (tTest (tOp (rInD K) (tTup (tCons (tVar 6) (tCons (tVar 8) tNil))) (tVar 1)))) rfl sc_longest.nd rfl rfl (sw_true rfl rfl rfl (by decide +kernel)) (pi_list (pv 9)) (blkOk_by (own := [("point", 8)]) (N := N_longest) (sc := (defScope (top 13))) (by decide +kernel)) (fun _ _ _ _ _ => (pg_name (i := 8) sc_longest.nd rfl (by first | exact Or.inl rfl | exact Or.inr rfl))) (fun _ _ _ _ _ => pts_one (pt_cmpR (op_inD hu65) (pe_tup (pa_cons (pv 6) (pa_cons (pv 8) pa_nil))) (pv 1) (by rfl))) (fun _ _ _ _ _ => (pv 8)))) pss_nil)
    (pss_cons (ps_set (i := 6) sc_longest.nd rfl (by first | exact Or.inl rfl | exact Or.inr rfl) (pe_callB (cr_min rfl) (by rfl) T.b_min (by decide +kernel) (pa_cons (pv 9) pa_nil)))
    (pss_one (ps_expr (pe_bm PySem.F.plainAttrs_list PySem.F.slot_list_append PySem.F.type_list_append mt_append (pv 5) (pa_cons (pv 6) pa_nil))))))))
    (pss_one (ps_ret (pv 5)))))))
def N_cell_at : List Str := ["_law_script", "_law_k"]
theorem sc_cell_at : FnScope N_cell_at ["_law_script", "_law_k"] (defScope (top 15)) := ⟨rfl, rfl, rfl, by decide +kernel, rfl, by decide +kernel, by decide +kernel⟩
theorem ok_cell_at (T : Txt K mg) : FnOk P w K mg base CX0 1 (He.ga K "_law_cell_at") (fdOf K ("_law_cell_at", none)) ["_law_script", "_law_k"] (sp_cell_at K) := by
  refine T.F_cell_at.ok sc_cell_at (fun vs H Q E h => len_cell_at h) (fun cdv A outer s H vs Q E hr h => ⟨t_cell_at K, PSs.nox ?_, pure_cell_at  h⟩)
  have hu := hu_of hr
  have hu65 := hu65_of hr
  have hu66 := hu66_of hr
  exact (pss_cons (ps_if (pt_cmpR op_lt (pv 1) (pe_callB call_len_seq (by rfl) T.b_len PySem.boot_len (pa_cons (pv 0) pa_nil)) (nomark _)) (pss_one (ps_ret (pe_ix ix_list (pv 0) (pv 1) (fun _ _ => rfl)))) pss_nil)
    (pss_one (ps_ret pe_int)))
def N_only : List Str := ["_law_e", "_law_at", "_law_found"]
theorem sc_only : FnScope N_only ["_law_e", "_law_at"] (defScope (top 16)) := ⟨rfl, rfl, rfl, by decide +kernel, rfl, by decide +kernel, by decide +kernel⟩
theorem ok_only (T : Txt K mg) : FnE P w K mg base 1 (He.ga K "_law_only") (fdOf K ("_law_only", none)) ["_law_e", "_law_at"] (sp_only K) := by
  refine okE T.F_only sc_only (fun D a vs H Q E h => len_only h) (fun cdv A outer s H vs Q E p D hx hr h => ⟨t_only K D p.1, ?_, pure_only T.only h⟩)
  have hC := only_exc T.only h
  have hu : (A.deeper (PyProof.Rows.envOfC "_law_only" (defScope (top 16)) s.heap.objs.size (He.ga K "_law_only") cdv)).units + 1 < cLine := by have := hr.un; omega
  exact (pss_cons (ps_set (i := 2) sc_only.nd rfl (by first | exact Or.inl rfl | exact Or.inr rfl) (pe_lst (pa_cons (pe_callB (call_isP (a := p.1) (oe := p.2) hC hx List.mem_cons_self) (by rfl) T.b_isinstance (by decide +kernel) (pa_cons (pv 0) (pa_cons (pe_glob rfl T.gNoPoints rfl) pa_nil))) (pa_cons (pe_callB (call_isP (a := p.1) (oe := p.2) hC hx List.mem_cons_self) (by rfl) T.b_isinstance (by decide +kernel) (pa_cons (pv 0) (pa_cons (pe_glob rfl T.gNoPoint rfl) pa_nil))) (pa_cons (pe_callB (call_isP (a := p.1) (oe := p.2) hC hx List.mem_cons_self) (by rfl) T.b_isinstance (by decide +kernel) (pa_cons (pv 0) (pa_cons (pe_glob rfl T.gNoTie rfl) pa_nil))) (pa_cons (pe_callB (call_isP (a := p.1) (oe := p.2) hC hx List.mem_cons_self) (by rfl) T.b_isinstance (by decide +kernel) (pa_cons (pv 0) (pa_cons (pe_glob rfl T.gTwiceTold rfl) pa_nil))) pa_nil))))))
    (pss_cons (ps_set (i := 2) sc_only.nd rfl (by first | exact Or.inl rfl | exact Or.inr rfl) (pe_op op_cat (pv 2) (pe_lst (pa_cons (pe_callB (call_isP (a := p.1) (oe := p.2) hC hx List.mem_cons_self) (by rfl) T.b_isinstance (by decide +kernel) (pa_cons (pv 0) (pa_cons (pe_glob rfl T.gNoArrow rfl) pa_nil))) (pa_cons (pe_callB (call_isP (a := p.1) (oe := p.2) hC hx List.mem_cons_self) (by rfl) T.b_isinstance (by decide +kernel) (pa_cons (pv 0) (pa_cons (pe_glob rfl T.gRound rfl) pa_nil))) (pa_cons (pe_callB (call_isP (a := p.1) (oe := p.2) hC hx List.mem_cons_self) (by rfl) T.b_isinstance (by decide +kernel) (pa_cons (pv 0) (pa_cons (pe_glob rfl T.gClash rfl) pa_nil))) pa_nil))))))
    (pss_one (ps_ret (pe_and (pe_cmpR op_eq (pe_bm PySem.F.plainAttrs_list PySem.F.slot_list_count PySem.F.type_list_count mt_countB (pv 2) (pa_cons pe_bl pa_nil)) pe_int (nomark _)) (pe_and (pe_ix ix_list (pv 2) (pv 1) (fun _ _ => rfl)) (pe_and (pe_callB (call_isP (a := p.1) (oe := p.2) hC hx List.mem_cons_self) (by rfl) T.b_isinstance (by decide +kernel) (pa_cons (pv 0) (pa_cons (pe_glob rfl T.gTieError rfl) pa_nil))) (pe_one (pe_callB (call_isP (a := p.1) (oe := p.2) hC hx List.mem_cons_self) (by rfl) T.b_isinstance (by decide +kernel) (pa_cons (pv 0) (pa_cons (pe_bltn (v := .ty "ValueError") (by rfl) T.b_ValueError (by decide +kernel) rfl) pa_nil)))))))))))
def N_alike : List Str := ["_law_told", "_law_due_here", "_law_k"]
theorem sc_alike : FnScope N_alike ["_law_told", "_law_due_here"] (defScope (top 18)) := ⟨rfl, rfl, rfl, by decide +kernel, rfl, by decide +kernel, by decide +kernel⟩
theorem okn_alike (T : Txt K mg) : ∀ n : Nat, FnOk P w K mg base CX0 (n + 1) (He.ga K "_law_alike") (fdOf K ("_law_alike", none)) ["_law_told", "_law_due_here"] (sp_alike K n)
  | 0 => fn_never (fun h => h)
  | n + 1 => by
    have G_alike := okn_alike T n
    refine T.F_alike.ok sc_alike (fun vs H Q E h => len_alike h) (fun cdv A outer s H vs Q E hr h => ⟨t_alike K (sp_alike K n), PSs.nox ?_, pure_alike h⟩)
    have hu := hu_of hr
    exact (pss_cons (ps_if (pt_val (pe_callB call_isi (by rfl) T.b_isinstance (by decide +kernel) (pa_cons (pv 1) (pa_cons (pe_bltn (v := .ty "tuple") (by rfl) T.b_tuple (by decide +kernel) rfl) pa_nil)))) (pss_cons (ps_if (PW.pt (pw_or (pt_not (pt_val (pe_callB call_isi (by rfl) T.b_isinstance (by decide +kernel) (pa_cons (pv 0) (pa_cons (pe_bltn (v := .ty "tuple") (by rfl) T.b_tuple (by decide +kernel) rfl) pa_nil))))) (pw_or1 (pt_cmpR op_ne (pe_callB call_len_seq (by rfl) T.b_len PySem.boot_len (pa_cons (pv 0) pa_nil)) (pe_callB call_len_seq (by rfl) T.b_len PySem.boot_len (pa_cons (pv 1) pa_nil)) (nomark _))))) (pss_one (ps_ret pe_bl)) pss_nil)
    (pss_one (ps_ret (pe_cmpR (op_eqD hr.units) (pe_lc (own := [("_law_k", 2)]) (g := (gName 2)) (tt := (tNot (tB (tCall (sp_alike K n) [] E0 (tCons (tOp (rIxT K) (tVar 0) (tVar 2)) (tCons (tOp (rIxT K) (tVar 1) (tVar 2)) tNil)))))) rfl sc_alike.nd (pi_range1 (by rfl) T.b_range (pa_cons (pe_callB call_len_seq (by rfl) T.b_len PySem.boot_len (pa_cons (pv 1) pa_nil)) pa_nil)) (blkOk_by (own := [("_law_k", 2)]) (N := N_alike) (sc := (defScope (top 18))) (by decide +kernel)) (fun _ _ _ _ _ => (pg_name (i := 2) sc_alike.nd rfl (by first | exact Or.inl rfl | exact Or.inr rfl))) (fun _ _ _ _ _ => pts_one (pt_not (pt_val (pe_call G_alike hr rfl T.g_alike T.k_alike T.b_alike .nil pass0 (pa_cons (pe_ix ix_tup (pv 0) (pv 2) (fun _ _ => rfl)) (pa_cons (pe_ix ix_tup (pv 1) (pv 2) (fun _ _ => rfl)) pa_nil)))))) (fun _ _ _ _ _ => (pv 2))) (pe_lst pa_nil) (nomark _))))) pss_nil)
    (pss_one (ps_ret (pe_and (pe_cmpR op_eq (pe_callB call_isi (by rfl) T.b_isinstance (by decide +kernel) (pa_cons (pv 0) (pa_cons (pe_bltn (v := .ty "bool") (by rfl) T.b_bool (by decide +kernel) rfl) pa_nil))) (pe_callB call_isi (by rfl) T.b_isinstance (by decide +kernel) (pa_cons (pv 1) (pa_cons (pe_bltn (v := .ty "bool") (by rfl) T.b_bool (by decide +kernel) rfl) pa_nil))) (nomark _)) (pe_one (pe_cmpR (op_eqD hr.units) (pv 0) (pv 1) (nomark _)))))))
theorem ok_alike (T : Txt K mg) : FnOk P w K mg base CX0 4 (He.ga K "_law_alike") (fdOf K ("_law_alike", none)) ["_law_told", "_law_due_here"] (sp_alike3 K) := okn_alike T 3
def N_listed : List Str := ["_law_told", "_law_due_here"]
theorem sc_listed : FnScope N_listed ["_law_told", "_law_due_here"] (defScope (top 19)) := ⟨rfl, rfl, rfl, by decide +kernel, rfl, by decide +kernel, by decide +kernel⟩
theorem ok_listed (T : Txt K mg) : FnOk P w K mg base CX0 5 (He.ga K "_law_listed") (fdOf K ("_law_listed", none)) ["_law_told", "_law_due_here"] (sp_listed K) := by
  have G_alike := ok_alike (P := P) (w := w) (base := base) T
  refine T.F_listed.ok sc_listed (fun vs H Q E h => len_listed h) (fun cdv A outer s H vs Q E hr h => ⟨t_listed K, PSs.nox ?_, pure_listed  h⟩)
  have hu := hu_of hr
  have hu65 := hu65_of hr
  have hu66 := hu66_of hr
  exact (pss_one (ps_ret (pe_and (pe_callB call_isi (by rfl) T.b_isinstance (by decide +kernel) (pa_cons (pv 0) (pa_cons (pe_bltn (v := .ty "list") (by rfl) T.b_list (by decide +kernel) rfl) pa_nil))) (pe_one (pe_call G_alike (hr.mono (by decide)) rfl T.g_alike T.k_alike T.b_alike .nil pass0 (pa_cons (pe_callTy call_tuple_of (by rfl) T.b_tuple (by decide +kernel) (pa_cons (pv 0) pa_nil)) (pa_cons (pe_callTy call_tuple_of (by rfl) T.b_tuple (by decide +kernel) (pa_cons (pv 1) pa_nil)) pa_nil)))))))
def N_law_heights : List Str := ["_law_many", "_law_arrows_here", "_law_found", "_law_turn", "_law_one", "_law_other"]
theorem sc_law_heights : FnScope N_law_heights ["_law_many", "_law_arrows_here"] (defScope (top 20)) := ⟨rfl, rfl, rfl, by decide +kernel, rfl, by decide +kernel, by decide +kernel⟩
theorem ok_law_heights (T : Txt K mg) : FnOk P w K mg base CX0 1 (He.ga K "_law_heights") (fdOf K ("_law_heights", none)) ["_law_many", "_law_arrows_here"] (sp_law_heights_k09 K) := by
  refine T.F_law_heights.ok sc_law_heights (fun vs H Q E h => len_law_heights_k09 h) (fun cdv A outer s H vs Q E hr h => ⟨t_law_heights_k09 K, PSs.nox ?_, pure_law_heights_k09  h⟩)
  have hu := hu_of hr
  have hu65 := hu65_of hr
  have hu66 := hu66_of hr
  exact (pss_cons (ps_set (i := 2) sc_law_heights.nd rfl (by first | exact Or.inl rfl | exact Or.inr rfl) (pe_op op_rep (pe_lst (pa_cons pe_int pa_nil)) (pv 0)))
    (pss_cons (ps_for PassesOwn.never rfl (pi_range1 (by rfl) T.b_range (pa_cons (pv 0) pa_nil)) (pg_name (i := 3) sc_law_heights.nd rfl (by first | exact Or.inl rfl | exact Or.inr rfl)) (pss_one (ps_for PassesOwn.never rfl (pi_list (pv 1)) (pg_tup (by rfl) (pgs_cons (pg_name (i := 4) sc_law_heights.nd rfl (by first | exact Or.inl rfl | exact Or.inr rfl)) (pgs_cons (pg_name (i := 5) sc_law_heights.nd rfl (by first | exact Or.inl rfl | exact Or.inr rfl)) pgs_nil))) (pss_one (ps_asg (pe_callB (call_max2 rfl) (by rfl) T.b_max (by decide +kernel) (pa_cons (pe_ix ix_list (pv 2) (pv 5) (fun _ _ => rfl)) (pa_cons (pe_op op_add (pe_ix ix_list (pv 2) (pv 4) (fun _ _ => rfl)) pe_int) pa_nil))) (pg_sub (pv 2) (pv 5) set_list))))))
    (pss_one (ps_ret (pv 2)))))
def N_round : List Str := ["_law_many", "_law_arrows_here", "_law_left", "_law_turn", "_law_point", "_law_one", "_law_other"]
theorem sc_round : FnScope N_round ["_law_many", "_law_arrows_here"] (defScope (top 21)) := ⟨rfl, rfl, rfl, by decide +kernel, rfl, by decide +kernel, by decide +kernel⟩
theorem ok_round (T : Txt K mg) : FnOk P w K mg base CX0 1 (He.ga K "_law_round") (fdOf K ("_law_round", none)) ["_law_many", "_law_arrows_here"] (sp_round K) := by
  refine T.F_round.ok sc_round (fun vs H Q E h => len_round h) (fun cdv A outer s H vs Q E hr h => ⟨t_round K, PSs.nox ?_, pure_round  h⟩)
  have hu := hu_of hr
  have hu65 := hu65_of hr
  have hu66 := hu66_of hr
  exact (pss_cons (ps_set (i := 2) sc_round.nd rfl (by first | exact Or.inl rfl | exact Or.inr rfl) (pe_listRg rfl (by rfl) T.b_list (prg_1 (by rfl) T.b_range (pv 0))))
    (pss_cons (ps_for PassesOwn.never rfl (pi_range1 (by rfl) T.b_range (pa_cons (pv 0) pa_nil)) (pg_name (i := 3) sc_round.nd rfl (by first | exact Or.inl rfl | exact Or.inr rfl)) (pss_one (ps_set (i := 2) sc_round.nd rfl (by first | exact Or.inl rfl | exact Or.inr rfl) (pe_lc (own := [("_law_point", 4)]) (g := (gName 4)) (tt := (tTest (tOp (rNeD K) (tLc (iList K (tVar 1)) (gTup K 2 (gCons (gName 5) (gCons (gName 6) gNil))) (tAnd (tTest (tOp rEq (tVar 6) (tVar 4))) (tTest (tOp (rIn K false) (tVar 5) (tVar 2)))) (tC (.int 1)) [5, 6]) (tLst tNil)))) rfl sc_round.nd (pi_list (pv 2)) (blkOk_by (own := [("_law_point", 4)]) (N := N_round) (sc := (defScope (top 21))) (by decide +kernel)) (fun _ _ _ _ _ => (pg_name (i := 4) sc_round.nd rfl (by first | exact Or.inl rfl | exact Or.inr rfl))) (fun _ _ _ _ _ => pts_one (pt_cmpR (op_neD hr.units) (pe_lc (own := [("_law_one", 5), ("_law_other", 6)]) (g := (gTup K 2 (gCons (gName 5) (gCons (gName 6) gNil)))) (tt := (tAnd (tTest (tOp rEq (tVar 6) (tVar 4))) (tTest (tOp (rIn K false) (tVar 5) (tVar 2))))) rfl sc_round.nd (pi_list (pv 1)) (blkOk_by (own := [("_law_one", 5), ("_law_other", 6)]) (N := N_round) (sc := { kind := .function, names := [(".0", .local), ("_law_point", .cell), ("_law_arrows_here", .cell), ("_law_left", .cell)], isGenerator := false, isCoroutine := false }) (by decide +kernel)) (fun _ _ _ _ _ => (pg_tup (by rfl) (pgs_cons (pg_name (i := 5) sc_round.nd rfl (by first | exact Or.inl rfl | exact Or.inr rfl)) (pgs_cons (pg_name (i := 6) sc_round.nd rfl (by first | exact Or.inl rfl | exact Or.inr rfl)) pgs_nil)))) (fun _ _ _ _ _ => pts_one (PW.pt (pw_and (pt_cmpR op_eq (pv 6) (pv 4) (nomark _)) (pw_and1 (pt_cmpR op_in_seq (pv 5) (pv 2) (by rfl)))))) (fun _ _ _ _ _ => pe_int)) (pe_lst pa_nil) (nomark _))) (fun _ _ _ _ _ => (pv 4))))))
    (pss_one (ps_ret (pe_cmpR (op_neD hr.units) (pv 2) (pe_lst pa_nil) (nomark _))))))
def N_class : List Str := ["_law_many", "_law_arrows_here", "_law_which", "_law_e", "_law_told", "_law_at"]
theorem sc_class : FnScope N_class ["_law_many", "_law_arrows_here", "_law_which"] (defScope (top 22)) := ⟨rfl, rfl, rfl, by decide +kernel, rfl, by decide +kernel, by decide +kernel⟩
theorem ok_class (T : Txt K mg) : FnOk P w K mg base CX0 4 (He.ga K "_law_class") (fdOf K ("_law_class", none)) ["_law_many", "_law_arrows_here", "_law_which"] (sp_class_k09 K) := by
  have G_heights := ok_heights (P := P) (w := w) (base := base) T
  have G_longest := ok_longest (P := P) (w := w) (base := base) T
  have G_only := ok_only (P := P) (w := w) (base := base) T
  refine T.F_class.ok sc_class (fun vs H Q E h => len_class_k09 h) (fun cdv A outer s H vs Q E hr h => ⟨t_class_k09 K, PSs.nox ?_, pure_class_k09 T.e_NoPoints_TieError T.e_NoPoint_TieError T.e_Round_TieError h⟩)
  have hu := hu_of hr
  have hu65 := hu65_of hr
  have hu66 := hu66_of hr
  exact (pss_cons (L2N.ps_try_as (i := 3) (by rfl) (by rfl) sc_class.nd (by rfl) (by rfl) ⟨by rfl, by decide, .inl T.gTieError⟩ takes0N (fun W pn xe tk tp => (pss_one (ps_if (pt_cmpR op_eq (pv 2) pe_int (nomark _)) (pss_one (ps_expr (pe_callS G_heights (hr.mono (by decide)) (by rfl) T.g_heights T.k_heights T.b_heights (fun σ => L2N.passAt tk σ) (pa_cons (pv 0) (pa_cons (pv 1) pa_nil))))) (pss_one (ps_expr (pe_callS G_longest (hr.mono (by decide)) (by rfl) T.g_longest T.k_longest T.b_longest (fun σ => L2N.passAt tk σ) (pa_cons (pv 0) (pa_cons (pv 1) pa_nil)))))))) (fun a oe cls d pn hz hf => (pss_cons (L2H.ps_forH PassesOwn.never (hotS rfl hz hf List.mem_cons_self) (pi_listN (pe_lst (pa_cons (pe_tup (pa_cons pe_int (pa_cons pe_int pa_nil))) (pa_cons (pe_tup (pa_cons pe_int (pa_cons pe_int pa_nil))) (pa_cons (pe_tup (pa_cons pe_int (pa_cons pe_int pa_nil))) pa_nil))))) (pg_tupH (hotS rfl hz hf List.mem_cons_self) (pgs_cons (pg_name (i := 4) sc_class.nd rfl (by first | exact Or.inl rfl | exact Or.inr rfl)) (pgs_cons (pg_name (i := 5) sc_class.nd rfl (by first | exact Or.inl rfl | exact Or.inr rfl)) pgs_nil))) (pss_one (ps_if (pt_val (pe_callE G_only (roomS hr (by decide)) hz.zc hf List.mem_cons_self (by rfl) T.g_only T.k_only T.b_only (pa_cons (pv 3) (pa_cons (pv 5) pa_nil)))) (pss_one (ps_ret (pv 4))) pss_nil)))
    (pss_one (ps_ret (pe_un un_neg pe_int))))))
    (pss_one (ps_ret pe_int)))
def N_due : List Str := ["_law_many", "_law_arrows_here", "_law_one", "_law_other"]
theorem sc_due : FnScope N_due ["_law_many", "_law_arrows_here"] (defScope (top 23)) := ⟨rfl, rfl, rfl, by decide +kernel, rfl, by decide +kernel, by decide +kernel⟩
theorem ok_due (T : Txt K mg) : FnOk P w K mg base CX0 2 (He.ga K "_law_due") (fdOf K ("_law_due", none)) ["_law_many", "_law_arrows_here"] (sp_due_k09 K) := by
  have G_round := ok_round (P := P) (w := w) (base := base) T
  refine T.F_due.ok sc_due (fun vs H Q E h => len_due_k09 h) (fun cdv A outer s H vs Q E hr h => ⟨t_due_k09 K, PSs.nox ?_, pure_due_k09  h⟩)
  have hu := hu_of hr
  have hu65 := hu65_of hr
  have hu66 := hu66_of hr
  exact (pss_cons (ps_if (PW.pt (pw_or (pt_cmpR op_lt (pv 0) pe_int (nomark _)) (pw_or1 (pt_cmpR op_gt (pv 0) pe_int (nomark _))))) (pss_one (ps_ret pe_int)) pss_nil)
    (pss_cons (ps_for PassesOwn.never rfl (pi_list (pv 1)) (pg_tup (by rfl) (pgs_cons (pg_name (i := 2) sc_due.nd rfl (by first | exact Or.inl rfl | exact Or.inr rfl)) (pgs_cons (pg_name (i := 3) sc_due.nd rfl (by first | exact Or.inl rfl | exact Or.inr rfl)) pgs_nil))) (pss_one (ps_if (PW.pt (pw_or (pt_cmpR op_lt (pe_callB (call_min2 rfl) (by rfl) T.b_min (by decide +kernel) (pa_cons (pv 2) (pa_cons (pv 3) pa_nil))) pe_int (nomark _)) (pw_or1 (pt_cmpR op_ge (pe_callB (call_max2 rfl) (by rfl) T.b_max (by decide +kernel) (pa_cons (pv 2) (pa_cons (pv 3) pa_nil))) (pv 0) (nomark _))))) (pss_one (ps_ret pe_int)) pss_nil)))
    (pss_cons (ps_if (pt_val (pe_call G_round (hr.mono (by decide)) rfl T.g_round T.k_round T.b_round .nil pass0 (pa_cons (pv 0) (pa_cons (pv 1) pa_nil)))) (pss_one (ps_ret pe_int)) pss_nil)
    (pss_one (ps_ret pe_int)))))
def N_least : List Str := ["_law_many", "_law_arrows_here", "_law_one", "_law_other", "_law_deep", "_law_row", "_law_left", "_law_point", "_law_good"]
theorem sc_least : FnScope N_least ["_law_many", "_law_arrows_here"] (defScope (top 24)) := ⟨rfl, rfl, rfl, by decide +kernel, rfl, by decide +kernel, by decide +kernel⟩
theorem ok_least (T : Txt K mg) : FnOk P w K mg base CX0 2 (He.ga K "_law_least") (fdOf K ("_law_least", none)) ["_law_many", "_law_arrows_here"] (sp_least_k09 K) := by
  have G_law_heights := ok_law_heights (P := P) (w := w) (base := base) T
  refine T.F_least.ok sc_least (fun vs H Q E h => len_least_k09 h) (fun cdv A outer s H vs Q E hr h => ⟨t_least_k09 K, PSs.nox ?_, pure_least_k09  h⟩)
  have hu := hu_of hr
  have hu65 := hu65_of hr
  have hu66 := hu66_of hr
  exact (pss_cons (ps_set (i := 4) sc_least.nd rfl (by first | exact Or.inl rfl | exact Or.inr rfl) (pe_call G_law_heights (hr.mono (by decide)) rfl T.g_law_heights T.k_law_heights T.b_law_heights .nil pass0 (pa_cons (pv 0) (pa_cons (pe_lc (own := [("_law_one", 2), ("_law_other", 3)]) (g := (gTup K 2 (gCons (gName 2) (gCons (gName 3) gNil)))) (tt := tYes) rfl sc_least.nd (pi_list (pv 1)) (blkOk_by (own := [("_law_one", 2), ("_law_other", 3)]) (N := N_least) (sc := (defScope (top 24))) (by decide +kernel)) (fun _ _ _ _ _ => (pg_tup (by rfl) (pgs_cons (pg_name (i := 2) sc_least.nd rfl (by first | exact Or.inl rfl | exact Or.inr rfl)) (pgs_cons (pg_name (i := 3) sc_least.nd rfl (by first | exact Or.inl rfl | exact Or.inr rfl)) pgs_nil)))) (fun _ _ _ _ _ => pts_nil) (fun _ _ _ _ _ => (pe_tup (pa_cons (pv 3) (pa_cons (pv 2) pa_nil))))) pa_nil))))
    (pss_cons (ps_set (i := 5) sc_least.nd rfl (by first | exact Or.inl rfl | exact Or.inr rfl) (pe_lst pa_nil))
    (pss_cons (ps_for PassesOwn.never rfl (pi_range3 rfl T.b_range (pa_cons (pe_callBK (cr_maxDef rfl hu) (by rfl) T.b_max (by decide +kernel) (pa_cons (pv 4) pa_nil) (pk_cons pe_int pk_nil)) (pa_cons pe_int (pa_cons (pe_un un_neg pe_int) pa_nil)))) (pg_name (i := 6) sc_least.nd rfl (by first | exact Or.inl rfl | exact Or.inr rfl)) (pss_cons (ps_setLc (i := 8) (own := [("_law_point", 7)]) (g := (gName 7)) (tt := (tTest (tOp rEq (tOp (rIxL K) (tVar 4) (tVar 7)) (tVar 6)))) rfl sc_least.nd rfl rfl (sw_true rfl rfl rfl (by decide +kernel)) (pi_range1 (by rfl) T.b_range (pa_cons (pv 0) pa_nil)) (blkOk_by (own := [("_law_point", 7)]) (N := N_least) (sc := (defScope (top 24))) (by decide +kernel)) (fun _ _ _ _ _ => (pg_name (i := 7) sc_least.nd rfl (by first | exact Or.inl rfl | exact Or.inr rfl))) (fun _ _ _ _ _ => pts_one (pt_cmpR op_eq (pe_ix ix_list (pv 4) (pv 7) (fun _ _ => rfl)) (pv 6) (nomark _))) (fun _ _ _ _ _ => (pv 7)))
    (Evl.pss_cut (ps_if (pt_truth (pv 5) (by intro _; rfl)) (pss_one (ps_setLc (i := 8) (own := [("_law_point", 7)]) (g := (gName 7)) (tt := (tTest (tOp (rInD K) (tTup (tCons (tOp (rIxL K) (tVar 5) (tUn oNeg (tC (.int 1)))) (tCons (tVar 7) tNil))) (tVar 1)))) rfl sc_least.nd rfl rfl (sw_true rfl rfl rfl (by decide +kernel)) (pi_list (pv 8)) (blkOk_by (own := [("_law_point", 7)]) (N := N_least) (sc := (defScope (top 24))) (by decide +kernel)) (fun _ _ _ _ _ => (pg_name (i := 7) sc_least.nd rfl (by first | exact Or.inl rfl | exact Or.inr rfl))) (fun _ _ _ _ _ => pts_one (pt_cmpR (op_inD hu65) (pe_tup (pa_cons (pe_ix ix_list (pv 5) (pe_un un_neg pe_int) (fun _ _ => rfl)) (pa_cons (pv 7) pa_nil))) (pv 1) (by rfl))) (fun _ _ _ _ _ => (pv 7)))) pss_nil)
    (pss_one (ps_expr (pe_bm PySem.F.plainAttrs_list PySem.F.slot_list_append PySem.F.type_list_append mt_append (pv 5) (pa_cons (pe_callB (cr_min rfl) (by rfl) T.b_min (by decide +kernel) (pa_cons (pv 8) pa_nil)) pa_nil)))))))
    (pss_one (ps_ret (pv 5))))))
def N_arrows : List Str := ["_law_script", "_law_many", "_law_arrows_here", "_law_step", "_law_k", "_law_cell", "_law_pair", "_law_turn"]
theorem sc_arrows : FnScope N_arrows ["_law_script", "_law_many"] (defScope (top 25)) := ⟨rfl, rfl, rfl, by decide +kernel, rfl, by decide +kernel, by decide +kernel⟩
theorem ok_arrows (T : Txt K mg) : FnOk P w K mg base CX0 2 (He.ga K "_law_arrows") (fdOf K ("_law_arrows", none)) ["_law_script", "_law_many"] (sp_arrows_k09 K) := by
  have G_cell_at := ok_cell_at (P := P) (w := w) (base := base) T
  refine T.F_arrows.ok sc_arrows (fun vs H Q E h => len_arrows_k09 h) (fun cdv A outer s H vs Q E hr h => ⟨t_arrows_k09 K, PSs.nox ?_, pure_arrows_k09  h⟩)
  have hu := hu_of hr
  have hu65 := hu65_of hr
  have hu66 := hu66_of hr
  exact (pss_cons (ps_set (i := 2) sc_arrows.nd rfl (by first | exact Or.inl rfl | exact Or.inr rfl) (pe_lst pa_nil))
    (Evl.pss_cut (ps_if (PW.pt (pw_and (pt_cmpR op_eq (pe_op op_mod (pe_op op_fdiv (pe_call G_cell_at (hr.mono (by decide)) rfl T.g_cell_at T.k_cell_at T.b_cell_at .nil pass0 (pa_cons (pv 0) (pa_cons pe_int pa_nil))) pe_int) pe_int) pe_int (nomark _)) (pw_and1 (pt_cmpR op_eq (pe_op op_mod (pe_call G_cell_at (hr.mono (by decide)) rfl T.g_cell_at T.k_cell_at T.b_cell_at .nil pass0 (pa_cons (pv 0) (pa_cons pe_int pa_nil))) pe_int) pe_int (nomark _))))) (pss_cons (ps_set (i := 3) sc_arrows.nd rfl (by first | exact Or.inl rfl | exact Or.inr rfl) (pe_ix ix_list (pe_lst (pa_cons pe_int (pa_cons pe_int (pa_cons pe_int (pa_cons pe_int pa_nil))))) (pe_op op_mod (pe_call G_cell_at (hr.mono (by decide)) rfl T.g_cell_at T.k_cell_at T.b_cell_at .nil pass0 (pa_cons (pv 0) (pa_cons pe_int pa_nil))) pe_int) (fun _ _ => rfl)))
    (pss_cons (ps_for PassesOwn.never rfl (pi_range1 (by rfl) T.b_range (pa_cons (pe_op op_sub (pv 1) pe_int) pa_nil)) (pg_name (i := 4) sc_arrows.nd rfl (by first | exact Or.inl rfl | exact Or.inr rfl)) (pss_one (ps_expr (pe_bm PySem.F.plainAttrs_list PySem.F.slot_list_append PySem.F.type_list_append mt_append (pv 2) (pa_cons (pe_tup (pa_cons (pe_op op_modN (pe_op op_mod (pe_op op_mul (pv 4) (pv 3)) pe_int) (pv 1)) (pa_cons (pe_op op_modN (pe_op op_mod (pe_op op_mul (pe_op op_add (pv 4) pe_int) (pv 3)) pe_int) (pv 1)) pa_nil))) pa_nil)))))
    (pss_one (ps_ret (pv 2))))) pss_nil)
    (pss_cons (ps_for PassesOwn.never rfl (pi_range1 (by rfl) T.b_range (pa_cons (pe_op op_mul (pe_op op_mod (pe_call G_cell_at (hr.mono (by decide)) rfl T.g_cell_at T.k_cell_at T.b_cell_at .nil pass0 (pa_cons (pv 0) (pa_cons pe_int pa_nil))) pe_int) (pe_callTy call_int1 (by rfl) T.b_int (by decide +kernel) (pa_cons (pe_cmpR op_gt (pv 1) pe_int (nomark _)) pa_nil))) pa_nil)) (pg_name (i := 4) sc_arrows.nd rfl (by first | exact Or.inl rfl | exact Or.inr rfl)) (pss_cons (ps_set (i := 5) sc_arrows.nd rfl (by first | exact Or.inl rfl | exact Or.inr rfl) (pe_op op_mod (pe_op op_mul (pe_op op_add (pe_call G_cell_at (hr.mono (by decide)) rfl T.g_cell_at T.k_cell_at T.b_cell_at .nil pass0 (pa_cons (pv 0) (pa_cons (pe_op op_add pe_int (pv 4)) pa_nil))) (pe_op op_mul pe_int (pv 4))) pe_int) pe_int))
    (pss_cons (ps_set (i := 6) sc_arrows.nd rfl (by first | exact Or.inl rfl | exact Or.inr rfl) (pe_tup (pa_cons (pe_op op_modN (pv 5) (pv 1)) (pa_cons (pe_op op_modN (pe_op op_fdiv (pv 5) pe_int) (pv 1)) pa_nil))))
    (Evl.pss_cut (ps_if (pt_cmpR op_gt (pe_op op_mod (pe_call G_cell_at (hr.mono (by decide)) rfl T.g_cell_at T.k_cell_at T.b_cell_at .nil pass0 (pa_cons (pv 0) (pa_cons pe_int pa_nil))) pe_int) pe_int (nomark _)) (pss_cons (ps_set (i := 7) sc_arrows.nd rfl (by first | exact Or.inl rfl | exact Or.inr rfl) (pe_op op_modN (pe_op op_fdiv (pe_call G_cell_at (hr.mono (by decide)) rfl T.g_cell_at T.k_cell_at T.b_cell_at .nil pass0 (pa_cons (pv 0) (pa_cons pe_int pa_nil))) pe_int) (pv 1)))
    (Evl.pss_cut (ps_if (pt_cmpR op_eq (pe_ix ix_tup (pv 6) pe_int (fun _ _ => rfl)) (pe_ix ix_tup (pv 6) pe_int (fun _ _ => rfl)) (nomark _)) (pss_one (ps_set (i := 6) sc_arrows.nd rfl (by first | exact Or.inl rfl | exact Or.inr rfl) (pe_tup (pa_cons (pe_ix ix_tup (pv 6) pe_int (fun _ _ => rfl)) (pa_cons (pe_op op_modN (pe_op op_add (pe_ix ix_tup (pv 6) pe_int (fun _ _ => rfl)) pe_int) (pv 1)) pa_nil))))) pss_nil)
    (pss_one (ps_if (PW.pt (pw_and (pt_cmpR op_ne (pe_ix ix_tup (pv 6) pe_int (fun _ _ => rfl)) (pe_ix ix_tup (pv 6) pe_int (fun _ _ => rfl)) (nomark _)) (pw_and1 (pt_cmpR op_gt (pe_op op_modN (pe_op op_add (pe_ix ix_tup (pv 6) pe_int (fun _ _ => rfl)) (pv 7)) (pv 1)) (pe_op op_modN (pe_op op_add (pe_ix ix_tup (pv 6) pe_int (fun _ _ => rfl)) (pv 7)) (pv 1)) (nomark _))))) (pss_one (ps_set (i := 6) sc_arrows.nd rfl (by first | exact Or.inl rfl | exact Or.inr rfl) (pe_tup (pa_cons (pe_ix ix_tup (pv 6) pe_int (fun _ _ => rfl)) (pa_cons (pe_ix ix_tup (pv 6) pe_int (fun _ _ => rfl)) pa_nil))))) pss_nil)))) pss_nil)
    (pss_one (ps_expr (pe_bm PySem.F.plainAttrs_list PySem.F.slot_list_append PySem.F.type_list_append mt_append (pv 2) (pa_cons (pv 6) pa_nil))))))))
    (pss_one (ps_ret (pv 2))))))
def N_law : List Str := ["_law_script", "_law_many", "_law_arrows_here", "_law_cell", "_law_at", "_law_far", "_law_due_here", "_law_handed", "_law_which", "_law_told", "_law_row", "_law_held", "_law_copy"]
theorem sc_law : FnScope N_law ["_law_script"] (defScope (top 26)) := ⟨rfl, rfl, rfl, by decide +kernel, rfl, by decide +kernel, by decide +kernel⟩
theorem ok_law (T : Txt K mg) : FnOk P w K mg base CX0 6 (He.ga K "law") (fdOf K ("law", none)) ["_law_script"] (sp_law_k09 K) := by
  have G_cell_at := ok_cell_at (P := P) (w := w) (base := base) T
  have G_arrows := ok_arrows (P := P) (w := w) (base := base) T
  have G_due := ok_due (P := P) (w := w) (base := base) T
  have G_class := ok_class (P := P) (w := w) (base := base) T
  have G_heights := ok_heights (P := P) (w := w) (base := base) T
  have G_longest := ok_longest (P := P) (w := w) (base := base) T
  have G_law_heights := ok_law_heights (P := P) (w := w) (base := base) T
  have G_listed := ok_listed (P := P) (w := w) (base := base) T
  have G_least := ok_least (P := P) (w := w) (base := base) T
  refine T.F_law.ok sc_law (fun vs H Q E h => len_law_k09 h) (fun cdv A outer s H vs Q E hr h => ⟨t_law_k09 K, PSs.nox ?_, pure_law_k09  h⟩)
  have hu := hu_of hr
  have hu65 := hu65_of hr
  have hu66 := hu66_of hr
  exact (pss_cons (ps_set (i := 1) sc_law.nd rfl (by first | exact Or.inl rfl | exact Or.inr rfl) (pe_op op_mod (pe_call G_cell_at (hr.mono (by decide)) rfl T.g_cell_at T.k_cell_at T.b_cell_at .nil pass0 (pa_cons (pv 0) (pa_cons pe_int pa_nil))) pe_int))
    (Evl.pss_cut (ps_if (pt_cmpR op_eq (pe_op op_mod (pe_op op_fdiv (pe_call G_cell_at (hr.mono (by decide)) rfl T.g_cell_at T.k_cell_at T.b_cell_at .nil pass0 (pa_cons (pv 0) (pa_cons pe_int pa_nil))) pe_int) pe_int) pe_int (nomark _)) (pss_one (ps_set (i := 1) sc_law.nd rfl (by first | exact Or.inl rfl | exact Or.inr rfl) (pe_op op_mod (pe_op op_fdiv (pe_call G_cell_at (hr.mono (by decide)) rfl T.g_cell_at T.k_cell_at T.b_cell_at .nil pass0 (pa_cons (pv 0) (pa_cons pe_int pa_nil))) pe_int) pe_int))) pss_nil)
    (pss_cons (ps_set (i := 2) sc_law.nd rfl (by first | exact Or.inl rfl | exact Or.inr rfl) (pe_call G_arrows (hr.mono (by decide)) rfl T.g_arrows T.k_arrows T.b_arrows .nil pass0 (pa_cons (pv 0) (pa_cons (pv 1) pa_nil))))
    (pss_cons (ps_set (i := 3) sc_law.nd rfl (by first | exact Or.inl rfl | exact Or.inr rfl) (pe_call G_cell_at (hr.mono (by decide)) rfl T.g_cell_at T.k_cell_at T.b_cell_at .nil pass0 (pa_cons (pv 0) (pa_cons pe_int pa_nil))))
    (Evl.pss_cut (ps_if (pt_cmpR op_eq (pe_op op_mod (pv 3) pe_int) pe_int (nomark _)) (pss_cons (ps_set (i := 4) sc_law.nd rfl (by first | exact Or.inl rfl | exact Or.inr rfl) (pe_op op_modN (pe_op op_fdiv (pv 3) pe_int) (pe_op op_add (pe_callB call_len_seq (by rfl) T.b_len PySem.boot_len (pa_cons (pv 2) pa_nil)) pe_int)))
    (pss_cons (ps_set (i := 5) sc_law.nd rfl (by first | exact Or.inl rfl | exact Or.inr rfl) (pe_op op_modN (pe_op op_fdiv (pv 3) pe_int) (pe_op op_pow pe_int pe_int)))
    (pss_one (ps_set (i := 2) sc_law.nd rfl (by first | exact Or.inl rfl | exact Or.inr rfl) (pe_op op_cat (pe_op op_cat (pe_slice sl_list (pv 2) po_none (po_some (pv 4))) (pe_lst (pa_cons (pe_ix ix_list (pe_lst (pa_cons (pe_tup (pa_cons (pe_un un_neg pe_int) (pa_cons pe_int pa_nil))) (pa_cons (pe_tup (pa_cons pe_int (pa_cons (pv 1) pa_nil))) (pa_cons (pe_tup (pa_cons (pe_op op_add (pv 1) (pv 5)) (pa_cons pe_int pa_nil))) (pa_cons (pe_tup (pa_cons pe_int (pa_cons (pe_op op_sub (pe_un un_neg pe_int) (pv 5)) pa_nil))) pa_nil))))) (pe_op op_mod (pe_op op_fdiv (pv 3) pe_int) pe_int) (fun _ _ => rfl)) pa_nil))) (pe_slice sl_list (pv 2) (po_some (pv 4)) po_none)))))) pss_nil)
    (Evl.pss_cut (ps_if (pt_cmpR op_eq (pe_op op_mod (pv 3) pe_int) pe_int (nomark _)) (pss_one (ps_set (i := 1) sc_law.nd rfl (by first | exact Or.inl rfl | exact Or.inr rfl) (pe_ix ix_list (pe_lst (pa_cons (pe_un un_neg pe_int) (pa_cons pe_int (pa_cons (pe_op op_add pe_int (pe_op op_modN (pe_op op_fdiv (pv 3) pe_int) (pe_op op_pow pe_int pe_int))) pa_nil)))) (pe_op op_mod (pe_op op_fdiv (pv 3) pe_int) pe_int) (fun _ _ => rfl)))) pss_nil)
    (pss_cons (ps_set (i := 6) sc_law.nd rfl (by first | exact Or.inl rfl | exact Or.inr rfl) (pe_call G_due (hr.mono (by decide)) rfl T.g_due T.k_due T.b_due .nil pass0 (pa_cons (pv 1) (pa_cons (pv 2) pa_nil))))
    (pss_cons (ps_set (i := 7) sc_law.nd rfl (by first | exact Or.inl rfl | exact Or.inr rfl) (pe_callTy call_list_of (by rfl) T.b_list (by decide +kernel) (pa_cons (pv 2) pa_nil)))
    (pss_cons (ps_if (PW.pt (pw_or (pt_cmpR (op_neD hr.units) (pe_lc (own := [("_law_which", 8)]) (g := (gName 8)) (tt := tYes) rfl sc_law.nd (pi_range1 (by rfl) T.b_range (pa_cons pe_int pa_nil)) (blkOk_by (own := [("_law_which", 8)]) (N := N_law) (sc := (defScope (top 26))) (by decide +kernel)) (fun _ _ _ _ _ => (pg_name (i := 8) sc_law.nd rfl (by first | exact Or.inl rfl | exact Or.inr rfl))) (fun _ _ _ _ _ => pts_nil) (fun _ _ _ _ _ => (pe_call G_class (hr.mono (by decide)) rfl T.g_class T.k_class T.b_class .nil pass0 (pa_cons (pv 1) (pa_cons (pv 7) (pa_cons (pv 8) pa_nil)))))) (pe_lst (pa_cons (pv 6) (pa_cons (pv 6) pa_nil))) (nomark _)) (pw_or1 (pt_cmpR (op_neD hr.units) (pv 7) (pv 2) (nomark _))))) (pss_one (ps_ret pe_bl)) pss_nil)
    (pss_cons (ps_if (pt_cmpR op_lt (pv 6) pe_int (nomark _)) (pss_one (ps_ret pe_bl)) pss_nil)
    (pss_cons (ps_set (i := 9) sc_law.nd rfl (by first | exact Or.inl rfl | exact Or.inr rfl) (pe_call G_heights (hr.mono (by decide)) rfl T.g_heights T.k_heights T.b_heights .nil passLN (pa_cons (pv 1) (pa_cons (pv 7) pa_nil))))
    (pss_cons (ps_set (i := 10) sc_law.nd rfl (by first | exact Or.inl rfl | exact Or.inr rfl) (pe_call G_longest (hr.mono (by decide)) rfl T.g_longest T.k_longest T.b_longest .nil passLN (pa_cons (pv 1) (pa_cons (pv 7) pa_nil))))
    (pss_cons (ps_if (PW.pt (pw_or (pt_not (pt_val (pe_call G_listed (hr.mono (by decide)) rfl T.g_listed T.k_listed T.b_listed .nil pass0 (pa_cons (pv 9) (pa_cons (pe_call G_law_heights (hr.mono (by decide)) rfl T.g_law_heights T.k_law_heights T.b_law_heights .nil pass0 (pa_cons (pv 1) (pa_cons (pv 2) pa_nil))) pa_nil))))) (pw_or1 (pt_not (pt_val (pe_call G_listed (hr.mono (by decide)) rfl T.g_listed T.k_listed T.b_listed .nil pass0 (pa_cons (pv 10) (pa_cons (pe_call G_least (hr.mono (by decide)) rfl T.g_least T.k_least T.b_least .nil pass0 (pa_cons (pv 1) (pa_cons (pv 2) pa_nil))) pa_nil)))))))) (pss_one (ps_ret pe_bl)) pss_nil)
    (pss_cons (ps_set (i := 11) sc_law.nd rfl (by first | exact Or.inl rfl | exact Or.inr rfl) (pe_callTy call_list_of (by rfl) T.b_list (by decide +kernel) (pa_cons (pv 10) pa_nil)))
    (pss_cons (ps_set (i := 12) sc_law.nd rfl (by first | exact Or.inl rfl | exact Or.inr rfl) (pe_callTy call_list_of (by rfl) T.b_list (by decide +kernel) (pa_cons (pv 9) pa_nil)))
    (pss_cons (ps_expr (pe_call G_heights (hr.mono (by decide)) rfl T.g_heights T.k_heights T.b_heights .nil passLN (pa_cons pe_int (pa_cons (pe_lst (pa_cons (pe_tup (pa_cons pe_int (pa_cons pe_int pa_nil))) pa_nil)) pa_nil))))
    (pss_cons (ps_expr (pe_call G_longest (hr.mono (by decide)) rfl T.g_longest T.k_longest T.b_longest .nil passLN (pa_cons pe_int (pa_cons (pe_lst (pa_cons (pe_tup (pa_cons pe_int (pa_cons pe_int pa_nil))) pa_nil)) pa_nil))))
    (pss_cons (ps_if (PW.pt (pw_or (pt_cmpR (op_neD hr.units) (pv 9) (pv 12) (nomark _)) (pw_or1 (pt_cmpR (op_neD hr.units) (pv 10) (pv 11) (nomark _))))) (pss_one (ps_ret pe_bl)) pss_nil)
    (pss_cons (ps_expr (pe_bm0 PySem.F.plainAttrs_list PySem.F.slot_list_clear PySem.F.type_list_clear mt_clear (pv 9)))
    (pss_cons (ps_expr (pe_bm PySem.F.plainAttrs_list PySem.F.slot_list_append PySem.F.type_list_append mt_append (pv 10) (pa_cons pe_int pa_nil)))
    (pss_one (ps_ret (pe_and (pe_cmpR (op_eqD hr.units) (pe_call G_longest (hr.mono (by decide)) rfl T.g_longest T.k_longest T.b_longest .nil passLN (pa_cons (pv 1) (pa_cons (pv 7) pa_nil))) (pv 11) (nomark _)) (pe_one (pe_call G_listed (hr.mono (by decide)) rfl T.g_listed T.k_listed T.b_listed .nil pass0 (pa_cons (pe_call G_heights (hr.mono (by decide)) rfl T.g_heights T.k_heights T.b_heights .nil passLN (pa_cons (pv 1) (pa_cons (pv 7) pa_nil))) (pa_cons (pe_call G_law_heights (hr.mono (by decide)) rfl T.g_law_heights T.k_law_heights T.b_law_heights .nil pass0 (pa_cons (pv 1) (pa_cons (pv 2) pa_nil))) pa_nil)))))))))))))))))))))))))))
end
theorem facts {P : Program} {w : World} {K : PySem.W.Frag} {h : Heap} {mg : Str → Option Value} {f : Addr} (X : K.In h) (G : h.Ns mainGlobals mg) (hfa : mg ("law" : Str) = some (.ref f)) (c : He.SaysD fal fnl K) (ce : ex K = true) :
    ∃ fd : FuncData, (∀ (s : Shared) (v : Value), BindsTo s fd ⟨[v], []⟩ [("_law_script", v)]) ∧ ∀ base : Heap, K.In base → base.Ns mainGlobals mg → FnOk P w K mg base CX0 6 f fd ["_law_script"] (sp_law_k09 K) := by
  have T : Txt K mg := ⟨⟨h, X, G⟩, c, ce⟩
  have e := hfa.symm.trans T.g_law
  cases e
  have b := FunD.bindsA (ps := ["_law_script"]) T.F_law fun _ _ _ _ _ _ us hl => match us, hl with | [_], _ => rfl
  exact ⟨_, fun s v => b s [v] rfl, fun base _ _ => ok_law T⟩
end Lk09
open PySem PySem.W PySem.Calls PyProof.Rows
theorem PySem.Challenge.cw_arrowties_k09_heights_and_longest_holds : PySem.Challenge.rw_arrowties_k09_heights_and_longest.Holds := by
  w_on; o_law
  refine HandSHeadRun.head_any (r := OpenLaw.row PySem.Challenge.rw_arrowties_k09_heights_and_longest) (q := view (OpenLaw.row PySem.Challenge.rw_arrowties_k09_heights_and_longest).prog [26]) (H := Lk09.hk) (ob := Lk09.ob) (M := 6000) (loose := Lk09.loose) (d := HandSHeadRun.topDef (OpenLaw.row PySem.Challenge.rw_arrowties_k09_heights_and_longest).prog 26) (kwd := []) Lk09.ob_eq
    (by kernel_rfl) (fun s => by kernel_rfl) Lk09.run (by kernel_rfl) (by kernel_rfl) (by kernel_rfl) (by rfl) (by first | assumption | decide +kernel) (by decide +kernel) ⟨rfl, rfl, rfl, rfl, rfl, by decide +kernel⟩ ?hw ?hc
  case hw => w_witness2
  case hc =>
    refine L2.walk_ofE (l := PySem.Challenge.rw_arrowties_k09_heights_and_longest) (n := 63) (k := 6) (x := "_law_script") (CX := L2.CX0) rfl (by decide) (by kernel_rfl) ⟨rfl, by decide, by decide⟩ ?F (fun _ _ _ _ z => z)
    intro w mg fa h Y G hmg0
    obtain ⟨K, KX, c⟩ := Y
    have hmg : mg ("law" : PySem.Str) = some (.ref fa) := by
      have e : (HandSHeadRun.topDef (OpenLaw.row PySem.Challenge.rw_arrowties_k09_heights_and_longest).prog 26).name = ("law" : PySem.Str) := by kernel_rfl
      rw [← e]
      exact hmg0
    obtain ⟨fd, hb, hF⟩ := Lk09.facts (P := (PySem.Challenge.rw_arrowties_k09_heights_and_longest).prog) (w := w) KX G hmg c.t.d c.more
    exact ⟨K, fd, Ar.sp_law_k09 K, KX, hb, fun H a ns hl _ hS => ⟨a, ns, rfl, hS, hl, fun _ => rfl⟩, hF⟩

