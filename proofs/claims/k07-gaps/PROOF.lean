import PyProof.Rows.All
import Wide.All
import OpenK.AllK
import Wide.FinOn
import KE.KStateDown
import KE.KDictKeyed
import KE.KDictLaw
import KE.KDictDisplayH
import KE.SortData
import HandS.ForMost
import HandS.ForExc
import HandS.Defaults
import HandS.IsInst
import HandS.ExcIs
import HandS.TupLen
import HandS.Conv
import HandS.SetKeys
import HandS.SetFor
import HandS.Deep
import HandS.Style
import HandS.TupLe
import HandS.SortRule
import HandS.Flow
import HandS.Small
import HandS.More
import HandS.Evl
import HandS.TryMany
import HandS.HotCalls
import HandS.ExcCtx
import HandS.Head0
import HandS.Head1
import HandS.Head2
import HandS.HeadEnd
import HandS.HeadHook1
import HandS.HeadHook2
import HandS.HeadHook4
import PySem.Challenge.RW_arrowties_k07_gaps
set_option Elab.async false
set_option linter.all false
set_option maxRecDepth 100000
set_option maxHeartbeats 0
namespace Ar
open PySem PySem.Spec L2
/-! ### readings of operators, by name -/
abbrev oAdd : R2 := rI0 fun i j => .int (i + j)
abbrev oSub : R2 := rI0 fun i j => .int (i - j)
abbrev oMul : R2 := rI CMul fun i j => .int (i * j)
abbrev oMod : R2 := rI (fun _ j => 0 < j) fun i j => .int (i % j)
abbrev oModN : R2 := rI (fun _ j => j ≠ 0) fun i j => .int (i.fmod j)
abbrev oDiv : R2 := rI CDiv fun i j => .int (i / j)
abbrev oDivN : R2 := rI CDivN fun i j => .int (i.fdiv j)
abbrev oPow : R2 := rI CPow fun i j => .int (i ^ j.toNat)
abbrev oNeg : V → Hp → VK → Prop := rU fun i => .int (-i)
abbrev oLt : R2 := rI0 fun i j => .bl (decide (i < j))
abbrev oLe : R2 := rI0 fun i j => .bl (decide (i ≤ j))
abbrev oGt : R2 := rI0 fun i j => .bl (decide (j < i))
abbrev oGe : R2 := rI0 fun i j => .bl (decide (j ≤ i))
abbrev oIsB : R2 := rIsB
abbrev oNotIsB : R2 := rNotB
abbrev CallT : Type := List V → Hp → VK → Prop
abbrev cLen (K : PySem.W.Frag) : CallT := fun xs H Q => ∃ p ys, xs = [.ref p] ∧ (SqL K H p ys ∨ SqT K H p ys) ∧ Q (.int ys.length) H
abbrev cList (K : PySem.W.Frag) : CallT := fun xs H Q => ∃ p ys, xs = [.ref p] ∧ (SqL K H p ys ∨ SqT K H p ys) ∧ ∀ l, H l = none → Q (.ref l) (upd H l (.lst ys))
abbrev cTuple (K : PySem.W.Frag) : CallT := fun xs H Q => ∃ p ys, xs = [.ref p] ∧ ((SqL K H p ys ∧ ∀ l, H l = none → Q (.ref l) (upd H l (.tup ys))) ∨ (SqT K H p ys ∧ Q (.ref p) H))
abbrev cListT : CallT := fun xs H Q => ∃ d kvs, xs = [V.ref d] ∧ Rd H d (.dT kvs) ∧ ∀ p bs, H p = none → IsKeys H kvs bs → Q (.ref p) (upd H p (.lst (bs.map V.ref)))
abbrev cInt1 : CallT := fun xs H Q => (∃ i, xs = [.int i] ∧ Q (.int i) H) ∨ ∃ k, xs = [.bl k] ∧ Q (.int (if k then 1 else 0)) H
abbrev cMax2 : CallT := fun xs H Q => ∃ i j, xs = [.int i, .int j] ∧ Q (.int (if j > i then j else i)) H
abbrev cMin2 : CallT := fun xs H Q => ∃ i j, xs = [.int i, .int j] ∧ Q (.int (if j < i then j else i)) H
abbrev cInsert : V → List V → Hp → VK → Prop := fun x vs H Q => ∃ (l : Addr) (xs : List V) (i : Int) (y : V), x = .ref l ∧ vs = [.int i, y] ∧ H l = some (.lst xs) ∧ xs.length < sizeLine ∧ 0 ≤ i ∧ i < 2 ^ 63 ∧ Q .non (upd H l (.lst (xs.take i.toNat ++ [y] ++ xs.drop i.toNat)))
abbrev tTru (K : PySem.W.Frag) (te : TE) : TT := fun σ H Q => te σ H fun x H' => ∃ k, TruV K x H' k ∧ Q k H'
/-! ### tuples of ints in the heap -/
/-- v is a tuple of these ints -/
def TI (H : Hp) (v : V) (ns : List Int) : Prop := ∃ t, v = .ref t ∧ H t = some (.tup (ns.map .int))
/-- the tuples stand -/
def TK (H H' : Hp) : Prop := ∀ a xs, H a = some (.tup xs) → H' a = some (.tup xs)
theorem TK.refl (H : Hp) : TK H H := fun _ _ e => e
theorem TK.trans {H H1 H2 : Hp} (a : TK H H1) (b : TK H1 H2) : TK H H2 := fun c o e => b c o (a c o e)
theorem _root_.L2.Same.tk {H H' : Hp} (e : Same H H') : TK H H' := fun a xs h => e a _ h
theorem TK.upd {H : Hp} {l : Addr} {o : HO} (h : ∀ xs, H l ≠ some (.tup xs)) : TK H (upd H l o) := fun a xs e => by
  rw [upd_ne (fun q => h xs (by rw [← q]; exact e))]
  exact e
theorem TI.mono {H H' : Hp} {v : V} {ns : List Int} (k : TK H H') (h : TI H v ns) : TI H' v ns := by
  obtain ⟨t, e, q⟩ := h
  exact ⟨t, e, k _ _ q⟩
/-- a row of tuples -/
abbrev TL (H : Hp) (xs : List V) (nss : List (List Int)) : Prop := Paired (TI H) xs nss
theorem paired_mono {α β : Type} {F G : α → β → Prop} (f : ∀ a b, F a b → G a b) : ∀ {l : List α} {m : List β}, Paired F l m → Paired G l m
  | _, _, .nil => .nil
  | _, _, .cons h t => .cons (f _ _ h) (paired_mono f t)
theorem TL.mono {H H' : Hp} {xs : List V} {nss : List (List Int)} (k : TK H H') (h : TL H xs nss) : TL H' xs nss := paired_mono (fun _ _ q => q.mono k) h
theorem paired_app {α β : Type} {F : α → β → Prop} : ∀ {l l' : List α} {m m' : List β}, Paired F l m → Paired F l' m' → Paired F (l ++ l') (m ++ m')
  | _, _, _, _, .nil, k => k
  | _, _, _, _, .cons h t, k => .cons h (paired_app t k)
theorem paired_len {α β : Type} {F : α → β → Prop} : ∀ {l : List α} {m : List β}, Paired F l m → l.length = m.length
  | _, _, .nil => rfl
  | _, _, .cons _ t => congrArg (· + 1) (paired_len t)
theorem paired_get {α β : Type} {F : α → β → Prop} : ∀ {l : List α} {m : List β} {i : Nat} {a : α}, Paired F l m → l[i]? = some a → ∃ b, m[i]? = some b ∧ F a b
  | _, _, _, _, .nil, e => by simp at e
  | _, _, 0, _, .cons h _, e => by
    simp at e
    subst e
    exact ⟨_, rfl, h⟩
  | _, _, i + 1, a, .cons _ t, e => by
    obtain ⟨b, h1, h2⟩ := paired_get (i := i) (a := a) t (by simpa using e)
    exact ⟨b, by simpa using h1, h2⟩
theorem paired_get2 {α β : Type} {F : α → β → Prop} : ∀ {l : List α} {m : List β} {i : Nat} {b : β}, Paired F l m → m[i]? = some b → ∃ a, l[i]? = some a ∧ F a b
  | _, _, _, _, .nil, e => by simp at e
  | _, _, 0, _, .cons h _, e => by
    simp at e
    subst e
    exact ⟨_, rfl, h⟩
  | _, _, i + 1, a, .cons _ t, e => by
    obtain ⟨b, h1, h2⟩ := paired_get2 (i := i) t (by simpa using e)
    exact ⟨b, by simpa using h1, h2⟩
theorem paired_zip {α β : Type} {F : α → β → Prop} : ∀ {l : List α} {m : List β}, Paired F l m → (l.zip m).map Prod.fst = l ∧ (l.zip m).map Prod.snd = m ∧ ∀ p ∈ l.zip m, F p.1 p.2
  | _, _, .nil => ⟨rfl, rfl, fun _ h => nomatch h⟩
  | _, _, .cons h t => by
    obtain ⟨h1, h2, h3⟩ := paired_zip t
    refine ⟨by simp [h1], by simp [h2], fun p hp => ?_⟩
    simp only [List.zip_cons_cons, List.mem_cons] at hp
    rcases hp with rfl | hp
    · exact h
    · exact h3 p hp
theorem paired_of {α β : Type} {F : α → β → Prop} : ∀ {zs : List (α × β)}, (∀ p ∈ zs, F p.1 p.2) → Paired F (zs.map Prod.fst) (zs.map Prod.snd)
  | [], _ => .nil
  | z :: zs, h => .cons (h z List.mem_cons_self) (paired_of fun p hp => h p (List.mem_cons_of_mem _ hp))
/-! ### heaps -/
theorem _root_.L2.Same.new {H : Hp} {p : Addr} {o : HO} (h : H p = none) : Same H (upd H p o) := fun a u e => by
  rw [upd_ne (ne_of_none e h)]
  exact e
theorem _root_.L2.Same.mut {H H' : Hp} {p : Addr} {o : HO} (e : Same H H') (h : H p = none) : Same H (upd H' p o) := fun a u q => by
  rw [upd_ne (ne_of_none q h)]
  exact e a u q
/-- a new object, its heap a letter -/
theorem all_new {H : Hp} {o : HO} {Q : Addr → Hp → Prop} (h : ∀ p H', H p = none → Same H H' → H' p = some o → Q p H') : ∀ p, H p = none → Q p (upd H p o) := fun p hp => h p _ hp (Same.new hp) upd_same
/-! ### sorted of tuples of ints -/
def rSortD (K : PySem.W.Frag) : CallT := fun vs H Q => ∃ (a : Addr) (xs : List V) (nss : List (List Int)), vs = [V.ref a] ∧ SqL K H a xs ∧ TL H xs nss ∧ (∀ ns ∈ nss, ns ≠ []) ∧
  ∀ ys mss p, TL H ys mss → mss.Perm nss → mss.Pairwise (· ≤ ·) → H p = none → Q (.ref p) (upd H p (.lst ys))
theorem dataLe_tups {β : Type} (x : β → List Int) : PySem.W.dataLe false (fun b => .tuple ((x b).map .int)) = fun p q => decide (x p ≤ x q) := by
  funext p q
  have e := congrFun (congrFun (PySem.W.dataLe_rows x) p) q
  rw [← e]
  show (!PySem.W.dataLt (.tuple ((x q).map .int)) (.tuple ((x p).map .int))) = (!PySem.W.dataLt (.list ((x q).map .int)) (.list ((x p).map .int)))
  rw [PySem.W.dataLt_tuple, PySem.W.dataLt_list]
theorem each_of_paired {α β : Type} {F : α → β → Prop} : ∀ {l : List α} {m : List β}, Paired F l m → PySem.W.EachIs F l m
  | _, _, .nil => .nil
  | _, _, .cons h t => .cons h (each_of_paired t)
theorem depth0 (ns : List Int) : (PyData.tuple (ns.map .int)).depth ≤ 1 := by
  have e := PySem.W.depth_ints ns
  simp [PyData.depth, e]
section
variable {X : Cx}
theorem reads_ti {pins : List (Addr × Obj)} {s : Shared} {σ : St} {H : Hp} {v : V} {u : Value} {ns : List Int} (I : Inv X pins σ H s) (r : RelV v u) (h : TI H v ns) : ∃ as, Reads s.heap u (.tuple (ns.map .int)) as := by
  obtain ⟨t, rfl, ht⟩ := h
  have all : ∀ l : List Int, DpAll X.K H (l.map V.int) (l.map PyData.int) := fun l => by
    induction l with
    | nil => exact .nil
    | cons a l ih => exact .cons (.int a) ih
  exact Dp.reads I _ _ _ (Dp.tup (SqT.of ht) (all ns)) r
theorem each_map_fst {α β γ : Type} {R : α → γ → Prop} {S : α → β × γ → Prop} : ∀ {l : List α} {m : List (β × γ)}, PySem.W.EachIs S l m → (∀ a b, S a b → R a b.2) → PySem.W.EachIs R l (m.map Prod.snd)
  | _, _, .nil, _ => .nil
  | _, _, .cons h t, f => .cons (f _ _ h) (each_map_fst t f)
theorem cr_sortD (hu : X.A.units + 66 < cLine) : CallR X (.builtin "sorted") (rSortD X.K) := by
  intro pins s σ H vs us Q I r h
  obtain ⟨a, xs, nss, rfl, hs, ht, hne, q⟩ := h
  obtain ⟨its, rv, hl, hz⟩ := I.list hs
  obtain ⟨u, rfl, ru⟩ := vals1 r
  obtain rfl : u = Value.ref a := ru
  have z := paired_zip ht
  have e1 : PySem.W.EachIs (fun (u : Value) (b : V × List Int) => RelV b.1 u ∧ TI H b.1 b.2) its (xs.zip nss) := by
    clear hs hl hz z q hne
    induction ht generalizing its with
    | nil =>
      cases rv
      exact .nil
    | cons h t ih =>
      cases rv with
      | cons r rr => exact .cons ⟨r, h⟩ (ih _ rr)
  have hb : (xs.zip nss).length = xs.length := by rw [← z.1, List.length_map] <;> simp [z.1]
  refine PySem.W.sorted_data (enc := fun b : V × List Int => .tuple (b.2.map .int)) hl.isList e1 (e1.mono fun u b w => reads_ti I w.1 w.2) (PySem.W.AllAlike.of fun b b' => PySem.W.alike_ints _ _) ?_ (by rw [hb]; exact hz) (fun b _ => ?_) fun out ho eo => ?_
  · left
    intro d hd
    obtain ⟨b, hb, rfl⟩ := List.mem_map.mp hd
    have hm : b.2 ∈ nss := by
      rw [← z.2.1]
      exact List.mem_map.mpr ⟨b, hb, rfl⟩
    cases hq : b.2 with
    | nil => exact absurd hq (hne _ hm)
    | cons x l => exact ⟨_, _, rfl⟩
  · have := depth0 b.2
    show X.A.units + 2 + _ < _
    omega
  · have hp := List.mergeSort_perm (xs.zip nss) (PySem.W.dataLe false fun b : V × List Int => .tuple (b.2.map .int))
    have hw : ((xs.zip nss).mergeSort (PySem.W.dataLe false fun b : V × List Int => .tuple (b.2.map .int))).Pairwise fun p q => p.2 ≤ q.2 := by
      rw [dataLe_tups]
      refine (List.pairwise_mergeSort (le := fun (p q : V × List Int) => decide (p.2 ≤ q.2)) (fun a b c h1 h2 => ?_) (fun a b => ?_) _).imp fun h => of_decide_eq_true h
      · exact decide_eq_true (List.le_trans (of_decide_eq_true h1) (of_decide_eq_true h2))
      · rcases List.le_total a.2 b.2 with h | h
        · simp [h]
        · simp [h]
    generalize hS : (xs.zip nss).mergeSort (PySem.W.dataLe false fun b : V × List Int => .tuple (b.2.map .int)) = S at hp hw eo
    have rv2 : Vals (S.map Prod.fst) out := by
      clear hw hp ho hS
      induction eo with
      | nil => exact .nil
      | cons h t ih => exact .cons h.1 ih
    have tl : TL H (S.map Prod.fst) (S.map Prod.snd) := paired_of fun p hp' => z.2.2 p (hp.mem_iff.mp hp')
    obtain ⟨c, hc⟩ := PyProof.Rows.sortedAll_at s.heap its out.toArray
    have hlen : (S.map Prod.fst).length = xs.length := by rw [List.length_map, hp.length_eq, hb]
    refine ⟨.ref (s.heap.objs.size + 1), upd H (s.heap.objs.size + 1) (.lst (S.map Prod.fst)), I.laid (t' := s.toks) (fun b ob e => PyProof.Rows.sortedAll_old e) (Nat.le_succ _) ⟨by rw [hlen]; exact hz, out, c, rv2, hc⟩, rfl, q _ _ _ tl ?_ ?_ (I.hok.fresh (Nat.le_succ _))⟩
    · have := hp.map Prod.snd
      rw [z.2.1] at this
      exact this
    · exact List.pairwise_map.mpr hw
end
end Ar
namespace Ar
open PySem PySem.Spec L2
/-! ### xs[::2] -/
theorem sliceRange_sub {α : Type} (xs : List α) (step : Nat) (hs : 0 < step) : ∀ n start : Nat, ((List.range n).filterMap fun k => xs[start + step * k]?).Sublist (xs.drop start) := by
  intro n
  induction n with
  | zero => intro start; simp
  | succ n ih =>
    intro start
    rw [List.range_succ_eq_map, List.filterMap_cons, List.filterMap_map]
    have e : (fun k => xs[start + step * k]?) ∘ Nat.succ = fun k => xs[(start + step) + step * k]? := by
      funext k
      show xs[start + step * (k + 1)]? = _
      congr 1
      rw [Nat.mul_add, Nat.mul_one]
      omega
    rw [e]
    have h1 := ih (start + step)
    have h2 : (xs.drop (start + step)).Sublist (xs.drop (start + 1)) := by
      have : start + step = start + 1 + (step - 1) := by omega
      rw [this, ← List.drop_drop]
      exact List.drop_sublist _ _
    rw [Nat.mul_zero, Nat.add_zero]
    cases hx : xs[start]? with
    | none => exact (h1.trans h2).trans (by
        have : start + 1 = start + 1 := rfl
        rw [← List.drop_drop]
        exact List.drop_sublist _ _)
    | some x =>
      obtain ⟨hl, hx'⟩ := List.getElem?_eq_some_iff.mp hx
      rw [List.drop_eq_getElem_cons hl, hx']
      exact (h1.trans h2).cons_cons x
theorem slicePick2_sub (its : List Value) : (slicePick its.toArray none none (some 2)).toList.Sublist its := by
  have h := sliceRange_sub its 2 (by decide) (((its.length : Int) - 0 + 2 - 1) / 2).toNat 0
  unfold slicePick
  have e1 : sliceBounds none none (some 2) its.toArray.size = (0, (its.length : Int), 2) := by
    simp [sliceBounds]
  rw [e1]
  show (((sliceRange 0 (its.length : Int) 2).filterMap fun x => its.toArray[x]?).toArray.toList).Sublist its
  rw [List.toList_toArray]
  by_cases h0 : its.length = 0
  · have : its = [] := List.length_eq_zero_iff.mp h0
    subst this
    unfold sliceRange
    simp
  · have e2 : sliceRange 0 (its.length : Int) 2 = (List.range (((its.length : Int) - 0 + 2 - 1) / 2).toNat).map fun k => 0 + 2 * k := by
      unfold sliceRange
      have p1 : (2 : Int) > 0 := by decide
      have p2 : (0 : Int) < (its.length : Int) := by omega
      simp only [p1, if_true, p2]
      apply List.map_congr_left
      intro k _
      omega
    rw [e2, List.filterMap_map]
    have e3 : ((fun x => its.toArray[x]?) ∘ fun k => 0 + 2 * k) = fun k => its[0 + 2 * k]? := by
      funext k
      simp
    rw [e3]
    simpa using h
theorem vals_sub : ∀ {us vs : List Value} {xs : List V}, Vals xs vs → us.Sublist vs → ∃ ys, ys.Sublist xs ∧ Vals ys us
  | _, _, _, .nil, h => by
    cases h
    exact ⟨[], .slnil, .nil⟩
  | _, _, _, .cons r t, h => by
    cases h with
    | cons _ h =>
      obtain ⟨ys, h1, h2⟩ := vals_sub t h
      exact ⟨ys, h1.cons _, h2⟩
    | cons_cons _ h =>
      obtain ⟨ys, h1, h2⟩ := vals_sub t h
      exact ⟨_ :: ys, h1.cons_cons _, .cons r h2⟩
def tSlStep (K : PySem.W.Frag) (te : TE) (_ : Nat) : TE := fun σ H Q => te σ H fun x H1 => ∃ a xs, x = .ref a ∧ SqL K H1 a xs ∧ ∀ p ys, H1 p = none → ys.Sublist xs → Q (.ref p) (upd H1 p (.lst ys))
section
variable {X : Cx}
theorem pe_slstep2 {e : Expr} {te : TE} {k : Nat} {p1 p3 pos : Pos} (he : PE X e te) : PE X (.Subscript e (.Slice none none (some (.Constant (.int 2) k p1)) p3) pos) (tSlStep X.K te 2) := by
  refine ⟨fun pn s0 σ0 H0 Q0 I0 h0 => PyProof.Rows.Subscript_ (thn (he.run pn s0 σ0 H0 _ I0 h0) fun v s1 w1 => ?_)⟩
  obtain ⟨x, H1, I1, r1, a, xs, ex, hx, q⟩ := w1
  subst ex
  cases r1
  have st : PO X (some (.Constant (.int 2) k p1)) (tPart (tC (.int 2))) := po_some pe_int
  refine wpAny_Slice (thn (po_none.run pn s1 σ0 H1 (fun o G => o = none ∧ G = H1) I1 ⟨rfl, rfl⟩) fun vl s2 w2 => ?_)
  obtain ⟨l, G2, I2, pl, el, e2⟩ := w2
  subst el e2
  refine thn (po_none.run pn s2 σ0 G2 (fun o G => o = none ∧ G = G2) I2 ⟨rfl, rfl⟩) fun vu s3 w3 => ?_
  obtain ⟨u, G3, I3, pu, eu, e3⟩ := w3
  subst eu e3
  refine thn (st.run pn s3 σ0 G3 (fun o G => o = some 2 ∧ G = G3) I3 ⟨2, rfl, rfl, rfl⟩) fun vs s4 w4 => ?_
  obtain ⟨o, G4, I4, ps, eo, e4⟩ := w4
  subst eo e4
  have I5 : Inv X pn σ0 G4 { s4 with heap := s4.heap.push { cls := .type "slice", data := .fields #[vl, vu, vs] } } := I4.kept (t' := s4.toks) fun _ _ z => Heap.get?_push_of_some _ z
  obtain ⟨its, rv, ht, hz⟩ := I5.list hx
  obtain ⟨ys, hys, rvy⟩ := vals_sub rv (slicePick2_sub its)
  show wpAny (model X.prog X.w) X.A (PyProof.Rows.subscriptTail e (.Slice none none (some (.Constant (.int 2) k p1)) p3) (.ref a) (.ref s4.heap.objs.size)) (EP X pn σ0 Q0) X.xe { s4 with heap := s4.heap.push { cls := .type "slice", data := .fields #[vl, vu, vs] } }
  refine PyProof.Rows.tail_any (ops := [.ref a, .ref s4.heap.objs.size]) ht.isList.typeIs PySem.slot_list_getitem.lookup ?_ (by with_unfolding_all rfl)
  have lz := rv.length
  refine wpAny_getItem_list_slice ht.isList (Heap.IsSliceOf.new _ vl vu vs) pl pu ps (by decide) ?_ (by rw [List.size_toArray]; omega)
  refine ⟨.ref _, _, I5.laid (t' := s4.toks) (o := .lst ys) (fun _ _ z => Heap.get?_push_of_some _ z) (Nat.le_refl _) ?_, rfl, q _ ys (I5.hok.fresh (Nat.le_refl _)) hys⟩
  refine ⟨Nat.le_trans hys.length_le hz, _, 0, rvy, ?_⟩
  have := Heap.get?_push_size (s4.heap.push { cls := .type "slice", data := .fields #[vl, vu, vs] }) (o := { cls := .type "list", data := .seq (slicePick its.toArray none none (some 2)) }) rfl
  simpa using this
theorem m2 {o e f : Expr} {m : Str} {apos cpos : Pos} (h1 : attributeBase o m X.env (eval o X.env) = eval o X.env := by rfl) (h2 : ((backTo cpos (starEach [e, f] X.env)).all (fun x => !x.1) && (backToKw cpos (keywordEach [] X.env)).all (fun x => x.1.isSome)
    && decide (([e, f] : List Expr).length + ([] : List Keyword).length + (if ([] : List Keyword).isEmpty then 0 else 1) < 30)) = true := by rfl) (h3 : (apos.endLine == cpos.line) = true := by rfl) (h4 : backTo cpos (starEach [e, f] X.env) = [(false, eval e X.env), (false, eval f X.env)] := by rfl) : M2 X o m apos e f cpos := ⟨h1, h2, h3, h4⟩
end
/-! ### defs by their names -/
def fdOf (K : PySem.W.Frag) (p : Str × Option Str) : FuncData := match K.lookup (He.fAd K p) with
  | some ⟨_, _, .func fd, _⟩ => fd
  | _ => PySem.W.fnOf "" "" ⟨[], [], none, [], [], none, []⟩ [] ⟨.function, [], false, false, []⟩ .none .none .none .none none .none .none
theorem funD_at {K : PySem.W.Frag} {x q : Str} {pa : Arguments} {bd : List Stmt} {sc : Scope} {dvs : List V} {kws : List (Str × V)} {p : Str × Option Str} (h : ∃ fd, FunD K x q pa bd sc dvs kws (He.fAd K p) fd) : FunD K x q pa bd sc dvs kws (He.fAd K p) (fdOf K p) := by
  obtain ⟨fd, F⟩ := h
  obtain ⟨oc, od, dV, kV, doc, pm, an, cdv, ct, osl, e, lk, r⟩ := F.ex
  have z : fdOf K p = fd := by
    unfold fdOf
    rw [lk]
  rw [z]
  exact F
theorem fn_never {P : Program} {w : World} {K : PySem.W.Frag} {mg : Str → Option Value} {base : Heap} {CX : CXT} {k : Nat} {f : Addr} {fd : FuncData} {ps : List Str} {sp : Sp} (h : ∀ {vs H Q E}, sp vs H Q E → False) : FnOk P w K mg base CX k f fd ps sp :=
  ⟨fun _ _ _ _ z => (h z).elim, fun _ _ _ _ _ _ _ _ _ _ _ _ _ z => (h z).elim⟩
theorem hu65_of {A : Around} {k : Nat} (hr : Room k A) : A.units + 65 < cLine := by have := hr.un; omega
theorem hu66_of {A : Around} {k : Nat} (hr : Room k A) : A.units + 66 < cLine := by have := hr.un; omega
end Ar
namespace Ar
open PySem PySem.Spec L2
/-! ### tests -/
theorem iteD {c : Prop} [Decidable c] {A B : Prop} (h1 : c → A) (h2 : ¬ c → B) : if (decide c) = true then A else B := by
  by_cases h : c
  · rw [decide_eq_true h]; exact iteT (h1 h)
  · rw [decide_eq_false h]; exact iteF (h2 h)
theorem iteDn {c : Prop} [Decidable c] {A B : Prop} (h1 : ¬ c → A) (h2 : c → B) : if (!decide c) = true then A else B := by
  by_cases h : c
  · rw [decide_eq_true h]; exact iteF (h2 h)
  · rw [decide_eq_false h]; exact iteT (h1 h)
theorem iteB {b : Bool} {A B : Prop} (h1 : b = true → A) (h2 : b = false → B) : if b = true then A else B := by
  cases b with
  | true => exact iteT (h1 rfl)
  | false => exact iteF (h2 rfl)
theorem iteBn {b : Bool} {A B : Prop} (h1 : b = false → A) (h2 : b = true → B) : if (!b) = true then A else B := by
  cases b with
  | true => exact iteF (h2 rfl)
  | false => exact iteT (h1 rfl)
theorem iteE {a b : Int} {A B : Prop} (h1 : a = b → A) (h2 : a ≠ b → B) : if (decide (V.int a = V.int b)) = true then A else B := iteD (fun h => h1 (V.int.inj h)) fun h => h2 fun e => h (by rw [e])
theorem iteEn {a b : Int} {A B : Prop} (h1 : a ≠ b → A) (h2 : a = b → B) : if (!decide (V.int a = V.int b)) = true then A else B := iteDn (fun h => h1 fun e => h (by rw [e])) fun h => h2 (V.int.inj h)
theorem iteTr {b : Bool} {A B : Prop} (hb : b = true) (h : A) : if b = true then A else B := by rw [hb]; exact iteT h
theorem iteFa {b : Bool} {A B : Prop} (hb : b = false) (h : B) : if b = true then A else B := by rw [hb]; exact iteF h
theorem decV {a b : Int} : decide (V.int a = V.int b) = decide (a = b) := by
  by_cases h : a = b
  · rw [decide_eq_true h, decide_eq_true (by rw [h])]
  · rw [decide_eq_false h, decide_eq_false (fun e => h (V.int.inj e))]
/-! ### isinstance of built-in classes -/
theorem isi_ty {K : PySem.W.Frag} {H : Hp} {x : V} {a b : String} {r : Bool} {Q : VK} (h : TyX K H x (.type a)) (hb : kitB a b = some r) (q : Q (.bl r) H) : rIsi K [x, .ty b] H Q := ⟨_, _, _, _, _, rfl, .ty _, h, kit_ty hb, q⟩
theorem isi_ii {K : PySem.W.Frag} {H : Hp} {i : Int} {Q : VK} (q : Q (.bl true) H) : rIsi K [.int i, .ty "int"] H Q := isi_ty (.base (.int _)) (by decide +kernel) q
theorem isi_ib {K : PySem.W.Frag} {H : Hp} {i : Int} {Q : VK} (q : Q (.bl false) H) : rIsi K [.int i, .ty "bool"] H Q := isi_ty (.base (.int _)) (by decide +kernel) q
theorem isi_bb {K : PySem.W.Frag} {H : Hp} {i : Bool} {Q : VK} (q : Q (.bl true) H) : rIsi K [.bl i, .ty "bool"] H Q := isi_ty (.base (.bl _)) (by decide +kernel) q
theorem isi_it {K : PySem.W.Frag} {H : Hp} {i : Int} {Q : VK} (q : Q (.bl false) H) : rIsi K [.int i, .ty "tuple"] H Q := isi_ty (.base (.int _)) (by decide +kernel) q
theorem isi_tt {K : PySem.W.Frag} {H : Hp} {a : Addr} {xs : List V} {Q : VK} (h : H a = some (.tup xs)) (q : Q (.bl true) H) : rIsi K [.ref a, .ty "tuple"] H Q := isi_ty (.base (.tup h)) (by decide +kernel) q
theorem isi_ll {K : PySem.W.Frag} {H : Hp} {a : Addr} {xs : List V} {Q : VK} (h : H a = some (.lst xs)) (q : Q (.bl true) H) : rIsi K [.ref a, .ty "list"] H Q := isi_ty (.base (.lst h)) (by decide +kernel) q
theorem isi_tb {K : PySem.W.Frag} {H : Hp} {a : Addr} {xs : List V} {Q : VK} (h : H a = some (.tup xs)) (q : Q (.bl false) H) : rIsi K [.ref a, .ty "bool"] H Q := isi_ty (.base (.tup h)) (by decide +kernel) q
theorem isi_lb {K : PySem.W.Frag} {H : Hp} {a : Addr} {xs : List V} {Q : VK} (h : H a = some (.lst xs)) (q : Q (.bl false) H) : rIsi K [.ref a, .ty "bool"] H Q := isi_ty (.base (.lst h)) (by decide +kernel) q
theorem isi_lt {K : PySem.W.Frag} {H : Hp} {a : Addr} {xs : List V} {Q : VK} (h : H a = some (.lst xs)) (q : Q (.bl false) H) : rIsi K [.ref a, .ty "tuple"] H Q := isi_ty (.base (.lst h)) (by decide +kernel) q
/-! ### tuples of ints as data -/
def dI (ns : List Int) : PyData := .tuple (ns.map .int)
theorem canLay_ints : ∀ ns : List Int, PyData.canLayAll0 (ns.map .int) = true
  | [] => rfl
  | n :: ns => by
    have := canLay_ints ns
    simp [PyData.canLayAll0, PyData.canLay0, this]
theorem canLay_dI (ns : List Int) : PyData.canLay0 (dI ns) = true := by
  have := canLay_ints ns
  simp [dI, PyData.canLay0, this]
theorem depth_dI (ns : List Int) : (dI ns).depth = 1 := by
  have := PySem.W.depth_ints ns
  simp [dI, PyData.depth, this]
theorem canLay_dIs : ∀ nss : List (List Int), PyData.canLayAll0 (nss.map dI) = true
  | [] => rfl
  | n :: ns => by
    have := canLay_dIs ns
    simp [PyData.canLayAll0, canLay_dI, this]
theorem depth_dIs : ∀ nss : List (List Int), PyData.depthAll (nss.map dI) ≤ 1
  | [] => by simp [PyData.depthAll]
  | n :: ns => by
    have := depth_dIs ns
    simp [PyData.depthAll, depth_dI, this]
theorem shaped_dI (ns : List Int) : SeqAt.shaped (dI ns) = true := by
  unfold SeqAt.shaped
  rw [canLay_dI, depth_dI] <;> rfl
theorem shaped_dIs (nss : List (List Int)) : SeqAt.shaped (.list (nss.map dI)) = true := by
  unfold SeqAt.shaped
  have h1 := canLay_dIs nss
  have h2 := depth_dIs nss
  have h3 : (PyData.list (nss.map dI)).depth ≤ 64 := by simp only [PyData.depth]; omega
  have h4 : (PyData.list (nss.map dI)).canLay0 = true := by simp [PyData.canLay0, h1]
  rw [h4, decide_eq_true h3] <;> rfl
theorem shaped_ints (ns : List Int) : SeqAt.shaped (.list (ns.map .int)) = true := by
  unfold SeqAt.shaped
  have h1 := canLay_ints ns
  have h2 := PySem.W.depth_ints ns
  have h3 : (PyData.list (ns.map .int)).depth ≤ 64 := by simp [PyData.depth, h2]
  have h4 : (PyData.list (ns.map .int)).canLay0 = true := by simp [PyData.canLay0, h1]
  rw [h4, decide_eq_true h3] <;> rfl
theorem eqv_ints : ∀ ns ms : List Int, PyData.eqvAll (ns.map .int) (ms.map .int) = decide (ns = ms)
  | [], [] => rfl
  | [], _ :: _ => rfl
  | _ :: _, [] => rfl
  | n :: ns, m :: ms => by
    have ih := eqv_ints ns ms
    show (PyData.eqv (.int n) (.int m) && PyData.eqvAll (ns.map .int) (ms.map .int)) = _
    rw [ih]
    show ((n == m) && decide (ns = ms)) = decide (n :: ns = m :: ms)
    by_cases h1 : n = m <;> by_cases h2 : ns = ms <;> simp [h1, h2]
theorem eqv_dI (ns ms : List Int) : PyData.eqv (dI ns) (dI ms) = decide (ns = ms) := eqv_ints ns ms
theorem eqv_dIs : ∀ ns ms : List (List Int), PyData.eqvAll (ns.map dI) (ms.map dI) = decide (ns = ms)
  | [], [] => rfl
  | [], _ :: _ => rfl
  | _ :: _, [] => rfl
  | n :: ns, m :: ms => by
    have ih := eqv_dIs ns ms
    show (PyData.eqv (dI n) (dI m) && PyData.eqvAll (ns.map dI) (ms.map dI)) = _
    rw [ih, eqv_dI]
    by_cases h1 : n = m <;> by_cases h2 : ns = ms <;> simp [h1, h2]
theorem eqv_lI (ns ms : List (List Int)) : PyData.eqv (.list (ns.map dI)) (.list (ms.map dI)) = decide (ns = ms) := eqv_dIs ns ms
theorem eqv_li (ns ms : List Int) : PyData.eqv (.list (ns.map .int)) (.list (ms.map .int)) = decide (ns = ms) := eqv_ints ns ms
theorem any_dI (nss : List (List Int)) (ms : List Int) : ((nss.map dI).any fun z => PyData.eqv z (dI ms)) = decide (ms ∈ nss) := by
  rw [List.any_map]
  have e : ((fun z => PyData.eqv z (dI ms)) ∘ dI) = fun ns => decide (ns = ms) := by
    funext ns
    exact eqv_dI ns ms
  rw [e]
  by_cases h : ms ∈ nss
  · rw [decide_eq_true h]
    exact List.any_eq_true.mpr ⟨ms, h, by simp⟩
  · rw [decide_eq_false h]
    refine Bool.eq_false_iff.mpr fun q => ?_
    obtain ⟨x, hx, hq⟩ := List.any_eq_true.mp q
    exact h (of_decide_eq_true hq ▸ hx)
section
variable {K : PySem.W.Frag} {H : Hp}
theorem dpAll_ints : ∀ l : List Int, DpAll K H (l.map V.int) (l.map PyData.int)
  | [] => .nil
  | a :: l => .cons (.int a) (dpAll_ints l)
theorem dp_ti {v : V} {ns : List Int} (h : TI H v ns) : Dp K H v (dI ns) := by
  obtain ⟨t, rfl, ht⟩ := h
  exact .tup (SqT.of ht) (dpAll_ints ns)
theorem dpAll_tl {xs : List V} {nss : List (List Int)} (h : TL H xs nss) : DpAll K H xs (nss.map dI) := by
  induction h with
  | nil => exact .nil
  | cons h t ih => exact .cons (dp_ti h) ih
theorem dp_tl {a : Addr} {xs : List V} {nss : List (List Int)} (hs : SqL K H a xs) (h : TL H xs nss) : Dp K H (.ref a) (.list (nss.map dI)) := .lst hs (dpAll_tl h)
theorem dp_il {a : Addr} {ns : List Int} (hs : SqL K H a (ns.map V.int)) : Dp K H (.ref a) (.list (ns.map .int)) := .lst hs (dpAll_ints ns)
end
theorem lin {n : Nat} (h : n ≤ 16000000) : n ≤ sizeLine := Nat.le_trans h (by decide)
theorem lin' {n : Nat} (h : n < 16000000) : n < sizeLine := Nat.lt_of_lt_of_le h (by decide)
end Ar
namespace Ar
open PySem PySem.Spec L2
theorem _root_.L2.Same.of_eq {H H1 : Hp} {p : Addr} {o : HO} (e : upd H p o = H1) (h : H p = none) : Same H H1 := by
  rw [← e]
  exact Same.new h
theorem new_at {H H1 : Hp} {p : Addr} {o : HO} (e : upd H p o = H1) : H1 p = some o := by
  rw [← e]
  exact upd_same
end Ar
namespace Ar
open PySem PySem.Spec L2
theorem sz0 : ([] : List V).length ≤ sizeLine := by decide
theorem sz1 {a : V} : [a].length ≤ sizeLine := by show 1 ≤ sizeLine; decide
theorem sz2 {a b : V} : [a, b].length ≤ sizeLine := by show 2 ≤ sizeLine; decide
theorem sz3 {a b c : V} : [a, b, c].length ≤ sizeLine := by show 3 ≤ sizeLine; decide
end Ar
namespace Ar
open PySem PySem.Spec L2
theorem ti2 {H : Hp} {t : Addr} {a b : Int} (e : H t = some (.tup [.int a, .int b])) : TI H (.ref t) [a, b] := ⟨t, rfl, e⟩
theorem ti3 {H : Hp} {t : Addr} {a b c : Int} (e : H t = some (.tup [.int a, .int b, .int c])) : TI H (.ref t) [a, b, c] := ⟨t, rfl, e⟩
/-- a row, by its last item -/
theorem snoc_ind {α : Type} {P : List α → Prop} (h0 : P []) (h1 : ∀ l a, P l → P (l ++ [a])) (l : List α) : P l := by
  have : ∀ m : List α, P m.reverse := fun m => by
    induction m with
    | nil => exact h0
    | cons a m ih =>
      rw [List.reverse_cons]
      exact h1 _ _ ih
  have := this l.reverse
  rwa [List.reverse_reverse] at this
end Ar
namespace Ar
open PySem PySem.Spec L2
/-- the slots at a def's start -/
def st (n : Nat) (vs : List V) : L2.St := vs.map some ++ List.replicate (n - vs.length) none
/-- what a body is to reach -/
abbrev ends (Q : VK) : Ends := { nx := fun _ H' => Q .non H', rt := Q }
/-! ### promises -/
def sp_cell_at (K : PySem.W.Frag) : Sp := fun vs H Q _ => ∃ (a : Addr) (ns : List Int) (k : Int), vs = [.ref a, .int k] ∧ SqL K H a (ns.map V.int) ∧ ns.length ≤ 63 ∧ 0 ≤ k ∧ Q (.int (ns.getD k.toNat 0)) H
def sp_whole (K : PySem.W.Frag) : Sp := fun vs H Q _ => ∃ i : Int, vs = [.int i] ∧ Q (.bl true) H
/-- v is this data: ints, and tuples of such -/
def DD (H : Hp) : Nat → V → PyData → Prop
  | 0, v, d => ∃ i : Int, v = .int i ∧ d = .int i
  | n + 1, v, d => (∃ i : Int, v = .int i ∧ d = .int i) ∨ ∃ (a : Addr) (xs : List V) (ds : List PyData), v = .ref a ∧ d = .tuple ds ∧ H a = some (.tup xs) ∧ xs.length ≤ 100000 ∧ Paired (DD H n) xs ds
def LD (H : Hp) (n : Nat) (v : V) (ds : List PyData) : Prop := ∃ (a : Addr) (xs : List V), v = .ref a ∧ H a = some (.lst xs) ∧ xs.length ≤ 100000 ∧ Paired (DD H n) xs ds
def sp_alike (K : PySem.W.Frag) : Nat → Sp
  | 0 => fun _ _ _ _ => False
  | n + 1 => fun vs H Q _ => ∃ (x y : V) (d : PyData), vs = [x, y] ∧ DD H n x d ∧ DD H n y d ∧ ∀ H', Same H H' → Q (.bl true) H'
abbrev sp_alike3 (K : PySem.W.Frag) : Sp := sp_alike K 3
def sp_listed (K : PySem.W.Frag) : Sp := fun vs H Q _ => ∃ (x y : V) (ds : List PyData), vs = [x, y] ∧ LD H 1 x ds ∧ LD H 1 y ds ∧ ∀ H', Same H H' → Q (.bl true) H'
/-- the gaps of these pairs, rising -/
def GapsOf (ps : List (Int × Int)) (ts : List (List Int)) : Prop := ts.Pairwise (· < ·) ∧ ∀ t, t ∈ ts ↔ ∃ a b c, t = [a, b, c] ∧ (a, b) ∈ ps ∧ (b, c) ∈ ps ∧ (a, c) ∉ ps
def p2 (p : Int × Int) : List Int := [p.1, p.2]
def sp_gaps (K : PySem.W.Frag) : Sp := fun vs H Q _ => ∃ (a : Addr) (xs : List V) (ps : List (Int × Int)), vs = [.ref a] ∧ SqL K H a xs ∧ TL H xs (ps.map p2) ∧ ps.length ≤ 1000 ∧
  ∀ ts p H' ys, GapsOf ps ts → ts.length ≤ 1000000 → H p = none → Same H H' → H' p = some (.lst ys) → TL H' ys ts → Q (.ref p) H'
abbrev sp_due_k07 (K : PySem.W.Frag) : Sp := sp_gaps K
def sp_law (K : PySem.W.Frag) : Sp := fun vs H Q _ => ∃ (a : Addr) (ns : List Int), vs = [.ref a] ∧ SqL K H a (ns.map V.int) ∧ ns.length ≤ 63 ∧ ∀ H', Q (.bl true) H'
abbrev sp_law_k07 (K : PySem.W.Frag) : Sp := sp_law K
end Ar
namespace Ar
open PySem PySem.Spec L2
/-! ### rising rows -/
abbrev Rising (l : List (List Int)) : Prop := l.Pairwise (· < ·)
theorem lt_of_le_ne {a b : List Int} (h : a ≤ b) (n : a ≠ b) : a < b := by
  by_cases q : a < b
  · exact q
  · exact absurd (List.le_antisymm h (List.not_lt.mp q)) n
theorem rising_of : ∀ {l : List (List Int)}, l.Pairwise (· ≤ ·) → l.Nodup → Rising l
  | [], _, _ => .nil
  | a :: l, h, n => by
    obtain ⟨h1, h2⟩ := List.pairwise_cons.mp h
    obtain ⟨n1, n2⟩ := List.nodup_cons.mp n
    exact List.pairwise_cons.mpr ⟨fun b hb => lt_of_le_ne (h1 b hb) fun e => n1 (e ▸ hb), rising_of h2 n2⟩
theorem Rising.nodup {l : List (List Int)} (h : Rising l) : l.Nodup := h.imp fun q e => by
  subst e
  exact List.lt_irrefl _ q
theorem Rising.le {l : List (List Int)} (h : Rising l) : l.Pairwise (· ≤ ·) := h.imp fun q => List.le_of_lt q
/-- two rising rows with the same items are one -/
theorem rising_same {l m : List (List Int)} (hl : Rising l) (hm : Rising m) (e : ∀ x, x ∈ l ↔ x ∈ m) : l = m :=
  List.Perm.eq_of_pairwise (fun a b _ _ h1 h2 => List.le_antisymm h1 h2) hl.le hm.le ((List.perm_ext_iff_of_nodup hl.nodup hm.nodup).mpr e)
/-- what sorted hands back of a row without doubles -/
theorem rising_sorted {l m : List (List Int)} (p : m.Perm l) (w : m.Pairwise (· ≤ ·)) (n : l.Nodup) : Rising m := rising_of w (p.nodup_iff.mpr n)
theorem GapsOf.same {ps : List (Int × Int)} {ts us : List (List Int)} (h : GapsOf ps ts) (k : GapsOf ps us) : ts = us :=
  rising_same h.1 k.1 fun x => (h.2 x).trans (k.2 x).symm
theorem p2_inj {p q : Int × Int} (h : p2 p = p2 q) : p = q := by
  simp only [p2, List.cons.injEq, and_true] at h
  exact Prod.ext h.1 h.2
/-! ### dicts of pairs -/
def kp (p : Int × Int) : List Key := [Sum.inl p.1, Sum.inl p.2]
theorem kp_kV (p : Int × Int) : (kp p).map kV = (p2 p).map V.int := rfl
theorem kp_inj {p q : Int × Int} (h : kp p = kp q) : p = q := by
  simp only [kp, List.cons.injEq, Sum.inl.injEq, and_true] at h
  exact Prod.ext h.1 h.2
/-- the pairs of a dict whose values are True -/
def hk (l : List (Int × Int)) : List (List Key × V) := l.map fun p => (kp p, .bl true)
theorem valV_hk : ∀ (l : List (Int × Int)) (p : Int × Int), valV (hk l) (kp p) = if p ∈ l then some (.bl true) else none
  | [], p => by simp [hk, valV_nil]
  | q :: l, p => by
    have ih := valV_hk l p
    show valV ((kp q, V.bl true) :: hk l) (kp p) = _
    by_cases e : q = p
    · subst e
      rw [valV_pos rfl, if_pos List.mem_cons_self]
    · rw [valV_neg (fun h => e (kp_inj h)), ih]
      by_cases h : p ∈ l
      · rw [if_pos h, if_pos (List.mem_cons_of_mem _ h)]
      · rw [if_neg h, if_neg (fun z => (List.mem_cons.mp z).elim (fun z => e z.symm) h)]
theorem some_hk (l : List (Int × Int)) (p : Int × Int) : (valV (hk l) (kp p)).isSome = decide (p ∈ l) := by
  rw [valV_hk]
  by_cases h : p ∈ l
  · rw [if_pos h, decide_eq_true h] <;> rfl
  · rw [if_neg h, decide_eq_false h] <;> rfl
/-- a row with one more item, if it is new -/
def addP (l : List (Int × Int)) (p : Int × Int) : List (Int × Int) := if p ∈ l then l else l ++ [p]
theorem putK_hk (l : List (Int × Int)) (p : Int × Int) : putK (hk l) (kp p) (.bl true) = hk (addP l p) := by
  unfold putK addP
  have e : ((hk l).any fun kv => decide (kv.1 = kp p)) = decide (p ∈ l) := by
    by_cases h : p ∈ l
    · rw [decide_eq_true h]
      exact List.any_eq_true.mpr ⟨(kp p, .bl true), List.mem_map.mpr ⟨p, h, rfl⟩, by simp⟩
    · rw [decide_eq_false h]
      refine Bool.eq_false_iff.mpr fun q => ?_
      obtain ⟨x, hx, hq⟩ := List.any_eq_true.mp q
      obtain ⟨y, hy, rfl⟩ := List.mem_map.mp hx
      exact h (kp_inj (of_decide_eq_true hq) ▸ hy)
  rw [e]
  by_cases h : p ∈ l
  · rw [decide_eq_true h, if_pos rfl, if_pos h]
    unfold hk
    rw [List.map_map]
    apply List.map_congr_left
    intro q _
    show (if kp q = kp p then (kp q, V.bl true) else (kp q, V.bl true)) = _
    split <;> rfl
  · rw [decide_eq_false h, if_neg Bool.false_ne_true, if_neg h]
    simp [hk]
theorem mem_addP {l : List (Int × Int)} {p q : Int × Int} : q ∈ addP l p ↔ q ∈ l ∨ q = p := by
  unfold addP
  by_cases h : p ∈ l
  · rw [if_pos h]
    exact ⟨Or.inl, fun z => z.elim id fun e => e ▸ h⟩
  · rw [if_neg h]
    simp
theorem nodup_addP {l : List (Int × Int)} (p : Int × Int) (h : l.Nodup) : (addP l p).Nodup := by
  unfold addP
  by_cases q : p ∈ l
  · rw [if_pos q]; exact h
  · rw [if_neg q]
    exact nd_snoc h q
theorem len_addP (l : List (Int × Int)) (p : Int × Int) : (addP l p).length ≤ l.length + 1 := by
  unfold addP
  split <;> simp
/-- a row without its doubles, in the order of the first -/
def dedup (l : List (Int × Int)) : List (Int × Int) := l.foldl addP []
theorem dedup_snoc (l : List (Int × Int)) (p : Int × Int) : dedup (l ++ [p]) = addP (dedup l) p := by
  unfold dedup
  rw [List.foldl_append] <;> rfl
theorem dedup_aux : ∀ (l m : List (Int × Int)), m.Nodup → (l.foldl addP m).Nodup ∧ (∀ q, q ∈ l.foldl addP m ↔ q ∈ m ∨ q ∈ l) ∧ (l.foldl addP m).length ≤ m.length + l.length
  | [], m, h => ⟨h, fun q => by simp, by simp⟩
  | p :: l, m, h => by
    obtain ⟨h1, h2, h3⟩ := dedup_aux l (addP m p) (nodup_addP p h)
    refine ⟨h1, fun q => ?_, ?_⟩
    · show q ∈ l.foldl addP (addP m p) ↔ _
      rw [h2, mem_addP, List.mem_cons, or_assoc]
    · have := len_addP m p
      show (l.foldl addP (addP m p)).length ≤ _
      simp only [List.length_cons]
      omega
theorem nodup_dedup (l : List (Int × Int)) : (dedup l).Nodup := (dedup_aux l [] List.nodup_nil).1
theorem mem_dedup {l : List (Int × Int)} {q : Int × Int} : q ∈ dedup l ↔ q ∈ l := by
  have := (dedup_aux l [] List.nodup_nil).2.1 q
  unfold dedup
  rw [this]
  simp
theorem len_dedup (l : List (Int × Int)) : (dedup l).length ≤ l.length := by
  have := (dedup_aux l [] List.nodup_nil).2.2
  unfold dedup
  simpa using this
/-! ### rows by places -/
theorem take_snoc {α : Type} {l : List α} {i : Nat} {x : α} (h : l[i]? = some x) : l.take (i + 1) = l.take i ++ [x] := by
  obtain ⟨hi, e⟩ := List.getElem?_eq_some_iff.mp h
  rw [← e, List.take_succ_eq_append_getElem hi]
theorem get_map {α β : Type} {f : α → β} {l : List α} {i : Nat} {y : β} (h : (l.map f)[i]? = some y) : ∃ x, l[i]? = some x ∧ y = f x := by
  rw [List.getElem?_map] at h
  cases e : l[i]? with
  | none => rw [e] at h; cases h
  | some x => rw [e] at h; exact ⟨x, rfl, (Option.some.inj h).symm⟩
theorem lt_of_get {α : Type} {l : List α} {i : Nat} {x : α} (h : l[i]? = some x) : i < l.length := (List.getElem?_eq_some_iff.mp h).1
theorem mem_of_get {α : Type} {l : List α} {i : Nat} {x : α} (h : l[i]? = some x) : x ∈ l := List.mem_of_getElem? h
/-- a row of tuples read at a place -/
theorem TL.at {H : Hp} {xs : List V} {nss : List (List Int)} {i : Nat} {x : V} (h : TL H xs nss) (e : xs[i]? = some x) : ∃ ns, nss[i]? = some ns ∧ TI H x ns := paired_get h e
theorem TLp.at {H : Hp} {xs : List V} {ps : List (Int × Int)} {i : Nat} {x : V} (h : TL H xs (ps.map p2)) (e : xs[i]? = some x) : ∃ p, ps[i]? = some p ∧ ∃ t, x = .ref t ∧ H t = some (.tup [.int p.1, .int p.2]) := by
  obtain ⟨ns, h1, h2⟩ := paired_get h e
  obtain ⟨p, h3, rfl⟩ := get_map h1
  exact ⟨p, h3, h2⟩
theorem keys_tl {H : Hp} {l : List (Int × Int)} {bs : List Addr} (h : IsKeys H (hk l) bs) : TL H (bs.map V.ref) (l.map p2) := by
  unfold IsKeys at h
  have : ∀ {kvs : List (List Key × V)} {bs : List Addr}, Paired (fun p b => H b = some (.tup (p.1.map kV))) kvs bs → ∀ l, kvs = hk l → TL H (bs.map V.ref) (l.map p2) := by
    intro kvs bs h
    induction h with
    | nil =>
      intro l e
      cases l with
      | nil => exact .nil
      | cons q l => cases e
    | cons h t ih =>
      intro l e
      cases l with
      | nil => cases e
      | cons q l =>
        cases e
        exact .cons ⟨_, rfl, h⟩ (ih l rfl)
  exact this h l rfl
end Ar
namespace Ar
open PySem PySem.Spec L2
local macro_rules | `(tactic| walk_at "g1") => `(tactic| first
  | refine ⟨_, rfl, ?_⟩
  | refine ⟨_, _, rfl, rfl, ?_⟩
  | refine ⟨(by show (0 : Int) < _; decide), ?_⟩
  | refine ⟨⟨by decide, by decide⟩, ?_⟩
  | refine ⟨(show CMul _ _ from .inl ⟨by omega, by omega⟩), ?_⟩
  | refine ⟨(show CMul _ _ from .inr ⟨by omega, by omega⟩), ?_⟩
  | refine ⟨(show (_ : Int) ≠ 0 by decide), ?_⟩
  | refine ⟨sz2, ?_⟩
  | refine ⟨sz0, ?_⟩
  | refine ⟨sz3, ?_⟩)
local macro_rules | `(tactic| walk_at "ty") => `(tactic| first | exact .int _ | exact .bl _ | exact .tup (by assumption) | exact .lst (by assumption))
local macro_rules | `(tactic| walk_at "isT") => `(tactic| refine ⟨_, _, _, _, true, rfl, .ty _, .base (by walk_at "ty"), kit_ty (by decide +kernel), ?_⟩)
local macro_rules | `(tactic| walk_at "isF") => `(tactic| refine ⟨_, _, _, _, false, rfl, .ty _, .base (by walk_at "ty"), kit_ty (by decide +kernel), ?_⟩)
local macro_rules | `(tactic| walk_at "cell") => `(tactic| ((repeat walk_at "g1"); refine ⟨_, _, _, rfl, (by assumption), (by assumption), (by first | decide | omega), ?_⟩; repeat walk_at "g1"))
local macro_rules | `(tactic| walk_at "go") => `(tactic| repeat walk_at "g1")
def t_cell_at (K : PySem.W.Frag) : TS :=
  (tSeq (tIfS (tTest (tOp oLt (tVar 1) (tCB (cLen K) (tCons (tVar 0) tNil)))) (tRet (tOp (rIxL K) (tVar 0) (tVar 1))) tNext) (tRet (tC (.int 0))))
def t_whole (K : PySem.W.Frag) : TS :=
  (tRet (tAndV (tCB (rIsi K) (tCons (tVar 0) (tCons (tC (.ty "int")) tNil))) (tNotV (tCB (rIsi K) (tCons (tVar 0) (tCons (tC (.ty "bool")) tNil))))))
def t_alike (K : PySem.W.Frag) (sp : Sp) : TS :=
  (tSeq (tIfS (tB (tCB (rIsi K) (tCons (tVar 1) (tCons (tC (.ty "tuple")) tNil)))) (tSeq (tIfS (tOr (tNot (tB (tCB (rIsi K) (tCons (tVar 0) (tCons (tC (.ty "tuple")) tNil))))) (tTest (tOp rNe (tCB (cLen K) (tCons (tVar 0) tNil)) (tCB (cLen K) (tCons (tVar 1) tNil))))) (tRet (tC (.bl false))) tNext) (tRet (tOp (rEqD K) (tLc (iRng1 (tCons (tCB (cLen K) (tCons (tVar 1) tNil)) tNil)) (gName 2) (tNot (tB (tCall sp [] E0 (tCons (tOp (rIxT K) (tVar 0) (tVar 2)) (tCons (tOp (rIxT K) (tVar 1) (tVar 2)) tNil))))) (tVar 2) [2]) (tLst tNil)))) tNext) (tRet (tAndV (tOp rEq (tCB (rIsi K) (tCons (tVar 0) (tCons (tC (.ty "bool")) tNil))) (tCB (rIsi K) (tCons (tVar 1) (tCons (tC (.ty "bool")) tNil)))) (tOp (rEqD K) (tVar 0) (tVar 1)))))
def t_listed (K : PySem.W.Frag) : TS :=
  (tRet (tAndV (tCB (rIsi K) (tCons (tVar 0) (tCons (tC (.ty "list")) tNil))) (tCall (sp_alike3 K) [] E0 (tCons (tCB (cTuple K) (tCons (tVar 0) tNil)) (tCons (tCB (cTuple K) (tCons (tVar 1) tNil)) tNil)))))
variable {K : PySem.W.Frag} {vs : List V} {H : Hp} {Q : VK} {E : XK}
theorem len_cell_at (h : sp_cell_at K vs H Q E) : vs.length = 2 := by
  obtain ⟨a, ns, k, rfl, _⟩ := h
  rfl
theorem pure_cell_at (h : sp_cell_at K vs H Q E) : t_cell_at K (ends Q) (st 2 vs) H := by
  obtain ⟨a, ns, k, rfl, hs, hl, hk, q⟩ := h
  walk_at "go"
  refine ⟨_, _, rfl, .inl hs, ?_⟩
  walk_at "go"
  have e : (ns.map V.int).length = ns.length := by simp
  refine iteD (fun hc => ?_) fun hc => ?_
  · rw [e] at hc
    have hj : k.toNat < ns.length := by omega
    have hg : ns[k.toNat]? = some (ns.getD k.toNat 0) := by simp [hj]
    refine ⟨_, rfl, _, rfl, a, _, _, _, rfl, rfl, hs, at_of (j := k.toNat) (by omega) (by rw [List.getElem?_map, hg]; rfl), q⟩
  · rw [e] at hc
    have hj : ns.length ≤ k.toNat := by omega
    have hg : ns.getD k.toNat 0 = 0 := by simp [hj]
    rw [hg] at q
    exact q
theorem len_whole (h : sp_whole K vs H Q E) : vs.length = 1 := by
  obtain ⟨i, rfl, _⟩ := h
  rfl
theorem pure_whole (h : sp_whole K vs H Q E) : t_whole K (ends Q) (st 1 vs) H := by
  obtain ⟨i, rfl, q⟩ := h
  walk_at "go"
  walk_at "isT"
  walk_at "go"
  walk_at "go"
  walk_at "isF"
  walk_at "go"
  exact q
theorem DD.mono {H H' : Hp} (e : Same H H') : ∀ {n : Nat} {v : V} {d : PyData}, DD H n v d → DD H' n v d
  | 0, _, _, h => h
  | n + 1, _, _, h => by
    rcases h with h | ⟨a, xs, ds, rfl, rfl, ha, hl, hp⟩
    · exact .inl h
    · exact .inr ⟨a, xs, ds, rfl, rfl, e _ _ ha, hl, paired_mono (fun _ _ q => DD.mono e q) hp⟩
theorem DD.dp {K : PySem.W.Frag} {H : Hp} : ∀ {n : Nat} {v : V} {d : PyData}, DD H n v d → Dp K H v d
  | 0, _, _, ⟨i, e1, e2⟩ => by subst e1 e2; exact .int i
  | n + 1, _, _, h => by
    rcases h with ⟨i, rfl, rfl⟩ | ⟨a, xs, ds, rfl, rfl, ha, hl, hp⟩
    · exact .int i
    · refine .tup (SqT.of ha) ?_
      clear hl ha
      induction hp with
      | nil => exact .nil
      | cons h t ih => exact .cons (DD.dp h) ih
theorem len_alike {n : Nat} (h : sp_alike K n vs H Q E) : vs.length = 2 := by
  cases n with
  | zero => exact h.elim
  | succ n =>
    obtain ⟨x, y, d, rfl, _⟩ := h
    rfl
theorem pure_alike {n : Nat} (h : sp_alike K (n + 1) vs H Q E) : t_alike K (sp_alike K n) (ends Q) (st 3 vs) H := by
  obtain ⟨x, y, d, rfl, hx, hy, q⟩ := h
  have int : ∀ i : Int, x = .int i → y = .int i → t_alike K (sp_alike K n) (ends Q) (st 3 [x, y]) H := fun i ex ey => by
    subst ex ey
    walk_at "go"
    walk_at "isF"
    walk_at "go"
    walk_at "go"
    walk_at "isF"
    walk_at "go"
    walk_at "isF"
    refine ⟨rfl, _, rfl, ?_⟩
    refine ⟨_, rfl, _, rfl, _, _, .int i, .int i, rfl, rfl, ?_⟩
    have e : PyData.eqv (.int i) (.int i) = true := by simp [PyData.eqv]
    rw [e]
    exact q _ (Same.refl _)
  cases n with
  | zero =>
    obtain ⟨i, e1, e2⟩ := hx
    obtain ⟨j, e3, e4⟩ := hy
    rw [e2] at e4
    cases e4
    exact int i e1 e3
  | succ n =>
    rcases hx with ⟨i, rfl, rfl⟩ | ⟨a, xs, ds, rfl, rfl, ha, hla, hpa⟩
    · rcases hy with ⟨j, rfl, e⟩ | ⟨_, _, _, _, e, _⟩
      · cases e
        exact int i rfl rfl
      · cases e
    · rcases hy with ⟨j, rfl, e⟩ | ⟨b, ys, ds', rfl, e, hb, hlb, hpb⟩
      · cases e
      · cases e
        have l1 := paired_len hpa
        have l2 := paired_len hpb
        walk_at "go"
        walk_at "isT"
        walk_at "go"
        walk_at "go"
        walk_at "isT"
        walk_at "go"
        walk_at "go"
        refine ⟨_, _, rfl, .inr (SqT.of ha), ?_⟩
        walk_at "go"
        refine ⟨_, _, rfl, .inr (SqT.of hb), ?_⟩
        refine ⟨rfl, _, rfl, iteEn (fun h => absurd (by omega) h) fun _ => ?_⟩
        walk_at "go"
        refine ⟨_, _, rfl, .inr (SqT.of hb), ?_⟩
        refine ⟨_, rfl, by omega, by omega, fun D hD => ?_⟩
        refine lc_range (lo := 0) (n := ((ys.length : Int)).toNat) (fun i H' => Same H H' ∧ H' D = some (.lst [])) ⟨Same.new hD, upd_same⟩ ?_ ?_
        · rintro i H' hi ⟨s1, hd⟩
          have hi' : i < ys.length := by omega
          obtain ⟨vb, hvb⟩ : ∃ v, ys[i]? = some v := ⟨ys[i], by simp [hi']⟩
          obtain ⟨va, hva⟩ : ∃ v, xs[i]? = some v := ⟨xs[i]'(by omega), by simp⟩
          obtain ⟨d1, e1, q1⟩ := paired_get hpa hva
          obtain ⟨d2, e2, q2⟩ := paired_get hpb hvb
          rw [e1] at e2
          cases e2
          refine ⟨rfl, ?_⟩
          walk_at "go"
          refine ⟨_, _, _, _, rfl, rfl, SqT.of (s1 _ _ ha), at_of (j := i) (by omega) hva, ?_⟩
          walk_at "go"
          refine ⟨_, _, _, _, rfl, rfl, SqT.of (s1 _ _ hb), at_of (j := i) (by omega) hvb, ?_⟩
          refine ⟨_, _, _, rfl, q1.mono s1, q2.mono s1, fun H2 s2 => ?_⟩
          walk_at "go"
          exact ⟨s1.trans s2, s2 _ _ hd⟩
        · rintro H' ⟨s1, hd⟩
          refine ⟨Nat.zero_le _, ?_⟩
          intro p hp
          generalize hp2 : upd _ p _ = H2
          have s2 := Same.of_eq hp2 hp
          replace hp2 := new_at hp2
          refine ⟨_, _, .lst (SqL.of (s2 _ _ hd)) .nil, .lst (SqL.of hp2) .nil, by decide +kernel, by decide +kernel, ?_⟩
          exact q _ (s1.trans s2)
theorem len_listed (h : sp_listed K vs H Q E) : vs.length = 2 := by
  obtain ⟨x, y, d, rfl, _⟩ := h
  rfl
theorem pure_listed (h : sp_listed K vs H Q E) : t_listed K (ends Q) (st 2 vs) H := by
  obtain ⟨x, y, ds, rfl, ⟨a, xs, rfl, ha, hla, hpa⟩, ⟨b, ys, rfl, hb, hlb, hpb⟩, q⟩ := h
  walk_at "go"
  walk_at "isT"
  refine ⟨_, rfl, ?_⟩
  walk_at "go"
  refine ⟨_, _, rfl, .inl ⟨SqL.of ha, ?_⟩⟩
  intro p hp
  generalize hp1 : upd _ p _ = H1
  have s1 := Same.of_eq hp1 hp
  replace hp1 := new_at hp1
  walk_at "go"
  refine ⟨_, _, rfl, .inl ⟨SqL.of (s1 _ _ hb), ?_⟩⟩
  intro p' hp'
  generalize hp2 : upd _ p' _ = H2
  have s2 := Same.of_eq hp2 hp'
  replace hp2 := new_at hp2
  refine ⟨_, _, _, rfl, .inr ⟨_, _, ds, rfl, rfl, s2 _ _ hp1, hla, paired_mono (fun _ _ q => DD.mono (s1.trans s2) q) hpa⟩, .inr ⟨_, _, ds, rfl, rfl, hp2, hlb, paired_mono (fun _ _ q => DD.mono (s1.trans s2) q) hpb⟩, fun H3 s3 => ?_⟩
  exact q _ ((s1.trans s2).trans s3)
end Ar
namespace Ar
open PySem PySem.Spec L2
local macro_rules | `(tactic| walk_at "g1") => `(tactic| first
  | refine ⟨_, rfl, ?_⟩
  | refine ⟨_, _, rfl, rfl, ?_⟩
  | refine ⟨(by show (0 : Int) < _; decide), ?_⟩
  | refine ⟨⟨by decide, by decide⟩, ?_⟩
  | refine ⟨(show CMul _ _ from .inl ⟨by omega, by omega⟩), ?_⟩
  | refine ⟨(show CMul _ _ from .inr ⟨by omega, by omega⟩), ?_⟩
  | refine ⟨(show (_ : Int) ≠ 0 by decide), ?_⟩
  | refine ⟨sz2, ?_⟩
  | refine ⟨sz0, ?_⟩
  | refine ⟨sz3, ?_⟩)
local macro_rules | `(tactic| walk_at "ty") => `(tactic| first | exact .int _ | exact .bl _ | exact .tup (by assumption) | exact .lst (by assumption))
local macro_rules | `(tactic| walk_at "isT") => `(tactic| refine ⟨_, _, _, _, true, rfl, .ty _, .base (by walk_at "ty"), kit_ty (by decide +kernel), ?_⟩)
local macro_rules | `(tactic| walk_at "isF") => `(tactic| refine ⟨_, _, _, _, false, rfl, .ty _, .base (by walk_at "ty"), kit_ty (by decide +kernel), ?_⟩)
local macro_rules | `(tactic| walk_at "cell") => `(tactic| ((repeat walk_at "g1"); refine ⟨_, _, _, rfl, (by assumption), (by assumption), (by first | decide | omega), ?_⟩; repeat walk_at "g1"))
local macro_rules | `(tactic| walk_at "go") => `(tactic| repeat walk_at "g1")
def t_gaps (K : PySem.W.Frag) : TS :=
  (tSeq (tAsg tDNewT (gName 1)) (tSeq (tAsg tDNewK (gName 2)) (tSeq (tFor (iList K (tVar 0)) (gTup K 2 (gCons (gName 3) (gCons (gName 4) gNil))) (tSeq (tIfS (tB (tDNotIn (tTup (tCons (tVar 3) (tCons (tVar 4) tNil))) (tVar 1))) (tDrop (tBM K "list" rAppend (tDSetd (tVar 2) (tVar 3) (tLst tNil)) (tCons (tVar 4) tNil))) tNext) (sDPut (tVar 1) (tTup (tCons (tVar 3) (tCons (tVar 4) tNil))) (tC (.bl true))))) (tSeq (tAsg (tLst tNil) (gName 5)) (tSeq (tFor (iList K (tCB cListT (tCons (tVar 1) tNil))) (gTup K 2 (gCons (gName 3) (gCons (gName 4) gNil))) (tFor (iList K (tDGet2 (tVar 2) (tVar 4) (tLst tNil))) (gName 6) (tIfS (tB (tDNotIn (tTup (tCons (tVar 3) (tCons (tVar 6) tNil))) (tVar 1))) (tDrop (tBM K "list" rAppend (tVar 5) (tCons (tTup (tCons (tVar 3) (tCons (tVar 4) (tCons (tVar 6) tNil)))) tNil))) tNext))) (tRet (tCB (rSortD K) (tCons (tVar 5) tNil))))))))
def t_due_k07 (K : PySem.W.Frag) : TS :=
  (tSeq (tAsg (tLst tNil) (gName 1)) (tSeq (tFor (iList K (tVar 0)) (gTup K 2 (gCons (gName 2) (gCons (gName 3) gNil))) (tFor (iList K (tVar 0)) (gTup K 2 (gCons (gName 4) (gCons (gName 5) gNil))) (tIfS (tAnd (tTest (tOp rEq (tVar 4) (tVar 3))) (tAnd (tTest (tOp (rNotInD K) (tTup (tCons (tVar 2) (tCons (tVar 5) tNil))) (tVar 0))) (tTest (tOp (rNotInD K) (tTup (tCons (tVar 2) (tCons (tVar 3) (tCons (tVar 5) tNil)))) (tVar 1))))) (tDrop (tBM K "list" rAppend (tVar 1) (tCons (tTup (tCons (tVar 2) (tCons (tVar 3) (tCons (tVar 5) tNil)))) tNil))) tNext))) (tRet (tCB (rSortD K) (tCons (tVar 1) tNil)))))
/-! ### the mathematics of gaps -/
def behindOf (dd : List (Int × Int)) (x : Int) : List Int := (dd.filter fun q => decide (q.1 = x)).map (·.2)
def gapRow (dd : List (Int × Int)) (p : Int × Int) (ys : List Int) : List (List Int) := (ys.filter fun c => decide ((p.1, c) ∉ dd)).map fun c => [p.1, p.2, c]
def fnd (dd : List (Int × Int)) (l : List (Int × Int)) : List (List Int) := l.flatMap fun p => gapRow dd p (behindOf dd p.2)
theorem mem_behindOf {dd : List (Int × Int)} {x y : Int} : y ∈ behindOf dd x ↔ (x, y) ∈ dd := by
  unfold behindOf
  simp only [List.mem_map, List.mem_filter, decide_eq_true_eq]
  constructor
  · rintro ⟨q, ⟨h1, h2⟩, rfl⟩
    rw [← h2]
    exact h1
  · intro h
    exact ⟨(x, y), ⟨h, rfl⟩, rfl⟩
theorem nodup_mapOn {α β : Type} {f : α → β} : ∀ {l : List α}, l.Nodup → (∀ a ∈ l, ∀ b ∈ l, f a = f b → a = b) → (l.map f).Nodup
  | [], _, _ => .nil
  | a :: l, h, i => by
    obtain ⟨h1, h2⟩ := List.nodup_cons.mp h
    refine List.nodup_cons.mpr ⟨fun m => ?_, nodup_mapOn h2 fun x hx y hy => i x (List.mem_cons_of_mem _ hx) y (List.mem_cons_of_mem _ hy)⟩
    obtain ⟨b, hb, e⟩ := List.mem_map.mp m
    have := i b (List.mem_cons_of_mem _ hb) a List.mem_cons_self e
    exact h1 (this ▸ hb)
theorem nodup_behindOf {dd : List (Int × Int)} (h : dd.Nodup) (x : Int) : (behindOf dd x).Nodup := by
  refine nodup_mapOn (h.filter _) fun a ha b hb e => ?_
  have h1 : a.1 = x := of_decide_eq_true (List.mem_filter.mp ha).2
  have h2 : b.1 = x := of_decide_eq_true (List.mem_filter.mp hb).2
  exact Prod.ext (h1.trans h2.symm) e
theorem len_behindOf (dd : List (Int × Int)) (x : Int) : (behindOf dd x).length ≤ dd.length := by
  unfold behindOf
  rw [List.length_map]
  exact List.length_filter_le _ _
theorem behind_snoc (dd : List (Int × Int)) (p : Int × Int) (x : Int) : behindOf (dd ++ [p]) x = behindOf dd x ++ (if p.1 = x then [p.2] else []) := by
  unfold behindOf
  rw [List.filter_append, List.map_append]
  by_cases h : p.1 = x
  · simp [h]
  · simp [h]
theorem mem_gapRow {dd : List (Int × Int)} {p : Int × Int} {ys : List Int} {t : List Int} : t ∈ gapRow dd p ys ↔ ∃ c, t = [p.1, p.2, c] ∧ c ∈ ys ∧ (p.1, c) ∉ dd := by
  unfold gapRow
  simp only [List.mem_map, List.mem_filter, decide_eq_true_eq]
  constructor
  · rintro ⟨c, ⟨h1, h2⟩, rfl⟩
    exact ⟨c, rfl, h1, h2⟩
  · rintro ⟨c, rfl, h1, h2⟩
    exact ⟨c, ⟨h1, h2⟩, rfl⟩
theorem gapRow_snoc (dd : List (Int × Int)) (p : Int × Int) (ys : List Int) (c : Int) : gapRow dd p (ys ++ [c]) = gapRow dd p ys ++ (if (p.1, c) ∉ dd then [[p.1, p.2, c]] else []) := by
  unfold gapRow
  rw [List.filter_append, List.map_append]
  by_cases h : (p.1, c) ∈ dd
  · simp [h]
  · simp [h]
theorem len_gapRow (dd : List (Int × Int)) (p : Int × Int) (ys : List Int) : (gapRow dd p ys).length ≤ ys.length := by
  unfold gapRow
  rw [List.length_map]
  exact List.length_filter_le _ _
theorem nodup_gapRow {dd : List (Int × Int)} {p : Int × Int} {ys : List Int} (h : ys.Nodup) : (gapRow dd p ys).Nodup := by
  refine nodup_mapOn (h.filter _) fun a _ b _ e => ?_
  simpa using e
theorem len_fnd (dd : List (Int × Int)) : ∀ l : List (Int × Int), (fnd dd l).length ≤ l.length * dd.length
  | [] => by simp [fnd]
  | p :: l => by
    have ih := len_fnd dd l
    have h1 := Nat.le_trans (len_gapRow dd p (behindOf dd p.2)) (len_behindOf dd p.2)
    have e : fnd dd (p :: l) = gapRow dd p (behindOf dd p.2) ++ fnd dd l := rfl
    rw [e, List.length_append, List.length_cons, Nat.succ_mul]
    omega
theorem fnd_snoc (dd : List (Int × Int)) (l : List (Int × Int)) (p : Int × Int) : fnd dd (l ++ [p]) = fnd dd l ++ gapRow dd p (behindOf dd p.2) := by
  unfold fnd
  simp
theorem nodup_fnd {dd : List (Int × Int)} (hd : dd.Nodup) {l : List (Int × Int)} (h : l.Nodup) : (fnd dd l).Nodup := by
  unfold fnd
  refine List.pairwise_flatMap.mpr ⟨fun p _ => nodup_gapRow (nodup_behindOf hd _), h.imp fun {p q} hne x hx y hy e => ?_⟩
  obtain ⟨c, rfl, _⟩ := mem_gapRow.mp hx
  obtain ⟨d, rfl, _⟩ := mem_gapRow.mp hy
  simp only [List.cons.injEq, and_true] at e
  exact hne (Prod.ext e.1 e.2.1)
theorem gaps_fnd {ps dd : List (Int × Int)} (hd : dd.Nodup) (hm : ∀ q, q ∈ dd ↔ q ∈ ps) {ms : List (List Int)} (p : ms.Perm (fnd dd dd)) (w : ms.Pairwise (· ≤ ·)) : GapsOf ps ms := by
  refine ⟨rising_sorted p w (nodup_fnd hd hd), fun t => ?_⟩
  rw [p.mem_iff]
  unfold fnd
  simp only [List.mem_flatMap]
  constructor
  · rintro ⟨q, hq, ht⟩
    obtain ⟨c, rfl, h1, h2⟩ := mem_gapRow.mp ht
    exact ⟨q.1, q.2, c, rfl, (hm _).mp hq, (hm _).mp (mem_behindOf.mp h1), fun z => h2 ((hm _).mpr z)⟩
  · rintro ⟨a, b, c, rfl, h1, h2, h3⟩
    exact ⟨(a, b), (hm _).mpr h1, mem_gapRow.mpr ⟨c, rfl, mem_behindOf.mpr ((hm _).mpr h2), fun z => h3 ((hm _).mp z)⟩⟩
/-- the dict of rows behind each point -/
structure Beh (H H' : Hp) (bks : List (Key × V)) (dd : List (Int × Int)) : Prop where
  no : ∀ x : Int, valV bks (Sum.inl x) = none → behindOf dd x = []
  yes : ∀ (x : Int) (v : V), valV bks (Sum.inl x) = some v → ∃ l, v = .ref l ∧ H l = none ∧ H' l = some (.lst ((behindOf dd x).map .int))
  apart : ∀ (x y : Int) (l : Addr), valV bks (Sum.inl x) = some (.ref l) → valV bks (Sum.inl y) = some (.ref l) → x = y
theorem Beh.same {H H1 H2 : Hp} {bks : List (Key × V)} {dd : List (Int × Int)} (B : Beh H H1 bks dd) (s : Same H1 H2) : Beh H H2 bks dd :=
  ⟨B.no, fun x v e => by
    obtain ⟨l, h1, h2, h3⟩ := B.yes x v e
    exact ⟨l, h1, h2, s _ _ h3⟩, B.apart⟩
variable {K : PySem.W.Frag} {vs : List V} {H : Hp} {Q : VK} {E : XK}
theorem len_gaps (h : sp_gaps K vs H Q E) : vs.length = 1 := by
  obtain ⟨a, xs, ps, rfl, _⟩ := h
  rfl
theorem pure_gaps (h : sp_gaps K vs H Q E) : t_gaps K (ends Q) (st 7 vs) H := by
  obtain ⟨a, xs, ps, rfl, hs, ht, hl, q⟩ := h
  have lx : xs.length = ps.length := by rw [paired_len ht]; simp
  refine fun hv nhv => ?_
  generalize e1 : upd _ hv _ = H1
  have s1 := Same.of_eq e1 nhv
  replace e1 := new_at e1
  refine fun bh nbh => ?_
  generalize e2 : upd _ bh _ = H2
  have s2 := Same.of_eq e2 nbh
  replace e2 := new_at e2
  have nbh0 : H bh = none := s1.free nbh
  have bne : bh ≠ hv := fun e => by rw [e, e1] at nbh; cases nbh
  refine ⟨_, rfl, a, rfl, ⟨_, (s1.trans s2).seq hs⟩, for_list (K := K) (a := a) (xs := xs) (fun i σ G => ∃ (o3 o4 : Option V) (bks : List (Key × V)), σ = [some (.ref a), some (.ref hv), some (.ref bh), o3, o4, none, none] ∧ Same H G ∧
    G hv = some (.dT (hk (dedup (ps.take i)))) ∧ G bh = some (.dK bks) ∧ Beh H G bks (dedup (ps.take i)) ∧ bks.length ≤ i)
    ⟨none, none, [], rfl, s1.trans s2, s2 _ _ e1, e2, ⟨fun x _ => rfl, fun x v e => (nomatch e), fun x y l e => (nomatch e)⟩, Nat.le_refl _⟩ (fun i σ G _ ⟨_, _, _, _, s, _⟩ => s.seq hs) ?_ ?_⟩
  · rintro i x σ G hx ⟨o3, o4, bks, rfl, s0, hd, hb, B, hlb⟩
    obtain ⟨p, hp, t, rfl, htp⟩ := TLp.at ht hx
    have hi := lt_of_get hx
    have ht1 := s0 _ _ htp
    have edd : dedup (ps.take (i + 1)) = addP (dedup (ps.take i)) p := by rw [take_snoc hp, dedup_snoc]
    have ldd : (dedup (ps.take i)).length ≤ i := Nat.le_trans (len_dedup _) (by rw [List.length_take]; omega)
    refine ⟨_, _, rfl, SqT.of ht1, rfl, _, _, rfl, _, _, rfl, rfl, ?_⟩
    -- have[(one, other)] = True
    have fin : ∀ (D : Ends) (G1 : Hp) (bks' : List (Key × V)), Same H G1 → G1 hv = some (.dT (hk (dedup (ps.take i)))) → G1 bh = some (.dK bks') → Beh H G1 bks' (dedup (ps.take (i + 1))) → bks'.length ≤ i + 1 →
        (∀ (G2 : Hp) (bks' : List (Key × V)), Same H G2 → G2 hv = some (.dT (hk (dedup (ps.take (i + 1))))) → G2 bh = some (.dK bks') → Beh H G2 bks' (dedup (ps.take (i + 1))) → bks'.length ≤ i + 1 → D.nx [some (.ref a), some (.ref hv), some (.ref bh), some (.int p.1), some (.int p.2), none, none] G2) →
        sDPut (tVar 1) (tTup (tCons (tVar 3) (tCons (tVar 4) tNil))) (tC (.bl true)) D [some (.ref a), some (.ref hv), some (.ref bh), some (.int p.1), some (.int p.2), none, none] G1 := fun D G1 bks' s1 d1 b1 B1 l1 k => by
      refine ⟨_, rfl, _, rfl, _, rfl, sz2, ?_⟩
      refine fun t2 nt2 => ?_
      generalize e2 : upd _ t2 _ = G2
      have s2 := Same.of_eq e2 nt2
      replace e2 := new_at e2
      refine ⟨_, _, rfl, DPut.t (k := kp p) (s2 _ _ d1) e2 (lin' (by simp [hk]; omega)), ?_⟩
      rw [putK_hk, ← edd]
      refine k _ bks' ((s1.trans s2).mut nhv) upd_same (by rw [upd_ne bne]; exact s2 _ _ b1) ⟨B1.no, fun x v e => ?_, B1.apart⟩ l1
      obtain ⟨l, h1, h2, h3⟩ := B1.yes x v e
      refine ⟨l, h1, h2, ?_⟩
      have := s2 _ _ h3
      rw [upd_ne (fun z => by rw [z, s2 _ _ d1] at this; cases this)]
      exact this
    -- if (one, other) not in have
    walk_at "go"
    refine fun t1 nt1 => ?_
    generalize e1 : upd _ t1 _ = G1
    have s1 := Same.of_eq e1 nt1
    replace e1 := new_at e1
    refine ⟨_, rfl, _, _, rfl, DGet.t (k := kp p) (s1 _ _ hd) e1, _, rfl, ?_⟩
    rw [some_hk]
    refine iteDn (fun hn => ?_) fun hm => ?_
    · -- behind.setdefault(one, []).append(other)
      have edd' : dedup (ps.take (i + 1)) = dedup (ps.take i) ++ [p] := by rw [edd]; unfold addP; rw [if_neg hn]
      refine ⟨_, rfl, _, rfl, .inl ⟨_, .inl (s1 _ _ hb)⟩, _, rfl, sz0, ?_⟩
      refine fun l1 nl1 => ?_
      generalize e2 : upd _ l1 _ = G2
      have s2 := Same.of_eq e2 nl1
      replace e2 := new_at e2
      have hb2 := s2 _ _ (s1 _ _ hb)
      have hd2 := s2 _ _ (s1 _ _ hd)
      have B2 := (B.same s1).same s2
      refine ⟨bks, Sum.inl p.1, hb2, rfl, lin' (by omega), fun v hv' => ?_, fun hv' => ?_⟩
      · obtain ⟨l, rfl, nl, el⟩ := B2.yes _ _ hv'
        have n1 : hv ≠ l := fun z => by rw [← z, hd2] at el; cases el
        have n2 : bh ≠ l := fun z => by rw [← z, hb2] at el; cases el
        refine ⟨.inl ⟨rfl, _, SqL.of el⟩, _, rfl, l, _, _, rfl, rfl, el, lin' (by have := len_behindOf (dedup (ps.take i)) p.1; rw [List.length_map]; omega), ?_⟩
        refine fin _ _ bks (((s0.trans s1).trans s2).mut nl) (by rw [upd_ne n1]; exact hd2) (by rw [upd_ne n2]; exact hb2) ⟨fun x e => ?_, fun x v e => ?_, B.apart⟩ (by omega) fun G2 bks' a1 a2 a3 a4 a5 => ⟨_, _, bks', rfl, a1, a2, a3, a4, a5⟩
        · rw [edd', behind_snoc, B.no x e]
          by_cases h : p.1 = x
          · rw [← h, hv'] at e; cases e
          · rw [if_neg h] <;> rfl
        · obtain ⟨m, rfl, nm, em⟩ := B2.yes x v e
          refine ⟨m, rfl, nm, ?_⟩
          rw [edd', behind_snoc]
          by_cases h : p.1 = x
          · subst h
            rw [hv'] at e
            cases e
            rw [upd_same, if_pos rfl, List.map_append] <;> rfl
          · have : m ≠ l := fun z => h (B.apart _ _ l hv' (z ▸ e))
            rw [upd_ne this, if_neg h, List.append_nil]
            exact em
      · have nl0 : H l1 = none := s0.free (s1.free nl1)
        have n0 : l1 ≠ bh := fun z => by rw [z, s1 _ _ hb] at nl1; cases nl1
        have n0' : l1 ≠ hv := fun z => by rw [z, s1 _ _ hd] at nl1; cases nl1
        have el : upd G2 bh (.dK (putK bks (Sum.inl p.1) (.ref l1))) l1 = some (.lst []) := by rw [upd_ne n0]; exact e2
        refine ⟨.inl ⟨rfl, _, SqL.of el⟩, _, rfl, l1, _, _, rfl, rfl, el, lin' (by decide), ?_⟩
        refine fin _ _ (putK bks (Sum.inl p.1) (.ref l1)) ((((s0.trans s1).trans s2).mut nbh0).mut nl0) (by rw [upd_ne n0'.symm, upd_ne bne.symm]; exact hd2) (by rw [upd_ne n0.symm, upd_same]) ⟨fun x e => ?_, fun x v e => ?_, fun x y l e1 e2 => ?_⟩ ?_ fun G2 bks' a1 a2 a3 a4 a5 => ⟨_, _, bks', rfl, a1, a2, a3, a4, a5⟩
        · rw [valV_put] at e
          by_cases h : (Sum.inl x : Key) = Sum.inl p.1
          · rw [if_pos h] at e; cases e
          · rw [if_neg h] at e
            rw [edd', behind_snoc, B.no x e, if_neg (fun z => h (by rw [z]))] <;> rfl
        · rw [valV_put] at e
          by_cases h : (Sum.inl x : Key) = Sum.inl p.1
          · rw [if_pos h] at e
            cases e
            cases h
            refine ⟨l1, rfl, nl0, ?_⟩
            rw [upd_same, edd', behind_snoc, B.no _ hv', if_pos rfl] <;> rfl
          · rw [if_neg h] at e
            obtain ⟨m, rfl, nm, em⟩ := B2.yes x v e
            refine ⟨m, rfl, nm, ?_⟩
            obtain ⟨m', e', _, em'⟩ := (B.same s1).yes x _ e
            cases e'
            have k1 : m ≠ l1 := fun z => by rw [z, nl1] at em'; cases em'
            have k2 : m ≠ bh := fun z => by rw [z, hb2] at em; cases em
            rw [upd_ne k1, upd_ne k2, em, edd', behind_snoc, if_neg (fun z => h (by rw [z])), List.append_nil]
        · rw [valV_put] at e1 e2
          have old : ∀ z, valV bks (Sum.inl z) = some (.ref l1) → False := fun z e => by
            obtain ⟨m', e', _, em'⟩ := (B.same s1).yes z _ e
            cases e'
            rw [nl1] at em'
            cases em'
          by_cases h : (Sum.inl x : Key) = Sum.inl p.1
          · by_cases h2 : (Sum.inl y : Key) = Sum.inl p.1
            · exact Sum.inl.inj (h.trans h2.symm)
            · rw [if_pos h] at e1
              rw [if_neg h2] at e2
              cases e1
              exact (old y e2).elim
          · by_cases h2 : (Sum.inl y : Key) = Sum.inl p.1
            · rw [if_neg h] at e1
              rw [if_pos h2] at e2
              cases e2
              exact (old x e1).elim
            · rw [if_neg h] at e1
              rw [if_neg h2] at e2
              exact B.apart x y l e1 e2
        · rw [putK_new _ hv', List.length_append]
          simp only [List.length_singleton]
          omega
    · have edd' : dedup (ps.take (i + 1)) = dedup (ps.take i) := by rw [edd]; unfold addP; rw [if_pos hm]
      refine fin _ _ bks (s0.trans s1) (s1 _ _ hd) (s1 _ _ hb) (by rw [edd']; exact B.same s1) (by omega) fun G2 bks' a1 a2 a3 a4 a5 => ⟨_, _, bks', rfl, a1, a2, a3, a4, a5⟩
  · rintro σ G ⟨o3, o4, bks, rfl, s0, hd, hb, B, hlb⟩
    rw [lx, List.take_length] at hd B
    generalize hdd : dedup ps = dd at hd B
    have ndd : dd.Nodup := hdd ▸ nodup_dedup ps
    have mdd : ∀ q, q ∈ dd ↔ q ∈ ps := fun q => by rw [← hdd]; exact mem_dedup
    have ldd : dd.length ≤ 1000 := by have := len_dedup ps; rw [hdd] at this; omega
    refine ⟨sz0, ?_⟩
    refine fun fl nfl => ?_
    generalize e1 : upd _ fl _ = G1
    have s1 := Same.of_eq e1 nfl
    replace e1 := new_at e1
    refine ⟨_, rfl, _, _, rfl, .inl (s1 _ _ hd), fun lp bs nlp kk => ?_⟩
    generalize e2 : upd _ lp _ = G2
    have s2 := Same.of_eq e2 nlp
    replace e2 := new_at e2
    have tk : TL G2 (bs.map V.ref) (dd.map p2) := (keys_tl kk).mono s2.tk
    have lb : (bs.map V.ref).length = dd.length := by rw [paired_len tk]; simp
    have hd2 := s2 _ _ (s1 _ _ hd)
    have hb2 := s2 _ _ (s1 _ _ hb)
    have B2 := (B.same s1).same s2
    have nfl0 : H fl = none := s0.free nfl
    have s02 := (s0.trans s1).trans s2
    have fl2 := s2 _ _ e1
    refine ⟨_, rfl, ⟨_, SqL.of e2⟩, for_list (K := K) (a := lp) (xs := bs.map V.ref) (fun i σ G' => ∃ (o3 o4 o6 : Option V) (ys : List V), σ = [some (.ref a), some (.ref hv), some (.ref bh), o3, o4, some (.ref fl), o6] ∧ (∀ b o, b ≠ fl → G2 b = some o → G' b = some o) ∧
      G' fl = some (.lst ys) ∧ TL G' ys (fnd dd (dd.take i))) ⟨_, _, _, [], rfl, fun b o _ e => e, fl2, .nil⟩ (fun i σ G' _ ⟨_, _, _, _, _, s, _⟩ => SqL.of (s _ _ (fun z => by rw [z, e1] at nlp; cases nlp) e2)) ?_ ?_⟩
    · rintro i x σ G' hx ⟨o3, o4, o6, ys, rfl, s3, hf, tf⟩
      have nn : ∀ b o, G2 b = some o → (∀ zs, o ≠ .lst zs) → b ≠ fl := fun b o e h z => by
        rw [z, fl2] at e
        exact h _ (Option.some.inj e).symm
      obtain ⟨p, hp, t, rfl, htp⟩ := TLp.at tk hx
      have hi := lt_of_get hp
      have tk3 : TK G2 G' := fun b zs e => s3 b _ (nn b _ e fun _ z => nomatch z) e
      have hd3 := s3 _ _ (nn _ _ hd2 fun _ z => nomatch z) hd2
      have hb3 := s3 _ _ (nn _ _ hb2 fun _ z => nomatch z) hb2
      refine ⟨_, _, rfl, SqT.of (tk3 _ _ htp), rfl, _, _, rfl, _, _, rfl, rfl, ?_⟩
      refine ⟨_, rfl, _, rfl, .inl ⟨_, .inl hb3⟩, _, rfl, sz0, ?_⟩
      refine fun em nem => ?_
      generalize e4 : upd _ em _ = G3
      have s4 := Same.of_eq e4 nem
      replace e4 := new_at e4
      have hb4 := s4 _ _ hb3
      have hd4 := s4 _ _ hd3
      have hf4 := s4 _ _ hf
      refine ⟨_, DGet.k (k := Sum.inl p.2) hb4, ?_⟩
      obtain ⟨r, er, hr, nr⟩ : ∃ r, (valV bks (Sum.inl p.2)).getD (V.ref em) = .ref r ∧ G3 r = some (.lst ((behindOf dd p.2).map .int)) ∧ r ≠ fl := by
        cases e : valV bks (Sum.inl p.2) with
        | none =>
          refine ⟨em, rfl, ?_, fun z => ?_⟩
          · rw [B.no _ e]; exact e4
          · rw [z, hf] at nem; cases nem
        | some v =>
          obtain ⟨l, rfl, nl, el⟩ := B2.yes _ _ e
          have : l ≠ fl := fun z => by
            obtain ⟨l', e', _, el'⟩ := B.yes _ _ e
            cases e'
            rw [z, nfl] at el'
            cases el'
          exact ⟨l, rfl, s4 _ _ (s3 _ _ this el), this⟩
      rw [er]
      have eb : (behindOf dd p.2).map V.int = (behindOf dd p.2).map V.int := rfl
      refine ⟨_, rfl, ⟨_, SqL.of hr⟩, for_list (K := K) (a := r) (xs := (behindOf dd p.2).map V.int) (fun j σ G4 => ∃ (o6 : Option V) (ys : List V), σ = [some (.ref a), some (.ref hv), some (.ref bh), some (.int p.1), some (.int p.2), some (.ref fl), o6] ∧ (∀ b o, b ≠ fl → G3 b = some o → G4 b = some o) ∧
        G4 fl = some (.lst ys) ∧ TL G4 ys (fnd dd (dd.take i) ++ gapRow dd p ((behindOf dd p.2).take j))) ⟨_, ys, rfl, fun b o _ e => e, hf4, ?_⟩ (fun j σ G4 _ ⟨_, _, _, s, _⟩ => SqL.of (s _ _ nr hr)) ?_ ?_⟩
      · have : gapRow dd p ((behindOf dd p.2).take 0) = [] := rfl
        rw [this, List.append_nil]
        exact tf.mono s4.tk
      · rintro j x σ G4 hx ⟨o6, ys, rfl, s5, hf5, tf5⟩
        obtain ⟨c, hc, rfl⟩ := get_map hx
        have hj := lt_of_get hc
        have nn3 : ∀ b o, G3 b = some o → (∀ zs, o ≠ .lst zs) → b ≠ fl := fun b o e h z => by
          rw [z, hf4] at e
          exact h _ (Option.some.inj e).symm
        have hd5 := s5 _ _ (nn3 _ _ hd4 fun _ z => nomatch z) hd4
        have ly : ys.length < 16000000 := by
          rw [paired_len tf5, List.length_append]
          have h1 := len_fnd dd (dd.take i)
          have h2 := len_gapRow dd p ((behindOf dd p.2).take j)
          have h3 := len_behindOf dd p.2
          rw [List.length_take] at h2
          have h4 : (dd.take i).length * dd.length ≤ 1000 * 1000 := Nat.mul_le_mul (by rw [List.length_take]; omega) ldd
          omega
        walk_at "go"
        refine fun t6 nt6 => ?_
        generalize e6 : upd _ t6 _ = G5
        have s6 := Same.of_eq e6 nt6
        replace e6 := new_at e6
        refine ⟨_, rfl, _, _, rfl, DGet.t (k := kp (p.1, c)) (s6 _ _ hd5) e6, _, rfl, ?_⟩
        rw [some_hk]
        have hf6 := s6 _ _ hf5
        refine iteDn (fun hn => ?_) fun hm => ?_
        · refine ⟨_, rfl, .inl ⟨rfl, _, SqL.of hf6⟩, _, rfl, _, rfl, _, rfl, sz3, ?_⟩
          refine fun t7 nt7 => ?_
          generalize e7 : upd _ t7 _ = G6
          have s7 := Same.of_eq e7 nt7
          replace e7 := new_at e7
          have hf7 := s7 _ _ hf6
          refine ⟨fl, _, _, rfl, rfl, hf7, lin' ly, ?_⟩
          have tkf : TK G6 (upd G6 fl (.lst (ys ++ [V.ref t7]))) := TK.upd fun zs z => by rw [hf7] at z; cases z
          refine ⟨_, _, rfl, fun b o hb e => ?_, upd_same, ?_⟩
          · rw [upd_ne hb]
            exact s7 _ _ (s6 _ _ (s5 _ _ hb e))
          · rw [take_snoc hc, gapRow_snoc, if_pos hn, ← List.append_assoc]
            exact paired_app (tf5.mono ((s6.tk.trans s7.tk).trans tkf)) (.cons (TI.mono tkf ⟨t7, rfl, e7⟩) .nil)
        · refine ⟨_, _, rfl, fun b o hb e => s6 _ _ (s5 _ _ hb e), hf6, ?_⟩
          rw [take_snoc hc, gapRow_snoc, if_neg (fun z => z hm), List.append_nil]
          exact tf5.mono s6.tk
      · rintro σ G4 ⟨o6, ys, rfl, s5, hf5, tf5⟩
        refine ⟨_, _, _, ys, rfl, fun b o hb e => s5 _ _ hb (s4 _ _ (s3 _ _ hb e)), hf5, ?_⟩
        rw [List.length_map, List.take_length] at tf5
        rw [take_snoc hp, fnd_snoc]
        exact tf5
    · rintro σ G' ⟨o3, o4, o6, ys, rfl, s3, hf, tf⟩
      rw [lb, List.take_length] at tf
      refine ⟨_, rfl, fl, _, _, rfl, SqL.of hf, tf, fun ns hn => ?_, fun zs ms r tz pm pw nr => ?_⟩
      · unfold fnd at hn
        obtain ⟨p, _, hp⟩ := List.mem_flatMap.mp hn
        obtain ⟨c, rfl, _⟩ := mem_gapRow.mp hp
        exact fun z => nomatch z
      · generalize e4 : upd _ r _ = G3
        have s4 := Same.of_eq e4 nr
        replace e4 := new_at e4
        have s05 : Same H G' := fun b o e => s3 b o (fun z => by rw [z, nfl0] at e; cases e) (s02 _ _ e)
        refine q ms r G3 zs (gaps_fnd ndd mdd pm pw) ?_ (s05.free nr) (s05.trans s4) e4 (tz.mono s4.tk)
        rw [pm.length_eq]
        have h1 := len_fnd dd dd
        have h4 : dd.length * dd.length ≤ 1000 * 1000 := Nat.mul_le_mul ldd ldd
        omega
/-! ### the law's own gaps -/
def rowOf (ps : List (Int × Int)) (p : Int × Int) (l : List (Int × Int)) (F : List (List Int)) : List (List Int) :=
  l.foldl (fun F q => if q.1 = p.2 ∧ (p.1, q.2) ∉ ps ∧ [p.1, p.2, q.2] ∉ F then F ++ [[p.1, p.2, q.2]] else F) F
theorem rowOf_snoc (ps : List (Int × Int)) (p : Int × Int) (l : List (Int × Int)) (F : List (List Int)) (q : Int × Int) : rowOf ps p (l ++ [q]) F = (if q.1 = p.2 ∧ (p.1, q.2) ∉ ps ∧ [p.1, p.2, q.2] ∉ rowOf ps p l F then rowOf ps p l F ++ [[p.1, p.2, q.2]] else rowOf ps p l F) := by
  unfold rowOf
  rw [List.foldl_append] <;> rfl
def allOf (ps l : List (Int × Int)) : List (List Int) := l.foldl (fun F p => rowOf ps p ps F) []
theorem allOf_snoc (ps l : List (Int × Int)) (p : Int × Int) : allOf ps (l ++ [p]) = rowOf ps p ps (allOf ps l) := by
  unfold allOf
  rw [List.foldl_append] <;> rfl
theorem rowOf_ok (ps : List (Int × Int)) (p : Int × Int) : ∀ (l : List (Int × Int)) (F : List (List Int)), F.Nodup → (rowOf ps p l F).Nodup ∧ (∀ t, t ∈ rowOf ps p l F ↔ t ∈ F ∨ ∃ c, t = [p.1, p.2, c] ∧ (p.2, c) ∈ l ∧ (p.1, c) ∉ ps) ∧ (rowOf ps p l F).length ≤ F.length + l.length
  | [], F, h => ⟨h, fun t => by simp [rowOf], by simp [rowOf]⟩
  | q :: l, F, h => by
    have e : rowOf ps p (q :: l) F = rowOf ps p l (if q.1 = p.2 ∧ (p.1, q.2) ∉ ps ∧ [p.1, p.2, q.2] ∉ F then F ++ [[p.1, p.2, q.2]] else F) := rfl
    rw [e]
    by_cases c : q.1 = p.2 ∧ (p.1, q.2) ∉ ps ∧ [p.1, p.2, q.2] ∉ F
    · rw [if_pos c]
      obtain ⟨c1, c2, c3⟩ := c
      have hF : (F ++ [[p.1, p.2, q.2]]).Nodup := nd_snoc h c3
      obtain ⟨h1, h2, h3⟩ := rowOf_ok ps p l _ hF
      refine ⟨h1, fun t => ?_, ?_⟩
      · rw [h2]
        simp only [List.mem_append, List.mem_singleton, List.mem_cons, List.not_mem_nil, or_false]
        constructor
        · rintro ((h | rfl) | ⟨c, rfl, h, h'⟩)
          · exact .inl h
          · exact .inr ⟨q.2, rfl, .inl (Prod.ext c1.symm rfl), c2⟩
          · exact .inr ⟨c, rfl, .inr h, h'⟩
        · rintro (h | ⟨c, rfl, h | h, h'⟩)
          · exact .inl (.inl h)
          · cases h
            exact .inl (.inr rfl)
          · exact .inr ⟨c, rfl, h, h'⟩
      · simp only [List.length_append, List.length_singleton, List.length_cons, List.length_nil] at h3 ⊢
        omega
    · rw [if_neg c]
      obtain ⟨h1, h2, h3⟩ := rowOf_ok ps p l F h
      refine ⟨h1, fun t => ?_, by simp only [List.length_cons]; omega⟩
      rw [h2]
      simp only [List.mem_cons]
      constructor
      · rintro (h | ⟨c, rfl, h, h'⟩)
        · exact .inl h
        · exact .inr ⟨c, rfl, .inr h, h'⟩
      · rintro (h | ⟨d, rfl, h | h, h'⟩)
        · exact .inl h
        · cases h
          refine .inl ?_
          by_cases z : [p.1, p.2, d] ∈ F
          · exact z
          · exact absurd ⟨rfl, h', z⟩ c
        · exact .inr ⟨d, rfl, h, h'⟩
theorem allOf_ok (ps : List (Int × Int)) : ∀ l : List (Int × Int), (allOf ps l).Nodup ∧ (∀ t, t ∈ allOf ps l ↔ ∃ a b c, t = [a, b, c] ∧ (a, b) ∈ l ∧ (b, c) ∈ ps ∧ (a, c) ∉ ps) ∧ (allOf ps l).length ≤ l.length * ps.length := by
  intro l
  refine snoc_ind (P := fun l => (allOf ps l).Nodup ∧ (∀ t, t ∈ allOf ps l ↔ ∃ a b c, t = [a, b, c] ∧ (a, b) ∈ l ∧ (b, c) ∈ ps ∧ (a, c) ∉ ps) ∧ (allOf ps l).length ≤ l.length * ps.length) ⟨.nil, fun t => by simp [allOf], by simp [allOf]⟩ (fun l p ih => ?_) l
  · obtain ⟨h1, h2, h3⟩ := ih
    obtain ⟨r1, r2, r3⟩ := rowOf_ok ps p ps (allOf ps l) h1
    rw [allOf_snoc]
    refine ⟨r1, fun t => ?_, ?_⟩
    · rw [r2, h2]
      constructor
      · rintro (⟨a, b, c, rfl, x, y, z⟩ | ⟨c, rfl, y, z⟩)
        · exact ⟨a, b, c, rfl, List.mem_append_left _ x, y, z⟩
        · exact ⟨p.1, p.2, c, rfl, List.mem_append_right _ (by simp), y, z⟩
      · rintro ⟨a, b, c, rfl, x, y, z⟩
        rcases List.mem_append.mp x with x | x
        · exact .inl ⟨a, b, c, rfl, x, y, z⟩
        · have := List.mem_singleton.mp x
          subst this
          exact .inr ⟨c, rfl, y, z⟩
    · rw [List.length_append, List.length_singleton, Nat.succ_mul]
      omega
theorem len_due_k07 (h : sp_due_k07 K vs H Q E) : vs.length = 1 := len_gaps h
theorem pure_due_k07 (h : sp_due_k07 K vs H Q E) : t_due_k07 K (ends Q) (st 6 vs) H := by
  obtain ⟨a, xs, ps, rfl, hs, ht, hl, q⟩ := h
  have lx : xs.length = ps.length := by rw [paired_len ht]; simp
  have bound : ∀ l : List (Int × Int), l.length ≤ 1000 → (allOf ps l).length ≤ 1000000 := fun l hl' => by
    have h1 := (allOf_ok ps l).2.2
    have h2 : l.length * ps.length ≤ 1000 * 1000 := Nat.mul_le_mul hl' hl
    omega
  refine ⟨sz0, ?_⟩
  refine fun fl nfl => ?_
  generalize e1 : upd _ fl _ = H1
  have s1 := Same.of_eq e1 nfl
  replace e1 := new_at e1
  refine ⟨_, rfl, a, rfl, ⟨_, s1.seq hs⟩, for_list (K := K) (a := a) (xs := xs) (fun i σ G => ∃ (o2 o3 o4 o5 : Option V) (ys : List V), σ = [some (.ref a), some (.ref fl), o2, o3, o4, o5] ∧ Same H G ∧ G fl = some (.lst ys) ∧ TL G ys (allOf ps (ps.take i)))
    ⟨_, _, _, _, [], rfl, s1, e1, .nil⟩ (fun i σ G _ ⟨_, _, _, _, _, _, s, _⟩ => s.seq hs) ?_ ?_⟩
  · rintro i x σ G hx ⟨o2, o3, o4, o5, ys, rfl, s0, hf, tf⟩
    obtain ⟨p, hp, t, rfl, htp⟩ := TLp.at ht hx
    have hi := lt_of_get hp
    refine ⟨_, _, rfl, SqT.of (s0 _ _ htp), rfl, _, _, rfl, _, _, rfl, rfl, ?_⟩
    refine ⟨_, rfl, a, rfl, ⟨_, s0.seq hs⟩, for_list (K := K) (a := a) (xs := xs) (fun j σ G => ∃ (o4 o5 : Option V) (ys : List V), σ = [some (.ref a), some (.ref fl), some (.int p.1), some (.int p.2), o4, o5] ∧ Same H G ∧ G fl = some (.lst ys) ∧ TL G ys (rowOf ps p (ps.take j) (allOf ps (ps.take i))))
      ⟨_, _, ys, rfl, s0, hf, tf⟩ (fun i σ G _ ⟨_, _, _, _, s, _⟩ => s.seq hs) ?_ ?_⟩
    · rintro j x σ G hx ⟨o4, o5, ys, rfl, s0, hf, tf⟩
      obtain ⟨r, hr, t, rfl, htr⟩ := TLp.at ht hx
      have hj := lt_of_get hr
      have ly : ys.length < 16000000 := by
        rw [paired_len tf]
        have h1 := (rowOf_ok ps p (ps.take j) _ (allOf_ok ps (ps.take i)).1).2.2
        have h2 := bound (ps.take i) (by rw [List.length_take]; omega)
        rw [List.length_take] at h1
        omega
      refine ⟨_, _, rfl, SqT.of (s0 _ _ htr), rfl, _, _, rfl, _, _, rfl, rfl, ?_⟩
      have no : ∀ (G' : Hp), Same G G' → ¬ (r.1 = p.2 ∧ (p.1, r.2) ∉ ps ∧ [p.1, p.2, r.2] ∉ rowOf ps p (ps.take j) (allOf ps (ps.take i))) →
          ∃ (o4 o5 : Option V) (ys : List V), [some (V.ref a), some (.ref fl), some (.int p.1), some (.int p.2), some (.int r.1), some (.int r.2)] = [some (.ref a), some (.ref fl), some (.int p.1), some (.int p.2), o4, o5] ∧ Same H G' ∧ G' fl = some (.lst ys) ∧ TL G' ys (rowOf ps p (ps.take (j + 1)) (allOf ps (ps.take i))) := fun G' s c =>
        ⟨_, _, ys, rfl, s0.trans s, s _ _ hf, by rw [take_snoc hr, rowOf_snoc, if_neg c]; exact tf.mono s.tk⟩
      refine ⟨_, rfl, _, rfl, rfl, _, rfl, iteE (fun c1 => ?_) fun c1 => ?_⟩
      · refine ⟨_, rfl, _, rfl, sz2, ?_⟩
        refine fun t6 nt6 => ?_
        generalize e6 : upd _ t6 _ = G1
        have s6 := Same.of_eq e6 nt6
        replace e6 := new_at e6
        refine ⟨_, rfl, _, _, dp_ti (ti2 e6), dp_tl (s6.seq (s0.seq hs)) (ht.mono (s0.trans s6).tk), shaped_dI [p.1, r.2], shaped_dIs _, _, rfl, ?_⟩
        have ea : ((ps.map p2).map dI).any (fun z => PyData.eqv z (dI [p.1, r.2])) = decide ((p.1, r.2) ∈ ps) := by
          rw [any_dI]
          have : [p.1, r.2] ∈ ps.map p2 ↔ (p.1, r.2) ∈ ps := by
            constructor
            · intro h
              obtain ⟨q, hq, e⟩ := List.mem_map.mp h
              exact p2_inj (q := (p.1, r.2)) e ▸ hq
            · intro h
              exact List.mem_map.mpr ⟨_, h, rfl⟩
          by_cases h : (p.1, r.2) ∈ ps
          · rw [decide_eq_true h, decide_eq_true (this.mpr h)]
          · rw [decide_eq_false h, decide_eq_false (fun z => h (this.mp z))]
        rw [ea]
        refine iteDn (fun c2 => ?_) fun c2 => ?_
        · refine ⟨_, rfl, _, rfl, _, rfl, sz3, ?_⟩
          refine fun t7 nt7 => ?_
          generalize e7 : upd _ t7 _ = G2
          have s7 := Same.of_eq e7 nt7
          replace e7 := new_at e7
          refine ⟨_, rfl, _, _, dp_ti (ti3 e7), dp_tl (SqL.of (s7 _ _ (s6 _ _ hf))) (tf.mono (s6.trans s7).tk), shaped_dI [p.1, p.2, r.2], shaped_dIs _, _, rfl, ?_⟩
          rw [any_dI]
          refine iteDn (fun c3 => ?_) fun c3 => ?_
          · have hf2 := s7 _ _ (s6 _ _ hf)
            refine ⟨_, rfl, .inl ⟨rfl, _, SqL.of hf2⟩, _, rfl, _, rfl, _, rfl, sz3, ?_⟩
            refine fun t8 nt8 => ?_
            generalize e8 : upd _ t8 _ = G3
            have s8 := Same.of_eq e8 nt8
            replace e8 := new_at e8
            have hf3 := s8 _ _ hf2
            refine ⟨fl, _, _, rfl, rfl, hf3, lin' ly, ?_⟩
            have tkf : TK G3 (upd G3 fl (.lst (ys ++ [V.ref t8]))) := TK.upd fun zs z => by rw [hf3] at z; cases z
            refine ⟨_, _, _, rfl, (((s0.trans s6).trans s7).trans s8).mut nfl, upd_same, ?_⟩
            rw [take_snoc hr, rowOf_snoc, if_pos ⟨c1, c2, c3⟩]
            exact paired_app (tf.mono (((s6.tk.trans s7.tk).trans s8.tk).trans tkf)) (.cons (TI.mono tkf (ti3 e8)) .nil)
          · exact no _ (s6.trans s7) fun c => c.2.2 c3
        · exact no _ s6 fun c => c.2.1 c2
      · exact no _ (Same.refl _) fun c => c1 c.1
    · rintro σ G ⟨o4, o5, ys, rfl, s0, hf, tf⟩
      refine ⟨_, _, _, _, ys, rfl, s0, hf, ?_⟩
      rw [lx, List.take_length] at tf
      rw [take_snoc hp, allOf_snoc]
      exact tf
  · rintro σ G ⟨o2, o3, o4, o5, ys, rfl, s0, hf, tf⟩
    rw [lx, List.take_length] at tf
    obtain ⟨a1, a2, a3⟩ := allOf_ok ps ps
    refine ⟨_, rfl, fl, _, _, rfl, SqL.of hf, tf, fun ns hn => ?_, fun zs ms r tz pm pw nr => ?_⟩
    · obtain ⟨_, _, _, rfl, _⟩ := (a2 ns).mp hn
      exact fun z => nomatch z
    · generalize e4 : upd _ r _ = G3
      have s4 := Same.of_eq e4 nr
      replace e4 := new_at e4
      refine q ms r G3 zs ⟨rising_sorted pm pw a1, fun t => (pm.mem_iff).trans (a2 t)⟩ (by rw [pm.length_eq]; exact bound ps hl) (s0.free nr) (s0.trans s4) e4 (tz.mono s4.tk)
end Ar
namespace Ar
open PySem PySem.Spec L2
local macro_rules | `(tactic| walk_at "g1") => `(tactic| first
  | refine ⟨_, rfl, ?_⟩
  | refine ⟨_, _, rfl, rfl, ?_⟩
  | refine ⟨(by show (0 : Int) < _; decide), ?_⟩
  | refine ⟨⟨by decide, by decide⟩, ?_⟩
  | refine ⟨(show CMul _ _ from .inl ⟨by omega, by omega⟩), ?_⟩
  | refine ⟨(show CMul _ _ from .inr ⟨by omega, by omega⟩), ?_⟩
  | refine ⟨(show (_ : Int) ≠ 0 by decide), ?_⟩
  | refine ⟨sz2, ?_⟩
  | refine ⟨sz0, ?_⟩
  | refine ⟨sz3, ?_⟩)
local macro_rules | `(tactic| walk_at "ty") => `(tactic| first | exact .int _ | exact .bl _ | exact .tup (by assumption) | exact .lst (by assumption))
local macro_rules | `(tactic| walk_at "isT") => `(tactic| refine ⟨_, _, _, _, true, rfl, .ty _, .base (by walk_at "ty"), kit_ty (by decide +kernel), ?_⟩)
local macro_rules | `(tactic| walk_at "isF") => `(tactic| refine ⟨_, _, _, _, false, rfl, .ty _, .base (by walk_at "ty"), kit_ty (by decide +kernel), ?_⟩)
local macro_rules | `(tactic| walk_at "cell") => `(tactic| ((repeat walk_at "g1"); refine ⟨_, _, _, rfl, (by assumption), (by assumption), (by first | decide | omega), ?_⟩; repeat walk_at "g1"))
local macro_rules | `(tactic| walk_at "go") => `(tactic| repeat walk_at "g1")
def t_law_k07 (K : PySem.W.Frag) : TS :=
  (tSeq (tAsg (tOp oMod (tCall (sp_cell_at K) [] E0 (tCons (tVar 0) (tCons (tC (.int 0)) tNil))) (tC (.int 13))) (gName 1)) (tSeq (tAsg (tC (.int 1)) (gName 2)) (Evl.tCut (tIfS (tTest (tOp rEq (tOp oMod (tCall (sp_cell_at K) [] E0 (tCons (tVar 0) (tCons (tC (.int 1)) tNil))) (tC (.int 3))) (tC (.int 1)))) (tAsg (tOp oAdd (tC (.int 1)) (tOp oModN (tOp oDiv (tCall (sp_cell_at K) [] E0 (tCons (tVar 0) (tCons (tC (.int 1)) tNil))) (tC (.int 3))) (tOp oPow (tC (.int 10)) (tC (.int 20))))) (gName 2)) tNext) (tSeq (tAsg (tOp oMul (tOp oMod (tCall (sp_cell_at K) [] E0 (tCons (tVar 0) (tCons (tC (.int 1)) tNil))) (tC (.int 2))) (tC (.int 3))) (gName 3)) (tSeq (tAsg (tLst tNil) (gName 4)) (tSeq (tFor (iRng1 (tCons (tVar 1) tNil)) (gName 5) (tSeq (tAsg (tOp oMod (tOp oMul (tOp oAdd (tCall (sp_cell_at K) [] E0 (tCons (tVar 0) (tCons (tOp oAdd (tC (.int 2)) (tVar 5)) tNil))) (tOp oMul (tC (.int 13)) (tVar 5))) (tC (.int 48271))) (tC (.int 10007))) (gName 6)) (tDrop (tBM K "list" rAppend (tVar 4) (tCons (tTup (tCons (tOp oMul (tOp oSub (tOp oMod (tVar 6) (tC (.int 7))) (tVar 3)) (tVar 2)) (tCons (tOp oMul (tOp oSub (tOp oMod (tOp oDiv (tVar 6) (tC (.int 7))) (tC (.int 7))) (tVar 3)) (tVar 2)) tNil))) tNil))))) (tSeq (tAsg (tCB (cList K) (tCons (tVar 4) tNil)) (gName 7)) (tSeq (tAsg (tCall (sp_due_k07 K) [] E0 (tCons (tVar 4) tNil)) (gName 8)) (tSeq (tAsg (tCall (sp_gaps K) [] E0 (tCons (tVar 7) tNil)) (gName 9)) (tSeq (tIfS (tOr (tNot (tB (tCall (sp_listed K) [] E0 (tCons (tVar 9) (tCons (tVar 8) tNil))))) (tTest (tOp (rNeD K) (tVar 7) (tVar 4)))) (tRet (tC (.bl false))) tNext) (tSeq (tAsg (tCB (cList K) (tCons (tVar 9) tNil)) (gName 10)) (tSeq (tAsg (tOp rCat (tSlStep K (tVar 4) 2) (tLst (tCons (tTup (tCons (tC (.int 8)) (tCons (tC (.int 9)) tNil))) (tCons (tTup (tCons (tC (.int 9)) (tCons (tC (.int 8)) tNil))) tNil)))) (gName 11)) (tSeq (tIfS (tOr (tNot (tB (tCall (sp_listed K) [] E0 (tCons (tCall (sp_gaps K) [] E0 (tCons (tCB (cList K) (tCons (tVar 11) tNil)) tNil)) (tCons (tCall (sp_due_k07 K) [] E0 (tCons (tVar 11) tNil)) tNil))))) (tTest (tOp (rNeD K) (tVar 9) (tVar 10)))) (tRet (tC (.bl false))) tNext) (tSeq (tDrop (tBM K "list" rAppend (tVar 9) (tCons (tTup (tCons (tC (.int 0)) (tCons (tC (.int 0)) (tCons (tC (.int 0)) tNil)))) tNil))) (tRet (tAndV (tCall (sp_listed K) [] E0 (tCons (tCall (sp_gaps K) [] E0 (tCons (tVar 7) tNil)) (tCons (tVar 8) tNil))) (tOp (rEqD K) (tVar 7) (tVar 4))))))))))))))))))
variable {K : PySem.W.Frag} {vs : List V} {H : Hp} {Q : VK} {E : XK}
theorem dd_ints {H : Hp} : ∀ ns : List Int, Paired (DD H 0) (ns.map V.int) (ns.map PyData.int)
  | [] => .nil
  | n :: ns => .cons ⟨n, rfl, rfl⟩ (dd_ints ns)
theorem dd_ti {H : Hp} {v : V} {ns : List Int} (h : TI H v ns) (hl : ns.length ≤ 100000) : DD H 1 v (dI ns) := by
  obtain ⟨t, rfl, ht⟩ := h
  exact .inr ⟨t, _, _, rfl, rfl, ht, by rw [List.length_map]; exact hl, dd_ints ns⟩
theorem ld_tl {H : Hp} {a : Addr} {xs : List V} {nss : List (List Int)} (h : H a = some (.lst xs)) (t : TL H xs nss) (hl : nss.length ≤ 100000) (hn : ∀ ns ∈ nss, ns.length ≤ 100000) : LD H 1 (.ref a) (nss.map dI) := by
  refine ⟨a, xs, rfl, h, by rw [paired_len t]; exact hl, ?_⟩
  clear h hl
  induction t with
  | nil => exact .nil
  | cons h t ih => exact .cons (dd_ti h (hn _ List.mem_cons_self)) (ih fun ns hm => hn ns (List.mem_cons_of_mem _ hm))
theorem gaps_small {ps : List (Int × Int)} {ts : List (List Int)} (g : GapsOf ps ts) : ∀ t ∈ ts, t.length ≤ 100000 := fun t ht => by
  obtain ⟨a, b, c, rfl, _⟩ := (g.2 t).mp ht
  show 3 ≤ 100000
  decide
/-- a rising row of gaps of few pairs is short -/
theorem gaps_few {ps : List (Int × Int)} {ts : List (List Int)} (g : GapsOf ps ts) : ts.length ≤ ps.length * ps.length := by
  obtain ⟨h1, h2, h3⟩ := allOf_ok ps ps
  have p : ts.Perm (allOf ps ps) := (List.perm_ext_iff_of_nodup (Rising.nodup g.1) h1).mpr fun t => (g.2 t).trans (h2 t).symm
  rw [p.length_eq]
  exact h3
theorem tlp_sub {H : Hp} : ∀ {xs : List V} {ps : List (Int × Int)} {ys : List V}, TL H xs (ps.map p2) → ys.Sublist xs → ∃ qs : List (Int × Int), qs.Sublist ps ∧ TL H ys (qs.map p2)
  | _, [], _, .nil, h => by
    cases h
    exact ⟨[], .slnil, .nil⟩
  | _, p :: ps, _, .cons r t, h => by
    cases h with
    | cons _ h =>
      obtain ⟨qs, h1, h2⟩ := tlp_sub t h
      exact ⟨qs, h1.cons _, h2⟩
    | cons_cons _ h =>
      obtain ⟨qs, h1, h2⟩ := tlp_sub t h
      exact ⟨p :: qs, h1.cons_cons _, .cons r h2⟩
theorem len_law_k07 (h : sp_law_k07 K vs H Q E) : vs.length = 1 := by
  obtain ⟨a, ns, rfl, _⟩ := h
  rfl
theorem eqv_same_tl (nss : List (List Int)) : PyData.eqv (.list (nss.map dI)) (.list (nss.map dI)) = true := by
  rw [eqv_lI]
  exact decide_eq_true rfl
theorem pure_law_k07 (h : sp_law_k07 K vs H Q E) : t_law_k07 K (ends Q) (st 12 vs) H := by
  obtain ⟨a, ns, rfl, hs, hl, q⟩ := h
  walk_at "cell"
  dsimp only
  generalize em : ns.getD (Int.toNat 0) 0 % 13 = m
  have m0 : 0 ≤ m ∧ m ≤ 12 := by omega
  -- far
  refine ⟨fun σ G => G = H ∧ ∃ far : Int, σ = [some (.ref a), some (.int m), some (.int far), none, none, none, none, none, none, none, none, none], ?_, ?_⟩
  · walk_at "cell"
    refine ⟨rfl, _, rfl, iteE (fun _ => ?_) fun _ => ?_⟩
    · walk_at "cell"
      exact ⟨rfl, _, rfl⟩
    · exact ⟨rfl, _, rfl⟩
  rintro σ G ⟨rfl, far, rfl⟩
  walk_at "cell"
  dsimp only
  generalize el : ns.getD (Int.toNat 1) 0 % 2 * 3 = low
  have l0 : 0 ≤ low ∧ low ≤ 3 := by omega
  refine fun al nal => ?_
  generalize e1 : upd _ al _ = H1
  have s1 := Same.of_eq e1 nal
  replace e1 := new_at e1
  refine ⟨_, rfl, _, rfl, by omega, by omega, for_range (lo := 0) (n := m.toNat) (fun i σ G' => ∃ (o5 o6 : Option V) (ys : List V) (ps : List (Int × Int)), σ = [some (.ref a), some (.int m), some (.int far), some (.int low), some (.ref al), o5, o6, none, none, none, none, none] ∧ Same G G' ∧ G' al = some (.lst ys) ∧ TL G' ys (ps.map p2) ∧ ps.length = i)
    ⟨_, _, [], [], rfl, s1, e1, .nil, rfl⟩ ?_ ?_⟩
  · rintro i σ G' hi ⟨o5, o6, ys, ps, rfl, s2, hf, tf, hp⟩
    have hs2 := s2.seq hs
    walk_at "cell"
    dsimp only
    generalize ec : (ns.getD (Int.toNat (2 + (0 + (i : Int)))) 0 + 13 * (0 + (i : Int))) * 48271 % 10007 = c
    have c0 : 0 ≤ c ∧ c < 10007 := by omega
    refine ⟨.inl ⟨rfl, _, SqL.of hf⟩, ?_⟩
    walk_at "go"
    refine fun t1 nt1 => ?_
    generalize e3 : upd _ t1 _ = G2
    have s3 := Same.of_eq e3 nt1
    replace e3 := new_at e3
    have hf2 := s3 _ _ hf
    have ly : ys.length = i := by rw [paired_len tf, List.length_map, hp]
    refine ⟨al, _, _, rfl, rfl, hf2, lin' (by omega), ?_⟩
    have tkf : TK G2 (upd G2 al (.lst (ys ++ [V.ref t1]))) := TK.upd fun zs z => by rw [hf2] at z; cases z
    refine ⟨_, _, _, ps ++ [((c % 7 - low) * far, (c / 7 % 7 - low) * far)], rfl, (s2.trans s3).mut nal, upd_same, ?_, by simp [hp]⟩
    rw [List.map_append]
    exact paired_app (tf.mono (s3.tk.trans tkf)) (.cons (TI.mono tkf (ti2 e3)) .nil)
  · rintro σ G' ⟨o5, o6, ys, ps, rfl, s2, hf, tf, hp⟩
    have lp : ps.length ≤ 12 := by omega
    -- handed
    refine ⟨_, rfl, _, _, rfl, .inl (SqL.of hf), ?_⟩
    refine fun hd nhd => ?_
    generalize e3 : upd _ hd _ = G2
    have s3 := Same.of_eq e3 nhd
    replace e3 := new_at e3
    -- due
    have hf2 := s3 _ _ hf
    have tf2 := tf.mono s3.tk
    refine ⟨_, rfl, al, ys, ps, rfl, SqL.of hf2, tf2, by omega, fun ts du G3 zs gt _ ndu s4 e4 tz => ?_⟩
    -- told
    have hd3 := s4 _ _ e3
    have hf3 := s4 _ _ hf2
    have tf3 := tf2.mono s4.tk
    refine ⟨_, rfl, hd, ys, ps, rfl, SqL.of hd3, tf3, by omega, fun ts' tl G4 zs' gt' _ ntl s5 e5 tz' => ?_⟩
    have et := gt.same gt'
    subst et
    have lt : ts.length ≤ 100000 := by
      have := gaps_few gt
      have h2 : ps.length * ps.length ≤ 12 * 12 := Nat.mul_le_mul lp lp
      omega
    have sm := gaps_small gt
    have du4 := s5 _ _ e4
    have tz4 := tz.mono s5.tk
    refine ⟨_, rfl, _, rfl, _, _, _, rfl, ld_tl e5 tz' lt sm, ld_tl du4 tz4 lt sm, fun G5 s6 => ?_⟩
    walk_at "go"
    have hf5 := s6 _ _ (s5 _ _ hf3)
    have hd5 := s6 _ _ (s5 _ _ hd3)
    have du5 := s6 _ _ du4
    have tl5 := s6 _ _ e5
    have tf5 := tf3.mono (s5.trans s6).tk
    have tz5 := tz4.mono s6.tk
    have tz5' := tz'.mono s6.tk
    have n1 : al ≠ tl := ne_of_none hf3 ntl
    have n2 : hd ≠ tl := ne_of_none hd3 ntl
    have n3 : du ≠ tl := ne_of_none e4 ntl
    refine ⟨_, _, dp_tl (SqL.of hd5) tf5, dp_tl (SqL.of hf5) tf5, shaped_dIs _, shaped_dIs _, _, rfl, ?_⟩
    rw [eqv_same_tl]
    walk_at "go"
    -- held
    refine ⟨_, _, rfl, .inl (SqL.of tl5), ?_⟩
    refine fun he nhe => ?_
    generalize e7 : upd _ he _ = G6
    have s7 := Same.of_eq e7 nhe
    replace e7 := new_at e7
    -- other
    refine ⟨_, rfl, _, _, rfl, SqL.of (s7 _ _ hf5), fun sp zs2 nsp hsub => ?_⟩
    generalize e8 : upd _ sp _ = G7
    have s8 := Same.of_eq e8 nsp
    replace e8 := new_at e8
    obtain ⟨ps', hps, tp⟩ := tlp_sub (tf5.mono (s7.trans s8).tk) hsub
    walk_at "go"
    refine fun t8 nt8 => ?_
    generalize e9 : upd _ t8 _ = G8
    have s9 := Same.of_eq e9 nt8
    replace e9 := new_at e9
    walk_at "go"
    refine fun t9 nt9 => ?_
    generalize e10 : upd _ t9 _ = G9
    have s10 := Same.of_eq e10 nt9
    replace e10 := new_at e10
    walk_at "go"
    refine fun l2 nl2 => ?_
    generalize e11 : upd _ l2 _ = G10
    have s11 := Same.of_eq e11 nl2
    replace e11 := new_at e11
    refine ⟨_, _, _, _, rfl, rfl, s11 _ _ (s10 _ _ (s9 _ _ e8)), e11, ?_, ?_⟩
    · have h1 := hsub.length_le
      have h2 : ys.length = ps.length := by rw [paired_len tf]; simp
      exact lin (by show zs2.length + 2 ≤ _; omega)
    refine fun ot not => ?_
    generalize e12 : upd _ ot _ = G11
    have s12 := Same.of_eq e12 not
    replace e12 := new_at e12
    have s812 := ((s9.trans s10).trans s11).trans s12
    have tp2 : TL G11 (zs2 ++ [V.ref t8, V.ref t9]) ((ps' ++ [(8, 9), (9, 8)]).map p2) := by
      rw [List.map_append]
      exact paired_app (tp.mono s812.tk) (.cons (ti2 (s12 _ _ (s11 _ _ (s10 _ _ e9)))) (.cons (ti2 (s12 _ _ (s11 _ _ e10))) .nil))
    have lp2 : (ps' ++ [((8 : Int), (9 : Int)), (9, 8)]).length ≤ 14 := by
      have := hps.length_le
      rw [List.length_append]
      show ps'.length + 2 ≤ _
      omega
    -- listed(gaps(list(other)), due(other))
    refine ⟨_, rfl, _, _, rfl, .inl (SqL.of e12), ?_⟩
    refine fun oc noc => ?_
    generalize e13 : upd _ oc _ = G12
    have s13 := Same.of_eq e13 noc
    replace e13 := new_at e13
    refine ⟨oc, _, _, rfl, SqL.of e13, tp2.mono s13.tk, by omega, fun us g1 G13 us1 gu _ ng1 s14 e14 tu => ?_⟩
    refine ⟨_, rfl, ot, _, _, rfl, SqL.of (s14 _ _ (s13 _ _ e12)), tp2.mono (s13.trans s14).tk, by omega, fun us' g2 G14 us2 gu' _ ng2 s15 e15 tu' => ?_⟩
    have eu := gu.same gu'
    subst eu
    have lu : us.length ≤ 100000 := by
      have := gaps_few gu
      have h2 : (ps' ++ [((8 : Int), (9 : Int)), (9, 8)]).length * (ps' ++ [((8 : Int), (9 : Int)), (9, 8)]).length ≤ 14 * 14 := Nat.mul_le_mul lp2 lp2
      omega
    have su := gaps_small gu
    refine ⟨_, _, _, rfl, ld_tl (s15 _ _ e14) (tu.mono s15.tk) lu su, ld_tl e15 tu' lu su, fun G15 s16 => ?_⟩
    walk_at "go"
    -- told != held
    have sA : Same G5 G15 := ((((((s7.trans s8).trans s812).trans s13).trans s14).trans s15).trans s16)
    have tl15 := sA _ _ tl5
    have he15 : G15 he = some (.lst zs') := s16 _ _ (s15 _ _ (s14 _ _ (s13 _ _ (s812 _ _ (s8 _ _ e7)))))
    have tz15 := tz5'.mono sA.tk
    refine ⟨_, _, dp_tl (SqL.of tl15) tz15, dp_tl (SqL.of he15) tz15, shaped_dIs _, shaped_dIs _, _, rfl, ?_⟩
    rw [eqv_same_tl]
    walk_at "go"
    -- told.append((0, 0, 0))
    refine ⟨.inl ⟨rfl, _, SqL.of tl15⟩, sz3, ?_⟩
    refine fun tn ntn => ?_
    generalize e17 : upd _ tn _ = G16
    have s17 := Same.of_eq e17 ntn
    replace e17 := new_at e17
    have lz : zs'.length ≤ 100000 := by rw [paired_len tz']; exact lt
    refine ⟨tl, _, _, rfl, rfl, s17 _ _ tl15, lin' (by omega), ?_⟩
    have tkl : TK G16 (upd G16 tl (.lst (zs' ++ [V.ref tn]))) := TK.upd fun zs z => by rw [s17 _ _ tl15] at z; cases z
    have tkA := ((s6.trans sA).trans s17).tk.trans tkl
    generalize eL : upd G16 tl (.lst (zs' ++ [V.ref tn])) = G17 at tkl tkA ⊢
    have hd17 : G17 hd = some (.lst ys) := by rw [← eL, upd_ne n2]; exact s17 _ _ (sA _ _ hd5)
    have al17 : G17 al = some (.lst ys) := by rw [← eL, upd_ne n1]; exact s17 _ _ (sA _ _ hf5)
    have du17 : G17 du = some (.lst zs) := by rw [← eL, upd_ne n3]; exact s17 _ _ (sA _ _ du5)
    have tf17 : TL G17 ys (ps.map p2) := tf3.mono (s5.tk.trans tkA)
    have tz17 : TL G17 zs ts := tz4.mono tkA
    refine ⟨_, rfl, hd, ys, ps, rfl, SqL.of hd17, tf17, by omega, fun ts' g3 G18 ws gw _ ng3 s18 e18 tw => ?_⟩
    have et := gt.same gw
    subst et
    refine ⟨_, rfl, _, _, _, rfl, ld_tl e18 tw lt sm, ld_tl (s18 _ _ du17) (tz17.mono s18.tk) lt sm, fun G19 s19 => ?_⟩
    walk_at "go"
    have s1819 := s18.trans s19
    refine ⟨_, _, dp_tl (SqL.of (s1819 _ _ hd17)) (tf17.mono s1819.tk), dp_tl (SqL.of (s1819 _ _ al17)) (tf17.mono s1819.tk), shaped_dIs _, shaped_dIs _, ?_⟩
    rw [eqv_same_tl]
    exact q _
end Ar
namespace Lk07
open PySem PySem.Spec L2 Ar
def top (i : Nat) : Stmt := PySem.Challenge.pw_arrowties_k07_gaps.main.body.getD i (.Pass ⟨0, 0, 0, 0⟩)
def dG (n : Str) (i : Nat) : He.DefD := ⟨(n, none), n, n, defArgs (top i), defBody (top i), defScope (top i), [], []⟩
def dM (c n q : Str) (i j : Nat) : He.DefD := ⟨(c, some n), n, q, defArgs (inClass (top i) j), defBody (inClass (top i) j), defScope (inClass (top i) j), [], []⟩
def fnl : List He.DefD := [dG "gaps" 1, dG "_law_cell_at" 3, dG "_law_whole" 4, dG "_law_alike" 5, dG "_law_listed" 6, dG "_law_due" 7, dG "law" 8]
def fal : List He.Fa := [.glo "gaps", .glo "_law_cell_at", .glo "_law_whole", .glo "_law_alike", .glo "_law_listed", .glo "_law_due", .glo "law", .free "bool", .free "int", .free "isinstance", .free "len", .free "list", .free "range", .free "sorted", .free "tuple"]
abbrev RR : PySem.W.OpenRow := PySem.W.OpenLaw.row PySem.Challenge.rw_arrowties_k07_gaps
def ex (K : PySem.W.Frag) : Bool := true
abbrev hk : PySem.W.Hook := He.hookX 5 fal fnl [] [] ex
def ob (s : PySem.W.SharedT) : He.AlX := He.obsX 5 fal fnl [] [] ex (HandSHeadRun.getT s)
theorem ob_eq (s : PySem.W.SharedT) : ob s = hk.obs s.abs := He.obsX_eq (HandSHeadRun.getT_eq s)
def loose0 : List Str := ["__name__", "gaps", "_law_cell_at", "_law_whole", "_law_alike", "_law_listed", "_law_due"]
def loose : List Str := loose0
theorem run (w : World) : HandSHeadRun.RunEq RR (PySem.W.view RR.prog [8]) hk ob 6000 loose w := by
  intro os
  kernel_rfl
structure Txt (K : PySem.W.Frag) (mg : Str → Option Value) : Prop where
  at_ : ∃ h : Heap, K.In h ∧ h.Ns mainGlobals mg
  c : He.SaysD fal fnl K
  ex : ex K = true
section
variable {K : PySem.W.Frag} {mg : Str → Option Value}
theorem Txt.glo (T : Txt K mg) {x : Str} (i : Nat) (h : fal[i]? = some (.glo x)) : mg x = some (.ref (He.ga K x)) := by
  obtain ⟨hp, k, g⟩ := T.at_
  exact He.glo_ok k g (T.c.fact i h)
theorem Txt.fre (T : Txt K mg) {x : Str} (i : Nat) (h : fal[i]? = some (.free x)) : mg x = none := by
  obtain ⟨hp, k, g⟩ := T.at_
  exact He.free_ok k g (T.c.fact i h)
theorem Txt.df (T : Txt K mg) (i : Nat) {d : He.DefD} (h : fnl[i]? = some d) : FunD K d.name d.qual d.params d.body d.scope (d.dvs K) (d.kws K) (He.fAd K d.at_) (fdOf K d.at_) := funD_at (T.c.def_ i h)
theorem Txt.b_bool (T : Txt K mg) : mg "bool" = none := T.fre 7 rfl
theorem Txt.b_int (T : Txt K mg) : mg "int" = none := T.fre 8 rfl
theorem Txt.b_isinstance (T : Txt K mg) : mg "isinstance" = none := T.fre 9 rfl
theorem Txt.b_len (T : Txt K mg) : mg "len" = none := T.fre 10 rfl
theorem Txt.b_list (T : Txt K mg) : mg "list" = none := T.fre 11 rfl
theorem Txt.b_range (T : Txt K mg) : mg "range" = none := T.fre 12 rfl
theorem Txt.b_sorted (T : Txt K mg) : mg "sorted" = none := T.fre 13 rfl
theorem Txt.b_tuple (T : Txt K mg) : mg "tuple" = none := T.fre 14 rfl
theorem Txt.g_gaps (T : Txt K mg) : mg "gaps" = some (.ref (He.ga K "gaps")) := T.glo 0 rfl
theorem Txt.F_gaps (T : Txt K mg) : FunD K "gaps" "gaps" (defArgs (top 1)) (defBody (top 1)) (defScope (top 1)) [] [] (He.ga K "gaps") (fdOf K ("gaps", none)) := T.df 0 (d := dG "gaps" 1) rfl
theorem Txt.k_gaps (T : Txt K mg) : PySem.W.keepIn K (.ref (He.ga K "gaps")) = true := T.F_gaps.kp
theorem Txt.b_gaps (T : Txt K mg) : Binds K (fdOf K ("gaps", none)) ["arrows"] [] := T.F_gaps.bindsN fun _ _ _ _ _ _ us hl => match us, hl with | [_], _ => rfl
theorem Txt.g_cell_at (T : Txt K mg) : mg "_law_cell_at" = some (.ref (He.ga K "_law_cell_at")) := T.glo 1 rfl
theorem Txt.F_cell_at (T : Txt K mg) : FunD K "_law_cell_at" "_law_cell_at" (defArgs (top 3)) (defBody (top 3)) (defScope (top 3)) [] [] (He.ga K "_law_cell_at") (fdOf K ("_law_cell_at", none)) := T.df 1 (d := dG "_law_cell_at" 3) rfl
theorem Txt.k_cell_at (T : Txt K mg) : PySem.W.keepIn K (.ref (He.ga K "_law_cell_at")) = true := T.F_cell_at.kp
theorem Txt.b_cell_at (T : Txt K mg) : Binds K (fdOf K ("_law_cell_at", none)) ["_law_script", "_law_k"] [] := T.F_cell_at.bindsN fun _ _ _ _ _ _ us hl => match us, hl with | [_, _], _ => rfl
theorem Txt.g_whole (T : Txt K mg) : mg "_law_whole" = some (.ref (He.ga K "_law_whole")) := T.glo 2 rfl
theorem Txt.F_whole (T : Txt K mg) : FunD K "_law_whole" "_law_whole" (defArgs (top 4)) (defBody (top 4)) (defScope (top 4)) [] [] (He.ga K "_law_whole") (fdOf K ("_law_whole", none)) := T.df 2 (d := dG "_law_whole" 4) rfl
theorem Txt.k_whole (T : Txt K mg) : PySem.W.keepIn K (.ref (He.ga K "_law_whole")) = true := T.F_whole.kp
theorem Txt.b_whole (T : Txt K mg) : Binds K (fdOf K ("_law_whole", none)) ["_law_told"] [] := T.F_whole.bindsN fun _ _ _ _ _ _ us hl => match us, hl with | [_], _ => rfl
theorem Txt.g_alike (T : Txt K mg) : mg "_law_alike" = some (.ref (He.ga K "_law_alike")) := T.glo 3 rfl
theorem Txt.F_alike (T : Txt K mg) : FunD K "_law_alike" "_law_alike" (defArgs (top 5)) (defBody (top 5)) (defScope (top 5)) [] [] (He.ga K "_law_alike") (fdOf K ("_law_alike", none)) := T.df 3 (d := dG "_law_alike" 5) rfl
theorem Txt.k_alike (T : Txt K mg) : PySem.W.keepIn K (.ref (He.ga K "_law_alike")) = true := T.F_alike.kp
theorem Txt.b_alike (T : Txt K mg) : Binds K (fdOf K ("_law_alike", none)) ["_law_told", "_law_due_here"] [] := T.F_alike.bindsN fun _ _ _ _ _ _ us hl => match us, hl with | [_, _], _ => rfl
theorem Txt.g_listed (T : Txt K mg) : mg "_law_listed" = some (.ref (He.ga K "_law_listed")) := T.glo 4 rfl
theorem Txt.F_listed (T : Txt K mg) : FunD K "_law_listed" "_law_listed" (defArgs (top 6)) (defBody (top 6)) (defScope (top 6)) [] [] (He.ga K "_law_listed") (fdOf K ("_law_listed", none)) := T.df 4 (d := dG "_law_listed" 6) rfl
theorem Txt.k_listed (T : Txt K mg) : PySem.W.keepIn K (.ref (He.ga K "_law_listed")) = true := T.F_listed.kp
theorem Txt.b_listed (T : Txt K mg) : Binds K (fdOf K ("_law_listed", none)) ["_law_told", "_law_due_here"] [] := T.F_listed.bindsN fun _ _ _ _ _ _ us hl => match us, hl with | [_, _], _ => rfl
theorem Txt.g_due (T : Txt K mg) : mg "_law_due" = some (.ref (He.ga K "_law_due")) := T.glo 5 rfl
theorem Txt.F_due (T : Txt K mg) : FunD K "_law_due" "_law_due" (defArgs (top 7)) (defBody (top 7)) (defScope (top 7)) [] [] (He.ga K "_law_due") (fdOf K ("_law_due", none)) := T.df 5 (d := dG "_law_due" 7) rfl
theorem Txt.k_due (T : Txt K mg) : PySem.W.keepIn K (.ref (He.ga K "_law_due")) = true := T.F_due.kp
theorem Txt.b_due (T : Txt K mg) : Binds K (fdOf K ("_law_due", none)) ["_law_arrows"] [] := T.F_due.bindsN fun _ _ _ _ _ _ us hl => match us, hl with | [_], _ => rfl
theorem Txt.g_law (T : Txt K mg) : mg "law" = some (.ref (He.ga K "law")) := T.glo 6 rfl
theorem Txt.F_law (T : Txt K mg) : FunD K "law" "law" (defArgs (top 8)) (defBody (top 8)) (defScope (top 8)) [] [] (He.ga K "law") (fdOf K ("law", none)) := T.df 6 (d := dG "law" 8) rfl
theorem Txt.k_law (T : Txt K mg) : PySem.W.keepIn K (.ref (He.ga K "law")) = true := T.F_law.kp
theorem Txt.b_law (T : Txt K mg) : Binds K (fdOf K ("law", none)) ["_law_script"] [] := T.F_law.bindsN fun _ _ _ _ _ _ us hl => match us, hl with | [_], _ => rfl
end
section
variable {P : Program} {w : World} {K : PySem.W.Frag} {mg : Str → Option Value} {base : Heap}
def N_gaps : List Str := ["arrows", "have", "behind", "one", "other", "found", "last"]
theorem sc_gaps : FnScope N_gaps ["arrows"] (defScope (top 1)) := ⟨rfl, rfl, rfl, by decide +kernel, rfl, by decide +kernel, by decide +kernel⟩
theorem ok_gaps (T : Txt K mg) : FnOk P w K mg base CX0 1 (He.ga K "gaps") (fdOf K ("gaps", none)) ["arrows"] (sp_gaps K) := by
  refine T.F_gaps.ok sc_gaps (fun vs H Q E h => len_gaps h) (fun cdv A outer s H vs Q E hr h => ⟨t_gaps K, PSs.nox ?_, pure_gaps  h⟩)
  have hu := hu_of hr
  have hu65 := hu65_of hr
  have hu66 := hu66_of hr
  exact (pss_cons (ps_set (i := 1) sc_gaps.nd rfl (by first | exact Or.inl rfl | exact Or.inr rfl) pe_dnewT)
    (pss_cons (ps_set (i := 2) sc_gaps.nd rfl (by first | exact Or.inl rfl | exact Or.inr rfl) pe_dnewK)
    (pss_cons (ps_for PassesOwn.never rfl (pi_list (pv 0)) (pg_tup (by rfl) (pgs_cons (pg_name (i := 3) sc_gaps.nd rfl (by first | exact Or.inl rfl | exact Or.inr rfl)) (pgs_cons (pg_name (i := 4) sc_gaps.nd rfl (by first | exact Or.inl rfl | exact Or.inr rfl)) pgs_nil))) (pss_cons (ps_if (pt_cmp (pc_dnotin hu (pe_tup (pa_cons (pv 3) (pa_cons (pv 4) pa_nil))) (pv 1))) (pss_one (ps_expr (pe_bm PySem.F.plainAttrs_list PySem.F.slot_list_append PySem.F.type_list_append mt_append (pe_dsetd (pv 2) (pv 3) (pe_lst pa_nil) m2) (pa_cons (pv 4) pa_nil)))) pss_nil)
    (pss_one (ps_dput hu (pv 1) (pe_tup (pa_cons (pv 3) (pa_cons (pv 4) pa_nil))) pe_bl rfl))))
    (pss_cons (ps_set (i := 5) sc_gaps.nd rfl (by first | exact Or.inl rfl | exact Or.inr rfl) (pe_lst pa_nil))
    (pss_cons (ps_for PassesOwn.never rfl (pi_list (pe_callTy (call_list_dT rfl) (by rfl) T.b_list (by decide +kernel) (pa_cons (pv 1) pa_nil))) (pg_tup (by rfl) (pgs_cons (pg_name (i := 3) sc_gaps.nd rfl (by first | exact Or.inl rfl | exact Or.inr rfl)) (pgs_cons (pg_name (i := 4) sc_gaps.nd rfl (by first | exact Or.inl rfl | exact Or.inr rfl)) pgs_nil))) (pss_one (ps_for PassesOwn.never rfl (pi_list (pe_dget2 hu (pv 2) (pv 4) (pe_lst pa_nil) m2)) (pg_name (i := 6) sc_gaps.nd rfl (by first | exact Or.inl rfl | exact Or.inr rfl)) (pss_one (ps_if (pt_cmp (pc_dnotin hu (pe_tup (pa_cons (pv 3) (pa_cons (pv 6) pa_nil))) (pv 1))) (pss_one (ps_expr (pe_bm PySem.F.plainAttrs_list PySem.F.slot_list_append PySem.F.type_list_append mt_append (pv 5) (pa_cons (pe_tup (pa_cons (pv 3) (pa_cons (pv 4) (pa_cons (pv 6) pa_nil)))) pa_nil)))) pss_nil)))))
    (pss_one (ps_ret (pe_callB (cr_sortD hu66) (by rfl) T.b_sorted (by decide +kernel) (pa_cons (pv 5) pa_nil)))))))))
def N_cell_at : List Str := ["_law_script", "_law_k"]
theorem sc_cell_at : FnScope N_cell_at ["_law_script", "_law_k"] (defScope (top 3)) := ⟨rfl, rfl, rfl, by decide +kernel, rfl, by decide +kernel, by decide +kernel⟩
theorem ok_cell_at (T : Txt K mg) : FnOk P w K mg base CX0 1 (He.ga K "_law_cell_at") (fdOf K ("_law_cell_at", none)) ["_law_script", "_law_k"] (sp_cell_at K) := by
  refine T.F_cell_at.ok sc_cell_at (fun vs H Q E h => len_cell_at h) (fun cdv A outer s H vs Q E hr h => ⟨t_cell_at K, PSs.nox ?_, pure_cell_at  h⟩)
  have hu := hu_of hr
  have hu65 := hu65_of hr
  have hu66 := hu66_of hr
  exact (pss_cons (ps_if (pt_cmpR op_lt (pv 1) (pe_callB call_len_seq (by rfl) T.b_len PySem.boot_len (pa_cons (pv 0) pa_nil)) (nomark _)) (pss_one (ps_ret (pe_ix ix_list (pv 0) (pv 1) (fun _ _ => rfl)))) pss_nil)
    (pss_one (ps_ret pe_int)))
def N_whole : List Str := ["_law_told"]
theorem sc_whole : FnScope N_whole ["_law_told"] (defScope (top 4)) := ⟨rfl, rfl, rfl, by decide +kernel, rfl, by decide +kernel, by decide +kernel⟩
theorem ok_whole (T : Txt K mg) : FnOk P w K mg base CX0 1 (He.ga K "_law_whole") (fdOf K ("_law_whole", none)) ["_law_told"] (sp_whole K) := by
  refine T.F_whole.ok sc_whole (fun vs H Q E h => len_whole h) (fun cdv A outer s H vs Q E hr h => ⟨t_whole K, PSs.nox ?_, pure_whole  h⟩)
  have hu := hu_of hr
  have hu65 := hu65_of hr
  have hu66 := hu66_of hr
  exact (pss_one (ps_ret (pe_and (pe_callB call_isi (by rfl) T.b_isinstance (by decide +kernel) (pa_cons (pv 0) (pa_cons (pe_bltn (v := .ty "int") (by rfl) T.b_int (by decide +kernel) rfl) pa_nil))) (pe_one (pe_not (pe_callB call_isi (by rfl) T.b_isinstance (by decide +kernel) (pa_cons (pv 0) (pa_cons (pe_bltn (v := .ty "bool") (by rfl) T.b_bool (by decide +kernel) rfl) pa_nil))))))))
def N_alike : List Str := ["_law_told", "_law_due_here", "_law_k"]
theorem sc_alike : FnScope N_alike ["_law_told", "_law_due_here"] (defScope (top 5)) := ⟨rfl, rfl, rfl, by decide +kernel, rfl, by decide +kernel, by decide +kernel⟩
theorem okn_alike (T : Txt K mg) : ∀ n : Nat, FnOk P w K mg base CX0 (n + 1) (He.ga K "_law_alike") (fdOf K ("_law_alike", none)) ["_law_told", "_law_due_here"] (sp_alike K n)
  | 0 => fn_never (fun h => h)
  | n + 1 => by
    have G_alike := okn_alike T n
    refine T.F_alike.ok sc_alike (fun vs H Q E h => len_alike h) (fun cdv A outer s H vs Q E hr h => ⟨t_alike K (sp_alike K n), PSs.nox ?_, pure_alike h⟩)
    have hu := hu_of hr
    exact (pss_cons (ps_if (pt_val (pe_callB call_isi (by rfl) T.b_isinstance (by decide +kernel) (pa_cons (pv 1) (pa_cons (pe_bltn (v := .ty "tuple") (by rfl) T.b_tuple (by decide +kernel) rfl) pa_nil)))) (pss_cons (ps_if (PW.pt (pw_or (pt_not (pt_val (pe_callB call_isi (by rfl) T.b_isinstance (by decide +kernel) (pa_cons (pv 0) (pa_cons (pe_bltn (v := .ty "tuple") (by rfl) T.b_tuple (by decide +kernel) rfl) pa_nil))))) (pw_or1 (pt_cmpR op_ne (pe_callB call_len_seq (by rfl) T.b_len PySem.boot_len (pa_cons (pv 0) pa_nil)) (pe_callB call_len_seq (by rfl) T.b_len PySem.boot_len (pa_cons (pv 1) pa_nil)) (nomark _))))) (pss_one (ps_ret pe_bl)) pss_nil)
    (pss_one (ps_ret (pe_cmpR (op_eqD hr.units) (pe_lc (own := [("_law_k", 2)]) (g := (gName 2)) (tt := (tNot (tB (tCall (sp_alike K n) [] E0 (tCons (tOp (rIxT K) (tVar 0) (tVar 2)) (tCons (tOp (rIxT K) (tVar 1) (tVar 2)) tNil)))))) rfl sc_alike.nd (pi_range1 (by rfl) T.b_range (pa_cons (pe_callB call_len_seq (by rfl) T.b_len PySem.boot_len (pa_cons (pv 1) pa_nil)) pa_nil)) (blkOk_by (own := [("_law_k", 2)]) (N := N_alike) (sc := (defScope (top 5))) (by decide +kernel)) (fun _ _ _ _ _ => (pg_name (i := 2) sc_alike.nd rfl (by first | exact Or.inl rfl | exact Or.inr rfl))) (fun _ _ _ _ _ => pts_one (pt_not (pt_val (pe_call G_alike hr rfl T.g_alike T.k_alike T.b_alike .nil pass0 (pa_cons (pe_ix ix_tup (pv 0) (pv 2) (fun _ _ => rfl)) (pa_cons (pe_ix ix_tup (pv 1) (pv 2) (fun _ _ => rfl)) pa_nil)))))) (fun _ _ _ _ _ => (pv 2))) (pe_lst pa_nil) (nomark _))))) pss_nil)
    (pss_one (ps_ret (pe_and (pe_cmpR op_eq (pe_callB call_isi (by rfl) T.b_isinstance (by decide +kernel) (pa_cons (pv 0) (pa_cons (pe_bltn (v := .ty "bool") (by rfl) T.b_bool (by decide +kernel) rfl) pa_nil))) (pe_callB call_isi (by rfl) T.b_isinstance (by decide +kernel) (pa_cons (pv 1) (pa_cons (pe_bltn (v := .ty "bool") (by rfl) T.b_bool (by decide +kernel) rfl) pa_nil))) (nomark _)) (pe_one (pe_cmpR (op_eqD hr.units) (pv 0) (pv 1) (nomark _)))))))
theorem ok_alike (T : Txt K mg) : FnOk P w K mg base CX0 4 (He.ga K "_law_alike") (fdOf K ("_law_alike", none)) ["_law_told", "_law_due_here"] (sp_alike3 K) := okn_alike T 3
def N_listed : List Str := ["_law_told", "_law_due_here"]
theorem sc_listed : FnScope N_listed ["_law_told", "_law_due_here"] (defScope (top 6)) := ⟨rfl, rfl, rfl, by decide +kernel, rfl, by decide +kernel, by decide +kernel⟩
theorem ok_listed (T : Txt K mg) : FnOk P w K mg base CX0 5 (He.ga K "_law_listed") (fdOf K ("_law_listed", none)) ["_law_told", "_law_due_here"] (sp_listed K) := by
  have G_alike := ok_alike (P := P) (w := w) (base := base) T
  refine T.F_listed.ok sc_listed (fun vs H Q E h => len_listed h) (fun cdv A outer s H vs Q E hr h => ⟨t_listed K, PSs.nox ?_, pure_listed  h⟩)
  have hu := hu_of hr
  have hu65 := hu65_of hr
  have hu66 := hu66_of hr
  exact (pss_one (ps_ret (pe_and (pe_callB call_isi (by rfl) T.b_isinstance (by decide +kernel) (pa_cons (pv 0) (pa_cons (pe_bltn (v := .ty "list") (by rfl) T.b_list (by decide +kernel) rfl) pa_nil))) (pe_one (pe_call G_alike (hr.mono (by decide)) rfl T.g_alike T.k_alike T.b_alike .nil pass0 (pa_cons (pe_callTy call_tuple_of (by rfl) T.b_tuple (by decide +kernel) (pa_cons (pv 0) pa_nil)) (pa_cons (pe_callTy call_tuple_of (by rfl) T.b_tuple (by decide +kernel) (pa_cons (pv 1) pa_nil)) pa_nil)))))))
def N_due : List Str := ["_law_arrows", "_law_found", "_law_one", "_law_middle", "_law_first", "_law_other"]
theorem sc_due : FnScope N_due ["_law_arrows"] (defScope (top 7)) := ⟨rfl, rfl, rfl, by decide +kernel, rfl, by decide +kernel, by decide +kernel⟩
theorem ok_due (T : Txt K mg) : FnOk P w K mg base CX0 1 (He.ga K "_law_due") (fdOf K ("_law_due", none)) ["_law_arrows"] (sp_due_k07 K) := by
  refine T.F_due.ok sc_due (fun vs H Q E h => len_due_k07 h) (fun cdv A outer s H vs Q E hr h => ⟨t_due_k07 K, PSs.nox ?_, pure_due_k07  h⟩)
  have hu := hu_of hr
  have hu65 := hu65_of hr
  have hu66 := hu66_of hr
  exact (pss_cons (ps_set (i := 1) sc_due.nd rfl (by first | exact Or.inl rfl | exact Or.inr rfl) (pe_lst pa_nil))
    (pss_cons (ps_for PassesOwn.never rfl (pi_list (pv 0)) (pg_tup (by rfl) (pgs_cons (pg_name (i := 2) sc_due.nd rfl (by first | exact Or.inl rfl | exact Or.inr rfl)) (pgs_cons (pg_name (i := 3) sc_due.nd rfl (by first | exact Or.inl rfl | exact Or.inr rfl)) pgs_nil))) (pss_one (ps_for PassesOwn.never rfl (pi_list (pv 0)) (pg_tup (by rfl) (pgs_cons (pg_name (i := 4) sc_due.nd rfl (by first | exact Or.inl rfl | exact Or.inr rfl)) (pgs_cons (pg_name (i := 5) sc_due.nd rfl (by first | exact Or.inl rfl | exact Or.inr rfl)) pgs_nil))) (pss_one (ps_if (PW.pt (pw_and (pt_cmpR op_eq (pv 4) (pv 3) (nomark _)) (pw_and (pt_cmpR (op_notInD hu65) (pe_tup (pa_cons (pv 2) (pa_cons (pv 5) pa_nil))) (pv 0) (by rfl)) (pw_and1 (pt_cmpR (op_notInD hu65) (pe_tup (pa_cons (pv 2) (pa_cons (pv 3) (pa_cons (pv 5) pa_nil)))) (pv 1) (by rfl)))))) (pss_one (ps_expr (pe_bm PySem.F.plainAttrs_list PySem.F.slot_list_append PySem.F.type_list_append mt_append (pv 1) (pa_cons (pe_tup (pa_cons (pv 2) (pa_cons (pv 3) (pa_cons (pv 5) pa_nil)))) pa_nil)))) pss_nil)))))
    (pss_one (ps_ret (pe_callB (cr_sortD hu66) (by rfl) T.b_sorted (by decide +kernel) (pa_cons (pv 1) pa_nil))))))
def N_law : List Str := ["_law_script", "_law_many", "_law_far", "_law_low", "_law_arrows", "_law_k", "_law_cell", "_law_handed", "_law_due_here", "_law_told", "_law_held", "_law_other"]
theorem sc_law : FnScope N_law ["_law_script"] (defScope (top 8)) := ⟨rfl, rfl, rfl, by decide +kernel, rfl, by decide +kernel, by decide +kernel⟩
theorem ok_law (T : Txt K mg) : FnOk P w K mg base CX0 6 (He.ga K "law") (fdOf K ("law", none)) ["_law_script"] (sp_law_k07 K) := by
  have G_cell_at := ok_cell_at (P := P) (w := w) (base := base) T
  have G_due := ok_due (P := P) (w := w) (base := base) T
  have G_gaps := ok_gaps (P := P) (w := w) (base := base) T
  have G_listed := ok_listed (P := P) (w := w) (base := base) T
  refine T.F_law.ok sc_law (fun vs H Q E h => len_law_k07 h) (fun cdv A outer s H vs Q E hr h => ⟨t_law_k07 K, PSs.nox ?_, pure_law_k07  h⟩)
  have hu := hu_of hr
  have hu65 := hu65_of hr
  have hu66 := hu66_of hr
  exact (pss_cons (ps_set (i := 1) sc_law.nd rfl (by first | exact Or.inl rfl | exact Or.inr rfl) (pe_op op_mod (pe_call G_cell_at (hr.mono (by decide)) rfl T.g_cell_at T.k_cell_at T.b_cell_at .nil pass0 (pa_cons (pv 0) (pa_cons pe_int pa_nil))) pe_int))
    (pss_cons (ps_set (i := 2) sc_law.nd rfl (by first | exact Or.inl rfl | exact Or.inr rfl) pe_int)
    (Evl.pss_cut (ps_if (pt_cmpR op_eq (pe_op op_mod (pe_call G_cell_at (hr.mono (by decide)) rfl T.g_cell_at T.k_cell_at T.b_cell_at .nil pass0 (pa_cons (pv 0) (pa_cons pe_int pa_nil))) pe_int) pe_int (nomark _)) (pss_one (ps_set (i := 2) sc_law.nd rfl (by first | exact Or.inl rfl | exact Or.inr rfl) (pe_op op_add pe_int (pe_op op_modN (pe_op op_fdiv (pe_call G_cell_at (hr.mono (by decide)) rfl T.g_cell_at T.k_cell_at T.b_cell_at .nil pass0 (pa_cons (pv 0) (pa_cons pe_int pa_nil))) pe_int) (pe_op op_pow pe_int pe_int))))) pss_nil)
    (pss_cons (ps_set (i := 3) sc_law.nd rfl (by first | exact Or.inl rfl | exact Or.inr rfl) (pe_op op_mul (pe_op op_mod (pe_call G_cell_at (hr.mono (by decide)) rfl T.g_cell_at T.k_cell_at T.b_cell_at .nil pass0 (pa_cons (pv 0) (pa_cons pe_int pa_nil))) pe_int) pe_int))
    (pss_cons (ps_set (i := 4) sc_law.nd rfl (by first | exact Or.inl rfl | exact Or.inr rfl) (pe_lst pa_nil))
    (pss_cons (ps_for PassesOwn.never rfl (pi_range1 (by rfl) T.b_range (pa_cons (pv 1) pa_nil)) (pg_name (i := 5) sc_law.nd rfl (by first | exact Or.inl rfl | exact Or.inr rfl)) (pss_cons (ps_set (i := 6) sc_law.nd rfl (by first | exact Or.inl rfl | exact Or.inr rfl) (pe_op op_mod (pe_op op_mul (pe_op op_add (pe_call G_cell_at (hr.mono (by decide)) rfl T.g_cell_at T.k_cell_at T.b_cell_at .nil pass0 (pa_cons (pv 0) (pa_cons (pe_op op_add pe_int (pv 5)) pa_nil))) (pe_op op_mul pe_int (pv 5))) pe_int) pe_int))
    (pss_one (ps_expr (pe_bm PySem.F.plainAttrs_list PySem.F.slot_list_append PySem.F.type_list_append mt_append (pv 4) (pa_cons (pe_tup (pa_cons (pe_op op_mul (pe_op op_sub (pe_op op_mod (pv 6) pe_int) (pv 3)) (pv 2)) (pa_cons (pe_op op_mul (pe_op op_sub (pe_op op_mod (pe_op op_fdiv (pv 6) pe_int) pe_int) (pv 3)) (pv 2)) pa_nil))) pa_nil))))))
    (pss_cons (ps_set (i := 7) sc_law.nd rfl (by first | exact Or.inl rfl | exact Or.inr rfl) (pe_callTy call_list_of (by rfl) T.b_list (by decide +kernel) (pa_cons (pv 4) pa_nil)))
    (pss_cons (ps_set (i := 8) sc_law.nd rfl (by first | exact Or.inl rfl | exact Or.inr rfl) (pe_call G_due (hr.mono (by decide)) rfl T.g_due T.k_due T.b_due .nil pass0 (pa_cons (pv 4) pa_nil)))
    (pss_cons (ps_set (i := 9) sc_law.nd rfl (by first | exact Or.inl rfl | exact Or.inr rfl) (pe_call G_gaps (hr.mono (by decide)) rfl T.g_gaps T.k_gaps T.b_gaps .nil pass0 (pa_cons (pv 7) pa_nil)))
    (pss_cons (ps_if (PW.pt (pw_or (pt_not (pt_val (pe_call G_listed (hr.mono (by decide)) rfl T.g_listed T.k_listed T.b_listed .nil pass0 (pa_cons (pv 9) (pa_cons (pv 8) pa_nil))))) (pw_or1 (pt_cmpR (op_neD hr.units) (pv 7) (pv 4) (nomark _))))) (pss_one (ps_ret pe_bl)) pss_nil)
    (pss_cons (ps_set (i := 10) sc_law.nd rfl (by first | exact Or.inl rfl | exact Or.inr rfl) (pe_callTy call_list_of (by rfl) T.b_list (by decide +kernel) (pa_cons (pv 9) pa_nil)))
    (pss_cons (ps_set (i := 11) sc_law.nd rfl (by first | exact Or.inl rfl | exact Or.inr rfl) (pe_op op_cat (pe_slstep2 (pv 4)) (pe_lst (pa_cons (pe_tup (pa_cons pe_int (pa_cons pe_int pa_nil))) (pa_cons (pe_tup (pa_cons pe_int (pa_cons pe_int pa_nil))) pa_nil)))))
    (pss_cons (ps_if (PW.pt (pw_or (pt_not (pt_val (pe_call G_listed (hr.mono (by decide)) rfl T.g_listed T.k_listed T.b_listed .nil pass0 (pa_cons (pe_call G_gaps (hr.mono (by decide)) rfl T.g_gaps T.k_gaps T.b_gaps .nil pass0 (pa_cons (pe_callTy call_list_of (by rfl) T.b_list (by decide +kernel) (pa_cons (pv 11) pa_nil)) pa_nil)) (pa_cons (pe_call G_due (hr.mono (by decide)) rfl T.g_due T.k_due T.b_due .nil pass0 (pa_cons (pv 11) pa_nil)) pa_nil))))) (pw_or1 (pt_cmpR (op_neD hr.units) (pv 9) (pv 10) (nomark _))))) (pss_one (ps_ret pe_bl)) pss_nil)
    (pss_cons (ps_expr (pe_bm PySem.F.plainAttrs_list PySem.F.slot_list_append PySem.F.type_list_append mt_append (pv 9) (pa_cons (pe_tup (pa_cons pe_int (pa_cons pe_int (pa_cons pe_int pa_nil)))) pa_nil)))
    (pss_one (ps_ret (pe_and (pe_call G_listed (hr.mono (by decide)) rfl T.g_listed T.k_listed T.b_listed .nil pass0 (pa_cons (pe_call G_gaps (hr.mono (by decide)) rfl T.g_gaps T.k_gaps T.b_gaps .nil pass0 (pa_cons (pv 7) pa_nil)) (pa_cons (pv 8) pa_nil))) (pe_one (pe_cmpR (op_eqD hr.units) (pv 7) (pv 4) (nomark _))))))))))))))))))))
end
theorem facts {P : Program} {w : World} {K : PySem.W.Frag} {h : Heap} {mg : Str → Option Value} {f : Addr} (X : K.In h) (G : h.Ns mainGlobals mg) (hfa : mg ("law" : Str) = some (.ref f)) (c : He.SaysD fal fnl K) (ce : ex K = true) :
    ∃ fd : FuncData, (∀ (s : Shared) (v : Value), BindsTo s fd ⟨[v], []⟩ [("_law_script", v)]) ∧ ∀ base : Heap, K.In base → base.Ns mainGlobals mg → FnOk P w K mg base CX0 6 f fd ["_law_script"] (sp_law_k07 K) := by
  have T : Txt K mg := ⟨⟨h, X, G⟩, c, ce⟩
  have e := hfa.symm.trans T.g_law
  cases e
  have b := FunD.bindsA (ps := ["_law_script"]) T.F_law fun _ _ _ _ _ _ us hl => match us, hl with | [_], _ => rfl
  exact ⟨_, fun s v => b s [v] rfl, fun base _ _ => ok_law T⟩
end Lk07
open PySem PySem.W PySem.Calls PyProof.Rows
theorem PySem.Challenge.cw_arrowties_k07_gaps_holds : PySem.Challenge.rw_arrowties_k07_gaps.Holds := by
  w_on; o_law
  refine HandSHeadRun.head_any (r := OpenLaw.row PySem.Challenge.rw_arrowties_k07_gaps) (q := view (OpenLaw.row PySem.Challenge.rw_arrowties_k07_gaps).prog [8]) (H := Lk07.hk) (ob := Lk07.ob) (M := 6000) (loose := Lk07.loose) (d := HandSHeadRun.topDef (OpenLaw.row PySem.Challenge.rw_arrowties_k07_gaps).prog 8) (kwd := []) Lk07.ob_eq
    (by kernel_rfl) (fun s => by kernel_rfl) Lk07.run (by kernel_rfl) (by kernel_rfl) (by kernel_rfl) (by rfl) (by first | assumption | decide +kernel) (by decide +kernel) ⟨rfl, rfl, rfl, rfl, rfl, by decide +kernel⟩ ?hw ?hc
  case hw => w_witness2
  case hc =>
    refine L2.walk_ofE (l := PySem.Challenge.rw_arrowties_k07_gaps) (n := 63) (k := 6) (x := "_law_script") (CX := L2.CX0) rfl (by decide) (by kernel_rfl) ⟨rfl, by decide, by decide⟩ ?F (fun _ _ _ _ z => z)
    intro w mg fa h Y G hmg0
    obtain ⟨K, KX, c⟩ := Y
    have hmg : mg ("law" : PySem.Str) = some (.ref fa) := by
      have e : (HandSHeadRun.topDef (OpenLaw.row PySem.Challenge.rw_arrowties_k07_gaps).prog 8).name = ("law" : PySem.Str) := by kernel_rfl
      rw [← e]
      exact hmg0
    obtain ⟨fd, hb, hF⟩ := Lk07.facts (P := (PySem.Challenge.rw_arrowties_k07_gaps).prog) (w := w) KX G hmg c.t.d c.more
    exact ⟨K, fd, Ar.sp_law_k07 K, KX, hb, fun H a ns hl _ hS => ⟨a, ns, rfl, hS, hl, fun _ => rfl⟩, hF⟩

